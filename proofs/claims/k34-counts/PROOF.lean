import PyProof.Rows.All
import Wide.All
import OpenK.AllK
import Wide.FinOn
import KE.KStateDown
import HandS.ForMost
import HandS.IsInst
import HandS.TupAny
import HandS.Flow
import HandS.Wide
import HandS.Walk
import HandS.Defaults
import HandS.HeadEnd
import HandS.HeadHook1
import HandS.HeadHook2
import PyProof.Draws
import KE.GoesMore
import HandS.Head0
import HandS.Head1
import HandS.Head2
import PySem.Challenge.RW_tightwood_k34_counts
set_option Elab.async false
set_option linter.all false
set_option maxRecDepth 100000
set_option maxHeartbeats 0
/-! Depths, elders, rows: plain mathematics, no program in sight. -/
namespace Tw
/-- the greatest j below k with d j + 1 = v, or -1 -/
def pa (d : Nat → Nat) (v : Nat) : Nat → Int
  | 0 => -1
  | j + 1 => if d j + 1 = v then (j : Int) else pa d v j
def hh (d : Nat → Nat) : Nat → Nat
  | 0 => 0
  | k + 1 => d k + 1
def Wd (d : Nat → Nat) (n : Nat) : Prop := ∀ k, k < n → d k ≤ hh d k
def el (d : Nat → Nat) (k : Nat) : Int := pa d (d k) k
def els (d : Nat → Nat) (n : Nat) : List Int := (List.range n).map (el d)
theorem Wd.mono {d : Nat → Nat} {n m : Nat} (h : Wd d n) (hm : m ≤ n) : Wd d m := fun k hk => h k (by omega)
theorem els_len {d : Nat → Nat} {n : Nat} : (els d n).length = n := by simp [els]
theorem els_get {d : Nat → Nat} {n k : Nat} (h : k < n) : (els d n)[k]? = some (el d k) := by simp [els, h]
theorem els_succ {d : Nat → Nat} {n : Nat} : els d (n + 1) = els d n ++ [el d n] := by simp [els, List.range_succ]
theorem pa_zero {d : Nat → Nat} : ∀ k, pa d 0 k = -1
  | 0 => rfl
  | k + 1 => by
    unfold pa
    rw [if_neg (by omega)]
    exact pa_zero k
theorem pa_congr {d e : Nat → Nat} {v : Nat} : ∀ k, (∀ j, j < k → d j = e j) → pa d v k = pa e v k
  | 0, _ => rfl
  | k + 1, h => by
    unfold pa
    rw [h k (by omega), pa_congr k fun j hj => h j (by omega)]
theorem hh_congr {d e : Nat → Nat} {k : Nat} (h : ∀ j, j < k → d j = e j) : hh d k = hh e k := by
  cases k with
  | zero => rfl
  | succ k =>
    show d k + 1 = e k + 1
    rw [h k (by omega)]
/-- what pa tells -/
theorem pa_spec {d : Nat → Nat} {v : Nat} : ∀ k, (pa d v k = -1 ∧ ∀ j, j < k → d j + 1 ≠ v) ∨ ∃ j, j < k ∧ pa d v k = (j : Int) ∧ d j + 1 = v ∧ ∀ i, j < i → i < k → d i + 1 ≠ v
  | 0 => .inl ⟨rfl, fun j hj => by omega⟩
  | k + 1 => by
    unfold pa
    by_cases e : d k + 1 = v
    · rw [if_pos e]
      exact .inr ⟨k, by omega, rfl, e, fun i h1 h2 => by omega⟩
    · rw [if_neg e]
      rcases pa_spec (d := d) (v := v) k with ⟨h1, h2⟩ | ⟨j, h1, h2, h3, h4⟩
      · refine .inl ⟨h1, fun j hj => ?_⟩
        by_cases q : j = k
        · rw [q]; exact e
        · exact h2 j (by omega)
      · refine .inr ⟨j, by omega, h2, h3, fun i h5 h6 => ?_⟩
        by_cases q : i = k
        · rw [q]; exact e
        · exact h4 i h5 (by omega)
theorem pa_ge {d : Nat → Nat} {v k : Nat} : -1 ≤ pa d v k := by
  rcases pa_spec (d := d) (v := v) k with ⟨h1, _⟩ | ⟨j, _, h2, _⟩ <;> omega
theorem pa_lt {d : Nat → Nat} {v k : Nat} : pa d v k < (k : Int) := by
  rcases pa_spec (d := d) (v := v) k with ⟨h1, _⟩ | ⟨j, _, h2, _⟩ <;> omega
theorem pa_eq {d : Nat → Nat} {v k j : Nat} (h1 : j < k) (h2 : d j + 1 = v) (h3 : ∀ i, j < i → i < k → d i + 1 ≠ v) : pa d v k = (j : Int) := by
  rcases pa_spec (d := d) (v := v) k with ⟨_, h5⟩ | ⟨i, h4, h5, h6, h7⟩
  · exact absurd h2 (h5 j h1)
  · rw [h5]
    by_cases a : i < j
    · exact absurd h2 (h7 j a h1)
    · by_cases b : j < i
      · exact absurd h6 (h3 i b h4)
      · omega
/-- going up from a to b every depth between is met: if d a ≤ v < hh b, some j from a on below b has d j = v -/
theorem meets {d : Nat → Nat} {n v : Nat} (w : Wd d n) {a : Nat} : ∀ b, a < b → b ≤ n → d a ≤ v → v < hh d b → ∃ j, a ≤ j ∧ j < b ∧ d j = v
  | 0, h, _, _, _ => by omega
  | b + 1, h, hn, ha, hv => by
    have hv2 : v < d b + 1 := hv
    by_cases q : d b = v
    · exact ⟨b, by omega, by omega, q⟩
    · by_cases e : a = b
      · subst e; omega
      · have := w b (by omega)
        obtain ⟨j, h1, h2, h3⟩ := meets w b (by omega) (by omega) ha (by omega)
        exact ⟨j, h1, by omega, h3⟩
/-- within what is open each v from 1 on has its knot -/
theorem pa_some {d : Nat → Nat} {n v k : Nat} (w : Wd d n) (hk : k ≤ n) (h1 : 0 < v) (h2 : v ≤ hh d k) : ∃ j, j < k ∧ pa d v k = (j : Int) ∧ d j + 1 = v ∧ ∀ i, j < i → i < k → d i + 1 ≠ v := by
  rcases pa_spec (d := d) (v := v) k with ⟨_, h4⟩ | h
  · exfalso
    cases k with
    | zero => have : hh d 0 = 0 := rfl; omega
    | succ k =>
      have e0 : d 0 ≤ 0 := w 0 (by omega)
      obtain ⟨j, _, h6, h7⟩ := meets (v := v - 1) w (a := 0) (k + 1) (by omega) hk (by omega) (by omega)
      exact h4 j h6 (by omega)
  · exact h
theorem pa_inj {d : Nat → Nat} {n v u k : Nat} (w : Wd d n) (hk : k ≤ n) (hv : v ≤ hh d k) (hu : u ≤ hh d k) (e : pa d v k = pa d u k) : v = u := by
  by_cases a : v = 0
  · by_cases b : u = 0
    · omega
    · obtain ⟨j, _, h, _⟩ := pa_some w hk (by omega) hu
      rw [a, pa_zero, h] at e
      omega
  · obtain ⟨j, _, h, h2, _⟩ := pa_some w hk (by omega) hv
    by_cases b : u = 0
    · rw [b, pa_zero, h] at e
      omega
    · obtain ⟨i, _, h', h2', _⟩ := pa_some w hk (by omega) hu
      rw [h, h'] at e
      have : j = i := by omega
      subst this
      omega
/-- i is above j -/
def Ab (d : Nat → Nat) (i j : Nat) : Prop := i < j ∧ ∀ m, i < m → m ≤ j → d i < d m
theorem ab_of {d : Nat → Nat} {n i j : Nat} (w : Wd d n) (hj : j < n) (h1 : i < j) (h2 : d i < d j) (h3 : ∀ m, i < m → m < j → d m ≠ d i) : Ab d i j := by
  refine ⟨h1, fun m hm hmj => ?_⟩
  by_cases q : m = j
  · rw [q]; exact h2
  · have := h3 m hm (by omega)
    by_cases lt : d m < d i
    · exfalso
      have hw := w j hj
      obtain ⟨l, a, b, c⟩ := meets (v := d i) w (a := m) j (by omega) (by omega) (by omega) (by omega)
      exact h3 l (by omega) b c
    · omega
/-- the elder of the elder's: what stands in the way -/
theorem pa_pa {d : Nat → Nat} {n v k j : Nat} (w : Wd d n) (hk : k ≤ n) (hv : v + 1 ≤ hh d k) (h : pa d (v + 1) k = (j : Int)) : d j = v ∧ j < k ∧ el d j = pa d v k := by
  obtain ⟨i, h1, h2, h3, h4⟩ := pa_some w hk (by omega) hv
  rw [h2] at h
  have : i = j := by omega
  subst this
  have dj : d i = v := by omega
  refine ⟨dj, h1, ?_⟩
  unfold el
  rw [dj]
  by_cases v0 : v = 0
  · rw [v0, pa_zero, pa_zero]
  · have hw := w i (by omega)
    obtain ⟨m, a1, a2, a3, a4⟩ := pa_some (v := v) (k := i) w (by omega) (by omega) (by omega)
    rw [a2]
    refine (pa_eq (by omega) a3 fun l hl hlk => ?_).symm
    by_cases q : l < i
    · exact a4 l hl q
    · by_cases q2 : l = i
      · rw [q2]; omega
      · intro e
        have hx : d l < v := by omega
        -- going up from l to k one meets v behind i
        obtain ⟨z, b1, b2, b3⟩ := meets (v := v) w (a := l) k (by omega) hk (by omega) (by omega)
        exact h4 z (by omega) b2 (by omega)
theorem el_neg {d : Nat → Nat} {n k : Nat} (w : Wd d n) (hk : k < n) : el d k = -1 ↔ d k = 0 := by
  constructor
  · intro h
    by_cases q : d k = 0
    · exact q
    · obtain ⟨j, _, e, _⟩ := pa_some w (by omega) (by omega) (w k hk)
      have : el d k = (j : Int) := e
      omega
  · intro h
    unfold el
    rw [h, pa_zero]
theorem el_ge {d : Nat → Nat} {k : Nat} : -1 ≤ el d k := pa_ge
theorem el_lt {d : Nat → Nat} {k : Nat} : el d k < (k : Int) := pa_lt
theorem el_iff {d : Nat → Nat} {n i j : Nat} (w : Wd d n) (hj : j < n) : el d j = (i : Int) ↔ (Ab d i j ∧ d j = d i + 1) := by
  constructor
  · intro h
    rcases pa_spec (d := d) (v := d j) j with ⟨h1, _⟩ | ⟨m, h1, h2, h3, h4⟩
    · unfold el at h; omega
    · have : m = i := by unfold el at h; omega
      subst this
      exact ⟨ab_of w hj h1 (by omega) fun l a b => by have := h4 l a b; omega, by omega⟩
  · rintro ⟨⟨h1, h2⟩, h3⟩
    exact pa_eq h1 (by omega) fun l a b => by have := h2 l a (by omega); omega
theorem ab_iff {d : Nat → Nat} {n i j : Nat} (w : Wd d n) (hj : j < n) : Ab d i j ↔ (d i + 1 ≤ d j ∧ pa d (d i + 1) j = (i : Int)) := by
  constructor
  · rintro ⟨h1, h2⟩
    refine ⟨h2 j h1 (Nat.le_refl _), pa_eq h1 rfl fun l a b => ?_⟩
    have := h2 l a (by omega)
    omega
  · rintro ⟨h1, h2⟩
    rcases pa_spec (d := d) (v := d i + 1) j with ⟨h3, _⟩ | ⟨m, h3, h4, h5, h6⟩
    · omega
    · have : m = i := by omega
      subst this
      exact ab_of w hj h3 (by omega) fun l a b => by have := h6 l a b; omega
/-- where what is beneath k ends: the first e above k, to n, with d e ≤ d k -/
theorem end_of (d : Nat → Nat) (k : Nat) : ∀ n, k < n → ∃ e, k < e ∧ e ≤ n ∧ (∀ j, k < j → j < e → d k < d j) ∧ (e < n → d e ≤ d k)
  | 0, h => by omega
  | n + 1, h => by
    by_cases q : k = n
    · exact ⟨n + 1, by omega, by omega, fun j a b => by omega, fun a => by omega⟩
    · obtain ⟨e, h1, h2, h3, h4⟩ := end_of d k n (by omega)
      by_cases q2 : e < n
      · exact ⟨e, h1, by omega, h3, fun _ => h4 q2⟩
      · have : e = n := by omega
        subst this
        by_cases q3 : d e ≤ d k
        · exact ⟨e, h1, by omega, h3, fun _ => q3⟩
        · refine ⟨e + 1, by omega, by omega, fun j a b => ?_, fun a => by omega⟩
          by_cases q4 : j = e
          · rw [q4]; omega
          · exact h3 j a (by omega)
theorem ab_end {d : Nat → Nat} {n k e j : Nat} (hj : j < n) (h1 : k < e) (h3 : ∀ j, k < j → j < e → d k < d j) (h4 : e < n → d e ≤ d k) : Ab d k j ↔ (k < j ∧ j < e) := by
  constructor
  · rintro ⟨a, b⟩
    refine ⟨a, ?_⟩
    by_cases q : j < e
    · exact q
    · have := b e h1 (by omega)
      have := h4 (by omega)
      omega
  · rintro ⟨a, b⟩
    exact ⟨a, fun m x y => h3 m x (by omega)⟩
end Tw
namespace Tw
/-- the row's signs ahead of knot k's openings -/
def rowk (d : Nat → Nat) : Nat → List Bool
  | 0 => []
  | k + 1 => rowk d k ++ List.replicate (hh d k - d k) false ++ [true]
def row (d : Nat → Nat) (n : Nat) : List Bool := rowk d n ++ List.replicate (hh d n) false
def op (bs : List Bool) (p : Nat) : Nat := (bs.take p).count true
def ht (bs : List Bool) (p : Nat) : Int := 2 * (op bs p : Int) - (p : Int)
theorem rowk_len {d : Nat → Nat} {n : Nat} (w : Wd d n) : ∀ k, k ≤ n → (rowk d k).length + hh d k = 2 * k
  | 0, _ => rfl
  | k + 1, h => by
    have := rowk_len w k (by omega)
    have := w k (by omega)
    show (rowk d k ++ List.replicate (hh d k - d k) false ++ [true]).length + (d k + 1) = 2 * (k + 1)
    simp only [List.length_append, List.length_replicate, List.length_cons, List.length_nil]
    omega
theorem rowk_ones {d : Nat → Nat} : ∀ k, (rowk d k).count true = k
  | 0 => rfl
  | k + 1 => by
    show (rowk d k ++ List.replicate (hh d k - d k) false ++ [true]).count true = k + 1
    rw [List.count_append, List.count_append, rowk_ones k, List.count_replicate]
    simp
theorem row_len {d : Nat → Nat} {n : Nat} (w : Wd d n) : (row d n).length = 2 * n := by
  have := rowk_len w n (Nat.le_refl _)
  unfold row
  simp only [List.length_append, List.length_replicate]
  omega
theorem rowk_congr {d e : Nat → Nat} : ∀ k, (∀ j, j < k → d j = e j) → rowk d k = rowk e k
  | 0, _ => rfl
  | k + 1, h => by
    show rowk d k ++ List.replicate (hh d k - d k) false ++ [true] = rowk e k ++ List.replicate (hh e k - e k) false ++ [true]
    rw [rowk_congr k fun j hj => h j (by omega), hh_congr fun j hj => h j (by omega), h k (by omega)]
/-- the row begins with what is ahead of m, and behind it the closings ahead of m's opening -/
theorem row_pre {d : Nat → Nat} {n : Nat} : ∀ m, m ≤ n → ∃ r, row d n = rowk d m ++ r ∧ (m < n → ∃ r', r = List.replicate (hh d m - d m) false ++ true :: r') ∧ (m = n → r = List.replicate (hh d n) false) := by
  suffices ∀ i m, m + i = n → ∃ r, row d n = rowk d m ++ r ∧ (m < n → ∃ r', r = List.replicate (hh d m - d m) false ++ true :: r') ∧ (m = n → r = List.replicate (hh d n) false) from
    fun m h => this (n - m) m (by omega)
  intro i
  induction i with
  | zero =>
    intro m h
    have : m = n := by omega
    subst this
    exact ⟨_, rfl, fun q => by omega, fun _ => rfl⟩
  | succ i ih =>
    intro m h
    obtain ⟨r, e, _, _⟩ := ih (m + 1) (by omega)
    refine ⟨List.replicate (hh d m - d m) false ++ true :: r, ?_, fun _ => ⟨r, rfl⟩, fun q => by omega⟩
    rw [e]
    show (rowk d m ++ List.replicate (hh d m - d m) false ++ [true]) ++ r = _
    simp
/-- the first place behind m's forerunners -/
def L (d : Nat → Nat) (m : Nat) : Nat := 2 * m - hh d m
theorem L_len {d : Nat → Nat} {n m : Nat} (w : Wd d n) (h : m ≤ n) : (rowk d m).length = L d m ∧ hh d m ≤ 2 * m := by
  have := rowk_len w m h
  unfold L
  omega
/-- the closings ahead of m's opening (behind the last opening: to the end) -/
def cl (d : Nat → Nat) (n m : Nat) : Nat := if m < n then hh d m - d m else hh d n
theorem row_zero {d : Nat → Nat} {n m i : Nat} (w : Wd d n) (h : m ≤ n) (hi : i < cl d n m) : (row d n)[L d m + i]? = some false := by
  obtain ⟨r, e, h1, h2⟩ := row_pre (d := d) m h
  rw [e, ← (L_len w h).1, List.getElem?_append_right (by omega), Nat.add_sub_cancel_left]
  unfold cl at hi
  by_cases q : m < n
  · obtain ⟨r', e'⟩ := h1 q
    rw [if_pos q] at hi
    rw [e', List.getElem?_append_left (by simpa using hi), List.getElem?_replicate, if_pos hi]
  · rw [if_neg q] at hi
    rw [h2 (by omega), List.getElem?_replicate, if_pos hi]
theorem row_one {d : Nat → Nat} {n m : Nat} (w : Wd d n) (h : m < n) : (row d n)[2 * m - d m]? = some true := by
  obtain ⟨r, e, h1, h2⟩ := row_pre (d := d) m (Nat.le_of_lt h)
  obtain ⟨r', e'⟩ := h1 h
  have l := L_len w (Nat.le_of_lt h)
  have := w m h
  have el : 2 * m - d m = L d m + (hh d m - d m) := by unfold L; omega
  rw [e, e', el, ← l.1, List.getElem?_append_right (by omega), Nat.add_sub_cancel_left, List.getElem?_append_right (by simp)]
  simp
theorem row_op {d : Nat → Nat} {n m i : Nat} (w : Wd d n) (h : m ≤ n) (hi : i ≤ cl d n m) : op (row d n) (L d m + i) = m := by
  obtain ⟨r, e, h1, h2⟩ := row_pre (d := d) m h
  have l := (L_len w h).1
  unfold op
  rw [e, ← l, List.take_append, List.count_append, List.take_of_length_le (by omega), Nat.add_sub_cancel_left, rowk_ones]
  unfold cl at hi
  have : (r.take i).count true = 0 := by
    by_cases q : m < n
    · obtain ⟨r', e'⟩ := h1 q
      rw [if_pos q] at hi
      rw [e', List.take_append, List.take_replicate, List.length_replicate, Nat.sub_eq_zero_of_le hi, List.take_zero, List.append_nil, List.count_replicate]
      simp
    · rw [if_neg q] at hi
      rw [h2 (by omega), List.take_replicate, List.count_replicate]
      simp
  omega
/-- what happens at m's opening: its place, how many ahead, the height -/
theorem at_open {d : Nat → Nat} {n m : Nat} (w : Wd d n) (h : m < n) : op (row d n) (2 * m - d m) = m ∧ d m ≤ 2 * m ∧ ht (row d n) (2 * m - d m) = (d m : Int) := by
  have l := L_len w (Nat.le_of_lt h)
  have := w m h
  have e : 2 * m - d m = L d m + (hh d m - d m) := by unfold L; omega
  have o : op (row d n) (2 * m - d m) = m := by
    rw [e]
    exact row_op w (Nat.le_of_lt h) (by unfold cl; rw [if_pos h]; omega)
  refine ⟨o, by omega, ?_⟩
  unfold ht
  rw [o]
  omega
/-- heights between: at place L m + i, up to the closings there -/
theorem ht_at {d : Nat → Nat} {n m i : Nat} (w : Wd d n) (h : m ≤ n) (hi : i ≤ cl d n m) : ht (row d n) (L d m + i) = (hh d m : Int) - (i : Int) := by
  have l := L_len w h
  unfold ht
  rw [row_op w h hi]
  unfold L
  omega
/-- every place up to the size is one of these -/
theorem place_of {d : Nat → Nat} {n : Nat} (w : Wd d n) : ∀ m, m ≤ n → ∀ p, L d m ≤ p → p ≤ 2 * n → ∃ m' i, m ≤ m' ∧ m' ≤ n ∧ i ≤ cl d n m' ∧ p = L d m' + i := by
  suffices ∀ j m, m + j = n → ∀ p, L d m ≤ p → p ≤ 2 * n → ∃ m' i, m ≤ m' ∧ m' ≤ n ∧ i ≤ cl d n m' ∧ p = L d m' + i from
    fun m h => this (n - m) m (by omega)
  intro j
  induction j with
  | zero =>
    intro m h p h1 h2
    have : m = n := by omega
    subst this
    have l := L_len w (Nat.le_refl _)
    refine ⟨m, p - L d m, Nat.le_refl _, Nat.le_refl _, ?_, by omega⟩
    unfold cl
    rw [if_neg (by omega)]
    unfold L
    omega
  | succ j ih =>
    intro m h p h1 h2
    by_cases q : p ≤ L d m + (hh d m - d m)
    · refine ⟨m, p - L d m, Nat.le_refl _, by omega, ?_, by omega⟩
      unfold cl
      rw [if_pos (by omega)]
      omega
    · have := w m (by omega)
      have l := L_len w (show m ≤ n by omega)
      have l2 : L d (m + 1) = 2 * (m + 1) - (d m + 1) := rfl
      obtain ⟨m', i, a, b, c, e⟩ := ih (m + 1) (by omega) p (by unfold L at q; omega) h2
      exact ⟨m', i, by omega, b, c, e⟩
/-! ### from an opening to its closing -/
/-- the row between k's opening and its closing is higher; e: where what is beneath k ends -/
theorem closes {d : Nat → Nat} {n k e : Nat} (w : Wd d n) (hk : k < n) (h1 : k < e) (h2 : e ≤ n) (h3 : ∀ j, k < j → j < e → d k < d j) (h4 : e < n → d e ≤ d k) :
    d k + 1 ≤ 2 * e ∧ 2 * e - d k ≤ 2 * n ∧ 2 * k - d k < 2 * e - d k ∧ ht (row d n) (2 * e - d k) = (d k : Int) ∧ ∀ p, 2 * k - d k < p → p < 2 * e - d k → (d k : Int) < ht (row d n) p := by
  have hd := (at_open w hk).2.1
  have hh1 : d k + 1 ≤ hh d e := by
    cases e with
    | zero => omega
    | succ e =>
      show d k + 1 ≤ d e + 1
      by_cases q : k = e
      · rw [q]; omega
      · have := h3 e (by omega) (by omega); omega
  have l := L_len w h2
  have hcl : hh d e - d k ≤ cl d n e := by
    unfold cl
    by_cases q : e < n
    · rw [if_pos q]
      have := h4 q
      omega
    · rw [if_neg q]
      have : e = n := by omega
      subst this
      omega
  have ee : 2 * e - d k = L d e + (hh d e - d k) := by unfold L; omega
  refine ⟨by omega, by omega, by omega, ?_, fun p a b => ?_⟩
  · rw [ee, ht_at w h2 hcl]
    omega
  · have l2 : L d (k + 1) = 2 * (k + 1) - (d k + 1) := rfl
    obtain ⟨m, i, c1, c2, c3, c4⟩ := place_of w (k + 1) (by omega) p (by omega) (by omega)
    subst c4
    rw [ht_at w c2 c3]
    have lm := L_len w c2
    by_cases q : m < e
    · have hm := h3 m (by omega) q
      have : m < n := by omega
      unfold cl at c3
      rw [if_pos this] at c3
      have := w m this
      omega
    · by_cases q2 : m = e
      · subst q2
        unfold L at b
        omega
      · exfalso
        -- m > e: its places lie behind
        have : e < m := by omega
        have hm : L d (e + 1) ≤ L d m := by
          have mono : ∀ x y, x ≤ y → y ≤ n → L d x ≤ L d y := by
            intro x y hxy hy
            induction y with
            | zero =>
              have : x = 0 := by omega
              subst this; exact Nat.le_refl _
            | succ y ih =>
              by_cases z : x = y + 1
              · subst z; exact Nat.le_refl _
              · have h5 := ih (by omega) (by omega)
                have h6 := w y (by omega)
                have h7 := L_len w (show y ≤ n by omega)
                have : L d (y + 1) = 2 * (y + 1) - (d y + 1) := rfl
                unfold L at *
                omega
          exact mono _ _ (by omega) c2
        have l5 : L d (e + 1) = 2 * (e + 1) - (d e + 1) := rfl
        have := h4 (by omega)
        have := w e (by omega)
        omega
/-! ### the knots beside -/
/-- the loop of beside: m places from lo -/
def bes (bs : List Bool) (lo : Nat) : Nat → List Int
  | 0 => []
  | m + 1 => bes bs lo m ++ (if bs[lo + m]? = some true ∧ ht bs (lo + m) = ht bs lo then [(op bs (lo + m) : Int)] else [])
theorem bes_zeros {bs : List Bool} {lo m : Nat} : ∀ i, (∀ j, j < i → bs[lo + m + j]? = some false) → bes bs lo (m + i) = bes bs lo m
  | 0, _ => rfl
  | i + 1, h => by
    show bes bs lo (m + i) ++ (if bs[lo + (m + i)]? = some true ∧ _ then _ else _) = _
    rw [bes_zeros i fun j hj => h j (by omega)]
    have h5 := h i (by omega)
    rw [Nat.add_assoc] at h5
    rw [if_neg (fun z => by rw [h5] at z; exact nomatch z.1), List.append_nil]
/-- the knots of depth v among those from a to ahead of b -/
def deepAt (d : Nat → Nat) (v a : Nat) : Nat → List Int
  | 0 => []
  | b + 1 => deepAt d v a b ++ (if a ≤ b ∧ d b = v then [(b : Int)] else [])
theorem bes_run {d : Nat → Nat} {n a v : Nat} (w : Wd d n) (hv : ht (row d n) (L d a) = (v : Int)) : ∀ i, a + i ≤ n → (∀ j, a ≤ j → j < a + i → v ≤ d j) → ∃ c, L d (a + i) = L d a + c ∧ bes (row d n) (L d a) c = deepAt d v a (a + i)
  | 0, h, _ => ⟨0, rfl, by
      show [] = deepAt d v a a
      have : ∀ b, b ≤ a → deepAt d v a b = [] := by
        intro b
        induction b with
        | zero => intro _; rfl
        | succ b ih =>
          intro hb
          show deepAt d v a b ++ (if a ≤ b ∧ d b = v then _ else _) = _
          rw [ih (by omega), if_neg (by omega)]
          rfl
      exact (this a (Nat.le_refl _)).symm⟩
  | i + 1, h, hd => by
    obtain ⟨c, e1, e2⟩ := bes_run w hv i (by omega) fun j x y => hd j x (by omega)
    have hw := w (a + i) (by omega)
    have l := L_len w (show a + i ≤ n by omega)
    have e3 : L d (a + (i + 1)) = 2 * (a + i + 1) - (d (a + i) + 1) := rfl
    have e4 : L d (a + i) = 2 * (a + i) - hh d (a + i) := rfl
    refine ⟨c + (hh d (a + i) - d (a + i)) + 1, by omega, ?_⟩
    have lt : a + i < n := by omega
    have ao := at_open w lt
    have e5 : L d a + (c + (hh d (a + i) - d (a + i))) = 2 * (a + i) - d (a + i) := by omega
    show bes (row d n) (L d a) (c + (hh d (a + i) - d (a + i))) ++ (if (row d n)[L d a + (c + (hh d (a + i) - d (a + i)))]? = some true ∧ ht (row d n) (L d a + (c + (hh d (a + i) - d (a + i)))) = ht (row d n) (L d a) then [(op (row d n) (L d a + (c + (hh d (a + i) - d (a + i)))) : Int)] else []) = deepAt d v a (a + i) ++ (if a ≤ a + i ∧ d (a + i) = v then [((a + i : Nat) : Int)] else [])
    rw [e5, row_one w lt, ao.2.2, ao.1, hv, bes_zeros _ (fun j hj => by
      rw [← e1]
      exact row_zero w (by omega) (by unfold cl; rw [if_pos lt]; exact hj)), e2]
    by_cases q : d (a + i) = v
    · rw [if_pos ⟨rfl, by omega⟩, if_pos ⟨by omega, q⟩]
    · rw [if_neg (by omega), if_neg (by omega)]
/-- the children of k in the row -/
theorem bes_kids {d : Nat → Nat} {n k e : Nat} (w : Wd d n) (hk : k < n) (h1 : k < e) (h2 : e ≤ n) (h3 : ∀ j, k < j → j < e → d k < d j) (h4 : e < n → d e ≤ d k) :
    bes (row d n) (2 * k - d k + 1) (2 * e - d k - 1 - (2 * k - d k + 1)) = deepAt d (d k + 1) (k + 1) e := by
  have hd := (at_open w hk).2.1
  have l1 : L d (k + 1) = 2 * (k + 1) - (d k + 1) := rfl
  have lk := L_len w (show k + 1 ≤ n by omega)
  have e0 : 2 * k - d k + 1 = L d (k + 1) := by omega
  have hv : ht (row d n) (L d (k + 1)) = ((d k + 1 : Nat) : Int) := by
    have := ht_at (i := 0) w (show k + 1 ≤ n by omega) (Nat.zero_le _)
    have e9 : hh d (k + 1) = d k + 1 := rfl
    rw [Nat.add_zero, e9] at this
    rw [this]
    omega
  obtain ⟨c, c1, c2⟩ := bes_run w hv (e - (k + 1)) (by omega) fun j x y => h3 j (by omega) (by omega)
  have ee : k + 1 + (e - (k + 1)) = e := by omega
  rw [ee] at c1 c2
  have cl1 := closes w hk h1 h2 h3 h4
  have le := L_len w h2
  have hh1 : d k + 1 ≤ hh d e := by
    cases e with
    | zero => omega
    | succ e =>
      show d k + 1 ≤ d e + 1
      by_cases q : k = e
      · rw [q]; omega
      · have := h3 e (by omega) (by omega); omega
  have hcl : hh d e - d k - 1 ≤ cl d n e := by
    unfold cl
    by_cases q : e < n
    · rw [if_pos q]
      have := h4 q
      omega
    · rw [if_neg q]
      have : e = n := by omega
      subst this
      omega
  have el : L d e = 2 * e - hh d e := rfl
  have es : 2 * e - d k - 1 - (2 * k - d k + 1) = c + (hh d e - d k - 1) := by omega
  rw [es, e0, bes_zeros _ fun j hj => ?_, c2]
  rw [← c1]
  exact row_zero w h2 (by omega)
/-- the tops -/
theorem bes_tops {d : Nat → Nat} {n : Nat} (w : Wd d n) : bes (row d n) 0 (2 * n) = deepAt d 0 0 n := by
  have l0 : L d 0 = 0 := rfl
  obtain ⟨c, c1, c2⟩ := bes_run (a := 0) (v := 0) w (by rfl) n (by omega) fun j _ _ => by omega
  rw [Nat.zero_add, l0] at c1 c2
  have le := L_len w (Nat.le_refl n)
  have el : L d n = 2 * n - hh d n := rfl
  have es : 2 * n = c + hh d n := by omega
  rw [es, bes_zeros _ fun j hj => ?_, c2]
  have e0 : 0 + c = L d n := by omega
  rw [e0]
  exact row_zero w (Nat.le_refl _) (by unfold cl; rw [if_neg (by omega)]; exact hj)
/-! ### the children by the elders -/
/-- the knots below m with elder x -/
def kids (d : Nat → Nat) (x : Int) : Nat → List Int
  | 0 => []
  | m + 1 => kids d x m ++ (if el d m = x then [(m : Int)] else [])
theorem kids_deep {d : Nat → Nat} {n k e : Nat} (w : Wd d n) (hk : k < n) (h1 : k < e) (h2 : e ≤ n) (h3 : ∀ j, k < j → j < e → d k < d j) (h4 : e < n → d e ≤ d k) :
    ∀ m, m ≤ n → kids d (k : Int) m = deepAt d (d k + 1) (k + 1) (min m e) := by
  intro m
  induction m with
  | zero => intro _; rw [Nat.zero_min]; rfl
  | succ m ih =>
    intro hm
    show kids d k m ++ (if el d m = (k : Int) then [(m : Int)] else []) = _
    rw [ih (by omega)]
    have iff := el_iff (i := k) w (show m < n by omega)
    have ae := ab_end (n := n) (j := m) (by omega) h1 h3 h4
    by_cases q : m < e
    · have e1 : min m e = m := by omega
      have e2 : min (m + 1) e = m + 1 := by omega
      rw [e1, e2]
      show _ = deepAt d (d k + 1) (k + 1) m ++ (if k + 1 ≤ m ∧ d m = d k + 1 then [(m : Int)] else [])
      by_cases q2 : el d m = (k : Int)
      · have := iff.mp q2
        have := ae.mp this.1
        rw [if_pos q2, if_pos ⟨by omega, (iff.mp q2).2⟩]
      · rw [if_neg q2, if_neg]
        rintro ⟨a, b⟩
        exact q2 (iff.mpr ⟨ae.mpr ⟨by omega, q⟩, b⟩)
    · have e1 : min m e = e := by omega
      have e2 : min (m + 1) e = e := by omega
      rw [e1, e2, if_neg, List.append_nil]
      intro z
      have := ae.mp (iff.mp z).1
      omega
theorem kids_tops {d : Nat → Nat} {n : Nat} (w : Wd d n) : ∀ m, m ≤ n → kids d (-1) m = deepAt d 0 0 m := by
  intro m
  induction m with
  | zero => intro _; rfl
  | succ m ih =>
    intro hm
    show kids d (-1) m ++ (if el d m = -1 then [(m : Int)] else []) = deepAt d 0 0 m ++ (if 0 ≤ m ∧ d m = 0 then [(m : Int)] else [])
    rw [ih (by omega)]
    have iff := el_neg w (show m < n by omega)
    by_cases q : d m = 0
    · rw [if_pos (iff.mpr q), if_pos ⟨by omega, q⟩]
    · rw [if_neg (fun z => q (iff.mp z)), if_neg (fun z => q z.2)]
/-- beside, as the program asks it, tells the children -/
theorem beside_kids {d : Nat → Nat} {n k e : Nat} (w : Wd d n) (hk : k < n) (h1 : k < e) (h2 : e ≤ n) (h3 : ∀ j, k < j → j < e → d k < d j) (h4 : e < n → d e ≤ d k) :
    bes (row d n) (2 * k - d k + 1) (2 * e - d k - 1 - (2 * k - d k + 1)) = kids d (k : Int) n := by
  rw [bes_kids w hk h1 h2 h3 h4, kids_deep w hk h1 h2 h3 h4 n (Nat.le_refl _), Nat.min_eq_right h2]
theorem beside_tops {d : Nat → Nat} {n : Nat} (w : Wd d n) : bes (row d n) 0 (2 * n) = kids d (-1) n := by
  rw [bes_tops w, kids_tops w n (Nat.le_refl _)]
/-! ### how many beneath -/
/-- how many of the knots below m have i above -/
def under (d : Nat → Nat) (i : Nat) : Nat → Nat
  | 0 => 0
  | m + 1 => under d i m + (if d i + 1 ≤ d m ∧ pa d (d i + 1) m = (i : Int) then 1 else 0)
theorem under_end {d : Nat → Nat} {n k e : Nat} (w : Wd d n) (h1 : k < e) (h2 : e ≤ n) (h3 : ∀ j, k < j → j < e → d k < d j) (h4 : e < n → d e ≤ d k) :
    ∀ m, m ≤ n → under d k m = min m e - min m (k + 1) := by
  intro m
  induction m with
  | zero => intro _; simp [under]
  | succ m ih =>
    intro hm
    show under d k m + (if d k + 1 ≤ d m ∧ pa d (d k + 1) m = (k : Int) then 1 else 0) = _
    rw [ih (by omega)]
    have iff := ab_iff (i := k) w (show m < n by omega)
    have ae := ab_end (n := n) (j := m) (by omega) h1 h3 h4
    by_cases q : k < m ∧ m < e
    · rw [if_pos (iff.mp (ae.mpr q))]
      omega
    · rw [if_neg fun z => q (ae.mp (iff.mpr z))]
      omega
theorem under_is {d : Nat → Nat} {n k e : Nat} (w : Wd d n) (h1 : k < e) (h2 : e ≤ n) (h3 : ∀ j, k < j → j < e → d k < d j) (h4 : e < n → d e ≤ d k) : under d k n = e - (k + 1) := by
  rw [under_end w h1 h2 h3 h4 n (Nat.le_refl _)]
  omega
end Tw
namespace Tw
/-- a word: the first bit is worth 1 -/
def wd : List Bool → Nat
  | [] => 0
  | b :: r => b.toNat + 2 * wd r
theorem wd_app : ∀ a b : List Bool, wd (a ++ b) = wd a + 2 ^ a.length * wd b
  | [], b => by simp [wd]
  | x :: a, b => by
    show x.toNat + 2 * wd (a ++ b) = x.toNat + 2 * wd a + 2 ^ (a.length + 1) * wd b
    rw [wd_app a b, Nat.pow_succ, Nat.mul_add, Nat.mul_comm (2 ^ a.length) 2, Nat.mul_assoc]
    omega
theorem wd_lt : ∀ l : List Bool, wd l < 2 ^ l.length
  | [] => by simp [wd]
  | x :: a => by
    have := wd_lt a
    show x.toNat + 2 * wd a < 2 ^ (a.length + 1)
    rw [Nat.pow_succ]
    have : x.toNat ≤ 1 := by cases x <;> decide
    omega
theorem wd_false : ∀ n, wd (List.replicate n false) = 0
  | 0 => rfl
  | n + 1 => by
    show false.toNat + 2 * wd (List.replicate n false) = 0
    rw [wd_false n]
    rfl
theorem wd_pad (l : List Bool) (n : Nat) : wd (l ++ List.replicate n false) = wd l := by
  rw [wd_app, wd_false]; omega
theorem wd_bit : ∀ (l : List Bool) (i : Nat), wd l / 2 ^ i % 2 = (l.getD i false).toNat
  | [], i => by simp [wd]
  | x :: a, 0 => by
    show (x.toNat + 2 * wd a) / 2 ^ 0 % 2 = x.toNat
    have : x.toNat ≤ 1 := by cases x <;> decide
    simp only [Nat.pow_zero, Nat.div_one]
    omega
  | x :: a, i + 1 => by
    show (x.toNat + 2 * wd a) / 2 ^ (i + 1) % 2 = (a.getD i false).toNat
    have : x.toNat ≤ 1 := by cases x <;> decide
    rw [Nat.pow_succ, Nat.mul_comm (2 ^ i) 2, ← Nat.div_div_eq_div_mul]
    have e : (x.toNat + 2 * wd a) / 2 = wd a := by omega
    rw [e]
    exact wd_bit a i
theorem wd_take : ∀ (l : List Bool) (i : Nat), wd l % 2 ^ i = wd (l.take i)
  | l, 0 => by simp [wd, Nat.mod_one]
  | [], i + 1 => by simp [wd]
  | x :: a, i + 1 => by
    show (x.toNat + 2 * wd a) % 2 ^ (i + 1) = x.toNat + 2 * wd (a.take i)
    rw [← wd_take a i, Nat.pow_succ, Nat.mul_comm (2 ^ i) 2]
    have : x.toNat ≤ 1 := by cases x <;> decide
    rw [Nat.mod_mul]
    have e : (x.toNat + 2 * wd a) / 2 = wd a := by omega
    rw [e]
    omega
/-! ### how many bits are 1 -/
theorem andS {k s x m y n : Nat} (hs : s ≤ k) (hx : x < 2 ^ k) (hm : m < 2 ^ (k - s)) : (x + 2 ^ k * y) >>> s &&& (m + 2 ^ k * n) = (x >>> s &&& m) + 2 ^ k * (y >>> s &&& n) := by
  have hmk : m < 2 ^ k := Nat.lt_of_lt_of_le hm (Nat.pow_le_pow_right (by decide) (by omega))
  have hl : (x >>> s &&& m) < 2 ^ k := Nat.lt_of_le_of_lt Nat.and_le_right hmk
  apply Nat.eq_of_testBit_eq
  intro j
  rw [Nat.testBit_and, Nat.testBit_shiftRight, Nat.add_comm x, Nat.add_comm m, Nat.add_comm (x >>> s &&& m), Nat.testBit_two_pow_mul_add _ hx, Nat.testBit_two_pow_mul_add _ hmk, Nat.testBit_two_pow_mul_add _ hl, Nat.testBit_and, Nat.testBit_and, Nat.testBit_shiftRight, Nat.testBit_shiftRight]
  by_cases a : j < k
  · rw [if_pos a, if_pos a]
    by_cases b : s + j < k
    · rw [if_pos b]
    · have : m.testBit j = false := Nat.testBit_lt_two_pow (Nat.lt_of_lt_of_le hm (Nat.pow_le_pow_right (by decide) (by omega)))
      rw [this, Bool.and_false, Bool.and_false]
  · rw [if_neg a, if_neg a, if_neg (by omega)]
    have : s + j - k = s + (j - k) := by omega
    rw [this]
def sw1 (w : Nat) : Nat := w - (w >>> 1 &&& 1431655765)
def sw2 (w : Nat) : Nat := (w &&& 858993459) + (w >>> 2 &&& 858993459)
def sw3 (w : Nat) : Nat := (w &&& 252645135) + (w >>> 4 &&& 252645135)
def sw4 (w : Nat) : Nat := (w &&& 16711935) + (w >>> 8 &&& 16711935)
def sw5 (w : Nat) : Nat := (w &&& 65535) + (w >>> 16)
def sw (w : Nat) : Nat := sw5 (sw4 (sw3 (sw2 (sw1 w))))
def p1 (b : Nat) : Nat := b - (b >>> 1 &&& 85)
def p2 (b : Nat) : Nat := (b &&& 51) + (b >>> 2 &&& 51)
def p3 (b : Nat) : Nat := (b &&& 15) + (b >>> 4 &&& 15)
def four (a b c d : Nat) : Nat := a + 2 ^ 8 * (b + 2 ^ 8 * (c + 2 ^ 8 * d))
theorem four_and {a b c d m s : Nat} (hs : s ≤ 8) (ha : a < 256) (hb : b < 256) (hc : c < 256) (hm : m < 2 ^ (8 - s)) : four a b c d >>> s &&& four m m m m = four (a >>> s &&& m) (b >>> s &&& m) (c >>> s &&& m) (d >>> s &&& m) := by
  unfold four
  rw [andS hs (show a < 2 ^ 8 from ha) hm, andS hs (show b < 2 ^ 8 from hb) hm, andS hs (show c < 2 ^ 8 from hc) hm]
theorem four_and0 {a b c d m : Nat} (ha : a < 256) (hb : b < 256) (hc : c < 256) (hm : m < 256) : four a b c d &&& four m m m m = four (a &&& m) (b &&& m) (c &&& m) (d &&& m) := four_and (s := 0) (by decide) ha hb hc hm
theorem four_add {a b c d a' b' c' d' : Nat} : four a b c d + four a' b' c' d' = four (a + a') (b + b') (c + c') (d + d') := by
  unfold four
  omega
theorem four_sub {a b c d a' b' c' d' : Nat} (ha : a' ≤ a) (hb : b' ≤ b) (hc : c' ≤ c) (hd : d' ≤ d) : four a b c d - four a' b' c' d' = four (a - a') (b - b') (c - c') (d - d') := by
  unfold four
  omega
theorem sh_le (a m : Nat) : (a >>> 1 &&& m) ≤ a := Nat.le_trans Nat.and_le_left (by rw [Nat.shiftRight_eq_div_pow]; exact Nat.div_le_self _ _)
theorem sw_four {a b c d : Nat} (ha : a < 256) (hb : b < 256) (hc : c < 256) (hd : d < 256) : sw3 (sw2 (sw1 (four a b c d))) = four (p3 (p2 (p1 a))) (p3 (p2 (p1 b))) (p3 (p2 (p1 c))) (p3 (p2 (p1 d))) := by
  have h1 : sw1 (four a b c d) = four (p1 a) (p1 b) (p1 c) (p1 d) := by
    show four a b c d - (four a b c d >>> 1 &&& four 85 85 85 85) = _
    rw [four_and (by decide) ha hb hc (by decide), four_sub (sh_le _ _) (sh_le _ _) (sh_le _ _) (sh_le _ _)]
    rfl
  have l1 : ∀ x, x < 256 → p1 x < 256 := fun x h => Nat.lt_of_le_of_lt (Nat.sub_le _ _) h
  have h2 : ∀ {a b c d : Nat}, a < 256 → b < 256 → c < 256 → d < 256 → sw2 (four a b c d) = four (p2 a) (p2 b) (p2 c) (p2 d) := by
    intro a b c d ha hb hc hd
    show (four a b c d &&& four 51 51 51 51) + (four a b c d >>> 2 &&& four 51 51 51 51) = _
    rw [four_and0 ha hb hc (by decide), four_and (by decide) ha hb hc (by decide), four_add]
    rfl
  have l2 : ∀ x, p2 x < 256 := fun x => by
    have h1 : (x &&& 51) ≤ 51 := Nat.and_le_right
    have h2 : (x >>> 2 &&& 51) ≤ 51 := Nat.and_le_right
    unfold p2
    omega
  have h3 : ∀ {a b c d : Nat}, a < 256 → b < 256 → c < 256 → d < 256 → sw3 (four a b c d) = four (p3 a) (p3 b) (p3 c) (p3 d) := by
    intro a b c d ha hb hc hd
    show (four a b c d &&& four 15 15 15 15) + (four a b c d >>> 4 &&& four 15 15 15 15) = _
    rw [four_and0 ha hb hc (by decide), four_and (by decide) ha hb hc (by decide), four_add]
    rfl
  rw [h1, h2 (l1 a ha) (l1 b hb) (l1 c hc) (l1 d hd), h3 (l2 _) (l2 _) (l2 _) (l2 _)]
theorem sw_end {a b c d : Nat} (ha : a ≤ 8) (hb : b ≤ 8) (hc : c ≤ 8) (hd : d ≤ 8) : sw5 (sw4 (four a b c d)) = a + b + c + d := by
  have h4 : sw4 (four a b c d) = (a + b) + 2 ^ 16 * (c + d) := by
    show (four a b c d &&& four 255 0 255 0) + (four a b c d >>> 8 &&& four 255 0 255 0) = _
    have e1 : four a b c d &&& four 255 0 255 0 = four a 0 c 0 := by
      unfold four
      have s0 : ∀ (x m y n : Nat), x < 256 → m < 256 → (x + 2 ^ 8 * y) >>> 0 &&& (m + 2 ^ 8 * n) = (x >>> 0 &&& m) + 2 ^ 8 * (y >>> 0 &&& n) := fun x m y n hx hm => andS (by decide) hx hm
      rw [show a + 2 ^ 8 * (b + 2 ^ 8 * (c + 2 ^ 8 * d)) = (a + 2 ^ 8 * (b + 2 ^ 8 * (c + 2 ^ 8 * d))) >>> 0 from rfl, s0 a 255 _ _ (by omega) (by decide)]
      rw [s0 b 0 _ _ (by omega) (by decide), s0 c 255 _ _ (by omega) (by decide)]
      have e : ∀ x, x ≤ 8 → x >>> 0 &&& 255 = x := fun x h => by
        show x &&& 255 = x
        rw [show (255 : Nat) = 2 ^ 8 - 1 from rfl, Nat.and_two_pow_sub_one_eq_mod]
        exact Nat.mod_eq_of_lt (by omega)
      rw [e a ha, e c hc, Nat.and_zero, Nat.and_zero]
    have e2 : four a b c d >>> 8 &&& four 255 0 255 0 = four b 0 d 0 := by
      have e3 : four a b c d >>> 8 = four b c d 0 := by
        unfold four
        rw [Nat.shiftRight_eq_div_pow]
        omega
      rw [e3]
      unfold four
      have s0 : ∀ (x m y n : Nat), x < 256 → m < 256 → (x + 2 ^ 8 * y) >>> 0 &&& (m + 2 ^ 8 * n) = (x >>> 0 &&& m) + 2 ^ 8 * (y >>> 0 &&& n) := fun x m y n hx hm => andS (by decide) hx hm
      rw [show b + 2 ^ 8 * (c + 2 ^ 8 * (d + 2 ^ 8 * 0)) = (b + 2 ^ 8 * (c + 2 ^ 8 * (d + 2 ^ 8 * 0))) >>> 0 from rfl, s0 b 255 _ _ (by omega) (by decide)]
      rw [s0 c 0 _ _ (by omega) (by decide), s0 d 255 _ _ (by omega) (by decide)]
      have e : ∀ x, x ≤ 8 → x >>> 0 &&& 255 = x := fun x h => by
        show x &&& 255 = x
        rw [show (255 : Nat) = 2 ^ 8 - 1 from rfl, Nat.and_two_pow_sub_one_eq_mod]
        exact Nat.mod_eq_of_lt (by omega)
      rw [e b hb, e d hd, Nat.and_zero, Nat.and_zero]
    rw [e1, e2]
    unfold four
    omega
  rw [h4]
  unfold sw5
  rw [show (65535 : Nat) = 2 ^ 16 - 1 from rfl, Nat.and_two_pow_sub_one_eq_mod, Nat.shiftRight_eq_div_pow]
  omega
theorem byte_pop : ∀ a b c d e f g h : Bool, p3 (p2 (p1 (wd [a, b, c, d, e, f, g, h]))) = [a, b, c, d, e, f, g, h].count true := by decide +kernel
theorem pop8 {l : List Bool} (h : l.length = 8) : p3 (p2 (p1 (wd l))) = l.count true ∧ l.count true ≤ 8 ∧ wd l < 256 := by
  refine ⟨?_, h ▸ List.count_le_length, by have := wd_lt l; rw [h] at this; exact this⟩
  match l, h with
  | [a, b, c, d, e, f, g, h], _ => exact byte_pop a b c d e f g h
theorem sw_32 {l : List Bool} (h : l.length = 32) : sw (wd l) = l.count true := by
  have e : l = l.take 8 ++ ((l.drop 8).take 8 ++ (((l.drop 8).drop 8).take 8 ++ ((l.drop 8).drop 8).drop 8)) := by
    rw [List.take_append_drop, List.take_append_drop, List.take_append_drop]
  have l1 : (l.take 8).length = 8 := by simp [h]
  have l2 : ((l.drop 8).take 8).length = 8 := by simp [h]
  have l3 : (((l.drop 8).drop 8).take 8).length = 8 := by simp [h]
  have l4 : (((l.drop 8).drop 8).drop 8).length = 8 := by simp [h]
  generalize l.take 8 = A at *
  generalize (l.drop 8).take 8 = B at *
  generalize ((l.drop 8).drop 8).take 8 = C at *
  generalize ((l.drop 8).drop 8).drop 8 = D at *
  subst e
  obtain ⟨a1, a2, a3⟩ := pop8 l1
  obtain ⟨b1, b2, b3⟩ := pop8 l2
  obtain ⟨c1, c2, c3⟩ := pop8 l3
  obtain ⟨d1, d2, d3⟩ := pop8 l4
  have ew : wd (A ++ (B ++ (C ++ D))) = four (wd A) (wd B) (wd C) (wd D) := by
    rw [wd_app, wd_app, wd_app, l1, l2, l3]
    rfl
  unfold sw
  rw [ew, sw_four a3 b3 c3 d3, a1, b1, c1, d1, sw_end a2 b2 c2 d2]
  simp only [List.count_append]
  omega
theorem sw_wd {l : List Bool} (h : l.length ≤ 32) : sw (wd l) = l.count true := by
  have := sw_32 (l := l ++ List.replicate (32 - l.length) false) (by simp; omega)
  rw [wd_pad, List.count_append, List.count_replicate] at this
  simpa using this
/-! ### the so-many-th 1 -/
/-- without the first 1 -/
def clr : List Bool → List Bool
  | [] => []
  | true :: r => false :: r
  | false :: r => false :: clr r
theorem clr_len : ∀ l, (clr l).length = l.length
  | [] => rfl
  | true :: r => rfl
  | false :: r => by
    show (clr r).length + 1 = r.length + 1
    rw [clr_len r]
theorem clr_wd : ∀ l, wd (clr l) = wd l &&& (wd l - 1)
  | [] => rfl
  | true :: r => by
    show 0 + 2 * wd r = (1 + 2 * wd r) &&& (1 + 2 * wd r - 1)
    have e := andS (k := 1) (s := 0) (x := 1) (m := 0) (y := wd r) (n := wd r) (by decide) (by decide) (by decide)
    rw [show 1 + 2 * wd r - 1 = 0 + 2 ^ 1 * wd r by omega]
    show _ = (1 + 2 ^ 1 * wd r) >>> 0 &&& (0 + 2 ^ 1 * wd r)
    rw [e]
    show _ = 0 + 2 ^ 1 * (wd r &&& wd r)
    rw [Nat.and_self]
  | false :: r => by
    show 0 + 2 * wd (clr r) = (0 + 2 * wd r) &&& (0 + 2 * wd r - 1)
    rw [clr_wd r]
    by_cases z : wd r = 0
    · rw [z]; rfl
    · have e := andS (k := 1) (s := 0) (x := 0) (m := 1) (y := wd r) (n := wd r - 1) (by decide) (by decide) (by decide)
      rw [show 0 + 2 * wd r - 1 = 1 + 2 ^ 1 * (wd r - 1) by omega]
      show _ = (0 + 2 ^ 1 * wd r) >>> 0 &&& (1 + 2 ^ 1 * (wd r - 1))
      rw [e]
      rfl
def clrs : Nat → List Bool → List Bool
  | 0, l => l
  | n + 1, l => clr (clrs n l)
theorem clr_false (r : List Bool) : clr (false :: r) = false :: clr r := rfl
theorem clrs_len (n : Nat) (l : List Bool) : (clrs n l).length = l.length := by
  induction n with
  | zero => rfl
  | succ n ih => exact (clr_len _).trans ih
theorem clrs_false (n : Nat) (r : List Bool) : clrs n (false :: r) = false :: clrs n r := by
  induction n with
  | zero => rfl
  | succ n ih =>
    show clr (clrs n (false :: r)) = false :: clr (clrs n r)
    rw [ih]
    rfl
theorem clrs_true (n : Nat) (r : List Bool) : clrs (n + 1) (true :: r) = false :: clrs n r := by
  induction n with
  | zero => rfl
  | succ n ih =>
    show clr (clrs (n + 1) (true :: r)) = false :: clr (clrs n r)
    rw [ih]
    rfl
/-- behind n clearings the n-th 1 is the first -/
theorem clrs_at : ∀ (l : List Bool) (p : Nat), l[p]? = some true → (clrs ((l.take p).count true) l)[p]? = some true ∧ ∀ j, j < p → (clrs ((l.take p).count true) l)[j]? = some false
  | [], p, h => by simp at h
  | x :: r, 0, h => by
    refine ⟨?_, fun j hj => by omega⟩
    show (x :: r)[0]? = some true
    exact h
  | x :: r, p + 1, h => by
    have h' : r[p]? = some true := by simpa using h
    obtain ⟨a, b⟩ := clrs_at r p h'
    have e : clrs (((x :: r).take (p + 1)).count true) (x :: r) = false :: clrs ((r.take p).count true) r := by
      rw [List.take_succ_cons]
      cases x with
      | true =>
        rw [List.count_cons_self]
        exact clrs_true _ _
      | false =>
        rw [List.count_cons_of_ne (by decide)]
        exact clrs_false _ _
    rw [e]
    refine ⟨by simpa using a, fun j hj => ?_⟩
    cases j with
    | zero => rfl
    | succ j => simpa using b j (by omega)
theorem wd_bit_at {l : List Bool} {i : Nat} {b : Bool} (h : l[i]? = some b) : wd l / 2 ^ i % 2 = b.toNat := by
  rw [wd_bit, List.getD_eq_getElem?_getD, h]
  rfl
/-! ### a row in words of 32 -/
/-- the w-th word's bits -/
def chunk (bs : List Bool) (w : Nat) : List Bool := (bs.drop (32 * w)).take 32
theorem chunk_len (bs : List Bool) (w : Nat) : (chunk bs w).length ≤ 32 := by
  unfold chunk
  rw [List.length_take]
  omega
theorem chunk_get {bs : List Bool} {w i : Nat} (h : i < 32) : (chunk bs w)[i]? = bs[32 * w + i]? := by
  unfold chunk
  rw [List.getElem?_take_of_lt h, List.getElem?_drop]
def nw (bs : List Bool) : Nat := (bs.length + 31) / 32
/-- the words -/
def wds (bs : List Bool) : List Int := (List.range (nw bs)).map fun w => (wd (chunk bs w) : Int)
theorem wds_len (bs : List Bool) : (wds bs).length = nw bs := by simp [wds]
theorem wds_get {bs : List Bool} {w : Nat} (h : w < nw bs) : (wds bs)[w]? = some (wd (chunk bs w) : Int) := by simp [wds, h]
theorem opn_zero (bs : List Bool) : op bs 0 = 0 := by simp [op]
theorem opn_add (bs : List Bool) (a i : Nat) : op bs (a + i) = op bs a + ((bs.drop a).take i).count true := by
  unfold op
  rw [List.take_add, List.count_append]
theorem opn_chunk (bs : List Bool) (w i : Nat) (h : i ≤ 32) : op bs (32 * w + i) = op bs (32 * w) + ((chunk bs w).take i).count true := by
  rw [opn_add]
  unfold chunk
  rw [List.take_take, Nat.min_eq_left h]
theorem opn_word (bs : List Bool) (w : Nat) : op bs (32 * (w + 1)) = op bs (32 * w) + (chunk bs w).count true := by
  rw [Nat.mul_add, Nat.mul_one, opn_add]
  rfl
theorem opn_mono (bs : List Bool) {a b : Nat} (h : a ≤ b) : op bs a ≤ op bs b := by
  have e : b = a + (b - a) := by omega
  rw [e, opn_add]
  omega
theorem opn_succ (bs : List Bool) {p : Nat} {b : Bool} (h : bs[p]? = some b) : op bs (p + 1) = op bs p + b.toNat := by
  rw [opn_add]
  have : (bs.drop p).take 1 = [b] := by
    have hp := (List.getElem?_eq_some_iff.mp h)
    obtain ⟨h1, h2⟩ := hp
    rw [List.drop_eq_getElem_cons h1, h2]
    rfl
  rw [this]
  cases b <;> rfl
theorem opn_all (bs : List Bool) : op bs bs.length = bs.count true := by simp [op]
theorem opn_le (bs : List Bool) (p : Nat) : op bs p ≤ bs.count true := by
  by_cases h : p ≤ bs.length
  · rw [← opn_all]
    exact opn_mono bs h
  · unfold op
    rw [List.take_of_length_le (by omega)]
    exact Nat.le_refl _
/-- the sum of the words' ones ahead of word w -/
theorem sum_words (bs : List Bool) : ∀ w, ((List.range w).map fun v => ((chunk bs v).count true : Int)).sum = (op bs (32 * w) : Int)
  | 0 => by simp [opn_zero]
  | w + 1 => by
    rw [List.range_succ, List.map_append, List.sum_append, sum_words bs w, opn_word]
    simp
theorem opn_nw (bs : List Bool) : op bs (32 * nw bs) = bs.count true := by
  unfold op
  rw [List.take_of_length_le (by unfold nw; omega)]
end Tw
/-! The text by places, the names of each def, the facts of the head by names. -/
namespace Tw
open PySem PySem.Spec PyProof.Rows L2
def topS (i : Nat) : Stmt := PySem.Challenge.pw_tightwood_k34_counts.main.body.getD i (.Pass ⟨0, 0, 0, 0⟩)
abbrev s_ones_in : Stmt := topS 10
abbrev s_nth_one : Stmt := topS 11
abbrev s_is_amid : Stmt := topS 14
abbrev s_words_of : Stmt := topS 15
abbrev s_is_whole_counts : Stmt := topS 20
abbrev s_need_bit : Stmt := topS 22
abbrev s_is_whole_pairs : Stmt := topS 28
abbrev s_ask_row : Stmt := topS 30
abbrev s_table_of : Stmt := topS 31
abbrev s_look_at : Stmt := topS 35
abbrev s_row_of : Stmt := topS 36
abbrev s_is_number : Stmt := topS 40
abbrev s_one_of : Stmt := topS 41
abbrev s_l_cell_at : Stmt := topS 44
abbrev s_l_mixed : Stmt := topS 45
abbrev s_l_elders : Stmt := topS 46
abbrev s_l_wood : Stmt := topS 47
abbrev s_l_children : Stmt := topS 48
abbrev s_l_is : Stmt := topS 49
abbrev s_l_is_or_none : Stmt := topS 50
abbrev s_l_counted : Stmt := topS 51
abbrev s_l_at : Stmt := topS 52
abbrev s_law : Stmt := topS 53
abbrev s_Bits_init : Stmt := inClass (topS 16) 0
abbrev s_Bits_size : Stmt := inClass (topS 16) 1
abbrev s_Bits_words : Stmt := inClass (topS 16) 3
abbrev s_Bits_need : Stmt := inClass (topS 16) 4
abbrev s_Bits_at : Stmt := inClass (topS 16) 5
abbrev s_Bits_bit : Stmt := inClass (topS 16) 6
abbrev s_Counts_init : Stmt := inClass (topS 23) 0
abbrev s_Counts_ones_ahead : Stmt := inClass (topS 23) 2
abbrev s_Counts_ahead : Stmt := inClass (topS 23) 3
abbrev s_Counts_like : Stmt := inClass (topS 23) 4
abbrev s_Counts_like_ahead : Stmt := inClass (topS 23) 5
abbrev s_Counts_all_like : Stmt := inClass (topS 23) 6
abbrev s_Counts_block_of : Stmt := inClass (topS 23) 7
abbrev s_Counts_place_of : Stmt := inClass (topS 23) 8
abbrev s_Pairs_init : Stmt := inClass (topS 32) 0
abbrev s_Pairs_size : Stmt := inClass (topS 32) 1
abbrev s_Pairs_opens_ahead : Stmt := inClass (topS 32) 4
abbrev s_Pairs_opening : Stmt := inClass (topS 32) 5
abbrev s_Pairs_height : Stmt := inClass (topS 32) 6
abbrev s_Pairs_step : Stmt := inClass (topS 32) 7
abbrev s_Pairs_first_in : Stmt := inClass (topS 32) 8
abbrev s_Pairs_ends_of : Stmt := inClass (topS 32) 10
abbrev s_Pairs_next_at : Stmt := inClass (topS 32) 11
abbrev s_Pairs_ask_height : Stmt := inClass (topS 32) 13
abbrev s_Pairs_opening_of : Stmt := inClass (topS 32) 15
abbrev s_Pairs_partner : Stmt := inClass (topS 32) 16
abbrev s_Pairs_depth : Stmt := inClass (topS 32) 18
abbrev s_Opened_init : Stmt := inClass (topS 42) 0
abbrev s_Opened_many_knots : Stmt := inClass (topS 42) 1
abbrev s_Opened_opening : Stmt := inClass (topS 42) 4
abbrev s_Opened_closing : Stmt := inClass (topS 42) 5
abbrev s_Opened_beside : Stmt := inClass (topS 42) 14
abbrev s_Opened_children : Stmt := inClass (topS 42) 15
abbrev s_Opened_many : Stmt := inClass (topS 42) 16
abbrev s_Opened_nth : Stmt := inClass (topS 42) 17
abbrev s_Opened_top : Stmt := inClass (topS 42) 18
abbrev s_Opened_many_tops : Stmt := inClass (topS 42) 19
abbrev s_Opened_beneath : Stmt := inClass (topS 42) 20
abbrev s_Opened_depth : Stmt := inClass (topS 42) 21
theorem sc_ones_in : FnScope ["word"] ["word"] (defScope s_ones_in) := ⟨rfl, rfl, rfl, by decide +kernel, rfl, by decide +kernel, by decide +kernel⟩
theorem sc_nth_one : FnScope ["word", "nth", "turn", "place"] ["word", "nth"] (defScope s_nth_one) := ⟨rfl, rfl, rfl, by decide +kernel, rfl, by decide +kernel, by decide +kernel⟩
theorem sc_is_amid : FnScope ["thing", "low", "high"] ["thing", "low", "high"] (defScope s_is_amid) := ⟨rfl, rfl, rfl, by decide +kernel, rfl, by decide +kernel, by decide +kernel⟩
theorem sc_words_of : FnScope ["text", "words", "start", "word", "place", "sign"] ["text"] (defScope s_words_of) := ⟨rfl, rfl, rfl, by decide +kernel, rfl, by decide +kernel, by decide +kernel⟩
theorem sc_is_whole_counts : FnScope ["thing"] ["thing"] (defScope s_is_whole_counts) := ⟨rfl, rfl, rfl, by decide +kernel, rfl, by decide +kernel, by decide +kernel⟩
theorem sc_need_bit : FnScope ["bit"] ["bit"] (defScope s_need_bit) := ⟨rfl, rfl, rfl, by decide +kernel, rfl, by decide +kernel, by decide +kernel⟩
theorem sc_is_whole_pairs : FnScope ["thing"] ["thing"] (defScope s_is_whole_pairs) := ⟨rfl, rfl, rfl, by decide +kernel, rfl, by decide +kernel, by decide +kernel⟩
theorem sc_ask_row : FnScope ["text", "height", "place", "sign"] ["text"] (defScope s_ask_row) := ⟨rfl, rfl, rfl, by decide +kernel, rfl, by decide +kernel, by decide +kernel⟩
theorem sc_table_of : FnScope ["text", "found", "height", "start", "begin", "heights", "sign"] ["text"] (defScope s_table_of) := ⟨rfl, rfl, rfl, by decide +kernel, rfl, by decide +kernel, by decide +kernel⟩
theorem sc_look_at : FnScope ["elders", "way", "knot", "elder"] ["elders"] (defScope s_look_at) := ⟨rfl, rfl, rfl, by decide +kernel, rfl, by decide +kernel, by decide +kernel⟩
theorem sc_row_of : FnScope ["elders", "signs", "way", "knot", "elder"] ["elders"] (defScope s_row_of) := ⟨rfl, rfl, rfl, by decide +kernel, rfl, by decide +kernel, by decide +kernel⟩
theorem sc_is_number : FnScope ["thing"] ["thing"] (defScope s_is_number) := ⟨rfl, rfl, rfl, by decide +kernel, rfl, by decide +kernel, by decide +kernel⟩
theorem sc_one_of : FnScope ["some", "i"] ["some", "i"] (defScope s_one_of) := ⟨rfl, rfl, rfl, by decide +kernel, rfl, by decide +kernel, by decide +kernel⟩
theorem sc_l_cell_at : FnScope ["_law_script", "_law_k"] ["_law_script", "_law_k"] (defScope s_l_cell_at) := ⟨rfl, rfl, rfl, by decide +kernel, rfl, by decide +kernel, by decide +kernel⟩
theorem sc_l_mixed : FnScope ["_law_cell", "_law_k", "_law_number"] ["_law_cell", "_law_k"] (defScope s_l_mixed) := ⟨rfl, rfl, rfl, by decide +kernel, rfl, by decide +kernel, by decide +kernel⟩
theorem sc_l_elders : FnScope ["_law_cell", "_law_many", "_law_found", "_law_way", "_law_left", "_law_k", "_law_up", "_law_mixed_here"] ["_law_cell", "_law_many"] (defScope s_l_elders) := ⟨rfl, rfl, rfl, by decide +kernel, rfl, by decide +kernel, by decide +kernel⟩
theorem sc_l_wood : FnScope ["_law_script", "_law_at_here", "_law_number", "_law_many"] ["_law_script", "_law_at_here"] (defScope s_l_wood) := ⟨rfl, rfl, rfl, by decide +kernel, rfl, by decide +kernel, by decide +kernel⟩
theorem sc_l_children : FnScope ["_law_elders_here", "_law_found", "_law_knot"] ["_law_elders_here"] (defScope s_l_children) := ⟨rfl, rfl, rfl, by decide +kernel, rfl, by decide +kernel, by decide +kernel⟩
theorem sc_l_is : FnScope ["_law_found", "_law_due"] ["_law_found", "_law_due"] (defScope s_l_is) := ⟨rfl, rfl, rfl, by decide +kernel, rfl, by decide +kernel, by decide +kernel⟩
theorem sc_l_is_or_none : FnScope ["_law_found", "_law_due"] ["_law_found", "_law_due"] (defScope s_l_is_or_none) := ⟨rfl, rfl, rfl, by decide +kernel, rfl, by decide +kernel, by decide +kernel⟩
theorem sc_l_counted : FnScope ["_law_elders_here", "_law_deep", "_law_under", "_law_knot", "_law_now", "_law_many"] ["_law_elders_here"] (defScope s_l_counted) := ⟨rfl, rfl, rfl, by decide +kernel, rfl, by decide +kernel, by decide +kernel⟩
theorem sc_l_at : FnScope ["_law_some", "_law_i"] ["_law_some", "_law_i"] (defScope s_l_at) := ⟨rfl, rfl, rfl, by decide +kernel, rfl, by decide +kernel, by decide +kernel⟩
theorem sc_law : FnScope ["_law_script", "_law_elders_here", "_law_wood_here", "_law_children_here", "_law_deep", "_law_under", "_law_far", "_law_knot", "_law_some", "_law_i", "_law_tops"] ["_law_script"] (defScope s_law) := ⟨rfl, rfl, rfl, by decide +kernel, rfl, by decide +kernel, by decide +kernel⟩
theorem sc_Bits_init : FnScope ["self", "text", "sign"] ["self", "text"] (defScope s_Bits_init) := ⟨rfl, rfl, rfl, by decide +kernel, rfl, by decide +kernel, by decide +kernel⟩
theorem sc_Bits_size : FnScope ["self"] ["self"] (defScope s_Bits_size) := ⟨rfl, rfl, rfl, by decide +kernel, rfl, by decide +kernel, by decide +kernel⟩
theorem sc_Bits_words : FnScope ["self"] ["self"] (defScope s_Bits_words) := ⟨rfl, rfl, rfl, by decide +kernel, rfl, by decide +kernel, by decide +kernel⟩
theorem sc_Bits_need : FnScope ["self", "place", "most"] ["self", "place", "most"] (defScope s_Bits_need) := ⟨rfl, rfl, rfl, by decide +kernel, rfl, by decide +kernel, by decide +kernel⟩
theorem sc_Bits_at : FnScope ["self", "place"] ["self", "place"] (defScope s_Bits_at) := ⟨rfl, rfl, rfl, by decide +kernel, rfl, by decide +kernel, by decide +kernel⟩
theorem sc_Bits_bit : FnScope ["self", "place"] ["self", "place"] (defScope s_Bits_bit) := ⟨rfl, rfl, rfl, by decide +kernel, rfl, by decide +kernel, by decide +kernel⟩
theorem sc_Counts_init : FnScope ["self", "bits", "found", "start", "word"] ["self", "bits"] (defScope s_Counts_init) := ⟨rfl, rfl, rfl, by decide +kernel, rfl, by decide +kernel, by decide +kernel⟩
theorem sc_Counts_ones_ahead : FnScope ["self", "place", "word", "block", "found", "one"] ["self", "place"] (defScope s_Counts_ones_ahead) := ⟨rfl, rfl, rfl, by decide +kernel, rfl, by decide +kernel, by decide +kernel⟩
theorem sc_Counts_ahead : FnScope ["self", "bit", "place", "found"] ["self", "bit", "place"] (defScope s_Counts_ahead) := ⟨rfl, rfl, rfl, by decide +kernel, rfl, by decide +kernel, by decide +kernel⟩
theorem sc_Counts_like : FnScope ["self", "word", "bit"] ["self", "word", "bit"] (defScope s_Counts_like) := ⟨rfl, rfl, rfl, by decide +kernel, rfl, by decide +kernel, by decide +kernel⟩
theorem sc_Counts_like_ahead : FnScope ["self", "bit", "block"] ["self", "bit", "block"] (defScope s_Counts_like_ahead) := ⟨rfl, rfl, rfl, by decide +kernel, rfl, by decide +kernel, by decide +kernel⟩
theorem sc_Counts_all_like : FnScope ["self", "bit"] ["self", "bit"] (defScope s_Counts_all_like) := ⟨rfl, rfl, rfl, by decide +kernel, rfl, by decide +kernel, by decide +kernel⟩
theorem sc_Counts_block_of : FnScope ["self", "bit", "nth", "low", "high", "middle"] ["self", "bit", "nth"] (defScope s_Counts_block_of) := ⟨rfl, rfl, rfl, by decide +kernel, rfl, by decide +kernel, by decide +kernel⟩
theorem sc_Counts_place_of : FnScope ["self", "bit", "nth", "word", "left", "had"] ["self", "bit", "nth"] (defScope s_Counts_place_of) := ⟨rfl, rfl, rfl, by decide +kernel, rfl, by decide +kernel, by decide +kernel⟩
theorem sc_Pairs_init : FnScope ["self", "text"] ["self", "text"] (defScope s_Pairs_init) := ⟨rfl, rfl, rfl, by decide +kernel, rfl, by decide +kernel, by decide +kernel⟩
theorem sc_Pairs_size : FnScope ["self"] ["self"] (defScope s_Pairs_size) := ⟨rfl, rfl, rfl, by decide +kernel, rfl, by decide +kernel, by decide +kernel⟩
theorem sc_Pairs_opens_ahead : FnScope ["self", "place"] ["self", "place"] (defScope s_Pairs_opens_ahead) := ⟨rfl, rfl, rfl, by decide +kernel, rfl, by decide +kernel, by decide +kernel⟩
theorem sc_Pairs_opening : FnScope ["self", "number"] ["self", "number"] (defScope s_Pairs_opening) := ⟨rfl, rfl, rfl, by decide +kernel, rfl, by decide +kernel, by decide +kernel⟩
theorem sc_Pairs_height : FnScope ["self", "place"] ["self", "place"] (defScope s_Pairs_height) := ⟨rfl, rfl, rfl, by decide +kernel, rfl, by decide +kernel, by decide +kernel⟩
theorem sc_Pairs_step : FnScope ["self", "place"] ["self", "place"] (defScope s_Pairs_step) := ⟨rfl, rfl, rfl, by decide +kernel, rfl, by decide +kernel, by decide +kernel⟩
theorem sc_Pairs_first_in : FnScope ["self", "low", "high", "height", "now", "place"] ["self", "low", "high", "height"] (defScope s_Pairs_first_in) := ⟨rfl, rfl, rfl, by decide +kernel, rfl, by decide +kernel, by decide +kernel⟩
theorem sc_Pairs_ends_of : FnScope ["self", "stretch"] ["self", "stretch"] (defScope s_Pairs_ends_of) := ⟨rfl, rfl, rfl, by decide +kernel, rfl, by decide +kernel, by decide +kernel⟩
theorem sc_Pairs_next_at : FnScope ["self", "place", "height", "stretch", "begin", "least", "most", "low", "high", "found"] ["self", "place", "height"] (defScope s_Pairs_next_at) := ⟨rfl, rfl, rfl, by decide +kernel, rfl, by decide +kernel, by decide +kernel⟩
theorem sc_Pairs_ask_height : FnScope ["self", "place", "height"] ["self", "place", "height"] (defScope s_Pairs_ask_height) := ⟨rfl, rfl, rfl, by decide +kernel, rfl, by decide +kernel, by decide +kernel⟩
theorem sc_Pairs_opening_of : FnScope ["self", "place"] ["self", "place"] (defScope s_Pairs_opening_of) := ⟨rfl, rfl, rfl, by decide +kernel, rfl, by decide +kernel, by decide +kernel⟩
theorem sc_Pairs_partner : FnScope ["self", "place", "opening"] ["self", "place"] (defScope s_Pairs_partner) := ⟨rfl, rfl, rfl, by decide +kernel, rfl, by decide +kernel, by decide +kernel⟩
theorem sc_Pairs_depth : FnScope ["self", "place"] ["self", "place"] (defScope s_Pairs_depth) := ⟨rfl, rfl, rfl, by decide +kernel, rfl, by decide +kernel, by decide +kernel⟩
theorem sc_Opened_init : FnScope ["self", "elders"] ["self", "elders"] (defScope s_Opened_init) := ⟨rfl, rfl, rfl, by decide +kernel, rfl, by decide +kernel, by decide +kernel⟩
theorem sc_Opened_many_knots : FnScope ["self"] ["self"] (defScope s_Opened_many_knots) := ⟨rfl, rfl, rfl, by decide +kernel, rfl, by decide +kernel, by decide +kernel⟩
theorem sc_Opened_opening : FnScope ["self", "k"] ["self", "k"] (defScope s_Opened_opening) := ⟨rfl, rfl, rfl, by decide +kernel, rfl, by decide +kernel, by decide +kernel⟩
theorem sc_Opened_closing : FnScope ["self", "k"] ["self", "k"] (defScope s_Opened_closing) := ⟨rfl, rfl, rfl, by decide +kernel, rfl, by decide +kernel, by decide +kernel⟩
theorem sc_Opened_beside : FnScope ["self", "low", "high", "found", "knot", "deep", "place", "step"] ["self", "low", "high"] (defScope s_Opened_beside) := ⟨rfl, rfl, rfl, by decide +kernel, rfl, by decide +kernel, by decide +kernel⟩
theorem sc_Opened_children : FnScope ["self", "k", "low"] ["self", "k"] (defScope s_Opened_children) := ⟨rfl, rfl, rfl, by decide +kernel, rfl, by decide +kernel, by decide +kernel⟩
theorem sc_Opened_many : FnScope ["self", "k"] ["self", "k"] (defScope s_Opened_many) := ⟨rfl, rfl, rfl, by decide +kernel, rfl, by decide +kernel, by decide +kernel⟩
theorem sc_Opened_nth : FnScope ["self", "k", "i"] ["self", "k", "i"] (defScope s_Opened_nth) := ⟨rfl, rfl, rfl, by decide +kernel, rfl, by decide +kernel, by decide +kernel⟩
theorem sc_Opened_top : FnScope ["self", "i"] ["self", "i"] (defScope s_Opened_top) := ⟨rfl, rfl, rfl, by decide +kernel, rfl, by decide +kernel, by decide +kernel⟩
theorem sc_Opened_many_tops : FnScope ["self"] ["self"] (defScope s_Opened_many_tops) := ⟨rfl, rfl, rfl, by decide +kernel, rfl, by decide +kernel, by decide +kernel⟩
theorem sc_Opened_beneath : FnScope ["self", "k"] ["self", "k"] (defScope s_Opened_beneath) := ⟨rfl, rfl, rfl, by decide +kernel, rfl, by decide +kernel, by decide +kernel⟩
theorem sc_Opened_depth : FnScope ["self", "k"] ["self", "k"] (defScope s_Opened_depth) := ⟨rfl, rfl, rfl, by decide +kernel, rfl, by decide +kernel, by decide +kernel⟩
def d_ones_in : He.DefD := ⟨("ones_in", none), "ones_in", "ones_in", defArgs s_ones_in, defBody s_ones_in, defScope s_ones_in, [], []⟩
def d_nth_one : He.DefD := ⟨("nth_one", none), "nth_one", "nth_one", defArgs s_nth_one, defBody s_nth_one, defScope s_nth_one, [], []⟩
def d_is_amid : He.DefD := ⟨("is_amid", none), "is_amid", "is_amid", defArgs s_is_amid, defBody s_is_amid, defScope s_is_amid, [], []⟩
def d_words_of : He.DefD := ⟨("words_of", none), "words_of", "words_of", defArgs s_words_of, defBody s_words_of, defScope s_words_of, [], []⟩
def d_is_whole_counts : He.DefD := ⟨("is_whole_counts", none), "is_whole", "is_whole", defArgs s_is_whole_counts, defBody s_is_whole_counts, defScope s_is_whole_counts, [], []⟩
def d_need_bit : He.DefD := ⟨("need_bit", none), "need_bit", "need_bit", defArgs s_need_bit, defBody s_need_bit, defScope s_need_bit, [], []⟩
def d_is_whole_pairs : He.DefD := ⟨("is_whole_pairs", none), "is_whole", "is_whole", defArgs s_is_whole_pairs, defBody s_is_whole_pairs, defScope s_is_whole_pairs, [], []⟩
def d_ask_row : He.DefD := ⟨("ask_row", none), "ask_row", "ask_row", defArgs s_ask_row, defBody s_ask_row, defScope s_ask_row, [], []⟩
def d_table_of : He.DefD := ⟨("table_of", none), "table_of", "table_of", defArgs s_table_of, defBody s_table_of, defScope s_table_of, [], []⟩
def d_look_at : He.DefD := ⟨("look_at", none), "look_at", "look_at", defArgs s_look_at, defBody s_look_at, defScope s_look_at, [], []⟩
def d_row_of : He.DefD := ⟨("row_of", none), "row_of", "row_of", defArgs s_row_of, defBody s_row_of, defScope s_row_of, [], []⟩
def d_is_number : He.DefD := ⟨("is_number", none), "is_number", "is_number", defArgs s_is_number, defBody s_is_number, defScope s_is_number, [], []⟩
def d_one_of : He.DefD := ⟨("one_of", none), "one_of", "one_of", defArgs s_one_of, defBody s_one_of, defScope s_one_of, [], []⟩
def d_l_cell_at : He.DefD := ⟨("_law_cell_at", none), "_law_cell_at", "_law_cell_at", defArgs s_l_cell_at, defBody s_l_cell_at, defScope s_l_cell_at, [], []⟩
def d_l_mixed : He.DefD := ⟨("_law_mixed", none), "_law_mixed", "_law_mixed", defArgs s_l_mixed, defBody s_l_mixed, defScope s_l_mixed, [], []⟩
def d_l_elders : He.DefD := ⟨("_law_elders", none), "_law_elders", "_law_elders", defArgs s_l_elders, defBody s_l_elders, defScope s_l_elders, [], []⟩
def d_l_wood : He.DefD := ⟨("_law_wood", none), "_law_wood", "_law_wood", defArgs s_l_wood, defBody s_l_wood, defScope s_l_wood, [], []⟩
def d_l_children : He.DefD := ⟨("_law_children", none), "_law_children", "_law_children", defArgs s_l_children, defBody s_l_children, defScope s_l_children, [], []⟩
def d_l_is : He.DefD := ⟨("_law_is", none), "_law_is", "_law_is", defArgs s_l_is, defBody s_l_is, defScope s_l_is, [], []⟩
def d_l_is_or_none : He.DefD := ⟨("_law_is_or_none", none), "_law_is_or_none", "_law_is_or_none", defArgs s_l_is_or_none, defBody s_l_is_or_none, defScope s_l_is_or_none, [], []⟩
def d_l_counted : He.DefD := ⟨("_law_counted", none), "_law_counted", "_law_counted", defArgs s_l_counted, defBody s_l_counted, defScope s_l_counted, [], []⟩
def d_l_at : He.DefD := ⟨("_law_at", none), "_law_at", "_law_at", defArgs s_l_at, defBody s_l_at, defScope s_l_at, [], []⟩
def d_law : He.DefD := ⟨("law", none), "law", "law", defArgs s_law, defBody s_law, defScope s_law, [], []⟩
def d_Bits_init : He.DefD := ⟨("Bits", some "__init__"), "__init__", "Bits.__init__", defArgs s_Bits_init, defBody s_Bits_init, defScope s_Bits_init, [], []⟩
def d_Bits_size : He.DefD := ⟨("Bits", some "size"), "size", "Bits.size", defArgs s_Bits_size, defBody s_Bits_size, defScope s_Bits_size, [], []⟩
def d_Bits_words : He.DefD := ⟨("Bits", some "words"), "words", "Bits.words", defArgs s_Bits_words, defBody s_Bits_words, defScope s_Bits_words, [], []⟩
def d_Bits_need : He.DefD := ⟨("Bits", some "need"), "need", "Bits.need", defArgs s_Bits_need, defBody s_Bits_need, defScope s_Bits_need, [], []⟩
def d_Bits_at : He.DefD := ⟨("Bits", some "at"), "at", "Bits.at", defArgs s_Bits_at, defBody s_Bits_at, defScope s_Bits_at, [], []⟩
def d_Bits_bit : He.DefD := ⟨("Bits", some "bit"), "bit", "Bits.bit", defArgs s_Bits_bit, defBody s_Bits_bit, defScope s_Bits_bit, [], []⟩
def d_Counts_init : He.DefD := ⟨("Counts", some "__init__"), "__init__", "Counts.__init__", defArgs s_Counts_init, defBody s_Counts_init, defScope s_Counts_init, [], []⟩
def d_Counts_ones_ahead : He.DefD := ⟨("Counts", some "ones_ahead"), "ones_ahead", "Counts.ones_ahead", defArgs s_Counts_ones_ahead, defBody s_Counts_ones_ahead, defScope s_Counts_ones_ahead, [], []⟩
def d_Counts_ahead : He.DefD := ⟨("Counts", some "ahead"), "ahead", "Counts.ahead", defArgs s_Counts_ahead, defBody s_Counts_ahead, defScope s_Counts_ahead, [], []⟩
def d_Counts_like : He.DefD := ⟨("Counts", some "like"), "like", "Counts.like", defArgs s_Counts_like, defBody s_Counts_like, defScope s_Counts_like, [], []⟩
def d_Counts_like_ahead : He.DefD := ⟨("Counts", some "like_ahead"), "like_ahead", "Counts.like_ahead", defArgs s_Counts_like_ahead, defBody s_Counts_like_ahead, defScope s_Counts_like_ahead, [], []⟩
def d_Counts_all_like : He.DefD := ⟨("Counts", some "all_like"), "all_like", "Counts.all_like", defArgs s_Counts_all_like, defBody s_Counts_all_like, defScope s_Counts_all_like, [], []⟩
def d_Counts_block_of : He.DefD := ⟨("Counts", some "block_of"), "block_of", "Counts.block_of", defArgs s_Counts_block_of, defBody s_Counts_block_of, defScope s_Counts_block_of, [], []⟩
def d_Counts_place_of : He.DefD := ⟨("Counts", some "place_of"), "place_of", "Counts.place_of", defArgs s_Counts_place_of, defBody s_Counts_place_of, defScope s_Counts_place_of, [], []⟩
def d_Pairs_init : He.DefD := ⟨("Pairs", some "__init__"), "__init__", "Pairs.__init__", defArgs s_Pairs_init, defBody s_Pairs_init, defScope s_Pairs_init, [], []⟩
def d_Pairs_size : He.DefD := ⟨("Pairs", some "size"), "size", "Pairs.size", defArgs s_Pairs_size, defBody s_Pairs_size, defScope s_Pairs_size, [], []⟩
def d_Pairs_opens_ahead : He.DefD := ⟨("Pairs", some "opens_ahead"), "opens_ahead", "Pairs.opens_ahead", defArgs s_Pairs_opens_ahead, defBody s_Pairs_opens_ahead, defScope s_Pairs_opens_ahead, [], []⟩
def d_Pairs_opening : He.DefD := ⟨("Pairs", some "opening"), "opening", "Pairs.opening", defArgs s_Pairs_opening, defBody s_Pairs_opening, defScope s_Pairs_opening, [], []⟩
def d_Pairs_height : He.DefD := ⟨("Pairs", some "height"), "height", "Pairs.height", defArgs s_Pairs_height, defBody s_Pairs_height, defScope s_Pairs_height, [], []⟩
def d_Pairs_step : He.DefD := ⟨("Pairs", some "step"), "step", "Pairs.step", defArgs s_Pairs_step, defBody s_Pairs_step, defScope s_Pairs_step, [], []⟩
def d_Pairs_first_in : He.DefD := ⟨("Pairs", some "first_in"), "first_in", "Pairs.first_in", defArgs s_Pairs_first_in, defBody s_Pairs_first_in, defScope s_Pairs_first_in, [], []⟩
def d_Pairs_ends_of : He.DefD := ⟨("Pairs", some "ends_of"), "ends_of", "Pairs.ends_of", defArgs s_Pairs_ends_of, defBody s_Pairs_ends_of, defScope s_Pairs_ends_of, [], []⟩
def d_Pairs_next_at : He.DefD := ⟨("Pairs", some "next_at"), "next_at", "Pairs.next_at", defArgs s_Pairs_next_at, defBody s_Pairs_next_at, defScope s_Pairs_next_at, [], []⟩
def d_Pairs_ask_height : He.DefD := ⟨("Pairs", some "ask_height"), "ask_height", "Pairs.ask_height", defArgs s_Pairs_ask_height, defBody s_Pairs_ask_height, defScope s_Pairs_ask_height, [], []⟩
def d_Pairs_opening_of : He.DefD := ⟨("Pairs", some "opening_of"), "opening_of", "Pairs.opening_of", defArgs s_Pairs_opening_of, defBody s_Pairs_opening_of, defScope s_Pairs_opening_of, [], []⟩
def d_Pairs_partner : He.DefD := ⟨("Pairs", some "partner"), "partner", "Pairs.partner", defArgs s_Pairs_partner, defBody s_Pairs_partner, defScope s_Pairs_partner, [], []⟩
def d_Pairs_depth : He.DefD := ⟨("Pairs", some "depth"), "depth", "Pairs.depth", defArgs s_Pairs_depth, defBody s_Pairs_depth, defScope s_Pairs_depth, [], []⟩
def d_Opened_init : He.DefD := ⟨("Opened", some "__init__"), "__init__", "Opened.__init__", defArgs s_Opened_init, defBody s_Opened_init, defScope s_Opened_init, [], []⟩
def d_Opened_many_knots : He.DefD := ⟨("Opened", some "many_knots"), "many_knots", "Opened.many_knots", defArgs s_Opened_many_knots, defBody s_Opened_many_knots, defScope s_Opened_many_knots, [], []⟩
def d_Opened_opening : He.DefD := ⟨("Opened", some "opening"), "opening", "Opened.opening", defArgs s_Opened_opening, defBody s_Opened_opening, defScope s_Opened_opening, [], []⟩
def d_Opened_closing : He.DefD := ⟨("Opened", some "closing"), "closing", "Opened.closing", defArgs s_Opened_closing, defBody s_Opened_closing, defScope s_Opened_closing, [], []⟩
def d_Opened_beside : He.DefD := ⟨("Opened", some "beside"), "beside", "Opened.beside", defArgs s_Opened_beside, defBody s_Opened_beside, defScope s_Opened_beside, [], []⟩
def d_Opened_children : He.DefD := ⟨("Opened", some "children"), "children", "Opened.children", defArgs s_Opened_children, defBody s_Opened_children, defScope s_Opened_children, [], []⟩
def d_Opened_many : He.DefD := ⟨("Opened", some "many"), "many", "Opened.many", defArgs s_Opened_many, defBody s_Opened_many, defScope s_Opened_many, [], []⟩
def d_Opened_nth : He.DefD := ⟨("Opened", some "nth"), "nth", "Opened.nth", defArgs s_Opened_nth, defBody s_Opened_nth, defScope s_Opened_nth, [], []⟩
def d_Opened_top : He.DefD := ⟨("Opened", some "top"), "top", "Opened.top", defArgs s_Opened_top, defBody s_Opened_top, defScope s_Opened_top, [], []⟩
def d_Opened_many_tops : He.DefD := ⟨("Opened", some "many_tops"), "many_tops", "Opened.many_tops", defArgs s_Opened_many_tops, defBody s_Opened_many_tops, defScope s_Opened_many_tops, [], []⟩
def d_Opened_beneath : He.DefD := ⟨("Opened", some "beneath"), "beneath", "Opened.beneath", defArgs s_Opened_beneath, defBody s_Opened_beneath, defScope s_Opened_beneath, [], []⟩
def d_Opened_depth : He.DefD := ⟨("Opened", some "depth"), "depth", "Opened.depth", defArgs s_Opened_depth, defBody s_Opened_depth, defScope s_Opened_depth, [], []⟩
def fn0 : List He.DefD := [d_ones_in, d_nth_one, d_is_amid, d_words_of, d_is_whole_counts, d_need_bit, d_is_whole_pairs, d_ask_row, d_table_of, d_look_at, d_row_of, d_is_number, d_one_of, d_l_cell_at, d_l_mixed, d_l_elders, d_l_wood, d_l_children, d_l_is, d_l_is_or_none, d_l_counted, d_l_at, d_law, d_Bits_init, d_Bits_size, d_Bits_words, d_Bits_need, d_Bits_at, d_Bits_bit, d_Counts_init]
def fn1 : List He.DefD := [d_Counts_ones_ahead, d_Counts_ahead, d_Counts_like, d_Counts_like_ahead, d_Counts_all_like, d_Counts_block_of, d_Counts_place_of, d_Pairs_init, d_Pairs_size, d_Pairs_opens_ahead, d_Pairs_opening, d_Pairs_height, d_Pairs_step, d_Pairs_first_in, d_Pairs_ends_of, d_Pairs_next_at, d_Pairs_ask_height, d_Pairs_opening_of, d_Pairs_partner, d_Pairs_depth, d_Opened_init, d_Opened_many_knots, d_Opened_opening, d_Opened_closing, d_Opened_beside, d_Opened_children, d_Opened_many, d_Opened_nth, d_Opened_top, d_Opened_many_tops]
def fn2 : List He.DefD := [d_Opened_beneath, d_Opened_depth]
def fn : List He.DefD := fn0 ++ fn1 ++ fn2
def fa0 : List He.Fa := [.glo "ones_in", .glo "nth_one", .glo "is_amid", .glo "words_of", .glo "is_whole_counts", .glo "need_bit", .glo "is_whole_pairs", .glo "ask_row", .glo "table_of", .glo "look_at", .glo "row_of", .glo "is_number", .glo "one_of", .glo "_law_cell_at", .glo "_law_mixed", .glo "_law_elders", .glo "_law_wood", .glo "_law_children", .glo "_law_is", .glo "_law_is_or_none", .glo "_law_counted", .glo "_law_at", .glo "law", .glo "Bits", .glo "Counts", .glo "Pairs", .glo "Opened", .free "isinstance", .free "int", .free "bool"]
def fa1 : List He.Fa := [.free "str", .free "len", .free "range", .free "enumerate", .free "tuple", .free "sum", .free "min", .free "max", .free "list", .free "abs", .free "all", .int "WORD_words" 32, .int "MOST_bits" 20000, .int "BLOCK" 8, .int "STRETCH" 256, .int "MOST_pairs" 8192, .int "WORD_pairs" 32, .int "MOST_woods" 4000, .cls "Bits", .mkr "Bits", .noat "Bits" "kept", .noat "Bits" "length", .meth "Bits" "size", .meth "Bits" "words", .meth "Bits" "need", .meth "Bits" "at", .meth "Bits" "bit", .cls "Counts", .mkr "Counts", .noat "Counts" "kept"]
def fa2 : List He.Fa := [.noat "Counts" "all_many", .noat "Counts" "heads", .meth "Counts" "ones_ahead", .meth "Counts" "ahead", .meth "Counts" "like", .meth "Counts" "like_ahead", .meth "Counts" "all_like", .meth "Counts" "block_of", .meth "Counts" "place_of", .cls "Pairs", .mkr "Pairs", .noat "Pairs" "bits", .noat "Pairs" "kept", .noat "Pairs" "counts", .noat "Pairs" "laid", .meth "Pairs" "size", .meth "Pairs" "opens_ahead", .meth "Pairs" "opening", .meth "Pairs" "height", .meth "Pairs" "step", .meth "Pairs" "first_in", .meth "Pairs" "ends_of", .meth "Pairs" "next_at", .meth "Pairs" "ask_height", .meth "Pairs" "opening_of", .meth "Pairs" "partner", .meth "Pairs" "depth", .cls "Opened", .mkr "Opened", .noat "Opened" "pairs"]
def fa3 : List He.Fa := [.meth "Opened" "many_knots", .meth "Opened" "opening", .meth "Opened" "closing", .meth "Opened" "beside", .meth "Opened" "children", .meth "Opened" "many", .meth "Opened" "nth", .meth "Opened" "top", .meth "Opened" "many_tops", .meth "Opened" "beneath", .meth "Opened" "depth"]
def fa : List He.Fa := fa0 ++ fa1 ++ fa2 ++ fa3
/-- what the walks ask of the top -/
structure Top (K : PySem.W.Frag) (mg : Str → Option Value) : Prop where
  g_ones_in : mg "ones_in" = some (.ref (He.ga K "ones_in"))
  g_nth_one : mg "nth_one" = some (.ref (He.ga K "nth_one"))
  g_is_amid : mg "is_amid" = some (.ref (He.ga K "is_amid"))
  g_words_of : mg "words_of" = some (.ref (He.ga K "words_of"))
  g_is_whole_counts : mg "is_whole_counts" = some (.ref (He.ga K "is_whole_counts"))
  g_need_bit : mg "need_bit" = some (.ref (He.ga K "need_bit"))
  g_is_whole_pairs : mg "is_whole_pairs" = some (.ref (He.ga K "is_whole_pairs"))
  g_ask_row : mg "ask_row" = some (.ref (He.ga K "ask_row"))
  g_table_of : mg "table_of" = some (.ref (He.ga K "table_of"))
  g_look_at : mg "look_at" = some (.ref (He.ga K "look_at"))
  g_row_of : mg "row_of" = some (.ref (He.ga K "row_of"))
  g_is_number : mg "is_number" = some (.ref (He.ga K "is_number"))
  g_one_of : mg "one_of" = some (.ref (He.ga K "one_of"))
  g_l_cell_at : mg "_law_cell_at" = some (.ref (He.ga K "_law_cell_at"))
  g_l_mixed : mg "_law_mixed" = some (.ref (He.ga K "_law_mixed"))
  g_l_elders : mg "_law_elders" = some (.ref (He.ga K "_law_elders"))
  g_l_wood : mg "_law_wood" = some (.ref (He.ga K "_law_wood"))
  g_l_children : mg "_law_children" = some (.ref (He.ga K "_law_children"))
  g_l_is : mg "_law_is" = some (.ref (He.ga K "_law_is"))
  g_l_is_or_none : mg "_law_is_or_none" = some (.ref (He.ga K "_law_is_or_none"))
  g_l_counted : mg "_law_counted" = some (.ref (He.ga K "_law_counted"))
  g_l_at : mg "_law_at" = some (.ref (He.ga K "_law_at"))
  g_law : mg "law" = some (.ref (He.ga K "law"))
  g_Bits : mg "Bits" = some (.ref (He.ga K "Bits"))
  g_Counts : mg "Counts" = some (.ref (He.ga K "Counts"))
  g_Pairs : mg "Pairs" = some (.ref (He.ga K "Pairs"))
  g_Opened : mg "Opened" = some (.ref (He.ga K "Opened"))
  b_isinstance : mg "isinstance" = none
  b_int : mg "int" = none
  b_bool : mg "bool" = none
  b_str : mg "str" = none
  b_len : mg "len" = none
  b_range : mg "range" = none
  b_enumerate : mg "enumerate" = none
  b_tuple : mg "tuple" = none
  b_sum : mg "sum" = none
  b_min : mg "min" = none
  b_max : mg "max" = none
  b_list : mg "list" = none
  b_abs : mg "abs" = none
  b_all : mg "all" = none
  c_WORD_words : ∃ t, mg "WORD_words" = some (.int 32 t)
  c_MOST_bits : ∃ t, mg "MOST_bits" = some (.int 20000 t)
  c_BLOCK : ∃ t, mg "BLOCK" = some (.int 8 t)
  c_STRETCH : ∃ t, mg "STRETCH" = some (.int 256 t)
  c_MOST_pairs : ∃ t, mg "MOST_pairs" = some (.int 8192 t)
  c_WORD_pairs : ∃ t, mg "WORD_pairs" = some (.int 32 t)
  c_MOST_woods : ∃ t, mg "MOST_woods" = some (.int 4000 t)
  cl_Bits : Cls K (He.ga K "Bits")
  mk_Bits : Mk K (He.ga K "Bits") (He.ma K (He.ga K "Bits") "__init__")
  n_Bits_kept : NoAttr K (He.ga K "Bits") "kept"
  n_Bits_length : NoAttr K (He.ga K "Bits") "length"
  m_Bits_size : Meth K (He.ga K "Bits") "size" (He.ma K (He.ga K "Bits") "size")
  m_Bits_words : Meth K (He.ga K "Bits") "words" (He.ma K (He.ga K "Bits") "words")
  m_Bits_need : Meth K (He.ga K "Bits") "need" (He.ma K (He.ga K "Bits") "need")
  m_Bits_at : Meth K (He.ga K "Bits") "at" (He.ma K (He.ga K "Bits") "at")
  m_Bits_bit : Meth K (He.ga K "Bits") "bit" (He.ma K (He.ga K "Bits") "bit")
  cl_Counts : Cls K (He.ga K "Counts")
  mk_Counts : Mk K (He.ga K "Counts") (He.ma K (He.ga K "Counts") "__init__")
  n_Counts_kept : NoAttr K (He.ga K "Counts") "kept"
  n_Counts_all_many : NoAttr K (He.ga K "Counts") "all_many"
  n_Counts_heads : NoAttr K (He.ga K "Counts") "heads"
  m_Counts_ones_ahead : Meth K (He.ga K "Counts") "ones_ahead" (He.ma K (He.ga K "Counts") "ones_ahead")
  m_Counts_ahead : Meth K (He.ga K "Counts") "ahead" (He.ma K (He.ga K "Counts") "ahead")
  m_Counts_like : Meth K (He.ga K "Counts") "like" (He.ma K (He.ga K "Counts") "like")
  m_Counts_like_ahead : Meth K (He.ga K "Counts") "like_ahead" (He.ma K (He.ga K "Counts") "like_ahead")
  m_Counts_all_like : Meth K (He.ga K "Counts") "all_like" (He.ma K (He.ga K "Counts") "all_like")
  m_Counts_block_of : Meth K (He.ga K "Counts") "block_of" (He.ma K (He.ga K "Counts") "block_of")
  m_Counts_place_of : Meth K (He.ga K "Counts") "place_of" (He.ma K (He.ga K "Counts") "place_of")
  cl_Pairs : Cls K (He.ga K "Pairs")
  mk_Pairs : Mk K (He.ga K "Pairs") (He.ma K (He.ga K "Pairs") "__init__")
  n_Pairs_bits : NoAttr K (He.ga K "Pairs") "bits"
  n_Pairs_kept : NoAttr K (He.ga K "Pairs") "kept"
  n_Pairs_counts : NoAttr K (He.ga K "Pairs") "counts"
  n_Pairs_laid : NoAttr K (He.ga K "Pairs") "laid"
  m_Pairs_size : Meth K (He.ga K "Pairs") "size" (He.ma K (He.ga K "Pairs") "size")
  m_Pairs_opens_ahead : Meth K (He.ga K "Pairs") "opens_ahead" (He.ma K (He.ga K "Pairs") "opens_ahead")
  m_Pairs_opening : Meth K (He.ga K "Pairs") "opening" (He.ma K (He.ga K "Pairs") "opening")
  m_Pairs_height : Meth K (He.ga K "Pairs") "height" (He.ma K (He.ga K "Pairs") "height")
  m_Pairs_step : Meth K (He.ga K "Pairs") "step" (He.ma K (He.ga K "Pairs") "step")
  m_Pairs_first_in : Meth K (He.ga K "Pairs") "first_in" (He.ma K (He.ga K "Pairs") "first_in")
  m_Pairs_ends_of : Meth K (He.ga K "Pairs") "ends_of" (He.ma K (He.ga K "Pairs") "ends_of")
  m_Pairs_next_at : Meth K (He.ga K "Pairs") "next_at" (He.ma K (He.ga K "Pairs") "next_at")
  m_Pairs_ask_height : Meth K (He.ga K "Pairs") "ask_height" (He.ma K (He.ga K "Pairs") "ask_height")
  m_Pairs_opening_of : Meth K (He.ga K "Pairs") "opening_of" (He.ma K (He.ga K "Pairs") "opening_of")
  m_Pairs_partner : Meth K (He.ga K "Pairs") "partner" (He.ma K (He.ga K "Pairs") "partner")
  m_Pairs_depth : Meth K (He.ga K "Pairs") "depth" (He.ma K (He.ga K "Pairs") "depth")
  cl_Opened : Cls K (He.ga K "Opened")
  mk_Opened : Mk K (He.ga K "Opened") (He.ma K (He.ga K "Opened") "__init__")
  n_Opened_pairs : NoAttr K (He.ga K "Opened") "pairs"
  m_Opened_many_knots : Meth K (He.ga K "Opened") "many_knots" (He.ma K (He.ga K "Opened") "many_knots")
  m_Opened_opening : Meth K (He.ga K "Opened") "opening" (He.ma K (He.ga K "Opened") "opening")
  m_Opened_closing : Meth K (He.ga K "Opened") "closing" (He.ma K (He.ga K "Opened") "closing")
  m_Opened_beside : Meth K (He.ga K "Opened") "beside" (He.ma K (He.ga K "Opened") "beside")
  m_Opened_children : Meth K (He.ga K "Opened") "children" (He.ma K (He.ga K "Opened") "children")
  m_Opened_many : Meth K (He.ga K "Opened") "many" (He.ma K (He.ga K "Opened") "many")
  m_Opened_nth : Meth K (He.ga K "Opened") "nth" (He.ma K (He.ga K "Opened") "nth")
  m_Opened_top : Meth K (He.ga K "Opened") "top" (He.ma K (He.ga K "Opened") "top")
  m_Opened_many_tops : Meth K (He.ga K "Opened") "many_tops" (He.ma K (He.ga K "Opened") "many_tops")
  m_Opened_beneath : Meth K (He.ga K "Opened") "beneath" (He.ma K (He.ga K "Opened") "beneath")
  m_Opened_depth : Meth K (He.ga K "Opened") "depth" (He.ma K (He.ga K "Opened") "depth")
  f_ones_in : ∃ fd, FunD K "ones_in" "ones_in" (defArgs s_ones_in) (defBody s_ones_in) (defScope s_ones_in) [] [] (He.ga K "ones_in") fd
  f_nth_one : ∃ fd, FunD K "nth_one" "nth_one" (defArgs s_nth_one) (defBody s_nth_one) (defScope s_nth_one) [] [] (He.ga K "nth_one") fd
  f_is_amid : ∃ fd, FunD K "is_amid" "is_amid" (defArgs s_is_amid) (defBody s_is_amid) (defScope s_is_amid) [] [] (He.ga K "is_amid") fd
  f_words_of : ∃ fd, FunD K "words_of" "words_of" (defArgs s_words_of) (defBody s_words_of) (defScope s_words_of) [] [] (He.ga K "words_of") fd
  f_is_whole_counts : ∃ fd, FunD K "is_whole" "is_whole" (defArgs s_is_whole_counts) (defBody s_is_whole_counts) (defScope s_is_whole_counts) [] [] (He.ga K "is_whole_counts") fd
  f_need_bit : ∃ fd, FunD K "need_bit" "need_bit" (defArgs s_need_bit) (defBody s_need_bit) (defScope s_need_bit) [] [] (He.ga K "need_bit") fd
  f_is_whole_pairs : ∃ fd, FunD K "is_whole" "is_whole" (defArgs s_is_whole_pairs) (defBody s_is_whole_pairs) (defScope s_is_whole_pairs) [] [] (He.ga K "is_whole_pairs") fd
  f_ask_row : ∃ fd, FunD K "ask_row" "ask_row" (defArgs s_ask_row) (defBody s_ask_row) (defScope s_ask_row) [] [] (He.ga K "ask_row") fd
  f_table_of : ∃ fd, FunD K "table_of" "table_of" (defArgs s_table_of) (defBody s_table_of) (defScope s_table_of) [] [] (He.ga K "table_of") fd
  f_look_at : ∃ fd, FunD K "look_at" "look_at" (defArgs s_look_at) (defBody s_look_at) (defScope s_look_at) [] [] (He.ga K "look_at") fd
  f_row_of : ∃ fd, FunD K "row_of" "row_of" (defArgs s_row_of) (defBody s_row_of) (defScope s_row_of) [] [] (He.ga K "row_of") fd
  f_is_number : ∃ fd, FunD K "is_number" "is_number" (defArgs s_is_number) (defBody s_is_number) (defScope s_is_number) [] [] (He.ga K "is_number") fd
  f_one_of : ∃ fd, FunD K "one_of" "one_of" (defArgs s_one_of) (defBody s_one_of) (defScope s_one_of) [] [] (He.ga K "one_of") fd
  f_l_cell_at : ∃ fd, FunD K "_law_cell_at" "_law_cell_at" (defArgs s_l_cell_at) (defBody s_l_cell_at) (defScope s_l_cell_at) [] [] (He.ga K "_law_cell_at") fd
  f_l_mixed : ∃ fd, FunD K "_law_mixed" "_law_mixed" (defArgs s_l_mixed) (defBody s_l_mixed) (defScope s_l_mixed) [] [] (He.ga K "_law_mixed") fd
  f_l_elders : ∃ fd, FunD K "_law_elders" "_law_elders" (defArgs s_l_elders) (defBody s_l_elders) (defScope s_l_elders) [] [] (He.ga K "_law_elders") fd
  f_l_wood : ∃ fd, FunD K "_law_wood" "_law_wood" (defArgs s_l_wood) (defBody s_l_wood) (defScope s_l_wood) [] [] (He.ga K "_law_wood") fd
  f_l_children : ∃ fd, FunD K "_law_children" "_law_children" (defArgs s_l_children) (defBody s_l_children) (defScope s_l_children) [] [] (He.ga K "_law_children") fd
  f_l_is : ∃ fd, FunD K "_law_is" "_law_is" (defArgs s_l_is) (defBody s_l_is) (defScope s_l_is) [] [] (He.ga K "_law_is") fd
  f_l_is_or_none : ∃ fd, FunD K "_law_is_or_none" "_law_is_or_none" (defArgs s_l_is_or_none) (defBody s_l_is_or_none) (defScope s_l_is_or_none) [] [] (He.ga K "_law_is_or_none") fd
  f_l_counted : ∃ fd, FunD K "_law_counted" "_law_counted" (defArgs s_l_counted) (defBody s_l_counted) (defScope s_l_counted) [] [] (He.ga K "_law_counted") fd
  f_l_at : ∃ fd, FunD K "_law_at" "_law_at" (defArgs s_l_at) (defBody s_l_at) (defScope s_l_at) [] [] (He.ga K "_law_at") fd
  f_law : ∃ fd, FunD K "law" "law" (defArgs s_law) (defBody s_law) (defScope s_law) [] [] (He.ga K "law") fd
  f_Bits_init : ∃ fd, FunD K "__init__" "Bits.__init__" (defArgs s_Bits_init) (defBody s_Bits_init) (defScope s_Bits_init) [] [] (He.ma K (He.ga K "Bits") "__init__") fd
  f_Bits_size : ∃ fd, FunD K "size" "Bits.size" (defArgs s_Bits_size) (defBody s_Bits_size) (defScope s_Bits_size) [] [] (He.ma K (He.ga K "Bits") "size") fd
  f_Bits_words : ∃ fd, FunD K "words" "Bits.words" (defArgs s_Bits_words) (defBody s_Bits_words) (defScope s_Bits_words) [] [] (He.ma K (He.ga K "Bits") "words") fd
  f_Bits_need : ∃ fd, FunD K "need" "Bits.need" (defArgs s_Bits_need) (defBody s_Bits_need) (defScope s_Bits_need) [] [] (He.ma K (He.ga K "Bits") "need") fd
  f_Bits_at : ∃ fd, FunD K "at" "Bits.at" (defArgs s_Bits_at) (defBody s_Bits_at) (defScope s_Bits_at) [] [] (He.ma K (He.ga K "Bits") "at") fd
  f_Bits_bit : ∃ fd, FunD K "bit" "Bits.bit" (defArgs s_Bits_bit) (defBody s_Bits_bit) (defScope s_Bits_bit) [] [] (He.ma K (He.ga K "Bits") "bit") fd
  f_Counts_init : ∃ fd, FunD K "__init__" "Counts.__init__" (defArgs s_Counts_init) (defBody s_Counts_init) (defScope s_Counts_init) [] [] (He.ma K (He.ga K "Counts") "__init__") fd
  f_Counts_ones_ahead : ∃ fd, FunD K "ones_ahead" "Counts.ones_ahead" (defArgs s_Counts_ones_ahead) (defBody s_Counts_ones_ahead) (defScope s_Counts_ones_ahead) [] [] (He.ma K (He.ga K "Counts") "ones_ahead") fd
  f_Counts_ahead : ∃ fd, FunD K "ahead" "Counts.ahead" (defArgs s_Counts_ahead) (defBody s_Counts_ahead) (defScope s_Counts_ahead) [] [] (He.ma K (He.ga K "Counts") "ahead") fd
  f_Counts_like : ∃ fd, FunD K "like" "Counts.like" (defArgs s_Counts_like) (defBody s_Counts_like) (defScope s_Counts_like) [] [] (He.ma K (He.ga K "Counts") "like") fd
  f_Counts_like_ahead : ∃ fd, FunD K "like_ahead" "Counts.like_ahead" (defArgs s_Counts_like_ahead) (defBody s_Counts_like_ahead) (defScope s_Counts_like_ahead) [] [] (He.ma K (He.ga K "Counts") "like_ahead") fd
  f_Counts_all_like : ∃ fd, FunD K "all_like" "Counts.all_like" (defArgs s_Counts_all_like) (defBody s_Counts_all_like) (defScope s_Counts_all_like) [] [] (He.ma K (He.ga K "Counts") "all_like") fd
  f_Counts_block_of : ∃ fd, FunD K "block_of" "Counts.block_of" (defArgs s_Counts_block_of) (defBody s_Counts_block_of) (defScope s_Counts_block_of) [] [] (He.ma K (He.ga K "Counts") "block_of") fd
  f_Counts_place_of : ∃ fd, FunD K "place_of" "Counts.place_of" (defArgs s_Counts_place_of) (defBody s_Counts_place_of) (defScope s_Counts_place_of) [] [] (He.ma K (He.ga K "Counts") "place_of") fd
  f_Pairs_init : ∃ fd, FunD K "__init__" "Pairs.__init__" (defArgs s_Pairs_init) (defBody s_Pairs_init) (defScope s_Pairs_init) [] [] (He.ma K (He.ga K "Pairs") "__init__") fd
  f_Pairs_size : ∃ fd, FunD K "size" "Pairs.size" (defArgs s_Pairs_size) (defBody s_Pairs_size) (defScope s_Pairs_size) [] [] (He.ma K (He.ga K "Pairs") "size") fd
  f_Pairs_opens_ahead : ∃ fd, FunD K "opens_ahead" "Pairs.opens_ahead" (defArgs s_Pairs_opens_ahead) (defBody s_Pairs_opens_ahead) (defScope s_Pairs_opens_ahead) [] [] (He.ma K (He.ga K "Pairs") "opens_ahead") fd
  f_Pairs_opening : ∃ fd, FunD K "opening" "Pairs.opening" (defArgs s_Pairs_opening) (defBody s_Pairs_opening) (defScope s_Pairs_opening) [] [] (He.ma K (He.ga K "Pairs") "opening") fd
  f_Pairs_height : ∃ fd, FunD K "height" "Pairs.height" (defArgs s_Pairs_height) (defBody s_Pairs_height) (defScope s_Pairs_height) [] [] (He.ma K (He.ga K "Pairs") "height") fd
  f_Pairs_step : ∃ fd, FunD K "step" "Pairs.step" (defArgs s_Pairs_step) (defBody s_Pairs_step) (defScope s_Pairs_step) [] [] (He.ma K (He.ga K "Pairs") "step") fd
  f_Pairs_first_in : ∃ fd, FunD K "first_in" "Pairs.first_in" (defArgs s_Pairs_first_in) (defBody s_Pairs_first_in) (defScope s_Pairs_first_in) [] [] (He.ma K (He.ga K "Pairs") "first_in") fd
  f_Pairs_ends_of : ∃ fd, FunD K "ends_of" "Pairs.ends_of" (defArgs s_Pairs_ends_of) (defBody s_Pairs_ends_of) (defScope s_Pairs_ends_of) [] [] (He.ma K (He.ga K "Pairs") "ends_of") fd
  f_Pairs_next_at : ∃ fd, FunD K "next_at" "Pairs.next_at" (defArgs s_Pairs_next_at) (defBody s_Pairs_next_at) (defScope s_Pairs_next_at) [] [] (He.ma K (He.ga K "Pairs") "next_at") fd
  f_Pairs_ask_height : ∃ fd, FunD K "ask_height" "Pairs.ask_height" (defArgs s_Pairs_ask_height) (defBody s_Pairs_ask_height) (defScope s_Pairs_ask_height) [] [] (He.ma K (He.ga K "Pairs") "ask_height") fd
  f_Pairs_opening_of : ∃ fd, FunD K "opening_of" "Pairs.opening_of" (defArgs s_Pairs_opening_of) (defBody s_Pairs_opening_of) (defScope s_Pairs_opening_of) [] [] (He.ma K (He.ga K "Pairs") "opening_of") fd
  f_Pairs_partner : ∃ fd, FunD K "partner" "Pairs.partner" (defArgs s_Pairs_partner) (defBody s_Pairs_partner) (defScope s_Pairs_partner) [] [] (He.ma K (He.ga K "Pairs") "partner") fd
  f_Pairs_depth : ∃ fd, FunD K "depth" "Pairs.depth" (defArgs s_Pairs_depth) (defBody s_Pairs_depth) (defScope s_Pairs_depth) [] [] (He.ma K (He.ga K "Pairs") "depth") fd
  f_Opened_init : ∃ fd, FunD K "__init__" "Opened.__init__" (defArgs s_Opened_init) (defBody s_Opened_init) (defScope s_Opened_init) [] [] (He.ma K (He.ga K "Opened") "__init__") fd
  f_Opened_many_knots : ∃ fd, FunD K "many_knots" "Opened.many_knots" (defArgs s_Opened_many_knots) (defBody s_Opened_many_knots) (defScope s_Opened_many_knots) [] [] (He.ma K (He.ga K "Opened") "many_knots") fd
  f_Opened_opening : ∃ fd, FunD K "opening" "Opened.opening" (defArgs s_Opened_opening) (defBody s_Opened_opening) (defScope s_Opened_opening) [] [] (He.ma K (He.ga K "Opened") "opening") fd
  f_Opened_closing : ∃ fd, FunD K "closing" "Opened.closing" (defArgs s_Opened_closing) (defBody s_Opened_closing) (defScope s_Opened_closing) [] [] (He.ma K (He.ga K "Opened") "closing") fd
  f_Opened_beside : ∃ fd, FunD K "beside" "Opened.beside" (defArgs s_Opened_beside) (defBody s_Opened_beside) (defScope s_Opened_beside) [] [] (He.ma K (He.ga K "Opened") "beside") fd
  f_Opened_children : ∃ fd, FunD K "children" "Opened.children" (defArgs s_Opened_children) (defBody s_Opened_children) (defScope s_Opened_children) [] [] (He.ma K (He.ga K "Opened") "children") fd
  f_Opened_many : ∃ fd, FunD K "many" "Opened.many" (defArgs s_Opened_many) (defBody s_Opened_many) (defScope s_Opened_many) [] [] (He.ma K (He.ga K "Opened") "many") fd
  f_Opened_nth : ∃ fd, FunD K "nth" "Opened.nth" (defArgs s_Opened_nth) (defBody s_Opened_nth) (defScope s_Opened_nth) [] [] (He.ma K (He.ga K "Opened") "nth") fd
  f_Opened_top : ∃ fd, FunD K "top" "Opened.top" (defArgs s_Opened_top) (defBody s_Opened_top) (defScope s_Opened_top) [] [] (He.ma K (He.ga K "Opened") "top") fd
  f_Opened_many_tops : ∃ fd, FunD K "many_tops" "Opened.many_tops" (defArgs s_Opened_many_tops) (defBody s_Opened_many_tops) (defScope s_Opened_many_tops) [] [] (He.ma K (He.ga K "Opened") "many_tops") fd
  f_Opened_beneath : ∃ fd, FunD K "beneath" "Opened.beneath" (defArgs s_Opened_beneath) (defBody s_Opened_beneath) (defScope s_Opened_beneath) [] [] (He.ma K (He.ga K "Opened") "beneath") fd
  f_Opened_depth : ∃ fd, FunD K "depth" "Opened.depth" (defArgs s_Opened_depth) (defBody s_Opened_depth) (defScope s_Opened_depth) [] [] (He.ma K (He.ga K "Opened") "depth") fd
theorem top_of {K : PySem.W.Frag} {h : Heap} {mg : Str → Option Value} (X : K.In h) (G : h.Ns mainGlobals mg) (c : He.SaysD fa fn K) : Top K mg where
  g_ones_in := He.glo_ok X G (c.fact 0 (f := .glo "ones_in") rfl)
  g_nth_one := He.glo_ok X G (c.fact 1 (f := .glo "nth_one") rfl)
  g_is_amid := He.glo_ok X G (c.fact 2 (f := .glo "is_amid") rfl)
  g_words_of := He.glo_ok X G (c.fact 3 (f := .glo "words_of") rfl)
  g_is_whole_counts := He.glo_ok X G (c.fact 4 (f := .glo "is_whole_counts") rfl)
  g_need_bit := He.glo_ok X G (c.fact 5 (f := .glo "need_bit") rfl)
  g_is_whole_pairs := He.glo_ok X G (c.fact 6 (f := .glo "is_whole_pairs") rfl)
  g_ask_row := He.glo_ok X G (c.fact 7 (f := .glo "ask_row") rfl)
  g_table_of := He.glo_ok X G (c.fact 8 (f := .glo "table_of") rfl)
  g_look_at := He.glo_ok X G (c.fact 9 (f := .glo "look_at") rfl)
  g_row_of := He.glo_ok X G (c.fact 10 (f := .glo "row_of") rfl)
  g_is_number := He.glo_ok X G (c.fact 11 (f := .glo "is_number") rfl)
  g_one_of := He.glo_ok X G (c.fact 12 (f := .glo "one_of") rfl)
  g_l_cell_at := He.glo_ok X G (c.fact 13 (f := .glo "_law_cell_at") rfl)
  g_l_mixed := He.glo_ok X G (c.fact 14 (f := .glo "_law_mixed") rfl)
  g_l_elders := He.glo_ok X G (c.fact 15 (f := .glo "_law_elders") rfl)
  g_l_wood := He.glo_ok X G (c.fact 16 (f := .glo "_law_wood") rfl)
  g_l_children := He.glo_ok X G (c.fact 17 (f := .glo "_law_children") rfl)
  g_l_is := He.glo_ok X G (c.fact 18 (f := .glo "_law_is") rfl)
  g_l_is_or_none := He.glo_ok X G (c.fact 19 (f := .glo "_law_is_or_none") rfl)
  g_l_counted := He.glo_ok X G (c.fact 20 (f := .glo "_law_counted") rfl)
  g_l_at := He.glo_ok X G (c.fact 21 (f := .glo "_law_at") rfl)
  g_law := He.glo_ok X G (c.fact 22 (f := .glo "law") rfl)
  g_Bits := He.glo_ok X G (c.fact 23 (f := .glo "Bits") rfl)
  g_Counts := He.glo_ok X G (c.fact 24 (f := .glo "Counts") rfl)
  g_Pairs := He.glo_ok X G (c.fact 25 (f := .glo "Pairs") rfl)
  g_Opened := He.glo_ok X G (c.fact 26 (f := .glo "Opened") rfl)
  b_isinstance := He.free_ok X G (c.fact 27 (f := .free "isinstance") rfl)
  b_int := He.free_ok X G (c.fact 28 (f := .free "int") rfl)
  b_bool := He.free_ok X G (c.fact 29 (f := .free "bool") rfl)
  b_str := He.free_ok X G (c.fact 30 (f := .free "str") rfl)
  b_len := He.free_ok X G (c.fact 31 (f := .free "len") rfl)
  b_range := He.free_ok X G (c.fact 32 (f := .free "range") rfl)
  b_enumerate := He.free_ok X G (c.fact 33 (f := .free "enumerate") rfl)
  b_tuple := He.free_ok X G (c.fact 34 (f := .free "tuple") rfl)
  b_sum := He.free_ok X G (c.fact 35 (f := .free "sum") rfl)
  b_min := He.free_ok X G (c.fact 36 (f := .free "min") rfl)
  b_max := He.free_ok X G (c.fact 37 (f := .free "max") rfl)
  b_list := He.free_ok X G (c.fact 38 (f := .free "list") rfl)
  b_abs := He.free_ok X G (c.fact 39 (f := .free "abs") rfl)
  b_all := He.free_ok X G (c.fact 40 (f := .free "all") rfl)
  c_WORD_words := He.int_ok X G (c.fact 41 (f := .int "WORD_words" 32) rfl)
  c_MOST_bits := He.int_ok X G (c.fact 42 (f := .int "MOST_bits" 20000) rfl)
  c_BLOCK := He.int_ok X G (c.fact 43 (f := .int "BLOCK" 8) rfl)
  c_STRETCH := He.int_ok X G (c.fact 44 (f := .int "STRETCH" 256) rfl)
  c_MOST_pairs := He.int_ok X G (c.fact 45 (f := .int "MOST_pairs" 8192) rfl)
  c_WORD_pairs := He.int_ok X G (c.fact 46 (f := .int "WORD_pairs" 32) rfl)
  c_MOST_woods := He.int_ok X G (c.fact 47 (f := .int "MOST_woods" 4000) rfl)
  cl_Bits := He.cls_ok (c.fact 48 (f := .cls "Bits") rfl)
  mk_Bits := He.mkr_ok (c.fact 49 (f := .mkr "Bits") rfl)
  n_Bits_kept := He.noat_ok (c.fact 50 (f := .noat "Bits" "kept") rfl)
  n_Bits_length := He.noat_ok (c.fact 51 (f := .noat "Bits" "length") rfl)
  m_Bits_size := He.meth_ok (c.fact 52 (f := .meth "Bits" "size") rfl)
  m_Bits_words := He.meth_ok (c.fact 53 (f := .meth "Bits" "words") rfl)
  m_Bits_need := He.meth_ok (c.fact 54 (f := .meth "Bits" "need") rfl)
  m_Bits_at := He.meth_ok (c.fact 55 (f := .meth "Bits" "at") rfl)
  m_Bits_bit := He.meth_ok (c.fact 56 (f := .meth "Bits" "bit") rfl)
  cl_Counts := He.cls_ok (c.fact 57 (f := .cls "Counts") rfl)
  mk_Counts := He.mkr_ok (c.fact 58 (f := .mkr "Counts") rfl)
  n_Counts_kept := He.noat_ok (c.fact 59 (f := .noat "Counts" "kept") rfl)
  n_Counts_all_many := He.noat_ok (c.fact 60 (f := .noat "Counts" "all_many") rfl)
  n_Counts_heads := He.noat_ok (c.fact 61 (f := .noat "Counts" "heads") rfl)
  m_Counts_ones_ahead := He.meth_ok (c.fact 62 (f := .meth "Counts" "ones_ahead") rfl)
  m_Counts_ahead := He.meth_ok (c.fact 63 (f := .meth "Counts" "ahead") rfl)
  m_Counts_like := He.meth_ok (c.fact 64 (f := .meth "Counts" "like") rfl)
  m_Counts_like_ahead := He.meth_ok (c.fact 65 (f := .meth "Counts" "like_ahead") rfl)
  m_Counts_all_like := He.meth_ok (c.fact 66 (f := .meth "Counts" "all_like") rfl)
  m_Counts_block_of := He.meth_ok (c.fact 67 (f := .meth "Counts" "block_of") rfl)
  m_Counts_place_of := He.meth_ok (c.fact 68 (f := .meth "Counts" "place_of") rfl)
  cl_Pairs := He.cls_ok (c.fact 69 (f := .cls "Pairs") rfl)
  mk_Pairs := He.mkr_ok (c.fact 70 (f := .mkr "Pairs") rfl)
  n_Pairs_bits := He.noat_ok (c.fact 71 (f := .noat "Pairs" "bits") rfl)
  n_Pairs_kept := He.noat_ok (c.fact 72 (f := .noat "Pairs" "kept") rfl)
  n_Pairs_counts := He.noat_ok (c.fact 73 (f := .noat "Pairs" "counts") rfl)
  n_Pairs_laid := He.noat_ok (c.fact 74 (f := .noat "Pairs" "laid") rfl)
  m_Pairs_size := He.meth_ok (c.fact 75 (f := .meth "Pairs" "size") rfl)
  m_Pairs_opens_ahead := He.meth_ok (c.fact 76 (f := .meth "Pairs" "opens_ahead") rfl)
  m_Pairs_opening := He.meth_ok (c.fact 77 (f := .meth "Pairs" "opening") rfl)
  m_Pairs_height := He.meth_ok (c.fact 78 (f := .meth "Pairs" "height") rfl)
  m_Pairs_step := He.meth_ok (c.fact 79 (f := .meth "Pairs" "step") rfl)
  m_Pairs_first_in := He.meth_ok (c.fact 80 (f := .meth "Pairs" "first_in") rfl)
  m_Pairs_ends_of := He.meth_ok (c.fact 81 (f := .meth "Pairs" "ends_of") rfl)
  m_Pairs_next_at := He.meth_ok (c.fact 82 (f := .meth "Pairs" "next_at") rfl)
  m_Pairs_ask_height := He.meth_ok (c.fact 83 (f := .meth "Pairs" "ask_height") rfl)
  m_Pairs_opening_of := He.meth_ok (c.fact 84 (f := .meth "Pairs" "opening_of") rfl)
  m_Pairs_partner := He.meth_ok (c.fact 85 (f := .meth "Pairs" "partner") rfl)
  m_Pairs_depth := He.meth_ok (c.fact 86 (f := .meth "Pairs" "depth") rfl)
  cl_Opened := He.cls_ok (c.fact 87 (f := .cls "Opened") rfl)
  mk_Opened := He.mkr_ok (c.fact 88 (f := .mkr "Opened") rfl)
  n_Opened_pairs := He.noat_ok (c.fact 89 (f := .noat "Opened" "pairs") rfl)
  m_Opened_many_knots := He.meth_ok (c.fact 90 (f := .meth "Opened" "many_knots") rfl)
  m_Opened_opening := He.meth_ok (c.fact 91 (f := .meth "Opened" "opening") rfl)
  m_Opened_closing := He.meth_ok (c.fact 92 (f := .meth "Opened" "closing") rfl)
  m_Opened_beside := He.meth_ok (c.fact 93 (f := .meth "Opened" "beside") rfl)
  m_Opened_children := He.meth_ok (c.fact 94 (f := .meth "Opened" "children") rfl)
  m_Opened_many := He.meth_ok (c.fact 95 (f := .meth "Opened" "many") rfl)
  m_Opened_nth := He.meth_ok (c.fact 96 (f := .meth "Opened" "nth") rfl)
  m_Opened_top := He.meth_ok (c.fact 97 (f := .meth "Opened" "top") rfl)
  m_Opened_many_tops := He.meth_ok (c.fact 98 (f := .meth "Opened" "many_tops") rfl)
  m_Opened_beneath := He.meth_ok (c.fact 99 (f := .meth "Opened" "beneath") rfl)
  m_Opened_depth := He.meth_ok (c.fact 100 (f := .meth "Opened" "depth") rfl)
  f_ones_in := c.def_ 0 (d := d_ones_in) rfl
  f_nth_one := c.def_ 1 (d := d_nth_one) rfl
  f_is_amid := c.def_ 2 (d := d_is_amid) rfl
  f_words_of := c.def_ 3 (d := d_words_of) rfl
  f_is_whole_counts := c.def_ 4 (d := d_is_whole_counts) rfl
  f_need_bit := c.def_ 5 (d := d_need_bit) rfl
  f_is_whole_pairs := c.def_ 6 (d := d_is_whole_pairs) rfl
  f_ask_row := c.def_ 7 (d := d_ask_row) rfl
  f_table_of := c.def_ 8 (d := d_table_of) rfl
  f_look_at := c.def_ 9 (d := d_look_at) rfl
  f_row_of := c.def_ 10 (d := d_row_of) rfl
  f_is_number := c.def_ 11 (d := d_is_number) rfl
  f_one_of := c.def_ 12 (d := d_one_of) rfl
  f_l_cell_at := c.def_ 13 (d := d_l_cell_at) rfl
  f_l_mixed := c.def_ 14 (d := d_l_mixed) rfl
  f_l_elders := c.def_ 15 (d := d_l_elders) rfl
  f_l_wood := c.def_ 16 (d := d_l_wood) rfl
  f_l_children := c.def_ 17 (d := d_l_children) rfl
  f_l_is := c.def_ 18 (d := d_l_is) rfl
  f_l_is_or_none := c.def_ 19 (d := d_l_is_or_none) rfl
  f_l_counted := c.def_ 20 (d := d_l_counted) rfl
  f_l_at := c.def_ 21 (d := d_l_at) rfl
  f_law := c.def_ 22 (d := d_law) rfl
  f_Bits_init := c.def_ 23 (d := d_Bits_init) rfl
  f_Bits_size := c.def_ 24 (d := d_Bits_size) rfl
  f_Bits_words := c.def_ 25 (d := d_Bits_words) rfl
  f_Bits_need := c.def_ 26 (d := d_Bits_need) rfl
  f_Bits_at := c.def_ 27 (d := d_Bits_at) rfl
  f_Bits_bit := c.def_ 28 (d := d_Bits_bit) rfl
  f_Counts_init := c.def_ 29 (d := d_Counts_init) rfl
  f_Counts_ones_ahead := c.def_ 30 (d := d_Counts_ones_ahead) rfl
  f_Counts_ahead := c.def_ 31 (d := d_Counts_ahead) rfl
  f_Counts_like := c.def_ 32 (d := d_Counts_like) rfl
  f_Counts_like_ahead := c.def_ 33 (d := d_Counts_like_ahead) rfl
  f_Counts_all_like := c.def_ 34 (d := d_Counts_all_like) rfl
  f_Counts_block_of := c.def_ 35 (d := d_Counts_block_of) rfl
  f_Counts_place_of := c.def_ 36 (d := d_Counts_place_of) rfl
  f_Pairs_init := c.def_ 37 (d := d_Pairs_init) rfl
  f_Pairs_size := c.def_ 38 (d := d_Pairs_size) rfl
  f_Pairs_opens_ahead := c.def_ 39 (d := d_Pairs_opens_ahead) rfl
  f_Pairs_opening := c.def_ 40 (d := d_Pairs_opening) rfl
  f_Pairs_height := c.def_ 41 (d := d_Pairs_height) rfl
  f_Pairs_step := c.def_ 42 (d := d_Pairs_step) rfl
  f_Pairs_first_in := c.def_ 43 (d := d_Pairs_first_in) rfl
  f_Pairs_ends_of := c.def_ 44 (d := d_Pairs_ends_of) rfl
  f_Pairs_next_at := c.def_ 45 (d := d_Pairs_next_at) rfl
  f_Pairs_ask_height := c.def_ 46 (d := d_Pairs_ask_height) rfl
  f_Pairs_opening_of := c.def_ 47 (d := d_Pairs_opening_of) rfl
  f_Pairs_partner := c.def_ 48 (d := d_Pairs_partner) rfl
  f_Pairs_depth := c.def_ 49 (d := d_Pairs_depth) rfl
  f_Opened_init := c.def_ 50 (d := d_Opened_init) rfl
  f_Opened_many_knots := c.def_ 51 (d := d_Opened_many_knots) rfl
  f_Opened_opening := c.def_ 52 (d := d_Opened_opening) rfl
  f_Opened_closing := c.def_ 53 (d := d_Opened_closing) rfl
  f_Opened_beside := c.def_ 54 (d := d_Opened_beside) rfl
  f_Opened_children := c.def_ 55 (d := d_Opened_children) rfl
  f_Opened_many := c.def_ 56 (d := d_Opened_many) rfl
  f_Opened_nth := c.def_ 57 (d := d_Opened_nth) rfl
  f_Opened_top := c.def_ 58 (d := d_Opened_top) rfl
  f_Opened_many_tops := c.def_ 59 (d := d_Opened_many_tops) rfl
  f_Opened_beneath := c.def_ 60 (d := d_Opened_beneath) rfl
  f_Opened_depth := c.def_ 61 (d := d_Opened_depth) rfl
end Tw
/-! Two rules that the layer has not: a sign times a number, enumerate of a text. -/
namespace Tw
open PySem PySem.Spec PyProof.Rows L2
section
variable {X : Cx}
theorem rep_fold (c : Nat) : ∀ (m : Nat) (a : Array Nat), (List.replicate m (#[c] : Array Nat)).foldl (· ++ ·) a = a ++ (List.replicate m c).toArray
  | 0, a => by simp
  | m + 1, a => by
    rw [List.replicate_succ, List.foldl_cons, rep_fold c m, List.replicate_succ]
    apply Array.ext'
    simp
def rMulS : R2 := fun x y H Q => ∃ (c : Nat) (n : Int), x = .str ⟨#[c]⟩ ∧ y = .int n ∧ 0 ≤ n ∧ n ≤ 10000 ∧ Q (.str ⟨(List.replicate n.toNat c).toArray⟩) H
theorem op_mulS : OpR X (binaryOp .Mult) rMulS := by
  intro pins s σ H x y v u Q I rx ry h
  obtain ⟨c, n, rfl, rfl, h0, h1, q⟩ := h
  obtain ⟨t, rfl⟩ := rx
  obtain ⟨t', rfl⟩ := ry
  have hr : (decide (n < -(2 ^ 63 : Int)) || decide (n ≥ 2 ^ 63)) = false := by
    rw [decide_eq_false (show ¬ n < -(2 ^ 63 : Int) by omega), decide_eq_false (show ¬ n ≥ (2 ^ 63 : Int) by omega)]
    rfl
  have len1 : (⟨#[c]⟩ : Str).length = 1 := rfl
  refine P.mul_str hr (fun hn _ => ?_) (fun hn _ => ?_) ?_
  · rw [len1]
    intro hgt
    have : (1 : Int) ≤ (2 ^ 63 - 1) / n := by
      rw [Int.le_ediv_iff_mul_le (by omega)]
      omega
    have e : ((1 : Nat) : Int) = 1 := rfl
    omega
  · rw [len1, Nat.one_mul]
    show decide (n.toNat > sizeLine) = false
    have hz : 10000 ≤ sizeLine := by decide
    exact decide_eq_false (by omega)
  · by_cases a : n < 1
    · rw [if_pos a]
      have : n = 0 := by omega
      subst this
      exact ⟨by decide, ⟨.str Str.empty, H, I.tok _, ⟨_, rfl⟩, q⟩⟩
    · rw [if_neg a]
      by_cases b : (n == 1 || (⟨#[c]⟩ : Str).length == 0) = true
      · rw [if_pos b]
        have : n = 1 := by
          rw [len1] at b
          simpa using b
        subst this
        exact ⟨.str ⟨#[c]⟩, H, I, ⟨_, rfl⟩, q⟩
      · rw [if_neg b]
        have e : (List.replicate n.toNat (#[c] : Array Nat)).foldl (· ++ ·) #[] = (List.replicate n.toNat c).toArray := by
          rw [rep_fold]
          simp
        rw [show (⟨#[c]⟩ : Str).cps = #[c] from rfl, e]
        refine ⟨?_, ⟨.str ⟨(List.replicate n.toNat c).toArray⟩, H, I.tok _, ⟨_, rfl⟩, q⟩⟩
        have hz : 10000 ≤ sizeLine := by decide
        show (List.replicate n.toNat c).toArray.size ≤ sizeLine
        rw [List.size_toArray, List.length_replicate]
        omega
end
/-! ### enumerate(text) -/
/-- each sign in a new pair with its place -/
def Ites (x : Str) : It := ⟨fun i _ => i < x.cps.size, fun i H v H' => ∃ T c, v = .ref T ∧ H T = none ∧ H' = upd H T (.tup [.int (i : Nat), .str ⟨#[c]⟩]) ∧ x.cps[i]? = some c, fun i _ => i = x.cps.size⟩
/-- the library's walk over enumerate(text), e the enumerate, it the text's iterator -/
theorem enumS_walks {P : Program} {w : World} {A : Around} (hh : A.handled = none) (x : Str) (t : Tok) {e it : Addr} (n : e ≠ it) :
    WalksT P w A e [e, it] [e, it] x.cps.size (fun i vs => ∃ u c, (∃ a v, x.cps[i]? = some a ∧ c = .str ⟨#[a]⟩ v) ∧ vs = #[.int i u, c]) (fun i h => (∃ old, IsEnum h e it i old) ∧ h.IsStrIter it (strIterType x) x t i)
      (fun i T h => (∃ c, IsEnumOut h e it ((i : Int) + 1) c T) ∧ h.IsStrIter it (strIterType x) x t (i + 1) ∧ T ≠ e ∧ T ≠ it) :=
  WalksT.enumerateD (Draws.text (A := A.in1) hh it x t) e n (by simpa using n) (List.mem_singleton.mpr rfl)
theorem turn_enumS {P : Program} {w : World} {K : PySem.W.Frag} {elts : List Expr} {kk : Nat} {tpos : Pos} (x : Str) (t : Tok) {e it : Addr} (n : e ≠ it) :
    Turn P w K (.Tuple elts kk tpos) (Ites x) [e, it] e (fun i h => (∃ old, IsEnum h e it ((i : Nat) : Int) old) ∧ h.IsStrIter it (strIterType x) x t i) := by
  refine ⟨List.mem_cons_self, fun i h st b hb => ?_, fun i h h' st k => ?_, ?_, ?_, fun A i s Q E st h => ?_⟩
  · -- both are records of fields
    obtain ⟨⟨old, he⟩, ob, ho, hf⟩ := st
    rw [List.mem_cons, List.mem_singleton] at hb
    rcases hb with rfl | rfl
    · exact ⟨_, he, fun _ => nofun⟩
    · exact ⟨ob, ho, fun v z => by rw [hf.2] at z; exact nomatch z⟩
  · obtain ⟨⟨old, he⟩, ob, ho, hf⟩ := st
    exact ⟨⟨old, k e List.mem_cons_self _ he⟩, ob, k it (List.mem_cons_of_mem _ List.mem_cons_self) _ ho, hf⟩
  · -- a pair comes
    intro X eP ew eK calm i pins s σ H E I free st lt
    subst eP ew eK
    have W := enumS_walks (P := X.prog) (w := X.w) (I.ok.hd calm) x t n
    refine W.item i s _ E lt st fun T vs h1 tk pt fresh isT mid k1 => ⟨_, rfl, ?_⟩
    refine W.go elts kk tpos i T { s with heap := h1, toks := tk } _ E mid fun h2 st2 k2 => ?_
    obtain ⟨u, c, ⟨a, v, ha, rfl⟩, rfl⟩ := pt
    have off := W.apart i T h1 mid
    obtain ⟨ob, o1, o2, o3⟩ := isT
    have tupT : h2.IsTuple T #[.int i u, .str ⟨#[a]⟩ v] := ⟨ob, k2 T ob off o1, o2, o3⟩
    have ok : ObjOk X.prog X.w (upd H T (.tup [.int (i : Nat), .str ⟨#[a]⟩])) h2 T (.tup [.int (i : Nat), .str ⟨#[a]⟩]) := ⟨(by show 2 ≤ sizeLine; decide), _, .cons ⟨u, rfl⟩ (.cons ⟨v, rfl⟩ .nil), tupT⟩
    have I2 := I.turnedNew (t' := tk) (fun b o nb q => k2 b o nb (k1 b o nb q)) free fresh ok
    exact ⟨.ref T, _, I2, rfl, ⟨T, a, rfl, I.hok.fresh fresh, rfl, ha⟩, st2, fun b hb => (upd_ne fun z : b = T => off (z ▸ hb)).trans (free b hb).1⟩
  · -- it ends
    intro X eP ew eK calm i pins s σ H E I free st ends
    subst eP ew eK
    have at_end : i = x.cps.size := ends
    subst at_end
    exact (enumS_walks (P := X.prog) (w := X.w) (I.ok.hd calm) x t n).done s _ E st fun h1 tk k1 => ⟨rfl, I.turnedL (t' := tk) k1 free⟩
  · obtain ⟨⟨old, he⟩, _⟩ := st
    exact wpAny_pyIter_enum he h
def iEnumS (ta : TA) : TI := fun σ H R => ta σ H fun vs H1 => ∃ x, vs = [.str x] ∧ R (Ites x) H1
theorem pi_enumS {X : Cx} {e : Expr} {ta : TA} {p pos tpos : Pos} {elts : List Expr} {kk : Nat} (hg : Gl X "enumerate") (hm : X.mg "enumerate" = none) (ha : PA X [e] ta) (one : starEach [e] X.env = [(false, eval e X.env)] := by rfl) :
    PI X (.Tuple elts kk tpos) (.Call (.Name "enumerate" p) [e] [] pos) (iEnumS ta) := by
  constructor
  intro pins s σ H R I h
  refine Call_ (ld_blt I hg hm boot_enumerate (PyProof.Rows.callWith_type1 (thn (ha.run pos pins s σ H _ I h) ?_) one rfl))
  rintro us s1 ⟨vs, H1, I1, rv, x, rfl, q⟩
  obtain ⟨u, rfl, t, rfl⟩ := vals1 rv
  refine call_enumerate_str fun h1 isE isI _ k1 => wpAny_pyIter_enum isE ?_
  have far : ∀ b, b ∈ [s1.heap.objs.size + 1, s1.heap.objs.size] → s1.heap.objs.size ≤ b := fun b hb => by
    rw [List.mem_cons, List.mem_singleton] at hb
    omega
  exact ⟨_, _, _, _, H1, rfl, I1.kept (t' := s1.toks) k1, turn_enumS x t (Nat.succ_ne_self _), ⟨⟨_, isE⟩, isI⟩, fun b hb => I1.fpOk (far b hb) (I1.hok.fresh (far b hb)), q⟩
theorem walk_enumS {x : Str} : Walk (Ites x) x.cps.size (fun _ => True) (YPair (fun i => some (.int (i : Nat))) (fun i => x.cps[i]?.map fun c => .str ⟨#[c]⟩)) := by
  refine ⟨fun i _ hi _ => hi, fun _ _ => rfl, fun i H v H' _ _ y => ?_⟩
  obtain ⟨T, c, h1, h2, h3, h4⟩ := y
  exact ⟨T, .int (i : Nat), .str ⟨#[c]⟩, h1, h2, h3, rfl, by show Option.map _ _ = _; rw [h4]; rfl⟩
end Tw
/-! What stands in the heap: texts, words, objects; a def with its promise. -/
namespace Tw
open PySem PySem.Spec PyProof.Rows L2
/-! ### texts and words -/
def sg (bs : List Bool) : Str := ⟨(bs.map fun b => if b then 49 else 48).toArray⟩
def vi (xs : List Int) : List V := xs.map V.int
/-- the counts ahead of the blocks: one block at most -/
def heads (bs : List Bool) : List Int := if bs = [] then [0] else [0, (bs.count true : Int)]
/-! ### objects -/
section
variable (K : PySem.W.Frag) (H : Hp)
abbrev CB : Addr := He.ga K "Bits"
abbrev CC : Addr := He.ga K "Counts"
abbrev CP : Addr := He.ga K "Pairs"
abbrev CO : Addr := He.ga K "Opened"
def flB (t : Addr) (n : Int) : List (Str × V) := [("kept", .ref t), ("length", .int n)]
def flC (t : Addr) (n : Int) (u : Addr) : List (Str × V) := [("kept", .ref t), ("all_many", .int n), ("heads", .ref u)]
def flP (b t c l : Addr) : List (Str × V) := [("bits", .ref b), ("kept", .ref t), ("counts", .ref c), ("laid", .ref l)]
def flO (p : Addr) : List (Str × V) := [("pairs", .ref p)]
structure BitsAt (b : Addr) (bs : List Bool) : Prop where
  ob : ∃ dx t, H b = some (.ins (CB K) dx (flB t (bs.length : Int))) ∧ SqT K H t (vi (wds bs))
structure CountsAt (c : Addr) (bs : List Bool) : Prop where
  ob : ∃ dx t u, H c = some (.ins (CC K) dx (flC t (bs.length : Int) u)) ∧ SqT K H t (vi (wds bs)) ∧ SqT K H u (vi (heads bs))
structure LaidAt (l : Addr) (bs : List Bool) : Prop where
  ob : (bs = [] ∧ SqT K H l []) ∨ (bs ≠ [] ∧ ∃ (q : Addr) (mn mx : Int), SqT K H l [.ref q] ∧ SqT K H q [.int 0, .int mn, .int mx] ∧ ∀ p : Nat, 1 ≤ p → p ≤ bs.length → mn ≤ ht bs p ∧ ht bs p ≤ mx)
structure PairsAt (p : Addr) (bs : List Bool) : Prop where
  ob : ∃ dx b t c l, H p = some (.ins (CP K) dx (flP b t c l)) ∧ BitsAt K H b bs ∧ SqT K H t (vi (wds bs)) ∧ CountsAt K H c bs ∧ LaidAt K H l bs
structure OpenedAt (o : Addr) (bs : List Bool) : Prop where
  ob : ∃ dx p, H o = some (.ins (CO K) dx (flO p)) ∧ PairsAt K H p bs
end
section
variable {K : PySem.W.Frag} {H H' : Hp}
theorem seqT {a : Addr} {xs : List V} (e : Same H H') (h : SqT K H a xs) : SqT K H' a xs :=
  h.imp (fun r => r.imp (e _ _) fun ⟨o, q⟩ => ⟨o, e _ _ q⟩) id
theorem BitsAt.same {b : Addr} {bs : List Bool} (e : Same H H') (h : BitsAt K H b bs) : BitsAt K H' b bs := by
  obtain ⟨dx, t, h1, h2⟩ := h.ob
  exact ⟨dx, t, e _ _ h1, seqT e h2⟩
theorem CountsAt.same {b : Addr} {bs : List Bool} (e : Same H H') (h : CountsAt K H b bs) : CountsAt K H' b bs := by
  obtain ⟨dx, t, u, h1, h2, h3⟩ := h.ob
  exact ⟨dx, t, u, e _ _ h1, seqT e h2, seqT e h3⟩
theorem LaidAt.same {b : Addr} {bs : List Bool} (e : Same H H') (h : LaidAt K H b bs) : LaidAt K H' b bs := by
  rcases h.ob with ⟨h1, h2⟩ | ⟨h1, q, mn, mx, h2, h3, h4⟩
  · exact ⟨.inl ⟨h1, seqT e h2⟩⟩
  · exact ⟨.inr ⟨h1, q, mn, mx, seqT e h2, seqT e h3, h4⟩⟩
theorem PairsAt.same {b : Addr} {bs : List Bool} (e : Same H H') (h : PairsAt K H b bs) : PairsAt K H' b bs := by
  obtain ⟨dx, b, t, c, l, h1, h2, h3, h4, h5⟩ := h.ob
  exact ⟨dx, b, t, c, l, e _ _ h1, h2.same e, seqT e h3, h4.same e, h5.same e⟩
theorem OpenedAt.same {b : Addr} {bs : List Bool} (e : Same H H') (h : OpenedAt K H b bs) : OpenedAt K H' b bs := by
  obtain ⟨dx, p, h1, h2⟩ := h.ob
  exact ⟨dx, p, e _ _ h1, h2.same e⟩
theorem same_upd {p : Addr} {o : HO} (h : H p = none) : Same H (upd H p o) := fun b u e => by
  rw [upd_ne (ne_of_none e h)]
  exact e
end
/-! ### fields by name -/
section
variable (t u b c l : Addr) (n : Int)
theorem flB_kept : (flB t n).lookup ("kept" : Str) = some (.ref t) := by rfl
theorem flB_length : (flB t n).lookup ("length" : Str) = some (.int n) := by rfl
theorem flC_kept : (flC t n u).lookup ("kept" : Str) = some (.ref t) := by rfl
theorem flC_all : (flC t n u).lookup ("all_many" : Str) = some (.int n) := by rfl
theorem flC_heads : (flC t n u).lookup ("heads" : Str) = some (.ref u) := by rfl
theorem flP_bits : (flP b t c l).lookup ("bits" : Str) = some (.ref b) := by rfl
theorem flP_kept : (flP b t c l).lookup ("kept" : Str) = some (.ref t) := by rfl
theorem flP_counts : (flP b t c l).lookup ("counts" : Str) = some (.ref c) := by rfl
theorem flP_laid : (flP b t c l).lookup ("laid" : Str) = some (.ref l) := by rfl
theorem flO_pairs : (flO t).lookup ("pairs" : Str) = some (.ref t) := by rfl
theorem flB_no (m : Str) (h : (["kept", "length"] : List Str).all (fun x => !(m == x)) = true) : (flB t n).lookup m = none := by
  simp only [List.all_cons, List.all_nil, Bool.and_true, Bool.and_eq_true, Bool.not_eq_true'] at h
  unfold flB
  simp only [List.lookup, h]
theorem flC_no (m : Str) (h : (["kept", "all_many", "heads"] : List Str).all (fun x => !(m == x)) = true) : (flC t n u).lookup m = none := by
  simp only [List.all_cons, List.all_nil, Bool.and_true, Bool.and_eq_true, Bool.not_eq_true'] at h
  unfold flC
  simp only [List.lookup, h]
theorem flP_no (m : Str) (h : (["bits", "kept", "counts", "laid"] : List Str).all (fun x => !(m == x)) = true) : (flP b t c l).lookup m = none := by
  simp only [List.all_cons, List.all_nil, Bool.and_true, Bool.and_eq_true, Bool.not_eq_true'] at h
  unfold flP
  simp only [List.lookup, h]
theorem flO_no (m : Str) (h : (["pairs"] : List Str).all (fun x => !(m == x)) = true) : (flO t).lookup m = none := by
  simp only [List.all_cons, List.all_nil, Bool.and_true, Bool.and_eq_true, Bool.not_eq_true'] at h
  unfold flO
  simp only [List.lookup, h]
example : (flB t n).lookup ("size" : Str) = none := flB_no t n _ (by decide +kernel)
theorem flB_put : putF "length" (.int n) (putF "kept" (.ref t) []) = flB t n := by rfl
theorem flC_put : putF "heads" (.ref u) (putF "all_many" (.int n) (putF "kept" (.ref t) [])) = flC t n u := by rfl
theorem flP_put : putF "laid" (.ref l) (putF "counts" (.ref c) (putF "kept" (.ref t) (putF "bits" (.ref b) []))) = flP b t c l := by rfl
theorem flO_put : putF "pairs" (.ref t) [] = flO t := by rfl
end
/-! ### a def with its promise -/
/-- the def at f keeps sp, its arguments bind, it stays -/
structure Ok (P : Program) (w : World) (K : PySem.W.Frag) (mg : Str → Option Value) (base : Heap) (k : Nat) (f : Addr) (ps : List Str) (sp : Sp) : Prop where
  ex : ∃ fd, FnOk P w K mg base CX0 k f fd ps sp ∧ Binds K fd ps [] ∧ PySem.W.keepIn K (.ref f) = true
section
variable {P : Program} {w : World} {K : PySem.W.Frag} {mg : Str → Option Value} {base : Heap} {k j : Nat} {f : Addr} {ps : List Str} {sp : Sp}
theorem Ok.imp {sp' : Sp} (O : Ok P w K mg base k f ps sp) (h : ∀ vs H Q E, sp' vs H Q E → sp vs H Q E) : Ok P w K mg base k f ps sp' := by
  obtain ⟨fd, F, b, kp⟩ := O.ex
  exact ⟨fd, F.imp h, b, kp⟩
/-- a def by its body -/
theorem Ok.mk' {x q : Str} {st : Stmt} {N : List Str} (F : ∃ fd, FunD K x q (defArgs st) (defBody st) (defScope st) [] [] f fd) (S : FnScope N ps (defScope st))
    (hb : ∀ (kV doc pm : Value) (an : Option Addr) (cdv ct : Value) (us : List Value), us.length = ps.length → bindArgs (PySem.W.fnOf x q (defArgs st) (defBody st) (defScope st) .none kV doc pm an cdv ct) ⟨us, []⟩ = pure (ps.zip us))
    (len : ∀ vs H Q E, sp vs H Q E → vs.length = ps.length)
    (hbody : ∀ (cdv : Value) (A : Around) (outer : List Env) (s : Shared) (H : Hp) (vs : List V) (Q : VK) (E : XK), Room k (A.deeper (envOfC q (defScope st) s.heap.objs.size f cdv)) → sp vs H Q E →
      ∃ t, PSs (cxOf CX0 P w K mg base N q (defScope st) f cdv A outer s H E).nox (defBody st) t ∧ t { nx := fun _ H' => Q .non H', rt := Q } (start N vs) H) : Ok P w K mg base (k + 1) f ps sp := by
  obtain ⟨fd, F⟩ := F
  refine ⟨fd, F.ok S len fun cdv A outer s H vs Q E hr h => ?_, F.bindsN hb, F.kp⟩
  obtain ⟨t, h1, h2⟩ := hbody cdv A outer s H vs Q E hr h
  exact ⟨t, PSs.nox h1, h2⟩
end
/-- the same of a given function object -/
theorem fnOk_mk {P : Program} {w : World} {K : PySem.W.Frag} {mg : Str → Option Value} {base : Heap} {k : Nat} {f : Addr} {fd : FuncData} {ps : List Str} {sp : Sp} {x q : Str} {st : Stmt} {N : List Str}
    (F : FunD K x q (defArgs st) (defBody st) (defScope st) [] [] f fd) (S : FnScope N ps (defScope st)) (len : ∀ vs H Q E, sp vs H Q E → vs.length = ps.length)
    (hbody : ∀ (cdv : Value) (A : Around) (outer : List Env) (s : Shared) (H : Hp) (vs : List V) (Q : VK) (E : XK), Room k (A.deeper (envOfC q (defScope st) s.heap.objs.size f cdv)) → sp vs H Q E →
      ∃ t, PSs (cxOf CX0 P w K mg base N q (defScope st) f cdv A outer s H E).nox (defBody st) t ∧ t { nx := fun _ H' => Q .non H', rt := Q } (start N vs) H) : FnOk P w K mg base CX0 (k + 1) f fd ps sp := by
  refine F.ok S len fun cdv A outer s H vs Q E hr h => ?_
  obtain ⟨t, h1, h2⟩ := hbody cdv A outer s H vs Q E hr h
  exact ⟨t, PSs.nox h1, h2⟩
end Tw
/-! The promises. -/
namespace Tw
open PySem PySem.Spec PyProof.Rows L2
/-! ### words -/
def sp_ones_in (K : PySem.W.Frag) : Sp := fun vs H Q _ => ∃ l : List Bool, vs = [.int (wd l : Nat)] ∧ l.length ≤ 32 ∧ Q (.int (l.count true : Nat)) H
def sp_nth_one (K : PySem.W.Frag) : Sp := fun vs H Q _ => ∃ (l : List Bool) (p : Nat), vs = [.int (wd l : Nat), .int ((l.take p).count true : Nat)] ∧ l.length ≤ 32 ∧ l[p]? = some true ∧ Q (.int (p : Nat)) H
/-! ### bits -/
def sp_is_amid (K : PySem.W.Frag) : Sp := fun vs H Q _ => ∃ i lo hi : Int, vs = [.int i, .int lo, .int hi] ∧ lo ≤ i ∧ i ≤ hi ∧ Q (.bl true) H
def sp_words_of (K : PySem.W.Frag) : Sp := fun vs H Q _ => ∃ bs : List Bool, vs = [.str (sg bs)] ∧ bs.length ≤ 80 ∧ ∀ t H', Same H H' → SqT K H' t (vi (wds bs)) → Q (.ref t) H'
def sp_Bits_init (K : PySem.W.Frag) : Sp := fun vs H Q _ => ∃ (p dx : Addr) (bs : List Bool), vs = [.ref p, .str (sg bs)] ∧ H p = some (.ins (CB K) dx []) ∧ bs.length ≤ 80 ∧ ∀ H', (∀ b o, H b = some o → b ≠ p → H' b = some o) → BitsAt K H' p bs → Q .non H'
def sp_Bits_size (K : PySem.W.Frag) : Sp := fun vs H Q _ => ∃ (p : Addr) (bs : List Bool), vs = [.ref p] ∧ BitsAt K H p bs ∧ Q (.int (bs.length : Nat)) H
def sp_Bits_words (K : PySem.W.Frag) : Sp := fun vs H Q _ => ∃ (p : Addr) (bs : List Bool), vs = [.ref p] ∧ BitsAt K H p bs ∧ ∀ t, SqT K H t (vi (wds bs)) → Q (.ref t) H
def sp_Bits_need (K : PySem.W.Frag) : Sp := fun vs H Q _ => ∃ (v : V) (i m : Int), vs = [v, .int i, .int m] ∧ 0 ≤ i ∧ i ≤ m ∧ Q .non H
def sp_Bits_at (K : PySem.W.Frag) : Sp := fun vs H Q _ => ∃ (p : Addr) (i : Nat) (bs : List Bool) (b : Bool), vs = [.ref p, .int (i : Nat)] ∧ BitsAt K H p bs ∧ bs[i]? = some b ∧ Q (.int (b.toNat : Nat)) H
def sp_Bits_bit (K : PySem.W.Frag) : Sp := fun vs H Q _ => ∃ (p : Addr) (i : Nat) (bs : List Bool) (b : Bool), vs = [.ref p, .int (i : Nat)] ∧ BitsAt K H p bs ∧ bs[i]? = some b ∧ Q (.int (b.toNat : Nat)) H
/-! ### counts -/
def sp_is_whole_counts (K : PySem.W.Frag) : Sp := fun vs H Q _ => ∃ i : Int, vs = [.int i] ∧ Q (.bl true) H
def sp_need_bit (K : PySem.W.Frag) : Sp := fun vs H Q _ => vs = [.int 1] ∧ ∀ H', Same H H' → Q .non H'
def sp_Counts_init (K : PySem.W.Frag) : Sp := fun vs H Q _ => ∃ (c dx b : Addr) (bs : List Bool), vs = [.ref c, .ref b] ∧ H c = some (.ins (CC K) dx []) ∧ BitsAt K H b bs ∧ bs.length ≤ 80 ∧ ∀ H', (∀ b o, H b = some o → b ≠ c → H' b = some o) → CountsAt K H' c bs → Q .non H'
def sp_Counts_ones_ahead (K : PySem.W.Frag) : Sp := fun vs H Q _ => ∃ (c : Addr) (p : Nat) (bs : List Bool), vs = [.ref c, .int (p : Nat)] ∧ CountsAt K H c bs ∧ p ≤ bs.length ∧ bs.length ≤ 80 ∧ ∀ H', Same H H' → Q (.int (op bs p : Nat)) H'
def sp_Counts_ahead (K : PySem.W.Frag) : Sp := fun vs H Q _ => ∃ (c : Addr) (p : Nat) (bs : List Bool), vs = [.ref c, .int 1, .int (p : Nat)] ∧ CountsAt K H c bs ∧ p ≤ bs.length ∧ bs.length ≤ 80 ∧ ∀ H', Same H H' → Q (.int (op bs p : Nat)) H'
def sp_Counts_like (K : PySem.W.Frag) : Sp := fun vs H Q _ => ∃ (c : Addr) (w : Nat) (bs : List Bool), vs = [.ref c, .int (w : Nat), .int 1] ∧ CountsAt K H c bs ∧ w < nw bs ∧ Q (.int (wd (chunk bs w) : Nat)) H
def sp_Counts_like_ahead (K : PySem.W.Frag) : Sp := fun vs H Q _ => ∃ (c : Addr) (bs : List Bool), vs = [.ref c, .int 1, .int 0] ∧ CountsAt K H c bs ∧ Q (.int 0) H
def sp_Counts_all_like (K : PySem.W.Frag) : Sp := fun vs H Q _ => ∃ (c : Addr) (bs : List Bool), vs = [.ref c, .int 1] ∧ CountsAt K H c bs ∧ Q (.int (bs.count true : Nat)) H
def sp_Counts_block_of (K : PySem.W.Frag) : Sp := fun vs H Q _ => ∃ (c : Addr) (n : Int) (bs : List Bool), vs = [.ref c, .int 1, .int n] ∧ CountsAt K H c bs ∧ Q (.int 0) H
def sp_Counts_place_of (K : PySem.W.Frag) : Sp := fun vs H Q _ => ∃ (c : Addr) (p : Nat) (bs : List Bool), vs = [.ref c, .int 1, .int (op bs p : Nat)] ∧ CountsAt K H c bs ∧ bs[p]? = some true ∧ bs.length ≤ 80 ∧ ∀ H', Same H H' → Q (.int (p : Nat)) H'
/-! ### pairs -/
/-- no height is below 0, the last one is 0 -/
def Bal (bs : List Bool) : Prop := (∀ p, p ≤ bs.length → 0 ≤ ht bs p) ∧ ht bs bs.length = 0
def sp_is_whole_pairs (K : PySem.W.Frag) : Sp := fun vs H Q _ => ∃ i : Int, vs = [.int i] ∧ Q (.bl true) H
def sp_ask_row (K : PySem.W.Frag) : Sp := fun vs H Q _ => ∃ bs : List Bool, vs = [.str (sg bs)] ∧ bs.length ≤ 80 ∧ Bal bs ∧ ∀ H', Same H H' → Q .non H'
def sp_table_of (K : PySem.W.Frag) : Sp := fun vs H Q _ => ∃ bs : List Bool, vs = [.str (sg bs)] ∧ bs.length ≤ 80 ∧ ∀ l H', Same H H' → LaidAt K H' l bs → Q (.ref l) H'
def sp_Pairs_init (K : PySem.W.Frag) : Sp := fun vs H Q _ => ∃ (p dx : Addr) (bs : List Bool), vs = [.ref p, .str (sg bs)] ∧ H p = some (.ins (CP K) dx []) ∧ bs.length ≤ 80 ∧ Bal bs ∧ ∀ H', (∀ b o, H b = some o → b ≠ p → H' b = some o) → PairsAt K H' p bs → Q .non H'
def sp_Pairs_size (K : PySem.W.Frag) : Sp := fun vs H Q _ => ∃ (p : Addr) (bs : List Bool), vs = [.ref p] ∧ PairsAt K H p bs ∧ Q (.int (bs.length : Nat)) H
def sp_Pairs_opens_ahead (K : PySem.W.Frag) : Sp := fun vs H Q _ => ∃ (p : Addr) (i : Nat) (bs : List Bool), vs = [.ref p, .int (i : Nat)] ∧ PairsAt K H p bs ∧ i ≤ bs.length ∧ bs.length ≤ 80 ∧ ∀ H', Same H H' → Q (.int (op bs i : Nat)) H'
def sp_Pairs_opening (K : PySem.W.Frag) : Sp := fun vs H Q _ => ∃ (p : Addr) (i : Nat) (bs : List Bool), vs = [.ref p, .int (op bs i : Nat)] ∧ PairsAt K H p bs ∧ bs[i]? = some true ∧ bs.length ≤ 80 ∧ ∀ H', Same H H' → Q (.int (i : Nat)) H'
def sp_Pairs_height (K : PySem.W.Frag) : Sp := fun vs H Q _ => ∃ (p : Addr) (i : Nat) (bs : List Bool), vs = [.ref p, .int (i : Nat)] ∧ PairsAt K H p bs ∧ i ≤ bs.length ∧ bs.length ≤ 80 ∧ ∀ H', Same H H' → Q (.int (ht bs i)) H'
def sp_Pairs_step (K : PySem.W.Frag) : Sp := fun vs H Q _ => ∃ (p : Addr) (i : Nat) (bs : List Bool) (b : Bool), vs = [.ref p, .int (i : Nat)] ∧ PairsAt K H p bs ∧ bs[i]? = some b ∧ Q (.int (2 * (b.toNat : Nat) - 1)) H
def sp_Pairs_first_in (K : PySem.W.Frag) : Sp := fun vs H Q _ => ∃ (p : Addr) (lo hi g : Nat) (h : Int) (bs : List Bool), vs = [.ref p, .int (lo : Nat), .int (hi : Nat), .int h] ∧ PairsAt K H p bs ∧ bs.length ≤ 80 ∧ 1 ≤ lo ∧ lo ≤ g ∧ g ≤ hi ∧ hi ≤ bs.length ∧ ht bs g = h ∧
  (∀ q, lo ≤ q → q < g → ht bs q ≠ h) ∧ ∀ H', Same H H' → Q (.int (g : Nat)) H'
def sp_Pairs_ends_of (K : PySem.W.Frag) : Sp := fun vs H Q _ => ∃ (p : Addr) (bs : List Bool), vs = [.ref p, .int 0] ∧ PairsAt K H p bs ∧ bs.length ≤ 80 ∧ ∀ t H', Same H H' → SqT K H' t [.int 1, .int (bs.length : Nat)] → Q (.ref t) H'
def sp_Pairs_next_at (K : PySem.W.Frag) : Sp := fun vs H Q _ => ∃ (p : Addr) (i g : Nat) (h : Int) (bs : List Bool), vs = [.ref p, .int (i : Nat), .int h] ∧ PairsAt K H p bs ∧ bs.length ≤ 80 ∧ i < g ∧ g ≤ bs.length ∧ ht bs g = h ∧
  (∀ q, i < q → q < g → ht bs q ≠ h) ∧ ∀ H', Same H H' → Q (.int (g : Nat)) H'
def sp_Pairs_ask_height (K : PySem.W.Frag) : Sp := fun vs H Q _ => ∃ (p : Addr) (i : Nat) (h : Int) (bs : List Bool), vs = [.ref p, .int (i : Nat), .int h] ∧ PairsAt K H p bs ∧ i ≤ bs.length ∧ bs.length ≤ 80 ∧ ∀ H', Same H H' → Q .non H'
def sp_Pairs_opening_of (K : PySem.W.Frag) : Sp := fun vs H Q _ => ∃ (p : Addr) (i : Nat) (bs : List Bool), vs = [.ref p, .int (i : Nat)] ∧ PairsAt K H p bs ∧ bs[i]? = some true ∧ Q (.int (i : Nat)) H
def sp_Pairs_partner (K : PySem.W.Frag) : Sp := fun vs H Q _ => ∃ (p : Addr) (i g : Nat) (bs : List Bool), vs = [.ref p, .int (i : Nat)] ∧ PairsAt K H p bs ∧ bs.length ≤ 80 ∧ bs[i]? = some true ∧ i < g ∧ g ≤ bs.length ∧ ht bs g = ht bs i ∧
  (∀ q, i < q → q < g → ht bs q ≠ ht bs i) ∧ ∀ H', Same H H' → Q (.int ((g : Nat) - 1)) H'
def sp_Pairs_depth (K : PySem.W.Frag) : Sp := fun vs H Q _ => ∃ (p : Addr) (i : Nat) (bs : List Bool), vs = [.ref p, .int (i : Nat)] ∧ PairsAt K H p bs ∧ bs.length ≤ 80 ∧ bs[i]? = some true ∧ ∀ H', Same H H' → Q (.int (ht bs i)) H'
/-! ### woods -/
def sp_look_at (K : PySem.W.Frag) : Sp := fun vs H Q _ => ∃ (a : Addr) (d : Nat → Nat) (n : Nat), vs = [.ref a] ∧ H a = some (.lst (vi (els d n))) ∧ Wd d n ∧ n ≤ 40 ∧ ∀ l H', Same H H' → H' l = some (.lst (vi (els d n))) → Q (.ref l) H'
def sp_row_of (K : PySem.W.Frag) : Sp := fun vs H Q _ => ∃ (a : Addr) (d : Nat → Nat) (n : Nat), vs = [.ref a] ∧ H a = some (.lst (vi (els d n))) ∧ Wd d n ∧ n ≤ 40 ∧ ∀ H', Same H H' → Q (.str (sg (row d n))) H'
/-! ### opened -/
def sp_is_number (K : PySem.W.Frag) : Sp := fun vs H Q _ => ∃ i : Int, vs = [.int i] ∧ 0 ≤ i ∧ Q (.bl true) H
/-- the i-th, or None -/
def oneAt (xs : List Int) (i : Int) : V := match xs[i.toNat]? with
  | some x => .int x
  | none => .non
def sp_one_of (K : PySem.W.Frag) : Sp := fun vs H Q _ => ∃ (l : Addr) (i : Int) (xs : List Int), vs = [.ref l, .int i] ∧ H l = some (.lst (vi xs)) ∧ 0 ≤ i ∧ Q (oneAt xs i) H
def sp_Opened_init (K : PySem.W.Frag) : Sp := fun vs H Q _ => ∃ (o dx a : Addr) (d : Nat → Nat) (n : Nat), vs = [.ref o, .ref a] ∧ H o = some (.ins (CO K) dx []) ∧ H a = some (.lst (vi (els d n))) ∧ Wd d n ∧ n ≤ 40 ∧
  ∀ H', (∀ b u, H b = some u → b ≠ o → H' b = some u) → OpenedAt K H' o (row d n) → Q .non H'
def sp_Opened_many_knots (K : PySem.W.Frag) : Sp := fun vs H Q _ => ∃ (o : Addr) (n : Nat) (bs : List Bool), vs = [.ref o] ∧ OpenedAt K H o bs ∧ bs.length = 2 * n ∧ Q (.int (n : Nat)) H
def sp_Opened_opening (K : PySem.W.Frag) : Sp := fun vs H Q _ => ∃ (o : Addr) (k : Nat) (d : Nat → Nat) (n : Nat), vs = [.ref o, .int (k : Nat)] ∧ OpenedAt K H o (row d n) ∧ Wd d n ∧ n ≤ 40 ∧ k < n ∧ ∀ H', Same H H' → Q (.int ((2 * k - d k : Nat) : Nat)) H'
/-- what is beneath k ends ahead of e -/
def EndAt (d : Nat → Nat) (n k e : Nat) : Prop := k < e ∧ e ≤ n ∧ (∀ j, k < j → j < e → d k < d j) ∧ (e < n → d e ≤ d k)
def sp_Opened_closing (K : PySem.W.Frag) : Sp := fun vs H Q _ => ∃ (o : Addr) (k e : Nat) (d : Nat → Nat) (n : Nat), vs = [.ref o, .int (k : Nat)] ∧ OpenedAt K H o (row d n) ∧ Wd d n ∧ n ≤ 40 ∧ k < n ∧ EndAt d n k e ∧ ∀ H', Same H H' → Q (.int ((2 * e - d k - 1 : Nat) : Nat)) H'
def sp_Opened_beside (K : PySem.W.Frag) : Sp := fun vs H Q _ => ∃ (o : Addr) (lo hi : Nat) (bs : List Bool), vs = [.ref o, .int (lo : Nat), .int (hi : Nat)] ∧ OpenedAt K H o bs ∧ bs.length ≤ 80 ∧ lo ≤ hi ∧ hi ≤ bs.length ∧
  ∀ l H', Same H H' → H' l = some (.lst (vi (bes bs lo (hi - lo)))) → Q (.ref l) H'
def sp_Opened_children (K : PySem.W.Frag) : Sp := fun vs H Q _ => ∃ (o : Addr) (k : Nat) (d : Nat → Nat) (n : Nat), vs = [.ref o, .int (k : Nat)] ∧ OpenedAt K H o (row d n) ∧ Wd d n ∧ n ≤ 40 ∧ k < n ∧ ∀ l H', Same H H' → H' l = some (.lst (vi (kids d (k : Int) n))) → Q (.ref l) H'
def sp_Opened_many (K : PySem.W.Frag) : Sp := fun vs H Q _ => ∃ (o : Addr) (k : Nat) (d : Nat → Nat) (n : Nat), vs = [.ref o, .int (k : Nat)] ∧ OpenedAt K H o (row d n) ∧ Wd d n ∧ n ≤ 40 ∧ k < n ∧ ∀ H', Same H H' → Q (.int ((kids d (k : Int) n).length : Nat)) H'
def sp_Opened_nth (K : PySem.W.Frag) : Sp := fun vs H Q _ => ∃ (o : Addr) (k : Nat) (i : Int) (d : Nat → Nat) (n : Nat), vs = [.ref o, .int (k : Nat), .int i] ∧ OpenedAt K H o (row d n) ∧ Wd d n ∧ n ≤ 40 ∧ k < n ∧ 0 ≤ i ∧ ∀ H', Same H H' → Q (oneAt (kids d (k : Int) n) i) H'
def sp_Opened_top (K : PySem.W.Frag) : Sp := fun vs H Q _ => ∃ (o : Addr) (i : Int) (d : Nat → Nat) (n : Nat), vs = [.ref o, .int i] ∧ OpenedAt K H o (row d n) ∧ Wd d n ∧ n ≤ 40 ∧ 0 ≤ i ∧ ∀ H', Same H H' → Q (oneAt (kids d (-1) n) i) H'
def sp_Opened_many_tops (K : PySem.W.Frag) : Sp := fun vs H Q _ => ∃ (o : Addr) (d : Nat → Nat) (n : Nat), vs = [.ref o] ∧ OpenedAt K H o (row d n) ∧ Wd d n ∧ n ≤ 40 ∧ ∀ H', Same H H' → Q (.int ((kids d (-1) n).length : Nat)) H'
def sp_Opened_beneath (K : PySem.W.Frag) : Sp := fun vs H Q _ => ∃ (o : Addr) (k : Nat) (d : Nat → Nat) (n : Nat), vs = [.ref o, .int (k : Nat)] ∧ OpenedAt K H o (row d n) ∧ Wd d n ∧ n ≤ 40 ∧ k < n ∧ ∀ H', Same H H' → Q (.int (under d k n : Nat)) H'
def sp_Opened_depth (K : PySem.W.Frag) : Sp := fun vs H Q _ => ∃ (o : Addr) (k : Nat) (d : Nat → Nat) (n : Nat), vs = [.ref o, .int (k : Nat)] ∧ OpenedAt K H o (row d n) ∧ Wd d n ∧ n ≤ 40 ∧ k < n ∧ ∀ H', Same H H' → Q (.int (d k : Nat)) H'
/-! ### the law's own -/
def sp_l_cell_at (K : PySem.W.Frag) : Sp := fun vs H Q _ => ∃ (a : Addr) (k : Int) (ns : List Int), vs = [.ref a, .int k] ∧ SqL K H a (vi ns) ∧ 0 ≤ k ∧ ∀ z : Int, Q (.int z) H
def sp_l_mixed (K : PySem.W.Frag) : Sp := fun vs H Q _ => ∃ c k : Int, vs = [.int c, .int k] ∧ 0 ≤ k ∧ k ≤ 100 ∧ ∀ z : Int, 0 ≤ z → z < 2147483647 → Q (.int z) H
def sp_l_elders (K : PySem.W.Frag) : Sp := fun vs H Q _ => ∃ (c : Int) (m : Nat), vs = [.int c, .int (m : Nat)] ∧ m ≤ 40 ∧ ∀ (d : Nat → Nat) (l : Addr) (H' : Hp), Wd d m → Same H H' → H' l = some (.lst (vi (els d m))) → Q (.ref l) H'
def sp_l_wood (K : PySem.W.Frag) : Sp := fun vs H Q _ => ∃ (a : Addr) (ns : List Int), vs = [.ref a, .int 0] ∧ SqL K H a (vi ns) ∧ ∀ (d : Nat → Nat) (n : Nat) (l : Addr) (H' : Hp), n ≤ 40 → Wd d n → Same H H' → H' l = some (.lst (vi (els d n))) → Q (.ref l) H'
/-- lists at cs (and one more at z): the children of each knot, the tops -/
structure KidsAt (H : Hp) (l : Addr) (d : Nat → Nat) (n m : Nat) : Prop where
  ob : ∃ (cs : List Addr) (z : Addr), cs.length = n ∧ H l = some (.lst ((cs ++ [z]).map V.ref)) ∧ (∀ (i : Nat) (c : Addr), cs[i]? = some c → H c = some (.lst (vi (kids d (i : Int) m)))) ∧ H z = some (.lst (vi (kids d (-1) m)))
def sp_l_children (K : PySem.W.Frag) : Sp := fun vs H Q _ => ∃ (a : Addr) (d : Nat → Nat) (n : Nat), vs = [.ref a] ∧ H a = some (.lst (vi (els d n))) ∧ Wd d n ∧ n ≤ 40 ∧ ∀ l H', Same H H' → KidsAt H' l d n n → Q (.ref l) H'
def sp_l_is (K : PySem.W.Frag) : Sp := fun vs H Q _ => ∃ i : Int, vs = [.int i, .int i] ∧ Q (.bl true) H
def sp_l_is_or_none (K : PySem.W.Frag) : Sp := fun vs H Q _ => ∃ (xs : List Int) (i : Int), vs = [oneAt xs i, oneAt xs i] ∧ Q (.bl true) H
def deeps (d : Nat → Nat) (n : Nat) : List Int := (List.range n).map fun i => (d i : Int)
def unders (d : Nat → Nat) (n m : Nat) : List Int := (List.range n).map fun i => (under d i m : Int)
def sp_l_counted (K : PySem.W.Frag) : Sp := fun vs H Q _ => ∃ (a : Addr) (d : Nat → Nat) (n : Nat), vs = [.ref a] ∧ H a = some (.lst (vi (els d n))) ∧ Wd d n ∧ n ≤ 40 ∧
  ∀ (t x y : Addr) (H' : Hp), Same H H' → H' t = some (.tup [.ref x, .ref y]) → H' x = some (.lst (vi (deeps d n))) → H' y = some (.lst (vi (unders d n n))) → Q (.ref t) H'
def sp_l_at (K : PySem.W.Frag) : Sp := fun vs H Q _ => ∃ (l : Addr) (i : Int) (xs : List Int), vs = [.ref l, .int i] ∧ H l = some (.lst (vi xs)) ∧ 0 ≤ i ∧ Q (oneAt xs i) H
def sp_law (K : PySem.W.Frag) : Sp := fun vs H Q _ => ∃ (a : Addr) (ns : List Int), vs = [.ref a] ∧ SqL K H a (vi ns) ∧ ∀ H', Q (.bl true) H'
/-! ### small helps -/
theorem itD_t {c A B : Prop} [Decidable c] (h : c) (a : A) : if decide c = true then A else B := by
  rw [if_pos (decide_eq_true h)]
  exact a
theorem itD_f {c A B : Prop} [Decidable c] (h : ¬ c) (b : B) : if decide c = true then A else B := by
  rw [if_neg (by simpa using h)]
  exact b
theorem itN_t {c A B : Prop} [Decidable c] (h : ¬ c) (a : A) : if (!decide c) = true then A else B := by
  rw [if_pos (by simpa using h)]
  exact a
theorem itN_f {c A B : Prop} [Decidable c] (h : c) (b : B) : if (!decide c) = true then A else B := by
  rw [if_neg (by simpa using h)]
  exact b
/-- the body of a while: on to a smaller m -/
theorem nxt {Pv : Nat → L2.St → Hp → Prop} {m : Nat} {tb : TS} {D : Ends} {σ : L2.St} {H : Hp}
    (h : tb { D with nx := fun σ' H' => ∃ m', m' < m ∧ Pv m' σ' H', ct := fun σ' H' => ∃ m', m' < m ∧ Pv m' σ' H', bk := D.nx } σ H) :
    ∃ N : L2.St → Hp → Prop, (∀ σ' H', N σ' H' → ∃ m', m' < m ∧ Pv m' σ' H') ∧ tb { D with nx := N, ct := N, bk := D.nx } σ H := ⟨_, fun _ _ h => h, h⟩
theorem by_eq {α : Type} {P : α → Prop} {a b : α} (e : a = b) (h : P b) : P a := e ▸ h
theorem vi_get {xs : List Int} {i : Nat} {x : Int} (h : xs[i]? = some x) : (vi xs)[i]? = some (V.int x) := by
  unfold vi
  rw [List.getElem?_map, h]
  rfl
theorem vi_len {xs : List Int} : (vi xs).length = xs.length := List.length_map ..
theorem vi_app {xs : List Int} {x : Int} : vi xs ++ [V.int x] = vi (xs ++ [x]) := by simp [vi]
theorem vi_take {xs : List Int} {i : Nat} : (vi xs).take i = vi (xs.take i) := by simp [vi]
theorem sg_len {bs : List Bool} : (sg bs).length = bs.length := by
  show (bs.map _).toArray.size = _
  simp
theorem sg_size {bs : List Bool} : (sg bs).cps.size = bs.length := sg_len
theorem sg_get {bs : List Bool} {i : Nat} : (sg bs).cps[i]? = bs[i]?.map fun b => if b then 49 else 48 := by
  show (bs.map _).toArray[i]? = _
  simp
/-- one sign -/
def sgn (b : Bool) : Str := ⟨#[if b then 49 else 48]⟩
end Tw
namespace Tw
open PySem PySem.Spec PyProof.Rows L2
theorem shr_nat (w k : Nat) : (w : Int) / 2 ^ k = ((w >>> k : Nat) : Int) := by
  rw [Nat.shiftRight_eq_div_pow]
  norm_cast
theorem and_nat (a b : Nat) : Builtin.bitAnd (a : Int) (b : Int) = ((a &&& b : Nat) : Int) := by
  rw [bitAnd_pp (by omega) (by omega)]
  rfl
theorem sw1_int (w : Nat) : (w : Int) - Builtin.bitAnd ((w : Int) / 2 ^ (1 : Int).toNat) 1431655765 = (sw1 w : Int) := by
  show (w : Int) - Builtin.bitAnd ((w : Int) / 2 ^ (1 : Nat)) ((1431655765 : Nat) : Int) = _
  rw [shr_nat, and_nat]
  have := sh_le w 1431655765
  unfold sw1
  omega
theorem swk_int (w k m : Nat) : Builtin.bitAnd (w : Int) (m : Int) + Builtin.bitAnd ((w : Int) / 2 ^ ((k : Nat) : Int).toNat) (m : Int) = (((w &&& m) + (w >>> k &&& m) : Nat) : Int) := by
  rw [Int.toNat_natCast, shr_nat, and_nat, and_nat]
  omega
theorem sw5_int (w : Nat) : Builtin.bitAnd (w : Int) 65535 + (w : Int) / 2 ^ (16 : Int).toNat = (sw5 w : Int) := by
  show Builtin.bitAnd (w : Int) ((65535 : Nat) : Int) + (w : Int) / 2 ^ (16 : Nat) = _
  rw [shr_nat, and_nat]
  unfold sw5
  omega
section
variable {K : PySem.W.Frag} {mg : Str → Option Value} {P : Program} {w : World} {base : Heap}
theorem ok_ones_in (T : Top K mg) : Ok P w K mg base 1 (He.ga K "ones_in") ["word"] (sp_ones_in K) := by
  refine Ok.mk' T.f_ones_in sc_ones_in (fun _ _ _ _ _ _ us hl => match us, hl with | [_], _ => rfl) (fun vs H Q E h => ?_) (fun cdv A outer s H vs Q E hr h => ?_)
  · obtain ⟨l, rfl, hl, k⟩ := h
    rfl
  · obtain ⟨l, rfl, hl, k⟩ := h
    refine ⟨_, (pss_cons (ps_set (i := 0) sc_ones_in.nd rfl (Or.inl rfl) (pe_op op_sub (pv 0) (pe_op op_and (pe_op op_shr (pv 0) pe_int) pe_int)))
      (pss_cons (ps_set (i := 0) sc_ones_in.nd rfl (Or.inl rfl) (pe_op op_add (pe_op op_and (pv 0) pe_int) (pe_op op_and (pe_op op_shr (pv 0) pe_int) pe_int)))
      (pss_cons (ps_set (i := 0) sc_ones_in.nd rfl (Or.inl rfl) (pe_op op_add (pe_op op_and (pv 0) pe_int) (pe_op op_and (pe_op op_shr (pv 0) pe_int) pe_int)))
      (pss_cons (ps_set (i := 0) sc_ones_in.nd rfl (Or.inl rfl) (pe_op op_add (pe_op op_and (pv 0) pe_int) (pe_op op_and (pe_op op_shr (pv 0) pe_int) pe_int)))
      (pss_one (ps_ret (pe_op op_add (pe_op op_and (pv 0) pe_int) (pe_op op_shr (pv 0) pe_int)))))))), ?_⟩
    refine ⟨_, rfl, _, rfl, _, _, rfl, rfl, (by show (0 : Int) ≤ _; decide), _, _, rfl, rfl, _, _, rfl, rfl, ?_⟩
    dsimp only
    rw [sw1_int]
    refine ⟨_, rfl, _, _, rfl, rfl, _, rfl, _, _, rfl, rfl, (by show (0 : Int) ≤ _; decide), _, _, rfl, rfl, _, _, rfl, rfl, ?_⟩
    dsimp only
    rw [show Builtin.bitAnd ((sw1 (wd l) : Nat) : Int) 858993459 + Builtin.bitAnd (((sw1 (wd l) : Nat) : Int) / 2 ^ (2 : Int).toNat) 858993459 = ((sw2 (sw1 (wd l)) : Nat) : Int) from swk_int (sw1 (wd l)) 2 858993459]
    refine ⟨_, rfl, _, _, rfl, rfl, _, rfl, _, _, rfl, rfl, (by show (0 : Int) ≤ _; decide), _, _, rfl, rfl, _, _, rfl, rfl, ?_⟩
    dsimp only
    rw [show Builtin.bitAnd ((sw2 (sw1 (wd l)) : Nat) : Int) 252645135 + Builtin.bitAnd (((sw2 (sw1 (wd l)) : Nat) : Int) / 2 ^ (4 : Int).toNat) 252645135 = ((sw3 (sw2 (sw1 (wd l))) : Nat) : Int) from swk_int (sw2 (sw1 (wd l))) 4 252645135]
    refine ⟨_, rfl, _, _, rfl, rfl, _, rfl, _, _, rfl, rfl, (by show (0 : Int) ≤ _; decide), _, _, rfl, rfl, _, _, rfl, rfl, ?_⟩
    dsimp only
    rw [show Builtin.bitAnd ((sw3 (sw2 (sw1 (wd l))) : Nat) : Int) 16711935 + Builtin.bitAnd (((sw3 (sw2 (sw1 (wd l))) : Nat) : Int) / 2 ^ (8 : Int).toNat) 16711935 = ((sw4 (sw3 (sw2 (sw1 (wd l)))) : Nat) : Int) from swk_int (sw3 (sw2 (sw1 (wd l)))) 8 16711935]
    refine ⟨_, rfl, _, _, rfl, rfl, _, rfl, _, _, rfl, rfl, (by show (0 : Int) ≤ _; decide), _, _, rfl, rfl, ?_⟩
    dsimp only
    rw [sw5_int]
    have e : sw5 (sw4 (sw3 (sw2 (sw1 (wd l))))) = l.count true := sw_wd hl
    rw [e]
    exact k
theorem ok_nth_one (T : Top K mg) (O_ones_in : Ok P w K mg base 1 (He.ga K "ones_in") ["word"] (sp_ones_in K)) : Ok P w K mg base 2 (He.ga K "nth_one") ["word", "nth"] (sp_nth_one K) := by
  obtain ⟨fd_ones_in, F_ones_in, b_ones_in, kp_ones_in⟩ := O_ones_in.ex
  refine Ok.mk' T.f_nth_one sc_nth_one (fun _ _ _ _ _ _ us hl => match us, hl with | [_, _], _ => rfl) (fun vs H Q E h => ?_) (fun cdv A outer s H vs Q E hr h => ?_)
  · obtain ⟨l, p, rfl, hl, hp, k⟩ := h
    rfl
  · obtain ⟨l, p, rfl, hl, hp, k⟩ := h
    refine ⟨_, (pss_cons (ps_if (pt_cmpR op_le (pe_call F_ones_in (hr.mono (by decide)) rfl T.g_ones_in kp_ones_in b_ones_in .nil pass0 (pa_cons (pv 0) pa_nil)) (pv 1) (nomark _)) (pss_one (ps_ret pe_non)) pss_nil)
      (pss_cons (ps_for PassesOwn.never rfl (pi_range1 rfl T.b_range (pa_cons (pv 1) pa_nil)) (pg_name (i := 2) sc_nth_one.nd rfl (Or.inl rfl)) (pss_one (ps_set (i := 0) sc_nth_one.nd rfl (Or.inl rfl) (pe_op op_and (pv 0) (pe_op op_sub (pv 0) pe_int)))))
      (pss_cons (ps_set (i := 3) sc_nth_one.nd rfl (Or.inl rfl) pe_int)
      (pss_cons (ps_while PassesOwn.never (pt_cmpR op_eq (pe_op op_and (pe_op op_shr (pv 0) (pv 3)) pe_int) pe_int (nomark _)) (pss_one (ps_aug (i := 3) sc_nth_one.nd rfl (Or.inl rfl) pe_int ip_add)))
      (pss_one (ps_ret (pv 3))))))), ?_⟩
    have hlt : (l.take p).count true < l.count true := by
      have h1 := opn_succ l hp
      have h2 := opn_le l (p + 1)
      unfold op at h1 h2
      simp only [Bool.toNat_true] at h1
      omega
    refine ⟨_, rfl, l, rfl, hl, _, rfl, _, _, rfl, rfl, _, rfl, itD_f (by omega) ?_⟩
    -- for turn in range(nth): word = word & word - 1
    have h62 : (l.take p).count true ≤ 32 := Nat.le_trans List.count_le_length (by rw [List.length_take]; omega)
    refine ⟨_, rfl, _, rfl, by omega, by omega, for_range (lo := 0) (n := (((l.take p).count true : Nat) : Int).toNat) (fun i σ H2 => ∃ v u, σ = [some (.int (wd (clrs i l) : Nat)), some (.int ((l.take p).count true : Nat)), v, u] ∧ H2 = H) ⟨none, none, rfl, rfl⟩ ?_ ?_⟩
    · rintro i σ H2 hi ⟨v, u, rfl, rfl⟩
      refine ⟨_, rfl, _, rfl, _, _, rfl, rfl, _, _, rfl, rfl, ?_⟩
      have e : Builtin.bitAnd ((wd (clrs i l) : Nat) : Int) (((wd (clrs i l) : Nat) : Int) - 1) = ((wd (clrs (i + 1) l) : Nat) : Int) := by
        show _ = ((wd (clr (clrs i l)) : Nat) : Int)
        rw [clr_wd]
        by_cases z : wd (clrs i l) = 0
        · rw [z]; decide
        · rw [show ((wd (clrs i l) : Nat) : Int) - 1 = ((wd (clrs i l) - 1 : Nat) : Int) by omega, and_nat]
      exact ⟨_, _, congrArg (fun z => [some (V.int z), some (.int ((l.take p).count true : Nat)), some (.int (0 + (i : Nat))), u]) e, rfl⟩
    · rintro σ H2 ⟨v, u, rfl, rfl⟩
      rw [Int.toNat_natCast]
      obtain ⟨c1, c2⟩ := clrs_at l p hp
      -- place = 0; while word >> place & 1 == 0: place += 1
      refine ⟨fun m σ H3 => ∃ (v : Option V) (j : Nat), σ = [some (.int (wd (clrs ((l.take p).count true) l) : Nat)), some (.int ((l.take p).count true : Nat)), v, some (.int (j : Nat))] ∧ j + m = p ∧ H3 = H2, ⟨p, _, 0, rfl, by omega, rfl⟩, ?_⟩
      rintro m σ H3 ⟨v, j, rfl, hj, rfl⟩
      refine ⟨_, rfl, _, rfl, _, _, rfl, rfl, (by show (0 : Int) ≤ _; omega), _, _, rfl, rfl, rfl, _, rfl, ?_⟩
      have ev : ∀ b, (clrs ((l.take p).count true) l)[j]? = some b → Builtin.bitAnd (((wd (clrs ((l.take p).count true) l) : Nat) : Int) / 2 ^ ((j : Nat) : Int).toNat) 1 = ((b.toNat : Nat) : Int) := by
        intro b hb
        have := wd_bit_at hb
        rw [Int.toNat_natCast, shr_nat, show (1 : Int) = ((1 : Nat) : Int) from rfl, and_nat, Nat.and_one_is_mod, Nat.shiftRight_eq_div_pow, this]
      by_cases q : j = p
      · subst q
        refine itD_f (fun z => ?_) ?_
        · have z2 := (ev true c1).symm.trans (V.int.inj z)
          exact absurd z2 (by decide)
        · exact ⟨_, rfl, k⟩
      · refine itD_t (congrArg V.int (ev false (c2 j (by omega)))) (nxt ?_)
        refine ⟨_, rfl, _, _, rfl, rfl, ?_⟩
        exact ⟨m - 1, by omega, _, j + 1, rfl, by omega, rfl⟩
theorem ok_is_amid (T : Top K mg) : Ok P w K mg base 1 (He.ga K "is_amid") ["thing", "low", "high"] (sp_is_amid K) := by
  refine Ok.mk' T.f_is_amid sc_is_amid (fun _ _ _ _ _ _ us hl => match us, hl with | [_, _, _], _ => rfl) (fun vs H Q E h => ?_) (fun cdv A outer s H vs Q E hr h => ?_)
  · obtain ⟨i, lo, hi, rfl, h1, h2, k⟩ := h
    rfl
  · obtain ⟨i, lo, hi, rfl, h1, h2, k⟩ := h
    refine ⟨_, (pss_one (ps_ret (pe_and (pe_callB call_isi (by rfl) T.b_isinstance (by decide +kernel) (pa_cons (pv 0) (pa_cons (pe_bltn (v := .ty "int") rfl T.b_int (by decide +kernel) rfl) pa_nil))) (pe_and (pe_not (pe_callB call_isi (by rfl) T.b_isinstance (by decide +kernel) (pa_cons (pv 0) (pa_cons (pe_bltn (v := .ty "bool") rfl T.b_bool (by decide +kernel) rfl) pa_nil)))) (pe_one (pe_chain op_le op_le (pv 1) (pv 0) (pv 2))))))), ?_⟩
    refine ⟨_, rfl, _, _, _, _, _, rfl, .ty "int", .base (.int _), kit_ty (r := true) (by decide +kernel), _, rfl, iteT ?_⟩
    refine ⟨_, rfl, _, _, _, _, _, rfl, .ty "bool", .base (.int _), kit_ty (r := false) (by decide +kernel), _, rfl, _, rfl, iteT ?_⟩
    refine ⟨_, rfl, _, rfl, _, _, rfl, rfl, _, rfl, itD_t h1 ?_⟩
    refine ⟨_, rfl, _, _, rfl, rfl, ?_⟩
    dsimp only
    rw [decide_eq_true h2]
    exact k
end
end Tw
namespace Tw
open PySem PySem.Spec PyProof.Rows L2
theorem rg32 : ∀ n, n < 81 → RgC 0 (n : Nat) 32 ((n + 31) / 32) := by
  have h : ∀ n, n < 81 → Builtin.Range.small 0 ((n : Nat) : Int) 32 = true ∧ Builtin.Range.rangeSize 0 ((n : Nat) : Int) 32 = (((n + 31) / 32 : Nat) : Int) := by decide +kernel
  exact fun n hn => ⟨by decide, by decide, (h n hn).1, (h n hn).2⟩
theorem rg8 : ∀ n, n < 81 → RgC 0 (n : Nat) 8 ((n + 7) / 8) := by
  have h : ∀ n, n < 81 → Builtin.Range.small 0 ((n : Nat) : Int) 8 = true ∧ Builtin.Range.rangeSize 0 ((n : Nat) : Int) 8 = (((n + 7) / 8 : Nat) : Int) := by decide +kernel
  exact fun n hn => ⟨by decide, by decide, (h n hn).1, (h n hn).2⟩
theorem rg256 : ∀ n, n < 81 → RgC 0 (n : Nat) 256 ((n + 255) / 256) := by
  have h : ∀ n, n < 81 → Builtin.Range.small 0 ((n : Nat) : Int) 256 = true ∧ Builtin.Range.rangeSize 0 ((n : Nat) : Int) 256 = (((n + 255) / 256 : Nat) : Int) := by decide +kernel
  exact fun n hn => ⟨by decide, by decide, (h n hn).1, (h n hn).2⟩
theorem cut_list {α : Type} (l : List α) (a b : Nat) : (l.drop (min a l.length)).take (min b l.length - min a l.length) = (l.drop a).take (b - a) := by
  by_cases h : a ≤ l.length
  · rw [Nat.min_eq_left h]
    by_cases h2 : b ≤ l.length
    · rw [Nat.min_eq_left h2]
    · rw [show min b l.length = l.length by omega, List.take_of_length_le (by rw [List.length_drop]; omega), List.take_of_length_le (by rw [List.length_drop]; omega)]
  · rw [show min a l.length = l.length by omega, List.drop_length, List.drop_eq_nil_of_le (by omega)]
    simp
theorem cutS_sg (bs : List Bool) (a b : Nat) : cutS (sg bs) (some ((a : Nat) : Int)) (some ((b : Nat) : Int)) = sg ((bs.drop a).take (b - a)) := by
  unfold cutS
  rw [HT.sIx_nat, HT.sIx_nat]
  have e : (sg bs).length = (sg bs).cps.toList.length := rfl
  rw [e, cut_list]
  unfold sg
  simp [List.map_drop, List.map_take]
theorem cutV_nat (xs : List V) (a b : Nat) : cutV xs (some ((a : Nat) : Int)) (some ((b : Nat) : Int)) = (xs.drop a).take (b - a) := by
  unfold cutV
  rw [HT.sIx_nat, HT.sIx_nat, cut_list]
theorem wd_step {l : List Bool} {j : Nat} {b : Bool} (h : l[j]? = some b) : wd (l.take (j + 1)) = wd (l.take j) + b.toNat * 2 ^ j := by
  obtain ⟨h1, h2⟩ := List.getElem?_eq_some_iff.mp h
  rw [List.take_succ_eq_append_getElem h1, wd_app, h2, List.length_take, Nat.min_eq_left (by omega)]
  cases b <;> simp [wd]
theorem size80 {n : Nat} (h : n ≤ 1000) : n ≤ sizeLine := Nat.le_of_lt (small1000 h)
section
variable {K : PySem.W.Frag} {mg : Str → Option Value} {P : Program} {w : World} {base : Heap}
theorem ok_words_of (T : Top K mg) : Ok P w K mg base 1 (He.ga K "words_of") ["text"] (sp_words_of K) := by
  obtain ⟨tk_WORD_words, hc_WORD_words⟩ := T.c_WORD_words
  refine Ok.mk' T.f_words_of sc_words_of (fun _ _ _ _ _ _ us hl => match us, hl with | [_], _ => rfl) (fun vs H Q E h => ?_) (fun cdv A outer s H vs Q E hr h => ?_)
  · obtain ⟨bs, rfl, hl, k⟩ := h
    rfl
  · obtain ⟨bs, rfl, hl, k⟩ := h
    refine ⟨_, (pss_cons (ps_set (i := 1) sc_words_of.nd rfl (Or.inl rfl) (pe_lst pa_nil))
      (pss_cons (ps_for PassesOwn.never rfl (pi_range3 rfl T.b_range (pa_cons pe_int (pa_cons (pe_callB call_len_str (by rfl) T.b_len PySem.boot_len (pa_cons (pv 0) pa_nil)) (pa_cons (pe_glob (v := .int 32) rfl hc_WORD_words ⟨_, rfl⟩) pa_nil)))) (pg_name (i := 2) sc_words_of.nd rfl (Or.inl rfl)) (pss_cons (ps_set (i := 3) sc_words_of.nd rfl (Or.inl rfl) pe_int)
      (pss_cons (ps_for PassesOwn.never rfl (pi_enumS (by rfl) T.b_enumerate (pa_cons (pe_slice sl_str (pv 0) (po_some (pv 2)) (po_some (pe_op op_add (pv 2) (pe_glob (v := .int 32) rfl hc_WORD_words ⟨_, rfl⟩)))) pa_nil)) (pg_tup (by rfl) (pgs_cons (pg_name (i := 4) sc_words_of.nd rfl (Or.inl rfl)) (pgs_cons (pg_name (i := 5) sc_words_of.nd rfl (Or.inl rfl)) pgs_nil))) (pss_one (ps_if (pt_cmpR op_eq (pv 5) pe_str (nomark _)) (pss_one (ps_set (i := 3) sc_words_of.nd rfl (Or.inl rfl) (pe_op op_or (pv 3) (pe_op op_shl pe_int (pv 4))))) pss_nil)))
      (pss_one (ps_expr (pe_bm PySem.F.plainAttrs_list PySem.F.slot_list_append PySem.F.type_list_append mt_append (pv 1) (pa_cons (pv 3) pa_nil)))))))
      (pss_one (ps_ret (pe_callTy call_tuple_of (by rfl) T.b_tuple (by decide +kernel) (pa_cons (pv 1) pa_nil)))))), ?_⟩
    refine ⟨Nat.zero_le _, fun l nl => ?_⟩
    refine ⟨_, rfl, _, rfl, by rw [sg_len]; exact size80 (by omega), _, _, _, nw bs, rfl, by rw [sg_len]; exact rg32 _ (by omega), for_rangeC (lo := 0) (c := 32) (n := nw bs) (fun i σ H2 => ∃ a b c e, σ = [some (.str (sg bs)), some (.ref l), a, b, c, e] ∧ Same H H2 ∧ H2 l = some (.lst (vi ((wds bs).take i)))) ⟨none, none, none, none, rfl, same_upd nl, upd_same⟩ ?_ ?_⟩
    · rintro i σ H2 hi ⟨a, b, c, e, rfl, s2, h2⟩
      -- word = 0; for place, sign in enumerate(text[start:start + WORD]): ..
      refine ⟨_, rfl, _, rfl, _, rfl, _, rfl, _, _, rfl, rfl, _, rfl, _, rfl, by rw [sg_len]; exact size80 (by omega), _, rfl, ?_⟩
      have ec : cutS (sg bs) (some (0 + ((i : Nat) : Int) * 32)) (some (0 + ((i : Nat) : Int) * 32 + 32)) = sg (chunk bs i) := by
        rw [show (0 + ((i : Nat) : Int) * 32) = ((32 * i : Nat) : Int) by omega, show (((32 * i : Nat) : Int) + 32) = ((32 * i + 32 : Nat) : Int) by omega, cutS_sg, Nat.add_sub_cancel_left]
        rfl
      have cl := chunk_len bs i
      rw [ec]
      refine for_it (walk_enumS (x := sg (chunk bs i))) (fun j σ H3 => ∃ c e, σ = [some (.str (sg bs)), some (.ref l), some (.int (0 + ((i : Nat) : Int) * 32)), some (.int (wd ((chunk bs i).take j) : Nat)), c, e] ∧ Same H2 H3) ⟨_, _, rfl, Same.refl _⟩ (fun _ _ _ _ _ => trivial) ?_ ?_
      · rintro j x σ H3 H4 hj ⟨c, e, rfl, s3⟩ ⟨T1, u, v, rfl, hT, rfl, hu, hv⟩
        cases hu
        rw [sg_size] at hj
        have hb : (chunk bs i)[j]? = some (chunk bs i)[j] := List.getElem?_eq_getElem hj
        have hv2 : some v = some (V.str (sgn (chunk bs i)[j])) := by
          rw [← hv]
          show Option.map _ (sg (chunk bs i)).cps[j]? = _
          rw [sg_get, hb]
          rfl
        cases hv2
        refine ⟨T1, _, rfl, SqT.of upd_same, rfl, _, _, rfl, _, _, rfl, rfl, ?_⟩
        refine ⟨_, rfl, rfl, _, rfl, ?_⟩
        have s4 : Same H2 (upd H3 T1 (.tup [.int (j : Nat), .str (sgn (chunk bs i)[j])])) := s3.trans (same_upd hT)
        have es := wd_step hb
        generalize (chunk bs i)[j] = b at *
        cases b with
        | true =>
          refine itD_t (by decide) ?_
          refine ⟨_, rfl, _, rfl, _, _, rfl, rfl, ⟨by omega, by omega, by decide⟩, _, _, rfl, rfl, ?_⟩
          have ew : Builtin.bitOr ((wd ((chunk bs i).take j) : Nat) : Int) (1 * 2 ^ ((j : Nat) : Int).toNat) = ((wd ((chunk bs i).take (j + 1)) : Nat) : Int) := by
            have lt := wd_lt ((chunk bs i).take j)
            rw [List.length_take, Nat.min_eq_left (by omega)] at lt
            rw [Int.toNat_natCast, Bits.bitOr_join (by omega) (by exact_mod_cast lt) (by decide), es, Bool.toNat_true]
            push_cast
            rfl
          exact ⟨_, _, congrArg (fun z => [some (V.str (sg bs)), some (V.ref l), some (V.int (0 + ((i : Nat) : Int) * 32)), some (V.int z), some (V.int (j : Nat)), some (V.str (sgn true))]) ew, s4⟩
        | false =>
          refine itD_f (by decide) ?_
          have ew : wd ((chunk bs i).take j) = wd ((chunk bs i).take (j + 1)) := by
            rw [es, Bool.toNat_false]
            omega
          exact ⟨_, _, congrArg (fun z => [some (V.str (sg bs)), some (V.ref l), some (V.int (0 + ((i : Nat) : Int) * 32)), some (V.int ((z : Nat) : Int)), some (V.int (j : Nat)), some (V.str (sgn false))]) ew, s4⟩
      · rintro σ H3 ⟨c, e, rfl, s3⟩
        rw [sg_size, List.take_of_length_le (Nat.le_refl _)]
        have h3 := s3 _ _ h2
        refine ⟨_, rfl, .inl ⟨rfl, _, SqL.of h3⟩, _, rfl, l, _, _, rfl, rfl, h3, ?_, ?_⟩
        · rw [vi_len, List.length_take, wds_len]
          unfold nw at *
          exact small1000 (by omega)
        · refine ⟨_, _, _, _, rfl, fun b o hb => ?_, ?_⟩
          · rw [upd_ne (fun q => by rw [q, nl] at hb; cases hb)]
            exact s3 _ _ (s2 _ _ hb)
          · rw [upd_same, vi_app]
            have hg := wds_get hi
            obtain ⟨g1, g2⟩ := List.getElem?_eq_some_iff.mp hg
            rw [List.take_succ_eq_append_getElem g1, g2]
    · rintro σ H2 ⟨a, b, c, e, rfl, s2, h2⟩
      rw [List.take_of_length_le (by rw [wds_len]; exact Nat.le_refl _)] at h2
      refine ⟨_, rfl, l, _, rfl, .inl ⟨SqL.of h2, fun t nt => ?_⟩⟩
      exact k t _ (s2.trans (same_upd nt)) (SqT.of upd_same)
end
end Tw
namespace Tw
open PySem PySem.Spec PyProof.Rows L2
theorem seqT_ins {K : PySem.W.Frag} {H : Hp} {a p C dx : Addr} {fs : List (Str × V)} {xs : List V} {o : HO} (hp : H p = some (.ins C dx fs)) (h : SqT K H a xs) : SqT K (upd H p o) a xs := by
  rcases h with (h | ⟨u, h⟩) | h
  · refine .inl (.inl ?_)
    rw [upd_ne (ne_of h hp (by intro z; cases z))]
    exact h
  · refine .inl (.inr ⟨u, ?_⟩)
    rw [upd_ne (ne_of h hp (by intro z; cases z))]
    exact h
  · exact .inr h
theorem same_but {H H' : Hp} {p : Addr} {o : HO} (h : ∀ b u, H b = some u → b ≠ p → H' b = some u) : ∀ b u, H b = some u → b ≠ p → (upd H' p o) b = some u := fun b u e n => by
  rw [upd_ne n]
  exact h b u e n
theorem sign_in (b : Bool) : decide ((if b then 49 else 48 : Nat) ∈ ("01" : Str).cps.toList) = true := by cases b <;> decide +kernel
section
variable {K : PySem.W.Frag} {mg : Str → Option Value} {P : Program} {w : World} {base : Heap}
theorem ok_Bits_size (T : Top K mg) : Ok P w K mg base 1 (He.ma K (He.ga K "Bits") "size") ["self"] (sp_Bits_size K) := by
  refine Ok.mk' T.f_Bits_size sc_Bits_size (fun _ _ _ _ _ _ us hl => match us, hl with | [_], _ => rfl) (fun vs H Q E h => ?_) (fun cdv A outer s H vs Q E hr h => ?_)
  · obtain ⟨p, bs, rfl, B, k⟩ := h
    rfl
  · obtain ⟨p, bs, rfl, B, k⟩ := h
    refine ⟨_, (pss_one (ps_ret (pe_fld (pv 0) rfl))), ?_⟩
    obtain ⟨dx, t, h1, h2⟩ := B.ob
    exact ⟨_, rfl, p, CB K, dx, _, _, rfl, h1, T.cl_Bits, T.n_Bits_length, flB_length _ _, k⟩
theorem ok_Bits_words (T : Top K mg) : Ok P w K mg base 1 (He.ma K (He.ga K "Bits") "words") ["self"] (sp_Bits_words K) := by
  refine Ok.mk' T.f_Bits_words sc_Bits_words (fun _ _ _ _ _ _ us hl => match us, hl with | [_], _ => rfl) (fun vs H Q E h => ?_) (fun cdv A outer s H vs Q E hr h => ?_)
  · obtain ⟨p, bs, rfl, B, k⟩ := h
    rfl
  · obtain ⟨p, bs, rfl, B, k⟩ := h
    refine ⟨_, (pss_one (ps_ret (pe_fld (pv 0) rfl))), ?_⟩
    obtain ⟨dx, t, h1, h2⟩ := B.ob
    exact ⟨_, rfl, p, CB K, dx, _, _, rfl, h1, T.cl_Bits, T.n_Bits_kept, flB_kept _ _, k t h2⟩
theorem ok_Bits_need (T : Top K mg) (O_is_amid : Ok P w K mg base 1 (He.ga K "is_amid") ["thing", "low", "high"] (sp_is_amid K)) : Ok P w K mg base 2 (He.ma K (He.ga K "Bits") "need") ["self", "place", "most"] (sp_Bits_need K) := by
  obtain ⟨fd_is_amid, F_is_amid, b_is_amid, kp_is_amid⟩ := O_is_amid.ex
  refine Ok.mk' T.f_Bits_need sc_Bits_need (fun _ _ _ _ _ _ us hl => match us, hl with | [_, _, _], _ => rfl) (fun vs H Q E h => ?_) (fun cdv A outer s H vs Q E hr h => ?_)
  · obtain ⟨v, i, m, rfl, h0, h1, k⟩ := h
    rfl
  · obtain ⟨v, i, m, rfl, h0, h1, k⟩ := h
    refine ⟨_, (pss_one (ps_if (pt_not (pt_val (pe_call F_is_amid (hr.mono (by decide)) rfl T.g_is_amid kp_is_amid b_is_amid .nil pass0 (pa_cons (pv 1) (pa_cons pe_int (pa_cons (pv 2) pa_nil)))))) (pss_one ps_never) pss_nil)), ?_⟩
    exact ⟨_, rfl, _, rfl, _, _, _, rfl, h0, h1, _, rfl, iteF k⟩
theorem ok_Bits_at (T : Top K mg) : Ok P w K mg base 1 (He.ma K (He.ga K "Bits") "at") ["self", "place"] (sp_Bits_at K) := by
  obtain ⟨tk_WORD_words, hc_WORD_words⟩ := T.c_WORD_words
  refine Ok.mk' T.f_Bits_at sc_Bits_at (fun _ _ _ _ _ _ us hl => match us, hl with | [_, _], _ => rfl) (fun vs H Q E h => ?_) (fun cdv A outer s H vs Q E hr h => ?_)
  · obtain ⟨p, i, bs, b, rfl, B, hb, k⟩ := h
    rfl
  · obtain ⟨p, i, bs, b, rfl, B, hb, k⟩ := h
    refine ⟨_, (pss_one (ps_ret (pe_op op_and (pe_op op_shr (pe_ix ix_tup (pe_fld (pv 0) rfl) (pe_op op_fdiv (pv 1) (pe_glob (v := .int 32) rfl hc_WORD_words ⟨_, rfl⟩)) (fun _ _ => rfl)) (pe_op op_mod (pv 1) (pe_glob (v := .int 32) rfl hc_WORD_words ⟨_, rfl⟩))) pe_int))), ?_⟩
    obtain ⟨dx, t, h1, h2⟩ := B.ob
    have hi : i < bs.length := (List.getElem?_eq_some_iff.mp hb).1
    have hw : i / 32 < nw bs := by unfold nw; omega
    refine ⟨_, rfl, p, CB K, dx, _, _, rfl, h1, T.cl_Bits, T.n_Bits_kept, flB_kept _ _, _, rfl, _, _, rfl, rfl, ⟨by decide, by decide⟩, t, _, _, _, rfl, rfl, h2, at_of (j := i / 32) (by omega) (vi_get (wds_get hw)), _, rfl, _, _, rfl, rfl, (by show (0 : Int) < 32; decide), _, _, rfl, rfl, (by show (0 : Int) ≤ (i : Int) % 32; omega), _, _, rfl, rfl, ?_⟩
    dsimp only
    have hc : (chunk bs (i / 32))[i % 32]? = some b := by
      rw [chunk_get (by omega), show 32 * (i / 32) + i % 32 = i by omega]
      exact hb
    have e : Builtin.bitAnd (((wd (chunk bs (i / 32)) : Nat) : Int) / 2 ^ ((i : Int) % 32).toNat) 1 = ((b.toNat : Nat) : Int) := by
      rw [show ((i : Int) % 32).toNat = i % 32 by omega, shr_nat, show (1 : Int) = ((1 : Nat) : Int) from rfl, and_nat, Nat.and_one_is_mod, Nat.shiftRight_eq_div_pow, wd_bit_at hc]
    rw [e]
    exact k
theorem ok_Bits_bit (T : Top K mg) (O_Bits_need : Ok P w K mg base 2 (He.ma K (He.ga K "Bits") "need") ["self", "place", "most"] (sp_Bits_need K)) (O_Bits_at : Ok P w K mg base 1 (He.ma K (He.ga K "Bits") "at") ["self", "place"] (sp_Bits_at K)) : Ok P w K mg base 3 (He.ma K (He.ga K "Bits") "bit") ["self", "place"] (sp_Bits_bit K) := by
  obtain ⟨fd_Bits_need, F_Bits_need, b_Bits_need, kp_Bits_need⟩ := O_Bits_need.ex
  obtain ⟨fd_Bits_at, F_Bits_at, b_Bits_at, kp_Bits_at⟩ := O_Bits_at.ex
  refine Ok.mk' T.f_Bits_bit sc_Bits_bit (fun _ _ _ _ _ _ us hl => match us, hl with | [_, _], _ => rfl) (fun vs H Q E h => ?_) (fun cdv A outer s H vs Q E hr h => ?_)
  · obtain ⟨p, i, bs, b, rfl, B, hb, k⟩ := h
    rfl
  · obtain ⟨p, i, bs, b, rfl, B, hb, k⟩ := h
    refine ⟨_, (pss_cons (ps_expr (pe_meth (pv 0) T.cl_Bits T.m_Bits_need F_Bits_need (hr.mono (by decide)) b_Bits_need .nil pass0 (pa_cons (pv 1) (pa_cons (pe_op op_sub (pe_fld (pv 0) rfl) pe_int) pa_nil))))
      (pss_one (ps_ret (pe_meth (pv 0) T.cl_Bits T.m_Bits_at F_Bits_at (hr.mono (by decide)) b_Bits_at .nil pass0 (pa_cons (pv 1) pa_nil))))), ?_⟩
    obtain ⟨dx, t, h1, h2⟩ := id B.ob
    have hi : i < bs.length := (List.getElem?_eq_some_iff.mp hb).1
    refine ⟨_, rfl, p, dx, _, rfl, h1, flB_no _ _ _ (by decide +kernel), _, rfl, _, rfl, p, CB K, dx, _, _, rfl, h1, T.cl_Bits, T.n_Bits_length, flB_length _ _, _, _, rfl, rfl, _, _, _, rfl, by omega, by omega, ?_⟩
    exact ⟨_, rfl, p, dx, _, rfl, h1, flB_no _ _ _ (by decide +kernel), _, rfl, p, i, bs, b, rfl, B, hb, k⟩
theorem ok_Bits_init (T : Top K mg) (O_words_of : Ok P w K mg base 1 (He.ga K "words_of") ["text"] (sp_words_of K)) : Ok P w K mg base 2 (He.ma K (He.ga K "Bits") "__init__") ["self", "text"] (sp_Bits_init K) := by
  obtain ⟨tk_MOST_bits, hc_MOST_bits⟩ := T.c_MOST_bits
  obtain ⟨fd_words_of, F_words_of, b_words_of, kp_words_of⟩ := O_words_of.ex
  refine Ok.mk' T.f_Bits_init sc_Bits_init (fun _ _ _ _ _ _ us hl => match us, hl with | [_, _], _ => rfl) (fun vs H Q E h => ?_) (fun cdv A outer s H vs Q E hr h => ?_)
  · obtain ⟨p, dx, bs, rfl, hp, hl, k⟩ := h
    rfl
  · obtain ⟨p, dx, bs, rfl, hp, hl, k⟩ := h
    refine ⟨_, (pss_cons (ps_if (PW.pt (pw_or (pt_not (pt_val (pe_callB call_isi (by rfl) T.b_isinstance (by decide +kernel) (pa_cons (pv 1) (pa_cons (pe_bltn (v := .ty "str") rfl T.b_str (by decide +kernel) rfl) pa_nil))))) (pw_or (pt_cmpR op_gt (pe_callB call_len_str (by rfl) T.b_len PySem.boot_len (pa_cons (pv 1) pa_nil)) (pe_glob (v := .int 20000) rfl hc_MOST_bits ⟨_, rfl⟩) (nomark _)) (pw_or1 (pt_not (pt_val (pe_callB (cr_all rfl) (by rfl) T.b_all (by decide +kernel) (pa_cons (pe_lc (own := [("sign", 2)]) (g := gName 2) (tt := tYes) rfl sc_Bits_init.nd (pi_str (pv 1)) (blkOk_by (own := [("sign", 2)]) (N := ["self", "text", "sign"]) (sc := defScope s_Bits_init) (by decide +kernel)) (fun _ _ _ _ _ => pg_name (i := 2) sc_Bits_init.nd rfl (Or.inl rfl)) (fun _ _ _ _ _ => pts_nil) (fun _ _ _ _ _ => (pe_cmpR op_in_sign (pv 2) pe_str (by rfl)))) pa_nil)))))))) (pss_one ps_never) pss_nil)
      (pss_cons (ps_fld (pv 0) (pe_call F_words_of (hr.mono (by decide)) rfl T.g_words_of kp_words_of b_words_of .nil pass0 (pa_cons (pv 1) pa_nil)) rfl)
      (pss_one (ps_fld (pv 0) (pe_callB call_len_str (by rfl) T.b_len PySem.boot_len (pa_cons (pv 1) pa_nil)) rfl)))), ?_⟩
    refine ⟨_, rfl, _, _, _, _, _, rfl, .ty "str", .base (.str _), kit_ty (r := true) (by decide +kernel), _, rfl, iteF ?_⟩
    refine ⟨_, rfl, _, rfl, by rw [sg_len]; exact size80 (by omega), _, _, rfl, rfl, _, rfl, itD_f (by rw [sg_len]; omega) ?_⟩
    refine ⟨_, rfl, _, rfl, fun D hD => lc_it (walk_str (z := sg bs)) (fun j H3 => Same H H3 ∧ H3 D = some (.lst ((List.replicate j true).map V.bl))) ⟨same_upd hD, upd_same⟩ (fun _ _ _ _ => trivial) ?_ ?_⟩
    · rintro j x H3 H4 hj ⟨s3, h3⟩ ⟨rfl, c, hc, rfl⟩
      rw [sg_size] at hj
      have hb : bs[j]? = some bs[j] := List.getElem?_eq_getElem hj
      rw [sg_get, hb] at hc
      cases hc
      refine ⟨rfl, ?_⟩
      refine ⟨_, rfl, _, _, rfl, rfl, _, h3, ?_, ?_, ?_⟩
      · rw [List.length_map, List.length_replicate]
        exact small1000 (by omega)
      · intro b o hb
        rw [upd_ne (fun q => by rw [q, hD] at hb; cases hb)]
        exact s3 _ _ hb
      · rw [upd_same, sign_in, List.replicate_succ', List.map_append]
        rfl
    · rintro H3 ⟨s3, h3⟩
      refine ⟨D, _, rfl, SqL.of h3, ?_⟩
      have ea : (List.replicate (sg bs).cps.size true).all id = true := by
        rw [List.all_eq_true]
        intro x hx
        rw [List.eq_of_mem_replicate hx]
        rfl
      rw [ea]
      refine ⟨_, rfl, iteF ?_⟩
      -- self.kept = words_of(text); self.length = len(text)
      refine ⟨_, rfl, bs, rfl, hl, fun t H4 s4 ht => ?_⟩
      have hp4 := s4 _ _ (s3 _ _ hp)
      refine ⟨_, rfl, p, CB K, dx, _, rfl, hp4, T.cl_Bits, T.n_Bits_kept, (by show 0 < 1000; decide), ?_⟩
      refine ⟨_, rfl, _, rfl, by rw [sg_len]; exact size80 (by omega), _, rfl, p, CB K, dx, _, rfl, upd_same, T.cl_Bits, T.n_Bits_length, (by show 1 < 1000; decide), ?_⟩
      refine k _ (same_but (same_but fun b u e _ => s4 _ _ (s3 _ _ e))) ⟨dx, t, ?_, seqT_ins upd_same (seqT_ins hp4 ht)⟩
      rw [upd_same, sg_len]
      rfl
end
end Tw
namespace Tw
open PySem PySem.Spec PyProof.Rows L2
/-- t[lo:hi], the same object or a new one -/
def rSlB (K : PySem.W.Frag) : V → Option Int → Option Int → Hp → VK → Prop := fun x lo hi H Q => ∃ a xs, x = .ref a ∧ SqT K H a xs ∧ ∀ b H1, Same H H1 → SqT K H1 b (cutV xs lo hi) → Q (.ref b) H1
theorem sl_tupB {X : Cx} : SlR X (rSlB X.K) := by
  intro pins s σ H x v vl vu lo hi sl Q I rx hs pl pu h
  obtain ⟨a, xs, rfl, hx, q⟩ := h
  refine sl_tupA pins s σ H _ v vl vu lo hi sl Q I rx hs pl pu ⟨a, xs, rfl, hx, fun hw => q a H (Same.refl H) ?_, fun _ p np => q p _ (same_upd np) (SqT.of upd_same)⟩
  have e : cutV xs lo hi = xs := by
    unfold cutV
    rw [hw.1, hw.2, List.drop_zero, Nat.sub_zero, List.take_length]
  rw [e]
  exact hx
theorem BitsAt.ins {K : PySem.W.Frag} {H : Hp} {b p C dx : Addr} {fs : List (Str × V)} {bs : List Bool} {o : HO} (hp : H p = some (.ins C dx fs)) (h : BitsAt K H b bs) (n : b ≠ p) : BitsAt K (upd H p o) b bs := by
  obtain ⟨dx, t, h1, h2⟩ := h.ob
  exact ⟨dx, t, by rw [upd_ne n]; exact h1, seqT_ins hp h2⟩
theorem BitsAt.ne {K : PySem.W.Frag} {H : Hp} {b p C dx : Addr} {bs : List Bool} (hp : H p = some (.ins C dx [])) (h : BitsAt K H b bs) : b ≠ p := by
  obtain ⟨dx, t, h1, h2⟩ := h.ob
  exact ne_of h1 hp (by intro z; cases z)
/-- the ones of the words -/
def cnts (bs : List Bool) (n : Nat) : List Int := (List.range n).map fun v => ((chunk bs v).count true : Int)
theorem cnts_sum (bs : List Bool) (n : Nat) : (cnts bs n).sum = (op bs (32 * n) : Int) := sum_words bs n
theorem cnts_succ (bs : List Bool) (n : Nat) : cnts bs (n + 1) = cnts bs n ++ [((chunk bs n).count true : Int)] := by
  unfold cnts
  rw [List.range_succ, List.map_append]
  rfl
theorem wds_take (bs : List Bool) {w : Nat} (h : w ≤ nw bs) : ((wds bs).take w).length = w ∧ ∀ j, j < w → ((wds bs).take w)[j]? = some (wd (chunk bs j) : Int) := by
  refine ⟨by rw [List.length_take, wds_len]; omega, fun j hj => ?_⟩
  rw [List.getElem?_take_of_lt hj]
  exact wds_get (by omega)
theorem heads0 (bs : List Bool) : (heads bs)[0]? = some 0 := by
  unfold heads
  split <;> rfl
section
variable {K : PySem.W.Frag} {mg : Str → Option Value} {P : Program} {w : World} {base : Heap}
theorem ok_is_whole_counts (T : Top K mg) : Ok P w K mg base 1 (He.ga K "is_whole_counts") ["thing"] (sp_is_whole_counts K) := by
  refine Ok.mk' T.f_is_whole_counts sc_is_whole_counts (fun _ _ _ _ _ _ us hl => match us, hl with | [_], _ => rfl) (fun vs H Q E h => ?_) (fun cdv A outer s H vs Q E hr h => ?_)
  · obtain ⟨i, rfl, k⟩ := h
    rfl
  · obtain ⟨i, rfl, k⟩ := h
    refine ⟨_, (pss_one (ps_ret (pe_and (pe_callB call_isi (by rfl) T.b_isinstance (by decide +kernel) (pa_cons (pv 0) (pa_cons (pe_bltn (v := .ty "int") rfl T.b_int (by decide +kernel) rfl) pa_nil))) (pe_one (pe_not (pe_callB call_isi (by rfl) T.b_isinstance (by decide +kernel) (pa_cons (pv 0) (pa_cons (pe_bltn (v := .ty "bool") rfl T.b_bool (by decide +kernel) rfl) pa_nil)))))))), ?_⟩
    exact ⟨_, rfl, _, _, _, _, _, rfl, .ty "int", .base (.int _), kit_ty (r := true) (by decide +kernel), _, rfl, iteT ⟨_, rfl, _, _, _, _, _, rfl, .ty "bool", .base (.int _), kit_ty (r := false) (by decide +kernel), _, rfl, k⟩⟩
theorem ok_need_bit (T : Top K mg) (O_is_whole_counts : Ok P w K mg base 1 (He.ga K "is_whole_counts") ["thing"] (sp_is_whole_counts K)) : Ok P w K mg base 2 (He.ga K "need_bit") ["bit"] (sp_need_bit K) := by
  obtain ⟨fd_is_whole_counts, F_is_whole_counts, b_is_whole_counts, kp_is_whole_counts⟩ := O_is_whole_counts.ex
  refine Ok.mk' T.f_need_bit sc_need_bit (fun _ _ _ _ _ _ us hl => match us, hl with | [_], _ => rfl) (fun vs H Q E h => ?_) (fun cdv A outer s H vs Q E hr h => ?_)
  · obtain ⟨rfl, k⟩ := h
    rfl
  · obtain ⟨rfl, k⟩ := h
    refine ⟨_, (pss_one (ps_if (PW.pt (pw_or (pt_not (pt_val (pe_call F_is_whole_counts (hr.mono (by decide)) rfl T.g_is_whole_counts kp_is_whole_counts b_is_whole_counts .nil pass0 (pa_cons (pv 0) pa_nil)))) (pw_or1 (pt_cmpR op_notIn_seq (pv 0) (pe_tup (pa_cons pe_int (pa_cons pe_int pa_nil))) (by rfl))))) (pss_one ps_never) pss_nil)), ?_⟩
    refine ⟨_, rfl, 1, rfl, _, rfl, iteF ?_⟩
    refine ⟨_, rfl, by decide, fun t nt => ⟨t, _, rfl, .inr (SqT.of upd_same), rfl, rfl, _, rfl, iteF ?_⟩⟩
    exact k _ (same_upd nt)
theorem ok_Counts_init (T : Top K mg) (O_Bits_words : Ok P w K mg base 1 (He.ma K (He.ga K "Bits") "words") ["self"] (sp_Bits_words K)) (O_Bits_size : Ok P w K mg base 1 (He.ma K (He.ga K "Bits") "size") ["self"] (sp_Bits_size K)) (O_ones_in : Ok P w K mg base 1 (He.ga K "ones_in") ["word"] (sp_ones_in K)) : Ok P w K mg base 2 (He.ma K (He.ga K "Counts") "__init__") ["self", "bits"] (sp_Counts_init K) := by
  obtain ⟨tk_BLOCK, hc_BLOCK⟩ := T.c_BLOCK
  obtain ⟨fd_Bits_words, F_Bits_words, b_Bits_words, kp_Bits_words⟩ := O_Bits_words.ex
  obtain ⟨fd_Bits_size, F_Bits_size, b_Bits_size, kp_Bits_size⟩ := O_Bits_size.ex
  obtain ⟨fd_ones_in, F_ones_in, b_ones_in, kp_ones_in⟩ := O_ones_in.ex
  refine Ok.mk' T.f_Counts_init sc_Counts_init (fun _ _ _ _ _ _ us hl => match us, hl with | [_, _], _ => rfl) (fun vs H Q E h => ?_) (fun cdv A outer s H vs Q E hr h => ?_)
  · obtain ⟨c, dx, b, bs, rfl, hc, B, hl, k⟩ := h
    rfl
  · obtain ⟨c, dx, b, bs, rfl, hc, B, hl, k⟩ := h
    refine ⟨_, (pss_cons (ps_fld (pv 0) (pe_meth0 (pv 1) T.cl_Bits T.m_Bits_words F_Bits_words (hr.mono (by decide)) b_Bits_words .nil pass0) rfl)
      (pss_cons (ps_fld (pv 0) (pe_meth0 (pv 1) T.cl_Bits T.m_Bits_size F_Bits_size (hr.mono (by decide)) b_Bits_size .nil pass0) rfl)
      (pss_cons (ps_set (i := 2) sc_Counts_init.nd rfl (Or.inl rfl) (pe_lst (pa_cons pe_int pa_nil)))
      (pss_cons (ps_for PassesOwn.never rfl (pi_range3 rfl T.b_range (pa_cons pe_int (pa_cons (pe_callB call_len_seq (by rfl) T.b_len PySem.boot_len (pa_cons (pe_fld (pv 0) rfl) pa_nil)) (pa_cons (pe_glob (v := .int 8) rfl hc_BLOCK ⟨_, rfl⟩) pa_nil)))) (pg_name (i := 3) sc_Counts_init.nd rfl (Or.inl rfl)) (pss_one (ps_expr (pe_bm PySem.F.plainAttrs_list PySem.F.slot_list_append PySem.F.type_list_append mt_append (pv 2) (pa_cons (pe_op op_add (pe_ix ix_list (pv 2) (pe_un un_neg pe_int) (fun _ _ => rfl)) (pe_callB (cr_sum rfl) (by rfl) T.b_sum (by decide +kernel) (pa_cons (pe_lc (own := [("word", 4)]) (g := gName 4) (tt := tYes) rfl sc_Counts_init.nd (pi_tup (pe_slice sl_tupB (pe_fld (pv 0) rfl) (po_some (pv 3)) (po_some (pe_op op_add (pv 3) (pe_glob (v := .int 8) rfl hc_BLOCK ⟨_, rfl⟩))))) (blkOk_by (own := [("word", 4)]) (N := ["self", "bits", "found", "start", "word"]) (sc := defScope s_Counts_init) (by decide +kernel)) (fun _ _ _ _ _ => pg_name (i := 4) sc_Counts_init.nd rfl (Or.inl rfl)) (fun _ _ _ _ _ => pts_nil) (fun _ _ _ _ _ => (pe_call F_ones_in (hr.mono (by decide)) rfl T.g_ones_in kp_ones_in b_ones_in .nil pass0 (pa_cons (pv 4) pa_nil)))) pa_nil))) pa_nil)))))
      (pss_one (ps_fld (pv 0) (pe_callTy call_tuple_of (by rfl) T.b_tuple (by decide +kernel) (pa_cons (pv 2) pa_nil)) rfl)))))), ?_⟩
    have nbc : b ≠ c := B.ne hc
    obtain ⟨dxb, t, hb1, hb2⟩ := id B.ob
    refine ⟨_, rfl, b, dxb, _, rfl, hb1, flB_no _ _ _ (by decide +kernel), b, bs, rfl, B, fun t ht => ?_⟩
    refine ⟨_, rfl, c, CC K, dx, [], rfl, hc, T.cl_Counts, T.n_Counts_kept, (by show 0 < 1000; decide), ?_⟩
    refine ⟨_, rfl, b, dxb, _, rfl, (by rw [upd_ne nbc]; exact hb1), flB_no _ _ _ (by decide +kernel), b, bs, rfl, B.ins hc nbc, _, rfl, c, CC K, dx, _, rfl, upd_same, T.cl_Counts, T.n_Counts_all_many, (by show 1 < 1000; decide), ?_⟩
    have ht2 : SqT K (upd (upd H c (.ins (CC K) dx (putF "kept" (.ref t) []))) c (.ins (CC K) dx (putF "all_many" (.int (bs.length : Nat)) (putF "kept" (.ref t) [])))) t (vi (wds bs)) := seqT_ins upd_same (seqT_ins hc ht)
    have hc2 : (upd (upd H c (.ins (CC K) dx (putF "kept" (.ref t) []))) c (.ins (CC K) dx (putF "all_many" (.int (bs.length : Nat)) (putF "kept" (.ref t) [])))) c = some (.ins (CC K) dx (putF "all_many" (.int (bs.length : Nat)) (putF "kept" (.ref t) []))) := upd_same
    have kp : ∀ b o, H b = some o → b ≠ c → (upd (upd H c (.ins (CC K) dx (putF "kept" (.ref t) []))) c (.ins (CC K) dx (putF "all_many" (.int (bs.length : Nat)) (putF "kept" (.ref t) [])))) b = some o := same_but (same_but fun b o e _ => e)
    generalize (upd (upd H c (.ins (CC K) dx (putF "kept" (.ref t) []))) c (.ins (CC K) dx (putF "all_many" (.int (bs.length : Nat)) (putF "kept" (.ref t) [])))) = H2 at *
    -- found = [0]; for start in range(0, len(self.kept), BLOCK): ..
    refine ⟨by decide, fun l nl => ?_⟩
    have s0 : Same H2 (upd H2 l (.lst [.int 0])) := same_upd nl
    have hnw : nw bs ≤ 3 := by unfold nw; omega
    refine ⟨_, rfl, c, CC K, dx, _, _, rfl, s0 _ _ hc2, T.cl_Counts, T.n_Counts_kept, rfl, t, _, rfl, .inr (seqT s0 ht2), _, _, _, (nw bs + 7) / 8, rfl, by rw [vi_len, wds_len]; exact rg8 _ (by omega), for_rangeC (lo := 0) (c := 8) (n := (nw bs + 7) / 8) (fun i σ H3 => ∃ a e, σ = [some (.ref c), some (.ref b), some (.ref l), a, e] ∧ Same H2 H3 ∧ H3 l = some (.lst (vi ((heads bs).take (i + 1))))) ⟨none, none, rfl, s0, ?_⟩ ?_ ?_⟩
    · rw [upd_same]
      unfold heads
      split <;> rfl
    · rintro i σ H3 hi ⟨a, e, rfl, s3, h3⟩
      have i0 : i = 0 := by omega
      subst i0
      have hne : bs ≠ [] := by
        intro q
        rw [q] at hi
        have : nw ([] : List Bool) = 0 := rfl
        rw [this] at hi
        omega
      have e1 : (heads bs).take (0 + 1) = [] ++ [0] := by
        unfold heads
        rw [if_neg hne]
        rfl
      rw [e1] at h3
      refine ⟨_, rfl, .inl ⟨rfl, _, SqL.of h3⟩, _, rfl, _, rfl, l, _, _, _, rfl, rfl, SqL.of h3, atI_last [] (V.int 0), ?_⟩
      refine ⟨_, rfl, c, CC K, dx, _, _, rfl, s3 _ _ hc2, T.cl_Counts, T.n_Counts_kept, rfl, _, rfl, _, rfl, _, rfl, _, _, rfl, rfl, _, rfl, t, _, rfl, seqT s3 ht2, fun u H4 s4 hu => ?_⟩
      have ec : cutV (vi (wds bs)) (some (0 + ((0 : Nat) : Int) * 8)) (some (0 + ((0 : Nat) : Int) * 8 + 8)) = vi (wds bs) := by
        show cutV (vi (wds bs)) (some ((0 : Nat) : Int)) (some ((8 : Nat) : Int)) = _
        rw [cutV_nat, List.drop_zero, List.take_of_length_le (by rw [vi_len, wds_len]; omega)]
      rw [ec] at hu
      refine ⟨u, rfl, ⟨_, hu⟩, fun D hD => lc_it (walk_tup (K := K) (a := u) (xs := vi (wds bs))) (fun j H5 => Same H4 H5 ∧ H5 D = some (.lst (vi (cnts bs j)))) ⟨same_upd hD, upd_same⟩ (fun j H5 _ z => seqT z.1 hu) ?_ ?_⟩
      · rintro j x H5 H6 hj ⟨s5, h5⟩ ⟨rfl, hx⟩
        rw [vi_len, wds_len] at hj
        cases (hx.symm.trans (vi_get (wds_get hj)))
        refine ⟨rfl, _, rfl, chunk bs j, rfl, chunk_len bs j, _, h5, ?_, ?_, ?_⟩
        · rw [vi_len]
          unfold cnts
          rw [List.length_map, List.length_range]
          exact small1000 (by omega)
        · intro b o hb
          rw [upd_ne (fun q => by rw [q, hD] at hb; cases hb)]
          exact s5 _ _ hb
        · rw [upd_same, cnts_succ, ← vi_app]
      · rintro H5 ⟨s5, h5⟩
        refine ⟨D, _, rfl, SqL.of h5, _, _, rfl, rfl, ?_⟩
        have h6 := s5 _ _ (s4 _ _ h3)
        refine ⟨l, _, _, rfl, rfl, h6, small1000 (by decide), ?_⟩
        refine ⟨_, _, rfl, fun b o hb => ?_, ?_⟩
        · rw [upd_ne (fun q => by rw [q, nl] at hb; cases hb)]
          exact s5 _ _ (s4 _ _ (s3 _ _ hb))
        · rw [upd_same]
          dsimp only
          rw [vi_len, wds_len, cnts_sum, opn_nw]
          unfold heads
          rw [if_neg hne]
          show some (HO.lst [V.int 0, V.int (0 + ((bs.count true : Nat) : Int))]) = some (HO.lst [V.int 0, V.int ((bs.count true : Nat) : Int)])
          rw [Int.zero_add]
    · rintro σ H3 ⟨a, e, rfl, s3, h3⟩
      have e1 : (heads bs).take ((nw bs + 7) / 8 + 1) = heads bs := by
        apply List.take_of_length_le
        unfold heads
        by_cases q : bs = []
        · rw [if_pos q]
          simp
        · rw [if_neg q]
          have : 0 < bs.length := List.length_pos_iff.mpr q
          show 2 ≤ _
          unfold nw
          omega
      rw [e1] at h3
      refine ⟨_, rfl, l, _, rfl, .inl ⟨SqL.of h3, fun u nu => ⟨_, rfl, c, CC K, dx, _, rfl, same_upd nu _ _ (s3 _ _ hc2), T.cl_Counts, T.n_Counts_heads, (by show 2 < 1000; decide), ?_⟩⟩⟩
      have hcu := same_upd (o := .tup (vi (heads bs))) nu _ _ (s3 _ _ hc2)
      refine k _ (same_but fun b o e n => same_upd nu _ _ (s3 _ _ (kp b o e n))) ⟨dx, t, u, ?_, seqT_ins hcu (seqT (same_upd nu) (seqT s3 ht2)), seqT_ins hcu (SqT.of upd_same)⟩
      rw [upd_same]
      rfl
end
end Tw
namespace Tw
open PySem PySem.Spec PyProof.Rows L2
section
variable {K : PySem.W.Frag} {mg : Str → Option Value} {P : Program} {w : World} {base : Heap}
theorem ok_Counts_ones_ahead (T : Top K mg) (O_ones_in : Ok P w K mg base 1 (He.ga K "ones_in") ["word"] (sp_ones_in K)) : Ok P w K mg base 2 (He.ma K (He.ga K "Counts") "ones_ahead") ["self", "place"] (sp_Counts_ones_ahead K) := by
  obtain ⟨tk_WORD_words, hc_WORD_words⟩ := T.c_WORD_words
  obtain ⟨tk_BLOCK, hc_BLOCK⟩ := T.c_BLOCK
  obtain ⟨fd_ones_in, F_ones_in, b_ones_in, kp_ones_in⟩ := O_ones_in.ex
  refine Ok.mk' T.f_Counts_ones_ahead sc_Counts_ones_ahead (fun _ _ _ _ _ _ us hl => match us, hl with | [_, _], _ => rfl) (fun vs H Q E h => ?_) (fun cdv A outer s H vs Q E hr h => ?_)
  · obtain ⟨c, p, bs, rfl, C, hp, hl, k⟩ := h
    rfl
  · obtain ⟨c, p, bs, rfl, C, hp, hl, k⟩ := h
    refine ⟨_, (pss_cons (ps_set (i := 2) sc_Counts_ones_ahead.nd rfl (Or.inl rfl) (pe_op op_fdiv (pv 1) (pe_glob (v := .int 32) rfl hc_WORD_words ⟨_, rfl⟩)))
      (pss_cons (ps_set (i := 3) sc_Counts_ones_ahead.nd rfl (Or.inl rfl) (pe_op op_fdiv (pv 2) (pe_glob (v := .int 8) rfl hc_BLOCK ⟨_, rfl⟩)))
      (pss_cons (ps_set (i := 4) sc_Counts_ones_ahead.nd rfl (Or.inl rfl) (pe_op op_add (pe_ix ix_tup (pe_fld (pv 0) rfl) (pv 3) (fun _ _ => rfl)) (pe_callB (cr_sum rfl) (by rfl) T.b_sum (by decide +kernel) (pa_cons (pe_lc (own := [("one", 5)]) (g := gName 5) (tt := tYes) rfl sc_Counts_ones_ahead.nd (pi_tup (pe_slice sl_tupB (pe_fld (pv 0) rfl) (po_some (pe_op op_mul (pv 3) (pe_glob (v := .int 8) rfl hc_BLOCK ⟨_, rfl⟩))) (po_some (pv 2)))) (blkOk_by (own := [("one", 5)]) (N := ["self", "place", "word", "block", "found", "one"]) (sc := defScope s_Counts_ones_ahead) (by decide +kernel)) (fun _ _ _ _ _ => pg_name (i := 5) sc_Counts_ones_ahead.nd rfl (Or.inl rfl)) (fun _ _ _ _ _ => pts_nil) (fun _ _ _ _ _ => (pe_call F_ones_in (hr.mono (by decide)) rfl T.g_ones_in kp_ones_in b_ones_in .nil pass0 (pa_cons (pv 5) pa_nil)))) pa_nil))))
      (pss_cons (ps_if (pt_cmpR op_gt (pe_op op_mod (pv 1) (pe_glob (v := .int 32) rfl hc_WORD_words ⟨_, rfl⟩)) pe_int (nomark _)) (pss_one (ps_set (i := 4) sc_Counts_ones_ahead.nd rfl (Or.inl rfl) (pe_op op_add (pv 4) (pe_call F_ones_in (hr.mono (by decide)) rfl T.g_ones_in kp_ones_in b_ones_in .nil pass0 (pa_cons (pe_op op_and (pe_ix ix_tup (pe_fld (pv 0) rfl) (pv 2) (fun _ _ => rfl)) (pe_op op_sub (pe_op op_shl pe_int (pe_op op_mod (pv 1) (pe_glob (v := .int 32) rfl hc_WORD_words ⟨_, rfl⟩))) pe_int)) pa_nil))))) pss_nil)
      (pss_one (ps_ret (pv 4))))))), ?_⟩
    obtain ⟨dx, t, u, h1, h2, h3⟩ := C.ob
    have hw : p / 32 ≤ nw bs := by unfold nw; omega
    -- word = place // WORD; block = word // BLOCK; found = self.heads[block] + sum(..)
    refine ⟨_, rfl, _, _, rfl, rfl, ⟨by decide, by decide⟩, _, rfl, _, _, rfl, rfl, ⟨by decide, by decide⟩, ?_⟩
    have eb : ((p : Nat) : Int) / 32 / 8 = ((0 : Nat) : Int) := by omega
    have ew : ((p : Nat) : Int) / 32 = ((p / 32 : Nat) : Int) := by omega
    dsimp only
    rw [eb, ew]
    refine ⟨_, rfl, c, CC K, dx, _, _, rfl, h1, T.cl_Counts, T.n_Counts_heads, rfl, _, rfl, u, _, _, _, rfl, rfl, h3, atI_nat (vi_get (heads0 bs)), ?_⟩
    refine ⟨_, rfl, c, CC K, dx, _, _, rfl, h1, T.cl_Counts, T.n_Counts_kept, rfl, _, rfl, _, _, rfl, rfl, .inr ⟨by decide, by decide⟩, _, rfl, _, rfl, _, rfl, t, _, rfl, h2, fun a H1 s1 ha => ?_⟩
    have ec : cutV (vi (wds bs)) (some (((0 : Nat) : Int) * 8)) (some ((p / 32 : Nat) : Int)) = vi ((wds bs).take (p / 32)) := by
      show cutV (vi (wds bs)) (some ((0 : Nat) : Int)) (some ((p / 32 : Nat) : Int)) = _
      rw [cutV_nat, List.drop_zero, Nat.sub_zero, vi_take]
    rw [ec] at ha
    obtain ⟨w1, w2⟩ := wds_take bs hw
    refine ⟨a, rfl, ⟨_, ha⟩, fun D hD => lc_it (walk_tup (K := K) (a := a) (xs := vi ((wds bs).take (p / 32)))) (fun j H5 => Same H1 H5 ∧ H5 D = some (.lst (vi (cnts bs j)))) ⟨same_upd hD, upd_same⟩ (fun j H5 _ z => seqT z.1 ha) ?_ ?_⟩
    · rintro j x H5 H6 hj ⟨s5, h5⟩ ⟨rfl, hx⟩
      rw [vi_len, w1] at hj
      cases (hx.symm.trans (vi_get (w2 j hj)))
      refine ⟨rfl, _, rfl, chunk bs j, rfl, chunk_len bs j, _, h5, ?_, ?_, ?_⟩
      · rw [vi_len]
        unfold cnts
        rw [List.length_map, List.length_range]
        exact small1000 (by omega)
      · intro b o hb
        rw [upd_ne (fun q => by rw [q, hD] at hb; cases hb)]
        exact s5 _ _ hb
      · rw [upd_same, cnts_succ, ← vi_app]
    · rintro H5 ⟨s5, h5⟩
      rw [vi_len, w1] at h5
      refine ⟨D, _, rfl, SqL.of h5, _, _, rfl, rfl, ?_⟩
      dsimp only
      rw [cnts_sum]
      have sH : Same H H5 := s1.trans (fun b o hb => s5 _ _ hb)
      -- if place % WORD > 0: found = found + ones_in(self.kept[word] & (1 << place % WORD) - 1)
      refine ⟨_, rfl, _, _, rfl, rfl, (by show (0 : Int) < 32; decide), _, _, rfl, rfl, _, rfl, ?_⟩
      have e32 : 32 * (p / 32) + p % 32 = p := by omega
      have oc := opn_chunk bs (p / 32) (p % 32) (by omega)
      rw [e32] at oc
      by_cases q : (0 : Int) < ((p : Nat) : Int) % 32
      · refine itD_t q ?_
        have hw2 : p / 32 < nw bs := by unfold nw; omega
        have em : Builtin.bitAnd ((wd (chunk bs (p / 32)) : Nat) : Int) (1 * 2 ^ (((p : Nat) : Int) % 32).toNat - 1) = ((wd ((chunk bs (p / 32)).take (p % 32)) : Nat) : Int) := by
          rw [Int.one_mul, Bits.bitAnd_mask _ (by omega), show (((p : Nat) : Int) % 32).toNat = p % 32 by omega, ← wd_take]
          push_cast
          rfl
        refine ⟨_, rfl, _, rfl, c, CC K, dx, _, _, rfl, sH _ _ h1, T.cl_Counts, T.n_Counts_kept, rfl, _, rfl, t, _, _, _, rfl, rfl, seqT sH h2, atI_nat (vi_get (wds_get hw2)), _, rfl, _, _, rfl, rfl, (by show (0 : Int) < 32; decide), _, _, rfl, rfl, ⟨by omega, by omega, by decide⟩, _, _, rfl, rfl, _, _, rfl, rfl, (chunk bs (p / 32)).take (p % 32), congrArg (fun z => [V.int z]) em, by rw [List.length_take]; have := chunk_len bs (p / 32); omega, _, _, rfl, rfl, ?_⟩
        refine ⟨_, rfl, ?_⟩
        dsimp only
        have ef : (0 : Int) + ((op bs (32 * (p / 32)) : Nat) : Int) + ((((chunk bs (p / 32)).take (p % 32)).count true : Nat) : Int) = ((op bs p : Nat) : Int) := by omega
        rw [ef]
        exact k _ sH
      · refine itD_f q ?_
        refine ⟨_, rfl, ?_⟩
        have z : p % 32 = 0 := by omega
        rw [z, List.take_zero, List.count_nil] at oc
        have ef : (0 : Int) + ((op bs (32 * (p / 32)) : Nat) : Int) = ((op bs p : Nat) : Int) := by omega
        rw [ef]
        exact k _ sH
theorem ok_Counts_ahead (T : Top K mg) (O_need_bit : Ok P w K mg base 2 (He.ga K "need_bit") ["bit"] (sp_need_bit K)) (O_is_whole_counts : Ok P w K mg base 1 (He.ga K "is_whole_counts") ["thing"] (sp_is_whole_counts K)) (O_Counts_ones_ahead : Ok P w K mg base 2 (He.ma K (He.ga K "Counts") "ones_ahead") ["self", "place"] (sp_Counts_ones_ahead K)) : Ok P w K mg base 3 (He.ma K (He.ga K "Counts") "ahead") ["self", "bit", "place"] (sp_Counts_ahead K) := by
  obtain ⟨fd_need_bit, F_need_bit, b_need_bit, kp_need_bit⟩ := O_need_bit.ex
  obtain ⟨fd_is_whole_counts, F_is_whole_counts, b_is_whole_counts, kp_is_whole_counts⟩ := O_is_whole_counts.ex
  obtain ⟨fd_Counts_ones_ahead, F_Counts_ones_ahead, b_Counts_ones_ahead, kp_Counts_ones_ahead⟩ := O_Counts_ones_ahead.ex
  refine Ok.mk' T.f_Counts_ahead sc_Counts_ahead (fun _ _ _ _ _ _ us hl => match us, hl with | [_, _, _], _ => rfl) (fun vs H Q E h => ?_) (fun cdv A outer s H vs Q E hr h => ?_)
  · obtain ⟨c, p, bs, rfl, C, hp, hl, k⟩ := h
    rfl
  · obtain ⟨c, p, bs, rfl, C, hp, hl, k⟩ := h
    refine ⟨_, (pss_cons (ps_expr (pe_call F_need_bit (hr.mono (by decide)) rfl T.g_need_bit kp_need_bit b_need_bit .nil pass0 (pa_cons (pv 1) pa_nil)))
      (pss_cons (ps_if (PW.pt (pw_or (pt_not (pt_val (pe_call F_is_whole_counts (hr.mono (by decide)) rfl T.g_is_whole_counts kp_is_whole_counts b_is_whole_counts .nil pass0 (pa_cons (pv 2) pa_nil)))) (pw_or (pt_cmpR op_lt (pv 2) pe_int (nomark _)) (pw_or1 (pt_cmpR op_gt (pv 2) (pe_fld (pv 0) rfl) (nomark _)))))) (pss_one ps_never) pss_nil)
      (pss_cons (ps_set (i := 3) sc_Counts_ahead.nd rfl (Or.inl rfl) (pe_meth (pv 0) T.cl_Counts T.m_Counts_ones_ahead F_Counts_ones_ahead (hr.mono (by decide)) b_Counts_ones_ahead .nil pass0 (pa_cons (pv 2) pa_nil)))
      (pss_cons (ps_if (pt_cmpR op_eq (pv 1) pe_int (nomark _)) (pss_one (ps_ret (pv 3))) pss_nil)
      (pss_one (ps_ret (pe_op op_sub (pv 2) (pv 3)))))))), ?_⟩
    refine ⟨_, rfl, rfl, fun H1 s1 => ?_⟩
    obtain ⟨dx, t, u, h1, h2, h3⟩ := id (C.same s1).ob
    refine ⟨_, rfl, _, rfl, _, rfl, iteF ?_⟩
    refine ⟨_, rfl, _, _, rfl, rfl, _, rfl, itD_f (by omega) ?_⟩
    refine ⟨_, rfl, _, rfl, c, CC K, dx, _, _, rfl, h1, T.cl_Counts, T.n_Counts_all_many, rfl, _, _, rfl, rfl, _, rfl, itD_f (by omega) ?_⟩
    refine ⟨_, rfl, c, dx, _, rfl, h1, flC_no _ _ _ _ (by decide +kernel), _, rfl, c, p, bs, rfl, C.same s1, hp, hl, fun H2 s2 => ?_⟩
    refine ⟨_, rfl, rfl, _, rfl, itD_t rfl ⟨_, rfl, ?_⟩⟩
    exact k _ (s1.trans s2)
theorem ok_Counts_like (T : Top K mg) : Ok P w K mg base 1 (He.ma K (He.ga K "Counts") "like") ["self", "word", "bit"] (sp_Counts_like K) := by
  refine Ok.mk' T.f_Counts_like sc_Counts_like (fun _ _ _ _ _ _ us hl => match us, hl with | [_, _, _], _ => rfl) (fun vs H Q E h => ?_) (fun cdv A outer s H vs Q E hr h => ?_)
  · obtain ⟨c, x, bs, rfl, C, hw, k⟩ := h
    rfl
  · obtain ⟨c, x, bs, rfl, C, hw, k⟩ := h
    refine ⟨_, (pss_cons (ps_if (pt_cmpR op_eq (pv 2) pe_int (nomark _)) (pss_one (ps_ret (pe_ix ix_tup (pe_fld (pv 0) rfl) (pv 1) (fun _ _ => rfl)))) pss_nil)
      (pss_one ps_never)), ?_⟩
    obtain ⟨dx, t, u, h1, h2, h3⟩ := C.ob
    refine ⟨_, rfl, rfl, _, rfl, itD_t rfl ?_⟩
    exact ⟨_, rfl, c, CC K, dx, _, _, rfl, h1, T.cl_Counts, T.n_Counts_kept, rfl, _, rfl, t, _, _, _, rfl, rfl, h2, atI_nat (vi_get (wds_get hw)), k⟩
theorem ok_Counts_like_ahead (T : Top K mg) : Ok P w K mg base 1 (He.ma K (He.ga K "Counts") "like_ahead") ["self", "bit", "block"] (sp_Counts_like_ahead K) := by
  obtain ⟨tk_BLOCK, hc_BLOCK⟩ := T.c_BLOCK
  obtain ⟨tk_WORD_words, hc_WORD_words⟩ := T.c_WORD_words
  refine Ok.mk' T.f_Counts_like_ahead sc_Counts_like_ahead (fun _ _ _ _ _ _ us hl => match us, hl with | [_, _, _], _ => rfl) (fun vs H Q E h => ?_) (fun cdv A outer s H vs Q E hr h => ?_)
  · obtain ⟨c, bs, rfl, C, k⟩ := h
    rfl
  · obtain ⟨c, bs, rfl, C, k⟩ := h
    refine ⟨_, (pss_cons (ps_if (pt_cmpR op_eq (pv 1) pe_int (nomark _)) (pss_one (ps_ret (pe_ix ix_tup (pe_fld (pv 0) rfl) (pv 2) (fun _ _ => rfl)))) pss_nil)
      (pss_one (ps_ret (pe_op op_sub (pe_op op_mul (pe_op op_mul (pv 2) (pe_glob (v := .int 8) rfl hc_BLOCK ⟨_, rfl⟩)) (pe_glob (v := .int 32) rfl hc_WORD_words ⟨_, rfl⟩)) (pe_ix ix_tup (pe_fld (pv 0) rfl) (pv 2) (fun _ _ => rfl)))))), ?_⟩
    obtain ⟨dx, t, u, h1, h2, h3⟩ := C.ob
    refine ⟨_, rfl, rfl, _, rfl, itD_t rfl ?_⟩
    exact ⟨_, rfl, c, CC K, dx, _, _, rfl, h1, T.cl_Counts, T.n_Counts_heads, rfl, _, rfl, u, _, _, _, rfl, rfl, h3, atI_nat (j := 0) (vi_get (heads0 bs)), k⟩
theorem ok_Counts_all_like (T : Top K mg) : Ok P w K mg base 1 (He.ma K (He.ga K "Counts") "all_like") ["self", "bit"] (sp_Counts_all_like K) := by
  refine Ok.mk' T.f_Counts_all_like sc_Counts_all_like (fun _ _ _ _ _ _ us hl => match us, hl with | [_, _], _ => rfl) (fun vs H Q E h => ?_) (fun cdv A outer s H vs Q E hr h => ?_)
  · obtain ⟨c, bs, rfl, C, k⟩ := h
    rfl
  · obtain ⟨c, bs, rfl, C, k⟩ := h
    refine ⟨_, (pss_cons (ps_if (pt_cmpR op_eq (pv 1) pe_int (nomark _)) (pss_one (ps_ret (pe_ix ix_tup (pe_fld (pv 0) rfl) (pe_un un_neg pe_int) (fun _ _ => rfl)))) pss_nil)
      (pss_one (ps_ret (pe_op op_sub (pe_fld (pv 0) rfl) (pe_ix ix_tup (pe_fld (pv 0) rfl) (pe_un un_neg pe_int) (fun _ _ => rfl)))))), ?_⟩
    obtain ⟨dx, t, u, h1, h2, h3⟩ := C.ob
    refine ⟨_, rfl, rfl, _, rfl, itD_t rfl ?_⟩
    have el : atI (vi (heads bs)) (-1) = some (V.int (bs.count true : Nat)) := by
      unfold heads
      by_cases q : bs = []
      · rw [if_pos q, q]
        exact atI_last [] (V.int 0)
      · rw [if_neg q]
        exact atI_last [V.int 0] (V.int (bs.count true : Nat))
    exact ⟨_, rfl, c, CC K, dx, _, _, rfl, h1, T.cl_Counts, T.n_Counts_heads, rfl, _, rfl, u, _, _, _, rfl, rfl, h3, el, k⟩
theorem ok_Counts_block_of (T : Top K mg) (O_Counts_like_ahead : Ok P w K mg base 1 (He.ma K (He.ga K "Counts") "like_ahead") ["self", "bit", "block"] (sp_Counts_like_ahead K)) : Ok P w K mg base 2 (He.ma K (He.ga K "Counts") "block_of") ["self", "bit", "nth"] (sp_Counts_block_of K) := by
  obtain ⟨fd_Counts_like_ahead, F_Counts_like_ahead, b_Counts_like_ahead, kp_Counts_like_ahead⟩ := O_Counts_like_ahead.ex
  refine Ok.mk' T.f_Counts_block_of sc_Counts_block_of (fun _ _ _ _ _ _ us hl => match us, hl with | [_, _, _], _ => rfl) (fun vs H Q E h => ?_) (fun cdv A outer s H vs Q E hr h => ?_)
  · obtain ⟨c, n, bs, rfl, C, k⟩ := h
    rfl
  · obtain ⟨c, n, bs, rfl, C, k⟩ := h
    refine ⟨_, (pss_cons (ps_set (i := 3) sc_Counts_block_of.nd rfl (Or.inl rfl) pe_int)
      (pss_cons (ps_set (i := 4) sc_Counts_block_of.nd rfl (Or.inl rfl) (pe_op op_sub (pe_callB call_len_seq (by rfl) T.b_len PySem.boot_len (pa_cons (pe_fld (pv 0) rfl) pa_nil)) pe_int))
      (pss_cons (ps_while PassesOwn.never (pt_cmpR op_gt (pe_op op_sub (pv 4) (pv 3)) pe_int (nomark _)) (pss_cons (ps_set (i := 5) sc_Counts_block_of.nd rfl (Or.inl rfl) (pe_op op_fdiv (pe_op op_add (pv 3) (pv 4)) pe_int))
      (pss_one (ps_if (pt_cmpR op_le (pe_meth (pv 0) T.cl_Counts T.m_Counts_like_ahead F_Counts_like_ahead (hr.mono (by decide)) b_Counts_like_ahead .nil pass0 (pa_cons (pv 1) (pa_cons (pv 5) pa_nil))) (pv 2) (nomark _)) (pss_one (ps_set (i := 3) sc_Counts_block_of.nd rfl (Or.inl rfl) (pv 5))) (pss_one (ps_set (i := 4) sc_Counts_block_of.nd rfl (Or.inl rfl) (pv 5)))))))
      (pss_one (ps_ret (pv 3)))))), ?_⟩
    obtain ⟨dx, t, u, h1, h2, h3⟩ := C.ob
    refine ⟨_, rfl, c, CC K, dx, _, _, rfl, h1, T.cl_Counts, T.n_Counts_heads, rfl, u, _, rfl, .inr h3, _, _, rfl, rfl, ?_⟩
    have hb : (heads bs).length ≤ 2 := by
      unfold heads
      split <;> simp
    refine ⟨fun m σ H2 => (σ = [some (.ref c), some (.int 1), some (.int n), some (.int 0), some (.int (((vi (heads bs)).length : Nat) - 1)), none] ∧ H2 = H), ⟨0, rfl, rfl⟩, ?_⟩
    rintro m σ H2 ⟨rfl, rfl⟩
    refine ⟨_, rfl, _, rfl, _, _, rfl, rfl, _, _, rfl, rfl, _, rfl, itD_f (by rw [vi_len]; omega) ?_⟩
    exact ⟨_, rfl, k⟩
theorem ok_Counts_place_of (T : Top K mg) (O_need_bit : Ok P w K mg base 2 (He.ga K "need_bit") ["bit"] (sp_need_bit K)) (O_Counts_all_like : Ok P w K mg base 1 (He.ma K (He.ga K "Counts") "all_like") ["self", "bit"] (sp_Counts_all_like K)) (O_is_whole_counts : Ok P w K mg base 1 (He.ga K "is_whole_counts") ["thing"] (sp_is_whole_counts K)) (O_Counts_block_of : Ok P w K mg base 2 (He.ma K (He.ga K "Counts") "block_of") ["self", "bit", "nth"] (sp_Counts_block_of K)) (O_Counts_like_ahead : Ok P w K mg base 1 (He.ma K (He.ga K "Counts") "like_ahead") ["self", "bit", "block"] (sp_Counts_like_ahead K)) (O_ones_in : Ok P w K mg base 1 (He.ga K "ones_in") ["word"] (sp_ones_in K)) (O_Counts_like : Ok P w K mg base 1 (He.ma K (He.ga K "Counts") "like") ["self", "word", "bit"] (sp_Counts_like K)) (O_nth_one : Ok P w K mg base 2 (He.ga K "nth_one") ["word", "nth"] (sp_nth_one K)) : Ok P w K mg base 3 (He.ma K (He.ga K "Counts") "place_of") ["self", "bit", "nth"] (sp_Counts_place_of K) := by
  obtain ⟨tk_BLOCK, hc_BLOCK⟩ := T.c_BLOCK
  obtain ⟨tk_WORD_words, hc_WORD_words⟩ := T.c_WORD_words
  obtain ⟨fd_need_bit, F_need_bit, b_need_bit, kp_need_bit⟩ := O_need_bit.ex
  obtain ⟨fd_Counts_all_like, F_Counts_all_like, b_Counts_all_like, kp_Counts_all_like⟩ := O_Counts_all_like.ex
  obtain ⟨fd_is_whole_counts, F_is_whole_counts, b_is_whole_counts, kp_is_whole_counts⟩ := O_is_whole_counts.ex
  obtain ⟨fd_Counts_block_of, F_Counts_block_of, b_Counts_block_of, kp_Counts_block_of⟩ := O_Counts_block_of.ex
  obtain ⟨fd_Counts_like_ahead, F_Counts_like_ahead, b_Counts_like_ahead, kp_Counts_like_ahead⟩ := O_Counts_like_ahead.ex
  obtain ⟨fd_ones_in, F_ones_in, b_ones_in, kp_ones_in⟩ := O_ones_in.ex
  obtain ⟨fd_Counts_like, F_Counts_like, b_Counts_like, kp_Counts_like⟩ := O_Counts_like.ex
  obtain ⟨fd_nth_one, F_nth_one, b_nth_one, kp_nth_one⟩ := O_nth_one.ex
  refine Ok.mk' T.f_Counts_place_of sc_Counts_place_of (fun _ _ _ _ _ _ us hl => match us, hl with | [_, _, _], _ => rfl) (fun vs H Q E h => ?_) (fun cdv A outer s H vs Q E hr h => ?_)
  · obtain ⟨c, p, bs, rfl, C, hp, hl, k⟩ := h
    rfl
  · obtain ⟨c, p, bs, rfl, C, hp, hl, k⟩ := h
    refine ⟨_, (pss_cons (ps_expr (pe_call F_need_bit (hr.mono (by decide)) rfl T.g_need_bit kp_need_bit b_need_bit .nil pass0 (pa_cons (pv 1) pa_nil)))
      (pss_cons (ps_if (PW.pt (pw_or (pt_not (pt_val (pe_call F_is_whole_counts (hr.mono (by decide)) rfl T.g_is_whole_counts kp_is_whole_counts b_is_whole_counts .nil pass0 (pa_cons (pv 2) pa_nil)))) (pw_or (pt_cmpR op_lt (pv 2) pe_int (nomark _)) (pw_or1 (pt_cmpR op_ge (pv 2) (pe_meth (pv 0) T.cl_Counts T.m_Counts_all_like F_Counts_all_like (hr.mono (by decide)) b_Counts_all_like .nil pass0 (pa_cons (pv 1) pa_nil)) (nomark _)))))) (pss_one ps_never) pss_nil)
      (pss_cons (ps_set (i := 3) sc_Counts_place_of.nd rfl (Or.inl rfl) (pe_op op_mul (pe_meth (pv 0) T.cl_Counts T.m_Counts_block_of F_Counts_block_of (hr.mono (by decide)) b_Counts_block_of .nil pass0 (pa_cons (pv 1) (pa_cons (pv 2) pa_nil))) (pe_glob (v := .int 8) rfl hc_BLOCK ⟨_, rfl⟩)))
      (pss_cons (ps_set (i := 4) sc_Counts_place_of.nd rfl (Or.inl rfl) (pe_op op_sub (pv 2) (pe_meth (pv 0) T.cl_Counts T.m_Counts_like_ahead F_Counts_like_ahead (hr.mono (by decide)) b_Counts_like_ahead .nil pass0 (pa_cons (pv 1) (pa_cons (pe_op op_fdiv (pv 3) (pe_glob (v := .int 8) rfl hc_BLOCK ⟨_, rfl⟩)) pa_nil)))))
      (pss_cons (ps_set (i := 5) sc_Counts_place_of.nd rfl (Or.inl rfl) (pe_call F_ones_in (hr.mono (by decide)) rfl T.g_ones_in kp_ones_in b_ones_in .nil pass0 (pa_cons (pe_meth (pv 0) T.cl_Counts T.m_Counts_like F_Counts_like (hr.mono (by decide)) b_Counts_like .nil pass0 (pa_cons (pv 3) (pa_cons (pv 1) pa_nil))) pa_nil)))
      (pss_cons (ps_while PassesOwn.never (pt_cmpR op_le (pv 5) (pv 4) (nomark _)) (pss_cons (ps_set (i := 4) sc_Counts_place_of.nd rfl (Or.inl rfl) (pe_op op_sub (pv 4) (pv 5)))
      (pss_cons (ps_aug (i := 3) sc_Counts_place_of.nd rfl (Or.inl rfl) pe_int ip_add)
      (pss_one (ps_set (i := 5) sc_Counts_place_of.nd rfl (Or.inl rfl) (pe_call F_ones_in (hr.mono (by decide)) rfl T.g_ones_in kp_ones_in b_ones_in .nil pass0 (pa_cons (pe_meth (pv 0) T.cl_Counts T.m_Counts_like F_Counts_like (hr.mono (by decide)) b_Counts_like .nil pass0 (pa_cons (pv 3) (pa_cons (pv 1) pa_nil))) pa_nil)))))))
      (pss_one (ps_ret (pe_op op_add (pe_op op_mul (pv 3) (pe_glob (v := .int 32) rfl hc_WORD_words ⟨_, rfl⟩)) (pe_call F_nth_one (hr.mono (by decide)) rfl T.g_nth_one kp_nth_one b_nth_one .nil pass0 (pa_cons (pe_meth (pv 0) T.cl_Counts T.m_Counts_like F_Counts_like (hr.mono (by decide)) b_Counts_like .nil pass0 (pa_cons (pv 3) (pa_cons (pv 1) pa_nil))) (pa_cons (pv 4) pa_nil)))))))))))), ?_⟩
    have hlt : p < bs.length := (List.getElem?_eq_some_iff.mp hp).1
    have o1 := opn_succ bs hp
    have o2 := opn_le bs (p + 1)
    simp only [Bool.toNat_true] at o1
    refine ⟨_, rfl, rfl, fun H1 s1 => ?_⟩
    have C1 := C.same s1
    obtain ⟨dx, t, u, h1, h2, h3⟩ := id C1.ob
    refine ⟨_, rfl, _, rfl, _, rfl, iteF ?_⟩
    refine ⟨_, rfl, _, _, rfl, rfl, _, rfl, itD_f (by omega) ?_⟩
    refine ⟨_, rfl, _, rfl, c, dx, _, rfl, h1, flC_no _ _ _ _ (by decide +kernel), _, rfl, c, bs, rfl, C1, _, _, rfl, rfl, _, rfl, itD_f (by omega) ?_⟩
    -- word = self.block_of(bit, nth) * BLOCK; left = nth - self.like_ahead(bit, word // BLOCK)
    refine ⟨_, rfl, c, dx, _, rfl, h1, flC_no _ _ _ _ (by decide +kernel), _, rfl, _, rfl, c, _, bs, rfl, C1, _, _, rfl, rfl, .inl ⟨by decide, by decide⟩, ?_⟩
    refine ⟨_, rfl, _, rfl, c, dx, _, rfl, h1, flC_no _ _ _ _ (by decide +kernel), _, rfl, _, rfl, _, _, rfl, rfl, ⟨by decide, by decide⟩, c, bs, rfl, C1, _, _, rfl, rfl, ?_⟩
    have hn : 0 < nw bs := by unfold nw; omega
    refine ⟨_, rfl, c, dx, _, rfl, h1, flC_no _ _ _ _ (by decide +kernel), _, rfl, _, rfl, c, 0, bs, rfl, C1, hn, chunk bs 0, rfl, chunk_len bs 0, ?_⟩
    -- while had <= left: ..
    refine ⟨fun m σ H2 => ∃ x lf : Nat, σ = [some (.ref c), some (.int 1), some (.int (op bs p : Nat)), some (.int (x : Nat)), some (.int (lf : Nat)), some (.int ((chunk bs x).count true : Nat))] ∧ H2 = H1 ∧ x + m = p / 32 ∧ lf + op bs (32 * x) = op bs p, ⟨p / 32, 0, op bs p, ?_, rfl, by omega, by rw [Nat.mul_zero, opn_zero]; rfl⟩, ?_⟩
    · have e : ((op bs p : Nat) : Int) - 0 = ((op bs p : Nat) : Int) := Int.sub_zero _
      exact congrArg (fun z => [some (V.ref c), some (V.int 1), some (V.int (op bs p : Nat)), some (V.int 0), some (V.int z), some (V.int ((chunk bs 0).count true : Nat))]) e
    rintro m σ H2 ⟨x, lf, rfl, rfl, hx, hf⟩
    have hxn : x < nw bs := by unfold nw; omega
    have ow := opn_word bs x
    refine ⟨_, rfl, _, rfl, _, _, rfl, rfl, _, rfl, ?_⟩
    have oc := opn_chunk bs (p / 32) (p % 32) (by omega)
    rw [show 32 * (p / 32) + p % 32 = p by omega] at oc
    have hb : (chunk bs (p / 32))[p % 32]? = some true := by
      rw [chunk_get (by omega), show 32 * (p / 32) + p % 32 = p by omega]
      exact hp
    by_cases q : x = p / 32
    · subst q
      have c1 := opn_succ (chunk bs (p / 32)) hb
      have c2 := opn_le (chunk bs (p / 32)) (p % 32 + 1)
      unfold op at c1 c2
      simp only [Bool.toNat_true] at c1
      have elf : lf = ((chunk bs (p / 32)).take (p % 32)).count true := by omega
      refine itD_f (by omega) ?_
      refine ⟨_, rfl, _, _, rfl, rfl, .inr ⟨by decide, by decide⟩, _, rfl, c, dx, _, rfl, h1, flC_no _ _ _ _ (by decide +kernel), _, rfl, _, rfl, c, p / 32, bs, rfl, C1, hxn, _, rfl, chunk bs (p / 32), p % 32, by rw [elf]; rfl, chunk_len _ _, hb, _, _, rfl, rfl, ?_⟩
      dsimp only
      rw [show ((p / 32 : Nat) : Int) * 32 + ((p % 32 : Nat) : Int) = ((p : Nat) : Int) by omega]
      exact k _ s1
    · have om := opn_mono bs (show 32 * (x + 1) ≤ p by omega)
      refine itD_t (by omega) (nxt ?_)
      refine ⟨_, rfl, _, rfl, _, _, rfl, rfl, ?_⟩
      refine ⟨_, rfl, _, _, rfl, rfl, ?_⟩
      refine ⟨_, rfl, c, dx, _, rfl, h1, flC_no _ _ _ _ (by decide +kernel), _, rfl, _, rfl, c, x + 1, bs, rfl, C1, by unfold nw at *; omega, chunk bs (x + 1), rfl, chunk_len bs (x + 1), ?_⟩
      have e : ((lf : Nat) : Int) - (((chunk bs x).count true : Nat) : Int) = ((lf - (chunk bs x).count true : Nat) : Int) := by omega
      exact ⟨m - 1, by omega, x + 1, lf - (chunk bs x).count true, congrArg (fun z => [some (V.ref c), some (V.int 1), some (V.int (op bs p : Nat)), some (V.int ((x : Nat) + 1)), some (V.int z), some (V.int ((chunk bs (x + 1)).count true : Nat))]) e, rfl, by omega, by omega⟩
end
end Tw
namespace Tw
open PySem PySem.Spec PyProof.Rows L2
theorem int_sgn (b : Bool) : PySem.intText? (sgn b) = some ((b.toNat : Nat) : Int) := by cases b <;> decide +kernel
theorem ht_succ (bs : List Bool) {p : Nat} {b : Bool} (h : bs[p]? = some b) : ht bs (p + 1) = ht bs p + 2 * ((b.toNat : Nat) : Int) - 1 := by
  have := opn_succ bs h
  unfold ht
  omega
theorem ht_zero (bs : List Bool) : ht bs 0 = 0 := by
  unfold ht
  rw [opn_zero]
  rfl
/-- the heights behind the first j signs -/
def hts (bs : List Bool) (j : Nat) : List Int := (List.range j).map fun i => ht bs (i + 1)
theorem hts_succ (bs : List Bool) (j : Nat) : hts bs (j + 1) = hts bs j ++ [ht bs (j + 1)] := by
  unfold hts
  rw [List.range_succ, List.map_append]
  rfl
theorem hts_mem {bs : List Bool} {j p : Nat} (h1 : 1 ≤ p) (h2 : p ≤ j) : ht bs p ∈ hts bs j := by
  unfold hts
  rw [List.mem_map]
  exact ⟨p - 1, by rw [List.mem_range]; omega, by rw [show p - 1 + 1 = p by omega]⟩
section
variable {K : PySem.W.Frag} {mg : Str → Option Value} {P : Program} {w : World} {base : Heap}
theorem ok_is_whole_pairs (T : Top K mg) : Ok P w K mg base 1 (He.ga K "is_whole_pairs") ["thing"] (sp_is_whole_pairs K) := by
  refine Ok.mk' T.f_is_whole_pairs sc_is_whole_pairs (fun _ _ _ _ _ _ us hl => match us, hl with | [_], _ => rfl) (fun vs H Q E h => ?_) (fun cdv A outer s H vs Q E hr h => ?_)
  · obtain ⟨i, rfl, k⟩ := h
    rfl
  · obtain ⟨i, rfl, k⟩ := h
    refine ⟨_, (pss_one (ps_ret (pe_and (pe_callB call_isi (by rfl) T.b_isinstance (by decide +kernel) (pa_cons (pv 0) (pa_cons (pe_bltn (v := .ty "int") rfl T.b_int (by decide +kernel) rfl) pa_nil))) (pe_one (pe_not (pe_callB call_isi (by rfl) T.b_isinstance (by decide +kernel) (pa_cons (pv 0) (pa_cons (pe_bltn (v := .ty "bool") rfl T.b_bool (by decide +kernel) rfl) pa_nil)))))))), ?_⟩
    exact ⟨_, rfl, _, _, _, _, _, rfl, .ty "int", .base (.int _), kit_ty (r := true) (by decide +kernel), _, rfl, iteT ⟨_, rfl, _, _, _, _, _, rfl, .ty "bool", .base (.int _), kit_ty (r := false) (by decide +kernel), _, rfl, k⟩⟩
theorem ok_ask_row (T : Top K mg) : Ok P w K mg base 1 (He.ga K "ask_row") ["text"] (sp_ask_row K) := by
  obtain ⟨tk_MOST_pairs, hc_MOST_pairs⟩ := T.c_MOST_pairs
  refine Ok.mk' T.f_ask_row sc_ask_row (fun _ _ _ _ _ _ us hl => match us, hl with | [_], _ => rfl) (fun vs H Q E h => ?_) (fun cdv A outer s H vs Q E hr h => ?_)
  · obtain ⟨bs, rfl, hl, hb, k⟩ := h
    rfl
  · obtain ⟨bs, rfl, hl, hb, k⟩ := h
    refine ⟨_, (pss_cons (ps_if (pt_not (pt_val (pe_callB call_isi (by rfl) T.b_isinstance (by decide +kernel) (pa_cons (pv 0) (pa_cons (pe_bltn (v := .ty "str") rfl T.b_str (by decide +kernel) rfl) pa_nil))))) (pss_one ps_never) pss_nil)
      (pss_cons (ps_set (i := 1) sc_ask_row.nd rfl (Or.inl rfl) pe_int)
      (pss_cons (ps_for PassesOwn.never rfl (pi_enumS (by rfl) T.b_enumerate (pa_cons (pv 0) pa_nil)) (pg_tup (by rfl) (pgs_cons (pg_name (i := 2) sc_ask_row.nd rfl (Or.inl rfl)) (pgs_cons (pg_name (i := 3) sc_ask_row.nd rfl (Or.inl rfl)) pgs_nil))) (pss_cons (ps_if (PW.pt (pw_or (pt_cmpR op_eq (pv 2) (pe_glob (v := .int 8192) rfl hc_MOST_pairs ⟨_, rfl⟩) (nomark _)) (pw_or1 (pt_cmpR op_notIn_sign (pv 3) pe_str (by rfl))))) (pss_one ps_never) pss_nil)
      (pss_cons (ps_set (i := 1) sc_ask_row.nd rfl (Or.inl rfl) (pe_op op_sub (pe_op op_add (pv 1) (pe_op op_mul pe_int (pe_callTy call_int_str (by rfl) T.b_int (by decide +kernel) (pa_cons (pv 3) pa_nil)))) pe_int))
      (pss_one (ps_if (pt_cmpR op_lt (pv 1) pe_int (nomark _)) (pss_one ps_never) pss_nil)))))
      (pss_one (ps_if (pt_cmpR op_gt (pv 1) pe_int (nomark _)) (pss_one ps_never) pss_nil))))), ?_⟩
    refine ⟨_, rfl, _, _, _, _, _, rfl, .ty "str", .base (.str _), kit_ty (r := true) (by decide +kernel), _, rfl, iteF ?_⟩
    refine ⟨_, rfl, _, rfl, for_it (walk_enumS (x := sg bs)) (fun j σ H3 => ∃ a c, σ = [some (.str (sg bs)), some (.int (ht bs j)), a, c] ∧ Same H H3) ⟨none, none, by rw [ht_zero]; rfl, Same.refl _⟩ (fun _ _ _ _ _ => trivial) ?_ ?_⟩
    · rintro j x σ H3 H4 hj ⟨a, c, rfl, s3⟩ ⟨T1, u, v, rfl, hT, rfl, hu, hv⟩
      cases hu
      rw [sg_size] at hj
      have hbj : bs[j]? = some bs[j] := List.getElem?_eq_getElem hj
      have hv2 : some v = some (V.str (sgn bs[j])) := by
        rw [← hv]
        show Option.map _ (sg bs).cps[j]? = _
        rw [sg_get, hbj]
        rfl
      cases hv2
      refine ⟨T1, _, rfl, SqT.of upd_same, rfl, _, _, rfl, _, _, rfl, rfl, ?_⟩
      have s4 : Same H (upd H3 T1 (.tup [.int (j : Nat), .str (sgn bs[j])])) := s3.trans (same_upd hT)
      have hs := ht_succ bs hbj
      have hp := hb.1 (j + 1) (by omega)
      generalize bs[j] = b at *
      refine ⟨_, rfl, rfl, _, rfl, itD_f (fun z => by have := V.int.inj z; omega) ?_⟩
      refine ⟨_, rfl, _, _, rfl, rfl, _, rfl, ?_⟩
      rw [sign_in]
      refine iteF ?_
      refine ⟨_, rfl, _, rfl, sgn b, _, rfl, int_sgn b, (by show 1 ≤ 640; decide), _, _, rfl, rfl, .inl ⟨by decide, by decide⟩, _, _, rfl, rfl, _, _, rfl, rfl, ?_⟩
      dsimp only
      rw [← hs]
      refine ⟨_, rfl, _, _, rfl, rfl, _, rfl, itD_f (by omega) ?_⟩
      exact ⟨_, _, rfl, s4⟩
    · rintro σ H3 ⟨a, c, rfl, s3⟩
      rw [sg_size, hb.2]
      refine ⟨_, rfl, _, _, rfl, rfl, _, rfl, itD_f (by omega) ?_⟩
      exact k _ s3
theorem ok_table_of (T : Top K mg) : Ok P w K mg base 1 (He.ga K "table_of") ["text"] (sp_table_of K) := by
  obtain ⟨tk_STRETCH, hc_STRETCH⟩ := T.c_STRETCH
  refine Ok.mk' T.f_table_of sc_table_of (fun _ _ _ _ _ _ us hl => match us, hl with | [_], _ => rfl) (fun vs H Q E h => ?_) (fun cdv A outer s H vs Q E hr h => ?_)
  · obtain ⟨bs, rfl, hl, k⟩ := h
    rfl
  · obtain ⟨bs, rfl, hl, k⟩ := h
    refine ⟨_, (pss_cons (ps_set (i := 1) sc_table_of.nd rfl (Or.inl rfl) (pe_lst pa_nil))
      (pss_cons (ps_set (i := 2) sc_table_of.nd rfl (Or.inl rfl) pe_int)
      (pss_cons (ps_for PassesOwn.never rfl (pi_range3 rfl T.b_range (pa_cons pe_int (pa_cons (pe_callB call_len_str (by rfl) T.b_len PySem.boot_len (pa_cons (pv 0) pa_nil)) (pa_cons (pe_glob (v := .int 256) rfl hc_STRETCH ⟨_, rfl⟩) pa_nil)))) (pg_name (i := 3) sc_table_of.nd rfl (Or.inl rfl)) (pss_cons (ps_set (i := 4) sc_table_of.nd rfl (Or.inl rfl) (pv 2))
      (pss_cons (ps_set (i := 5) sc_table_of.nd rfl (Or.inl rfl) (pe_lst pa_nil))
      (pss_cons (ps_for PassesOwn.never rfl (pi_str (pe_slice sl_str (pv 0) (po_some (pv 3)) (po_some (pe_op op_add (pv 3) (pe_glob (v := .int 256) rfl hc_STRETCH ⟨_, rfl⟩))))) (pg_name (i := 6) sc_table_of.nd rfl (Or.inl rfl)) (pss_cons (ps_set (i := 2) sc_table_of.nd rfl (Or.inl rfl) (pe_op op_sub (pe_op op_add (pv 2) (pe_op op_mul pe_int (pe_callTy call_int_str (by rfl) T.b_int (by decide +kernel) (pa_cons (pv 6) pa_nil)))) pe_int))
      (pss_one (ps_expr (pe_bm PySem.F.plainAttrs_list PySem.F.slot_list_append PySem.F.type_list_append mt_append (pv 5) (pa_cons (pv 2) pa_nil))))))
      (pss_one (ps_expr (pe_bm PySem.F.plainAttrs_list PySem.F.slot_list_append PySem.F.type_list_append mt_append (pv 1) (pa_cons (pe_tup (pa_cons (pv 4) (pa_cons (pe_callB (cr_min rfl) (by rfl) T.b_min (by decide +kernel) (pa_cons (pv 5) pa_nil)) (pa_cons (pe_callB (cr_max rfl) (by rfl) T.b_max (by decide +kernel) (pa_cons (pv 5) pa_nil)) pa_nil)))) pa_nil))))))))
      (pss_one (ps_ret (pe_callTy call_tuple_of (by rfl) T.b_tuple (by decide +kernel) (pa_cons (pv 1) pa_nil))))))), ?_⟩
    refine ⟨Nat.zero_le _, fun l nl => ?_⟩
    refine ⟨_, rfl, _, rfl, by rw [sg_len]; exact size80 (by omega), _, _, _, (bs.length + 255) / 256, rfl, by rw [sg_len]; exact rg256 _ (by omega), for_rangeC (lo := 0) (c := 256) (n := (bs.length + 255) / 256) (fun i σ H3 => ∃ h a b c e, σ = [some (.str (sg bs)), some (.ref l), some (.int h), a, b, c, e] ∧ Same H H3 ∧ (i = 0 → h = 0 ∧ H3 l = some (.lst [])) ∧ (i = 1 → ∃ (q : Addr) (mn mx : Int), H3 l = some (.lst [.ref q]) ∧ H3 q = some (.tup [.int 0, .int mn, .int mx]) ∧ ∀ p : Nat, 1 ≤ p → p ≤ bs.length → mn ≤ ht bs p ∧ ht bs p ≤ mx)) ⟨0, none, none, none, none, rfl, same_upd nl, fun _ => ⟨rfl, upd_same⟩, fun z => by omega⟩ ?_ ?_⟩
    · rintro i σ H3 hi ⟨h, a, b, c, e, rfl, s3, h0, _⟩
      have i0 : i = 0 := by omega
      subst i0
      obtain ⟨rfl, h3⟩ := h0 rfl
      refine ⟨_, rfl, ?_⟩
      refine ⟨Nat.zero_le _, fun hs nhs => ?_⟩
      refine ⟨_, rfl, _, rfl, _, rfl, _, rfl, _, _, rfl, rfl, _, rfl, _, rfl, by rw [sg_len]; exact size80 (by omega), ?_⟩
      have ec : cutS (sg bs) (some (0 + ((0 : Nat) : Int) * 256)) (some (0 + ((0 : Nat) : Int) * 256 + 256)) = sg bs := by
        show cutS (sg bs) (some ((0 : Nat) : Int)) (some ((256 : Nat) : Int)) = _
        rw [cutS_sg, List.drop_zero, List.take_of_length_le (by omega)]
      rw [ec]
      refine ⟨_, rfl, for_it (walk_str (z := sg bs)) (fun j σ H4 => ∃ e, σ = [some (.str (sg bs)), some (.ref l), some (.int (ht bs j)), some (.int (0 + ((0 : Nat) : Int) * 256)), some (.int 0), some (.ref hs), e] ∧ Same H3 H4 ∧ H4 hs = some (.lst (vi (hts bs j)))) ⟨_, by rw [ht_zero]; rfl, same_upd nhs, upd_same⟩ (fun _ _ _ _ _ => trivial) ?_ ?_⟩
      · rintro j x σ H4 H5 hj ⟨e, rfl, s4, h4⟩ ⟨rfl, c, hc, rfl⟩
        rw [sg_size] at hj
        have hbj : bs[j]? = some bs[j] := List.getElem?_eq_getElem hj
        rw [sg_get, hbj] at hc
        cases hc
        have hsu := ht_succ bs hbj
        generalize bs[j] = b at *
        refine ⟨_, rfl, _, rfl, sgn b, _, rfl, int_sgn b, (by show 1 ≤ 640; decide), _, _, rfl, rfl, .inl ⟨by decide, by decide⟩, _, _, rfl, rfl, _, _, rfl, rfl, ?_⟩
        dsimp only
        rw [← hsu]
        refine ⟨_, rfl, .inl ⟨rfl, _, SqL.of h4⟩, _, rfl, hs, _, _, rfl, rfl, h4, ?_, ?_⟩
        · rw [vi_len]
          unfold hts
          rw [List.length_map, List.length_range]
          exact small1000 (by omega)
        · refine ⟨_, rfl, fun b o hb => ?_, ?_⟩
          · rw [upd_ne (fun q => by rw [q, nhs] at hb; cases hb)]
            exact s4 _ _ hb
          · rw [upd_same, hts_succ, ← vi_app]
      · rintro σ H4 ⟨e, rfl, s4, h4⟩
        rw [sg_size] at h4
        have hpos : 0 < (hts bs bs.length).length := by
          unfold hts
          rw [List.length_map, List.length_range]
          omega
        refine ⟨_, rfl, .inl ⟨rfl, _, SqL.of (s4 _ _ h3)⟩, _, rfl, _, rfl, hs, hts bs bs.length, rfl, SqL.of h4, hpos, fun mn m1 m2 => ?_⟩
        refine ⟨_, rfl, hs, hts bs bs.length, rfl, SqL.of h4, hpos, fun mx x1 x2 => ?_⟩
        refine ⟨(by show 3 ≤ sizeLine; decide), fun q nq => ?_⟩
        have h6 := same_upd (o := .tup [.int 0, .int mn, .int mx]) nq _ _ (s4 _ _ h3)
        refine ⟨l, _, _, rfl, rfl, h6, small1000 (by decide), ?_⟩
        have lq : q ≠ l := fun z => by
          rw [z, s4 _ _ h3] at nq
          cases nq
        refine ⟨_, _, _, _, _, rfl, fun b o hb => ?_, fun z => by omega, fun _ => ⟨q, mn, mx, upd_same, ?_, fun p p1 p2 => ⟨m2 _ (hts_mem p1 p2), x2 _ (hts_mem p1 p2)⟩⟩⟩
        · rw [upd_ne (fun z => by rw [z, nl] at hb; cases hb)]
          exact same_upd nq _ _ (s4 _ _ (s3 _ _ hb))
        · rw [upd_ne lq, upd_same]
    · rintro σ H3 ⟨h, a, b, c, e, rfl, s3, h0, h1⟩
      by_cases q : bs = []
      · subst q
        obtain ⟨_, h3⟩ := h0 rfl
        refine ⟨_, rfl, l, _, rfl, .inl ⟨SqL.of h3, fun u nu => ?_⟩⟩
        exact k u _ (s3.trans (same_upd nu)) ⟨.inl ⟨rfl, SqT.of upd_same⟩⟩
      · have hl0 : 0 < bs.length := List.length_pos_iff.mpr q
        obtain ⟨t, mn, mx, h3, h4, h5⟩ := h1 (by omega)
        refine ⟨_, rfl, l, _, rfl, .inl ⟨SqL.of h3, fun u nu => ?_⟩⟩
        exact k u _ (s3.trans (same_upd nu)) ⟨.inr ⟨q, t, mn, mx, SqT.of upd_same, SqT.of (same_upd nu _ _ h4), h5⟩⟩
end
end Tw
namespace Tw
open PySem PySem.Spec PyProof.Rows L2
theorem CountsAt.ins {K : PySem.W.Frag} {H : Hp} {b p C dx : Addr} {fs : List (Str × V)} {bs : List Bool} {o : HO} (hp : H p = some (.ins C dx fs)) (h : CountsAt K H b bs) (n : b ≠ p) : CountsAt K (upd H p o) b bs := by
  obtain ⟨dx, t, u, h1, h2, h3⟩ := h.ob
  exact ⟨dx, t, u, by rw [upd_ne n]; exact h1, seqT_ins hp h2, seqT_ins hp h3⟩
theorem LaidAt.ins {K : PySem.W.Frag} {H : Hp} {b p C dx : Addr} {fs : List (Str × V)} {bs : List Bool} {o : HO} (hp : H p = some (.ins C dx fs)) (h : LaidAt K H b bs) : LaidAt K (upd H p o) b bs := by
  rcases h.ob with ⟨h1, h2⟩ | ⟨h1, q, mn, mx, h2, h3, h4⟩
  · exact ⟨.inl ⟨h1, seqT_ins hp h2⟩⟩
  · exact ⟨.inr ⟨h1, q, mn, mx, seqT_ins hp h2, seqT_ins hp h3, h4⟩⟩
section
variable {K : PySem.W.Frag} {mg : Str → Option Value} {P : Program} {w : World} {base : Heap}
theorem ok_Pairs_init (T : Top K mg) (O_ask_row : Ok P w K mg base 1 (He.ga K "ask_row") ["text"] (sp_ask_row K)) (O_Bits_init : Ok P w K mg base 2 (He.ma K (He.ga K "Bits") "__init__") ["self", "text"] (sp_Bits_init K)) (O_Bits_words : Ok P w K mg base 1 (He.ma K (He.ga K "Bits") "words") ["self"] (sp_Bits_words K)) (O_Counts_init : Ok P w K mg base 2 (He.ma K (He.ga K "Counts") "__init__") ["self", "bits"] (sp_Counts_init K)) (O_table_of : Ok P w K mg base 1 (He.ga K "table_of") ["text"] (sp_table_of K)) : Ok P w K mg base 4 (He.ma K (He.ga K "Pairs") "__init__") ["self", "text"] (sp_Pairs_init K) := by
  obtain ⟨fd_ask_row, F_ask_row, b_ask_row, kp_ask_row⟩ := O_ask_row.ex
  obtain ⟨fd_Bits_init, F_Bits_init, b_Bits_init, kp_Bits_init⟩ := O_Bits_init.ex
  obtain ⟨fd_Bits_words, F_Bits_words, b_Bits_words, kp_Bits_words⟩ := O_Bits_words.ex
  obtain ⟨fd_Counts_init, F_Counts_init, b_Counts_init, kp_Counts_init⟩ := O_Counts_init.ex
  obtain ⟨fd_table_of, F_table_of, b_table_of, kp_table_of⟩ := O_table_of.ex
  refine Ok.mk' T.f_Pairs_init sc_Pairs_init (fun _ _ _ _ _ _ us hl => match us, hl with | [_, _], _ => rfl) (fun vs H Q E h => ?_) (fun cdv A outer s H vs Q E hr h => ?_)
  · obtain ⟨p, dx, bs, rfl, hp, hl, hb, k⟩ := h
    rfl
  · obtain ⟨p, dx, bs, rfl, hp, hl, hb, k⟩ := h
    refine ⟨_, (pss_cons (ps_expr (pe_call F_ask_row (hr.mono (by decide)) rfl T.g_ask_row kp_ask_row b_ask_row .nil pass0 (pa_cons (pv 1) pa_nil)))
      (pss_cons (ps_fld (pv 0) (pe_make T.mk_Bits F_Bits_init (hr.mono (by decide)) rfl T.g_Bits b_Bits_init .nil pass0 (pa_cons (pv 1) pa_nil)) rfl)
      (pss_cons (ps_fld (pv 0) (pe_meth0 (pe_fld (pv 0) rfl) T.cl_Bits T.m_Bits_words F_Bits_words (hr.mono (by decide)) b_Bits_words .nil pass0) rfl)
      (pss_cons (ps_fld (pv 0) (pe_make T.mk_Counts F_Counts_init (hr.mono (by decide)) rfl T.g_Counts b_Counts_init .nil pass0 (pa_cons (pe_fld (pv 0) rfl) pa_nil)) rfl)
      (pss_one (ps_fld (pv 0) (pe_call F_table_of (hr.mono (by decide)) rfl T.g_table_of kp_table_of b_table_of .nil pass0 (pa_cons (pv 1) pa_nil)) rfl)))))), ?_⟩
    refine ⟨_, rfl, bs, rfl, hl, hb, fun H1 s1 => ?_⟩
    have p1 := s1 _ _ hp
    have k1 : ∀ b u, H b = some u → b ≠ p → H1 b = some u := fun b u e _ => s1 _ _ e
    -- self.bits = Bits(text)
    refine ⟨_, rfl, fun b dxb nb ndb neb => ⟨b, dxb, bs, rfl, upd_same, hl, fun H2 q2 B2 => ⟨rfl, ?_⟩⟩⟩
    have s2 : Same H1 H2 := Same.made nb ndb q2
    have p2 := s2 _ _ p1
    have nbp : b ≠ p := (ne_of_none p1 nb).symm
    have k2 : ∀ c u, H c = some u → c ≠ p → H2 c = some u := fun c u e n => s2 _ _ (k1 c u e n)
    refine ⟨_, rfl, p, CP K, dx, [], rfl, p2, T.cl_Pairs, T.n_Pairs_bits, (by show 0 < 1000; decide), ?_⟩
    have B3 := B2.ins (o := .ins (CP K) dx (putF "bits" (.ref b) [])) p2 nbp
    have p3 : (upd H2 p (.ins (CP K) dx (putF "bits" (.ref b) []))) p = some (.ins (CP K) dx (putF "bits" (.ref b) [])) := upd_same
    have k3 : ∀ c u, H c = some u → c ≠ p → (upd H2 p (.ins (CP K) dx (putF "bits" (.ref b) []))) c = some u := same_but k2
    generalize upd H2 p (.ins (CP K) dx (putF "bits" (.ref b) [])) = H3 at *
    -- self.kept = self.bits.words()
    obtain ⟨dxb3, tb, hb3, _⟩ := id B3.ob
    refine ⟨_, rfl, p, CP K, dx, _, _, rfl, p3, T.cl_Pairs, T.n_Pairs_bits, rfl, b, dxb3, _, rfl, hb3, flB_no _ _ _ (by decide +kernel), b, bs, rfl, B3, fun t ht => ?_⟩
    refine ⟨_, rfl, p, CP K, dx, _, rfl, p3, T.cl_Pairs, T.n_Pairs_kept, (by show 1 < 1000; decide), ?_⟩
    have B4 := B3.ins (o := .ins (CP K) dx (putF "kept" (.ref t) (putF "bits" (.ref b) []))) p3 nbp
    have t4 := seqT_ins (o := .ins (CP K) dx (putF "kept" (.ref t) (putF "bits" (.ref b) []))) p3 ht
    have p4 : (upd H3 p (.ins (CP K) dx (putF "kept" (.ref t) (putF "bits" (.ref b) [])))) p = some (.ins (CP K) dx (putF "kept" (.ref t) (putF "bits" (.ref b) []))) := upd_same
    have k4 : ∀ c u, H c = some u → c ≠ p → (upd H3 p (.ins (CP K) dx (putF "kept" (.ref t) (putF "bits" (.ref b) [])))) c = some u := same_but k3
    generalize upd H3 p (.ins (CP K) dx (putF "kept" (.ref t) (putF "bits" (.ref b) []))) = H4 at *
    -- self.counts = Counts(self.bits)
    refine ⟨_, rfl, p, CP K, dx, _, _, rfl, p4, T.cl_Pairs, T.n_Pairs_bits, rfl, fun c dxc nc ndc nec => ⟨c, dxc, b, bs, rfl, upd_same, ?_, hl, fun H5 q5 C5 => ⟨rfl, ?_⟩⟩⟩
    · refine B4.same fun a u e => ?_
      rw [upd_ne (ne_of_none e nc), upd_ne (ne_of_none e ndc)]
      exact e
    have s5 : Same H4 H5 := Same.made nc ndc q5
    have p5 := s5 _ _ p4
    have ncp : c ≠ p := (ne_of_none p4 nc).symm
    refine ⟨_, rfl, p, CP K, dx, _, rfl, p5, T.cl_Pairs, T.n_Pairs_counts, (by show 2 < 1000; decide), ?_⟩
    have B6 := (B4.same s5).ins (o := .ins (CP K) dx (putF "counts" (.ref c) (putF "kept" (.ref t) (putF "bits" (.ref b) [])))) p5 nbp
    have t6 := seqT_ins (o := .ins (CP K) dx (putF "counts" (.ref c) (putF "kept" (.ref t) (putF "bits" (.ref b) [])))) p5 (seqT s5 t4)
    have C6 := C5.ins (o := .ins (CP K) dx (putF "counts" (.ref c) (putF "kept" (.ref t) (putF "bits" (.ref b) [])))) p5 ncp
    have p6 : (upd H5 p (.ins (CP K) dx (putF "counts" (.ref c) (putF "kept" (.ref t) (putF "bits" (.ref b) []))))) p = some (.ins (CP K) dx (putF "counts" (.ref c) (putF "kept" (.ref t) (putF "bits" (.ref b) [])))) := upd_same
    have k6 : ∀ a u, H a = some u → a ≠ p → (upd H5 p (.ins (CP K) dx (putF "counts" (.ref c) (putF "kept" (.ref t) (putF "bits" (.ref b) []))))) a = some u := same_but fun a u e n => s5 _ _ (k4 a u e n)
    generalize upd H5 p (.ins (CP K) dx (putF "counts" (.ref c) (putF "kept" (.ref t) (putF "bits" (.ref b) [])))) = H6 at *
    -- self.laid = table_of(text)
    refine ⟨_, rfl, bs, rfl, hl, fun l H7 s7 L7 => ?_⟩
    have p7 := s7 _ _ p6
    refine ⟨_, rfl, p, CP K, dx, _, rfl, p7, T.cl_Pairs, T.n_Pairs_laid, (by show 3 < 1000; decide), ?_⟩
    refine k _ (same_but fun a u e n => s7 _ _ (k6 a u e n)) ⟨dx, b, t, c, l, ?_, (B6.same s7).ins p7 nbp, seqT_ins p7 (seqT s7 t6), (C6.same s7).ins p7 ncp, L7.ins p7⟩
    rw [upd_same]
    rfl
theorem ok_Pairs_size (T : Top K mg) (O_Bits_size : Ok P w K mg base 1 (He.ma K (He.ga K "Bits") "size") ["self"] (sp_Bits_size K)) : Ok P w K mg base 2 (He.ma K (He.ga K "Pairs") "size") ["self"] (sp_Pairs_size K) := by
  obtain ⟨fd_Bits_size, F_Bits_size, b_Bits_size, kp_Bits_size⟩ := O_Bits_size.ex
  refine Ok.mk' T.f_Pairs_size sc_Pairs_size (fun _ _ _ _ _ _ us hl => match us, hl with | [_], _ => rfl) (fun vs H Q E h => ?_) (fun cdv A outer s H vs Q E hr h => ?_)
  · obtain ⟨p, bs, rfl, R, k⟩ := h
    rfl
  · obtain ⟨p, bs, rfl, R, k⟩ := h
    refine ⟨_, (pss_one (ps_ret (pe_meth0 (pe_fld (pv 0) rfl) T.cl_Bits T.m_Bits_size F_Bits_size (hr.mono (by decide)) b_Bits_size .nil pass0))), ?_⟩
    obtain ⟨dx, b, t, c, l, h1, B, hT, C, L⟩ := R.ob
    obtain ⟨dxb, tb, hb, _⟩ := id B.ob
    exact ⟨_, rfl, p, CP K, dx, _, _, rfl, h1, T.cl_Pairs, T.n_Pairs_bits, rfl, b, dxb, _, rfl, hb, flB_no _ _ _ (by decide +kernel), b, bs, rfl, B, k⟩
theorem ok_Pairs_opens_ahead (T : Top K mg) (O_Counts_ahead : Ok P w K mg base 3 (He.ma K (He.ga K "Counts") "ahead") ["self", "bit", "place"] (sp_Counts_ahead K)) : Ok P w K mg base 4 (He.ma K (He.ga K "Pairs") "opens_ahead") ["self", "place"] (sp_Pairs_opens_ahead K) := by
  obtain ⟨fd_Counts_ahead, F_Counts_ahead, b_Counts_ahead, kp_Counts_ahead⟩ := O_Counts_ahead.ex
  refine Ok.mk' T.f_Pairs_opens_ahead sc_Pairs_opens_ahead (fun _ _ _ _ _ _ us hl => match us, hl with | [_, _], _ => rfl) (fun vs H Q E h => ?_) (fun cdv A outer s H vs Q E hr h => ?_)
  · obtain ⟨p, i, bs, rfl, R, hi, hl, k⟩ := h
    rfl
  · obtain ⟨p, i, bs, rfl, R, hi, hl, k⟩ := h
    refine ⟨_, (pss_one (ps_ret (pe_meth (pe_fld (pv 0) rfl) T.cl_Counts T.m_Counts_ahead F_Counts_ahead (hr.mono (by decide)) b_Counts_ahead .nil pass0 (pa_cons pe_int (pa_cons (pv 1) pa_nil))))), ?_⟩
    obtain ⟨dx, b, t, c, l, h1, B, hT, C, L⟩ := R.ob
    obtain ⟨dxc, tc, u, hc, _⟩ := id C.ob
    exact ⟨_, rfl, p, CP K, dx, _, _, rfl, h1, T.cl_Pairs, T.n_Pairs_counts, rfl, c, dxc, _, rfl, hc, flC_no _ _ _ _ (by decide +kernel), _, rfl, c, i, bs, rfl, C, hi, hl, k⟩
theorem ok_Pairs_opening (T : Top K mg) (O_Counts_place_of : Ok P w K mg base 3 (He.ma K (He.ga K "Counts") "place_of") ["self", "bit", "nth"] (sp_Counts_place_of K)) : Ok P w K mg base 4 (He.ma K (He.ga K "Pairs") "opening") ["self", "number"] (sp_Pairs_opening K) := by
  obtain ⟨fd_Counts_place_of, F_Counts_place_of, b_Counts_place_of, kp_Counts_place_of⟩ := O_Counts_place_of.ex
  refine Ok.mk' T.f_Pairs_opening sc_Pairs_opening (fun _ _ _ _ _ _ us hl => match us, hl with | [_, _], _ => rfl) (fun vs H Q E h => ?_) (fun cdv A outer s H vs Q E hr h => ?_)
  · obtain ⟨p, i, bs, rfl, R, hi, hl, k⟩ := h
    rfl
  · obtain ⟨p, i, bs, rfl, R, hi, hl, k⟩ := h
    refine ⟨_, (pss_one (ps_ret (pe_meth (pe_fld (pv 0) rfl) T.cl_Counts T.m_Counts_place_of F_Counts_place_of (hr.mono (by decide)) b_Counts_place_of .nil pass0 (pa_cons pe_int (pa_cons (pv 1) pa_nil))))), ?_⟩
    obtain ⟨dx, b, t, c, l, h1, B, hT, C, L⟩ := R.ob
    obtain ⟨dxc, tc, u, hc, _⟩ := id C.ob
    exact ⟨_, rfl, p, CP K, dx, _, _, rfl, h1, T.cl_Pairs, T.n_Pairs_counts, rfl, c, dxc, _, rfl, hc, flC_no _ _ _ _ (by decide +kernel), _, rfl, c, i, bs, rfl, C, hi, hl, k⟩
theorem ok_Pairs_height (T : Top K mg) (O_Counts_ahead : Ok P w K mg base 3 (He.ma K (He.ga K "Counts") "ahead") ["self", "bit", "place"] (sp_Counts_ahead K)) : Ok P w K mg base 4 (He.ma K (He.ga K "Pairs") "height") ["self", "place"] (sp_Pairs_height K) := by
  obtain ⟨fd_Counts_ahead, F_Counts_ahead, b_Counts_ahead, kp_Counts_ahead⟩ := O_Counts_ahead.ex
  refine Ok.mk' T.f_Pairs_height sc_Pairs_height (fun _ _ _ _ _ _ us hl => match us, hl with | [_, _], _ => rfl) (fun vs H Q E h => ?_) (fun cdv A outer s H vs Q E hr h => ?_)
  · obtain ⟨p, i, bs, rfl, R, hi, hl, k⟩ := h
    rfl
  · obtain ⟨p, i, bs, rfl, R, hi, hl, k⟩ := h
    refine ⟨_, (pss_one (ps_ret (pe_op op_sub (pe_op op_mul pe_int (pe_meth (pe_fld (pv 0) rfl) T.cl_Counts T.m_Counts_ahead F_Counts_ahead (hr.mono (by decide)) b_Counts_ahead .nil pass0 (pa_cons pe_int (pa_cons (pv 1) pa_nil)))) (pv 1)))), ?_⟩
    obtain ⟨dx, b, t, c, l, h1, B, hT, C, L⟩ := R.ob
    obtain ⟨dxc, tc, u, hc, _⟩ := id C.ob
    refine ⟨_, rfl, p, CP K, dx, _, _, rfl, h1, T.cl_Pairs, T.n_Pairs_counts, rfl, c, dxc, _, rfl, hc, flC_no _ _ _ _ (by decide +kernel), _, rfl, c, i, bs, rfl, C, hi, hl, fun H1 s1 => ?_⟩
    exact ⟨_, _, rfl, rfl, .inl ⟨by decide, by decide⟩, _, rfl, _, _, rfl, rfl, k _ s1⟩
theorem ok_Pairs_step (T : Top K mg) : Ok P w K mg base 1 (He.ma K (He.ga K "Pairs") "step") ["self", "place"] (sp_Pairs_step K) := by
  obtain ⟨tk_WORD_pairs, hc_WORD_pairs⟩ := T.c_WORD_pairs
  refine Ok.mk' T.f_Pairs_step sc_Pairs_step (fun _ _ _ _ _ _ us hl => match us, hl with | [_, _], _ => rfl) (fun vs H Q E h => ?_) (fun cdv A outer s H vs Q E hr h => ?_)
  · obtain ⟨p, i, bs, b, rfl, R, hb, k⟩ := h
    rfl
  · obtain ⟨p, i, bs, b, rfl, R, hb, k⟩ := h
    refine ⟨_, (pss_one (ps_ret (pe_op op_sub (pe_op op_mul pe_int (pe_op op_and (pe_op op_shr (pe_ix ix_tup (pe_fld (pv 0) rfl) (pe_op op_fdiv (pv 1) (pe_glob (v := .int 32) rfl hc_WORD_pairs ⟨_, rfl⟩)) (fun _ _ => rfl)) (pe_op op_mod (pv 1) (pe_glob (v := .int 32) rfl hc_WORD_pairs ⟨_, rfl⟩))) pe_int)) pe_int))), ?_⟩
    obtain ⟨dx, b', t, c, l, h1, B, hT, C, L⟩ := R.ob
    have hi : i < bs.length := (List.getElem?_eq_some_iff.mp hb).1
    have hw : i / 32 < nw bs := by unfold nw; omega
    refine ⟨_, rfl, p, CP K, dx, _, _, rfl, h1, T.cl_Pairs, T.n_Pairs_kept, rfl, _, rfl, _, _, rfl, rfl, ⟨by decide, by decide⟩, t, _, _, _, rfl, rfl, hT, at_of (j := i / 32) (by omega) (vi_get (wds_get hw)), _, rfl, _, _, rfl, rfl, (by show (0 : Int) < 32; decide), _, _, rfl, rfl, (by show (0 : Int) ≤ (i : Int) % 32; omega), _, _, rfl, rfl, _, _, rfl, rfl, .inl ⟨by decide, by decide⟩, _, _, rfl, rfl, ?_⟩
    dsimp only
    have hc : (chunk bs (i / 32))[i % 32]? = some b := by
      rw [chunk_get (by omega), show 32 * (i / 32) + i % 32 = i by omega]
      exact hb
    have e : Builtin.bitAnd (((wd (chunk bs (i / 32)) : Nat) : Int) / 2 ^ ((i : Int) % 32).toNat) 1 = ((b.toNat : Nat) : Int) := by
      rw [show ((i : Int) % 32).toNat = i % 32 by omega, shr_nat, show (1 : Int) = ((1 : Nat) : Int) from rfl, and_nat, Nat.and_one_is_mod, Nat.shiftRight_eq_div_pow, wd_bit_at hc]
    rw [e]
    exact k
theorem ok_Pairs_first_in (T : Top K mg) (O_Pairs_height : Ok P w K mg base 4 (He.ma K (He.ga K "Pairs") "height") ["self", "place"] (sp_Pairs_height K)) (O_Pairs_step : Ok P w K mg base 1 (He.ma K (He.ga K "Pairs") "step") ["self", "place"] (sp_Pairs_step K)) : Ok P w K mg base 5 (He.ma K (He.ga K "Pairs") "first_in") ["self", "low", "high", "height"] (sp_Pairs_first_in K) := by
  obtain ⟨fd_Pairs_height, F_Pairs_height, b_Pairs_height, kp_Pairs_height⟩ := O_Pairs_height.ex
  obtain ⟨fd_Pairs_step, F_Pairs_step, b_Pairs_step, kp_Pairs_step⟩ := O_Pairs_step.ex
  refine Ok.mk' T.f_Pairs_first_in sc_Pairs_first_in (fun _ _ _ _ _ _ us hl => match us, hl with | [_, _, _, _], _ => rfl) (fun vs H Q E h => ?_) (fun cdv A outer s H vs Q E hr h => ?_)
  · obtain ⟨p, lo, hi, g, h, bs, rfl, R, hl, h1, h2, h3, h4, h5, h6, k⟩ := h
    rfl
  · obtain ⟨p, lo, hi, g, h, bs, rfl, R, hl, h1, h2, h3, h4, h5, h6, k⟩ := h
    refine ⟨_, (pss_cons (ps_set (i := 4) sc_Pairs_first_in.nd rfl (Or.inl rfl) (pe_meth (pv 0) T.cl_Pairs T.m_Pairs_height F_Pairs_height (hr.mono (by decide)) b_Pairs_height .nil pass0 (pa_cons (pe_op op_sub (pv 1) pe_int) pa_nil)))
      (pss_cons (ps_for PassesOwn.never rfl (pi_range2 rfl T.b_range (pa_cons (pv 1) (pa_cons (pe_op op_add (pv 2) pe_int) pa_nil))) (pg_name (i := 5) sc_Pairs_first_in.nd rfl (Or.inl rfl)) (pss_cons (ps_set (i := 4) sc_Pairs_first_in.nd rfl (Or.inl rfl) (pe_op op_add (pv 4) (pe_meth (pv 0) T.cl_Pairs T.m_Pairs_step F_Pairs_step (hr.mono (by decide)) b_Pairs_step .nil pass0 (pa_cons (pe_op op_sub (pv 5) pe_int) pa_nil))))
      (pss_one (ps_if (pt_cmpR op_eq (pv 4) (pv 3) (nomark _)) (pss_one (ps_ret (pv 5))) pss_nil))))
      (pss_one (ps_ret pe_non)))), ?_⟩
    obtain ⟨dx, b, t, c, l, hp, B, hT, C, L⟩ := id R.ob
    refine ⟨_, rfl, p, dx, _, rfl, hp, flP_no _ _ _ _ _ (by decide +kernel), _, rfl, _, _, rfl, rfl, p, lo - 1, bs, congrArg (fun z => [V.ref p, V.int z]) (show (lo : Int) - 1 = ((lo - 1 : Nat) : Int) by omega), R, by omega, hl, fun H1 s1 => ?_⟩
    refine ⟨_, rfl, _, rfl, _, _, rfl, rfl, _, _, rfl, ⟨by omega, by omega, by omega, by omega⟩, for_range (lo := (lo : Int)) (n := ((hi : Int) + 1 - (lo : Int)).toNat) (fun i σ H3 => ∃ a, σ = [some (.ref p), some (.int (lo : Nat)), some (.int (hi : Nat)), some (.int h), some (.int (ht bs (lo - 1 + i))), a] ∧ Same H H3 ∧ lo + i ≤ g) ⟨none, rfl, s1, h2⟩ ?_ ?_⟩
    · rintro i σ H3 hn ⟨a, rfl, s3, hg⟩
      have hb : bs[lo - 1 + i]? = some bs[lo - 1 + i] := List.getElem?_eq_getElem (by omega)
      have hs := ht_succ bs hb
      refine ⟨_, rfl, _, rfl, p, dx, _, rfl, s3 _ _ hp, flP_no _ _ _ _ _ (by decide +kernel), _, rfl, _, _, rfl, rfl, p, lo - 1 + i, bs, bs[lo - 1 + i], congrArg (fun z => [V.ref p, V.int z]) (show (lo : Int) + (i : Int) - 1 = ((lo - 1 + i : Nat) : Int) by omega), R.same s3, hb, _, _, rfl, rfl, ?_⟩
      dsimp only
      have e : ht bs (lo - 1 + i) + (2 * ((bs[lo - 1 + i].toNat : Nat) : Int) - 1) = ht bs (lo + i) := by
        rw [show lo + i = lo - 1 + i + 1 by omega, hs]
        omega
      rw [e]
      refine ⟨_, rfl, _, rfl, rfl, _, rfl, ?_⟩
      by_cases q : lo + i = g
      · refine itD_t (congrArg V.int (by rw [q]; exact h5)) ⟨_, rfl, ?_⟩
        have e2 : (lo : Int) + (i : Int) = ((g : Nat) : Int) := by omega
        rw [e2]
        exact k _ s3
      · refine itD_f (fun z => h6 (lo + i) (by omega) (by omega) (V.int.inj z)) ?_
        refine ⟨_, congrArg (fun z => [some (V.ref p), some (V.int (lo : Nat)), some (V.int (hi : Nat)), some (V.int h), some (V.int (ht bs z)), some (V.int ((lo : Int) + (i : Int)))]) (show lo + i = lo - 1 + (i + 1) by omega), s3, by omega⟩
    · rintro σ H3 ⟨a, rfl, s3, hg⟩
      exact absurd hg (by omega)
theorem ok_Pairs_ends_of (T : Top K mg) (O_Pairs_size : Ok P w K mg base 2 (He.ma K (He.ga K "Pairs") "size") ["self"] (sp_Pairs_size K)) : Ok P w K mg base 3 (He.ma K (He.ga K "Pairs") "ends_of") ["self", "stretch"] (sp_Pairs_ends_of K) := by
  obtain ⟨tk_STRETCH, hc_STRETCH⟩ := T.c_STRETCH
  obtain ⟨fd_Pairs_size, F_Pairs_size, b_Pairs_size, kp_Pairs_size⟩ := O_Pairs_size.ex
  refine Ok.mk' T.f_Pairs_ends_of sc_Pairs_ends_of (fun _ _ _ _ _ _ us hl => match us, hl with | [_, _], _ => rfl) (fun vs H Q E h => ?_) (fun cdv A outer s H vs Q E hr h => ?_)
  · obtain ⟨p, bs, rfl, R, hl, k⟩ := h
    rfl
  · obtain ⟨p, bs, rfl, R, hl, k⟩ := h
    refine ⟨_, (pss_one (ps_ret (pe_tup (pa_cons (pe_op op_add (pe_op op_mul (pv 1) (pe_glob (v := .int 256) rfl hc_STRETCH ⟨_, rfl⟩)) pe_int) (pa_cons (pe_callB (call_min2 rfl) (by rfl) T.b_min (by decide +kernel) (pa_cons (pe_op op_mul (pe_op op_add (pv 1) pe_int) (pe_glob (v := .int 256) rfl hc_STRETCH ⟨_, rfl⟩)) (pa_cons (pe_meth0 (pv 0) T.cl_Pairs T.m_Pairs_size F_Pairs_size (hr.mono (by decide)) b_Pairs_size .nil pass0) pa_nil))) pa_nil))))), ?_⟩
    obtain ⟨dx, b, t, c, l, hp, B, hT, C, L⟩ := id R.ob
    refine ⟨_, rfl, _, _, rfl, rfl, .inl ⟨by decide, by decide⟩, _, _, rfl, rfl, _, rfl, _, _, rfl, rfl, _, _, rfl, rfl, .inl ⟨by decide, by decide⟩, _, rfl, p, dx, _, rfl, hp, flP_no _ _ _ _ _ (by decide +kernel), p, bs, rfl, R, _, _, rfl, ?_⟩
    have e : (if ((bs.length : Nat) : Int) < ((0 : Int) + 1) * 256 then ((bs.length : Nat) : Int) else ((0 : Int) + 1) * 256) = ((bs.length : Nat) : Int) := by
      rw [if_pos (by omega)]
    refine ⟨(by show 2 ≤ sizeLine; decide), fun q nq => ?_⟩
    refine k q _ (same_upd nq) (SqT.of ?_)
    rw [upd_same]
    exact congrArg (fun z => some (HO.tup [V.int 1, V.int z])) e
theorem ok_Pairs_ask_height (T : Top K mg) (O_Pairs_height : Ok P w K mg base 4 (He.ma K (He.ga K "Pairs") "height") ["self", "place"] (sp_Pairs_height K)) (O_is_whole_pairs : Ok P w K mg base 1 (He.ga K "is_whole_pairs") ["thing"] (sp_is_whole_pairs K)) : Ok P w K mg base 5 (He.ma K (He.ga K "Pairs") "ask_height") ["self", "place", "height"] (sp_Pairs_ask_height K) := by
  obtain ⟨fd_Pairs_height, F_Pairs_height, b_Pairs_height, kp_Pairs_height⟩ := O_Pairs_height.ex
  obtain ⟨fd_is_whole_pairs, F_is_whole_pairs, b_is_whole_pairs, kp_is_whole_pairs⟩ := O_is_whole_pairs.ex
  refine Ok.mk' T.f_Pairs_ask_height sc_Pairs_ask_height (fun _ _ _ _ _ _ us hl => match us, hl with | [_, _, _], _ => rfl) (fun vs H Q E h => ?_) (fun cdv A outer s H vs Q E hr h => ?_)
  · obtain ⟨p, i, h, bs, rfl, R, hi, hl, k⟩ := h
    rfl
  · obtain ⟨p, i, h, bs, rfl, R, hi, hl, k⟩ := h
    refine ⟨_, (pss_cons (ps_expr (pe_meth (pv 0) T.cl_Pairs T.m_Pairs_height F_Pairs_height (hr.mono (by decide)) b_Pairs_height .nil pass0 (pa_cons (pv 1) pa_nil)))
      (pss_one (ps_if (pt_not (pt_val (pe_call F_is_whole_pairs (hr.mono (by decide)) rfl T.g_is_whole_pairs kp_is_whole_pairs b_is_whole_pairs .nil pass0 (pa_cons (pv 2) pa_nil)))) (pss_one ps_never) pss_nil))), ?_⟩
    obtain ⟨dx, b, t, c, l, hp, B, hT, C, L⟩ := id R.ob
    refine ⟨_, rfl, p, dx, _, rfl, hp, flP_no _ _ _ _ _ (by decide +kernel), _, rfl, p, i, bs, rfl, R, hi, hl, fun H1 s1 => ?_⟩
    refine ⟨_, rfl, _, rfl, _, rfl, iteF ?_⟩
    exact k _ s1
theorem ok_Pairs_next_at (T : Top K mg) (O_Pairs_ask_height : Ok P w K mg base 5 (He.ma K (He.ga K "Pairs") "ask_height") ["self", "place", "height"] (sp_Pairs_ask_height K)) (O_Pairs_ends_of : Ok P w K mg base 3 (He.ma K (He.ga K "Pairs") "ends_of") ["self", "stretch"] (sp_Pairs_ends_of K)) (O_Pairs_first_in : Ok P w K mg base 5 (He.ma K (He.ga K "Pairs") "first_in") ["self", "low", "high", "height"] (sp_Pairs_first_in K)) : Ok P w K mg base 6 (He.ma K (He.ga K "Pairs") "next_at") ["self", "place", "height"] (sp_Pairs_next_at K) := by
  obtain ⟨tk_STRETCH, hc_STRETCH⟩ := T.c_STRETCH
  obtain ⟨fd_Pairs_ask_height, F_Pairs_ask_height, b_Pairs_ask_height, kp_Pairs_ask_height⟩ := O_Pairs_ask_height.ex
  obtain ⟨fd_Pairs_ends_of, F_Pairs_ends_of, b_Pairs_ends_of, kp_Pairs_ends_of⟩ := O_Pairs_ends_of.ex
  obtain ⟨fd_Pairs_first_in, F_Pairs_first_in, b_Pairs_first_in, kp_Pairs_first_in⟩ := O_Pairs_first_in.ex
  refine Ok.mk' T.f_Pairs_next_at sc_Pairs_next_at (fun _ _ _ _ _ _ us hl => match us, hl with | [_, _, _], _ => rfl) (fun vs H Q E h => ?_) (fun cdv A outer s H vs Q E hr h => ?_)
  · obtain ⟨p, i, g, h, bs, rfl, R, hl, hi, hg, e, hn, k⟩ := h
    rfl
  · obtain ⟨p, i, g, h, bs, rfl, R, hl, hi, hg, e, hn, k⟩ := h
    refine ⟨_, (pss_cons (ps_expr (pe_meth (pv 0) T.cl_Pairs T.m_Pairs_ask_height F_Pairs_ask_height (hr.mono (by decide)) b_Pairs_ask_height .nil pass0 (pa_cons (pv 1) (pa_cons (pv 2) pa_nil))))
      (pss_cons (ps_for PassesOwn.never rfl (pi_range2 rfl T.b_range (pa_cons (pe_op op_fdiv (pv 1) (pe_glob (v := .int 256) rfl hc_STRETCH ⟨_, rfl⟩)) (pa_cons (pe_callB call_len_seq (by rfl) T.b_len PySem.boot_len (pa_cons (pe_fld (pv 0) rfl) pa_nil)) pa_nil))) (pg_name (i := 3) sc_Pairs_next_at.nd rfl (Or.inl rfl)) (pss_cons (ps_asg (pe_ix ix_tup (pe_fld (pv 0) rfl) (pv 3) (fun _ _ => rfl)) (pg_tup (by rfl) (pgs_cons (pg_name (i := 4) sc_Pairs_next_at.nd rfl (Or.inl rfl)) (pgs_cons (pg_name (i := 5) sc_Pairs_next_at.nd rfl (Or.inl rfl)) (pgs_cons (pg_name (i := 6) sc_Pairs_next_at.nd rfl (Or.inl rfl)) pgs_nil)))))
      (pss_one (ps_if (pt_chain op_le op_le (pv 5) (pv 2) (pv 6)) (pss_cons (ps_asg (pe_meth (pv 0) T.cl_Pairs T.m_Pairs_ends_of F_Pairs_ends_of (hr.mono (by decide)) b_Pairs_ends_of .nil pass0 (pa_cons (pv 3) pa_nil)) (pg_tup (by rfl) (pgs_cons (pg_name (i := 7) sc_Pairs_next_at.nd rfl (Or.inl rfl)) (pgs_cons (pg_name (i := 8) sc_Pairs_next_at.nd rfl (Or.inl rfl)) pgs_nil))))
      (pss_cons (ps_set (i := 9) sc_Pairs_next_at.nd rfl (Or.inl rfl) (pe_meth (pv 0) T.cl_Pairs T.m_Pairs_first_in F_Pairs_first_in (hr.mono (by decide)) b_Pairs_first_in .nil pass0 (pa_cons (pe_callB (call_max2 rfl) (by rfl) T.b_max (by decide +kernel) (pa_cons (pv 7) (pa_cons (pe_op op_add (pv 1) pe_int) pa_nil))) (pa_cons (pv 8) (pa_cons (pv 2) pa_nil)))))
      (pss_one (ps_if (pt_cmpR op_notN (pv 9) pe_non (nomark _)) (pss_one (ps_ret (pv 9))) pss_nil)))) pss_nil))))
      (pss_one (ps_ret pe_non)))), ?_⟩
    obtain ⟨dx, b, t, c, l, hp, B, hT, C, L⟩ := id R.ob
    refine ⟨_, rfl, p, dx, _, rfl, hp, flP_no _ _ _ _ _ (by decide +kernel), _, rfl, _, rfl, p, i, h, bs, rfl, R, by omega, hl, fun H1 s1 => ?_⟩
    have hne : bs ≠ [] := by
      intro z
      rw [z] at hg
      simp at hg
      omega
    rcases L.ob with ⟨z, _⟩ | ⟨_, q, mn, mx, l1, l2, l3⟩
    · exact absurd z hne
    obtain ⟨m1, m2⟩ := l3 g (by omega) hg
    rw [e] at m1 m2
    refine ⟨_, rfl, _, _, rfl, rfl, ⟨by decide, by decide⟩, _, rfl, p, CP K, dx, _, _, rfl, s1 _ _ hp, T.cl_Pairs, T.n_Pairs_laid, rfl, l, _, rfl, .inr (seqT s1 l1), _, _, rfl, ⟨by omega, by omega, (by show -(2 ^ 62) ≤ (1 : Int); decide), (by show (1 : Int) < 2 ^ 62; decide)⟩, for_range (lo := ((i : Nat) : Int) / 256) (n := ((([V.ref q] : List V).length : Int) - ((i : Nat) : Int) / 256).toNat) (fun j σ H3 => j = 0 ∧ σ = [some (.ref p), some (.int (i : Nat)), some (.int h), none, none, none, none, none, none, none] ∧ H3 = H1) ⟨rfl, rfl, rfl⟩ ?_ ?_⟩
    · rintro j σ H3 hj ⟨rfl, rfl, rfl⟩
      have e0 : ((i : Nat) : Int) / 256 + ((0 : Nat) : Int) = ((0 : Nat) : Int) := by omega
      rw [e0]
      refine ⟨_, rfl, p, CP K, dx, _, _, rfl, s1 _ _ hp, T.cl_Pairs, T.n_Pairs_laid, rfl, _, rfl, l, _, _, _, rfl, rfl, seqT s1 l1, atI_nat (j := 0) rfl, q, _, rfl, seqT s1 l2, rfl, _, _, rfl, _, _, rfl, _, _, rfl, rfl, ?_⟩
      refine ⟨_, rfl, _, rfl, _, _, rfl, rfl, _, rfl, itD_t m1 ⟨_, rfl, _, _, rfl, rfl, _, rfl, itD_t m2 ?_⟩⟩
      refine ⟨_, rfl, p, dx, _, rfl, s1 _ _ hp, flP_no _ _ _ _ _ (by decide +kernel), _, rfl, p, bs, rfl, R.same s1, hl, fun u H4 s4 hu => ?_⟩
      have s5 := s1.trans s4
      refine ⟨u, _, rfl, hu, rfl, _, _, rfl, _, _, rfl, rfl, ?_⟩
      have em : (if ((i : Nat) : Int) + 1 > 1 then ((i : Nat) : Int) + 1 else 1) = ((i + 1 : Nat) : Int) := by
        by_cases z : ((i : Nat) : Int) + 1 > 1
        · rw [if_pos z]; omega
        · rw [if_neg z]; omega
      refine ⟨_, rfl, p, dx, _, rfl, s5 _ _ hp, flP_no _ _ _ _ _ (by decide +kernel), _, rfl, _, rfl, _, _, rfl, rfl, _, _, rfl, _, rfl, _, rfl, p, i + 1, bs.length, g, h, bs, congrArg (fun z => [V.ref p, V.int z, V.int (bs.length : Nat), V.int h]) em, R.same s5, hl, by omega, by omega, hg, by omega, e, fun a a1 a2 => hn a (by omega) a2, fun H5 s6 => ?_⟩
      refine ⟨_, rfl, rfl, _, rfl, iteT ⟨_, rfl, ?_⟩⟩
      exact k _ (s5.trans s6)
    · rintro σ H3 ⟨z, _⟩
      have e1 : (([V.ref q] : List V).length : Int) = 1 := rfl
      omega
theorem ok_Pairs_opening_of (T : Top K mg) (O_Bits_bit : Ok P w K mg base 3 (He.ma K (He.ga K "Bits") "bit") ["self", "place"] (sp_Bits_bit K)) : Ok P w K mg base 4 (He.ma K (He.ga K "Pairs") "opening_of") ["self", "place"] (sp_Pairs_opening_of K) := by
  obtain ⟨fd_Bits_bit, F_Bits_bit, b_Bits_bit, kp_Bits_bit⟩ := O_Bits_bit.ex
  refine Ok.mk' T.f_Pairs_opening_of sc_Pairs_opening_of (fun _ _ _ _ _ _ us hl => match us, hl with | [_, _], _ => rfl) (fun vs H Q E h => ?_) (fun cdv A outer s H vs Q E hr h => ?_)
  · obtain ⟨p, i, bs, rfl, R, hb, k⟩ := h
    rfl
  · obtain ⟨p, i, bs, rfl, R, hb, k⟩ := h
    refine ⟨_, (pss_cons (ps_if (pt_cmpR op_eq (pe_meth (pe_fld (pv 0) rfl) T.cl_Bits T.m_Bits_bit F_Bits_bit (hr.mono (by decide)) b_Bits_bit .nil pass0 (pa_cons (pv 1) pa_nil)) pe_int (nomark _)) (pss_one (ps_ret (pv 1))) pss_nil)
      (pss_one ps_never)), ?_⟩
    obtain ⟨dx, b, t, c, l, hp, B, hT, C, L⟩ := id R.ob
    obtain ⟨dxb, tb, hbb, _⟩ := id B.ob
    refine ⟨_, rfl, p, CP K, dx, _, _, rfl, hp, T.cl_Pairs, T.n_Pairs_bits, rfl, b, dxb, _, rfl, hbb, flB_no _ _ _ (by decide +kernel), _, rfl, b, i, bs, true, rfl, B, hb, rfl, _, rfl, itD_t rfl ⟨_, rfl, k⟩⟩
theorem ok_Pairs_partner (T : Top K mg) (O_Pairs_opening_of : Ok P w K mg base 4 (He.ma K (He.ga K "Pairs") "opening_of") ["self", "place"] (sp_Pairs_opening_of K)) (O_Pairs_next_at : Ok P w K mg base 6 (He.ma K (He.ga K "Pairs") "next_at") ["self", "place", "height"] (sp_Pairs_next_at K)) (O_Pairs_height : Ok P w K mg base 4 (He.ma K (He.ga K "Pairs") "height") ["self", "place"] (sp_Pairs_height K)) : Ok P w K mg base 7 (He.ma K (He.ga K "Pairs") "partner") ["self", "place"] (sp_Pairs_partner K) := by
  obtain ⟨fd_Pairs_opening_of, F_Pairs_opening_of, b_Pairs_opening_of, kp_Pairs_opening_of⟩ := O_Pairs_opening_of.ex
  obtain ⟨fd_Pairs_next_at, F_Pairs_next_at, b_Pairs_next_at, kp_Pairs_next_at⟩ := O_Pairs_next_at.ex
  obtain ⟨fd_Pairs_height, F_Pairs_height, b_Pairs_height, kp_Pairs_height⟩ := O_Pairs_height.ex
  refine Ok.mk' T.f_Pairs_partner sc_Pairs_partner (fun _ _ _ _ _ _ us hl => match us, hl with | [_, _], _ => rfl) (fun vs H Q E h => ?_) (fun cdv A outer s H vs Q E hr h => ?_)
  · obtain ⟨p, i, g, bs, rfl, R, hl, hb, hi, hg, e, hn, k⟩ := h
    rfl
  · obtain ⟨p, i, g, bs, rfl, R, hl, hb, hi, hg, e, hn, k⟩ := h
    refine ⟨_, (pss_cons (ps_set (i := 2) sc_Pairs_partner.nd rfl (Or.inl rfl) (pe_meth (pv 0) T.cl_Pairs T.m_Pairs_opening_of F_Pairs_opening_of (hr.mono (by decide)) b_Pairs_opening_of .nil pass0 (pa_cons (pv 1) pa_nil)))
      (pss_cons (ps_if (pt_cmpR op_ne (pv 2) (pv 1) (nomark _)) (pss_one (ps_ret (pv 2))) pss_nil)
      (pss_one (ps_ret (pe_op op_sub (pe_meth (pv 0) T.cl_Pairs T.m_Pairs_next_at F_Pairs_next_at (hr.mono (by decide)) b_Pairs_next_at .nil pass0 (pa_cons (pv 1) (pa_cons (pe_meth (pv 0) T.cl_Pairs T.m_Pairs_height F_Pairs_height (hr.mono (by decide)) b_Pairs_height .nil pass0 (pa_cons (pv 1) pa_nil)) pa_nil))) pe_int))))), ?_⟩
    obtain ⟨dx, b, t, c, l, hp, B, hT, C, L⟩ := id R.ob
    refine ⟨_, rfl, p, dx, _, rfl, hp, flP_no _ _ _ _ _ (by decide +kernel), _, rfl, p, i, bs, rfl, R, hb, ?_⟩
    refine ⟨_, rfl, _, rfl, rfl, _, rfl, itN_f rfl ?_⟩
    refine ⟨_, rfl, p, dx, _, rfl, hp, flP_no _ _ _ _ _ (by decide +kernel), _, rfl, _, rfl, p, dx, _, rfl, hp, flP_no _ _ _ _ _ (by decide +kernel), _, rfl, p, i, bs, rfl, R, by omega, hl, fun H1 s1 => ?_⟩
    refine ⟨p, i, g, ht bs i, bs, rfl, R.same s1, hl, hi, hg, e, hn, fun H2 s2 => ⟨_, _, rfl, rfl, k _ (s1.trans s2)⟩⟩
theorem ok_Pairs_depth (T : Top K mg) (O_Pairs_height : Ok P w K mg base 4 (He.ma K (He.ga K "Pairs") "height") ["self", "place"] (sp_Pairs_height K)) (O_Pairs_opening_of : Ok P w K mg base 4 (He.ma K (He.ga K "Pairs") "opening_of") ["self", "place"] (sp_Pairs_opening_of K)) : Ok P w K mg base 5 (He.ma K (He.ga K "Pairs") "depth") ["self", "place"] (sp_Pairs_depth K) := by
  obtain ⟨fd_Pairs_height, F_Pairs_height, b_Pairs_height, kp_Pairs_height⟩ := O_Pairs_height.ex
  obtain ⟨fd_Pairs_opening_of, F_Pairs_opening_of, b_Pairs_opening_of, kp_Pairs_opening_of⟩ := O_Pairs_opening_of.ex
  refine Ok.mk' T.f_Pairs_depth sc_Pairs_depth (fun _ _ _ _ _ _ us hl => match us, hl with | [_, _], _ => rfl) (fun vs H Q E h => ?_) (fun cdv A outer s H vs Q E hr h => ?_)
  · obtain ⟨p, i, bs, rfl, R, hl, hb, k⟩ := h
    rfl
  · obtain ⟨p, i, bs, rfl, R, hl, hb, k⟩ := h
    refine ⟨_, (pss_one (ps_ret (pe_meth (pv 0) T.cl_Pairs T.m_Pairs_height F_Pairs_height (hr.mono (by decide)) b_Pairs_height .nil pass0 (pa_cons (pe_meth (pv 0) T.cl_Pairs T.m_Pairs_opening_of F_Pairs_opening_of (hr.mono (by decide)) b_Pairs_opening_of .nil pass0 (pa_cons (pv 1) pa_nil)) pa_nil)))), ?_⟩
    obtain ⟨dx, b, t, c, l, hp, B, hT, C, L⟩ := id R.ob
    have hi : i < bs.length := (List.getElem?_eq_some_iff.mp hb).1
    exact ⟨_, rfl, p, dx, _, rfl, hp, flP_no _ _ _ _ _ (by decide +kernel), _, rfl, p, dx, _, rfl, hp, flP_no _ _ _ _ _ (by decide +kernel), _, rfl, p, i, bs, rfl, R, hb, p, i, bs, rfl, R, by omega, hl, k⟩
end
end Tw
namespace Tw
open PySem PySem.Spec PyProof.Rows L2
/-- the way ahead of knot k, its first m -/
def wy (d : Nat → Nat) (k m : Nat) : List Int := (List.range m).map fun v => pa d (v + 1) k
theorem wy_len {d : Nat → Nat} {k m : Nat} : (wy d k m).length = m := by simp [wy]
theorem wy_succ {d : Nat → Nat} {k m : Nat} : wy d k (m + 1) = wy d k m ++ [pa d (m + 1) k] := by
  unfold wy
  rw [List.range_succ, List.map_append]
  rfl
theorem wy_next {d : Nat → Nat} {k : Nat} : wy d k (d k) ++ [(k : Int)] = wy d (k + 1) (hh d (k + 1)) := by
  show _ = wy d (k + 1) (d k + 1)
  rw [wy_succ]
  congr 1
  · unfold wy
    apply List.map_congr_left
    intro v hv
    rw [List.mem_range] at hv
    show _ = if d k + 1 = v + 1 then (k : Int) else pa d (v + 1) k
    rw [if_neg (by omega)]
  · show _ = [if d k + 1 = d k + 1 then (k : Int) else _]
    rw [if_pos rfl]
theorem wy_ne {d : Nat → Nat} {n k m : Nat} (w : Wd d n) (hk : k < n) (hm : d k + (m + 1) ≤ hh d k) : pa d (d k + m + 1) k ≠ el d k := fun e => by
  have := pa_inj w (Nat.le_of_lt hk) (by omega) (w k hk) (show pa d (d k + m + 1) k = pa d (d k) k from e)
  omega
theorem canAll_ints : ∀ xs : List Int, PyData.canLayAll0 (xs.map PyData.int) = true
  | [] => rfl
  | x :: r => by
    show (true && PyData.canLayAll0 (r.map PyData.int)) = true
    rw [canAll_ints r]
    rfl
theorem depth_ints : ∀ xs : List Int, PyData.depthAll (xs.map PyData.int) = 0
  | [] => rfl
  | x :: r => by
    show max 0 (PyData.depthAll (r.map PyData.int)) = 0
    rw [depth_ints r]
    rfl
theorem shaped_ints (xs : List Int) : SeqAt.shaped (.list (xs.map PyData.int)) = true := by
  unfold SeqAt.shaped
  have h1 : PyData.canLay0 (.list (xs.map PyData.int)) = true := canAll_ints xs
  have h2 : PyData.depth (.list (xs.map PyData.int)) = 1 := by
    show PyData.depthAll (xs.map PyData.int) + 1 = 1
    rw [depth_ints]
  rw [h1, h2]
  rfl
theorem dpAll_ints {K : PySem.W.Frag} {H : Hp} : ∀ xs : List Int, DpAll K H (vi xs) (xs.map PyData.int)
  | [] => .nil
  | x :: r => .cons (.int x) (dpAll_ints r)
theorem eqv_nil (xs : List Int) : PyData.eqv (.list (xs.map PyData.int)) (.list []) = decide (xs = []) := by
  cases xs with
  | nil => rfl
  | cons x r => rfl
theorem join_sgn : ∀ bs : List Bool, Str.join ("" : Str) (bs.map sgn) = sg bs
  | [] => rfl
  | [b] => rfl
  | b :: c :: r => by
    show sgn b ++ ("" : Str) ++ Str.join ("" : Str) ((c :: r).map sgn) = sg (b :: c :: r)
    rw [join_sgn (c :: r)]
    have e : ("" : Str) = ⟨#[]⟩ := by decide +kernel
    rw [e]
    show (⟨((sgn b).cps ++ #[]) ++ (sg (c :: r)).cps⟩ : Str) = sg (b :: c :: r)
    unfold sg sgn
    simp
theorem sg_app (a b : List Bool) : sg a ++ sg b = sg (a ++ b) := by
  show (⟨(sg a).cps ++ (sg b).cps⟩ : Str) = _
  unfold sg
  simp
theorem sg_zeros (n : Nat) : (⟨(List.replicate n 48).toArray⟩ : Str) = sg (List.replicate n false) := by
  unfold sg
  rw [List.map_replicate]
  rfl
theorem sum_sgn (bs : List Bool) : ((bs.map sgn).map (·.length)).sum = bs.length := by
  induction bs with
  | nil => rfl
  | cons b r ih =>
    show (sgn b).length + ((r.map sgn).map (·.length)).sum = r.length + 1
    rw [ih]
    show 1 + r.length = _
    omega
theorem pt_imp {X : Cx} {e : Expr} {t t1 : TT} (h : PT X e t) (i : ∀ σ H Q, t1 σ H Q → t σ H Q) : PT X e t1 := ⟨fun pins s σ H Q I q => h.run pins s σ H Q I (i σ H Q q)⟩
/-- way != [] and way[-1] != elder -/
def tWay (K : PySem.W.Frag) (iw ie : Nat) : TT := fun σ H Q => ∃ (wl : Addr) (ns : List Int) (x : Int), σ[iw]? = some (some (.ref wl)) ∧ σ[ie]? = some (some (.int x)) ∧ H wl = some (.lst (vi ns)) ∧
  ∀ H', Same H H' → Q (match ns.getLast? with | none => false | some y => !decide (y = x)) H'
theorem way_go {K : PySem.W.Frag} {iw ie : Nat} {σ : L2.St} {H : Hp} {Q : Bool → Hp → Prop} (h : tWay K iw ie σ H Q) :
    tAnd (tTest (tOp (rNeD K) (tVar iw) (tLst tNil))) (tTest (tOp rNe (tOp (rIxL K) (tVar iw) (tUn (rU fun i => .int (-i)) (tC (.int 1)))) (tVar ie))) σ H Q := by
  obtain ⟨wl, ns, x, h1, h2, h3, k⟩ := h
  refine ⟨_, h1, Nat.zero_le _, fun z nz => ?_⟩
  have sz : Same H (upd H z (.lst [])) := same_upd nz
  refine ⟨_, _, .lst (SqL.of (sz _ _ h3)) (dpAll_ints _), .lst (SqL.of upd_same) .nil, shaped_ints _, rfl, _, rfl, ?_⟩
  rw [eqv_nil]
  cases e : ns.getLast? with
  | none =>
    have hn : ns = [] := List.getLast?_eq_none_iff.mp e
    refine itN_f hn ?_
    have := k _ sz
    rw [e] at this
    exact this
  | some y =>
    have hl := List.getLast?_eq_some_iff.mp e
    obtain ⟨ms, hm⟩ := hl
    have h4 := sz _ _ h3
    rw [hm, ← vi_app] at h4
    refine itN_t (by rw [hm]; simp) ?_
    refine ⟨_, h1, _, rfl, wl, _, _, _, rfl, rfl, SqL.of h4, atI_last _ _, _, h2, rfl, _, rfl, ?_⟩
    have := k _ sz
    rw [e] at this
    have e2 : decide (V.int y = V.int x) = decide (y = x) := by
      by_cases q : y = x
      · rw [decide_eq_true q, decide_eq_true (congrArg V.int q)]
      · rw [decide_eq_false q, decide_eq_false (fun z => q (V.int.inj z))]
    rw [e2]
    exact this
/-- way == [] and elder != -1 -/
def tEnd (K : PySem.W.Frag) (iw ie : Nat) : TT := fun σ H Q => ∃ (wl : Addr) (ns : List Int) (x : Int), σ[iw]? = some (some (.ref wl)) ∧ σ[ie]? = some (some (.int x)) ∧ H wl = some (.lst (vi ns)) ∧
  (ns = [] → x = -1) ∧ ∀ H', Same H H' → Q false H'
theorem end_go {K : PySem.W.Frag} {iw ie : Nat} {σ : L2.St} {H : Hp} {Q : Bool → Hp → Prop} (h : tEnd K iw ie σ H Q) :
    tAnd (tTest (tOp (rEqD K) (tVar iw) (tLst tNil))) (tTest (tOp rNe (tVar ie) (tUn (rU fun i => .int (-i)) (tC (.int 1))))) σ H Q := by
  obtain ⟨wl, ns, x, h1, h2, h3, h4, k⟩ := h
  refine ⟨_, h1, Nat.zero_le _, fun z nz => ?_⟩
  have sz : Same H (upd H z (.lst [])) := same_upd nz
  refine ⟨_, _, .lst (SqL.of (sz _ _ h3)) (dpAll_ints _), .lst (SqL.of upd_same) .nil, shaped_ints _, rfl, _, rfl, ?_⟩
  rw [eqv_nil]
  by_cases q : ns = []
  · refine itD_t q ?_
    refine ⟨_, h2, _, rfl, rfl, _, rfl, ?_⟩
    have e2 : (!decide (V.int x = V.int (-1))) = false := by rw [decide_eq_true (congrArg V.int (h4 q))]; rfl
    exact (congrArg (fun b => Q b _) e2).mpr (k _ sz)
  · refine itD_f q ?_
    exact k _ sz
theorem wy_last0 {d : Nat → Nat} {k : Nat} : (wy d k 0).getLast? = none := rfl
theorem wy_last {d : Nat → Nat} {k m : Nat} : (wy d k (m + 1)).getLast? = some (pa d (m + 1) k) := by
  rw [wy_succ]
  simp
/-- what the loop's test tells at d k + m -/
theorem wy_test {d : Nat → Nat} {n k m : Nat} (w : Wd d n) (hk : k < n) (hm : d k + m ≤ hh d k) : (match (wy d k (d k + m)).getLast? with | none => false | some y => !decide (y = el d k)) = decide (0 < m) := by
  cases m with
  | zero =>
    cases e : d k with
    | zero => rfl
    | succ r =>
      rw [Nat.add_zero, wy_last]
      show (!decide (pa d (r + 1) k = el d k)) = false
      rw [decide_eq_true (show pa d (r + 1) k = el d k by unfold el; rw [e])]
      rfl
  | succ m =>
    rw [← Nat.add_assoc, wy_last]
    show (!decide (pa d (d k + m + 1) k = el d k)) = decide (0 < m + 1)
    rw [decide_eq_false (wy_ne w hk hm)]
    simp
theorem hh_le {d : Nat → Nat} {n k : Nat} (w : Wd d n) (hk : k ≤ n) : hh d k ≤ k := by
  induction k with
  | zero => exact Nat.le_refl _
  | succ k ih =>
    have := ih (by omega)
    have := w k (by omega)
    show d k + 1 ≤ k + 1
    omega
section
variable {K : PySem.W.Frag} {mg : Str → Option Value} {P : Program} {w : World} {base : Heap}
theorem ok_look_at (T : Top K mg) : Ok P w K mg base 1 (He.ga K "look_at") ["elders"] (sp_look_at K) := by
  obtain ⟨tk_MOST_woods, hc_MOST_woods⟩ := T.c_MOST_woods
  refine Ok.mk' T.f_look_at sc_look_at (fun _ _ _ _ _ _ us hl => match us, hl with | [_], _ => rfl) (fun vs H Q E h => ?_) (fun cdv A outer s H vs Q E hr h => ?_)
  · obtain ⟨a, d, n, rfl, ha, wd', hn, k⟩ := h
    rfl
  · obtain ⟨a, d, n, rfl, ha, wd', hn, k⟩ := h
    refine ⟨_, (pss_cons (ps_if (pt_not (pt_val (pe_callB call_isi (by rfl) T.b_isinstance (by decide +kernel) (pa_cons (pv 0) (pa_cons (pe_bltn (v := .ty "list") rfl T.b_list (by decide +kernel) rfl) pa_nil))))) (pss_one ps_never) pss_nil)
      (pss_cons (ps_set (i := 1) sc_look_at.nd rfl (Or.inl rfl) (pe_lst pa_nil))
      (pss_cons (ps_for PassesOwn.never rfl (pi_enum (by rfl) T.b_enumerate (pa_cons (pv 0) pa_nil)) (pg_tup (by rfl) (pgs_cons (pg_name (i := 2) sc_look_at.nd rfl (Or.inl rfl)) (pgs_cons (pg_name (i := 3) sc_look_at.nd rfl (Or.inl rfl)) pgs_nil))) (pss_cons (ps_if (PW.pt (pw_or (pt_cmpR op_eq (pv 2) (pe_glob (v := .int 4000) rfl hc_MOST_woods ⟨_, rfl⟩) (nomark _)) (pw_or (pt_not (pt_val (pe_callB call_isi (by rfl) T.b_isinstance (by decide +kernel) (pa_cons (pv 3) (pa_cons (pe_bltn (v := .ty "int") rfl T.b_int (by decide +kernel) rfl) pa_nil))))) (pw_or1 (pt_val (pe_callB call_isi (by rfl) T.b_isinstance (by decide +kernel) (pa_cons (pv 3) (pa_cons (pe_bltn (v := .ty "bool") rfl T.b_bool (by decide +kernel) rfl) pa_nil)))))))) (pss_one ps_never) pss_nil)
      (pss_cons (ps_while PassesOwn.never (pt_imp (t1 := tWay K 1 3) (PW.pt (pw_and (pt_cmpR (op_neD hr.units) (pv 1) (pe_lst pa_nil) (nomark _)) (pw_and1 (pt_cmpR op_ne (pe_ix ix_list (pv 1) (pe_un un_neg pe_int) (fun _ _ => rfl)) (pv 3) (nomark _))))) (fun _ _ _ h => way_go h)) (pss_one (ps_expr (pe_bm0 PySem.F.plainAttrs_list PySem.F.slot_list_pop PySem.F.type_list_pop mt_pop (pv 1)))))
      (pss_cons (ps_if (pt_imp (t1 := tEnd K 1 3) (PW.pt (pw_and (pt_cmpR (op_eqD hr.units) (pv 1) (pe_lst pa_nil) (nomark _)) (pw_and1 (pt_cmpR op_ne (pv 3) (pe_un un_neg pe_int) (nomark _))))) (fun _ _ _ h => end_go h)) (pss_one ps_never) pss_nil)
      (pss_one (ps_expr (pe_bm PySem.F.plainAttrs_list PySem.F.slot_list_append PySem.F.type_list_append mt_append (pv 1) (pa_cons (pv 2) pa_nil))))))))
      (pss_one (ps_ret (pe_callTy call_list_of (by rfl) T.b_list (by decide +kernel) (pa_cons (pv 0) pa_nil))))))), ?_⟩
    refine ⟨_, rfl, _, _, _, _, _, rfl, .ty "list", .base (.lst ha), kit_ty (r := true) (by decide +kernel), _, rfl, iteF ?_⟩
    refine ⟨Nat.zero_le _, fun wl nw' => ?_⟩
    refine ⟨_, rfl, a, _, rfl, SqL.of (same_upd nw' _ _ ha), for_it (walk_enum (K := K) (a := a) (xs := vi (els d n))) (fun i σ H3 => ∃ x y, σ = [some (.ref a), some (.ref wl), x, y] ∧ Same H H3 ∧ H3 wl = some (.lst (vi (wy d i (hh d i))))) ⟨none, none, rfl, same_upd nw', upd_same⟩ (fun i σ H3 _ ⟨_, _, _, s3, _⟩ => SqL.of (s3 _ _ ha)) ?_ ?_⟩
    · rintro i v σ H3 H4 hi ⟨x, y, rfl, s3, h3⟩ ⟨T1, u1, u2, rfl, hT, rfl, hu, hv⟩
      cases hu
      rw [vi_len, els_len] at hi
      cases (hv.symm.trans (vi_get (els_get hi)))
      refine ⟨T1, _, rfl, SqT.of upd_same, rfl, _, _, rfl, _, _, rfl, rfl, ?_⟩
      have s4 : Same H (upd H3 T1 (.tup [.int (i : Nat), .int (el d i)])) := s3.trans (same_upd hT)
      have h4 := same_upd (o := .tup [.int (i : Nat), .int (el d i)]) hT _ _ h3
      generalize upd H3 T1 (.tup [.int (i : Nat), .int (el d i)]) = H4 at *
      refine ⟨_, rfl, rfl, _, rfl, itD_f (fun z => by have := V.int.inj z; omega) ?_⟩
      refine ⟨_, rfl, _, _, _, _, _, rfl, .ty "int", .base (.int _), kit_ty (r := true) (by decide +kernel), _, rfl, iteF ?_⟩
      refine ⟨_, rfl, _, _, _, _, _, rfl, .ty "bool", .base (.int _), kit_ty (r := false) (by decide +kernel), _, rfl, iteF ?_⟩
      have hd := wd' i hi
      -- while way != [] and way[-1] != elder: way.pop()
      refine ⟨fun m σ H5 => σ = [some (.ref a), some (.ref wl), some (.int (i : Nat)), some (.int (el d i))] ∧ Same H H5 ∧ H5 wl = some (.lst (vi (wy d i (d i + m)))) ∧ d i + m ≤ hh d i, ⟨hh d i - d i, rfl, s4, by rw [show d i + (hh d i - d i) = hh d i by omega]; exact h4, by omega⟩, ?_⟩
      rintro m σ H5 ⟨rfl, s5, h5, hm⟩
      refine ⟨wl, _, _, rfl, rfl, h5, fun H6 s6 => ?_⟩
      rw [wy_test wd' hi hm]
      have h6 := s6 _ _ h5
      cases m with
      | succ m =>
        rw [← Nat.add_assoc, wy_succ, ← vi_app] at h6
        refine itD_t (by omega) (nxt ?_)
        refine ⟨_, rfl, .inl ⟨rfl, _, SqL.of h6⟩, wl, _, V.int (pa d (d i + m + 1) i), rfl, rfl, h6, by simp, ?_⟩
        refine ⟨m, by omega, rfl, fun b o hb => ?_, ?_, by omega⟩
        · rw [upd_ne (fun q => by rw [q, nw'] at hb; cases hb)]
          exact s6 _ _ (s5 _ _ hb)
        · rw [upd_same, List.dropLast_concat]
      | zero =>
        refine itD_f (by omega) ?_
        -- if way == [] and elder != -1: raise; way.append(knot)
        refine ⟨wl, _, _, rfl, rfl, h6, fun z => ?_, fun H7 s7 => iteF ?_⟩
        · have z2 : d i = 0 := by
            have := congrArg List.length z
            rw [wy_len] at this
            exact this
          exact (el_neg wd' hi).mpr z2
        have h7 := s7 _ _ h6
        refine ⟨_, rfl, .inl ⟨rfl, _, SqL.of h7⟩, _, rfl, wl, _, _, rfl, rfl, h7, ?_, ?_⟩
        · rw [vi_len, wy_len]
          have := hh_le wd' (Nat.le_of_lt hi)
          exact small1000 (by omega)
        · refine ⟨_, _, rfl, fun b o hb => ?_, ?_⟩
          · rw [upd_ne (fun q => by rw [q, nw'] at hb; cases hb)]
            exact s7 _ _ (s6 _ _ (s5 _ _ hb))
          · rw [upd_same, vi_app, Nat.add_zero, wy_next]
    · rintro σ H3 ⟨x, y, rfl, s3, h3⟩
      refine ⟨_, rfl, a, _, rfl, .inl (SqL.of (s3 _ _ ha)), fun l nl => ?_⟩
      exact k l _ (s3.trans (same_upd nl)) upd_same
theorem ok_row_of (T : Top K mg) : Ok P w K mg base 1 (He.ga K "row_of") ["elders"] (sp_row_of K) := by
  refine Ok.mk' T.f_row_of sc_row_of (fun _ _ _ _ _ _ us hl => match us, hl with | [_], _ => rfl) (fun vs H Q E h => ?_) (fun cdv A outer s H vs Q E hr h => ?_)
  · obtain ⟨a, d, n, rfl, ha, wd', hn, k⟩ := h
    rfl
  · obtain ⟨a, d, n, rfl, ha, wd', hn, k⟩ := h
    refine ⟨_, (pss_cons (ps_set (i := 1) sc_row_of.nd rfl (Or.inl rfl) (pe_lst pa_nil))
      (pss_cons (ps_set (i := 2) sc_row_of.nd rfl (Or.inl rfl) (pe_lst pa_nil))
      (pss_cons (ps_for PassesOwn.never rfl (pi_enum (by rfl) T.b_enumerate (pa_cons (pv 0) pa_nil)) (pg_tup (by rfl) (pgs_cons (pg_name (i := 3) sc_row_of.nd rfl (Or.inl rfl)) (pgs_cons (pg_name (i := 4) sc_row_of.nd rfl (Or.inl rfl)) pgs_nil))) (pss_cons (ps_while PassesOwn.never (pt_imp (t1 := tWay K 2 4) (PW.pt (pw_and (pt_cmpR (op_neD hr.units) (pv 2) (pe_lst pa_nil) (nomark _)) (pw_and1 (pt_cmpR op_ne (pe_ix ix_list (pv 2) (pe_un un_neg pe_int) (fun _ _ => rfl)) (pv 4) (nomark _))))) (fun _ _ _ h => way_go h)) (pss_cons (ps_expr (pe_bm0 PySem.F.plainAttrs_list PySem.F.slot_list_pop PySem.F.type_list_pop mt_pop (pv 2)))
      (pss_one (ps_expr (pe_bm PySem.F.plainAttrs_list PySem.F.slot_list_append PySem.F.type_list_append mt_append (pv 1) (pa_cons pe_str pa_nil))))))
      (pss_cons (ps_expr (pe_bm PySem.F.plainAttrs_list PySem.F.slot_list_append PySem.F.type_list_append mt_append (pv 2) (pa_cons (pv 3) pa_nil)))
      (pss_one (ps_expr (pe_bm PySem.F.plainAttrs_list PySem.F.slot_list_append PySem.F.type_list_append mt_append (pv 1) (pa_cons pe_str pa_nil)))))))
      (pss_one (ps_ret (pe_op op_add_str (pe_join pe_str (pv 1)) (pe_op op_mulS pe_str (pe_callB call_len_seq (by rfl) T.b_len PySem.boot_len (pa_cons (pv 2) pa_nil))))))))), ?_⟩
    refine ⟨Nat.zero_le _, fun sl ns' => ?_⟩
    refine ⟨Nat.zero_le _, fun wl nw' => ?_⟩
    have sw : Same H (upd (upd H sl (.lst [])) wl (.lst [])) := (same_upd ns').trans (same_upd nw')
    have nsl : sl ≠ wl := fun z => by rw [← z, upd_same] at nw'; cases nw'
    have nwl : H wl = none := by
      rw [upd_ne (Ne.symm nsl)] at nw'
      exact nw'
    refine ⟨_, rfl, a, _, rfl, SqL.of (sw _ _ ha), for_it (walk_enum (K := K) (a := a) (xs := vi (els d n))) (fun i σ H3 => ∃ x y, σ = [some (.ref a), some (.ref sl), some (.ref wl), x, y] ∧ Same H H3 ∧ H3 sl = some (.lst ((rowk d i).map fun b => V.str (sgn b))) ∧ H3 wl = some (.lst (vi (wy d i (hh d i))))) ⟨none, none, rfl, sw, by rw [upd_ne nsl, upd_same]; rfl, upd_same⟩ (fun i σ H3 _ ⟨_, _, _, s3, _⟩ => SqL.of (s3 _ _ ha)) ?_ ?_⟩
    · rintro i v σ H3 H4 hi ⟨x, y, rfl, s3, g3, h3⟩ ⟨T1, u1, u2, rfl, hT, rfl, hu, hv⟩
      cases hu
      rw [vi_len, els_len] at hi
      cases (hv.symm.trans (vi_get (els_get hi)))
      refine ⟨T1, _, rfl, SqT.of upd_same, rfl, _, _, rfl, _, _, rfl, rfl, ?_⟩
      have s4 : Same H (upd H3 T1 (.tup [.int (i : Nat), .int (el d i)])) := s3.trans (same_upd hT)
      have h4 := same_upd (o := .tup [.int (i : Nat), .int (el d i)]) hT _ _ h3
      have g4 := same_upd (o := .tup [.int (i : Nat), .int (el d i)]) hT _ _ g3
      generalize upd H3 T1 (.tup [.int (i : Nat), .int (el d i)]) = H4 at *
      have hd := wd' i hi
      have hrl := L_len wd' (Nat.le_of_lt hi)
      have hL : L d i ≤ 2 * i := by unfold L; omega
      refine ⟨fun m σ H5 => σ = [some (.ref a), some (.ref sl), some (.ref wl), some (.int (i : Nat)), some (.int (el d i))] ∧ Same H H5 ∧ H5 sl = some (.lst ((rowk d i ++ List.replicate (hh d i - (d i + m)) false).map fun b => V.str (sgn b))) ∧ H5 wl = some (.lst (vi (wy d i (d i + m)))) ∧ d i + m ≤ hh d i, ⟨hh d i - d i, rfl, s4, by rw [show hh d i - (d i + (hh d i - d i)) = 0 by omega, List.replicate_zero, List.append_nil]; exact g4, by rw [show d i + (hh d i - d i) = hh d i by omega]; exact h4, by omega⟩, ?_⟩
      rintro m σ H5 ⟨rfl, s5, g5, h5, hm⟩
      refine ⟨wl, _, _, rfl, rfl, h5, fun H6 s6 => ?_⟩
      rw [wy_test wd' hi hm]
      have h6 := s6 _ _ h5
      have g6 := s6 _ _ g5
      have len6 : ((rowk d i ++ List.replicate (hh d i - (d i + m)) false).map fun b => V.str (sgn b)).length ≤ 160 := by
        have := hh_le wd' (Nat.le_of_lt hi)
        simp only [List.length_map, List.length_append, List.length_replicate]
        omega
      cases m with
      | succ m =>
        rw [← Nat.add_assoc, wy_succ, ← vi_app] at h6
        refine itD_t (by omega) (nxt ?_)
        refine ⟨_, rfl, .inl ⟨rfl, _, SqL.of h6⟩, wl, _, V.int (pa d (d i + m + 1) i), rfl, rfl, h6, by simp, ?_⟩
        have g7 : (upd H6 wl (.lst (vi (wy d i (d i + m)) ++ [V.int (pa d (d i + m + 1) i)]).dropLast)) sl = some (.lst ((rowk d i ++ List.replicate (hh d i - (d i + (m + 1))) false).map fun b => V.str (sgn b))) := by
          rw [upd_ne nsl]
          exact g6
        refine ⟨_, rfl, .inl ⟨rfl, _, SqL.of g7⟩, sl, _, _, rfl, rfl, g7, small1000 (by omega), ?_⟩
        refine ⟨m, by omega, rfl, fun b o hb => ?_, ?_, ?_, by omega⟩
        · rw [upd_ne (fun q => by rw [q, ns'] at hb; cases hb), upd_ne (fun q => by rw [q, nwl] at hb; cases hb)]
          exact s6 _ _ (s5 _ _ hb)
        · rw [upd_same, show hh d i - (d i + m) = hh d i - (d i + (m + 1)) + 1 by omega, List.replicate_succ', ← List.append_assoc, List.map_append (l₂ := [false])]
          have e0 : ("0" : Str) = sgn false := by decide +kernel
          rw [e0]
          rfl
        · rw [upd_ne (Ne.symm nsl), upd_same, List.dropLast_concat]
      | zero =>
        refine itD_f (by omega) ?_
        have hle := hh_le wd' (Nat.le_of_lt hi)
        refine ⟨_, rfl, .inl ⟨rfl, _, SqL.of h6⟩, _, rfl, wl, _, _, rfl, rfl, h6, by rw [vi_len, wy_len]; exact small1000 (by omega), ?_⟩
        have g7 : (upd H6 wl (.lst (vi (wy d i (d i + 0)) ++ [V.int (i : Nat)]))) sl = some (.lst ((rowk d i ++ List.replicate (hh d i - (d i + 0)) false).map fun b => V.str (sgn b))) := by
          rw [upd_ne nsl]
          exact g6
        refine ⟨_, rfl, .inl ⟨rfl, _, SqL.of g7⟩, sl, _, _, rfl, rfl, g7, small1000 (by omega), ?_⟩
        refine ⟨_, _, rfl, fun b o hb => ?_, ?_, ?_⟩
        · rw [upd_ne (fun q => by rw [q, ns'] at hb; cases hb), upd_ne (fun q => by rw [q, nwl] at hb; cases hb)]
          exact s6 _ _ (s5 _ _ hb)
        · rw [upd_same]
          show _ = some (HO.lst ((rowk d i ++ List.replicate (hh d i - d i) false ++ [true]).map fun b => V.str (sgn b)))
          rw [List.map_append (l₂ := [true])]
          have e1 : ("1" : Str) = sgn true := by decide +kernel
          rw [e1]
          rfl
        · rw [upd_ne (Ne.symm nsl), upd_same, vi_app, Nat.add_zero, wy_next]
    · rintro σ H3 ⟨x, y, rfl, s3, g3, h3⟩
      rw [vi_len, els_len] at g3 h3
      have hrl := L_len wd' (Nat.le_refl n)
      have hL : L d n ≤ 2 * n := by unfold L; omega
      have hle := hh_le wd' (Nat.le_refl n)
      have e3 : ((rowk d n).map fun b => V.str (sgn b)) = ((rowk d n).map sgn).map V.str := by rw [List.map_map]; rfl
      rw [e3] at g3
      refine ⟨⟨_, rfl⟩, _, rfl, _, sl, (rowk d n).map sgn, rfl, rfl, .inl (SqL.of g3), ?_, ?_⟩
      · rw [sum_sgn, List.length_map]
        show _ + _ * 0 ≤ _
        omega
      · refine ⟨_, rfl, wl, _, rfl, .inl (SqL.of h3), 48, _, rfl, rfl, by omega, by rw [vi_len, wy_len]; omega, ?_⟩
        have ej : Txt.join ("" : Str) ((rowk d n).map sgn) = sg (rowk d n) := (TL.join_eq _ _).trans (join_sgn _)
        have er : (⟨(List.replicate (((vi (wy d n (hh d n))).length : Nat) : Int).toNat 48).toArray⟩ : Str) = sg (List.replicate (hh d n) false) := by
          rw [Int.toNat_natCast, vi_len, wy_len, sg_zeros]
        rw [ej, er]
        refine ⟨_, _, rfl, rfl, ?_, ?_⟩
        · rw [sg_len, sg_len, List.length_replicate]
          exact size80 (by omega)
        · rw [sg_app]
          exact k _ s3
end
end Tw
namespace Tw
open PySem PySem.Spec PyProof.Rows L2
theorem bal_row {d : Nat → Nat} {n : Nat} (w : Wd d n) : Bal (row d n) := by
  refine ⟨fun p hp => ?_, ?_⟩
  · rw [row_len w] at hp
    obtain ⟨m, i, _, h2, h3, rfl⟩ := place_of w 0 (Nat.zero_le _) p (Nat.zero_le _) hp
    rw [ht_at w h2 h3]
    have : cl d n m ≤ hh d m := by
      unfold cl
      split
      · omega
      · have : m = n := by omega
        rw [this]; exact Nat.le_refl _
    omega
  · have l := L_len w (Nat.le_refl n)
    have e : (row d n).length = L d n + hh d n := by
      rw [row_len w]
      unfold L
      omega
    rw [e, ht_at w (Nat.le_refl n) (by unfold cl; rw [if_neg (by omega)]; exact Nat.le_refl _)]
    omega
theorem PairsAt.ins0 {K : PySem.W.Frag} {H : Hp} {p o C dx : Addr} {bs : List Bool} {u : HO} (ho : H o = some (.ins C dx [])) (h : PairsAt K H p bs) : PairsAt K (upd H o u) p bs := by
  obtain ⟨dxp, b, t, c, l, h1, B, ht, C', L⟩ := h.ob
  obtain ⟨dxb, tb, hb, _⟩ := id B.ob
  obtain ⟨dxc, tc, uc, hc, _⟩ := id C'.ob
  refine ⟨dxp, b, t, c, l, ?_, B.ins ho (ne_of hb ho (by intro z; cases z)), seqT_ins ho ht, C'.ins ho (ne_of hc ho (by intro z; cases z)), L.ins ho⟩
  rw [upd_ne (ne_of h1 ho (by intro z; cases z))]
  exact h1
theorem bes_len (bs : List Bool) (lo : Nat) : ∀ m, (bes bs lo m).length ≤ m
  | 0 => Nat.le_refl _
  | m + 1 => by
    have := bes_len bs lo m
    show (bes bs lo m ++ (if _ then _ else _)).length ≤ m + 1
    rw [List.length_append]
    split <;> simp <;> omega
section
variable {K : PySem.W.Frag} {mg : Str → Option Value} {P : Program} {w : World} {base : Heap}
theorem ok_is_number (T : Top K mg) : Ok P w K mg base 1 (He.ga K "is_number") ["thing"] (sp_is_number K) := by
  refine Ok.mk' T.f_is_number sc_is_number (fun _ _ _ _ _ _ us hl => match us, hl with | [_], _ => rfl) (fun vs H Q E h => ?_) (fun cdv A outer s H vs Q E hr h => ?_)
  · obtain ⟨i, rfl, h0, k⟩ := h
    rfl
  · obtain ⟨i, rfl, h0, k⟩ := h
    refine ⟨_, (pss_one (ps_ret (pe_and (pe_callB call_isi (by rfl) T.b_isinstance (by decide +kernel) (pa_cons (pv 0) (pa_cons (pe_bltn (v := .ty "int") rfl T.b_int (by decide +kernel) rfl) pa_nil))) (pe_and (pe_not (pe_callB call_isi (by rfl) T.b_isinstance (by decide +kernel) (pa_cons (pv 0) (pa_cons (pe_bltn (v := .ty "bool") rfl T.b_bool (by decide +kernel) rfl) pa_nil)))) (pe_one (pe_cmpR op_ge (pv 0) pe_int (nomark _))))))), ?_⟩
    refine ⟨_, rfl, _, _, _, _, _, rfl, .ty "int", .base (.int _), kit_ty (r := true) (by decide +kernel), _, rfl, iteT ⟨_, rfl, _, _, _, _, _, rfl, .ty "bool", .base (.int _), kit_ty (r := false) (by decide +kernel), _, rfl, _, rfl, iteT ⟨_, rfl, _, _, rfl, rfl, ?_⟩⟩⟩
    dsimp only
    rw [decide_eq_true h0]
    exact k
theorem ok_one_of (T : Top K mg) (O_is_number : Ok P w K mg base 1 (He.ga K "is_number") ["thing"] (sp_is_number K)) : Ok P w K mg base 2 (He.ga K "one_of") ["some", "i"] (sp_one_of K) := by
  obtain ⟨fd_is_number, F_is_number, b_is_number, kp_is_number⟩ := O_is_number.ex
  refine Ok.mk' T.f_one_of sc_one_of (fun _ _ _ _ _ _ us hl => match us, hl with | [_, _], _ => rfl) (fun vs H Q E h => ?_) (fun cdv A outer s H vs Q E hr h => ?_)
  · obtain ⟨l, i, xs, rfl, hl, h0, k⟩ := h
    rfl
  · obtain ⟨l, i, xs, rfl, hl, h0, k⟩ := h
    refine ⟨_, (pss_cons (ps_if (pt_not (pt_val (pe_call F_is_number (hr.mono (by decide)) rfl T.g_is_number kp_is_number b_is_number .nil pass0 (pa_cons (pv 1) pa_nil)))) (pss_one ps_never) pss_nil)
      (pss_cons (ps_if (pt_cmpR op_lt (pv 1) (pe_callB call_len_seq (by rfl) T.b_len PySem.boot_len (pa_cons (pv 0) pa_nil)) (nomark _)) (pss_one (ps_ret (pe_ix ix_list (pv 0) (pv 1) (fun _ _ => rfl)))) pss_nil)
      (pss_one (ps_ret pe_non)))), ?_⟩
    refine ⟨_, rfl, _, rfl, h0, _, rfl, iteF ?_⟩
    refine ⟨_, rfl, _, rfl, l, _, rfl, .inl (SqL.of hl), _, _, rfl, rfl, _, rfl, ?_⟩
    unfold oneAt at k
    cases e : xs[i.toNat]? with
    | some x =>
      rw [e] at k
      have hlt := (List.getElem?_eq_some_iff.mp e).1
      refine itD_t (by rw [vi_len]; omega) ?_
      exact ⟨_, rfl, _, rfl, l, _, _, _, rfl, rfl, SqL.of hl, at_of (j := i.toNat) (by omega) (vi_get e), k⟩
    | none =>
      rw [e] at k
      have hge := List.getElem?_eq_none_iff.mp e
      refine itD_f (by rw [vi_len]; omega) k
theorem ok_Opened_init (T : Top K mg) (O_Pairs_init : Ok P w K mg base 4 (He.ma K (He.ga K "Pairs") "__init__") ["self", "text"] (sp_Pairs_init K)) (O_row_of : Ok P w K mg base 1 (He.ga K "row_of") ["elders"] (sp_row_of K)) (O_look_at : Ok P w K mg base 1 (He.ga K "look_at") ["elders"] (sp_look_at K)) : Ok P w K mg base 6 (He.ma K (He.ga K "Opened") "__init__") ["self", "elders"] (sp_Opened_init K) := by
  obtain ⟨fd_Pairs_init, F_Pairs_init, b_Pairs_init, kp_Pairs_init⟩ := O_Pairs_init.ex
  obtain ⟨fd_row_of, F_row_of, b_row_of, kp_row_of⟩ := O_row_of.ex
  obtain ⟨fd_look_at, F_look_at, b_look_at, kp_look_at⟩ := O_look_at.ex
  refine Ok.mk' T.f_Opened_init sc_Opened_init (fun _ _ _ _ _ _ us hl => match us, hl with | [_, _], _ => rfl) (fun vs H Q E h => ?_) (fun cdv A outer s H vs Q E hr h => ?_)
  · obtain ⟨o, dx, a, d, n, rfl, ho, ha, wd', hn, k⟩ := h
    rfl
  · obtain ⟨o, dx, a, d, n, rfl, ho, ha, wd', hn, k⟩ := h
    refine ⟨_, (pss_one (ps_fld (pv 0) (pe_make T.mk_Pairs F_Pairs_init (hr.mono (by decide)) rfl T.g_Pairs b_Pairs_init .nil pass0 (pa_cons (pe_call F_row_of (hr.mono (by decide)) rfl T.g_row_of kp_row_of b_row_of .nil pass0 (pa_cons (pe_call F_look_at (hr.mono (by decide)) rfl T.g_look_at kp_look_at b_look_at .nil pass0 (pa_cons (pv 1) pa_nil)) pa_nil)) pa_nil)) rfl)), ?_⟩
    refine ⟨_, rfl, a, d, n, rfl, ha, wd', hn, fun l H1 s1 hl => ?_⟩
    refine ⟨l, d, n, rfl, hl, wd', hn, fun H2 s2 => ?_⟩
    have len := row_len wd'
    refine fun p dxp np ndp nep => ⟨p, dxp, row d n, rfl, upd_same, by omega, bal_row wd', fun H3 q3 P3 => ⟨rfl, ?_⟩⟩
    have s3 : Same H H3 := (s1.trans s2).trans (Same.made np ndp q3)
    have h3 := s3 _ _ ho
    refine ⟨_, rfl, o, CO K, dx, _, rfl, h3, T.cl_Opened, T.n_Opened_pairs, (by show 0 < 1000; decide), ?_⟩
    refine k _ (same_but fun b u e _ => s3 _ _ e) ⟨dx, p, ?_, P3.ins0 h3⟩
    rw [upd_same]
    rfl
theorem ok_Opened_many_knots (T : Top K mg) (O_Pairs_size : Ok P w K mg base 2 (He.ma K (He.ga K "Pairs") "size") ["self"] (sp_Pairs_size K)) : Ok P w K mg base 3 (He.ma K (He.ga K "Opened") "many_knots") ["self"] (sp_Opened_many_knots K) := by
  obtain ⟨fd_Pairs_size, F_Pairs_size, b_Pairs_size, kp_Pairs_size⟩ := O_Pairs_size.ex
  refine Ok.mk' T.f_Opened_many_knots sc_Opened_many_knots (fun _ _ _ _ _ _ us hl => match us, hl with | [_], _ => rfl) (fun vs H Q E h => ?_) (fun cdv A outer s H vs Q E hr h => ?_)
  · obtain ⟨o, n, bs, rfl, O, hl, k⟩ := h
    rfl
  · obtain ⟨o, n, bs, rfl, O, hl, k⟩ := h
    refine ⟨_, (pss_one (ps_ret (pe_op op_fdiv (pe_meth0 (pe_fld (pv 0) rfl) T.cl_Pairs T.m_Pairs_size F_Pairs_size (hr.mono (by decide)) b_Pairs_size .nil pass0) pe_int))), ?_⟩
    obtain ⟨dx, p, h1, R⟩ := O.ob
    obtain ⟨dxp, b, t, c, l, hp, _⟩ := id R.ob
    refine ⟨_, rfl, o, CO K, dx, _, _, rfl, h1, T.cl_Opened, T.n_Opened_pairs, rfl, p, dxp, _, rfl, hp, flP_no _ _ _ _ _ (by decide +kernel), p, bs, rfl, R, _, _, rfl, rfl, ⟨by decide, by decide⟩, ?_⟩
    dsimp only
    rw [show ((bs.length : Nat) : Int) / 2 = ((n : Nat) : Int) by omega]
    exact k
theorem ok_Opened_opening (T : Top K mg) (O_Opened_many_knots : Ok P w K mg base 3 (He.ma K (He.ga K "Opened") "many_knots") ["self"] (sp_Opened_many_knots K)) (O_is_number : Ok P w K mg base 1 (He.ga K "is_number") ["thing"] (sp_is_number K)) (O_Pairs_opening : Ok P w K mg base 4 (He.ma K (He.ga K "Pairs") "opening") ["self", "number"] (sp_Pairs_opening K)) : Ok P w K mg base 5 (He.ma K (He.ga K "Opened") "opening") ["self", "k"] (sp_Opened_opening K) := by
  obtain ⟨fd_Opened_many_knots, F_Opened_many_knots, b_Opened_many_knots, kp_Opened_many_knots⟩ := O_Opened_many_knots.ex
  obtain ⟨fd_is_number, F_is_number, b_is_number, kp_is_number⟩ := O_is_number.ex
  obtain ⟨fd_Pairs_opening, F_Pairs_opening, b_Pairs_opening, kp_Pairs_opening⟩ := O_Pairs_opening.ex
  refine Ok.mk' T.f_Opened_opening sc_Opened_opening (fun _ _ _ _ _ _ us hl => match us, hl with | [_, _], _ => rfl) (fun vs H Q E h => ?_) (fun cdv A outer s H vs Q E hr h => ?_)
  · obtain ⟨o, x, d, n, rfl, O, wd', hn, hk, k⟩ := h
    rfl
  · obtain ⟨o, x, d, n, rfl, O, wd', hn, hk, k⟩ := h
    refine ⟨_, (pss_cons (ps_if (PW.pt (pw_or (pt_not (pt_val (pe_call F_is_number (hr.mono (by decide)) rfl T.g_is_number kp_is_number b_is_number .nil pass0 (pa_cons (pv 1) pa_nil)))) (pw_or1 (pt_cmpR op_ge (pv 1) (pe_meth0 (pv 0) T.cl_Opened T.m_Opened_many_knots F_Opened_many_knots (hr.mono (by decide)) b_Opened_many_knots .nil pass0) (nomark _))))) (pss_one ps_never) pss_nil)
      (pss_one (ps_ret (pe_meth (pe_fld (pv 0) rfl) T.cl_Pairs T.m_Pairs_opening F_Pairs_opening (hr.mono (by decide)) b_Pairs_opening .nil pass0 (pa_cons (pv 1) pa_nil))))), ?_⟩
    obtain ⟨dx, p, h1, R⟩ := id O.ob
    obtain ⟨dxp, b, t, c, l, hp, _⟩ := id R.ob
    obtain ⟨a1, a2, a3⟩ := at_open wd' hk
    refine ⟨_, rfl, _, rfl, by omega, _, rfl, iteF ?_⟩
    refine ⟨_, rfl, _, rfl, o, dx, _, rfl, h1, flO_no _ _ (by decide +kernel), o, n, _, rfl, O, row_len wd', _, _, rfl, rfl, _, rfl, itD_f (by omega) ?_⟩
    refine ⟨_, rfl, o, CO K, dx, _, _, rfl, h1, T.cl_Opened, T.n_Opened_pairs, rfl, p, dxp, _, rfl, hp, flP_no _ _ _ _ _ (by decide +kernel), _, rfl, p, 2 * x - d x, row d n, by rw [a1]; rfl, R, row_one wd' hk, by rw [row_len wd']; omega, fun H1 s1 => ?_⟩
    exact k _ s1
theorem ok_Opened_closing (T : Top K mg) (O_Pairs_partner : Ok P w K mg base 7 (He.ma K (He.ga K "Pairs") "partner") ["self", "place"] (sp_Pairs_partner K)) (O_Opened_opening : Ok P w K mg base 5 (He.ma K (He.ga K "Opened") "opening") ["self", "k"] (sp_Opened_opening K)) : Ok P w K mg base 8 (He.ma K (He.ga K "Opened") "closing") ["self", "k"] (sp_Opened_closing K) := by
  obtain ⟨fd_Pairs_partner, F_Pairs_partner, b_Pairs_partner, kp_Pairs_partner⟩ := O_Pairs_partner.ex
  obtain ⟨fd_Opened_opening, F_Opened_opening, b_Opened_opening, kp_Opened_opening⟩ := O_Opened_opening.ex
  refine Ok.mk' T.f_Opened_closing sc_Opened_closing (fun _ _ _ _ _ _ us hl => match us, hl with | [_, _], _ => rfl) (fun vs H Q E h => ?_) (fun cdv A outer s H vs Q E hr h => ?_)
  · obtain ⟨o, x, e, d, n, rfl, O, wd', hn, hk, he, k⟩ := h
    rfl
  · obtain ⟨o, x, e, d, n, rfl, O, wd', hn, hk, he, k⟩ := h
    refine ⟨_, (pss_one (ps_ret (pe_meth (pe_fld (pv 0) rfl) T.cl_Pairs T.m_Pairs_partner F_Pairs_partner (hr.mono (by decide)) b_Pairs_partner .nil pass0 (pa_cons (pe_meth (pv 0) T.cl_Opened T.m_Opened_opening F_Opened_opening (hr.mono (by decide)) b_Opened_opening .nil pass0 (pa_cons (pv 1) pa_nil)) pa_nil)))), ?_⟩
    obtain ⟨dx, p, h1, R⟩ := id O.ob
    obtain ⟨dxp, b, t, c, l, hp, _⟩ := id R.ob
    obtain ⟨a1, a2, a3⟩ := at_open wd' hk
    obtain ⟨e1, e2, e3, e4⟩ := he
    obtain ⟨c1, c2, c3, c4, c5⟩ := closes wd' hk e1 e2 e3 e4
    refine ⟨_, rfl, o, CO K, dx, _, _, rfl, h1, T.cl_Opened, T.n_Opened_pairs, rfl, p, dxp, _, rfl, hp, flP_no _ _ _ _ _ (by decide +kernel), _, rfl, o, dx, _, rfl, h1, flO_no _ _ (by decide +kernel), _, rfl, o, x, d, n, rfl, O, wd', hn, hk, fun H1 s1 => ?_⟩
    refine ⟨p, 2 * x - d x, 2 * e - d x, row d n, rfl, R.same s1, by rw [row_len wd']; omega, row_one wd' hk, c3, by rw [row_len wd']; omega, by rw [c4, a3], fun q q1 q2 => ?_, fun H2 s2 => ?_⟩
    · have := c5 q q1 q2
      rw [a3]
      omega
    · rw [show ((2 * e - d x : Nat) : Int) - 1 = ((2 * e - d x - 1 : Nat) : Int) by omega]
      exact k _ (s1.trans s2)
theorem ok_Opened_beside (T : Top K mg) (O_Pairs_opens_ahead : Ok P w K mg base 4 (He.ma K (He.ga K "Pairs") "opens_ahead") ["self", "place"] (sp_Pairs_opens_ahead K)) (O_Pairs_step : Ok P w K mg base 1 (He.ma K (He.ga K "Pairs") "step") ["self", "place"] (sp_Pairs_step K)) : Ok P w K mg base 5 (He.ma K (He.ga K "Opened") "beside") ["self", "low", "high"] (sp_Opened_beside K) := by
  obtain ⟨fd_Pairs_opens_ahead, F_Pairs_opens_ahead, b_Pairs_opens_ahead, kp_Pairs_opens_ahead⟩ := O_Pairs_opens_ahead.ex
  obtain ⟨fd_Pairs_step, F_Pairs_step, b_Pairs_step, kp_Pairs_step⟩ := O_Pairs_step.ex
  refine Ok.mk' T.f_Opened_beside sc_Opened_beside (fun _ _ _ _ _ _ us hl => match us, hl with | [_, _, _], _ => rfl) (fun vs H Q E h => ?_) (fun cdv A outer s H vs Q E hr h => ?_)
  · obtain ⟨o, lo, hi, bs, rfl, O, hl, h1, h2, k⟩ := h
    rfl
  · obtain ⟨o, lo, hi, bs, rfl, O, hl, h1, h2, k⟩ := h
    refine ⟨_, (pss_cons (ps_set (i := 3) sc_Opened_beside.nd rfl (Or.inl rfl) (pe_lst pa_nil))
      (pss_cons (ps_set (i := 4) sc_Opened_beside.nd rfl (Or.inl rfl) (pe_meth (pe_fld (pv 0) rfl) T.cl_Pairs T.m_Pairs_opens_ahead F_Pairs_opens_ahead (hr.mono (by decide)) b_Pairs_opens_ahead .nil pass0 (pa_cons (pv 1) pa_nil)))
      (pss_cons (ps_set (i := 5) sc_Opened_beside.nd rfl (Or.inl rfl) pe_int)
      (pss_cons (ps_for PassesOwn.never rfl (pi_range2 rfl T.b_range (pa_cons (pv 1) (pa_cons (pv 2) pa_nil))) (pg_name (i := 6) sc_Opened_beside.nd rfl (Or.inl rfl)) (pss_cons (ps_set (i := 7) sc_Opened_beside.nd rfl (Or.inl rfl) (pe_meth (pe_fld (pv 0) rfl) T.cl_Pairs T.m_Pairs_step F_Pairs_step (hr.mono (by decide)) b_Pairs_step .nil pass0 (pa_cons (pv 6) pa_nil)))
      (pss_cons (ps_if (pt_cmpR op_eq (pv 7) pe_int (nomark _)) (pss_cons (ps_if (pt_cmpR op_eq (pv 5) pe_int (nomark _)) (pss_one (ps_expr (pe_bm PySem.F.plainAttrs_list PySem.F.slot_list_append PySem.F.type_list_append mt_append (pv 3) (pa_cons (pv 4) pa_nil)))) pss_nil)
      (pss_one (ps_set (i := 4) sc_Opened_beside.nd rfl (Or.inl rfl) (pe_op op_add (pv 4) pe_int)))) pss_nil)
      (pss_one (ps_set (i := 5) sc_Opened_beside.nd rfl (Or.inl rfl) (pe_op op_add (pv 5) (pv 7)))))))
      (pss_one (ps_ret (pv 3))))))), ?_⟩
    obtain ⟨dx, p, ho, R⟩ := id O.ob
    obtain ⟨dxp, b, t, c, l', hp, _⟩ := id R.ob
    refine ⟨Nat.zero_le _, fun l nl => ?_⟩
    have s0 : Same H (upd H l (.lst [])) := same_upd nl
    refine ⟨_, rfl, o, CO K, dx, _, _, rfl, s0 _ _ ho, T.cl_Opened, T.n_Opened_pairs, rfl, p, dxp, _, rfl, s0 _ _ hp, flP_no _ _ _ _ _ (by decide +kernel), _, rfl, p, lo, bs, rfl, R.same s0, by omega, hl, fun H1 s1 => ?_⟩
    have g1 := s1 _ _ (show (upd H l (.lst [])) l = some (.lst []) from upd_same)
    refine ⟨_, rfl, _, rfl, _, _, rfl, ⟨by omega, by omega, by omega, by omega⟩, for_range (lo := ((lo : Nat) : Int)) (n := (((hi : Nat) : Int) - ((lo : Nat) : Int)).toNat) (fun i σ H3 => ∃ a e, σ = [some (.ref o), some (.int (lo : Nat)), some (.int (hi : Nat)), some (.ref l), some (.int (op bs (lo + i) : Nat)), some (.int (ht bs (lo + i) - ht bs lo)), a, e] ∧ Same H H3 ∧ H3 l = some (.lst (vi (bes bs lo i)))) ⟨none, none, by rw [Nat.add_zero, Int.sub_self]; rfl, s0.trans s1, g1⟩ ?_ ?_⟩
    · rintro i σ H3 hi' ⟨a, e, rfl, s3, g3⟩
      have hb : bs[lo + i]? = some bs[lo + i] := List.getElem?_eq_getElem (by omega)
      have hs := ht_succ bs hb
      have os := opn_succ bs hb
      have bl := bes_len bs lo i
      have eb : bes bs lo (i + 1) = bes bs lo i ++ (if bs[lo + i]? = some true ∧ ht bs (lo + i) = ht bs lo then [(op bs (lo + i) : Int)] else []) := rfl
      refine ⟨_, rfl, o, CO K, dx, _, _, rfl, s3 _ _ ho, T.cl_Opened, T.n_Opened_pairs, rfl, p, dxp, _, rfl, s3 _ _ hp, flP_no _ _ _ _ _ (by decide +kernel), _, rfl, p, lo + i, bs, bs[lo + i], congrArg (fun z => [V.ref p, V.int z]) (show ((lo : Nat) : Int) + (i : Int) = ((lo + i : Nat) : Int) by omega), R.same s3, hb, ?_⟩
      rw [hb] at eb
      generalize bs[lo + i] = bt at *
      cases bt with
      | true =>
        refine ⟨_, rfl, rfl, _, rfl, itD_t rfl ?_⟩
        simp only [Bool.toNat_true] at hs os
        refine ⟨_, rfl, rfl, _, rfl, ?_⟩
        by_cases q : ht bs (lo + i) = ht bs lo
        · refine itD_t (congrArg V.int (by rw [q]; omega)) ?_
          refine ⟨_, rfl, .inl ⟨rfl, _, SqL.of g3⟩, _, rfl, l, _, _, rfl, rfl, g3, by rw [vi_len]; exact small1000 (by omega), ?_⟩
          refine ⟨_, rfl, _, _, rfl, rfl, ?_⟩
          refine ⟨_, rfl, _, rfl, _, _, rfl, rfl, ?_⟩
          refine ⟨some (.int ((lo : Int) + (i : Int))), some (.int (2 * ((true.toNat : Nat) : Int) - 1)), ?_, fun b o hb => ?_, ?_⟩
          · rw [show lo + (i + 1) = lo + i + 1 by omega, os, hs]
            have e1 : ht bs (lo + i) - ht bs lo + (2 * ((true.toNat : Nat) : Int) - 1) = ht bs (lo + i) + 2 * ((1 : Nat) : Int) - 1 - ht bs lo := by
              show ht bs (lo + i) - ht bs lo + (2 * ((1 : Nat) : Int) - 1) = _
              omega
            exact congrArg (fun z => [some (V.ref o), some (V.int (lo : Nat)), some (V.int (hi : Nat)), some (V.ref l), some (V.int ((op bs (lo + i) : Nat) + 1)), some (V.int z), some (V.int ((lo : Int) + (i : Int))), some (V.int (2 * ((true.toNat : Nat) : Int) - 1))]) e1
          · rw [upd_ne (fun q => by rw [q, nl] at hb; cases hb)]
            exact s3 _ _ hb
          · rw [upd_same, vi_app, eb, if_pos ⟨rfl, q⟩]
        · refine itD_f (fun z => q (by have := V.int.inj z; omega)) ?_
          refine ⟨_, rfl, _, _, rfl, rfl, ?_⟩
          refine ⟨_, rfl, _, rfl, _, _, rfl, rfl, ?_⟩
          refine ⟨some (.int ((lo : Int) + (i : Int))), some (.int (2 * ((true.toNat : Nat) : Int) - 1)), ?_, s3, ?_⟩
          · rw [show lo + (i + 1) = lo + i + 1 by omega, os, hs]
            have e1 : ht bs (lo + i) - ht bs lo + (2 * ((true.toNat : Nat) : Int) - 1) = ht bs (lo + i) + 2 * ((1 : Nat) : Int) - 1 - ht bs lo := by
              show ht bs (lo + i) - ht bs lo + (2 * ((1 : Nat) : Int) - 1) = _
              omega
            exact congrArg (fun z => [some (V.ref o), some (V.int (lo : Nat)), some (V.int (hi : Nat)), some (V.ref l), some (V.int ((op bs (lo + i) : Nat) + 1)), some (V.int z), some (V.int ((lo : Int) + (i : Int))), some (V.int (2 * ((true.toNat : Nat) : Int) - 1))]) e1
          · rw [g3, eb, if_neg (fun z => q z.2), List.append_nil]
      | false =>
        refine ⟨_, rfl, rfl, _, rfl, itD_f (by intro z; exact absurd (V.int.inj z) (by decide)) ?_⟩
        simp only [Bool.toNat_false] at hs os
        refine ⟨_, rfl, _, rfl, _, _, rfl, rfl, ?_⟩
        refine ⟨some (.int ((lo : Int) + (i : Int))), some (.int (2 * ((false.toNat : Nat) : Int) - 1)), ?_, s3, ?_⟩
        · rw [show lo + (i + 1) = lo + i + 1 by omega, os, hs]
          have e1 : ht bs (lo + i) - ht bs lo + (2 * ((false.toNat : Nat) : Int) - 1) = ht bs (lo + i) + 2 * ((0 : Nat) : Int) - 1 - ht bs lo := by
            show ht bs (lo + i) - ht bs lo + (2 * ((0 : Nat) : Int) - 1) = _
            omega
          exact congrArg (fun z => [some (V.ref o), some (V.int (lo : Nat)), some (V.int (hi : Nat)), some (V.ref l), some (V.int (op bs (lo + i) : Nat)), some (V.int z), some (V.int ((lo : Int) + (i : Int))), some (V.int (2 * ((false.toNat : Nat) : Int) - 1))]) e1
        · rw [g3, eb, if_neg (fun z => nomatch z.1), List.append_nil]
    · rintro σ H3 ⟨a, e, rfl, s3, g3⟩
      rw [show (((hi : Nat) : Int) - ((lo : Nat) : Int)).toNat = hi - lo by omega] at g3
      exact ⟨_, rfl, k l _ s3 g3⟩
theorem ok_Opened_children (T : Top K mg) (O_Opened_opening : Ok P w K mg base 5 (He.ma K (He.ga K "Opened") "opening") ["self", "k"] (sp_Opened_opening K)) (O_Opened_beside : Ok P w K mg base 5 (He.ma K (He.ga K "Opened") "beside") ["self", "low", "high"] (sp_Opened_beside K)) (O_Opened_closing : Ok P w K mg base 8 (He.ma K (He.ga K "Opened") "closing") ["self", "k"] (sp_Opened_closing K)) : Ok P w K mg base 9 (He.ma K (He.ga K "Opened") "children") ["self", "k"] (sp_Opened_children K) := by
  obtain ⟨fd_Opened_opening, F_Opened_opening, b_Opened_opening, kp_Opened_opening⟩ := O_Opened_opening.ex
  obtain ⟨fd_Opened_beside, F_Opened_beside, b_Opened_beside, kp_Opened_beside⟩ := O_Opened_beside.ex
  obtain ⟨fd_Opened_closing, F_Opened_closing, b_Opened_closing, kp_Opened_closing⟩ := O_Opened_closing.ex
  refine Ok.mk' T.f_Opened_children sc_Opened_children (fun _ _ _ _ _ _ us hl => match us, hl with | [_, _], _ => rfl) (fun vs H Q E h => ?_) (fun cdv A outer s H vs Q E hr h => ?_)
  · obtain ⟨o, x, d, n, rfl, O, wd', hn, hk, k⟩ := h
    rfl
  · obtain ⟨o, x, d, n, rfl, O, wd', hn, hk, k⟩ := h
    refine ⟨_, (pss_cons (ps_set (i := 2) sc_Opened_children.nd rfl (Or.inl rfl) (pe_op op_add (pe_meth (pv 0) T.cl_Opened T.m_Opened_opening F_Opened_opening (hr.mono (by decide)) b_Opened_opening .nil pass0 (pa_cons (pv 1) pa_nil)) pe_int))
      (pss_one (ps_ret (pe_meth (pv 0) T.cl_Opened T.m_Opened_beside F_Opened_beside (hr.mono (by decide)) b_Opened_beside .nil pass0 (pa_cons (pv 2) (pa_cons (pe_meth (pv 0) T.cl_Opened T.m_Opened_closing F_Opened_closing (hr.mono (by decide)) b_Opened_closing .nil pass0 (pa_cons (pv 1) pa_nil)) pa_nil)))))), ?_⟩
    obtain ⟨dx, p, ho, R⟩ := id O.ob
    obtain ⟨e, e1, e2, e3, e4⟩ := end_of d x n hk
    obtain ⟨c1, c2, c3, c4, c5⟩ := closes wd' hk e1 e2 e3 e4
    obtain ⟨a1, a2, a3⟩ := at_open wd' hk
    have len := row_len wd'
    refine ⟨_, rfl, o, dx, _, rfl, ho, flO_no _ _ (by decide +kernel), _, rfl, o, x, d, n, rfl, O, wd', hn, hk, fun H1 s1 => ⟨_, _, rfl, rfl, ?_⟩⟩
    refine ⟨_, rfl, o, dx, _, rfl, s1 _ _ ho, flO_no _ _ (by decide +kernel), _, rfl, _, rfl, o, dx, _, rfl, s1 _ _ ho, flO_no _ _ (by decide +kernel), _, rfl, o, x, e, d, n, rfl, O.same s1, wd', hn, hk, ⟨e1, e2, e3, e4⟩, fun H2 s2 => ?_⟩
    refine ⟨o, 2 * x - d x + 1, 2 * e - d x - 1, row d n, rfl, O.same (s1.trans s2), by omega, by omega, by omega, fun l H3 s3 h3 => ?_⟩
    rw [beside_kids wd' hk e1 e2 e3 e4] at h3
    exact k l _ ((s1.trans s2).trans s3) h3
theorem ok_Opened_many (T : Top K mg) (O_Opened_children : Ok P w K mg base 9 (He.ma K (He.ga K "Opened") "children") ["self", "k"] (sp_Opened_children K)) : Ok P w K mg base 10 (He.ma K (He.ga K "Opened") "many") ["self", "k"] (sp_Opened_many K) := by
  obtain ⟨fd_Opened_children, F_Opened_children, b_Opened_children, kp_Opened_children⟩ := O_Opened_children.ex
  refine Ok.mk' T.f_Opened_many sc_Opened_many (fun _ _ _ _ _ _ us hl => match us, hl with | [_, _], _ => rfl) (fun vs H Q E h => ?_) (fun cdv A outer s H vs Q E hr h => ?_)
  · obtain ⟨o, x, d, n, rfl, O, wd', hn, hk, k⟩ := h
    rfl
  · obtain ⟨o, x, d, n, rfl, O, wd', hn, hk, k⟩ := h
    refine ⟨_, (pss_one (ps_ret (pe_callB call_len_seq (by rfl) T.b_len PySem.boot_len (pa_cons (pe_meth (pv 0) T.cl_Opened T.m_Opened_children F_Opened_children (hr.mono (by decide)) b_Opened_children .nil pass0 (pa_cons (pv 1) pa_nil)) pa_nil)))), ?_⟩
    obtain ⟨dx, p, ho, R⟩ := id O.ob
    refine ⟨_, rfl, o, dx, _, rfl, ho, flO_no _ _ (by decide +kernel), _, rfl, o, x, d, n, rfl, O, wd', hn, hk, fun l H1 s1 h1 => ?_⟩
    refine ⟨l, _, rfl, .inl (SqL.of h1), ?_⟩
    rw [vi_len]
    exact k _ s1
theorem ok_Opened_nth (T : Top K mg) (O_one_of : Ok P w K mg base 2 (He.ga K "one_of") ["some", "i"] (sp_one_of K)) (O_Opened_children : Ok P w K mg base 9 (He.ma K (He.ga K "Opened") "children") ["self", "k"] (sp_Opened_children K)) : Ok P w K mg base 10 (He.ma K (He.ga K "Opened") "nth") ["self", "k", "i"] (sp_Opened_nth K) := by
  obtain ⟨fd_one_of, F_one_of, b_one_of, kp_one_of⟩ := O_one_of.ex
  obtain ⟨fd_Opened_children, F_Opened_children, b_Opened_children, kp_Opened_children⟩ := O_Opened_children.ex
  refine Ok.mk' T.f_Opened_nth sc_Opened_nth (fun _ _ _ _ _ _ us hl => match us, hl with | [_, _, _], _ => rfl) (fun vs H Q E h => ?_) (fun cdv A outer s H vs Q E hr h => ?_)
  · obtain ⟨o, x, i, d, n, rfl, O, wd', hn, hk, h0, k⟩ := h
    rfl
  · obtain ⟨o, x, i, d, n, rfl, O, wd', hn, hk, h0, k⟩ := h
    refine ⟨_, (pss_one (ps_ret (pe_call F_one_of (hr.mono (by decide)) rfl T.g_one_of kp_one_of b_one_of .nil pass0 (pa_cons (pe_meth (pv 0) T.cl_Opened T.m_Opened_children F_Opened_children (hr.mono (by decide)) b_Opened_children .nil pass0 (pa_cons (pv 1) pa_nil)) (pa_cons (pv 2) pa_nil))))), ?_⟩
    obtain ⟨dx, p, ho, R⟩ := id O.ob
    refine ⟨_, rfl, o, dx, _, rfl, ho, flO_no _ _ (by decide +kernel), _, rfl, o, x, d, n, rfl, O, wd', hn, hk, fun l H1 s1 h1 => ?_⟩
    exact ⟨_, rfl, l, i, _, rfl, h1, h0, k _ s1⟩
theorem ok_Opened_top (T : Top K mg) (O_one_of : Ok P w K mg base 2 (He.ga K "one_of") ["some", "i"] (sp_one_of K)) (O_Opened_beside : Ok P w K mg base 5 (He.ma K (He.ga K "Opened") "beside") ["self", "low", "high"] (sp_Opened_beside K)) (O_Pairs_size : Ok P w K mg base 2 (He.ma K (He.ga K "Pairs") "size") ["self"] (sp_Pairs_size K)) : Ok P w K mg base 6 (He.ma K (He.ga K "Opened") "top") ["self", "i"] (sp_Opened_top K) := by
  obtain ⟨fd_one_of, F_one_of, b_one_of, kp_one_of⟩ := O_one_of.ex
  obtain ⟨fd_Opened_beside, F_Opened_beside, b_Opened_beside, kp_Opened_beside⟩ := O_Opened_beside.ex
  obtain ⟨fd_Pairs_size, F_Pairs_size, b_Pairs_size, kp_Pairs_size⟩ := O_Pairs_size.ex
  refine Ok.mk' T.f_Opened_top sc_Opened_top (fun _ _ _ _ _ _ us hl => match us, hl with | [_, _], _ => rfl) (fun vs H Q E h => ?_) (fun cdv A outer s H vs Q E hr h => ?_)
  · obtain ⟨o, i, d, n, rfl, O, wd', hn, h0, k⟩ := h
    rfl
  · obtain ⟨o, i, d, n, rfl, O, wd', hn, h0, k⟩ := h
    refine ⟨_, (pss_one (ps_ret (pe_call F_one_of (hr.mono (by decide)) rfl T.g_one_of kp_one_of b_one_of .nil pass0 (pa_cons (pe_meth (pv 0) T.cl_Opened T.m_Opened_beside F_Opened_beside (hr.mono (by decide)) b_Opened_beside .nil pass0 (pa_cons pe_int (pa_cons (pe_meth0 (pe_fld (pv 0) rfl) T.cl_Pairs T.m_Pairs_size F_Pairs_size (hr.mono (by decide)) b_Pairs_size .nil pass0) pa_nil))) (pa_cons (pv 1) pa_nil))))), ?_⟩
    obtain ⟨dx, p, ho, R⟩ := id O.ob
    obtain ⟨dxp, b, t, c, l', hp, _⟩ := id R.ob
    have len := row_len wd'
    refine ⟨_, rfl, o, dx, _, rfl, ho, flO_no _ _ (by decide +kernel), _, rfl, o, CO K, dx, _, _, rfl, ho, T.cl_Opened, T.n_Opened_pairs, rfl, p, dxp, _, rfl, hp, flP_no _ _ _ _ _ (by decide +kernel), p, _, rfl, R, o, 0, (row d n).length, _, rfl, O, by omega, by omega, by omega, fun l H1 s1 h1 => ?_⟩
    rw [len, Nat.sub_zero, beside_tops wd'] at h1
    exact ⟨_, rfl, l, i, _, rfl, h1, h0, k _ s1⟩
theorem ok_Opened_many_tops (T : Top K mg) (O_Opened_beside : Ok P w K mg base 5 (He.ma K (He.ga K "Opened") "beside") ["self", "low", "high"] (sp_Opened_beside K)) (O_Pairs_size : Ok P w K mg base 2 (He.ma K (He.ga K "Pairs") "size") ["self"] (sp_Pairs_size K)) : Ok P w K mg base 6 (He.ma K (He.ga K "Opened") "many_tops") ["self"] (sp_Opened_many_tops K) := by
  obtain ⟨fd_Opened_beside, F_Opened_beside, b_Opened_beside, kp_Opened_beside⟩ := O_Opened_beside.ex
  obtain ⟨fd_Pairs_size, F_Pairs_size, b_Pairs_size, kp_Pairs_size⟩ := O_Pairs_size.ex
  refine Ok.mk' T.f_Opened_many_tops sc_Opened_many_tops (fun _ _ _ _ _ _ us hl => match us, hl with | [_], _ => rfl) (fun vs H Q E h => ?_) (fun cdv A outer s H vs Q E hr h => ?_)
  · obtain ⟨o, d, n, rfl, O, wd', hn, k⟩ := h
    rfl
  · obtain ⟨o, d, n, rfl, O, wd', hn, k⟩ := h
    refine ⟨_, (pss_one (ps_ret (pe_callB call_len_seq (by rfl) T.b_len PySem.boot_len (pa_cons (pe_meth (pv 0) T.cl_Opened T.m_Opened_beside F_Opened_beside (hr.mono (by decide)) b_Opened_beside .nil pass0 (pa_cons pe_int (pa_cons (pe_meth0 (pe_fld (pv 0) rfl) T.cl_Pairs T.m_Pairs_size F_Pairs_size (hr.mono (by decide)) b_Pairs_size .nil pass0) pa_nil))) pa_nil)))), ?_⟩
    obtain ⟨dx, p, ho, R⟩ := id O.ob
    obtain ⟨dxp, b, t, c, l', hp, _⟩ := id R.ob
    have len := row_len wd'
    refine ⟨_, rfl, o, dx, _, rfl, ho, flO_no _ _ (by decide +kernel), _, rfl, o, CO K, dx, _, _, rfl, ho, T.cl_Opened, T.n_Opened_pairs, rfl, p, dxp, _, rfl, hp, flP_no _ _ _ _ _ (by decide +kernel), p, _, rfl, R, o, 0, (row d n).length, _, rfl, O, by omega, by omega, by omega, fun l H1 s1 h1 => ?_⟩
    rw [len, Nat.sub_zero, beside_tops wd'] at h1
    refine ⟨l, _, rfl, .inl (SqL.of h1), ?_⟩
    rw [vi_len]
    exact k _ s1
theorem ok_Opened_beneath (T : Top K mg) (O_Opened_closing : Ok P w K mg base 8 (He.ma K (He.ga K "Opened") "closing") ["self", "k"] (sp_Opened_closing K)) (O_Opened_opening : Ok P w K mg base 5 (He.ma K (He.ga K "Opened") "opening") ["self", "k"] (sp_Opened_opening K)) : Ok P w K mg base 9 (He.ma K (He.ga K "Opened") "beneath") ["self", "k"] (sp_Opened_beneath K) := by
  obtain ⟨fd_Opened_closing, F_Opened_closing, b_Opened_closing, kp_Opened_closing⟩ := O_Opened_closing.ex
  obtain ⟨fd_Opened_opening, F_Opened_opening, b_Opened_opening, kp_Opened_opening⟩ := O_Opened_opening.ex
  refine Ok.mk' T.f_Opened_beneath sc_Opened_beneath (fun _ _ _ _ _ _ us hl => match us, hl with | [_, _], _ => rfl) (fun vs H Q E h => ?_) (fun cdv A outer s H vs Q E hr h => ?_)
  · obtain ⟨o, x, d, n, rfl, O, wd', hn, hk, k⟩ := h
    rfl
  · obtain ⟨o, x, d, n, rfl, O, wd', hn, hk, k⟩ := h
    refine ⟨_, (pss_one (ps_ret (pe_op op_fdiv (pe_op op_sub (pe_op op_sub (pe_meth (pv 0) T.cl_Opened T.m_Opened_closing F_Opened_closing (hr.mono (by decide)) b_Opened_closing .nil pass0 (pa_cons (pv 1) pa_nil)) (pe_meth (pv 0) T.cl_Opened T.m_Opened_opening F_Opened_opening (hr.mono (by decide)) b_Opened_opening .nil pass0 (pa_cons (pv 1) pa_nil))) pe_int) pe_int))), ?_⟩
    obtain ⟨dx, p, ho, R⟩ := id O.ob
    obtain ⟨e, e1, e2, e3, e4⟩ := end_of d x n hk
    obtain ⟨c1, c2, c3, c4, c5⟩ := closes wd' hk e1 e2 e3 e4
    obtain ⟨a1, a2, a3⟩ := at_open wd' hk
    refine ⟨_, rfl, o, dx, _, rfl, ho, flO_no _ _ (by decide +kernel), _, rfl, o, x, e, d, n, rfl, O, wd', hn, hk, ⟨e1, e2, e3, e4⟩, fun H1 s1 => ?_⟩
    refine ⟨_, rfl, o, dx, _, rfl, s1 _ _ ho, flO_no _ _ (by decide +kernel), _, rfl, o, x, d, n, rfl, O.same s1, wd', hn, hk, fun H2 s2 => ?_⟩
    refine ⟨_, _, rfl, rfl, _, _, rfl, rfl, _, _, rfl, rfl, ⟨by decide, by decide⟩, ?_⟩
    dsimp only
    have ue := under_is wd' e1 e2 e3 e4
    rw [show (((2 * e - d x - 1 : Nat) : Int) - ((2 * x - d x : Nat) : Int) - 1) / 2 = ((under d x n : Nat) : Int) by omega]
    exact k _ (s1.trans s2)
theorem ok_Opened_depth (T : Top K mg) (O_Pairs_depth : Ok P w K mg base 5 (He.ma K (He.ga K "Pairs") "depth") ["self", "place"] (sp_Pairs_depth K)) (O_Opened_opening : Ok P w K mg base 5 (He.ma K (He.ga K "Opened") "opening") ["self", "k"] (sp_Opened_opening K)) : Ok P w K mg base 6 (He.ma K (He.ga K "Opened") "depth") ["self", "k"] (sp_Opened_depth K) := by
  obtain ⟨fd_Pairs_depth, F_Pairs_depth, b_Pairs_depth, kp_Pairs_depth⟩ := O_Pairs_depth.ex
  obtain ⟨fd_Opened_opening, F_Opened_opening, b_Opened_opening, kp_Opened_opening⟩ := O_Opened_opening.ex
  refine Ok.mk' T.f_Opened_depth sc_Opened_depth (fun _ _ _ _ _ _ us hl => match us, hl with | [_, _], _ => rfl) (fun vs H Q E h => ?_) (fun cdv A outer s H vs Q E hr h => ?_)
  · obtain ⟨o, x, d, n, rfl, O, wd', hn, hk, k⟩ := h
    rfl
  · obtain ⟨o, x, d, n, rfl, O, wd', hn, hk, k⟩ := h
    refine ⟨_, (pss_one (ps_ret (pe_meth (pe_fld (pv 0) rfl) T.cl_Pairs T.m_Pairs_depth F_Pairs_depth (hr.mono (by decide)) b_Pairs_depth .nil pass0 (pa_cons (pe_meth (pv 0) T.cl_Opened T.m_Opened_opening F_Opened_opening (hr.mono (by decide)) b_Opened_opening .nil pass0 (pa_cons (pv 1) pa_nil)) pa_nil)))), ?_⟩
    obtain ⟨dx, p, ho, R⟩ := id O.ob
    obtain ⟨dxp, b, t, c, l', hp, _⟩ := id R.ob
    obtain ⟨a1, a2, a3⟩ := at_open wd' hk
    have len := row_len wd'
    refine ⟨_, rfl, o, CO K, dx, _, _, rfl, ho, T.cl_Opened, T.n_Opened_pairs, rfl, p, dxp, _, rfl, hp, flP_no _ _ _ _ _ (by decide +kernel), _, rfl, o, dx, _, rfl, ho, flO_no _ _ (by decide +kernel), _, rfl, o, x, d, n, rfl, O, wd', hn, hk, fun H1 s1 => ?_⟩
    refine ⟨p, 2 * x - d x, row d n, rfl, R.same s1, by omega, row_one wd' hk, fun H2 s2 => ?_⟩
    rw [a3]
    exact k _ (s1.trans s2)
end
end Tw
namespace Tw
open PySem PySem.Spec PyProof.Rows L2
theorem ps_imp {X : Cx} {s : Stmt} {t t1 : TS} (h : PS X s t) (i : ∀ D σ H, t1 D σ H → t D σ H) : PS X s t1 := ⟨fun pins st σ H D I q => h.run pins st σ H D I (i D σ H q)⟩
/-- how far up: a number below the way's length -/
def tUp : TS := fun D σ H => ∃ (c lf k : Int) (v1 v2 v6 v7 : Option V) (wa : Addr) (ws : List Int), σ = [some (.int c), v1, v2, some (.ref wa), some (.int lf), some (.int k), v6, v7] ∧ 0 ≤ k ∧ k ≤ 100 ∧ 0 ≤ lf ∧ H wa = some (.lst (vi ws)) ∧ 0 < ws.length ∧ ws.length ≤ 1000 ∧
  ∀ (up lf' : Int) (b : Option V) (H' : Hp), 0 ≤ up → up < ws.length → 0 ≤ lf' → Same H H' → D.nx [some (.int c), v1, v2, some (.ref wa), some (.int lf'), some (.int k), some (.int up), b] H'
/-- the law's way ahead of knot k -/
def wl (d : Nat → Nat) (k : Nat) : List Int := (List.range (hh d k + 1)).map fun v => pa d v k
theorem wl_len {d : Nat → Nat} {k : Nat} : (wl d k).length = hh d k + 1 := by simp [wl]
/-- d with x at k -/
def dset (d : Nat → Nat) (k x : Nat) : Nat → Nat := fun j => if j = k then x else d j
theorem dset_lt {d : Nat → Nat} {k x j : Nat} (h : j < k) : dset d k x j = d j := if_neg (by omega)
theorem dset_at {d : Nat → Nat} {k x : Nat} : dset d k x k = x := if_pos rfl
theorem dset_wd {d : Nat → Nat} {k x : Nat} (w : Wd d k) (h : x ≤ hh d k) : Wd (dset d k x) (k + 1) := by
  intro j hj
  by_cases q : j = k
  · subst q
    rw [dset_at, ← hh_congr fun i hi => (dset_lt hi).symm]
    exact h
  · rw [dset_lt (by omega), ← hh_congr (d := d) fun i hi => (dset_lt (by omega)).symm]
    exact w j (by omega)
theorem dset_el {d : Nat → Nat} {k x : Nat} : el (dset d k x) k = pa d x k := by
  unfold el
  rw [dset_at]
  exact pa_congr k fun j hj => dset_lt hj
theorem dset_els {d : Nat → Nat} {k x : Nat} : els (dset d k x) (k + 1) = els d k ++ [pa d x k] := by
  rw [els_succ, dset_el]
  congr 1
  unfold els
  apply List.map_congr_left
  intro j hj
  rw [List.mem_range] at hj
  unfold el
  rw [dset_lt hj]
  exact pa_congr j fun i hi => dset_lt (by omega)
theorem dset_wl {d : Nat → Nat} {k x : Nat} : wl (dset d k x) (k + 1) = (List.range (x + 1)).map (fun v => pa d v k) ++ [(k : Int)] := by
  unfold wl
  show (List.range (dset d k x k + 1 + 1)).map _ = _
  rw [dset_at, List.range_succ, List.map_append]
  congr 1
  · apply List.map_congr_left
    intro v hv
    rw [List.mem_range] at hv
    show (if dset d k x k + 1 = v then (k : Int) else pa (dset d k x) v k) = _
    rw [dset_at, if_neg (by omega)]
    exact pa_congr k fun j hj => dset_lt hj
  · show [if dset d k x k + 1 = x + 1 then (k : Int) else pa (dset d k x) (x + 1) k] = _
    rw [dset_at, if_pos rfl]
theorem wl_take {d : Nat → Nat} {k x : Nat} (h : x ≤ hh d k) : (wl d k).take (x + 1) = (List.range (x + 1)).map fun v => pa d v k := by
  unfold wl
  rw [← List.map_take, List.take_range, Nat.min_eq_left (by omega)]
section
variable {K : PySem.W.Frag} {mg : Str → Option Value} {P : Program} {w : World} {base : Heap}
theorem ok_l_cell_at (T : Top K mg) : Ok P w K mg base 1 (He.ga K "_law_cell_at") ["_law_script", "_law_k"] (sp_l_cell_at K) := by
  refine Ok.mk' T.f_l_cell_at sc_l_cell_at (fun _ _ _ _ _ _ us hl => match us, hl with | [_, _], _ => rfl) (fun vs H Q E h => ?_) (fun cdv A outer s H vs Q E hr h => ?_)
  · obtain ⟨a, i, ns, rfl, hS, h0, k⟩ := h
    rfl
  · obtain ⟨a, i, ns, rfl, hS, h0, k⟩ := h
    refine ⟨_, (pss_cons (ps_if (pt_cmpR op_lt (pv 1) (pe_callB call_len_seq (by rfl) T.b_len PySem.boot_len (pa_cons (pv 0) pa_nil)) (nomark _)) (pss_one (ps_ret (pe_ix ix_list (pv 0) (pv 1) (fun _ _ => rfl)))) pss_nil)
      (pss_one (ps_ret pe_int))), ?_⟩
    refine ⟨_, rfl, _, rfl, a, _, rfl, .inl hS, _, _, rfl, rfl, _, rfl, ?_⟩
    by_cases q : i < ((vi ns).length : Nat)
    · refine itD_t q ?_
      rw [vi_len] at q
      have hx : ns[i.toNat]? = some ns[i.toNat] := List.getElem?_eq_getElem (by omega)
      exact ⟨_, rfl, _, rfl, a, _, _, _, rfl, rfl, hS, at_of (j := i.toNat) (by omega) (vi_get hx), k _⟩
    · exact itD_f q (k 0)
theorem ok_l_mixed (T : Top K mg) : Ok P w K mg base 1 (He.ga K "_law_mixed") ["_law_cell", "_law_k"] (sp_l_mixed K) := by
  refine Ok.mk' T.f_l_mixed sc_l_mixed (fun _ _ _ _ _ _ us hl => match us, hl with | [_, _], _ => rfl) (fun vs H Q E h => ?_) (fun cdv A outer s H vs Q E hr h => ?_)
  · obtain ⟨c, i, rfl, h0, h1, k⟩ := h
    rfl
  · obtain ⟨c, i, rfl, h0, h1, k⟩ := h
    refine ⟨_, (pss_cons (ps_set (i := 2) sc_l_mixed.nd rfl (Or.inl rfl) (pe_op op_mod (pe_op op_mul (pe_op op_add (pe_op op_add (pe_op op_add (pe_op op_mod (pv 0) pe_int) (pe_op op_mul (pe_op op_mul pe_int (pv 1)) (pv 1))) (pe_op op_mul pe_int (pv 1))) pe_int) pe_int) pe_int))
      (pss_cons (ps_set (i := 2) sc_l_mixed.nd rfl (Or.inl rfl) (pe_op op_mod (pe_op op_mul (pe_op op_add (pv 2) (pe_op op_mul pe_int (pv 1))) pe_int) pe_int))
      (pss_one (ps_ret (pe_op op_mod (pe_op op_mul (pv 2) pe_int) pe_int))))), ?_⟩
    refine ⟨_, rfl, _, _, rfl, rfl, (by show (0 : Int) < 2147483647; decide), _, rfl, _, _, rfl, rfl, .inl ⟨by decide, by decide⟩, _, rfl, _, _, rfl, rfl, .inr ⟨by omega, by omega⟩, _, _, rfl, rfl, _, rfl, _, _, rfl, rfl, .inl ⟨by decide, by decide⟩, _, _, rfl, rfl, _, _, rfl, rfl, _, _, rfl, rfl, .inr ⟨by decide, by decide⟩, _, _, rfl, rfl, (by show (0 : Int) < 2147483647; decide), ?_⟩
    refine ⟨_, rfl, _, rfl, _, _, rfl, rfl, .inl ⟨by decide, by decide⟩, _, _, rfl, rfl, _, _, rfl, rfl, .inr ⟨by decide, by decide⟩, _, _, rfl, rfl, (by show (0 : Int) < 2147483629; decide), ?_⟩
    refine ⟨_, rfl, _, _, rfl, rfl, .inr ⟨by decide, by decide⟩, _, _, rfl, rfl, (by show (0 : Int) < 2147483647; decide), ?_⟩
    exact k _ (Int.emod_nonneg _ (by decide)) (Int.emod_lt_of_pos _ (by decide))
theorem ok_l_elders (T : Top K mg) (O_l_mixed : Ok P w K mg base 1 (He.ga K "_law_mixed") ["_law_cell", "_law_k"] (sp_l_mixed K)) : Ok P w K mg base 2 (He.ga K "_law_elders") ["_law_cell", "_law_many"] (sp_l_elders K) := by
  obtain ⟨fd_l_mixed, F_l_mixed, b_l_mixed, kp_l_mixed⟩ := O_l_mixed.ex
  refine Ok.mk' T.f_l_elders sc_l_elders (fun _ _ _ _ _ _ us hl => match us, hl with | [_, _], _ => rfl) (fun vs H Q E h => ?_) (fun cdv A outer s H vs Q E hr h => ?_)
  · obtain ⟨c, m, rfl, hm, k⟩ := h
    rfl
  · obtain ⟨c, m, rfl, hm, k⟩ := h
    refine ⟨_, (pss_cons (ps_set (i := 2) sc_l_elders.nd rfl (Or.inl rfl) (pe_lst pa_nil))
      (pss_cons (ps_set (i := 3) sc_l_elders.nd rfl (Or.inl rfl) (pe_lst (pa_cons (pe_un un_neg pe_int) pa_nil)))
      (pss_cons (ps_set (i := 4) sc_l_elders.nd rfl (Or.inl rfl) (pe_op op_fdiv (pe_callB call_abs (by rfl) T.b_abs (by decide +kernel) (pa_cons (pv 0) pa_nil)) pe_int))
      (pss_cons (ps_for PassesOwn.never rfl (pi_range1 rfl T.b_range (pa_cons (pv 1) pa_nil)) (pg_name (i := 5) sc_l_elders.nd rfl (Or.inl rfl)) (pss_cons (ps_imp (t1 := tUp) (ps_if (PW.pt (pw_and (pt_cmpR op_eq (pe_op op_mod (pv 0) pe_int) pe_int (nomark _)) (pw_and1 (pt_cmpR op_gt (pv 4) pe_int (nomark _))))) (pss_cons (ps_set (i := 6) sc_l_elders.nd rfl (Or.inl rfl) (pe_op op_mod (pv 4) (pe_callB call_len_seq (by rfl) T.b_len PySem.boot_len (pa_cons (pv 3) pa_nil))))
      (pss_one (ps_set (i := 4) sc_l_elders.nd rfl (Or.inl rfl) (pe_op op_fdiv (pv 4) (pe_callB call_len_seq (by rfl) T.b_len PySem.boot_len (pa_cons (pv 3) pa_nil)))))) (pss_cons (ps_set (i := 7) sc_l_elders.nd rfl (Or.inl rfl) (pe_call F_l_mixed (hr.mono (by decide)) rfl T.g_l_mixed kp_l_mixed b_l_mixed .nil pass0 (pa_cons (pv 0) (pa_cons (pv 5) pa_nil))))
      (pss_one (ps_set (i := 6) sc_l_elders.nd rfl (Or.inl rfl) (pe_op op_mod (pe_ix ix_list (pe_lst (pa_cons pe_int (pa_cons pe_int (pa_cons pe_int (pa_cons pe_int (pa_cons pe_int (pa_cons (pe_op op_fdiv (pv 7) pe_int) pa_nil))))))) (pe_op op_mod (pe_op op_fdiv (pv 7) pe_int) pe_int) (fun _ _ => rfl)) (pe_callB call_len_seq (by rfl) T.b_len PySem.boot_len (pa_cons (pv 3) pa_nil))))))) ?up)
      (pss_cons (ps_set (i := 3) sc_l_elders.nd rfl (Or.inl rfl) (pe_slice sl_list (pv 3) po_none (po_some (pe_op op_sub (pe_callB call_len_seq (by rfl) T.b_len PySem.boot_len (pa_cons (pv 3) pa_nil)) (pv 6)))))
      (pss_cons (ps_expr (pe_bm PySem.F.plainAttrs_list PySem.F.slot_list_append PySem.F.type_list_append mt_append (pv 2) (pa_cons (pe_ix ix_list (pv 3) (pe_un un_neg pe_int) (fun _ _ => rfl)) pa_nil)))
      (pss_one (ps_expr (pe_bm PySem.F.plainAttrs_list PySem.F.slot_list_append PySem.F.type_list_append mt_append (pv 3) (pa_cons (pv 5) pa_nil))))))))
      (pss_one (ps_ret (pv 2))))))), ?_⟩
    case up =>
      rintro D σ H ⟨c, lf, i, v1, v2, v6, v7, wa, ws, rfl, h0, h100, hlf, hw, hp, hz, k⟩
      have hbr : ∀ H2 : Hp, Same H H2 → SqL K H2 wa (vi ws) := fun H2 s2 => SqL.of (s2 _ _ hw)
      refine ⟨_, rfl, _, _, rfl, rfl, (by show (0 : Int) < 2; decide), rfl, _, rfl, ?_⟩
      have mixed : ∀ (Z : Prop), Z → Z := fun _ z => z
      have lenp : (0 : Int) < ((vi ws).length : Nat) := by rw [vi_len]; omega
      have lenl : (((vi ws).length : Nat) : Int) < 1073741824 := by rw [vi_len]; omega
      by_cases q : V.int (c % 2) = V.int 0
      · refine itD_t q ?_
        refine ⟨_, rfl, _, _, rfl, rfl, _, rfl, ?_⟩
        by_cases q2 : (1 : Int) < lf
        · rw [decide_eq_true q2]
          refine iteT ?_
          refine ⟨_, rfl, _, rfl, wa, _, rfl, .inl (hbr _ (Same.refl _)), _, _, rfl, rfl, lenp, ?_⟩
          refine ⟨_, rfl, _, rfl, wa, _, rfl, .inl (hbr _ (Same.refl _)), _, _, rfl, rfl, ⟨lenp, lenl⟩, ?_⟩
          refine k _ _ _ H (Int.emod_nonneg _ (by omega)) ?_ (Int.ediv_nonneg hlf (by omega)) (Same.refl _)
          rw [← vi_len (xs := ws)]
          exact Int.emod_lt_of_pos _ lenp
        · rw [decide_eq_false q2]
          refine iteF ?_
          refine ⟨_, rfl, _, rfl, c, i, rfl, h0, h100, fun z z0 z1 => ?_⟩
          refine ⟨_, rfl, _, _, rfl, rfl, ⟨by decide, by decide⟩, (by show 6 ≤ sizeLine; decide), fun t nt => ?_⟩
          have hj : (vi [0, 0, 1, 1, 2, z / 42])[(z / 7 % 6).toNat]? = some (V.int ([0, 0, 1, 1, 2, z / 42][(z / 7 % 6).toNat]'(by show _ < 6; omega))) := vi_get (List.getElem?_eq_getElem _)
          refine ⟨_, rfl, _, _, rfl, rfl, ⟨by decide, by decide⟩, _, _, rfl, rfl, (by show (0 : Int) < 6; decide), t, _, _, _, rfl, rfl, SqL.of upd_same, at_of (j := (z / 7 % 6).toNat) (by omega) hj, ?_⟩
          refine ⟨_, rfl, wa, _, rfl, .inl (hbr _ (same_upd nt)), _, _, rfl, rfl, lenp, ?_⟩
          refine k _ _ _ _ (Int.emod_nonneg _ (by omega)) ?_ hlf (same_upd nt)
          rw [← vi_len (xs := ws)]
          exact Int.emod_lt_of_pos _ lenp
      · refine itD_f q ?_
        refine iteF ?_
        refine ⟨_, rfl, _, rfl, c, i, rfl, h0, h100, fun z z0 z1 => ?_⟩
        refine ⟨_, rfl, _, _, rfl, rfl, ⟨by decide, by decide⟩, (by show 6 ≤ sizeLine; decide), fun t nt => ?_⟩
        have hj : (vi [0, 0, 1, 1, 2, z / 42])[(z / 7 % 6).toNat]? = some (V.int ([0, 0, 1, 1, 2, z / 42][(z / 7 % 6).toNat]'(by show _ < 6; omega))) := vi_get (List.getElem?_eq_getElem _)
        refine ⟨_, rfl, _, _, rfl, rfl, ⟨by decide, by decide⟩, _, _, rfl, rfl, (by show (0 : Int) < 6; decide), t, _, _, _, rfl, rfl, SqL.of upd_same, at_of (j := (z / 7 % 6).toNat) (by omega) hj, ?_⟩
        refine ⟨_, rfl, wa, _, rfl, .inl (hbr _ (same_upd nt)), _, _, rfl, rfl, lenp, ?_⟩
        refine k _ _ _ _ (Int.emod_nonneg _ (by omega)) ?_ hlf (same_upd nt)
        rw [← vi_len (xs := ws)]
        exact Int.emod_lt_of_pos _ lenp
    -- found = []; way = [-1]; left = abs(cell) // 2
    refine ⟨Nat.zero_le _, fun l nl => ?_⟩
    refine ⟨_, rfl, by decide, fun w0 nw0 => ?_⟩
    have s0 : Same H (upd (upd H l (.lst [])) w0 (.lst [.int (-1)])) := (same_upd nl).trans (same_upd nw0)
    have nlw : l ≠ w0 := fun z => by rw [← z, upd_same] at nw0; cases nw0
    have nw00 : H w0 = none := by
      rw [upd_ne (Ne.symm nlw)] at nw0
      exact nw0
    refine ⟨_, rfl, _, rfl, _, _, rfl, rfl, ⟨by decide, by decide⟩, ?_⟩
    refine ⟨_, rfl, _, rfl, by omega, by omega, for_range (lo := 0) (n := ((m : Nat) : Int).toNat) (fun i σ H3 => ∃ (d : Nat → Nat) (wa : Addr) (lf : Int) (x y z : Option V), σ = [some (.int c), some (.int (m : Nat)), some (.ref l), some (.ref wa), some (.int lf), x, y, z] ∧ Same H H3 ∧ Wd d i ∧ H3 l = some (.lst (vi (els d i))) ∧ H3 wa = some (.lst (vi (wl d i))) ∧ 0 ≤ lf ∧ l ≠ wa ∧ H wa = none) ⟨fun _ => 0, w0, _, none, none, none, rfl, s0, fun j hj => by omega, by rw [upd_ne nlw, upd_same]; rfl, upd_same, ?_, nlw, nw00⟩ ?_ ?_⟩
    · refine Int.ediv_nonneg ?_ (by decide)
      split <;> omega
    · rintro i σ H3 hi ⟨d, wa, lf, x, y, z, rfl, s3, wd', gl, gw, hlf, nla, nwa⟩
      rw [Int.toNat_natCast] at hi
      have hle := hh_le wd' (Nat.le_refl i)
      refine ⟨c, lf, 0 + (i : Int), _, _, _, _, wa, wl d i, rfl, by omega, by omega, hlf, gw, by rw [wl_len]; omega, by rw [wl_len]; omega, fun up lf' b H4 u0 u1 l0 s4 => ?_⟩
      rw [wl_len] at u1
      have gl4 := s4 _ _ gl
      have gw4 := s4 _ _ gw
      -- way = way[:len(way) - up]
      refine ⟨_, rfl, _, rfl, wa, _, rfl, .inl (SqL.of gw4), _, rfl, _, _, rfl, rfl, _, rfl, wa, _, rfl, SqL.of gw4, fun w2 n2 => ?_⟩
      obtain ⟨x, hx⟩ : ∃ x : Nat, (((vi (wl d i)).length : Nat) : Int) - up = ((x + 1 : Nat) : Int) ∧ x ≤ hh d i := ⟨(hh d i - up).toNat, by rw [vi_len, wl_len]; omega, by omega⟩
      have ec : cutV (vi (wl d i)) none (some ((((vi (wl d i)).length : Nat) : Int) - up)) = vi ((List.range (x + 1)).map fun v => pa d v i) := by
        rw [hx.1]
        unfold cutV
        rw [HT.sIx_none, HT.sIx_nat, List.drop_zero, Nat.sub_zero, Nat.min_eq_left (by rw [vi_len, wl_len]; omega), vi_take, wl_take hx.2]
      rw [ec]
      have n2H : H w2 = none := s3.free (s4.free n2)
      have nl2 : l ≠ w2 := fun z => by rw [← z, gl4] at n2; cases n2
      have e2 : (List.range (x + 1)).map (fun v => pa d v i) = (List.range x).map (fun v => pa d v i) ++ [pa d x i] := by rw [List.range_succ, List.map_append]; rfl
      have g2 : (upd H4 w2 (.lst (vi ((List.range (x + 1)).map fun v => pa d v i)))) w2 = some (.lst (vi ((List.range x).map fun v => pa d v i) ++ [V.int (pa d x i)])) := by
        rw [upd_same, e2, ← vi_app]
      have gl5 : (upd H4 w2 (.lst (vi ((List.range (x + 1)).map fun v => pa d v i)))) l = some (.lst (vi (els d i))) := by
        rw [upd_ne nl2]
        exact gl4
      have s5 : Same H (upd H4 w2 (.lst (vi ((List.range (x + 1)).map fun v => pa d v i)))) := (s3.trans s4).trans (same_upd n2)
      generalize upd H4 w2 (.lst (vi ((List.range (x + 1)).map fun v => pa d v i))) = H5 at *
      refine ⟨_, rfl, .inl ⟨rfl, _, SqL.of gl5⟩, _, rfl, _, rfl, w2, _, _, _, rfl, rfl, SqL.of g2, atI_last _ _, l, _, _, rfl, rfl, gl5, by rw [vi_len, els_len]; exact small1000 (by omega), ?_⟩
      have g6 : (upd H5 l (.lst (vi (els d i) ++ [V.int (pa d x i)]))) w2 = some (.lst (vi ((List.range x).map fun v => pa d v i) ++ [V.int (pa d x i)])) := by
        rw [upd_ne (Ne.symm nl2)]
        exact g2
      refine ⟨_, rfl, .inl ⟨rfl, _, SqL.of g6⟩, _, rfl, w2, _, _, rfl, rfl, g6, ?_, ?_⟩
      · rw [List.length_append, vi_len, List.length_map, List.length_range]
        exact small1000 (by show x + 1 ≤ 1000; omega)
      · refine ⟨dset d i x, w2, lf', _, _, _, rfl, fun b o hb => ?_, dset_wd wd' hx.2, ?_, ?_, l0, nl2, n2H⟩
        · rw [upd_ne (fun q => by rw [q, n2H] at hb; cases hb), upd_ne (fun q => by rw [q, nl] at hb; cases hb)]
          exact s5 _ _ hb
        · rw [upd_ne nl2, upd_same, dset_els, vi_app]
        · rw [upd_same, dset_wl, vi_app, ← e2, show (0 : Int) + (i : Int) = (i : Int) by omega, vi_app]
    · rintro σ H3 ⟨d, wa, lf, x, y, z, rfl, s3, wd', gl, gw, hlf, nla, nwa⟩
      rw [Int.toNat_natCast] at wd' gl
      exact ⟨_, rfl, k d l _ wd' s3 gl⟩
theorem ok_l_wood (T : Top K mg) (O_l_mixed : Ok P w K mg base 1 (He.ga K "_law_mixed") ["_law_cell", "_law_k"] (sp_l_mixed K)) (O_l_cell_at : Ok P w K mg base 1 (He.ga K "_law_cell_at") ["_law_script", "_law_k"] (sp_l_cell_at K)) (O_l_elders : Ok P w K mg base 2 (He.ga K "_law_elders") ["_law_cell", "_law_many"] (sp_l_elders K)) : Ok P w K mg base 3 (He.ga K "_law_wood") ["_law_script", "_law_at_here"] (sp_l_wood K) := by
  obtain ⟨fd_l_mixed, F_l_mixed, b_l_mixed, kp_l_mixed⟩ := O_l_mixed.ex
  obtain ⟨fd_l_cell_at, F_l_cell_at, b_l_cell_at, kp_l_cell_at⟩ := O_l_cell_at.ex
  obtain ⟨fd_l_elders, F_l_elders, b_l_elders, kp_l_elders⟩ := O_l_elders.ex
  refine Ok.mk' T.f_l_wood sc_l_wood (fun _ _ _ _ _ _ us hl => match us, hl with | [_, _], _ => rfl) (fun vs H Q E h => ?_) (fun cdv A outer s H vs Q E hr h => ?_)
  · obtain ⟨a, ns, rfl, hS, k⟩ := h
    rfl
  · obtain ⟨a, ns, rfl, hS, k⟩ := h
    refine ⟨_, (pss_cons (ps_set (i := 2) sc_l_wood.nd rfl (Or.inl rfl) (pe_call F_l_mixed (hr.mono (by decide)) rfl T.g_l_mixed kp_l_mixed b_l_mixed .nil pass0 (pa_cons (pe_call F_l_cell_at (hr.mono (by decide)) rfl T.g_l_cell_at kp_l_cell_at b_l_cell_at .nil pass0 (pa_cons (pv 0) (pa_cons (pv 1) pa_nil))) (pa_cons (pv 1) pa_nil))))
      (pss_cons (ps_set (i := 3) sc_l_wood.nd rfl (Or.inl rfl) (pe_ix ix_list (pe_lst (pa_cons (pe_op op_mod (pe_op op_fdiv (pv 2) pe_int) pe_int) (pa_cons (pe_op op_mod (pe_op op_fdiv (pv 2) pe_int) pe_int) (pa_cons pe_int (pa_cons pe_int pa_nil))))) (pe_op op_mod (pv 2) pe_int) (fun _ _ => rfl)))
      (pss_one (ps_ret (pe_call F_l_elders (hr.mono (by decide)) rfl T.g_l_elders kp_l_elders b_l_elders .nil pass0 (pa_cons (pe_call F_l_cell_at (hr.mono (by decide)) rfl T.g_l_cell_at kp_l_cell_at b_l_cell_at .nil pass0 (pa_cons (pv 0) (pa_cons (pe_op op_add (pv 1) pe_int) pa_nil))) (pa_cons (pv 3) pa_nil))))))), ?_⟩
    refine ⟨_, rfl, _, rfl, a, 0, ns, rfl, hS, by decide, fun z => ⟨_, rfl, z, 0, rfl, by decide, by decide, fun x x0 x1 => ?_⟩⟩
    refine ⟨_, rfl, _, _, rfl, rfl, ⟨by decide, by decide⟩, _, _, rfl, rfl, (by show (0 : Int) < 41; decide), _, rfl, _, _, rfl, rfl, ⟨by decide, by decide⟩, _, _, rfl, rfl, (by show (0 : Int) < 13; decide), (by show 4 ≤ sizeLine; decide), fun t nt => ?_⟩
    have hm : ∃ m : Int, ([x / 4 % 41, x / 4 % 13, 40, 7] : List Int)[(x % 4).toNat]? = some m ∧ 0 ≤ m ∧ m ≤ 40 := by
      have h4 : (x % 4).toNat = 0 ∨ (x % 4).toNat = 1 ∨ (x % 4).toNat = 2 ∨ (x % 4).toNat = 3 := by omega
      rcases h4 with h | h | h | h
      · rw [h]; exact ⟨x / 4 % 41, rfl, by omega, by omega⟩
      · rw [h]; exact ⟨x / 4 % 13, rfl, by omega, by omega⟩
      · rw [h]; exact ⟨40, rfl, by omega, by omega⟩
      · rw [h]; exact ⟨7, rfl, by omega, by omega⟩
    obtain ⟨m, hm1, hb2⟩ := hm
    have hj := vi_get hm1
    refine ⟨_, rfl, _, _, rfl, rfl, (by show (0 : Int) < 4; decide), t, _, _, _, rfl, rfl, SqL.of upd_same, at_of (j := (x % 4).toNat) (by omega) hj, ?_⟩
    have st : Same H (upd H t (.lst [.int (x / 4 % 41), .int (x / 4 % 13), .int 40, .int 7])) := same_upd nt
    refine ⟨_, rfl, _, rfl, _, _, rfl, rfl, a, 0 + 1, ns, rfl, st.seq hS, by decide, fun z2 => ⟨_, rfl, z2, m.toNat, congrArg (fun q => [V.int z2, V.int q]) (show m = ((m.toNat : Nat) : Int) by omega), by omega, fun d l H' wd' s' hl => ?_⟩⟩
    exact k d m.toNat l H' (by omega) wd' (st.trans s') hl
theorem ok_l_is (T : Top K mg) : Ok P w K mg base 1 (He.ga K "_law_is") ["_law_found", "_law_due"] (sp_l_is K) := by
  refine Ok.mk' T.f_l_is sc_l_is (fun _ _ _ _ _ _ us hl => match us, hl with | [_, _], _ => rfl) (fun vs H Q E h => ?_) (fun cdv A outer s H vs Q E hr h => ?_)
  · obtain ⟨i, rfl, k⟩ := h
    rfl
  · obtain ⟨i, rfl, k⟩ := h
    refine ⟨_, (pss_one (ps_ret (pe_and (pe_callB call_isi (by rfl) T.b_isinstance (by decide +kernel) (pa_cons (pv 0) (pa_cons (pe_bltn (v := .ty "int") rfl T.b_int (by decide +kernel) rfl) pa_nil))) (pe_and (pe_not (pe_callB call_isi (by rfl) T.b_isinstance (by decide +kernel) (pa_cons (pv 0) (pa_cons (pe_bltn (v := .ty "bool") rfl T.b_bool (by decide +kernel) rfl) pa_nil)))) (pe_one (pe_cmpR op_eq (pv 0) (pv 1) (nomark _))))))), ?_⟩
    refine ⟨_, rfl, _, _, _, _, _, rfl, .ty "int", .base (.int _), kit_ty (r := true) (by decide +kernel), _, rfl, iteT ⟨_, rfl, _, _, _, _, _, rfl, .ty "bool", .base (.int _), kit_ty (r := false) (by decide +kernel), _, rfl, _, rfl, iteT ⟨_, rfl, _, rfl, rfl, ?_⟩⟩⟩
    rw [decide_eq_true (rfl : V.int i = V.int i)]
    exact k
theorem ok_l_is_or_none (T : Top K mg) (O_l_is : Ok P w K mg base 1 (He.ga K "_law_is") ["_law_found", "_law_due"] (sp_l_is K)) : Ok P w K mg base 2 (He.ga K "_law_is_or_none") ["_law_found", "_law_due"] (sp_l_is_or_none K) := by
  obtain ⟨fd_l_is, F_l_is, b_l_is, kp_l_is⟩ := O_l_is.ex
  refine Ok.mk' T.f_l_is_or_none sc_l_is_or_none (fun _ _ _ _ _ _ us hl => match us, hl with | [_, _], _ => rfl) (fun vs H Q E h => ?_) (fun cdv A outer s H vs Q E hr h => ?_)
  · obtain ⟨xs, i, rfl, k⟩ := h
    rfl
  · obtain ⟨xs, i, rfl, k⟩ := h
    refine ⟨_, (pss_cons (ps_if (pt_cmpR op_isN (pv 1) pe_non (nomark _)) (pss_one (ps_ret (pe_cmpR op_isN (pv 0) pe_non (nomark _)))) pss_nil)
      (pss_one (ps_ret (pe_call F_l_is (hr.mono (by decide)) rfl T.g_l_is kp_l_is b_l_is .nil pass0 (pa_cons (pv 0) (pa_cons (pv 1) pa_nil)))))), ?_⟩
    unfold oneAt
    cases e : xs[i.toNat]? with
    | none =>
      refine ⟨_, rfl, rfl, _, rfl, itD_t rfl ?_⟩
      refine ⟨_, rfl, rfl, ?_⟩
      rw [decide_eq_true (rfl : V.non = V.non)]
      exact k
    | some x =>
      refine ⟨_, rfl, rfl, _, rfl, itD_f (by intro z; cases z) ?_⟩
      exact ⟨_, rfl, _, rfl, x, rfl, k⟩
theorem ok_l_at (T : Top K mg) : Ok P w K mg base 1 (He.ga K "_law_at") ["_law_some", "_law_i"] (sp_l_at K) := by
  refine Ok.mk' T.f_l_at sc_l_at (fun _ _ _ _ _ _ us hl => match us, hl with | [_, _], _ => rfl) (fun vs H Q E h => ?_) (fun cdv A outer s H vs Q E hr h => ?_)
  · obtain ⟨l, i, xs, rfl, hl, h0, k⟩ := h
    rfl
  · obtain ⟨l, i, xs, rfl, hl, h0, k⟩ := h
    refine ⟨_, (pss_cons (ps_if (pt_cmpR op_lt (pv 1) (pe_callB call_len_seq (by rfl) T.b_len PySem.boot_len (pa_cons (pv 0) pa_nil)) (nomark _)) (pss_one (ps_ret (pe_ix ix_list (pv 0) (pv 1) (fun _ _ => rfl)))) pss_nil)
      (pss_one (ps_ret pe_non))), ?_⟩
    refine ⟨_, rfl, _, rfl, l, _, rfl, .inl (SqL.of hl), _, _, rfl, rfl, _, rfl, ?_⟩
    unfold oneAt at k
    cases e : xs[i.toNat]? with
    | some x =>
      rw [e] at k
      have hlt := (List.getElem?_eq_some_iff.mp e).1
      refine itD_t (by rw [vi_len]; omega) ?_
      exact ⟨_, rfl, _, rfl, l, _, _, _, rfl, rfl, SqL.of hl, at_of (j := i.toNat) (by omega) (vi_get e), k⟩
    | none =>
      rw [e] at k
      have hge := List.getElem?_eq_none_iff.mp e
      refine itD_f (by rw [vi_len]; omega) k
end
end Tw
namespace Tw
open PySem PySem.Spec PyProof.Rows L2
theorem ixN_nat {n j : Nat} (h : j < n) : ixN n ((j : Nat) : Int) = some j := by
  unfold ixN
  rw [if_pos (by omega), if_pos (by omega)]
  simp
theorem atI_m1 {xs : List V} {v : V} {m : Nat} (hl : xs.length = m + 1) (h : xs[m]? = some v) : atI xs (-1) = some v := by
  have e : ixN xs.length (-1) = some m := by
    unfold ixN
    rw [hl, if_neg (by decide), if_pos (by omega)]
    simp
    omega
  unfold atI
  rw [e]
  exact h
theorem kids_len (d : Nat → Nat) (x : Int) : ∀ m, (kids d x m).length ≤ m
  | 0 => Nat.le_refl _
  | m + 1 => by
    have := kids_len d x m
    show (kids d x m ++ (if _ then _ else _)).length ≤ m + 1
    rw [List.length_append]
    split <;> simp <;> omega
/-- whose children stand in the j-th list -/
def ky (n j : Nat) : Int := if j < n then (j : Int) else -1
theorem ky_inj {n i j : Nat} (hi : i ≤ n) (hj : j ≤ n) (h : ky n i = ky n j) : i = j := by
  unfold ky at h
  split at h <;> split at h <;> omega
section
variable {K : PySem.W.Frag} {mg : Str → Option Value} {P : Program} {w : World} {base : Heap}
theorem ok_l_children (T : Top K mg) : Ok P w K mg base 1 (He.ga K "_law_children") ["_law_elders_here"] (sp_l_children K) := by
  refine Ok.mk' T.f_l_children sc_l_children (fun _ _ _ _ _ _ us hl => match us, hl with | [_], _ => rfl) (fun vs H Q E h => ?_) (fun cdv A outer s H vs Q E hr h => ?_)
  · obtain ⟨a, d, n, rfl, ha, wd', hn, k⟩ := h
    rfl
  · obtain ⟨a, d, n, rfl, ha, wd', hn, k⟩ := h
    refine ⟨_, (pss_cons (ps_setLc (i := 1) (own := [("_law_knot", 2)]) (g := gName 2) (tt := tYes) rfl sc_l_children.nd rfl rfl (sw_true rfl rfl rfl (by decide +kernel)) (pi_range1 rfl T.b_range (pa_cons (pe_op op_add (pe_callB call_len_seq (by rfl) T.b_len PySem.boot_len (pa_cons (pv 0) pa_nil)) pe_int) pa_nil)) (blkOk_by (own := [("_law_knot", 2)]) (N := ["_law_elders_here", "_law_found", "_law_knot"]) (sc := defScope s_l_children) (by decide +kernel)) (fun _ _ _ _ _ => pg_name (i := 2) sc_l_children.nd rfl (Or.inl rfl)) (fun _ _ _ _ _ => pts_nil) (fun _ _ _ _ _ => (pe_lst pa_nil)))
      (pss_cons (ps_for PassesOwn.never rfl (pi_range1 rfl T.b_range (pa_cons (pe_callB call_len_seq (by rfl) T.b_len PySem.boot_len (pa_cons (pv 0) pa_nil)) pa_nil)) (pg_name (i := 2) sc_l_children.nd rfl (Or.inl rfl)) (pss_one (ps_expr (pe_bm PySem.F.plainAttrs_list PySem.F.slot_list_append PySem.F.type_list_append mt_append (pe_ix ix_list (pv 1) (pe_ix ix_list (pv 0) (pv 2) (fun _ _ => rfl)) (fun _ _ => rfl)) (pa_cons (pv 2) pa_nil)))))
      (pss_one (ps_ret (pv 1))))), ?_⟩
    refine ⟨_, rfl, a, _, rfl, .inl (SqL.of ha), _, _, rfl, rfl, _, rfl, by rw [vi_len, els_len]; omega, by rw [vi_len, els_len]; omega, fun D hD => ?_⟩
    have en : ((((vi (els d n)).length : Nat) : Int) + 1).toNat = n + 1 := by rw [vi_len, els_len]; omega
    rw [en]
    refine lc_it (walk_range (lo := 0) (n := n + 1)) (fun j H3 => ∃ cs : List Addr, cs.length = j ∧ Same H H3 ∧ H3 D = some (.lst (cs.map V.ref)) ∧ cs.Nodup ∧ ∀ c, c ∈ cs → H c = none ∧ c ≠ D ∧ H3 c = some (.lst [])) ⟨[], rfl, same_upd hD, upd_same, List.nodup_nil, fun c hc => by cases hc⟩ (fun _ _ _ _ => trivial) ?_ ?_
    · rintro j x H3 H4 hj ⟨cs, hl, s3, h3, hnd, hcs⟩ ⟨rfl, rfl⟩
      refine ⟨rfl, Nat.zero_le _, fun c nc => ?_⟩
      have cD : c ≠ D := fun z => by rw [z, h3] at nc; cases nc
      have sc : Same H4 (upd H4 c (.lst [])) := same_upd nc
      refine ⟨_, sc _ _ h3, by rw [List.length_map, hl]; exact small1000 (by omega), cs ++ [c], by simp [hl], fun b o hb => ?_, ?_, ?_, ?_⟩
      · rw [upd_ne (fun q => by rw [q, hD] at hb; cases hb)]
        exact sc _ _ (s3 _ _ hb)
      · rw [upd_same, List.map_append]
        rfl
      · rw [List.nodup_append]
        refine ⟨hnd, by simp, fun x hx y hy e => ?_⟩
        rw [List.mem_singleton] at hy
        rw [e, hy] at hx
        rw [(hcs c hx).2.2] at nc
        cases nc
      · intro x hx
        rw [List.mem_append, List.mem_singleton] at hx
        rcases hx with hx | rfl
        · obtain ⟨x1, x2, x3⟩ := hcs x hx
          exact ⟨x1, x2, by rw [upd_ne x2]; exact sc _ _ x3⟩
        · exact ⟨s3.free nc, cD, by rw [upd_ne cD, upd_same]⟩
    · rintro H3 ⟨cs, hl, s3, h3, hnd, hcs⟩
      refine ⟨_, rfl, a, _, rfl, .inl (SqL.of (s3 _ _ ha)), _, rfl, by rw [vi_len, els_len]; omega, by rw [vi_len, els_len]; omega, for_range (lo := 0) (n := (((vi (els d n)).length : Nat) : Int).toNat) (fun i σ H4 => ∃ x, σ = [some (.ref a), some (.ref D), x] ∧ Same H H4 ∧ H4 D = some (.lst (cs.map V.ref)) ∧ ∀ (j : Nat) (c : Addr), cs[j]? = some c → H4 c = some (.lst (vi (kids d (ky n j) i)))) ⟨none, rfl, s3, h3, fun j c hc => (hcs c (List.mem_of_getElem? hc)).2.2⟩ ?_ ?_⟩
      · rintro i σ H4 hi ⟨x, rfl, s4, h4, hk⟩
        rw [Int.toNat_natCast, vi_len, els_len] at hi
        have hi0 : (0 : Int) + (i : Int) = (i : Int) := by omega
        rw [hi0]
        -- the list that is grown
        obtain ⟨j, hj, hky⟩ : ∃ j, j ≤ n ∧ el d i = ky n j := by
          by_cases q : el d i = -1
          · exact ⟨n, Nat.le_refl _, by rw [q]; unfold ky; rw [if_neg (by omega)]⟩
          · have h1 := el_ge (d := d) (k := i)
            have h2 := el_lt (d := d) (k := i)
            exact ⟨(el d i).toNat, by omega, by unfold ky; rw [if_pos (by omega)]; omega⟩
        have hc : cs[j]? = some cs[j] := List.getElem?_eq_getElem (by omega)
        generalize cs[j] = c at *
        have hat : atI (cs.map V.ref) (el d i) = some (V.ref c) := by
          have hcv : (cs.map V.ref)[j]? = some (V.ref c) := by rw [List.getElem?_map, hc]; rfl
          rw [hky]
          unfold ky
          by_cases q : j < n
          · rw [if_pos q]
            exact atI_nat hcv
          · rw [if_neg q]
            have : j = n := by omega
            subst this
            exact atI_m1 (by rw [List.length_map, hl]) hcv
        have hkc := hk j c hc
        refine ⟨_, rfl, _, rfl, _, rfl, a, _, _, _, rfl, rfl, SqL.of (s4 _ _ ha), atI_nat (vi_get (els_get hi)), D, _, _, _, rfl, rfl, SqL.of h4, hat, .inl ⟨rfl, _, SqL.of hkc⟩, _, rfl, c, _, _, rfl, rfl, hkc, ?_, ?_⟩
        · rw [vi_len]
          have := kids_len d (ky n j) i
          exact small1000 (by omega)
        · obtain ⟨c1, c2, _⟩ := hcs c (List.mem_of_getElem? hc)
          refine ⟨_, rfl, fun b o hb => ?_, ?_, fun j' c' hc' => ?_⟩
          · rw [upd_ne (fun q => by rw [q, c1] at hb; cases hb)]
            exact s4 _ _ hb
          · rw [upd_ne (Ne.symm c2)]
            exact h4
          · show _ = some (HO.lst (vi (kids d (ky n j') i ++ (if el d i = ky n j' then [(i : Int)] else []))))
            by_cases q : j' = j
            · subst q
              cases (hc'.symm.trans hc)
              rw [upd_same, vi_app, if_pos hky]
            · have hl' : j' < cs.length := (List.getElem?_eq_some_iff.mp hc').1
              have ne : c' ≠ c := fun e => by
                rw [e] at hc'
                exact q (nd_ix hnd hc' hc)
              rw [upd_ne ne, if_neg (fun z => q (ky_inj (by omega) hj (z.symm.trans hky))), List.append_nil]
              exact hk j' c' hc'
      · rintro σ H4 ⟨x, rfl, s4, h4, hk⟩
        rw [Int.toNat_natCast, vi_len, els_len] at hk
        have hz : cs[n]? = some cs[n] := List.getElem?_eq_getElem (by omega)
        have ecs : cs = cs.take n ++ [cs[n]] := by
          rw [← List.take_succ_eq_append_getElem (by omega), List.take_of_length_le (by omega)]
        refine ⟨_, rfl, k D _ s4 ⟨cs.take n, cs[n], by rw [List.length_take]; omega, by rw [← ecs]; exact h4, fun i c hc => ?_, ?_⟩⟩
        · have hi : i < n := by
            have := (List.getElem?_eq_some_iff.mp hc).1
            rw [List.length_take] at this
            omega
          rw [List.getElem?_take_of_lt hi] at hc
          have := hk i c hc
          unfold ky at this
          rw [if_pos hi] at this
          exact this
        · have := hk n _ hz
          unfold ky at this
          rw [if_neg (by omega)] at this
          exact this
/-- counts on the way up from knot i: those elders whose depth is from m on are counted -/
def undm (d : Nat → Nat) (n i m : Nat) : List Int := (List.range n).map fun j => ((under d j i + (if m < d j + 1 ∧ d j + 1 ≤ d i ∧ pa d (d j + 1) i = (j : Int) then 1 else 0) : Nat) : Int)
theorem undm_top (d : Nat → Nat) (n i : Nat) : undm d n i (d i) = unders d n i := by
  unfold undm unders
  apply List.map_congr_left
  intro j _
  rw [if_neg (by omega)]
  rfl
theorem undm_end (d : Nat → Nat) (n i : Nat) : undm d n i 0 = unders d n (i + 1) := by
  unfold undm unders
  apply List.map_congr_left
  intro j _
  show _ = ((under d j i + (if d j + 1 ≤ d i ∧ pa d (d j + 1) i = (j : Int) then 1 else 0) : Nat) : Int)
  by_cases q : d j + 1 ≤ d i ∧ pa d (d j + 1) i = (j : Int)
  · rw [if_pos q, if_pos ⟨by omega, q.1, q.2⟩]
  · rw [if_neg q, if_neg (fun z => q z.2)]
theorem undm_len (d : Nat → Nat) (n i m : Nat) : (undm d n i m).length = n := by simp [undm]
theorem undm_step {d : Nat → Nat} {n i m j : Nat} (hj : j < n) (h1 : d j + 1 = m + 1) (h2 : m + 1 ≤ d i) (h3 : pa d (m + 1) i = (j : Int)) :
    ∃ x : Int, (undm d n i (m + 1))[j]? = some x ∧ (vi (undm d n i (m + 1))).set j (.int (x + 1)) = vi (undm d n i m) := by
  refine ⟨((under d j i : Nat) : Int), ?_, ?_⟩
  · unfold undm
    rw [List.getElem?_map, List.getElem?_range hj]
    show some (((under d j i + (if m + 1 < d j + 1 ∧ d j + 1 ≤ d i ∧ pa d (d j + 1) i = (j : Int) then 1 else 0) : Nat)) : Int) = _
    rw [if_neg (by omega)]
    rfl
  · apply List.ext_getElem?
    intro l
    rw [List.getElem?_set]
    by_cases q : j = l
    · subst q
      rw [if_pos rfl, if_pos (by rw [vi_len, undm_len]; exact hj)]
      symm
      refine vi_get ?_
      unfold undm
      rw [List.getElem?_map, List.getElem?_range hj]
      show some (((under d j i + (if m < d j + 1 ∧ d j + 1 ≤ d i ∧ pa d (d j + 1) i = (j : Int) then 1 else 0) : Nat)) : Int) = _
      rw [if_pos ⟨by omega, by omega, by rw [h1]; exact h3⟩]
      rfl
    · rw [if_neg q]
      unfold vi undm
      rw [List.getElem?_map, List.getElem?_map, List.getElem?_map, List.getElem?_map]
      by_cases hl : l < n
      · rw [List.getElem?_range hl]
        have hiff : (m + 1 < d l + 1 ∧ d l + 1 ≤ d i ∧ pa d (d l + 1) i = (l : Int)) ↔ (m < d l + 1 ∧ d l + 1 ≤ d i ∧ pa d (d l + 1) i = (l : Int)) := by
          constructor
          · rintro ⟨a, b, c⟩
            exact ⟨by omega, b, c⟩
          · rintro ⟨a, b, c⟩
            refine ⟨?_, b, c⟩
            by_cases e : d l + 1 = m + 1
            · rw [e, h3] at c
              omega
            · omega
        show some (V.int (((under d l i + (if m + 1 < d l + 1 ∧ d l + 1 ≤ d i ∧ pa d (d l + 1) i = (l : Int) then 1 else 0) : Nat)) : Int)) = some (V.int (((under d l i + (if m < d l + 1 ∧ d l + 1 ≤ d i ∧ pa d (d l + 1) i = (l : Int) then 1 else 0) : Nat)) : Int))
        by_cases z : m < d l + 1 ∧ d l + 1 ≤ d i ∧ pa d (d l + 1) i = (l : Int)
        · rw [if_pos z, if_pos (hiff.mpr z)]
        · rw [if_neg z, if_neg (fun y => z (hiff.mp y))]
      · rw [List.getElem?_eq_none (by rw [List.length_range]; omega)]
        rfl
theorem ok_l_counted (T : Top K mg) : Ok P w K mg base 1 (He.ga K "_law_counted") ["_law_elders_here"] (sp_l_counted K) := by
  refine Ok.mk' T.f_l_counted sc_l_counted (fun _ _ _ _ _ _ us hl => match us, hl with | [_], _ => rfl) (fun vs H Q E h => ?_) (fun cdv A outer s H vs Q E hr h => ?_)
  · obtain ⟨a, d, n, rfl, ha, wd', hn, k⟩ := h
    rfl
  · obtain ⟨a, d, n, rfl, ha, wd', hn, k⟩ := h
    refine ⟨_, (pss_cons (ps_set (i := 1) sc_l_counted.nd rfl (Or.inl rfl) (pe_lst pa_nil))
      (pss_cons (ps_set (i := 2) sc_l_counted.nd rfl (Or.inl rfl) (pe_op op_rep (pe_lst (pa_cons pe_int pa_nil)) (pe_callB call_len_seq (by rfl) T.b_len PySem.boot_len (pa_cons (pv 0) pa_nil))))
      (pss_cons (ps_for PassesOwn.never rfl (pi_range1 rfl T.b_range (pa_cons (pe_callB call_len_seq (by rfl) T.b_len PySem.boot_len (pa_cons (pv 0) pa_nil)) pa_nil)) (pg_name (i := 3) sc_l_counted.nd rfl (Or.inl rfl)) (pss_cons (ps_set (i := 4) sc_l_counted.nd rfl (Or.inl rfl) (pe_ix ix_list (pv 0) (pv 3) (fun _ _ => rfl)))
      (pss_cons (ps_set (i := 5) sc_l_counted.nd rfl (Or.inl rfl) pe_int)
      (pss_cons (ps_while PassesOwn.never (pt_cmpR op_ne (pv 4) (pe_un un_neg pe_int) (nomark _)) (pss_cons (ps_asg (pe_op op_add (pe_ix ix_list (pv 2) (pv 4) (fun _ _ => rfl)) pe_int) (pg_sub (pv 2) (pv 4) set_list))
      (pss_cons (ps_set (i := 5) sc_l_counted.nd rfl (Or.inl rfl) (pe_op op_add (pv 5) pe_int))
      (pss_one (ps_set (i := 4) sc_l_counted.nd rfl (Or.inl rfl) (pe_ix ix_list (pv 0) (pv 4) (fun _ _ => rfl)))))))
      (pss_one (ps_expr (pe_bm PySem.F.plainAttrs_list PySem.F.slot_list_append PySem.F.type_list_append mt_append (pv 1) (pa_cons (pv 5) pa_nil))))))))
      (pss_one (ps_ret (pe_tup (pa_cons (pv 1) (pa_cons (pv 2) pa_nil)))))))), ?_⟩
    refine ⟨Nat.zero_le _, fun dl ndl => ?_⟩
    have s0 : Same H (upd H dl (.lst [])) := same_upd ndl
    have h0 : (upd H dl (.lst [])) dl = some (.lst []) := upd_same
    generalize upd H dl (.lst []) = H1 at *
    refine ⟨by decide, fun tl' ntl => ?_⟩
    have s1 : Same H1 (upd H1 tl' (.lst [.int 0])) := same_upd ntl
    have h1 : (upd H1 tl' (.lst [.int 0])) tl' = some (.lst [.int 0]) := upd_same
    generalize upd H1 tl' (.lst [.int 0]) = H2 at *
    refine ⟨_, rfl, a, _, rfl, .inl (SqL.of (s1 _ _ (s0 _ _ ha))), tl', _, _, rfl, rfl, h1, by omega, by rw [vi_len, els_len]; omega, ?_, fun ul nul => ?_⟩
    · rw [vi_len, els_len]
      exact size80 (by show 1 * _ ≤ 1000; omega)
    have eu : (List.replicate (((vi (els d n)).length : Nat) : Int).toNat ([.int 0] : List V)).flatten = vi (unders d n 0) := by
      rw [Int.toNat_natCast, vi_len, els_len]
      have e1 : unders d n 0 = List.replicate n (0 : Int) := by
        unfold unders
        rw [List.eq_replicate_iff]
        refine ⟨by simp, fun b hb => ?_⟩
        rw [List.mem_map] at hb
        obtain ⟨j, _, rfl⟩ := hb
        rfl
      rw [e1]
      clear e1
      have : ∀ m : Nat, (List.replicate m ([.int 0] : List V)).flatten = vi (List.replicate m (0 : Int)) := by
        intro m
        induction m with
        | zero => rfl
        | succ m ih =>
          rw [List.replicate_succ, List.flatten_cons, ih, List.replicate_succ]
          rfl
      exact this n
    rw [eu]
    have s2 : Same H2 (upd H2 ul (.lst (vi (unders d n 0)))) := same_upd nul
    have h2 : (upd H2 ul (.lst (vi (unders d n 0)))) ul = some (.lst (vi (unders d n 0))) := upd_same
    have sH := (s0.trans s1).trans s2
    have hdl := s2 _ _ (s1 _ _ h0)
    have ndu : dl ≠ ul := fun z => by rw [← z, s1 _ _ h0] at nul; cases nul
    have nulH : H ul = none := s0.free (s1.free nul)
    generalize upd H2 ul (.lst (vi (unders d n 0))) = H3 at *
    refine ⟨_, rfl, a, _, rfl, .inl (SqL.of (sH _ _ ha)), _, rfl, by rw [vi_len, els_len]; omega, by rw [vi_len, els_len]; omega, for_range (lo := 0) (n := (((vi (els d n)).length : Nat) : Int).toNat) (fun i σ H4 => ∃ x y z, σ = [some (.ref a), some (.ref dl), some (.ref ul), x, y, z] ∧ Same H H4 ∧ H4 dl = some (.lst (vi (deeps d i))) ∧ H4 ul = some (.lst (vi (unders d n i)))) ⟨none, none, none, rfl, sH, hdl, h2⟩ ?_ ?_⟩
    · rintro i σ H4 hi ⟨x, y, z, rfl, s4, d4, u4⟩
      rw [Int.toNat_natCast, vi_len, els_len] at hi
      have hi0 : (0 : Int) + (i : Int) = (i : Int) := by omega
      rw [hi0]
      have hle := hh_le wd' (Nat.le_of_lt hi)
      have hdi := wd' i hi
      refine ⟨_, rfl, _, rfl, a, _, _, _, rfl, rfl, SqL.of (s4 _ _ ha), atI_nat (vi_get (els_get hi)), ?_⟩
      -- while now != -1
      refine ⟨fun m σ H5 => σ = [some (.ref a), some (.ref dl), some (.ref ul), some (.int (i : Nat)), some (.int (pa d m i)), some (.int ((d i - m : Nat) : Nat))] ∧ m ≤ d i ∧ Same H H5 ∧ H5 dl = some (.lst (vi (deeps d i))) ∧ H5 ul = some (.lst (vi (undm d n i m))), ⟨d i, by rw [Nat.sub_self]; rfl, Nat.le_refl _, s4, d4, by rw [undm_top]; exact u4⟩, ?_⟩
      rintro m σ H5 ⟨rfl, hm, s5, d5, u5⟩
      refine ⟨_, rfl, _, rfl, rfl, _, rfl, ?_⟩
      cases m with
      | zero =>
        refine itN_f (congrArg V.int (pa_zero i)) ?_
        refine ⟨_, rfl, .inl ⟨rfl, _, SqL.of d5⟩, _, rfl, dl, _, _, rfl, rfl, d5, ?_, ?_⟩
        · rw [vi_len]
          unfold deeps
          rw [List.length_map, List.length_range]
          exact small1000 (by omega)
        · refine ⟨_, _, _, rfl, fun b o hb => ?_, ?_, ?_⟩
          · rw [upd_ne (fun q => by rw [q, ndl] at hb; cases hb)]
            exact s5 _ _ hb
          · rw [upd_same, vi_app, Nat.sub_zero]
            unfold deeps
            rw [List.range_succ, List.map_append]
            rfl
          · rw [upd_ne (Ne.symm ndu), u5, undm_end]
      | succ m =>
        obtain ⟨j, j1, j2, j3, j4⟩ := pa_some (v := m + 1) wd' (Nat.le_of_lt hi) (by omega) (by omega)
        have jn : j < n := by omega
        obtain ⟨p1, p2, p3⟩ := pa_pa wd' (Nat.le_of_lt hi) (by omega) j2
        obtain ⟨x, x1, x2⟩ := undm_step (n := n) jn j3 hm j2
        have hne : ¬ V.int (pa d (m + 1) i) = V.int (-1) := fun z => by
          have := V.int.inj z
          omega
        refine itN_t hne (nxt ?_)
        rw [j2]
        refine ⟨_, rfl, _, rfl, ul, _, _, _, rfl, rfl, SqL.of u5, atI_nat (vi_get x1), _, _, rfl, rfl, _, rfl, _, rfl, ul, _, _, j, rfl, rfl, u5, ixN_nat (by rw [vi_len, undm_len]; exact jn), ?_⟩
        dsimp only
        rw [x2]
        have s6 : Same H (upd H5 ul (.lst (vi (undm d n i m)))) := fun b o hb => by
          rw [upd_ne (fun q => by rw [q, nulH] at hb; cases hb)]
          exact s5 _ _ hb
        refine ⟨_, rfl, _, _, rfl, rfl, ?_⟩
        refine ⟨_, rfl, _, rfl, a, _, _, _, rfl, rfl, SqL.of (s6 _ _ ha), atI_nat (vi_get (els_get jn)), ?_⟩
        refine ⟨m, by omega, ?_, by omega, s6, by rw [upd_ne ndu]; exact d5, upd_same⟩
        have e1 : ((d i - (m + 1) : Nat) : Int) + 1 = ((d i - m : Nat) : Int) := by omega
        rw [← p3]
        exact congrArg (fun z => [some (V.ref a), some (V.ref dl), some (V.ref ul), some (V.int (i : Nat)), some (V.int (el d j)), some (V.int z)]) e1
    · rintro σ H4 ⟨x, y, z, rfl, s4, d4, u4⟩
      rw [Int.toNat_natCast, vi_len, els_len] at d4 u4
      refine ⟨_, rfl, _, rfl, (by show 2 ≤ sizeLine; decide), fun t nt => ?_⟩
      exact k t dl ul _ (s4.trans (same_upd nt)) upd_same (same_upd nt _ _ d4) (same_upd nt _ _ u4)
end
end Tw
namespace Tw
open PySem PySem.Spec PyProof.Rows L2
theorem vi_inv {xs : List Int} {j : Nat} {x : V} (h : (vi xs)[j]? = some x) : ∃ y : Int, x = .int y := by
  unfold vi at h
  rw [List.getElem?_map] at h
  cases e : xs[j]? with
  | none => rw [e] at h; cases h
  | some y => rw [e] at h; cases h; exact ⟨y, rfl⟩
theorem deeps_get {d : Nat → Nat} {n i : Nat} (h : i < n) : (deeps d n)[i]? = some ((d i : Nat) : Int) := by simp [deeps, h]
theorem unders_get {d : Nat → Nat} {n m i : Nat} (h : i < n) : (unders d n m)[i]? = some ((under d i m : Nat) : Int) := by simp [unders, h]
section
variable {K : PySem.W.Frag} {mg : Str → Option Value} {P : Program} {w : World} {base : Heap}
theorem ok_law (T : Top K mg) (O_l_wood : Ok P w K mg base 3 (He.ga K "_law_wood") ["_law_script", "_law_at_here"] (sp_l_wood K)) (O_Opened_init : Ok P w K mg base 6 (He.ma K (He.ga K "Opened") "__init__") ["self", "elders"] (sp_Opened_init K)) (O_l_children : Ok P w K mg base 1 (He.ga K "_law_children") ["_law_elders_here"] (sp_l_children K)) (O_l_counted : Ok P w K mg base 1 (He.ga K "_law_counted") ["_law_elders_here"] (sp_l_counted K)) (O_l_mixed : Ok P w K mg base 1 (He.ga K "_law_mixed") ["_law_cell", "_law_k"] (sp_l_mixed K)) (O_l_cell_at : Ok P w K mg base 1 (He.ga K "_law_cell_at") ["_law_script", "_law_k"] (sp_l_cell_at K)) (O_l_is : Ok P w K mg base 1 (He.ga K "_law_is") ["_law_found", "_law_due"] (sp_l_is K)) (O_Opened_many : Ok P w K mg base 10 (He.ma K (He.ga K "Opened") "many") ["self", "k"] (sp_Opened_many K)) (O_Opened_beneath : Ok P w K mg base 9 (He.ma K (He.ga K "Opened") "beneath") ["self", "k"] (sp_Opened_beneath K)) (O_Opened_depth : Ok P w K mg base 6 (He.ma K (He.ga K "Opened") "depth") ["self", "k"] (sp_Opened_depth K)) (O_l_is_or_none : Ok P w K mg base 2 (He.ga K "_law_is_or_none") ["_law_found", "_law_due"] (sp_l_is_or_none K)) (O_l_at : Ok P w K mg base 1 (He.ga K "_law_at") ["_law_some", "_law_i"] (sp_l_at K)) (O_Opened_nth : Ok P w K mg base 10 (He.ma K (He.ga K "Opened") "nth") ["self", "k", "i"] (sp_Opened_nth K)) (O_Opened_top : Ok P w K mg base 6 (He.ma K (He.ga K "Opened") "top") ["self", "i"] (sp_Opened_top K)) (O_Opened_many_tops : Ok P w K mg base 6 (He.ma K (He.ga K "Opened") "many_tops") ["self"] (sp_Opened_many_tops K)) {fd : FuncData} (F : FunD K "law" "law" (defArgs s_law) (defBody s_law) (defScope s_law) [] [] (He.ga K "law") fd) : FnOk P w K mg base CX0 11 (He.ga K "law") fd ["_law_script"] (sp_law K) := by
  obtain ⟨fd_l_wood, F_l_wood, b_l_wood, kp_l_wood⟩ := O_l_wood.ex
  obtain ⟨fd_Opened_init, F_Opened_init, b_Opened_init, kp_Opened_init⟩ := O_Opened_init.ex
  obtain ⟨fd_l_children, F_l_children, b_l_children, kp_l_children⟩ := O_l_children.ex
  obtain ⟨fd_l_counted, F_l_counted, b_l_counted, kp_l_counted⟩ := O_l_counted.ex
  obtain ⟨fd_l_mixed, F_l_mixed, b_l_mixed, kp_l_mixed⟩ := O_l_mixed.ex
  obtain ⟨fd_l_cell_at, F_l_cell_at, b_l_cell_at, kp_l_cell_at⟩ := O_l_cell_at.ex
  obtain ⟨fd_l_is, F_l_is, b_l_is, kp_l_is⟩ := O_l_is.ex
  obtain ⟨fd_Opened_many, F_Opened_many, b_Opened_many, kp_Opened_many⟩ := O_Opened_many.ex
  obtain ⟨fd_Opened_beneath, F_Opened_beneath, b_Opened_beneath, kp_Opened_beneath⟩ := O_Opened_beneath.ex
  obtain ⟨fd_Opened_depth, F_Opened_depth, b_Opened_depth, kp_Opened_depth⟩ := O_Opened_depth.ex
  obtain ⟨fd_l_is_or_none, F_l_is_or_none, b_l_is_or_none, kp_l_is_or_none⟩ := O_l_is_or_none.ex
  obtain ⟨fd_l_at, F_l_at, b_l_at, kp_l_at⟩ := O_l_at.ex
  obtain ⟨fd_Opened_nth, F_Opened_nth, b_Opened_nth, kp_Opened_nth⟩ := O_Opened_nth.ex
  obtain ⟨fd_Opened_top, F_Opened_top, b_Opened_top, kp_Opened_top⟩ := O_Opened_top.ex
  obtain ⟨fd_Opened_many_tops, F_Opened_many_tops, b_Opened_many_tops, kp_Opened_many_tops⟩ := O_Opened_many_tops.ex
  refine fnOk_mk F sc_law (fun vs H Q E h => ?_) (fun cdv A outer s H vs Q E hr h => ?_)
  · obtain ⟨a, ns, rfl, hS, k⟩ := h
    rfl
  · obtain ⟨a, ns, rfl, hS, k⟩ := h
    refine ⟨_, (pss_cons (ps_set (i := 1) sc_law.nd rfl (Or.inl rfl) (pe_call F_l_wood (hr.mono (by decide)) rfl T.g_l_wood kp_l_wood b_l_wood .nil pass0 (pa_cons (pv 0) (pa_cons pe_int pa_nil))))
      (pss_cons (ps_set (i := 2) sc_law.nd rfl (Or.inl rfl) (pe_make T.mk_Opened F_Opened_init (hr.mono (by decide)) rfl T.g_Opened b_Opened_init .nil pass0 (pa_cons (pe_callTy call_list_of (by rfl) T.b_list (by decide +kernel) (pa_cons (pv 1) pa_nil)) pa_nil)))
      (pss_cons (ps_set (i := 3) sc_law.nd rfl (Or.inl rfl) (pe_call F_l_children (hr.mono (by decide)) rfl T.g_l_children kp_l_children b_l_children .nil pass0 (pa_cons (pv 1) pa_nil)))
      (pss_cons (ps_asg (pe_call F_l_counted (hr.mono (by decide)) rfl T.g_l_counted kp_l_counted b_l_counted .nil pass0 (pa_cons (pv 1) pa_nil)) (pg_tup (by rfl) (pgs_cons (pg_name (i := 4) sc_law.nd rfl (Or.inl rfl)) (pgs_cons (pg_name (i := 5) sc_law.nd rfl (Or.inl rfl)) pgs_nil))))
      (pss_cons (ps_set (i := 6) sc_law.nd rfl (Or.inl rfl) (pe_op op_add pe_int (pe_op op_pow (pe_call F_l_mixed (hr.mono (by decide)) rfl T.g_l_mixed kp_l_mixed b_l_mixed .nil pass0 (pa_cons (pe_call F_l_cell_at (hr.mono (by decide)) rfl T.g_l_cell_at kp_l_cell_at b_l_cell_at .nil pass0 (pa_cons (pv 0) (pa_cons pe_int pa_nil))) (pa_cons pe_int pa_nil))) pe_int)))
      (pss_cons (ps_for PassesOwn.never rfl (pi_range1 rfl T.b_range (pa_cons (pe_callB call_len_seq (by rfl) T.b_len PySem.boot_len (pa_cons (pv 1) pa_nil)) pa_nil)) (pg_name (i := 7) sc_law.nd rfl (Or.inl rfl)) (pss_cons (ps_set (i := 8) sc_law.nd rfl (Or.inl rfl) (pe_ix ix_list (pv 3) (pv 7) (fun _ _ => rfl)))
      (pss_cons (ps_if (pt_not (pt_val (pe_call F_l_is (hr.mono (by decide)) rfl T.g_l_is kp_l_is b_l_is .nil pass0 (pa_cons (pe_meth (pv 2) T.cl_Opened T.m_Opened_many F_Opened_many (hr.mono (by decide)) b_Opened_many .nil pass0 (pa_cons (pv 7) pa_nil)) (pa_cons (pe_callB call_len_seq (by rfl) T.b_len PySem.boot_len (pa_cons (pv 8) pa_nil)) pa_nil))))) (pss_one (ps_ret pe_bl)) pss_nil)
      (pss_cons (ps_if (pt_not (pt_val (pe_call F_l_is (hr.mono (by decide)) rfl T.g_l_is kp_l_is b_l_is .nil pass0 (pa_cons (pe_meth (pv 2) T.cl_Opened T.m_Opened_beneath F_Opened_beneath (hr.mono (by decide)) b_Opened_beneath .nil pass0 (pa_cons (pv 7) pa_nil)) (pa_cons (pe_ix ix_list (pv 5) (pv 7) (fun _ _ => rfl)) pa_nil))))) (pss_one (ps_ret pe_bl)) pss_nil)
      (pss_cons (ps_if (pt_not (pt_val (pe_call F_l_is (hr.mono (by decide)) rfl T.g_l_is kp_l_is b_l_is .nil pass0 (pa_cons (pe_meth (pv 2) T.cl_Opened T.m_Opened_depth F_Opened_depth (hr.mono (by decide)) b_Opened_depth .nil pass0 (pa_cons (pv 7) pa_nil)) (pa_cons (pe_ix ix_list (pv 4) (pv 7) (fun _ _ => rfl)) pa_nil))))) (pss_one (ps_ret pe_bl)) pss_nil)
      (pss_one (ps_for PassesOwn.never rfl (pi_list (pe_lst (pa_cons pe_int (pa_cons (pe_op op_fdiv (pe_callB call_len_seq (by rfl) T.b_len PySem.boot_len (pa_cons (pv 8) pa_nil)) pe_int) (pa_cons (pe_op op_sub (pe_callB call_len_seq (by rfl) T.b_len PySem.boot_len (pa_cons (pv 8) pa_nil)) pe_int) (pa_cons (pe_callB call_len_seq (by rfl) T.b_len PySem.boot_len (pa_cons (pv 8) pa_nil)) (pa_cons (pv 6) pa_nil))))))) (pg_name (i := 9) sc_law.nd rfl (Or.inl rfl)) (pss_one (ps_if (PW.pt (pw_and (pt_cmpR op_ge (pv 9) pe_int (nomark _)) (pw_and1 (pt_not (pt_val (pe_call F_l_is_or_none (hr.mono (by decide)) rfl T.g_l_is_or_none kp_l_is_or_none b_l_is_or_none .nil pass0 (pa_cons (pe_meth (pv 2) T.cl_Opened T.m_Opened_nth F_Opened_nth (hr.mono (by decide)) b_Opened_nth .nil pass0 (pa_cons (pv 7) (pa_cons (pv 9) pa_nil))) (pa_cons (pe_call F_l_at (hr.mono (by decide)) rfl T.g_l_at kp_l_at b_l_at .nil pass0 (pa_cons (pv 8) (pa_cons (pv 9) pa_nil))) pa_nil)))))))) (pss_one (ps_ret pe_bl)) pss_nil)))))))))
      (pss_cons (ps_set (i := 10) sc_law.nd rfl (Or.inl rfl) (pe_ix ix_list (pv 3) (pe_un un_neg pe_int) (fun _ _ => rfl)))
      (pss_cons (ps_for PassesOwn.never rfl (pi_list (pe_lst (pa_cons pe_int (pa_cons pe_int (pa_cons (pe_op op_fdiv (pe_callB call_len_seq (by rfl) T.b_len PySem.boot_len (pa_cons (pv 10) pa_nil)) pe_int) (pa_cons (pe_op op_sub (pe_callB call_len_seq (by rfl) T.b_len PySem.boot_len (pa_cons (pv 10) pa_nil)) pe_int) (pa_cons (pe_callB call_len_seq (by rfl) T.b_len PySem.boot_len (pa_cons (pv 10) pa_nil)) (pa_cons (pv 6) pa_nil)))))))) (pg_name (i := 9) sc_law.nd rfl (Or.inl rfl)) (pss_one (ps_if (PW.pt (pw_and (pt_cmpR op_ge (pv 9) pe_int (nomark _)) (pw_and1 (pt_not (pt_val (pe_call F_l_is_or_none (hr.mono (by decide)) rfl T.g_l_is_or_none kp_l_is_or_none b_l_is_or_none .nil pass0 (pa_cons (pe_meth (pv 2) T.cl_Opened T.m_Opened_top F_Opened_top (hr.mono (by decide)) b_Opened_top .nil pass0 (pa_cons (pv 9) pa_nil)) (pa_cons (pe_call F_l_at (hr.mono (by decide)) rfl T.g_l_at kp_l_at b_l_at .nil pass0 (pa_cons (pv 10) (pa_cons (pv 9) pa_nil))) pa_nil)))))))) (pss_one (ps_ret pe_bl)) pss_nil)))
      (pss_one (ps_ret (pe_call F_l_is (hr.mono (by decide)) rfl T.g_l_is kp_l_is b_l_is .nil pass0 (pa_cons (pe_meth0 (pv 2) T.cl_Opened T.m_Opened_many_tops F_Opened_many_tops (hr.mono (by decide)) b_Opened_many_tops .nil pass0) (pa_cons (pe_callB call_len_seq (by rfl) T.b_len PySem.boot_len (pa_cons (pv 10) pa_nil)) pa_nil))))))))))))), ?_⟩
    -- the wood's elders
    refine ⟨_, rfl, a, ns, rfl, hS, fun d n l H1 hn wd' s1 hl => ?_⟩
    -- Opened(list(..))
    refine ⟨_, rfl, l, _, rfl, .inl (SqL.of hl), fun l2 nl2 => ?_⟩
    have sl : Same H1 (upd H1 l2 (.lst (vi (els d n)))) := same_upd nl2
    have hl2 : (upd H1 l2 (.lst (vi (els d n)))) l2 = some (.lst (vi (els d n))) := upd_same
    generalize upd H1 l2 (.lst (vi (els d n))) = H2 at *
    refine fun o dxo no ndo neo => ⟨o, dxo, l2, d, n, rfl, upd_same, ?_, wd', hn, fun H3 q3 O3 => ⟨rfl, ?_⟩⟩
    · rw [upd_ne (ne_of_none hl2 no), upd_ne (ne_of_none hl2 ndo)]
      exact hl2
    have s3 : Same H H3 := (s1.trans sl).trans (Same.made no ndo q3)
    have hl3 : H3 l = some (.lst (vi (els d n))) := Same.made no ndo q3 _ _ (sl _ _ hl)
    -- the children, the counts, a number far off
    refine ⟨_, rfl, l, d, n, rfl, hl3, wd', hn, fun c H4 s4 K4 => ?_⟩
    refine ⟨_, rfl, l, d, n, rfl, s4 _ _ hl3, wd', hn, fun t dl ul H5 s5 ht hdl hul => ?_⟩
    refine ⟨t, _, rfl, SqT.of ht, rfl, _, _, rfl, _, _, rfl, rfl, ?_⟩
    have s15 : Same H H5 := (s3.trans s4).trans s5
    refine ⟨_, rfl, a, 2, ns, rfl, s15.seq hS, by decide, fun z => ⟨z, 7, rfl, by decide, by decide, fun x x0 x1 => ⟨_, _, rfl, rfl, ⟨by decide, by decide, by omega⟩, _, _, rfl, rfl, ?_⟩⟩⟩
    obtain ⟨far, hfar⟩ : ∃ far : Int, far = 60 + x ^ (3 : Int).toNat := ⟨_, rfl⟩
    obtain ⟨cs, zt, hcl, hc4, hck, hcz⟩ := K4.ob
    have hc := s5 _ _ hc4
    have hl5 := s5 _ _ (s4 _ _ hl3)
    have O5 := (O3.same s4).same s5
    obtain ⟨dx, p, ho, _⟩ := id O5.ob
    refine ⟨_, rfl, l, _, rfl, .inl (SqL.of hl5), _, rfl, by rw [vi_len, els_len]; omega, by rw [vi_len, els_len]; omega, for_range (lo := 0) (n := (((vi (els d n)).length : Nat) : Int).toNat) (fun i σ H6 => ∃ x y z, σ = [some (.ref a), some (.ref l), some (.ref o), some (.ref c), some (.ref dl), some (.ref ul), some (.int far), x, y, z, none] ∧ Same H5 H6) ⟨none, none, none, by rw [hfar]; rfl, Same.refl _⟩ ?_ ?_⟩
    · rintro i σ H6 hi ⟨x, y, z, rfl, s6⟩
      rw [Int.toNat_natCast, vi_len, els_len] at hi
      rw [show (0 : Int) + (i : Int) = (i : Int) by omega]
      have hci : cs[i]? = some cs[i] := List.getElem?_eq_getElem (by omega)
      have hki := s5 _ _ (hck i _ hci)
      generalize cs[i] = ci at *
      have hcat : ((cs ++ [zt]).map V.ref)[i]? = some (V.ref ci) := by
        rw [List.getElem?_map, List.getElem?_append_left (by omega), hci]
        rfl
      -- some = children[knot]
      refine ⟨_, rfl, _, rfl, c, _, _, _, rfl, rfl, SqL.of (s6 _ _ hc), atI_nat hcat, ?_⟩
      -- many
      refine ⟨_, rfl, o, dx, _, rfl, s6 _ _ ho, flO_no _ _ (by decide +kernel), _, rfl, o, i, d, n, rfl, O5.same s6, wd', hn, hi, fun H7 s7 => ?_⟩
      have s57 := s6.trans s7
      refine ⟨_, rfl, ci, _, rfl, .inl (SqL.of (s57 _ _ hki)), _, congrArg (fun q => [V.int (((kids d (i : Int) n).length : Nat) : Int), V.int ((q : Nat) : Int)]) vi_len, _, rfl, iteF ?_⟩
      -- beneath
      refine ⟨_, rfl, o, dx, _, rfl, s57 _ _ ho, flO_no _ _ (by decide +kernel), _, rfl, o, i, d, n, rfl, O5.same s57, wd', hn, hi, fun H8 s8 => ?_⟩
      have s58 := s57.trans s8
      refine ⟨_, rfl, _, rfl, ul, _, _, _, rfl, rfl, SqL.of (s58 _ _ hul), atI_nat (vi_get (unders_get hi)), _, rfl, _, rfl, iteF ?_⟩
      -- depth
      refine ⟨_, rfl, o, dx, _, rfl, s58 _ _ ho, flO_no _ _ (by decide +kernel), _, rfl, o, i, d, n, rfl, O5.same s58, wd', hn, hi, fun H9 s9 => ?_⟩
      have s59 := s58.trans s9
      refine ⟨_, rfl, _, rfl, dl, _, _, _, rfl, rfl, SqL.of (s59 _ _ hdl), atI_nat (vi_get (deeps_get hi)), _, rfl, _, rfl, iteF ?_⟩
      -- nth
      have hk9 := SqL.of (K := K) (s59 _ _ hki)
      refine ⟨_, rfl, ci, _, rfl, .inl hk9, _, _, rfl, rfl, ⟨by decide, by decide⟩, _, rfl, ci, _, rfl, .inl hk9, _, _, rfl, rfl, _, rfl, ci, _, rfl, .inl hk9, _, rfl, (by show 5 ≤ sizeLine; decide), fun q nq => ?_⟩
      generalize eL : (((vi (kids d (i : Int) n)).length : Nat) : Int) = L at *
      have sq : Same H9 (upd H9 q (.lst (vi [0, L / 2, L - 1, L, far]))) := same_upd nq
      have hq : (upd H9 q (.lst (vi [0, L / 2, L - 1, L, far]))) q = some (.lst (vi [0, L / 2, L - 1, L, far])) := upd_same
      refine ⟨q, rfl, ⟨_, SqL.of upd_same⟩, ?_⟩
      show ∃ W, _
      refine for_it (walk_list (K := K) (a := q) (xs := vi [0, L / 2, L - 1, L, far])) (fun j σ H10 => ∃ z, σ = [some (.ref a), some (.ref l), some (.ref o), some (.ref c), some (.ref dl), some (.ref ul), some (.int far), some (.int (i : Nat)), some (.ref ci), z, none] ∧ Same (upd H9 q (.lst (vi [0, L / 2, L - 1, L, far]))) H10) ⟨_, rfl, Same.refl _⟩ (fun j σ H10 _ ⟨_, _, z⟩ => SqL.of (z _ _ hq)) ?_ ?_
      · rintro j v σ H10 H11 hj ⟨z, rfl, s10⟩ ⟨rfl, hv⟩
        obtain ⟨y, rfl⟩ := vi_inv hv
        have s510 := (s59.trans sq).trans s10
        refine ⟨_, rfl, _, _, rfl, rfl, _, rfl, ?_⟩
        by_cases h0 : 0 ≤ y
        · refine itD_t h0 ?_
          refine ⟨_, rfl, o, dx, _, rfl, s510 _ _ ho, flO_no _ _ (by decide +kernel), _, rfl, _, rfl, o, i, y, d, n, rfl, O5.same s510, wd', hn, hi, h0, fun H12 s12 => ?_⟩
          refine ⟨_, rfl, _, rfl, ci, y, kids d (i : Int) n, rfl, s12 _ _ (s510 _ _ hki), h0, kids d (i : Int) n, y, rfl, _, rfl, iteF ?_⟩
          exact ⟨_, rfl, s10.trans s12⟩
        · refine itD_f h0 (iteF ?_)
          exact ⟨_, rfl, s10⟩
      · rintro σ H10 ⟨z, rfl, s10⟩
        exact ⟨_, _, _, rfl, (s59.trans sq).trans s10⟩
    · rintro σ H6 ⟨x, y, z, rfl, s6⟩
      have hz := s5 _ _ hcz
      have hc6 := s6 _ _ hc
      rw [List.map_append] at hc6
      -- tops = children[-1]
      refine ⟨_, rfl, _, rfl, c, _, _, _, rfl, rfl, SqL.of hc6, atI_last _ _, ?_⟩
      have hz6 := SqL.of (K := K) (s6 _ _ hz)
      refine ⟨_, rfl, zt, _, rfl, .inl hz6, _, _, rfl, rfl, ⟨by decide, by decide⟩, _, rfl, zt, _, rfl, .inl hz6, _, _, rfl, rfl, _, rfl, zt, _, rfl, .inl hz6, _, rfl, (by show 6 ≤ sizeLine; decide), fun q nq => ?_⟩
      generalize eL : (((vi (kids d (-1) n)).length : Nat) : Int) = L at *
      have sq : Same H6 (upd H6 q (.lst (vi [0, 1, L / 2, L - 1, L, far]))) := same_upd nq
      have hq : (upd H6 q (.lst (vi [0, 1, L / 2, L - 1, L, far]))) q = some (.lst (vi [0, 1, L / 2, L - 1, L, far])) := upd_same
      refine ⟨q, rfl, ⟨_, SqL.of upd_same⟩, ?_⟩
      refine for_it (walk_list (K := K) (a := q) (xs := vi [0, 1, L / 2, L - 1, L, far])) (fun j σ H10 => ∃ x y z, σ = [some (.ref a), some (.ref l), some (.ref o), some (.ref c), some (.ref dl), some (.ref ul), some (.int far), x, y, z, some (.ref zt)] ∧ Same (upd H6 q (.lst (vi [0, 1, L / 2, L - 1, L, far]))) H10) ⟨_, _, _, rfl, Same.refl _⟩ (fun j σ H10 _ ⟨_, _, _, _, z⟩ => SqL.of (z _ _ hq)) ?_ ?_
      · rintro j v σ H10 H11 hj ⟨x, y, z, rfl, s10⟩ ⟨rfl, hv⟩
        obtain ⟨y, rfl⟩ := vi_inv hv
        have s510 := (s6.trans sq).trans s10
        refine ⟨_, rfl, _, _, rfl, rfl, _, rfl, ?_⟩
        by_cases h0 : 0 ≤ y
        · refine itD_t h0 ?_
          refine ⟨_, rfl, o, dx, _, rfl, s510 _ _ ho, flO_no _ _ (by decide +kernel), _, rfl, o, y, d, n, rfl, O5.same s510, wd', hn, h0, fun H12 s12 => ?_⟩
          refine ⟨_, rfl, _, rfl, zt, y, kids d (-1) n, rfl, s12 _ _ (s510 _ _ hz), h0, kids d (-1) n, y, rfl, _, rfl, iteF ?_⟩
          exact ⟨_, _, _, rfl, s10.trans s12⟩
        · refine itD_f h0 (iteF ?_)
          exact ⟨_, _, _, rfl, s10⟩
      · rintro σ H10 ⟨x, y, z, rfl, s10⟩
        have s510 := (s6.trans sq).trans s10
        refine ⟨_, rfl, o, dx, _, rfl, s510 _ _ ho, flO_no _ _ (by decide +kernel), o, d, n, rfl, O5.same s510, wd', hn, fun H12 s12 => ?_⟩
        exact ⟨_, rfl, zt, _, rfl, .inl (SqL.of (s12 _ _ (s510 _ _ hz))), _, congrArg (fun q => [V.int (((kids d (-1) n).length : Nat) : Int), V.int ((q : Nat) : Int)]) vi_len, k _⟩
end
end Tw
/-! The head: one run of the top in the kernel. -/
namespace Tw
open PySem PySem.Spec PyProof.Rows L2
def loose0 : List Str := ["_wall", "__name__", "WoodError", "NoBits", "NoPlace", "NoRow", "NoWood", "NoKnot", "WORD_words", "ones_in", "nth_one", "MOST_bits", "is_amid", "words_of", "Bits", "BLOCK", "FULL", "is_whole", "is_whole_counts", "need_bit", "Counts", "STRETCH", "MOST_pairs", "WORD_pairs", "is_whole_pairs", "ask_row", "table_of", "Pairs", "MOST_woods", "look_at"]
def loose1 : List Str := ["row_of", "elders_of", "Wood", "is_number", "one_of", "Opened", "_law_cell_at", "_law_mixed", "_law_elders", "_law_wood", "_law_children", "_law_is", "_law_is_or_none", "_law_counted", "_law_at"]
def loose : List Str := loose0 ++ loose1
def adr0 : List Addr := [3, 224, 223, 325, 324, 493, 492, 815, 814, 612, 611, 115, 114, 122, 121, 129, 128, 136, 135, 235, 234, 242, 241, 336, 335, 343, 342, 350, 349, 504]
def adr1 : List Addr := [503, 511, 510, 623, 622, 630, 629, 824, 823, 831, 830, 838, 837, 845, 844, 850, 849, 857, 856, 864, 863, 871, 870, 878, 877, 885, 884, 148, 147, 155]
def adr2 : List Addr := [154, 167, 166, 174, 173, 181, 180, 188, 187, 254, 253, 266, 265, 273, 272, 280, 279, 287, 286, 294, 293, 301, 300, 308, 307, 364, 363, 371, 370, 392]
def adr3 : List Addr := [391, 399, 398, 406, 405, 413, 412, 420, 419, 434, 433, 441, 440, 455, 454, 469, 468, 476, 475, 490, 489, 644, 643, 651, 650, 672, 671, 679, 678, 742]
def adr4 : List Addr := [741, 749, 748, 756, 755, 763, 762, 770, 769, 777, 776, 784, 783, 791, 790]
def adr : List Addr := adr0 ++ adr1 ++ adr2 ++ adr3 ++ adr4
abbrev R : PySem.W.OpenRow := PySem.W.OpenLaw.row PySem.Challenge.rw_tightwood_k34_counts
def obX (g : Addr → Option Obj) : He.AlD := He.obsD fa fn (He.frG g adr)
def hk : PySem.W.Hook where
  α := He.AlD
  obs := fun s => obX s.heap.get?
  val := fun _ => He.valD fn
  says := fun _ h => ∃ K : PySem.W.Frag, K.In h ∧ He.SaysD fa fn K
  of := fun _ _ e => ⟨_, He.frG_in, e⟩
  keeps := fun _ _ _ z kp => z.elim fun K q => ⟨K, PySem.W.Frag.In.keeps q.1 kp, q.2⟩
def ob (s : PySem.W.SharedT) : He.AlD := obX (HandSHeadRun.getT s)
theorem ob_eq (s : PySem.W.SharedT) : ob s = hk.obs s.abs := congrArg obX (funext (HandSHeadRun.getT_eq s))
theorem run (w : World) : HandSHeadRun.RunEq R (PySem.W.view R.prog [53]) hk ob 6000 loose w := by
  intro os
  kernel_rfl
end Tw
/-! The end. -/
namespace Tw
open PySem PySem.Spec PyProof.Rows L2
theorem facts {P : Program} {w : World} {K : PySem.W.Frag} {h : Heap} {mg : Str → Option Value} {f : Addr} (X : K.In h) (G : h.Ns mainGlobals mg) (hfa : mg ("law" : Str) = some (.ref f)) (c : He.SaysD fa fn K) :
    ∃ fd : FuncData, (∀ (s : Shared) (v : Value), BindsTo s fd ⟨[v], []⟩ [("_law_script", v)]) ∧ ∀ base : Heap, K.In base → base.Ns mainGlobals mg → FnOk P w K mg base CX0 11 f fd ["_law_script"] (sp_law K) := by
  have T : Top K mg := top_of X G c
  have e := hfa.symm.trans T.g_law
  cases e
  obtain ⟨fd, F⟩ := T.f_law
  have b := FunD.bindsA (ps := ["_law_script"]) F fun _ _ _ _ _ _ us hl => match us, hl with | [_], _ => rfl
  refine ⟨fd, fun s v => b s [v] rfl, fun base _ _ => ?_⟩
  have O_l_mixed := ok_l_mixed (P := P) (w := w) (base := base) T
  have O_l_cell_at := ok_l_cell_at (P := P) (w := w) (base := base) T
  have O_l_elders := ok_l_elders (P := P) (w := w) (base := base) T O_l_mixed
  have O_l_wood := ok_l_wood (P := P) (w := w) (base := base) T O_l_mixed O_l_cell_at O_l_elders
  have O_ask_row := ok_ask_row (P := P) (w := w) (base := base) T
  have O_words_of := ok_words_of (P := P) (w := w) (base := base) T
  have O_Bits_init := ok_Bits_init (P := P) (w := w) (base := base) T O_words_of
  have O_Bits_words := ok_Bits_words (P := P) (w := w) (base := base) T
  have O_Bits_size := ok_Bits_size (P := P) (w := w) (base := base) T
  have O_ones_in := ok_ones_in (P := P) (w := w) (base := base) T
  have O_Counts_init := ok_Counts_init (P := P) (w := w) (base := base) T O_Bits_words O_Bits_size O_ones_in
  have O_table_of := ok_table_of (P := P) (w := w) (base := base) T
  have O_Pairs_init := ok_Pairs_init (P := P) (w := w) (base := base) T O_ask_row O_Bits_init O_Bits_words O_Counts_init O_table_of
  have O_row_of := ok_row_of (P := P) (w := w) (base := base) T
  have O_look_at := ok_look_at (P := P) (w := w) (base := base) T
  have O_Opened_init := ok_Opened_init (P := P) (w := w) (base := base) T O_Pairs_init O_row_of O_look_at
  have O_l_children := ok_l_children (P := P) (w := w) (base := base) T
  have O_l_counted := ok_l_counted (P := P) (w := w) (base := base) T
  have O_l_is := ok_l_is (P := P) (w := w) (base := base) T
  have O_Pairs_size := ok_Pairs_size (P := P) (w := w) (base := base) T O_Bits_size
  have O_Opened_many_knots := ok_Opened_many_knots (P := P) (w := w) (base := base) T O_Pairs_size
  have O_is_number := ok_is_number (P := P) (w := w) (base := base) T
  have O_is_whole_counts := ok_is_whole_counts (P := P) (w := w) (base := base) T
  have O_need_bit := ok_need_bit (P := P) (w := w) (base := base) T O_is_whole_counts
  have O_Counts_all_like := ok_Counts_all_like (P := P) (w := w) (base := base) T
  have O_Counts_like_ahead := ok_Counts_like_ahead (P := P) (w := w) (base := base) T
  have O_Counts_block_of := ok_Counts_block_of (P := P) (w := w) (base := base) T O_Counts_like_ahead
  have O_Counts_like := ok_Counts_like (P := P) (w := w) (base := base) T
  have O_nth_one := ok_nth_one (P := P) (w := w) (base := base) T O_ones_in
  have O_Counts_place_of := ok_Counts_place_of (P := P) (w := w) (base := base) T O_need_bit O_Counts_all_like O_is_whole_counts O_Counts_block_of O_Counts_like_ahead O_ones_in O_Counts_like O_nth_one
  have O_Pairs_opening := ok_Pairs_opening (P := P) (w := w) (base := base) T O_Counts_place_of
  have O_Opened_opening := ok_Opened_opening (P := P) (w := w) (base := base) T O_Opened_many_knots O_is_number O_Pairs_opening
  have O_Counts_ones_ahead := ok_Counts_ones_ahead (P := P) (w := w) (base := base) T O_ones_in
  have O_Counts_ahead := ok_Counts_ahead (P := P) (w := w) (base := base) T O_need_bit O_is_whole_counts O_Counts_ones_ahead
  have O_Pairs_opens_ahead := ok_Pairs_opens_ahead (P := P) (w := w) (base := base) T O_Counts_ahead
  have O_Pairs_step := ok_Pairs_step (P := P) (w := w) (base := base) T
  have O_Opened_beside := ok_Opened_beside (P := P) (w := w) (base := base) T O_Pairs_opens_ahead O_Pairs_step
  have O_is_amid := ok_is_amid (P := P) (w := w) (base := base) T
  have O_Bits_need := ok_Bits_need (P := P) (w := w) (base := base) T O_is_amid
  have O_Bits_at := ok_Bits_at (P := P) (w := w) (base := base) T
  have O_Bits_bit := ok_Bits_bit (P := P) (w := w) (base := base) T O_Bits_need O_Bits_at
  have O_Pairs_opening_of := ok_Pairs_opening_of (P := P) (w := w) (base := base) T O_Bits_bit
  have O_Pairs_height := ok_Pairs_height (P := P) (w := w) (base := base) T O_Counts_ahead
  have O_is_whole_pairs := ok_is_whole_pairs (P := P) (w := w) (base := base) T
  have O_Pairs_ask_height := ok_Pairs_ask_height (P := P) (w := w) (base := base) T O_Pairs_height O_is_whole_pairs
  have O_Pairs_ends_of := ok_Pairs_ends_of (P := P) (w := w) (base := base) T O_Pairs_size
  have O_Pairs_first_in := ok_Pairs_first_in (P := P) (w := w) (base := base) T O_Pairs_height O_Pairs_step
  have O_Pairs_next_at := ok_Pairs_next_at (P := P) (w := w) (base := base) T O_Pairs_ask_height O_Pairs_ends_of O_Pairs_first_in
  have O_Pairs_partner := ok_Pairs_partner (P := P) (w := w) (base := base) T O_Pairs_opening_of O_Pairs_next_at O_Pairs_height
  have O_Opened_closing := ok_Opened_closing (P := P) (w := w) (base := base) T O_Pairs_partner O_Opened_opening
  have O_Opened_children := ok_Opened_children (P := P) (w := w) (base := base) T O_Opened_opening O_Opened_beside O_Opened_closing
  have O_Opened_many := ok_Opened_many (P := P) (w := w) (base := base) T O_Opened_children
  have O_Opened_beneath := ok_Opened_beneath (P := P) (w := w) (base := base) T O_Opened_closing O_Opened_opening
  have O_Pairs_depth := ok_Pairs_depth (P := P) (w := w) (base := base) T O_Pairs_height O_Pairs_opening_of
  have O_Opened_depth := ok_Opened_depth (P := P) (w := w) (base := base) T O_Pairs_depth O_Opened_opening
  have O_l_is_or_none := ok_l_is_or_none (P := P) (w := w) (base := base) T O_l_is
  have O_l_at := ok_l_at (P := P) (w := w) (base := base) T
  have O_one_of := ok_one_of (P := P) (w := w) (base := base) T O_is_number
  have O_Opened_nth := ok_Opened_nth (P := P) (w := w) (base := base) T O_one_of O_Opened_children
  have O_Opened_top := ok_Opened_top (P := P) (w := w) (base := base) T O_one_of O_Opened_beside O_Pairs_size
  have O_Opened_many_tops := ok_Opened_many_tops (P := P) (w := w) (base := base) T O_Opened_beside O_Pairs_size
  exact ok_law T O_l_wood O_Opened_init O_l_children O_l_counted O_l_mixed O_l_cell_at O_l_is O_Opened_many O_Opened_beneath O_Opened_depth O_l_is_or_none O_l_at O_Opened_nth O_Opened_top O_Opened_many_tops F
end Tw
open PySem PySem.W PySem.Calls PyProof.Rows
set_option maxRecDepth 100000 in
set_option maxHeartbeats 0 in
theorem PySem.Challenge.cw_tightwood_k34_counts_holds : PySem.Challenge.rw_tightwood_k34_counts.Holds := by
  w_on; o_law
  refine HandSHeadRun.head_any (r := OpenLaw.row PySem.Challenge.rw_tightwood_k34_counts) (q := view (OpenLaw.row PySem.Challenge.rw_tightwood_k34_counts).prog [53]) (H := Tw.hk) (ob := Tw.ob) (M := 6000) (loose := Tw.loose) (d := HandSHeadRun.topDef (OpenLaw.row PySem.Challenge.rw_tightwood_k34_counts).prog 53) (kwd := []) Tw.ob_eq
    (by kernel_rfl) (fun s => by kernel_rfl) Tw.run (by kernel_rfl) (by kernel_rfl) (by kernel_rfl) (by rfl) (by first | assumption | decide +kernel) (by decide +kernel) ⟨rfl, rfl, rfl, rfl, rfl, by decide +kernel⟩ ?hw ?hc
  case hw => w_witness2
  case hc =>
    refine L2.walk_ofE (l := PySem.Challenge.rw_tightwood_k34_counts) (n := 63) (k := 11) (x := "_law_script") (CX := L2.CX0) rfl (by decide) (by kernel_rfl) ⟨rfl, by decide, by decide⟩ ?F (fun _ _ _ _ z => z)
    intro w mg fa h Y G hmg0
    obtain ⟨K, KX, c⟩ := Y
    have hmg : mg ("law" : PySem.Str) = some (.ref fa) := by
      have e : (HandSHeadRun.topDef (OpenLaw.row PySem.Challenge.rw_tightwood_k34_counts).prog 53).name = ("law" : PySem.Str) := by kernel_rfl
      rw [← e]
      exact hmg0
    obtain ⟨fd, hb, hF⟩ := Tw.facts (P := (PySem.Challenge.rw_tightwood_k34_counts).prog) (w := w) KX G hmg c
    exact ⟨K, fd, Tw.sp_law K, KX, hb, fun H a ns hl _ hS => ⟨a, ns, rfl, hS, fun _ => rfl⟩, hF⟩
