import PyProof.Rows.All
import Wide.All
import OpenK.AllK
import Wide.FinOn
import PyProof.EqAt
import PyProof.EqKinds
import PyProof.TupleCall
import PyProof.ReprLen
import PyProof.ReprRoads
import KE.KTupSum
import KE.DatumOrd
import KE.GoesMore
import KE.GoesEnum
import HandS.ForMost
import HandS.TupAny
import HandS.IsInst
import HandS.Walk
import HandS.Deep
import HandS.Style
import HandS.Defaults
import HandS.HeadHook1
import HandS.HeadHook2
import HandS.HeadEnd
import KE.KStateDown
import Lean
import HandS.More
import HandS.Words
import HandS.WordsExc
import HandS.Head0
import HandS.Head1
import HandS.Head2
import PySem.Challenge.RW_notewire_k44_whole_paces
set_option linter.all false
/-! The plain law: what waits on the wire, in plain Lean. -/
namespace PW

/-- one beat: what waits behind it -/
def nxt (p w x : Int) : Int := max 0 (w + x - p)
/-- what waits at the ends of the beats of a row -/
def film (p : Int) : Int → List Int → List Int
  | _, [] => []
  | w, x :: r => nxt p w x :: film p (nxt p w x) r
/-- what waits at the end of a row -/
def fend (p : Int) : Int → List Int → Int
  | w, [] => w
  | w, x :: r => fend p (nxt p w x) r
/-- the load of a beat -/
def ldAt (as rs : List Int) (b : Nat) : Int := if b < as.length then as.getD b 0 else rs.getD ((b - as.length) % rs.length) 0
/-- what waits at the beginning of a beat -/
def wt (p : Int) (as rs : List Int) : Nat → Int
  | 0 => 0
  | b + 1 => nxt p (wt p as rs b) (ldAt as rs b)
/-- what waits at the ends of the first n beats -/
def fw (p : Int) (as rs : List Int) (n : Nat) : List Int := (List.range n).map fun b => wt p as rs (b + 1)
/-- the sum of the loads of the beats ahead of one -/
def sm (as rs : List Int) : Nat → Int
  | 0 => 0
  | b + 1 => sm as rs b + ldAt as rs b
/-- what a ring has more than is sent -/
def gr (p : Int) (rs : List Int) : Int := rs.sum - p * (rs.length : Int)
/-- loads as they are meant -/
structure Good (as rs : List Int) : Prop where
  la : as.length ≤ 30
  lr : rs.length ≤ 30
  pos : 0 < rs.length
  ba : ∀ x ∈ as, 0 ≤ x ∧ x ≤ 1000
  br : ∀ x ∈ rs, 0 ≤ x ∧ x ≤ 1000

theorem nxt_nn (p w x : Int) : 0 ≤ nxt p w x := by unfold nxt; omega
theorem nxt_mono {p w v x : Int} (h : w ≤ v) : nxt p w x ≤ nxt p v x := by unfold nxt; omega
theorem film_len (p : Int) : ∀ (xs : List Int) (w : Int), (film p w xs).length = xs.length
  | [], _ => rfl
  | x :: r, w => by
    show (film p (nxt p w x) r).length + 1 = r.length + 1
    rw [film_len p r]
theorem film_nn (p : Int) : ∀ (xs : List Int) (w : Int), ∀ y ∈ film p w xs, 0 ≤ y
  | [], _, y, h => by cases h
  | x :: r, w, y, h => by
    rcases List.mem_cons.mp h with rfl | h
    · exact nxt_nn _ _ _
    · exact film_nn p r _ y h
theorem film_app (p : Int) : ∀ (xs ys : List Int) (w : Int), film p w (xs ++ ys) = film p w xs ++ film p (fend p w xs) ys
  | [], _, _ => rfl
  | x :: r, ys, w => by
    show nxt p w x :: film p (nxt p w x) (r ++ ys) = nxt p w x :: (film p (nxt p w x) r ++ film p (fend p (nxt p w x) r) ys)
    rw [film_app p r ys]
theorem fend_app (p : Int) : ∀ (xs ys : List Int) (w : Int), fend p w (xs ++ ys) = fend p (fend p w xs) ys
  | [], _, _ => rfl
  | x :: r, ys, w => fend_app p r ys (nxt p w x)
theorem film_snoc (p w x : Int) (xs : List Int) : film p w (xs ++ [x]) = film p w xs ++ [nxt p (fend p w xs) x] := film_app p xs [x] w
theorem film_at (p : Int) : ∀ (xs : List Int) (w : Int) (i : Nat), i < xs.length → (film p w xs)[i]? = some (fend p w (xs.take (i + 1)))
  | [], _, i, h => absurd h (Nat.not_lt_zero _)
  | x :: r, w, 0, _ => rfl
  | x :: r, w, i + 1, h => by
    show (film p (nxt p w x) r)[i]? = some (fend p (nxt p w x) (r.take (i + 1)))
    exact film_at p r _ i (Nat.lt_of_succ_lt_succ h)
theorem fend_nn {p : Int} : ∀ {xs : List Int} {w : Int}, 0 ≤ w → 0 ≤ fend p w xs
  | [], _, h => h
  | x :: r, w, _ => fend_nn (xs := r) (nxt_nn p w x)
theorem fend_mono {p : Int} : ∀ {xs : List Int} {w v : Int}, w ≤ v → fend p w xs ≤ fend p v xs
  | [], _, _, h => h
  | x :: r, _, _, h => fend_mono (xs := r) (nxt_mono h)
theorem film_last (p : Int) (xs : List Int) (w : Int) : ([w] ++ film p w xs).getLast? = some (fend p w xs) := by
  induction xs generalizing w with
  | nil => rfl
  | cons x r ih =>
    have h := ih (nxt p w x)
    show (w :: nxt p w x :: film p (nxt p w x) r).getLast? = some (fend p (nxt p w x) r)
    rw [List.getLast?_cons_cons]
    exact h
theorem fend_max (p : Int) : ∀ (xs : List Int) (w : Int), 0 ≤ w → fend p w xs = max (w + xs.sum - p * (xs.length : Int)) (fend p 0 xs)
  | [], w, h => by
    show w = max (w + 0 - p * 0) 0
    omega
  | x :: r, w, h => by
    have h1 := fend_max p r (nxt p w x) (nxt_nn _ _ _)
    have h2 := fend_max p r (nxt p 0 x) (nxt_nn _ _ _)
    have e : p * ((x :: r).length : Int) = p * (r.length : Int) + p := by
      rw [List.length_cons]
      show p * ((r.length : Int) + 1) = _
      rw [Int.mul_add, Int.mul_one]
    show fend p (nxt p w x) r = max (w + (x :: r).sum - p * ((x :: r).length : Int)) (fend p (nxt p 0 x) r)
    rw [e, List.sum_cons, h1, h2]
    unfold nxt
    generalize p * (r.length : Int) = q
    generalize fend p 0 r = c
    omega
theorem fend_ring (p : Int) (rs : List Int) {w : Int} (h : 0 ≤ w) : fend p w rs = max (w + gr p rs) (fend p 0 rs) := by
  rw [fend_max p rs w h]
  unfold gr
  generalize p * (rs.length : Int) = q
  congr 1
  omega

/-! ### the beats by place -/
section
variable {p : Int} {as rs : List Int}
theorem wt_nn (p : Int) (as rs : List Int) : ∀ b, 0 ≤ wt p as rs b
  | 0 => Int.le_refl 0
  | _ + 1 => nxt_nn _ _ _
theorem take_snoc : ∀ {xs : List Int} {i : Nat}, i < xs.length → xs.take (i + 1) = xs.take i ++ [xs.getD i 0]
  | [], i, h => absurd h (Nat.not_lt_zero _)
  | x :: r, 0, _ => rfl
  | x :: r, i + 1, h => by
    show x :: r.take (i + 1) = x :: (r.take i ++ [r.getD i 0])
    rw [take_snoc (Nat.lt_of_succ_lt_succ h)]
theorem ld_ahead {b : Nat} (h : b < as.length) : ldAt as rs b = as.getD b 0 := if_pos h
theorem ld_ring {n i : Nat} (h : i < rs.length) : ldAt as rs (as.length + n * rs.length + i) = rs.getD i 0 := by
  unfold ldAt
  rw [if_neg (by omega)]
  congr 1
  rw [show as.length + n * rs.length + i - as.length = i + rs.length * n by rw [Nat.mul_comm]; omega, Nat.add_mul_mod_self_left]
  exact Nat.mod_eq_of_lt h
theorem wt_ahead : ∀ {i : Nat}, i ≤ as.length → wt p as rs i = fend p 0 (as.take i)
  | 0, _ => by rw [List.take_zero]; rfl
  | i + 1, h => by
    show nxt p (wt p as rs i) (ldAt as rs i) = _
    rw [take_snoc h, fend_app, wt_ahead (Nat.le_of_succ_le h), ld_ahead h]
    rfl
theorem wt_ring {n : Nat} : ∀ {i : Nat}, i ≤ rs.length → wt p as rs (as.length + n * rs.length + i) = fend p (wt p as rs (as.length + n * rs.length)) (rs.take i)
  | 0, _ => by rw [List.take_zero]; rfl
  | i + 1, h => by
    show nxt p (wt p as rs (as.length + n * rs.length + i)) (ldAt as rs (as.length + n * rs.length + i)) = _
    rw [take_snoc h, fend_app, wt_ring (Nat.le_of_succ_le h), ld_ring h]
    rfl
/-- what waits at the beginning of a ring -/
def B (p : Int) (as rs : List Int) (n : Nat) : Int := wt p as rs (as.length + n * rs.length)
theorem B_zero : B p as rs 0 = fend p 0 as := by
  unfold B
  rw [Nat.zero_mul, Nat.add_zero, wt_ahead (Nat.le_refl _), List.take_length]
theorem B_nn (n : Nat) : 0 ≤ B p as rs n := wt_nn _ _ _ _
theorem B_succ (n : Nat) : B p as rs (n + 1) = fend p (B p as rs n) rs := by
  unfold B
  rw [show as.length + (n + 1) * rs.length = as.length + n * rs.length + rs.length by rw [Nat.add_mul, Nat.one_mul]; omega, wt_ring (Nat.le_refl _), List.take_length]
theorem wt_B (n : Nat) {i : Nat} (h : i ≤ rs.length) : wt p as rs (as.length + n * rs.length + i) = fend p (B p as rs n) (rs.take i) := wt_ring h
theorem nmul_sign {g : Int} (n : Nat) : (0 ≤ g → 0 ≤ (n : Int) * g) ∧ (g ≤ 0 → (n : Int) * g ≤ 0) := by
  refine ⟨fun h => Int.mul_nonneg (Int.natCast_nonneg n) h, fun h => ?_⟩
  have := Int.mul_nonneg (Int.natCast_nonneg n) (show 0 ≤ -g by omega)
  rw [Int.mul_neg] at this
  omega
/-- before_ring -/
theorem B_at : ∀ n : Nat, B p as rs (n + 1) = max (fend p 0 as + ((n + 1 : Nat) : Int) * gr p rs) (fend p 0 rs + max 0 (((n : Nat) : Int) * gr p rs))
  | 0 => by
    rw [B_succ, B_zero, fend_ring p rs (fend_nn (Int.le_refl 0))]
    have e1 : (((0 + 1 : Nat)) : Int) * gr p rs = gr p rs := by
      show (1 : Int) * gr p rs = gr p rs
      rw [Int.one_mul]
    have e2 : (((0 : Nat)) : Int) * gr p rs = 0 := Int.zero_mul _
    rw [e1, e2]
    omega
  | n + 1 => by
    rw [B_succ, fend_ring p rs (B_nn _), B_at n]
    have e1 : (((n + 1 + 1 : Nat)) : Int) * gr p rs = (n : Int) * gr p rs + gr p rs + gr p rs := by
      rw [show (((n + 1 + 1 : Nat)) : Int) = (n : Int) + 1 + 1 by omega, Int.add_mul, Int.add_mul, Int.one_mul]
    have e2 : (((n + 1 : Nat)) : Int) * gr p rs = (n : Int) * gr p rs + gr p rs := by
      rw [show (((n + 1 : Nat)) : Int) = (n : Int) + 1 by omega, Int.add_mul, Int.one_mul]
    obtain ⟨s1, s2⟩ := nmul_sign (g := gr p rs) n
    rw [e1, e2]
    generalize (n : Int) * gr p rs = t at *
    generalize gr p rs = g at *
    generalize fend p 0 as = f
    generalize fend p 0 rs = c
    by_cases hg : 0 ≤ g
    · have := s1 hg
      omega
    · have := s2 (by omega)
      omega

/-! ### the film -/
theorem fw_len (n : Nat) : (fw p as rs n).length = n := by unfold fw; rw [List.length_map, List.length_range]
theorem fw_at {n i : Nat} (h : i < n) : (fw p as rs n)[i]? = some (wt p as rs (i + 1)) := by
  unfold fw
  rw [List.getElem?_map, List.getElem?_range h]
  rfl
theorem fw_mem {n : Nat} {y : Int} : y ∈ fw p as rs n ↔ ∃ b, b < n ∧ wt p as rs (b + 1) = y := by
  unfold fw
  rw [List.mem_map]
  exact ⟨fun ⟨b, h, e⟩ => ⟨b, List.mem_range.mp h, e⟩, fun ⟨b, h, e⟩ => ⟨b, List.mem_range.mpr h, e⟩⟩
theorem fw_succ (n : Nat) : fw p as rs (n + 1) = fw p as rs n ++ [wt p as rs (n + 1)] := by
  unfold fw
  rw [List.range_succ, List.map_append]
  rfl
theorem fw_ne {n : Nat} (h : 0 < n) : fw p as rs n ≠ [] := fun e => by
  have q := fw_len (p := p) (as := as) (rs := rs) n
  rw [e] at q
  have q' : 0 = n := q
  omega
theorem fw_nn {n : Nat} : ∀ y ∈ fw p as rs n, 0 ≤ y := fun y h => by
  obtain ⟨b, _, rfl⟩ := fw_mem.mp h
  exact wt_nn _ _ _ _
theorem take_full {xs ys : List Int} {n : Nat} (h : n ≤ xs.length) : (xs ++ ys).take n = xs.take n := List.take_append_of_le_length h
/-- long_film -/
theorem film_fw : film p 0 (as ++ rs ++ rs) = fw p as rs (as.length + rs.length + rs.length) := by
  refine List.ext_getElem? fun i => ?_
  by_cases h : i < as.length + rs.length + rs.length
  · rw [fw_at h, film_at p _ 0 i (by rw [List.length_append, List.length_append]; exact h)]
    congr 1
    by_cases h1 : i + 1 ≤ as.length
    · rw [wt_ahead h1, List.append_assoc, take_full h1]
    · by_cases h2 : i + 1 ≤ as.length + rs.length
      · have e : i + 1 = as.length + 0 * rs.length + (i + 1 - as.length) := by omega
        rw [take_full (by rw [List.length_append]; omega), List.take_append, List.take_of_length_le (by omega), fend_app, ← B_zero (rs := rs), ← wt_B 0 (by omega), ← e]
      · have e : i + 1 = as.length + 1 * rs.length + (i + 1 - as.length - rs.length) := by omega
        have eB : B p as rs 1 = fend p 0 (as ++ rs) := by rw [B_succ, B_zero, fend_app]
        rw [List.take_append, List.take_of_length_le (by rw [List.length_append]; omega), fend_app, ← eB, List.length_append, show i + 1 - (as.length + rs.length) = i + 1 - as.length - rs.length by omega, ← wt_B 1 (by omega), ← e]
  · rw [List.getElem?_eq_none (by rw [film_len, List.length_append, List.length_append]; omega), List.getElem?_eq_none (by rw [fw_len]; omega)]
/-- film_of of what stands ahead -/
theorem film_ahead {i : Nat} (h : i < as.length) : (film p 0 as)[i]? = some (wt p as rs (i + 1)) := by
  rw [film_at p as 0 i h, wt_ahead h]
/-- film_of of a ring -/
theorem film_ring {n i : Nat} (h : i < rs.length) : (film p (B p as rs n) rs)[i]? = some (wt p as rs (as.length + n * rs.length + i + 1)) := by
  rw [film_at p rs _ i h]
  congr 1
  exact (wt_B n (i := i + 1) h).symm
/-- a beat behind what stands ahead lies in a ring -/
theorem beat_split (hp : 0 < rs.length) {b : Nat} (h : as.length ≤ b) : b = as.length + (b - as.length) / rs.length * rs.length + (b - as.length) % rs.length ∧ (b - as.length) % rs.length < rs.length := by
  have h1 := Nat.div_add_mod (b - as.length) rs.length
  rw [Nat.mul_comm] at h1
  exact ⟨by omega, Nat.mod_lt _ hp⟩

/-! ### greatest -/
def mx (xs : List Int) : Int := xs.foldl max 0
theorem foldl_ge : ∀ (xs : List Int) (a : Int), a ≤ xs.foldl max a ∧ ∀ y ∈ xs, y ≤ xs.foldl max a
  | [], a => ⟨Int.le_refl a, fun y h => by cases h⟩
  | x :: r, a => by
    obtain ⟨h1, h2⟩ := foldl_ge r (max a x)
    refine ⟨by show a ≤ r.foldl max (max a x); omega, fun y h => ?_⟩
    show y ≤ r.foldl max (max a x)
    rcases List.mem_cons.mp h with rfl | h
    · omega
    · exact h2 y h
theorem foldl_in : ∀ (xs : List Int) (a : Int), xs.foldl max a = a ∨ xs.foldl max a ∈ xs
  | [], a => .inl rfl
  | x :: r, a => by
    show r.foldl max (max a x) = a ∨ r.foldl max (max a x) ∈ x :: r
    rcases foldl_in r (max a x) with h | h
    · rw [h]
      by_cases q : a ≤ x
      · rw [Int.max_eq_right q]
        exact .inr (List.mem_cons_self ..)
      · rw [Int.max_eq_left (by omega)]
        exact .inl rfl
    · exact .inr (List.mem_cons_of_mem _ h)
theorem mx_ge {xs : List Int} {y : Int} (h : y ∈ xs) : y ≤ mx xs := (foldl_ge xs 0).2 y h
theorem mx_nn (xs : List Int) : 0 ≤ mx xs := (foldl_ge xs 0).1
theorem mx_mem {xs : List Int} (hne : xs ≠ []) (nn : ∀ y ∈ xs, 0 ≤ y) : mx xs ∈ xs := by
  rcases foldl_in xs 0 with h | h
  · cases xs with
    | nil => exact absurd rfl hne
    | cons x r =>
      have h1 := nn x (List.mem_cons_self ..)
      have h2 := mx_ge (xs := x :: r) (List.mem_cons_self ..)
      have e : mx (x :: r) = 0 := h
      have e2 : mx (x :: r) = x := by omega
      rw [e2]
      exact List.mem_cons_self ..
  · exact h
/-- what max(..) gives is mx -/
theorem mx_of {xs : List Int} (nn : ∀ y ∈ xs, 0 ≤ y) {m : Int} (h : m ∈ xs) (hle : ∀ y ∈ xs, y ≤ m) : m = mx xs := by
  have h1 := mx_ge h
  have h2 := hle _ (mx_mem (fun e => by rw [e] at h; cases h) nn)
  omega

/-! ### the greatest of all beats -/
theorem B_down (hg : gr p rs ≤ 0) (n : Nat) : B p as rs (n + 2) ≤ B p as rs (n + 1) := by
  have h1 := fend_mono (p := p) (xs := rs) (B_nn (p := p) (as := as) (rs := rs) n)
  rw [← B_succ] at h1
  rw [B_succ (n + 1), fend_ring p rs (B_nn _)]
  omega
theorem B_down1 (hg : gr p rs ≤ 0) : ∀ n : Nat, B p as rs (n + 1) ≤ B p as rs 1
  | 0 => Int.le_refl _
  | n + 1 => Int.le_trans (B_down hg n) (B_down1 hg n)
theorem wt_le_mx (hg : gr p rs ≤ 0) (hp : 0 < rs.length) (b : Nat) : wt p as rs (b + 1) ≤ mx (fw p as rs (as.length + rs.length + rs.length)) := by
  by_cases h : b < as.length + rs.length + rs.length
  · exact mx_ge (fw_mem.mpr ⟨b, h, rfl⟩)
  · obtain ⟨e, hi⟩ := beat_split (as := as) hp (b := b) (by omega)
    generalize hi' : (b - as.length) % rs.length = i at *
    generalize hn' : (b - as.length) / rs.length = n at *
    cases n with
    | zero => rw [Nat.zero_mul] at e; omega
    | succ n =>
      have h1 : wt p as rs (b + 1) ≤ wt p as rs (as.length + 1 * rs.length + i + 1) := by
        rw [e]
        show wt p as rs (as.length + (n + 1) * rs.length + (i + 1)) ≤ wt p as rs (as.length + 1 * rs.length + (i + 1))
        rw [wt_B (n + 1) (i := i + 1) hi, wt_B 1 (i := i + 1) hi]
        exact fend_mono (B_down1 hg n)
      exact Int.le_trans h1 (mx_ge (fw_mem.mpr ⟨as.length + 1 * rs.length + i, by omega, rfl⟩))
/-- the greatest of more beats is the greatest of two rings -/
theorem mx_more (hg : gr p rs ≤ 0) (hp : 0 < rs.length) {n : Nat} (hn : as.length + rs.length + rs.length ≤ n) : mx (fw p as rs n) = mx (fw p as rs (as.length + rs.length + rs.length)) := by
  have m1 := mx_mem (fw_ne (p := p) (as := as) (rs := rs) (n := as.length + rs.length + rs.length) (by omega)) fw_nn
  obtain ⟨b, hb, e⟩ := fw_mem.mp m1
  have m2 := mx_mem (fw_ne (p := p) (as := as) (rs := rs) (n := n) (by omega)) fw_nn
  obtain ⟨c, hc, e2⟩ := fw_mem.mp m2
  have h1 : mx (fw p as rs (as.length + rs.length + rs.length)) ≤ mx (fw p as rs n) := mx_ge (fw_mem.mpr ⟨b, by omega, e⟩)
  have h2 := wt_le_mx (p := p) (as := as) hg hp c
  omega
/-- WORST: none, or the greatest of all -/
def wo (p : Int) (as rs : List Int) : Option Int := if 0 < gr p rs then none else some (mx (fw p as rs (as.length + rs.length + rs.length)))
theorem wo_none {p : Int} {as rs : List Int} (h : 0 < gr p rs) : wo p as rs = none := if_pos h
theorem wo_some {p : Int} {as rs : List Int} (h : ¬ 0 < gr p rs) : wo p as rs = some (mx (fw p as rs (as.length + rs.length + rs.length))) := if_neg h

/-! ### bounds -/
theorem getD_bd {xs : List Int} (h : ∀ x ∈ xs, 0 ≤ x ∧ x ≤ 1000) (i : Nat) : 0 ≤ xs.getD i 0 ∧ xs.getD i 0 ≤ 1000 := by
  rw [List.getD_eq_getElem?_getD]
  cases q : xs[i]? with
  | none => exact ⟨Int.le_refl 0, by decide⟩
  | some y => exact h y (List.mem_of_getElem? q)
theorem ld_bd (G : Good as rs) (b : Nat) : 0 ≤ ldAt as rs b ∧ ldAt as rs b ≤ 1000 := by
  unfold ldAt
  split
  · exact getD_bd G.ba _
  · exact getD_bd G.br _
theorem wt_bd (G : Good as rs) (hp : 0 ≤ p) : ∀ b : Nat, wt p as rs b ≤ 1000 * (b : Int)
  | 0 => by show (0 : Int) ≤ _; omega
  | b + 1 => by
    have h1 := wt_bd G hp b
    have h2 := ld_bd G b
    show nxt p (wt p as rs b) (ldAt as rs b) ≤ _
    unfold nxt
    omega
theorem sum_bd : ∀ {xs : List Int}, (∀ x ∈ xs, 0 ≤ x ∧ x ≤ 1000) → 0 ≤ xs.sum ∧ xs.sum ≤ 1000 * (xs.length : Int)
  | [], _ => ⟨Int.le_refl 0, by simp⟩
  | x :: r, h => by
    obtain ⟨h1, h2⟩ := sum_bd (xs := r) fun y hy => h y (List.mem_cons_of_mem _ hy)
    have h3 := h x (List.mem_cons_self ..)
    rw [List.sum_cons, List.length_cons]
    omega
theorem nxt_top {w x : Int} (hw : w ≤ 0) (hx : x ≤ 1000) : nxt 1000 w x = 0 := by unfold nxt; omega
theorem wt_top (G : Good as rs) : ∀ b : Nat, wt 1000 as rs b = 0
  | 0 => rfl
  | b + 1 => by
    show nxt 1000 (wt 1000 as rs b) (ldAt as rs b) = 0
    rw [wt_top G b]
    exact nxt_top (Int.le_refl 0) (ld_bd G b).2
theorem gr_top (G : Good as rs) : gr 1000 rs ≤ 0 := by
  have := sum_bd G.br
  unfold gr
  omega
theorem wo_top (G : Good as rs) : wo 1000 as rs = some 0 := by
  have h := gr_top G
  rw [wo_some (by omega)]
  congr 1
  refine (mx_of fw_nn ?_ ?_).symm
  · exact fw_mem.mpr ⟨0, by have := G.pos; omega, wt_top G 1⟩
  · intro y hy
    obtain ⟨b, _, rfl⟩ := fw_mem.mp hy
    rw [wt_top G]
    exact Int.le_refl 0
end
end PW
set_option linter.all false
namespace PW
section
variable {p : Int} {as rs : List Int}
/-! ### sums -/
theorem sum_snoc {xs : List Int} {x : Int} : (xs ++ [x]).sum = xs.sum + x := by
  rw [List.sum_append]
  simp
theorem sm_ahead : ∀ {i : Nat}, i ≤ as.length → sm as rs i = (as.take i).sum
  | 0, _ => by rw [List.take_zero]; rfl
  | i + 1, h => by
    show sm as rs i + ldAt as rs i = _
    rw [take_snoc h, sum_snoc, sm_ahead (Nat.le_of_succ_le h), ld_ahead h]
theorem sm_part {n : Nat} : ∀ {i : Nat}, i ≤ rs.length → sm as rs (as.length + n * rs.length + i) = sm as rs (as.length + n * rs.length) + (rs.take i).sum
  | 0, _ => by
    rw [List.take_zero]
    show _ = _ + (0 : Int)
    rw [Int.add_zero]
    rfl
  | i + 1, h => by
    show sm as rs (as.length + n * rs.length + i) + ldAt as rs (as.length + n * rs.length + i) = _
    rw [take_snoc h, sum_snoc, sm_part (Nat.le_of_succ_le h), ld_ring h, Int.add_assoc]
theorem sm_rings : ∀ n : Nat, sm as rs (as.length + n * rs.length) = as.sum + (n : Int) * rs.sum
  | 0 => by
    rw [Nat.zero_mul, Nat.add_zero, sm_ahead (Nat.le_refl _), List.take_length]
    show _ = _ + (0 : Int) * rs.sum
    rw [Int.zero_mul, Int.add_zero]
  | n + 1 => by
    rw [show as.length + (n + 1) * rs.length = as.length + n * rs.length + rs.length by rw [Nat.add_mul, Nat.one_mul]; omega, sm_part (Nat.le_refl _), List.take_length, sm_rings n,
      show ((n + 1 : Nat) : Int) = (n : Int) + 1 by omega, Int.add_mul, Int.one_mul]
    omega
/-- sum_to behind what stands ahead -/
theorem sm_at {n i : Nat} (h : i ≤ rs.length) : sm as rs (as.length + n * rs.length + i) = as.sum + (n : Int) * rs.sum + (rs.take i).sum := by
  rw [sm_part h, sm_rings]
theorem sm_bd (G : Good as rs) : ∀ b : Nat, 0 ≤ sm as rs b ∧ sm as rs b ≤ 1000 * (b : Int)
  | 0 => ⟨Int.le_refl 0, by show (0 : Int) ≤ _; omega⟩
  | b + 1 => by
    have h1 := sm_bd G b
    have h2 := ld_bd G b
    show 0 ≤ sm as rs b + ldAt as rs b ∧ sm as rs b + ldAt as rs b ≤ _
    omega
theorem app_ld {b : Nat} (h : b < as.length + rs.length) : (as ++ rs)[b]? = some (ldAt as rs b) := by
  by_cases q : b < as.length
  · rw [List.getElem?_append_left q, ld_ahead q, List.getD_eq_getElem?_getD, List.getElem?_eq_getElem q]
    rfl
  · have q2 : b - as.length < rs.length := by omega
    have e : ldAt as rs b = rs.getD (b - as.length) 0 := by
      have e2 := ld_ring (as := as) (rs := rs) (n := 0) q2
      rw [show as.length + 0 * rs.length + (b - as.length) = b by omega] at e2
      exact e2
    rw [List.getElem?_append_right (by omega), e, List.getD_eq_getElem?_getD, List.getElem?_eq_getElem q2]
    rfl

/-! ### the paper -/
/-- the first beat of the stretch that ends with one -/
def gb (p : Int) (as rs : List Int) : Nat → Nat
  | 0 => 0
  | k + 1 => if 0 < wt p as rs (k + 1) then gb p as rs k else k + 1
theorem gb_stop {k : Nat} (h : k = 0 ∨ ¬ 0 < wt p as rs k) : gb p as rs k = k := by
  cases k with
  | zero => rfl
  | succ k =>
    rcases h with h | h
    · omega
    · exact if_neg h
theorem gb_step {k : Nat} (h : 0 < wt p as rs (k + 1)) : gb p as rs (k + 1) = gb p as rs k := if_pos h
theorem gb_le : ∀ k : Nat, gb p as rs k ≤ k
  | 0 => Nat.le_refl 0
  | k + 1 => by
    unfold gb
    split
    · exact Nat.le_succ_of_le (gb_le k)
    · exact Nat.le_refl _
theorem gb_zero : ∀ k : Nat, wt p as rs (gb p as rs k) = 0
  | 0 => rfl
  | k + 1 => by
    unfold gb
    split
    · exact gb_zero k
    · have := wt_nn p as rs (k + 1)
      omega
theorem gb_pos : ∀ k i : Nat, gb p as rs k ≤ i → i < k → 0 < wt p as rs (i + 1)
  | 0, i, _, h => absurd h (Nat.not_lt_zero _)
  | k + 1, i, h1, h2 => by
    by_cases q : 0 < wt p as rs (k + 1)
    · rw [gb_step q] at h1
      by_cases e : i = k
      · rw [e]; exact q
      · exact gb_pos k i h1 (by omega)
    · rw [gb_stop (.inr q)] at h1
      omega
theorem excess_go (f : Nat) (h0 : wt p as rs f = 0) : ∀ k : Nat, (∀ i, f ≤ i → i < f + k → 0 < wt p as rs (i + 1)) → wt p as rs (f + k) = sm as rs (f + k) - sm as rs f - p * (k : Int)
  | 0, _ => by
    show wt p as rs f = sm as rs f - sm as rs f - p * 0
    omega
  | k + 1, h => by
    have ih := excess_go f h0 k fun i a b => h i a (by omega)
    have hp := h (f + k) (by omega) (by omega)
    have e : wt p as rs (f + (k + 1)) = nxt p (wt p as rs (f + k)) (ldAt as rs (f + k)) := rfl
    have e2 : sm as rs (f + (k + 1)) = sm as rs (f + k) + ldAt as rs (f + k) := rfl
    have e3 : p * ((k + 1 : Nat) : Int) = p * (k : Int) + p := by
      rw [show ((k + 1 : Nat) : Int) = (k : Int) + 1 by omega, Int.mul_add, Int.mul_one]
    have hp' : 0 < wt p as rs (f + (k + 1)) := hp
    rw [e] at hp' ⊢
    unfold nxt at *
    rw [e2, e3]
    omega
/-- the excess of the stretch -/
theorem excess {l : Nat} (hl : 0 < wt p as rs (l + 1)) : wt p as rs (l + 1) = sm as rs (l + 1) - sm as rs (gb p as rs l) - p * ((l : Int) + 1 - (gb p as rs l : Int)) := by
  have hle := gb_le (p := p) (as := as) (rs := rs) l
  have h := excess_go (p := p) (as := as) (rs := rs) (gb p as rs l) (gb_zero l) (l + 1 - gb p as rs l) fun i a b => by
    by_cases e : i = l
    · rw [e]; exact hl
    · exact gb_pos l i a (by omega)
  rw [show gb p as rs l + (l + 1 - gb p as rs l) = l + 1 by omega, show ((l + 1 - gb p as rs l : Nat) : Int) = (l : Int) + 1 - (gb p as rs l : Int) by omega] at h
  exact h

/-- the heights -/
def hs (p : Int) (as rs : List Int) : List Int := fw p as rs as.length ++ (List.range rs.length).map fun s => max (wt p as rs (as.length + s + 1)) (wt p as rs (as.length + rs.length + s + 1))
theorem hs_len : (hs p as rs).length = as.length + rs.length := by
  unfold hs
  rw [List.length_append, fw_len, List.length_map, List.length_range]
theorem hs_ahead {b : Nat} (h : b < as.length) : (hs p as rs)[b]? = some (wt p as rs (b + 1)) := by
  unfold hs
  rw [List.getElem?_append_left (by rw [fw_len]; exact h), fw_at h]
theorem hs_ring {s : Nat} (h : s < rs.length) : (hs p as rs)[as.length + s]? = some (max (wt p as rs (as.length + s + 1)) (wt p as rs (as.length + rs.length + s + 1))) := by
  unfold hs
  rw [List.getElem?_append_right (by rw [fw_len]; omega), fw_len, Nat.add_sub_cancel_left, List.getElem?_map, List.getElem?_range h]
  rfl
theorem hs_mem {y : Int} (h : y ∈ hs p as rs) : ∃ b, b < as.length + rs.length + rs.length ∧ y = wt p as rs (b + 1) := by
  unfold hs at h
  rcases List.mem_append.mp h with h | h
  · obtain ⟨b, hb, e⟩ := fw_mem.mp h
    exact ⟨b, by omega, e.symm⟩
  · obtain ⟨s, hs, rfl⟩ := List.mem_map.mp h
    have hs' := List.mem_range.mp hs
    by_cases q : wt p as rs (as.length + s + 1) ≤ wt p as rs (as.length + rs.length + s + 1)
    · exact ⟨as.length + rs.length + s, by omega, Int.max_eq_right q⟩
    · exact ⟨as.length + s, by omega, Int.max_eq_left (by omega)⟩
theorem hs_nn : ∀ y ∈ hs p as rs, 0 ≤ y := fun y h => by
  obtain ⟨b, _, rfl⟩ := hs_mem h
  exact wt_nn _ _ _ _
theorem hs_ne (hp : 0 < rs.length) : hs p as rs ≠ [] := fun e => by
  have q := hs_len (p := p) (as := as) (rs := rs)
  rw [e] at q
  have q' : 0 = as.length + rs.length := q
  omega
/-- the greatest height is the greatest of two rings -/
theorem hs_mx (hp : 0 < rs.length) : mx (hs p as rs) = mx (fw p as rs (as.length + rs.length + rs.length)) := by
  obtain ⟨b, hb, e⟩ := hs_mem (mx_mem (hs_ne hp) (hs_nn (p := p) (as := as) (rs := rs)))
  have h1 : mx (hs p as rs) ≤ mx (fw p as rs (as.length + rs.length + rs.length)) := by
    rw [e]
    exact mx_ge (fw_mem.mpr ⟨b, hb, rfl⟩)
  obtain ⟨c, hc, e2⟩ := fw_mem.mp (mx_mem (fw_ne (p := p) (as := as) (rs := rs) (n := as.length + rs.length + rs.length) (by omega)) fw_nn)
  have h2 : wt p as rs (c + 1) ≤ mx (hs p as rs) := by
    by_cases q : c < as.length
    · exact mx_ge (List.mem_of_getElem? (hs_ahead q))
    · by_cases q2 : c < as.length + rs.length
      · have := mx_ge (List.mem_of_getElem? (hs_ring (p := p) (as := as) (rs := rs) (s := c - as.length) (by omega)))
        rw [show as.length + (c - as.length) + 1 = c + 1 by omega] at this
        omega
      · have := mx_ge (List.mem_of_getElem? (hs_ring (p := p) (as := as) (rs := rs) (s := c - as.length - rs.length) (by omega)))
        rw [show as.length + rs.length + (c - as.length - rs.length) + 1 = c + 1 by omega] at this
        omega
  omega
/-- heights that bound what ever waits -/
def Cl (p : Int) (as rs hs : List Int) : Prop := ∀ b, b < as.length + rs.length → ∀ v h : Int, hs[b]? = some h →
  (v = 0 ∨ (0 < b ∧ hs[b - 1]? = some v) ∨ (b = as.length ∧ hs[as.length + rs.length - 1]? = some v)) → ldAt as rs b - p + v ≤ h
theorem wt_ge (b : Nat) {v : Int} (h : v ≤ wt p as rs b) : ldAt as rs b - p + v ≤ wt p as rs (b + 1) := by
  show _ ≤ nxt p (wt p as rs b) (ldAt as rs b)
  unfold nxt
  omega
theorem ld_turn {s : Nat} (h : s < rs.length) : ldAt as rs (as.length + rs.length + s) = ldAt as rs (as.length + s) := by
  have e1 := ld_ring (as := as) (rs := rs) (n := 1) h
  have e2 := ld_ring (as := as) (rs := rs) (n := 0) h
  rw [show as.length + 1 * rs.length + s = as.length + rs.length + s by omega] at e1
  rw [show as.length + 0 * rs.length + s = as.length + s by omega] at e2
  rw [e1, e2]
theorem hs_close (hp : 0 < rs.length) (hg : gr p rs ≤ 0) : Cl p as rs (hs p as rs) := by
  intro b hb v h eh hv
  by_cases q : b < as.length
  · rw [hs_ahead q] at eh
    have eh := Option.some.inj eh
    subst eh
    refine wt_ge b ?_
    rcases hv with rfl | ⟨h0, e⟩ | ⟨h0, e⟩
    · exact wt_nn _ _ _ _
    · rw [hs_ahead (by omega), show b - 1 + 1 = b by omega] at e
      have e := Option.some.inj e
      omega
    · omega
  · obtain ⟨s, rfl⟩ : ∃ s, b = as.length + s := ⟨b - as.length, by omega⟩
    have hs' : s < rs.length := by omega
    rw [hs_ring hs'] at eh
    have eh := Option.some.inj eh
    subst eh
    have h1 := wt_ge (p := p) (as := as) (rs := rs) (as.length + s) (Int.le_refl _)
    have h2 := wt_ge (p := p) (as := as) (rs := rs) (as.length + rs.length + s) (Int.le_refl _)
    rw [ld_turn hs'] at h2
    have n1 := wt_nn p as rs (as.length + s)
    rcases hv with rfl | ⟨h0, e⟩ | ⟨h0, e⟩
    · omega
    · by_cases z : s = 0
      · subst z
        simp only [Nat.add_zero] at *
        rw [hs_ahead (by omega), show as.length - 1 + 1 = as.length by omega] at e
        have e := Option.some.inj e
        omega
      · rw [show as.length + s - 1 = as.length + (s - 1) by omega, hs_ring (by omega), show as.length + (s - 1) + 1 = as.length + s by omega, show as.length + rs.length + (s - 1) + 1 = as.length + rs.length + s by omega] at e
        have e := Option.some.inj e
        omega
    · have z : s = 0 := by omega
      subst z
      simp only [Nat.add_zero] at *
      rw [show as.length + rs.length - 1 = as.length + (rs.length - 1) by omega, hs_ring (by omega), show as.length + (rs.length - 1) + 1 = as.length + rs.length by omega,
        show as.length + rs.length + (rs.length - 1) + 1 = as.length + rs.length + rs.length by omega] at e
      have e := Option.some.inj e
      have d := B_down (p := p) (as := as) (rs := rs) hg 0
      have e1 : B p as rs (0 + 2) = wt p as rs (as.length + rs.length + rs.length) := by unfold B; rw [show as.length + (0 + 2) * rs.length = as.length + rs.length + rs.length by omega]
      have e2 : B p as rs (0 + 1) = wt p as rs (as.length + rs.length) := by unfold B; rw [show as.length + (0 + 1) * rs.length = as.length + rs.length by omega]
      omega
/-- the first place of a thing -/
theorem first_at : ∀ {xs : List Int} {y : Int}, y ∈ xs → ∃ j : Nat, j < xs.length ∧ xs[j]? = some y ∧ ∀ (m : Nat) (z : Int), m < j → xs[m]? = some z → z ≠ y
  | [], _, h => by cases h
  | x :: r, y, h => by
    by_cases e : x = y
    · exact ⟨0, by simp, by rw [e]; rfl, fun m z hm => absurd hm (Nat.not_lt_zero _)⟩
    · rcases List.mem_cons.mp h with q | q
      · exact absurd q.symm e
      · obtain ⟨j, h1, h2, h3⟩ := first_at q
        refine ⟨j + 1, by rw [List.length_cons]; omega, h2, fun m z hm hz => ?_⟩
        cases m with
        | zero =>
          have e2 : x = z := Option.some.inj hz
          rw [← e2]
          exact e
        | succ m => exact h3 m z (by omega) hz

/-! ### the first late beat -/
/-- what first_late tells -/
def FL (p : Int) (as rs : List Int) (many : Int) : Option Nat → Prop
  | none => gr p rs ≤ 0 ∧ ∀ b : Nat, wt p as rs (b + 1) ≤ many
  | some t => many < wt p as rs (t + 1) ∧ (∀ b : Nat, b < t → wt p as rs (b + 1) ≤ many) ∧ (t : Int) ≤ 30 * (many + 40000)
theorem fl_film (G : Good as rs) {many : Int} (h0 : 0 ≤ many) {j : Nat} (hj : j < as.length + rs.length + rs.length) (h1 : many < wt p as rs (j + 1)) (h2 : ∀ b, b < j → wt p as rs (b + 1) ≤ many) : FL p as rs many (some j) := by
  have := G.la
  have := G.lr
  exact ⟨h1, h2, by omega⟩
theorem fl_none (G : Good as rs) {many : Int} (hg : gr p rs ≤ 0) (h : ∀ b, b < as.length + rs.length + rs.length → wt p as rs (b + 1) ≤ many) : FL p as rs many none := by
  refine ⟨hg, fun b => ?_⟩
  obtain ⟨c, hc, e⟩ := fw_mem.mp (mx_mem (fw_ne (p := p) (as := as) (rs := rs) (n := as.length + rs.length + rs.length) (by have := G.pos; omega)) fw_nn)
  have h1 := wt_le_mx (p := p) (as := as) hg G.pos b
  have h2 := h c hc
  omega
theorem B_up (hg : 0 < gr p rs) : ∀ n : Nat, B p as rs (n + 1) = B p as rs 1 + (n : Int) * gr p rs
  | 0 => by
    show _ = _ + (0 : Int) * gr p rs
    rw [Int.zero_mul, Int.add_zero]
  | n + 1 => by
    have ih := B_up hg n
    have h1 : fend p 0 rs ≤ B p as rs (n + 1) := by
      rw [B_succ]
      exact fend_mono (B_nn _)
    rw [B_succ (n + 1), fend_ring p rs (B_nn _), show ((n + 1 : Nat) : Int) = (n : Int) + 1 by omega, Int.add_mul, Int.one_mul]
    omega
/-- how many signs more than are sent the first beats of a ring have -/
def ds (p : Int) (rs : List Int) (s : Nat) : Int := (rs.take (s + 1)).sum - p * ((s : Int) + 1)
/-- how short the second ring falls -/
def sh (p : Int) (as rs : List Int) (many : Int) (s : Nat) : Int := many + 1 - B p as rs 1 - ds p rs s
/-- the number of the first ring in which a spot is late -/
def nu (p : Int) (as rs : List Int) (many : Int) (s : Nat) : Int := 1 + max 0 (0 - (0 - sh p as rs many s) / gr p rs)
theorem nu_pos (many : Int) (s : Nat) : 1 ≤ nu p as rs many s := by unfold nu; omega
theorem late_iff (hg : 0 < gr p rs) {many : Int} (h : ∀ b, b < as.length + rs.length + rs.length → wt p as rs (b + 1) ≤ many) {s : Nat} (hs : s < rs.length) (n : Nat) :
    many < wt p as rs (as.length + (n + 1) * rs.length + s + 1) ↔ nu p as rs many s ≤ (n : Int) + 1 := by
  have e1 : wt p as rs (as.length + (n + 1) * rs.length + s + 1) = max (B p as rs (n + 1) + ds p rs s) (fend p 0 (rs.take (s + 1))) := by
    have e := wt_B (p := p) (as := as) (rs := rs) (n + 1) (i := s + 1) hs
    rw [fend_max p _ _ (B_nn _)] at e
    have el : (((rs.take (s + 1)).length : Nat) : Int) = (s : Int) + 1 := by
      rw [List.length_take, Nat.min_eq_left hs]
      omega
    rw [el] at e
    show wt p as rs (as.length + (n + 1) * rs.length + (s + 1)) = _
    rw [e]
    unfold ds
    congr 1
    omega
  have e2 : fend p 0 (rs.take (s + 1)) ≤ many := by
    have a := h (as.length + s) (by omega)
    have b := wt_B (p := p) (as := as) (rs := rs) 0 (i := s + 1) hs
    rw [show as.length + 0 * rs.length + (s + 1) = as.length + s + 1 by omega] at b
    have c := fend_mono (p := p) (xs := rs.take (s + 1)) (B_nn (p := p) (as := as) (rs := rs) 0)
    omega
  rw [e1, B_up hg n]
  have key : (n : Int) * gr p rs ≥ sh p as rs many s ↔ 0 - (0 - sh p as rs many s) / gr p rs ≤ (n : Int) := by
    have := Int.le_ediv_iff_mul_le (a := -(n : Int)) (b := 0 - sh p as rs many s) hg
    rw [Int.neg_mul] at this
    generalize (n : Int) * gr p rs = t at *
    generalize (0 - sh p as rs many s) / gr p rs = q at *
    omega
  unfold nu
  have es : sh p as rs many s = many + 1 - B p as rs 1 - ds p rs s := rfl
  generalize (n : Int) * gr p rs = t at *
  generalize (0 - sh p as rs many s) / gr p rs = q at *
  omega
theorem nu_bd (G : Good as rs) (hp : 0 ≤ p) (hp2 : p ≤ 1000) (hg : 0 < gr p rs) {many : Int} (h0 : 0 ≤ many) {s : Nat} (hs : s < rs.length) : nu p as rs many s ≤ many + 30002 := by
  have h1 : sh p as rs many s ≤ many + 30001 := by
    have a := B_nn (p := p) (as := as) (rs := rs) 1
    have b := (sum_bd (xs := rs.take (s + 1)) fun x hx => G.br x (List.mem_of_mem_take hx)).1
    have c : p * ((s : Int) + 1) ≤ 30000 := by
      have lr := G.lr
      have := Int.mul_le_mul hp2 (show (s : Int) + 1 ≤ 30 by omega) (by omega) (by omega)
      omega
    unfold sh ds
    omega
  have h2 : -(max 0 (sh p as rs many s)) ≤ (0 - sh p as rs many s) / gr p rs := by
    rw [Int.le_ediv_iff_mul_le hg]
    have a : max 0 (sh p as rs many s) * 1 ≤ max 0 (sh p as rs many s) * gr p rs := Int.mul_le_mul_of_nonneg_left (by omega) (by omega)
    rw [Int.neg_mul]
    omega
  unfold nu
  omega
/-- the beat that first_late finds of a spot -/
def fo (p : Int) (as rs : List Int) (many : Int) (s : Nat) : Int := (as.length : Int) + nu p as rs many s * (rs.length : Int) + (s : Int)
theorem fl_up (G : Good as rs) (hp : 0 ≤ p) (hp2 : p ≤ 1000) (hg : 0 < gr p rs) {many : Int} (h0 : 0 ≤ many) (h : ∀ b, b < as.length + rs.length + rs.length → wt p as rs (b + 1) ≤ many) {m : Int}
    (hm : m ∈ (List.range rs.length).map (fo p as rs many)) (hle : ∀ y ∈ (List.range rs.length).map (fo p as rs many), m ≤ y) : ∃ t : Nat, m = (t : Int) ∧ FL p as rs many (some t) := by
  obtain ⟨s, hs, rfl⟩ := List.mem_map.mp hm
  have hs := List.mem_range.mp hs
  obtain ⟨n, en⟩ : ∃ n : Nat, nu p as rs many s = (n : Int) + 1 := ⟨(nu p as rs many s - 1).toNat, by have := nu_pos (p := p) (as := as) (rs := rs) many s; omega⟩
  have ef : fo p as rs many s = ((as.length + (n + 1) * rs.length + s : Nat) : Int) := by
    unfold fo
    rw [en]
    simp only [Int.natCast_add, Int.natCast_mul]
    rfl
  refine ⟨as.length + (n + 1) * rs.length + s, ef, (late_iff hg h hs n).mpr (by omega), fun b hb => ?_, ?_⟩
  · by_cases q : b < as.length + rs.length + rs.length
    · exact h b q
    · obtain ⟨e, hi⟩ := beat_split (as := as) G.pos (b := b) (by omega)
      generalize (b - as.length) % rs.length = i at *
      generalize (b - as.length) / rs.length = k at *
      cases k with
      | zero => rw [Nat.zero_mul] at e; omega
      | succ k =>
        apply Int.not_lt.mp
        intro hlt
        rw [e] at hlt
        have a := (late_iff hg h hi k).mp hlt
        have b2 := hle _ (List.mem_map.mpr ⟨i, List.mem_range.mpr hi, rfl⟩)
        rw [ef] at b2
        have c : fo p as rs many i ≤ ((as.length + (k + 1) * rs.length + i : Nat) : Int) := by
          unfold fo
          have d := Int.mul_le_mul_of_nonneg_right a (show (0 : Int) ≤ (rs.length : Int) by omega)
          rw [Int.natCast_add, Int.natCast_add, Int.natCast_mul]
          have e3 : (((k + 1 : Nat)) : Int) = (k : Int) + 1 := by omega
          rw [e3]
          omega
        omega
  · rw [← ef]
    have a := nu_bd (as := as) G hp hp2 hg h0 hs
    have la := G.la
    have lr := G.lr
    have d := Int.mul_le_mul a (show (rs.length : Int) ≤ 30 by omega) (by omega) (by omega)
    unfold fo
    omega
/-- the first of a list that passes -/
theorem find_first : ∀ (n : Nat) (P : Nat → Prop) [DecidablePred P] (t : List Nat) (x : Nat), (List.range n).filter (fun b => decide (P b)) = x :: t → x < n ∧ P x ∧ ∀ b, b < x → ¬ P b
  | 0, P, _, t, x, h => by cases h
  | n + 1, P, _, t, x, h => by
    rw [List.range_succ, List.filter_append] at h
    cases q : (List.range n).filter (fun b => decide (P b)) with
    | nil =>
      rw [q] at h
      by_cases hn : P n
      · have e : [n] = x :: t := by
          have e1 : ([n].filter fun b => decide (P b)) = [n] := by simp [hn]
          rw [e1] at h
          exact h
        have ex : n = x := (List.cons.inj e).1
        subst ex
        refine ⟨Nat.lt_succ_self _, hn, fun b hb hPb => ?_⟩
        have : b ∈ (List.range n).filter (fun b => decide (P b)) := List.mem_filter.mpr ⟨List.mem_range.mpr hb, decide_eq_true hPb⟩
        rw [q] at this
        cases this
      · have e1 : ([n].filter fun b => decide (P b)) = [] := by simp [hn]
        rw [e1] at h
        cases h
    | cons y u =>
      rw [q] at h
      have ex : y = x := (List.cons.inj h).1
      subst ex
      obtain ⟨h1, h2, h3⟩ := find_first n P u y q
      exact ⟨by omega, h2, h3⟩

/-! ### the least pace -/
/-- by this pace never more than so many wait -/
def fe (many : Int) (as rs : List Int) (p : Int) : Prop := ∃ m, wo p as rs = some m ∧ m ≤ many
def LP (many : Int) (as rs : List Int) (t : Int) : Prop := 0 ≤ t ∧ t ≤ 1000 ∧ fe many as rs t ∧ (t = 0 ∨ ¬ fe many as rs (t - 1))
theorem fe_top (G : Good as rs) {many : Int} (h : 0 ≤ many) : fe many as rs 1000 := ⟨0, wo_top G, h⟩

/-! ### the law's answers -/
theorem first_is {many : Int} {t n x : Nat} {l : List Nat} (F : FL p as rs many (some t)) (e : (List.range n).filter (fun b => decide (many < wt p as rs (b + 1))) = x :: l) : t = x := by
  obtain ⟨h1, h2, h3⟩ := find_first n (fun b => many < wt p as rs (b + 1)) l x e
  obtain ⟨f1, f2, _⟩ := F
  by_cases q : t < x
  · exact absurd f1 (h3 t q)
  · by_cases q2 : x < t
    · have := f2 x q2
      omega
    · omega
theorem none_over {many : Int} {n : Nat} (e : (List.range n).filter (fun b => decide (many < wt p as rs (b + 1))) = []) {b : Nat} (hb : b < n) : wt p as rs (b + 1) ≤ many := by
  apply Int.not_lt.mp
  intro h
  have : b ∈ (List.range n).filter (fun b => decide (many < wt p as rs (b + 1))) := List.mem_filter.mpr ⟨List.mem_range.mpr hb, decide_eq_true h⟩
  rw [e] at this
  cases this
end
end PW
set_option Elab.async false
set_option linter.all false
set_option maxRecDepth 100000
set_option maxHeartbeats 4000000
/-! Rules that the layer lacks: sum, max, enumerate of a tuple; repr of data; not in over a tuple of tuples. -/
namespace PwR
open PySem PySem.Spec PyProof.Rows L2
section
variable {X : Cx}
/-- sum(t) -/
def rSumT (K : PySem.W.Frag) : List V → Hp → VK → Prop := fun vs H Q => ∃ (a : Addr) (ns : List Int), vs = [V.ref a] ∧ SqT K H a (ns.map V.int) ∧ Q (.int ns.sum) H
theorem cr_sumT (hc : X.calm = true) : CallR X (.builtin "sum") (rSumT X.K) := by
  intro pins s σ H vs us Q I r h
  obtain ⟨a, ns, rfl, hs, q⟩ := h
  obtain ⟨its, rv, ht, _⟩ := I.tuple hs
  rw [Vals.ref1 r]
  have hi := rv.ints
  obtain ⟨xs, hx⟩ := hi.allInts.items
  have hn : numsOf (intItems xs).toList = ns := by
    rw [← hx]
    exact hi.numsOf
  rw [nums_intItems] at hn
  rw [hx] at ht
  refine PySem.W.ktm_sumG (I.ok.hd hc) ht fun h' tk t' hk => ⟨.int _, H, I.kept hk, ⟨t', rfl⟩, ?_⟩
  have e : preSum (numAt xs) xs.size = ns.sum := by
    rw [preSum_eq, List.take_of_length_le (by simp), hn]
  rw [e]
  exact q
theorem max_of_mem : ∀ (xs : List Int) (x : Int), PySem.W.maxOf x xs ∈ x :: xs ∧ ∀ y ∈ x :: xs, y ≤ PySem.W.maxOf x xs
  | [], x => ⟨List.mem_cons_self .., fun y h => by
      rcases List.mem_cons.mp h with rfl | h
      · exact Int.le_refl _
      · cases h⟩
  | z :: r, x => by
    have e : PySem.W.maxOf x (z :: r) = PySem.W.maxOf (if x < z then z else x) r := by
      show PySem.W.maxOf (if decide (x < z) = true then z else x) r = _
      congr 1
      simp
    obtain ⟨h1, h2⟩ := max_of_mem r (if x < z then z else x)
    have h3 := h2 _ (List.mem_cons_self ..)
    rw [e]
    generalize PySem.W.maxOf (if x < z then z else x) r = M at h1 h2 h3 ⊢
    refine ⟨?_, fun y hy => ?_⟩
    · rcases List.mem_cons.mp h1 with h | h
      · rw [h]
        split
        · exact List.mem_cons_of_mem _ (List.mem_cons_self ..)
        · exact List.mem_cons_self ..
      · exact List.mem_cons_of_mem _ (List.mem_cons_of_mem _ h)
    · rcases List.mem_cons.mp hy with rfl | hy
      · split at h3 <;> omega
      · rcases List.mem_cons.mp hy with rfl | hy
        · split at h3 <;> omega
        · exact h2 y (List.mem_cons_of_mem _ hy)
theorem holdAll_ints {h : Heap} : ∀ {ns : List Int} {us : List Value}, Vals (ns.map V.int) us → PySem.W.HoldAll h us ns
  | [], _, r => by
    cases r
    exact .nil
  | n :: ns, _, r => by
    cases r with
    | cons r1 r2 =>
      obtain ⟨t, rfl⟩ := r1
      exact .cons ⟨_, Reads.int n t⟩ (holdAll_ints r2)
/-- max(t) -/
def rMaxT (K : PySem.W.Frag) : List V → Hp → VK → Prop := fun vs H Q => ∃ (a : Addr) (ns : List Int), vs = [V.ref a] ∧ SqT K H a (ns.map V.int) ∧ 0 < ns.length ∧ ∀ m, m ∈ ns → (∀ y, y ∈ ns → y ≤ m) → Q (.int m) H
theorem cr_maxT (hc : X.calm = true) (hu : X.A.units + 1 < cLine) : CallR X (.builtin "max") (rMaxT X.K) := by
  intro pins s σ H vs us Q I r h
  obtain ⟨a, ns, rfl, hs, hne, q⟩ := h
  obtain ⟨its, rv, ht, _⟩ := I.tuple hs
  rw [Vals.ref1 r]
  cases ns with
  | nil => exact absurd hne (Nat.lt_irrefl _)
  | cons n ns =>
    refine PySem.W.max_tuple_datum (α := Int) (x := n) (xs := ns) (I.ok.hd hc) ht (holdAll_ints rv) hu fun i v h' tk _ hv hk => ?_
    obtain ⟨as, rd⟩ := hv
    obtain ⟨t, rfl⟩ : ∃ t, v = Value.int (PySem.W.maxOf n ns) t := by
      cases rd
      exact ⟨_, rfl⟩
    obtain ⟨h1, h2⟩ := max_of_mem ns n
    exact ⟨.int _, H, I.kept hk, ⟨t, rfl⟩, q _ h1 h2⟩
/-- x not in t, t a tuple of data -/
def rNotInT (K : PySem.W.Frag) : R2 := fun x y H Q => ∃ d ds, Dp K H x d ∧ Dp K H y (.tuple ds) ∧ SeqAt.shaped d = true ∧ SeqAt.shaped (.tuple ds) = true ∧ Q (.bl (!ds.any fun z => PyData.eqv z d)) H
theorem op_notInT (hu : X.A.units + 65 < cLine) : OpR X (compareOp .NotIn) (rNotInT X.K) := by
  intro pins s σ H x y v u Q I rx ry h
  obtain ⟨d, ds, hd, he, sd, se, q⟩ := h
  obtain ⟨as, r1⟩ := Dp.reads I d x v hd rx
  obtain ⟨bs, r2⟩ := Dp.reads I (.tuple ds) y u he ry
  exact SeqAt.notIn_tuple_reads r2 r1 (by have := SeqAt.canLay_of_shaped se; simpa only [PyData.canLay0] using this) (SeqAt.canLay_of_shaped sd) (room_in_shaped sd hu) ⟨.bl _, H, I, rfl, q⟩
/-- repr of data that is a list or a tuple, nothing being shown around -/
def rRepr (K : PySem.W.Frag) : List V → Hp → VK → Prop := fun vs H Q => ∃ (a : Addr) (d : PyData), vs = [V.ref a] ∧ Dp K H (.ref a) d ∧ d.showable = true ∧ d.hasDict = false ∧ d.depth ≤ 60 ∧ d.shown.length ≤ sizeLine ∧ Q (.str d.shown) H
theorem cr_repr (hg : X.A.guards = some []) (hu : X.A.units + 64 < cLine) : CallR X (.builtin "repr") (rRepr X.K) := by
  intro pins s σ H vs us Q I r h
  obtain ⟨a, d, rfl, hd, hs, hx, hz, hl, q⟩ := h
  rw [Vals.ref1 r]
  obtain ⟨as, rd⟩ := Dp.reads I d _ (.ref a) hd rfl
  refine repr_of_reads' rd hs (fun z => by rw [hx] at z; cases z) hg (by omega) (fun _ _ e => e) (fun h' u tk hk => ?_) hl
  exact ⟨.str _, H, I.kept hk, ⟨u, rfl⟩, q⟩
/-- repr of None, of an int -/
def rReprF : List V → Hp → VK → Prop := fun vs H Q => (vs = [V.non] ∧ Q (.str "None") H) ∨ ∃ i : Int, vs = [V.int i] ∧ i.natAbs.log2 < 1920 ∧ Q (.str (toString i)) H
theorem cr_reprF : CallR X (.builtin "repr") rReprF := by
  intro pins s σ H vs us Q I r h
  rcases h with ⟨rfl, q⟩ | ⟨i, rfl, hz, q⟩
  · obtain ⟨u, rfl, e⟩ := vals1 r
    cases e
    exact PySem.P.repr_of_none ⟨.str _, H, I.tok _, ⟨_, rfl⟩, q⟩
  · obtain ⟨u, rfl, t, rfl⟩ := vals1 r
    exact PySem.P.repr_of_int hz ⟨.str _, H, I.tok _, ⟨_, rfl⟩, q⟩
end

/-! ### enumerate(t), t a tuple -/
set_option maxHeartbeats 4000000 in
theorem meets_enumT (t : Addr) (items : Array Value) :
    Meets (Builtin.«enumerate.__new__» ⟨[.type "enumerate", .ref t], []⟩) (fun _ R s => s.heap.IsTuple t items ∧
      R (.ok (.ret (.ref (s.heap.push { cls := .type "tuple_iterator", data := .fields #[.ref t, .int 0 0] }).objs.size)))
        { s with heap := (s.heap.push { cls := .type "tuple_iterator", data := .fields #[.ref t, .int 0 0] }).push { cls := .type "enumerate", data := .fields #[.none, .bool false, .ref s.heap.objs.size, rawInt 0, .none, .none] } }) :=
  .of_wp fun prog w A R s h => by
    obtain ⟨hp, g, d, tk, os⟩ := s
    obtain ⟨h1, h⟩ := h
    have hsub := sub_enumerate
    have q1 : ∀ {A' : Around} {E : Value → Shared → Prop} {Q : Value → Shared → Prop}, Q (.ref hp.objs.size) ⟨hp.push { cls := .type "tuple_iterator", data := .fields #[.ref t, .int 0 0] }, g, d, tk, os⟩ → wpAny (model prog w) A' (pyIter (.ref t)) Q E ⟨hp, g, d, tk, os⟩ :=
      fun q => (begins_tuple t items).iter prog w _ _ ⟨hp, g, d, tk, os⟩ _ h1 q
    obtain ⟨⟨c, dct, dt, sl⟩, ht, hc, n, hd⟩ := h1
    simp only at hc hd
    subst hc hd
    wp_walk using AutoSeq1.wpAny_loadPart' ht, q1
    refine wpAny_stack_any fun st => wpAny_pure ?_
    split
    · rename_i c _ _ _ _ _
      cases (c == Value.type "enumerate")
      · wp_walk using AutoSeq1.wpAny_loadPart' ht, q1
        exact ⟨_, rfl, h⟩
      · wp_walk using AutoSeq1.wpAny_loadPart' ht, q1
        exact ⟨_, rfl, h⟩
    · wp_walk using AutoSeq1.wpAny_loadPart' ht, q1
      exact ⟨_, rfl, h⟩

/-! ### data of ints -/
theorem dps_ints {K : PySem.W.Frag} {H : Hp} : ∀ ns : List Int, DpAll K H (ns.map V.int) (ns.map PyData.int)
  | [] => .nil
  | n :: ns => .cons (.int n) (dps_ints ns)
theorem lay_ints : ∀ ns : List Int, PyData.canLayAll0 (ns.map PyData.int) = true
  | [] => by simp [PyData.canLayAll0]
  | n :: ns => by simp [PyData.canLayAll0, PyData.canLay0, lay_ints ns]
theorem depth_ints : ∀ ns : List Int, PyData.depthAll (ns.map PyData.int) = 0
  | [] => by simp [PyData.depthAll]
  | n :: ns => by simp [PyData.depthAll, PyData.depth, depth_ints ns]
theorem show_ints : ∀ ns : List Int, PyData.showableAll (ns.map PyData.int) = true ↔ ∀ n ∈ ns, PyData.showable (.int n) = true
  | [] => by simp [PyData.showableAll]
  | n :: ns => by simp [PyData.showableAll, show_ints ns]
theorem nodict_ints : ∀ ns : List Int, PyData.hasDictAll (ns.map PyData.int) = false
  | [] => by simp [PyData.hasDictAll]
  | n :: ns => by simp [PyData.hasDictAll, PyData.hasDict, nodict_ints ns]
theorem eqv_ints : ∀ ns : List Int, PyData.eqvAll (ns.map PyData.int) (ns.map PyData.int) = true
  | [] => by simp [PyData.eqvAll]
  | n :: ns => by simp [PyData.eqvAll, PyData.eqv, eqv_ints ns]
theorem shaped_lst (ns : List Int) : SeqAt.shaped (.list (ns.map PyData.int)) = true := by
  show (PyData.canLay0 (.list (ns.map PyData.int)) && decide (PyData.depth (.list (ns.map PyData.int)) ≤ 64)) = true
  have h1 : PyData.canLay0 (.list (ns.map PyData.int)) = true := by
    simp only [PyData.canLay0]
    exact lay_ints ns
  have h2 : PyData.depth (.list (ns.map PyData.int)) ≤ 64 := by
    simp only [PyData.depth, depth_ints ns]
    omega
  rw [h1, decide_eq_true h2]
  rfl
theorem shaped_tup (ns : List Int) : SeqAt.shaped (.tuple (ns.map PyData.int)) = true := by
  show (PyData.canLay0 (.tuple (ns.map PyData.int)) && decide (PyData.depth (.tuple (ns.map PyData.int)) ≤ 64)) = true
  have h1 : PyData.canLay0 (.tuple (ns.map PyData.int)) = true := by
    simp only [PyData.canLay0]
    exact lay_ints ns
  have h2 : PyData.depth (.tuple (ns.map PyData.int)) ≤ 64 := by
    simp only [PyData.depth, depth_ints ns]
    omega
  rw [h1, decide_eq_true h2]
  rfl
/-- xs != [] -/
theorem ne_nil (ns : List Int) : PyData.eqv (.list (ns.map PyData.int)) (.list []) = decide (ns = []) := by
  cases ns with
  | nil => simp [PyData.eqv, PyData.eqvAll]
  | cons n ns => simp [PyData.eqv, PyData.eqvAll]
end PwR
set_option Elab.async false
set_option linter.all false
set_option maxRecDepth 100000
set_option maxHeartbeats 4000000
namespace PwR
open PySem PySem.Spec PyProof.Rows L2
/-- enumerate(t): the enumerate object and the tuple's iterator, both new -/
theorem call_enumT {prog : Program} {w : World} {A : Around} {E : Value → Shared → Prop} {s : Shared} {t : Addr} {items : Array Value} {Q : Value → Shared → Prop} (ht : s.heap.IsTuple t items)
    (h : ∀ h', IsEnum h' (s.heap.objs.size + 1) s.heap.objs.size 0 .none → h'.IsTupleIter s.heap.objs.size t 0 → h'.objs.size = s.heap.objs.size + 2 →
      (∀ b o, s.heap.get? b = some o → h'.get? b = some o) → Q (.ref (s.heap.objs.size + 1)) { s with heap := h' }) : wpAny (model prog w) A (call (.type "enumerate") [.ref t]) Q E s := by
  refine callType_new F.called_enumerate (by decide) (F.typeCall_enumerate_1 _) (F.newCall_enumerate_1 _) (fun obj => F.args_object_init_2 obj _) F.entry_enumerate_new (meets_enumT t items) ⟨ht, ?_⟩
  generalize hA : (s.heap.push { cls := .type "tuple_iterator", data := .fields #[.ref t, .int 0 0] }) = hA'
  have hz : hA'.objs.size = s.heap.objs.size + 1 := by
    rw [← hA]
    exact Heap.size_push ..
  have e1 : hA'.get? s.heap.objs.size = some { cls := .type "tuple_iterator", data := .fields #[.ref t, .int 0 0] } := by
    rw [← hA]
    exact Heap.get?_push_size _ rfl
  have k1 : ∀ b o, s.heap.get? b = some o → hA'.get? b = some o := fun b o x => by
    rw [← hA]
    exact Heap.get?_push_of_some _ x
  have he := Heap.get?_push_size hA' (o := { cls := .type "enumerate", data := .fields #[.none, .bool false, .ref s.heap.objs.size, rawInt 0, .none, .none] }) rfl
  show _ ∧ _
  rw [hz] at he ⊢
  exact ⟨⟨_, he, rfl⟩, h _ he ⟨_, Heap.get?_push_of_some _ e1, rfl, rfl⟩ (by rw [Heap.size_push, hz]) fun b o x => Heap.get?_push_of_some _ (k1 b o x)⟩
/-- the tuple at a, each item in a new pair -/
def IteT (K : PySem.W.Frag) (a : Addr) : It :=
  ⟨fun i H => ∃ (xs : List V) (x : V), SqT K H a xs ∧ xs[i]? = some x, fun i H v H' => ∃ T x, v = .ref T ∧ H T = none ∧ H' = upd H T (.tup [.int (i : Nat), x]) ∧ ∀ xs, SqT K H a xs → xs[i]? = some x, fun i H => ∃ xs : List V, SqT K H a xs ∧ xs.length = i⟩
theorem turn_enumT {P : Program} {w : World} {K : PySem.W.Frag} {elts : List Expr} {kk : Nat} {tpos : Pos} (a e it : Addr) (hae : a ≠ e) (hai : a ≠ it) :
    Turn P w K (.Tuple elts kk tpos) (IteT K a) [e, it] e (fun i h => (∃ old, IsEnum h e it ((i : Nat) : Int) old) ∧ h.IsTupleIter it a i ∧ e ≠ it) where
  mem := by simp
  obj := fun i h st b hb => by
    obtain ⟨⟨old, he⟩, ⟨o, ho, hc, hd⟩, _⟩ := st
    rcases List.mem_cons.mp hb with z | z
    · rw [z]; exact ⟨_, he, fun v q => nomatch q⟩
    · rw [List.mem_singleton.mp z]; exact ⟨o, ho, fun v q => by rw [hd] at q; cases q⟩
  keep := fun i h h' st k => by
    obtain ⟨⟨old, he⟩, hi, hne⟩ := st
    exact ⟨⟨old, k e (by simp) _ he⟩, hi.at fun o q => k it (by simp) o q, hne⟩
  item := by
    intro X hP hw hK hc i pins s σ H E I hf st hg
    subst hP hw hK
    obtain ⟨⟨old, he⟩, hit, hne⟩ := st
    obtain ⟨xs, x, hq, hx⟩ := hg
    obtain ⟨its, rv, p, hz⟩ := I.tuple hq
    obtain ⟨u, hu, ru⟩ := rv.get hx
    have hel : e < s.heap.objs.size := Heap.lt_size he
    have hil : it < s.heap.objs.size := by
      obtain ⟨_, q, _⟩ := hit
      exact Heap.lt_size q
    have hlt : i < its.toArray.size := by
      rw [List.size_toArray]
      exact (List.getElem?_eq_some_iff.mp hu).1
    refine wpAny_pyNext_enum_itemC (Draws.tuple (A := X.A.in1) (I.ok.hd hc) it a hai its.toArray) he ⟨hit, p⟩ hlt hne (by
      intro q
      rcases List.mem_cons.mp q with z | z
      · exact hne z
      · exact hae (List.mem_singleton.mp z).symm) fun y h' tk hP ho hst' hT hsz hk => ?_
    have hy : y = u := by
      have q : its.toArray[i]? = some u := by simpa using hu
      rw [q] at hP
      exact (Option.some.inj hP).symm
    subst hy
    refine ⟨_, rfl, wpAny_letOwnedTupleGo_enum (s := { s with heap := h', toks := tk + 1 }) ho fun h'' he' sb => ?_⟩
    have hT2 : h''.get? s.heap.objs.size = some { cls := .type "tuple", data := .seq #[.int i tk, y] } := (sb.2 _ (Nat.ne_of_gt hel)).trans hT
    have new : ObjOk X.prog X.w (upd H s.heap.objs.size (.tup [.int (i : Nat), x])) h'' s.heap.objs.size (.tup [.int (i : Nat), x]) :=
      ⟨by show 2 ≤ sizeLine; decide, [.int i tk, y], .cons ⟨_, rfl⟩ (.cons ru .nil), ⟨_, hT2, rfl, _, rfl⟩⟩
    have I1 : Inv X pins σ (upd H s.heap.objs.size (.tup [.int (i : Nat), x])) { s with heap := h'', toks := tk + 1 } :=
      I.turnedNew (ch := [e, it]) (fun b ob hb q => (sb.2 b (fun z => hb (by simp [z]))).trans (hk b ob (fun z => hb (by simp [z])) (fun z => hb (by simp [z])) q)) hf (Nat.le_refl _) new
    refine ⟨.ref s.heap.objs.size, _, I1, rfl, ⟨_, x, rfl, I.hok.fresh (Nat.le_refl _), rfl, fun ys hy => by rw [I.tuple_inj hy hq]; exact hx⟩, ⟨⟨y, ?_⟩, hst'.1.at fun o q => (sb.2 it (Ne.symm hne)).trans q, hne⟩, fun b hb => ?_⟩
    · rw [show ((i + 1 : Nat) : Int) = (i : Int) + 1 by omega]
      exact he'
    · have hb' : b < s.heap.objs.size := by
        rcases List.mem_cons.mp hb with z | z
        · rw [z]; exact hel
        · rw [List.mem_singleton.mp z]; exact hil
      rw [upd_ne (Nat.ne_of_lt hb')]
      exact (hf b hb).1
  done := by
    intro X hP hw hK hc i pins s σ H E I hf st hg
    subst hP hw hK
    obtain ⟨⟨old, he⟩, hit, hne⟩ := st
    obtain ⟨xs, hq, hx⟩ := hg
    obtain ⟨its, rv, p, hz⟩ := I.tuple hq
    obtain ⟨f0, f1, f2, f3, f4, f5⟩ := hf it (by simp)
    have hl : its.toArray.size = i := by
      rw [List.size_toArray, ← rv.length]
      exact hx
    refine wpAny_pyNext_enum_endD (Draws.tuple (A := X.A.in1) (I.ok.hd hc) it a hai its.toArray) he (by rw [hl]; exact ⟨hit, p⟩) fun h' eb => ⟨rfl, ?_⟩
    exact I.turned (t' := s.toks) (fun b o hb q => eb b o hb q) f0 f1 f3 f4 f5
  self := fun A i s Q E st h => by
    obtain ⟨⟨_, he⟩, _⟩ := st
    exact wpAny_pyIter_enum he h
def iEnumT (K : PySem.W.Frag) (ta : TA) : TI := fun σ H R => ta σ H fun vs H1 => ∃ a xs, vs = [.ref a] ∧ SqT K H1 a xs ∧ R (IteT K a) H1
theorem pi_enumT {X : Cx} {e : Expr} {ta : TA} {p pos tpos : Pos} {elts : List Expr} {kk : Nat} (hg : Gl X "enumerate") (hm : X.mg "enumerate" = none) (ha : PA X [e] ta) (hs : starEach [e] X.env = [(false, eval e X.env)] := by rfl) :
    PI X (.Tuple elts kk tpos) (.Call (.Name "enumerate" p) [e] [] pos) (iEnumT X.K ta) := by
  refine ⟨fun pins s σ H R I h => ?_⟩
  refine Call_ (ld_blt I hg hm boot_enumerate (PyProof.Rows.callWith_type1 (thn (ha.run pos pins s σ H _ I h) fun us s1 ⟨vs, H1, I1, r1, q1⟩ => ?_) hs rfl))
  obtain ⟨a, xs, ex, hq, q⟩ := q1
  subst ex
  rw [Vals.ref1 r1]
  obtain ⟨its, rv, p', hz⟩ := I1.tuple hq
  have hal : a < s1.heap.objs.size := p'.lt
  refine call_enumT p' fun h' he hit hsz hk => wpAny_pyIter_enum he ?_
  have I2 : Inv X pins σ H1 { s1 with heap := h' } := I1.kept (t' := s1.toks) hk
  refine ⟨s1.heap.objs.size + 1, [s1.heap.objs.size + 1, s1.heap.objs.size], _, _, H1, rfl, I2, turn_enumT a (s1.heap.objs.size + 1) s1.heap.objs.size (Nat.ne_of_lt (Nat.lt_succ_of_lt hal)) (Nat.ne_of_lt hal), ⟨⟨.none, he⟩, hit, Nat.succ_ne_self _⟩, fun b hb => ?_, q⟩
  have hle : s1.heap.objs.size ≤ b := by
    rcases List.mem_cons.mp hb with z | z
    · rw [z]; exact Nat.le_add_right _ _
    · rw [List.mem_singleton.mp z]; exact Nat.le_refl _
  exact I1.fpOk hle (I1.hok.fresh hle)
theorem walk_enumT {K : PySem.W.Frag} {a : Addr} {xs : List V} : Walk (IteT K a) xs.length (fun H => SqT K H a xs) (YPair (fun i => some (.int (i : Nat))) (fun i => xs[i]?)) := by
  refine ⟨fun i _ hi q => ⟨xs, xs[i], q, by simp [hi]⟩, fun _ q => ⟨xs, q, rfl⟩, fun i H v H' _ q y => ?_⟩
  obtain ⟨T, x, h1, h2, h3, h4⟩ := y
  exact ⟨T, .int (i : Nat), x, h1, h2, h3, rfl, h4 xs q⟩
end PwR
set_option Elab.async false
set_option linter.all false
set_option maxRecDepth 100000
set_option maxHeartbeats 4000000
/-! The text by places; a def of the text and what it promises. -/
namespace PwW
open PySem PySem.Spec PyProof.Rows L2 PwR PW
def topS (i : Nat) : Stmt := PySem.Challenge.pw_notewire_k44_whole_paces.main.body.getD i (.Pass ⟨0, 0, 0, 0⟩)
abbrev sWhole : Stmt := topS 4
abbrev sAre : Stmt := topS 11
abbrev sNeedL : Stmt := topS 12
abbrev sNeedP : Stmt := topS 13
abbrev sNeedN : Stmt := topS 14
abbrev sFilm : Stmt := topS 15
abbrev sEnd : Stmt := topS 16
abbrev sGrowth : Stmt := topS 17
abbrev sBefore : Stmt := topS 18
abbrev sLateAt : Stmt := topS 19
abbrev sLate : Stmt := topS 20
abbrev sLong : Stmt := topS 21
abbrev sWorstIn : Stmt := topS 22
abbrev sWorst : Stmt := topS 23
abbrev sPaper : Stmt := topS 24
abbrev sSumTo : Stmt := topS 25
abbrev sClose : Stmt := topS 26
abbrev sIsW : Stmt := topS 27
abbrev sCheck : Stmt := topS 28
abbrev sFirst : Stmt := topS 29
abbrev sLeast : Stmt := topS 30
abbrev sBegun : Stmt := topS 32
abbrev sNext : Stmt := topS 33
abbrev sOf : Stmt := topS 34
abbrev sLoads : Stmt := topS 35
abbrev sLoad : Stmt := topS 36
abbrev sFilmL : Stmt := topS 37
abbrev sUp : Stmt := topS 38
abbrev sLaw : Stmt := topS 39
/-- the name x of the module means the text's def st -/
def Src (K : PySem.W.Frag) (mg : Str → Option Value) (x : Str) (st : Stmt) : Prop := ∃ f fd, mg x = some (.ref f) ∧ FunD K x x (defArgs st) (defBody st) (defScope st) [] [] f fd
/-- the built-in names that no name of the module hides, and the module's constants -/
structure Txt (mg : Str → Option Value) : Prop where
  len : mg "len" = none
  sum : mg "sum" = none
  max : mg "max" = none
  min : mg "min" = none
  all : mg "all" = none
  range : mg "range" = none
  enumerate : mg "enumerate" = none
  divmod : mg "divmod" = none
  tuple : mg "tuple" = none
  list : mg "list" = none
  int : mg "int" = none
  bool : mg "bool" = none
  str : mg "str" = none
  isinstance : mg "isinstance" = none
  repr : mg "repr" = none
  row : ∃ t, mg "MOST_ROW" = some (.int 30 t)
  load : ∃ t, mg "MOST_LOAD" = some (.int 1000 t)
  beat : ∃ t, mg "MOST_BEAT" = some (.int (10 ^ 30) t)
  worst : ∃ t, mg "WORST" = some (.str "worst" t)
  endless : ∃ t, mg "ENDLESS" = some (.str "endless" t)
section
variable {P : Program} {w : World} {K : PySem.W.Frag} {mg : Str → Option Value} {base : Heap}
/-- the module's name x is a def that keeps a promise -/
def Kn (P : Program) (w : World) (K : PySem.W.Frag) (mg : Str → Option Value) (base : Heap) (x : Str) (k : Nat) (ps : List Str) (sp : Sp) : Prop :=
  ∃ f fd, mg x = some (.ref f) ∧ PySem.W.keepIn K (.ref f) = true ∧ Binds K fd ps [] ∧ FnOk P w K mg base CX0 k f fd ps sp
theorem Src.kn {x : Str} {st : Stmt} {N ps : List Str} {k : Nat} {sp : Sp} (F : Src K mg x st) (S : FnScope N ps (defScope st))
    (hb : ∀ (kV doc pm : Value) (an : Option Addr) (cdv ct : Value) (us : List Value), us.length = ps.length → bindArgs (PySem.W.fnOf x x (defArgs st) (defBody st) (defScope st) .none kV doc pm an cdv ct) ⟨us, []⟩ = pure (ps.zip us))
    (len : ∀ vs H Q E, sp vs H Q E → vs.length = ps.length)
    (body : ∀ (f : Addr) (cdv : Value) (A : Around) (outer : List Env) (s : Shared) (H : Hp) (vs : List V) (Q : VK) (E : XK), Room k (A.deeper (envOfC x (defScope st) s.heap.objs.size f cdv)) → sp vs H Q E →
      ∃ t, PSs (cxOf CX0 P w K mg base N x (defScope st) f cdv A outer s H E).nox (defBody st) t ∧ t { nx := fun _ H' => Q .non H', rt := Q } (start N vs) H) : Kn P w K mg base x (k + 1) ps sp := by
  obtain ⟨f, fd, h1, h2⟩ := F
  refine ⟨f, fd, h1, h2.kp, h2.bindsN hb, h2.ok S len fun cdv A outer s H vs Q E hr h => ?_⟩
  obtain ⟨t, h3, h4⟩ := body f cdv A outer s H vs Q E hr h
  exact ⟨t, h3.nox, h4⟩
end
/-- a call of such a def -/
theorem pe_kn {X : Cx} {x : Str} {k : Nat} {ps : List Str} {sp : Sp} {p pos : Pos} {e : Expr} {es : List Expr} {t : TA} (G : Kn X.prog X.w X.K X.mg X.base x k ps sp) (hr : Room k X.A) (hg : Gl X x) (ha : PA X (e :: es) t)
    (hdb : (x == ("__debug__" : Str)) = false := by decide) (he : starEach (e :: es) X.env = (false, eval e X.env) :: starEach es X.env := by rfl) (hpl : (backTo pos (starEach es X.env)).any (·.1) = false := by rfl) :
    PE X (.Call (.Name x p) (e :: es) [] pos) (tCall sp [] E0 t) := by
  obtain ⟨f, fd, h1, h2, h3, h4⟩ := G
  exact pe_call h4 hr hg h1 h2 h3 .nil pass0 ha hdb he hpl

/-! ### heaps -/
theorem same_upd {H : Hp} {p : Addr} {o : HO} (h : H p = none) : Same H (upd H p o) := fun b x e => by
  rw [upd_ne (ne_of_none e h)]
  exact e
theorem upd_upd' {H : Hp} {p : Addr} {o o' : HO} : upd (upd H p o) p o' = upd H p o' := upd_upd
/-- loads: a pair of tuples of ints -/
def Ld (H : Hp) (L : Addr) (as rs : List Int) : Prop := ∃ a r, H L = some (.tup [.ref a, .ref r]) ∧ H a = some (.tup (as.map V.int)) ∧ H r = some (.tup (rs.map V.int))
theorem Ld.mono {H H' : Hp} {L : Addr} {as rs : List Int} (h : Ld H L as rs) (s : Same H H') : Ld H' L as rs := by
  obtain ⟨a, r, h1, h2, h3⟩ := h
  exact ⟨a, r, s _ _ h1, s _ _ h2, s _ _ h3⟩
end PwW
set_option Elab.async false
set_option linter.all false
set_option maxRecDepth 100000
set_option maxHeartbeats 4000000
namespace PwW
open PySem PySem.Spec PyProof.Rows L2 PwR PW
/-! ### the papers as data -/
theorem okE : PyData.strOk (Str.ofString "endless") = true := by decide +kernel
theorem okW : PyData.strOk (Str.ofString "worst") = true := by decide +kernel
theorem neEW : ((Str.ofString "endless" : Str) == Str.ofString "worst") = false := by decide +kernel
theorem neWE : ((Str.ofString "worst" : Str) == Str.ofString "endless") = false := by decide +kernel
theorem shaped_of {d : PyData} (h1 : d.canLay0 = true) (h2 : d.depth ≤ 64) : SeqAt.shaped d = true := by
  show (d.canLay0 && decide (d.depth ≤ 64)) = true
  rw [h1, decide_eq_true h2]
  rfl
theorem sh_e : SeqAt.shaped (.tuple [.str (Str.ofString "endless")]) = true := shaped_of (by simp [PyData.canLay0, PyData.canLayAll0, okE]) (by simp [PyData.depth, PyData.depthAll])
theorem sh_nil : SeqAt.shaped (.tuple []) = true := shaped_of (by simp [PyData.canLay0, PyData.canLayAll0]) (by simp [PyData.depth, PyData.depthAll])
theorem sh_w (f l : Int) (xs : List Int) : SeqAt.shaped (.tuple [.str (Str.ofString "worst"), .int f, .int l, .tuple (xs.map .int)]) = true :=
  shaped_of (by simp [PyData.canLay0, PyData.canLayAll0, okW, lay_ints]) (by simp [PyData.depth, PyData.depthAll, depth_ints])
theorem sh_e1 : SeqAt.shaped (.tuple [.str (Str.ofString "endless"), .int 1]) = true := shaped_of (by simp [PyData.canLay0, PyData.canLayAll0, okE]) (by simp [PyData.depth, PyData.depthAll])
theorem sh_w4 : SeqAt.shaped (.tuple [.str (Str.ofString "worst"), .int 4]) = true := shaped_of (by simp [PyData.canLay0, PyData.canLayAll0, okW]) (by simp [PyData.depth, PyData.depthAll])
theorem sh_two : SeqAt.shaped (.tuple [.tuple [.str (Str.ofString "worst"), .int 4], .tuple [.str (Str.ofString "endless"), .int 1]]) = true :=
  shaped_of (by simp [PyData.canLay0, PyData.canLayAll0, okW, okE]) (by simp [PyData.depth, PyData.depthAll])
theorem in_e : (![PyData.tuple [.str (Str.ofString "worst"), .int 4], .tuple [.str (Str.ofString "endless"), .int 1]].any fun z => PyData.eqv z (.tuple [.str (Str.ofString "endless"), .int 1])) = false := by
  simp [PyData.eqv, PyData.eqvAll]
theorem in_w : (![PyData.tuple [.str (Str.ofString "worst"), .int 4], .tuple [.str (Str.ofString "endless"), .int 1]].any fun z => PyData.eqv z (.tuple [.str (Str.ofString "worst"), .int 4])) = false := by
  simp [PyData.eqv, PyData.eqvAll]
theorem eq_w (f l : Int) (xs : List Int) : PyData.eqv (.tuple [.str (Str.ofString "worst"), .int f, .int l, .tuple (xs.map .int)]) (.tuple [.str (Str.ofString "worst"), .int f, .int l, .tuple (xs.map .int)]) = true := by
  simp [PyData.eqv, PyData.eqvAll, eqv_ints]
theorem eq_e : PyData.eqv (.tuple [.str (Str.ofString "endless")]) (.tuple [.str (Str.ofString "endless")]) = true := by
  simp [PyData.eqv, PyData.eqvAll]
theorem ne_nil_t (d : PyData) (ds : List PyData) : PyData.eqv (.tuple (d :: ds)) (.tuple []) = false := by simp [PyData.eqv, PyData.eqvAll]
/-! ### repr of a list of ints: its size -/
theorem showAll_ints : ∀ ns : List Int, PyData.shownAll (ns.map .int) = ns.map fun n => (toString n : Str)
  | [] => by simp [PyData.shownAll]
  | n :: ns => by
    simp only [List.map_cons, PyData.shownAll, showAll_ints ns]
    congr 1
end PwW
namespace PwW
open PySem PySem.Spec PyProof.Rows L2 PwR PW
theorem shown_small : ∀ (ns : List Int), (∀ n ∈ ns, 0 ≤ n ∧ n < 10 ^ 10) → ((ns.map fun n => (Str.ofString (toString n) : Str)).map (·.length)).sum ≤ 10 * ns.length
  | [], _ => Nat.le_refl 0
  | n :: ns, h => by
    have h1 := h n (List.mem_cons_self ..)
    have h2 := shown_small ns fun m hm => h m (List.mem_cons_of_mem _ hm)
    have h3 := toString_length_le (v := n) h1.1 (k := 10) (by decide) h1.2
    rw [List.map_cons, List.map_cons, List.sum_cons, List.length_cons]
    omega
theorem shown_fits {ns : List Int} (h : ∀ n ∈ ns, 0 ≤ n ∧ n < 10 ^ 10) (hl : ns.length ≤ 1000) : (PyData.shown (.list (ns.map .int))).length ≤ sizeLine := by
  simp only [PyData.shown, showAll_ints]
  have h1 := listText_len_le (ns.map fun n => (Str.ofString (toString n) : Str))
  have h2 := shown_small ns h
  rw [List.length_map] at h1
  have h3 : (listText (ns.map fun n => (Str.ofString (toString n) : Str))).length ≤ 20000 := by omega
  exact Nat.le_trans h3 (by decide)
theorem log_small {n : Int} (h0 : 0 ≤ n) (h : n < 10 ^ 10) : n.natAbs.log2 < 1920 := by
  have h1 : n.natAbs < 2 ^ 34 := by omega
  have h2 : n.natAbs.log2 < 34 := by
    by_cases z : n.natAbs = 0
    · rw [z]
      decide
    · exact (Nat.log2_lt z).mpr h1
  omega
theorem showable_small {ns : List Int} (h : ∀ n ∈ ns, 0 ≤ n ∧ n < 10 ^ 10) : PyData.showable (.list (ns.map .int)) = true := by
  simp only [PyData.showable]
  refine (show_ints ns).mpr fun n hn => ?_
  simp only [PyData.showable, decide_eq_true_eq]
  exact log_small (h n hn).1 (h n hn).2
theorem nodict_lst (ns : List Int) : PyData.hasDict (.list (ns.map .int)) = false := by
  simp only [PyData.hasDict]
  exact nodict_ints ns
theorem depth_lst (ns : List Int) : PyData.depth (.list (ns.map .int)) ≤ 60 := by
  simp only [PyData.depth, depth_ints]
  omega
end PwW
set_option Elab.async false
set_option linter.all false
set_option maxRecDepth 100000
set_option maxHeartbeats 4000000
namespace PwW
open PySem PySem.Spec PyProof.Rows L2 PwR PW
theorem iteDF {c A B : Prop} [Decidable c] (h : ¬ c) (b : B) : if decide c = true then A else B := by
  rw [decide_eq_false h]
  exact iteF b
theorem iteDT {c A B : Prop} [Decidable c] (h : c) (a : A) : if decide c = true then A else B := by
  rw [decide_eq_true h]
  exact iteT a
section
variable {P : Program} {w : World} {K : PySem.W.Frag} {mg : Str → Option Value} {base : Heap}
/-! ### is_whole: of an int within bounds -/
def spWhole : Sp := fun vs H Q _ => ∃ (i lo : Int) (m : V), vs = [.int i, .int lo, m] ∧ lo ≤ i ∧ (m = .non ∨ ∃ hi : Int, m = .int hi ∧ i ≤ hi) ∧ Q (.bl true) H
theorem scWhole : FnScope ["thing", "least", "most"] ["thing", "least", "most"] (defScope sWhole) := ⟨rfl, rfl, rfl, by decide +kernel, rfl, by decide +kernel, by decide +kernel⟩
theorem kn_whole (F : Src K mg "is_whole" sWhole) (T : Txt mg) : Kn P w K mg base "is_whole" 1 ["thing", "least", "most"] spWhole := by
  refine F.kn scWhole (fun _ _ _ _ _ _ us hl => match us, hl with | [_, _, _], _ => rfl) (fun vs H Q E h => ?_) (fun f cdv A outer s H vs Q E hr h => ?_)
  · obtain ⟨i, lo, m, rfl, _⟩ := h
    rfl
  · obtain ⟨i, lo, m, rfl, h1, h2, q⟩ := h
    refine ⟨_, pss_cons (ps_if (PW.pt (pw_or (pt_not (pt_val (pe_callB call_isi (by rfl) T.isinstance (by decide +kernel) (pa_cons (pv 0) (pa_cons (pe_bltn (v := .ty "int") (by rfl) T.int (by decide +kernel) rfl) pa_nil)))))
        (pw_or (pt_val (pe_callB call_isi (by rfl) T.isinstance (by decide +kernel) (pa_cons (pv 0) (pa_cons (pe_bltn (v := .ty "bool") (by rfl) T.bool (by decide +kernel) rfl) pa_nil))))
          (pw_or1 (pt_cmpR op_lt (pv 0) (pv 1) (nomark _)))))) (pss_one (ps_ret pe_bl)) pss_nil)
      (pss_one (ps_ret (pe_or (pe_cmpR op_isN (pv 2) pe_non (nomark _)) (pe_one (pe_cmpR op_le (pv 0) (pv 2) (nomark _)))))), ?_⟩
    refine ⟨.int i, rfl, .int i, .ty "int", .type "int", .type "int", true, rfl, .ty _, .base (.int i), kit_ty (by decide +kernel), true, rfl, iteF ?_⟩
    refine ⟨.int i, rfl, .int i, .ty "bool", .type "int", .type "bool", false, rfl, .ty _, .base (.int i), kit_ty (by decide +kernel), false, rfl, iteF ?_⟩
    refine ⟨.int i, rfl, .int lo, rfl, i, lo, rfl, rfl, _, rfl, iteDF (by omega) ?_⟩
    rcases h2 with rfl | ⟨hi, rfl, h2⟩
    · exact ⟨.non, rfl, rfl, true, rfl, iteT q⟩
    · refine ⟨.int hi, rfl, rfl, false, rfl, iteF ⟨.int i, rfl, .int hi, rfl, i, hi, rfl, rfl, ?_⟩⟩
      show Q (.bl (decide (i ≤ hi))) H
      rw [decide_eq_true h2]
      exact q
/-! ### are_loads -/
def spAre : Sp := fun vs H Q _ => ∃ (a : Addr) (xs : List Int) (n : Int), vs = [.ref a, .int n] ∧ H a = some (.tup (xs.map V.int)) ∧ n ≤ xs.length ∧ xs.length ≤ 30 ∧ (∀ x ∈ xs, 0 ≤ x ∧ x ≤ 1000) ∧ ∀ H', Same H H' → Q (.bl true) H'
theorem scAre : FnScope ["thing", "least", "one"] ["thing", "least"] (defScope sAre) := ⟨rfl, rfl, rfl, by decide +kernel, rfl, by decide +kernel, by decide +kernel⟩
theorem kn_are (F : Src K mg "are_loads" sAre) (T : Txt mg) (W : Kn P w K mg base "is_whole" 1 ["thing", "least", "most"] spWhole) : Kn P w K mg base "are_loads" 2 ["thing", "least"] spAre := by
  refine F.kn scAre (fun _ _ _ _ _ _ us hl => match us, hl with | [_, _], _ => rfl) (fun vs H Q E h => ?_) (fun f cdv A outer s H vs Q E hr h => ?_)
  · obtain ⟨a, xs, n, rfl, _⟩ := h
    rfl
  · obtain ⟨a, xs, n, rfl, h1, h2, h3, h4, q⟩ := h
    obtain ⟨t1, c1⟩ := T.row
    obtain ⟨t2, c2⟩ := T.load
    refine ⟨_, pss_cons (ps_if (PW.pt (pw_or (pt_not (pt_val (pe_callB call_isi (by rfl) T.isinstance (by decide +kernel) (pa_cons (pv 0) (pa_cons (pe_bltn (v := .ty "tuple") (by rfl) T.tuple (by decide +kernel) rfl) pa_nil)))))
        (pw_or1 (pt_not (pt_chain op_le op_le (pv 1) (pe_callB call_len_seq (by rfl) T.len PySem.boot_len (pa_cons (pv 0) pa_nil)) (pe_glob (v := .int 30) rfl c1 ⟨_, rfl⟩)))))) (pss_one (ps_ret pe_bl)) pss_nil)
      (pss_one (ps_ret (pe_callB (cr_all rfl) (by rfl) T.all (by decide +kernel) (pa_cons (pe_lc (own := [("one", 2)]) (g := gName 2) (tt := tYes) rfl scAre.nd (pi_tup (pv 0)) (blkOk_by (N := ["thing", "least", "one"]) (sc := defScope sAre) (by decide +kernel))
        (fun _ _ _ _ _ => pg_name (i := 2) scAre.nd rfl (Or.inl rfl)) (fun _ _ _ _ _ => pts_nil) (fun _ _ _ _ _ => pe_kn W hr (by rfl) (pa_cons (pv 2) (pa_cons pe_int (pa_cons (pe_glob (v := .int 1000) rfl c2 ⟨_, rfl⟩) pa_nil))))) pa_nil)))), ?_⟩
    refine ⟨.ref a, rfl, .ref a, .ty "tuple", .type "tuple", .type "tuple", true, rfl, .ty _, .base (.tup h1), kit_ty (by decide +kernel), true, rfl, iteF ?_⟩
    have hn : (((xs.map V.int).length : Nat) : Int) = (xs.length : Int) := by rw [List.length_map]
    refine ⟨.int n, rfl, .ref a, rfl, a, _, rfl, .inr (SqT.of h1), n, _, rfl, rfl, _, rfl, iteDT (by omega) ?_⟩
    refine ⟨_, 30, rfl, rfl, _, rfl, ?_⟩
    rw [decide_eq_true (show (((xs.map V.int).length : Nat) : Int) ≤ 30 by omega)]
    refine iteF ?_
    refine ⟨.ref a, rfl, a, rfl, ⟨_, SqT.of h1⟩, fun D nD => lc_tup (xs := xs.map V.int) (fun i H' => Same H H' ∧ H' D = some (.lst ((List.replicate i true).map V.bl))) ⟨same_upd nD, upd_same⟩ (fun i H' _ p => SqT.of (p.1 _ _ h1)) (fun i x H' hx p => ?_) (fun H' p => ?_)⟩
    · obtain ⟨sm, hD⟩ := p
      rw [List.getElem?_map] at hx
      obtain ⟨y, hy, rfl⟩ := Option.map_eq_some_iff.mp hx
      have hb := h4 y (List.mem_of_getElem? hy)
      have hi : i < xs.length := (List.getElem?_eq_some_iff.mp hy).1
      refine ⟨rfl, .int y, rfl, y, 0, .int 1000, rfl, hb.1, .inr ⟨1000, rfl, hb.2⟩, _, hD, ?_, ?_, ?_⟩
      · rw [List.length_map, List.length_replicate]
        exact small1000 (by omega)
      · intro b o e
        rw [upd_ne (ne_of_none e nD)]
        exact sm _ _ e
      · rw [upd_same, List.replicate_succ', List.map_append]
        rfl
    · obtain ⟨sm, hD⟩ := p
      refine ⟨D, _, rfl, SqL.of hD, ?_⟩
      have e : (List.replicate (xs.map V.int).length true).all id = true := by
        rw [List.all_eq_true]
        intro b hb
        rw [List.eq_of_mem_replicate hb]
        rfl
      rw [e]
      exact q _ sm
/-! ### need_loads, need_pace, need_number: nothing is raised -/
def spNeedL : Sp := fun vs H Q _ => ∃ (L : Addr) (as rs : List Int), vs = [.ref L] ∧ Ld H L as rs ∧ Good as rs ∧ ∀ H', Same H H' → Q .non H'
theorem scNeedL : FnScope ["loads"] ["loads"] (defScope sNeedL) := ⟨rfl, rfl, rfl, by decide +kernel, rfl, by decide +kernel, by decide +kernel⟩
theorem kn_needL (F : Src K mg "need_loads" sNeedL) (T : Txt mg) (W : Kn P w K mg base "are_loads" 2 ["thing", "least"] spAre) : Kn P w K mg base "need_loads" 3 ["loads"] spNeedL := by
  refine F.kn scNeedL (fun _ _ _ _ _ _ us hl => match us, hl with | [_], _ => rfl) (fun vs H Q E h => ?_) (fun f cdv A outer s H vs Q E hr h => ?_)
  · obtain ⟨L, as, rs, rfl, _⟩ := h
    rfl
  · obtain ⟨L, as, rs, rfl, ⟨a, r, hL, ha, hr'⟩, G, q⟩ := h
    refine ⟨_, pss_one (ps_if (PW.pt (pw_or (pt_not (pt_val (pe_callB call_isi (by rfl) T.isinstance (by decide +kernel) (pa_cons (pv 0) (pa_cons (pe_bltn (v := .ty "tuple") (by rfl) T.tuple (by decide +kernel) rfl) pa_nil)))))
        (pw_or (pt_cmpR op_ne (pe_callB call_len_seq (by rfl) T.len PySem.boot_len (pa_cons (pv 0) pa_nil)) pe_int (nomark _))
        (pw_or (pt_not (pt_val (pe_kn W hr (by rfl) (pa_cons (pe_ix ix_tup (pv 0) pe_int (fun _ _ => rfl)) (pa_cons pe_int pa_nil)))))
          (pw_or1 (pt_not (pt_val (pe_kn W hr (by rfl) (pa_cons (pe_ix ix_tup (pv 0) pe_int (fun _ _ => rfl)) (pa_cons pe_int pa_nil)))))))))) pss_never pss_nil), ?_⟩
    refine ⟨.ref L, rfl, .ref L, .ty "tuple", .type "tuple", .type "tuple", true, rfl, .ty _, .base (.tup hL), kit_ty (by decide +kernel), true, rfl, iteF ?_⟩
    refine ⟨.ref L, rfl, L, _, rfl, .inr (SqT.of hL), rfl, _, rfl, iteF ?_⟩
    refine ⟨.ref L, rfl, L, _, 0, .ref a, rfl, rfl, SqT.of hL, atI_nat (j := 0) rfl, a, as, 0, rfl, ha, by omega, G.la, G.ba, fun H1 s1 => ⟨true, rfl, iteF ?_⟩⟩
    refine ⟨.ref L, rfl, L, _, 1, .ref r, rfl, rfl, SqT.of (s1 _ _ hL), atI_nat (j := 1) rfl, r, rs, 1, rfl, s1 _ _ hr', ?_, G.lr, G.br, fun H2 s2 => ⟨true, rfl, iteF ?_⟩⟩
    · have := G.pos
      omega
    · exact q _ (s1.trans s2)
def spNeedP : Sp := fun vs H Q _ => ∃ (L : Addr) (as rs : List Int) (p : Int), vs = [.ref L, .int p] ∧ Ld H L as rs ∧ Good as rs ∧ 0 ≤ p ∧ p ≤ 1000 ∧ ∀ H', Same H H' → Q .non H'
theorem scNeedP : FnScope ["loads", "pace"] ["loads", "pace"] (defScope sNeedP) := ⟨rfl, rfl, rfl, by decide +kernel, rfl, by decide +kernel, by decide +kernel⟩
theorem kn_needP (F : Src K mg "need_pace" sNeedP) (T : Txt mg) (W : Kn P w K mg base "is_whole" 1 ["thing", "least", "most"] spWhole) (N : Kn P w K mg base "need_loads" 3 ["loads"] spNeedL) : Kn P w K mg base "need_pace" 4 ["loads", "pace"] spNeedP := by
  refine F.kn scNeedP (fun _ _ _ _ _ _ us hl => match us, hl with | [_, _], _ => rfl) (fun vs H Q E h => ?_) (fun f cdv A outer s H vs Q E hr h => ?_)
  · obtain ⟨L, as, rs, p, rfl, _⟩ := h
    rfl
  · obtain ⟨L, as, rs, p, rfl, hL, G, h1, h2, q⟩ := h
    obtain ⟨t2, c2⟩ := T.load
    refine ⟨_, pss_cons (ps_expr (pe_kn N hr (by rfl) (pa_cons (pv 0) pa_nil)))
      (pss_one (ps_if (pt_not (pt_val (pe_kn W (hr.mono (by decide)) (by rfl) (pa_cons (pv 1) (pa_cons pe_int (pa_cons (pe_glob (v := .int 1000) rfl c2 ⟨_, rfl⟩) pa_nil)))))) pss_never pss_nil)), ?_⟩
    refine ⟨.ref L, rfl, L, as, rs, rfl, hL, G, fun H1 s1 => ?_⟩
    exact ⟨.int p, rfl, p, 0, .int 1000, rfl, h1, .inr ⟨1000, rfl, h2⟩, true, rfl, iteF (q _ s1)⟩
def spNeedN : Sp := fun vs H Q _ => ∃ n : Int, vs = [.int n] ∧ 0 ≤ n ∧ n ≤ 10 ^ 30 ∧ Q .non H
theorem scNeedN : FnScope ["thing"] ["thing"] (defScope sNeedN) := ⟨rfl, rfl, rfl, by decide +kernel, rfl, by decide +kernel, by decide +kernel⟩
theorem kn_needN (F : Src K mg "need_number" sNeedN) (T : Txt mg) (W : Kn P w K mg base "is_whole" 1 ["thing", "least", "most"] spWhole) : Kn P w K mg base "need_number" 2 ["thing"] spNeedN := by
  refine F.kn scNeedN (fun _ _ _ _ _ _ us hl => match us, hl with | [_], _ => rfl) (fun vs H Q E h => ?_) (fun f cdv A outer s H vs Q E hr h => ?_)
  · obtain ⟨n, rfl, _⟩ := h
    rfl
  · obtain ⟨n, rfl, h1, h2, q⟩ := h
    obtain ⟨t2, c2⟩ := T.beat
    refine ⟨_, pss_one (ps_if (pt_not (pt_val (pe_kn W hr (by rfl) (pa_cons (pv 0) (pa_cons pe_int (pa_cons (pe_glob (v := .int (10 ^ 30)) rfl c2 ⟨_, rfl⟩) pa_nil)))))) pss_never pss_nil), ?_⟩
    exact ⟨.int n, rfl, n, 0, .int (10 ^ 30), rfl, h1, .inr ⟨10 ^ 30, rfl, h2⟩, true, rfl, iteF q⟩
end
end PwW
set_option Elab.async false
set_option linter.all false
set_option maxRecDepth 100000
set_option maxHeartbeats 4000000
namespace PwW
open PySem PySem.Spec PyProof.Rows L2 PwR PW
theorem max_if (j : Int) : (if j > 0 then j else 0) = max 0 j := by
  split <;> omega
theorem max_if2 (i j : Int) : (if j > i then j else i) = max i j := by
  split <;> omega
theorem take_at {xs : List Int} {i : Nat} {x : Int} (h : xs[i]? = some x) : xs.take (i + 1) = xs.take i ++ [x] := by
  rw [List.take_add_one, h]
  rfl
theorem map_at {xs : List Int} {i : Nat} {v : V} (h : (xs.map V.int)[i]? = some v) : ∃ x, xs[i]? = some x ∧ v = .int x := by
  rw [List.getElem?_map] at h
  obtain ⟨y, hy, e⟩ := Option.map_eq_some_iff.mp h
  exact ⟨y, hy, e.symm⟩
theorem len_map (xs : List Int) : (xs.map V.int).length = xs.length := List.length_map ..
section
variable {P : Program} {w : World} {K : PySem.W.Frag} {mg : Str → Option Value} {base : Heap}
/-! ### film_of -/
def spFilm : Sp := fun vs H Q _ => ∃ (a : Addr) (xs : List Int) (p v : Int), vs = [.ref a, .int p, .int v] ∧ H a = some (.tup (xs.map V.int)) ∧ xs.length ≤ 1000 ∧
  ∀ H' l, Same H H' → H l = none → H' l = some (.lst ((film p v xs).map V.int)) → Q (.ref l) H'
theorem scFilm : FnScope ["row", "pace", "waiting", "found", "load"] ["row", "pace", "waiting"] (defScope sFilm) := ⟨rfl, rfl, rfl, by decide +kernel, rfl, by decide +kernel, by decide +kernel⟩
theorem kn_film (F : Src K mg "film_of" sFilm) (T : Txt mg) : Kn P w K mg base "film_of" 1 ["row", "pace", "waiting"] spFilm := by
  refine F.kn scFilm (fun _ _ _ _ _ _ us hl => match us, hl with | [_, _, _], _ => rfl) (fun vs H Q E h => ?_) (fun f cdv A outer s H vs Q E hr h => ?_)
  · obtain ⟨a, xs, p, v, rfl, _⟩ := h
    rfl
  · obtain ⟨a, xs, p, v, rfl, ha, hl, q⟩ := h
    refine ⟨_, pss_cons (ps_set (i := 3) scFilm.nd rfl (.inl rfl) (pe_lst pa_nil))
      (pss_cons (ps_for PassesOwn.never rfl (pi_tup (pv 0)) (pg_name (i := 4) scFilm.nd rfl (.inl rfl))
        (pss_cons (ps_set (i := 2) scFilm.nd rfl (.inl rfl) (pe_callB (call_max2 rfl) (by rfl) T.max boot_max (pa_cons pe_int (pa_cons (pe_op op_sub (pe_op op_add (pv 2) (pv 4)) (pv 1)) pa_nil))))
          (pss_one (ps_expr (pe_bm PySem.F.plainAttrs_list PySem.F.slot_list_append PySem.F.type_list_append mt_append (pv 3) (pa_cons (pv 2) pa_nil))))))
      (pss_one (ps_ret (pv 3)))), ?_⟩
    refine ⟨Nat.zero_le _, fun o no => ?_⟩
    refine ⟨.ref a, rfl, a, rfl, ⟨_, SqT.of ((same_upd no) _ _ ha)⟩, for_tup (xs := xs.map V.int) (fun i σ H' => ∃ y, σ = [some (.ref a), some (.int p), some (.int (fend p v (xs.take i))), some (.ref o), y] ∧ Same H H' ∧ H' o = some (.lst ((film p v (xs.take i)).map V.int)))
      ⟨none, rfl, same_upd no, upd_same⟩ (fun i σ H' _ pv => ?_) (fun i x σ H' hx pv => ?_) (fun σ H' pv => ?_)⟩
    · obtain ⟨y, _, sm, _⟩ := pv
      exact SqT.of (sm _ _ ha)
    · obtain ⟨y, rfl, sm, ho⟩ := pv
      obtain ⟨x, hy, rfl⟩ := map_at hx
      have hi : i < xs.length := (List.getElem?_eq_some_iff.mp hy).1
      have e1 := take_at hy
      have e2 : fend p v (xs.take (i + 1)) = nxt p (fend p v (xs.take i)) x := by
        rw [e1, fend_app]
        rfl
      have e3 : film p v (xs.take (i + 1)) = film p v (xs.take i) ++ [nxt p (fend p v (xs.take i)) x] := by
        rw [e1, film_snoc]
      refine ⟨_, rfl, _, rfl, _, _, rfl, rfl, _, rfl, _, _, rfl, rfl, 0, fend p v (xs.take i) + x - p, rfl, ?_⟩
      rw [max_if]
      refine ⟨.ref o, rfl, .inl ⟨rfl, _, SqL.of ho⟩, _, rfl, o, _, _, rfl, rfl, ho, ?_, some (.int x), ?_, ?_, ?_⟩
      · rw [len_map, film_len, List.length_take]
        exact small1000 (by omega)
      · rw [e2]
        rfl
      · intro b z e
        rw [upd_ne (ne_of_none e no)]
        exact sm _ _ e
      · rw [upd_same, e3, List.map_append]
        rfl
    · obtain ⟨y, rfl, sm, ho⟩ := pv
      rw [len_map, List.take_length] at ho
      exact ⟨.ref o, rfl, q _ _ sm no ho⟩
/-! ### end_of -/
def spEnd : Sp := fun vs H Q _ => ∃ (a : Addr) (xs : List Int) (p v : Int), vs = [.ref a, .int p, .int v] ∧ H a = some (.tup (xs.map V.int)) ∧ xs.length ≤ 1000 ∧ ∀ H', Same H H' → Q (.int (fend p v xs)) H'
theorem scEnd : FnScope ["row", "pace", "waiting"] ["row", "pace", "waiting"] (defScope sEnd) := ⟨rfl, rfl, rfl, by decide +kernel, rfl, by decide +kernel, by decide +kernel⟩
theorem at_last {xs : List V} {v : V} (h : xs.getLast? = some v) : atI xs (-1) = some v := by
  obtain ⟨ys, rfl⟩ := List.getLast?_eq_some_iff.mp h
  exact atI_last _ _
theorem kn_end (F : Src K mg "end_of" sEnd) (T : Txt mg) (W : Kn P w K mg base "film_of" 1 ["row", "pace", "waiting"] spFilm) : Kn P w K mg base "end_of" 2 ["row", "pace", "waiting"] spEnd := by
  refine F.kn scEnd (fun _ _ _ _ _ _ us hl => match us, hl with | [_, _, _], _ => rfl) (fun vs H Q E h => ?_) (fun f cdv A outer s H vs Q E hr h => ?_)
  · obtain ⟨a, xs, p, v, rfl, _⟩ := h
    rfl
  · obtain ⟨a, xs, p, v, rfl, ha, hl, q⟩ := h
    refine ⟨_, pss_one (ps_ret (pe_ix ix_list (pe_op op_cat (pe_lst (pa_cons (pv 2) pa_nil)) (pe_kn W hr (by rfl) (pa_cons (pv 0) (pa_cons (pv 1) (pa_cons (pv 2) pa_nil))))) (pe_un un_neg pe_int) (fun _ _ => rfl))), ?_⟩
    refine ⟨.int v, rfl, by show 1 ≤ sizeLine; decide, fun o no => ?_⟩
    have s1 : Same H (upd H o (.lst [.int v])) := same_upd no
    refine ⟨.ref a, rfl, .int p, rfl, .int v, rfl, a, xs, p, v, rfl, s1 _ _ ha, hl, fun H2 l s2 nl hl2 => ?_⟩
    refine ⟨o, l, [.int v], _, rfl, rfl, s2 _ _ upd_same, hl2, ?_, fun c nc => ?_⟩
    · rw [len_map, film_len]
      exact Nat.le_of_lt (Nat.lt_of_le_of_lt (show 1 + xs.length ≤ 1001 by omega) (by decide))
    · refine ⟨1, rfl, c, _, -1, .int (fend p v xs), rfl, rfl, SqL.of upd_same, ?_, q _ ((s1.trans s2).trans (same_upd nc))⟩
      refine at_last ?_
      have h := film_last p xs v
      have e : [V.int v] ++ (film p v xs).map V.int = ([v] ++ film p v xs).map V.int := by rw [List.map_append]; rfl
      rw [e, List.getLast?_map, h]
      rfl
/-! ### growth -/
def spGrowth : Sp := fun vs H Q _ => ∃ (L : Addr) (as rs : List Int) (p : Int), vs = [.ref L, .int p] ∧ Ld H L as rs ∧ 0 ≤ p ∧ p ≤ 1000 ∧ Q (.int (gr p rs)) H
theorem scGrowth : FnScope ["loads", "pace"] ["loads", "pace"] (defScope sGrowth) := ⟨rfl, rfl, rfl, by decide +kernel, rfl, by decide +kernel, by decide +kernel⟩
theorem kn_growth (F : Src K mg "growth" sGrowth) (T : Txt mg) : Kn P w K mg base "growth" 1 ["loads", "pace"] spGrowth := by
  refine F.kn scGrowth (fun _ _ _ _ _ _ us hl => match us, hl with | [_, _], _ => rfl) (fun vs H Q E h => ?_) (fun f cdv A outer s H vs Q E hr h => ?_)
  · obtain ⟨L, as, rs, p, rfl, _⟩ := h
    rfl
  · obtain ⟨L, as, rs, p, rfl, ⟨a, r, hL, ha, hr'⟩, h1, h2, q⟩ := h
    refine ⟨_, pss_one (ps_ret (pe_op op_sub (pe_callB (cr_sumT rfl) (by rfl) T.sum boot_sum (pa_cons (pe_ix ix_tup (pv 0) pe_int (fun _ _ => rfl)) pa_nil))
      (pe_op op_mul (pv 1) (pe_callB call_len_seq (by rfl) T.len PySem.boot_len (pa_cons (pe_ix ix_tup (pv 0) pe_int (fun _ _ => rfl)) pa_nil))))), ?_⟩
    refine ⟨.ref L, rfl, L, _, 1, .ref r, rfl, rfl, SqT.of hL, atI_nat (j := 1) rfl, r, rs, rfl, SqT.of hr', ?_⟩
    refine ⟨.int p, rfl, .ref L, rfl, L, _, 1, .ref r, rfl, rfl, SqT.of hL, atI_nat (j := 1) rfl, r, _, rfl, .inr (SqT.of hr'), p, _, rfl, rfl, .inl ⟨by omega, by omega⟩, rs.sum, _, rfl, rfl, ?_⟩
    rw [len_map]
    exact q
/-! ### before_ring -/
def spBefore : Sp := fun vs H Q _ => ∃ (L : Addr) (as rs : List Int) (p : Int) (n : Nat), vs = [.ref L, .int p, .int n] ∧ Ld H L as rs ∧ Good as rs ∧ 0 ≤ p ∧ p ≤ 1000 ∧ (n : Int) ≤ 10 ^ 30 ∧ ∀ H', Same H H' → Q (.int (B p as rs n)) H'
theorem scBefore : FnScope ["loads", "pace", "number", "first", "more", "least"] ["loads", "pace", "number"] (defScope sBefore) := ⟨rfl, rfl, rfl, by decide +kernel, rfl, by decide +kernel, by decide +kernel⟩
theorem gr_bd {p : Int} {as rs : List Int} (G : Good as rs) (h1 : 0 ≤ p) (h2 : p ≤ 1000) : -30000 ≤ gr p rs ∧ gr p rs ≤ 30000 := by
  have a := sum_bd G.br
  have l := G.lr
  have b := Int.mul_le_mul h2 (show (rs.length : Int) ≤ 30 by omega) (by omega) (by omega)
  have c := Int.mul_nonneg h1 (show (0 : Int) ≤ rs.length by omega)
  unfold gr
  omega
theorem kn_before (F : Src K mg "before_ring" sBefore) (T : Txt mg) (W : Kn P w K mg base "end_of" 2 ["row", "pace", "waiting"] spEnd) (Gr : Kn P w K mg base "growth" 1 ["loads", "pace"] spGrowth) :
    Kn P w K mg base "before_ring" 3 ["loads", "pace", "number"] spBefore := by
  refine F.kn scBefore (fun _ _ _ _ _ _ us hl => match us, hl with | [_, _, _], _ => rfl) (fun vs H Q E h => ?_) (fun f cdv A outer s H vs Q E hr h => ?_)
  · obtain ⟨L, as, rs, p, n, rfl, _⟩ := h
    rfl
  · obtain ⟨L, as, rs, p, n, rfl, hLd, G, h1, h2, hn, q⟩ := h
    have la := G.la
    have lr := G.lr
    have hg := gr_bd (as := as) G h1 h2
    refine ⟨_, pss_cons (ps_set (i := 3) scBefore.nd rfl (.inl rfl) (pe_kn W hr (by rfl) (pa_cons (pe_ix ix_tup (pv 0) pe_int (fun _ _ => rfl)) (pa_cons (pv 1) (pa_cons pe_int pa_nil)))))
      (pss_cons (ps_if (pt_cmpR op_eq (pv 2) pe_int (nomark _)) (pss_one (ps_ret (pv 3))) pss_nil)
      (pss_cons (ps_par (i := 4) (j := 5) rfl scBefore.nd rfl rfl (by decide) rfl rfl (pa_cons (pe_kn Gr (hr.mono (by decide)) (by rfl) (pa_cons (pv 0) (pa_cons (pv 1) pa_nil)))
          (pa_cons (pe_kn W hr (by rfl) (pa_cons (pe_ix ix_tup (pv 0) pe_int (fun _ _ => rfl)) (pa_cons (pv 1) (pa_cons pe_int pa_nil)))) pa_nil)) (by rfl))
      (pss_one (ps_ret (pe_callB (call_max2 rfl) (by rfl) T.max boot_max (pa_cons (pe_op op_add (pv 3) (pe_op op_mul (pv 2) (pv 4)))
        (pa_cons (pe_op op_add (pv 5) (pe_callB (call_max2 rfl) (by rfl) T.max boot_max (pa_cons pe_int (pa_cons (pe_op op_mul (pe_op op_sub (pv 2) pe_int) (pv 4)) pa_nil)))) pa_nil))))))), ?_⟩
    obtain ⟨a, r, hL, ha, hr'⟩ := id hLd
    refine ⟨.ref L, rfl, L, _, 0, .ref a, rfl, rfl, SqT.of hL, atI_nat (j := 0) rfl, .int p, rfl, a, as, p, 0, rfl, ha, by omega, fun H1 s1 => ?_⟩
    refine ⟨.int n, rfl, rfl, _, rfl, ite2 (fun e => ?_) (fun e => ?_)⟩
    · have e0 : (n : Int) = 0 := V.int.inj (of_decide_eq_true e)
      have e1 : n = 0 := by omega
      subst e1
      rw [B_zero] at q
      exact ⟨_, rfl, q _ s1⟩
    · obtain ⟨m, rfl⟩ : ∃ m, n = m + 1 := by
        cases n with
        | zero => exact absurd (decide_eq_true rfl) e
        | succ m => exact ⟨m, rfl⟩
      refine ⟨.ref L, rfl, .int p, rfl, L, as, rs, p, rfl, hLd.mono s1, h1, h2, ?_⟩
      refine ⟨.ref L, rfl, L, _, 1, .ref r, rfl, rfl, SqT.of (s1 _ _ hL), atI_nat (j := 1) rfl, .int p, rfl, r, rs, p, 0, rfl, s1 _ _ hr', by omega, fun H2 s2 => ?_⟩
      refine ⟨_, _, rfl, ?_⟩
      refine ⟨_, rfl, _, rfl, _, rfl, ((m + 1 : Nat) : Int), gr p rs, rfl, rfl, .inr ⟨by omega, by omega⟩, _, _, rfl, rfl, ?_⟩
      refine ⟨_, rfl, _, rfl, ((m + 1 : Nat) : Int), 1, rfl, rfl, _, rfl, _, gr p rs, rfl, rfl, .inr ⟨by omega, by omega⟩, 0, _, rfl, _, _, rfl, rfl, _, _, rfl, ?_⟩
      rw [max_if2, max_if]
      have e2 : ((m + 1 : Nat) : Int) - 1 = (m : Int) := by omega
      rw [e2]
      have q' := q _ (s1.trans s2)
      rw [B_at] at q'
      exact q'
end
end PwW
set_option Elab.async false
set_option linter.all false
set_option maxRecDepth 100000
set_option maxHeartbeats 4000000
namespace PwW
open PySem PySem.Spec PyProof.Rows L2 PwR PW
/-- t + u, both tracked -/
theorem cat_tups {K : PySem.W.Frag} {H : Hp} {a b : Addr} {xs ys : List V} {Q : VK} (ha : H a = some (.tup xs)) (hb : H b = some (.tup ys)) (hz : xs.length + ys.length ≤ 1000) (q : ∀ H' c, Same H H' → H' c = some (.tup (xs ++ ys)) → Q (.ref c) H') :
    rCatA K (.ref a) (.ref b) H Q := by
  refine ⟨a, b, xs, ys, rfl, rfl, SqT.of ha, SqT.of hb, Nat.le_of_lt (small1000 hz), fun e => ?_, fun _ e => ?_, fun _ _ c nc => q _ c (same_upd nc) upd_same⟩
  · rw [e] at q
    exact q H b (Same.refl H) hb
  · rw [e, List.append_nil] at q
    exact q H a (Same.refl H) ha
def optV : Option Int → V
  | none => .non
  | some m => .int m
section
variable {P : Program} {w : World} {K : PySem.W.Frag} {mg : Str → Option Value} {base : Heap}
/-! ### late_at -/
def spLate : Sp := fun vs H Q _ => ∃ (L : Addr) (as rs : List Int) (p : Int) (b : Nat), vs = [.ref L, .int p, .int b] ∧ Ld H L as rs ∧ Good as rs ∧ 0 ≤ p ∧ p ≤ 1000 ∧ (b : Int) ≤ 10 ^ 30 ∧ ∀ H', Same H H' → Q (.int (wt p as rs (b + 1))) H'
theorem scLateAt : FnScope ["loads", "pace", "beat", "number", "spot"] ["loads", "pace", "beat"] (defScope sLateAt) := ⟨rfl, rfl, rfl, by decide +kernel, rfl, by decide +kernel, by decide +kernel⟩
theorem kn_lateAt (F : Src K mg "late_at" sLateAt) (T : Txt mg) (W : Kn P w K mg base "film_of" 1 ["row", "pace", "waiting"] spFilm) (Be : Kn P w K mg base "before_ring" 3 ["loads", "pace", "number"] spBefore) :
    Kn P w K mg base "late_at" 4 ["loads", "pace", "beat"] spLate := by
  refine F.kn scLateAt (fun _ _ _ _ _ _ us hl => match us, hl with | [_, _, _], _ => rfl) (fun vs H Q E h => ?_) (fun f cdv A outer s H vs Q E hr h => ?_)
  · obtain ⟨L, as, rs, p, b, rfl, _⟩ := h
    rfl
  · obtain ⟨L, as, rs, p, b, rfl, hLd, G, h1, h2, hb, q⟩ := h
    have la := G.la
    have lr := G.lr
    have lp := G.pos
    refine ⟨_, pss_cons (ps_if (pt_cmpR op_lt (pv 2) (pe_callB call_len_seq (by rfl) T.len PySem.boot_len (pa_cons (pe_ix ix_tup (pv 0) pe_int (fun _ _ => rfl)) pa_nil)) (nomark _))
        (pss_one (ps_ret (pe_ix ix_list (pe_kn W (hr.mono (by decide)) (by rfl) (pa_cons (pe_ix ix_tup (pv 0) pe_int (fun _ _ => rfl)) (pa_cons (pv 1) (pa_cons pe_int pa_nil)))) (pv 2) (fun _ _ => rfl)))) pss_nil)
      (pss_cons (ps_asg (pe_callB call_divmod (by rfl) T.divmod boot_divmod (pa_cons (pe_op op_sub (pv 2) (pe_callB call_len_seq (by rfl) T.len PySem.boot_len (pa_cons (pe_ix ix_tup (pv 0) pe_int (fun _ _ => rfl)) pa_nil)))
          (pa_cons (pe_callB call_len_seq (by rfl) T.len PySem.boot_len (pa_cons (pe_ix ix_tup (pv 0) pe_int (fun _ _ => rfl)) pa_nil)) pa_nil)))
        (pg_tup rfl (pgs_cons (pg_name (i := 3) scLateAt.nd rfl (.inl rfl)) (pgs_cons (pg_name (i := 4) scLateAt.nd rfl (.inl rfl)) pgs_nil))))
      (pss_one (ps_ret (pe_ix ix_list (pe_kn W (hr.mono (by decide)) (by rfl) (pa_cons (pe_ix ix_tup (pv 0) pe_int (fun _ _ => rfl)) (pa_cons (pv 1) (pa_cons (pe_kn Be hr (by rfl) (pa_cons (pv 0) (pa_cons (pv 1) (pa_cons (pv 3) pa_nil)))) pa_nil)))) (pv 4) (fun _ _ => rfl))))), ?_⟩
    obtain ⟨a, r, hL, ha, hr'⟩ := id hLd
    have ea := len_map as
    have er := len_map rs
    refine ⟨.int b, rfl, .ref L, rfl, L, _, 0, .ref a, rfl, rfl, SqT.of hL, atI_nat (j := 0) rfl, a, _, rfl, .inr (SqT.of ha), _, _, rfl, rfl, _, rfl, ite2 (fun e => ?_) (fun e => ?_)⟩
    · have e := of_decide_eq_true e
      have hlt : b < as.length := by omega
      refine ⟨.ref L, rfl, L, _, 0, .ref a, rfl, rfl, SqT.of hL, atI_nat (j := 0) rfl, .int p, rfl, a, as, p, 0, rfl, ha, by omega, fun H1 l s1 nl hl => ?_⟩
      refine ⟨_, rfl, l, _, b, .int (wt p as rs (b + 1)), rfl, rfl, SqL.of hl, atI_nat ?_, q _ s1⟩
      rw [List.getElem?_map, film_ahead hlt]
      rfl
    · have e : ¬ (b : Int) < ((as.map V.int).length : Int) := fun z => e (decide_eq_true z)
      have hge : as.length ≤ b := by omega
      obtain ⟨eb, hi⟩ := beat_split (as := as) lp hge
      refine ⟨.int b, rfl, .ref L, rfl, L, _, 0, .ref a, rfl, rfl, SqT.of hL, atI_nat (j := 0) rfl, a, _, rfl, .inr (SqT.of ha), _, _, rfl, rfl, ?_⟩
      refine ⟨.ref L, rfl, L, _, 1, .ref r, rfl, rfl, SqT.of hL, atI_nat (j := 1) rfl, r, _, rfl, .inr (SqT.of hr'), _, _, rfl, ⟨by omega, by omega⟩, fun t nt => ?_⟩
      have e1 : ((b : Int) - ((as.map V.int).length : Int)) / ((rs.map V.int).length : Int) = (((b - as.length) / rs.length : Nat) : Int) := by
        rw [ea, er, show (b : Int) - (as.length : Int) = ((b - as.length : Nat) : Int) by omega]
        rfl
      have e2 : ((b : Int) - ((as.map V.int).length : Int)) % ((rs.map V.int).length : Int) = (((b - as.length) % rs.length : Nat) : Int) := by
        rw [ea, er, show (b : Int) - (as.length : Int) = ((b - as.length : Nat) : Int) by omega]
        rfl
      rw [e1, e2]
      have hnb : (b - as.length) / rs.length ≤ b := Nat.le_trans (Nat.div_le_self _ _) (Nat.sub_le _ _)
      generalize (b - as.length) % rs.length = i at *
      generalize (b - as.length) / rs.length = n at *
      have s0 : Same H (upd H t (.tup [.int (n : Nat), .int (i : Nat)])) := same_upd nt
      refine ⟨t, _, rfl, SqT.of upd_same, rfl, _, _, rfl, _, _, rfl, rfl, ?_⟩
      refine ⟨.ref L, rfl, L, _, 1, .ref r, rfl, rfl, SqT.of (s0 _ _ hL), atI_nat (j := 1) rfl, .int p, rfl, .ref L, rfl, .int p, rfl, _, rfl, L, as, rs, p, n, rfl, hLd.mono s0, G, h1, h2, by omega, fun H1 s1 => ?_⟩
      refine ⟨r, rs, p, _, rfl, s1 _ _ (s0 _ _ hr'), by omega, fun H2 l s2 nl hl => ?_⟩
      refine ⟨_, rfl, l, _, i, .int (wt p as rs (b + 1)), rfl, rfl, SqL.of hl, atI_nat ?_, q _ ((s0.trans s1).trans s2)⟩
      rw [List.getElem?_map, film_ring hi, ← eb]
      rfl
theorem scLate : FnScope ["loads", "pace", "beat"] ["loads", "pace", "beat"] (defScope sLate) := ⟨rfl, rfl, rfl, by decide +kernel, rfl, by decide +kernel, by decide +kernel⟩
theorem kn_late (F : Src K mg "late" sLate) (T : Txt mg) (Np : Kn P w K mg base "need_pace" 4 ["loads", "pace"] spNeedP) (Nn : Kn P w K mg base "need_number" 2 ["thing"] spNeedN) (W : Kn P w K mg base "late_at" 4 ["loads", "pace", "beat"] spLate) :
    Kn P w K mg base "late" 5 ["loads", "pace", "beat"] spLate := by
  refine F.kn scLate (fun _ _ _ _ _ _ us hl => match us, hl with | [_, _, _], _ => rfl) (fun vs H Q E h => ?_) (fun f cdv A outer s H vs Q E hr h => ?_)
  · obtain ⟨L, as, rs, p, b, rfl, _⟩ := h
    rfl
  · obtain ⟨L, as, rs, p, b, rfl, hLd, G, h1, h2, hb, q⟩ := h
    refine ⟨_, pss_cons (ps_expr (pe_kn Np hr (by rfl) (pa_cons (pv 0) (pa_cons (pv 1) pa_nil))))
      (pss_cons (ps_expr (pe_kn Nn (hr.mono (by decide)) (by rfl) (pa_cons (pv 2) pa_nil)))
      (pss_one (ps_ret (pe_kn W hr (by rfl) (pa_cons (pv 0) (pa_cons (pv 1) (pa_cons (pv 2) pa_nil))))))), ?_⟩
    refine ⟨.ref L, rfl, .int p, rfl, L, as, rs, p, rfl, hLd, G, h1, h2, fun H1 s1 => ?_⟩
    refine ⟨.int b, rfl, b, rfl, by omega, hb, ?_⟩
    exact ⟨.ref L, rfl, .int p, rfl, .int b, rfl, L, as, rs, p, b, rfl, hLd.mono s1, G, h1, h2, hb, fun H2 s2 => q _ (s1.trans s2)⟩
/-! ### long_film -/
def spLong : Sp := fun vs H Q _ => ∃ (L : Addr) (as rs : List Int) (p : Int), vs = [.ref L, .int p] ∧ Ld H L as rs ∧ Good as rs ∧
  ∀ H' l, Same H H' → H l = none → H' l = some (.lst ((fw p as rs (as.length + rs.length + rs.length)).map V.int)) → Q (.ref l) H'
theorem scLong : FnScope ["loads", "pace"] ["loads", "pace"] (defScope sLong) := ⟨rfl, rfl, rfl, by decide +kernel, rfl, by decide +kernel, by decide +kernel⟩
theorem kn_long (F : Src K mg "long_film" sLong) (T : Txt mg) (W : Kn P w K mg base "film_of" 1 ["row", "pace", "waiting"] spFilm) : Kn P w K mg base "long_film" 2 ["loads", "pace"] spLong := by
  refine F.kn scLong (fun _ _ _ _ _ _ us hl => match us, hl with | [_, _], _ => rfl) (fun vs H Q E h => ?_) (fun f cdv A outer s H vs Q E hr h => ?_)
  · obtain ⟨L, as, rs, p, rfl, _⟩ := h
    rfl
  · obtain ⟨L, as, rs, p, rfl, ⟨a, r, hL, ha, hr'⟩, G, q⟩ := h
    have la := G.la
    have lr := G.lr
    have ea := len_map as
    have er := len_map rs
    refine ⟨_, pss_one (ps_ret (pe_kn W hr (by rfl) (pa_cons (pe_op op_catA (pe_op op_catA (pe_ix ix_tup (pv 0) pe_int (fun _ _ => rfl)) (pe_ix ix_tup (pv 0) pe_int (fun _ _ => rfl))) (pe_ix ix_tup (pv 0) pe_int (fun _ _ => rfl))) (pa_cons (pv 1) (pa_cons pe_int pa_nil))))), ?_⟩
    refine ⟨.ref L, rfl, L, _, 0, .ref a, rfl, rfl, SqT.of hL, atI_nat (j := 0) rfl, .ref L, rfl, L, _, 1, .ref r, rfl, rfl, SqT.of hL, atI_nat (j := 1) rfl, cat_tups ha hr' (by omega) fun H1 c s1 hc => ?_⟩
    refine ⟨.ref L, rfl, L, _, 1, .ref r, rfl, rfl, SqT.of (s1 _ _ hL), atI_nat (j := 1) rfl, cat_tups hc (s1 _ _ hr') (by rw [List.length_append]; omega) fun H2 c2 s2 hc2 => ?_⟩
    refine ⟨.int p, rfl, c2, as ++ rs ++ rs, p, 0, rfl, by rw [List.map_append, List.map_append]; exact hc2, by rw [List.length_append, List.length_append]; omega, fun H3 l s3 nl hl => ?_⟩
    rw [film_fw] at hl
    exact q _ l ((s1.trans s2).trans s3) ((s1.trans s2).free nl) hl
/-! ### worst_in, worst -/
def spWorst : Sp := fun vs H Q _ => ∃ (L : Addr) (as rs : List Int) (p : Int), vs = [.ref L, .int p] ∧ Ld H L as rs ∧ Good as rs ∧ 0 ≤ p ∧ p ≤ 1000 ∧ ∀ H', Same H H' → Q (optV (wo p as rs)) H'
theorem scWorstIn : FnScope ["loads", "pace"] ["loads", "pace"] (defScope sWorstIn) := ⟨rfl, rfl, rfl, by decide +kernel, rfl, by decide +kernel, by decide +kernel⟩
theorem kn_worstIn (F : Src K mg "worst_in" sWorstIn) (T : Txt mg) (Gr : Kn P w K mg base "growth" 1 ["loads", "pace"] spGrowth) (Lo : Kn P w K mg base "long_film" 2 ["loads", "pace"] spLong) : Kn P w K mg base "worst_in" 3 ["loads", "pace"] spWorst := by
  refine F.kn scWorstIn (fun _ _ _ _ _ _ us hl => match us, hl with | [_, _], _ => rfl) (fun vs H Q E h => ?_) (fun f cdv A outer s H vs Q E hr h => ?_)
  · obtain ⟨L, as, rs, p, rfl, _⟩ := h
    rfl
  · obtain ⟨L, as, rs, p, rfl, hLd, G, h1, h2, q⟩ := h
    refine ⟨_, pss_one (ps_ret (pe_ifExp (pt_cmpR op_gt (pe_kn Gr (hr.mono (by decide)) (by rfl) (pa_cons (pv 0) (pa_cons (pv 1) pa_nil))) pe_int (nomark _)) pe_non
      (pe_callB (cr_max rfl) (by rfl) T.max boot_max (pa_cons (pe_kn Lo hr (by rfl) (pa_cons (pv 0) (pa_cons (pv 1) pa_nil))) pa_nil)))), ?_⟩
    refine ⟨.ref L, rfl, .int p, rfl, L, as, rs, p, rfl, hLd, h1, h2, gr p rs, 0, rfl, rfl, _, rfl, ite2 (fun e => ?_) (fun e => ?_)⟩
    · have e := of_decide_eq_true e
      rw [wo_none e] at q
      exact q H (Same.refl H)
    · have e : ¬ 0 < gr p rs := fun z => e (decide_eq_true z)
      rw [wo_some e] at q
      refine ⟨.ref L, rfl, .int p, rfl, L, as, rs, p, rfl, hLd, G, fun H1 l s1 nl hl => ?_⟩
      refine ⟨l, _, rfl, SqL.of hl, ?_, fun m hm hle => ?_⟩
      · rw [fw_len]
        have := G.pos
        omega
      · rw [mx_of fw_nn hm hle]
        exact q H1 s1
theorem scWorst : FnScope ["loads", "pace"] ["loads", "pace"] (defScope sWorst) := ⟨rfl, rfl, rfl, by decide +kernel, rfl, by decide +kernel, by decide +kernel⟩
theorem kn_worst (F : Src K mg "worst" sWorst) (T : Txt mg) (Np : Kn P w K mg base "need_pace" 4 ["loads", "pace"] spNeedP) (W : Kn P w K mg base "worst_in" 3 ["loads", "pace"] spWorst) : Kn P w K mg base "worst" 5 ["loads", "pace"] spWorst := by
  refine F.kn scWorst (fun _ _ _ _ _ _ us hl => match us, hl with | [_, _], _ => rfl) (fun vs H Q E h => ?_) (fun f cdv A outer s H vs Q E hr h => ?_)
  · obtain ⟨L, as, rs, p, rfl, _⟩ := h
    rfl
  · obtain ⟨L, as, rs, p, rfl, hLd, G, h1, h2, q⟩ := h
    refine ⟨_, pss_cons (ps_expr (pe_kn Np hr (by rfl) (pa_cons (pv 0) (pa_cons (pv 1) pa_nil)))) (pss_one (ps_ret (pe_kn W (hr.mono (by decide)) (by rfl) (pa_cons (pv 0) (pa_cons (pv 1) pa_nil))))), ?_⟩
    refine ⟨.ref L, rfl, .int p, rfl, L, as, rs, p, rfl, hLd, G, h1, h2, fun H1 s1 => ?_⟩
    exact ⟨.ref L, rfl, .int p, rfl, L, as, rs, p, rfl, hLd.mono s1, G, h1, h2, fun H2 s2 => q _ (s1.trans s2)⟩
end
end PwW
set_option Elab.async false
set_option linter.all false
set_option maxRecDepth 100000
set_option maxHeartbeats 4000000
namespace PwW
open PySem PySem.Spec PyProof.Rows L2 PwR PW
/-- l is the first beat of the film at which the greatest waits -/
def LastIs (p : Int) (as rs : List Int) (l : Nat) : Prop :=
  l < as.length + rs.length + rs.length ∧ wt p as rs (l + 1) = mx (fw p as rs (as.length + rs.length + rs.length)) ∧ ∀ m, m < l → wt p as rs (m + 1) ≠ mx (fw p as rs (as.length + rs.length + rs.length))
theorem LastIs.one {p : Int} {as rs : List Int} {l k : Nat} (h : LastIs p as rs l) (h' : LastIs p as rs k) : l = k := by
  by_cases a : l < k
  · exact absurd h.2.1 (h'.2.2 l a)
  · by_cases b : k < l
    · exact absurd h'.2.1 (h.2.2 k b)
    · omega
/-- the stretch that a paper names -/
def FromTo (p : Int) (as rs : List Int) (f l : Int) : Prop :=
  (mx (fw p as rs (as.length + rs.length + rs.length)) = 0 ∧ f = 0 ∧ l = -1) ∨ (mx (fw p as rs (as.length + rs.length + rs.length)) ≠ 0 ∧ ∃ j : Nat, LastIs p as rs j ∧ f = (gb p as rs j : Int) ∧ l = (j : Int))
theorem FromTo.one {p : Int} {as rs : List Int} {f l f' l' : Int} (h : FromTo p as rs f l) (h' : FromTo p as rs f' l') : f = f' ∧ l = l' := by
  rcases h with ⟨a, rfl, rfl⟩ | ⟨a, j, hj, rfl, rfl⟩ <;> rcases h' with ⟨b, rfl, rfl⟩ | ⟨b, k, hk, rfl, rfl⟩
  · exact ⟨rfl, rfl⟩
  · exact absurd a b
  · exact absurd b a
  · have e := hj.one hk
    subst e
    exact ⟨rfl, rfl⟩
/-- the paper at c -/
def Paper (H : Hp) (c : Addr) (p : Int) (as rs : List Int) : Prop :=
  (0 < gr p rs ∧ H c = some (.tup [.str "endless"])) ∨
  (¬ 0 < gr p rs ∧ ∃ (f l : Int) (t : Addr), H c = some (.tup [.str "worst", .int f, .int l, .ref t]) ∧ H t = some (.tup ((hs p as rs).map V.int)) ∧ FromTo p as rs f l)
theorem Paper.mono {H H' : Hp} {c : Addr} {p : Int} {as rs : List Int} (h : Paper H c p as rs) (s : Same H H') : Paper H' c p as rs := by
  rcases h with ⟨a, b⟩ | ⟨a, f, l, t, b, d, e⟩
  · exact .inl ⟨a, s _ _ b⟩
  · exact .inr ⟨a, f, l, t, s _ _ b, s _ _ d, e⟩
theorem optV_none {o : Option Int} : decide (optV o = V.non) = o.isNone := by
  cases o with
  | none => exact decide_eq_true rfl
  | some m => exact decide_eq_false (fun z => nomatch z)
theorem cut_to {xs : List V} {n : Nat} (h : n ≤ xs.length) : cutV xs none (some (n : Int)) = xs.take n := by
  unfold cutV
  rw [HT.sIx_none, HT.sIx_nat, Nat.min_eq_left h]
  rfl
theorem fw_take {p : Int} {as rs : List Int} {n m : Nat} (h : n ≤ m) : (fw p as rs m).take n = fw p as rs n := by
  unfold fw
  rw [← List.map_take, List.take_range, Nat.min_eq_left h]
theorem fw_vat {p : Int} {as rs : List Int} {n i : Nat} (h : i < n) : ((fw p as rs n).map V.int)[i]? = some (.int (wt p as rs (i + 1))) := by
  rw [List.getElem?_map, fw_at h]
  rfl
theorem all_flat (xs : List Int) : (xs.map V.int).all flatV = true := by
  rw [List.all_map, List.all_eq_true]
  exact fun _ _ => rfl
section
variable {P : Program} {w : World} {K : PySem.W.Frag} {mg : Str → Option Value} {base : Heap}
def spPaper : Sp := fun vs H Q _ => ∃ (L : Addr) (as rs : List Int) (p : Int), vs = [.ref L, .int p] ∧ Ld H L as rs ∧ Good as rs ∧ 0 ≤ p ∧ p ≤ 1000 ∧ ∀ H' c, Same H H' → H c = none → Paper H' c p as rs → Q (.ref c) H'
abbrev nPaper : List Str := ["loads", "pace", "most", "film", "ahead", "ring", "heights", "last", "first", "spot"]
theorem scPaper : FnScope nPaper ["loads", "pace"] (defScope sPaper) := ⟨rfl, rfl, rfl, by decide +kernel, rfl, by decide +kernel, by decide +kernel⟩
theorem kn_paper (F : Src K mg "worst_paper" sPaper) (T : Txt mg) (Np : Kn P w K mg base "need_pace" 4 ["loads", "pace"] spNeedP) (W : Kn P w K mg base "worst_in" 3 ["loads", "pace"] spWorst) (Lo : Kn P w K mg base "long_film" 2 ["loads", "pace"] spLong) :
    Kn P w K mg base "worst_paper" 5 ["loads", "pace"] spPaper := by
  refine F.kn scPaper (fun _ _ _ _ _ _ us hl => match us, hl with | [_, _], _ => rfl) (fun vs H Q E h => ?_) (fun f cdv A outer s H vs Q E hr h => ?_)
  · obtain ⟨L, as, rs, p, rfl, _⟩ := h
    rfl
  · obtain ⟨L, as, rs, p, rfl, hLd, G, h1, h2, q⟩ := h
    obtain ⟨tw, cw⟩ := T.worst
    obtain ⟨te, ce⟩ := T.endless
    have la := G.la
    have lr := G.lr
    have lp := G.pos
    have ea := len_map as
    have er := len_map rs
    refine ⟨_, pss_cons (ps_expr (pe_kn Np hr (by rfl) (pa_cons (pv 0) (pa_cons (pv 1) pa_nil))))
      (pss_cons (ps_set (i := 2) scPaper.nd rfl (.inl rfl) (pe_kn W (hr.mono (by decide)) (by rfl) (pa_cons (pv 0) (pa_cons (pv 1) pa_nil))))
      (pss_cons (ps_if (pt_cmpR op_isN (pv 2) pe_non (nomark _)) (pss_one (ps_ret (pe_tup (pa_cons (pe_glob (v := .str "endless") rfl ce ⟨_, rfl⟩) pa_nil)))) pss_nil)
      (pss_cons (ps_set (i := 3) scPaper.nd rfl (.inr rfl) (pe_kn Lo (hr.mono (by decide)) (by rfl) (pa_cons (pv 0) (pa_cons (pv 1) pa_nil))))
      (pss_cons (ps_asg (pe_tup (pa_cons (pe_callB call_len_seq (by rfl) T.len PySem.boot_len (pa_cons (pe_ix ix_tup (pv 0) pe_int (fun _ _ => rfl)) pa_nil))
          (pa_cons (pe_callB call_len_seq (by rfl) T.len PySem.boot_len (pa_cons (pe_ix ix_tup (pv 0) pe_int (fun _ _ => rfl)) pa_nil)) pa_nil)))
        (pg_tup rfl (pgs_cons (pg_name (i := 4) scPaper.nd rfl (.inr rfl)) (pgs_cons (pg_name (i := 5) scPaper.nd rfl (.inr rfl)) pgs_nil))))
      (pss_cons (ps_set (i := 6) scPaper.nd rfl (.inl rfl) (pe_op op_cat (pe_slice sl_list (pv 3) po_none (po_some (pv 4)))
        (pe_lc (own := [("spot", 9)]) (g := gName 9) (tt := tYes) rfl scPaper.nd (pi_range1 rfl T.range (pa_cons (pv 5) pa_nil)) (blkOk_by (N := nPaper) (sc := defScope sPaper) (by decide +kernel))
          (fun _ _ _ _ _ => pg_name (i := 9) scPaper.nd rfl (Or.inl rfl)) (fun _ _ _ _ _ => pts_nil)
          (fun _ _ _ _ _ => pe_callB (call_max2 rfl) (by rfl) T.max boot_max (pa_cons (pe_ix (r := rIxL K) ix_list (pv 3) (pe_op op_add (pv 4) (pv 9)) (fun _ _ => rfl)) (pa_cons (pe_ix (r := rIxL K) ix_list (pv 3) (pe_op op_add (pe_op op_add (pv 4) (pv 5)) (pv 9)) (fun _ _ => rfl)) pa_nil))))))
      (pss_cons (ps_if (pt_cmpR op_eq (pv 2) pe_int (nomark _)) (pss_one (ps_ret (pe_tup (pa_cons (pe_glob (v := .str "worst") rfl cw ⟨_, rfl⟩) (pa_cons pe_int (pa_cons (pe_un un_neg pe_int)
        (pa_cons (pe_callTy call_tuple_of (by rfl) T.tuple (by decide +kernel) (pa_cons (pv 6) pa_nil)) pa_nil))))))) pss_nil)
      (pss_cons (ps_set (i := 7) scPaper.nd rfl (.inl rfl) (pe_bm PySem.F.plainAttrs_list PySem.F.slot_list_index PySem.F.type_list_index mt_index (pv 3) (pa_cons (pv 2) pa_nil)))
      (pss_cons (ps_set (i := 8) scPaper.nd rfl (.inl rfl) (pv 7))
      (pss_cons (ps_while PassesOwn.never (PW.pt (pw_and (pt_cmpR op_gt (pv 8) pe_int (nomark _)) (pw_and1 (pt_cmpR op_gt (pe_ix ix_list (pv 3) (pe_op op_sub (pv 8) pe_int) (fun _ _ => rfl)) pe_int (nomark _)))))
        (pss_one (ps_aug (i := 8) scPaper.nd rfl (.inl rfl) pe_int ip_sub)))
      (pss_one (ps_ret (pe_tup (pa_cons (pe_glob (v := .str "worst") rfl cw ⟨_, rfl⟩) (pa_cons (pv 8) (pa_cons (pv 7)
        (pa_cons (pe_callTy call_tuple_of (by rfl) T.tuple (by decide +kernel) (pa_cons (pv 6) pa_nil)) pa_nil)))))))))))))))), ?_⟩
    obtain ⟨a, r, hL, ha, hr'⟩ := id hLd
    refine ⟨.ref L, rfl, .int p, rfl, L, as, rs, p, rfl, hLd, G, h1, h2, fun H1 s1 => ?_⟩
    refine ⟨.ref L, rfl, .int p, rfl, L, as, rs, p, rfl, hLd.mono s1, G, h1, h2, fun H2 s2' => ?_⟩
    have s2 := s1.trans s2'
    refine ⟨_, rfl, rfl, _, rfl, ite2 (fun e => ?_) (fun e => ?_)⟩
    · have hg : 0 < gr p rs := by
        by_cases z : 0 < gr p rs
        · exact z
        · rw [wo_some z] at e
          exact absurd (of_decide_eq_true e) (fun z => nomatch z)
      refine ⟨by show 1 ≤ sizeLine; decide, fun c nc => q _ c (s2.trans (same_upd nc)) (s2.free nc) (.inl ⟨hg, upd_same⟩)⟩
    · have hg : ¬ 0 < gr p rs := fun z => by
        rw [wo_none z] at e
        exact e (decide_eq_true rfl)
      rw [wo_some hg]
      clear e
      -- film
      refine ⟨.ref L, rfl, .int p, rfl, L, as, rs, p, rfl, hLd.mono s2, G, fun H3 fl s3' nfl hfl => ?_⟩
      have s3 := s2.trans s3'
      have nfl0 := s2.free nfl
      -- ahead, ring
      refine ⟨.ref L, rfl, L, _, 0, .ref a, rfl, rfl, SqT.of (s3 _ _ hL), atI_nat (j := 0) rfl, a, _, rfl, .inr (SqT.of (s3 _ _ ha)), .ref L, rfl, L, _, 1, .ref r, rfl, rfl, SqT.of (s3 _ _ hL), atI_nat (j := 1) rfl, r, _, rfl, .inr (SqT.of (s3 _ _ hr')), ?_, fun t1 n1 => ?_⟩
      · show 2 ≤ sizeLine
        decide
      refine ⟨t1, _, rfl, SqT.of upd_same, rfl, _, _, rfl, _, _, rfl, rfl, ?_⟩
      rw [ea, er]
      have s4' : Same H3 (upd H3 t1 (.tup [.int (as.length : Int), .int (rs.length : Int)])) := same_upd n1
      have hfl4 := s4' _ _ hfl
      have s4 := s3.trans s4'
      generalize upd H3 t1 (.tup [.int (as.length : Int), .int (rs.length : Int)]) = H4 at *
      clear s4' n1 hfl s3' s3 nfl
      -- heights
      refine ⟨.ref fl, rfl, _, rfl, (as.length : Int), rfl, fl, _, rfl, SqL.of hfl4, fun c5 n5 => ?_⟩
      have hc5 : upd H4 c5 (.lst (cutV ((fw p as rs (as.length + rs.length + rs.length)).map V.int) none (some (as.length : Int)))) c5 = _ := upd_same
      have s5' : Same H4 (upd H4 c5 (.lst (cutV ((fw p as rs (as.length + rs.length + rs.length)).map V.int) none (some (as.length : Int))))) := same_upd n5
      have hfl5 := s5' _ _ hfl4
      have s5 := s4.trans s5'
      generalize upd H4 c5 (.lst (cutV ((fw p as rs (as.length + rs.length + rs.length)).map V.int) none (some (as.length : Int)))) = H5 at *
      refine ⟨_, rfl, _, rfl, by omega, by omega, fun D nD => lc_range (lo := 0) (n := rs.length) (fun i H' => Same H5 H' ∧ H' D = some (.lst (((List.range i).map fun s => max (wt p as rs (as.length + s + 1)) (wt p as rs (as.length + rs.length + s + 1))).map V.int)))
        ⟨same_upd nD, upd_same⟩ (fun i H' hi pv => ?_) (fun H' pv => ?_)⟩
      · obtain ⟨sm, hD⟩ := pv
        refine ⟨rfl, .ref fl, rfl, _, rfl, _, rfl, _, _, rfl, rfl, fl, _, _, _, rfl, rfl, SqL.of (sm _ _ hfl5), at_of (j := as.length + i) (by omega) (fw_vat (by omega)), .ref fl, rfl, _, rfl, _, rfl, _, _, rfl, rfl, _, rfl, _, _, rfl, rfl, fl, _, _, _, rfl, rfl, SqL.of (sm _ _ hfl5),
          at_of (j := as.length + rs.length + i) (by omega) (fw_vat (by omega)), _, _, rfl, _, hD, ?_, ?_, ?_⟩
        · rw [List.length_map, List.length_map, List.length_range]
          exact small1000 (by omega)
        · intro b o e
          rw [upd_ne (ne_of_none e nD)]
          exact sm _ _ e
        · rw [upd_same, List.range_succ, List.map_append, List.map_append, max_if2]
          rfl
      · obtain ⟨sm, hD⟩ := pv
        have n5D : c5 ≠ D := ne_of_none hc5 nD
        refine ⟨c5, D, _, _, rfl, rfl, sm _ _ hc5, hD, ?_, fun hp nh => ?_⟩
        · rw [cut_to (by rw [len_map, fw_len]; omega), List.length_take, len_map, fw_len, List.length_map, List.length_map, List.length_range]
          exact Nat.le_of_lt (small1000 (by omega))
        have eh : cutV ((fw p as rs (as.length + rs.length + rs.length)).map V.int) none (some (as.length : Int)) ++ ((List.range rs.length).map fun s => max (wt p as rs (as.length + s + 1)) (wt p as rs (as.length + rs.length + s + 1))).map V.int = (hs p as rs).map V.int := by
          rw [cut_to (by rw [len_map, fw_len]; omega), ← List.map_take, fw_take (by omega), ← List.map_append]
          rfl
        rw [eh]
        have s6' : Same H' (upd H' hp (.lst ((hs p as rs).map V.int))) := same_upd nh
        have s6 := (s5.trans sm).trans s6'
        have hfl6 := s6' _ _ (sm _ _ hfl5)
        have hh6 : upd H' hp (.lst ((hs p as rs).map V.int)) hp = _ := upd_same
        generalize upd H' hp (.lst ((hs p as rs).map V.int)) = H6 at *
        have hsl : (hs p as rs).length ≤ 1000 := by
          rw [hs_len]
          omega
        refine ⟨_, rfl, rfl, _, rfl, ite2 (fun e => ?_) (fun e => ?_)⟩
        · have e0 : mx (fw p as rs (as.length + rs.length + rs.length)) = 0 := V.int.inj (of_decide_eq_true e)
          refine ⟨1, rfl, .ref hp, rfl, hp, _, rfl, .inl ⟨SqL.of hh6, fun tl nl => ⟨by show 4 ≤ sizeLine; decide, fun c nc => ?_⟩⟩⟩
          have s7 : Same H6 (upd H6 tl (.tup ((hs p as rs).map V.int))) := same_upd nl
          refine q _ c ((s6.trans s7).trans (same_upd nc)) (s6.free (s7.free nc)) (.inr ⟨hg, 0, -1, tl, upd_same, ?_, .inl ⟨e0, rfl, rfl⟩⟩)
          exact (same_upd nc) _ _ upd_same
        · have e0 : mx (fw p as rs (as.length + rs.length + rs.length)) ≠ 0 := fun z => e (decide_eq_true (by rw [z]; rfl))
          obtain ⟨j, hj, hjy, hjm⟩ := first_at (mx_mem (fw_ne (p := p) (as := as) (rs := rs) (n := as.length + rs.length + rs.length) (by omega)) fw_nn)
          rw [fw_len] at hj
          rw [fw_at hj] at hjy
          have ej := Option.some.inj hjy
          have hLast : LastIs p as rs j := ⟨hj, ej, fun m hm => hjm m _ hm (fw_at (by omega))⟩
          refine ⟨.ref fl, rfl, .inl ⟨rfl, _, SqL.of hfl6⟩, _, rfl, fl, _, _, j, _, rfl, rfl, SqL.of hfl6, rfl, all_flat _, fw_vat hj, ?_, fun m z hm hz => ?_, ?_⟩
          · show (wt p as rs (j + 1) == mx (fw p as rs (as.length + rs.length + rs.length))) = true
            rw [ej]
            exact beq_self_eq_true _
          · rw [fw_vat (by omega)] at hz
            have ez := Option.some.inj hz
            subst ez
            exact beq_eq_false_iff_ne.mpr (hLast.2.2 m hm)
          · refine ⟨_, rfl, ?_⟩
            refine ⟨fun m σ H' => ∃ k : Nat, m = k ∧ k ≤ j ∧ gb p as rs j = gb p as rs k ∧ H' = H6 ∧ σ = [some (.ref L), some (.int p), some (optV (some (mx (fw p as rs (as.length + rs.length + rs.length))))), some (.ref fl), some (.int (as.length : Int)), some (.int (rs.length : Int)), some (.ref hp), some (.int (j : Nat)), some (.int (k : Nat)), none],
              ⟨j, j, rfl, Nat.le_refl _, rfl, rfl, rfl⟩, fun k σ H' hW => ?_⟩
            obtain ⟨_, rfl, hk, hgb, rfl, rfl⟩ := hW
            have fin : ¬ (0 < (k : Int)) ∨ ¬ 0 < wt p as rs k → _ := fun z => gb_stop (p := p) (as := as) (rs := rs) (k := k) (z.imp (by omega) id)
            have last : gb p as rs k = k → (tTup (tCons (tC (.str "worst")) (tCons (tVar 8) (tCons (tVar 7) (tCons (tCB (fun xs H Q => ∃ p ys, xs = [V.ref p] ∧ ((SqL K H p ys ∧ ∀ l, H l = none → Q (.ref l) (upd H l (.tup ys))) ∨ (SqT K H p ys ∧ Q (.ref p) H))) (tCons (tVar 6) tNil)) tNil))))
                [some (.ref L), some (.int p), some (optV (some (mx (fw p as rs (as.length + rs.length + rs.length))))), some (.ref fl), some (.int (as.length : Int)), some (.int (rs.length : Int)), some (.ref hp), some (.int (j : Nat)), some (.int (k : Nat)), none] H' Q) := fun ek => by
              refine ⟨_, rfl, _, rfl, .ref hp, rfl, hp, _, rfl, .inl ⟨SqL.of hh6, fun tl nl => ⟨by show 4 ≤ sizeLine; decide, fun c nc => ?_⟩⟩⟩
              have s7 : Same H' (upd H' tl (.tup ((hs p as rs).map V.int))) := same_upd nl
              refine q _ c ((s6.trans s7).trans (same_upd nc)) (s6.free (s7.free nc)) (.inr ⟨hg, (k : Int), (j : Int), tl, upd_same, ?_, .inr ⟨e0, j, hLast, ?_, rfl⟩⟩)
              · exact (same_upd nc) _ _ upd_same
              · rw [hgb, ek]
            refine ⟨_, rfl, _, _, rfl, rfl, _, rfl, ite2 (fun e1 => ?_) (fun e1 => ?_)⟩
            · have e1 := of_decide_eq_true e1
              obtain ⟨i, rfl⟩ : ∃ i, k = i + 1 := ⟨k - 1, by omega⟩
              refine ⟨.ref fl, rfl, _, rfl, _, 1, rfl, rfl, fl, _, _, _, rfl, rfl, SqL.of hfl6, at_of (j := i) (by omega) (fw_vat (by omega)), _, 0, rfl, rfl, _, rfl, ite2 (fun e2 => ?_) (fun e2 => ?_)⟩
              · have e2 := of_decide_eq_true e2
                refine ⟨fun σ H'' => H'' = H' ∧ σ = [some (.ref L), some (.int p), some (optV (some (mx (fw p as rs (as.length + rs.length + rs.length))))), some (.ref fl), some (.int (as.length : Int)), some (.int (rs.length : Int)), some (.ref hp), some (.int (j : Nat)), some (.int (i : Nat)), none], fun σ' H'' hN => ?_, ?_⟩
                · obtain ⟨rfl, rfl⟩ := hN
                  exact ⟨i, Nat.lt_succ_self _, i, rfl, by omega, by rw [hgb, gb_step e2], rfl, rfl⟩
                · refine ⟨_, rfl, _, 1, rfl, rfl, rfl, ?_⟩
                  have ei : ((i + 1 : Nat) : Int) - 1 = (i : Int) := by omega
                  exact congrArg (fun z : Int => [some (V.ref L), some (V.int p), some (optV (some (mx (fw p as rs (as.length + rs.length + rs.length))))), some (V.ref fl), some (V.int (as.length : Int)), some (V.int (rs.length : Int)), some (V.ref hp), some (V.int (j : Nat)), some (V.int z), none]) ei
              · have e2 : ¬ 0 < wt p as rs (i + 1) := fun z => e2 (decide_eq_true z)
                exact last (fin (.inr e2))
            · have e1 : ¬ 0 < (k : Int) := fun z => e1 (decide_eq_true z)
              exact last (fin (.inl e1))
end
end PwW
set_option Elab.async false
set_option linter.all false
set_option maxRecDepth 100000
set_option maxHeartbeats 4000000
namespace PwW
open PySem PySem.Spec PyProof.Rows L2 PwR PW
/-- t[:n], t tracked -/
theorem cut_tup {K : PySem.W.Frag} {H : Hp} {a : Addr} {xs : List V} {n : Nat} {Q : VK} (ha : H a = some (.tup xs)) (hn : n ≤ xs.length) (q : ∀ H' c, Same H H' → H' c = some (.tup (xs.take n)) → Q (.ref c) H') :
    rSlA K (.ref a) none (some (n : Int)) H Q := by
  refine ⟨a, xs, rfl, SqT.of ha, fun e => ?_, fun _ c nc => ?_⟩
  · have e2 := e.2
    rw [HT.sIx_nat, Nat.min_eq_left hn] at e2
    rw [e2, List.take_length] at q
    exact q H a (Same.refl H) ha
  · rw [cut_to hn]
    exact q _ c (same_upd nc) upd_same
theorem if_list {c : Prop} [Decidable c] {TA TB : VK → Prop} {Q : VK} {H : Hp} {good : List V → Prop} (hA : c → ∀ Q : VK, (∀ H' l ys, Same H H' → H' l = some (.lst ys) → good ys → Q (.ref l) H') → TA Q)
    (hB : ¬ c → ∀ Q : VK, (∀ H' l ys, Same H H' → H' l = some (.lst ys) → good ys → Q (.ref l) H') → TB Q) (q : ∀ H' l ys, Same H H' → H' l = some (.lst ys) → good ys → Q (.ref l) H') : if decide c = true then TA Q else TB Q := by
  by_cases h : c
  · exact iteDT h (hA h Q q)
  · exact iteDF h (hB h Q q)
/-- xs + ys, both tracked lists -/
theorem cat_lists {H : Hp} {a b : Addr} {xs ys : List V} {Q : VK} (ha : H a = some (.lst xs)) (hb : H b = some (.lst ys)) (hz : xs.length + ys.length ≤ 1000) (q : ∀ H' c, Same H H' → H' c = some (.lst (xs ++ ys)) → Q (.ref c) H') :
    rCat (.ref a) (.ref b) H Q := ⟨a, b, xs, ys, rfl, rfl, ha, hb, Nat.le_of_lt (small1000 hz), fun c nc => q _ c (same_upd nc) upd_same⟩
section
variable {P : Program} {w : World} {K : PySem.W.Frag} {mg : Str → Option Value} {base : Heap}
/-! ### sum_to -/
def spSumTo : Sp := fun vs H Q _ => ∃ (L : Addr) (as rs : List Int) (i : Int) (b : Nat), vs = [.ref L, .int i] ∧ i = (b : Int) ∧ Ld H L as rs ∧ Good as rs ∧ ∀ H', Same H H' → Q (.int (sm as rs b)) H'
theorem scSumTo : FnScope ["loads", "beat", "number", "spot"] ["loads", "beat"] (defScope sSumTo) := ⟨rfl, rfl, rfl, by decide +kernel, rfl, by decide +kernel, by decide +kernel⟩
theorem kn_sumTo (F : Src K mg "sum_to" sSumTo) (T : Txt mg) : Kn P w K mg base "sum_to" 1 ["loads", "beat"] spSumTo := by
  refine F.kn scSumTo (fun _ _ _ _ _ _ us hl => match us, hl with | [_, _], _ => rfl) (fun vs H Q E h => ?_) (fun f cdv A outer s H vs Q E hr h => ?_)
  · obtain ⟨L, as, rs, i, b, rfl, _⟩ := h
    rfl
  · obtain ⟨L, as, rs, i, b, rfl, rfl, hLd, G, q⟩ := h
    have la := G.la
    have lr := G.lr
    have lp := G.pos
    have ea := len_map as
    have er := len_map rs
    obtain ⟨a, r, hL, ha, hr'⟩ := id hLd
    refine ⟨_, pss_cons (ps_if (pt_cmpR op_le (pv 1) (pe_callB call_len_seq (by rfl) T.len PySem.boot_len (pa_cons (pe_ix ix_tup (pv 0) pe_int (fun _ _ => rfl)) pa_nil)) (nomark _))
        (pss_one (ps_ret (pe_callB (cr_sumT rfl) (by rfl) T.sum boot_sum (pa_cons (pe_slice sl_tupA (pe_ix ix_tup (pv 0) pe_int (fun _ _ => rfl)) po_none (po_some (pv 1))) pa_nil)))) pss_nil)
      (pss_cons (ps_asg (pe_callB call_divmod (by rfl) T.divmod boot_divmod (pa_cons (pe_op op_sub (pv 1) (pe_callB call_len_seq (by rfl) T.len PySem.boot_len (pa_cons (pe_ix ix_tup (pv 0) pe_int (fun _ _ => rfl)) pa_nil)))
          (pa_cons (pe_callB call_len_seq (by rfl) T.len PySem.boot_len (pa_cons (pe_ix ix_tup (pv 0) pe_int (fun _ _ => rfl)) pa_nil)) pa_nil)))
        (pg_tup rfl (pgs_cons (pg_name (i := 2) scSumTo.nd rfl (.inl rfl)) (pgs_cons (pg_name (i := 3) scSumTo.nd rfl (.inl rfl)) pgs_nil))))
      (pss_one (ps_ret (pe_op op_add (pe_op op_add (pe_callB (cr_sumT rfl) (by rfl) T.sum boot_sum (pa_cons (pe_ix ix_tup (pv 0) pe_int (fun _ _ => rfl)) pa_nil))
          (pe_op op_mul (pv 2) (pe_callB (cr_sumT rfl) (by rfl) T.sum boot_sum (pa_cons (pe_ix ix_tup (pv 0) pe_int (fun _ _ => rfl)) pa_nil))))
        (pe_callB (cr_sumT rfl) (by rfl) T.sum boot_sum (pa_cons (pe_slice sl_tupA (pe_ix ix_tup (pv 0) pe_int (fun _ _ => rfl)) po_none (po_some (pv 3))) pa_nil)))))), ?_⟩
    refine ⟨.int b, rfl, .ref L, rfl, L, _, 0, .ref a, rfl, rfl, SqT.of hL, atI_nat (j := 0) rfl, a, _, rfl, .inr (SqT.of ha), _, _, rfl, rfl, _, rfl, ite2 (fun e => ?_) (fun e => ?_)⟩
    · have e := of_decide_eq_true e
      have hlt : b ≤ as.length := by omega
      refine ⟨.ref L, rfl, L, _, 0, .ref a, rfl, rfl, SqT.of hL, atI_nat (j := 0) rfl, _, rfl, (b : Int), rfl, cut_tup ha (by rw [ea]; exact hlt) fun H1 c s1 hc => ?_⟩
      refine ⟨c, as.take b, rfl, SqT.of (by rw [List.map_take]; exact hc), ?_⟩
      rw [← sm_ahead (rs := rs) hlt]
      exact q _ s1
    · have e : ¬ (b : Int) ≤ ((as.map V.int).length : Int) := fun z => e (decide_eq_true z)
      have hge : as.length ≤ b := by omega
      obtain ⟨eb, hi⟩ := beat_split (as := as) lp hge
      refine ⟨.int b, rfl, .ref L, rfl, L, _, 0, .ref a, rfl, rfl, SqT.of hL, atI_nat (j := 0) rfl, a, _, rfl, .inr (SqT.of ha), _, _, rfl, rfl, ?_⟩
      refine ⟨.ref L, rfl, L, _, 1, .ref r, rfl, rfl, SqT.of hL, atI_nat (j := 1) rfl, r, _, rfl, .inr (SqT.of hr'), _, _, rfl, ⟨by omega, by omega⟩, fun t nt => ?_⟩
      have e1 : ((b : Int) - ((as.map V.int).length : Int)) / ((rs.map V.int).length : Int) = (((b - as.length) / rs.length : Nat) : Int) := by
        rw [ea, er, show (b : Int) - (as.length : Int) = ((b - as.length : Nat) : Int) by omega]
        rfl
      have e2 : ((b : Int) - ((as.map V.int).length : Int)) % ((rs.map V.int).length : Int) = (((b - as.length) % rs.length : Nat) : Int) := by
        rw [ea, er, show (b : Int) - (as.length : Int) = ((b - as.length : Nat) : Int) by omega]
        rfl
      rw [e1, e2]
      generalize (b - as.length) % rs.length = i at *
      generalize (b - as.length) / rs.length = n at *
      have s0 : Same H (upd H t (.tup [.int (n : Nat), .int (i : Nat)])) := same_upd nt
      have hs := sum_bd G.br
      refine ⟨t, _, rfl, SqT.of upd_same, rfl, _, _, rfl, _, _, rfl, rfl, ?_⟩
      refine ⟨.ref L, rfl, L, _, 0, .ref a, rfl, rfl, SqT.of (s0 _ _ hL), atI_nat (j := 0) rfl, a, as, rfl, SqT.of (s0 _ _ ha), ?_⟩
      refine ⟨_, rfl, .ref L, rfl, L, _, 1, .ref r, rfl, rfl, SqT.of (s0 _ _ hL), atI_nat (j := 1) rfl, r, rs, rfl, SqT.of (s0 _ _ hr'), _, _, rfl, rfl, .inr ⟨by omega, by omega⟩, _, _, rfl, rfl, ?_⟩
      refine ⟨.ref L, rfl, L, _, 1, .ref r, rfl, rfl, SqT.of (s0 _ _ hL), atI_nat (j := 1) rfl, _, rfl, (i : Int), rfl, cut_tup (s0 _ _ hr') (by rw [er]; omega) fun H1 c s1 hc => ?_⟩
      refine ⟨c, rs.take i, rfl, SqT.of (by rw [List.map_take]; exact hc), _, _, rfl, rfl, ?_⟩
      have q' := q _ (s0.trans s1)
      rw [eb, sm_at (by omega)] at q'
      exact q'
/-! ### do_close -/
def spClose : Sp := fun vs H Q _ => ∃ (L t : Addr) (as rs ht : List Int) (p : Int), vs = [.ref L, .int p, .ref t] ∧ Ld H L as rs ∧ Good as rs ∧ H t = some (.tup (ht.map V.int)) ∧ ht.length = as.length + rs.length ∧ Cl p as rs ht ∧ ∀ H', Same H H' → Q (.bl true) H'
abbrev nClose : List Str := ["loads", "pace", "heights", "ahead", "beat", "load", "some"]
theorem scClose : FnScope nClose ["loads", "pace", "heights"] (defScope sClose) := ⟨rfl, rfl, rfl, by decide +kernel, rfl, by decide +kernel, by decide +kernel⟩
theorem kn_close (F : Src K mg "do_close" sClose) (T : Txt mg) : Kn P w K mg base "do_close" 1 ["loads", "pace", "heights"] spClose := by
  refine F.kn scClose (fun _ _ _ _ _ _ us hl => match us, hl with | [_, _, _], _ => rfl) (fun vs H Q E h => ?_) (fun f cdv A outer s H vs Q E hr h => ?_)
  · obtain ⟨L, t, as, rs, ht, p, rfl, _⟩ := h
    rfl
  · obtain ⟨L, t, as, rs, ht, p, rfl, hLd, G, htt, hlen, hCl, q⟩ := h
    have la := G.la
    have lr := G.lr
    have lp := G.pos
    have ea := len_map as
    have er := len_map rs
    have eh := len_map ht
    obtain ⟨a, r, hL, ha, hr'⟩ := id hLd
    refine ⟨_, pss_cons (ps_set (i := 3) scClose.nd rfl (.inl rfl) (pe_callB call_len_seq (by rfl) T.len PySem.boot_len (pa_cons (pe_ix ix_tup (pv 0) pe_int (fun _ _ => rfl)) pa_nil)))
      (pss_cons (ps_for PassesOwn.never rfl (pi_enumT (by rfl) T.enumerate (pa_cons (pe_op op_catA (pe_ix ix_tup (pv 0) pe_int (fun _ _ => rfl)) (pe_ix ix_tup (pv 0) pe_int (fun _ _ => rfl))) pa_nil))
          (pg_tup rfl (pgs_cons (pg_name (i := 4) scClose.nd rfl (.inl rfl)) (pgs_cons (pg_name (i := 5) scClose.nd rfl (.inl rfl)) pgs_nil)))
        (pss_cons (ps_set (i := 6) scClose.nd rfl (.inl rfl) (pe_op op_cat (pe_op op_cat (pe_lst (pa_cons pe_int pa_nil)) (pe_ifExp (pt_cmpR op_gt (pv 4) pe_int (nomark _)) (pe_lst (pa_cons (pe_ix ix_tup (pv 2) (pe_op op_sub (pv 4) pe_int) (fun _ _ => rfl)) pa_nil)) (pe_lst pa_nil)))
            (pe_ifExp (pt_cmpR op_eq (pv 4) (pv 3) (nomark _)) (pe_lst (pa_cons (pe_ix ix_tup (pv 2) (pe_un un_neg pe_int) (fun _ _ => rfl)) pa_nil)) (pe_lst pa_nil))))
          (pss_one (ps_if (pt_cmpR op_lt (pe_ix ix_tup (pv 2) (pv 4) (fun _ _ => rfl)) (pe_op op_add (pe_op op_sub (pv 5) (pv 1)) (pe_callB (cr_max rfl) (by rfl) T.max boot_max (pa_cons (pv 6) pa_nil))) (nomark _)) (pss_one (ps_ret pe_bl)) pss_nil))))
      (pss_one (ps_ret pe_bl))), ?_⟩
    refine ⟨.ref L, rfl, L, _, 0, .ref a, rfl, rfl, SqT.of hL, atI_nat (j := 0) rfl, a, _, rfl, .inr (SqT.of ha), ?_⟩
    refine ⟨.ref L, rfl, L, _, 0, .ref a, rfl, rfl, SqT.of hL, atI_nat (j := 0) rfl, .ref L, rfl, L, _, 1, .ref r, rfl, rfl, SqT.of hL, atI_nat (j := 1) rfl, cat_tups ha hr' (by omega) fun H1 c s1 hc => ?_⟩
    refine ⟨c, _, rfl, SqT.of hc, for_it (walk_enumT (K := K) (a := c) (xs := as.map V.int ++ rs.map V.int)) (fun i σ H' => ∃ y4 y5 y6, σ = [some (.ref L), some (.int p), some (.ref t), some (.int ((as.map V.int).length : Int)), y4, y5, y6] ∧ Same H1 H') ⟨none, none, none, rfl, Same.refl _⟩ (fun i σ H' _ pv => ?_) (fun i x σ H' H2 hi pv hy => ?_) (fun σ H' pv => ?_)⟩
    · obtain ⟨_, _, _, _, sm⟩ := pv
      exact SqT.of (sm _ _ hc)
    · obtain ⟨y4, y5, y6, rfl, sm⟩ := pv
      obtain ⟨T1, x1, x2, rfl, nT, rfl, e1, e2⟩ := hy
      have e1 := Option.some.inj e1
      subst e1
      rw [← List.map_append] at e2 hi
      obtain ⟨ld, e3, rfl⟩ := map_at e2
      have hib : i < as.length + rs.length := by
        rw [len_map, List.length_append] at hi
        exact hi
      rw [app_ld hib] at e3
      have e3 := Option.some.inj e3
      have sT' : Same H' (upd H' T1 (.tup [.int (i : Nat), .int ld])) := same_upd nT
      have sT := (s1.trans sm).trans sT'
      have hT1 : upd H' T1 (.tup [.int (i : Nat), .int ld]) T1 = _ := upd_same
      have sm2 := sm.trans sT'
      generalize upd H' T1 (.tup [.int (i : Nat), .int ld]) = H2 at *
      obtain ⟨hti, hhi⟩ : ∃ h, ht[i]? = some h := ⟨ht[i], List.getElem?_eq_getElem (by omega)⟩
      have ok := fun v z => hCl i hib v hti hhi z
      refine ⟨T1, _, rfl, SqT.of hT1, rfl, _, _, rfl, _, _, rfl, rfl, ?_⟩
      -- some
      refine ⟨by show 1 ≤ sizeLine; decide, fun l1 n1 => ?_⟩
      have s3' : Same H2 (upd H2 l1 (.lst [.int 0])) := same_upd n1
      have hl1 : upd H2 l1 (.lst [.int 0]) l1 = _ := upd_same
      generalize upd H2 l1 (.lst [.int 0]) = H3 at *
      refine ⟨_, rfl, _, _, rfl, rfl, _, rfl, if_list (H := H3) (good := fun ys => ∃ xs : List Int, ys = xs.map V.int ∧ xs.length ≤ 1 ∧ ∀ v ∈ xs, ldAt as rs i - p + v ≤ hti) (fun e Q hq => ?_) (fun e Q hq => ?_) (fun H4 l2 ys2 s4' hl2 g2 => ?_)⟩
      · obtain ⟨hv, hhv⟩ : ∃ h, ht[i - 1]? = some h := ⟨ht[i - 1]'(by omega), List.getElem?_eq_getElem (by omega)⟩
        refine ⟨_, rfl, _, rfl, _, 1, rfl, rfl, t, _, _, .int hv, rfl, rfl, SqT.of (s3' _ _ (sT _ _ htt)), at_of (j := i - 1) (by omega) (by rw [List.getElem?_map, hhv]; rfl), by show 1 ≤ sizeLine; decide, fun l n => hq _ l [.int hv] (same_upd n) upd_same ⟨[hv], rfl, Nat.le_refl _, fun v hm => ?_⟩⟩
        rw [List.mem_singleton.mp hm]
        exact ok hv (.inr (.inl ⟨by omega, hhv⟩))
      · exact ⟨Nat.zero_le _, fun l n => hq _ l [] (same_upd n) upd_same ⟨[], rfl, Nat.zero_le _, fun v hm => by cases hm⟩⟩
      · obtain ⟨xs2, rfl, hz2, ok2⟩ := g2
        refine cat_lists (s4' _ _ hl1) hl2 (by rw [len_map]; show 1 + xs2.length ≤ 1000; omega) fun H5 l3 s5' hl3 => ?_
        have s5 := s3'.trans (s4'.trans s5')
        refine ⟨_, rfl, _, rfl, rfl, _, rfl, if_list (H := H5) (good := fun ys => ∃ xs : List Int, ys = xs.map V.int ∧ xs.length ≤ 1 ∧ ∀ v ∈ xs, ldAt as rs i - p + v ≤ hti) (fun e Q hq => ?_) (fun e Q hq => ?_) (fun H6 l4 ys4 s6' hl4 g4 => ?_)⟩
        · obtain ⟨hv, hhv⟩ : ∃ h, ht[as.length + rs.length - 1]? = some h := ⟨ht[as.length + rs.length - 1]'(by omega), List.getElem?_eq_getElem (by omega)⟩
          have ei : i = as.length := by
            have z := V.int.inj e
            rw [ea] at z
            omega
          refine ⟨_, rfl, 1, rfl, t, _, _, .int hv, rfl, rfl, SqT.of (s5 _ _ (sT _ _ htt)), at_last ?_, by show 1 ≤ sizeLine; decide, fun l n => hq _ l [.int hv] (same_upd n) upd_same ⟨[hv], rfl, Nat.le_refl _, fun v hm => ?_⟩⟩
          · rw [List.getLast?_eq_getElem?, eh, hlen, List.getElem?_map, hhv]
            rfl
          · rw [List.mem_singleton.mp hm]
            exact ok hv (.inr (.inr ⟨ei, hhv⟩))
        · exact ⟨Nat.zero_le _, fun l n => hq _ l [] (same_upd n) upd_same ⟨[], rfl, Nat.zero_le _, fun v hm => by cases hm⟩⟩
        · obtain ⟨xs4, rfl, hz4, ok4⟩ := g4
          refine cat_lists (s6' _ _ hl3) hl4 (by rw [List.length_append, len_map, len_map]; show 1 + xs2.length + xs4.length ≤ 1000; omega) fun H7 l5 s7' hl5 => ?_
          have s7 := s5.trans (s6'.trans s7')
          have e5 : [V.int 0] ++ xs2.map V.int ++ xs4.map V.int = ([0] ++ xs2 ++ xs4 : List Int).map V.int := by
            rw [List.map_append, List.map_append]
            rfl
          rw [e5] at hl5
          refine ⟨_, rfl, _, rfl, t, _, (i : Int), .int hti, rfl, rfl, SqT.of (s7 _ _ (sT _ _ htt)), atI_nat (by rw [List.getElem?_map, hhi]; rfl), _, rfl, _, rfl, _, _, rfl, rfl, _, rfl, l5, _, rfl, SqL.of hl5, by simp, fun m hm _ => ?_⟩
          refine ⟨_, _, rfl, rfl, _, _, rfl, rfl, _, rfl, iteDF ?_ ⟨_, _, _, rfl, sm2.trans s7⟩⟩
          have okm : ldAt as rs i - p + m ≤ hti := by
            rcases List.mem_append.mp hm with z | z
            · rcases List.mem_append.mp z with z | z
              · rw [List.mem_singleton.mp z]
                exact ok 0 (.inl rfl)
              · exact ok2 m z
            · exact ok4 m z
          show ¬ hti < ld - p + m
          omega
    · obtain ⟨_, _, _, _, sm⟩ := pv
      exact q _ (s1.trans sm)
end
end PwW
set_option Elab.async false
set_option linter.all false
set_option maxRecDepth 100000
set_option maxHeartbeats 4000000
namespace PwW
open PySem PySem.Spec PyProof.Rows L2 PwR PW
section
variable {P : Program} {w : World} {K : PySem.W.Frag} {mg : Str → Option Value} {base : Heap}
/-! ### is_worst -/
def spIsW : Sp := fun vs H Q _ => ∃ (L c t : Addr) (as rs : List Int) (p f l : Int), vs = [.ref L, .int p, .ref c] ∧ Ld H L as rs ∧ Good as rs ∧ 0 ≤ p ∧ p ≤ 1000 ∧ ¬ 0 < gr p rs ∧ H c = some (.tup [.int f, .int l, .ref t]) ∧
  H t = some (.tup ((hs p as rs).map V.int)) ∧ FromTo p as rs f l ∧ ∀ H', Same H H' → Q (.bl true) H'
abbrev nIsW : List Str := ["loads", "pace", "paper", "first", "last", "heights", "one"]
theorem scIsW : FnScope nIsW ["loads", "pace", "paper"] (defScope sIsW) := ⟨rfl, rfl, rfl, by decide +kernel, rfl, by decide +kernel, by decide +kernel⟩
theorem kn_isW (F : Src K mg "is_worst" sIsW) (T : Txt mg) (Wh : Kn P w K mg base "is_whole" 1 ["thing", "least", "most"] spWhole) (Cs : Kn P w K mg base "do_close" 1 ["loads", "pace", "heights"] spClose)
    (Sm : Kn P w K mg base "sum_to" 1 ["loads", "beat"] spSumTo) : Kn P w K mg base "is_worst" 2 ["loads", "pace", "paper"] spIsW := by
  refine F.kn scIsW (fun _ _ _ _ _ _ us hl => match us, hl with | [_, _, _], _ => rfl) (fun vs H Q E h => ?_) (fun f cdv A outer s H vs Q E hr h => ?_)
  · obtain ⟨L, c, t, as, rs, p, f, l, rfl, _⟩ := h
    rfl
  · obtain ⟨L, c, t, as, rs, p, f, l, rfl, hLd, G, h1, h2, hg, hc, ht, hfl, q⟩ := h
    have la := G.la
    have lr := G.lr
    have lp := G.pos
    have ea := len_map as
    have er := len_map rs
    have eh := len_map (hs p as rs)
    rw [hs_len] at eh
    obtain ⟨a, r, hL, ha, hr'⟩ := id hLd
    refine ⟨_, pss_cons (ps_asg (pv 2) (pg_tup rfl (pgs_cons (pg_name (i := 3) scIsW.nd rfl (.inl rfl)) (pgs_cons (pg_name (i := 4) scIsW.nd rfl (.inl rfl)) (pgs_cons (pg_name (i := 5) scIsW.nd rfl (.inl rfl)) pgs_nil)))))
      (pss_cons (ps_if (PW.pt (pw_or (pt_not (pt_val (pe_callB call_isi (by rfl) T.isinstance (by decide +kernel) (pa_cons (pv 5) (pa_cons (pe_bltn (v := .ty "tuple") (by rfl) T.tuple (by decide +kernel) rfl) pa_nil)))))
          (pw_or1 (pt_cmpR op_ne (pe_callB call_len_seq (by rfl) T.len PySem.boot_len (pa_cons (pv 5) pa_nil)) (pe_op op_add (pe_callB call_len_seq (by rfl) T.len PySem.boot_len (pa_cons (pe_ix ix_tup (pv 0) pe_int (fun _ _ => rfl)) pa_nil))
            (pe_callB call_len_seq (by rfl) T.len PySem.boot_len (pa_cons (pe_ix ix_tup (pv 0) pe_int (fun _ _ => rfl)) pa_nil))) (nomark _))))) (pss_one (ps_ret pe_bl)) pss_nil)
      (pss_cons (ps_if (PW.pt (pw_or (pt_not (pt_val (pe_callB (cr_all rfl) (by rfl) T.all (by decide +kernel) (pa_cons (pe_lc (own := [("one", 6)]) (g := gName 6) (tt := tYes) rfl scIsW.nd (pi_tup (pv 5)) (blkOk_by (N := nIsW) (sc := defScope sIsW) (by decide +kernel))
            (fun _ _ _ _ _ => pg_name (i := 6) scIsW.nd rfl (Or.inl rfl)) (fun _ _ _ _ _ => pts_nil) (fun _ _ _ _ _ => pe_kn Wh (hr.mono (by decide)) (by rfl) (pa_cons (pv 6) (pa_cons pe_int (pa_cons pe_non pa_nil))))) pa_nil))))
          (pw_or1 (pt_not (pt_val (pe_kn Cs hr (by rfl) (pa_cons (pv 0) (pa_cons (pv 1) (pa_cons (pv 5) pa_nil))))))))) (pss_one (ps_ret pe_bl)) pss_nil)
      (pss_cons (ps_if (PW.pt (pw_or (pt_not (pt_val (pe_kn Wh hr (by rfl) (pa_cons (pv 3) (pa_cons pe_int (pa_cons pe_non pa_nil))))))
          (pw_or1 (pt_not (pt_val (pe_kn Wh hr (by rfl) (pa_cons (pv 4) (pa_cons (pe_un un_neg pe_int) (pa_cons pe_non pa_nil))))))))) (pss_one (ps_ret pe_bl)) pss_nil)
      (pss_cons (ps_if (pt_cmpR op_eq (pv 4) (pe_un un_neg pe_int) (nomark _)) (pss_one (ps_ret (pe_and (pe_cmpR op_eq (pv 3) pe_int (nomark _)) (pe_one (pe_cmpR op_eq (pe_callB (cr_maxT rfl (hu_of hr)) (by rfl) T.max boot_max (pa_cons (pv 5) pa_nil)) pe_int (nomark _)))))) pss_nil)
      (pss_cons (ps_if (pt_cmpR op_gt (pv 3) (pv 4) (nomark _)) (pss_one (ps_ret pe_bl)) pss_nil)
      (pss_one (ps_ret (pe_cmpR op_eq (pe_op op_sub (pe_op op_sub (pe_kn Sm hr (by rfl) (pa_cons (pv 0) (pa_cons (pe_op op_add (pv 4) pe_int) pa_nil))) (pe_kn Sm hr (by rfl) (pa_cons (pv 0) (pa_cons (pv 3) pa_nil))))
        (pe_op op_mul (pv 1) (pe_op op_sub (pe_op op_add (pv 4) pe_int) (pv 3)))) (pe_callB (cr_maxT rfl (hu_of hr)) (by rfl) T.max boot_max (pa_cons (pv 5) pa_nil)) (nomark _))))))))), ?_⟩
    refine ⟨.ref c, rfl, c, _, rfl, SqT.of hc, rfl, _, _, rfl, _, _, rfl, _, _, rfl, rfl, ?_⟩
    refine ⟨.ref t, rfl, .ref t, .ty "tuple", .type "tuple", .type "tuple", true, rfl, .ty _, .base (.tup ht), kit_ty (by decide +kernel), true, rfl, iteF ?_⟩
    refine ⟨.ref t, rfl, t, _, rfl, .inr (SqT.of ht), .ref L, rfl, L, _, 0, .ref a, rfl, rfl, SqT.of hL, atI_nat (j := 0) rfl, a, _, rfl, .inr (SqT.of ha), .ref L, rfl, L, _, 1, .ref r, rfl, rfl, SqT.of hL, atI_nat (j := 1) rfl, r, _, rfl, .inr (SqT.of hr'), _, _, rfl, rfl, rfl, _, rfl, ?_⟩
    refine iteNS (congrArg V.int (by omega)) ?_
    -- all(..)
    refine ⟨.ref t, rfl, t, rfl, ⟨_, SqT.of ht⟩, fun D nD => lc_tup (xs := (hs p as rs).map V.int) (fun i H' => Same H H' ∧ H' D = some (.lst ((List.replicate i true).map V.bl))) ⟨same_upd nD, upd_same⟩ (fun i H' _ p => SqT.of (p.1 _ _ ht)) (fun i x H' hx pv => ?_) (fun H' pv => ?_)⟩
    · obtain ⟨sm, hD⟩ := pv
      obtain ⟨y, hy, rfl⟩ := map_at hx
      have hi : i < (hs p as rs).length := (List.getElem?_eq_some_iff.mp hy).1
      rw [hs_len] at hi
      refine ⟨rfl, .int y, rfl, y, 0, .non, rfl, hs_nn y (List.mem_of_getElem? hy), .inl rfl, _, hD, ?_, ?_, ?_⟩
      · rw [List.length_map, List.length_replicate]
        exact small1000 (by omega)
      · intro b o e
        rw [upd_ne (ne_of_none e nD)]
        exact sm _ _ e
      · rw [upd_same, List.replicate_succ', List.map_append]
        rfl
    · obtain ⟨s1, hD⟩ := pv
      refine ⟨D, _, rfl, SqL.of hD, ?_⟩
      have e : (List.replicate ((hs p as rs).map V.int).length true).all id = true := by
        rw [List.all_eq_true]
        intro b hb
        rw [List.eq_of_mem_replicate hb]
        rfl
      rw [e]
      refine ⟨true, rfl, iteF ?_⟩
      refine ⟨.ref L, rfl, .int p, rfl, .ref t, rfl, L, t, as, rs, hs p as rs, p, rfl, hLd.mono s1, G, s1 _ _ ht, hs_len, hs_close lp (by omega), fun H2 s2' => ⟨true, rfl, iteF ?_⟩⟩
      have s2 := s1.trans s2'
      have hb : 0 ≤ f ∧ -1 ≤ l := by
        rcases hfl with ⟨_, rfl, rfl⟩ | ⟨_, j, _, rfl, rfl⟩ <;> omega
      refine ⟨.int f, rfl, f, 0, .non, rfl, hb.1, .inl rfl, true, rfl, iteF ?_⟩
      refine ⟨.int l, rfl, 1, rfl, l, -1, .non, rfl, hb.2, .inl rfl, true, rfl, iteF ?_⟩
      refine ⟨.int l, rfl, 1, rfl, rfl, _, rfl, ?_⟩
      rcases hfl with ⟨e0, rfl, rfl⟩ | ⟨e0, j, hj, rfl, rfl⟩
      · refine iteDT rfl ?_
        refine ⟨.int 0, rfl, rfl, true, rfl, iteT ?_⟩
        refine ⟨.ref t, rfl, t, _, rfl, SqT.of (s2 _ _ ht), ?_, fun m hm hle => ?_⟩
        · rw [hs_len]
          omega
        · have em := mx_of hs_nn hm hle
          rw [hs_mx lp, e0] at em
          subst em
          exact ⟨rfl, q _ s2⟩
      · refine iteDF (fun z => ?_) ?_
        · have z := V.int.inj z
          omega
        have hle := gb_le (p := p) (as := as) (rs := rs) j
        refine ⟨_, rfl, _, rfl, _, _, rfl, rfl, _, rfl, iteDF (by omega) ?_⟩
        refine ⟨.ref L, rfl, _, rfl, _, 1, rfl, rfl, L, as, rs, _, j + 1, rfl, by omega, hLd.mono s2, G, fun H3 s3' => ?_⟩
        have s3 := s2.trans s3'
        refine ⟨.ref L, rfl, _, rfl, L, as, rs, _, gb p as rs j, rfl, rfl, hLd.mono s3, G, fun H4 s4' => ?_⟩
        have s4 := s3.trans s4'
        refine ⟨_, _, rfl, rfl, .int p, rfl, _, rfl, _, 1, rfl, rfl, _, rfl, _, _, rfl, rfl, p, _, rfl, rfl, .inl ⟨by omega, by omega⟩, _, _, rfl, rfl, ?_⟩
        refine ⟨.ref t, rfl, t, _, rfl, SqT.of (s4 _ _ ht), ?_, fun m hm hle => ?_⟩
        · rw [hs_len]
          omega
        · have em := mx_of hs_nn hm hle
          rw [hs_mx lp, ← hj.2.1, excess (p := p) (as := as) (rs := rs) (l := j)] at em
          · subst em
            refine ⟨rfl, ?_⟩
            show Q (.bl (decide (V.int _ = V.int _))) H4
            rw [decide_eq_true rfl]
            exact q _ s4
          · have := wt_nn p as rs (j + 1)
            have := hj.2.1
            omega
/-! ### check_worst -/
def spCheck : Sp := fun vs H Q _ => ∃ (L c : Addr) (as rs : List Int) (p : Int), vs = [.ref L, .int p, .ref c] ∧ Ld H L as rs ∧ Good as rs ∧ 0 ≤ p ∧ p ≤ 1000 ∧ Paper H c p as rs ∧ ∀ H', Same H H' → Q (optV (wo p as rs)) H'
theorem scCheck : FnScope ["loads", "pace", "paper"] ["loads", "pace", "paper"] (defScope sCheck) := ⟨rfl, rfl, rfl, by decide +kernel, rfl, by decide +kernel, by decide +kernel⟩
theorem kn_check (F : Src K mg "check_worst" sCheck) (T : Txt mg) (Np : Kn P w K mg base "need_pace" 4 ["loads", "pace"] spNeedP) (Gr : Kn P w K mg base "growth" 1 ["loads", "pace"] spGrowth) (Iw : Kn P w K mg base "is_worst" 2 ["loads", "pace", "paper"] spIsW) :
    Kn P w K mg base "check_worst" 5 ["loads", "pace", "paper"] spCheck := by
  refine F.kn scCheck (fun _ _ _ _ _ _ us hl => match us, hl with | [_, _, _], _ => rfl) (fun vs H Q E h => ?_) (fun f cdv A outer s H vs Q E hr h => ?_)
  · obtain ⟨L, c, as, rs, p, rfl, _⟩ := h
    rfl
  · obtain ⟨L, c, as, rs, p, rfl, hLd, G, h1, h2, hP, q⟩ := h
    obtain ⟨tw, cw⟩ := T.worst
    obtain ⟨te, ce⟩ := T.endless
    have lp := G.pos
    refine ⟨_, pss_cons (ps_expr (pe_kn Np hr (by rfl) (pa_cons (pv 0) (pa_cons (pv 1) pa_nil))))
      (pss_cons (ps_if (PW.pt (pw_or (pt_not (pt_val (pe_callB call_isi (by rfl) T.isinstance (by decide +kernel) (pa_cons (pv 2) (pa_cons (pe_bltn (v := .ty "tuple") (by rfl) T.tuple (by decide +kernel) rfl) pa_nil)))))
          (pw_or (pt_cmpR (op_eqD hr.units) (pv 2) (pe_tup pa_nil) (nomark _))
          (pw_or1 (pt_not (pt_val (pe_callB call_isi (by rfl) T.isinstance (by decide +kernel) (pa_cons (pe_ix ix_tup (pv 2) pe_int (fun _ _ => rfl)) (pa_cons (pe_bltn (v := .ty "str") (by rfl) T.str (by decide +kernel) rfl) pa_nil))))))))) pss_never pss_nil)
      (pss_cons (ps_if (pt_cmpR (op_notInT (Nat.lt_of_le_of_lt (Nat.add_le_add_left (by decide : 65 ≤ 200) _) (Nat.lt_of_le_of_lt (Nat.le_refl _) (show (A.deeper (envOfC (Str.ofString "check_worst") (defScope sCheck) s.heap.objs.size f cdv)).units + 200 < cLine from by have := hr.un; omega))))
          (pe_tup (pa_cons (pe_ix ix_tup (pv 2) pe_int (fun _ _ => rfl)) (pa_cons (pe_callB call_len_seq (by rfl) T.len PySem.boot_len (pa_cons (pv 2) pa_nil)) pa_nil)))
          (pe_tup (pa_cons (pe_tup (pa_cons (pe_glob (v := .str "worst") rfl cw ⟨_, rfl⟩) (pa_cons pe_int pa_nil))) (pa_cons (pe_tup (pa_cons (pe_glob (v := .str "endless") rfl ce ⟨_, rfl⟩) (pa_cons pe_int pa_nil))) pa_nil))) (by rfl)) pss_never pss_nil)
      (pss_cons (ps_if (pt_cmpR op_eq (pe_ix ix_tup (pv 2) pe_int (fun _ _ => rfl)) (pe_glob (v := .str "endless") rfl ce ⟨_, rfl⟩) (nomark _))
          (pss_cons (ps_if (pt_cmpR op_le (pe_kn Gr (hr.mono (by decide)) (by rfl) (pa_cons (pv 0) (pa_cons (pv 1) pa_nil))) pe_int (nomark _)) pss_never pss_nil) (pss_one (ps_ret pe_non))) pss_nil)
      (pss_cons (ps_if (pt_not (pt_val (pe_kn Iw (hr.mono (by decide)) (by rfl) (pa_cons (pv 0) (pa_cons (pv 1) (pa_cons (pe_slice sl_tupA (pv 2) (po_some pe_int) po_none) pa_nil)))))) pss_never pss_nil)
      (pss_one (ps_ret (pe_callB (cr_maxT rfl (hu_of hr)) (by rfl) T.max boot_max (pa_cons (pe_ix ix_tup (pv 2) pe_int (fun _ _ => rfl)) pa_nil)))))))), ?_⟩
    refine ⟨.ref L, rfl, .int p, rfl, L, as, rs, p, rfl, hLd, G, h1, h2, fun H1 s1 => ?_⟩
    rcases hP with ⟨hg, hc⟩ | ⟨hg, f, l, t, hc, ht, hfl⟩
    · have c1 := s1 _ _ hc
      rw [wo_none hg] at q
      refine ⟨.ref c, rfl, .ref c, .ty "tuple", .type "tuple", .type "tuple", true, rfl, .ty _, .base (.tup c1), kit_ty (by decide +kernel), true, rfl, iteF ?_⟩
      refine ⟨.ref c, rfl, Nat.zero_le _, fun n2 nn2 => ?_⟩
      have s2' : Same H1 (upd H1 n2 (.tup [])) := same_upd nn2
      have hn2 : upd H1 n2 (.tup []) n2 = _ := upd_same
      generalize upd H1 n2 (.tup []) = H2 at *
      have c2 := s2' _ _ c1
      have s2 := s1.trans s2'
      refine ⟨.tuple [.str "endless"], .tuple [], .tup (SqT.of c2) (.cons (.str _) .nil), .tup (SqT.of hn2) .nil, sh_e, sh_nil, false, congrArg V.bl (ne_nil_t _ _), iteF ?_⟩
      refine ⟨.ref c, rfl, c, _, 0, .str "endless", rfl, rfl, SqT.of c2, atI_nat (j := 0) rfl, .str "endless", .ty "str", .type "str", .type "str", true, rfl, .ty _, .base (.str _), kit_ty (by decide +kernel), true, rfl, iteF ?_⟩
      refine ⟨.ref c, rfl, c, _, 0, .str "endless", rfl, rfl, SqT.of c2, atI_nat (j := 0) rfl, .ref c, rfl, c, _, rfl, .inr (SqT.of c2), by show 2 ≤ sizeLine; decide, fun x3 n3 => ?_⟩
      refine ⟨by show 2 ≤ sizeLine; decide, fun x4 n4 => ⟨by show 2 ≤ sizeLine; decide, fun x5 n5 => ⟨by show 2 ≤ sizeLine; decide, fun x6 n6 => ?_⟩⟩⟩
      have t3 := upd_same (H := H2) (a := x3) (o := .tup [.str "endless", .int ((([V.str "endless"] : List V).length : Nat) : Int)])
      have s3 := same_upd (o := .tup [.str "endless", .int ((([V.str "endless"] : List V).length : Nat) : Int)]) n3
      have t4 := upd_same (H := upd H2 x3 (.tup [.str "endless", .int ((([V.str "endless"] : List V).length : Nat) : Int)])) (a := x4) (o := .tup [.str "worst", .int 4])
      have s4 := same_upd (o := .tup [.str "worst", .int 4]) n4
      have t5 := upd_same (H := upd (upd H2 x3 (.tup [.str "endless", .int ((([V.str "endless"] : List V).length : Nat) : Int)])) x4 (.tup [.str "worst", .int 4])) (a := x5) (o := .tup [.str "endless", .int 1])
      have s5 := same_upd (o := .tup [.str "endless", .int 1]) n5
      have t6 := upd_same (H := upd (upd (upd H2 x3 (.tup [.str "endless", .int ((([V.str "endless"] : List V).length : Nat) : Int)])) x4 (.tup [.str "worst", .int 4])) x5 (.tup [.str "endless", .int 1])) (a := x6) (o := .tup [.ref x4, .ref x5])
      have s6 := same_upd (o := .tup [.ref x4, .ref x5]) n6
      refine ⟨.tuple [.str "endless", .int 1], [.tuple [.str "worst", .int 4], .tuple [.str "endless", .int 1]], .tup (SqT.of (s6 _ _ (s5 _ _ (s4 _ _ t3)))) (.cons (.str _) (.cons (.int 1) .nil)),
        .tup (SqT.of t6) (.cons (.tup (SqT.of (s6 _ _ (s5 _ _ t4))) (.cons (.str _) (.cons (.int 4) .nil))) (.cons (.tup (SqT.of (s6 _ _ t5)) (.cons (.str _) (.cons (.int 1) .nil))) .nil)), sh_e1, sh_two, false, congrArg V.bl in_e, iteF ?_⟩
      have sA := ((s3.trans s4).trans s5).trans s6
      have sB := s2.trans sA
      refine ⟨.ref c, rfl, c, _, 0, .str "endless", rfl, rfl, SqT.of (sA _ _ c2), atI_nat (j := 0) rfl, rfl, _, rfl, iteDT rfl ?_⟩
      refine ⟨.ref L, rfl, .int p, rfl, L, as, rs, p, rfl, hLd.mono sB, h1, h2, gr p rs, 0, rfl, rfl, _, rfl, iteDF (by omega) ?_⟩
      exact q _ sB
    · have c1 := s1 _ _ hc
      rw [wo_some hg] at q
      refine ⟨.ref c, rfl, .ref c, .ty "tuple", .type "tuple", .type "tuple", true, rfl, .ty _, .base (.tup c1), kit_ty (by decide +kernel), true, rfl, iteF ?_⟩
      refine ⟨.ref c, rfl, Nat.zero_le _, fun n2 nn2 => ?_⟩
      have s2' : Same H1 (upd H1 n2 (.tup [])) := same_upd nn2
      have hn2 : upd H1 n2 (.tup []) n2 = _ := upd_same
      generalize upd H1 n2 (.tup []) = H2 at *
      have c2 := s2' _ _ c1
      have s2 := s1.trans s2'
      refine ⟨.tuple [.str "worst", .int f, .int l, .tuple ((hs p as rs).map .int)], .tuple [], .tup (SqT.of c2) (.cons (.str _) (.cons (.int _) (.cons (.int _) (.cons (.tup (SqT.of (s2 _ _ ht)) (dps_ints _)) .nil)))), .tup (SqT.of hn2) .nil, sh_w _ _ _, sh_nil, false, congrArg V.bl (ne_nil_t _ _), iteF ?_⟩
      refine ⟨.ref c, rfl, c, _, 0, .str "worst", rfl, rfl, SqT.of c2, atI_nat (j := 0) rfl, .str "worst", .ty "str", .type "str", .type "str", true, rfl, .ty _, .base (.str _), kit_ty (by decide +kernel), true, rfl, iteF ?_⟩
      refine ⟨.ref c, rfl, c, _, 0, .str "worst", rfl, rfl, SqT.of c2, atI_nat (j := 0) rfl, .ref c, rfl, c, _, rfl, .inr (SqT.of c2), by show 2 ≤ sizeLine; decide, fun x3 n3 => ?_⟩
      refine ⟨by show 2 ≤ sizeLine; decide, fun x4 n4 => ⟨by show 2 ≤ sizeLine; decide, fun x5 n5 => ⟨by show 2 ≤ sizeLine; decide, fun x6 n6 => ?_⟩⟩⟩
      have t3 := upd_same (H := H2) (a := x3) (o := .tup [.str "worst", .int ((([V.str "worst", .int f, .int l, .ref t] : List V).length : Nat) : Int)])
      have s3 := same_upd (o := .tup [.str "worst", .int ((([V.str "worst", .int f, .int l, .ref t] : List V).length : Nat) : Int)]) n3
      have t4 := upd_same (H := upd H2 x3 (.tup [.str "worst", .int ((([V.str "worst", .int f, .int l, .ref t] : List V).length : Nat) : Int)])) (a := x4) (o := .tup [.str "worst", .int 4])
      have s4 := same_upd (o := .tup [.str "worst", .int 4]) n4
      have t5 := upd_same (H := upd (upd H2 x3 (.tup [.str "worst", .int ((([V.str "worst", .int f, .int l, .ref t] : List V).length : Nat) : Int)])) x4 (.tup [.str "worst", .int 4])) (a := x5) (o := .tup [.str "endless", .int 1])
      have s5 := same_upd (o := .tup [.str "endless", .int 1]) n5
      have t6 := upd_same (H := upd (upd (upd H2 x3 (.tup [.str "worst", .int ((([V.str "worst", .int f, .int l, .ref t] : List V).length : Nat) : Int)])) x4 (.tup [.str "worst", .int 4])) x5 (.tup [.str "endless", .int 1])) (a := x6) (o := .tup [.ref x4, .ref x5])
      have s6 := same_upd (o := .tup [.ref x4, .ref x5]) n6
      refine ⟨.tuple [.str "worst", .int 4], [.tuple [.str "worst", .int 4], .tuple [.str "endless", .int 1]], .tup (SqT.of (s6 _ _ (s5 _ _ (s4 _ _ t3)))) (.cons (.str _) (.cons (.int 4) .nil)),
        .tup (SqT.of t6) (.cons (.tup (SqT.of (s6 _ _ (s5 _ _ t4))) (.cons (.str _) (.cons (.int 4) .nil))) (.cons (.tup (SqT.of (s6 _ _ t5)) (.cons (.str _) (.cons (.int 1) .nil))) .nil)), sh_w4, sh_two, false, congrArg V.bl in_w, iteF ?_⟩
      have sA := ((s3.trans s4).trans s5).trans s6
      have sB := s2.trans sA
      refine ⟨.ref c, rfl, c, _, 0, .str "worst", rfl, rfl, SqT.of (sA _ _ c2), atI_nat (j := 0) rfl, rfl, _, rfl, iteDF (by decide +kernel) ?_⟩
      refine ⟨.ref L, rfl, .int p, rfl, .ref c, rfl, 1, rfl, c, _, rfl, SqT.of (sA _ _ c2), fun e => absurd (show (1 : Nat) = 0 from e.1) (by decide), fun _ y ny => ?_⟩
      have sC' := same_upd (o := .tup (cutV [.str "worst", .int f, .int l, .ref t] (some 1) none)) ny
      have sC := sB.trans sC'
      refine ⟨L, y, t, as, rs, p, f, l, rfl, hLd.mono sC, G, h1, h2, hg, upd_same, sC _ _ ht, hfl, fun H8 s8 => ⟨true, rfl, iteF ?_⟩⟩
      have sD := sC.trans s8
      refine ⟨.ref c, rfl, c, _, 3, .ref t, rfl, rfl, SqT.of (s8 _ _ (sC' _ _ (sA _ _ c2))), atI_nat (j := 3) rfl, t, _, rfl, SqT.of (sD _ _ ht), ?_, fun m hm hle => ?_⟩
      · rw [hs_len]
        omega
      · have em := mx_of hs_nn hm hle
        rw [hs_mx lp] at em
        subst em
        exact q _ sD
end
end PwW
set_option Elab.async false
set_option linter.all false
set_option maxRecDepth 100000
set_option maxHeartbeats 4000000
namespace PwW
open PySem PySem.Spec PyProof.Rows L2 PwR PW
def optN : Option Nat → V
  | none => .non
  | some t => .int (t : Int)
section
variable {P : Program} {w : World} {K : PySem.W.Frag} {mg : Str → Option Value} {base : Heap}
/-! ### first_late -/
def spFirst : Sp := fun vs H Q _ => ∃ (L : Addr) (as rs : List Int) (p many : Int), vs = [.ref L, .int p, .int many] ∧ Ld H L as rs ∧ Good as rs ∧ 0 ≤ p ∧ p ≤ 1000 ∧ 0 ≤ many ∧ many ≤ 10 ^ 30 ∧
  ∀ H' o, Same H H' → FL p as rs many o → Q (optN o) H'
abbrev nFirst : List Str := ["loads", "pace", "many", "film", "some", "more", "begin", "ring", "found", "spot", "short", "number", "beat", "waiting"]
theorem scFirst : FnScope nFirst ["loads", "pace", "many"] (defScope sFirst) := ⟨rfl, rfl, rfl, by decide +kernel, rfl, by decide +kernel, by decide +kernel⟩
theorem kn_first (F : Src K mg "first_late" sFirst) (T : Txt mg) (Np : Kn P w K mg base "need_pace" 4 ["loads", "pace"] spNeedP) (Nn : Kn P w K mg base "need_number" 2 ["thing"] spNeedN) (Lo : Kn P w K mg base "long_film" 2 ["loads", "pace"] spLong)
    (Gr : Kn P w K mg base "growth" 1 ["loads", "pace"] spGrowth) (Be : Kn P w K mg base "before_ring" 3 ["loads", "pace", "number"] spBefore) : Kn P w K mg base "first_late" 5 ["loads", "pace", "many"] spFirst := by
  refine F.kn scFirst (fun _ _ _ _ _ _ us hl => match us, hl with | [_, _, _], _ => rfl) (fun vs H Q E h => ?_) (fun f cdv A outer s H vs Q E hr h => ?_)
  · obtain ⟨L, as, rs, p, many, rfl, _⟩ := h
    rfl
  · obtain ⟨L, as, rs, p, many, rfl, hLd, G, h1, h2, m1, m2, q⟩ := h
    have la := G.la
    have lr := G.lr
    have lp := G.pos
    have ea := len_map as
    have er := len_map rs
    obtain ⟨a, r, hL, ha, hr'⟩ := id hLd
    refine ⟨_, pss_cons (ps_expr (pe_kn Np hr (by rfl) (pa_cons (pv 0) (pa_cons (pv 1) pa_nil))))
      (pss_cons (ps_expr (pe_kn Nn (hr.mono (by decide)) (by rfl) (pa_cons (pv 2) pa_nil)))
      (pss_cons (ps_set (i := 3) scFirst.nd rfl (.inl rfl) (pe_kn Lo (hr.mono (by decide)) (by rfl) (pa_cons (pv 0) (pa_cons (pv 1) pa_nil))))
      (pss_cons (ps_setLc (i := 4) (own := [("beat", 12), ("waiting", 13)]) (g := gTup K 2 (gCons (gName 12) (gCons (gName 13) gNil))) rfl scFirst.nd rfl rfl (sw_true rfl rfl rfl (by decide +kernel)) (pi_enum (by rfl) T.enumerate (pa_cons (pv 3) pa_nil))
          (blkOk_by (N := nFirst) (sc := defScope sFirst) (by decide +kernel)) (fun _ _ _ _ _ => pg_tup rfl (pgs_cons (pg_name (i := 12) scFirst.nd rfl (.inl rfl)) (pgs_cons (pg_name (i := 13) scFirst.nd rfl (.inl rfl)) pgs_nil)))
          (fun _ _ _ _ _ => pts_one (pt_cmpR op_gt (pv 13) (pv 2) (nomark _))) (fun _ _ _ _ _ => pv 12))
      (pss_cons (ps_if (pt_cmpR (op_neD hr.units) (pv 4) (pe_lst pa_nil) (nomark _)) (pss_one (ps_ret (pe_ix ix_list (pv 4) pe_int (fun _ _ => rfl)))) pss_nil)
      (pss_cons (ps_par3 (i := 5) (j := 6) (l := 7) rfl scFirst.nd rfl rfl rfl (by decide) (by decide) (by decide) rfl rfl rfl (pa_cons (pe_kn Gr (hr.mono (by decide)) (by rfl) (pa_cons (pv 0) (pa_cons (pv 1) pa_nil)))
          (pa_cons (pe_kn Be (hr.mono (by decide)) (by rfl) (pa_cons (pv 0) (pa_cons (pv 1) (pa_cons pe_int pa_nil)))) (pa_cons (pe_callB call_len_seq (by rfl) T.len PySem.boot_len (pa_cons (pe_ix ix_tup (pv 0) pe_int (fun _ _ => rfl)) pa_nil)) pa_nil))) (by rfl))
      (pss_cons (ps_if (pt_cmpR op_le (pv 5) pe_int (nomark _)) (pss_one (ps_ret pe_non)) pss_nil)
      (pss_cons (ps_set (i := 8) scFirst.nd rfl (.inl rfl) (pe_lst pa_nil))
      (pss_cons (ps_for PassesOwn.never rfl (pi_range1 (by rfl) T.range (pa_cons (pv 7) pa_nil)) (pg_name (i := 9) scFirst.nd rfl (.inl rfl))
        (pss_cons (ps_set (i := 10) scFirst.nd rfl (.inl rfl) (pe_op op_sub (pe_op op_sub (pe_op op_add (pv 2) pe_int) (pv 6)) (pe_op op_sub (pe_callB (cr_sumT rfl) (by rfl) T.sum boot_sum (pa_cons (pe_slice sl_tupA (pe_ix ix_tup (pv 0) pe_int (fun _ _ => rfl)) po_none (po_some (pe_op op_add (pv 9) pe_int))) pa_nil))
            (pe_op op_mul (pv 1) (pe_op op_add (pv 9) pe_int)))))
        (pss_cons (ps_set (i := 11) scFirst.nd rfl (.inl rfl) (pe_op op_add pe_int (pe_callB (call_max2 rfl) (by rfl) T.max boot_max (pa_cons pe_int (pa_cons (pe_op op_sub pe_int (pe_op op_fdiv (pe_op op_sub pe_int (pv 10)) (pv 5))) pa_nil)))))
        (pss_one (ps_expr (pe_bm PySem.F.plainAttrs_list PySem.F.slot_list_append PySem.F.type_list_append mt_append (pv 8) (pa_cons (pe_op op_add (pe_op op_add (pe_callB call_len_seq (by rfl) T.len PySem.boot_len (pa_cons (pe_ix ix_tup (pv 0) pe_int (fun _ _ => rfl)) pa_nil)) (pe_op op_mul (pv 11) (pv 7))) (pv 9)) pa_nil)))))))
      (pss_one (ps_ret (pe_callB (cr_min rfl) (by rfl) T.min boot_min (pa_cons (pv 8) pa_nil)))))))))))), ?_⟩
    refine ⟨.ref L, rfl, .int p, rfl, L, as, rs, p, rfl, hLd, G, h1, h2, fun H1 s1 => ?_⟩
    refine ⟨.int many, rfl, many, rfl, m1, m2, ?_⟩
    refine ⟨.ref L, rfl, .int p, rfl, L, as, rs, p, rfl, hLd.mono s1, G, fun H2 fl s2' nfl hfl => ?_⟩
    have s2 := s1.trans s2'
    -- some
    refine ⟨.ref fl, rfl, fl, _, rfl, SqL.of hfl, fun D nD => lc_it (walk_enum (K := K) (a := fl) (xs := (fw p as rs (as.length + rs.length + rs.length)).map V.int)) (fun i H' => Same H2 H' ∧ H' D = some (.lst ((((List.range i).filter fun b => decide (many < wt p as rs (b + 1))).map fun b : Nat => (b : Int)).map V.int)))
      ⟨same_upd nD, upd_same⟩ (fun i H' _ pv => SqL.of (pv.1 _ _ hfl)) (fun i x H' H3 hi pv hy => ?_) (fun H' pv => ?_)⟩
    · obtain ⟨sm, hD⟩ := pv
      obtain ⟨T1, x1, x2, rfl, nT, rfl, e1, e2⟩ := hy
      have e1 := Option.some.inj e1
      subst e1
      rw [len_map, fw_len] at hi
      have e2 := Option.some.inj ((fw_vat (p := p) (as := as) (rs := rs) hi).symm.trans e2)
      subst e2
      have sT' : Same H' (upd H' T1 (.tup [.int (i : Nat), .int (wt p as rs (i + 1))])) := same_upd nT
      have hT1 : upd H' T1 (.tup [.int (i : Nat), .int (wt p as rs (i + 1))]) T1 = _ := upd_same
      generalize upd H' T1 (.tup [.int (i : Nat), .int (wt p as rs (i + 1))]) = H3 at *
      refine ⟨T1, _, rfl, SqT.of hT1, rfl, _, _, rfl, _, _, rfl, rfl, rfl, ?_⟩
      refine ⟨_, rfl, _, rfl, _, _, rfl, rfl, _, rfl, ite2 (fun e => ?_) (fun e => ?_)⟩
      · have e := of_decide_eq_true e
        refine ⟨_, rfl, _, sT' _ _ hD, ?_, ?_, ?_⟩
        · rw [List.length_map, List.length_map]
          exact small1000 (Nat.le_trans (List.length_filter_le _ _) (by rw [List.length_range]; omega))
        · intro b o z
          rw [upd_ne (ne_of_none z nD)]
          exact sT' _ _ (sm _ _ z)
        · rw [upd_same, List.range_succ, List.filter_append, List.map_append, List.map_append]
          have ef : ([i].filter fun b => decide (many < wt p as rs (b + 1))) = [i] := by simp [e]
          rw [ef]
          rfl
      · refine ⟨sm.trans sT', ?_⟩
        have ef : ([i].filter fun b => decide (many < wt p as rs (b + 1))) = [] := by
          have e' : ¬ many < wt p as rs (i + 1) := fun z => e (decide_eq_true z)
          simp [e']
        rw [List.range_succ, List.filter_append, ef, List.append_nil]
        exact sT' _ _ hD
    · obtain ⟨s3', hD⟩ := pv
      rw [len_map, fw_len] at hD
      have s3 := s2.trans s3'
      -- if some != []
      refine ⟨.ref D, rfl, Nat.zero_le _, fun n4 nn4 => ?_⟩
      have s4' := same_upd (o := .lst []) nn4
      have hn4 := upd_same (H := H') (a := n4) (o := .lst [])
      have s4 := s3.trans s4'
      have hD4 := s4' _ _ hD
      generalize upd H' n4 (.lst []) = H4 at *
      refine ⟨.list ((((List.range (as.length + rs.length + rs.length)).filter fun b => decide (many < wt p as rs (b + 1))).map fun b : Nat => (b : Int)).map PyData.int), .list [], .lst (SqL.of hD4) (dps_ints _), .lst (SqL.of hn4) .nil, shaped_lst _, shaped_lst [], _, congrArg (fun z => V.bl (!z)) (ne_nil _), ?_⟩
      cases hsome : (List.range (as.length + rs.length + rs.length)).filter fun b => decide (many < wt p as rs (b + 1)) with
      | cons x t =>
        rw [hsome] at hD4
        refine ⟨.ref D, rfl, D, _, 0, .int (x : Nat), rfl, rfl, SqL.of hD4, atI_nat (j := 0) rfl, ?_⟩
        obtain ⟨f1, f2, f3⟩ := find_first _ (fun b => many < wt p as rs (b + 1)) t x hsome
        exact q _ (some x) s4 (fl_film G m1 f1 f2 fun b hb => by have := f3 b hb; omega)
      | nil =>
        have hall : ∀ b, b < as.length + rs.length + rs.length → wt p as rs (b + 1) ≤ many := fun b hb => none_over hsome hb
        refine ⟨.ref L, rfl, .int p, rfl, L, as, rs, p, rfl, hLd.mono s4, h1, h2, ?_⟩
        refine ⟨.ref L, rfl, .int p, rfl, L, as, rs, p, 1, rfl, hLd.mono s4, G, h1, h2, by decide, fun H5 s5' => ?_⟩
        have s5 := s4.trans s5'
        refine ⟨.ref L, rfl, L, _, 1, .ref r, rfl, rfl, SqT.of (s5 _ _ hL), atI_nat (j := 1) rfl, r, _, rfl, .inr (SqT.of (s5 _ _ hr')), _, _, _, rfl, ?_⟩
        rw [er]
        refine ⟨_, rfl, gr p rs, 0, rfl, rfl, _, rfl, ite2 (fun e => ?_) (fun e => ?_)⟩
        · exact q _ none s5 (fl_none G (of_decide_eq_true e) hall)
        · have hg : 0 < gr p rs := by
            have : ¬ gr p rs ≤ 0 := fun z => e (decide_eq_true z)
            omega
          have hgb := gr_bd (as := as) G h1 h2
          refine ⟨Nat.zero_le _, fun fa nfa => ?_⟩
          have s6' := same_upd (o := .lst []) nfa
          have hfa := upd_same (H := H5) (a := fa) (o := .lst [])
          generalize upd H5 fa (.lst []) = H6 at *
          refine ⟨_, rfl, _, rfl, by omega, by omega, for_range (lo := 0) (n := rs.length) (fun i σ H' => ∃ y9 y10 y11, σ = [some (.ref L), some (.int p), some (.int many), some (.ref fl), some (.ref D), some (.int (gr p rs)), some (.int (B p as rs 1)), some (.int (rs.length : Int)), some (.ref fa), y9, y10, y11, none, none] ∧ Same H5 H' ∧
            H' fa = some (.lst (((List.range i).map (fo p as rs many)).map V.int))) ⟨none, none, none, rfl, s6', hfa⟩ (fun i σ H' hi pv => ?_) (fun σ H' pv => ?_)⟩
          · obtain ⟨y9, y10, y11, rfl, sm, hf⟩ := pv
            rw [Int.zero_add]
            have s7 := s5.trans sm
            refine ⟨.int many, rfl, _, 1, rfl, rfl, _, rfl, _, _, rfl, rfl, ?_⟩
            refine ⟨.ref L, rfl, L, _, 1, .ref r, rfl, rfl, SqT.of (s7 _ _ hL), atI_nat (j := 1) rfl, _, rfl, _, 1, rfl, rfl, _, rfl, cut_tup (n := i + 1) (s7 _ _ hr') (by rw [er]; omega) fun H8 c s8' hc => ?_⟩
            have s8 := s7.trans s8'
            refine ⟨c, rs.take (i + 1), rfl, SqT.of (by rw [List.map_take]; exact hc), ?_⟩
            refine ⟨.int p, rfl, _, rfl, _, 1, rfl, rfl, p, _, rfl, rfl, .inl ⟨by omega, by omega⟩, _, _, rfl, rfl, _, _, rfl, rfl, ?_⟩
            refine ⟨_, rfl, _, _, rfl, rfl, _, rfl, _, _, rfl, rfl, ⟨hg, by omega⟩, 0, _, rfl, rfl, 0, _, rfl, 1, _, rfl, rfl, ?_⟩
            rw [max_if]
            refine ⟨.ref fa, rfl, .inl ⟨rfl, _, SqL.of (s8' _ _ hf)⟩, .ref L, rfl, L, _, 0, .ref a, rfl, rfl, SqT.of (s8 _ _ hL), atI_nat (j := 0) rfl, a, _, rfl, .inr (SqT.of (s8 _ _ ha)), _, rfl, _, rfl, _, _, rfl, rfl, .inr ⟨by omega, by omega⟩, _, _, rfl, rfl, _, rfl, _, _, rfl, rfl, fa, _, _, rfl, rfl, s8' _ _ hf, ?_, ?_⟩
            · rw [List.length_map, List.length_map, List.length_range]
              exact small1000 (by omega)
            · refine ⟨_, _, _, rfl, ?_, ?_⟩
              · intro b o z
                rw [upd_ne (ne_of_none z nfa)]
                exact s8' _ _ (sm _ _ z)
              · rw [upd_same, List.range_succ, List.map_append, List.map_append, ea]
                rfl
          · obtain ⟨y9, y10, y11, rfl, sm, hf⟩ := pv
            refine ⟨.ref fa, rfl, fa, _, rfl, SqL.of hf, ?_, fun m hm hle => ?_⟩
            · rw [List.length_map, List.length_range]
              exact lp
            · obtain ⟨t, rfl, hFL⟩ := fl_up G h1 h2 hg m1 hall hm hle
              exact q _ (some t) (s5.trans sm) hFL
/-! ### least_pace -/
def spLeast : Sp := fun vs H Q _ => ∃ (L : Addr) (as rs : List Int) (many : Int), vs = [.ref L, .int many] ∧ Ld H L as rs ∧ Good as rs ∧ 0 ≤ many ∧ many ≤ 10 ^ 30 ∧ ∀ H' t, Same H H' → LP many as rs t → Q (.int t) H'
theorem scLeast : FnScope ["loads", "many", "low", "high", "middle", "found"] ["loads", "many"] (defScope sLeast) := ⟨rfl, rfl, rfl, by decide +kernel, rfl, by decide +kernel, by decide +kernel⟩
theorem kn_least (F : Src K mg "least_pace" sLeast) (T : Txt mg) (Nl : Kn P w K mg base "need_loads" 3 ["loads"] spNeedL) (Nn : Kn P w K mg base "need_number" 2 ["thing"] spNeedN) (Wi : Kn P w K mg base "worst_in" 3 ["loads", "pace"] spWorst) :
    Kn P w K mg base "least_pace" 4 ["loads", "many"] spLeast := by
  refine F.kn scLeast (fun _ _ _ _ _ _ us hl => match us, hl with | [_, _], _ => rfl) (fun vs H Q E h => ?_) (fun f cdv A outer s H vs Q E hr h => ?_)
  · obtain ⟨L, as, rs, many, rfl, _⟩ := h
    rfl
  · obtain ⟨L, as, rs, many, rfl, hLd, G, m1, m2, q⟩ := h
    obtain ⟨t2, c2⟩ := T.load
    refine ⟨_, pss_cons (ps_expr (pe_kn Nl hr (by rfl) (pa_cons (pv 0) pa_nil)))
      (pss_cons (ps_expr (pe_kn Nn (hr.mono (by decide)) (by rfl) (pa_cons (pv 1) pa_nil)))
      (pss_cons (ps_par (i := 2) (j := 3) rfl scLeast.nd rfl rfl (by decide) rfl rfl (pa_cons pe_int (pa_cons (pe_glob (v := .int 1000) rfl c2 ⟨_, rfl⟩) pa_nil)) (by rfl))
      (pss_cons (ps_while PassesOwn.never (pt_cmpR op_lt (pv 2) (pv 3) (nomark _))
        (pss_cons (ps_set (i := 4) scLeast.nd rfl (.inl rfl) (pe_op op_fdiv (pe_op op_add (pv 2) (pv 3)) pe_int))
        (pss_cons (ps_set (i := 5) scLeast.nd rfl (.inl rfl) (pe_kn Wi hr (by rfl) (pa_cons (pv 0) (pa_cons (pv 4) pa_nil))))
        (pss_one (ps_if (PW.pt (pw_and (pt_cmpR op_notN (pv 5) pe_non (nomark _)) (pw_and1 (pt_cmpR op_le (pv 5) (pv 1) (nomark _))))) (pss_one (ps_set (i := 3) scLeast.nd rfl (.inl rfl) (pv 4)))
          (pss_one (ps_set (i := 2) scLeast.nd rfl (.inl rfl) (pe_op op_add (pv 4) pe_int))))))))
      (pss_one (ps_ret (pv 2)))))), ?_⟩
    refine ⟨.ref L, rfl, L, as, rs, rfl, hLd, G, fun H1 s1 => ?_⟩
    refine ⟨.int many, rfl, many, rfl, m1, m2, ?_⟩
    refine ⟨_, _, rfl, ?_⟩
    refine ⟨fun m σ H' => ∃ lo hi y4 y5, m = (hi - lo).toNat ∧ 0 ≤ lo ∧ lo ≤ hi ∧ hi ≤ 1000 ∧ fe many as rs hi ∧ (lo = 0 ∨ ¬ fe many as rs (lo - 1)) ∧ σ = [some (.ref L), some (.int many), some (.int lo), some (.int hi), y4, y5] ∧ Same H H',
      ⟨_, 0, 1000, none, none, rfl, by omega, by omega, by omega, fe_top G m1, .inl rfl, rfl, s1⟩, fun m σ H' hW => ?_⟩
    obtain ⟨lo, hi, y4, y5, rfl, b1, b2, b3, f1, f2, rfl, sm⟩ := hW
    refine ⟨.int lo, rfl, .int hi, rfl, lo, hi, rfl, rfl, _, rfl, ite2 (fun e => ?_) (fun e => ?_)⟩
    · have e := of_decide_eq_true e
      refine ⟨fun σ H'' => ∃ lo' hi' y4 y5, (hi' - lo').toNat < (hi - lo).toNat ∧ 0 ≤ lo' ∧ lo' ≤ hi' ∧ hi' ≤ 1000 ∧ fe many as rs hi' ∧ (lo' = 0 ∨ ¬ fe many as rs (lo' - 1)) ∧ σ = [some (.ref L), some (.int many), some (.int lo'), some (.int hi'), y4, y5] ∧ Same H H'', fun σ' H'' hN => ?_, ?_⟩
      · obtain ⟨lo', hi', z4, z5, c1, r⟩ := hN
        exact ⟨_, c1, lo', hi', z4, z5, rfl, r⟩
      · refine ⟨.int lo, rfl, .int hi, rfl, lo, hi, rfl, rfl, _, 2, rfl, rfl, ⟨by decide, by decide⟩, ?_⟩
        refine ⟨.ref L, rfl, _, rfl, L, as, rs, _, rfl, hLd.mono sm, G, by omega, by omega, fun H2 s2' => ?_⟩
        have s2 := sm.trans s2'
        refine ⟨_, rfl, rfl, _, rfl, ?_⟩
        cases hw : wo ((lo + hi) / 2) as rs with
        | none =>
          refine ⟨_, rfl, _, 1, rfl, rfl, (lo + hi) / 2 + 1, hi, _, _, by omega, by omega, by omega, b3, f1, .inr fun z => ?_, rfl, s2⟩
          obtain ⟨m, hm, _⟩ := z
          rw [show (lo + hi) / 2 + 1 - 1 = (lo + hi) / 2 by omega, hw] at hm
          cases hm
        | some m =>
          refine ⟨.int m, rfl, .int many, rfl, m, many, rfl, rfl, _, rfl, ite2 (fun e2 => ?_) (fun e2 => ?_)⟩
          · have e2 := of_decide_eq_true e2
            exact ⟨_, rfl, lo, (lo + hi) / 2, _, _, by omega, b1, by omega, by omega, ⟨m, hw, e2⟩, f2, rfl, s2⟩
          · have e2 : ¬ m ≤ many := fun z => e2 (decide_eq_true z)
            refine ⟨_, rfl, _, 1, rfl, rfl, (lo + hi) / 2 + 1, hi, _, _, by omega, by omega, by omega, b3, f1, .inr fun z => ?_, rfl, s2⟩
            obtain ⟨m', hm, hle⟩ := z
            rw [show (lo + hi) / 2 + 1 - 1 = (lo + hi) / 2 by omega, hw] at hm
            cases hm
            exact e2 hle
    · have e : ¬ lo < hi := fun z => e (decide_eq_true z)
      have eq : lo = hi := by omega
      subst eq
      exact ⟨.int lo, rfl, q _ lo sm ⟨b1, b3, f1, f2⟩⟩
end
end PwW
set_option Elab.async false
set_option linter.all false
set_option maxRecDepth 100000
set_option maxHeartbeats 4000000
namespace PwW
open PySem PySem.Spec PyProof.Rows L2 PwR PW
/-! ### the state of the draws -/
abbrev kC : Key := .inr (Str.ofString "cells")
abbrev kG : Key := .inr (Str.ofString "great")
abbrev kS : Key := .inr (Str.ofString "spot")
def dct (x y z : V) : List (Key × V) := [(kC, x), (kG, y), (kS, z)]
theorem kCG : (kC = kG) = False := eq_false (by decide +kernel)
theorem kCS : (kC = kS) = False := eq_false (by decide +kernel)
theorem kGC : (kG = kC) = False := eq_false (by decide +kernel)
theorem kGS : (kG = kS) = False := eq_false (by decide +kernel)
theorem kSC : (kS = kC) = False := eq_false (by decide +kernel)
theorem kSG : (kS = kG) = False := eq_false (by decide +kernel)
theorem at_cells (x y z : V) : valV (dct x y z) kC = some x := by
  unfold valV dct
  simp only [List.find?_cons, decide_true, Option.map_some]
theorem at_great (x y z : V) : valV (dct x y z) kG = some y := by
  unfold valV dct
  simp only [List.find?_cons, decide_true, kCG, decide_false, Option.map_some]
theorem at_spot (x y z : V) : valV (dct x y z) kS = some z := by
  unfold valV dct
  simp only [List.find?_cons, decide_true, kCS, kGS, decide_false, Option.map_some]
theorem sCG : (Str.ofString "cells" = Str.ofString "great") = False := eq_false (by decide +kernel)
theorem sCS : (Str.ofString "cells" = Str.ofString "spot") = False := eq_false (by decide +kernel)
theorem sGS : (Str.ofString "great" = Str.ofString "spot") = False := eq_false (by decide +kernel)
theorem sSG : (Str.ofString "spot" = Str.ofString "great") = False := eq_false (by decide +kernel)
theorem put_great (x y z v : V) : putK (dct x y z) kG v = dct x v z := by
  unfold putK dct
  simp [kCG, kSG, sCG, sSG]
theorem put_spot (x y z v : V) : putK (dct x y z) kS v = dct x y v := by
  unfold putK dct
  simp [kCS, kGS, sCS, sGS]
/-- the draws' dict stands at m, at most n numbers were mixed; F is all else that is known -/
def DM (m : Addr) (n : Int) (F H : Hp) : Prop := ∃ (c g : Addr) (cs gs : List Int) (k : Int),
  H m = some (.dK (dct (.ref c) (.ref g) (.int k))) ∧ F c = some (.lst (cs.map V.int)) ∧ H g = some (.lst (gs.map V.int)) ∧ 0 ≤ k ∧ k ≤ n ∧ Same F H ∧ F m = none ∧ F g = none
section
variable {m p : Addr} {n : Int} {F H H' : Hp} {o : HO}
theorem DM.same (D : DM m n F H) : Same F H := by
  obtain ⟨_, _, _, _, _, _, _, _, _, _, s, _⟩ := D
  exact s
theorem DM.mono {n' : Int} (D : DM m n F H) (h : n ≤ n') : DM m n' F H := by
  obtain ⟨c, g, cs, gs, k, a1, a2, a3, a4, a5, a6⟩ := D
  exact ⟨c, g, cs, gs, k, a1, a2, a3, a4, by omega, a6⟩
theorem DM.pure (D : DM m n F H) (s : Same H H') : DM m n F H' := by
  obtain ⟨c, g, cs, gs, k, a1, a2, a3, a4, a5, a6, a7⟩ := D
  exact ⟨c, g, cs, gs, k, s _ _ a1, a2, s _ _ a3, a4, a5, a6.trans s, a7⟩
theorem DM.grow (D : DM m n F H) (s : Same H H') (np : H p = none) (hp : H' p = some o) : DM m n (upd F p o) H' := by
  obtain ⟨c, g, cs, gs, k, a1, a2, a3, a4, a5, a6, a7, a8⟩ := D
  refine ⟨c, g, cs, gs, k, s _ _ a1, ?_, s _ _ a3, a4, a5, fun b u e => ?_, ?_, ?_⟩
  · rw [upd_ne (ne_of_none (a6 _ _ a2) np)]
    exact a2
  · by_cases hb : b = p
    · subst hb
      rw [upd_same] at e
      rw [← e]
      exact hp
    · rw [upd_ne hb] at e
      exact s _ _ (a6 _ _ e)
  · rw [upd_ne (ne_of_none a1 np)]
    exact a7
  · rw [upd_ne (ne_of_none a3 np)]
    exact a8
theorem DM.new (D : DM m n F H) (np : H p = none) : DM m n (upd F p o) (upd H p o) := D.grow (same_upd np) np upd_same
theorem DM.write {ys : List Int} {u : HO} (D : DM m n F H) (hp : F p = some u) : DM m n (upd F p (.lst (ys.map V.int))) (upd H p (.lst (ys.map V.int))) := by
  obtain ⟨c, g, cs, gs, k, a1, a2, a3, a4, a5, a6, a7, a8⟩ := D
  have h1 : m ≠ p := fun e => by rw [e, hp] at a7; cases a7
  have h2 : g ≠ p := fun e => by rw [e, hp] at a8; cases a8
  have h3 : ∃ cs' : List Int, (upd F p (.lst (ys.map V.int))) c = some (.lst (cs'.map V.int)) := by
    by_cases e : c = p
    · rw [e]
      exact ⟨ys, upd_same⟩
    · rw [upd_ne e]
      exact ⟨cs, a2⟩
  obtain ⟨cs', h3⟩ := h3
  refine ⟨c, g, cs', gs, k, ?_, h3, ?_, a4, a5, fun b v e => ?_, ?_, ?_⟩
  · rw [upd_ne h1]
    exact a1
  · rw [upd_ne h2]
    exact a3
  · by_cases hb : b = p
    · subst hb
      rw [upd_same] at e
      rw [← e]
      exact upd_same
    · rw [upd_ne hb] at e
      rw [upd_ne hb]
      exact a6 _ _ e
  · rw [upd_ne h1]
    exact a7
  · rw [upd_ne h2]
    exact a8
end
/-- t; u by what holds between them -/
theorem seq_split {t u : TS} {D : Ends} {σ : L2.St} {H : Hp} (Post : L2.St → Hp → Prop) (h1 : ∀ D' : Ends, D'.rt = D.rt → (∀ σ' H', Post σ' H' → D'.nx σ' H') → t D' σ H) (h2 : ∀ σ' H', Post σ' H' → u D σ' H') : tSeq t u D σ H :=
  h1 { D with nx := u D } rfl h2
section
variable {m p c g : Addr} {n k : Int} {F H : Hp} {cs gs ys : List Int}
theorem get_cells (h : H m = some (.dK (dct (.ref c) (.ref g) (.int k)))) : DGet H m (.str (Str.ofString "cells")) (some (.ref c)) := by
  have e := DGet.k (k := kC) h
  rw [at_cells] at e
  exact e
theorem get_great (h : H m = some (.dK (dct (.ref c) (.ref g) (.int k)))) : DGet H m (.str (Str.ofString "great")) (some (.ref g)) := by
  have e := DGet.k (k := kG) h
  rw [at_great] at e
  exact e
theorem get_spot (h : H m = some (.dK (dct (.ref c) (.ref g) (.int k)))) : DGet H m (.str (Str.ofString "spot")) (some (.int k)) := by
  have e := DGet.k (k := kS) h
  rw [at_spot] at e
  exact e
theorem set_great (h : H m = some (.dK (dct (.ref c) (.ref g) (.int k)))) : DPut H m (.str (Str.ofString "great")) (.ref p) (upd H m (.dK (dct (.ref c) (.ref p) (.int k)))) := by
  have e := DPut.k (k := kG) (v := .ref p) h (show 3 < sizeLine by decide)
  rw [put_great] at e
  exact e
theorem set_spot {k' : Int} (h : H m = some (.dK (dct (.ref c) (.ref g) (.int k)))) : DPut H m (.str (Str.ofString "spot")) (.int k') (upd H m (.dK (dct (.ref c) (.ref g) (.int k')))) := by
  have e := DPut.k (k := kS) (v := .int k') h (show 3 < sizeLine by decide)
  rw [put_spot] at e
  exact e
/-- great is another list now -/
theorem DM.setG (h1 : H m = some (.dK (dct (.ref c) (.ref g) (.int k)))) (h2 : F c = some (.lst (cs.map V.int))) (h3 : H p = some (.lst (ys.map V.int))) (h4 : 0 ≤ k) (h5 : k ≤ n) (h6 : Same F H) (h7 : F m = none) (h8 : F p = none) :
    DM m n F (upd H m (.dK (dct (.ref c) (.ref p) (.int k)))) := by
  have hpm : p ≠ m := fun e => by rw [e, h1] at h3; cases h3
  exact ⟨c, p, cs, ys, k, upd_same, h2, by rw [upd_ne hpm]; exact h3, h4, h5, fun b u e => by rw [upd_ne (ne_of_none e h7)]; exact h6 _ _ e, h7, h8⟩
/-- great's items are others now -/
theorem DM.setL (h1 : H m = some (.dK (dct (.ref c) (.ref g) (.int k)))) (h2 : F c = some (.lst (cs.map V.int))) (h3 : H g = some (.lst (gs.map V.int))) (h4 : 0 ≤ k) (h5 : k ≤ n) (h6 : Same F H) (h7 : F m = none) (h8 : F g = none) :
    DM m n F (upd H g (.lst (ys.map V.int))) := by
  have hgm : m ≠ g := fun e => by rw [← e, h1] at h3; cases h3
  exact ⟨c, g, cs, ys, k, by rw [upd_ne hgm]; exact h1, h2, upd_same, h4, h5, fun b u e => by rw [upd_ne (ne_of_none e h8)]; exact h6 _ _ e, h7, h8⟩
/-- the spot is another now -/
theorem DM.setS {k' : Int} (h1 : H m = some (.dK (dct (.ref c) (.ref g) (.int k)))) (h2 : F c = some (.lst (cs.map V.int))) (h3 : H g = some (.lst (gs.map V.int))) (h4 : 0 ≤ k') (h5 : k' ≤ n) (h6 : Same F H) (h7 : F m = none) (h8 : F g = none) :
    DM m n F (upd H m (.dK (dct (.ref c) (.ref g) (.int k')))) := by
  have hgm : g ≠ m := fun e => by rw [e, h1] at h3; cases h3
  exact ⟨c, g, cs, gs, k', upd_same, h2, by rw [upd_ne hgm]; exact h3, h4, h5, fun b u e => by rw [upd_ne (ne_of_none e h7)]; exact h6 _ _ e, h7, h8⟩
end
theorem cut_from {xs : List V} {x : V} : cutV (x :: xs) (some 1) none = xs := by
  unfold cutV
  rw [HT.sIx_none, show HT.sIx (x :: xs).length 0 (some 1) = min 1 (x :: xs).length from HT.sIx_nat (x :: xs).length 0 1, List.length_cons, Nat.min_eq_left (by omega)]
  show xs.take (xs.length + 1 - 1) = xs
  rw [Nat.add_sub_cancel]
  exact List.take_length
section
variable {P : Program} {w : World} {K : PySem.W.Frag} {mg : Str → Option Value} {base : Heap}
/-! ### _law_next -/
def spNext : Sp := fun vs H Q _ => ∃ (m : Addr) (t n : Int) (F : Hp), vs = [.ref m, .int t] ∧ 0 < t ∧ t < 1073741824 ∧ n < 1000000 ∧ DM m n F H ∧ ∀ r H', 0 ≤ r → r < t → DM m (n + 1) F H' → Q (.int r) H'
abbrev nNext : List Str := ["_law_m", "_law_total", "_law_rest", "_law_k", "_law_cell", "_law_mixed"]
theorem scNext : FnScope nNext ["_law_m", "_law_total"] (defScope sNext) := ⟨rfl, rfl, rfl, by decide +kernel, rfl, by decide +kernel, by decide +kernel⟩
theorem kn_next (F : Src K mg "_law_next" sNext) (T : Txt mg) : Kn P w K mg base "_law_next" 1 ["_law_m", "_law_total"] spNext := by
  refine F.kn scNext (fun _ _ _ _ _ _ us hl => match us, hl with | [_, _], _ => rfl) (fun vs H Q E h => ?_) (fun f cdv A outer s H vs Q E hr h => ?_)
  · obtain ⟨m, t, n, F, rfl, _⟩ := h
    rfl
  · obtain ⟨m, t, n, F, rfl, t1, t2, hn, D, q⟩ := h
    have hu := hu_of hr
    refine ⟨_, pss_cons (ps_while PassesOwn.never (PW.pt (pw_and (pt_cmpR (op_neD hr.units) (pe_dget hu (pv 0) pe_str (fun _ _ => rfl)) (pe_lst pa_nil) (nomark _))
          (pw_and1 (pt_cmpR op_eq (pe_ix ix_list (pe_dget hu (pv 0) pe_str (fun _ _ => rfl)) pe_int (fun _ _ => rfl)) pe_int (nomark _)))))
        (pss_one (ps_dput hu (pv 0) pe_str (pe_slice sl_list (pe_dget hu (pv 0) pe_str (fun _ _ => rfl)) (po_some pe_int) po_none) rfl)))
      (pss_cons (ps_if (pt_cmpR (op_neD hr.units) (pe_dget hu (pv 0) pe_str (fun _ _ => rfl)) (pe_lst pa_nil) (nomark _))
        (pss_cons (ps_set (i := 2) scNext.nd rfl (.inl rfl) (pe_callTy call_int1 (by rfl) T.int (by decide +kernel) (pa_cons (pe_ix ix_list (pe_dget hu (pv 0) pe_str (fun _ _ => rfl)) pe_int (fun _ _ => rfl)) pa_nil)))
        (pss_cons (ps_asg (pe_op op_fdiv (pv 2) (pv 1)) (pg_sub (pe_dget hu (pv 0) pe_str (fun _ _ => rfl)) pe_int set_list))
        (pss_one (ps_ret (pe_op op_mod (pv 2) (pv 1)))))) pss_nil)
      (pss_cons (ps_set (i := 3) scNext.nd rfl (.inl rfl) (pe_op op_add (pe_dget hu (pv 0) pe_str (fun _ _ => rfl)) pe_int))
      (pss_cons (ps_dput hu (pv 0) pe_str (pv 3) rfl)
      (pss_cons (ps_set (i := 4) scNext.nd rfl (.inl rfl) (pe_ifExp (pt_cmpR (op_neD hr.units) (pe_dget hu (pv 0) pe_str (fun _ _ => rfl)) (pe_lst pa_nil) (nomark _))
          (pe_ix ix_list (pe_dget hu (pv 0) pe_str (fun _ _ => rfl)) (pe_op op_mod (pe_callTy call_int1 (by rfl) T.int (by decide +kernel) (pa_cons (pv 3) pa_nil))
            (pe_callB call_len_seq (by rfl) T.len PySem.boot_len (pa_cons (pe_dget hu (pv 0) pe_str (fun _ _ => rfl)) pa_nil))) (fun _ _ => rfl)) pe_int))
      (pss_cons (ps_set (i := 5) scNext.nd rfl (.inl rfl) (pe_op op_mul (pe_callTy call_int1 (by rfl) T.int (by decide +kernel) (pa_cons (pe_op op_add (pe_op op_add (pe_op op_mod (pe_callTy call_int1 (by rfl) T.int (by decide +kernel) (pa_cons (pv 4) pa_nil)) pe_int)
          (pe_op op_mul pe_int (pv 3))) (pe_op op_mul (pe_op op_mul pe_int (pv 3)) (pv 3))) pa_nil)) pe_int))
      (pss_cons (ps_set (i := 5) scNext.nd rfl (.inl rfl) (pe_op op_mul (pe_callTy call_int1 (by rfl) T.int (by decide +kernel) (pa_cons (pe_op op_add (pe_op op_mod (pe_callTy call_int1 (by rfl) T.int (by decide +kernel) (pa_cons (pv 5) pa_nil)) pe_int)
          (pe_op op_mul pe_int (pv 3))) pa_nil)) pe_int))
      (pss_one (ps_ret (pe_op op_mod (pe_callTy call_int1 (by rfl) T.int (by decide +kernel) (pa_cons (pe_op op_fdiv (pe_op op_mod (pe_callTy call_int1 (by rfl) T.int (by decide +kernel) (pa_cons (pv 5) pa_nil)) pe_int) pe_int) pa_nil)) (pv 1)))))))))), ?_⟩
    refine seq_split (fun σ H' => σ = [some (.ref m), some (.int t), none, none, none, none] ∧ DM m n F H') (fun D' hrt hnx => ?_) (fun σ' H' hp => ?_)
    · refine ⟨fun mm σ H' => ∃ (c g : Addr) (cs gs : List Int) (k : Int), mm = gs.length ∧ σ = [some (.ref m), some (.int t), none, none, none, none] ∧ H' m = some (.dK (dct (.ref c) (.ref g) (.int k))) ∧ F c = some (.lst (cs.map V.int)) ∧ H' g = some (.lst (gs.map V.int)) ∧ 0 ≤ k ∧ k ≤ n ∧ Same F H' ∧ F m = none ∧ F g = none, ?_, fun mm σ H' hW => ?_⟩
      · obtain ⟨c, g, cs, gs, k, a⟩ := D
        exact ⟨_, c, g, cs, gs, k, rfl, rfl, a⟩
      · obtain ⟨c, g, cs, gs, k, rfl, rfl, a1, a2, a3, a4, a5, a6, a7, a8⟩ := hW
        refine ⟨.ref m, rfl, m, .ref g, rfl, get_great a1, Nat.zero_le _, fun e ne => ?_⟩
        have s1 : Same H' (upd H' e (.lst [])) := same_upd ne
        have he : upd H' e (.lst []) e = _ := upd_same
        generalize upd H' e (.lst []) = H1 at *
        refine ⟨.list (gs.map .int), .list [], .lst (SqL.of (s1 _ _ a3)) (dps_ints _), .lst (SqL.of he) .nil, shaped_lst _, shaped_lst [], _, congrArg (fun z => V.bl (!z)) (ne_nil _), ?_⟩
        cases gs with
        | nil => exact hnx _ _ ⟨rfl, c, g, cs, [], k, s1 _ _ a1, a2, s1 _ _ a3, a4, a5, a6.trans s1, a7, a8⟩
        | cons x r =>
          refine ⟨.ref m, rfl, m, .ref g, rfl, get_great (s1 _ _ a1), g, _, 0, .int x, rfl, rfl, SqL.of (s1 _ _ a3), atI_nat (j := 0) rfl, rfl, _, rfl, ite2 (fun e => ?_) (fun e => ?_)⟩
          · refine ⟨fun σ H'' => ∃ (c g : Addr) (cs gs : List Int) (k : Int), gs.length < (x :: r).length ∧ σ = [some (.ref m), some (.int t), none, none, none, none] ∧ H'' m = some (.dK (dct (.ref c) (.ref g) (.int k))) ∧ F c = some (.lst (cs.map V.int)) ∧ H'' g = some (.lst (gs.map V.int)) ∧ 0 ≤ k ∧ k ≤ n ∧ Same F H'' ∧ F m = none ∧ F g = none, fun σ' H'' hN => ?_, ?_⟩
            · obtain ⟨c, g, cs, gs, k, b1, b2⟩ := hN
              exact ⟨_, b1, c, g, cs, gs, k, rfl, b2⟩
            · refine ⟨.ref m, rfl, m, .ref g, rfl, get_great (s1 _ _ a1), 1, rfl, g, _, rfl, SqL.of (s1 _ _ a3), fun p np => ?_⟩
              rw [show cutV ((x :: r).map V.int) (some 1) none = r.map V.int from cut_from]
              have s2 : Same H1 (upd H1 p (.lst (r.map V.int))) := same_upd np
              have hp : upd H1 p (.lst (r.map V.int)) p = _ := upd_same
              generalize upd H1 p (.lst (r.map V.int)) = H2 at *
              have s3 := s1.trans s2
              refine ⟨.ref m, rfl, m, _, rfl, set_great (s3 _ _ a1), ?_⟩
              have hpm : p ≠ m := fun e => by rw [e, s3 _ _ a1] at hp; cases hp
              have hFp : F p = none := a6.free (s1.free np)
              exact ⟨c, p, cs, r, k, Nat.lt_succ_self _, rfl, upd_same, a2, by rw [upd_ne hpm]; exact hp, a4, a5, fun b u e => by rw [upd_ne (ne_of_none e a7)]; exact s3 _ _ (a6 _ _ e), a7, hFp⟩
          · exact hnx _ _ ⟨rfl, c, g, cs, x :: r, k, s1 _ _ a1, a2, s1 _ _ a3, a4, a5, a6.trans s1, a7, a8⟩
    · obtain ⟨rfl, c, g, cs, gs, k, a1, a2, a3, a4, a5, a6, a7, a8⟩ := hp
      refine ⟨.ref m, rfl, m, .ref g, rfl, get_great a1, Nat.zero_le _, fun e ne => ?_⟩
      have s1 : Same H' (upd H' e (.lst [])) := same_upd ne
      have he : upd H' e (.lst []) e = _ := upd_same
      generalize upd H' e (.lst []) = H1 at *
      refine ⟨.list (gs.map .int), .list [], .lst (SqL.of (s1 _ _ a3)) (dps_ints _), .lst (SqL.of he) .nil, shaped_lst _, shaped_lst [], _, congrArg (fun z => V.bl (!z)) (ne_nil _), ?_⟩
      have b1 := s1 _ _ a1
      have b3 := s1 _ _ a3
      have b6 := a6.trans s1
      cases gs with
      | cons x r =>
        refine ⟨.ref m, rfl, m, .ref g, rfl, get_great b1, g, _, 0, .int x, rfl, rfl, SqL.of b3, atI_nat (j := 0) rfl, .inl ⟨x, rfl, ?_⟩⟩
        refine ⟨_, rfl, _, rfl, x, t, rfl, rfl, ⟨t1, t2⟩, .ref m, rfl, m, .ref g, rfl, get_great b1, g, _, 0, 0, rfl, rfl, b3, (by rw [len_map, List.length_cons]; unfold ixN; rw [if_pos (Int.le_refl 0), if_pos (by omega)]; rfl), ?_⟩
        refine ⟨_, rfl, _, rfl, x, t, rfl, rfl, t1, ?_⟩
        exact q _ _ (Int.emod_nonneg _ (by omega)) (Int.emod_lt_of_pos _ t1) (DM.setL (ys := (x / t) :: r) b1 a2 b3 a4 (by omega) b6 a7 a8)
      | nil =>
        refine ⟨.ref m, rfl, m, _, rfl, get_spot b1, k, 1, rfl, rfl, ?_⟩
        refine ⟨_, rfl, .ref m, rfl, m, _, rfl, set_spot b1, ?_⟩
        have D2 : DM m (n + 1) F (upd H1 m (.dK (dct (.ref c) (.ref g) (.int (k + 1))))) := DM.setS b1 a2 b3 (by omega) (by omega) b6 a7 a8
        have c1 : upd H1 m (.dK (dct (.ref c) (.ref g) (.int (k + 1)))) m = _ := upd_same
        generalize upd H1 m (.dK (dct (.ref c) (.ref g) (.int (k + 1)))) = H2 at *
        refine ⟨.ref m, rfl, m, .ref c, rfl, get_cells c1, Nat.zero_le _, fun e2 ne2 => ?_⟩
        have s3 : Same H2 (upd H2 e2 (.lst [])) := same_upd ne2
        have he2 : upd H2 e2 (.lst []) e2 = _ := upd_same
        generalize upd H2 e2 (.lst []) = H3 at *
        have D3 := D2.pure s3
        have c3 := D3.same _ _ a2
        refine ⟨.list (cs.map .int), .list [], .lst (SqL.of c3) (dps_ints _), .lst (SqL.of he2) .nil, shaped_lst _, shaped_lst [], _, congrArg (fun z => V.bl (!z)) (ne_nil _), ?_⟩
        have fin : ∀ cell : Int, (tSeq (tAsg (tOp (rI CMul fun i j => .int (i * j)) (tCB (fun xs H Q => (∃ i, xs = [V.int i] ∧ Q (.int i) H) ∨ ∃ k, xs = [V.bl k] ∧ Q (.int (if k then 1 else 0)) H) (tCons (tOp (rI0 fun i j => .int (i + j)) (tOp (rI0 fun i j => .int (i + j))
            (tOp (rI (fun _ j => 0 < j) fun i j => .int (i % j)) (tCB (fun xs H Q => (∃ i, xs = [V.int i] ∧ Q (.int i) H) ∨ ∃ k, xs = [V.bl k] ∧ Q (.int (if k then 1 else 0)) H) (tCons (tVar 4) tNil)) (tC (.int 2147483563))) (tOp (rI CMul fun i j => .int (i * j)) (tC (.int 6089)) (tVar 3)))
            (tOp (rI CMul fun i j => .int (i * j)) (tOp (rI CMul fun i j => .int (i * j)) (tC (.int 71)) (tVar 3)) (tVar 3))) tNil)) (tC (.int 40014))) (gName 5))
            (tSeq (tAsg (tOp (rI CMul fun i j => .int (i * j)) (tCB (fun xs H Q => (∃ i, xs = [V.int i] ∧ Q (.int i) H) ∨ ∃ k, xs = [V.bl k] ∧ Q (.int (if k then 1 else 0)) H) (tCons (tOp (rI0 fun i j => .int (i + j))
            (tOp (rI (fun _ j => 0 < j) fun i j => .int (i % j)) (tCB (fun xs H Q => (∃ i, xs = [V.int i] ∧ Q (.int i) H) ∨ ∃ k, xs = [V.bl k] ∧ Q (.int (if k then 1 else 0)) H) (tCons (tVar 5) tNil)) (tC (.int 2147483563))) (tOp (rI CMul fun i j => .int (i * j)) (tC (.int 89017)) (tVar 3))) tNil)) (tC (.int 742938285))) (gName 5))
            (tRet (tOp (rI (fun _ j => 0 < j) fun i j => .int (i % j)) (tCB (fun xs H Q => (∃ i, xs = [V.int i] ∧ Q (.int i) H) ∨ ∃ k, xs = [V.bl k] ∧ Q (.int (if k then 1 else 0)) H) (tCons (tOp (rI CDiv fun i j => .int (i / j))
            (tOp (rI (fun _ j => 0 < j) fun i j => .int (i % j)) (tCB (fun xs H Q => (∃ i, xs = [V.int i] ∧ Q (.int i) H) ∨ ∃ k, xs = [V.bl k] ∧ Q (.int (if k then 1 else 0)) H) (tCons (tVar 5) tNil)) (tC (.int 2147483549))) (tC (.int 17))) tNil)) (tVar 1)))))
            { nx := fun _ H' => Q .non H', rt := Q } [some (.ref m), some (.int t), none, some (.int (k + 1)), some (.int cell), none] H3 := fun cell => by
          refine ⟨_, rfl, .inl ⟨cell, rfl, cell, 2147483563, rfl, rfl, (show (0 : Int) < 2147483563 by decide), _, rfl, 6089, _, rfl, rfl, .inl ⟨by decide, by decide⟩, _, _, rfl, rfl, _, rfl, 71, _, rfl, rfl, .inl ⟨by decide, by decide⟩, _, rfl, _, _, rfl, rfl, .inr ⟨by omega, by omega⟩, _, _, rfl, rfl, .inl ⟨_, rfl, _, 40014, rfl, rfl, .inr ⟨by decide, by decide⟩, ?_⟩⟩⟩
          refine ⟨_, rfl, .inl ⟨_, rfl, _, 2147483563, rfl, rfl, (show (0 : Int) < 2147483563 by decide), _, rfl, 89017, _, rfl, rfl, .inl ⟨by decide, by decide⟩, _, _, rfl, rfl, .inl ⟨_, rfl, _, 742938285, rfl, rfl, .inr ⟨by decide, by decide⟩, ?_⟩⟩⟩
          refine ⟨_, rfl, .inl ⟨_, rfl, _, 2147483549, rfl, rfl, (show (0 : Int) < 2147483549 by decide), _, 17, rfl, rfl, ⟨by decide, by decide⟩, .inl ⟨_, rfl, _, rfl, _, t, rfl, rfl, t1, ?_⟩⟩⟩
          exact q _ _ (Int.emod_nonneg _ (by omega)) (Int.emod_lt_of_pos _ t1) D3
        cases cs with
        | nil => exact fin 61
        | cons y ys =>
          have hl : (0 : Int) < (((y :: ys).map V.int).length : Nat) := by rw [List.length_map, List.length_cons]; omega
          have h0 := Int.emod_nonneg (k + 1) (show ((((y :: ys).map V.int).length : Nat) : Int) ≠ 0 by omega)
          have h1 := Int.emod_lt_of_pos (k + 1) hl
          obtain ⟨j, hj⟩ : ∃ j : Nat, (k + 1) % ((((y :: ys).map V.int).length : Nat) : Int) = (j : Int) := ⟨_, (Int.toNat_of_nonneg h0).symm⟩
          have hjl : j < (y :: ys).length := by
            rw [len_map] at h1
            rw [len_map] at hj
            omega
          refine ⟨.ref m, rfl, m, .ref c, rfl, get_cells (s3 _ _ c1), _, rfl, .inl ⟨k + 1, rfl, .ref m, rfl, m, .ref c, rfl, get_cells (s3 _ _ c1), c, _, rfl, .inl (SqL.of c3), k + 1, _, rfl, rfl, hl, c, _, _, .int ((y :: ys)[j]), rfl, rfl, SqL.of c3, at_of (j := j) hj ?_, fin _⟩⟩
          rw [List.getElem?_map, List.getElem?_eq_getElem hjl]
          rfl
end
end PwW
set_option Elab.async false
set_option linter.all false
set_option maxRecDepth 100000
set_option maxHeartbeats 4000000
namespace PwW
open PySem PySem.Spec PyProof.Rows L2 PwR PW
section
variable {P : Program} {w : World} {K : PySem.W.Frag} {mg : Str → Option Value} {base : Heap}
/-! ### _law_begun -/
def spBegun (K : PySem.W.Frag) : Sp := fun vs H Q _ => ∃ (a : Addr) (ns : List Int), vs = [.ref a] ∧ SqL K H a (ns.map V.int) ∧ ns.length ≤ 1000 ∧ ∀ m F H', Same H F → DM m 0 F H' → Q (.ref m) H'
abbrev nBegun : List Str := ["_law_script", "_law_great", "_law_cell"]
theorem scBegun : FnScope nBegun ["_law_script"] (defScope sBegun) := ⟨rfl, rfl, rfl, by decide +kernel, rfl, by decide +kernel, by decide +kernel⟩
theorem merge3 (x y z : V) : mergeK [] (dct x y z) = dct x y z := by
  unfold mergeK dct
  simp [putK, kCG, kGC, kCS, kGS, kSC, kSG, sCG, sCS, sGS]
theorem kn_begun (F : Src K mg "_law_begun" sBegun) (T : Txt mg) : Kn P w K mg base "_law_begun" 1 ["_law_script"] (spBegun K) := by
  refine F.kn scBegun (fun _ _ _ _ _ _ us hl => match us, hl with | [_], _ => rfl) (fun vs H Q E h => ?_) (fun f cdv A outer s H vs Q E hr h => ?_)
  · obtain ⟨a, ns, rfl, _⟩ := h
    rfl
  · obtain ⟨a, ns, rfl, ha, hl, q⟩ := h
    refine ⟨_, pss_cons (ps_setLc (i := 1) (own := [("_law_cell", 2)]) (g := gName 2) rfl scBegun.nd rfl rfl (sw_true rfl rfl rfl (by decide +kernel)) (pi_list (pv 0)) (blkOk_by (N := nBegun) (sc := defScope sBegun) (by decide +kernel))
          (fun _ _ _ _ _ => pg_name (i := 2) scBegun.nd rfl (Or.inl rfl)) (fun _ _ _ _ _ => pts_one (pt_cmpR op_ge (pv 2) (pe_op op_pow pe_int pe_int) (nomark _))) (fun _ _ _ _ _ => pv 2))
      (pss_one (ps_ret (pe_disp (pps_cons pe_str (pe_callTy call_list_of (by rfl) T.list (by decide +kernel) (pa_cons (pv 0) pa_nil)) (pps_cons pe_str (pv 1) (pps_cons pe_str pe_int pps_nil))) (by rfl) (by rfl) (fun z => by cases z) (by decide)))), ?_⟩
    refine ⟨.ref a, rfl, a, rfl, ⟨_, ha⟩, fun D nD => lc_list (K := K) (a := a) (xs := ns.map V.int) (fun i H' => Same H H' ∧ ∃ gs : List Int, gs.length ≤ i ∧ H' D = some (.lst (gs.map V.int))) ⟨same_upd nD, [], Nat.le_refl _, upd_same⟩ (fun i H' _ pv => pv.1.seq ha) (fun i x H' hx pv => ?_) (fun H' pv => ?_)⟩
    · obtain ⟨sm, gs, hgl, hD⟩ := pv
      obtain ⟨y, hy, rfl⟩ := map_at hx
      have hi : i < ns.length := (List.getElem?_eq_some_iff.mp hy).1
      refine ⟨rfl, ?_⟩
      refine ⟨_, rfl, 10, 18, rfl, rfl, ⟨by decide, by decide, by decide⟩, y, _, rfl, rfl, _, rfl, ite2 (fun e => ?_) (fun e => ?_)⟩
      · refine ⟨_, rfl, _, hD, ?_, ?_, gs ++ [y], ?_, ?_⟩
        · rw [List.length_map]
          exact small1000 (by omega)
        · intro b o z
          rw [upd_ne (ne_of_none z nD)]
          exact sm _ _ z
        · rw [List.length_append]
          show gs.length + 1 ≤ i + 1
          omega
        · rw [upd_same, List.map_append]
          rfl
      · exact ⟨sm, gs, by omega, hD⟩
    · obtain ⟨sm, gs, hgl, hD⟩ := pv
      refine fun m nm => ?_
      have s1 : Same H' (upd H' m (.dK [])) := same_upd nm
      have hm : upd H' m (.dK []) m = _ := upd_same
      generalize upd H' m (.dK []) = H1 at *
      have s1' := sm.trans s1
      refine ⟨.ref a, rfl, a, _, rfl, .inl (s1'.seq ha), fun c nc => ?_⟩
      have s2 : Same H1 (upd H1 c (.lst (ns.map V.int))) := same_upd nc
      have hc : upd H1 c (.lst (ns.map V.int)) c = _ := upd_same
      generalize upd H1 c (.lst (ns.map V.int)) = H2 at *
      have hm2 := s2 _ _ hm
      have hD2 := s2 _ _ (s1 _ _ hD)
      refine ⟨_, rfl, hm2, dct (.ref c) (.ref D) (.int 0), rfl, (show 3 ≤ 15 by decide), ?_⟩
      rw [merge3]
      have hHc : H c = none := s1'.free nc
      have hHm : H m = none := sm.free nm
      have hcm : c ≠ m := fun e => by rw [e, hm2] at hc; cases hc
      have hDm : D ≠ m := ne_of_none hD nm
      have hDc : D ≠ c := ne_of_none (s1 _ _ hD) nc
      refine q m (upd H c (.lst (ns.map V.int))) _ (same_upd hHc) ⟨c, D, ns, gs, 0, upd_same, upd_same, by rw [upd_ne hDm]; exact hD2, Int.le_refl 0, Int.le_refl 0, fun b u e => ?_, by rw [upd_ne hcm.symm]; exact hHm, by rw [upd_ne hDc]; exact nD⟩
      by_cases hb : b = c
      · subst hb
        rw [upd_same] at e
        rw [← e, upd_ne hcm]
        exact hc
      · rw [upd_ne hb] at e
        rw [upd_ne (ne_of_none e hHm)]
        exact s2 _ _ (s1' _ _ e)
/-! ### _law_of -/
def spOf : Sp := fun vs H Q _ => ∃ (m a : Addr) (xs : List Int) (n : Int) (F : Hp), vs = [.ref m, .ref a] ∧ F a = some (.lst (xs.map V.int)) ∧ xs ≠ [] ∧ xs.length ≤ 1000 ∧ n < 1000000 ∧ DM m n F H ∧ ∀ x H', x ∈ xs → DM m (n + 1) F H' → Q (.int x) H'
theorem scOf : FnScope ["_law_m", "_law_some"] ["_law_m", "_law_some"] (defScope sOf) := ⟨rfl, rfl, rfl, by decide +kernel, rfl, by decide +kernel, by decide +kernel⟩
theorem kn_of (F : Src K mg "_law_of" sOf) (T : Txt mg) (Nx : Kn P w K mg base "_law_next" 1 ["_law_m", "_law_total"] spNext) : Kn P w K mg base "_law_of" 2 ["_law_m", "_law_some"] spOf := by
  refine F.kn scOf (fun _ _ _ _ _ _ us hl => match us, hl with | [_, _], _ => rfl) (fun vs H Q E h => ?_) (fun f cdv A outer s H vs Q E hr h => ?_)
  · obtain ⟨m, a, xs, n, F, rfl, _⟩ := h
    rfl
  · obtain ⟨m, a, xs, n, F, rfl, ha, hne, hl, hn, D, q⟩ := h
    have ex := len_map xs
    have hpos : 0 < xs.length := List.length_pos_iff.mpr hne
    refine ⟨_, pss_one (ps_ret (pe_ix ix_list (pv 1) (pe_kn Nx hr (by rfl) (pa_cons (pv 0) (pa_cons (pe_callB call_len_seq (by rfl) T.len PySem.boot_len (pa_cons (pv 1) pa_nil)) pa_nil))) (fun _ _ => rfl))), ?_⟩
    refine ⟨.ref a, rfl, .ref m, rfl, .ref a, rfl, a, _, rfl, .inl (SqL.of (D.same _ _ ha)), m, _, n, F, rfl, by omega, by omega, hn, D, fun r H1 r0 r1 D1 => ?_⟩
    obtain ⟨j, rfl⟩ : ∃ j : Nat, r = (j : Int) := ⟨r.toNat, (Int.toNat_of_nonneg r0).symm⟩
    have hj : j < xs.length := by omega
    refine ⟨a, _, _, .int xs[j], rfl, rfl, SqL.of (D1.same _ _ ha), atI_nat ?_, q _ _ (List.getElem_mem hj) D1⟩
    rw [List.getElem?_map, List.getElem?_eq_getElem hj]
    rfl
/-! ### _law_loads -/
def spLoads : Sp := fun vs H Q _ => ∃ (m : Addr) (t n : Int) (F : Hp), vs = [.ref m, .int t] ∧ 0 < t ∧ t < 1073741824 ∧ n < 900000 ∧ DM m n F H ∧
  ∀ L as rs F' H', Same F F' → DM m (n + 11) F' H' → Ld F' L as rs → as.length ≤ 4 → 0 < rs.length → rs.length ≤ 5 → (∀ x ∈ as, 0 ≤ x ∧ x < t) → (∀ x ∈ rs, 0 ≤ x ∧ x < t) → Q (.ref L) H'
abbrev nLoads : List Str := ["_law_m", "_law_most", "_law_ahead", "_law_k"]
theorem scLoads : FnScope nLoads ["_law_m", "_law_most"] (defScope sLoads) := ⟨rfl, rfl, rfl, by decide +kernel, rfl, by decide +kernel, by decide +kernel⟩
theorem kn_loads (F : Src K mg "_law_loads" sLoads) (T : Txt mg) (Nx : Kn P w K mg base "_law_next" 1 ["_law_m", "_law_total"] spNext) : Kn P w K mg base "_law_loads" 2 ["_law_m", "_law_most"] spLoads := by
  refine F.kn scLoads (fun _ _ _ _ _ _ us hl => match us, hl with | [_, _], _ => rfl) (fun vs H Q E h => ?_) (fun f cdv A outer s H vs Q E hr h => ?_)
  · obtain ⟨m, t, n, F, rfl, _⟩ := h
    rfl
  · obtain ⟨m, t, n, F, rfl, t1, t2, hn, D, q⟩ := h
    refine ⟨_, pss_cons (ps_set (i := 2) scLoads.nd rfl (.inl rfl) (pe_callTy call_tuple_of (by rfl) T.tuple (by decide +kernel) (pa_cons (pe_lc (own := [("_law_k", 3)]) (g := gName 3) (tt := tYes) rfl scLoads.nd
          (pi_range1 (by rfl) T.range (pa_cons (pe_kn Nx hr (by rfl) (pa_cons (pv 0) (pa_cons pe_int pa_nil))) pa_nil)) (blkOk_by (N := nLoads) (sc := defScope sLoads) (by decide +kernel))
          (fun _ _ _ _ _ => pg_name (i := 3) scLoads.nd rfl (Or.inl rfl)) (fun _ _ _ _ _ => pts_nil) (fun _ _ _ _ _ => pe_kn Nx hr (by rfl) (pa_cons (pv 0) (pa_cons (pv 1) pa_nil)))) pa_nil)))
      (pss_one (ps_ret (pe_tup (pa_cons (pv 2) (pa_cons (pe_callTy call_tuple_of (by rfl) T.tuple (by decide +kernel) (pa_cons (pe_lc (own := [("_law_k", 3)]) (g := gName 3) (tt := tYes) rfl scLoads.nd
          (pi_range1 (by rfl) T.range (pa_cons (pe_op op_add pe_int (pe_kn Nx hr (by rfl) (pa_cons (pv 0) (pa_cons pe_int pa_nil)))) pa_nil)) (blkOk_by (N := nLoads) (sc := defScope sLoads) (by decide +kernel))
          (fun _ _ _ _ _ => pg_name (i := 3) scLoads.nd rfl (Or.inl rfl)) (fun _ _ _ _ _ => pts_nil) (fun _ _ _ _ _ => pe_kn Nx hr (by rfl) (pa_cons (pv 0) (pa_cons (pv 1) pa_nil)))) pa_nil)) pa_nil))))), ?_⟩
    refine ⟨.ref m, rfl, m, 5, n, F, rfl, by decide, by decide, by omega, D, fun r1 H1 a1 a2 D1 => ⟨r1, rfl, by omega, by omega, fun l1 nl1 => ?_⟩⟩
    refine lc_range (lo := 0) (n := r1.toNat) (fun i H' => ∃ xs : List Int, xs.length = i ∧ (∀ x ∈ xs, 0 ≤ x ∧ x < t) ∧ DM m (n + 1 + (i : Nat)) (upd F l1 (.lst (xs.map V.int))) H') ⟨[], rfl, (fun x hx => by cases hx), (D1.new (o := .lst []) nl1).mono (by omega)⟩ (fun i H' hi pv => ?_) (fun H' pv => ?_)
    · obtain ⟨xs, hxl, hxb, D2⟩ := pv
      refine ⟨rfl, .ref m, rfl, .int t, rfl, m, t, _, _, rfl, t1, t2, by omega, D2, fun r H2 b1 b2 D3 => ⟨_, D3.same _ _ upd_same, ?_, xs ++ [r], ?_, ?_, ?_⟩⟩
      · rw [List.length_map]
        exact small1000 (by omega)
      · rw [List.length_append, hxl]
        rfl
      · intro x hx
        rcases List.mem_append.mp hx with z | z
        · exact hxb x z
        · rw [List.mem_singleton.mp z]
          exact ⟨b1, b2⟩
      · have D4 := D3.write (ys := xs ++ [r]) upd_same
        rw [upd_upd, List.map_append] at D4
        rw [List.map_append]
        exact D4.mono (by omega)
    · obtain ⟨as, hal, hab, D2⟩ := pv
      refine ⟨l1, _, rfl, .inl ⟨SqL.of (D2.same _ _ upd_same), fun p1 np1 => ?_⟩⟩
      have D3 : DM m (n + 5) (upd (upd F l1 (.lst (as.map V.int))) p1 (.tup (as.map V.int))) (upd H' p1 (.tup (as.map V.int))) := (D2.new np1).mono (by omega)
      have hF1 : F l1 = none := D1.same.free nl1
      have sF1 : Same F (upd F l1 (.lst (as.map V.int))) := same_upd hF1
      have sF2 : Same (upd F l1 (.lst (as.map V.int))) (upd (upd F l1 (.lst (as.map V.int))) p1 (.tup (as.map V.int))) := same_upd (D2.same.free np1)
      have sF := sF1.trans sF2
      have hp1 : (upd (upd F l1 (.lst (as.map V.int))) p1 (.tup (as.map V.int))) p1 = _ := upd_same
      generalize upd (upd F l1 (.lst (as.map V.int))) p1 (.tup (as.map V.int)) = F3 at *
      generalize upd H' p1 (.tup (as.map V.int)) = H3 at *
      refine ⟨.ref p1, rfl, .ref m, rfl, m, 5, _, F3, rfl, by decide, by decide, by omega, D3, fun r2 H4 c1 c2 D4 => ⟨1, _, rfl, rfl, _, rfl, by omega, by omega, fun l2 nl2 => ?_⟩⟩
      refine lc_range (lo := 0) (n := (1 + r2).toNat) (fun i H' => ∃ xs : List Int, xs.length = i ∧ (∀ x ∈ xs, 0 ≤ x ∧ x < t) ∧ DM m (n + 6 + (i : Nat)) (upd F3 l2 (.lst (xs.map V.int))) H') ⟨[], rfl, (fun x hx => by cases hx), (D4.new (o := .lst []) nl2).mono (by omega)⟩ (fun i H' hi pv => ?_) (fun H' pv => ?_)
      · obtain ⟨xs, hxl, hxb, D5⟩ := pv
        refine ⟨rfl, .ref m, rfl, .int t, rfl, m, t, _, _, rfl, t1, t2, by omega, D5, fun r H2 b1 b2 D6 => ⟨_, D6.same _ _ upd_same, ?_, xs ++ [r], ?_, ?_, ?_⟩⟩
        · rw [List.length_map]
          exact small1000 (by omega)
        · rw [List.length_append, hxl]
          rfl
        · intro x hx
          rcases List.mem_append.mp hx with z | z
          · exact hxb x z
          · rw [List.mem_singleton.mp z]
            exact ⟨b1, b2⟩
        · have D7 := D6.write (ys := xs ++ [r]) upd_same
          rw [upd_upd, List.map_append] at D7
          rw [List.map_append]
          exact D7.mono (by omega)
      · obtain ⟨rs, hrl, hrb, D5⟩ := pv
        refine ⟨l2, _, rfl, .inl ⟨SqL.of (D5.same _ _ upd_same), fun p2 np2 => ⟨by show 2 ≤ sizeLine; decide, fun L nL => ?_⟩⟩⟩
        have sG1 : Same F3 (upd F3 l2 (.lst (rs.map V.int))) := same_upd (D4.same.free nl2)
        have D6 := D5.new (o := .tup (rs.map V.int)) np2
        have sG2 : Same (upd F3 l2 (.lst (rs.map V.int))) (upd (upd F3 l2 (.lst (rs.map V.int))) p2 (.tup (rs.map V.int))) := same_upd (D5.same.free np2)
        have hp2 : (upd (upd F3 l2 (.lst (rs.map V.int))) p2 (.tup (rs.map V.int))) p2 = _ := upd_same
        have D7 := D6.new (o := .tup [.ref p1, .ref p2]) nL
        have sG3 := same_upd (o := .tup [.ref p1, .ref p2]) (D6.same.free nL)
        refine q L as rs _ _ (((sF.trans sG1).trans sG2).trans sG3) (D7.mono (by omega)) ⟨p1, p2, upd_same, sG3 _ _ (sG2 _ _ (sG1 _ _ hp1)), sG3 _ _ hp2⟩ (by omega) (by omega) (by omega) hab hrb
/-! ### _law_load -/
def spLoad : Sp := fun vs H Q _ => ∃ (L : Addr) (as rs : List Int) (b : Nat), vs = [.ref L, .int b] ∧ Ld H L as rs ∧ 0 < rs.length ∧ Q (.int (ldAt as rs b)) H
abbrev nLoad : List Str := ["_law_loads_here", "_law_beat", "_law_ahead", "_law_ring"]
theorem scLoad : FnScope nLoad ["_law_loads_here", "_law_beat"] (defScope sLoad) := ⟨rfl, rfl, rfl, by decide +kernel, rfl, by decide +kernel, by decide +kernel⟩
theorem getD_at {xs : List Int} {i : Nat} (h : i < xs.length) : (xs.map V.int)[i]? = some (.int (xs.getD i 0)) := by
  rw [List.getElem?_map, List.getD_eq_getElem?_getD, List.getElem?_eq_getElem h]
  rfl
theorem kn_load (F : Src K mg "_law_load" sLoad) (T : Txt mg) : Kn P w K mg base "_law_load" 1 ["_law_loads_here", "_law_beat"] spLoad := by
  refine F.kn scLoad (fun _ _ _ _ _ _ us hl => match us, hl with | [_, _], _ => rfl) (fun vs H Q E h => ?_) (fun f cdv A outer s H vs Q E hr h => ?_)
  · obtain ⟨L, as, rs, b, rfl, _⟩ := h
    rfl
  · obtain ⟨L, as, rs, b, rfl, ⟨a, r, hL, ha, hr'⟩, lp, q⟩ := h
    have ea := len_map as
    have er := len_map rs
    refine ⟨_, pss_cons (ps_asg (pv 0) (pg_tup rfl (pgs_cons (pg_name (i := 2) scLoad.nd rfl (.inl rfl)) (pgs_cons (pg_name (i := 3) scLoad.nd rfl (.inl rfl)) pgs_nil))))
      (pss_cons (ps_if (pt_cmpR op_lt (pv 1) (pe_callB call_len_seq (by rfl) T.len PySem.boot_len (pa_cons (pv 2) pa_nil)) (nomark _)) (pss_one (ps_ret (pe_ix ix_tup (pv 2) (pv 1) (fun _ _ => rfl)))) pss_nil)
      (pss_one (ps_ret (pe_ix ix_tup (pv 3) (pe_op op_mod (pe_callTy call_int1 (by rfl) T.int (by decide +kernel) (pa_cons (pe_op op_sub (pv 1) (pe_callB call_len_seq (by rfl) T.len PySem.boot_len (pa_cons (pv 2) pa_nil))) pa_nil))
        (pe_callB call_len_seq (by rfl) T.len PySem.boot_len (pa_cons (pv 3) pa_nil))) (fun _ _ => rfl))))), ?_⟩
    refine ⟨.ref L, rfl, L, _, rfl, SqT.of hL, rfl, _, _, rfl, _, _, rfl, rfl, ?_⟩
    refine ⟨.int b, rfl, .ref a, rfl, a, _, rfl, .inr (SqT.of ha), _, _, rfl, rfl, _, rfl, ite2 (fun e => ?_) (fun e => ?_)⟩
    · have e := of_decide_eq_true e
      have hlt : b < as.length := by omega
      have el := ld_ahead (rs := rs) hlt
      rw [el] at q
      exact ⟨.ref a, rfl, _, rfl, a, _, _, _, rfl, rfl, SqT.of ha, atI_nat (getD_at hlt), q⟩
    · have e : ¬ (b : Int) < ((as.map V.int).length : Int) := fun z => e (decide_eq_true z)
      have hge : ¬ b < as.length := by omega
      have el : ldAt as rs b = rs.getD ((b - as.length) % rs.length) 0 := if_neg hge
      rw [el] at q
      have hi := Nat.mod_lt (b - as.length) lp
      have e2 : ((b : Int) - ((as.map V.int).length : Int)) % ((rs.map V.int).length : Int) = (((b - as.length) % rs.length : Nat) : Int) := by
        rw [ea, er, show (b : Int) - (as.length : Int) = ((b - as.length : Nat) : Int) by omega]
        rfl
      refine ⟨.ref r, rfl, .int b, rfl, .ref a, rfl, a, _, rfl, .inr (SqT.of ha), _, _, rfl, rfl, .inl ⟨_, rfl, .ref r, rfl, r, _, rfl, .inr (SqT.of hr'), _, _, rfl, rfl, (show (0 : Int) < ((rs.map V.int).length : Int) by omega), r, _, _, _, rfl, rfl, SqT.of hr', at_of e2 (getD_at hi), q⟩⟩
/-! ### _law_film -/
def spFilmL : Sp := fun vs H Q _ => ∃ (L : Addr) (as rs : List Int) (p : Int) (n : Nat), vs = [.ref L, .int p, .int n] ∧ Ld H L as rs ∧ 0 < rs.length ∧ n ≤ 1000 ∧ ∀ H' l, Same H H' → H l = none → H' l = some (.lst ((fw p as rs n).map V.int)) → Q (.ref l) H'
abbrev nFilmL : List Str := ["_law_loads_here", "_law_pace", "_law_many", "_law_found", "_law_waits", "_law_beat"]
theorem scFilmL : FnScope nFilmL ["_law_loads_here", "_law_pace", "_law_many"] (defScope sFilmL) := ⟨rfl, rfl, rfl, by decide +kernel, rfl, by decide +kernel, by decide +kernel⟩
theorem kn_filmL (F : Src K mg "_law_film" sFilmL) (T : Txt mg) (Lo : Kn P w K mg base "_law_load" 1 ["_law_loads_here", "_law_beat"] spLoad) : Kn P w K mg base "_law_film" 2 ["_law_loads_here", "_law_pace", "_law_many"] spFilmL := by
  refine F.kn scFilmL (fun _ _ _ _ _ _ us hl => match us, hl with | [_, _, _], _ => rfl) (fun vs H Q E h => ?_) (fun f cdv A outer s H vs Q E hr h => ?_)
  · obtain ⟨L, as, rs, p, n, rfl, _⟩ := h
    rfl
  · obtain ⟨L, as, rs, p, n, rfl, hLd, lp, hn, q⟩ := h
    refine ⟨_, pss_cons (ps_par (i := 3) (j := 4) rfl scFilmL.nd rfl rfl (by decide) rfl rfl (pa_cons (pe_lst pa_nil) (pa_cons pe_int pa_nil)) (by rfl))
      (pss_cons (ps_for PassesOwn.never rfl (pi_range1 (by rfl) T.range (pa_cons (pv 2) pa_nil)) (pg_name (i := 5) scFilmL.nd rfl (.inl rfl))
        (pss_cons (ps_set (i := 4) scFilmL.nd rfl (.inl rfl) (pe_callB (call_max2 rfl) (by rfl) T.max boot_max (pa_cons pe_int (pa_cons (pe_op op_sub (pe_op op_add (pv 4) (pe_kn Lo hr (by rfl) (pa_cons (pv 0) (pa_cons (pv 5) pa_nil)))) (pv 1)) pa_nil))))
          (pss_one (ps_expr (pe_bm PySem.F.plainAttrs_list PySem.F.slot_list_append PySem.F.type_list_append mt_append (pv 3) (pa_cons (pv 4) pa_nil))))))
      (pss_one (ps_ret (pv 3)))), ?_⟩
    refine ⟨Nat.zero_le _, fun o no => ⟨_, _, rfl, ?_⟩⟩
    refine ⟨_, rfl, _, rfl, by omega, by omega, for_range (lo := 0) (n := n) (fun i σ H' => ∃ y, σ = [some (.ref L), some (.int p), some (.int (n : Nat)), some (.ref o), some (.int (wt p as rs i)), y] ∧ Same H H' ∧ H' o = some (.lst ((fw p as rs i).map V.int)))
      ⟨none, rfl, same_upd no, upd_same⟩ (fun i σ H' hi pv => ?_) (fun σ H' pv => ?_)⟩
    · obtain ⟨y, rfl, sm, ho⟩ := pv
      rw [Int.zero_add]
      refine ⟨_, rfl, .ref L, rfl, _, rfl, L, as, rs, i, rfl, hLd.mono sm, lp, _, _, rfl, rfl, _, rfl, _, _, rfl, rfl, 0, _, rfl, ?_⟩
      rw [max_if]
      refine ⟨.ref o, rfl, .inl ⟨rfl, _, SqL.of ho⟩, _, rfl, o, _, _, rfl, rfl, ho, ?_, _, rfl, ?_, ?_⟩
      · rw [len_map, fw_len]
        exact small1000 (by omega)
      · intro b z e
        rw [upd_ne (ne_of_none e no)]
        exact sm _ _ e
      · rw [upd_same, fw_succ, List.map_append]
        rfl
    · obtain ⟨y, rfl, sm, ho⟩ := pv
      exact ⟨.ref o, rfl, q _ _ sm no ho⟩
/-! ### _law_is_growing -/
def spUp : Sp := fun vs H Q _ => ∃ (L : Addr) (as rs : List Int) (p : Int), vs = [.ref L, .int p] ∧ Ld H L as rs ∧ 0 ≤ p ∧ p ≤ 1000 ∧ Q (.bl (decide (0 < gr p rs))) H
theorem scUp : FnScope ["_law_loads_here", "_law_pace"] ["_law_loads_here", "_law_pace"] (defScope sUp) := ⟨rfl, rfl, rfl, by decide +kernel, rfl, by decide +kernel, by decide +kernel⟩
theorem kn_up (F : Src K mg "_law_is_growing" sUp) (T : Txt mg) : Kn P w K mg base "_law_is_growing" 1 ["_law_loads_here", "_law_pace"] spUp := by
  refine F.kn scUp (fun _ _ _ _ _ _ us hl => match us, hl with | [_, _], _ => rfl) (fun vs H Q E h => ?_) (fun f cdv A outer s H vs Q E hr h => ?_)
  · obtain ⟨L, as, rs, p, rfl, _⟩ := h
    rfl
  · obtain ⟨L, as, rs, p, rfl, ⟨a, r, hL, ha, hr'⟩, h1, h2, q⟩ := h
    refine ⟨_, pss_one (ps_ret (pe_cmpR op_gt (pe_callB (cr_sumT rfl) (by rfl) T.sum boot_sum (pa_cons (pe_ix ix_tup (pv 0) pe_int (fun _ _ => rfl)) pa_nil))
      (pe_op op_mul (pv 1) (pe_callB call_len_seq (by rfl) T.len PySem.boot_len (pa_cons (pe_ix ix_tup (pv 0) pe_int (fun _ _ => rfl)) pa_nil))) (nomark _))), ?_⟩
    refine ⟨.ref L, rfl, L, _, 1, .ref r, rfl, rfl, SqT.of hL, atI_nat (j := 1) rfl, r, rs, rfl, SqT.of hr', ?_⟩
    refine ⟨.int p, rfl, .ref L, rfl, L, _, 1, .ref r, rfl, rfl, SqT.of hL, atI_nat (j := 1) rfl, r, _, rfl, .inr (SqT.of hr'), p, _, rfl, rfl, .inl ⟨by omega, by omega⟩, rs.sum, _, rfl, rfl, ?_⟩
    rw [len_map]
    have e : decide (p * (rs.length : Int) < rs.sum) = decide (0 < gr p rs) := by
      refine decide_eq_decide.mpr ?_
      unfold gr
      omega
    show Q (.bl (decide (p * (rs.length : Int) < rs.sum))) H
    rw [e]
    exact q
end
end PwW
set_option Elab.async false
set_option linter.all false
set_option maxRecDepth 100000
set_option maxHeartbeats 4000000
/-! The law's own def, entered from the caller (whose guards are known: repr needs them). -/
namespace PwW
open PySem PySem.Spec PyProof.Rows L2 PwR PW
section
variable {P : Program} {w : World} {K : PySem.W.Frag} {mg : Str → Option Value} {base : Heap}
/-- a def's body run at one given place A -/
theorem run_at {x : Str} {st : Stmt} {f : Addr} {fd : FuncData} {N ps : List Str} {A : Around} {s : Shared} {H : Hp} {args : Args} {us : List Value} {vs : List V} {Q : VK} {outer : List Env} (F : FunD K x x (defArgs st) (defBody st) (defScope st) [] [] f fd) (S : FnScope N ps (defScope st))
    (hd : A.handled = none) (hdep : A.depth < recursionLimit) (e0 : Env0 P w K mg base A outer s H) (hb : BindsTo s fd args (ps.zip us)) (r : Vals vs us) (hl : vs.length = ps.length)
    (body : ∀ cdv : Value, ∃ t, PSs (cxOf CX0 P w K mg base N x (defScope st) f cdv A outer s H E0).nox (defBody st) t ∧ t { nx := fun _ H' => Q .non H', rt := Q } (start N vs) H) :
    codeAny (model P w) A (.call (.ref f) args) (CR CX0 outer P w H s Q E0) s := by
  obtain ⟨oc, od, dV, kV, doc, pm, an, cdv, ct, osl, rfl, lk, hcd, _, _⟩ := F.ex
  have keepB : ∀ b o, base.get? b = some o → s.heap.get? b = some o := fun b o e => (e0.bs b o e).1
  have KX : K.In s.heap := e0.mod.kin.keeps keepB
  refine codeAny_call_function hdep (KX _ _ lk) rfl S.co S.gen rfl (PySem.W.codeRec_of KX hcd) (hb _ _ _ _ ?_)
  refine wpAny_newFunctionEnv_cells S.kind (fun y hy => ?_) fun env he s1 inn => ?_
  · obtain ⟨n, v⟩ := y
    rcases S.par n (List.of_mem_zip hy).1 with z | z
    · exact .inl z
    · exact .inr ⟨z, PySem.W.cellsFrom_some _ _ _ (.inl z)⟩
  · subst he
    refine ⟨(e0.mod.nolimit.keeps keepB).keeps inn.toInCall.keep, codeAny_func ?_⟩
    obtain ⟨t, ht, hq⟩ := body cdv
    have I := inv_start (CX := CX0) (E := E0) S hd e0 hl r inn
    refine wpAny_mono (ht.nox.run [] s1 (start N vs) H _ I hq) (fun fl s' hs => ?_) fun e s' hs => hs
    cases fl with
    | ret u =>
      obtain ⟨v, σ', H', J, rv, q⟩ := hs
      exact ⟨v, H', J.os, J.bare, J.base, J.hok, rv, q⟩
    | next =>
      obtain ⟨σ', H', J, q⟩ := hs
      exact ⟨V.non, H', J.os, J.bare, J.base, J.hok, rfl, q⟩
    | brk =>
      obtain ⟨_, _, _, q⟩ := hs
      exact q.elim
    | cont =>
      obtain ⟨_, _, _, q⟩ := hs
      exact q.elim
/-- what the law's row asks, from the def's end -/
theorem law_fin {H : Hp} {s₁ s' : Shared} {r : Result} (hO : ∀ b u, H b = some u → ∃ o xs, u = HO.frz o (.lst xs)) (hok : HOk P w H s₁.heap) (h : CR CX0 [] P w H s₁ (fun v _ => v = .bl true) E0 r s') :
    r = .ok (.ret (.bool true)) ∧ OldK s₁.heap s'.heap ∧ s'.os = s₁.os ∧ AllBare s'.gens := by
  cases r with
  | error e => exact (show False from h).elim
  | ok fl =>
    cases fl with
    | next => exact (show False from h).elim
    | brk => exact (show False from h).elim
    | cont => exact (show False from h).elim
    | ret u =>
      obtain ⟨v, H', os, bare, un, hok', rv, q⟩ := h
      have q : v = .bl true := q
      subst q
      have ru : u = Value.bool true := rv
      subst ru
      refine ⟨rfl, OldK.of_keep fun b o e => ?_, os, bare⟩
      cases hb : H b with
      | none => exact un.keep b o e hb (fun z => absurd (show b ∈ ([] : List Addr) from z) (by simp)) (by simp)
      | some u =>
        obtain ⟨ob, xs, rfl⟩ := hO b u hb
        have o1 := (hok b _ hb).1
        have o2 := (hok' b _ (un.frzs b ob _ hb)).1
        rw [e] at o1
        cases o1
        exact o2
/-- the law's call: either the script is an object of the module, or it is tracked as it stands -/
theorem law_at {mb : Str → Option Value} {fa a : Addr} {s₁ : Shared} {vs : List Value} {ns : List Int}
    (KX : K.In s₁.heap) (hns : s₁.heap.Ns mainGlobals mg) (hb : s₁.heap.Ns builtinsNs mb) (hbb : ∀ x : Str, x ≠ "__name__" → mb x = bootBuiltins x) (hlim : s₁.heap.NoLimit) (hg : s₁.gens = #[])
    (ha : s₁.heap.get? a = some { cls := .type "list", data := .seq vs.toArray }) (hi : IntsAre vs ns) (hl : ns.length ≤ sizeLine)
    (run : ∀ (base : Heap) (H : Hp), K.In base → base.Ns mainGlobals mg → Env0 P w K mg base callerA [] s₁ H → SqL K H a (ns.map V.int) →
      codeAny (model P w) callerA (.call (.ref fa) ⟨[.ref a], []⟩) (CR CX0 [] P w H s₁ (fun v _ => v = .bl true) E0) s₁) :
    codeAny (model P w) callerA (.call (.ref fa) ⟨[.ref a], []⟩) (fun r s' => r = .ok (.ret (.bool true)) ∧ OldK s₁.heap s'.heap ∧ s'.os = s₁.os ∧ AllBare s'.gens) s₁ := by
  have rv := vals_ints hi
  have hz : vs.length ≤ sizeLine := by
    have := hi.length
    omega
  have nofr : ∀ {H : Hp}, ∀ b ∈ frs ([] : List Env), H b = none := fun b z => absurd (show b ∈ ([] : List Addr) from z) (by simp)
  cases hk : K.lookup a with
  | some o =>
    have e := KX a o hk
    rw [ha] at e
    cases e
    have hok : HOk P w (fun _ => none) s₁.heap := fun b u z => by cases (show (none : Option HO) = some u from z)
    refine codeAny_mono (run s₁.heap (fun _ => none) KX hns ⟨rfl, ⟨KX, hns, ⟨mb, hb, hbb⟩, hlim⟩, fun b o e => ⟨e, rfl⟩, Nat.le_refl _, trivial, nofr, hok, .of_eq hg⟩ ?_) fun r s' h => law_fin (fun b u z => by cases (show (none : Option HO) = some u from z)) hok h
    exact .inr ⟨_, vs.toArray, _, hk, rfl, rfl, rfl, by rw [List.size_toArray]; exact hz, by simpa using rv⟩
  | none =>
    let H : Hp := fun b => if b = a then some (.frz { cls := .type "list", data := .seq vs.toArray } (.lst (ns.map V.int))) else none
    have Ha : H a = some (.frz { cls := .type "list", data := .seq vs.toArray } (.lst (ns.map V.int))) := if_pos rfl
    have Hb : ∀ b, b ≠ a → H b = none := fun b z => if_neg z
    have Hof : ∀ b u, H b = some u → b = a ∧ u = .frz { cls := .type "list", data := .seq vs.toArray } (.lst (ns.map V.int)) := fun b u z => by
      by_cases e : b = a
      · subst e
        rw [Ha] at z
        cases z
        exact ⟨rfl, rfl⟩
      · rw [Hb b e] at z
        cases z
    have hok : HOk P w H s₁.heap := fun b u z => by
      obtain ⟨rfl, rfl⟩ := Hof b u z
      exact ⟨ha, by rw [List.length_map]; exact hl, vs, _, rv, ha⟩
    have keepNs : ∀ {b : Addr} {m : Str → Option Value}, s₁.heap.Ns b m → (hidT s₁.heap H).Ns b m := fun {b m} h => by
      obtain ⟨o, es, ep, e, d, r⟩ := h
      refine ⟨o, es, ep, hidT_get e (Hb b fun z => ?_), d, r⟩
      rw [z, ha] at e
      cases e
      cases (show Data.seq vs.toArray _ = Data.dict es ep from d)
    have keepK : K.In (hidT s₁.heap H) := fun b o e => hidT_get (KX b o e) (Hb b fun z => by rw [z, hk] at e; cases e)
    refine codeAny_mono (run (hidT s₁.heap H) H keepK (keepNs hns) ⟨rfl, ⟨keepK, keepNs hns, ⟨mb, keepNs hb, hbb⟩, ?_⟩, fun b o e => of_hidT e, Nat.le_of_eq (hidT_size _ _), trivial, nofr, hok, .of_eq hg⟩ (.inl (.inr ⟨_, Ha⟩))) fun r s' h => law_fin (fun b u z => ⟨_, _, (Hof b u z).2⟩) hok h
    obtain ⟨mc, z1, z2⟩ := hlim
    exact ⟨mc, keepNs z1, z2⟩
end
/-- the walk of a law's row, its def run at the caller -/
theorem walk_at {l : PySem.W.OpenLaw} {n : Nat} {q : Program} {loose : List Str} {XP : (Str → Option Value) → Heap → Prop} {YP : World → Heap → Prop} {d : DefRec}
    (hn : l.most = some n) (hn2 : n ≤ sizeLine) (hdf : d.params.defaults = [])
    (F : ∀ (w : World) (mg : Str → Option Value) (fa : Addr) (h : Heap), YP w h → h.Ns mainGlobals mg → mg d.name = some (.ref fa) →
      ∃ K : PySem.W.Frag, K.In h ∧ ∀ (base : Heap) (H : Hp) (s : Shared) (a : Addr) (ns : List Int), ns.length ≤ n → K.In base → base.Ns mainGlobals mg → Env0 l.prog w K mg base callerA [] s H → SqL K H a (ns.map V.int) →
        codeAny (model l.prog w) callerA (.call (.ref fa) ⟨[.ref a], []⟩) (CR CX0 [] l.prog w H s (fun v _ => v = .bl true) E0) s) :
    PySem.W.WalkO q loose XP YP l.row.toRowW d [] (fun f vs => PySem.call f vs) := by
  refine Att.attach_call hn hdf fun w s₀ s₁ mg mb fa o pm cd doc a vs ns G Y ho hd hcd hmg hobj hints hlen hg => ?_
  obtain ⟨K, KX, hF⟩ := F w mg fa _ Y G.T.g hmg
  exact law_at KX G.T.g G.T.b G.T.builtins G.T.nolimit hg hobj hints (Nat.le_trans hlen hn2) fun base H kb nb e0 hS => hF base H s₁ a ns hlen kb nb e0 hS
end PwW
set_option Elab.async false
set_option linter.all false
set_option maxRecDepth 100000
set_option maxHeartbeats 0
/-! The head: what the top leaves, by facts; one run in the kernel. -/
namespace PwW
open PySem PySem.Spec PyProof.Rows L2 PwR PW
def dd (x : Str) (st : Stmt) : He.DefD := ⟨(x, none), x, x, defArgs st, defBody st, defScope st, [], []⟩
def fn : List He.DefD := [dd "is_whole" sWhole, dd "are_loads" sAre, dd "need_loads" sNeedL, dd "need_pace" sNeedP, dd "need_number" sNeedN, dd "film_of" sFilm, dd "end_of" sEnd, dd "growth" sGrowth, dd "before_ring" sBefore, dd "late_at" sLateAt,
  dd "late" sLate, dd "long_film" sLong, dd "worst_in" sWorstIn, dd "worst" sWorst, dd "worst_paper" sPaper, dd "sum_to" sSumTo, dd "do_close" sClose, dd "is_worst" sIsW, dd "check_worst" sCheck, dd "first_late" sFirst,
  dd "least_pace" sLeast, dd "_law_begun" sBegun, dd "_law_next" sNext, dd "_law_of" sOf, dd "_law_loads" sLoads, dd "_law_load" sLoad, dd "_law_film" sFilmL, dd "_law_is_growing" sUp, dd "law" sLaw]
def fa : List He.Fa := [.glo "is_whole", .glo "are_loads", .glo "need_loads", .glo "need_pace", .glo "need_number", .glo "film_of", .glo "end_of", .glo "growth", .glo "before_ring", .glo "late_at",
  .glo "late", .glo "long_film", .glo "worst_in", .glo "worst", .glo "worst_paper", .glo "sum_to", .glo "do_close", .glo "is_worst", .glo "check_worst", .glo "first_late",
  .glo "least_pace", .glo "_law_begun", .glo "_law_next", .glo "_law_of", .glo "_law_loads", .glo "_law_load", .glo "_law_film", .glo "_law_is_growing", .glo "law",
  .free "len", .free "sum", .free "max", .free "min", .free "all", .free "range", .free "enumerate", .free "divmod", .free "tuple", .free "list", .free "int", .free "bool", .free "str", .free "isinstance", .free "repr",
  .int "MOST_ROW" 30, .int "MOST_LOAD" 1000, .int "MOST_BEAT" (10 ^ 30), .str "WORST" "worst", .str "ENDLESS" "endless"]
def loose0 : List PySem.Str := ["BadPaper", "OutOfPlace", "is_whole", "MOST_ROW", "MOST_LOAD", "MOST_BEAT", "WORST", "ENDLESS", "are_loads", "need_loads", "need_pace", "need_number"]
def loose1 : List PySem.Str := ["film_of", "end_of", "growth", "before_ring", "late_at", "late", "long_film", "worst_in", "worst", "worst_paper", "sum_to", "do_close"]
def loose2 : List PySem.Str := ["is_worst", "check_worst", "first_late", "least_pace", "_law_begun", "_law_next", "_law_of", "_law_loads", "_law_load", "_law_film", "_law_is_growing"]
def loose : List PySem.Str := loose0 ++ loose1 ++ loose2
abbrev R : PySem.W.OpenRow := PySem.W.OpenLaw.row PySem.Challenge.rw_notewire_k44_whole_paces
abbrev hk : PySem.W.Hook := He.hookD 4 fa fn
def ob (s : PySem.W.SharedT) : He.AlD := He.obsDG 4 fa fn (HandSHeadRun.getT s)
theorem ob_eq (s : PySem.W.SharedT) : ob s = hk.obs s.abs := He.obsDG_eq (HandSHeadRun.getT_eq s)
theorem run (w : World) : HandSHeadRun.RunEq R (PySem.W.view R.prog [39]) hk ob 6000 loose w := by
  intro os
  kernel_rfl
section
variable {K : PySem.W.Frag} {h : Heap} {mg : Str → Option Value}
theorem src_of (X : K.In h) (G : h.Ns mainGlobals mg) (c : He.SaysD fa fn K) {x : Str} {st : Stmt} (i : Nat) (h1 : fn[i]? = some (dd x st)) (h2 : fa[i]? = some (.glo x)) : Src K mg x st := by
  obtain ⟨fd, F⟩ := c.def_ i h1
  exact ⟨_, fd, He.glo_ok X G (c.fact i h2), F⟩
theorem txt_of (X : K.In h) (G : h.Ns mainGlobals mg) (c : He.SaysD fa fn K) : Txt mg :=
  ⟨He.free_ok X G (c.fact 29 rfl), He.free_ok X G (c.fact 30 rfl), He.free_ok X G (c.fact 31 rfl), He.free_ok X G (c.fact 32 rfl), He.free_ok X G (c.fact 33 rfl), He.free_ok X G (c.fact 34 rfl), He.free_ok X G (c.fact 35 rfl), He.free_ok X G (c.fact 36 rfl),
    He.free_ok X G (c.fact 37 rfl), He.free_ok X G (c.fact 38 rfl), He.free_ok X G (c.fact 39 rfl), He.free_ok X G (c.fact 40 rfl), He.free_ok X G (c.fact 41 rfl), He.free_ok X G (c.fact 42 rfl), He.free_ok X G (c.fact 43 rfl),
    He.int_ok X G (c.fact 44 rfl), He.int_ok X G (c.fact 45 rfl), He.int_ok X G (c.fact 46 rfl), He.str_ok X G (c.fact 47 rfl), He.str_ok X G (c.fact 48 rfl)⟩
end
end PwW
set_option Elab.async false
set_option linter.all false
set_option maxRecDepth 100000
set_option maxHeartbeats 4000000
namespace PwW
open PySem PySem.Spec PyProof.Rows L2 PwR PW
/-! ### the law's body by parts -/
def forBody : Stmt → List Stmt
  | .For _ _ b _ _ => b
  | _ => []
def nthS (l : List Stmt) (i : Nat) : Stmt := l.getD i (.Pass ⟨0, 0, 0, 0⟩)
def blkB : List Stmt := forBody (nthS (defBody sLaw) 1)
def blkC : List Stmt := forBody (nthS blkB 2)
def blkD : List Stmt := forBody (nthS blkC 8)
abbrev nLaw : List Str := ["_law_script", "_law_m", "_law_turn", "_law_loads_here", "_law_mean", "_law_pace", "_law_size", "_law_film_here", "_law_is_up", "_law_sheet", "_law_number", "_law_some", "_law_told", "_law_less", "_law_beat"]
theorem scLaw : FnScope nLaw ["_law_script"] (defScope sLaw) := ⟨rfl, rfl, rfl, by decide +kernel, rfl, by decide +kernel, by decide +kernel⟩
abbrev XL (P : Program) (w : World) (K : PySem.W.Frag) (mg : Str → Option Value) (base : Heap) (f : Addr) (cdv : Value) (s : Shared) (H : Hp) : Cx := (cxOf CX0 P w K mg base nLaw "law" (defScope sLaw) f cdv callerA [] s H E0).nox
/-- what the law calls -/
structure Know (P : Program) (w : World) (K : PySem.W.Frag) (mg : Str → Option Value) (base : Heap) : Prop where
  T : Txt mg
  begun : Kn P w K mg base "_law_begun" 1 ["_law_script"] (spBegun K)
  next : Kn P w K mg base "_law_next" 1 ["_law_m", "_law_total"] spNext
  of_ : Kn P w K mg base "_law_of" 2 ["_law_m", "_law_some"] spOf
  loads : Kn P w K mg base "_law_loads" 2 ["_law_m", "_law_most"] spLoads
  film : Kn P w K mg base "_law_film" 2 ["_law_loads_here", "_law_pace", "_law_many"] spFilmL
  up : Kn P w K mg base "_law_is_growing" 1 ["_law_loads_here", "_law_pace"] spUp
  late : Kn P w K mg base "late" 5 ["loads", "pace", "beat"] spLate
  worst : Kn P w K mg base "worst" 5 ["loads", "pace"] spWorst
  paper : Kn P w K mg base "worst_paper" 5 ["loads", "pace"] spPaper
  check : Kn P w K mg base "check_worst" 5 ["loads", "pace", "paper"] spCheck
  first : Kn P w K mg base "first_late" 5 ["loads", "pace", "many"] spFirst
  least : Kn P w K mg base "least_pace" 4 ["loads", "many"] spLeast
theorem room6 : Room 6 callerA := ⟨rfl, by decide, by decide⟩
section
variable {P : Program} {w : World} {K : PySem.W.Frag} {mg : Str → Option Value} {base : Heap} {f : Addr} {cdv : Value} {s : Shared} {H₀ : Hp}
/-- for number in ..: the turn -/
theorem blkD_ok (A : Know P w K mg base) : ∃ t, PSs (XL P w K mg base f cdv s H₀) blkD t ∧ ∀ (D : Ends) (H : Hp) (F : Hp) (m L fl : Addr) (as rs : List Int) (p n num : Int) (size : Nat) (x0 x2 x4 x9 x11 x12 x13 x14 : Option V),
    DM m n F H → Ld F L as rs → Good as rs → 0 ≤ p → p ≤ 1000 → F fl = some (.lst ((fw p as rs size).map V.int)) → as.length + rs.length + rs.length ≤ size → size ≤ 1000 → 0 ≤ num → num ≤ 10 ^ 7 →
    (∀ H' y11 y12, DM m n F H' → D.nx [x0, some (.ref m), x2, some (.ref L), x4, some (.int p), some (.int (size : Nat)), some (.ref fl), some (.bl (decide (0 < gr p rs))), x9, some (.int num), y11, y12, x13, x14] H') →
    t D [x0, some (.ref m), x2, some (.ref L), x4, some (.int p), some (.int (size : Nat)), some (.ref fl), some (.bl (decide (0 < gr p rs))), x9, some (.int num), x11, x12, x13, x14] H := by
  have T := A.T
  have hr : Room 5 (XL P w K mg base f cdv s H₀).A := room6.deeper _
  refine ⟨_, pss_cons (ps_setLc (i := 11) (own := [("_law_beat", 14)]) (g := gName 14) rfl scLaw.nd rfl rfl (sw_true rfl rfl rfl (by decide +kernel)) (pi_range1 (by rfl) T.range (pa_cons (pv 6) pa_nil)) (blkOk_by (N := nLaw) (sc := defScope sLaw) (by decide +kernel))
        (fun _ _ _ _ _ => pg_name (i := 14) scLaw.nd rfl (Or.inl rfl)) (fun _ _ _ _ _ => pts_one (pt_cmpR op_gt (pe_ix (r := rIxL K) ix_list (pv 7) (pv 14) (fun _ _ => rfl)) (pv 10) (nomark _))) (fun _ _ _ _ _ => pv 14))
    (pss_cons (ps_set (i := 12) scLaw.nd rfl (.inl rfl) (pe_kn A.first hr (by rfl) (pa_cons (pv 3) (pa_cons (pv 5) (pa_cons (pv 10) pa_nil)))))
    (pss_cons (ps_if (PW.pt (pw_and (pt_cmpR (op_neD hr.units) (pv 11) (pe_lst pa_nil) (nomark _)) (pw_and1 (pt_cmpR op_ne (pv 12) (pe_ix ix_list (pv 11) pe_int (fun _ _ => rfl)) (nomark _))))) (pss_one (ps_ret pe_bl)) pss_nil)
    (pss_cons (ps_if (PW.pt (pw_and (pt_cmpR (op_eqD hr.units) (pv 11) (pe_lst pa_nil) (nomark _)) (pw_and (pt_not (pt_val (pv 8))) (pw_and1 (pt_cmpR op_notN (pv 12) pe_non (nomark _)))))) (pss_one (ps_ret pe_bl)) pss_nil)
    (pss_one (ps_if (PW.pt (pw_and (pt_cmpR (op_eqD hr.units) (pv 11) (pe_lst pa_nil) (nomark _)) (pw_and1 (pt_val (pv 8)))))
      (pss_one (ps_if (PW.pt (pw_or (pt_cmpR op_lt (pv 12) (pv 6) (nomark _)) (pw_or1 (pt_cmpR op_le (pe_kn A.late hr (by rfl) (pa_cons (pv 3) (pa_cons (pv 5) (pa_cons (pv 12) pa_nil)))) (pv 10) (nomark _))))) (pss_one (ps_ret pe_bl)) pss_nil)) pss_nil))))), ?_⟩
  intro D H F m L fl as rs p n num size x0 x2 x4 x9 x11 x12 x13 x14 hD hLd G h1 h2 hfl hs1 hs2 n1 n2 hnx
  have hflH := hD.same _ _ hfl
  have hLdH := hLd.mono hD.same
  have lp := G.pos
  refine ⟨_, rfl, _, rfl, by omega, by omega, fun l nl => lc_range (lo := 0) (n := size) (fun i H' => Same H H' ∧ H' l = some (.lst ((((List.range i).filter fun b => decide (num < wt p as rs (b + 1))).map fun b : Nat => (b : Int)).map V.int)))
    ⟨same_upd nl, upd_same⟩ (fun i H' hi pv => ?_) (fun H' pv => ?_)⟩
  · obtain ⟨sm, hl⟩ := pv
    rw [Int.zero_add]
    refine ⟨rfl, ?_⟩
    refine ⟨_, rfl, _, rfl, fl, _, (i : Int), _, rfl, rfl, SqL.of (sm _ _ hflH), atI_nat (fw_vat hi), _, rfl, _, _, rfl, rfl, _, rfl, ite2 (fun e => ?_) (fun e => ?_)⟩
    · have e := of_decide_eq_true e
      refine ⟨_, rfl, _, hl, ?_, ?_, ?_⟩
      · rw [List.length_map, List.length_map]
        exact small1000 (Nat.le_trans (List.length_filter_le _ _) (by rw [List.length_range]; omega))
      · intro b o z
        rw [upd_ne (ne_of_none z nl)]
        exact sm _ _ z
      · rw [upd_same, List.range_succ, List.filter_append, List.map_append, List.map_append]
        have ef : ([i].filter fun b => decide (num < wt p as rs (b + 1))) = [i] := by simp [e]
        rw [ef]
        rfl
    · refine ⟨sm, ?_⟩
      have ef : ([i].filter fun b => decide (num < wt p as rs (b + 1))) = [] := by
        have e' : ¬ num < wt p as rs (i + 1) := fun z => e (decide_eq_true z)
        simp [e']
      rw [List.range_succ, List.filter_append, ef, List.append_nil]
      exact hl
  · obtain ⟨s1, hl⟩ := pv
    refine ⟨_, rfl, _, rfl, _, rfl, L, as, rs, p, num, rfl, hLdH.mono s1, G, h1, h2, n1, by omega, fun H2 o s2' hFL => ?_⟩
    have s2 := s1.trans s2'
    have hl2 := s2' _ _ hl
    -- some != []
    refine ⟨_, rfl, Nat.zero_le _, fun e3 ne3 => ?_⟩
    have s3' := same_upd (o := .lst []) ne3
    have he3 := upd_same (H := H2) (a := e3) (o := .lst [])
    generalize upd H2 e3 (.lst []) = H3 at *
    have s3 := s2.trans s3'
    have hl3 := s3' _ _ hl2
    generalize hfilt : (List.range size).filter (fun b => decide (num < wt p as rs (b + 1))) = filt at *
    refine ⟨.list ((filt.map fun b : Nat => (b : Int)).map PyData.int), .list [], .lst (SqL.of hl3) (dps_ints _), .lst (SqL.of he3) .nil, shaped_lst _, shaped_lst [], _, congrArg (fun z => V.bl (!z)) (ne_nil _), ?_⟩
    cases filt with
    | cons x t =>
      -- told is some[0]
      obtain ⟨b, rfl, hb⟩ : ∃ b, o = some b ∧ b = x := by
        cases o with
        | none =>
          obtain ⟨f1, f2, _⟩ := find_first size (fun b => num < wt p as rs (b + 1)) t x hfilt
          have := hFL.2 x
          omega
        | some b => exact ⟨b, rfl, first_is hFL hfilt⟩
      subst hb
      refine ⟨_, rfl, _, rfl, l, _, 0, .int (b : Nat), rfl, rfl, SqL.of hl3, atI_nat (j := 0) rfl, rfl, false, ?_, iteF ?_⟩
      · show V.bl (!decide (V.int (b : Nat) = V.int (b : Nat))) = V.bl false
        rw [decide_eq_true rfl]
        rfl
      refine ⟨_, rfl, Nat.zero_le _, fun e4 ne4 => ?_⟩
      have s4' := same_upd (o := .lst []) ne4
      have he4 := upd_same (H := H3) (a := e4) (o := .lst [])
      generalize upd H3 e4 (.lst []) = H4 at *
      have s4 := s3.trans s4'
      have hl4 := s4' _ _ hl3
      refine ⟨.list (((b :: t).map fun b : Nat => (b : Int)).map PyData.int), .list [], .lst (SqL.of hl4) (dps_ints _), .lst (SqL.of he4) .nil, shaped_lst _, shaped_lst [], _, congrArg V.bl (ne_nil _), ?_⟩
      refine ⟨_, rfl, Nat.zero_le _, fun e5 ne5 => ?_⟩
      have s5' := same_upd (o := .lst []) ne5
      have he5 := upd_same (H := H4) (a := e5) (o := .lst [])
      generalize upd H4 e5 (.lst []) = H5 at *
      have s5 := s4.trans s5'
      have hl5 := s5' _ _ hl4
      refine ⟨.list (((b :: t).map fun b : Nat => (b : Int)).map PyData.int), .list [], .lst (SqL.of hl5) (dps_ints _), .lst (SqL.of he5) .nil, shaped_lst _, shaped_lst [], _, congrArg V.bl (ne_nil _), ?_⟩
      exact hnx H5 _ _ (hD.pure s5)
    | nil =>
      refine ⟨_, rfl, Nat.zero_le _, fun e4 ne4 => ?_⟩
      have s4' := same_upd (o := .lst []) ne4
      have he4 := upd_same (H := H3) (a := e4) (o := .lst [])
      generalize upd H3 e4 (.lst []) = H4 at *
      have s4 := s3.trans s4'
      have hl4 := s4' _ _ hl3
      refine ⟨.list ((([] : List Nat).map fun b : Nat => (b : Int)).map PyData.int), .list [], .lst (SqL.of hl4) (dps_ints _), .lst (SqL.of he4) .nil, shaped_lst _, shaped_lst [], _, congrArg V.bl (ne_nil _), ?_⟩
      have hall : ∀ b, b < size → wt p as rs (b + 1) ≤ num := fun b hb => none_over hfilt hb
      by_cases hg : 0 < gr p rs
      · -- growing: told lies behind the film
        have eg : decide (0 < gr p rs) = true := decide_eq_true hg
        obtain ⟨b, rfl⟩ : ∃ b, o = some b := by
          cases o with
          | none =>
            have := hFL.1
            omega
          | some b => exact ⟨b, rfl⟩
        obtain ⟨f1, f2, f3⟩ := hFL
        have hbs : size ≤ b := by
          by_cases z : b < size
          · have := hall b z
            omega
          · omega
        refine ⟨_, rfl, true, congrArg V.bl eg, ?_⟩
        refine ⟨_, rfl, Nat.zero_le _, fun e5 ne5 => ?_⟩
        have s5' := same_upd (o := .lst []) ne5
        have he5 := upd_same (H := H4) (a := e5) (o := .lst [])
        generalize upd H4 e5 (.lst []) = H5 at *
        have s5 := s4.trans s5'
        have hl5 := s5' _ _ hl4
        refine ⟨.list ((([] : List Nat).map fun b : Nat => (b : Int)).map PyData.int), .list [], .lst (SqL.of hl5) (dps_ints _), .lst (SqL.of he5) .nil, shaped_lst _, shaped_lst [], _, congrArg V.bl (ne_nil _), ?_⟩
        refine ⟨_, rfl, true, congrArg V.bl eg, ?_⟩
        refine ⟨_, rfl, _, rfl, (b : Int), _, rfl, rfl, _, rfl, iteDF (by omega) ?_⟩
        refine ⟨_, rfl, _, rfl, _, rfl, L, as, rs, p, b, rfl, hLdH.mono s5, G, h1, h2, by omega, fun H6 s6' => ?_⟩
        refine ⟨_, rfl, _, _, rfl, rfl, _, rfl, iteDF (by omega) ?_⟩
        exact hnx H6 _ _ (hD.pure (s5.trans s6'))
      · -- not growing: told is None
        have eg : decide (0 < gr p rs) = false := decide_eq_false hg
        have ho : o = none := by
          cases o with
          | none => rfl
          | some b =>
            have a := hFL.1
            have c := wt_le_mx (p := p) (as := as) (rs := rs) (by omega) lp b
            obtain ⟨e, he, e2⟩ := fw_mem.mp (mx_mem (fw_ne (p := p) (as := as) (rs := rs) (n := as.length + rs.length + rs.length) (by omega)) fw_nn)
            have d := hall e (by omega)
            omega
        subst ho
        refine ⟨_, rfl, false, congrArg V.bl eg, ?_⟩
        refine ⟨_, rfl, rfl, false, rfl, iteF ?_⟩
        refine ⟨_, rfl, Nat.zero_le _, fun e5 ne5 => ?_⟩
        have s5' := same_upd (o := .lst []) ne5
        have he5 := upd_same (H := H4) (a := e5) (o := .lst [])
        generalize upd H4 e5 (.lst []) = H5 at *
        have s5 := s4.trans s5'
        have hl5 := s5' _ _ hl4
        refine ⟨.list ((([] : List Nat).map fun b : Nat => (b : Int)).map PyData.int), .list [], .lst (SqL.of hl5) (dps_ints _), .lst (SqL.of he5) .nil, shaped_lst _, shaped_lst [], _, congrArg V.bl (ne_nil _), ?_⟩
        refine ⟨_, rfl, false, congrArg V.bl eg, ?_⟩
        exact hnx H5 _ _ (hD.pure s5)
end
end PwW
set_option Elab.async false
set_option linter.all false
set_option maxRecDepth 100000
set_option maxHeartbeats 4000000
namespace PwW
open PySem PySem.Spec PyProof.Rows L2 PwR PW
theorem fw_small {p : Int} {as rs : List Int} {n : Nat} (G : Good as rs) (h1 : 0 ≤ p) (hn : n ≤ 1000) : ∀ v ∈ fw p as rs n, 0 ≤ v ∧ v ≤ 10 ^ 6 := fun v hv => by
  obtain ⟨b, hb, rfl⟩ := fw_mem.mp hv
  have a := wt_nn p as rs (b + 1)
  have c := wt_bd G h1 (b + 1)
  omega
theorem paper_data {K : PySem.W.Frag} {H : Hp} {c c' : Addr} {p : Int} {as rs : List Int} (h : Paper H c p as rs) (h' : Paper H c' p as rs) : ∃ d, Dp K H (.ref c) d ∧ Dp K H (.ref c') d ∧ SeqAt.shaped d = true ∧ PyData.eqv d d = true := by
  rcases h with ⟨g, hc⟩ | ⟨g, f, l, t, hc, ht, hfl⟩
  · rcases h' with ⟨_, hc'⟩ | ⟨g', _⟩
    · exact ⟨.tuple [.str "endless"], .tup (SqT.of hc) (.cons (.str _) .nil), .tup (SqT.of hc') (.cons (.str _) .nil), sh_e, eq_e⟩
    · exact absurd g g'
  · rcases h' with ⟨g', _⟩ | ⟨_, f', l', t', hc', ht', hfl'⟩
    · exact absurd g' g
    · obtain ⟨rfl, rfl⟩ := hfl.one hfl'
      exact ⟨.tuple [.str "worst", .int f, .int l, .tuple ((hs p as rs).map .int)], .tup (SqT.of hc) (.cons (.str _) (.cons (.int _) (.cons (.int _) (.cons (.tup (SqT.of ht) (dps_ints _)) .nil)))),
        .tup (SqT.of hc') (.cons (.str _) (.cons (.int _) (.cons (.int _) (.cons (.tup (SqT.of ht') (dps_ints _)) .nil)))), sh_w _ _ _, eq_w _ _ _⟩
theorem nx_split {t u : TS} {D : Ends} {rt : VK} {bk ct : L2.St → Hp → Prop} {σ : L2.St} {H : Hp} (h : tSeq t u D σ H) : tNext ⟨tSeq t u D, rt, bk, ct⟩ σ H := h
section
variable {P : Program} {w : World} {K : PySem.W.Frag} {mg : Str → Option Value} {base : Heap} {f : Addr} {cdv : Value} {s : Shared} {H₀ : Hp}
/-- for pace in ..: the turn -/
theorem blkC_ok (A : Know P w K mg base) : ∃ t, PSs (XL P w K mg base f cdv s H₀) blkC t ∧ ∀ (D : Ends) (H : Hp) (F : Hp) (m L : Addr) (as rs : List Int) (p n : Int) (x0 x2 x4 x6 x7 x8 x9 x10 x11 x12 x13 x14 : Option V),
    DM m n F H → n < 900000 → Ld F L as rs → Good as rs → 0 ≤ p → p ≤ 1000 →
    (∀ F' H' y6 y7 y8 y9 y10 y11 y12, Same F F' → DM m (n + 2) F' H' → D.nx [x0, some (.ref m), x2, some (.ref L), x4, some (.int p), y6, y7, y8, y9, y10, y11, y12, x13, x14] H') →
    t D [x0, some (.ref m), x2, some (.ref L), x4, some (.int p), x6, x7, x8, x9, x10, x11, x12, x13, x14] H := by
  have T := A.T
  have hr : Room 5 (XL P w K mg base f cdv s H₀).A := room6.deeper _
  have hg0 : (XL P w K mg base f cdv s H₀).A.guards = some [] := rfl
  obtain ⟨tD, hDs, hDq⟩ := blkD_ok (f := f) (cdv := cdv) (s := s) (H₀ := H₀) A
  refine ⟨_, pss_cons (ps_set (i := 6) scLaw.nd rfl (.inl rfl) (pe_op op_add (pe_op op_add (pe_callB call_len_seq (by rfl) T.len PySem.boot_len (pa_cons (pe_ix ix_tup (pv 3) pe_int (fun _ _ => rfl)) pa_nil))
        (pe_op op_mul pe_int (pe_callB call_len_seq (by rfl) T.len PySem.boot_len (pa_cons (pe_ix ix_tup (pv 3) pe_int (fun _ _ => rfl)) pa_nil)))) pe_int))
    (pss_cons (ps_asg (pe_tup (pa_cons (pe_kn A.film (hr.mono (by decide)) (by rfl) (pa_cons (pv 3) (pa_cons (pv 5) (pa_cons (pv 6) pa_nil)))) (pa_cons (pe_kn A.up (hr.mono (by decide)) (by rfl) (pa_cons (pv 3) (pa_cons (pv 5) pa_nil))) pa_nil)))
        (pg_tup rfl (pgs_cons (pg_name (i := 7) scLaw.nd rfl (.inr rfl)) (pgs_cons (pg_name (i := 8) scLaw.nd rfl (.inl rfl)) pgs_nil))))
    (pss_cons (ps_if (pt_cmpR op_ne (pe_callB (cr_repr hg0 hr.units) (by rfl) T.repr (by decide +kernel) (pa_cons (pe_lc (own := [("_law_beat", 14)]) (g := gName 14) (tt := tYes) rfl scLaw.nd (pi_range1 (by rfl) T.range (pa_cons (pv 6) pa_nil)) (blkOk_by (N := nLaw) (sc := defScope sLaw) (by decide +kernel))
            (fun _ _ _ _ _ => pg_name (i := 14) scLaw.nd rfl (Or.inl rfl)) (fun _ _ _ _ _ => pts_nil) (fun _ _ _ _ _ => pe_kn A.late hr (by rfl) (pa_cons (pv 3) (pa_cons (pv 5) (pa_cons (pv 14) pa_nil))))) pa_nil))
          (pe_callB (cr_repr hg0 hr.units) (by rfl) T.repr (by decide +kernel) (pa_cons (pv 7) pa_nil)) (nomark _)) (pss_one (ps_ret pe_bl)) pss_nil)
    (pss_cons (ps_if (pt_cmpR op_ne (pe_callB cr_reprF (by rfl) T.repr (by decide +kernel) (pa_cons (pe_kn A.worst hr (by rfl) (pa_cons (pv 3) (pa_cons (pv 5) pa_nil))) pa_nil))
          (pe_callB cr_reprF (by rfl) T.repr (by decide +kernel) (pa_cons (pe_ifExp (pt_val (pv 8)) pe_non (pe_callB (cr_max rfl) (by rfl) T.max boot_max (pa_cons (pv 7) pa_nil))) pa_nil)) (nomark _)) (pss_one (ps_ret pe_bl)) pss_nil)
    (pss_cons (ps_set (i := 9) scLaw.nd rfl (.inl rfl) (pe_kn A.paper hr (by rfl) (pa_cons (pv 3) (pa_cons (pv 5) pa_nil))))
    (pss_cons (ps_if (pt_cmpR op_ne (pe_kn A.check hr (by rfl) (pa_cons (pv 3) (pa_cons (pv 5) (pa_cons (pv 9) pa_nil)))) (pe_kn A.worst hr (by rfl) (pa_cons (pv 3) (pa_cons (pv 5) pa_nil))) (nomark _)) (pss_one (ps_ret pe_bl)) pss_nil)
    (pss_cons (ps_if (pt_cmpR (op_neD hr.units) (pe_kn A.paper hr (by rfl) (pa_cons (pv 3) (pa_cons (pv 5) pa_nil))) (pv 9) (nomark _)) (pss_one (ps_ret pe_bl)) pss_nil)
    (pss_cons (ps_if (pt_cmpR op_ne (pe_cmpR op_eq (pe_ix ix_tup (pv 9) pe_int (fun _ _ => rfl)) pe_str (nomark _)) (pv 8) (nomark _)) (pss_one (ps_ret pe_bl)) pss_nil)
    (pss_one (ps_for PassesOwn.never rfl (pi_tup (pe_tup (pa_cons pe_int (pa_cons (pe_kn A.next (hr.mono (by decide)) (by rfl) (pa_cons (pv 1) (pa_cons pe_int pa_nil))) (pa_cons (pe_kn A.of_ (hr.mono (by decide)) (by rfl) (pa_cons (pv 1) (pa_cons (pv 7) pa_nil)))
        (pa_cons (pe_callB (cr_max rfl) (by rfl) T.max boot_max (pa_cons (pv 7) pa_nil)) pa_nil)))))) (pg_name (i := 10) scLaw.nd rfl (.inr rfl)) hDs))))))))), ?_⟩
  intro D H F m L as rs p n x0 x2 x4 x6 x7 x8 x9 x10 x11 x12 x13 x14 hD hn hLd G h1 h2 hnx
  have la := G.la
  have lr := G.lr
  have lp := G.pos
  have ea := len_map as
  have er := len_map rs
  obtain ⟨size, hsize⟩ : ∃ size : Nat, size = as.length + 6 * rs.length + 4 := ⟨_, rfl⟩
  refine seq_split (fun σ H' => H' = H ∧ σ = [x0, some (.ref m), x2, some (.ref L), x4, some (.int p), some (.int (size : Nat)), x7, x8, x9, x10, x11, x12, x13, x14]) (fun D' hrt hnx' => ?_) (fun σ' H' hp => ?_)
  · obtain ⟨a, r, hL, ha, hr'⟩ := hLd.mono hD.same
    refine ⟨_, rfl, L, _, 0, .ref a, rfl, rfl, SqT.of hL, atI_nat (j := 0) rfl, a, _, rfl, .inr (SqT.of ha), _, rfl, L, _, 1, .ref r, rfl, rfl, SqT.of hL, atI_nat (j := 1) rfl, r, _, rfl, .inr (SqT.of hr'), 6, _, rfl, rfl, .inl ⟨by decide, by decide⟩, _, _, rfl, rfl, _, 4, rfl, rfl, hnx' _ _ ⟨rfl, ?_⟩⟩
    have es : ((as.map V.int).length : Int) + 6 * ((rs.map V.int).length : Int) + 4 = ((size : Nat) : Int) := by omega
    exact congrArg (fun z : Int => [x0, some (V.ref m), x2, some (V.ref L), x4, some (V.int p), some (V.int z), x7, x8, x9, x10, x11, x12, x13, x14]) es
  · obtain ⟨rfl, rfl⟩ := hp
    have hLdH := hLd.mono hD.same
    refine ⟨_, rfl, _, rfl, _, rfl, L, as, rs, p, size, rfl, hLdH, lp, by omega, fun H1 fl s1 nfl hfl => ?_⟩
    have D1 := hD.grow s1 nfl hfl
    have hF1 : (upd F fl (.lst ((fw p as rs size).map V.int))) fl = _ := upd_same
    have sF1 : Same F (upd F fl (.lst ((fw p as rs size).map V.int))) := same_upd (hD.same.free nfl)
    generalize upd F fl (.lst ((fw p as rs size).map V.int)) = F1 at *
    have hLd1 := hLd.mono sF1
    refine ⟨_, rfl, _, rfl, L, as, rs, p, rfl, hLdH.mono s1, h1, h2, by show 2 ≤ sizeLine; decide, fun t2 n2 => ?_⟩
    have s2' := same_upd (o := .tup [.ref fl, .bl (decide (0 < gr p rs))]) n2
    have ht2 := upd_same (H := H1) (a := t2) (o := .tup [.ref fl, .bl (decide (0 < gr p rs))])
    generalize upd H1 t2 (.tup [.ref fl, .bl (decide (0 < gr p rs))]) = H2 at *
    have D2 := D1.pure s2'
    refine ⟨t2, _, rfl, SqT.of ht2, rfl, _, _, rfl, _, _, rfl, rfl, ?_⟩
    have hLd2 := hLd1.mono D2.same
    have hfl2 := D2.same _ _ hF1
    have hsm := fw_small (p := p) (n := size) G h1 (by omega)
    have hsm2 : ∀ v ∈ fw p as rs size, 0 ≤ v ∧ v < 10 ^ 10 := fun v hv => by have := hsm v hv; omega
    -- repr of both films
    refine ⟨_, rfl, _, rfl, by omega, by omega, fun l nl => lc_range (lo := 0) (n := size) (fun i H' => Same H2 H' ∧ H' l = some (.lst ((fw p as rs i).map V.int))) ⟨same_upd nl, upd_same⟩ (fun i H' hi pv => ?_) (fun H3 pv => ?_)⟩
    · obtain ⟨sm, hl⟩ := pv
      rw [Int.zero_add]
      refine ⟨rfl, _, rfl, _, rfl, _, rfl, L, as, rs, p, i, rfl, hLd2.mono sm, G, h1, h2, by omega, fun H4 s4 => ⟨_, s4 _ _ hl, ?_, ?_, ?_⟩⟩
      · rw [len_map, fw_len]
        exact small1000 (by omega)
      · intro b o z
        rw [upd_ne (ne_of_none z nl)]
        exact s4 _ _ (sm _ _ z)
      · rw [upd_same, fw_succ, List.map_append]
        rfl
    · obtain ⟨s3, hl⟩ := pv
      refine ⟨l, _, rfl, .lst (SqL.of hl) (dps_ints _), showable_small hsm2, nodict_lst _, depth_lst _, shown_fits hsm2 (by rw [fw_len]; omega), ?_⟩
      refine ⟨_, rfl, fl, _, rfl, .lst (SqL.of (s3 _ _ hfl2)) (dps_ints _), showable_small hsm2, nodict_lst _, depth_lst _, shown_fits hsm2 (by rw [fw_len]; omega), rfl, _, rfl, iteNS rfl ?_⟩
      have D3 := D2.pure s3
      have hLd3 := hLd2.mono s3
      have hfl3 := s3 _ _ hfl2
      -- worst
      refine nx_split (seq_split (fun σ H' => σ = [x0, some (.ref m), x2, some (.ref L), x4, some (.int p), some (.int (size : Nat)), some (.ref fl), some (.bl (decide (0 < gr p rs))), x9, x10, x11, x12, x13, x14] ∧ DM m n F1 H') (fun D' hrt hnx' => ?_) (fun σ' H4 hp => ?_))
      · refine ⟨_, rfl, _, rfl, L, as, rs, p, rfl, hLd3, G, h1, h2, fun H4 s4 => ?_⟩
        have D4 := D3.pure s4
        have hfl4 := s4 _ _ hfl3
        by_cases hg : 0 < gr p rs
        · have eg : decide (0 < gr p rs) = true := decide_eq_true hg
          rw [wo_none hg]
          refine .inl ⟨rfl, _, rfl, true, congrArg V.bl eg, ?_⟩
          exact .inl ⟨rfl, rfl, _, rfl, iteNS rfl (hnx' _ _ ⟨rfl, D4⟩)⟩
        · have eg : decide (0 < gr p rs) = false := decide_eq_false hg
          rw [wo_some hg]
          have hm0 := mx_nn (fw p as rs (as.length + rs.length + rs.length))
          have hm1 : mx (fw p as rs (as.length + rs.length + rs.length)) < 10 ^ 10 := by
            have q := fw_small (p := p) (n := as.length + rs.length + rs.length) G h1 (by omega) _ (mx_mem (fw_ne (p := p) (as := as) (rs := rs) (n := as.length + rs.length + rs.length) (by omega)) fw_nn)
            omega
          refine .inr ⟨_, rfl, log_small hm0 hm1, _, rfl, false, congrArg V.bl eg, ?_⟩
          refine ⟨_, rfl, fl, _, rfl, SqL.of hfl4, by rw [fw_len]; omega, fun mm hmm hle => ?_⟩
          have em := mx_of fw_nn hmm hle
          rw [mx_more (by omega) lp (by omega)] at em
          subst em
          exact .inr ⟨_, rfl, log_small hm0 hm1, rfl, _, rfl, iteNS rfl (hnx' _ _ ⟨rfl, D4⟩)⟩
      · obtain ⟨rfl, D4⟩ := hp
        have hLd4 := hLd1.mono D4.same
        -- sheet
        refine ⟨_, rfl, _, rfl, L, as, rs, p, rfl, hLd4, G, h1, h2, fun H5 c s5 nc hP => ?_⟩
        have D5 := D4.pure s5
        refine ⟨_, rfl, _, rfl, _, rfl, L, c, as, rs, p, rfl, hLd4.mono s5, G, h1, h2, hP, fun H6 s6 => ?_⟩
        refine ⟨_, rfl, _, rfl, L, as, rs, p, rfl, (hLd4.mono s5).mono s6, G, h1, h2, fun H7 s7 => ?_⟩
        refine ⟨by cases wo p as rs <;> rfl, _, rfl, iteNS rfl ?_⟩
        have s57 := s6.trans s7
        have hP7 := hP.mono s57
        have D7 := D5.pure s57
        have hLd7 := hLd1.mono D7.same
        -- worst_paper again
        refine ⟨_, rfl, _, rfl, L, as, rs, p, rfl, hLd7, G, h1, h2, fun H8 c' s8 nc' hP' => ?_⟩
        have hP8 := hP7.mono s8
        have D8 := D7.pure s8
        obtain ⟨d, d1, d2, d3, d4⟩ := paper_data (K := K) hP' hP8
        refine ⟨_, rfl, d, d, d1, d2, d3, d3, false, congrArg (fun z => V.bl (!z)) d4, iteF ?_⟩
        -- the sheet's word
        refine nx_split (seq_split (fun σ H' => H' = H8 ∧ σ = [x0, some (.ref m), x2, some (.ref L), x4, some (.int p), some (.int (size : Nat)), some (.ref fl), some (.bl (decide (0 < gr p rs))), some (.ref c), x10, x11, x12, x13, x14]) (fun D' hrt hnx' => ?_) (fun σ' H9 hp => ?_))
        · rcases hP8 with ⟨hg, hc⟩ | ⟨hg, f', l', t', hc, ht, hfl'⟩
          · have eg : decide (0 < gr p rs) = true := decide_eq_true hg
            refine ⟨_, rfl, c, _, 0, .str "endless", rfl, rfl, SqT.of hc, atI_nat (j := 0) rfl, rfl, _, rfl, rfl, false, ?_, iteF (hnx' _ _ ⟨rfl, rfl⟩)⟩
            rw [eg]
            rfl
          · have eg : decide (0 < gr p rs) = false := decide_eq_false hg
            refine ⟨_, rfl, c, _, 0, .str "worst", rfl, rfl, SqT.of hc, atI_nat (j := 0) rfl, rfl, _, rfl, rfl, false, ?_, iteF (hnx' _ _ ⟨rfl, rfl⟩)⟩
            rw [eg, decide_eq_false (show ¬ V.str "worst" = V.str "endless" by decide +kernel)]
            rfl
        · obtain ⟨rfl, rfl⟩ := hp
          -- the numbers
          refine ⟨_, rfl, m, 30, n, F1, rfl, by decide, by decide, by omega, D8, fun r H10 r0 r1 D10 => ?_⟩
          refine ⟨_, rfl, _, rfl, m, fl, _, n + 1, F1, rfl, hF1, fw_ne (by omega), by rw [fw_len]; omega, by omega, D10, fun x H11 hx D11 => ?_⟩
          refine ⟨_, rfl, fl, _, rfl, SqL.of (D11.same _ _ hF1), by rw [fw_len]; omega, fun mm hmm hle => ⟨by show 4 ≤ sizeLine; decide, fun tp ntp => ?_⟩⟩
          have D12 := (D11.new (o := .tup [.int 0, .int r, .int x, .int mm]) ntp).mono (show n + 1 + 1 ≤ n + 2 by omega)
          have sF2 := same_upd (o := .tup [.int 0, .int r, .int x, .int mm]) (D11.same.free ntp)
          have htp := upd_same (H := F1) (a := tp) (o := .tup [.int 0, .int r, .int x, .int mm])
          generalize upd F1 tp (.tup [.int 0, .int r, .int x, .int mm]) = F2 at *
          generalize upd H11 tp (.tup [.int 0, .int r, .int x, .int mm]) = H12 at *
          have hb : ∀ v ∈ ([0, r, x, mm] : List Int), 0 ≤ v ∧ v ≤ 10 ^ 7 := by
            have b1 := hsm x hx
            have b2 := hsm mm hmm
            intro v hv
            simp only [List.mem_cons, List.not_mem_nil, or_false] at hv
            rcases hv with rfl | rfl | rfl | rfl <;> omega
          refine ⟨tp, rfl, ⟨_, SqT.of (D12.same _ _ htp)⟩, for_tup (xs := ([0, r, x, mm] : List Int).map V.int) (fun i σ H' => DM m (n + 2) F2 H' ∧ ∃ y10 y11 y12, σ = [x0, some (.ref m), x2, some (.ref L), x4, some (.int p), some (.int (size : Nat)), some (.ref fl), some (.bl (decide (0 < gr p rs))), some (.ref c), y10, y11, y12, x13, x14])
            ⟨D12, x10, x11, x12, rfl⟩ (fun i σ H' _ pv => SqT.of (pv.1.same _ _ htp)) (fun i v σ H' hv pv => ?_) (fun σ H' pv => ?_)⟩
          · obtain ⟨D13, y10, y11, y12, rfl⟩ := pv
            obtain ⟨num, hnum, rfl⟩ := map_at hv
            have hbn := hb num (List.mem_of_getElem? hnum)
            exact hDq _ H' F2 m L fl as rs p (n + 2) num size _ _ _ _ _ _ _ _ D13 (hLd1.mono sF2) G h1 h2 (sF2 _ _ hF1) (by omega) (by omega) hbn.1 hbn.2 fun H' y11 y12 D14 => ⟨D14, _, y11, y12, rfl⟩
          · obtain ⟨D13, y10, y11, y12, rfl⟩ := pv
            exact hnx F2 H' _ _ _ _ _ _ _ (sF1.trans sF2) D13
end
end PwW
set_option Elab.async false
set_option linter.all false
set_option maxRecDepth 100000
set_option maxHeartbeats 4000000
namespace PwW
open PySem PySem.Spec PyProof.Rows L2 PwR PW
theorem min_if (i j : Int) : (if j < i then j else i) = min i j := by
  split <;> omega
theorem mean_bd {rs : List Int} (h : ∀ x ∈ rs, 0 ≤ x ∧ x ≤ 1000) (hp : 0 < rs.length) : 0 ≤ rs.sum / (rs.length : Int) ∧ rs.sum / (rs.length : Int) ≤ 1000 := by
  have a := sum_bd h
  have c : (0 : Int) < (rs.length : Int) := by omega
  refine ⟨Int.ediv_nonneg a.1 (by omega), ?_⟩
  have d := Int.ediv_mul_le rs.sum (show (rs.length : Int) ≠ 0 by omega)
  by_cases z : rs.sum / (rs.length : Int) ≤ 1000
  · exact z
  · have e := Int.mul_le_mul_of_nonneg_right (show 1001 ≤ rs.sum / (rs.length : Int) by omega) (show (0 : Int) ≤ (rs.length : Int) by omega)
    omega
theorem gn_split {i : Nat} {v : V} {t u : TS} {D : Ends} {rt : VK} {bk ct : L2.St → Hp → Prop} {σ : L2.St} {H : Hp} (h : tSeq t u D (σ.set i (some v)) H) : gName i v σ H (Ends.nx ⟨tSeq t u D, rt, bk, ct⟩) := h
section
variable {P : Program} {w : World} {K : PySem.W.Frag} {mg : Str → Option Value} {base : Heap} {f : Addr} {cdv : Value} {s : Shared} {H₀ : Hp}
/-- for turn in ..: the turn -/
theorem blkB_ok (A : Know P w K mg base) : ∃ t, PSs (XL P w K mg base f cdv s H₀) blkB t ∧ ∀ (D : Ends) (H : Hp) (F : Hp) (m : Addr) (n : Int) (x0 x2 x3 x4 x5 x6 x7 x8 x9 x10 x11 x12 x13 x14 : Option V),
    DM m n F H → n < 800000 →
    (∀ F' H' y3 y4 y5 y6 y7 y8 y9 y10 y11 y12 y13, Same F F' → DM m (n + 30) F' H' → D.nx [x0, some (.ref m), x2, y3, y4, y5, y6, y7, y8, y9, y10, y11, y12, y13, x14] H') →
    t D [x0, some (.ref m), x2, x3, x4, x5, x6, x7, x8, x9, x10, x11, x12, x13, x14] H := by
  have T := A.T
  have hr : Room 5 (XL P w K mg base f cdv s H₀).A := room6.deeper _
  obtain ⟨tC, hCs, hCq⟩ := blkC_ok (f := f) (cdv := cdv) (s := s) (H₀ := H₀) A
  refine ⟨_, pss_cons (ps_set (i := 3) scLaw.nd rfl (.inr rfl) (pe_kn A.loads (hr.mono (by decide)) (by rfl) (pa_cons (pv 1) (pa_cons (pe_kn A.of_ (hr.mono (by decide)) (by rfl) (pa_cons (pv 1) (pa_cons (pe_lst (pa_cons pe_int (pa_cons pe_int (pa_cons pe_int (pa_cons pe_int pa_nil))))) pa_nil))) pa_nil))))
    (pss_cons (ps_set (i := 4) scLaw.nd rfl (.inl rfl) (pe_op op_fdiv (pe_callB (cr_sumT rfl) (by rfl) T.sum boot_sum (pa_cons (pe_ix ix_tup (pv 3) pe_int (fun _ _ => rfl)) pa_nil)) (pe_callB call_len_seq (by rfl) T.len PySem.boot_len (pa_cons (pe_ix ix_tup (pv 3) pe_int (fun _ _ => rfl)) pa_nil))))
    (pss_cons (ps_for PassesOwn.never rfl (pi_tup (pe_tup (pa_cons (pv 4) (pa_cons (pe_callB (call_min2 rfl) (by rfl) T.min boot_min (pa_cons (pe_op op_add (pv 4) pe_int) (pa_cons pe_int pa_nil)))
        (pa_cons (pe_kn A.next (hr.mono (by decide)) (by rfl) (pa_cons (pv 1) (pa_cons pe_int pa_nil))) (pa_cons pe_int pa_nil)))))) (pg_name (i := 5) scLaw.nd rfl (.inr rfl)) hCs)
    (pss_cons (ps_set (i := 10) scLaw.nd rfl (.inr rfl) (pe_kn A.next (hr.mono (by decide)) (by rfl) (pa_cons (pv 1) (pa_cons (pe_kn A.of_ (hr.mono (by decide)) (by rfl) (pa_cons (pv 1) (pa_cons (pe_lst (pa_cons pe_int (pa_cons pe_int pa_nil))) pa_nil))) pa_nil))))
    (pss_cons (ps_set (i := 12) scLaw.nd rfl (.inl rfl) (pe_kn A.least (hr.mono (by decide)) (by rfl) (pa_cons (pv 3) (pa_cons (pv 10) pa_nil))))
    (pss_cons (ps_if (PW.pt (pw_or (pt_cmpR op_isN (pe_kn A.worst hr (by rfl) (pa_cons (pv 3) (pa_cons (pv 12) pa_nil))) pe_non (nomark _)) (pw_or1 (pt_cmpR op_gt (pe_kn A.worst hr (by rfl) (pa_cons (pv 3) (pa_cons (pv 12) pa_nil))) (pv 10) (nomark _))))) (pss_one (ps_ret pe_bl)) pss_nil)
    (pss_cons (ps_set (i := 13) scLaw.nd rfl (.inl rfl) (pe_ifExp (pt_cmpR op_eq (pv 12) pe_int (nomark _)) pe_non (pe_kn A.worst hr (by rfl) (pa_cons (pv 3) (pa_cons (pe_op op_sub (pv 12) pe_int) pa_nil)))))
    (pss_one (ps_if (PW.pt (pw_and (pt_cmpR op_notN (pv 13) pe_non (nomark _)) (pw_and1 (pt_cmpR op_le (pv 13) (pv 10) (nomark _))))) (pss_one (ps_ret pe_bl)) pss_nil)))))))), ?_⟩
  intro D H F m n x0 x2 x3 x4 x5 x6 x7 x8 x9 x10 x11 x12 x13 x14 hD hn hnx
  -- loads
  refine ⟨_, rfl, _, rfl, by show 4 ≤ sizeLine; decide, fun lm nlm => ?_⟩
  have D1 := hD.new (o := .lst (([3, 8, 30, 1001] : List Int).map V.int)) nlm
  have sF1 := same_upd (o := .lst (([3, 8, 30, 1001] : List Int).map V.int)) (hD.same.free nlm)
  have hlm := upd_same (H := F) (a := lm) (o := .lst (([3, 8, 30, 1001] : List Int).map V.int))
  refine ⟨m, lm, [3, 8, 30, 1001], n, _, rfl, hlm, by simp, by simp, by omega, D1, fun x H1 hx D2 => ?_⟩
  have hxb : 0 < x ∧ x ≤ 1001 := by
    simp only [List.mem_cons, List.not_mem_nil, or_false] at hx
    rcases hx with rfl | rfl | rfl | rfl <;> omega
  refine ⟨m, x, n + 1, _, rfl, hxb.1, by omega, by omega, D2, fun L as rs F3 H3 sF3 D3 hLd la lp lr ba br => ?_⟩
  have G : Good as rs := ⟨by omega, by omega, lp, fun y hy => by have := ba y hy; omega, fun y hy => by have := br y hy; omega⟩
  have sF := sF1.trans sF3
  have er := len_map rs
  -- mean
  obtain ⟨mean, hmean⟩ : ∃ mean : Int, mean = rs.sum / (rs.length : Int) := ⟨_, rfl⟩
  have hmb := mean_bd G.br lp
  rw [← hmean] at hmb
  refine gn_split (seq_split (fun σ H' => H' = H3 ∧ σ = [x0, some (.ref m), x2, some (.ref L), some (.int mean), x5, x6, x7, x8, x9, x10, x11, x12, x13, x14]) (fun D' hrt hnx' => ?_) (fun σ' H' hp => ?_))
  · obtain ⟨a, r, hL, ha, hr'⟩ := hLd.mono D3.same
    refine ⟨_, rfl, L, _, 1, .ref r, rfl, rfl, SqT.of hL, atI_nat (j := 1) rfl, r, rs, rfl, SqT.of hr', _, rfl, L, _, 1, .ref r, rfl, rfl, SqT.of hL, atI_nat (j := 1) rfl, r, _, rfl, .inr (SqT.of hr'), _, _, rfl, rfl, ⟨by omega, by omega⟩, hnx' _ _ ⟨rfl, ?_⟩⟩
    have em : rs.sum / (((rs.map V.int).length : Nat) : Int) = mean := by rw [er, hmean]
    exact congrArg (fun z : Int => [x0, some (V.ref m), x2, some (V.ref L), some (V.int z), x5, x6, x7, x8, x9, x10, x11, x12, x13, x14]) em
  · obtain ⟨rfl, rfl⟩ := hp
    -- the paces
    refine ⟨_, rfl, _, rfl, _, 1, rfl, rfl, _, _, rfl, ?_⟩
    rw [min_if]
    refine ⟨_, rfl, m, 9, _, F3, rfl, by decide, by decide, by omega, D3, fun r4 H4 a1 a2 D4 => ⟨by show 4 ≤ sizeLine; decide, fun tp ntp => ?_⟩⟩
    have D5 := D4.new (o := .tup [.int mean, .int (min (mean + 1) 1000), .int r4, .int 0]) ntp
    have sF5 := same_upd (o := .tup [.int mean, .int (min (mean + 1) 1000), .int r4, .int 0]) (D4.same.free ntp)
    have htp := upd_same (H := F3) (a := tp) (o := .tup [.int mean, .int (min (mean + 1) 1000), .int r4, .int 0])
    generalize upd F3 tp (.tup [.int mean, .int (min (mean + 1) 1000), .int r4, .int 0]) = F5 at *
    generalize upd H4 tp (.tup [.int mean, .int (min (mean + 1) 1000), .int r4, .int 0]) = H5 at *
    have hb : ∀ v ∈ ([mean, min (mean + 1) 1000, r4, 0] : List Int), 0 ≤ v ∧ v ≤ 1000 := by
      intro v hv
      simp only [List.mem_cons, List.not_mem_nil, or_false] at hv
      rcases hv with rfl | rfl | rfl | rfl <;> omega
    refine ⟨tp, rfl, ⟨_, SqT.of (D5.same _ _ htp)⟩, for_tup (xs := ([mean, min (mean + 1) 1000, r4, 0] : List Int).map V.int) (fun i σ H' => ∃ F', Same F5 F' ∧ DM m (n + 13 + 2 * (i : Nat)) F' H' ∧ ∃ y5 y6 y7 y8 y9 y10 y11 y12, σ = [x0, some (.ref m), x2, some (.ref L), some (.int mean), y5, y6, y7, y8, y9, y10, y11, y12, x13, x14])
      ⟨F5, Same.refl _, D5.mono (by omega), x5, x6, x7, x8, x9, x10, x11, x12, rfl⟩ (fun i σ H' _ pv => ?_) (fun i v σ H' hv pv => ?_) (fun σ H' pv => ?_)⟩
    · obtain ⟨F', sF', D', _⟩ := pv
      exact SqT.of (D'.same _ _ (sF' _ _ htp))
    · obtain ⟨F', sF', D', y5, y6, y7, y8, y9, y10, y11, y12, rfl⟩ := pv
      obtain ⟨p, hp, rfl⟩ := map_at hv
      have hbp := hb p (List.mem_of_getElem? hp)
      have hi : i < 4 := (List.getElem?_eq_some_iff.mp hp).1
      refine hCq _ H' F' m L as rs p (n + 13 + 2 * (i : Nat)) _ _ _ _ _ _ _ _ _ _ _ _ D' (by omega) (hLd.mono (sF5.trans sF')) G hbp.1 hbp.2 fun F'' H'' z6 z7 z8 z9 z10 z11 z12 sF'' D'' => ?_
      exact ⟨F'', sF'.trans sF'', D''.mono (by omega), _, _, _, _, _, _, _, _, rfl⟩
    · obtain ⟨F6, sF6, D6, y5, y6, y7, y8, y9, y10, y11, y12, rfl⟩ := pv
      have D6 : DM m (n + 21) F6 H' := D6.mono (by simp only [List.length_map, List.length_cons, List.length_nil]; omega)
      have hLd6 := hLd.mono (sF5.trans sF6)
      -- number
      refine ⟨_, rfl, _, rfl, by show 2 ≤ sizeLine; decide, fun lq nlq => ?_⟩
      have D7 := D6.new (o := .lst (([40, 2000] : List Int).map V.int)) nlq
      have sF7 := same_upd (o := .lst (([40, 2000] : List Int).map V.int)) (D6.same.free nlq)
      have hlq := upd_same (H := F6) (a := lq) (o := .lst (([40, 2000] : List Int).map V.int))
      refine ⟨m, lq, [40, 2000], n + 21, _, rfl, hlq, by simp, by simp, by omega, D7, fun x8' H8 hx8 D8 => ?_⟩
      have hx8b : 0 < x8' ∧ x8' ≤ 2000 := by
        simp only [List.mem_cons, List.not_mem_nil, or_false] at hx8
        rcases hx8 with rfl | rfl <;> omega
      refine ⟨m, x8', n + 22, _, rfl, hx8b.1, by omega, by omega, D8.mono (by omega), fun num H9 b1 b2 D9 => ?_⟩
      generalize upd F6 lq (.lst (([40, 2000] : List Int).map V.int)) = F9 at *
      have hLd9 := (hLd6.mono sF7).mono D9.same
      -- told
      refine ⟨_, rfl, _, rfl, L, as, rs, num, rfl, hLd9, G, b1, by omega, fun H10 t s10 hLP => ?_⟩
      obtain ⟨t1, t2, ⟨mm, hmm, hmle⟩, t4⟩ := hLP
      have hLd10 := hLd9.mono s10
      have D10 := D9.pure s10
      refine ⟨_, rfl, _, rfl, L, as, rs, t, rfl, hLd10, G, t1, t2, fun H11 s11 => ?_⟩
      have D11 := D10.pure s11
      rw [hmm]
      refine ⟨rfl, false, rfl, iteF ?_⟩
      refine ⟨_, rfl, _, rfl, L, as, rs, t, rfl, hLd10.mono s11, G, t1, t2, fun H12 s12 => ?_⟩
      have D12 := D11.pure s12
      have hLd12 := (hLd10.mono s11).mono s12
      rw [hmm]
      refine ⟨_, rfl, mm, num, rfl, rfl, _, rfl, iteDF (by omega) ?_⟩
      have fin : ∀ H' y13, DM m (n + 23) F9 H' → D.nx [x0, some (.ref m), x2, some (.ref L), some (.int mean), y5, y6, y7, y8, y9, some (.int num), y11, some (.int t), y13, x14] H' := fun H' y13 D' =>
        hnx F9 H' _ _ _ _ _ _ _ _ _ _ _ (((sF.trans sF5).trans sF6).trans sF7) (D'.mono (by omega))
      refine ⟨_, rfl, rfl, _, rfl, ite2 (fun e => ?_) (fun e => ?_)⟩
      · refine ⟨_, rfl, rfl, false, rfl, iteF ?_⟩
        exact fin H12 _ (D12.mono (by omega))
      · have t0 : t ≠ 0 := fun z => e (decide_eq_true (by rw [z]))
        have t5 : ¬ fe num as rs (t - 1) := by
          rcases t4 with z | z
          · exact absurd z t0
          · exact z
        refine ⟨_, rfl, _, rfl, t, 1, rfl, rfl, L, as, rs, t - 1, rfl, hLd12, G, by omega, by omega, fun H13 s13 => ?_⟩
        have D13 := D12.pure s13
        cases hw : wo (t - 1) as rs with
        | none =>
          refine ⟨_, rfl, rfl, false, rfl, iteF ?_⟩
          exact fin H13 _ (D13.mono (by omega))
        | some m2 =>
          have hm2 : ¬ m2 ≤ num := fun z => t5 ⟨m2, hw, z⟩
          refine ⟨_, rfl, rfl, true, rfl, ?_⟩
          refine ⟨_, rfl, _, rfl, m2, num, rfl, rfl, _, rfl, iteDF hm2 ?_⟩
          exact fin H13 _ (D13.mono (by omega))
end
end PwW
set_option Elab.async false
set_option linter.all false
set_option maxRecDepth 100000
set_option maxHeartbeats 4000000
namespace PwW
open PySem PySem.Spec PyProof.Rows L2 PwR PW
/-! ### the written loads -/
def eA : List Int := [9, 0]
def eR : List Int := [4, 1, 1]
theorem e_good : Good eA eR := ⟨by decide, by decide, by decide, by decide, by decide⟩
theorem e_film : fw 2 eA eR 8 = [7, 5, 7, 6, 5, 7, 6, 5] := by decide +kernel
theorem e_worst : wo 2 eA eR = some 7 := by decide +kernel
theorem e_none : wo 1 eA eR = none := by decide +kernel
def feB (many : Int) (as rs : List Int) (p : Int) : Bool := match wo p as rs with
  | some m => decide (m ≤ many)
  | none => false
theorem feB_iff {many p : Int} {as rs : List Int} : fe many as rs p ↔ feB many as rs p = true := by
  unfold fe feB
  cases wo p as rs with
  | none => simp
  | some m => simp
theorem e_scan : ((List.range 1001).all fun t : Nat => !feB 5 eA eR (t : Int) || ((t != 0) && feB 5 eA eR ((t : Int) - 1)) || (t == 4)) = true := by decide +kernel
theorem e_least {t : Int} (h : LP 5 eA eR t) : t = 4 := by
  obtain ⟨h1, h2, h3, h4⟩ := h
  obtain ⟨k, rfl⟩ : ∃ k : Nat, t = (k : Int) := ⟨t.toNat, (Int.toNat_of_nonneg h1).symm⟩
  have a := List.all_eq_true.mp e_scan k (List.mem_range.mpr (by omega))
  rw [feB_iff.mp h3] at a
  simp only [Bool.not_true, Bool.false_or, Bool.or_eq_true, Bool.and_eq_true, bne_iff_ne, ne_eq, beq_iff_eq] at a
  rcases a with ⟨b, c⟩ | b
  · rcases h4 with z | z
    · omega
    · exact absurd (feB_iff.mpr c) z
  · omega
theorem e_wt : wt 2 eA eR 1 = 7 := by decide +kernel
theorem e_first {o : Option Nat} (h : FL 2 eA eR 6 o) : o = some 0 := by
  cases o with
  | none =>
    have := h.2 0
    rw [e_wt] at this
    omega
  | some t =>
    cases t with
    | zero => rfl
    | succ t =>
      have := h.2.1 0 (by omega)
      rw [e_wt] at this
      omega
theorem e_data : PyData.eqv (.list [.list ([7, 5, 7, 6, 5, 7, 6, 5].map PyData.int), .int 7, .none, .int 4, .int 0]) (.list [.list ([7, 5, 7, 6, 5, 7, 6, 5].map PyData.int), .int 7, .none, .int 4, .int 0]) = true := by
  simp [PyData.eqv, PyData.eqvAll]
theorem e_shaped : SeqAt.shaped (.list [.list ([7, 5, 7, 6, 5, 7, 6, 5].map PyData.int), .int 7, .none, .int 4, .int 0]) = true :=
  shaped_of (by simp [PyData.canLay0, PyData.canLayAll0]) (by simp [PyData.depth, PyData.depthAll])
section
variable {P : Program} {w : World} {K : PySem.W.Frag} {mg : Str → Option Value} {base : Heap} {f : Addr} {cdv : Value} {s : Shared}
theorem law_body (A : Know P w K mg base) {H : Hp} {a : Addr} {ns : List Int} (hl : ns.length ≤ 63) (hS : SqL K H a (ns.map V.int)) :
    ∃ t, PSs (XL P w K mg base f cdv s H) (defBody sLaw) t ∧ t { nx := fun _ H' => (fun (v : V) (_ : Hp) => v = .bl true) .non H', rt := fun v _ => v = .bl true } (start nLaw [.ref a]) H := by
  have T := A.T
  have hr : Room 5 (XL P w K mg base f cdv s H).A := room6.deeper _
  obtain ⟨tB, hBs, hBq⟩ := blkB_ok (f := f) (cdv := cdv) (s := s) (H₀ := H) A
  refine ⟨_, pss_cons (ps_set (i := 1) scLaw.nd rfl (.inl rfl) (pe_kn A.begun (hr.mono (by decide)) (by rfl) (pa_cons (pv 0) pa_nil)))
    (pss_cons (ps_for PassesOwn.never rfl (pi_range1 (by rfl) T.range (pa_cons (pe_op op_add pe_int (pe_callB (call_min2 rfl) (by rfl) T.min boot_min (pa_cons (pe_callB call_len_seq (by rfl) T.len PySem.boot_len (pa_cons (pv 0) pa_nil)) (pa_cons pe_int pa_nil)))) pa_nil))
        (pg_name (i := 2) scLaw.nd rfl (.inl rfl)) hBs)
    (pss_cons (ps_set (i := 3) scLaw.nd rfl (.inr rfl) (pe_tup (pa_cons (pe_tup (pa_cons pe_int (pa_cons pe_int pa_nil))) (pa_cons (pe_tup (pa_cons pe_int (pa_cons pe_int (pa_cons pe_int pa_nil)))) pa_nil))))
    (pss_cons (ps_set (i := 12) scLaw.nd rfl (.inl rfl) (pe_lst (pa_cons (pe_lc (own := [("_law_beat", 14)]) (g := gName 14) (tt := tYes) rfl scLaw.nd (pi_range1 (by rfl) T.range (pa_cons pe_int pa_nil)) (blkOk_by (N := nLaw) (sc := defScope sLaw) (by decide +kernel))
            (fun _ _ _ _ _ => pg_name (i := 14) scLaw.nd rfl (Or.inl rfl)) (fun _ _ _ _ _ => pts_nil) (fun _ _ _ _ _ => pe_kn A.late hr (by rfl) (pa_cons (pv 3) (pa_cons pe_int (pa_cons (pv 14) pa_nil)))))
          (pa_cons (pe_kn A.worst hr (by rfl) (pa_cons (pv 3) (pa_cons pe_int pa_nil))) pa_nil))))
    (pss_cons (ps_set (i := 12) scLaw.nd rfl (.inl rfl) (pe_op op_cat (pv 12) (pe_lst (pa_cons (pe_kn A.worst hr (by rfl) (pa_cons (pv 3) (pa_cons pe_int pa_nil))) (pa_cons (pe_kn A.least (hr.mono (by decide)) (by rfl) (pa_cons (pv 3) (pa_cons pe_int pa_nil)))
          (pa_cons (pe_kn A.first hr (by rfl) (pa_cons (pv 3) (pa_cons pe_int (pa_cons pe_int pa_nil)))) pa_nil))))))
    (pss_one (ps_ret (pe_cmpR (op_eqD hr.units) (pv 12) (pe_lst (pa_cons (pe_lst (pa_cons pe_int (pa_cons pe_int (pa_cons pe_int (pa_cons pe_int (pa_cons pe_int (pa_cons pe_int (pa_cons pe_int (pa_cons pe_int pa_nil)))))))))
        (pa_cons pe_int (pa_cons pe_non (pa_cons pe_int (pa_cons pe_int pa_nil)))))) (nomark _)))))))), ?_⟩
  refine ⟨_, rfl, a, ns, rfl, hS, by omega, fun m F0 H1 sF0 D0 => ?_⟩
  have hS1 := D0.same.seq (sF0.seq hS)
  have el := len_map ns
  refine ⟨_, rfl, a, _, rfl, .inl hS1, _, _, rfl, 4, _, rfl, rfl, _, rfl, ?_⟩
  rw [min_if]
  refine ⟨by omega, by omega, for_range (lo := 0) (n := (4 + min (((ns.map V.int).length : Nat) : Int) 9).toNat) (fun i σ H' => ∃ F', DM m (30 * (i : Nat)) F' H' ∧ ∃ y2 y3 y4 y5 y6 y7 y8 y9 y10 y11 y12 y13, σ = [some (.ref a), some (.ref m), y2, y3, y4, y5, y6, y7, y8, y9, y10, y11, y12, y13, none])
    ⟨F0, D0.mono (by omega), none, none, none, none, none, none, none, none, none, none, none, none, rfl⟩ (fun i σ H' hi pv => ?_) (fun σ H' pv => ?_)⟩
  · obtain ⟨F', D', y2, y3, y4, y5, y6, y7, y8, y9, y10, y11, y12, y13, rfl⟩ := pv
    refine hBq _ H' F' m (30 * (i : Nat)) _ _ _ _ _ _ _ _ _ _ _ _ _ _ D' (by omega) fun F'' H'' z3 z4 z5 z6 z7 z8 z9 z10 z11 z12 z13 _ D'' => ?_
    exact ⟨F'', D''.mono (by omega), _, _, _, _, _, _, _, _, _, _, _, _, rfl⟩
  · obtain ⟨F', D', y2, y3, y4, y5, y6, y7, y8, y9, y10, y11, y12, y13, rfl⟩ := pv
    clear D'
    -- the written loads
    refine ⟨by show 2 ≤ sizeLine; decide, fun ta nta => ⟨by show 3 ≤ sizeLine; decide, fun tr ntr => ⟨by show 2 ≤ sizeLine; decide, fun L nL => ?_⟩⟩⟩
    have hta := upd_same (H := H') (a := ta) (o := .tup (eA.map V.int))
    have sr := same_upd (o := .tup (eR.map V.int)) ntr
    have htr := upd_same (H := upd H' ta (.tup (eA.map V.int))) (a := tr) (o := .tup (eR.map V.int))
    have sL := same_upd (o := .tup [.ref ta, .ref tr]) nL
    have hLL := upd_same (H := upd (upd H' ta (.tup (eA.map V.int))) tr (.tup (eR.map V.int))) (a := L) (o := .tup [.ref ta, .ref tr])
    have hLd : Ld (upd (upd (upd H' ta (.tup (eA.map V.int))) tr (.tup (eR.map V.int))) L (.tup [.ref ta, .ref tr])) L eA eR := ⟨ta, tr, hLL, sL _ _ (sr _ _ hta), sL _ _ htr⟩
    change gName 3 (V.ref L) _ (upd (upd (upd H' ta (.tup (eA.map V.int))) tr (.tup (eR.map V.int))) L (.tup [.ref ta, .ref tr])) _
    generalize upd (upd (upd H' ta (.tup (eA.map V.int))) tr (.tup (eR.map V.int))) L (.tup [.ref ta, .ref tr]) = H2 at *
    -- told
    refine ⟨8, rfl, by decide, by decide, fun l nl => lc_range (lo := 0) (n := 8) (fun i H' => Same H2 H' ∧ H' l = some (.lst ((fw 2 eA eR i).map V.int))) ⟨same_upd nl, upd_same⟩ (fun i H' hi pv => ?_) (fun H3 pv => ?_)⟩
    · obtain ⟨sm, hl⟩ := pv
      rw [Int.zero_add]
      refine ⟨rfl, _, rfl, _, rfl, L, eA, eR, 2, i, rfl, hLd.mono sm, e_good, by decide, by decide, by omega, fun H4 s4 => ⟨_, s4 _ _ hl, ?_, ?_, ?_⟩⟩
      · rw [len_map, fw_len]
        exact small1000 (by omega)
      · intro b o z
        rw [upd_ne (ne_of_none z nl)]
        exact s4 _ _ (sm _ _ z)
      · rw [upd_same, fw_succ, List.map_append]
        rfl
    · obtain ⟨s3, hl⟩ := pv
      refine ⟨_, rfl, L, eA, eR, 2, rfl, hLd.mono s3, e_good, by decide, by decide, fun H4 s4 => ⟨by show 2 ≤ sizeLine; decide, fun t5 n5 => ?_⟩⟩
      rw [e_worst]
      have s5' := same_upd (o := .lst [.ref l, optV (some 7)]) n5
      have h5 := upd_same (H := H4) (a := t5) (o := .lst [.ref l, optV (some 7)])
      generalize upd H4 t5 (.lst [.ref l, optV (some 7)]) = H5 at *
      have s5 := s3.trans (s4.trans s5')
      have hl5 := s5' _ _ (s4 _ _ hl)
      -- more
      refine ⟨_, rfl, _, rfl, L, eA, eR, 1, rfl, hLd.mono s5, e_good, by decide, by decide, fun H6 s6' => ?_⟩
      rw [e_none]
      have s6 := s5.trans s6'
      refine ⟨_, rfl, L, eA, eR, 5, rfl, hLd.mono s6, e_good, by decide, by decide, fun H7 t s7' hLP => ?_⟩
      have et := e_least hLP
      subst et
      have s7 := s6.trans s7'
      refine ⟨_, rfl, L, eA, eR, 2, 6, rfl, hLd.mono s7, e_good, by decide, by decide, by decide, by decide, fun H8 o s8' hFL => ?_⟩
      have eo := e_first hFL
      subst eo
      refine ⟨by show 3 ≤ sizeLine; decide, fun t9 n9 => ?_⟩
      have s9' := same_upd (o := .lst [optV none, .int 4, optN (some 0)]) n9
      have h9 := upd_same (H := H8) (a := t9) (o := .lst [optV none, .int 4, optN (some 0)])
      generalize upd H8 t9 (.lst [optV none, .int 4, optN (some 0)]) = H9 at *
      have s59 := s6'.trans (s7'.trans (s8'.trans s9'))
      refine cat_lists (s59 _ _ h5) h9 (by simp) fun H10 c s10 hc => ?_
      have hl10 := s10 _ _ (s59 _ _ hl5)
      -- the end
      refine ⟨_, rfl, by show 8 ≤ sizeLine; decide, fun q1 nq1 => ⟨by show 5 ≤ sizeLine; decide, fun q2 nq2 => ?_⟩⟩
      have sA := same_upd (o := .lst (([7, 5, 7, 6, 5, 7, 6, 5] : List Int).map V.int)) nq1
      have hA := upd_same (H := H10) (a := q1) (o := .lst (([7, 5, 7, 6, 5, 7, 6, 5] : List Int).map V.int))
      have sB := same_upd (o := .lst [.ref q1, .int 7, .non, .int 4, .int 0]) nq2
      have hB := upd_same (H := upd H10 q1 (.lst (([7, 5, 7, 6, 5, 7, 6, 5] : List Int).map V.int))) (a := q2) (o := .lst [.ref q1, .int 7, .non, .int 4, .int 0])
      rw [e_film] at hl10
      refine ⟨.list [.list ([7, 5, 7, 6, 5, 7, 6, 5].map PyData.int), .int 7, .none, .int 4, .int 0], .list [.list ([7, 5, 7, 6, 5, 7, 6, 5].map PyData.int), .int 7, .none, .int 4, .int 0],
        .lst (SqL.of (sB _ _ (sA _ _ hc))) (.cons (.lst (SqL.of (sB _ _ (sA _ _ hl10))) (dps_ints _)) (.cons (.int 7) (.cons .non (.cons (.int 4) (.cons (.int 0) .nil))))),
        .lst (SqL.of hB) (.cons (.lst (SqL.of (sB _ _ hA)) (dps_ints _)) (.cons (.int 7) (.cons .non (.cons (.int 4) (.cons (.int 0) .nil))))), e_shaped, e_shaped, ?_⟩
      exact congrArg V.bl e_data
end
end PwW
set_option Elab.async false
set_option linter.all false
set_option maxRecDepth 100000
set_option maxHeartbeats 4000000
namespace PwW
open PySem PySem.Spec PyProof.Rows L2 PwR PW
section
variable {P : Program} {w : World} {K : PySem.W.Frag} {h : Heap} {mg : Str → Option Value} {base : Heap} {f : Addr}
theorem know (X : K.In h) (G : h.Ns mainGlobals mg) (c : He.SaysD fa fn K) : Know P w K mg base := by
  have T := txt_of X G c
  have whole := kn_whole (P := P) (w := w) (base := base) (src_of X G c 0 rfl rfl) T
  have are := kn_are (src_of X G c 1 rfl rfl) T whole
  have needL := kn_needL (src_of X G c 2 rfl rfl) T are
  have needP := kn_needP (src_of X G c 3 rfl rfl) T whole needL
  have needN := kn_needN (src_of X G c 4 rfl rfl) T whole
  have film := kn_film (P := P) (w := w) (base := base) (src_of X G c 5 rfl rfl) T
  have endO := kn_end (src_of X G c 6 rfl rfl) T film
  have growth := kn_growth (P := P) (w := w) (base := base) (src_of X G c 7 rfl rfl) T
  have before := kn_before (src_of X G c 8 rfl rfl) T endO growth
  have lateAt := kn_lateAt (src_of X G c 9 rfl rfl) T film before
  have late := kn_late (src_of X G c 10 rfl rfl) T needP needN lateAt
  have long := kn_long (src_of X G c 11 rfl rfl) T film
  have worstIn := kn_worstIn (src_of X G c 12 rfl rfl) T growth long
  have worst := kn_worst (src_of X G c 13 rfl rfl) T needP worstIn
  have paper := kn_paper (src_of X G c 14 rfl rfl) T needP worstIn long
  have sumTo := kn_sumTo (P := P) (w := w) (base := base) (src_of X G c 15 rfl rfl) T
  have close := kn_close (P := P) (w := w) (base := base) (src_of X G c 16 rfl rfl) T
  have isW := kn_isW (src_of X G c 17 rfl rfl) T whole close sumTo
  have check := kn_check (src_of X G c 18 rfl rfl) T needP growth isW
  have first := kn_first (src_of X G c 19 rfl rfl) T needP needN long growth before
  have least := kn_least (src_of X G c 20 rfl rfl) T needL needN worstIn
  have begun := kn_begun (P := P) (w := w) (base := base) (src_of X G c 21 rfl rfl) T
  have next := kn_next (P := P) (w := w) (base := base) (src_of X G c 22 rfl rfl) T
  have of_ := kn_of (src_of X G c 23 rfl rfl) T next
  have loads := kn_loads (src_of X G c 24 rfl rfl) T next
  have load := kn_load (P := P) (w := w) (base := base) (src_of X G c 25 rfl rfl) T
  have filmL := kn_filmL (src_of X G c 26 rfl rfl) T load
  have up := kn_up (P := P) (w := w) (base := base) (src_of X G c 27 rfl rfl) T
  exact ⟨T, begun, next, of_, loads, filmL, up, late, worst, paper, check, first, least⟩
theorem law_runs (X : K.In h) (G : h.Ns mainGlobals mg) (c : He.SaysD fa fn K) (hfa : mg ("law" : Str) = some (.ref f)) (base : Heap) (H : Hp) (s : Shared) (a : Addr) (ns : List Int) (hl : ns.length ≤ 63) (e0 : Env0 P w K mg base callerA [] s H)
    (hS : SqL K H a (ns.map V.int)) : codeAny (model P w) callerA (.call (.ref f) ⟨[.ref a], []⟩) (CR CX0 [] P w H s (fun v _ => v = .bl true) E0) s := by
  obtain ⟨f', fd, e, F⟩ := src_of X G c (x := "law") (st := sLaw) 28 rfl rfl
  have ef := hfa.symm.trans e
  cases ef
  have hb := F.bindsA (ps := ["_law_script"]) (fun _ _ _ _ _ _ us hl => match us, hl with | [_], _ => rfl) s [.ref a] rfl
  exact run_at (us := [.ref a]) (vs := [V.ref a]) F scLaw rfl (by decide) e0 hb (.cons rfl .nil) rfl fun cdv => law_body (know X G c) hl hS
end
end PwW
open PySem PySem.W PySem.Calls PyProof.Rows
set_option maxHeartbeats 0 in
theorem PySem.Challenge.cw_notewire_k44_whole_paces_holds : PySem.Challenge.rw_notewire_k44_whole_paces.Holds := by
  w_on; o_law
  refine HandSHeadRun.head_any (r := OpenLaw.row PySem.Challenge.rw_notewire_k44_whole_paces) (q := view (OpenLaw.row PySem.Challenge.rw_notewire_k44_whole_paces).prog [39]) (H := PwW.hk) (ob := PwW.ob) (M := 6000) (loose := PwW.loose) (d := HandSHeadRun.topDef (OpenLaw.row PySem.Challenge.rw_notewire_k44_whole_paces).prog 39) (kwd := []) PwW.ob_eq
    (by kernel_rfl) (fun s => by kernel_rfl) PwW.run (by kernel_rfl) (by kernel_rfl) (by kernel_rfl) (by rfl) (by first | assumption | decide +kernel) (by decide +kernel) ⟨rfl, rfl, rfl, rfl, rfl, by decide +kernel⟩ ?hw ?hc
  case hw => w_witness2
  case hc =>
    refine PwW.walk_at (l := PySem.Challenge.rw_notewire_k44_whole_paces) (n := 63) rfl (by decide) (by kernel_rfl) ?F
    intro w mg fa h Y G hmg0
    obtain ⟨K, KX, c⟩ := Y
    have hmg : mg ("law" : PySem.Str) = some (.ref fa) := by
      have e : (HandSHeadRun.topDef (OpenLaw.row PySem.Challenge.rw_notewire_k44_whole_paces).prog 39).name = ("law" : PySem.Str) := by kernel_rfl
      rw [← e]
      exact hmg0
    exact ⟨K, KX, fun base H s a ns hl _ _ e0 hS => PwW.law_runs KX G c hmg base H s a ns hl e0 hS⟩
