import PyProof.Rows.All
import Wide.All
import OpenK.AllK
import Wide.FinOn
import KE.KStateDown
import HandS.ForMost
import HandS.Defaults
import HandS.Head0
import HandS.Head1
import HandS.Head2
import HandS.Head3
import HandS.HeadEnd
import HandS.HeadHook1
import HandS.HeadHook2
import PySem.Challenge.RW_anyplaces_k45_whole_wrong_words_mended
import HandS.IsInst
import HandS.Wide
import HandS.WideBits
import HandS.Style
import HandS.Conv
import HandS.SortKw
import HandS.Zip
import HandS.Evl
import KE.GoesEnumKw
import KE.KDictZip
import KE.KMinBuiltin
import HandS.Slots
import HandS.Dict
import HandS.RepeatKit
set_option Elab.async false
set_option linter.all false
section
namespace AP
/-! ### powers of 2 that divide -/
def v2f : Nat → Int → Nat
  | 0, _ => 0
  | f + 1, n => if n % 2 = 0 then v2f f (n / 2) + 1 else 0
def v2 (n : Int) : Nat := v2f n.natAbs n
theorem v2f_more : ∀ (f : Nat) (n : Int), n ≠ 0 → n.natAbs ≤ f → v2f f n = v2f n.natAbs n
  | 0, n, h, hf => by omega
  | f + 1, n, h, hf => by
    obtain ⟨m, hm⟩ : ∃ m, n.natAbs = m + 1 := ⟨n.natAbs - 1, by omega⟩
    rw [hm]
    unfold v2f
    by_cases c : n % 2 = 0
    · rw [if_pos c, if_pos c]
      have h2 : n / 2 ≠ 0 := by omega
      rw [v2f_more f (n / 2) h2 (by omega), v2f_more m (n / 2) h2 (by omega)]
    · rw [if_neg c, if_neg c]
termination_by f => f
theorem v2_even {n : Int} (h : n ≠ 0) (c : n % 2 = 0) : v2 n = v2 (n / 2) + 1 := by
  unfold v2
  obtain ⟨m, hm⟩ : ∃ m, n.natAbs = m + 1 := ⟨n.natAbs - 1, by omega⟩
  rw [hm]
  show (if n % 2 = 0 then v2f m (n / 2) + 1 else 0) = _
  rw [if_pos c, v2f_more m (n / 2) (by omega) (by omega)]
theorem v2_odd {n : Int} (c : ¬ n % 2 = 0) : v2 n = 0 := by
  unfold v2
  obtain ⟨m, hm⟩ : ∃ m, n.natAbs = m + 1 := ⟨n.natAbs - 1, by omega⟩
  rw [hm]
  show (if n % 2 = 0 then v2f m (n / 2) + 1 else 0) = _
  rw [if_neg c]
theorem pow_succ' (k : Nat) : (2 : Int) ^ (k + 1) = 2 * 2 ^ k := by rw [Int.pow_succ, Int.mul_comm]
theorem pow_pos (k : Nat) : (0 : Int) < 2 ^ k := Int.pow_pos (by decide)
theorem pow_ne (k : Nat) : (2 : Int) ^ k ≠ 0 := by have := pow_pos k; omega
theorem pow_dvd {a b : Nat} (h : a ≤ b) : (2 : Int) ^ a ∣ 2 ^ b := ⟨2 ^ (b - a), by rw [← Int.pow_add]; congr 1; omega⟩
theorem pow_lt {a b : Nat} (h : a < b) : (2 : Int) ^ a < 2 ^ b := by
  have e : (2 : Int) ^ b = 2 ^ (a + 1) * 2 ^ (b - (a + 1)) := by rw [← Int.pow_add]; congr 1; omega
  have h1 := pow_pos a
  have h2 := pow_pos (b - (a + 1))
  have h3 : (2 : Int) ^ (a + 1) * 1 ≤ 2 ^ (a + 1) * 2 ^ (b - (a + 1)) := Int.mul_le_mul_of_nonneg_left (by omega) (by have := pow_pos (a + 1); omega)
  rw [e]
  rw [pow_succ'] at *
  omega
/-- each number is 2 ^ (its twos) times an odd one -/
theorem v2_form : ∀ (f : Nat) (n : Int), n ≠ 0 → n.natAbs ≤ f → ∃ m : Int, n = 2 ^ v2 n * m ∧ m % 2 = 1
  | 0, n, h, hf => by omega
  | f + 1, n, h, hf => by
    by_cases c : n % 2 = 0
    · obtain ⟨m, e, o⟩ := v2_form f (n / 2) (by omega) (by omega)
      refine ⟨m, ?_, o⟩
      rw [v2_even h c, pow_succ', Int.mul_assoc, ← e]
      omega
    · refine ⟨n, ?_, by omega⟩
      rw [v2_odd c]
      simp
theorem odd_form {n : Int} (h : n ≠ 0) : ∃ m : Int, n = 2 ^ v2 n * m ∧ m % 2 = 1 := v2_form _ n h (Nat.le_refl _)
theorem not_dvd_odd {m : Int} (h : m % 2 = 1) : ¬ (2 : Int) ∣ m := fun ⟨c, e⟩ => by omega
theorem dvd_iff {n : Int} (h : n ≠ 0) (k : Nat) : (2 : Int) ^ k ∣ n ↔ k ≤ v2 n := by
  obtain ⟨m, e, o⟩ := odd_form h
  constructor
  · intro d
    apply Nat.le_of_not_lt
    intro l
    obtain ⟨c, ec⟩ : (2 : Int) ^ (v2 n + 1) ∣ n := Int.dvd_trans (pow_dvd l) d
    generalize v2 n = t at e ec
    rw [e, Int.pow_succ, Int.mul_assoc] at ec
    have := Int.eq_of_mul_eq_mul_left (pow_ne _) ec
    omega
  · intro l
    rw [e]
    exact Int.dvd_trans (pow_dvd l) (Int.dvd_mul_right _ _)
theorem v2_dvd {n : Int} (h : n ≠ 0) : (2 : Int) ^ v2 n ∣ n := (dvd_iff h _).mpr (Nat.le_refl _)
theorem v2_mul {a b : Int} (ha : a ≠ 0) (hb : b ≠ 0) : v2 (a * b) = v2 a + v2 b := by
  have hab : a * b ≠ 0 := Int.mul_ne_zero ha hb
  obtain ⟨m, e, o⟩ := odd_form ha
  obtain ⟨k, e2, o2⟩ := odd_form hb
  have e3 : a * b = 2 ^ (v2 a + v2 b) * (m * k) := by
    rw [Int.pow_add]
    calc a * b = (2 ^ v2 a * m) * (2 ^ v2 b * k) := by rw [← e, ← e2]
      _ = _ := by simp [Int.mul_assoc, Int.mul_left_comm]
  have o3 : (m * k) % 2 = 1 := by rw [Int.mul_emod, o, o2]; rfl
  apply Nat.le_antisymm
  · apply Nat.le_of_not_lt
    intro l
    obtain ⟨c, ec⟩ := (dvd_iff hab (v2 a + v2 b + 1)).mpr l
    rw [e3, Int.pow_succ, Int.mul_assoc] at ec
    have := Int.eq_of_mul_eq_mul_left (pow_ne _) ec
    omega
  · refine (dvd_iff hab _).mp ?_
    rw [e3]
    exact Int.dvd_mul_right _ _
theorem v2_neg (a : Int) : v2 (-a) = v2 a := by
  by_cases h : a = 0
  · subst h; rfl
  · apply Nat.le_antisymm
    · exact (dvd_iff h _).mp ((Int.dvd_neg.mp (v2_dvd (n := -a) (by omega))))
    · exact (dvd_iff (by omega) _).mp (Int.dvd_neg.mpr (v2_dvd h))
theorem v2_comm (a b : Int) : v2 (a - b) = v2 (b - a) := by rw [← v2_neg, Int.neg_sub]
theorem v2_pow_mul (k : Nat) {m : Int} (o : m % 2 = 1) : v2 (2 ^ k * m) = k := by
  have hm : m ≠ 0 := by omega
  have h : (2 : Int) ^ k * m ≠ 0 := Int.mul_ne_zero (pow_ne k) hm
  apply Nat.le_antisymm
  · apply Nat.le_of_not_lt
    intro l
    obtain ⟨c, ec⟩ := (dvd_iff h (k + 1)).mpr l
    rw [Int.pow_succ, Int.mul_assoc] at ec
    have := Int.eq_of_mul_eq_mul_left (pow_ne _) ec
    omega
  · exact (dvd_iff h _).mp (Int.dvd_mul_right _ _)
/-- of three numbers the twos of differences -/
theorem ultra {x y z : Int} (h1 : x ≠ y) (h2 : y ≠ z) (h3 : x ≠ z) : v2 (x - y) ≤ v2 (x - z) ∨ v2 (y - z) ≤ v2 (x - z) := by
  by_cases c : v2 (x - y) ≤ v2 (y - z)
  · left
    refine (dvd_iff (by omega) _).mp ?_
    have d1 := v2_dvd (n := x - y) (by omega)
    have d2 := (dvd_iff (n := y - z) (by omega) _).mpr c
    have := Int.dvd_add d1 d2
    rwa [show x - y + (y - z) = x - z by omega] at this
  · right
    refine (dvd_iff (by omega) _).mp ?_
    have d1 := (dvd_iff (n := x - y) (by omega) (v2 (y - z))).mpr (by omega)
    have d2 := v2_dvd (n := y - z) (by omega)
    have := Int.dvd_add d1 d2
    rwa [show x - y + (y - z) = x - z by omega] at this
end AP
end
section
namespace AP
/-! ### the least item, its first place -/
def minL : List Int → Int
  | [] => 0
  | x :: r => r.foldl (fun m y => if y < m then y else m) x
theorem fold_min : ∀ (r : List Int) (x : Int), (r.foldl (fun m y => if y < m then y else m) x) ∈ x :: r ∧ ∀ y ∈ x :: r, r.foldl (fun m y => if y < m then y else m) x ≤ y
  | [], x => ⟨by simp, by intro y hy; simp at hy; subst hy; exact Int.le_refl _⟩
  | z :: r, x => by
    have ih := fold_min r (if z < x then z else x)
    refine ⟨?_, fun y hy => ?_⟩
    · show (r.foldl _ (if z < x then z else x)) ∈ _
      rcases List.mem_cons.mp ih.1 with h | h
      · rw [h]
        split <;> simp
      · exact List.mem_cons_of_mem _ (List.mem_cons_of_mem _ h)
    · show (r.foldl _ (if z < x then z else x)) ≤ y
      have h0 := ih.2 (if z < x then z else x) (by simp)
      rcases List.mem_cons.mp hy with h | h
      · subst h
        refine Int.le_trans h0 ?_
        split <;> omega
      rcases List.mem_cons.mp h with h | h
      · subst h
        refine Int.le_trans h0 ?_
        split <;> omega
      · exact ih.2 y (List.mem_cons_of_mem _ h)
theorem min_mem {l : List Int} (h : l ≠ []) : minL l ∈ l := by
  cases l with
  | nil => exact absurd rfl h
  | cons x r => exact (fold_min r x).1
theorem min_le {l : List Int} {y : Int} (h : y ∈ l) : minL l ≤ y := by
  cases l with
  | nil => cases h
  | cons x r => exact (fold_min r x).2 y h
theorem min_uniq {l : List Int} {m : Int} (h : m ∈ l) (hl : ∀ y ∈ l, m ≤ y) : m = minL l :=
  Int.le_antisymm (hl _ (min_mem (fun e => by subst e; cases h))) (min_le h)
def ix (m : Int) : List Int → Nat
  | [] => 0
  | x :: r => if x = m then 0 else ix m r + 1
theorem ix_spec {m : Int} : ∀ {l : List Int}, m ∈ l → ix m l < l.length ∧ l[ix m l]? = some m ∧ ∀ (j : Nat) (z : Int), j < ix m l → l[j]? = some z → z ≠ m
  | x :: r, h => by
    by_cases c : x = m
    · subst c
      simp [ix]
    · have hr : m ∈ r := by
        rcases List.mem_cons.mp h with h | h
        · exact absurd h.symm c
        · exact h
      obtain ⟨h1, h2, h3⟩ := ix_spec hr
      have e : ix m (x :: r) = ix m r + 1 := by simp [ix, c]
      rw [e]
      refine ⟨by simp; exact h1, by simpa using h2, fun j z hj hz => ?_⟩
      cases j with
      | zero => simp at hz; subst hz; exact c
      | succ j => exact h3 j z (by omega) (by simpa using hz)
/-! ### the good row -/
def gr : Nat → List Int → List Int → List Int × List Int
  | 0, _, _ => ([], [])
  | n + 1, left, sums =>
    let i := ix (minL sums) sums
    let r := gr n (left.eraseIdx i) (List.zipWith (fun h p => h + (v2 (p - left.getD i 0) : Int)) (sums.eraseIdx i) (left.eraseIdx i))
    (left.getD i 0 :: r.1, sums.getD i 0 :: r.2)
def row (ps : List Int) : List Int × List Int := gr ps.length ps (List.replicate ps.length 0)
def tw (pre : List Int) (p : Int) : Nat := (pre.map fun a => v2 (p - a)).sum
theorem erase_perm : ∀ {l : List Int} {i : Nat} {a : Int}, l[i]? = some a → (a :: l.eraseIdx i).Perm l
  | [], i, a, h => by simp at h
  | x :: r, 0, a, h => by simp at h; subst h; simp
  | x :: r, i + 1, a, h => by
    have ih := erase_perm (l := r) (i := i) (a := a) (by simpa using h)
    show (a :: x :: r.eraseIdx i).Perm (x :: r)
    exact (List.Perm.swap x a _).trans (ih.cons x)
theorem zip_map (f : Int → Int) (g : Int → Int) : ∀ l : List Int, List.zipWith (fun h p => h + g p) (l.map f) l = l.map fun p => f p + g p
  | [] => rfl
  | x :: r => by simp [zip_map f g r]
theorem map_erase {α β : Type} (f : α → β) : ∀ (l : List α) (i : Nat), (l.map f).eraseIdx i = (l.eraseIdx i).map f
  | [], i => by simp
  | x :: r, 0 => rfl
  | x :: r, i + 1 => by simp [map_erase f r i]
theorem gr_spec : ∀ (n : Nat) (left : List Int) (b : Int → Nat), left.length = n →
    (gr n left (left.map fun p => (b p : Int))).1.Perm left ∧ (gr n left (left.map fun p => (b p : Int))).2.length = n ∧
    ∀ k, k < n → ∃ a, (gr n left (left.map fun p => (b p : Int))).1[k]? = some a ∧
      (gr n left (left.map fun p => (b p : Int))).2[k]? = some ((b a + tw ((gr n left (left.map fun p => (b p : Int))).1.take k) a : Nat) : Int) ∧
      ∀ (m : Nat) (p : Int), k ≤ m → (gr n left (left.map fun p => (b p : Int))).1[m]? = some p →
        b a + tw ((gr n left (left.map fun p => (b p : Int))).1.take k) a ≤ b p + tw ((gr n left (left.map fun p => (b p : Int))).1.take k) p
  | 0, left, b, h => by
    have e : left = [] := List.length_eq_zero_iff.mp h
    subst e
    exact ⟨List.Perm.refl _, rfl, fun k hk => absurd hk (by omega)⟩
  | n + 1, left, b, h => by
    have hne : (left.map fun p => (b p : Int)) ≠ [] := by
      intro e
      have := congrArg List.length e
      simp at this
      rw [this] at h
      simp at h
    obtain ⟨h1, h2, _⟩ := ix_spec (min_mem hne)
    have hle : ∀ p ∈ left, minL (left.map fun p => (b p : Int)) ≤ b p := fun p hp => min_le (List.mem_map.mpr ⟨p, hp, rfl⟩)
    generalize hi : ix (minL (left.map fun p => (b p : Int))) (left.map fun p => (b p : Int)) = i at h1 h2
    rw [List.length_map] at h1
    have ha : left[i]? = some left[i] := List.getElem?_eq_getElem h1
    generalize left[i] = a0 at ha
    have hb : (b a0 : Int) = minL (left.map fun p => (b p : Int)) := by
      rw [List.getElem?_map, ha] at h2
      simpa using h2
    have hd : left.getD i 0 = a0 := by rw [List.getD_eq_getElem?_getD, ha]; rfl
    have hs : (left.map fun p => (b p : Int)).getD i 0 = (b a0 : Int) := by rw [List.getD_eq_getElem?_getD, List.getElem?_map, ha]; rfl
    have eqn : gr (n + 1) left (left.map fun p => (b p : Int)) = (a0 :: (gr n (left.eraseIdx i) ((left.eraseIdx i).map fun p => ((b p + v2 (p - a0) : Nat) : Int))).1,
        (b a0 : Int) :: (gr n (left.eraseIdx i) ((left.eraseIdx i).map fun p => ((b p + v2 (p - a0) : Nat) : Int))).2) := by
      show (left.getD (ix (minL (left.map fun p => (b p : Int))) (left.map fun p => (b p : Int))) 0 :: _, _) = _
      rw [hi, hd, hs, map_erase, zip_map]
      rfl
    have hln : (left.eraseIdx i).length = n := by rw [List.length_eraseIdx]; split <;> omega
    obtain ⟨p1, p2, p3⟩ := gr_spec n (left.eraseIdx i) (fun p => b p + v2 (p - a0)) hln
    rw [eqn]
    have hp := erase_perm ha
    refine ⟨(p1.cons a0).trans hp, by simpa using p2, fun k hk => ?_⟩
    cases k with
    | zero =>
      refine ⟨a0, rfl, by simp [tw], fun m p _ hm => ?_⟩
      have hp' : p ∈ left := ((p1.cons a0).trans hp).mem_iff.mp (List.mem_of_getElem? hm)
      have := hle p hp'
      simp only [List.take_zero, tw, List.map_nil, List.sum_nil]
      omega
    | succ k =>
      obtain ⟨a, q1, q2, q3⟩ := p3 k (by omega)
      refine ⟨a, by simpa using q1, ?_, fun m p hm hp => ?_⟩
      · show (gr n _ _).2[k]? = _
        rw [q2]
        simp [tw]
        omega
      · obtain ⟨m', rfl⟩ : ∃ m', m = m' + 1 := ⟨m - 1, by omega⟩
        have := q3 m' p (by omega) (by simpa using hp)
        simp only [List.take_succ_cons, tw, List.map_cons, List.sum_cons] at this ⊢
        omega
theorem row_spec (ps : List Int) : (row ps).1.Perm ps ∧ (row ps).2.length = ps.length ∧ ∀ k, k < ps.length → ∃ a, (row ps).1[k]? = some a ∧ (row ps).2[k]? = some ((tw ((row ps).1.take k) a : Nat) : Int) ∧
    ∀ (m : Nat) (p : Int), k ≤ m → (row ps).1[m]? = some p → tw ((row ps).1.take k) a ≤ tw ((row ps).1.take k) p := by
  have e : List.replicate ps.length (0 : Int) = ps.map fun p => (((fun _ => 0) p : Nat) : Int) := by
    simp [List.map_const']
  have h := gr_spec ps.length ps (fun _ => 0) rfl
  unfold row
  rw [e]
  simpa using h
end AP
end
section
namespace AP
/-! ### small mirrors -/
def prodAt (l : List Int) (x : Int) : Int := l.foldl (fun f a => f * (x - a)) 1
/-- how many items -/
def kc (w : Int) (ns : List Int) (c : Nat) : Nat := ((ns.take c).filter fun n => decide (n < w)).length
theorem prodAt_snoc (l : List Int) (a x : Int) : prodAt (l ++ [a]) x = prodAt l x * (x - a) := by
  unfold prodAt
  rw [List.foldl_append]
  rfl
theorem prodAt_bound {x : Int} {b : Nat} (hx : x.natAbs < 2 ^ b) : ∀ {l : List Int}, (∀ a ∈ l, a.natAbs < 2 ^ b) → ∀ f : Int, ∀ c : Nat, f.natAbs < 2 ^ c → (l.foldl (fun f a => f * (x - a)) f).natAbs < 2 ^ (c + (b + 1) * l.length)
  | [], _, f, c, hf => by simpa using hf
  | a :: r, h, f, c, hf => by
    have h1 : (x - a).natAbs < 2 ^ (b + 1) := by
      have := h a (by simp)
      rw [Nat.pow_succ]
      omega
    have h2 : (f * (x - a)).natAbs < 2 ^ (c + (b + 1)) := by
      rw [Int.natAbs_mul, Nat.pow_add]
      exact Nat.mul_lt_mul'' hf h1
    have := prodAt_bound hx (l := r) (fun z hz => h z (by simp [hz])) (f * (x - a)) (c + (b + 1)) h2
    have e : c + (b + 1) * (a :: r).length = c + (b + 1) + (b + 1) * r.length := by
      rw [List.length_cons, Nat.mul_succ]; omega
    rw [e]
    exact this
/-- each below the next one -/
def rises : List Int → Bool
  | [] => true
  | [_] => true
  | x :: y :: r => decide (x < y) && rises (y :: r)
end AP
end
section
namespace AP
/-! ### mirrors: values, what lacks, hidden words -/
def valAt (order items : List Int) (x : Int) : Int := ((List.range items.length).map fun i => items.getD i 0 * prodAt (order.take i) x).sum
def oddU (n b : Int) : Int := (List.range 7).foldl (fun f _ => f * (2 - n * f) % b) 1
def lack (ns os : List Int) (m : Nat) : Option Nat := (List.range m).find? fun i => decide (os.length ≤ i) || decide (ns.getD i 0 < os.getD i 0)
def hid (w : Nat) (ps part : List Int) (item : Nat) : List Int :=
  ps.map fun x => prodAt ((row part).1.take item) x * 2 ^ (if item < part.length then ((w : Int) - (if (row part).2.getD item 0 < (w : Int) then (row part).2.getD item 0 else (w : Int))).toNat else 0) % 2 ^ w
def dif (ws us : List Int) : Nat := ((List.range ws.length).filter fun i => !decide (ws.getD i 0 = us.getD i 0)).length
/-! ### the tree -/
def evens (ps : List Int) (l : Nat) : List Int := ps.filter fun p => decide (p / 2 ^ l % 2 = 0)
def odds (ps : List Int) (l : Nat) : List Int := ps.filter fun p => decide (p / 2 ^ l % 2 = 1)
def prs (m : Int) : Int := m * (m - 1) / 2
def loN (od : List Int) (m : Nat) : Nat := m + 1 - od.length
def hiN (ev : List Int) (m : Nat) : Nat := min m (ev.length - 1)
def cst (ev od : List Int) (m i : Nat) : Int := ev.getD i 0 + prs i + od.getD (m - i) 0 + prs ((m : Int) - i)
def told (ev od : List Int) (m : Nat) : List Int := (List.range (hiN ev m + 1 - loN od m)).map fun i => cst ev od m (loN od m + i)
def fnd (ts : List Int) : List Nat := (List.range ts.length).filter fun i => decide (ts.getD i 0 = minL ts)
def splt (ev od : List Int) (m : Nat) : Int × Int := (((loN od m + (fnd (told ev od m)).headD 0 : Nat) : Int), ((loN od m + (fnd (told ev od m)).getLastD 0 : Nat) : Int))
def bsC (ev od : List Int) : List Int := (List.range (ev.length + od.length - 1)).map fun m => minL (told ev od m)
def bsS (ev od : List Int) : List (Int × Int) := (List.range (ev.length + od.length - 1)).map (splt ev od)
inductive Tr where
  | leaf (ps : List Int)
  | node (ps cs : List Int) (sp : List (Int × Int)) (e o : Tr)
def Tr.pl : Tr → List Int
  | .leaf ps => ps
  | .node ps _ _ _ _ => ps
def Tr.cs : Tr → List Int
  | .leaf ps => List.replicate (ps.length + 1) 0
  | .node _ cs _ _ _ => cs
def treeF : Nat → List Int → Nat → Tr
  | 0, ps, _ => .leaf ps
  | f + 1, ps, l => if ps.length < 2 then .leaf ps else
    .node ps (bsC (treeF f (evens ps l) (l + 1)).cs (treeF f (odds ps l) (l + 1)).cs) (bsS (treeF f (evens ps l) (l + 1)).cs (treeF f (odds ps l) (l + 1)).cs) (treeF f (evens ps l) (l + 1)) (treeF f (odds ps l) (l + 1))
/-- the first of the shortest -/
def short : List (List Int) → List Int
  | [] => []
  | x :: r => r.foldl (fun m y => if y.length < m.length then y else m) x
def lost : Tr → Nat → Option (List Int)
  | .leaf ps, j => if j > ps.length then some [] else if j = 0 then none else some ps
  | .node ps _ sp e o, j => if j > ps.length then some [] else if j = 0 then none else
    some (short (([lost e (sp.getD j (0, 0)).1.toNat, lost o (j - (sp.getD j (0, 0)).2.toNat)] ++
      (List.range ((sp.getD j (0, 0)).2 - (sp.getD j (0, 0)).1).toNat).map fun i => some ((lost e ((sp.getD j (0, 0)).1.toNat + 1 + i)).getD [] ++ (lost o (j + 1 - ((sp.getD j (0, 0)).1.toNat + 1 + i))).getD [])).filterMap id))
theorem fnd_ne {ts : List Int} (h : ts ≠ []) : fnd ts ≠ [] := by
  obtain ⟨i, hi, e⟩ := List.mem_iff_getElem.mp (min_mem h)
  intro c
  have : i ∈ fnd ts := by
    unfold fnd
    rw [List.mem_filter]
    refine ⟨List.mem_range.mpr hi, ?_⟩
    simp [hi, e]
  rw [c] at this
  cases this
theorem told_ne {ev od : List Int} {m : Nat} (h1 : ev ≠ []) (h2 : od ≠ []) (h : m + 1 < ev.length + od.length) : told ev od m ≠ [] := by
  have a := List.length_pos_iff.mpr h1
  have b := List.length_pos_iff.mpr h2
  intro c
  have := congrArg List.length c
  simp [told, hiN, loN] at this
  omega
end AP
end
section
namespace AP
def Tr.WF : Tr → Prop
  | .leaf _ => True
  | .node ps _ sp e o => e.pl.length + o.pl.length ≤ ps.length ∧ ps.length + 1 ≤ sp.length ∧ (∀ j, 1 ≤ j → j ≤ ps.length → 0 ≤ (sp.getD j (0, 0)).1 ∧ (sp.getD j (0, 0)).1 ≤ (sp.getD j (0, 0)).2 ∧ (sp.getD j (0, 0)).2 ≤ (j : Int)) ∧ e.WF ∧ o.WF
def Tr.dep : Tr → Nat
  | .leaf _ => 0
  | .node _ _ _ e o => max e.dep o.dep + 1
theorem lost_some (t : Tr) {j : Nat} (h : 1 ≤ j) : ∃ xs, lost t j = some xs := by
  cases t with
  | leaf ps => unfold lost; split; exact ⟨_, rfl⟩; rw [if_neg (by omega)]; exact ⟨_, rfl⟩
  | node ps cs sp e o => unfold lost; split; exact ⟨_, rfl⟩; rw [if_neg (by omega)]; exact ⟨_, rfl⟩
theorem short_fold : ∀ (r : List (List Int)) (x : List Int), (r.foldl (fun m y => if y.length < m.length then y else m) x) ∈ x :: r
  | [], x => List.mem_cons_self ..
  | y :: r, x => by
    have := short_fold r (if y.length < x.length then y else x)
    show (r.foldl _ (if y.length < x.length then y else x)) ∈ x :: y :: r
    split at this
    · rename_i c
      rw [if_pos c]
      exact List.mem_cons_of_mem _ this
    · rename_i c
      rw [if_neg c]
      rcases List.mem_cons.mp this with h | h
      · rw [h]; exact List.mem_cons_self ..
      · exact List.mem_cons_of_mem _ (List.mem_cons_of_mem _ h)
theorem short_mem {l : List (List Int)} (h : l ≠ []) : short l ∈ l := by
  cases l with
  | nil => exact absurd rfl h
  | cons x r => exact short_fold r x
/-- the first of the least -/
theorem short_uniq : ∀ (r : List (List Int)) (x l : List Int) (i : Nat), (x :: r)[i]? = some l → (∀ (j : Nat) (l' : List Int), (x :: r)[j]? = some l' → l.length ≤ l'.length ∧ (j < i → l.length < l'.length)) → l = short (x :: r)
  | [], x, l, i, h, hb => by
    cases i with
    | zero =>
      show l = x
      simpa using h.symm
    | succ i => simp at h
  | y :: r, x, l, i, h, hb => by
    show l = r.foldl _ (if y.length < x.length then y else x)
    have h0 := hb 0 x rfl
    have h1 := hb 1 y rfl
    split
    · rename_i c
      cases i with
      | zero =>
        simp at h
        subst h
        omega
      | succ i =>
        refine short_uniq r y l i (by simpa using h) fun j l' e => ?_
        have := hb (j + 1) l' (by simpa using e)
        exact ⟨this.1, fun hj => this.2 (by omega)⟩
    · rename_i c
      match i, h, hb, h0 with
      | 0, h, hb, h0 =>
        refine short_uniq r x l 0 (by simpa using h) fun j l' e => ?_
        cases j with
        | zero => exact ⟨(hb 0 l' (by simpa using e)).1, fun hj => by omega⟩
        | succ j => exact ⟨(hb (j + 2) l' (by simpa using e)).1, fun hj => by omega⟩
      | 1, h, hb, h0 =>
        simp at h
        subst h
        have := h0.2 (by omega)
        omega
      | i + 2, h, hb, h0 =>
        refine short_uniq r x l (i + 1) (by simpa using h) fun j l' e => ?_
        cases j with
        | zero => exact ⟨(hb 0 l' (by simpa using e)).1, fun hj => (hb 0 l' (by simpa using e)).2 (by omega)⟩
        | succ j => exact ⟨(hb (j + 2) l' (by simpa using e)).1, fun hj => (hb (j + 2) l' (by simpa using e)).2 (by omega)⟩
theorem short_is {ls : List (List Int)} {l : List Int} {i : Nat} (h : ls[i]? = some l) (hb : ∀ (j : Nat) (l' : List Int), ls[j]? = some l' → l.length ≤ l'.length ∧ (j < i → l.length < l'.length)) : l = short ls := by
  cases ls with
  | nil => simp at h
  | cons x r => exact short_uniq r x l i h hb
theorem short_le {ls : List (List Int)} {l : List Int} (h : l ∈ ls) : (short ls).length ≤ l.length := by
  have key : ∀ (r : List (List Int)) (x : List Int), ∀ y ∈ x :: r, (r.foldl (fun m y => if y.length < m.length then y else m) x).length ≤ y.length := by
    intro r
    induction r with
    | nil => intro x y hy; rw [List.mem_singleton.mp hy]; exact Nat.le_refl _
    | cons z r ih =>
      intro x y hy
      show (r.foldl _ (if z.length < x.length then z else x)).length ≤ y.length
      have i0 := ih (if z.length < x.length then z else x) _ (List.mem_cons_self ..)
      rcases List.mem_cons.mp hy with e | hy
      · subst e
        refine Nat.le_trans i0 ?_
        split <;> omega
      · rcases List.mem_cons.mp hy with e | hy
        · subst e
          refine Nat.le_trans i0 ?_
          split <;> omega
        · exact ih _ _ (List.mem_cons_of_mem _ hy)
  cases ls with
  | nil => cases h
  | cons x r => exact key r x l h
/-- what the search among the halves finds -/
def cand (sp : List (Int × Int)) (e o : Tr) (j : Nat) : List (Option (List Int)) :=
  [lost e (sp.getD j (0, 0)).1.toNat, lost o (j - (sp.getD j (0, 0)).2.toNat)] ++
      (List.range ((sp.getD j (0, 0)).2 - (sp.getD j (0, 0)).1).toNat).map fun i => some ((lost e ((sp.getD j (0, 0)).1.toNat + 1 + i)).getD [] ++ (lost o (j + 1 - ((sp.getD j (0, 0)).1.toNat + 1 + i))).getD [])
theorem lost_node {ps cs : List Int} {sp : List (Int × Int)} {e o : Tr} {j : Nat} (h0 : 1 ≤ j) (h1 : j ≤ ps.length) : lost (.node ps cs sp e o) j = some (short ((cand sp e o j).filterMap id)) := by
  unfold lost
  rw [if_neg (by omega), if_neg (by omega)]
  rfl
theorem lost_big {t : Tr} {j : Nat} (h : t.pl.length < j) : lost t j = some [] := by
  cases t with
  | leaf ps => unfold lost; exact if_pos h
  | node ps cs sp e o => unfold lost; exact if_pos h
theorem lost_zero (t : Tr) : lost t 0 = none := by
  cases t with
  | leaf ps => unfold lost; rw [if_neg (by omega), if_pos rfl]
  | node ps cs sp e o => unfold lost; rw [if_neg (by omega), if_pos rfl]
theorem lost_len : ∀ {t : Tr} {j : Nat} {xs : List Int}, t.WF → lost t j = some xs → xs.length ≤ t.pl.length
  | .leaf ps, j, xs, w, h => by
    unfold lost at h
    split at h
    · cases h; simp
    · split at h
      · cases h
      · cases h; exact Nat.le_refl _
  | .node ps cs sp e o, j, xs, w, h => by
    obtain ⟨w1, w2, w3, we, wo⟩ := w
    by_cases h1 : ps.length < j
    · rw [lost_big (t := .node ps cs sp e o) h1] at h
      cases h
      simp
    · by_cases h0 : j = 0
      · rw [h0, lost_zero] at h
        cases h
      · rw [lost_node (by omega) (by omega)] at h
        cases h
        by_cases hn : (cand sp e o j).filterMap id = []
        · rw [hn]
          simp [short]
        · have hm := short_mem hn
          generalize short ((cand sp e o j).filterMap id) = xs at hm
          rw [List.mem_filterMap] at hm
          obtain ⟨c, hc, e1⟩ := hm
          simp only [id] at e1
          subst e1
          show xs.length ≤ ps.length
          rcases List.mem_append.mp hc with hc | hc
          · rcases List.mem_cons.mp hc with hc | hc
            · have := lost_len we hc.symm
              omega
            · have := lost_len wo (List.mem_singleton.mp hc).symm
              omega
          · obtain ⟨i, _, e2⟩ := List.mem_map.mp hc
            simp only [Option.some.injEq] at e2
            rw [← e2, List.length_append]
            obtain ⟨x1, h1⟩ := lost_some e (j := (sp.getD j (0, 0)).1.toNat + 1 + i) (by omega)
            have b1 := lost_len we h1
            rw [h1]
            cases h2 : lost o (j + 1 - ((sp.getD j (0, 0)).1.toNat + 1 + i)) with
            | none => simp; omega
            | some x2 =>
              have b2 := lost_len wo h2
              simp; omega
theorem cand_ne {sp : List (Int × Int)} {e o : Tr} {j : Nat} (h0 : 1 ≤ j) (h1 : 0 ≤ (sp.getD j (0, 0)).1) (h2 : (sp.getD j (0, 0)).1 ≤ (sp.getD j (0, 0)).2) (h3 : (sp.getD j (0, 0)).2 ≤ (j : Int)) : (cand sp e o j).filterMap id ≠ [] := by
  have key : ∀ x, some x ∈ cand sp e o j → (cand sp e o j).filterMap id ≠ [] := fun x hx z => by
    have : x ∈ (cand sp e o j).filterMap id := List.mem_filterMap.mpr ⟨some x, hx, rfl⟩
    rw [z] at this
    cases this
  by_cases c1 : 1 ≤ (sp.getD j (0, 0)).1.toNat
  · obtain ⟨x, hx⟩ := lost_some e c1
    exact key x (List.mem_append_left _ (hx ▸ List.mem_cons_self ..))
  · by_cases c2 : 1 ≤ j - (sp.getD j (0, 0)).2.toNat
    · obtain ⟨x, hx⟩ := lost_some o c2
      exact key x (List.mem_append_left _ (hx ▸ List.mem_cons_of_mem _ (List.mem_cons_self ..)))
    · exact key _ (List.mem_append_right _ (List.mem_map.mpr ⟨0, List.mem_range.mpr (by omega), rfl⟩))
end AP
end
section
namespace AP
def tree (ps : List Int) : Tr := treeF 64 ps 0
def lostL (ps : List Int) (j : Nat) : List Int := (lost (tree ps) j).getD []
theorem ev_od (l : Nat) : ∀ ps : List Int, (evens ps l).length + (odds ps l).length = ps.length
  | [] => rfl
  | p :: ps => by
    have h := ev_od l ps
    unfold evens odds at h ⊢
    rw [List.filter_cons, List.filter_cons]
    rcases Int.emod_two_eq (p / 2 ^ l) with c | c
    · simp only [c]
      simp
      omega
    · simp only [c]
      simp
      omega
theorem treeF_pl : ∀ (f : Nat) (ps : List Int) (l : Nat), (treeF f ps l).pl = ps
  | 0, ps, l => rfl
  | f + 1, ps, l => by
    unfold treeF
    split <;> rfl
theorem treeF_cs : ∀ (f : Nat) (ps : List Int) (l : Nat), (treeF f ps l).cs.length = ps.length + 1
  | 0, ps, l => by
    show (List.replicate (ps.length + 1) (0 : Int)).length = _
    simp
  | f + 1, ps, l => by
    unfold treeF
    split
    · show (List.replicate (ps.length + 1) (0 : Int)).length = _
      simp
    · have h1 := treeF_cs f (evens ps l) (l + 1)
      have h2 := treeF_cs f (odds ps l) (l + 1)
      have h := ev_od l ps
      show (bsC _ _).length = _
      unfold bsC
      simp
      omega
theorem fnd_asc (ts : List Int) : (fnd ts).Pairwise (· < ·) := by
  unfold fnd
  exact List.Pairwise.filter _ List.pairwise_lt_range
theorem fnd_lt {ts : List Int} {i : Nat} (h : i ∈ fnd ts) : i < ts.length := by
  unfold fnd at h
  exact List.mem_range.mp (List.mem_filter.mp h).1
theorem head_mem {l : List Nat} (h : l ≠ []) : l.headD 0 ∈ l := by
  cases l with
  | nil => exact absurd rfl h
  | cons a r => exact List.mem_cons_self ..
theorem last_mem {l : List Nat} (h : l ≠ []) : l.getLastD 0 ∈ l := by
  rw [List.getLastD_eq_getLast?, List.getLast?_eq_some_getLast h]
  exact List.getLast_mem h
theorem head_last : ∀ {l : List Nat}, l.Pairwise (· < ·) → l ≠ [] → l.headD 0 ≤ l.getLastD 0
  | [], _, h => absurd rfl h
  | [a], _, _ => Nat.le_refl _
  | a :: b :: r, h, _ => by
    have h1 := head_last (l := b :: r) (List.pairwise_cons.mp h).2 (by simp)
    have h2 := (List.pairwise_cons.mp h).1 b (List.mem_cons_self ..)
    show a ≤ (a :: b :: r).getLastD 0
    have e : (a :: b :: r).getLastD 0 = (b :: r).getLastD 0 := by simp [List.getLastD]
    rw [e]
    have h3 : b ≤ (b :: r).getLastD 0 := h1
    omega
theorem splt_ok {ev od : List Int} {m : Nat} (h1 : ev ≠ []) (h2 : od ≠ []) (h : m + 1 < ev.length + od.length) : 0 ≤ (splt ev od m).1 ∧ (splt ev od m).1 ≤ (splt ev od m).2 ∧ (splt ev od m).2 ≤ (m : Int) := by
  have tn := told_ne h1 h2 h
  have fn := fnd_ne tn
  have a := head_last (fnd_asc _) fn
  have b := fnd_lt (last_mem fn)
  have p1 := List.length_pos_iff.mpr h1
  have p2 := List.length_pos_iff.mpr h2
  have tl : (told ev od m).length = hiN ev m + 1 - loN od m := by unfold told; simp
  have hh : hiN ev m ≤ m := by unfold hiN; omega
  rw [tl] at b
  unfold splt
  simp only
  omega
theorem treeF_WF : ∀ (f : Nat) (ps : List Int) (l : Nat), (treeF f ps l).WF
  | 0, ps, l => trivial
  | f + 1, ps, l => by
    unfold treeF
    split
    · trivial
    · have h1 := treeF_cs f (evens ps l) (l + 1)
      have h2 := treeF_cs f (odds ps l) (l + 1)
      have h := ev_od l ps
      have n1 : (treeF f (evens ps l) (l + 1)).cs ≠ [] := fun z => by rw [z] at h1; simp at h1
      have n2 : (treeF f (odds ps l) (l + 1)).cs ≠ [] := fun z => by rw [z] at h2; simp at h2
      refine ⟨by rw [treeF_pl, treeF_pl]; omega, ?_, fun j j1 j2 => ?_, treeF_WF f _ _, treeF_WF f _ _⟩
      · unfold bsS
        simp
        omega
      · have e : (bsS (treeF f (evens ps l) (l + 1)).cs (treeF f (odds ps l) (l + 1)).cs).getD j (0, 0) = splt (treeF f (evens ps l) (l + 1)).cs (treeF f (odds ps l) (l + 1)).cs j := by
          unfold bsS
          rw [List.getD_eq_getElem?_getD, List.getElem?_map, List.getElem?_range (by omega)]
          rfl
        rw [e]
        exact splt_ok n1 n2 (by omega)
theorem treeF_dep : ∀ (f : Nat) (ps : List Int) (l : Nat), (treeF f ps l).dep ≤ f
  | 0, ps, l => Nat.le_refl _
  | f + 1, ps, l => by
    unfold treeF
    split
    · exact Nat.zero_le _
    · have h1 := treeF_dep f (evens ps l) (l + 1)
      have h2 := treeF_dep f (odds ps l) (l + 1)
      show max _ _ + 1 ≤ f + 1
      omega
/-- the halving ends -/
def Halts : Nat → List Int → Nat → Prop
  | 0, ps, _ => ps.length < 2
  | f + 1, ps, l => ps.length < 2 ∨ (Halts f (evens ps l) (l + 1) ∧ Halts f (odds ps l) (l + 1))
/-- the places agree below -/
def Alike (ps : List Int) (l : Nat) : Prop := ∀ a ∈ ps, ∀ b ∈ ps, (2 : Int) ^ l ∣ a - b
theorem dvd_half {a b : Int} {l : Nat} (h : (2 : Int) ^ l ∣ a - b) (e : a / 2 ^ l % 2 = b / 2 ^ l % 2) : (2 : Int) ^ (l + 1) ∣ a - b := by
  obtain ⟨c, hc⟩ := h
  have hp := pow_pos l
  have ea : a = b + 2 ^ l * c := by omega
  have e1 : a / 2 ^ l = b / 2 ^ l + c := by
    rw [ea, Int.add_mul_ediv_left _ _ (by omega)]
  obtain ⟨d, hd⟩ : ∃ d, c = 2 * d := ⟨c / 2, by omega⟩
  refine ⟨d, ?_⟩
  rw [hc, hd, Int.pow_succ]
  simp only [Int.mul_assoc]
theorem ev_alike {ps : List Int} {l : Nat} (h : Alike ps l) : Alike (evens ps l) (l + 1) := fun a ha b hb => by
  unfold evens at ha hb
  rw [List.mem_filter] at ha hb
  exact dvd_half (h a ha.1 b hb.1) ((of_decide_eq_true ha.2).trans (of_decide_eq_true hb.2).symm)
theorem od_alike {ps : List Int} {l : Nat} (h : Alike ps l) : Alike (odds ps l) (l + 1) := fun a ha b hb => by
  unfold odds at ha hb
  rw [List.mem_filter] at ha hb
  exact dvd_half (h a ha.1 b hb.1) ((of_decide_eq_true ha.2).trans (of_decide_eq_true hb.2).symm)
theorem halts : ∀ (f : Nat) (ps : List Int) (l : Nat), ps.Nodup → Alike ps l → (∀ p ∈ ps, 0 ≤ p ∧ p < 2 ^ (l + f)) → Halts f ps l
  | 0, ps, l, hn, ha, hb => by
    show ps.length < 2
    match ps, hn, ha, hb with
    | [], _, _, _ => decide
    | [a], _, _, _ => exact Nat.lt_succ_self 1
    | a :: b :: r, hn, ha, hb =>
      exfalso
      have h1 := hb a (List.mem_cons_self ..)
      have h2 := hb b (List.mem_cons_of_mem _ (List.mem_cons_self ..))
      obtain ⟨c, hc⟩ := ha a (List.mem_cons_self ..) b (List.mem_cons_of_mem _ (List.mem_cons_self ..))
      have hp := pow_pos l
      simp only [Nat.add_zero] at h1 h2
      have hne : a ≠ b := by
        intro e
        simp [e] at hn
      have c0 : c = 0 := by
        rcases Int.lt_trichotomy c 0 with h | h | h
        · have : 2 ^ l * c ≤ 2 ^ l * (-1) := Int.mul_le_mul_of_nonneg_left (by omega) (by omega)
          omega
        · exact h
        · have : 2 ^ l * 1 ≤ 2 ^ l * c := Int.mul_le_mul_of_nonneg_left (by omega) (by omega)
          omega
      rw [c0] at hc
      simp at hc
      omega
  | f + 1, ps, l, hn, ha, hb => by
    have e : l + (f + 1) = l + 1 + f := by omega
    rw [e] at hb
    refine .inr ⟨halts f _ _ (hn.filter _) (ev_alike ha) fun p hp => hb p (List.mem_filter.mp hp).1, halts f _ _ (hn.filter _) (od_alike ha) fun p hp => hb p (List.mem_filter.mp hp).1⟩
end AP
end
section
namespace AP
/-- the next choice of places (as the machine steps) -/
def nxt (n : Nat) (l : List Nat) : Option (List Nat) := ((List.range l.length).reverse.find? fun i => l.getD i 0 != i + n - l.length).map fun i => l.take i ++ (List.range (l.length - i)).map (l.getD i 0 + 1 + ·)
def combF : Nat → Nat → List Nat → List (List Nat)
  | 0, _, c => [c]
  | f + 1, n, c => c :: match nxt n c with
    | none => []
    | some d => combF f n d
def combs (n k : Nat) : List (List Nat) := combF 100 n (List.range k)
def blocks (n k : Nat) : List (List Nat) := (List.range ((n - k) / k + 1)).map fun i => (List.range k).map fun j => i * k + j
def neigh (ps : List Int) : Bool := decide (ps.getD (ps.length - 1) 0 - ps.getD 0 0 = (ps.length : Int) - 1)
def parts (ps : List Int) (k m : Nat) : List (List Nat) := if neigh ps then blocks ps.length k else combs ps.length (ps.length - m)
/-- the word told of a place -/
def tl (ps ws : List Int) (x : Int) : Int := (((ps.zip ws).find? fun q => decide (q.1 = x)).map (·.2)).getD 0
def rdS (w c : Nat) (od nm : List Int) (f : Int → Int) (i : Nat) (it : List Int) : Option (List Int) :=
  if i < c ∧ nm.getD i 0 < (w : Int) then
    if (f (od.getD i 0) - valAt od it (od.getD i 0)) % 2 ^ w % 2 ^ (nm.getD i 0).toNat = 0 then
      some (it ++ [(f (od.getD i 0) - valAt od it (od.getD i 0)) % 2 ^ w / 2 ^ (nm.getD i 0).toNat * oddU (prodAt (od.take i) (od.getD i 0) / 2 ^ (nm.getD i 0).toNat) (2 ^ w / 2 ^ (nm.getD i 0).toNat) % (2 ^ w / 2 ^ (nm.getD i 0).toNat)])
    else none
  else if (f (od.getD i 0) - valAt od it (od.getD i 0)) % 2 ^ w = 0 then some it else none
def rd (w c : Nat) (od nm : List Int) (f : Int → Int) : Nat → Option (List Int)
  | 0 => some []
  | i + 1 => (rd w c od nm f i).bind (rdS w c od nm f i)
def iread (w : Nat) (ps : List Int) (c : Nat) (ws : List Int) : Option (List Int) := rd w c (row ps).1 (row ps).2 (tl ps ws) ps.length
def led (w : Nat) (pt : List Int) (c : Nat) (ws tg : List Int) : Option (List Int) := (iread w pt c ws).map fun it => tg.map fun p => valAt (row pt).1 it p % 2 ^ w
def at_ (xs : List Int) (k : List Nat) : List Int := k.map fun i => xs.getD i 0
def try1 (w : Nat) (ps : List Int) (c : Nat) (ws tg : List Int) (m : Int) (k : List Nat) : Option (List Int) :=
  (led w (at_ ps k) c (at_ ws k) (ps ++ tg)).bind fun us => if (dif (us.take ps.length) ws : Int) ≤ m then some (us.drop ps.length) else none
def near (w : Nat) (ps : List Int) (c : Nat) (ws tg : List Int) (m : Nat) : Option (List Int) := (parts ps (kc w (row ps).2 c) m).findSome? (try1 w ps c ws tg m)
/-- how many wrong words are mended -/
def mnd (w : Nat) (ps : List Int) (c : Nat) : Nat := if kc w (row ps).2 c = 0 then ps.length else ((lostL ps (kc w (row ps).2 c)).length - 1) / 2
def mendd (w : Nat) (ps : List Int) (c : Nat) (ws : List Int) : Option (List Int) := near w ps c ws ps (mnd w ps c)
def part (ps : List Int) (j : Nat) : List Int := ps.filter fun p => !(lostL ps j).contains p
def lightU (w : Nat) (ps : List Int) (j item : Nat) : List Int := hid w ps (part ps j) item
def lightW (w : Nat) (ps : List Int) (j item : Nat) : List Int := (lightU w ps j item).map fun x => x * 2 ^ (w - 1 - (minL (((lightU w ps j item).filter fun x => !decide (x = 0)).map fun x => (v2 x : Int))).toNat) % 2 ^ w
/-- the choices: one behind another -/
def chk (n k : Nat) : Bool := ((combs n k)[0]? == some (List.range k)) && (List.range (combs n k).length).all (fun i => nxt n ((combs n k).getD i []) == (combs n k)[i + 1]?) && (combs n k).all fun c => c.length == k && c.all fun j => decide (j < n)
theorem chk_all : ∀ n, n ≤ 8 → ∀ k, k ≤ n → chk n k = true := by
  have h : (List.range 9).all (fun n => (List.range (n + 1)).all fun k => chk n k) = true := by decide +kernel
  intro n hn k hk
  exact List.all_eq_true.mp (List.all_eq_true.mp h n (List.mem_range.mpr (by omega))) k (List.mem_range.mpr (by omega))
end AP
end
section
namespace AP
theorem rd_none {w c : Nat} {od nm : List Int} {f : Int → Int} {i m : Nat} (h : rd w c od nm f i = none) (hm : i ≤ m) : rd w c od nm f m = none := by
  induction m with
  | zero =>
    have : i = 0 := by omega
    subst this
    exact h
  | succ m ih =>
    by_cases e : i = m + 1
    · subst e
      exact h
    · unfold rd
      rw [ih (by omega)]
      rfl
theorem rd_bound {w c : Nat} {od nm : List Int} {f : Int → Int} (hw : w ≤ 64) : ∀ {i : Nat} {it : List Int}, rd w c od nm f i = some it → it.length ≤ i ∧ ∀ z ∈ it, z.natAbs < 2 ^ 65
  | 0, it, h => by
    unfold rd at h
    cases h
    exact ⟨Nat.le_refl _, fun z hz => by cases hz⟩
  | i + 1, it, h => by
    unfold rd at h
    cases e : rd w c od nm f i with
    | none => rw [e] at h; cases h
    | some it0 =>
      rw [e] at h
      have ih := rd_bound hw e
      have h : rdS w c od nm f i it0 = some it := h
      unfold rdS at h
      split at h
      · rename_i hc
        split at h
        · cases h
          refine ⟨by simp; omega, fun z hz => ?_⟩
          rcases List.mem_append.mp hz with hz | hz
          · exact ih.2 z hz
          · rw [List.mem_singleton.mp hz]
            have hk : (nm.getD i 0).toNat ≤ w := by omega
            have e2 : (2 : Int) ^ w / 2 ^ (nm.getD i 0).toNat = 2 ^ (w - (nm.getD i 0).toNat) := by
              have : (2 : Int) ^ w = 2 ^ (nm.getD i 0).toNat * 2 ^ (w - (nm.getD i 0).toNat) := by rw [← Int.pow_add]; congr 1; omega
              rw [this, Int.mul_ediv_cancel_left _ (pow_ne _)]
            rw [e2]
            generalize (f (od.getD i 0) - valAt od it0 (od.getD i 0)) % 2 ^ w / 2 ^ (nm.getD i 0).toNat * oddU (prodAt (od.take i) (od.getD i 0) / 2 ^ (nm.getD i 0).toNat) (2 ^ (w - (nm.getD i 0).toNat)) = q
            have p := pow_pos (w - (nm.getD i 0).toNat)
            have h1 := Int.emod_nonneg q (pow_ne (w - (nm.getD i 0).toNat))
            have h2 := Int.emod_lt_of_pos q p
            have h3 : (2 : Int) ^ (w - (nm.getD i 0).toNat) ≤ 2 ^ 64 := Int.le_of_dvd (pow_pos 64) (pow_dvd (by omega))
            have h4 : (2 : Int) ^ 64 = 18446744073709551616 := by decide
            have h5 : (2 : Nat) ^ 65 = 36893488147419103232 := by decide
            omega
        · cases h
      · split at h
        · cases h
          exact ⟨by omega, ih.2⟩
        · cases h
theorem v2_lt {x : Int} {n : Nat} (h0 : x ≠ 0) (h1 : 0 ≤ x) (h2 : x < 2 ^ n) : v2 x < n := by
  have d := Int.le_of_dvd (by omega) (v2_dvd h0)
  by_cases h : v2 x < n
  · exact h
  · have := Int.le_of_dvd (pow_pos _) (pow_dvd (show n ≤ v2 x by omega))
    omega
end AP
end
section
namespace AP
def chk2 (n k : Nat) : Bool := (combs n k).all fun c => c.length == k && (c.all fun j => decide (j < n)) && ((List.range c.length).all fun i => (List.range c.length).all fun j => i == j || c.getD i 0 != c.getD j 0)
theorem chk2_all : ∀ n, n ≤ 8 → ∀ k, k ≤ n → chk2 n k = true := by
  have h : (List.range 9).all (fun n => (List.range (n + 1)).all fun k => chk2 n k) = true := by decide +kernel
  intro n hn k hk
  exact List.all_eq_true.mp (List.all_eq_true.mp h n (List.mem_range.mpr (by omega))) k (List.mem_range.mpr (by omega))
theorem combs_ok {n k : Nat} (hn : n ≤ 8) (hk : k ≤ n) {c : List Nat} (hc : c ∈ combs n k) : c.length = k ∧ (∀ j ∈ c, j < n) ∧ c.Nodup := by
  have h := List.all_eq_true.mp (chk2_all n hn k hk) c hc
  simp only [Bool.and_eq_true] at h
  obtain ⟨⟨h1, h2⟩, h3⟩ := h
  refine ⟨by simpa using h1, fun j hj => of_decide_eq_true (List.all_eq_true.mp h2 j hj), ?_⟩
  rw [List.nodup_iff_pairwise_ne, List.pairwise_iff_getElem]
  intro i j hi hj hij e
  have := List.all_eq_true.mp (List.all_eq_true.mp h3 i (List.mem_range.mpr hi)) j (List.mem_range.mpr hj)
  simp [hi, hj, e] at this
  omega
theorem blocks_ok {n k : Nat} (h1 : 1 ≤ k) (hk : k ≤ n) {c : List Nat} (hc : c ∈ blocks n k) : c.length = k ∧ (∀ j ∈ c, j < n) ∧ c.Nodup := by
  unfold blocks at hc
  obtain ⟨i, hi, rfl⟩ := List.mem_map.mp hc
  have hi := List.mem_range.mp hi
  have hik : i * k ≤ n - k := Nat.le_trans (Nat.mul_le_mul_right k (by omega : i ≤ (n - k) / k)) (Nat.div_mul_le_self _ _)
  refine ⟨by simp, fun j hj => ?_, ?_⟩
  · obtain ⟨t, ht, rfl⟩ := List.mem_map.mp hj
    have := List.mem_range.mp ht
    omega
  · exact List.Pairwise.map _ (fun a b h e => h (by omega)) List.nodup_range
theorem parts_ok {ps : List Int} {k m : Nat} (hn : ps.length ≤ 8) (h1 : 1 ≤ k) (hk : k ≤ ps.length) {c : List Nat} (hc : c ∈ parts ps k m) : (∀ j ∈ c, j < ps.length) ∧ c.Nodup := by
  unfold parts at hc
  split at hc
  · exact (blocks_ok h1 hk hc).2
  · exact (combs_ok hn (Nat.sub_le _ _) hc).2
theorem at_nodup {ps : List Int} {c : List Nat} (hn : ps.Nodup) (hl : ∀ j ∈ c, j < ps.length) (hc : c.Nodup) : (at_ ps c).Nodup := by
  unfold at_
  induction c with
  | nil => exact List.nodup_nil
  | cons a r ih =>
    rw [List.nodup_cons] at hc
    rw [List.map_cons, List.nodup_cons]
    refine ⟨fun h => ?_, ih (fun j hj => hl j (List.mem_cons_of_mem _ hj)) hc.2⟩
    obtain ⟨b, hb, e⟩ := List.mem_map.mp h
    have ha := hl a (List.mem_cons_self ..)
    have hb' := hl b (List.mem_cons_of_mem _ hb)
    rw [List.getD_eq_getElem?_getD, List.getD_eq_getElem?_getD, List.getElem?_eq_getElem ha, List.getElem?_eq_getElem hb'] at e
    simp only [Option.getD_some] at e
    have := (List.nodup_iff_pairwise_ne.mp hn)
    rw [List.pairwise_iff_getElem] at this
    rcases Nat.lt_trichotomy a b with h3 | h3 | h3
    · exact this a b ha hb' h3 e.symm
    · subst h3; exact hc.1 hb
    · exact this b a hb' ha h3 e
theorem at_mem {ps : List Int} {c : List Nat} (hl : ∀ j ∈ c, j < ps.length) {z : Int} (h : z ∈ at_ ps c) : z ∈ ps := by
  unfold at_ at h
  obtain ⟨b, hb, e⟩ := List.mem_map.mp h
  have := hl b hb
  rw [List.getD_eq_getElem?_getD, List.getElem?_eq_getElem this] at e
  rw [← e]
  exact List.getElem_mem this
theorem fs_at {α β : Type} {f : α → Option β} {L : List α} {i : Nat} {x : α} {r : β} (h : L[i]? = some x) (h0 : (L.take i).findSome? f = none) (hf : f x = some r) : L.findSome? f = some r := by
  obtain ⟨hi, e⟩ := List.getElem?_eq_some_iff.mp h
  have : L = L.take i ++ (x :: L.drop (i + 1)) := by
    rw [← e, ← List.drop_eq_getElem_cons hi, List.take_append_drop]
  rw [this, List.findSome?_append, h0]
  simp [hf]
theorem fs_step {α β : Type} {f : α → Option β} {L : List α} {i : Nat} {x : α} (h : L[i]? = some x) (h0 : (L.take i).findSome? f = none) (hf : f x = none) : (L.take (i + 1)).findSome? f = none := by
  rw [List.take_succ, h, List.findSome?_append, h0]
  simp [hf]
def wrg (ps ws us : List Int) : List Int := ((List.range ps.length).filter fun i => !decide (ws.getD i 0 = us.getD i 0)).map fun i => ps.getD i 0
end AP
end
section
namespace AP
structure Facts (n : Nat) (ps : List Int) (c : Nat) (ln : List Int) : Prop where
  k1 : 1 ≤ kc n (row ps).2 c
  ne : lostL ps (kc n (row ps).2 c) ≠ []
  fix : ∀ us : List Int, us.length = ps.length → (∀ z ∈ us, 0 ≤ z ∧ z < 2 ^ n) → dif us ln ≤ mnd n ps c → mendd n ps c us = some ln
  far : ∀ us vs : List Int, us.length = ps.length → (∀ z ∈ us, 0 ≤ z ∧ z < 2 ^ n) → mendd n ps c us = some vs → vs.length = ps.length ∧ dif vs us ≤ mnd n ps c ∧ (vs ≠ ln → (lostL ps (kc n (row ps).2 c)).length ≤ dif vs ln)
  light : ∃ item, lack (row ps).2 (row (part ps (kc n (row ps).2 c))).2 (kc n (row ps).2 c) = some item ∧ (∃ x ∈ lightU n ps (kc n (row ps).2 c) item, x ≠ 0) ∧ (∀ x ∈ lightU n ps (kc n (row ps).2 c) item, 0 ≤ x ∧ x < 2 ^ n) ∧
    ((lightW n ps (kc n (row ps).2 c) item).filter fun x => !decide (x = 0)).length = (lostL ps (kc n (row ps).2 c)).length
/-! ### counting unlike words -/
theorem cnt_le {N : Nat} {p q : Nat → Bool} (h : ∀ i, i < N → p i = true → q i = true) : ((List.range N).filter p).length ≤ ((List.range N).filter q).length := by
  rw [← List.countP_eq_length_filter, ← List.countP_eq_length_filter]
  exact List.countP_mono_left fun i hi => h i (List.mem_range.mp hi)
theorem cnt_or (N : Nat) (p q : Nat → Bool) : ((List.range N).filter fun i => p i || q i).length ≤ ((List.range N).filter p).length + ((List.range N).filter q).length := by
  induction N with
  | zero => simp
  | succ N ih =>
    rw [List.range_succ, List.filter_append, List.filter_append, List.filter_append, List.length_append, List.length_append, List.length_append]
    cases hp : p N <;> cases hq : q N <;> simp [hp, hq] at ih ⊢ <;> omega
theorem dif_tri {a b c : List Int} (h1 : a.length = b.length) : dif a c ≤ dif a b + dif b c := by
  unfold dif
  rw [← h1]
  refine Nat.le_trans (cnt_le fun i hi h => ?_) (cnt_or _ _ _)
  simp only [Bool.not_eq_eq_eq_not, Bool.not_true, decide_eq_false_iff_not, Bool.or_eq_true] at h ⊢
  by_cases e : a.getD i 0 = b.getD i 0
  · right
    rw [← e]
    exact h
  · exact .inl e
theorem dif_comm {a b : List Int} (h1 : a.length = b.length) : dif a b = dif b a := by
  unfold dif
  rw [h1]
  congr 1
  apply List.filter_congr
  intro i _
  congr 1
  exact decide_eq_decide.mpr ⟨fun x => x.symm, fun x => x.symm⟩
theorem dif_self (a : List Int) : dif a a = 0 := by
  unfold dif
  rw [List.length_eq_zero_iff, List.filter_eq_nil_iff]
  intro i _
  simp
/-- as many as stand in a part of the range -/
theorem cnt_mem {N : Nat} {l : List Nat} (hs : l.Nodup) (hl : ∀ i ∈ l, i < N) : ((List.range N).filter fun i => l.contains i).length = l.length := by
  apply List.Perm.length_eq
  refine (List.perm_ext_iff_of_nodup (List.nodup_range.filter _) hs).mpr fun i => ?_
  rw [List.mem_filter, List.mem_range]
  constructor
  · intro h
    simpa using h.2
  · intro h
    exact ⟨hl i h, by simpa using h⟩
/-! ### half way to another -/
def nearW (n : Nat) (ln lt : List Int) : List Int := (List.range ln.length).map fun i => (ln.getD i 0 + lt.getD i 0) % 2 ^ n
def unl (ln nr : List Int) : List Nat := (List.range ln.length).filter fun i => !decide (ln.getD i 0 = nr.getD i 0)
def half (ln nr : List Int) (h : Nat) : List Int := (List.range ln.length).map fun i => if ((unl ln nr).take h).contains i then nr.getD i 0 else ln.getD i 0
theorem getD_map_range {N : Nat} {f : Nat → Int} {i : Nat} (h : i < N) : ((List.range N).map f).getD i 0 = f i := by
  rw [List.getD_eq_getElem?_getD, List.getElem?_map, List.getElem?_range h]
  rfl
theorem unl_len {n : Nat} {ln lt : List Int} (hl : lt.length = ln.length) (h1 : ∀ z ∈ ln, 0 ≤ z ∧ z < 2 ^ n) (h2 : ∀ z ∈ lt, 0 ≤ z ∧ z < 2 ^ n) : (unl ln (nearW n ln lt)).length = (lt.filter fun x => !decide (x = 0)).length := by
  have key : ∀ i, i < ln.length → (decide (ln.getD i 0 = (nearW n ln lt).getD i 0)) = decide (lt.getD i 0 = 0) := by
    intro i hi
    unfold nearW
    rw [getD_map_range hi]
    have m1 : ln.getD i 0 ∈ ln := by rw [List.getD_eq_getElem?_getD, List.getElem?_eq_getElem hi]; exact List.getElem_mem hi
    have hi2 : i < lt.length := by omega
    have m2 : lt.getD i 0 ∈ lt := by rw [List.getD_eq_getElem?_getD, List.getElem?_eq_getElem hi2]; exact List.getElem_mem hi2
    obtain ⟨a1, a2⟩ := h1 _ m1
    obtain ⟨b1, b2⟩ := h2 _ m2
    generalize ln.getD i 0 = a at *
    generalize lt.getD i 0 = b at *
    apply decide_eq_decide.mpr
    have hp := pow_pos n
    generalize (2 : Int) ^ n = m at *
    constructor
    · intro e
      by_cases hb : a + b < m
      · rw [Int.emod_eq_of_lt (by omega) hb] at e
        omega
      · have : (a + b) % m = a + b - m := by
          rw [← Int.sub_emod_right, Int.emod_eq_of_lt (by omega) (by omega)]
        omega
    · intro e
      rw [e, Int.add_zero, Int.emod_eq_of_lt a1 a2]
  unfold unl
  have e1 : (List.range ln.length).filter (fun i => !decide (ln.getD i 0 = (nearW n ln lt).getD i 0)) = (List.range ln.length).filter fun i => !decide (lt.getD i 0 = 0) := by
    apply List.filter_congr
    intro i hi
    rw [key i (List.mem_range.mp hi)]
  rw [e1, ← hl]
  have e2 : lt = (List.range lt.length).map fun i => lt.getD i 0 := by
    apply List.ext_getElem
    · simp
    · intro i h1 h2
      simp [h1]
  have e3 : (lt.filter fun x => !decide (x = 0)) = ((List.range lt.length).map fun i => lt.getD i 0).filter fun x => !decide (x = 0) := by rw [← e2]
  rw [e3, List.filter_map, List.length_map]
  rfl
theorem unl_nd (ln nr : List Int) : (unl ln nr).Nodup := List.nodup_range.filter _
theorem half_dif {ln nr : List Int} {h : Nat} (hh : h ≤ (unl ln nr).length) : dif (half ln nr h) ln = h := by
  have hm : ∀ i ∈ (unl ln nr).take h, i < ln.length ∧ ¬ ln.getD i 0 = nr.getD i 0 := fun i hi => by
    have := List.mem_of_mem_take hi
    unfold unl at this
    rw [List.mem_filter, List.mem_range] at this
    exact ⟨this.1, by simpa using this.2⟩
  have hl : (half ln nr h).length = ln.length := by unfold half; simp
  unfold dif
  rw [hl]
  have : (List.range ln.length).filter (fun i => !decide ((half ln nr h).getD i 0 = ln.getD i 0)) = (List.range ln.length).filter fun i => ((unl ln nr).take h).contains i := by
    apply List.filter_congr
    intro i hi
    unfold half
    rw [getD_map_range (List.mem_range.mp hi)]
    split
    · rename_i c
      have := (hm i (by simpa using c)).2
      have h2 : ¬ nr.getD i 0 = ln.getD i 0 := fun e => this e.symm
      rw [c, decide_eq_false h2]
      rfl
    · rename_i c
      rw [decide_eq_true rfl, Bool.not_true]
      exact (Bool.eq_false_iff.mpr c).symm
  rw [this, cnt_mem ((unl_nd ln nr).sublist (List.take_sublist ..)) fun i hi => (hm i hi).1]
  simp
  omega
theorem half_law {n : Nat} {ps ln : List Int} {c item : Nat} (F : Facts n ps c ln) (hl : ln.length = ps.length) (hr : ∀ z ∈ ln, 0 ≤ z ∧ z < 2 ^ n) {lt : List Int} (ht : lt.length = ln.length) (hb : ∀ z ∈ lt, 0 ≤ z ∧ z < 2 ^ n)
    (hD : (lt.filter fun x => !decide (x = 0)).length = (lostL ps (kc n (row ps).2 c)).length) :
    mendd n ps c (half ln (nearW n ln lt) ((lostL ps (kc n (row ps).2 c)).length / 2)) = if (lostL ps (kc n (row ps).2 c)).length % 2 = 1 then some ln else none := by
  have hu := unl_len ht hr hb
  rw [hD] at hu
  have hpos := List.length_pos_iff.mpr F.ne
  have hm : mnd n ps c = ((lostL ps (kc n (row ps).2 c)).length - 1) / 2 := by
    unfold mnd
    rw [if_neg (by have := F.k1; omega)]
  have far := F.far
  have fix := F.fix
  generalize (lostL ps (kc n (row ps).2 c)).length = D at *
  have hd := half_dif (ln := ln) (nr := nearW n ln lt) (h := D / 2) (by omega)
  have hlen : (half ln (nearW n ln lt) (D / 2)).length = ps.length := by unfold half; simp [hl]
  have hrange : ∀ z ∈ half ln (nearW n ln lt) (D / 2), 0 ≤ z ∧ z < 2 ^ n := fun z hz => by
    unfold half at hz
    obtain ⟨i, hi, e⟩ := List.mem_map.mp hz
    have hi := List.mem_range.mp hi
    rw [← e]
    split
    · unfold nearW
      rw [getD_map_range hi]
      exact ⟨Int.emod_nonneg _ (pow_ne n), Int.emod_lt_of_pos _ (pow_pos n)⟩
    · have m1 : ln.getD i 0 ∈ ln := by rw [List.getD_eq_getElem?_getD, List.getElem?_eq_getElem hi]; exact List.getElem_mem hi
      exact hr _ m1
  generalize half ln (nearW n ln lt) (D / 2) = hf at *
  split
  · exact fix hf hlen hrange (by omega)
  · cases hv : mendd n ps c hf with
    | none => rfl
    | some vs =>
      exfalso
      obtain ⟨f1, f2, f3⟩ := far hf vs hlen hrange hv
      have t := dif_tri (a := vs) (b := hf) (c := ln) (by omega)
      have hvl : vs = ln := by
        refine Decidable.byContradiction fun h => ?_
        have := f3 h
        omega
      rw [hvl, dif_comm (by omega), hd] at f2
      omega
end AP
end
section
namespace AP
theorem filt_is {N : Nat} {wr : List Nat} {p : Nat → Bool} (hs : wr.Pairwise (· < ·)) (hl : ∀ i ∈ wr, i < N) (hp : ∀ i, i < N → (p i = true ↔ i ∈ wr)) : (List.range N).filter p = wr := by
  have nd : wr.Nodup := hs.imp fun h => by omega
  refine List.Perm.eq_of_pairwise (le := fun a b : Nat => a ≤ b) (fun a b _ _ h1 h2 => by omega) ((List.pairwise_lt_range.filter _).imp fun h => by omega) (hs.imp fun h => by omega) ?_
  refine (List.perm_ext_iff_of_nodup (List.nodup_range.filter _) nd).mpr fun i => ?_
  rw [List.mem_filter, List.mem_range]
  constructor
  · intro h; exact (hp i h.1).mp h.2
  · intro h; exact ⟨hl i h, (hp i (hl i h)).mpr h⟩
theorem wrg_is {ps ws us : List Int} {wr : List Nat} (hs : wr.Pairwise (· < ·)) (hl : ∀ i ∈ wr, i < ps.length) (h1 : ∀ i, i < ps.length → i ∈ wr → ws.getD i 0 ≠ us.getD i 0) (h2 : ∀ i, i < ps.length → i ∉ wr → ws.getD i 0 = us.getD i 0) : wrg ps ws us = wr.map fun i => ps.getD i 0 := by
  unfold wrg
  rw [filt_is hs hl fun i hi => ?_]
  by_cases h : i ∈ wr
  · simp only [h, iff_true]
    rw [decide_eq_false (h1 i hi h)]
    rfl
  · simp only [h, iff_false]
    rw [decide_eq_true (h2 i hi h)]
    decide
theorem dif_is {ws us : List Int} {wr : List Nat} {N : Nat} (hN : ws.length = N) (hs : wr.Pairwise (· < ·)) (hl : ∀ i ∈ wr, i < N) (h1 : ∀ i, i < N → i ∈ wr → ws.getD i 0 ≠ us.getD i 0) (h2 : ∀ i, i < N → i ∉ wr → ws.getD i 0 = us.getD i 0) : dif ws us = wr.length := by
  unfold dif
  rw [hN, filt_is hs hl fun i hi => ?_]
  by_cases h : i ∈ wr
  · simp only [h, iff_true]
    rw [decide_eq_false (h1 i hi h)]
    rfl
  · simp only [h, iff_false]
    rw [decide_eq_true (h2 i hi h)]
    decide
theorem erase_permA {α : Type} : ∀ {l : List α} {i : Nat} (h : i < l.length), (l[i] :: l.eraseIdx i).Perm l
  | x :: l, 0, h => List.Perm.refl _
  | x :: l, i + 1, h => by
    have ih := erase_permA (l := l) (i := i) (by simpa using h)
    show (l[i]'(by simpa using h) :: x :: l.eraseIdx i).Perm (x :: l)
    exact (List.Perm.swap x _ _).trans (ih.cons x)
end AP
end
section
namespace AP
/-! ### the least sums of valuations of pairs and triples -/
abbrev dd (p q : Int) : Nat := v2 (p - q)
theorem dd_comm (p q : Int) : dd p q = dd q p := v2_comm p q
theorem dd_ultra {x y z : Int} (h1 : x ≠ y) (h2 : y ≠ z) (h3 : x ≠ z) : dd x y ≤ dd x z ∨ dd y z ≤ dd x z := ultra h1 h2 h3
def B2 (S : List Int) (p q : Int) : Prop := p ∈ S ∧ q ∈ S ∧ p ≠ q ∧ ∀ x ∈ S, ∀ y ∈ S, x ≠ y → dd p q ≤ dd x y
def s3 (p q r : Int) : Nat := dd p q + dd p r + dd q r
def B3 (S : List Int) (p q r : Int) : Prop := (p ∈ S ∧ q ∈ S ∧ r ∈ S) ∧ (p ≠ q ∧ p ≠ r ∧ q ≠ r) ∧ ∀ x ∈ S, ∀ y ∈ S, ∀ z ∈ S, x ≠ y → x ≠ z → y ≠ z → s3 p q r ≤ s3 x y z
/-- a best choice of j places stands in Z -/
def Has (S : List Int) (Z : Int → Bool) : Nat → Prop
  | 0 => True
  | 1 => ∃ p ∈ S, Z p = true
  | 2 => ∃ p q, B2 S p q ∧ Z p = true ∧ Z q = true
  | 3 => ∃ p q r, B3 S p q r ∧ Z p = true ∧ Z q = true ∧ Z r = true
  | _ => False
theorem Has.mono {S : List Int} {Z Y : Int → Bool} (h : ∀ x, Z x = true → Y x = true) : ∀ {j : Nat}, Has S Z j → Has S Y j
  | 0, _ => trivial
  | 1, ⟨p, a, b⟩ => ⟨p, a, h p b⟩
  | 2, ⟨p, q, a, b, c⟩ => ⟨p, q, a, h p b, h q c⟩
  | 3, ⟨p, q, r, a, b, c, d⟩ => ⟨p, q, r, a, h p b, h q c, h r d⟩
  | n + 4, x => x
theorem s3_swap (p q r : Int) : s3 q p r = s3 p q r := by unfold s3; rw [dd_comm q p]; omega
theorem s3_rot (p q r : Int) : s3 p r q = s3 p q r := by unfold s3; rw [dd_comm r q]; omega
theorem B3.swap {S : List Int} {p q r : Int} (h : B3 S p q r) : B3 S q p r := ⟨⟨h.1.2.1, h.1.1, h.1.2.2⟩, ⟨Ne.symm h.2.1.1, h.2.1.2.2, h.2.1.2.1⟩, fun x hx y hy z hz a b c => by rw [s3_swap]; exact h.2.2 x hx y hy z hz a b c⟩
theorem B3.rot {S : List Int} {p q r : Int} (h : B3 S p q r) : B3 S p r q := ⟨⟨h.1.1, h.1.2.2, h.1.2.1⟩, ⟨h.2.1.2.1, h.2.1.1, Ne.symm h.2.1.2.2⟩, fun x hx y hy z hz a b c => by rw [s3_rot]; exact h.2.2 x hx y hy z hz a b c⟩
theorem B2.swap {S : List Int} {p q : Int} (h : B2 S p q) : B2 S q p := ⟨h.2.1, h.1, Ne.symm h.2.2.1, fun x hx y hy n => by rw [dd_comm]; exact h.2.2.2 x hx y hy n⟩
/-- a best triple holds a best pair -/
theorem B3.pair {S : List Int} {p q r : Int} (h : B3 S p q r) : B2 S p q ∨ B2 S p r ∨ B2 S q r := by
  -- the least pair of the three
  have key : ∀ {p q r : Int}, B3 S p q r → dd p q ≤ dd p r → dd p q ≤ dd q r → B2 S p q := by
    intro p q r h h1 h2
    refine ⟨h.1.1, h.1.2.1, h.2.1.1, fun x hx y hy hxy => ?_⟩
    refine Decidable.byContradiction fun hc => ?_
    have hc : dd x y < dd p q := by omega
    -- one of x, y is near p
    have hu : ∃ u ∈ S, u ≠ p ∧ dd u p ≤ dd x y := by
      by_cases e1 : x = p
      · exact ⟨y, hy, fun e => hxy (e1.trans e.symm), by rw [← e1, dd_comm]; exact Nat.le_refl _⟩
      · by_cases e2 : y = p
        · exact ⟨x, hx, e1, by rw [← e2]; exact Nat.le_refl _⟩
        · rcases dd_ultra (x := x) (y := p) (z := y) e1 (Ne.symm e2) hxy with h | h
          · exact ⟨x, hx, e1, h⟩
          · exact ⟨y, hy, e2, by rw [dd_comm]; exact h⟩
    obtain ⟨u, hus, hup, hd⟩ := hu
    have huq : u ≠ q := fun e => by rw [e, dd_comm] at hd; omega
    have hur : u ≠ r := fun e => by rw [e, dd_comm] at hd; omega
    have iso : ∀ z, z ≠ p → u ≠ z → dd p q ≤ dd p z → dd u z ≤ dd u p := by
      intro z hz huz hp
      rcases dd_ultra (x := u) (y := z) (z := p) huz hz hup with h | h
      · exact h
      · rw [dd_comm z p] at h
        omega
    have a1 := iso q (Ne.symm h.2.1.1) huq (Nat.le_refl _)
    have a2 := iso r (Ne.symm h.2.1.2.1) hur h1
    have := h.2.2 u hus q h.1.2.1 r h.1.2.2 huq hur h.2.1.2.2
    unfold s3 at this
    omega
  by_cases c1 : dd p q ≤ dd p r
  · by_cases c2 : dd p q ≤ dd q r
    · exact .inl (key h c1 c2)
    · -- q r least
      have := key (p := q) (q := r) (r := p) (h.swap.rot) (by rw [dd_comm q p]; omega) (by rw [dd_comm r p]; omega)
      exact .inr (.inr this)
  · by_cases c2 : dd p r ≤ dd q r
    · have := key (p := p) (q := r) (r := q) h.rot (by omega) (by rw [dd_comm r q]; exact c2)
      exact .inr (.inl this)
    · have := key (p := q) (q := r) (r := p) (h.swap.rot) (by rw [dd_comm q p]; omega) (by rw [dd_comm r p]; omega)
      exact .inr (.inr this)
theorem Has.down {S : List Int} {Z : Int → Bool} : ∀ {j : Nat}, Has S Z (j + 1) → Has S Z j
  | 0, _ => trivial
  | 1, ⟨p, q, a, b, c⟩ => ⟨p, a.1, b⟩
  | 2, ⟨p, q, r, a, b, c, d⟩ => by
    rcases a.pair with h | h | h
    · exact ⟨p, q, h, b, c⟩
    · exact ⟨p, r, h, b, d⟩
    · exact ⟨q, r, h, c, d⟩
  | n + 3, x => x.elim
theorem Has.le {S : List Int} {Z : Int → Bool} {i j : Nat} (h : i ≤ j) (x : Has S Z j) : Has S Z i := by
  induction j with
  | zero =>
    have : i = 0 := by omega
    subst this
    exact x
  | succ j ih =>
    by_cases e : i = j + 1
    · subst e; exact x
    · exact ih (by omega) x.down
/-! ### the halves -/
section
variable {S : List Int} {l : Nat}
theorem mem_ev {x : Int} : x ∈ evens S l ↔ x ∈ S ∧ x / 2 ^ l % 2 = 0 := by
  unfold evens
  rw [List.mem_filter, decide_eq_true_eq]
theorem mem_od {x : Int} : x ∈ odds S l ↔ x ∈ S ∧ x / 2 ^ l % 2 = 1 := by
  unfold odds
  rw [List.mem_filter, decide_eq_true_eq]
theorem mem_half {x : Int} (h : x ∈ S) : x ∈ evens S l ∨ x ∈ odds S l := by
  rcases Int.emod_two_eq (x / 2 ^ l) with c | c
  · exact .inl (mem_ev.mpr ⟨h, c⟩)
  · exact .inr (mem_od.mpr ⟨h, c⟩)
theorem half_dis {x : Int} (h1 : x ∈ evens S l) (h2 : x ∈ odds S l) : False := by
  have a := (mem_ev.mp h1).2
  have b := (mem_od.mp h2).2
  omega
theorem half_cnt (q : Int → Bool) : ∀ S : List Int, ((evens S l).filter q).length + ((odds S l).filter q).length = (S.filter q).length
  | [] => rfl
  | x :: S => by
    have ih := half_cnt q S
    unfold evens odds at ih ⊢
    rw [List.filter_cons, List.filter_cons (xs := S) (p := fun p => decide (p / 2 ^ l % 2 = 1)), List.filter_cons (xs := S) (p := q)]
    rcases Int.emod_two_eq (x / 2 ^ l) with c | c <;> cases hq : q x <;> simp [c, hq, -List.filter_filter] <;> omega
theorem al_ge (ha : Alike S l) {x y : Int} (hx : x ∈ S) (hy : y ∈ S) (h : x ≠ y) : l ≤ dd x y := (dvd_iff (by omega) l).mp (ha x hx y hy)
theorem same_ge (ha : Alike S l) {x y : Int} (h : (x ∈ evens S l ∧ y ∈ evens S l) ∨ (x ∈ odds S l ∧ y ∈ odds S l)) (hn : x ≠ y) : l + 1 ≤ dd x y := by
  rcases h with h | h
  · exact al_ge (ev_alike ha) h.1 h.2 hn
  · exact al_ge (od_alike ha) h.1 h.2 hn
theorem cross_is (ha : Alike S l) {x y : Int} (hx : x ∈ evens S l) (hy : y ∈ odds S l) : dd x y = l := by
  have hn : x ≠ y := fun e => half_dis hx (e ▸ hy)
  have h1 := al_ge ha (mem_ev.mp hx).1 (mem_od.mp hy).1 hn
  have h2 : ¬ l + 1 ≤ dd x y := fun h => by
    have hd := (dvd_iff (show x - y ≠ 0 by omega) (l + 1)).mpr h
    obtain ⟨c, hc⟩ := hd
    rw [Int.pow_succ, Int.mul_assoc] at hc
    have hp := pow_pos l
    have e : x / 2 ^ l = y / 2 ^ l + 2 * c := by
      rw [show x = y + 2 ^ l * (2 * c) by omega, Int.add_mul_ediv_left _ _ (by omega)]
    have a := (mem_ev.mp hx).2
    have b := (mem_od.mp hy).2
    omega
  omega
theorem cross_is' (ha : Alike S l) {x y : Int} (hx : x ∈ odds S l) (hy : y ∈ evens S l) : dd x y = l := by rw [dd_comm]; exact cross_is ha hy hx
theorem ne_cross {x y : Int} (hx : x ∈ evens S l) (hy : y ∈ odds S l) : x ≠ y := fun e => half_dis hx (e ▸ hy)
end
end AP
end
section
namespace AP
/-! ### best choices over the halves -/
section
variable {S : List Int} {l : Nat} {Z : Int → Bool}
/-- the best pairs of E are no worse than the pairs of O -/
def LE2 (E O : List Int) : Prop := ∀ e e', B2 E e e' → ∀ o ∈ O, ∀ o' ∈ O, o ≠ o' → dd e e' ≤ dd o o'
theorem has1 : Has S Z 1 ↔ Has (evens S l) Z 1 ∨ Has (odds S l) Z 1 := by
  constructor
  · rintro ⟨p, hp, hz⟩
    rcases mem_half (l := l) hp with h | h
    · exact .inl ⟨p, h, hz⟩
    · exact .inr ⟨p, h, hz⟩
  · rintro (⟨p, hp, hz⟩ | ⟨p, hp, hz⟩)
    · exact ⟨p, (mem_ev.mp hp).1, hz⟩
    · exact ⟨p, (mem_od.mp hp).1, hz⟩
theorem b2_cross (ha : Alike S l) {x y : Int} (hx : x ∈ evens S l) (hy : y ∈ odds S l) : B2 S x y :=
  ⟨(mem_ev.mp hx).1, (mem_od.mp hy).1, ne_cross hx hy, fun a h b h' n => by rw [cross_is ha hx hy]; exact al_ge ha h h' n⟩
theorem has2 (ha : Alike S l) (hE : evens S l ≠ []) (hO : odds S l ≠ []) : Has S Z 2 ↔ Has (evens S l) Z 1 ∧ Has (odds S l) Z 1 := by
  obtain ⟨e0, he0⟩ := List.exists_mem_of_ne_nil _ hE
  obtain ⟨o0, ho0⟩ := List.exists_mem_of_ne_nil _ hO
  constructor
  · rintro ⟨p, q, b, zp, zq⟩
    have hl := b.2.2.2 e0 (mem_ev.mp he0).1 o0 (mem_od.mp ho0).1 (ne_cross he0 ho0)
    rw [cross_is ha he0 ho0] at hl
    rcases mem_half (l := l) b.1 with h1 | h1 <;> rcases mem_half (l := l) b.2.1 with h2 | h2
    · have := same_ge ha (.inl ⟨h1, h2⟩) b.2.2.1
      omega
    · exact ⟨⟨p, h1, zp⟩, ⟨q, h2, zq⟩⟩
    · exact ⟨⟨q, h2, zq⟩, ⟨p, h1, zp⟩⟩
    · have := same_ge ha (.inr ⟨h1, h2⟩) b.2.2.1
      omega
  · rintro ⟨⟨p, h1, zp⟩, ⟨q, h2, zq⟩⟩
    exact ⟨p, q, b2_cross ha h1 h2, zp, zq⟩
/-- the sum of a triple, two of one half -/
theorem s3_eeo (ha : Alike S l) {x y z : Int} (hx : x ∈ evens S l) (hy : y ∈ evens S l) (hz : z ∈ odds S l) : s3 x y z = dd x y + 2 * l := by
  unfold s3
  rw [cross_is ha hx hz, cross_is ha hy hz]
  omega
theorem s3_ooe (ha : Alike S l) {x y z : Int} (hx : x ∈ odds S l) (hy : y ∈ odds S l) (hz : z ∈ evens S l) : s3 x y z = dd x y + 2 * l := by
  unfold s3
  rw [cross_is' ha hx hz, cross_is' ha hy hz]
  omega
theorem b3_eeo (ha : Alike S l) {e e' o : Int} (b : B2 (evens S l) e e') (ho : o ∈ odds S l) (hle : LE2 (evens S l) (odds S l)) : B3 S e e' o := by
  have m : ∀ {x}, x ∈ evens S l → x ∈ S := fun h => (mem_ev.mp h).1
  have m' : ∀ {x}, x ∈ odds S l → x ∈ S := fun h => (mem_od.mp h).1
  refine ⟨⟨m b.1, m b.2.1, m' ho⟩, ⟨b.2.2.1, ne_cross b.1 ho, ne_cross b.2.1 ho⟩, fun x hx y hy z hz n1 n2 n3 => ?_⟩
  rw [s3_eeo ha b.1 b.2.1 ho]
  have ge := b.2.2.2
  have go := hle e e' b
  rcases mem_half (l := l) hx with h1 | h1 <;> rcases mem_half (l := l) hy with h2 | h2 <;> rcases mem_half (l := l) hz with h3 | h3
  · have a1 := ge x h1 y h2 n1
    have a2 := same_ge ha (.inl ⟨h1, h3⟩) n2
    have a3 := same_ge ha (.inl ⟨h2, h3⟩) n3
    unfold s3
    omega
  · rw [s3_eeo ha h1 h2 h3]
    have := ge x h1 y h2 n1
    omega
  · rw [← s3_rot, s3_eeo ha h1 h3 h2]
    have := ge x h1 z h3 n2
    omega
  · have e1 : s3 x y z = s3 y z x := by unfold s3; rw [dd_comm y x, dd_comm z x]; omega
    rw [e1, s3_ooe ha h2 h3 h1]
    have := go y h2 z h3 n3
    omega
  · have e1 : s3 x y z = s3 y z x := by unfold s3; rw [dd_comm y x, dd_comm z x]; omega
    rw [e1, s3_eeo ha h2 h3 h1]
    have := ge y h2 z h3 n3
    omega
  · rw [← s3_rot, s3_ooe ha h1 h3 h2]
    have := go x h1 z h3 n2
    omega
  · rw [s3_ooe ha h1 h2 h3]
    have := go x h1 y h2 n1
    omega
  · have a1 := go x h1 y h2 n1
    have a2 := same_ge ha (.inr ⟨h1, h3⟩) n2
    have a3 := same_ge ha (.inr ⟨h2, h3⟩) n3
    unfold s3
    omega
theorem b3_ooe (ha : Alike S l) {o o' e : Int} (b : B2 (odds S l) o o') (he : e ∈ evens S l) (hle : LE2 (odds S l) (evens S l)) : B3 S o o' e := by
  have m : ∀ {x}, x ∈ evens S l → x ∈ S := fun h => (mem_ev.mp h).1
  have m' : ∀ {x}, x ∈ odds S l → x ∈ S := fun h => (mem_od.mp h).1
  refine ⟨⟨m' b.1, m' b.2.1, m he⟩, ⟨b.2.2.1, Ne.symm (ne_cross he b.1), Ne.symm (ne_cross he b.2.1)⟩, fun x hx y hy z hz n1 n2 n3 => ?_⟩
  rw [s3_ooe ha b.1 b.2.1 he]
  have ge := b.2.2.2
  have go := hle o o' b
  rcases mem_half (l := l) hx with h1 | h1 <;> rcases mem_half (l := l) hy with h2 | h2 <;> rcases mem_half (l := l) hz with h3 | h3
  · have a1 := go x h1 y h2 n1
    have a2 := same_ge ha (.inl ⟨h1, h3⟩) n2
    have a3 := same_ge ha (.inl ⟨h2, h3⟩) n3
    unfold s3
    omega
  · rw [s3_eeo ha h1 h2 h3]
    have := go x h1 y h2 n1
    omega
  · rw [← s3_rot, s3_eeo ha h1 h3 h2]
    have := go x h1 z h3 n2
    omega
  · have e1 : s3 x y z = s3 y z x := by unfold s3; rw [dd_comm y x, dd_comm z x]; omega
    rw [e1, s3_ooe ha h2 h3 h1]
    have := ge y h2 z h3 n3
    omega
  · have e1 : s3 x y z = s3 y z x := by unfold s3; rw [dd_comm y x, dd_comm z x]; omega
    rw [e1, s3_eeo ha h2 h3 h1]
    have := go y h2 z h3 n3
    omega
  · rw [← s3_rot, s3_ooe ha h1 h3 h2]
    have := ge x h1 z h3 n2
    omega
  · rw [s3_ooe ha h1 h2 h3]
    have := ge x h1 y h2 n1
    omega
  · have a1 := ge x h1 y h2 n1
    have a2 := same_ge ha (.inr ⟨h1, h3⟩) n2
    have a3 := same_ge ha (.inr ⟨h2, h3⟩) n3
    unfold s3
    omega
/-- a best triple with two places of one half -/
theorem b3_inv_e (ha : Alike S l) {e e' o : Int} (b : B3 S e e' o) (h1 : e ∈ evens S l) (h2 : e' ∈ evens S l) (h3 : o ∈ odds S l) : B2 (evens S l) e e' ∧ LE2 (evens S l) (odds S l) := by
  have hb := b.2.2
  rw [s3_eeo ha h1 h2 h3] at hb
  refine ⟨⟨h1, h2, b.2.1.1, fun x hx y hy n => ?_⟩, fun x y bx u hu v hv n => ?_⟩
  · have := hb x (mem_ev.mp hx).1 y (mem_ev.mp hy).1 o (mem_od.mp h3).1 n (ne_cross hx h3) (ne_cross hy h3)
    rw [s3_eeo ha hx hy h3] at this
    omega
  · have a1 := bx.2.2.2 e h1 e' h2 b.2.1.1
    have := hb u (mem_od.mp hu).1 v (mem_od.mp hv).1 e (mem_ev.mp h1).1 n (Ne.symm (ne_cross h1 hu)) (Ne.symm (ne_cross h1 hv))
    rw [s3_ooe ha hu hv h1] at this
    omega
theorem b3_inv_o (ha : Alike S l) {o o' e : Int} (b : B3 S o o' e) (h1 : o ∈ odds S l) (h2 : o' ∈ odds S l) (h3 : e ∈ evens S l) : B2 (odds S l) o o' ∧ LE2 (odds S l) (evens S l) := by
  have hb := b.2.2
  rw [s3_ooe ha h1 h2 h3] at hb
  refine ⟨⟨h1, h2, b.2.1.1, fun x hx y hy n => ?_⟩, fun x y bx u hu v hv n => ?_⟩
  · have := hb x (mem_od.mp hx).1 y (mem_od.mp hy).1 e (mem_ev.mp h3).1 n (Ne.symm (ne_cross h3 hx)) (Ne.symm (ne_cross h3 hy))
    rw [s3_ooe ha hx hy h3] at this
    omega
  · have a1 := bx.2.2.2 o h1 o' h2 b.2.1.1
    have := hb u (mem_ev.mp hu).1 v (mem_ev.mp hv).1 o (mem_od.mp h1).1 n (ne_cross hu h1) (ne_cross hv h1)
    rw [s3_eeo ha hu hv h1] at this
    omega
theorem has3 (ha : Alike S l) (hE : evens S l ≠ []) (hO : odds S l ≠ []) : Has S Z 3 ↔ (LE2 (evens S l) (odds S l) ∧ Has (evens S l) Z 2 ∧ Has (odds S l) Z 1) ∨ (LE2 (odds S l) (evens S l) ∧ Has (evens S l) Z 1 ∧ Has (odds S l) Z 2) := by
  obtain ⟨e0, he0⟩ := List.exists_mem_of_ne_nil _ hE
  obtain ⟨o0, ho0⟩ := List.exists_mem_of_ne_nil _ hO
  constructor
  · rintro ⟨p, q, r, b, zp, zq, zr⟩
    have eeo : ∀ {p q r : Int}, B3 S p q r → Z p = true → Z q = true → Z r = true → p ∈ evens S l → q ∈ evens S l → r ∈ odds S l → (LE2 (evens S l) (odds S l) ∧ Has (evens S l) Z 2 ∧ Has (odds S l) Z 1) := fun b zp zq zr h1 h2 h3 => by
      obtain ⟨k1, k2⟩ := b3_inv_e ha b h1 h2 h3
      exact ⟨k2, ⟨_, _, k1, zp, zq⟩, ⟨_, h3, zr⟩⟩
    have ooe : ∀ {p q r : Int}, B3 S p q r → Z p = true → Z q = true → Z r = true → p ∈ odds S l → q ∈ odds S l → r ∈ evens S l → (LE2 (odds S l) (evens S l) ∧ Has (evens S l) Z 1 ∧ Has (odds S l) Z 2) := fun b zp zq zr h1 h2 h3 => by
      obtain ⟨k1, k2⟩ := b3_inv_o ha b h1 h2 h3
      exact ⟨k2, ⟨_, h3, zr⟩, ⟨_, _, k1, zp, zq⟩⟩
    rcases mem_half (l := l) b.1.1 with h1 | h1 <;> rcases mem_half (l := l) b.1.2.1 with h2 | h2 <;> rcases mem_half (l := l) b.1.2.2 with h3 | h3
    · exfalso
      have := b.2.2 p b.1.1 q b.1.2.1 o0 (mem_od.mp ho0).1 b.2.1.1 (ne_cross h1 ho0) (ne_cross h2 ho0)
      rw [s3_eeo ha h1 h2 ho0] at this
      have a2 := same_ge ha (.inl ⟨h1, h3⟩) b.2.1.2.1
      have a3 := same_ge ha (.inl ⟨h2, h3⟩) b.2.1.2.2
      unfold s3 at this
      omega
    · exact .inl (eeo b zp zq zr h1 h2 h3)
    · exact .inl (eeo b.rot zp zr zq h1 h3 h2)
    · exact .inr (ooe b.swap.rot zq zr zp h2 h3 h1)
    · exact .inl (eeo b.swap.rot zq zr zp h2 h3 h1)
    · exact .inr (ooe b.rot zp zr zq h1 h3 h2)
    · exact .inr (ooe b zp zq zr h1 h2 h3)
    · exfalso
      have := b.2.2 p b.1.1 q b.1.2.1 e0 (mem_ev.mp he0).1 b.2.1.1 (Ne.symm (ne_cross he0 h1)) (Ne.symm (ne_cross he0 h2))
      rw [s3_ooe ha h1 h2 he0] at this
      have a2 := same_ge ha (.inr ⟨h1, h3⟩) b.2.1.2.1
      have a3 := same_ge ha (.inr ⟨h2, h3⟩) b.2.1.2.2
      unfold s3 at this
      omega
  · rintro (⟨k, ⟨p, q, b, zp, zq⟩, ⟨r, hr, zr⟩⟩ | ⟨k, ⟨r, hr, zr⟩, ⟨p, q, b, zp, zq⟩⟩)
    · exact ⟨p, q, r, b3_eeo ha b hr k, zp, zq, zr⟩
    · exact ⟨p, q, r, b3_ooe ha b hr k, zp, zq, zr⟩
end
end AP
end
section
namespace AP
theorem least {P : Nat → Prop} (h : ∃ n, P n) : ∃ n, P n ∧ ∀ m, P m → n ≤ m := by
  obtain ⟨n, hn⟩ := h
  induction n using Nat.strongRecOn with
  | _ n ih =>
    by_cases c : ∃ m, m < n ∧ P m
    · obtain ⟨m, h1, h2⟩ := c
      exact ih m h1 h2
    · exact ⟨n, hn, fun m hm => Nat.le_of_not_lt fun h => c ⟨m, h, hm⟩⟩
theorem two_of {S : List Int} (hn : S.Nodup) (h : 2 ≤ S.length) : ∃ p q, p ∈ S ∧ q ∈ S ∧ p ≠ q := by
  match S, hn, h with
  | a :: b :: r, hn, _ => exact ⟨a, b, List.mem_cons_self .., List.mem_cons_of_mem _ (List.mem_cons_self ..), fun e => by simp [e] at hn⟩
theorem ex_b2 {S : List Int} (hn : S.Nodup) (h : 2 ≤ S.length) : ∃ p q, B2 S p q := by
  obtain ⟨p, q, a, b, c⟩ := two_of hn h
  obtain ⟨n, ⟨p, q, h1, h2, h3, h4⟩, hm⟩ := least (P := fun n => ∃ p q, p ∈ S ∧ q ∈ S ∧ p ≠ q ∧ dd p q = n) ⟨dd p q, p, q, a, b, c, rfl⟩
  exact ⟨p, q, h1, h2, h3, fun x hx y hy n => by rw [h4]; exact hm _ ⟨x, y, hx, hy, n, rfl⟩⟩
theorem two_len {S : List Int} {p q : Int} (hp : p ∈ S) (hq : q ∈ S) (n : p ≠ q) : 2 ≤ S.length := by
  match S, hp, hq with
  | [a], h1, h2 => exact absurd ((List.mem_singleton.mp h1).trans (List.mem_singleton.mp h2).symm) n
  | a :: b :: r, _, _ => simp
theorem b2_len {S : List Int} {p q : Int} (h : B2 S p q) : 2 ≤ S.length := by
  match S, h.1, h.2.1 with
  | [a], h1, h2 => exact absurd ((List.mem_singleton.mp h1).trans (List.mem_singleton.mp h2).symm) h.2.2.1
  | a :: b :: r, _, _ => simp
theorem b3_len {S : List Int} (hn : S.Nodup) {p q r : Int} (h : B3 S p q r) : 3 ≤ S.length := by
  have := List.Nodup.length_le_of_subset (l₁ := [p, q, r]) (l₂ := S) (by simp [h.2.1.1, h.2.1.2.1, h.2.1.2.2]) (by
    intro x hx
    simp at hx
    rcases hx with rfl | rfl | rfl
    · exact h.1.1
    · exact h.1.2.1
    · exact h.1.2.2)
  simpa using this
theorem has_len {S : List Int} (hn : S.Nodup) {Z : Int → Bool} : ∀ {j : Nat}, Has S Z j → j ≤ S.length
  | 0, _ => Nat.zero_le _
  | 1, ⟨p, h, _⟩ => List.length_pos_iff.mpr (List.ne_nil_of_mem h)
  | 2, ⟨p, q, b, _⟩ => b2_len b
  | 3, ⟨p, q, r, b, _⟩ => b3_len hn b
  | n + 4, x => x.elim
/-! ### the splits -/
theorem head_le : ∀ {l : List Nat}, l.Pairwise (· < ·) → ∀ x ∈ l, l.headD 0 ≤ x
  | [], _, x, h => nomatch h
  | a :: r, hp, x, h => by
    rcases List.mem_cons.mp h with e | h
    · rw [e]; exact Nat.le_refl _
    · exact Nat.le_of_lt ((List.pairwise_cons.mp hp).1 x h)
theorem le_last : ∀ {l : List Nat}, l.Pairwise (· < ·) → ∀ x ∈ l, x ≤ l.getLastD 0
  | [], _, x, h => nomatch h
  | [a], _, x, h => by rw [List.mem_singleton.mp h]; exact Nat.le_refl _
  | a :: b :: r, hp, x, h => by
    have e : (a :: b :: r).getLastD 0 = (b :: r).getLastD 0 := by simp [List.getLastD]
    rw [e]
    have hp2 := (List.pairwise_cons.mp hp).2
    rcases List.mem_cons.mp h with e | h
    · have h1 := (List.pairwise_cons.mp hp).1 b (List.mem_cons_self ..)
      have h2 := le_last hp2 b (List.mem_cons_self ..)
      omega
    · exact le_last hp2 x h
theorem splt_is {ev od : List Int} {m s t : Nat} {c : Int} (hs : loN od m ≤ s) (hst : s ≤ t) (ht : t ≤ hiN ev m) (cs : cst ev od m s = c) (ct : cst ev od m t = c) (hmin : ∀ i, loN od m ≤ i → i ≤ hiN ev m → c ≤ cst ev od m i)
    (hun : ∀ i, loN od m ≤ i → i ≤ hiN ev m → cst ev od m i = c → s ≤ i ∧ i ≤ t) : splt ev od m = ((s : Int), (t : Int)) ∧ minL (told ev od m) = c := by
  have hlen : (told ev od m).length = hiN ev m + 1 - loN od m := by unfold told; simp
  have hat : ∀ i, i < hiN ev m + 1 - loN od m → (told ev od m).getD i 0 = cst ev od m (loN od m + i) := fun i hi => by
    unfold told
    rw [getD_map_range hi]
  have hm : minL (told ev od m) = c := by
    refine (min_uniq ?_ fun y hy => ?_).symm
    · unfold told
      exact List.mem_map.mpr ⟨s - loN od m, List.mem_range.mpr (by omega), by rw [show loN od m + (s - loN od m) = s by omega]; exact cs⟩
    · unfold told at hy
      obtain ⟨i, hi, e⟩ := List.mem_map.mp hy
      have hi := List.mem_range.mp hi
      rw [← e]
      exact hmin _ (by omega) (by omega)
  have hin : ∀ i, i ∈ fnd (told ev od m) ↔ i < hiN ev m + 1 - loN od m ∧ cst ev od m (loN od m + i) = c := fun i => by
    unfold fnd
    rw [List.mem_filter, List.mem_range, hlen, decide_eq_true_eq, hm]
    constructor
    · intro h; exact ⟨h.1, by rw [← hat i h.1]; exact h.2⟩
    · intro h; exact ⟨h.1, by rw [hat i h.1]; exact h.2⟩
  have i1 : s - loN od m ∈ fnd (told ev od m) := (hin _).mpr ⟨by omega, by rw [show loN od m + (s - loN od m) = s by omega]; exact cs⟩
  have i2 : t - loN od m ∈ fnd (told ev od m) := (hin _).mpr ⟨by omega, by rw [show loN od m + (t - loN od m) = t by omega]; exact ct⟩
  have hne : fnd (told ev od m) ≠ [] := List.ne_nil_of_mem i1
  have h1 := (hin _).mp (head_mem hne)
  have h2 := (hin _).mp (last_mem hne)
  have h3 := head_le (fnd_asc _) _ i1
  have h4 := le_last (fnd_asc _) _ i2
  have h5 := hun _ (by omega) (by omega) h1.2
  have h6 := hun _ (by omega) (by omega) h2.2
  refine ⟨?_, hm⟩
  unfold splt
  refine Prod.ext ?_ ?_
  · show ((loN od m + (fnd (told ev od m)).headD 0 : Nat) : Int) = (s : Int)
    omega
  · show ((loN od m + (fnd (told ev od m)).getLastD 0 : Nat) : Int) = (t : Int)
    omega
/-! ### the costs -/
structure TC (S : List Int) (l : Nat) (cs : List Int) : Prop where
  len : cs.length = S.length + 1
  c0 : cs.getD 0 0 = 0
  c1 : 1 ≤ S.length → cs.getD 1 0 = 0
  c2 : ∀ p q, B2 S p q → cs.getD 2 0 = (dd p q : Int) - l
  c23 : 3 ≤ S.length → cs.getD 2 0 ≤ cs.getD 3 0
theorem prs0 : prs 0 = 0 := by decide
theorem prs1 : prs 1 = 0 := by decide
theorem prs2 : prs 2 = 1 := by decide
theorem prs3 : prs 3 = 3 := by decide
theorem od_all {S : List Int} {l : Nat} (h : evens S l = []) : odds S l = S := by
  unfold odds
  refine List.filter_eq_self.mpr fun x hx => ?_
  rcases mem_half (l := l) hx with h1 | h1
  · rw [h] at h1; cases h1
  · exact decide_eq_true (mem_od.mp h1).2
theorem ev_all {S : List Int} {l : Nat} (h : odds S l = []) : evens S l = S := by
  unfold evens
  refine List.filter_eq_self.mpr fun x hx => ?_
  rcases mem_half (l := l) hx with h1 | h1
  · exact decide_eq_true (mem_ev.mp h1).2
  · rw [h] at h1; cases h1
section
variable {S : List Int} {l : Nat} {cE cO : List Int}
theorem TC.nn (h : TC S l cE) (hn : S.Nodup) (ha : Alike S l) (h2 : 2 ≤ S.length) : 0 ≤ cE.getD 2 0 := by
  obtain ⟨p, q, b⟩ := ex_b2 hn h2
  rw [h.c2 p q b]
  have := al_ge ha b.1 b.2.1 b.2.2.1
  omega
/-- what a node's split says -/
theorem split_at (hn : S.Nodup) (ha : Alike S l) (tE : TC (evens S l) (l + 1) cE) (tO : TC (odds S l) (l + 1) cO) {j : Nat} (j1 : 1 ≤ j) (j3 : j ≤ 3) (hj : j ≤ S.length) :
    ∃ s t : Nat, splt cE cO j = ((s : Int), (t : Int)) ∧ s ≤ t ∧ t ≤ j ∧ ∀ Z, Has S Z j ↔ ∃ i, s ≤ i ∧ i ≤ t ∧ Has (evens S l) Z i ∧ Has (odds S l) Z (j - i) := by
  have hlen := ev_od l S
  have lE := tE.len
  have lO := tO.len
  by_cases hE : evens S l = []
  · have hO := od_all hE
    rw [hE] at lE
    rw [hO] at lO
    simp at lE
    have hlo : loN cO j = 0 := by unfold loN; omega
    have hhi : hiN cE j = 0 := by unfold hiN; omega
    refine ⟨0, 0, (splt_is (by omega) (Nat.le_refl _) (by omega) rfl rfl (fun i _ h => ?_) (fun i _ h _ => by omega)).1, Nat.le_refl _, Nat.zero_le _, fun Z => ?_⟩
    · rw [show i = 0 by omega]
      exact Int.le_refl _
    · rw [hO]
      constructor
      · intro h; exact ⟨0, Nat.le_refl _, Nat.le_refl _, trivial, h⟩
      · rintro ⟨i, _, hi, _, h⟩
        rw [show i = 0 by omega] at h
        exact h
  · by_cases hO : odds S l = []
    · have hE2 := ev_all hO
      rw [hO] at lO
      rw [hE2] at lE
      simp at lO
      have hlo : loN cO j = j := by unfold loN; omega
      have hhi : hiN cE j = j := by unfold hiN; omega
      refine ⟨j, j, (splt_is (by omega) (Nat.le_refl _) (by omega) rfl rfl (fun i h h' => ?_) (fun i h h' _ => by omega)).1, Nat.le_refl _, Nat.le_refl _, fun Z => ?_⟩
      · rw [show i = j by omega]
        exact Int.le_refl _
      · rw [hE2, hO]
        constructor
        · intro h; exact ⟨j, Nat.le_refl _, Nat.le_refl _, h, by rw [Nat.sub_self]; trivial⟩
        · rintro ⟨i, h1, h2, h, _⟩
          rw [show i = j by omega] at h
          exact h
    · have pE := List.length_pos_iff.mpr hE
      have pO := List.length_pos_iff.mpr hO
      have nE : (evens S l).Nodup := hn.filter _
      have nO : (odds S l).Nodup := hn.filter _
      have aE := ev_alike ha
      have aO := od_alike ha
      have e0 := tE.c0
      have e1 := tE.c1 pE
      have o0 := tO.c0
      have o1 := tO.c1 pO
      have eN : 2 ≤ (evens S l).length → 0 ≤ cE.getD 2 0 := tE.nn nE aE
      have oN : 2 ≤ (odds S l).length → 0 ≤ cO.getD 2 0 := tO.nn nO aO
      have e23 := tE.c23
      have o23 := tO.c23
      have hloN : loN cO j = j - (odds S l).length := by unfold loN; omega
      have hhiN : hiN cE j = min j (evens S l).length := by unfold hiN; omega
      match j, j1, j3, hj, hloN, hhiN with
      | 1, _, _, _, hlo, hhi =>
        have v0 : cst cE cO 1 0 = 0 := by
          show cE.getD 0 0 + prs 0 + cO.getD 1 0 + prs 1 = 0
          rw [e0, o1, prs0, prs1]; rfl
        have v1 : cst cE cO 1 1 = 0 := by
          show cE.getD 1 0 + prs 1 + cO.getD 0 0 + prs 0 = 0
          rw [e1, o0, prs0, prs1]; rfl
        refine ⟨0, 1, (splt_is (c := 0) (by omega) (by omega) (by omega) v0 v1 (fun i _ h => ?_) (fun i _ h _ => by omega)).1, by omega, by omega, fun Z => ?_⟩
        · rcases (show i = 0 ∨ i = 1 by omega) with rfl | rfl
          · rw [v0]; exact Int.le_refl _
          · rw [v1]; exact Int.le_refl _
        · rw [has1 (l := l)]
          constructor
          · rintro (h | h)
            · exact ⟨1, by omega, by omega, h, trivial⟩
            · exact ⟨0, by omega, by omega, trivial, h⟩
          · rintro ⟨i, _, hi, h1, h2⟩
            rcases (show i = 0 ∨ i = 1 by omega) with rfl | rfl
            · exact .inr h2
            · exact .inl h1
      | 2, _, _, _, hlo, hhi =>
        have v1 : cst cE cO 2 1 = 0 := by
          show cE.getD 1 0 + prs 1 + cO.getD 1 0 + prs 1 = 0
          rw [e1, o1, prs1]; rfl
        have v0 : cst cE cO 2 0 = cO.getD 2 0 + 1 := by
          show cE.getD 0 0 + prs 0 + cO.getD 2 0 + prs 2 = _
          rw [e0, prs0, prs2]; omega
        have v2' : cst cE cO 2 2 = cE.getD 2 0 + 1 := by
          show cE.getD 2 0 + prs 2 + cO.getD 0 0 + prs 0 = _
          rw [o0, prs0, prs2]; omega
        refine ⟨1, 1, (splt_is (c := 0) (by omega) (by omega) (by omega) v1 v1 (fun i h0 h => ?_) (fun i h0 h hc => ?_)).1, by omega, by omega, fun Z => ?_⟩
        · rcases (show i = 0 ∨ i = 1 ∨ i = 2 by omega) with rfl | rfl | rfl
          · rw [v0]; have := oN (by omega); omega
          · rw [v1]; exact Int.le_refl _
          · rw [v2']; have := eN (by omega); omega
        · rcases (show i = 0 ∨ i = 1 ∨ i = 2 by omega) with rfl | rfl | rfl
          · rw [v0] at hc; have := oN (by omega); omega
          · omega
          · rw [v2'] at hc; have := eN (by omega); omega
        · rw [has2 ha hE hO]
          constructor
          · rintro ⟨h1, h2⟩
            exact ⟨1, by omega, by omega, h1, h2⟩
          · rintro ⟨i, h0, hi, h1, h2⟩
            rw [show i = 1 by omega] at h1 h2
            exact ⟨h1, h2⟩
      | 3, _, _, hj, hlo, hhi =>
        have v0 : cst cE cO 3 0 = cO.getD 3 0 + 3 := by
          show cE.getD 0 0 + prs 0 + cO.getD 3 0 + prs 3 = _
          rw [e0, prs0, prs3]; omega
        have v1 : cst cE cO 3 1 = cO.getD 2 0 + 1 := by
          show cE.getD 1 0 + prs 1 + cO.getD 2 0 + prs 2 = _
          rw [e1, prs1, prs2]; omega
        have v2' : cst cE cO 3 2 = cE.getD 2 0 + 1 := by
          show cE.getD 2 0 + prs 2 + cO.getD 1 0 + prs 1 = _
          rw [o1, prs1, prs2]; omega
        have v3 : cst cE cO 3 3 = cE.getD 3 0 + 3 := by
          show cE.getD 3 0 + prs 3 + cO.getD 0 0 + prs 0 = _
          rw [o0, prs0, prs3]; omega
        -- the pairs compared
        have cE2 : ∀ p q, B2 (evens S l) p q → cE.getD 2 0 = (dd p q : Int) - ((l + 1 : Nat) : Int) := tE.c2
        have cO2 : ∀ p q, B2 (odds S l) p q → cO.getD 2 0 = (dd p q : Int) - ((l + 1 : Nat) : Int) := tO.c2
        have leE : 2 ≤ (evens S l).length → ((2 ≤ (odds S l).length → cE.getD 2 0 ≤ cO.getD 2 0) ↔ LE2 (evens S l) (odds S l)) := fun hE2 => by
          constructor
          · intro h p q b o ho o' ho' n
            have hO2 := two_len ho ho' n
            obtain ⟨u, v, b'⟩ := ex_b2 nO hO2
            have h1 := h hO2
            rw [cE2 p q b, cO2 u v b'] at h1
            have h2 := b'.2.2.2 o ho o' ho' n
            omega
          · intro h hO2
            obtain ⟨p, q, b⟩ := ex_b2 nE hE2
            obtain ⟨o, o', b'⟩ := ex_b2 nO hO2
            have := h p q b o b'.1 o' b'.2.1 b'.2.2.1
            rw [cE2 p q b, cO2 o o' b']
            omega
        have leO : 2 ≤ (odds S l).length → ((2 ≤ (evens S l).length → cO.getD 2 0 ≤ cE.getD 2 0) ↔ LE2 (odds S l) (evens S l)) := fun hO2 => by
          constructor
          · intro h p q b o ho o' ho' n
            have hE2 := two_len ho ho' n
            obtain ⟨u, v, b'⟩ := ex_b2 nE hE2
            have h1 := h hE2
            rw [cO2 p q b, cE2 u v b'] at h1
            have h2 := b'.2.2.2 o ho o' ho' n
            omega
          · intro h hE2
            obtain ⟨p, q, b⟩ := ex_b2 nO hO2
            obtain ⟨o, o', b'⟩ := ex_b2 nE hE2
            have := h p q b o b'.1 o' b'.2.1 b'.2.2.1
            rw [cO2 p q b, cE2 o o' b']
            omega
        have fin : ∀ s t : Nat, 1 ≤ s → t ≤ 2 → ((s ≤ 1 ∧ 1 ≤ t) ↔ (2 ≤ (odds S l).length ∧ (2 ≤ (evens S l).length → cO.getD 2 0 ≤ cE.getD 2 0))) → ((s ≤ 2 ∧ 2 ≤ t) ↔ (2 ≤ (evens S l).length ∧ (2 ≤ (odds S l).length → cE.getD 2 0 ≤ cO.getD 2 0))) →
            ∀ Z, Has S Z 3 ↔ ∃ i, s ≤ i ∧ i ≤ t ∧ Has (evens S l) Z i ∧ Has (odds S l) Z (3 - i) := by
          intro s t hs ht k1 k2 Z
          rw [has3 ha hE hO]
          constructor
          · rintro (⟨h1, h2, h3⟩ | ⟨h1, h2, h3⟩)
            · have hB := has_len nE h2
              have := k2.mpr ⟨hB, (leE hB).mpr h1⟩
              exact ⟨2, this.1, this.2, h2, h3⟩
            · have hA := has_len nO h3
              have := k1.mpr ⟨hA, (leO hA).mpr h1⟩
              exact ⟨1, this.1, this.2, h2, h3⟩
          · rintro ⟨i, h0, h1, h2, h3⟩
            rcases (show i = 1 ∨ i = 2 by omega) with rfl | rfl
            · have := k1.mp ⟨h0, h1⟩
              exact .inr ⟨(leO this.1).mp this.2, h2, h3⟩
            · have := k2.mp ⟨h0, h1⟩
              exact .inl ⟨(leE this.1).mp this.2, h2, h3⟩
        have mn : ∀ c : Int, (2 ≤ (odds S l).length → c ≤ cO.getD 2 0 + 1) → (2 ≤ (evens S l).length → c ≤ cE.getD 2 0 + 1) → ∀ i, loN cO 3 ≤ i → i ≤ hiN cE 3 → c ≤ cst cE cO 3 i ∧ (cst cE cO 3 i = c → i = 1 ∧ cO.getD 2 0 + 1 = c ∨ i = 2 ∧ cE.getD 2 0 + 1 = c) := by
          intro c h1 h2 i h3 h4
          rcases (show i = 0 ∨ i = 1 ∨ i = 2 ∨ i = 3 by omega) with rfl | rfl | rfl | rfl
          · rw [v0]
            have a := o23 (by omega)
            have b := h1 (by omega)
            exact ⟨by omega, fun h => by omega⟩
          · rw [v1]
            have b := h1 (by omega)
            exact ⟨b, fun h => .inl ⟨rfl, h⟩⟩
          · rw [v2']
            have b := h2 (by omega)
            exact ⟨b, fun h => .inr ⟨rfl, h⟩⟩
          · rw [v3]
            have a := e23 (by omega)
            have b := h2 (by omega)
            exact ⟨by omega, fun h => by omega⟩
        by_cases hA : 2 ≤ (odds S l).length
        · by_cases hB : 2 ≤ (evens S l).length
          · rcases Int.lt_trichotomy (cE.getD 2 0) (cO.getD 2 0) with hc | hc | hc
            · have hm := mn (cE.getD 2 0 + 1) (fun _ => by omega) (fun _ => Int.le_refl _)
              exact ⟨2, 2, (splt_is (c := cE.getD 2 0 + 1) (by omega) (by omega) (by omega) v2' v2' (fun i h h' => (hm i h h').1) (fun i h h' e => by have := (hm i h h').2 e; omega)).1, by omega, by omega, fin 2 2 (by omega) (by omega) (by omega) (by omega)⟩
            · have hm := mn (cE.getD 2 0 + 1) (fun _ => by omega) (fun _ => Int.le_refl _)
              exact ⟨1, 2, (splt_is (c := cE.getD 2 0 + 1) (by omega) (by omega) (by omega) (by rw [v1, hc]) v2' (fun i h h' => (hm i h h').1) (fun i h h' e => by have := (hm i h h').2 e; omega)).1, by omega, by omega, fin 1 2 (by omega) (by omega) (by omega) (by omega)⟩
            · have hm := mn (cO.getD 2 0 + 1) (fun _ => Int.le_refl _) (fun _ => by omega)
              exact ⟨1, 1, (splt_is (c := cO.getD 2 0 + 1) (by omega) (by omega) (by omega) v1 v1 (fun i h h' => (hm i h h').1) (fun i h h' e => by have := (hm i h h').2 e; omega)).1, by omega, by omega, fin 1 1 (by omega) (by omega) (by omega) (by omega)⟩
          · have hm := mn (cO.getD 2 0 + 1) (fun _ => Int.le_refl _) (fun h => absurd h hB)
            exact ⟨1, 1, (splt_is (c := cO.getD 2 0 + 1) (by omega) (by omega) (by omega) v1 v1 (fun i h h' => (hm i h h').1) (fun i h h' e => by have := (hm i h h').2 e; omega)).1, by omega, by omega, fin 1 1 (by omega) (by omega) (by omega) (by omega)⟩
        · have hB : 2 ≤ (evens S l).length := by omega
          have hm := mn (cE.getD 2 0 + 1) (fun h => absurd h hA) (fun _ => Int.le_refl _)
          exact ⟨2, 2, (splt_is (c := cE.getD 2 0 + 1) (by omega) (by omega) (by omega) v2' v2' (fun i h h' => (hm i h h').1) (fun i h h' e => by have := (hm i h h').2 e; omega)).1, by omega, by omega, fin 2 2 (by omega) (by omega) (by omega) (by omega)⟩
end
end AP
end
section
namespace AP
section
variable {S : List Int} {l : Nat} {cE cO : List Int}
theorem bsC_at {m : Nat} (h : m < cE.length + cO.length - 1) : (bsC cE cO).getD m 0 = minL (told cE cO m) := by
  unfold bsC
  rw [getD_map_range h]
theorem bsS_at {m : Nat} (h : m < cE.length + cO.length - 1) : (bsS cE cO).getD m (0, 0) = splt cE cO m := by
  unfold bsS
  rw [List.getD_eq_getElem?_getD, List.getElem?_map, List.getElem?_range h]
  rfl
theorem node_tc (hn : S.Nodup) (ha : Alike S l) (tE : TC (evens S l) (l + 1) cE) (tO : TC (odds S l) (l + 1) cO) (h2 : 2 ≤ S.length) : TC S l (bsC cE cO) := by
  have hlen := ev_od l S
  have lE := tE.len
  have lO := tO.len
  have e0 := tE.c0
  have o0 := tO.c0
  have e1 := tE.c1
  have o1 := tO.c1
  have nE : (evens S l).Nodup := hn.filter _
  have nO : (odds S l).Nodup := hn.filter _
  have aE := ev_alike ha
  have aO := od_alike ha
  have eN : 2 ≤ (evens S l).length → 0 ≤ cE.getD 2 0 := tE.nn nE aE
  have oN : 2 ≤ (odds S l).length → 0 ≤ cO.getD 2 0 := tO.nn nO aO
  have e23 := tE.c23
  have o23 := tO.c23
  have at_ : ∀ m, m ≤ S.length → (bsC cE cO).getD m 0 = minL (told cE cO m) := fun m hm => bsC_at (by omega)
  have u0 : ∀ m, cst cE cO m 0 = cO.getD m 0 + prs m := fun m => by
    show cE.getD 0 0 + prs 0 + cO.getD (m - 0) 0 + prs ((m : Int) - 0) = _
    rw [e0, prs0, Nat.sub_zero, Int.sub_zero]
    omega
  have um : ∀ m, cst cE cO m m = cE.getD m 0 + prs m := fun m => by
    show cE.getD m 0 + prs m + cO.getD (m - m) 0 + prs ((m : Int) - (m : Int)) = _
    rw [Nat.sub_self, Int.sub_self, o0, prs0]
    omega
  have two : minL (told cE cO 2) = if evens S l = [] then cO.getD 2 0 + 1 else if odds S l = [] then cE.getD 2 0 + 1 else 0 := by
    split
    · rename_i hE
      rw [hE] at hlen lE
      simp at hlen lE
      exact (splt_is (s := 0) (t := 0) (by unfold loN; omega) (Nat.le_refl _) (Nat.zero_le _) (by rw [u0]; show _ + prs 2 = _; rw [prs2]) (by rw [u0]; show _ + prs 2 = _; rw [prs2]) (fun i _ h => by
        have : i = 0 := by unfold hiN at h; omega
        subst this
        rw [u0]; show _ ≤ _ + prs 2; rw [prs2]; exact Int.le_refl _) (fun i _ h _ => by unfold hiN at h; omega)).2
    · rename_i hE
      have pE := List.length_pos_iff.mpr hE
      split
      · rename_i hO
        rw [hO] at hlen lO
        simp at hlen lO
        exact (splt_is (s := 2) (t := 2) (by unfold loN; omega) (Nat.le_refl _) (by unfold hiN; omega) (by rw [um]; show _ + prs 2 = _; rw [prs2]) (by rw [um]; show _ + prs 2 = _; rw [prs2]) (fun i h h' => by
          have : i = 2 := by unfold hiN at h'; unfold loN at h; omega
          subst this
          rw [um]; show _ ≤ _ + prs 2; rw [prs2]; exact Int.le_refl _) (fun i h h' _ => by unfold hiN at h'; unfold loN at h; omega)).2
      · rename_i hO
        have pO := List.length_pos_iff.mpr hO
        have v1 : cst cE cO 2 1 = 0 := by
          show cE.getD 1 0 + prs 1 + cO.getD 1 0 + prs 1 = 0
          rw [e1 pE, o1 pO, prs1]; rfl
        have v0 : cst cE cO 2 0 = cO.getD 2 0 + 1 := by rw [u0]; show _ + prs 2 = _; rw [prs2]
        have v2' : cst cE cO 2 2 = cE.getD 2 0 + 1 := by rw [um]; show _ + prs 2 = _; rw [prs2]
        refine (splt_is (s := 1) (t := 1) (by unfold loN; omega) (Nat.le_refl _) (by unfold hiN; omega) v1 v1 (fun i h h' => ?_) (fun i h h' hc => ?_)).2
        · unfold hiN at h'; unfold loN at h
          rcases (show i = 0 ∨ i = 1 ∨ i = 2 by omega) with rfl | rfl | rfl
          · rw [v0]; have := oN (by omega); omega
          · rw [v1]; exact Int.le_refl _
          · rw [v2']; have := eN (by omega); omega
        · unfold hiN at h'; unfold loN at h
          rcases (show i = 0 ∨ i = 1 ∨ i = 2 by omega) with rfl | rfl | rfl
          · rw [v0] at hc; have := oN (by omega); omega
          · omega
          · rw [v2'] at hc; have := eN (by omega); omega
  refine ⟨by unfold bsC; simp; omega, ?_, fun h1 => ?_, fun p q b => ?_, fun h3 => ?_⟩
  · rw [at_ 0 (Nat.zero_le _)]
    have v : cst cE cO 0 0 = 0 := by
      rw [u0]
      show cO.getD 0 0 + prs 0 = 0
      rw [o0, prs0]; rfl
    exact (splt_is (s := 0) (t := 0) (by unfold loN; omega) (Nat.le_refl _) (Nat.zero_le _) v v (fun i _ h => by
      have : i = 0 := by unfold hiN at h; omega
      subst this
      rw [v]; exact Int.le_refl _) (fun i _ h _ => by unfold hiN at h; omega)).2
  · rw [at_ 1 h1]
    have v : ∀ i, loN cO 1 ≤ i → i ≤ hiN cE 1 → cst cE cO 1 i = 0 := fun i h h' => by
      unfold loN at h; unfold hiN at h'
      rcases (show i = 0 ∨ i = 1 by omega) with rfl | rfl
      · rw [u0]
        show cO.getD 1 0 + prs 1 = 0
        rw [o1 (by omega), prs1]; rfl
      · rw [um]
        show cE.getD 1 0 + prs 1 = 0
        rw [e1 (by omega), prs1]; rfl
    have hlh : loN cO 1 ≤ hiN cE 1 := by unfold loN hiN; omega
    exact (splt_is (s := loN cO 1) (t := hiN cE 1) (Nat.le_refl _) hlh (Nat.le_refl _) (v _ (Nat.le_refl _) hlh) (v _ hlh (Nat.le_refl _)) (fun i h h' => by rw [v i h h']; exact Int.le_refl _) (fun i h h' _ => ⟨h, h'⟩)).2
  · rw [at_ 2 h2, two]
    split
    · rename_i hE
      rw [tO.c2 p q (by rw [od_all hE]; exact b)]
      omega
    · rename_i hE
      split
      · rename_i hO
        rw [tE.c2 p q (by rw [ev_all hO]; exact b)]
        omega
      · rename_i hO
        obtain ⟨x, hx⟩ := List.exists_mem_of_ne_nil _ hE
        obtain ⟨y, hy⟩ := List.exists_mem_of_ne_nil _ hO
        have h1 := b.2.2.2 x (mem_ev.mp hx).1 y (mem_od.mp hy).1 (ne_cross hx hy)
        rw [cross_is ha hx hy] at h1
        have h2 := al_ge ha b.1 b.2.1 b.2.2.1
        omega
  · rw [at_ 2 h2, at_ 3 h3, two]
    have tn : told cE cO 3 ≠ [] := told_ne (fun z => by rw [z] at lE; simp at lE) (fun z => by rw [z] at lO; simp at lO) (by omega)
    have hm := min_mem tn
    generalize minL (told cE cO 3) = c at hm
    unfold told at hm
    obtain ⟨i, hi, e⟩ := List.mem_map.mp hm
    have hi := List.mem_range.mp hi
    unfold hiN at hi
    have hl : loN cO 3 = 3 + 1 - cO.length := rfl
    generalize hk : loN cO 3 + i = k at e
    have k1 : 3 + 1 - cO.length ≤ k := by omega
    have k2 : k ≤ 3 ∧ k ≤ cE.length - 1 := by omega
    rcases (show k = 0 ∨ k = 1 ∨ k = 2 ∨ k = 3 by omega) with rfl | rfl | rfl | rfl
    · rw [u0] at e
      have a := o23 (by omega)
      have b := oN (by omega)
      have e : cO.getD 3 0 + prs 3 = c := e
      rw [prs3] at e
      split
      · omega
      · split
        · rename_i hO; rw [hO] at lO; simp at lO; omega
        · omega
    · have e : cE.getD 1 0 + prs 1 + cO.getD 2 0 + prs 2 = c := e
      rw [prs1, prs2, e1 (by omega)] at e
      have b := oN (by omega)
      split
      · rename_i hE; rw [hE] at lE; simp at lE; omega
      · split
        · rename_i hO; rw [hO] at lO; simp at lO; omega
        · omega
    · have e : cE.getD 2 0 + prs 2 + cO.getD 1 0 + prs 1 = c := e
      rw [prs1, prs2, o1 (by omega)] at e
      have b := eN (by omega)
      split
      · rename_i hE; rw [hE] at lE; simp at lE; omega
      · split
        · rename_i hO; rw [hO] at lO; simp at lO; omega
        · omega
    · rw [um] at e
      have a := e23 (by omega)
      have b := eN (by omega)
      have e : cE.getD 3 0 + prs 3 = c := e
      rw [prs3] at e
      split
      · rename_i hE; rw [hE] at lE; simp at lE; omega
      · split
        · omega
        · omega
end
theorem leaf_tc {S : List Int} {l : Nat} (h : S.length < 2) : TC S l (List.replicate (S.length + 1) 0) := by
  refine ⟨by simp, by simp, fun h1 => ?_, fun p q b => ?_, fun h3 => by omega⟩
  · have : S.length = 1 := by omega
    rw [this]; rfl
  · have := b2_len b; omega
theorem tree_tc : ∀ (f : Nat) (S : List Int) (l : Nat), S.Nodup → Alike S l → Halts f S l → TC S l (treeF f S l).cs
  | 0, S, l, _, _, h => leaf_tc h
  | f + 1, S, l, hn, ha, h => by
    unfold treeF
    split
    · rename_i hc
      exact leaf_tc hc
    · rename_i hc
      have h := h.resolve_left hc
      exact node_tc hn ha (tree_tc f _ _ (hn.filter _) (ev_alike ha) h.1) (tree_tc f _ _ (hn.filter _) (od_alike ha) h.2) (by omega)
/-! ### the lost places -/
def Spec (S : List Int) (j : Nat) (L : List Int) : Prop := (∀ x ∈ L, x ∈ S) ∧ L.Nodup ∧ ¬ Has S (fun x => !L.contains x) j ∧ ∀ Z : Int → Bool, ¬ Has S Z j → L.length ≤ (S.filter fun x => !Z x).length
theorem spec_nil {S : List Int} (hn : S.Nodup) {j : Nat} (h : S.length < j) : Spec S j [] :=
  ⟨fun x hx => (nomatch hx), List.nodup_nil, fun hh => by have := has_len hn hh; omega, fun Z _ => Nat.zero_le _⟩
theorem spec_all {S : List Int} (hn : S.Nodup) : Spec S 1 S := by
  refine ⟨fun x h => h, hn, fun ⟨p, hp, hz⟩ => ?_, fun Z hZ => ?_⟩
  · simp [hp] at hz
  · rw [List.filter_eq_self.mpr fun x hx => ?_]
    · exact Nat.le_refl _
    · cases hz : Z x with
      | false => rfl
      | true => exact absurd ⟨x, hx, hz⟩ hZ
theorem tree_spec : ∀ (f : Nat) (S : List Int) (l : Nat), S.Nodup → Alike S l → Halts f S l → ∀ j, 1 ≤ j → j ≤ 3 → Spec S j ((lost (treeF f S l) j).getD [])
  | 0, S, l, hn, ha, h, j, j1, j3 => by
    show Spec S j ((lost (.leaf S) j).getD [])
    unfold lost
    split
    · rename_i hc; exact spec_nil hn hc
    · rename_i hc
      rw [if_neg (by omega)]
      have h : S.length < 2 := h
      have : j = 1 := by omega
      subst this
      exact spec_all hn
  | f + 1, S, l, hn, ha, h, j, j1, j3 => by
    unfold treeF
    split
    · rename_i hc2
      unfold lost
      split
      · rename_i hc; exact spec_nil hn hc
      · rename_i hc
        rw [if_neg (by omega)]
        have : j = 1 := by omega
        subst this
        exact spec_all hn
    · rename_i hc2
      have h := h.resolve_left hc2
      have nE : (evens S l).Nodup := hn.filter _
      have nO : (odds S l).Nodup := hn.filter _
      have sE := tree_spec f (evens S l) (l + 1) nE (ev_alike ha) h.1
      have sO := tree_spec f (odds S l) (l + 1) nO (od_alike ha) h.2
      have tE := tree_tc f (evens S l) (l + 1) nE (ev_alike ha) h.1
      have tO := tree_tc f (odds S l) (l + 1) nO (od_alike ha) h.2
      generalize treeF f (evens S l) (l + 1) = te at *
      generalize treeF f (odds S l) (l + 1) = to' at *
      by_cases hj : S.length < j
      · rw [lost_big (t := .node S _ _ te to') hj]
        exact spec_nil hn hj
      · rw [lost_node j1 (by omega)]
        obtain ⟨s, t, hsp, hst, htj, hG⟩ := split_at hn ha tE tO j1 j3 (by omega)
        have hlen := ev_od l S
        have hat : (bsS te.cs to'.cs).getD j (0, 0) = ((s : Int), (t : Int)) := by
          rw [bsS_at (by rw [tE.len, tO.len]; omega), hsp]
        have hcd : cand (bsS te.cs to'.cs) te to' j = [lost te s, lost to' (j - t)] ++ (List.range (t - s)).map fun i => some ((lost te (s + 1 + i)).getD [] ++ (lost to' (j + 1 - (s + 1 + i))).getD []) := by
          unfold cand
          rw [hat]
          simp only [Int.toNat_natCast]
          rw [show ((t : Int) - (s : Int)).toNat = t - s by omega]
        have hne := cand_ne (sp := bsS te.cs to'.cs) (e := te) (o := to') j1 (by rw [hat]; exact Int.natCast_nonneg s) (by rw [hat]; show (s : Int) ≤ (t : Int); omega) (by rw [hat]; show (t : Int) ≤ (j : Int); omega)
        rw [hcd] at hne ⊢
        -- the candidates are good
        have good : ∀ C : List Int, some C ∈ ([lost te s, lost to' (j - t)] ++ (List.range (t - s)).map fun i => some ((lost te (s + 1 + i)).getD [] ++ (lost to' (j + 1 - (s + 1 + i))).getD [])) → (∀ x ∈ C, x ∈ S) ∧ C.Nodup ∧ ¬ Has S (fun x => !C.contains x) j := by
          intro C hC
          rcases List.mem_append.mp hC with hC | hC
          · rcases List.mem_cons.mp hC with hC | hC
            · have s0 : 1 ≤ s := by
                refine Nat.pos_of_ne_zero fun e => ?_
                rw [e, lost_zero] at hC
                cases hC
              obtain ⟨a1, a2, a3, _⟩ := sE s s0 (by omega)
              rw [← hC] at a1 a2 a3
              refine ⟨fun x hx => (mem_ev.mp (a1 x hx)).1, a2, fun hh => ?_⟩
              obtain ⟨i, h1, h2, h3, _⟩ := (hG _).mp hh
              exact a3 (h3.le h1)
            · have hC := List.mem_singleton.mp hC
              have s0 : 1 ≤ j - t := by
                refine Nat.pos_of_ne_zero fun e => ?_
                rw [e, lost_zero] at hC
                cases hC
              obtain ⟨a1, a2, a3, _⟩ := sO (j - t) s0 (by omega)
              rw [← hC] at a1 a2 a3
              refine ⟨fun x hx => (mem_od.mp (a1 x hx)).1, a2, fun hh => ?_⟩
              obtain ⟨i, h1, h2, _, h3⟩ := (hG _).mp hh
              exact a3 (h3.le (by omega))
          · obtain ⟨i, hi, e⟩ := List.mem_map.mp hC
            have hi := List.mem_range.mp hi
            simp only [Option.some.injEq] at e
            obtain ⟨a1, a2, a3, _⟩ := sE (s + 1 + i) (by omega) (by omega)
            obtain ⟨b1, b2, b3, _⟩ := sO (j + 1 - (s + 1 + i)) (by omega) (by omega)
            generalize (lost te (s + 1 + i)).getD [] = Ce at *
            generalize (lost to' (j + 1 - (s + 1 + i))).getD [] = Co at *
            subst e
            refine ⟨fun x hx => ?_, ?_, fun hh => ?_⟩
            · rcases List.mem_append.mp hx with h | h
              · exact (mem_ev.mp (a1 x h)).1
              · exact (mem_od.mp (b1 x h)).1
            · rw [List.nodup_append]
              exact ⟨a2, b2, fun x hx y hy e => half_dis (a1 x hx) (e ▸ b1 y hy)⟩
            · obtain ⟨k, h1, h2, h3, h4⟩ := (hG _).mp hh
              by_cases hk : s + 1 + i ≤ k
              · refine a3 ((h3.le hk).mono fun x hx => ?_)
                simp at hx ⊢
                exact hx.1
              · refine b3 ((h4.le (by omega)).mono fun x hx => ?_)
                simp at hx ⊢
                exact hx.2
        have hmem := short_mem hne
        obtain ⟨oc, hoc, eo⟩ := List.mem_filterMap.mp hmem
        simp only [id] at eo
        rw [eo] at hoc
        have g := good _ hoc
        show Spec S j (short _)
        refine ⟨g.1, g.2.1, g.2.2, fun Z hZ => ?_⟩
        -- some candidate is short enough
        have enough : ∀ C : List Int, some C ∈ ([lost te s, lost to' (j - t)] ++ (List.range (t - s)).map fun i => some ((lost te (s + 1 + i)).getD [] ++ (lost to' (j + 1 - (s + 1 + i))).getD [])) → C.length ≤ (S.filter fun x => !Z x).length → (short (([lost te s, lost to' (j - t)] ++ (List.range (t - s)).map fun i => some ((lost te (s + 1 + i)).getD [] ++ (lost to' (j + 1 - (s + 1 + i))).getD [])).filterMap id)).length ≤ (S.filter fun x => !Z x).length := fun C hC hl =>
          Nat.le_trans (short_le (List.mem_filterMap.mpr ⟨some C, hC, rfl⟩)) hl
        have hcnt := half_cnt (l := l) (fun x => !Z x) S
        by_cases c1 : Has (evens S l) Z s
        · by_cases c2 : Has (odds S l) Z (j - t)
          · -- between
            have hx : ∃ e, s ≤ e ∧ e < t ∧ Has (evens S l) Z e ∧ ¬ Has (evens S l) Z (e + 1) := by
              have hnt : ¬ Has (evens S l) Z t := fun h => hZ ((hG Z).mpr ⟨t, hst, Nat.le_refl _, h, c2⟩)
              have key : ∀ d, s + d ≤ t → Has (evens S l) Z (s + d) ∨ ∃ e, s ≤ e ∧ e < t ∧ Has (evens S l) Z e ∧ ¬ Has (evens S l) Z (e + 1) := by
                intro d
                induction d with
                | zero => intro _; exact .inl c1
                | succ d ih =>
                  intro hd
                  rcases ih (by omega) with h | h
                  · by_cases c : Has (evens S l) Z (s + d + 1)
                    · exact .inl c
                    · exact .inr ⟨s + d, by omega, by omega, h, c⟩
                  · exact .inr h
              rcases key (t - s) (by omega) with h | h
              · rw [show s + (t - s) = t by omega] at h
                exact absurd h hnt
              · exact h
            obtain ⟨e, e1, e2, e3, e4⟩ := hx
            have hno : ¬ Has (odds S l) Z (j - e) := fun h => hZ ((hG Z).mpr ⟨e, e1, by omega, e3, h⟩)
            obtain ⟨_, _, _, a4⟩ := sE (s + 1 + (e - s)) (by omega) (by omega)
            obtain ⟨_, _, _, b4⟩ := sO (j + 1 - (s + 1 + (e - s))) (by omega) (by omega)
            have a := a4 Z (by rw [show s + 1 + (e - s) = e + 1 by omega]; exact e4)
            have b := b4 Z (by rw [show j + 1 - (s + 1 + (e - s)) = j - e by omega]; exact hno)
            refine enough _ (List.mem_append_right _ (List.mem_map.mpr ⟨e - s, List.mem_range.mpr (by omega), rfl⟩)) ?_
            rw [List.length_append]
            omega
          · have s0 : 1 ≤ j - t := Nat.pos_of_ne_zero fun e => c2 (by rw [e]; trivial)
            obtain ⟨xs, hxs⟩ := lost_some to' s0
            obtain ⟨_, _, _, a4⟩ := sO (j - t) s0 (by omega)
            have a := a4 Z c2
            rw [hxs] at a
            exact enough xs (List.mem_append_left _ (by rw [hxs]; exact List.mem_cons_of_mem _ (List.mem_cons_self ..))) (by simp at a; omega)
        · have s0 : 1 ≤ s := Nat.pos_of_ne_zero fun e => c1 (by rw [e]; trivial)
          obtain ⟨xs, hxs⟩ := lost_some te s0
          obtain ⟨_, _, _, a4⟩ := sE s s0 (by omega)
          have a := a4 Z c1
          rw [hxs] at a
          exact enough xs (List.mem_append_left _ (by rw [hxs]; exact List.mem_cons_self ..)) (by simp at a; omega)
end AP
end
section
namespace AP
/-! ### the row: orders and numbers -/
theorem prodAt_mem {x : Int} : ∀ {l : List Int}, x ∈ l → prodAt l x = 0 := by
  have z : ∀ l : List Int, l.foldl (fun f a => f * (x - a)) 0 = 0 := by
    intro l
    induction l with
    | nil => rfl
    | cons a r ih =>
      show r.foldl _ (0 * (x - a)) = 0
      rw [Int.zero_mul]
      exact ih
  have key : ∀ (l : List Int) (f : Int), x ∈ l → l.foldl (fun f a => f * (x - a)) f = 0 := by
    intro l
    induction l with
    | nil => intro f h; cases h
    | cons a r ih =>
      intro f h
      show r.foldl _ (f * (x - a)) = 0
      rcases List.mem_cons.mp h with h | h
      · rw [h, Int.sub_self, Int.mul_zero, ← h]
        exact z r
      · exact ih _ h
  exact fun {l} h => key l 1 h
theorem prodAt_v2 {x : Int} : ∀ {l : List Int}, x ∉ l → prodAt l x ≠ 0 ∧ v2 (prodAt l x) = tw l x := by
  have key : ∀ (l : List Int) (f : Int), f ≠ 0 → x ∉ l → l.foldl (fun f a => f * (x - a)) f ≠ 0 ∧ v2 (l.foldl (fun f a => f * (x - a)) f) = v2 f + tw l x := by
    intro l
    induction l with
    | nil => intro f h _; exact ⟨h, by simp [tw]⟩
    | cons a r ih =>
      intro f h hx
      rw [List.mem_cons, not_or] at hx
      have hn : x - a ≠ 0 := by omega
      obtain ⟨h1, h2⟩ := ih (f * (x - a)) (Int.mul_ne_zero h hn) hx.2
      refine ⟨h1, ?_⟩
      show v2 (r.foldl _ (f * (x - a))) = _
      rw [h2, v2_mul h hn]
      simp [tw]
      omega
  intro l h
  have := key l 1 (by decide) h
  exact ⟨this.1, by have e := this.2; rw [show v2 1 = 0 from by decide] at e; unfold prodAt; omega⟩
abbrev Od (S : List Int) : List Int := (row S).1
/-- the numbers as naturals -/
def Nn (S : List Int) (i : Nat) : Nat := tw ((Od S).take i) ((Od S).getD i 0)
section
variable {S : List Int}
theorem od_len : (Od S).length = S.length := (row_spec S).1.length_eq
theorem od_mem {x : Int} : x ∈ Od S ↔ x ∈ S := (row_spec S).1.mem_iff
theorem od_nd (h : S.Nodup) : (Od S).Nodup := (row_spec S).1.nodup_iff.mpr h
theorem nm_at {k : Nat} (h : k < S.length) : (row S).2.getD k 0 = (Nn S k : Int) := by
  obtain ⟨a, h1, h2, _⟩ := (row_spec S).2.2 k h
  rw [List.getD_eq_getElem?_getD, h2]
  unfold Nn
  rw [List.getD_eq_getElem?_getD, h1]
  rfl
theorem nm_ge {k : Nat} (h : k < S.length) {p : Int} (hp : p ∈ S) (hn : p ∉ (Od S).take k) : Nn S k ≤ tw ((Od S).take k) p := by
  obtain ⟨a, h1, h2, h3⟩ := (row_spec S).2.2 k h
  have hp := od_mem.mpr hp
  obtain ⟨m, hm⟩ := List.mem_iff_getElem?.mp hp
  have hkm : k ≤ m := by
    refine Decidable.byContradiction fun hc => hn ?_
    refine List.mem_iff_getElem?.mpr ⟨m, ?_⟩
    rw [List.getElem?_take_of_lt (by omega)]
    exact hm
  have := h3 m p hkm hm
  unfold Nn
  rw [List.getD_eq_getElem?_getD, h1]
  exact this
theorem row_dvd {k : Nat} (h : k < S.length) {p : Int} (hp : p ∈ S) : (2 : Int) ^ Nn S k ∣ prodAt ((Od S).take k) p := by
  by_cases c : p ∈ (Od S).take k
  · rw [prodAt_mem c]
    exact Int.dvd_zero _
  · obtain ⟨a, b⟩ := prodAt_v2 c
    rw [dvd_iff a, b]
    exact nm_ge h hp c
theorem od_notin (hn : S.Nodup) {k : Nat} (h : k < S.length) : (Od S).getD k 0 ∉ (Od S).take k := by
  have hl : k < (Od S).length := by rw [od_len]; exact h
  intro hc
  rw [List.getD_eq_getElem?_getD, List.getElem?_eq_getElem hl] at hc
  obtain ⟨i, hi⟩ := List.mem_iff_getElem?.mp hc
  obtain ⟨hi', e⟩ := List.getElem?_eq_some_iff.mp hi
  have hik : i < k := by
    rw [List.length_take] at hi'
    omega
  rw [List.getElem_take] at e
  have := (List.pairwise_iff_getElem.mp (List.nodup_iff_pairwise_ne.mp (od_nd hn))) i k (by omega) hl hik
  exact this e
theorem od_in {k : Nat} (h : k < S.length) : (Od S).getD k 0 ∈ S := by
  have hl : k < (Od S).length := by rw [od_len]; exact h
  rw [List.getD_eq_getElem?_getD, List.getElem?_eq_getElem hl]
  exact od_mem.mp (List.getElem_mem hl)
theorem row_v2 (hn : S.Nodup) {k : Nat} (h : k < S.length) : prodAt ((Od S).take k) ((Od S).getD k 0) ≠ 0 ∧ v2 (prodAt ((Od S).take k) ((Od S).getD k 0)) = Nn S k := prodAt_v2 (od_notin hn h)
theorem take1 (h : 1 ≤ S.length) : (Od S).take 1 = [(Od S).getD 0 0] := by
  have hl := od_len (S := S)
  match e : Od S with
  | [] => rw [e] at hl; simp at hl; omega
  | a :: r => rfl
theorem take2 (h : 2 ≤ S.length) : (Od S).take 2 = [(Od S).getD 0 0, (Od S).getD 1 0] := by
  have hl := od_len (S := S)
  match e : Od S with
  | [] => rw [e] at hl; simp at hl; omega
  | [a] => rw [e] at hl; simp at hl; omega
  | a :: b :: r => rfl
theorem Nn0 : Nn S 0 = 0 := by unfold Nn; simp [tw]
theorem Nn1 (h : 2 ≤ S.length) : Nn S 1 = dd ((Od S).getD 1 0) ((Od S).getD 0 0) := by
  unfold Nn
  rw [take1 (by omega)]
  simp [tw]
theorem Nn2 (h : 3 ≤ S.length) : Nn S 2 = dd ((Od S).getD 2 0) ((Od S).getD 0 0) + dd ((Od S).getD 2 0) ((Od S).getD 1 0) := by
  unfold Nn
  rw [take2 (by omega)]
  simp [tw]
theorem prod1 (h : 1 ≤ S.length) (x : Int) : prodAt ((Od S).take 1) x = x - (Od S).getD 0 0 := by
  rw [take1 h]
  show 1 * (x - _) = _
  rw [Int.one_mul]
theorem prod2 (h : 2 ≤ S.length) (x : Int) : prodAt ((Od S).take 2) x = (x - (Od S).getD 0 0) * (x - (Od S).getD 1 0) := by
  rw [take2 h]
  show 1 * (x - _) * (x - _) = _
  rw [Int.one_mul]
theorem od01 (hn : S.Nodup) (h : 2 ≤ S.length) : (Od S).getD 1 0 ≠ (Od S).getD 0 0 := fun e => by
  have := od_notin hn (show 1 < S.length by omega)
  rw [take1 (by omega), e] at this
  simp at this
theorem od2 (hn : S.Nodup) (h : 3 ≤ S.length) : (Od S).getD 2 0 ≠ (Od S).getD 0 0 ∧ (Od S).getD 2 0 ≠ (Od S).getD 1 0 := by
  have := od_notin hn (show 2 < S.length by omega)
  rw [take2 (by omega)] at this
  simpa using this
/-- the least pair -/
theorem n1_le (hn : S.Nodup) (h : 2 ≤ S.length) {x y : Int} (hx : x ∈ S) (hy : y ∈ S) (hxy : x ≠ y) : Nn S 1 ≤ dd x y := by
  have d1 := row_dvd (show 1 < S.length by omega) hx
  have d2 := row_dvd (show 1 < S.length by omega) hy
  rw [prod1 (by omega)] at d1 d2
  have := Int.dvd_sub d1 d2
  refine (dvd_iff (show x - y ≠ 0 by omega) _).mp ?_
  rwa [show x - (Od S).getD 0 0 - (y - (Od S).getD 0 0) = x - y by omega] at this
theorem vand {M1 M2 : Nat} {a0 a1 x y z : Int} (h : ∀ u, u = x ∨ u = y ∨ u = z → (2 : Int) ^ M1 ∣ u - a0 ∧ (2 : Int) ^ M2 ∣ (u - a0) * (u - a1)) : (2 : Int) ^ (M1 + M2) ∣ (x - y) * (x - z) * (y - z) := by
  have hx := h x (.inl rfl)
  have hy := h y (.inr (.inl rfl))
  have hz := h z (.inr (.inr rfl))
  have m : ∀ {u v : Int}, (2 : Int) ^ M1 ∣ u → (2 : Int) ^ M2 ∣ v → (2 : Int) ^ (M1 + M2) ∣ u * v := fun a b => by
    rw [Int.pow_add]
    exact Int.mul_dvd_mul a b
  have e : (x-y)*(x-z)*(y-z) = -((y-a0)*((z-a0)*(z-a1)) - (z-a0)*((y-a0)*(y-a1)) - (x-a0)*((z-a0)*(z-a1)) + (z-a0)*((x-a0)*(x-a1)) + (x-a0)*((y-a0)*(y-a1)) - (y-a0)*((x-a0)*(x-a1))) := by grind
  rw [e, Int.dvd_neg]
  exact Int.dvd_sub (Int.dvd_add (Int.dvd_add (Int.dvd_sub (Int.dvd_sub (m hy.1 hz.2) (m hz.1 hy.2)) (m hx.1 hz.2)) (m hz.1 hx.2)) (m hx.1 hy.2)) (m hy.1 hx.2)
theorem v2_vand {x y z : Int} (h1 : x ≠ y) (h2 : x ≠ z) (h3 : y ≠ z) : (x - y) * (x - z) * (y - z) ≠ 0 ∧ v2 ((x - y) * (x - z) * (y - z)) = s3 x y z := by
  have a : x - y ≠ 0 := by omega
  have b : x - z ≠ 0 := by omega
  have c : y - z ≠ 0 := by omega
  refine ⟨Int.mul_ne_zero (Int.mul_ne_zero a b) c, ?_⟩
  rw [v2_mul (Int.mul_ne_zero a b) c, v2_mul a b]
  rfl
theorem n2_le (hn : S.Nodup) (h : 3 ≤ S.length) {x y z : Int} (hx : x ∈ S) (hy : y ∈ S) (hz : z ∈ S) (h1 : x ≠ y) (h2 : x ≠ z) (h3 : y ≠ z) : Nn S 1 + Nn S 2 ≤ s3 x y z := by
  obtain ⟨e1, e2⟩ := v2_vand h1 h2 h3
  rw [← e2]
  refine (dvd_iff e1 _).mp (vand (a0 := (Od S).getD 0 0) (a1 := (Od S).getD 1 0) fun u hu => ?_)
  have hus : u ∈ S := by rcases hu with rfl | rfl | rfl <;> assumption
  have d1 := row_dvd (show 1 < S.length by omega) hus
  have d2 := row_dvd (show 2 < S.length by omega) hus
  rw [prod1 (by omega)] at d1
  rw [prod2 (by omega)] at d2
  exact ⟨d1, d2⟩
theorem n12 (h : 3 ≤ S.length) : s3 ((Od S).getD 0 0) ((Od S).getD 1 0) ((Od S).getD 2 0) = Nn S 1 + Nn S 2 := by
  rw [Nn1 (by omega), Nn2 h]
  unfold s3
  rw [dd_comm ((Od S).getD 0 0) ((Od S).getD 1 0), dd_comm ((Od S).getD 0 0) ((Od S).getD 2 0), dd_comm ((Od S).getD 1 0) ((Od S).getD 2 0)]
  omega
theorem b2_is (hn : S.Nodup) {p q : Int} (b : B2 S p q) : dd p q = Nn S 1 := by
  have h := b2_len b
  refine Nat.le_antisymm ?_ (n1_le hn h b.1 b.2.1 b.2.2.1)
  rw [Nn1 h]
  exact b.2.2.2 _ (od_in (by omega)) _ (od_in (by omega)) (od01 hn h)
theorem b3_is (hn : S.Nodup) {p q r : Int} (b : B3 S p q r) : s3 p q r = Nn S 1 + Nn S 2 := by
  have h := b3_len hn b
  refine Nat.le_antisymm ?_ (n2_le hn h b.1.1 b.1.2.1 b.1.2.2 b.2.1.1 b.2.1.2.1 b.2.1.2.2)
  rw [← n12 h]
  obtain ⟨e1, e2⟩ := od2 hn h
  exact b.2.2 _ (od_in (by omega)) _ (od_in (by omega)) _ (od_in (by omega)) (Ne.symm (od01 hn (by omega))) (Ne.symm e1) (Ne.symm e2)
theorem n1_n2 (hn : S.Nodup) (h : 3 ≤ S.length) : Nn S 1 ≤ Nn S 2 := by
  rw [Nn2 h]
  have := n1_le hn (by omega) (od_in (S := S) (k := 2) (by omega)) (od_in (S := S) (k := 0) (by omega)) (od2 hn h).1
  omega
/-- how many items -/
theorem kc_spec (hn : S.Nodup) {w c : Nat} (hc : c ≤ 3) : kc w (row S).2 c ≤ c ∧ kc w (row S).2 c ≤ S.length ∧ ∀ j, j < c → j < S.length → (Nn S j < w ↔ j < kc w (row S).2 c) := by
  have hl := (row_spec S).2.1
  have a0 := fun h => nm_at (S := S) (k := 0) h
  have a1 := fun h => nm_at (S := S) (k := 1) h
  have a2 := fun h => nm_at (S := S) (k := 2) h
  have z := Nn0 (S := S)
  have m12 := n1_n2 hn
  unfold kc
  generalize (row S).2 = nm at *
  match c, hc with
  | 0, _ => exact ⟨Nat.le_refl _, Nat.zero_le _, fun j h => absurd h (by omega)⟩
  | 1, _ =>
    match nm, hl with
    | [], hl => exact ⟨by simp, by simp, fun j h h2 => by simp at hl; omega⟩
    | a :: r, hl =>
      have b0 := a0 (by rw [← hl]; simp)
      simp at b0 hl
      refine ⟨?_, ?_, fun j h h2 => ?_⟩
      · simp [List.filter_cons]; split <;> simp
      · simp [List.filter_cons]; split <;> simp <;> omega
      · have : j = 0 := by omega
        subst this
        simp [List.filter_cons]
        split <;> simp <;> omega
  | 2, _ =>
    match nm, hl with
    | [], hl => exact ⟨by simp, by simp, fun j h h2 => by simp at hl; omega⟩
    | [a], hl =>
      have b0 := a0 (by rw [← hl]; simp)
      simp at b0 hl
      refine ⟨?_, ?_, fun j h h2 => ?_⟩
      · simp [List.filter_cons]; split <;> simp
      · simp [List.filter_cons]; split <;> simp <;> omega
      · have : j = 0 := by omega
        subst this
        simp [List.filter_cons]
        split <;> simp <;> omega
    | a :: b :: r, hl =>
      have b0 := a0 (by rw [← hl]; simp)
      have b1 := a1 (by rw [← hl]; simp)
      simp at b0 b1 hl
      refine ⟨?_, ?_, fun j h h2 => ?_⟩
      · simp [List.filter_cons]; split <;> split <;> simp
      · simp [List.filter_cons]; split <;> split <;> simp <;> omega
      · have : j = 0 ∨ j = 1 := by omega
        simp [List.filter_cons]
        rcases this with rfl | rfl <;> split <;> split <;> simp <;> omega
  | 3, _ =>
    match nm, hl with
    | [], hl => exact ⟨by simp, by simp, fun j h h2 => by simp at hl; omega⟩
    | [a], hl =>
      have b0 := a0 (by rw [← hl]; simp)
      simp at b0 hl
      refine ⟨?_, ?_, fun j h h2 => ?_⟩
      · simp [List.filter_cons]; split <;> simp
      · simp [List.filter_cons]; split <;> simp <;> omega
      · have : j = 0 := by omega
        subst this
        simp [List.filter_cons]
        split <;> simp <;> omega
    | [a, b], hl =>
      have b0 := a0 (by rw [← hl]; simp)
      have b1 := a1 (by rw [← hl]; simp)
      simp at b0 b1 hl
      refine ⟨?_, ?_, fun j h h2 => ?_⟩
      · simp [List.filter_cons]; split <;> split <;> simp
      · simp [List.filter_cons]; split <;> split <;> simp <;> omega
      · have : j = 0 ∨ j = 1 := by omega
        simp [List.filter_cons]
        rcases this with rfl | rfl <;> split <;> split <;> simp <;> omega
    | a :: b :: d :: r, hl =>
      have b0 := a0 (by rw [← hl]; simp)
      have b1 := a1 (by rw [← hl]; simp)
      have b2 := a2 (by rw [← hl]; simp)
      have m := m12 (by rw [← hl]; simp)
      simp at b0 b1 b2 hl
      refine ⟨?_, ?_, fun j h h2 => ?_⟩
      · simp [List.filter_cons]; split <;> split <;> split <;> simp
      · simp [List.filter_cons]; split <;> split <;> split <;> simp <;> omega
      · have : j = 0 ∨ j = 1 ∨ j = 2 := by omega
        simp [List.filter_cons]
        rcases this with rfl | rfl | rfl <;> split <;> split <;> split <;> simp <;> omega
end
end AP
end
section
namespace AP
/-! ### polynomials with few items -/
def Pol (d : Nat) (h : Int → Int) : Prop := ∃ c0 c1 c2 : Int, (∀ p, h p = c0 + c1 * p + c2 * (p * p)) ∧ (d ≤ 2 → c2 = 0) ∧ (d ≤ 1 → c1 = 0) ∧ (d = 0 → c0 = 0)
theorem Pol.sub {d : Nat} {g h : Int → Int} : Pol d g → Pol d h → Pol d fun p => g p - h p
  | ⟨a0, a1, a2, ha, x2, x1, x0⟩, ⟨b0, b1, b2, hb, y2, y1, y0⟩ => ⟨a0 - b0, a1 - b1, a2 - b2, fun p => by show g p - h p = _; rw [ha, hb]; grind, fun h => by rw [x2 h, y2 h]; rfl, fun h => by rw [x1 h, y1 h]; rfl, fun h => by rw [x0 h, y0 h]; rfl⟩
theorem Pol.add {d : Nat} {g h : Int → Int} : Pol d g → Pol d h → Pol d fun p => g p + h p
  | ⟨a0, a1, a2, ha, x2, x1, x0⟩, ⟨b0, b1, b2, hb, y2, y1, y0⟩ => ⟨a0 + b0, a1 + b1, a2 + b2, fun p => by show g p + h p = _; rw [ha, hb]; grind, fun h => by rw [x2 h, y2 h]; rfl, fun h => by rw [x1 h, y1 h]; rfl, fun h => by rw [x0 h, y0 h]; rfl⟩
theorem Pol.smul {d : Nat} {g : Int → Int} (u : Int) : Pol d g → Pol d fun p => u * g p
  | ⟨a0, a1, a2, ha, x2, x1, x0⟩ => ⟨u * a0, u * a1, u * a2, fun p => by show u * g p = _; rw [ha]; grind, fun h => by rw [x2 h]; simp, fun h => by rw [x1 h]; simp, fun h => by rw [x0 h]; simp⟩
theorem Pol.up {d e : Nat} (h : d ≤ e) {g : Int → Int} : Pol d g → Pol e g
  | ⟨a0, a1, a2, ha, x2, x1, x0⟩ => ⟨a0, a1, a2, ha, fun k => x2 (by omega), fun k => x1 (by omega), fun k => x0 (by omega)⟩
theorem pol_zero (d : Nat) : Pol d fun _ => 0 := ⟨0, 0, 0, fun p => by simp, fun _ => rfl, fun _ => rfl, fun _ => rfl⟩
theorem pol_const {d : Nat} (h : 1 ≤ d) (u : Int) : Pol d fun _ => u := ⟨u, 0, 0, fun p => by simp, fun _ => rfl, fun _ => rfl, fun k => by omega⟩
theorem Pol.div {d : Nat} {g : Int → Int} (a : Int) : Pol (d + 1) g → ∃ h, Pol d h ∧ ∀ p, g p = g a + (p - a) * h p
  | ⟨a0, a1, a2, ha, x2, x1, x0⟩ => ⟨fun p => (a1 + a2 * a) + a2 * p, ⟨a1 + a2 * a, a2, 0, fun p => by show a1 + a2 * a + a2 * p = _; grind, fun _ => rfl, fun h => x2 (by omega), fun h => by rw [x2 (by omega), x1 (by omega)]; simp⟩, fun p => by rw [ha p, ha a]; grind⟩
theorem pol_prod {l : List Int} (h : l.length ≤ 2) : Pol (l.length + 1) (prodAt l) := by
  match l, h with
  | [], _ => exact pol_const (by decide) 1
  | [a], _ => exact ⟨-a, 1, 0, fun p => by show 1 * (p - a) = _; grind, fun _ => rfl, fun h => by simp at h, fun h => by simp at h⟩
  | [a, b], _ => exact ⟨a * b, -(a + b), 1, fun p => by show 1 * (p - a) * (p - b) = _; grind, fun h => by simp at h, fun h => by simp at h, fun h => by simp at h⟩
theorem pol_take {l : List Int} {i c : Nat} (h : i < c) (hc : c ≤ 3) : Pol c (prodAt (l.take i)) := by
  have hl : (l.take i).length ≤ i := by rw [List.length_take]; omega
  exact (pol_prod (by omega)).up (by omega)
theorem pol_val {od it : List Int} {c : Nat} (h : it.length ≤ c) (hc : c ≤ 3) : Pol c (valAt od it) := by
  match it, h with
  | [], _ => exact pol_zero c
  | [u], h =>
    have e : valAt od [u] = fun x => u * prodAt (od.take 0) x := by funext x; simp [valAt, List.range_succ]
    rw [e]
    exact (pol_take (by simp at h; omega) hc).smul u
  | [u, v], h =>
    have e : valAt od [u, v] = fun x => u * prodAt (od.take 0) x + v * prodAt (od.take 1) x := by funext x; simp [valAt, List.range_succ]
    rw [e]
    simp at h
    exact ((pol_take (by omega) hc).smul u).add ((pol_take (by omega) hc).smul v)
  | [u, v, z], h =>
    have e : valAt od [u, v, z] = fun x => u * prodAt (od.take 0) x + v * prodAt (od.take 1) x + z * prodAt (od.take 2) x := by funext x; simp [valAt, List.range_succ]; omega
    rw [e]
    simp at h
    exact (((pol_take (by omega) hc).smul u).add ((pol_take (by omega) hc).smul v)).add ((pol_take (by omega) hc).smul z)
  | _ :: _ :: _ :: _ :: _, h => simp at h; omega
/-! ### a polynomial that vanishes on a best choice vanishes -/
theorem div_v2 {w : Nat} {x y : Int} {v : Nat} (h : (2 : Int) ^ (w + v) ∣ x * y) (hy : y ≠ 0) (hv : v2 y = v) : (2 : Int) ^ w ∣ x := by
  by_cases hx : x = 0
  · rw [hx]; exact Int.dvd_zero _
  · have := (dvd_iff (Int.mul_ne_zero hx hy) _).mp h
    rw [v2_mul hx hy] at this
    exact (dvd_iff hx _).mpr (by omega)
theorem dvd_mul2 {a b : Nat} {x y : Int} (h1 : (2 : Int) ^ a ∣ x) (h2 : (2 : Int) ^ b ∣ y) : (2 : Int) ^ (a + b) ∣ x * y := by
  rw [Int.pow_add]
  exact Int.mul_dvd_mul h1 h2
theorem dd_dvd {p q : Int} {k : Nat} (h : p ≠ q → k ≤ dd p q) : (2 : Int) ^ k ∣ p - q := by
  by_cases e : p = q
  · rw [e, Int.sub_self]; exact Int.dvd_zero _
  · exact (dvd_iff (by omega) _).mpr (h e)
section
variable {S : List Int} {w c : Nat}
theorem vanish (hn : S.Nodup) (hc1 : 1 ≤ c) (hc : c ≤ 3) (hK : 1 ≤ kc w (row S).2 c) {g : Int → Int} (hg : Pol c g) (hz : Has S (fun p => decide ((2 : Int) ^ w ∣ g p)) (kc w (row S).2 c)) : ∀ p ∈ S, (2 : Int) ^ w ∣ g p := by
  obtain ⟨k1, k2, k3⟩ := kc_spec hn (w := w) hc
  generalize kc w (row S).2 c = K at *
  obtain ⟨c0, c1, c2, hgp, x2, x1, x0⟩ := hg
  have hK3 : K = 1 ∨ K = 2 ∨ K = 3 := by omega
  intro p hp
  rcases hK3 with rfl | rfl | rfl
  · obtain ⟨q, hq, hz⟩ := hz
    have hz := of_decide_eq_true hz
    have hd : (2 : Int) ^ w ∣ g p - g q := by
      by_cases e : p = q
      · rw [e, Int.sub_self]; exact Int.dvd_zero _
      by_cases c1' : c ≤ 1
      · rw [hgp, hgp, x1 c1', x2 (by omega)]
        simp
      · have h2 := two_len hp hq e
        have hw : w ≤ Nn S 1 := by
          have := (k3 1 (by omega) (by omega)).mp
          omega
        have d : (2 : Int) ^ w ∣ p - q := dd_dvd fun e => Nat.le_trans hw (n1_le hn h2 hp hq e)
        rw [show g p - g q = (p - q) * (c1 + c2 * (p + q)) by rw [hgp, hgp]; grind]
        exact Int.dvd_trans d (Int.dvd_mul_right _ _)
    have := Int.dvd_add hd hz
    rwa [show g p - g q + g q = g p by omega] at this
  · obtain ⟨b0, b1, b, z0, z1⟩ := hz
    have z0 := of_decide_eq_true z0
    have z1 := of_decide_eq_true z1
    by_cases e0 : p = b0
    · rw [e0]; exact z0
    by_cases e1 : p = b1
    · rw [e1]; exact z1
    have hn1 := b2_is hn b
    have hl := b2_len b
    have le := fun {x y : Int} (hx : x ∈ S) (hy : y ∈ S) (h : x ≠ y) => n1_le hn hl hx hy h
    refine div_v2 (y := b0 - b1) (v := Nn S 1) ?_ (by have := b.2.2.1; omega) hn1
    have e : g p * (b0 - b1) = g b0 * (p - b1) - g b1 * (p - b0) + c2 * ((p - b0) * (p - b1) * (b0 - b1)) := by rw [hgp, hgp, hgp]; grind
    rw [e]
    refine Int.dvd_add (Int.dvd_sub (dvd_mul2 z0 (dd_dvd fun h => le hp b.2.1 h)) (dvd_mul2 z1 (dd_dvd fun h => le hp b.1 h))) ?_
    by_cases c2' : c ≤ 2
    · rw [x2 c2', Int.zero_mul]; exact Int.dvd_zero _
    · have hl3 : 3 ≤ S.length := by
        have hs : ([p, b0, b1] : List Int).Nodup := by simp; exact ⟨⟨e0, e1⟩, b.2.2.1⟩
        have hsub : ∀ x ∈ [p, b0, b1], x ∈ S := by
          intro x hx
          simp at hx
          rcases hx with rfl | rfl | rfl
          · exact hp
          · exact b.1
          · exact b.2.1
        exact List.Nodup.length_le_of_subset hs hsub
      have hw : w ≤ Nn S 2 := by
        have := (k3 2 (by omega) (by omega)).mp
        omega
      obtain ⟨e1', e2'⟩ := v2_vand (x := p) (y := b0) (z := b1) e0 e1 b.2.2.1
      refine Int.dvd_trans ((dvd_iff e1' _).mpr ?_) (Int.dvd_mul_left _ _)
      rw [e2']
      have := n2_le hn hl3 hp b.1 b.2.1 e0 e1 b.2.2.1
      omega
  · obtain ⟨b0, b1, b2, b, z0, z1, z2⟩ := hz
    have z0 := of_decide_eq_true z0
    have z1 := of_decide_eq_true z1
    have z2 := of_decide_eq_true z2
    by_cases e0 : p = b0
    · rw [e0]; exact z0
    by_cases e1 : p = b1
    · rw [e1]; exact z1
    by_cases e2 : p = b2
    · rw [e2]; exact z2
    have hs := b3_is hn b
    have hl := b3_len hn b
    obtain ⟨m0, m1, m2⟩ := b.1
    obtain ⟨n01, n02, n12⟩ := b.2.1
    have le : ∀ {x y z : Int}, x ∈ S → y ∈ S → z ∈ S → x ≠ y → x ≠ z → y ≠ z → (2 : Int) ^ (Nn S 1 + Nn S 2) ∣ (x - y) * (x - z) * (y - z) := fun hx hy hz h1 h2 h3 => by
      obtain ⟨a, a'⟩ := v2_vand h1 h2 h3
      refine (dvd_iff a _).mpr ?_
      rw [a']
      exact n2_le hn hl hx hy hz h1 h2 h3
    obtain ⟨v1, v2'⟩ := v2_vand n01 n02 n12
    refine div_v2 (y := (b0 - b1) * (b0 - b2) * (b1 - b2)) (v := Nn S 1 + Nn S 2) ?_ v1 (by rw [v2', hs])
    have e : g p * ((b0 - b1) * (b0 - b2) * (b1 - b2)) = g b0 * ((p - b1) * (p - b2) * (b1 - b2)) + g b1 * ((b0 - p) * (b0 - b2) * (p - b2)) + g b2 * ((b0 - b1) * (b0 - p) * (b1 - p)) := by
      rw [hgp, hgp, hgp, hgp]; grind
    rw [e]
    exact Int.dvd_add (Int.dvd_add (dvd_mul2 z0 (le hp m1 m2 e1 e2 n12)) (dvd_mul2 z1 (le m0 hp m2 (Ne.symm e0) n02 e2))) (dvd_mul2 z2 (le m0 m1 hp n01 (Ne.symm e0) (Ne.symm e1)))
end
end AP
end
section
namespace AP
/-! ### words, distance -/
theorem map_getD {S : List Int} {F : Int → Int} {i : Nat} (h : i < S.length) : (S.map F).getD i 0 = F (S.getD i 0) := by
  rw [List.getD_eq_getElem?_getD, List.getElem?_map, List.getD_eq_getElem?_getD, List.getElem?_eq_getElem h]
  rfl
theorem dif_map (S : List Int) (F G : Int → Int) : dif (S.map F) (S.map G) = (S.filter fun p => !decide (F p = G p)).length := by
  unfold dif
  rw [List.length_map]
  have e1 : (List.range S.length).filter (fun i => !decide ((S.map F).getD i 0 = (S.map G).getD i 0)) = (List.range S.length).filter fun i => !decide (F (S.getD i 0) = G (S.getD i 0)) := by
    apply List.filter_congr
    intro i hi
    have hi := List.mem_range.mp hi
    rw [map_getD hi, map_getD hi]
  rw [e1]
  have e2 : S = (List.range S.length).map fun i => S.getD i 0 := by
    apply List.ext_getElem
    · simp
    · intro i h1 h2
      simp [h1]
  have e3 : (S.filter fun p => !decide (F p = G p)) = ((List.range S.length).map fun i => S.getD i 0).filter fun p => !decide (F p = G p) := by rw [← e2]
  rw [e3, List.filter_map, List.length_map]
  rfl
theorem emod_iff {w : Nat} {a b : Int} : a % 2 ^ w = b % 2 ^ w ↔ (2 : Int) ^ w ∣ a - b := Int.emod_eq_emod_iff_emod_sub_eq_zero.trans ⟨Int.dvd_of_emod_eq_zero, Int.emod_eq_zero_of_dvd⟩
def wd (w : Nat) (S : List Int) (g : Int → Int) : List Int := S.map fun p => g p % 2 ^ w
theorem wd_eq {w : Nat} {S : List Int} {g h : Int → Int} (e : ∀ p ∈ S, (2 : Int) ^ w ∣ g p - h p) : wd w S g = wd w S h := List.map_congr_left fun p hp => emod_iff.mpr (e p hp)
theorem wd_range {w : Nat} {S : List Int} {g : Int → Int} : ∀ z ∈ wd w S g, 0 ≤ z ∧ z < 2 ^ w := fun z hz => by
  obtain ⟨p, _, e⟩ := List.mem_map.mp hz
  rw [← e]
  exact ⟨Int.emod_nonneg _ (pow_ne w), Int.emod_lt_of_pos _ (pow_pos w)⟩
section
variable {S : List Int} {w c : Nat} {L : List Int}
/-- two unlike code words lie far apart -/
theorem apart (hn : S.Nodup) (hc1 : 1 ≤ c) (hc : c ≤ 3) (hK : 1 ≤ kc w (row S).2 c) (hL : Spec S (kc w (row S).2 c) L) {g h : Int → Int} (hg : Pol c g) (hh : Pol c h) (hne : wd w S g ≠ wd w S h) : L.length ≤ dif (wd w S g) (wd w S h) := by
  have e : dif (wd w S g) (wd w S h) = (S.filter fun p => !decide ((2 : Int) ^ w ∣ g p - h p)).length := by
    unfold wd
    rw [dif_map]
    congr 1
    apply List.filter_congr
    intro p _
    congr 1
    exact decide_eq_decide.mpr emod_iff
  rw [e]
  refine hL.2.2.2 _ fun hz => hne ?_
  exact wd_eq (vanish hn hc1 hc hK (hg.sub hh) hz)
/-! ### the lightest word -/
theorem k_pos (hn : S.Nodup) (hc1 : 1 ≤ c) (hc : c ≤ 3) (hw : 1 ≤ w) (hS : S ≠ []) : 1 ≤ kc w (row S).2 c := by
  have := (kc_spec hn (w := w) hc).2.2 0 (by omega) (List.length_pos_iff.mpr hS)
  rw [Nn0] at this
  omega
/-- a best choice is there -/
theorem has_all (hn : S.Nodup) {j : Nat} (hj : j ≤ S.length) (h3 : j ≤ 3) : Has S (fun _ => true) j := by
  match j, hj, h3 with
  | 0, _, _ => trivial
  | 1, hj, _ => exact ⟨_, od_in (k := 0) (by omega), rfl⟩
  | 2, hj, _ =>
    obtain ⟨p, q, b⟩ := ex_b2 hn hj
    exact ⟨p, q, b, rfl, rfl⟩
  | 3, hj, _ =>
    obtain ⟨e1, e2⟩ := od2 hn hj
    refine ⟨(Od S).getD 0 0, (Od S).getD 1 0, (Od S).getD 2 0, ⟨⟨od_in (by omega), od_in (by omega), od_in (by omega)⟩, ⟨Ne.symm (od01 hn (by omega)), Ne.symm e1, Ne.symm e2⟩, fun x hx y hy z hz h1 h2 h3 => ?_⟩, rfl, rfl, rfl⟩
    rw [n12 hj]
    exact n2_le hn hj hx hy hz h1 h2 h3
theorem spec_ne (hn : S.Nodup) {j : Nat} (hj : j ≤ S.length) (h3 : j ≤ 3) (hL : Spec S j L) : L ≠ [] := by
  intro e
  refine hL.2.2.1 ?_
  rw [e]
  exact Has.mono (fun x _ => by simp) (has_all hn hj h3)
/-- a part with numbers as small has a best choice -/
theorem has_part {P : List Int} (hn : S.Nodup) (hP : P.Nodup) (hsub : ∀ x ∈ P, x ∈ S) {K : Nat} (hK : K ≤ 3) (h : ∀ i, i < K → i < P.length ∧ Nn P i ≤ Nn S i) : Has S (fun x => decide (x ∈ P)) K := by
  match K, hK, h with
  | 0, _, _ => trivial
  | 1, _, h => exact ⟨_, hsub _ (od_in (h 0 (by omega)).1), decide_eq_true (od_in (h 0 (by omega)).1)⟩
  | 2, _, h =>
    obtain ⟨h1, h2⟩ := h 1 (by omega)
    have i0 := od_in (S := P) (k := 0) (by omega)
    have i1 := od_in (S := P) (k := 1) (by omega)
    have n := od01 hP (by omega)
    refine ⟨_, _, ⟨hsub _ i1, hsub _ i0, n, fun x hx y hy hxy => ?_⟩, decide_eq_true i1, decide_eq_true i0⟩
    rw [← Nn1 (by omega)]
    exact Nat.le_trans h2 (n1_le hn (two_len hx hy hxy) hx hy hxy)
  | 3, _, h =>
    obtain ⟨h1, h2⟩ := h 2 (by omega)
    obtain ⟨_, h3⟩ := h 1 (by omega)
    have i0 := od_in (S := P) (k := 0) (by omega)
    have i1 := od_in (S := P) (k := 1) (by omega)
    have i2 := od_in (S := P) (k := 2) (by omega)
    obtain ⟨e1, e2⟩ := od2 hP (by omega)
    have n := od01 hP (by omega)
    refine ⟨_, _, _, ⟨⟨hsub _ i0, hsub _ i1, hsub _ i2⟩, ⟨Ne.symm n, Ne.symm e1, Ne.symm e2⟩, fun x hx y hy z hz a1 a2 a3 => ?_⟩, decide_eq_true i0, decide_eq_true i1, decide_eq_true i2⟩
    rw [n12 (by omega)]
    have hl : 3 ≤ S.length := Nat.le_trans (by omega) (List.Nodup.length_le_of_subset hP hsub)
    have := n2_le hn hl hx hy hz a1 a2 a3
    omega
/-- the product of the lacking item does not vanish everywhere -/
theorem hid_not {P : List Int} (hn : S.Nodup) (hP : P.Nodup) (hsub : ∀ x ∈ P, x ∈ S) {j : Nat} (hj3 : j < 3) (hjS : j < S.length) (hjP : j ≤ P.length) (hlow : ∀ i, i < j → Nn P i ≤ Nn S i) : ¬ ∀ x ∈ S, (2 : Int) ^ (Nn S j + 1) ∣ prodAt ((Od P).take j) x := by
  intro h
  match j, hj3 with
  | 0, _ =>
    have := h _ (od_in (k := 0) (by omega))
    rw [List.take_zero, Nn0] at this
    have := Int.le_of_dvd (by decide) (show (2 : Int) ^ 1 ∣ 1 from this)
    omega
  | 1, _ =>
    have d1 := h _ (od_in (k := 1) (by omega))
    have d0 := h _ (od_in (k := 0) (by omega))
    rw [prod1 (by omega)] at d1 d0
    have d := Int.dvd_sub d1 d0
    rw [show (Od S).getD 1 0 - (Od P).getD 0 0 - ((Od S).getD 0 0 - (Od P).getD 0 0) = (Od S).getD 1 0 - (Od S).getD 0 0 by omega] at d
    have n := od01 hn (by omega)
    have := (dvd_iff (by omega) _).mp d
    have e := Nn1 (S := S) (by omega)
    unfold dd at e
    omega
  | 2, _ =>
    obtain ⟨e1, e2⟩ := od2 hn (by omega)
    have n := od01 hn (by omega)
    have d : (2 : Int) ^ (Nn S 1 + (Nn S 2 + 1)) ∣ _ := vand (a0 := (Od P).getD 0 0) (a1 := (Od P).getD 1 0) (x := (Od S).getD 0 0) (y := (Od S).getD 1 0) (z := (Od S).getD 2 0) fun u hu => by
      have hus : u ∈ S := by
        rcases hu with rfl | rfl | rfl <;> exact od_in (by omega)
      have d2 := h u hus
      rw [prod2 (by omega)] at d2
      exact ⟨dd_dvd fun hne => n1_le hn (by omega) hus (hsub _ (od_in (by omega))) hne, d2⟩
    obtain ⟨v1, v2'⟩ := v2_vand (Ne.symm n) (Ne.symm e1) (Ne.symm e2)
    have := (dvd_iff v1 _).mp d
    rw [v2', n12 (by omega)] at this
    omega
end
end AP
end
section
namespace AP
section
variable {S : List Int} {w c : Nat}
theorem find_spec {p : Nat → Bool} {m : Nat} (h : ∃ i, i < m ∧ p i = true) : ∃ i, (List.range m).find? p = some i ∧ i < m ∧ p i = true ∧ ∀ j, j < i → p j = false := by
  obtain ⟨i, ⟨hi, hp⟩, hmin⟩ := least h
  refine ⟨i, ?_, hi, hp, fun j hj => ?_⟩
  · rw [List.find?_range_eq_some]
    refine ⟨hp, List.mem_range.mpr hi, fun j hj => ?_⟩
    cases e : p j with
    | false => rfl
    | true =>
      have := hmin j ⟨by omega, e⟩
      omega
  · cases e : p j with
    | false => rfl
    | true =>
      have := hmin j ⟨by omega, e⟩
      omega
/-- what lacks in the part -/
theorem lack_spec (hn : S.Nodup) {P : List Int} (hP : P.Nodup) (hsub : ∀ x ∈ P, x ∈ S) {K : Nat} (hK : K ≤ 3) (hKS : K ≤ S.length) (hno : ¬ Has S (fun x => decide (x ∈ P)) K) :
    ∃ j, lack (row S).2 (row P).2 K = some j ∧ j < K ∧ j ≤ P.length ∧ (j < P.length → Nn S j < Nn P j) ∧ ∀ i, i < j → Nn P i ≤ Nn S i := by
  have hlen : (row P).2.length = P.length := (row_spec P).2.1
  have hp : ∀ i, i < K → (((decide ((row P).2.length ≤ i)) || decide ((row S).2.getD i 0 < (row P).2.getD i 0)) = false → i < P.length ∧ Nn P i ≤ Nn S i) := by
    intro i hi h
    rw [Bool.or_eq_false_iff, decide_eq_false_iff_not, decide_eq_false_iff_not, hlen] at h
    have a : i < P.length := by omega
    rw [nm_at a, nm_at (by omega)] at h
    exact ⟨a, by omega⟩
  obtain ⟨j, h1, h2, h3, h4⟩ := find_spec (p := fun i => decide ((row P).2.length ≤ i) || decide ((row S).2.getD i 0 < (row P).2.getD i 0)) (m := K) (by
    refine Decidable.byContradiction fun hc => hno ?_
    refine has_part hn hP hsub hK fun i hi => hp i hi ?_
    cases e : (decide ((row P).2.length ≤ i) || decide ((row S).2.getD i 0 < (row P).2.getD i 0)) with
    | false => rfl
    | true => exact absurd ⟨i, hi, e⟩ hc)
  refine ⟨j, h1, h2, ?_, fun hj => ?_, fun i hi => (hp i (by omega) (h4 i hi)).2⟩
  · by_cases j0 : j = 0
    · omega
    · have := (hp (j - 1) (by omega) (h4 (j - 1) (by omega))).1
      omega
  · rw [Bool.or_eq_true, decide_eq_true_eq, decide_eq_true_eq, hlen, nm_at hj, nm_at (by omega)] at h3
    omega
/-- the exponent of the hidden word -/
def hidE (w : Nat) (P : List Int) (j : Nat) : Nat := if j < P.length then ((w : Int) - (if (row P).2.getD j 0 < (w : Int) then (row P).2.getD j 0 else (w : Int))).toNat else 0
theorem hid_wd {P : List Int} {j : Nat} : hid w S P j = wd w S fun x => prodAt ((Od P).take j) x * 2 ^ hidE w P j := rfl
theorem hidE_is {P : List Int} {j : Nat} (h : j < P.length) : hidE w P j = w - min (Nn P j) w := by
  unfold hidE
  rw [if_pos h, nm_at h]
  split <;> omega
theorem part_mem {K : Nat} {x : Int} : x ∈ part S K ↔ x ∈ S ∧ x ∉ lostL S K := by
  unfold part
  rw [List.mem_filter]
  simp
/-- it vanishes on the part -/
theorem hid_part {P : List Int} {j : Nat} (hjP : j ≤ P.length) {x : Int} (hx : x ∈ P) : (2 : Int) ^ w ∣ prodAt ((Od P).take j) x * 2 ^ hidE w P j := by
  by_cases h : j < P.length
  · rw [hidE_is h]
    have d := Int.dvd_trans (pow_dvd (Nat.min_le_left (Nn P j) w)) (row_dvd h hx)
    have := dvd_mul2 d (Int.dvd_refl ((2 : Int) ^ (w - min (Nn P j) w)))
    rwa [show min (Nn P j) w + (w - min (Nn P j) w) = w by omega] at this
  · have e : (Od P).take j = Od P := List.take_of_length_le (by rw [od_len]; omega)
    rw [e, prodAt_mem (od_mem.mpr hx), Int.zero_mul]
    exact Int.dvd_zero _
theorem pow_cancel {w a b : Nat} {x : Int} (e : w = a + b) (h : (2 : Int) ^ w ∣ x * 2 ^ b) : (2 : Int) ^ a ∣ x := by
  rw [e, Int.pow_add] at h
  exact Int.dvd_of_mul_dvd_mul_right (pow_ne b) h
/-- a nonzero code word that vanishes on the part has as many nonzero places as are lost -/
theorem light_cnt (hn : S.Nodup) (hc1 : 1 ≤ c) (hc : c ≤ 3) (hK : 1 ≤ kc w (row S).2 c) (hL : Spec S (kc w (row S).2 c) (lostL S (kc w (row S).2 c))) {g : Int → Int} (hg : Pol c g) (hz : ∀ x ∈ part S (kc w (row S).2 c), (2 : Int) ^ w ∣ g x) (hnz : ¬ ∀ x ∈ S, (2 : Int) ^ w ∣ g x) :
    ((wd w S g).filter fun x => !decide (x = 0)).length = (lostL S (kc w (row S).2 c)).length := by
  generalize hKd : kc w (row S).2 c = K at *
  have e : ((wd w S g).filter fun x => !decide (x = 0)).length = (S.filter fun x => !decide ((2 : Int) ^ w ∣ g x)).length := by
    unfold wd
    rw [List.filter_map, List.length_map]
    congr 1
    apply List.filter_congr
    intro x _
    show (!decide (g x % 2 ^ w = 0)) = _
    congr 1
    exact decide_eq_decide.mpr ⟨Int.dvd_of_emod_eq_zero, Int.emod_eq_zero_of_dvd⟩
  rw [e]
  apply Nat.le_antisymm
  · refine List.Nodup.length_le_of_subset (hn.filter _) fun x hx => ?_
    rw [List.mem_filter] at hx
    refine Decidable.byContradiction fun hl => ?_
    have := hz x (part_mem.mpr ⟨hx.1, hl⟩)
    simp [this] at hx
  · refine hL.2.2.2 _ fun h => hnz ?_
    subst hKd
    exact vanish hn hc1 hc hK hg h
theorem light_all (hn : S.Nodup) (hS : S ≠ []) (hw : 1 ≤ w) (hc1 : 1 ≤ c) (hc : c ≤ 3) (hL : Spec S (kc w (row S).2 c) (lostL S (kc w (row S).2 c))) :
    ∃ item, lack (row S).2 (row (part S (kc w (row S).2 c))).2 (kc w (row S).2 c) = some item ∧ (∃ x ∈ lightU w S (kc w (row S).2 c) item, x ≠ 0) ∧ (∀ x ∈ lightU w S (kc w (row S).2 c) item, 0 ≤ x ∧ x < 2 ^ w) ∧
    ((lightW w S (kc w (row S).2 c) item).filter fun x => !decide (x = 0)).length = (lostL S (kc w (row S).2 c)).length := by
  have hK := k_pos hn hc1 hc hw hS
  obtain ⟨k1, k2, k3⟩ := kc_spec hn (w := w) hc
  have cnt := fun g => light_cnt hn hc1 hc hK hL (g := g)
  generalize kc w (row S).2 c = K at *
  have hP : (part S K).Nodup := hn.filter _
  have hsub : ∀ x ∈ part S K, x ∈ S := fun x hx => (part_mem.mp hx).1
  obtain ⟨j, j1, j2, j3, j4, j5⟩ := lack_spec hn hP hsub (by omega) k2 fun h => hL.2.2.1 (Has.mono (fun x hx => by
    have := (part_mem.mp (of_decide_eq_true hx)).2
    simpa using this) h)
  have hwj : Nn S j < w := (k3 j (by omega) (by omega)).mpr j2
  have hE : hidE w (part S K) j + (Nn S j + 1) ≤ w := by
    by_cases h : j < (part S K).length
    · rw [hidE_is h]
      have := j4 h
      omega
    · unfold hidE
      rw [if_neg h]
      omega
  have hnot : ¬ ∀ x ∈ S, (2 : Int) ^ w ∣ prodAt ((Od (part S K)).take j) x * 2 ^ hidE w (part S K) j := fun h => by
    refine hid_not hn hP hsub (by omega) (by omega) j3 j5 fun x hx => ?_
    have := h x hx
    exact Int.dvd_trans (pow_dvd (b := w - hidE w (part S K) j) (by omega)) (pow_cancel (b := hidE w (part S K) j) (by omega) this)
  have hrange : ∀ x ∈ lightU w S K j, 0 ≤ x ∧ x < 2 ^ w := by
    unfold lightU
    rw [hid_wd]
    exact wd_range
  have hex : ∃ x ∈ lightU w S K j, x ≠ 0 := by
    refine Decidable.byContradiction fun hc => hnot fun x hx => ?_
    refine Int.dvd_of_emod_eq_zero (Decidable.byContradiction fun h => hc ⟨_, ?_, h⟩)
    unfold lightU
    rw [hid_wd]
    exact List.mem_map.mpr ⟨x, hx, rfl⟩
  refine ⟨j, j1, hex, hrange, ?_⟩
  -- the scaled word
  have hm : minL (((lightU w S K j).filter fun x => !decide (x = 0)).map fun x => (v2 x : Int)) ∈ (((lightU w S K j).filter fun x => !decide (x = 0)).map fun x => (v2 x : Int)) := by
    refine min_mem fun e => ?_
    obtain ⟨x, hx, h0⟩ := hex
    have : (v2 x : Int) ∈ (((lightU w S K j).filter fun x => !decide (x = 0)).map fun x => (v2 x : Int)) := List.mem_map.mpr ⟨x, List.mem_filter.mpr ⟨hx, by simp [h0]⟩, rfl⟩
    rw [e] at this
    cases this
  obtain ⟨x0, hx0, ex0⟩ := List.mem_map.mp hm
  rw [List.mem_filter] at hx0
  have hx1 : x0 ≠ 0 := by simpa using hx0.2
  have hr0 := hrange x0 hx0.1
  have hv := v2_lt hx1 hr0.1 hr0.2
  have elw : lightW w S K j = wd w S fun x => prodAt ((Od (part S K)).take j) x * 2 ^ hidE w (part S K) j * 2 ^ (w - 1 - v2 x0) := by
    unfold lightW
    rw [← ex0]
    unfold lightU
    rw [hid_wd]
    unfold wd
    rw [List.map_map]
    apply List.map_congr_left
    intro x _
    show prodAt ((Od (part S K)).take j) x * 2 ^ hidE w (part S K) j % 2 ^ w * 2 ^ (w - 1 - ((v2 x0 : Nat) : Int).toNat) % 2 ^ w = _
    rw [Int.toNat_natCast, Int.mul_emod, Int.emod_emod, ← Int.mul_emod]
  rw [elw]
  refine cnt _ ?_ (fun x hx => ?_) fun h => ?_
  · have p := pol_take (l := Od (part S K)) (show j < c by omega) hc
    have := (p.smul (2 ^ hidE w (part S K) j)).smul (2 ^ (w - 1 - v2 x0))
    refine cast (congrArg (Pol c) ?_) this
    funext x
    rw [Int.mul_comm (prodAt _ x), Int.mul_comm (2 ^ (w - 1 - v2 x0))]
  · exact Int.dvd_trans (hid_part j3 hx) (Int.dvd_mul_right _ _)
  · have hx0' := hx0.1
    unfold lightU at hx0'
    rw [hid_wd] at hx0'
    obtain ⟨p, hp, ep⟩ := List.mem_map.mp hx0'
    have d := h p hp
    have d : (2 : Int) ^ w ∣ prodAt ((Od (part S K)).take j) p * 2 ^ hidE w (part S K) j * 2 ^ (w - 1 - v2 x0) := d
    have ep : prodAt ((Od (part S K)).take j) p * 2 ^ hidE w (part S K) j % 2 ^ w = x0 := ep
    have e2 : (2 : Int) ^ w ∣ x0 * 2 ^ (w - 1 - v2 x0) := by
      generalize (2 : Int) ^ (w - 1 - v2 x0) = T at *
      rw [← ep]
      refine Int.dvd_of_emod_eq_zero ?_
      have := Int.emod_eq_zero_of_dvd d
      rw [Int.mul_emod] at this ⊢
      rw [Int.emod_emod]
      exact this
    have e3 := (dvd_iff (Int.mul_ne_zero hx1 (pow_ne _)) _).mp e2
    have e4 : v2 ((2 : Int) ^ (w - 1 - v2 x0)) = w - 1 - v2 x0 := by
      have := v2_pow_mul (w - 1 - v2 x0) (m := 1) (by decide)
      rwa [Int.mul_one] at this
    rw [v2_mul hx1 (pow_ne _), e4] at e3
    omega
end
end AP
end
section
namespace AP
/-! ### the reading -/
theorem odd_step {k m : Nat} {n f : Int} (hm : m ≤ k) (h : (2 : Int) ^ m ∣ n * f - 1) : (2 : Int) ^ min (2 * m) k ∣ n * (f * (2 - n * f) % 2 ^ k) - 1 := by
  have e : n * (f * (2 - n * f) % 2 ^ k) - 1 = -((n * f - 1) * (n * f - 1)) - 2 ^ k * (n * (f * (2 - n * f) / 2 ^ k)) := by
    have := Int.mul_ediv_add_emod (f * (2 - n * f)) (2 ^ k)
    generalize f * (2 - n * f) / 2 ^ k = q at *
    generalize hr : f * (2 - n * f) % 2 ^ k = r at *
    have hr : r = f * (2 - n * f) - 2 ^ k * q := by omega
    rw [hr]
    generalize (2 : Int) ^ k = b
    grind
  rw [e]
  refine Int.dvd_sub (Int.dvd_neg.mpr ?_) (Int.dvd_trans (pow_dvd (Nat.min_le_right ..)) (Int.dvd_mul_right _ _))
  have := dvd_mul2 h h
  exact Int.dvd_trans (pow_dvd (by omega)) this
theorem oddU_is {n : Int} {k : Nat} (hk : k ≤ 64) (hn : n % 2 = 1) : (2 : Int) ^ k ∣ n * oddU n (2 ^ k) - 1 := by
  have key : ∀ t : Nat, (2 : Int) ^ min (2 ^ t) k ∣ n * ((List.range t).foldl (fun f _ => f * (2 - n * f) % 2 ^ k) 1) - 1 := by
    intro t
    induction t with
    | zero =>
      refine Int.dvd_trans (pow_dvd (b := 1) (by simp; omega)) ?_
      show (2 : Int) ^ 1 ∣ n * 1 - 1
      exact ⟨n / 2, by omega⟩
    | succ t ih =>
      rw [List.range_succ, List.foldl_append]
      have := odd_step (Nat.min_le_right (2 ^ t) k) ih
      refine Int.dvd_trans (pow_dvd ?_) this
      rw [Nat.pow_succ]
      omega
  have := key 7
  rw [show min (2 ^ 7) k = k by omega] at this
  exact this
theorem val_snoc {od it : List Int} {u x : Int} : valAt od (it ++ [u]) x = valAt od it x + u * prodAt (od.take it.length) x := by
  unfold valAt
  rw [List.length_append, List.length_singleton, List.range_succ, List.map_append, List.sum_append]
  congr 1
  · congr 1
    apply List.map_congr_left
    intro i hi
    have hi := List.mem_range.mp hi
    rw [List.getD_eq_getElem?_getD, List.getElem?_append_left hi, ← List.getD_eq_getElem?_getD]
  · simp
theorem pow_split {w k : Nat} (h : k ≤ w) : (2 : Int) ^ w / 2 ^ k = 2 ^ (w - k) := by
  have : (2 : Int) ^ w = 2 ^ k * 2 ^ (w - k) := by rw [← Int.pow_add]; congr 1; omega
  rw [this, Int.mul_ediv_cancel_left _ (pow_ne _)]
/-- what one reading step finds -/
theorem item_is {w k : Nat} {N e lk : Int} (hw : w ≤ 64) (hk : k < w) (hN : N ≠ 0) (hv : v2 N = k) (hl : (2 : Int) ^ w ∣ lk - N * e) : lk % 2 ^ k = 0 ∧ (2 : Int) ^ (w - k) ∣ e - lk / 2 ^ k * oddU (N / 2 ^ k) (2 ^ w / 2 ^ k) % (2 ^ w / 2 ^ k) := by
  obtain ⟨m, em, om⟩ := odd_form hN
  rw [hv] at em
  obtain ⟨q, hq⟩ := hl
  have e1 : (2 : Int) ^ w = 2 ^ k * 2 ^ (w - k) := by rw [← Int.pow_add]; congr 1; omega
  have el : lk = 2 ^ k * (m * e + 2 ^ (w - k) * q) := by
    have : lk = N * e + 2 ^ w * q := by omega
    rw [this, e1, em]
    grind
  have hd : N / 2 ^ k = m := by rw [em, Int.mul_ediv_cancel_left _ (pow_ne _)]
  rw [pow_split (by omega), hd, el, Int.mul_ediv_cancel_left _ (pow_ne _)]
  refine ⟨Int.mul_emod_right _ _, ?_⟩
  obtain ⟨r, hr⟩ := oddU_is (n := m) (k := w - k) (by omega) om
  have hmod := Int.mul_ediv_add_emod ((m * e + 2 ^ (w - k) * q) * oddU m (2 ^ (w - k))) (2 ^ (w - k))
  generalize (m * e + 2 ^ (w - k) * q) * oddU m (2 ^ (w - k)) / 2 ^ (w - k) = s at *
  generalize ht : (m * e + 2 ^ (w - k) * q) * oddU m (2 ^ (w - k)) % 2 ^ (w - k) = t at *
  generalize oddU m (2 ^ (w - k)) = f at *
  generalize (2 : Int) ^ (w - k) = b at *
  refine ⟨s - e * r - q * f, ?_⟩
  have h1 : t = (m * e + b * q) * f - b * s := by omega
  rw [h1]
  have h2 : m * f = b * r + 1 := by omega
  grind
section
variable {P : List Int} {w c : Nat} {F : Int → Int}
theorem rd_len (od nm : List Int) : ∀ (i : Nat) (it : List Int), rd w c od nm F i = some it → it.length ≤ i ∧ it.length ≤ c
  | 0, it, h => by
    unfold rd at h
    cases h
    exact ⟨Nat.le_refl _, Nat.zero_le _⟩
  | i + 1, it, h => by
    unfold rd at h
    cases e : rd w c od nm F i with
    | none => rw [e] at h; cases h
    | some it0 =>
      rw [e] at h
      have ih := rd_len od nm i it0 e
      have h : rdS w c od nm F i it0 = some it := h
      unfold rdS at h
      split at h
      · rename_i hc
        split at h
        · cases h
          simp
          omega
        · cases h
      · split at h
        · cases h
          exact ⟨by omega, ih.2⟩
        · cases h
theorem dvd_eq {m a b : Int} (h : m ∣ a) (e : a = b) : m ∣ b := e ▸ h
/-- the reading of a code word goes through, and agrees on the part -/
theorem rd_ok (hP : P.Nodup) (hw : w ≤ 64) (hc : c ≤ 3) {g : Int → Int} (hg : Pol c g) (hF : ∀ x ∈ P, F x = g x % 2 ^ w) : ∀ i, i ≤ P.length → ∃ it, rd w c (row P).1 (row P).2 F i = some it ∧
    ((it.length = i ∧ ∃ h, Pol (c - i) h ∧ ∀ p ∈ P, (2 : Int) ^ w ∣ g p - valAt (Od P) it p - prodAt ((Od P).take i) p * h p) ∨ ∀ p ∈ P, (2 : Int) ^ w ∣ g p - valAt (Od P) it p)
  | 0, _ => ⟨[], rfl, .inl ⟨rfl, g, hg, fun p _ => by
      show (2 : Int) ^ w ∣ g p - 0 - 1 * g p
      rw [show g p - 0 - 1 * g p = 0 by omega]
      exact Int.dvd_zero _⟩⟩
  | i + 1, hi => by
    obtain ⟨it, h1, h2⟩ := rd_ok hP hw hc hg hF i (by omega)
    have ha := od_in (S := P) (k := i) (by omega)
    have hfa := hF _ ha
    have hnm := nm_at (S := P) (k := i) (by omega)
    have erd : rd w c (row P).1 (row P).2 F (i + 1) = rdS w c (row P).1 (row P).2 F i it := by
      show (rd w c (row P).1 (row P).2 F i).bind _ = _
      rw [h1]
      rfl
    rw [erd]
    -- the difference at the new place
    have hlk : ∀ e : Int, (2 : Int) ^ w ∣ g ((Od P).getD i 0) - valAt (Od P) it ((Od P).getD i 0) - e → (2 : Int) ^ w ∣ (F ((Od P).getD i 0) - valAt (Od P) it ((Od P).getD i 0)) % 2 ^ w - e := by
      intro e he
      rw [hfa]
      refine emod_iff.mp ?_
      rw [Int.emod_emod, Int.emod_sub_emod]
      exact emod_iff.mpr he
    have zero_of : (2 : Int) ^ w ∣ g ((Od P).getD i 0) - valAt (Od P) it ((Od P).getD i 0) → (F ((Od P).getD i 0) - valAt (Od P) it ((Od P).getD i 0)) % 2 ^ w = 0 := fun h => by
      rw [hfa, Int.emod_sub_emod]
      exact Int.emod_eq_zero_of_dvd h
    unfold rdS
    have hnm' : (row P).2.getD i 0 = (Nn P i : Int) := hnm
    rw [hnm']
    rcases h2 with ⟨hl, h, hh, hv⟩ | hv
    · by_cases cc : i < c ∧ Nn P i < w
      · rw [if_pos (by omega), Int.toNat_natCast]
        obtain ⟨r1, r2⟩ := row_v2 hP (show i < P.length by omega)
        obtain ⟨q1, q2⟩ := item_is (e := h ((Od P).getD i 0)) hw cc.2 r1 r2 (hlk _ (hv _ ha))
        have q2 : (2 : Int) ^ (w - Nn P i) ∣ h ((Od P).getD i 0) - (F ((row P).1.getD i 0) - valAt (row P).1 it ((row P).1.getD i 0)) % 2 ^ w / 2 ^ Nn P i * oddU (prodAt ((row P).1.take i) ((row P).1.getD i 0) / 2 ^ Nn P i) (2 ^ w / 2 ^ Nn P i) % (2 ^ w / 2 ^ Nn P i) := q2
        rw [if_pos q1]
        generalize (F ((row P).1.getD i 0) - valAt (row P).1 it ((row P).1.getD i 0)) % 2 ^ w / 2 ^ Nn P i * oddU (prodAt ((row P).1.take i) ((row P).1.getD i 0) / 2 ^ Nn P i) (2 ^ w / 2 ^ Nn P i) % (2 ^ w / 2 ^ Nn P i) = u at *
        refine ⟨_, rfl, .inl ⟨by simp [hl], ?_⟩⟩
        obtain ⟨d, hd, hdiv⟩ := Pol.div (d := c - (i + 1)) ((Od P).getD i 0) (hh.up (show c - i ≤ c - (i + 1) + 1 by omega))
        refine ⟨d, hd, fun p hp => ?_⟩
        have etk : (Od P).take (i + 1) = (Od P).take i ++ [(Od P).getD i 0] := by
          have hl : i < (Od P).length := by rw [od_len]; omega
          rw [List.take_succ, List.getElem?_eq_getElem hl, List.getD_eq_getElem?_getD, List.getElem?_eq_getElem hl]
          rfl
        rw [val_snoc, hl, etk, prodAt_snoc]
        have a := hv p hp
        have b := dvd_mul2 (row_dvd (show i < P.length by omega) hp) q2
        rw [show Nn P i + (w - Nn P i) = w by omega] at b
        refine dvd_eq (Int.dvd_add a b) ?_
        have e := hdiv p
        rw [e]
        grind
      · rw [if_neg (by omega)]
        have hz : ∀ p ∈ P, (2 : Int) ^ w ∣ g p - valAt (Od P) it p := fun p hp => by
          have a := hv p hp
          have b : (2 : Int) ^ w ∣ prodAt ((Od P).take i) p * h p := by
            by_cases ci : i < c
            · refine Int.dvd_trans (Int.dvd_trans (pow_dvd (show w ≤ Nn P i by omega)) (row_dvd (show i < P.length by omega) hp)) (Int.dvd_mul_right _ _)
            · obtain ⟨c0, c1, c2, hp', x2, x1, x0⟩ := hh
              rw [hp', x2 (by omega), x1 (by omega), x0 (by omega)]
              simp
          exact dvd_eq (Int.dvd_add a b) (by omega)
        have e0 := zero_of (hz _ ha)
        rw [if_pos e0]
        exact ⟨it, rfl, .inr hz⟩
    · have e0 := zero_of (hv _ ha)
      have e0' : (F ((row P).1.getD i 0) - valAt (row P).1 it ((row P).1.getD i 0)) % 2 ^ w = 0 := e0
      rw [e0', Int.toNat_natCast]
      by_cases cc : i < c ∧ (Nn P i : Int) < (w : Int)
      · rw [if_pos cc, if_pos (Int.zero_emod _), Int.zero_ediv, Int.zero_mul, Int.zero_emod]
        refine ⟨_, rfl, .inr fun p hp => ?_⟩
        rw [val_snoc, Int.zero_mul, Int.add_zero]
        exact hv p hp
      · rw [if_neg cc, if_pos rfl]
        exact ⟨it, rfl, .inr hv⟩
theorem iread_ok (hP : P.Nodup) (hw : w ≤ 64) (hc : c ≤ 3) {g : Int → Int} (hg : Pol c g) {ws : List Int} (hF : ∀ x ∈ P, tl P ws x = g x % 2 ^ w) : ∃ it, iread w P c ws = some it ∧ ∀ p ∈ P, (2 : Int) ^ w ∣ g p - valAt (Od P) it p := by
  obtain ⟨it, h1, h2⟩ := rd_ok hP hw hc hg hF P.length (Nat.le_refl _)
  refine ⟨it, h1, fun p hp => ?_⟩
  rcases h2 with ⟨_, h, _, hv⟩ | hv
  · have := hv p hp
    rw [List.take_of_length_le (by rw [od_len]; omega), prodAt_mem (od_mem.mpr hp), Int.zero_mul, Int.sub_zero] at this
    exact this
  · exact hv p hp
theorem iread_pol (hc : c ≤ 3) {ws it : List Int} (h : iread w P c ws = some it) : Pol c (valAt (Od P) it) := pol_val (rd_len _ _ _ _ h).2 hc
end
end AP
end
section
namespace AP
/-! ### parts without wrong words -/
theorem tl_at {ps us : List Int} {F : Int → Int} : ∀ {k : List Nat}, (∀ i ∈ k, us.getD i 0 = F (ps.getD i 0)) → ∀ {x : Int}, x ∈ at_ ps k → tl (at_ ps k) (at_ us k) x = F x
  | [], _, x, h => by cases h
  | i :: k, hk, x, h => by
    unfold tl at_
    rw [List.map_cons, List.map_cons, List.zip_cons_cons, List.find?_cons]
    by_cases c : ps.getD i 0 = x
    · rw [decide_eq_true c]
      show us.getD i 0 = F x
      rw [hk i (List.mem_cons_self ..), c]
    · rw [decide_eq_false c]
      refine tl_at (k := k) (fun i hi => hk i (List.mem_cons_of_mem _ hi)) ?_
      rcases List.mem_cons.mp h with h | h
      · exact absurd h.symm c
      · exact h
def allB : Nat → List (List Bool)
  | 0 => [[]]
  | n + 1 => (allB n).map (true :: ·) ++ (allB n).map (false :: ·)
theorem mem_allB : ∀ l : List Bool, l ∈ allB l.length
  | [] => List.mem_cons_self ..
  | true :: l => List.mem_append_left _ (List.mem_map.mpr ⟨l, mem_allB l, rfl⟩)
  | false :: l => List.mem_append_right _ (List.mem_map.mpr ⟨l, mem_allB l, rfl⟩)
def pick (n : Nat) (l : List Bool) : List Nat := (List.range n).filter fun i => l.getD i false
theorem chk3_all : (List.range 9).all (fun n => (allB n).all fun l => (combs n (pick n l).length).contains (pick n l)) = true := by decide +kernel
theorem combs_all {n : Nat} (hn : n ≤ 8) (p : Nat → Bool) : (List.range n).filter p ∈ combs n ((List.range n).filter p).length := by
  have h := List.all_eq_true.mp (List.all_eq_true.mp chk3_all n (List.mem_range.mpr (by omega))) ((List.range n).map p) (by
    have := mem_allB ((List.range n).map p)
    rwa [List.length_map, List.length_range] at this)
  have e : pick n ((List.range n).map p) = (List.range n).filter p := by
    unfold pick
    apply List.filter_congr
    intro i hi
    rw [List.getD_eq_getElem?_getD, List.getElem?_map, List.getElem?_range (List.mem_range.mp hi)]
    rfl
  rw [e] at h
  simpa using h
theorem flt_split {α : Type} (p : α → Bool) : ∀ l : List α, (l.filter p).length + (l.filter fun x => !p x).length = l.length
  | [] => rfl
  | x :: l => by
    have ih := flt_split p l
    rw [List.filter_cons, List.filter_cons]
    cases h : p x <;> simp [h] <;> omega
/-- some choice of k places avoids few wrong ones -/
theorem combs_avoid {n k : Nat} (hn : n ≤ 8) {bad : Nat → Bool} (h : k + ((List.range n).filter bad).length ≤ n) : ∃ c ∈ combs n k, ∀ i ∈ c, bad i = false := by
  have hg : ((List.range n).filter fun i => !bad i).length + ((List.range n).filter bad).length = n := by
    have := flt_split bad (List.range n)
    rw [List.length_range] at this
    omega
  have hl : (((List.range n).filter fun i => !bad i).take k).length = k := by rw [List.length_take]; omega
  have e : (List.range n).filter (fun i => (((List.range n).filter fun i => !bad i).take k).contains i) = ((List.range n).filter fun i => !bad i).take k := by
    refine filt_is ((List.pairwise_lt_range.filter _).sublist (List.take_sublist ..)) (fun i hi => ?_) fun i hi => by simp
    exact List.mem_range.mp (List.mem_filter.mp (List.mem_of_mem_take hi)).1
  have := combs_all hn fun i => (((List.range n).filter fun i => !bad i).take k).contains i
  rw [e, hl] at this
  exact ⟨_, this, fun i hi => by
    have := (List.mem_filter.mp (List.mem_of_mem_take hi)).2
    simpa using this⟩
theorem blocks_avoid {n k : Nat} (h1 : 1 ≤ k) (hk : k ≤ n) {bad : Nat → Bool} (h : ((List.range n).filter bad).length < n / k) : ∃ c ∈ blocks n k, ∀ i ∈ c, bad i = false := by
  refine Decidable.byContradiction fun hc => ?_
  have key : ∀ t, t < n / k → t ∈ ((List.range n).filter bad).map (· / k) := by
    intro t ht
    refine Decidable.byContradiction fun hno => hc ⟨(List.range k).map fun j => t * k + j, ?_, fun i hi => ?_⟩
    · unfold blocks
      refine List.mem_map.mpr ⟨t, List.mem_range.mpr ?_, rfl⟩
      have : (n - k) / k + 1 = n / k := by
        rw [← Nat.add_div_right _ (by omega)]
        congr 1
        omega
      omega
    · obtain ⟨j, hj, rfl⟩ := List.mem_map.mp hi
      have hj := List.mem_range.mp hj
      cases e : bad (t * k + j) with
      | false => rfl
      | true =>
        refine absurd (List.mem_map.mpr ⟨t * k + j, List.mem_filter.mpr ⟨List.mem_range.mpr ?_, e⟩, ?_⟩) hno
        · have : (t + 1) * k ≤ n / k * k := Nat.mul_le_mul_right k (by omega)
          have := Nat.div_mul_le_self n k
          rw [Nat.add_mul] at *
          omega
        · show (t * k + j) / k = t
          rw [Nat.mul_comm, Nat.mul_add_div (by omega), Nat.div_eq_of_lt hj, Nat.add_zero]
  have := List.Nodup.length_le_of_subset (l₁ := List.range (n / k)) (l₂ := ((List.range n).filter bad).map (· / k)) List.nodup_range fun t ht => key t (List.mem_range.mp ht)
  rw [List.length_map, List.length_range] at this
  omega
section
variable {S : List Int} {w c : Nat}
/-- neighbours lie side by side -/
theorem neigh_at (ha : S.Pairwise (· < ·)) (hS : S ≠ []) (hg : neigh S = true) : ∀ i, i < S.length → S.getD i 0 = S.getD 0 0 + i := by
  have hl := List.length_pos_iff.mpr hS
  have hd := of_decide_eq_true hg
  have step : ∀ i, i + 1 < S.length → S.getD i 0 + 1 ≤ S.getD (i + 1) 0 := by
    intro i hi
    have := List.pairwise_iff_getElem.mp ha i (i + 1) (by omega) hi (by omega)
    rw [List.getD_eq_getElem?_getD, List.getD_eq_getElem?_getD, List.getElem?_eq_getElem hi, List.getElem?_eq_getElem (by omega)]
    exact this
  have up : ∀ d i, i + d < S.length → S.getD i 0 + d ≤ S.getD (i + d) 0 := by
    intro d
    induction d with
    | zero => intro i _; simp
    | succ d ih =>
      intro i hi
      have a := ih i (by omega)
      have b := step (i + d) (by omega)
      rw [show i + (d + 1) = i + d + 1 by omega]
      omega
  intro i hi
  have a := up i 0 (by omega)
  have b := up (S.length - 1 - i) i (by omega)
  rw [Nat.zero_add] at a
  rw [show i + (S.length - 1 - i) = S.length - 1 by omega] at b
  omega
theorem odd0 {x y : Int} (h : (x - y) % 2 = 1) : dd x y = 0 := v2_odd (by omega)
theorem s3_pos {x y z : Int} (h1 : x ≠ y) (h2 : x ≠ z) (h3 : y ≠ z) : 1 ≤ s3 x y z := by
  have ev : ∀ {a b : Int}, a ≠ b → (a - b) % 2 = 0 → 1 ≤ dd a b := fun h e => by
    have := v2_even (show _ - _ ≠ 0 by omega) e
    unfold dd
    omega
  unfold s3
  by_cases c1 : (x - y) % 2 = 0
  · have := ev h1 c1; omega
  by_cases c2 : (x - z) % 2 = 0
  · have := ev h2 c2; omega
  · have := ev h3 (show (y - z) % 2 = 0 by omega); omega
/-- k neighbours hold a best choice -/
theorem block_has {q : Int} {Z : Int → Bool} {K : Nat} (hK : K ≤ 3) (h : ∀ j : Nat, j < K → q + j ∈ S ∧ Z (q + j) = true) : Has S Z K := by
  match K, hK, h with
  | 0, _, _ => trivial
  | 1, _, h => exact ⟨_, (h 0 (by omega)).1, (h 0 (by omega)).2⟩
  | 2, _, h =>
    refine ⟨_, _, ⟨(h 0 (by omega)).1, (h 1 (by omega)).1, by omega, fun x _ y _ _ => ?_⟩, (h 0 (by omega)).2, (h 1 (by omega)).2⟩
    rw [odd0 (by omega)]
    exact Nat.zero_le _
  | 3, _, h =>
    refine ⟨_, _, _, ⟨⟨(h 0 (by omega)).1, (h 1 (by omega)).1, (h 2 (by omega)).1⟩, ⟨by omega, by omega, by omega⟩, fun x _ y _ z _ a b c => ?_⟩, (h 0 (by omega)).2, (h 1 (by omega)).2, (h 2 (by omega)).2⟩
    have := s3_pos a b c
    have o1 : dd (q + (0 : Nat)) (q + (1 : Nat)) = 0 := odd0 (by omega)
    have o2 : dd (q + (1 : Nat)) (q + (2 : Nat)) = 0 := odd0 (by omega)
    have e : dd (q + (0 : Nat)) (q + (2 : Nat)) = 1 := by
      unfold dd
      rw [show q + (0 : Nat) - (q + (2 : Nat)) = -2 by omega]
      decide
    have e3 : s3 (q + (0 : Nat)) (q + (1 : Nat)) (q + (2 : Nat)) = 1 := by
      show dd _ _ + dd _ _ + dd _ _ = 1
      rw [o1, o2, e]
    exact Nat.le_trans (Nat.le_of_eq e3) this
/-- among neighbours no more than half is lost -/
theorem neigh_few (hn : S.Nodup) (ha : S.Pairwise (· < ·)) (hS : S ≠ []) (hg : neigh S = true) {K : Nat} (hK : K ≤ 3) (hK2 : 2 ≤ K) (hKS : K ≤ S.length) {L : List Int} (hL : Spec S K L) : L.length ≤ S.length / 2 := by
  have hat := neigh_at ha hS hg
  have hm : ∀ i, i < S.length → S.getD 0 0 + (i : Int) ∈ S := fun i hi => by
    rw [← hat i hi, List.getD_eq_getElem?_getD, List.getElem?_eq_getElem hi]
    exact List.getElem_mem hi
  have no : ∀ r : Int, ¬ Has S (fun x => decide (x % 2 = r)) K := fun r h => by
    obtain ⟨p, q, b, z1, z2⟩ := Has.le hK2 h
    have z1 := of_decide_eq_true z1
    have z2 := of_decide_eq_true z2
    have m0 := hm 0 (by omega)
    have m1 := hm 1 (by omega)
    have := b.2.2.2 _ m0 _ m1 (by omega)
    have o : dd (S.getD 0 0 + (0 : Nat)) (S.getD 0 0 + (1 : Nat)) = 0 := odd0 (by omega)
    have this : dd p q ≤ dd (S.getD 0 0 + (0 : Nat)) (S.getD 0 0 + (1 : Nat)) := this
    have e := v2_even (n := p - q) (by have := b.2.2.1; omega) (by omega)
    have e : dd p q = v2 ((p - q) / 2) + 1 := e
    omega
  have a0 := hL.2.2.2 _ (no 0)
  have a1 := hL.2.2.2 _ (no 1)
  have s := flt_split (fun x : Int => decide (x % 2 = 0)) S
  have e : (S.filter fun x => !decide (x % 2 = 1)) = S.filter fun x => decide (x % 2 = 0) := by
    apply List.filter_congr
    intro x _
    rcases Int.emod_two_eq x with h | h <;> simp [h]
  rw [e] at a1
  omega
end
end AP
end
section
namespace AP
section
variable {S : List Int} {w c : Nat}
theorem spec_tree (hn : S.Nodup) (hb : ∀ p ∈ S, 0 ≤ p ∧ p < 2 ^ w) (hw : w ≤ 64) {j : Nat} (h1 : 1 ≤ j) (h3 : j ≤ 3) : Spec S j (lostL S j) := by
  have al : Alike S 0 := fun a _ b _ => by simp
  refine tree_spec 64 S 0 hn al (halts 64 S 0 hn al fun p hp => ⟨(hb p hp).1, ?_⟩) j h1 h3
  have := (hb p hp).2
  have h : (2 : Int) ^ w ≤ 2 ^ (0 + 64) := Int.le_of_dvd (pow_pos _) (pow_dvd (by omega))
  omega
theorem take_map_app (F : Int → Int) (S T : List Int) : ((S ++ T).map F).take S.length = S.map F := by
  rw [List.map_append, List.take_append_of_le_length (by simp), List.take_of_length_le (by simp)]
theorem drop_map_app (F : Int → Int) (S T : List Int) : ((S ++ T).map F).drop S.length = T.map F := by
  rw [List.map_append, List.drop_append_of_le_length (by simp), List.drop_of_length_le (by simp), List.nil_append]
/-- what one part yields -/
theorem try_out (hc : c ≤ 3) {us : List Int} {m : Nat} {k : List Nat} {vs : List Int} (h : try1 w S c us S m k = some vs) : ∃ g, Pol c g ∧ vs = wd w S g ∧ dif vs us ≤ m := by
  unfold try1 led at h
  cases e : iread w (at_ S k) c (at_ us k) with
  | none => rw [e] at h; cases h
  | some it =>
    rw [e] at h
    have h : (if (dif (((S ++ S).map fun p => valAt (row (at_ S k)).1 it p % 2 ^ w).take S.length) us : Int) ≤ m then some (((S ++ S).map fun p => valAt (row (at_ S k)).1 it p % 2 ^ w).drop S.length) else none) = some vs := h
    rw [take_map_app, drop_map_app] at h
    split at h
    · rename_i hd
      cases h
      exact ⟨_, iread_pol hc e, rfl, by have : dif (wd w S (valAt (row (at_ S k)).1 it)) us ≤ m := by unfold wd; omega
                                        exact this⟩
    · cases h
theorem try_in (hn : S.Nodup) (hc1 : 1 ≤ c) (hc : c ≤ 3) (hw : w ≤ 64) (hK : 1 ≤ kc w (row S).2 c) {g : Int → Int} (hg : Pol c g) {us : List Int} {m : Nat} {k : List Nat} (hk : ∀ j ∈ k, j < S.length) (hkn : k.Nodup)
    (hgood : ∀ i ∈ k, us.getD i 0 = g (S.getD i 0) % 2 ^ w) (hhas : Has S (fun x => decide (x ∈ at_ S k)) (kc w (row S).2 c)) (hd : dif (wd w S g) us ≤ m) : try1 w S c us S m k = some (wd w S g) := by
  obtain ⟨it, h1, h2⟩ := iread_ok (at_nodup hn hk hkn) hw hc hg (ws := at_ us k) fun x hx => tl_at (F := fun x => g x % 2 ^ w) hgood hx
  have hv := vanish hn hc1 hc hK (hg.sub (iread_pol hc h1)) (Has.mono (fun x hx => decide_eq_true (h2 x (of_decide_eq_true hx))) hhas)
  have e : wd w S g = wd w S (valAt (Od (at_ S k)) it) := wd_eq hv
  unfold try1 led
  rw [h1]
  show (if (dif (((S ++ S).map fun p => valAt (row (at_ S k)).1 it p % 2 ^ w).take S.length) us : Int) ≤ m then some (((S ++ S).map fun p => valAt (row (at_ S k)).1 it p % 2 ^ w).drop S.length) else none) = _
  rw [take_map_app, drop_map_app]
  have e2 : (S.map fun p => valAt (row (at_ S k)).1 it p % 2 ^ w) = wd w S g := e.symm
  rw [e2, if_pos (by omega)]
theorem fs_some {α β : Type} {f : α → Option β} {L : List α} {x : α} {r : β} (hx : x ∈ L) (hf : f x = some r) (hall : ∀ y ∈ L, ∀ s, f y = some s → s = r) : L.findSome? f = some r := by
  induction L with
  | nil => cases hx
  | cons y L ih =>
    rw [List.findSome?_cons]
    cases e : f y with
    | some s => rw [hall y (List.mem_cons_self ..) s e]
    | none =>
      rcases List.mem_cons.mp hx with h | h
      · rw [← h, hf] at e; cases e
      · exact ih h fun z hz => hall z (List.mem_cons_of_mem _ hz)
theorem fs_mem {α β : Type} {f : α → Option β} {L : List α} {r : β} (h : L.findSome? f = some r) : ∃ x ∈ L, f x = some r := List.exists_of_findSome?_eq_some h
theorem unl_cnt {g : Int → Int} {us : List Int} : dif (wd w S g) us = ((List.range S.length).filter fun i => !decide (g (S.getD i 0) % 2 ^ w = us.getD i 0)).length := by
  unfold dif wd
  rw [List.length_map]
  congr 1
  apply List.filter_congr
  intro i hi
  rw [map_getD (List.mem_range.mp hi)]
/-- a part without wrong words, with a best choice in it -/
theorem good_part (hn : S.Nodup) (ha : S.Pairwise (· < ·)) (hS : S ≠ []) (h8 : S.length ≤ 8) (hw1 : 1 ≤ w) (hc1 : 1 ≤ c) (hc : c ≤ 3) (hL : Spec S (kc w (row S).2 c) (lostL S (kc w (row S).2 c))) {bad : Nat → Bool} (hbad : ((List.range S.length).filter bad).length ≤ mnd w S c) :
    ∃ k ∈ parts S (kc w (row S).2 c) (mnd w S c), (∀ i ∈ k, bad i = false) ∧ Has S (fun x => decide (x ∈ at_ S k)) (kc w (row S).2 c) := by
  have hK := k_pos hn hc1 hc hw1 hS
  obtain ⟨k1, k2, _⟩ := kc_spec hn (w := w) hc
  have hm : mnd w S c = ((lostL S (kc w (row S).2 c)).length - 1) / 2 := by
    unfold mnd
    rw [if_neg (by omega)]
  have hne := spec_ne hn k2 (by omega) hL
  have hD := List.length_pos_iff.mpr hne
  rw [hm] at hbad ⊢
  generalize kc w (row S).2 c = K at *
  have hDn : (lostL S K).length ≤ S.length := List.Nodup.length_le_of_subset hL.2.1 hL.1
  have atm : ∀ {k : List Nat} {i : Nat}, i ∈ k → S.getD i 0 ∈ at_ S k := fun h => List.mem_map.mpr ⟨_, h, rfl⟩
  have inS : ∀ i, i < S.length → S.getD i 0 ∈ S := fun i hi => by
    rw [List.getD_eq_getElem?_getD, List.getElem?_eq_getElem hi]
    exact List.getElem_mem hi
  unfold parts
  cases hg : neigh S with
  | true =>
    rw [if_pos rfl]
    have hfew : ((lostL S K).length - 1) / 2 < S.length / K := by
      have hK3 : K = 1 ∨ K = 2 ∨ K = 3 := by omega
      rcases hK3 with rfl | rfl | rfl
      · omega
      · have := neigh_few hn ha hS hg (by omega) (by omega) k2 hL
        omega
      · have := neigh_few hn ha hS hg (by omega) (by omega) k2 hL
        omega
    obtain ⟨k, hk, hb⟩ := blocks_avoid hK k2 (bad := bad) (by omega)
    refine ⟨k, hk, hb, ?_⟩
    have hko := blocks_ok hK k2 hk
    unfold blocks at hk
    obtain ⟨t, _, rfl⟩ := List.mem_map.mp hk
    refine block_has (q := S.getD 0 0 + (t * K : Nat)) (by omega) fun j hj => ?_
    have hmem : t * K + j ∈ (List.range K).map fun j => t * K + j := List.mem_map.mpr ⟨j, List.mem_range.mpr hj, rfl⟩
    have hlt := hko.2.1 _ hmem
    have e := neigh_at ha hS hg _ hlt
    have e2 : S.getD 0 0 + ((t * K : Nat) : Int) + (j : Int) = S.getD (t * K + j) 0 := by rw [e, Int.natCast_add]; omega
    rw [e2]
    exact ⟨inS _ hlt, decide_eq_true (atm hmem)⟩
  | false =>
    rw [if_neg (by decide)]
    obtain ⟨k, hk, hb⟩ := combs_avoid (k := S.length - ((lostL S K).length - 1) / 2) h8 (bad := bad) (by omega)
    refine ⟨k, hk, hb, ?_⟩
    obtain ⟨o1, o2, o3⟩ := combs_ok h8 (Nat.sub_le _ _) hk
    refine Classical.byContradiction fun hno => ?_
    have h1 := hL.2.2.2 _ hno
    have h2 := flt_split (fun x => decide (x ∈ at_ S k)) S
    have h3 : (at_ S k).length ≤ (S.filter fun x => decide (x ∈ at_ S k)).length := List.Nodup.length_le_of_subset (at_nodup hn o2 o3) fun x hx => List.mem_filter.mpr ⟨at_mem o2 hx, decide_eq_true hx⟩
    have h4 : (at_ S k).length = S.length - ((lostL S K).length - 1) / 2 := by unfold at_; rw [List.length_map, o1]
    omega
end
theorem main_facts {n : Nat} {S : List Int} {c : Nat} {g : Int → Int} (ha : S.Pairwise (· < ·)) (hS : S ≠ []) (h8 : S.length ≤ 8) (hb : ∀ p ∈ S, 0 ≤ p ∧ p < 2 ^ n) (hw1 : 1 ≤ n) (hw : n ≤ 64) (hc1 : 1 ≤ c) (hc : c ≤ 3) (hg : Pol c g) : Facts n S c (wd n S g) := by
  have hn : S.Nodup := ha.imp fun h => by omega
  have hK := k_pos hn hc1 hc hw1 hS
  obtain ⟨k1, k2, _⟩ := kc_spec hn (w := n) hc
  have hL := spec_tree hn hb hw hK (by omega : kc n (row S).2 c ≤ 3)
  have hne := spec_ne hn k2 (by omega) hL
  have hD := List.length_pos_iff.mpr hne
  have hm : mnd n S c = ((lostL S (kc n (row S).2 c)).length - 1) / 2 := by
    unfold mnd
    rw [if_neg (by omega)]
  have hlen : ∀ h : Int → Int, (wd n S h).length = S.length := fun h => by unfold wd; simp
  refine ⟨hK, hne, fun us hus hur hd => ?_, fun us vs hus hur hv => ?_, light_all hn hS hw1 hc1 hc hL⟩
  · have hd' : dif (wd n S g) us ≤ mnd n S c := by rw [dif_comm (by rw [hlen, hus])]; exact hd
    obtain ⟨k, hk, hb1, hb2⟩ := good_part hn ha hS h8 hw1 hc1 hc hL (bad := fun i => !decide (g (S.getD i 0) % 2 ^ n = us.getD i 0)) (by rw [← unl_cnt]; exact hd')
    obtain ⟨p1, p2⟩ := parts_ok h8 hK k2 hk
    refine fs_some hk (try_in hn hc1 hc hw hK hg p1 p2 (fun i hi => ?_) hb2 hd') fun y hy s hs => ?_
    · have := hb1 i hi
      simp at this
      simp [this]
    · obtain ⟨h, hh, e1, e2⟩ := try_out hc hs
      refine Decidable.byContradiction fun hno => ?_
      rw [e1] at hno e2
      have a := apart hn hc1 hc hK hL hh hg hno
      have t := dif_tri (a := wd n S h) (b := us) (c := wd n S g) (by rw [hlen, hus])
      omega
  · obtain ⟨k, hk, hs⟩ := fs_mem hv
    obtain ⟨h, hh, e1, e2⟩ := try_out hc hs
    refine ⟨by rw [e1, hlen], e2, fun hno => ?_⟩
    rw [e1] at hno ⊢
    exact apart hn hc1 hc hK hL hh hg hno
/-! ### Horner -/
def polyV (n : Nat) (pw : List Int) (x : Int) : Int := pw.reverse.foldl (fun u p => (u * x + p) % 2 ^ n) 0
theorem polyV_is {n : Nat} {pw : List Int} (h1 : 1 ≤ pw.length) (h3 : pw.length ≤ 3) : ∃ g, Pol pw.length g ∧ ∀ x, polyV n pw x = g x % 2 ^ n := by
  match pw, h1, h3 with
  | [a], _, _ =>
    refine ⟨fun _ => a, pol_const (by simp) a, fun x => ?_⟩
    show (0 * x + a) % 2 ^ n = _
    rw [Int.zero_mul, Int.zero_add]
  | [a, b], _, _ =>
    refine ⟨fun x => b * x + a, ⟨a, b, 0, fun p => by show b * p + a = _; grind, fun _ => rfl, fun h => by simp at h, fun h => by simp at h⟩, fun x => ?_⟩
    show ((0 * x + b) % 2 ^ n * x + a) % 2 ^ n = _
    rw [Int.zero_mul, Int.zero_add, Int.add_emod, Int.mul_emod, Int.emod_emod, ← Int.mul_emod, ← Int.add_emod]
  | [a, b, d], _, _ =>
    refine ⟨fun x => (d * x + b) * x + a, ⟨a, b, d, fun p => by show (d * p + b) * p + a = _; grind, fun h => by simp at h, fun h => by simp at h, fun h => by simp at h⟩, fun x => ?_⟩
    show (((0 * x + d) % 2 ^ n * x + b) % 2 ^ n * x + a) % 2 ^ n = _
    have e : ((0 * x + d) % 2 ^ n * x + b) % 2 ^ n = (d * x + b) % 2 ^ n := by
      rw [Int.zero_mul, Int.zero_add, Int.add_emod, Int.mul_emod, Int.emod_emod, ← Int.mul_emod, ← Int.add_emod]
    rw [e, Int.add_emod, Int.mul_emod, Int.emod_emod, ← Int.mul_emod, ← Int.add_emod]
theorem main_poly {n : Nat} {S pw : List Int} (ha : S.Pairwise (· < ·)) (hS : S ≠ []) (h8 : S.length ≤ 8) (hb : ∀ p ∈ S, 0 ≤ p ∧ p < 2 ^ n) (hw1 : 1 ≤ n) (hw : n ≤ 64) (hc1 : 1 ≤ pw.length) (hc : pw.length ≤ 3) : Facts n S pw.length (S.map (polyV n pw)) := by
  obtain ⟨g, hg, e⟩ := polyV_is (n := n) hc1 hc
  have : S.map (polyV n pw) = wd n S g := List.map_congr_left fun x _ => e x
  rw [this]
  exact main_facts ha hS h8 hb hw1 hw hc1 hc hg
end AP
end
section
set_option maxRecDepth 100000
set_option maxHeartbeats 0
namespace AH
open PySem PySem.Spec PyProof.Rows L2
def tp (i : Nat) : Stmt := PySem.Challenge.pw_anyplaces_k45_whole_wrong_words_mended.main.body.getD i (.Pass ⟨0, 0, 0, 0⟩)
abbrev Fn (K : PySem.W.Frag) (x : Str) (i : Nat) (dv : List V) (f : Addr) (fd : FuncData) : Prop := FunD K x x (defArgs (tp i)) (defBody (tp i)) (defScope (tp i)) dv [] f fd
/-- the i-th statement, a def, behind the global name g -/
def dd (g x : Str) (i : Nat) (dv : List He.Dv) : He.DefD := ⟨(g, none), x, x, defArgs (tp i), defBody (tp i), defScope (tp i), dv, []⟩
def fn0 : List He.DefD := [dd "is_whole" "is_whole" 9 [], dd "is_between" "is_between" 10 [], dd "check_number" "check_number" 11 [], dd "power_of_two" "power_of_two" 12 [], dd "twos" "twos" 13 [], dd "good_row" "good_row" 14 [], dd "product_at" "product_at" 15 [], dd "items_counted" "items_counted" 16 [], dd "is_width" "is_width" 18 [], dd "check_width" "check_width" 19 [], dd "is_of_width" "is_of_width" 20 [], dd "rises" "rises" 21 [], dd "are_places" "are_places" 22 [], dd "check_places" "check_places" 23 [], dd "are_words" "are_words" 24 [], dd "check_words" "check_words" 25 [], dd "halves" "halves" 27 [], dd "pairs" "pairs" 28 [], dd "best_splits" "best_splits" 29 [], dd "tree_of" "tree_of" 30 [.int 0]]
def fn1 : List He.DefD := [dd "lost_places" "lost_places" 31 [], dd "check_code_telling" "check_code" 33 [], dd "items_of_code" "items_of_code" 35 [], dd "lacking_item" "lacking_item" 36 [], dd "hidden_word" "hidden_word" 37 [], dd "distance_of_distance" "distance_of" 39 [], dd "distance" "distance" 41 [], dd "hurting" "hurting" 42 [], dd "least_lost" "least_lost" 43 [], dd "lightest" "lightest" 44 [], dd "check_code_reading" "check_code" 46 [], dd "odd_undone" "odd_undone" 48 [], dd "items_read" "items_read" 49 [], dd "value_at" "value_at" 50 [], dd "words_led_to" "words_led_to" 51 [], dd "items_counted_at" "items_counted_at" 52 [], dd "distance_of_mending" "distance_of" 54 [], dd "mendable_of" "mendable_of" 56 [], dd "mendable" "mendable" 57 [], dd "are_neighbours" "are_neighbours" 58 []]
def fn2 : List He.DefD := [dd "unlike_count" "unlike_count" 59 [], dd "parts_tried" "parts_tried" 60 [], dd "near_word" "near_word" 61 [], dd "mended" "mended" 62 [], dd "wrong_at" "wrong_at" 63 [], dd "_law_hash" "_law_hash" 65 [], dd "_law_random" "_law_random" 66 [], dd "_law_cell" "_law_cell" 67 [], dd "_law_generator" "_law_generator" 68 [], dd "_law_spots" "_law_spots" 69 [], dd "_law_words" "_law_words" 70 [], dd "_law_right" "_law_right" 71 [], dd "_law_half_right" "_law_half_right" 72 [], dd "law" "law" 73 []]
def fn : List He.DefD := fn0 ++ fn1 ++ fn2
def fa0 : List He.Fa := [.glo "is_whole", .glo "is_between", .glo "check_number", .glo "power_of_two", .glo "twos", .glo "good_row", .glo "product_at", .glo "items_counted", .glo "is_width", .glo "check_width", .glo "is_of_width", .glo "rises", .glo "are_places", .glo "check_places", .glo "are_words", .glo "check_words", .glo "halves", .glo "pairs", .glo "best_splits", .glo "tree_of"]
def fa1 : List He.Fa := [.glo "lost_places", .glo "check_code_telling", .glo "items_of_code", .glo "lacking_item", .glo "hidden_word", .glo "distance_of_distance", .glo "distance", .glo "hurting", .glo "least_lost", .glo "lightest", .glo "check_code_reading", .glo "odd_undone", .glo "items_read", .glo "value_at", .glo "words_led_to", .glo "items_counted_at", .glo "distance_of_mending", .glo "mendable_of", .glo "mendable", .glo "are_neighbours"]
def fa2 : List He.Fa := [.glo "unlike_count", .glo "parts_tried", .glo "near_word", .glo "mended", .glo "wrong_at", .glo "_law_hash", .glo "_law_random", .glo "_law_cell", .glo "_law_generator", .glo "_law_spots", .glo "_law_words", .glo "_law_right", .glo "_law_half_right", .glo "law", .free "isinstance", .free "len", .free "list", .free "range", .free "int", .free "min"]
def fa3 : List He.Fa := [.free "max", .free "sum", .free "sorted", .free "zip", .free "dict", .free "enumerate", .free "bool", .int "MOST_WIDTH" 64]
def fa : List He.Fa := fa0 ++ fa1 ++ fa2 ++ fa3
def nm0 : List PySem.Str := ["CodeError", "InvalidNumber", "InvalidWidth", "InvalidWords", "InvalidPlaces", "MOST_WIDTH", "is_whole", "is_between", "check_number", "power_of_two", "twos", "good_row", "product_at", "items_counted", "is_width", "check_width", "is_of_width", "rises", "are_places"]
def nm1 : List PySem.Str := ["check_places", "are_words", "check_words", "halves", "pairs", "best_splits", "tree_of", "lost_places", "check_code", "check_code_telling", "items_of_code", "lacking_item", "hidden_word", "distance_of", "distance_of_distance", "distance", "hurting", "least_lost", "lightest", "check_code_reading"]
def nm2 : List PySem.Str := ["odd_undone", "items_read", "value_at", "words_led_to", "items_counted_at", "distance_of_mending", "mendable_of", "mendable", "are_neighbours", "unlike_count", "parts_tried", "near_word", "mended", "wrong_at", "_law_hash", "_law_random", "_law_cell", "_law_generator", "_law_spots", "_law_words"]
def nm3 : List PySem.Str := ["_law_right", "_law_half_right"]
def nm : List PySem.Str := nm0 ++ nm1 ++ nm2 ++ nm3
abbrev RowR : PySem.W.OpenRow := PySem.W.OpenLaw.row PySem.Challenge.rw_anyplaces_k45_whole_wrong_words_mended
/-- combinations is the type -/
def cmb (K : PySem.W.Frag) : Bool := decide (PySem.W.nsIn K mainGlobals "combinations" = some (some (.type "itertools.combinations")))
def see (K : PySem.W.Frag) : Bool × He.AlD := (cmb K, He.obsD fa fn K)
def look (g : Addr → Option Obj) : Bool × He.AlD := see (He.frG g (He.asD g 4))
def hk : PySem.W.Hook where
  α := Bool × He.AlD
  obs := fun s => look s.heap.get?
  val := fun _ => (true, He.valD fn)
  says := fun _ h => ∃ K : PySem.W.Frag, K.In h ∧ see K = (true, He.valD fn)
  of := fun _ _ e => ⟨_, He.frG_in, e⟩
  keeps := fun _ _ _ ⟨K1, hK1, cK1⟩ kk => ⟨K1, PySem.W.Frag.In.keeps hK1 kk, cK1⟩
def ob (s : PySem.W.SharedT) : Bool × He.AlD := look (HandSHeadRun.getT s)
theorem ob_eq (s : PySem.W.SharedT) : ob s = hk.obs s.abs := congrArg look (funext (HandSHeadRun.getT_eq s))
theorem run (w : World) : HandSHeadRun.RunEqI RowR (PySem.W.view RowR.prog [0, 73]) hk ob 20000 nm w := by
  unfold HandSHeadRun.RunEqI
  kernel_rfl
end AH
end
section
set_option maxRecDepth 100000
set_option maxHeartbeats 4000000
namespace AW
open PySem PySem.Spec PyProof.Rows L2 Evl AH
/-! ### what the top has left -/
structure TopT (K : PySem.W.Frag) (mg : Str → Option Value) : Prop where
  c : He.SaysD fa fn K
  h : ∃ h : Heap, K.In h ∧ h.Ns mainGlobals mg
  cb : PySem.W.nsIn K mainGlobals "combinations" = some (some (.type "itertools.combinations"))
section
variable {K : PySem.W.Frag} {mg : Str → Option Value}
theorem TopT.free (T : TopT K mg) (i : Nat) {x : Str} (h : fa[i]? = some (.free x) := by rfl) : mg x = none := by
  obtain ⟨hp, X, G⟩ := T.h
  exact He.free_ok X G (T.c.fact i h)
theorem TopT.glo (T : TopT K mg) (i : Nat) {x : Str} (h : fa[i]? = some (.glo x) := by rfl) : mg x = some (.ref (He.ga K x)) := by
  obtain ⟨hp, X, G⟩ := T.h
  exact He.glo_ok X G (T.c.fact i h)
theorem TopT.comb (T : TopT K mg) : mg "combinations" = some (.type "itertools.combinations") := by
  obtain ⟨hp, X, G⟩ := T.h
  exact PySem.W.mg_of X G T.cb
theorem TopT.mw (T : TopT K mg) : ∃ t, mg "MOST_WIDTH" = some (.int 64 t) := by
  obtain ⟨hp, X, G⟩ := T.h
  exact He.int_ok X G (T.c.fact 67 (f := .int "MOST_WIDTH" 64) rfl)
theorem TopT.f_isinstance (T : TopT K mg) : mg "isinstance" = none := T.free 54
theorem TopT.f_len (T : TopT K mg) : mg "len" = none := T.free 55
theorem TopT.f_list (T : TopT K mg) : mg "list" = none := T.free 56
theorem TopT.f_range (T : TopT K mg) : mg "range" = none := T.free 57
theorem TopT.f_int (T : TopT K mg) : mg "int" = none := T.free 58
theorem TopT.f_min (T : TopT K mg) : mg "min" = none := T.free 59
theorem TopT.f_max (T : TopT K mg) : mg "max" = none := T.free 60
theorem TopT.f_sum (T : TopT K mg) : mg "sum" = none := T.free 61
theorem TopT.f_sorted (T : TopT K mg) : mg "sorted" = none := T.free 62
theorem TopT.f_zip (T : TopT K mg) : mg "zip" = none := T.free 63
theorem TopT.f_dict (T : TopT K mg) : mg "dict" = none := T.free 64
theorem TopT.f_enumerate (T : TopT K mg) : mg "enumerate" = none := T.free 65
theorem TopT.f_bool (T : TopT K mg) : mg "bool" = none := T.free 66
end
/-! ### a def that keeps its promise, at a level -/
structure Cal (P : Program) (w : World) (K : PySem.W.Frag) (mg : Str → Option Value) (base : Heap) (k : Nat) (g : Str) (ps : List Str) (dvs : List V) (sp : Sp) : Prop where
  ex : ∃ (f : Addr) (fd : FuncData) (ds : List Value), FnOk P w K mg base CX0 k f fd ps sp ∧ mg g = some (.ref f) ∧ PySem.W.keepIn K (.ref f) = true ∧ Binds K fd ps ds ∧ Vals dvs ds
theorem Cal.up {P : Program} {w : World} {K : PySem.W.Frag} {mg : Str → Option Value} {base : Heap} {j k : Nat} {g : Str} {ps : List Str} {dvs : List V} {sp : Sp} (C : Cal P w K mg base j g ps dvs sp) (h : j ≤ k) : Cal P w K mg base k g ps dvs sp := by
  obtain ⟨f, fd, ds, F, a, b, c, d⟩ := C.ex
  exact ⟨f, fd, ds, F.mono h, a, b, c, d⟩
theorem pcall {X : Cx} {k : Nat} {g : Str} {ps : List Str} {dvs : List V} {sp : Sp} {p pos : Pos} {e : Expr} {es : List Expr} {t : TA} (C : Cal X.prog X.w X.K X.mg X.base k g ps dvs sp) (hr : Room k X.A) (ha : PA X (e :: es) t) (hg : Gl X g := by rfl)
    (hdb : (g == ("__debug__" : Str)) = false := by decide) (he : starEach (e :: es) X.env = (false, eval e X.env) :: starEach es X.env := by rfl) (hpl : (backTo pos (starEach es X.env)).any (·.1) = false := by rfl) :
    PE X (.Call (.Name g p) (e :: es) [] pos) (tCall sp dvs E0 t) := by
  obtain ⟨f, fd, ds, F, a, b, c, d⟩ := C.ex
  exact pe_call F hr hg a b c d pass0 ha hdb he hpl
section
variable {P : Program} {w : World} {K : PySem.W.Frag} {mg : Str → Option Value} {base : Heap}
/-- a def without defaults: the i-th fact, the j-th def, the n-th statement -/
theorem mkc (T : TopT K mg) {g x : Str} {n k : Nat} {N ps : List Str} {sp : Sp} (i j : Nat) (S : FnScope N ps (defScope (tp n))) (len : ∀ vs H Q E, sp vs H Q E → vs.length = ps.length)
    (hb : ∀ (kV doc pm : Value) (an : Option Addr) (cdv ct : Value) (us : List Value), us.length = ps.length → bindArgs (PySem.W.fnOf x x (defArgs (tp n)) (defBody (tp n)) (defScope (tp n)) .none kV doc pm an cdv ct) ⟨us, []⟩ = pure (ps.zip us))
    (hbody : ∀ (f : Addr) (cdv : Value) (A : Around) (outer : List Env) (s : Shared) (H : Hp) (E : XK), Room k (A.deeper (envOfC x (defScope (tp n)) s.heap.objs.size f cdv)) →
      ∃ t, PSs (cxOf CX0 P w K mg base N x (defScope (tp n)) f cdv A outer s H E).nox (defBody (tp n)) t ∧ ∀ vs Q, sp vs H Q E → t { nx := fun _ H' => Q .non H', rt := Q } (start N vs) H)
    (h1 : fa[i]? = some (.glo g) := by rfl) (h2 : fn[j]? = some (dd g x n []) := by rfl) : Cal P w K mg base (k + 1) g ps [] sp := by
  obtain ⟨fd, F⟩ := T.c.def_ j h2
  have F' : Fn K x n [] (He.ga K g) fd := F
  refine ⟨He.ga K g, fd, [], ?_, T.glo i h1, F'.kp, F'.bindsN hb, .nil⟩
  refine F'.ok S len fun cdv A outer s H vs Q E hr hsp => ?_
  obtain ⟨t, q1, q2⟩ := hbody _ cdv A outer s H E hr
  exact ⟨t, PSs.nox q1, q2 vs Q hsp⟩
end
/-! ### the rules that name the written part, in a comprehension's block -/
section
variable {X : Cx} {K : PySem.W.Frag}
theorem ix_listK (h : X.K = K) : IxR X (rIxL K) := h ▸ ix_list
theorem pg_tupK {es : List Expr} {k n : Nat} {t : TGs} {pos : Pos} (hK : X.K = K) (hc : X.calm = true) (h : PGs X es t) (hn : (assignEach es X.env).length = n := by rfl) (hst : (assignEach es X.env).findIdx? (·.1) = none := by rfl) : PG X (.Tuple es k pos) (gTup K n t) := hK ▸ pg_tup hc h hn hst
theorem ix_tupK (h : X.K = K) : IxR X (rIxT K) := h ▸ ix_tup
theorem sl_listK (h : X.K = K) : SlR X (rSlL K) := h ▸ sl_list
theorem op_inK (h : X.K = K) : OpR X (compareOp .In) (rIn K false) := h ▸ op_in_seq
theorem op_notInK (h : X.K = K) : OpR X (compareOp .NotIn) (rIn K true) := h ▸ op_notIn_seq
theorem call_lenK (h : X.K = K) : CallR X (.builtin "len") (rLenS K) := h ▸ call_len_seq
theorem call_listK (h : X.K = K) : CallR X (.type "list") (rListS K) := h ▸ call_list_of
end
end AW
end
section
set_option maxRecDepth 100000
set_option maxHeartbeats 4000000
namespace AW
open PySem PySem.Spec PyProof.Rows L2 Evl AH AP
/-! ### lists of ints as data -/
theorem dpAll_ints {K : PySem.W.Frag} {H : Hp} : ∀ ns : List Int, DpAll K H (ns.map V.int) (ns.map PyData.int)
  | [] => .nil
  | n :: r => .cons (.int n) (dpAll_ints r)
theorem dp_il {K : PySem.W.Frag} {H : Hp} {a : Addr} {ns : List Int} (h : SqL K H a (ns.map V.int)) : Dp K H (.ref a) (.list (ns.map PyData.int)) := .lst h (dpAll_ints ns)
theorem eqvAll_ints : ∀ ns ms : List Int, PyData.eqvAll (ns.map PyData.int) (ms.map PyData.int) = decide (ns = ms)
  | [], [] => rfl
  | [], _ :: _ => rfl
  | _ :: _, [] => rfl
  | n :: r, m :: q => by
    show (PyData.eqv (.int n) (.int m) && PyData.eqvAll (r.map PyData.int) (q.map PyData.int)) = _
    rw [eqvAll_ints r q]
    show ((n == m) && decide (r = q)) = _
    by_cases h1 : n = m <;> by_cases h2 : r = q <;> simp [h1, h2]
theorem eqv_ints (ns ms : List Int) : PyData.eqv (.list (ns.map PyData.int)) (.list (ms.map PyData.int)) = decide (ns = ms) := eqvAll_ints ns ms
theorem lay_ints : ∀ ns : List Int, PyData.canLayAll0 (ns.map PyData.int) = true
  | [] => rfl
  | n :: r => by
    show (PyData.canLay0 (.int n) && PyData.canLayAll0 (r.map PyData.int)) = true
    rw [lay_ints r]
    rfl
theorem depth_ints : ∀ ns : List Int, PyData.depthAll (ns.map PyData.int) = 0
  | [] => rfl
  | n :: r => by
    show max (PyData.depth (.int n)) (PyData.depthAll (r.map PyData.int)) = 0
    rw [depth_ints r]
    rfl
theorem shaped_ints (ns : List Int) : SeqAt.shaped (.list (ns.map PyData.int)) = true := by
  unfold SeqAt.shaped
  rw [show PyData.canLay0 (.list (ns.map PyData.int)) = PyData.canLayAll0 (ns.map PyData.int) from rfl, lay_ints, show PyData.depth (.list (ns.map PyData.int)) = PyData.depthAll (ns.map PyData.int) + 1 from rfl, depth_ints]
  rfl
/-- two lists of ints compared, a list and None -/
theorem rv_neI {K : PySem.W.Frag} {H : Hp} {a b : Addr} {ns ms : List Int} (h1 : SqL K H a (ns.map V.int)) (h2 : SqL K H b (ms.map V.int)) : RV (rNeD K) (.ref a) (.ref b) H (.bl (!decide (ns = ms))) := fun H1 e Q q =>
  ⟨_, _, dp_il (ex_l e h1), dp_il (ex_l e h2), shaped_ints _, shaped_ints _, by rw [eqv_ints]; exact q H1 (Ex.refl H1)⟩
theorem rv_eqI {K : PySem.W.Frag} {H : Hp} {a b : Addr} {ns ms : List Int} (h1 : SqL K H a (ns.map V.int)) (h2 : SqL K H b (ms.map V.int)) : RV (rEqD K) (.ref a) (.ref b) H (.bl (decide (ns = ms))) := fun H1 e Q q =>
  ⟨_, _, dp_il (ex_l e h1), dp_il (ex_l e h2), shaped_ints _, shaped_ints _, by rw [eqv_ints]; exact q H1 (Ex.refl H1)⟩
/-! ### what comes, by what is known of it -/
def EvP (te : TE) (σ : L2.St) (H : Hp) (R : V → Hp → Prop) : Prop := ∀ H1, Ex H H1 → ∀ Q : VK, (∀ v H2, Ex H1 H2 → R v H2 → Q v H2) → te σ H1 Q
def EvAP (ta : TA) (σ : L2.St) (H : Hp) (R : List V → Hp → Prop) : Prop := ∀ H1, Ex H H1 → ∀ Q : List V → Hp → Prop, (∀ v H2, Ex H1 H2 → R v H2 → Q v H2) → ta σ H1 Q
def SpP (sp : Sp) (vs : List V) (H : Hp) (R : V → Hp → Prop) : Prop := ∀ H1, Ex H H1 → ∀ Q : VK, (∀ v H2, Ex H1 H2 → R v H2 → Q v H2) → ∀ E : XK, sp vs H1 Q E
def RP (r : R2) (x y : V) (H : Hp) (R : V → Hp → Prop) : Prop := ∀ H1, Ex H H1 → ∀ Q : VK, (∀ v H2, Ex H1 H2 → R v H2 → Q v H2) → r x y H1 Q
section
variable {σ : L2.St} {H : Hp} {te ta tb : TE} {R RA : V → Hp → Prop} {t : L2.TT}
theorem Ev.p {v : V} (h : Ev te σ H v) (hr : ∀ H1, Ex H H1 → R v H1) : EvP te σ H R := fun H1 e Q q => h H1 e Q fun H2 e2 => q v H2 e2 (hr H2 (e.trans e2))
theorem EvL.p {xs : List V} (h : EvL te σ H xs) (hr : ∀ p H1, H p = none → H1 p = some (.lst xs) → Ex H H1 → R (.ref p) H1) : EvP te σ H R := fun H1 e Q q => h H1 e Q fun p H2 hn e2 hp => q _ H2 e2 (hr p H2 (fresh_back e hn) hp (e.trans e2))
theorem EvU.p {xs : List V} (h : EvU te σ H xs) (hr : ∀ p H1, H1 p = some (.tup xs) → Ex H H1 → R (.ref p) H1) : EvP te σ H R := fun H1 e Q q => h H1 e Q fun p H2 _ e2 hp => q _ H2 e2 (hr p H2 hp (e.trans e2))
theorem EvA.p {ta : TA} {vs : List V} {R : List V → Hp → Prop} (h : EvA ta σ H vs) (hr : ∀ H1, Ex H H1 → R vs H1) : EvAP ta σ H R := fun H1 e Q q => h H1 e Q fun H2 e2 => q vs H2 e2 (hr H2 (e.trans e2))
theorem EvP.imp {R' : V → Hp → Prop} (h : EvP te σ H R) (hr : ∀ v H1, Ex H H1 → R v H1 → R' v H1) : EvP te σ H R' := fun H1 e Q q => h H1 e Q fun v H2 e2 r => q v H2 e2 (hr v H2 (e.trans e2) r)
theorem EvP.mono {H' : Hp} (e : Ex H H') (h : EvP te σ H R) : EvP te σ H' R := fun H1 a Q q => h H1 (e.trans a) Q q
theorem eap_cons {tr : TA} {RA : List V → Hp → Prop} (h : EvP te σ H R) (hr : ∀ v H1, Ex H H1 → R v H1 → EvAP tr σ H1 fun vs H2 => RA (v :: vs) H2) : EvAP (tCons te tr) σ H RA := fun H1 e Q q =>
  h H1 e _ fun v H2 e2 r => hr v H2 (e.trans e2) r H2 (Ex.refl H2) _ fun vs H3 e3 ra => q (v :: vs) H3 (e2.trans e3) ra
theorem eap_nil {RA : List V → Hp → Prop} (hr : ∀ H1, Ex H H1 → RA [] H1) : EvAP tNil σ H RA := fun H1 e Q q => q [] H1 (Ex.refl H1) (hr H1 e)
theorem evp_call {sp : Sp} {dvs : List V} {E : XK} {ta : TA} {RA : List V → Hp → Prop} (h : EvAP ta σ H RA) (hs : ∀ vs H1, Ex H H1 → RA vs H1 → SpP sp (vs ++ dvs) H1 R) : EvP (tCall sp dvs E ta) σ H R := fun H1 e Q q =>
  h H1 e _ fun vs H2 e2 ra => hs vs H2 (e.trans e2) ra H2 (Ex.refl H2) Q (fun v H3 e3 r => q v H3 (e2.trans e3) r) E
theorem evp_callA {sp : Sp} {dvs vs : List V} {E : XK} {ta : TA} (h : EvA ta σ H vs) (hs : SpP sp (vs ++ dvs) H R) : EvP (tCall sp dvs E ta) σ H R := fun H1 e Q q =>
  h H1 e _ fun H2 e2 => hs H2 (e.trans e2) Q (fun v H3 e3 r => q v H3 (e2.trans e3) r) E
theorem evp_op {r : R2} (ha : EvP ta σ H RA) (hb : ∀ x H1, Ex H H1 → RA x H1 → EvP tb σ H1 fun y H2 => RP r x y H2 R) : EvP (tOp r ta tb) σ H R := fun H1 e Q q =>
  ha H1 e _ fun x H2 e2 ra => hb x H2 (e.trans e2) ra H2 (Ex.refl H2) _ fun y H3 e3 rp => rp H3 (Ex.refl H3) Q fun v H4 e4 r => q v H4 ((e2.trans e3).trans e4) r
theorem rp_of {r : R2} {x y z : V} (h : RV r x y H z) (hr : ∀ H1, Ex H H1 → R z H1) : RP r x y H R := fun H1 e Q q => h H1 e Q fun H2 e2 => q z H2 e2 (hr H2 (e.trans e2))
theorem evp_if {b : Bool} (h : EvT t σ H b) (h1 : b = true → EvP ta σ H R) (h2 : b = false → EvP tb σ H R) : EvP (tIf t ta tb) σ H R := fun H1 e Q q => h H1 e _ fun H2 e2 => by
  cases b with
  | true => exact h1 rfl H2 (e.trans e2) Q fun v H3 e3 r => q v H3 (e2.trans e3) r
  | false => exact h2 rfl H2 (e.trans e2) Q fun v H3 e3 r => q v H3 (e2.trans e3) r
variable {D : Ends} {tz : TS}
theorem s_retP (h : EvP te σ H R) (k : ∀ v H1, Ex H H1 → R v H1 → D.rt v H1) : tRet te D σ H := h H (Ex.refl H) _ fun v H1 e r => k v H1 e r
theorem q_asgP {i : Nat} (h : EvP te σ H R) (k : ∀ v H1, Ex H H1 → R v H1 → tz D (σ.set i (some v)) H1) : tSeq (tAsg te (gName i)) tz D σ H := h H (Ex.refl H) _ fun v H1 e r => k v H1 e r
end
/-! ### comprehensions over ints -/
theorem range_getD (ns : List Int) : (List.range ns.length).map (fun i => ns.getD i 0) = ns := by
  apply List.ext_getElem
  · simp
  · intro i h1 h2
    simp at h1
    simp [h1]
theorem given_ints (ns : List Int) (p : Int → Bool) (g : Int → V) : given ns.length (fun i => p (ns.getD i 0)) (fun i => g (ns.getD i 0)) = (ns.filter p).map g := by
  have e : ((List.range ns.length).filter fun i => p (ns.getD i 0)).map (fun i => ns.getD i 0) = ns.filter p := by
    rw [show (fun i => p (ns.getD i 0)) = p ∘ (fun i => ns.getD i 0) from rfl, ← List.filter_map, range_getD]
  unfold given
  rw [← e, List.map_map]
  rfl
section
variable {K : PySem.W.Frag} {σ : L2.St} {H : Hp} {tl te : TE} {t : L2.TT}
theorem ix_ints {ns : List Int} {i : Nat} {x : V} (h : (ns.map V.int)[i]? = some x) : ∃ n, ns[i]? = some n ∧ x = .int n ∧ n ∈ ns ∧ ns.getD i 0 = n := by
  rw [List.getElem?_map] at h
  cases e : ns[i]? with
  | none => rw [e] at h; cases h
  | some n =>
    rw [e] at h
    refine ⟨n, rfl, (Option.some.inj h).symm, List.mem_of_getElem? e, ?_⟩
    rw [List.getD_eq_getElem?_getD, e]
    rfl
theorem el_lcI {a : Addr} {ns : List Int} {j : Nat} {vs : List Nat} (p : Int → Bool) (g : Int → V) (h : Ev tl σ H (.ref a)) (hx : SqL K H a (ns.map V.int)) (hz : ns.length ≤ 40000) (hw : ∀ x, wipe ((wipe σ vs).set j (some x)) vs = wipe σ vs)
    (ht : ∀ n H1, Ex H H1 → n ∈ ns → EvT t ((wipe σ vs).set j (some (.int n))) H1 (p n)) (he : ∀ n H1, Ex H H1 → n ∈ ns → p n = true → Ev te ((wipe σ vs).set j (some (.int n))) H1 (g n)) :
    EvL (tLc (iList K tl) (gName j) t te vs) σ H ((ns.filter p).map g) := by
  rw [← given_ints ns p g]
  have e : ns.length = (ns.map V.int).length := (List.length_map _).symm
  rw [e]
  refine el_lcL _ _ h hx (by simpa using hz) hw (fun i x H1 e1 hi => ?_) fun i x H1 e1 hi hp => ?_
  · obtain ⟨n, _, rfl, hm, hd⟩ := ix_ints hi
    rw [hd]
    exact ht n H1 e1 hm
  · obtain ⟨n, _, rfl, hm, hd⟩ := ix_ints hi
    rw [hd] at hp ⊢
    exact he n H1 e1 hm hp
theorem el_lcNI {ns : List Int} {j : Nat} {vs : List Nat} (p : Int → Bool) (g : Int → V) (h : EvL tl σ H (ns.map V.int)) (hz : ns.length ≤ 40000) (hw : ∀ x, wipe ((wipe σ vs).set j (some x)) vs = wipe σ vs)
    (ht : ∀ n H1, Ex H H1 → n ∈ ns → EvT t ((wipe σ vs).set j (some (.int n))) H1 (p n)) (he : ∀ n H1, Ex H H1 → n ∈ ns → p n = true → Ev te ((wipe σ vs).set j (some (.int n))) H1 (g n)) :
    EvL (tLc (iList K tl) (gName j) t te vs) σ H ((ns.filter p).map g) := by
  rw [← given_ints ns p g]
  have e : ns.length = (ns.map V.int).length := (List.length_map _).symm
  rw [e]
  refine el_lcNL _ _ h (by simpa using hz) hw (fun i x H1 e1 hi => ?_) fun i x H1 e1 hi hp => ?_
  · obtain ⟨n, _, rfl, hm, hd⟩ := ix_ints hi
    rw [hd]
    exact ht n H1 e1 hm
  · obtain ⟨n, _, rfl, hm, hd⟩ := ix_ints hi
    rw [hd] at hp ⊢
    exact he n H1 e1 hm hp
theorem cut_to {ns : List Int} {k : Nat} : cutV (ns.map V.int) none (some (k : Int)) = (ns.take k).map V.int := by
  unfold cutV
  rw [HT.sIx_none, HT.sIx_nat, List.drop_zero, Nat.sub_zero, List.length_map, ← List.map_take]
  congr 1
  rcases Nat.le_total k ns.length with h | h
  · rw [Nat.min_eq_left h]
  · rw [Nat.min_eq_right h, List.take_of_length_le (Nat.le_refl _), List.take_of_length_le h]
theorem cut_from {ns : List Int} {k : Nat} : cutV (ns.map V.int) (some (k : Int)) none = (ns.drop k).map V.int := by
  unfold cutV
  rw [HT.sIx_none, HT.sIx_nat, List.length_map, ← List.map_drop, ← List.map_take]
  congr 1
  rcases Nat.le_total k ns.length with h | h
  · rw [Nat.min_eq_left h]
    exact List.take_of_length_le (by simp)
  · rw [Nat.min_eq_right h, List.drop_of_length_le h]
    simp
theorem el_take {tk : TE} {a : Addr} {ns : List Int} {k : Nat} (h : Ev tl σ H (.ref a)) (h2 : Ev tk σ H (.int (k : Int))) (hs : SqL K H a (ns.map V.int)) : EvL (tSl (rSlL K) tl tNoPart (tPart tk)) σ H ((ns.take k).map V.int) := by
  rw [← cut_to]
  exact el_sl h eo_none (eo_some h2) hs
theorem el_drop {tk : TE} {a : Addr} {ns : List Int} {k : Nat} (h : Ev tl σ H (.ref a)) (h2 : Ev tk σ H (.int (k : Int))) (hs : SqL K H a (ns.map V.int)) : EvL (tSl (rSlL K) tl (tPart tk) tNoPart) σ H ((ns.drop k).map V.int) := by
  rw [← cut_from]
  exact el_sl h (eo_some h2) eo_none hs
theorem ev_lenI {a : Addr} {ns : List Int} (h : Ev tl σ H (.ref a)) (hs : SqL K H a (ns.map V.int)) : Ev (tCB (rLenS K) (tCons tl tNil)) σ H (.int (ns.length : Int)) := by
  have := ev_len (K := K) h hs
  rwa [List.length_map] at this
theorem ev_lenNI {ns : List Int} (h : EvL tl σ H (ns.map V.int)) : Ev (tCB (rLenS K) (tCons tl tNil)) σ H (.int (ns.length : Int)) := by
  have := ev_lenN (K := K) h
  rwa [List.length_map] at this
theorem el_lcR2 {ta : TA} {j : Nat} {vs : List Nat} {lo n : Int} (f : Nat → Bool) (v : Nat → V) (h : EvA ta σ H [.int lo, .int n]) (hn : 0 ≤ lo ∧ lo ≤ 40000 ∧ -40000 ≤ n ∧ n ≤ 40000) (hw : ∀ x, wipe ((wipe σ vs).set j (some x)) vs = wipe σ vs)
    (ht : ∀ (i : Nat) H1, Ex H H1 → lo + (i : Int) < n → EvT t ((wipe σ vs).set j (some (.int (lo + (i : Int))))) H1 (f i)) (he : ∀ (i : Nat) H1, Ex H H1 → lo + (i : Int) < n → f i = true → Ev te ((wipe σ vs).set j (some (.int (lo + (i : Int))))) H1 (v i)) :
    EvL (tLc (iRng2 ta) (gName j) t te vs) σ H (given (n - lo).toNat f v) := fun H0 e Q q => h H0 e _ fun H1 e1 => ⟨lo, n, rfl, ⟨by omega, by omega, by omega, by omega⟩, fun Dl hD =>
  lc_range (lo := lo) (n := (n - lo).toNat) (Cw H1 f v Dl) ⟨hD, Ex.new hD, upd_same⟩ (fun i H' hi p => ⟨hw _, cw_turn p (by omega) (ht i H1 (e.trans e1) (by omega)) (fun hf => he i H1 (e.trans e1) (by omega) hf)⟩) (fun H' p => q Dl H' (fresh_back e1 p.1) (e1.trans p.2.1) p.2.2)⟩
theorem given_none (n : Nat) (v : Nat → V) : given n (fun _ => false) v = [] := by
  unfold given
  simp
theorem et_yes : EvT tYes σ H true := fun H1 _ Q q => q H1 (Ex.refl H1)
end
theorem g_MOST_WIDTH {X : Cx} {pos : Pos} (T : TopT X.K X.mg) (hg : Gl X "MOST_WIDTH") : PE X (.Name "MOST_WIDTH" pos) (tC (.int 64)) := by
  obtain ⟨t, h⟩ := T.mw
  exact pe_glob hg h ⟨t, rfl⟩
/-- places of a width -/
structure Plc (w : Nat) (ps : List Int) : Prop where
  ne : ps ≠ []
  len : ps.length ≤ 8
  asc : ps.Pairwise (· < ·)
  lo : ∀ p ∈ ps, 0 ≤ p
  hi : ∀ p ∈ ps, p < 2 ^ w
  w1 : 1 ≤ w
  w64 : w ≤ 64
theorem asc_ix {ns : List Int} (h : ns.Pairwise (· < ·)) {i : Nat} (hi : i + 1 < ns.length) : ns.getD i 0 < ns.getD (i + 1) 0 := by
  have h1 : i < ns.length := by omega
  have := List.pairwise_iff_getElem.mp h i (i + 1) h1 hi (by omega)
  simpa [List.getD_eq_getElem?_getD, h1, hi] using this
theorem at_ints {ns : List Int} {i : Nat} (hi : i < ns.length) : atI (ns.map V.int) (i : Int) = some (.int (ns.getD i 0)) :=
  atI_nat (by rw [List.getElem?_map, List.getElem?_eq_getElem hi, List.getD_eq_getElem?_getD, List.getElem?_eq_getElem hi] <;> rfl)
end AW
end
section
set_option maxRecDepth 100000
set_option maxHeartbeats 4000000
namespace AW
open PySem PySem.Spec PyProof.Rows L2 Evl AH AP
section
variable {P : Program} {w : World} {K : PySem.W.Frag} {mg : Str → Option Value} {base : Heap} {k : Nat}
/-! ### is_whole, is_between, check_number -/
theorem sc9 : FnScope ["value"] ["value"] (defScope (tp 9)) := ⟨rfl, rfl, rfl, by decide +kernel, rfl, by decide +kernel, by decide +kernel⟩
def sp9 : Sp := fun vs H Q _ => ∃ i : Int, vs = [.int i] ∧ ∀ H', Ex H H' → Q (.bl true) H'
theorem isi_int {v : V} {H H1 : Hp} {b c : String} {r : Bool} {i : Int} (hc : kitB "int" c = some r) (Q : VK) (q : Q (.bl r) H) : rIsi K [.int i, .ty c] H Q :=
  ⟨.int i, .ty c, .type "int", .type c, r, rfl, .ty c, .base (.int i), kit_ty hc, q⟩
theorem ok9 (T : TopT K mg) : Cal P w K mg base (k + 1) "is_whole" ["value"] [] sp9 := by
  refine mkc (n := 9) T 0 0 sc9 (fun vs H Q E h => ?_) (fun _ _ _ _ _ _ us hl => match us, hl with | [_], _ => rfl) fun f cdv A outer s H E hr => ⟨_, (pss_one (ps_ret (pe_and (pe_callB call_isi (by rfl) T.f_isinstance (by decide +kernel) (pa_cons (pv 0) (pa_cons (pe_bltn (v := .ty "int") (by rfl) T.f_int (by decide +kernel) rfl) pa_nil))) (pe_one (pe_not (pe_callB call_isi (by rfl) T.f_isinstance (by decide +kernel) (pa_cons (pv 0) (pa_cons (pe_bltn (v := .ty "bool") (by rfl) T.f_bool (by decide +kernel) rfl) pa_nil)))))))), fun vs Q h => ?_⟩
  · obtain ⟨i, rfl, _⟩ := h
    rfl
  · obtain ⟨i, rfl, q⟩ := h
    have h1 : RC (rIsi K) [.int i, .ty "int"] H (.bl true) := fun H1 _ Q q => isi_int (v := .non) (H1 := H) (b := "") (by decide +kernel) Q (q H1 (Ex.refl H1))
    have h2 : RC (rIsi K) [.int i, .ty "bool"] H (.bl false) := fun H1 _ Q q => isi_int (v := .non) (H1 := H) (b := "") (by decide +kernel) Q (q H1 (Ex.refl H1))
    exact s_ret (ev_andV (ev_cb (ea_cons (ev_var rfl) (ea_cons ev_c ea_nil)) h1) fun _ => ev_notV (ev_cb (ea_cons (ev_var rfl) (ea_cons ev_c ea_nil)) h2)) q
theorem rv_isN {x : V} {H : Hp} : RV (fun x y H Q => y = V.non ∧ Q (.bl (decide (x = .non))) H) x .non H (.bl (decide (x = .non))) := fun H1 _ _ q => ⟨rfl, q H1 (Ex.refl H1)⟩
theorem rv_notN {x : V} {H : Hp} : RV (fun x y H Q => y = V.non ∧ Q (.bl (!decide (x = .non))) H) x .non H (.bl (!decide (x = .non))) := fun H1 _ _ q => ⟨rfl, q H1 (Ex.refl H1)⟩
/-- a bound, which may be None -/
def Lo (l : V) (i : Int) (b : Bool) : Prop := (l = .non ∧ b = true) ∨ ∃ a, l = .int a ∧ b = decide (a ≤ i)
def Hi (l : V) (i : Int) (b : Bool) : Prop := (l = .non ∧ b = true) ∨ ∃ a, l = .int a ∧ b = decide (i ≤ a)
/-- a promise that a value comes, to a call -/
theorem spv {sp : Sp} {vs : List V} {H : Hp} {z : V} (h : ∀ H1, Ex H H1 → ∀ Q : VK, (∀ H2, Ex H1 H2 → Q z H2) → ∀ E : XK, sp vs H1 Q E) : SpV sp vs H z := h
theorem sc10 : FnScope ["value", "low", "high"] ["value", "low", "high"] (defScope (tp 10)) := ⟨rfl, rfl, rfl, by decide +kernel, rfl, by decide +kernel, by decide +kernel⟩
def sp10 : Sp := fun vs H Q _ => ∃ (i : Int) (l h : V) (a b : Bool), vs = [.int i, l, h] ∧ Lo l i a ∧ Hi h i b ∧ ∀ H', Ex H H' → Q (.bl (a && b)) H'
theorem ok10 (T : TopT K mg) (C_is_whole : Cal P w K mg base k "is_whole" ["value"] [] sp9) : Cal P w K mg base (k + 1) "is_between" ["value", "low", "high"] [] sp10 := by
  refine mkc (n := 10) T 1 1 sc10 (fun vs H Q E h => ?_) (fun _ _ _ _ _ _ us hl => match us, hl with | [_, _, _], _ => rfl) fun f cdv A outer s H E hr => ⟨_, (pss_cons (ps_if (pt_not (pt_val (pcall C_is_whole hr (pa_cons (pv 0) pa_nil)))) (pss_one (ps_ret pe_bl)) pss_nil) (pss_one (ps_ret (pe_and (pe_or (pe_cmpR op_isN (pv 1) pe_non (nomark _)) (pe_one (pe_cmpR op_ge (pv 0) (pv 1) (nomark _)))) (pe_one (pe_or (pe_cmpR op_isN (pv 2) pe_non (nomark _)) (pe_one (pe_cmpR op_le (pv 0) (pv 2) (nomark _))))))))), fun vs Q h => ?_⟩
  · obtain ⟨i, l, u, a, b, rfl, _⟩ := h
    rfl
  · obtain ⟨i, l, u, a, b, rfl, hl, hh, q⟩ := h
    have h0 : SpV sp9 ([.int i] ++ []) H (.bl true) := fun H1 e Q q E => ⟨i, rfl, q⟩
    refine q_when (et_not (et_B (ev_call (ea_cons (ev_var rfl) ea_nil) h0))) (fun c => nomatch c) fun _ H1 e1 => ?_
    refine s_ret (ev_andV (a := a) (b := b) ?_ fun _ => ?_) fun H2 e2 => q H2 (e1.trans e2)
    · rcases hl with ⟨rfl, rfl⟩ | ⟨z, rfl, rfl⟩
      · exact ev_orV (a := true) (b := true) (ev_op (ev_var rfl) ev_c rv_isN) fun c => nomatch c
      · exact ev_orV (a := false) (b := decide (z ≤ i)) (ev_op (ev_var rfl) ev_c rv_isN) fun _ => ev_op (ev_var rfl) (ev_var rfl) rv_I0
    · rcases hh with ⟨rfl, rfl⟩ | ⟨z, rfl, rfl⟩
      · exact ev_orV (a := true) (b := true) (ev_op (ev_var rfl) ev_c rv_isN) fun c => nomatch c
      · exact ev_orV (a := false) (b := decide (i ≤ z)) (ev_op (ev_var rfl) ev_c rv_isN) fun _ => ev_op (ev_var rfl) (ev_var rfl) rv_I0
theorem sc11 : FnScope ["number", "low", "high"] ["number", "low", "high"] (defScope (tp 11)) := ⟨rfl, rfl, rfl, by decide +kernel, rfl, by decide +kernel, by decide +kernel⟩
def sp11 : Sp := fun vs H Q _ => ∃ (i : Int) (l h : V), vs = [.int i, l, h] ∧ Lo l i true ∧ Hi h i true ∧ ∀ H', Ex H H' → Q .non H'
theorem ok11 (T : TopT K mg) (C_is_between : Cal P w K mg base k "is_between" ["value", "low", "high"] [] sp10) : Cal P w K mg base (k + 1) "check_number" ["number", "low", "high"] [] sp11 := by
  refine mkc (n := 11) T 2 2 sc11 (fun vs H Q E h => ?_) (fun _ _ _ _ _ _ us hl => match us, hl with | [_, _, _], _ => rfl) fun f cdv A outer s H E hr => ⟨_, (pss_one (ps_if (pt_not (pt_val (pcall C_is_between hr (pa_cons (pv 0) (pa_cons (pv 1) (pa_cons (pv 2) pa_nil)))))) (pss_one ps_never) pss_nil)), fun vs Q h => ?_⟩
  · obtain ⟨i, l, u, rfl, _⟩ := h
    rfl
  · obtain ⟨i, l, u, rfl, hl, hh, q⟩ := h
    have h0 : SpV sp10 ([.int i, l, u] ++ []) H (.bl true) := fun H1 e Q q E => ⟨i, l, u, true, true, rfl, hl, hh, q⟩
    exact s_when (et_not (et_B (ev_call (ea_cons (ev_var rfl) (ea_cons (ev_var rfl) (ea_cons (ev_var rfl) ea_nil))) h0))) (fun c => nomatch c) fun _ H1 e1 => q H1 e1
/-! ### power_of_two, twos -/
theorem sc12 : FnScope ["many"] ["many"] (defScope (tp 12)) := ⟨rfl, rfl, rfl, by decide +kernel, rfl, by decide +kernel, by decide +kernel⟩
def sp12 : Sp := fun vs H Q _ => ∃ n : Nat, vs = [.int (n : Int)] ∧ n ≤ 1000 ∧ ∀ H', Ex H H' → Q (.int (2 ^ n)) H'
theorem ok12 (T : TopT K mg) : Cal P w K mg base (k + 1) "power_of_two" ["many"] [] sp12 := by
  refine mkc (n := 12) T 3 3 sc12 (fun vs H Q E h => ?_) (fun _ _ _ _ _ _ us hl => match us, hl with | [_], _ => rfl) fun f cdv A outer s H E hr => ⟨_, (pss_one (ps_ret (pe_op op_shl pe_int (pv 0)))), fun vs Q h => ?_⟩
  · obtain ⟨n, rfl, _⟩ := h
    rfl
  · obtain ⟨n, rfl, hn, q⟩ := h
    refine s_ret (ev_op ev_c (ev_var rfl) (rv_I ⟨by omega, by omega, by decide⟩)) fun H1 e => ?_
    have := q H1 e
    simpa using this
theorem sc13 : FnScope ["number", "found"] ["number"] (defScope (tp 13)) := ⟨rfl, rfl, rfl, by decide +kernel, rfl, by decide +kernel, by decide +kernel⟩
def sp13 : Sp := fun vs H Q _ => ∃ n : Int, vs = [.int n] ∧ n ≠ 0 ∧ ∀ H', Ex H H' → Q (.int (v2 n : Nat)) H'
theorem ok13 (T : TopT K mg) : Cal P w K mg base (k + 1) "twos" ["number"] [] sp13 := by
  refine mkc (n := 13) T 4 4 sc13 (fun vs H Q E h => ?_) (fun _ _ _ _ _ _ us hl => match us, hl with | [_], _ => rfl) fun f cdv A outer s H E hr => ⟨_, (pss_cons (ps_set (i := 1) sc13.nd rfl (Or.inl rfl) pe_int) (pss_cons (ps_while PassesOwn.never (pt_cmpR op_eq (pe_op op_mod (pv 0) pe_int) pe_int (nomark _)) (pss_one (ps_par (i := 0) (j := 1) rfl sc13.nd rfl rfl (by decide) rfl rfl (pa_cons (pe_op op_fdivW (pv 0) pe_int) (pa_cons (pe_op op_add (pv 1) pe_int) pa_nil)) (by rfl)))) (pss_one (ps_ret (pv 1))))), fun vs Q h => ?_⟩
  · obtain ⟨n, rfl, _⟩ := h
    rfl
  · obtain ⟨n, rfl, hn, q⟩ := h
    refine q_asg ev_c fun H1 e1 => ?_
    refine q_while (fun m σ' H' => ∃ (z : Int) (c : Nat), σ' = [some (.int z), some (.int (c : Int))] ∧ z ≠ 0 ∧ m = z.natAbs ∧ c + v2 z = v2 n ∧ Ex H H') n.natAbs ⟨n, 0, rfl, hn, rfl, by omega, e1⟩ ?_
    rintro m σ' H' ⟨z, c, rfl, hz, rfl, hc, e2⟩
    refine ⟨decide (z % 2 = 0), et_is (et_test (ev_op (ev_op (ev_var rfl) ev_c (rv_I (by decide))) ev_c (rv_eq rfl))) ?_, fun hb H3 e3 => ?_, fun hb H3 e3 => ?_⟩
    · by_cases h : z % 2 = 0 <;> simp [h]
    · have h2 : z % 2 = 0 := of_decide_eq_true hb
      have hv := v2_even hz h2
      refine ⟨fun σ2 H2 => ∃ (z' : Int) (c' : Nat), σ2 = [some (.int z'), some (.int (c' : Int))] ∧ z' ≠ 0 ∧ z'.natAbs < z.natAbs ∧ c' + v2 z' = v2 n ∧ Ex H H2, ?_, ?_⟩
      · rintro σ2 H2 ⟨z', c', e, h1, h2, h3, h4⟩
        exact ⟨_, h2, z', c', e, h1, rfl, h3, h4⟩
      · refine (ea_cons (ev_op (ev_var rfl) ev_c (rv_I ⟨by decide, by decide⟩)) (ea_cons (ev_op (ev_var rfl) ev_c rv_I0) ea_nil)) H3 (Ex.refl _) _ fun H4 e4 => ?_
        refine ⟨_, _, rfl, z / 2, c + 1, ?_, by omega, by omega, by omega, (e2.trans e3).trans e4⟩
        simp
    · have h2 : ¬ z % 2 = 0 := of_decide_eq_false hb
      have hv := v2_odd h2
      refine s_ret (ev_var rfl) fun H4 e4 => ?_
      have := q H4 ((e2.trans e3).trans e4)
      rw [show c = v2 n by omega]
      exact this
end
end AW
end
section
set_option maxRecDepth 100000
set_option maxHeartbeats 4000000
namespace AW
open PySem PySem.Spec PyProof.Rows L2 Evl AH AP
section
variable {P : Program} {w : World} {K : PySem.W.Frag} {mg : Str → Option Value} {base : Heap} {k : Nat}
/-! ### product_at, items_counted -/
theorem sc15 : FnScope ["order", "many", "number", "found", "place"] ["order", "many", "number"] (defScope (tp 15)) := ⟨rfl, rfl, rfl, by decide +kernel, rfl, by decide +kernel, by decide +kernel⟩
def sp15 : Sp := fun vs H Q _ => ∃ (a : Addr) (ns : List Int) (m : Nat) (x : Int), vs = [.ref a, .int (m : Int), .int x] ∧ H a = some (.lst (ns.map V.int)) ∧ ns.length ≤ 64 ∧ x.natAbs < 2 ^ 64 ∧ (∀ z ∈ ns, z.natAbs < 2 ^ 64) ∧
  ∀ H', Ex H H' → Q (.int (prodAt (ns.take m) x)) H'
theorem ok15 (T : TopT K mg) : Cal P w K mg base (k + 1) "product_at" ["order", "many", "number"] [] sp15 := by
  refine mkc (n := 15) T 6 6 sc15 (fun vs H Q E h => ?_) (fun _ _ _ _ _ _ us hl => match us, hl with | [_, _, _], _ => rfl) fun f cdv A outer s H E hr => ⟨_, (pss_cons (ps_set (i := 3) sc15.nd rfl (Or.inl rfl) pe_int) (pss_cons (ps_for PassesOwn.never rfl (pi_list (pe_slice sl_list (pv 0) po_none (po_some (pv 1)))) (pg_name (i := 4) sc15.nd rfl (Or.inl rfl)) (pss_one (ps_set (i := 3) sc15.nd rfl (Or.inl rfl) (pe_op op_mulW (pv 3) (pe_op op_sub (pv 2) (pv 4)))))) (pss_one (ps_ret (pv 3))))), fun vs Q h => ?_⟩
  · obtain ⟨a, ns, m, x, rfl, _⟩ := h
    rfl
  · obtain ⟨a, ns, m, x, rfl, ha, hz, hx, hn, q⟩ := h
    refine q_asg ev_c fun H1 e1 => ?_
    refine q_forNLn (el_take (k := m) (ev_var rfl) (ev_var rfl) (sq_of (e1 a _ ha))) (fun p i σ' H' => ∃ y, σ' = [some (.ref a), some (.int (m : Int)), some (.int x), some (.int (prodAt ((ns.take m).take i) x)), y] ∧ Ex H1 H' ∧ H' p = some (.lst ((ns.take m).map V.int))) (fun p H2 _ e2 hp => ⟨none, rfl, e2, hp⟩)
      (fun p i σ' H' _ h => by obtain ⟨y, _, _, hp⟩ := h; exact sq_of hp) (fun p i v σ' H' hi h => ?_) (fun p σ' H' h => ?_)
    · obtain ⟨y, rfl, e2, hp⟩ := h
      obtain ⟨z, hz1, rfl, hm, _⟩ := ix_ints hi
      have hb : ((prodAt ((ns.take m).take i) x).natAbs < 2 ^ (1 + (64 + 1) * 64)) := by
        have := prodAt_bound hx (l := (ns.take m).take i) (fun b hb => hn b (List.mem_of_mem_take (List.mem_of_mem_take hb))) 1 1 (by decide)
        refine Nat.lt_of_lt_of_le this (Nat.pow_le_pow_right (by decide) ?_)
        have : ((ns.take m).take i).length ≤ 64 := by simp; omega
        omega
      have hb2 : (x - z).natAbs < 2 ^ 65 := by
        have := hn z (List.mem_of_mem_take hm)
        omega
      refine s_asg (ev_op (ev_var rfl) (ev_op (ev_var rfl) (ev_var rfl) rv_I0) (rv_I (wide_mul hb hb2 (by omega) (by omega) (by omega)))) fun H3 e3 => ?_
      refine ⟨some (.int z), ?_, e2.trans e3, e3 p _ hp⟩
      have : (ns.take m).take (i + 1) = (ns.take m).take i ++ [z] := by rw [List.take_add_one, hz1]; rfl
      rw [this, prodAt_snoc]
      rfl
    · obtain ⟨y, rfl, e2, hp⟩ := h
      refine s_ret (ev_var rfl) fun H3 e3 => ?_
      have := q H3 ((e1.trans e2).trans e3)
      rwa [List.length_map, List.take_length]
theorem sc16 : FnScope ["width", "numbers", "count", "number"] ["width", "numbers", "count"] (defScope (tp 16)) := ⟨rfl, rfl, rfl, by decide +kernel, rfl, by decide +kernel, by decide +kernel⟩
def sp16 : Sp := fun vs H Q _ => ∃ (w : Int) (a : Addr) (ns : List Int) (c : Nat), vs = [.int w, .ref a, .int (c : Int)] ∧ H a = some (.lst (ns.map V.int)) ∧ ns.length ≤ 64 ∧ ∀ H', Ex H H' → Q (.int (kc w ns c : Nat)) H'
theorem ok16 (T : TopT K mg) : Cal P w K mg base (k + 1) "items_counted" ["width", "numbers", "count"] [] sp16 := by
  refine mkc (n := 16) T 7 7 sc16 (fun vs H Q E h => ?_) (fun _ _ _ _ _ _ us hl => match us, hl with | [_, _, _], _ => rfl) fun f cdv A outer s H E hr => ⟨_, (pss_one (ps_ret (pe_callB call_len_seq (by rfl) T.f_len (by decide +kernel) (pa_cons (pe_lc (own := [("number", 3)]) (g := gName 3) rfl sc16.nd (pi_list (pe_slice sl_list (pv 1) po_none (po_some (pv 2)))) (blkOk_by (own := [("number", 3)]) (N := ["width", "numbers", "count", "number"]) (sc := defScope (tp 16)) (by decide +kernel)) (fun _ _ _ _ _ => (pg_name (i := 3) sc16.nd rfl (Or.inl rfl))) (fun _ _ _ _ _ => pts_one (pt_cmpR op_lt (pv 3) (pv 0) (nomark _))) (fun _ _ _ _ _ => (pv 3))) pa_nil)))), fun vs Q h => ?_⟩
  · obtain ⟨v, a, ns, c, rfl, _⟩ := h
    rfl
  · obtain ⟨v, a, ns, c, rfl, ha, hz, q⟩ := h
    exact s_ret (ev_lenNI (el_lcNI (fun n => decide (n < v)) V.int (el_take (k := c) (ev_var rfl) (ev_var rfl) (sq_of ha)) (by simp; omega) (fun _ => rfl) (fun n H1 _ _ => et_test (ev_op (ev_var rfl) (ev_var rfl) rv_I0)) (fun n H1 _ _ _ => ev_var rfl))) q
/-! ### widths, words, places -/
theorem sc18 : FnScope ["value"] ["value"] (defScope (tp 18)) := ⟨rfl, rfl, rfl, by decide +kernel, rfl, by decide +kernel, by decide +kernel⟩
def sp18 : Sp := fun vs H Q _ => ∃ n : Nat, vs = [.int (n : Int)] ∧ 1 ≤ n ∧ n ≤ 64 ∧ ∀ H', Ex H H' → Q (.bl true) H'
theorem ok18 (T : TopT K mg) (C_is_between : Cal P w K mg base k "is_between" ["value", "low", "high"] [] sp10) : Cal P w K mg base (k + 1) "is_width" ["value"] [] sp18 := by
  refine mkc (n := 18) T 8 8 sc18 (fun vs H Q E h => ?_) (fun _ _ _ _ _ _ us hl => match us, hl with | [_], _ => rfl) fun f cdv A outer s H E hr => ⟨_, (pss_one (ps_ret (pcall C_is_between hr (pa_cons (pv 0) (pa_cons pe_int (pa_cons (g_MOST_WIDTH T (by rfl)) pa_nil)))))), fun vs Q h => ?_⟩
  · obtain ⟨n, rfl, _⟩ := h
    rfl
  · obtain ⟨n, rfl, h1, h2, q⟩ := h
    have h0 : SpV sp10 ([.int (n : Int), .int 1, .int 64] ++ []) H (.bl true) := fun H1 e Q q E => ⟨_, _, _, true, true, rfl, .inr ⟨1, rfl, (decide_eq_true (by omega)).symm⟩, .inr ⟨64, rfl, (decide_eq_true (by omega)).symm⟩, q⟩
    exact s_ret (ev_call (ea_cons (ev_var rfl) (ea_cons ev_c (ea_cons ev_c ea_nil))) h0) q
theorem sc19 : FnScope ["width"] ["width"] (defScope (tp 19)) := ⟨rfl, rfl, rfl, by decide +kernel, rfl, by decide +kernel, by decide +kernel⟩
def sp19 : Sp := fun vs H Q _ => ∃ n : Nat, vs = [.int (n : Int)] ∧ 1 ≤ n ∧ n ≤ 64 ∧ ∀ H', Ex H H' → Q .non H'
theorem ok19 (T : TopT K mg) (C_is_width : Cal P w K mg base k "is_width" ["value"] [] sp18) : Cal P w K mg base (k + 1) "check_width" ["width"] [] sp19 := by
  refine mkc (n := 19) T 9 9 sc19 (fun vs H Q E h => ?_) (fun _ _ _ _ _ _ us hl => match us, hl with | [_], _ => rfl) fun f cdv A outer s H E hr => ⟨_, (pss_one (ps_if (pt_not (pt_val (pcall C_is_width hr (pa_cons (pv 0) pa_nil)))) (pss_one ps_never) pss_nil)), fun vs Q h => ?_⟩
  · obtain ⟨n, rfl, _⟩ := h
    rfl
  · obtain ⟨n, rfl, h1, h2, q⟩ := h
    have h0 : SpV sp18 ([.int (n : Int)] ++ []) H (.bl true) := fun H1 e Q q E => ⟨n, rfl, h1, h2, q⟩
    exact s_when (et_not (et_B (ev_call (ea_cons (ev_var rfl) ea_nil) h0))) (fun c => nomatch c) fun _ H1 e1 => q H1 e1
theorem sc20 : FnScope ["width", "value"] ["width", "value"] (defScope (tp 20)) := ⟨rfl, rfl, rfl, by decide +kernel, rfl, by decide +kernel, by decide +kernel⟩
def sp20 : Sp := fun vs H Q _ => ∃ (n : Nat) (i : Int), vs = [.int (n : Int), .int i] ∧ n ≤ 64 ∧ ∀ H', Ex H H' → Q (.bl (decide (0 ≤ i) && decide (i ≤ 2 ^ n - 1))) H'
theorem ok20 (T : TopT K mg) (C_is_between : Cal P w K mg base k "is_between" ["value", "low", "high"] [] sp10) (C_power_of_two : Cal P w K mg base k "power_of_two" ["many"] [] sp12) : Cal P w K mg base (k + 1) "is_of_width" ["width", "value"] [] sp20 := by
  refine mkc (n := 20) T 10 10 sc20 (fun vs H Q E h => ?_) (fun _ _ _ _ _ _ us hl => match us, hl with | [_, _], _ => rfl) fun f cdv A outer s H E hr => ⟨_, (pss_one (ps_ret (pcall C_is_between hr (pa_cons (pv 1) (pa_cons pe_int (pa_cons (pe_op op_sub (pcall C_power_of_two hr (pa_cons (pv 0) pa_nil)) pe_int) pa_nil)))))), fun vs Q h => ?_⟩
  · obtain ⟨n, i, rfl, _⟩ := h
    rfl
  · obtain ⟨n, i, rfl, h1, q⟩ := h
    have h0 : SpV sp12 ([.int (n : Int)] ++ []) H (.int (2 ^ n)) := fun H1 e Q q E => ⟨n, rfl, by omega, q⟩
    have h2 : SpV sp10 ([.int i, .int 0, .int (2 ^ n - 1)] ++ []) H (.bl (decide (0 ≤ i) && decide (i ≤ 2 ^ n - 1))) := fun H1 e Q q E => ⟨_, _, _, _, _, rfl, .inr ⟨0, rfl, rfl⟩, .inr ⟨_, rfl, rfl⟩, q⟩
    exact s_ret (ev_call (ea_cons (ev_var rfl) (ea_cons ev_c (ea_cons (ev_op (ev_call (ea_cons (ev_var rfl) ea_nil) h0) ev_c rv_I0) ea_nil))) h2) q
theorem sc21 : FnScope ["numbers", "at"] ["numbers"] (defScope (tp 21)) := ⟨rfl, rfl, rfl, by decide +kernel, rfl, by decide +kernel, by decide +kernel⟩
def sp21 : Sp := fun vs H Q _ => ∃ (a : Addr) (ns : List Int), vs = [.ref a] ∧ H a = some (.lst (ns.map V.int)) ∧ ns.length ≤ 64 ∧ ns.Pairwise (· < ·) ∧ ∀ H', Ex H H' → Q (.bl true) H'
theorem ok21 (T : TopT K mg) : Cal P w K mg base (k + 1) "rises" ["numbers"] [] sp21 := by
  refine mkc (n := 21) T 11 11 sc21 (fun vs H Q E h => ?_) (fun _ _ _ _ _ _ us hl => match us, hl with | [_], _ => rfl) fun f cdv A outer s H E hr => ⟨_, (pss_one (ps_ret (pe_cmpR (op_eqD hr.units) (pe_lc (own := [("at", 1)]) (g := gName 1) rfl sc21.nd (pi_range2 (by rfl) T.f_range (pa_cons pe_int (pa_cons (pe_callB call_len_seq (by rfl) T.f_len (by decide +kernel) (pa_cons (pv 0) pa_nil)) pa_nil))) (blkOk_by (own := [("at", 1)]) (N := ["numbers", "at"]) (sc := defScope (tp 21)) (by decide +kernel)) (fun _ _ _ _ _ => (pg_name (i := 1) sc21.nd rfl (Or.inl rfl))) (fun _ _ _ _ _ => pts_one (pt_cmpR op_ge (pe_ix (ix_listK (K := K) rfl) (pv 0) (pe_op op_sub (pv 1) pe_int) (fun _ _ => rfl)) (pe_ix (ix_listK (K := K) rfl) (pv 0) (pv 1) (fun _ _ => rfl)) (nomark _))) (fun _ _ _ _ _ => (pv 1))) (pe_lst pa_nil) (nomark _)))), fun vs Q h => ?_⟩
  · obtain ⟨a, ns, rfl, _⟩ := h
    rfl
  · obtain ⟨a, ns, rfl, ha, hz, hp, q⟩ := h
    refine s_ret (ev_opLL (xs := given ((ns.length : Int) - 1).toNat (fun _ => false) (fun i => .int i)) (el_lcR2 (lo := 1) (n := (ns.length : Int)) (fun _ => false) (fun i => .int i) (ea_cons ev_c (ea_cons (ev_lenI (ev_var rfl) (sq_of ha)) ea_nil)) (by omega) (fun _ => rfl)
      (fun i H1 e1 hi => et_is (et_test (ev_op (ev_op (ev_var rfl) (ev_op (ev_var rfl) ev_c rv_I0) (rv_ixL (K := K) (sq_of (e1 a _ ha)) (by rw [show (1 + (i : Int)) - 1 = (i : Int) by omega]; exact at_ints (by omega))))
        (ev_op (ev_var rfl) (ev_var rfl) (rv_ixL (K := K) (sq_of (e1 a _ ha)) (by rw [show (1 + (i : Int)) = ((i + 1 : Nat) : Int) by omega]; exact at_ints (by omega)))) rv_I0)) (by have := asc_ix hp (i := i) (by omega); simpa using this)) (fun i H1 _ _ hf => nomatch hf))
      (el_lst ea_nil (by decide)) fun p1 p2 H1 h1 h2 _ => ?_) q
    rw [given_none] at h1
    exact rv_eqI (K := K) (ns := []) (ms := []) (sq_of h1) (sq_of h2)
end
end AW
end
section
set_option maxRecDepth 100000
set_option maxHeartbeats 4000000
namespace AW
open PySem PySem.Spec PyProof.Rows L2 Evl AH AP
section
variable {P : Program} {w : World} {K : PySem.W.Frag} {mg : Str → Option Value} {base : Heap} {k : Nat}
theorem isi_lst {a : Addr} {xs : List V} {H : Hp} (h : H a = some (.lst xs)) : RC (rIsi K) [.ref a, .ty "list"] H (.bl true) := fun H1 e Q q =>
  ⟨.ref a, .ty "list", .type "list", .type "list", true, rfl, .ty _, .base (.lst (e a _ h)), kit_ty (by decide +kernel), q H1 (Ex.refl H1)⟩
theorem sc22 : FnScope ["width", "value", "item"] ["width", "value"] (defScope (tp 22)) := ⟨rfl, rfl, rfl, by decide +kernel, rfl, by decide +kernel, by decide +kernel⟩
def sp22 : Sp := fun vs H Q _ => ∃ (n : Nat) (a : Addr) (ns : List Int), vs = [.int (n : Int), .ref a] ∧ H a = some (.lst (ns.map V.int)) ∧ Plc n ns ∧ ∀ H', Ex H H' → Q (.bl true) H'
theorem ok22 (T : TopT K mg) (C_is_of_width : Cal P w K mg base k "is_of_width" ["width", "value"] [] sp20) (C_rises : Cal P w K mg base k "rises" ["numbers"] [] sp21) : Cal P w K mg base (k + 1) "are_places" ["width", "value"] [] sp22 := by
  refine mkc (n := 22) T 12 12 sc22 (fun vs H Q E h => ?_) (fun _ _ _ _ _ _ us hl => match us, hl with | [_, _], _ => rfl) fun f cdv A outer s H E hr => ⟨_, (pss_cons (ps_if (PW.pt (pw_or (pt_not (pt_val (pe_callB call_isi (by rfl) T.f_isinstance (by decide +kernel) (pa_cons (pv 1) (pa_cons (pe_bltn (v := .ty "list") (by rfl) T.f_list (by decide +kernel) rfl) pa_nil))))) (pw_or1 (pt_cmpR (op_eqD hr.units) (pv 1) (pe_lst pa_nil) (nomark _))))) (pss_one (ps_ret pe_bl)) pss_nil) (pss_one (ps_ret (pe_and (pe_cmpR (op_eqD hr.units) (pe_lc (own := [("item", 2)]) (g := gName 2) rfl sc22.nd (pi_list (pv 1)) (blkOk_by (own := [("item", 2)]) (N := ["width", "value", "item"]) (sc := defScope (tp 22)) (by decide +kernel)) (fun _ _ _ _ _ => (pg_name (i := 2) sc22.nd rfl (Or.inl rfl))) (fun _ _ _ _ _ => pts_one (pt_not (pt_val (pcall C_is_of_width hr (pa_cons (pv 0) (pa_cons (pv 2) pa_nil)))))) (fun _ _ _ _ _ => (pv 2))) (pe_lst pa_nil) (nomark _)) (pe_one (pcall C_rises hr (pa_cons (pv 1) pa_nil))))))), fun vs Q h => ?_⟩
  · obtain ⟨n, a, ns, rfl, _⟩ := h
    rfl
  · obtain ⟨n, a, ns, rfl, ha, p, q⟩ := h
    refine q_when (et_or (a := false) (b := false) (et_not (et_B (ev_cb (ea_cons (ev_var rfl) (ea_cons ev_c ea_nil)) (isi_lst ha)))) fun _ => et_test (ev_opL (ev_var rfl) (el_lst ea_nil (by decide)) fun p1 H1 h1 e1 => ?_)) (fun c => nomatch c) fun _ H1 e1 => ?_
    · have := rv_eqI (K := K) (ns := ns) (ms := []) (sq_of (e1 a _ ha)) (sq_of h1)
      rwa [decide_eq_false p.ne] at this
    · have hc : ∀ z ∈ ns, SpV sp20 ([.int (n : Int), .int z] ++ []) H1 (.bl true) := fun z hz => by
        have h1 := p.lo z hz
        have h2 := p.hi z hz
        have e : (decide (0 ≤ z) && decide (z ≤ 2 ^ n - 1)) = true := by simp; omega
        exact fun H2 e2 Q q E => ⟨n, z, rfl, p.w64, by rw [e]; exact q⟩
      have hf : ns.filter (fun _ => false) = [] := List.filter_eq_nil_iff.mpr (by simp)
      refine s_ret (ev_andV (a := true) (b := true) (ev_opLL (xs := (ns.filter fun _ => false).map V.int) (el_lcI (fun _ => false) V.int (ev_var rfl) (sq_of (e1 a _ ha)) (by have := p.len; omega) (fun _ => rfl)
        (fun z H2 e2 hz => et_not (et_B (ev_call (ea_cons (ev_var rfl) (ea_cons (ev_var rfl) ea_nil)) fun H3 e3 => hc z hz H3 (e2.trans e3)))) (fun z H2 _ _ hf => nomatch hf)) (el_lst ea_nil (by decide)) fun p1 p2 H2 h1 h2 _ => ?_) fun _ => ?_) fun H2 e2 => q H2 (e1.trans e2)
      · rw [hf] at h1
        exact rv_eqI (K := K) (ns := []) (ms := []) (sq_of h1) (sq_of h2)
      · exact ev_call (ea_cons (ev_var rfl) ea_nil) fun H3 e3 Q q E => ⟨a, ns, rfl, e3 a _ (e1 a _ ha), by have := p.len; omega, p.asc, q⟩
theorem sc23 : FnScope ["width", "places"] ["width", "places"] (defScope (tp 23)) := ⟨rfl, rfl, rfl, by decide +kernel, rfl, by decide +kernel, by decide +kernel⟩
def sp23 : Sp := fun vs H Q _ => ∃ (n : Nat) (a : Addr) (ns : List Int), vs = [.int (n : Int), .ref a] ∧ H a = some (.lst (ns.map V.int)) ∧ Plc n ns ∧ ∀ H', Ex H H' → Q .non H'
theorem ok23 (T : TopT K mg) (C_check_width : Cal P w K mg base k "check_width" ["width"] [] sp19) (C_are_places : Cal P w K mg base k "are_places" ["width", "value"] [] sp22) : Cal P w K mg base (k + 1) "check_places" ["width", "places"] [] sp23 := by
  refine mkc (n := 23) T 13 13 sc23 (fun vs H Q E h => ?_) (fun _ _ _ _ _ _ us hl => match us, hl with | [_, _], _ => rfl) fun f cdv A outer s H E hr => ⟨_, (pss_cons (ps_expr (pcall C_check_width hr (pa_cons (pv 0) pa_nil))) (pss_one (ps_if (pt_not (pt_val (pcall C_are_places hr (pa_cons (pv 0) (pa_cons (pv 1) pa_nil))))) (pss_one ps_never) pss_nil))), fun vs Q h => ?_⟩
  · obtain ⟨n, a, ns, rfl, _⟩ := h
    rfl
  · obtain ⟨n, a, ns, rfl, ha, p, q⟩ := h
    refine q_drop (v := .non) (ev_call (ea_cons (ev_var rfl) ea_nil) fun H1 e Q q E => ⟨n, rfl, p.w1, p.w64, q⟩) fun H1 e1 => ?_
    exact s_when (et_not (et_B (b := true) (ev_call (ea_cons (ev_var rfl) (ea_cons (ev_var rfl) ea_nil)) fun H2 e2 Q q E => ⟨n, a, ns, rfl, e2 a _ (e1 a _ ha), p, q⟩))) (fun c => nomatch c) fun _ H2 e2 => q H2 (e1.trans e2)
/-- words at places -/
structure Wds (n : Nat) (ps ws : List Int) : Prop where
  len : ws.length = ps.length
  lo : ∀ z ∈ ws, 0 ≤ z
  hi : ∀ z ∈ ws, z < 2 ^ n
theorem sc24 : FnScope ["width", "places", "value", "item"] ["width", "places", "value"] (defScope (tp 24)) := ⟨rfl, rfl, rfl, by decide +kernel, rfl, by decide +kernel, by decide +kernel⟩
def sp24 : Sp := fun vs H Q _ => ∃ (n : Nat) (a b : Addr) (ps ws : List Int), vs = [.int (n : Int), .ref a, .ref b] ∧ H a = some (.lst (ps.map V.int)) ∧ H b = some (.lst (ws.map V.int)) ∧ Plc n ps ∧ Wds n ps ws ∧ ∀ H', Ex H H' → Q (.bl true) H'
theorem ok24 (T : TopT K mg) (C_is_of_width : Cal P w K mg base k "is_of_width" ["width", "value"] [] sp20) : Cal P w K mg base (k + 1) "are_words" ["width", "places", "value"] [] sp24 := by
  refine mkc (n := 24) T 14 14 sc24 (fun vs H Q E h => ?_) (fun _ _ _ _ _ _ us hl => match us, hl with | [_, _, _], _ => rfl) fun f cdv A outer s H E hr => ⟨_, (pss_cons (ps_if (PW.pt (pw_or (pt_not (pt_val (pe_callB call_isi (by rfl) T.f_isinstance (by decide +kernel) (pa_cons (pv 2) (pa_cons (pe_bltn (v := .ty "list") (by rfl) T.f_list (by decide +kernel) rfl) pa_nil))))) (pw_or1 (pt_cmpR op_ne (pe_callB call_len_seq (by rfl) T.f_len (by decide +kernel) (pa_cons (pv 2) pa_nil)) (pe_callB call_len_seq (by rfl) T.f_len (by decide +kernel) (pa_cons (pv 1) pa_nil)) (nomark _))))) (pss_one (ps_ret pe_bl)) pss_nil) (pss_one (ps_ret (pe_cmpR (op_eqD hr.units) (pe_lc (own := [("item", 3)]) (g := gName 3) rfl sc24.nd (pi_list (pv 2)) (blkOk_by (own := [("item", 3)]) (N := ["width", "places", "value", "item"]) (sc := defScope (tp 24)) (by decide +kernel)) (fun _ _ _ _ _ => (pg_name (i := 3) sc24.nd rfl (Or.inl rfl))) (fun _ _ _ _ _ => pts_one (pt_not (pt_val (pcall C_is_of_width hr (pa_cons (pv 0) (pa_cons (pv 3) pa_nil)))))) (fun _ _ _ _ _ => (pv 3))) (pe_lst pa_nil) (nomark _))))), fun vs Q h => ?_⟩
  · obtain ⟨n, a, b, ps, ws, rfl, _⟩ := h
    rfl
  · obtain ⟨n, a, b, ps, ws, rfl, ha, hb, p, pw, q⟩ := h
    refine q_when (et_or (a := false) (b := false) (et_not (et_B (ev_cb (ea_cons (ev_var rfl) (ea_cons ev_c ea_nil)) (isi_lst hb)))) fun _ => et_is (et_test (ev_op (ev_lenI (ev_var rfl) (sq_of hb)) (ev_lenI (ev_var rfl) (sq_of ha)) (rv_ne rfl))) (by simp [pw.len])) (fun c => nomatch c) fun _ H1 e1 => ?_
    have hc : ∀ z ∈ ws, SpV sp20 ([.int (n : Int), .int z] ++ []) H1 (.bl true) := fun z hz => by
      have h1 := pw.lo z hz
      have h2 := pw.hi z hz
      have e : (decide (0 ≤ z) && decide (z ≤ 2 ^ n - 1)) = true := by simp; omega
      exact fun H2 e2 Q q E => ⟨n, z, rfl, p.w64, by rw [e]; exact q⟩
    have hf : ws.filter (fun _ => false) = [] := List.filter_eq_nil_iff.mpr (by simp)
    refine s_ret (ev_opLL (xs := (ws.filter fun _ => false).map V.int) (el_lcI (fun _ => false) V.int (ev_var rfl) (sq_of (e1 b _ hb)) (by have := p.len; have := pw.len; omega) (fun _ => rfl)
      (fun z H2 e2 hz => et_not (et_B (ev_call (ea_cons (ev_var rfl) (ea_cons (ev_var rfl) ea_nil)) fun H3 e3 => hc z hz H3 (e2.trans e3)))) (fun z H2 _ _ hf => nomatch hf)) (el_lst ea_nil (by decide)) fun p1 p2 H2 h1 h2 _ => ?_) fun H2 e2 => q H2 (e1.trans e2)
    rw [hf] at h1
    exact rv_eqI (K := K) (ns := []) (ms := []) (sq_of h1) (sq_of h2)
theorem sc25 : FnScope ["width", "places", "words"] ["width", "places", "words"] (defScope (tp 25)) := ⟨rfl, rfl, rfl, by decide +kernel, rfl, by decide +kernel, by decide +kernel⟩
def sp25 : Sp := fun vs H Q _ => ∃ (n : Nat) (a b : Addr) (ps ws : List Int), vs = [.int (n : Int), .ref a, .ref b] ∧ H a = some (.lst (ps.map V.int)) ∧ H b = some (.lst (ws.map V.int)) ∧ Plc n ps ∧ Wds n ps ws ∧ ∀ H', Ex H H' → Q .non H'
theorem ok25 (T : TopT K mg) (C_are_words : Cal P w K mg base k "are_words" ["width", "places", "value"] [] sp24) : Cal P w K mg base (k + 1) "check_words" ["width", "places", "words"] [] sp25 := by
  refine mkc (n := 25) T 15 15 sc25 (fun vs H Q E h => ?_) (fun _ _ _ _ _ _ us hl => match us, hl with | [_, _, _], _ => rfl) fun f cdv A outer s H E hr => ⟨_, (pss_one (ps_if (pt_not (pt_val (pcall C_are_words hr (pa_cons (pv 0) (pa_cons (pv 1) (pa_cons (pv 2) pa_nil)))))) (pss_one ps_never) pss_nil)), fun vs Q h => ?_⟩
  · obtain ⟨n, a, b, ps, ws, rfl, _⟩ := h
    rfl
  · obtain ⟨n, a, b, ps, ws, rfl, ha, hb, p, pw, q⟩ := h
    exact s_when (et_not (et_B (b := true) (ev_call (ea_cons (ev_var rfl) (ea_cons (ev_var rfl) (ea_cons (ev_var rfl) ea_nil))) fun H2 e2 Q q E => ⟨n, a, b, ps, ws, rfl, e2 a _ ha, e2 b _ hb, p, pw, q⟩))) (fun c => nomatch c) fun _ H2 e2 => q H2 e2
theorem sc28 : FnScope ["many"] ["many"] (defScope (tp 28)) := ⟨rfl, rfl, rfl, by decide +kernel, rfl, by decide +kernel, by decide +kernel⟩
def sp28 : Sp := fun vs H Q _ => ∃ m : Int, vs = [.int m] ∧ m.natAbs ≤ 1000 ∧ ∀ H', Ex H H' → Q (.int (m * (m - 1) / 2)) H'
theorem ok28 (T : TopT K mg) : Cal P w K mg base (k + 1) "pairs" ["many"] [] sp28 := by
  refine mkc (n := 28) T 17 17 sc28 (fun vs H Q E h => ?_) (fun _ _ _ _ _ _ us hl => match us, hl with | [_], _ => rfl) fun f cdv A outer s H E hr => ⟨_, (pss_one (ps_ret (pe_op op_fdivW (pe_op op_mulW (pv 0) (pe_op op_sub (pv 0) pe_int)) pe_int))), fun vs Q h => ?_⟩
  · obtain ⟨m, rfl, _⟩ := h
    rfl
  · obtain ⟨m, rfl, hm, q⟩ := h
    exact s_ret (ev_op (ev_op (ev_var rfl) (ev_op (ev_var rfl) ev_c rv_I0) (rv_I (wide_mul (a := 10) (b := 11) (by omega) (by omega) (by decide) (by decide) (by decide)))) ev_c (rv_I ⟨by decide, by decide⟩)) q
/-! ### check_code, twice -/
theorem sc33 : FnScope ["width", "places", "count"] ["width", "places", "count"] (defScope (tp 33)) := ⟨rfl, rfl, rfl, by decide +kernel, rfl, by decide +kernel, by decide +kernel⟩
def sp33 : Sp := fun vs H Q _ => ∃ (n : Nat) (a : Addr) (ps : List Int) (c : Nat), vs = [.int (n : Int), .ref a, .int (c : Int)] ∧ H a = some (.lst (ps.map V.int)) ∧ Plc n ps ∧ ∀ H', Ex H H' → Q .non H'
theorem ok33 (T : TopT K mg) (C_check_places : Cal P w K mg base k "check_places" ["width", "places"] [] sp23) (C_check_number : Cal P w K mg base k "check_number" ["number", "low", "high"] [] sp11) : Cal P w K mg base (k + 1) "check_code_telling" ["width", "places", "count"] [] sp33 := by
  refine mkc (n := 33) T 21 21 sc33 (fun vs H Q E h => ?_) (fun _ _ _ _ _ _ us hl => match us, hl with | [_, _, _], _ => rfl) fun f cdv A outer s H E hr => ⟨_, (pss_cons (ps_expr (pcall C_check_places hr (pa_cons (pv 0) (pa_cons (pv 1) pa_nil)))) (pss_one (ps_expr (pcall C_check_number hr (pa_cons (pv 2) (pa_cons pe_int (pa_cons pe_non pa_nil))))))), fun vs Q h => ?_⟩
  · obtain ⟨n, a, ps, c, rfl, _⟩ := h
    rfl
  · obtain ⟨n, a, ps, c, rfl, ha, p, q⟩ := h
    refine q_drop (v := .non) (ev_call (ea_cons (ev_var rfl) (ea_cons (ev_var rfl) ea_nil)) fun H1 e Q q E => ⟨n, a, ps, rfl, e a _ ha, p, q⟩) fun H1 e1 => ?_
    exact s_drop (v := .non) (ev_call (ea_cons (ev_var rfl) (ea_cons ev_c (ea_cons ev_c ea_nil))) fun H2 e2 Q q E => ⟨c, _, _, rfl, .inr ⟨0, rfl, (decide_eq_true (by omega)).symm⟩, .inl ⟨rfl, rfl⟩, q⟩) fun H2 e2 => q H2 (e1.trans e2)
theorem sc46 : FnScope ["width", "places", "count"] ["width", "places", "count"] (defScope (tp 46)) := ⟨rfl, rfl, rfl, by decide +kernel, rfl, by decide +kernel, by decide +kernel⟩
theorem ok46 (T : TopT K mg) (C_check_places : Cal P w K mg base k "check_places" ["width", "places"] [] sp23) (C_check_number : Cal P w K mg base k "check_number" ["number", "low", "high"] [] sp11) : Cal P w K mg base (k + 1) "check_code_reading" ["width", "places", "count"] [] sp33 := by
  refine mkc (n := 46) T 30 30 sc46 (fun vs H Q E h => ?_) (fun _ _ _ _ _ _ us hl => match us, hl with | [_, _, _], _ => rfl) fun f cdv A outer s H E hr => ⟨_, (pss_cons (ps_expr (pcall C_check_places hr (pa_cons (pv 0) (pa_cons (pv 1) pa_nil)))) (pss_one (ps_expr (pcall C_check_number hr (pa_cons (pv 2) (pa_cons pe_int (pa_cons pe_non pa_nil))))))), fun vs Q h => ?_⟩
  · obtain ⟨n, a, ps, c, rfl, _⟩ := h
    rfl
  · obtain ⟨n, a, ps, c, rfl, ha, p, q⟩ := h
    refine q_drop (v := .non) (ev_call (ea_cons (ev_var rfl) (ea_cons (ev_var rfl) ea_nil)) fun H1 e Q q E => ⟨n, a, ps, rfl, e a _ ha, p, q⟩) fun H1 e1 => ?_
    exact s_drop (v := .non) (ev_call (ea_cons (ev_var rfl) (ea_cons ev_c (ea_cons ev_c ea_nil))) fun H2 e2 Q q E => ⟨c, _, _, rfl, .inr ⟨0, rfl, (decide_eq_true (by omega)).symm⟩, .inl ⟨rfl, rfl⟩, q⟩) fun H2 e2 => q H2 (e1.trans e2)
end
end AW
end
section
set_option maxRecDepth 100000
set_option maxHeartbeats 4000000
namespace AZ
open PySem PySem.Spec PyProof.Rows L2
open Sem (wp)
/-- a strict zip: what is lent out, whether that is known -/
abbrev ZS (h : Heap) (z TI TO : Nat) (f0 : Value) (f1 : Bool) : Prop := h.get? z = some { cls := .type "zip", dict := none, data := .fields #[f0, .bool f1, .bool true, .ref TI, .ref TO], slots := #[] }
abbrev TU (h : Heap) (T : Nat) (xs : Array Value) : Prop := h.get? T = some { cls := .type "tuple", data := .seq xs }
/-! ### a call of a built-in class by keywords -/
section
variable {M : Model} {A : Around} {E : Value → Shared → Prop} {s : Shared} {env : Env}
theorem with_kw {pos : Pos} {T : String} {e : Expr} {rest : List Expr} {kws : List Keyword} {Q : Value → Shared → Prop}
    (h : wpAny M A (spliced (backTo pos (starEach (e :: rest) env))) (fun vs s1 => wpAny M A (evalAll ((backToKw pos (keywordEach kws env)).map (·.2))) (fun kvs s2 => wpAny M A (call (.type T) vs (((backToKw pos (keywordEach kws env)).filterMap (·.1)).zip kvs)) Q E s2) E s1) E s)
    (he : backTo pos (starEach (e :: rest) env) = (false, eval e env) :: backTo pos (starEach rest env) := by rfl) (hpl : (backTo pos (starEach (e :: rest) env)).any (·.1) = false := by rfl)
    (hall : (backToKw pos (keywordEach kws env)).all (·.1.isSome) = true := by rfl) (hkw : (backToKw pos (keywordEach kws env)).any (·.1.isNone) = false := by rfl) :
    wpAny M A (callWith pos (.type T) [] (backTo pos (starEach (e :: rest) env)) (backToKw pos (keywordEach kws env))) Q E s := by
  have h2 : wpAny M A (evalArgs (.type T) true (backTo pos (starEach (e :: rest) env)) (backToKw pos (keywordEach kws env))) (fun a s1 => wpAny M A (call (.type T) ([] ++ a.pos) a.kw) Q E s1) E s := by
    rw [he] at h ⊢
    exact evalArgs_kwB hall h
  unfold callWith
  refine wpAny_bind (wpAny_holding (wpAny_mono h2 (fun a s1 h1 => ?_) fun _ _ x => x))
  refine wpAny_bind (wpAny_standAt ?_)
  simp only [hpl, hkw, Bool.or_false]
  refine wpAny_bind (wpAny_pure ?_)
  refine wpAny_bind (wpAny_mono h1 (fun r s2 hr => ?_) fun _ _ x => x)
  exact wpAny_bind (wpAny_holding (wpAny_point (wpAny_pure hr)))
end
/-! ### next of a list's iterator, or its end -/
section
variable {prog : Program} {w : World} {A : Around} {E : Value → Shared → Prop} {s : Shared}
theorem oe_item {it l : Addr} {i : Nat} {items : Array Value} {x : Value} {Q : Option Value → Shared → Prop} (hit : s.heap.IsListIter it l i) (hl : s.heap.IsList l items) (hx : items[i]? = some x)
    (hQ : ∀ h', h'.IsListIter it l (i + 1) → Heap.SameBut it s.heap h' → Q (some x) { s with heap := h' }) : wpAny (model prog w) A (Builtin.SmallTypes.nextOrEnd (.ref it)) Q E s := by
  unfold Builtin.SmallTypes.nextOrEnd
  exact wpAny_bind (wpAny_attempt (wpAny_nextOf_list_item hit hl hx fun h' a b => wpAny_pure (hQ h' a b)))
theorem oe_end {it l : Addr} {i : Nat} {items : Array Value} {Q : Option Value → Shared → Prop} (hh : A.handled = none) (hit : s.heap.IsListIter it l i) (hl : s.heap.IsList l items) (hx : items[i]? = none)
    (hQ : ∀ h', Heap.ExtBut it s.heap h' → Q none { s with heap := h' }) : wpAny (model prog w) A (Builtin.SmallTypes.nextOrEnd (.ref it)) Q E s := by
  unfold Builtin.SmallTypes.nextOrEnd
  refine wpAny_bind (wpAny_attempt (wpAny_nextOf_list_end hh hit hl hx fun h' e k he => ?_))
  obtain ⟨o, ho, hc⟩ := he
  refine wpAny_bind (wpAny_isInstance (T := "StopIteration") (b := true) ⟨o, ho, hc⟩ isSubtype_stop ?_)
  exact wpAny_pure (hQ h' k)
theorem stop_it {α : Type} {Q : α → Shared → Prop} (hh : A.handled = none)
    (hE : ∀ h' e, (∀ b o, s.heap.get? b = some o → h'.get? b = some o) → (∃ o, h'.get? e = some o ∧ o.cls = .type "StopIteration") → E (.ref e) { s with heap := h' }) : wpAny (model prog w) A (Builtin.SmallTypes.stopIteration (α := α)) Q E s := by
  show wpAny _ _ (newExc (.type "StopIteration") [] >>= _) _ _ _
  refine wpAny_bind ?_
  simp only [newExc, newTuple]
  refine wpAny_bind (wpAny_newObj_type ?_ (by size_fits))
  refine wpAny_bind (m := firstArgMember _ _) (wpAny_of_eq (a := Value.none) (by first | rfl | (simp only [firstArgMember]; rfl)) ?_)
  refine wpAny_newObj_type ?_ (by size_fits)
  simp only [raiseNew]
  refine wpAny_bind (wpAny_handled ?_)
  first | rw [show A.in1.handled = none from hh] | rw [hh]
  refine wpAny_bind (wpAny_pure (wpAny_throw ?_))
  exact hE _ _ (fun b o x => Heap.get?_push_of_some _ (Heap.get?_push_of_some _ x)) ⟨_, Heap.get?_push_size _ rfl, rfl⟩
theorem upd_tu {T : Nat} {a : Array Value} {x : Value} {k : Nat} {Q : Unit → Shared → Prop} (hT : TU s.heap T a) (hz : a.size ≤ 10) (h : ∀ h', TU h' T (a.setIfInBounds k x) → Heap.SameBut T s.heap h' → Q () { s with heap := h' }) :
    wpAny (model prog w) A (updateSeq T (·.setIfInBounds k x)) Q E s := by
  refine wpAny_updateSeq hT rfl (h _ ?_ (Heap.SameBut.update ..)) (Nat.le_trans hz (by decide)) (by rw [Array.size_setIfInBounds]; exact Nat.le_trans hz (by decide))
  show Heap.get? _ _ = _
  rw [Heap.get?_update_self _ hT rfl]
  simp [Obj.mapSeq]

theorem zs2_item {c k l0 l1 T : Nat} {f1 : Bool} {a0 a1 : Array Value} {x0 x1 : Value} {b0 : Array Value} {oT : Obj} {Q : Value → Shared → Prop} (g0 : l0 < c) (g1 : l1 < c)
    (hz : ZS s.heap (c + 4) (c + 2) (c + 3) .none f1) (hTI : TU s.heap (c + 2) #[.ref (c), .ref (c + 1)]) (hTO : TU s.heap (c + 3) b0) (hb : b0.size = 2) (hi0 : s.heap.IsListIter (c) l0 k) (L0 : s.heap.IsList l0 a0) (hi1 : s.heap.IsListIter (c + 1) l1 k) (L1 : s.heap.IsList l1 a1)
    (hx0 : a0[k]? = some x0) (hx1 : a1[k]? = some x1)
    (hQ : ∀ h', ZS h' (c + 4) (c + 2) (c + 3) (rawInt s.heap.objs.size) false → (∃ b1 : Array Value, b1.size = 2 ∧ TU h' (c + 3) b1) → h'.IsListIter (c) l0 (k + 1) → h'.IsListIter (c + 1) l1 (k + 1) → TU h' s.heap.objs.size #[x0, x1] → h'.objs.size = s.heap.objs.size + 1 →
      (∀ (d : Nat) (o : Obj), d ≠ c + 4 → d ≠ c + 3 → d ≠ c → d ≠ c + 1 → s.heap.get? d = some o → h'.get? d = some o) → Q (.ref s.heap.objs.size) { s with heap := h' }) :
    wpAny (model prog w) A (Builtin.«zip.__next__» ⟨[.ref (c + 4)], []⟩) (fun fin s1 => ∃ v, fin = .done (.ret v) ∧ Q v s1) E s := by
  show wpAny _ _ (field (.ref (c + 4)) 2 >>= _) _ _ _
  refine wpAny_bind (wpAny_field hz rfl (x := .bool true) rfl ?_)
  show wpAny _ _ (field (.ref (c + 4)) 3 >>= _) _ _ _
  refine wpAny_bind (wpAny_field hz rfl (x := .ref (c + 2)) rfl ?_)
  refine wpAny_bind (wpAny_seqItems hTI rfl ?_)
  show wpAny _ _ (Builtin.SmallTypes.ownedTupleIsFree (.ref (c + 4)) >>= _) _ _ _
  refine wpAny_bind ?_
  unfold Builtin.SmallTypes.ownedTupleIsFree
  refine wpAny_bind (wpAny_field hz rfl (x := .none) rfl (wpAny_pure ?_))
  simp only [if_true]
  refine wpAny_bind (wpAny_rule ?_)
  refine wpAny_bind (wpAny_field hz rfl (x := .ref (c + 3)) rfl ?_)
  refine wpAny_bind (wpAny_setField_rec hz (by simp) fun h0 hz0 hs0 => ?_)
  have zz0 : ZS h0 (c + 4) (c + 2) (c + 3) .ellipsis f1 := hz0
  refine wpAny_bind ?_
  simp only [List.zipIdx_cons, List.zipIdx_nil, List.forIn_cons, List.forIn_nil]
  have K0 : ∀ (d : Nat) (o : Obj), d ≠ c + 4 → s.heap.get? d = some o → h0.get? d = some o := fun d o e x => hs0.extBut _ _ e x
  have t0 : TU h0 (c + 3) b0 := K0 _ _ (show ((c + 3 : Nat)) ≠ (c + 4) by omega) hTO
  refine wpAny_bind (wpAny_bind (wpAny_onRaise ?_))
  show wpAny _ _ (Builtin.SmallTypes.nextOrEnd (.ref (c))) _ _ _
  refine oe_item (s := { s with heap := h0 }) (hi0.at fun o x => K0 _ o (show ((c : Nat)) ≠ (c + 4) by omega) x) (L0.at fun o x => K0 _ o (show ((l0 : Nat)) ≠ (c + 4) by omega) x) hx0 fun h1 hj0 hs1 => ?_
  have u0 : TU h1 (c + 3) (b0) := hs1.extBut _ _ (show ((c + 3 : Nat)) ≠ (c) by omega) t0
  refine wpAny_bind (wpAny_seqItems u0 rfl ?_)
  refine wpAny_bind (upd_tu (s := { s with heap := h1 }) u0 (by simp [hb]) fun h2 t1 hs2 => ?_)
  refine wpAny_bind (wpAny_letGo (wpAny_pure ?_))
  have K2 : ∀ (d : Nat) (o : Obj), d ≠ c + 4 → d ≠ c + 3 → d ≠ c → s.heap.get? d = some o → h2.get? d = some o := fun d o e0 e1 e2 x => hs2.extBut _ _ e1 (hs1.extBut _ _ e2 (K0 d o e0 x))
  refine wpAny_bind (wpAny_bind (wpAny_onRaise ?_))
  show wpAny _ _ (Builtin.SmallTypes.nextOrEnd (.ref (c + 1))) _ _ _
  refine oe_item (s := { s with heap := h2 }) (hi1.at fun o x => K2 _ o (show ((c + 1 : Nat)) ≠ (c + 4) by omega) (show ((c + 1 : Nat)) ≠ (c + 3) by omega) (show ((c + 1 : Nat)) ≠ (c) by omega) x) (L1.at fun o x => K2 _ o (show ((l1 : Nat)) ≠ (c + 4) by omega) (show ((l1 : Nat)) ≠ (c + 3) by omega) (show ((l1 : Nat)) ≠ (c) by omega) x) hx1 fun h3 hj1 hs3 => ?_
  have u1 : TU h3 (c + 3) ((b0).setIfInBounds 0 x0) := hs3.extBut _ _ (show ((c + 3 : Nat)) ≠ (c + 1) by omega) t1
  refine wpAny_bind (wpAny_seqItems u1 rfl ?_)
  refine wpAny_bind (upd_tu (s := { s with heap := h3 }) u1 (by simp [hb]) fun h4 t2 hs4 => ?_)
  refine wpAny_bind (wpAny_letGo (wpAny_pure ?_))
  have K4 : ∀ (d : Nat) (o : Obj), d ≠ c + 4 → d ≠ c + 3 → d ≠ c → d ≠ c + 1 → s.heap.get? d = some o → h4.get? d = some o := fun d o e0 e1 e2 e3 x => hs4.extBut _ _ e1 (hs3.extBut _ _ e3 (K2 d o e0 e1 e2 x))
  refine wpAny_pure ?_
  refine wpAny_bind (wpAny_seqItems t2 rfl ?_)
  have eb : (((b0).setIfInBounds 0 x0).setIfInBounds 1 x1 : Array Value) = #[x0, x1] := by
    obtain ⟨bl⟩ := b0
    match bl, hb with
    | [_, _], _ => rfl
  rw [eb] at t2 ⊢
  refine wpAny_bind (wpAny_newTuple ?_)
  have hsz : h4.objs.size = s.heap.objs.size := by rw [hs4.1, hs3.1, hs2.1, hs1.1, hs0.1]
  have zz : ZS h4 (c + 4) (c + 2) (c + 3) .ellipsis f1 := (hs4.extBut _ _ (show ((c + 4 : Nat)) ≠ (c + 3) by omega) (hs3.extBut _ _ (show ((c + 4 : Nat)) ≠ (c + 1) by omega) (hs2.extBut _ _ (show ((c + 4 : Nat)) ≠ (c + 3) by omega) (hs1.extBut _ _ (show ((c + 4 : Nat)) ≠ (c) by omega) zz0))))
  have q0 : h4.IsListIter (c) l0 (k + 1) := (((hj0.extBut hs2.extBut (show ((c : Nat)) ≠ (c + 3) by omega)).extBut hs3.extBut (show ((c : Nat)) ≠ (c + 1) by omega)).extBut hs4.extBut (show ((c : Nat)) ≠ (c + 3) by omega))
  have q1 : h4.IsListIter (c + 1) l1 (k + 1) := (hj1.extBut hs4.extBut (show ((c + 1 : Nat)) ≠ (c + 3) by omega))
  show wpAny _ _ (Builtin.SmallTypes.ownedTupleHandOut (.ref (c + 4)) (.ref h4.objs.size) >>= _) _ _ _
  refine wpAny_bind ?_
  unfold Builtin.SmallTypes.ownedTupleHandOut
  have zp : ZS (h4.push { cls := .type "tuple", data := .seq #[x0, x1] }) (c + 4) (c + 2) (c + 3) .ellipsis f1 := Heap.get?_push_of_some _ zz
  refine wpAny_bind (wpAny_setField_rec zp (by simp) fun ha hza hsa => ?_)
  have zza : ZS ha (c + 4) (c + 2) (c + 3) (rawInt h4.objs.size) f1 := hza
  refine wpAny_setField_rec zza (by simp) fun hb2 hzb hsb => ?_
  have zzb : ZS hb2 (c + 4) (c + 2) (c + 3) (rawInt h4.objs.size) false := hzb
  have up : ∀ (d : Nat) (o : Obj), d ≠ c + 4 → h4.get? d = some o → hb2.get? d = some o := fun d o e x => hsb.extBut d o e (hsa.extBut d o e (Heap.get?_push_of_some _ x))
  have zlt : c + 4 < h4.objs.size := Heap.lt_size zz
  have tn : TU hb2 h4.objs.size #[x0, x1] := hsb.extBut _ _ (Nat.ne_of_gt zlt) (hsa.extBut _ _ (Nat.ne_of_gt zlt) (Heap.get?_push_size _ rfl))
  have sz : hb2.objs.size = h4.objs.size + 1 := by rw [hsb.1, hsa.1, Heap.size_push]
  rw [hsz] at zzb tn sz
  refine wpAny_pure ⟨_, rfl, ?_⟩
  show Q (.ref h4.objs.size) _
  rw [hsz]
  exact hQ hb2 zzb ⟨#[x0, x1], rfl, up _ _ (show ((c + 3 : Nat)) ≠ (c + 4) by omega) t2⟩ (q0.at fun o x => up _ o (show ((c : Nat)) ≠ (c + 4) by omega) x) (q1.at fun o x => up _ o (show ((c + 1 : Nat)) ≠ (c + 4) by omega) x) tn sz fun d o e0 e1 e2 e3 x => up d o e0 (K4 d o e0 e1 e2 e3 x)
theorem zs2_end {c k l0 l1 T : Nat} {f1 : Bool} {a0 a1 : Array Value} {b0 : Array Value} {oT : Obj} {Q : Fin → Shared → Prop} (hh : A.handled = none) (g0 : l0 < c) (g1 : l1 < c)
    (hz : ZS s.heap (c + 4) (c + 2) (c + 3) .none f1) (hTI : TU s.heap (c + 2) #[.ref (c), .ref (c + 1)]) (hi0 : s.heap.IsListIter (c) l0 k) (L0 : s.heap.IsList l0 a0) (hi1 : s.heap.IsListIter (c + 1) l1 k) (L1 : s.heap.IsList l1 a1)
    (hx0 : a0[k]? = none) (hx1 : a1[k]? = none)
    (hE : ∀ h' e, (∀ (d : Nat) (o : Obj), d ≠ c + 4 → d ≠ c + 3 → d ≠ c → d ≠ c + 1 → s.heap.get? d = some o → h'.get? d = some o) → (∃ o, h'.get? e = some o ∧ o.cls = .type "StopIteration") → E (.ref e) { s with heap := h' }) :
    wpAny (model prog w) A (Builtin.«zip.__next__» ⟨[.ref (c + 4)], []⟩) Q E s := by
  show wpAny _ _ (field (.ref (c + 4)) 2 >>= _) _ _ _
  refine wpAny_bind (wpAny_field hz rfl (x := .bool true) rfl ?_)
  show wpAny _ _ (field (.ref (c + 4)) 3 >>= _) _ _ _
  refine wpAny_bind (wpAny_field hz rfl (x := .ref (c + 2)) rfl ?_)
  refine wpAny_bind (wpAny_seqItems hTI rfl ?_)
  show wpAny _ _ (Builtin.SmallTypes.ownedTupleIsFree (.ref (c + 4)) >>= _) _ _ _
  refine wpAny_bind ?_
  unfold Builtin.SmallTypes.ownedTupleIsFree
  refine wpAny_bind (wpAny_field hz rfl (x := .none) rfl (wpAny_pure ?_))
  simp only [if_true]
  refine wpAny_bind (wpAny_rule ?_)
  refine wpAny_bind (wpAny_field hz rfl (x := .ref (c + 3)) rfl ?_)
  refine wpAny_bind (wpAny_setField_rec hz (by simp) fun h0 hz0 hs0 => ?_)
  have zz0 : ZS h0 (c + 4) (c + 2) (c + 3) .ellipsis f1 := hz0
  refine wpAny_bind ?_
  simp only [List.zipIdx_cons, List.zipIdx_nil, List.forIn_cons, List.forIn_nil]
  refine wpAny_bind (wpAny_bind (wpAny_onRaise ?_))
  have K0 : ∀ (d : Nat) (o : Obj), d ≠ c + 4 → s.heap.get? d = some o → h0.get? d = some o := fun d o e x => hs0.extBut _ _ e x
  show wpAny _ _ (Builtin.SmallTypes.nextOrEnd (.ref (c))) _ _ _
  refine oe_end (s := { s with heap := h0 }) hh (hi0.at fun o x => K0 _ o (show ((c : Nat)) ≠ (c + 4) by omega) x) (L0.at fun o x => K0 _ o (show ((l0 : Nat)) ≠ (c + 4) by omega) x) hx0 fun h1 hs1 => ?_
  have K1 : ∀ (d : Nat) (o : Obj), d ≠ c + 4 → d ≠ c → s.heap.get? d = some o → h1.get? d = some o := fun d o e0 e1 x => hs1 d o e1 (K0 d o e0 x)
  have zz1 : ZS h1 (c + 4) (c + 2) (c + 3) .ellipsis f1 := hs1 _ _ (show ((c + 4 : Nat)) ≠ (c) by omega) zz0
  refine wpAny_bind (wpAny_setField_rec (s := { s with heap := h1 }) zz1 (by simp) fun h2 hz2 hs2 => ?_)
  have K2 : ∀ (d : Nat) (o : Obj), d ≠ c + 4 → d ≠ c → s.heap.get? d = some o → h2.get? d = some o := fun d o e0 e1 x => hs2.extBut d o e0 (K1 d o e0 e1 x)
  refine wpAny_bind ?_
  show wpAny _ _ (forIn (m := Sem) _ _ _ >>= _) _ _ _
  simp only [List.drop_succ_cons, List.drop_zero, List.zipIdx_cons, List.zipIdx_nil, List.forIn_cons, List.forIn_nil]
  refine wpAny_bind (wpAny_bind ?_)
  refine wpAny_bind (oe_end (s := { s with heap := h2 }) hh (hi1.at fun o x => K2 _ o (show ((c + 1 : Nat)) ≠ (c + 4) by omega) (show ((c + 1 : Nat)) ≠ (c) by omega) x) (L1.at fun o x => K2 _ o (show ((l1 : Nat)) ≠ (c + 4) by omega) (show ((l1 : Nat)) ≠ (c) by omega) x) hx1 fun h3 hs3 => ?_)
  have K3 : ∀ (d : Nat) (o : Obj), d ≠ c + 4 → d ≠ c → d ≠ c + 1 → s.heap.get? d = some o → h3.get? d = some o := fun d o e0 e1 e2 x => hs3 d o e2 (K2 d o e0 e1 x)
  simp only [Option.isSome_none, Bool.false_eq_true, if_false]
  refine wpAny_pure ?_
  refine wpAny_pure ?_
  refine wpAny_bind (wpAny_rule ?_)
  exact stop_it (s := { s with heap := h3 }) hh fun h9 e kk he => hE h9 e (fun d o e0 e1 e2 e3 x => kk _ _ (K3 d o e0 e2 e3 x)) he
theorem zs3_item {c k l0 l1 l2 T : Nat} {f1 : Bool} {a0 a1 a2 : Array Value} {x0 x1 x2 : Value} {b0 : Array Value} {oT : Obj} {Q : Value → Shared → Prop} (g0 : l0 < c) (g1 : l1 < c) (g2 : l2 < c)
    (hz : ZS s.heap (c + 5) (c + 3) (c + 4) .none f1) (hTI : TU s.heap (c + 3) #[.ref (c), .ref (c + 1), .ref (c + 2)]) (hTO : TU s.heap (c + 4) b0) (hb : b0.size = 3) (hi0 : s.heap.IsListIter (c) l0 k) (L0 : s.heap.IsList l0 a0) (hi1 : s.heap.IsListIter (c + 1) l1 k) (L1 : s.heap.IsList l1 a1) (hi2 : s.heap.IsListIter (c + 2) l2 k) (L2 : s.heap.IsList l2 a2)
    (hx0 : a0[k]? = some x0) (hx1 : a1[k]? = some x1) (hx2 : a2[k]? = some x2)
    (hQ : ∀ h', ZS h' (c + 5) (c + 3) (c + 4) (rawInt s.heap.objs.size) false → (∃ b1 : Array Value, b1.size = 3 ∧ TU h' (c + 4) b1) → h'.IsListIter (c) l0 (k + 1) → h'.IsListIter (c + 1) l1 (k + 1) → h'.IsListIter (c + 2) l2 (k + 1) → TU h' s.heap.objs.size #[x0, x1, x2] → h'.objs.size = s.heap.objs.size + 1 →
      (∀ (d : Nat) (o : Obj), d ≠ c + 5 → d ≠ c + 4 → d ≠ c → d ≠ c + 1 → d ≠ c + 2 → s.heap.get? d = some o → h'.get? d = some o) → Q (.ref s.heap.objs.size) { s with heap := h' }) :
    wpAny (model prog w) A (Builtin.«zip.__next__» ⟨[.ref (c + 5)], []⟩) (fun fin s1 => ∃ v, fin = .done (.ret v) ∧ Q v s1) E s := by
  show wpAny _ _ (field (.ref (c + 5)) 2 >>= _) _ _ _
  refine wpAny_bind (wpAny_field hz rfl (x := .bool true) rfl ?_)
  show wpAny _ _ (field (.ref (c + 5)) 3 >>= _) _ _ _
  refine wpAny_bind (wpAny_field hz rfl (x := .ref (c + 3)) rfl ?_)
  refine wpAny_bind (wpAny_seqItems hTI rfl ?_)
  show wpAny _ _ (Builtin.SmallTypes.ownedTupleIsFree (.ref (c + 5)) >>= _) _ _ _
  refine wpAny_bind ?_
  unfold Builtin.SmallTypes.ownedTupleIsFree
  refine wpAny_bind (wpAny_field hz rfl (x := .none) rfl (wpAny_pure ?_))
  simp only [if_true]
  refine wpAny_bind (wpAny_rule ?_)
  refine wpAny_bind (wpAny_field hz rfl (x := .ref (c + 4)) rfl ?_)
  refine wpAny_bind (wpAny_setField_rec hz (by simp) fun h0 hz0 hs0 => ?_)
  have zz0 : ZS h0 (c + 5) (c + 3) (c + 4) .ellipsis f1 := hz0
  refine wpAny_bind ?_
  simp only [List.zipIdx_cons, List.zipIdx_nil, List.forIn_cons, List.forIn_nil]
  have K0 : ∀ (d : Nat) (o : Obj), d ≠ c + 5 → s.heap.get? d = some o → h0.get? d = some o := fun d o e x => hs0.extBut _ _ e x
  have t0 : TU h0 (c + 4) b0 := K0 _ _ (show ((c + 4 : Nat)) ≠ (c + 5) by omega) hTO
  refine wpAny_bind (wpAny_bind (wpAny_onRaise ?_))
  show wpAny _ _ (Builtin.SmallTypes.nextOrEnd (.ref (c))) _ _ _
  refine oe_item (s := { s with heap := h0 }) (hi0.at fun o x => K0 _ o (show ((c : Nat)) ≠ (c + 5) by omega) x) (L0.at fun o x => K0 _ o (show ((l0 : Nat)) ≠ (c + 5) by omega) x) hx0 fun h1 hj0 hs1 => ?_
  have u0 : TU h1 (c + 4) (b0) := hs1.extBut _ _ (show ((c + 4 : Nat)) ≠ (c) by omega) t0
  refine wpAny_bind (wpAny_seqItems u0 rfl ?_)
  refine wpAny_bind (upd_tu (s := { s with heap := h1 }) u0 (by simp [hb]) fun h2 t1 hs2 => ?_)
  refine wpAny_bind (wpAny_letGo (wpAny_pure ?_))
  have K2 : ∀ (d : Nat) (o : Obj), d ≠ c + 5 → d ≠ c + 4 → d ≠ c → s.heap.get? d = some o → h2.get? d = some o := fun d o e0 e1 e2 x => hs2.extBut _ _ e1 (hs1.extBut _ _ e2 (K0 d o e0 x))
  refine wpAny_bind (wpAny_bind (wpAny_onRaise ?_))
  show wpAny _ _ (Builtin.SmallTypes.nextOrEnd (.ref (c + 1))) _ _ _
  refine oe_item (s := { s with heap := h2 }) (hi1.at fun o x => K2 _ o (show ((c + 1 : Nat)) ≠ (c + 5) by omega) (show ((c + 1 : Nat)) ≠ (c + 4) by omega) (show ((c + 1 : Nat)) ≠ (c) by omega) x) (L1.at fun o x => K2 _ o (show ((l1 : Nat)) ≠ (c + 5) by omega) (show ((l1 : Nat)) ≠ (c + 4) by omega) (show ((l1 : Nat)) ≠ (c) by omega) x) hx1 fun h3 hj1 hs3 => ?_
  have u1 : TU h3 (c + 4) ((b0).setIfInBounds 0 x0) := hs3.extBut _ _ (show ((c + 4 : Nat)) ≠ (c + 1) by omega) t1
  refine wpAny_bind (wpAny_seqItems u1 rfl ?_)
  refine wpAny_bind (upd_tu (s := { s with heap := h3 }) u1 (by simp [hb]) fun h4 t2 hs4 => ?_)
  refine wpAny_bind (wpAny_letGo (wpAny_pure ?_))
  have K4 : ∀ (d : Nat) (o : Obj), d ≠ c + 5 → d ≠ c + 4 → d ≠ c → d ≠ c + 1 → s.heap.get? d = some o → h4.get? d = some o := fun d o e0 e1 e2 e3 x => hs4.extBut _ _ e1 (hs3.extBut _ _ e3 (K2 d o e0 e1 e2 x))
  refine wpAny_bind (wpAny_bind (wpAny_onRaise ?_))
  show wpAny _ _ (Builtin.SmallTypes.nextOrEnd (.ref (c + 2))) _ _ _
  refine oe_item (s := { s with heap := h4 }) (hi2.at fun o x => K4 _ o (show ((c + 2 : Nat)) ≠ (c + 5) by omega) (show ((c + 2 : Nat)) ≠ (c + 4) by omega) (show ((c + 2 : Nat)) ≠ (c) by omega) (show ((c + 2 : Nat)) ≠ (c + 1) by omega) x) (L2.at fun o x => K4 _ o (show ((l2 : Nat)) ≠ (c + 5) by omega) (show ((l2 : Nat)) ≠ (c + 4) by omega) (show ((l2 : Nat)) ≠ (c) by omega) (show ((l2 : Nat)) ≠ (c + 1) by omega) x) hx2 fun h5 hj2 hs5 => ?_
  have u2 : TU h5 (c + 4) (((b0).setIfInBounds 0 x0).setIfInBounds 1 x1) := hs5.extBut _ _ (show ((c + 4 : Nat)) ≠ (c + 2) by omega) t2
  refine wpAny_bind (wpAny_seqItems u2 rfl ?_)
  refine wpAny_bind (upd_tu (s := { s with heap := h5 }) u2 (by simp [hb]) fun h6 t3 hs6 => ?_)
  refine wpAny_bind (wpAny_letGo (wpAny_pure ?_))
  have K6 : ∀ (d : Nat) (o : Obj), d ≠ c + 5 → d ≠ c + 4 → d ≠ c → d ≠ c + 1 → d ≠ c + 2 → s.heap.get? d = some o → h6.get? d = some o := fun d o e0 e1 e2 e3 e4 x => hs6.extBut _ _ e1 (hs5.extBut _ _ e4 (K4 d o e0 e1 e2 e3 x))
  refine wpAny_pure ?_
  refine wpAny_bind (wpAny_seqItems t3 rfl ?_)
  have eb : ((((b0).setIfInBounds 0 x0).setIfInBounds 1 x1).setIfInBounds 2 x2 : Array Value) = #[x0, x1, x2] := by
    obtain ⟨bl⟩ := b0
    match bl, hb with
    | [_, _, _], _ => rfl
  rw [eb] at t3 ⊢
  refine wpAny_bind (wpAny_newTuple ?_)
  have hsz : h6.objs.size = s.heap.objs.size := by rw [hs6.1, hs5.1, hs4.1, hs3.1, hs2.1, hs1.1, hs0.1]
  have zz : ZS h6 (c + 5) (c + 3) (c + 4) .ellipsis f1 := (hs6.extBut _ _ (show ((c + 5 : Nat)) ≠ (c + 4) by omega) (hs5.extBut _ _ (show ((c + 5 : Nat)) ≠ (c + 2) by omega) (hs4.extBut _ _ (show ((c + 5 : Nat)) ≠ (c + 4) by omega) (hs3.extBut _ _ (show ((c + 5 : Nat)) ≠ (c + 1) by omega) (hs2.extBut _ _ (show ((c + 5 : Nat)) ≠ (c + 4) by omega) (hs1.extBut _ _ (show ((c + 5 : Nat)) ≠ (c) by omega) zz0))))))
  have q0 : h6.IsListIter (c) l0 (k + 1) := (((((hj0.extBut hs2.extBut (show ((c : Nat)) ≠ (c + 4) by omega)).extBut hs3.extBut (show ((c : Nat)) ≠ (c + 1) by omega)).extBut hs4.extBut (show ((c : Nat)) ≠ (c + 4) by omega)).extBut hs5.extBut (show ((c : Nat)) ≠ (c + 2) by omega)).extBut hs6.extBut (show ((c : Nat)) ≠ (c + 4) by omega))
  have q1 : h6.IsListIter (c + 1) l1 (k + 1) := (((hj1.extBut hs4.extBut (show ((c + 1 : Nat)) ≠ (c + 4) by omega)).extBut hs5.extBut (show ((c + 1 : Nat)) ≠ (c + 2) by omega)).extBut hs6.extBut (show ((c + 1 : Nat)) ≠ (c + 4) by omega))
  have q2 : h6.IsListIter (c + 2) l2 (k + 1) := (hj2.extBut hs6.extBut (show ((c + 2 : Nat)) ≠ (c + 4) by omega))
  show wpAny _ _ (Builtin.SmallTypes.ownedTupleHandOut (.ref (c + 5)) (.ref h6.objs.size) >>= _) _ _ _
  refine wpAny_bind ?_
  unfold Builtin.SmallTypes.ownedTupleHandOut
  have zp : ZS (h6.push { cls := .type "tuple", data := .seq #[x0, x1, x2] }) (c + 5) (c + 3) (c + 4) .ellipsis f1 := Heap.get?_push_of_some _ zz
  refine wpAny_bind (wpAny_setField_rec zp (by simp) fun ha hza hsa => ?_)
  have zza : ZS ha (c + 5) (c + 3) (c + 4) (rawInt h6.objs.size) f1 := hza
  refine wpAny_setField_rec zza (by simp) fun hb2 hzb hsb => ?_
  have zzb : ZS hb2 (c + 5) (c + 3) (c + 4) (rawInt h6.objs.size) false := hzb
  have up : ∀ (d : Nat) (o : Obj), d ≠ c + 5 → h6.get? d = some o → hb2.get? d = some o := fun d o e x => hsb.extBut d o e (hsa.extBut d o e (Heap.get?_push_of_some _ x))
  have zlt : c + 5 < h6.objs.size := Heap.lt_size zz
  have tn : TU hb2 h6.objs.size #[x0, x1, x2] := hsb.extBut _ _ (Nat.ne_of_gt zlt) (hsa.extBut _ _ (Nat.ne_of_gt zlt) (Heap.get?_push_size _ rfl))
  have sz : hb2.objs.size = h6.objs.size + 1 := by rw [hsb.1, hsa.1, Heap.size_push]
  rw [hsz] at zzb tn sz
  refine wpAny_pure ⟨_, rfl, ?_⟩
  show Q (.ref h6.objs.size) _
  rw [hsz]
  exact hQ hb2 zzb ⟨#[x0, x1, x2], rfl, up _ _ (show ((c + 4 : Nat)) ≠ (c + 5) by omega) t3⟩ (q0.at fun o x => up _ o (show ((c : Nat)) ≠ (c + 5) by omega) x) (q1.at fun o x => up _ o (show ((c + 1 : Nat)) ≠ (c + 5) by omega) x) (q2.at fun o x => up _ o (show ((c + 2 : Nat)) ≠ (c + 5) by omega) x) tn sz fun d o e0 e1 e2 e3 e4 x => up d o e0 (K6 d o e0 e1 e2 e3 e4 x)
theorem zs3_end {c k l0 l1 l2 T : Nat} {f1 : Bool} {a0 a1 a2 : Array Value} {b0 : Array Value} {oT : Obj} {Q : Fin → Shared → Prop} (hh : A.handled = none) (g0 : l0 < c) (g1 : l1 < c) (g2 : l2 < c)
    (hz : ZS s.heap (c + 5) (c + 3) (c + 4) .none f1) (hTI : TU s.heap (c + 3) #[.ref (c), .ref (c + 1), .ref (c + 2)]) (hi0 : s.heap.IsListIter (c) l0 k) (L0 : s.heap.IsList l0 a0) (hi1 : s.heap.IsListIter (c + 1) l1 k) (L1 : s.heap.IsList l1 a1) (hi2 : s.heap.IsListIter (c + 2) l2 k) (L2 : s.heap.IsList l2 a2)
    (hx0 : a0[k]? = none) (hx1 : a1[k]? = none) (hx2 : a2[k]? = none)
    (hE : ∀ h' e, (∀ (d : Nat) (o : Obj), d ≠ c + 5 → d ≠ c + 4 → d ≠ c → d ≠ c + 1 → d ≠ c + 2 → s.heap.get? d = some o → h'.get? d = some o) → (∃ o, h'.get? e = some o ∧ o.cls = .type "StopIteration") → E (.ref e) { s with heap := h' }) :
    wpAny (model prog w) A (Builtin.«zip.__next__» ⟨[.ref (c + 5)], []⟩) Q E s := by
  show wpAny _ _ (field (.ref (c + 5)) 2 >>= _) _ _ _
  refine wpAny_bind (wpAny_field hz rfl (x := .bool true) rfl ?_)
  show wpAny _ _ (field (.ref (c + 5)) 3 >>= _) _ _ _
  refine wpAny_bind (wpAny_field hz rfl (x := .ref (c + 3)) rfl ?_)
  refine wpAny_bind (wpAny_seqItems hTI rfl ?_)
  show wpAny _ _ (Builtin.SmallTypes.ownedTupleIsFree (.ref (c + 5)) >>= _) _ _ _
  refine wpAny_bind ?_
  unfold Builtin.SmallTypes.ownedTupleIsFree
  refine wpAny_bind (wpAny_field hz rfl (x := .none) rfl (wpAny_pure ?_))
  simp only [if_true]
  refine wpAny_bind (wpAny_rule ?_)
  refine wpAny_bind (wpAny_field hz rfl (x := .ref (c + 4)) rfl ?_)
  refine wpAny_bind (wpAny_setField_rec hz (by simp) fun h0 hz0 hs0 => ?_)
  have zz0 : ZS h0 (c + 5) (c + 3) (c + 4) .ellipsis f1 := hz0
  refine wpAny_bind ?_
  simp only [List.zipIdx_cons, List.zipIdx_nil, List.forIn_cons, List.forIn_nil]
  refine wpAny_bind (wpAny_bind (wpAny_onRaise ?_))
  have K0 : ∀ (d : Nat) (o : Obj), d ≠ c + 5 → s.heap.get? d = some o → h0.get? d = some o := fun d o e x => hs0.extBut _ _ e x
  show wpAny _ _ (Builtin.SmallTypes.nextOrEnd (.ref (c))) _ _ _
  refine oe_end (s := { s with heap := h0 }) hh (hi0.at fun o x => K0 _ o (show ((c : Nat)) ≠ (c + 5) by omega) x) (L0.at fun o x => K0 _ o (show ((l0 : Nat)) ≠ (c + 5) by omega) x) hx0 fun h1 hs1 => ?_
  have K1 : ∀ (d : Nat) (o : Obj), d ≠ c + 5 → d ≠ c → s.heap.get? d = some o → h1.get? d = some o := fun d o e0 e1 x => hs1 d o e1 (K0 d o e0 x)
  have zz1 : ZS h1 (c + 5) (c + 3) (c + 4) .ellipsis f1 := hs1 _ _ (show ((c + 5 : Nat)) ≠ (c) by omega) zz0
  refine wpAny_bind (wpAny_setField_rec (s := { s with heap := h1 }) zz1 (by simp) fun h2 hz2 hs2 => ?_)
  have K2 : ∀ (d : Nat) (o : Obj), d ≠ c + 5 → d ≠ c → s.heap.get? d = some o → h2.get? d = some o := fun d o e0 e1 x => hs2.extBut d o e0 (K1 d o e0 e1 x)
  refine wpAny_bind ?_
  show wpAny _ _ (forIn (m := Sem) _ _ _ >>= _) _ _ _
  simp only [List.drop_succ_cons, List.drop_zero, List.zipIdx_cons, List.zipIdx_nil, List.forIn_cons, List.forIn_nil]
  refine wpAny_bind (wpAny_bind ?_)
  refine wpAny_bind (oe_end (s := { s with heap := h2 }) hh (hi1.at fun o x => K2 _ o (show ((c + 1 : Nat)) ≠ (c + 5) by omega) (show ((c + 1 : Nat)) ≠ (c) by omega) x) (L1.at fun o x => K2 _ o (show ((l1 : Nat)) ≠ (c + 5) by omega) (show ((l1 : Nat)) ≠ (c) by omega) x) hx1 fun h3 hs3 => ?_)
  have K3 : ∀ (d : Nat) (o : Obj), d ≠ c + 5 → d ≠ c → d ≠ c + 1 → s.heap.get? d = some o → h3.get? d = some o := fun d o e0 e1 e2 x => hs3 d o e2 (K2 d o e0 e1 x)
  simp only [Option.isSome_none, Bool.false_eq_true, if_false]
  refine wpAny_pure ?_
  refine wpAny_bind ?_
  refine wpAny_bind (oe_end (s := { s with heap := h3 }) hh (hi2.at fun o x => K3 _ o (show ((c + 2 : Nat)) ≠ (c + 5) by omega) (show ((c + 2 : Nat)) ≠ (c) by omega) (show ((c + 2 : Nat)) ≠ (c + 1) by omega) x) (L2.at fun o x => K3 _ o (show ((l2 : Nat)) ≠ (c + 5) by omega) (show ((l2 : Nat)) ≠ (c) by omega) (show ((l2 : Nat)) ≠ (c + 1) by omega) x) hx2 fun h4 hs4 => ?_)
  have K4 : ∀ (d : Nat) (o : Obj), d ≠ c + 5 → d ≠ c → d ≠ c + 1 → d ≠ c + 2 → s.heap.get? d = some o → h4.get? d = some o := fun d o e0 e1 e2 e3 x => hs4 d o e3 (K3 d o e0 e1 e2 x)
  simp only [Option.isSome_none, Bool.false_eq_true, if_false]
  refine wpAny_pure ?_
  refine wpAny_pure ?_
  refine wpAny_bind (wpAny_rule ?_)
  exact stop_it (s := { s with heap := h4 }) hh fun h9 e kk he => hE h9 e (fun d o e0 e1 e2 e3 e4 x => kk _ _ (K4 d o e0 e2 e3 e4 x)) he

/-- what next says of it -/
theorem zs_go {elts : List Expr} {x1 : Nat} {pos : Pos} {z TI TO T : Nat} {f1 : Bool} {Q : Unit → Shared → Prop} (hz : ZS s.heap z TI TO (rawInt T) f1) (hQ : ∀ h', ZS h' z TI TO .none f1 → Heap.SameBut z s.heap h' → Q () { s with heap := h' }) :
    wpAny (model prog w) A (letOwnedTupleGo (.Tuple elts x1 pos) (.ref z) (.ref T)) Q E s := by
  unfold letOwnedTupleGo
  refine wpAny_bind (wpAny_load hz ?_)
  show wpAny _ _ (if (["enumerate", "zip", "dict_itemiterator", "dict_reverseitemiterator", "odict_iterator", "itertools.zip_longest", "itertools.pairwise"].contains "zip" && (#[rawInt T, .bool f1, .bool true, .ref TI, .ref TO] : Array Value)[0]? == some (rawInt T)) = true then _ else _) Q E s
  rw [if_pos (by simp)]
  refine wpAny_bind (wpAny_rule ?_)
  show wpAny _ _ (setField (.ref z) 0 .none) Q E s
  exact wpAny_setField_rec hz (by simp) fun h' a b => hQ h' a b
theorem zs_iter {z TI TO : Nat} {f0 : Value} {f1 : Bool} {Q : Value → Shared → Prop} (hz : ZS s.heap z TI TO f0 f1) (h : Q (.ref z) s) : wpAny (model prog w) A (pyIter (.ref z)) Q E s := by
  have hT : s.TypeIs (.ref z) "zip" := ⟨_, hz, rfl⟩
  refine wpAny_pyIter_slot hT F.slot_zip_iter (wpAny_call_entry F.slot_zip_iter hT F.entry_zip_iter ?_ (F.args_zip_iter_1 _))
  show wpAny _ _ (ret (.ref z)) _ _ s
  exact wpAny_pure ⟨_, rfl, "zip", _, hT, F.slot_zip_next.lookup, h⟩

theorem zs2_nextI {c k l0 l1 : Nat} {f1 : Bool} {a0 a1 : Array Value} {x0 x1 : Value} {b0 : Array Value} {Q : Option Value → Shared → Prop} (g0 : l0 < c) (g1 : l1 < c)
    (hz : ZS s.heap (c + 4) (c + 2) (c + 3) .none f1) (hTI : TU s.heap (c + 2) #[.ref (c), .ref (c + 1)]) (hTO : TU s.heap (c + 3) b0) (hb : b0.size = 2) (hi0 : s.heap.IsListIter (c) l0 k) (L0 : s.heap.IsList l0 a0) (hi1 : s.heap.IsListIter (c + 1) l1 k) (L1 : s.heap.IsList l1 a1)
    (hx0 : a0[k]? = some x0) (hx1 : a1[k]? = some x1)
    (hQ : ∀ h', ZS h' (c + 4) (c + 2) (c + 3) (rawInt s.heap.objs.size) false → (∃ b1 : Array Value, b1.size = 2 ∧ TU h' (c + 3) b1) → h'.IsListIter (c) l0 (k + 1) → h'.IsListIter (c + 1) l1 (k + 1) → TU h' s.heap.objs.size #[x0, x1] → h'.objs.size = s.heap.objs.size + 1 →
      (∀ (d : Nat) (o : Obj), d ≠ c + 4 → d ≠ c + 3 → d ≠ c → d ≠ c + 1 → s.heap.get? d = some o → h'.get? d = some o) → Q (some (.ref s.heap.objs.size)) { s with heap := h' }) :
    wpAny (model prog w) A (pyNext (.ref (c + 4))) Q E s := by
  have hT : s.TypeIs (.ref (c + 4)) "zip" := ⟨_, hz, rfl⟩
  unfold pyNext
  exact wpAny_bind (wpAny_attempt (wpAny_callSpecial?_slot (name := Str.ofString "__next__") hT F.slot_zip_next (wpAny_call_entry F.slot_zip_next hT F.entry_zip_next
    (zs2_item (T := 0) (oT := default) g0 g1 hz hTI hTO hb hi0 L0 hi1 L1 hx0 hx1 fun h9 q0 q1 q2 q3 q4 q5 q6 => wpAny_pure (hQ h9 q0 q1 q2 q3 q4 q5 q6)) (F.args_zip_next_1 _))))
theorem zs2_nextE {c k l0 l1 : Nat} {f1 : Bool} {a0 a1 : Array Value} {Q : Option Value → Shared → Prop} (hh : A.handled = none) (g0 : l0 < c) (g1 : l1 < c)
    (hz : ZS s.heap (c + 4) (c + 2) (c + 3) .none f1) (hTI : TU s.heap (c + 2) #[.ref (c), .ref (c + 1)]) (hi0 : s.heap.IsListIter (c) l0 k) (L0 : s.heap.IsList l0 a0) (hi1 : s.heap.IsListIter (c + 1) l1 k) (L1 : s.heap.IsList l1 a1)
    (hx0 : a0[k]? = none) (hx1 : a1[k]? = none)
    (hQ : ∀ h', (∀ (d : Nat) (o : Obj), d ≠ c + 4 → d ≠ c + 3 → d ≠ c → d ≠ c + 1 → s.heap.get? d = some o → h'.get? d = some o) → Q none { s with heap := h' }) :
    wpAny (model prog w) A (pyNext (.ref (c + 4))) Q E s := by
  have hT : s.TypeIs (.ref (c + 4)) "zip" := ⟨_, hz, rfl⟩
  unfold pyNext
  refine wpAny_bind (wpAny_attempt (wpAny_callSpecial?_slot (name := Str.ofString "__next__") hT F.slot_zip_next (wpAny_call_entry F.slot_zip_next hT F.entry_zip_next
    (zs2_end (T := 0) (b0 := #[]) (oT := default) hh g0 g1 hz hTI hi0 L0 hi1 L1 hx0 hx1 fun h9 e kk he => ?_) (F.args_zip_next_1 _))))
  obtain ⟨o, ho, hc⟩ := he
  refine wpAny_bind (wpAny_isInstance (T := "StopIteration") (b := true) ⟨o, ho, hc⟩ isSubtype_stop ?_)
  exact wpAny_pure (hQ _ kk)
theorem tc_zip2 (v0 v1 : Value) : checkTypeCall "zip" ⟨[v0, v1], [(Str.ofString "strict", .bool true)]⟩ = pure () := by kernel_rfl
theorem nc_zip2 (v0 v1 : Value) : checkBuiltinCall "zip.__new__" ⟨[.type "zip", v0, v1], [(Str.ofString "strict", .bool true)]⟩ = pure () := by kernel_rfl
theorem oi_zip2 (u v0 v1 : Value) : argsOk "object.__init__" ⟨[u, v0, v1], [(Str.ofString "strict", .bool true)]⟩ := by unfold argsOk; kernel_rfl
abbrev zh2_0 (h : Heap) (l0 l1 : Nat) : Heap := (h).push { cls := .type "list_iterator", data := .fields #[.ref l0, .int 0 0] }
abbrev zh2_1 (h : Heap) (l0 l1 : Nat) : Heap := (zh2_0 h l0 l1).push { cls := .type "list_iterator", data := .fields #[.ref l1, .int 0 0] }
abbrev zh2_2 (h : Heap) (l0 l1 : Nat) : Heap := (zh2_1 h l0 l1).push { cls := .type "tuple", data := .seq #[.ref (h).objs.size, .ref (zh2_0 h l0 l1).objs.size] }
abbrev zh2_3 (h : Heap) (l0 l1 : Nat) : Heap := (zh2_2 h l0 l1).push { cls := .type "tuple", data := .seq #[.none, .none] }
abbrev zh2_4 (h : Heap) (l0 l1 : Nat) : Heap := (zh2_3 h l0 l1).push { cls := .type "zip", data := .fields #[.none, .bool false, .bool true, .ref (zh2_1 h l0 l1).objs.size, .ref (zh2_2 h l0 l1).objs.size] }
theorem zs2_new (l0 l1 : Nat) (a0 a1 : Array Value) : Meets (Builtin.«zip.__new__» ⟨[.type "zip", .ref l0, .ref l1], [(Str.ofString "strict", .bool true)]⟩) (fun _ R s => s.heap.IsList l0 a0 ∧ s.heap.IsList l1 a1 ∧
    R (.ok (.ret (.ref (zh2_3 s.heap l0 l1).objs.size))) { s with heap := zh2_4 s.heap l0 l1 }) :=
  .of_wp fun prog w A R s h => by
    obtain ⟨hp, g, d, tk, os⟩ := s; obtain ⟨hl0, hl1, h⟩ := h
    have hsub := sub_zip
    have e1 : (Str.ofString "strict" == ("strict" : Str)) = true := by decide +kernel
    have e2 : (Str.ofString "strict" != ("strict" : Str)) = false := by decide +kernel
    have q0 : Heap.IsList (Shared.heap ⟨hp, g, d, tk, os⟩) l0 a0 := hl0
    have q1 : Heap.IsList (Shared.heap ⟨(zh2_0 hp l0 l1), g, d, tk, os⟩) l1 a1 := (Heap.IsList.push hl1 _)
    wp_walk using wpAny_pyIter_list q0, wpAny_pyIter_list q1
    exact ⟨_, rfl, h⟩
theorem call_zs2 {l0 l1 : Nat} {a0 a1 : Array Value} {Q : Value → Shared → Prop} (L0 : s.heap.IsList l0 a0) (L1 : s.heap.IsList l1 a1)
    (h : ∀ h', ZS h' (s.heap.objs.size + 4) (s.heap.objs.size + 2) (s.heap.objs.size + 3) .none false → TU h' (s.heap.objs.size + 2) #[.ref (s.heap.objs.size), .ref (s.heap.objs.size + 1)] → TU h' (s.heap.objs.size + 3) #[.none, .none] → h'.IsListIter (s.heap.objs.size) l0 0 → h'.IsListIter (s.heap.objs.size + 1) l1 0 → h'.objs.size = s.heap.objs.size + 5 →
      (∀ (d : Nat) (o : Obj), s.heap.get? d = some o → h'.get? d = some o) → Q (.ref (s.heap.objs.size + 4)) { s with heap := h' }) :
    wpAny (model prog w) A (call (.type "zip") [.ref l0, .ref l1] [(Str.ofString "strict", .bool true)]) Q E s := by
  refine callType_newKw F.called_zip (by decide) (tc_zip2 _ _) (nc_zip2 _ _) (fun u => oi_zip2 u _ _) F.entry_zip_new (zs2_new l0 l1 a0 a1) ⟨L0, L1, ?_⟩
  have z1 : (zh2_0 s.heap l0 l1).objs.size = s.heap.objs.size + 1 := by rw [Heap.size_push]
  have z2 : (zh2_1 s.heap l0 l1).objs.size = s.heap.objs.size + 2 := by rw [Heap.size_push, z1]
  have z3 : (zh2_2 s.heap l0 l1).objs.size = s.heap.objs.size + 3 := by rw [Heap.size_push, z2]
  have z4 : (zh2_3 s.heap l0 l1).objs.size = s.heap.objs.size + 4 := by rw [Heap.size_push, z3]
  have z5 : (zh2_4 s.heap l0 l1).objs.size = s.heap.objs.size + 5 := by rw [Heap.size_push, z4]
  have g0 : (zh2_4 s.heap l0 l1).get? (s.heap).objs.size = some _ := (Heap.get?_push_of_some _ (Heap.get?_push_of_some _ (Heap.get?_push_of_some _ (Heap.get?_push_of_some _ (Heap.get?_push_size _ rfl)))))
  have g1 : (zh2_4 s.heap l0 l1).get? (zh2_0 s.heap l0 l1).objs.size = some _ := (Heap.get?_push_of_some _ (Heap.get?_push_of_some _ (Heap.get?_push_of_some _ (Heap.get?_push_size _ rfl))))
  have g2 : (zh2_4 s.heap l0 l1).get? (zh2_1 s.heap l0 l1).objs.size = some _ := (Heap.get?_push_of_some _ (Heap.get?_push_of_some _ (Heap.get?_push_size _ rfl)))
  have g3 : (zh2_4 s.heap l0 l1).get? (zh2_2 s.heap l0 l1).objs.size = some _ := (Heap.get?_push_of_some _ (Heap.get?_push_size _ rfl))
  have g4 : (zh2_4 s.heap l0 l1).get? (zh2_3 s.heap l0 l1).objs.size = some _ := (Heap.get?_push_size _ rfl)
  show _ ∧ _
  rw [z1] at g1
  rw [z1, z2] at g2
  rw [z3] at g3
  rw [z2, z3, z4] at g4
  rw [z4]
  exact ⟨⟨_, g4, rfl⟩, h _ g4 g2 g3 ⟨_, g0, rfl, rfl⟩ ⟨_, g1, rfl, rfl⟩ z5 fun d o x => Heap.get?_push_of_some _ (Heap.get?_push_of_some _ (Heap.get?_push_of_some _ (Heap.get?_push_of_some _ (Heap.get?_push_of_some _ x))))⟩
theorem zs3_nextI {c k l0 l1 l2 : Nat} {f1 : Bool} {a0 a1 a2 : Array Value} {x0 x1 x2 : Value} {b0 : Array Value} {Q : Option Value → Shared → Prop} (g0 : l0 < c) (g1 : l1 < c) (g2 : l2 < c)
    (hz : ZS s.heap (c + 5) (c + 3) (c + 4) .none f1) (hTI : TU s.heap (c + 3) #[.ref (c), .ref (c + 1), .ref (c + 2)]) (hTO : TU s.heap (c + 4) b0) (hb : b0.size = 3) (hi0 : s.heap.IsListIter (c) l0 k) (L0 : s.heap.IsList l0 a0) (hi1 : s.heap.IsListIter (c + 1) l1 k) (L1 : s.heap.IsList l1 a1) (hi2 : s.heap.IsListIter (c + 2) l2 k) (L2 : s.heap.IsList l2 a2)
    (hx0 : a0[k]? = some x0) (hx1 : a1[k]? = some x1) (hx2 : a2[k]? = some x2)
    (hQ : ∀ h', ZS h' (c + 5) (c + 3) (c + 4) (rawInt s.heap.objs.size) false → (∃ b1 : Array Value, b1.size = 3 ∧ TU h' (c + 4) b1) → h'.IsListIter (c) l0 (k + 1) → h'.IsListIter (c + 1) l1 (k + 1) → h'.IsListIter (c + 2) l2 (k + 1) → TU h' s.heap.objs.size #[x0, x1, x2] → h'.objs.size = s.heap.objs.size + 1 →
      (∀ (d : Nat) (o : Obj), d ≠ c + 5 → d ≠ c + 4 → d ≠ c → d ≠ c + 1 → d ≠ c + 2 → s.heap.get? d = some o → h'.get? d = some o) → Q (some (.ref s.heap.objs.size)) { s with heap := h' }) :
    wpAny (model prog w) A (pyNext (.ref (c + 5))) Q E s := by
  have hT : s.TypeIs (.ref (c + 5)) "zip" := ⟨_, hz, rfl⟩
  unfold pyNext
  exact wpAny_bind (wpAny_attempt (wpAny_callSpecial?_slot (name := Str.ofString "__next__") hT F.slot_zip_next (wpAny_call_entry F.slot_zip_next hT F.entry_zip_next
    (zs3_item (T := 0) (oT := default) g0 g1 g2 hz hTI hTO hb hi0 L0 hi1 L1 hi2 L2 hx0 hx1 hx2 fun h9 q0 q1 q2 q3 q4 q5 q6 q7 => wpAny_pure (hQ h9 q0 q1 q2 q3 q4 q5 q6 q7)) (F.args_zip_next_1 _))))
theorem zs3_nextE {c k l0 l1 l2 : Nat} {f1 : Bool} {a0 a1 a2 : Array Value} {Q : Option Value → Shared → Prop} (hh : A.handled = none) (g0 : l0 < c) (g1 : l1 < c) (g2 : l2 < c)
    (hz : ZS s.heap (c + 5) (c + 3) (c + 4) .none f1) (hTI : TU s.heap (c + 3) #[.ref (c), .ref (c + 1), .ref (c + 2)]) (hi0 : s.heap.IsListIter (c) l0 k) (L0 : s.heap.IsList l0 a0) (hi1 : s.heap.IsListIter (c + 1) l1 k) (L1 : s.heap.IsList l1 a1) (hi2 : s.heap.IsListIter (c + 2) l2 k) (L2 : s.heap.IsList l2 a2)
    (hx0 : a0[k]? = none) (hx1 : a1[k]? = none) (hx2 : a2[k]? = none)
    (hQ : ∀ h', (∀ (d : Nat) (o : Obj), d ≠ c + 5 → d ≠ c + 4 → d ≠ c → d ≠ c + 1 → d ≠ c + 2 → s.heap.get? d = some o → h'.get? d = some o) → Q none { s with heap := h' }) :
    wpAny (model prog w) A (pyNext (.ref (c + 5))) Q E s := by
  have hT : s.TypeIs (.ref (c + 5)) "zip" := ⟨_, hz, rfl⟩
  unfold pyNext
  refine wpAny_bind (wpAny_attempt (wpAny_callSpecial?_slot (name := Str.ofString "__next__") hT F.slot_zip_next (wpAny_call_entry F.slot_zip_next hT F.entry_zip_next
    (zs3_end (T := 0) (b0 := #[]) (oT := default) hh g0 g1 g2 hz hTI hi0 L0 hi1 L1 hi2 L2 hx0 hx1 hx2 fun h9 e kk he => ?_) (F.args_zip_next_1 _))))
  obtain ⟨o, ho, hc⟩ := he
  refine wpAny_bind (wpAny_isInstance (T := "StopIteration") (b := true) ⟨o, ho, hc⟩ isSubtype_stop ?_)
  exact wpAny_pure (hQ _ kk)
theorem tc_zip3 (v0 v1 v2 : Value) : checkTypeCall "zip" ⟨[v0, v1, v2], [(Str.ofString "strict", .bool true)]⟩ = pure () := by kernel_rfl
theorem nc_zip3 (v0 v1 v2 : Value) : checkBuiltinCall "zip.__new__" ⟨[.type "zip", v0, v1, v2], [(Str.ofString "strict", .bool true)]⟩ = pure () := by kernel_rfl
theorem oi_zip3 (u v0 v1 v2 : Value) : argsOk "object.__init__" ⟨[u, v0, v1, v2], [(Str.ofString "strict", .bool true)]⟩ := by unfold argsOk; kernel_rfl
abbrev zh3_0 (h : Heap) (l0 l1 l2 : Nat) : Heap := (h).push { cls := .type "list_iterator", data := .fields #[.ref l0, .int 0 0] }
abbrev zh3_1 (h : Heap) (l0 l1 l2 : Nat) : Heap := (zh3_0 h l0 l1 l2).push { cls := .type "list_iterator", data := .fields #[.ref l1, .int 0 0] }
abbrev zh3_2 (h : Heap) (l0 l1 l2 : Nat) : Heap := (zh3_1 h l0 l1 l2).push { cls := .type "list_iterator", data := .fields #[.ref l2, .int 0 0] }
abbrev zh3_3 (h : Heap) (l0 l1 l2 : Nat) : Heap := (zh3_2 h l0 l1 l2).push { cls := .type "tuple", data := .seq #[.ref (h).objs.size, .ref (zh3_0 h l0 l1 l2).objs.size, .ref (zh3_1 h l0 l1 l2).objs.size] }
abbrev zh3_4 (h : Heap) (l0 l1 l2 : Nat) : Heap := (zh3_3 h l0 l1 l2).push { cls := .type "tuple", data := .seq #[.none, .none, .none] }
abbrev zh3_5 (h : Heap) (l0 l1 l2 : Nat) : Heap := (zh3_4 h l0 l1 l2).push { cls := .type "zip", data := .fields #[.none, .bool false, .bool true, .ref (zh3_2 h l0 l1 l2).objs.size, .ref (zh3_3 h l0 l1 l2).objs.size] }
theorem zs3_new (l0 l1 l2 : Nat) (a0 a1 a2 : Array Value) : Meets (Builtin.«zip.__new__» ⟨[.type "zip", .ref l0, .ref l1, .ref l2], [(Str.ofString "strict", .bool true)]⟩) (fun _ R s => s.heap.IsList l0 a0 ∧ s.heap.IsList l1 a1 ∧ s.heap.IsList l2 a2 ∧
    R (.ok (.ret (.ref (zh3_4 s.heap l0 l1 l2).objs.size))) { s with heap := zh3_5 s.heap l0 l1 l2 }) :=
  .of_wp fun prog w A R s h => by
    obtain ⟨hp, g, d, tk, os⟩ := s; obtain ⟨hl0, hl1, hl2, h⟩ := h
    have hsub := sub_zip
    have e1 : (Str.ofString "strict" == ("strict" : Str)) = true := by decide +kernel
    have e2 : (Str.ofString "strict" != ("strict" : Str)) = false := by decide +kernel
    have q0 : Heap.IsList (Shared.heap ⟨hp, g, d, tk, os⟩) l0 a0 := hl0
    have q1 : Heap.IsList (Shared.heap ⟨(zh3_0 hp l0 l1 l2), g, d, tk, os⟩) l1 a1 := (Heap.IsList.push hl1 _)
    have q2 : Heap.IsList (Shared.heap ⟨(zh3_1 hp l0 l1 l2), g, d, tk, os⟩) l2 a2 := (Heap.IsList.push (Heap.IsList.push hl2 _) _)
    wp_walk using wpAny_pyIter_list q0, wpAny_pyIter_list q1, wpAny_pyIter_list q2
    exact ⟨_, rfl, h⟩
theorem call_zs3 {l0 l1 l2 : Nat} {a0 a1 a2 : Array Value} {Q : Value → Shared → Prop} (L0 : s.heap.IsList l0 a0) (L1 : s.heap.IsList l1 a1) (L2 : s.heap.IsList l2 a2)
    (h : ∀ h', ZS h' (s.heap.objs.size + 5) (s.heap.objs.size + 3) (s.heap.objs.size + 4) .none false → TU h' (s.heap.objs.size + 3) #[.ref (s.heap.objs.size), .ref (s.heap.objs.size + 1), .ref (s.heap.objs.size + 2)] → TU h' (s.heap.objs.size + 4) #[.none, .none, .none] → h'.IsListIter (s.heap.objs.size) l0 0 → h'.IsListIter (s.heap.objs.size + 1) l1 0 → h'.IsListIter (s.heap.objs.size + 2) l2 0 → h'.objs.size = s.heap.objs.size + 6 →
      (∀ (d : Nat) (o : Obj), s.heap.get? d = some o → h'.get? d = some o) → Q (.ref (s.heap.objs.size + 5)) { s with heap := h' }) :
    wpAny (model prog w) A (call (.type "zip") [.ref l0, .ref l1, .ref l2] [(Str.ofString "strict", .bool true)]) Q E s := by
  refine callType_newKw F.called_zip (by decide) (tc_zip3 _ _ _) (nc_zip3 _ _ _) (fun u => oi_zip3 u _ _ _) F.entry_zip_new (zs3_new l0 l1 l2 a0 a1 a2) ⟨L0, L1, L2, ?_⟩
  have z1 : (zh3_0 s.heap l0 l1 l2).objs.size = s.heap.objs.size + 1 := by rw [Heap.size_push]
  have z2 : (zh3_1 s.heap l0 l1 l2).objs.size = s.heap.objs.size + 2 := by rw [Heap.size_push, z1]
  have z3 : (zh3_2 s.heap l0 l1 l2).objs.size = s.heap.objs.size + 3 := by rw [Heap.size_push, z2]
  have z4 : (zh3_3 s.heap l0 l1 l2).objs.size = s.heap.objs.size + 4 := by rw [Heap.size_push, z3]
  have z5 : (zh3_4 s.heap l0 l1 l2).objs.size = s.heap.objs.size + 5 := by rw [Heap.size_push, z4]
  have z6 : (zh3_5 s.heap l0 l1 l2).objs.size = s.heap.objs.size + 6 := by rw [Heap.size_push, z5]
  have g0 : (zh3_5 s.heap l0 l1 l2).get? (s.heap).objs.size = some _ := (Heap.get?_push_of_some _ (Heap.get?_push_of_some _ (Heap.get?_push_of_some _ (Heap.get?_push_of_some _ (Heap.get?_push_of_some _ (Heap.get?_push_size _ rfl))))))
  have g1 : (zh3_5 s.heap l0 l1 l2).get? (zh3_0 s.heap l0 l1 l2).objs.size = some _ := (Heap.get?_push_of_some _ (Heap.get?_push_of_some _ (Heap.get?_push_of_some _ (Heap.get?_push_of_some _ (Heap.get?_push_size _ rfl)))))
  have g2 : (zh3_5 s.heap l0 l1 l2).get? (zh3_1 s.heap l0 l1 l2).objs.size = some _ := (Heap.get?_push_of_some _ (Heap.get?_push_of_some _ (Heap.get?_push_of_some _ (Heap.get?_push_size _ rfl))))
  have g3 : (zh3_5 s.heap l0 l1 l2).get? (zh3_2 s.heap l0 l1 l2).objs.size = some _ := (Heap.get?_push_of_some _ (Heap.get?_push_of_some _ (Heap.get?_push_size _ rfl)))
  have g4 : (zh3_5 s.heap l0 l1 l2).get? (zh3_3 s.heap l0 l1 l2).objs.size = some _ := (Heap.get?_push_of_some _ (Heap.get?_push_size _ rfl))
  have g5 : (zh3_5 s.heap l0 l1 l2).get? (zh3_4 s.heap l0 l1 l2).objs.size = some _ := (Heap.get?_push_size _ rfl)
  show _ ∧ _
  rw [z1] at g1
  rw [z2] at g2
  rw [z1, z2, z3] at g3
  rw [z4] at g4
  rw [z3, z4, z5] at g5
  rw [z5]
  exact ⟨⟨_, g5, rfl⟩, h _ g5 g3 g4 ⟨_, g0, rfl, rfl⟩ ⟨_, g1, rfl, rfl⟩ ⟨_, g2, rfl, rfl⟩ z6 fun d o x => Heap.get?_push_of_some _ (Heap.get?_push_of_some _ (Heap.get?_push_of_some _ (Heap.get?_push_of_some _ (Heap.get?_push_of_some _ (Heap.get?_push_of_some _ x)))))⟩
end
end AZ
end
section
set_option maxRecDepth 100000
set_option maxHeartbeats 4000000
namespace AZ
open PySem PySem.Spec PyProof.Rows L2
def ItS2 (K : PySem.W.Frag) (a b : Addr) : It :=
  ⟨fun i H => ∃ (xs ys : List V) (x0 x1 : V), SqL K H a xs ∧ SqL K H b ys ∧ xs[i]? = some x0 ∧ ys[i]? = some x1,
    fun i H v H' => ∃ (T : Addr) (x0 x1 : V), v = .ref T ∧ H T = none ∧ H' = upd H T (.tup [x0, x1]) ∧ (∀ l, SqL K H a l → l[i]? = some x0) ∧ (∀ l, SqL K H b l → l[i]? = some x1),
    fun i H => ∃ xs ys : List V, SqL K H a xs ∧ SqL K H b ys ∧ xs.length ≤ i ∧ ys.length ≤ i⟩
theorem turnS2 {P : Program} {w : World} {K : PySem.W.Frag} {elts : List Expr} {kk : Nat} {tpos : Pos} {c a b : Nat} (g0 : a < c) (g1 : b < c) :
    Turn P w K (.Tuple elts kk tpos) (ItS2 K a b) [c + 4, c + 2, c + 3, c, c + 1] (c + 4) (fun i h => ∃ f1, ZS h (c + 4) (c + 2) (c + 3) .none f1 ∧ TU h (c + 2) #[.ref (c), .ref (c + 1)] ∧ (∃ b0 : Array Value, b0.size = 2 ∧ TU h (c + 3) b0) ∧ h.IsListIter (c) a i ∧ h.IsListIter (c + 1) b i) where
  mem := by simp
  obj := fun i h st q hq => by
    obtain ⟨f1, hz, hTI, ⟨b0, hb, hTO⟩, ⟨o0, e0, _, d0⟩, ⟨o1, e1, _, d1⟩⟩ := st
    have e' : q = c + 4 ∨ q = c + 2 ∨ q = c + 3 ∨ q = c ∨ q = c + 1 := by simpa using hq
    rcases e' with r | r | r | r | r
    · rw [r]; exact ⟨_, hz, fun v q => nomatch q⟩
    · rw [r]; exact ⟨_, hTI, fun v q => nomatch q⟩
    · rw [r]; exact ⟨_, hTO, fun v q => nomatch q⟩
    · rw [r]; exact ⟨o0, e0, fun v q => by rw [d0] at q; cases q⟩
    · rw [r]; exact ⟨o1, e1, fun v q => by rw [d1] at q; cases q⟩
  keep := fun i h h' st k => by
    obtain ⟨f1, hz, hTI, ⟨b0, hb, hTO⟩, h0, h1⟩ := st
    exact ⟨f1, k _ (by simp) _ hz, k _ (by simp) _ hTI, ⟨b0, hb, k _ (by simp) _ hTO⟩, h0.at fun o q => k _ (by simp) o q, h1.at fun o q => k _ (by simp) o q⟩
  item := by
    intro X hP hw hK hc i pins s σ H E I hf st hg
    subst hP hw hK
    obtain ⟨f1, hz, hTI, ⟨b0, hb, hTO⟩, h0, h1⟩ := st
    obtain ⟨xs, ys, x0, x1, hq0, hq1, hx0, hx1⟩ := hg
    obtain ⟨it0, rv0, p0, _⟩ := I.list hq0
    obtain ⟨u0, hu0, ru0⟩ := rv0.get hx0
    obtain ⟨it1, rv1, p1, _⟩ := I.list hq1
    obtain ⟨u1, hu1, ru1⟩ := rv1.get hx1
    have hzl : c + 4 < s.heap.objs.size := Heap.lt_size hz
    refine zs2_nextI g0 g1 hz hTI hTO hb h0 p0.isList h1 p1.isList (x0 := u0) (by simpa using hu0) (x1 := u1) (by simpa using hu1) fun hA z1 tO1 k0 k1 hT hsz hk => ?_
    refine ⟨_, rfl, zs_go (s := { s with heap := hA }) z1 fun hB z2 sb => ?_⟩
    have hT2 : hB.get? s.heap.objs.size = some { cls := .type "tuple", data := .seq #[u0, u1] } := (sb.2 _ (Nat.ne_of_gt hzl)).trans hT
    have new : ObjOk X.prog X.w (upd H s.heap.objs.size (.tup [x0, x1])) hB s.heap.objs.size (.tup [x0, x1]) := ⟨by show 2 ≤ sizeLine; decide, [u0, u1], (.cons ru0 (.cons ru1 .nil)), ⟨_, hT2, rfl, _, rfl⟩⟩
    have I1 : Inv X pins σ (upd H s.heap.objs.size (.tup [x0, x1])) { s with heap := hB } :=
      I.turnedNew (t' := s.toks) (ch := [c + 4, c + 2, c + 3, c, c + 1]) (fun q o hb' qq => (sb.2 q (fun q' => hb' (by simp [q']))).trans (hk q o (fun q' => hb' (by simp [q'])) (fun q' => hb' (by simp [q'])) (fun q' => hb' (by simp [q'])) (fun q' => hb' (by simp [q'])) qq)) hf (Nat.le_refl _) new
    refine ⟨.ref s.heap.objs.size, _, I1, rfl, ⟨_, x0, x1, rfl, I.hok.fresh (Nat.le_refl _), rfl, fun l hl => by rw [I.list_inj hl hq0]; exact hx0, fun l hl => by rw [I.list_inj hl hq1]; exact hx1⟩, ⟨false, z2, ?_, ?_, ?_, ?_⟩, fun q hq => ?_⟩
    · exact (sb.2 _ (show ((c + 2 : Nat)) ≠ (c + 4) by omega)).trans (hk _ _ (show ((c + 2 : Nat)) ≠ (c + 4) by omega) (show ((c + 2 : Nat)) ≠ (c + 3) by omega) (show ((c + 2 : Nat)) ≠ (c) by omega) (show ((c + 2 : Nat)) ≠ (c + 1) by omega) hTI)
    · obtain ⟨b1, s1, t1⟩ := tO1
      exact ⟨b1, s1, (sb.2 _ (show ((c + 3 : Nat)) ≠ (c + 4) by omega)).trans t1⟩
    · exact k0.at fun o q => (sb.2 _ (show ((c : Nat)) ≠ (c + 4) by omega)).trans q
    · exact k1.at fun o q => (sb.2 _ (show ((c + 1 : Nat)) ≠ (c + 4) by omega)).trans q
    · have hlt : q < s.heap.objs.size := by
        have e' : q = c + 4 ∨ q = c + 2 ∨ q = c + 3 ∨ q = c ∨ q = c + 1 := by simpa using hq
        rcases e' with r | r | r | r | r
        · rw [r]; exact hzl
        · rw [r]; exact Heap.lt_size hTI
        · rw [r]; exact Heap.lt_size hTO
        · rw [r]; obtain ⟨_, e1, _⟩ := h0; exact Heap.lt_size e1
        · rw [r]; obtain ⟨_, e1, _⟩ := h1; exact Heap.lt_size e1
      rw [upd_ne (Nat.ne_of_lt hlt)]
      exact (hf q hq).1
  done := by
    intro X hP hw hK hc i pins s σ H E I hf st hg
    subst hP hw hK
    obtain ⟨f1, hz, hTI, _, h0, h1⟩ := st
    obtain ⟨xs, ys, hq0, hq1, he0, he1⟩ := hg
    obtain ⟨it0, rv0, p0, _⟩ := I.list hq0
    have n0 := rv0.length
    obtain ⟨it1, rv1, p1, _⟩ := I.list hq1
    have n1 := rv1.length
    exact zs2_nextE (I.ok.hd hc) g0 g1 hz hTI h0 p0.isList h1 p1.isList (by simp; omega) (by simp; omega) fun h9 hk => ⟨rfl, I.turnedL (t' := s.toks) (ch := [c + 4, c + 2, c + 3, c, c + 1]) (fun q o hb' qq => hk q o (fun q' => hb' (by simp [q'])) (fun q' => hb' (by simp [q'])) (fun q' => hb' (by simp [q'])) (fun q' => hb' (by simp [q'])) qq) hf⟩
  self := fun A i s Q E st h => by
    obtain ⟨f1, hz, _⟩ := st
    exact zs_iter hz h
def iZipS2 (K : PySem.W.Frag) (ta : TA) : TI := fun σ H R => ta σ H fun vs H1 => ∃ (a b : Addr) (xs ys : List V), vs = [.ref a, .ref b] ∧ SqL K H1 a xs ∧ SqL K H1 b ys ∧ R (ItS2 K a b) H1
theorem pi_zipS2 {X : Cx} {e e2 : Expr} {ta : TA} {p pos tpos kp kpos : Pos} {elts : List Expr} {kk jj : Nat} (hg : Gl X "zip") (hm : X.mg "zip" = none) (ha : PA X [e, e2] ta)
    (hs : backTo pos (starEach [e, e2] X.env) = (false, eval e X.env) :: backTo pos (starEach [e2] X.env) := by rfl) (hpl : (backTo pos (starEach [e, e2] X.env)).any (·.1) = false := by rfl) :
    PI X (.Tuple elts kk tpos) (.Call (.Name "zip" p) [e, e2] [⟨some "strict", .Constant (.bool true) jj kp, kpos⟩] pos) (iZipS2 X.K ta) := by
  refine ⟨fun pins s σ H R I h => ?_⟩
  refine wpAny_Call_Name_kw (ld_blt I hg hm PyProof.Rows.boot_zip (with_kw (thn (ha.run pos pins s σ H _ I h) fun us s1 ⟨vs, H1, I1, r1, q1⟩ => ?_) hs hpl))
  obtain ⟨a, b, xs, ys, ex, hq0, hq1, q⟩ := q1
  subst ex
  refine kws_cons (Constant_bool (evalAll_nil ?_))
  have eu : us = [.ref a, .ref b] := by
    cases r1 with
    | cons r0 rr0 =>
      cases rr0 with
      | cons r1 rr1 =>
        cases rr1
        cases r0
        cases r1
        rfl
  subst eu
  obtain ⟨it0, rv0, p0, _⟩ := I1.list hq0
  obtain ⟨it1, rv1, p1, _⟩ := I1.list hq1
  refine call_zs2 p0.isList p1.isList fun hp hz hTI hTO i0 i1 hsz hk => zs_iter hz ?_
  have I2 : Inv X pins σ H1 { s1 with heap := hp } := I1.kept (t' := s1.toks) hk
  refine ⟨s1.heap.objs.size + 4, [s1.heap.objs.size + 4, s1.heap.objs.size + 2, s1.heap.objs.size + 3, s1.heap.objs.size, s1.heap.objs.size + 1], _, _, H1, rfl, I2, turnS2 p0.lt p1.lt, ⟨false, hz, hTI, ⟨_, rfl, hTO⟩, i0, i1⟩, fun q hq => ?_, q⟩
  have e' : q = s1.heap.objs.size + 4 ∨ q = s1.heap.objs.size + 2 ∨ q = s1.heap.objs.size + 3 ∨ q = s1.heap.objs.size ∨ q = s1.heap.objs.size + 1 := by simpa using hq
  have hle : s1.heap.objs.size ≤ q := by
    rcases e' with r | r | r | r | r
    · rw [r]; exact Nat.le_add_right _ _
    · rw [r]; exact Nat.le_add_right _ _
    · rw [r]; exact Nat.le_add_right _ _
    · rw [r]; exact Nat.le_refl _
    · rw [r]; exact Nat.le_add_right _ _
  exact I1.fpOk hle (I1.hok.fresh hle)
def ItS3 (K : PySem.W.Frag) (a b d : Addr) : It :=
  ⟨fun i H => ∃ (xs ys zs : List V) (x0 x1 x2 : V), SqL K H a xs ∧ SqL K H b ys ∧ SqL K H d zs ∧ xs[i]? = some x0 ∧ ys[i]? = some x1 ∧ zs[i]? = some x2,
    fun i H v H' => ∃ (T : Addr) (x0 x1 x2 : V), v = .ref T ∧ H T = none ∧ H' = upd H T (.tup [x0, x1, x2]) ∧ (∀ l, SqL K H a l → l[i]? = some x0) ∧ (∀ l, SqL K H b l → l[i]? = some x1) ∧ (∀ l, SqL K H d l → l[i]? = some x2),
    fun i H => ∃ xs ys zs : List V, SqL K H a xs ∧ SqL K H b ys ∧ SqL K H d zs ∧ xs.length ≤ i ∧ ys.length ≤ i ∧ zs.length ≤ i⟩
theorem turnS3 {P : Program} {w : World} {K : PySem.W.Frag} {elts : List Expr} {kk : Nat} {tpos : Pos} {c a b d : Nat} (g0 : a < c) (g1 : b < c) (g2 : d < c) :
    Turn P w K (.Tuple elts kk tpos) (ItS3 K a b d) [c + 5, c + 3, c + 4, c, c + 1, c + 2] (c + 5) (fun i h => ∃ f1, ZS h (c + 5) (c + 3) (c + 4) .none f1 ∧ TU h (c + 3) #[.ref (c), .ref (c + 1), .ref (c + 2)] ∧ (∃ b0 : Array Value, b0.size = 3 ∧ TU h (c + 4) b0) ∧ h.IsListIter (c) a i ∧ h.IsListIter (c + 1) b i ∧ h.IsListIter (c + 2) d i) where
  mem := by simp
  obj := fun i h st q hq => by
    obtain ⟨f1, hz, hTI, ⟨b0, hb, hTO⟩, ⟨o0, e0, _, d0⟩, ⟨o1, e1, _, d1⟩, ⟨o2, e2, _, d2⟩⟩ := st
    have e' : q = c + 5 ∨ q = c + 3 ∨ q = c + 4 ∨ q = c ∨ q = c + 1 ∨ q = c + 2 := by simpa using hq
    rcases e' with r | r | r | r | r | r
    · rw [r]; exact ⟨_, hz, fun v q => nomatch q⟩
    · rw [r]; exact ⟨_, hTI, fun v q => nomatch q⟩
    · rw [r]; exact ⟨_, hTO, fun v q => nomatch q⟩
    · rw [r]; exact ⟨o0, e0, fun v q => by rw [d0] at q; cases q⟩
    · rw [r]; exact ⟨o1, e1, fun v q => by rw [d1] at q; cases q⟩
    · rw [r]; exact ⟨o2, e2, fun v q => by rw [d2] at q; cases q⟩
  keep := fun i h h' st k => by
    obtain ⟨f1, hz, hTI, ⟨b0, hb, hTO⟩, h0, h1, h2⟩ := st
    exact ⟨f1, k _ (by simp) _ hz, k _ (by simp) _ hTI, ⟨b0, hb, k _ (by simp) _ hTO⟩, h0.at fun o q => k _ (by simp) o q, h1.at fun o q => k _ (by simp) o q, h2.at fun o q => k _ (by simp) o q⟩
  item := by
    intro X hP hw hK hc i pins s σ H E I hf st hg
    subst hP hw hK
    obtain ⟨f1, hz, hTI, ⟨b0, hb, hTO⟩, h0, h1, h2⟩ := st
    obtain ⟨xs, ys, zs, x0, x1, x2, hq0, hq1, hq2, hx0, hx1, hx2⟩ := hg
    obtain ⟨it0, rv0, p0, _⟩ := I.list hq0
    obtain ⟨u0, hu0, ru0⟩ := rv0.get hx0
    obtain ⟨it1, rv1, p1, _⟩ := I.list hq1
    obtain ⟨u1, hu1, ru1⟩ := rv1.get hx1
    obtain ⟨it2, rv2, p2, _⟩ := I.list hq2
    obtain ⟨u2, hu2, ru2⟩ := rv2.get hx2
    have hzl : c + 5 < s.heap.objs.size := Heap.lt_size hz
    refine zs3_nextI g0 g1 g2 hz hTI hTO hb h0 p0.isList h1 p1.isList h2 p2.isList (x0 := u0) (by simpa using hu0) (x1 := u1) (by simpa using hu1) (x2 := u2) (by simpa using hu2) fun hA z1 tO1 k0 k1 k2 hT hsz hk => ?_
    refine ⟨_, rfl, zs_go (s := { s with heap := hA }) z1 fun hB z2 sb => ?_⟩
    have hT2 : hB.get? s.heap.objs.size = some { cls := .type "tuple", data := .seq #[u0, u1, u2] } := (sb.2 _ (Nat.ne_of_gt hzl)).trans hT
    have new : ObjOk X.prog X.w (upd H s.heap.objs.size (.tup [x0, x1, x2])) hB s.heap.objs.size (.tup [x0, x1, x2]) := ⟨by show 3 ≤ sizeLine; decide, [u0, u1, u2], (.cons ru0 (.cons ru1 (.cons ru2 .nil))), ⟨_, hT2, rfl, _, rfl⟩⟩
    have I1 : Inv X pins σ (upd H s.heap.objs.size (.tup [x0, x1, x2])) { s with heap := hB } :=
      I.turnedNew (t' := s.toks) (ch := [c + 5, c + 3, c + 4, c, c + 1, c + 2]) (fun q o hb' qq => (sb.2 q (fun q' => hb' (by simp [q']))).trans (hk q o (fun q' => hb' (by simp [q'])) (fun q' => hb' (by simp [q'])) (fun q' => hb' (by simp [q'])) (fun q' => hb' (by simp [q'])) (fun q' => hb' (by simp [q'])) qq)) hf (Nat.le_refl _) new
    refine ⟨.ref s.heap.objs.size, _, I1, rfl, ⟨_, x0, x1, x2, rfl, I.hok.fresh (Nat.le_refl _), rfl, fun l hl => by rw [I.list_inj hl hq0]; exact hx0, fun l hl => by rw [I.list_inj hl hq1]; exact hx1, fun l hl => by rw [I.list_inj hl hq2]; exact hx2⟩, ⟨false, z2, ?_, ?_, ?_, ?_, ?_⟩, fun q hq => ?_⟩
    · exact (sb.2 _ (show ((c + 3 : Nat)) ≠ (c + 5) by omega)).trans (hk _ _ (show ((c + 3 : Nat)) ≠ (c + 5) by omega) (show ((c + 3 : Nat)) ≠ (c + 4) by omega) (show ((c + 3 : Nat)) ≠ (c) by omega) (show ((c + 3 : Nat)) ≠ (c + 1) by omega) (show ((c + 3 : Nat)) ≠ (c + 2) by omega) hTI)
    · obtain ⟨b1, s1, t1⟩ := tO1
      exact ⟨b1, s1, (sb.2 _ (show ((c + 4 : Nat)) ≠ (c + 5) by omega)).trans t1⟩
    · exact k0.at fun o q => (sb.2 _ (show ((c : Nat)) ≠ (c + 5) by omega)).trans q
    · exact k1.at fun o q => (sb.2 _ (show ((c + 1 : Nat)) ≠ (c + 5) by omega)).trans q
    · exact k2.at fun o q => (sb.2 _ (show ((c + 2 : Nat)) ≠ (c + 5) by omega)).trans q
    · have hlt : q < s.heap.objs.size := by
        have e' : q = c + 5 ∨ q = c + 3 ∨ q = c + 4 ∨ q = c ∨ q = c + 1 ∨ q = c + 2 := by simpa using hq
        rcases e' with r | r | r | r | r | r
        · rw [r]; exact hzl
        · rw [r]; exact Heap.lt_size hTI
        · rw [r]; exact Heap.lt_size hTO
        · rw [r]; obtain ⟨_, e1, _⟩ := h0; exact Heap.lt_size e1
        · rw [r]; obtain ⟨_, e1, _⟩ := h1; exact Heap.lt_size e1
        · rw [r]; obtain ⟨_, e1, _⟩ := h2; exact Heap.lt_size e1
      rw [upd_ne (Nat.ne_of_lt hlt)]
      exact (hf q hq).1
  done := by
    intro X hP hw hK hc i pins s σ H E I hf st hg
    subst hP hw hK
    obtain ⟨f1, hz, hTI, _, h0, h1, h2⟩ := st
    obtain ⟨xs, ys, zs, hq0, hq1, hq2, he0, he1, he2⟩ := hg
    obtain ⟨it0, rv0, p0, _⟩ := I.list hq0
    have n0 := rv0.length
    obtain ⟨it1, rv1, p1, _⟩ := I.list hq1
    have n1 := rv1.length
    obtain ⟨it2, rv2, p2, _⟩ := I.list hq2
    have n2 := rv2.length
    exact zs3_nextE (I.ok.hd hc) g0 g1 g2 hz hTI h0 p0.isList h1 p1.isList h2 p2.isList (by simp; omega) (by simp; omega) (by simp; omega) fun h9 hk => ⟨rfl, I.turnedL (t' := s.toks) (ch := [c + 5, c + 3, c + 4, c, c + 1, c + 2]) (fun q o hb' qq => hk q o (fun q' => hb' (by simp [q'])) (fun q' => hb' (by simp [q'])) (fun q' => hb' (by simp [q'])) (fun q' => hb' (by simp [q'])) (fun q' => hb' (by simp [q'])) qq) hf⟩
  self := fun A i s Q E st h => by
    obtain ⟨f1, hz, _⟩ := st
    exact zs_iter hz h
def iZipS3 (K : PySem.W.Frag) (ta : TA) : TI := fun σ H R => ta σ H fun vs H1 => ∃ (a b d : Addr) (xs ys zs : List V), vs = [.ref a, .ref b, .ref d] ∧ SqL K H1 a xs ∧ SqL K H1 b ys ∧ SqL K H1 d zs ∧ R (ItS3 K a b d) H1
theorem pi_zipS3 {X : Cx} {e e2 e3 : Expr} {ta : TA} {p pos tpos kp kpos : Pos} {elts : List Expr} {kk jj : Nat} (hg : Gl X "zip") (hm : X.mg "zip" = none) (ha : PA X [e, e2, e3] ta)
    (hs : backTo pos (starEach [e, e2, e3] X.env) = (false, eval e X.env) :: backTo pos (starEach [e2, e3] X.env) := by rfl) (hpl : (backTo pos (starEach [e, e2, e3] X.env)).any (·.1) = false := by rfl) :
    PI X (.Tuple elts kk tpos) (.Call (.Name "zip" p) [e, e2, e3] [⟨some "strict", .Constant (.bool true) jj kp, kpos⟩] pos) (iZipS3 X.K ta) := by
  refine ⟨fun pins s σ H R I h => ?_⟩
  refine wpAny_Call_Name_kw (ld_blt I hg hm PyProof.Rows.boot_zip (with_kw (thn (ha.run pos pins s σ H _ I h) fun us s1 ⟨vs, H1, I1, r1, q1⟩ => ?_) hs hpl))
  obtain ⟨a, b, d, xs, ys, zs, ex, hq0, hq1, hq2, q⟩ := q1
  subst ex
  refine kws_cons (Constant_bool (evalAll_nil ?_))
  have eu : us = [.ref a, .ref b, .ref d] := by
    cases r1 with
    | cons r0 rr0 =>
      cases rr0 with
      | cons r1 rr1 =>
        cases rr1 with
        | cons r2 rr2 =>
          cases rr2
          cases r0
          cases r1
          cases r2
          rfl
  subst eu
  obtain ⟨it0, rv0, p0, _⟩ := I1.list hq0
  obtain ⟨it1, rv1, p1, _⟩ := I1.list hq1
  obtain ⟨it2, rv2, p2, _⟩ := I1.list hq2
  refine call_zs3 p0.isList p1.isList p2.isList fun hp hz hTI hTO i0 i1 i2 hsz hk => zs_iter hz ?_
  have I2 : Inv X pins σ H1 { s1 with heap := hp } := I1.kept (t' := s1.toks) hk
  refine ⟨s1.heap.objs.size + 5, [s1.heap.objs.size + 5, s1.heap.objs.size + 3, s1.heap.objs.size + 4, s1.heap.objs.size, s1.heap.objs.size + 1, s1.heap.objs.size + 2], _, _, H1, rfl, I2, turnS3 p0.lt p1.lt p2.lt, ⟨false, hz, hTI, ⟨_, rfl, hTO⟩, i0, i1, i2⟩, fun q hq => ?_, q⟩
  have e' : q = s1.heap.objs.size + 5 ∨ q = s1.heap.objs.size + 3 ∨ q = s1.heap.objs.size + 4 ∨ q = s1.heap.objs.size ∨ q = s1.heap.objs.size + 1 ∨ q = s1.heap.objs.size + 2 := by simpa using hq
  have hle : s1.heap.objs.size ≤ q := by
    rcases e' with r | r | r | r | r | r
    · rw [r]; exact Nat.le_add_right _ _
    · rw [r]; exact Nat.le_add_right _ _
    · rw [r]; exact Nat.le_add_right _ _
    · rw [r]; exact Nat.le_refl _
    · rw [r]; exact Nat.le_add_right _ _
    · rw [r]; exact Nat.le_add_right _ _
  exact I1.fpOk hle (I1.hok.fresh hle)
end AZ
end
section
set_option maxRecDepth 100000
set_option maxHeartbeats 4000000
namespace AW
open PySem PySem.Spec PyProof.Rows L2 Evl AH AP AZ
section
variable {K : PySem.W.Frag} {σ : L2.St} {H : Hp} {te : TE} {t : L2.TT}
theorem cw_new {H H' : Hp} {f : Nat → Bool} {v : Nat → V} {Dl T : Addr} {i : Nat} {o : HO} (p : Cw H f v Dl i H') (hT : H' T = none) : Cw H f v Dl i (upd H' T o) :=
  ⟨p.1, p.2.1.trans (Ex.new hT), by rw [upd_ne (ne_of_none p.2.2 hT)]; exact p.2.2⟩
/-- the steps of a comprehension whose turns lay a tuple ahead of the target -/
theorem el_lcT {wi : TI} {g : TG} {J : Hp → It} {n : Nat} {vs : List Nat} (f : Nat → Bool) (v : Nat → V)
    (hwi : ∀ H1, Ex H H1 → ∀ R : It → Hp → Prop, (∀ H2, Ex H1 H2 → R (J H2) H2) → wi σ H1 R) (hn : n ≤ 40000)
    (hstop : ∀ H1 H2, Ex H H1 → Ex H1 H2 → (J H1).stop n H2) (hgo : ∀ H1 H2 i, Ex H H1 → Ex H1 H2 → i < n → (J H1).go i H2)
    (hturn : ∀ H1 H2 i x H3, Ex H H1 → Ex H1 H2 → i < n → (J H1).yld i H2 x H3 → ∀ (Dl : Addr), Cw H1 f v Dl i H2 → g x (wipe σ vs) H3 fun σ2 H4 => wipe σ2 vs = wipe σ vs ∧ t σ2 H4 fun b H5 =>
      if b = true then te σ2 H5 fun y H6 => ∃ acc, H6 Dl = some (.lst acc) ∧ acc.length < sizeLine ∧ Cw H1 f v Dl (i + 1) (upd H6 Dl (.lst (acc ++ [y]))) else Cw H1 f v Dl (i + 1) H5) :
    EvL (tLc wi g t te vs) σ H (given n f v) := fun H0 e Q q => hwi H0 e _ fun H1 e1 Dl hD => by
  refine ⟨fun i m H' => m = n - i ∧ i ≤ n ∧ Cw H1 f v Dl i H', ⟨n, by simp, Nat.zero_le _, hD, Ex.new hD, upd_same⟩, ?_⟩
  rintro i m H' ⟨rfl, hi, p⟩
  by_cases hlt : i < n
  · refine .inr ⟨hgo H1 H' i (e.trans e1) p.2.1 hlt, Cw H1 f v Dl (i + 1), fun H'' p' => ⟨n - (i + 1), by omega, rfl, hlt, p'⟩, fun x H'' y => ?_⟩
    exact hturn H1 H' i x H'' (e.trans e1) p.2.1 hlt y Dl p
  · have ei : i = n := by omega
    subst ei
    exact .inl ⟨hstop H1 H' (e.trans e1) p.2.1, q Dl H' (fresh_back e1 p.1) (e1.trans p.2.1) p.2.2⟩
/-- over zip(xs, ys, strict=True) -/
theorem el_lcZ2 {a b : Addr} {xs ys : List V} {ta : TA} {j1 j2 : Nat} {vs : List Nat} (f : Nat → Bool) (v : Nat → V) (h : EvA ta σ H [.ref a, .ref b]) (hx : SqL K H a xs) (hy : SqL K H b ys) (hl : xs.length = ys.length) (hz : xs.length ≤ 40000)
    (hw : ∀ x y, wipe ((((wipe σ vs).set j1 (some x)).set j2 (some y))) vs = wipe σ vs) (ht : ∀ (i : Nat) (x y : V) H1, Ex H H1 → xs[i]? = some x → ys[i]? = some y → EvT t (((wipe σ vs).set j1 (some x)).set j2 (some y)) H1 (f i))
    (he : ∀ (i : Nat) (x y : V) H1, Ex H H1 → xs[i]? = some x → ys[i]? = some y → f i = true → Ev te (((wipe σ vs).set j1 (some x)).set j2 (some y)) H1 (v i)) :
    EvL (tLc (iZipS2 K ta) (gTup K 2 (gCons (gName j1) (gCons (gName j2) gNil))) t te vs) σ H (given xs.length f v) := by
  refine el_lcT (J := fun _ => ItS2 K a b) f v (fun H1 e R r => h H1 e _ fun H2 e2 => ⟨a, b, xs, ys, rfl, ex_l (e.trans e2) hx, ex_l (e.trans e2) hy, r H2 e2⟩) hz
    (fun H1 H2 e1 e2 => ⟨xs, ys, ex_l (e1.trans e2) hx, ex_l (e1.trans e2) hy, Nat.le_refl _, by omega⟩)
    (fun H1 H2 i e1 e2 hi => ⟨xs, ys, xs[i], ys[i], ex_l (e1.trans e2) hx, ex_l (e1.trans e2) hy, by simp [hi], by simp⟩) ?_
  rintro H1 H2 i x H3 e1 e2 hi ⟨T, x0, y0, rfl, hT, rfl, k1, k2⟩ Dl p
  have g1 := k1 xs (ex_l (e1.trans e2) hx)
  have g2 := k2 ys (ex_l (e1.trans e2) hy)
  refine ⟨T, [x0, y0], rfl, st_of upd_same, rfl, x0, [y0], rfl, y0, [], rfl, rfl, hw _ _, ?_⟩
  exact cw_turn (cw_new p hT) (by omega) (EvT.mono (H := H1) (Ex.refl H1) (ht i x0 y0 H1 e1 g1 g2)) fun hf => he i x0 y0 H1 e1 g1 g2 hf
theorem el_lcZ3 {a b d : Addr} {xs ys zs : List V} {ta : TA} {j1 j2 j3 : Nat} {vs : List Nat} (f : Nat → Bool) (v : Nat → V) (h : EvA ta σ H [.ref a, .ref b, .ref d]) (hx : SqL K H a xs) (hy : SqL K H b ys) (hd : SqL K H d zs) (hl : xs.length = ys.length) (hl2 : xs.length = zs.length) (hz : xs.length ≤ 40000)
    (hw : ∀ x y z, wipe ((((wipe σ vs).set j1 (some x)).set j2 (some y)).set j3 (some z)) vs = wipe σ vs) (ht : ∀ (i : Nat) (x y z : V) H1, Ex H H1 → xs[i]? = some x → ys[i]? = some y → zs[i]? = some z → EvT t ((((wipe σ vs).set j1 (some x)).set j2 (some y)).set j3 (some z)) H1 (f i))
    (he : ∀ (i : Nat) (x y z : V) H1, Ex H H1 → xs[i]? = some x → ys[i]? = some y → zs[i]? = some z → f i = true → Ev te ((((wipe σ vs).set j1 (some x)).set j2 (some y)).set j3 (some z)) H1 (v i)) :
    EvL (tLc (iZipS3 K ta) (gTup K 3 (gCons (gName j1) (gCons (gName j2) (gCons (gName j3) gNil)))) t te vs) σ H (given xs.length f v) := by
  refine el_lcT (J := fun _ => ItS3 K a b d) f v (fun H1 e R r => h H1 e _ fun H2 e2 => ⟨a, b, d, xs, ys, zs, rfl, ex_l (e.trans e2) hx, ex_l (e.trans e2) hy, ex_l (e.trans e2) hd, r H2 e2⟩) hz
    (fun H1 H2 e1 e2 => ⟨xs, ys, zs, ex_l (e1.trans e2) hx, ex_l (e1.trans e2) hy, ex_l (e1.trans e2) hd, Nat.le_refl _, by omega, by omega⟩)
    (fun H1 H2 i e1 e2 hi => ⟨xs, ys, zs, xs[i], ys[i], zs[i], ex_l (e1.trans e2) hx, ex_l (e1.trans e2) hy, ex_l (e1.trans e2) hd, by simp [hi], by simp, by simp⟩) ?_
  rintro H1 H2 i x H3 e1 e2 hi ⟨T, x0, y0, z0, rfl, hT, rfl, k1, k2, k3⟩ Dl p
  have g1 := k1 xs (ex_l (e1.trans e2) hx)
  have g2 := k2 ys (ex_l (e1.trans e2) hy)
  have g3 := k3 zs (ex_l (e1.trans e2) hd)
  refine ⟨T, [x0, y0, z0], rfl, st_of upd_same, rfl, x0, [y0, z0], rfl, y0, [z0], rfl, z0, [], rfl, rfl, hw _ _ _, ?_⟩
  exact cw_turn (cw_new p hT) (by omega) (ht i x0 y0 z0 H1 e1 g1 g2 g3) fun hf => he i x0 y0 z0 H1 e1 g1 g2 g3 hf
/-- over enumerate(xs) -/
theorem el_lcE {a : Addr} {xs : List V} {ta : TA} {j1 j2 : Nat} {vs : List Nat} (f : Nat → Bool) (v : Nat → V) (h : EvA ta σ H [.ref a]) (hx : SqL K H a xs) (hz : xs.length ≤ 40000)
    (hw : ∀ x y, wipe ((((wipe σ vs).set j1 (some x)).set j2 (some y))) vs = wipe σ vs) (ht : ∀ (i : Nat) (x : V) H1, Ex H H1 → xs[i]? = some x → EvT t (((wipe σ vs).set j1 (some (.int (i : Int)))).set j2 (some x)) H1 (f i))
    (he : ∀ (i : Nat) (x : V) H1, Ex H H1 → xs[i]? = some x → f i = true → Ev te (((wipe σ vs).set j1 (some (.int (i : Int)))).set j2 (some x)) H1 (v i)) :
    EvL (tLc (iEnum K ta) (gTup K 2 (gCons (gName j1) (gCons (gName j2) gNil))) t te vs) σ H (given xs.length f v) := by
  refine el_lcT (J := fun _ => Ite K a) f v (fun H1 e R r => h H1 e _ fun H2 e2 => ⟨a, xs, rfl, ex_l (e.trans e2) hx, r H2 e2⟩) hz
    (fun H1 H2 e1 e2 => ⟨xs, ex_l (e1.trans e2) hx, Nat.le_refl _⟩) (fun H1 H2 i e1 e2 hi => ⟨xs, xs[i], ex_l (e1.trans e2) hx, by simp [hi]⟩) ?_
  rintro H1 H2 i x H3 e1 e2 hi ⟨T, x0, rfl, hT, rfl, k1⟩ Dl p
  have g1 := k1 xs (ex_l (e1.trans e2) hx)
  refine ⟨T, [.int (i : Int), x0], rfl, st_of upd_same, rfl, .int (i : Int), [x0], rfl, x0, [], rfl, rfl, hw _ _, ?_⟩
  exact cw_turn (cw_new p hT) (by omega) (ht i x0 H1 e1 g1) fun hf => he i x0 H1 e1 g1 hf
theorem given_true (n : Nat) (v : Nat → V) : given n (fun _ => true) v = (List.range n).map v := by
  show ((List.range n).filter fun _ => true).map v = _
  rw [List.filter_eq_self.mpr (by simp)]
theorem zip_range (F : Int → Int → Int) {xs ys : List Int} (h : xs.length = ys.length) : (List.range xs.length).map (fun i => F (xs.getD i 0) (ys.getD i 0)) = List.zipWith F xs ys := by
  apply List.ext_getElem
  · simp [h]
  · intro i h1 h2
    simp at h1
    simp [h1, h ▸ h1]
/-- lists of ints: the least, its place -/
theorem flat_ints (ns : List Int) : (ns.map V.int).all flatV = true := by
  rw [List.all_eq_true]
  intro x hx
  obtain ⟨n, _, rfl⟩ := List.mem_map.mp hx
  rfl
theorem ev_minI {ta : TE} {a : Addr} {ns : List Int} (h : Ev ta σ H (.ref a)) (hs : SqL K H a (ns.map V.int)) (hn : ns ≠ []) : Ev (tCB (rMin K) (tCons ta tNil)) σ H (.int (minL ns)) := fun H1 e Q q =>
  h H1 e _ fun H2 e2 => ⟨a, ns, rfl, ex_l (e.trans e2) hs, List.length_pos_iff.mpr hn, fun m hm hle => by rw [min_uniq hm hle]; exact q H2 e2⟩
theorem ev_minNI {ta : TE} {ns : List Int} (h : EvL ta σ H (ns.map V.int)) (hn : ns ≠ []) : Ev (tCB (rMin K) (tCons ta tNil)) σ H (.int (minL ns)) := fun H1 e Q q =>
  h H1 e _ fun p H2 _ e2 hp => ⟨p, ns, rfl, sq_of hp, List.length_pos_iff.mpr hn, fun m hm hle => by rw [min_uniq hm hle]; exact q H2 e2⟩
theorem ev_indexI {ta tb : TE} {a : Addr} {ns : List Int} {m : Int} (h : Ev ta σ H (.ref a)) (h2 : Ev tb σ H (.int m)) (hs : SqL K H a (ns.map V.int)) (hm : m ∈ ns) : Ev (tBM K "list" (rIndex K) ta (tCons tb tNil)) σ H (.int (ix m ns : Nat)) := fun H1 e Q q => by
  obtain ⟨_, g2, g3⟩ := ix_spec hm
  refine h H1 e _ fun H2 e2 => ⟨Or.inl ⟨rfl, _, ex_l (e.trans e2) hs⟩, h2 H2 (e.trans e2) _ fun H3 e3 => ?_⟩
  refine ⟨a, ns.map V.int, .int m, ix m ns, .int m, rfl, rfl, ex_l ((e.trans e2).trans e3) hs, rfl, flat_ints ns, by rw [List.getElem?_map, g2] <;> rfl, by simp [eqV], fun j z hj hz => ?_, q H3 (e2.trans e3)⟩
  obtain ⟨n, q1, rfl, _, _⟩ := ix_ints hz
  have := g3 j n hj q1
  simp [eqV, this]
/-- x = l.pop(k) -/
theorem seqIx {k n : Nat} (h : k < n) : seqIndex? (k : Int) n = some k := by
  unfold seqIndex?
  simp
  omega
theorem pop_at {ta tb : TE} {l : Addr} {xs : List V} {k : Nat} {y : V} {Q : VK} (hl : H l = some (.lst xs)) (h : Ev ta σ H (.ref l)) (h2 : Ev tb σ H (.int (k : Int))) (hk : k < 100000) (hy : xs[k]? = some y)
    (q : ∀ H1, Ex H H1 → Q y (upd H1 l (.lst (xs.eraseIdx k)))) : tBM K "list" rPopAt ta (tCons tb tNil) σ H Q := h H (Ex.refl H) _ fun H1 e1 =>
  ⟨Or.inl ⟨rfl, xs, sq_of (e1 l _ hl)⟩, h2 H1 e1 _ fun H2 e2 => ⟨l, xs, (k : Int), k, y, rfl, rfl, (e1.trans e2) l _ hl, by omega, by omega, seqIx (List.getElem?_eq_some_iff.mp hy).1, hy, q H2 (e1.trans e2)⟩⟩
variable {D : Ends} {tz : TS}
/-- l.append(l2.pop(k)) -/
theorem q_appPop {ta tb tc : TE} {l l2 : Addr} {xs ys : List V} {k : Nat} {y : V} (hl : H l = some (.lst xs)) (h2 : H l2 = some (.lst ys)) (hne : l ≠ l2) (ha : Ev ta σ H (.ref l)) (hb : Ev tb σ H (.ref l2)) (hc : Ev tc σ H (.int (k : Int))) (hz : xs.length < 100000) (hk : k < 100000) (hy : ys[k]? = some y)
    (q : ∀ H1, Ex H H1 → tz D σ (upd (upd H1 l2 (.lst (ys.eraseIdx k))) l (.lst (xs ++ [y])))) : tSeq (tDrop (tBM K "list" rAppend ta (tCons (tBM K "list" rPopAt tb (tCons tc tNil)) tNil))) tz D σ H := ha H (Ex.refl H) _ fun H1 e1 =>
  ⟨Or.inl ⟨rfl, xs, sq_of (e1 l _ hl)⟩, pop_at (H := H1) (e1 l2 _ h2) (Ev.mono e1 hb) (Ev.mono e1 hc) hk hy fun H2 e2 => ⟨l, xs, y, rfl, rfl, by rw [upd_ne hne]; exact e2 l _ (e1 l _ hl), sz_lt hz, q H2 (e1.trans e2)⟩⟩
end
end AW
end
section
set_option maxRecDepth 100000
set_option maxHeartbeats 4000000
namespace AW
open PySem PySem.Spec PyProof.Rows L2 Evl AH AP AZ
section
variable {P : Program} {w : World} {K : PySem.W.Frag} {mg : Str → Option Value} {base : Heap} {k : Nat}
/-- a new tuple of two new lists of ints -/
def IsRow (v : V) (H : Hp) (xs ys : List Int) : Prop := ∃ t o n : Addr, v = .ref t ∧ H t = some (.tup [.ref o, .ref n]) ∧ H o = some (.lst (xs.map V.int)) ∧ H n = some (.lst (ys.map V.int))
theorem sc14 : FnScope ["places", "order", "numbers", "left", "sums", "at", "taken", "have", "place"] ["places"] (defScope (tp 14)) := ⟨rfl, rfl, rfl, by decide +kernel, rfl, by decide +kernel, by decide +kernel⟩
def sp14 : Sp := fun vs H Q _ => ∃ (a : Addr) (ps : List Int), vs = [.ref a] ∧ H a = some (.lst (ps.map V.int)) ∧ ps.length ≤ 64 ∧ ps.Nodup ∧ ∀ v H', Ex H H' → IsRow v H' (row ps).1 (row ps).2 → Q v H'
theorem ok14 (T : TopT K mg) (C_twos : Cal P w K mg base k "twos" ["number"] [] sp13) : Cal P w K mg base (k + 1) "good_row" ["places"] [] sp14 := by
  refine mkc (n := 14) T 5 5 sc14 (fun vs H Q E h => ?_) (fun _ _ _ _ _ _ us hl => match us, hl with | [_], _ => rfl) fun f cdv A outer s H E hr => ⟨_, (pss_cons (ps_asg (pe_tup (pa_cons (pe_lst pa_nil) (pa_cons (pe_lst pa_nil) (pa_cons (pe_callTy call_list_of (by rfl) T.f_list (by decide +kernel) (pa_cons (pv 0) pa_nil)) (pa_cons (pe_op op_rep (pe_lst (pa_cons pe_int pa_nil)) (pe_callB call_len_seq (by rfl) T.f_len (by decide +kernel) (pa_cons (pv 0) pa_nil))) pa_nil))))) (pg_tup rfl (pgs_cons (pg_name (i := 1) sc14.nd rfl (Or.inl rfl)) (pgs_cons (pg_name (i := 2) sc14.nd rfl (Or.inl rfl)) (pgs_cons (pg_name (i := 3) sc14.nd rfl (Or.inl rfl)) (pgs_cons (pg_name (i := 4) sc14.nd rfl (Or.inl rfl)) pgs_nil)))))) (pss_cons (ps_while PassesOwn.never (pt_cmpR (op_neD hr.units) (pv 3) (pe_lst pa_nil) (nomark _)) (pss_cons (ps_set (i := 5) sc14.nd rfl (Or.inl rfl) (pe_bm PySem.F.plainAttrs_list PySem.F.slot_list_index PySem.F.type_list_index mt_index (pv 4) (pa_cons (pe_callB (cr_min rfl) (by rfl) T.f_min (by decide +kernel) (pa_cons (pv 4) pa_nil)) pa_nil))) (pss_cons (ps_set (i := 6) sc14.nd rfl (Or.inr rfl) (pe_bm PySem.F.plainAttrs_list PySem.F.slot_list_pop PySem.F.type_list_pop mt_popAt (pv 3) (pa_cons (pv 5) pa_nil))) (pss_cons (ps_expr (pe_bm PySem.F.plainAttrs_list PySem.F.slot_list_append PySem.F.type_list_append mt_append (pv 1) (pa_cons (pv 6) pa_nil))) (pss_cons (ps_expr (pe_bm PySem.F.plainAttrs_list PySem.F.slot_list_append PySem.F.type_list_append mt_append (pv 2) (pa_cons (pe_bm PySem.F.plainAttrs_list PySem.F.slot_list_pop PySem.F.type_list_pop mt_popAt (pv 4) (pa_cons (pv 5) pa_nil)) pa_nil))) (pss_one (ps_setLc (i := 4) (own := [("have", 7), ("place", 8)]) (tt := tYes) rfl sc14.nd rfl rfl (sw_true rfl rfl rfl (by decide +kernel)) (pi_zipS2 (by rfl) T.f_zip (pa_cons (pv 4) (pa_cons (pv 3) pa_nil))) (blkOk_by (own := [("have", 7), ("place", 8)]) (N := ["places", "order", "numbers", "left", "sums", "at", "taken", "have", "place"]) (sc := defScope (tp 14)) (by decide +kernel)) (fun _ _ _ _ _ => (pg_tupK (K := K) (n := 2) rfl rfl (pgs_cons (pg_name (i := 7) sc14.nd rfl (Or.inl rfl)) (pgs_cons (pg_name (i := 8) sc14.nd rfl (Or.inl rfl)) pgs_nil)))) (fun _ _ _ _ _ => pts_nil) (fun _ _ _ _ _ => (pe_op op_add (pv 7) (pcall C_twos hr (pa_cons (pe_op op_sub (pv 8) (pv 6)) pa_nil))))))))))) (pss_one (ps_ret (pe_tup (pa_cons (pv 1) (pa_cons (pv 2) pa_nil))))))), fun vs Q h => ?_⟩
  · obtain ⟨a, ps, rfl, _⟩ := h
    rfl
  · obtain ⟨a, ps, rfl, ha, hz, hnd, q⟩ := h
    -- order, numbers, left, sums = [], [], list(places), [0] * len(places)
    refine ⟨Nat.zero_le _, fun o no => ⟨Nat.zero_le _, fun n nn => ⟨.ref a, rfl, a, ps.map V.int, rfl, .inl (ex_l ((Ex.new no).trans (Ex.new nn)) (sq_of ha)), fun l nl => ?_⟩⟩⟩
    have e3 : Ex H (upd (upd (upd H o (.lst [])) n (.lst [])) l (.lst (ps.map V.int))) := ((Ex.new no).trans (Ex.new nn)).trans (Ex.new nl)
    refine ⟨(by show 1 ≤ sizeLine; decide), fun z nz => ?_⟩
    have e4 := e3.trans (Ex.new (o := .lst [.int 0]) nz)
    refine ⟨.ref a, rfl, a, ps.map V.int, rfl, .inl (ex_l e4 (sq_of ha)), z, _, [.int 0], rfl, rfl, upd_same, (by rw [List.length_map]; omega), (by rw [List.length_map]; omega), (by simp; exact Nat.le_trans hz (by decide)), fun s0 ns => ?_⟩
    refine ⟨(by show 4 ≤ sizeLine; decide), fun t nt => ?_⟩
    have hno : o ≠ n := fun e => by rw [← e, upd_same] at nn; cases nn
    have hol : o ≠ l := fun e => by rw [← e, upd_ne hno, upd_same] at nl; cases nl
    have hnl : n ≠ l := fun e => by rw [← e, upd_same] at nl; cases nl
    have hos : o ≠ s0 := fun e => by
      subst e
      by_cases hoz : o = z
      · rw [hoz, upd_same] at ns; cases ns
      · rw [upd_ne hoz, upd_ne hol, upd_ne hno, upd_same] at ns; cases ns
    have hns : n ≠ s0 := fun e => by
      subst e
      by_cases hoz : n = z
      · rw [hoz, upd_same] at ns; cases ns
      · rw [upd_ne hoz, upd_ne hnl, upd_same] at ns; cases ns
    have hls : l ≠ s0 := fun e => by
      subst e
      by_cases hoz : l = z
      · rw [hoz, upd_same] at ns; cases ns
      · rw [upd_ne hoz, upd_same] at ns; cases ns
    have nn' : H n = none := fresh_back (Ex.new no) nn
    have nl' : H l = none := fresh_back ((Ex.new no).trans (Ex.new nn)) nl
    have ns' : H s0 = none := fresh_back e4 ns
    have e5 := e4.trans (Ex.new (o := .lst (List.replicate ((ps.map V.int).length : Int).toNat [V.int 0]).flatten) ns)
    have e6 := e5.trans (Ex.new (o := .tup [.ref o, .ref n, .ref l, .ref s0]) nt)
    refine ⟨t, _, rfl, st_of upd_same, rfl, .ref o, _, rfl, .ref n, _, rfl, .ref l, _, rfl, .ref s0, _, rfl, rfl, ?_⟩
    generalize hH0 : upd (upd (upd (upd (upd (upd H o (.lst [])) n (.lst [])) l (.lst (ps.map V.int))) z (.lst [.int 0])) s0 (.lst (List.replicate ((ps.map V.int).length : Int).toNat [V.int 0]).flatten)) t (.tup [.ref o, .ref n, .ref l, .ref s0]) = H0 at e6
    have hrep : (List.replicate ((ps.map V.int).length : Int).toNat [V.int 0]).flatten = (List.replicate ps.length (0 : Int)).map V.int := by
      simp
    have gt : ∀ (b : Addr) (u : HO), (upd (upd (upd (upd (upd H o (.lst [])) n (.lst [])) l (.lst (ps.map V.int))) z (.lst [.int 0])) s0 (.lst (List.replicate ((ps.map V.int).length : Int).toNat [V.int 0]).flatten)) b = some u → H0 b = some u := fun b u h => by
      rw [← hH0]
      exact Ex.new nt b u h
    have gz : ∀ (b : Addr) (u : HO), (upd (upd (upd H o (.lst [])) n (.lst [])) l (.lst (ps.map V.int))) b = some u → H0 b = some u := fun b u h => gt b u (Ex.new ns b u (Ex.new nz b u h))
    have g1 : H0 o = some (.lst (([] : List Int).map V.int)) := gz _ _ (by rw [upd_ne hol, upd_ne hno, upd_same] <;> rfl)
    have g2 : H0 n = some (.lst (([] : List Int).map V.int)) := gz _ _ (by rw [upd_ne hnl, upd_same] <;> rfl)
    have g3 : H0 l = some (.lst (ps.map V.int)) := gz _ _ upd_same
    have g4 : H0 s0 = some (.lst ((List.replicate ps.length (0 : Int)).map V.int)) := gt _ _ (by rw [upd_same, hrep])
    -- the loop
    refine q_while (fun m σ' H' => ∃ (su : Addr) (od nm lf sm : List Int) (y5 y6 y7 y8 : Option V), σ' = [some (.ref a), some (.ref o), some (.ref n), some (.ref l), some (.ref su), y5, y6, y7, y8] ∧ H su = none ∧ o ≠ su ∧ n ≠ su ∧ l ≠ su ∧
      H' o = some (.lst (od.map V.int)) ∧ H' n = some (.lst (nm.map V.int)) ∧ H' l = some (.lst (lf.map V.int)) ∧ H' su = some (.lst (sm.map V.int)) ∧ Ex H H' ∧ lf.length = m ∧ sm.length = m ∧ m ≤ 64 ∧ od.length ≤ 64 ∧ nm.length ≤ 64 ∧ od.length + m = ps.length ∧ nm.length + m = ps.length ∧ lf.Nodup ∧
      od ++ (gr m lf sm).1 = (row ps).1 ∧ nm ++ (gr m lf sm).2 = (row ps).2) ps.length
      ⟨s0, [], [], ps, _, none, none, none, none, rfl, ns', hos, hns, hls, g1, g2, g3, g4, e6, rfl, by simp, hz, by simp, by simp, by simp, by simp, hnd, rfl, rfl⟩ ?_
    rintro m σ' H' ⟨su, od, nm, lf, sm, y5, y6, y7, y8, rfl, fs, d1, d2, d3, h1, h2, h3, h4, e, l1, l2, m64, od64, nm64, odl, nml, nd, r1, r2⟩
    refine ⟨!decide (lf = []), et_test (ev_opL (ev_var rfl) (el_lst ea_nil (by decide)) fun p1 H1 q1 e1 => rv_neI (K := K) (ns := lf) (ms := []) (sq_of (e1 l _ h3)) (sq_of q1)), fun hb H1 e1 => ?_, fun hb H1 e1 => ?_⟩
    · -- a turn
      have hne : lf ≠ [] := fun z => by simp [z] at hb
      obtain ⟨m, rfl⟩ : ∃ m', m = m' + 1 := ⟨m - 1, by have := List.length_pos_iff.mpr hne; omega⟩
      have hsne : sm ≠ [] := fun z => by rw [z] at l2; simp at l2
      have hmm := min_mem hsne
      obtain ⟨i1, i2, _⟩ := ix_spec hmm
      generalize hi : ix (minL sm) sm = i at i1 i2
      have il : i < lf.length := by omega
      have hlf : lf[i]? = some (lf.getD i 0) := by rw [List.getD_eq_getElem?_getD, List.getElem?_eq_getElem il] <;> rfl
      have hsm : sm[i]? = some (sm.getD i 0) := by rw [List.getD_eq_getElem?_getD, i2] <;> rfl
      generalize hta : lf.getD i 0 = ta at hlf
      refine ⟨fun σ2 H2 => ∃ m', m' < m + 1 ∧ _, fun σ2 H2 h => h, ?_⟩
      refine q_asg (v := .int (i : Int)) (by rw [← hi]; exact ev_indexI (K := K) (ev_var rfl) (ev_minI (K := K) (ev_var rfl) (sq_of (e1 su _ h4)) hsne) (sq_of (e1 su _ h4)) hmm) fun H2 e2 => ?_
      have e12 := e1.trans e2
      -- taken = left.pop(at)
      refine pop_at (H := H2) (y := .int ta) (e12 l _ h3) (ev_var rfl) (ev_var rfl) (by omega) (by rw [List.getElem?_map, hlf] <;> rfl) fun H3 e3 => ?_
      have f3 := e12.trans e3
      -- order.append(taken)
      refine q_app (K := K) (l := o) (xs := od.map V.int) (v := .int ta) (by rw [upd_ne hol]; exact f3 o _ h1) (ev_var rfl) (ev_var rfl) (by simp; omega) fun H4 e4 => ?_
      -- numbers.append(sums.pop(at))
      have s4 : H4 su = some (.lst (sm.map V.int)) := e4 _ _ (by rw [upd_ne (Ne.symm d3)]; exact f3 su _ h4)
      have n4 : H4 n = some (.lst (nm.map V.int)) := e4 _ _ (by rw [upd_ne hnl]; exact f3 n _ h2)
      have l4 : H4 l = some (.lst ((lf.map V.int).eraseIdx i)) := e4 _ _ upd_same
      refine q_appPop (K := K) (y := .int (sm.getD i 0)) (l := n) (l2 := su) (k := i) (xs := nm.map V.int) (ys := sm.map V.int) (by rw [upd_ne (Ne.symm hno)]; exact n4) (by rw [upd_ne (Ne.symm d1)]; exact s4) d2 (ev_var rfl) (ev_var rfl) (ev_var rfl) (by simp; omega) (by omega) (by rw [List.getElem?_map, hsm] <;> rfl) fun H6 e6 => ?_
      -- sums = [..]
      have k1 : ∀ b u, b ≠ n → b ≠ su → b ≠ o → H4 b = some u → (upd (upd H6 su (.lst ((sm.map V.int).eraseIdx i))) n (.lst (nm.map V.int ++ [.int (sm.getD i 0)]))) b = some u := fun b u b1 b2 b3 hb' => by
        rw [upd_ne b1, upd_ne b2]
        exact e6 b u (by rw [upd_ne b3]; exact hb')
      have ol : (upd (upd H6 su (.lst ((sm.map V.int).eraseIdx i))) n (.lst (nm.map V.int ++ [.int (sm.getD i 0)]))) o = some (.lst (od.map V.int ++ [.int ta])) := by
        rw [upd_ne hno, upd_ne d1]
        exact e6 o _ upd_same
      have sl : (upd (upd H6 su (.lst ((sm.map V.int).eraseIdx i))) n (.lst (nm.map V.int ++ [.int (sm.getD i 0)]))) su = some (.lst ((sm.eraseIdx i).map V.int)) := by
        rw [upd_ne (Ne.symm d2), upd_same]
        rw [map_erase]
      have ll : (upd (upd H6 su (.lst ((sm.map V.int).eraseIdx i))) n (.lst (nm.map V.int ++ [.int (sm.getD i 0)]))) l = some (.lst ((lf.eraseIdx i).map V.int)) := by
        have := k1 l _ (Ne.symm hnl) d3 (Ne.symm hol) l4
        rw [this]
        rw [map_erase]
      have hx7 : Ex H (upd (upd H6 su (.lst ((sm.map V.int).eraseIdx i))) n (.lst (nm.map V.int ++ [.int (sm.getD i 0)]))) := by
        refine Ex.mut (Ex.mut ?_ fs) nn'
        refine Ex.trans (Ex.mut (p := o) (o := .lst (od.map V.int ++ [.int ta])) ?_ no) e6
        exact Ex.trans (Ex.mut (p := l) (e.trans f3) nl') e4
      generalize hH7 : (upd (upd H6 su (.lst ((sm.map V.int).eraseIdx i))) n (.lst (nm.map V.int ++ [.int (sm.getD i 0)]))) = H7 at ol sl ll hx7
      have nl7 : H7 n = some (.lst (nm.map V.int ++ [.int (sm.getD i 0)])) := by rw [← hH7]; exact upd_same
      have lle : (lf.eraseIdx i).length = m := by rw [List.length_eraseIdx]; split <;> omega
      have sle : (sm.eraseIdx i).length = m := by rw [List.length_eraseIdx]; split <;> omega
      have hnot : ∀ z ∈ lf.eraseIdx i, z - ta ≠ 0 := fun z hz => by
        have hp := erase_perm hlf
        have hn2 : (ta :: lf.eraseIdx i).Nodup := hp.nodup_iff.mpr nd
        have : ta ∉ lf.eraseIdx i := (List.nodup_cons.mp hn2).1
        intro e
        exact this (by have : z = ta := by omega
                       rwa [← this])
      refine s_asgL (xs := given ((sm.eraseIdx i).map V.int).length (fun _ => true) (fun j => .int ((sm.eraseIdx i).getD j 0 + (v2 ((lf.eraseIdx i).getD j 0 - ta) : Nat)))) (el_lcZ2 (K := K) _ _ (ea_cons (ev_var rfl) (ea_cons (ev_var rfl) ea_nil)) (sq_of sl) (sq_of ll) (by simp [lle, sle]) (by simp; omega) (fun _ _ => rfl) (fun j x y H8 e8 hj1 hj2 => et_yes) (fun j x y H8 e8 hj1 hj2 _ => ?_)) fun p H8 np e8 hp => ?_
      · obtain ⟨u1, _, rfl, _, c1⟩ := ix_ints hj1
        obtain ⟨u2, _, rfl, hm2, c2⟩ := ix_ints hj2
        rw [c1, c2]
        exact ev_op (ev_var rfl) (ev_call (ea_cons (ev_op (ev_var rfl) (ev_var rfl) rv_I0) ea_nil) fun H9 e9 Q q E => ⟨u2 - ta, rfl, hnot _ hm2, q⟩) rv_I0
      · have hpn : H p = none := fresh_back hx7 np
        refine ⟨m, by omega, p, od ++ [ta], nm ++ [sm.getD i 0], lf.eraseIdx i, List.zipWith (fun h p => h + (v2 (p - ta) : Int)) (sm.eraseIdx i) (lf.eraseIdx i), some (.int (i : Int)), some (.int ta), y7, y8, ?_, hpn, fun z => ?_, fun z => ?_, fun z => ?_, ?_, ?_, e8 l _ ll, ?_, hx7.trans e8, lle, ?_, by omega, ?_, ?_, ?_, ?_, ?_, ?_, ?_⟩
        · rfl
        · rw [← z, ol] at np; cases np
        · rw [← z, nl7] at np; cases np
        · rw [← z, ll] at np; cases np
        · rw [e8 o _ ol]; simp
        · rw [e8 n _ nl7]; simp
        · rw [hp, given_true]
          congr 1
          rw [← zip_range (fun h p => h + (v2 (p - ta) : Int)) (by omega), List.map_map, List.length_map]
          rfl
        · simp [lle, sle]
        · simp; omega
        · simp; omega
        · simp; omega
        · simp; omega
        · exact ((erase_perm hlf).nodup_iff.mpr nd).of_cons
        · rw [← r1, List.append_assoc]
          show od ++ (ta :: _) = od ++ (lf.getD (ix (minL sm) sm) 0 :: _)
          rw [hi, hta]
          rfl
        · rw [← r2, List.append_assoc]
          show nm ++ (sm.getD i 0 :: _) = nm ++ (sm.getD (ix (minL sm) sm) 0 :: _)
          rw [hi, hta]
          rfl
    · -- the end
      have hne : lf = [] := by simpa using hb
      subst hne
      have hm : m = 0 := by simpa using l1.symm
      subst hm
      refine s_retU (eu_tup (ea_cons (ev_var rfl) (ea_cons (ev_var rfl) ea_nil)) (show 2 ≤ 100000 by decide)) fun p H2 np e2 hp => ?_
      refine q _ H2 ((e.trans e1).trans e2) ⟨p, o, n, rfl, hp, ?_, ?_⟩
      · rw [e2 o _ (e1 o _ h1), ← r1]
        simp [gr]
      · rw [e2 n _ (e1 n _ h2), ← r2]
        simp [gr]
end
end AW
end
section
set_option maxRecDepth 100000
set_option maxHeartbeats 4000000
namespace AW
open PySem PySem.Spec PyProof.Rows L2 Evl AH AP AZ
/-- a list of ints stands there -/
def IsIL (ns : List Int) (v : V) (H : Hp) : Prop := ∃ p, v = .ref p ∧ H p = some (.lst (ns.map V.int))
theorem IsIL.mono {ns : List Int} {v : V} {H H' : Hp} (h : IsIL ns v H) (e : Ex H H') : IsIL ns v H' := let ⟨p, a, b⟩ := h; ⟨p, a, e p _ b⟩
section
variable {P : Program} {w : World} {K : PySem.W.Frag} {mg : Str → Option Value} {base : Heap} {k : Nat}
section
variable {σ : L2.St} {H : Hp} {te : TE}
theorem ev_sumNI {ns : List Int} (h : EvL te σ H (ns.map V.int)) : Ev (tCB (rSum K) (tCons te tNil)) σ H (.int ns.sum) := fun H1 e Q q => h H1 e _ fun p H2 np e2 hp => ⟨p, ns, rfl, sq_of hp, q H2 e2⟩
theorem el_is {xs ys : List V} (h : EvL te σ H xs) (e : xs = ys) : EvL te σ H ys := e ▸ h
theorem evp_row {a : Addr} {ps : List Int} (h : Ev te σ H (.ref a)) (ha : H a = some (.lst (ps.map V.int))) (hz : ps.length ≤ 64) (hn : ps.Nodup) : EvP (tCall sp14 [] E0 (tCons te tNil)) σ H fun v H' => IsRow v H' (row ps).1 (row ps).2 :=
  evp_callA (ea_cons h ea_nil) fun H1 e Q q E => ⟨a, ps, rfl, e a _ ha, hz, hn, q⟩
theorem evp_rowN {a : Addr} {ps : List Int} (h : Ev te σ H (.ref a)) (ha : H a = some (.lst (ps.map V.int))) (hz : ps.length ≤ 64) (hn : ps.Nodup) : EvP (tOp (rIxT K) (tCall sp14 [] E0 (tCons te tNil)) (tC (.int 1))) σ H (IsIL (row ps).2) :=
  evp_op (evp_row h ha hz hn) fun x H1 e1 r => Ev.p ev_c fun H2 e2 H3 e3 Q q => by
    obtain ⟨t, o, n, rfl, h1, h2, h3⟩ := r
    have e := e2.trans e3
    exact ⟨t, _, 1, .ref n, rfl, rfl, st_of (e t _ h1), atI_nat (j := 1) rfl, q _ H3 (Ex.refl _) ⟨n, rfl, e n _ h3⟩⟩
end
/-! ### odd_undone, value_at -/
theorem sc48 : FnScope ["number", "by", "found", "_"] ["number", "by"] (defScope (tp 48)) := ⟨rfl, rfl, rfl, by decide +kernel, rfl, by decide +kernel, by decide +kernel⟩
def sp48 : Sp := fun vs H Q _ => ∃ n b : Int, vs = [.int n, .int b] ∧ n.natAbs < 2 ^ 6000 ∧ 0 < b ∧ b ≤ 2 ^ 64 ∧ ∀ H', Ex H H' → Q (.int (oddU n b)) H'
theorem ok48 (T : TopT K mg) : Cal P w K mg base (k + 1) "odd_undone" ["number", "by"] [] sp48 := by
  refine mkc (n := 48) T 31 31 sc48 (fun vs H Q E h => ?_) (fun _ _ _ _ _ _ us hl => match us, hl with | [_, _], _ => rfl) fun f cdv A outer s H E hr => ⟨_, (pss_cons (ps_set (i := 2) sc48.nd rfl (Or.inl rfl) pe_int) (pss_cons (ps_for PassesOwn.never rfl (pi_range1 (by rfl) T.f_range (pa_cons pe_int pa_nil)) (pg_name (i := 3) sc48.nd rfl (Or.inl rfl)) (pss_one (ps_set (i := 2) sc48.nd rfl (Or.inl rfl) (pe_op op_mod (pe_op op_mulW (pv 2) (pe_op op_sub pe_int (pe_op op_mulW (pv 0) (pv 2)))) (pv 1))))) (pss_one (ps_ret (pv 2))))), fun vs Q h => ?_⟩
  · obtain ⟨n, b, rfl, _⟩ := h
    rfl
  · obtain ⟨n, b, rfl, hn, hb, hb2, q⟩ := h
    refine q_asg ev_c fun H1 e1 => ?_
    refine q_forR1 (ea_cons ev_c ea_nil) (by decide) (fun i σ' H' => ∃ (f : Int) (y : Option V), σ' = [some (.int n), some (.int b), some (.int f), y] ∧ 0 ≤ f ∧ f ≤ 2 ^ 64 ∧ f = (List.range i).foldl (fun f _ => f * (2 - n * f) % b) 1 ∧ Ex H H')
      (fun H2 e2 => ⟨1, none, rfl, by decide, by decide, rfl, e1.trans e2⟩) (fun i σ' H' hi h => ?_) (fun σ' H' h => ?_)
    · obtain ⟨f, y, rfl, h0, h1, hf, e2⟩ := h
      have hfn : f.natAbs < 2 ^ 65 := by
        have : (2 : Nat) ^ 65 = 36893488147419103232 := by decide
        omega
      have hp : (n * f).natAbs < 2 ^ (6000 + 65) := wide_lt hn hfn
      have hq : (2 - n * f).natAbs < 2 ^ 6066 := by
        have e : (2 : Nat) ^ 6066 = 2 * 2 ^ 6065 := by rw [Nat.pow_succ, Nat.mul_comm]
        have : (2 : Nat) ≤ 2 ^ 6065 := Nat.le_trans (by decide : 2 ≤ 2 ^ 1) (Nat.pow_le_pow_right (by decide) (by decide))
        omega
      refine s_asg (ev_op (ev_op (ev_var rfl) (ev_op ev_c (ev_op (ev_var rfl) (ev_var rfl) (rv_I (wide_mul hn hfn (by decide) (by decide) (by decide)))) rv_I0) (rv_I (wide_mul hfn hq (by decide) (by decide) (by decide)))) (ev_var rfl) (rv_I hb)) fun H2 e3 => ?_
      refine ⟨f * (2 - n * f) % b, some (.int (i : Int)), rfl, Int.emod_nonneg _ (by omega), ?_, ?_, e2.trans e3⟩
      · have := Int.emod_lt_of_pos (f * (2 - n * f)) hb
        omega
      · rw [List.range_succ, List.foldl_append, ← hf]
        rfl
    · obtain ⟨f, y, rfl, h0, h1, hf, e2⟩ := h
      refine s_ret (ev_var rfl) fun H2 e3 => ?_
      have := q H2 (e2.trans e3)
      rwa [show oddU n b = f from hf.symm] at this
theorem sc50 : FnScope ["order", "items", "place", "at", "item"] ["order", "items", "place"] (defScope (tp 50)) := ⟨rfl, rfl, rfl, by decide +kernel, rfl, by decide +kernel, by decide +kernel⟩
def sp50 : Sp := fun vs H Q _ => ∃ (a b : Addr) (od it : List Int) (x : Int), vs = [.ref a, .ref b, .int x] ∧ H a = some (.lst (od.map V.int)) ∧ H b = some (.lst (it.map V.int)) ∧ od.length ≤ 64 ∧ it.length ≤ 64 ∧ x.natAbs < 2 ^ 64 ∧ (∀ z ∈ od, z.natAbs < 2 ^ 64) ∧ (∀ z ∈ it, z.natAbs < 2 ^ 65) ∧
  ∀ H', Ex H H' → Q (.int (valAt od it x)) H'
theorem ok50 (T : TopT K mg) (C_product_at : Cal P w K mg base k "product_at" ["order", "many", "number"] [] sp15) : Cal P w K mg base (k + 1) "value_at" ["order", "items", "place"] [] sp50 := by
  refine mkc (n := 50) T 33 33 sc50 (fun vs H Q E h => ?_) (fun _ _ _ _ _ _ us hl => match us, hl with | [_, _, _], _ => rfl) fun f cdv A outer s H E hr => ⟨_, (pss_one (ps_ret (pe_callB (cr_sum rfl) (by rfl) T.f_sum (by decide +kernel) (pa_cons (pe_lc (own := [("at", 3), ("item", 4)]) (tt := tYes) rfl sc50.nd (pi_enum (by rfl) T.f_enumerate (pa_cons (pv 1) pa_nil)) (blkOk_by (own := [("at", 3), ("item", 4)]) (N := ["order", "items", "place", "at", "item"]) (sc := defScope (tp 50)) (by decide +kernel)) (fun _ _ _ _ _ => (pg_tupK (K := K) (n := 2) rfl rfl (pgs_cons (pg_name (i := 3) sc50.nd rfl (Or.inl rfl)) (pgs_cons (pg_name (i := 4) sc50.nd rfl (Or.inl rfl)) pgs_nil)))) (fun _ _ _ _ _ => pts_nil) (fun _ _ _ _ _ => (pe_op op_mulW (pv 4) (pcall C_product_at hr (pa_cons (pv 0) (pa_cons (pv 3) (pa_cons (pv 2) pa_nil))))))) pa_nil)))), fun vs Q h => ?_⟩
  · obtain ⟨a, b, od, it, x, rfl, _⟩ := h
    rfl
  · obtain ⟨a, b, od, it, x, rfl, ha, hb, l1, l2, hx, ho, hi, q⟩ := h
    refine s_ret (v := .int (valAt od it x)) (ev_sumNI (ns := (List.range it.length).map fun i => it.getD i 0 * prodAt (od.take i) x) (el_is (el_lcE (fun _ => true) (fun i => V.int (it.getD i 0 * prodAt (od.take i) x)) (ea_cons (ev_var rfl) ea_nil) (sq_of hb) (by simp; omega) (fun _ _ => rfl) (fun _ _ _ _ _ => et_yes) (fun i v H1 e1 hv _ => by
        obtain ⟨n, _, rfl, hm, hd⟩ := ix_ints hv
        rw [hd]
        have hp : (prodAt (od.take i) x).natAbs < 2 ^ (1 + (64 + 1) * 64) := by
          have := prodAt_bound hx (l := od.take i) (fun b hb => ho b (List.mem_of_mem_take hb)) 1 1 (by decide)
          refine Nat.lt_of_lt_of_le this (Nat.pow_le_pow_right (by decide) ?_)
          have : (od.take i).length ≤ 64 := by simp; omega
          omega
        exact ev_op (ev_var rfl) (ev_call (ea_cons (ev_var rfl) (ea_cons (ev_var rfl) (ea_cons (ev_var rfl) ea_nil))) fun H2 e2 Q q E => ⟨a, od, i, x, rfl, e2 a _ (e1 a _ ha), l1, hx, ho, q⟩) (rv_I (wide_mul (hi n hm) hp (by decide) (by decide) (by decide))))) (by rw [given_true, List.length_map, List.map_map]; rfl))) q
theorem sc52 : FnScope ["width", "places", "count"] ["width", "places", "count"] (defScope (tp 52)) := ⟨rfl, rfl, rfl, by decide +kernel, rfl, by decide +kernel, by decide +kernel⟩
def sp52 : Sp := fun vs H Q _ => ∃ (w : Int) (a : Addr) (ps : List Int) (c : Nat), vs = [.int w, .ref a, .int (c : Int)] ∧ H a = some (.lst (ps.map V.int)) ∧ ps.length ≤ 64 ∧ ps.Nodup ∧ ∀ H', Ex H H' → Q (.int (kc w (row ps).2 c : Nat)) H'
theorem ok52 (T : TopT K mg) (C_items_counted : Cal P w K mg base k "items_counted" ["width", "numbers", "count"] [] sp16) (C_good_row : Cal P w K mg base k "good_row" ["places"] [] sp14) : Cal P w K mg base (k + 1) "items_counted_at" ["width", "places", "count"] [] sp52 := by
  refine mkc (n := 52) T 35 35 sc52 (fun vs H Q E h => ?_) (fun _ _ _ _ _ _ us hl => match us, hl with | [_, _, _], _ => rfl) fun f cdv A outer s H E hr => ⟨_, (pss_one (ps_ret (pcall C_items_counted hr (pa_cons (pv 0) (pa_cons (pe_ix ix_tup (pcall C_good_row hr (pa_cons (pv 1) pa_nil)) pe_int (fun _ _ => rfl)) (pa_cons (pv 2) pa_nil)))))), fun vs Q h => ?_⟩
  · obtain ⟨v, a, ps, c, rfl, _⟩ := h
    rfl
  · obtain ⟨v, a, ps, c, rfl, ha, hz, hn, q⟩ := h
    refine s_retP (R := fun u _ => u = .int (kc v (row ps).2 c : Nat)) (evp_call (RA := fun vs H' => ∃ n : Addr, vs = [.int v, .ref n, .int (c : Int)] ∧ H' n = some (.lst ((row ps).2.map V.int))) (eap_cons (R := fun u _ => u = .int v) (Ev.p (ev_var rfl) fun _ _ => rfl) fun u1 H1 e1 r1 => eap_cons (evp_rowN (ev_var rfl) (e1 a _ ha) hz hn) fun u2 H2 e2 r2 => eap_cons (R := fun u _ => u = .int (c : Int)) (Ev.p (ev_var rfl) fun _ _ => rfl) fun u3 H3 e3 r3 =>
      eap_nil fun H4 e4 => ?_) fun vs H1 e1 r => ?_) fun u H1 e1 r => by rw [r]; exact q H1 e1
    · obtain ⟨n, rfl, hn2⟩ := r2
      exact ⟨n, by rw [r1, r3], e4 n _ (e3 n _ hn2)⟩
    · obtain ⟨n, rfl, hn2⟩ := r
      exact fun H2 e2 Q q E => ⟨v, n, _, c, rfl, e2 n _ hn2, by rw [(row_spec ps).2.1]; exact hz, fun H3 e3 => q _ H3 e3 rfl⟩
theorem sc35 : FnScope ["width", "places", "count"] ["width", "places", "count"] (defScope (tp 35)) := ⟨rfl, rfl, rfl, by decide +kernel, rfl, by decide +kernel, by decide +kernel⟩
theorem ok35 (T : TopT K mg) (C_items_counted : Cal P w K mg base k "items_counted" ["width", "numbers", "count"] [] sp16) (C_good_row : Cal P w K mg base k "good_row" ["places"] [] sp14) : Cal P w K mg base (k + 1) "items_of_code" ["width", "places", "count"] [] sp52 := by
  refine mkc (n := 35) T 22 22 sc35 (fun vs H Q E h => ?_) (fun _ _ _ _ _ _ us hl => match us, hl with | [_, _, _], _ => rfl) fun f cdv A outer s H E hr => ⟨_, (pss_one (ps_ret (pcall C_items_counted hr (pa_cons (pv 0) (pa_cons (pe_ix ix_tup (pcall C_good_row hr (pa_cons (pv 1) pa_nil)) pe_int (fun _ _ => rfl)) (pa_cons (pv 2) pa_nil)))))), fun vs Q h => ?_⟩
  · obtain ⟨v, a, ps, c, rfl, _⟩ := h
    rfl
  · obtain ⟨v, a, ps, c, rfl, ha, hz, hn, q⟩ := h
    refine s_retP (R := fun u _ => u = .int (kc v (row ps).2 c : Nat)) (evp_call (RA := fun vs H' => ∃ n : Addr, vs = [.int v, .ref n, .int (c : Int)] ∧ H' n = some (.lst ((row ps).2.map V.int))) (eap_cons (R := fun u _ => u = .int v) (Ev.p (ev_var rfl) fun _ _ => rfl) fun u1 H1 e1 r1 => eap_cons (evp_rowN (ev_var rfl) (e1 a _ ha) hz hn) fun u2 H2 e2 r2 => eap_cons (R := fun u _ => u = .int (c : Int)) (Ev.p (ev_var rfl) fun _ _ => rfl) fun u3 H3 e3 r3 =>
      eap_nil fun H4 e4 => ?_) fun vs H1 e1 r => ?_) fun u H1 e1 r => by rw [r]; exact q H1 e1
    · obtain ⟨n, rfl, hn2⟩ := r2
      exact ⟨n, by rw [r1, r3], e4 n _ (e3 n _ hn2)⟩
    · obtain ⟨n, rfl, hn2⟩ := r
      exact fun H2 e2 Q q E => ⟨v, n, _, c, rfl, e2 n _ hn2, by rw [(row_spec ps).2.1]; exact hz, fun H3 e3 => q _ H3 e3 rfl⟩
end
end AW
end
section
set_option maxRecDepth 100000
set_option maxHeartbeats 4000000
namespace AW
open PySem PySem.Spec PyProof.Rows L2 Evl AH AP AZ
def optI : Option Nat → V
  | none => .non
  | some n => .int (n : Int)
theorem find_range {p : Nat → Bool} {i m : Nat} (hi : i < m) (h0 : (List.range i).find? p = none) (h : p i = true) : (List.range m).find? p = some i := by
  obtain ⟨d, rfl⟩ : ∃ d, m = (i + 1) + d := ⟨m - (i + 1), by omega⟩
  rw [List.range_add, List.range_succ, List.find?_append, List.find?_append, h0]
  simp [h]
theorem find_range1 {p : Nat → Bool} {i : Nat} (h0 : (List.range i).find? p = none) (h : p i = false) : (List.range (i + 1)).find? p = none := by
  rw [List.range_succ, List.find?_append, h0]
  simp [h]
section
variable {P : Program} {w : World} {K : PySem.W.Frag} {mg : Str → Option Value} {base : Heap} {k : Nat}
section
variable {σ : L2.St} {H : Hp} {te : TE} {D : Ends} {tz : TS}
theorem q_par {i j : Nat} {ta : TA} {R : V → V → Hp → Prop} (h : EvAP ta σ H fun vs H' => ∃ x y, vs = [x, y] ∧ R x y H') (k : ∀ x y H1, Ex H H1 → R x y H1 → tz D ((σ.set i (some x)).set j (some y)) H1) : tSeq (tPar i j ta) tz D σ H :=
  h H (Ex.refl H) _ fun vs H1 e ⟨x, y, e1, r⟩ => ⟨x, y, e1, k x y H1 e r⟩
theorem evp_tup {ta : TA} {RA : List V → Hp → Prop} {R : V → Hp → Prop} (h : EvAP ta σ H RA) (hr : ∀ vs H1, Ex H H1 → RA vs H1 → vs.length ≤ 100000 ∧ ∀ p, H1 p = none → R (.ref p) (upd H1 p (.tup vs))) : EvP (tTup ta) σ H R := fun H1 e Q q =>
  h H1 e _ fun vs H2 e2 r => ⟨sz_of (hr vs H2 (e.trans e2) r).1, fun p np => q _ _ (e2.trans (Ex.new np)) ((hr vs H2 (e.trans e2) r).2 p np)⟩
theorem q_unp2 {i j : Nat} {R : V → V → Hp → Prop} (h : EvP te σ H fun v H' => ∃ t x y, v = .ref t ∧ H' t = some (.tup [x, y]) ∧ R x y H') (k : ∀ x y H1, Ex H H1 → R x y H1 → tz D ((σ.set i (some x)).set j (some y)) H1) : tSeq (tAsg te (gTup K 2 (gCons (gName i) (gCons (gName j) gNil)))) tz D σ H :=
  h H (Ex.refl H) _ fun v H1 e ⟨t, x, y, e1, h1, r⟩ => ⟨t, [x, y], e1, st_of h1, rfl, x, [y], rfl, y, [], rfl, rfl, k x y H1 e r⟩
end
theorem sc36 : FnScope ["places", "part", "many", "numbers", "others", "item"] ["places", "part", "many"] (defScope (tp 36)) := ⟨rfl, rfl, rfl, by decide +kernel, rfl, by decide +kernel, by decide +kernel⟩
def sp36 : Sp := fun vs H Q _ => ∃ (a b : Addr) (ps qs : List Int) (m : Nat), vs = [.ref a, .ref b, .int (m : Int)] ∧ H a = some (.lst (ps.map V.int)) ∧ H b = some (.lst (qs.map V.int)) ∧ ps.length ≤ 64 ∧ qs.length ≤ 64 ∧ ps.Nodup ∧ qs.Nodup ∧ m ≤ ps.length ∧
  ∀ H', Ex H H' → Q (optI (lack (row ps).2 (row qs).2 m)) H'
theorem ok36 (T : TopT K mg) (C_good_row : Cal P w K mg base k "good_row" ["places"] [] sp14) : Cal P w K mg base (k + 1) "lacking_item" ["places", "part", "many"] [] sp36 := by
  refine mkc (n := 36) T 23 23 sc36 (fun vs H Q E h => ?_) (fun _ _ _ _ _ _ us hl => match us, hl with | [_, _, _], _ => rfl) fun f cdv A outer s H E hr => ⟨_, (pss_cons (ps_par (i := 3) (j := 4) rfl sc36.nd rfl rfl (by decide) rfl rfl (pa_cons (pe_ix ix_tup (pcall C_good_row hr (pa_cons (pv 0) pa_nil)) pe_int (fun _ _ => rfl)) (pa_cons (pe_ix ix_tup (pcall C_good_row hr (pa_cons (pv 1) pa_nil)) pe_int (fun _ _ => rfl)) pa_nil)) (by rfl)) (pss_cons (ps_for PassesOwn.never rfl (pi_range1 (by rfl) T.f_range (pa_cons (pv 2) pa_nil)) (pg_name (i := 5) sc36.nd rfl (Or.inl rfl)) (pss_one (ps_if (PW.pt (pw_or (pt_cmpR op_ge (pv 5) (pe_callB call_len_seq (by rfl) T.f_len (by decide +kernel) (pa_cons (pv 4) pa_nil)) (nomark _)) (pw_or1 (pt_cmpR op_gt (pe_ix ix_list (pv 4) (pv 5) (fun _ _ => rfl)) (pe_ix ix_list (pv 3) (pv 5) (fun _ _ => rfl)) (nomark _))))) (pss_one (ps_ret (pv 5))) pss_nil))) (pss_one (ps_ret pe_non)))), fun vs Q h => ?_⟩
  · obtain ⟨a, b, ps, qs, m, rfl, _⟩ := h
    rfl
  · obtain ⟨a, b, ps, qs, m, rfl, ha, hb, l1, l2, n1, n2, hm, q⟩ := h
    refine q_par (R := fun x y H' => IsIL (row ps).2 x H' ∧ IsIL (row qs).2 y H') (eap_cons (evp_rowN (ev_var rfl) ha l1 n1) fun u1 H1 e1 r1 => eap_cons (evp_rowN (ev_var rfl) (e1 b _ hb) l2 n2) fun u2 H2 e2 r2 => eap_nil fun H3 e3 => ⟨u1, u2, rfl, (r1.mono e2).mono e3, r2.mono e3⟩) fun x y H1 e1 r => ?_
    obtain ⟨⟨p1, rfl, h1⟩, ⟨p2, rfl, h2⟩⟩ := r
    have L1 := (row_spec ps).2.1
    have L2 := (row_spec qs).2.1
    refine q_forR1 (ea_cons (ev_var rfl) ea_nil) (by omega) (fun i σ' H' => ∃ y, σ' = [some (.ref a), some (.ref b), some (.int (m : Int)), some (.ref p1), some (.ref p2), y] ∧ lack (row ps).2 (row qs).2 i = none ∧ Ex H1 H')
      (fun H2 e2 => ⟨none, rfl, rfl, e2⟩) (fun i σ' H' hi h => ?_) (fun σ' H' h => ?_)
    · obtain ⟨y, rfl, hl, e2⟩ := h
      refine s_when (b := decide ((row qs).2.length ≤ i) || decide ((row ps).2.getD i 0 < (row qs).2.getD i 0)) (et_or (et_is (et_test (ev_op (ev_var rfl) (ev_lenI (ev_var rfl) (sq_of (e2 p2 _ h2))) rv_I0)) ?_) fun hf => et_is (et_test (ev_op (ev_op (ev_var rfl) (ev_var rfl) (rv_ixL (sq_of (e2 p2 _ h2)) (at_ints (by simp at hf; omega)))) (ev_op (ev_var rfl) (ev_var rfl) (rv_ixL (sq_of (e2 p1 _ h1)) (at_ints (by omega)))) rv_I0)) ?_) (fun hb H2 e3 => ?_) (fun hb H2 e3 => ?_)
      · exact decide_eq_decide.mpr (by omega)
      · exact decide_eq_decide.mpr (by omega)
      · refine s_ret (ev_var rfl) fun H3 e4 => ?_
        have := q H3 (e1.trans (e2.trans (e3.trans e4)))
        rwa [show lack (row ps).2 (row qs).2 m = some i from find_range (by omega) hl hb] at this
      · exact ⟨_, rfl, find_range1 hl hb, e2.trans e3⟩
    · obtain ⟨y, rfl, hl, e2⟩ := h
      refine s_ret ev_c fun H3 e4 => ?_
      have := q H3 (e1.trans (e2.trans e4))
      rwa [show lack (row ps).2 (row qs).2 m = none from hl] at this
theorem sc37 : FnScope ["width", "places", "part", "item", "order", "numbers", "steps", "by", "place"] ["width", "places", "part", "item"] (defScope (tp 37)) := ⟨rfl, rfl, rfl, by decide +kernel, rfl, by decide +kernel, by decide +kernel⟩
def sp37 : Sp := fun vs H Q _ => ∃ (n : Nat) (a b : Addr) (ps qs : List Int) (m : Nat), vs = [.int (n : Int), .ref a, .ref b, .int (m : Int)] ∧ n ≤ 64 ∧ H a = some (.lst (ps.map V.int)) ∧ H b = some (.lst (qs.map V.int)) ∧ ps.length ≤ 64 ∧ qs.length ≤ 64 ∧ qs.Nodup ∧ (∀ z ∈ ps, z.natAbs < 2 ^ 64) ∧ (∀ z ∈ qs, z.natAbs < 2 ^ 64) ∧
  ∀ p H', H p = none → Ex H H' → H' p = some (.lst ((hid n ps qs m).map V.int)) → Q (.ref p) H'
theorem ok37 (T : TopT K mg) (C_good_row : Cal P w K mg base k "good_row" ["places"] [] sp14) (C_power_of_two : Cal P w K mg base k "power_of_two" ["many"] [] sp12) (C_product_at : Cal P w K mg base k "product_at" ["order", "many", "number"] [] sp15) : Cal P w K mg base (k + 1) "hidden_word" ["width", "places", "part", "item"] [] sp37 := by
  refine mkc (n := 37) T 24 24 sc37 (fun vs H Q E h => ?_) (fun _ _ _ _ _ _ us hl => match us, hl with | [_, _, _, _], _ => rfl) fun f cdv A outer s H E hr => ⟨_, (pss_cons (ps_asg (pcall C_good_row hr (pa_cons (pv 2) pa_nil)) (pg_tup rfl (pgs_cons (pg_name (i := 4) sc37.nd rfl (Or.inr rfl)) (pgs_cons (pg_name (i := 5) sc37.nd rfl (Or.inl rfl)) pgs_nil)))) (pss_cons (ps_set (i := 6) sc37.nd rfl (Or.inr rfl) (pe_ifExp (pt_cmpR op_lt (pv 3) (pe_callB call_len_seq (by rfl) T.f_len (by decide +kernel) (pa_cons (pv 4) pa_nil)) (nomark _)) (pe_op op_sub (pv 0) (pe_callB (call_min2 rfl) (by rfl) T.f_min (by decide +kernel) (pa_cons (pv 0) (pa_cons (pe_ix ix_list (pv 5) (pv 3) (fun _ _ => rfl)) pa_nil)))) pe_int)) (pss_cons (ps_set (i := 7) sc37.nd rfl (Or.inr rfl) (pcall C_power_of_two hr (pa_cons (pv 0) pa_nil))) (pss_one (ps_ret (pe_lc (own := [("place", 8)]) (g := gName 8) (tt := tYes) rfl sc37.nd (pi_list (pv 1)) (blkOk_by (own := [("place", 8)]) (N := ["width", "places", "part", "item", "order", "numbers", "steps", "by", "place"]) (sc := defScope (tp 37)) (by decide +kernel)) (fun _ _ _ _ _ => (pg_name (i := 8) sc37.nd rfl (Or.inl rfl))) (fun _ _ _ _ _ => pts_nil) (fun _ _ _ _ _ => (pe_op op_mod (pe_op op_mulW (pcall C_product_at hr (pa_cons (pv 4) (pa_cons (pv 3) (pa_cons (pv 8) pa_nil)))) (pcall C_power_of_two hr (pa_cons (pv 6) pa_nil))) (pv 7))))))))), fun vs Q h => ?_⟩
  · obtain ⟨n, a, b, ps, qs, m, rfl, _⟩ := h
    rfl
  · obtain ⟨n, a, b, ps, qs, m, rfl, hn, ha, hb, l1, l2, n2, b1, b2, q⟩ := h
    refine q_unp2 (R := fun x y H' => IsIL (row qs).1 x H' ∧ IsIL (row qs).2 y H') ((evp_row (ev_var rfl) hb l2 n2).imp fun v H1 _ r => ?_) fun x y H1 e1 r => ?_
    · obtain ⟨t, o, n, rfl, h1, h2, h3⟩ := r
      exact ⟨t, _, _, rfl, h1, ⟨o, rfl, h2⟩, ⟨n, rfl, h3⟩⟩
    obtain ⟨⟨p1, rfl, h1⟩, ⟨p2, rfl, h2⟩⟩ := r
    obtain ⟨S0, S1, S2⟩ := row_spec qs
    have L0 := S0.length_eq
    have hst : ∃ st : Nat, st ≤ 64 ∧ (if m < qs.length then (n : Int) - (if (row qs).2.getD m 0 < (n : Int) then (row qs).2.getD m 0 else (n : Int)) else 0) = (st : Int) ∧ st = (if m < qs.length then ((n : Int) - (if (row qs).2.getD m 0 < (n : Int) then (row qs).2.getD m 0 else (n : Int))).toNat else 0) := by
      refine ⟨_, ?_, ?_, rfl⟩
      · split
        · rename_i c
          obtain ⟨x, _, hx, _⟩ := S2 m c
          have : (row qs).2.getD m 0 = ((tw ((row qs).1.take m) x : Nat) : Int) := by rw [List.getD_eq_getElem?_getD, hx] <;> rfl
          rw [this]
          split <;> omega
        · omega
      · split
        · split <;> omega
        · rfl
    obtain ⟨st, s1, s2, s3⟩ := hst
    refine q_asg (v := .int (st : Int)) (ev_is (ev_if (v := .int (if m < qs.length then (n : Int) - (if (row qs).2.getD m 0 < (n : Int) then (row qs).2.getD m 0 else (n : Int)) else 0)) (b := decide (m < qs.length)) (et_is (et_test (ev_op (ev_var rfl) (ev_lenI (ev_var rfl) (sq_of h1)) rv_I0)) ?_) (fun hc => ?_) (fun hc => ?_)) (by rw [s2])) fun H2 e2 => ?_
    · exact decide_eq_decide.mpr (by omega)
    · have hc := of_decide_eq_true hc
      rw [if_pos hc]
      exact ev_op (ev_var rfl) (ev_cb (z := .int (if (row qs).2.getD m 0 < (n : Int) then (row qs).2.getD m 0 else (n : Int))) (ea_cons (ev_var rfl) (ea_cons (ev_op (ev_var rfl) (ev_var rfl) (rv_ixL (sq_of h2) (at_ints (by omega)))) ea_nil)) fun H1 e Q q => ⟨_, _, rfl, q H1 (Ex.refl H1)⟩) rv_I0
    · have hc := of_decide_eq_false hc
      rw [if_neg hc]
      exact ev_c
    refine q_asg (v := .int (2 ^ n)) (ev_call (ea_cons (ev_var rfl) ea_nil) fun H3 e3 Q q E => ⟨n, rfl, by omega, q⟩) fun H3 e3 => ?_
    have e123 := e1.trans (e2.trans e3)
    refine s_retL (el_lcI (fun _ => true) (fun x => .int (prodAt ((row qs).1.take m) x * 2 ^ st % 2 ^ n)) (ev_var rfl) (sq_of (e123 a _ ha)) (by omega) (fun _ => rfl) (fun _ _ _ _ => et_yes) (fun z H4 e4 hz _ => ?_)) fun p H4 np e4 hp => ?_
    · have hpr : (prodAt ((row qs).1.take m) z).natAbs < 2 ^ (1 + (64 + 1) * 64) := by
        have := prodAt_bound (b1 z hz) (l := (row qs).1.take m) (fun b hb => b2 b (S0.mem_iff.mp (List.mem_of_mem_take hb))) 1 1 (by decide)
        refine Nat.lt_of_lt_of_le this (Nat.pow_le_pow_right (by decide) ?_)
        have : ((row qs).1.take m).length ≤ 64 := by simp; omega
        omega
      have hp2 : ((2 : Int) ^ st).natAbs < 2 ^ (st + 1) := by
        rw [Int.natAbs_pow]
        exact Nat.pow_lt_pow_right (by decide) (by omega)
      exact ev_op (ev_op (ev_call (ea_cons (ev_var rfl) (ea_cons (ev_var rfl) (ea_cons (ev_var rfl) ea_nil))) fun H5 e5 Q q E => ⟨p1, (row qs).1, m, z, rfl, e5 p1 _ (e4 p1 _ ((e2.trans e3) p1 _ h1)), by omega, b1 z hz, (fun b hb => b2 b (S0.mem_iff.mp hb)), q⟩)
        (ev_call (ea_cons (ev_var rfl) ea_nil) fun H5 e5 Q q E => ⟨st, rfl, by omega, q⟩) (rv_I (wide_mul hpr hp2 (by decide) (by omega) (by omega)))) (ev_var rfl) (rv_I (Int.pow_pos (by decide)))
    · refine q p H4 (fresh_back e123 np) (e123.trans e4) ?_
      rw [hp, List.filter_eq_self.mpr (fun _ _ => rfl)]
      unfold hid
      rw [← s3, List.map_map]
      rfl
theorem sc58 : FnScope ["places"] ["places"] (defScope (tp 58)) := ⟨rfl, rfl, rfl, by decide +kernel, rfl, by decide +kernel, by decide +kernel⟩
def sp58 : Sp := fun vs H Q _ => ∃ (a : Addr) (ps : List Int), vs = [.ref a] ∧ H a = some (.lst (ps.map V.int)) ∧ ps ≠ [] ∧ ∀ H', Ex H H' → Q (.bl (decide (ps.getD (ps.length - 1) 0 - ps.getD 0 0 = (ps.length : Int) - 1))) H'
theorem at_last {ns : List Int} (h : ns ≠ []) : atI (ns.map V.int) (-1) = some (.int (ns.getD (ns.length - 1) 0)) := by
  have := List.length_pos_iff.mpr h
  unfold atI ixN
  rw [List.length_map, if_neg (by decide), if_pos (by omega)]
  show (ns.map V.int)[((-1 : Int) + (ns.length : Int)).toNat]? = _
  rw [show ((-1 : Int) + (ns.length : Int)).toNat = ns.length - 1 by omega, List.getElem?_map, List.getElem?_eq_getElem (by omega), List.getD_eq_getElem?_getD, List.getElem?_eq_getElem (by omega)]
  rfl
theorem ok58 (T : TopT K mg) : Cal P w K mg base (k + 1) "are_neighbours" ["places"] [] sp58 := by
  refine mkc (n := 58) T 39 39 sc58 (fun vs H Q E h => ?_) (fun _ _ _ _ _ _ us hl => match us, hl with | [_], _ => rfl) fun f cdv A outer s H E hr => ⟨_, (pss_one (ps_ret (pe_cmpR op_eq (pe_op op_sub (pe_ix ix_list (pv 0) (pe_un un_neg pe_int) (fun _ _ => rfl)) (pe_ix ix_list (pv 0) pe_int (fun _ _ => rfl))) (pe_op op_sub (pe_callB call_len_seq (by rfl) T.f_len (by decide +kernel) (pa_cons (pv 0) pa_nil)) pe_int) (nomark _)))), fun vs Q h => ?_⟩
  · obtain ⟨a, ps, rfl, _⟩ := h
    rfl
  · obtain ⟨a, ps, rfl, ha, hne, q⟩ := h
    have := List.length_pos_iff.mpr hne
    refine s_ret (ev_is (ev_op (ev_op (ev_op (ev_var rfl) (ev_un ev_c ru_neg) (rv_ixL (sq_of ha) (at_last hne))) (ev_op (ev_var rfl) ev_c (rv_ixL (sq_of ha) (at_ints (i := 0) this))) rv_I0) (ev_op (ev_lenI (ev_var rfl) (sq_of ha)) ev_c rv_I0) (rv_eq rfl)) ?_) q
    simp
theorem sc59 : FnScope ["words", "others", "one", "other"] ["words", "others"] (defScope (tp 59)) := ⟨rfl, rfl, rfl, by decide +kernel, rfl, by decide +kernel, by decide +kernel⟩
def sp59 : Sp := fun vs H Q _ => ∃ (a b : Addr) (xs ys : List Int), vs = [.ref a, .ref b] ∧ H a = some (.lst (xs.map V.int)) ∧ H b = some (.lst (ys.map V.int)) ∧ xs.length = ys.length ∧ xs.length ≤ 64 ∧ ∀ H', Ex H H' → Q (.int (dif xs ys : Nat)) H'
theorem ok59 (T : TopT K mg) : Cal P w K mg base (k + 1) "unlike_count" ["words", "others"] [] sp59 := by
  refine mkc (n := 59) T 40 40 sc59 (fun vs H Q E h => ?_) (fun _ _ _ _ _ _ us hl => match us, hl with | [_, _], _ => rfl) fun f cdv A outer s H E hr => ⟨_, (pss_one (ps_ret (pe_callB call_len_seq (by rfl) T.f_len (by decide +kernel) (pa_cons (pe_lc (own := [("one", 2), ("other", 3)]) rfl sc59.nd (pi_zipS2 (by rfl) T.f_zip (pa_cons (pv 0) (pa_cons (pv 1) pa_nil))) (blkOk_by (own := [("one", 2), ("other", 3)]) (N := ["words", "others", "one", "other"]) (sc := defScope (tp 59)) (by decide +kernel)) (fun _ _ _ _ _ => (pg_tupK (K := K) (n := 2) rfl rfl (pgs_cons (pg_name (i := 2) sc59.nd rfl (Or.inl rfl)) (pgs_cons (pg_name (i := 3) sc59.nd rfl (Or.inl rfl)) pgs_nil)))) (fun _ _ _ _ _ => pts_one (pt_cmpR op_ne (pv 2) (pv 3) (nomark _))) (fun _ _ _ _ _ => pe_int)) pa_nil)))), fun vs Q h => ?_⟩
  · obtain ⟨a, b, xs, ys, rfl, _⟩ := h
    rfl
  · obtain ⟨a, b, xs, ys, rfl, ha, hb, hl, hz, q⟩ := h
    refine s_ret (ev_is (ev_lenN (el_lcZ2 (fun i => !decide (xs.getD i 0 = ys.getD i 0)) (fun _ => .int 1) (ea_cons (ev_var rfl) (ea_cons (ev_var rfl) ea_nil)) (sq_of ha) (sq_of hb) (by simp [hl]) (by simp; omega) (fun _ _ => rfl) (fun i x y H1 e1 hx hy => ?_) (fun _ _ _ _ _ _ _ _ => ev_c))) ?_) q
    · obtain ⟨x, _, rfl, _, hx⟩ := ix_ints hx
      obtain ⟨y, _, rfl, _, hy⟩ := ix_ints hy
      rw [hx, hy]
      exact et_is (et_test (ev_op (ev_var rfl) (ev_var rfl) (rv_ne rfl))) (by simp)
    · unfold given dif
      rw [List.length_map, List.length_map]
theorem sc27 : FnScope ["places", "level", "even", "place"] ["places", "level"] (defScope (tp 27)) := ⟨rfl, rfl, rfl, by decide +kernel, rfl, by decide +kernel, by decide +kernel⟩
/-- a new tuple of two new lists -/
def IsTwo (xs ys : List Int) (v : V) (H : Hp) : Prop := ∃ t o n : Addr, v = .ref t ∧ H t = some (.tup [.ref o, .ref n]) ∧ H o = some (.lst (xs.map V.int)) ∧ H n = some (.lst (ys.map V.int))
def sp27 : Sp := fun vs H Q _ => ∃ (a : Addr) (ps : List Int) (l : Nat), vs = [.ref a, .int (l : Int)] ∧ H a = some (.lst (ps.map V.int)) ∧ ps.length ≤ 64 ∧ l ≤ 1000 ∧ ∀ v H', Ex H H' → IsTwo (evens ps l) (odds ps l) v H' → Q v H'
theorem ok27 (T : TopT K mg) : Cal P w K mg base (k + 1) "halves" ["places", "level"] [] sp27 := by
  refine mkc (n := 27) T 16 16 sc27 (fun vs H Q E h => ?_) (fun _ _ _ _ _ _ us hl => match us, hl with | [_, _], _ => rfl) fun f cdv A outer s H E hr => ⟨_, (pss_cons (ps_setLc (i := 2) (own := [("place", 3)]) (g := gName 3) rfl sc27.nd rfl rfl (sw_true rfl rfl rfl (by decide +kernel)) (pi_list (pv 0)) (blkOk_by (own := [("place", 3)]) (N := ["places", "level", "even", "place"]) (sc := defScope (tp 27)) (by decide +kernel)) (fun _ _ _ _ _ => (pg_name (i := 3) sc27.nd rfl (Or.inl rfl))) (fun _ _ _ _ _ => pts_one (pt_cmpR op_eq (pe_op op_mod (pe_op op_shr (pv 3) (pv 1)) pe_int) pe_int (nomark _))) (fun _ _ _ _ _ => (pv 3))) (pss_one (ps_ret (pe_tup (pa_cons (pv 2) (pa_cons (pe_lc (own := [("place", 3)]) (g := gName 3) rfl sc27.nd (pi_list (pv 0)) (blkOk_by (own := [("place", 3)]) (N := ["places", "level", "even", "place"]) (sc := defScope (tp 27)) (by decide +kernel)) (fun _ _ _ _ _ => (pg_name (i := 3) sc27.nd rfl (Or.inl rfl))) (fun _ _ _ _ _ => pts_one (pt_cmpR op_eq (pe_op op_mod (pe_op op_shr (pv 3) (pv 1)) pe_int) pe_int (nomark _))) (fun _ _ _ _ _ => (pv 3))) pa_nil)))))), fun vs Q h => ?_⟩
  · obtain ⟨a, ps, l, rfl, _⟩ := h
    rfl
  · obtain ⟨a, ps, l, rfl, ha, hz, hl, q⟩ := h
    refine q_asgL (xs := (evens ps l).map V.int) (el_lcI (fun p => decide (p / 2 ^ l % 2 = 0)) V.int (ev_var rfl) (sq_of ha) (by omega) (fun _ => rfl) (fun z H1 e1 hz => et_is (et_test (ev_op (ev_op (ev_op (ev_var rfl) (ev_var rfl) (rv_I (by omega))) ev_c (rv_I (by decide))) ev_c (rv_eq rfl))) (by simp)) (fun z H1 e1 hz _ => ev_var rfl)) fun p1 H1 np e1 hp => ?_
    refine s_retP (R := IsTwo (evens ps l) (odds ps l)) (evp_tup (RA := fun vs H' => ∃ o n : Addr, vs = [.ref o, .ref n] ∧ H' o = some (.lst ((evens ps l).map V.int)) ∧ H' n = some (.lst ((odds ps l).map V.int))) (eap_cons (R := fun v H' => v = .ref p1) (Ev.p (ev_var rfl) fun _ _ => rfl) fun u1 H2 e2 r1 => eap_cons
      (R := IsIL (odds ps l)) (EvL.p (el_lcI (fun p => decide (p / 2 ^ l % 2 = 1)) V.int (ev_var rfl) (sq_of (e2 a _ (e1 a _ ha))) (by omega) (fun _ => rfl) (fun z H1 e1 hz => et_is (et_test (ev_op (ev_op (ev_op (ev_var rfl) (ev_var rfl) (rv_I (by omega))) ev_c (rv_I (by decide))) ev_c (rv_eq rfl))) (by simp)) (fun z H1 e1 hz _ => ev_var rfl)) fun p H3 _ hp _ => ⟨p, rfl, hp⟩) fun u2 H3 e3 r2 => eap_nil fun H4 e4 => ?_) fun vs H2 e2 r => ?_) fun v H2 e2 r => q v H2 (e1.trans e2) r
    · obtain ⟨n, rfl, hn⟩ := r2
      exact ⟨p1, n, by rw [r1], e4 p1 _ (e3 p1 _ (e2 p1 _ hp)), e4 n _ hn⟩
    · obtain ⟨o, n, rfl, ho, hn⟩ := r
      exact ⟨by show 2 ≤ 100000; decide, fun t nt => ⟨t, o, n, rfl, upd_same, Ex.new nt o _ ho, Ex.new nt n _ hn⟩⟩
end
end AW
end
section
set_option maxRecDepth 100000
set_option maxHeartbeats 4000000
namespace AM
open PySem PySem.Spec PyProof.Rows L2
section
variable {X : Cx} {pins : List (Addr × Obj)} {σ : L2.St} {H : Hp} {s : Shared}
/-- all but the frame's own object is kept, and the frame's names -/
theorem inv_names {h' : Heap} {t' : Nat} (I : Inv X pins σ H s) (k : ∀ b o, b ≠ X.env.locals → s.heap.get? b = some o → h'.get? b = some o) (ns : ∀ m, s.heap.Ns X.env.locals m → h'.Ns X.env.locals m) : Inv X pins σ H { s with heap := h', toks := t' } := by
  refine I.step (g' := s.gens) (d' := s.drawn) (ch := []) (fun _ z => nomatch z) (fun b o n _ _ e _ => k b o n e) (fun b o n _ _ e _ => ⟨o.slots, k b o n e⟩) (fun b o _ e n => n) (fun b o _ e => ?_) (fun b xs e => e) (fun b o u e => e) (fun b ps e => ⟨#[], by simpa using e⟩) ns (fun b ob e => ?_) I.bare
  · by_cases hb : b = X.env.locals
    · obtain ⟨m, hn, _⟩ := I.loc
      obtain ⟨o', _, _, e', _⟩ := ns m hn
      exact ⟨o', hb ▸ e'⟩
    · exact ⟨o, k b o hb e⟩
  · refine (I.hok b ob e).stay (fun c u hc q => k c u (fun z => ?_) q) (fun _ q => q) fun _ _ q => q
    subst z
    rcases hc with rfl | hc
    · rw [I.free] at e; cases e
    · rw [I.free] at hc; cases hc
/-- lists of ints stand at the refs -/
def AreL (K : PySem.W.Frag) (H : Hp) (ys : List V) (ls : List (List Int)) : Prop := ys.length = ls.length ∧ ∀ (i : Nat) (y : V) (l : List Int), ys[i]? = some y → ls[i]? = some l → ∃ p, y = .ref p ∧ SqL K H p (l.map V.int)
/-- min(xs, key=len) of lists of ints -/
def rMinLen (K : PySem.W.Frag) : List V → Hp → VK → Prop := fun vs H Q => ∃ (a : Addr) (ys : List V) (ls : List (List Int)), vs = [V.ref a] ∧ SqL K H a ys ∧ AreL K H ys ls ∧ 0 < ys.length ∧
  ∀ (i : Nat) (y : V) (l : List Int), ys[i]? = some y → ls[i]? = some l → (∀ (j : Nat) (l' : List Int), ls[j]? = some l' → l.length ≤ l'.length ∧ (j < i → l.length < l'.length)) → Q y H
theorem min_len {Q : VK} {vs : List V} {us : List Value} (I : Inv X pins σ H s) (hc : X.calm = true) (r : Vals vs us) (h : rMinLen X.K vs H Q) :
    wpAny (model X.prog X.w) X.A (call (.builtin "min") us [(Str.ofString "key", .builtin "len")]) (EP X pins σ Q) X.xe s := by
  obtain ⟨a, ys, ls, rfl, hs, ⟨hl, hy⟩, hne, q⟩ := h
  obtain ⟨its, rv, pl, hz⟩ := I.list hs
  rw [Vals.ref1 r]
  obtain ⟨m, F⟩ := I.fr
  have line := line63
  have hN : News X.base X.env.locals s.heap (allNews X.base s.heap X.env.locals) := news_all
  have all : ∀ h' m', Fr X.base X.env.locals h' m' → News X.base X.env.locals h' (allNews X.base s.heap X.env.locals) → ∀ b o, b ≠ X.env.locals → s.heap.get? b = some o → h'.get? b = some o := fun h' m' F' N' b o hb e => by
    cases g : X.base.get? b with
    | some u =>
      have := I.bk b u g
      rw [e] at this; cases this
      exact F'.keep b _ g
    | none => exact (N' (b, o) (mem_allNews hb g e)).1
  have keepI : ∀ h' tk, Fr X.base X.env.locals h' m → News X.base X.env.locals h' (allNews X.base s.heap X.env.locals) → Inv X pins σ H { s with heap := h', toks := tk } := fun h' tk F' N' =>
    inv_names I (all h' m F' N') fun m' hm => by
      rw [SlX.ns_only hm F.ns]
      exact F'.ns
  refine kmb_min (fun i => (((ls.getD i []).length : Nat) : Int)) (m := m) (news := allNews X.base s.heap X.env.locals) (vs := its) (I.ok.hd hc) F hN (fun h' F' N' => ?_) (by rw [← rv.length]; exact hne) (fun i v hv h' tk own F' N' => ?_) (fun i v h' tk hv hb F' N' => ?_)
  · obtain ⟨its', rv', pl', _⟩ := (keepI h' s.toks F' N').list hs
    have hk := all h' m F' N'
    obtain ⟨o, ho, hx⟩ := pl.isList
    refine ⟨o, hk a o (fun z => ?_) ho, hx⟩
    subst z
    obtain ⟨_, _, _, e1, e2, _⟩ := F.ns
    rw [ho] at e1
    cases e1
    obtain ⟨_, n, hd⟩ := hx
    rw [e2] at hd
    cases hd
  · have I' := keepI h' tk F' fun p hp => N' p (List.mem_append_left _ hp)
    obtain ⟨hi, hv'⟩ := List.getElem?_eq_some_iff.mp hv
    have e1 := rv.length
    obtain ⟨u, hu, ru⟩ := rv.get (i := i) (x := ys[i]'(by omega)) (List.getElem?_eq_getElem (by omega))
    rw [hv] at hu
    cases hu
    have hli : ls[i]? = some (ls.getD i []) := by rw [List.getD_eq_getElem?_getD, List.getElem?_eq_getElem (by omega)] <;> rfl
    obtain ⟨p, ey, hp⟩ := hy i _ _ (List.getElem?_eq_getElem (by omega)) hli
    rw [ey] at ru
    obtain rfl : v = Value.ref p := ru
    obtain ⟨its', rv', pl', hz'⟩ := I'.list hp
    have e2 := rv'.length
    rw [List.length_map] at e2 hz'
    have e3 : (its'.toArray.size : Int) = (((ls.getD i []).length : Nat) : Int) := by rw [List.size_toArray, e2]
    refine Calls.call_len_list pl'.isList (by rw [List.size_toArray]; omega) ?_
    rw [e3]
    exact KskEnd.intro F' N' fun p hp => hp
  · obtain ⟨hi, hv'⟩ := List.getElem?_eq_some_iff.mp hv
    have e1 := rv.length
    obtain ⟨u, hu, ru⟩ := rv.get (i := i) (x := ys[i]'(by omega)) (List.getElem?_eq_getElem (by omega))
    rw [hv] at hu
    cases hu
    have hli : ls[i]? = some (ls.getD i []) := by rw [List.getD_eq_getElem?_getD, List.getElem?_eq_getElem (by omega)] <;> rfl
    refine ⟨_, H, keepI h' tk F' N', ru, q i _ _ (List.getElem?_eq_getElem (by omega)) hli fun j l' hl' => ?_⟩
    obtain ⟨hj, hj'⟩ := List.getElem?_eq_some_iff.mp hl'
    have := hb j (by omega)
    rw [show ls.getD j [] = l' by rw [List.getD_eq_getElem?_getD, hl'] <;> rfl] at this
    omega
/-- min(xs, key=len) -/
theorem pe_minLen {e : Expr} {t : TA} {p pos kp : Pos} {np : Pos} (hc : X.calm = true) (hg : Gl X "min") (hm : X.mg "min" = none) (hg2 : Gl X "len") (hm2 : X.mg "len" = none) (ha : PA X [e] t)
    (h1 : backTo pos (starEach [e] X.env) = (false, eval e X.env) :: backTo pos (starEach [] X.env) := by rfl) (hpl : (backTo pos (starEach [e] X.env)).any (·.1) = false := by rfl) :
    PE X (.Call (.Name "min" p) [e] [⟨some "key", .Name "len" np, kp⟩] pos) (tCB (rMinLen X.K) t) := by
  refine ⟨fun pins s σ H Q I h => ?_⟩
  refine wpAny_Call_Name_kw (ld_blt I hg hm (u := .builtin "min") (by rfl) ?_ (by decide) (by decide))
  refine PyProof.Rows.callWith_kw (thn (ha.run pos pins s σ H _ I h) fun us s1 ⟨vs, H1, I1, r1, q1⟩ => ?_) h1 hpl
  show wpAny _ _ (evalAll [(do let v ← eval (.Name "len" np) X.env; standAt pos; pure v)]) _ _ s1
  refine wpAny_evalAll_cons (wpAny_bind (ld_blt I1 hg2 hm2 (u := .builtin "len") (by rfl) ?_ (by decide) (by decide)))
  refine wpAny_bind (wpAny_standAt (wpAny_pure (wpAny_evalAll_nil ?_)))
  exact min_len I1 hc r1 q1
end
end AM
end
section
set_option maxRecDepth 100000
set_option maxHeartbeats 4000000
namespace AW
open PySem PySem.Spec PyProof.Rows L2 Evl AH AP AZ AM
/-- pairs of ints stand in the list -/
def IsSpA (as : List Addr) (sp : List (Int × Int)) (s : Addr) (H : Hp) : Prop := H s = some (.lst (as.map V.ref)) ∧ as.length = sp.length ∧ ∀ (i : Nat) (a : Addr) (x : Int × Int), as[i]? = some a → sp[i]? = some x → H a = some (.tup [.int x.1, .int x.2])
theorem IsSpA.mono {as : List Addr} {sp : List (Int × Int)} {s : Addr} {H H' : Hp} (h : IsSpA as sp s H) (e : Ex H H') : IsSpA as sp s H' := ⟨e s _ h.1, h.2.1, fun i a x h1 h2 => e a _ (h.2.2 i a x h1 h2)⟩
theorem IsSpA.other {as : List Addr} {sp : List (Int × Int)} {s c : Addr} {H : Hp} {xs ys : List V} (h : IsSpA as sp s H) (hc : H c = some (.lst xs)) (hn : s ≠ c) : IsSpA as sp s (upd H c (.lst ys)) :=
  ⟨by rw [upd_ne hn]; exact h.1, h.2.1, fun i a x h1 h2 => by
    have e := h.2.2 i a x h1 h2
    have : a ≠ c := fun z => by rw [z, hc] at e; cases e
    rw [upd_ne this]
    exact e⟩
theorem IsSpA.snoc {as : List Addr} {sp : List (Int × Int)} {s t : Addr} {H : Hp} {x : Int × Int} (h : IsSpA as sp s H) (ht : H t = some (.tup [.int x.1, .int x.2])) : IsSpA (as ++ [t]) (sp ++ [x]) s (upd H s (.lst (as.map V.ref ++ [.ref t]))) := by
  refine ⟨by rw [upd_same]; simp, by simp [h.2.1], fun i a y h1 h2 => ?_⟩
  have hns : ∀ (b : Addr) (us : List V), H b = some (.tup us) → (upd H s (.lst (as.map V.ref ++ [.ref t]))) b = some (.tup us) := fun b us hb => by
    rw [upd_ne fun z => by rw [z, h.1] at hb; cases hb]
    exact hb
  apply hns
  by_cases hi : i < as.length
  · rw [List.getElem?_append_left hi] at h1
    rw [List.getElem?_append_left (h.2.1 ▸ hi)] at h2
    exact h.2.2 i a y h1 h2
  · have hl : i < (as ++ [t]).length := (List.getElem?_eq_some_iff.mp h1).1
    have e : i = as.length := by simp at hl; omega
    subst e
    rw [List.getElem?_append_right (Nat.le_refl _), Nat.sub_self] at h1
    rw [h.2.1, List.getElem?_append_right (Nat.le_refl _), Nat.sub_self] at h2
    cases h1
    cases h2
    exact ht
theorem head_map (f : Nat → Int) {l : List Nat} (h : l ≠ []) : (l.map f).getD 0 0 = f (l.headD 0) := by
  cases l with
  | nil => exact absurd rfl h
  | cons a r => rfl
theorem last_map (f : Nat → Int) {l : List Nat} (h : l ≠ []) : (l.map f).getD ((l.map f).length - 1) 0 = f (l.getLastD 0) := by
  have := List.length_pos_iff.mpr h
  rw [List.getD_eq_getElem?_getD, List.length_map, List.getElem?_map, ← List.getLast?_eq_getElem?, List.getLastD_eq_getLast?, List.getLast?_eq_some_getLast h]
  rfl
def IsBS (cs : List Int) (sp : List (Int × Int)) (v : V) (H : Hp) : Prop := ∃ (t c s : Addr) (as : List Addr), v = .ref t ∧ H t = some (.tup [.ref c, .ref s]) ∧ H c = some (.lst (cs.map V.int)) ∧ IsSpA as sp s H
section
variable {P : Program} {w : World} {K : PySem.W.Frag} {mg : Str → Option Value} {base : Heap} {k : Nat}
theorem sc29 : FnScope ["even", "odd", "costs", "splits", "many", "low", "high", "told", "least", "found", "at", "cost"] ["even", "odd"] (defScope (tp 29)) := ⟨rfl, rfl, rfl, by decide +kernel, rfl, by decide +kernel, by decide +kernel⟩
def sp29 : Sp := fun vs H Q _ => ∃ (a b : Addr) (ev od : List Int), vs = [.ref a, .ref b] ∧ H a = some (.lst (ev.map V.int)) ∧ H b = some (.lst (od.map V.int)) ∧ ev ≠ [] ∧ od ≠ [] ∧ ev.length ≤ 100 ∧ od.length ≤ 100 ∧
  ∀ v H', Ex H H' → IsBS (bsC ev od) (bsS ev od) v H' → Q v H'
theorem ok29 (T : TopT K mg) (C_pairs : Cal P w K mg base k "pairs" ["many"] [] sp28) : Cal P w K mg base (k + 1) "best_splits" ["even", "odd"] [] sp29 := by
  refine mkc (n := 29) T 18 18 sc29 (fun vs H Q E h => ?_) (fun _ _ _ _ _ _ us hl => match us, hl with | [_, _], _ => rfl) fun f cdv A outer s H E hr => ⟨_, (pss_cons (ps_par (i := 2) (j := 3) rfl sc29.nd rfl rfl (by decide) rfl rfl (pa_cons (pe_lst pa_nil) (pa_cons (pe_lst pa_nil) pa_nil)) (by rfl)) (pss_cons (ps_for PassesOwn.never rfl (pi_range1 (by rfl) T.f_range (pa_cons (pe_op op_sub (pe_op op_add (pe_callB call_len_seq (by rfl) T.f_len (by decide +kernel) (pa_cons (pv 0) pa_nil)) (pe_callB call_len_seq (by rfl) T.f_len (by decide +kernel) (pa_cons (pv 1) pa_nil))) pe_int) pa_nil)) (pg_name (i := 4) sc29.nd rfl (Or.inr rfl)) (pss_cons (ps_asg (pe_tup (pa_cons (pe_callB (call_max2 rfl) (by rfl) T.f_max (by decide +kernel) (pa_cons pe_int (pa_cons (pe_op op_add (pe_op op_sub (pv 4) (pe_callB call_len_seq (by rfl) T.f_len (by decide +kernel) (pa_cons (pv 1) pa_nil))) pe_int) pa_nil))) (pa_cons (pe_callB (call_min2 rfl) (by rfl) T.f_min (by decide +kernel) (pa_cons (pv 4) (pa_cons (pe_op op_sub (pe_callB call_len_seq (by rfl) T.f_len (by decide +kernel) (pa_cons (pv 0) pa_nil)) pe_int) pa_nil))) pa_nil))) (pg_tup rfl (pgs_cons (pg_name (i := 5) sc29.nd rfl (Or.inr rfl)) (pgs_cons (pg_name (i := 6) sc29.nd rfl (Or.inl rfl)) pgs_nil)))) (pss_cons (ps_setLc (i := 7) (own := [("at", 10)]) (g := gName 10) (tt := tYes) rfl sc29.nd rfl rfl (sw_true rfl rfl rfl (by decide +kernel)) (pi_range2 (by rfl) T.f_range (pa_cons (pv 5) (pa_cons (pe_op op_add (pv 6) pe_int) pa_nil))) (blkOk_by (own := [("at", 10)]) (N := ["even", "odd", "costs", "splits", "many", "low", "high", "told", "least", "found", "at", "cost"]) (sc := defScope (tp 29)) (by decide +kernel)) (fun _ _ _ _ _ => (pg_name (i := 10) sc29.nd rfl (Or.inl rfl))) (fun _ _ _ _ _ => pts_nil) (fun _ _ _ _ _ => (pe_op op_add (pe_op op_add (pe_op op_add (pe_ix (ix_listK (K := K) rfl) (pv 0) (pv 10) (fun _ _ => rfl)) (pcall C_pairs hr (pa_cons (pv 10) pa_nil))) (pe_ix (ix_listK (K := K) rfl) (pv 1) (pe_op op_sub (pv 4) (pv 10)) (fun _ _ => rfl))) (pcall C_pairs hr (pa_cons (pe_op op_sub (pv 4) (pv 10)) pa_nil))))) (pss_cons (ps_set (i := 8) sc29.nd rfl (Or.inr rfl) (pe_callB (cr_min rfl) (by rfl) T.f_min (by decide +kernel) (pa_cons (pv 7) pa_nil))) (pss_cons (ps_setLc (i := 9) (own := [("at", 10), ("cost", 11)]) rfl sc29.nd rfl rfl (sw_true rfl rfl rfl (by decide +kernel)) (pi_enum (by rfl) T.f_enumerate (pa_cons (pv 7) pa_nil)) (blkOk_by (own := [("at", 10), ("cost", 11)]) (N := ["even", "odd", "costs", "splits", "many", "low", "high", "told", "least", "found", "at", "cost"]) (sc := defScope (tp 29)) (by decide +kernel)) (fun _ _ _ _ _ => (pg_tupK (K := K) (n := 2) rfl rfl (pgs_cons (pg_name (i := 10) sc29.nd rfl (Or.inl rfl)) (pgs_cons (pg_name (i := 11) sc29.nd rfl (Or.inl rfl)) pgs_nil)))) (fun _ _ _ _ _ => pts_one (pt_cmpR op_eq (pv 11) (pv 8) (nomark _))) (fun _ _ _ _ _ => (pe_op op_add (pv 5) (pv 10)))) (pss_cons (ps_expr (pe_bm PySem.F.plainAttrs_list PySem.F.slot_list_append PySem.F.type_list_append mt_append (pv 2) (pa_cons (pv 8) pa_nil))) (pss_one (ps_expr (pe_bm PySem.F.plainAttrs_list PySem.F.slot_list_append PySem.F.type_list_append mt_append (pv 3) (pa_cons (pe_tup (pa_cons (pe_ix ix_list (pv 9) pe_int (fun _ _ => rfl)) (pa_cons (pe_ix ix_list (pv 9) (pe_un un_neg pe_int) (fun _ _ => rfl)) pa_nil))) pa_nil)))))))))) (pss_one (ps_ret (pe_tup (pa_cons (pv 2) (pa_cons (pv 3) pa_nil))))))), fun vs Q h => ?_⟩
  · obtain ⟨a, b, ev, od, rfl, _⟩ := h
    rfl
  · obtain ⟨a, b, ev, od, rfl, ha, hb, n1, n2, l1, l2, q⟩ := h
    have p1 := List.length_pos_iff.mpr n1
    have p2 := List.length_pos_iff.mpr n2
    refine q_par (R := fun x y H' => ∃ c s : Addr, x = .ref c ∧ y = .ref s ∧ c ≠ s ∧ H c = none ∧ H s = none ∧ H' c = some (.lst (([] : List Int).map V.int)) ∧ IsSpA [] [] s H') (fun H1 e1 Q q => ?_) fun x y H1 e1 r => ?_
    · refine ⟨(by show 0 ≤ sizeLine; omega), fun c nc => ⟨(by show 0 ≤ sizeLine; omega), fun s ns => q _ _ ((Ex.new nc).trans (Ex.new ns)) ⟨_, _, rfl, c, s, rfl, rfl, ?_, fresh_back e1 nc, fresh_back (e1.trans (Ex.new nc)) ns, ?_, upd_same, rfl, fun i a x h => by simp at h⟩⟩⟩
      · intro z
        rw [z, upd_same] at ns
        cases ns
      · exact Ex.new ns _ _ upd_same
    obtain ⟨c, s, rfl, rfl, hcs, fc, fs, hc, hs⟩ := r
    refine q_forR1 (n := (ev.length : Int) + (od.length : Int) - 1) (ea_cons (ev_op (ev_op (ev_lenI (ev_var rfl) (sq_of (e1 a _ ha))) (ev_lenI (ev_var rfl) (sq_of (e1 b _ hb))) rv_I0) ev_c rv_I0) ea_nil) (by omega)
      (fun i σ' H' => ∃ (as : List Addr) (y4 y5 y6 y7 y8 y9 y10 y11 : Option V), σ' = [some (.ref a), some (.ref b), some (.ref c), some (.ref s), y4, y5, y6, y7, y8, y9, y10, y11] ∧ H' c = some (.lst (((List.range i).map fun m => minL (told ev od m)).map V.int)) ∧ IsSpA as ((List.range i).map (splt ev od)) s H' ∧ Ex H H')
      (fun H2 e2 => ⟨[], none, none, none, none, none, none, none, none, rfl, e2 c _ hc, hs.mono e2, e1.trans e2⟩) (fun m σ' H' hi h => ?_) (fun σ' H' h => ?_)
    · obtain ⟨as, y4, y5, y6, y7, y8, y9, y10, y11, rfl, hc, hs, e2⟩ := h
      have hlo : (loN od m : Int) = if (m : Int) - (od.length : Int) + 1 > 0 then (m : Int) - (od.length : Int) + 1 else 0 := by
        unfold loN
        split <;> omega
      have hhi : (hiN ev m : Int) = if (ev.length : Int) - 1 < (m : Int) then (ev.length : Int) - 1 else (m : Int) := by
        unfold hiN
        split <;> omega
      have hlh : loN od m ≤ hiN ev m := by unfold loN hiN; omega
      have hh1 : hiN ev m < ev.length := by unfold hiN; omega
      have hh2 : hiN ev m ≤ m := by unfold hiN; omega
      have hh3 : m - loN od m < od.length := by unfold loN; omega
      refine q_unp2 (R := fun x y _ => x = .int (loN od m : Int) ∧ y = .int (hiN ev m : Int)) (EvU.p (eu_tup (ea_cons (ev_is (ev_max2 ev_c (ev_op (ev_op (ev_var rfl) (ev_lenI (ev_var rfl) (sq_of (e2 b _ hb))) rv_I0) ev_c rv_I0)) (by rw [hlo])) (ea_cons (ev_is (ev_cb (z := .int (if (ev.length : Int) - 1 < (m : Int) then (ev.length : Int) - 1 else (m : Int)))
        (ea_cons (ev_var rfl) (ea_cons (ev_op (ev_lenI (ev_var rfl) (sq_of (e2 a _ ha))) ev_c rv_I0) ea_nil)) fun H1 e Q q => ⟨_, _, rfl, q H1 (Ex.refl H1)⟩) (by rw [hhi])) ea_nil)) (by show 2 ≤ 100000; decide)) fun p H3 hp _ => ⟨p, _, _, rfl, hp, rfl, rfl⟩) fun x y H3 e3 r => ?_
      obtain ⟨rfl, rfl⟩ := r
      have e23 := e2.trans e3
      refine q_asgL (xs := (told ev od m).map V.int) (el_is (el_lcR2 (lo := (loN od m : Int)) (n := (hiN ev m : Int) + 1) (fun _ => true) (fun i => .int (cst ev od m (loN od m + i))) (ea_cons (ev_var rfl) (ea_cons (ev_op (ev_var rfl) ev_c rv_I0) ea_nil)) (by omega) (fun _ => rfl) (fun _ _ _ _ => et_yes) (fun i H4 e4 hi _ => ?_)) ?_) fun tp H4 nt e4 ht => ?_
      · have hx : ((loN od m : Int) + (i : Int)) = ((loN od m + i : Nat) : Int) := by omega
        have hy : (m : Int) - ((loN od m : Int) + (i : Int)) = ((m - (loN od m + i) : Nat) : Int) := by omega
        refine ev_is (ev_op (ev_op (ev_op (ev_op (ev_var rfl) (ev_var rfl) (rv_ixL (v := .int (ev.getD (loN od m + i) 0)) (sq_of (e4 a _ (e23 a _ ha))) (by rw [hx]; exact at_ints (by omega)))) (ev_call (ea_cons (ev_var rfl) ea_nil) fun H5 e5 Q q E => ⟨_, rfl, by omega, q⟩) rv_I0)
          (ev_op (ev_var rfl) (ev_op (ev_var rfl) (ev_var rfl) rv_I0) (rv_ixL (v := .int (od.getD (m - (loN od m + i)) 0)) (sq_of (e4 b _ (e23 b _ hb))) (by rw [hy]; exact at_ints (by omega)))) rv_I0) (ev_call (ea_cons (ev_op (ev_var rfl) (ev_var rfl) rv_I0) ea_nil) fun H5 e5 Q q E => ⟨_, rfl, by omega, q⟩) rv_I0) ?_
        unfold cst prs
        rw [← hx]
      · rw [given_true]
        unfold told
        rw [List.map_map, show ((hiN ev m : Int) + 1 - (loN od m : Int)).toNat = hiN ev m + 1 - loN od m by omega]
        rfl
      have tn := told_ne (m := m) n1 n2 (by omega)
      have tl : (told ev od m).length ≤ 100 := by unfold told; simp; omega
      refine q_asg (v := .int (minL (told ev od m))) (ev_minI (ev_var rfl) (sq_of ht) tn) fun H5 e5 => ?_
      refine q_asgL (xs := ((fnd (told ev od m)).map fun i => ((loN od m + i : Nat) : Int)).map V.int) (el_is (el_lcE (fun i => decide ((told ev od m).getD i 0 = minL (told ev od m))) (fun i => .int ((loN od m + i : Nat) : Int)) (ea_cons (ev_var rfl) ea_nil) (sq_of (e5 tp _ ht)) (by simp; omega) (fun _ _ => rfl)
        (fun i x H6 e6 hx => ?_) (fun i x H6 e6 hx _ => ?_)) ?_) fun fp H6 nf e6 hf => ?_
      · obtain ⟨n, _, rfl, _, hd⟩ := ix_ints hx
        rw [hd]
        exact et_is (et_test (ev_op (ev_var rfl) (ev_var rfl) (rv_eq rfl))) (by simp)
      · exact ev_is (ev_op (ev_var rfl) (ev_var rfl) rv_I0) (by rw [Int.natCast_add])
      · unfold given fnd
        rw [List.length_map, List.map_map]
        rfl
      have fn := fnd_ne tn
      have fp0 := List.length_pos_iff.mpr fn
      have fne : ((fnd (told ev od m)).map fun i => ((loN od m + i : Nat) : Int)) ≠ [] := by simpa using fn
      have e36 := e3.trans (e4.trans (e5.trans e6))
      refine q_app (l := c) (e36 c _ hc) (ev_var rfl) (ev_var rfl) (by simp; omega) fun H7 e7 => ?_
      have e37 := e36.trans e7
      have hs7 := (hs.mono e37).other (ys := (((List.range m).map fun m => minL (told ev od m)).map V.int ++ [.int (minL (told ev od m))])) (e37 c _ hc) (Ne.symm hcs)
      have hf7 : upd H7 c (.lst (((List.range m).map fun m => minL (told ev od m)).map V.int ++ [.int (minL (told ev od m))])) fp = some (.lst (((fnd (told ev od m)).map fun i => ((loN od m + i : Nat) : Int)).map V.int)) := by
        rw [upd_ne fun z => ?_]
        · exact e7 fp _ hf
        · rw [z] at nf
          have := (e4.trans e5) c _ (e3 c _ hc)
          rw [nf] at this
          cases this
      refine s_appU (l := s) (xs := as.map V.ref) (ys := [.int (splt ev od m).1, .int (splt ev od m).2]) hs7.1 (ev_var rfl) (eu_tup (ea_cons (ev_op (ev_var rfl) ev_c (rv_ixL (sq_of hf7) ?_)) (ea_cons (ev_op (ev_var rfl) (ev_un ev_c ru_neg) (rv_ixL (sq_of hf7) ?_)) ea_nil)) (by show 2 ≤ 100000; decide)) ?_ fun p H8 np e8 hp => ?_
      · have := at_ints (ns := (fnd (told ev od m)).map fun i => ((loN od m + i : Nat) : Int)) (i := 0) (by simpa using fp0)
        refine this.trans ?_
        unfold splt
        rw [head_map _ fn]
      · refine (at_last fne).trans ?_
        unfold splt
        rw [last_map _ fn]
      · have := hs7.2.1
        simp at this ⊢
        omega
      · refine ⟨as ++ [p], _, _, _, _, _, _, _, _, rfl, ?_, ?_, ?_⟩
        · rw [upd_ne hcs]
          refine (e8 c _ upd_same).trans ?_
          rw [List.range_succ, List.map_append, List.map_append]
          rfl
        · rw [List.range_succ, List.map_append]
          exact (hs7.mono e8).snoc (x := splt ev od m) hp
        · exact (Ex.mut ((Ex.mut (e2.trans e37) fc).trans e8) fs)
    · obtain ⟨as, y4, y5, y6, y7, y8, y9, y10, y11, rfl, hc, hs, e2⟩ := h
      have e0 : ((ev.length : Int) + (od.length : Int) - 1).toNat = ev.length + od.length - 1 := by omega
      rw [e0] at hc hs
      exact s_retU (eu_tup (ea_cons (ev_var rfl) (ea_cons (ev_var rfl) ea_nil)) (by show 2 ≤ 100000; decide)) fun p H3 np e3 hp => q _ H3 (e2.trans e3) ⟨p, c, s, as, rfl, hp, e3 c _ hc, hs.mono e3⟩
/-! ### tree_of -/
def IsTree : Tr → V → Hp → Prop
  | .leaf ps, v, H => ∃ a p c : Addr, v = .ref a ∧ H a = some (.tup [.ref p, .ref c, .non, .non, .non]) ∧ H p = some (.lst (ps.map V.int)) ∧ H c = some (.lst ((List.replicate (ps.length + 1) (0 : Int)).map V.int))
  | .node ps cs sp e o, v, H => ∃ (a p c s : Addr) (as : List Addr) (ve vo : V), v = .ref a ∧ H a = some (.tup [.ref p, .ref c, .ref s, ve, vo]) ∧ H p = some (.lst (ps.map V.int)) ∧ H c = some (.lst (cs.map V.int)) ∧ IsSpA as sp s H ∧ IsTree e ve H ∧ IsTree o vo H
theorem IsTree.mono : ∀ {t : Tr} {v : V} {H H' : Hp}, IsTree t v H → Ex H H' → IsTree t v H'
  | .leaf ps, v, H, H', ⟨a, p, c, h1, h2, h3, h4⟩, e => ⟨a, p, c, h1, e a _ h2, e p _ h3, e c _ h4⟩
  | .node ps cs sp e o, v, H, H', ⟨a, p, c, s, as, ve, vo, h1, h2, h3, h4, h5, h6, h7⟩, e' => ⟨a, p, c, s, as, ve, vo, h1, e' a _ h2, e' p _ h3, e' c _ h4, h5.mono e', h6.mono e', h7.mono e'⟩
theorem IsTree.cs {t : Tr} {v : V} {H : Hp} (h : IsTree t v H) : ∃ (a c : Addr) (xs : List V), v = .ref a ∧ H a = some (.tup xs) ∧ atI xs 1 = some (.ref c) ∧ H c = some (.lst (t.cs.map V.int)) := by
  cases t with
  | leaf ps => obtain ⟨a, p, c, h1, h2, h3, h4⟩ := h; exact ⟨a, c, _, h1, h2, rfl, h4⟩
  | node ps cs sp e o => obtain ⟨a, p, c, s, as, ve, vo, h1, h2, h3, h4, _⟩ := h; exact ⟨a, c, _, h1, h2, rfl, h4⟩
theorem halves_len (l : Nat) : ∀ ps : List Int, (evens ps l).length + (odds ps l).length = ps.length
  | [] => rfl
  | p :: ps => by
    have h := halves_len l ps
    unfold evens odds at h ⊢
    rw [List.filter_cons, List.filter_cons]
    rcases Int.emod_two_eq (p / 2 ^ l) with c | c
    · simp only [c]
      simp
      omega
    · simp only [c]
      simp
      omega
theorem cs_len : ∀ (f : Nat) (ps : List Int) (l : Nat), (treeF f ps l).cs.length ≤ ps.length + 1 ∧ (treeF f ps l).cs ≠ []
  | 0, ps, l => by
    show (List.replicate (ps.length + 1) (0 : Int)).length ≤ ps.length + 1 ∧ (List.replicate (ps.length + 1) (0 : Int)) ≠ []
    exact ⟨by simp, by simp⟩
  | f + 1, ps, l => by
    unfold treeF
    split
    · show (List.replicate (ps.length + 1) (0 : Int)).length ≤ ps.length + 1 ∧ (List.replicate (ps.length + 1) (0 : Int)) ≠ []
      exact ⟨by simp, by simp⟩
    · have h1 := cs_len f (evens ps l) (l + 1)
      have h2 := cs_len f (odds ps l) (l + 1)
      have h := halves_len l ps
      have p1 := List.length_pos_iff.mpr h1.2
      have p2 := List.length_pos_iff.mpr h2.2
      show (bsC _ _).length ≤ _ ∧ bsC _ _ ≠ []
      unfold bsC
      refine ⟨by simp; omega, fun z => ?_⟩
      have := congrArg List.length z
      simp at this
      omega
/-- a def with one default -/
theorem mkcD (T : TopT K mg) {g x : Str} {n k m : Nat} {N ps : List Str} {sp : Sp} {dv : He.Dv} (i j : Nat) (S : FnScope N ps (defScope (tp n))) (len : ∀ vs H Q E, sp vs H Q E → vs.length = ps.length)
    (hm : m + 1 = ps.length)
    (hb : ∀ (T : Addr) (kV doc pm : Value) (an : Option Addr) (cdv ct : Value) (us its : List Value), us.length = m + 1 → its.length = 1 → ∃ k, bindArgs (PySem.W.fnOf x x (defArgs (tp n)) (defBody (tp n)) (defScope (tp n)) (.ref T) kV doc pm an cdv ct) ⟨us, []⟩ = seqItems? (.ref T) >>= k ∧ k (some its.toArray) = pure (ps.zip (us ++ its.drop 1)))
    (hb0 : ∀ (T : Addr) (kV doc pm : Value) (an : Option Addr) (cdv ct : Value) (us its : List Value), us.length = m → its.length = 1 → ∃ k, bindArgs (PySem.W.fnOf x x (defArgs (tp n)) (defBody (tp n)) (defScope (tp n)) (.ref T) kV doc pm an cdv ct) ⟨us, []⟩ = seqItems? (.ref T) >>= k ∧ k (some its.toArray) = pure (ps.zip (us ++ its.drop 0)))
    (hbody : ∀ (f : Addr) (cdv : Value) (A : Around) (outer : List Env) (s : Shared) (H : Hp) (E : XK), Room k (A.deeper (envOfC x (defScope (tp n)) s.heap.objs.size f cdv)) →
      ∃ t, PSs (cxOf CX0 P w K mg base N x (defScope (tp n)) f cdv A outer s H E).nox (defBody (tp n)) t ∧ ∀ vs Q, sp vs H Q E → t { nx := fun _ H' => Q .non H', rt := Q } (start N vs) H)
    (h1 : fa[i]? = some (.glo g) := by rfl) (h2 : fn[j]? = some (dd g x n [dv]) := by rfl) : Cal P w K mg base (k + 1) g ps [] sp ∧ Cal P w K mg base (k + 1) g ps [dv.v K] sp := by
  obtain ⟨fd, F⟩ := T.c.def_ j h2
  have F' : Fn K x n [dv.v K] (He.ga K g) fd := F
  have ok : FnOk P w K mg base CX0 (k + 1) (He.ga K g) fd ps sp := by
    refine F'.ok S len fun cdv A outer s H vs Q E hr hsp => ?_
    obtain ⟨t, q1, q2⟩ := hbody _ cdv A outer s H E hr
    exact ⟨t, PSs.nox q1, q2 vs Q hsp⟩
  obtain ⟨d1, v1, b1⟩ := F'.binds1 (ps := ps) (m + 1) 1 (by simp) (by simp; omega) fun T kV doc pm an cdv ct us its h1 h2 => hb T kV doc pm an cdv ct us its h1 h2
  obtain ⟨d0, v0, b0⟩ := F'.binds1 (ps := ps) m 0 (by simp) (by simp; omega) fun T kV doc pm an cdv ct us its h1 h2 => hb0 T kV doc pm an cdv ct us its h1 h2
  exact ⟨⟨_, fd, d1, ok, T.glo i h1, F'.kp, b1, v1⟩, ⟨_, fd, d0, ok, T.glo i h1, F'.kp, b0, by simpa using v0⟩⟩
def spTree (f : Nat) : Sp := fun vs H Q _ => ∃ (a : Addr) (ps : List Int) (l : Nat), vs = [.ref a, .int (l : Int)] ∧ H a = some (.lst (ps.map V.int)) ∧ ps.length ≤ 64 ∧ l + f ≤ 200 ∧ Halts f ps l ∧ ∀ v H', Ex H H' → IsTree (treeF f ps l) v H' → Q v H'
theorem pe_never {X : Cx} {e : Expr} : PE X e (fun _ _ _ => False) := ⟨fun _ _ _ _ _ _ h => h.elim⟩
theorem sc30 : FnScope ["places", "level", "even", "odd", "first", "second", "costs", "splits"] ["places", "level"] (defScope (tp 30)) := ⟨rfl, rfl, rfl, by decide +kernel, rfl, by decide +kernel, by decide +kernel⟩
section
variable {D : Ends} {σ : L2.St} {H : Hp} {tz : TS} {s0 : L2.St}
theorem el_rep0 {tb : TE} {m : Nat} (hb : Ev tb σ H (.int (m : Int))) (hm : m ≤ 1000) : EvL (tOp rRep (tLst (tCons (tC (.int 0)) tNil)) tb) σ H ((List.replicate m (0 : Int)).map V.int) := fun H1 e Q q =>
  ⟨(by show 1 ≤ sizeLine; decide), fun z nz => hb _ (e.trans (Ex.new nz)) _ fun H2 e2 => ⟨z, m, [.int 0], rfl, rfl, e2 z _ upd_same, by omega, by omega, (by simp; exact Nat.le_trans hm (by decide)), fun p np => by
    have := q p (upd H2 p (.lst ((List.replicate m (0 : Int)).map V.int))) (fresh_back ((Ex.new nz).trans e2) np) (((Ex.new nz).trans e2).trans (Ex.new np)) upd_same
    simpa using this⟩⟩
/-- the leaf's return -/
theorem leaf_ret {a : Addr} {ps : List Int} (ha : H a = some (.lst (ps.map V.int))) (hσ : σ[0]? = some (some (.ref a))) (hz : ps.length ≤ 64) (q : ∀ v H', Ex H H' → IsTree (.leaf ps) v H' → D.rt v H') :
    tRet (tTup (tCons (tVar 0) (tCons (tOp rRep (tLst (tCons (tC (.int 0)) tNil)) (tOp (rI0 fun i j => .int (i + j)) (tCB (rLenS K) (tCons (tVar 0) tNil)) (tC (.int 1)))) (tCons (tC .non) (tCons (tC .non) (tCons (tC .non) tNil)))))) D σ H := by
  refine s_retP (R := IsTree (.leaf ps)) (evp_tup (RA := fun vs H' => ∃ c : Addr, vs = [.ref a, .ref c, .non, .non, .non] ∧ H' a = some (.lst (ps.map V.int)) ∧ H' c = some (.lst ((List.replicate (ps.length + 1) (0 : Int)).map V.int)))
    (eap_cons (R := fun u _ => u = .ref a) (Ev.p (ev_var hσ) fun _ _ => rfl) fun u1 H1 e1 r1 => eap_cons (R := IsIL (List.replicate (ps.length + 1) (0 : Int))) (EvL.p (el_rep0 (m := ps.length + 1) (ev_is (ev_op (ev_lenI (ev_var hσ) (sq_of (e1 a _ ha))) ev_c rv_I0) (by simp)) (by omega)) fun p H2 _ hp _ => ⟨p, rfl, hp⟩) fun u2 H2 e2 r2 =>
      (EvA.p (ea_cons ev_c (ea_cons ev_c (ea_cons ev_c ea_nil))) fun H3 e3 => ?_)) fun vs H1 e1 r => ?_) fun v H1 e1 r => q v H1 e1 r
  · obtain ⟨c, rfl, hc⟩ := r2
    exact ⟨c, by rw [r1], e3 a _ (e2 a _ (e1 a _ ha)), e3 c _ hc⟩
  · obtain ⟨c, rfl, h1, h2⟩ := r
    exact ⟨by show 5 ≤ 100000; decide, fun p np => ⟨p, a, c, rfl, upd_same, Ex.new np a _ h1, Ex.new np c _ h2⟩⟩
end
theorem bd30 (T : Addr) (kV doc pm : Value) (an : Option Addr) (cdv ct : Value) (us its : List Value) (h1 : us.length = 1 + 1) (h2 : its.length = 1) : ∃ k, bindArgs (PySem.W.fnOf "tree_of" "tree_of" (defArgs (tp 30)) (defBody (tp 30)) (defScope (tp 30)) (.ref T) kV doc pm an cdv ct) ⟨us, []⟩ = seqItems? (.ref T) >>= k ∧ k (some its.toArray) = pure ((["places", "level"] : List Str).zip (us ++ its.drop 1)) :=
  match us, h1, its, h2 with | [_, _], _, [_], _ => ⟨_, rfl, rfl⟩
theorem bd30' (T : Addr) (kV doc pm : Value) (an : Option Addr) (cdv ct : Value) (us its : List Value) (h1 : us.length = 1) (h2 : its.length = 1) : ∃ k, bindArgs (PySem.W.fnOf "tree_of" "tree_of" (defArgs (tp 30)) (defBody (tp 30)) (defScope (tp 30)) (.ref T) kV doc pm an cdv ct) ⟨us, []⟩ = seqItems? (.ref T) >>= k ∧ k (some its.toArray) = pure ((["places", "level"] : List Str).zip (us ++ its.drop 0)) :=
  match us, h1, its, h2 with | [_], _, [_], _ => ⟨_, rfl, rfl⟩
theorem okT (T : TopT K mg) (C_halves : Cal P w K mg base k "halves" ["places", "level"] [] sp27) (C_best_splits : Cal P w K mg base k "best_splits" ["even", "odd"] [] sp29) : ∀ f : Nat, Cal P w K mg base (k + 1 + f) "tree_of" ["places", "level"] [] (spTree f) ∧ Cal P w K mg base (k + 1 + f) "tree_of" ["places", "level"] [.int 0] (spTree f)
  | 0 => by
    refine mkcD (n := 30) (dv := .int 0) (m := 1) T 19 19 sc30 (fun vs H Q E h => ?_) rfl bd30 bd30' fun f cdv A outer s H E hr => ⟨_, (pss_cons (ps_if (pt_cmpR op_lt (pe_callB call_len_seq (by rfl) T.f_len (by decide +kernel) (pa_cons (pv 0) pa_nil)) pe_int (nomark _)) (pss_one (ps_ret (pe_tup (pa_cons (pv 0) (pa_cons (pe_op op_rep (pe_lst (pa_cons pe_int pa_nil)) (pe_op op_add (pe_callB call_len_seq (by rfl) T.f_len (by decide +kernel) (pa_cons (pv 0) pa_nil)) pe_int)) (pa_cons pe_non (pa_cons pe_non (pa_cons pe_non pa_nil)))))))) pss_nil) (pss_cons (ps_asg (pcall C_halves hr (pa_cons (pv 0) (pa_cons (pv 1) pa_nil))) (pg_tup rfl (pgs_cons (pg_name (i := 2) sc30.nd rfl (Or.inl rfl)) (pgs_cons (pg_name (i := 3) sc30.nd rfl (Or.inl rfl)) pgs_nil)))) (pss_cons (ps_par (i := 4) (j := 5) rfl sc30.nd rfl rfl (by decide) rfl rfl (pa_cons pe_never (pa_cons pe_never pa_nil)) (by rfl)) (pss_cons (ps_asg (pcall C_best_splits hr (pa_cons (pe_ix ix_tup (pv 4) pe_int (fun _ _ => rfl)) (pa_cons (pe_ix ix_tup (pv 5) pe_int (fun _ _ => rfl)) pa_nil))) (pg_tup rfl (pgs_cons (pg_name (i := 6) sc30.nd rfl (Or.inl rfl)) (pgs_cons (pg_name (i := 7) sc30.nd rfl (Or.inl rfl)) pgs_nil)))) (pss_one (ps_ret (pe_tup (pa_cons (pv 0) (pa_cons (pv 6) (pa_cons (pv 7) (pa_cons (pv 4) (pa_cons (pv 5) pa_nil)))))))))))), fun vs Q h => ?_⟩
    · obtain ⟨a, ps, l, rfl, _⟩ := h
      rfl
    · obtain ⟨a, ps, l, rfl, ha, hz, hl, he, q⟩ := h
      refine q_when (b := true) (et_is (et_test (ev_op (ev_lenI (ev_var rfl) (sq_of ha)) ev_c rv_I0)) (decide_eq_true (by have : ps.length < 2 := he; omega))) (fun _ H1 e1 => ?_) (fun c => nomatch c)
      exact leaf_ret (e1 a _ ha) rfl hz fun v H2 e2 h => q v H2 (e1.trans e2) h
  | f + 1 => by
    obtain ⟨C_tree_of, _⟩ := okT T C_halves C_best_splits f
    replace C_halves := C_halves.up (show k ≤ k + 1 + f by omega)
    replace C_best_splits := C_best_splits.up (show k ≤ k + 1 + f by omega)
    refine mkcD (n := 30) (dv := .int 0) (m := 1) (k := k + 1 + f) T 19 19 sc30 (fun vs H Q E h => ?_) rfl bd30 bd30' fun f0 cdv A outer s H E hr => ⟨_, (pss_cons (ps_if (pt_cmpR op_lt (pe_callB call_len_seq (by rfl) T.f_len (by decide +kernel) (pa_cons (pv 0) pa_nil)) pe_int (nomark _)) (pss_one (ps_ret (pe_tup (pa_cons (pv 0) (pa_cons (pe_op op_rep (pe_lst (pa_cons pe_int pa_nil)) (pe_op op_add (pe_callB call_len_seq (by rfl) T.f_len (by decide +kernel) (pa_cons (pv 0) pa_nil)) pe_int)) (pa_cons pe_non (pa_cons pe_non (pa_cons pe_non pa_nil)))))))) pss_nil) (pss_cons (ps_asg (pcall C_halves hr (pa_cons (pv 0) (pa_cons (pv 1) pa_nil))) (pg_tup rfl (pgs_cons (pg_name (i := 2) sc30.nd rfl (Or.inl rfl)) (pgs_cons (pg_name (i := 3) sc30.nd rfl (Or.inl rfl)) pgs_nil)))) (pss_cons (ps_par (i := 4) (j := 5) rfl sc30.nd rfl rfl (by decide) rfl rfl (pa_cons (pcall C_tree_of hr (pa_cons (pv 2) (pa_cons (pe_op op_add (pv 1) pe_int) pa_nil))) (pa_cons (pcall C_tree_of hr (pa_cons (pv 3) (pa_cons (pe_op op_add (pv 1) pe_int) pa_nil))) pa_nil)) (by rfl)) (pss_cons (ps_asg (pcall C_best_splits hr (pa_cons (pe_ix ix_tup (pv 4) pe_int (fun _ _ => rfl)) (pa_cons (pe_ix ix_tup (pv 5) pe_int (fun _ _ => rfl)) pa_nil))) (pg_tup rfl (pgs_cons (pg_name (i := 6) sc30.nd rfl (Or.inl rfl)) (pgs_cons (pg_name (i := 7) sc30.nd rfl (Or.inl rfl)) pgs_nil)))) (pss_one (ps_ret (pe_tup (pa_cons (pv 0) (pa_cons (pv 6) (pa_cons (pv 7) (pa_cons (pv 4) (pa_cons (pv 5) pa_nil)))))))))))), fun vs Q h => ?_⟩
    · obtain ⟨a, ps, l, rfl, _⟩ := h
      rfl
    · obtain ⟨a, ps, l, rfl, ha, hz, hl, he, q⟩ := h
      unfold treeF at q
      refine q_when (b := decide (ps.length < 2)) (et_is (et_test (ev_op (ev_lenI (ev_var rfl) (sq_of ha)) ev_c rv_I0)) (decide_eq_decide.mpr (by omega))) (fun hc H1 e1 => ?_) (fun hc H1 e1 => ?_)
      · rw [if_pos (of_decide_eq_true hc)] at q
        exact leaf_ret (e1 a _ ha) rfl hz fun v H2 e2 h => q v H2 (e1.trans e2) h
      · have hc := of_decide_eq_false hc
        rw [if_neg hc] at q
        have he := he.resolve_left hc
        have z1 : (evens ps l).length ≤ ps.length := List.length_filter_le ..
        have z2 : (odds ps l).length ≤ ps.length := List.length_filter_le ..
        refine q_unp2 (R := fun x y H' => IsIL (evens ps l) x H' ∧ IsIL (odds ps l) y H') ((evp_callA (R := IsTwo (evens ps l) (odds ps l)) (ea_cons (ev_var rfl) (ea_cons (ev_var rfl) ea_nil)) fun H2 e2 Q q E => ⟨a, ps, l, rfl, e2 a _ (e1 a _ ha), hz, by omega, q⟩).imp fun v H2 _ r => ?_) fun x y H2 e2 r => ?_
        · obtain ⟨t, o, n, rfl, h1, h2, h3⟩ := r
          exact ⟨t, _, _, rfl, h1, ⟨o, rfl, h2⟩, ⟨n, rfl, h3⟩⟩
        obtain ⟨⟨p1, rfl, h1⟩, ⟨p2, rfl, h2⟩⟩ := r
        refine q_par (R := fun x y H' => IsTree (treeF f (evens ps l) (l + 1)) x H' ∧ IsTree (treeF f (odds ps l) (l + 1)) y H') (eap_cons (R := IsTree (treeF f (evens ps l) (l + 1))) (evp_callA (ea_cons (ev_var rfl) (ea_cons (ev_op (ev_var rfl) ev_c rv_I0) ea_nil)) fun H3 e3 Q q E => ⟨p1, _, l + 1, rfl, e3 p1 _ h1, by omega, by omega, he.1, q⟩) fun u1 H3 e3 r1 =>
          eap_cons (R := IsTree (treeF f (odds ps l) (l + 1))) (evp_callA (ea_cons (ev_var rfl) (ea_cons (ev_op (ev_var rfl) ev_c rv_I0) ea_nil)) fun H4 e4 Q q E => ⟨p2, _, l + 1, rfl, e4 p2 _ (e3 p2 _ h2), by omega, by omega, he.2, q⟩) fun u2 H4 e4 r2 => eap_nil fun H5 e5 => ⟨u1, u2, rfl, (r1.mono e4).mono e5, r2.mono e5⟩) fun x y H3 e3 r => ?_
        obtain ⟨t1, t2⟩ := r
        obtain ⟨a1, c1, xs1, rfl, b1, b2, b3⟩ := t1.cs
        obtain ⟨a2, c2, xs2, rfl, b4, b5, b6⟩ := t2.cs
        have k1 := cs_len f (evens ps l) (l + 1)
        have k2 := cs_len f (odds ps l) (l + 1)
        refine q_unp2 (R := fun x y H' => ∃ (c s : Addr) (as : List Addr), x = .ref c ∧ y = .ref s ∧ H' c = some (.lst ((bsC (treeF f (evens ps l) (l + 1)).cs (treeF f (odds ps l) (l + 1)).cs).map V.int)) ∧ IsSpA as (bsS (treeF f (evens ps l) (l + 1)).cs (treeF f (odds ps l) (l + 1)).cs) s H')
          ((evp_callA (R := IsBS (bsC (treeF f (evens ps l) (l + 1)).cs (treeF f (odds ps l) (l + 1)).cs) (bsS (treeF f (evens ps l) (l + 1)).cs (treeF f (odds ps l) (l + 1)).cs)) (ea_cons (ev_op (ev_var rfl) ev_c (rv_ixT (st_of b1) b2)) (ea_cons (ev_op (ev_var rfl) ev_c (rv_ixT (st_of b4) b5)) ea_nil))
            fun H4 e4 Q q E => ⟨c1, c2, _, _, rfl, e4 c1 _ b3, e4 c2 _ b6, k1.2, k2.2, by omega, by omega, q⟩).imp fun v H4 _ r => ?_) fun x y H4 e4 r => ?_
        · obtain ⟨t, c, s, as, rfl, r1, r2, r3⟩ := r
          exact ⟨t, _, _, rfl, r1, c, s, as, rfl, rfl, r2, r3⟩
        obtain ⟨c, s, as, rfl, rfl, r2, r3⟩ := r
        have e14 := e1.trans (e2.trans (e3.trans e4))
        exact s_retU (eu_tup (ea_cons (ev_var rfl) (ea_cons (ev_var rfl) (ea_cons (ev_var rfl) (ea_cons (ev_var rfl) (ea_cons (ev_var rfl) ea_nil))))) (by show 5 ≤ 100000; decide)) fun p H5 np e5 hp => q _ H5 (e14.trans e5) ⟨p, a, c, s, as, _, _, rfl, hp, e5 a _ (e14 a _ ha), e5 c _ r2, r3.mono e5, t1.mono (e4.trans e5), t2.mono (e4.trans e5)⟩
end
end AW
end
section
set_option maxRecDepth 100000
set_option maxHeartbeats 4000000
namespace AW
open PySem PySem.Spec PyProof.Rows L2 Evl AH AP AZ AM
def IsOL : Option (List Int) → V → Hp → Prop
  | none, v, _ => v = .non
  | some xs, v, H => IsIL xs v H
theorem IsOL.mono {o : Option (List Int)} {v : V} {H H' : Hp} (h : IsOL o v H) (e : Ex H H') : IsOL o v H' := by
  cases o with
  | none => exact h
  | some xs => exact IsIL.mono h e
inductive OLs (H : Hp) : List V → List (Option (List Int)) → Prop where
  | nil : OLs H [] []
  | cons {y : V} {o : Option (List Int)} {ys : List V} {os : List (Option (List Int))} : IsOL o y H → OLs H ys os → OLs H (y :: ys) (o :: os)
theorem OLs.mono {H H' : Hp} (e : Ex H H') : ∀ {ys : List V} {os : List (Option (List Int))}, OLs H ys os → OLs H' ys os
  | _, _, .nil => .nil
  | _, _, .cons h t => .cons (h.mono e) (t.mono e)
theorem OLs.snoc {H : Hp} {y : V} {o : Option (List Int)} (h : IsOL o y H) : ∀ {ys : List V} {os : List (Option (List Int))}, OLs H ys os → OLs H (ys ++ [y]) (os ++ [o])
  | _, _, .nil => .cons h .nil
  | _, _, .cons h1 t => .cons h1 (t.snoc h)
theorem OLs.len {H : Hp} : ∀ {ys : List V} {os : List (Option (List Int))}, OLs H ys os → ys.length = os.length
  | _, _, .nil => rfl
  | _, _, .cons _ t => congrArg Nat.succ t.len
theorem OLs.at {H : Hp} : ∀ {ys : List V} {os : List (Option (List Int))} {i : Nat} {y : V}, OLs H ys os → ys[i]? = some y → IsOL (os.getD i none) y H
  | _, _, _, _, .nil, h => by simp at h
  | _, _, 0, y, .cons h1 t, h => by simp at h; subst h; simpa using h1
  | _, _, i + 1, y, .cons h1 t, h => by simpa using OLs.at t (i := i) (by simpa using h)
theorem given_cons (n : Nat) (f : Nat → Bool) (v : Nat → V) : given (n + 1) f v = (if f 0 then [v 0] else []) ++ given n (fun i => f (i + 1)) (fun i => v (i + 1)) := by
  unfold given
  rw [List.range_succ_eq_map, List.filter_cons, List.filter_map, ]
  split
  · rw [List.map_cons, List.map_map]
    rfl
  · rw [List.map_map]
    rfl
theorem OLs.lists {H : Hp} : ∀ {ys : List V} {os : List (Option (List Int))}, OLs H ys os → ∀ (i : Nat) (y : V) (l : List Int), (given ys.length (fun i => (os.getD i none).isSome) (fun i => ys.getD i .non))[i]? = some y → (os.filterMap id)[i]? = some l → IsIL l y H
  | _, _, .nil => fun i y l h1 h2 => by simp at h2
  | y0 :: ys, o :: os, .cons h t => fun i y l h1 h2 => by
    have ih := OLs.lists t
    rw [show (y0 :: ys).length = ys.length + 1 from rfl, given_cons] at h1
    cases o with
    | none =>
      rw [List.filterMap_cons_none rfl] at h2
      exact ih i y l (by simpa using h1) h2
    | some x =>
      rw [List.filterMap_cons_some (by rfl)] at h2
      cases i with
      | zero =>
        simp at h1 h2
        subst h1
        subst h2
        exact h
      | succ i => exact ih i y l (by simpa using h1) (by simpa using h2)
theorem OLs.glen {H : Hp} : ∀ {ys : List V} {os : List (Option (List Int))}, OLs H ys os → (given ys.length (fun i => (os.getD i none).isSome) (fun i => ys.getD i .non)).length = (os.filterMap id).length
  | _, _, .nil => rfl
  | y0 :: ys, o :: os, .cons h t => by
    have ih := t.glen
    rw [show (y0 :: ys).length = ys.length + 1 from rfl, given_cons]
    cases o with
    | none =>
      rw [List.filterMap_cons_none rfl]
      simpa using ih
    | some x =>
      rw [List.filterMap_cons_some (by rfl)]
      simpa using ih
theorem notInt {o : Option (List Int)} {y : V} {H : Hp} (h : IsOL o y H) (n : Int) : y ≠ .int n := by
  cases o with
  | none => rw [show y = V.non from h]; exact fun z => nomatch z
  | some x => obtain ⟨p, rfl, _⟩ := h; exact fun z => nomatch z
theorem IsOL.other {o : Option (List Int)} {v y0 : V} {r : List V} {H : Hp} {f : Addr} {u : HO} (h : IsOL o v H) (hf : H f = some (.lst (y0 :: r))) (hn : ∀ n, y0 ≠ .int n) : IsOL o v (upd H f u) := by
  cases o with
  | none => exact h
  | some x =>
    obtain ⟨p, rfl, hp⟩ := h
    refine ⟨p, rfl, ?_⟩
    rw [upd_ne fun z => ?_]
    · exact hp
    · rw [z, hf] at hp
      cases x with
      | nil => cases hp
      | cons a x =>
        simp at hp
        exact hn a hp.1
theorem OLs.other {H : Hp} {f : Addr} {u : HO} {y0 : V} {r : List V} (hf : H f = some (.lst (y0 :: r))) (hn : ∀ n, y0 ≠ .int n) : ∀ {ys : List V} {os : List (Option (List Int))}, OLs H ys os → OLs (upd H f u) ys os
  | _, _, .nil => .nil
  | _, _, .cons h t => .cons (h.other hf hn) (t.other hf hn)
section
variable {P : Program} {w : World} {K : PySem.W.Frag} {mg : Str → Option Value} {base : Heap} {k : Nat}
def spLost (d : Nat) : Sp := fun vs H Q _ => ∃ (v : V) (t : Tr) (j : Nat), vs = [v, .int (j : Int)] ∧ IsTree t v H ∧ t.dep ≤ d ∧ t.WF ∧ t.pl.length ≤ 64 ∧ ∀ v' H', Ex H H' → IsOL (lost t j) v' H' → Q v' H'
theorem sc31 : FnScope ["branch", "many", "places", "_", "splits", "even", "odd", "low", "high", "found", "part", "lost"] ["branch", "many"] (defScope (tp 31)) := ⟨rfl, rfl, rfl, by decide +kernel, rfl, by decide +kernel, by decide +kernel⟩
section
variable {σ : L2.St} {H : Hp} {te : TE} {D : Ends} {tz : TS} {ta : TA} {R : V → Hp → Prop}
theorem evp_lst {RA : List V → Hp → Prop} (h : EvAP ta σ H RA) (hr : ∀ vs H1, Ex H H1 → RA vs H1 → vs.length ≤ 100000 ∧ ∀ p, H p = none → H1 p = none → R (.ref p) (upd H1 p (.lst vs))) : EvP (tLst ta) σ H R := fun H1 e Q q =>
  h H1 e _ fun vs H2 e2 r => ⟨sz_of (hr vs H2 (e.trans e2) r).1, fun p np => q _ _ (e2.trans (Ex.new np)) ((hr vs H2 (e.trans e2) r).2 p (fresh_back (e.trans e2) np) np)⟩
theorem q_unp5 {i1 i2 i3 i4 i5 : Nat} {a : Addr} {x1 x2 x3 x4 x5 : V} (h : Ev te σ H (.ref a)) (ha : H a = some (.tup [x1, x2, x3, x4, x5])) (k : ∀ H1, Ex H H1 → tz D (((((σ.set i1 (some x1)).set i2 (some x2)).set i3 (some x3)).set i4 (some x4)).set i5 (some x5)) H1) :
    tSeq (tAsg te (gTup K 5 (gCons (gName i1) (gCons (gName i2) (gCons (gName i3) (gCons (gName i4) (gCons (gName i5) gNil))))))) tz D σ H :=
  h H (Ex.refl H) _ fun H1 e => ⟨a, _, rfl, st_of (e a _ ha), rfl, x1, _, rfl, x2, _, rfl, x3, _, rfl, x4, _, rfl, x5, _, rfl, rfl, k H1 e⟩
end
theorem el_cat {σ : L2.St} {H : Hp} {ta tb : TE} {l1 l2 : List Int} (h1 : EvP ta σ H (IsIL l1)) (h2 : ∀ H1, Ex H H1 → EvP tb σ H1 (IsIL l2)) (hz : l1.length + l2.length ≤ 1000) : EvL (tOp rCat ta tb) σ H ((l1 ++ l2).map V.int) := fun H1 e Q q => h1 H1 e _ fun x H2 e2 r1 => by
  obtain ⟨p1, rfl, hp1⟩ := r1
  refine h2 H2 (e.trans e2) H2 (Ex.refl _) _ fun y H3 e3 r2 => ?_
  obtain ⟨p2, rfl, hp2⟩ := r2
  exact ⟨p1, p2, _, _, rfl, rfl, e3 p1 _ hp1, hp2, (by simp; exact Nat.le_trans hz (by decide)), fun p np => q p _ (fresh_back (e2.trans e3) np) ((e2.trans e3).trans (Ex.new np)) (by rw [upd_same, List.map_append])⟩
theorem evp_minLen {σ : L2.St} {H : Hp} {te : TE} {zs : List V} {ls : List (List Int)} (h : EvL te σ H zs) (hI : ∀ (i : Nat) (y : V) (l : List Int), zs[i]? = some y → ls[i]? = some l → IsIL l y H) (hln : zs.length = ls.length) (hne : ls ≠ []) : EvP (tCB (rMinLen K) (tCons te tNil)) σ H (IsIL (short ls)) := fun H1 e Q q =>
  h H1 e _ fun p H2 np e2 hp => ⟨p, zs, ls, rfl, sq_of hp, ⟨hln, fun i y l h1 h2 => by
    obtain ⟨p, rfl, hp⟩ := hI i y l h1 h2
    exact ⟨p, rfl, sq_of ((e.trans e2) p _ hp)⟩⟩, (by rw [hln]; exact List.length_pos_iff.mpr hne), fun i y l h1 h2 hb => q y H2 e2 (short_is h2 hb ▸ (hI i y l h1 h2).mono (e.trans e2))⟩
theorem optV_eq {o : Option (List Int)} {v : V} {H : Hp} (h : IsOL o v H) : (!decide (v = V.non)) = o.isSome := by
  cases o with
  | none => rw [show v = V.non from h]; rfl
  | some x => obtain ⟨p, rfl, _⟩ := h; rfl
theorem okL0 (T : TopT K mg) : Cal P w K mg base (k + 1) "lost_places" ["branch", "many"] [] (spLost 0) := by
  refine mkc (n := 31) T 20 20 sc31 (fun vs H Q E h => ?_) (fun _ _ _ _ _ _ us hl => match us, hl with | [_, _], _ => rfl) fun f cdv A outer s H E hr => ⟨_, (pss_cons (ps_asg (pv 0) (pg_tup rfl (pgs_cons (pg_name (i := 2) sc31.nd rfl (Or.inl rfl)) (pgs_cons (pg_name (i := 3) sc31.nd rfl (Or.inl rfl)) (pgs_cons (pg_name (i := 4) sc31.nd rfl (Or.inl rfl)) (pgs_cons (pg_name (i := 5) sc31.nd rfl (Or.inl rfl)) (pgs_cons (pg_name (i := 6) sc31.nd rfl (Or.inl rfl)) pgs_nil))))))) (pss_cons (ps_if (pt_cmpR op_gt (pv 1) (pe_callB call_len_seq (by rfl) T.f_len (by decide +kernel) (pa_cons (pv 2) pa_nil)) (nomark _)) (pss_one (ps_ret (pe_lst pa_nil))) pss_nil) (pss_cons (ps_if (pt_cmpR op_eq (pv 1) pe_int (nomark _)) (pss_one (ps_ret pe_non)) pss_nil) (pss_cons (ps_if (pt_cmpR op_isN (pv 4) pe_non (nomark _)) (pss_one (ps_ret (pe_callTy call_list_of (by rfl) T.f_list (by decide +kernel) (pa_cons (pv 2) pa_nil)))) pss_nil) (pss_cons (ps_asg (pe_ix ix_list (pv 4) (pv 1) (fun _ _ => rfl)) (pg_tup rfl (pgs_cons (pg_name (i := 7) sc31.nd rfl (Or.inl rfl)) (pgs_cons (pg_name (i := 8) sc31.nd rfl (Or.inl rfl)) pgs_nil)))) (pss_cons (ps_set (i := 9) sc31.nd rfl (Or.inl rfl) (pe_lst (pa_cons pe_never (pa_cons pe_never pa_nil)))) (pss_cons (ps_for PassesOwn.never rfl (pi_range2 (by rfl) T.f_range (pa_cons (pe_op op_add (pv 7) pe_int) (pa_cons (pe_op op_add (pv 8) pe_int) pa_nil))) (pg_name (i := 10) sc31.nd rfl (Or.inl rfl)) (pss_one (ps_expr (pe_bm PySem.F.plainAttrs_list PySem.F.slot_list_append PySem.F.type_list_append mt_append (pv 9) (pa_cons pe_never pa_nil))))) (pss_one (ps_ret (AM.pe_minLen rfl (by rfl) T.f_min (by rfl) T.f_len (pa_cons (pe_lc (own := [("lost", 11)]) (g := gName 11) rfl sc31.nd (pi_list (pv 9)) (blkOk_by (own := [("lost", 11)]) (N := ["branch", "many", "places", "_", "splits", "even", "odd", "low", "high", "found", "part", "lost"]) (sc := defScope (tp 31)) (by decide +kernel)) (fun _ _ _ _ _ => (pg_name (i := 11) sc31.nd rfl (Or.inl rfl))) (fun _ _ _ _ _ => pts_one (pt_cmpR op_notN (pv 11) pe_non (nomark _))) (fun _ _ _ _ _ => (pv 11))) pa_nil))))))))))), fun vs Q h => ?_⟩
  · obtain ⟨v, t, j, rfl, _⟩ := h
    rfl
  · obtain ⟨v, t, j, rfl, ht, hd, hw, hl, q⟩ := h
    cases t with
    | node ps cs sp e o => unfold Tr.dep at hd; omega
    | leaf ps =>
      unfold lost at q
      obtain ⟨a, p, c, rfl, h1, h2, h3⟩ := ht
      refine q_unp5 (ev_var rfl) h1 fun H1 e1 => ?_
      refine q_when (b := decide (j > ps.length)) (et_is (et_test (ev_op (ev_var rfl) (ev_lenI (ev_var rfl) (sq_of (e1 p _ h2))) rv_I0)) (decide_eq_decide.mpr (by omega))) (fun hc H2 e2 => ?_) (fun hc H2 e2 => ?_)
      · rw [if_pos (of_decide_eq_true hc)] at q
        exact s_retL (el_lst ea_nil (by decide)) fun p H3 np e3 hp => q _ H3 (e1.trans (e2.trans e3)) ⟨p, rfl, hp⟩
      rw [if_neg (of_decide_eq_false hc)] at q
      refine q_when (b := decide (j = 0)) (et_is (et_test (ev_op (ev_var rfl) ev_c (rv_eq rfl))) (decide_eq_decide.mpr (by simp))) (fun hc H3 e3 => ?_) (fun hc H3 e3 => ?_)
      · rw [if_pos (of_decide_eq_true hc)] at q
        exact s_ret ev_c fun H4 e4 => q _ H4 (e1.trans (e2.trans (e3.trans e4))) rfl
      rw [if_neg (of_decide_eq_false hc)] at q
      refine q_when (b := true) (et_test (ev_op (ev_var rfl) ev_c (rv_val fun H1 e Q q => ⟨rfl, q⟩))) (fun _ H4 e4 => ?_) (fun c => nomatch c)
      exact s_retL (el_list (K := K) (ev_var rfl) (sq_of ((e1.trans (e2.trans (e3.trans e4))) p _ h2))) fun p H5 np e5 hp => q _ H5 ((e1.trans (e2.trans (e3.trans e4))).trans e5) ⟨p, rfl, hp⟩
theorem okL (T : TopT K mg) : ∀ d : Nat, Cal P w K mg base (k + 1 + d) "lost_places" ["branch", "many"] [] (spLost d)
  | 0 => okL0 T
  | d + 1 => by
    have C_lost_places := okL T d
    refine mkc (n := 31) (k := k + 1 + d) T 20 20 sc31 (fun vs H Q E h => ?_) (fun _ _ _ _ _ _ us hl => match us, hl with | [_, _], _ => rfl) fun f cdv A outer s H E hr => ⟨_, (pss_cons (ps_asg (pv 0) (pg_tup rfl (pgs_cons (pg_name (i := 2) sc31.nd rfl (Or.inl rfl)) (pgs_cons (pg_name (i := 3) sc31.nd rfl (Or.inl rfl)) (pgs_cons (pg_name (i := 4) sc31.nd rfl (Or.inl rfl)) (pgs_cons (pg_name (i := 5) sc31.nd rfl (Or.inl rfl)) (pgs_cons (pg_name (i := 6) sc31.nd rfl (Or.inl rfl)) pgs_nil))))))) (pss_cons (ps_if (pt_cmpR op_gt (pv 1) (pe_callB call_len_seq (by rfl) T.f_len (by decide +kernel) (pa_cons (pv 2) pa_nil)) (nomark _)) (pss_one (ps_ret (pe_lst pa_nil))) pss_nil) (pss_cons (ps_if (pt_cmpR op_eq (pv 1) pe_int (nomark _)) (pss_one (ps_ret pe_non)) pss_nil) (pss_cons (ps_if (pt_cmpR op_isN (pv 4) pe_non (nomark _)) (pss_one (ps_ret (pe_callTy call_list_of (by rfl) T.f_list (by decide +kernel) (pa_cons (pv 2) pa_nil)))) pss_nil) (pss_cons (ps_asg (pe_ix ix_list (pv 4) (pv 1) (fun _ _ => rfl)) (pg_tup rfl (pgs_cons (pg_name (i := 7) sc31.nd rfl (Or.inl rfl)) (pgs_cons (pg_name (i := 8) sc31.nd rfl (Or.inl rfl)) pgs_nil)))) (pss_cons (ps_set (i := 9) sc31.nd rfl (Or.inl rfl) (pe_lst (pa_cons (pcall C_lost_places hr (pa_cons (pv 5) (pa_cons (pv 7) pa_nil))) (pa_cons (pcall C_lost_places hr (pa_cons (pv 6) (pa_cons (pe_op op_sub (pv 1) (pv 8)) pa_nil))) pa_nil)))) (pss_cons (ps_for PassesOwn.never rfl (pi_range2 (by rfl) T.f_range (pa_cons (pe_op op_add (pv 7) pe_int) (pa_cons (pe_op op_add (pv 8) pe_int) pa_nil))) (pg_name (i := 10) sc31.nd rfl (Or.inl rfl)) (pss_one (ps_expr (pe_bm PySem.F.plainAttrs_list PySem.F.slot_list_append PySem.F.type_list_append mt_append (pv 9) (pa_cons (pe_op op_cat (pcall C_lost_places hr (pa_cons (pv 5) (pa_cons (pv 10) pa_nil))) (pcall C_lost_places hr (pa_cons (pv 6) (pa_cons (pe_op op_sub (pe_op op_add (pv 1) pe_int) (pv 10)) pa_nil)))) pa_nil))))) (pss_one (ps_ret (AM.pe_minLen rfl (by rfl) T.f_min (by rfl) T.f_len (pa_cons (pe_lc (own := [("lost", 11)]) (g := gName 11) rfl sc31.nd (pi_list (pv 9)) (blkOk_by (own := [("lost", 11)]) (N := ["branch", "many", "places", "_", "splits", "even", "odd", "low", "high", "found", "part", "lost"]) (sc := defScope (tp 31)) (by decide +kernel)) (fun _ _ _ _ _ => (pg_name (i := 11) sc31.nd rfl (Or.inl rfl))) (fun _ _ _ _ _ => pts_one (pt_cmpR op_notN (pv 11) pe_non (nomark _))) (fun _ _ _ _ _ => (pv 11))) pa_nil))))))))))), fun vs Q h => ?_⟩
    · obtain ⟨v, t, j, rfl, _⟩ := h
      rfl
    · obtain ⟨v, t, j, rfl, ht, hd, hw, hl, q⟩ := h
      cases t with
      | leaf ps =>
        unfold lost at q
        obtain ⟨a, p, c, rfl, h1, h2, h3⟩ := ht
        refine q_unp5 (ev_var rfl) h1 fun H1 e1 => ?_
        refine q_when (b := decide (j > ps.length)) (et_is (et_test (ev_op (ev_var rfl) (ev_lenI (ev_var rfl) (sq_of (e1 p _ h2))) rv_I0)) (decide_eq_decide.mpr (by omega))) (fun hc H2 e2 => ?_) (fun hc H2 e2 => ?_)
        · rw [if_pos (of_decide_eq_true hc)] at q
          exact s_retL (el_lst ea_nil (by decide)) fun p H3 np e3 hp => q _ H3 (e1.trans (e2.trans e3)) ⟨p, rfl, hp⟩
        rw [if_neg (of_decide_eq_false hc)] at q
        refine q_when (b := decide (j = 0)) (et_is (et_test (ev_op (ev_var rfl) ev_c (rv_eq rfl))) (decide_eq_decide.mpr (by simp))) (fun hc H3 e3 => ?_) (fun hc H3 e3 => ?_)
        · rw [if_pos (of_decide_eq_true hc)] at q
          exact s_ret ev_c fun H4 e4 => q _ H4 (e1.trans (e2.trans (e3.trans e4))) rfl
        rw [if_neg (of_decide_eq_false hc)] at q
        refine q_when (b := true) (et_test (ev_op (ev_var rfl) ev_c (rv_val fun H1 e Q q => ⟨rfl, q⟩))) (fun _ H4 e4 => ?_) (fun c => nomatch c)
        exact s_retL (el_list (K := K) (ev_var rfl) (sq_of ((e1.trans (e2.trans (e3.trans e4))) p _ h2))) fun p H5 np e5 hp => q _ H5 ((e1.trans (e2.trans (e3.trans e4))).trans e5) ⟨p, rfl, hp⟩
      | node ps cs sp e o =>
        obtain ⟨a, p, c, s, as, ve, vo, rfl, h1, h2, h3, h4, t1, t2⟩ := ht
        obtain ⟨w1, w2, w3, we, wo⟩ := hw
        have hl : ps.length ≤ 64 := hl
        have de : e.dep ≤ d := by unfold Tr.dep at hd; omega
        have do' : o.dep ≤ d := by unfold Tr.dep at hd; omega
        refine q_unp5 (ev_var rfl) h1 fun H1 e1 => ?_
        refine q_when (b := decide (j > ps.length)) (et_is (et_test (ev_op (ev_var rfl) (ev_lenI (ev_var rfl) (sq_of (e1 p _ h2))) rv_I0)) (decide_eq_decide.mpr (by omega))) (fun hc H2 e2 => ?_) (fun hc H2 e2 => ?_)
        · rw [lost_big (t := .node ps cs sp e o) (of_decide_eq_true hc)] at q
          exact s_retL (el_lst ea_nil (by decide)) fun p H3 np e3 hp => q _ H3 (e1.trans (e2.trans e3)) ⟨p, rfl, hp⟩
        have hc1 := of_decide_eq_false hc
        refine q_when (b := decide (j = 0)) (et_is (et_test (ev_op (ev_var rfl) ev_c (rv_eq rfl))) (decide_eq_decide.mpr (by simp))) (fun hc H3 e3 => ?_) (fun hc H3 e3 => ?_)
        · rw [of_decide_eq_true hc, lost_zero] at q
          exact s_ret ev_c fun H4 e4 => q _ H4 (e1.trans (e2.trans (e3.trans e4))) rfl
        have hc2 := of_decide_eq_false hc
        rw [lost_node (by omega) (by omega)] at q
        obtain ⟨x0, x1, x2⟩ := w3 j (by omega) (by omega)
        have cn := cand_ne (e := e) (o := o) (by omega : 1 ≤ j) x0 x1 x2
        generalize hcd : cand sp e o j = cd at q cn
        unfold cand at hcd
        have hsp : sp[j]? = some (sp.getD j (0, 0)) := by rw [List.getD_eq_getElem?_getD, List.getElem?_eq_getElem (by omega)] <;> rfl
        obtain ⟨ln, hn, el, eh, exy⟩ : ∃ ln hn : Nat, (sp.getD j (0, 0)).1 = (ln : Int) ∧ (sp.getD j (0, 0)).2 = (hn : Int) ∧ sp.getD j (0, 0) = ((ln : Int), (hn : Int)) := ⟨(sp.getD j (0, 0)).1.toNat, (sp.getD j (0, 0)).2.toNat, by omega, by omega, by
          generalize sp.getD j (0, 0) = z at x0 x1
          obtain ⟨z1, z2⟩ := z
          simp at x0 x1 ⊢
          omega⟩
        rw [el, eh] at hcd x1
        rw [eh] at x2
        rw [show ((ln : Int)).toNat = ln from Int.toNat_natCast ln, show ((hn : Int)).toNat = hn from Int.toNat_natCast hn, show ((hn : Int) - (ln : Int)).toNat = hn - ln by omega] at hcd
        have hj : j < as.length := by rw [h4.2.1]; omega
        obtain ⟨aj, haj⟩ : ∃ aj, as[j]? = some aj := ⟨_, List.getElem?_eq_getElem hj⟩
        have hpair := h4.2.2 j aj _ haj hsp
        rw [el, eh] at hpair
        have hat : atI (as.map V.ref) (j : Int) = some (.ref aj) := by
          unfold atI
          rw [List.length_map, ixN_nat hj]
          simp [haj]
        refine q_when (b := false) (et_test (ev_op (ev_var rfl) ev_c (rv_val fun H1 e Q q => ⟨rfl, q⟩))) (fun c => nomatch c) (fun _ H4 e4 => ?_)
        have e14 := e1.trans (e2.trans (e3.trans e4))
        refine q_unp2 (R := fun x y _ => x = .int (ln : Int) ∧ y = .int (hn : Int)) (Ev.p (ev_op (ev_var rfl) (ev_var rfl) (rv_ixL (sq_of (e14 s _ h4.1)) hat)) fun H5 e5 => ⟨aj, _, _, rfl, e5 aj _ (e14 aj _ hpair), rfl, rfl⟩) fun x y H5 e5 r => ?_
        obtain ⟨rfl, rfl⟩ := r
        have e15 := e14.trans e5
        have ze : e.pl.length ≤ 64 := by omega
        have zo : o.pl.length ≤ 64 := by omega
        refine q_asgP (R := fun v H' => ∃ (f : Addr) (ys : List V), v = .ref f ∧ H5 f = none ∧ H' f = some (.lst ys) ∧ OLs H' ys [lost e ln, lost o (j - hn)]) (evp_lst (RA := fun vs H' => OLs H' vs [lost e ln, lost o (j - hn)]) (eap_cons (R := IsOL (lost e ln)) (evp_callA (ea_cons (ev_var rfl) (ea_cons (ev_var rfl) ea_nil)) fun H6 e6 Q q E => ⟨ve, e, ln, rfl, (t1.mono e15).mono e6, de, we, ze, q⟩)
          fun u1 H6 e6 r1 => eap_cons (R := IsOL (lost o (j - hn))) (evp_callA (ea_cons (ev_var rfl) (ea_cons (ev_op (ev_var rfl) (ev_var rfl) rv_I0) ea_nil)) fun H7 e7 Q q E => ⟨vo, o, j - hn, (by rw [show (j : Int) - (hn : Int) = ((j - hn : Nat) : Int) by omega]; rfl), ((t2.mono e15).mono e6).mono e7, do', wo, zo, q⟩)
          fun u2 H7 e7 r2 => eap_nil fun H8 e8 => .cons ((r1.mono e7).mono e8) (.cons (r2.mono e8) .nil)) fun vs H6 e6 r => ⟨by rw [r.len]; show 2 ≤ 100000; decide, fun p np np' => ⟨p, vs, rfl, np, upd_same, r.mono (Ex.new np')⟩⟩) fun v H6 e6 r => ?_
        obtain ⟨f, ys0, rfl, ff, hf, hos⟩ := r
        refine q_forR2 (lo := (ln : Int) + 1) (n := (hn : Int) + 1) (ea_cons (ev_op (ev_var rfl) ev_c rv_I0) (ea_cons (ev_op (ev_var rfl) ev_c rv_I0) ea_nil)) (by omega) (fun i σ' H' => ∃ (ys : List V) (y10 y11 : Option V), σ' = [some (.ref a), some (.int (j : Int)), some (.ref p), some (.ref c), some (.ref s), some ve, some vo, some (.int (ln : Int)), some (.int (hn : Int)), some (.ref f), y10, y11] ∧ H' f = some (.lst ys) ∧
          OLs H' ys ([lost e ln, lost o (j - hn)] ++ (List.range i).map fun i => some ((lost e (ln + 1 + i)).getD [] ++ (lost o (j + 1 - (ln + 1 + i))).getD [])) ∧ Ex H5 H') (fun H7 e7 => ⟨ys0, none, none, rfl, e7 f _ hf, by simpa using hos.mono e7, e6.trans e7⟩) (fun i σ' H' hi h => ?_) (fun σ' H' h => ?_)
        · obtain ⟨ys, y10, y11, rfl, hf, hos, e7⟩ := h
          obtain ⟨l1, hl1⟩ := lost_some e (j := ln + 1 + i) (by omega)
          obtain ⟨l2, hl2⟩ := lost_some o (j := j + 1 - (ln + 1 + i)) (by omega)
          have b1 := lost_len we hl1
          have b2 := lost_len wo hl2
          have hlen := hos.len
          refine s_appL (l := f) (xs := ys) hf (ev_var rfl) (el_cat (l1 := l1) (l2 := l2) (evp_callA (ea_cons (ev_var rfl) (ea_cons (ev_var rfl) ea_nil)) fun H8 e8 Q q E => ⟨ve, e, ln + 1 + i, (by rw [show (ln : Int) + 1 + (i : Int) = ((ln + 1 + i : Nat) : Int) by omega]; rfl), (t1.mono e15).mono (e7.trans e8), de, we, ze, fun v H9 e9 r => q v H9 e9 (by rw [hl1] at r; exact r)⟩)
            (fun H8 e8 => evp_callA (ea_cons (ev_var rfl) (ea_cons (ev_op (ev_op (ev_var rfl) ev_c rv_I0) (ev_var rfl) rv_I0) ea_nil)) fun H9 e9 Q q E => ⟨vo, o, j + 1 - (ln + 1 + i), (by rw [show (j : Int) + 1 - ((ln : Int) + 1 + (i : Int)) = ((j + 1 - (ln + 1 + i) : Nat) : Int) by omega]; rfl), (t2.mono e15).mono (e7.trans (e8.trans e9)), do', wo, zo, fun v H9 e9 r => q v H9 e9 (by rw [hl2] at r; exact r)⟩) (by omega)) (by simp at hlen; omega) fun p H8 np e8 hp => ?_
          refine ⟨ys ++ [.ref p], _, _, rfl, upd_same, ?_, Ex.mut (e7.trans e8) ff⟩
          rw [List.range_succ, List.map_append, ← List.append_assoc]
          have hpf : p ≠ f := fun z => by rw [z, hf] at np; cases np
          refine OLs.snoc ?_ ?_
          · show IsOL (some _) _ _
            rw [hl1, hl2]
            exact ⟨p, rfl, by rw [upd_ne hpf]; exact hp⟩
          · cases hos with
            | cons h t => exact OLs.other (e8 f _ hf) (notInt h) (.cons (h.mono e8) (t.mono e8))
        · obtain ⟨ys, y10, y11, rfl, hf, hos, e7⟩ := h
          rw [show ((hn : Int) + 1 - ((ln : Int) + 1)).toNat = hn - ln by omega, hcd] at hos
          have hlen := hos.len
          have hcl : cd.length ≤ 100 := by rw [← hcd]; simp; omega
          refine s_retP (evp_minLen (el_lcL (fun i => (cd.getD i none).isSome) (fun i => ys.getD i .non) (ev_var rfl) (sq_of hf) (by omega) (fun _ => rfl) (fun i x H8 e8 hx => et_is (et_test (ev_op (ev_var rfl) ev_c (rv_val fun H1 e Q q => ⟨rfl, q⟩))) (optV_eq (hos.at hx))) (fun i x H8 e8 hx _ => ev_is (ev_var rfl) (by rw [List.getD_eq_getElem?_getD, hx] <;> rfl)))
            hos.lists hos.glen cn) fun v H8 e8 r => q v H8 (e15.trans (e7.trans e8)) r
end
end AW
end
section
set_option maxRecDepth 100000
set_option maxHeartbeats 4000000
namespace AZ
open PySem PySem.Spec PyProof.Rows L2
section
variable {prog : Program} {w : World} {A : Around} {E : Value → Shared → Prop} {s : Shared}
theorem held_known {z TI TO T : Nat} {f : Bool} {oT : Obj} {Q : Bool → Shared → Prop} (hz : ZS s.heap z TI TO (rawInt T) f) (hT : s.heap.get? T = some oT)
    (h : ∀ h1, ZS h1 z TI TO (rawInt T) true → Heap.SameBut z s.heap h1 → Q false { s with heap := h1 }) : wpAny (model prog w) A (Builtin.SmallTypes.ownedTupleIsFree (.ref z)) Q E s := by
  unfold Builtin.SmallTypes.ownedTupleIsFree
  refine wpAny_bind (wpAny_field hz rfl (x := rawInt T) rfl ?_)
  show wpAny _ _ (loadIfAlive ((T : Int).toNat) >>= _) _ _ _
  rw [Int.toNat_natCast]
  refine wpAny_bind (PySem.W.kdx_alive hT ?_)
  simp only [Option.isNone_some, Bool.false_eq_true, if_false]
  refine wpAny_bind (wpAny_field hz rfl (x := .bool f) rfl ?_)
  cases f
  · rw [if_pos (show (Value.bool false != Value.bool true) = true by rfl)]
    exact wpAny_bind (wpAny_setField_rec hz (by simp) fun h1 a b => wpAny_pure (h h1 a b))
  · rw [if_neg (show ¬ ((Value.bool true != Value.bool true) = true) by simp)]
    exact wpAny_pure (h s.heap hz (Heap.SameBut.refl _ _))
theorem zs2_held {c k l0 l1 T : Nat} {f1 : Bool} {a0 a1 : Array Value} {x0 x1 : Value} {b0 : Array Value} {oT : Obj} {Q : Value → Shared → Prop} (g0 : l0 < c) (g1 : l1 < c)
    (hz : ZS s.heap (c + 4) (c + 2) (c + 3) (rawInt T) f1) (hT : s.heap.get? T = some oT) (hTI : TU s.heap (c + 2) #[.ref (c), .ref (c + 1)]) (hTO : TU s.heap (c + 3) b0) (hb : b0.size = 2) (hi0 : s.heap.IsListIter (c) l0 k) (L0 : s.heap.IsList l0 a0) (hi1 : s.heap.IsListIter (c + 1) l1 k) (L1 : s.heap.IsList l1 a1)
    (hx0 : a0[k]? = some x0) (hx1 : a1[k]? = some x1)
    (hQ : ∀ h', ZS h' (c + 4) (c + 2) (c + 3) (rawInt T) true → (∃ b1 : Array Value, b1.size = 2 ∧ TU h' (c + 3) b1) → h'.IsListIter (c) l0 (k + 1) → h'.IsListIter (c + 1) l1 (k + 1) → TU h' s.heap.objs.size #[x0, x1] → h'.objs.size = s.heap.objs.size + 1 →
      (∀ (d : Nat) (o : Obj), d ≠ c + 4 → d ≠ c + 3 → d ≠ c → d ≠ c + 1 → s.heap.get? d = some o → h'.get? d = some o) → Q (.ref s.heap.objs.size) { s with heap := h' }) :
    wpAny (model prog w) A (Builtin.«zip.__next__» ⟨[.ref (c + 4)], []⟩) (fun fin s1 => ∃ v, fin = .done (.ret v) ∧ Q v s1) E s := by
  show wpAny _ _ (field (.ref (c + 4)) 2 >>= _) _ _ _
  refine wpAny_bind (wpAny_field hz rfl (x := .bool true) rfl ?_)
  show wpAny _ _ (field (.ref (c + 4)) 3 >>= _) _ _ _
  refine wpAny_bind (wpAny_field hz rfl (x := .ref (c + 2)) rfl ?_)
  refine wpAny_bind (wpAny_seqItems hTI rfl ?_)
  show wpAny _ _ (Builtin.SmallTypes.ownedTupleIsFree (.ref (c + 4)) >>= _) _ _ _
  refine wpAny_bind (held_known hz hT fun h0 hz0 hs0 => ?_)
  simp only [Bool.false_eq_true, if_false]
  refine wpAny_bind ?_
  rw [← Array.forIn_toList]
  simp only [List.forIn_cons, List.forIn_nil]
  have K0 : ∀ (d : Nat) (o : Obj), d ≠ c + 4 → s.heap.get? d = some o → h0.get? d = some o := fun d o e x => hs0.extBut _ _ e x
  refine wpAny_bind (wpAny_bind (wpAny_holding ?_))
  show wpAny _ _ (Builtin.SmallTypes.nextOrEnd (.ref (c))) _ _ _
  refine oe_item (s := { s with heap := h0 }) (hi0.at fun o x => K0 _ o (show ((c : Nat)) ≠ (c + 4) by omega) x) (L0.at fun o x => K0 _ o (show ((l0 : Nat)) ≠ (c + 4) by omega) x) hx0 fun h1 hj0 hs1 => ?_
  have K1 : ∀ (d : Nat) (o : Obj), d ≠ c + 4 → d ≠ c → s.heap.get? d = some o → h1.get? d = some o := fun d o e0 e1 x => hs1.extBut _ _ e1 (K0 d o e0 x)
  refine wpAny_pure ?_
  refine wpAny_bind (wpAny_bind (wpAny_holding ?_))
  show wpAny _ _ (Builtin.SmallTypes.nextOrEnd (.ref (c + 1))) _ _ _
  refine oe_item (s := { s with heap := h1 }) (hi1.at fun o x => K1 _ o (show ((c + 1 : Nat)) ≠ (c + 4) by omega) (show ((c + 1 : Nat)) ≠ (c) by omega) x) (L1.at fun o x => K1 _ o (show ((l1 : Nat)) ≠ (c + 4) by omega) (show ((l1 : Nat)) ≠ (c) by omega) x) hx1 fun h2 hj1 hs2 => ?_
  have K2 : ∀ (d : Nat) (o : Obj), d ≠ c + 4 → d ≠ c → d ≠ c + 1 → s.heap.get? d = some o → h2.get? d = some o := fun d o e0 e1 e2 x => hs2.extBut _ _ e2 (K1 d o e0 e1 x)
  refine wpAny_pure ?_
  refine wpAny_pure ?_
  show wpAny _ _ (newTuple [x0, x1] >>= _) _ _ _
  refine wpAny_bind (wpAny_newTuple ?_)
  have hsz : h2.objs.size = s.heap.objs.size := by rw [hs2.1, hs1.1, hs0.1]
  refine wpAny_pure ⟨_, rfl, ?_⟩
  show Q (.ref h2.objs.size) _
  rw [hsz]
  refine hQ _ (Heap.get?_push_of_some _ (hs2.extBut _ _ (show ((c + 4 : Nat)) ≠ (c + 1) by omega) (hs1.extBut _ _ (show ((c + 4 : Nat)) ≠ (c) by omega) hz0))) ⟨b0, hb, Heap.get?_push_of_some _ (K2 _ _ (show ((c + 3 : Nat)) ≠ (c + 4) by omega) (show ((c + 3 : Nat)) ≠ (c) by omega) (show ((c + 3 : Nat)) ≠ (c + 1) by omega) hTO)⟩ (Heap.IsListIter.at ((hj0.extBut hs2.extBut (show ((c : Nat)) ≠ (c + 1) by omega))) fun o x => Heap.get?_push_of_some _ x) (Heap.IsListIter.at (hj1) fun o x => Heap.get?_push_of_some _ x) ?_ (by rw [Heap.size_push, hsz]) fun d o e0 e1 e2 e3 x => Heap.get?_push_of_some _ (K2 d o e0 e2 e3 x)
  rw [← hsz]
  exact Heap.get?_push_size _ rfl
theorem zs2_endH {c k l0 l1 T : Nat} {f1 : Bool} {a0 a1 : Array Value} {b0 : Array Value} {oT : Obj} {Q : Fin → Shared → Prop} (hh : A.handled = none) (g0 : l0 < c) (g1 : l1 < c)
    (hz : ZS s.heap (c + 4) (c + 2) (c + 3) (rawInt T) f1) (hT : s.heap.get? T = some oT) (hTI : TU s.heap (c + 2) #[.ref (c), .ref (c + 1)]) (hi0 : s.heap.IsListIter (c) l0 k) (L0 : s.heap.IsList l0 a0) (hi1 : s.heap.IsListIter (c + 1) l1 k) (L1 : s.heap.IsList l1 a1)
    (hx0 : a0[k]? = none) (hx1 : a1[k]? = none)
    (hE : ∀ h' e, (∀ (d : Nat) (o : Obj), d ≠ c + 4 → d ≠ c + 3 → d ≠ c → d ≠ c + 1 → s.heap.get? d = some o → h'.get? d = some o) → (∃ o, h'.get? e = some o ∧ o.cls = .type "StopIteration") → E (.ref e) { s with heap := h' }) :
    wpAny (model prog w) A (Builtin.«zip.__next__» ⟨[.ref (c + 4)], []⟩) Q E s := by
  show wpAny _ _ (field (.ref (c + 4)) 2 >>= _) _ _ _
  refine wpAny_bind (wpAny_field hz rfl (x := .bool true) rfl ?_)
  show wpAny _ _ (field (.ref (c + 4)) 3 >>= _) _ _ _
  refine wpAny_bind (wpAny_field hz rfl (x := .ref (c + 2)) rfl ?_)
  refine wpAny_bind (wpAny_seqItems hTI rfl ?_)
  show wpAny _ _ (Builtin.SmallTypes.ownedTupleIsFree (.ref (c + 4)) >>= _) _ _ _
  refine wpAny_bind (held_known hz hT fun h0 hz0 hs0 => ?_)
  simp only [Bool.false_eq_true, if_false]
  refine wpAny_bind ?_
  rw [← Array.forIn_toList]
  simp only [List.forIn_cons, List.forIn_nil]
  refine wpAny_bind (wpAny_bind (wpAny_holding ?_))
  have K0 : ∀ (d : Nat) (o : Obj), d ≠ c + 4 → s.heap.get? d = some o → h0.get? d = some o := fun d o e x => hs0.extBut _ _ e x
  show wpAny _ _ (Builtin.SmallTypes.nextOrEnd (.ref (c))) _ _ _
  refine oe_end (s := { s with heap := h0 }) hh (hi0.at fun o x => K0 _ o (show ((c : Nat)) ≠ (c + 4) by omega) x) (L0.at fun o x => K0 _ o (show ((l0 : Nat)) ≠ (c + 4) by omega) x) hx0 fun h1 hs1 => ?_
  have K1 : ∀ (d : Nat) (o : Obj), d ≠ c + 4 → d ≠ c → s.heap.get? d = some o → h1.get? d = some o := fun d o e0 e1 x => hs1 d o e1 (K0 d o e0 x)
  have KZ : ∀ (d : Nat) (o : Obj), d ≠ c + 4 → d ≠ c → s.heap.get? d = some o → h1.get? d = some o := K1
  refine wpAny_bind ?_
  show wpAny _ _ (forIn (m := Sem) _ _ _ >>= _) _ _ _
  simp only [List.drop_succ_cons, List.drop_zero, List.zipIdx_cons, List.zipIdx_nil, List.forIn_cons, List.forIn_nil]
  refine wpAny_bind (wpAny_bind ?_)
  refine wpAny_bind (oe_end (s := { s with heap := h1 }) hh (hi1.at fun o x => K1 _ o (show ((c + 1 : Nat)) ≠ (c + 4) by omega) (show ((c + 1 : Nat)) ≠ (c) by omega) x) (L1.at fun o x => K1 _ o (show ((l1 : Nat)) ≠ (c + 4) by omega) (show ((l1 : Nat)) ≠ (c) by omega) x) hx1 fun h2 hs2 => ?_)
  have K2 : ∀ (d : Nat) (o : Obj), d ≠ c + 4 → d ≠ c → d ≠ c + 1 → s.heap.get? d = some o → h2.get? d = some o := fun d o e0 e1 e2 x => hs2 d o e2 (K1 d o e0 e1 x)
  simp only [Option.isSome_none, Bool.false_eq_true, if_false]
  refine wpAny_pure ?_
  refine wpAny_pure ?_
  refine wpAny_bind (wpAny_rule ?_)
  exact stop_it (s := { s with heap := h2 }) hh fun h9 e kk he => hE h9 e (fun d o e0 e1 e2 e3 x => kk _ _ (K2 d o e0 e2 e3 x)) he
end
end AZ
end
section
set_option maxRecDepth 100000
set_option maxHeartbeats 4000000
namespace AZ
open PySem PySem.Spec PyProof.Rows L2
section
variable {prog : Program} {w : World} {A : Around} {E : Value → Shared → Prop} {s : Shared}
theorem zs2_nextIH {c k l0 l1 T : Nat} {f1 : Bool} {a0 a1 : Array Value} {x0 x1 : Value} {b0 : Array Value} {oT : Obj} {Q : Option Value → Shared → Prop} (g0 : l0 < c) (g1 : l1 < c)
    (hz : ZS s.heap (c + 4) (c + 2) (c + 3) (rawInt T) f1) (hT : s.heap.get? T = some oT) (hTI : TU s.heap (c + 2) #[.ref (c), .ref (c + 1)]) (hTO : TU s.heap (c + 3) b0) (hb : b0.size = 2) (hi0 : s.heap.IsListIter (c) l0 k) (L0 : s.heap.IsList l0 a0) (hi1 : s.heap.IsListIter (c + 1) l1 k) (L1 : s.heap.IsList l1 a1)
    (hx0 : a0[k]? = some x0) (hx1 : a1[k]? = some x1)
    (hQ : ∀ h', ZS h' (c + 4) (c + 2) (c + 3) (rawInt T) true → (∃ b1 : Array Value, b1.size = 2 ∧ TU h' (c + 3) b1) → h'.IsListIter (c) l0 (k + 1) → h'.IsListIter (c + 1) l1 (k + 1) → TU h' s.heap.objs.size #[x0, x1] → h'.objs.size = s.heap.objs.size + 1 →
      (∀ (d : Nat) (o : Obj), d ≠ c + 4 → d ≠ c + 3 → d ≠ c → d ≠ c + 1 → s.heap.get? d = some o → h'.get? d = some o) → Q (some (.ref s.heap.objs.size)) { s with heap := h' }) :
    wpAny (model prog w) A (pyNext (.ref (c + 4))) Q E s := by
  have hTy : s.TypeIs (.ref (c + 4)) "zip" := ⟨_, hz, rfl⟩
  unfold pyNext
  exact wpAny_bind (wpAny_attempt (wpAny_callSpecial?_slot (name := Str.ofString "__next__") hTy F.slot_zip_next
    (wpAny_call_entry F.slot_zip_next hTy F.entry_zip_next
      (zs2_held g0 g1 hz hT hTI hTO hb hi0 L0 hi1 L1 hx0 hx1 fun h' a1 a2 a3 a4 a5 a6 a7 => wpAny_pure (hQ h' a1 a2 a3 a4 a5 a6 a7)) (F.args_zip_next_1 _))))
theorem zs2_nextEH {c k l0 l1 T : Nat} {f1 : Bool} {a0 a1 : Array Value} {oT : Obj} {Q : Option Value → Shared → Prop} (hh : A.handled = none) (g0 : l0 < c) (g1 : l1 < c)
    (hz : ZS s.heap (c + 4) (c + 2) (c + 3) (rawInt T) f1) (hT : s.heap.get? T = some oT) (hTI : TU s.heap (c + 2) #[.ref (c), .ref (c + 1)]) (hi0 : s.heap.IsListIter (c) l0 k) (L0 : s.heap.IsList l0 a0) (hi1 : s.heap.IsListIter (c + 1) l1 k) (L1 : s.heap.IsList l1 a1)
    (hx0 : a0[k]? = none) (hx1 : a1[k]? = none)
    (hQ : ∀ h', (∀ (d : Nat) (o : Obj), d ≠ c + 4 → d ≠ c + 3 → d ≠ c → d ≠ c + 1 → s.heap.get? d = some o → h'.get? d = some o) → Q none { s with heap := h' }) :
    wpAny (model prog w) A (pyNext (.ref (c + 4))) Q E s := by
  have hTy : s.TypeIs (.ref (c + 4)) "zip" := ⟨_, hz, rfl⟩
  unfold pyNext
  refine wpAny_bind (wpAny_attempt (wpAny_callSpecial?_slot (name := Str.ofString "__next__") hTy F.slot_zip_next
    (wpAny_call_entry F.slot_zip_next hTy F.entry_zip_next (zs2_endH (b0 := #[]) hh g0 g1 hz hT hTI hi0 L0 hi1 L1 hx0 hx1 fun h' e hk he => ?_) (F.args_zip_next_1 _))))
  obtain ⟨o, ho, hc⟩ := he
  refine wpAny_bind (wpAny_isInstance (T := "StopIteration") (b := true) ⟨o, ho, hc⟩ isSubtype_stop ?_)
  exact wpAny_pure (hQ _ hk)
end
theorem zs_noKeys {A : Around} {prog : Program} {w : World} {s : Shared} {z TI TO : Nat} {f0 : Value} {f1 : Bool} {Q : Option Value → Shared → Prop} {E : Value → Shared → Prop} (hA : A.handled = none) (hz : ZS s.heap z TI TO f0 f1)
    (h : ∀ h' tk, (∀ b o, s.heap.get? b = some o → h'.get? b = some o) → Q none { s with heap := h', toks := tk }) : wpAny (model prog w) A (getAttr? (.ref z) "keys") Q E s :=
  getAttrOr_miss_zip hz rfl rfl rfl zip_no_keys (by decide +kernel) hA h
/-- zip(xs, ys, strict=True) as what dict() takes -/
theorem pairArgS {prog : Program} {w : World} {c l0 l1 : Nat} (g0 : l0 < c) (g1 : l1 < c) (xs ys : Array Value) (hl : xs.size = ys.size) :
    PairArg prog w "zip" (c + 4) [c + 4, c + 2, c + 3, c, c + 1, l0, l1] [c + 4, c + 3, c, c + 1] xs.size (fun i k v => xs[i]? = some k ∧ ys[i]? = some v)
      (fun h => ZS h (c + 4) (c + 2) (c + 3) .none false ∧ TU h (c + 2) #[.ref c, .ref (c + 1)] ∧ (∃ b0 : Array Value, b0.size = 2 ∧ TU h (c + 3) b0) ∧ h.IsListIter c l0 0 ∧ h.IsListIter (c + 1) l1 0 ∧ h.IsList l0 xs ∧ h.IsList l1 ys) where
  type := fun s ok => ⟨_, ok.1, rfl⟩
  notDict := by decide
  keep := fun h h' ok hk => by
    obtain ⟨hz, hTI, ⟨b, sb, hTO⟩, h1, h2, hl1, hl2⟩ := ok
    exact ⟨hk _ _ hz, hk _ _ hTI, ⟨b, sb, hk _ _ hTO⟩, h1.at fun o e => hk _ o e, h2.at fun o e => hk _ o e, hl1.at fun o e => hk _ o e, hl2.at fun o e => hk _ o e⟩
  there := fun h ok b hb => by
    obtain ⟨hz, hTI, ⟨c, _, hTO⟩, ⟨o1, h1, _⟩, ⟨o2, h2, _⟩, ⟨o3, hl1, _⟩, ⟨o4, hl2, _⟩⟩ := ok
    simp only [List.mem_cons, List.not_mem_nil, or_false] at hb
    rcases hb with rfl | rfl | rfl | rfl | rfl | rfl | rfl
    · exact ⟨_, hz⟩
    · exact ⟨_, hTI⟩
    · exact ⟨_, hTO⟩
    · exact ⟨_, h1⟩
    · exact ⟨_, h2⟩
    · exact ⟨_, hl1⟩
    · exact ⟨_, hl2⟩
  sub := fun b hb => by
    simp at hb ⊢
    rcases hb with rfl | rfl | rfl | rfl <;> simp
  noKeys := fun A s Q E hA ok h => zs_noKeys hA ok.1 h
  iter := fun A s d Q E hA ok hd hdf h => by
    obtain ⟨hz, hTI, ⟨b, sb, hTO⟩, h1, h2, hl1, hl2⟩ := ok
    simp only [List.mem_cons, List.not_mem_nil, or_false, not_or] at hdf
    obtain ⟨dz, dTI, dTO, di1, di2, dl1, dl2⟩ := hdf
    refine zs_iter hz (h (c + 4) [c + 4, c + 3, c, c + 1] (fun i h => TU h (c + 2) #[.ref c, .ref (c + 1)] ∧ (∃ b0 : Array Value, b0.size = 2 ∧ TU h (c + 3) b0) ∧ h.IsListIter c l0 i ∧ h.IsListIter (c + 1) l1 i ∧ h.IsList l0 xs ∧ h.IsList l1 ys ∧
      (ZS h (c + 4) (c + 2) (c + 3) .none false ∨ ∃ (T : Nat) (f : Bool) (oT : Obj), ZS h (c + 4) (c + 2) (c + 3) (rawInt T) f ∧ h.get? T = some oT ∧ T ≠ c + 4 ∧ T ≠ c + 3 ∧ T ≠ c ∧ T ≠ c + 1 ∧ T ≠ d)) s.heap s.toks ?_
      ⟨hTI, ⟨b, sb, hTO⟩, h1, h2, hl1, hl2, .inl hz⟩ (fun _ _ e => e) fun b hb => .inl hb)
    have nl1 : l0 ≠ c + 4 ∧ l0 ≠ c + 3 ∧ l0 ≠ c ∧ l0 ≠ c + 1 := by omega
    have nl2 : l1 ≠ c + 4 ∧ l1 ≠ c + 3 ∧ l1 ≠ c ∧ l1 ≠ c + 1 := by omega
    exact {
      off := fun hm => by
        simp only [List.mem_cons, List.not_mem_nil, or_false] at hm
        rcases hm with e | e | e | e
        · exact dz e
        · exact dTO e
        · exact di1 e
        · exact di2 e
      frame := fun i h₁ h₂ st hk => by
        obtain ⟨hTI, ⟨b, sb, hTO⟩, h1, h2, hl1, hl2, hz⟩ := st
        refine ⟨hk _ _ (Ne.symm dTI) hTI, ⟨b, sb, hk _ _ (Ne.symm dTO) hTO⟩, h1.at fun o e => hk _ o (Ne.symm di1) e, h2.at fun o e => hk _ o (Ne.symm di2) e, hl1.at fun o e => hk _ o (Ne.symm dl1) e, hl2.at fun o e => hk _ o (Ne.symm dl2) e, ?_⟩
        rcases hz with hz | ⟨T, f, oT, hz, hT, r1, r2, r3, r4, r5⟩
        · exact .inl (hk _ _ (Ne.symm dz) hz)
        · exact .inr ⟨T, f, oT, hk _ _ (Ne.symm dz) hz, hk _ _ r5 hT, r1, r2, r3, r4, r5⟩
      item := fun i s₁ Q₁ E₁ hi st hds hQ => by
        obtain ⟨hTI, ⟨b, sb, hTO⟩, h1, h2, hl1, hl2, hz⟩ := st
        have hix : i < xs.size := hi
        have hiy : i < ys.size := by omega
        have ex := Array.getElem?_eq_getElem hix
        have ey := Array.getElem?_eq_getElem hiy
        have lt : ∀ {c o}, s₁.heap.get? c = some o → s₁.heap.objs.size ≠ c := fun e => Nat.ne_of_gt (Heap.lt_size e)
        have n1 : s₁.heap.objs.size ≠ c := let ⟨_, e, _⟩ := h1; lt e
        have n2 : s₁.heap.objs.size ≠ c + 1 := let ⟨_, e, _⟩ := h2; lt e
        rcases hz with hz | ⟨T, f, oT, hz, hT, r1, r2, r3, r4, r5⟩
        · refine zs2_nextI g0 g1 hz hTI hTO sb h1 hl1 h2 hl2 ex ey fun h' b1 b2 b3 b4 b5 b6 hk => ?_
          exact hQ s₁.heap.objs.size _ _ h' s₁.toks ⟨ex, ey⟩ (.inl ⟨_, b5, rfl, _, rfl⟩)
            ⟨hk _ _ (by omega) (by omega) (by omega) (by omega) hTI, b2, b3, b4, hl1.at fun o e => hk _ o nl1.1 nl1.2.1 nl1.2.2.1 nl1.2.2.2 e, hl2.at fun o e => hk _ o nl2.1 nl2.2.1 nl2.2.2.1 nl2.2.2.2 e,
              .inr ⟨s₁.heap.objs.size, false, _, b1, b5, lt hz, lt hTO, n1, n2, Nat.ne_of_gt hds⟩⟩
            fun q o hc e => hk q o (fun x => hc (by simp [x])) (fun x => hc (by simp [x])) (fun x => hc (by simp [x])) (fun x => hc (by simp [x])) e
        · refine zs2_nextIH g0 g1 hz hT hTI hTO sb h1 hl1 h2 hl2 ex ey fun h' b1 b2 b3 b4 b5 b6 hk => ?_
          exact hQ s₁.heap.objs.size _ _ h' s₁.toks ⟨ex, ey⟩ (.inl ⟨_, b5, rfl, _, rfl⟩)
            ⟨hk _ _ (by omega) (by omega) (by omega) (by omega) hTI, b2, b3, b4, hl1.at fun o e => hk _ o nl1.1 nl1.2.1 nl1.2.2.1 nl1.2.2.2 e, hl2.at fun o e => hk _ o nl2.1 nl2.2.1 nl2.2.2.1 nl2.2.2.2 e,
              .inr ⟨T, true, oT, b1, hk _ _ r1 r2 r3 r4 hT, r1, r2, r3, r4, r5⟩⟩
            fun q o hc e => hk q o (fun x => hc (by simp [x])) (fun x => hc (by simp [x])) (fun x => hc (by simp [x])) (fun x => hc (by simp [x])) e
      done := fun s₁ Q₁ E₁ st hQ => by
        obtain ⟨hTI, ⟨b, sb, hTO⟩, h1, h2, hl1, hl2, hz⟩ := st
        have e1 : xs[xs.size]? = none := Array.getElem?_eq_none (Nat.le_refl _)
        have e2 : ys[xs.size]? = none := Array.getElem?_eq_none (by omega)
        rcases hz with hz | ⟨T, f, oT, hz, hT, r1, r2, r3, r4, r5⟩
        · exact zs2_nextE hA g0 g1 hz hTI h1 hl1 h2 hl2 e1 e2 fun h' hk => hQ h' s₁.toks fun q o hc e => hk q o (fun x => hc (by simp [x])) (fun x => hc (by simp [x])) (fun x => hc (by simp [x])) (fun x => hc (by simp [x])) e
        · exact zs2_nextEH hA g0 g1 hz hT hTI h1 hl1 h2 hl2 e1 e2 fun h' hk => hQ h' s₁.toks fun q o hc e => hk q o (fun x => hc (by simp [x])) (fun x => hc (by simp [x])) (fun x => hc (by simp [x])) (fun x => hc (by simp [x])) e }

/-- dict(zip(ks, ys, strict=True)), ks ints -/
def rDictZ (K : PySem.W.Frag) : List V → Hp → VK → Prop := fun vs H Q => ∃ (a b : Addr) (ks : List Int) (ys : List V), vs = [.ref a, .ref b] ∧ SqL K H a (ks.map V.int) ∧ SqL K H b ys ∧ ks.length = ys.length ∧
  ∀ p, H p = none → Q (.ref p) (upd H p (.dK (mergeK [] ((ks.map Sum.inl).zip ys))))
theorem kv_zip : ∀ {ks : List Int} {ys : List V} {us : List Value}, Vals ys us → KV ((ks.map (Sum.inl : Int → Key)).zip ys) ((ks.map (Sum.inl : Int → Key)).zip us)
  | [], _, _, _ => .nil
  | k :: ks, _, _, .nil => .nil
  | k :: ks, _, _, .cons r t => .cons ⟨rfl, r⟩ (kv_zip t)
theorem pe_dictZipS {X : Cx} {e e2 : Expr} {ta : TA} {p p2 pos pos2 kp kpos : Pos} {jj : Nat} (hcalm : X.calm = true) (hg : Gl X "dict") (hm : X.mg "dict" = none) (hg2 : Gl X "zip") (hm2 : X.mg "zip" = none) (ha : PA X [e, e2] ta)
    (hs : backTo pos2 (starEach [e, e2] X.env) = (false, eval e X.env) :: backTo pos2 (starEach [e2] X.env) := by rfl) (hpl : (backTo pos2 (starEach [e, e2] X.env)).any (·.1) = false := by rfl)
    (hs1 : starEach [.Call (.Name "zip" p2) [e, e2] [⟨some "strict", .Constant (.bool true) jj kp, kpos⟩] pos2] X.env = (false, eval (.Call (.Name "zip" p2) [e, e2] [⟨some "strict", .Constant (.bool true) jj kp, kpos⟩] pos2) X.env) :: starEach [] X.env := by rfl)
    (hpl1 : (backTo pos (starEach [] X.env)).any (·.1) = false := by rfl) :
    PE X (.Call (.Name "dict" p) [.Call (.Name "zip" p2) [e, e2] [⟨some "strict", .Constant (.bool true) jj kp, kpos⟩] pos2] [] pos) (tCB (rDictZ X.K) ta) := by
  refine ⟨fun pins s σ H R I h => ?_⟩
  refine wpAny_Call_Name_kw (ld_blt I hg hm (u := .type "dict") (by rfl) ?_ (by decide) (by decide))
  refine PyProof.Rows.callWith_type1 ?_ hs1 hpl1
  rw [hs1]
  show wpAny _ _ (spliced [(false, eval (.Call (.Name "zip" p2) [e, e2] [⟨some "strict", .Constant (.bool true) jj kp, kpos⟩] pos2) X.env)]) _ _ s
  refine Calls.spliced_cons ?_
  refine wpAny_Call_Name_kw (ld_blt I hg2 hm2 PyProof.Rows.boot_zip (with_kw (thn (ha.run pos2 pins s σ H _ I h) fun us s1 ⟨vs, H1, I1, r1, q1⟩ => ?_) hs hpl))
  obtain ⟨a, b, ks, ys, ex, hq0, hq1, hl, q⟩ := q1
  subst ex
  refine kws_cons (Constant_bool (evalAll_nil ?_))
  have eu : us = [.ref a, .ref b] := by
    cases r1 with
    | cons r0 rr0 =>
      cases rr0 with
      | cons r1 rr1 =>
        cases rr1
        cases r0
        cases r1
        rfl
  subst eu
  obtain ⟨it0, rv0, p0, z0⟩ := I1.list hq0
  obtain ⟨it1, rv1, p1, _⟩ := I1.list hq1
  have l0 := rv0.length
  have l1 := rv1.length
  rw [List.length_map] at l0 z0
  refine call_zs2 p0.isList p1.isList fun hp hz hTI hTO i0 i1 hsz hk => Calls.spliced_nil ?_
  have I2 : Inv X pins σ H1 { s1 with heap := hp } := I1.kept (t' := s1.toks) hk
  refine PySem.call_dict_pairs (knd := mixKind X.prog X.w) (kvs := (ks.map (Sum.inl : Int → Key)).zip it1) (pairArgS p0.lt p1.lt it0.toArray it1.toArray (by simp; omega)) (I.ok.hd hcalm) ⟨hz, hTI, ⟨_, rfl, hTO⟩, i0, i1, p0.isList.at fun o x => hk _ o x, p1.isList.at fun o x => hk _ o x⟩ ⟨by simp; omega, fun i key v hkv => ?_⟩ (by simp; omega) fun h' tk hd' hk' => ?_
  · obtain ⟨h1, h2⟩ := hkv
    have h1' : it0[i]? = some key := by simpa using h1
    have h2' : it1[i]? = some v := by simpa using h2
    have hi : i < ks.length := by have := (List.getElem?_eq_some_iff.mp h1').1; omega
    obtain ⟨u, hu, ru⟩ := rv0.get (i := i) (x := .int ks[i]) (by simp [hi])
    rw [h1'] at hu
    cases hu
    refine ⟨.inl ks[i], ?_, kV_is (P := X.prog) (w := X.w) (k := .inl ks[i]) ru⟩
    rw [List.getElem?_zip_eq_some]
    exact ⟨by simp [hi], h2'⟩
  · have hold : ∀ b o, s1.heap.get? b = some o → h'.get? b = some o := fun b o x => hk' b o (by
      have hb : b < s1.heap.objs.size := Heap.lt_size x
      have hc : ∀ n : Nat, b ≠ s1.heap.objs.size + n := fun n => Nat.ne_of_lt (Nat.lt_of_lt_of_le hb (Nat.le_add_right _ _))
      simp
      exact ⟨hc 4, hc 3, hc 0, hc 1⟩) (hk b o x)
    have hle : s1.heap.objs.size ≤ hp.objs.size := by omega
    have hbig : sysModules < s1.heap.objs.size := I1.big
    have hm : (hp.objs.size == sysModules) = false := beq_eq_false_iff_ne.mpr (Nat.ne_of_gt (Nat.lt_of_lt_of_le hbig hle))
    have hlen : (mergeK [] ((ks.map (Sum.inl : Int → Key)).zip ys)).length ≤ sizeLine := by
      refine Nat.le_trans (length_mergeK _ []) ?_
      simp
      omega
    exact ⟨.ref hp.objs.size, upd H1 hp.objs.size (.dK (mergeK [] ((ks.map (Sum.inl : Int → Key)).zip ys))), I1.laid (t' := tk) hold hle (show ObjOk X.prog X.w _ _ _ (.dK _) from ⟨hlen, hm, _, KV.merge (kv_zip rv1) .nil, hd'⟩), rfl, q _ (I1.hok.fresh hle)⟩
end AZ
end
section
set_option maxRecDepth 100000
set_option maxHeartbeats 4000000
namespace AC
open PySem PySem.Spec PyProof.Rows L2
open Sem (wp)
theorem mro_cb : mroOf (.type "itertools.combinations") = pure [.type "itertools.combinations", .type "object"] := by rw [mroOf_type]; kernel_rfl
theorem lookup_new : typeLookup (.type "itertools.combinations") "__new__" = pure (some (.builtin "itertools.combinations.__new__")) := by rw [typeLookup_type, builtinLookup_eq_fast]; kernel_rfl
theorem sub_cb : isSubtype (.type "itertools.combinations") (.type "itertools.combinations") = pure true := by rw [isSubtype_type]; kernel_rfl
theorem slot_init : Slot "itertools.combinations" "__init__" "object.__init__" :=
  Slot.of (owner := "object") (n := "__init__") (by rw [typeLookup_type, builtinLookup_eq_fast]; kernel_rfl) (by decide +kernel) (by decide +kernel) (by decide +kernel) (Or.inl (by decide +kernel)) (by rw [isSubtype_type]; kernel_rfl)
theorem called_cb : TypeCalled "itertools.combinations" "itertools.combinations.__new__" "object.__init__" := ⟨by decide +kernel, by decide +kernel, ⟨_, _, mro_cb⟩, madeBy_type mro_cb lookup_new (by decide +kernel), by decide +kernel, sub_cb, slot_init⟩
theorem tc_cb (a b : Value) : checkTypeCall "itertools.combinations" ⟨[a, b], []⟩ = pure () := by kernel_rfl
theorem nc_cb (a b : Value) : checkBuiltinCall "itertools.combinations.__new__" ⟨[.type "itertools.combinations", a, b], []⟩ = pure () := by kernel_rfl
theorem entry_new : entryFor table "itertools.combinations.__new__" = some Builtin.«itertools.combinations.__new__» := entryFor_of_tree (by kernel_rfl)
theorem plain_new : plainId "itertools.combinations.__new__" = true := by decide +kernel
theorem slot_it : Slot "itertools.combinations" "__iter__" "itertools.combinations.__iter__" :=
  Slot.of (owner := "itertools.combinations") (n := "__iter__") (by rw [typeLookup_type, builtinLookup_eq_fast]; kernel_rfl) (by decide +kernel) (by decide +kernel) (by decide +kernel) (Or.inl (by decide +kernel)) sub_cb
theorem slot_nx : Slot "itertools.combinations" "__next__" "itertools.combinations.__next__" :=
  Slot.of (owner := "itertools.combinations") (n := "__next__") (by rw [typeLookup_type, builtinLookup_eq_fast]; kernel_rfl) (by decide +kernel) (by decide +kernel) (by decide +kernel) (Or.inl (by decide +kernel)) sub_cb
theorem entry_it : entryFor table "itertools.combinations.__iter__" = some Builtin.«dict_keyiterator.__iter__» :=
  entryFor_alias (id' := "dict_keyiterator.__iter__") (by kernel_rfl) (by first | rfl | decide +kernel | (unfold String.splitOn; simp +decide [String.splitOnAux])) (by decide +kernel) (by kernel_rfl)
theorem entry_nx : entryFor table "itertools.combinations.__next__" = some Builtin.«itertools.combinations.__next__» := entryFor_of_tree (by kernel_rfl)
theorem args_it (a : Value) : argsOk "itertools.combinations.__iter__" ⟨[a], []⟩ := by unfold argsOk; kernel_rfl
theorem args_nx (a : Value) : argsOk "itertools.combinations.__next__" ⟨[a], []⟩ := by unfold argsOk; kernel_rfl
theorem noDict_cb : typeHasDict (.type "itertools.combinations") = false := by decide +kernel
end AC
end
section
set_option maxRecDepth 100000
set_option maxHeartbeats 4000000
namespace AC
open PySem PySem.Spec PyProof.Rows L2
open Sem (wp)
/-- the machine's record: the pool, whether it runs, what it gave last, its places -/
abbrev CB (h : Heap) (z P : Nat) (st : Int) (last : Value) (idx : List Nat) : Prop := h.get? z = some { cls := .type "itertools.combinations", dict := none, data := .fields ([.ref P, rawInt st, last] ++ idx.map fun (n : Nat) => rawInt (n : Int)).toArray, slots := #[] }
section
variable {prog : Program} {w : World} {A : Around} {E : Value → Shared → Prop} {s : Shared}
theorem code_cb {r : Addr} {n k : Nat} {t u v tt : Tok} {Q1 : Value → Shared → Prop} (hh : A.handled = none) (hr : IsRange s.heap r 0 n 1 t u v) (hn : n ≤ 1000) (hk : k ≤ n)
    (h : ∀ (h' : Heap) (tk : Nat) (acc : Array Value), (∀ b o, s.heap.get? b = some o → h'.get? b = some o) → ItemsOf (fun i v => ∃ t, v = .int ((0 : Int) + i * 1) t) acc n →
      Q1 (.ref (h'.push { cls := .type "tuple", data := .seq acc }).objs.size) { s with heap := (h'.push { cls := .type "tuple", data := .seq acc }).push { cls := .type "itertools.combinations", data := .fields ([.ref h'.objs.size, rawInt 0, .none] ++ (List.range k).map fun (n : Nat) => rawInt (n : Int)).toArray }, toks := tk }) :
    codeAny (model prog w) A (.call (.builtin "itertools.combinations.__new__") ⟨[.type "itertools.combinations", .ref r, .int k tt], []⟩) (wants Q1 E) s := by
  refine codeAny_of_tree ?_
  show wpAny _ A.in1 (do checkBuiltinCall "itertools.combinations.__new__" ⟨[.type "itertools.combinations", .ref r, .int k tt], []⟩; again (.builtin "itertools.combinations.__new__" ⟨[.type "itertools.combinations", .ref r, .int k tt], []⟩)) _ _ s
  refine wpAny_bind (wpAny_of_eq (nc_cb _ _) (wpAny_pure ⟨plainId_quiet plain_new _, codeAny_builtin entry_new ?_⟩))
  rw [Around.under_plainId plain_new _]
  have hsub := sub_cb
  have hd := noDict_cb
  have hh1 : A.in1.handled = none := hh
  have q1 : ¬ ((k : Int) < -(2 ^ 63)) := by omega
  have q2 : ¬ ((k : Int) ≥ 2 ^ 63) := by omega
  have q3 : ¬ ((k : Int) < 0) := by omega
  have e0 : ("itertools." ++ "combinations" : String) = "itertools.combinations" := by decide
  wp_walk
  rw [e0]
  refine wpAny_of_eq hsub ?_
  show wpAny _ _ (pure (Value.type "itertools.combinations", [Value.ref r, Value.int (↑k) tt])) _ _ _
  refine wpAny_pure ?_
  show wpAny _ _ (Builtin.Itertools.itBindNamed "combinations" ["iterable", "r"] 2 2 [Value.ref r, Value.int (↑k) tt] [] >>= _) _ _ _
  refine wpAny_bind (wpAny_of_eq (show Builtin.Itertools.itBindNamed "combinations" ["iterable", "r"] 2 2 [Value.ref r, Value.int (↑k) tt] [] = pure [some (.ref r), some (.int (↑k) tt)] by rfl) ?_)
  show wpAny _ _ (Builtin.Itertools.itSsizeArg (.int (↑k) tt) >>= _) _ _ _
  refine wpAny_bind ?_
  show wpAny _ _ (if ((decide ((k : Int) < -(2 ^ 63 : Int)) || decide ((k : Int) ≥ 2 ^ 63)) = true) then _ else _) _ _ _
  rw [if_neg (by simp; omega)]
  refine wpAny_pure ?_
  refine wpAny_bind (collect_range (n := n) (A := A.in1) hh1 hr (small_one (by omega) (by omega) (by omega) (by omega)) (by rw [rangeSize_nat]; omega) (by omega) fun h' tk acc hk' hi => ?_)
  rw [if_neg (by omega)]
  show wpAny _ _ (if Builtin.Itertools.itTooMany (k : Int) = true then _ else _) _ _ _
  rw [if_neg (by unfold Builtin.Itertools.itTooMany; simp; omega)]
  have hal : acc.toList.length = n := by rw [Array.length_toList]; exact hi.1
  show wpAny _ _ (newTuple acc.toList >>= _) _ _ _
  refine wpAny_bind (wpAny_newTuple ?_ (by rw [hal, sizeLine_eq]; omega))
  refine wpAny_pure ?_
  show wpAny _ _ (Builtin.Itertools.itNewRecord (.type "itertools.combinations") ([Value.ref h'.objs.size, rawInt (if ((k : Int).toNat > acc.toList.length) then 2 else 0), Value.none] ++ (List.range (k : Int).toNat).map fun (i : Nat) => rawInt (i : Int)) >>= _) _ _ _
  rw [if_neg (by rw [hal]; omega), Int.toNat_natCast]
  refine wpAny_bind ?_
  unfold Builtin.Itertools.itNewRecord
  rw [hd]
  rw [if_pos (by decide)]
  refine wpAny_newObj_type ?_ (by show _ ≤ sizeLine + 2; rw [List.size_toArray, List.length_append, List.length_map, List.length_range]; have : 3 ≤ sizeLine + 2 := by decide
                                  rw [sizeLine_eq]; simp; omega)
  refine wpAny_pure ?_
  have e : acc.toList.toArray = acc := by simp
  rw [e]
  exact h h' tk acc hk' hi
/-- combinations(range(n), k) -/
theorem call_cb {r : Addr} {n k : Nat} {t u v tt : Tok} {Q : Value → Shared → Prop} (hh : A.handled = none) (hr : IsRange s.heap r 0 n 1 t u v) (hn : n ≤ 1000) (hk : k ≤ n)
    (h : ∀ (h0 h' : Heap) (tk : Nat) (acc : Array Value) (P : Nat), h0.objs.size = P → (∀ b o, s.heap.get? b = some o → h0.get? b = some o) → (∀ b o, h0.get? b = some o → h'.get? b = some o) → ItemsOf (fun i v => ∃ t, v = .int ((0 : Int) + i * 1) t) acc n → h'.get? P = some { cls := .type "tuple", data := .seq acc } → CB h' (P + 1) P 0 .none (List.range k) →
      Q (.ref (P + 1)) { s with heap := h', toks := tk }) :
    wpAny (model prog w) A (call (.type "itertools.combinations") [.ref r, .int k tt]) Q E s := by
  refine callType_codes (Q₁ := fun obj s1 => s1.TypeIs obj "itertools.combinations" ∧ Q obj s1) called_cb (tc_cb _ _) F.entry_object_init
    (code_cb (A := A.in1) hh hr hn hk fun h1 tk acc hk1 hi => ?_) fun obj s1 h1 => ?_
  · have e1 : ((h1.push { cls := .type "tuple", data := .seq acc }).push { cls := .type "itertools.combinations", data := .fields ([.ref h1.objs.size, rawInt 0, .none] ++ (List.range k).map fun (n : Nat) => rawInt (n : Int)).toArray }).get? h1.objs.size = some { cls := .type "tuple", data := .seq acc } :=
      Heap.get?_push_of_some _ (Heap.get?_push_size _ rfl)
    have z : (h1.push { cls := .type "tuple", data := .seq acc }).objs.size = h1.objs.size + 1 := Heap.size_push ..
    have e2 : ((h1.push { cls := .type "tuple", data := .seq acc }).push { cls := .type "itertools.combinations", data := .fields ([.ref h1.objs.size, rawInt 0, .none] ++ (List.range k).map fun (n : Nat) => rawInt (n : Int)).toArray }).get? (h1.push { cls := .type "tuple", data := .seq acc }).objs.size = some _ := Heap.get?_push_size _ rfl
    refine ⟨⟨_, e2, rfl⟩, ?_⟩
    rw [z] at e2 ⊢
    exact h h1 _ tk acc h1.objs.size rfl hk1 (fun b o x => Heap.get?_push_of_some _ (Heap.get?_push_of_some _ x)) hi e1 e2
  · exact ⟨h1.1, F.args_object_init_3 obj _ _, object_init_meets called_cb.init.lookup called_cb.made (by decide) prog w A.in1 _ s1 ⟨h1.1, rfl, h1.2⟩⟩
theorem iter_cb {z P : Nat} {st : Int} {last : Value} {idx : List Nat} {Q : Value → Shared → Prop} (hz : CB s.heap z P st last idx) (h : Q (.ref z) s) : wpAny (model prog w) A (pyIter (.ref z)) Q E s := by
  have hT : s.TypeIs (.ref z) "itertools.combinations" := ⟨_, hz, rfl⟩
  refine wpAny_pyIter_slot hT slot_it (wpAny_call_entry slot_it hT entry_it ?_ (args_it _))
  show wpAny _ _ (ret (.ref z)) _ _ s
  exact wpAny_pure ⟨_, rfl, "itertools.combinations", _, hT, slot_nx.lookup, h⟩
open AP (nxt)
theorem numbers_cb {z P : Nat} {st : Int} {last : Value} {idx : List Nat} {Q : List Nat → Shared → Prop} (hz : CB s.heap z P st last idx) (h : Q idx s) : wpAny (model prog w) A (Builtin.Itertools.itNumbersFrom (.ref z) 3) Q E s := by
  show wpAny _ _ (load z >>= _) _ _ _
  refine wpAny_bind (wpAny_load hz (wpAny_pure ?_))
  suffices e : ∀ l, l = idx → Q l s from e _ (by
    simp
    clear hz h e
    induction idx with
    | nil => rfl
    | cons a r ih => simpa [rawInt] using ih)
  intro l e
  rw [e]
  exact h
/-- the record's fields, one set -/
theorem set1 {z P : Nat} {st st' : Int} {last : Value} {idx : List Nat} {Q : Unit → Shared → Prop} (hz : CB s.heap z P st last idx) (h : ∀ h', CB h' z P st' last idx → Heap.SameBut z s.heap h' → Q () { s with heap := h' }) : wpAny (model prog w) A (setField (.ref z) 1 (rawInt st')) Q E s :=
  wpAny_setField_rec hz (by simp) fun h' a b => h h' (by rw [List.setIfInBounds_toArray] at a; exact a) b
theorem set2 {z P : Nat} {st : Int} {last last' : Value} {idx : List Nat} {Q : Unit → Shared → Prop} (hz : CB s.heap z P st last idx) (h : ∀ h', CB h' z P st last' idx → Heap.SameBut z s.heap h' → Q () { s with heap := h' }) : wpAny (model prog w) A (setField (.ref z) 2 last') Q E s :=
  wpAny_setField_rec hz (by simp) fun h' a b => h h' (by rw [List.setIfInBounds_toArray] at a; exact a) b
theorem next_cb0 {z P : Nat} {last : Value} {idx : List Nat} {acc : Array Value} {Q : Option Value → Shared → Prop} (hz : CB s.heap z P 0 last idx) (hP : s.heap.get? P = some { cls := .type "tuple", data := .seq acc }) (hne : z ≠ P)
    (hQ : ∀ h' T, T = s.heap.objs.size → h'.get? T = some { cls := .type "tuple", data := .seq (idx.map fun i => acc.getD i .none).toArray } → CB h' z P 1 (.ref T) idx → (∀ b o, b ≠ z → s.heap.get? b = some o → h'.get? b = some o) → Q (some (.ref T)) { s with heap := h' }) (hi : idx.length ≤ 1000) :
    wpAny (model prog w) A (pyNext (.ref z)) Q E s := by
  have hTy : s.TypeIs (.ref z) "itertools.combinations" := ⟨_, hz, rfl⟩
  unfold pyNext
  refine wpAny_bind (wpAny_attempt (wpAny_callSpecial?_slot (name := Str.ofString "__next__") hTy slot_nx (wpAny_call_entry slot_nx hTy entry_nx ?_ (args_nx _))))
  show wpAny _ _ (field (.ref z) 0 >>= _) _ _ _
  refine wpAny_bind (wpAny_field hz rfl (x := .ref P) rfl ?_)
  show wpAny _ _ (Builtin.Itertools.itNumbersFrom (.ref z) 3 >>= _) _ _ _
  refine wpAny_bind (numbers_cb hz ?_)
  show wpAny _ _ ((field (.ref z) 1 >>= _) >>= _) _ _ _
  refine wpAny_bind (wpAny_bind (wpAny_field hz rfl (x := rawInt 0) rfl (wpAny_pure ?_)))
  show wpAny _ _ (setField (.ref z) 1 (rawInt 1) >>= _) _ _ _
  refine wpAny_bind (set1 (st' := 1) hz fun h1 z1 s1 => ?_)
  have P1 := (s1.2 P (Ne.symm hne)).trans hP
  refine wpAny_bind ?_
  show wpAny _ _ ((seqItems? (.ref P) >>= _) >>= _) _ _ _
  refine wpAny_bind (wpAny_bind (wpAny_seqItems P1 rfl (wpAny_pure ?_)))
  refine wpAny_newTuple ?_ (by simp; rw [sizeLine_eq]; omega)
  have z2 : CB (h1.push { cls := .type "tuple", data := .seq (idx.map fun i => acc.getD i .none).toArray }) z P 1 last idx := Heap.get?_push_of_some _ z1
  show wpAny _ _ (field (.ref z) 2 >>= _) _ _ _
  refine wpAny_bind (wpAny_field z2 rfl (x := last) rfl ?_)
  refine wpAny_bind (set2 (last' := .ref h1.objs.size) z2 fun h3 z3 s3 => ?_)
  refine wpAny_bind (wpAny_letGo ?_)
  have hzl : z < h1.objs.size := Heap.lt_size z1
  refine wpAny_pure ⟨_, rfl, wpAny_pure ?_⟩
  rw [s1.1]
  refine hQ h3 s.heap.objs.size rfl ?_ ?_ fun b o hb e => ?_
  · rw [← s1.1, s3.2 _ (Nat.ne_of_gt hzl)]
    exact Heap.get?_push_size _ rfl
  · rw [← s1.1]
    exact z3
  · rw [s3.2 _ hb]
    exact Heap.get?_push_of_some _ ((s1.2 _ hb).trans e)
theorem set3 {z P : Nat} {st : Int} {last : Value} {idx idx' : List Nat} {Q : Unit → Shared → Prop} (hz : CB s.heap z P st last idx) (hl : idx'.length ≤ 1000) (h : ∀ h', CB h' z P st last idx' → Heap.SameBut z s.heap h' → Q () { s with heap := h' }) : wpAny (model prog w) A (Builtin.Itertools.itSetNumbersFrom (.ref z) 3 idx') Q E s := by
  have line := sizeLine_eq
  refine wpAny_updateFields hz rfl (h _ ?_ (Heap.SameBut.update ..)) ?_
  · show Heap.get? _ _ = _
    rw [Heap.get?_update_self _ hz rfl]
    simp [Obj.mapFields]
  · simp
    omega
theorem next_cb1 {z P : Nat} {last : Value} {idx idx' : List Nat} {acc : Array Value} {Q : Option Value → Shared → Prop} (hz : CB s.heap z P 1 last idx) (hP : s.heap.get? P = some { cls := .type "tuple", data := .seq acc }) (hne : z ≠ P) (hn : nxt acc.size idx = some idx') (hl : idx'.length = idx.length)
    (hQ : ∀ h' T, T = s.heap.objs.size → h'.get? T = some { cls := .type "tuple", data := .seq (idx'.map fun i => acc.getD i .none).toArray } → CB h' z P 1 (.ref T) idx' → (∀ b o, b ≠ z → s.heap.get? b = some o → h'.get? b = some o) → Q (some (.ref T)) { s with heap := h' }) (hi : idx.length ≤ 1000) :
    wpAny (model prog w) A (pyNext (.ref z)) Q E s := by
  have hTy : s.TypeIs (.ref z) "itertools.combinations" := ⟨_, hz, rfl⟩
  unfold pyNext
  refine wpAny_bind (wpAny_attempt (wpAny_callSpecial?_slot (name := Str.ofString "__next__") hTy slot_nx (wpAny_call_entry slot_nx hTy entry_nx ?_ (args_nx _))))
  show wpAny _ _ (field (.ref z) 0 >>= _) _ _ _
  refine wpAny_bind (wpAny_field hz rfl (x := .ref P) rfl ?_)
  show wpAny _ _ (Builtin.Itertools.itNumbersFrom (.ref z) 3 >>= _) _ _ _
  refine wpAny_bind (numbers_cb hz ?_)
  show wpAny _ _ ((field (.ref z) 1 >>= _) >>= _) _ _ _
  refine wpAny_bind (wpAny_bind (wpAny_field hz rfl (x := rawInt 1) rfl (wpAny_pure ?_)))
  show wpAny _ _ ((seqItems? (.ref P) >>= _) >>= _) _ _ _
  refine wpAny_bind (wpAny_bind (wpAny_seqItems hP rfl (wpAny_pure ?_)))
  unfold nxt at hn
  cases hf : (List.range idx.length).reverse.find? fun i => idx.getD i 0 != i + acc.size - idx.length with
  | none => rw [hf] at hn; cases hn
  | some i =>
    rw [hf] at hn
    simp only [Option.map_some, Option.some.injEq] at hn
    split
    · rename_i nx heq
      have e : (match (List.range idx.length).reverse.find? (fun i => idx.getD i 0 != i + acc.size - idx.length) with | none => none | some i => some (idx.take i ++ (List.range (idx.length - i)).map (idx.getD i 0 + 1 + ·))) = some nx := heq
      rw [hf] at e
      simp only [Option.some.injEq] at e
      rw [hn] at e
      subst e
      refine wpAny_bind (set3 hz (by omega) fun h1 z1 s1 => ?_)
      have P1 := (s1.2 P (Ne.symm hne)).trans hP
      refine wpAny_bind ?_
      show wpAny _ _ ((seqItems? (.ref P) >>= _) >>= _) _ _ _
      refine wpAny_bind (wpAny_bind (wpAny_seqItems P1 rfl (wpAny_pure ?_)))
      refine wpAny_newTuple ?_ (by simp; rw [sizeLine_eq]; omega)
      have z2 : CB (h1.push { cls := .type "tuple", data := .seq (idx'.map fun i => acc.getD i .none).toArray }) z P 1 last idx' := Heap.get?_push_of_some _ z1
      show wpAny _ _ (field (.ref z) 2 >>= _) _ _ _
      refine wpAny_bind (wpAny_field z2 rfl (x := last) rfl ?_)
      refine wpAny_bind (set2 (last' := .ref h1.objs.size) z2 fun h3 z3 s3 => ?_)
      refine wpAny_bind (wpAny_letGo ?_)
      have hzl : z < h1.objs.size := Heap.lt_size z1
      refine wpAny_pure ⟨_, rfl, wpAny_pure ?_⟩
      rw [s1.1]
      refine hQ h3 s.heap.objs.size rfl ?_ ?_ fun b o hb e => ?_
      · rw [← s1.1, s3.2 _ (Nat.ne_of_gt hzl)]
        exact Heap.get?_push_size _ rfl
      · rw [← s1.1]
        exact z3
      · rw [s3.2 _ hb]
        exact Heap.get?_push_of_some _ ((s1.2 _ hb).trans e)
    · rename_i heq
      have e : (match (List.range idx.length).reverse.find? (fun i => idx.getD i 0 != i + acc.size - idx.length) with | none => none | some i => some (idx.take i ++ (List.range (idx.length - i)).map (idx.getD i 0 + 1 + ·))) = none := heq
      rw [hf] at e
      cases e
theorem next_cbE {z P : Nat} {last : Value} {idx : List Nat} {acc : Array Value} {Q : Option Value → Shared → Prop} (hh : A.handled = none) (hz : CB s.heap z P 1 last idx) (hP : s.heap.get? P = some { cls := .type "tuple", data := .seq acc }) (hn : nxt acc.size idx = none)
    (hQ : ∀ h', (∀ b o, b ≠ z → s.heap.get? b = some o → h'.get? b = some o) → Q none { s with heap := h' }) :
    wpAny (model prog w) A (pyNext (.ref z)) Q E s := by
  have hTy : s.TypeIs (.ref z) "itertools.combinations" := ⟨_, hz, rfl⟩
  unfold pyNext
  refine wpAny_bind (wpAny_attempt (wpAny_callSpecial?_slot (name := Str.ofString "__next__") hTy slot_nx (wpAny_call_entry slot_nx hTy entry_nx ?_ (args_nx _))))
  show wpAny _ _ (field (.ref z) 0 >>= _) _ _ _
  refine wpAny_bind (wpAny_field hz rfl (x := .ref P) rfl ?_)
  show wpAny _ _ (Builtin.Itertools.itNumbersFrom (.ref z) 3 >>= _) _ _ _
  refine wpAny_bind (numbers_cb hz ?_)
  show wpAny _ _ ((field (.ref z) 1 >>= _) >>= _) _ _ _
  refine wpAny_bind (wpAny_bind (wpAny_field hz rfl (x := rawInt 1) rfl (wpAny_pure ?_)))
  show wpAny _ _ ((seqItems? (.ref P) >>= _) >>= _) _ _ _
  refine wpAny_bind (wpAny_bind (wpAny_seqItems hP rfl (wpAny_pure ?_)))
  unfold nxt at hn
  cases hf : (List.range idx.length).reverse.find? fun i => idx.getD i 0 != i + acc.size - idx.length with
  | some i => rw [hf] at hn; cases hn
  | none =>
    split
    · rename_i nx heq
      have e : (match (List.range idx.length).reverse.find? (fun i => idx.getD i 0 != i + acc.size - idx.length) with | none => none | some i => some (idx.take i ++ (List.range (idx.length - i)).map (idx.getD i 0 + 1 + ·))) = some nx := heq
      rw [hf] at e
      cases e
    · refine wpAny_bind (set1 (st' := 2) hz fun h1 z1 s1 => ?_)
      refine AZ.stop_it (s := { s with heap := h1 }) (A := A.in1) hh fun h2 e k2 he => ?_
      obtain ⟨o, ho, hc⟩ := he
      refine wpAny_bind (wpAny_isInstance (T := "StopIteration") (b := true) ⟨o, ho, hc⟩ isSubtype_stop ?_)
      exact wpAny_pure (hQ h2 fun b o hb x => k2 b o ((s1.2 b hb).trans x))
end
end AC
end
section
set_option maxRecDepth 100000
set_option maxHeartbeats 4000000
namespace AC
open PySem PySem.Spec PyProof.Rows L2
open AP (nxt chk chk_all combs)
/-- the choices in their order -/
structure Ch (n k : Nat) (L : List (List Nat)) : Prop where
  first : L[0]? = some (List.range k)
  step : ∀ (i : Nat) (c : List Nat), L[i]? = some c → nxt n c = L[i + 1]?
  len : ∀ c ∈ L, c.length = k
  lt : ∀ c ∈ L, ∀ j ∈ c, j < n
def ItC (L : List (List Nat)) : It :=
  ⟨fun i _ => i < L.length, fun i H v H' => ∃ (T : Addr) (c : List Nat), L[i]? = some c ∧ v = .ref T ∧ H T = none ∧ H' = upd H T (.tup (c.map fun (j : Nat) => V.int (j : Int))), fun i _ => i = L.length⟩
theorem vals_c {acc : Array Value} {n : Nat} (hi : ItemsOf (fun i v => ∃ t, v = .int ((0 : Int) + i * 1) t) acc n) : ∀ {c : List Nat}, (∀ j ∈ c, j < n) → Vals (c.map fun (j : Nat) => V.int (j : Int)) (c.map fun j => acc.getD j .none)
  | [], _ => .nil
  | j :: c, h => by
    refine .cons ?_ (vals_c hi fun j hj => h j (List.mem_cons_of_mem _ hj))
    have hj := h j (List.mem_cons_self ..)
    have hs : j < acc.size := by rw [hi.1]; exact hj
    obtain ⟨t, e⟩ := hi.2 j acc[j] (by simp [hs])
    refine ⟨t, ?_⟩
    show acc.getD j Value.none = _
    rw [show acc.getD j Value.none = acc[j] by simp [hs], e]
    congr 1
    omega
theorem turnC {Pr : Program} {w : World} {K : PySem.W.Frag} {tg : Expr} {n k P : Nat} {L : List (List Nat)} (C : Ch n k L) (hk : k ≤ 1000) (acc : Array Value) (hi : ItemsOf (fun i v => ∃ t, v = .int ((0 : Int) + i * 1) t) acc n) :
    Turn Pr w K tg (ItC L) [P + 1, P] (P + 1) (fun i h => h.get? P = some { cls := .type "tuple", data := .seq acc } ∧ ((i = 0 ∧ CB h (P + 1) P 0 .none (List.range k)) ∨ ∃ (j : Nat) (c : List Nat) (T : Nat), i = j + 1 ∧ L[j]? = some c ∧ CB h (P + 1) P 1 (.ref T) c)) where
  mem := by simp
  obj := fun i h st q hq => by
    obtain ⟨hP, hz⟩ := st
    have e' : q = P + 1 ∨ q = P := by simpa using hq
    rcases e' with r | r
    · rw [r]
      rcases hz with ⟨_, hz⟩ | ⟨_, _, _, _, _, hz⟩
      · exact ⟨_, hz, fun v q => nomatch q⟩
      · exact ⟨_, hz, fun v q => nomatch q⟩
    · rw [r]; exact ⟨_, hP, fun v q => nomatch q⟩
  keep := fun i h h' st kk => by
    obtain ⟨hP, hz⟩ := st
    refine ⟨kk _ (by simp) _ hP, ?_⟩
    rcases hz with ⟨e, hz⟩ | ⟨j, c, T, e1, e2, hz⟩
    · exact .inl ⟨e, kk _ (by simp) _ hz⟩
    · exact .inr ⟨j, c, T, e1, e2, kk _ (by simp) _ hz⟩
  item := by
    intro X hPr hw hK hc i pins s σ H E I hf st hg
    subst hPr hw hK
    obtain ⟨hP, hz⟩ := st
    have hg : i < L.length := hg
    have fin : ∀ (c : List Nat) (h' : Heap) (T : Nat), L[i]? = some c → T = s.heap.objs.size → h'.get? T = some { cls := .type "tuple", data := .seq (c.map fun i => acc.getD i .none).toArray } → CB h' (P + 1) P 1 (.ref T) c → (∀ b o, b ≠ P + 1 → s.heap.get? b = some o → h'.get? b = some o) →
        ∃ u, (some (Value.ref T)) = some u ∧ wpAny (model X.prog X.w) X.A (letOwnedTupleGo tg (.ref (P + 1)) u) (fun _ s2 => ∃ x H', L2.Inv X pins σ H' s2 ∧ RelV x u ∧ (ItC L).yld i H x H' ∧ (s2.heap.get? P = some { cls := .type "tuple", data := .seq acc } ∧ ((i + 1 = 0 ∧ CB s2.heap (P + 1) P 0 .none (List.range k)) ∨ ∃ (j : Nat) (c : List Nat) (T : Nat), i + 1 = j + 1 ∧ L[j]? = some c ∧ CB s2.heap (P + 1) P 1 (.ref T) c)) ∧ ∀ b ∈ [P + 1, P], H' b = none) E { s with heap := h' } := by
      intro c h' T hL hT hg hz' hk'
      subst hT
      refine ⟨_, rfl, go_of (s := { s with heap := h' }) hz' rfl rfl (by decide) ?_⟩
      have hm := List.mem_of_getElem? hL
      have new : ObjOk X.prog X.w (upd H s.heap.objs.size (.tup (c.map fun (j : Nat) => V.int (j : Int)))) h' s.heap.objs.size (.tup (c.map fun (j : Nat) => V.int (j : Int))) := ⟨by rw [List.length_map, C.len c hm, sizeLine_eq]; omega, c.map fun j => acc.getD j .none, vals_c hi (C.lt c hm), ⟨_, hg, rfl, _, rfl⟩⟩
      have I1 : L2.Inv X pins σ (upd H s.heap.objs.size (.tup (c.map fun (j : Nat) => V.int (j : Int)))) { s with heap := h' } :=
        I.turnedNew (t' := s.toks) (ch := [P + 1, P]) (fun q o hb' qq => hk' q o (fun z => hb' (by simp [z])) qq) hf (Nat.le_refl _) new
      refine ⟨.ref s.heap.objs.size, _, I1, rfl, ⟨_, c, hL, rfl, I.hok.fresh (Nat.le_refl _), rfl⟩, ⟨hk' P _ (Nat.ne_of_lt (Nat.lt_succ_self P)) hP, .inr ⟨i, c, _, rfl, hL, hz'⟩⟩, fun q hq => ?_⟩
      have hlt : q < s.heap.objs.size := by
        have e' : q = P + 1 ∨ q = P := by simpa using hq
        rcases e' with r | r
        · rw [r]
          rcases hz with ⟨_, hz⟩ | ⟨_, _, _, _, _, hz⟩
          · exact Heap.lt_size hz
          · exact Heap.lt_size hz
        · rw [r]; exact Heap.lt_size hP
      rw [upd_ne (Nat.ne_of_lt hlt)]
      exact (hf q hq).1
    rcases hz with ⟨e, hz⟩ | ⟨j, c, T, e1, e2, hz⟩
    · subst e
      exact next_cb0 hz hP (Nat.succ_ne_self P) (fun h' T a b c d => fin _ h' T C.first a b c d) (by simp; omega)
    · subst e1
      have h1 : L[j + 1]? = some (L[j + 1]'hg) := List.getElem?_eq_getElem hg
      have l1 := C.len c (List.mem_of_getElem? e2)
      have l2 := C.len _ (List.mem_of_getElem? h1)
      exact next_cb1 hz hP (Nat.succ_ne_self P) (by rw [hi.1, C.step j c e2, h1]) (by omega) (fun h' T a b c d => fin _ h' T h1 a b c d) (by omega)
  done := by
    intro X hPr hw hK hc i pins s σ H E I hf st hg
    subst hPr hw hK
    obtain ⟨hP, hz⟩ := st
    have hg : i = L.length := hg
    rcases hz with ⟨e, hz⟩ | ⟨j, c, T, e1, e2, hz⟩
    · have := C.first
      rw [← e, hg, List.getElem?_eq_none (Nat.le_refl _)] at this
      cases this
    · refine next_cbE (I.ok.hd hc) hz hP (by rw [hi.1, C.step j c e2, ← e1, hg]; exact List.getElem?_eq_none (Nat.le_refl _)) fun h' hk' => ⟨rfl, I.turnedL (t' := s.toks) (ch := [P + 1, P]) (fun q o hb' qq => hk' q o (fun z => hb' (by simp [z])) qq) hf⟩
  self := fun A i s Q E st h => by
    obtain ⟨hP, hz⟩ := st
    rcases hz with ⟨e, hz⟩ | ⟨j, c, T, e1, e2, hz⟩
    · exact iter_cb hz h
    · exact iter_cb hz h
/-- range(n), as a value -/
def rRange1 : List V → Hp → VK → Prop := fun vs H Q => ∃ n : Int, vs = [V.int n] ∧ ∀ p, H p = none → Q (.ref p) (upd H p (.rng 0 n))
theorem cr_range1 {X : Cx} : CallR X (.type "range") rRange1 := by
  intro pins s σ H vs us Q I r h
  obtain ⟨i, rfl, q⟩ := h
  obtain ⟨u1, rfl, ri⟩ := vals1 r
  obtain ⟨t, rfl⟩ := ri
  exact call_range_1 ⟨.ref s.heap.objs.size, upd H s.heap.objs.size (.rng 0 i), I.laid (t' := _) (fun b o e => Heap.get?_push_of_some _ e) (Nat.le_refl _) ⟨_, _, _, Heap.get?_push_size _ rfl⟩, rfl, q _ (I.hok.fresh (Nat.le_refl _))⟩
/-- combinations(range(n), k) -/
def iComb (ta : TA) : TI := fun σ H R => ta σ H fun vs H1 => ∃ (p : Addr) (n k : Nat) (L : List (List Nat)), vs = [.ref p, .int (k : Int)] ∧ H1 p = some (.rng 0 (n : Int)) ∧ n ≤ 1000 ∧ k ≤ n ∧ Ch n k L ∧ R (ItC L) H1
theorem pi_comb {X : Cx} {e : Expr} {es : List Expr} {ta : TA} {p pos : Pos} {tg : Expr} (hcalm : X.calm = true) (hg : Gl X "combinations") (hm : X.mg "combinations" = some (.type "itertools.combinations")) (ha : PA X (e :: es) ta)
    (na : starEach (e :: es) X.env = (false, eval e X.env) :: starEach es X.env := by rfl) (hp : (backTo pos (starEach es X.env)).any (·.1) = false := by rfl) :
    PI X tg (.Call (.Name "combinations" p) (e :: es) [] pos) (iComb ta) := by
  refine ⟨fun pins s σ H R I h => ?_⟩
  refine wpAny_Call_Name_kw (ld_glob I hg hm ?_ (by decide))
  refine PyProof.Rows.callWith_type1 (thn (ha.run pos pins s σ H _ I h) fun us s1 ⟨vs, H1, I1, r1, q1⟩ => ?_) na hp
  obtain ⟨r, n, k, L, rfl, hr, hn, hk, C, q⟩ := q1
  obtain ⟨u1, u2, rfl, e1, e2⟩ := vals2 r1
  obtain rfl : u1 = Value.ref r := e1
  obtain ⟨tt, rfl⟩ := e2
  obtain ⟨t, u, v, hr'⟩ := I1.hok _ _ hr
  refine call_cb (I.ok.hd hcalm) hr' hn hk fun h0 h' tk acc P eP k0 k1 hi hP hz => iter_cb hz ?_
  have I0 : L2.Inv X pins σ H1 { s1 with heap := h0, toks := tk } := I1.kept k0
  have I2 : L2.Inv X pins σ H1 { s1 with heap := h', toks := tk } := I1.kept fun b o x => k1 b o (k0 b o x)
  refine ⟨P + 1, [P + 1, P], _, _, H1, rfl, I2, turnC C (by omega) acc hi, ⟨hP, .inl ⟨rfl, hz⟩⟩, fun q hq => ?_, q⟩
  have hle : h0.objs.size ≤ q := by
    have e' : q = P + 1 ∨ q = P := by simpa using hq
    rcases e' with r | r
    · rw [r, eP]; exact Nat.le_succ P
    · rw [r, eP]; exact Nat.le_refl P
  exact I0.fpOk hle (I0.hok.fresh hle)
theorem ch_of {n k : Nat} (hn : n ≤ 8) (hk : k ≤ n) : Ch n k (combs n k) := by
  have h := chk_all n hn k hk
  unfold chk at h
  simp only [Bool.and_eq_true] at h
  obtain ⟨⟨h1, h2⟩, h3⟩ := h
  rw [List.all_eq_true] at h2 h3
  refine ⟨by simpa using h1, fun i c hc => ?_, fun c hc => ?_, fun c hc j hj => ?_⟩
  · obtain ⟨hi, _⟩ := List.getElem?_eq_some_iff.mp hc
    have := h2 i (List.mem_range.mpr hi)
    rw [List.getD_eq_getElem?_getD, hc] at this
    simpa using this
  · have := h3 c hc
    simp only [Bool.and_eq_true] at this
    simpa using this.1
  · have := h3 c hc
    simp only [Bool.and_eq_true] at this
    have h4 := List.all_eq_true.mp this.2 j hj
    exact of_decide_eq_true h4
end AC
end
section
set_option maxRecDepth 100000
set_option maxHeartbeats 4000000
namespace AW
open PySem PySem.Spec PyProof.Rows L2 Evl AH AP AZ AM AC
/-- lists of ints stand at the refs of a list -/
def LLs (ys : List V) (ls : List (List Int)) (H : Hp) : Prop := ys.length = ls.length ∧ ∀ (i : Nat) (y : V) (l : List Int), ys[i]? = some y → ls[i]? = some l → IsIL l y H
def IsLL (ls : List (List Int)) (v : V) (H : Hp) : Prop := ∃ (D : Addr) (ys : List V), v = .ref D ∧ H D = some (.lst ys) ∧ LLs ys ls H
theorem LLs.mono {ys : List V} {ls : List (List Int)} {H H' : Hp} (h : LLs ys ls H) (e : Ex H H') : LLs ys ls H' := ⟨h.1, fun i y l h1 h2 => (h.2 i y l h1 h2).mono e⟩
theorem IsLL.mono {ls : List (List Int)} {v : V} {H H' : Hp} (h : IsLL ls v H) (e : Ex H H') : IsLL ls v H' := let ⟨D, ys, a, b, c⟩ := h; ⟨D, ys, a, e D _ b, c.mono e⟩
section
variable {K : PySem.W.Frag} {σ : L2.St} {H : Hp} {te tl : TE} {tz : TS} {D : Ends}
/-- a comprehension whose every turn gives a new list of ints -/
theorem evp_lcN {wi : TI} {J : Hp → It} {j : Nat} {vs : List Nat} (ls : List (List Int)) (hwi : ∀ H1, Ex H H1 → ∀ R : It → Hp → Prop, (∀ H2, Ex H1 H2 → R (J H2) H2) → wi σ H1 R) (hn : ls.length ≤ 40000)
    (hstop : ∀ H1 H2, Ex H H1 → Ex H1 H2 → (J H1).stop ls.length H2) (hgo : ∀ H1 H2 i, Ex H H1 → Ex H1 H2 → i < ls.length → (J H1).go i H2)
    (hturn : ∀ H1 H2 i x H3, Ex H H1 → Ex H1 H2 → i < ls.length → (J H1).yld i H2 x H3 → Ex H2 H3 ∧ wipe ((wipe σ vs).set j (some x)) vs = wipe σ vs ∧ EvL te ((wipe σ vs).set j (some x)) H3 ((ls.getD i []).map V.int)) :
    EvP (tLc wi (gName j) tYes te vs) σ H (IsLL ls) := fun H0 e Q q => hwi H0 e _ fun H1 e1 Dl hD => by
  refine ⟨fun i m H' => m = ls.length - i ∧ i ≤ ls.length ∧ H1 Dl = none ∧ Ex H1 H' ∧ ∃ ys : List V, H' Dl = some (.lst ys) ∧ ys.length = i ∧ ∀ (t : Nat) (y : V), ys[t]? = some y → ∃ p : Addr, y = .ref p ∧ p ≠ Dl ∧ H' p = some (.lst ((ls.getD t []).map V.int)),
    ⟨ls.length, by simp, Nat.zero_le _, hD, Ex.new hD, [], upd_same, rfl, fun t y h => by simp at h⟩, ?_⟩
  rintro i m H' ⟨rfl, hi, f, e2, ys, hy, hyl, hys⟩
  by_cases hlt : i < ls.length
  · refine .inr ⟨hgo H1 H' i (e.trans e1) e2 hlt, fun H'' => i < ls.length ∧ H1 Dl = none ∧ Ex H1 H'' ∧ ∃ ys : List V, H'' Dl = some (.lst ys) ∧ ys.length = i + 1 ∧ ∀ (t : Nat) (y : V), ys[t]? = some y → ∃ p : Addr, y = .ref p ∧ p ≠ Dl ∧ H'' p = some (.lst ((ls.getD t []).map V.int)),
      fun H'' ⟨a, b, c⟩ => ⟨ls.length - (i + 1), by omega, rfl, a, b, c⟩, fun x H3 y => ?_⟩
    obtain ⟨e3, hw, hE⟩ := hturn H1 H' i x H3 (e.trans e1) e2 hlt y
    refine ⟨hw, ?_⟩
    show te ((wipe σ vs).set j (some x)) H3 _
    refine hE H3 (Ex.refl _) _ fun p H4 np e4 hp => ?_
    have e34 := e3.trans e4
    refine ⟨ys, e34 Dl _ hy, sz_lt (by omega), hlt, f, Ex.mut (e2.trans e34) f, ys ++ [.ref p], upd_same, by simp [hyl], fun t y ht => ?_⟩
    have hpD : p ≠ Dl := fun z => by
      rw [z, e3 Dl _ hy] at np
      cases np
    by_cases htl : t < ys.length
    · rw [List.getElem?_append_left htl] at ht
      obtain ⟨p', e5, n5, h5⟩ := hys t y ht
      exact ⟨p', e5, n5, by rw [upd_ne n5]; exact e34 p' _ h5⟩
    · have := (List.getElem?_eq_some_iff.mp ht).1
      have ht' : t = ys.length := by simp at this; omega
      subst ht'
      rw [List.getElem?_append_right (Nat.le_refl _), Nat.sub_self] at ht
      cases ht
      exact ⟨p, rfl, hpD, by rw [upd_ne hpD, hyl]; exact hp⟩
  · have ei : i = ls.length := by omega
    subst ei
    refine .inl ⟨hstop H1 H' (e.trans e1) e2, q _ H' (e1.trans e2) ⟨Dl, ys, rfl, hy, hyl, fun t y l h1 h2 => ?_⟩⟩
    obtain ⟨p, a, _, b⟩ := hys t y h1
    rw [show ls.getD t [] = l by rw [List.getD_eq_getElem?_getD, h2] <;> rfl] at b
    exact ⟨p, a, b⟩
/-- for i, x in enumerate(xs) -/
theorem q_forE {a : Addr} {xs : List V} {ta : TA} {j1 j2 : Nat} {tu : TS} (h : EvA ta σ H [.ref a]) (hx : SqL K H a xs) (Pv : Nat → L2.St → Hp → Prop) (h0 : ∀ H1, Ex H H1 → Pv 0 σ H1) (he : ∀ i σ' H', i ≤ xs.length → Pv i σ' H' → SqL K H' a xs)
    (hP : ∀ i σ' H' T o, Pv i σ' H' → H' T = none → Pv i σ' (upd H' T o))
    (hs : ∀ i x σ' H', xs[i]? = some x → Pv i σ' H' → tu { D with nx := Pv (i + 1), ct := Pv (i + 1), bk := tz D } ((σ'.set j1 (some (.int (i : Int)))).set j2 (some x)) H') (hd : ∀ σ' H', Pv xs.length σ' H' → tz D σ' H') :
    tSeq (tFor (iEnum K ta) (gTup K 2 (gCons (gName j1) (gCons (gName j2) gNil))) tu) tz D σ H := h H (Ex.refl H) _ fun H1 e => ⟨a, xs, rfl, ex_l e hx, by
  refine ⟨fun i m σ' H' => m = xs.length - i ∧ i ≤ xs.length ∧ Pv i σ' H', ⟨xs.length, by simp, Nat.zero_le _, h0 H1 e⟩, ?_⟩
  rintro i m σ' H' ⟨rfl, hi, p⟩
  by_cases hlt : i < xs.length
  · refine .inr ⟨⟨xs, xs[i], he i σ' H' hi p, List.getElem?_eq_getElem hlt⟩, Pv (i + 1), fun σ2 H2 p2 => ⟨xs.length - (i + 1), by omega, rfl, hlt, p2⟩, ?_⟩
    rintro x H3 ⟨T, x0, rfl, hT, rfl, k1⟩
    refine ⟨T, [.int (i : Int), x0], rfl, st_of upd_same, rfl, .int (i : Int), [x0], rfl, x0, [], rfl, rfl, ?_⟩
    exact hs i x0 σ' _ (k1 xs (he i σ' H' hi p)) (hP i σ' H' T _ p hT)
  · have ei : i = xs.length := by omega
    subst ei
    exact .inl ⟨⟨xs, he _ σ' H' hi p, Nat.le_refl _⟩, hd σ' H' p⟩⟩
end
/-! ### the dict of words -/
theorem putK_new {kvs : List (Key × V)} {k : Key} {v : V} (h : ∀ p ∈ kvs, p.1 ≠ k) : putK kvs k v = kvs ++ [(k, v)] := by
  unfold putK
  rw [if_neg]
  simp only [List.any_eq_true, decide_eq_true_eq, not_exists, not_and]
  exact h
theorem mergeK_new : ∀ {more kvs : List (Key × V)}, ((kvs ++ more).map (·.1)).Nodup → mergeK kvs more = kvs ++ more
  | [], kvs, _ => by simp [mergeK]
  | p :: r, kvs, h => by
    show mergeK (putK kvs p.1 p.2) r = _
    have hn : ∀ q ∈ kvs, q.1 ≠ p.1 := fun q hq e => by
      rw [List.map_append, List.map_cons, List.nodup_append] at h
      exact h.2.2 q.1 (List.mem_map.mpr ⟨q, hq, rfl⟩) p.1 (List.mem_cons_self ..) e
    rw [putK_new hn, mergeK_new (by simpa using h)]
    simp
theorem valV_zip : ∀ (ps ws : List Int) (x : Int), valV ((ps.map (Sum.inl : Int → Key)).zip (ws.map V.int)) (.inl x) = ((ps.zip ws).find? fun q => decide (q.1 = x)).map fun q => V.int q.2
  | [], ws, x => by simp [valV]
  | p :: ps, [], x => by simp [valV]
  | p :: ps, u :: ws, x => by
    rw [List.map_cons, List.map_cons, List.zip_cons_cons, List.zip_cons_cons, List.find?_cons]
    by_cases h : p = x
    · rw [valV_pos (by rw [h])]
      simp [h]
    · rw [show valV ((Sum.inl p, V.int u) :: (ps.map (Sum.inl : Int → Key)).zip (ws.map V.int)) (.inl x) = valV ((ps.map (Sum.inl : Int → Key)).zip (ws.map V.int)) (.inl x) by unfold valV; rw [List.find?_cons]; simp [h]]
      rw [valV_zip ps ws x]
      simp [h]
theorem find_zip {ps ws : List Int} {x : Int} (h : x ∈ ps) (hl : ws.length = ps.length) : ∃ q, (ps.zip ws).find? (fun q => decide (q.1 = x)) = some q := by
  cases e : (ps.zip ws).find? fun q => decide (q.1 = x) with
  | some q => exact ⟨q, rfl⟩
  | none =>
    exfalso
    rw [List.find?_eq_none] at e
    obtain ⟨i, hi, ex⟩ := List.mem_iff_getElem.mp h
    have hm : (ps[i], ws[i]'(by omega)) ∈ ps.zip ws := List.mem_iff_getElem.mpr ⟨i, by simp; omega, by simp⟩
    have := e _ hm
    simp [ex] at this
end AW
end
section
set_option maxRecDepth 100000
set_option maxHeartbeats 4000000
namespace AW
open PySem PySem.Spec PyProof.Rows L2 Evl AH AP AZ AM
theorem Plc.nd {n : Nat} {ps : List Int} (p : Plc n ps) : ps.Nodup := List.Pairwise.imp (fun h => by omega) p.asc
theorem Plc.abs {n : Nat} {ps : List Int} (p : Plc n ps) : ∀ z ∈ ps, z.natAbs < 2 ^ 64 := fun z hz => by
  have h1 := p.lo z hz
  have h2 := p.hi z hz
  have h3 : (2 : Int) ^ n ≤ 2 ^ 64 := Int.le_of_dvd (AP.pow_pos 64) (AP.pow_dvd p.w64)
  have h4 : (2 : Int) ^ 64 = 18446744073709551616 := by decide
  have h5 : (2 : Nat) ^ 64 = 18446744073709551616 := by decide
  omega
theorem Plc.full {n : Nat} {ps : List Int} (p : Plc n ps) : Plc 64 ps := ⟨p.ne, p.len, p.asc, p.lo, fun z hz => Int.lt_of_lt_of_le (p.hi z hz) (Int.le_of_dvd (AP.pow_pos 64) (AP.pow_dvd p.w64)), by decide, by decide⟩
theorem Plc.halt {n : Nat} {ps : List Int} (p : Plc n ps) : Halts 64 ps 0 := halts 64 ps 0 p.nd (fun a _ b _ => ⟨a - b, by simp⟩) fun z hz => ⟨p.lo z hz, (p.full).hi z hz⟩
theorem kc_le (w : Int) (ns : List Int) (c : Nat) : kc w ns c ≤ ns.length := by
  unfold kc
  refine Nat.le_trans (List.length_filter_le ..) ?_
  simp
  omega
def distV (ps : List Int) (j : Nat) : V := if j = 0 then .non else .int ((lostL ps j).length : Int)
theorem lost_L {ps : List Int} {j : Nat} (h : j ≠ 0) : lost (tree ps) j = some (lostL ps j) := by
  obtain ⟨xs, e⟩ := lost_some (tree ps) (j := j) (by omega)
  unfold lostL
  rw [e]
  rfl
theorem lostL_len (ps : List Int) (j : Nat) : (lostL ps j).length ≤ ps.length := by
  unfold lostL
  cases e : lost (tree ps) j with
  | none => simp
  | some xs =>
    have := lost_len (treeF_WF 64 ps 0) e
    rw [treeF_pl] at this
    simpa using this
section
variable {P : Program} {w : World} {K : PySem.W.Frag} {mg : Str → Option Value} {base : Heap} {k : Nat}
section
variable {σ : L2.St} {H : Hp} {ta tb : TE}
/-- lost_places(tree_of(places), many) -/
theorem evp_lost {a : Addr} {n j : Nat} {ps : List Int} (ha : H a = some (.lst (ps.map V.int))) (p : Plc n ps) (h : Ev ta σ H (.ref a)) (hb : Ev tb σ H (.int (j : Int))) (hj : j ≠ 0) :
    EvP (tCall (spLost 64) [] E0 (tCons (tCall (spTree 64) [.int 0] E0 (tCons ta tNil)) (tCons tb tNil))) σ H (IsIL (lostL ps j)) :=
  evp_call (RA := fun vs H' => ∃ v, vs = [v, .int (j : Int)] ∧ IsTree (tree ps) v H') (eap_cons (R := IsTree (tree ps)) (evp_callA (ea_cons h ea_nil) fun H1 e1 Q q E => ⟨a, ps, 0, rfl, e1 a _ ha, by have := p.len; omega, by decide, p.halt, q⟩) fun v H1 e1 r =>
    EvA.p (ea_cons (hb.mono e1) ea_nil) fun H2 e2 => ⟨v, rfl, r.mono e2⟩) fun vs H1 e1 ⟨v, e2, r⟩ H2 e3 Q q E => ⟨v, tree ps, j, by rw [e2]; rfl, r.mono e3, treeF_dep 64 ps 0, treeF_WF 64 ps 0, by rw [show (tree ps).pl = ps from treeF_pl 64 ps 0]; have := p.len; omega, fun v' H3 e4 h => q v' H3 e4 (by rw [lost_L hj] at h; exact h)⟩
theorem ev_lenP {l : List Int} (h : EvP ta σ H (IsIL l)) : Ev (tCB (rLenS K) (tCons ta tNil)) σ H (.int (l.length : Int)) := fun H1 e Q q => h H1 e _ fun v H2 e2 r => by
  obtain ⟨p, rfl, hp⟩ := r
  have := q H2 e2
  exact ⟨p, _, rfl, .inl (sq_of hp), by rw [List.length_map]; exact this⟩
theorem evp_sortedP {l : List Int} (h : EvP ta σ H (IsIL l)) (hz : l.length < 64) : EvP (tCB (rSorted K) (tCons ta tNil)) σ H fun v H' => ∃ l', l'.Perm l ∧ IsIL l' v H' := fun H1 e Q q => h H1 e _ fun v H2 e2 r => by
  obtain ⟨p, rfl, hp⟩ := r
  exact ⟨p, l, rfl, sq_of hp, hz, fun ns' p' h1 h2 np => q _ _ (e2.trans (Ex.new np)) ⟨ns', h1, p', rfl, upd_same⟩⟩
end
theorem sc39 : FnScope ["places", "many"] ["places", "many"] (defScope (tp 39)) := ⟨rfl, rfl, rfl, by decide +kernel, rfl, by decide +kernel, by decide +kernel⟩
def sp39 : Sp := fun vs H Q _ => ∃ (n : Nat) (a : Addr) (ps : List Int) (j : Nat), vs = [.ref a, .int (j : Int)] ∧ H a = some (.lst (ps.map V.int)) ∧ Plc n ps ∧ ∀ H', Ex H H' → Q (distV ps j) H'
theorem ok39 (T : TopT K mg) (C_tree_of : Cal P w K mg base k "tree_of" ["places", "level"] [.int 0] (spTree 64)) (C_lost_places : Cal P w K mg base k "lost_places" ["branch", "many"] [] (spLost 64)) : Cal P w K mg base (k + 1) "distance_of_distance" ["places", "many"] [] sp39 := by
  refine mkc (n := 39) T 25 25 sc39 (fun vs H Q E h => ?_) (fun _ _ _ _ _ _ us hl => match us, hl with | [_, _], _ => rfl) fun f cdv A outer s H E hr => ⟨_, (pss_one (ps_ret (pe_ifExp (pt_cmpR op_eq (pv 1) pe_int (nomark _)) pe_non (pe_callB call_len_seq (by rfl) T.f_len (by decide +kernel) (pa_cons (pcall C_lost_places hr (pa_cons (pcall C_tree_of hr (pa_cons (pv 0) pa_nil)) (pa_cons (pv 1) pa_nil))) pa_nil))))), fun vs Q h => ?_⟩
  · obtain ⟨n, a, ps, j, rfl, _⟩ := h
    rfl
  · obtain ⟨n, a, ps, j, rfl, ha, p, q⟩ := h
    refine s_ret (v := distV ps j) (ev_if (b := decide (j = 0)) (et_is (et_test (ev_op (ev_var rfl) ev_c (rv_eq rfl))) (decide_eq_decide.mpr (by simp))) (fun hc => ?_) (fun hc => ?_)) q
    · unfold distV
      rw [if_pos (of_decide_eq_true hc)]
      exact ev_c
    · unfold distV
      rw [if_neg (of_decide_eq_false hc)]
      exact ev_lenP (evp_lost ha p (ev_var rfl) (ev_var rfl) (of_decide_eq_false hc))
theorem sc41 : FnScope ["width", "places", "count"] ["width", "places", "count"] (defScope (tp 41)) := ⟨rfl, rfl, rfl, by decide +kernel, rfl, by decide +kernel, by decide +kernel⟩
def sp41 : Sp := fun vs H Q _ => ∃ (n : Nat) (a : Addr) (ps : List Int) (c : Nat), vs = [.int (n : Int), .ref a, .int (c : Int)] ∧ H a = some (.lst (ps.map V.int)) ∧ Plc n ps ∧ ∀ H', Ex H H' → Q (distV ps (kc n (row ps).2 c)) H'
theorem ok41 (T : TopT K mg) (C_check_code_telling : Cal P w K mg base k "check_code_telling" ["width", "places", "count"] [] sp33) (C_distance_of_distance : Cal P w K mg base k "distance_of_distance" ["places", "many"] [] sp39) (C_items_of_code : Cal P w K mg base k "items_of_code" ["width", "places", "count"] [] sp52) : Cal P w K mg base (k + 1) "distance" ["width", "places", "count"] [] sp41 := by
  refine mkc (n := 41) T 26 26 sc41 (fun vs H Q E h => ?_) (fun _ _ _ _ _ _ us hl => match us, hl with | [_, _, _], _ => rfl) fun f cdv A outer s H E hr => ⟨_, (pss_cons (ps_expr (pcall C_check_code_telling hr (pa_cons (pv 0) (pa_cons (pv 1) (pa_cons (pv 2) pa_nil))))) (pss_one (ps_ret (pcall C_distance_of_distance hr (pa_cons (pv 1) (pa_cons (pcall C_items_of_code hr (pa_cons (pv 0) (pa_cons (pv 1) (pa_cons (pv 2) pa_nil)))) pa_nil)))))), fun vs Q h => ?_⟩
  · obtain ⟨n, a, ps, c, rfl, _⟩ := h
    rfl
  · obtain ⟨n, a, ps, c, rfl, ha, p, q⟩ := h
    refine q_drop (v := .non) (ev_call (ea_cons (ev_var rfl) (ea_cons (ev_var rfl) (ea_cons (ev_var rfl) ea_nil))) fun H1 e Q q E => ⟨n, a, ps, c, rfl, e a _ ha, p, q⟩) fun H1 e1 => ?_
    exact s_ret (v := distV ps (kc n (row ps).2 c)) (ev_call (ea_cons (ev_var rfl) (ea_cons (ev_call (ea_cons (ev_var rfl) (ea_cons (ev_var rfl) (ea_cons (ev_var rfl) ea_nil))) fun H2 e2 Q q E => ⟨n, a, ps, c, rfl, e2 a _ (e1 a _ ha), by have := p.len; omega, p.nd, q⟩) ea_nil))
      fun H2 e2 Q q E => ⟨n, a, ps, kc n (row ps).2 c, rfl, e2 a _ (e1 a _ ha), p, q⟩) fun H2 e2 => q H2 (e1.trans e2)
theorem sc42 : FnScope ["width", "places", "count", "many"] ["width", "places", "count"] (defScope (tp 42)) := ⟨rfl, rfl, rfl, by decide +kernel, rfl, by decide +kernel, by decide +kernel⟩
def sp42 : Sp := fun vs H Q _ => ∃ (n : Nat) (a : Addr) (ps : List Int) (c : Nat), vs = [.int (n : Int), .ref a, .int (c : Int)] ∧ H a = some (.lst (ps.map V.int)) ∧ Plc n ps ∧
  ∀ v H', Ex H H' → (if kc n (row ps).2 c = 0 then v = .non else ∃ l, l.Perm (lostL ps (kc n (row ps).2 c)) ∧ IsIL l v H') → Q v H'
theorem ok42 (T : TopT K mg) (C_check_code_telling : Cal P w K mg base k "check_code_telling" ["width", "places", "count"] [] sp33) (C_tree_of : Cal P w K mg base k "tree_of" ["places", "level"] [.int 0] (spTree 64)) (C_lost_places : Cal P w K mg base k "lost_places" ["branch", "many"] [] (spLost 64)) (C_items_of_code : Cal P w K mg base k "items_of_code" ["width", "places", "count"] [] sp52) : Cal P w K mg base (k + 1) "hurting" ["width", "places", "count"] [] sp42 := by
  refine mkc (n := 42) T 27 27 sc42 (fun vs H Q E h => ?_) (fun _ _ _ _ _ _ us hl => match us, hl with | [_, _, _], _ => rfl) fun f cdv A outer s H E hr => ⟨_, (pss_cons (ps_expr (pcall C_check_code_telling hr (pa_cons (pv 0) (pa_cons (pv 1) (pa_cons (pv 2) pa_nil))))) (pss_cons (ps_set (i := 3) sc42.nd rfl (Or.inl rfl) (pcall C_items_of_code hr (pa_cons (pv 0) (pa_cons (pv 1) (pa_cons (pv 2) pa_nil))))) (pss_one (ps_ret (pe_ifExp (pt_cmpR op_eq (pv 3) pe_int (nomark _)) pe_non (pe_callB cr_sorted (by rfl) T.f_sorted (by decide +kernel) (pa_cons (pcall C_lost_places hr (pa_cons (pcall C_tree_of hr (pa_cons (pv 1) pa_nil)) (pa_cons (pv 3) pa_nil))) pa_nil))))))), fun vs Q h => ?_⟩
  · obtain ⟨n, a, ps, c, rfl, _⟩ := h
    rfl
  · obtain ⟨n, a, ps, c, rfl, ha, p, q⟩ := h
    refine q_drop (v := .non) (ev_call (ea_cons (ev_var rfl) (ea_cons (ev_var rfl) (ea_cons (ev_var rfl) ea_nil))) fun H1 e Q q E => ⟨n, a, ps, c, rfl, e a _ ha, p, q⟩) fun H1 e1 => ?_
    generalize hK : kc n (row ps).2 c = j at q
    refine q_asg (v := .int (j : Int)) (ev_call (ea_cons (ev_var rfl) (ea_cons (ev_var rfl) (ea_cons (ev_var rfl) ea_nil))) fun H2 e2 Q q E => ⟨n, a, ps, c, rfl, e2 a _ (e1 a _ ha), by have := p.len; omega, p.nd, by rw [hK]; exact q⟩) fun H2 e2 => ?_
    have e12 := e1.trans e2
    by_cases hj : j = 0
    · rw [hj]
      exact s_ret (v := .non) (ev_if (b := true) (et_is (et_test (ev_op (ev_var rfl) ev_c (rv_eq rfl))) (by simp)) (fun _ => ev_c) (fun c => nomatch c)) fun H3 e3 => q _ H3 (e12.trans e3) (by rw [if_pos hj])
    · exact s_retP (evp_if (b := false) (et_is (et_test (ev_op (ev_var rfl) ev_c (rv_eq rfl))) (by simp; omega)) (fun c => nomatch c) (fun _ => evp_sortedP (evp_lost (e12 a _ ha) p (ev_var rfl) (ev_var rfl) hj) (by have := lostL_len ps j; have := p.len; omega))) fun v H3 e3 r => q v H3 (e12.trans e3) (by rw [if_neg hj]; exact r)
theorem sc43 : FnScope ["places", "j"] ["places", "j"] (defScope (tp 43)) := ⟨rfl, rfl, rfl, by decide +kernel, rfl, by decide +kernel, by decide +kernel⟩
def sp43 : Sp := fun vs H Q _ => ∃ (n : Nat) (a : Addr) (ps : List Int) (j : Nat), vs = [.ref a, .int (j : Int)] ∧ H a = some (.lst (ps.map V.int)) ∧ Plc n ps ∧ j ≤ ps.length ∧ ∀ H', Ex H H' → Q (distV ps j) H'
theorem ok43 (T : TopT K mg) (C_check_places : Cal P w K mg base k "check_places" ["width", "places"] [] sp23) (C_check_number : Cal P w K mg base k "check_number" ["number", "low", "high"] [] sp11) (C_distance_of_distance : Cal P w K mg base k "distance_of_distance" ["places", "many"] [] sp39) : Cal P w K mg base (k + 1) "least_lost" ["places", "j"] [] sp43 := by
  refine mkc (n := 43) T 28 28 sc43 (fun vs H Q E h => ?_) (fun _ _ _ _ _ _ us hl => match us, hl with | [_, _], _ => rfl) fun f cdv A outer s H E hr => ⟨_, (pss_cons (ps_expr (pcall C_check_places hr (pa_cons (g_MOST_WIDTH T (by rfl)) (pa_cons (pv 0) pa_nil)))) (pss_cons (ps_expr (pcall C_check_number hr (pa_cons (pv 1) (pa_cons pe_int (pa_cons (pe_callB call_len_seq (by rfl) T.f_len (by decide +kernel) (pa_cons (pv 0) pa_nil)) pa_nil))))) (pss_one (ps_ret (pcall C_distance_of_distance hr (pa_cons (pv 0) (pa_cons (pv 1) pa_nil))))))), fun vs Q h => ?_⟩
  · obtain ⟨n, a, ps, j, rfl, _⟩ := h
    rfl
  · obtain ⟨n, a, ps, j, rfl, ha, p, hj, q⟩ := h
    refine q_drop (v := .non) (ev_call (ea_cons ev_c (ea_cons (ev_var rfl) ea_nil)) fun H1 e Q q E => ⟨64, a, ps, rfl, e a _ ha, p.full, q⟩) fun H1 e1 => ?_
    refine q_drop (v := .non) (ev_call (ea_cons (ev_var rfl) (ea_cons ev_c (ea_cons (ev_lenI (ev_var rfl) (sq_of (e1 a _ ha))) ea_nil))) fun H2 e2 Q q E => ⟨j, _, _, rfl, .inr ⟨0, rfl, (decide_eq_true (by omega)).symm⟩, .inr ⟨_, rfl, (decide_eq_true (by omega)).symm⟩, q⟩) fun H2 e2 => ?_
    exact s_ret (v := distV ps j) (ev_call (ea_cons (ev_var rfl) (ea_cons (ev_var rfl) ea_nil)) fun H3 e3 Q q E => ⟨n, a, ps, j, rfl, e3 a _ (e2 a _ (e1 a _ ha)), p, q⟩) fun H3 e3 => q H3 (e1.trans (e2.trans e3))
theorem sc54 : FnScope ["width", "places", "count", "items"] ["width", "places", "count"] (defScope (tp 54)) := ⟨rfl, rfl, rfl, by decide +kernel, rfl, by decide +kernel, by decide +kernel⟩
theorem ok54 (T : TopT K mg) (C_items_counted_at : Cal P w K mg base k "items_counted_at" ["width", "places", "count"] [] sp52) (C_least_lost : Cal P w K mg base k "least_lost" ["places", "j"] [] sp43) : Cal P w K mg base (k + 1) "distance_of_mending" ["width", "places", "count"] [] sp41 := by
  refine mkc (n := 54) T 36 36 sc54 (fun vs H Q E h => ?_) (fun _ _ _ _ _ _ us hl => match us, hl with | [_, _, _], _ => rfl) fun f cdv A outer s H E hr => ⟨_, (pss_cons (ps_set (i := 3) sc54.nd rfl (Or.inl rfl) (pcall C_items_counted_at hr (pa_cons (pv 0) (pa_cons (pv 1) (pa_cons (pv 2) pa_nil))))) (pss_one (ps_ret (pe_ifExp (pt_cmpR op_eq (pv 3) pe_int (nomark _)) pe_non (pcall C_least_lost hr (pa_cons (pv 1) (pa_cons (pv 3) pa_nil))))))), fun vs Q h => ?_⟩
  · obtain ⟨n, a, ps, c, rfl, _⟩ := h
    rfl
  · obtain ⟨n, a, ps, c, rfl, ha, p, q⟩ := h
    have hz : kc n (row ps).2 c ≤ ps.length := by
      have := kc_le n (row ps).2 c
      rw [(row_spec ps).2.1] at this
      exact this
    generalize hK : kc n (row ps).2 c = j at q hz
    refine q_asg (v := .int (j : Int)) (ev_call (ea_cons (ev_var rfl) (ea_cons (ev_var rfl) (ea_cons (ev_var rfl) ea_nil))) fun H2 e2 Q q E => ⟨n, a, ps, c, rfl, e2 a _ ha, by have := p.len; omega, p.nd, by rw [hK]; exact q⟩) fun H2 e2 => ?_
    refine s_ret (v := distV ps j) (ev_if (b := decide (j = 0)) (et_is (et_test (ev_op (ev_var rfl) ev_c (rv_eq rfl))) (decide_eq_decide.mpr (by simp))) (fun hc => ?_) (fun hc => ?_)) fun H3 e3 => q H3 (e2.trans e3)
    · unfold distV
      rw [if_pos (of_decide_eq_true hc)]
      exact ev_c
    · exact ev_call (ea_cons (ev_var rfl) (ea_cons (ev_var rfl) ea_nil)) fun H3 e3 Q q E => ⟨n, a, ps, j, rfl, e3 a _ (e2 a _ ha), p, hz, q⟩
theorem sc56 : FnScope ["width", "places", "count", "gap"] ["width", "places", "count"] (defScope (tp 56)) := ⟨rfl, rfl, rfl, by decide +kernel, rfl, by decide +kernel, by decide +kernel⟩
def sp56 : Sp := fun vs H Q _ => ∃ (n : Nat) (a : Addr) (ps : List Int) (c : Nat), vs = [.int (n : Int), .ref a, .int (c : Int)] ∧ H a = some (.lst (ps.map V.int)) ∧ Plc n ps ∧ (kc n (row ps).2 c ≠ 0 → lostL ps (kc n (row ps).2 c) ≠ []) ∧ ∀ H', Ex H H' → Q (.int (mnd n ps c : Int)) H'
theorem ok56 (T : TopT K mg) (C_distance_of_mending : Cal P w K mg base k "distance_of_mending" ["width", "places", "count"] [] sp41) : Cal P w K mg base (k + 1) "mendable_of" ["width", "places", "count"] [] sp56 := by
  refine mkc (n := 56) T 37 37 sc56 (fun vs H Q E h => ?_) (fun _ _ _ _ _ _ us hl => match us, hl with | [_, _, _], _ => rfl) fun f cdv A outer s H E hr => ⟨_, (pss_cons (ps_set (i := 3) sc56.nd rfl (Or.inl rfl) (pcall C_distance_of_mending hr (pa_cons (pv 0) (pa_cons (pv 1) (pa_cons (pv 2) pa_nil))))) (pss_one (ps_ret (pe_ifExp (pt_cmpR op_isN (pv 3) pe_non (nomark _)) (pe_callB call_len_seq (by rfl) T.f_len (by decide +kernel) (pa_cons (pv 1) pa_nil)) (pe_op op_fdivW (pe_op op_sub (pv 3) pe_int) pe_int))))), fun vs Q h => ?_⟩
  · obtain ⟨n, a, ps, c, rfl, _⟩ := h
    rfl
  · obtain ⟨n, a, ps, c, rfl, ha, p, hne, q⟩ := h
    refine q_asg (v := distV ps (kc n (row ps).2 c)) (ev_call (ea_cons (ev_var rfl) (ea_cons (ev_var rfl) (ea_cons (ev_var rfl) ea_nil))) fun H2 e2 Q q E => ⟨n, a, ps, c, rfl, e2 a _ ha, p, q⟩) fun H2 e2 => ?_
    unfold mnd at q
    generalize kc n (row ps).2 c = j at hne q
    unfold distV
    by_cases hj : j = 0
    · rw [if_pos hj] at q ⊢
      exact s_ret (ev_if (b := true) (et_test (ev_op (ev_var rfl) ev_c (rv_val fun H1 e Q q => ⟨rfl, q⟩))) (fun _ => ev_lenI (ev_var rfl) (sq_of (e2 a _ ha))) (fun c => nomatch c)) fun H3 e3 => q H3 (e2.trans e3)
    · rw [if_neg hj] at q ⊢
      have hl := List.length_pos_iff.mpr (hne hj)
      exact s_ret (ev_if (b := false) (et_test (ev_op (ev_var rfl) ev_c (rv_val fun H1 e Q q => ⟨rfl, q⟩))) (fun c => nomatch c) (fun _ => ev_is (ev_op (ev_op (ev_var rfl) ev_c rv_I0) ev_c (rv_I ⟨by decide, by decide⟩)) (by congr 1; omega))) fun H3 e3 => q H3 (e2.trans e3)
theorem sc57 : FnScope ["width", "places", "count"] ["width", "places", "count"] (defScope (tp 57)) := ⟨rfl, rfl, rfl, by decide +kernel, rfl, by decide +kernel, by decide +kernel⟩
theorem ok57 (T : TopT K mg) (C_check_code_reading : Cal P w K mg base k "check_code_reading" ["width", "places", "count"] [] sp33) (C_mendable_of : Cal P w K mg base k "mendable_of" ["width", "places", "count"] [] sp56) : Cal P w K mg base (k + 1) "mendable" ["width", "places", "count"] [] sp56 := by
  refine mkc (n := 57) T 38 38 sc57 (fun vs H Q E h => ?_) (fun _ _ _ _ _ _ us hl => match us, hl with | [_, _, _], _ => rfl) fun f cdv A outer s H E hr => ⟨_, (pss_cons (ps_expr (pcall C_check_code_reading hr (pa_cons (pv 0) (pa_cons (pv 1) (pa_cons (pv 2) pa_nil))))) (pss_one (ps_ret (pcall C_mendable_of hr (pa_cons (pv 0) (pa_cons (pv 1) (pa_cons (pv 2) pa_nil))))))), fun vs Q h => ?_⟩
  · obtain ⟨n, a, ps, c, rfl, _⟩ := h
    rfl
  · obtain ⟨n, a, ps, c, rfl, ha, p, hne, q⟩ := h
    refine q_drop (v := .non) (ev_call (ea_cons (ev_var rfl) (ea_cons (ev_var rfl) (ea_cons (ev_var rfl) ea_nil))) fun H1 e Q q E => ⟨n, a, ps, c, rfl, e a _ ha, p, q⟩) fun H1 e1 => ?_
    exact s_ret (v := .int (mnd n ps c : Int)) (ev_call (ea_cons (ev_var rfl) (ea_cons (ev_var rfl) (ea_cons (ev_var rfl) ea_nil))) fun H2 e2 Q q E => ⟨n, a, ps, c, rfl, e2 a _ (e1 a _ ha), p, hne, q⟩) fun H2 e2 => q H2 (e1.trans e2)
end
end AW
end
section
set_option maxRecDepth 100000
set_option maxHeartbeats 4000000
namespace AW
open PySem PySem.Spec PyProof.Rows L2 Evl AH AP AZ AM
theorem inV_ints (z : Int) : ∀ ns : List Int, inV (.int z) (ns.map V.int) = ns.contains z
  | [] => rfl
  | n :: ns => by
    have ih := inV_ints z ns
    unfold inV at ih ⊢
    rw [List.map_cons, List.any_cons, ih, List.contains_cons]
    congr 1
    show eqV (.int n) (.int z) = (z == n)
    unfold eqV
    by_cases h : z = n
    · subst h; simp
    · have h2 : ¬ n = z := fun e => h e.symm
      rw [show (z == n) = false by simp [h]]
      simp [h2]
theorem perm_contains {l l' : List Int} (h : l.Perm l') (z : Int) : l.contains z = l'.contains z := by
  by_cases c : z ∈ l
  · rw [List.contains_iff_mem.mpr c, List.contains_iff_mem.mpr (h.mem_iff.mp c)]
  · have c' : z ∉ l' := fun x => c (h.mem_iff.mpr x)
    simp [c, c']
section
variable {P : Program} {w : World} {K : PySem.W.Frag} {mg : Str → Option Value} {base : Heap} {k : Nat}
theorem sc44 : FnScope ["width", "places", "count", "lost", "part", "found", "steps", "place", "word"] ["width", "places", "count"] (defScope (tp 44)) := ⟨rfl, rfl, rfl, by decide +kernel, rfl, by decide +kernel, by decide +kernel⟩
def sp44 : Sp := fun vs H Q _ => ∃ (n : Nat) (a : Addr) (ps : List Int) (c item : Nat), vs = [.int (n : Int), .ref a, .int (c : Int)] ∧ H a = some (.lst (ps.map V.int)) ∧ Plc n ps ∧
  (kc n (row ps).2 c ≠ 0 → lack (row ps).2 (row (AP.part ps (kc n (row ps).2 c))).2 (kc n (row ps).2 c) = some item ∧ (∃ x ∈ lightU n ps (kc n (row ps).2 c) item, x ≠ 0) ∧ ∀ x ∈ lightU n ps (kc n (row ps).2 c) item, 0 ≤ x ∧ x < 2 ^ n) ∧
  ∀ v H', Ex H H' → (if kc n (row ps).2 c = 0 then v = .non else IsIL (lightW n ps (kc n (row ps).2 c) item) v H') → Q v H'
theorem ok44 (T : TopT K mg) (C_hurting : Cal P w K mg base k "hurting" ["width", "places", "count"] [] sp42) (C_hidden_word : Cal P w K mg base k "hidden_word" ["width", "places", "part", "item"] [] sp37) (C_lacking_item : Cal P w K mg base k "lacking_item" ["places", "part", "many"] [] sp36) (C_items_of_code : Cal P w K mg base k "items_of_code" ["width", "places", "count"] [] sp52) (C_twos : Cal P w K mg base k "twos" ["number"] [] sp13)
    (C_power_of_two : Cal P w K mg base k "power_of_two" ["many"] [] sp12) : Cal P w K mg base (k + 1) "lightest" ["width", "places", "count"] [] sp44 := by
  refine mkc (n := 44) T 29 29 sc44 (fun vs H Q E h => ?_) (fun _ _ _ _ _ _ us hl => match us, hl with | [_, _, _], _ => rfl) fun f cdv A outer s H E hr => ⟨_, (pss_cons (ps_set (i := 3) sc44.nd rfl (Or.inr rfl) (pcall C_hurting hr (pa_cons (pv 0) (pa_cons (pv 1) (pa_cons (pv 2) pa_nil))))) (pss_cons (ps_if (pt_cmpR op_isN (pv 3) pe_non (nomark _)) (pss_one (ps_ret pe_non)) pss_nil) (pss_cons (ps_setLc (i := 4) (own := [("place", 7)]) (g := gName 7) rfl sc44.nd rfl rfl (sw_true rfl rfl rfl (by decide +kernel)) (pi_list (pv 1)) (blkOk_by (own := [("place", 7)]) (N := ["width", "places", "count", "lost", "part", "found", "steps", "place", "word"]) (sc := defScope (tp 44)) (by decide +kernel)) (fun _ _ _ _ _ => (pg_name (i := 7) sc44.nd rfl (Or.inl rfl))) (fun _ _ _ _ _ => pts_one (pt_cmpR (op_notInK (K := K) rfl) (pv 7) (pv 3) (by rfl))) (fun _ _ _ _ _ => (pv 7))) (pss_cons (ps_set (i := 5) sc44.nd rfl (Or.inl rfl) (pcall C_hidden_word hr (pa_cons (pv 0) (pa_cons (pv 1) (pa_cons (pv 4) (pa_cons (pcall C_lacking_item hr (pa_cons (pv 1) (pa_cons (pv 4) (pa_cons (pcall C_items_of_code hr (pa_cons (pv 0) (pa_cons (pv 1) (pa_cons (pv 2) pa_nil)))) pa_nil)))) pa_nil)))))) (pss_cons (ps_set (i := 6) sc44.nd rfl (Or.inr rfl) (pe_op op_sub (pe_op op_sub (pv 0) pe_int) (pe_callB (cr_min rfl) (by rfl) T.f_min (by decide +kernel) (pa_cons (pe_lc (own := [("word", 8)]) (g := gName 8) rfl sc44.nd (pi_list (pv 5)) (blkOk_by (own := [("word", 8)]) (N := ["width", "places", "count", "lost", "part", "found", "steps", "place", "word"]) (sc := defScope (tp 44)) (by decide +kernel)) (fun _ _ _ _ _ => (pg_name (i := 8) sc44.nd rfl (Or.inl rfl))) (fun _ _ _ _ _ => pts_one (pt_cmpR op_ne (pv 8) pe_int (nomark _))) (fun _ _ _ _ _ => (pcall C_twos hr (pa_cons (pv 8) pa_nil)))) pa_nil)))) (pss_one (ps_ret (pe_lc (own := [("word", 8)]) (g := gName 8) (tt := tYes) rfl sc44.nd (pi_list (pv 5)) (blkOk_by (own := [("word", 8)]) (N := ["width", "places", "count", "lost", "part", "found", "steps", "place", "word"]) (sc := defScope (tp 44)) (by decide +kernel)) (fun _ _ _ _ _ => (pg_name (i := 8) sc44.nd rfl (Or.inl rfl))) (fun _ _ _ _ _ => pts_nil) (fun _ _ _ _ _ => (pe_op op_mod (pe_op op_mulW (pv 8) (pcall C_power_of_two hr (pa_cons (pv 6) pa_nil))) (pcall C_power_of_two hr (pa_cons (pv 0) pa_nil)))))))))))), fun vs Q h => ?_⟩
  · obtain ⟨n, a, ps, c, item, rfl, _⟩ := h
    rfl
  · obtain ⟨n, a, ps, c, item, rfl, ha, p, hk, q⟩ := h
    have pl := p.len
    have hjl : kc n (row ps).2 c ≤ ps.length := by
      have := kc_le n (row ps).2 c
      rw [(row_spec ps).2.1] at this
      exact this
    generalize hK : kc n (row ps).2 c = j at hk q hjl
    refine q_asgP (R := fun v H' => if j = 0 then v = .non else ∃ l, l.Perm (lostL ps j) ∧ IsIL l v H') (evp_callA (ea_cons (ev_var rfl) (ea_cons (ev_var rfl) (ea_cons (ev_var rfl) ea_nil))) fun H1 e1 Q q E => ⟨n, a, ps, c, rfl, e1 a _ ha, p, fun v H2 e2 r => q v H2 e2 (by rw [hK] at r; exact r)⟩) fun v H1 e1 r => ?_
    by_cases hj : j = 0
    · rw [if_pos hj] at r
      simp only [if_pos hj] at q
      subst r
      exact q_when (b := true) (et_test (ev_op (ev_var rfl) ev_c (rv_val fun H1 e Q q => ⟨rfl, q⟩))) (fun _ H2 e2 => s_ret ev_c fun H3 e3 => q _ H3 (e1.trans (e2.trans e3)) rfl) (fun c => nomatch c)
    · rw [if_neg hj] at r
      simp only [if_neg hj] at q
      obtain ⟨k1, ⟨x0, hx0, nx0⟩, k2⟩ := hk hj
      obtain ⟨l, hp, lp, rfl, hl⟩ := r
      refine q_when (b := false) (et_test (ev_op (ev_var rfl) ev_c (rv_val fun H1 e Q q => ⟨rfl, q⟩))) (fun c => nomatch c) (fun _ H2 e2 => ?_)
      have e12 := e1.trans e2
      refine q_asgL (xs := (AP.part ps j).map V.int) (el_lcI (fun z => !(lostL ps j).contains z) V.int (ev_var rfl) (sq_of (e12 a _ ha)) (by omega) (fun _ => rfl) (fun z H3 e3 hz => et_is (et_test (ev_op (ev_var rfl) (ev_var rfl) (rv_niL (sq_of (e3 lp _ (e2 lp _ hl))) rfl (flat_ints l)))) (by rw [inV_ints, perm_contains hp])) (fun z H3 e3 hz _ => ev_var rfl)) fun pp H3 np e3 hpp => ?_
      have e13 := e12.trans e3
      have hpl : (AP.part ps j).length ≤ ps.length := List.length_filter_le ..
      have hpn : (AP.part ps j).Nodup := p.nd.filter _
      refine q_asgL (xs := (lightU n ps j item).map V.int) (el_call (ea_cons (ev_var rfl) (ea_cons (ev_var rfl) (ea_cons (ev_var rfl) (ea_cons (x := .int (item : Int)) (ev_call (ea_cons (ev_var rfl) (ea_cons (ev_var rfl) (ea_cons (ev_call (ea_cons (ev_var rfl) (ea_cons (ev_var rfl) (ea_cons (ev_var rfl) ea_nil))) fun H4 e4 Q q E => ⟨n, a, ps, c, rfl, e4 a _ (e13 a _ ha), by omega, p.nd, by rw [hK]; exact q⟩) ea_nil)))
        fun H4 e4 Q q E => ⟨a, pp, ps, AP.part ps j, j, rfl, e4 a _ (e13 a _ ha), e4 pp _ hpp, by omega, by omega, p.nd, hpn, hjl, fun H5 e5 => by rw [k1]; exact q H5 e5⟩) ea_nil)))) fun H4 e4 Q q E => ⟨n, a, pp, ps, AP.part ps j, item, rfl, p.w64, e4 a _ (e13 a _ ha), e4 pp _ hpp, by omega, by omega, hpn, p.abs, fun z hz => p.abs z (List.mem_filter.mp hz).1, q⟩) fun fp H4 nf e4 hf => ?_
      have e14 := e13.trans e4
      -- steps
      have fne : ((lightU n ps j item).filter fun x => !decide (x = 0)).map (fun x => (v2 x : Int)) ≠ [] := by
        intro z
        have : (v2 x0 : Int) ∈ ((lightU n ps j item).filter fun x => !decide (x = 0)).map (fun x => (v2 x : Int)) := List.mem_map.mpr ⟨x0, List.mem_filter.mpr ⟨hx0, by simpa using nx0⟩, rfl⟩
        rw [z] at this
        cases this
      have hlen : (lightU n ps j item).length = ps.length := by unfold lightU hid; simp
      have hmm : ∃ m : Nat, minL (((lightU n ps j item).filter fun x => !decide (x = 0)).map fun x => (v2 x : Int)) = (m : Int) ∧ m < n := by
        obtain ⟨y, hy, ey⟩ := List.mem_map.mp (min_mem fne)
        rw [List.mem_filter] at hy
        obtain ⟨y1, y2⟩ := k2 y hy.1
        exact ⟨v2 y, ey.symm, v2_lt (by simpa using hy.2) y1 y2⟩
      obtain ⟨m, hm1, hm2⟩ := hmm
      refine q_asg (v := .int ((n - 1 - m : Nat) : Int)) (ev_is (ev_op (ev_op (ev_var rfl) ev_c rv_I0) (ev_minNI (el_is (el_lcI (fun x => !decide (x = 0)) (fun x => .int (v2 x : Int)) (ev_var rfl) (sq_of hf) (by omega) (fun _ => rfl) (fun z H5 e5 hz => et_is (et_test (ev_op (ev_var rfl) ev_c (rv_ne rfl))) (by simp))
        (fun z H5 e5 hz hzz => ev_call (ea_cons (ev_var rfl) ea_nil) fun H6 e6 Q q E => ⟨z, rfl, by simpa using hzz, q⟩)) (by rw [List.map_map]; rfl)) fne) rv_I0) (by rw [hm1]; congr 1; omega)) fun H5 e5 => ?_
      refine s_retL (el_lcI (fun _ => true) (fun x => .int (x * 2 ^ (n - 1 - m) % 2 ^ n)) (ev_var rfl) (sq_of (e5 fp _ hf)) (by omega) (fun _ => rfl) (fun _ _ _ _ => et_yes) (fun z H6 e6 hz _ => ?_)) fun rp H6 nr e6 hr => ?_
      · have hw := p.w64
        obtain ⟨z1, z2⟩ := k2 z hz
        have h3 : (2 : Int) ^ n ≤ 2 ^ 64 := Int.le_of_dvd (AP.pow_pos 64) (AP.pow_dvd p.w64)
        have h4 : (2 : Int) ^ 64 = 18446744073709551616 := by decide
        have h5 : (2 : Nat) ^ 64 = 18446744073709551616 := by decide
        have hz2 : z.natAbs < 2 ^ 64 := by omega
        have hp2 : ((2 : Int) ^ (n - 1 - m)).natAbs < 2 ^ (n - 1 - m + 1) := by
          rw [Int.natAbs_pow]
          exact Nat.pow_lt_pow_right (by decide) (by omega)
        exact ev_op (ev_op (ev_var rfl) (ev_call (ea_cons (ev_var rfl) ea_nil) fun H7 e7 Q q E => ⟨n - 1 - m, rfl, by omega, q⟩) (rv_I (wide_mul hz2 hp2 (by decide) (by omega) (by omega)))) (ev_call (ea_cons (ev_var rfl) ea_nil) fun H7 e7 Q q E => ⟨n, rfl, by omega, q⟩) (rv_I (Int.pow_pos (by decide)))
      · refine q _ H6 (e14.trans (e5.trans e6)) ⟨rp, rfl, ?_⟩
        rw [hr, List.filter_eq_self.mpr (fun _ _ => rfl)]
        unfold lightW
        rw [hm1, Int.toNat_natCast, List.map_map]
        rfl
end
end AW
end
section
set_option maxRecDepth 100000
set_option maxHeartbeats 4000000
namespace AW
open PySem PySem.Spec PyProof.Rows L2 Evl AH AP AZ AM
section
variable {P : Program} {w : World} {K : PySem.W.Frag} {mg : Str → Option Value} {base : Heap} {k : Nat}
section
variable {σ : L2.St} {H : Hp} {td ty : TE} {ta : TA} {D : Ends} {tz : TS}
theorem ev_dget {a : Addr} {kvs : List (Key × V)} {x : Int} {v : V} (hd : Ev td σ H (.ref a)) (hx : Ev ty σ H (.int x)) (hk : H a = some (.dK kvs)) (hv : valV kvs (.inl x) = some v) : Ev (tDGet td ty) σ H v := fun H1 e Q q =>
  hd H1 e _ fun H2 e2 => hx H2 (e.trans e2) _ fun H3 e3 => ⟨a, v, rfl, .inl ⟨kvs, .inl x, .inl ((e.trans (e2.trans e3)) a _ hk), rfl, hv.symm⟩, q H3 (e2.trans e3)⟩
theorem q_par3 {i j l : Nat} {R : V → V → V → Hp → Prop} (h : EvAP ta σ H fun vs H' => ∃ x y z, vs = [x, y, z] ∧ R x y z H') (k : ∀ x y z H1, Ex H H1 → R x y z H1 → tz D (((σ.set i (some x)).set j (some y)).set l (some z)) H1) : tSeq (tPar3 i j l ta) tz D σ H :=
  h H (Ex.refl H) _ fun vs H1 e ⟨x, y, z, e1, r⟩ => ⟨x, y, z, e1, k x y z H1 e r⟩
end
theorem sc49 : FnScope ["width", "places", "count", "words", "order", "numbers", "told", "items", "whole", "at", "place", "lacking", "step", "odd", "left"] ["width", "places", "count", "words"] (defScope (tp 49)) := ⟨rfl, rfl, rfl, by decide +kernel, rfl, by decide +kernel, by decide +kernel⟩
/-- order, items (or None) -/
def IsRead (od : List Int) (o : Option (List Int)) (v : V) (H : Hp) : Prop := ∃ (t p : Addr) (u : V), v = .ref t ∧ H t = some (.tup [.ref p, u]) ∧ H p = some (.lst (od.map V.int)) ∧ IsOL o u H
def sp49 : Sp := fun vs H Q _ => ∃ (n : Nat) (a b : Addr) (ps ws : List Int) (c : Nat), vs = [.int (n : Int), .ref a, .int (c : Int), .ref b] ∧ n ≤ 64 ∧ H a = some (.lst (ps.map V.int)) ∧ H b = some (.lst (ws.map V.int)) ∧ ps.length ≤ 64 ∧ ps.Nodup ∧ (∀ z ∈ ps, z.natAbs < 2 ^ 64) ∧ ws.length = ps.length ∧
  ∀ v H', Ex H H' → IsRead (row ps).1 (iread n ps c ws) v H' → Q v H'
theorem ok49 (T : TopT K mg) (C_good_row : Cal P w K mg base k "good_row" ["places"] [] sp14) (C_value_at : Cal P w K mg base k "value_at" ["order", "items", "place"] [] sp50) (C_power_of_two : Cal P w K mg base k "power_of_two" ["many"] [] sp12) (C_product_at : Cal P w K mg base k "product_at" ["order", "many", "number"] [] sp15) (C_odd_undone : Cal P w K mg base k "odd_undone" ["number", "by"] [] sp48) : Cal P w K mg base (k + 1) "items_read" ["width", "places", "count", "words"] [] sp49 := by
  refine mkc (n := 49) T 32 32 sc49 (fun vs H Q E h => ?_) (fun _ _ _ _ _ _ us hl => match us, hl with | [_, _, _, _], _ => rfl) fun f cdv A outer s H E hr => ⟨_, (pss_cons (ps_asg (pcall C_good_row hr (pa_cons (pv 1) pa_nil)) (pg_tup rfl (pgs_cons (pg_name (i := 4) sc49.nd rfl (Or.inl rfl)) (pgs_cons (pg_name (i := 5) sc49.nd rfl (Or.inl rfl)) pgs_nil)))) (pss_cons (ps_par3 (i := 6) (j := 7) (l := 8) rfl sc49.nd rfl rfl rfl (by decide) (by decide) (by decide) rfl rfl rfl (pa_cons (AZ.pe_dictZipS rfl (by rfl) T.f_dict (by rfl) T.f_zip (pa_cons (pv 1) (pa_cons (pv 3) pa_nil))) (pa_cons (pe_lst pa_nil) (pa_cons (pcall C_power_of_two hr (pa_cons (pv 0) pa_nil)) pa_nil))) (by rfl)) (pss_cons (ps_for PassesOwn.never rfl (pi_enum (by rfl) T.f_enumerate (pa_cons (pv 4) pa_nil)) (pg_tup rfl (pgs_cons (pg_name (i := 9) sc49.nd rfl (Or.inl rfl)) (pgs_cons (pg_name (i := 10) sc49.nd rfl (Or.inl rfl)) pgs_nil))) (pss_cons (ps_set (i := 11) sc49.nd rfl (Or.inl rfl) (pe_op op_mod (pe_op op_sub (pe_dget (Nat.lt_of_le_of_lt (Nat.add_le_add_left (by decide) _) hr.units) (pv 6) (pv 10) (fun _ _ => rfl)) (pcall C_value_at hr (pa_cons (pv 4) (pa_cons (pv 7) (pa_cons (pv 10) pa_nil))))) (pv 8))) (pss_one (ps_if (PW.pt (pw_and (pt_cmpR op_lt (pv 9) (pv 2) (nomark _)) (pw_and1 (pt_cmpR op_lt (pe_ix ix_list (pv 5) (pv 9) (fun _ _ => rfl)) (pv 0) (nomark _))))) (pss_cons (ps_set (i := 12) sc49.nd rfl (Or.inl rfl) (pcall C_power_of_two hr (pa_cons (pe_ix ix_list (pv 5) (pv 9) (fun _ _ => rfl)) pa_nil))) (pss_cons (ps_if (pt_cmpR op_ne (pe_op op_mod (pv 11) (pv 12)) pe_int (nomark _)) (pss_one (ps_ret (pe_tup (pa_cons (pv 4) (pa_cons pe_non pa_nil))))) pss_nil) (pss_cons (ps_par (i := 13) (j := 14) rfl sc49.nd rfl rfl (by decide) rfl rfl (pa_cons (pe_op op_fdivW (pcall C_product_at hr (pa_cons (pv 4) (pa_cons (pv 9) (pa_cons (pv 10) pa_nil)))) (pv 12)) (pa_cons (pe_op op_fdivW (pv 8) (pv 12)) pa_nil)) (by rfl)) (pss_one (ps_expr (pe_bm PySem.F.plainAttrs_list PySem.F.slot_list_append PySem.F.type_list_append mt_append (pv 7) (pa_cons (pe_op op_mod (pe_op op_mulW (pe_op op_fdivW (pv 11) (pv 12)) (pcall C_odd_undone hr (pa_cons (pv 13) (pa_cons (pv 14) pa_nil)))) (pv 14)) pa_nil))))))) (pss_one (ps_if (pt_cmpR op_ne (pv 11) pe_int (nomark _)) (pss_one (ps_ret (pe_tup (pa_cons (pv 4) (pa_cons pe_non pa_nil))))) pss_nil)))))) (pss_one (ps_ret (pe_tup (pa_cons (pv 4) (pa_cons (pv 7) pa_nil)))))))), fun vs Q h => ?_⟩
  · obtain ⟨n, a, b, ps, ws, c, rfl, _⟩ := h
    rfl
  · obtain ⟨n, a, b, ps, ws, c, rfl, hn, ha, hb, hz, hnd, hab, hl, q⟩ := h
    have hpw : (0 : Int) < 2 ^ n := Int.pow_pos (by decide)
    refine q_unp2 (R := fun x y H' => IsIL (row ps).1 x H' ∧ IsIL (row ps).2 y H') ((evp_row (ev_var rfl) ha hz hnd).imp fun v H1 _ r => ?_) fun x y H1 e1 r => ?_
    · obtain ⟨t, o, n, rfl, h1, h2, h3⟩ := r
      exact ⟨t, _, _, rfl, h1, ⟨o, rfl, h2⟩, ⟨n, rfl, h3⟩⟩
    obtain ⟨⟨po, rfl, ho⟩, ⟨pn, rfl, hnu⟩⟩ := r
    obtain ⟨S0, S1, S2⟩ := row_spec ps
    have L0 := S0.length_eq
    generalize hod : (row ps).1 = od at *
    generalize hnm : (row ps).2 = nm at *
    have hodm : ∀ z ∈ od, z ∈ ps := fun z hzz => S0.mem_iff.mp hzz
    refine q_par3 (R := fun x y z H' => ∃ d i : Addr, x = .ref d ∧ y = .ref i ∧ z = .int (2 ^ n) ∧ H1 i = none ∧ H' d = some (.dK (mergeK [] ((ps.map Sum.inl).zip (ws.map V.int)))) ∧ H' i = some (.lst (([] : List Int).map V.int)))
      (eap_cons (R := fun v H' => ∃ d : Addr, v = .ref d ∧ H' d = some (.dK (mergeK [] ((ps.map Sum.inl).zip (ws.map V.int))))) (fun H2 e2 Q q => ea_cons (ev_var rfl) (ea_cons (ev_var rfl) ea_nil) H2 e2 _ fun H3 e3 => ⟨a, b, ps, ws.map V.int, rfl, sq_of ((e1.trans (e2.trans e3)) a _ ha), sq_of ((e1.trans (e2.trans e3)) b _ hb), by simp [hl], fun d nd => q _ _ (e3.trans (Ex.new nd)) ⟨d, rfl, upd_same⟩⟩)
        fun u1 H2 e2 r1 => eap_cons (R := fun v H' => ∃ i : Addr, v = .ref i ∧ H1 i = none ∧ H' i = some (.lst (([] : List Int).map V.int))) (EvL.p (el_lst ea_nil (by decide)) fun i H3 ni hi _ => ⟨i, rfl, fresh_back e2 ni, hi⟩) fun u2 H3 e3 r2 => eap_cons (R := fun v _ => v = .int (2 ^ n)) (Ev.p (ev_call (ea_cons (ev_var rfl) ea_nil) fun H4 e4 Q q E => ⟨n, rfl, by omega, q⟩) fun _ _ => rfl) fun u3 H4 e4 r3 => eap_nil fun H5 e5 => ?_) fun x y z H2 e2 r => ?_
    · obtain ⟨d, rfl, hd⟩ := r1
      obtain ⟨i, rfl, fi, hi⟩ := r2
      exact ⟨_, _, _, rfl, d, i, rfl, rfl, r3, fi, e5 d _ (e4 d _ (e3 d _ hd)), e5 i _ (e4 i _ hi)⟩
    obtain ⟨d, ip, rfl, rfl, rfl, fi, hd, hi⟩ := r
    have e12 := e1.trans e2
    have hmk : mergeK [] ((ps.map (Sum.inl : Int → Key)).zip (ws.map V.int)) = (ps.map (Sum.inl : Int → Key)).zip (ws.map V.int) := by
      rw [mergeK_new]
      · simp
      · rw [List.nil_append, List.map_fst_zip (by simp [hl])]
        exact List.Pairwise.map _ (fun x y h1 h2 => h1 (by injection h2)) hnd
    rw [hmk] at hd
    have hir : iread n ps c ws = rd n c od nm (tl ps ws) ps.length := by unfold iread; rw [hod, hnm]
    refine q_forE (xs := od.map V.int) (ea_cons (ev_var rfl) ea_nil) (sq_of (e2 po _ ho)) (fun i σ' H' => ∃ (it : List Int) (y9 y10 y11 y12 y13 y14 : Option V), σ' = [some (.int (n : Int)), some (.ref a), some (.int (c : Int)), some (.ref b), some (.ref po), some (.ref pn), some (.ref d), some (.ref ip), some (.int (2 ^ n)), y9, y10, y11, y12, y13, y14] ∧
      rd n c od nm (tl ps ws) i = some it ∧ H' ip = some (.lst (it.map V.int)) ∧ Ex H1 H' ∧ H' d = some (.dK ((ps.map (Sum.inl : Int → Key)).zip (ws.map V.int)))) (fun H3 e3 => ⟨[], none, none, none, none, none, none, rfl, rfl, e3 ip _ hi, e2.trans e3, e3 d _ hd⟩)
      (fun i σ' H' _ h => ?_) (fun i σ' H' T o h hT => ?_) (fun i x σ' H' hx h => ?_) (fun σ' H' h => ?_)
    · obtain ⟨it, _, _, _, _, _, _, _, _, _, e3, _⟩ := h
      exact sq_of (e3 po _ ho)
    · obtain ⟨it, y9, y10, y11, y12, y13, y14, e0, h1, h2, h3, h4⟩ := h
      exact ⟨it, y9, y10, y11, y12, y13, y14, e0, h1, Ex.new hT _ _ h2, h3.trans (Ex.new hT), Ex.new hT _ _ h4⟩
    · obtain ⟨it, y9, y10, y11, y12, y13, y14, rfl, h1, h2, e3, h4⟩ := h
      obtain ⟨x, hxi, rfl, hxm, hxd⟩ := ix_ints hx
      have hi : i < od.length := (List.getElem?_eq_some_iff.mp hxi).1
      obtain ⟨b1, b2⟩ := rd_bound hn h1
      obtain ⟨qz, hq⟩ := find_zip (hodm x hxm) hl
      have htl : tl ps ws x = qz.2 := by unfold tl; rw [hq]; rfl
      have hrd1 : rd n c od nm (tl ps ws) (i + 1) = rdS n c od nm (tl ps ws) i it := by
        show (rd n c od nm (tl ps ws) i).bind _ = _
        rw [h1]
        rfl
      have habo : ∀ z ∈ od, z.natAbs < 2 ^ 64 := fun z hzz => hab z (hodm z hzz)
      generalize hlk : (tl ps ws x - valAt od it x) % 2 ^ n = lk
      have lk0 : 0 ≤ lk := by rw [← hlk]; exact Int.emod_nonneg _ (by omega)
      have lk1 : lk < 2 ^ n := by rw [← hlk]; exact Int.emod_lt_of_pos _ hpw
      have h3 : (2 : Int) ^ n ≤ 2 ^ 64 := Int.le_of_dvd (AP.pow_pos 64) (AP.pow_dvd hn)
      have h64 : (2 : Int) ^ 64 = 18446744073709551616 := by decide
      have h64n : (2 : Nat) ^ 64 = 18446744073709551616 := by decide
      refine q_asg (v := .int lk) (ev_is (ev_op (ev_op (ev_dget (v := .int qz.2) (ev_var rfl) (ev_var rfl) h4 (by rw [valV_zip, hq]; rfl)) (ev_call (ea_cons (ev_var rfl) (ea_cons (ev_var rfl) (ea_cons (ev_var rfl) ea_nil))) fun H3 e4 Q q E => ⟨po, ip, od, it, x, rfl, e4 po _ (e3 po _ ho), e4 ip _ h2, by omega, by omega, habo x hxm, habo, b2, q⟩) rv_I0) (ev_var rfl) (rv_I hpw)) (by rw [← hlk, htl])) fun H3 e4 => ?_
      obtain ⟨t0, _, hnmi, _⟩ := S2 i (by omega)
      have hnmd : nm.getD i 0 = ((tw (od.take i) t0 : Nat) : Int) := by rw [List.getD_eq_getElem?_getD, hnmi] <;> rfl
      generalize tw (od.take i) t0 = kk at hnmi hnmd
      have e34 := e3.trans e4
      have hnl : nm.length ≤ 64 := by omega
      refine s_if (b := decide (i < c) && decide (nm.getD i 0 < (n : Int))) (et_and (et_is (et_test (ev_op (ev_var rfl) (ev_var rfl) rv_I0)) (decide_eq_decide.mpr (by omega))) fun _ => et_test (ev_op (ev_op (ev_var rfl) (ev_var rfl) (rv_ixL (sq_of (e34 pn _ hnu)) (at_ints (by omega)))) (ev_var rfl) rv_I0)) (fun hc H4 e5 => ?_) (fun hc H4 e5 => ?_)
      · -- an item
        simp only [Bool.and_eq_true, decide_eq_true_eq] at hc
        have hkn : kk < n := by omega
        have hst : rdS n c od nm (tl ps ws) i it = if lk % 2 ^ kk = 0 then some (it ++ [lk / 2 ^ kk * oddU (prodAt (od.take i) x / 2 ^ kk) (2 ^ n / 2 ^ kk) % (2 ^ n / 2 ^ kk)]) else none := by
          unfold rdS
          rw [if_pos hc, hxd, hlk, hnmd, Int.toNat_natCast]
        have hpk : (0 : Int) < 2 ^ kk := Int.pow_pos (by decide)
        have hleft : (2 : Int) ^ n / 2 ^ kk = 2 ^ (n - kk) := by
          have : (2 : Int) ^ n = 2 ^ kk * 2 ^ (n - kk) := by rw [← Int.pow_add]; congr 1; omega
          rw [this, Int.mul_ediv_cancel_left _ (by omega)]
        have hl0 : (0 : Int) < 2 ^ n / 2 ^ kk := by rw [hleft]; exact Int.pow_pos (by decide)
        have hl1 : (2 : Int) ^ n / 2 ^ kk ≤ 2 ^ 64 := by rw [hleft]; exact Int.le_of_dvd (AP.pow_pos 64) (AP.pow_dvd (by omega))
        refine q_asg (v := .int (2 ^ kk)) (ev_call (ea_cons (ev_op (ev_var rfl) (ev_var rfl) (rv_ixL (v := .int (kk : Int)) (sq_of (e5 pn _ (e34 pn _ hnu))) (by rw [← hnmd]; exact at_ints (by omega)))) ea_nil) fun H5 e6 Q q E => ⟨kk, rfl, by omega, q⟩) fun H5 e6 => ?_
        have e36 := e34.trans (e5.trans e6)
        have hk65 : ((2 : Int) ^ kk).natAbs < 2 ^ 65 := by
          rw [Int.natAbs_pow]
          exact Nat.pow_lt_pow_right (by decide) (by omega)
        refine q_when (b := !decide (lk % 2 ^ kk = 0)) (et_is (et_test (ev_op (ev_op (ev_var rfl) (ev_var rfl) (rv_I hpk)) ev_c (rv_ne rfl))) (by simp)) (fun hb6 H6 e7 => ?_) (fun hb6 H6 e7 => ?_)
        · have hb6 : ¬ lk % 2 ^ kk = 0 := by simpa using hb6
          refine s_retU (eu_tup (ea_cons (ev_var rfl) (ea_cons ev_c ea_nil)) (by show 2 ≤ 100000; decide)) fun p H7 np e8 hp => q _ H7 (e1.trans (e36.trans (e7.trans e8))) ⟨p, po, .non, rfl, hp, (e7.trans e8) po _ (e36 po _ ho), ?_⟩
          rw [hir, rd_none (i := i + 1) (by rw [hrd1, hst, if_neg hb6]) (by omega)]
          exact rfl
        · have hb6 : lk % 2 ^ kk = 0 := by simpa using hb6
          have hpr : (prodAt (od.take i) x).natAbs < 2 ^ (1 + (64 + 1) * 64) := by
            have := prodAt_bound (habo x hxm) (l := od.take i) (fun b hb => habo b (List.mem_of_mem_take hb)) 1 1 (by decide)
            refine Nat.lt_of_lt_of_le this (Nat.pow_le_pow_right (by decide) ?_)
            have : (od.take i).length ≤ 64 := by simp; omega
            omega
          have hpd : (prodAt (od.take i) x / 2 ^ kk).natAbs < 2 ^ 6000 := by
            refine Nat.lt_of_le_of_lt (Int.natAbs_ediv_le_natAbs _ _) (Nat.lt_of_lt_of_le hpr (Nat.pow_le_pow_right (by decide) (by decide)))
          have e37 := e36.trans e7
          refine q_par (R := fun u v _ => u = .int (prodAt (od.take i) x / 2 ^ kk) ∧ v = .int (2 ^ n / 2 ^ kk)) (EvA.p (ea_cons (ev_op (ev_call (ea_cons (ev_var rfl) (ea_cons (ev_var rfl) (ea_cons (ev_var rfl) ea_nil))) fun H8 e8 Q q E => ⟨po, od, i, x, rfl, e8 po _ (e37 po _ ho), by omega, habo x hxm, habo, q⟩) (ev_var rfl) (rv_I ?_)) (ea_cons (ev_op (ev_var rfl) (ev_var rfl) (rv_I ?_)) ea_nil)) fun H8 _ => ⟨_, _, rfl, rfl, rfl⟩) fun u v H7 e8 r => ?_
          · exact wide_div hpk hk65 (by decide) (by decide)
          · exact wide_div hpk hk65 (by decide) (by decide)
          obtain ⟨rfl, rfl⟩ := r
          have hodd : ∀ z : Int, 0 < z → ∀ q : Int, (oddU q z).natAbs < z.natAbs + 1 := fun z hz q => by
            unfold oddU
            have : ∀ m : Nat, 0 < m → ∀ f0 : Int, ((List.range m).foldl (fun f _ => f * (2 - q * f) % z) f0).natAbs < z.natAbs + 1 := by
              intro m hm f0
              obtain ⟨m, rfl⟩ : ∃ m', m = m' + 1 := ⟨m - 1, by omega⟩
              rw [List.range_succ, List.foldl_append]
              generalize (List.range m).foldl (fun f _ => f * (2 - q * f) % z) f0 = g
              show (g * (2 - q * g) % z).natAbs < _
              have h1 := Int.emod_nonneg (g * (2 - q * g)) (show z ≠ 0 by omega)
              have h2 := Int.emod_lt_of_pos (g * (2 - q * g)) hz
              omega
            exact this 7 (by decide) 1
          have hod65 : (oddU (prodAt (od.take i) x / 2 ^ kk) (2 ^ n / 2 ^ kk)).natAbs < 2 ^ 65 := by
            have := hodd _ hl0 (prodAt (od.take i) x / 2 ^ kk)
            omega
          have hlk65 : (lk / 2 ^ kk).natAbs < 2 ^ 65 := by
            have := Int.natAbs_ediv_le_natAbs lk (2 ^ kk)
            omega
          have e38 := e37.trans e8
          have hits : H7 ip = some (.lst (it.map V.int)) := (((e4.trans (e5.trans e6)).trans e7).trans e8) ip _ h2
          refine s_app (l := ip) (xs := it.map V.int) hits (ev_var rfl) (ev_op (ev_op (ev_op (ev_var rfl) (ev_var rfl) (rv_I (wide_div hpk hk65 (by decide) (by decide)))) (ev_call (ea_cons (ev_var rfl) (ea_cons (ev_var rfl) ea_nil)) fun H8 e9 Q q E => ⟨_, _, rfl, hpd, hl0, hl1, q⟩) (rv_I (wide_mul hlk65 hod65 (by decide) (by decide) (by decide)))) (ev_var rfl) (rv_I hl0)) (by simp; omega) fun H8 e9 => ?_
          refine ⟨_, _, _, _, _, _, _, rfl, by rw [hrd1, hst, if_pos hb6], ?_, Ex.mut (e38.trans e9) fi, ?_⟩
          · rw [upd_same, List.map_append]
            rfl
          · have hd9 : H8 d = some (.dK ((ps.map (Sum.inl : Int → Key)).zip (ws.map V.int))) := ((((e4.trans (e5.trans e6)).trans e7).trans e8).trans e9) d _ h4
            rw [upd_ne fun z => ?_]
            · exact hd9
            · rw [z] at hd9
              rw [e9 ip _ hits] at hd9
              cases hd9
      · -- nothing left to tell
        have hc' : ¬ (i < c ∧ nm.getD i 0 < (n : Int)) := by simpa using hc
        have hst : rdS n c od nm (tl ps ws) i it = if lk = 0 then some it else none := by
          unfold rdS
          rw [if_neg hc', hxd, hlk]
        have e35 := e34.trans e5
        refine s_when (b := !decide (lk = 0)) (et_is (et_test (ev_op (ev_var rfl) ev_c (rv_ne rfl))) (by simp)) (fun hb6 H6 e7 => ?_) (fun hb6 H6 e7 => ?_)
        · have hb6 : ¬ lk = 0 := by simpa using hb6
          refine s_retU (eu_tup (ea_cons (ev_var rfl) (ea_cons ev_c ea_nil)) (by show 2 ≤ 100000; decide)) fun p H7 np e8 hp => q _ H7 (e1.trans (e35.trans (e7.trans e8))) ⟨p, po, .non, rfl, hp, (e7.trans e8) po _ (e35 po _ ho), ?_⟩
          rw [hir, rd_none (i := i + 1) (by rw [hrd1, hst, if_neg hb6]) (by omega)]
          exact rfl
        · have hb6 : lk = 0 := by simpa using hb6
          exact ⟨it, _, _, _, _, _, _, rfl, by rw [hrd1, hst, if_pos hb6], (e4.trans (e5.trans e7)) ip _ h2, e35.trans e7, (e4.trans (e5.trans e7)) d _ h4⟩
    · obtain ⟨it, y9, y10, y11, y12, y13, y14, rfl, h1, h2, e3, h4⟩ := h
      refine s_retU (eu_tup (ea_cons (ev_var rfl) (ea_cons (ev_var rfl) ea_nil)) (by show 2 ≤ 100000; decide)) fun p H7 np e8 hp => q _ H7 (e1.trans (e3.trans e8)) ⟨p, po, .ref ip, rfl, hp, e8 po _ (e3 po _ ho), ?_⟩
      rw [hir, ← L0]
      rw [List.length_map] at h1
      rw [h1]
      exact ⟨ip, rfl, e8 ip _ h2⟩
end
end AW
end
section
set_option maxRecDepth 100000
set_option maxHeartbeats 4000000
namespace AW
open PySem PySem.Spec PyProof.Rows L2 Evl AH AP AZ AM
section
variable {P : Program} {w : World} {K : PySem.W.Frag} {mg : Str → Option Value} {base : Heap} {k : Nat}
theorem sc51 : FnScope ["width", "part", "count", "words", "places", "order", "items", "place"] ["width", "part", "count", "words", "places"] (defScope (tp 51)) := ⟨rfl, rfl, rfl, by decide +kernel, rfl, by decide +kernel, by decide +kernel⟩
def sp51 : Sp := fun vs H Q _ => ∃ (n : Nat) (a b d : Addr) (pt ws tg : List Int) (c : Nat), vs = [.int (n : Int), .ref a, .int (c : Int), .ref b, .ref d] ∧ n ≤ 64 ∧ H a = some (.lst (pt.map V.int)) ∧ H b = some (.lst (ws.map V.int)) ∧ H d = some (.lst (tg.map V.int)) ∧ pt.length ≤ 64 ∧ pt.Nodup ∧ (∀ z ∈ pt, z.natAbs < 2 ^ 64) ∧ ws.length = pt.length ∧ tg.length ≤ 64 ∧ (∀ z ∈ tg, z.natAbs < 2 ^ 64) ∧
  ∀ v H', Ex H H' → IsOL (led n pt c ws tg) v H' → Q v H'
theorem ok51 (T : TopT K mg) (C_items_read : Cal P w K mg base k "items_read" ["width", "places", "count", "words"] [] sp49) (C_value_at : Cal P w K mg base k "value_at" ["order", "items", "place"] [] sp50) (C_power_of_two : Cal P w K mg base k "power_of_two" ["many"] [] sp12) : Cal P w K mg base (k + 1) "words_led_to" ["width", "part", "count", "words", "places"] [] sp51 := by
  refine mkc (n := 51) T 34 34 sc51 (fun vs H Q E h => ?_) (fun _ _ _ _ _ _ us hl => match us, hl with | [_, _, _, _, _], _ => rfl) fun f cdv A outer s H E hr => ⟨_, (pss_cons (ps_asg (pcall C_items_read hr (pa_cons (pv 0) (pa_cons (pv 1) (pa_cons (pv 2) (pa_cons (pv 3) pa_nil))))) (pg_tup rfl (pgs_cons (pg_name (i := 5) sc51.nd rfl (Or.inr rfl)) (pgs_cons (pg_name (i := 6) sc51.nd rfl (Or.inr rfl)) pgs_nil)))) (pss_cons (ps_if (pt_cmpR op_isN (pv 6) pe_non (nomark _)) (pss_one (ps_ret pe_non)) pss_nil) (pss_one (ps_ret (pe_lc (own := [("place", 7)]) (g := gName 7) (tt := tYes) rfl sc51.nd (pi_list (pv 4)) (blkOk_by (own := [("place", 7)]) (N := ["width", "part", "count", "words", "places", "order", "items", "place"]) (sc := defScope (tp 51)) (by decide +kernel)) (fun _ _ _ _ _ => (pg_name (i := 7) sc51.nd rfl (Or.inl rfl))) (fun _ _ _ _ _ => pts_nil) (fun _ _ _ _ _ => (pe_op op_mod (pcall C_value_at hr (pa_cons (pv 5) (pa_cons (pv 6) (pa_cons (pv 7) pa_nil)))) (pcall C_power_of_two hr (pa_cons (pv 0) pa_nil))))))))), fun vs Q h => ?_⟩
  · obtain ⟨n, a, b, d, pt, ws, tg, c, rfl, _⟩ := h
    rfl
  · obtain ⟨n, a, b, d, pt, ws, tg, c, rfl, hn, ha, hb, hd, hz, hnd, hab, hl, hz2, hab2, q⟩ := h
    refine q_unp2 (R := fun x y H' => IsIL (row pt).1 x H' ∧ IsOL (iread n pt c ws) y H') ((evp_callA (R := IsRead (row pt).1 (iread n pt c ws)) (ea_cons (ev_var rfl) (ea_cons (ev_var rfl) (ea_cons (ev_var rfl) (ea_cons (ev_var rfl) ea_nil)))) fun H1 e1 Q q E => ⟨n, a, b, pt, ws, c, rfl, hn, e1 a _ ha, e1 b _ hb, hz, hnd, hab, hl, q⟩).imp fun v H1 _ r => ?_) fun x y H1 e1 r => ?_
    · obtain ⟨t, p, u, rfl, h1, h2, h3⟩ := r
      exact ⟨t, _, _, rfl, h1, ⟨p, rfl, h2⟩, h3⟩
    obtain ⟨⟨po, rfl, ho⟩, hi⟩ := r
    obtain ⟨S0, S1, S2⟩ := row_spec pt
    have L0 := S0.length_eq
    unfold led at q
    cases hir : iread n pt c ws with
    | none =>
      rw [hir] at hi q
      obtain rfl : y = .non := hi
      exact q_when (b := true) (et_test (ev_op (ev_var rfl) ev_c (rv_val fun H1 e Q q => ⟨rfl, q⟩))) (fun _ H2 e2 => s_ret ev_c fun H3 e3 => q _ H3 (e1.trans (e2.trans e3)) rfl) (fun c => nomatch c)
    | some it =>
      rw [hir] at hi q
      obtain ⟨ip, rfl, hi⟩ := hi
      obtain ⟨b1, b2⟩ := rd_bound hn hir
      refine q_when (b := false) (et_test (ev_op (ev_var rfl) ev_c (rv_val fun H1 e Q q => ⟨rfl, q⟩))) (fun c => nomatch c) (fun _ H2 e2 => ?_)
      have e12 := e1.trans e2
      refine s_retL (el_lcI (fun _ => true) (fun x => .int (valAt (row pt).1 it x % 2 ^ n)) (ev_var rfl) (sq_of (e12 d _ hd)) (by omega) (fun _ => rfl) (fun _ _ _ _ => et_yes) (fun z H3 e3 hzz _ => ?_)) fun p H3 np e3 hp => ?_
      · exact ev_op (ev_call (ea_cons (ev_var rfl) (ea_cons (ev_var rfl) (ea_cons (ev_var rfl) ea_nil))) fun H4 e4 Q q E => ⟨po, ip, _, it, z, rfl, e4 po _ (e3 po _ (e2 po _ ho)), e4 ip _ (e3 ip _ (e2 ip _ hi)), by omega, by omega, hab2 z hzz, fun y hy => hab y (S0.mem_iff.mp hy), b2, q⟩)
          (ev_call (ea_cons (ev_var rfl) ea_nil) fun H4 e4 Q q E => ⟨n, rfl, by omega, q⟩) (rv_I (Int.pow_pos (by decide)))
      · refine q _ H3 (e12.trans e3) ⟨p, rfl, ?_⟩
        rw [hp, List.filter_eq_self.mpr (fun _ _ => rfl), List.map_map]
        rfl
/-! ### the parts tried -/
theorem rgc_all : ∀ n : Nat, n < 9 → ∀ j : Nat, j < 9 → 1 ≤ j → j ≤ n → Builtin.Range.small 0 ((n : Int) - (j : Int) + 1) (j : Int) = true ∧ Builtin.Range.rangeSize 0 ((n : Int) - (j : Int) + 1) (j : Int) = (((n - j) / j + 1 : Nat) : Int) := by decide +kernel
section
variable {σ : L2.St} {H : Hp} {ta tb : TE}
theorem el_listRg {a b : Int} (ha : Ev ta σ H (.int a)) (hb : Ev tb σ H (.int b)) (ok : RgOk a b) : EvL (tLstRg (tRg2 ta tb)) σ H (rgV a b) := fun H1 e Q q =>
  ha H1 e _ fun H2 e2 => hb H2 (e.trans e2) _ fun H3 e3 => ⟨a, b, rfl, rfl, ok, fun p np => q p _ (fresh_back (e2.trans e3) np) ((e2.trans e3).trans (Ex.new np)) upd_same⟩
theorem el_listT {a : Addr} {xs : List V} (h : Ev ta σ H (.ref a)) (ha : H a = some (.tup xs)) : EvL (tCB (rListS K) (tCons ta tNil)) σ H xs := fun H1 e Q q =>
  h H1 e _ fun H2 e2 => ⟨a, xs, rfl, .inr (st_of ((e.trans e2) a _ ha)), fun p np => q p _ (fresh_back e2 np) (e2.trans (Ex.new np)) upd_same⟩
end
def natL (k : List Nat) : List Int := k.map fun (i : Nat) => (i : Int)
theorem sc60 : FnScope ["width", "places", "count", "most", "many", "items", "at", "kept"] ["width", "places", "count", "most"] (defScope (tp 60)) := ⟨rfl, rfl, rfl, by decide +kernel, rfl, by decide +kernel, by decide +kernel⟩
def sp60 : Sp := fun vs H Q _ => ∃ (n : Nat) (a : Addr) (ps : List Int) (c m : Nat), vs = [.int (n : Int), .ref a, .int (c : Int), .int (m : Int)] ∧ H a = some (.lst (ps.map V.int)) ∧ Plc n ps ∧ 1 ≤ kc n (row ps).2 c ∧ m ≤ ps.length ∧
  ∀ v H', Ex H H' → IsLL ((parts ps (kc n (row ps).2 c) m).map natL) v H' → Q v H'
theorem ok60 (T : TopT K mg) (C_are_neighbours : Cal P w K mg base k "are_neighbours" ["places"] [] sp58) (C_items_counted_at : Cal P w K mg base k "items_counted_at" ["width", "places", "count"] [] sp52) : Cal P w K mg base (k + 1) "parts_tried" ["width", "places", "count", "most"] [] sp60 := by
  refine mkc (n := 60) T 41 41 sc60 (fun vs H Q E h => ?_) (fun _ _ _ _ _ _ us hl => match us, hl with | [_, _, _, _], _ => rfl) fun f cdv A outer s H E hr => ⟨_, (pss_cons (ps_set (i := 4) sc60.nd rfl (Or.inl rfl) (pe_callB call_len_seq (by rfl) T.f_len (by decide +kernel) (pa_cons (pv 1) pa_nil))) (pss_cons (ps_if (pt_val (pcall C_are_neighbours hr (pa_cons (pv 1) pa_nil))) (pss_cons (ps_set (i := 5) sc60.nd rfl (Or.inr rfl) (pcall C_items_counted_at hr (pa_cons (pv 0) (pa_cons (pv 1) (pa_cons (pv 2) pa_nil))))) (pss_one (ps_ret (pe_lc (own := [("at", 6)]) (g := gName 6) (tt := tYes) rfl sc60.nd (pi_range3 (by rfl) T.f_range (pa_cons pe_int (pa_cons (pe_op op_add (pe_op op_sub (pv 4) (pv 5)) pe_int) (pa_cons (pv 5) pa_nil)))) (blkOk_by (own := [("at", 6)]) (N := ["width", "places", "count", "most", "many", "items", "at", "kept"]) (sc := defScope (tp 60)) (by decide +kernel)) (fun _ _ _ _ _ => (pg_name (i := 6) sc60.nd rfl (Or.inl rfl))) (fun _ _ _ _ _ => pts_nil) (fun _ _ _ _ _ => (pe_listRg rfl (by rfl) T.f_list (prg_2 (by rfl) T.f_range (pv 6) (pe_op op_add (pv 6) (pv 5))))))))) pss_nil) (pss_one (ps_ret (pe_lc (own := [("kept", 7)]) (g := gName 7) (tt := tYes) rfl sc60.nd (AC.pi_comb rfl (by rfl) T.comb (pa_cons (pe_callTy AC.cr_range1 (by rfl) T.f_range (by decide +kernel) (pa_cons (pv 4) pa_nil)) (pa_cons (pe_callTy call_int1 (by rfl) T.f_int (by decide +kernel) (pa_cons (pe_op op_sub (pv 4) (pv 3)) pa_nil)) pa_nil))) (blkOk_by (own := [("kept", 7)]) (N := ["width", "places", "count", "most", "many", "items", "at", "kept"]) (sc := defScope (tp 60)) (by decide +kernel)) (fun _ _ _ _ _ => (pg_name (i := 7) sc60.nd rfl (Or.inl rfl))) (fun _ _ _ _ _ => pts_nil) (fun _ _ _ _ _ => (pe_callTy (call_listK (K := K) rfl) (by rfl) T.f_list (by decide +kernel) (pa_cons (pv 7) pa_nil)))))))), fun vs Q h => ?_⟩
  · obtain ⟨n, a, ps, c, m, rfl, _⟩ := h
    rfl
  · obtain ⟨n, a, ps, c, m, rfl, ha, p, hK1, hm, q⟩ := h
    have pl := p.len
    have pp := List.length_pos_iff.mpr p.ne
    have hjl : kc n (row ps).2 c ≤ ps.length := by
      have := kc_le n (row ps).2 c
      rw [(row_spec ps).2.1] at this
      exact this
    generalize hK : kc n (row ps).2 c = j at q hjl hK1
    refine q_asg (v := .int (ps.length : Int)) (ev_lenI (ev_var rfl) (sq_of ha)) fun H1 e1 => ?_
    unfold parts at q
    refine q_when (b := neigh ps) (et_B (ev_call (ea_cons (ev_var rfl) ea_nil) fun H2 e2 Q q E => ⟨a, ps, rfl, e2 a _ (e1 a _ ha), p.ne, q⟩)) (fun hb H2 e2 => ?_) (fun hb H2 e2 => ?_)
    · rw [if_pos hb] at q
      have e12 := e1.trans e2
      refine q_asg (v := .int (j : Int)) (ev_call (ea_cons (ev_var rfl) (ea_cons (ev_var rfl) (ea_cons (ev_var rfl) ea_nil))) fun H3 e3 Q q E => ⟨n, a, ps, c, rfl, e3 a _ (e12 a _ ha), by omega, p.nd, by rw [hK]; exact q⟩) fun H3 e3 => ?_
      have hlb : ((blocks ps.length j).map natL).length = (ps.length - j) / j + 1 := by unfold blocks; simp
      have hdiv : (ps.length - j) / j ≤ ps.length := Nat.le_trans (Nat.div_le_self _ _) (by omega)
      refine s_retP (evp_lcN (J := fun _ => Itc 0 (j : Int) ((ps.length - j) / j + 1)) ((blocks ps.length j).map natL) (fun H4 e4 R r => ?_) (by omega) (fun H4 H5 e4 e5 => by show _ ≤ _; omega) (fun H4 H5 i e4 e5 hi => by show i < _; omega) (fun H4 H5 i x H6 e4 e5 hi y => ?_)) fun v H4 e4 r => q v H4 (e12.trans (e3.trans e4)) r
      · refine (ea_cons ev_c (ea_cons (ev_op (ev_op (ev_var rfl) (ev_var rfl) rv_I0) ev_c rv_I0) (ea_cons (ev_var rfl) ea_nil))) H4 e4 _ fun H5 e5 => ⟨0, _, (j : Int), (ps.length - j) / j + 1, rfl, ?_, r H5 e5⟩
        have := rgc_all ps.length (by omega) j (by omega) hK1 hjl
        exact ⟨by omega, by omega, this.1, this.2⟩
      · obtain ⟨rfl, rfl⟩ := y
        have hi' : i < (ps.length - j) / j + 1 := by omega
        refine ⟨Ex.refl _, rfl, ?_⟩
        have hij : i * j ≤ ps.length := Nat.le_trans (Nat.mul_le_mul_right j (by omega : i ≤ (ps.length - j) / j)) (Nat.le_trans (Nat.div_mul_le_self _ _) (by omega))
        have hx : (0 : Int) + (i : Int) * (j : Int) = ((i * j : Nat) : Int) := by rw [Int.natCast_mul]; omega
        refine el_is (el_listRg (a := (0 : Int) + (i : Int) * (j : Int)) (b := (0 : Int) + (i : Int) * (j : Int) + (j : Int)) (ev_var rfl) (ev_op (ev_var rfl) (ev_var rfl) rv_I0) (RgOk.of_le (by rw [hx]; omega) (by rw [hx]; omega) (by rw [hx]; omega) (by rw [hx]; omega))) ?_
        unfold rgV
        rw [show ((0 : Int) + (i : Int) * (j : Int) + (j : Int) - (0 + (i : Int) * (j : Int))).toNat = j by omega]
        rw [List.getD_eq_getElem?_getD, List.getElem?_map]
        unfold blocks
        rw [List.getElem?_map, List.getElem?_range hi']
        show _ = (natL ((List.range j).map fun t => i * j + t)).map V.int
        unfold natL
        rw [List.map_map, List.map_map]
        apply List.map_congr_left
        intro t _
        show V.int ((0 : Int) + (i : Int) * (j : Int) + (t : Int)) = V.int ((i * j + t : Nat) : Int)
        rw [hx]
        rfl
    · rw [if_neg (by rw [hb]; decide)] at q
      have e12 := e1.trans e2
      have C := AC.ch_of (n := ps.length) (k := ps.length - m) (by omega) (by omega)
      have hcl : (combs ps.length (ps.length - m)).length ≤ 200 := by
        have : ∀ f n c, (combF f n c).length ≤ f + 1 := by
          intro f
          induction f with
          | zero => intro n c; exact Nat.le_refl _
          | succ f ih =>
            intro n c
            unfold combF
            cases nxt n c with
            | none => simp
            | some d =>
              have := ih n d
              simp
              omega
        have := this 100 ps.length (List.range (ps.length - m))
        unfold combs
        omega
      refine s_retP (evp_lcN (J := fun _ => AC.ItC (combs ps.length (ps.length - m))) ((combs ps.length (ps.length - m)).map natL) (fun H4 e4 R r => ?_) (by simp; omega) (fun H4 H5 e4 e5 => by show _ = _; simp) (fun H4 H5 i e4 e5 hi => by show i < _; simpa using hi) (fun H4 H5 i x H6 e4 e5 hi y => ?_)) fun v H4 e4 r => q v H4 (e12.trans e4) r
      · refine (eap_cons (R := fun v H' => ∃ p : Addr, v = .ref p ∧ H' p = some (.rng 0 (ps.length : Int))) (RA := fun vs H' => ∃ p : Addr, vs = [.ref p, .int ((ps.length - m : Nat) : Int)] ∧ H' p = some (.rng 0 (ps.length : Int))) (fun H5 e5 Q q => (ea_cons (ev_var rfl) ea_nil) H5 e5 _ fun H6 e6 => ⟨(ps.length : Int), rfl, fun p np => q _ _ (e6.trans (Ex.new np)) ⟨p, rfl, upd_same⟩⟩)
          fun u1 H5 e5 r1 => EvA.p (ea_cons (x := .int ((ps.length - m : Nat) : Int)) (ev_cb (ea_cons (ev_op (ev_var rfl) (ev_var rfl) rv_I0) ea_nil) fun H6 e6 Q q => .inl ⟨_, rfl, by rw [show (ps.length : Int) - (m : Int) = ((ps.length - m : Nat) : Int) by omega]; exact q H6 (Ex.refl _)⟩) ea_nil) fun H6 e6 => ?_) H4 e4 _ fun vs H5 e5 ⟨p, e6, hp⟩ => ⟨p, ps.length, ps.length - m, _, e6, hp, by omega, by omega, C, r H5 e5⟩
        obtain ⟨p, rfl, hp⟩ := r1
        exact ⟨p, rfl, e6 p _ hp⟩
      · obtain ⟨T, cc, hL, rfl, hT, rfl⟩ := y
        refine ⟨Ex.new hT, rfl, el_is (el_listT (ev_var rfl) upd_same) ?_⟩
        rw [List.getD_eq_getElem?_getD, List.getElem?_map, hL]
        show _ = (natL cc).map V.int
        unfold natL
        rw [List.map_map]
        rfl
end
end AW
end
section
set_option maxRecDepth 100000
set_option maxHeartbeats 4000000
namespace AW
open PySem PySem.Spec PyProof.Rows L2 Evl AH AP AZ AM
section
variable {P : Program} {w : World} {K : PySem.W.Frag} {mg : Str → Option Value} {base : Heap} {k : Nat}
section
variable {σ : L2.St} {H : Hp} {tl : TE} {ta : TA} {tu tz : TS} {D : Ends}
theorem q_forP {j : Nat} {ls : List (List Int)} (h : EvP tl σ H (IsLL ls)) (Pv : Hp → Nat → L2.St → Hp → Prop) (h0 : ∀ H1, Ex H H1 → Pv H1 0 σ H1) (hE : ∀ H1 i σ' H', Pv H1 i σ' H' → Ex H1 H')
    (hs : ∀ H1 i p l σ' H', Ex H H1 → ls[i]? = some l → H' p = some (.lst (l.map V.int)) → Pv H1 i σ' H' → tu { D with nx := Pv H1 (i + 1), ct := Pv H1 (i + 1), bk := tz D } (σ'.set j (some (.ref p))) H') (hd : ∀ H1 σ' H', Ex H H1 → Pv H1 ls.length σ' H' → tz D σ' H') :
    tSeq (tFor (iList K tl) (gName j) tu) tz D σ H := h H (Ex.refl H) _ fun v H1 e r => by
  obtain ⟨Dl, ys, rfl, hD, hl⟩ := r
  refine ⟨Dl, rfl, ⟨ys, sq_of hD⟩, for_list (D := { D with nx := tz D }) (Pv H1) (h0 H1 e) (fun i σ' H' hi p => sq_of (hE _ _ _ _ p Dl _ hD)) (fun i x σ' H' hx p => ?_) (fun σ' H' p => hd H1 σ' H' e (by rw [← hl.1]; exact p))⟩
  have hi : i < ls.length := by rw [← hl.1]; exact (List.getElem?_eq_some_iff.mp hx).1
  obtain ⟨q, rfl, hq⟩ := hl.2 i x ls[i] hx (List.getElem?_eq_getElem hi)
  exact hs H1 i q _ σ' H' e (List.getElem?_eq_getElem hi) (hE _ _ _ _ p q _ hq) p
theorem ev_callP {sp : Sp} {dvs : List V} {E : XK} {RA : List V → Hp → Prop} {z : V} (h : EvAP ta σ H RA) (hs : ∀ vs H1, Ex H H1 → RA vs H1 → SpV sp (vs ++ dvs) H1 z) : Ev (tCall sp dvs E ta) σ H z := fun H1 e Q q =>
  h H1 e _ fun vs H2 e2 ra => hs vs H2 (e.trans e2) ra H2 (Ex.refl _) Q (fun H3 e3 => q H3 (e2.trans e3)) E
end
theorem natL_mem {k : List Nat} {z : Int} (h : z ∈ natL k) : ∃ i ∈ k, z = (i : Int) := by
  obtain ⟨i, hi, e⟩ := List.mem_map.mp h
  exact ⟨i, hi, e.symm⟩
/-- [xs[at] for at in kept] -/
theorem el_at {σ : L2.St} {H : Hp} {tl tx : TE} {j : Nat} {vs : List Nat} {p a : Addr} {kp : List Nat} {xs : List Int} (h : Ev tl σ H (.ref p)) (hp : H p = some (.lst ((natL kp).map V.int))) (ha : H a = some (.lst (xs.map V.int))) (hlt : ∀ i ∈ kp, i < xs.length) (hz : kp.length ≤ 1000)
    (hw : ∀ x, wipe ((wipe σ vs).set j (some x)) vs = wipe σ vs) (hx : ∀ z H1, Ev tx ((wipe σ vs).set j (some z)) H1 (.ref a)) (hj : ∀ z, ((wipe σ vs).set j (some z))[j]? = some (some z)) :
    EvL (tLc (iList K tl) (gName j) tYes (tOp (rIxL K) tx (tVar j)) vs) σ H ((at_ xs kp).map V.int) := by
  refine el_is (el_lcI (fun _ => true) (fun z => .int (xs.getD z.toNat 0)) h (sq_of hp) (by unfold natL; simp; omega) hw (fun _ _ _ _ => et_yes) (fun z H1 e1 hz _ => ?_)) ?_
  · obtain ⟨i, hi, rfl⟩ := natL_mem hz
    exact ev_op (hx _ H1) (ev_var (hj _)) (rv_ixL (sq_of (e1 a _ ha)) (by rw [Int.toNat_natCast]; exact at_ints (hlt i hi)))
  · rw [List.filter_eq_self.mpr (fun _ _ => rfl)]
    unfold natL at_
    rw [List.map_map, List.map_map]
    apply List.map_congr_left
    intro i _
    show V.int (xs.getD ((i : Int)).toNat 0) = V.int (xs.getD i 0)
    rw [Int.toNat_natCast]
theorem led_len {n c : Nat} {pt ws tg us : List Int} (h : led n pt c ws tg = some us) : us.length = tg.length := by
  unfold led at h
  cases e : iread n pt c ws with
  | none => rw [e] at h; cases h
  | some it => rw [e] at h; cases h; simp
theorem sc61 : FnScope ["width", "places", "count", "words", "wanted", "most", "kept", "part", "there", "found", "at"] ["width", "places", "count", "words", "wanted", "most"] (defScope (tp 61)) := ⟨rfl, rfl, rfl, by decide +kernel, rfl, by decide +kernel, by decide +kernel⟩
def sp61 : Sp := fun vs H Q _ => ∃ (n : Nat) (a b d : Addr) (ps ws tg : List Int) (c m : Nat), vs = [.int (n : Int), .ref a, .int (c : Int), .ref b, .ref d, .int (m : Int)] ∧ H a = some (.lst (ps.map V.int)) ∧ H b = some (.lst (ws.map V.int)) ∧ H d = some (.lst (tg.map V.int)) ∧ Plc n ps ∧ ws.length = ps.length ∧ tg.length ≤ 8 ∧ (∀ z ∈ tg, z.natAbs < 2 ^ 64) ∧ 1 ≤ kc n (row ps).2 c ∧ m ≤ ps.length ∧
  ∀ v H', Ex H H' → IsOL (near n ps c ws tg m) v H' → Q v H'
theorem ok61 (T : TopT K mg) (C_items_counted_at : Cal P w K mg base k "items_counted_at" ["width", "places", "count"] [] sp52) (C_parts_tried : Cal P w K mg base k "parts_tried" ["width", "places", "count", "most"] [] sp60) (C_words_led_to : Cal P w K mg base k "words_led_to" ["width", "part", "count", "words", "places"] [] sp51) (C_unlike_count : Cal P w K mg base k "unlike_count" ["words", "others"] [] sp59) : Cal P w K mg base (k + 1) "near_word" ["width", "places", "count", "words", "wanted", "most"] [] sp61 := by
  refine mkc (n := 61) T 42 42 sc61 (fun vs H Q E h => ?_) (fun _ _ _ _ _ _ us hl => match us, hl with | [_, _, _, _, _, _], _ => rfl) fun f cdv A outer s H E hr => ⟨_, (pss_cons (ps_if (pt_cmpR op_eq (pcall C_items_counted_at hr (pa_cons (pv 0) (pa_cons (pv 1) (pa_cons (pv 2) pa_nil)))) pe_int (nomark _)) (pss_one (ps_ret (pe_op op_rep (pe_lst (pa_cons pe_int pa_nil)) (pe_callB call_len_seq (by rfl) T.f_len (by decide +kernel) (pa_cons (pv 4) pa_nil))))) pss_nil) (pss_cons (ps_for PassesOwn.never rfl (pi_list (pcall C_parts_tried hr (pa_cons (pv 0) (pa_cons (pv 1) (pa_cons (pv 2) (pa_cons (pv 5) pa_nil)))))) (pg_name (i := 6) sc61.nd rfl (Or.inl rfl)) (pss_cons (ps_par (i := 7) (j := 8) rfl sc61.nd rfl rfl (by decide) rfl rfl (pa_cons (pe_lc (own := [("at", 10)]) (g := gName 10) (tt := tYes) rfl sc61.nd (pi_list (pv 6)) (blkOk_by (own := [("at", 10)]) (N := ["width", "places", "count", "words", "wanted", "most", "kept", "part", "there", "found", "at"]) (sc := defScope (tp 61)) (by decide +kernel)) (fun _ _ _ _ _ => (pg_name (i := 10) sc61.nd rfl (Or.inl rfl))) (fun _ _ _ _ _ => pts_nil) (fun _ _ _ _ _ => (pe_ix (ix_listK (K := K) rfl) (pv 1) (pv 10) (fun _ _ => rfl)))) (pa_cons (pe_lc (own := [("at", 10)]) (g := gName 10) (tt := tYes) rfl sc61.nd (pi_list (pv 6)) (blkOk_by (own := [("at", 10)]) (N := ["width", "places", "count", "words", "wanted", "most", "kept", "part", "there", "found", "at"]) (sc := defScope (tp 61)) (by decide +kernel)) (fun _ _ _ _ _ => (pg_name (i := 10) sc61.nd rfl (Or.inl rfl))) (fun _ _ _ _ _ => pts_nil) (fun _ _ _ _ _ => (pe_ix (ix_listK (K := K) rfl) (pv 3) (pv 10) (fun _ _ => rfl)))) pa_nil)) (by rfl)) (pss_cons (ps_set (i := 9) sc61.nd rfl (Or.inl rfl) (pcall C_words_led_to hr (pa_cons (pv 0) (pa_cons (pv 7) (pa_cons (pv 2) (pa_cons (pv 8) (pa_cons (pe_op op_cat (pv 1) (pv 4)) pa_nil))))))) (pss_one (ps_if (PW.pt (pw_and (pt_cmpR op_notN (pv 9) pe_non (nomark _)) (pw_and1 (pt_cmpR op_le (pcall C_unlike_count hr (pa_cons (pe_slice sl_list (pv 9) po_none (po_some (pe_callB call_len_seq (by rfl) T.f_len (by decide +kernel) (pa_cons (pv 1) pa_nil)))) (pa_cons (pv 3) pa_nil))) (pv 5) (nomark _))))) (pss_one (ps_ret (pe_slice sl_list (pv 9) (po_some (pe_callB call_len_seq (by rfl) T.f_len (by decide +kernel) (pa_cons (pv 1) pa_nil))) po_none))) pss_nil))))) (pss_one (ps_ret pe_non)))), fun vs Q h => ?_⟩
  · obtain ⟨n, a, b, d, ps, ws, tg, c, m, rfl, _⟩ := h
    rfl
  · obtain ⟨n, a, b, d, ps, ws, tg, c, m, rfl, ha, hb, hd, p, hl, hz, hab, hK1, hm, q⟩ := h
    have pl := p.len
    have hjl : kc n (row ps).2 c ≤ ps.length := by
      have := kc_le n (row ps).2 c
      rw [(row_spec ps).2.1] at this
      exact this
    unfold near at q
    generalize hK : kc n (row ps).2 c = j at q hjl hK1
    refine q_when (b := false) (et_is (et_test (ev_op (ev_call (z := .int (j : Int)) (ea_cons (ev_var rfl) (ea_cons (ev_var rfl) (ea_cons (ev_var rfl) ea_nil))) fun H3 e3 Q q E => ⟨n, a, ps, c, rfl, e3 a _ ha, by omega, p.nd, by rw [hK]; exact q⟩) ev_c (rv_eq rfl))) (by simp; omega)) (fun c => nomatch c) (fun _ H1 e1 => ?_)
    refine q_forP (ls := (parts ps j m).map natL) (evp_callA (ea_cons (ev_var rfl) (ea_cons (ev_var rfl) (ea_cons (ev_var rfl) (ea_cons (ev_var rfl) ea_nil)))) fun H2 e2 Q q E => ⟨n, a, ps, c, m, rfl, e2 a _ (e1 a _ ha), p, by omega, hm, fun v H3 e3 r => q v H3 e3 (by rw [hK] at r; exact r)⟩)
      (fun H2 i σ' H' => ∃ y6 y7 y8 y9 y10 : Option V, σ' = [some (.int (n : Int)), some (.ref a), some (.int (c : Int)), some (.ref b), some (.ref d), some (.int (m : Int)), y6, y7, y8, y9, y10] ∧ ((parts ps j m).take i).findSome? (try1 n ps c ws tg m) = none ∧ Ex H2 H')
      (fun H2 e2 => ⟨none, none, none, none, none, rfl, rfl, Ex.refl _⟩) (fun H2 i σ' H' h => by obtain ⟨_, _, _, _, _, _, _, e⟩ := h; exact e) (fun H2 i kp l σ' H' e2 hli hkp h => ?_) (fun H2 σ' H' e2 h => ?_)
    · obtain ⟨y6, y7, y8, y9, y10, rfl, hnone, e3⟩ := h
      rw [List.getElem?_map] at hli
      cases hpi : (parts ps j m)[i]? with
      | none => rw [hpi] at hli; cases hli
      | some kk =>
        rw [hpi] at hli
        obtain rfl : natL kk = l := by simpa using hli
        obtain ⟨o1, o2⟩ := parts_ok pl (by omega) hjl (List.mem_of_getElem? hpi)
        have e13 := e1.trans (e2.trans e3)
        have hkl : kk.length ≤ 8 := by
          have : kk.length ≤ ps.length := by
            have := List.Nodup.length_le_of_subset o2 (l₂ := List.range ps.length) fun x hx => List.mem_range.mpr (o1 x hx)
            simpa using this
          omega
        refine q_par (R := fun x y H4 => IsIL (at_ ps kk) x H4 ∧ IsIL (at_ ws kk) y H4) (eap_cons (R := IsIL (at_ ps kk)) (EvL.p (el_at (ev_var rfl) hkp (e13 a _ ha) o1 (by omega) (fun _ => rfl) (fun _ _ => ev_var rfl) (fun _ => rfl)) fun p H4 _ hp _ => ⟨p, rfl, hp⟩) fun u1 H4 e4 r1 =>
          eap_cons (R := IsIL (at_ ws kk)) (EvL.p (el_at (ev_var rfl) (e4 kp _ hkp) (e4 b _ (e13 b _ hb)) (by rw [hl]; exact o1) (by omega) (fun _ => rfl) (fun _ _ => ev_var rfl) (fun _ => rfl)) fun p H5 _ hp _ => ⟨p, rfl, hp⟩) fun u2 H5 e5 r2 => eap_nil fun H6 e6 => ⟨u1, u2, rfl, (r1.mono e5).mono e6, r2.mono e6⟩) fun x y H4 e4 r => ?_
        obtain ⟨⟨pp, rfl, hpp⟩, ⟨pq, rfl, hpq⟩⟩ := r
        have e14 := e13.trans e4
        have at1 : (at_ ps kk).length = kk.length := by unfold at_; simp
        have at2 : (at_ ws kk).length = kk.length := by unfold at_; simp
        have htry : try1 n ps c ws tg m kk = (led n (at_ ps kk) c (at_ ws kk) (ps ++ tg)).bind fun us => if (dif (us.take ps.length) ws : Int) ≤ (m : Int) then some (us.drop ps.length) else none := rfl
        refine q_asgP (R := IsOL (led n (at_ ps kk) c (at_ ws kk) (ps ++ tg))) (evp_call (RA := fun vs H6 => ∃ g : Addr, vs = [.int (n : Int), .ref pp, .int (c : Int), .ref pq, .ref g] ∧ H6 g = some (.lst ((ps ++ tg).map V.int)))
          (eap_cons (R := fun u _ => u = .int (n : Int)) (Ev.p (ev_var rfl) fun _ _ => rfl) fun u1 H5 e5 r1 => eap_cons (R := fun u _ => u = .ref pp) (Ev.p (ev_var rfl) fun _ _ => rfl) fun u2 H6 e6 r2 => eap_cons (R := fun u _ => u = .int (c : Int)) (Ev.p (ev_var rfl) fun _ _ => rfl) fun u3 H7 e7 r3 => eap_cons (R := fun u _ => u = .ref pq) (Ev.p (ev_var rfl) fun _ _ => rfl) fun u4 H8 e8 r4 =>
            eap_cons (R := IsIL (ps ++ tg)) (EvL.p (el_cat (Ev.p (ev_var rfl) fun H9 e9 => ⟨a, rfl, e9 a _ ((e5.trans (e6.trans (e7.trans e8))) a _ (e14 a _ ha))⟩) (fun H9 e9 => Ev.p (ev_var rfl) fun H10 e10 => ⟨d, rfl, e10 d _ (e9 d _ ((e5.trans (e6.trans (e7.trans e8))) d _ (e14 d _ hd)))⟩) (by omega)) fun g H9 _ hg _ => ⟨g, rfl, hg⟩) fun u5 H9 e9 r5 => eap_nil fun H10 e10 => ?_) fun vs H5 e5 r H6 e6 Q q E => ?_) fun v H5 e5 r => ?_
        · obtain ⟨g, rfl, hg⟩ := r5
          exact ⟨g, by rw [r1, r2, r3, r4], e10 g _ hg⟩
        · obtain ⟨g, rfl, hg⟩ := r
          exact ⟨n, pp, pq, g, _, _, _, c, rfl, p.w64, e6 pp _ (e5 pp _ hpp), e6 pq _ (e5 pq _ hpq), e6 g _ hg, by omega, at_nodup p.nd o1 o2, fun z hzz => p.abs z (at_mem o1 hzz), by omega, by simp; omega, fun z hzz => (List.mem_append.mp hzz).elim (fun h => p.abs z h) (fun h => hab z h), fun v H7 e7 r => q v H7 e7 r⟩
        · cases hled : led n (at_ ps kk) c (at_ ws kk) (ps ++ tg) with
          | none =>
            rw [hled] at r htry
            obtain rfl : v = .non := r
            refine s_when (b := false) (et_is (et_and (a := false) (b := false) (et_test (ev_op (ev_var rfl) ev_c (rv_val fun H1 e Q q => ⟨rfl, q⟩))) (fun c => nomatch c)) rfl) (fun c => nomatch c) (fun _ H6 e6 => ?_)
            exact ⟨_, _, _, _, _, rfl, fs_step hpi hnone htry, e3.trans (e4.trans (e5.trans e6))⟩
          | some us =>
            rw [hled] at r htry
            obtain ⟨fp, rfl, hfp⟩ := r
            have hul := led_len hled
            rw [List.length_append] at hul
            have e15 := e14.trans e5
            refine s_when (b := decide ((dif (us.take ps.length) ws : Int) ≤ (m : Int))) (et_is (et_and (a := true) (b := decide ((dif (us.take ps.length) ws : Int) ≤ (m : Int))) (et_test (ev_op (ev_var rfl) ev_c (rv_val fun H1 e Q q => ⟨rfl, q⟩))) (fun _ => et_test (ev_op (x := .int (dif (us.take ps.length) ws : Int)) (ev_callP (RA := fun vs H6 => ∃ g : Addr, vs = [.ref g, .ref b] ∧ H6 g = some (.lst ((us.take ps.length).map V.int)))
              (eap_cons (R := IsIL (us.take ps.length)) (EvL.p (el_take (ev_var rfl) (ev_lenI (ev_var rfl) (sq_of (e15 a _ ha))) (sq_of hfp)) fun g H6 _ hg _ => ⟨g, rfl, hg⟩) fun u1 H6 e6 r1 => eap_cons (R := fun u _ => u = .ref b) (Ev.p (ev_var rfl) fun _ _ => rfl) fun u2 H7 e7 r2 => eap_nil fun H8 e8 => ?_) fun vs H6 e6 r H7 e7 Q q E => ?_) (ev_var rfl) rv_I0))) (Bool.true_and _)) (fun hc H6 e6 => ?_) (fun hc H6 e6 => ?_)
            · obtain ⟨g, rfl, hg⟩ := r1
              exact ⟨g, by rw [r2], e8 g _ (e7 g _ hg)⟩
            · obtain ⟨g, rfl, hg⟩ := r
              exact ⟨g, b, _, _, rfl, e7 g _ hg, e7 b _ (e6 b _ (e15 b _ hb)), by simp; omega, by simp; omega, q⟩
            · have hc := of_decide_eq_true hc
              refine s_retL (el_drop (ev_var rfl) (ev_lenI (ev_var rfl) (sq_of (e6 a _ (e15 a _ ha)))) (sq_of (e6 fp _ hfp))) fun g H7 _ e7 hg => q _ H7 (e15.trans (e6.trans e7)) ?_
              rw [fs_at hpi hnone (htry.trans (if_pos hc))]
              exact ⟨g, rfl, hg⟩
            · have hc := of_decide_eq_false hc
              exact ⟨_, _, _, _, _, rfl, fs_step hpi hnone (htry.trans (if_neg hc)), e3.trans (e4.trans (e5.trans e6))⟩
    · obtain ⟨y6, y7, y8, y9, y10, rfl, hnone, e3⟩ := h
      rw [List.length_map, List.take_length] at hnone
      exact s_ret ev_c fun H3 e4 => q _ H3 (e1.trans (e2.trans (e3.trans e4))) (by rw [hnone]; exact rfl)
end
end AW
end
section
set_option maxRecDepth 100000
set_option maxHeartbeats 4000000
namespace AW
open PySem PySem.Spec PyProof.Rows L2 Evl AH AP AZ AM
theorem mnd_le (n : Nat) (ps : List Int) (c : Nat) : mnd n ps c ≤ ps.length := by
  unfold mnd
  split
  · exact Nat.le_refl _
  · have := lostL_len ps (kc n (row ps).2 c)
    omega
theorem near_len {n c m : Nat} {ps ws tg us : List Int} (h : near n ps c ws tg m = some us) : us.length = tg.length := by
  unfold near at h
  obtain ⟨kk, _, e⟩ := List.exists_of_findSome?_eq_some h
  unfold try1 at e
  cases e2 : led n (at_ ps kk) c (at_ ws kk) (ps ++ tg) with
  | none => rw [e2] at e; cases e
  | some vs =>
    rw [e2] at e
    have hl := led_len e2
    simp only [Option.bind_some] at e
    split at e
    · cases e
      simp [hl]
    · cases e
section
variable {P : Program} {w : World} {K : PySem.W.Frag} {mg : Str → Option Value} {base : Heap} {k : Nat}
theorem sc62 : FnScope ["width", "places", "count", "words"] ["width", "places", "count", "words"] (defScope (tp 62)) := ⟨rfl, rfl, rfl, by decide +kernel, rfl, by decide +kernel, by decide +kernel⟩
def sp62 : Sp := fun vs H Q _ => ∃ (n : Nat) (a b : Addr) (ps ws : List Int) (c : Nat), vs = [.int (n : Int), .ref a, .int (c : Int), .ref b] ∧ H a = some (.lst (ps.map V.int)) ∧ H b = some (.lst (ws.map V.int)) ∧ Plc n ps ∧ Wds n ps ws ∧ 1 ≤ kc n (row ps).2 c ∧ lostL ps (kc n (row ps).2 c) ≠ [] ∧
  ∀ v H', Ex H H' → IsOL (mendd n ps c ws) v H' → Q v H'
theorem ok62 (T : TopT K mg) (C_check_code_reading : Cal P w K mg base k "check_code_reading" ["width", "places", "count"] [] sp33) (C_check_words : Cal P w K mg base k "check_words" ["width", "places", "words"] [] sp25) (C_near_word : Cal P w K mg base k "near_word" ["width", "places", "count", "words", "wanted", "most"] [] sp61) (C_mendable_of : Cal P w K mg base k "mendable_of" ["width", "places", "count"] [] sp56) : Cal P w K mg base (k + 1) "mended" ["width", "places", "count", "words"] [] sp62 := by
  refine mkc (n := 62) T 43 43 sc62 (fun vs H Q E h => ?_) (fun _ _ _ _ _ _ us hl => match us, hl with | [_, _, _, _], _ => rfl) fun f cdv A outer s H E hr => ⟨_, (pss_cons (ps_expr (pcall C_check_code_reading hr (pa_cons (pv 0) (pa_cons (pv 1) (pa_cons (pv 2) pa_nil))))) (pss_cons (ps_expr (pcall C_check_words hr (pa_cons (pv 0) (pa_cons (pv 1) (pa_cons (pv 3) pa_nil))))) (pss_one (ps_ret (pcall C_near_word hr (pa_cons (pv 0) (pa_cons (pv 1) (pa_cons (pv 2) (pa_cons (pv 3) (pa_cons (pv 1) (pa_cons (pcall C_mendable_of hr (pa_cons (pv 0) (pa_cons (pv 1) (pa_cons (pv 2) pa_nil)))) pa_nil))))))))))), fun vs Q h => ?_⟩
  · obtain ⟨n, a, b, ps, ws, c, rfl, _⟩ := h
    rfl
  · obtain ⟨n, a, b, ps, ws, c, rfl, ha, hb, p, pw, hK1, hne, q⟩ := h
    refine q_drop (v := .non) (ev_call (ea_cons (ev_var rfl) (ea_cons (ev_var rfl) (ea_cons (ev_var rfl) ea_nil))) fun H1 e Q q E => ⟨n, a, ps, c, rfl, e a _ ha, p, q⟩) fun H1 e1 => ?_
    refine q_drop (v := .non) (ev_call (ea_cons (ev_var rfl) (ea_cons (ev_var rfl) (ea_cons (ev_var rfl) ea_nil))) fun H2 e Q q E => ⟨n, a, b, ps, ws, rfl, e a _ (e1 a _ ha), e b _ (e1 b _ hb), p, pw, q⟩) fun H2 e2 => ?_
    have e12 := e1.trans e2
    refine s_retP (evp_callA (R := IsOL (mendd n ps c ws)) (ea_cons (ev_var rfl) (ea_cons (ev_var rfl) (ea_cons (ev_var rfl) (ea_cons (ev_var rfl) (ea_cons (ev_var rfl) (ea_cons (ev_call (ea_cons (ev_var rfl) (ea_cons (ev_var rfl) (ea_cons (ev_var rfl) ea_nil))) fun H3 e3 Q q E => ⟨n, a, ps, c, rfl, e3 a _ (e12 a _ ha), p, fun _ => hne, q⟩) ea_nil)))))) fun H3 e3 Q q E =>
      ⟨n, a, b, a, ps, ws, ps, c, mnd n ps c, rfl, e3 a _ (e12 a _ ha), e3 b _ (e12 b _ hb), e3 a _ (e12 a _ ha), p, pw.len, p.len, p.abs, hK1, mnd_le n ps c, fun v H4 e4 r => q v H4 e4 r⟩) fun v H3 e3 r => q v H3 (e12.trans e3) r
theorem sc63 : FnScope ["width", "places", "count", "words", "found", "place", "one", "other"] ["width", "places", "count", "words"] (defScope (tp 63)) := ⟨rfl, rfl, rfl, by decide +kernel, rfl, by decide +kernel, by decide +kernel⟩
def wrgO (ps ws : List Int) (o : Option (List Int)) : Option (List Int) := o.map (wrg ps ws)
def sp63 : Sp := fun vs H Q _ => ∃ (n : Nat) (a b : Addr) (ps ws : List Int) (c : Nat), vs = [.int (n : Int), .ref a, .int (c : Int), .ref b] ∧ H a = some (.lst (ps.map V.int)) ∧ H b = some (.lst (ws.map V.int)) ∧ Plc n ps ∧ Wds n ps ws ∧ 1 ≤ kc n (row ps).2 c ∧ lostL ps (kc n (row ps).2 c) ≠ [] ∧
  ∀ v H', Ex H H' → IsOL (wrgO ps ws (mendd n ps c ws)) v H' → Q v H'
theorem ok63 (T : TopT K mg) (C_mended : Cal P w K mg base k "mended" ["width", "places", "count", "words"] [] sp62) : Cal P w K mg base (k + 1) "wrong_at" ["width", "places", "count", "words"] [] sp63 := by
  refine mkc (n := 63) T 44 44 sc63 (fun vs H Q E h => ?_) (fun _ _ _ _ _ _ us hl => match us, hl with | [_, _, _, _], _ => rfl) fun f cdv A outer s H E hr => ⟨_, (pss_cons (ps_set (i := 4) sc63.nd rfl (Or.inl rfl) (pcall C_mended hr (pa_cons (pv 0) (pa_cons (pv 1) (pa_cons (pv 2) (pa_cons (pv 3) pa_nil)))))) (pss_cons (ps_if (pt_cmpR op_isN (pv 4) pe_non (nomark _)) (pss_one (ps_ret pe_non)) pss_nil) (pss_one (ps_ret (pe_lc (own := [("place", 5), ("one", 6), ("other", 7)]) rfl sc63.nd (pi_zipS3 (by rfl) T.f_zip (pa_cons (pv 1) (pa_cons (pv 3) (pa_cons (pv 4) pa_nil)))) (blkOk_by (own := [("place", 5), ("one", 6), ("other", 7)]) (N := ["width", "places", "count", "words", "found", "place", "one", "other"]) (sc := defScope (tp 63)) (by decide +kernel)) (fun _ _ _ _ _ => (pg_tupK (K := K) (n := 3) rfl rfl (pgs_cons (pg_name (i := 5) sc63.nd rfl (Or.inl rfl)) (pgs_cons (pg_name (i := 6) sc63.nd rfl (Or.inl rfl)) (pgs_cons (pg_name (i := 7) sc63.nd rfl (Or.inl rfl)) pgs_nil))))) (fun _ _ _ _ _ => pts_one (pt_cmpR op_ne (pv 6) (pv 7) (nomark _))) (fun _ _ _ _ _ => (pv 5))))))), fun vs Q h => ?_⟩
  · obtain ⟨n, a, b, ps, ws, c, rfl, _⟩ := h
    rfl
  · obtain ⟨n, a, b, ps, ws, c, rfl, ha, hb, p, pw, hK1, hne, q⟩ := h
    have pl := p.len
    refine q_asgP (R := IsOL (mendd n ps c ws)) (evp_callA (ea_cons (ev_var rfl) (ea_cons (ev_var rfl) (ea_cons (ev_var rfl) (ea_cons (ev_var rfl) ea_nil)))) fun H1 e1 Q q E => ⟨n, a, b, ps, ws, c, rfl, e1 a _ ha, e1 b _ hb, p, pw, hK1, hne, q⟩) fun v H1 e1 r => ?_
    cases hm : mendd n ps c ws with
    | none =>
      rw [hm] at r q
      obtain rfl : v = .non := r
      exact q_when (b := true) (et_test (ev_op (ev_var rfl) ev_c (rv_val fun H1 e Q q => ⟨rfl, q⟩))) (fun _ H2 e2 => s_ret ev_c fun H3 e3 => q _ H3 (e1.trans (e2.trans e3)) rfl) (fun c => nomatch c)
    | some us =>
      have hul : us.length = ps.length := near_len hm
      rw [hm] at r q
      obtain ⟨fp, rfl, hf⟩ := r
      have pwl := pw.len
      refine q_when (b := false) (et_test (ev_op (ev_var rfl) ev_c (rv_val fun H1 e Q q => ⟨rfl, q⟩))) (fun c => nomatch c) (fun _ H2 e2 => ?_)
      have e12 := e1.trans e2
      refine s_retL (el_lcZ3 (fun i => !decide (ws.getD i 0 = us.getD i 0)) (fun i => .int (ps.getD i 0)) (ea_cons (ev_var rfl) (ea_cons (ev_var rfl) (ea_cons (ev_var rfl) ea_nil))) (sq_of (e12 a _ ha)) (sq_of (e12 b _ hb)) (sq_of (e2 fp _ hf)) (by simp; omega) (by simp; omega) (by simp; omega) (fun _ _ _ => rfl) (fun i x y z H3 e3 hx hy hz => ?_) (fun i x y z H3 e3 hx hy hz _ => ?_)) fun g H3 _ e3 hg => q _ H3 (e12.trans e3) ⟨g, rfl, ?_⟩
      · obtain ⟨y, _, rfl, _, hy⟩ := ix_ints hy
        obtain ⟨z, _, rfl, _, hz⟩ := ix_ints hz
        rw [hy, hz]
        exact et_is (et_test (ev_op (ev_var rfl) (ev_var rfl) (rv_ne rfl))) (by simp)
      · obtain ⟨x, _, rfl, _, hx⟩ := ix_ints hx
        rw [hx]
        exact ev_var rfl
      · rw [hg, List.length_map]
        unfold given wrg
        rw [List.map_map]
        rfl
end
end AW
end
section
set_option maxRecDepth 100000
set_option maxHeartbeats 4000000
namespace AW
open PySem PySem.Spec PyProof.Rows L2 Evl AH AP AZ AM
/-- all but a is kept -/
def ExN (a : Addr) (H H' : Hp) : Prop := ∀ b o, b ≠ a → H b = some o → H' b = some o
theorem ExN.refl (a : Addr) (H : Hp) : ExN a H H := fun _ _ _ h => h
theorem ExN.trans {a : Addr} {H H1 H2 : Hp} (x : ExN a H H1) (y : ExN a H1 H2) : ExN a H H2 := fun b o hb h => y b o hb (x b o hb h)
theorem ExN.of {a : Addr} {H H' : Hp} (e : Ex H H') : ExN a H H' := fun b o _ h => e b o h
theorem ExN.wr (a : Addr) (H : Hp) (o : HO) : ExN a H (upd H a o) := fun b u hb h => by rw [upd_ne hb]; exact h
/-- the generator: what is left of the script's number, the seed, the count -/
def Gen (a : Addr) (k : Nat) (H : Hp) : Prop := ∃ g s c : Int, H a = some (.lst ([g, s, c].map V.int)) ∧ 0 ≤ g ∧ 0 ≤ s ∧ s < 2147483647 ∧ 0 ≤ c ∧ c ≤ 2000 + 10 * k
theorem Gen.mono {a : Addr} {k k' : Nat} {H H' : Hp} (h : Gen a k H) (e : Ex H H') (hk : k ≤ k') : Gen a k' H' := by
  obtain ⟨g, s, c, h1, h2, h3, h4, h5, h6⟩ := h
  exact ⟨g, s, c, e a _ h1, h2, h3, h4, h5, by omega⟩
section
variable {P : Program} {w : World} {K : PySem.W.Frag} {mg : Str → Option Value} {base : Heap} {k : Nat}
section
variable {σ : L2.St} {H : Hp} {te ta tb : TE} {D : Ends} {tz : TS} {R : V → Hp → Prop}
theorem s_asgP {i : Nat} (h : EvP te σ H R) (k : ∀ v H1, Ex H H1 → R v H1 → D.nx (σ.set i (some v)) H1) : tAsg te (gName i) D σ H := h H (Ex.refl H) _ fun v H1 e r => k v H1 e r
theorem ev_int {i : Int} (h : Ev te σ H (.int i)) : Ev (tCB (fun xs H Q => (∃ i, xs = [.int i] ∧ Q (.int i) H) ∨ ∃ k, xs = [.bl k] ∧ Q (.int (if k then 1 else 0)) H) (tCons te tNil)) σ H (.int i) :=
  ev_cb (ea_cons h ea_nil) fun H1 e Q q => .inl ⟨i, rfl, q H1 (Ex.refl _)⟩
end
theorem emod_abs (x : Int) {m : Int} (hm : 0 < m) : (x % m).natAbs < m.natAbs := by
  have h1 := Int.emod_nonneg x (show m ≠ 0 by omega)
  have h2 := Int.emod_lt_of_pos x hm
  omega
theorem sc65 : FnScope ["_law_seed", "_law_index", "_law_mixed"] ["_law_seed", "_law_index"] (defScope (tp 65)) := ⟨rfl, rfl, rfl, by decide +kernel, rfl, by decide +kernel, by decide +kernel⟩
def sp65 : Sp := fun vs H Q _ => ∃ s i : Int, vs = [.int s, .int i] ∧ s.natAbs < 2 ^ 64 ∧ i.natAbs < 2 ^ 64 ∧ ∀ h H', Ex H H' → 0 ≤ h → h < 2147483647 → Q (.int h) H'
theorem ok65 (T : TopT K mg) : Cal P w K mg base (k + 1) "_law_hash" ["_law_seed", "_law_index"] [] sp65 := by
  refine mkc (n := 65) T 45 45 sc65 (fun vs H Q E h => ?_) (fun _ _ _ _ _ _ us hl => match us, hl with | [_, _], _ => rfl) fun f cdv A outer s H E hr => ⟨_, (pss_cons (ps_set (i := 2) sc65.nd rfl (Or.inl rfl) (pe_op op_mod (pe_callTy call_int1 (by rfl) T.f_int (by decide +kernel) (pa_cons (pe_op op_add (pe_op op_add (pe_op op_add (pe_op op_mulW (pv 0) pe_int) (pe_op op_mulW (pe_op op_mulW pe_int (pv 1)) (pv 1))) (pe_op op_mulW pe_int (pv 1))) pe_int) pa_nil)) pe_int)) (pss_cons (ps_set (i := 2) sc65.nd rfl (Or.inl rfl) (pe_op op_mod (pe_callTy call_int1 (by rfl) T.f_int (by decide +kernel) (pa_cons (pe_op op_add (pe_op op_add (pe_op op_mulW (pv 2) (pv 2)) (pe_op op_mulW pe_int (pv 1))) pe_int) pa_nil)) pe_int)) (pss_one (ps_ret (pe_op op_mod (pe_callTy call_int1 (by rfl) T.f_int (by decide +kernel) (pa_cons (pe_op op_mulW (pv 2) pe_int) pa_nil)) pe_int))))), fun vs Q h => ?_⟩
  · obtain ⟨s, i, rfl, _⟩ := h
    rfl
  · obtain ⟨s, i, rfl, h1, h2, q⟩ := h
    have c1 : ∀ x y : Int, ∀ a b : Nat, x.natAbs < 2 ^ a → y.natAbs < 2 ^ b → 0 < a → 0 < b → a + b ≤ 1000 → CMulW x y := fun x y a b ha hb h0 h1 h => wide_mul ha hb h0 h1 (by omega)
    refine q_asg (v := .int ((s * 1140671 + 27644437 * i * i + 131 * i + 19) % 2147483629)) (ev_op (ev_int (ev_op (ev_op (ev_op (ev_op (ev_var rfl) ev_c (rv_I (c1 s 1140671 64 64 h1 (by decide) (by decide) (by decide) (by decide)))) (ev_op (ev_op ev_c (ev_var rfl) (rv_I (c1 27644437 i 64 64 (by decide) h2 (by decide) (by decide) (by decide)))) (ev_var rfl)
      (rv_I (c1 (27644437 * i) i 128 64 (wide_lt (a := 64) (b := 64) (by decide) h2) h2 (by decide) (by decide) (by decide)))) rv_I0) (ev_op ev_c (ev_var rfl) (rv_I (c1 131 i 64 64 (by decide) h2 (by decide) (by decide) (by decide)))) rv_I0) ev_c rv_I0)) ev_c (rv_I (by decide))) fun H1 e1 => ?_
    generalize hm : (s * 1140671 + 27644437 * i * i + 131 * i + 19) % 2147483629 = m
    have hm2 : m.natAbs < 2 ^ 64 := by
      have := emod_abs (s * 1140671 + 27644437 * i * i + 131 * i + 19) (m := 2147483629) (by decide)
      rw [hm] at this
      exact Nat.lt_trans this (by decide)
    refine q_asg (v := .int ((m * m + 62089 * i + 32416187) % 2147483587)) (ev_op (ev_int (ev_op (ev_op (ev_op (ev_var rfl) (ev_var rfl) (rv_I (c1 m m 64 64 hm2 hm2 (by decide) (by decide) (by decide)))) (ev_op ev_c (ev_var rfl) (rv_I (c1 62089 i 64 64 (by decide) h2 (by decide) (by decide) (by decide)))) rv_I0) ev_c rv_I0)) ev_c (rv_I (by decide))) fun H2 e2 => ?_
    generalize hu : (m * m + 62089 * i + 32416187) % 2147483587 = u
    have hu2 : u.natAbs < 2 ^ 64 := by
      have := emod_abs (m * m + 62089 * i + 32416187) (m := 2147483587) (by decide)
      rw [hu] at this
      exact Nat.lt_trans this (by decide)
    exact s_ret (v := .int (u * 48271 % 2147483647)) (ev_op (ev_int (ev_op (ev_var rfl) ev_c (rv_I (c1 u 48271 64 64 hu2 (by decide) (by decide) (by decide) (by decide))))) ev_c (rv_I (by decide))) fun H3 e3 => q _ H3 (e1.trans (e2.trans e3)) (Int.emod_nonneg _ (by decide)) (Int.emod_lt_of_pos _ (by decide))
theorem sc66 : FnScope ["_law_generator_here", "_law_bound", "_law_drawn", "_law_turn"] ["_law_generator_here", "_law_bound"] (defScope (tp 66)) := ⟨rfl, rfl, rfl, by decide +kernel, rfl, by decide +kernel, by decide +kernel⟩
def sp66 : Sp := fun vs H Q _ => ∃ (a : Addr) (k : Nat) (b : Int), vs = [.ref a, .int b] ∧ Gen a k H ∧ k ≤ 100000 ∧ 0 < b ∧ b < 2 ^ 100 ∧ ∀ r H', 0 ≤ r → r < b → ExN a H H' → Gen a (k + 1) H' → Q (.int r) H'
theorem bits_le {b : Int} (h0 : 0 < b) (h : b < 2 ^ 100) : Builtin.Int.intBits b ≤ 100 := by
  unfold Builtin.Int.intBits
  split
  · omega
  · have : b.natAbs < 2 ^ 100 := by
      have e1 : (2 : Int) ^ 100 = 1267650600228229401496703205376 := by decide
      have e2 : (2 : Nat) ^ 100 = 1267650600228229401496703205376 := by decide
      omega
    have := PySem.Flt.log2_lt_of (by decide) this
    omega
theorem ok66 (T : TopT K mg) (C__law_hash : Cal P w K mg base k "_law_hash" ["_law_seed", "_law_index"] [] sp65) : Cal P w K mg base (k + 1) "_law_random" ["_law_generator_here", "_law_bound"] [] sp66 := by
  refine mkc (n := 66) T 46 46 sc66 (fun vs H Q E h => ?_) (fun _ _ _ _ _ _ us hl => match us, hl with | [_, _], _ => rfl) fun f cdv A outer s H E hr => ⟨_, (pss_cons (ps_if (pt_cmpR op_gt (pe_ix ix_list (pv 0) pe_int (fun _ _ => rfl)) pe_int (nomark _)) (pss_cons (ps_set (i := 2) sc66.nd rfl (Or.inl rfl) (pe_op op_mod (pe_callTy call_int1 (by rfl) T.f_int (by decide +kernel) (pa_cons (pe_ix ix_list (pv 0) pe_int (fun _ _ => rfl)) pa_nil)) (pv 1))) (pss_cons (ps_asg (pe_op op_fdivW (pe_ix ix_list (pv 0) pe_int (fun _ _ => rfl)) (pv 1)) (pg_sub (pv 0) pe_int set_list)) (pss_one (ps_ret (pv 2))))) pss_nil) (pss_cons (ps_set (i := 2) sc66.nd rfl (Or.inl rfl) pe_int) (pss_cons (ps_for PassesOwn.never rfl (pi_range1 (by rfl) T.f_range (pa_cons (pe_op op_add pe_int (pe_op op_fdivW (pe_bits (pv 1)) pe_int)) pa_nil)) (pg_name (i := 3) sc66.nd rfl (Or.inl rfl)) (pss_cons (ps_asg (pe_op op_add (pe_ix ix_list (pv 0) pe_int (fun _ _ => rfl)) pe_int) (pg_sub (pv 0) pe_int set_list)) (pss_one (ps_set (i := 2) sc66.nd rfl (Or.inl rfl) (pe_op op_add (pe_op op_mulW (pv 2) pe_int) (pcall C__law_hash hr (pa_cons (pe_ix ix_list (pv 0) pe_int (fun _ _ => rfl)) (pa_cons (pe_ix ix_list (pv 0) pe_int (fun _ _ => rfl)) pa_nil)))))))) (pss_one (ps_ret (pe_op op_mod (pe_callTy call_int1 (by rfl) T.f_int (by decide +kernel) (pa_cons (pv 2) pa_nil)) (pv 1))))))), fun vs Q h => ?_⟩
  · obtain ⟨a, k, b, rfl, _⟩ := h
    rfl
  · obtain ⟨a, k, b, rfl, ⟨g, s, c, ha, hg, hs0, hs1, hc0, hc1⟩, hk, hb0, hb1, q⟩ := h
    have e100 : (2 : Int) ^ 100 = 1267650600228229401496703205376 := by decide
    have n100 : (2 : Nat) ^ 100 = 1267650600228229401496703205376 := by decide
    refine q_when (b := decide (g > 0)) (et_test (ev_op (ev_op (ev_var rfl) ev_c (rv_ixL (sq_of ha) rfl)) ev_c rv_I0)) (fun hgt H1 e1 => ?_) (fun hgt H1 e1 => ?_)
    · refine q_asg (v := .int (g % b)) (ev_op (ev_int (ev_op (ev_var rfl) ev_c (rv_ixL (sq_of (e1 a _ ha)) rfl))) (ev_var rfl) (rv_I hb0)) fun H2 e2 => ?_
      refine q_setL (l := a) (j := 0) (xs := [g, s, c].map V.int) (v := .int (g / b)) ((e1.trans e2) a _ ha) (ev_op (ev_op (ev_var rfl) ev_c (rv_ixL (sq_of ((e1.trans e2) a _ ha)) rfl)) (ev_var rfl) (rv_I (wide_div hb0 (b := 101) (by omega) (by decide) (by decide)))) (ev_var rfl) ev_c (by show 0 < 3; decide) fun H3 e3 => ?_
      refine s_ret (ev_var rfl) fun H4 e4 => q _ H4 (Int.emod_nonneg _ (by omega)) (Int.emod_lt_of_pos _ hb0) ((ExN.of (e1.trans (e2.trans e3))).trans ((ExN.wr a H3 _).trans (ExN.of e4))) ⟨g / b, s, c, e4 a _ upd_same, Int.ediv_nonneg hg (by omega), hs0, hs1, hc0, by omega⟩
    · refine q_asg ev_c fun H2 e2 => ?_
      have hbits := bits_le hb0 hb1
      refine q_forR1 (n := 1 + (Builtin.Int.intBits b : Int) / 30) (ea_cons (ev_op ev_c (ev_op (fun H3 e3 Q q => ⟨_, rfl, b, rfl, q H3 (Ex.refl _)⟩) ev_c (rv_I ⟨by decide, by decide⟩)) rv_I0) ea_nil) (by omega)
        (fun i σ' H' => ∃ (d c' : Int) (y3 : Option V), σ' = [some (.ref a), some (.int b), some (.int d), y3] ∧ d.natAbs < 2 ^ (40 * (i + 1)) ∧ H' a = some (.lst ([g, s, c'].map V.int)) ∧ 0 ≤ c' ∧ c' ≤ c + i ∧ ExN a H H')
        (fun H3 e3 => ⟨0, c, none, rfl, by decide, (e1.trans (e2.trans e3)) a _ ha, hc0, by omega, ExN.of (e1.trans (e2.trans e3))⟩) (fun i σ' H' hi h => ?_) (fun σ' H' h => ?_)
      · obtain ⟨d, c', y3, rfl, hd, hla, h1, h2, hx⟩ := h
        refine q_setL (l := a) (j := 2) (xs := [g, s, c'].map V.int) (v := .int (c' + 1)) hla (ev_op (ev_op (ev_var rfl) ev_c (rv_ixL (sq_of hla) rfl)) ev_c rv_I0) (ev_var rfl) ev_c (by show 2 < 3; decide) fun H3 e3 => ?_
        have hla3 : (upd H3 a (.lst (([g, s, c'].map V.int).set 2 (.int (c' + 1))))) a = some (.lst ([g, s, c' + 1].map V.int)) := upd_same
        have hi5 : i ≤ 4 := by omega
        refine s_asgP (R := fun v _ => ∃ d' : Int, v = .int d' ∧ d'.natAbs < 2 ^ (40 * (i + 1 + 1))) (evp_op (RA := fun v _ => v = .int (d * 2147483587)) (Ev.p (ev_op (ev_var rfl) ev_c (rv_I (wide_mul hd (b := 32) (by decide) (by omega) (by decide) (by omega)))) fun _ _ => rfl) fun x H4 e4 rx => (evp_callA (R := fun v _ => ∃ h : Int, v = .int h ∧ 0 ≤ h ∧ h < 2147483647) (ea_cons (ev_op (ev_var rfl) ev_c (rv_ixL (sq_of (e4 a _ hla3)) rfl)) (ea_cons (ev_op (ev_var rfl) ev_c (rv_ixL (sq_of (e4 a _ hla3)) rfl)) ea_nil))
          fun H5 e5 Q q E => ⟨s, c' + 1, rfl, by omega, by omega, fun h H6 e6 z1 z2 => q _ H6 e6 ⟨h, rfl, z1, z2⟩⟩).imp fun y H5 e5 ⟨h, ey, z1, z2⟩ => ?_) fun v H4 e4 r => ?_
        · subst rx
          subst ey
          refine rp_of rv_I0 fun H6 e6 => ⟨_, rfl, ?_⟩
          have z3 : (d * 2147483587).natAbs < 2 ^ (40 * (i + 1) + 32) := wide_lt hd (by decide)
          have z4 : (2 : Nat) ^ (40 * (i + 1 + 1)) = 2 ^ (40 * (i + 1) + 32) * 256 := by
            rw [show 40 * (i + 1 + 1) = (40 * (i + 1) + 32) + 8 by omega, Nat.pow_add]
          have z5 : (2 : Nat) ^ 32 ≤ 2 ^ (40 * (i + 1) + 32) := Nat.pow_le_pow_right (by decide) (by omega)
          omega
        · obtain ⟨d', rfl, hd'⟩ := r
          exact ⟨d', c' + 1, _, rfl, hd', e4 a _ hla3, by omega, by omega, hx.trans ((ExN.of e3).trans ((ExN.wr a H3 _).trans (ExN.of e4)))⟩
      · obtain ⟨d, c', y3, rfl, hd, hla, h1, h2, hx⟩ := h
        refine s_ret (v := .int (d % b)) (ev_op (ev_int (ev_var rfl)) (ev_var rfl) (rv_I hb0)) fun H4 e4 => q _ H4 (Int.emod_nonneg _ (by omega)) (Int.emod_lt_of_pos _ hb0) (hx.trans (ExN.of e4)) ⟨g, s, c', e4 a _ hla, hg, hs0, hs1, h1, ?_⟩
        have : (1 + (Builtin.Int.intBits b : Int) / 30).toNat ≤ 4 := by omega
        omega
end
end AW
end
section
set_option maxRecDepth 100000
set_option maxHeartbeats 4000000
namespace AW
open PySem PySem.Spec PyProof.Rows L2 Evl AH AP AZ AM
/-! ### from this very heap on -/
def EvX (te : TE) (σ : L2.St) (H : Hp) (R : V → Hp → Prop) : Prop := ∀ Q : VK, (∀ v H2, R v H2 → Q v H2) → te σ H Q
def EvXA (ta : TA) (σ : L2.St) (H : Hp) (R : List V → Hp → Prop) : Prop := ∀ Q : List V → Hp → Prop, (∀ v H2, R v H2 → Q v H2) → ta σ H Q
section
variable {σ : L2.St} {H : Hp} {te ta tb : TE} {tr : TA} {D : Ends} {tz : TS} {R RA : V → Hp → Prop} {RL : List V → Hp → Prop}
theorem evx_of {v : V} (h : Ev te σ H v) : EvX te σ H fun x H' => x = v ∧ Ex H H' := fun Q q => h H (Ex.refl H) Q fun H2 e => q v H2 ⟨rfl, e⟩
theorem evx_ofP (h : EvP te σ H R) : EvX te σ H fun x H' => Ex H H' ∧ R x H' := fun Q q => h H (Ex.refl H) Q fun v H2 e r => q v H2 ⟨e, r⟩
theorem evx_ofL {xs : List V} (h : EvL te σ H xs) : EvX te σ H fun v H' => ∃ p, v = .ref p ∧ H p = none ∧ Ex H H' ∧ H' p = some (.lst xs) := fun Q q => h H (Ex.refl H) Q fun p H2 n e hp => q _ H2 ⟨p, rfl, n, e, hp⟩
theorem EvX.imp {R' : V → Hp → Prop} (h : EvX te σ H R) (hr : ∀ v H1, R v H1 → R' v H1) : EvX te σ H R' := fun Q q => h Q fun v H2 r => q v H2 (hr v H2 r)
theorem exa_nil (h : RL [] H) : EvXA tNil σ H RL := fun Q q => q [] H h
theorem exa_cons (h : EvX te σ H R) (hr : ∀ x H1, R x H1 → EvXA tr σ H1 fun vs H2 => RL (x :: vs) H2) : EvXA (tCons te tr) σ H RL := fun Q q => h _ fun x H1 r => hr x H1 r _ fun vs H2 rl => q _ H2 rl
theorem evx_call {sp : Sp} {dvs : List V} {E : XK} (h : EvXA tr σ H RL) (hs : ∀ vs H1, RL vs H1 → ∀ Q : VK, (∀ v H2, R v H2 → Q v H2) → sp (vs ++ dvs) H1 Q E) : EvX (tCall sp dvs E tr) σ H R := fun Q q => h _ fun vs H1 r => hs vs H1 r Q q
theorem evx_cb {r : List V → Hp → VK → Prop} (h : EvXA tr σ H RL) (hs : ∀ vs H1, RL vs H1 → ∀ Q : VK, (∀ v H2, R v H2 → Q v H2) → r vs H1 Q) : EvX (tCB r tr) σ H R := fun Q q => h _ fun vs H1 rl => hs vs H1 rl Q q
theorem evx_op {r : R2} {RB : V → V → Hp → Prop} (ha : EvX ta σ H RA) (hb : ∀ x H1, RA x H1 → EvX tb σ H1 (RB x)) (hr : ∀ x y H1, RB x y H1 → ∀ Q : VK, (∀ v H2, R v H2 → Q v H2) → r x y H1 Q) : EvX (tOp r ta tb) σ H R := fun Q q =>
  ha _ fun x H1 rx => hb x H1 rx _ fun y H2 ry => hr x y H2 ry Q q
theorem q_asgX {i : Nat} (h : EvX te σ H R) (k : ∀ v H1, R v H1 → tz D (σ.set i (some v)) H1) : tSeq (tAsg te (gName i)) tz D σ H := h _ fun v H1 r => k v H1 r
theorem q_parX {i j : Nat} (h : EvXA tr σ H RL) (k : ∀ vs H1, RL vs H1 → ∃ x y, vs = [x, y] ∧ tz D ((σ.set i (some x)).set j (some y)) H1) : tSeq (tPar i j tr) tz D σ H := h _ fun vs H1 r => k vs H1 r
end
theorem ExN.mut {a l : Addr} {H H' : Hp} {o : HO} (e : ExN a H H') (h : H l = none) : ExN a H (upd H' l o) := fun b u hb x => by
  rw [upd_ne fun z => by rw [z, h] at x; cases x]
  exact e b u hb x
theorem Gen.other {a l : Addr} {k : Nat} {H : Hp} {o : HO} (h : Gen a k H) (hn : l ≠ a) : Gen a k (upd H l o) := by
  obtain ⟨g, s, c, h1, h2⟩ := h
  exact ⟨g, s, c, by rw [upd_ne (Ne.symm hn)]; exact h1, h2⟩
theorem Gen.ex {a : Addr} {k : Nat} {H H' : Hp} (h : Gen a k H) (e : Ex H H') : Gen a k H' := h.mono e (Nat.le_refl _)
theorem Gen.ne {a l : Addr} {k : Nat} {H : Hp} (g : Gen a k H) (h : H l = none) : l ≠ a := fun z => by
  obtain ⟨_, _, _, e, _⟩ := g
  rw [z, e] at h
  cases h
section
variable {P : Program} {w : World} {K : PySem.W.Frag} {mg : Str → Option Value} {base : Heap} {k : Nat}
/-- a draw -/
theorem evx_rand {σ : L2.St} {H : Hp} {ta tb : TE} {a : Addr} {k : Nat} {b : Int} (g : Gen a k H) (hk : k ≤ 100000) (ha : Ev ta σ H (.ref a)) (hb : Ev tb σ H (.int b)) (h0 : 0 < b) (h1 : b < 2 ^ 100) :
    EvX (tCall sp66 [] E0 (tCons ta (tCons tb tNil))) σ H fun v H' => ∃ r : Int, v = .int r ∧ 0 ≤ r ∧ r < b ∧ ExN a H H' ∧ Gen a (k + 1) H' := fun Q q =>
  (ea_cons ha (ea_cons hb ea_nil)) H (Ex.refl H) _ fun H1 e1 => ⟨a, k, b, rfl, g.ex e1, hk, h0, h1, fun r H2 h0 h1 e2 g2 => q _ H2 ⟨r, rfl, h0, h1, (ExN.of e1).trans e2, g2⟩⟩
theorem sc67 : FnScope ["_law_script", "_law_index"] ["_law_script", "_law_index"] (defScope (tp 67)) := ⟨rfl, rfl, rfl, by decide +kernel, rfl, by decide +kernel, by decide +kernel⟩
def sp67 (K : PySem.W.Frag) : Sp := fun vs H Q _ => ∃ (a : Addr) (sc : List Int) (i : Nat), vs = [.ref a, .int (i : Int)] ∧ SqL K H a (sc.map V.int) ∧ sc.length ≤ 63 ∧ ∀ (r : Int) H', Ex H H' → Q (.int r) H'
theorem ok67 (T : TopT K mg) : Cal P w K mg base (k + 1) "_law_cell" ["_law_script", "_law_index"] [] (sp67 K) := by
  refine mkc (n := 67) T 47 47 sc67 (fun vs H Q E h => ?_) (fun _ _ _ _ _ _ us hl => match us, hl with | [_, _], _ => rfl) fun f cdv A outer s H E hr => ⟨_, (pss_cons (ps_if (pt_cmpR op_lt (pv 1) (pe_callB call_len_seq (by rfl) T.f_len (by decide +kernel) (pa_cons (pv 0) pa_nil)) (nomark _)) (pss_one (ps_ret (pe_ix ix_list (pv 0) (pv 1) (fun _ _ => rfl)))) pss_nil) (pss_one (ps_ret (pe_op op_mod (pe_callB (cr_sum rfl) (by rfl) T.f_sum (by decide +kernel) (pa_cons (pe_slice sl_list (pv 0) po_none (po_some pe_int)) pa_nil)) pe_int)))), fun vs Q h => ?_⟩
  · obtain ⟨a, sc, i, rfl, _⟩ := h
    rfl
  · obtain ⟨a, sc, i, rfl, ha, hl, q⟩ := h
    refine q_when (b := decide ((i : Int) < sc.length)) (et_test (ev_op (ev_var rfl) (ev_lenI (ev_var rfl) (ha)) rv_I0)) (fun hc H1 e1 => ?_) (fun hc H1 e1 => ?_)
    · exact s_ret (ev_op (ev_var rfl) (ev_var rfl) (rv_ixL (ex_l e1 ha) (at_ints (by have := of_decide_eq_true hc; omega)))) fun H2 e2 => q _ H2 (e1.trans e2)
    · exact s_ret (v := .int ((sc.take 1).sum % 1000003)) (ev_op (ev_sumNI (el_take (k := 1) (ev_var rfl) ev_c (ex_l e1 ha))) ev_c (rv_I (by decide))) fun H2 e2 => q _ H2 (e1.trans e2)
/-- ** of great ints -/
def CPowW (i j : Int) : Prop := 0 ≤ j ∧ (Builtin.Int.intBits i : Int) * j ≤ 2 ^ 27
theorem op_powW {X : Cx} : OpR X (binaryOp .Pow) (rI CPowW fun i j => .int (i ^ j.toNat)) := opI fun _ _ _ _ _ _ _ hc q => pow_int hc.1 hc.2 q
theorem sc68 : FnScope ["_law_script", "_law_index", "_law_seed"] ["_law_script", "_law_index"] (defScope (tp 68)) := ⟨rfl, rfl, rfl, by decide +kernel, rfl, by decide +kernel, by decide +kernel⟩
def sp68 (K : PySem.W.Frag) : Sp := fun vs H Q _ => ∃ (a : Addr) (sc : List Int) (i : Nat), vs = [.ref a, .int (i : Int)] ∧ SqL K H a (sc.map V.int) ∧ sc.length ≤ 63 ∧ i ≤ 1 ∧ ∀ p H', H p = none → Ex H H' → Gen p 0 H' → Q (.ref p) H'
theorem ok68 (T : TopT K mg) (C__law_cell : Cal P w K mg base k "_law_cell" ["_law_script", "_law_index"] [] (sp67 K)) : Cal P w K mg base (k + 1) "_law_generator" ["_law_script", "_law_index"] [] (sp68 K) := by
  refine mkc (n := 68) T 48 48 sc68 (fun vs H Q E h => ?_) (fun _ _ _ _ _ _ us hl => match us, hl with | [_, _], _ => rfl) fun f cdv A outer s H E hr => ⟨_, (pss_cons (ps_set (i := 2) sc68.nd rfl (Or.inl rfl) (pcall C__law_cell hr (pa_cons (pv 0) (pa_cons (pv 1) pa_nil)))) (pss_one (ps_ret (pe_lst (pa_cons (pe_op op_mod (pe_callTy call_int1 (by rfl) T.f_int (by decide +kernel) (pa_cons (pe_callB (call_max2 rfl) (by rfl) T.f_max (by decide +kernel) (pa_cons (pe_op op_sub (pv 2) (pe_op op_pow pe_int pe_int)) (pa_cons pe_int pa_nil))) pa_nil)) (pe_op op_powW (pe_op op_pow pe_int pe_int) pe_int)) (pa_cons (pe_op op_mod (pe_callTy call_int1 (by rfl) T.f_int (by decide +kernel) (pa_cons (pv 2) pa_nil)) pe_int) (pa_cons (pe_op op_mulW pe_int (pv 1)) pa_nil))))))), fun vs Q h => ?_⟩
  · obtain ⟨a, sc, i, rfl, _⟩ := h
    rfl
  · obtain ⟨a, sc, i, rfl, ha, hl, hi, q⟩ := h
    refine q_asgP (R := fun v _ => ∃ r : Int, v = .int r) (evp_callA (ea_cons (ev_var rfl) (ea_cons (ev_var rfl) ea_nil)) fun H1 e1 Q q E => ⟨a, sc, i, rfl, ex_l e1 ha, hl, fun r H2 e2 => q _ H2 e2 ⟨r, rfl⟩⟩) fun v H1 e1 r => ?_
    obtain ⟨r, rfl⟩ := r
    have hpow : (0 : Int) < ((10 : Int) ^ (60 : Int).toNat) ^ (10 : Int).toNat := Int.pow_pos (Int.pow_pos (by decide))
    have hbit : CPowW ((10 : Int) ^ (60 : Int).toNat) 10 := ⟨by decide, by decide +kernel⟩
    have hp2 : CPow (10 : Int) 60 := ⟨by decide, by decide, by decide⟩
    have hp3 : CPow (10 : Int) 18 := ⟨by decide, by decide, by decide⟩
    refine s_retL (xs := [.int ((if (0 : Int) > r - 10 ^ (18 : Int).toNat then (0 : Int) else r - 10 ^ (18 : Int).toNat) % ((10 : Int) ^ (60 : Int).toNat) ^ (10 : Int).toNat), .int (r % 2147483647), .int (1000 * (i : Int))]) (el_lst (ea_cons (ev_op (ev_int (ev_max2 (ev_op (ev_var rfl) (ev_op ev_c ev_c (rv_I hp3)) rv_I0) ev_c)) (ev_op (ev_op ev_c ev_c (rv_I hp2)) ev_c (rv_I hbit)) (rv_I hpow)) (ea_cons (ev_op (ev_int (ev_var rfl)) ev_c (rv_I (by decide)))
      (ea_cons (ev_op ev_c (ev_var rfl) (rv_I (wide_mul (a := 64) (b := 64) (by decide) (by omega) (by decide) (by decide) (by decide)))) ea_nil))) (by show 3 ≤ 100000; decide)) fun p H2 np e2 hp => q p H2 (fresh_back e1 np) (e1.trans e2) ⟨_, _, _, hp, Int.emod_nonneg _ (by omega), Int.emod_nonneg _ (by decide), Int.emod_lt_of_pos _ (by decide), by omega, by omega⟩
end
end AW
end
section
set_option maxRecDepth 100000
set_option maxHeartbeats 4000000
namespace AM
open PySem PySem.Spec PyProof.Rows L2
/-- xs[::0 - 1] -/
theorem pe_revS {X : Cx} {e : Expr} {te : TE} {k k' : Nat} {p1 p2 p3 p4 pos : Pos} (he : PE X e te) : PE X (.Subscript e (.Slice none none (some (.BinOp (.Constant (.int 0) k p1) .Sub (.Constant (.int 1) k' p4) p2)) p3) pos) (tRevL X.K te) := by
  refine ⟨fun pins s σ H Q I h => Subscript_ (thn (he.run pins s σ H _ I h) fun v s1 hv => ?_)⟩
  obtain ⟨x, H1, I1, r1, a, xs, ex, hx, q⟩ := hv
  subst ex
  cases r1
  have step : PO X (some (.BinOp (.Constant (.int 0) k p1) .Sub (.Constant (.int 1) k' p4) p2)) (tPart (tOp (rI0 fun i j => .int (i - j)) (tC (.int 0)) (tC (.int 1)))) := po_some (pe_op op_sub pe_int pe_int)
  refine wpAny_Slice (thn (po_none.run pins s1 σ H1 (fun o Hx => o = none ∧ Hx = H1) I1 ⟨rfl, rfl⟩) fun vl s2 hl => ?_)
  obtain ⟨l, Hl, I2, pl, el, e2⟩ := hl
  subst el e2
  refine thn (po_none.run pins s2 σ Hl (fun o Hx => o = none ∧ Hx = Hl) I2 ⟨rfl, rfl⟩) fun vu s3 hu => ?_
  obtain ⟨u, Hu, I3, pu, eu, e3⟩ := hu
  subst eu e3
  refine thn (step.run pins s3 σ Hu (fun o Hx => o = some (-1) ∧ Hx = Hu) I3 ⟨0, 1, rfl, rfl, -1, rfl, rfl, rfl⟩) fun vs s4 hs => ?_
  obtain ⟨o, Hs, I4, ps, eo, e4⟩ := hs
  subst eo e4
  have I5 : L2.Inv X pins σ Hs { s4 with heap := s4.heap.push { cls := .type "slice", data := .fields #[vl, vu, vs] } } := I4.kept (t' := s4.toks) fun b ob z => Heap.get?_push_of_some _ z
  obtain ⟨its, r, ht, hz⟩ := I5.list hx
  have hlen := r.length
  refine tail_any (ops := [.ref a, .ref s4.heap.objs.size]) ht.isList.typeIs PySem.slot_list_getitem.lookup ?_ (by with_unfolding_all rfl)
  refine wpAny_getItem_list_slice ht.isList (Heap.IsSliceOf.new _ vl vu vs) pl pu ps (by decide) ?_ (by rw [List.size_toArray]; omega)
  rw [PySem.W.krv_pick]
  exact ⟨.ref _, _, I5.laid (t' := s4.toks) (o := .lst xs.reverse) (fun b ob z => Heap.get?_push_of_some _ z) (Nat.le_refl _) ⟨by rw [List.length_reverse]; exact hz, _, 0, r.reverse, Heap.get?_push_size _ rfl⟩, rfl, q _ (I5.hok.fresh (Nat.le_refl _))⟩
/-- a method's call in a comprehension's block -/
theorem pe_bmK {X : Cx} {K : PySem.W.Frag} {o e : Expr} {es : List Expr} {to : TE} {t : TA} {name : Str} {apos cpos : Pos} {T id : String} {r : V → List V → Hp → VK → Prop} (hK : X.K = K) (pa : PlainAttrs T) (slot : Slot T name id) (hty : typeOf (.builtin id) = pure (.type "method_descriptor")) (hm : MtR X id r) (ho : PE X o to) (ha : PA X (e :: es) t)
    (h1 : attributeBase o name X.env (eval o X.env) = eval o X.env := by rfl)
    (h2 : ((backTo cpos (starEach (e :: es) X.env)).all (fun x => !x.1) && (backToKw cpos (keywordEach [] X.env)).all (fun x => x.1.isSome) && decide ((e :: es).length + ([] : List Keyword).length + (if ([] : List Keyword).isEmpty then 0 else 1) < 30)) = true := by rfl)
    (h3 : (apos.endLine == cpos.line) = true := by rfl) (h4 : starEach (e :: es) X.env = (false, eval e X.env) :: starEach es X.env := by rfl) (h5 : (backTo cpos (starEach es X.env)).any (·.1) = false := by rfl) :
    PE X (.Call (.Attribute o name apos) (e :: es) [] cpos) (tBM K T r to t) := hK ▸ pe_bm pa slot hty hm ho ha h1 h2 h3 h4 h5
end AM
end
section
set_option maxRecDepth 100000
set_option maxHeartbeats 4000000
namespace AW
open PySem PySem.Spec PyProof.Rows L2 Evl AH AP AZ AM
/-- the words of a polynomial -/
def polyW (n : Nat) (pw : List Int) (x : Int) : Int := pw.reverse.foldl (fun u p => (u * x + p) % 2 ^ n) 0
section
variable {P : Program} {w : World} {K : PySem.W.Frag} {mg : Str → Option Value} {base : Heap} {k : Nat}
theorem el_rev {σ : L2.St} {H : Hp} {te : TE} {a : Addr} {xs : List V} (h : Ev te σ H (.ref a)) (ha : H a = some (.lst xs)) : EvL (tRevL K te) σ H xs.reverse := fun H1 e Q q => h H1 e _ fun H2 e2 => ⟨a, xs, rfl, sq_of ((e.trans e2) a _ ha), fun p np => q p _ (fresh_back e2 np) (e2.trans (Ex.new np)) upd_same⟩
theorem sc70 : FnScope ["_law_bits", "_law_spots_here", "_law_powers_told", "_law_found", "_law_spot", "_law_word", "_law_power"] ["_law_bits", "_law_spots_here", "_law_powers_told"] (defScope (tp 70)) := ⟨rfl, rfl, rfl, by decide +kernel, rfl, by decide +kernel, by decide +kernel⟩
def sp70 : Sp := fun vs H Q _ => ∃ (n : Nat) (a b : Addr) (ps pw : List Int), vs = [.int (n : Int), .ref a, .ref b] ∧ 1 ≤ n ∧ n ≤ 64 ∧ H a = some (.lst (ps.map V.int)) ∧ H b = some (.lst (pw.map V.int)) ∧ ps.length ≤ 64 ∧ pw.length ≤ 64 ∧ (∀ z ∈ ps, z.natAbs < 2 ^ 64) ∧ ∀ p H', H p = none → Ex H H' → H' p = some (.lst ((ps.map (polyW n pw)).map V.int)) → Q (.ref p) H'
theorem ok70 (T : TopT K mg) : Cal P w K mg base (k + 1) "_law_words" ["_law_bits", "_law_spots_here", "_law_powers_told"] [] sp70 := by
  refine mkc (n := 70) T 50 50 sc70 (fun vs H Q E h => ?_) (fun _ _ _ _ _ _ us hl => match us, hl with | [_, _, _], _ => rfl) fun f cdv A outer s H E hr => ⟨_, (pss_cons (ps_set (i := 3) sc70.nd rfl (Or.inl rfl) (pe_lst pa_nil)) (pss_cons (ps_for PassesOwn.never rfl (pi_list (pv 1)) (pg_name (i := 4) sc70.nd rfl (Or.inl rfl)) (pss_cons (ps_set (i := 5) sc70.nd rfl (Or.inl rfl) pe_int) (pss_cons (ps_for PassesOwn.never rfl (pi_list (AM.pe_revS (pv 2))) (pg_name (i := 6) sc70.nd rfl (Or.inl rfl)) (pss_one (ps_set (i := 5) sc70.nd rfl (Or.inl rfl) (pe_op op_mod (pe_callTy call_int1 (by rfl) T.f_int (by decide +kernel) (pa_cons (pe_op op_add (pe_op op_mulW (pv 5) (pv 4)) (pv 6)) pa_nil)) (pe_op op_shl pe_int (pv 0)))))) (pss_one (ps_expr (pe_bm PySem.F.plainAttrs_list PySem.F.slot_list_append PySem.F.type_list_append mt_append (pv 3) (pa_cons (pv 5) pa_nil))))))) (pss_one (ps_ret (pv 3))))), fun vs Q h => ?_⟩
  · obtain ⟨n, a, b, ps, pw, rfl, _⟩ := h
    rfl
  · obtain ⟨n, a, b, ps, pw, rfl, hn1, hn, ha, hb, hz, hz2, hab, q⟩ := h
    have h2 : (0 : Int) < 2 ^ n := Int.pow_pos (by decide)
    have h64 : (2 : Int) ^ n ≤ 2 ^ 64 := Int.le_of_dvd (AP.pow_pos 64) (AP.pow_dvd hn)
    have e64 : (2 : Int) ^ 64 = 18446744073709551616 := by decide
    have n65 : (2 : Nat) ^ 65 = 36893488147419103232 := by decide
    have ev1 : ∀ (σ : L2.St) (H1 : Hp), σ[0]? = some (some (.int (n : Int))) → Ev (tOp (rI CPow fun i j => .int (i * 2 ^ j.toNat)) (tC (.int 1)) (tVar 0)) σ H1 (.int (2 ^ n)) := fun σ H1 h => ev_is (ev_op ev_c (ev_var h) (rv_I ⟨by omega, by omega, by decide⟩)) (by rw [Int.toNat_natCast, Int.one_mul])
    refine q_asgL (xs := ([] : List Int).map V.int) (el_lst ea_nil (by decide)) fun L H1 nL e1 hL => ?_
    refine q_forLn (K := K) (a := a) (xs := ps.map V.int) (ev_var rfl) (sq_of (e1 a _ ha)) (fun i σ' H' => ∃ y4 y5 y6 : Option V, σ' = [some (.int (n : Int)), some (.ref a), some (.ref b), some (.ref L), y4, y5, y6] ∧ H' L = some (.lst (((ps.take i).map (polyW n pw)).map V.int)) ∧ Ex H H') (fun H2 e2 => ⟨none, none, none, rfl, e2 L _ hL, e1.trans e2⟩)
      (fun i σ' H' _ h => by obtain ⟨_, _, _, _, _, e⟩ := h; exact sq_of (e a _ ha)) (fun i x σ' H' hx h => ?_) (fun σ' H' h => ?_)
    · obtain ⟨y4, y5, y6, rfl, hl, ex⟩ := h
      obtain ⟨x, hxi, rfl, hxm, hxd⟩ := ix_ints hx
      refine q_asg ev_c fun H2 e2 => ?_
      refine q_forNLn (K := K) (xs := (pw.map V.int).reverse) (el_rev (ev_var rfl) ((ex.trans e2) b _ hb)) (fun p j σ' H3 => ∃ (u : Int) (y6 : Option V), σ' = [some (.int (n : Int)), some (.ref a), some (.ref b), some (.ref L), some (.int x), some (.int u), y6] ∧ u = (pw.reverse.take j).foldl (fun u p => (u * x + p) % 2 ^ n) 0 ∧ u.natAbs < 2 ^ 65 ∧ Ex H2 H3 ∧ H3 p = some (.lst (pw.map V.int).reverse))
        (fun p H3 np e3 hp => ⟨0, _, rfl, rfl, by decide, e3, hp⟩) (fun p j σ' H3 _ h => by obtain ⟨_, _, _, _, _, _, h⟩ := h; exact sq_of h) (fun p j z σ' H3 hz3 h => ?_) (fun p σ' H3 h => ?_)
      · obtain ⟨u, y6, rfl, hu, hub, e3, hp⟩ := h
        rw [← List.map_reverse] at hz3
        obtain ⟨z, hzi, rfl, _, _⟩ := ix_ints hz3
        refine s_asg (v := .int ((u * x + z) % 2 ^ n)) (ev_op (ev_int (ev_op (ev_op (ev_var rfl) (ev_var rfl) (rv_I (wide_mul hub (hab x hxm) (by decide) (by decide) (by decide)))) (ev_var rfl) rv_I0)) (ev1 _ _ rfl) (rv_I h2)) fun H4 e4 => ⟨_, _, rfl, ?_, ?_, e3.trans e4, e4 p _ hp⟩
        · rw [List.take_succ, hzi, List.foldl_append, ← hu]
          rfl
        · have h1 := Int.emod_nonneg (u * x + z) (show (2 : Int) ^ n ≠ 0 by omega)
          have h2 := Int.emod_lt_of_pos (u * x + z) h2
          omega
      · obtain ⟨u, y6, rfl, hu, hub, e3, hp⟩ := h
        have hu2 : u = polyW n pw x := by
          rw [hu, List.length_reverse, List.length_map]
          unfold polyW
          rw [List.take_of_length_le (by simp)]
        have hl3 := (e2.trans e3) L _ hl
        refine s_app (l := L) hl3 (ev_var rfl) (ev_var rfl) (by simp; omega) fun H4 e4 => ⟨_, _, _, rfl, ?_, Ex.mut (ex.trans (e2.trans (e3.trans e4))) nL⟩
        rw [upd_same, List.take_succ, hxi, List.map_append, List.map_append, hu2]
        rfl
    · obtain ⟨y4, y5, y6, rfl, hl, ex⟩ := h
      rw [List.length_map, List.take_length] at hl
      exact s_ret (ev_var rfl) fun H2 e2 => q L H2 nL (ex.trans e2) (e2 L _ hl)
end
end AW
end
section
set_option maxRecDepth 100000
set_option maxHeartbeats 4000000
namespace AW
open PySem PySem.Spec PyProof.Rows L2 Evl AH AP AZ AM
section
variable {P : Program} {w : World} {K : PySem.W.Frag} {mg : Str → Option Value} {base : Heap} {k : Nat}
theorem ev_shl1 {σ : L2.St} {H : Hp} {i : Nat} {n : Nat} (h : σ[i]? = some (some (.int (n : Int)))) (hn : n ≤ 1000) : Ev (tOp (rI CPow fun i j => .int (i * 2 ^ j.toNat)) (tC (.int 1)) (tVar i)) σ H (.int (2 ^ n)) := ev_is (ev_op ev_c (ev_var h) (rv_I ⟨by omega, by omega, by decide⟩)) (by rw [Int.toNat_natCast, Int.one_mul])
theorem evp_sortedQ {σ : L2.St} {H : Hp} {ta : TE} {l : List Int} (h : EvP ta σ H (IsIL l)) (hz : l.length < 64) : EvP (tCB (rSorted K) (tCons ta tNil)) σ H fun v H' => ∃ (l' : List Int) (p : Addr), l'.Perm l ∧ l'.Pairwise (· ≤ ·) ∧ v = .ref p ∧ H p = none ∧ H' p = some (.lst (l'.map V.int)) := fun H1 e Q q => h H1 e _ fun v H2 e2 r => by
  obtain ⟨p, rfl, hp⟩ := r
  exact ⟨p, l, rfl, sq_of hp, hz, fun ns' p' h1 h2 np => q _ _ (e2.trans (Ex.new np)) ⟨ns', p', h1, h2, rfl, fresh_back (e.trans e2) np, upd_same⟩⟩
theorem asc_of {l : List Int} (h : l.Pairwise (· ≤ ·)) (hn : l.Nodup) : l.Pairwise (· < ·) := by
  have := h.and hn
  exact this.imp fun ⟨a, b⟩ => by omega
theorem sc69 : FnScope ["_law_generator_here", "_law_bits", "_law_many", "_law_span", "_law_found", "_law_turn", "_law_spot"] ["_law_generator_here", "_law_bits", "_law_many"] (defScope (tp 69)) := ⟨rfl, rfl, rfl, by decide +kernel, rfl, by decide +kernel, by decide +kernel⟩
def sp69 : Sp := fun vs H Q _ => ∃ (a : Addr) (k n m : Nat), vs = [.ref a, .int (n : Int), .int (m : Int)] ∧ Gen a k H ∧ k ≤ 1000 ∧ 1 ≤ n ∧ n ≤ 64 ∧ 1 ≤ m ∧ m ≤ 8 ∧ ∀ (p : Addr) H' (ps : List Int), p ≠ a → ExN a H H' → Gen a (k + 41) H' → Plc n ps → ps.length ≤ m → H' p = some (.lst (ps.map V.int)) → Q (.ref p) H'
theorem ok69 (T : TopT K mg) (C__law_random : Cal P w K mg base k "_law_random" ["_law_generator_here", "_law_bound"] [] sp66) : Cal P w K mg base (k + 1) "_law_spots" ["_law_generator_here", "_law_bits", "_law_many"] [] sp69 := by
  refine mkc (n := 69) T 49 49 sc69 (fun vs H Q E h => ?_) (fun _ _ _ _ _ _ us hl => match us, hl with | [_, _, _], _ => rfl) fun f cdv A outer s H E hr => ⟨_, (pss_cons (ps_par (i := 3) (j := 4) rfl sc69.nd rfl rfl (by decide) rfl rfl (pa_cons (pe_callB (call_min2 rfl) (by rfl) T.f_min (by decide +kernel) (pa_cons (pe_op op_shl pe_int (pv 1)) (pa_cons (pe_ix ix_list (pe_lst (pa_cons pe_int (pa_cons pe_int (pa_cons (pe_op op_shl pe_int pe_int) pa_nil)))) (pcall C__law_random hr (pa_cons (pv 0) (pa_cons pe_int pa_nil))) (fun _ _ => rfl)) pa_nil))) (pa_cons (pe_lst pa_nil) pa_nil)) (by rfl)) (pss_cons (ps_for PassesOwn.never rfl (pi_range1 (by rfl) T.f_range (pa_cons pe_int pa_nil)) (pg_name (i := 5) sc69.nd rfl (Or.inl rfl)) (pss_cons (ps_set (i := 6) sc69.nd rfl (Or.inl rfl) (pcall C__law_random hr (pa_cons (pv 0) (pa_cons (pv 3) pa_nil)))) (pss_one (ps_if (PW.pt (pw_and (pt_cmpR op_notIn_seq (pv 6) (pv 4) (by rfl)) (pw_and1 (pt_cmpR op_lt (pe_callB call_len_seq (by rfl) T.f_len (by decide +kernel) (pa_cons (pv 4) pa_nil)) (pv 2) (nomark _))))) (pss_one (ps_expr (pe_bm PySem.F.plainAttrs_list PySem.F.slot_list_append PySem.F.type_list_append mt_append (pv 4) (pa_cons (pv 6) pa_nil)))) pss_nil)))) (pss_one (ps_ret (pe_callB cr_sorted (by rfl) T.f_sorted (by decide +kernel) (pa_cons (pv 4) pa_nil)))))), fun vs Q h => ?_⟩
  · obtain ⟨a, k, n, m, rfl, _⟩ := h
    rfl
  · obtain ⟨a, k, n, m, rfl, g, hk, hn1, hn, hm1, hm, q⟩ := h
    have h2 : (0 : Int) < 2 ^ n := Int.pow_pos (by decide)
    have h64 : (2 : Int) ^ n ≤ 2 ^ 64 := Int.le_of_dvd (AP.pow_pos 64) (AP.pow_dvd hn)
    have e64 : (2 : Int) ^ 64 = 18446744073709551616 := by decide
    have e60 : (1 : Int) * 2 ^ (60 : Int).toNat = 1152921504606846976 := by decide
    have aH : ∀ l : Addr, ∀ {H1 : Hp}, H1 l = none → Gen a k H1 → l ≠ a := fun l H1 h hg z => by
      obtain ⟨_, _, _, e, _⟩ := hg
      rw [z, e] at h
      cases h
    refine q_parX (RL := fun vs H1 => ∃ (sp : Int) (L : Addr), vs = [.int sp, .ref L] ∧ 0 < sp ∧ sp ≤ 2 ^ n ∧ L ≠ a ∧ H L = none ∧ ExN a H H1 ∧ Gen a (k + 1) H1 ∧ H1 L = some (.lst (([] : List Int).map V.int)))
      (exa_cons (R := fun v H1 => ∃ sp : Int, v = .int sp ∧ 0 < sp ∧ sp ≤ 2 ^ n ∧ ExN a H H1 ∧ Gen a (k + 1) H1) (evx_cb (RL := fun vs H1 => ∃ r : Int, vs = [.int (2 ^ n), .int r] ∧ 0 < r ∧ ExN a H H1 ∧ Gen a (k + 1) H1) (exa_cons (evx_of (ev_shl1 (n := n) rfl (by omega))) fun x H1 ⟨ex, e1⟩ =>
        exa_cons (R := fun v H2 => ∃ r : Int, v = .int r ∧ 0 < r ∧ ExN a H H2 ∧ Gen a (k + 1) H2) (evx_op (RA := fun v H2 => ∃ p, v = .ref p ∧ p ≠ a ∧ Ex H H2 ∧ Gen a k H2 ∧ H2 p = some (.lst ([20, 40, 1152921504606846976].map V.int))) (RB := fun v y H2 => ∃ (p : Addr) (i : Int), v = .ref p ∧ y = .int i ∧ 0 ≤ i ∧ i < 3 ∧ ExN a H H2 ∧ Gen a (k + 1) H2 ∧ H2 p = some (.lst ([20, 40, 1152921504606846976].map V.int)))
          ((evx_ofL (el_lst (ea_cons ev_c (ea_cons ev_c (ea_cons (ev_op ev_c ev_c (rv_I ⟨by decide, by decide, by decide⟩)) ea_nil))) (by show 3 ≤ 100000; decide))).imp fun v H2 ⟨p, ev, np, e2, hp⟩ => ⟨p, ev, aH p np (g.ex e1), e1.trans e2, g.ex (e1.trans e2), by rw [hp, e60]; rfl⟩)
          (fun x H2 ⟨p, ep, pa, e2, g2, hp⟩ => (evx_rand g2 (by omega) (ev_var rfl) ev_c (by decide) (by decide)).imp fun y H3 ⟨i, ey, i0, i1, e3, g3⟩ => ⟨p, i, ep, ey, i0, i1, (ExN.of e2).trans e3, g3, e3 p _ pa hp⟩)
          fun x y H2 ⟨p, i, ex, ey, i0, i1, e2, g2, hp⟩ Q q => ?_) fun y H2 ⟨r, ey, r0, e2, g2⟩ => exa_nil ⟨r, by rw [ex, ey], r0, e2, g2⟩) fun vs H1 ⟨r, ev, r0, e1, g1⟩ Q q => ?_)
      fun x H1 ⟨sp, ex, s0, s1, e1, g1⟩ => exa_cons (evx_ofL (el_lst ea_nil (by decide))) fun y H2 ⟨L, ey, nL, e2, hL⟩ => exa_nil ⟨sp, L, by rw [ex, ey], s0, s1, ?_, ?_, e1.trans (ExN.of e2), g1.ex e2, hL⟩) fun vs H1 ⟨sp, L, ev, s0, s1, La, nL, e1, g1, hL⟩ => ⟨_, _, ev, ?_⟩
    · subst ex
      subst ey
      obtain ⟨j, rfl⟩ : ∃ j : Nat, i = (j : Int) := ⟨i.toNat, by omega⟩
      have hj : j < 3 := by omega
      refine ⟨p, _, (j : Int), .int ([20, 40, 1152921504606846976].getD j 0), rfl, rfl, sq_of hp, at_ints (by simpa using hj), q _ H2 ⟨_, rfl, ?_, e2, g2⟩⟩
      match j, hj with
      | 0, _ => decide
      | 1, _ => decide
      | 2, _ => decide
    · subst ev
      refine ⟨_, _, rfl, q _ H1 ⟨_, rfl, ?_, ?_, e1, g1⟩⟩
      · split <;> omega
      · split <;> omega
    · intro z
      obtain ⟨_, _, _, e, _⟩ := g1
      rw [z, e] at nL
      cases nL
    · cases hH : H L with
      | none => rfl
      | some o =>
        by_cases z : L = a
        · obtain ⟨_, _, _, e, _⟩ := g1
          rw [z, e] at nL
          cases nL
        · rw [e1 L o z hH] at nL
          cases nL
    refine q_forR1 (n := 40) (ea_cons ev_c ea_nil) (by decide) (fun i σ' H' => ∃ (fd : List Int) (y5 y6 : Option V), σ' = [some (.ref a), some (.int (n : Int)), some (.int (m : Int)), some (.int sp), some (.ref L), y5, y6] ∧ H' L = some (.lst (fd.map V.int)) ∧ Gen a (k + 1 + i) H' ∧ ExN a H H' ∧ fd.Nodup ∧ (∀ z ∈ fd, 0 ≤ z ∧ z < sp) ∧ fd.length ≤ m ∧ (1 ≤ i → fd ≠ []))
      (fun H2 e2 => ⟨[], none, none, rfl, e2 L _ hL, g1.ex e2, e1.trans (ExN.of e2), List.nodup_nil, (fun z h => nomatch h), (by simp), (fun h => absurd h (by decide))⟩) (fun i σ' H' hi h => ?_) (fun σ' H' h => ?_)
    · obtain ⟨fd, y5, y6, rfl, hl, g3, e3, nd, hb, hlen, hne⟩ := h
      have hi' : i < 40 := by omega
      refine q_asgX (evx_rand g3 (by omega) (ev_var rfl) (ev_var rfl) s0 (Int.lt_of_le_of_lt s1 (by omega))) fun v H4 ⟨r, ev, r0, r1, e4, g4⟩ => ?_
      subst ev
      have hl4 := e4 L _ La hl
      refine s_when (b := !fd.contains r && decide ((fd.length : Int) < (m : Int))) (et_and (et_is (et_test (ev_op (ev_var rfl) (ev_var rfl) (rv_niL (sq_of hl4) rfl (flat_ints fd)))) (by rw [inV_ints])) (fun _ => et_test (ev_op (ev_lenI (ev_var rfl) (sq_of hl4)) (ev_var rfl) rv_I0))) (fun hc H5 e5 => ?_) (fun hc H5 e5 => ?_)
      · simp only [Bool.and_eq_true, decide_eq_true_eq] at hc
        have hnr : r ∉ fd := by
          have := hc.1
          simpa using this
        refine s_app (l := L) (e5 L _ hl4) (ev_var rfl) (ev_var rfl) (by simp; omega) fun H6 e6 => ⟨fd ++ [r], _, _, rfl, by rw [upd_same, List.map_append]; rfl, (g4.mono (e5.trans e6) (by omega)).other La, ((e3.trans e4).trans (ExN.of (e5.trans e6))).mut nL, ?_, ?_, ?_, ?_⟩
        · rw [List.nodup_append]
          exact ⟨nd, by simp, fun x hx y hy z => by rw [List.mem_singleton.mp hy] at z; rw [z] at hx; exact hnr hx⟩
        · intro z hz
          rcases List.mem_append.mp hz with h | h
          · exact hb z h
          · rw [List.mem_singleton.mp h]; exact ⟨r0, r1⟩
        · simp; omega
        · intro _; simp
      · refine ⟨fd, _, _, rfl, e5 L _ hl4, g4.mono e5 (by omega), (e3.trans e4).trans (ExN.of e5), nd, hb, hlen, fun _ z => ?_⟩
        rw [z] at hc
        simp at hc
        omega
    · obtain ⟨fd, y5, y6, rfl, hl, g3, e3, nd, hb, hlen, hne⟩ := h
      refine s_retP (evp_sortedQ (K := K) (l := fd) (Ev.p (ev_var rfl) fun H4 e4 => ⟨L, rfl, e4 L _ hl⟩) (by omega)) fun v H5 e5 r => ?_
      obtain ⟨l', p', hp, hs, rfl, np', hv⟩ := r
      refine q p' H5 l' (g3.ne np') (e3.trans (ExN.of e5)) (g3.mono e5 (by show k + 1 + 40 ≤ k + 41; omega)) ⟨fun z => hne (by decide) (by rw [z] at hp; exact hp.nil_eq.symm), ?_, asc_of hs (hp.nodup_iff.mpr nd), fun z hz => (hb z (hp.mem_iff.mp hz)).1, fun z hz => Int.lt_of_lt_of_le (hb z (hp.mem_iff.mp hz)).2 s1, hn1, hn⟩ (by rw [hp.length_eq]; exact hlen) hv
      rw [hp.length_eq]
      omega
end
end AW
end
section
set_option maxRecDepth 100000
set_option maxHeartbeats 4000000
namespace AW
open PySem PySem.Spec PyProof.Rows L2 Evl AH AP AZ AM
section
variable {P : Program} {w : World} {K : PySem.W.Frag} {mg : Str → Option Value} {base : Heap} {k : Nat}
section
variable {σ : L2.St} {H : Hp} {ta tb te : TE} {t : L2.TT}
/-- over zip(xs, ys) of lists of one length -/
theorem el_lcZ {a b : Addr} {xs ys : List V} {ta : TA} {j1 j2 : Nat} {vs : List Nat} (f : Nat → Bool) (v : Nat → V) (h : EvA ta σ H [.ref a, .ref b]) (hx : SqL K H a xs) (hy : SqL K H b ys) (hl : xs.length = ys.length) (hz : xs.length ≤ 40000)
    (hw : ∀ x y, wipe ((((wipe σ vs).set j1 (some x)).set j2 (some y))) vs = wipe σ vs) (ht : ∀ (i : Nat) (x y : V) H1, Ex H H1 → xs[i]? = some x → ys[i]? = some y → EvT t (((wipe σ vs).set j1 (some x)).set j2 (some y)) H1 (f i))
    (he : ∀ (i : Nat) (x y : V) H1, Ex H H1 → xs[i]? = some x → ys[i]? = some y → f i = true → Ev te (((wipe σ vs).set j1 (some x)).set j2 (some y)) H1 (v i)) :
    EvL (tLc (iZip K ta) (gTup K 2 (gCons (gName j1) (gCons (gName j2) gNil))) t te vs) σ H (given xs.length f v) := by
  refine el_lcT (J := fun _ => Itz K a b) f v (fun H1 e R r => h H1 e _ fun H2 e2 => ⟨a, b, xs, ys, rfl, ex_l (e.trans e2) hx, ex_l (e.trans e2) hy, r H2 e2⟩) hz
    (fun H1 H2 e1 e2 => ⟨xs, ys, ex_l (e1.trans e2) hx, ex_l (e1.trans e2) hy, .inl (Nat.le_refl _)⟩)
    (fun H1 H2 i e1 e2 hi => ⟨xs, ys, xs[i], ys[i], ex_l (e1.trans e2) hx, ex_l (e1.trans e2) hy, by simp [hi], by simp⟩) ?_
  rintro H1 H2 i x H3 e1 e2 hi ⟨T, x0, y0, rfl, hT, rfl, k1, k2⟩ Dl p
  have g1 := k1 xs (ex_l (e1.trans e2) hx)
  have g2 := k2 ys (ex_l (e1.trans e2) hy)
  refine ⟨T, [x0, y0], rfl, st_of upd_same, rfl, x0, [y0], rfl, y0, [], rfl, rfl, hw _ _, ?_⟩
  exact cw_turn (cw_new p hT) (by omega) (ht i x0 y0 H1 e1 g1 g2) fun hf => he i x0 y0 H1 e1 g1 g2 hf
/-- two that may be None or lists -/
theorem rp_eqO {u v : V} {o p : Option (List Int)} (h1 : IsOL o u H) (h2 : IsOL p v H) (hop : o = p) : RV (rEqD K) u v H (.bl true) := by
  subst hop
  cases o with
  | none =>
    rw [show u = V.non from h1, show v = V.non from h2]
    exact fun H1 e Q q => ⟨.none, .none, .non, .non, by decide, by decide, q H1 (Ex.refl _)⟩
  | some x =>
    obtain ⟨p, rfl, hp⟩ := h1
    obtain ⟨r, rfl, hr⟩ := h2
    have := rv_eqI (K := K) (sq_of hp) (sq_of hr)
    rwa [decide_eq_true rfl] at this
end
theorem sc72 : FnScope ["_law_bits", "_law_spots_here", "_law_many", "_law_line", "_law_gap", "_law_light", "_law_near", "_law_unlike", "_law_half", "_law_one", "_law_two", "_law_at"] ["_law_bits", "_law_spots_here", "_law_many", "_law_line"] (defScope (tp 72)) := ⟨rfl, rfl, rfl, by decide +kernel, rfl, by decide +kernel, by decide +kernel⟩
def sp72 : Sp := fun vs H Q _ => ∃ (n : Nat) (a b : Addr) (ps ln : List Int) (c : Nat), vs = [.int (n : Int), .ref a, .int (c : Int), .ref b] ∧ H a = some (.lst (ps.map V.int)) ∧ H b = some (.lst (ln.map V.int)) ∧ Plc n ps ∧ Wds n ps ln ∧ Facts n ps c ln ∧ ∀ H', Ex H H' → Q (.bl true) H'
theorem ok72 (T : TopT K mg) (C_distance : Cal P w K mg base k "distance" ["width", "places", "count"] [] sp41) (C_lightest : Cal P w K mg base k "lightest" ["width", "places", "count"] [] sp44) (C_mended : Cal P w K mg base k "mended" ["width", "places", "count", "words"] [] sp62) : Cal P w K mg base (k + 1) "_law_half_right" ["_law_bits", "_law_spots_here", "_law_many", "_law_line"] [] sp72 := by
  refine mkc (n := 72) T 52 52 sc72 (fun vs H Q E h => ?_) (fun _ _ _ _ _ _ us hl => match us, hl with | [_, _, _, _], _ => rfl) fun f cdv A outer s H E hr => ⟨_, (pss_cons (ps_asg (pe_tup (pa_cons (pcall C_distance hr (pa_cons (pv 0) (pa_cons (pv 1) (pa_cons (pv 2) pa_nil)))) (pa_cons (pcall C_lightest hr (pa_cons (pv 0) (pa_cons (pv 1) (pa_cons (pv 2) pa_nil)))) pa_nil))) (pg_tup rfl (pgs_cons (pg_name (i := 4) sc72.nd rfl (Or.inr rfl)) (pgs_cons (pg_name (i := 5) sc72.nd rfl (Or.inl rfl)) pgs_nil)))) (pss_cons (ps_if (pt_cmpR op_isN (pv 4) pe_non (nomark _)) (pss_one (ps_ret (pe_cmpR op_isN (pv 5) pe_non (nomark _)))) pss_nil) (pss_cons (ps_set (i := 6) sc72.nd rfl (Or.inr rfl) (pe_lc (own := [("_law_one", 9), ("_law_two", 10)]) (tt := tYes) rfl sc72.nd (pi_zip (by rfl) T.f_zip (pa_cons (pv 3) (pa_cons (pv 5) pa_nil))) (blkOk_by (own := [("_law_one", 9), ("_law_two", 10)]) (N := ["_law_bits", "_law_spots_here", "_law_many", "_law_line", "_law_gap", "_law_light", "_law_near", "_law_unlike", "_law_half", "_law_one", "_law_two", "_law_at"]) (sc := defScope (tp 72)) (by decide +kernel)) (fun _ _ _ _ _ => (pg_tupK (K := K) (n := 2) rfl rfl (pgs_cons (pg_name (i := 9) sc72.nd rfl (Or.inl rfl)) (pgs_cons (pg_name (i := 10) sc72.nd rfl (Or.inl rfl)) pgs_nil)))) (fun _ _ _ _ _ => pts_nil) (fun _ _ _ _ _ => (pe_op op_mod (pe_callTy call_int1 (by rfl) T.f_int (by decide +kernel) (pa_cons (pe_op op_add (pv 9) (pv 10)) pa_nil)) (pe_op op_shl pe_int (pv 0)))))) (pss_cons (ps_set (i := 7) sc72.nd rfl (Or.inr rfl) (pe_lc (own := [("_law_at", 11)]) (g := gName 11) rfl sc72.nd (pi_range1 (by rfl) T.f_range (pa_cons (pe_callB call_len_seq (by rfl) T.f_len (by decide +kernel) (pa_cons (pv 1) pa_nil)) pa_nil)) (blkOk_by (own := [("_law_at", 11)]) (N := ["_law_bits", "_law_spots_here", "_law_many", "_law_line", "_law_gap", "_law_light", "_law_near", "_law_unlike", "_law_half", "_law_one", "_law_two", "_law_at"]) (sc := defScope (tp 72)) (by decide +kernel)) (fun _ _ _ _ _ => (pg_name (i := 11) sc72.nd rfl (Or.inl rfl))) (fun _ _ _ _ _ => pts_one (pt_cmpR op_ne (pe_ix (ix_listK (K := K) rfl) (pv 3) (pv 11) (fun _ _ => rfl)) (pe_ix (ix_listK (K := K) rfl) (pv 6) (pv 11) (fun _ _ => rfl)) (nomark _))) (fun _ _ _ _ _ => (pv 11)))) (pss_cons (ps_if (pt_cmpR op_ne (pe_callB call_len_seq (by rfl) T.f_len (by decide +kernel) (pa_cons (pv 7) pa_nil)) (pv 4) (nomark _)) (pss_one (ps_ret pe_bl)) pss_nil) (pss_cons (ps_setLc (i := 8) (own := [("_law_at", 11)]) (g := gName 11) (tt := tYes) rfl sc72.nd rfl rfl (sw_true rfl rfl rfl (by decide +kernel)) (pi_range1 (by rfl) T.f_range (pa_cons (pe_callB call_len_seq (by rfl) T.f_len (by decide +kernel) (pa_cons (pv 1) pa_nil)) pa_nil)) (blkOk_by (own := [("_law_at", 11)]) (N := ["_law_bits", "_law_spots_here", "_law_many", "_law_line", "_law_gap", "_law_light", "_law_near", "_law_unlike", "_law_half", "_law_one", "_law_two", "_law_at"]) (sc := defScope (tp 72)) (by decide +kernel)) (fun _ _ _ _ _ => (pg_name (i := 11) sc72.nd rfl (Or.inl rfl))) (fun _ _ _ _ _ => pts_nil) (fun _ _ _ _ _ => (pe_ifExp (pt_cmpR (op_inK (K := K) rfl) (pv 11) (pe_slice (sl_listK (K := K) rfl) (pv 7) po_none (po_some (pe_op op_fdivW (pv 4) pe_int))) (by rfl)) (pe_ix (ix_listK (K := K) rfl) (pv 6) (pv 11) (fun _ _ => rfl)) (pe_ix (ix_listK (K := K) rfl) (pv 3) (pv 11) (fun _ _ => rfl))))) (pss_one (ps_ret (pe_cmpR (op_eqD hr.units) (pcall C_mended hr (pa_cons (pv 0) (pa_cons (pv 1) (pa_cons (pv 2) (pa_cons (pv 8) pa_nil))))) (pe_ifExp (pt_cmpR op_eq (pe_op op_mod (pe_callTy call_int1 (by rfl) T.f_int (by decide +kernel) (pa_cons (pv 4) pa_nil)) pe_int) pe_int (nomark _)) (pv 3) pe_non) (nomark _)))))))))), fun vs Q h => ?_⟩
  · obtain ⟨n, a, b, ps, ln, c, rfl, _⟩ := h
    rfl
  · obtain ⟨n, a, b, ps, ln, c, rfl, ha, hb, p, pw, F, q⟩ := h
    obtain ⟨item, l1, l2, l3, l4⟩ := F.light
    have hlen : ln.length = ps.length := pw.len
    have hrg : ∀ z ∈ ln, 0 ≤ z ∧ z < 2 ^ n := fun z hz => ⟨pw.lo z hz, pw.hi z hz⟩
    have htl : (lightW n ps (kc n (row ps).2 c) item).length = ln.length := by unfold lightW lightU hid; simp [hlen]
    have hwr : ∀ z ∈ lightW n ps (kc n (row ps).2 c) item, 0 ≤ z ∧ z < 2 ^ n := fun z hz => by
      unfold lightW at hz
      obtain ⟨y, _, e⟩ := List.mem_map.mp hz
      rw [← e]
      exact ⟨Int.emod_nonneg _ (AP.pow_ne n), Int.emod_lt_of_pos _ (AP.pow_pos n)⟩
    have hlaw := half_law (item := item) F hlen hrg htl hwr l4
    have hu := unl_len htl hrg hwr
    rw [l4] at hu
    have k1 := F.k1
    have fne := F.ne
    have hDn : (lostL ps (kc n (row ps).2 c)).length ≤ ps.length := lostL_len ps _
    have hDp := List.length_pos_iff.mpr fne
    have pl := p.len
    generalize hlw : lightW n ps (kc n (row ps).2 c) item = lt at *
    generalize hD : (lostL ps (kc n (row ps).2 c)).length = D at *
    refine q_unp2 (R := fun x y H' => x = .int (D : Int) ∧ IsIL lt y H') (evp_tup (RA := fun vs H' => ∃ g : Addr, vs = [.int (D : Int), .ref g] ∧ H' g = some (.lst (lt.map V.int))) (eap_cons (R := fun u _ => u = .int (D : Int)) (Ev.p (ev_call (z := distV ps (kc n (row ps).2 c)) (ea_cons (ev_var rfl) (ea_cons (ev_var rfl) (ea_cons (ev_var rfl) ea_nil))) fun H1 e1 Q q E => ⟨n, a, ps, c, rfl, e1 a _ ha, p, q⟩) fun _ _ => ?_)
      fun u1 H1 e1 r1 => eap_cons (R := IsIL lt) (evp_callA (ea_cons (ev_var rfl) (ea_cons (ev_var rfl) (ea_cons (ev_var rfl) ea_nil))) fun H2 e2 Q q E => ⟨n, a, ps, c, item, rfl, e2 a _ (e1 a _ ha), p, fun _ => ⟨l1, l2, l3⟩, fun v H3 e3 r => q v H3 e3 (by rw [if_neg (by omega), hlw] at r; exact r)⟩) fun u2 H2 e2 r2 => eap_nil fun H3 e3 => ?_) fun vs H1 e1 r => ?_) fun x y H1 e1 r => ?_
    · unfold distV
      rw [if_neg (by omega), hD]
    · obtain ⟨g, rfl, hg⟩ := r2
      exact ⟨g, by rw [r1], e3 g _ hg⟩
    · obtain ⟨g, rfl, hg⟩ := r
      exact ⟨by show 2 ≤ 100000; decide, fun t nt => ⟨t, _, _, rfl, upd_same, rfl, g, rfl, Ex.new nt g _ hg⟩⟩
    obtain ⟨rfl, ⟨lp, rfl, hlt⟩⟩ := r
    have c1 : ∀ n : Nat, n ≤ 64 → CPow (1 : Int) (n : Int) := fun n h => ⟨by omega, by omega, by decide⟩
    refine q_when (b := false) (et_test (ev_op (ev_var rfl) ev_c (rv_val fun H1 e Q q => ⟨rfl, q⟩))) (fun c => nomatch c) (fun _ H2 e2 => ?_)
    have e12 := e1.trans e2
    refine q_asgL (xs := (nearW n ln lt).map V.int) (el_is (el_lcZ (fun _ => true) (fun i => .int ((ln.getD i 0 + lt.getD i 0) % 2 ^ n)) (ea_cons (ev_var rfl) (ea_cons (ev_var rfl) ea_nil)) (sq_of (e12 b _ hb)) (sq_of (e2 lp _ hlt)) (by simp [htl]) (by simp; omega) (fun _ _ => rfl) (fun _ _ _ _ _ _ _ => et_yes) (fun i x y H3 e3 hx hy _ => ?_)) ?_) fun np H3 nn e3 hn3 => ?_
    · obtain ⟨x, _, rfl, _, hx⟩ := ix_ints hx
      obtain ⟨y, _, rfl, _, hy⟩ := ix_ints hy
      rw [hx, hy]
      exact ev_op (ev_int (ev_op (ev_var rfl) (ev_var rfl) rv_I0)) (ev_shl1 (n := n) rfl (by have := p.w64; omega)) (rv_I (Int.pow_pos (by decide)))
    · rw [given_true, List.length_map]
      unfold nearW
      rw [List.map_map]
      rfl
    have e13 := e12.trans e3
    have nln : (nearW n ln lt).length = ln.length := by unfold nearW; simp
    generalize hnr : nearW n ln lt = nr at *
    refine q_asgL (xs := (natL (unl ln nr)).map V.int) (el_is (el_lcR1 (n := (ps.length : Int)) (fun i => !decide (ln.getD i 0 = nr.getD i 0)) (fun i => .int (i : Int)) (ea_cons (ev_lenI (ev_var rfl) (sq_of (e13 a _ ha))) ea_nil) (by omega) (fun _ => rfl) (fun i H4 e4 hi => et_is (et_test (ev_op (ev_op (ev_var rfl) (ev_var rfl) (rv_ixL (sq_of (e4 b _ (e13 b _ hb))) (at_ints (by omega)))) (ev_op (ev_var rfl) (ev_var rfl) (rv_ixL (sq_of (e4 np _ hn3)) (at_ints (by omega)))) (rv_ne rfl))) (by simp))
      (fun i H4 e4 hi _ => ev_var rfl)) ?_) fun up H4 nu e4 hu4 => ?_
    · unfold given natL unl
      rw [Int.toNat_natCast, ← hlen, List.map_map]
      rfl
    have e14 := e13.trans e4
    refine q_when (b := false) (et_is (et_test (ev_op (ev_lenI (ev_var rfl) (sq_of hu4)) (ev_var rfl) (rv_ne rfl))) (by unfold natL; simp [hu])) (fun c => nomatch c) (fun _ H5 e5 => ?_)
    have e15 := e14.trans e5
    have hflat : ((natL ((unl ln nr).take (D / 2))).map V.int).all flatV = true := flat_ints _
    have hevc : ∀ (σ2 : L2.St) (H6 : Hp) (i : Nat), Ex H5 H6 → σ2[4]? = some (some (.int (D : Int))) → σ2[7]? = some (some (.ref up)) → σ2[11]? = some (some (.int (i : Int))) → EvT (tTest (tOp (rIn K false) (tVar 11) (tSl (rSlL K) (tVar 7) tNoPart (tPart (tOp (rI CDivW fun i j => .int (i / j)) (tVar 4) (tC (.int 2))))))) σ2 H6 (((unl ln nr).take (D / 2)).contains i) := fun σ2 H6 i e6 h4 h7 h11 => by
      refine et_is (et_test (ev_opL (xs := (natL ((unl ln nr).take (D / 2))).map V.int) (ev_var h11) (el_is (el_take (k := D / 2) (ev_var h7) (ev_is (ev_op (ev_var h4) ev_c (rv_I ⟨by decide, by decide⟩)) (by congr 1)) (sq_of (e6 up _ (e5 up _ hu4)))) (by rw [show (natL (unl ln nr)).take (D / 2) = natL ((unl ln nr).take (D / 2)) by unfold natL; rw [List.map_take]])) fun p7 H7 h7 e7 => rv_isL (sq_of h7) rfl hflat)) ?_
      rw [inV_ints]
      generalize (unl ln nr).take (D / 2) = l
      unfold natL
      by_cases hm : i ∈ l
      · rw [List.contains_iff_mem.mpr hm]
        exact List.contains_iff_mem.mpr (List.mem_map.mpr ⟨i, hm, rfl⟩)
      · have : (i : Int) ∉ l.map fun (i : Nat) => (i : Int) := fun h => by
          obtain ⟨j, hj, e⟩ := List.mem_map.mp h
          exact hm (by rw [show i = j by omega]; exact hj)
        simp [hm, this]
    refine q_asgL (xs := (half ln nr (D / 2)).map V.int) (el_is (el_lcR1 (n := (ps.length : Int)) (fun _ => true) (fun i => .int (if ((unl ln nr).take (D / 2)).contains i then nr.getD i 0 else ln.getD i 0)) (ea_cons (ev_lenI (ev_var rfl) (sq_of (e15 a _ ha))) ea_nil) (by omega) (fun _ => rfl) (fun _ _ _ _ => et_yes) (fun i H6 e6 hi _ => ?_)) ?_) fun hp H6 nh e6 hh => ?_
    · refine ev_if (b := ((unl ln nr).take (D / 2)).contains i) (hevc _ H6 i e6 rfl rfl rfl) (fun hc => ?_) (fun hc => ?_)
      · rw [hc]
        exact ev_op (ev_var rfl) (ev_var rfl) (rv_ixL (sq_of (e6 np _ ((e4.trans e5) np _ hn3))) (at_ints (by omega)))
      · rw [hc]
        exact ev_op (ev_var rfl) (ev_var rfl) (rv_ixL (sq_of (e6 b _ (e15 b _ hb))) (at_ints (by omega)))
    · rw [given_true, Int.toNat_natCast, ← hlen]
      unfold half
      rw [List.map_map]
      rfl
    have e16 := e15.trans e6
    have hhw : Wds n ps (half ln nr (D / 2)) := by
      have hz : ∀ z ∈ half ln nr (D / 2), 0 ≤ z ∧ z < 2 ^ n := fun z hz => by
        unfold half at hz
        obtain ⟨i, hi, e⟩ := List.mem_map.mp hz
        have hi := List.mem_range.mp hi
        have m1 : ln.getD i 0 ∈ ln := by rw [List.getD_eq_getElem?_getD, List.getElem?_eq_getElem hi]; exact List.getElem_mem hi
        rw [← e]
        split
        · rw [← hnr]
          unfold nearW
          rw [getD_map_range hi]
          exact ⟨Int.emod_nonneg _ (AP.pow_ne n), Int.emod_lt_of_pos _ (AP.pow_pos n)⟩
        · exact hrg _ m1
      exact ⟨by unfold half; simp [hlen], fun z h => (hz z h).1, fun z h => (hz z h).2⟩
    refine s_retP (R := fun v _ => v = .bl true) (evp_op (RA := IsOL (mendd n ps c (half ln nr (D / 2)))) (evp_callA (ea_cons (ev_var rfl) (ea_cons (ev_var rfl) (ea_cons (ev_var rfl) (ea_cons (ev_var rfl) ea_nil)))) fun H7 e7 Q q E => ⟨n, a, hp, ps, _, c, rfl, e7 a _ (e16 a _ ha), e7 hp _ hh, p, hhw, k1, fne, fun v H8 e8 r => q v H8 e8 r⟩) fun x H7 e7 r => ?_) fun v H7 e7 r => by rw [r]; exact q H7 (e16.trans e7)
    rw [hlaw] at r
    refine (evp_if (b := decide (D % 2 = 1)) (R := IsOL (if D % 2 = 1 then some ln else none)) (et_is (et_test (ev_op (ev_op (ev_int (ev_var rfl)) ev_c (rv_I (by decide))) ev_c (rv_eq rfl))) (by apply decide_eq_decide.mpr; simp; omega)) (fun hc => ?_) (fun hc => ?_)).imp fun y H8 e8 r2 => rp_of (rp_eqO (r.mono e8) r2 rfl) fun _ _ => rfl
    · rw [if_pos (of_decide_eq_true hc)]
      exact Ev.p (ev_var rfl) fun H8 e8 => ⟨b, rfl, e8 b _ (e7 b _ (e16 b _ hb))⟩
    · rw [if_neg (of_decide_eq_false hc)]
      exact Ev.p ev_c fun H8 e8 => rfl
end
end AW
end
section
set_option maxRecDepth 100000
set_option maxHeartbeats 4000000
namespace AW
open PySem PySem.Spec PyProof.Rows L2 Evl AH AP AZ AM
/-- all but a and l is kept -/
def Ex2 (a l : Addr) (H H' : Hp) : Prop := ∀ b o, b ≠ a → b ≠ l → H b = some o → H' b = some o
theorem Ex2.refl (a l : Addr) (H : Hp) : Ex2 a l H H := fun _ _ _ _ h => h
theorem Ex2.trans {a l : Addr} {H H1 H2 : Hp} (x : Ex2 a l H H1) (y : Ex2 a l H1 H2) : Ex2 a l H H2 := fun b o h1 h2 h => y b o h1 h2 (x b o h1 h2 h)
theorem Ex2.of {a l : Addr} {H H' : Hp} (e : ExN a H H') : Ex2 a l H H' := fun b o h _ x => e b o h x
theorem Ex2.wr (a l : Addr) (H : Hp) (o : HO) : Ex2 a l H (upd H l o) := fun b u _ hb h => by rw [upd_ne hb]; exact h
theorem Ex2.mut {a l d : Addr} {H H' : Hp} {o : HO} (e : Ex2 a l H H') (h : H d = none) : Ex2 a l H (upd H' d o) := fun b u h1 h2 x => by
  rw [upd_ne fun z => by rw [z, h] at x; cases x]
  exact e b u h1 h2 x
theorem Ex2.exn {a l : Addr} {H H' : Hp} (e : Ex2 a l H H') (h : H l = none) : ExN a H H' := fun b u h1 x => e b u h1 (fun z => by rw [z, h] at x; cases x) x
theorem exn_back {a l : Addr} {H H' : Hp} (e : ExN a H H') (h : H' l = none) (hn : l ≠ a) : H l = none := by
  cases q : H l with
  | none => rfl
  | some o => rw [e l o hn q] at h; cases h
section
variable {P : Program} {w : World} {K : PySem.W.Frag} {mg : Str → Option Value} {base : Heap} {k : Nat}
section
variable {σ : L2.St} {H : Hp} {te ta tb : TE} {tr : TA} {D : Ends} {tz tu : TS} {R RA : V → Hp → Prop} {RL : List V → Hp → Prop}
/-- a comprehension over a range whose turns draw -/
theorem evx_lcD {ta : TA} {j n : Nat} {vs : List Nat} (mu : Addr → Prop) (I : Nat → List V → Hp → Prop) (h : EvA ta σ H [.int (n : Int)]) (hn : n ≤ 1000) (hmu : ∀ b, mu b → ∃ o, H b = some o) (h0 : ∀ H1, Ex H H1 → I 0 [] H1)
    (hst : ∀ i ys H' Dl o, H Dl = none → I i ys H' → I i ys (upd H' Dl o)) (hw : ∀ x, wipe ((wipe σ vs).set j (some x)) vs = wipe σ vs)
    (hs : ∀ i ys H', i < n → ys.length = i → I i ys H' → EvX te ((wipe σ vs).set j (some (.int (i : Int)))) H' fun y H2 => (∀ b o, ¬ mu b → H' b = some o → H2 b = some o) ∧ I (i + 1) (ys ++ [y]) H2) :
    EvX (tLc (iRng1 ta) (gName j) tYes te vs) σ H fun v H2 => ∃ (p : Addr) (ys : List V), v = .ref p ∧ H p = none ∧ ys.length = n ∧ H2 p = some (.lst ys) ∧ I n ys H2 := fun Q q => h H (Ex.refl H) _ fun H1 e1 => ⟨(n : Int), rfl, by omega, by omega, fun Dl hD => by
  have hD0 := fresh_back e1 hD
  have hDm : ¬ mu Dl := fun x => by
    obtain ⟨o, e⟩ := hmu Dl x
    rw [hD0] at e
    cases e
  refine lc_range (lo := 0) (n := (n : Int).toNat) (fun i H' => ∃ ys : List V, H' Dl = some (.lst ys) ∧ ys.length = i ∧ I i ys H') ⟨[], upd_same, rfl, hst 0 [] H1 Dl _ hD0 (h0 H1 e1)⟩ (fun i H' hi p => ?_) (fun H' p => ?_)
  · obtain ⟨ys, h1, h2, h3⟩ := p
    have e0 : (0 : Int) + (i : Int) = (i : Int) := Int.zero_add _
    rw [e0]
    refine ⟨hw _, ?_⟩
    show te ((wipe σ vs).set j (some (.int (i : Int)))) H' _
    refine hs i ys H' (by omega) h2 h3 _ fun y H4 r => ?_
    exact ⟨ys, r.1 Dl _ hDm h1, sz_lt (by omega), ys ++ [y], upd_same, by simp [h2], hst _ _ _ Dl _ hD0 r.2⟩
  · obtain ⟨ys, h1, h2, h3⟩ := p
    rw [Int.toNat_natCast] at h2 h3
    exact q _ H' ⟨Dl, ys, rfl, hD0, h2, h1, h3⟩⟩
theorem evx_tup (h : EvXA tr σ H RL) (hr : ∀ vs H1, RL vs H1 → vs.length ≤ 100000 ∧ ∀ p, H1 p = none → R (.ref p) (upd H1 p (.tup vs))) : EvX (tTup tr) σ H R := fun Q q => h _ fun vs H1 r => ⟨sz_of (hr vs H1 r).1, fun p np => q _ _ ((hr vs H1 r).2 p np)⟩
theorem q_unp2X {i j : Nat} {R : V → V → Hp → Prop} (h : EvX te σ H fun v H' => ∃ t x y, v = .ref t ∧ H' t = some (.tup [x, y]) ∧ R x y H') (k : ∀ x y H1, R x y H1 → tz D ((σ.set i (some x)).set j (some y)) H1) : tSeq (tAsg te (gTup K 2 (gCons (gName i) (gCons (gName j) gNil)))) tz D σ H :=
  h _ fun v H1 ⟨t, x, y, e1, h1, r⟩ => ⟨t, [x, y], e1, st_of h1, rfl, x, [y], rfl, y, [], rfl, rfl, k x y H1 r⟩
theorem q_unp3 {i j l : Nat} {R : V → V → V → Hp → Prop} (h : EvP te σ H fun v H' => ∃ t x y z, v = .ref t ∧ H' t = some (.tup [x, y, z]) ∧ R x y z H') (k : ∀ x y z H1, Ex H H1 → R x y z H1 → tz D (((σ.set i (some x)).set j (some y)).set l (some z)) H1) : tSeq (tAsg te (gTup K 3 (gCons (gName i) (gCons (gName j) (gCons (gName l) gNil))))) tz D σ H :=
  h H (Ex.refl H) _ fun v H1 e ⟨t, x, y, z, e1, h1, r⟩ => ⟨t, [x, y, z], e1, st_of h1, rfl, x, [y, z], rfl, y, [z], rfl, z, [], rfl, rfl, k x y z H1 e r⟩
theorem el_listRg1 {n : Int} (ha : Ev ta σ H (.int n)) (ok : RgOk 0 n) : EvL (tLstRg (tRg1 ta)) σ H (rgV 0 n) := fun H1 e Q q => ha H1 e _ fun H2 e2 => ⟨n, rfl, ok, fun p np => q p _ (fresh_back e2 np) (e2.trans (Ex.new np)) upd_same⟩
theorem et_testP {b : Bool} (h : EvP te σ H fun v _ => v = .bl b) : EvT (tTest te) σ H b := fun H1 e Q q => h H1 e _ fun v H2 e2 r => ⟨b, r, q H2 e2⟩
theorem rp_neO {u v : V} {o p : List Int} (h1 : IsIL o u H) (h2 : IsIL p v H) : RV (rNeD K) u v H (.bl (!decide (o = p))) := by
  obtain ⟨p, rfl, hp⟩ := h1
  obtain ⟨r, rfl, hr⟩ := h2
  exact rv_neI (sq_of hp) (sq_of hr)
end
theorem natL_get {l : List Nat} {i : Nat} (h : i < l.length) : ((natL l).map V.int)[i]? = some (.int (l[i] : Int)) := by
  unfold natL
  simp [h]
end
end AW
end
section
set_option maxRecDepth 100000
set_option maxHeartbeats 4000000
namespace AW
open PySem PySem.Spec PyProof.Rows L2 Evl AH AP AZ AM
/-- what the mathematics gives -/
def MainF : Prop := ∀ (n : Nat) (ps pw : List Int), Plc n ps → 1 ≤ pw.length → pw.length ≤ 3 → Facts n ps pw.length (ps.map (polyW n pw))
section
variable {P : Program} {w : World} {K : PySem.W.Frag} {mg : Str → Option Value} {base : Heap} {k : Nat}
theorem sc71 : FnScope ["_law_generator_here", "_law_bits", "_law_spots_here", "_law_many", "_law_line", "_law_most", "_law_left", "_law_bad", "_law_wrong", "_law_at", "_law_power", "_law_turn"] ["_law_generator_here"] (defScope (tp 71)) := ⟨rfl, rfl, rfl, by decide +kernel, rfl, by decide +kernel, by decide +kernel⟩
def sp71 : Sp := fun vs H Q _ => ∃ (a : Addr) (k : Nat), vs = [.ref a] ∧ Gen a k H ∧ k ≤ 100 ∧ ∀ H', ExN a H H' → Q (.bl true) H'
theorem ok71 (M : MainF) (T : TopT K mg) (C__law_random : Cal P w K mg base k "_law_random" ["_law_generator_here", "_law_bound"] [] sp66) (C__law_spots : Cal P w K mg base k "_law_spots" ["_law_generator_here", "_law_bits", "_law_many"] [] sp69) (C__law_words : Cal P w K mg base k "_law_words" ["_law_bits", "_law_spots_here", "_law_powers_told"] [] sp70) (C_mendable : Cal P w K mg base k "mendable" ["width", "places", "count"] [] sp56)
    (C_mended : Cal P w K mg base k "mended" ["width", "places", "count", "words"] [] sp62) (C_wrong_at : Cal P w K mg base k "wrong_at" ["width", "places", "count", "words"] [] sp63) (C__law_half_right : Cal P w K mg base k "_law_half_right" ["_law_bits", "_law_spots_here", "_law_many", "_law_line"] [] sp72) : Cal P w K mg base (k + 1) "_law_right" ["_law_generator_here"] [] sp71 := by
  refine mkc (n := 71) T 51 51 sc71 (fun vs H Q E h => ?_) (fun _ _ _ _ _ _ us hl => match us, hl with | [_], _ => rfl) fun f cdv A outer s H E hr => ⟨_, (pss_cons (ps_set (i := 1) sc71.nd rfl (Or.inl rfl) (pe_ix ix_list (pe_lst (pa_cons pe_int (pa_cons pe_int (pa_cons pe_int (pa_cons pe_int (pa_cons pe_int (pa_cons pe_int pa_nil))))))) (pcall C__law_random hr (pa_cons (pv 0) (pa_cons pe_int pa_nil))) (fun _ _ => rfl))) (pss_cons (ps_asg (pe_tup (pa_cons (pcall C__law_spots hr (pa_cons (pv 0) (pa_cons (pv 1) (pa_cons (pe_op op_add pe_int (pcall C__law_random hr (pa_cons (pv 0) (pa_cons pe_int pa_nil)))) pa_nil)))) (pa_cons (pe_op op_add pe_int (pcall C__law_random hr (pa_cons (pv 0) (pa_cons pe_int pa_nil)))) pa_nil))) (pg_tup rfl (pgs_cons (pg_name (i := 2) sc71.nd rfl (Or.inr rfl)) (pgs_cons (pg_name (i := 3) sc71.nd rfl (Or.inl rfl)) pgs_nil)))) (pss_cons (ps_set (i := 4) sc71.nd rfl (Or.inl rfl) (pcall C__law_words hr (pa_cons (pv 1) (pa_cons (pv 2) (pa_cons (pe_lc (own := [("_law_power", 10)]) (g := gName 10) (tt := tYes) rfl sc71.nd (pi_range1 (by rfl) T.f_range (pa_cons (pv 3) pa_nil)) (blkOk_by (own := [("_law_power", 10)]) (N := ["_law_generator_here", "_law_bits", "_law_spots_here", "_law_many", "_law_line", "_law_most", "_law_left", "_law_bad", "_law_wrong", "_law_at", "_law_power", "_law_turn"]) (sc := defScope (tp 71)) (by decide +kernel)) (fun _ _ _ _ _ => (pg_name (i := 10) sc71.nd rfl (Or.inl rfl))) (fun _ _ _ _ _ => pts_nil) (fun _ _ _ _ _ => (pe_op op_sub (pcall C__law_random hr (pa_cons (pv 0) (pa_cons (pe_op op_pow pe_int pe_int) pa_nil))) (pe_op op_pow pe_int pe_int)))) pa_nil))))) (pss_cons (ps_asg (pe_tup (pa_cons (pcall C_mendable hr (pa_cons (pv 1) (pa_cons (pv 2) (pa_cons (pv 3) pa_nil)))) (pa_cons (pe_listRg rfl (by rfl) T.f_list (prg_1 (by rfl) T.f_range (pe_callB call_len_seq (by rfl) T.f_len (by decide +kernel) (pa_cons (pv 2) pa_nil)))) (pa_cons (pe_callTy call_list_of (by rfl) T.f_list (by decide +kernel) (pa_cons (pv 4) pa_nil)) pa_nil)))) (pg_tup rfl (pgs_cons (pg_name (i := 5) sc71.nd rfl (Or.inl rfl)) (pgs_cons (pg_name (i := 6) sc71.nd rfl (Or.inr rfl)) (pgs_cons (pg_name (i := 7) sc71.nd rfl (Or.inl rfl)) pgs_nil))))) (pss_cons (ps_set (i := 8) sc71.nd rfl (Or.inl rfl) (pe_callB cr_sorted (by rfl) T.f_sorted (by decide +kernel) (pa_cons (pe_lc (own := [("_law_turn", 11)]) (g := gName 11) (tt := tYes) rfl sc71.nd (pi_range1 (by rfl) T.f_range (pa_cons (pe_callB (call_min2 rfl) (by rfl) T.f_min (by decide +kernel) (pa_cons (pv 5) (pa_cons (pe_callB call_len_seq (by rfl) T.f_len (by decide +kernel) (pa_cons (pv 2) pa_nil)) pa_nil))) pa_nil)) (blkOk_by (own := [("_law_turn", 11)]) (N := ["_law_generator_here", "_law_bits", "_law_spots_here", "_law_many", "_law_line", "_law_most", "_law_left", "_law_bad", "_law_wrong", "_law_at", "_law_power", "_law_turn"]) (sc := defScope (tp 71)) (by decide +kernel)) (fun _ _ _ _ _ => (pg_name (i := 11) sc71.nd rfl (Or.inl rfl))) (fun _ _ _ _ _ => pts_nil) (fun _ _ _ _ _ => (AM.pe_bmK (K := K) rfl PySem.F.plainAttrs_list PySem.F.slot_list_pop PySem.F.type_list_pop mt_popAt (pv 6) (pa_cons (pcall C__law_random hr (pa_cons (pv 0) (pa_cons (pe_callB (call_lenK (K := K) rfl) (by rfl) T.f_len (by decide +kernel) (pa_cons (pv 6) pa_nil)) pa_nil))) pa_nil)))) pa_nil))) (pss_cons (ps_for PassesOwn.never rfl (pi_list (pv 8)) (pg_name (i := 9) sc71.nd rfl (Or.inl rfl)) (pss_one (ps_asg (pe_op op_mod (pe_callTy call_int1 (by rfl) T.f_int (by decide +kernel) (pa_cons (pe_op op_add (pe_op op_add (pe_ix ix_list (pv 7) (pv 9) (fun _ _ => rfl)) pe_int) (pcall C__law_random hr (pa_cons (pv 0) (pa_cons (pe_op op_sub (pe_op op_shl pe_int (pv 1)) pe_int) pa_nil)))) pa_nil)) (pe_op op_shl pe_int (pv 1))) (pg_sub (pv 7) (pv 9) set_list)))) (pss_cons (ps_if (PW.pt (pw_or (pt_cmpR (op_neD hr.units) (pcall C_mended hr (pa_cons (pv 1) (pa_cons (pv 2) (pa_cons (pv 3) (pa_cons (pv 7) pa_nil))))) (pv 4) (nomark _)) (pw_or1 (pt_cmpR (op_neD hr.units) (pcall C_mended hr (pa_cons (pv 1) (pa_cons (pv 2) (pa_cons (pv 3) (pa_cons (pv 4) pa_nil))))) (pv 4) (nomark _))))) (pss_one (ps_ret pe_bl)) pss_nil) (pss_cons (ps_if (PW.pt (pw_or (pt_cmpR (op_neD hr.units) (pcall C_wrong_at hr (pa_cons (pv 1) (pa_cons (pv 2) (pa_cons (pv 3) (pa_cons (pv 7) pa_nil))))) (pe_lc (own := [("_law_at", 9)]) (g := gName 9) (tt := tYes) rfl sc71.nd (pi_list (pv 8)) (blkOk_by (own := [("_law_at", 9)]) (N := ["_law_generator_here", "_law_bits", "_law_spots_here", "_law_many", "_law_line", "_law_most", "_law_left", "_law_bad", "_law_wrong", "_law_at", "_law_power", "_law_turn"]) (sc := defScope (tp 71)) (by decide +kernel)) (fun _ _ _ _ _ => (pg_name (i := 9) sc71.nd rfl (Or.inl rfl))) (fun _ _ _ _ _ => pts_nil) (fun _ _ _ _ _ => (pe_ix (ix_listK (K := K) rfl) (pv 2) (pv 9) (fun _ _ => rfl)))) (nomark _)) (pw_or1 (pt_cmpR (op_neD hr.units) (pcall C_wrong_at hr (pa_cons (pv 1) (pa_cons (pv 2) (pa_cons (pv 3) (pa_cons (pv 4) pa_nil))))) (pe_lst pa_nil) (nomark _))))) (pss_one (ps_ret pe_bl)) pss_nil) (pss_one (ps_ret (pcall C__law_half_right hr (pa_cons (pv 1) (pa_cons (pv 2) (pa_cons (pv 3) (pa_cons (pv 4) pa_nil))))))))))))))), fun vs Q h => ?_⟩
  · obtain ⟨a, k, rfl, _⟩ := h
    rfl
  · obtain ⟨a, k, rfl, g, hk, q⟩ := h
    -- the width
    refine q_asgX (R := fun v H1 => ∃ n : Nat, v = .int (n : Int) ∧ 1 ≤ n ∧ n ≤ 64 ∧ ExN a H H1 ∧ Gen a (k + 1) H1) (evx_op (RA := fun v H2 => ∃ p, v = .ref p ∧ p ≠ a ∧ Ex H H2 ∧ Gen a k H2 ∧ H2 p = some (.lst (([4, 5, 8, 16, 32, 64] : List Int).map V.int))) (RB := fun v y H2 => ∃ (p : Addr) (i : Int), v = .ref p ∧ y = .int i ∧ 0 ≤ i ∧ i < 6 ∧ ExN a H H2 ∧ Gen a (k + 1) H2 ∧ H2 p = some (.lst (([4, 5, 8, 16, 32, 64] : List Int).map V.int)))
      ((evx_ofL (el_lst (ea_cons ev_c (ea_cons ev_c (ea_cons ev_c (ea_cons ev_c (ea_cons ev_c (ea_cons ev_c ea_nil)))))) (by show 6 ≤ 100000; decide))).imp fun v H2 ⟨p, ev, np, e2, hp⟩ => ⟨p, ev, g.ne np, e2, g.ex e2, hp⟩)
      (fun x H2 ⟨p, ep, pa, e2, g2, hp⟩ => (evx_rand g2 (by omega) (ev_var rfl) ev_c (by decide) (by decide)).imp fun y H3 ⟨i, ey, i0, i1, e3, g3⟩ => ⟨p, i, ep, ey, i0, i1, (ExN.of e2).trans e3, g3, e3 p _ pa hp⟩)
      fun x y H2 ⟨p, i, ex, ey, i0, i1, e2, g2, hp⟩ Q q => ?_) fun v H1 ⟨n, ev, n1, n64, e1, g1⟩ => ?_
    · subst ex
      subst ey
      obtain ⟨j, rfl⟩ : ∃ j : Nat, i = (j : Int) := ⟨i.toNat, by omega⟩
      have hj : j < 6 := by omega
      refine ⟨p, _, (j : Int), .int (([4, 5, 8, 16, 32, 64] : List Int).getD j 0), rfl, rfl, sq_of hp, at_ints (by simpa using hj), q _ H2 ?_⟩
      match j, hj with
      | 0, _ => exact ⟨4, rfl, by decide, by decide, e2, g2⟩
      | 1, _ => exact ⟨5, rfl, by decide, by decide, e2, g2⟩
      | 2, _ => exact ⟨8, rfl, by decide, by decide, e2, g2⟩
      | 3, _ => exact ⟨16, rfl, by decide, by decide, e2, g2⟩
      | 4, _ => exact ⟨32, rfl, by decide, by decide, e2, g2⟩
      | 5, _ => exact ⟨64, rfl, by decide, by decide, e2, g2⟩
    subst ev
    -- the places, how many items
    refine q_unp2X (R := fun x y H2 => ∃ (ps : List Int) (c : Nat) (pp : Addr), x = .ref pp ∧ pp ≠ a ∧ H2 pp = some (.lst (ps.map V.int)) ∧ y = .int (c : Int) ∧ 1 ≤ c ∧ c ≤ 3 ∧ Plc n ps ∧ ExN a H H2 ∧ Gen a (k + 44) H2) (evx_tup (RL := fun vs H2 => ∃ (pp : Addr) (ps : List Int) (c : Nat), vs = [.ref pp, .int (c : Int)] ∧ pp ≠ a ∧ H2 pp = some (.lst (ps.map V.int)) ∧ 1 ≤ c ∧ c ≤ 3 ∧ Plc n ps ∧ ExN a H H2 ∧ Gen a (k + 44) H2)
      (exa_cons (R := fun x H2 => ∃ (ps : List Int) (pp : Addr), x = .ref pp ∧ pp ≠ a ∧ H2 pp = some (.lst (ps.map V.int)) ∧ Plc n ps ∧ ExN a H H2 ∧ Gen a (k + 43) H2) (evx_call (RL := fun vs H2 => ∃ m : Nat, vs = [.ref a, .int (n : Int), .int (m : Int)] ∧ 1 ≤ m ∧ m ≤ 8 ∧ ExN a H H2 ∧ Gen a (k + 2) H2) (exa_cons (evx_of (v := .ref a) (ev_var rfl)) fun x H2 ⟨ex, e2⟩ => exa_cons (evx_of (v := .int (n : Int)) (ev_var rfl)) fun y H3 ⟨ey, e3⟩ => exa_cons (R := fun v H4 => ∃ m : Nat, v = .int (m : Int) ∧ 1 ≤ m ∧ m ≤ 8 ∧ ExN a H H4 ∧ Gen a (k + 2) H4)
        (evx_op (evx_of (v := .int 3) ev_c) (fun u H4 ⟨eu, e4⟩ => (evx_rand (g1.ex (e2.trans (e3.trans e4))) (by omega) (ev_var rfl) ev_c (b := 6) (by decide) (by decide)).imp (R' := fun y H5 => ∃ r : Int, u = .int 3 ∧ y = .int r ∧ 0 ≤ r ∧ r < 6 ∧ ExN a H H5 ∧ Gen a (k + 2) H5) fun y H5 ⟨r, ey, r0, r1, e5, g5⟩ => ⟨r, eu, ey, r0, r1, e1.trans ((ExN.of (e2.trans (e3.trans e4))).trans e5), g5⟩) fun u y H5 ⟨r, eu, ey, r0, r1, e5, g5⟩ Q q => by
          subst eu
          subst ey
          exact ⟨3, r, rfl, rfl, q _ H5 ⟨(3 + r).toNat, by rw [Int.toNat_of_nonneg (by omega)], by omega, by omega, e5, g5⟩⟩) fun z H4 ⟨m, ez, m1, m8, e4, g4⟩ => exa_nil ⟨m, by rw [ex, ey, ez], m1, m8, e4, g4⟩)
        fun vs H2 ⟨m, ev, m1, m8, e2, g2⟩ Q q => by
          subst ev
          exact ⟨a, k + 2, n, m, rfl, g2, by omega, n1, n64, m1, m8, fun pp H3 ps pa e3 g3 hp hl hv => q _ H3 ⟨ps, pp, rfl, pa, hv, hp, e2.trans e3, g3⟩⟩)
        fun x H2 ⟨ps, pp, ex, pa, hx, hp, e2, g2⟩ => exa_cons (R := fun v H3 => ∃ c : Nat, v = .int (c : Int) ∧ 1 ≤ c ∧ c ≤ 3 ∧ ExN a H2 H3 ∧ Gen a (k + 44) H3) (evx_op (evx_of (v := .int 1) ev_c) (fun u H4 ⟨eu, e4⟩ => (evx_rand (g2.ex e4) (by omega) (ev_var rfl) ev_c (b := 3) (by decide) (by decide)).imp (R' := fun y H5 => ∃ r : Int, u = .int 1 ∧ y = .int r ∧ 0 ≤ r ∧ r < 3 ∧ ExN a H2 H5 ∧ Gen a (k + 44) H5) fun y H5 ⟨r, ey, r0, r1, e5, g5⟩ => ⟨r, eu, ey, r0, r1, (ExN.of e4).trans e5, g5⟩) fun u y H5 ⟨r, eu, ey, r0, r1, e5, g5⟩ Q q => by
          subst eu
          subst ey
          exact ⟨1, r, rfl, rfl, q _ H5 ⟨(1 + r).toNat, by rw [Int.toNat_of_nonneg (by omega)], by omega, by omega, e5, g5⟩⟩) fun y H3 ⟨c, ey, c1, c3, e3, g3⟩ => exa_nil ⟨pp, ps, c, by rw [ex, ey], pa, e3 pp _ pa hx, c1, c3, hp, e2.trans e3, g3⟩)
      fun vs H2 ⟨pp, ps, c, ev, pa, hx, c1, c3, hp, e2, g2⟩ => ⟨by rw [ev]; show 2 ≤ 100000; decide, fun t nt => ⟨t, .ref pp, .int (c : Int), rfl, by rw [upd_same, ev], ps, c, pp, rfl, pa, Ex.new nt pp _ hx, rfl, c1, c3, hp, e2.trans (ExN.of (Ex.new nt)), g2.ex (Ex.new nt)⟩⟩) fun x y H2 ⟨ps, c, pp, ex, pa, hx, ey, c1, c3, hp, e2, g2⟩ => ?_
    subst ex
    subst ey
    have pl := hp.len
    -- the line
    refine q_asgX (R := fun v H3 => ∃ (pw : List Int) (L : Addr), v = .ref L ∧ L ≠ a ∧ pw.length = c ∧ ExN a H H3 ∧ Gen a (k + 48) H3 ∧ H3 pp = some (.lst (ps.map V.int)) ∧ H3 L = some (.lst ((ps.map (polyW n pw)).map V.int))) (evx_call (RL := fun vs H3 => ∃ (b : Addr) (pw : List Int), vs = [.int (n : Int), .ref pp, .ref b] ∧ pw.length = c ∧ ExN a H H3 ∧ Gen a (k + 48) H3 ∧ H3 pp = some (.lst (ps.map V.int)) ∧ H3 b = some (.lst (pw.map V.int)))
      (exa_cons (evx_of (v := .int (n : Int)) (ev_var rfl)) fun x H3 ⟨ex, e3⟩ => exa_cons (evx_of (v := .ref pp) (ev_var rfl)) fun y H4 ⟨ey, e4⟩ => exa_cons (evx_lcD (n := c) (· = a) (fun i ys H5 => ∃ pw : List Int, ys = pw.map V.int ∧ pw.length = i ∧ Gen a (k + 44 + i) H5 ∧ ExN a H4 H5) (ea_cons (ev_var rfl) ea_nil) (by omega) (fun b hb => by
          obtain ⟨_, _, _, e, _⟩ := g2.ex (e3.trans e4)
          exact ⟨_, hb ▸ e⟩) (fun H5 e5 => ⟨[], rfl, rfl, g2.ex (e3.trans (e4.trans e5)), ExN.of e5⟩) (fun i ys H5 Dl o hD ⟨pw, h1, h2, h3, h4⟩ => ⟨pw, h1, h2, h3.other ((g2.ex (e3.trans e4)).ne hD), h4.mut hD⟩) (fun _ => rfl)
        (fun i ys H5 hi hyl ⟨pw, h1, h2, h3, h4⟩ => evx_op (RB := fun x y H6 => ∃ r : Int, x = .int r ∧ y = .int (10 ^ (24 : Int).toNat) ∧ ExN a H5 H6 ∧ Gen a (k + 44 + (i + 1)) H6) (evx_rand (b := 10 ^ (25 : Int).toNat) h3 (by omega) (ev_var rfl) (ev_op ev_c ev_c (rv_I ⟨by decide, by decide, by decide⟩)) (by decide) (by decide)) (fun x H6 ⟨r, er, _, _, e6, g6⟩ => (evx_of (v := .int (10 ^ (24 : Int).toNat)) (ev_op ev_c ev_c (rv_I ⟨by decide, by decide, by decide⟩))).imp fun y H7 ⟨ey, e7⟩ => ⟨r, er, ey, e6.trans (ExN.of e7), g6.ex e7⟩)
          fun x y H6 ⟨r, er, ey, e6, g6⟩ Q q => by
            subst er
            subst ey
            exact ⟨r, _, rfl, rfl, q _ H6 ⟨fun b o hb h => e6 b o hb h, pw ++ [r - 10 ^ (24 : Int).toNat], by rw [h1, List.map_append]; rfl, by simp [h2], g6, h4.trans e6⟩⟩)) fun z H5 ⟨p, ys, ez, np, hyl, hpy, pw, h1, h2, h3, h4⟩ => exa_nil ⟨p, pw, by rw [ex, ey, ez], h2, e2.trans ((ExN.of (e3.trans e4)).trans h4), h3.mono (Ex.refl _) (by omega), h4 pp _ pa ((e3.trans e4) pp _ hx), by rw [hpy, h1]⟩)
      fun vs H3 ⟨b, pw, ev, h1, h2, h3, h4, h5⟩ Q q => by
        subst ev
        exact ⟨n, pp, b, ps, pw, rfl, n1, n64, h4, h5, by omega, by omega, hp.abs, fun L H4 nL e4 hL => q _ H4 ⟨pw, L, rfl, h3.ne nL, h1, h2.trans (ExN.of e4), h3.ex e4, e4 pp _ h4, hL⟩⟩) fun v H3 ⟨pw, L, ev, La, hc, e3, g3, hx3, hL⟩ => ?_
    subst ev
    subst hc
    have F := M n ps pw hp c1 c3
    have hrange : ∀ z ∈ ps.map (polyW n pw), 0 ≤ z ∧ z < 2 ^ n := fun z hz => by
      obtain ⟨x, _, e⟩ := List.mem_map.mp hz
      rw [← e]
      unfold polyW
      rcases hpr : pw.reverse.getLast? with _ | y
      · have : pw.reverse = [] := by simpa using hpr
        have : pw = [] := by simpa using this
        rw [this] at c1
        simp at c1
      · obtain ⟨l0, h0⟩ := List.getLast?_eq_some_iff.mp hpr
        rw [h0, List.foldl_append]
        exact ⟨Int.emod_nonneg _ (AP.pow_ne n), Int.emod_lt_of_pos _ (AP.pow_pos n)⟩
    have hll : (ps.map (polyW n pw)).length = ps.length := by simp
    generalize hln : ps.map (polyW n pw) = ln at *
    have hwd : Wds n ps ln := ⟨hll, fun z h => (hrange z h).1, fun z h => (hrange z h).2⟩
    -- how many are mended, the places left, the bad line
    have hrg : rgV 0 (ps.length : Int) = (natL (List.range ps.length)).map V.int := by
      unfold rgV natL
      rw [List.map_map, show ((ps.length : Int) - 0).toNat = ps.length by omega]
      apply List.map_congr_left
      intro i _
      show V.int (0 + (i : Int)) = V.int (i : Int)
      rw [Int.zero_add]
    refine q_unp3 (R := fun x y z H4 => ∃ l bd : Addr, x = .int (mnd n ps pw.length : Int) ∧ y = .ref l ∧ z = .ref bd ∧ H3 l = none ∧ H3 bd = none ∧ l ≠ bd ∧ H4 l = some (.lst ((natL (List.range ps.length)).map V.int)) ∧ H4 bd = some (.lst (ln.map V.int)))
      (evp_tup (RA := fun vs H4 => ∃ l bd : Addr, vs = [.int (mnd n ps pw.length : Int), .ref l, .ref bd] ∧ H3 l = none ∧ H3 bd = none ∧ l ≠ bd ∧ H4 l = some (.lst ((natL (List.range ps.length)).map V.int)) ∧ H4 bd = some (.lst (ln.map V.int)))
        (eap_cons (R := fun u _ => u = .int (mnd n ps pw.length : Int)) (Ev.p (ev_call (ea_cons (ev_var rfl) (ea_cons (ev_var rfl) (ea_cons (ev_var rfl) ea_nil))) fun H4 e4 Q q E => ⟨n, pp, ps, pw.length, rfl, e4 pp _ hx3, hp, fun _ => F.ne, q⟩) fun _ _ => rfl) fun u1 H4 e4 r1 => eap_cons (R := fun u H5 => ∃ l : Addr, u = .ref l ∧ H4 l = none ∧ H5 l = some (.lst ((natL (List.range ps.length)).map V.int))) (EvL.p (el_is (el_listRg1 (ev_lenI (K := K) (ns := ps) (ev_var rfl) (sq_of (e4 pp _ hx3))) (RgOk.of_le (by decide) (by omega) (by decide) (by omega))) hrg) fun l H5 nl hl _ => ⟨l, rfl, nl, hl⟩) fun u2 H5 e5 r2 =>
          eap_cons (R := fun u H6 => ∃ bd : Addr, u = .ref bd ∧ H5 bd = none ∧ H6 bd = some (.lst (ln.map V.int))) (EvL.p (el_list (K := K) (ev_var rfl) (sq_of (e5 L _ (e4 L _ hL)))) fun bd H6 nb hb _ => ⟨bd, rfl, nb, hb⟩) fun u3 H6 e6 r3 => eap_nil fun H7 e7 => ?_) fun vs H4 e4 ⟨l, bd, ev, h1, h2, h3, h4, h5⟩ => ⟨by rw [ev]; show 3 ≤ 100000; decide, fun t nt => ⟨t, _, _, _, rfl, by rw [upd_same, ev], l, bd, rfl, rfl, rfl, h1, h2, h3, Ex.new nt l _ h4, Ex.new nt bd _ h5⟩⟩) fun x y z H4 e4 ⟨l, bd, ex, ey, ez, nl, nb, hlb, hl, hb⟩ => ?_
    · obtain ⟨l, rfl, nl, hl⟩ := r2
      obtain ⟨bd, rfl, nb, hb⟩ := r3
      refine ⟨l, bd, by rw [r1], fresh_back e4 nl, fresh_back (e4.trans e5) nb, fun z => ?_, e7 l _ (e6 l _ hl), e7 bd _ hb⟩
      rw [z, nb] at hl
      cases hl
    subst ex
    subst ey
    subst ez
    have g4 := g3.ex e4
    have la : l ≠ a := g3.ne nl
    have ba : bd ≠ a := g3.ne nb
    have hL4 := e4 L _ hL
    have hx4 := e4 pp _ hx3
    have Ll : L ≠ l := fun z => by rw [z, nl] at hL; cases hL
    have Lb : L ≠ bd := fun z => by rw [z, nb] at hL; cases hL
    have pl' : pp ≠ l := fun z => by rw [z, nl] at hx3; cases hx3
    have pb : pp ≠ bd := fun z => by rw [z, nb] at hx3; cases hx3
    -- the wrong places
    have hmin : (if (ps.length : Int) < (mnd n ps pw.length : Int) then (ps.length : Int) else (mnd n ps pw.length : Int)) = ((min (mnd n ps pw.length) ps.length : Nat) : Int) := by
      split <;> omega
    refine q_asgX (R := fun v H5 => ∃ (wp : Addr) (wr : List Nat), v = .ref wp ∧ H4 wp = none ∧ H5 wp = some (.lst ((natL wr).map V.int)) ∧ wr.Pairwise (· < ·) ∧ (∀ i ∈ wr, i < ps.length) ∧ wr.length = min (mnd n ps pw.length) ps.length ∧ Ex2 a l H4 H5 ∧ Gen a (k + 56) H5)
      (evx_cb (RL := fun vs H5 => ∃ (p : Addr) (pk : List Nat), vs = [.ref p] ∧ H4 p = none ∧ H5 p = some (.lst ((natL pk).map V.int)) ∧ pk.Nodup ∧ (∀ i ∈ pk, i < ps.length) ∧ pk.length = min (mnd n ps pw.length) ps.length ∧ Ex2 a l H4 H5 ∧ Gen a (k + 56) H5 ∧ ∃ o, H5 l = some o) (exa_cons (evx_lcD (n := min (mnd n ps pw.length) ps.length) (fun b => b = a ∨ b = l) (fun i ys H5 => ∃ pk lf : List Nat, ys = (natL pk).map V.int ∧ pk.length = i ∧ H5 l = some (.lst ((natL lf).map V.int)) ∧ (pk ++ lf).Perm (List.range ps.length) ∧ Gen a (k + 48 + i) H5 ∧ Ex2 a l H4 H5)
        (ea_cons (ev_is (ev_cb (z := .int (if (ps.length : Int) < (mnd n ps pw.length : Int) then (ps.length : Int) else (mnd n ps pw.length : Int))) (ea_cons (ev_var rfl) (ea_cons (ev_lenI (ev_var rfl) (sq_of hx4)) ea_nil)) fun H1 e Q q => ⟨_, _, rfl, q H1 (Ex.refl H1)⟩) (by rw [hmin])) ea_nil) (by omega)
        (fun b hb => by
          rcases hb with rfl | rfl
          · obtain ⟨_, _, _, e, _⟩ := g4
            exact ⟨_, e⟩
          · exact ⟨_, hl⟩)
        (fun H5 e5 => ⟨[], List.range ps.length, rfl, rfl, e5 l _ hl, List.Perm.refl _, g4.ex e5, Ex2.of (ExN.of e5)⟩)
        (fun i ys H5 Dl o hD ⟨pk, lf, h1, h2, h3, h4, h5, h6⟩ => ⟨pk, lf, h1, h2, by rw [upd_ne fun z => by rw [← z, hl] at hD; cases hD]; exact h3, h4, h5.other (g4.ne hD), h6.mut hD⟩) (fun _ => rfl)
        (fun i ys H5 hi hyl ⟨pk, lf, h1, h2, h3, h4, h5, h6⟩ => ?_)) fun x H5 r => exa_nil ?_) fun vs H5 r Q q => ?_) fun v H5 ⟨wp, wr, ev, nw, hw, wa, wl, wn, e5, g5⟩ => ?_
    · -- left.pop(..)
      have hlf : lf.length = ps.length - i := by
        have := h4.length_eq
        rw [List.length_append, List.length_range] at this
        omega
      have hlf0 : 0 < lf.length := by omega
      have h100 : (2 : Int) ^ 100 = 1267650600228229401496703205376 := by decide
      intro Q q
      refine ⟨.ref l, rfl, .inl ⟨rfl, _, sq_of h3⟩, ?_⟩
      refine exa_cons (RL := fun vs H6 => ∃ r : Nat, vs = [.int (r : Int)] ∧ r < lf.length ∧ ExN a H5 H6 ∧ Gen a (k + 48 + i + 1) H6) (evx_rand (b := (lf.length : Int)) h5 (by omega) (ev_var rfl) (ev_is (ev_lenI (K := K) (ns := natL lf) (ev_var rfl) (sq_of h3)) (by unfold natL; simp)) (by omega) (by omega)) (fun y H6 ⟨r, ey, r0, r1, e6, g6⟩ => exa_nil ⟨r.toNat, by rw [ey, Int.toNat_of_nonneg r0], by omega, e6, g6⟩) _ fun vs H6 ⟨r, ev, hr, e6, g6⟩ => ?_
      subst ev
      have h36 := e6 l _ la h3
      refine ⟨l, _, (r : Int), r, .int (lf[r] : Int), rfl, rfl, h36, by omega, by omega, seqIx (by unfold natL; simp; exact hr), natL_get hr, q _ _ ⟨fun b o hb x => ?_, pk ++ [lf[r]], lf.eraseIdx r, ?_, by simp [h2], ?_, ?_, g6.other la, h6.trans ((Ex2.of e6).trans (Ex2.wr a l H6 _))⟩⟩
      · rw [upd_ne fun z => hb (.inr z)]
        exact e6 b o (fun z => hb (.inl z)) x
      · rw [h1]
        unfold natL
        simp
      · rw [upd_same]
        unfold natL
        rw [AP.map_erase, AP.map_erase]
      · refine List.Perm.trans ?_ h4
        rw [List.append_assoc]
        have hpe : (lf[r] :: lf.eraseIdx r).Perm lf := by
          exact AP.erase_permA hr
        exact hpe.append_left pk
    · obtain ⟨p, ys, er, np, hyl, hpy, pk, lf, h1, h2, h3, h4, h5, h6⟩ := r
      have nd : (pk ++ lf).Nodup := h4.nodup_iff.mpr List.nodup_range
      exact ⟨p, pk, by rw [er], np, by rw [hpy, h1], (List.nodup_append.mp nd).1, fun i hi => List.mem_range.mp (h4.mem_iff.mp (List.mem_append_left _ hi)), h2, h6, h5.mono (Ex.refl _) (by omega), _, h3⟩
    · obtain ⟨p, pk, ev, np, hpk, nd, hlt, hlen, h6, g6, ol, hol⟩ := r
      subst ev
      have hl8 : (natL pk).length < 64 := by unfold natL; simp; omega
      refine ⟨p, natL pk, rfl, sq_of hpk, hl8, fun ns' p' hperm hsort np' => q _ _ ?_⟩
      have hnn : ∀ z ∈ ns', 0 ≤ z := fun z hz => by
        obtain ⟨i, _, e⟩ := natL_mem (hperm.mem_iff.mp hz)
        omega
      have hcast : natL (ns'.map Int.toNat) = ns' := by
        unfold natL
        rw [List.map_map]
        have : ∀ l : List Int, (∀ z ∈ l, 0 ≤ z) → l.map ((fun (i : Nat) => (i : Int)) ∘ Int.toNat) = l := by
          intro l
          induction l with
          | nil => intro _; rfl
          | cons z r ih =>
            intro h
            rw [List.map_cons, ih fun z hz => h z (List.mem_cons_of_mem _ hz)]
            congr 1
            exact Int.toNat_of_nonneg (h z (List.mem_cons_self ..))
        exact this ns' hnn
      have hnd : ns'.Nodup := hperm.nodup_iff.mpr (by unfold natL; exact List.Pairwise.map _ (fun a b h e => h (by omega)) nd)
      have hasc := asc_of hsort hnd
      have np4 : H4 p' = none := by
        cases q : H4 p' with
        | none => rfl
        | some o =>
          by_cases z1 : p' = a
          · obtain ⟨_, _, _, e, _⟩ := g6
            rw [z1, e] at np'
            cases np'
          · by_cases z2 : p' = l
            · rw [z2, hol] at np'
              cases np'
            · rw [h6 p' o z1 z2 q] at np'
              cases np'
      refine ⟨p', ns'.map Int.toNat, rfl, np4, by rw [upd_same, hcast], ?_, ?_, by rw [List.length_map, hperm.length_eq]; unfold natL; simp [hlen], h6.mut np4, g6.other (g6.ne np')⟩
      · rw [List.pairwise_map]
        exact hasc.imp_of_mem fun {x y} hx hy h => by have := hnn x hx; have := hnn y hy; omega
      · intro i hi
        obtain ⟨z, hz, e⟩ := List.mem_map.mp hi
        obtain ⟨j, hj, e2⟩ := natL_mem (hperm.mem_iff.mp hz)
        have := hlt j hj
        omega
    subst ev
    have hw4 : wp ≠ bd := fun z => by rw [z, hb] at nw; cases nw
    have hL5 := e5 L _ La Ll hL4
    have hx5 := e5 pp _ pa pl' hx4
    have hb5 := e5 bd _ ba (Ne.symm hlb) hb
    have wa' : wp ≠ a := g4.ne nw
    have h2n : (2 : Int) ≤ 2 ^ n := by
      have := Int.le_of_dvd (AP.pow_pos n) (AP.pow_dvd n1)
      simpa using this
    have h64 : (2 : Int) ^ n ≤ 2 ^ 64 := Int.le_of_dvd (AP.pow_pos 64) (AP.pow_dvd n64)
    have e64 : (2 : Int) ^ 64 = 18446744073709551616 := by decide
    have e100 : (2 : Int) ^ 100 = 1267650600228229401496703205376 := by decide
    refine q_forLn (K := K) (a := wp) (xs := (natL wr).map V.int) (ev_var rfl) (sq_of hw) (fun i σ' H' => ∃ (bl : List Int) (y9 y10 y11 : Option V), σ' = [some (.ref a), some (.int (n : Int)), some (.ref pp), some (.int (pw.length : Int)), some (.ref L), some (.int (mnd n ps pw.length : Int)), some (.ref l), some (.ref bd), some (.ref wp), y9, y10, y11] ∧ H' bd = some (.lst (bl.map V.int)) ∧ bl.length = ps.length ∧ (∀ z ∈ bl, 0 ≤ z ∧ z < 2 ^ n) ∧
      (∀ j, j < ps.length → j ∈ wr.take i → bl.getD j 0 ≠ ln.getD j 0) ∧ (∀ j, j < ps.length → j ∉ wr.take i → bl.getD j 0 = ln.getD j 0) ∧ Gen a (k + 56 + i) H' ∧ Ex2 a bd H5 H')
      (fun H6 e6 => ⟨ln, none, none, none, rfl, e6 bd _ hb5, hll, hrange, fun j _ h => by simp at h, fun j _ _ => rfl, g5.ex e6, Ex2.of (ExN.of e6)⟩) (fun i σ' H' _ h => by obtain ⟨_, _, _, _, _, _, _, _, _, _, _, e⟩ := h; exact sq_of (e wp _ wa' hw4 hw)) (fun i x σ' H6 hxi h => ?_) (fun σ' H6 h => ?_)
    · obtain ⟨bl, y9, y10, y11, rfl, hbl, bll, brg, b1, b2, g6, e6⟩ := h
      have hi : i < wr.length := by
        have := (List.getElem?_eq_some_iff.mp hxi).1
        unfold natL at this
        simpa using this
      rw [natL_get hi] at hxi
      cases hxi
      have hj := wl wr[i] (List.getElem_mem hi)
      have hjn : wr[i] ∉ wr.take i := fun h => by
        obtain ⟨t, ht, e⟩ := List.mem_iff_getElem.mp h
        rw [List.getElem_take] at e
        have ht' : t < i := by simp at ht; omega
        have := List.pairwise_iff_getElem.mp wa t i (by omega) hi ht'
        omega
      have hbj := b2 _ hj hjn
      have hlj : bl.getD wr[i] 0 ∈ bl := by rw [List.getD_eq_getElem?_getD, List.getElem?_eq_getElem (by omega)]; exact List.getElem_mem (by omega)
      obtain ⟨z1, z2⟩ := brg _ hlj
      generalize hjj : wr[i] = jj at *
      have hwr8 : wr.length ≤ 8 := by omega
      refine (evx_op (RA := fun v H7 => ∃ d : Int, v = .int (bl.getD jj 0 + d) ∧ 0 < d ∧ d < 2 ^ n ∧ ExN a H6 H7 ∧ Gen a (k + 56 + (i + 1)) H7) (RB := fun v y H7 => ∃ d : Int, v = .int (bl.getD jj 0 + d) ∧ y = .int (2 ^ n) ∧ 0 < d ∧ d < 2 ^ n ∧ ExN a H6 H7 ∧ Gen a (k + 56 + (i + 1)) H7) (R := fun v H7 => ∃ d : Int, v = .int ((bl.getD jj 0 + d) % 2 ^ n) ∧ 0 < d ∧ d < 2 ^ n ∧ ExN a H6 H7 ∧ Gen a (k + 56 + (i + 1)) H7)
        (evx_cb (RL := fun vs H7 => ∃ d : Int, vs = [.int (bl.getD jj 0 + d)] ∧ 0 < d ∧ d < 2 ^ n ∧ ExN a H6 H7 ∧ Gen a (k + 56 + (i + 1)) H7) (exa_cons (R := fun v H7 => ∃ d : Int, v = .int (bl.getD jj 0 + d) ∧ 0 < d ∧ d < 2 ^ n ∧ ExN a H6 H7 ∧ Gen a (k + 56 + (i + 1)) H7)
          (evx_op (RB := fun v y H7 => ∃ r : Int, v = .int (bl.getD jj 0 + 1) ∧ y = .int r ∧ 0 ≤ r ∧ r < 2 ^ n - 1 ∧ ExN a H6 H7 ∧ Gen a (k + 56 + (i + 1)) H7) (evx_of (v := .int (bl.getD jj 0 + 1)) (ev_op (ev_op (ev_var rfl) (ev_var rfl) (rv_ixL (sq_of hbl) (at_ints (by omega)))) ev_c rv_I0))
            (fun x H7 ⟨ex, e7⟩ => (evx_rand (b := 2 ^ n - 1) (g6.ex e7) (by omega) (ev_var rfl) (ev_op (ev_shl1 (n := n) rfl (by omega)) ev_c rv_I0) (by omega) (by omega)).imp fun y H8 ⟨r, ey, r0, r1, e8, g8⟩ => ⟨r, ex, ey, r0, r1, (ExN.of e7).trans e8, g8⟩)
            fun x y H7 ⟨r, ex, ey, r0, r1, e7, g7⟩ Q q => by
              subst ex
              subst ey
              exact ⟨_, _, rfl, rfl, q _ H7 ⟨1 + r, by show V.int (bl.getD jj 0 + 1 + r) = _; rw [Int.add_assoc], by omega, by omega, e7, g7⟩⟩) fun x H7 ⟨d, ex, d0, d1, e7, g7⟩ => exa_nil ⟨d, by rw [ex], d0, d1, e7, g7⟩)
          fun vs H7 ⟨d, ev, d0, d1, e7, g7⟩ Q q => by
            subst ev
            exact .inl ⟨_, rfl, q _ H7 ⟨d, rfl, d0, d1, e7, g7⟩⟩)
        (fun x H7 ⟨d, ex, d0, d1, e7, g7⟩ => (evx_of (ev_shl1 (n := n) rfl (by omega))).imp fun y H8 ⟨ey, e8⟩ => ⟨d, ex, ey, d0, d1, e7.trans (ExN.of e8), g7.ex e8⟩)
        fun x y H7 ⟨d, ex, ey, d0, d1, e7, g7⟩ Q q => by
          subst ex
          subst ey
          exact ⟨_, _, rfl, rfl, AP.pow_pos n, q _ H7 ⟨d, rfl, d0, d1, e7, g7⟩⟩) _ fun v H7 ⟨d, ev, d0, d1, e7, g7⟩ => ?_
      subst ev
      have hbl7 := e7 bd _ ba hbl
      refine ⟨.ref bd, rfl, .int (jj : Int), rfl, bd, bl.map V.int, (jj : Int), jj, rfl, rfl, hbl7, ixN_nat (by simp; omega), ?_⟩
      have hnew : (bl.getD jj 0 + d) % 2 ^ n ≠ bl.getD jj 0 := by
        generalize bl.getD jj 0 = b at *
        generalize (2 : Int) ^ n = m at *
        by_cases hc : b + d < m
        · rw [Int.emod_eq_of_lt (by omega) hc]
          omega
        · have : (b + d) % m = b + d - m := by rw [← Int.sub_emod_right, Int.emod_eq_of_lt (by omega) (by omega)]
          omega
      have hgs : ∀ t, t < ps.length → (bl.set jj ((bl.getD jj 0 + d) % 2 ^ n)).getD t 0 = if t = jj then (bl.getD jj 0 + d) % 2 ^ n else bl.getD t 0 := fun t ht => by
        rw [List.getD_eq_getElem?_getD, List.getElem?_set]
        by_cases hc : jj = t
        · subst hc
          rw [if_pos rfl, if_pos (by omega), if_pos rfl]
          rfl
        · rw [if_neg hc, if_neg (Ne.symm hc), List.getD_eq_getElem?_getD]
      have htk : wr.take (i + 1) = wr.take i ++ [jj] := by
        rw [List.take_succ, List.getElem?_eq_getElem hi, hjj]
        rfl
      refine ⟨bl.set jj ((bl.getD jj 0 + d) % 2 ^ n), _, _, _, rfl, by rw [upd_same, List.map_set], by simp [bll], fun z hz => ?_, fun t ht htm => ?_, fun t ht htm => ?_, g7.other ba, e6.trans ((Ex2.of e7).trans (Ex2.wr a bd H7 _))⟩
      · rcases List.mem_or_eq_of_mem_set hz with h | h
        · exact brg z h
        · rw [h]
          exact ⟨Int.emod_nonneg _ (AP.pow_ne n), Int.emod_lt_of_pos _ (AP.pow_pos n)⟩
      · rw [hgs t ht]
        rw [htk, List.mem_append] at htm
        split
        · rename_i hc
          rw [hc, ← hbj]
          exact hnew
        · rename_i hc
          exact b1 t ht (htm.resolve_right (by simpa using hc))
      · rw [hgs t ht]
        rw [htk, List.mem_append] at htm
        rw [if_neg fun hc => htm (.inr (by simp [hc]))]
        exact b2 t ht fun h => htm (.inl h)
    · obtain ⟨bl, y9, y10, y11, rfl, hbl, bll, brg, b1, b2, g6, e6⟩ := h
      have hnl : (natL wr).length = wr.length := by unfold natL; simp
      rw [List.length_map, hnl, List.take_length] at b1 b2
      have hL6 := e6 L _ La Lb hL5
      have hx6 := e6 pp _ pa pb hx5
      have hw6 := e6 wp _ wa' hw4 hw
      have hbw : Wds n ps bl := ⟨bll, fun z h => (brg z h).1, fun z h => (brg z h).2⟩
      have hdif : dif bl ln = wr.length := dif_is bll wa wl b1 b2
      have hm1 : mendd n ps pw.length bl = some ln := F.fix bl bll brg (by omega)
      have hm2 : mendd n ps pw.length ln = some ln := F.fix ln hll hrange (by rw [dif_self]; omega)
      have hwg : wrg ps bl ln = at_ ps wr := wrg_is wa wl b1 b2
      have hwg2 : wrg ps ln ln = [] := wrg_is (wr := []) List.Pairwise.nil (fun i h => nomatch h) (fun i _ h => nomatch h) fun i _ _ => rfl
      have tst : ∀ (H7 : Hp) (σ2 : L2.St) (q : Addr) (us : List Int), Ex H6 H7 → H6 q = some (.lst (us.map V.int)) → Wds n ps us → mendd n ps pw.length us = some ln → ∀ i : Nat, σ2[1]? = some (some (.int (n : Int))) → σ2[2]? = some (some (.ref pp)) → σ2[3]? = some (some (.int (pw.length : Int))) → σ2[4]? = some (some (.ref L)) → σ2[i]? = some (some (.ref q)) →
          EvT (tTest (tOp (rNeD K) (tCall sp62 [] E0 (tCons (tVar 1) (tCons (tVar 2) (tCons (tVar 3) (tCons (tVar i) tNil))))) (tVar 4))) σ2 H7 false := fun H7 σ2 q us e7 hq hwu hmu i h1 h2 h3 h4 hi =>
        et_testP (evp_op (RA := IsIL ln) (evp_callA (ea_cons (ev_var h1) (ea_cons (ev_var h2) (ea_cons (ev_var h3) (ea_cons (ev_var hi) ea_nil)))) fun H8 e8 Q q' E => ⟨n, pp, q, ps, us, pw.length, rfl, (e7.trans e8) pp _ hx6, (e7.trans e8) q _ hq, hp, hwu, F.k1, F.ne, fun v H9 e9 r => q' v H9 e9 (by rw [hmu] at r; exact r)⟩)
          fun x H8 e8 r => (Ev.p (R := fun v H9 => IsIL ln v H9 ∧ IsIL ln x H9) (ev_var h4) fun H9 e9 => ⟨⟨L, rfl, (e7.trans (e8.trans e9)) L _ hL6⟩, r.mono e9⟩).imp fun y H9 e9 ⟨r2, r1⟩ => rp_of (rp_neO r1 r2) fun H10 e10 => by rw [decide_eq_true rfl]; rfl)
      refine q_when (b := false) (et_is (et_or (a := false) (b := false) (tst H6 _ bd bl (Ex.refl _) hbl hbw hm1 7 rfl rfl rfl rfl rfl) (fun _ => tst H6 _ L ln (Ex.refl _) hL6 hwd hm2 4 rfl rfl rfl rfl rfl)) rfl) (fun c => nomatch c) (fun _ H7 e7 => ?_)
      have hwr8 : wr.length ≤ 8 := by omega
      refine q_when (b := false) (et_is (et_or (a := false) (b := false) (et_testP (evp_op (RA := IsIL (at_ ps wr)) (evp_callA (ea_cons (ev_var rfl) (ea_cons (ev_var rfl) (ea_cons (ev_var rfl) (ea_cons (ev_var rfl) ea_nil)))) fun H8 e8 Q q' E => ⟨n, pp, bd, ps, bl, pw.length, rfl, (e7.trans e8) pp _ hx6, (e7.trans e8) bd _ hbl, hp, hbw, F.k1, F.ne, fun v H9 e9 r => q' v H9 e9 (by rw [hm1] at r; rw [← hwg]; exact r)⟩)
          fun x H8 e8 r => (EvL.p (R := fun v H9 => IsIL (at_ ps wr) v H9 ∧ IsIL (at_ ps wr) x H9) (el_at (ev_var rfl) ((e7.trans e8) wp _ hw6) ((e7.trans e8) pp _ hx6) wl (by omega) (fun _ => rfl) (fun _ _ => ev_var rfl) (fun _ => rfl)) fun p H9 _ h9 e9 => ⟨⟨p, rfl, h9⟩, r.mono e9⟩).imp fun y H9 e9 ⟨r2, r1⟩ => rp_of (rp_neO r1 r2) fun H10 e10 => by rw [decide_eq_true rfl]; rfl))
        (fun _ => et_testP (evp_op (RA := IsIL []) (evp_callA (ea_cons (ev_var rfl) (ea_cons (ev_var rfl) (ea_cons (ev_var rfl) (ea_cons (ev_var rfl) ea_nil)))) fun H8 e8 Q q' E => ⟨n, pp, L, ps, ln, pw.length, rfl, (e7.trans e8) pp _ hx6, (e7.trans e8) L _ hL6, hp, hwd, F.k1, F.ne, fun v H9 e9 r => q' v H9 e9 (by rw [hm2] at r; rw [← hwg2]; exact r)⟩)
          fun x H8 e8 r => (EvL.p (R := fun v H9 => IsIL [] v H9 ∧ IsIL [] x H9) (el_lst ea_nil (by decide)) fun p H9 _ h9 e9 => ⟨⟨p, rfl, h9⟩, r.mono e9⟩).imp fun y H9 e9 ⟨r2, r1⟩ => rp_of (rp_neO r1 r2) fun H10 e10 => by rw [decide_eq_true rfl]; rfl))) rfl) (fun c => nomatch c) (fun _ H8 e8 => ?_)
      refine s_ret (v := .bl true) (ev_call (ea_cons (ev_var rfl) (ea_cons (ev_var rfl) (ea_cons (ev_var rfl) (ea_cons (ev_var rfl) ea_nil)))) fun H9 e9 Q q' E => ⟨n, pp, L, ps, ln, pw.length, rfl, (e7.trans (e8.trans e9)) pp _ hx6, (e7.trans (e8.trans e9)) L _ hL6, hp, hwd, F, q'⟩) fun H9 e9 => q H9 ?_
      have nlH : H l = none := exn_back e3 nl la
      have nbH : H bd = none := exn_back e3 nb ba
      intro b o hba hbo
      exact (e7.trans (e8.trans e9)) b o (e6 b o hba (fun z => by rw [z, nbH] at hbo; cases hbo) (e5 b o hba (fun z => by rw [z, nlH] at hbo; cases hbo) (e4 b o (e3 b o hba hbo))))
theorem sc73 : FnScope ["_law_script", "_law_index"] ["_law_script"] (defScope (tp 73)) := ⟨rfl, rfl, rfl, by decide +kernel, rfl, by decide +kernel, by decide +kernel⟩
def sp73 (K : PySem.W.Frag) : Sp := fun vs H Q _ => ∃ (p : Addr) (sc : List Int), vs = [.ref p] ∧ SqL K H p (sc.map V.int) ∧ sc.length ≤ 63 ∧ ∀ H', Ex H H' → Q (.bl true) H'
theorem ok73 (T : TopT K mg) {fd : FuncData} (F : Fn K "law" 73 [] (He.ga K "law") fd) (C__law_right : Cal P w K mg base k "_law_right" ["_law_generator_here"] [] sp71) (C__law_generator : Cal P w K mg base k "_law_generator" ["_law_script", "_law_index"] [] (sp68 K)) : FnOk P w K mg base CX0 (k + 1) (He.ga K "law") fd ["_law_script"] (sp73 K) := by
  refine F.ok sc73 (fun vs H Q E h => ?_) fun cdv A outer s H vs Q E hr h => ⟨_, PSs.nox (pss_cons (ps_for PassesOwn.never rfl (pi_range1 (by rfl) T.f_range (pa_cons pe_int pa_nil)) (pg_name (i := 1) sc73.nd rfl (Or.inl rfl)) (pss_one (ps_if (pt_not (pt_val (pcall C__law_right hr (pa_cons (pcall C__law_generator hr (pa_cons (pv 0) (pa_cons (pv 1) pa_nil))) pa_nil)))) (pss_one (ps_ret pe_bl)) pss_nil))) (pss_one (ps_ret pe_bl))), ?_⟩
  · obtain ⟨p, sc, rfl, _⟩ := h
    rfl
  · obtain ⟨p, sc, rfl, hp, hl, q⟩ := h
    refine q_forR1 (n := 2) (ea_cons ev_c ea_nil) (by decide) (fun i σ' H' => ∃ y1 : Option V, σ' = [some (.ref p), y1] ∧ Ex H H') (fun H1 e1 => ⟨none, rfl, e1⟩) (fun i σ' H' hi h => ?_) (fun σ' H' h => ?_)
    · obtain ⟨y1, rfl, e1⟩ := h
      have hi' : i ≤ 1 := by omega
      refine (evx_call (RL := fun vs H2 => ∃ g : Addr, vs = [.ref g] ∧ H' g = none ∧ Ex H' H2 ∧ Gen g 0 H2) (R := fun v H2 => v = .bl true ∧ Ex H H2) (exa_cons (R := fun v H2 => ∃ g : Addr, v = .ref g ∧ H' g = none ∧ Ex H' H2 ∧ Gen g 0 H2) (fun Q q => (ea_cons (ev_var rfl) (ea_cons (ev_var rfl) ea_nil)) H' (Ex.refl _) _ fun H2 e2 => ⟨p, sc, i, rfl, ex_l (e1.trans e2) hp, hl, hi', fun g H3 ng e3 gg => q _ H3 ⟨g, rfl, fresh_back e2 ng, e2.trans e3, gg⟩⟩) fun u H2 ⟨g, eu, ng, e2, gg⟩ => exa_nil ⟨g, by rw [eu], ng, e2, gg⟩) fun vs H2 ⟨g, ev, ng, e2, gg⟩ Q q => by
        subst ev
        exact ⟨g, 0, rfl, gg, by decide, fun H3 e3 => q _ H3 ⟨rfl, fun b o h => e3 b o (fun z => by
          have := e1 b o h
          rw [z, ng] at this
          cases this) (e2 b o (e1 b o h))⟩⟩) _ fun v H2 ⟨ev, ex⟩ => ⟨true, ev, ⟨_, rfl, ex⟩⟩
    · obtain ⟨y1, rfl, e1⟩ := h
      exact s_ret ev_c fun H2 e2 => q H2 (e1.trans e2)
end
end AW
end
section
set_option maxRecDepth 100000
set_option maxHeartbeats 4000000
namespace AW
open PySem PySem.Spec PyProof.Rows L2 Evl AH AP AZ AM
section
variable {P : Program} {w : World} {K : PySem.W.Frag} {mg : Str → Option Value} {base : Heap}
/-- every def keeps its promise; the law -/
theorem lawOk (M : MainF) (T : TopT K mg) {fd : FuncData} (F : Fn K "law" 73 [] (He.ga K "law") fd) : FnOk P w K mg base CX0 90 (He.ga K "law") fd ["_law_script"] (sp73 K) := by
  have C__law_hash := ok65 (P := P) (w := w) (base := base) (k := 0) T 
  have C__law_random := ok66 (P := P) (w := w) (base := base) (k := 1) T (C__law_hash.up (show _ ≤ 1 by decide))
  have C__law_spots := ok69 (P := P) (w := w) (base := base) (k := 2) T (C__law_random.up (show _ ≤ 2 by decide))
  have C__law_words := ok70 (P := P) (w := w) (base := base) (k := 0) T 
  have C_is_whole := ok9 (P := P) (w := w) (base := base) (k := 0) T 
  have C_is_between := ok10 (P := P) (w := w) (base := base) (k := 1) T (C_is_whole.up (show _ ≤ 1 by decide))
  have C_is_width := ok18 (P := P) (w := w) (base := base) (k := 2) T (C_is_between.up (show _ ≤ 2 by decide))
  have C_check_width := ok19 (P := P) (w := w) (base := base) (k := 3) T (C_is_width.up (show _ ≤ 3 by decide))
  have C_power_of_two := ok12 (P := P) (w := w) (base := base) (k := 0) T 
  have C_is_of_width := ok20 (P := P) (w := w) (base := base) (k := 2) T (C_is_between.up (show _ ≤ 2 by decide)) (C_power_of_two.up (show _ ≤ 2 by decide))
  have C_rises := ok21 (P := P) (w := w) (base := base) (k := 0) T 
  have C_are_places := ok22 (P := P) (w := w) (base := base) (k := 3) T (C_is_of_width.up (show _ ≤ 3 by decide)) (C_rises.up (show _ ≤ 3 by decide))
  have C_check_places := ok23 (P := P) (w := w) (base := base) (k := 4) T (C_check_width.up (show _ ≤ 4 by decide)) (C_are_places.up (show _ ≤ 4 by decide))
  have C_check_number := ok11 (P := P) (w := w) (base := base) (k := 2) T (C_is_between.up (show _ ≤ 2 by decide))
  have C_check_code_reading := ok46 (P := P) (w := w) (base := base) (k := 5) T (C_check_places.up (show _ ≤ 5 by decide)) (C_check_number.up (show _ ≤ 5 by decide))
  have C_items_counted := ok16 (P := P) (w := w) (base := base) (k := 0) T 
  have C_twos := ok13 (P := P) (w := w) (base := base) (k := 0) T 
  have C_good_row := ok14 (P := P) (w := w) (base := base) (k := 1) T (C_twos.up (show _ ≤ 1 by decide))
  have C_items_counted_at := ok52 (P := P) (w := w) (base := base) (k := 2) T (C_items_counted.up (show _ ≤ 2 by decide)) (C_good_row.up (show _ ≤ 2 by decide))
  have C_halves := ok27 (P := P) (w := w) (base := base) (k := 0) T 
  have C_pairs := ok28 (P := P) (w := w) (base := base) (k := 0) T 
  have C_best_splits := ok29 (P := P) (w := w) (base := base) (k := 1) T (C_pairs.up (show _ ≤ 1 by decide))
  have C_tree_of := (okT (P := P) (w := w) (base := base) (k := 4) T (C_halves.up (by decide)) (C_best_splits.up (by decide)) 64).2
  have C_lost_places := okL (P := P) (w := w) (base := base) (k := 4) T 64
  have C_distance_of_distance := ok39 (P := P) (w := w) (base := base) (k := 70) T (C_tree_of.up (show _ ≤ 70 by decide)) (C_lost_places.up (show _ ≤ 70 by decide))
  have C_least_lost := ok43 (P := P) (w := w) (base := base) (k := 71) T (C_check_places.up (show _ ≤ 71 by decide)) (C_check_number.up (show _ ≤ 71 by decide)) (C_distance_of_distance.up (show _ ≤ 71 by decide))
  have C_distance_of_mending := ok54 (P := P) (w := w) (base := base) (k := 72) T (C_items_counted_at.up (show _ ≤ 72 by decide)) (C_least_lost.up (show _ ≤ 72 by decide))
  have C_mendable_of := ok56 (P := P) (w := w) (base := base) (k := 73) T (C_distance_of_mending.up (show _ ≤ 73 by decide))
  have C_mendable := ok57 (P := P) (w := w) (base := base) (k := 74) T (C_check_code_reading.up (show _ ≤ 74 by decide)) (C_mendable_of.up (show _ ≤ 74 by decide))
  have C_are_words := ok24 (P := P) (w := w) (base := base) (k := 3) T (C_is_of_width.up (show _ ≤ 3 by decide))
  have C_check_words := ok25 (P := P) (w := w) (base := base) (k := 4) T (C_are_words.up (show _ ≤ 4 by decide))
  have C_are_neighbours := ok58 (P := P) (w := w) (base := base) (k := 0) T 
  have C_parts_tried := ok60 (P := P) (w := w) (base := base) (k := 3) T (C_are_neighbours.up (show _ ≤ 3 by decide)) (C_items_counted_at.up (show _ ≤ 3 by decide))
  have C_product_at := ok15 (P := P) (w := w) (base := base) (k := 0) T 
  have C_value_at := ok50 (P := P) (w := w) (base := base) (k := 1) T (C_product_at.up (show _ ≤ 1 by decide))
  have C_odd_undone := ok48 (P := P) (w := w) (base := base) (k := 0) T 
  have C_items_read := ok49 (P := P) (w := w) (base := base) (k := 2) T (C_good_row.up (show _ ≤ 2 by decide)) (C_value_at.up (show _ ≤ 2 by decide)) (C_power_of_two.up (show _ ≤ 2 by decide)) (C_product_at.up (show _ ≤ 2 by decide)) (C_odd_undone.up (show _ ≤ 2 by decide))
  have C_words_led_to := ok51 (P := P) (w := w) (base := base) (k := 3) T (C_items_read.up (show _ ≤ 3 by decide)) (C_value_at.up (show _ ≤ 3 by decide)) (C_power_of_two.up (show _ ≤ 3 by decide))
  have C_unlike_count := ok59 (P := P) (w := w) (base := base) (k := 0) T 
  have C_near_word := ok61 (P := P) (w := w) (base := base) (k := 4) T (C_items_counted_at.up (show _ ≤ 4 by decide)) (C_parts_tried.up (show _ ≤ 4 by decide)) (C_words_led_to.up (show _ ≤ 4 by decide)) (C_unlike_count.up (show _ ≤ 4 by decide))
  have C_mended := ok62 (P := P) (w := w) (base := base) (k := 74) T (C_check_code_reading.up (show _ ≤ 74 by decide)) (C_check_words.up (show _ ≤ 74 by decide)) (C_near_word.up (show _ ≤ 74 by decide)) (C_mendable_of.up (show _ ≤ 74 by decide))
  have C_wrong_at := ok63 (P := P) (w := w) (base := base) (k := 75) T (C_mended.up (show _ ≤ 75 by decide))
  have C_check_code_telling := ok33 (P := P) (w := w) (base := base) (k := 5) T (C_check_places.up (show _ ≤ 5 by decide)) (C_check_number.up (show _ ≤ 5 by decide))
  have C_items_of_code := ok35 (P := P) (w := w) (base := base) (k := 2) T (C_items_counted.up (show _ ≤ 2 by decide)) (C_good_row.up (show _ ≤ 2 by decide))
  have C_distance := ok41 (P := P) (w := w) (base := base) (k := 71) T (C_check_code_telling.up (show _ ≤ 71 by decide)) (C_distance_of_distance.up (show _ ≤ 71 by decide)) (C_items_of_code.up (show _ ≤ 71 by decide))
  have C_hurting := ok42 (P := P) (w := w) (base := base) (k := 70) T (C_check_code_telling.up (show _ ≤ 70 by decide)) (C_tree_of.up (show _ ≤ 70 by decide)) (C_lost_places.up (show _ ≤ 70 by decide)) (C_items_of_code.up (show _ ≤ 70 by decide))
  have C_hidden_word := ok37 (P := P) (w := w) (base := base) (k := 2) T (C_good_row.up (show _ ≤ 2 by decide)) (C_power_of_two.up (show _ ≤ 2 by decide)) (C_product_at.up (show _ ≤ 2 by decide))
  have C_lacking_item := ok36 (P := P) (w := w) (base := base) (k := 2) T (C_good_row.up (show _ ≤ 2 by decide))
  have C_lightest := ok44 (P := P) (w := w) (base := base) (k := 71) T (C_hurting.up (show _ ≤ 71 by decide)) (C_hidden_word.up (show _ ≤ 71 by decide)) (C_lacking_item.up (show _ ≤ 71 by decide)) (C_items_of_code.up (show _ ≤ 71 by decide)) (C_twos.up (show _ ≤ 71 by decide)) (C_power_of_two.up (show _ ≤ 71 by decide))
  have C__law_half_right := ok72 (P := P) (w := w) (base := base) (k := 75) T (C_distance.up (show _ ≤ 75 by decide)) (C_lightest.up (show _ ≤ 75 by decide)) (C_mended.up (show _ ≤ 75 by decide))
  have C__law_right := ok71 (P := P) (w := w) (base := base) (k := 76) M T (C__law_random.up (show _ ≤ 76 by decide)) (C__law_spots.up (show _ ≤ 76 by decide)) (C__law_words.up (show _ ≤ 76 by decide)) (C_mendable.up (show _ ≤ 76 by decide)) (C_mended.up (show _ ≤ 76 by decide)) (C_wrong_at.up (show _ ≤ 76 by decide)) (C__law_half_right.up (show _ ≤ 76 by decide))
  have C__law_cell := ok67 (P := P) (w := w) (base := base) (k := 0) T 
  have C__law_generator := ok68 (P := P) (w := w) (base := base) (k := 1) T (C__law_cell.up (show _ ≤ 1 by decide))
  exact ok73 (P := P) (w := w) (base := base) (k := 89) T F (C__law_right.up (by decide)) (C__law_generator.up (by decide))
end
end AW
end
section
set_option maxRecDepth 100000
set_option maxHeartbeats 0
namespace AW
open PySem PySem.Spec PyProof.Rows L2 Evl AH
theorem facts (M : MainF) {P : Program} {w : World} {K : PySem.W.Frag} {h : Heap} {mg : Str → Option Value} {f : Addr} (X : K.In h) (G : h.Ns mainGlobals mg) (hfa : mg ("law" : Str) = some (.ref f)) (c : see K = (true, He.valD fn)) :
    ∃ fd : FuncData, (∀ (s : Shared) (v : Value), BindsTo s fd ⟨[v], []⟩ [("_law_script", v)]) ∧ ∀ base : Heap, K.In base → base.Ns mainGlobals mg → FnOk P w K mg base CX0 90 f fd ["_law_script"] (sp73 K) := by
  have c1 : cmb K = true := congrArg Prod.fst c
  have c2 : He.obsD fa fn K = He.valD fn := congrArg Prod.snd c
  have T : TopT K mg := ⟨c2, ⟨h, X, G⟩, of_decide_eq_true c1⟩
  obtain ⟨fd, F⟩ := T.c.def_ 53 (d := dd "law" "law" 73 []) rfl
  have e := hfa.symm.trans (T.glo 53)
  cases e
  have b := FunD.bindsA (ps := ["_law_script"]) F fun _ _ _ _ _ _ us hl => match us, hl with | [_], _ => rfl
  exact ⟨fd, fun s v => b s [v] rfl, fun base _ _ => lawOk M T F⟩
theorem mainF : MainF := fun n ps pw h h1 h3 => AP.main_poly h.asc h.ne h.len (fun p hp => ⟨h.lo p hp, h.hi p hp⟩) h.w1 h.w64 h1 h3
end AW
open PySem PySem.W PySem.Calls PyProof.Rows
theorem PySem.Challenge.cw_anyplaces_k45_whole_wrong_words_mended_holds : PySem.Challenge.rw_anyplaces_k45_whole_wrong_words_mended.Holds := by
  w_on; o_law
  refine HandSHeadRun.head_imp (r := OpenLaw.row PySem.Challenge.rw_anyplaces_k45_whole_wrong_words_mended) (q := view (OpenLaw.row PySem.Challenge.rw_anyplaces_k45_whole_wrong_words_mended).prog [0, 73]) (H := AH.hk) (ob := AH.ob) (M := 20000) (loose := AH.nm) (d := HandSHeadRun.topDef (OpenLaw.row PySem.Challenge.rw_anyplaces_k45_whole_wrong_words_mended).prog 73) (kwd := []) AH.ob_eq AH.run
    (by kernel_rfl) (by kernel_rfl) (by kernel_rfl) (by rfl) (by first | assumption | decide +kernel) (by decide +kernel) ⟨rfl, rfl, rfl, rfl, rfl, by decide +kernel⟩ ?hw ?hc
  case hw => w_witness2
  case hc =>
    refine L2.walk_ofE (l := PySem.Challenge.rw_anyplaces_k45_whole_wrong_words_mended) (n := 63) (k := 90) (x := "_law_script") (CX := L2.CX0) rfl (by decide) (by kernel_rfl) ⟨rfl, by decide, by decide⟩ ?F (fun _ _ _ _ z => z)
    intro w mg fa h Y G hmg0
    obtain ⟨K, KX, c⟩ := Y
    have hmg : mg ("law" : PySem.Str) = some (.ref fa) := by
      have e : (HandSHeadRun.topDef (OpenLaw.row PySem.Challenge.rw_anyplaces_k45_whole_wrong_words_mended).prog 73).name = ("law" : PySem.Str) := by kernel_rfl
      rw [← e]
      exact hmg0
    obtain ⟨fd, hb, hF⟩ := AW.facts AW.mainF (P := (PySem.Challenge.rw_anyplaces_k45_whole_wrong_words_mended).prog) (w := w) KX G hmg c
    exact ⟨K, fd, AW.sp73 K, KX, hb, fun H a ns hl _ hS => ⟨a, ns, rfl, hS, hl, fun _ _ => rfl⟩, hF⟩
end
