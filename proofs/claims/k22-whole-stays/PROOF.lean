import PyProof.Rows.All
import Wide.All
import OpenK.AllK
import Wide.FinOn
import HandS.ForMost
import HandS.ForExc
import HandS.IsInst
import HandS.Wide
import HandS.SortInts
import HandS.Zip
import HandS.Walk
import HandS.Evl
import HandS.More
import HandS.Conv
import HandS.ExcIs
import HandS.ExcField
import HandS.ExcInit
import HandS.Sort
import HandS.SetFor
import HandS.TupMul
import HandS.Strs
import HandS.Deep
import KE.KDictSum
import KE.KTupSum
import KE.KExcIs
import KE.KExcInit
import PySem.Challenge.RW_nightkeep_k22_whole_stays
set_option Elab.async false
set_option linter.all false
set_option maxRecDepth 100000
set_option maxHeartbeats 4000000
/-! ### rounds: plain mathematics -/
namespace Nk
def pre (rs : List Int) (j : Nat) : Int := (rs.take j).sum
def walkR : List Int → Int → Int → Int
  | [], _, found => found
  | r :: rs, left, found => if left < r then found else walkR rs (left - r) (found + 1)
def numOf (rs : List Int) (n : Int) : Int := walkR rs (n % rs.sum) (n / rs.sum * rs.length)
def firstOf (rs : List Int) (k : Int) : Int := k / rs.length * rs.sum + pre rs (k % rs.length).toNat
/-- lengths: at least one, each at least 1 -/
structure Rnds (rs : List Int) : Prop where
  ne : rs ≠ []
  pos : ∀ r ∈ rs, 1 ≤ r
theorem pre_zero (rs : List Int) : pre rs 0 = 0 := by simp [pre]
theorem pre_cons (r : Int) (rs : List Int) (j : Nat) : pre (r :: rs) (j + 1) = r + pre rs j := by simp [pre]
theorem pre_len (rs : List Int) : pre rs rs.length = rs.sum := by simp [pre]
theorem pre_step : ∀ {rs : List Int} {j : Nat} {r : Int}, rs[j]? = some r → pre rs (j + 1) = pre rs j + r
  | [], _, _, h => by simp at h
  | a :: rs, 0, r, h => by
    have e : a = r := by simpa using h
    subst e
    rw [pre_cons, pre_zero, pre_zero]; omega
  | a :: rs, j + 1, r, h => by
    have ih := pre_step (rs := rs) (j := j) (r := r) (by simpa using h)
    rw [pre_cons, pre_cons, ih]; omega
theorem pre_mono {rs : List Int} (hp : ∀ r ∈ rs, 1 ≤ r) : ∀ {i j : Nat}, i ≤ j → j ≤ rs.length → pre rs i + ((j : Int) - (i : Int)) ≤ pre rs j := by
  intro i j hij hj
  induction j with
  | zero =>
    have : i = 0 := by omega
    subst this; simp
  | succ j ih =>
    by_cases h : i = j + 1
    · subst h; simp
    · have h1 := ih (by omega) (by omega)
      have hlt : j < rs.length := by omega
      have e := pre_step (List.getElem?_eq_getElem hlt)
      have p := hp _ (List.getElem_mem hlt)
      rw [e]
      omega
theorem pre_nonneg {rs : List Int} (hp : ∀ r ∈ rs, 1 ≤ r) {j : Nat} (hj : j ≤ rs.length) : (j : Int) ≤ pre rs j := by
  have := pre_mono hp (Nat.zero_le j) hj
  rw [pre_zero] at this
  omega
theorem sum_ge {rs : List Int} (hp : ∀ r ∈ rs, 1 ≤ r) : (rs.length : Int) ≤ rs.sum := by
  have := pre_nonneg hp (Nat.le_refl rs.length)
  rw [pre_len] at this
  exact this
theorem Rnds.len {rs : List Int} (h : Rnds rs) : 0 < rs.length := List.length_pos_iff.mpr h.ne
theorem Rnds.sum {rs : List Int} (h : Rnds rs) : 0 < rs.sum := by
  have := sum_ge h.pos
  have := h.len
  omega
theorem walkR_spec : ∀ (rs : List Int) (left found : Int), 0 ≤ left → left < rs.sum → ∃ j : Nat, j < rs.length ∧ walkR rs left found = found + j ∧ pre rs j ≤ left ∧ left < pre rs (j + 1)
  | [], left, found, h0, h1 => by simp at h1; omega
  | r :: rs, left, found, h0, h1 => by
    unfold walkR
    by_cases c : left < r
    · refine ⟨0, by simp, by simp [c], ?_, ?_⟩
      · rw [pre_zero]; exact h0
      · rw [pre_cons, pre_zero]; omega
    · rw [if_neg c]
      obtain ⟨j, hj, e, h2, h3⟩ := walkR_spec rs (left - r) (found + 1) (by omega) (by rw [List.sum_cons] at h1; omega)
      refine ⟨j + 1, by simp; omega, ?_, ?_, ?_⟩
      · rw [e]; push_cast; omega
      · rw [pre_cons]; omega
      · rw [pre_cons]; omega
theorem pre_uniq {rs : List Int} (hp : ∀ r ∈ rs, 1 ≤ r) {i j : Nat} (hi : i < rs.length) (hj : j < rs.length) {x : Int} (h1 : pre rs i ≤ x) (h2 : x < pre rs (i + 1)) (h3 : pre rs j ≤ x) (h4 : x < pre rs (j + 1)) : i = j := by
  by_cases h : i < j
  · have := pre_mono hp (i := i + 1) (j := j) (by omega) (by omega)
    omega
  · by_cases h' : j < i
    · have := pre_mono hp (i := j + 1) (j := i) (by omega) (by omega)
      omega
    · omega
theorem emod_nat {k : Int} {n : Nat} (h : 0 < n) : ∃ j : Nat, j < n ∧ k % (n : Int) = (j : Int) ∧ (j : Int) + (n : Int) * (k / (n : Int)) = k := by
  have h0 := Int.emod_nonneg k (show (n : Int) ≠ 0 by omega)
  have h1 := Int.emod_lt_of_pos k (show (0 : Int) < n by omega)
  have h2 := Int.emod_add_mul_ediv k (n : Int)
  exact ⟨(k % n).toNat, by omega, by omega, by omega⟩
/-- a round, by its place in the turn -/
theorem firstOf_at {rs : List Int} (h : Rnds rs) (q : Int) {j : Nat} (hj : j ≤ rs.length) : firstOf rs (q * rs.length + j) = q * rs.sum + pre rs j := by
  have hl := h.len
  unfold firstOf
  by_cases e : j = rs.length
  · have h1 : (q * (rs.length : Int) + (j : Int)) / (rs.length : Int) = q + 1 ∧ (q * (rs.length : Int) + (j : Int)) % (rs.length : Int) = 0 := by
      rw [Int.ediv_emod_unique (by omega)]
      refine ⟨?_, by omega, by omega⟩
      rw [e, Int.mul_add, Int.mul_comm q]; omega
    rw [h1.1, h1.2, e, pre_len]
    show (q + 1) * rs.sum + pre rs (Int.toNat 0) = _
    rw [show Int.toNat 0 = 0 from rfl, pre_zero, Int.add_mul]
    omega
  · have h1 : (q * (rs.length : Int) + (j : Int)) / (rs.length : Int) = q ∧ (q * (rs.length : Int) + (j : Int)) % (rs.length : Int) = (j : Int) := by
      rw [Int.ediv_emod_unique (by omega)]
      refine ⟨?_, by omega, by omega⟩
      rw [Int.mul_comm q]; omega
    rw [h1.1, h1.2]
    simp
theorem firstOf_step {rs : List Int} (h : Rnds rs) (k : Int) {r : Int} (hr : rs[(k % rs.length).toNat]? = some r) : firstOf rs (k + 1) = firstOf rs k + r := by
  obtain ⟨j, hj, e, f⟩ := emod_nat (k := k) h.len
  rw [e] at hr
  have hr' : rs[j]? = some r := by simpa using hr
  have e1 : k = (k / rs.length) * rs.length + j := by rw [Int.mul_comm]; omega
  have a1 := firstOf_at h (k / rs.length) (Nat.le_of_lt hj)
  have a2 := firstOf_at h (k / rs.length) (Nat.succ_le_of_lt hj)
  rw [← e1] at a1
  have e2 : k / (rs.length : Int) * (rs.length : Int) + ((Nat.succ j : Nat) : Int) = k + 1 := by push_cast; omega
  rw [e2] at a2
  rw [a1, a2]
  show _ + pre rs (j + 1) = _
  rw [pre_step hr']
  omega
theorem get_round {rs : List Int} (h : Rnds rs) (k : Int) : ∃ r, rs[(k % rs.length).toNat]? = some r ∧ 1 ≤ r ∧ r ∈ rs := by
  obtain ⟨j, hj, e, f⟩ := emod_nat (k := k) h.len
  refine ⟨rs[j], ?_, h.pos _ (List.getElem_mem hj), List.getElem_mem hj⟩
  rw [e]
  simpa using List.getElem?_eq_getElem hj
theorem firstOf_lt {rs : List Int} (h : Rnds rs) (k : Int) : firstOf rs k + 1 ≤ firstOf rs (k + 1) := by
  obtain ⟨r, h1, h2, _⟩ := get_round h k
  rw [firstOf_step h k h1]
  omega
theorem firstOf_zero {rs : List Int} (h : Rnds rs) : firstOf rs 0 = 0 := by
  have := firstOf_at h 0 (Nat.zero_le rs.length)
  simp [pre_zero] at this
  exact this
/-- a night between a round's ends lies in it -/
theorem numOf_of {rs : List Int} (h : Rnds rs) {k m : Int} (h1 : firstOf rs k ≤ m) (h2 : m < firstOf rs (k + 1)) : numOf rs m = k := by
  obtain ⟨j, hj, e, f⟩ := emod_nat (k := k) h.len
  have e1 : k = (k / rs.length) * rs.length + j := by rw [Int.mul_comm]; omega
  have a1 := firstOf_at h (k / rs.length) (Nat.le_of_lt hj)
  have a2 := firstOf_at h (k / rs.length) (Nat.succ_le_of_lt hj)
  rw [← e1] at a1
  have e2 : k / (rs.length : Int) * (rs.length : Int) + ((Nat.succ j : Nat) : Int) = k + 1 := by push_cast; omega
  rw [e2] at a2
  rw [a1] at h1
  rw [a2] at h2
  have b0 := pre_nonneg h.pos (Nat.le_of_lt hj)
  have b1 := pre_mono h.pos (i := j + 1) (j := rs.length) (by omega) (Nat.le_refl _)
  rw [pre_len] at b1
  have h2' : m < k / (rs.length : Int) * rs.sum + pre rs (j + 1) := h2
  have h3 : m / rs.sum = k / rs.length ∧ m % rs.sum = m - (k / rs.length) * rs.sum := by
    rw [Int.ediv_emod_unique h.sum]
    refine ⟨by rw [Int.mul_comm rs.sum]; omega, by omega, by omega⟩
  unfold numOf
  rw [h3.1, h3.2]
  obtain ⟨i, hi, w, p1, p2⟩ := walkR_spec rs (m - k / ↑rs.length * rs.sum) (k / ↑rs.length * ↑rs.length) (by omega) (by omega)
  rw [w]
  have : i = j := pre_uniq h.pos hi hj p1 p2 (by omega) (by omega)
  subst this
  omega
/-- each night lies between the ends of its round -/
theorem numOf_spec {rs : List Int} (h : Rnds rs) (m : Int) : firstOf rs (numOf rs m) ≤ m ∧ m < firstOf rs (numOf rs m + 1) := by
  have hs := h.sum
  obtain ⟨i, hi, w, p1, p2⟩ := walkR_spec rs (m % rs.sum) (m / rs.sum * rs.length) (Int.emod_nonneg m (by omega)) (Int.emod_lt_of_pos m hs)
  have hm := Int.emod_add_mul_ediv m rs.sum
  have e : numOf rs m = m / rs.sum * rs.length + i := w
  have a1 := firstOf_at h (m / rs.sum) (Nat.le_of_lt hi)
  have a2 := firstOf_at h (m / rs.sum) (Nat.succ_le_of_lt hi)
  have e2 : m / rs.sum * (rs.length : Int) + ((Nat.succ i : Nat) : Int) = numOf rs m + 1 := by rw [e]; push_cast; omega
  rw [← e] at a1
  rw [e2] at a2
  rw [a1, a2]
  have c := Int.mul_comm rs.sum (m / rs.sum)
  refine ⟨by omega, ?_⟩
  show m < m / rs.sum * rs.sum + pre rs (i + 1)
  omega
theorem firstOf_mono {rs : List Int} (h : Rnds rs) (i : Int) : ∀ d : Nat, firstOf rs i + d ≤ firstOf rs (i + d)
  | 0 => by simp
  | d + 1 => by
    have h1 := firstOf_mono h i d
    have h2 := firstOf_lt h (i + d)
    push_cast
    rw [Int.add_assoc i d 1] at h2
    omega
theorem firstOf_le {rs : List Int} (h : Rnds rs) {i j : Int} (hij : i ≤ j) : firstOf rs i + (j - i) ≤ firstOf rs j := by
  have := firstOf_mono h i (j - i).toNat
  rw [show i + ((j - i).toNat : Int) = j by omega] at this
  omega
theorem firstOf_pos {rs : List Int} (h : Rnds rs) {k : Int} (hk : 0 ≤ k) : k ≤ firstOf rs k := by
  have := firstOf_le h hk
  rw [firstOf_zero h] at this
  omega
theorem numOf_nonneg {rs : List Int} (h : Rnds rs) {n : Int} (hn : 0 ≤ n) : 0 ≤ numOf rs n := by
  have h2 := (numOf_spec h n).2
  by_cases c : 0 ≤ numOf rs n
  · exact c
  · have := firstOf_le h (i := numOf rs n + 1) (j := 0) (by omega)
    rw [firstOf_zero h] at this
    omega
theorem numOf_le {rs : List Int} (h : Rnds rs) {n : Int} (hn : 0 ≤ n) : numOf rs n ≤ n := by
  have h1 := (numOf_spec h n).1
  have h2 := firstOf_pos h (numOf_nonneg h hn)
  omega
/-- later nights lie in no earlier rounds -/
theorem numOf_mono {rs : List Int} (h : Rnds rs) {m n : Int} (hmn : m ≤ n) : numOf rs m ≤ numOf rs n := by
  have h1 := (numOf_spec h m).1
  have h2 := (numOf_spec h n).2
  by_cases c : numOf rs m ≤ numOf rs n
  · exact c
  · have := firstOf_le h (i := numOf rs n + 1) (j := numOf rs m) (by omega)
    omega
/-- a whole turn later -/
theorem firstOf_turn {rs : List Int} (h : Rnds rs) (k : Int) : firstOf rs (k + rs.length) = firstOf rs k + rs.sum := by
  obtain ⟨j, hj, e, f⟩ := emod_nat (k := k) h.len
  have e1 : k = (k / rs.length) * rs.length + j := by rw [Int.mul_comm]; omega
  have a1 := firstOf_at h (k / rs.length) (Nat.le_of_lt hj)
  have a2 := firstOf_at h (k / rs.length + 1) (Nat.le_of_lt hj)
  rw [← e1] at a1
  have e2 : (k / rs.length + 1) * (rs.length : Int) + (j : Int) = k + rs.length := by rw [Int.add_mul]; omega
  rw [e2] at a2
  rw [a1, a2, Int.add_mul]
  omega
theorem numOf_turn {rs : List Int} (h : Rnds rs) (n : Int) : numOf rs (n + rs.sum) = numOf rs n + rs.length := by
  obtain ⟨h1, h2⟩ := numOf_spec h n
  have a1 := firstOf_turn h (numOf rs n)
  have a2 := firstOf_turn h (numOf rs n + 1)
  refine numOf_of h (by omega) ?_
  rw [show numOf rs n + (rs.length : Int) + 1 = numOf rs n + 1 + rs.length by omega]
  omega
theorem firstOf_ge {rs : List Int} (h : Rnds rs) : ∀ k : Nat, (k : Int) ≤ firstOf rs k
  | 0 => by rw [show ((0 : Nat) : Int) = 0 from rfl, firstOf_zero h]; omega
  | k + 1 => by
    have h1 := firstOf_ge h k
    have h2 := firstOf_lt h k
    push_cast
    omega
end Nk
/-! ### what rules keep: plain mathematics -/
namespace Nk
/-- going back through nights: those whose round is another one than that of the night gone through just before -/
def endsR (rs : List Int) : Option Int → List Int → List Int
  | _, [] => []
  | ah, n :: l => if ah = some (numOf rs n) then endsR rs (some (numOf rs n)) l else n :: endsR rs (some (numOf rs n)) l
def lastN (rs : List Int) (ah : Option Int) (l : List Int) : Option Int := match l.getLast? with
  | some n => some (numOf rs n)
  | none => ah
theorem lastN_cons (rs : List Int) (ah : Option Int) (n : Int) (l : List Int) : lastN rs ah (n :: l) = lastN rs (some (numOf rs n)) l := by
  unfold lastN
  cases l with
  | nil => rfl
  | cons m r => rw [List.getLast?_cons_cons]; cases h : (m :: r).getLast? <;> simp_all
theorem endsR_snoc (rs : List Int) : ∀ (l : List Int) (ah : Option Int) (n : Int), endsR rs ah (l ++ [n]) = endsR rs ah l ++ (if lastN rs ah l = some (numOf rs n) then [] else [n])
  | [], ah, n => by
    by_cases h : ah = some (numOf rs n) <;> simp [endsR, lastN, h]
  | m :: l, ah, n => by
    rw [lastN_cons]
    simp only [List.cons_append, endsR]
    rw [endsR_snoc rs l]
    split <;> simp
theorem lastN_snoc (rs : List Int) (ah : Option Int) (l : List Int) (n : Int) : lastN rs ah (l ++ [n]) = some (numOf rs n) := by
  simp [lastN]
/-- the last nights of the rounds, rising -/
def endsF (rs : List Int) : List Int → List Int
  | [] => []
  | [n] => [n]
  | n :: m :: l => if numOf rs n = numOf rs m then endsF rs (m :: l) else n :: endsF rs (m :: l)
theorem endsF_eq (rs : List Int) : ∀ ns : List Int, endsF rs ns = (endsR rs none ns.reverse).reverse
  | [] => rfl
  | [n] => by simp [endsF, endsR]
  | n :: m :: l => by
    rw [List.reverse_cons, endsR_snoc]
    have h : lastN rs none (m :: l).reverse = some (numOf rs m) := by simp [lastN]
    rw [h, List.reverse_append, ← endsF_eq rs (m :: l)]
    simp only [endsF, Option.some.injEq]
    by_cases e : numOf rs n = numOf rs m
    · rw [if_pos e, if_pos e.symm]; rfl
    · rw [if_neg e, if_neg (fun z => e z.symm)]; rfl
/-- what one rule keeps, the last one first -/
def keptBy (ru : List Int × Int) (ns : List Int) : List Int := (endsR ru.1 none ns.reverse).take ru.2.toNat
/-- .. rising -/
def keptUp (ru : List Int × Int) (ns : List Int) : List Int := (endsF ru.1 ns).drop ((endsF ru.1 ns).length - ru.2.toNat)
theorem keptUp_eq (ru : List Int × Int) (ns : List Int) : keptUp ru ns = (keptBy ru ns).reverse := by
  unfold keptUp keptBy
  rw [endsF_eq, List.length_reverse, List.reverse_take]
theorem endsR_sub (rs : List Int) : ∀ (l : List Int) (ah : Option Int), ∀ n ∈ endsR rs ah l, n ∈ l
  | [], _, n, h => by simp [endsR] at h
  | m :: l, ah, n, h => by
    simp only [endsR] at h
    split at h
    · exact List.mem_cons_of_mem _ (endsR_sub rs l _ n h)
    · rcases List.mem_cons.mp h with e | h
      · rw [e]; exact List.mem_cons_self
      · exact List.mem_cons_of_mem _ (endsR_sub rs l _ n h)
theorem keptBy_sub {ru : List Int × Int} {ns : List Int} {n : Int} (h : n ∈ keptBy ru ns) : n ∈ ns := by
  have := endsR_sub ru.1 _ _ n (List.mem_of_mem_take h)
  simpa using this
theorem mem_keptUp {ru : List Int × Int} {ns : List Int} {n : Int} : n ∈ keptUp ru ns ↔ n ∈ keptBy ru ns := by
  rw [keptUp_eq, List.mem_reverse]
/-- what rules keep, rising -/
def keptF (rules : List (List Int × Int)) (ns : List Int) : List Int := ns.filter fun n => rules.any fun ru => decide (n ∈ keptBy ru ns)
theorem mem_keptF {rules : List (List Int × Int)} {ns : List Int} {n : Int} : n ∈ keptF rules ns ↔ ∃ ru ∈ rules, n ∈ keptBy ru ns := by
  unfold keptF
  rw [List.mem_filter, List.any_eq_true]
  constructor
  · rintro ⟨_, ru, h1, h2⟩
    exact ⟨ru, h1, of_decide_eq_true h2⟩
  · rintro ⟨ru, h1, h2⟩
    exact ⟨keptBy_sub h2, ru, h1, decide_eq_true h2⟩
theorem keptF_rise {rules : List (List Int × Int)} {ns : List Int} (h : ns.Pairwise (· < ·)) : (keptF rules ns).Pairwise (· < ·) := h.filter _
/-- two rising lists with the same members are one -/
theorem rise_ext : ∀ {l m : List Int}, l.Pairwise (· < ·) → m.Pairwise (· < ·) → (∀ x, x ∈ l ↔ x ∈ m) → l = m
  | [], [], _, _, _ => rfl
  | [], y :: m, _, _, h => absurd ((h y).mpr List.mem_cons_self) (by simp)
  | x :: l, [], _, _, h => absurd ((h x).mp List.mem_cons_self) (by simp)
  | x :: l, y :: m, hl, hm, h => by
    obtain ⟨hx, hl'⟩ := List.pairwise_cons.mp hl
    obtain ⟨hy, hm'⟩ := List.pairwise_cons.mp hm
    have e : x = y := by
      rcases List.mem_cons.mp ((h x).mp List.mem_cons_self) with e | h1
      · exact e
      · rcases List.mem_cons.mp ((h y).mpr List.mem_cons_self) with e | h2
        · exact e.symm
        · have a := hx y h2
          have b := hy x h1
          omega
    subst e
    have : l = m := rise_ext hl' hm' fun z => by
      constructor
      · intro hz
        have hxz := hx z hz
        rcases List.mem_cons.mp ((h z).mp (List.mem_cons_of_mem _ hz)) with e | h1
        · omega
        · exact h1
      · intro hz
        have hxz := hy z hz
        rcases List.mem_cons.mp ((h z).mpr (List.mem_cons_of_mem _ hz)) with e | h1
        · omega
        · exact h1
    rw [this]
theorem rise_of_le {l : List Int} (h : l.Pairwise (· ≤ ·)) (nd : l.Nodup) : l.Pairwise (· < ·) := by
  have := h.and nd
  exact this.imp fun {a b} ⟨h1, h2⟩ => by omega
theorem take_prefix {α : Type} {l : List α} {p : List α} {k : Nat} (h : ∃ t, l = p ++ t) (hp : p.length = k) : p = l.take k := by
  obtain ⟨t, rfl⟩ := h
  subst hp
  simp
theorem endsR_pre (rs : List Int) (ah : Option Int) : ∀ (t l : List Int), ∃ u, endsR rs ah (l ++ t) = endsR rs ah l ++ u
  | [], l => ⟨[], by simp⟩
  | x :: t, l => by
    obtain ⟨u, hu⟩ := endsR_pre rs ah t (l ++ [x])
    rw [List.append_assoc, List.singleton_append] at hu
    rw [hu, endsR_snoc, List.append_assoc]
    exact ⟨_, rfl⟩
end Nk
/-! ### each night has a copy: plain mathematics -/
namespace Nk
theorem endsF_sublist (rs : List Int) : ∀ ns : List Int, (endsF rs ns).Sublist ns
  | [] => .slnil
  | [n] => List.Sublist.refl _
  | n :: m :: l => by
    have ih := endsF_sublist rs (m :: l)
    simp only [endsF]
    split
    · exact ih.cons n
    · exact ih.cons₂ n
theorem endsF_rise {rs ns : List Int} (h : ns.Pairwise (· < ·)) : (endsF rs ns).Pairwise (· < ·) := h.sublist (endsF_sublist rs ns)
/-- the last of its round -/
theorem mem_endsF {rs : List Int} (h : Rnds rs) : ∀ ns : List Int, ns.Pairwise (· < ·) → ∀ m, m ∈ endsF rs ns ↔ m ∈ ns ∧ ∀ m' ∈ ns, m < m' → numOf rs m < numOf rs m'
  | [], _, m => by simp [endsF]
  | [n], _, m => by
    simp only [endsF, List.mem_singleton]
    constructor
    · rintro rfl
      exact ⟨rfl, fun m' e h => by omega⟩
    · exact fun z => z.1
  | n :: k :: l, hp, m => by
    obtain ⟨hn, hp'⟩ := List.pairwise_cons.mp hp
    have ih := mem_endsF h (k :: l) hp' m
    have hk : n < k := hn k List.mem_cons_self
    have hmono : ∀ x ∈ k :: l, numOf rs k ≤ numOf rs x := fun x hx => by
      rcases List.mem_cons.mp hx with rfl | hx
      · omega
      · have := (List.pairwise_cons.mp hp').1 x hx
        exact numOf_mono h (by omega)
    have hnk := numOf_mono h (show n ≤ k by omega)
    simp only [endsF]
    split
    · rename_i e
      rw [ih]
      constructor
      · rintro ⟨h1, h2⟩
        refine ⟨List.mem_cons_of_mem _ h1, fun m' hm' hlt => ?_⟩
        rcases List.mem_cons.mp hm' with rfl | hm'
        · have := hn m h1
          omega
        · exact h2 m' hm' hlt
      · rintro ⟨h1, h2⟩
        rcases List.mem_cons.mp h1 with rfl | h1
        · have := h2 k (by simp) hk
          omega
        · exact ⟨h1, fun m' hm' => h2 m' (List.mem_cons_of_mem _ hm')⟩
    · rename_i e
      rw [List.mem_cons, ih]
      constructor
      · rintro (rfl | ⟨h1, h2⟩)
        · refine ⟨List.mem_cons_self, fun m' hm' hlt => ?_⟩
          rcases List.mem_cons.mp hm' with rfl | hm'
          · omega
          · have := hmono m' hm'
            omega
        · refine ⟨List.mem_cons_of_mem _ h1, fun m' hm' hlt => ?_⟩
          rcases List.mem_cons.mp hm' with rfl | hm'
          · have := hn m h1
            omega
          · exact h2 m' hm' hlt
      · rintro ⟨h1, h2⟩
        rcases List.mem_cons.mp h1 with rfl | h1
        · exact .inl rfl
        · exact .inr ⟨h1, fun m' hm' => h2 m' (List.mem_cons_of_mem _ hm')⟩
/-- the nights from 0 to n -/
def upTo (n : Int) : List Int := (List.range (n + 1).toNat).map fun i : Nat => (i : Int)
theorem mem_upTo {n m : Int} : m ∈ upTo n ↔ 0 ≤ m ∧ m ≤ n := by
  unfold upTo
  rw [List.mem_map]
  constructor
  · rintro ⟨i, hi, rfl⟩
    have := List.mem_range.mp hi
    omega
  · intro h
    exact ⟨m.toNat, List.mem_range.mpr (by omega), by omega⟩
theorem rise_range_map (f : Nat → Int) (hf : ∀ i j, i < j → f i < f j) (n : Nat) : ((List.range n).map f).Pairwise (· < ·) := by
  rw [List.pairwise_map]
  exact (List.pairwise_lt_range (n := n)).imp fun {a b} h => hf a b h
theorem upTo_rise (n : Int) : (upTo n).Pairwise (· < ·) := rise_range_map (fun i : Nat => (i : Int)) (fun i j h => by omega) _
theorem upTo_len (n : Int) : (upTo n).length = (n + 1).toNat := by simp [upTo]
/-- the last nights of all rounds up to that of n, and n -/
def expl (rs : List Int) (n : Int) : List Int := ((List.range (numOf rs n).toNat).map fun k : Nat => firstOf rs ((k : Int) + 1) - 1) ++ [n]
theorem expl_rise {rs : List Int} (h : Rnds rs) {n : Int} (hn : 0 ≤ n) : (expl rs n).Pairwise (· < ·) := by
  have hN := numOf_nonneg h hn
  refine List.pairwise_append.mpr ⟨rise_range_map _ (fun i j hij => ?_) _, List.pairwise_singleton _ _, fun x hx y hy => ?_⟩
  · have := firstOf_le h (i := (i : Int) + 1) (j := (j : Int) + 1) (by omega)
    omega
  · rw [List.mem_singleton.mp hy]
    obtain ⟨k, hk, rfl⟩ := List.mem_map.mp hx
    have hk := List.mem_range.mp hk
    have := firstOf_le h (i := (k : Int) + 1) (j := numOf rs n) (by omega)
    have := (numOf_spec h n).1
    omega
theorem endsF_upTo {rs : List Int} (h : Rnds rs) {n : Int} (hn : 0 ≤ n) : endsF rs (upTo n) = expl rs n := by
  have hN := numOf_nonneg h hn
  obtain ⟨hf1, hf2⟩ := numOf_spec h n
  refine rise_ext (endsF_rise (upTo_rise n)) (expl_rise h hn) fun m => ?_
  rw [mem_endsF h _ (upTo_rise n)]
  unfold expl
  rw [List.mem_append, List.mem_singleton, List.mem_map]
  constructor
  · rintro ⟨h1, h2⟩
    obtain ⟨m0, m1⟩ := mem_upTo.mp h1
    by_cases c : m = n
    · exact .inr c
    · left
      have h3 := h2 (m + 1) (mem_upTo.mpr ⟨by omega, by omega⟩) (by omega)
      obtain ⟨g1, g2⟩ := numOf_spec h m
      have hm0 := numOf_nonneg h m0
      have h4 : firstOf rs (numOf rs m + 1) = m + 1 := by
        by_cases c2 : m + 1 < firstOf rs (numOf rs m + 1)
        · have := numOf_of h (k := numOf rs m) (m := m + 1) (by omega) c2
          omega
        · omega
      have h5 := numOf_mono h (show m + 1 ≤ n by omega)
      refine ⟨(numOf rs m).toNat, List.mem_range.mpr (by omega), ?_⟩
      rw [show ((numOf rs m).toNat : Int) = numOf rs m by omega, h4]
      omega
  · rintro (⟨k, hk, rfl⟩ | rfl)
    · have hk := List.mem_range.mp hk
      have a1 := firstOf_pos h (show 0 ≤ (k : Int) + 1 by omega)
      have a2 := firstOf_le h (i := (k : Int) + 1) (j := numOf rs n) (by omega)
      have a3 := firstOf_lt h (k : Int)
      have b1 : numOf rs (firstOf rs ((k : Int) + 1) - 1) = k := numOf_of h (by omega) (by omega)
      have b2 : numOf rs (firstOf rs ((k : Int) + 1)) = (k : Int) + 1 := numOf_of h (by omega) (by have := firstOf_lt h ((k : Int) + 1); omega)
      refine ⟨mem_upTo.mpr ⟨by omega, by omega⟩, fun m' _ hlt => ?_⟩
      have := numOf_mono h (show firstOf rs ((k : Int) + 1) ≤ m' by omega)
      omega
    · refine ⟨mem_upTo.mpr ⟨hn, by omega⟩, fun m' hm' hlt => ?_⟩
      have := mem_upTo.mp hm'
      omega
theorem mem_drop_range {n d k : Nat} : k ∈ (List.range n).drop d ↔ d ≤ k ∧ k < n := by
  rw [List.mem_iff_getElem?]
  constructor
  · rintro ⟨i, hi⟩
    rw [List.getElem?_drop] at hi
    obtain ⟨h1, h2⟩ := List.getElem?_eq_some_iff.mp hi
    simp at h1 h2
    omega
  · rintro ⟨h1, h2⟩
    refine ⟨k - d, ?_⟩
    rw [List.getElem?_drop, show d + (k - d) = k by omega]
    simp [h2]
/-- what stands at night n, if each night has a copy, by one rule -/
def standBy (ru : List Int × Int) (n m : Int) : Prop := m = n ∨ ∃ k : Int, 0 ≤ k ∧ numOf ru.1 n - ru.2 + 1 ≤ k ∧ k < numOf ru.1 n ∧ m = firstOf ru.1 (k + 1) - 1
theorem mem_keptUp_upTo {ru : List Int × Int} (h : Rnds ru.1) (hm : 1 ≤ ru.2) {n : Int} (hn : 0 ≤ n) (m : Int) : m ∈ keptUp ru (upTo n) ↔ standBy ru n m := by
  have hN := numOf_nonneg h hn
  unfold keptUp standBy
  rw [endsF_upTo h hn]
  have hlen : (expl ru.1 n).length = (numOf ru.1 n).toNat + 1 := by simp [expl]
  rw [hlen]
  unfold expl
  rw [List.drop_append_of_le_length (by simp; omega), List.mem_append, List.mem_singleton, ← List.map_drop, List.mem_map]
  constructor
  · rintro (⟨k, hk, rfl⟩ | rfl)
    · obtain ⟨k1, k2⟩ := mem_drop_range.mp hk
      exact .inr ⟨k, by omega, by omega, by omega, rfl⟩
    · exact .inl rfl
  · rintro (rfl | ⟨k, k0, k1, k2, rfl⟩)
    · exact .inr rfl
    · refine .inl ⟨k.toNat, mem_drop_range.mpr ⟨by omega, by omega⟩, ?_⟩
      rw [show (k.toNat : Int) = k by omega]
def standS (rus : List (List Int × Int)) (n m : Int) : Prop := m = n ∨ ∃ ru ∈ rus, ∃ k : Int, 0 ≤ k ∧ numOf ru.1 n - ru.2 + 1 ≤ k ∧ k < numOf ru.1 n ∧ m = firstOf ru.1 (k + 1) - 1
theorem mem_keptF_upTo {rus : List (List Int × Int)} (h : ∀ ru ∈ rus, Rnds ru.1 ∧ 1 ≤ ru.2) (hne : rus ≠ []) {n : Int} (hn : 0 ≤ n) (m : Int) : m ∈ keptF rus (upTo n) ↔ standS rus n m := by
  rw [mem_keptF]
  unfold standS
  constructor
  · rintro ⟨ru, h1, h2⟩
    rcases (mem_keptUp_upTo (h ru h1).1 (h ru h1).2 hn m).mp (mem_keptUp.mpr h2) with h3 | h3
    · exact .inl h3
    · exact .inr ⟨ru, h1, h3⟩
  · rintro (h1 | ⟨ru, h1, h3⟩)
    · obtain ⟨ru, hru⟩ := List.exists_mem_of_ne_nil rus hne
      exact ⟨ru, hru, mem_keptUp.mp ((mem_keptUp_upTo (h ru hru).1 (h ru hru).2 hn m).mpr (.inl h1))⟩
    · exact ⟨ru, h1, mem_keptUp.mp ((mem_keptUp_upTo (h ru h1).1 (h ru h1).2 hn m).mpr (.inr h3))⟩
/-- differences of neighbours -/
def diffsOf : List Int → List Int
  | x :: y :: r => (y - x) :: diffsOf (y :: r)
  | _ => []
theorem diffsOf_get : ∀ (l : List Int) (i : Nat) {x y : Int}, l[i]? = some x → l[i + 1]? = some y → (diffsOf l)[i]? = some (y - x)
  | [], _, _, _, h, _ => by simp at h
  | [_], 0, _, _, _, h => by simp at h
  | [_], i + 1, _, _, h, _ => by simp at h
  | a :: b :: r, 0, x, y, h, h2 => by
    have e1 : a = x := by simpa using h
    have e2 : b = y := by simpa using h2
    rw [← e1, ← e2]; rfl
  | a :: b :: r, i + 1, x, y, h, h2 => by
    have := diffsOf_get (b :: r) i (x := x) (y := y) (by simpa using h) (by simpa using h2)
    simpa [diffsOf] using this
theorem diffsOf_len : ∀ l : List Int, (diffsOf l).length = l.length - 1
  | [] => rfl
  | [_] => rfl
  | x :: y :: r => by
    have := diffsOf_len (y :: r)
    simp only [diffsOf, List.length_cons] at this ⊢
    omega
/-- the greatest of some, and 0 -/
def maxZ (l : List Int) : Int := l.foldl (fun a b => max a b) 0
theorem foldl_max_ge : ∀ (l : List Int) (a : Int), a ≤ l.foldl (fun a b => max a b) a ∧ ∀ x ∈ l, x ≤ l.foldl (fun a b => max a b) a
  | [], a => by simp
  | y :: l, a => by
    obtain ⟨h1, h2⟩ := foldl_max_ge l (max a y)
    refine ⟨?_, fun x hx => ?_⟩
    · simp only [List.foldl_cons]; omega
    · simp only [List.foldl_cons]
      rcases List.mem_cons.mp hx with rfl | hx
      · omega
      · exact h2 x hx
theorem foldl_max_mem : ∀ (l : List Int) (a : Int), l.foldl (fun a b => max a b) a = a ∨ l.foldl (fun a b => max a b) a ∈ l
  | [], a => .inl rfl
  | y :: l, a => by
    simp only [List.foldl_cons]
    rcases foldl_max_mem l (max a y) with h | h
    · rw [h]
      by_cases c : a ≤ y
      · right; rw [show max a y = y by omega]; exact List.mem_cons_self
      · left; omega
    · exact .inr (List.mem_cons_of_mem _ h)
theorem maxZ_of {l : List Int} {m : Int} (h1 : m ∈ l ∨ m = 0) (h2 : ∀ x ∈ l, x ≤ m) (h3 : 0 ≤ m) : m = maxZ l := by
  obtain ⟨g1, g2⟩ := foldl_max_ge l 0
  have g3 := foldl_max_mem l 0
  unfold maxZ
  rcases h1 with h1 | h1
  · have := g2 m h1
    rcases g3 with g | g
    · omega
    · have := h2 _ g
      omega
  · rcases g3 with g | g
    · omega
    · have := h2 _ g
      omega
end Nk
/-! ### what is left by the way: plain mathematics -/
namespace Nk
theorem endsR_filter (rs : List Int) (p : Int → Bool) : ∀ (l : List Int) (ah : Option Int) (m : Nat), (∀ x ∈ (endsR rs ah l).take m, p x = true) → (endsR rs ah (l.filter p)).take m = (endsR rs ah l).take m
  | [], _, _, _ => rfl
  | x :: l, ah, m, h => by
    by_cases c : ah = some (numOf rs x)
    · have e : endsR rs ah (x :: l) = endsR rs ah l := by simp only [endsR]; rw [if_pos c, c]
      rw [e] at h ⊢
      rw [← endsR_filter rs p l ah m h]
      by_cases px : p x = true
      · rw [List.filter_cons_of_pos px]
        have e2 : endsR rs ah (x :: l.filter p) = endsR rs ah (l.filter p) := by simp only [endsR]; rw [if_pos c, c]
        rw [e2]
      · rw [List.filter_cons_of_neg px]
    · have e : endsR rs ah (x :: l) = x :: endsR rs (some (numOf rs x)) l := by simp only [endsR]; rw [if_neg c]
      rw [e] at h ⊢
      cases m with
      | zero => simp
      | succ m =>
        rw [List.take_succ_cons] at h ⊢
        have px := h x List.mem_cons_self
        rw [List.filter_cons_of_pos px]
        have e2 : endsR rs ah (x :: l.filter p) = x :: endsR rs (some (numOf rs x)) (l.filter p) := by simp only [endsR]; rw [if_neg c]
        rw [e2, List.take_succ_cons, endsR_filter rs p l _ m fun y hy => h y (List.mem_cons_of_mem _ hy)]
theorem keptBy_filter {ru : List Int × Int} {ns : List Int} {p : Int → Bool} (h : ∀ x ∈ keptBy ru ns, p x = true) : keptBy ru (ns.filter p) = keptBy ru ns := by
  unfold keptBy at h ⊢
  rw [← List.filter_reverse]
  exact endsR_filter _ p _ _ _ h
/-- a night more, and what is kept so far -/
theorem endsR_some (rs : List Int) (a : Int) : ∀ l : List Int, endsR rs (some a) l = match l with
    | [] => []
    | x :: _ => if a = numOf rs x then (endsR rs none l).tail else endsR rs none l
  | [] => rfl
  | x :: l => by
    simp only [endsR, Option.some.injEq, reduceCtorEq, if_false, List.tail_cons]
theorem endsR_head (rs : List Int) : ∀ l : List Int, (endsR rs none l).head? = l.head?
  | [] => rfl
  | x :: l => by simp [endsR]
def addTo (rs : List Int) (m : Nat) (n : Int) (k : List Int) : List Int := (n :: (match k with
  | [] => []
  | x :: t => if numOf rs n = numOf rs x then t else x :: t)).take m
theorem keptBy_snoc {ru : List Int × Int} (h : 1 ≤ ru.2) (ns : List Int) (n : Int) : keptBy ru (ns ++ [n]) = addTo ru.1 ru.2.toNat n (keptBy ru ns) := by
  unfold keptBy addTo
  rw [List.reverse_append, List.reverse_singleton, List.singleton_append]
  have e : endsR ru.1 none (n :: ns.reverse) = n :: endsR ru.1 (some (numOf ru.1 n)) ns.reverse := by simp [endsR]
  rw [e]
  obtain ⟨m, hm⟩ : ∃ m, ru.2.toNat = m + 1 := ⟨ru.2.toNat - 1, by omega⟩
  rw [hm, List.take_succ_cons, List.take_succ_cons]
  congr 1
  rw [endsR_some]
  cases hr : ns.reverse with
  | nil => simp [endsR]
  | cons x l =>
    simp only [endsR, reduceCtorEq, if_false, List.take_succ_cons]
    split
    · rw [List.tail_cons, List.take_take, Nat.min_self]
    · cases m with
      | zero => simp
      | succ m => simp [List.take_take]
/-- the last night is kept -/
theorem keptBy_last {ru : List Int × Int} (h : 1 ≤ ru.2) (ns : List Int) (n : Int) : ∃ t, keptBy ru (ns ++ [n]) = n :: t ∧ (t.length : Int) ≤ ru.2 - 1 := by
  rw [keptBy_snoc h]
  unfold addTo
  obtain ⟨m, hm⟩ : ∃ m, ru.2.toNat = m + 1 := ⟨ru.2.toNat - 1, by omega⟩
  rw [hm, List.take_succ_cons]
  refine ⟨_, rfl, ?_⟩
  rw [List.length_take]
  omega
theorem keptF_sub {rus : List (List Int × Int)} {ns : List Int} : ∀ n ∈ keptF rus ns, n ∈ ns := fun n h => (List.mem_filter.mp h).1
theorem keptF_congr {rus : List (List Int × Int)} {ns ms : List Int} (hn : ns.Pairwise (· < ·)) (hm : ms.Pairwise (· < ·)) (h : ∀ ru ∈ rus, keptBy ru ns = keptBy ru ms) : keptF rus ns = keptF rus ms :=
  rise_ext (keptF_rise hn) (keptF_rise hm) fun x => by
    rw [mem_keptF, mem_keptF]
    constructor
    · rintro ⟨ru, h1, h2⟩
      exact ⟨ru, h1, by rw [← h ru h1]; exact h2⟩
    · rintro ⟨ru, h1, h2⟩
      exact ⟨ru, h1, by rw [h ru h1]; exact h2⟩
theorem keptF_keptF {rus : List (List Int × Int)} {ns : List Int} (hn : ns.Pairwise (· < ·)) : keptF rus (keptF rus ns) = keptF rus ns := by
  refine keptF_congr (keptF_rise hn) hn fun ru hru => ?_
  unfold keptF
  refine keptBy_filter fun x hx => ?_
  rw [List.any_eq_true]
  exact ⟨ru, hru, decide_eq_true hx⟩
theorem keptF_last {rus : List (List Int × Int)} (h : ∀ ru ∈ rus, 1 ≤ ru.2) (hne : rus ≠ []) (ns : List Int) (n : Int) : ∃ t, keptF rus (ns ++ [n]) = t ++ [n] := by
  refine ⟨(ns.filter fun x => rus.any fun ru => decide (x ∈ keptBy ru (ns ++ [n]))), ?_⟩
  obtain ⟨ru, hru⟩ := List.exists_mem_of_ne_nil rus hne
  have hp : (rus.any fun ru => decide (n ∈ keptBy ru (ns ++ [n]))) = true := by
    rw [List.any_eq_true]
    refine ⟨ru, hru, decide_eq_true ?_⟩
    obtain ⟨t, e, _⟩ := keptBy_last (h ru hru) ns n
    rw [e]
    exact List.mem_cons_self
  unfold keptF
  rw [List.filter_append]
  congr 1
  exact List.filter_eq_self.mpr fun x hx => by rw [List.mem_singleton.mp hx]; exact hp
theorem drop_last (l : List Int) (n : Int) : (l ++ [n]).drop ((l ++ [n]).length - 1) = [n] := by simp
theorem keptF_end {rus : List (List Int × Int)} (h : ∀ ru ∈ rus, 1 ≤ ru.2) (hne : rus ≠ []) (ns : List Int) : (keptF rus ns).drop ((keptF rus ns).length - 1) = ns.drop (ns.length - 1) := by
  rcases List.eq_nil_or_concat ns with rfl | ⟨l, n, rfl⟩
  · rfl
  · rw [List.concat_eq_append]
    obtain ⟨t, e⟩ := keptF_last h hne l n
    rw [e, drop_last, drop_last]
theorem nodup_len : ∀ (l m : List Int), l.Nodup → (∀ x ∈ l, x ∈ m) → l.length ≤ m.length
  | [], _, _, _ => Nat.zero_le _
  | x :: l, m, hn, hs => by
    obtain ⟨h1, h2⟩ := List.nodup_cons.mp hn
    have hx := hs x List.mem_cons_self
    have h3 := nodup_len l (m.erase x) h2 fun y hy => by
      rw [List.mem_erase_of_ne (fun e => h1 (by rw [← e]; exact hy))]
      exact hs y (List.mem_cons_of_mem _ hy)
    rw [List.length_erase_of_mem hx] at h3
    have := List.length_pos_of_mem hx
    simp only [List.length_cons]
    omega
theorem rise_nodup {l : List Int} (h : l.Pairwise (· < ·)) : l.Nodup := h.imp fun {a b} h e => by omega
/-- no more are kept than all rules tell -/
theorem keptF_count {rus : List (List Int × Int)} (h : ∀ ru ∈ rus, 1 ≤ ru.2) {ns : List Int} (hn : ns.Pairwise (· < ·)) (hne : ns ≠ []) : ((keptF rus ns).length : Int) ≤ (rus.map (·.2)).sum - ((rus.length : Int) - 1) := by
  rcases List.eq_nil_or_concat ns with rfl | ⟨l, n, rfl⟩
  · exact absurd rfl hne
  · rw [List.concat_eq_append] at *
    have h1 := nodup_len (keptF rus (l ++ [n])) (n :: rus.flatMap fun ru => (keptBy ru (l ++ [n])).tail) (rise_nodup (keptF_rise hn)) fun x hx => by
      obtain ⟨ru, h1, h2⟩ := mem_keptF.mp hx
      obtain ⟨t, e, _⟩ := keptBy_last (h ru h1) l n
      rw [e] at h2
      rcases List.mem_cons.mp h2 with rfl | h2
      · exact List.mem_cons_self
      · refine List.mem_cons_of_mem _ (List.mem_flatMap.mpr ⟨ru, h1, ?_⟩)
        rw [e]
        exact h2
    have h2 : ∀ rs : List (List Int × Int), (∀ ru ∈ rs, 1 ≤ ru.2) → ((rs.flatMap fun ru => (keptBy ru (l ++ [n])).tail).length : Int) ≤ (rs.map (·.2)).sum - (rs.length : Int) := by
      intro rs
      induction rs with
      | nil => intro _; simp
      | cons ru rs ih =>
        intro hr
        have a := ih fun r hr' => hr r (List.mem_cons_of_mem _ hr')
        obtain ⟨t, e, b⟩ := keptBy_last (hr ru List.mem_cons_self) l n
        rw [List.flatMap_cons, List.length_append, e, List.tail_cons, List.map_cons, List.sum_cons, List.length_cons]
        push_cast
        omega
    have h3 := h2 rus h
    simp only [List.length_cons] at h1
    omega
/-- moved by whole turns -/
theorem numOf_turns {rs : List Int} (h : Rnds rs) (n : Int) : ∀ k : Nat, numOf rs (n + k * rs.sum) = numOf rs n + k * rs.length
  | 0 => by simp
  | k + 1 => by
    have ih := numOf_turns h n k
    have e : n + ((k + 1 : Nat) : Int) * rs.sum = n + k * rs.sum + rs.sum := by push_cast; rw [Int.add_mul]; omega
    rw [e, numOf_turn h, ih]
    push_cast
    rw [Int.add_mul]
    omega
theorem endsR_move {rs : List Int} {d e : Int} (h : ∀ n, numOf rs (n + d) = numOf rs n + e) : ∀ (l : List Int) (ah : Option Int), endsR rs (ah.map (· + e)) (l.map (· + d)) = (endsR rs ah l).map (· + d)
  | [], _ => rfl
  | x :: l, ah => by
    have ih := endsR_move h l (some (numOf rs x))
    rw [Option.map_some] at ih
    simp only [List.map_cons, endsR, h]
    have c : (ah.map (· + e) = some (numOf rs x + e)) ↔ ah = some (numOf rs x) := by
      cases ah with
      | none => simp
      | some a => simp
    by_cases c' : ah = some (numOf rs x)
    · rw [if_pos (c.mpr c'), if_pos c', ih]
    · rw [if_neg (fun z => c' (c.mp z)), if_neg c', List.map_cons, ih]
theorem keptBy_move {ru : List Int × Int} (hr : Rnds ru.1) {far : Int} (h0 : 0 ≤ far) (hd : ru.1.sum ∣ far) (ns : List Int) : keptBy ru (ns.map (· + far)) = (keptBy ru ns).map (· + far) := by
  obtain ⟨k, rfl⟩ := hd
  have hk : 0 ≤ k := by
    by_cases c : 0 ≤ k
    · exact c
    · have := Int.mul_neg_of_pos_of_neg hr.sum (show k < 0 by omega)
      omega
  have hm : ∀ n, numOf ru.1 (n + ru.1.sum * k) = numOf ru.1 n + k * ru.1.length := fun n => by
    have := numOf_turns hr n k.toNat
    rw [show (k.toNat : Int) = k by omega] at this
    rw [Int.mul_comm ru.1.sum]
    exact this
  unfold keptBy
  have := endsR_move hm ns.reverse none
  rw [Option.map_none] at this
  rw [← List.map_reverse, this, List.map_take]
theorem mem_map_add {l : List Int} {d x : Int} : x + d ∈ l.map (· + d) ↔ x ∈ l := by
  rw [List.mem_map]
  constructor
  · rintro ⟨y, hy, e⟩
    have : y = x := by omega
    rw [← this]; exact hy
  · intro h
    exact ⟨x, h, rfl⟩
theorem keptF_move {rus : List (List Int × Int)} (hr : ∀ ru ∈ rus, Rnds ru.1) {far : Int} (h0 : 0 ≤ far) (hd : ∀ ru ∈ rus, ru.1.sum ∣ far) (ns : List Int) : keptF rus (ns.map (· + far)) = (keptF rus ns).map (· + far) := by
  unfold keptF
  rw [List.filter_map]
  congr 1
  apply List.filter_congr
  intro x _
  simp only [Function.comp]
  rw [Bool.eq_iff_iff, List.any_eq_true, List.any_eq_true]
  constructor
  · rintro ⟨ru, h1, h2⟩
    refine ⟨ru, h1, ?_⟩
    rw [decide_eq_true_eq, keptBy_move (hr ru h1) h0 (hd ru h1), mem_map_add] at h2
    exact decide_eq_true h2
  · rintro ⟨ru, h1, h2⟩
    refine ⟨ru, h1, ?_⟩
    rw [decide_eq_true_eq, keptBy_move (hr ru h1) h0 (hd ru h1), mem_map_add]
    exact of_decide_eq_true h2
/-- by the way: what is left keeps the same -/
structure Way (rus : List (List Int × Int)) (all left : List Int) : Prop where
  sub : left.Sublist all
  kep : ∀ ru ∈ rus, keptBy ru left = keptBy ru all
theorem Way.snoc {rus : List (List Int × Int)} (h : ∀ ru ∈ rus, 1 ≤ ru.2) {all left : List Int} (w : Way rus all left) (n : Int) : Way rus (all ++ [n]) (left ++ [n]) :=
  ⟨w.sub.append (List.Sublist.refl _), fun ru hru => by rw [keptBy_snoc (h ru hru), keptBy_snoc (h ru hru), w.kep ru hru]⟩
theorem Way.cut {rus : List (List Int × Int)} {all left : List Int} (w : Way rus all left) {p : Int → Bool} (h : ∀ x ∈ keptF rus left, p x = true) : Way rus all (left.filter p) :=
  ⟨(List.filter_sublist (l := left)).trans w.sub, fun ru hru => by rw [keptBy_filter fun x hx => h x (mem_keptF.mpr ⟨ru, hru, hx⟩), w.kep ru hru]⟩
theorem Way.same {rus : List (List Int × Int)} {all left : List Int} (w : Way rus all left) (ha : all.Pairwise (· < ·)) : keptF rus left = keptF rus all := keptF_congr (ha.sublist w.sub) ha w.kep
def prodS (rus : List (List Int × Int)) : Int := rus.foldl (fun f ru => f * ru.1.sum) 1
theorem prodS_dvd : ∀ (rus : List (List Int × Int)) (a : Int), a ∣ rus.foldl (fun f ru => f * ru.1.sum) a ∧ ∀ ru ∈ rus, ru.1.sum ∣ rus.foldl (fun f ru => f * ru.1.sum) a
  | [], a => ⟨Int.dvd_refl _, fun ru h => by simp at h⟩
  | r :: rus, a => by
    obtain ⟨h1, h2⟩ := prodS_dvd rus (a * r.1.sum)
    simp only [List.foldl_cons]
    refine ⟨Int.dvd_trans (Int.dvd_mul_right _ _) h1, fun ru hru => ?_⟩
    rcases List.mem_cons.mp hru with rfl | hru
    · exact Int.dvd_trans (Int.dvd_mul_left _ _) h1
    · exact h2 ru hru
theorem prodS_pos {rus : List (List Int × Int)} (h : ∀ ru ∈ rus, 0 < ru.1.sum) : ∀ a : Int, 0 < a → 0 < rus.foldl (fun f ru => f * ru.1.sum) a := by
  induction rus with
  | nil => intro a ha; exact ha
  | cons r rus ih =>
    intro a ha
    exact ih (fun ru hru => h ru (List.mem_cons_of_mem _ hru)) _ (Int.mul_pos ha (h r List.mem_cons_self))
end Nk
/-! ### how long a night stays (mathematics) -/
namespace Nk
theorem mem_drop_rise : ∀ {l : List Int}, l.Pairwise (· < ·) → ∀ (k : Nat) (m : Int), m ∈ l.drop (l.length - k) ↔ m ∈ l ∧ (l.filter fun e => decide (m < e)).length < k
  | [], _, k, m => by simp
  | a :: l, h, k, m => by
    obtain ⟨h1, h2⟩ := List.pairwise_cons.mp h
    by_cases c : k ≤ l.length
    · have e : (a :: l).length - k = (l.length - k) + 1 := by simp only [List.length_cons]; omega
      rw [e, List.drop_succ_cons, mem_drop_rise h2 k m]
      by_cases hm : m ∈ l
      · have := h1 m hm
        have hf : ((a :: l).filter fun e => decide (m < e)) = l.filter fun e => decide (m < e) := by
          rw [List.filter_cons, if_neg (by simp; omega)]
        rw [hf]
        simp [hm]
      · constructor
        · rintro ⟨h, _⟩; exact absurd h hm
        · rintro ⟨h, hl⟩
          rcases List.mem_cons.mp h with rfl | h
          · exfalso
            have hf : ((m :: l).filter fun e => decide (m < e)) = l := by
              rw [List.filter_cons, if_neg (by simp), List.filter_eq_self]
              intro b hb
              have := h1 b hb
              simpa using this
            rw [hf] at hl
            omega
          · exact absurd h hm
    · have e : (a :: l).length - k = 0 := by simp only [List.length_cons]; omega
      rw [e, List.drop_zero]
      constructor
      · intro hm
        refine ⟨hm, ?_⟩
        have hle := List.length_filter_le (fun e => decide (m < e)) (a :: l)
        rcases List.mem_cons.mp hm with rfl | hm
        · have hf : ((m :: l).filter fun e => decide (m < e)) = l.filter fun e => decide (m < e) := by
            rw [List.filter_cons, if_neg (by simp)]
          rw [hf]
          have := List.length_filter_le (fun e => decide (m < e)) l
          simp at c ⊢
          omega
        · have hf : ((a :: l).filter fun e => decide (m < e)) = l.filter fun e => decide (m < e) := by
            have := h1 m hm
            rw [List.filter_cons, if_neg (by simp; omega)]
          rw [hf]
          have := List.length_filter_le (fun e => decide (m < e)) l
          omega
      · exact fun h => h.1
/-- the ends behind m, by their rounds -/
theorem ends_count {rs : List Int} (h : Rnds rs) {L : List Int} (hL : L.Pairwise (· < ·)) {m : Int} {D : List Int} (nd : D.Nodup) (hD : ∀ r, r ∈ D ↔ ∃ m' ∈ L, m < m' ∧ numOf rs m' = r) :
    ((endsF rs L).filter fun e => decide (m < e)).length = D.length := by
  have hme := mem_endsF h L hL
  have key : ∀ m' ∈ L, ∃ e ∈ endsF rs L, m' ≤ e ∧ numOf rs e = numOf rs m' := by
    intro m' hm'
    -- the last one of the round
    have : ∀ (n : Nat) (x : Int), x ∈ L → numOf rs x = numOf rs m' → m' ≤ x → (L.filter fun z => decide (x < z)).length ≤ n → ∃ e ∈ endsF rs L, m' ≤ e ∧ numOf rs e = numOf rs m' := by
      intro n
      induction n with
      | zero =>
        intro x hx hr hle hn
        refine ⟨x, (hme x).mpr ⟨hx, fun y hy hxy => ?_⟩, hle, hr⟩
        have : y ∈ L.filter fun z => decide (x < z) := List.mem_filter.mpr ⟨hy, by simpa using hxy⟩
        have := List.length_pos_of_mem this
        omega
      | succ n ih =>
        intro x hx hr hle hn
        by_cases c : ∃ y ∈ L, x < y ∧ numOf rs y = numOf rs x
        · obtain ⟨y, hy, hxy, hry⟩ := c
          refine ih y hy (by omega) (by omega) ?_
          have hsub : (L.filter fun z => decide (y < z)).length < (L.filter fun z => decide (x < z)).length := by
            have h1 : (L.filter fun z => decide (y < z)) = (L.filter fun z => decide (x < z)).filter fun z => decide (y < z) := by
              rw [List.filter_filter]
              apply List.filter_congr
              intro z _
              by_cases c1 : y < z
              · have : x < z := by omega
                simp [c1, this]
              · simp [c1]
            rw [h1]
            refine List.length_filter_lt_length_iff_exists.mpr ⟨y, List.mem_filter.mpr ⟨hy, by simpa using hxy⟩, by simp⟩
          omega
        · refine ⟨x, (hme x).mpr ⟨hx, fun y hy hxy => ?_⟩, hle, hr⟩
          have h1 := numOf_mono h (m := x) (n := y) (by omega)
          have h2 : numOf rs y ≠ numOf rs x := fun e => c ⟨y, hy, hxy, e⟩
          omega
    exact this _ m' hm' rfl (by omega) (Nat.le_refl _)
  have inj : ((endsF rs L).filter fun e => decide (m < e)).map (numOf rs) |>.Nodup := by
    have : (((endsF rs L).filter fun e => decide (m < e)).map (numOf rs)).Pairwise (· < ·) := by
      rw [List.pairwise_map]
      have hr := (endsF_rise (rs := rs) hL).filter fun e => decide (m < e)
      refine List.Pairwise.imp_of_mem ?_ hr
      intro a b ha hb hab
      exact ((hme a).mp (List.mem_filter.mp ha).1).2 b ((hme b).mp (List.mem_filter.mp hb).1).1 hab
    exact rise_nodup this
  have e1 : (((endsF rs L).filter fun e => decide (m < e)).map (numOf rs)).length ≤ D.length := nodup_len _ _ inj fun r hr => by
    obtain ⟨e, he, rfl⟩ := List.mem_map.mp hr
    obtain ⟨h1, h2⟩ := List.mem_filter.mp he
    exact (hD _).mpr ⟨e, ((hme e).mp h1).1, by simpa using h2, rfl⟩
  have e2 : D.length ≤ (((endsF rs L).filter fun e => decide (m < e)).map (numOf rs)).length := nodup_len _ _ nd fun r hr => by
    obtain ⟨m', hm', hlt, rfl⟩ := (hD r).mp hr
    obtain ⟨e, he, hle, hre⟩ := key m' hm'
    exact List.mem_map.mpr ⟨e, List.mem_filter.mpr ⟨he, by simp; omega⟩, hre⟩
  rw [List.length_map] at e1 e2
  omega
theorem mem_keptBy_iff {ru : List Int × Int} (h : Rnds ru.1) {L : List Int} (hL : L.Pairwise (· < ·)) {m : Int} {D : List Int} (nd : D.Nodup) (hD : ∀ r, r ∈ D ↔ ∃ m' ∈ L, m < m' ∧ numOf ru.1 m' = r) :
    m ∈ keptBy ru L ↔ m ∈ L ∧ numOf ru.1 m ∉ D ∧ (D.length : Int) < ru.2 := by
  rw [← mem_keptUp]
  unfold keptUp
  rw [mem_drop_rise (endsF_rise hL), ends_count h hL nd hD, mem_endsF h L hL]
  constructor
  · rintro ⟨⟨h1, h2⟩, h3⟩
    refine ⟨h1, fun hr => ?_, by omega⟩
    obtain ⟨m', hm', hlt, he⟩ := (hD _).mp hr
    have := h2 m' hm' hlt
    omega
  · rintro ⟨h1, h2, h3⟩
    refine ⟨⟨h1, fun m' hm' hlt => ?_⟩, by omega⟩
    have a := numOf_mono h (m := m) (n := m') (by omega)
    have b : numOf ru.1 m ≠ numOf ru.1 m' := fun e => h2 ((hD _).mpr ⟨m', hm', hlt, e.symm⟩)
    omega
/-- c nights more, from n on -/
def run (n : Int) (c : Nat) : List Int := (List.range c).map fun i : Nat => n + (i : Int)
theorem mem_run {n x : Int} {c : Nat} : x ∈ run n c ↔ n ≤ x ∧ x < n + c := by
  unfold run
  rw [List.mem_map]
  constructor
  · rintro ⟨i, hi, rfl⟩
    have := List.mem_range.mp hi
    omega
  · rintro ⟨h1, h2⟩
    exact ⟨(x - n).toNat, List.mem_range.mpr (by omega), by omega⟩
theorem run_rise (n : Int) (c : Nat) : (run n c).Pairwise (· < ·) := rise_range_map _ (fun i j h => by omega) _
theorem run_succ (n : Int) (c : Nat) : run n (c + 1) = run n c ++ [n + c] := by
  unfold run
  rw [List.range_succ, List.map_append]
  rfl
/-- a rule keeps a night through c + 1 nights to come just if c is below this -/
def staysBy (ru : List Int × Int) (later : List Int) (cnt : Int) (last n : Int) : Int :=
  if numOf ru.1 n ∈ later ∨ numOf ru.1 (last + 1) = numOf ru.1 n then 0 else if ru.2 ≤ cnt then 0 else
  if numOf ru.1 (last + 1) ∈ later then firstOf ru.1 (numOf ru.1 (last + 1) + ru.2 - cnt) - last - 1
  else max 0 (firstOf ru.1 (numOf ru.1 (last + 1) + ru.2 - cnt - 1) - last - 1)
theorem lt_first {rs : List Int} (h : Rnds rs) (m k : Int) : numOf rs m < k ↔ m < firstOf rs k := by
  obtain ⟨h1, h2⟩ := numOf_spec h m
  constructor
  · intro hk
    have := firstOf_le h (i := numOf rs m + 1) (j := k) (by omega)
    omega
  · intro hm
    by_cases c : k ≤ numOf rs m
    · have := firstOf_le h c
      omega
    · omega
/-- nights one behind the other leave out no round -/
theorem num_between {rs : List Int} (h : Rnds rs) {a b r : Int} (h1 : numOf rs a ≤ r) (h2 : r ≤ numOf rs b) (hab : a ≤ b) : ∃ x, a ≤ x ∧ x ≤ b ∧ numOf rs x = r := by
  by_cases c : r = numOf rs a
  · exact ⟨a, by omega, hab, c.symm⟩
  · have hlt := firstOf_lt h r
    refine ⟨firstOf rs r, ?_, ?_, numOf_of h (by omega) (by omega)⟩
    · have := (lt_first h a r).mp (by omega)
      omega
    · by_cases c2 : firstOf rs r ≤ b
      · exact c2
      · have := (lt_first h b r).mpr (by omega)
        omega
theorem staysBy_iff {ru : List Int × Int} (h : Rnds ru.1) {ns : List Int} (hn : ns.Pairwise (· < ·)) {last n : Int} (hl : ∀ m ∈ ns, m ≤ last) (hm : n ∈ ns) {later D : List Int} (hlat : ∀ r, r ∈ later ↔ ∃ m' ∈ ns, n < m' ∧ numOf ru.1 m' = r)
    (nd : D.Nodup) (hD : ∀ r, r ∈ D ↔ r ∈ later) (c : Nat) : n ∈ keptBy ru (ns ++ run (last + 1) (c + 1)) ↔ (c : Int) < staysBy ru later D.length last n := by
  have hnl := hl n hm
  have hL : (ns ++ run (last + 1) (c + 1)).Pairwise (· < ·) := by
    rw [List.pairwise_append]
    refine ⟨hn, run_rise _ _, fun a ha b hb => ?_⟩
    have := hl a ha
    have := (mem_run.mp hb).1
    omega
  have hb : ∀ m' ∈ ns, n < m' → numOf ru.1 m' ≤ numOf ru.1 (last + 1) := fun m' h' _ => numOf_mono h (by have := hl m' h'; omega)
  generalize eb : numOf ru.1 (last + 1) = b at *
  have hbt : b ≤ numOf ru.1 (last + 1 + c) := by rw [← eb]; exact numOf_mono h (by omega)
  generalize et : numOf ru.1 (last + 1 + c) = t at *
  have hmem : ∀ r, (∃ m' ∈ ns ++ run (last + 1) (c + 1), n < m' ∧ numOf ru.1 m' = r) ↔ r ∈ later ∨ (b ≤ r ∧ r ≤ t) := by
    intro r
    constructor
    · rintro ⟨m', hm', hlt, he⟩
      rcases List.mem_append.mp hm' with h' | h'
      · exact .inl ((hlat r).mpr ⟨m', h', hlt, he⟩)
      · obtain ⟨h1, h2⟩ := mem_run.mp h'
        refine .inr ⟨?_, ?_⟩
        · rw [← he, ← eb]; exact numOf_mono h (by omega)
        · rw [← he, ← et]; exact numOf_mono h (by omega)
    · rintro (h' | ⟨h1, h2⟩)
      · obtain ⟨m', h', hlt, he⟩ := (hlat r).mp h'
        exact ⟨m', List.mem_append_left _ h', hlt, he⟩
      · obtain ⟨x, hx1, hx2, hx3⟩ := num_between h (a := last + 1) (b := last + 1 + c) (r := r) (by omega) (by omega) (by omega)
        exact ⟨x, List.mem_append_right _ (mem_run.mpr ⟨hx1, by omega⟩), by omega, hx3⟩
  have hlb : ∀ r ∈ later, r ≤ b := fun r hr => by
    obtain ⟨m', h', hlt, he⟩ := (hlat r).mp hr
    rw [← he]
    exact hb m' h' hlt
  have hnb : numOf ru.1 n ≤ b := by rw [← eb]; exact numOf_mono h (by omega)
  have hrr : ∀ (lo : Int) (k : Nat), (run lo k).Nodup := fun lo k => rise_nodup (run_rise lo k)
  unfold staysBy
  rw [eb]
  by_cases cb : b ∈ later
  · -- the round that has begun has a copy
    have ndE : (D ++ run (b + 1) (t - b).toNat).Nodup := by
      rw [List.nodup_append]
      refine ⟨nd, hrr _ _, fun x hx y hy e => ?_⟩
      have := hlb x ((hD x).mp hx)
      have := (mem_run.mp hy).1
      omega
    have hE : ∀ r, r ∈ D ++ run (b + 1) (t - b).toNat ↔ ∃ m' ∈ ns ++ run (last + 1) (c + 1), n < m' ∧ numOf ru.1 m' = r := by
      intro r
      rw [hmem, List.mem_append, hD, mem_run]
      constructor
      · rintro (h' | ⟨h1, h2⟩)
        · exact .inl h'
        · exact .inr ⟨by omega, by omega⟩
      · rintro (h' | ⟨h1, h2⟩)
        · exact .inl h'
        · by_cases e : r = b
          · rw [e]; exact .inl cb
          · exact .inr ⟨by omega, by omega⟩
    rw [mem_keptBy_iff h hL ndE hE]
    have hlen : (run (b + 1) (t - b).toNat).length = (t - b).toNat := by simp [run]
    rw [List.length_append, hlen]
    by_cases c1 : numOf ru.1 n ∈ later ∨ b = numOf ru.1 n
    · rw [if_pos c1]
      constructor
      · rintro ⟨_, h2, _⟩
        exfalso
        apply h2
        rw [hE, hmem]
        rcases c1 with c1 | c1
        · exact .inl c1
        · exact .inr ⟨by omega, by omega⟩
      · intro h'; omega
    · rw [if_neg c1, if_pos cb]
      have hnot : numOf ru.1 n ∉ D ++ run (b + 1) (t - b).toNat := by
        rw [hE, hmem]
        rintro (h' | ⟨h1, _⟩)
        · exact c1 (.inl h')
        · exact c1 (.inr (by omega))
      have hf := lt_first h (last + 1 + c) (b + ru.2 - D.length)
      rw [et] at hf
      by_cases c2 : ru.2 ≤ (D.length : Int)
      · rw [if_pos c2]
        constructor
        · rintro ⟨_, _, h3⟩; omega
        · intro h'; omega
      · rw [if_neg c2]
        constructor
        · rintro ⟨_, _, h3⟩
          have := hf.mp (by omega)
          omega
        · intro h'
          have := hf.mpr (by omega)
          exact ⟨List.mem_append_left _ hm, hnot, by omega⟩
  · have ndE : (D ++ run b (t - b + 1).toNat).Nodup := by
      rw [List.nodup_append]
      refine ⟨nd, hrr _ _, fun x hx y hy e => ?_⟩
      have h1 := (hD x).mp hx
      have := hlb x h1
      have := (mem_run.mp hy).1
      have : x = b := by omega
      rw [this] at h1
      exact cb h1
    have hE : ∀ r, r ∈ D ++ run b (t - b + 1).toNat ↔ ∃ m' ∈ ns ++ run (last + 1) (c + 1), n < m' ∧ numOf ru.1 m' = r := by
      intro r
      rw [hmem, List.mem_append, hD, mem_run]
      constructor
      · rintro (h' | ⟨h1, h2⟩)
        · exact .inl h'
        · exact .inr ⟨by omega, by omega⟩
      · rintro (h' | ⟨h1, h2⟩)
        · exact .inl h'
        · exact .inr ⟨by omega, by omega⟩
    rw [mem_keptBy_iff h hL ndE hE]
    have hlen : (run b (t - b + 1).toNat).length = (t - b + 1).toNat := by simp [run]
    rw [List.length_append, hlen]
    by_cases c1 : numOf ru.1 n ∈ later ∨ b = numOf ru.1 n
    · rw [if_pos c1]
      constructor
      · rintro ⟨_, h2, _⟩
        exfalso
        apply h2
        rw [hE, hmem]
        rcases c1 with c1 | c1
        · exact .inl c1
        · exact .inr ⟨by omega, by omega⟩
      · intro h'; omega
    · rw [if_neg c1, if_neg cb]
      have hnot : numOf ru.1 n ∉ D ++ run b (t - b + 1).toNat := by
        rw [hE, hmem]
        rintro (h' | ⟨h1, _⟩)
        · exact c1 (.inl h')
        · exact c1 (.inr (by omega))
      have hf := lt_first h (last + 1 + c) (b + ru.2 - D.length - 1)
      rw [et] at hf
      by_cases c2 : ru.2 ≤ (D.length : Int)
      · rw [if_pos c2]
        constructor
        · rintro ⟨_, _, h3⟩; omega
        · intro h'; omega
      · rw [if_neg c2]
        constructor
        · rintro ⟨_, _, h3⟩
          have := hf.mp (by omega)
          omega
        · intro h'
          have := hf.mpr (by omega)
          exact ⟨List.mem_append_left _ hm, hnot, by omega⟩
/-- each once -/
def ddp : List Int → List Int
  | [] => []
  | a :: l => if a ∈ ddp l then ddp l else a :: ddp l
theorem mem_ddp : ∀ {l : List Int} {x : Int}, x ∈ ddp l ↔ x ∈ l
  | [], x => by simp [ddp]
  | a :: l, x => by
    unfold ddp
    by_cases c : a ∈ ddp l
    · rw [if_pos c, mem_ddp, List.mem_cons]
      constructor
      · exact .inr
      · rintro (rfl | h)
        · exact mem_ddp.mp c
        · exact h
    · rw [if_neg c, List.mem_cons, List.mem_cons, mem_ddp]
theorem ddp_nodup : ∀ l : List Int, (ddp l).Nodup
  | [] => List.nodup_nil
  | a :: l => by
    unfold ddp
    by_cases c : a ∈ ddp l
    · rw [if_pos c]; exact ddp_nodup l
    · rw [if_neg c]; exact List.nodup_cons.mpr ⟨c, ddp_nodup l⟩
theorem ddp_len {l D : List Int} (nd : D.Nodup) (h : ∀ x, x ∈ D ↔ x ∈ l) : D.length = (ddp l).length :=
  Nat.le_antisymm (nodup_len _ _ nd fun x hx => mem_ddp.mpr ((h x).mp hx)) (nodup_len _ _ (ddp_nodup l) fun x hx => (h x).mpr (mem_ddp.mp hx))
def laterR (ru : List Int × Int) (ns : List Int) (n : Int) : List Int := (ns.filter fun z => decide (n < z)).map (numOf ru.1)
def staysV (ru : List Int × Int) (ns : List Int) (last n : Int) : Int := staysBy ru (laterR ru ns n) ((ddp (laterR ru ns n)).length : Int) last n
theorem staysV_iff {ru : List Int × Int} (h : Rnds ru.1) {ns : List Int} (hn : ns.Pairwise (· < ·)) {last n : Int} (hl : ∀ m ∈ ns, m ≤ last) (hm : n ∈ ns) (c : Nat) : n ∈ keptBy ru (ns ++ run (last + 1) (c + 1)) ↔ (c : Int) < staysV ru ns last n :=
  staysBy_iff h hn hl hm (fun r => by
    unfold laterR
    rw [List.mem_map]
    constructor
    · rintro ⟨z, hz, rfl⟩
      obtain ⟨h1, h2⟩ := List.mem_filter.mp hz
      exact ⟨z, h1, by simpa using h2, rfl⟩
    · rintro ⟨z, h1, h2, rfl⟩
      exact ⟨z, List.mem_filter.mpr ⟨h1, by simpa using h2⟩, rfl⟩) (ddp_nodup _) (fun _ => mem_ddp) c
theorem staysBy_nonneg {ru : List Int × Int} (h : Rnds ru.1) {later : List Int} {cnt last n : Int} : 0 ≤ staysBy ru later cnt last n := by
  unfold staysBy
  split
  · omega
  · split
    · omega
    · split
      · have h1 := (numOf_spec h (last + 1)).2
        have h2 := firstOf_le h (i := numOf ru.1 (last + 1) + 1) (j := numOf ru.1 (last + 1) + ru.2 - cnt) (by omega)
        omega
      · omega
/-- a night is held for just s nights to come -/
structure Lasts (rus : List (List Int × Int)) (ns : List Int) (last n s : Int) : Prop where
  nn : 0 ≤ s
  iff : ∀ c : Nat, n ∈ keptF rus (ns ++ run (last + 1) (c + 1)) ↔ (c : Int) < s
theorem Lasts.uniq {rus : List (List Int × Int)} {ns : List Int} {last n s s' : Int} (h : Lasts rus ns last n s) (h' : Lasts rus ns last n s') : s = s' := by
  have a := h.nn
  have b := h'.nn
  by_cases c : s < s'
  · have := (h.iff s.toNat).mp ((h'.iff s.toNat).mpr (by omega))
    omega
  · by_cases c2 : s' < s
    · have := (h'.iff s'.toNat).mp ((h.iff s'.toNat).mpr (by omega))
      omega
    · omega
theorem lasts_max {rus : List (List Int × Int)} (hr : ∀ ru ∈ rus, Rnds ru.1) {ns : List Int} (hn : ns.Pairwise (· < ·)) {last n : Int} (hl : ∀ m ∈ ns, m ≤ last) (hm : n ∈ ns) {s : Int} (h1 : s ∈ rus.map fun ru => staysV ru ns last n)
    (h2 : ∀ y ∈ rus.map fun ru => staysV ru ns last n, y ≤ s) : Lasts rus ns last n s := by
  obtain ⟨ru, hru, e⟩ := List.mem_map.mp h1
  refine ⟨by rw [← e]; exact staysBy_nonneg (hr ru hru), fun c => ?_⟩
  rw [mem_keptF]
  constructor
  · rintro ⟨ru', hru', hk⟩
    have a := (staysV_iff (hr ru' hru') hn hl hm c).mp hk
    have b := h2 _ (List.mem_map_of_mem hru')
    omega
  · intro hc
    exact ⟨ru, hru, (staysV_iff (hr ru hru) hn hl hm c).mpr (by omega)⟩
theorem max_ex : ∀ {l : List Int}, l ≠ [] → ∃ m ∈ l, ∀ y ∈ l, y ≤ m
  | [], h => absurd rfl h
  | [a], _ => ⟨a, by simp, by simp⟩
  | a :: b :: l, _ => by
    obtain ⟨m, h1, h2⟩ := max_ex (l := b :: l) (by simp)
    by_cases c : a ≤ m
    · exact ⟨m, List.mem_cons_of_mem _ h1, fun y hy => (List.mem_cons.mp hy).elim (fun e => by omega) (h2 y)⟩
    · exact ⟨a, List.mem_cons_self, fun y hy => (List.mem_cons.mp hy).elim (fun e => by omega) fun h => by have := h2 y h; omega⟩
theorem lasts_ex {rus : List (List Int × Int)} (hr : ∀ ru ∈ rus, Rnds ru.1) (hne : rus ≠ []) {ns : List Int} (hn : ns.Pairwise (· < ·)) {last n : Int} (hl : ∀ m ∈ ns, m ≤ last) (hm : n ∈ ns) : ∃ s, Lasts rus ns last n s := by
  obtain ⟨m, h1, h2⟩ := max_ex (l := rus.map fun ru => staysV ru ns last n) (by simpa using hne)
  exact ⟨m, lasts_max hr hn hl hm h1 h2⟩
theorem lasts_fn {rus : List (List Int × Int)} (hr : ∀ ru ∈ rus, Rnds ru.1) (hne : rus ≠ []) {ns : List Int} (hn : ns.Pairwise (· < ·)) {last : Int} (hl : ∀ m ∈ ns, m ≤ last) : ∃ (s : Int → Int) (b : Nat), ∀ n ∈ ns, Lasts rus ns last n (s n) ∧ s n ≤ b := by
  have h : ∀ n : Int, ∃ s, n ∈ ns → Lasts rus ns last n s := fun n => by
    by_cases c : n ∈ ns
    · obtain ⟨s, hs⟩ := lasts_ex hr hne hn hl c
      exact ⟨s, fun _ => hs⟩
    · exact ⟨0, fun h => absurd h c⟩
  refine ⟨fun n => (h n).choose, ?_⟩
  by_cases hns : ns = []
  · exact ⟨0, fun n hn => by rw [hns] at hn; cases hn⟩
  · obtain ⟨m, _, hm⟩ := max_ex (l := ns.map fun n => (h n).choose) (by simpa using hns)
    refine ⟨m.toNat, fun n hn => ⟨(h n).choose_spec hn, ?_⟩⟩
    have := hm _ (List.mem_map_of_mem hn)
    dsimp only at this ⊢
    omega
end Nk
/-! ### the layer's short words for this program -/
namespace Nk
open PySem L2 PySem.Spec PyProof.Rows
/-- a def of the top keeps a promise: called by its name -/
structure Fk (P : Program) (w : World) (K : PySem.W.Frag) (mg : Str → Option Value) (base : Heap) (CX : CXT) (k : Nat) (x : Str) (ps : List Str) (sp : Sp) : Prop where
  ex : ∃ (f : Addr) (fd : FuncData), mg x = some (.ref f) ∧ PySem.W.keepIn K (.ref f) = true ∧ Binds K fd ps [] ∧ FnOk P w K mg base CX k f fd ps sp
/-- a def as it stands behind the top -/
structure Df (K : PySem.W.Frag) (mg : Str → Option Value) (x qual : Str) (st : Stmt) (ps : List Str) : Prop where
  ex : ∃ (f : Addr) (fd : FuncData), Fun K x qual st f fd ∧ mg x = some (.ref f) ∧ Binds K fd ps []
section
variable {X : Cx} {CX : CXT} {k : Nat} {ps : List Str} {sp : Sp} {x : Str} {p pos : Pos} {e : Expr} {es : List Expr} {t : TA} {E : XK}
theorem pe_fn (F : Fk X.prog X.w X.K X.mg X.base CX k x ps sp) (hr : Room k X.A) (hg : Gl X x) (hx : Passes CX X E) (ha : PA X (e :: es) t) (hdb : (x == ("__debug__" : Str)) = false := by decide)
    (he : starEach (e :: es) X.env = (false, eval e X.env) :: starEach es X.env := by rfl) (hpl : (backTo pos (starEach es X.env)).any (·.1) = false := by rfl) :
    PE X (.Call (.Name x p) (e :: es) [] pos) (tCall sp [] E t) := by
  obtain ⟨f, fd, g, kp, b, G⟩ := F.ex
  exact pe_call G hr hg g kp b .nil hx ha hdb he hpl
theorem passX {X : Cx} {E : XK} (tk : Takes X (fun cls d _ H => E cls d H)) : Passes (L2.CX X.prog X.w) X E := passes_call tk (fun _ _ _ _ h => h)
end
/-- an own exception class without own __init__, over RuntimeError -/
structure Xc (K : PySem.W.Frag) (mg : Str → Option Value) (x : Str) (C : Addr) : Prop where
  gP : mg x = some (.ref C)
  xP : PySem.W.excIn K C [.type "RuntimeError", .type "Exception", .type "BaseException", .type "object"] "RuntimeError.__new__" = true
  kP : PySem.W.keepIn K (.ref C) = true
  bP : PySem.W.subIn K (.ref C) (.type "BaseException") = some true
  tP : PySem.W.typeIn K (.ref C) = some (.type "type")
theorem Xc.rs {X : Cx} {x : Str} {C : Addr} (h : Xc X.K X.mg x C) : Raises X (.ref C) := raises_own h.bP h.tP
/-! sum of a tuple -/
def rSumT (K : PySem.W.Frag) : List V → Hp → VK → Prop := fun vs H Q => ∃ (a : Addr) (ns : List Int), vs = [V.ref a] ∧ SqT K H a (ns.map V.int) ∧ Q (.int ns.sum) H
theorem cr_sumT {X : Cx} (hc : X.calm = true) : CallR X (.builtin "sum") (rSumT X.K) := by
  intro pins s σ H vs us Q I r h
  obtain ⟨a, ns, rfl, hs, q⟩ := h
  obtain ⟨its, rv, hl, _⟩ := I.tuple hs
  rw [Vals.ref1 r]
  have hi : IntsAre its ns := rv.ints
  obtain ⟨xs, hx⟩ := hi.allInts.items
  have hn : numsOf its.toArray.toList = ns := by rw [show its.toArray.toList = its from rfl, hi.numsOf]
  rw [hx] at hl hn
  rw [nums_intItems] at hn
  refine PySem.W.ktm_sumG (I.ok.hd hc) hl fun h' tk t' hk => ?_
  rw [preSum_eq, List.take_of_length_le (by simp), hn]
  exact ⟨.int _, H, I.kept hk, ⟨_, rfl⟩, q⟩
/-! heaps -/
/-- all but t is as it was -/
def But (t : Addr) (H H' : Hp) : Prop := ∀ b o, H b = some o → b ≠ t → H' b = some o
theorem But.refl {t : Addr} {H : Hp} : But t H H := fun _ _ h _ => h
theorem But.trans {t : Addr} {H H1 H2 : Hp} (a : But t H H1) (b : But t H1 H2) : But t H H2 := fun c o h n => b c o (a c o h n) n
theorem But.of {t : Addr} {H H' : Hp} (s : Same H H') : But t H H' := fun b o h _ => s b o h
theorem But.thenS {t : Addr} {H H1 H2 : Hp} (a : But t H H1) (b : Same H1 H2) : But t H H2 := a.trans (.of b)
theorem Same.thenB {t : Addr} {H H1 H2 : Hp} (a : Same H H1) (b : But t H1 H2) : But t H H2 := (But.of a).trans b
theorem same_upd {H : Hp} {p : Addr} {o : HO} (h : H p = none) : Same H (upd H p o) := fun b x e => by
  rw [upd_ne (ne_of_none e h)]
  exact e
theorem But.upd {t : Addr} {H : Hp} {o : HO} : But t H (upd H t o) := fun b x e n => by
  rw [upd_ne n]
  exact e
theorem But.tup {K : PySem.W.Frag} {t a : Addr} {H H' : Hp} {xs : List V} {l : List V} (b : But t H H') (ht : H t = some (.lst l)) (h : SqT K H a xs) : SqT K H' a xs := by
  rcases h with (h | ⟨o, h⟩) | h
  · exact .inl (.inl (b _ _ h (ne_of h ht (by intro z; cases z))))
  · exact .inl (.inr ⟨o, b _ _ h (ne_of h ht (by intro z; cases z))⟩)
  · exact .inr h
theorem But.lst {K : PySem.W.Frag} {t a : Addr} {H H' : Hp} {xs : List V} (b : But t H H') (ha : a ≠ t) (h : SqL K H a xs) : SqL K H' a xs := by
  rcases h with (h | ⟨o, h⟩) | h
  · exact .inl (.inl (b _ _ h ha))
  · exact .inl (.inr ⟨o, b _ _ h ha⟩)
  · exact .inr h
theorem Same.tup {K : PySem.W.Frag} {a : Addr} {H H' : Hp} {xs : List V} (e : Same H H') (h : SqT K H a xs) : SqT K H' a xs := by
  rcases h with (h | ⟨o, h⟩) | h
  · exact .inl (.inl (e _ _ h))
  · exact .inl (.inr ⟨o, e _ _ h⟩)
  · exact .inr h
theorem sqL {K : PySem.W.Frag} {H : Hp} {a : Addr} {xs : List V} (h : H a = some (.lst xs)) : SqL K H a xs := Or.inl (Or.inl h)
theorem sqT {K : PySem.W.Frag} {H : Hp} {a : Addr} {xs : List V} (h : H a = some (.tup xs)) : SqT K H a xs := Or.inl (Or.inl h)
theorem sz {n : Nat} (h : n ≤ 100000) : n ≤ sizeLine := Nat.le_trans h (by decide)
theorem szl {n : Nat} (h : n < 100000) : n < sizeLine := Nat.lt_of_lt_of_le h (by decide)
/-- a list that is read and is not t -/
def SqN (K : PySem.W.Frag) (H : Hp) (a t : Addr) (xs : List V) : Prop := (Rd H a (.lst xs) ∧ a ≠ t) ∨
    ∃ (o : Obj) (its : Array Value) (n : Nat), K.lookup a = some o ∧ o.cls = .type "list" ∧ o.dict = none ∧ o.data = .seq its n ∧ its.size ≤ sizeLine ∧ Vals xs its.toList
theorem SqN.l {K : PySem.W.Frag} {H : Hp} {a t : Addr} {xs : List V} (h : SqN K H a t xs) : SqL K H a xs := by
  rcases h with ⟨h, _⟩ | h
  · exact .inl h
  · exact .inr h
theorem SqN.but {K : PySem.W.Frag} {H H' : Hp} {a t : Addr} {xs : List V} (h : SqN K H a t xs) (b : But t H H') : SqN K H' a t xs := by
  rcases h with ⟨h | ⟨o, h⟩, n⟩ | h
  · exact .inl ⟨.inl (b _ _ h n), n⟩
  · exact .inl ⟨.inr ⟨o, b _ _ h n⟩, n⟩
  · exact .inr h
theorem SqN.same {K : PySem.W.Frag} {H H' : Hp} {a t : Addr} {xs : List V} (h : SqN K H a t xs) (b : Same H H') : SqN K H' a t xs := h.but (.of b)
theorem SqN.new {K : PySem.W.Frag} {H : Hp} {a t : Addr} {xs : List V} (h : SqL K H a xs) (ht : H t = none) : SqN K H a t xs := by
  rcases h with (h | ⟨o, h⟩) | h
  · exact .inl ⟨.inl h, ne_of_none h ht⟩
  · exact .inl ⟨.inr ⟨o, h⟩, ne_of_none h ht⟩
  · exact .inr h
theorem SqN.app {K : PySem.W.Frag} {H H' : Hp} {a t p : Addr} {xs : List V} {o : HO} (h : SqN K H' a t xs) (h0 : SqN K H a t xs) (hp : H p = none) : SqN K (upd H' p o) a t xs := by
  have sN : But p H' (upd H' p o) := But.upd
  rcases h0 with ⟨h' | ⟨o', h'⟩, n'⟩ | h'
  · rcases h with ⟨h | ⟨o, h⟩, n⟩ | h
    · exact .inl ⟨.inl (sN _ _ h (ne_of_none h' hp)), n⟩
    · exact .inl ⟨.inr ⟨o, sN _ _ h (ne_of_none h' hp)⟩, n⟩
    · exact .inr h
  · rcases h with ⟨h | ⟨o, h⟩, n⟩ | h
    · exact .inl ⟨.inl (sN _ _ h (ne_of_none h' hp)), n⟩
    · exact .inl ⟨.inr ⟨o, sN _ _ h (ne_of_none h' hp)⟩, n⟩
    · exact .inr h
  · exact .inr h'
theorem szN {n : Nat} (h : n ≤ 64) : (n ≤ sizeLine) = True := eq_true (sz (by omega))
/-! things -/
/-- what may be handed in, with the name of its type -/
inductive Thing (K : PySem.W.Frag) (H : Hp) : V → String → Prop
  | non : Thing K H .non "NoneType"
  | bl (b : Bool) : Thing K H (.bl b) "bool"
  | int (i : Int) : Thing K H (.int i) "int"
  | str (x : Str) : Thing K H (.str x) "str"
  | lst {a : Addr} {xs : List V} (h : H a = some (.lst xs)) : Thing K H (.ref a) "list"
  | tup {a : Addr} {xs : List V} (h : H a = some (.tup xs)) : Thing K H (.ref a) "tuple"
  | dic {a : Addr} {kvs : List (Key × V)} (h : H a = some (.dK kvs)) : Thing K H (.ref a) "dict"
theorem Thing.ty {K : PySem.W.Frag} {H : Hp} {x : V} {n : String} (h : Thing K H x n) : TyX K H x (.type n) := by
  cases h with
  | non => exact .base .non
  | bl b => exact .base (.bl b)
  | int i => exact .base (.int i)
  | str x => exact .base (.str x)
  | lst h => exact .base (.lst h)
  | tup h => exact .base (.tup h)
  | dic h => exact .base (.dK h)
theorem Thing.same {K : PySem.W.Frag} {H H' : Hp} {x : V} {n : String} (s : Same H H') (h : Thing K H x n) : Thing K H' x n := by
  cases h with
  | non => exact .non
  | bl b => exact .bl b
  | int i => exact .int i
  | str x => exact .str x
  | lst h => exact .lst (s _ _ h)
  | tup h => exact .tup (s _ _ h)
  | dic h => exact .dic (s _ _ h)
def isA (n : String) (T : String) : Bool := n == T || (n == "bool" && T == "int")
def tyNames : List String := ["NoneType", "bool", "int", "str", "list", "tuple", "dict"]
theorem Thing.mem {K : PySem.W.Frag} {H : Hp} {x : V} {n : String} (h : Thing K H x n) : n ∈ tyNames := by
  cases h <;> simp [tyNames]
theorem kit_all : ∀ n ∈ tyNames, ∀ T ∈ tyNames, kitB n T = some (isA n T) := by decide +kernel
theorem Thing.kit {K : PySem.W.Frag} {H : Hp} {x : V} {n : String} (h : Thing K H x n) {T : String} (hT : T ∈ tyNames) : PySem.W.kitOne K (.type n) (.type T) = some (isA n T) := kit_ty (kit_all n h.mem T hT)
/-- isinstance of a thing -/
theorem isi_thing {K : PySem.W.Frag} {H : Hp} {x : V} {n : String} {T : String} {Q : VK} (h : Thing K H x n) (hT : T ∈ tyNames) (q : Q (.bl (isA n T)) H) : rIsi K [x, .ty T] H Q :=
  ⟨x, .ty T, .type n, .type T, isA n T, rfl, .ty T, h.ty, h.kit hT, q⟩
def isWholeV : V → Bool
  | .int _ => true
  | _ => false
def isNumV (x : V) (lo : Int) (y : V) : Bool := match x, y with
  | .int i, .int hi => decide (lo ≤ i) && decide (i ≤ hi)
  | _, _ => false
end Nk
namespace Nk
open PySem L2 PySem.Spec PyProof.Rows
/-- where a class of the top stands -/
def cls (mg : Str → Option Value) (x : Str) : Addr := match mg x with
  | some (.ref a) => a
  | _ => 0
theorem cls_of {mg : Str → Option Value} {x : Str} {a : Addr} (h : mg x = some (.ref a)) : cls mg x = a := by
  unfold cls; rw [h]
section
variable {X : Cx} {x : Str} {i : Int} {z : Str} {pos : Pos}
theorem pe_globI (h : ∃ t, X.mg x = some (.int i t)) (hg : Gl X x) (hd : (x == ("__debug__" : Str)) = false := by decide) : PE X (.Name x pos) (tC (.int i)) := by
  obtain ⟨t, h⟩ := h
  exact pe_glob hg h ⟨_, rfl⟩ hd
theorem pe_globS (h : ∃ t, X.mg x = some (.str z t)) (hg : Gl X x) (hd : (x == ("__debug__" : Str)) = false := by decide) : PE X (.Name x pos) (tC (.str z)) := by
  obtain ⟨t, h⟩ := h
  exact pe_glob hg h ⟨_, rfl⟩ hd
end
section
variable {K : PySem.W.Frag} {h : Heap} {mg : Str → Option Value}
theorem df_mk {x qual : Str} {st : Stmt} {ps : List Str} {f : Addr} {oc : Value} {od an : Option Addr} {osl : Array (Option Value)} {kV doc pm cdv ct : Value} (X : K.In h) (G : h.Ns mainGlobals mg)
    (hb : ∀ (kV doc pm : Value) (an : Option Addr) (cdv ct : Value) (us : List Value), us.length = ps.length → bindArgs (PySem.W.fnOf x qual (defArgs st) (defBody st) (defScope st) .none kV doc pm an cdv ct) ⟨us, []⟩ = pure (ps.zip us))
    (a : PySem.W.nsIn K mainGlobals x = some (some (.ref f)))
    (l : K.lookup f = some ⟨oc, od, .func (PySem.W.fnOf x qual (defArgs st) (defBody st) (defScope st) .none kV doc pm an cdv ct), osl⟩)
    (c : PySem.W.codeIn K cdv qual = true) (k : PySem.W.keepIn K (.ref f) = true) : Df K mg x qual st ps := by
  have F := fun_mk (st := st) l c k
  exact ⟨f, _, F, PySem.W.mg_of X G a, F.binds hb⟩
theorem xc_mk {x : Str} {C : Addr} (X : K.In h) (G : h.Ns mainGlobals mg) (a : PySem.W.nsIn K mainGlobals x = some (some (.ref C)))
    (xP : PySem.W.excIn K C [.type "RuntimeError", .type "Exception", .type "BaseException", .type "object"] "RuntimeError.__new__" = true)
    (kP : PySem.W.keepIn K (.ref C) = true) (bP : PySem.W.subIn K (.ref C) (.type "BaseException") = some true) (tP : PySem.W.typeIn K (.ref C) = some (.type "type")) : Xc K mg x (cls mg x) := by
  have g := PySem.W.mg_of X G a
  rw [cls_of g]
  exact ⟨g, xP, kP, bP, tP⟩
theorem ci_mk {x : Str} {i : Int} {t : Tok} (X : K.In h) (G : h.Ns mainGlobals mg) (a : PySem.W.nsIn K mainGlobals x = some (some (.int i t))) : ∃ t, mg x = some (.int i t) := ⟨t, PySem.W.mg_of X G a⟩
theorem cs_mk {x z : Str} {t : Tok} (X : K.In h) (G : h.Ns mainGlobals mg) (a : PySem.W.nsIn K mainGlobals x = some (some (.str z t))) : ∃ t, mg x = some (.str z t) := ⟨t, PySem.W.mg_of X G a⟩
end
/-- the law's: a list of at most 63 ints is handed in, True comes out -/
def spLaw (K : PySem.W.Frag) : Sp := fun vs H Q _ => ∃ (a : Addr) (ns : List Int), vs = [.ref a] ∧ SqL K H a (ns.map V.int) ∧ ns.length ≤ 63 ∧ ∀ H', Q (.bl true) H'
theorem law_end {P : Program} {w : World} {K : PySem.W.Frag} {mg : Str → Option Value} {st : Stmt} {fa : Addr} {k : Nat} (hfa : mg "law" = some (.ref fa)) (D : Df K mg "law" "law" st ["script"])
    (hb : ∀ (kV doc pm : Value) (an : Option Addr) (cdv ct v : Value), bindArgs (PySem.W.fnOf "law" "law" (defArgs st) (defBody st) (defScope st) .none kV doc pm an cdv ct) ⟨[v], []⟩ = pure [(("script" : Str), v)])
    (G : ∀ (base : Heap) (f : Addr) (fd : FuncData), Fun K "law" "law" st f fd → FnOk P w K mg base CX0 k f fd ["script"] (spLaw K)) :
    ∃ fd : FuncData, (∀ (s : Shared) (v : Value), BindsTo s fd ⟨[v], []⟩ [("script", v)]) ∧ ∀ base : Heap, K.In base → base.Ns mainGlobals mg → FnOk P w K mg base CX0 k fa fd ["script"] (spLaw K) := by
  obtain ⟨f, fd, F, g, b⟩ := D.ex
  have e : fa = f := by
    have := hfa.symm.trans g
    cases this
    rfl
  subst e
  refine ⟨fd, fun s v => ?_, fun base _ _ => G base fa fd F⟩
  obtain ⟨oc, od, kV, doc, pm, an, cdv, ct, osl, rfl, lk, hcd⟩ := F.ex
  exact .of_eq (hb _ _ _ _ _ _ _)
end Nk
namespace Nk
open PySem L2 PySem.Spec PyProof.Rows
theorem Same.keepN {H H' : Hp} {t : Addr} {o : HO} (s : Same H H') (n : H t = none) : Same H (upd H' t o) := fun b x e => by
  rw [upd_ne (ne_of_none e n)]
  exact s b x e
/-- within a comprehension that leaves all else: G i is the list behind i items -/
structure LcP (H1 : Hp) (D : Addr) (G : Nat → List V) (i : Nat) (H : Hp) : Prop where
  same : Same H1 H
  at_ : H D = some (.lst (G i))
theorem LcP.push {H1 H H4 : Hp} {D : Addr} {G : Nat → List V} {i : Nat} {y : V} (p : LcP H1 D G i H) (hD : H1 D = none) (hl : (G i).length ≤ 99999) (s : Same H H4) (e : G (i + 1) = G i ++ [y]) :
    ∃ acc, H4 D = some (.lst acc) ∧ acc.length < sizeLine ∧ LcP H1 D G (i + 1) (upd H4 D (.lst (acc ++ [y]))) :=
  ⟨G i, s _ _ p.at_, szl (by omega), Same.keepN (p.same.trans s) hD, by rw [upd_same, e]⟩
theorem LcP.skip {H1 H H4 : Hp} {D : Addr} {G : Nat → List V} {i : Nat} (p : LcP H1 D G i H) (s : Same H H4) (e : G (i + 1) = G i) : LcP H1 D G (i + 1) H4 :=
  ⟨p.same.trans s, by rw [e]; exact s _ _ p.at_⟩
theorem lcT {K : PySem.W.Frag} {a : Addr} {xs : List V} {g : TG} {tt : TT} {te : TE} {vs : List Nat} {σ : L2.St} {H1 : Hp} {D : Addr} {Qd : Hp → Prop} (hD : H1 D = none) (hT : SqT K H1 a xs) (G : Nat → List V) (h0 : G 0 = [])
    (hs : ∀ i x H, xs[i]? = some x → LcP H1 D G i H → g x (wipe σ vs) H fun σ2 H2 => wipe σ2 vs = wipe σ vs ∧ tt σ2 H2 fun b H3 =>
      if b = true then te σ2 H3 fun y H4 => ∃ acc, H4 D = some (.lst acc) ∧ acc.length < sizeLine ∧ LcP H1 D G (i + 1) (upd H4 D (.lst (acc ++ [y]))) else LcP H1 D G (i + 1) H3) (hd : ∀ H, Same H1 H → H D = some (.lst (G xs.length)) → Qd H) :
    ∃ W : Nat → Nat → Hp → Prop, (∃ m, W 0 m (upd H1 D (.lst []))) ∧ ∀ i m H, W i m H →
      ((Itt K a).stop i H ∧ Qd H) ∨ ((Itt K a).go i H ∧ ∃ Nx : Hp → Prop, (∀ H', Nx H' → ∃ m', m' < m ∧ W (i + 1) m' H') ∧ ∀ x H', (Itt K a).yld i H x H' → g x (wipe σ vs) H' fun σ2 H2 => wipe σ2 vs = wipe σ vs ∧ tt σ2 H2 fun b H3 =>
        if b = true then te σ2 H3 fun y H4 => ∃ acc, H4 D = some (.lst acc) ∧ acc.length < sizeLine ∧ Nx (upd H4 D (.lst (acc ++ [y]))) else Nx H3) :=
  lc_tup (K := K) (a := a) (xs := xs) (LcP H1 D G) ⟨same_upd hD, by rw [h0]; exact upd_same⟩ (fun i H _ p => Same.tup p.same hT) hs fun H p => hd H p.same p.at_
theorem lcL {K : PySem.W.Frag} {a : Addr} {xs : List V} {g : TG} {tt : TT} {te : TE} {vs : List Nat} {σ : L2.St} {H1 : Hp} {D : Addr} {Qd : Hp → Prop} (hD : H1 D = none) (hT : SqL K H1 a xs) (G : Nat → List V) (h0 : G 0 = [])
    (hs : ∀ i x H, xs[i]? = some x → LcP H1 D G i H → g x (wipe σ vs) H fun σ2 H2 => wipe σ2 vs = wipe σ vs ∧ tt σ2 H2 fun b H3 =>
      if b = true then te σ2 H3 fun y H4 => ∃ acc, H4 D = some (.lst acc) ∧ acc.length < sizeLine ∧ LcP H1 D G (i + 1) (upd H4 D (.lst (acc ++ [y]))) else LcP H1 D G (i + 1) H3) (hd : ∀ H, Same H1 H → H D = some (.lst (G xs.length)) → Qd H) :
    ∃ W : Nat → Nat → Hp → Prop, (∃ m, W 0 m (upd H1 D (.lst []))) ∧ ∀ i m H, W i m H →
      ((Itl K a).stop i H ∧ Qd H) ∨ ((Itl K a).go i H ∧ ∃ Nx : Hp → Prop, (∀ H', Nx H' → ∃ m', m' < m ∧ W (i + 1) m' H') ∧ ∀ x H', (Itl K a).yld i H x H' → g x (wipe σ vs) H' fun σ2 H2 => wipe σ2 vs = wipe σ vs ∧ tt σ2 H2 fun b H3 =>
        if b = true then te σ2 H3 fun y H4 => ∃ acc, H4 D = some (.lst acc) ∧ acc.length < sizeLine ∧ Nx (upd H4 D (.lst (acc ++ [y]))) else Nx H3) :=
  lc_list (K := K) (a := a) (xs := xs) (LcP H1 D G) ⟨same_upd hD, by rw [h0]; exact upd_same⟩ (fun i H _ p => p.same.seq hT) hs fun H p => hd H p.same p.at_
theorem lcR {lo : Int} {n : Nat} {g : TG} {tt : TT} {te : TE} {vs : List Nat} {σ : L2.St} {H1 : Hp} {D : Addr} {Qd : Hp → Prop} (hD : H1 D = none) (G : Nat → List V) (h0 : G 0 = [])
    (hs : ∀ i H, i < n → LcP H1 D G i H → g (.int (lo + i)) (wipe σ vs) H fun σ2 H2 => wipe σ2 vs = wipe σ vs ∧ tt σ2 H2 fun b H3 =>
      if b = true then te σ2 H3 fun y H4 => ∃ acc, H4 D = some (.lst acc) ∧ acc.length < sizeLine ∧ LcP H1 D G (i + 1) (upd H4 D (.lst (acc ++ [y]))) else LcP H1 D G (i + 1) H3) (hd : ∀ H, Same H1 H → H D = some (.lst (G n)) → Qd H) :
    ∃ W : Nat → Nat → Hp → Prop, (∃ m, W 0 m (upd H1 D (.lst []))) ∧ ∀ i m H, W i m H →
      ((Itr lo n).stop i H ∧ Qd H) ∨ ((Itr lo n).go i H ∧ ∃ Nx : Hp → Prop, (∀ H', Nx H' → ∃ m', m' < m ∧ W (i + 1) m' H') ∧ ∀ x H', (Itr lo n).yld i H x H' → g x (wipe σ vs) H' fun σ2 H2 => wipe σ2 vs = wipe σ vs ∧ tt σ2 H2 fun b H3 =>
        if b = true then te σ2 H3 fun y H4 => ∃ acc, H4 D = some (.lst acc) ∧ acc.length < sizeLine ∧ Nx (upd H4 D (.lst (acc ++ [y]))) else Nx H3) :=
  lc_range (LcP H1 D G) ⟨same_upd hD, by rw [h0]; exact upd_same⟩ hs fun H p => hd H p.same p.at_
theorem take_next {α : Type} {l : List α} {i : Nat} {x : α} (h : l[i]? = some x) : l.take (i + 1) = l.take i ++ [x] := by
  rw [List.take_add_one, h]; rfl
theorem map_take_next {α β : Type} {l : List α} {i : Nat} {x : α} (f : α → β) (h : l[i]? = some x) : (l.take (i + 1)).map f = (l.take i).map f ++ [f x] := by
  rw [take_next h]; simp
theorem filter_take_next {α : Type} {l : List α} {i : Nat} {x : α} (f : α → Bool) (h : l[i]? = some x) : (l.take (i + 1)).filter f = (l.take i).filter f ++ (if f x = true then [x] else []) := by
  rw [take_next h, List.filter_append]; cases e : f x <;> simp [e]
theorem filter_len {α : Type} (l : List α) (f : α → Bool) (i : Nat) : ((l.take i).filter f).length ≤ l.length :=
  Nat.le_trans (List.length_filter_le _ _) (by simp; omega)
theorem lt_of_get {α : Type} {l : List α} {i : Nat} {x : α} (h : l[i]? = some x) : i < l.length := (List.getElem?_eq_some_iff.mp h).1
theorem mem_of_get {α : Type} {l : List α} {i : Nat} {x : α} (h : l[i]? = some x) : x ∈ l := List.mem_of_getElem? h
end Nk
namespace Nk
open PySem L2
theorem seq_k {t u : TS} {D : Ends} {σ : L2.St} {H : Hp} (h : ∀ Kt : L2.St → Hp → Prop, Kt = u D → t { D with nx := Kt } σ H) : tSeq t u D σ H := h _ rfl
theorem gCons_cons {t : TG} {u : TGs} {v : V} {r : List V} {σ : L2.St} {H : Hp} {Q : L2.St → Hp → Prop} : gCons t u (v :: r) σ H Q = t v σ H fun σ' H' => u r σ' H' Q := by
  simp only [gCons, List.cons.injEq]
  refine propext ⟨?_, fun h => ⟨v, r, ⟨rfl, rfl⟩, h⟩⟩
  rintro ⟨v', r', ⟨rfl, rfl⟩, h⟩
  exact h
theorem gNil_nil {σ : L2.St} {H : Hp} {Q : L2.St → Hp → Prop} : gNil [] σ H Q = Q σ H := by
  simp only [gNil, true_and]
theorem scal_ii {a b : Int} : scal (.int a) (.int b) = true := rfl
theorem scal_ss {a b : Str} : scal (.str a) (.str b) = true := rfl
theorem scal_bb {a b : Bool} : scal (.bl a) (.bl b) = true := rfl
theorem scal_nn : scal .non .non = true := rfl
theorem scal_ni {b : Int} : scal .non (.int b) = true := rfl
theorem scal_in {b : Int} : scal (.int b) .non = true := rfl
theorem scal_ns {b : Str} : scal .non (.str b) = true := rfl
theorem scal_sn {b : Str} : scal (.str b) .non = true := rfl
theorem scal_is {a : Int} {b : Str} : scal (.int a) (.str b) = true := rfl
theorem scal_si {a : Int} {b : Str} : scal (.str b) (.int a) = true := rfl
end Nk
namespace Nk
open PySem L2
/-- what a for asks when its iterator stands -/
def ForW (J : It) (g : TG) (tb : TS) (D : Ends) (σ : L2.St) (H : Hp) : Prop := ∃ W : Nat → Nat → L2.St → Hp → Prop, (∃ m, W 0 m σ H) ∧ ∀ i m σ H, W i m σ H →
  (J.stop i H ∧ D.nx σ H) ∨ (J.go i H ∧ ∃ N : L2.St → Hp → Prop, (∀ σ' H', N σ' H' → ∃ m', m' < m ∧ W (i + 1) m' σ' H') ∧ ∀ x H', J.yld i H x H' → g x σ H' fun σ2 H2 => tb { D with nx := N, ct := N, bk := D.nx } σ2 H2)
theorem tFor_k {wi : TI} {g : TG} {tb : TS} {D : Ends} {σ : L2.St} {H : Hp} : tFor wi g tb D σ H = wi σ H fun J H1 => ForW J g tb D σ H1 := rfl
/-- what a comprehension asks when its iterator and its list stand -/
def LcW (J : It) (g : TG) (tt : TT) (te : TE) (vs : List Nat) (σ : L2.St) (H1 : Hp) (D : Addr) (Qd : Hp → Prop) : Prop := ∃ W : Nat → Nat → Hp → Prop, (∃ m, W 0 m (upd H1 D (.lst []))) ∧ ∀ i m H, W i m H →
  (J.stop i H ∧ Qd H) ∨ (J.go i H ∧ ∃ Nx : Hp → Prop, (∀ H', Nx H' → ∃ m', m' < m ∧ W (i + 1) m' H') ∧ ∀ x H', J.yld i H x H' → g x (wipe σ vs) H' fun σ2 H2 => wipe σ2 vs = wipe σ vs ∧ tt σ2 H2 fun b H3 =>
    if b = true then te σ2 H3 fun y H4 => ∃ acc, H4 D = some (.lst acc) ∧ acc.length < sizeLine ∧ Nx (upd H4 D (.lst (acc ++ [y]))) else Nx H3)
theorem tLc_k {wi : TI} {g : TG} {tt : TT} {te : TE} {vs : List Nat} {σ : L2.St} {H : Hp} {Q : VK} : tLc wi g tt te vs σ H Q = wi σ H fun J H1 => ∀ D, H1 D = none → LcW J g tt te vs σ H1 D (fun H => Q (.ref D) H) := rfl
end Nk
/-! ### data compared by == -/
namespace Nk
open PySem L2
/-- data of depth at most k, without truths and dicts -/
def gd : Nat → PyData → Bool
  | _, .none => true
  | _, .int _ => true
  | _, .str x => PyData.strOk x
  | _, .bool _ => false
  | _, .dict _ => false
  | 0, .list _ => false
  | 0, .tuple _ => false
  | k + 1, .list xs => xs.all (gd k)
  | k + 1, .tuple xs => xs.all (gd k)
theorem gd_all {k : Nat} : ∀ {xs : List PyData}, xs.all (gd k) = true → ∀ x ∈ xs, gd k x = true := fun h x hx => List.all_eq_true.mp h x hx
theorem canLayAll_of : ∀ {xs : List PyData}, (∀ x ∈ xs, x.canLay0 = true) → PyData.canLayAll0 xs = true
  | [], _ => by simp [PyData.canLayAll0]
  | x :: xs, h => by
    have h1 := h x List.mem_cons_self
    have h2 := canLayAll_of (xs := xs) fun y hy => h y (List.mem_cons_of_mem _ hy)
    simp [PyData.canLayAll0, h1, h2]
theorem depthAll_le {k : Nat} : ∀ {xs : List PyData}, (∀ x ∈ xs, x.depth ≤ k) → PyData.depthAll xs ≤ k
  | [], _ => by simp [PyData.depthAll]
  | x :: xs, h => by
    have h1 := h x List.mem_cons_self
    have h2 := depthAll_le (xs := xs) fun y hy => h y (List.mem_cons_of_mem _ hy)
    simp only [PyData.depthAll]
    omega
theorem gd_lay : ∀ (k : Nat) (d : PyData), gd k d = true → d.canLay0 = true ∧ d.depth ≤ k
  | k, .none, _ => by simp [PyData.canLay0, PyData.depth]
  | k, .int _, _ => by simp [PyData.canLay0, PyData.depth]
  | k, .str x, h => by
    have h' : PyData.strOk x = true := by cases k <;> simpa [gd] using h
    simp [PyData.canLay0, PyData.depth, h']
  | k, .bool _, h => by cases k <;> simp [gd] at h
  | k, .dict _, h => by cases k <;> simp [gd] at h
  | 0, .list _, h => by simp [gd] at h
  | 0, .tuple _, h => by simp [gd] at h
  | k + 1, .list xs, h => by
    have h' : xs.all (gd k) = true := by simpa [gd] using h
    have a := gd_all h'
    simp only [PyData.canLay0, PyData.depth]
    exact ⟨canLayAll_of fun x hx => (gd_lay k x (a x hx)).1, Nat.succ_le_succ (depthAll_le fun x hx => (gd_lay k x (a x hx)).2)⟩
  | k + 1, .tuple xs, h => by
    have h' : xs.all (gd k) = true := by simpa [gd] using h
    have a := gd_all h'
    simp only [PyData.canLay0, PyData.depth]
    exact ⟨canLayAll_of fun x hx => (gd_lay k x (a x hx)).1, Nat.succ_le_succ (depthAll_le fun x hx => (gd_lay k x (a x hx)).2)⟩
theorem gd_shaped {k : Nat} {d : PyData} (h : gd k d = true) (hk : k ≤ 64 := by decide) : SeqAt.shaped d = true := by
  obtain ⟨h1, h2⟩ := gd_lay k d h
  unfold SeqAt.shaped
  rw [h1]
  simp
  omega
theorem eqvAll_iff : ∀ (xs ys : List PyData), (∀ x ∈ xs, ∀ y ∈ ys, PyData.eqv x y = true ↔ x = y) → (PyData.eqvAll xs ys = true ↔ xs = ys)
  | [], [], _ => by simp [PyData.eqvAll]
  | [], _ :: _, _ => by simp [PyData.eqvAll]
  | _ :: _, [], _ => by simp [PyData.eqvAll]
  | x :: xs, y :: ys, h => by
    have h1 := h x List.mem_cons_self y List.mem_cons_self
    have h2 := eqvAll_iff xs ys fun a ha b hb => h a (List.mem_cons_of_mem _ ha) b (List.mem_cons_of_mem _ hb)
    simp [PyData.eqvAll, h1, h2]
theorem eqv_iff : ∀ (k m : Nat) (d e : PyData), gd k d = true → gd m e = true → (PyData.eqv d e = true ↔ d = e)
  | k, m, .bool _, e, h, _ => by cases k <;> simp [gd] at h
  | k, m, .dict _, e, h, _ => by cases k <;> simp [gd] at h
  | k, m, .none, e, _, h => by
    cases e with
    | bool _ => cases m <;> simp [gd] at h
    | dict _ => cases m <;> simp [gd] at h
    | _ => simp [PyData.eqv]
  | k, m, .int i, e, _, h => by
    cases e with
    | bool _ => cases m <;> simp [gd] at h
    | dict _ => cases m <;> simp [gd] at h
    | _ => simp [PyData.eqv]
  | k, m, .str i, e, _, h => by
    cases e with
    | bool _ => cases m <;> simp [gd] at h
    | dict _ => cases m <;> simp [gd] at h
    | _ => simp [PyData.eqv]
  | 0, m, .list _, e, h, _ => by simp [gd] at h
  | 0, m, .tuple _, e, h, _ => by simp [gd] at h
  | k + 1, m, .list xs, e, hd, h => by
    cases e with
    | bool _ => cases m <;> simp [gd] at h
    | dict _ => cases m <;> simp [gd] at h
    | list ys =>
      cases m with
      | zero => simp [gd] at h
      | succ m =>
        have a := gd_all (k := k) (xs := xs) (by simpa [gd] using hd)
        have b := gd_all (k := m) (xs := ys) (by simpa [gd] using h)
        simp only [PyData.eqv, PyData.list.injEq]
        exact eqvAll_iff xs ys fun x hx y hy => eqv_iff k m x y (a x hx) (b y hy)
    | _ => simp [PyData.eqv]
  | k + 1, m, .tuple xs, e, hd, h => by
    cases e with
    | bool _ => cases m <;> simp [gd] at h
    | dict _ => cases m <;> simp [gd] at h
    | tuple ys =>
      cases m with
      | zero => simp [gd] at h
      | succ m =>
        have a := gd_all (k := k) (xs := xs) (by simpa [gd] using hd)
        have b := gd_all (k := m) (xs := ys) (by simpa [gd] using h)
        simp only [PyData.eqv, PyData.tuple.injEq]
        exact eqvAll_iff xs ys fun x hx y hy => eqv_iff k m x y (a x hx) (b y hy)
    | _ => simp [PyData.eqv]
theorem eqv_of_eq {k : Nat} {d e : PyData} (h : gd k d = true) (e1 : d = e) : PyData.eqv d e = true := by
  subst e1
  exact (eqv_iff k k d d h h).mpr rfl
theorem eqv_of_ne {k m : Nat} {d e : PyData} (h : gd k d = true) (h' : gd m e = true) (e1 : d ≠ e) : PyData.eqv d e = false := by
  cases q : PyData.eqv d e with
  | false => rfl
  | true => exact absurd ((eqv_iff k m d e h h').mp q) e1
/-- the data of lists of ints, of tuples of ints -/
abbrev dLI (ns : List Int) : PyData := .list (ns.map .int)
abbrev dTI (ns : List Int) : PyData := .tuple (ns.map .int)
theorem gd_int_all (k : Nat) (ns : List Int) : (ns.map PyData.int).all (gd k) = true := by
  rw [List.all_eq_true]
  intro x hx
  obtain ⟨i, _, rfl⟩ := List.mem_map.mp hx
  cases k <;> rfl
theorem gd_dLI {k : Nat} (ns : List Int) : gd (k + 1) (dLI ns) = true := by simp only [dLI, gd]; exact gd_int_all k ns
theorem gd_dTI {k : Nat} (ns : List Int) : gd (k + 1) (dTI ns) = true := by simp only [dTI, gd]; exact gd_int_all k ns
theorem dpAll_ints {K : PySem.W.Frag} {H : Hp} : ∀ ns : List Int, DpAll K H (ns.map V.int) (ns.map PyData.int)
  | [] => .nil
  | n :: ns => .cons (.int n) (dpAll_ints ns)
theorem dp_LI {K : PySem.W.Frag} {H : Hp} {a : Addr} {ns : List Int} (h : SqL K H a (ns.map V.int)) : Dp K H (.ref a) (dLI ns) := .lst h (dpAll_ints ns)
theorem dp_TI {K : PySem.W.Frag} {H : Hp} {a : Addr} {ns : List Int} (h : SqT K H a (ns.map V.int)) : Dp K H (.ref a) (dTI ns) := .tup h (dpAll_ints ns)
theorem dLI_inj {ns ms : List Int} : dLI ns = dLI ms ↔ ns = ms := by
  constructor
  · intro h
    have h' : ns.map PyData.int = ms.map PyData.int := PyData.list.inj h
    exact (List.map_inj_right (fun _ _ q => PyData.int.inj q)).mp h'
  · intro h; rw [h]
theorem dTI_inj {ns ms : List Int} : dTI ns = dTI ms ↔ ns = ms := by
  constructor
  · intro h
    have h' : ns.map PyData.int = ms.map PyData.int := PyData.tuple.inj h
    exact (List.map_inj_right (fun _ _ q => PyData.int.inj q)).mp h'
  · intro h; rw [h]
/-- == of two data -/
theorem eqD {K : PySem.W.Frag} {H : Hp} {x y : V} {d e : PyData} {Q : VK} {k m : Nat} (hd : Dp K H x d) (he : Dp K H y e) (gk : gd k d = true) (gm : gd m e = true) (h1 : d = e → Q (.bl true) H) (h2 : d ≠ e → Q (.bl false) H) (hk : k ≤ 64 := by decide) (hm : m ≤ 64 := by decide) : rEqD K x y H Q := by
  refine ⟨d, e, hd, he, gd_shaped gk hk, gd_shaped gm hm, ?_⟩
  by_cases c : d = e
  · rw [eqv_of_eq gk c]; exact h1 c
  · rw [eqv_of_ne gk gm c]; exact h2 c
theorem neD {K : PySem.W.Frag} {H : Hp} {x y : V} {d e : PyData} {Q : VK} {k m : Nat} (hd : Dp K H x d) (he : Dp K H y e) (gk : gd k d = true) (gm : gd m e = true) (h1 : d = e → Q (.bl false) H) (h2 : d ≠ e → Q (.bl true) H) (hk : k ≤ 64 := by decide) (hm : m ≤ 64 := by decide) : rNeD K x y H Q := by
  refine ⟨d, e, hd, he, gd_shaped gk hk, gd_shaped gm hm, ?_⟩
  by_cases c : d = e
  · rw [eqv_of_eq gk c]; exact h1 c
  · rw [eqv_of_ne gk gm c]; exact h2 c
theorem newF {H H' : Hp} {p : Addr} {o : HO} (hp : H p = none) (e : upd H p o = H') : Same H H' ∧ H' p = some o := by
  subst e
  exact ⟨same_upd hp, upd_same⟩
/-- an item of a list, by its place -/
theorem ixL {K : PySem.W.Frag} {H : Hp} {p : Addr} {xs : List V} {i : Int} {j : Nat} {v : V} {Q : VK} (h : SqL K H p xs) (hi : i = (j : Int)) (e : xs[j]? = some v) (q : Q v H) : rIxL K (.ref p) (.int i) H Q :=
  ⟨p, xs, i, v, rfl, rfl, h, by rw [hi]; exact atI_nat e, q⟩
theorem ixT {K : PySem.W.Frag} {H : Hp} {p : Addr} {xs : List V} {i : Int} {j : Nat} {v : V} {Q : VK} (h : SqT K H p xs) (hi : i = (j : Int)) (e : xs[j]? = some v) (q : Q v H) : rIxT K (.ref p) (.int i) H Q :=
  ⟨p, xs, i, v, rfl, rfl, h, by rw [hi]; exact atI_nat e, q⟩
theorem setL {H : Hp} {p : Addr} {xs : List V} {i : Int} {j : Nat} {v : V} {Q : Hp → Prop} (h : H p = some (.lst xs)) (hi : i = (j : Int)) (e : j < xs.length) (q : Q (upd H p (.lst (xs.set j v)))) : rSetL (.ref p) (.int i) v H Q :=
  ⟨p, xs, i, j, rfl, rfl, h, by rw [hi]; unfold ixN; rw [if_pos (by omega), if_pos (by omega)]; simp, q⟩
theorem tyL {K : PySem.W.Frag} {H : Hp} {l : Addr} {xs : List V} (h : H l = some (.lst xs)) : tyV K "list" (.ref l) H := .inl ⟨rfl, _, SqL.of h⟩
theorem appR {H : Hp} {l : Addr} {xs : List V} {y : V} {Q : VK} (h : H l = some (.lst xs)) (hz : xs.length ≤ 99999) (q : Q .non (upd H l (.lst (xs ++ [y])))) : rAppend (.ref l) [y] H Q :=
  ⟨l, xs, y, rfl, rfl, h, szl (by omega), q⟩
theorem app {K : PySem.W.Frag} {H : Hp} {l : Addr} {xs : List V} {y : V} {Q : VK} (h : H l = some (.lst xs)) (hz : xs.length ≤ 99999) (q : Q .non (upd H l (.lst (xs ++ [y])))) : tyV K "list" (.ref l) H ∧ rAppend (.ref l) [y] H Q :=
  ⟨tyL h, l, xs, y, rfl, rfl, h, szl (by omega), q⟩
theorem Same.app {H H' : Hp} {p : Addr} {o : HO} (s : Same H H') (n : H p = none) : Same H (upd H' p o) := fun b x e => by
  rw [upd_ne (ne_of_none e n)]
  exact s b x e
theorem inV_ints (n : Int) (l : List Int) : inV (.int n) (l.map V.int) = decide (n ∈ l) := by
  unfold inV
  rw [List.any_map, Bool.eq_iff_iff, List.any_eq_true, decide_eq_true_eq]
  constructor
  · rintro ⟨x, hx, e⟩
    have : x = n := by simpa [eqV] using e
    rw [← this]; exact hx
  · intro h
    exact ⟨n, h, by simp [eqV]⟩
theorem flat_ints (l : List Int) : (l.map V.int).all flatV = true := by
  rw [List.all_eq_true]
  intro x hx
  obtain ⟨i, _, rfl⟩ := List.mem_map.mp hx
  rfl
end Nk
/-! ### d.keys() as a value; sorted of it -/
namespace Nk
open PySem L2 PySem.Spec PyProof.Rows
def KeysO (v d : Addr) : HO := .ext fun h => PySem.W.KdlKeysView h v d
theorem keysO_ok {P : Program} {w : World} {H : Hp} {h : Heap} {v d : Addr} (e : PySem.W.KdlKeysView h v d) : ObjOk P w H h v (KeysO v d) := by
  obtain ⟨o, ho, hc, hd⟩ := e
  exact ⟨⟨o, ho, hc, hd⟩, ⟨o, ho⟩, fun h1 h2 ⟨o', q, r⟩ k => ⟨o', k o' q, r⟩⟩
def rKeys : V → List V → Hp → VK → Prop := fun x xs H Q => ∃ (d : Addr) (kvs : List (Key × V)), x = .ref d ∧ xs = [] ∧ H d = some (.dK kvs) ∧ ∀ v, H v = none → Q (.ref v) (upd H v (KeysO v d))
section
variable {X : Cx}
theorem mt_keys : MtR X "dict.keys" rKeys := by
  intro pins s σ H x xs v us Q I rx rxs h
  obtain ⟨d, kvs, rfl, rfl, hd, q⟩ := h
  cases rx
  cases rxs
  obtain ⟨hz, hs0, vs, kv, hdo⟩ := I.hok d _ hd
  refine PySem.call_meetsIn F.slot_dict_keys hdo.typeIs F.entry_dict_keys (F.args_dict_keys_1 _) (PySem.W.kdl_meets_keys (mixKind X.prog X.w) d hs0) ⟨⟨vs, hdo⟩, ?_⟩
  refine ⟨.ref s.heap.objs.size, upd H s.heap.objs.size (KeysO s.heap.objs.size d), I.laid (t' := s.toks) (fun b ob q => Heap.get?_push_of_some _ q) (Nat.le_refl _) (keysO_ok ⟨_, Heap.get?_push_size _ rfl, rfl, rfl⟩), rfl, q _ (I.hok.fresh (Nat.le_refl _))⟩
/-- sorted(d.keys()), whole numbers, any number of them -/
def rSortedKI : List V → Hp → VK → Prop := fun xs H Q => ∃ (v d : Addr) (kvs : List (Key × V)) (ks : List Int), xs = [.ref v] ∧ H v = some (KeysO v d) ∧ H d = some (.dK kvs) ∧ kvs.map (·.1) = ks.map Sum.inl ∧
  ∀ (ys : List Int) (p : Addr), ys.Perm ks → ys.Pairwise (· ≤ ·) → H p = none → Q (.ref p) (upd H p (.lst (ys.map V.int)))
theorem cr_sortedKI (hcalm : X.calm = true) : CallR X (.builtin "sorted") rSortedKI := by
  intro pins s σ H xs us Q I r q
  obtain ⟨v, a, kvs, ks, ex, hv, hd, hks, q⟩ := q
  subst ex
  obtain ⟨u, eu, rx⟩ := vals1 r
  subst eu
  cases rx
  have hview : PySem.W.KdlKeysView s.heap v a := (I.hok v _ hv).1
  obtain ⟨z, lo, vs, rel, dd⟩ := I.hok a _ hd
  obtain ⟨ep, hat⟩ := dd.dictAt
  have hkeys : vs.map (·.1) = ks.map Sum.inl := rel.keys.symm.trans hks
  have hl : vs.length = ks.length := by
    have e := congrArg List.length hkeys
    rw [List.length_map, List.length_map] at e
    exact e
  have hl2 : kvs.length = vs.length := Paired.length rel
  have h16 : vs.length ≤ sizeLine := by omega
  refine Calls.call_function_entry PyProof.Rows.kind_sorted PyProof.Rows.plain_sorted PyProof.Rows.entry_sorted (PyProof.Rows.args_sorted1 _) ?_
  unfold Builtin.«sorted»
  refine wpAny_bind (m := checkCount "sorted" 1 1 _) (wpAny_pure ?_)
  refine wpAny_bind (PySem.W.kdu_collect (A := X.A.in1) (PySem.W.kdl_keys (knd := mixKind X.prog X.w) (r := v) (d := a) (kvs := vs) (ep := ep)) (I.ok.hd hcalm) ⟨hview, hat⟩ h16 fun h' tk acc hk hacc => ?_)
  have hal : acc.toList.length = ks.length := by rw [Array.length_toList, hacc.1, hl]
  have hS : IntsAre acc.toList ks := ints_each hal fun j v e => by
    obtain ⟨k, x, e1, e2⟩ := hacc.2 j v (by rw [← Array.getElem?_toList]; exact e)
    have e3 : (vs.map (·.1))[j]? = some k := by rw [List.getElem?_map, e1]; rfl
    rw [hkeys, List.getElem?_map] at e3
    cases e4 : ks[j]? with
    | none => rw [e4] at e3; cases e3
    | some y =>
      rw [e4] at e3
      have e5 : Sum.inl y = k := Option.some.inj e3
      subst e5
      rcases keyIs_shape (show keyIs (Sum.inl y) v = true from e2) with ⟨i, t, ek, ev⟩ | ⟨z, t, ek, ev⟩
      · cases ek
        exact ⟨y, t, rfl, ev⟩
      · cases ek
  have I1 : Inv X pins σ H { s with heap := h', toks := tk } := I.kept hk
  refine wpAny_bind (wpAny_newList ?_ (by rw [hal]; omega))
  have hoL : (h'.push (seqObj "list" acc.toList.toArray 0)).get? h'.objs.size = some (seqObj "list" acc.toList.toArray 0) := Heap.get?_push_size _ rfl
  show wpAny _ _ _ _ _ { s with heap := h'.push (seqObj "list" acc.toList.toArray 0), toks := tk }
  refine wpAny_bind (wpAny_holding (wpAny_call_entry PyProof.Rows.slot_list_sort ⟨_, hoL, rfl⟩ PyProof.Rows.entry_list_sort
    (SrtO.list_sort_ord (s := { s with heap := h'.push (seqObj "list" acc.toList.toArray 0), toks := tk }) SrtO.swo_int hoL (by rw [hal]; omega) (fun h2 => SrtO.ints_sortable hS h2) fun out g1 g2 => ⟨_, rfl, ?_⟩) (PyProof.Rows.args_list_sort _)))
  obtain ⟨k1, k2, k3⟩ := SrtO.ints_out hS g1 g2
  obtain ⟨e', he'⟩ := PyProof.Rows.sortedHeap_at (vs := acc.toList) (out := out.toArray) hoL
  have hlen : ((out.map SrtO.iv).map V.int).length ≤ sizeLine := by
    rw [List.length_map, k2.length_eq]
    omega
  refine wpAny_pure ⟨_, rfl, .ref h'.objs.size, upd H h'.objs.size (.lst ((out.map SrtO.iv).map V.int)), I1.laid (t' := tk) (fun b u e => ?_) (Nat.le_refl _)
    (show ObjOk X.prog X.w _ _ _ (.lst ((out.map SrtO.iv).map V.int)) from ⟨hlen, out, e', vals_of_ints k1, he'⟩), rfl, q _ _ k2 k3 (I1.hok.fresh (Nat.le_refl _))⟩
  have hb : b < h'.objs.size := Heap.lt_size e
  rw [PyProof.Rows.sortedHeap_old (Nat.ne_of_lt hb) (by rw [size_push']; exact Nat.lt_succ_of_lt hb)]
  exact Heap.get?_push_of_some _ e
end
end Nk
/-! ### the layer's rules with the written part named (for comprehensions, where the reading may not lean on the block) -/
namespace Nk
open PySem L2
section
variable {X : Cx} {K : PySem.W.Frag}
theorem op_inK (K : PySem.W.Frag) (h : X.K = K) : OpR X (compareOp .In) (rIn K false) := h ▸ op_in_seq
theorem op_notInK (K : PySem.W.Frag) (h : X.K = K) : OpR X (compareOp .NotIn) (rIn K true) := h ▸ op_notIn_seq
theorem ix_listK (K : PySem.W.Frag) (h : X.K = K) : IxR X (rIxL K) := h ▸ ix_list
theorem ix_tupK (K : PySem.W.Frag) (h : X.K = K) : IxR X (rIxT K) := h ▸ ix_tup
theorem sl_listK (K : PySem.W.Frag) (h : X.K = K) : SlR X (rSlL K) := h ▸ sl_list
theorem sl_tupK (K : PySem.W.Frag) (h : X.K = K) : SlR X (rSlT K) := h ▸ sl_tup
def rLenQ (K : PySem.W.Frag) : List V → Hp → VK → Prop := fun xs H Q => ∃ p ys, xs = [V.ref p] ∧ (SqL K H p ys ∨ SqT K H p ys) ∧ Q (.int ys.length) H
theorem call_lenK (K : PySem.W.Frag) (h : X.K = K) : CallR X (.builtin "len") (rLenQ K) := h ▸ call_len_seq
def rListQ (K : PySem.W.Frag) : List V → Hp → VK → Prop := fun xs H Q => ∃ p ys, xs = [V.ref p] ∧ (SqL K H p ys ∨ SqT K H p ys) ∧ ∀ l, H l = none → Q (.ref l) (upd H l (.lst ys))
theorem call_listK (K : PySem.W.Frag) (h : X.K = K) : CallR X (.type "list") (rListQ K) := h ▸ call_list_of
def rTupleQ (K : PySem.W.Frag) : List V → Hp → VK → Prop := fun xs H Q => ∃ p ys, xs = [V.ref p] ∧ ((SqL K H p ys ∧ ∀ l, H l = none → Q (.ref l) (upd H l (.tup ys))) ∨ (SqT K H p ys ∧ Q (.ref p) H))
theorem call_tupleK (K : PySem.W.Frag) (h : X.K = K) : CallR X (.type "tuple") (rTupleQ K) := h ▸ call_tuple_of
theorem cr_sumK (K : PySem.W.Frag) (h : X.K = K) (hc : X.calm = true) : CallR X (.builtin "sum") (rSum K) := h ▸ cr_sum hc
theorem cr_sumTK (K : PySem.W.Frag) (h : X.K = K) (hc : X.calm = true) : CallR X (.builtin "sum") (rSumT K) := h ▸ cr_sumT hc
theorem cr_allK (K : PySem.W.Frag) (h : X.K = K) (hc : X.calm = true) : CallR X (.builtin "all") (rAll K) := h ▸ cr_all hc
theorem cr_anyK (K : PySem.W.Frag) (h : X.K = K) (hc : X.calm = true) : CallR X (.builtin "any") (rAny K) := h ▸ cr_any hc
theorem cr_maxK (K : PySem.W.Frag) (h : X.K = K) (hc : X.calm = true) : CallR X (.builtin "max") (rMax K) := h ▸ cr_max hc
theorem cr_minK (K : PySem.W.Frag) (h : X.K = K) (hc : X.calm = true) : CallR X (.builtin "min") (rMin K) := h ▸ cr_min hc
theorem op_eqDK (K : PySem.W.Frag) (h : X.K = K) (hu : X.A.units + 64 < cLine) : OpR X (compareOp .Eq) (rEqD K) := h ▸ op_eqD hu
theorem op_neDK (K : PySem.W.Frag) (h : X.K = K) (hu : X.A.units + 64 < cLine) : OpR X (compareOp .NotEq) (rNeD K) := h ▸ op_neD hu
theorem op_catTK (K : PySem.W.Frag) (h : X.K = K) : OpR X (binaryOp .Add) (rCatT K) := h ▸ op_catT
theorem call_isiK_ (K : PySem.W.Frag) (h : X.K = K) : CallR X (.builtin "isinstance") (rIsi K) := h ▸ call_isi
theorem pi_listK {tg l : Expr} {tl : TE} (K : PySem.W.Frag) (h : X.K = K) (hl : PE X l tl) : PI X tg l (iList K tl) := h ▸ pi_list hl
theorem pi_tupK {tg l : Expr} {tl : TE} (K : PySem.W.Frag) (h : X.K = K) (hl : PE X l tl) : PI X tg l (iTup K tl) := h ▸ pi_tup hl
theorem pg_tupK {es : List Expr} {k : Nat} {t : TGs} {n : Nat} {pos : Pos} (K : PySem.W.Frag) (hK : X.K = K) (hc : X.calm = true) (h : PGs X es t)
    (hn : (assignEach es X.env).length = n := by rfl) (hst : (assignEach es X.env).findIdx? (·.1) = none := by rfl) : PG X (.Tuple es k pos) (gTup K n t) := hK ▸ pg_tup hc h hn hst
theorem pi_enumK {e : Expr} {ta : TA} {p pos tpos : Pos} {elts : List Expr} {kk : Nat} (K : PySem.W.Frag) (h : X.K = K) (hg : Gl X "enumerate") (hm : X.mg "enumerate" = none) (ha : PA X [e] ta) (hs : starEach [e] X.env = [(false, eval e X.env)] := by rfl) :
    PI X (.Tuple elts kk tpos) (.Call (.Name "enumerate" p) [e] [] pos) (iEnum K ta) := h ▸ pi_enum hg hm ha hs
theorem pi_zipK {e e2 : Expr} {ta : TA} {p pos tpos : Pos} {elts : List Expr} {kk : Nat} (K : PySem.W.Frag) (h : X.K = K) (hg : Gl X "zip") (hm : X.mg "zip" = none) (ha : PA X [e, e2] ta)
    (hs : starEach [e, e2] X.env = (false, eval e X.env) :: starEach [e2] X.env := by rfl) (hpl : (backTo pos (starEach [e2] X.env)).any (·.1) = false := by rfl) :
    PI X (.Tuple elts kk tpos) (.Call (.Name "zip" p) [e, e2] [] pos) (iZip K ta) := h ▸ pi_zip hg hm ha hs hpl
end
end Nk
/-! ### more rules: tuples put together (the left one may be empty), ranges, == of lists with [] -/
namespace Nk
open PySem L2 PySem.Spec PyProof.Rows
section
variable {X : Cx}
def rCatT3 : R2 := fun x y H Q => ∃ a b xs ys, x = .ref a ∧ y = .ref b ∧ H a = some (.tup xs) ∧ H b = some (.tup ys) ∧ xs.length + ys.length ≤ 100000 ∧ ∀ p H', Same H H' → H' p = some (.tup (xs ++ ys)) → Q (.ref p) H'
theorem op_catT3 : OpR X (binaryOp .Add) rCatT3 := by
  intro pins s σ H x y v u Q I rx ry h
  obtain ⟨a, b, xs, ys, rfl, rfl, ha, hb, hz, q⟩ := h
  by_cases hx : xs = []
  · subst hx
    cases rx
    cases ry
    obtain ⟨its, r1, p1, _⟩ := I.tuple (sqT (K := X.K) ha)
    obtain ⟨its2, r2, p2, _⟩ := I.tuple (sqT (K := X.K) hb)
    cases r1
    obtain ⟨⟨cls, dd, data, sl⟩, ho, hc, n, hd⟩ := id p1
    obtain ⟨⟨cls2, dd2, data2, sl2⟩, ho2, hc2, n2, hd2⟩ := id p2
    simp only at hc hd hc2 hd2
    subst hc hd hc2 hd2
    exact concat_meets ⟨_, ho, rfl⟩ ⟨_, ho2, rfl⟩ noFill_tuple_add seq_tuple_add PySem.F.slot_tuple_add PySem.F.entry_tuple_add (PySem.F.args_tuple_add_2 _ _)
      (tuple_addW0 a b #[] its2.toArray n n2 dd dd2 sl sl2 (by rfl)) ⟨ho, ho2, ⟨.ref b, H, I, rfl, q b H (Same.refl _) hb⟩⟩
  · refine op_catT pins s σ H (.ref a) (.ref b) v u Q I rx ry ⟨a, b, xs, ys, rfl, rfl, sqT ha, sqT hb, hx, sz hz, fun e => ?_, fun _ p hp => q p _ (same_upd hp) upd_same⟩
    subst e
    exact q a H (Same.refl _) (by rw [List.append_nil]; exact ha)
def rInR (neg : Bool) : R2 := fun x y H Q => ∃ i a lo hi, x = V.int i ∧ y = V.ref a ∧ H a = some (.rng lo hi) ∧ Q (.bl (if neg then !decide (lo ≤ i ∧ i < hi) else decide (lo ≤ i ∧ i < hi))) H
theorem op_inR : OpR X (compareOp .In) (rInR false) := op_in_rng
theorem op_notInR : OpR X (compareOp .NotIn) (rInR true) := by
  intro pins s σ H x y v u Q I rx ry h
  obtain ⟨i, a, lo, hi, rfl, rfl, ha, q⟩ := h
  obtain ⟨k, rfl⟩ := rx
  obtain rfl : u = Value.ref a := ry
  obtain ⟨t1, t2, t3, ho⟩ := I.hok a _ ha
  show wpAny _ _ (do return Value.bool (!(← contains (Value.ref a) (Value.int i k)))) _ _ s
  refine wpAny_bind (wpAny_contains_slot (T := "range") ⟨_, ho, rfl⟩ F.slot_range_contains (call_meets F.slot_range_contains ⟨_, ho, rfl⟩ F.entry_range_contains (F.args_range_contains_2 _ _) (q_contains a lo hi i t1 t2 t3 k)
    ⟨ho, wpAny_truthy_bool (wpAny_pure ⟨.bl _, H, I, rfl, ?_⟩)⟩))
  rw [place1]
  exact q
def rRange : List V → Hp → VK → Prop := fun vs H Q => ∃ i j, vs = [V.int i, V.int j] ∧ ∀ p, H p = none → Q (.ref p) (upd H p (.rng i j))
theorem cr_rangeV : CallR X (.type "range") rRange := cr_range2
end
/-- data, bools among them -/
def gb : Nat → PyData → Bool
  | _, .none => true
  | _, .int _ => true
  | _, .str x => PyData.strOk x
  | _, .bool _ => true
  | k + 1, .list xs => xs.all (gb k)
  | k + 1, .tuple xs => xs.all (gb k)
  | _, _ => false
theorem gb_lay : ∀ (k : Nat) (d : PyData), gb k d = true → d.canLay0 = true ∧ d.depth ≤ k
  | k, .none, _ => by simp [PyData.canLay0, PyData.depth]
  | k, .bool _, _ => by simp [PyData.canLay0, PyData.depth]
  | k, .int _, _ => by simp [PyData.canLay0, PyData.depth]
  | k, .str x, h => by
    have h' : PyData.strOk x = true := by simpa [gb] using h
    simp [PyData.canLay0, PyData.depth, h']
  | k, .dict _, h => by cases k <;> simp [gb] at h
  | 0, .list _, h => by simp [gb] at h
  | 0, .tuple _, h => by simp [gb] at h
  | k + 1, .list xs, h => by
    have a : ∀ x ∈ xs, gb k x = true := by simpa [gb] using h
    simp only [PyData.canLay0, PyData.depth]
    exact ⟨canLayAll_of fun x hx => (gb_lay k x (a x hx)).1, Nat.succ_le_succ (depthAll_le fun x hx => (gb_lay k x (a x hx)).2)⟩
  | k + 1, .tuple xs, h => by
    have a : ∀ x ∈ xs, gb k x = true := by simpa [gb] using h
    simp only [PyData.canLay0, PyData.depth]
    exact ⟨canLayAll_of fun x hx => (gb_lay k x (a x hx)).1, Nat.succ_le_succ (depthAll_le fun x hx => (gb_lay k x (a x hx)).2)⟩
theorem gb_shaped {k : Nat} {d : PyData} (h : gb k d = true) (hk : k ≤ 64 := by decide) : SeqAt.shaped d = true := by
  obtain ⟨h1, h2⟩ := gb_lay k d h
  unfold SeqAt.shaped
  rw [h1]
  simp
  omega
/-- a thing that may stand within another: it can be laid down as data -/
def Dat (K : PySem.W.Frag) (H : Hp) (k : Nat) (x : V) : Prop := ∃ d, Dp K H x d ∧ gb k d = true
mutual
theorem Dp.same {K : PySem.W.Frag} {H H' : Hp} (s : Same H H') : ∀ {x : V} {d : PyData}, Dp K H x d → Dp K H' x d
  | _, _, .non => .non
  | _, _, .bl b => .bl b
  | _, _, .int i => .int i
  | _, _, .str x => .str x
  | _, _, .lst h a => .lst (s.seq h) (DpAll.same s a)
  | _, _, .tup h a => .tup (Same.tup s h) (DpAll.same s a)
theorem DpAll.same {K : PySem.W.Frag} {H H' : Hp} (s : Same H H') : ∀ {xs : List V} {ds : List PyData}, DpAll K H xs ds → DpAll K H' xs ds
  | _, _, .nil => .nil
  | _, _, .cons h a => .cons (Dp.same s h) (DpAll.same s a)
end
theorem Dat.same {K : PySem.W.Frag} {H H' : Hp} {k : Nat} {x : V} (s : Same H H') (h : Dat K H k x) : Dat K H' k x := by
  obtain ⟨d, h1, h2⟩ := h
  exact ⟨d, Dp.same s h1, h2⟩
theorem dat_all {K : PySem.W.Frag} {H : Hp} {k : Nat} : ∀ {xs : List V}, (∀ x ∈ xs, Dat K H k x) → ∃ ds, DpAll K H xs ds ∧ ds.all (gb k) = true ∧ ds.length = xs.length
  | [], _ => ⟨[], .nil, rfl, rfl⟩
  | x :: xs, h => by
    obtain ⟨d, h1, h2⟩ := h x List.mem_cons_self
    obtain ⟨ds, a, b, c⟩ := dat_all (xs := xs) fun y hy => h y (List.mem_cons_of_mem _ hy)
    exact ⟨d :: ds, .cons h1 a, by rw [List.all_cons, h2, b]; rfl, by simp [c]⟩
theorem eqv_nil {ds : List PyData} (h : ds ≠ []) : PyData.eqv (.list ds) (.list []) = false := by
  cases ds with
  | nil => exact absurd rfl h
  | cons d ds => simp [PyData.eqv, PyData.eqvAll]
/-- l == [], whatever stands in l -/
theorem eqE {K : PySem.W.Frag} {H : Hp} {a b : Addr} {xs : List V} {k : Nat} {Q : VK} (ha : SqL K H a xs) (hx : ∀ x ∈ xs, Dat K H k x) (hb : SqL K H b []) (h1 : xs = [] → Q (.bl true) H) (h2 : xs ≠ [] → Q (.bl false) H) (hk : k + 1 ≤ 64 := by decide) : rEqD K (.ref a) (.ref b) H Q := by
  obtain ⟨ds, d1, d2, d3⟩ := dat_all hx
  refine ⟨.list ds, .list [], .lst ha d1, .lst hb .nil, gb_shaped (k := k + 1) (by simpa [gb] using d2) hk, by decide, ?_⟩
  by_cases c : xs = []
  · have : ds = [] := List.length_eq_zero_iff.mp (by rw [d3, c]; rfl)
    subst this
    exact h1 c
  · rw [eqv_nil (fun e => c (List.length_eq_zero_iff.mp (by rw [← d3, e]; rfl)))]
    exact h2 c
theorem neE {K : PySem.W.Frag} {H : Hp} {a b : Addr} {xs : List V} {k : Nat} {Q : VK} (ha : SqL K H a xs) (hx : ∀ x ∈ xs, Dat K H k x) (hb : SqL K H b []) (h1 : xs = [] → Q (.bl false) H) (h2 : xs ≠ [] → Q (.bl true) H) (hk : k + 1 ≤ 64 := by decide) : rNeD K (.ref a) (.ref b) H Q := by
  obtain ⟨ds, d1, d2, d3⟩ := dat_all hx
  refine ⟨.list ds, .list [], .lst ha d1, .lst hb .nil, gb_shaped (k := k + 1) (by simpa [gb] using d2) hk, by decide, ?_⟩
  by_cases c : xs = []
  · have : ds = [] := List.length_eq_zero_iff.mp (by rw [d3, c]; rfl)
    subst this
    exact h1 c
  · rw [eqv_nil (fun e => c (List.length_eq_zero_iff.mp (by rw [← d3, e]; rfl)))]
    exact h2 c
end Nk
/-! ### comprehensions that filter ints -/
namespace Nk
open PySem L2
theorem lcF {K : PySem.W.Frag} {a : Addr} {ns : List Int} {j : Nat} {tt : TT} {vs : List Nat} {σ : L2.St} {H1 : Hp} {D : Addr} {Qd : Hp → Prop} (f : Int → Bool) (hD : H1 D = none) (hT : SqL K H1 a (ns.map V.int)) (hn : ns.length ≤ 99999)
    (hj : ∀ v : V, ((wipe σ vs).set j (some v))[j]? = some (some v)) (hw : ∀ v : V, wipe ((wipe σ vs).set j (some v)) vs = wipe σ vs)
    (ht : ∀ n H, n ∈ ns → Same H1 H → ∀ Q : Bool → Hp → Prop, (∀ H', Same H H' → Q (f n) H') → tt ((wipe σ vs).set j (some (.int n))) H Q)
    (hd : ∀ H, Same H1 H → H D = some (.lst ((ns.filter f).map V.int)) → Qd H) : LcW (Itl K a) (gName j) tt (tVar j) vs σ H1 D Qd := by
  refine lcL hD hT (fun i => ((ns.take i).filter f).map V.int) (by simp) (fun i x H hx p => ?_) (fun H s hH => hd H s (by simpa using hH))
  rw [List.getElem?_map] at hx
  cases e : ns[i]? with
  | none => rw [e] at hx; cases hx
  | some n =>
  rw [e] at hx
  cases hx
  refine ⟨hw _, ht n H (mem_of_get e) p.same _ fun H' s => ?_⟩
  have hf := filter_take_next f e
  cases c : f n with
  | true =>
    rw [if_pos rfl]
    refine ⟨_, hj _, p.push hD (by rw [List.length_map]; exact Nat.le_trans (filter_len ns f i) hn) s ?_⟩
    show _ = _
    rw [hf, c]
    simp
  | false =>
    rw [if_neg Bool.false_ne_true]
    refine p.skip s ?_
    show _ = _
    rw [hf, c]
    simp
end Nk
/-! ### a caught error that is kept behind its clause -/
namespace Nk
open PySem L2 PySem.Spec PyProof.Rows
/-- an error of the class cl with the own dict d, that was caught -/
def ExV (cl : Value) (d : Option Addr) (a : Addr) : HO := .ext fun h => ∃ oe, h.get? a = some oe ∧ Zc cl d oe ∧ ∃ vs, oe.data = .fields vs
theorem exV_ok {P : Program} {w : World} {H : Hp} {h : Heap} {a : Addr} {cl : Value} {d : Option Addr} {oe : Obj} (e : h.get? a = some oe) (z : Zc cl d oe) (f : ∃ vs, oe.data = .fields vs) : ObjOk P w H h a (ExV cl d a) :=
  ⟨⟨oe, e, z, f⟩, ⟨oe, e⟩, fun _ _ ⟨o, q, r⟩ k => ⟨o, k o q, r⟩⟩
section
variable {X : Cx} {pins : List (Addr × Obj)} {σ : L2.St} {H : Hp} {s : Shared} {a : Addr} {o : HO} {oe : Obj}
/-- an object that was made since the entry is tracked from now on -/
theorem inv_track (I : Inv X pins σ H s) (ha : s.heap.get? a = some oe) (hf : ∃ vs, oe.data = .fields vs) (na : H a = none) (n0 : X.s_0.heap.get? a = none) (nL : a ≠ X.env.locals) (np : ∀ p ∈ X.pn ++ pins, p.1 ≠ a)
    (new : ObjOk X.prog X.w (upd H a o) s.heap a o) : Inv X pins σ (upd H a o) s := by
  have off : ∀ {b : Addr} {u : HO}, H b = some u → (upd H a o) b = some u := fun {b u} e => by rw [upd_ne (ne_of_none e na)]; exact e
  have offN : ∀ {b : Addr}, H b = none → b ≠ a → (upd H a o) b = none := fun {b} e n => by rw [upd_ne n]; exact e
  have old : ∀ {b : Addr} {u : Obj}, X.s_0.heap.get? b = some u → b ≠ a := fun {b u} e z => by rw [z, n0] at e; cases e
  obtain ⟨vs, hvs⟩ := hf
  refine { ok := I.ok, os := I.os, bare := I.bare, base := ?_, loc := I.loc, cell := I.cell, free := offN I.free (Ne.symm nL), freeC := ?_, pin := ?_, hok := ?_, len := I.len }
  · exact { keep := I.base.keep, slot := I.base.slot, free := fun b u e n hx => offN (I.base.free b u e n hx) (old e), there := I.base.there, tups := fun b xs e => off (I.base.tups b xs e), frzs := fun b u v e => off (I.base.frzs b u v e), tbls := fun b ps e => by
              obtain ⟨m, q⟩ := I.base.tbls b ps e
              exact ⟨m, off q⟩ }
  · intro x c e
    refine offN (I.freeC x c e) fun z => ?_
    obtain ⟨v, oc, hc, hd⟩ := I.cell x c e
    rw [z, ha] at hc
    cases hc
    rw [hvs] at hd
    cases hd
  · intro p hp
    obtain ⟨h1, h2, h3, h4, h5⟩ := I.pin p hp
    exact ⟨h1, offN h2 (np p hp), h3, h4, h5⟩
  · intro b u e
    by_cases hb : b = a
    · subst hb
      rw [upd_same] at e
      cases e
      exact new
    · rw [upd_ne hb] at e
      exact (I.hok b u e).stay (fun _ _ _ q => q) (fun _ q => off q) fun _ _ q => off q
end
/-- what 'except x as n: y = n' wishes of an error of the body: n in slot i, y in slot j -/
def wKept (K : PySem.W.Frag) (c : Value) (i j : Nat) (Wout : WX) (D : Ends) : WX := fun cl d σ H =>
  ∃ b, PySem.W.exmOne K cl c = some b ∧ (b = true → ∀ a, H a = none → D.nx ((σ.set i (some (.ref a))).set j (some (.ref a)) |>.set i none) (upd H a (ExV cl d a))) ∧ (b = false → Wout cl d σ H)
section
variable {X : Cx} {x n : Str} {c : Value} {i j : Nat} {body : List Stmt} {b₀ : Stmt} {np pos pos' : Pos} {tb : WX → TS} {Wout : WX}
theorem ps_try_kept (hs : X.stack = X.env :: X.outer) (hf : X.env.frame = some X.env.locals) (hex : X.ex = []) (hN : X.N.Nodup) (hi : X.N[i]? = some n) (hln : X.env.kindOf n = some .local) (hc : Names X x c) (tk : Takes X Wout)
    (hb : ∀ (W : WX) (pn : List (Addr × Obj)) (xe : Value → Shared → Prop), Takes (X.tr pn xe) W → PassesOwn (model X.prog X.w) X.A X.env xe → PSs (X.tr pn xe) body (tb W))
    (hsu : ∀ (a : Addr) (oe : Obj) (pn : List (Addr × Obj)), PSs (X.suite a ((a, oe) :: pn)) [b₀] (tAsg (tVar i) (gName j))) (hlen : i < X.N.length) :
    PS X (.Try body [.ExceptHandler (some (.Name x np)) (some n) [b₀] pos'] [] [] pos) (fun D σ H => tb (wKept X.K c i j Wout D) D σ H) := by
  refine ⟨fun pins s σ H D I h => ?_⟩
  have ok := I.ok
  have hfr : X.A.frames = some (X.env :: X.outer) := by rw [ok.frames, hs]
  refine wpAny_Try_except ?_
  refine wpAny_mono ((hb (wKept X.K c i j Wout D) (X.pn ++ pins) (fun e s₁ => wpAny (model X.prog X.w) X.A (noteFrame e X.env) (fun _ s₂ => wpAny (model X.prog X.w) X.A (setFlight e none) (fun _ s₃ =>
    wpAny (model X.prog X.w) X.A (handleBy e X.env [.ExceptHandler (some (.Name x np)) (some n) [b₀] pos']) (SP X pins D) X.xe s₃) X.xe s₂) X.xe s₁) (fun u s' xx => ?_) PassesOwn.looking).run [] s σ H D (I.toTry _) h) (fun f s1 hsp => ?_) (fun e s1 he => he)
  · obtain ⟨a, B, sI, pins', σ', H', cl, d, rfl, J', nb, up, sky, na, os, ag, b, hb1, hyes, hno⟩ := xx
    have J : Inv X pins σ' H' sI := J'.ofTry ok
    have sky' : Sky B (X.env :: X.outer) a (Zc cl d) X.env.locals s'.heap := hs ▸ sky
    show wpAny (model X.prog X.w) X.A (noteFrame (.ref a) X.env) _ _ _
    refine Sky.land Zc.steady hfr hf sky' fun h3 fl3 up3 => ?_
    have J3 : Inv X pins σ' H' { s' with heap := h3 } := J.landed nb fl3.1 (up.trans up3) os ag
    obtain ⟨oe3, vs3, he3, hz3, hd3⟩ := fl3.there
    have nfr : a ∉ frs (X.env :: X.outer) := fun hm => by
      obtain ⟨_, o', e', hnf⟩ := fl3.2.2.1.mem hm
      rw [he3] at e'
      cases e'
      exact hnf _ hd3
    have nL : a ≠ X.env.locals := fun z => nfr (List.mem_filterMap.mpr ⟨X.env, List.mem_cons_self, by rw [hf, z]⟩)
    have nF : a ∉ X.fs := fun hm => by
      obtain ⟨e, he, q⟩ := List.mem_filterMap.mp hm
      exact nfr (List.mem_filterMap.mpr ⟨e, List.mem_cons_of_mem _ he, q⟩)
    have gone : sI.heap.get? a = none := by
      cases e : sI.heap.get? a with
      | none => rfl
      | some o =>
        have := nb a o e (by rw [hs]; exact nfr)
        rw [fl3.2.1] at this
        cases this
    have n0 : X.s_0.heap.get? a = none := by
      cases e : X.s_0.heap.get? a with
      | none => rfl
      | some o =>
        obtain ⟨o', q⟩ := J.base.there a o e (by rw [hex]; exact fun z => nomatch z)
        rw [gone] at q
        cases q
    have hpn : ∀ p ∈ X.pn ++ pins, p.1 ≠ a := fun p hp z => by
      have := (J.pin p hp).1
      rw [z, gone] at this
      cases this
    have S3 := J3.suite he3 hd3 na nL nF
    refine wpAny_handleBy_cons (codeAny_handlers_test ?_) (by intro q; cases q)
    have LT : PySem.W.Looks (model X.prog X.w) h3 (typeOf (.ref a)) cl := fun A Q E s k q => wpAny_typeOf_ref (k _ _ he3) (by rw [hz3.1]; exact q)
    have LM := PySem.W.exm_one (M := model X.prog X.w) (J3.kIn) LT hb1
    have test : ∀ {Q : Value → Shared → Prop} {E : Value → Shared → Prop}, Q c { s' with heap := h3 } → wpAny (model X.prog X.w) (X.A.mark (some (.ref a))) (eval (.Name x np) X.env) Q E { s' with heap := h3 } := fun {Q E} q => by
      obtain ⟨hg, hdbg, hm | ⟨hm, hv, hnn⟩⟩ := hc
      · exact ld_glob (X := X.suite a ((a, oe3) :: (X.pn ++ pins))) S3 hg hm q hdbg
      · exact ld_blt (X := X.suite a ((a, oe3) :: (X.pn ++ pins))) S3 hg hm hv q hnn hdbg
    refine test (LM.here ?_)
    cases b with
    | true =>
      refine codeAny_handlers_suite_as ?_
      refine HandSPX.lands_againZ fl3 fun h4 fl4 up4 => ?_
      have J4 : Inv X pins σ' H' { s' with heap := h4 } := J.landed nb fl4.1 ((up.trans up3).trans up4) os ag
      obtain ⟨oe4, vs4, he4, hz4, hd4⟩ := fl4.there
      have S4 := J4.suite he4 hd4 na nL nF
      refine store_ok (X := X.suite a ((a, oe4) :: (X.pn ++ pins))) (v := .ref a) S4 hN hi (.inl hln) rfl (fun s5 S5 => ?_) (.inr hln)
      have hv : (σ'.set i (some (V.ref a)))[i]? = some (some (.ref a)) := List.getElem?_set_self (by rw [J4.len]; exact hlen)
      refine wpAny_mono ((hsu a oe4 (X.pn ++ pins)).run [] s5 _ H' { nx := fun σ6 H6 => σ6 = (σ'.set i (some (V.ref a))).set j (some (.ref a)) ∧ H6 = H', rt := fun _ _ => False, bk := fun _ _ => False, ct := fun _ _ => False } S5 ⟨_, hv, rfl, rfl⟩) (fun f s6 hsp => ?_) (fun _ _ z => False.elim z)
      cases f with
      | next =>
        obtain ⟨σ6, H6, S6, rfl, rfl⟩ := hsp
        have he6 : s6.heap.get? a = some oe4 := (S6.pin (a, oe4) (List.mem_append_left _ List.mem_cons_self)).1
        have J6 := S6.unsuite ok
        have J7 := inv_track (o := ExV cl d a) J6 he6 ⟨_, hd4⟩ na n0 nL hpn (exV_ok he6 hz4 ⟨_, hd4⟩)
        exact gone_ok J7 hN hi hln fun s8 J8 => ⟨_, _, J8, hyes rfl a na⟩
      | brk =>
        obtain ⟨_, _, _, z⟩ := hsp
        exact z.elim
      | cont =>
        obtain ⟨_, _, _, z⟩ := hsp
        exact z.elim
      | ret u =>
        obtain ⟨_, _, _, _, _, z⟩ := hsp
        exact z.elim
    | false =>
      show wpAny _ X.A (handleBy (.ref a) X.env []) _ _ _
      refine wpAny_handleBy_nil ?_
      obtain ⟨k1, k2, k3, oe, vs, T, oT, ts', he, hz, hd, h1, hr⟩ := id fl3
      unfold PySem.passOn
      refine wpAny_bind (wpAny_field he hd h1 ?_)
      rw [if_neg (show ¬ ((Value.ref T == Value.none) = true) from by simp)]
      have fin : wpAny (model X.prog X.w) X.A (setFlight (.ref a) X.env.frame) (fun _ s4 => wpAny (model X.prog X.w) X.A (throw (.ref a) : Sem Flow) (SP X pins D) X.xe s4) X.xe { s' with heap := h3 } := by
        rw [hf]
        refine HandSPX.setFlight_upZ fl3 fun h4 hh4 up4 => wpAny_throw (tk _ _ ?_)
        exact ⟨a, B, sI, pins, σ', H', cl, d, rfl, J, nb, (up.trans up3).trans up4, .inr (.inr (by rw [hs]; exact hh4)), na, os, ag, hno rfl⟩
      first
        | exact wpAny_bind (wpAny_pure (wpAny_bind fin))
        | exact wpAny_bind fin
  · cases f with
    | next =>
      obtain ⟨σ', H', J', q⟩ := hsp
      exact wpAny_execs_nil ⟨σ', H', J'.ofTry ok, q⟩
    | brk =>
      obtain ⟨σ', H', J', q⟩ := hsp
      exact ⟨σ', H', J'.ofTry ok, q⟩
    | cont =>
      obtain ⟨σ', H', J', q⟩ := hsp
      exact ⟨σ', H', J'.ofTry ok, q⟩
    | ret u =>
      obtain ⟨v, σ', H', J', r, q⟩ := hsp
      exact ⟨v, σ', H', J'.ofTry ok, r, q⟩
end
section
variable {X : Cx}
/-- isinstance of such an error -/
def rIsX (K : PySem.W.Frag) : List V → Hp → VK → Prop := fun xs H Q => ∃ (a C : Addr) (d : Option Addr) (c : V) (cv : Value) (b : Bool), xs = [.ref a, c] ∧ H a = some (ExV (.ref C) d a) ∧ ExcC K C ∧ ClsV c cv ∧ PySem.W.kitOne K (.ref C) cv = some b ∧ (∀ dd, d = some dd → ∃ fs, H dd = some (.xd fs)) ∧ Q (.bl b) H
theorem call_isX : CallR X (.builtin "isinstance") (rIsX X.K) := by
  intro pins s σ H xs us Q I r h
  obtain ⟨a, C, d, c, cv, b, rfl, ha, E, hc, e, hd, q⟩ := h
  obtain ⟨u1, u2, rfl, r1, r2⟩ := vals2 r
  cases (show u1 = Value.ref a from r1)
  have e2 := hc.eq r2
  subst e2
  obtain ⟨oe, hoe, hz, vs, hv⟩ := (I.hok a _ ha).1
  have hcl : (PySem.W.clsIn X.K C).isSome = true := by
    obtain ⟨cd, hc, _⟩ := PySem.W.any_some E.hd
    rw [hc]; rfl
  have J : ∃ od, PySem.W.InstAt s.heap a oe C od := by
    obtain ⟨oc, odi, oda, osl⟩ := oe
    obtain ⟨h1, h2⟩ := hz
    dsimp only at h1 h2 hv
    subst h1 h2 hv
    cases odi with
    | none => exact ⟨none, hoe, rfl, rfl, trivial⟩
    | some dd =>
      obtain ⟨fs, hfs⟩ := hd dd rfl
      obtain ⟨mA, ⟨od, es, ep, e1, _⟩, _⟩ := I.hok dd _ hfs
      exact ⟨some od, hoe, rfl, rfl, e1⟩
  obtain ⟨od, J⟩ := J
  exact PySem.W.kia_one (PySem.W.kitx_exc hcl E.hg E.hk E.hs E.ha E.hn E.ht E.hm) I.kIn J e (fun z => nomatch z) fun tk => ⟨.bl b, H, I.tok tk, rfl, q⟩
end
end Nk

namespace Nk
open PySem L2 PySem.Spec PyProof.Rows
theorem tk0 {X : Cx} : Takes X (fun _ _ _ _ => False) := fun _ _ x => by
  obtain ⟨_, _, _, _, _, _, _, _, _, _, _, _, _, _, _, _, w⟩ := x
  exact w.elim
section
variable {X : Cx} {CX : CXT} {k : Nat} {ps : List Str} {sp : Sp} {x : Str} {p pos : Pos} {e : Expr} {es : List Expr} {t : TA} {E : L2.St → XK}
theorem pe_fnS (F : Fk X.prog X.w X.K X.mg X.base CX k x ps sp) (hr : Room k X.A) (hg : Gl X x) (hx : ∀ σ, PassesAt CX X σ (E σ)) (ha : PA X (e :: es) t) (hdb : (x == ("__debug__" : Str)) = false := by decide)
    (he : starEach (e :: es) X.env = (false, eval e X.env) :: starEach es X.env := by rfl) (hpl : (backTo pos (starEach es X.env)).any (·.1) = false := by rfl) :
    PE X (.Call (.Name x p) (e :: es) [] pos) (tCallS sp E t) := by
  obtain ⟨f, fd, g, kp, b, G⟩ := F.ex
  exact pe_callS G hr hg g kp b hx ha hdb he hpl
end
/-! counting in a list of flat things -/
theorem count_eqU {x : V} : ∀ {xs : List V} {us : List Value}, Vals xs us → xs.all flatV = true → us.countP (eqU x) = xs.countP fun y => eqV y x
  | _, _, .nil, _ => rfl
  | y :: xs, u :: us, .cons r t, f => by
    rw [List.all_cons, Bool.and_eq_true] at f
    rw [List.countP_cons, List.countP_cons, count_eqU t f.2, eqU_of r f.1]
def rCountF (K : PySem.W.Frag) : V → List V → Hp → VK → Prop := fun x xs H Q => ∃ (p : Addr) (ys : List V) (y : V), x = .ref p ∧ xs = [y] ∧ SqL K H p ys ∧ flatV y = true ∧ ys.all flatV = true ∧ Q (.int ((ys.countP fun z => eqV z y : Nat) : Int)) H
theorem mt_countF {X : Cx} : MtR X "list.count" (rCountF X.K) := by
  intro pins s σ H x xs v us Q I rx rxs h
  obtain ⟨p, ys, y, rfl, rfl, hs, fy, fys, q⟩ := h
  cases rx
  obtain ⟨u, rfl, ru⟩ := rxs.one
  obtain ⟨its, rv, ⟨⟨cls, dd, data, sl⟩, n, ho, hc, hdn, hd⟩, hlen⟩ := I.list hs
  simp only at hc hd
  subst hc hd
  refine call_meets PySem.F.slot_list_count ⟨_, ho, rfl⟩ PySem.F.entry_list_count (PySem.F.args_list_count_2 _ _) (SeqAt.list_countAt p its.toArray n dd sl u (eqU y)) ⟨ho, fun z hz => mem_eqAt ru fy rv fys z (by simpa using hz), ?_⟩
  have ec : its.toArray.toList.countP (eqU y) = ys.countP fun z => eqV z y := by rw [show its.toArray.toList = its from rfl, count_eqU rv fys]
  refine ⟨.int (ys.countP fun z => eqV z y : Nat), H, I.tok _, ⟨s.toks, ?_⟩, q⟩
  rw [ec]
/-! the classes of this program's errors -/
def exTail : List Value := [.type "RuntimeError", .type "Exception", .type "BaseException", .type "object"]
/-- the class over all errors -/
structure Kc (K : PySem.W.Frag) (mg : Str → Option Value) : Prop where
  gP : mg "KeepError" = some (.ref (cls mg "KeepError"))
  ex : ∃ cd, PySem.W.clsIn K (cls mg "KeepError") = some cd ∧ cd.name = "KeepError" ∧ cd.mro = .ref (cls mg "KeepError") :: exTail
  tP : PySem.W.typeIn K (.ref (cls mg "KeepError")) = some (.type "type")
  hd : PySem.W.hasDictIn K (cls mg "KeepError") = true
/-- an error's class -/
structure Ec (K : PySem.W.Frag) (mg : Str → Option Value) (x : Str) : Prop where
  gP : mg x = some (.ref (cls mg x))
  ex : ∃ cd, PySem.W.clsIn K (cls mg x) = some cd ∧ cd.name = x ∧ cd.mro = .ref (cls mg x) :: .ref (cls mg "KeepError") :: exTail
  tP : PySem.W.typeIn K (.ref (cls mg x)) = some (.type "type")
  ec : ExcC K (cls mg x)
section
variable {K : PySem.W.Frag} {h : Heap} {mg : Str → Option Value} {x y : Str}
theorem cls_lookup {C : Addr} {oc : Value} {od : Option Addr} {cd : ClassData} {osl : Array (Option Value)} (l : K.lookup C = some ⟨oc, od, .cls cd, osl⟩) : PySem.W.clsIn K C = some cd := by
  unfold PySem.W.clsIn
  rw [l]
theorem kc_mk {C : Addr} {oc : Value} {od : Option Addr} {osl : Array (Option Value)} {bs : List Value} {N : Addr} {q : Str} {sn : List Str} {sub : List Value} {hd ab dl : Bool} {col : Option Bool} (X : K.In h) (G : h.Ns mainGlobals mg)
    (a : PySem.W.nsIn K mainGlobals "KeepError" = some (some (.ref C)))
    (l : K.lookup C = some ⟨oc, od, .cls { name := "KeepError", bases := bs, mro := [.ref C, .type "RuntimeError", .type "Exception", .type "BaseException", .type "object"], ns := N, qualname := q, hasDict := hd, slotNames := sn, subclasses := sub, abstract := ab, collection := col, hasDel := dl }, osl⟩)
    (tP : PySem.W.typeIn K (.ref C) = some (.type "type")) (hD : PySem.W.hasDictIn K C = true) : Kc K mg := by
  have g := PySem.W.mg_of X G a
  have e := cls_of g
  refine ⟨by rw [e]; exact g, ?_, by rw [e]; exact tP, by rw [e]; exact hD⟩
  rw [e]
  exact ⟨_, cls_lookup l, rfl, rfl⟩
theorem ec_mk {C KE : Addr} {oc : Value} {od : Option Addr} {osl : Array (Option Value)} {bs : List Value} {N : Addr} {q : Str} {sn : List Str} {sub : List Value} {hd ab dl : Bool} {col : Option Bool} (X : K.In h) (G : h.Ns mainGlobals mg)
    (k : PySem.W.nsIn K mainGlobals "KeepError" = some (some (.ref KE))) (a : PySem.W.nsIn K mainGlobals x = some (some (.ref C)))
    (l : K.lookup C = some ⟨oc, od, .cls { name := x, bases := bs, mro := [.ref C, .ref KE, .type "RuntimeError", .type "Exception", .type "BaseException", .type "object"], ns := N, qualname := q, hasDict := hd, slotNames := sn, subclasses := sub, abstract := ab, collection := col, hasDel := dl }, osl⟩)
    (tP : PySem.W.typeIn K (.ref C) = some (.type "type")) (hD : PySem.W.hasDictIn K C = true)
    (h1 : PySem.W.findIn K (.ref C) "__getattribute__" = some (some (.builtin "BaseException.__getattribute__"))) (h2 : PySem.W.findIn K (.ref C) "__getattr__" = some none)
    (h3 : PySem.W.findIn K (.ref C) "__class__" = some (some (.builtin "object.__class__"))) (h4 : PySem.W.specialIn K (.builtin "object.__class__") "__get__" = some (some (.builtin "getset_descriptor.__get__"))) (h5 : PySem.W.takesIn K (.builtin "object.__class__") = some true) : Ec K mg x := by
  have g := PySem.W.mg_of X G a
  have e := cls_of g
  have e2 := cls_of (PySem.W.mg_of X G k)
  have hc := cls_lookup l
  have hm : ∀ b, PySem.W.mroIn K C b = some ([Value.ref C, .ref KE, .type "RuntimeError", .type "Exception", .type "BaseException", .type "object"].contains b) := fun b => by
    unfold PySem.W.mroIn
    rw [hc]
    rfl
  refine ⟨by rw [e]; exact g, ?_, by rw [e]; exact tP, ?_⟩
  · rw [e, e2]
    exact ⟨_, hc, rfl, rfl⟩
  · rw [e]
    refine ⟨h1, h2, ?_, hD, h3, h4, h5, ?_⟩
    · show PySem.W.mroIn K C _ = _
      rw [hm]
      simp
    · rw [hm]
      simp
theorem Ec.mro (e : Ec K mg x) (b : Value) : PySem.W.subIn K (.ref (cls mg x)) b = some ((Value.ref (cls mg x) :: .ref (cls mg "KeepError") :: exTail).contains b) := by
  obtain ⟨cd, h1, _, h3⟩ := e.ex
  show PySem.W.mroIn K _ b = _
  unfold PySem.W.mroIn
  rw [h1, Option.bind_some, h3]
  rfl
theorem Ec.ne (e : Ec K mg x) (f : Ec K mg y) (n : x ≠ y) : cls mg x ≠ cls mg y := fun z => by
  obtain ⟨cd, h1, h2, _⟩ := e.ex
  obtain ⟨cd', h1', h2', _⟩ := f.ex
  rw [z, h1'] at h1
  cases h1
  exact n (h2.symm.trans h2')
theorem Ec.neK (e : Ec K mg x) (f : Kc K mg) (n : x ≠ "KeepError") : cls mg x ≠ cls mg "KeepError" := fun z => by
  obtain ⟨cd, h1, h2, _⟩ := e.ex
  obtain ⟨cd', h1', h2', _⟩ := f.ex
  rw [z, h1'] at h1
  cases h1
  exact n (h2.symm.trans h2')
theorem Ec.is (e : Ec K mg x) (f : Ec K mg y) (k : Kc K mg) (n : y ≠ "KeepError") : PySem.W.kitOne K (.ref (cls mg x)) (.ref (cls mg y)) = some (decide (x = y)) := by
  by_cases c : x = y
  · subst c
    unfold PySem.W.kitOne
    simp
  · have h1 := e.ne f c
    have h2 := f.neK k n
    obtain ⟨cd', h1', _⟩ := f.ex
    unfold PySem.W.kitOne
    rw [if_neg (by intro z; exact h1 (Value.ref.inj (beq_iff_eq.mp z)))]
    show (if ((PySem.W.clsIn K (cls mg y)).isSome && PySem.W.typeIn K (.ref (cls mg y)) == some (.type "type")) = true then PySem.W.subIn K (.ref (cls mg x)) (.ref (cls mg y)) else none) = _
    rw [h1', f.tP, if_pos (by rfl), e.mro]
    rw [Option.some.injEq, decide_eq_false c, List.contains_eq_any_beq]
    simp only [exTail, List.any_cons, List.any_nil, Bool.or_eq_false_iff, beq_eq_false_iff_ne]
    refine ⟨fun z => h1 (Value.ref.inj z).symm, fun z => h2 (Value.ref.inj z), ?_⟩
    simp
theorem Ec.isR (e : Ec K mg x) : PySem.W.kitOne K (.ref (cls mg x)) (.type "RuntimeError") = some true := by
  unfold PySem.W.kitOne
  rw [if_neg (by intro z; exact nomatch (beq_iff_eq.mp z))]
  show (if PySem.W.kitMeta "RuntimeError" = true then PySem.W.subIn K (.ref (cls mg x)) (.type "RuntimeError") else none) = _
  rw [if_pos (by decide +kernel), e.mro]
  simp [exTail]
theorem Ec.exm (e : Ec K mg x) (k : Kc K mg) : PySem.W.exmOne K (.ref (cls mg x)) (.ref (cls mg "KeepError")) = some true := by
  refine PySem.W.exm_ref ?_ k.hd k.tP ?_
  · obtain ⟨cd, h1, _, h3⟩ := k.ex
    show PySem.W.mroIn K _ _ = _
    unfold PySem.W.mroIn
    rw [h1, Option.bind_some, h3]
    rfl
  · rw [e.mro]
    simp
end
end Nk
/-! ### set(l) of a list of whole numbers; sorted and len of it, however many -/
namespace Nk
open PySem L2 PySem.Spec PyProof.Rows
abbrev eSet (w : World) : Obj := { cls := .type "set", dict := none, data := .set #[] 0 (.fresh 0 0 (!w.params.followText "set-order")) }
section
variable {prog : Program} {w : World} {A : Around} {E : Value → Shared → Prop} {s : Shared}
set_option maxRecDepth 100000 in
set_option maxHeartbeats 3200000 in
theorem set_of_list {l : Addr} {xs : Array Value} (ns : List Int) {Q : Value → Shared → Prop} (calm : A.handled = none) (isl : s.heap.IsList l xs) (hin : IntsAre xs.toList ns) (few : ns.length + 1 < scanBound)
    (fin : ∀ (g : Heap) (tk c : Nat), SetR w g s.heap.objs.size (fun j => decide (j ∈ ns)) c → c ≤ ns.length → (∀ b o, s.heap.get? b = some o → g.get? b = some o) → Q (.ref s.heap.objs.size) { s with heap := g, toks := tk }) :
    wpAny (model prog w) A (call (.type "set") [.ref l]) Q E s := by
  have size : xs.size = ns.length := by
    have := hin.length
    rwa [Array.length_toList] at this
  obtain ⟨m1, m2, hmro⟩ := F.called_set.mro
  have hm0 := F.called_set.made
  have hm1 := F.called_set.sub
  refine wpAny_call (codeAny_of_tree ?_)
  show wpAny _ _ (callAny (.type "set") _) _ _ _
  refine wpAny_pure ⟨Code.quiet_builtin _ (by decide +kernel), codeAny_builtin F.entry_type_call ?_⟩
  rw [Around.under_plain (weight_type_call_type "set" [.ref l] []) rfl]
  have hm2 := F.called_set.notType
  have hm3 := F.called_set.canCreate
  have hm4 := F.typeCall_set_1 (.ref l)
  repeat (any_goals (first | assumption | wp_step))
  refine codeAny_mono (code_set_led1 (.ref l) (E := E) (Q₁ := fun v s1 => v = .ref s.heap.objs.size ∧ s1 = { s with heap := s.heap.push (eSet w) }) ⟨rfl, rfl⟩) fun r s1 hr => ?_
  cases r with
  | error _ => exact hr
  | ok fl =>
    cases fl with
    | ret v =>
      obtain ⟨rfl, rfl⟩ := hr
      have at0 : (s.heap.push (eSet w)).get? s.heap.objs.size = some (eSet w) := Heap.get?_push_size _ rfl
      have ty0 : Shared.TypeIs { s with heap := s.heap.push (eSet w) } (.ref s.heap.objs.size) "set" := ⟨_, at0, rfl⟩
      have hi1 := F.called_set.init.lookup
      have hi2 := F.called_set.init.bind (.ref s.heap.objs.size)
      repeat (any_goals (first | assumption | wp_step))
      refine codeAny_mono (codeAny_call_builtin (R := wants (fun r s2 => r = .none ∧ ∃ g tk c, s2 = { s with heap := g, toks := tk } ∧ SetR w g s.heap.objs.size (fun j => decide (j ∈ ns)) c ∧ c ≤ ns.length ∧
          (∀ b o, s.heap.get? b = some o → g.get? b = some o)) E) F.called_set.init.plain F.entry_set_init (check_set_init_1 ty0 ?_)) fun r2 s2 hr2 => ?_
      · obtain ⟨ol, hol, hcl, nl, hdl⟩ := isl
        obtain ⟨k1, k2, k3, k4⟩ := ol
        simp only at hcl hdl
        subst hcl hdl
        have hol1 : (s.heap.push (eSet w)).get? l = some { cls := .type "list", dict := k2, data := .seq xs nl, slots := k4 } := Heap.get?_push_of_some _ hol
        have sub1 := F.sub_list_set
        have sub2 := F.sub_list_frozenset
        have nodict : (Value.type "list" == Value.type "dict") = false := by decide
        have isl1 : (s.heap.push (eSet w)).IsList l xs := ⟨_, hol1, rfl, nl, rfl⟩
        unfold Builtin.«set.__init__» noKeywords Builtin.Frozenset.updateFrom
        generalize hPI : pyIter = PI
        wp_walk
        subst hPI
        refine wpAny_pyIter_list isl1 ?_
        refine wpAny_bind (wpAny_runValue ?_)
        have lt0 : l < s.heap.objs.size := Heap.lt_size hol
        have calm3 : A.in1.in1.in1.handled = none := by simp [calm]
        have ne1 : l ≠ (s.heap.push (eSet w)).objs.size := by
          rw [Heap.size_push]
          exact Nat.ne_of_lt (Nat.lt_succ_of_lt lt0)
        have out1 : s.heap.objs.size ∉ [(s.heap.push (eSet w)).objs.size, l] := by
          rw [Heap.size_push]
          simp only [List.mem_cons, List.mem_singleton, List.not_mem_nil, or_false, not_or]
          exact ⟨Nat.ne_of_lt (Nat.lt_succ_self _), Nat.ne_of_gt lt0⟩
        have vals : ∀ (i : Nat) (v : Value), xs[i]? = some v → ∃ k t, ns[i]? = some k ∧ v = .int k t := fun i v hv => by
          have hi : i < ns.length := by
            rw [← size]
            exact (Array.getElem?_eq_some_iff.mp hv).1
          obtain ⟨t, e⟩ := PyProof.Rows.IntsAre.int_at hin i v (by rw [Array.getElem?_toList]; exact hv)
          refine ⟨ns[i], t, List.getElem?_eq_getElem hi, ?_⟩
          rw [e, List.getD_eq_getElem?_getD, List.getElem?_eq_getElem hi] <;> rfl
        refine set_update_ints ((Walks.list calm3 _ l ne1 xs).toS) s.heap.objs.size out1 ns size few vals (xs.size - 0) 0 _ (by omega) (Nat.zero_le _) ⟨⟨_, Heap.get?_push_size _ rfl, rfl, rfl⟩, (isl1.push _)⟩ ?one ?two
        case one =>
          have at2 : ((s.heap.push (eSet w)).push { cls := .type "list_iterator", data := .fields #[.ref l, .int 0 0] }).get? s.heap.objs.size = some (eSet w) := Heap.get?_push_of_some _ at0
          exact ⟨0, Nat.le_refl 0, setR_new_at at2⟩
        case two =>
          intro s3 c3 mv hc3 R3
          obtain ⟨h3, g3, d3, t3, o3⟩ := s3
          have eg : g3 = s.gens := mv.gens
          have ed : d3 = s.drawn := mv.drawn
          have eo : o3 = s.os := mv.os
          subst eg ed eo
          show wpAny _ _ _ _ _ _
          refine wpAny_pure ?_
          show wpAny _ _ (ret Value.none) _ _ _
          rw [size] at hc3
          refine wpAny_pure ⟨rfl, h3, t3, c3, rfl, R3, hc3, fun b o e => ?_⟩
          have lb : b < s.heap.objs.size := Heap.lt_size e
          have nb1 : b ≠ s.heap.objs.size := Nat.ne_of_lt lb
          have nb2 : b ≠ (s.heap.push (eSet w)).objs.size := by
            rw [Heap.size_push]
            exact Nat.ne_of_lt (Nat.lt_succ_of_lt lb)
          refine mv.heap b o ?_ (Heap.get?_push_of_some _ (Heap.get?_push_of_some _ e))
          simp only [List.mem_cons, List.mem_singleton, List.not_mem_nil, or_false, not_or]
          exact ⟨nb1, nb2⟩
      · cases r2 with
        | error _ => exact hr2
        | ok fl2 =>
          cases fl2 with
          | ret _ =>
            obtain ⟨rfl, g, tk, c, rfl, R2, hc2, k2⟩ := hr2
            repeat (any_goals (first | assumption | wp_step))
            exact fin _ _ _ R2 hc2 k2
          | _ => exact hr2.elim
    | _ => exact hr.elim
end
section
variable {X : Cx}
def rSetLI (K : PySem.W.Frag) (w : World) : List V → Hp → VK → Prop := fun vs H Q => ∃ (a : Addr) (ns : List Int), vs = [V.ref a] ∧ SqL K H a (ns.map V.int) ∧ ns.length ≤ 4000 ∧
  ∀ (p : Addr) (c : Nat), H p = none → c ≤ ns.length → Q (.ref p) (upd H p (SetO w p (fun j => decide (j ∈ ns)) c))
theorem cr_setLI (hc : X.calm = true) : CallR X (.type "set") (rSetLI X.K X.w) := by
  intro pins s σ H vs us Q I r h
  obtain ⟨a, ns, rfl, hs, hz, q⟩ := h
  obtain ⟨its, rv, hl, _⟩ := I.list hs
  rw [Vals.ref1 r]
  refine set_of_list ns (I.ok.hd hc) hl.isList rv.ints (by unfold scanBound; omega) fun g tk c R hc k => ?_
  exact ⟨.ref _, _, I.laid (t' := tk) (o := SetO X.w s.heap.objs.size (fun j => decide (j ∈ ns)) c) k (Nat.le_refl _) (setO_new R), rfl, q _ c (I.hok.fresh (Nat.le_refl _)) hc⟩
theorem rise_of_nodup {l : List Int} (h : l.Pairwise (· ≤ ·)) (nd : l.Nodup) : l.Pairwise (· < ·) := (h.and nd).imp fun {a b} ⟨h1, h2⟩ => by omega
/-- sorted of a set, however many -/
def rSortedSA (w : World) : List V → Hp → VK → Prop := fun vs H Q => ∃ (a : Addr) (S : Int → Bool) (n : Nat), vs = [V.ref a] ∧ H a = some (SetO w a S n) ∧ n ≤ 10000 ∧
  ∀ (ns : List Int) (p : Addr), ns.Pairwise (· < ·) → (∀ k : Int, k ∈ ns ↔ S k = true) → ns.length = n → H p = none → Q (.ref p) (upd H p (.lst (ns.map V.int)))
theorem cr_sortedSA (hcalm : X.calm = true) : CallR X (.builtin "sorted") (rSortedSA X.w) := by
  intro pins s σ H vs us Q I r h
  obtain ⟨a, S, n, rfl, ha, hn0, q⟩ := h
  rw [Vals.ref1 r]
  obtain ⟨o, es, ep, t, ho, hex, hd, g, nd, hm, hb, hf, hn, hr, hl⟩ := setO_get I ha
  refine Calls.call_function_entry PyProof.Rows.kind_sorted PyProof.Rows.plain_sorted PyProof.Rows.entry_sorted (PyProof.Rows.args_sorted1 _) ?_
  unfold Builtin.«sorted»
  refine wpAny_bind (m := checkCount "sorted" 1 1 _) (wpAny_pure ?_)
  refine wpAny_bind (collect_set (A := X.A.in1) (I.ok.hd hcalm) ⟨o, ho, hex.1, hd⟩ hf hb hr hl fun s1 us k1 hz g1 o1 pm => ?_)
  have hul : us.length = n := by
    rw [pm.length_eq, List.length_map, Array.length_toList]
    exact hn
  have hI : IntsAre us (us.map Builtin.Re.reRawOf) := ints_of us fun v hv => by
    obtain ⟨e, he, q⟩ := List.mem_map.mp (pm.mem_iff.mp hv)
    obtain ⟨k, tk, h1, _⟩ := g e he
    exact ⟨k, tk, by rw [← q]; exact h1⟩
  have pk : (us.map Builtin.Re.reRawOf).Perm (es.toList.map keyOf) := by
    have z := pm.map Builtin.Re.reRawOf
    rw [List.map_map] at z
    exact z
  have hsz : us.length ≤ sizeLine := by
    rw [hul]
    exact sz (by omega)
  refine wpAny_bind (wpAny_newList ?_ hsz)
  have hoL : (s1.heap.push (seqObj "list" us.toArray 0)).get? s1.heap.objs.size = some (seqObj "list" us.toArray 0) := Heap.get?_push_size _ rfl
  refine wpAny_bind (wpAny_holding (wpAny_call_entry PyProof.Rows.slot_list_sort ⟨_, hoL, rfl⟩ PyProof.Rows.entry_list_sort
    (SrtO.list_sort_ord SrtO.swo_int hoL hsz (fun h2 => SrtO.ints_sortable hI h2) fun out b1 b2 => ⟨_, rfl, ?_⟩) (PyProof.Rows.args_list_sort _)))
  obtain ⟨c1, c2, c3⟩ := SrtO.ints_out hI b1 b2
  obtain ⟨e', he'⟩ := PyProof.Rows.sortedHeap_at (vs := us) (out := out.toArray) hoL
  have pn : (out.map SrtO.iv).Perm (es.toList.map keyOf) := c2.trans pk
  have hlen : ((out.map SrtO.iv).map V.int).length ≤ sizeLine := by
    rw [List.length_map, c2.length_eq, List.length_map]
    exact hsz
  have hnone : H s1.heap.objs.size = none := I.hok.fresh hz
  have old : ∀ b u, s.heap.get? b = some u → (PyProof.Rows.sortedHeap (s1.heap.push (seqObj "list" us.toArray 0)) s1.heap.objs.size us out.toArray).get? b = some u := fun b u e => by
    have z := k1 b u e
    have lt := Heap.lt_size z
    rw [PyProof.Rows.sortedHeap_old (Nat.ne_of_lt lt) (by rw [size_push']; exact Nat.lt_succ_of_lt lt)]
    exact Heap.get?_push_of_some _ z
  have J : Inv X pins σ (upd H s1.heap.objs.size (.lst ((out.map SrtO.iv).map V.int))) { s with heap := PyProof.Rows.sortedHeap (s1.heap.push (seqObj "list" us.toArray 0)) s1.heap.objs.size us out.toArray, gens := s1.gens, drawn := s1.drawn, toks := s1.toks } :=
    I.call (ch := []) (Un.laid old hz hnone) (I.hok.laid old hz ⟨hlen, out, e', vals_of_ints c1, he'⟩) (by rw [g1]; exact I.bare) (fun _ z => nomatch z)
  refine wpAny_pure ⟨_, rfl, .ref s1.heap.objs.size, _, ?_, rfl, q _ _ (rise_of_nodup c3 (pn.nodup_iff.mpr nd)) (fun k => by rw [pn.mem_iff, ← hm k]) (by rw [pn.length_eq, List.length_map, Array.length_toList]; exact hn) hnone⟩
  have eo : s1.os = s.os := o1
  rw [← eo] at J
  exact J
/-- len of a set -/
def rLenS (w : World) : List V → Hp → VK → Prop := fun vs H Q => ∃ (a : Addr) (S : Int → Bool) (n : Nat), vs = [V.ref a] ∧ H a = some (SetO w a S n) ∧ Q (.int n) H
end
end Nk
/-! ### own classes: methods by their promise, len of an instance, steps of the heap -/
namespace Nk
open PySem L2 PySem.Spec PyProof.Rows
/-- a method as it stands behind the top: c's, found at the def st -/
structure Md (K : PySem.W.Frag) (mg : Str → Option Value) (c m qual : Str) (st : Stmt) (ps : List Str) : Prop where
  ex : ∃ (f : Addr) (fd : FuncData), Fun K m qual st f fd ∧ Meth K (cls mg c) m f ∧ Binds K fd ps []
/-- a class without own __new__ -/
structure Oc (K : PySem.W.Frag) (mg : Str → Option Value) (c : Str) : Prop where
  g : mg c = some (.ref (cls mg c))
  cl : Cls K (cls mg c)
  makes : PySem.W.makesIn K (cls mg c) = true
  kp : PySem.W.keepIn K (.ref (cls mg c)) = true
/-- a method keeps a promise -/
structure Mo (P : Program) (w : World) (K : PySem.W.Frag) (mg : Str → Option Value) (base : Heap) (CX : CXT) (k : Nat) (c m : Str) (ps : List Str) (sp : Sp) : Prop where
  ex : ∃ (f : Addr) (fd : FuncData), Meth K (cls mg c) m f ∧ Binds K fd ps [] ∧ FnOk P w K mg base CX k f fd ps sp
section
variable {X : Cx} {CX : CXT} {k : Nat} {ps : List Str} {sp : Sp} {c m x : Str} {p pos apos : Pos} {o e : Expr} {es : List Expr} {ta : TE} {t : TA} {E : XK}
theorem pe_me {pl : Sem Bool} (he : PE X o ta) (O : Oc X.K X.mg c) (M : Mo X.prog X.w X.K X.mg X.base CX k c m ps sp) (hr : Room k X.A) (hx : Passes CX X E) (ha : PA X (e :: es) t)
    (hst : starEach (e :: es) X.env = (false, eval e X.env) :: starEach es X.env := by rfl) (hpl : (backTo pos (starEach es X.env)).any (·.1) = false := by rfl)
    (ht : eval (.Call (.Attribute o m apos) (e :: es) [] pos) X.env = (do
      let ov ← eval o X.env
      standAt apos.atName
      let (g, first) ← holding [ov] (getMethod ov m pl)
      callWith pos g first (backTo pos (starEach (e :: es) X.env)) (backToKw pos (keywordEach [] X.env))) := by rfl) :
    PE X (.Call (.Attribute o m apos) (e :: es) [] pos) (tMeth (cls X.mg c) m sp [] E ta t) := by
  obtain ⟨f, fd, h1, h2, h3⟩ := M.ex
  exact pe_meth he O.cl h1 h3 hr h2 .nil hx ha hst hpl ht
theorem pe_me0 {pl : Sem Bool} (he : PE X o ta) (O : Oc X.K X.mg c) (M : Mo X.prog X.w X.K X.mg X.base CX k c m ps sp) (hr : Room k X.A) (hx : Passes CX X E)
    (ht : eval (.Call (.Attribute o m apos) [] [] pos) X.env = (do
      let ov ← eval o X.env
      standAt apos.atName
      let (g, first) ← holding [ov] (getMethod ov m pl)
      callWith pos g first (backTo pos (starEach [] X.env)) (backToKw pos (keywordEach [] X.env))) := by rfl) :
    PE X (.Call (.Attribute o m apos) [] [] pos) (tMeth (cls X.mg c) m sp [] E ta tNil) := by
  obtain ⟨f, fd, h1, h2, h3⟩ := M.ex
  exact pe_meth0 he O.cl h1 h3 hr h2 .nil hx ht
theorem pe_new (O : Oc X.K X.mg c) (M : Mo X.prog X.w X.K X.mg X.base CX k c "__init__" ps sp) (hr : Room (k + 1) X.A) (hg : Gl X c) (hx : Passes CX X E) (ha : PA X (e :: es) t)
    (hdb : (c == ("__debug__" : Str)) = false := by decide) (he : starEach (e :: es) X.env = (false, eval e X.env) :: starEach es X.env := by rfl) (hpl : (backTo pos (starEach es X.env)).any (·.1) = false := by rfl) :
    PE X (.Call (.Name c p) (e :: es) [] pos) (tMake (cls X.mg c) sp [] E t) := by
  obtain ⟨f, fd, h1, h2, h3⟩ := M.ex
  exact pe_make ⟨O.makes, h1.at_, h1.fn, O.kp⟩ h3 hr hg O.g h2 .nil hx ha hdb he hpl
/-- len of an instance -/
def rLenO (C : Addr) (sp : Sp) (E : XK) : List V → Hp → VK → Prop := fun xs H Q => ∃ (a dx : Addr) (fs : List (Str × V)), xs = [.ref a] ∧ H a = some (.ins C dx fs) ∧ sp [.ref a] H (fun v H' => ∃ n : Nat, v = .int n ∧ n < 2 ^ 62 ∧ Q (.int n) H') E
theorem cr_lenO (O : Oc X.K X.mg c) (M : Mo X.prog X.w X.K X.mg X.base CX k c "__len__" ps sp) (hr : Room (k + 1) X.A) (hx : Passes CX X E) : CallR X (.builtin "len") (rLenO (cls X.mg c) sp E) := by
  intro pins s σ H xs us Q I r h
  obtain ⟨a, dx, fs, rfl, ha, q⟩ := h
  rw [Vals.ref1 r]
  obtain ⟨f, fd, h1, h2, h3⟩ := M.ex
  obtain ⟨mA, ob, _⟩ := ins_get I.hok ha
  obtain ⟨od, hod, _⟩ := lookIn_ns ob.ns
  have J : PySem.W.InstAt s.heap a (PySem.W.instObj (cls X.mg c) dx) (cls X.mg c) (some od) := ⟨ob.obj, rfl, rfl, hod⟩
  obtain ⟨m0, fr⟩ := I.fr
  have r2 : Vals [V.ref a] [Value.ref a] := .cons rfl .nil
  have hl : ([Value.ref a] ++ ([] : List Value)).length = ps.length := by
    have := h3.len _ _ _ _ q
    exact this
  refine PySem.W.len_K fr I.ok.mod.kin J h1.at_ h1.fn ?_
  refine wpAny_call (codeAny_mono (h3.run _ X.stack s H ⟨[.ref a], []⟩ [.ref a] [.ref a] _ E hr.in1 I.env0.in1 (h2 s [.ref a] I.kIn hl) r2 q) fun rr s' hq => ?_)
  cases rr with
  | error e => exact hx pins σ H s e s' I hq
  | ok fl =>
    cases fl with
    | ret u =>
      obtain ⟨v, H', I2, rv, n, rfl, hn, q2⟩ := I.after hq
      obtain ⟨tk, rfl⟩ := rv
      exact ⟨⟨by omega, by omega⟩, .int n, H', I2.tok _, ⟨_, rfl⟩, q2⟩
    | next => exact False.elim hq
    | brk => exact False.elim hq
    | cont => exact False.elim hq
theorem pe_fldK {f : Str} (K : PySem.W.Frag) (hK : X.K = K) (he : PE X e ta) (hb : attributeBase e f X.env (eval e X.env) = eval e X.env) : PE X (.Attribute e f pos) (tFld K ta f) := hK ▸ pe_fld he hb
end
section
variable {K : PySem.W.Frag} {h : Heap} {mg : Str → Option Value}
theorem md_mk {c m qual : Str} {st : Stmt} {ps : List Str} {C f : Addr} {oc : Value} {od an : Option Addr} {osl : Array (Option Value)} {kV doc pm cdv ct : Value} (X : K.In h) (G : h.Ns mainGlobals mg)
    (hb : ∀ (kV doc pm : Value) (an : Option Addr) (cdv ct : Value) (us : List Value), us.length = ps.length → bindArgs (PySem.W.fnOf m qual (defArgs st) (defBody st) (defScope st) .none kV doc pm an cdv ct) ⟨us, []⟩ = pure (ps.zip us))
    (aC : PySem.W.nsIn K mainGlobals c = some (some (.ref C))) (a : PySem.W.findIn K (.ref C) m = some (some (.ref f))) (i : PySem.W.isFn K (.ref f) = true)
    (l : K.lookup f = some ⟨oc, od, .func (PySem.W.fnOf m qual (defArgs st) (defBody st) (defScope st) .none kV doc pm an cdv ct), osl⟩)
    (cc : PySem.W.codeIn K cdv qual = true) (k : PySem.W.keepIn K (.ref f) = true) : Md K mg c m qual st ps := by
  have F := fun_mk (st := st) l cc k
  have e := cls_of (PySem.W.mg_of X G aC)
  exact ⟨f, _, F, by rw [e]; exact ⟨a, i, k⟩, F.binds hb⟩
theorem oc_mk {c : Str} {C : Addr} (X : K.In h) (G : h.Ns mainGlobals mg) (aC : PySem.W.nsIn K mainGlobals c = some (some (.ref C))) (pg : PySem.W.plainGet K C Str.empty = true) (hd : PySem.W.hasDictIn K C = true) (po : PySem.W.plainOver K C = true)
    (sa : PySem.W.findIn K (.ref C) "__setattr__" = some (some (.builtin "object.__setattr__"))) (mk : PySem.W.makesIn K C = true) (kc : PySem.W.keepIn K (.ref C) = true) : Oc K mg c := by
  have g := PySem.W.mg_of X G aC
  have e := cls_of g
  exact ⟨by rw [e]; exact g, by rw [e]; exact ⟨pg, hd, po, sa⟩, by rw [e]; exact mk, by rw [e]; exact kc⟩
theorem na_mk {c f : Str} {C : Addr} (X : K.In h) (G : h.Ns mainGlobals mg) (aC : PySem.W.nsIn K mainGlobals c = some (some (.ref C))) (n : PySem.W.findIn K (.ref C) f = some none) : NoAttr K (cls mg c) f := by
  rw [cls_of (PySem.W.mg_of X G aC)]
  exact n
end
/-! steps of the heap -/
/-- only what stands in S may have changed; tuples never do -/
structure Step (S : List Addr) (H H' : Hp) : Prop where
  keep : ∀ b o, H b = some o → b ∉ S → H' b = some o
  tups : ∀ b xs, H b = some (.tup xs) → H' b = some (.tup xs)
theorem Step.refl {S : List Addr} {H : Hp} : Step S H H := ⟨fun _ _ h _ => h, fun _ _ h => h⟩
theorem Step.of {S : List Addr} {H H' : Hp} (s : Same H H') : Step S H H' := ⟨fun b o h _ => s b o h, fun b xs h => s b _ h⟩
theorem Step.same {S : List Addr} {H H1 H2 : Hp} (a : Step S H H1) (s : Same H1 H2) : Step S H H2 := ⟨fun b o h n => s _ _ (a.keep b o h n), fun b xs h => s _ _ (a.tups b xs h)⟩
theorem Same.step {S : List Addr} {H H1 H2 : Hp} (s : Same H H1) (a : Step S H1 H2) : Step S H H2 := ⟨fun b o h n => a.keep b o (s _ _ h) n, fun b xs h => a.tups b xs (s _ _ h)⟩
/-- S' is S, but for what is new -/
def Own (H : Hp) (S S' : List Addr) : Prop := ∀ b ∈ S', b ∈ S ∨ H b = none
theorem Own.refl {H : Hp} {S : List Addr} : Own H S S := fun _ h => .inl h
theorem Step.trans {S S' : List Addr} {H H1 H2 : Hp} (a : Step S H H1) (b : Step S' H1 H2) (w : Own H S S') : Step S H H2 :=
  ⟨fun c o h n => b.keep c o (a.keep c o h n) fun hm => (w c hm).elim n (fun h1 => by rw [h1] at h; cases h), fun c xs h => b.tups c xs (a.tups c xs h)⟩
theorem Step.more {S T : List Addr} {H H' : Hp} (a : Step S H H') (h : ∀ b ∈ S, b ∈ T) : Step T H H' := ⟨fun b o e n => a.keep b o e fun hm => n (h b hm), a.tups⟩
theorem Step.free {S : List Addr} {H H' : Hp} {p : Addr} (a : Step S H H') (hp : H' p = none) (n : p ∉ S) : H p = none := by
  cases e : H p with
  | none => rfl
  | some o => rw [a.keep _ _ e n] at hp; cases hp
theorem But.step {t : Addr} {H H' : Hp} {l : List V} (b : But t H H') (ht : H t = some (.lst l)) : Step [t] H H' :=
  ⟨fun c o h n => b c o h fun e => n (by rw [e]; exact List.mem_cons_self), fun c xs h => b c _ h (ne_of h ht (by intro z; cases z))⟩
theorem Step.but {t : Addr} {H H' : Hp} (a : Step [t] H H') : But t H H' := fun b o h n => a.keep b o h fun hm => n (List.mem_singleton.mp hm)
theorem step_upd {S : List Addr} {H : Hp} {p : Addr} {o u : HO} (hp : p ∈ S) (h : H p = some u) (hu : ∀ xs, u ≠ .tup xs) : Step S H (upd H p o) :=
  ⟨fun b x e n => by rw [upd_ne (fun z => n (by rw [z]; exact hp))]; exact e, fun b xs e => by rw [upd_ne (ne_of e h fun z => hu xs z.symm)]; exact e⟩
theorem putH {S : List Addr} {H0 H H' : Hp} {k : Addr} {u o : HO} (st : Step S H0 H) (hm : k ∈ S) (h : H k = some u) (hu : ∀ xs, u ≠ .tup xs) (e : upd H k o = H') : Step S H0 H' ∧ But k H H' ∧ H' k = some o := by
  subst e
  exact ⟨st.trans (step_upd hm h hu) .refl, But.upd, upd_same⟩
theorem Step.sqT {K : PySem.W.Frag} {S : List Addr} {H H' : Hp} {a : Addr} {xs : List V} (s : Step S H H') (h : H a = some (.tup xs)) : SqT K H' a xs := Nk.sqT (s.tups _ _ h)
theorem putF_lookup {f g : Str} {y : V} {fs : List (Str × V)} : (putF f y fs).lookup g = if g = f then some y else fs.lookup g := lookup_putF ..
end Nk
/-! ### an own error with its own __init__, over KeepError over RuntimeError -/
namespace Nk
open PySem L2 PySem.Spec PyProof.Rows PySem.HandSPX
open Builtin Builtin.ObjectAttr
abbrev rtTail : List Value := [.type "RuntimeError", .type "Exception", .type "BaseException", .type "object"]
theorem rt_pass (self : Value) (C B : Addr) : refuseLoop self "__setattr__" (.ref C :: .ref B :: rtTail) = pure () := by
  rw [refuseLoop_ref, refuseLoop_ref]
  exact F.store_RuntimeError.passes self
section
variable {prog : Program} {w : World} {A : Around} {E : Value → Shared → Prop} {R : Result → Shared → Prop} {hp : Heap} {g : Array GenState} {d : Drawn} {t : Nat} {os : OsState}
theorem first_fld {K : W.Frag} {nam : Str} {tk : Tok} {v : Value} {x C B : Addr} {fv : Array Value} {cd : ClassData} (X : K.In hp) (hx : hp.get? x = some { cls := .ref C, data := .fields fv }) (hcd : W.clsIn K C = some cd) (hmro : cd.mro = .ref C :: .ref B :: rtTail) (hh : cd.hasDict = true)
    (ha : W.findIn K (.ref C) nam = some none)
    (fin : ∀ h2 tk2 dx, (∀ b o, b ≠ x → hp.get? b = some o → h2.get? b = some o) → hp.objs.size ≤ dx → dx ≠ x → h2.get? x = some { cls := .ref C, dict := some dx, data := .fields fv } → h2.Ns1 dx (fun y => if y = nam then some v else none) → R (.ok (.ret .none)) ⟨h2, g, d, tk2, os⟩) :
    codeAny (model prog w) A (.call (.builtin "object.__setattr__") ⟨[.ref x, .str nam tk, v], []⟩) R ⟨hp, g, d, t, os⟩ := by
  have J : W.InstAt hp x { cls := .ref C, data := .fields fv } C none := ⟨hx, rfl, rfl, trivial⟩
  have st := F.store_object
  have nxs : x ≠ hp.objs.size := Nat.ne_of_lt (Heap.lt_size hx)
  have hob : W.mroIn K C (.type "object") = some true := by
    unfold W.mroIn
    rw [hcd, Option.bind_some, hmro]
    rfl
  have sub : W.Looks (model prog w) hp (isInstance (.ref x) (.type "object")) true := J.type.andThen (W.looks_mroIn X hob)
  refine codeAny_call_builtin st.slot.plain st.entry (@W.check_slot (model prog w) _ _ ⟨hp, g, d, t, os⟩ "object.__setattr__" "object" "__setattr__" (.ref x) [.str nam tk, v] [] _ st.kind st.split sub (st.args (.ref x) (.str nam tk) v) ?_)
  have lm : W.Looks (model prog w) hp (mroOf (.ref C)) cd.mro := (W.looks_clsIn X hcd).andThen .now
  have lt : W.Looks (model prog w) hp (storeTaker? none) none := .now
  have lc : W.Looks (model prog w) hp (classData C) cd := W.looks_clsIn X hcd
  rw [W.osa_eq, refuse_eq]
  refine wpAny_bind (wpAny_bind (J.type.at (wpAny_bind (lm.at ?_))))
  rw [hmro, rt_pass]
  refine wpAny_pure (wpAny_bind (J.type.at (wpAny_bind ((W.looks_findIn X ha).at (wpAny_bind (lt.at ?_))))))
  show wpAny _ _ (storeInOwnDict (.ref x) (.ref C) (.str nam tk) nam v false) _ _ _
  obtain ⟨k1, k2, k3, k4, k5, k6, k7, k8, k9, k10, k11⟩ := cd
  dsimp only at hh
  subst hh
  unfold storeInOwnDict ownDictForStores
  repeat (first | with_reducible refine store_in_new ?_ ?_ | with_reducible refine wpAny_loadPart_at hx ?_ | with_reducible refine lc.at ?_ | wp_step)
  · exact ⟨_, #[], _, (Heap.get?_update_ne _ _ _ _ nxs.symm).trans (Heap.get?_push_at rfl rfl), rfl, fun e he => absurd he (by simp), fun _ => rfl⟩
  · intro h2 tk2 n2 sb
    have hx1 : (hp.push { cls := .type "dict", data := .dict #[] }).get? x = some { cls := .ref C, data := .fields fv } := Heap.get?_push_of_some _ hx
    refine fin h2 tk2 hp.objs.size (fun b o hb ho => ?_) (Nat.le_refl _) nxs.symm ?_ n2
    · exact (sb.2 b (Nat.ne_of_lt (Heap.lt_size ho))).trans ((Heap.get?_update_ne _ _ _ _ hb).trans (Heap.get?_push_of_some _ ho))
    · exact (sb.2 x nxs).trans (Heap.get?_update_self _ hx1 rfl)
end
/-- what the written part says of such a class -/
structure OexR (K : PySem.W.Frag) (C : Addr) : Prop where
  cls : ∃ nm q N bs B sn sub ab col dd k0 k1 k2 k3 k5, K.lookup C = some (excClassObj nm q C N bs (.ref B :: rtTail) true sn sub ab col dd k0 k1 k2 k3 k5 "RuntimeError.__new__")
  sa : PySem.W.findIn K (.ref C) "__setattr__" = some (some (.builtin "object.__setattr__"))
  exC : PySem.W.subIn K (.ref C) (.type "BaseException") = some true
  tyC : PySem.W.typeIn K (.ref C) = some (.type "type")
  kC : PySem.W.keepIn K (.ref C) = true
section
variable {X : Cx} {pins : List (Addr × Obj)} {σ : L2.St} {H : Hp} {s : Shared} {a C : Addr} {f : Str} {y : V} {u : Value} {Q : Unit → Shared → Prop} {E : Value → Shared → Prop} {A : Around}
theorem own_first (T : OexR X.K C) (I : Inv X pins σ H s) (e : H a = some (exo a C none)) (hno : PySem.W.findIn X.K (.ref C) f = some none) (ry : RelV y u)
    (k : ∀ dx s', H dx = none → dx ≠ a → Inv X pins σ (upd (upd H dx (exd dx [(f, y)])) a (exo a C (some dx))) s' → Q () s') : wpAny (model X.prog X.w) A (setAttr (.ref a) f u) Q E s := by
  obtain ⟨nm, q, N, bs, B, sn, sub, ab, col, dd, k0, k1, k2, k3, k5, hC⟩ := T.cls
  have hcl : PySem.W.clsIn X.K C = some { name := nm, bases := bs, mro := .ref C :: .ref B :: rtTail, ns := N, qualname := q, hasDict := true, slotNames := sn, subclasses := sub, abstract := ab, collection := col, hasDel := false } := by
    unfold PySem.W.clsIn
    rw [hC] <;> rfl
  obtain ⟨t1, ho⟩ := exo_at I.hok e
  obtain ⟨hp, g, d, t, os⟩ := s
  refine PySem.W.set_plain I.kIn (ox := { cls := .ref C, dict := none, data := .fields #[.ref t1, .none, .none, .none, .bool false, .none] }) (od := none) ⟨ho, rfl, rfl, trivial⟩ T.sa ?_
  refine first_fld I.kIn ho hcl rfl rfl hno fun h2 tk2 dx kp dn dne hx hn => ?_
  have hnd : H dx = none := I.hok.fresh dn
  have nd : ∀ {b : Addr} {o : Obj}, hp.get? b = some o → b ≠ dx := fun {b o} z => Nat.ne_of_lt (Nat.lt_of_lt_of_le (Heap.lt_size z) dn)
  have na : ∀ {b : Addr}, H b = none → b ≠ a := fun {b} n z => by rw [z, e] at n; cases n
  have U : Un X.fs [] H (upd (upd H dx (exd dx [(f, y)])) a (exo a C (some dx))) hp h2 := {
    keep := fun b o z n _ _ => kp b o (na n) z
    slot := fun b o z n _ _ => ⟨o.slots, kp b o (na n) z⟩
    free := fun b o z n _ => by rw [upd_ne (na n), upd_ne (nd z)]; exact n
    there := fun b o z _ => by
      by_cases hb : b = a
      · rw [hb]; exact ⟨_, hx⟩
      · exact ⟨o, kp b o hb z⟩
    tups := fun b xs z => by rw [upd_ne (at_ne e z exo_tup), upd_ne (ne_of_none z hnd)]; exact z
    frzs := fun b o v z => by rw [upd_ne (at_ne e z exo_frz), upd_ne (ne_of_none z hnd)]; exact z
    tbls := fun b ps z => ⟨#[], by rw [upd_ne (at_ne e z exo_tbl), upd_ne (ne_of_none z hnd), z]; simp⟩ }
  refine k dx _ hnd dne (I.un (t' := tk2) U fun b o z => ?_)
  by_cases hb : b = a
  · subst hb
    rw [upd_same] at z
    cases z
    exact exo_ok hx
  · rw [upd_ne hb] at z
    by_cases hd : b = dx
    · subst hd
      rw [upd_same] at z
      cases z
      exact exd_ok hn (relO_put (fs := []) ry fun g => True.intro)
    · rw [upd_ne hd] at z
      refine (I.hok b o z).stay (fun c v hc w => kp c v ?_ w) (fun c hc => by rw [upd_ne (at_ne e hc exo_own), upd_ne (ne_of_none hc hnd)]; exact hc) (fun c xs hc => by rw [upd_ne (at_ne e hc exo_tup), upd_ne (ne_of_none hc hnd)]; exact hc)
      rcases hc with hc | hc
      · rw [hc]; exact hb
      · exact at_ne e hc exo_own
end
/-- self.f = e, the first one -/
def tOstR (K : PySem.W.Frag) (f : Str) (to te : TE) : TS := fun D σ H => te σ H fun y H1 => to σ H1 fun x H2 => ∃ a C : Addr, x = .ref a ∧ OexR K C ∧ PySem.W.findIn K (.ref C) f = some none ∧
  H2 a = some (exo a C none) ∧ ∀ dx, H2 dx = none → dx ≠ a → D.nx σ (upd (upd H2 dx (exd dx [(f, y)])) a (exo a C (some dx)))
section
variable {X : Cx} {o e : Expr} {es : List Expr} {to te : TE} {ta : TA} {f : Str} {p p' pos : Pos}
theorem ps_ostR (ho : PE X o to) (he : PE X e te) (hs : swapsWith e (some (.Attribute o f p')) pos.line X.env = pure false := by rfl) : PS X (.Assign [.Attribute o f p'] e pos) (tOstR X.K f to te) := by
  refine ⟨fun pins s σ H D I h => ?_⟩
  refine plainObj_wpAny_Assign_Attribute (thn (he.run pins s σ H _ I h) fun v s1 ⟨y, H1, I1, r1, q1⟩ => thn (ho.run pins s1 σ H1 _ I1 q1) fun u s2 ⟨x, H2, I2, r2, a, C, ex, T, hno, ea, q⟩ => ?_) hs
  subst ex
  obtain rfl : u = Value.ref a := r2
  exact own_first T I2 ea hno r1 fun dx s' n ne J => ⟨σ, _, J, q dx n ne⟩
theorem pmk_oexR {CX : CXT} {x : Str} {C fI : Addr} {k : Nat} {fd : FuncData} {ps : List Str} {sp : Sp} (T : OexR X.K C) (iC : PySem.W.findIn X.K (.ref C) "__init__" = some (some (.ref fI))) (tI : PySem.W.typeIn X.K (.ref fI) = some (.type "function"))
    (F1 : FnOk X.prog X.w X.K X.mg X.base CX k fI fd ps sp) (hr : Room (k + 1) X.A) (hb : Binds X.K fd ps []) (hx : Passes CX X (fun _ _ _ => False)) (hg : Gl X x) (hm : X.mg x = some (.ref C)) (ha : PA X (e :: es) ta)
    (hdb : (x == ("__debug__" : Str)) = false := by decide) (he : starEach (e :: es) X.env = (false, eval e X.env) :: starEach es X.env := by rfl) (hpl : (backTo pos (starEach es X.env)).any (·.1) = false := by rfl) :
    PMk X (.Call (.Name x p) (e :: es) [] pos) (tMkO C sp [] ta) := by
  intro pins s σ H Q I h
  obtain ⟨nm, q, N, bs, B, sn, sub, ab, col, dd, k0, k1, k2, k3, k5, hC⟩ := T.cls
  refine wpAny_Call_Name_kw (ld_glob I hg hm ?_ hdb)
  refine PySem.W.callWith_K (h₀ := X.base) I.ok.mod.kin T.kC (thn (ha.run pos pins s σ H _ I h) fun us s1 ⟨vs, H1, I1, r1, hz, q1⟩ => ⟨I1.kIn, ?_⟩) he hpl
  show wpAny _ _ (call (.ref C) us) _ _ _
  obtain ⟨hp, g, dr, tk, os⟩ := s1
  have up1 : hp.objs.size ≤ hp.objs.size + 1 := Nat.le_succ _
  have hn : H1 (hp.objs.size + 1) = none := I1.hok.fresh up1
  have hq := q1 (hp.objs.size + 1) hn
  have old : ∀ b o, hp.get? b = some o → ((hp.push (PySem.W.kdv_tup us)).push (excO C hp.objs.size)).get? b = some o := fun b o z => Heap.get?_push_of_some _ (Heap.get?_push_of_some _ z)
  have new : ((hp.push (PySem.W.kdv_tup us)).push (excO C hp.objs.size)).get? (hp.objs.size + 1) = some (excO C hp.objs.size) := by heap_get
  have I2 : Inv X pins σ (upd H1 (hp.objs.size + 1) (exo (hp.objs.size + 1) C none)) ⟨(hp.push (PySem.W.kdv_tup us)).push (excO C hp.objs.size), g, dr, tk, os⟩ :=
    I1.laid (t' := tk) (a := hp.objs.size + 1) (o := exo (hp.objs.size + 1) C none) (h' := (hp.push (PySem.W.kdv_tup us)).push (excO C hp.objs.size)) old up1 (exo_ok new)
  rw [List.append_nil] at hq
  have r2 : Vals (V.ref (hp.objs.size + 1) :: vs) (Value.ref (hp.objs.size + 1) :: us) := .cons rfl r1
  have hl : (Value.ref (hp.objs.size + 1) :: us ++ ([] : List Value)).length = ps.length := by
    rw [List.append_nil, ← r2.length]
    exact F1.len _ _ _ _ hq
  have hus : us.length ≤ sizeLine := by
    rw [← Paired.length r1, sizeLine_eq]
    omega
  have hbb := hb ⟨(hp.push (PySem.W.kdv_tup us)).push (excO C hp.objs.size), g, dr, tk, os⟩ (Value.ref (hp.objs.size + 1) :: us) I2.kIn hl
  rw [List.append_nil] at hbb
  refine wpAny_call (call_own F.excBase_RuntimeError (bm := .ref B :: rtTail) (fun Y => rfl) (I1.kIn _ _ hC) (PySem.W.looks_findIn I1.kIn iC) (fun self => PySem.W.bind_fn I1.kIn self tI) hus
    (codeAny_mono (F1.run _ X.stack _ _ ⟨Value.ref (hp.objs.size + 1) :: us, []⟩ (Value.ref (hp.objs.size + 1) :: us) _ _ (fun _ _ _ => False) (hr.make C us []) (I2.env0.make C us []) hbb r2 hq) fun r s' hq' => ?_))
  cases r with
  | error er => exact hx pins σ _ _ er s' I2 hq'
  | ok fl =>
    cases fl with
    | ret u =>
      obtain ⟨v, H2, os2, bare2, un2, hok2, rv, ev, d, fs, ea, ed, hd1, q2⟩ := hq'
      subst ev
      obtain ⟨h2, g2, d2, t2, os'⟩ := s'
      exact ⟨rv, mk_end (raises_own T.exC T.tyC) I1 up1 old un2 hok2 os2 bare2 ea ed hd1 q2⟩
    | next => exact False.elim hq'
    | brk => exact False.elim hq'
    | cont => exact False.elim hq'
end
end Nk
namespace Nk
open PySem L2 PySem.Spec PyProof.Rows
/-- such a class as it stands behind the top: one field, set by its __init__ -/
structure Eo (K : PySem.W.Frag) (mg : Str → Option Value) (x qual : Str) (st : Stmt) (ps : List Str) (f : Str) : Prop where
  g : mg x = some (.ref (cls mg x))
  ox : OexR K (cls mg x)
  na : PySem.W.findIn K (.ref (cls mg x)) f = some none
  ini : ∃ (fI : Addr) (fd : FuncData), Fun K "__init__" qual st fI fd ∧ PySem.W.findIn K (.ref (cls mg x)) "__init__" = some (some (.ref fI)) ∧ PySem.W.typeIn K (.ref fI) = some (.type "function") ∧ Binds K fd ps []
section
variable {K : PySem.W.Frag} {h : Heap} {mg : Str → Option Value}
theorem eo_mk {x qual : Str} {st : Stmt} {ps : List Str} {f : Str} {C fI : Addr} {oc : Value} {od an : Option Addr} {osl : Array (Option Value)} {kV doc pm cdv ct : Value}
    {nm q : Str} {N B : Addr} {bs : List Value} {sn : List Str} {sub : List Value} {ab : Bool} {col : Option Bool} {dd : Option Addr} {k0 k1 k2 k3 k5 : Option Value} (X : K.In h) (G : h.Ns mainGlobals mg)
    (hb : ∀ (kV doc pm : Value) (an : Option Addr) (cdv ct : Value) (us : List Value), us.length = ps.length → bindArgs (PySem.W.fnOf "__init__" qual (defArgs st) (defBody st) (defScope st) .none kV doc pm an cdv ct) ⟨us, []⟩ = pure (ps.zip us))
    (aC : PySem.W.nsIn K mainGlobals x = some (some (.ref C)))
    (lC : K.lookup C = some (excClassObj nm q C N bs (.ref B :: rtTail) true sn sub ab col dd k0 k1 k2 k3 k5 "RuntimeError.__new__"))
    (sa : PySem.W.findIn K (.ref C) "__setattr__" = some (some (.builtin "object.__setattr__"))) (exC : PySem.W.subIn K (.ref C) (.type "BaseException") = some true) (tyC : PySem.W.typeIn K (.ref C) = some (.type "type")) (kC : PySem.W.keepIn K (.ref C) = true)
    (na : PySem.W.findIn K (.ref C) f = some none)
    (a : PySem.W.findIn K (.ref C) "__init__" = some (some (.ref fI))) (ti : PySem.W.typeIn K (.ref fI) = some (.type "function"))
    (l : K.lookup fI = some ⟨oc, od, .func (PySem.W.fnOf "__init__" qual (defArgs st) (defBody st) (defScope st) .none kV doc pm an cdv ct), osl⟩)
    (cc : PySem.W.codeIn K cdv qual = true) (k : PySem.W.keepIn K (.ref fI) = true) : Eo K mg x qual st ps f := by
  have g := PySem.W.mg_of X G aC
  have e := cls_of g
  have F := fun_mk (st := st) l cc k
  refine ⟨by rw [e]; exact g, by rw [e]; exact ⟨⟨_, _, _, _, _, _, _, _, _, _, _, _, _, _, _, lC⟩, sa, exC, tyC, kC⟩, by rw [e]; exact na, fI, _, F, by rw [e]; exact a, ti, F.binds hb⟩
end
end Nk

namespace Nk
open PySem L2 PySem.Spec PyProof.Rows
/-- its __init__ keeps a promise -/
structure Ek (P : Program) (w : World) (K : PySem.W.Frag) (mg : Str → Option Value) (base : Heap) (CX : CXT) (k : Nat) (x : Str) (ps : List Str) (sp : Sp) : Prop where
  ex : ∃ (fI : Addr) (fd : FuncData), PySem.W.findIn K (.ref (cls mg x)) "__init__" = some (some (.ref fI)) ∧ PySem.W.typeIn K (.ref fI) = some (.type "function") ∧ Binds K fd ps [] ∧ FnOk P w K mg base CX k fI fd ps sp
section
variable {X : Cx} {CX : CXT} {k : Nat} {ps : List Str} {sp : Sp} {x qual f : Str} {st : Stmt} {p pos : Pos} {e : Expr} {es : List Expr} {ta : TA} {ps0 : List Str}
theorem pmk_el (Y : Eo X.K X.mg x qual st ps0 f) (F : Ek X.prog X.w X.K X.mg X.base CX k x ps sp) (hr : Room (k + 1) X.A) (hx : Passes CX X (fun _ _ _ => False)) (hg : Gl X x) (ha : PA X (e :: es) ta)
    (hdb : (x == ("__debug__" : Str)) = false := by decide) (he : starEach (e :: es) X.env = (false, eval e X.env) :: starEach es X.env := by rfl) (hpl : (backTo pos (starEach es X.env)).any (·.1) = false := by rfl) :
    PMk X (.Call (.Name x p) (e :: es) [] pos) (tMkO (cls X.mg x) sp [] ta) := by
  obtain ⟨fI, fd, h1, h2, h3, h4⟩ := F.ex
  exact pmk_oexR Y.ox h1 h2 h4 hr h3 hx hg Y.g ha hdb he hpl
end
end Nk
namespace Nk
open PySem L2
def top (i : Nat) : Stmt := PySem.Challenge.pw_nightkeep_k22_whole_stays.main.body.getD i (.Pass ⟨0, 0, 0, 0⟩)
abbrev s_Elder____init__ : Stmt := inClass (top 7) 0
abbrev s_is_number : Stmt := top 21
abbrev s_is_rounds : Stmt := top 22
abbrev s_look_night : Stmt := top 23
abbrev s_number_of : Stmt := top 24
abbrev s_first_of : Stmt := top 25
abbrev s_is_rule : Stmt := top 28
abbrev s_look_rules : Stmt := top 29
abbrev s_look_nights : Stmt := top 30
abbrev s_kept_by : Stmt := top 31
abbrev s_kept_of : Stmt := top 32
abbrev s_look_taken : Stmt := top 34
abbrev s_look_held : Stmt := top 35
abbrev s_gone_of : Stmt := top 36
abbrev s_stays_by : Stmt := top 37
abbrev s_Keep____init__ : Stmt := inClass (top 38) 0
abbrev s_Keep____len__ : Stmt := inClass (top 38) 1
abbrev s_Keep__take : Stmt := inClass (top 38) 2
abbrev s_Keep__let_go : Stmt := inClass (top 38) 3
abbrev s_Keep__pin : Stmt := inClass (top 38) 4
abbrev s_Keep__unpin : Stmt := inClass (top 38) 5
abbrev s_Keep__held : Stmt := inClass (top 38) 6
abbrev s_Keep__pins : Stmt := inClass (top 38) 7
abbrev s_Keep__stays : Stmt := inClass (top 38) 8
abbrev s_Keep__ahead : Stmt := inClass (top 38) 9
abbrev s__law_town : Stmt := top 40
abbrev s__law_draw : Stmt := top 41
abbrev s__law_pick : Stmt := top 42
abbrev s__law_word : Stmt := top 43
abbrev s__law_refused : Stmt := top 44
abbrev s__law_told : Stmt := top 45
abbrev s__law_whole : Stmt := top 46
abbrev s__law_wholes : Stmt := top 47
abbrev s__law_rounds : Stmt := top 48
abbrev s__law_spot : Stmt := top 49
abbrev s__law_rules : Stmt := top 50
abbrev s__law_nights : Stmt := top 51
abbrev s__law_by : Stmt := top 52
abbrev s__law_kept : Stmt := top 53
abbrev s__law_model : Stmt := top 54
abbrev s__law_gone : Stmt := top 55
abbrev s__law_done : Stmt := top 56
abbrev s__law_like : Stmt := top 57
abbrev s__law_one : Stmt := top 58
abbrev s__law_lasts : Stmt := top 59
abbrev s_law : Stmt := top 60
/-- what the walks ask of the top as it stands when it has run -/
structure Txt (K : PySem.W.Frag) (mg : Str → Option Value) : Prop where
  d_is_number : Df K mg "is_number" "is_number" s_is_number ["thing", "least", "most"]
  d_is_rounds : Df K mg "is_rounds" "is_rounds" s_is_rounds ["thing"]
  d_look_night : Df K mg "look_night" "look_night" s_look_night ["night"]
  d_number_of : Df K mg "number_of" "number_of" s_number_of ["rounds", "night"]
  d_first_of : Df K mg "first_of" "first_of" s_first_of ["rounds", "number"]
  d_is_rule : Df K mg "is_rule" "is_rule" s_is_rule ["thing"]
  d_look_rules : Df K mg "look_rules" "look_rules" s_look_rules ["rules"]
  d_look_nights : Df K mg "look_nights" "look_nights" s_look_nights ["nights"]
  d_kept_by : Df K mg "kept_by" "kept_by" s_kept_by ["rule", "nights"]
  d_kept_of : Df K mg "kept_of" "kept_of" s_kept_of ["rules", "nights"]
  d_look_taken : Df K mg "look_taken" "look_taken" s_look_taken ["keep", "night"]
  d_look_held : Df K mg "look_held" "look_held" s_look_held ["keep", "night"]
  d_gone_of : Df K mg "gone_of" "gone_of" s_gone_of ["keep"]
  d_stays_by : Df K mg "stays_by" "stays_by" s_stays_by ["rule", "nights", "last", "night"]
  d__law_town : Df K mg "_law_town" "_law_town" s__law_town ["script"]
  d__law_draw : Df K mg "_law_draw" "_law_draw" s__law_draw ["script", "town", "many"]
  d__law_pick : Df K mg "_law_pick" "_law_pick" s__law_pick ["script", "town", "some"]
  d__law_word : Df K mg "_law_word" "_law_word" s__law_word ["caught"]
  d__law_refused : Df K mg "_law_refused" "_law_refused" s__law_refused ["word"]
  d__law_told : Df K mg "_law_told" "_law_told" s__law_told ["kind", "some"]
  d__law_whole : Df K mg "_law_whole" "_law_whole" s__law_whole ["thing"]
  d__law_wholes : Df K mg "_law_wholes" "_law_wholes" s__law_wholes ["thing"]
  d__law_rounds : Df K mg "_law_rounds" "_law_rounds" s__law_rounds ["script", "town", "long", "top"]
  d__law_spot : Df K mg "_law_spot" "_law_spot" s__law_spot ["rounds", "night"]
  d__law_rules : Df K mg "_law_rules" "_law_rules" s__law_rules ["script", "town", "many", "long", "top", "most_many"]
  d__law_nights : Df K mg "_law_nights" "_law_nights" s__law_nights ["script", "town", "many", "step"]
  d__law_by : Df K mg "_law_by" "_law_by" s__law_by ["rule", "nights"]
  d__law_kept : Df K mg "_law_kept" "_law_kept" s__law_kept ["rules", "nights"]
  d__law_model : Df K mg "_law_model" "_law_model" s__law_model []
  d__law_gone : Df K mg "_law_gone" "_law_gone" s__law_gone ["rules", "model"]
  d__law_done : Df K mg "_law_done" "_law_done" s__law_done ["rules", "model", "kind", "thing"]
  d__law_like : Df K mg "_law_like" "_law_like" s__law_like ["keep", "model"]
  d__law_one : Df K mg "_law_one" "_law_one" s__law_one ["kind", "some"]
  d__law_lasts : Df K mg "_law_lasts" "_law_lasts" s__law_lasts ["rules", "model"]
  d_law : Df K mg "law" "law" s_law ["script"]
  x_KeepError : Xc K mg "KeepError" (cls mg "KeepError")
  x_BadRounds : Xc K mg "BadRounds" (cls mg "BadRounds")
  x_BadNight : Xc K mg "BadNight" (cls mg "BadNight")
  x_BadNumber : Xc K mg "BadNumber" (cls mg "BadNumber")
  x_BadRules : Xc K mg "BadRules" (cls mg "BadRules")
  x_BadNights : Xc K mg "BadNights" (cls mg "BadNights")
  x_Full : Xc K mg "Full" (cls mg "Full")
  x_NotHeld : Xc K mg "NotHeld" (cls mg "NotHeld")
  x_Pinned : Xc K mg "Pinned" (cls mg "Pinned")
  x_NotPinned : Xc K mg "NotPinned" (cls mg "NotPinned")
  x_BadState : Xc K mg "BadState" (cls mg "BadState")
  x_BadPart : Xc K mg "BadPart" (cls mg "BadPart")
  x_NotFit : Xc K mg "NotFit" (cls mg "NotFit")
  x_IsWhole : Xc K mg "IsWhole" (cls mg "IsWhole")
  x_BadPlan : Xc K mg "BadPlan" (cls mg "BadPlan")
  x_Unlike : Xc K mg "Unlike" (cls mg "Unlike")
  x_BadText : Xc K mg "BadText" (cls mg "BadText")
  y_Elder : Eo K mg "Elder" "Elder.__init__" s_Elder____init__ ["self", "last"] "last"
  o_Keep : Oc K mg "Keep"
  m_Keep____init__ : Md K mg "Keep" "__init__" "Keep.__init__" s_Keep____init__ ["self", "rules"]
  m_Keep____len__ : Md K mg "Keep" "__len__" "Keep.__len__" s_Keep____len__ ["self"]
  m_Keep__take : Md K mg "Keep" "take" "Keep.take" s_Keep__take ["self", "night"]
  m_Keep__let_go : Md K mg "Keep" "let_go" "Keep.let_go" s_Keep__let_go ["self"]
  m_Keep__pin : Md K mg "Keep" "pin" "Keep.pin" s_Keep__pin ["self", "night"]
  m_Keep__unpin : Md K mg "Keep" "unpin" "Keep.unpin" s_Keep__unpin ["self", "night"]
  m_Keep__held : Md K mg "Keep" "held" "Keep.held" s_Keep__held ["self"]
  m_Keep__pins : Md K mg "Keep" "pins" "Keep.pins" s_Keep__pins ["self"]
  m_Keep__stays : Md K mg "Keep" "stays" "Keep.stays" s_Keep__stays ["self", "night"]
  m_Keep__ahead : Md K mg "Keep" "ahead" "Keep.ahead" s_Keep__ahead ["self", "nights"]
  n_Keep__last : NoAttr K (cls mg "Keep") "last"
  n_Keep__nights : NoAttr K (cls mg "Keep") "nights"
  n_Keep__pinned : NoAttr K (cls mg "Keep") "pinned"
  n_Keep__rules : NoAttr K (cls mg "Keep") "rules"
  k_err : Kc K mg
  e_BadRounds : Ec K mg "BadRounds"
  e_BadNight : Ec K mg "BadNight"
  e_BadNumber : Ec K mg "BadNumber"
  e_BadRules : Ec K mg "BadRules"
  e_BadNights : Ec K mg "BadNights"
  e_Elder : Ec K mg "Elder"
  e_Full : Ec K mg "Full"
  e_NotHeld : Ec K mg "NotHeld"
  e_Pinned : Ec K mg "Pinned"
  e_NotPinned : Ec K mg "NotPinned"
  e_BadState : Ec K mg "BadState"
  e_BadPart : Ec K mg "BadPart"
  e_NotFit : Ec K mg "NotFit"
  e_IsWhole : Ec K mg "IsWhole"
  e_BadPlan : Ec K mg "BadPlan"
  e_Unlike : Ec K mg "Unlike"
  e_BadText : Ec K mg "BadText"
  c_MOST_NIGHT : ∃ t, mg "MOST_NIGHT" = some (.int 1000000000 t)
  c_MOST_HELD : ∃ t, mg "MOST_HELD" = some (.int 100 t)
  b_RuntimeError : mg "RuntimeError" = none
  b_all : mg "all" = none
  b_bool : mg "bool" = none
  b_enumerate : mg "enumerate" = none
  b_int : mg "int" = none
  b_isinstance : mg "isinstance" = none
  b_len : mg "len" = none
  b_list : mg "list" = none
  b_max : mg "max" = none
  b_range : mg "range" = none
  b_reversed : mg "reversed" = none
  b_set : mg "set" = none
  b_sorted : mg "sorted" = none
  b_sum : mg "sum" = none
  b_tuple : mg "tuple" = none
  b_zip : mg "zip" = none
end Nk
local macro_rules | `(tactic| walk_at "rd") => `(tactic| (try simp only [L2.tRet, L2.tAndV, L2.tOrV, L2.tNotV, L2.tCB, L2.tCons, L2.tNil, L2.tVar, L2.tC, L2.tChain, L2.tOp, L2.tUn, L2.rI, L2.rI0, L2.rU, L2.rEq, L2.rNe, L2.scal, L2.tTest, L2.tB, L2.tAnd, L2.tOr, L2.tNot, L2.tIf, L2.tIfS, L2.tSeq, L2.tNext, L2.tAsg, L2.gName, Nk.gCons_cons, Nk.gNil_nil, L2.gSub, L2.tDrop, L2.tRetN, L2.tCall, L2.tCallS, L2.tIsN, L2.tNotN, L2.tSl, L2.tPart, L2.tNoPart, L2.tPar, L2.tAug, L2.tBreak, L2.tCont, L2.tDisp, L2.tPairs, L2.tLstRg, L2.tRg1, L2.tRg2, Nk.rLenQ, Nk.rListQ, Nk.rTupleQ, L2.sDPut, L2.tBM, L2.tBM0, L2.tTup, L2.tLst, Nk.szN, Nat.reduceLeDiff, L2.tYes, L2.wipe, L2.start, L2.cxOf, List.map_cons, List.map_nil, List.cons_append, List.nil_append, List.append_nil, List.length_cons, List.length_nil, List.replicate, Nat.sub_self, Nat.zero_add, Nat.reduceAdd, Nat.reduceSub, List.set_cons_zero, List.set_cons_succ, List.getElem?_cons_zero, List.getElem?_cons_succ, Option.some.injEq, exists_and_left, exists_eq_left', exists_eq_left, L2.V.int.injEq, L2.V.bl.injEq, L2.V.str.injEq, L2.V.ref.injEq, true_and, and_true, decide_eq_true_eq, Bool.not_true, Bool.not_false, if_true, if_false, Bool.false_eq_true, reduceIte, List.cons.injEq, reduceCtorEq, decide_true, decide_false, decide_eq_false_iff_not, Bool.not_eq_true', Bool.not_not]))
local macro_rules | `(tactic| walk_at "rs") => `(tactic| (try simp only [L2.tRet, L2.tAndV, L2.tOrV, L2.tNotV, L2.tCB, L2.tCons, L2.tNil, L2.tVar, L2.tC, L2.tChain, L2.tOp, L2.tUn, L2.rI, L2.rI0, L2.rU, L2.rEq, L2.rNe, Nk.scal_ii, Nk.scal_ss, Nk.scal_bb, Nk.scal_nn, Nk.scal_ni, Nk.scal_in, Nk.scal_ns, Nk.scal_sn, Nk.scal_is, Nk.scal_si, L2.tTest, L2.tB, L2.tAnd, L2.tOr, L2.tNot, L2.tIf, L2.tIfS, L2.tNext, L2.tAsg, L2.gName, Nk.gCons_cons, Nk.gNil_nil, L2.gSub, L2.tDrop, L2.tRetN, L2.tCall, L2.tCallS, L2.tIsN, L2.tNotN, L2.tSl, L2.tPart, L2.tNoPart, L2.tPar, L2.tAug, L2.tBreak, L2.tCont, L2.tDisp, L2.tPairs, L2.tLstRg, L2.tRg1, L2.tRg2, Nk.rLenQ, Nk.rListQ, Nk.rTupleQ, L2.sDPut, L2.tBM, L2.tBM0, L2.tTup, L2.tLst, Nk.szN, Nat.reduceLeDiff, L2.tYes, L2.wipe, L2.start, L2.cxOf, List.map_cons, List.map_nil, List.cons_append, List.nil_append, List.append_nil, List.length_cons, List.length_nil, List.replicate, Nat.sub_self, Nat.zero_add, Nat.reduceAdd, Nat.reduceSub, List.set_cons_zero, List.set_cons_succ, List.getElem?_cons_zero, List.getElem?_cons_succ, Option.some.injEq, exists_and_left, exists_eq_left', exists_eq_left, L2.V.int.injEq, L2.V.bl.injEq, L2.V.str.injEq, L2.V.ref.injEq, true_and, and_true, decide_eq_true_eq, Bool.not_true, Bool.not_false, if_true, if_false, Bool.false_eq_true, reduceIte, List.cons.injEq, reduceCtorEq, decide_true, decide_false, decide_eq_false_iff_not, Bool.not_eq_true', Bool.not_not]))
local macro_rules | `(tactic| walk_at "rt") => `(tactic| (try simp only [L2.tRet, L2.tFld, L2.sFld, L2.tMeth, L2.tMake, L2.tMkO, L2.tAndV, L2.tOrV, L2.tNotV, L2.tCB, L2.tCons, L2.tNil, L2.tVar, L2.tC, L2.tChain, L2.tOp, L2.tUn, L2.rI, L2.rI0, L2.rU, L2.rEq, L2.rNe, Nk.scal_ii, Nk.scal_ss, Nk.scal_bb, Nk.scal_nn, Nk.scal_ni, Nk.scal_in, Nk.scal_ns, Nk.scal_sn, Nk.scal_is, Nk.scal_si, L2.tTest, L2.tB, L2.tAnd, L2.tOr, L2.tNot, L2.tIf, L2.tIfS, L2.tNext, L2.tAsg, L2.gName, Nk.gCons_cons, Nk.gNil_nil, L2.gSub, L2.tDrop, L2.tRetN, L2.tCall, L2.tCallS, L2.tIsN, L2.tNotN, L2.tSl, L2.tPart, L2.tNoPart, L2.tPar, L2.tAug, L2.tBreak, L2.tCont, and_assoc, Nk.tFor_k, Nk.tLc_k, L2.iRng1, L2.iRng2, L2.iList, L2.iTup, L2.iRev, L2.iEnum, L2.iZip, L2.tDisp, L2.tPairs, L2.tLstRg, L2.tRg1, L2.tRg2, Nk.rLenQ, Nk.rListQ, Nk.rTupleQ, L2.sDPut, L2.tBM, L2.tBM0, L2.tTup, L2.tLst, Nk.szN, Nat.reduceLeDiff, L2.tYes, L2.wipe, L2.start, L2.cxOf, List.map_cons, List.map_nil, List.cons_append, List.nil_append, List.append_nil, List.length_cons, List.length_nil, List.replicate, Nat.sub_self, Nat.zero_add, Nat.reduceAdd, Nat.reduceSub, List.set_cons_zero, List.set_cons_succ, List.getElem?_cons_zero, List.getElem?_cons_succ, Option.some.injEq, exists_and_left, exists_eq_left', exists_eq_left, L2.V.int.injEq, L2.V.bl.injEq, L2.V.str.injEq, L2.V.ref.injEq, true_and, and_true, decide_eq_true_eq, Bool.not_true, Bool.not_false, if_true, if_false, Bool.false_eq_true, reduceIte, List.cons.injEq, reduceCtorEq, decide_true, decide_false, decide_eq_false_iff_not, Bool.not_eq_true', Bool.not_not]))
namespace Nk
open PySem L2
section
variable {P : Program} {w : World} {K : PySem.W.Frag} {mg : Str → Option Value} {base : Heap}
abbrev nm_is_number : List Str := ["thing", "least", "most"]
abbrev pm_is_number : List Str := ["thing", "least", "most"]
abbrev lv_is_number : Nat := 1
theorem sc_is_number : FnScope nm_is_number pm_is_number (defScope s_is_number) := ⟨rfl, rfl, rfl, by decide +kernel, rfl, by decide +kernel, by decide +kernel⟩
def sp_is_number (K : PySem.W.Frag) : Sp := fun vs H Q _ => ∃ (x : V) (n : String) (lo : Int) (y : V), vs = [x, .int lo, y] ∧ Thing K H x n ∧ (∀ i, x = .int i → ∃ hi, y = .int hi) ∧ Q (.bl (isNumV x lo y)) H
theorem f_is_number (T : Txt K mg) : Fk P w K mg base CX0 lv_is_number "is_number" pm_is_number (sp_is_number K) := by
  obtain ⟨f, fd, F, g, b⟩ := T.d_is_number.ex
  refine ⟨f, fd, g, F.kp, b, F.ok sc_is_number (fun vs H Q E h => ?_) (fun cdv A outer s H vs Q E hr h => ?_)⟩
  · obtain ⟨x, n, lo, y, rfl, _⟩ := h; rfl
  · obtain ⟨x, n, lo, y, rfl, hx, hy, q⟩ := h
    refine ⟨_, (pss_one (ps_ret (pe_and (pe_callB call_isi (by rfl) T.b_isinstance (by decide +kernel) (pa_cons (pv 0) (pa_cons (pe_bltn (v := .ty "int") (by rfl) T.b_int (by decide +kernel) rfl) pa_nil))) (pe_and (pe_not (pe_callB call_isi (by rfl) T.b_isinstance (by decide +kernel) (pa_cons (pv 0) (pa_cons (pe_bltn (v := .ty "bool") (by rfl) T.b_bool (by decide +kernel) rfl) pa_nil)))) (pe_one (pe_chain op_le op_le (pv 1) (pv 0) (pv 2))))))), ?_⟩
    walk_at "rd"
    refine isi_thing hx (by decide) ?_
    cases hx with
    | int i =>
      obtain ⟨hi, rfl⟩ := hy i rfl
      simp only [show isA "int" "int" = true from by decide]
      walk_at "rd"
      refine isi_thing (.int i) (by decide) ?_
      simp only [show isA "int" "bool" = false from by decide]
      walk_at "rd"
      simp only [isNumV] at q
      by_cases c : lo ≤ i
      · simpa [c] using q
      · simpa [c] using q
    | bl i =>
      simp only [show isA "bool" "int" = true from by decide]
      walk_at "rd"
      refine isi_thing (.bl i) (by decide) ?_
      simp only [show isA "bool" "bool" = true from by decide]
      walk_at "rd"
      exact q
    | _ => exact ⟨false, rfl, q⟩
/-- whether a thing is rounds -/
def isRoundsV (H : Hp) (x : V) : Bool := match x with
  | .ref a => match H a with
    | some (.tup xs) => decide (1 ≤ xs.length) && decide (xs.length ≤ 12) && xs.all fun y => isNumV y 1 (.int 31)
    | _ => false
  | _ => false
/-- a thing, and what is in it if it is a tuple -/
def Thing2 (K : PySem.W.Frag) (H : Hp) (x : V) : Prop := (∃ n, Thing K H x n) ∧ ∀ a xs, x = .ref a → H a = some (.tup xs) → xs.length ≤ 100000 ∧ ∀ y ∈ xs, ∃ m, Thing K H y m
abbrev nm_is_rounds : List Str := ["thing", "one"]
abbrev pm_is_rounds : List Str := ["thing"]
abbrev lv_is_rounds : Nat := 2
theorem sc_is_rounds : FnScope nm_is_rounds pm_is_rounds (defScope s_is_rounds) := ⟨rfl, rfl, rfl, by decide +kernel, rfl, by decide +kernel, by decide +kernel⟩
def sp_is_rounds (K : PySem.W.Frag) : Sp := fun vs H Q _ => ∃ (x : V), vs = [x] ∧ Thing2 K H x ∧ ∀ H', Same H H' → Q (.bl (isRoundsV H x)) H'
theorem f_is_rounds (T : Txt K mg) : Fk P w K mg base CX0 lv_is_rounds "is_rounds" pm_is_rounds (sp_is_rounds K) := by
  obtain ⟨f, fd, F, g, b⟩ := T.d_is_rounds.ex
  refine ⟨f, fd, g, F.kp, b, F.ok sc_is_rounds (fun vs H Q E h => ?_) (fun cdv A outer s H vs Q E hr h => ?_)⟩
  · obtain ⟨x, rfl, _⟩ := h; rfl
  · obtain ⟨x, rfl, ⟨⟨n, hx⟩, hin⟩, q⟩ := h
    refine ⟨_, (pss_cons (ps_if (PW.pt (pw_or (pt_not (pt_val (pe_callB call_isi (by rfl) T.b_isinstance (by decide +kernel) (pa_cons (pv 0) (pa_cons (pe_bltn (v := .ty "tuple") (by rfl) T.b_tuple (by decide +kernel) rfl) pa_nil))))) (pw_or1 (pt_not (pt_chain op_le op_le pe_int (pe_callB call_len_seq (by rfl) T.b_len PySem.boot_len (pa_cons (pv 0) pa_nil)) pe_int))))) (pss_one (ps_ret pe_bl)) pss_nil)
      (pss_one (ps_ret (pe_callB (cr_all rfl) (by rfl) T.b_all (by decide +kernel) (pa_cons (pe_lc (own := [("one", 1)]) (g := gName 1) (tt := tYes) (by rfl) sc_is_rounds.nd (pi_tup (pv 0)) (blkOk_by (own := [("one", 1)]) (N := nm_is_rounds) (sc := defScope s_is_rounds) (by decide +kernel)) (fun _ _ _ _ _ => (pg_name (i := 1) sc_is_rounds.nd rfl (Or.inl rfl))) (fun _ _ _ _ _ => pts_nil) (fun _ _ _ _ _ => (pe_fn (f_is_number T) (hr.mono (by decide)) (by rfl) pass0 (pa_cons (pv 1) (pa_cons pe_int (pa_cons pe_int pa_nil)))))) pa_nil))))), ?_⟩
    walk_at "rd"
    refine isi_thing hx (by decide) ?_
    cases hx with
    | @tup a xs ha =>
      obtain ⟨hz, hth⟩ := hin a xs rfl ha
      simp only [show isA "tuple" "tuple" = true from by decide]
      walk_at "rd"
      refine ⟨xs, .inr (sqT ha), ?_⟩
      have e0 : isRoundsV H (.ref a) = (decide (1 ≤ xs.length) && decide (xs.length ≤ 12) && xs.all fun y => isNumV y 1 (.int 31)) := by
        simp only [isRoundsV, ha]
      rw [e0] at q
      by_cases c1 : 1 ≤ xs.length
      · by_cases c2 : xs.length ≤ 12
        · have d1 : (1 : Int) ≤ (xs.length : Int) := by omega
          have d2 : (xs.length : Int) ≤ 12 := by omega
          simp only [d1, d2]
          walk_at "rd"
          refine ⟨_, rfl, a, rfl, ⟨xs, sqT ha⟩, fun D hD => ?_⟩
          refine lcT hD (sqT ha) (fun i => (xs.take i).map fun y => .bl (isNumV y 1 (.int 31))) rfl (fun i y H2 hy p => ?_) (fun H2 s2 hD2 => ?_)
          · walk_at "rd"
            obtain ⟨m, hm⟩ := hth y (mem_of_get hy)
            refine ⟨y, m, 1, .int 31, rfl, Thing.same p.same hm, fun _ _ => ⟨31, rfl⟩, ?_⟩
            exact p.push hD (by simp; omega) (Same.refl _) (map_take_next _ hy)
          · refine ⟨D, xs.map fun y => isNumV y 1 (.int 31), rfl, ?_, ?_⟩
            · rw [List.take_length] at hD2
              rw [List.map_map]
              exact sqL hD2
            · have := q H2 s2
              simpa [c1, c2, List.all_map, Function.comp_def] using this
        · have d1 : (1 : Int) ≤ (xs.length : Int) := by omega
          have d2 : ¬ (xs.length : Int) ≤ 12 := by omega
          simp only [d1, d2]
          walk_at "rd"
          simpa [c2] using q H (Same.refl H)
      · have d1 : ¬ (1 : Int) ≤ (xs.length : Int) := by omega
        simp only [d1]
        walk_at "rd"
        simpa [c1] using q H (Same.refl H)
    | _ => exact ⟨false, by rfl, by simpa [isRoundsV, *] using q H (Same.refl H)⟩
/-- rounds as a tuple that stands -/
structure RndsAt (H : Hp) (a : Addr) (rs : List Int) : Prop where
  at_ : H a = some (.tup (rs.map V.int))
  ok : Rnds rs
  le : ∀ r ∈ rs, r ≤ 31
  ln : rs.length ≤ 12
theorem RndsAt.same {H H' : Hp} {a : Addr} {rs : List Int} (h : RndsAt H a rs) (s : Same H H') : RndsAt H' a rs := ⟨s _ _ h.at_, h.ok, h.le, h.ln⟩
theorem RndsAt.but {H H' : Hp} {a t : Addr} {rs : List Int} {l : List V} (h : RndsAt H a rs) (s : But t H H') (ht : H t = some (.lst l)) : RndsAt H' a rs := ⟨s _ _ h.at_ (ne_of h.at_ ht (by intro z; cases z)), h.ok, h.le, h.ln⟩
theorem RndsAt.thing {H : Hp} {a : Addr} {rs : List Int} (h : RndsAt H a rs) : Thing2 K H (.ref a) := by
  refine ⟨⟨_, .tup h.at_⟩, fun b xs e hb => ?_⟩
  cases e
  rw [h.at_] at hb
  cases hb
  refine ⟨by have := h.ln; simp; omega, fun y hy => ?_⟩
  obtain ⟨i, _, rfl⟩ := List.mem_map.mp hy
  exact ⟨_, .int i⟩
theorem RndsAt.is {H : Hp} {a : Addr} {rs : List Int} (h : RndsAt H a rs) : isRoundsV H (.ref a) = true := by
  have h1 := h.ok.len
  have h2 := h.ln
  have h3 : rs.all (fun y => isNumV (V.int y) 1 (V.int 31)) = true := by
    rw [List.all_eq_true]
    intro y hy
    simp [isNumV, h.ok.pos y hy, h.le y hy]
  simp only [isRoundsV, h.at_, List.length_map, List.all_map, Function.comp_def, h3, Bool.and_true, Bool.and_eq_true, decide_eq_true_eq]
  omega
theorem sum_le31 : ∀ {rs : List Int}, (∀ r ∈ rs, r ≤ 31) → rs.sum ≤ 31 * rs.length
  | [], _ => by simp
  | r :: rs, h => by
    have h1 := h r List.mem_cons_self
    have h2 := sum_le31 (rs := rs) fun x hx => h x (List.mem_cons_of_mem _ hx)
    simp only [List.sum_cons, List.length_cons]
    push_cast
    omega
theorem RndsAt.sum_le {H : Hp} {a : Addr} {rs : List Int} (h : RndsAt H a rs) : rs.sum ≤ 372 := by
  have := sum_le31 h.le
  have := h.ln
  omega
abbrev nm_look_night : List Str := ["night"]
abbrev pm_look_night : List Str := ["night"]
abbrev lv_look_night : Nat := 2
theorem sc_look_night : FnScope nm_look_night pm_look_night (defScope s_look_night) := ⟨rfl, rfl, rfl, by decide +kernel, rfl, by decide +kernel, by decide +kernel⟩
def sp_look_night (K : PySem.W.Frag) (mg : Str → Option Value) : Sp := fun vs H Q E => ∃ (x : V) (n : String), vs = [x] ∧ Thing K H x n ∧ (isNumV x 0 (.int 1000000000) = true → Q .non H) ∧ (isNumV x 0 (.int 1000000000) = false → E (.ref (cls mg "BadNight")) none H)
theorem f_look_night (T : Txt K mg) : Fk P w K mg base (L2.CX P w) lv_look_night "look_night" pm_look_night (sp_look_night K mg) := by
  obtain ⟨f, fd, F, g, b⟩ := T.d_look_night.ex
  refine ⟨f, fd, g, F.kp, b, F.okX sc_look_night (fun vs H Q E h => ?_) (fun cdv A outer s H vs Q E hr h => ?_)⟩
  · obtain ⟨x, n, rfl, _⟩ := h; rfl
  · obtain ⟨x, n, rfl, hx, q1, q2⟩ := h
    refine ⟨_, (pss_one (ps_if (pt_not (pt_val (pe_fn (f_is_number T) (hr.mono (by decide)) (by rfl) pass0 (pa_cons (pv 0) (pa_cons pe_int (pa_cons (pe_globI T.c_MOST_NIGHT (by rfl)) pa_nil)))))) (pss_one (ps_raise rfl (takes_of rfl rfl rfl rfl) (pmk_own PySem.F.excBase_RuntimeError T.x_BadNight.xP T.x_BadNight.gP T.x_BadNight.kP T.x_BadNight.rs rfl))) pss_nil)), ?_⟩
    walk_at "rd"
    refine ⟨x, n, 0, _, rfl, hx, fun _ _ => ⟨_, rfl⟩, ?_⟩
    walk_at "rd"
    cases e : isNumV x 0 (.int 1000000000) with
    | true => exact q1 e
    | false => exact q2 e
abbrev nm_number_of : List Str := ["rounds", "night", "whole", "found", "left", "long"]
abbrev pm_number_of : List Str := ["rounds", "night"]
abbrev lv_number_of : Nat := 1
theorem sc_number_of : FnScope nm_number_of pm_number_of (defScope s_number_of) := ⟨rfl, rfl, rfl, by decide +kernel, rfl, by decide +kernel, by decide +kernel⟩
def sp_number_of : Sp := fun vs H Q _ => ∃ (a : Addr) (rs : List Int) (n : Int), vs = [.ref a, .int n] ∧ RndsAt H a rs ∧ Q (.int (numOf rs n)) H
def iv_number_of (a : Addr) (rs : List Int) (n : Int) (H : Hp) (i : Nat) (σ : L2.St) (H' : Hp) : Prop := H' = H ∧ ∃ (fo le : Int) (v : Option V), σ = [some (.ref a), some (.int n), some (.int rs.sum), some (.int fo), some (.int le), v] ∧ walkR (rs.drop i) le fo = numOf rs n
theorem f_number_of (T : Txt K mg) : Fk P w K mg base CX0 lv_number_of "number_of" pm_number_of sp_number_of := by
  obtain ⟨f, fd, F, g, b⟩ := T.d_number_of.ex
  refine ⟨f, fd, g, F.kp, b, F.ok sc_number_of (fun vs H Q E h => ?_) (fun cdv A outer s H vs Q E hr h => ?_)⟩
  · obtain ⟨a, rs, n, rfl, _⟩ := h; rfl
  · obtain ⟨a, rs, n, rfl, ha, q⟩ := h
    refine ⟨_, (pss_cons (ps_set (i := 2) sc_number_of.nd rfl (.inl rfl) (pe_callB (cr_sumT rfl) (by rfl) T.b_sum (by decide +kernel) (pa_cons (pv 0) pa_nil)))
      (pss_cons (ps_set (i := 3) sc_number_of.nd rfl (.inl rfl) (pe_op op_mul (pe_op op_fdiv (pv 1) (pv 2)) (pe_callB call_len_seq (by rfl) T.b_len PySem.boot_len (pa_cons (pv 0) pa_nil))))
      (pss_cons (ps_set (i := 4) sc_number_of.nd rfl (.inl rfl) (pe_op op_mod (pv 1) (pv 2)))
      (pss_cons (ps_for PassesOwn.never rfl (pi_tup (pv 0)) (pg_name (i := 5) sc_number_of.nd rfl (Or.inl rfl)) (pss_cons (ps_if (pt_cmpR op_lt (pv 4) (pv 5) (nomark _)) (pss_one (ps_ret (pv 3))) pss_nil)
      (pss_cons (ps_set (i := 4) sc_number_of.nd rfl (.inl rfl) (pe_op op_sub (pv 4) (pv 5)))
      (pss_one (ps_set (i := 3) sc_number_of.nd rfl (.inl rfl) (pe_op op_add (pv 3) pe_int))))))
      (pss_one (ps_ret (pv 3))))))), ?_⟩
    walk_at "rd"
    have hs := ha.ok.sum
    have hs' := ha.sum_le
    have hl := ha.ln
    refine ⟨a, rs, rfl, sqT ha.at_, ?_⟩
    walk_at "rd"
    refine ⟨⟨hs, by omega⟩, rs.map V.int, .inr (sqT ha.at_), .inr ⟨by simp; omega, by simp; omega⟩, hs, ?_⟩
    refine ⟨_, rfl, a, rfl, ⟨_, sqT ha.at_⟩, for_tup (K := K) (a := a) (xs := rs.map V.int) (iv_number_of a rs n H)
      ⟨rfl, _, _, _, rfl, by simp [numOf]⟩ (fun i σ H' _ p => by rw [p.1]; exact sqT ha.at_) ?_ ?_⟩
    · rintro i x σ H' hi ⟨rfl, fo, le, v, rfl, hw⟩
      rw [List.getElem?_map] at hi
      cases e : rs[i]? with
      | none => rw [e] at hi; cases hi
      | some r =>
        rw [e] at hi
        cases hi
        have hlt := lt_of_get e
        have ed : rs.drop i = r :: rs.drop (i + 1) := by
          rw [List.drop_eq_getElem_cons hlt]
          rw [(List.getElem?_eq_some_iff.mp e).2]
        rw [ed] at hw
        unfold walkR at hw
        walk_at "rd"
        by_cases c : le < r
        · rw [if_pos c] at hw
          rw [if_pos c, hw]
          exact q
        · rw [if_neg c] at hw
          rw [if_neg c]
          exact ⟨rfl, _, _, _, rfl, hw⟩
    · rintro σ H' ⟨rfl, fo, le, v, rfl, hw⟩
      rw [List.length_map, List.drop_length] at hw
      walk_at "rd"
      unfold walkR at hw
      rw [hw]
      exact q
abbrev nm_first_of : List Str := ["rounds", "number"]
abbrev pm_first_of : List Str := ["rounds", "number"]
abbrev lv_first_of : Nat := 1
theorem sc_first_of : FnScope nm_first_of pm_first_of (defScope s_first_of) := ⟨rfl, rfl, rfl, by decide +kernel, rfl, by decide +kernel, by decide +kernel⟩
def sp_first_of : Sp := fun vs H Q _ => ∃ (a : Addr) (rs : List Int) (n : Int), vs = [.ref a, .int n] ∧ RndsAt H a rs ∧ ∀ H', Same H H' → Q (.int (firstOf rs n)) H'
theorem cut_pre (rs : List Int) (j : Nat) : cutV (rs.map V.int) none (some (j : Int)) = (rs.take j).map V.int := by
  unfold cutV
  rw [HT.sIx_none, HT.sIx_nat, List.drop_zero, Nat.sub_zero, List.length_map, ← List.map_take]
  congr 1
  by_cases h : j ≤ rs.length
  · rw [Nat.min_eq_left h]
  · rw [Nat.min_eq_right (by omega), List.take_length, List.take_of_length_le (by omega)]
theorem f_first_of (T : Txt K mg) : Fk P w K mg base CX0 lv_first_of "first_of" pm_first_of sp_first_of := by
  obtain ⟨f, fd, F, g, b⟩ := T.d_first_of.ex
  refine ⟨f, fd, g, F.kp, b, F.ok sc_first_of (fun vs H Q E h => ?_) (fun cdv A outer s H vs Q E hr h => ?_)⟩
  · obtain ⟨a, rs, n, rfl, _⟩ := h; rfl
  · obtain ⟨a, rs, n, rfl, ha, q⟩ := h
    refine ⟨_, (pss_one (ps_ret (pe_op op_add (pe_op op_mul (pe_op op_fdiv (pv 1) (pe_callB call_len_seq (by rfl) T.b_len PySem.boot_len (pa_cons (pv 0) pa_nil))) (pe_callB (cr_sumT rfl) (by rfl) T.b_sum (by decide +kernel) (pa_cons (pv 0) pa_nil))) (pe_callB (cr_sumT rfl) (by rfl) T.b_sum (by decide +kernel) (pa_cons (pe_slice sl_tup (pv 0) po_none (po_some (pe_op op_mod (pv 1) (pe_callB call_len_seq (by rfl) T.b_len PySem.boot_len (pa_cons (pv 0) pa_nil))))) pa_nil))))), ?_⟩
    walk_at "rd"
    have hs := ha.ok.sum
    have hs' := ha.sum_le
    have hl := ha.ln
    have hl0 := ha.ok.len
    have hM : (rs.map V.int).length = rs.length := List.length_map _
    refine ⟨rs.map V.int, .inr (sqT ha.at_), ?_, a, rs, rfl, sqT ha.at_, ?_⟩
    · rw [hM]; exact ⟨by omega, by omega⟩
    rw [hM]
    refine ⟨_, rfl, .inr ⟨by omega, by omega⟩, rs.map V.int, .inr (sqT ha.at_), by rw [hM]; omega, ?_⟩
    rw [hM]
    obtain ⟨j, hj, e, _⟩ := emod_nat (k := n) hl0
    have e1 : cutV (rs.map V.int) none (some (n % ↑rs.length)) = (rs.take j).map V.int := by rw [e]; exact cut_pre rs j
    refine ⟨a, rs.map V.int, rfl, sqT ha.at_, ?_, fun p hp => ?_⟩
    · rw [e, HT.sIx_nat, hM]
      omega
    rw [e1]
    refine ⟨p, rs.take j, rfl, sqT upd_same, _, rfl, ?_⟩
    have := q _ (same_upd (o := .tup ((rs.take j).map V.int)) hp)
    unfold firstOf pre at this
    rw [e] at this
    simpa using this
theorem isNum_ok {n : Int} (h0 : 0 ≤ n) (h1 : n ≤ 1000000000) : isNumV (.int n) 0 (.int 1000000000) = true := by simp [isNumV, h0, h1]
end
end Nk
namespace Nk
open PySem L2
section
variable {P : Program} {w : World} {K : PySem.W.Frag} {mg : Str → Option Value} {base : Heap}
/-- the script at a and the town at t: c draws so far -/
structure Tn (K : PySem.W.Frag) (H : Hp) (a t : Addr) (ns : List Int) (c : Nat) : Prop where
  scr : SqN K H a t (ns.map V.int)
  len : ns.length ≤ 63
  town : ∃ ls : List Int, ls.length = ns.length ∧ H t = some (.lst (V.int c :: ls.map V.int))
theorem Tn.same {H H' : Hp} {a t : Addr} {ns : List Int} {c : Nat} (h : Tn K H a t ns c) (s : Same H H') : Tn K H' a t ns c := by
  obtain ⟨ls, e, ht⟩ := h.town
  exact ⟨h.scr.same s, h.len, ls, e, s _ _ ht⟩
theorem Tn.lst {H : Hp} {a t : Addr} {ns : List Int} {c : Nat} (h : Tn K H a t ns c) : ∃ l, H t = some (.lst l) := by
  obtain ⟨ls, e, ht⟩ := h.town
  exact ⟨_, ht⟩
theorem Tn.some_ {H : Hp} {a t : Addr} {ns : List Int} {c : Nat} (h : Tn K H a t ns c) {p : Addr} (hp : H p = none) : p ≠ t := by
  obtain ⟨l, hl⟩ := h.lst
  exact (ne_of_none hl hp).symm
/-- a tuple stays while the town changes -/
theorem Tn.tup {H H' : Hp} {a t p : Addr} {ns : List Int} {c : Nat} {xs : List V} (h : Tn K H a t ns c) (b : But t H H') (hp : H p = some (.tup xs)) : H' p = some (.tup xs) := by
  obtain ⟨l, hl⟩ := h.lst
  exact b _ _ hp (ne_of hp hl (by intro z; cases z))
/-- an object that was made since may change -/
theorem Tn.app {H H' : Hp} {a t p : Addr} {ns : List Int} {c c0 : Nat} {o : HO} (h : Tn K H' a t ns c) (h0 : Tn K H a t ns c0) (hp : H p = none) (hpt : p ≠ t) : Tn K (upd H' p o) a t ns c := by
  obtain ⟨ls, e1, e2⟩ := h.town
  exact ⟨h.scr.app h0.scr hp, h.len, ls, e1, by rw [upd_ne hpt.symm]; exact e2⟩
theorem But.app {H H' : Hp} {t p : Addr} {o : HO} (b : But t H H') (hp : H p = none) : But t H (L2.upd H' p o) := fun z x hz hzt => by
  rw [upd_ne (ne_of_none hz hp)]
  exact b _ _ hz hzt
theorem But.free {H H' : Hp} {t p : Addr} (b : But t H H') (hp : H' p = none) (hpt : p ≠ t) : H p = none := by
  cases e : H p with
  | none => rfl
  | some o => rw [b _ _ e hpt] at hp; cases hp
abbrev nm__law_town : List Str := ["script"]
abbrev pm__law_town : List Str := ["script"]
abbrev lv__law_town : Nat := 1
theorem sc__law_town : FnScope nm__law_town pm__law_town (defScope s__law_town) := ⟨rfl, rfl, rfl, by decide +kernel, rfl, by decide +kernel, by decide +kernel⟩
def sp__law_town (K : PySem.W.Frag) : Sp := fun vs H Q _ => ∃ (a : Addr) (ns : List Int), vs = [.ref a] ∧ SqL K H a (ns.map V.int) ∧ ns.length ≤ 63 ∧ ∀ H' t, Same H H' → Tn K H' a t ns 0 → H t = none → Q (.ref t) H'
theorem f__law_town (T : Txt K mg) : Fk P w K mg base CX0 lv__law_town "_law_town" pm__law_town (sp__law_town K) := by
  obtain ⟨f, fd, F, g, b⟩ := T.d__law_town.ex
  refine ⟨f, fd, g, F.kp, b, F.ok sc__law_town (fun vs H Q E h => ?_) (fun cdv A outer s H vs Q E hr h => ?_)⟩
  · obtain ⟨a, ns, rfl, _⟩ := h; rfl
  · obtain ⟨a, ns, rfl, hS, hl, q⟩ := h
    refine ⟨_, (pss_one (ps_ret (pe_op op_cat (pe_lst (pa_cons pe_int pa_nil)) (pe_callTy call_list_of (by rfl) T.b_list (by decide +kernel) (pa_cons (pv 0) pa_nil))))), ?_⟩
    walk_at "rd"
    intro p hp
    have s1 : Same H (upd H p (.lst [.int 0])) := same_upd hp
    refine ⟨ns.map V.int, .inl (s1.seq hS), fun l hl2 => ?_⟩
    have npl : p ≠ l := fun e => by rw [← e, upd_same] at hl2; cases hl2
    have s2 := s1.trans (same_upd (o := .lst (ns.map V.int)) hl2)
    refine ⟨p, l, _, _, rfl, rfl, by rw [upd_ne npl]; exact upd_same, upd_same, sz (by simp; omega), fun t ht => ?_⟩
    have hH : H t = none := s2.free ht
    exact q _ t (s2.trans (same_upd ht)) ⟨(SqN.new (s2.seq hS) ht).same (same_upd ht), hl, ns, rfl, upd_same⟩ hH
abbrev nm__law_draw : List Str := ["script", "town", "many", "at", "left", "number"]
abbrev pm__law_draw : List Str := ["script", "town", "many"]
abbrev lv__law_draw : Nat := 1
theorem sc__law_draw : FnScope nm__law_draw pm__law_draw (defScope s__law_draw) := ⟨rfl, rfl, rfl, by decide +kernel, rfl, by decide +kernel, by decide +kernel⟩
def sp__law_draw (K : PySem.W.Frag) : Sp := fun vs H Q _ => ∃ (a t : Addr) (ns : List Int) (c : Nat) (many : Int), vs = [.ref a, .ref t, .int many] ∧ Tn K H a t ns c ∧ c < 1000000000 ∧ 0 < many ∧ many < 1073741824 ∧
  ∀ (d : Int) (H' : Hp), 0 ≤ d → d < many → Tn K H' a t ns (c + 1) → But t H H' → Q (.int d) H'
theorem f__law_draw (T : Txt K mg) : Fk P w K mg base CX0 lv__law_draw "_law_draw" pm__law_draw (sp__law_draw K) := by
  obtain ⟨f, fd, F, g, b⟩ := T.d__law_draw.ex
  refine ⟨f, fd, g, F.kp, b, F.ok sc__law_draw (fun vs H Q E h => ?_) (fun cdv A outer s H vs Q E hr h => ?_)⟩
  · obtain ⟨a, t, ns, c, many, rfl, _⟩ := h; rfl
  · obtain ⟨a, t, ns, c, many, rfl, hT, hc, hm0, hm1, q⟩ := h
    refine ⟨_, (pss_cons (ps_asg (pe_op op_add (pe_ix ix_list (pv 1) pe_int (fun _ _ => rfl)) pe_int) (pg_sub (pv 1) pe_int set_list))
      (pss_cons (ps_if (pt_cmpR (op_eqD hr.units) (pv 0) (pe_lst pa_nil) (nomark _)) (pss_one (ps_ret (pe_op op_mod (pe_op op_fdiv (pe_op op_mul (pe_op op_mul (pe_ix ix_list (pv 1) pe_int (fun _ _ => rfl)) (pe_ix ix_list (pv 1) pe_int (fun _ _ => rfl))) pe_int) pe_int) (pv 2)))) pss_nil)
      (pss_cons (ps_set (i := 3) sc__law_draw.nd rfl (.inl rfl) (pe_op op_mod (pe_ix ix_list (pv 1) pe_int (fun _ _ => rfl)) (pe_callB call_len_seq (by rfl) T.b_len PySem.boot_len (pa_cons (pv 0) pa_nil))))
      (pss_cons (ps_set (i := 4) sc__law_draw.nd rfl (.inl rfl) (pe_ix ix_list (pv 1) (pe_op op_add pe_int (pv 3)) (fun _ _ => rfl)))
      (pss_cons (ps_if (PW.pt (pw_and (pt_cmpR op_ge (pe_ix ix_list (pv 0) (pv 3) (fun _ _ => rfl)) (pe_op op_pow pe_int pe_int) (nomark _)) (pw_and1 (pt_cmpR op_gt (pv 4) pe_int (nomark _))))) (pss_cons (ps_asg (pe_op op_fdiv (pv 4) (pv 2)) (pg_sub (pv 1) (pe_op op_add pe_int (pv 3)) set_list))
      (pss_one (ps_ret (pe_op op_mod (pv 4) (pv 2))))) pss_nil)
      (pss_cons (ps_set (i := 5) sc__law_draw.nd rfl (.inl rfl) (pe_op op_mod (pe_op op_add (pe_ix ix_list (pv 0) (pv 3) (fun _ _ => rfl)) (pe_op op_mul pe_int (pe_ix ix_list (pv 1) pe_int (fun _ _ => rfl)))) pe_int))
      (pss_cons (ps_set (i := 5) sc__law_draw.nd rfl (.inl rfl) (pe_op op_mod (pe_op op_pow (pv 5) pe_int) pe_int))
      (pss_one (ps_ret (pe_op op_mod (pe_op op_fdiv (pe_op op_mod (pe_op op_add (pe_op op_mul (pe_op op_fdiv (pv 5) pe_int) pe_int) (pv 5)) pe_int) pe_int) (pv 2))))))))))), ?_⟩
    walk_at "rd"
    obtain ⟨ls, el, ht⟩ := hT.town
    refine ixL (j := 0) (sqL ht) rfl rfl ?_
    walk_at "rd"
    refine setL (j := 0) ht rfl (by simp) ?_
    intro p hp
    have hpt : t ≠ p := fun e => by rw [← e, upd_same] at hp; cases hp
    have b1 : But t H (upd (upd H t (.lst ((V.int c :: ls.map V.int).set 0 (V.int (↑c + 1))))) p (.lst [])) := But.thenS But.upd (same_upd hp)
    have hN1 := hT.scr.but b1
    have hS1 := hN1.l
    have ht1 : (upd (upd H t (.lst ((V.int c :: ls.map V.int).set 0 (V.int (↑c + 1))))) p (.lst [])) t = some (.lst (V.int ((c + 1 : Nat) : Int) :: ls.map V.int)) := by
      rw [upd_ne hpt, upd_same]; rfl
    have hp1 : (upd (upd H t (.lst ((V.int c :: ls.map V.int).set 0 (V.int (↑c + 1))))) p (.lst [])) p = some (.lst (([] : List Int).map V.int)) := upd_same
    revert b1 hN1 hS1 ht1 hp1
    generalize upd (upd H t (.lst ((V.int c :: ls.map V.int).set 0 (V.int (↑c + 1))))) p (.lst []) = H1
    intro b1 hN1 hS1 ht1 hp1
    have T1 : Tn K H1 a t ns (c + 1) := ⟨hN1, hT.len, ls, el, ht1⟩
    have hC : ((c + 1 : Nat) : Int) < 2 ^ 62 := by omega
    refine eqD (dp_LI hS1) (dp_LI (sqL hp1)) (gd_dLI (k := 0) _) (gd_dLI (k := 0) _) (fun e => ?_) (fun e => ?_)
    · walk_at "rd"
      refine ixL (j := 0) (sqL ht1) rfl rfl ?_
      refine ixL (j := 0) (sqL ht1) rfl rfl ?_
      walk_at "rd"
      refine ⟨.inl ⟨by omega, by omega⟩, .inr ⟨by decide, by decide⟩, ⟨by decide, by decide⟩, hm0, ?_⟩
      exact q _ H1 (Int.emod_nonneg _ (by omega)) (Int.emod_lt_of_pos _ hm0) T1 b1
    · have hne : ns ≠ [] := fun z => e (by rw [z])
      have hn0 : 0 < ns.length := List.length_pos_iff.mpr hne
      walk_at "rd"
      refine ixL (j := 0) (sqL ht1) rfl rfl ?_
      refine ⟨ns.map V.int, .inl hS1, ?_⟩
      rw [List.length_map]
      walk_at "rd"
      obtain ⟨j, hj, ej, _⟩ := emod_nat (k := ((c + 1 : Nat) : Int)) hn0
      rw [ej]
      refine ⟨by omega, ?_⟩
      have hlj : (V.int ((c + 1 : Nat) : Int) :: ls.map V.int)[j + 1]? = some (V.int (ls[j]'(by omega))) := by
        rw [List.getElem?_cons_succ, List.getElem?_map, List.getElem?_eq_getElem (by omega)]; rfl
      have hnj : (ns.map V.int)[j]? = some (V.int (ns[j]'hj)) := by
        rw [List.getElem?_map, List.getElem?_eq_getElem hj]; rfl
      refine ixL (j := j + 1) (sqL ht1) (by push_cast; omega) hlj ?_
      refine ixL (j := j) hS1 rfl hnj ?_
      have tail : rIxL K (.ref a) (.int (j : Int)) H1 fun x H2 => rIxL K (.ref t) (.int 0) H2 fun y H3 => ∃ x_3, y = V.int x_3 ∧ CMul 104729 x_3 ∧ ∃ i, x = V.int i ∧ 0 < (4294967291 : Int) ∧ CPow ((i + 104729 * x_3) % 4294967291) 5 ∧ 0 < (4294967279 : Int) ∧
          CDiv (((i + 104729 * x_3) % 4294967291) ^ Int.toNat 5 % 4294967279) 64 ∧ CMul (((i + 104729 * x_3) % 4294967291) ^ Int.toNat 5 % 4294967279 / 64) 69621 ∧ 0 < (4294967231 : Int) ∧
          CDiv ((((i + 104729 * x_3) % 4294967291) ^ Int.toNat 5 % 4294967279 / 64 * 69621 + ((i + 104729 * x_3) % 4294967291) ^ Int.toNat 5 % 4294967279) % 4294967231) 8 ∧ 0 < many ∧
          Q (.int ((((i + 104729 * x_3) % 4294967291) ^ Int.toNat 5 % 4294967279 / 64 * 69621 + ((i + 104729 * x_3) % 4294967291) ^ Int.toNat 5 % 4294967279) % 4294967231 / 8 % many)) H3 := by
        refine ixL (j := j) hS1 rfl hnj ?_
        refine ixL (j := 0) (sqL ht1) rfl rfl ?_
        have hp := Int.emod_nonneg (ns[j] + 104729 * ((c + 1 : Nat) : Int)) (show (4294967291 : Int) ≠ 0 by decide)
        have hq := Int.emod_lt_of_pos (ns[j] + 104729 * ((c + 1 : Nat) : Int)) (show (0 : Int) < 4294967291 by decide)
        refine ⟨_, rfl, .inl ⟨by decide, by decide⟩, _, rfl, by decide, ⟨by decide, by decide, by omega⟩, by decide, ⟨by decide, by decide⟩, .inr ⟨by decide, by decide⟩, by decide, ⟨by decide, by decide⟩, hm0, ?_⟩
        exact q _ H1 (Int.emod_nonneg _ (by omega)) (Int.emod_lt_of_pos _ hm0) T1 b1
      refine ⟨⟨by decide, by decide, by decide⟩, _, rfl, ?_⟩
      refine ite2 (fun c1 => ?_) (fun c1 => ?_)
      · refine ⟨_, rfl, ite2 (fun c2 => ?_) (fun c2 => ?_)⟩
        · refine ⟨_, rfl, ⟨hm0, hm1⟩, ?_⟩
          refine setL (j := j + 1) ht1 (by push_cast; omega) (by simp; omega) ?_
          refine ⟨_, rfl, hm0, ?_⟩
          refine q _ _ (Int.emod_nonneg _ (by omega)) (Int.emod_lt_of_pos _ hm0) ⟨hN1.but But.upd, hT.len, ls.set j (ls[j] / many), by rw [List.length_set]; exact el, ?_⟩ (b1.trans But.upd)
          rw [upd_same, List.set_cons_succ, List.map_set]
        · exact tail
      · exact tail
abbrev nm__law_pick : List Str := ["script", "town", "some"]
abbrev pm__law_pick : List Str := ["script", "town", "some"]
abbrev lv__law_pick : Nat := 2
theorem sc__law_pick : FnScope nm__law_pick pm__law_pick (defScope s__law_pick) := ⟨rfl, rfl, rfl, by decide +kernel, rfl, by decide +kernel, by decide +kernel⟩
def sp__law_pick (K : PySem.W.Frag) : Sp := fun vs H Q _ => ∃ (a t l : Addr) (ns : List Int) (c : Nat) (xs : List V), vs = [.ref a, .ref t, .ref l] ∧ Tn K H a t ns c ∧ c < 1000000000 ∧ H l = some (.lst xs) ∧ l ≠ t ∧ 0 < xs.length ∧ xs.length ≤ 100000 ∧
  ∀ (v : V) (H' : Hp), v ∈ xs → Tn K H' a t ns (c + 1) → But t H H' → Q v H'
theorem f__law_pick (T : Txt K mg) : Fk P w K mg base CX0 lv__law_pick "_law_pick" pm__law_pick (sp__law_pick K) := by
  obtain ⟨f, fd, F, g, b⟩ := T.d__law_pick.ex
  refine ⟨f, fd, g, F.kp, b, F.ok sc__law_pick (fun vs H Q E h => ?_) (fun cdv A outer s H vs Q E hr h => ?_)⟩
  · obtain ⟨a, t, l, ns, c, xs, rfl, _⟩ := h; rfl
  · obtain ⟨a, t, l, ns, c, xs, rfl, hT, hc, hl, hlt, h0, h1, q⟩ := h
    refine ⟨_, (pss_one (ps_ret (pe_ix ix_list (pv 2) (pe_fn (f__law_draw T) (hr.mono (by decide)) (by rfl) pass0 (pa_cons (pv 0) (pa_cons (pv 1) (pa_cons (pe_callB call_len_seq (by rfl) T.b_len PySem.boot_len (pa_cons (pv 2) pa_nil)) pa_nil)))) (fun _ _ => rfl)))), ?_⟩
    walk_at "rd"
    refine ⟨xs, .inl (sqL hl), a, t, ns, c, xs.length, rfl, hT, hc, by omega, by omega, fun d H' d0 d1 T' b' => ?_⟩
    have hd : d.toNat < xs.length := by omega
    exact ixL (j := d.toNat) (sqL (b' _ _ hl hlt)) (by omega) (List.getElem?_eq_getElem hd) (q _ H' (List.getElem_mem hd) T' b')
theorem pickI {H : Hp} {a t : Addr} {ns : List Int} {c : Nat} {Q : VK} {E : XK} (ks : List Int) (hT : Tn K H a t ns c) (hc : c < 1000000000) (q : ∀ k ∈ ks, ∀ H', Tn K H' a t ns (c + 1) → But t H H' → Q (.int k) H') (h0 : 0 < ks.length := by decide) (h1 : ks.length ≤ 100000 := by decide) :
    ∀ p, H p = none → sp__law_pick K [.ref a, .ref t, .ref p] (L2.upd H p (.lst (ks.map V.int))) Q E := by
  intro p hp
  refine ⟨a, t, p, ns, c, ks.map V.int, rfl, hT.same (same_upd hp), hc, upd_same, hT.some_ hp, by simpa using h0, by simpa using h1, fun v H' hv T' b' => ?_⟩
  obtain ⟨k, hk, rfl⟩ := List.mem_map.mp hv
  exact q k hk H' T' (Same.thenB (same_upd hp) b')
theorem pickV {H : Hp} {a t : Addr} {ns : List Int} {c : Nat} {Q : VK} {E : XK} {xs : List V} (hT : Tn K H a t ns c) (hc : c < 1000000000) (h0 : 0 < xs.length) (h1 : xs.length ≤ 100000) (q : ∀ v ∈ xs, ∀ H', Tn K H' a t ns (c + 1) → But t H H' → Q v H') :
    ∀ p, H p = none → sp__law_pick K [.ref a, .ref t, .ref p] (L2.upd H p (.lst xs)) Q E := by
  intro p hp
  exact ⟨a, t, p, ns, c, xs, rfl, hT.same (same_upd hp), hc, upd_same, hT.some_ hp, h0, h1, fun v H' hv T' b' => q v hv H' T' (Same.thenB (same_upd hp) b')⟩
abbrev nm__law_rounds : List Str := ["script", "town", "long", "top", "many", "k"]
abbrev pm__law_rounds : List Str := ["script", "town", "long", "top"]
abbrev lv__law_rounds : Nat := 2
theorem sc__law_rounds : FnScope nm__law_rounds pm__law_rounds (defScope s__law_rounds) := ⟨rfl, rfl, rfl, by decide +kernel, rfl, by decide +kernel, by decide +kernel⟩
def sp__law_rounds (K : PySem.W.Frag) : Sp := fun vs H Q _ => ∃ (a t : Addr) (ns : List Int) (c : Nat) (long top : Int), vs = [.ref a, .ref t, .int long, .int top] ∧ Tn K H a t ns c ∧ c + 1 + long.toNat < 1000000000 ∧ 0 < long ∧ long ≤ 1000 ∧ 0 < top ∧ top < 1073741824 ∧
  ∀ (rs : List Int) (p : Addr) (c' : Nat) (H' : Hp), 1 ≤ rs.length → (rs.length : Int) ≤ long → (∀ r ∈ rs, 1 ≤ r ∧ r ≤ top) → H p = none → H' p = some (.tup (rs.map V.int)) → c' ≤ c + 1 + long.toNat → Tn K H' a t ns c' → But t H H' → Q (.ref p) H'
def iv__law_rounds (K : PySem.W.Frag) (H1 : Hp) (a t D : Addr) (ns : List Int) (c : Nat) (top : Int) (i : Nat) (H : Hp) : Prop :=
  ∃ rs : List Int, rs.length = i ∧ (∀ r ∈ rs, 1 ≤ r ∧ r ≤ top) ∧ H D = some (.lst (rs.map V.int)) ∧ Tn K H a t ns (c + 1 + i) ∧ But t H1 H
theorem f__law_rounds (T : Txt K mg) : Fk P w K mg base CX0 lv__law_rounds "_law_rounds" pm__law_rounds (sp__law_rounds K) := by
  obtain ⟨f, fd, F, g, b⟩ := T.d__law_rounds.ex
  refine ⟨f, fd, g, F.kp, b, F.ok sc__law_rounds (fun vs H Q E h => ?_) (fun cdv A outer s H vs Q E hr h => ?_)⟩
  · obtain ⟨a, t, ns, c, long, top, rfl, _⟩ := h; rfl
  · obtain ⟨a, t, ns, c, long, top, rfl, hT, hc, hl0, hl1, ht0, ht1, q⟩ := h
    refine ⟨_, (pss_cons (ps_set (i := 4) sc__law_rounds.nd rfl (.inl rfl) (pe_op op_add pe_int (pe_fn (f__law_draw T) (hr.mono (by decide)) (by rfl) pass0 (pa_cons (pv 0) (pa_cons (pv 1) (pa_cons (pv 2) pa_nil))))))
      (pss_one (ps_ret (pe_callTy call_tuple_of (by rfl) T.b_tuple (by decide +kernel) (pa_cons (pe_lc (own := [("k", 5)]) (g := gName 5) (tt := tYes) (by rfl) sc__law_rounds.nd (pi_range1 (by rfl) T.b_range (pa_cons (pv 4) pa_nil)) (blkOk_by (own := [("k", 5)]) (N := nm__law_rounds) (sc := defScope s__law_rounds) (by decide +kernel)) (fun _ _ _ _ _ => (pg_name (i := 5) sc__law_rounds.nd rfl (Or.inl rfl))) (fun _ _ _ _ _ => pts_nil) (fun _ _ _ _ _ => (pe_op op_add pe_int (pe_fn (f__law_draw T) (hr.mono (by decide)) (by rfl) pass0 (pa_cons (pv 0) (pa_cons (pv 1) (pa_cons (pv 3) pa_nil))))))) pa_nil))))), ?_⟩
    walk_at "rd"
    refine ⟨a, t, ns, c, long, rfl, hT, by omega, hl0, by omega, fun d H1 d0 d1 T1 b1 => ?_⟩
    walk_at "rd"
    refine ⟨_, rfl, 1 + d, rfl, by omega, by omega, fun D hD => ?_⟩
    have hDt : D ≠ t := T1.some_ hD
    refine lc_range (iv__law_rounds K H1 a t D ns c top) ⟨[], rfl, fun r hr => (nomatch hr), upd_same, T1.same (same_upd hD), .of (same_upd hD)⟩ (fun i H2 hi iv => ?_) (fun H2 iv => ?_)
    · obtain ⟨rs, el, hrs, hD2, T2, b2⟩ := iv
      walk_at "rd"
      refine ⟨a, t, ns, c + 1 + i, top, rfl, T2, by omega, ht0, ht1, fun e H3 e0 e1 T3 b3 => ?_⟩
      walk_at "rd"
      refine ⟨rs.map V.int, b3 _ _ hD2 hDt, szl (by simp; omega), rs ++ [1 + e], by simp [el], ?_, ?_, ?_, ?_⟩
      · intro r hr
        rcases List.mem_append.mp hr with hr | hr
        · exact hrs r hr
        · have := List.mem_singleton.mp hr; omega
      · rw [upd_same, List.map_append]; rfl
      · have : Tn K (upd H3 D (.lst (rs.map V.int ++ [.int (1 + e)]))) a t ns (c + 1 + i + 1) := by
          obtain ⟨ls, e1, e2⟩ := T3.town
          refine ⟨?_, T3.len, ls, e1, by rw [upd_ne hDt.symm]; exact e2⟩
          have h2 := hT.scr.but (b1.trans (b2.trans b3))
          have hDD : But D H3 (upd H3 D (.lst (rs.map V.int ++ [.int (1 + e)]))) := But.upd
          have h0 := hT.scr.but b1
          rcases h0 with ⟨h | ⟨o, h⟩, n⟩ | h
          · have hne : a ≠ D := ne_of_none h hD
            rcases h2 with ⟨h' | ⟨o', h'⟩, n'⟩ | h'
            · exact .inl ⟨.inl (hDD _ _ h' hne), n'⟩
            · exact .inl ⟨.inr ⟨o', hDD _ _ h' hne⟩, n'⟩
            · exact .inr h'
          · have hne : a ≠ D := ne_of_none h hD
            rcases h2 with ⟨h' | ⟨o', h'⟩, n'⟩ | h'
            · exact .inl ⟨.inl (hDD _ _ h' hne), n'⟩
            · exact .inl ⟨.inr ⟨o', hDD _ _ h' hne⟩, n'⟩
            · exact .inr h'
          · exact .inr h
        exact this
      · intro x o hx hxt
        rw [upd_ne (ne_of_none hx hD)]
        exact b3 _ _ (b2 _ _ hx hxt) hxt
    · obtain ⟨rs, el, hrs, hD2, T2, b2⟩ := iv
      refine ⟨D, rfl, rs.map V.int, .inl ⟨sqL hD2, fun l hl => ?_⟩⟩
      have hlt : l ≠ t := T2.some_ hl
      refine q rs l _ _ (by omega) (by omega) hrs ?_ upd_same (by omega) (T2.same (same_upd hl)) ((b1.trans b2).thenS (same_upd hl))
      cases e : H l with
      | none => rfl
      | some o => rw [b2 _ _ (b1 _ _ e hlt) hlt] at hl; cases hl
abbrev nm__law_whole : List Str := ["thing"]
abbrev pm__law_whole : List Str := ["thing"]
abbrev lv__law_whole : Nat := 1
theorem sc__law_whole : FnScope nm__law_whole pm__law_whole (defScope s__law_whole) := ⟨rfl, rfl, rfl, by decide +kernel, rfl, by decide +kernel, by decide +kernel⟩
def sp__law_whole (K : PySem.W.Frag) : Sp := fun vs H Q _ => ∃ (x : V) (n : String), vs = [x] ∧ Thing K H x n ∧ Q (.bl (isWholeV x)) H
theorem f__law_whole (T : Txt K mg) : Fk P w K mg base CX0 lv__law_whole "_law_whole" pm__law_whole (sp__law_whole K) := by
  obtain ⟨f, fd, F, g, b⟩ := T.d__law_whole.ex
  refine ⟨f, fd, g, F.kp, b, F.ok sc__law_whole (fun vs H Q E h => ?_) (fun cdv A outer s H vs Q E hr h => ?_)⟩
  · obtain ⟨x, n, rfl, _⟩ := h; rfl
  · obtain ⟨x, n, rfl, hx, q⟩ := h
    refine ⟨_, (pss_one (ps_ret (pe_and (pe_callB call_isi (by rfl) T.b_isinstance (by decide +kernel) (pa_cons (pv 0) (pa_cons (pe_bltn (v := .ty "int") (by rfl) T.b_int (by decide +kernel) rfl) pa_nil))) (pe_one (pe_not (pe_callB call_isi (by rfl) T.b_isinstance (by decide +kernel) (pa_cons (pv 0) (pa_cons (pe_bltn (v := .ty "bool") (by rfl) T.b_bool (by decide +kernel) rfl) pa_nil)))))))), ?_⟩
    walk_at "rd"
    refine isi_thing hx (by decide) ?_
    cases hx with
    | int i =>
      refine ⟨true, rfl, ?_⟩
      walk_at "rd"
      exact isi_thing (.int i) (by decide) ⟨false, rfl, q⟩
    | bl i =>
      refine ⟨true, rfl, ?_⟩
      walk_at "rd"
      exact isi_thing (.bl i) (by decide) ⟨true, rfl, q⟩
    | _ => exact ⟨false, rfl, q⟩
end
end Nk
namespace Nk
open PySem L2
section
variable {P : Program} {w : World} {K : PySem.W.Frag} {mg : Str → Option Value} {base : Heap}
abbrev nm__law_wholes : List Str := ["thing", "one"]
abbrev pm__law_wholes : List Str := ["thing"]
abbrev lv__law_wholes : Nat := 2
theorem sc__law_wholes : FnScope nm__law_wholes pm__law_wholes (defScope s__law_wholes) := ⟨rfl, rfl, rfl, by decide +kernel, rfl, by decide +kernel, by decide +kernel⟩
def sp__law_wholes (K : PySem.W.Frag) : Sp := fun vs H Q _ => ∃ (a : Addr) (xs : List V), vs = [.ref a] ∧ H a = some (.lst xs) ∧ xs.length ≤ 1000 ∧ (∀ x ∈ xs, ∃ i, x = .int i) ∧ ∀ H', Same H H' → Q (.bl true) H'
theorem f__law_wholes (T : Txt K mg) : Fk P w K mg base CX0 lv__law_wholes "_law_wholes" pm__law_wholes (sp__law_wholes K) := by
  obtain ⟨f, fd, F, g, b⟩ := T.d__law_wholes.ex
  refine ⟨f, fd, g, F.kp, b, F.ok sc__law_wholes (fun vs H Q E h => ?_) (fun cdv A outer s H vs Q E hr h => ?_)⟩
  · obtain ⟨a, xs, rfl, _⟩ := h; rfl
  · obtain ⟨a, xs, rfl, ha, hz, hin, q⟩ := h
    refine ⟨_, (pss_one (ps_ret (pe_and (pe_callB call_isi (by rfl) T.b_isinstance (by decide +kernel) (pa_cons (pv 0) (pa_cons (pe_bltn (v := .ty "list") (by rfl) T.b_list (by decide +kernel) rfl) pa_nil))) (pe_one (pe_cmpR (op_eqD hr.units) (pe_lc (own := [("one", 1)]) (g := gName 1) (by rfl) sc__law_wholes.nd (pi_list (pv 0)) (blkOk_by (own := [("one", 1)]) (N := nm__law_wholes) (sc := defScope s__law_wholes) (by decide +kernel)) (fun _ _ _ _ _ => (pg_name (i := 1) sc__law_wholes.nd rfl (Or.inl rfl))) (fun _ _ _ _ _ => (pts_one (pt_not (pt_val (pe_fn (f__law_whole T) (hr.mono (by decide)) (by rfl) pass0 (pa_cons (pv 1) pa_nil)))))) (fun _ _ _ _ _ => (pv 1))) (pe_lst pa_nil) (nomark _)))))), ?_⟩
    walk_at "rd"
    refine isi_thing (.lst ha) (by decide) ⟨true, rfl, ?_⟩
    walk_at "rd"
    refine ⟨_, rfl, a, rfl, ⟨xs, sqL ha⟩, fun D hD => ?_⟩
    refine lcL hD (sqL ha) (fun _ => []) rfl (fun i y H2 hy p => ?_) (fun H2 s2 hD2 => ?_)
    · obtain ⟨z, rfl⟩ := hin y (mem_of_get hy)
      walk_at "rd"
      refine ⟨.int z, _, rfl, .int z, ?_⟩
      show ∃ c, _
      exact ⟨true, rfl, p.skip (Same.refl _) rfl⟩
    · walk_at "rd"
      intro p hp
      have s3 := same_upd (o := .lst []) hp
      exact eqD (d := dLI []) (e := dLI []) (dp_LI (sqL (s3 _ _ hD2))) (dp_LI (sqL upd_same)) (gd_dLI (k := 0) _) (gd_dLI (k := 0) _) (fun _ => q _ (s2.trans s3)) (fun h => absurd rfl h)
end
end Nk
namespace Nk
open PySem L2
section
variable {P : Program} {w : World} {K : PySem.W.Frag} {mg : Str → Option Value} {base : Heap}
abbrev nm__law_spot : List Str := ["rounds", "night", "whole", "at", "number", "long"]
abbrev pm__law_spot : List Str := ["rounds", "night"]
abbrev lv__law_spot : Nat := 1
theorem sc__law_spot : FnScope nm__law_spot pm__law_spot (defScope s__law_spot) := ⟨rfl, rfl, rfl, by decide +kernel, rfl, by decide +kernel, by decide +kernel⟩
def sp__law_spot : Sp := fun vs H Q _ => ∃ (a : Addr) (rs : List Int) (n : Int), vs = [.ref a, .int n] ∧ RndsAt H a rs ∧
  ∀ p H', Same H H' → H p = none → H' p = some (.tup [.int (numOf rs n), .int (firstOf rs (numOf rs n))]) → Q (.ref p) H'
def iv__law_spot (a : Addr) (rs : List Int) (n : Int) (H : Hp) (i : Nat) (σ : L2.St) (H' : Hp) : Prop := H' = H ∧ n / rs.sum * rs.sum + pre rs i ≤ n ∧ ∃ (v : Option V),
  σ = [some (.ref a), some (.int n), some (.int rs.sum), some (.int (n / rs.sum * rs.sum + pre rs i)), some (.int (n / rs.sum * rs.length + i)), v]
theorem f__law_spot (T : Txt K mg) : Fk P w K mg base CX0 lv__law_spot "_law_spot" pm__law_spot sp__law_spot := by
  obtain ⟨f, fd, F, g, b⟩ := T.d__law_spot.ex
  refine ⟨f, fd, g, F.kp, b, F.ok sc__law_spot (fun vs H Q E h => ?_) (fun cdv A outer s H vs Q E hr h => ?_)⟩
  · obtain ⟨a, rs, n, rfl, _⟩ := h; rfl
  · obtain ⟨a, rs, n, rfl, ha, q⟩ := h
    refine ⟨_, (pss_cons (ps_set (i := 2) sc__law_spot.nd rfl (.inl rfl) (pe_callB (cr_sumT rfl) (by rfl) T.b_sum (by decide +kernel) (pa_cons (pv 0) pa_nil)))
      (pss_cons (ps_set (i := 3) sc__law_spot.nd rfl (.inl rfl) (pe_op op_mul (pe_op op_fdiv (pv 1) (pv 2)) (pv 2)))
      (pss_cons (ps_set (i := 4) sc__law_spot.nd rfl (.inl rfl) (pe_op op_mul (pe_op op_fdiv (pv 1) (pv 2)) (pe_callB call_len_seq (by rfl) T.b_len PySem.boot_len (pa_cons (pv 0) pa_nil))))
      (pss_cons (ps_for PassesOwn.never rfl (pi_tup (pv 0)) (pg_name (i := 5) sc__law_spot.nd rfl (Or.inl rfl)) (pss_cons (ps_if (pt_cmpR op_lt (pv 1) (pe_op op_add (pv 3) (pv 5)) (nomark _)) (pss_one (ps_ret (pe_tup (pa_cons (pv 4) (pa_cons (pv 3) pa_nil))))) pss_nil)
      (pss_cons (ps_set (i := 3) sc__law_spot.nd rfl (.inl rfl) (pe_op op_add (pv 3) (pv 5)))
      (pss_one (ps_set (i := 4) sc__law_spot.nd rfl (.inl rfl) (pe_op op_add (pv 4) pe_int))))))
      (pss_one (ps_ret pe_non)))))), ?_⟩
    have ok := ha.ok
    have hs := ha.ok.sum
    have hs' := ha.sum_le
    have hl := ha.ln
    have hM : (rs.map V.int).length = rs.length := List.length_map _
    have hmod := Int.emod_add_mul_ediv n rs.sum
    have hm0 := Int.emod_nonneg n (show rs.sum ≠ 0 by omega)
    have hm1 := Int.emod_lt_of_pos n hs
    have hcm := Int.mul_comm rs.sum (n / rs.sum)
    walk_at "rd"
    refine ⟨a, rs, rfl, sqT ha.at_, ?_⟩
    walk_at "rd"
    refine ⟨⟨hs, by omega⟩, .inr ⟨by omega, by omega⟩, ⟨hs, by omega⟩, rs.map V.int, .inr (sqT ha.at_), ?_⟩
    rw [hM]
    refine ⟨.inr ⟨by omega, by omega⟩, ?_⟩
    refine ⟨_, rfl, a, rfl, ⟨_, sqT ha.at_⟩, for_tup (K := K) (a := a) (xs := rs.map V.int) (iv__law_spot a rs n H)
      ⟨rfl, by rw [pre_zero]; omega, none, by rw [pre_zero]; simp⟩ (fun i σ H' _ p => by rw [p.1]; exact sqT ha.at_) ?_ ?_⟩
    · rintro i x σ H' hi ⟨rfl, hle, v, rfl⟩
      rw [List.getElem?_map] at hi
      cases e : rs[i]? with
      | none => rw [e] at hi; cases hi
      | some r =>
        rw [e] at hi
        cases hi
        have hlt := lt_of_get e
        have hst := pre_step e
        walk_at "rd"
        refine ite2 (fun c => ?_) (fun c => ?_)
        · have a1 := firstOf_at ok (n / rs.sum) (Nat.le_of_lt hlt)
          have a2 := firstOf_at ok (n / rs.sum) (Nat.succ_le_of_lt hlt)
          have e2 : n / rs.sum * (rs.length : Int) + ((Nat.succ i : Nat) : Int) = n / rs.sum * (rs.length : Int) + (i : Int) + 1 := by push_cast; omega
          rw [e2] at a2
          have hN : numOf rs n = n / rs.sum * rs.length + i := by
            refine numOf_of ok (by omega) ?_
            rw [a2]
            show n < n / rs.sum * rs.sum + pre rs (i + 1)
            omega
          rw [← a1, ← hN]
          exact fun p hp => q p _ (same_upd hp) hp upd_same
        · refine ⟨rfl, by omega, some (.int r), ?_⟩
          rw [hst]
          congr 4
          · congr 2
            omega
          · congr 3
            push_cast
            omega
    · rintro σ H' ⟨rfl, hle, v, rfl⟩
      rw [hM, pre_len] at hle
      omega
end
end Nk
namespace Nk
open PySem L2
section
variable {P : Program} {w : World} {K : PySem.W.Frag} {mg : Str → Option Value} {base : Heap}
/-- things, down to a depth -/
def DT (K : PySem.W.Frag) (H : Hp) : Nat → V → Prop
  | 0, x => ∃ n, Thing K H x n
  | k + 1, x => (∃ n, Thing K H x n) ∧ ∀ a xs, x = .ref a → (H a = some (.tup xs) ∨ H a = some (.lst xs)) → xs.length ≤ 100000 ∧ ∀ y ∈ xs, DT K H k y
theorem DT.th {H : Hp} {k : Nat} {x : V} (h : DT K H k x) : ∃ n, Thing K H x n := by
  cases k with
  | zero => exact h
  | succ k => exact h.1
theorem DT.same {H H' : Hp} (s : Same H H') : ∀ {k : Nat} {x : V}, DT K H k x → DT K H' k x
  | 0, _, ⟨n, h⟩ => ⟨n, Thing.same s h⟩
  | k + 1, x, ⟨⟨n, h⟩, hi⟩ => by
    refine ⟨⟨n, Thing.same s h⟩, fun a xs e ha => ?_⟩
    have back : H a = some (.tup xs) ∨ H a = some (.lst xs) := by
      subst e
      cases h with
      | lst h => have := s _ _ h; rw [this] at ha; rcases ha with z | z <;> cases z; exact .inr h
      | tup h => have := s _ _ h; rw [this] at ha; rcases ha with z | z <;> cases z; exact .inl h
      | dic h => have := s _ _ h; rw [this] at ha; rcases ha with z | z <;> cases z
    obtain ⟨h1, h2⟩ := hi a xs e back
    exact ⟨h1, fun y hy => DT.same s (h2 y hy)⟩
theorem DT.t2 {H : Hp} {k : Nat} {x : V} (h : DT K H (k + 1) x) : Thing2 K H x :=
  ⟨h.1, fun a xs e ha => by
    obtain ⟨h1, h2⟩ := h.2 a xs e (.inl ha)
    exact ⟨h1, fun y hy => (h2 y hy).th⟩⟩
def isRuleV (H : Hp) (x : V) : Bool := match x with
  | .ref a => match H a with
    | some (.tup [r, m]) => isRoundsV H r && isNumV m 1 (.int 20)
    | _ => false
  | _ => false
def isRulesV (H : Hp) (x : V) : Bool := match x with
  | .ref a => match H a with
    | some (.tup xs) => decide (1 ≤ xs.length) && decide (xs.length ≤ 5) && xs.all (isRuleV H)
    | _ => false
  | _ => false
theorem isRoundsV_same {H H' : Hp} (s : Same H H') {x : V} {n : String} (h : Thing K H x n) : isRoundsV H' x = isRoundsV H x := by
  cases h with
  | lst h => simp only [isRoundsV, h, s _ _ h]
  | tup h => simp only [isRoundsV, h, s _ _ h]
  | dic h => simp only [isRoundsV, h, s _ _ h]
  | _ => rfl
theorem isRuleV_same {H H' : Hp} (s : Same H H') {x : V} (h : DT K H 1 x) : isRuleV H' x = isRuleV H x := by
  obtain ⟨⟨n, h⟩, hi⟩ := h
  cases h with
  | lst h => simp only [isRuleV, h, s _ _ h]
  | @tup a xs h =>
    obtain ⟨_, h2⟩ := hi a xs rfl (.inl h)
    simp only [isRuleV, h, s _ _ h]
    match xs, h2 with
    | [r, m], h2 =>
      obtain ⟨n', hr⟩ := (h2 r List.mem_cons_self).th
      simp only [isRoundsV_same s hr]
    | [], _ => rfl
    | [_], _ => rfl
    | _ :: _ :: _ :: _, _ => rfl
  | dic h => simp only [isRuleV, h, s _ _ h]
  | _ => rfl
/-- a rule that stands -/
def RuleAt (H : Hp) (x : V) (ru : List Int × Int) : Prop := ∃ (b r : Addr), x = .ref b ∧ H b = some (.tup [.ref r, .int ru.2]) ∧ RndsAt H r ru.1 ∧ 1 ≤ ru.2 ∧ ru.2 ≤ 20
theorem RuleAt.same {H H' : Hp} {x : V} {ru : List Int × Int} (h : RuleAt H x ru) (s : Same H H') : RuleAt H' x ru := by
  obtain ⟨b, r, e, hb, hr, h1, h2⟩ := h
  exact ⟨b, r, e, s _ _ hb, hr.same s, h1, h2⟩
theorem RuleAt.but {H H' : Hp} {t : Addr} {l : List V} {x : V} {ru : List Int × Int} (h : RuleAt H x ru) (s : But t H H') (ht : H t = some (.lst l)) : RuleAt H' x ru := by
  obtain ⟨b, r, e, hb, hr, h1, h2⟩ := h
  exact ⟨b, r, e, s _ _ hb (ne_of hb ht (by intro z; cases z)), hr.but s ht, h1, h2⟩
/-- rules that stand -/
structure RulesAt (H : Hp) (a : Addr) (rus : List (List Int × Int)) : Prop where
  ex : ∃ xs : List V, H a = some (.tup xs) ∧ xs.length = rus.length ∧ ∀ (i : Nat) x, xs[i]? = some x → ∃ ru, rus[i]? = some ru ∧ RuleAt H x ru
  l1 : 1 ≤ rus.length
  l5 : rus.length ≤ 5
theorem RulesAt.same {H H' : Hp} {a : Addr} {rus : List (List Int × Int)} (h : RulesAt H a rus) (s : Same H H') : RulesAt H' a rus := by
  obtain ⟨xs, ha, hl, hi⟩ := h.ex
  refine ⟨⟨xs, s _ _ ha, hl, fun i x hx => ?_⟩, h.l1, h.l5⟩
  obtain ⟨ru, e, r⟩ := hi i x hx
  exact ⟨ru, e, r.same s⟩
theorem RulesAt.but {H H' : Hp} {a t : Addr} {l : List V} {rus : List (List Int × Int)} (h : RulesAt H a rus) (s : But t H H') (ht : H t = some (.lst l)) : RulesAt H' a rus := by
  obtain ⟨xs, ha, hl, hi⟩ := h.ex
  refine ⟨⟨xs, s _ _ ha (ne_of ha ht (by intro z; cases z)), hl, fun i x hx => ?_⟩, h.l1, h.l5⟩
  obtain ⟨ru, e, r⟩ := hi i x hx
  exact ⟨ru, e, r.but s ht⟩
theorem RulesAt.rnds {H : Hp} {a : Addr} {rus : List (List Int × Int)} (h : RulesAt H a rus) : ∀ ru ∈ rus, Rnds ru.1 ∧ 1 ≤ ru.2 ∧ ru.2 ≤ 20 ∧ ru.1.length ≤ 12 ∧ ∀ r ∈ ru.1, r ≤ 31 := by
  intro ru hru
  obtain ⟨xs, ha, hl, hi⟩ := h.ex
  obtain ⟨i, hi1, e⟩ := List.mem_iff_getElem.mp hru
  have hx : xs[i]? = some (xs[i]'(by omega)) := List.getElem?_eq_getElem (by omega)
  obtain ⟨ru', e', b, r, _, _, R, h1, h2⟩ := hi i _ hx
  rw [List.getElem?_eq_getElem hi1, e] at e'
  cases e'
  exact ⟨R.ok, h1, h2, R.ln, R.le⟩
theorem RuleAt.thing {H : Hp} {x : V} {ru : List Int × Int} (h : RuleAt H x ru) : DT K H 2 x := by
  obtain ⟨b, r, rfl, hb, hr, h1, h2⟩ := h
  refine ⟨⟨_, .tup hb⟩, fun a xs e ha => ?_⟩
  cases e
  rw [hb] at ha
  rcases ha with z | z <;> cases z
  refine ⟨by simp, fun y hy => ?_⟩
  simp only [List.mem_cons, List.not_mem_nil, or_false] at hy
  rcases hy with rfl | rfl
  · refine ⟨⟨_, .tup hr.at_⟩, fun a xs e ha => ?_⟩
    cases e
    rw [hr.at_] at ha
    rcases ha with z | z <;> cases z
    refine ⟨by have := hr.ln; simp; omega, fun y hy => ?_⟩
    obtain ⟨i, _, rfl⟩ := List.mem_map.mp hy
    exact ⟨_, .int i⟩
  · exact ⟨⟨_, .int _⟩, fun a xs e ha => by cases e⟩
theorem RuleAt.is {H : Hp} {x : V} {ru : List Int × Int} (h : RuleAt H x ru) : isRuleV H x = true := by
  obtain ⟨b, r, rfl, hb, hr, h1, h2⟩ := h
  simp only [isRuleV, hb, hr.is, isNumV, h1, h2, decide_true, Bool.and_true]
theorem RulesAt.thing {H : Hp} {a : Addr} {rus : List (List Int × Int)} (h : RulesAt H a rus) : DT K H 3 (.ref a) := by
  obtain ⟨xs, ha, hl, hi⟩ := h.ex
  refine ⟨⟨_, .tup ha⟩, fun b ys e hb => ?_⟩
  cases e
  rw [ha] at hb
  rcases hb with z | z <;> cases z
  refine ⟨by have := h.l5; omega, fun y hy => ?_⟩
  obtain ⟨i, h1, e⟩ := List.mem_iff_getElem.mp hy
  obtain ⟨ru, _, r⟩ := hi i y (by rw [List.getElem?_eq_getElem h1, e])
  exact r.thing
theorem RulesAt.is {H : Hp} {a : Addr} {rus : List (List Int × Int)} (h : RulesAt H a rus) : isRulesV H (.ref a) = true := by
  obtain ⟨xs, ha, hl, hi⟩ := h.ex
  have h1 := h.l1
  have h5 := h.l5
  have h3 : xs.all (isRuleV H) = true := by
    rw [List.all_eq_true]
    intro y hy
    obtain ⟨i, h1, e⟩ := List.mem_iff_getElem.mp hy
    obtain ⟨ru, _, r⟩ := hi i y (by rw [List.getElem?_eq_getElem h1, e])
    exact r.is
  simp only [isRulesV, ha, h3, Bool.and_true, Bool.and_eq_true, decide_eq_true_eq]
  omega
abbrev nm_is_rule : List Str := ["thing"]
abbrev pm_is_rule : List Str := ["thing"]
abbrev lv_is_rule : Nat := 3
theorem sc_is_rule : FnScope nm_is_rule pm_is_rule (defScope s_is_rule) := ⟨rfl, rfl, rfl, by decide +kernel, rfl, by decide +kernel, by decide +kernel⟩
def sp_is_rule (K : PySem.W.Frag) : Sp := fun vs H Q _ => ∃ (x : V), vs = [x] ∧ DT K H 2 x ∧ ∀ H', Same H H' → Q (.bl (isRuleV H x)) H'
theorem f_is_rule (T : Txt K mg) : Fk P w K mg base CX0 lv_is_rule "is_rule" pm_is_rule (sp_is_rule K) := by
  obtain ⟨f, fd, F, g, b⟩ := T.d_is_rule.ex
  refine ⟨f, fd, g, F.kp, b, F.ok sc_is_rule (fun vs H Q E h => ?_) (fun cdv A outer s H vs Q E hr h => ?_)⟩
  · obtain ⟨x, rfl, _⟩ := h; rfl
  · obtain ⟨x, rfl, ⟨⟨n, hx⟩, hin⟩, q⟩ := h
    refine ⟨_, (pss_one (ps_ret (pe_and (pe_callB call_isi (by rfl) T.b_isinstance (by decide +kernel) (pa_cons (pv 0) (pa_cons (pe_bltn (v := .ty "tuple") (by rfl) T.b_tuple (by decide +kernel) rfl) pa_nil))) (pe_and (pe_cmpR op_eq (pe_callB call_len_seq (by rfl) T.b_len PySem.boot_len (pa_cons (pv 0) pa_nil)) pe_int (nomark _)) (pe_and (pe_fn (f_is_rounds T) (hr.mono (by decide)) (by rfl) pass0 (pa_cons (pe_ix ix_tup (pv 0) pe_int (fun _ _ => rfl)) pa_nil)) (pe_one (pe_fn (f_is_number T) (hr.mono (by decide)) (by rfl) pass0 (pa_cons (pe_ix ix_tup (pv 0) pe_int (fun _ _ => rfl)) (pa_cons pe_int (pa_cons pe_int pa_nil)))))))))), ?_⟩
    walk_at "rs"
    refine isi_thing hx (by decide) ?_
    cases hx with
    | @tup a xs ha =>
      obtain ⟨hz, hth⟩ := hin a xs rfl (.inl ha)
      refine ⟨true, rfl, ?_⟩
      walk_at "rs"
      refine ⟨xs, .inr (sqT ha), ?_⟩
      have qf := q H (Same.refl H)
      by_cases c : xs.length = 2
      · match xs, c with
        | [r, m], _ =>
          obtain ⟨mt, hm⟩ := (hth m (by simp)).th
          walk_at "rs"
          rw [if_pos (by decide)]
          refine ixT (j := 0) (sqT ha) rfl rfl ?_
          refine ⟨r, rfl, (hth r (by simp)).t2, fun H1 s1 => ?_⟩
          refine ⟨_, rfl, ?_⟩
          have q1 := q H1 s1
          simp only [isRuleV, ha] at q1
          cases e : isRoundsV H r with
          | false => rw [e] at q1; simpa using q1
          | true =>
            rw [e] at q1
            walk_at "rs"
            refine ixT (j := 1) (sqT (s1 _ _ ha)) rfl rfl ?_
            exact ⟨m, mt, 1, .int 20, rfl, Thing.same s1 hm, fun _ _ => ⟨_, rfl⟩, by simpa using q1⟩
      · rw [if_neg (by omega)]
        have e : isRuleV H (.ref a) = false := by
          simp only [isRuleV, ha]
          match xs, c with
          | [], _ => rfl
          | [_], _ => rfl
          | [_, _], c => exact absurd rfl c
          | _ :: _ :: _ :: _, _ => rfl
        rw [e] at qf
        exact qf
    | _ => exact ⟨false, by rfl, by simpa [isRuleV, *] using q H (Same.refl H)⟩
abbrev nm_look_rules : List Str := ["rules", "one"]
abbrev pm_look_rules : List Str := ["rules"]
abbrev lv_look_rules : Nat := 4
theorem sc_look_rules : FnScope nm_look_rules pm_look_rules (defScope s_look_rules) := ⟨rfl, rfl, rfl, by decide +kernel, rfl, by decide +kernel, by decide +kernel⟩
def sp_look_rules (K : PySem.W.Frag) (mg : Str → Option Value) : Sp := fun vs H Q E => ∃ (x : V), vs = [x] ∧ DT K H 3 x ∧ (isRulesV H x = true → ∀ H', Same H H' → Q .non H') ∧ (isRulesV H x = false → ∀ H', Same H H' → E (.ref (cls mg "BadRules")) none H')
theorem f_look_rules (T : Txt K mg) : Fk P w K mg base (L2.CX P w) lv_look_rules "look_rules" pm_look_rules (sp_look_rules K mg) := by
  obtain ⟨f, fd, F, g, b⟩ := T.d_look_rules.ex
  refine ⟨f, fd, g, F.kp, b, F.okX sc_look_rules (fun vs H Q E h => ?_) (fun cdv A outer s H vs Q E hr h => ?_)⟩
  · obtain ⟨x, rfl, _⟩ := h; rfl
  · obtain ⟨x, rfl, ⟨⟨n, hx⟩, hin⟩, q1, q2⟩ := h
    refine ⟨_, (pss_one (ps_if (PW.pt (pw_or (pt_not (pt_val (pe_callB call_isi (by rfl) T.b_isinstance (by decide +kernel) (pa_cons (pv 0) (pa_cons (pe_bltn (v := .ty "tuple") (by rfl) T.b_tuple (by decide +kernel) rfl) pa_nil))))) (pw_or (pt_not (pt_chain op_le op_le pe_int (pe_callB call_len_seq (by rfl) T.b_len PySem.boot_len (pa_cons (pv 0) pa_nil)) pe_int)) (pw_or1 (pt_not (pt_val (pe_callB (cr_all rfl) (by rfl) T.b_all (by decide +kernel) (pa_cons (pe_lc (own := [("one", 1)]) (g := gName 1) (tt := tYes) (by rfl) sc_look_rules.nd (pi_tup (pv 0)) (blkOk_by (own := [("one", 1)]) (N := nm_look_rules) (sc := defScope s_look_rules) (by decide +kernel)) (fun _ _ _ _ _ => (pg_name (i := 1) sc_look_rules.nd rfl (Or.inl rfl))) (fun _ _ _ _ _ => pts_nil) (fun _ _ _ _ _ => (pe_fn (f_is_rule T) (hr.mono (by decide)) (by rfl) pass0 (pa_cons (pv 1) pa_nil)))) pa_nil)))))))) (pss_one (ps_raise rfl (takes_of rfl rfl rfl rfl) (pmk_own PySem.F.excBase_RuntimeError T.x_BadRules.xP T.x_BadRules.gP T.x_BadRules.kP T.x_BadRules.rs rfl))) pss_nil)), ?_⟩
    walk_at "rs"
    refine isi_thing hx (by decide) ?_
    cases hx with
    | @tup a xs ha =>
      obtain ⟨hz, hth⟩ := hin a xs rfl (.inl ha)
      refine ⟨true, rfl, ?_⟩
      walk_at "rs"
      refine ⟨xs, .inr (sqT ha), ?_⟩
      have e0 : isRulesV H (.ref a) = (decide (1 ≤ xs.length) && decide (xs.length ≤ 5) && xs.all (isRuleV H)) := by
        simp only [isRulesV, ha]
      rw [e0] at q1 q2
      by_cases c1 : 1 ≤ xs.length
      · rw [if_pos (show (1 : Int) ≤ (xs.length : Int) by omega)]
        by_cases c2 : xs.length ≤ 5
        · rw [if_neg (show ¬ ¬ (xs.length : Int) ≤ 5 by omega)]
          refine ⟨_, rfl, a, rfl, ⟨xs, sqT ha⟩, fun D hD => ?_⟩
          refine lcT hD (sqT ha) (fun i => (xs.take i).map fun y => .bl (isRuleV H y)) rfl (fun i y H2 hy p => ?_) (fun H2 s2 hD2 => ?_)
          · have hy1 := hth y (mem_of_get hy)
            have hy2 := hy1.same p.same
            walk_at "rs"
            refine ⟨y, rfl, hy2, fun H3 s3 => ?_⟩
            rw [isRuleV_same (K := K) p.same ⟨hy1.1, fun a' xs' e' h' => by obtain ⟨w1, w2⟩ := hy1.2 a' xs' e' h'; exact ⟨w1, fun z hz => (w2 z hz).th⟩⟩]
            exact p.push hD (by simp; omega) s3 (map_take_next _ hy)
          · refine ⟨D, xs.map (isRuleV H), rfl, ?_, ?_⟩
            · rw [List.take_length] at hD2
              rw [List.map_map]
              exact sqL hD2
            · walk_at "rs"
              simp only [List.all_map, Function.comp_def, id_eq]
              cases e : xs.all (fun y => isRuleV H y) with
              | true => exact q1 (by simp [c1, c2, e]) H2 s2
              | false => exact q2 (by simp [c1, c2, e]) H2 s2
        · rw [if_pos (show ¬ (xs.length : Int) ≤ 5 by omega)]
          exact q2 (by simp [c2]) H (Same.refl H)
      · rw [if_neg (show ¬ (1 : Int) ≤ (xs.length : Int) by omega)]
        exact q2 (by simp [c1]) H (Same.refl H)
    | _ => exact ⟨false, by rfl, by simpa using q2 (by simp [isRulesV, *]) H (Same.refl H)⟩
end
end Nk
namespace Nk
open PySem L2
section
variable {P : Program} {w : World} {K : PySem.W.Frag} {mg : Str → Option Value} {base : Heap}
def riseV : List V → Bool
  | x :: y :: r => (match x, y with | .int i, .int j => decide (i < j) | _, _ => false) && riseV (y :: r)
  | _ => true
def isNightsV (H : Hp) (x : V) : Bool := match x with
  | .ref a => match H a with
    | some (.lst xs) => decide (xs.length ≤ 100) && xs.all (fun y => isNumV y 0 (.int 1000000000)) && riseV xs
    | _ => false
  | _ => false
theorem cut_from (xs : List V) (j : Nat) : cutV xs (some (j : Int)) none = xs.drop j := by
  unfold cutV
  rw [HT.sIx_none, HT.sIx_nat]
  by_cases h : j ≤ xs.length
  · rw [Nat.min_eq_left h, List.take_of_length_le (by simp)]
  · rw [Nat.min_eq_right (by omega), List.drop_of_length_le (Nat.le_refl _), List.drop_of_length_le (by omega)]
    simp
theorem allNum {xs : List V} (h : xs.all (fun y => isNumV y 0 (.int 1000000000)) = true) : ∃ ns : List Int, xs = ns.map V.int ∧ ∀ n ∈ ns, 0 ≤ n ∧ n ≤ 1000000000 := by
  induction xs with
  | nil => exact ⟨[], rfl, by simp⟩
  | cons x xs ih =>
    simp only [List.all_cons, Bool.and_eq_true] at h
    obtain ⟨ns, e, hn⟩ := ih h.2
    cases x with
    | int i =>
      refine ⟨i :: ns, by rw [e]; rfl, fun n hn' => ?_⟩
      rcases List.mem_cons.mp hn' with rfl | hn'
      · simpa [isNumV] using h.1
      · exact hn n hn'
    | _ => simp [isNumV] at h
theorem riseV_ints : ∀ ns : List Int, riseV (ns.map V.int) = true ↔ ns.Pairwise (· < ·)
  | [] => by simp [riseV]
  | [n] => by simp [riseV]
  | n :: m :: r => by
    have ih := riseV_ints (m :: r)
    simp only [List.map_cons] at ih ⊢
    simp only [riseV, Bool.and_eq_true, decide_eq_true_eq, ih]
    constructor
    · rintro ⟨h1, h2⟩
      refine List.pairwise_cons.mpr ⟨fun x hx => ?_, h2⟩
      rcases List.mem_cons.mp hx with rfl | hx
      · exact h1
      · have := (List.pairwise_cons.mp h2).1 x hx
        omega
    · intro h
      obtain ⟨h1, h2⟩ := List.pairwise_cons.mp h
      exact ⟨h1 m List.mem_cons_self, h2⟩
theorem rise_steps {ns : List Int} (h : ∀ (i : Nat) a b, ns[i]? = some a → ns[i + 1]? = some b → a < b) : ns.Pairwise (· < ·) := by
  induction ns with
  | nil => exact .nil
  | cons n ns ih =>
    have ih' := ih fun i a b h1 h2 => h (i + 1) a b (by simpa using h1) (by simpa using h2)
    cases ns with
    | nil => exact List.pairwise_singleton _ _
    | cons m r =>
      have h0 := h 0 n m rfl rfl
      refine List.pairwise_cons.mpr ⟨fun x hx => ?_, ih'⟩
      rcases List.mem_cons.mp hx with rfl | hx
      · exact h0
      · have := (List.pairwise_cons.mp ih').1 x hx
        omega
abbrev nm_look_nights : List Str := ["nights", "one", "other"]
abbrev pm_look_nights : List Str := ["nights"]
abbrev lv_look_nights : Nat := 2
theorem sc_look_nights : FnScope nm_look_nights pm_look_nights (defScope s_look_nights) := ⟨rfl, rfl, rfl, by decide +kernel, rfl, by decide +kernel, by decide +kernel⟩
def sp_look_nights (K : PySem.W.Frag) (mg : Str → Option Value) : Sp := fun vs H Q E => ∃ (x : V), vs = [x] ∧ DT K H 1 x ∧ (isNightsV H x = true → ∀ H', Same H H' → Q .non H') ∧ (isNightsV H x = false → ∀ H', Same H H' → E (.ref (cls mg "BadNights")) none H')
def iv_look_nights (a : Addr) (ns : List Int) (H : Hp) (c : Addr) (i : Nat) (σ : L2.St) (H' : Hp) : Prop := (∃ y1 y2, σ = [some (.ref a), y1, y2]) ∧ Same H H' ∧ H' c = some (.lst ((ns.drop 1).map V.int)) ∧ ∀ (j : Nat) x y, j < i → ns[j]? = some x → ns[j + 1]? = some y → x < y
theorem f_look_nights (T : Txt K mg) : Fk P w K mg base (L2.CX P w) lv_look_nights "look_nights" pm_look_nights (sp_look_nights K mg) := by
  obtain ⟨f, fd, F, g, b⟩ := T.d_look_nights.ex
  refine ⟨f, fd, g, F.kp, b, F.okX sc_look_nights (fun vs H Q E h => ?_) (fun cdv A outer s H vs Q E hr h => ?_)⟩
  · obtain ⟨x, rfl, _⟩ := h; rfl
  · obtain ⟨x, rfl, ⟨⟨n, hx⟩, hin⟩, q1, q2⟩ := h
    refine ⟨_, (pss_cons (ps_if (PW.pt (pw_or (pt_not (pt_val (pe_callB call_isi (by rfl) T.b_isinstance (by decide +kernel) (pa_cons (pv 0) (pa_cons (pe_bltn (v := .ty "list") (by rfl) T.b_list (by decide +kernel) rfl) pa_nil))))) (pw_or1 (pt_cmpR op_gt (pe_callB call_len_seq (by rfl) T.b_len PySem.boot_len (pa_cons (pv 0) pa_nil)) (pe_globI T.c_MOST_HELD (by rfl)) (nomark _))))) (pss_one (ps_raise rfl (takes_of rfl rfl rfl rfl) (pmk_own PySem.F.excBase_RuntimeError T.x_BadNights.xP T.x_BadNights.gP T.x_BadNights.kP T.x_BadNights.rs rfl))) pss_nil)
      (pss_cons (ps_if (pt_not (pt_val (pe_callB (cr_all rfl) (by rfl) T.b_all (by decide +kernel) (pa_cons (pe_lc (own := [("one", 1)]) (g := gName 1) (tt := tYes) (by rfl) sc_look_nights.nd (pi_list (pv 0)) (blkOk_by (own := [("one", 1)]) (N := nm_look_nights) (sc := defScope s_look_nights) (by decide +kernel)) (fun _ _ _ _ _ => (pg_name (i := 1) sc_look_nights.nd rfl (Or.inl rfl))) (fun _ _ _ _ _ => pts_nil) (fun _ _ _ _ _ => (pe_fn (f_is_number T) (hr.mono (by decide)) (by rfl) pass0 (pa_cons (pv 1) (pa_cons pe_int (pa_cons (pe_globI T.c_MOST_NIGHT (by rfl)) pa_nil)))))) pa_nil)))) (pss_one (ps_raise rfl (takes_of rfl rfl rfl rfl) (pmk_own PySem.F.excBase_RuntimeError T.x_BadNights.xP T.x_BadNights.gP T.x_BadNights.kP T.x_BadNights.rs rfl))) pss_nil)
      (pss_one (ps_for (passes_of rfl) rfl (pi_zip (by rfl) T.b_zip (pa_cons (pv 0) (pa_cons (pe_slice sl_list (pv 0) (po_some pe_int) po_none) pa_nil))) (pg_tup rfl (pgs_cons (pg_name (i := 1) sc_look_nights.nd rfl (Or.inl rfl)) (pgs_cons (pg_name (i := 2) sc_look_nights.nd rfl (Or.inl rfl)) pgs_nil))) (pss_one (ps_if (pt_cmpR op_ge (pv 1) (pv 2) (nomark _)) (pss_one (ps_raise rfl (takes_of rfl rfl rfl rfl) (pmk_own PySem.F.excBase_RuntimeError T.x_BadNights.xP T.x_BadNights.gP T.x_BadNights.kP T.x_BadNights.rs rfl))) pss_nil)))))), ?_⟩
    with_reducible refine seq_k fun K_ hK_ => ?_
    walk_at "rs"
    refine isi_thing hx (by decide) ?_
    cases hx with
    | @lst a xs ha =>
      obtain ⟨hz, hth⟩ := hin a xs rfl (.inr ha)
      refine ⟨true, rfl, ?_⟩
      walk_at "rs"
      refine ⟨xs, .inl (sqL ha), ?_⟩
      have e0 : isNightsV H (.ref a) = (decide (xs.length ≤ 100) && xs.all (fun y => isNumV y 0 (.int 1000000000)) && riseV xs) := by
        simp only [isNightsV, ha]
      rw [e0] at q1 q2
      by_cases c1 : xs.length ≤ 100
      · rw [if_neg (show ¬ (100 : Int) < (xs.length : Int) by omega)]
        walk_at "rs"
        subst hK_
        first | with_reducible refine seq_k fun K_ hK_ => ?_ | skip
        walk_at "rs"
        refine ⟨_, rfl, a, rfl, ⟨xs, sqL ha⟩, fun D hD => ?_⟩
        refine lcL hD (sqL ha) (fun i => (xs.take i).map fun y => .bl (isNumV y 0 (.int 1000000000))) rfl (fun i y H2 hy p => ?_) (fun H2 s2 hD2 => ?_)
        · walk_at "rs"
          obtain ⟨m, hm⟩ := (hth y (mem_of_get hy)).th
          refine ⟨y, m, 0, .int 1000000000, rfl, Thing.same p.same hm, fun _ _ => ⟨_, rfl⟩, ?_⟩
          exact p.push hD (by simp; omega) (Same.refl _) (map_take_next _ hy)
        · refine ⟨D, xs.map fun y => isNumV y 0 (.int 1000000000), rfl, ?_, ?_⟩
          · rw [List.take_length] at hD2
            rw [List.map_map]
            exact sqL hD2
          walk_at "rs"
          simp only [List.all_map, Function.comp_def, id_eq]
          cases e : xs.all (fun y => isNumV y 0 (.int 1000000000)) with
          | false => exact q2 (by simp [e]) H2 s2
          | true =>
            obtain ⟨ns, rfl, hns⟩ := allNum e
            walk_at "rs"
            subst hK_
            first | with_reducible refine seq_k fun K_ hK_ => ?_ | skip
            walk_at "rs"
            refine ⟨_, rfl, _, rfl, 1, rfl, a, _, rfl, s2.seq (sqL ha), fun c hc => ?_⟩
            have s3 : Same H (upd H2 c (.lst (cutV (ns.map V.int) (some 1) none))) := s2.trans (same_upd hc)
            have hC : (upd H2 c (.lst (cutV (ns.map V.int) (some 1) none))) c = some (.lst ((ns.drop 1).map V.int)) := by
              rw [upd_same, show cutV (ns.map V.int) (some 1) none = (ns.map V.int).drop 1 from cut_from _ 1, List.map_drop]
            refine ⟨a, c, ns.map V.int, (ns.drop 1).map V.int, rfl, s3.seq (sqL ha), sqL hC, ?_⟩
            have hn : ns.length - 1 = min (ns.map V.int).length ((ns.drop 1).map V.int).length := by simp
            refine for_it (walk_zip hn) (iv_look_nights a ns H c) ⟨⟨none, none, rfl⟩, s3, hC, fun j _ _ hj => absurd hj (by omega)⟩ (fun i σ H5 _ p => ⟨p.2.1.seq (sqL ha), sqL p.2.2.1⟩) ?_ ?_
            · rintro i x σ H5 H6 hi ⟨⟨y1, y2, rfl⟩, s5, hc5, hr5⟩ ⟨t, u, v, rfl, ht, rfl, hu, hv⟩
              have hu : (ns.map V.int)[i]? = some u := hu
              have hv : ((ns.drop 1).map V.int)[i]? = some v := hv
              rw [List.getElem?_map] at hu hv
              rw [List.getElem?_drop, Nat.add_comm] at hv
              cases eu : ns[i]? with
              | none => rw [eu] at hu; cases hu
              | some x =>
                rw [eu] at hu
                cases hu
                cases ev : ns[i + 1]? with
                | none => rw [ev] at hv; cases hv
                | some y =>
                  rw [ev] at hv
                  cases hv
                  have s6 := s5.trans (same_upd (o := .tup [.int x, .int y]) ht)
                  refine ⟨t, [.int x, .int y], rfl, sqT upd_same, rfl, ?_⟩
                  walk_at "rs"
                  refine ite2 (fun c2 => ?_) (fun c2 => ?_)
                  · refine q2 ?_ _ s6
                    have : riseV (ns.map V.int) = false := by
                      cases e2 : riseV (ns.map V.int) with
                      | false => rfl
                      | true =>
                        have hp := (riseV_ints ns).mp e2
                        obtain ⟨h1, e1⟩ := List.getElem?_eq_some_iff.mp eu
                        obtain ⟨h2, e2⟩ := List.getElem?_eq_some_iff.mp ev
                        have := List.pairwise_iff_getElem.mp hp i (i + 1) h1 h2 (by omega)
                        omega
                    simp [this]
                  · refine ⟨⟨_, _, rfl⟩, s6, (same_upd ht) _ _ hc5, fun j a b hj h1 h2 => ?_⟩
                    by_cases ej : j = i
                    · subst ej
                      rw [eu] at h1
                      rw [ev] at h2
                      cases h1
                      cases h2
                      omega
                    · exact hr5 j a b (by omega) h1 h2
            · rintro σ H5 ⟨_, s5, _, hr5⟩
              refine q1 ?_ H5 s5
              have : riseV (ns.map V.int) = true := (riseV_ints ns).mpr (rise_steps fun i a b h1 h2 => hr5 i a b (by have := lt_of_get h2; omega) h1 h2)
              have c1' : ns.length ≤ 100 := by simpa using c1
              simp [this, e, c1']
      · rw [if_pos (show (100 : Int) < (xs.length : Int) by omega)]
        exact q2 (by simp [c1]) H (Same.refl H)
    | _ => exact ⟨false, by rfl, by simpa using q2 (by simp [isNightsV, *]) H (Same.refl H)⟩
abbrev nm_kept_by : List Str := ["rule", "nights", "found", "ahead", "night", "number"]
abbrev pm_kept_by : List Str := ["rule", "nights"]
abbrev lv_kept_by : Nat := 2
theorem sc_kept_by : FnScope nm_kept_by pm_kept_by (defScope s_kept_by) := ⟨rfl, rfl, rfl, by decide +kernel, rfl, by decide +kernel, by decide +kernel⟩
def sp_kept_by (K : PySem.W.Frag) : Sp := fun vs H Q _ => ∃ (x : V) (ru : List Int × Int) (l : Addr) (ns : List Int), vs = [x, .ref l] ∧ RuleAt H x ru ∧ SqL K H l (ns.map V.int) ∧
  ∀ p H', Same H H' → H p = none → H' p = some (.lst ((keptBy ru ns).map V.int)) → Q (.ref p) H'
def iv_kept_by (x : V) (l p : Addr) (ru : List Int × Int) (ns : List Int) (H : Hp) (i : Nat) (σ : L2.St) (H' : Hp) : Prop :=
  (∃ y4 y5, σ = [some x, some (.ref l), some (.ref p), some (match lastN ru.1 none (ns.reverse.take i) with | none => .non | some k => .int k), y4, y5]) ∧ Same H H' ∧ H' p = some (.lst ((endsR ru.1 none (ns.reverse.take i)).map V.int)) ∧ (endsR ru.1 none (ns.reverse.take i)).length < ru.2.toNat
theorem f_kept_by (T : Txt K mg) : Fk P w K mg base CX0 lv_kept_by "kept_by" pm_kept_by (sp_kept_by K) := by
  obtain ⟨f, fd, F, g, b⟩ := T.d_kept_by.ex
  refine ⟨f, fd, g, F.kp, b, F.ok sc_kept_by (fun vs H Q E h => ?_) (fun cdv A outer s H vs Q E hr h => ?_)⟩
  · obtain ⟨x, ru, l, ns, rfl, _⟩ := h; rfl
  · obtain ⟨x, ru, l, ns, rfl, hx, hl, q⟩ := h
    refine ⟨_, (pss_cons (ps_set (i := 2) sc_kept_by.nd rfl (.inl rfl) (pe_lst pa_nil))
      (pss_cons (ps_set (i := 3) sc_kept_by.nd rfl (.inl rfl) pe_non)
      (pss_cons (ps_for PassesOwn.never rfl (pi_reversed (by rfl) T.b_reversed (pa_cons (pv 1) pa_nil)) (pg_name (i := 4) sc_kept_by.nd rfl (Or.inl rfl)) (pss_cons (ps_set (i := 5) sc_kept_by.nd rfl (.inl rfl) (pe_fn (f_number_of T) (hr.mono (by decide)) (by rfl) pass0 (pa_cons (pe_ix ix_tup (pv 0) pe_int (fun _ _ => rfl)) (pa_cons (pv 4) pa_nil))))
      (pss_cons (ps_if (pt_cmpR op_ne (pv 5) (pv 3) (nomark _)) (pss_cons (ps_expr (pe_bm PySem.F.plainAttrs_list PySem.F.slot_list_append PySem.F.type_list_append mt_append (pv 2) (pa_cons (pv 4) pa_nil)))
      (pss_one (ps_set (i := 3) sc_kept_by.nd rfl (.inl rfl) (pv 5)))) pss_nil)
      (pss_one (ps_if (pt_cmpR op_eq (pe_callB call_len_seq (by rfl) T.b_len PySem.boot_len (pa_cons (pv 2) pa_nil)) (pe_ix ix_tup (pv 0) pe_int (fun _ _ => rfl)) (nomark _)) (pss_one (ps_ret (pv 2))) pss_nil)))))
      (pss_one (ps_ret (pv 2)))))), ?_⟩
    with_reducible refine seq_k fun K_ hK_ => ?_
    walk_at "rs"
    intro p hp
    walk_at "rs"
    subst hK_
    first | with_reducible refine seq_k fun K_ hK_ => ?_ | skip
    walk_at "rs"
    walk_at "rs"
    subst hK_
    first | with_reducible refine seq_k fun K_ hK_ => ?_ | skip
    walk_at "rs"
    have sP : Same H (upd H p (.lst [])) := same_upd hp
    obtain ⟨bx, rx, rfl, hbx, hrx, m1, m20⟩ := id hx
    have hM : (ns.map V.int).length = ns.length := List.length_map _
    refine ⟨_, rfl, l, ns.map V.int, rfl, sP.seq hl, for_it walk_rev (iv_kept_by (.ref bx) l p ru ns H)
      ⟨⟨none, none, by simp [lastN]⟩, sP, by rw [upd_same]; simp [endsR], by simp [endsR]; omega⟩ (fun i σ H5 _ p => p.2.1.seq hl) ?_ ?_⟩
    · rintro i v σ H5 H6 hi ⟨⟨y4, y5, rfl⟩, s5, hp5, hc5⟩ ⟨rfl, hv⟩
      rw [hM] at hi hv
      obtain ⟨n, hn, rfl⟩ : ∃ n, ns.reverse[i]? = some n ∧ v = .int n := by
        rw [List.getElem?_map] at hv
        rw [List.getElem?_reverse hi]
        cases e : ns[ns.length - 1 - i]? with
        | none => rw [e] at hv; cases hv
        | some n => rw [e] at hv; cases hv; exact ⟨n, rfl, rfl⟩
      have ht := take_next hn
      have hsn := endsR_snoc ru.1 (ns.reverse.take i) none n
      rw [← ht] at hsn
      have hln := lastN_snoc ru.1 none (ns.reverse.take i) n
      rw [← ht] at hln
      walk_at "rs"
      with_reducible refine seq_k fun K_ hK_ => ?_
      walk_at "rs"
      refine ixT (j := 0) (sqT (s5 _ _ hbx)) rfl rfl ?_
      refine ⟨rx, ru.1, n, rfl, hrx.same s5, ?_⟩
      walk_at "rs"
      subst hK_
      first | with_reducible refine seq_k fun K_ hK_ => ?_ | skip
      walk_at "rs"
      -- behind the test both ways meet
      have meet : ∀ (H7 : Hp), Same H H7 → H7 p = some (.lst ((endsR ru.1 none (ns.reverse.take (i + 1))).map V.int)) →
          K_ [some (.ref bx), some (.ref l), some (.ref p), some (.int (numOf ru.1 n)), some (.int n), some (.int (numOf ru.1 n))] H7 := by
        intro H7 s7 hp7
        walk_at "rs"
        subst hK_
        first | with_reducible refine seq_k fun K_ hK_ => ?_ | skip
        walk_at "rs"
        have hle : (endsR ru.1 none (ns.reverse.take (i + 1))).length ≤ ru.2.toNat := by
          rw [hsn, List.length_append]
          split <;> simp <;> omega
        refine ⟨_, .inl (sqL hp7), ?_⟩
        refine ixT (j := 1) (sqT (s7 _ _ hbx)) rfl rfl ?_
        walk_at "rs"
        rw [List.length_map]
        refine ite2 (fun c => ?_) (fun c => ?_)
        · refine q p H7 s7 hp ?_
          have hpre : ∃ t, endsR ru.1 none ns.reverse = endsR ru.1 none (ns.reverse.take (i + 1)) ++ t := by
            have := endsR_pre ru.1 none (ns.reverse.drop (i + 1)) (ns.reverse.take (i + 1))
            rwa [List.take_append_drop] at this
          have e := take_prefix hpre (k := ru.2.toNat) (by omega)
          unfold keptBy
          rw [← e]
          exact hp7
        · refine ⟨⟨some (.int n), some (.int (numOf ru.1 n)), ?_⟩, s7, hp7, by omega⟩
          rw [hln]
      by_cases c : lastN ru.1 none (ns.reverse.take i) = some (numOf ru.1 n)
      · rw [c]
        walk_at "rs"
        simp only [not_true_eq_false, if_false]
        rw [if_pos c, List.append_nil] at hsn
        exact meet H6 s5 (by rw [hsn]; exact hp5)
      · rw [if_neg c] at hsn
        have go : ∀ (bk ct : L2.St → Hp → Prop) (v : V), tSeq (tDrop (tBM K "list" rAppend (tVar 2) (tCons (tVar 4) tNil))) (tAsg (tVar 5) (gName 3)) { nx := K_, rt := Q, bk := bk, ct := ct }
            [some (.ref bx), some (.ref l), some (.ref p), some v, some (.int n), some (.int (numOf ru.1 n))] H6 := by
          intro bk ct v
          with_reducible refine seq_k fun K_ hK_ => ?_
          walk_at "rs"
          refine app hp5 (by simp; omega) ?_
          walk_at "rs"
          subst hK_
          first | with_reducible refine seq_k fun K_ hK_ => ?_ | skip
          walk_at "rs"
          refine meet _ (Same.app s5 hp) ?_
          rw [upd_same, hsn, List.map_append]; rfl
        cases e : lastN ru.1 none (ns.reverse.take i) with
        | none =>
          walk_at "rs"
          exact go _ _ _
        | some k =>
          walk_at "rs"
          rw [if_pos (fun z => c (by rw [e, z]))]
          exact go _ _ _
    · rintro σ H5 ⟨⟨y4, y5, rfl⟩, s5, hp5, hc5⟩
      rw [hM] at hp5 hc5
      rw [List.take_of_length_le (by simp)] at hp5 hc5
      walk_at "rs"
      subst hK_
      first | with_reducible refine seq_k fun K_ hK_ => ?_ | skip
      walk_at "rs"
      refine q p H5 s5 hp ?_
      unfold keptBy
      rw [List.take_of_length_le (by omega)]
      exact hp5
end
end Nk
namespace Nk
open PySem L2
section
variable {P : Program} {w : World} {K : PySem.W.Frag} {mg : Str → Option Value} {base : Heap}
/-- a dict whose keys are the whole numbers ks -/
structure IK (kvs : List (Key × V)) (ks : List Int) : Prop where
  keys : kvs.map (·.1) = ks.map Sum.inl
  nd : ks.Nodup
theorem IK.len {kvs : List (Key × V)} {ks : List Int} (h : IK kvs ks) : kvs.length = ks.length := by
  have := congrArg List.length h.keys
  simpa using this
theorem putK_old {kvs : List (Key × V)} {k : Key} {v : V} (h : (valV kvs k).isSome = true) : (putK kvs k v).map (·.1) = kvs.map (·.1) := by
  have ha : (kvs.any fun kv => decide (kv.1 = k)) = true := by rw [valV_any]; exact h
  unfold putK
  rw [if_pos ha, List.map_map]
  congr 1
  funext p
  simp only [Function.comp]
  split <;> rfl
theorem ik_put {kvs : List (Key × V)} {ks : List Int} (h : IK kvs ks) (n : Int) (v : V) : ∃ ks', IK (putK kvs (.inl n) v) ks' ∧ (∀ m, m ∈ ks' ↔ m ∈ ks ∨ m = n) ∧ ks'.length ≤ ks.length + 1 := by
  have memK : ∀ m : Int, (Sum.inl m : Key) ∈ kvs.map (·.1) ↔ m ∈ ks := fun m => by
    rw [h.keys, List.mem_map]
    constructor
    · rintro ⟨a, ha, e⟩
      cases e
      exact ha
    · intro hm
      exact ⟨m, hm, rfl⟩
  cases e : valV kvs (Sum.inl n : Key) with
  | some x =>
    refine ⟨ks, ⟨by rw [putK_old (by rw [e]; rfl)]; exact h.keys, h.nd⟩, fun m => ⟨.inl, fun hm => ?_⟩, by omega⟩
    rcases hm with hm | rfl
    · exact hm
    · exact (memK _).mp (valV_in e)
  | none =>
    have hn : n ∉ ks := fun z => valV_not e ((memK n).mpr z)
    refine ⟨ks ++ [n], ⟨?_, nd_snoc h.nd hn⟩, fun m => by simp, by simp⟩
    rw [putK_new _ e, List.map_append, List.map_append, h.keys]
    rfl
theorem keptBy_len {ru : List Int × Int} {ns : List Int} (h : ru.2 ≤ 20) : (keptBy ru ns).length ≤ 20 := by
  unfold keptBy
  rw [List.length_take]
  omega
abbrev nm_kept_of : List Str := ["rules", "nights", "found", "rule", "night"]
abbrev pm_kept_of : List Str := ["rules", "nights"]
abbrev lv_kept_of : Nat := 3
theorem sc_kept_of : FnScope nm_kept_of pm_kept_of (defScope s_kept_of) := ⟨rfl, rfl, rfl, by decide +kernel, rfl, by decide +kernel, by decide +kernel⟩
def sp_kept_of (K : PySem.W.Frag) : Sp := fun vs H Q _ => ∃ (a l : Addr) (rus : List (List Int × Int)) (ns : List Int), vs = [.ref a, .ref l] ∧ RulesAt H a rus ∧ SqL K H l (ns.map V.int) ∧ ns.Pairwise (· < ·) ∧
  ∀ p H', Same H H' → H p = none → H' p = some (.lst ((keptF rus ns).map V.int)) → Q (.ref p) H'
def iv_kept_of (a l d : Addr) (rus : List (List Int × Int)) (ns : List Int) (H : Hp) (i : Nat) (σ : L2.St) (H' : Hp) : Prop :=
  (∃ y3 y4, σ = [some (.ref a), some (.ref l), some (.ref d), y3, y4]) ∧ Same H H' ∧ ∃ kvs ks, H' d = some (.dK kvs) ∧ IK kvs ks ∧ ks.length ≤ 20 * i ∧ ∀ m, m ∈ ks ↔ ∃ ru ∈ rus.take i, m ∈ keptBy ru ns
def iv_kept_of2 (a l d p : Addr) (x : V) (kb : List Int) (ks0 : List Int) (H : Hp) (i : Nat) (j : Nat) (σ : L2.St) (H' : Hp) : Prop :=
  (∃ y4, σ = [some (.ref a), some (.ref l), some (.ref d), some x, y4]) ∧ Same H H' ∧ H' p = some (.lst (kb.map V.int)) ∧ ∃ kvs ks, H' d = some (.dK kvs) ∧ IK kvs ks ∧ ks.length ≤ 20 * i + j ∧ ∀ m, m ∈ ks ↔ m ∈ ks0 ∨ m ∈ kb.take j
theorem f_kept_of (T : Txt K mg) : Fk P w K mg base CX0 lv_kept_of "kept_of" pm_kept_of (sp_kept_of K) := by
  obtain ⟨f, fd, F, g, b⟩ := T.d_kept_of.ex
  refine ⟨f, fd, g, F.kp, b, F.ok sc_kept_of (fun vs H Q E h => ?_) (fun cdv A outer s H vs Q E hr h => ?_)⟩
  · obtain ⟨a, l, rus, ns, rfl, _⟩ := h; rfl
  · obtain ⟨a, l, rus, ns, rfl, hR, hl, hrise, q⟩ := h
    have hu := hu_of hr
    refine ⟨_, (pss_cons (ps_set (i := 2) sc_kept_of.nd rfl (.inl rfl) pe_dnewK)
      (pss_cons (ps_for PassesOwn.never rfl (pi_tup (pv 0)) (pg_name (i := 3) sc_kept_of.nd rfl (Or.inl rfl)) (pss_one (ps_for PassesOwn.never rfl (pi_list (pe_fn (f_kept_by T) (hr.mono (by decide)) (by rfl) pass0 (pa_cons (pv 3) (pa_cons (pv 1) pa_nil)))) (pg_name (i := 4) sc_kept_of.nd rfl (Or.inl rfl)) (pss_one (ps_dput hu (pv 2) (pv 4) pe_bl rfl)))))
      (pss_one (ps_ret (pe_callB (cr_sortedKI rfl) (by rfl) T.b_sorted (by decide +kernel) (pa_cons (pe_bm0 PySem.F.plainAttrs_dict PySem.F.slot_dict_keys PySem.F.type_dict_keys mt_keys (pv 2)) pa_nil)))))), ?_⟩
    with_reducible refine seq_k fun K_ hK_ => ?_
    walk_at "rs"
    intro d hd
    walk_at "rs"
    subst hK_
    first | with_reducible refine seq_k fun K_ hK_ => ?_ | skip
    walk_at "rs"
    have sD : Same H (upd H d (.dK [])) := same_upd hd
    obtain ⟨xs, ha, hxl, hxr⟩ := hR.ex
    have hl5 := hR.l5
    refine ⟨_, rfl, a, rfl, ⟨_, sqT (sD _ _ ha)⟩, for_tup (K := K) (a := a) (xs := xs) (iv_kept_of a l d rus ns H)
      ⟨⟨none, none, rfl⟩, sD, [], [], upd_same, ⟨rfl, List.nodup_nil⟩, by simp, fun m => by simp⟩ (fun i σ H5 _ p => sqT (p.2.1 _ _ ha)) ?_ ?_⟩
    · rintro i x σ H5 hx ⟨⟨y3, y4, rfl⟩, s5, kvs, ks, hd5, hik, hkl, hmem⟩
      obtain ⟨ru, hru, hxa⟩ := hxr i x hx
      have hi5 := lt_of_get hru
      have hru20 : ru.2 ≤ 20 := by obtain ⟨_, _, _, _, _, _, z⟩ := hxa; exact z
      walk_at "rs"
      refine ⟨_, rfl, _, rfl, x, ru, l, ns, rfl, hxa.same s5, s5.seq hl, fun p H6 s6 hp6 hP => ?_⟩
      have hpd : p ≠ d := fun e => by rw [e, hd5] at hp6; cases hp6
      have hkb := keptBy_len (ns := ns) hru20
      refine ⟨p, rfl, ⟨_, sqL hP⟩, for_list (K := K) (a := p) (xs := (keptBy ru ns).map V.int) (iv_kept_of2 a l d p x (keptBy ru ns) ks H i)
        ⟨⟨_, rfl⟩, s5.trans s6, hP, kvs, ks, s6 _ _ hd5, hik, by omega, fun m => by simp⟩ (fun j σ H7 _ p => sqL p.2.2.1) ?_ ?_⟩
      · rintro j y σ H7 hy ⟨⟨y4, rfl⟩, s7, hp7, kvs7, ks7, hd7, hik7, hkl7, hmem7⟩
        rw [List.getElem?_map] at hy
        cases e : (keptBy ru ns)[j]? with
        | none => rw [e] at hy; cases hy
        | some n =>
          rw [e] at hy
          cases hy
          have hj := lt_of_get e
          have hkl := hik7.len
          walk_at "rs"
          obtain ⟨ks8, h1, h2, h3⟩ := ik_put hik7 n (.bl true)
          refine ⟨_, DPut.k (k := Sum.inl n) hd7 (szl (by omega)), ?_⟩
          refine ⟨⟨_, rfl⟩, Same.app s7 hd, by rw [upd_ne hpd]; exact hp7, _, ks8, upd_same, h1, by omega, fun m => ?_⟩
          rw [h2, hmem7, take_next e, List.mem_append, List.mem_singleton, or_assoc]
      · rintro σ H7 ⟨⟨y4, rfl⟩, s7, hp7, kvs7, ks7, hd7, hik7, hkl7, hmem7⟩
        rw [List.length_map] at hkl7
        refine ⟨⟨_, _, rfl⟩, s7, kvs7, ks7, hd7, hik7, by omega, fun m => ?_⟩
        rw [hmem7, List.length_map, List.take_length, hmem, take_next hru]
        constructor
        · rintro (⟨r, h1, h2⟩ | h)
          · exact ⟨r, List.mem_append_left _ h1, h2⟩
          · exact ⟨ru, List.mem_append_right _ List.mem_cons_self, h⟩
        · rintro ⟨r, h1, h2⟩
          rcases List.mem_append.mp h1 with h1 | h1
          · exact .inl ⟨r, h1, h2⟩
          · rw [List.mem_singleton.mp h1] at h2
            exact .inr h2
    · rintro σ H5 ⟨⟨y3, y4, rfl⟩, s5, kvs, ks, hd5, hik, hkl, hmem⟩
      rw [hxl, List.take_length] at hmem
      walk_at "rs"
      subst hK_
      first | with_reducible refine seq_k fun K_ hK_ => ?_ | skip
      walk_at "rs"
      refine ⟨.inr (.inr (.inl ⟨rfl, .inl ⟨_, hd5⟩⟩)), ?_⟩
      refine ⟨d, kvs, rfl, rfl, hd5, fun v hv => ?_⟩
      have s6 := s5.trans (same_upd (o := KeysO v d) hv)
      refine ⟨v, d, kvs, ks, rfl, upd_same, (same_upd hv) _ _ hd5, hik.keys, fun ys p hperm hsort hp => ?_⟩
      refine q p _ (s6.trans (same_upd hp)) (s6.free hp) ?_
      rw [upd_same]
      have e : ys = keptF rus ns := rise_ext (rise_of_le hsort (hperm.nodup_iff.mpr hik.nd)) (keptF_rise hrise) fun m => by
        rw [hperm.mem_iff, hmem, mem_keptF]
      rw [e]
theorem lst_thing {H : Hp} {l : Addr} {ns : List Int} (hl : H l = some (.lst (ns.map V.int))) (hz : ns.length ≤ 100000) : DT K H 1 (.ref l) := by
  refine ⟨⟨_, .lst hl⟩, fun a xs e ha => ?_⟩
  cases e
  rw [hl] at ha
  rcases ha with z | z <;> cases z
  refine ⟨by simpa using hz, fun y hy => ?_⟩
  obtain ⟨i, _, rfl⟩ := List.mem_map.mp hy
  exact ⟨_, .int i⟩
theorem nights_is {H : Hp} {l : Addr} {ns : List Int} (hl : H l = some (.lst (ns.map V.int))) (hz : ns.length ≤ 100) (hr : ns.Pairwise (· < ·)) (hb : ∀ n ∈ ns, 0 ≤ n ∧ n ≤ 1000000000) : isNightsV H (.ref l) = true := by
  have h1 : riseV (ns.map V.int) = true := (riseV_ints ns).mpr hr
  have h2 : (ns.map V.int).all (fun y => isNumV y 0 (.int 1000000000)) = true := by
    rw [List.all_eq_true]
    intro y hy
    obtain ⟨i, hi, rfl⟩ := List.mem_map.mp hy
    have := hb i hi
    simp [isNumV, this]
  simp only [isNightsV, hl, h1, h2, List.length_map, hz, decide_true, Bool.and_true]
end
end Nk
namespace Nk
open PySem L2
section
variable {P : Program} {w : World} {K : PySem.W.Frag} {mg : Str → Option Value} {base : Heap}
/-- values and the rules that stand there -/
def RuleVs (H : Hp) (xs : List V) (rus : List (List Int × Int)) : Prop := xs.length = rus.length ∧ ∀ (i : Nat) x, xs[i]? = some x → ∃ ru, rus[i]? = some ru ∧ RuleAt H x ru
theorem RuleVs.same {H H' : Hp} {xs : List V} {rus : List (List Int × Int)} (h : RuleVs H xs rus) (s : Same H H') : RuleVs H' xs rus :=
  ⟨h.1, fun i x hx => by obtain ⟨ru, e, r⟩ := h.2 i x hx; exact ⟨ru, e, r.same s⟩⟩
theorem RuleVs.but {H H' : Hp} {t : Addr} {l : List V} {xs : List V} {rus : List (List Int × Int)} (h : RuleVs H xs rus) (s : But t H H') (ht : H t = some (.lst l)) : RuleVs H' xs rus :=
  ⟨h.1, fun i x hx => by obtain ⟨ru, e, r⟩ := h.2 i x hx; exact ⟨ru, e, r.but s ht⟩⟩
theorem RuleVs.snoc {H : Hp} {xs : List V} {rus : List (List Int × Int)} {x : V} {ru : List Int × Int} (h : RuleVs H xs rus) (r : RuleAt H x ru) : RuleVs H (xs ++ [x]) (rus ++ [ru]) := by
  refine ⟨by simp [h.1], fun i y hy => ?_⟩
  by_cases c : i < xs.length
  · rw [List.getElem?_append_left c] at hy
    obtain ⟨ru', e, r'⟩ := h.2 i y hy
    exact ⟨ru', by rw [List.getElem?_append_left (by rw [← h.1]; exact c)]; exact e, r'⟩
  · have hi : i = xs.length := by
      have := lt_of_get hy
      simp at this
      omega
    subst hi
    have e1 : (xs ++ [x])[xs.length]? = some x := by simp
    rw [e1] at hy
    cases hy
    refine ⟨ru, ?_, r⟩
    rw [h.1]
    simp
theorem RuleVs.set {H : Hp} {xs : List V} {rus : List (List Int × Int)} {x : V} {ru : List Int × Int} (h : RuleVs H xs rus) (r : RuleAt H x ru) (j : Nat) : RuleVs H (xs.set j x) (rus.set j ru) := by
  refine ⟨by simp [h.1], fun i y hy => ?_⟩
  have hl := lt_of_get hy
  rw [List.length_set] at hl
  by_cases c : i = j
  · subst c
    rw [List.getElem?_set_self hl] at hy
    cases hy
    exact ⟨ru, List.getElem?_set_self (by rw [← h.1]; exact hl), r⟩
  · rw [List.getElem?_set_ne (fun z => c z.symm)] at hy
    obtain ⟨ru', e, r'⟩ := h.2 i y hy
    exact ⟨ru', by rw [List.getElem?_set_ne (fun z => c z.symm)]; exact e, r'⟩
theorem RuleVs.at_ {H : Hp} {a : Addr} {xs : List V} {rus : List (List Int × Int)} (h : RuleVs H xs rus) (ha : H a = some (.tup xs)) (h1 : 1 ≤ rus.length) (h5 : rus.length ≤ 5) : RulesAt H a rus := ⟨⟨xs, ha, h.1, h.2⟩, h1, h5⟩
/-- how great a rule is -/
def RuleLe (long top mm : Int) (ru : List Int × Int) : Prop := (ru.1.length : Int) ≤ long ∧ (∀ r ∈ ru.1, r ≤ top) ∧ ru.2 ≤ mm
abbrev nm__law_rules : List Str := ["script", "town", "many", "long", "top", "most_many", "count", "found", "k"]
abbrev pm__law_rules : List Str := ["script", "town", "many", "long", "top", "most_many"]
abbrev lv__law_rules : Nat := 3
theorem sc__law_rules : FnScope nm__law_rules pm__law_rules (defScope s__law_rules) := ⟨rfl, rfl, rfl, by decide +kernel, rfl, by decide +kernel, by decide +kernel⟩
def sp__law_rules (K : PySem.W.Frag) : Sp := fun vs H Q _ => ∃ (a t : Addr) (ns : List Int) (c : Nat) (many long top mm : Int), vs = [.ref a, .ref t, .int many, .int long, .int top, .int mm] ∧ Tn K H a t ns c ∧ c < 900000000 ∧ 0 < many ∧ many ≤ 1000 ∧ 0 < long ∧ long ≤ 12 ∧ 0 < top ∧ top ≤ 31 ∧ 0 < mm ∧ mm ≤ 20 ∧
  ∀ (rus : List (List Int × Int)) (xs : List V) (p : Addr) (c' : Nat) (H' : Hp), 1 ≤ rus.length → (rus.length : Int) ≤ many → (∀ ru ∈ rus, RuleLe long top mm ru) → H p = none → H' p = some (.tup xs) → RuleVs H' xs rus → c' ≤ c + 2 + 14 * many.toNat → Tn K H' a t ns c' → But t H H' → Q (.ref p) H'
def iv__law_rules (K : PySem.W.Frag) (a t p : Addr) (ns : List Int) (c : Nat) (many long top mm count : Int) (H : Hp) (i : Nat) (σ : L2.St) (H' : Hp) : Prop :=
  ∃ (y8 : Option V) (xs : List V) (rus : List (List Int × Int)) (c' : Nat), σ = [some (.ref a), some (.ref t), some (.int many), some (.int long), some (.int top), some (.int mm), some (.int count), some (.ref p), y8] ∧
    H' p = some (.lst xs) ∧ xs.length = i ∧ RuleVs H' xs rus ∧ (∀ ru ∈ rus, RuleLe long top mm ru) ∧ Tn K H' a t ns c' ∧ c' ≤ c + 1 + 14 * i ∧ But t H H'
theorem f__law_rules (T : Txt K mg) : Fk P w K mg base CX0 lv__law_rules "_law_rules" pm__law_rules (sp__law_rules K) := by
  obtain ⟨f, fd, F, g, b⟩ := T.d__law_rules.ex
  refine ⟨f, fd, g, F.kp, b, F.ok sc__law_rules (fun vs H Q E h => ?_) (fun cdv A outer s H vs Q E hr h => ?_)⟩
  · obtain ⟨a, t, ns, c, many, long, top, mm, rfl, _⟩ := h; rfl
  · obtain ⟨a, t, ns, c, many, long, top, mm, rfl, hT, hc, m0, m1, l0, l1, t0, t1, mm0, mm1, q⟩ := h
    refine ⟨_, (pss_cons (ps_set (i := 6) sc__law_rules.nd rfl (.inl rfl) (pe_op op_add pe_int (pe_fn (f__law_draw T) (hr.mono (by decide)) (by rfl) pass0 (pa_cons (pv 0) (pa_cons (pv 1) (pa_cons (pv 2) pa_nil))))))
      (pss_cons (ps_set (i := 7) sc__law_rules.nd rfl (.inl rfl) (pe_lst pa_nil))
      (pss_cons (ps_for PassesOwn.never rfl (pi_range1 (by rfl) T.b_range (pa_cons (pv 6) pa_nil)) (pg_name (i := 8) sc__law_rules.nd rfl (Or.inl rfl)) (pss_one (ps_expr (pe_bm PySem.F.plainAttrs_list PySem.F.slot_list_append PySem.F.type_list_append mt_append (pv 7) (pa_cons (pe_tup (pa_cons (pe_fn (f__law_rounds T) (hr.mono (by decide)) (by rfl) pass0 (pa_cons (pv 0) (pa_cons (pv 1) (pa_cons (pv 3) (pa_cons (pv 4) pa_nil))))) (pa_cons (pe_op op_add pe_int (pe_fn (f__law_draw T) (hr.mono (by decide)) (by rfl) pass0 (pa_cons (pv 0) (pa_cons (pv 1) (pa_cons (pv 5) pa_nil))))) pa_nil))) pa_nil)))))
      (pss_cons (ps_if (PW.pt (pw_and (pt_cmpR op_gt (pv 6) pe_int (nomark _)) (pw_and1 (pt_cmpR op_eq (pe_fn (f__law_draw T) (hr.mono (by decide)) (by rfl) pass0 (pa_cons (pv 0) (pa_cons (pv 1) (pa_cons pe_int pa_nil)))) pe_int (nomark _))))) (pss_one (ps_asg (pe_ix ix_list (pv 7) pe_int (fun _ _ => rfl)) (pg_sub (pv 7) (pe_op op_sub (pv 6) pe_int) set_list))) pss_nil)
      (pss_one (ps_ret (pe_callTy call_tuple_of (by rfl) T.b_tuple (by decide +kernel) (pa_cons (pv 7) pa_nil)))))))), ?_⟩
    with_reducible refine seq_k fun K_ hK_ => ?_
    walk_at "rs"
    refine ⟨a, t, ns, c, many, rfl, hT, by omega, m0, by omega, fun d H1 d0 d1 T1 b1 => ?_⟩
    walk_at "rs"
    subst hK_
    first | with_reducible refine seq_k fun K_ hK_ => ?_ | skip
    walk_at "rs"
    intro p hp
    have hpt : p ≠ t := T1.some_ hp
    have hpH : H p = none := by
      cases e : H p with
      | none => rfl
      | some o => rw [b1 _ _ e hpt] at hp; cases hp
    walk_at "rs"
    subst hK_
    first | with_reducible refine seq_k fun K_ hK_ => ?_ | skip
    walk_at "rs"
    refine ⟨_, rfl, 1 + d, rfl, by omega, by omega, for_range (lo := 0) (n := (1 + d).toNat) (iv__law_rules K a t p ns c many long top mm (1 + d) H)
      ⟨none, [], [], c + 1, rfl, upd_same, rfl, ⟨rfl, fun i x hx => by simp at hx⟩, fun ru hru => by simp at hru, T1.same (same_upd hp), by omega, b1.thenS (same_upd hp)⟩ ?_ ?_⟩
    · rintro i σ H5 hi ⟨y8, xs, rus, c5, rfl, hp5, hl5, hv5, hle5, T5, hc5, b5⟩
      walk_at "rs"
      refine ⟨tyL hp5, a, t, ns, c5, long, top, rfl, T5, by omega, l0, by omega, t0, by omega, fun rs r c6 H6 r1 r2 hrs hr5 hr6 hc6 T6 b6 => ?_⟩
      refine ⟨a, t, ns, c6, mm, rfl, T6, by omega, mm0, by omega, fun e H7 e0 e1 T7 b7 => ?_⟩
      walk_at "rs"
      intro x hx
      obtain ⟨l5, hl5'⟩ := T5.lst
      obtain ⟨l6, hl6'⟩ := T6.lst
      have R6 : RndsAt H6 r rs := ⟨hr6, ⟨List.length_pos_iff.mp (by omega), fun z hz => (hrs z hz).1⟩, fun z hz => by have := hrs z hz; omega, by omega⟩
      have R8 := (R6.but b7 hl6').same (same_upd (o := .tup [.ref r, .int (1 + e)]) hx)
      have hp7 := b7 _ _ (b6 _ _ hp5 hpt) hpt
      have hpx : p ≠ x := ne_of_none hp7 hx
      have s8 : Same H7 (upd H7 x (.tup [.ref r, .int (1 + e)])) := same_upd hx
      have hv8 : RuleVs (upd H7 x (.tup [.ref r, .int (1 + e)])) xs rus := ((hv5.but b6 hl5').but b7 hl6').same s8
      have hx8 : RuleAt (upd H7 x (.tup [.ref r, .int (1 + e)])) (.ref x) (rs, 1 + e) := ⟨x, r, rfl, upd_same, R8, by show 1 ≤ 1 + e; omega, by show 1 + e ≤ 20; omega⟩
      have b8 : But t H (upd H7 x (.tup [.ref r, .int (1 + e)])) := ((b5.trans b6).trans b7).thenS s8
      have T8 := T7.same s8
      have hp8 := s8 _ _ hp7
      revert hv8 hx8 b8 T8 hp8
      generalize upd H7 x (.tup [.ref r, .int (1 + e)]) = H8
      intro hv8 hx8 b8 T8 hp8
      refine appR hp8 (by omega) ?_
      have sN : But p H8 (upd H8 p (.lst (xs ++ [.ref x]))) := But.upd
      have hv9 : RuleVs (upd H8 p (.lst (xs ++ [.ref x]))) (xs ++ [.ref x]) (rus ++ [(rs, 1 + e)]) := (hv8.snoc hx8).but sN hp8
      refine ⟨_, xs ++ [.ref x], rus ++ [(rs, 1 + e)], c6 + 1, rfl, upd_same, by simp [hl5], hv9, ?_, ?_, by omega, ?_⟩
      · intro ru hru
        rcases List.mem_append.mp hru with h | h
        · exact hle5 ru h
        · rw [List.mem_singleton.mp h]
          exact ⟨r2, fun z hz => (hrs z hz).2, by show 1 + e ≤ mm; omega⟩
      · exact T8.app hT hpH hpt
      · intro z o hz hzt
        rw [upd_ne (ne_of_none hz hpH)]
        exact b8 _ _ hz hzt
    · rintro σ H5 ⟨y8, xs, rus, c5, rfl, hp5, hl5, hv5, hle5, T5, hc5, b5⟩
      have fin : ∀ (H6 : Hp) (xs : List V) (rus : List (List Int × Int)) (c6 : Nat), 1 ≤ rus.length → (rus.length : Int) ≤ many → H6 p = some (.lst xs) → RuleVs H6 xs rus → (∀ ru ∈ rus, RuleLe long top mm ru) → Tn K H6 a t ns c6 → c6 ≤ c + 2 + 14 * many.toNat → But t H H6 →
          tRet (tCB (fun xs H Q => ∃ p ys, xs = [V.ref p] ∧ ((SqL K H p ys ∧ ∀ l, H l = none → Q (V.ref l) (upd H l (.tup ys))) ∨ (SqT K H p ys ∧ Q (V.ref p) H))) (tCons (tVar 7) tNil)) { nx := fun x H' => Q V.non H', rt := Q }
            [some (.ref a), some (.ref t), some (.int many), some (.int long), some (.int top), some (.int mm), some (.int (1 + d)), some (.ref p), y8] H6 := by
        intro H6 xs rus c6 n1 n2 hp6 hv6 hle6 T6 hc6 b6
        walk_at "rs"
        refine ⟨xs, .inl ⟨sqL hp6, fun z hz => ?_⟩⟩
        refine q rus xs z c6 _ n1 n2 hle6 ?_ upd_same (hv6.same (same_upd hz)) hc6 (T6.same (same_upd hz)) (b6.thenS (same_upd hz))
        cases e : H z with
        | none => rfl
        | some o => rw [b6 _ _ e (T6.some_ hz)] at hz; cases hz
      have hrl : rus.length = (1 + d).toNat := by rw [← hv5.1, hl5]
      walk_at "rs"
      subst hK_
      first | with_reducible refine seq_k fun K_ hK_ => ?_ | skip
      walk_at "rs"
      refine ite2 (fun c1 => ?_) (fun c1 => ?_)
      · refine ⟨a, t, ns, c5, 6, rfl, T5, by omega, by decide, by decide, fun e H6 e0 e1 T6 b6 => ?_⟩
        obtain ⟨l5, hl5'⟩ := T5.lst
        have hp6 := b6 _ _ hp5 hpt
        have hv6 := hv5.but b6 hl5'
        walk_at "rs"
        refine ite2 (fun c2 => ?_) (fun c2 => ?_)
        · have hx0 : xs[0]? = some (xs[0]'(by omega)) := List.getElem?_eq_getElem (by omega)
          obtain ⟨ru0, hru0, hr0⟩ := hv6.2 0 _ hx0
          refine ixL (j := 0) (sqL hp6) rfl hx0 ?_
          refine setL (j := xs.length - 1) hp6 (by omega) (by omega) ?_
          have sN : But p H6 (upd H6 p (.lst (xs.set (xs.length - 1) (xs[0]'(by omega))))) := But.upd
          subst hK_
          refine fin _ (xs.set (xs.length - 1) (xs[0]'(by omega))) (rus.set (xs.length - 1) ru0) (c5 + 1) (by simp; omega) (by simp; omega) upd_same ((hv6.set hr0 _).but sN hp6) ?_ ?_ (by omega) ?_
          · intro ru hru
            rcases List.mem_or_eq_of_mem_set hru with h | h
            · exact hle5 ru h
            · rw [h]
              exact hle5 ru0 (mem_of_get hru0)
          · exact T6.app hT hpH hpt
          · intro z o hz hzt
            rw [upd_ne (ne_of_none hz hpH)]
            exact b6 _ _ (b5 _ _ hz hzt) hzt
        · subst hK_
          exact fin _ xs rus (c5 + 1) (by omega) (by omega) hp6 hv6 hle5 T6 (by omega) (b5.trans b6)
      · subst hK_
        exact fin _ xs rus c5 (by omega) (by omega) hp5 hv5 hle5 T5 (by omega) b5
end
end Nk
namespace Nk
open PySem L2
section
variable {P : Program} {w : World} {K : PySem.W.Frag} {mg : Str → Option Value} {base : Heap}
abbrev nm__law_nights : List Str := ["script", "town", "many", "step", "at", "found", "k"]
abbrev pm__law_nights : List Str := ["script", "town", "many", "step"]
abbrev lv__law_nights : Nat := 3
theorem sc__law_nights : FnScope nm__law_nights pm__law_nights (defScope s__law_nights) := ⟨rfl, rfl, rfl, by decide +kernel, rfl, by decide +kernel, by decide +kernel⟩
def sp__law_nights (K : PySem.W.Frag) : Sp := fun vs H Q _ => ∃ (a t : Addr) (ns : List Int) (c : Nat) (many step : Int), vs = [.ref a, .ref t, .int many, .int step] ∧ Tn K H a t ns c ∧ c < 900000000 ∧ 0 ≤ many ∧ many ≤ 1000 ∧ 0 < step ∧ step ≤ 1000 ∧
  ∀ (ms : List Int) (p : Addr) (c' : Nat) (H' : Hp), (ms.length : Int) ≤ many → ms.Pairwise (· < ·) → (∀ n ∈ ms, 0 ≤ n ∧ n ≤ 2 * step + many * (step + 1)) → H p = none → H' p = some (.lst (ms.map V.int)) → c' ≤ c + 2 + 2 * many.toNat → Tn K H' a t ns c' → But t H H' → Q (.ref p) H'
def iv__law_nights (K : PySem.W.Frag) (a t p : Addr) (ns : List Int) (c : Nat) (many step : Int) (H : Hp) (i : Nat) (σ : L2.St) (H' : Hp) : Prop :=
  ∃ (y6 : Option V) (at_ : Int) (ms : List Int) (c' : Nat), σ = [some (.ref a), some (.ref t), some (.int many), some (.int step), some (.int at_), some (.ref p), y6] ∧
    H' p = some (.lst (ms.map V.int)) ∧ ms.length = i ∧ ms.Pairwise (· < ·) ∧ (∀ n ∈ ms, 0 ≤ n ∧ n < at_) ∧ 0 ≤ at_ ∧ at_ ≤ 2 * step + i * (step + 1) ∧ Tn K H' a t ns c' ∧ c' ≤ c + 2 + 2 * i ∧ But t H H'
theorem f__law_nights (T : Txt K mg) : Fk P w K mg base CX0 lv__law_nights "_law_nights" pm__law_nights (sp__law_nights K) := by
  obtain ⟨f, fd, F, g, b⟩ := T.d__law_nights.ex
  refine ⟨f, fd, g, F.kp, b, F.ok sc__law_nights (fun vs H Q E h => ?_) (fun cdv A outer s H vs Q E hr h => ?_)⟩
  · obtain ⟨a, t, ns, c, many, step, rfl, _⟩ := h; rfl
  · obtain ⟨a, t, ns, c, many, step, rfl, hT, hc, m0, m1, s0, s1, q⟩ := h
    refine ⟨_, (pss_cons (ps_set (i := 4) sc__law_nights.nd rfl (.inl rfl) (pe_fn (f__law_draw T) (hr.mono (by decide)) (by rfl) pass0 (pa_cons (pv 0) (pa_cons (pv 1) (pa_cons (pe_op op_add (pe_op op_mul pe_int (pv 3)) pe_int) pa_nil)))))
      (pss_cons (ps_set (i := 5) sc__law_nights.nd rfl (.inl rfl) (pe_lst pa_nil))
      (pss_cons (ps_for PassesOwn.never rfl (pi_range1 (by rfl) T.b_range (pa_cons (pe_fn (f__law_draw T) (hr.mono (by decide)) (by rfl) pass0 (pa_cons (pv 0) (pa_cons (pv 1) (pa_cons (pe_op op_add (pv 2) pe_int) pa_nil)))) pa_nil)) (pg_name (i := 6) sc__law_nights.nd rfl (Or.inl rfl)) (pss_cons (ps_expr (pe_bm PySem.F.plainAttrs_list PySem.F.slot_list_append PySem.F.type_list_append mt_append (pv 5) (pa_cons (pv 4) pa_nil)))
      (pss_one (ps_set (i := 4) sc__law_nights.nd rfl (.inl rfl) (pe_op op_add (pe_op op_add (pv 4) pe_int) (pe_fn (f__law_draw T) (hr.mono (by decide)) (by rfl) pass0 (pa_cons (pv 0) (pa_cons (pv 1) (pa_cons (pe_fn (f__law_pick T) (hr.mono (by decide)) (by rfl) pass0 (pa_cons (pv 0) (pa_cons (pv 1) (pa_cons (pe_lst (pa_cons pe_int (pa_cons pe_int (pa_cons (pv 3) pa_nil)))) pa_nil)))) pa_nil)))))))))
      (pss_one (ps_ret (pv 5)))))), ?_⟩
    with_reducible refine seq_k fun K_ hK_ => ?_
    walk_at "rs"
    refine ⟨.inl ⟨by decide, by decide⟩, a, t, ns, c, 2 * step + 1, rfl, hT, by omega, by omega, by omega, fun d H1 d0 d1 T1 b1 => ?_⟩
    walk_at "rs"
    subst hK_
    first | with_reducible refine seq_k fun K_ hK_ => ?_ | skip
    walk_at "rs"
    intro p hp
    have hpt : p ≠ t := T1.some_ hp
    have hpH := b1.free hp hpt
    walk_at "rs"
    subst hK_
    first | with_reducible refine seq_k fun K_ hK_ => ?_ | skip
    walk_at "rs"
    have T2 := T1.same (same_upd (o := .lst []) hp)
    refine ⟨_, rfl, _, rfl, _, rfl, _, _, rfl, rfl, a, t, ns, c + 1, many + 1, rfl, T2, by omega, by omega, by omega, fun e H2 e0 e1 T3 b2 => ?_⟩
    have hp2 := b2 _ _ (upd_same (H := H1) (a := p) (o := .lst [])) hpt
    have b3 : But t H H2 := (b1.thenS (same_upd hp)).trans b2
    refine ⟨e, rfl, by omega, by omega, for_range (lo := 0) (n := e.toNat) (iv__law_nights K a t p ns c many step H)
      ⟨none, d, [], c + 2, rfl, hp2, rfl, .nil, fun n hn => by simp at hn, d0, by simp; omega, T3, by omega, b3⟩ ?_ ?_⟩
    · rintro i σ H5 hi ⟨y6, at_, ms, c5, rfl, hp5, hl5, hr5, hm5, ha0, ha1, T5, hc5, b5⟩
      walk_at "rs"
      with_reducible refine seq_k fun K_ hK_ => ?_
      walk_at "rs"
      refine app hp5 (by simp; omega) ?_
      have T6 : Tn K (upd H5 p (.lst (ms.map V.int ++ [.int at_]))) a t ns c5 := T5.app hT hpH hpt
      have b6 : But t H (upd H5 p (.lst (ms.map V.int ++ [.int at_]))) := b5.app hpH
      have hp6 : (upd H5 p (.lst (ms.map V.int ++ [.int at_]))) p = some (.lst ((ms ++ [at_]).map V.int)) := by rw [upd_same, List.map_append]; rfl
      revert T6 b6 hp6
      generalize upd H5 p (.lst (ms.map V.int ++ [.int at_])) = H6
      intro T6 b6 hp6
      walk_at "rs"
      subst hK_
      first | with_reducible refine seq_k fun K_ hK_ => ?_ | skip
      walk_at "rs"
      intro z hz
      have hzt := T6.some_ hz
      refine ⟨a, t, z, ns, c5, _, rfl, T6.same (same_upd hz), by omega, upd_same, hzt, by simp, by simp, fun v H7 hv T7 b7 => ?_⟩
      obtain ⟨x, rfl, hx0, hx1⟩ : ∃ x, v = .int x ∧ 0 < x ∧ x ≤ step + 1 := by
        simp only [List.mem_cons, List.not_mem_nil, or_false] at hv
        rcases hv with rfl | rfl | rfl
        · exact ⟨_, rfl, by decide, by omega⟩
        · exact ⟨_, rfl, by decide, by omega⟩
        · exact ⟨_, rfl, by omega, by omega⟩
      refine ⟨a, t, ns, _, x, rfl, T7, by omega, hx0, by omega, fun e2 H8 f0 f1 T8 b8 => ?_⟩
      walk_at "rs"
      have hp8 := b8 _ _ (b7 _ _ ((same_upd hz) _ _ hp6) hpt) hpt
      refine ⟨_, at_ + 1 + e2, ms ++ [at_], c5 + 1 + 1, rfl, hp8, by simp [hl5], ?_, ?_, by omega, ?_, T8, by omega, ((b6.thenS (same_upd hz)).trans b7).trans b8⟩
      · refine List.pairwise_append.mpr ⟨hr5, List.pairwise_singleton _ _, fun x hx y hy => ?_⟩
        rw [List.mem_singleton.mp hy]
        exact (hm5 x hx).2
      · intro n hn
        rcases List.mem_append.mp hn with h | h
        · have := hm5 n h
          omega
        · rw [List.mem_singleton.mp h]
          omega
      · rw [show ((i + 1 : Nat) : Int) = (i : Int) + 1 from rfl, Int.add_mul]
        omega
    · rintro σ H5 ⟨y6, at_, ms, c5, rfl, hp5, hl5, hr5, hm5, ha0, ha1, T5, hc5, b5⟩
      walk_at "rs"
      subst hK_
      first | with_reducible refine seq_k fun K_ hK_ => ?_ | skip
      walk_at "rs"
      refine q ms p c5 H5 (by omega) hr5 (fun n hn => ?_) hpH hp5 (by omega) T5 b5
      have h1 := hm5 n hn
      have h2 : (e.toNat : Int) * (step + 1) ≤ many * (step + 1) := Int.mul_le_mul_of_nonneg_right (by omega) (by omega)
      omega
abbrev nm__law_by : List Str := ["rule", "nights", "rounds", "many", "ends", "k", "night", "number"]
abbrev pm__law_by : List Str := ["rule", "nights"]
abbrev lv__law_by : Nat := 2
theorem sc__law_by : FnScope nm__law_by pm__law_by (defScope s__law_by) := ⟨rfl, rfl, rfl, by decide +kernel, rfl, by decide +kernel, by decide +kernel⟩
def sp__law_by (K : PySem.W.Frag) : Sp := fun vs H Q _ => ∃ (x : V) (ru : List Int × Int) (l : Addr) (ns : List Int), vs = [x, .ref l] ∧ RuleAt H x ru ∧ SqL K H l (ns.map V.int) ∧ ns.length ≤ 10000 ∧
  ∀ p H', Same H H' → H p = none → H' p = some (.lst ((keptUp ru ns).map V.int)) → Q (.ref p) H'
def iv__law_by (x : V) (l r p : Addr) (ru : List Int × Int) (ns : List Int) (H : Hp) (i : Nat) (σ : L2.St) (H' : Hp) : Prop :=
  ∃ (y5 y6 y7 : Option V) (es : List Int), σ = [some x, some (.ref l), some (.ref r), some (.int ru.2), some (.ref p), y5, y6, y7] ∧ Same H H' ∧ H' p = some (.lst (es.map V.int)) ∧ es.length ≤ i ∧ es ++ endsF ru.1 (ns.drop i) = endsF ru.1 ns
theorem f__law_by (T : Txt K mg) : Fk P w K mg base CX0 lv__law_by "_law_by" pm__law_by (sp__law_by K) := by
  obtain ⟨f, fd, F, g, b⟩ := T.d__law_by.ex
  refine ⟨f, fd, g, F.kp, b, F.ok sc__law_by (fun vs H Q E h => ?_) (fun cdv A outer s H vs Q E hr h => ?_)⟩
  · obtain ⟨x, ru, l, ns, rfl, _⟩ := h; rfl
  · obtain ⟨x, ru, l, ns, rfl, hx, hl, hz, q⟩ := h
    obtain ⟨bx, rx, rfl, hbx, hrx, m1, m20⟩ := id hx
    have hM : (ns.map V.int).length = ns.length := List.length_map _
    refine ⟨_, (pss_cons (ps_asg (pv 0) (pg_tup rfl (pgs_cons (pg_name (i := 2) sc__law_by.nd rfl (Or.inl rfl)) (pgs_cons (pg_name (i := 3) sc__law_by.nd rfl (Or.inl rfl)) pgs_nil))))
      (pss_cons (ps_set (i := 4) sc__law_by.nd rfl (.inl rfl) (pe_lst pa_nil))
      (pss_cons (ps_for PassesOwn.never rfl (pi_enum (by rfl) T.b_enumerate (pa_cons (pv 1) pa_nil)) (pg_tup rfl (pgs_cons (pg_name (i := 5) sc__law_by.nd rfl (Or.inl rfl)) (pgs_cons (pg_name (i := 6) sc__law_by.nd rfl (Or.inl rfl)) pgs_nil))) (pss_cons (ps_set (i := 7) sc__law_by.nd rfl (.inl rfl) (pe_ix ix_tup (pe_fn (f__law_spot T) (hr.mono (by decide)) (by rfl) pass0 (pa_cons (pv 2) (pa_cons (pv 6) pa_nil))) pe_int (fun _ _ => rfl)))
      (pss_one (ps_if (PW.pt (pw_or (pt_cmpR op_eq (pe_op op_add (pv 5) pe_int) (pe_callB call_len_seq (by rfl) T.b_len PySem.boot_len (pa_cons (pv 1) pa_nil)) (nomark _)) (pw_or1 (pt_cmpR op_ne (pe_ix ix_tup (pe_fn (f__law_spot T) (hr.mono (by decide)) (by rfl) pass0 (pa_cons (pv 2) (pa_cons (pe_ix ix_list (pv 1) (pe_op op_add (pv 5) pe_int) (fun _ _ => rfl)) pa_nil))) pe_int (fun _ _ => rfl)) (pv 7) (nomark _))))) (pss_one (ps_expr (pe_bm PySem.F.plainAttrs_list PySem.F.slot_list_append PySem.F.type_list_append mt_append (pv 4) (pa_cons (pv 6) pa_nil)))) pss_nil))))
      (pss_one (ps_ret (pe_slice sl_list (pv 4) (po_some (pe_callB (call_max2 rfl) (by rfl) T.b_max (by decide +kernel) (pa_cons pe_int (pa_cons (pe_op op_sub (pe_callB call_len_seq (by rfl) T.b_len PySem.boot_len (pa_cons (pv 4) pa_nil)) (pv 3)) pa_nil)))) po_none)))))), ?_⟩
    with_reducible refine seq_k fun K_ hK_ => ?_
    walk_at "rs"
    refine ⟨bx, [.ref rx, .int ru.2], rfl, sqT hbx, rfl, ?_⟩
    walk_at "rs"
    subst hK_
    first | with_reducible refine seq_k fun K_ hK_ => ?_ | skip
    walk_at "rs"
    intro p hp
    walk_at "rs"
    subst hK_
    first | with_reducible refine seq_k fun K_ hK_ => ?_ | skip
    walk_at "rs"
    have sP : Same H (upd H p (.lst [])) := same_upd hp
    refine ⟨_, rfl, l, ns.map V.int, rfl, sP.seq hl, for_it walk_enum (iv__law_by (.ref bx) l rx p ru ns H)
      ⟨none, none, none, [], rfl, sP, upd_same, by simp, by simp⟩ (fun i σ H5 _ p => by obtain ⟨_, _, _, _, _, s5, _⟩ := p; exact s5.seq hl) ?_ ?_⟩
    · rintro i v σ H5 H6 hi ⟨y5, y6, y7, es, rfl, s5, hp5, hle5, hes⟩ ⟨t, u, z, rfl, ht, rfl, hu, hv⟩
      rw [hM] at hi
      cases hu
      have hv : (ns.map V.int)[i]? = some z := hv
      rw [List.getElem?_map] at hv
      cases e : ns[i]? with
      | none => rw [e] at hv; cases hv
      | some n =>
        rw [e] at hv
        cases hv
        have s6 := s5.trans (same_upd (o := .tup [.int (i : Nat), .int n]) ht)
        have hp6 := (same_upd (o := .tup [.int (i : Nat), .int n]) ht) _ _ hp5
        have hs6 : SqT K (upd H5 t (.tup [.int (i : Nat), .int n])) t [.int (i : Nat), .int n] := sqT upd_same
        revert s6 hp6 hs6
        generalize upd H5 t (.tup [.int (i : Nat), .int n]) = H6
        intro s6 hp6 hs6
        refine ⟨t, [.int (i : Nat), .int n], rfl, hs6, rfl, ?_⟩
        walk_at "rs"
        with_reducible refine seq_k fun K_ hK_ => ?_
        walk_at "rs"
        refine ⟨rx, ru.1, n, rfl, hrx.same s6, fun p1 H7 s7 _ hp1 => ?_⟩
        refine ixT (j := 0) (sqT hp1) rfl rfl ?_
        have s7' := s6.trans s7
        have hp7 := s7 _ _ hp6
        have ed : ns.drop i = n :: ns.drop (i + 1) := by
          rw [List.drop_eq_getElem_cons hi]
          rw [(List.getElem?_eq_some_iff.mp e).2]
        rw [ed] at hes
        have addN : ∀ (H8 : Hp) (y7 : Option V), Same H H8 → H8 p = some (.lst (es.map V.int)) → endsF ru.1 (n :: ns.drop (i + 1)) = n :: endsF ru.1 (ns.drop (i + 1)) →
            tyV K "list" (V.ref p) H8 ∧ rAppend (V.ref p) [V.int n] H8 fun _ H1 => iv__law_by (V.ref bx) l rx p ru ns H (i + 1) [some (V.ref bx), some (V.ref l), some (V.ref rx), some (V.int ru.2), some (V.ref p), some (V.int (i : Nat)), some (V.int n), y7] H1 := by
          intro H8 y7 s8 hp8 hE
          refine app hp8 (by simp; omega) ?_
          refine ⟨_, _, _, es ++ [n], rfl, Same.app s8 hp, by rw [upd_same, List.map_append]; rfl, by simp; omega, ?_⟩
          rw [hE] at hes
          rw [← hes]
          simp
        walk_at "rs"
        subst hK_
        first | with_reducible refine seq_k fun K_ hK_ => ?_ | skip
        walk_at "rs"
        refine ⟨ns.map V.int, .inl (s7'.seq hl), ?_⟩
        rw [hM]
        refine ite2 (fun c => ?_) (fun c => ?_)
        · have en : ns.drop (i + 1) = [] := List.drop_of_length_le (by omega)
          exact addN H7 _ s7' hp7 (by rw [en]; rfl)
        · have hi1 : i + 1 < ns.length := by omega
          have hm : (ns.map V.int)[i + 1]? = some (.int (ns[i + 1]'hi1)) := by rw [List.getElem?_map, List.getElem?_eq_getElem hi1]; rfl
          refine ixL (j := i + 1) (s7'.seq hl) (by push_cast; rfl) hm ?_
          refine ⟨rx, ru.1, _, rfl, hrx.same s7', fun p2 H8 s8 _ hp2 => ?_⟩
          refine ixT (j := 0) (sqT hp2) rfl rfl ?_
          walk_at "rs"
          have ed2 : ns.drop (i + 1) = ns[i + 1] :: ns.drop (i + 2) := by rw [List.drop_eq_getElem_cons hi1]
          refine ite2 (fun c2 => ?_) (fun c2 => ?_)
          · refine addN H8 _ (s7'.trans s8) (s8 _ _ hp7) ?_
            rw [ed2]
            simp only [endsF]
            rw [if_neg (fun z => c2 z.symm)]
          · refine ⟨_, _, _, es, rfl, s7'.trans s8, s8 _ _ hp7, by omega, ?_⟩
            rw [← hes, ed2]
            simp only [endsF]
            rw [if_pos (Decidable.not_not.mp c2).symm]
    · rintro σ H5 ⟨y5, y6, y7, es, rfl, s5, hp5, hle5, hes⟩
      rw [hM, List.drop_length] at hes
      have hes' : es = endsF ru.1 ns := by simpa [endsF] using hes
      subst hes'
      walk_at "rs"
      subst hK_
      first | with_reducible refine seq_k fun K_ hK_ => ?_ | skip
      walk_at "rs"
      refine ⟨_, .inl (sqL hp5), ?_⟩
      refine ⟨0, _, ⟨rfl, rfl⟩, p, _, rfl, sqL hp5, fun z hz => ?_⟩
      refine q z _ (s5.trans (same_upd hz)) (s5.free hz) ?_
      rw [upd_same]
      have e : (if ((((endsF ru.1 ns).map V.int).length : Nat) : Int) - ru.2 > 0 then ((((endsF ru.1 ns).map V.int).length : Nat) : Int) - ru.2 else 0) = (((endsF ru.1 ns).length - ru.2.toNat : Nat) : Int) := by
        rw [List.length_map]
        split <;> omega
      rw [e, cut_from, ← List.map_drop]
      rfl
/-- the lists of what each rule keeps, none of them at D -/
def ByLists (H : Hp) (D : Addr) (xs : List V) (rus : List (List Int × Int)) (ns : List Int) : Prop := xs.length = rus.length ∧ ∀ (i : Nat) x, xs[i]? = some x → ∃ (ru : List Int × Int) (p : Addr), rus[i]? = some ru ∧ x = .ref p ∧ H p = some (.lst ((keptUp ru ns).map V.int)) ∧ p ≠ D
theorem ByLists.same {H H' : Hp} {D : Addr} {xs : List V} {rus : List (List Int × Int)} {ns : List Int} (h : ByLists H D xs rus ns) (s : Same H H') : ByLists H' D xs rus ns :=
  ⟨h.1, fun i x hx => by obtain ⟨ru, p, e, e2, r, n⟩ := h.2 i x hx; exact ⟨ru, p, e, e2, s _ _ r, n⟩⟩
theorem ByLists.push {H : Hp} {D p : Addr} {xs : List V} {rus : List (List Int × Int)} {ns : List Int} {ru : List Int × Int} {o : HO} (h : ByLists H D xs rus ns) (hp : H p = some (.lst ((keptUp ru ns).map V.int))) (n : p ≠ D) : ByLists (upd H D o) D (xs ++ [.ref p]) (rus ++ [ru]) ns := by
  refine ⟨by simp [h.1], fun i y hy => ?_⟩
  by_cases c : i < xs.length
  · rw [List.getElem?_append_left c] at hy
    obtain ⟨ru', p', e, e2, r', n'⟩ := h.2 i y hy
    exact ⟨ru', p', by rw [List.getElem?_append_left (by rw [← h.1]; exact c)]; exact e, e2, by rw [upd_ne n']; exact r', n'⟩
  · have hi : i = xs.length := by
      have := lt_of_get hy
      simp at this
      omega
    subst hi
    have e1 : (xs ++ [V.ref p])[xs.length]? = some (.ref p) := by simp
    rw [e1] at hy
    cases hy
    refine ⟨ru, p, ?_, rfl, by rw [upd_ne n]; exact hp, n⟩
    rw [h.1]
    simp
abbrev nm__law_kept : List Str := ["rules", "nights", "some", "rule", "night", "one"]
abbrev pm__law_kept : List Str := ["rules", "nights"]
abbrev lv__law_kept : Nat := 3
theorem sc__law_kept : FnScope nm__law_kept pm__law_kept (defScope s__law_kept) := ⟨rfl, rfl, rfl, by decide +kernel, rfl, by decide +kernel, by decide +kernel⟩
def sp__law_kept (K : PySem.W.Frag) : Sp := fun vs H Q _ => ∃ (a l : Addr) (rus : List (List Int × Int)) (xs : List V) (ns : List Int), vs = [.ref a, .ref l] ∧ H a = some (.tup xs) ∧ RuleVs H xs rus ∧ rus.length ≤ 1000 ∧ SqL K H l (ns.map V.int) ∧ ns.length ≤ 10000 ∧
  ∀ p H', Same H H' → H p = none → H' p = some (.lst ((keptF rus ns).map V.int)) → Q (.ref p) H'
def iv__law_kept (H1 : Hp) (D : Addr) (rus : List (List Int × Int)) (ns : List Int) (i : Nat) (H : Hp) : Prop := Same H1 H ∧ ∃ ys, H D = some (.lst ys) ∧ ByLists H D ys (rus.take i) ns ∧ ys.length = i
theorem f__law_kept (T : Txt K mg) : Fk P w K mg base CX0 lv__law_kept "_law_kept" pm__law_kept (sp__law_kept K) := by
  obtain ⟨f, fd, F, g, b⟩ := T.d__law_kept.ex
  refine ⟨f, fd, g, F.kp, b, F.ok sc__law_kept (fun vs H Q E h => ?_) (fun cdv A outer s H vs Q E hr h => ?_)⟩
  · obtain ⟨a, l, rus, xs, ns, rfl, _⟩ := h; rfl
  · obtain ⟨a, l, rus, xs, ns, rfl, ha, hv, hrz, hl, hz, q⟩ := h
    have hM : (ns.map V.int).length = ns.length := List.length_map _
    refine ⟨_, (pss_cons (ps_set (i := 2) sc__law_kept.nd rfl (.inr rfl) (pe_lc (own := [("rule", 3)]) (g := gName 3) (tt := tYes) (by rfl) sc__law_kept.nd (pi_tup (pv 0)) (blkOk_by (own := [("rule", 3)]) (N := nm__law_kept) (sc := defScope s__law_kept) (by decide +kernel)) (fun _ _ _ _ _ => (pg_name (i := 3) sc__law_kept.nd rfl (Or.inl rfl))) (fun _ _ _ _ _ => pts_nil) (fun _ _ _ _ _ => (pe_fn (f__law_by T) (hr.mono (by decide)) (by rfl) pass0 (pa_cons (pv 3) (pa_cons (pv 1) pa_nil))))))
      (pss_one (ps_ret (pe_lc (own := [("night", 4)]) (g := gName 4) (by rfl) sc__law_kept.nd (pi_list (pv 1)) (blkOk_by (own := [("night", 4)]) (N := nm__law_kept) (sc := defScope s__law_kept) (by decide +kernel)) (fun _ _ _ _ _ => (pg_name (i := 4) sc__law_kept.nd rfl (Or.inr rfl))) (fun _ _ _ _ _ => (pts_one (pt_cmpR (op_neDK K rfl hr.units) (pe_lc (own := [("one", 5)]) (g := gName 5) (by rfl) sc__law_kept.nd (pi_listK K rfl (pv 2)) (blkOk_by (own := [("one", 5)]) (N := nm__law_kept) (sc := relS { kind := .function, names := [(".0", .local), ("night", .cell), ("some", .free)], isGenerator := false, isCoroutine := false } (defScope s__law_kept)) (by decide +kernel)) (fun _ _ _ _ _ => (pg_name (i := 5) sc__law_kept.nd rfl (Or.inl rfl))) (fun _ _ _ _ _ => (pts_one (pt_cmpR (op_inK K rfl) (pv 4) (pv 5) (by rfl)))) (fun _ _ _ _ _ => pe_int)) (pe_lst pa_nil) (nomark _)))) (fun _ _ _ _ _ => (pv 4)))))), ?_⟩
    with_reducible refine seq_k fun K_ hK_ => ?_
    walk_at "rs"
    refine ⟨_, rfl, a, rfl, ⟨xs, sqT ha⟩, fun D hD => lc_tup (K := K) (a := a) (xs := xs) (iv__law_kept H D rus ns)
      ⟨same_upd hD, [], upd_same, ⟨by simp, fun i x hx => by simp at hx⟩, rfl⟩ (fun i H2 _ p => sqT (p.1 _ _ ha)) (fun i x H2 hx p => ?_) fun H2 p => ?_⟩
    · obtain ⟨s2, ys, hD2, hB2, hl2⟩ := p
      obtain ⟨ru, hru, hra⟩ := hv.2 i x hx
      walk_at "rs"
      refine ⟨x, ru, l, ns, rfl, hra.same s2, s2.seq hl, hz, fun p1 H3 s3 hp1 hP => ?_⟩
      have hi := lt_of_get hru
      have hpD : p1 ≠ D := fun e => by rw [e, hD2] at hp1; cases hp1
      refine ⟨ys, s3 _ _ hD2, szl (by omega), Same.app (s2.trans s3) hD, ys ++ [.ref p1], upd_same, ?_, by simp [hl2]⟩
      rw [take_next hru]
      exact (hB2.same s3).push hP hpD
    · obtain ⟨s2, ys, hD2, hB2, hl2⟩ := p
      rw [hv.1, List.take_length] at hB2
      walk_at "rs"
      subst hK_
      first | with_reducible refine seq_k fun K_ hK_ => ?_ | skip
      walk_at "rs"
      refine ⟨_, rfl, l, rfl, ⟨_, s2.seq hl⟩, fun D2 hD' => lcL hD' (s2.seq hl) (fun i => ((ns.take i).filter fun n => rus.any fun ru => decide (n ∈ keptBy ru ns)).map V.int) rfl (fun i v H3 hv3 p => ?_) (fun H3 s3 hD3 => ?_)⟩
      · rw [List.getElem?_map] at hv3
        cases e : ns[i]? with
        | none => rw [e] at hv3; cases hv3
        | some n =>
          rw [e] at hv3
          cases hv3
          have hfl := filter_take_next (fun n => rus.any fun ru => decide (n ∈ keptBy ru ns)) e
          walk_at "rs"
          have hB3 := hB2.same p.same
          have hD3 := p.same _ _ hD2
          refine ⟨_, rfl, D, rfl, ⟨_, sqL hD3⟩, fun D3 hD'' => lcL hD'' (sqL hD3) (fun j => (((rus.take j).filter fun ru => decide (n ∈ keptBy ru ns)).map fun _ => (1 : Int)).map V.int) rfl (fun j w H4 hw p4 => ?_) (fun H4 s4 hD4 => ?_)⟩
          · obtain ⟨ru, q1, e1, rfl, e3, _⟩ := hB3.2 j w hw
            have hfr := filter_take_next (fun ru : List Int × Int => decide (n ∈ keptBy ru ns)) e1
            walk_at "rs"
            refine ⟨q1, _, rfl, .inl (sqL (p4.same _ _ e3)), rfl, flat_ints _, ?_⟩
            refine ⟨_, rfl, ?_⟩
            rw [if_neg Bool.false_ne_true, inV_ints]
            by_cases c : n ∈ keptBy ru ns
            · rw [if_pos (by rw [decide_eq_true_eq, mem_keptUp]; exact c)]
              refine p4.push hD'' ?_ (Same.refl _) ?_
              · simp only [List.length_map]
                exact Nat.le_trans (filter_len rus _ j) (by omega)
              · show _ = _
                rw [hfr]
                simp [c]
            · rw [if_neg (by rw [decide_eq_true_eq, mem_keptUp]; exact c)]
              refine p4.skip (Same.refl _) ?_
              show _ = _
              rw [hfr]
              simp [c]
          · rw [hB2.1, List.take_length] at hD4
            walk_at "rs"
            intro q3 hq3
            have s5 := s4.trans (same_upd (o := .lst []) hq3)
            refine neD (d := dLI ((rus.filter fun ru => decide (n ∈ keptBy ru ns)).map fun _ => (1 : Int))) (e := dLI []) (dp_LI (sqL ((same_upd hq3) _ _ hD4))) (dp_LI (sqL upd_same)) (gd_dLI (k := 0) _) (gd_dLI (k := 0) _) (fun e => ?_) (fun e => ?_)
            · have ef : (rus.any fun ru => decide (n ∈ keptBy ru ns)) = false := by
                have e' := dLI_inj.mp e
                rw [List.map_eq_nil_iff, List.filter_eq_nil_iff] at e'
                rw [List.any_eq_false]
                exact e'
              walk_at "rs"
              refine p.skip s5 ?_
              show _ = _
              rw [hfl]
              simp [ef]
            · have et : (rus.any fun ru => decide (n ∈ keptBy ru ns)) = true := by
                cases h : (rus.any fun ru => decide (n ∈ keptBy ru ns)) with
                | true => rfl
                | false =>
                  exfalso
                  apply e
                  rw [List.any_eq_false] at h
                  rw [dLI_inj, List.map_eq_nil_iff, List.filter_eq_nil_iff]
                  exact h
              walk_at "rs"
              refine p.push hD' ?_ s5 ?_
              · rw [List.length_map]
                exact Nat.le_trans (filter_len ns _ i) (by omega)
              · show _ = _
                rw [hfl]
                simp [et]
      · rw [hM, List.take_length] at hD3
        exact q D2 H3 (s2.trans s3) (s2.free hD') hD3
end
end Nk
namespace Nk
open PySem L2
section
variable {P : Program} {w : World} {K : PySem.W.Frag} {mg : Str → Option Value} {base : Heap}
/-- a class with a keep's fields -/
structure KC (K : PySem.W.Frag) (mg : Str → Option Value) (c : Str) : Prop where
  o : Oc K mg c
  nr : NoAttr K (cls mg c) "rules"
  nn : NoAttr K (cls mg c) "nights"
  np : NoAttr K (cls mg c) "pinned"
  nl : NoAttr K (cls mg c) "last"
/-- what a keep holds -/
structure KV where
  rus : List (List Int × Int)
  ns : List Int
  ps : List Int
  last : Option Int
def lastV : Option Int → V
  | none => .non
  | some n => .int n
/-- the fields, a keep's own ahead of others -/
def kfs (r N Pn : Addr) (l : V) (ex : List (Str × V)) : List (Str × V) := ("rules", .ref r) :: ("nights", .ref N) :: ("pinned", .ref Pn) :: ("last", l) :: ex
theorem kfs_rules {r N Pn : Addr} {l : V} {ex : List (Str × V)} : (kfs r N Pn l ex).lookup ("rules" : Str) = some (.ref r) := by rfl
theorem kfs_nights {r N Pn : Addr} {l : V} {ex : List (Str × V)} : (kfs r N Pn l ex).lookup ("nights" : Str) = some (.ref N) := by rfl
theorem kfs_pinned {r N Pn : Addr} {l : V} {ex : List (Str × V)} : (kfs r N Pn l ex).lookup ("pinned" : Str) = some (.ref Pn) := by rfl
theorem kfs_last {r N Pn : Addr} {l : V} {ex : List (Str × V)} : (kfs r N Pn l ex).lookup ("last" : Str) = some l := by rfl
theorem kfs_put_nights {r N N' Pn : Addr} {l : V} {ex : List (Str × V)} : putF "nights" (.ref N') (kfs r N Pn l ex) = kfs r N' Pn l ex := by rfl
theorem kfs_put_pinned {r N Pn Pn' : Addr} {l : V} {ex : List (Str × V)} : putF "pinned" (.ref Pn') (kfs r N Pn l ex) = kfs r N Pn' l ex := by rfl
theorem kfs_put_last {r N Pn : Addr} {l l' : V} {ex : List (Str × V)} : putF "last" l' (kfs r N Pn l ex) = kfs r N Pn l' ex := by rfl
theorem kfs_len {r N Pn : Addr} {l : V} {ex : List (Str × V)} : (kfs r N Pn l ex).length = ex.length + 4 := by rfl
/-- names that are no fields of a keep -/
def NoK (m : Str) : Prop := m ≠ "rules" ∧ m ≠ "nights" ∧ m ≠ "pinned" ∧ m ≠ "last"
theorem kfs_no {r N Pn : Addr} {l : V} {ex : List (Str × V)} {m : Str} (h : NoK m) : (kfs r N Pn l ex).lookup m = ex.lookup m := by
  obtain ⟨h1, h2, h3, h4⟩ := h
  unfold kfs
  rw [List.lookup_cons, List.lookup_cons, List.lookup_cons, List.lookup_cons, beq_eq_false_iff_ne.mpr h1, beq_eq_false_iff_ne.mpr h2, beq_eq_false_iff_ne.mpr h3, beq_eq_false_iff_ne.mpr h4]
/-- a keep of the class c stands at k; S: what may change -/
structure KeepAt (K : PySem.W.Frag) (mg : Str → Option Value) (c : Str) (ex : List (Str × V)) (H : Hp) (k : Addr) (S : List Addr) (v : KV) : Prop where
  kc : KC K mg c
  exl : ex.length ≤ 50
  at_ : ∃ (dx r N Pn : Addr), S = [k, N, Pn] ∧ N ≠ Pn ∧ H k = some (.ins (cls mg c) dx (kfs r N Pn (lastV v.last) ex)) ∧ RulesAt H r v.rus ∧ H N = some (.lst (v.ns.map V.int)) ∧ H Pn = some (.lst (v.ps.map V.int))
  rise : v.ns.Pairwise (· < ·)
  bnd : ∀ n ∈ v.ns, 0 ≤ n ∧ n ≤ 1000000000
  lst : ∀ n ∈ v.ns, ∃ l, v.last = some l ∧ n ≤ l
  lb : ∀ l, v.last = some l → 0 ≤ l ∧ l ≤ 1000000000
  n100 : v.ns.length ≤ 100
  prise : v.ps.Pairwise (· < ·)
  psub : ∀ n ∈ v.ps, n ∈ v.ns
theorem RulesAt.step {S : List Addr} {H H' : Hp} {a : Addr} {rus : List (List Int × Int)} (h : RulesAt H a rus) (s : Step S H H') : RulesAt H' a rus := by
  obtain ⟨xs, ha, hl, hi⟩ := h.ex
  refine ⟨⟨xs, s.tups _ _ ha, hl, fun i x hx => ?_⟩, h.l1, h.l5⟩
  obtain ⟨ru, e, b, r, rfl, hb, hr, m0, m1⟩ := hi i x hx
  exact ⟨ru, e, b, r, rfl, s.tups _ _ hb, ⟨s.tups _ _ hr.at_, hr.ok, hr.le, hr.ln⟩, m0, m1⟩
theorem KeepAt.plen {c : Str} {ex : List (Str × V)} {H : Hp} {k : Addr} {S : List Addr} {v : KV} (h : KeepAt K mg c ex H k S v) : v.ps.length ≤ 100 :=
  Nat.le_trans (nodup_len _ _ (rise_nodup h.prise) h.psub) h.n100
/-- what else changes leaves a keep -/
theorem KeepAt.step {c : Str} {ex : List (Str × V)} {H H' : Hp} {k : Addr} {S T : List Addr} {v : KV} (h : KeepAt K mg c ex H k S v) (s : Step T H H') (n : ∀ b ∈ S, b ∉ T) : KeepAt K mg c ex H' k S v := by
  obtain ⟨dx, r, N, Pn, rfl, hNP, hk, hR, hN, hP⟩ := h.at_
  exact ⟨h.kc, h.exl, ⟨dx, r, N, Pn, rfl, hNP, s.keep _ _ hk (n _ (by simp)), hR.step s, s.keep _ _ hN (n _ (by simp)), s.keep _ _ hP (n _ (by simp))⟩, h.rise, h.bnd, h.lst, h.lb, h.n100, h.prise, h.psub⟩
theorem KeepAt.same {c : Str} {ex : List (Str × V)} {H H' : Hp} {k : Addr} {S : List Addr} {v : KV} (h : KeepAt K mg c ex H k S v) (s : Same H H') : KeepAt K mg c ex H' k S v := h.step (T := []) (.of s) (fun _ _ => by simp)
abbrev nm_Elder____init__ : List Str := ["self", "last"]
abbrev pm_Elder____init__ : List Str := ["self", "last"]
abbrev lv_Elder____init__ : Nat := 1
theorem sc_Elder____init__ : FnScope nm_Elder____init__ pm_Elder____init__ (defScope s_Elder____init__) := ⟨rfl, rfl, rfl, by decide +kernel, rfl, by decide +kernel, by decide +kernel⟩
def sp_Elder (mg : Str → Option Value) : Sp := fun vs H Q _ => ∃ (a : Addr) (v : V), vs = [.ref a, v] ∧ H a = some (exo a (cls mg "Elder") none) ∧
  ∀ dx, H dx = none → dx ≠ a → Q .non (upd (upd H dx (exd dx [("last", v)])) a (exo a (cls mg "Elder") (some dx)))
theorem f_Elder____init__ (T : Txt K mg) : Ek P w K mg base CX0 lv_Elder____init__ "Elder" pm_Elder____init__ (sp_Elder mg) := by
  obtain ⟨fI, fd, F, h1, h2, h3⟩ := T.y_Elder.ini
  refine ⟨fI, fd, h1, h2, h3, F.ok sc_Elder____init__ (fun vs H Q E h => ?_) (fun cdv A outer s H vs Q E hr h => ?_)⟩
  · obtain ⟨a, v, rfl, _⟩ := h; rfl
  · obtain ⟨a, v, rfl, ha, q⟩ := h
    refine ⟨_, (pss_one (ps_ostR (pv 0) (pv 1))), ?_⟩
    exact ⟨_, rfl, _, rfl, a, _, rfl, T.y_Elder.ox, T.y_Elder.na, ha, q⟩
abbrev nm_look_taken : List Str := ["keep", "night"]
abbrev pm_look_taken : List Str := ["keep", "night"]
abbrev lv_look_taken : Nat := 3
theorem sc_look_taken : FnScope nm_look_taken pm_look_taken (defScope s_look_taken) := ⟨rfl, rfl, rfl, by decide +kernel, rfl, by decide +kernel, by decide +kernel⟩
def sp_look_taken (K : PySem.W.Frag) (mg : Str → Option Value) : Sp := fun vs H Q E => ∃ (c : Str) (ex : List (Str × V)) (k : Addr) (S : List Addr) (v : KV) (x : V) (n : String), vs = [.ref k, x] ∧ KeepAt K mg c ex H k S v ∧ Thing K H x n ∧
  (isNumV x 0 (.int 1000000000) = false → E (.ref (cls mg "BadNight")) none H) ∧
  (∀ m l, x = .int m → 0 ≤ m → m ≤ 1000000000 → v.last = some l → m ≤ l → ∀ d H', Same H H' → H' d = some (.xd [("last", .int l)]) → E (.ref (cls mg "Elder")) (some d) H') ∧
  (∀ m, x = .int m → 0 ≤ m → m ≤ 1000000000 → (∀ l, v.last = some l → l < m) → 100 ≤ v.ns.length → E (.ref (cls mg "Full")) none H) ∧
  (∀ m, x = .int m → 0 ≤ m → m ≤ 1000000000 → (∀ l, v.last = some l → l < m) → v.ns.length < 100 → Q .non H)
theorem f_look_taken (T : Txt K mg) : Fk P w K mg base (L2.CX P w) lv_look_taken "look_taken" pm_look_taken (sp_look_taken K mg) := by
  obtain ⟨f, fd, F, g, b⟩ := T.d_look_taken.ex
  refine ⟨f, fd, g, F.kp, b, F.okX sc_look_taken (fun vs H Q E h => ?_) (fun cdv A outer s H vs Q E hr h => ?_)⟩
  · obtain ⟨c, ex, k, S, v, x, n, rfl, _⟩ := h; rfl
  · obtain ⟨c, ex, k, S, v, x, n, rfl, hK, hx, q1, q2, q3, q4⟩ := h
    refine ⟨_, (pss_cons (ps_expr (pe_fn (f_look_night T) (hr.mono (by decide)) (by rfl) (passX (takes_of rfl rfl rfl rfl)) (pa_cons (pv 1) pa_nil)))
      (pss_cons (ps_if (PW.pt (pw_and (pt_cmpR op_notN (pe_fld (pv 0) rfl) pe_non (nomark _)) (pw_and1 (pt_cmpR op_le (pv 1) (pe_fld (pv 0) rfl) (nomark _))))) (pss_one (ps_raise rfl (takes_of rfl rfl rfl rfl) (pmk_el T.y_Elder (f_Elder____init__ T) (hr.mono (by decide)) pass0 (by rfl) (pa_cons (pe_fld (pv 0) rfl) pa_nil)))) pss_nil)
      (pss_one (ps_if (pt_cmpR op_ge (pe_callB call_len_seq (by rfl) T.b_len PySem.boot_len (pa_cons (pe_fld (pv 0) rfl) pa_nil)) (pe_globI T.c_MOST_HELD (by rfl)) (nomark _)) (pss_one (ps_raise rfl (takes_of rfl rfl rfl rfl) (pmk_own PySem.F.excBase_RuntimeError T.x_Full.xP T.x_Full.gP T.x_Full.kP T.x_Full.rs rfl))) pss_nil)))), ?_⟩
    with_reducible refine seq_k fun K_ hK_ => ?_
    walk_at "rt"
    refine ⟨x, n, rfl, hx, fun e => ?_, q1⟩
    obtain ⟨m, rfl, m0, m1⟩ : ∃ m, x = .int m ∧ 0 ≤ m ∧ m ≤ 1000000000 := by
      cases x with
      | int i => exact ⟨i, rfl, by simpa [isNumV] using e⟩
      | _ => simp [isNumV] at e
    obtain ⟨dx, r, N, Pn, rfl, hNP, hk, hR, hN, hP⟩ := hK.at_
    have kc := hK.kc
    obtain ⟨rus, ns, ps, last⟩ := v
    have hnl := hK.n100
    dsimp only at *
    have hlen : ns.length ≤ 100 := hnl
    walk_at "rt"
    subst hK_
    first | with_reducible refine seq_k fun K_ hK_ => ?_ | skip
    walk_at "rt"
    have rest : (∀ l, last = some l → l < m) → K_ [some (.ref k), some (.int m)] H := fun hl => by
      walk_at "rt"
      subst hK_
      first | with_reducible refine seq_k fun K_ hK_ => ?_ | skip
      walk_at "rt"
      refine ⟨_, dx, _, hk, kc.o.cl, kc.nn, _, kfs_nights, N, rfl, _, .inl (sqL hN), ?_⟩
      rw [List.length_map]
      exact ite2 (fun c1 => q3 m rfl m0 m1 hl (by omega)) (fun c1 => q4 m rfl m0 m1 hl (by omega))
    refine ⟨_, dx, _, hk, kc.o.cl, kc.nl, _, kfs_last, ?_⟩
    cases last with
    | none =>
      rw [if_neg (fun e => e rfl)]
      exact rest (fun l e => nomatch e)
    | some l =>
      rw [if_pos (fun e => nomatch e)]
      refine ⟨_, dx, _, hk, kc.o.cl, kc.nl, _, kfs_last, l, rfl, ?_⟩
      refine ite2 (fun c1 => ?_) (fun c1 => rest fun l' e => by cases e; omega)
      refine ⟨_, dx, _, hk, kc.o.cl, kc.nl, _, kfs_last, fun a ha => ⟨a, _, rfl, upd_same, fun d hd hda => ⟨rfl, d, upd_same, [("last", .int l)], ?_, ?_, ?_⟩⟩⟩
      · rw [upd_ne hda]; exact upd_same
      · rw [upd_ne hda] at hd; exact hd
      · refine q2 m l rfl m0 m1 rfl c1 d _ (fun b o hb => ?_) upd_same
        have h1 : b ≠ a := ne_of_none hb ha
        have h2 : b ≠ d := ne_of_none hb (by rw [upd_ne hda] at hd; exact hd)
        rw [upd_ne h2, del_ne h1, upd_ne h1, upd_ne h2, upd_ne h1]
        exact hb
abbrev nm_look_held : List Str := ["keep", "night"]
abbrev pm_look_held : List Str := ["keep", "night"]
abbrev lv_look_held : Nat := 2
theorem sc_look_held : FnScope nm_look_held pm_look_held (defScope s_look_held) := ⟨rfl, rfl, rfl, by decide +kernel, rfl, by decide +kernel, by decide +kernel⟩
def sp_look_held (K : PySem.W.Frag) (mg : Str → Option Value) : Sp := fun vs H Q E => ∃ (c : Str) (ex : List (Str × V)) (k : Addr) (S : List Addr) (v : KV) (x : V) (n : String), vs = [.ref k, x] ∧ KeepAt K mg c ex H k S v ∧ Thing K H x n ∧
  ((∀ m, x = .int m → m ∉ v.ns) → ∀ H', Same H H' → E (.ref (cls mg "NotHeld")) none H') ∧ (∀ m, x = .int m → m ∈ v.ns → ∀ H', Same H H' → Q .non H')
theorem f_look_held (T : Txt K mg) : Fk P w K mg base (L2.CX P w) lv_look_held "look_held" pm_look_held (sp_look_held K mg) := by
  obtain ⟨f, fd, F, g, b⟩ := T.d_look_held.ex
  refine ⟨f, fd, g, F.kp, b, F.okX sc_look_held (fun vs H Q E h => ?_) (fun cdv A outer s H vs Q E hr h => ?_)⟩
  · obtain ⟨c, ex, k, S, v, x, n, rfl, _⟩ := h; rfl
  · obtain ⟨c, ex, k, S, v, x, n, rfl, hK, hx, q1, q2⟩ := h
    refine ⟨_, (pss_one (ps_if (PW.pt (pw_or (pt_not (pt_val (pe_fn (f_is_number T) (hr.mono (by decide)) (by rfl) pass0 (pa_cons (pv 1) (pa_cons pe_int (pa_cons (pv 1) pa_nil)))))) (pw_or1 (pt_cmpR op_notIn_seq (pv 1) (pe_fld (pv 0) rfl) (by rfl))))) (pss_one (ps_raise rfl (takes_of rfl rfl rfl rfl) (pmk_own PySem.F.excBase_RuntimeError T.x_NotHeld.xP T.x_NotHeld.gP T.x_NotHeld.kP T.x_NotHeld.rs rfl))) pss_nil)), ?_⟩
    obtain ⟨dx, r, N, Pn, rfl, hNP, hk, hR, hN, hP⟩ := hK.at_
    have kc := hK.kc
    have hb := hK.bnd
    walk_at "rt"
    refine ⟨x, n, 0, x, rfl, hx, fun i e => ⟨i, e⟩, _, rfl, ?_⟩
    refine ite2 (fun c1 => q1 (fun m e hm => ?_) _ (Same.refl _)) (fun c1 => ?_)
    · subst e
      have := hb m hm
      simp [isNumV] at c1
      omega
    · obtain ⟨m, rfl⟩ : ∃ m, x = .int m := by
        cases x with
        | int i => exact ⟨i, rfl⟩
        | _ => simp [isNumV] at c1
      refine ⟨_, dx, _, hk, kc.o.cl, kc.nn, _, kfs_nights, N, _, rfl, .inl (sqL hN), rfl, flat_ints _, _, rfl, ?_⟩
      rw [if_pos rfl, inV_ints]
      refine ite2 (fun c2 => q1 (fun m' e hm => ?_) _ (Same.refl _)) (fun c2 => q2 m rfl ?_ _ (Same.refl _))
      · cases e
        simp [hm] at c2
      · simpa using c2
abbrev nm_gone_of : List Str := ["keep", "stay", "night"]
abbrev pm_gone_of : List Str := ["keep"]
abbrev lv_gone_of : Nat := 4
theorem sc_gone_of : FnScope nm_gone_of pm_gone_of (defScope s_gone_of) := ⟨rfl, rfl, rfl, by decide +kernel, rfl, by decide +kernel, by decide +kernel⟩
def goneK (v : KV) : List Int := v.ns.filter fun n => decide (n ∉ keptF v.rus v.ns ++ v.ps)
def sp_gone_of (K : PySem.W.Frag) (mg : Str → Option Value) : Sp := fun vs H Q _ => ∃ (c : Str) (ex : List (Str × V)) (k : Addr) (S : List Addr) (v : KV), vs = [.ref k] ∧ KeepAt K mg c ex H k S v ∧
  ∀ p H', Same H H' → H p = none → H' p = some (.lst ((goneK v).map V.int)) → Q (.ref p) H'
theorem f_gone_of (T : Txt K mg) : Fk P w K mg base CX0 lv_gone_of "gone_of" pm_gone_of (sp_gone_of K mg) := by
  obtain ⟨f, fd, F, g, b⟩ := T.d_gone_of.ex
  refine ⟨f, fd, g, F.kp, b, F.ok sc_gone_of (fun vs H Q E h => ?_) (fun cdv A outer s H vs Q E hr h => ?_)⟩
  · obtain ⟨c, ex, k, S, v, rfl, _⟩ := h; rfl
  · obtain ⟨c, ex, k, S, v, rfl, hK, q⟩ := h
    refine ⟨_, (pss_cons (ps_set (i := 1) sc_gone_of.nd rfl (.inr rfl) (pe_op op_cat (pe_fn (f_kept_of T) (hr.mono (by decide)) (by rfl) pass0 (pa_cons (pe_fld (pv 0) rfl) (pa_cons (pe_fld (pv 0) rfl) pa_nil))) (pe_fld (pv 0) rfl)))
      (pss_one (ps_ret (pe_lc (own := [("night", 2)]) (g := gName 2) (by rfl) sc_gone_of.nd (pi_list (pe_fld (pv 0) rfl)) (blkOk_by (own := [("night", 2)]) (N := nm_gone_of) (sc := defScope s_gone_of) (by decide +kernel)) (fun _ _ _ _ _ => (pg_name (i := 2) sc_gone_of.nd rfl (Or.inl rfl))) (fun _ _ _ _ _ => (pts_one (pt_cmpR (op_notInK K rfl) (pv 2) (pv 1) (by rfl)))) (fun _ _ _ _ _ => (pv 2)))))), ?_⟩
    obtain ⟨dx, r, N, Pn, rfl, hNP, hk, hR, hN, hP⟩ := hK.at_
    have kc := hK.kc
    have hn100 := hK.n100
    have hp100 := hK.plen
    with_reducible refine seq_k fun K_ hK_ => ?_
    walk_at "rt"
    refine ⟨_, dx, _, hk, kc.o.cl, kc.nr, _, kfs_rules, _, dx, _, hk, kc.o.cl, kc.nn, _, kfs_nights, ?_⟩
    refine ⟨r, N, v.rus, v.ns, rfl, hR, sqL hN, hK.rise, fun p H1 s1 hp hp1 => ?_⟩
    refine ⟨_, dx, _, s1 _ _ hk, kc.o.cl, kc.np, _, kfs_pinned, p, Pn, _, _, rfl, rfl, hp1, s1 _ _ hP, ?_, ?_⟩
    · rw [List.length_map, List.length_map]
      have := List.length_filter_le (fun n => v.rus.any fun ru => decide (n ∈ keptBy ru v.ns)) v.ns
      exact sz (by unfold keptF; omega)
    intro q1 n_q1
    generalize hG_ : upd _ q1 _ = H2
    obtain ⟨s2, hq1⟩ := newF n_q1 hG_
    clear hG_
    rw [← List.map_append] at hq1
    have s12 := s1.trans s2
    walk_at "rt"
    subst hK_
    first | with_reducible refine seq_k fun K_ hK_ => ?_ | skip
    walk_at "rt"
    refine ⟨_, dx, _, s12 _ _ hk, kc.o.cl, kc.nn, _, kfs_nights, N, rfl, ⟨_, sqL (s12 _ _ hN)⟩, fun D hD => ?_⟩
    refine lcF (fun n => decide (n ∉ keptF v.rus v.ns ++ v.ps)) hD (sqL (s12 _ _ hN)) (by omega) (fun _ => rfl) (fun _ => rfl) (fun m H3 _ s3 Q hQ => ?_) (fun H3 s3 hD3 => q D H3 (s12.trans s3) (s12.free hD) hD3)
    walk_at "rt"
    refine ⟨q1, _, rfl, .inl (sqL (s3 _ _ hq1)), rfl, flat_ints _, _, rfl, ?_⟩
    rw [if_pos rfl, inV_ints, ← decide_not]
    exact hQ H3 (Same.refl _)
abbrev nm_Keep____init__ : List Str := ["self", "rules"]
abbrev pm_Keep____init__ : List Str := ["self", "rules"]
abbrev lv_Keep____init__ : Nat := 5
theorem sc_Keep____init__ : FnScope nm_Keep____init__ pm_Keep____init__ (defScope s_Keep____init__) := ⟨rfl, rfl, rfl, by decide +kernel, rfl, by decide +kernel, by decide +kernel⟩
def sp_Keep____init__ (K : PySem.W.Frag) (mg : Str → Option Value) : Sp := fun vs H Q E => ∃ (k dx : Addr) (x : V), vs = [.ref k, x] ∧ H k = some (.ins (cls mg "Keep") dx []) ∧ DT K H 3 x ∧
  (isRulesV H x = false → ∀ H', Same H H' → E (.ref (cls mg "BadRules")) none H') ∧
  (isRulesV H x = true → ∃ a rus, x = .ref a ∧ RulesAt H a rus ∧ ∀ H' N Pn, Step [k] H H' → H N = none → H Pn = none → KeepAt K mg "Keep" [] H' k [k, N, Pn] ⟨rus, [], [], none⟩ → Q .non H')
theorem f_Keep____init__ (T : Txt K mg) : Mo P w K mg base (L2.CX P w) lv_Keep____init__ "Keep" "__init__" pm_Keep____init__ (sp_Keep____init__ K mg) := by
  obtain ⟨f, fd, F, g, b⟩ := T.m_Keep____init__.ex
  refine ⟨f, fd, g, b, F.okX sc_Keep____init__ (fun vs H Q E h => ?_) (fun cdv A outer s H vs Q E hr h => ?_)⟩
  · obtain ⟨k, dx, x, rfl, _⟩ := h; rfl
  · obtain ⟨k, dx, x, rfl, hk, hx, q1, q2⟩ := h
    refine ⟨_, (pss_cons (ps_expr (pe_fn (f_look_rules T) (hr.mono (by decide)) (by rfl) (passX (takes_of rfl rfl rfl rfl)) (pa_cons (pv 1) pa_nil)))
      (pss_cons (ps_fld (pv 0) (pv 1) rfl)
      (pss_cons (ps_fld (pv 0) (pe_lst pa_nil) rfl)
      (pss_cons (ps_fld (pv 0) (pe_lst pa_nil) rfl)
      (pss_one (ps_fld (pv 0) pe_non rfl)))))), ?_⟩
    with_reducible refine seq_k fun K_ hK_ => ?_
    walk_at "rt"
    refine ⟨x, rfl, hx, fun e H1 s1 => ?_, q1⟩
    obtain ⟨a, rus, rfl, hR, q⟩ := q2 e
    have hk1 := s1 _ _ hk
    have oc := T.o_Keep
    walk_at "rt"
    subst hK_
    first | with_reducible refine seq_k fun K_ hK_ => ?_ | skip
    walk_at "rt"
    refine ⟨_, dx, _, hk1, oc.cl, T.n_Keep__rules, by decide, ?_⟩
    have st1 : Step [k] H H1 := .of s1
    generalize hG_ : upd _ k _ = H2
    obtain ⟨st2, b2, hk2⟩ := putH st1 (by simp) hk1 (fun _ z => nomatch z) hG_
    clear hG_
    walk_at "rt"
    subst hK_
    first | with_reducible refine seq_k fun K_ hK_ => ?_ | skip
    walk_at "rt"
    intro N n_N
    generalize hG_ : upd _ N _ = H3
    obtain ⟨s3, hN3⟩ := newF n_N hG_
    clear hG_
    have hk3 := s3 _ _ hk2
    have hNk : N ≠ k := (ne_of_none hk2 n_N).symm
    have st3 := st2.same s3
    refine ⟨_, dx, _, hk3, oc.cl, T.n_Keep__nights, (by show (1 : Nat) < 1000; decide), ?_⟩
    generalize hG_ : upd _ k _ = H4
    obtain ⟨st4, b4, hk4⟩ := putH st3 (by simp) hk3 (fun _ z => nomatch z) hG_
    clear hG_
    have hN4 := b4 _ _ hN3 hNk
    walk_at "rt"
    subst hK_
    first | with_reducible refine seq_k fun K_ hK_ => ?_ | skip
    walk_at "rt"
    intro Pn n_Pn
    generalize hG_ : upd _ Pn _ = H5
    obtain ⟨s5, hP5⟩ := newF n_Pn hG_
    clear hG_
    have hk5 := s5 _ _ hk4
    have hN5 := s5 _ _ hN4
    have hPk : Pn ≠ k := (ne_of_none hk4 n_Pn).symm
    have hNP : N ≠ Pn := ne_of_none hN4 n_Pn
    have st5 := st4.same s5
    refine ⟨_, dx, _, hk5, oc.cl, T.n_Keep__pinned, (by show (2 : Nat) < 1000; decide), ?_⟩
    generalize hG_ : upd _ k _ = H6
    obtain ⟨st6, b6, hk6⟩ := putH st5 (by simp) hk5 (fun _ z => nomatch z) hG_
    clear hG_
    have hN6 := b6 _ _ hN5 hNk
    have hP6 := b6 _ _ hP5 hPk
    walk_at "rt"
    subst hK_
    first | with_reducible refine seq_k fun K_ hK_ => ?_ | skip
    walk_at "rt"
    refine ⟨_, dx, _, hk6, oc.cl, T.n_Keep__last, (by show (3 : Nat) < 1000; decide), ?_⟩
    generalize hG_ : upd _ k _ = H7
    obtain ⟨st7, b7, hk7⟩ := putH st6 (by simp) hk6 (fun _ z => nomatch z) hG_
    clear hG_
    exact q H7 N Pn st7 (st2.free n_N (by simpa using hNk)) (st4.free n_Pn (by simpa using hPk))
      ⟨⟨oc, T.n_Keep__rules, T.n_Keep__nights, T.n_Keep__pinned, T.n_Keep__last⟩, by decide, ⟨dx, a, N, Pn, rfl, hNP, hk7, hR.step st7, b7 _ _ hN6 hNk, b7 _ _ hP6 hPk⟩, .nil, (fun _ h => nomatch h), (fun _ h => nomatch h), (fun _ h => nomatch h), Nat.zero_le _, .nil, (fun _ h => nomatch h)⟩
abbrev nm_Keep____len__ : List Str := ["self"]
abbrev pm_Keep____len__ : List Str := ["self"]
abbrev lv_Keep____len__ : Nat := 1
theorem sc_Keep____len__ : FnScope nm_Keep____len__ pm_Keep____len__ (defScope s_Keep____len__) := ⟨rfl, rfl, rfl, by decide +kernel, rfl, by decide +kernel, by decide +kernel⟩
def sp_Keep____len__ (K : PySem.W.Frag) (mg : Str → Option Value) : Sp := fun vs H Q _ => ∃ (k : Addr) (S : List Addr) (v : KV), vs = [.ref k] ∧ KeepAt K mg "Keep" [] H k S v ∧ Q (.int v.ns.length) H
theorem f_Keep____len__ (T : Txt K mg) : Mo P w K mg base CX0 lv_Keep____len__ "Keep" "__len__" pm_Keep____len__ (sp_Keep____len__ K mg) := by
  obtain ⟨f, fd, F, g, b⟩ := T.m_Keep____len__.ex
  refine ⟨f, fd, g, b, F.ok sc_Keep____len__ (fun vs H Q E h => ?_) (fun cdv A outer s H vs Q E hr h => ?_)⟩
  · obtain ⟨k, S, v, rfl, _⟩ := h; rfl
  · obtain ⟨k, S, v, rfl, hK, q⟩ := h
    refine ⟨_, (pss_one (ps_ret (pe_callB call_len_seq (by rfl) T.b_len PySem.boot_len (pa_cons (pe_fld (pv 0) rfl) pa_nil)))), ?_⟩
    obtain ⟨dx, r, N, Pn, rfl, hNP, hk, hR, hN, hP⟩ := hK.at_
    have kc := hK.kc
    walk_at "rt"
    refine ⟨_, dx, _, hk, kc.o.cl, kc.nn, _, kfs_nights, N, rfl, _, .inl (sqL hN), ?_⟩
    rw [List.length_map]
    exact q
abbrev nm_Keep__held : List Str := ["self"]
abbrev pm_Keep__held : List Str := ["self"]
abbrev lv_Keep__held : Nat := 1
theorem sc_Keep__held : FnScope nm_Keep__held pm_Keep__held (defScope s_Keep__held) := ⟨rfl, rfl, rfl, by decide +kernel, rfl, by decide +kernel, by decide +kernel⟩
def sp_Keep__held (K : PySem.W.Frag) (mg : Str → Option Value) : Sp := fun vs H Q _ => ∃ (k : Addr) (S : List Addr) (v : KV), vs = [.ref k] ∧ KeepAt K mg "Keep" [] H k S v ∧ ∀ p H', Same H H' → H p = none → H' p = some (.lst (v.ns.map V.int)) → Q (.ref p) H'
theorem f_Keep__held (T : Txt K mg) : Mo P w K mg base CX0 lv_Keep__held "Keep" "held" pm_Keep__held (sp_Keep__held K mg) := by
  obtain ⟨f, fd, F, g, b⟩ := T.m_Keep__held.ex
  refine ⟨f, fd, g, b, F.ok sc_Keep__held (fun vs H Q E h => ?_) (fun cdv A outer s H vs Q E hr h => ?_)⟩
  · obtain ⟨k, S, v, rfl, _⟩ := h; rfl
  · obtain ⟨k, S, v, rfl, hK, q⟩ := h
    refine ⟨_, (pss_one (ps_ret (pe_callTy call_list_of (by rfl) T.b_list (by decide +kernel) (pa_cons (pe_fld (pv 0) rfl) pa_nil)))), ?_⟩
    obtain ⟨dx, r, N, Pn, rfl, hNP, hk, hR, hN, hP⟩ := hK.at_
    have kc := hK.kc
    walk_at "rt"
    refine ⟨_, dx, _, hk, kc.o.cl, kc.nn, _, kfs_nights, N, rfl, _, .inl (sqL hN), fun l hl => q l _ (same_upd hl) hl upd_same⟩
abbrev nm_Keep__pins : List Str := ["self"]
abbrev pm_Keep__pins : List Str := ["self"]
abbrev lv_Keep__pins : Nat := 1
theorem sc_Keep__pins : FnScope nm_Keep__pins pm_Keep__pins (defScope s_Keep__pins) := ⟨rfl, rfl, rfl, by decide +kernel, rfl, by decide +kernel, by decide +kernel⟩
def sp_Keep__pins (K : PySem.W.Frag) (mg : Str → Option Value) : Sp := fun vs H Q _ => ∃ (k : Addr) (S : List Addr) (v : KV), vs = [.ref k] ∧ KeepAt K mg "Keep" [] H k S v ∧ ∀ p H', Same H H' → H p = none → H' p = some (.lst (v.ps.map V.int)) → Q (.ref p) H'
theorem f_Keep__pins (T : Txt K mg) : Mo P w K mg base CX0 lv_Keep__pins "Keep" "pins" pm_Keep__pins (sp_Keep__pins K mg) := by
  obtain ⟨f, fd, F, g, b⟩ := T.m_Keep__pins.ex
  refine ⟨f, fd, g, b, F.ok sc_Keep__pins (fun vs H Q E h => ?_) (fun cdv A outer s H vs Q E hr h => ?_)⟩
  · obtain ⟨k, S, v, rfl, _⟩ := h; rfl
  · obtain ⟨k, S, v, rfl, hK, q⟩ := h
    refine ⟨_, (pss_one (ps_ret (pe_callTy call_list_of (by rfl) T.b_list (by decide +kernel) (pa_cons (pe_fld (pv 0) rfl) pa_nil)))), ?_⟩
    obtain ⟨dx, r, N, Pn, rfl, hNP, hk, hR, hN, hP⟩ := hK.at_
    have kc := hK.kc
    walk_at "rt"
    refine ⟨_, dx, _, hk, kc.o.cl, kc.np, _, kfs_pinned, Pn, rfl, _, .inl (sqL hP), fun l hl => q l _ (same_upd hl) hl upd_same⟩
abbrev nm_Keep__take : List Str := ["self", "night"]
abbrev pm_Keep__take : List Str := ["self", "night"]
abbrev lv_Keep__take : Nat := 4
theorem sc_Keep__take : FnScope nm_Keep__take pm_Keep__take (defScope s_Keep__take) := ⟨rfl, rfl, rfl, by decide +kernel, rfl, by decide +kernel, by decide +kernel⟩
def sp_Keep__take (K : PySem.W.Frag) (mg : Str → Option Value) : Sp := fun vs H Q E => ∃ (k : Addr) (S : List Addr) (v : KV) (x : V) (n : String), vs = [.ref k, x] ∧ KeepAt K mg "Keep" [] H k S v ∧ Thing K H x n ∧
  (isNumV x 0 (.int 1000000000) = false → E (.ref (cls mg "BadNight")) none H) ∧
  (∀ m l, x = .int m → 0 ≤ m → m ≤ 1000000000 → v.last = some l → m ≤ l → ∀ d H', Same H H' → H' d = some (.xd [("last", .int l)]) → E (.ref (cls mg "Elder")) (some d) H') ∧
  (∀ m, x = .int m → 0 ≤ m → m ≤ 1000000000 → (∀ l, v.last = some l → l < m) → 100 ≤ v.ns.length → E (.ref (cls mg "Full")) none H) ∧
  (∀ m, x = .int m → 0 ≤ m → m ≤ 1000000000 → (∀ l, v.last = some l → l < m) → v.ns.length < 100 → ∀ H', Step S H H' → KeepAt K mg "Keep" [] H' k S { v with ns := v.ns ++ [m], last := some m } → Q .non H')
theorem f_Keep__take (T : Txt K mg) : Mo P w K mg base (L2.CX P w) lv_Keep__take "Keep" "take" pm_Keep__take (sp_Keep__take K mg) := by
  obtain ⟨f, fd, F, g, b⟩ := T.m_Keep__take.ex
  refine ⟨f, fd, g, b, F.okX sc_Keep__take (fun vs H Q E h => ?_) (fun cdv A outer s H vs Q E hr h => ?_)⟩
  · obtain ⟨k, S, v, x, n, rfl, _⟩ := h; rfl
  · obtain ⟨k, S, v, x, n, rfl, hK, hx, q1, q2, q3, q4⟩ := h
    refine ⟨_, (pss_cons (ps_expr (pe_fn (f_look_taken T) (hr.mono (by decide)) (by rfl) (passX (takes_of rfl rfl rfl rfl)) (pa_cons (pv 0) (pa_cons (pv 1) pa_nil))))
      (pss_cons (ps_expr (pe_bm PySem.F.plainAttrs_list PySem.F.slot_list_append PySem.F.type_list_append mt_append (pe_fld (pv 0) rfl) (pa_cons (pv 1) pa_nil)))
      (pss_one (ps_fld (pv 0) (pv 1) rfl)))), ?_⟩
    with_reducible refine seq_k fun K_ hK_ => ?_
    walk_at "rt"
    refine ⟨"Keep", [], k, S, v, x, n, rfl, hK, hx, q1, q2, q3, fun m e m0 m1 hl h100 => ?_⟩
    subst e
    have q := q4 m rfl m0 m1 hl h100
    obtain ⟨dx, r, N, Pn, rfl, hNP, hk, hR, hN, hP⟩ := hK.at_
    have kc := hK.kc
    walk_at "rt"
    subst hK_
    first | with_reducible refine seq_k fun K_ hK_ => ?_ | skip
    walk_at "rt"
    have hkN : k ≠ N := ne_of hk hN (by intro z; cases z)
    have hkP : k ≠ Pn := ne_of hk hP (by intro z; cases z)
    have hn100 := hK.n100
    refine ⟨_, dx, _, hk, kc.o.cl, kc.nn, _, kfs_nights, app hN (by rw [List.length_map]; omega) ?_⟩
    have st0 : Step [k, N, Pn] H H := .refl
    generalize hG_ : upd _ N _ = H1
    obtain ⟨st1, b1, hN1⟩ := putH st0 (by simp) hN (fun _ z => nomatch z) hG_
    clear hG_
    have hk1 := b1 _ _ hk hkN
    walk_at "rt"
    subst hK_
    first | with_reducible refine seq_k fun K_ hK_ => ?_ | skip
    walk_at "rt"
    refine ⟨_, dx, _, hk1, kc.o.cl, kc.nl, (by show (4 : Nat) < 1000; decide), ?_⟩
    generalize hG_ : upd _ k _ = H2
    obtain ⟨st2, b2, hk2⟩ := putH st1 (by simp) hk1 (fun _ z => nomatch z) hG_
    clear hG_
    have hlt : ∀ z ∈ v.ns, z < m := fun z hz => by
      obtain ⟨l, h1, h2⟩ := hK.lst z hz
      have := hl l h1
      omega
    refine q H2 st2 ⟨kc, by decide, ⟨dx, r, N, Pn, rfl, hNP, hk2, hR.step st2, ?_, b2 _ _ (b1 _ _ hP hNP.symm) hkP.symm⟩, ?_, ?_, ?_, ?_, ?_, hK.prise, fun z hz => List.mem_append_left _ (hK.psub z hz)⟩
    · rw [b2 _ _ hN1 hkN.symm, List.map_append]
      rfl
    · rw [List.pairwise_append]
      exact ⟨hK.rise, List.pairwise_singleton _ _, fun a ha b hb => by rw [List.mem_singleton.mp hb]; exact hlt a ha⟩
    · intro z hz
      rcases List.mem_append.mp hz with hz | hz
      · exact hK.bnd z hz
      · rw [List.mem_singleton.mp hz]; exact ⟨m0, m1⟩
    · intro z hz
      refine ⟨m, rfl, ?_⟩
      rcases List.mem_append.mp hz with hz | hz
      · exact Int.le_of_lt (hlt z hz)
      · rw [List.mem_singleton.mp hz]; exact Int.le_refl _
    · intro l e
      cases e
      exact ⟨m0, m1⟩
    · rw [List.length_append]
      exact h100
abbrev nm_Keep__let_go : List Str := ["self", "gone", "night"]
abbrev pm_Keep__let_go : List Str := ["self"]
abbrev lv_Keep__let_go : Nat := 5
theorem sc_Keep__let_go : FnScope nm_Keep__let_go pm_Keep__let_go (defScope s_Keep__let_go) := ⟨rfl, rfl, rfl, by decide +kernel, rfl, by decide +kernel, by decide +kernel⟩
def leftK (v : KV) : List Int := v.ns.filter fun n => decide (n ∉ goneK v)
def sp_Keep__let_go (K : PySem.W.Frag) (mg : Str → Option Value) : Sp := fun vs H Q _ => ∃ (k : Addr) (S : List Addr) (v : KV), vs = [.ref k] ∧ KeepAt K mg "Keep" [] H k S v ∧
  ∀ p H' S', Step S H H' → Own H S S' → H p = none → p ∉ S' → H' p = some (.lst ((goneK v).map V.int)) → KeepAt K mg "Keep" [] H' k S' { v with ns := leftK v } → Q (.ref p) H'
theorem f_Keep__let_go (T : Txt K mg) : Mo P w K mg base CX0 lv_Keep__let_go "Keep" "let_go" pm_Keep__let_go (sp_Keep__let_go K mg) := by
  obtain ⟨f, fd, F, g, b⟩ := T.m_Keep__let_go.ex
  refine ⟨f, fd, g, b, F.ok sc_Keep__let_go (fun vs H Q E h => ?_) (fun cdv A outer s H vs Q E hr h => ?_)⟩
  · obtain ⟨k, S, v, rfl, _⟩ := h; rfl
  · obtain ⟨k, S, v, rfl, hK, q⟩ := h
    refine ⟨_, (pss_cons (ps_set (i := 1) sc_Keep__let_go.nd rfl (.inr rfl) (pe_fn (f_gone_of T) (hr.mono (by decide)) (by rfl) pass0 (pa_cons (pv 0) pa_nil)))
      (pss_cons (ps_fld (pv 0) (pe_lc (own := [("night", 2)]) (g := gName 2) (by rfl) sc_Keep__let_go.nd (pi_list (pe_fld (pv 0) rfl)) (blkOk_by (own := [("night", 2)]) (N := nm_Keep__let_go) (sc := defScope s_Keep__let_go) (by decide +kernel)) (fun _ _ _ _ _ => (pg_name (i := 2) sc_Keep__let_go.nd rfl (Or.inl rfl))) (fun _ _ _ _ _ => (pts_one (pt_cmpR (op_notInK K rfl) (pv 2) (pv 1) (by rfl)))) (fun _ _ _ _ _ => (pv 2))) rfl)
      (pss_one (ps_ret (pv 1))))), ?_⟩
    obtain ⟨dx, r, N, Pn, rfl, hNP, hk, hR, hN, hP⟩ := hK.at_
    have kc := hK.kc
    with_reducible refine seq_k fun K_ hK_ => ?_
    walk_at "rt"
    refine ⟨"Keep", [], k, _, v, rfl, hK, fun p H1 s1 hp hp1 => ?_⟩
    have hn100 := hK.n100
    have hkP : Pn ≠ k := ne_of hP hk (by intro z; cases z)
    walk_at "rt"
    subst hK_
    first | with_reducible refine seq_k fun K_ hK_ => ?_ | skip
    walk_at "rt"
    refine ⟨_, dx, _, s1 _ _ hk, kc.o.cl, kc.nn, _, kfs_nights, N, rfl, ⟨_, sqL (s1 _ _ hN)⟩, fun D hD => ?_⟩
    refine lcF (fun n => decide (n ∉ goneK v)) hD (sqL (s1 _ _ hN)) (by omega) (fun _ => rfl) (fun _ => rfl) (fun m H3 _ s3 Q hQ => ?_) (fun H3 s3 hD3 => ?_)
    · walk_at "rt"
      refine ⟨p, _, rfl, .inl (sqL (s3 _ _ hp1)), rfl, flat_ints _, _, rfl, ?_⟩
      rw [if_pos rfl, inV_ints, ← decide_not]
      exact hQ H3 (Same.refl _)
    · have s13 := s1.trans s3
      have hk3 := s13 _ _ hk
      refine ⟨_, dx, _, hk3, kc.o.cl, kc.nn, (by show (4 : Nat) < 1000; decide), ?_⟩
      have st3 : Step [k, N, Pn] H H3 := .of s13
      generalize hG_ : upd _ k _ = H4
      obtain ⟨st4, b4, hk4⟩ := putH st3 (by simp) hk3 (fun _ z => nomatch z) hG_
      clear hG_
      have hDk : D ≠ k := (ne_of_none (s1 _ _ hk) hD).symm
      have hpD : p ≠ D := ne_of_none hp1 hD
      have hpk : p ≠ k := (ne_of_none hk hp).symm
      have hpP : p ≠ Pn := (ne_of_none hP hp).symm
      have hPD : Pn ≠ D := ne_of_none (s1 _ _ hP) hD
      have hD0 := s1.free hD
      walk_at "rt"
      subst hK_
      first | with_reducible refine seq_k fun K_ hK_ => ?_ | skip
      walk_at "rt"
      refine q p H4 [k, D, Pn] st4 (fun b hb => ?_) hp ?_ (b4 _ _ (s3 _ _ hp1) hpk) ⟨kc, by decide, ⟨dx, r, D, Pn, rfl, hPD.symm, hk4, hR.step st4, b4 _ _ hD3 hDk, b4 _ _ (s13 _ _ hP) hkP⟩, hK.rise.filter _, fun z hz => hK.bnd z (List.mem_filter.mp hz).1, fun z hz => hK.lst z (List.mem_filter.mp hz).1, hK.lb,
        Nat.le_trans (List.length_filter_le _ _) hn100, hK.prise, fun z hz => List.mem_filter.mpr ⟨hK.psub z hz, ?_⟩⟩
      · rcases List.mem_cons.mp hb with rfl | hb
        · exact .inl (by simp)
        · rcases List.mem_cons.mp hb with rfl | hb
          · exact .inr hD0
          · exact .inl (by simp at hb ⊢; exact .inr (.inr hb))
      · simp [hpD, hpk, hpP]
      · have : z ∉ goneK v := fun h => by
          have := (List.mem_filter.mp h).2
          simp [hz] at this
        simpa using this
abbrev nm_Keep__pin : List Str := ["self", "night"]
abbrev pm_Keep__pin : List Str := ["self", "night"]
abbrev lv_Keep__pin : Nat := 3
theorem sc_Keep__pin : FnScope nm_Keep__pin pm_Keep__pin (defScope s_Keep__pin) := ⟨rfl, rfl, rfl, by decide +kernel, rfl, by decide +kernel, by decide +kernel⟩
def sp_Keep__pin (K : PySem.W.Frag) (mg : Str → Option Value) : Sp := fun vs H Q E => ∃ (k : Addr) (S : List Addr) (v : KV) (x : V) (n : String), vs = [.ref k, x] ∧ KeepAt K mg "Keep" [] H k S v ∧ Thing K H x n ∧
  ((∀ m, x = .int m → m ∉ v.ns) → ∀ H', Same H H' → E (.ref (cls mg "NotHeld")) none H') ∧
  (∀ m, x = .int m → m ∈ v.ns → m ∈ v.ps → ∀ H', Same H H' → E (.ref (cls mg "Pinned")) none H') ∧
  (∀ m, x = .int m → m ∈ v.ns → m ∉ v.ps → ∀ H' S' ps', ps'.Pairwise (· < ·) → (∀ z, z ∈ ps' ↔ z ∈ v.ps ∨ z = m) → Step S H H' → Own H S S' → KeepAt K mg "Keep" [] H' k S' { v with ps := ps' } → Q .non H')
theorem f_Keep__pin (T : Txt K mg) : Mo P w K mg base (L2.CX P w) lv_Keep__pin "Keep" "pin" pm_Keep__pin (sp_Keep__pin K mg) := by
  obtain ⟨f, fd, F, g, b⟩ := T.m_Keep__pin.ex
  refine ⟨f, fd, g, b, F.okX sc_Keep__pin (fun vs H Q E h => ?_) (fun cdv A outer s H vs Q E hr h => ?_)⟩
  · obtain ⟨k, S, v, x, n, rfl, _⟩ := h; rfl
  · obtain ⟨k, S, v, x, n, rfl, hK, hx, q1, q2, q3⟩ := h
    refine ⟨_, (pss_cons (ps_expr (pe_fn (f_look_held T) (hr.mono (by decide)) (by rfl) (passX (takes_of rfl rfl rfl rfl)) (pa_cons (pv 0) (pa_cons (pv 1) pa_nil))))
      (pss_cons (ps_if (pt_cmpR op_in_seq (pv 1) (pe_fld (pv 0) rfl) (by rfl)) (pss_one (ps_raise rfl (takes_of rfl rfl rfl rfl) (pmk_own PySem.F.excBase_RuntimeError T.x_Pinned.xP T.x_Pinned.gP T.x_Pinned.kP T.x_Pinned.rs rfl))) pss_nil)
      (pss_one (ps_fld (pv 0) (pe_callB cr_sortedI (by rfl) T.b_sorted (by decide +kernel) (pa_cons (pe_op op_cat (pe_fld (pv 0) rfl) (pe_lst (pa_cons (pv 1) pa_nil))) pa_nil)) rfl)))), ?_⟩
    with_reducible refine seq_k fun K_ hK_ => ?_
    walk_at "rt"
    refine ⟨"Keep", [], k, S, v, x, n, rfl, hK, hx, q1, fun m e hm H1 s1 => ?_⟩
    subst e
    have hK1 := hK.same s1
    obtain ⟨dx, r, N, Pn, rfl, hNP, hk, hR, hN, hP⟩ := hK1.at_
    have kc := hK.kc
    have hp100 := hK.plen
    have hkN : N ≠ k := ne_of hN hk (by intro z; cases z)
    walk_at "rt"
    subst hK_
    first | with_reducible refine seq_k fun K_ hK_ => ?_ | skip
    walk_at "rt"
    refine ⟨_, dx, _, hk, kc.o.cl, kc.np, _, kfs_pinned, Pn, _, rfl, .inl (sqL hP), rfl, flat_ints _, _, rfl, ?_⟩
    rw [if_neg Bool.false_ne_true, inV_ints]
    refine ite2 (fun c1 => q2 m rfl hm (by simpa using c1) _ s1) (fun c1 => ?_)
    have hmp : m ∉ v.ps := by simpa using c1
    walk_at "rt"
    subst hK_
    first | with_reducible refine seq_k fun K_ hK_ => ?_ | skip
    walk_at "rt"
    refine ⟨_, dx, _, hk, kc.o.cl, kc.np, _, kfs_pinned, ?_⟩
    intro q1 n_q1
    generalize hG_ : upd _ q1 _ = H2
    obtain ⟨s2, hq1⟩ := newF n_q1 hG_
    clear hG_
    refine ⟨Pn, q1, _, _, rfl, rfl, s2 _ _ hP, hq1, sz (by simp; omega), ?_⟩
    intro q2' n_q2'
    generalize hG_ : upd _ q2' _ = H3
    obtain ⟨s3, hq2⟩ := newF n_q2' hG_
    clear hG_
    have hq2 : H3 q2' = some (.lst ((v.ps ++ [m]).map V.int)) := by rw [hq2, List.map_append]; rfl
    refine ⟨q2', _, rfl, sqL hq2, fun ns' z hperm hsort hz => ?_⟩
    generalize hG_ : upd H3 z _ = H4
    obtain ⟨s4, hz4⟩ := newF hz hG_
    clear hG_
    have s24 := s2.trans (s3.trans s4)
    have s14 := s1.trans s24
    have hk4 := s24 _ _ hk
    refine ⟨_, dx, _, hk4, kc.o.cl, kc.np, (by show (4 : Nat) < 1000; decide), ?_⟩
    have st4 : Step [k, N, Pn] H H4 := .of s14
    have T4 : Step [k] H4 H4 := .refl
    generalize hG_ : upd _ k _ = H5
    obtain ⟨T5, _, _⟩ := putH T4 (by simp) hk4 (fun _ z => nomatch z) hG_
    obtain ⟨st5, b5, hk5⟩ := putH st4 (by simp) hk4 (fun _ z => nomatch z) hG_
    clear hG_
    have nd : ns'.Nodup := by
      rw [hperm.nodup_iff, List.nodup_append]
      exact ⟨rise_nodup hK.prise, by simp, fun a ha b hb e => by rw [List.mem_singleton.mp hb] at e; rw [e] at ha; exact hmp ha⟩
    have hmem : ∀ y, y ∈ ns' ↔ y ∈ v.ps ∨ y = m := fun y => by rw [hperm.mem_iff]; simp
    have hr := rise_of_le hsort nd
    have hz2 := (s2.trans s3).free hz
    have hzN : N ≠ z := ne_of_none hN hz2
    have hzk : z ≠ k := (ne_of_none hk hz2).symm
    refine q3 m rfl hm hmp H5 [k, N, z] ns' hr hmem st5 (fun b hb => ?_) ⟨kc, by decide, ⟨dx, r, N, z, rfl, hzN, hk5, (hR.same s24).step (T5), b5 _ _ (s24 _ _ hN) hkN, b5 _ _ hz4 hzk⟩, hK.rise, hK.bnd, hK.lst, hK.lb, hK.n100, hr, fun y hy => ?_⟩
    · rcases List.mem_cons.mp hb with rfl | hb
      · exact .inl (by simp)
      · rcases List.mem_cons.mp hb with rfl | hb
        · exact .inl (by simp)
        · rw [List.mem_singleton.mp hb]
          exact .inr (s1.free hz2)
    · rcases (hmem y).mp hy with h | h
      · exact hK.psub y h
      · rw [h]; exact hm
abbrev nm_Keep__unpin : List Str := ["self", "night", "one"]
abbrev pm_Keep__unpin : List Str := ["self", "night"]
abbrev lv_Keep__unpin : Nat := 2
theorem sc_Keep__unpin : FnScope nm_Keep__unpin pm_Keep__unpin (defScope s_Keep__unpin) := ⟨rfl, rfl, rfl, by decide +kernel, rfl, by decide +kernel, by decide +kernel⟩
def sp_Keep__unpin (K : PySem.W.Frag) (mg : Str → Option Value) : Sp := fun vs H Q E => ∃ (k : Addr) (S : List Addr) (v : KV) (x : V) (n : String), vs = [.ref k, x] ∧ KeepAt K mg "Keep" [] H k S v ∧ Thing K H x n ∧
  ((∀ m, x = .int m → m ∉ v.ps) → ∀ H', Same H H' → E (.ref (cls mg "NotPinned")) none H') ∧
  (∀ m, x = .int m → m ∈ v.ps → ∀ H' S', Step S H H' → Own H S S' → KeepAt K mg "Keep" [] H' k S' { v with ps := v.ps.filter fun z => decide (z ≠ m) } → Q .non H')
theorem f_Keep__unpin (T : Txt K mg) : Mo P w K mg base (L2.CX P w) lv_Keep__unpin "Keep" "unpin" pm_Keep__unpin (sp_Keep__unpin K mg) := by
  obtain ⟨f, fd, F, g, b⟩ := T.m_Keep__unpin.ex
  refine ⟨f, fd, g, b, F.okX sc_Keep__unpin (fun vs H Q E h => ?_) (fun cdv A outer s H vs Q E hr h => ?_)⟩
  · obtain ⟨k, S, v, x, n, rfl, _⟩ := h; rfl
  · obtain ⟨k, S, v, x, n, rfl, hK, hx, q1, q2⟩ := h
    refine ⟨_, (pss_cons (ps_if (PW.pt (pw_or (pt_not (pt_val (pe_fn (f_is_number T) (hr.mono (by decide)) (by rfl) pass0 (pa_cons (pv 1) (pa_cons pe_int (pa_cons (pv 1) pa_nil)))))) (pw_or1 (pt_cmpR op_notIn_seq (pv 1) (pe_fld (pv 0) rfl) (by rfl))))) (pss_one (ps_raise rfl (takes_of rfl rfl rfl rfl) (pmk_own PySem.F.excBase_RuntimeError T.x_NotPinned.xP T.x_NotPinned.gP T.x_NotPinned.kP T.x_NotPinned.rs rfl))) pss_nil)
      (pss_one (ps_fld (pv 0) (pe_lc (own := [("one", 2)]) (g := gName 2) (by rfl) sc_Keep__unpin.nd (pi_list (pe_fld (pv 0) rfl)) (blkOk_by (own := [("one", 2)]) (N := nm_Keep__unpin) (sc := defScope s_Keep__unpin) (by decide +kernel)) (fun _ _ _ _ _ => (pg_name (i := 2) sc_Keep__unpin.nd rfl (Or.inl rfl))) (fun _ _ _ _ _ => (pts_one (pt_cmpR op_ne (pv 2) (pv 1) (nomark _)))) (fun _ _ _ _ _ => (pv 2))) rfl))), ?_⟩
    obtain ⟨dx, r, N, Pn, rfl, hNP, hk, hR, hN, hP⟩ := hK.at_
    have kc := hK.kc
    have hp100 := hK.plen
    have hkN : N ≠ k := ne_of hN hk (by intro z; cases z)
    with_reducible refine seq_k fun K_ hK_ => ?_
    walk_at "rt"
    refine ⟨x, n, 0, x, rfl, hx, fun i e => ⟨i, e⟩, _, rfl, ?_⟩
    refine ite2 (fun c1 => q1 (fun m e hm => ?_) _ (Same.refl _)) (fun c1 => ?_)
    · subst e
      have := hK.bnd m (hK.psub m hm)
      simp [isNumV] at c1
      omega
    · obtain ⟨m, rfl⟩ : ∃ m, x = .int m := by
        cases x with
        | int i => exact ⟨i, rfl⟩
        | _ => simp [isNumV] at c1
      refine ⟨_, dx, _, hk, kc.o.cl, kc.np, _, kfs_pinned, Pn, _, rfl, .inl (sqL hP), rfl, flat_ints _, _, rfl, ?_⟩
      rw [if_pos rfl, inV_ints]
      refine ite2 (fun c2 => q1 (fun m' e hm => ?_) _ (Same.refl _)) (fun c2 => ?_)
      · cases e
        simp [hm] at c2
      · have hmp : m ∈ v.ps := by simpa using c2
        walk_at "rt"
        subst hK_
        first | with_reducible refine seq_k fun K_ hK_ => ?_ | skip
        walk_at "rt"
        refine ⟨_, dx, _, hk, kc.o.cl, kc.np, _, kfs_pinned, Pn, rfl, ⟨_, sqL hP⟩, fun D hD => ?_⟩
        refine lcF (fun z => decide (z ≠ m)) hD (sqL hP) (by omega) (fun _ => rfl) (fun _ => rfl) (fun y H3 _ s3 Q hQ => ?_) (fun H3 s3 hD3 => ?_)
        · walk_at "rt"
          rw [← decide_not]
          exact hQ H3 (Same.refl _)
        · have hk3 := s3 _ _ hk
          refine ⟨_, dx, _, hk3, kc.o.cl, kc.np, (by show (4 : Nat) < 1000; decide), ?_⟩
          have st3 : Step [k, N, Pn] H H3 := .of s3
          generalize hG_ : upd _ k _ = H4
          obtain ⟨st4, b4, hk4⟩ := putH st3 (by simp) hk3 (fun _ z => nomatch z) hG_
          clear hG_
          have hDk : D ≠ k := (ne_of_none hk hD).symm
          have hDN : N ≠ D := ne_of_none hN hD
          refine q2 m rfl hmp H4 [k, N, D] st4 (fun b hb => ?_) ⟨kc, by decide, ⟨dx, r, N, D, rfl, hDN, hk4, hR.step st4, b4 _ _ (s3 _ _ hN) hkN, b4 _ _ hD3 hDk⟩, hK.rise, hK.bnd, hK.lst, hK.lb, hK.n100, hK.prise.filter _, fun z hz => hK.psub z (List.mem_filter.mp hz).1⟩
          rcases List.mem_cons.mp hb with rfl | hb
          · exact .inl (by simp)
          · rcases List.mem_cons.mp hb with rfl | hb
            · exact .inl (by simp)
            · rw [List.mem_singleton.mp hb]
              exact .inr hD
end
end Nk
namespace Nk
open PySem L2 PySem.Spec PyProof.Rows
section
variable {X : Cx}
/-- len of a set -/
def rLenSt (w : World) : List V → Hp → VK → Prop := fun vs H Q => ∃ (a : Addr) (S : Int → Bool) (n : Nat), vs = [V.ref a] ∧ H a = some (SetO w a S n) ∧ n ≤ 10000 ∧ ∀ D : List Int, D.Nodup → (∀ k : Int, k ∈ D ↔ S k = true) → D.length = n → Q (.int n) H
theorem cr_lenS (hcalm : X.calm = true) : CallR X (.builtin "len") (rLenSt X.w) := by
  intro pins s σ H vs us Q I r h
  obtain ⟨a, S, n, rfl, ha, hn0, q⟩ := h
  rw [Vals.ref1 r]
  obtain ⟨o, es, ep, t, ho, hex, hd, g, nd, hm, hb, hf, hn, hr, hl⟩ := setO_get I ha
  exact call_len_set ho hex hd hf (by rw [hn] <;> omega) ⟨.int n, H, I.tok _, ⟨_, by rw [hn]⟩, q (es.toList.map keyOf) nd (fun k => by rw [← hm k]) (by rw [List.length_map, Array.length_toList]; exact hn)⟩
end
section
variable {P : Program} {w : World} {K : PySem.W.Frag} {mg : Str → Option Value} {base : Heap}
abbrev nm_stays_by : List Str := ["rule", "nights", "last", "night", "rounds", "many", "number", "later", "count", "begun", "one"]
abbrev pm_stays_by : List Str := ["rule", "nights", "last", "night"]
abbrev lv_stays_by : Nat := 2
theorem sc_stays_by : FnScope nm_stays_by pm_stays_by (defScope s_stays_by) := ⟨rfl, rfl, rfl, by decide +kernel, rfl, by decide +kernel, by decide +kernel⟩
def sp_stays_by (K : PySem.W.Frag) : Sp := fun vs H Q _ => ∃ (x : V) (ru : List Int × Int) (l : Addr) (ns : List Int) (last n : Int), vs = [x, .ref l, .int last, .int n] ∧ RuleAt H x ru ∧ SqL K H l (ns.map V.int) ∧ ns.length ≤ 1000 ∧
  ∀ H', Same H H' → Q (.int (staysV ru ns last n)) H'
theorem f_stays_by (T : Txt K mg) : Fk P w K mg base CX0 lv_stays_by "stays_by" pm_stays_by (sp_stays_by K) := by
  obtain ⟨f, fd, F, g, b⟩ := T.d_stays_by.ex
  refine ⟨f, fd, g, F.kp, b, F.ok sc_stays_by (fun vs H Q E h => ?_) (fun cdv A outer s H vs Q E hr h => ?_)⟩
  · obtain ⟨x, ru, l, ns, last, n, rfl, _⟩ := h; rfl
  · obtain ⟨x, ru, l, ns, last, n, rfl, hx, hl, hz, q⟩ := h
    obtain ⟨bx, rx, rfl, hbx, hrx, m1, m20⟩ := id hx
    refine ⟨_, (pss_cons (ps_asg (pv 0) (pg_tup rfl (pgs_cons (pg_name (i := 4) sc_stays_by.nd rfl (Or.inr rfl)) (pgs_cons (pg_name (i := 5) sc_stays_by.nd rfl (Or.inl rfl)) pgs_nil))))
      (pss_cons (ps_set (i := 6) sc_stays_by.nd rfl (.inl rfl) (pe_fn (f_number_of T) (hr.mono (by decide)) (by rfl) pass0 (pa_cons (pv 4) (pa_cons (pv 3) pa_nil))))
      (pss_cons (ps_setLc (own := [("one", 10)]) (g := gName 10) (i := 7) (by rfl) sc_stays_by.nd rfl rfl (sw_true rfl rfl rfl (by decide +kernel)) (pi_list (pv 1)) (blkOk_by (own := [("one", 10)]) (N := nm_stays_by) (sc := defScope s_stays_by) (by decide +kernel)) (fun _ _ _ _ _ => (pg_name (i := 10) sc_stays_by.nd rfl (Or.inl rfl))) (fun _ _ _ _ _ => (pts_one (pt_cmpR op_gt (pv 10) (pv 3) (nomark _)))) (fun _ _ _ _ _ => (pe_fn (f_number_of T) (hr.mono (by decide)) (by rfl) pass0 (pa_cons (pv 4) (pa_cons (pv 10) pa_nil)))))
      (pss_cons (ps_if (PW.pt (pw_or (pt_cmpR op_in_seq (pv 6) (pv 7) (by rfl)) (pw_or1 (pt_cmpR op_eq (pe_fn (f_number_of T) (hr.mono (by decide)) (by rfl) pass0 (pa_cons (pv 4) (pa_cons (pe_op op_add (pv 2) pe_int) pa_nil))) (pv 6) (nomark _))))) (pss_one (ps_ret pe_int)) pss_nil)
      (pss_cons (ps_set (i := 8) sc_stays_by.nd rfl (.inl rfl) (pe_callB (cr_lenS rfl) (by rfl) T.b_len PySem.boot_len (pa_cons (pe_callTy (cr_setLI rfl) (by rfl) T.b_set (by decide +kernel) (pa_cons (pv 7) pa_nil)) pa_nil)))
      (pss_cons (ps_if (pt_cmpR op_ge (pv 8) (pv 5) (nomark _)) (pss_one (ps_ret pe_int)) pss_nil)
      (pss_cons (ps_set (i := 9) sc_stays_by.nd rfl (.inl rfl) (pe_fn (f_number_of T) (hr.mono (by decide)) (by rfl) pass0 (pa_cons (pv 4) (pa_cons (pe_op op_add (pv 2) pe_int) pa_nil))))
      (pss_cons (ps_if (pt_cmpR op_in_seq (pv 9) (pv 7) (by rfl)) (pss_one (ps_ret (pe_op op_sub (pe_op op_sub (pe_fn (f_first_of T) (hr.mono (by decide)) (by rfl) pass0 (pa_cons (pv 4) (pa_cons (pe_op op_sub (pe_op op_add (pv 9) (pv 5)) (pv 8)) pa_nil))) (pv 2)) pe_int))) pss_nil)
      (pss_one (ps_ret (pe_callB (call_max2 rfl) (by rfl) T.b_max (by decide +kernel) (pa_cons pe_int (pa_cons (pe_op op_sub (pe_op op_sub (pe_fn (f_first_of T) (hr.mono (by decide)) (by rfl) pass0 (pa_cons (pv 4) (pa_cons (pe_op op_sub (pe_op op_sub (pe_op op_add (pv 9) (pv 5)) (pv 8)) pe_int) pa_nil))) (pv 2)) pe_int) pa_nil))))))))))))), ?_⟩
    with_reducible refine seq_k fun K_ hK_ => ?_
    walk_at "rt"
    refine ⟨bx, [.ref rx, .int ru.2], rfl, sqT hbx, rfl, ?_⟩
    walk_at "rt"
    subst hK_
    first | with_reducible refine seq_k fun K_ hK_ => ?_ | skip
    walk_at "rt"
    refine ⟨rx, ru.1, n, rfl, hrx, ?_⟩
    walk_at "rt"
    subst hK_
    first | with_reducible refine seq_k fun K_ hK_ => ?_ | skip
    walk_at "rt"
    refine ⟨⟨_, hl⟩, fun D hD => ?_⟩
    refine lcL hD hl (fun j => ((((ns.take j).filter fun z => decide (n < z)).map (numOf ru.1)).map V.int)) rfl (fun j x H2 hxx pp => ?_) (fun H1 s1 hD1 => ?_)
    · rw [List.getElem?_map] at hxx
      cases e : ns[j]? with
      | none => rw [e] at hxx; cases hxx
      | some z =>
      rw [e] at hxx
      cases hxx
      have hfr := filter_take_next (fun z => decide (n < z)) e
      walk_at "rt"
      refine ite2 (fun c1 => ?_) (fun c1 => pp.skip (Same.refl _) ?_)
      · refine ⟨rx, ru.1, z, rfl, hrx.same pp.same, ?_⟩
        refine pp.push hD ?_ (Same.refl _) ?_
        · rw [List.length_map, List.length_map]
          exact Nat.le_trans (filter_len ns _ j) (by omega)
        · show _ = _
          rw [hfr]
          simp [c1]
      · show _ = _
        rw [hfr]
        simp [c1]
    rw [List.length_map, List.take_length] at hD1
    have hD1 : H1 D = some (.lst ((laterR ru ns n).map V.int)) := hD1
    have hr1 := hrx.same s1
    have hll : (laterR ru ns n).length ≤ 1000 := by
      unfold laterR
      rw [List.length_map]
      exact Nat.le_trans (List.length_filter_le _ _) hz
    have hdef : staysV ru ns last n = staysBy ru (laterR ru ns n) ((ddp (laterR ru ns n)).length : Int) last n := rfl
    rw [hdef] at q
    generalize laterR ru ns n = later at hD1 hll q
    unfold staysBy at q
    walk_at "rt"
    subst hK_
    first | with_reducible refine seq_k fun K_ hK_ => ?_ | skip
    walk_at "rt"
    refine ⟨D, _, rfl, .inl (sqL hD1), rfl, flat_ints _, _, rfl, ?_⟩
    rw [if_neg Bool.false_ne_true, inV_ints]
    refine ite2 (fun c1 => ?_) (fun c1 => ?_)
    · rw [if_pos (.inl (by simpa using c1))] at q
      exact q _ s1
    refine ⟨rx, ru.1, last + 1, rfl, hr1, rfl, ?_⟩
    refine ite2 (fun c2 => ?_) (fun c2 => ?_)
    · rw [if_pos (.inr (by simpa using c2))] at q
      exact q _ s1
    rw [if_neg (fun h => h.elim (by simpa using c1) (by simpa using c2))] at q
    walk_at "rt"
    subst hK_
    first | with_reducible refine seq_k fun K_ hK_ => ?_ | skip
    walk_at "rt"
    refine ⟨D, later, rfl, sqL hD1, by omega, fun z1 c hz1 hc => ?_⟩
    generalize hG_ : upd H1 z1 _ = H2
    obtain ⟨s2, hz2⟩ := newF hz1 hG_
    clear hG_
    refine ⟨z1, _, c, rfl, hz2, by omega, fun L nd hL hLc => ?_⟩
    have hcd : c = (ddp later).length := by
      rw [← hLc]
      exact ddp_len nd fun x => by rw [hL]; simp
    subst hcd
    have s12 := s1.trans s2
    have hr2 := hr1.same s2
    have hD2 := s2 _ _ hD1
    walk_at "rt"
    subst hK_
    first | with_reducible refine seq_k fun K_ hK_ => ?_ | skip
    walk_at "rt"
    refine ite2 (fun c3 => ?_) (fun c3 => ?_)
    · rw [if_pos (by omega)] at q
      exact q _ s12
    rw [if_neg (by omega)] at q
    walk_at "rt"
    subst hK_
    first | with_reducible refine seq_k fun K_ hK_ => ?_ | skip
    walk_at "rt"
    refine ⟨rx, ru.1, last + 1, rfl, hr2, ?_⟩
    walk_at "rt"
    subst hK_
    first | with_reducible refine seq_k fun K_ hK_ => ?_ | skip
    walk_at "rt"
    refine ⟨D, _, rfl, .inl (sqL hD2), rfl, flat_ints _, _, rfl, ?_⟩
    rw [if_neg Bool.false_ne_true, inV_ints]
    refine ite2 (fun c4 => ?_) (fun c4 => ?_)
    · rw [if_pos (by simpa using c4)] at q
      exact ⟨rx, ru.1, _, rfl, hr2, fun H3 s3 => ⟨_, rfl, q _ (s12.trans s3)⟩⟩
    · rw [if_neg (by simpa using c4)] at q
      walk_at "rt"
      subst hK_
      first | with_reducible refine seq_k fun K_ hK_ => ?_ | skip
      walk_at "rt"
      refine ⟨rx, ru.1, _, rfl, hr2, fun H3 s3 => ⟨_, rfl, ?_⟩⟩
      have q' := q _ (s12.trans s3)
      generalize firstOf ru.1 (numOf ru.1 (last + 1) + ru.2 - ((ddp later).length : Int) - 1) - last - 1 = y at q' ⊢
      have e : (if y > 0 then y else 0) = max 0 y := by split <;> omega
      rw [e]
      exact q'
abbrev nm_Keep__stays : List Str := ["self", "night", "rule"]
abbrev pm_Keep__stays : List Str := ["self", "night"]
abbrev lv_Keep__stays : Nat := 3
theorem sc_Keep__stays : FnScope nm_Keep__stays pm_Keep__stays (defScope s_Keep__stays) := ⟨rfl, rfl, rfl, by decide +kernel, rfl, by decide +kernel, by decide +kernel⟩
def sp_Keep__stays (K : PySem.W.Frag) (mg : Str → Option Value) : Sp := fun vs H Q E => ∃ (k : Addr) (S : List Addr) (v : KV) (x : V) (n : String), vs = [.ref k, x] ∧ KeepAt K mg "Keep" [] H k S v ∧ Thing K H x n ∧
  ((∀ m, x = .int m → m ∉ v.ns) → ∀ H', Same H H' → E (.ref (cls mg "NotHeld")) none H') ∧
  (∀ m, x = .int m → m ∈ v.ns → m ∈ v.ps → ∀ H', Same H H' → Q .non H') ∧
  (∀ m l s, x = .int m → m ∈ v.ns → m ∉ v.ps → v.last = some l → Lasts v.rus v.ns l m s → ∀ H', Same H H' → Q (.int s) H')
theorem f_Keep__stays (T : Txt K mg) : Mo P w K mg base (L2.CX P w) lv_Keep__stays "Keep" "stays" pm_Keep__stays (sp_Keep__stays K mg) := by
  obtain ⟨f, fd, F, g, b⟩ := T.m_Keep__stays.ex
  refine ⟨f, fd, g, b, F.okX sc_Keep__stays (fun vs H Q E h => ?_) (fun cdv A outer s H vs Q E hr h => ?_)⟩
  · obtain ⟨k, S, v, x, n, rfl, _⟩ := h; rfl
  · obtain ⟨k, S, v, x, n, rfl, hK, hx, q1, q2, q3⟩ := h
    refine ⟨_, (pss_cons (ps_expr (pe_fn (f_look_held T) (hr.mono (by decide)) (by rfl) (passX (takes_of rfl rfl rfl rfl)) (pa_cons (pv 0) (pa_cons (pv 1) pa_nil))))
      (pss_cons (ps_if (pt_cmpR op_in_seq (pv 1) (pe_fld (pv 0) rfl) (by rfl)) (pss_one (ps_ret pe_non)) pss_nil)
      (pss_one (ps_ret (pe_callB (cr_max rfl) (by rfl) T.b_max (by decide +kernel) (pa_cons (pe_lc (own := [("rule", 2)]) (g := gName 2) (tt := tYes) (by rfl) sc_Keep__stays.nd (pi_tup (pe_fld (pv 0) rfl)) (blkOk_by (own := [("rule", 2)]) (N := nm_Keep__stays) (sc := defScope s_Keep__stays) (by decide +kernel)) (fun _ _ _ _ _ => (pg_name (i := 2) sc_Keep__stays.nd rfl (Or.inl rfl))) (fun _ _ _ _ _ => pts_nil) (fun _ _ _ _ _ => (pe_fn (f_stays_by T) (hr.mono (by decide)) (by rfl) pass0 (pa_cons (pv 2) (pa_cons (pe_fldK K rfl (pv 0) rfl) (pa_cons (pe_fldK K rfl (pv 0) rfl) (pa_cons (pv 1) pa_nil))))))) pa_nil)))))), ?_⟩
    with_reducible refine seq_k fun K_ hK_ => ?_
    walk_at "rt"
    refine ⟨"Keep", [], k, S, v, x, n, rfl, hK, hx, q1, fun m e hm H1 s1 => ?_⟩
    subst e
    have hK1 := hK.same s1
    obtain ⟨dx, r, N, Pn, rfl, hNP, hk, hR, hN, hP⟩ := hK1.at_
    have kc := hK.kc
    walk_at "rt"
    subst hK_
    first | with_reducible refine seq_k fun K_ hK_ => ?_ | skip
    walk_at "rt"
    refine ⟨_, dx, _, hk, kc.o.cl, kc.np, _, kfs_pinned, Pn, _, rfl, .inl (sqL hP), rfl, flat_ints _, _, rfl, ?_⟩
    rw [if_neg Bool.false_ne_true, inV_ints]
    refine ite2 (fun c1 => q2 m rfl hm (by simpa using c1) _ s1) (fun c1 => ?_)
    have hmp : m ∉ v.ps := by simpa using c1
    obtain ⟨l, hla, hml⟩ := hK.lst m hm
    have hlast : ∀ z ∈ v.ns, z ≤ l := fun z hz => by
      obtain ⟨l', h1, h2⟩ := hK.lst z hz
      rw [hla] at h1; cases h1; exact h2
    have hn100 := hK.n100
    obtain ⟨xs, hxs, hxl, hxr⟩ := hR.ex
    have hrn := hR.rnds
    have hr5 := hR.l5
    have hr1 := hR.l1
    rw [hla] at hk
    walk_at "rt"
    subst hK_
    first | with_reducible refine seq_k fun K_ hK_ => ?_ | skip
    walk_at "rt"
    refine ⟨_, dx, _, hk, kc.o.cl, kc.nr, _, kfs_rules, r, rfl, ⟨_, sqT hxs⟩, fun D hD => ?_⟩
    refine lcT hD (sqT hxs) (fun j => ((v.rus.take j).map fun ru => staysV ru v.ns l m).map V.int) rfl (fun j x H2 hx pp => ?_) (fun H2 s2 hD2 => ?_)
    · obtain ⟨ru, hru, hrule⟩ := hxr j x hx
      walk_at "rt"
      refine ⟨_, dx, _, pp.same _ _ hk, kc.o.cl, kc.nn, _, kfs_nights, _, dx, _, pp.same _ _ hk, kc.o.cl, kc.nl, _, kfs_last, ?_⟩
      obtain ⟨b1, r1, rfl, hb1, hrr1, m1, m20⟩ := id hrule
      refine ⟨_, ru, N, v.ns, l, m, rfl, ⟨b1, r1, rfl, pp.same _ _ hb1, hrr1.same pp.same, m1, m20⟩, sqL (pp.same _ _ hN), by omega, fun H3 s3 => ?_⟩
      refine pp.push hD (by simp; omega) s3 ?_
      show _ = _
      rw [take_next hru, List.map_append, List.map_append]
      rfl
    · rw [hxl, List.take_length] at hD2
      refine ⟨D, _, rfl, sqL hD2, by rw [List.length_map]; omega, fun s hs1 hs2 => ?_⟩
      exact q3 m l s rfl hm hmp hla (lasts_max (fun ru h => (hrn ru h).1) hK.rise hlast hm hs1 hs2) _ (Same.trans s1 s2)
end
end Nk
namespace Nk
open PySem L2
section
variable {P : Program} {w : World} {K : PySem.W.Frag} {mg : Str → Option Value} {base : Heap}
/-- the errors' names, as the laws number them -/
def exNames : List Str := ["BadRounds", "BadNight", "BadNumber", "BadRules", "BadNights", "Elder", "Full", "NotHeld", "Pinned", "NotPinned", "BadState", "BadPart", "NotFit", "IsWhole", "BadPlan", "Unlike", "BadText"]
/-- an error of the j-th kind, caught, at a -/
def CaughtAt (mg : Str → Option Value) (H : Hp) (a : Addr) (j : Nat) : Prop := ∃ (x : Str) (d : Option Addr), exNames[j]? = some x ∧ H a = some (ExV (.ref (cls mg x)) d a) ∧ ∀ dd, d = some dd → ∃ fs, H dd = some (.xd fs)
theorem ex_count : ∀ j ∈ List.range 17, ((exNames.map fun y => V.bl (decide (exNames.getD j "" = y))).countP fun z => eqV z (.bl true)) = 1 := by decide +kernel
theorem ex_at : ∀ j ∈ List.range 17, ∀ m ∈ List.range 17, exNames.getD j "" = exNames.getD m "" → j = m := by decide +kernel
abbrev nm__law_word : List Str := ["caught", "kinds"]
abbrev pm__law_word : List Str := ["caught"]
abbrev lv__law_word : Nat := 1
theorem sc__law_word : FnScope nm__law_word pm__law_word (defScope s__law_word) := ⟨rfl, rfl, rfl, by decide +kernel, rfl, by decide +kernel, by decide +kernel⟩
def sp__law_word (mg : Str → Option Value) : Sp := fun vs H Q _ => ∃ (a : Addr) (j : Nat), vs = [.ref a] ∧ CaughtAt mg H a j ∧ ∀ H', Same H H' → Q (.int j) H'
theorem ec_all (T : Txt K mg) : ∀ x ∈ exNames, Ec K mg x := by
  intro x hx
  simp only [exNames, List.mem_cons, List.not_mem_nil, or_false] at hx
  rcases hx with rfl | rfl | rfl | rfl | rfl | rfl | rfl | rfl | rfl | rfl | rfl | rfl | rfl | rfl | rfl | rfl | rfl
  · exact T.e_BadRounds
  · exact T.e_BadNight
  · exact T.e_BadNumber
  · exact T.e_BadRules
  · exact T.e_BadNights
  · exact T.e_Elder
  · exact T.e_Full
  · exact T.e_NotHeld
  · exact T.e_Pinned
  · exact T.e_NotPinned
  · exact T.e_BadState
  · exact T.e_BadPart
  · exact T.e_NotFit
  · exact T.e_IsWhole
  · exact T.e_BadPlan
  · exact T.e_Unlike
  · exact T.e_BadText
theorem isx_of (T : Txt K mg) {H : Hp} {a : Addr} {x y : Str} {d : Option Addr} {Q : VK} (ha : H a = some (ExV (.ref (cls mg x)) d a)) (hd : ∀ dd, d = some dd → ∃ fs, H dd = some (.xd fs)) (hx : x ∈ exNames) (hy : y ∈ exNames) (q : Q (.bl (decide (x = y))) H) : rIsX K [.ref a, .ref (cls mg y)] H Q :=
  ⟨a, _, d, _, _, _, rfl, ha, (ec_all T x hx).ec, .own _, (ec_all T x hx).is (ec_all T y hy) T.k_err (by intro z; rw [z] at hy; revert hy; decide), hd, q⟩
theorem isxR_of (T : Txt K mg) {H : Hp} {a : Addr} {x : Str} {d : Option Addr} {Q : VK} (ha : H a = some (ExV (.ref (cls mg x)) d a)) (hd : ∀ dd, d = some dd → ∃ fs, H dd = some (.xd fs)) (hx : x ∈ exNames) (q : Q (.bl true) H) : rIsX K [.ref a, .ty "RuntimeError"] H Q :=
  ⟨a, _, d, _, _, _, rfl, ha, (ec_all T x hx).ec, .ty _, (ec_all T x hx).isR, hd, q⟩
theorem f__law_word (T : Txt K mg) : Fk P w K mg base CX0 lv__law_word "_law_word" pm__law_word (sp__law_word mg) := by
  obtain ⟨f, fd, F, g, b⟩ := T.d__law_word.ex
  refine ⟨f, fd, g, F.kp, b, F.ok sc__law_word (fun vs H Q E h => ?_) (fun cdv A outer s H vs Q E hr h => ?_)⟩
  · obtain ⟨a, j, rfl, _⟩ := h; rfl
  · obtain ⟨a, j, rfl, ⟨x, d, hj, ha, hd⟩, q⟩ := h
    have hx : x ∈ exNames := List.mem_of_getElem? hj
    refine ⟨_, (pss_cons (ps_if (pt_not (pt_val (pe_callB call_isX (by rfl) T.b_isinstance (by decide +kernel) (pa_cons (pv 0) (pa_cons (pe_bltn (v := .ty "RuntimeError") (by rfl) T.b_RuntimeError (by decide +kernel) rfl) pa_nil))))) (pss_one (ps_ret (pe_un un_neg pe_int))) pss_nil)
      (pss_cons (ps_set (i := 1) sc__law_word.nd rfl (.inl rfl) (pe_lst (pa_cons (pe_callB call_isX (by rfl) T.b_isinstance (by decide +kernel) (pa_cons (pv 0) (pa_cons (pe_glob (v := .ref (cls mg "BadRounds")) (by rfl) T.e_BadRounds.gP rfl) pa_nil))) (pa_cons (pe_callB call_isX (by rfl) T.b_isinstance (by decide +kernel) (pa_cons (pv 0) (pa_cons (pe_glob (v := .ref (cls mg "BadNight")) (by rfl) T.e_BadNight.gP rfl) pa_nil))) (pa_cons (pe_callB call_isX (by rfl) T.b_isinstance (by decide +kernel) (pa_cons (pv 0) (pa_cons (pe_glob (v := .ref (cls mg "BadNumber")) (by rfl) T.e_BadNumber.gP rfl) pa_nil))) pa_nil)))))
      (pss_cons (ps_set (i := 1) sc__law_word.nd rfl (.inl rfl) (pe_op op_cat (pv 1) (pe_lst (pa_cons (pe_callB call_isX (by rfl) T.b_isinstance (by decide +kernel) (pa_cons (pv 0) (pa_cons (pe_glob (v := .ref (cls mg "BadRules")) (by rfl) T.e_BadRules.gP rfl) pa_nil))) (pa_cons (pe_callB call_isX (by rfl) T.b_isinstance (by decide +kernel) (pa_cons (pv 0) (pa_cons (pe_glob (v := .ref (cls mg "BadNights")) (by rfl) T.e_BadNights.gP rfl) pa_nil))) (pa_cons (pe_callB call_isX (by rfl) T.b_isinstance (by decide +kernel) (pa_cons (pv 0) (pa_cons (pe_glob (v := .ref (cls mg "Elder")) (by rfl) T.e_Elder.gP rfl) pa_nil))) pa_nil))))))
      (pss_cons (ps_set (i := 1) sc__law_word.nd rfl (.inl rfl) (pe_op op_cat (pv 1) (pe_lst (pa_cons (pe_callB call_isX (by rfl) T.b_isinstance (by decide +kernel) (pa_cons (pv 0) (pa_cons (pe_glob (v := .ref (cls mg "Full")) (by rfl) T.e_Full.gP rfl) pa_nil))) (pa_cons (pe_callB call_isX (by rfl) T.b_isinstance (by decide +kernel) (pa_cons (pv 0) (pa_cons (pe_glob (v := .ref (cls mg "NotHeld")) (by rfl) T.e_NotHeld.gP rfl) pa_nil))) (pa_cons (pe_callB call_isX (by rfl) T.b_isinstance (by decide +kernel) (pa_cons (pv 0) (pa_cons (pe_glob (v := .ref (cls mg "Pinned")) (by rfl) T.e_Pinned.gP rfl) pa_nil))) pa_nil))))))
      (pss_cons (ps_set (i := 1) sc__law_word.nd rfl (.inl rfl) (pe_op op_cat (pv 1) (pe_lst (pa_cons (pe_callB call_isX (by rfl) T.b_isinstance (by decide +kernel) (pa_cons (pv 0) (pa_cons (pe_glob (v := .ref (cls mg "NotPinned")) (by rfl) T.e_NotPinned.gP rfl) pa_nil))) (pa_cons (pe_callB call_isX (by rfl) T.b_isinstance (by decide +kernel) (pa_cons (pv 0) (pa_cons (pe_glob (v := .ref (cls mg "BadState")) (by rfl) T.e_BadState.gP rfl) pa_nil))) (pa_cons (pe_callB call_isX (by rfl) T.b_isinstance (by decide +kernel) (pa_cons (pv 0) (pa_cons (pe_glob (v := .ref (cls mg "BadPart")) (by rfl) T.e_BadPart.gP rfl) pa_nil))) pa_nil))))))
      (pss_cons (ps_set (i := 1) sc__law_word.nd rfl (.inl rfl) (pe_op op_cat (pv 1) (pe_lst (pa_cons (pe_callB call_isX (by rfl) T.b_isinstance (by decide +kernel) (pa_cons (pv 0) (pa_cons (pe_glob (v := .ref (cls mg "NotFit")) (by rfl) T.e_NotFit.gP rfl) pa_nil))) (pa_cons (pe_callB call_isX (by rfl) T.b_isinstance (by decide +kernel) (pa_cons (pv 0) (pa_cons (pe_glob (v := .ref (cls mg "IsWhole")) (by rfl) T.e_IsWhole.gP rfl) pa_nil))) (pa_cons (pe_callB call_isX (by rfl) T.b_isinstance (by decide +kernel) (pa_cons (pv 0) (pa_cons (pe_glob (v := .ref (cls mg "BadPlan")) (by rfl) T.e_BadPlan.gP rfl) pa_nil))) pa_nil))))))
      (pss_cons (ps_set (i := 1) sc__law_word.nd rfl (.inl rfl) (pe_op op_cat (pv 1) (pe_lst (pa_cons (pe_callB call_isX (by rfl) T.b_isinstance (by decide +kernel) (pa_cons (pv 0) (pa_cons (pe_glob (v := .ref (cls mg "Unlike")) (by rfl) T.e_Unlike.gP rfl) pa_nil))) (pa_cons (pe_callB call_isX (by rfl) T.b_isinstance (by decide +kernel) (pa_cons (pv 0) (pa_cons (pe_glob (v := .ref (cls mg "BadText")) (by rfl) T.e_BadText.gP rfl) pa_nil))) pa_nil)))))
      (pss_one (ps_ret (pe_ifExp (pt_cmpR op_eq (pe_bm PySem.F.plainAttrs_list PySem.F.slot_list_count PySem.F.type_list_count mt_countF (pv 1) (pa_cons pe_bl pa_nil)) pe_int (nomark _)) (pe_bm PySem.F.plainAttrs_list PySem.F.slot_list_index PySem.F.type_list_index mt_index (pv 1) (pa_cons pe_bl pa_nil)) (pe_un un_neg pe_int))))))))))), ?_⟩
    with_reducible refine seq_k fun K_ hK_ => ?_
    walk_at "rt"
    refine isxR_of T ha hd hx ⟨true, rfl, ?_⟩
    walk_at "rt"
    walk_at "rt"
    subst hK_
    first | with_reducible refine seq_k fun K_ hK_ => ?_ | skip
    walk_at "rt"
    refine isx_of T ha hd hx (by decide) ?_
    refine isx_of T ha hd hx (by decide) ?_
    refine isx_of T ha hd hx (by decide) ?_
    intro p0 hp0
    have s0 := same_upd (o := .lst ([V.bl (decide (x = "BadRounds")), .bl (decide (x = "BadNight")), .bl (decide (x = "BadNumber"))])) hp0
    have hl0 := upd_same (H := H) (a := p0) (o := .lst ([V.bl (decide (x = "BadRounds")), .bl (decide (x = "BadNight")), .bl (decide (x = "BadNumber"))]))
    revert s0 hl0
    generalize upd H p0 (.lst ([V.bl (decide (x = "BadRounds")), .bl (decide (x = "BadNight")), .bl (decide (x = "BadNumber"))])) = H0
    intro s0 hl0
    have ha0 := s0 _ _ ha
    have hd0 : ∀ dd, d = some dd → ∃ fs, H0 dd = some (.xd fs) := fun dd e => by obtain ⟨fs, h⟩ := hd dd e; exact ⟨fs, s0 _ _ h⟩
    walk_at "rt"
    subst hK_
    first | with_reducible refine seq_k fun K_ hK_ => ?_ | skip
    walk_at "rt"
    refine isx_of T ha0 hd0 hx (by decide) ?_
    refine isx_of T ha0 hd0 hx (by decide) ?_
    refine isx_of T ha0 hd0 hx (by decide) ?_
    intro q0 hq0
    have u0 := same_upd (o := .lst ([V.bl (decide (x = "BadRules")), V.bl (decide (x = "BadNights")), V.bl (decide (x = "Elder"))])) hq0
    refine ⟨p0, q0, _, _, rfl, rfl, u0 _ _ hl0, upd_same, sz (by simp), fun p1 hp1 => ?_⟩
    have v0 := s0.trans (u0.trans (same_upd (o := .lst ([V.bl (decide (x = "BadRounds")), V.bl (decide (x = "BadNight")), V.bl (decide (x = "BadNumber"))] ++ [V.bl (decide (x = "BadRules")), V.bl (decide (x = "BadNights")), V.bl (decide (x = "Elder"))])) hp1))
    have hl1 : (upd (upd H0 q0 (.lst ([V.bl (decide (x = "BadRules")), V.bl (decide (x = "BadNights")), V.bl (decide (x = "Elder"))]))) p1 (.lst ([V.bl (decide (x = "BadRounds")), V.bl (decide (x = "BadNight")), V.bl (decide (x = "BadNumber"))] ++ [V.bl (decide (x = "BadRules")), V.bl (decide (x = "BadNights")), V.bl (decide (x = "Elder"))]))) p1 = some (.lst ([V.bl (decide (x = "BadRounds")), V.bl (decide (x = "BadNight")), V.bl (decide (x = "BadNumber")), V.bl (decide (x = "BadRules")), V.bl (decide (x = "BadNights")), V.bl (decide (x = "Elder"))])) := upd_same
    revert hl1 v0
    generalize upd (upd H0 q0 (.lst ([V.bl (decide (x = "BadRules")), V.bl (decide (x = "BadNights")), V.bl (decide (x = "Elder"))]))) p1 (.lst ([V.bl (decide (x = "BadRounds")), V.bl (decide (x = "BadNight")), V.bl (decide (x = "BadNumber"))] ++ [V.bl (decide (x = "BadRules")), V.bl (decide (x = "BadNights")), V.bl (decide (x = "Elder"))])) = H1
    intro s1 hl1
    have ha1 := s1 _ _ ha
    have hd1 : ∀ dd, d = some dd → ∃ fs, H1 dd = some (.xd fs) := fun dd e => by obtain ⟨fs, h⟩ := hd dd e; exact ⟨fs, s1 _ _ h⟩
    walk_at "rt"
    subst hK_
    first | with_reducible refine seq_k fun K_ hK_ => ?_ | skip
    walk_at "rt"
    refine isx_of T ha1 hd1 hx (by decide) ?_
    refine isx_of T ha1 hd1 hx (by decide) ?_
    refine isx_of T ha1 hd1 hx (by decide) ?_
    intro q1 hq1
    have u1 := same_upd (o := .lst ([V.bl (decide (x = "Full")), V.bl (decide (x = "NotHeld")), V.bl (decide (x = "Pinned"))])) hq1
    refine ⟨p1, q1, _, _, rfl, rfl, u1 _ _ hl1, upd_same, sz (by simp), fun p2 hp2 => ?_⟩
    have v1 := s1.trans (u1.trans (same_upd (o := .lst ([V.bl (decide (x = "BadRounds")), V.bl (decide (x = "BadNight")), V.bl (decide (x = "BadNumber")), V.bl (decide (x = "BadRules")), V.bl (decide (x = "BadNights")), V.bl (decide (x = "Elder"))] ++ [V.bl (decide (x = "Full")), V.bl (decide (x = "NotHeld")), V.bl (decide (x = "Pinned"))])) hp2))
    have hl2 : (upd (upd H1 q1 (.lst ([V.bl (decide (x = "Full")), V.bl (decide (x = "NotHeld")), V.bl (decide (x = "Pinned"))]))) p2 (.lst ([V.bl (decide (x = "BadRounds")), V.bl (decide (x = "BadNight")), V.bl (decide (x = "BadNumber")), V.bl (decide (x = "BadRules")), V.bl (decide (x = "BadNights")), V.bl (decide (x = "Elder"))] ++ [V.bl (decide (x = "Full")), V.bl (decide (x = "NotHeld")), V.bl (decide (x = "Pinned"))]))) p2 = some (.lst ([V.bl (decide (x = "BadRounds")), V.bl (decide (x = "BadNight")), V.bl (decide (x = "BadNumber")), V.bl (decide (x = "BadRules")), V.bl (decide (x = "BadNights")), V.bl (decide (x = "Elder")), V.bl (decide (x = "Full")), V.bl (decide (x = "NotHeld")), V.bl (decide (x = "Pinned"))])) := upd_same
    revert hl2 v1
    generalize upd (upd H1 q1 (.lst ([V.bl (decide (x = "Full")), V.bl (decide (x = "NotHeld")), V.bl (decide (x = "Pinned"))]))) p2 (.lst ([V.bl (decide (x = "BadRounds")), V.bl (decide (x = "BadNight")), V.bl (decide (x = "BadNumber")), V.bl (decide (x = "BadRules")), V.bl (decide (x = "BadNights")), V.bl (decide (x = "Elder"))] ++ [V.bl (decide (x = "Full")), V.bl (decide (x = "NotHeld")), V.bl (decide (x = "Pinned"))])) = H2
    intro s2 hl2
    have ha2 := s2 _ _ ha
    have hd2 : ∀ dd, d = some dd → ∃ fs, H2 dd = some (.xd fs) := fun dd e => by obtain ⟨fs, h⟩ := hd dd e; exact ⟨fs, s2 _ _ h⟩
    walk_at "rt"
    subst hK_
    first | with_reducible refine seq_k fun K_ hK_ => ?_ | skip
    walk_at "rt"
    refine isx_of T ha2 hd2 hx (by decide) ?_
    refine isx_of T ha2 hd2 hx (by decide) ?_
    refine isx_of T ha2 hd2 hx (by decide) ?_
    intro q2 hq2
    have u2 := same_upd (o := .lst ([V.bl (decide (x = "NotPinned")), V.bl (decide (x = "BadState")), V.bl (decide (x = "BadPart"))])) hq2
    refine ⟨p2, q2, _, _, rfl, rfl, u2 _ _ hl2, upd_same, sz (by simp), fun p3 hp3 => ?_⟩
    have v2 := s2.trans (u2.trans (same_upd (o := .lst ([V.bl (decide (x = "BadRounds")), V.bl (decide (x = "BadNight")), V.bl (decide (x = "BadNumber")), V.bl (decide (x = "BadRules")), V.bl (decide (x = "BadNights")), V.bl (decide (x = "Elder")), V.bl (decide (x = "Full")), V.bl (decide (x = "NotHeld")), V.bl (decide (x = "Pinned"))] ++ [V.bl (decide (x = "NotPinned")), V.bl (decide (x = "BadState")), V.bl (decide (x = "BadPart"))])) hp3))
    have hl3 : (upd (upd H2 q2 (.lst ([V.bl (decide (x = "NotPinned")), V.bl (decide (x = "BadState")), V.bl (decide (x = "BadPart"))]))) p3 (.lst ([V.bl (decide (x = "BadRounds")), V.bl (decide (x = "BadNight")), V.bl (decide (x = "BadNumber")), V.bl (decide (x = "BadRules")), V.bl (decide (x = "BadNights")), V.bl (decide (x = "Elder")), V.bl (decide (x = "Full")), V.bl (decide (x = "NotHeld")), V.bl (decide (x = "Pinned"))] ++ [V.bl (decide (x = "NotPinned")), V.bl (decide (x = "BadState")), V.bl (decide (x = "BadPart"))]))) p3 = some (.lst ([V.bl (decide (x = "BadRounds")), V.bl (decide (x = "BadNight")), V.bl (decide (x = "BadNumber")), V.bl (decide (x = "BadRules")), V.bl (decide (x = "BadNights")), V.bl (decide (x = "Elder")), V.bl (decide (x = "Full")), V.bl (decide (x = "NotHeld")), V.bl (decide (x = "Pinned")), V.bl (decide (x = "NotPinned")), V.bl (decide (x = "BadState")), V.bl (decide (x = "BadPart"))])) := upd_same
    revert hl3 v2
    generalize upd (upd H2 q2 (.lst ([V.bl (decide (x = "NotPinned")), V.bl (decide (x = "BadState")), V.bl (decide (x = "BadPart"))]))) p3 (.lst ([V.bl (decide (x = "BadRounds")), V.bl (decide (x = "BadNight")), V.bl (decide (x = "BadNumber")), V.bl (decide (x = "BadRules")), V.bl (decide (x = "BadNights")), V.bl (decide (x = "Elder")), V.bl (decide (x = "Full")), V.bl (decide (x = "NotHeld")), V.bl (decide (x = "Pinned"))] ++ [V.bl (decide (x = "NotPinned")), V.bl (decide (x = "BadState")), V.bl (decide (x = "BadPart"))])) = H3
    intro s3 hl3
    have ha3 := s3 _ _ ha
    have hd3 : ∀ dd, d = some dd → ∃ fs, H3 dd = some (.xd fs) := fun dd e => by obtain ⟨fs, h⟩ := hd dd e; exact ⟨fs, s3 _ _ h⟩
    walk_at "rt"
    subst hK_
    first | with_reducible refine seq_k fun K_ hK_ => ?_ | skip
    walk_at "rt"
    refine isx_of T ha3 hd3 hx (by decide) ?_
    refine isx_of T ha3 hd3 hx (by decide) ?_
    refine isx_of T ha3 hd3 hx (by decide) ?_
    intro q3 hq3
    have u3 := same_upd (o := .lst ([V.bl (decide (x = "NotFit")), V.bl (decide (x = "IsWhole")), V.bl (decide (x = "BadPlan"))])) hq3
    refine ⟨p3, q3, _, _, rfl, rfl, u3 _ _ hl3, upd_same, sz (by simp), fun p4 hp4 => ?_⟩
    have v3 := s3.trans (u3.trans (same_upd (o := .lst ([V.bl (decide (x = "BadRounds")), V.bl (decide (x = "BadNight")), V.bl (decide (x = "BadNumber")), V.bl (decide (x = "BadRules")), V.bl (decide (x = "BadNights")), V.bl (decide (x = "Elder")), V.bl (decide (x = "Full")), V.bl (decide (x = "NotHeld")), V.bl (decide (x = "Pinned")), V.bl (decide (x = "NotPinned")), V.bl (decide (x = "BadState")), V.bl (decide (x = "BadPart"))] ++ [V.bl (decide (x = "NotFit")), V.bl (decide (x = "IsWhole")), V.bl (decide (x = "BadPlan"))])) hp4))
    have hl4 : (upd (upd H3 q3 (.lst ([V.bl (decide (x = "NotFit")), V.bl (decide (x = "IsWhole")), V.bl (decide (x = "BadPlan"))]))) p4 (.lst ([V.bl (decide (x = "BadRounds")), V.bl (decide (x = "BadNight")), V.bl (decide (x = "BadNumber")), V.bl (decide (x = "BadRules")), V.bl (decide (x = "BadNights")), V.bl (decide (x = "Elder")), V.bl (decide (x = "Full")), V.bl (decide (x = "NotHeld")), V.bl (decide (x = "Pinned")), V.bl (decide (x = "NotPinned")), V.bl (decide (x = "BadState")), V.bl (decide (x = "BadPart"))] ++ [V.bl (decide (x = "NotFit")), V.bl (decide (x = "IsWhole")), V.bl (decide (x = "BadPlan"))]))) p4 = some (.lst ([V.bl (decide (x = "BadRounds")), V.bl (decide (x = "BadNight")), V.bl (decide (x = "BadNumber")), V.bl (decide (x = "BadRules")), V.bl (decide (x = "BadNights")), V.bl (decide (x = "Elder")), V.bl (decide (x = "Full")), V.bl (decide (x = "NotHeld")), V.bl (decide (x = "Pinned")), V.bl (decide (x = "NotPinned")), V.bl (decide (x = "BadState")), V.bl (decide (x = "BadPart")), V.bl (decide (x = "NotFit")), V.bl (decide (x = "IsWhole")), V.bl (decide (x = "BadPlan"))])) := upd_same
    revert hl4 v3
    generalize upd (upd H3 q3 (.lst ([V.bl (decide (x = "NotFit")), V.bl (decide (x = "IsWhole")), V.bl (decide (x = "BadPlan"))]))) p4 (.lst ([V.bl (decide (x = "BadRounds")), V.bl (decide (x = "BadNight")), V.bl (decide (x = "BadNumber")), V.bl (decide (x = "BadRules")), V.bl (decide (x = "BadNights")), V.bl (decide (x = "Elder")), V.bl (decide (x = "Full")), V.bl (decide (x = "NotHeld")), V.bl (decide (x = "Pinned")), V.bl (decide (x = "NotPinned")), V.bl (decide (x = "BadState")), V.bl (decide (x = "BadPart"))] ++ [V.bl (decide (x = "NotFit")), V.bl (decide (x = "IsWhole")), V.bl (decide (x = "BadPlan"))])) = H4
    intro s4 hl4
    have ha4 := s4 _ _ ha
    have hd4 : ∀ dd, d = some dd → ∃ fs, H4 dd = some (.xd fs) := fun dd e => by obtain ⟨fs, h⟩ := hd dd e; exact ⟨fs, s4 _ _ h⟩
    walk_at "rt"
    subst hK_
    first | with_reducible refine seq_k fun K_ hK_ => ?_ | skip
    walk_at "rt"
    refine isx_of T ha4 hd4 hx (by decide) ?_
    refine isx_of T ha4 hd4 hx (by decide) ?_
    intro q4 hq4
    have u4 := same_upd (o := .lst ([V.bl (decide (x = "Unlike")), V.bl (decide (x = "BadText"))])) hq4
    refine ⟨p4, q4, _, _, rfl, rfl, u4 _ _ hl4, upd_same, sz (by simp), fun p5 hp5 => ?_⟩
    have v4 := s4.trans (u4.trans (same_upd (o := .lst ([V.bl (decide (x = "BadRounds")), V.bl (decide (x = "BadNight")), V.bl (decide (x = "BadNumber")), V.bl (decide (x = "BadRules")), V.bl (decide (x = "BadNights")), V.bl (decide (x = "Elder")), V.bl (decide (x = "Full")), V.bl (decide (x = "NotHeld")), V.bl (decide (x = "Pinned")), V.bl (decide (x = "NotPinned")), V.bl (decide (x = "BadState")), V.bl (decide (x = "BadPart")), V.bl (decide (x = "NotFit")), V.bl (decide (x = "IsWhole")), V.bl (decide (x = "BadPlan"))] ++ [V.bl (decide (x = "Unlike")), V.bl (decide (x = "BadText"))])) hp5))
    have hl5 : (upd (upd H4 q4 (.lst ([V.bl (decide (x = "Unlike")), V.bl (decide (x = "BadText"))]))) p5 (.lst ([V.bl (decide (x = "BadRounds")), V.bl (decide (x = "BadNight")), V.bl (decide (x = "BadNumber")), V.bl (decide (x = "BadRules")), V.bl (decide (x = "BadNights")), V.bl (decide (x = "Elder")), V.bl (decide (x = "Full")), V.bl (decide (x = "NotHeld")), V.bl (decide (x = "Pinned")), V.bl (decide (x = "NotPinned")), V.bl (decide (x = "BadState")), V.bl (decide (x = "BadPart")), V.bl (decide (x = "NotFit")), V.bl (decide (x = "IsWhole")), V.bl (decide (x = "BadPlan"))] ++ [V.bl (decide (x = "Unlike")), V.bl (decide (x = "BadText"))]))) p5 = some (.lst ([V.bl (decide (x = "BadRounds")), V.bl (decide (x = "BadNight")), V.bl (decide (x = "BadNumber")), V.bl (decide (x = "BadRules")), V.bl (decide (x = "BadNights")), V.bl (decide (x = "Elder")), V.bl (decide (x = "Full")), V.bl (decide (x = "NotHeld")), V.bl (decide (x = "Pinned")), V.bl (decide (x = "NotPinned")), V.bl (decide (x = "BadState")), V.bl (decide (x = "BadPart")), V.bl (decide (x = "NotFit")), V.bl (decide (x = "IsWhole")), V.bl (decide (x = "BadPlan")), V.bl (decide (x = "Unlike")), V.bl (decide (x = "BadText"))])) := upd_same
    revert hl5 v4
    generalize upd (upd H4 q4 (.lst ([V.bl (decide (x = "Unlike")), V.bl (decide (x = "BadText"))]))) p5 (.lst ([V.bl (decide (x = "BadRounds")), V.bl (decide (x = "BadNight")), V.bl (decide (x = "BadNumber")), V.bl (decide (x = "BadRules")), V.bl (decide (x = "BadNights")), V.bl (decide (x = "Elder")), V.bl (decide (x = "Full")), V.bl (decide (x = "NotHeld")), V.bl (decide (x = "Pinned")), V.bl (decide (x = "NotPinned")), V.bl (decide (x = "BadState")), V.bl (decide (x = "BadPart")), V.bl (decide (x = "NotFit")), V.bl (decide (x = "IsWhole")), V.bl (decide (x = "BadPlan"))] ++ [V.bl (decide (x = "Unlike")), V.bl (decide (x = "BadText"))])) = H5
    intro s5 hl5
    have ha5 := s5 _ _ ha
    have hd5 : ∀ dd, d = some dd → ∃ fs, H5 dd = some (.xd fs) := fun dd e => by obtain ⟨fs, h⟩ := hd dd e; exact ⟨fs, s5 _ _ h⟩
    walk_at "rt"
    subst hK_
    first | with_reducible refine seq_k fun K_ hK_ => ?_ | skip
    walk_at "rt"
    have h17 : j < 17 := lt_of_get hj
    have e17 : exNames.getD j "" = x := by rw [List.getD_eq_getElem?_getD, hj]; rfl
    have hcnt := ex_count j (List.mem_range.mpr h17)
    rw [e17] at hcnt
    have fl : ∀ l : List Str, (l.map fun y => V.bl (decide (x = y))).all flatV = true := fun l => by
      rw [List.all_map, List.all_eq_true]
      exact fun _ _ => rfl
    refine ⟨tyL hl5, p5, exNames.map (fun y => V.bl (decide (x = y))), .bl true, rfl, rfl, sqL hl5, rfl, fl _, ?_⟩
    rw [hcnt]
    refine ⟨rfl, ?_⟩
    rw [if_pos (show V.int ((1 : Nat) : Int) = V.int 1 from rfl)]
    refine ⟨tyL hl5, p5, exNames.map (fun y => V.bl (decide (x = y))), .bl true, j, .bl true, rfl, rfl, sqL hl5, rfl, fl _, ?_, rfl, fun m z hm hz => ?_, q H5 s5⟩
    · rw [List.getElem?_map, hj]
      simp
    · rw [List.getElem?_map] at hz
      cases e : exNames[m]? with
      | none => rw [e] at hz; cases hz
      | some y =>
        rw [e] at hz
        cases hz
        have h17' : m < 17 := lt_of_get e
        have e17' : exNames.getD m "" = y := by rw [List.getD_eq_getElem?_getD, e]; rfl
        have : x ≠ y := fun z => by
          have := ex_at j (List.mem_range.mpr h17) m (List.mem_range.mpr h17') (by rw [e17, e17', z])
          omega
        simp [this, eqV]
/-- the word of a kind -/
def exWords : List Str := ["rounds", "night", "number", "rules", "nights", "elder", "full", "held", "pinned", "not pinned", "state", "part", "fit", "whole", "plan", "unlike", "text"]
theorem wd_at : ∀ j ∈ List.range 17, ∀ m ∈ List.range 17, exWords.getD j "" = exWords.getD m "" → j = m := by decide +kernel
abbrev nm__law_refused : List Str := ["word", "words"]
abbrev pm__law_refused : List Str := ["word"]
abbrev lv__law_refused : Nat := 1
theorem sc__law_refused : FnScope nm__law_refused pm__law_refused (defScope s__law_refused) := ⟨rfl, rfl, rfl, by decide +kernel, rfl, by decide +kernel, by decide +kernel⟩
def sp__law_refused : Sp := fun vs H Q _ => ∃ (x : Str) (j : Nat), vs = [.str x] ∧ exWords[j]? = some x ∧ ∀ p H', Same H H' → H p = none → H' p = some (.tup [.str "refused", .int j]) → Q (.ref p) H'
theorem f__law_refused (T : Txt K mg) : Fk P w K mg base CX0 lv__law_refused "_law_refused" pm__law_refused sp__law_refused := by
  obtain ⟨f, fd, F, g, b⟩ := T.d__law_refused.ex
  refine ⟨f, fd, g, F.kp, b, F.ok sc__law_refused (fun vs H Q E h => ?_) (fun cdv A outer s H vs Q E hr h => ?_)⟩
  · obtain ⟨x, j, rfl, _⟩ := h; rfl
  · obtain ⟨x, j, rfl, hj, q⟩ := h
    refine ⟨_, (pss_cons (ps_set (i := 1) sc__law_refused.nd rfl (.inl rfl) (pe_lst (pa_cons pe_str (pa_cons pe_str (pa_cons pe_str (pa_cons pe_str (pa_cons pe_str (pa_cons pe_str (pa_cons pe_str (pa_cons pe_str (pa_cons pe_str (pa_cons pe_str (pa_cons pe_str pa_nil)))))))))))))
      (pss_cons (ps_set (i := 1) sc__law_refused.nd rfl (.inl rfl) (pe_op op_cat (pv 1) (pe_lst (pa_cons pe_str (pa_cons pe_str (pa_cons pe_str (pa_cons pe_str (pa_cons pe_str (pa_cons pe_str pa_nil)))))))))
      (pss_one (ps_ret (pe_tup (pa_cons pe_str (pa_cons (pe_bm PySem.F.plainAttrs_list PySem.F.slot_list_index PySem.F.type_list_index mt_index (pv 1) (pa_cons (pv 0) pa_nil)) pa_nil))))))), ?_⟩
    with_reducible refine seq_k fun K_ hK_ => ?_
    walk_at "rt"
    intro p0 hp0
    walk_at "rt"
    subst hK_
    first | with_reducible refine seq_k fun K_ hK_ => ?_ | skip
    walk_at "rt"
    intro q0 hq0
    have u0 := (same_upd (o := .lst ((exWords.take 11).map V.str)) hp0).trans (same_upd (o := .lst ((exWords.drop 11).map V.str)) hq0)
    refine ⟨p0, q0, (exWords.take 11).map V.str, (exWords.drop 11).map V.str, rfl, rfl, (same_upd hq0) _ _ upd_same, upd_same, sz (by decide), fun p1 hp1 => ?_⟩
    have s1 := u0.trans (same_upd (o := .lst (exWords.map V.str)) hp1)
    walk_at "rt"
    subst hK_
    first | with_reducible refine seq_k fun K_ hK_ => ?_ | skip
    walk_at "rt"
    have h17 : j < 17 := lt_of_get hj
    have e17 : exWords.getD j "" = x := by rw [List.getD_eq_getElem?_getD, hj]; rfl
    have fl : (exWords.map V.str).all flatV = true := by decide +kernel
    refine ⟨tyL (xs := exWords.map V.str) upd_same, p1, exWords.map V.str, .str x, j, .str x, rfl, rfl, sqL upd_same, rfl, fl, by rw [List.getElem?_map, hj]; rfl, by simp [eqV], fun m z hm hz => ?_, ?_⟩
    · rw [List.getElem?_map] at hz
      cases e : exWords[m]? with
      | none => rw [e] at hz; cases hz
      | some y =>
        rw [e] at hz
        cases hz
        have h17' : m < 17 := lt_of_get e
        have e17' : exWords.getD m "" = y := by rw [List.getD_eq_getElem?_getD, e]; rfl
        have : y ≠ x := fun z => by
          have := wd_at j (List.mem_range.mpr h17) m (List.mem_range.mpr h17') (by rw [e17, e17', z])
          omega
        simp [this, eqV]
    · intro p2 hp2
      exact q p2 _ (s1.trans (same_upd hp2)) (s1.free hp2) upd_same
end
end Nk
namespace Nk
open PySem L2
section
variable {P : Program} {w : World} {K : PySem.W.Frag} {mg : Str → Option Value} {base : Heap}
/-- the law's keep: held, pinned, last -/
structure MdAt (H : Hp) (M : Addr) (S : List Addr) (v : KV) : Prop where
  at_ : ∃ (A B : Addr), S = [M, A, B] ∧ A ≠ B ∧ H M = some (.lst [.ref A, .ref B, lastV v.last]) ∧ H A = some (.lst (v.ns.map V.int)) ∧ H B = some (.lst (v.ps.map V.int))
theorem MdAt.step {H H' : Hp} {M : Addr} {S T : List Addr} {v : KV} (h : MdAt H M S v) (s : Step T H H') (n : ∀ b ∈ S, b ∉ T) : MdAt H' M S v := by
  obtain ⟨A, B, rfl, hAB, hM, hA, hB⟩ := h.at_
  exact ⟨A, B, rfl, hAB, s.keep _ _ hM (n _ (by simp)), s.keep _ _ hA (n _ (by simp)), s.keep _ _ hB (n _ (by simp))⟩
theorem MdAt.same {H H' : Hp} {M : Addr} {S : List Addr} {v : KV} (h : MdAt H M S v) (s : Same H H') : MdAt H' M S v := h.step (T := []) (.of s) (fun _ _ => by simp)
theorem md_neA {A B C : Addr} {l : V} {ns : List Int} {H : Hp} {M : Addr} (hM : H M = some (.lst [.ref A, .ref B, l])) (hA : H C = some (.lst (ns.map V.int))) : C ≠ M := fun e => by
  rw [e, hM] at hA
  cases ns with
  | nil => cases hA
  | cons n ns => cases hA
theorem MdAt.out {H : Hp} {M p : Addr} {S : List Addr} {v : KV} (h : MdAt H M S v) (hp : H p = none) : p ∉ S := by
  obtain ⟨A, B, rfl, hAB, hM, hA, hB⟩ := h.at_
  have h1 := ne_of_none hM hp
  have h2 := ne_of_none hA hp
  have h3 := ne_of_none hB hp
  simp [Ne.symm h1, Ne.symm h2, Ne.symm h3]
theorem KeepAt.out {c : Str} {ex : List (Str × V)} {H : Hp} {k p : Addr} {S : List Addr} {v : KV} (h : KeepAt K mg c ex H k S v) (hp : H p = none) : p ∉ S := by
  obtain ⟨dx, r, N, Pn, rfl, hNP, hk, hR, hN, hP⟩ := h.at_
  have h1 := ne_of_none hk hp
  have h2 := ne_of_none hN hp
  have h3 := ne_of_none hP hp
  simp [Ne.symm h1, Ne.symm h2, Ne.symm h3]
/-- what a deed tells -/
inductive Rs where
  | rf (j : Nat)
  | non
  | lst (l : List Int)
def insP (m : Int) (ps : List Int) : List Int := ps.filter (fun z => decide (z < m)) ++ m :: ps.filter (fun z => decide (m < z))
theorem mem_insP {m z : Int} {ps : List Int} : z ∈ insP m ps ↔ z ∈ ps ∨ z = m := by
  unfold insP
  simp only [List.mem_append, List.mem_cons, List.mem_filter, decide_eq_true_eq]
  constructor
  · rintro (⟨h, _⟩ | h | ⟨h, _⟩)
    · exact .inl h
    · exact .inr h
    · exact .inl h
  · rintro (h | h)
    · by_cases c : z < m
      · exact .inl ⟨h, c⟩
      · by_cases c2 : z = m
        · exact .inr (.inl c2)
        · exact .inr (.inr ⟨h, by omega⟩)
    · exact .inr (.inl h)
theorem insP_rise {m : Int} {ps : List Int} (h : ps.Pairwise (· < ·)) : (insP m ps).Pairwise (· < ·) := by
  unfold insP
  rw [List.pairwise_append]
  refine ⟨h.filter _, List.pairwise_cons.mpr ⟨fun z hz => ?_, h.filter _⟩, fun a ha b hb => ?_⟩
  · simpa using (List.mem_filter.mp hz).2
  · have h1 : a < m := by simpa using (List.mem_filter.mp ha).2
    rcases List.mem_cons.mp hb with rfl | hb
    · exact h1
    · have h2 : m < b := by simpa using (List.mem_filter.mp hb).2
      omega
def oldD (v : KV) (m : Int) : Bool := match v.last with
  | some l => decide (m ≤ l)
  | none => false
def takeD (v : KV) (x : V) : Rs × KV := match x with
  | .int m => if 0 ≤ m ∧ m ≤ 1000000000 then (if oldD v m = true then (.rf 5, v) else if 100 ≤ v.ns.length then (.rf 6, v) else (.non, { v with ns := v.ns ++ [m], last := some m })) else (.rf 1, v)
  | _ => (.rf 1, v)
def pinD (v : KV) (x : V) : Rs × KV := match x with
  | .int m => if m ∈ v.ns then (if m ∈ v.ps then (.rf 8, v) else (.non, { v with ps := insP m v.ps })) else (.rf 7, v)
  | _ => (.rf 7, v)
def unpinD (v : KV) (x : V) : Rs × KV := match x with
  | .int m => if m ∈ v.ps then (.non, { v with ps := v.ps.filter fun z => decide (z ≠ m) }) else (.rf 9, v)
  | _ => (.rf 9, v)
theorem oldD_f {v : KV} {m : Int} (h : ∀ l, v.last = some l → l < m) : oldD v m = false := by
  unfold oldD
  cases e : v.last with
  | none => rfl
  | some l => have := h l e; simp; omega
theorem oldD_t {v : KV} {m l : Int} (h : v.last = some l) (h2 : m ≤ l) : oldD v m = true := by
  unfold oldD
  rw [h]
  simpa using h2
theorem take_bad {v : KV} {x : V} (h : isNumV x 0 (.int 1000000000) = false) : takeD v x = (.rf 1, v) := by
  cases x with
  | int m => simp only [takeD]; rw [if_neg]; simpa [isNumV] using h
  | _ => rfl
theorem take_old {v : KV} {m l : Int} (h0 : 0 ≤ m) (h1 : m ≤ 1000000000) (h : v.last = some l) (h2 : m ≤ l) : takeD v (.int m) = (.rf 5, v) := by
  simp only [takeD]; rw [if_pos ⟨h0, h1⟩, if_pos (oldD_t h h2)]
theorem take_full {v : KV} {m : Int} (h0 : 0 ≤ m) (h1 : m ≤ 1000000000) (h : ∀ l, v.last = some l → l < m) (h2 : 100 ≤ v.ns.length) : takeD v (.int m) = (.rf 6, v) := by
  simp only [takeD]; rw [if_pos ⟨h0, h1⟩, if_neg (by rw [oldD_f h]; exact Bool.false_ne_true), if_pos h2]
theorem take_ok {v : KV} {m : Int} (h0 : 0 ≤ m) (h1 : m ≤ 1000000000) (h : ∀ l, v.last = some l → l < m) (h2 : v.ns.length < 100) : takeD v (.int m) = (.non, { v with ns := v.ns ++ [m], last := some m }) := by
  simp only [takeD]; rw [if_pos ⟨h0, h1⟩, if_neg (by rw [oldD_f h]; exact Bool.false_ne_true), if_neg (by omega)]
theorem pin_bad {v : KV} {x : V} (h : ∀ m, x = .int m → m ∉ v.ns) : pinD v x = (.rf 7, v) := by
  cases x with
  | int m => simp only [pinD]; rw [if_neg (h m rfl)]
  | _ => rfl
theorem pin_old {v : KV} {m : Int} (h : m ∈ v.ns) (h2 : m ∈ v.ps) : pinD v (.int m) = (.rf 8, v) := by
  simp only [pinD]; rw [if_pos h, if_pos h2]
theorem pin_ok {v : KV} {m : Int} (h : m ∈ v.ns) (h2 : m ∉ v.ps) : pinD v (.int m) = (.non, { v with ps := insP m v.ps }) := by
  simp only [pinD]; rw [if_pos h, if_neg h2]
theorem unpin_bad {v : KV} {x : V} (h : ∀ m, x = .int m → m ∉ v.ps) : unpinD v x = (.rf 9, v) := by
  cases x with
  | int m => simp only [unpinD]; rw [if_neg (h m rfl)]
  | _ => rfl
theorem unpin_ok {v : KV} {m : Int} (h : m ∈ v.ps) : unpinD v (.int m) = (.non, { v with ps := v.ps.filter fun z => decide (z ≠ m) }) := by
  simp only [unpinD]; rw [if_pos h]
/-- take, let go, pin, unpin -/
def deed (v : KV) (kind : Int) (x : V) : Rs × KV := if kind = 0 then takeD v x else if kind = 1 then (.lst (goneK v), { v with ns := leftK v }) else if kind = 2 then pinD v x else unpinD v x
theorem deed0 {v : KV} {x : V} : deed v 0 x = takeD v x := rfl
theorem deed1 {v : KV} {x : V} : deed v 1 x = (.lst (goneK v), { v with ns := leftK v }) := rfl
theorem deed2 {v : KV} {x : V} : deed v 2 x = pinD v x := rfl
theorem deed3 {v : KV} {x : V} : deed v 3 x = unpinD v x := rfl
/-- a pair that tells r -/
def DueAt (H : Hp) (p : Addr) : Rs → Prop
  | .rf j => H p = some (.tup [.str "refused", .int j])
  | .non => H p = some (.tup [.str "found", .non])
  | .lst l => ∃ q, H p = some (.tup [.str "found", .ref q]) ∧ H q = some (.lst (l.map V.int))
theorem DueAt.same {H H' : Hp} {p : Addr} {r : Rs} (h : DueAt H p r) (s : Same H H') : DueAt H' p r := by
  cases r with
  | rf j => exact s _ _ h
  | non => exact s _ _ h
  | lst l => obtain ⟨q, h1, h2⟩ := h; exact ⟨q, s _ _ h1, s _ _ h2⟩
def dueD : Rs → PyData
  | .rf j => .tuple [.str "refused", .int j]
  | .non => .tuple [.str "found", .none]
  | .lst l => .tuple [.str "found", dLI l]
theorem due_dp {H : Hp} {p : Addr} {r : Rs} (h : DueAt H p r) : Dp K H (.ref p) (dueD r) := by
  cases r with
  | rf j => exact .tup (sqT h) (.cons (.str _) (.cons (.int _) .nil))
  | non => exact .tup (sqT h) (.cons (.str _) (.cons .non .nil))
  | lst l => obtain ⟨q, h1, h2⟩ := h; exact .tup (sqT h1) (.cons (.str _) (.cons (dp_LI (sqL h2)) .nil))
theorem found_ok : PyData.strOk "found" = true := by decide +kernel
theorem refused_ok : PyData.strOk "refused" = true := by decide +kernel
theorem due_gd {r : Rs} : gd 3 (dueD r) = true := by
  cases r with
  | rf j => simp [dueD, gd, refused_ok]
  | non => simp [dueD, gd, found_ok]
  | lst l =>
    show ([PyData.str "found", dLI l].all (gd 2)) = true
    rw [List.all_cons, List.all_cons, gd_dLI (k := 1)]
    simp [gd, found_ok]
abbrev nm__law_model : List Str := []
abbrev pm__law_model : List Str := []
abbrev lv__law_model : Nat := 1
theorem sc__law_model : FnScope nm__law_model pm__law_model (defScope s__law_model) := ⟨rfl, rfl, rfl, by decide +kernel, rfl, by decide +kernel, by decide +kernel⟩
def sp__law_model : Sp := fun vs H Q _ => vs = [] ∧ ∀ M A B H', Same H H' → H M = none → H A = none → H B = none → (∀ rus, MdAt H' M [M, A, B] ⟨rus, [], [], none⟩) → Q (.ref M) H'
theorem f__law_model (T : Txt K mg) : Fk P w K mg base CX0 lv__law_model "_law_model" pm__law_model sp__law_model := by
  obtain ⟨f, fd, F, g, b⟩ := T.d__law_model.ex
  refine ⟨f, fd, g, F.kp, b, F.ok sc__law_model (fun vs H Q E h => ?_) (fun cdv A outer s H vs Q E hr h => ?_)⟩
  · obtain ⟨rfl, _⟩ := h; rfl
  · obtain ⟨rfl, q⟩ := h
    refine ⟨_, (pss_one (ps_ret (pe_lst (pa_cons (pe_lst pa_nil) (pa_cons (pe_lst pa_nil) (pa_cons pe_non pa_nil)))))), ?_⟩
    walk_at "rt"
    intro A1 n_A1
    generalize hG_ : upd _ A1 _ = H1
    obtain ⟨s1, hA1⟩ := newF n_A1 hG_
    clear hG_
    intro B1 n_B1
    generalize hG_ : upd _ B1 _ = H2
    obtain ⟨s2, hB2⟩ := newF n_B1 hG_
    clear hG_
    intro M1 n_M1
    generalize hG_ : upd _ M1 _ = H3
    obtain ⟨s3, hM3⟩ := newF n_M1 hG_
    clear hG_
    exact q M1 A1 B1 H3 (s1.trans (s2.trans s3)) ((s1.trans s2).free n_M1) n_A1 (s1.free n_B1) fun _ => ⟨A1, B1, rfl, ne_of_none hA1 n_B1, hM3, s3 _ _ (s2 _ _ hA1), s3 _ _ hB2⟩
abbrev nm__law_gone : List Str := ["rules", "model", "stay", "night"]
abbrev pm__law_gone : List Str := ["rules", "model"]
abbrev lv__law_gone : Nat := 4
theorem sc__law_gone : FnScope nm__law_gone pm__law_gone (defScope s__law_gone) := ⟨rfl, rfl, rfl, by decide +kernel, rfl, by decide +kernel, by decide +kernel⟩
def sp__law_gone (K : PySem.W.Frag) : Sp := fun vs H Q _ => ∃ (a M : Addr) (S : List Addr) (v : KV) (xs : List V), vs = [.ref a, .ref M] ∧ H a = some (.tup xs) ∧ RuleVs H xs v.rus ∧ v.rus.length ≤ 1000 ∧ MdAt H M S v ∧ v.ns.length ≤ 10000 ∧ v.ps.length ≤ 10000 ∧
  ∀ p H', Same H H' → H p = none → H' p = some (.lst ((goneK v).map V.int)) → Q (.ref p) H'
theorem f__law_gone (T : Txt K mg) : Fk P w K mg base CX0 lv__law_gone "_law_gone" pm__law_gone (sp__law_gone K) := by
  obtain ⟨f, fd, F, g, b⟩ := T.d__law_gone.ex
  refine ⟨f, fd, g, F.kp, b, F.ok sc__law_gone (fun vs H Q E h => ?_) (fun cdv A outer s H vs Q E hr h => ?_)⟩
  · obtain ⟨a, M, S, v, xs, rfl, _⟩ := h; rfl
  · obtain ⟨a, M, S, v, xs, rfl, ha, hR, hrl, hM, hn, hp, q⟩ := h
    obtain ⟨A1, B1, rfl, hAB, hM, hA, hB⟩ := hM.at_
    refine ⟨_, (pss_cons (ps_set (i := 2) sc__law_gone.nd rfl (.inr rfl) (pe_op op_cat (pe_fn (f__law_kept T) (hr.mono (by decide)) (by rfl) pass0 (pa_cons (pv 0) (pa_cons (pe_ix ix_list (pv 1) pe_int (fun _ _ => rfl)) pa_nil))) (pe_ix ix_list (pv 1) pe_int (fun _ _ => rfl))))
      (pss_one (ps_ret (pe_lc (own := [("night", 3)]) (g := gName 3) (by rfl) sc__law_gone.nd (pi_list (pe_ix ix_list (pv 1) pe_int (fun _ _ => rfl))) (blkOk_by (own := [("night", 3)]) (N := nm__law_gone) (sc := defScope s__law_gone) (by decide +kernel)) (fun _ _ _ _ _ => (pg_name (i := 3) sc__law_gone.nd rfl (Or.inl rfl))) (fun _ _ _ _ _ => (pts_one (pt_cmpR (op_notInK K rfl) (pv 3) (pv 2) (by rfl)))) (fun _ _ _ _ _ => (pv 3)))))), ?_⟩
    with_reducible refine seq_k fun K_ hK_ => ?_
    walk_at "rt"
    refine ixL (j := 0) (sqL hM) rfl rfl ?_
    refine ⟨a, A1, v.rus, xs, v.ns, rfl, ha, hR, hrl, sqL hA, hn, fun p H1 s1 hp hp1 => ?_⟩
    refine ixL (j := 1) (sqL (s1 _ _ hM)) rfl rfl ?_
    refine ⟨p, B1, _, _, rfl, rfl, hp1, s1 _ _ hB, ?_, ?_⟩
    · rw [List.length_map, List.length_map]
      have := List.length_filter_le (fun n => v.rus.any fun ru => decide (n ∈ keptBy ru v.ns)) v.ns
      exact sz (by unfold keptF; omega)
    intro q1 n_q1
    generalize hG_ : upd _ q1 _ = H2
    obtain ⟨s2, hq1⟩ := newF n_q1 hG_
    clear hG_
    rw [← List.map_append] at hq1
    have s12 := s1.trans s2
    walk_at "rt"
    subst hK_
    first | with_reducible refine seq_k fun K_ hK_ => ?_ | skip
    walk_at "rt"
    refine ixL (j := 0) (sqL (s12 _ _ hM)) rfl rfl ?_
    refine ⟨_, rfl, ⟨_, sqL (s12 _ _ hA)⟩, fun D hD => ?_⟩
    refine lcF (fun n => decide (n ∉ keptF v.rus v.ns ++ v.ps)) hD (sqL (s12 _ _ hA)) (by omega) (fun _ => rfl) (fun _ => rfl) (fun m H3 _ s3 Q hQ => ?_) (fun H3 s3 hD3 => q D H3 (s12.trans s3) (s12.free hD) hD3)
    walk_at "rt"
    refine ⟨q1, _, rfl, .inl (sqL (s3 _ _ hq1)), rfl, flat_ints _, _, rfl, ?_⟩
    rw [if_pos rfl, inV_ints, ← decide_not]
    exact hQ H3 (Same.refl _)
abbrev nm__law_done : List Str := ["rules", "model", "kind", "thing", "gone", "night"]
abbrev pm__law_done : List Str := ["rules", "model", "kind", "thing"]
abbrev lv__law_done : Nat := 5
theorem sc__law_done : FnScope nm__law_done pm__law_done (defScope s__law_done) := ⟨rfl, rfl, rfl, by decide +kernel, rfl, by decide +kernel, by decide +kernel⟩
def sp__law_done (K : PySem.W.Frag) : Sp := fun vs H Q _ => ∃ (a M : Addr) (S : List Addr) (v : KV) (xs : List V) (kind : Int) (x : V) (n : String), vs = [.ref a, .ref M, .int kind, x] ∧ H a = some (.tup xs) ∧ RuleVs H xs v.rus ∧ v.rus.length ≤ 1000 ∧ MdAt H M S v ∧ v.ns.length ≤ 100 ∧ v.ps.length ≤ 100 ∧ v.ps.Pairwise (· < ·) ∧
  Thing K H x n ∧ 0 ≤ kind ∧ kind ≤ 3 ∧
  ∀ p H' S', Step S H H' → Own H S S' → H p = none → DueAt H' p (deed v kind x).1 → MdAt H' M S' (deed v kind x).2 → Q (.ref p) H'
theorem f__law_done (T : Txt K mg) : Fk P w K mg base CX0 lv__law_done "_law_done" pm__law_done (sp__law_done K) := by
  obtain ⟨f, fd, F, g, b⟩ := T.d__law_done.ex
  refine ⟨f, fd, g, F.kp, b, F.ok sc__law_done (fun vs H Q E h => ?_) (fun cdv A outer s H vs Q E hr h => ?_)⟩
  · obtain ⟨a, M, S, v, xs, kind, x, n, rfl, _⟩ := h; rfl
  · obtain ⟨a, M, S, v, xs, kind, x, n, rfl, ha, hR, hrl, hMd, hn, hp, hpr, hx, k0, k3, q⟩ := h
    obtain ⟨A1, B1, rfl, hAB, hM, hA, hB⟩ := hMd.at_
    refine ⟨_, (pss_cons (ps_if (pt_cmpR op_eq (pv 2) pe_int (nomark _)) (pss_cons (ps_if (PW.pt (pw_or (pt_not (pt_val (pe_fn (f__law_whole T) (hr.mono (by decide)) (by rfl) pass0 (pa_cons (pv 3) pa_nil)))) (pw_or (pt_cmpR op_lt (pv 3) pe_int (nomark _)) (pw_or1 (pt_cmpR op_gt (pv 3) (pe_op op_pow pe_int pe_int) (nomark _)))))) (pss_one (ps_ret (pe_fn (f__law_refused T) (hr.mono (by decide)) (by rfl) pass0 (pa_cons pe_str pa_nil)))) pss_nil)
      (pss_cons (ps_if (PW.pt (pw_and (pt_cmpR op_notN (pe_ix ix_list (pv 1) pe_int (fun _ _ => rfl)) pe_non (nomark _)) (pw_and1 (pt_cmpR op_le (pv 3) (pe_ix ix_list (pv 1) pe_int (fun _ _ => rfl)) (nomark _))))) (pss_one (ps_ret (pe_fn (f__law_refused T) (hr.mono (by decide)) (by rfl) pass0 (pa_cons pe_str pa_nil)))) pss_nil)
      (pss_cons (ps_if (pt_cmpR op_eq (pe_callB call_len_seq (by rfl) T.b_len PySem.boot_len (pa_cons (pe_ix ix_list (pv 1) pe_int (fun _ _ => rfl)) pa_nil)) pe_int (nomark _)) (pss_one (ps_ret (pe_fn (f__law_refused T) (hr.mono (by decide)) (by rfl) pass0 (pa_cons pe_str pa_nil)))) pss_nil)
      (pss_cons (ps_expr (pe_bm PySem.F.plainAttrs_list PySem.F.slot_list_append PySem.F.type_list_append mt_append (pe_ix ix_list (pv 1) pe_int (fun _ _ => rfl)) (pa_cons (pv 3) pa_nil)))
      (pss_one (ps_asg (pv 3) (pg_sub (pv 1) pe_int set_list))))))) pss_nil)
      (pss_cons (ps_if (pt_cmpR op_eq (pv 2) pe_int (nomark _)) (pss_cons (ps_set (i := 4) sc__law_done.nd rfl (.inr rfl) (pe_fn (f__law_gone T) (hr.mono (by decide)) (by rfl) pass0 (pa_cons (pv 0) (pa_cons (pv 1) pa_nil))))
      (pss_cons (ps_asg (pe_lc (own := [("night", 5)]) (g := gName 5) (by rfl) sc__law_done.nd (pi_list (pe_ix ix_list (pv 1) pe_int (fun _ _ => rfl))) (blkOk_by (own := [("night", 5)]) (N := nm__law_done) (sc := defScope s__law_done) (by decide +kernel)) (fun _ _ _ _ _ => (pg_name (i := 5) sc__law_done.nd rfl (Or.inl rfl))) (fun _ _ _ _ _ => (pts_one (pt_cmpR (op_notInK K rfl) (pv 5) (pv 4) (by rfl)))) (fun _ _ _ _ _ => (pv 5))) (pg_sub (pv 1) pe_int set_list))
      (pss_one (ps_ret (pe_tup (pa_cons pe_str (pa_cons (pv 4) pa_nil))))))) pss_nil)
      (pss_cons (ps_if (pt_cmpR op_eq (pv 2) pe_int (nomark _)) (pss_cons (ps_if (PW.pt (pw_or (pt_not (pt_val (pe_fn (f__law_whole T) (hr.mono (by decide)) (by rfl) pass0 (pa_cons (pv 3) pa_nil)))) (pw_or1 (pt_cmpR op_notIn_seq (pv 3) (pe_ix ix_list (pv 1) pe_int (fun _ _ => rfl)) (by rfl))))) (pss_one (ps_ret (pe_fn (f__law_refused T) (hr.mono (by decide)) (by rfl) pass0 (pa_cons pe_str pa_nil)))) pss_nil)
      (pss_cons (ps_if (pt_cmpR op_in_seq (pv 3) (pe_ix ix_list (pv 1) pe_int (fun _ _ => rfl)) (by rfl)) (pss_one (ps_ret (pe_fn (f__law_refused T) (hr.mono (by decide)) (by rfl) pass0 (pa_cons pe_str pa_nil)))) pss_nil)
      (pss_one (ps_asg (pe_callB cr_sortedI (by rfl) T.b_sorted (by decide +kernel) (pa_cons (pe_op op_cat (pe_ix ix_list (pv 1) pe_int (fun _ _ => rfl)) (pe_lst (pa_cons (pv 3) pa_nil))) pa_nil)) (pg_sub (pv 1) pe_int set_list))))) pss_nil)
      (pss_cons (ps_if (pt_cmpR op_eq (pv 2) pe_int (nomark _)) (pss_cons (ps_if (PW.pt (pw_or (pt_not (pt_val (pe_fn (f__law_whole T) (hr.mono (by decide)) (by rfl) pass0 (pa_cons (pv 3) pa_nil)))) (pw_or1 (pt_cmpR op_notIn_seq (pv 3) (pe_ix ix_list (pv 1) pe_int (fun _ _ => rfl)) (by rfl))))) (pss_one (ps_ret (pe_fn (f__law_refused T) (hr.mono (by decide)) (by rfl) pass0 (pa_cons pe_str pa_nil)))) pss_nil)
      (pss_one (ps_asg (pe_lc (own := [("night", 5)]) (g := gName 5) (by rfl) sc__law_done.nd (pi_list (pe_ix ix_list (pv 1) pe_int (fun _ _ => rfl))) (blkOk_by (own := [("night", 5)]) (N := nm__law_done) (sc := defScope s__law_done) (by decide +kernel)) (fun _ _ _ _ _ => (pg_name (i := 5) sc__law_done.nd rfl (Or.inl rfl))) (fun _ _ _ _ _ => (pts_one (pt_cmpR op_ne (pv 5) (pv 3) (nomark _)))) (fun _ _ _ _ _ => (pv 5))) (pg_sub (pv 1) pe_int set_list)))) pss_nil)
      (pss_one (ps_ret (pe_tup (pa_cons pe_str (pa_cons pe_non pa_nil))))))))), ?_⟩
    have hk : kind = 0 ∨ kind = 1 ∨ kind = 2 ∨ kind = 3 := by omega
    have hAM := md_neA hM hA
    have hBM := md_neA hM hB
    have hst : Step [M, A1, B1] H H := .refl
    rcases hk with rfl | rfl | rfl | rfl
    · with_reducible refine seq_k fun K_ hK_ => ?_
      walk_at "rt"
      have fin : ∀ H', Step [M, A1, B1] H H' → MdAt H' M [M, A1, B1] (deed v 0 x).2 → (deed v 0 x).1 = .non → K_ [some (.ref a), some (.ref M), some (.int 0), some x, none, none] H' := by
        intro H' st hm hd
        walk_at "rt"
        subst hK_
        first | with_reducible refine seq_k fun K_ hK_ => ?_ | skip
        walk_at "rt"
        rw [if_neg (by decide)]
        walk_at "rt"
        subst hK_
        first | with_reducible refine seq_k fun K_ hK_ => ?_ | skip
        walk_at "rt"
        rw [if_neg (by decide)]
        walk_at "rt"
        subst hK_
        first | with_reducible refine seq_k fun K_ hK_ => ?_ | skip
        walk_at "rt"
        rw [if_neg (by decide)]
        walk_at "rt"
        subst hK_
        first | with_reducible refine seq_k fun K_ hK_ => ?_ | skip
        walk_at "rt"
        intro p n_p
        generalize hG_ : upd _ p _ = H2
        obtain ⟨s2, hp2⟩ := newF n_p hG_
        clear hG_
        exact q p H2 _ (st.same s2) .refl (st.free n_p (hm.out n_p)) (by rw [hd]; exact hp2) (hm.same s2)
      clear hK_
      have rfd : ∀ (j : Nat) (wd : Str) , (deed v 0 x) = (.rf j, v) → exWords[j]? = some wd → sp__law_refused [.str wd] H Q E0 := fun j wd e hj =>
        ⟨wd, j, rfl, hj, fun p H' s hp hp' => q p H' _ (.of s) .refl hp (by rw [e]; exact hp') (by rw [e]; exact hMd.same s)⟩
      with_reducible refine seq_k fun K_ hK_ => ?_
      walk_at "rt"
      refine ⟨x, n, rfl, hx, _, rfl, ?_⟩
      refine ite2 (fun c1 => ?_) (fun c1 => ?_)
      · refine rfd 1 "night" ?_ rfl
        rw [deed0]
        exact take_bad (by cases x <;> simp_all [isNumV, isWholeV])
      · obtain ⟨m, rfl⟩ : ∃ m, x = .int m := by
          cases x with
          | int i => exact ⟨i, rfl⟩
          | _ => simp [isWholeV] at c1
        have hpow : (10 : Int) ^ Int.toNat 9 = 1000000000 := by decide
        refine ⟨m, rfl, ?_⟩
        refine ite2 (fun c2 => rfd 1 "night" (by rw [deed0]; exact take_bad (by simp [isNumV]; omega)) rfl) (fun c2 => ?_)
        refine ⟨⟨by decide, by decide⟩, m, rfl, ?_⟩
        rw [hpow]
        refine ite2 (fun c3 => rfd 1 "night" (by rw [deed0]; exact take_bad (by simp [isNumV]; omega)) rfl) (fun c3 => ?_)
        have h0 : 0 ≤ m := by omega
        have h1 : m ≤ 1000000000 := by omega
        walk_at "rt"
        subst hK_
        first | with_reducible refine seq_k fun K_ hK_ => ?_ | skip
        walk_at "rt"
        refine ixL (j := 2) (sqL hM) rfl rfl ?_
        have more : (∀ l, v.last = some l → l < m) → K_ [some (.ref a), some (.ref M), some (.int 0), some (.int m), none, none] H := fun hl => by
          walk_at "rt"
          subst hK_
          first | with_reducible refine seq_k fun K_ hK_ => ?_ | skip
          walk_at "rt"
          refine ixL (j := 0) (sqL hM) rfl rfl ?_
          refine ⟨A1, rfl, _, .inl (sqL hA), ?_⟩
          rw [List.length_map]
          refine ite2 (fun c4 => rfd 6 "full" (by rw [deed0]; exact take_full h0 h1 hl (by omega)) rfl) (fun c4 => ?_)
          have hn' : v.ns.length < 100 := by omega
          walk_at "rt"
          subst hK_
          first | with_reducible refine seq_k fun K_ hK_ => ?_ | skip
          walk_at "rt"
          refine ixL (j := 0) (sqL hM) rfl rfl (app hA (by rw [List.length_map]; omega) ?_)
          generalize hG_ : upd _ A1 _ = H1
          obtain ⟨st1, b1, hA1⟩ := putH hst (by simp) hA (fun _ z => nomatch z) hG_
          clear hG_
          have hM1 := b1 _ _ hM hAM.symm
          have hB1 := b1 _ _ hB hAB.symm
          walk_at "rt"
          subst hK_
          first | with_reducible refine seq_k fun K_ hK_ => ?_ | skip
          walk_at "rt"
          refine setL (j := 2) hM1 rfl (by simp) ?_
          generalize hG_ : upd _ M _ = H2
          obtain ⟨st2, b2, hM2⟩ := putH st1 (by simp) hM1 (fun _ z => nomatch z) hG_
          clear hG_
          have hA2 : H2 A1 = some (.lst ((v.ns ++ [m]).map V.int)) := by rw [b2 _ _ hA1 hAM, List.map_append]; rfl
          exact fin H2 st2 (by rw [deed0, take_ok h0 h1 hl hn']; exact ⟨A1, B1, rfl, hAB, hM2, hA2, b2 _ _ hB1 hBM⟩) (by rw [deed0, take_ok h0 h1 hl hn'])
        cases hlast : v.last with
        | none =>
          rw [if_neg (fun e => e rfl)]
          exact more (fun l e => by rw [hlast] at e; cases e)
        | some l =>
          rw [if_pos (fun e => nomatch e)]
          refine ixL (j := 2) (sqL hM) rfl rfl ?_
          rw [hlast]
          refine ⟨l, rfl, ?_⟩
          refine ite2 (fun c4 => rfd 5 "elder" (by rw [deed0]; exact take_old h0 h1 hlast c4) rfl) (fun c4 => more fun l' e => by rw [hlast] at e; cases e; omega)
    · with_reducible refine seq_k fun K_ hK_ => ?_
      walk_at "rt"
      rw [if_neg (by decide)]
      walk_at "rt"
      subst hK_
      first | with_reducible refine seq_k fun K_ hK_ => ?_ | skip
      walk_at "rt"
      with_reducible refine seq_k fun K_ hK_ => ?_
      walk_at "rt"
      refine ⟨a, M, _, v, xs, rfl, ha, hR, hrl, hMd, by omega, by omega, fun p H1 s1 hp1 hp2 => ?_⟩
      walk_at "rt"
      subst hK_
      first | with_reducible refine seq_k fun K_ hK_ => ?_ | skip
      walk_at "rt"
      refine ixL (j := 0) (sqL (s1 _ _ hM)) rfl rfl ?_
      refine ⟨_, rfl, ⟨_, sqL (s1 _ _ hA)⟩, fun D hD => ?_⟩
      refine lcF (fun n => decide (n ∉ goneK v)) hD (sqL (s1 _ _ hA)) (by omega) (fun _ => rfl) (fun _ => rfl) (fun m H3 _ s3 Q hQ => ?_) (fun H3 s3 hD3 => ?_)
      · walk_at "rt"
        refine ⟨p, _, rfl, .inl (sqL (s3 _ _ hp2)), rfl, flat_ints _, _, rfl, ?_⟩
        rw [if_pos rfl, inV_ints, ← decide_not]
        exact hQ H3 (Same.refl _)
      · have s13 := s1.trans s3
        have hM3 := s13 _ _ hM
        refine setL (j := 0) hM3 rfl (by simp) ?_
        have st3 : Step [M, A1, B1] H H3 := .of s13
        generalize hG_ : upd _ M _ = H4
        obtain ⟨st4, b4, hM4⟩ := putH st3 (by simp) hM3 (fun _ z => nomatch z) hG_
        clear hG_
        have hDM : D ≠ M := (ne_of_none (s1 _ _ hM) hD).symm
        have hpM : p ≠ M := (ne_of_none hM hp1).symm
        have hBD : B1 ≠ D := ne_of_none (s1 _ _ hB) hD
        have hA4 := b4 _ _ (s13 _ _ hA) hAM
        have hB4 := b4 _ _ (s13 _ _ hB) hBM
        have hD0 := s1.free hD
        have hm4 : MdAt H4 M [M, D, B1] { v with ns := leftK v } := ⟨D, B1, rfl, hBD.symm, hM4, b4 _ _ hD3 hDM, hB4⟩
        walk_at "rt"
        subst hK_
        first | with_reducible refine seq_k fun K_ hK_ => ?_ | skip
        walk_at "rt"
        intro z n_z
        generalize hG_ : upd _ z _ = H5
        obtain ⟨s5, hz5⟩ := newF n_z hG_
        clear hG_
        have hzS : z ∉ [M, A1, B1] := by
          have h1 := ne_of_none hM4 n_z
          have h2 := ne_of_none hA4 n_z
          have h3 := ne_of_none hB4 n_z
          simp [Ne.symm h1, Ne.symm h2, Ne.symm h3]
        refine q z H5 [M, D, B1] (st4.same s5) (fun b hb => ?_) (st4.free n_z hzS) ⟨p, hz5, s5 _ _ (b4 _ _ (s3 _ _ hp2) hpM)⟩ (hm4.same s5)
        rcases List.mem_cons.mp hb with rfl | hb
        · exact .inl (by simp)
        · rcases List.mem_cons.mp hb with rfl | hb
          · exact .inr hD0
          · exact .inl (by simp at hb ⊢; exact .inr (.inr hb))
    · with_reducible refine seq_k fun K_ hK_ => ?_
      walk_at "rt"
      rw [if_neg (by decide)]
      walk_at "rt"
      subst hK_
      first | with_reducible refine seq_k fun K_ hK_ => ?_ | skip
      walk_at "rt"
      rw [if_neg (by decide)]
      walk_at "rt"
      subst hK_
      first | with_reducible refine seq_k fun K_ hK_ => ?_ | skip
      walk_at "rt"
      have fin : ∀ H' S', Step [M, A1, B1] H H' → Own H [M, A1, B1] S' → (∀ p, H' p = none → H p = none) → MdAt H' M S' (deed v 2 x).2 → (deed v 2 x).1 = .non → K_ [some (.ref a), some (.ref M), some (.int 2), some x, none, none] H' := by
        intro H' S' st hw hfr hm hd
        walk_at "rt"
        subst hK_
        first | with_reducible refine seq_k fun K_ hK_ => ?_ | skip
        walk_at "rt"
        rw [if_neg (by decide)]
        walk_at "rt"
        subst hK_
        first | with_reducible refine seq_k fun K_ hK_ => ?_ | skip
        walk_at "rt"
        intro p n_p
        generalize hG_ : upd _ p _ = H2
        obtain ⟨s2, hp2⟩ := newF n_p hG_
        clear hG_
        exact q p H2 _ (st.same s2) hw (hfr p n_p) (by rw [hd]; exact hp2) (hm.same s2)
      clear hK_
      have rfd : ∀ (j : Nat) (wd : Str) , (deed v 2 x) = (.rf j, v) → exWords[j]? = some wd → sp__law_refused [.str wd] H Q E0 := fun j wd e hj =>
        ⟨wd, j, rfl, hj, fun p H' s hp hp' => q p H' _ (.of s) .refl hp (by rw [e]; exact hp') (by rw [e]; exact hMd.same s)⟩
      with_reducible refine seq_k fun K_ hK_ => ?_
      walk_at "rt"
      refine ⟨x, n, rfl, hx, _, rfl, ?_⟩
      refine ite2 (fun c1 => ?_) (fun c1 => ?_)
      · refine rfd 7 "held" ?_ rfl
        rw [deed2]
        exact pin_bad (fun m e => by subst e; simp [isWholeV] at c1)
      · obtain ⟨m, rfl⟩ : ∃ m, x = .int m := by
          cases x with
          | int i => exact ⟨i, rfl⟩
          | _ => simp [isWholeV] at c1
        refine ixL (j := 0) (sqL hM) rfl rfl ?_
        refine ⟨A1, _, rfl, .inl (sqL hA), rfl, flat_ints _, _, rfl, ?_⟩
        rw [if_pos rfl, inV_ints]
        refine ite2 (fun c2 => rfd 7 "held" (by rw [deed2]; exact pin_bad (fun m' e hm => by cases e; simp [hm] at c2)) rfl) (fun c2 => ?_)
        have hmn : m ∈ v.ns := by simpa using c2
        walk_at "rt"
        subst hK_
        first | with_reducible refine seq_k fun K_ hK_ => ?_ | skip
        walk_at "rt"
        refine ixL (j := 1) (sqL hM) rfl rfl ?_
        refine ⟨B1, _, rfl, .inl (sqL hB), rfl, flat_ints _, _, rfl, ?_⟩
        rw [if_neg Bool.false_ne_true, inV_ints]
        refine ite2 (fun c3 => rfd 8 "pinned" (by rw [deed2]; exact pin_old hmn (by simpa using c3)) rfl) (fun c3 => ?_)
        have hmp : m ∉ v.ps := by simpa using c3
        walk_at "rt"
        subst hK_
        first | with_reducible refine seq_k fun K_ hK_ => ?_ | skip
        walk_at "rt"
        refine ixL (j := 1) (sqL hM) rfl rfl ?_
        intro q1 n_q1
        generalize hG_ : upd _ q1 _ = H2
        obtain ⟨s2, hq1⟩ := newF n_q1 hG_
        clear hG_
        refine ⟨B1, q1, _, _, rfl, rfl, s2 _ _ hB, hq1, sz (by simp; omega), ?_⟩
        intro q2' n_q2'
        generalize hG_ : upd _ q2' _ = H3
        obtain ⟨s3, hq2⟩ := newF n_q2' hG_
        clear hG_
        have hq2 : H3 q2' = some (.lst ((v.ps ++ [m]).map V.int)) := by rw [hq2, List.map_append]; rfl
        refine ⟨q2', _, rfl, sqL hq2, fun ns' z hperm hsort hz => ?_⟩
        generalize hG_ : upd H3 z _ = H4
        obtain ⟨s4, hz4⟩ := newF hz hG_
        clear hG_
        have s24 := s2.trans (s3.trans s4)
        have hM4 := s24 _ _ hM
        have nd : ns'.Nodup := by
          rw [hperm.nodup_iff, List.nodup_append]
          exact ⟨rise_nodup hpr, by simp, fun a ha b hb e => by rw [List.mem_singleton.mp hb] at e; rw [e] at ha; exact hmp ha⟩
        have hns : ns' = insP m v.ps := rise_ext (rise_of_le hsort nd) (insP_rise hpr) fun y => by rw [hperm.mem_iff, mem_insP]; simp
        subst hns
        refine setL (j := 1) hM4 rfl (by simp) ?_
        have st4 : Step [M, A1, B1] H H4 := .of s24
        generalize hG_ : upd _ M _ = H5
        obtain ⟨st5, b5, hM5⟩ := putH st4 (by simp) hM4 (fun _ z => nomatch z) hG_
        clear hG_
        have hz0 := (s2.trans s3).free hz
        have hzM : z ≠ M := (ne_of_none hM hz0).symm
        have hzA : A1 ≠ z := ne_of_none hA hz0
        have hA5 := b5 _ _ (s24 _ _ hA) hAM
        have hB5 := b5 _ _ (s24 _ _ hB) hBM
        have hm5 : MdAt H5 M [M, A1, z] { v with ps := insP m v.ps } := ⟨A1, z, rfl, hzA, hM5, hA5, b5 _ _ hz4 hzM⟩
        refine fin H5 [M, A1, z] st5 (fun b hb => ?_) (fun p hp => ?_) (by rw [deed2, pin_ok hmn hmp]; exact hm5) (by rw [deed2, pin_ok hmn hmp])
        · rcases List.mem_cons.mp hb with rfl | hb
          · exact .inl (by simp)
          · rcases List.mem_cons.mp hb with rfl | hb
            · exact .inl (by simp)
            · rw [List.mem_singleton.mp hb]; exact .inr hz0
        · have h1 := ne_of_none hM5 hp
          have h2 := ne_of_none hA5 hp
          have h3 := ne_of_none hB5 hp
          exact st5.free hp (by simp [Ne.symm h1, Ne.symm h2, Ne.symm h3])
    · with_reducible refine seq_k fun K_ hK_ => ?_
      walk_at "rt"
      rw [if_neg (by decide)]
      walk_at "rt"
      subst hK_
      first | with_reducible refine seq_k fun K_ hK_ => ?_ | skip
      walk_at "rt"
      rw [if_neg (by decide)]
      walk_at "rt"
      subst hK_
      first | with_reducible refine seq_k fun K_ hK_ => ?_ | skip
      walk_at "rt"
      rw [if_neg (by decide)]
      walk_at "rt"
      subst hK_
      first | with_reducible refine seq_k fun K_ hK_ => ?_ | skip
      walk_at "rt"
      have fin : ∀ H' S', Step [M, A1, B1] H H' → Own H [M, A1, B1] S' → (∀ p, H' p = none → H p = none) → MdAt H' M S' (deed v 3 x).2 → (deed v 3 x).1 = .non → K_ [some (.ref a), some (.ref M), some (.int 3), some x, none, none] H' := by
        intro H' S' st hw hfr hm hd
        walk_at "rt"
        subst hK_
        first | with_reducible refine seq_k fun K_ hK_ => ?_ | skip
        walk_at "rt"
        intro p n_p
        generalize hG_ : upd _ p _ = H2
        obtain ⟨s2, hp2⟩ := newF n_p hG_
        clear hG_
        exact q p H2 _ (st.same s2) hw (hfr p n_p) (by rw [hd]; exact hp2) (hm.same s2)
      clear hK_
      have rfd : ∀ (j : Nat) (wd : Str) , (deed v 3 x) = (.rf j, v) → exWords[j]? = some wd → sp__law_refused [.str wd] H Q E0 := fun j wd e hj =>
        ⟨wd, j, rfl, hj, fun p H' s hp hp' => q p H' _ (.of s) .refl hp (by rw [e]; exact hp') (by rw [e]; exact hMd.same s)⟩
      with_reducible refine seq_k fun K_ hK_ => ?_
      walk_at "rt"
      refine ⟨x, n, rfl, hx, _, rfl, ?_⟩
      refine ite2 (fun c1 => ?_) (fun c1 => ?_)
      · refine rfd 9 "not pinned" ?_ rfl
        rw [deed3]
        exact unpin_bad (fun m e => by subst e; simp [isWholeV] at c1)
      · obtain ⟨m, rfl⟩ : ∃ m, x = .int m := by
          cases x with
          | int i => exact ⟨i, rfl⟩
          | _ => simp [isWholeV] at c1
        refine ixL (j := 1) (sqL hM) rfl rfl ?_
        refine ⟨B1, _, rfl, .inl (sqL hB), rfl, flat_ints _, _, rfl, ?_⟩
        rw [if_pos rfl, inV_ints]
        refine ite2 (fun c2 => rfd 9 "not pinned" (by rw [deed3]; exact unpin_bad (fun m' e hm => by cases e; simp [hm] at c2)) rfl) (fun c2 => ?_)
        have hmp : m ∈ v.ps := by simpa using c2
        walk_at "rt"
        subst hK_
        first | with_reducible refine seq_k fun K_ hK_ => ?_ | skip
        walk_at "rt"
        refine ixL (j := 1) (sqL hM) rfl rfl ?_
        refine ⟨_, rfl, ⟨_, sqL hB⟩, fun D hD => ?_⟩
        refine lcF (fun z => decide (z ≠ m)) hD (sqL hB) (by omega) (fun _ => rfl) (fun _ => rfl) (fun y H3 _ s3 Q hQ => ?_) (fun H3 s3 hD3 => ?_)
        · walk_at "rt"
          rw [← decide_not]
          exact hQ H3 (Same.refl _)
        · have hM3 := s3 _ _ hM
          refine setL (j := 1) hM3 rfl (by simp) ?_
          have st3 : Step [M, A1, B1] H H3 := .of s3
          generalize hG_ : upd _ M _ = H5
          obtain ⟨st5, b5, hM5⟩ := putH st3 (by simp) hM3 (fun _ z => nomatch z) hG_
          clear hG_
          have hDM : D ≠ M := (ne_of_none hM hD).symm
          have hDA : A1 ≠ D := ne_of_none hA hD
          have hA5 := b5 _ _ (s3 _ _ hA) hAM
          have hB5 := b5 _ _ (s3 _ _ hB) hBM
          have hm5 : MdAt H5 M [M, A1, D] { v with ps := v.ps.filter fun z => decide (z ≠ m) } := ⟨A1, D, rfl, hDA, hM5, hA5, b5 _ _ hD3 hDM⟩
          refine fin H5 [M, A1, D] st5 (fun b hb => ?_) (fun p hp => ?_) (by rw [deed3, unpin_ok hmp]; exact hm5) (by rw [deed3, unpin_ok hmp])
          · rcases List.mem_cons.mp hb with rfl | hb
            · exact .inl (by simp)
            · rcases List.mem_cons.mp hb with rfl | hb
              · exact .inl (by simp)
              · rw [List.mem_singleton.mp hb]; exact .inr hD
          · have h1 := ne_of_none hM5 hp
            have h2 := ne_of_none hA5 hp
            have h3 := ne_of_none hB5 hp
            exact st5.free hp (by simp [Ne.symm h1, Ne.symm h2, Ne.symm h3])
abbrev nm__law_like : List Str := ["keep", "model"]
abbrev pm__law_like : List Str := ["keep", "model"]
abbrev lv__law_like : Nat := 3
theorem sc__law_like : FnScope nm__law_like pm__law_like (defScope s__law_like) := ⟨rfl, rfl, rfl, by decide +kernel, rfl, by decide +kernel, by decide +kernel⟩
def sp__law_like (K : PySem.W.Frag) (mg : Str → Option Value) : Sp := fun vs H Q _ => ∃ (k M : Addr) (S S2 : List Addr) (v : KV), vs = [.ref k, .ref M] ∧ KeepAt K mg "Keep" [] H k S v ∧ MdAt H M S2 v ∧ ∀ H', Same H H' → Q (.bl true) H'
theorem f__law_like (T : Txt K mg) : Fk P w K mg base CX0 lv__law_like "_law_like" pm__law_like (sp__law_like K mg) := by
  obtain ⟨f, fd, F, g, b⟩ := T.d__law_like.ex
  refine ⟨f, fd, g, F.kp, b, F.ok sc__law_like (fun vs H Q E h => ?_) (fun cdv A outer s H vs Q E hr h => ?_)⟩
  · obtain ⟨k, M, S, S2, v, rfl, _⟩ := h; rfl
  · obtain ⟨k, M, S, S2, v, rfl, hK, hMd, q⟩ := h
    obtain ⟨A1, B1, rfl, hAB, hM, hA, hB⟩ := hMd.at_
    obtain ⟨dx, r, N, Pn, rfl, hNP, hk, hR, hN, hP⟩ := hK.at_
    have hn100 := hK.n100
    have hp100 := hK.plen
    refine ⟨_, (pss_cons (ps_if (PW.pt (pw_or (pt_cmpR (op_neD hr.units) (pe_me0 (pv 0) T.o_Keep (f_Keep__held T) (hr.mono (by decide)) pass0) (pe_ix ix_list (pv 1) pe_int (fun _ _ => rfl)) (nomark _)) (pw_or (pt_cmpR (op_neD hr.units) (pe_me0 (pv 0) T.o_Keep (f_Keep__pins T) (hr.mono (by decide)) pass0) (pe_ix ix_list (pv 1) pe_int (fun _ _ => rfl)) (nomark _)) (pw_or1 (pt_not (pt_val (pe_fn (f__law_wholes T) (hr.mono (by decide)) (by rfl) pass0 (pa_cons (pe_op op_cat (pe_me0 (pv 0) T.o_Keep (f_Keep__held T) (hr.mono (by decide)) pass0) (pe_me0 (pv 0) T.o_Keep (f_Keep__pins T) (hr.mono (by decide)) pass0)) pa_nil)))))))) (pss_one (ps_ret pe_bl)) pss_nil)
      (pss_one (ps_ret (pe_cmpR op_eq (pe_callB (cr_lenO T.o_Keep (f_Keep____len__ T) (hr.mono (by decide)) pass0) (by rfl) T.b_len PySem.boot_len (pa_cons (pv 0) pa_nil)) (pe_callB call_len_seq (by rfl) T.b_len PySem.boot_len (pa_cons (pe_ix ix_list (pv 1) pe_int (fun _ _ => rfl)) pa_nil)) (nomark _))))), ?_⟩
    with_reducible refine seq_k fun K_ hK_ => ?_
    walk_at "rt"
    refine ⟨dx, _, hk, rfl, k, _, v, rfl, hK, fun p1 H1 s1 _ hp1 => ?_⟩
    refine ixL (j := 0) (sqL (s1 _ _ hM)) rfl rfl ?_
    refine neD (d := dLI v.ns) (e := dLI v.ns) (dp_LI (sqL hp1)) (dp_LI (sqL (s1 _ _ hA))) (gd_dLI (k := 0) _) (gd_dLI (k := 0) _) (fun _ => ?_) (fun e => absurd rfl e)
    refine ⟨_, rfl, ?_⟩
    rw [if_neg Bool.false_ne_true]
    refine ⟨dx, _, s1 _ _ hk, rfl, k, _, v, rfl, hK.same s1, fun p2 H2 s2 _ hp2 => ?_⟩
    have s12 := s1.trans s2
    refine ixL (j := 1) (sqL (s12 _ _ hM)) rfl rfl ?_
    refine neD (d := dLI v.ps) (e := dLI v.ps) (dp_LI (sqL hp2)) (dp_LI (sqL (s12 _ _ hB))) (gd_dLI (k := 0) _) (gd_dLI (k := 0) _) (fun _ => ?_) (fun e => absurd rfl e)
    refine ⟨_, rfl, ?_⟩
    rw [if_neg Bool.false_ne_true]
    refine ⟨dx, _, s12 _ _ hk, rfl, k, _, v, rfl, hK.same s12, fun p3 H3 s3 _ hp3 => ?_⟩
    have s13 := s12.trans s3
    refine ⟨dx, _, s13 _ _ hk, rfl, k, _, v, rfl, hK.same s13, fun p4 H4 s4 _ hp4 => ?_⟩
    have s14 := s13.trans s4
    refine ⟨p3, p4, _, _, rfl, rfl, s4 _ _ hp3, hp4, sz (by rw [List.length_map, List.length_map]; omega), ?_⟩
    intro p5 n_p5
    generalize hG_ : upd _ p5 _ = H5
    obtain ⟨s5, hp5⟩ := newF n_p5 hG_
    clear hG_
    have s15 := s14.trans s5
    refine ⟨p5, _, rfl, hp5, by simp; omega, fun x hx => ?_, fun H6 s6 => ?_⟩
    · rw [← List.map_append] at hx
      obtain ⟨z, _, rfl⟩ := List.mem_map.mp hx
      exact ⟨z, rfl⟩
    · have s16 := s15.trans s6
      refine ⟨true, rfl, ?_⟩
      rw [if_neg (by decide)]
      walk_at "rt"
      subst hK_
      first | with_reducible refine seq_k fun K_ hK_ => ?_ | skip
      walk_at "rt"
      refine ⟨k, dx, _, rfl, s16 _ _ hk, k, _, v, rfl, hK.same s16, v.ns.length, rfl, by omega, ?_⟩
      refine ixL (j := 0) (sqL (s16 _ _ hM)) rfl rfl ?_
      refine ⟨A1, rfl, _, .inl (sqL (s16 _ _ hA)), rfl, ?_⟩
      rw [List.length_map, decide_eq_true rfl]
      exact q _ s16
end
end Nk
namespace Nk
open PySem L2
section
theorem pe_fn0 {X : Cx} {CX : CXT} {k : Nat} {ps : List Str} {sp : Sp} {x : Str} {p pos : Pos} {E : XK} (F : Fk X.prog X.w X.K X.mg X.base CX k x ps sp) (hr : Room k X.A) (hg : Gl X x) (hx : Passes CX X E) (hdb : (x == ("__debug__" : Str)) = false := by decide) :
    PE X (.Call (.Name x p) [] [] pos) (tCall sp [] E tNil) := by
  obtain ⟨f, fd, g, kp, b, G⟩ := F.ex
  exact pe_call0 G hr hg g kp b .nil hx hdb
variable {P : Program} {w : World} {K : PySem.W.Frag} {mg : Str → Option Value} {base : Heap}
theorem RuleAt.step {S : List Addr} {H H' : Hp} {x : V} {ru : List Int × Int} (h : RuleAt H x ru) (s : Step S H H') : RuleAt H' x ru := by
  obtain ⟨b, r, rfl, hb, hr, m0, m1⟩ := h
  exact ⟨b, r, rfl, s.tups _ _ hb, ⟨s.tups _ _ hr.at_, hr.ok, hr.le, hr.ln⟩, m0, m1⟩
theorem RuleVs.step {S : List Addr} {H H' : Hp} {xs : List V} {rus : List (List Int × Int)} (h : RuleVs H xs rus) (s : Step S H H') : RuleVs H' xs rus :=
  ⟨h.1, fun i x hx => by obtain ⟨ru, h1, h2⟩ := h.2 i x hx; exact ⟨ru, h1, h2.step s⟩⟩
theorem Step.fresh {S : List Addr} {H0 H H' : Hp} (s0 : Same H0 H) (st : Step S H H') (f : ∀ b ∈ S, H0 b = none) : Same H0 H' := fun b o h => st.keep b o (s0 b o h) fun hm => by
  rw [f b hm] at h; cases h
theorem Same.but0 {t : Addr} {H H1 H' : Hp} (s : Same H H1) (b : But t H1 H') (ht : H t = none) : Same H H' := fun p o h => b _ _ (s _ _ h) (ne_of_none h ht)
theorem Tn.step {S : List Addr} {H0 H H' : Hp} {a t : Addr} {ns : List Int} {c : Nat} (T : Tn K H a t ns c) (hS : SqL K H0 a (ns.map V.int)) (ht : H0 t = none) (s0 : Same H0 H') (st : Step S H H') (n : t ∉ S) : Tn K H' a t ns c := by
  obtain ⟨ls, h1, h2⟩ := T.town
  exact ⟨(SqN.new hS ht).same s0, T.len, ls, h1, st.keep _ _ h2 n⟩
/-- a keep and the law's own, side by side; H0 the heap at the law's start -/
structure Sit (K : PySem.W.Frag) (mg : Str → Option Value) (H0 H : Hp) (a t : Addr) (ns : List Int) (c : Nat) (r : Addr) (xs : List V) (k : Addr) (S : List Addr) (M : Addr) (S2 : List Addr) (v v2 : KV) : Prop where
  s0 : Same H0 H
  hS : SqL K H0 a (ns.map V.int)
  ht : H0 t = none
  tn : Tn K H a t ns c
  hr : H r = some (.tup xs)
  rv : RuleVs H xs v.rus
  rl : v.rus.length ≤ 5
  ru : v2.rus = v.rus
  kp : KeepAt K mg "Keep" [] H k S v
  md : MdAt H M S2 v2
  dj : ∀ b ∈ S, b ∉ S2
  f1 : ∀ b ∈ S, H0 b = none
  f2 : ∀ b ∈ S2, H0 b = none
  t1 : t ∉ S
  t2 : t ∉ S2
variable {H0 H H' : Hp} {a t : Addr} {ns : List Int} {c c' : Nat} {r : Addr} {xs : List V} {k : Addr} {S S' : List Addr} {M : Addr} {S2 S2' : List Addr} {v v2 v' : KV}
theorem Sit.same (h : Sit K mg H0 H a t ns c r xs k S M S2 v v2) (s : Same H H') : Sit K mg H0 H' a t ns c r xs k S M S2 v v2 :=
  ⟨h.s0.trans s, h.hS, h.ht, h.tn.same s, s _ _ h.hr, h.rv.same s, h.rl, h.ru, h.kp.same s, h.md.same s, h.dj, h.f1, h.f2, h.t1, h.t2⟩
theorem Sit.town (h : Sit K mg H0 H a t ns c r xs k S M S2 v v2) (b : But t H H') (T : Tn K H' a t ns c') : Sit K mg H0 H' a t ns c' r xs k S M S2 v v2 := by
  obtain ⟨l, hl⟩ := h.tn.lst
  have st := b.step hl
  have n1 : ∀ b ∈ S, b ∉ [t] := fun b hb e => h.t1 (by rw [← List.mem_singleton.mp e]; exact hb)
  have n2 : ∀ b ∈ S2, b ∉ [t] := fun b hb e => h.t2 (by rw [← List.mem_singleton.mp e]; exact hb)
  exact ⟨Step.fresh h.s0 st (fun b hb => by rw [List.mem_singleton.mp hb]; exact h.ht), h.hS, h.ht, T, st.tups _ _ h.hr, h.rv.step st, h.rl, h.ru, h.kp.step st n1, h.md.step st n2, h.dj, h.f1, h.f2, h.t1, h.t2⟩
theorem Sit.keep (h : Sit K mg H0 H a t ns c r xs k S M S2 v v2) (st : Step S H H') (w : Own H S S') (hk : KeepAt K mg "Keep" [] H' k S' v') (e : v'.rus = v.rus) : Sit K mg H0 H' a t ns c r xs k S' M S2 v' v2 := by
  have s0' := Step.fresh h.s0 st h.f1
  obtain ⟨l, hl⟩ := h.tn.lst
  refine ⟨s0', h.hS, h.ht, h.tn.step h.hS h.ht s0' st h.t1, st.tups _ _ h.hr, by rw [e]; exact h.rv.step st, by rw [e]; exact h.rl, by rw [e]; exact h.ru, hk, h.md.step st fun b hb hS => h.dj b hS hb, fun b hb hb2 => ?_, fun b hb => ?_, h.f2, fun hb => ?_, h.t2⟩
  · rcases w b hb with hb | hb
    · exact h.dj b hb hb2
    · exact h.md.out hb hb2
  · rcases w b hb with hb | hb
    · exact h.f1 b hb
    · exact h.s0.free hb
  · rcases w t hb with hb | hb
    · exact h.t1 hb
    · rw [hl] at hb; cases hb
theorem Sit.mod (h : Sit K mg H0 H a t ns c r xs k S M S2 v v2) (st : Step S2 H H') (w : Own H S2 S2') (hk : MdAt H' M S2' v') (e : v'.rus = v2.rus) : Sit K mg H0 H' a t ns c r xs k S M S2' v v' := by
  have s0' := Step.fresh h.s0 st h.f2
  obtain ⟨l, hl⟩ := h.tn.lst
  refine ⟨s0', h.hS, h.ht, h.tn.step h.hS h.ht s0' st h.t2, st.tups _ _ h.hr, h.rv.step st, h.rl, by rw [e]; exact h.ru, h.kp.step st h.dj, hk, fun b hb hb2 => ?_, h.f1, fun b hb => ?_, h.t1, fun hb => ?_⟩
  · rcases w b hb2 with hb2 | hb2
    · exact h.dj b hb hb2
    · exact h.kp.out hb2 hb
  · rcases w b hb with hb | hb
    · exact h.f2 b hb
    · exact h.s0.free hb
  · rcases w t hb with hb | hb
    · exact h.t2 hb
    · rw [hl] at hb; cases hb
theorem KeepAt.leN {c : Str} {ex : List (Str × V)} (h : KeepAt K mg c ex H k S v) : ∀ z ∈ v.ns, z ≤ v.last.getD 0 := fun z hz => by
  obtain ⟨l, h1, h2⟩ := h.lst z hz
  rw [h1]
  exact h2
theorem KeepAt.leP {c : Str} {ex : List (Str × V)} (h : KeepAt K mg c ex H k S v) : ∀ z ∈ v.ps, z ≤ v.last.getD 0 := fun z hz => h.leN z (h.psub z hz)
theorem KeepAt.last0 {c : Str} {ex : List (Str × V)} (h : KeepAt K mg c ex H k S v) : 0 ≤ v.last.getD 0 := by
  cases e : v.last with
  | none => exact Int.le_refl _
  | some l => exact (h.lb l e).1
theorem deed_rus (v : KV) (kind : Int) (x : V) : (deed v kind x).2.rus = v.rus := by
  unfold deed takeD pinD unpinD
  repeat' split
  all_goals rfl
theorem keep_new {H : Hp} {r : Addr} {rus : List (List Int × Int)} {Q : Addr → Hp → Prop} {E : XK} (R : RulesAt H r rus) (q : ∀ k N Pn H', Same H H' → H k = none → H N = none → H Pn = none → KeepAt K mg "Keep" [] H' k [k, N, Pn] ⟨rus, [], [], none⟩ → Q k H') :
    ∀ x dx : Addr, H x = none → H dx = none → dx ≠ x → sp_Keep____init__ K mg [.ref x, .ref r] (upd (upd H dx (.own x)) x (.ins (cls mg "Keep") dx [])) (fun v H2 => v = .non ∧ Q x H2) E := by
  intro x dx hx hdx hne
  have s1 : Same H (upd (upd H dx (.own x)) x (.ins (cls mg "Keep") dx [])) := fun b o hb => by
    rw [upd_ne (ne_of_none hb hx), upd_ne (ne_of_none hb hdx)]
    exact hb
  have R1 := R.same s1
  refine ⟨x, dx, _, rfl, upd_same, R1.thing, fun e => ?_, fun e => ⟨r, rus, rfl, R1, fun H' N Pn st hN hP hK => ⟨rfl, q x N Pn H' (fun b o hb => st.keep b o (s1 _ _ hb) ?_) hx (s1.free hN) (s1.free hP) hK⟩⟩⟩
  · rw [R1.is] at e; cases e
  · intro hm
    rw [List.mem_singleton.mp hm, hx] at hb
    cases hb
theorem sit_new {H5 H6 H7 : Hp} {N Pn A1 B1 : Addr} {rus : List (List Int × Int)} (sA : Same H H5) (s6 : Same H5 H6) (s7 : Same H6 H7) (hS : SqL K H a (ns.map V.int)) (ht : H t = none) (T5 : Tn K H5 a t ns c) (hr5 : H5 r = some (.tup xs)) (hv5 : RuleVs H5 xs rus) (l5 : rus.length ≤ 5)
    (hK6 : KeepAt K mg "Keep" [] H6 k [k, N, Pn] ⟨rus, [], [], none⟩) (hk5 : H5 k = none) (hN5 : H5 N = none) (hP5 : H5 Pn = none) (hMd : ∀ rus, MdAt H7 M [M, A1, B1] ⟨rus, [], [], none⟩) (hM6 : H6 M = none) (hA6 : H6 A1 = none) (hB6 : H6 B1 = none) :
    Sit K mg H H7 a t ns c r xs k [k, N, Pn] M [M, A1, B1] ⟨rus, [], [], none⟩ ⟨rus, [], [], none⟩ := by
  have T6 := T5.same s6
  have sB := sA.trans s6
  obtain ⟨l6, hl6⟩ := T6.lst
  obtain ⟨l5', hl5⟩ := T5.lst
  refine ⟨sB.trans s7, hS, ht, T6.same s7, s7 _ _ (s6 _ _ hr5), (hv5.same s6).same s7, l5, rfl, hK6.same s7, hMd rus, fun b hb hb2 => ?_, fun b hb => ?_, fun b hb => ?_, fun hb => ?_, fun hb => ?_⟩
  · have e : H6 b = none := by
      simp only [List.mem_cons, List.not_mem_nil, or_false] at hb2
      rcases hb2 with rfl | rfl | rfl <;> assumption
    exact hK6.out e hb
  · simp only [List.mem_cons, List.not_mem_nil, or_false] at hb
    rcases hb with rfl | rfl | rfl
    · exact sA.free hk5
    · exact sA.free hN5
    · exact sA.free hP5
  · simp only [List.mem_cons, List.not_mem_nil, or_false] at hb
    rcases hb with rfl | rfl | rfl
    · exact sB.free hM6
    · exact sB.free hA6
    · exact sB.free hB6
  · have e : H5 t = none := by
      simp only [List.mem_cons, List.not_mem_nil, or_false] at hb
      rcases hb with rfl | rfl | rfl <;> assumption
    rw [hl5] at e; cases e
  · have e : H6 t = none := by
      simp only [List.mem_cons, List.not_mem_nil, or_false] at hb
      rcases hb with rfl | rfl | rfl <;> assumption
    rw [hl6] at e; cases e
end
end Nk
namespace Nk
open PySem L2
section
variable {P : Program} {w : World} {K : PySem.W.Frag} {mg : Str → Option Value} {base : Heap}
theorem _root_.L2.Room.units65 {k : Nat} {A : Around} (r : Room k A) : A.units + 65 < cLine := by have := r.un; omega
instance (m : Str) : Decidable (NoK m) := by unfold NoK; infer_instance
/-- all that stood in B stands in H, but for the town t -/
structure Fr (K : PySem.W.Frag) (B H : Hp) (a t : Addr) (ns : List Int) (c0 c : Nat) : Prop where
  tb : Tn K B a t ns c0
  bt : But t B H
  tn : Tn K H a t ns c
variable {B H H' : Hp} {a t : Addr} {ns : List Int} {c0 c c' : Nat} {S S' T : List Addr}
theorem Fr.new (h : Tn K B a t ns c) : Fr K B B a t ns c c := ⟨h, .refl, h⟩
theorem Fr.same (h : Fr K B H a t ns c0 c) (s : Same H H') : Fr K B H' a t ns c0 c := ⟨h.tb, h.bt.thenS s, h.tn.same s⟩
theorem Fr.town (h : Fr K B H a t ns c0 c) (b : But t H H') (T : Tn K H' a t ns c') : Fr K B H' a t ns c0 c' := ⟨h.tb, h.bt.trans b, T⟩
theorem Fr.step (h : Fr K B H a t ns c0 c) (st : Step S H H') (f : ∀ b ∈ S, B b = none) (n : t ∉ S) : Fr K B H' a t ns c0 c := by
  have bt' : But t B H' := fun b o hb hn => st.keep b o (h.bt b o hb hn) fun hm => by rw [f b hm] at hb; cases hb
  obtain ⟨ls, h1, h2⟩ := h.tn.town
  exact ⟨h.tb, bt', h.tb.scr.but bt', h.tn.len, ls, h1, st.keep _ _ h2 n⟩
theorem Fr.tup {p : Addr} {xs : List V} (h : Fr K B H a t ns c0 c) (hp : B p = some (.tup xs)) : H p = some (.tup xs) := h.tb.tup h.bt hp
theorem Fr.at_ {p : Addr} {o : HO} (h : Fr K B H a t ns c0 c) (hp : B p = some o) (n : p ≠ t) : H p = some o := h.bt _ _ hp n
theorem Fr.rv {xs : List V} {rus : List (List Int × Int)} (h : Fr K B H a t ns c0 c) (hv : RuleVs B xs rus) : RuleVs H xs rus := by
  obtain ⟨l, hl⟩ := h.tb.lst
  exact hv.but h.bt hl
theorem Fr.free {p : Addr} (h : Fr K B H a t ns c0 c) (hp : H p = none) : B p = none := by
  obtain ⟨l, hl⟩ := h.tn.lst
  cases e : B p with
  | none => rfl
  | some o =>
    by_cases ht : p = t
    · rw [ht, hl] at hp; cases hp
    · rw [h.bt _ _ e ht] at hp; cases hp
theorem Fr.fresh (h : Fr K B H a t ns c0 c) (w : Own H S S') (f : ∀ b ∈ S, B b = none) : ∀ b ∈ S', B b = none := fun b hb => (w b hb).elim (f b) h.free
theorem Fr.off (h : Fr K B H a t ns c0 c) (w : Own H S S') (n : t ∉ S) : t ∉ S' := fun hb => (w t hb).elim n fun e => by
  obtain ⟨l, hl⟩ := h.tn.lst
  rw [hl] at e; cases e
theorem Fr.bstep (h : Fr K B H a t ns c0 c) (b : But t H H') : Step [t] H H' := by
  obtain ⟨l, hl⟩ := h.tn.lst
  exact b.step hl
theorem Own.off {p : Addr} {o : HO} (w : Own H S S') (hp : H p = some o) (n : p ∉ S) : p ∉ S' := fun hb => (w p hb).elim n fun e => by rw [hp] at e; cases e
/-- two that may change, apart -/
def Apart (S T : List Addr) : Prop := ∀ b ∈ S, b ∉ T
theorem Apart.symm (h : Apart S T) : Apart T S := fun b hb hs => h b hs hb
theorem Apart.one {p : Addr} (h : p ∉ S) : Apart S [p] := fun b hb e => h (by rw [← List.mem_singleton.mp e]; exact hb)
theorem KeepAt.apart {c : Str} {ex : List (Str × V)} {k : Addr} {v : KV} (h : KeepAt K mg c ex H k T v) (d : Apart S T) (w : Own H S S') : Apart S' T := fun b hb ht => (w b hb).elim (fun hs => d b hs ht) fun e => h.out e ht
theorem keep_take {k : Addr} {v : KV} {m : Int} {Q : VK} {E : XK} (hK : KeepAt K mg "Keep" [] H k S v) (m0 : 0 ≤ m) (m1 : m ≤ 1000000000) (hl : ∀ l, v.last = some l → l < m) (hn : v.ns.length < 100)
    (q : ∀ H', Step S H H' → KeepAt K mg "Keep" [] H' k S { v with ns := v.ns ++ [m], last := some m } → Q .non H') : sp_Keep__take K mg [.ref k, .int m] H Q E := by
  refine ⟨k, S, v, .int m, _, rfl, hK, .int m, fun e => ?_, fun m' l e _ _ h1 h2 => ?_, fun m' e _ _ _ h1 => ?_, fun m' e _ _ _ _ H' st h => ?_⟩
  · simp [isNumV] at e; omega
  · cases e
    have := hl l h1
    omega
  · omega
  · cases e
    exact q H' st h
theorem keep_pin {k : Addr} {v : KV} {m : Int} {Q : VK} {E : XK} (hK : KeepAt K mg "Keep" [] H k S v) (hm : m ∈ v.ns) (hp : m ∉ v.ps)
    (q : ∀ H' S' ps', ps'.Pairwise (· < ·) → (∀ z, z ∈ ps' ↔ z ∈ v.ps ∨ z = m) → Step S H H' → Own H S S' → KeepAt K mg "Keep" [] H' k S' { v with ps := ps' } → Q .non H') : sp_Keep__pin K mg [.ref k, .int m] H Q E := by
  refine ⟨k, S, v, .int m, _, rfl, hK, .int m, fun e => absurd hm (e m rfl), fun m' e _ h => ?_, fun m' e _ _ => ?_⟩
  · cases e; exact absurd h hp
  · cases e; exact q
theorem keep_unpin {k : Addr} {v : KV} {m : Int} {Q : VK} {E : XK} (hK : KeepAt K mg "Keep" [] H k S v) (hm : m ∈ v.ps)
    (q : ∀ H' S', Step S H H' → Own H S S' → KeepAt K mg "Keep" [] H' k S' { v with ps := v.ps.filter fun z => decide (z ≠ m) } → Q .non H') : sp_Keep__unpin K mg [.ref k, .int m] H Q E := by
  refine ⟨k, S, v, .int m, _, rfl, hK, .int m, fun e => absurd hm (e m rfl), fun m' e _ => ?_⟩
  cases e; exact q
theorem keep_at {k : Addr} {v : KV} (h : KeepAt K mg "Keep" [] H k S v) : ∃ dx fs, H k = some (.ins (cls mg "Keep") dx fs) ∧ ∀ m : Str, NoK m → fs.lookup m = none := by
  obtain ⟨dx, r, N, Pn, rfl, hNP, hk, hR, hN, hP⟩ := h.at_
  exact ⟨dx, _, hk, fun m hm => kfs_no hm⟩
end
end Nk
namespace Nk
open PySem L2
section
variable {P : Program} {w : World} {K : PySem.W.Frag} {mg : Str → Option Value} {base : Heap}
abbrev nm__law_one : List Str := ["kind", "some", "keep", "thing"]
abbrev pm__law_one : List Str := ["kind", "some"]
abbrev lv__law_one : Nat := 4
theorem sc__law_one : FnScope nm__law_one pm__law_one (defScope s__law_one) := ⟨rfl, rfl, rfl, by decide +kernel, rfl, by decide +kernel, by decide +kernel⟩
def sp__law_one (K : PySem.W.Frag) (mg : Str → Option Value) : Sp := fun vs H Q E => ∃ (kind : Int) (u k : Addr) (x : V), vs = [.int kind, .ref u] ∧ H u = some (.tup [.ref k, x]) ∧ sp_Keep__stays K mg [.ref k, x] H Q E
theorem one_mono {vs : List V} {H : Hp} {Q Q' : VK} {E E' : XK} (h : sp__law_one K mg vs H Q E) (hq : ∀ v H1, Q v H1 → Q' v H1) (he : ∀ c d H1, E c d H1 → E' c d H1) : sp__law_one K mg vs H Q' E' := by
  obtain ⟨kind, u, k, x, h1, h2, k', S, v, x', n, h3, h4, h5, h6, h7, h8⟩ := h
  exact ⟨kind, u, k, x, h1, h2, k', S, v, x', n, h3, h4, h5, fun a H' s => he _ _ _ (h6 a H' s), fun m a b c H' s => hq _ _ (h7 m a b c H' s), fun m l s a b c d e H' ss => hq _ _ (h8 m l s a b c d e H' ss)⟩
theorem f__law_one (T : Txt K mg) : Fk P w K mg base (L2.CX P w) lv__law_one "_law_one" pm__law_one (sp__law_one K mg) := by
  obtain ⟨f, fd, F, g, b⟩ := T.d__law_one.ex
  refine ⟨f, fd, g, F.kp, b, F.okX sc__law_one (fun vs H Q E h => ?_) (fun cdv A outer s H vs Q E hr h => ?_)⟩
  · obtain ⟨kind, u, k, x, rfl, _⟩ := h; rfl
  · obtain ⟨kind, u, k, x, rfl, hu, h⟩ := h
    refine ⟨_, (pss_cons (ps_asg (pv 1) (pg_tup rfl (pgs_cons (pg_name (i := 2) sc__law_one.nd rfl (Or.inl rfl)) (pgs_cons (pg_name (i := 3) sc__law_one.nd rfl (Or.inl rfl)) pgs_nil))))
      (pss_one (ps_ret (pe_me (pv 2) T.o_Keep (f_Keep__stays T) (hr.mono (by decide)) (passX (takes_of rfl rfl rfl rfl)) (pa_cons (pv 3) pa_nil))))), ?_⟩
    with_reducible refine seq_k fun K_ hK_ => ?_
    walk_at "rt"
    refine ⟨u, _, rfl, sqT hu, rfl, ?_⟩
    walk_at "rt"
    subst hK_
    first | with_reducible refine seq_k fun K_ hK_ => ?_ | skip
    walk_at "rt"
    obtain ⟨k', S, v, x', n, e, hK, h⟩ := h
    cases e
    obtain ⟨dx, fs, hk, hno⟩ := keep_at hK
    exact ⟨dx, _, hk, hno _ (by decide), k, S, v, x, n, rfl, hK, h⟩
abbrev nm__law_lasts : List Str := ["rules", "model", "found", "held", "left", "count", "stay", "night"]
abbrev pm__law_lasts : List Str := ["rules", "model"]
abbrev lv__law_lasts : Nat := 4
theorem sc__law_lasts : FnScope nm__law_lasts pm__law_lasts (defScope s__law_lasts) := ⟨rfl, rfl, rfl, by decide +kernel, rfl, by decide +kernel, by decide +kernel⟩
def sp__law_lasts (K : PySem.W.Frag) : Sp := fun vs H Q _ => ∃ (a M : Addr) (S : List Addr) (v : KV) (xs : List V) (l : Int), vs = [.ref a, .ref M] ∧ H a = some (.tup xs) ∧ RuleVs H xs v.rus ∧ v.rus.length ≤ 5 ∧ v.rus ≠ [] ∧ (∀ ru ∈ v.rus, Rnds ru.1 ∧ 1 ≤ ru.2 ∧ ru.2 ≤ 20) ∧ MdAt H M S v ∧ v.ns.length ≤ 100 ∧ v.ns.Pairwise (· < ·) ∧ (∀ z ∈ v.ns, z ≤ l) ∧ (v.ns ≠ [] → v.last = some l) ∧
  ∀ d H' kvs, Same H H' → H d = none → H' d = some (.dK kvs) → (∀ n ∈ v.ns, ∀ s, Lasts v.rus v.ns l n s → valV kvs (.inl n) = some (.int s)) → Q (.ref d) H'
/-- the state behind c turns: s tells how long each stays -/
structure IvL (H H' : Hp) (rus : List (List Int × Int)) (ns : List Int) (l : Int) (s : Int → Int) (c : Nat) (d hd lf : Addr) (held : List Int) (kvs : List (Key × V)) : Prop where
  same : Same H H'
  dn : H d = none
  hdn : H hd = none
  lfn : H lf = none
  ne1 : d ≠ hd
  dk : H' d = some (.dK kvs)
  hk : H' hd = some (.lst (held.map V.int))
  lk : H' lf = some (.lst ((ns.filter fun n => decide ((c : Int) ≤ s n)).map V.int))
  way : Way rus (ns ++ run (l + 1) c) held
  ne2 : lf ≠ hd
  hl : held.length ≤ 200
  ik : ∃ ks, IK kvs ks ∧ ∀ k ∈ ks, k ∈ ns
  keys : ∀ n ∈ ns, s n < c → valV kvs (.inl n) = some (.int (s n))
theorem sum_le20 : ∀ {rus : List (List Int × Int)}, (∀ ru ∈ rus, ru.2 ≤ 20) → (rus.map (·.2)).sum ≤ 20 * (rus.length : Int)
  | [], _ => by simp
  | ru :: rus, h => by
    have h1 := h ru List.mem_cons_self
    have h2 := sum_le20 fun r hr => h r (List.mem_cons_of_mem _ hr)
    simp only [List.map_cons, List.sum_cons, List.length_cons]
    omega
def iv_lastsF (H5 : Hp) (a M d hd lf p : Addr) (ns : List Int) (s : Int → Int) (c : Nat) (left stay : List Int) (H : Hp) (j : Nat) (σ : L2.St) (H' : Hp) : Prop :=
  ∃ (kvs : List (Key × V)) (y7 : Option V), σ = [some (.ref a), some (.ref M), some (.ref d), some (.ref hd), some (.ref lf), some (.int c), some (.ref p), y7] ∧ But d H5 H' ∧ Same H H' ∧ H' d = some (.dK kvs) ∧ (∃ ks, IK kvs ks ∧ ∀ k ∈ ks, k ∈ ns) ∧ (∀ n ∈ ns, s n < c → valV kvs (.inl n) = some (.int (s n))) ∧ ∀ n ∈ left.take j, n ∉ stay → valV kvs (.inl n) = some (.int (s n))
def iv_lasts (a M : Addr) (rus : List (List Int × Int)) (ns : List Int) (l : Int) (s : Int → Int) (b : Nat) (H : Hp) (m : Nat) (σ : L2.St) (H' : Hp) : Prop :=
  ∃ (c : Nat) (d hd lf : Addr) (held : List Int) (kvs : List (Key × V)) (y6 y7 : Option V), σ = [some (.ref a), some (.ref M), some (.ref d), some (.ref hd), some (.ref lf), some (.int c), y6, y7] ∧ IvL H H' rus ns l s c d hd lf held kvs ∧ m = b + 1 - c
theorem f__law_lasts (T : Txt K mg) : Fk P w K mg base CX0 lv__law_lasts "_law_lasts" pm__law_lasts (sp__law_lasts K) := by
  obtain ⟨f, fd, F, g, b⟩ := T.d__law_lasts.ex
  refine ⟨f, fd, g, F.kp, b, F.ok sc__law_lasts (fun vs H Q E h => ?_) (fun cdv A outer s H vs Q E hr h => ?_)⟩
  · obtain ⟨a, M, S, v, xs, l, rfl, _⟩ := h; rfl
  · obtain ⟨a, M, S, v, xs, l, rfl, ha, hR, hrl, hrne, hrn, hMd, hn, hrise, hle, hlast, q⟩ := h
    have hu := hu_of hr
    obtain ⟨A1, B1, rfl, hAB, hM, hA, hB⟩ := hMd.at_
    obtain ⟨st, bd, hst⟩ := lasts_fn (fun ru h => (hrn ru h).1) hrne hrise hle
    refine ⟨_, (pss_cons (ps_set (i := 2) sc__law_lasts.nd rfl (.inl rfl) pe_dnewK)
      (pss_cons (ps_set (i := 3) sc__law_lasts.nd rfl (.inl rfl) (pe_callTy call_list_of (by rfl) T.b_list (by decide +kernel) (pa_cons (pe_ix ix_list (pv 1) pe_int (fun _ _ => rfl)) pa_nil)))
      (pss_cons (ps_set (i := 4) sc__law_lasts.nd rfl (.inl rfl) (pe_callTy call_list_of (by rfl) T.b_list (by decide +kernel) (pa_cons (pe_ix ix_list (pv 1) pe_int (fun _ _ => rfl)) pa_nil)))
      (pss_cons (ps_set (i := 5) sc__law_lasts.nd rfl (.inl rfl) pe_int)
      (pss_cons (ps_while PassesOwn.never (pt_cmpR (op_neD hr.units) (pv 4) (pe_lst pa_nil) (nomark _)) (pss_cons (ps_expr (pe_bm PySem.F.plainAttrs_list PySem.F.slot_list_append PySem.F.type_list_append mt_append (pv 3) (pa_cons (pe_op op_add (pe_op op_add (pe_ix ix_list (pv 1) pe_int (fun _ _ => rfl)) pe_int) (pv 5)) pa_nil)))
      (pss_cons (ps_set (i := 6) sc__law_lasts.nd rfl (.inr rfl) (pe_fn (f__law_kept T) (hr.mono (by decide)) (by rfl) pass0 (pa_cons (pv 0) (pa_cons (pv 3) pa_nil))))
      (pss_cons (ps_for PassesOwn.never rfl (pi_list (pv 4)) (pg_name (i := 7) sc__law_lasts.nd rfl (Or.inl rfl)) (pss_one (ps_if (pt_cmpR op_notIn_seq (pv 7) (pv 6) (by rfl)) (pss_one (ps_dput hu (pv 2) (pv 7) (pv 5) rfl)) pss_nil)))
      (pss_cons (ps_set (i := 3) sc__law_lasts.nd rfl (.inl rfl) (pv 6))
      (pss_cons (ps_setLc (own := [("night", 7)]) (g := gName 7) (i := 4) (by rfl) sc__law_lasts.nd rfl rfl (sw_true rfl rfl rfl (by decide +kernel)) (pi_list (pv 4)) (blkOk_by (own := [("night", 7)]) (N := nm__law_lasts) (sc := defScope s__law_lasts) (by decide +kernel)) (fun _ _ _ _ _ => (pg_name (i := 7) sc__law_lasts.nd rfl (Or.inl rfl))) (fun _ _ _ _ _ => (pts_one (pt_cmpR (op_inK K rfl) (pv 7) (pv 6) (by rfl)))) (fun _ _ _ _ _ => (pv 7)))
      (pss_one (ps_set (i := 5) sc__law_lasts.nd rfl (.inl rfl) (pe_op op_add (pv 5) pe_int)))))))))
      (pss_one (ps_ret (pv 2)))))))), ?_⟩
    with_reducible refine seq_k fun K_ hK_ => ?_
    walk_at "rt"
    intro d hd
    generalize hG_ : upd H d _ = H1
    obtain ⟨s1, hd1⟩ := newF hd hG_
    clear hG_
    walk_at "rt"
    subst hK_
    first | with_reducible refine seq_k fun K_ hK_ => ?_ | skip
    walk_at "rt"
    refine ixL (j := 0) (sqL (s1 _ _ hM)) rfl rfl ?_
    refine ⟨A1, rfl, _, .inl (sqL (s1 _ _ hA)), ?_⟩
    intro hp n_hp
    generalize hG_ : upd _ hp _ = H2
    obtain ⟨s2, hhp⟩ := newF n_hp hG_
    clear hG_
    walk_at "rt"
    subst hK_
    first | with_reducible refine seq_k fun K_ hK_ => ?_ | skip
    walk_at "rt"
    have s12 := s1.trans s2
    refine ixL (j := 0) (sqL (s12 _ _ hM)) rfl rfl ?_
    refine ⟨A1, rfl, _, .inl (sqL (s12 _ _ hA)), ?_⟩
    intro lp n_lp
    generalize hG_ : upd _ lp _ = H3
    obtain ⟨s3, hlp⟩ := newF n_lp hG_
    clear hG_
    have s13 := s12.trans s3
    walk_at "rt"
    subst hK_
    first | with_reducible refine seq_k fun K_ hK_ => ?_ | skip
    walk_at "rt"
    walk_at "rt"
    subst hK_
    first | with_reducible refine seq_k fun K_ hK_ => ?_ | skip
    walk_at "rt"
    refine ⟨iv_lasts a M v.rus v.ns l st bd H, ⟨bd + 1, 0, d, hp, lp, v.ns, [], none, none, rfl, ?_, by omega⟩, ?_⟩
    · refine ⟨s13, hd, s1.free n_hp, s12.free n_lp, ne_of_none hd1 n_hp, s3 _ _ (s2 _ _ hd1), s3 _ _ hhp, ?_, ?_, (ne_of_none hhp n_lp).symm, by omega, ⟨[], ⟨rfl, List.nodup_nil⟩, fun _ h => nomatch h⟩, fun n hn h => ?_⟩
      · rw [hlp, List.filter_eq_self.mpr]
        intro z hz
        have := (hst z hz).1.nn
        simpa using this
      · have e : run (l + 1) 0 = [] := rfl
        rw [e, List.append_nil]
        exact ⟨List.Sublist.refl _, fun _ _ => rfl⟩
      · have := (hst n hn).1.nn
        omega
    rintro m σ H' ⟨c, d, hd, lf, held, kvs, y6, y7, rfl, I, rfl⟩
    walk_at "rt"
    intro e1 n_e1
    generalize hG_ : upd _ e1 _ = H4
    obtain ⟨s4, he1⟩ := newF n_e1 hG_
    clear hG_
    have hsz : ∀ {kvs : List (Key × V)}, (∃ ks, IK kvs ks ∧ ∀ k ∈ ks, k ∈ v.ns) → kvs.length ≤ 100 := fun ⟨ks, h1, h2⟩ => by
      rw [h1.len]
      exact Nat.le_trans (nodup_len _ _ h1.nd h2) hn
    refine neD (d := dLI (v.ns.filter fun n => decide ((c : Int) ≤ st n))) (e := dLI []) (dp_LI (sqL (s4 _ _ I.lk))) (dp_LI (sqL he1)) (gd_dLI (k := 0) _) (gd_dLI (k := 0) _) (fun e => ⟨_, rfl, ?_⟩) (fun e => ⟨_, rfl, ?_⟩)
    · rw [if_neg Bool.false_ne_true]
      have e := dLI_inj.mp e
      walk_at "rt"
      subst hK_
      first | with_reducible refine seq_k fun K_ hK_ => ?_ | skip
      walk_at "rt"
      refine q d H4 kvs (I.same.trans s4) I.dn (s4 _ _ I.dk) fun n hn s hs => ?_
      have h1 := hst n hn
      rw [← h1.1.uniq hs]
      refine I.keys n hn ?_
      have h2 : n ∉ v.ns.filter fun n => decide ((c : Int) ≤ st n) := by rw [e]; simp
      rw [List.mem_filter, not_and, decide_eq_true_eq] at h2
      have := h2 hn
      omega
    · rw [if_pos rfl]
      have hne : (v.ns.filter fun n => decide ((c : Int) ≤ st n)) ≠ [] := fun h => e (by rw [h])
      obtain ⟨n0, hn0⟩ := List.exists_mem_of_ne_nil _ hne
      obtain ⟨hn1, hn2⟩ := List.mem_filter.mp hn0
      have hn2 : (c : Int) ≤ st n0 := by simpa using hn2
      have hcb : c ≤ bd := by have := (hst n0 hn1).2; omega
      have hla := hlast (List.ne_nil_of_mem hn1)
      have hRR : ∀ ru ∈ v.rus, 1 ≤ ru.2 := fun ru h => (hrn ru h).2.1
      have hallr : (v.ns ++ run (l + 1) (c + 1)).Pairwise (· < ·) := by
        rw [List.pairwise_append]
        refine ⟨hrise, run_rise _ _, fun a ha b hb => ?_⟩
        have := hle a ha
        have := (mem_run.mp hb).1
        omega
      have hway := I.way.snoc hRR (l + 1 + c)
      rw [List.append_assoc, ← run_succ] at hway
      have hkept := hway.same hallr
      have hheld : held.length ≤ 200 := I.hl
      have hrise' : (held ++ [l + 1 + (c : Int)]).Pairwise (· < ·) := hallr.sublist hway.sub
      have hk100 : (keptF v.rus (held ++ [l + 1 + (c : Int)])).length ≤ 100 := by
        have h1 := keptF_count hRR hrise' (by simp)
        have h2 := sum_le20 fun ru h => (hrn ru h).2.2
        have h3 := List.length_pos_iff.mpr hrne
        omega
      refine ⟨_, fun σ' H'' h => h, ?_⟩
      have hM4 := (I.same.trans s4) _ _ hM
      with_reducible refine seq_k fun K_ hK_ => ?_
      walk_at "rt"
      refine ⟨tyL (s4 _ _ I.hk), ixL (j := 2) (sqL hM4) rfl rfl ?_⟩
      rw [hla]
      refine ⟨l, rfl, appR (s4 _ _ I.hk) (by rw [List.length_map]; omega) ?_⟩
      have e5 : (held.map V.int) ++ [V.int (l + 1 + (c : Int))] = (held ++ [l + 1 + (c : Int)]).map V.int := by rw [List.map_append]; rfl
      rw [e5]
      have s5 : Same H (upd H4 hd (.lst ((held ++ [l + 1 + (c : Int)]).map V.int))) := Same.app (I.same.trans s4) I.hdn
      have hd5 : (upd H4 hd (.lst ((held ++ [l + 1 + (c : Int)]).map V.int))) d = some (.dK kvs) := by rw [upd_ne I.ne1]; exact s4 _ _ I.dk
      have hl5 : (upd H4 hd (.lst ((held ++ [l + 1 + (c : Int)]).map V.int))) lf = some (.lst ((v.ns.filter fun n => decide ((c : Int) ≤ st n)).map V.int)) := by rw [upd_ne I.ne2]; exact s4 _ _ I.lk
      have hh5 : (upd H4 hd (.lst ((held ++ [l + 1 + (c : Int)]).map V.int))) hd = some (.lst ((held ++ [l + 1 + (c : Int)]).map V.int)) := upd_same
      generalize upd H4 hd (.lst ((held ++ [l + 1 + (c : Int)]).map V.int)) = H5 at s5 hd5 hl5 hh5 ⊢
      walk_at "rt"
      subst hK_
      first | with_reducible refine seq_k fun K_ hK_ => ?_ | skip
      walk_at "rt"
      refine ⟨a, hd, v.rus, xs, _, rfl, s5 _ _ ha, hR.same s5, by omega, sqL hh5, by rw [List.length_append]; simp; omega, fun p H6 s6 hp5 hp6 => ?_⟩
      have hd6 := s6 _ _ hd5
      have hl6 := s6 _ _ hl5
      have s06 := s5.trans s6
      have hpd : p ≠ d := (ne_of_none hd5 hp5).symm
      have hpl : p ≠ lf := (ne_of_none hl5 hp5).symm
      have hld : lf ≠ d := ne_of hl5 hd5 (by intro z; cases z)
      have hkm : ∀ n ∈ v.ns, n ∈ keptF v.rus (held ++ [l + 1 + (c : Int)]) ↔ (c : Int) < st n := fun n hn => by rw [hkept]; exact (hst n hn).1.iff c
      generalize hleft : (v.ns.filter fun n => decide ((c : Int) ≤ st n)) = left at hl6 hne
      generalize hstay : keptF v.rus (held ++ [l + 1 + (c : Int)]) = stay at hp6 hkm hk100
      have hml : ∀ n ∈ left, n ∈ v.ns ∧ (c : Int) ≤ st n := fun n hn => by rw [← hleft] at hn; obtain ⟨h1, h2⟩ := List.mem_filter.mp hn; exact ⟨h1, by simpa using h2⟩
      have hll : left.length ≤ 100 := by rw [← hleft]; exact Nat.le_trans (List.length_filter_le _ _) hn
      walk_at "rt"
      subst hK_
      first | with_reducible refine seq_k fun K_ hK_ => ?_ | skip
      walk_at "rt"
      refine ⟨⟨_, sqL hl6⟩, for_list (K := K) (a := lf) (xs := left.map V.int) (iv_lastsF H6 a M d hd lf p v.ns st c left stay H) ⟨kvs, _, rfl, .refl, s06, hd6, I.ik, I.keys, fun n h => nomatch h⟩ (fun j σ H8 _ pp => ?_) ?_ ?_⟩
      · obtain ⟨_, _, _, b8, _⟩ := pp
        exact sqL (b8 _ _ hl6 hld)
      · rintro j x σ H7 hx ⟨kvs7, y7, rfl, b7, s7, hd7, hik7, hk7, hj7⟩
        rw [List.getElem?_map] at hx
        cases e : left[j]? with
        | none => rw [e] at hx; cases hx
        | some z =>
        rw [e] at hx
        cases hx
        obtain ⟨hz1, hz2⟩ := hml z (mem_of_get e)
        have hp7 := b7 _ _ hp6 hpd
        walk_at "rt"
        refine ⟨p, _, rfl, .inl (sqL hp7), rfl, flat_ints _, _, rfl, ?_⟩
        rw [if_pos rfl, inV_ints]
        refine ite2 (fun c1 => ?_) (fun c1 => ?_)
        · have hzs : z ∉ stay := by simpa using c1
          have hsz' : st z = c := by
            have : ¬ (c : Int) < st z := fun h => hzs ((hkm z hz1).mpr h)
            omega
          refine ⟨_, DPut.k (k := Sum.inl z) hd7 (szl (by have := hsz hik7; omega)), ?_⟩
          obtain ⟨ks, hik, hks⟩ := hik7
          obtain ⟨ks', g1, g2, g3⟩ := ik_put hik z (.int c)
          refine ⟨_, _, rfl, b7.trans But.upd, Same.app s7 I.dn, upd_same, ⟨ks', g1, fun k hk => ((g2 k).mp hk).elim (hks k) (fun h => h ▸ hz1)⟩, fun n hn h => ?_, fun n hn h => ?_⟩
          · rw [valV_put]
            by_cases en : n = z
            · rw [en] at h; omega
            · rw [if_neg (fun h => en (Sum.inl.inj h))]
              exact hk7 n hn h
          · rw [valV_put]
            by_cases en : n = z
            · rw [if_pos (by rw [en]), en, hsz']
            · rw [if_neg (fun h => en (Sum.inl.inj h))]
              rw [take_next e] at hn
              rcases List.mem_append.mp hn with hn | hn
              · exact hj7 n hn h
              · exact absurd (List.mem_singleton.mp hn) en
        · refine ⟨_, _, rfl, b7, s7, hd7, hik7, hk7, fun n hn h => ?_⟩
          rw [take_next e] at hn
          rcases List.mem_append.mp hn with hn | hn
          · exact hj7 n hn h
          · rw [List.mem_singleton.mp hn] at h
            exact absurd (by simpa using c1) h
      · rintro σ H7 ⟨kvs7, y7, rfl, b7, s7, hd7, hik7, hk7, hj7⟩
        rw [List.length_map, List.take_length] at hj7
        have hp7 := b7 _ _ hp6 hpd
        have hl7 := b7 _ _ hl6 hld
        walk_at "rt"
        subst hK_
        first | with_reducible refine seq_k fun K_ hK_ => ?_ | skip
        walk_at "rt"
        walk_at "rt"
        subst hK_
        first | with_reducible refine seq_k fun K_ hK_ => ?_ | skip
        walk_at "rt"
        refine ⟨⟨_, sqL hl7⟩, fun D hD => ?_⟩
        refine lcF (fun z => decide (z ∈ stay)) hD (sqL hl7) (by omega) (fun _ => rfl) (fun _ => rfl) (fun y H8 _ s8 Q hQ => ?_) (fun H8 s8 hD8 => ?_)
        · walk_at "rt"
          refine ⟨p, _, rfl, .inl (sqL (s8 _ _ hp7)), rfl, flat_ints _, _, rfl, ?_⟩
          rw [if_neg Bool.false_ne_true, inV_ints]
          exact hQ H8 (Same.refl _)
        · walk_at "rt"
          subst hK_
          first | with_reducible refine seq_k fun K_ hK_ => ?_ | skip
          walk_at "rt"
          refine ⟨bd + 1 - (c + 1), by omega, c + 1, d, p, D, stay, kvs7, _, _, rfl, ⟨s7.trans s8, I.dn, s5.free hp5, s7.free hD, hpd.symm, s8 _ _ hd7, s8 _ _ hp7, ?_, ?_, (ne_of_none hp7 hD).symm, by omega, hik7, fun n hn h => ?_⟩, rfl⟩
          · rw [hD8, ← hleft, List.filter_filter]
            congr 3
            apply List.filter_congr
            intro n hn
            have := hkm n hn
            by_cases c1 : (c : Int) < st n
            · have h1 : n ∈ stay := this.mpr c1
              have h2 : ((c + 1 : Nat) : Int) ≤ st n := by omega
              have h3 : (c : Int) ≤ st n := by omega
              simp only [h1, h2, h3, decide_true, Bool.and_self]
            · have h1 : n ∉ stay := fun h => c1 (this.mp h)
              have h2 : ¬ ((c + 1 : Nat) : Int) ≤ st n := by omega
              simp only [h1, h2, decide_false, Bool.false_and]
          · rw [← hstay]
            exact hway.cut (p := fun n => v.rus.any fun ru => decide (n ∈ keptBy ru (held ++ [l + 1 + (c : Int)]))) fun x hx => (List.mem_filter.mp hx).2
          · by_cases c1 : st n < c
            · exact hk7 n hn c1
            · refine hj7 n ?_ ?_
              · rw [← hleft]
                exact List.mem_filter.mpr ⟨hn, by simp; omega⟩
              · intro h
                have := (hkm n hn).mp h
                omega
end
end Nk
namespace Nk
open PySem L2
section
variable {P : Program} {w : World} {K : PySem.W.Frag} {mg : Str → Option Value} {base : Heap}
abbrev nm__law_told : List Str := ["kind", "some", "caught", "found", "e"]
abbrev pm__law_told : List Str := ["kind", "some"]
abbrev lv__law_told : Nat := 5
theorem sc__law_told : FnScope nm__law_told pm__law_told (defScope s__law_told) := ⟨rfl, rfl, rfl, by decide +kernel, rfl, by decide +kernel, by decide +kernel⟩
/-- whatever _law_one promises, told in a pair -/
def sp__law_told (K : PySem.W.Frag) (mg : Str → Option Value) : Sp := fun vs H Q _ => ∃ x y, vs = [x, y] ∧ sp__law_one K mg [x, y] H (fun v H1 => ∀ p H2, Same H1 H2 → H1 p = none → H2 p = some (.tup [.str "found", v]) → Q (.ref p) H2)
  (fun c d H1 => ∃ (n : Str) (j : Nat), c = .ref (cls mg n) ∧ exNames[j]? = some n ∧ (∀ dd, d = some dd → ∃ fs, H1 dd = some (.xd fs)) ∧ ∀ p H2, Same H1 H2 → H1 p = none → H2 p = some (.tup [.str "refused", .int j]) → Q (.ref p) H2)
theorem f__law_told (T : Txt K mg) : Fk P w K mg base CX0 lv__law_told "_law_told" pm__law_told (sp__law_told K mg) := by
  obtain ⟨f, fd, F, g, b⟩ := T.d__law_told.ex
  refine ⟨f, fd, g, F.kp, b, F.ok sc__law_told (fun vs H Q E h => ?_) (fun cdv A outer s H vs Q E hr h => ?_)⟩
  · obtain ⟨x, y, rfl, _⟩ := h; rfl
  · obtain ⟨x, y, rfl, h⟩ := h
    refine ⟨_, (pss_cons (ps_set (i := 2) sc__law_told.nd rfl (.inl rfl) pe_non)
      (pss_cons (ps_set (i := 3) sc__law_told.nd rfl (.inl rfl) pe_non)
      (pss_cons (ps_try_kept (i := 4) (j := 2) (tb := fun W => tAsg (tCallS (sp__law_one K mg) (WE W) (tCons (tVar 0) (tCons (tVar 1) tNil))) (gName 3)) (Wout := fun _ _ _ _ => False) rfl rfl rfl sc__law_told.nd rfl rfl ⟨rfl, by decide, Or.inl T.k_err.gP⟩ tk0
        (fun W pn xe tk _ => pss_one (ps_set (i := 3) sc__law_told.nd rfl (.inl rfl) (by exact (pe_fnS (f__law_one T) (hr.mono (by decide)) rfl (fun σ => passAt tk σ) (by exact (pa_cons (pv 0) (pa_cons (pv 1) pa_nil)))))))
        (fun a oe pn => pss_one (ps_set (i := 2) sc__law_told.nd rfl (.inl rfl) (pv 4))) (by show 4 < 5; decide))
      (pss_cons (ps_if (pt_cmpR op_isN (pv 2) pe_non (nomark _)) (pss_one (ps_ret (pe_tup (pa_cons pe_str (pa_cons (pv 3) pa_nil))))) pss_nil)
      (pss_one (ps_ret (pe_tup (pa_cons pe_str (pa_cons (pe_fn (f__law_word T) (hr.mono (by decide)) (by rfl) pass0 (pa_cons (pv 2) pa_nil)) pa_nil))))))))), ?_⟩
    with_reducible refine seq_k fun K_ hK_ => ?_
    walk_at "rt"
    walk_at "rt"
    subst hK_
    first | with_reducible refine seq_k fun K_ hK_ => ?_ | skip
    walk_at "rt"
    walk_at "rt"
    subst hK_
    first | with_reducible refine seq_k fun K_ hK_ => ?_ | skip
    walk_at "rt"
    refine one_mono h (fun v H1 q => ?_) (fun c d H1 q => ?_)
    · walk_at "rt"
      subst hK_
      first | with_reducible refine seq_k fun K_ hK_ => ?_ | skip
      walk_at "rt"
      walk_at "rt"
      subst hK_
      first | with_reducible refine seq_k fun K_ hK_ => ?_ | skip
      walk_at "rt"
      intro p hp
      exact q p _ (same_upd hp) hp upd_same
    · obtain ⟨n, j, rfl, hj, hd, q⟩ := q
      have hn : n ∈ exNames := List.mem_of_getElem? hj
      refine ⟨true, (ec_all T n hn).exm T.k_err, fun _ a ha => ?_, fun e => nomatch e⟩
      have s1 := same_upd (o := ExV (.ref (cls mg n)) d a) ha
      walk_at "rt"
      subst hK_
      first | with_reducible refine seq_k fun K_ hK_ => ?_ | skip
      walk_at "rt"
      walk_at "rt"
      subst hK_
      first | with_reducible refine seq_k fun K_ hK_ => ?_ | skip
      walk_at "rt"
      refine ⟨a, j, rfl, ⟨n, d, hj, upd_same, fun dd e => ?_⟩, fun H2 s2 => ?_⟩
      · obtain ⟨fs, h⟩ := hd dd e
        exact ⟨fs, s1 _ _ h⟩
      · intro p hp
        have s3 := s1.trans s2
        exact q p _ (s3.trans (same_upd hp)) (s3.free hp) upd_same
end
end Nk
namespace Nk
open PySem L2
section
variable {P : Program} {w : World} {K : PySem.W.Frag} {mg : Str → Option Value} {base : Heap}
structure S22 (K : PySem.W.Frag) (mg : Str → Option Value) (B H : Hp) (a t : Addr) (ns : List Int) (c0 c : Nat) (k1 : Addr) (S1 : List Addr) (v1 : KV) (M : Addr) (S3 : List Addr) (v3 : KV) : Prop where
  fr : Fr K B H a t ns c0 c
  p1 : KeepAt K mg "Keep" [] H k1 S1 v1
  md : MdAt H M S3 v3
  d13 : Apart S1 S3
  f1 : ∀ b ∈ S1, B b = none
  f3 : ∀ b ∈ S3, B b = none
  t1 : t ∉ S1
  t3 : t ∉ S3
variable {B H H' : Hp} {a t : Addr} {ns : List Int} {c0 c c' : Nat} {k1 M : Addr} {S1 S3 S1' S3' : List Addr} {v1 v3 v1' v3' : KV}
theorem MdAt.apart {S T S' : List Addr} {v : KV} (h : MdAt H M T v) (d : Apart S T) (w : Own H S S') : Apart S' T := fun b hb ht => (w b hb).elim (fun hs => d b hs ht) fun e => h.out e ht
theorem S22.same (h : S22 K mg B H a t ns c0 c k1 S1 v1 M S3 v3) (s : Same H H') : S22 K mg B H' a t ns c0 c k1 S1 v1 M S3 v3 :=
  ⟨h.fr.same s, h.p1.same s, h.md.same s, h.d13, h.f1, h.f3, h.t1, h.t3⟩
theorem S22.town (h : S22 K mg B H a t ns c0 c k1 S1 v1 M S3 v3) (b : But t H H') (T : Tn K H' a t ns c') : S22 K mg B H' a t ns c0 c' k1 S1 v1 M S3 v3 := by
  have st := h.fr.bstep b
  exact ⟨h.fr.town b T, h.p1.step st (Apart.one h.t1), h.md.step st (Apart.one h.t3), h.d13, h.f1, h.f3, h.t1, h.t3⟩
theorem S22.one (h : S22 K mg B H a t ns c0 c k1 S1 v1 M S3 v3) (st : Step S1 H H') (w : Own H S1 S1') (hk : KeepAt K mg "Keep" [] H' k1 S1' v1') : S22 K mg B H' a t ns c0 c k1 S1' v1' M S3 v3 :=
  ⟨h.fr.step st h.f1 h.t1, hk, h.md.step st h.d13.symm, h.md.apart h.d13 w, h.fr.fresh w h.f1, h.f3, h.fr.off w h.t1, h.t3⟩
theorem S22.mod (h : S22 K mg B H a t ns c0 c k1 S1 v1 M S3 v3) (st : Step S3 H H') (w : Own H S3 S3') (hk : MdAt H' M S3' v3') : S22 K mg B H' a t ns c0 c k1 S1 v1 M S3' v3' :=
  ⟨h.fr.step st h.f3 h.t3, h.p1.step st h.d13, hk, (h.p1.apart h.d13.symm w).symm, h.f1, h.fr.fresh w h.f3, h.t1, h.fr.off w h.t3⟩
theorem told_stays {kind : Int} {x : V} {n : String} {u k : Addr} {S : List Addr} {v : KV} {Q : VK} {E : XK} (hK : KeepAt K mg "Keep" [] H k S v) (hx : Thing K H x n) (hu : H u = some (.tup [.ref k, x]))
    (q1 : (∀ m, x = .int m → m ∉ v.ns) → ∀ p H', Same H H' → H' p = some (.tup [.str "refused", .int 7]) → Q (.ref p) H')
    (q2 : ∀ m, x = .int m → m ∈ v.ns → m ∈ v.ps → ∀ p H', Same H H' → H' p = some (.tup [.str "found", .non]) → Q (.ref p) H')
    (q3 : ∀ m l s, x = .int m → m ∈ v.ns → m ∉ v.ps → v.last = some l → Lasts v.rus v.ns l m s → ∀ p H', Same H H' → H' p = some (.tup [.str "found", .int s]) → Q (.ref p) H') : sp__law_told K mg [.int kind, .ref u] H Q E :=
  ⟨_, _, rfl, kind, u, k, x, rfl, hu, k, S, v, x, n, rfl, hK, hx, fun e H1 s1 => ⟨"NotHeld", 7, rfl, rfl, fun _ h => (nomatch h), fun p H2 s2 _ hp => q1 e p H2 (s1.trans s2) hp⟩,
    fun m e h1 h2 H1 s1 => fun p H2 s2 _ hp => q2 m e h1 h2 p H2 (s1.trans s2) hp, fun m l s e h1 h2 h3 h4 H1 s1 => fun p H2 s2 _ hp => q3 m l s e h1 h2 h3 h4 p H2 (s1.trans s2) hp⟩
abbrev nm_law : List Str := ["script", "town", "rules", "keep", "model", "night", "due", "told", "odd"]
abbrev pm_law : List Str := ["script"]
abbrev lv_law : Nat := 7
theorem sc_law : FnScope nm_law pm_law (defScope s_law) := ⟨rfl, rfl, rfl, by decide +kernel, rfl, by decide +kernel, by decide +kernel⟩
def iv22 (K : PySem.W.Frag) (mg : Str → Option Value) (B : Hp) (a t : Addr) (ns : List Int) (cB c0 : Nat) (r M k1 n : Addr) (rus : List (List Int × Int)) (ms : List Int) (i : Nat) (σ : L2.St) (H : Hp) : Prop :=
  ∃ (c : Nat) (S1 S3 : List Addr) (v : KV) (y5 : Option V), σ = [some (.ref a), some (.ref t), some (.ref r), some (.ref k1), some (.ref M), y5, none, none, none] ∧ c ≤ c0 + 2 * i ∧
    S22 K mg B H a t ns cB c k1 S1 v M S3 v ∧ v.rus = rus ∧ v.ns.length ≤ i ∧ v.last = (ms.take i).getLast? ∧ H n = some (.lst (ms.map V.int)) ∧ n ∉ S1 ∧ n ∉ S3 ∧ n ≠ t
def iv22b (Hb : Hp) (a t r k1 M d : Addr) (i : Nat) (σ : L2.St) (H : Hp) : Prop :=
  ∃ (y5 y7 : Option V), σ = [some (.ref a), some (.ref t), some (.ref r), some (.ref k1), some (.ref M), y5, some (.ref d), y7, none] ∧ Same Hb H
theorem ok_law {f : Addr} {fd : FuncData} (F : Fun K "law" "law" s_law f fd) (T : Txt K mg) : FnOk P w K mg base CX0 lv_law f fd ["script"] (spLaw K) := by
  refine F.ok sc_law (fun vs H Q E h => ?_) (fun cdv A outer s H vs Q E hr h => ?_)
  · obtain ⟨a, ns, rfl, _⟩ := h; rfl
  · obtain ⟨a, ns, rfl, hS, hl, q⟩ := h
    have hu := hu_of hr
    refine ⟨_, (pss_cons (ps_set (i := 1) sc_law.nd rfl (.inl rfl) (pe_fn (f__law_town T) (hr.mono (by decide)) (by rfl) pass0 (pa_cons (pv 0) pa_nil)))
      (pss_cons (ps_set (i := 2) sc_law.nd rfl (.inl rfl) (pe_fn (f__law_rules T) (hr.mono (by decide)) (by rfl) pass0 (pa_cons (pv 0) (pa_cons (pv 1) (pa_cons pe_int (pa_cons pe_int (pa_cons (pe_fn (f__law_pick T) (hr.mono (by decide)) (by rfl) pass0 (pa_cons (pv 0) (pa_cons (pv 1) (pa_cons (pe_lst (pa_cons pe_int (pa_cons pe_int pa_nil))) pa_nil)))) (pa_cons (pe_fn (f__law_pick T) (hr.mono (by decide)) (by rfl) pass0 (pa_cons (pv 0) (pa_cons (pv 1) (pa_cons (pe_lst (pa_cons pe_int (pa_cons pe_int (pa_cons pe_int pa_nil)))) pa_nil)))) pa_nil))))))))
      (pss_cons (ps_set (i := 3) sc_law.nd rfl (.inl rfl) (pe_new T.o_Keep (f_Keep____init__ T) (hr.mono (by decide)) (by rfl) passL (pa_cons (pv 2) pa_nil)))
      (pss_cons (ps_set (i := 4) sc_law.nd rfl (.inl rfl) (pe_fn0 (f__law_model T) (hr.mono (by decide)) (by rfl) pass0))
      (pss_cons (ps_for PassesOwn.never rfl (pi_list (pe_fn (f__law_nights T) (hr.mono (by decide)) (by rfl) pass0 (pa_cons (pv 0) (pa_cons (pv 1) (pa_cons pe_int (pa_cons (pe_fn (f__law_pick T) (hr.mono (by decide)) (by rfl) pass0 (pa_cons (pv 0) (pa_cons (pv 1) (pa_cons (pe_lst (pa_cons pe_int (pa_cons pe_int (pa_cons pe_int pa_nil)))) pa_nil)))) pa_nil)))))) (pg_name (i := 5) sc_law.nd rfl (Or.inl rfl)) (pss_cons (ps_expr (pe_me (pv 3) T.o_Keep (f_Keep__take T) (hr.mono (by decide)) passL (pa_cons (pv 5) pa_nil)))
      (pss_cons (ps_expr (pe_bm PySem.F.plainAttrs_list PySem.F.slot_list_append PySem.F.type_list_append mt_append (pe_ix ix_list (pv 4) pe_int (fun _ _ => rfl)) (pa_cons (pv 5) pa_nil)))
      (pss_cons (ps_asg (pv 5) (pg_sub (pv 4) pe_int set_list))
      (pss_cons (ps_if (pt_cmpR op_eq (pe_fn (f__law_draw T) (hr.mono (by decide)) (by rfl) pass0 (pa_cons (pv 0) (pa_cons (pv 1) (pa_cons pe_int pa_nil)))) pe_int (nomark _)) (pss_cons (ps_expr (pe_me0 (pv 3) T.o_Keep (f_Keep__let_go T) (hr.mono (by decide)) pass0))
      (pss_one (ps_expr (pe_fn (f__law_done T) (hr.mono (by decide)) (by rfl) pass0 (pa_cons (pv 2) (pa_cons (pv 4) (pa_cons pe_int (pa_cons pe_non pa_nil)))))))) pss_nil)
      (pss_one (ps_if (pt_cmpR op_eq (pe_fn (f__law_draw T) (hr.mono (by decide)) (by rfl) pass0 (pa_cons (pv 0) (pa_cons (pv 1) (pa_cons pe_int pa_nil)))) pe_int (nomark _)) (pss_cons (ps_expr (pe_fn (f__law_told T) (hr.mono (by decide)) (by rfl) pass0 (pa_cons pe_int (pa_cons (pe_tup (pa_cons (pv 3) (pa_cons (pv 5) pa_nil))) pa_nil))))
      (pss_cons (ps_expr (pe_bm PySem.F.plainAttrs_list PySem.F.slot_list_append PySem.F.type_list_append mt_append (pe_ix ix_list (pv 4) pe_int (fun _ _ => rfl)) (pa_cons (pv 5) pa_nil)))
      (pss_one (ps_expr (pe_me (pv 3) T.o_Keep (f_Keep__pin T) (hr.mono (by decide)) passL (pa_cons (pv 5) pa_nil)))))) pss_nil)))))))
      (pss_cons (ps_set (i := 6) sc_law.nd rfl (.inl rfl) (pe_fn (f__law_lasts T) (hr.mono (by decide)) (by rfl) pass0 (pa_cons (pv 2) (pa_cons (pv 4) pa_nil))))
      (pss_cons (ps_for PassesOwn.never rfl (pi_list (pe_ix ix_list (pv 4) pe_int (fun _ _ => rfl))) (pg_name (i := 5) sc_law.nd rfl (Or.inl rfl)) (pss_cons (ps_set (i := 7) sc_law.nd rfl (.inl rfl) (pe_fn (f__law_told T) (hr.mono (by decide)) (by rfl) pass0 (pa_cons pe_int (pa_cons (pe_tup (pa_cons (pv 3) (pa_cons (pv 5) pa_nil))) pa_nil))))
      (pss_one (ps_if (pt_cmpR op_in_seq (pv 5) (pe_ix ix_list (pv 4) pe_int (fun _ _ => rfl)) (by rfl)) (pss_one (ps_if (pt_cmpR (op_neD hr.units) (pv 7) (pe_tup (pa_cons pe_str (pa_cons pe_non pa_nil))) (nomark _)) (pss_one (ps_ret pe_bl)) pss_nil)) (pss_one (ps_if (PW.pt (pw_or (pt_cmpR (op_neD hr.units) (pv 7) (pe_tup (pa_cons pe_str (pa_cons (pe_dget hu (pv 6) (pv 5) (fun _ _ => rfl)) pa_nil))) (nomark _)) (pw_or1 (pt_not (pt_val (pe_fn (f__law_whole T) (hr.mono (by decide)) (by rfl) pass0 (pa_cons (pe_ix ix_tup (pv 7) pe_int (fun _ _ => rfl)) pa_nil))))))) (pss_one (ps_ret pe_bl)) pss_nil))))))
      (pss_cons (ps_set (i := 8) sc_law.nd rfl (.inl rfl) (pe_fn (f__law_pick T) (hr.mono (by decide)) (by rfl) pass0 (pa_cons (pv 0) (pa_cons (pv 1) (pa_cons (pe_lst (pa_cons pe_non (pa_cons pe_bl (pa_cons (pe_un un_neg pe_int) (pa_cons pe_str (pa_cons (pe_tup (pa_cons pe_int pa_nil)) (pa_cons (pe_lst (pa_cons pe_int pa_nil)) (pa_cons (pe_op op_pow pe_int pe_int) (pa_cons (pe_op op_pow pe_int pe_int) pa_nil))))))))) pa_nil)))))
      (pss_cons (ps_if (PW.pt (pw_and (pt_cmpR (op_notInD hr.units65) (pv 8) (pe_ix ix_list (pv 4) pe_int (fun _ _ => rfl)) (by rfl)) (pw_and1 (pt_cmpR (op_neD hr.units) (pe_fn (f__law_told T) (hr.mono (by decide)) (by rfl) pass0 (pa_cons pe_int (pa_cons (pe_tup (pa_cons (pv 3) (pa_cons (pv 8) pa_nil))) pa_nil))) (pe_fn (f__law_refused T) (hr.mono (by decide)) (by rfl) pass0 (pa_cons pe_str pa_nil)) (nomark _))))) (pss_one (ps_ret pe_bl)) pss_nil)
      (pss_one (ps_ret (pe_fn (f__law_like T) (hr.mono (by decide)) (by rfl) pass0 (pa_cons (pv 3) (pa_cons (pv 4) pa_nil)))))))))))))), ?_⟩
    with_reducible refine seq_k fun K_ hK_ => ?_
    walk_at "rt"
    refine ⟨a, ns, rfl, hS, hl, fun H1 t s1 T1 ht => ?_⟩
    walk_at "rt"
    subst hK_
    first | with_reducible refine seq_k fun K_ hK_ => ?_ | skip
    walk_at "rt"
    refine pickI [2, 5] T1 (by decide) fun top hk1 H2 T2 b2 => ?_
    have hk1' : 0 < top ∧ top ≤ 31 := by simp at hk1; omega
    refine pickI [1, 3, 4] T2 (by decide) fun mm hk2 H3 T3 b3 => ?_
    have hk2' : 0 < mm ∧ mm ≤ 20 := by simp at hk2; omega
    refine ⟨a, t, ns, _, 3, 2, top, mm, rfl, T3, by decide, by decide, by decide, by decide, by decide, by omega, by omega, by omega, by omega, fun rus xs r c4 H4 l1 l5 _ hr3 hr4 hv4 hc4 T4 b4 => ?_⟩
    have hc4' : c4 ≤ 100 := by simp at hc4; omega
    have R4 := hv4.at_ hr4 l1 (by omega)
    walk_at "rt"
    subst hK_
    first | with_reducible refine seq_k fun K_ hK_ => ?_ | skip
    walk_at "rt"
    refine keep_new R4 fun k1 N1 P1 H5 s5 hk1n hN1n hP1n hK5 => ?_
    walk_at "rt"
    subst hK_
    first | with_reducible refine seq_k fun K_ hK_ => ?_ | skip
    walk_at "rt"
    refine ⟨rfl, fun M A1 B1 H6 s6 hM5 hA5 hB5 hMd => ?_⟩
    have S6 : S22 K mg H4 H6 a t ns c4 c4 k1 [k1, N1, P1] ⟨rus, [], [], none⟩ M [M, A1, B1] ⟨rus, [], [], none⟩ := by
      have m1 : ∀ b ∈ [k1, N1, P1], H4 b = none := by simp only [List.mem_cons, List.not_mem_nil, or_false]; rintro b (rfl | rfl | rfl) <;> assumption
      have m3 : ∀ b ∈ [M, A1, B1], H5 b = none := by simp only [List.mem_cons, List.not_mem_nil, or_false]; rintro b (rfl | rfl | rfl) <;> assumption
      obtain ⟨lB, hlB⟩ := T4.lst
      have m3' : ∀ b ∈ [M, A1, B1], H4 b = none := fun b hb => s5.free (m3 b hb)
      refine ⟨(Fr.new T4).same (s5.trans s6), hK5.same s6, hMd rus, fun b hb hb2 => hK5.out (m3 b hb2) hb, m1, m3', fun hb => ?_, fun hb => ?_⟩
      · rw [m1 t hb] at hlB; cases hlB
      · rw [m3' t hb] at hlB; cases hlB
    have hrus := R4.rnds
    have hm1 : ∀ ru ∈ rus, 1 ≤ ru.2 := fun ru h => (hrus ru h).2.1
    have hrne : rus ≠ [] := List.length_pos_iff.mp (by omega)
    walk_at "rt"
    subst hK_
    first | with_reducible refine seq_k fun K_ hK_ => ?_ | skip
    walk_at "rt"
    refine pickI [1, 3, 9] S6.fr.tn (by omega) fun step hk3 H7 T7 b7 => ?_
    have hk3' : 0 < step ∧ step ≤ 9 := by simp at hk3; omega
    have S7 := S6.town b7 T7
    refine ⟨a, t, ns, _, 12, step, rfl, S7.fr.tn, by omega, by decide, by decide, by omega, by omega, fun ms n c8 H8 n12 hrise hb hn7 hn8 hc8 T8 b8 => ?_⟩
    have S8 := S7.town b8 T8
    have hc8' : c8 ≤ 200 := by simp at hc8; omega
    have hbn : ∀ m ∈ ms, 0 ≤ m ∧ m ≤ 1000000000 := fun m hm => by have := hb m hm; omega
    have hM : (ms.map V.int).length = ms.length := List.length_map _
    walk_at "rt"
    refine ⟨⟨_, sqL hn8⟩, for_list (K := K) (a := n) (xs := ms.map V.int) (iv22 K mg H4 a t ns c4 c8 r M k1 n rus ms) ⟨c8, _, _, _, none, rfl, by omega, S8, rfl, Nat.le_refl _, rfl, hn8, S7.p1.out hn7, S7.md.out hn7, S7.fr.tn.some_ hn7⟩ (fun j σ H9 _ p => ?_) ?_ ?_⟩
    · obtain ⟨_, _, _, _, _, _, _, _, _, _, _, h, _⟩ := p
      exact sqL h
    · rintro i x σ Ha hx ⟨c, S1, S3, v, y5, rfl, hc, SA, hru, hnl, hla, hna, hn1, hn3, hnt⟩
      rw [List.getElem?_map] at hx
      cases e : ms[i]? with
      | none => rw [e] at hx; cases hx
      | some m =>
      rw [e] at hx
      cases hx
      have hi := lt_of_get e
      have hmm := hbn m (mem_of_get e)
      have htk := take_next e
      have hlt : ∀ z ∈ ms.take i, z < m := by
        have := (htk ▸ (hrise.sublist (List.take_sublist (i + 1) ms)) : (ms.take i ++ [m]).Pairwise (· < ·))
        rw [List.pairwise_append] at this
        exact fun z hz => this.2.2 z hz m (by simp)
      have hlast : ∀ l, v.last = some l → l < m := fun l hl => hlt l (List.mem_of_getLast? (hla ▸ hl))
      obtain ⟨dx1, fs1, hk1, hno1⟩ := keep_at SA.p1
      walk_at "rt"
      with_reducible refine seq_k fun K_ hK_ => ?_
      walk_at "rt"
      refine ⟨dx1, _, hk1, hno1 _ (by decide), ?_⟩
      refine keep_take SA.p1 hmm.1 hmm.2 hlast (by omega) fun Hb stb Kb => ?_
      have SB := SA.one stb .refl Kb
      have hnb := stb.keep _ _ hna hn1
      obtain ⟨A2, B2, hS3, hAB, hMb, hAb, hBb⟩ := SB.md.at_
      subst hS3
      have hAM := md_neA hMb hAb
      have hBM := md_neA hMb hBb
      walk_at "rt"
      subst hK_
      first | with_reducible refine seq_k fun K_ hK_ => ?_ | skip
      walk_at "rt"
      refine ixL (j := 0) (sqL hMb) rfl rfl (app hAb (by rw [List.length_map]; omega) ?_)
      have st0 : Step [M, A2, B2] Hb Hb := .refl
      generalize hG_ : upd _ A2 _ = Hc
      obtain ⟨stc, bc, hAc⟩ := putH st0 (by simp) hAb (fun _ z => nomatch z) hG_
      clear hG_
      have hMc := bc _ _ hMb hAM.symm
      have hBc := bc _ _ hBb hAB.symm
      walk_at "rt"
      subst hK_
      first | with_reducible refine seq_k fun K_ hK_ => ?_ | skip
      walk_at "rt"
      refine setL (j := 2) hMc rfl (by simp) ?_
      generalize hG_ : upd _ M _ = Hd
      obtain ⟨std, bd, hMd'⟩ := putH stc (by simp) hMc (fun _ z => nomatch z) hG_
      clear hG_
      have hAd : Hd A2 = some (.lst ((v.ns ++ [m]).map V.int)) := by rw [bd _ _ hAc hAM, List.map_append]; rfl
      have SD := SB.mod (v3' := { v with ns := v.ns ++ [m], last := some m }) std .refl ⟨A2, B2, rfl, hAB, hMd', hAd, bd _ _ hBc hBM⟩
      have hnd := std.keep _ _ hnb hn3
      have hpm : ∀ z ∈ v.ps, z < m := fun z hz => by
        obtain ⟨l, h1, h2⟩ := SA.p1.lst z (SA.p1.psub z hz)
        have := hlast l h1
        omega
      have hrise2 : (v.ns ++ [m]).Pairwise (· < ·) := SB.p1.rise
      have hkl : m ∈ keptF v.rus (v.ns ++ [m]) := by
        rw [hru]
        obtain ⟨t0, ht0⟩ := keptF_last hm1 hrne v.ns m
        rw [ht0]
        simp
      walk_at "rt"
      subst hK_
      first | with_reducible refine seq_k fun K_ hK_ => ?_ | skip
      walk_at "rt"
      refine ⟨a, t, ns, _, 4, rfl, SD.fr.tn, by omega, by decide, by decide, fun d4 He d0 d1 Te be => ⟨rfl, ?_⟩⟩
      have SE := SD.town be Te
      have hne := be _ _ hnd hnt
      have fin : ∀ (Hf : Hp) (S1' S3' : List Addr) (w : KV), S22 K mg H4 Hf a t ns c4 (c + 1) k1 S1' w M S3' w → w.rus = rus → w.ns.length ≤ i + 1 → w.last = some m → w.ps = v.ps → m ∈ w.ns → Hf n = some (.lst (ms.map V.int)) → n ∉ S1' → n ∉ S3' →
          K_ [some (.ref a), some (.ref t), some (.ref r), some (.ref k1), some (.ref M), some (.int m), none, none, none] Hf := by
        intro Hf S1' S3' w SF hw1 hw2 hw3 hw4 hw5 hnf hnf1 hnf3
        have hwl : w.last = (ms.take (i + 1)).getLast? := by rw [hw3, htk]; simp
        walk_at "rt"
        subst hK_
        first | with_reducible refine seq_k fun K_ hK_ => ?_ | skip
        walk_at "rt"
        refine ⟨a, t, ns, _, 8, rfl, SF.fr.tn, by omega, by decide, by decide, fun d8 Hg d0 d1 Tg bg => ⟨rfl, ?_⟩⟩
        have SG := SF.town bg Tg
        have hng := bg _ _ hnf hnt
        refine ite2 (fun c1 => ?_) (fun c1 => ⟨_, _, _, _, _, rfl, by omega, SG, hw1, hw2, hwl, hng, hnf1, hnf3, hnt⟩)
        with_reducible refine seq_k fun K_ hK_ => ?_
        walk_at "rt"
        intro u n_u
        generalize hG_ : upd _ u _ = Hh
        obtain ⟨sh, huh⟩ := newF n_u hG_
        clear hG_
        have SH := SG.same sh
        have more : ∀ (p : Addr) (Hi : Hp), Same Hh Hi → K_ [some (.ref a), some (.ref t), some (.ref r), some (.ref k1), some (.ref M), some (.int m), none, none, none] Hi := by
          intro p Hi si
          have SI := SH.same si
          have hni := si _ _ (sh _ _ hng)
          obtain ⟨A3, B3, hS3, hAB, hMi, hAi, hBi⟩ := SI.md.at_
          subst hS3
          have hAM := md_neA hMi hAi
          have hBM := md_neA hMi hBi
          have hp100 := SI.p1.plen
          walk_at "rt"
          subst hK_
          first | with_reducible refine seq_k fun K_ hK_ => ?_ | skip
          walk_at "rt"
          refine ixL (j := 1) (sqL hMi) rfl rfl (app hBi (by rw [List.length_map]; omega) ?_)
          have st0 : Step [M, A3, B3] Hi Hi := .refl
          generalize hG_ : upd _ B3 _ = Hj
          obtain ⟨stj, bj, hBj⟩ := putH st0 (by simp) hBi (fun _ z => nomatch z) hG_
          clear hG_
          have hBj : Hj B3 = some (.lst ((w.ps ++ [m]).map V.int)) := by rw [hBj, List.map_append]; rfl
          have SJ := SI.mod (v3' := { w with ps := w.ps ++ [m] }) stj .refl ⟨A3, B3, rfl, hAB, bj _ _ hMi hBM.symm, bj _ _ hAi hAB, hBj⟩
          have hnj := stj.keep _ _ hni hnf3
          obtain ⟨dx1, fs1, hk1, hno1⟩ := keep_at SJ.p1
          walk_at "rt"
          subst hK_
          first | with_reducible refine seq_k fun K_ hK_ => ?_ | skip
          walk_at "rt"
          refine ⟨dx1, _, hk1, hno1 _ (by decide), ?_⟩
          refine keep_pin SJ.p1 hw5 (fun h => by rw [hw4] at h; have := hpm m h; omega) fun Hk S1'' ps' hr' hm' stk wk Kk => ?_
          have hps : ps' = w.ps ++ [m] := rise_ext hr' (by
            rw [List.pairwise_append]
            refine ⟨SI.p1.prise, List.pairwise_singleton _ _, fun x hx y hy => ?_⟩
            rw [List.mem_singleton.mp hy]
            rw [hw4] at hx
            exact hpm x hx) fun z => by rw [hm', List.mem_append, List.mem_singleton]
          subst hps
          exact ⟨_, _, _, _, _, rfl, by omega, SJ.one stk wk Kk, hw1, hw2, hwl, stk.keep _ _ hnj hnf1, wk.off hnj hnf1, hnf3, hnt⟩
        exact told_stays SH.p1 (.int m) huh (fun _ p Hi si _ => more p Hi si) (fun _ _ _ _ p Hi si _ => more p Hi si) (fun _ _ _ _ _ _ _ _ p Hi si _ => more p Hi si)
      have hlen1 : (v.ns ++ [m]).length ≤ i + 1 := by rw [List.length_append]; simp; omega
      refine ite2 (fun c1 => ?_) (fun c1 => fin _ _ _ _ SE hru hlen1 rfl rfl (by simp) hne hn1 hn3)
      clear hK_
      with_reducible refine seq_k fun K_ hK_ => ?_
      walk_at "rt"
      obtain ⟨dx1, fs1, hk1, hno1⟩ := keep_at SE.p1
      refine ⟨dx1, _, hk1, hno1 _ (by decide), k1, _, _, rfl, SE.p1, fun p Hf S1' stf wf hpn hpS hpf Kf => ?_⟩
      have SF := SE.one stf wf Kf
      have hnf := stf.keep _ _ hne hn1
      have hnf1 := wf.off hne hn1
      walk_at "rt"
      subst hK_
      first | with_reducible refine seq_k fun K_ hK_ => ?_ | skip
      walk_at "rt"
      have hrv : RuleVs Hf xs v.rus := by rw [hru]; exact SF.fr.rv hv4
      refine ⟨r, M, _, { v with ns := v.ns ++ [m], last := some m }, xs, 1, .non, _, rfl, SF.fr.tup hr4, hrv, by rw [hru]; omega, SF.md, Nat.le_trans hlen1 (by omega), SE.p1.plen, SE.p1.prise, .non, by decide, by decide, fun p2 Hg S3' stg wg hp2n _ hmg => ?_⟩
      have SG := SF.mod stg wg hmg
      have hlk : m ∈ leftK { v with ns := v.ns ++ [m], last := some m } := by
        unfold leftK goneK
        rw [List.mem_filter, decide_eq_true_eq, List.mem_filter, not_and, decide_eq_true_eq]
        exact ⟨by simp, fun _ h => h (List.mem_append_left _ hkl)⟩
      exact fin Hg _ _ _ SG hru (Nat.le_trans (List.length_filter_le _ _) hlen1) rfl rfl hlk (stg.keep _ _ hnf hn3) hnf1 (wg.off hnf hn3)
    · rintro σ Ha ⟨c, S1, S3, v, y5, rfl, hc, SA, hru, hnl, hla, hna, hn1, hn3, hnt⟩
      have hrv : RuleVs Ha xs v.rus := by rw [hru]; exact SA.fr.rv hv4
      obtain ⟨l, hll⟩ : ∃ l, (v.ns ≠ [] → v.last = some l) ∧ ∀ z ∈ v.ns, z ≤ l := by
        cases hv : v.last with
        | none =>
          refine ⟨0, fun h => ?_, fun z hz => ?_⟩
          · obtain ⟨z, hz⟩ := List.exists_mem_of_ne_nil _ h
            obtain ⟨l, h1, _⟩ := SA.p1.lst z hz
            rw [hv] at h1; cases h1
          · obtain ⟨l, h1, _⟩ := SA.p1.lst z hz
            rw [hv] at h1; cases h1
        | some l =>
          refine ⟨l, fun _ => rfl, fun z hz => ?_⟩
          obtain ⟨l', h1, h2⟩ := SA.p1.lst z hz
          rw [hv] at h1; cases h1; exact h2
      have hn100 := SA.p1.n100
      have hp100 := SA.p1.plen
      walk_at "rt"
      subst hK_
      first | with_reducible refine seq_k fun K_ hK_ => ?_ | skip
      walk_at "rt"
      refine ⟨r, M, _, v, xs, l, rfl, SA.fr.tup hr4, hrv, by rw [hru]; omega, by rw [hru]; exact hrne, fun ru h => by rw [hru] at h; have := hrus ru h; exact ⟨this.1, this.2.1, this.2.2.1⟩, SA.md, hn100, SA.p1.rise, hll.2, hll.1, fun d Hb kvs sb hdn hd hkv => ?_⟩
      have SB := SA.same sb
      obtain ⟨A2, B2, hS3, hAB, hMb, hAb, hBb⟩ := SB.md.at_
      walk_at "rt"
      subst hK_
      first | with_reducible refine seq_k fun K_ hK_ => ?_ | skip
      walk_at "rt"
      refine ixL (j := 0) (sqL hMb) rfl rfl ?_
      refine ⟨A2, rfl, ⟨_, sqL hAb⟩, for_list (K := K) (a := A2) (xs := v.ns.map V.int) (iv22b Hb a t r k1 M d) ⟨_, _, rfl, Same.refl _⟩ (fun j σ H9 _ p => ?_) ?_ ?_⟩
      · obtain ⟨_, _, _, s9⟩ := p
        exact sqL (s9 _ _ hAb)
      · rintro j x σ Hc hx ⟨y5, y7, rfl, sc⟩
        rw [List.getElem?_map] at hx
        cases e : v.ns[j]? with
        | none => rw [e] at hx; cases hx
        | some m =>
        rw [e] at hx
        cases hx
        have hmn := mem_of_get e
        have SC := SB.same sc
        walk_at "rt"
        with_reducible refine seq_k fun K_ hK_ => ?_
        walk_at "rt"
        intro u n_u
        generalize hG_ : upd _ u _ = Hd
        obtain ⟨sd, hud⟩ := newF n_u hG_
        clear hG_
        have SD := SC.same sd
        have sbd := sc.trans sd
        refine told_stays SD.p1 (.int m) hud (fun h => absurd hmn (h m rfl)) (fun m' e' h1 h2 p Hf sf hpf => ?_) (fun m' l' s' e' h1 h2 h3 h4 p Hf sf hpf => ?_)
        · cases e'
          have sbf := sbd.trans sf
          walk_at "rt"
          subst hK_
          first | with_reducible refine seq_k fun K_ hK_ => ?_ | skip
          walk_at "rt"
          refine ixL (j := 1) (sqL (sbf _ _ hMb)) rfl rfl ?_
          refine ⟨B2, _, rfl, .inl (sqL (sbf _ _ hBb)), rfl, flat_ints _, _, rfl, ?_⟩
          rw [if_neg Bool.false_ne_true, inV_ints, decide_eq_true h2, if_pos rfl]
          intro p2 n_p2
          generalize hG_ : upd _ p2 _ = Hg
          obtain ⟨sg, hp2⟩ := newF n_p2 hG_
          clear hG_
          have dA : DueAt Hg p .non := sg _ _ hpf
          have dB : DueAt Hg p2 .non := hp2
          refine neD (due_dp dA) (due_dp dB) due_gd due_gd (fun _ => ⟨_, rfl, ?_⟩) (fun e => absurd rfl e)
          rw [if_neg Bool.false_ne_true]
          exact ⟨_, _, rfl, sbf.trans sg⟩
        · cases e'
          have sbf := sbd.trans sf
          walk_at "rt"
          subst hK_
          first | with_reducible refine seq_k fun K_ hK_ => ?_ | skip
          walk_at "rt"
          refine ixL (j := 1) (sqL (sbf _ _ hMb)) rfl rfl ?_
          refine ⟨B2, _, rfl, .inl (sqL (sbf _ _ hBb)), rfl, flat_ints _, _, rfl, ?_⟩
          rw [if_neg Bool.false_ne_true, inV_ints, decide_eq_false h2, if_neg Bool.false_ne_true]
          have hl' : l' = l := by
            have := hll.1 (List.ne_nil_of_mem hmn)
            rw [h3] at this; cases this; rfl
          subst hl'
          have hval := hkv m hmn s' h4
          have hdf := sbf _ _ hd
          refine ⟨_, rfl, _, rfl, d, .int s', rfl, hval ▸ DGet.k (k := .inl m) hdf, ?_⟩
          intro p2 n_p2
          generalize hG_ : upd _ p2 _ = Hg
          obtain ⟨sg, hp2⟩ := newF n_p2 hG_
          clear hG_
          refine neD (d := .tuple [.str "found", .int s']) (e := .tuple [.str "found", .int s']) (.tup (sqT (sg _ _ hpf)) (.cons (.str _) (.cons (.int _) .nil))) (.tup (sqT hp2) (.cons (.str _) (.cons (.int _) .nil))) (k := 1) (m := 1) (by simp [gd, found_ok]) (by simp [gd, found_ok]) (fun _ => ⟨_, rfl, ?_⟩) (fun e => absurd rfl e)
          rw [if_neg Bool.false_ne_true]
          refine ixT (j := 1) (sqT (sg _ _ hpf)) rfl rfl ?_
          refine ⟨.int s', _, rfl, .int s', true, rfl, ?_⟩
          rw [if_neg (by decide)]
          exact ⟨_, _, rfl, sbf.trans sg⟩
      · rintro σ Hc ⟨y5, y7, rfl, sc⟩
        have SC := SB.same sc
        walk_at "rt"
        subst hK_
        first | with_reducible refine seq_k fun K_ hK_ => ?_ | skip
        walk_at "rt"
        intro q1 n_q1
        generalize hG_ : upd _ q1 _ = G1
        obtain ⟨g1, e1⟩ := newF n_q1 hG_
        clear hG_
        intro q2 n_q2
        generalize hG_ : upd _ q2 _ = G2
        obtain ⟨g2, e2⟩ := newF n_q2 hG_
        clear hG_
        refine ⟨⟨by decide, by decide⟩, ⟨by decide, by decide⟩, ?_⟩
        have T0 := SC.fr.tn
        have n1 : q1 ≠ t := T0.some_ n_q1
        have n2 : q2 ≠ t := T0.some_ (g1.free n_q2)
        have SG := (SC.same g1).same g2
        have hc' : c ≤ 300 := by omega
        refine pickV SG.fr.tn (by omega) (by simp) (by simp) (fun x hx Hd Td bd => ?_)
        have SD := SG.town bd Td
        have key : ∃ n dd, Thing K Hd x n ∧ Dp K Hd x dd ∧ gb 3 dd = true ∧ ∀ m, x = .int m → dd = .int m := by
          simp only [List.mem_cons, List.not_mem_nil, or_false] at hx
          rcases hx with rfl | rfl | rfl | rfl | rfl | rfl | rfl | rfl
          · exact ⟨_, _, .non, .non, rfl, fun m e => nomatch e⟩
          · exact ⟨_, _, .bl _, .bl _, rfl, fun m e => nomatch e⟩
          · exact ⟨_, _, .int _, .int _, rfl, fun m e => by cases e; rfl⟩
          · exact ⟨_, _, .str _, .str _, (by simp [gb]; decide +kernel), fun m e => nomatch e⟩
          · exact ⟨_, _, .tup (bd _ _ (g2 _ _ e1) n1), .tup (sqT (bd _ _ (g2 _ _ e1) n1)) (.cons (.int _) .nil), (by simp [gb]), fun m e => nomatch e⟩
          · exact ⟨_, _, .lst (bd _ _ e2 n2), .lst (sqL (bd _ _ e2 n2)) (.cons (.int _) .nil), (by simp [gb]), fun m e => nomatch e⟩
          · exact ⟨_, _, .int _, .int _, rfl, fun m e => by cases e; rfl⟩
          · exact ⟨_, _, .int _, .int _, rfl, fun m e => by cases e; rfl⟩
        obtain ⟨nn, dd, hth, hdp, hgb, hint⟩ := key
        have hMd2 := bd _ _ (g2 _ _ (g1 _ _ (sc _ _ hMb)))
        obtain ⟨A3, B3, hS3', hAB3, hM3, hA3, hB3⟩ := SD.md.at_
        walk_at "rt"
        subst hK_
        first | with_reducible refine seq_k fun K_ hK_ => ?_ | skip
        walk_at "rt"
        refine ixL (j := 0) (sqL hM3) rfl rfl ?_
        refine ⟨dd, _, hdp, dp_LI (sqL hA3), gb_shaped hgb, gd_shaped (gd_dLI (k := 0) v.ns), _, rfl, ?_⟩
        have fin : ∀ He, Same Hd He → K_ [some (.ref a), some (.ref t), some (.ref r), some (.ref k1), some (.ref M), y5, some (.ref d), y7, some x] He := by
          intro He se
          have SE := SD.same se
          walk_at "rt"
          subst hK_
          first | with_reducible refine seq_k fun K_ hK_ => ?_ | skip
          walk_at "rt"
          exact ⟨k1, M, _, _, _, rfl, SE.p1, SE.md, fun Hf sf => q _⟩
        refine ite2 (fun c1 => ?_) (fun c1 => fin _ (Same.refl _))
        have hnin : ∀ m, x = .int m → m ∉ v.ns := fun m e hm => by
          have h1 := hint m e
          subst h1
          have h2 : ((v.ns.map PyData.int).any fun z => PyData.eqv z (.int m)) = true := List.any_eq_true.mpr ⟨.int m, List.mem_map_of_mem hm, eqv_of_eq (k := 0) rfl rfl⟩
          rw [h2] at c1
          exact absurd c1 (by decide)
        intro u n_u
        generalize hG_ : upd _ u _ = He
        obtain ⟨se, hue⟩ := newF n_u hG_
        clear hG_
        have SE := SD.same se
        refine told_stays SE.p1 (hth.same se) hue (fun _ p Hf sf hpf => ?_) (fun m e h1 => absurd h1 (hnin m e)) (fun m l s e h1 => absurd h1 (hnin m e))
        refine ⟨"held", 7, rfl, rfl, fun p2 Hg sg _ hp2 => ?_⟩
        have dA : DueAt Hg p (.rf 7) := sg _ _ hpf
        have dB : DueAt Hg p2 (.rf 7) := hp2
        refine neD (due_dp dA) (due_dp dB) due_gd due_gd (fun _ => ⟨_, rfl, ?_⟩) (fun e => absurd rfl e)
        rw [if_neg Bool.false_ne_true]
        exact fin _ (se.trans (Same.trans sf sg))
end
end Nk
namespace Nk
open PySem L2
theorem fin {P : Program} {w : World} {K : PySem.W.Frag} {mg : Str → Option Value} {fa : Addr} (hfa : mg "law" = some (.ref fa)) (T : Txt K mg) : ∃ fd : FuncData, (∀ (s : Shared) (v : Value), BindsTo s fd ⟨[v], []⟩ [("script", v)]) ∧ ∀ base : Heap, K.In base → base.Ns mainGlobals mg → FnOk P w K mg base CX0 7 fa fd ["script"] (spLaw K) :=
  law_end hfa T.d_law (fun _ _ _ _ _ _ _ => rfl) (fun base f fd F => ok_law F T)
end Nk
open PySem PySem.W PyProof.Rows
set_option maxRecDepth 100000 in
set_option maxHeartbeats 0 in
theorem PySem.Challenge.cw_nightkeep_k22_whole_stays_holds : PySem.Challenge.rw_nightkeep_k22_whole_stays.Holds := by
  w_on; o_law; k_head; (case hw => w_witness2)
  k_fill
  refine L2.walk_of (l := PySem.Challenge.rw_nightkeep_k22_whole_stays) (n := 63) (k := 7) (x := "script") (CX := fun _ => L2.CX0) (sp := fun w => Nk.spLaw _) rfl (by decide) rfl ⟨rfl, by decide, by decide⟩ (fun w h Y => PySem.W.kIn_of Y) ?F (fun _ _ a ns hl _ hS => ⟨a, ns, rfl, hS, hl, fun _ => rfl⟩) (fun _ _ _ _ _ h => h)
  case F =>
    intro w mg fa h KX G hmg
    refine Nk.fin hmg ?_
    refine ⟨?d_is_number, ?d_is_rounds, ?d_look_night, ?d_number_of, ?d_first_of, ?d_is_rule, ?d_look_rules, ?d_look_nights, ?d_kept_by, ?d_kept_of, ?d_look_taken, ?d_look_held, ?d_gone_of, ?d_stays_by, ?d__law_town, ?d__law_draw, ?d__law_pick, ?d__law_word, ?d__law_refused, ?d__law_told, ?d__law_whole, ?d__law_wholes, ?d__law_rounds, ?d__law_spot, ?d__law_rules, ?d__law_nights, ?d__law_by, ?d__law_kept, ?d__law_model, ?d__law_gone, ?d__law_done, ?d__law_like, ?d__law_one, ?d__law_lasts, ?d_law, ?x_KeepError, ?x_BadRounds, ?x_BadNight, ?x_BadNumber, ?x_BadRules, ?x_BadNights, ?x_Full, ?x_NotHeld, ?x_Pinned, ?x_NotPinned, ?x_BadState, ?x_BadPart, ?x_NotFit, ?x_IsWhole, ?x_BadPlan, ?x_Unlike, ?x_BadText, ?y_Elder, ?o_Keep, ?m_Keep____init__, ?m_Keep____len__, ?m_Keep__take, ?m_Keep__let_go, ?m_Keep__pin, ?m_Keep__unpin, ?m_Keep__held, ?m_Keep__pins, ?m_Keep__stays, ?m_Keep__ahead, ?n_Keep__last, ?n_Keep__nights, ?n_Keep__pinned, ?n_Keep__rules, ?k_err, ?e_BadRounds, ?e_BadNight, ?e_BadNumber, ?e_BadRules, ?e_BadNights, ?e_Elder, ?e_Full, ?e_NotHeld, ?e_Pinned, ?e_NotPinned, ?e_BadState, ?e_BadPart, ?e_NotFit, ?e_IsWhole, ?e_BadPlan, ?e_Unlike, ?e_BadText, ?c_MOST_NIGHT, ?c_MOST_HELD, ?b_RuntimeError, ?b_all, ?b_bool, ?b_enumerate, ?b_int, ?b_isinstance, ?b_len, ?b_list, ?b_max, ?b_range, ?b_reversed, ?b_set, ?b_sorted, ?b_sum, ?b_tuple, ?b_zip⟩
    case d_is_number => (refine' Nk.df_mk (st := Nk.s_is_number) KX G (fun _ _ _ _ _ _ us hl => match us, hl with | [_, _, _], _ => rfl) ?a ?l ?c ?k; (case a => k_is); (case l => k_is); (case c => k_is); (case k => k_is))
    case d_is_rounds => (refine' Nk.df_mk (st := Nk.s_is_rounds) KX G (fun _ _ _ _ _ _ us hl => match us, hl with | [_], _ => rfl) ?a ?l ?c ?k; (case a => k_is); (case l => k_is); (case c => k_is); (case k => k_is))
    case d_look_night => (refine' Nk.df_mk (st := Nk.s_look_night) KX G (fun _ _ _ _ _ _ us hl => match us, hl with | [_], _ => rfl) ?a ?l ?c ?k; (case a => k_is); (case l => k_is); (case c => k_is); (case k => k_is))
    case d_number_of => (refine' Nk.df_mk (st := Nk.s_number_of) KX G (fun _ _ _ _ _ _ us hl => match us, hl with | [_, _], _ => rfl) ?a ?l ?c ?k; (case a => k_is); (case l => k_is); (case c => k_is); (case k => k_is))
    case d_first_of => (refine' Nk.df_mk (st := Nk.s_first_of) KX G (fun _ _ _ _ _ _ us hl => match us, hl with | [_, _], _ => rfl) ?a ?l ?c ?k; (case a => k_is); (case l => k_is); (case c => k_is); (case k => k_is))
    case d_is_rule => (refine' Nk.df_mk (st := Nk.s_is_rule) KX G (fun _ _ _ _ _ _ us hl => match us, hl with | [_], _ => rfl) ?a ?l ?c ?k; (case a => k_is); (case l => k_is); (case c => k_is); (case k => k_is))
    case d_look_rules => (refine' Nk.df_mk (st := Nk.s_look_rules) KX G (fun _ _ _ _ _ _ us hl => match us, hl with | [_], _ => rfl) ?a ?l ?c ?k; (case a => k_is); (case l => k_is); (case c => k_is); (case k => k_is))
    case d_look_nights => (refine' Nk.df_mk (st := Nk.s_look_nights) KX G (fun _ _ _ _ _ _ us hl => match us, hl with | [_], _ => rfl) ?a ?l ?c ?k; (case a => k_is); (case l => k_is); (case c => k_is); (case k => k_is))
    case d_kept_by => (refine' Nk.df_mk (st := Nk.s_kept_by) KX G (fun _ _ _ _ _ _ us hl => match us, hl with | [_, _], _ => rfl) ?a ?l ?c ?k; (case a => k_is); (case l => k_is); (case c => k_is); (case k => k_is))
    case d_kept_of => (refine' Nk.df_mk (st := Nk.s_kept_of) KX G (fun _ _ _ _ _ _ us hl => match us, hl with | [_, _], _ => rfl) ?a ?l ?c ?k; (case a => k_is); (case l => k_is); (case c => k_is); (case k => k_is))
    case d_look_taken => (refine' Nk.df_mk (st := Nk.s_look_taken) KX G (fun _ _ _ _ _ _ us hl => match us, hl with | [_, _], _ => rfl) ?a ?l ?c ?k; (case a => k_is); (case l => k_is); (case c => k_is); (case k => k_is))
    case d_look_held => (refine' Nk.df_mk (st := Nk.s_look_held) KX G (fun _ _ _ _ _ _ us hl => match us, hl with | [_, _], _ => rfl) ?a ?l ?c ?k; (case a => k_is); (case l => k_is); (case c => k_is); (case k => k_is))
    case d_gone_of => (refine' Nk.df_mk (st := Nk.s_gone_of) KX G (fun _ _ _ _ _ _ us hl => match us, hl with | [_], _ => rfl) ?a ?l ?c ?k; (case a => k_is); (case l => k_is); (case c => k_is); (case k => k_is))
    case d_stays_by => (refine' Nk.df_mk (st := Nk.s_stays_by) KX G (fun _ _ _ _ _ _ us hl => match us, hl with | [_, _, _, _], _ => rfl) ?a ?l ?c ?k; (case a => k_is); (case l => k_is); (case c => k_is); (case k => k_is))
    case d__law_town => (refine' Nk.df_mk (st := Nk.s__law_town) KX G (fun _ _ _ _ _ _ us hl => match us, hl with | [_], _ => rfl) ?a ?l ?c ?k; (case a => k_is); (case l => k_is); (case c => k_is); (case k => k_is))
    case d__law_draw => (refine' Nk.df_mk (st := Nk.s__law_draw) KX G (fun _ _ _ _ _ _ us hl => match us, hl with | [_, _, _], _ => rfl) ?a ?l ?c ?k; (case a => k_is); (case l => k_is); (case c => k_is); (case k => k_is))
    case d__law_pick => (refine' Nk.df_mk (st := Nk.s__law_pick) KX G (fun _ _ _ _ _ _ us hl => match us, hl with | [_, _, _], _ => rfl) ?a ?l ?c ?k; (case a => k_is); (case l => k_is); (case c => k_is); (case k => k_is))
    case d__law_word => (refine' Nk.df_mk (st := Nk.s__law_word) KX G (fun _ _ _ _ _ _ us hl => match us, hl with | [_], _ => rfl) ?a ?l ?c ?k; (case a => k_is); (case l => k_is); (case c => k_is); (case k => k_is))
    case d__law_refused => (refine' Nk.df_mk (st := Nk.s__law_refused) KX G (fun _ _ _ _ _ _ us hl => match us, hl with | [_], _ => rfl) ?a ?l ?c ?k; (case a => k_is); (case l => k_is); (case c => k_is); (case k => k_is))
    case d__law_told => (refine' Nk.df_mk (st := Nk.s__law_told) KX G (fun _ _ _ _ _ _ us hl => match us, hl with | [_, _], _ => rfl) ?a ?l ?c ?k; (case a => k_is); (case l => k_is); (case c => k_is); (case k => k_is))
    case d__law_whole => (refine' Nk.df_mk (st := Nk.s__law_whole) KX G (fun _ _ _ _ _ _ us hl => match us, hl with | [_], _ => rfl) ?a ?l ?c ?k; (case a => k_is); (case l => k_is); (case c => k_is); (case k => k_is))
    case d__law_wholes => (refine' Nk.df_mk (st := Nk.s__law_wholes) KX G (fun _ _ _ _ _ _ us hl => match us, hl with | [_], _ => rfl) ?a ?l ?c ?k; (case a => k_is); (case l => k_is); (case c => k_is); (case k => k_is))
    case d__law_rounds => (refine' Nk.df_mk (st := Nk.s__law_rounds) KX G (fun _ _ _ _ _ _ us hl => match us, hl with | [_, _, _, _], _ => rfl) ?a ?l ?c ?k; (case a => k_is); (case l => k_is); (case c => k_is); (case k => k_is))
    case d__law_spot => (refine' Nk.df_mk (st := Nk.s__law_spot) KX G (fun _ _ _ _ _ _ us hl => match us, hl with | [_, _], _ => rfl) ?a ?l ?c ?k; (case a => k_is); (case l => k_is); (case c => k_is); (case k => k_is))
    case d__law_rules => (refine' Nk.df_mk (st := Nk.s__law_rules) KX G (fun _ _ _ _ _ _ us hl => match us, hl with | [_, _, _, _, _, _], _ => rfl) ?a ?l ?c ?k; (case a => k_is); (case l => k_is); (case c => k_is); (case k => k_is))
    case d__law_nights => (refine' Nk.df_mk (st := Nk.s__law_nights) KX G (fun _ _ _ _ _ _ us hl => match us, hl with | [_, _, _, _], _ => rfl) ?a ?l ?c ?k; (case a => k_is); (case l => k_is); (case c => k_is); (case k => k_is))
    case d__law_by => (refine' Nk.df_mk (st := Nk.s__law_by) KX G (fun _ _ _ _ _ _ us hl => match us, hl with | [_, _], _ => rfl) ?a ?l ?c ?k; (case a => k_is); (case l => k_is); (case c => k_is); (case k => k_is))
    case d__law_kept => (refine' Nk.df_mk (st := Nk.s__law_kept) KX G (fun _ _ _ _ _ _ us hl => match us, hl with | [_, _], _ => rfl) ?a ?l ?c ?k; (case a => k_is); (case l => k_is); (case c => k_is); (case k => k_is))
    case d__law_model => (refine' Nk.df_mk (st := Nk.s__law_model) KX G (fun _ _ _ _ _ _ us hl => match us, hl with | [], _ => rfl) ?a ?l ?c ?k; (case a => k_is); (case l => k_is); (case c => k_is); (case k => k_is))
    case d__law_gone => (refine' Nk.df_mk (st := Nk.s__law_gone) KX G (fun _ _ _ _ _ _ us hl => match us, hl with | [_, _], _ => rfl) ?a ?l ?c ?k; (case a => k_is); (case l => k_is); (case c => k_is); (case k => k_is))
    case d__law_done => (refine' Nk.df_mk (st := Nk.s__law_done) KX G (fun _ _ _ _ _ _ us hl => match us, hl with | [_, _, _, _], _ => rfl) ?a ?l ?c ?k; (case a => k_is); (case l => k_is); (case c => k_is); (case k => k_is))
    case d__law_like => (refine' Nk.df_mk (st := Nk.s__law_like) KX G (fun _ _ _ _ _ _ us hl => match us, hl with | [_, _], _ => rfl) ?a ?l ?c ?k; (case a => k_is); (case l => k_is); (case c => k_is); (case k => k_is))
    case d__law_one => (refine' Nk.df_mk (st := Nk.s__law_one) KX G (fun _ _ _ _ _ _ us hl => match us, hl with | [_, _], _ => rfl) ?a ?l ?c ?k; (case a => k_is); (case l => k_is); (case c => k_is); (case k => k_is))
    case d__law_lasts => (refine' Nk.df_mk (st := Nk.s__law_lasts) KX G (fun _ _ _ _ _ _ us hl => match us, hl with | [_, _], _ => rfl) ?a ?l ?c ?k; (case a => k_is); (case l => k_is); (case c => k_is); (case k => k_is))
    case d_law => (refine' Nk.df_mk (st := Nk.s_law) KX G (fun _ _ _ _ _ _ us hl => match us, hl with | [_], _ => rfl) ?a ?l ?c ?k; (case a => k_is); (case l => k_is); (case c => k_is); (case k => k_is))
    case x_KeepError => (refine' Nk.xc_mk KX G ?a ?x ?k ?b ?t; (case a => k_is); (case x => k_exc); (case k => k_is); (case b => k_is); (case t => k_is))
    case x_BadRounds => (refine' Nk.xc_mk KX G ?a ?x ?k ?b ?t; (case a => k_is); (case x => k_exc); (case k => k_is); (case b => k_is); (case t => k_is))
    case x_BadNight => (refine' Nk.xc_mk KX G ?a ?x ?k ?b ?t; (case a => k_is); (case x => k_exc); (case k => k_is); (case b => k_is); (case t => k_is))
    case x_BadNumber => (refine' Nk.xc_mk KX G ?a ?x ?k ?b ?t; (case a => k_is); (case x => k_exc); (case k => k_is); (case b => k_is); (case t => k_is))
    case x_BadRules => (refine' Nk.xc_mk KX G ?a ?x ?k ?b ?t; (case a => k_is); (case x => k_exc); (case k => k_is); (case b => k_is); (case t => k_is))
    case x_BadNights => (refine' Nk.xc_mk KX G ?a ?x ?k ?b ?t; (case a => k_is); (case x => k_exc); (case k => k_is); (case b => k_is); (case t => k_is))
    case x_Full => (refine' Nk.xc_mk KX G ?a ?x ?k ?b ?t; (case a => k_is); (case x => k_exc); (case k => k_is); (case b => k_is); (case t => k_is))
    case x_NotHeld => (refine' Nk.xc_mk KX G ?a ?x ?k ?b ?t; (case a => k_is); (case x => k_exc); (case k => k_is); (case b => k_is); (case t => k_is))
    case x_Pinned => (refine' Nk.xc_mk KX G ?a ?x ?k ?b ?t; (case a => k_is); (case x => k_exc); (case k => k_is); (case b => k_is); (case t => k_is))
    case x_NotPinned => (refine' Nk.xc_mk KX G ?a ?x ?k ?b ?t; (case a => k_is); (case x => k_exc); (case k => k_is); (case b => k_is); (case t => k_is))
    case x_BadState => (refine' Nk.xc_mk KX G ?a ?x ?k ?b ?t; (case a => k_is); (case x => k_exc); (case k => k_is); (case b => k_is); (case t => k_is))
    case x_BadPart => (refine' Nk.xc_mk KX G ?a ?x ?k ?b ?t; (case a => k_is); (case x => k_exc); (case k => k_is); (case b => k_is); (case t => k_is))
    case x_NotFit => (refine' Nk.xc_mk KX G ?a ?x ?k ?b ?t; (case a => k_is); (case x => k_exc); (case k => k_is); (case b => k_is); (case t => k_is))
    case x_IsWhole => (refine' Nk.xc_mk KX G ?a ?x ?k ?b ?t; (case a => k_is); (case x => k_exc); (case k => k_is); (case b => k_is); (case t => k_is))
    case x_BadPlan => (refine' Nk.xc_mk KX G ?a ?x ?k ?b ?t; (case a => k_is); (case x => k_exc); (case k => k_is); (case b => k_is); (case t => k_is))
    case x_Unlike => (refine' Nk.xc_mk KX G ?a ?x ?k ?b ?t; (case a => k_is); (case x => k_exc); (case k => k_is); (case b => k_is); (case t => k_is))
    case x_BadText => (refine' Nk.xc_mk KX G ?a ?x ?k ?b ?t; (case a => k_is); (case x => k_exc); (case k => k_is); (case b => k_is); (case t => k_is))
    case y_Elder => (refine' Nk.eo_mk (st := Nk.s_Elder____init__) KX G (fun _ _ _ _ _ _ us hl => match us, hl with | [_, _], _ => rfl) ?aC ?lC ?sa ?ex ?ty ?kC ?na ?ai ?ti ?li ?cc ?ki; (case aC => k_is); (case lC => k_is); (case sa => k_is); (case ex => k_is); (case ty => k_is); (case kC => k_is); (case na => k_is); (case ai => k_is); (case ti => k_is); (case li => k_is); (case cc => k_is); (case ki => k_is))
    case o_Keep => (refine' Nk.oc_mk KX G ?aC ?pg ?hd ?po ?sa ?mk ?kc; (case aC => k_is); (case pg => k_is); (case hd => k_is); (case po => k_is); (case sa => k_is); (case mk => k_is); (case kc => k_is))
    case m_Keep____init__ => (refine' Nk.md_mk (st := Nk.s_Keep____init__) KX G (fun _ _ _ _ _ _ us hl => match us, hl with | [_, _], _ => rfl) ?aC ?ai ?ii ?li ?cc ?ki; (case aC => k_is); (case ai => k_is); (case ii => k_is); (case li => k_is); (case cc => k_is); (case ki => k_is))
    case m_Keep____len__ => (refine' Nk.md_mk (st := Nk.s_Keep____len__) KX G (fun _ _ _ _ _ _ us hl => match us, hl with | [_], _ => rfl) ?aC ?ai ?ii ?li ?cc ?ki; (case aC => k_is); (case ai => k_is); (case ii => k_is); (case li => k_is); (case cc => k_is); (case ki => k_is))
    case m_Keep__take => (refine' Nk.md_mk (st := Nk.s_Keep__take) KX G (fun _ _ _ _ _ _ us hl => match us, hl with | [_, _], _ => rfl) ?aC ?ai ?ii ?li ?cc ?ki; (case aC => k_is); (case ai => k_is); (case ii => k_is); (case li => k_is); (case cc => k_is); (case ki => k_is))
    case m_Keep__let_go => (refine' Nk.md_mk (st := Nk.s_Keep__let_go) KX G (fun _ _ _ _ _ _ us hl => match us, hl with | [_], _ => rfl) ?aC ?ai ?ii ?li ?cc ?ki; (case aC => k_is); (case ai => k_is); (case ii => k_is); (case li => k_is); (case cc => k_is); (case ki => k_is))
    case m_Keep__pin => (refine' Nk.md_mk (st := Nk.s_Keep__pin) KX G (fun _ _ _ _ _ _ us hl => match us, hl with | [_, _], _ => rfl) ?aC ?ai ?ii ?li ?cc ?ki; (case aC => k_is); (case ai => k_is); (case ii => k_is); (case li => k_is); (case cc => k_is); (case ki => k_is))
    case m_Keep__unpin => (refine' Nk.md_mk (st := Nk.s_Keep__unpin) KX G (fun _ _ _ _ _ _ us hl => match us, hl with | [_, _], _ => rfl) ?aC ?ai ?ii ?li ?cc ?ki; (case aC => k_is); (case ai => k_is); (case ii => k_is); (case li => k_is); (case cc => k_is); (case ki => k_is))
    case m_Keep__held => (refine' Nk.md_mk (st := Nk.s_Keep__held) KX G (fun _ _ _ _ _ _ us hl => match us, hl with | [_], _ => rfl) ?aC ?ai ?ii ?li ?cc ?ki; (case aC => k_is); (case ai => k_is); (case ii => k_is); (case li => k_is); (case cc => k_is); (case ki => k_is))
    case m_Keep__pins => (refine' Nk.md_mk (st := Nk.s_Keep__pins) KX G (fun _ _ _ _ _ _ us hl => match us, hl with | [_], _ => rfl) ?aC ?ai ?ii ?li ?cc ?ki; (case aC => k_is); (case ai => k_is); (case ii => k_is); (case li => k_is); (case cc => k_is); (case ki => k_is))
    case m_Keep__stays => (refine' Nk.md_mk (st := Nk.s_Keep__stays) KX G (fun _ _ _ _ _ _ us hl => match us, hl with | [_, _], _ => rfl) ?aC ?ai ?ii ?li ?cc ?ki; (case aC => k_is); (case ai => k_is); (case ii => k_is); (case li => k_is); (case cc => k_is); (case ki => k_is))
    case m_Keep__ahead => (refine' Nk.md_mk (st := Nk.s_Keep__ahead) KX G (fun _ _ _ _ _ _ us hl => match us, hl with | [_, _], _ => rfl) ?aC ?ai ?ii ?li ?cc ?ki; (case aC => k_is); (case ai => k_is); (case ii => k_is); (case li => k_is); (case cc => k_is); (case ki => k_is))
    case n_Keep__last => (refine' Nk.na_mk KX G ?aC ?n; (case aC => k_is); (case n => k_is))
    case n_Keep__nights => (refine' Nk.na_mk KX G ?aC ?n; (case aC => k_is); (case n => k_is))
    case n_Keep__pinned => (refine' Nk.na_mk KX G ?aC ?n; (case aC => k_is); (case n => k_is))
    case n_Keep__rules => (refine' Nk.na_mk KX G ?aC ?n; (case aC => k_is); (case n => k_is))
    case k_err => (refine' Nk.kc_mk KX G ?a ?l ?t ?d; (case a => k_is); (case l => k_is); (case t => k_is); (case d => k_is))
    case e_BadRounds => (refine' Nk.ec_mk KX G ?k ?a ?l ?t ?d ?h1 ?h2 ?h3 ?h4 ?h5; (case k => k_is); (case a => k_is); (case l => k_is); (case t => k_is); (case d => k_is); (case h1 => k_is); (case h2 => k_is); (case h3 => k_is); (case h4 => k_is); (case h5 => k_is))
    case e_BadNight => (refine' Nk.ec_mk KX G ?k ?a ?l ?t ?d ?h1 ?h2 ?h3 ?h4 ?h5; (case k => k_is); (case a => k_is); (case l => k_is); (case t => k_is); (case d => k_is); (case h1 => k_is); (case h2 => k_is); (case h3 => k_is); (case h4 => k_is); (case h5 => k_is))
    case e_BadNumber => (refine' Nk.ec_mk KX G ?k ?a ?l ?t ?d ?h1 ?h2 ?h3 ?h4 ?h5; (case k => k_is); (case a => k_is); (case l => k_is); (case t => k_is); (case d => k_is); (case h1 => k_is); (case h2 => k_is); (case h3 => k_is); (case h4 => k_is); (case h5 => k_is))
    case e_BadRules => (refine' Nk.ec_mk KX G ?k ?a ?l ?t ?d ?h1 ?h2 ?h3 ?h4 ?h5; (case k => k_is); (case a => k_is); (case l => k_is); (case t => k_is); (case d => k_is); (case h1 => k_is); (case h2 => k_is); (case h3 => k_is); (case h4 => k_is); (case h5 => k_is))
    case e_BadNights => (refine' Nk.ec_mk KX G ?k ?a ?l ?t ?d ?h1 ?h2 ?h3 ?h4 ?h5; (case k => k_is); (case a => k_is); (case l => k_is); (case t => k_is); (case d => k_is); (case h1 => k_is); (case h2 => k_is); (case h3 => k_is); (case h4 => k_is); (case h5 => k_is))
    case e_Elder => (refine' Nk.ec_mk KX G ?k ?a ?l ?t ?d ?h1 ?h2 ?h3 ?h4 ?h5; (case k => k_is); (case a => k_is); (case l => k_is); (case t => k_is); (case d => k_is); (case h1 => k_is); (case h2 => k_is); (case h3 => k_is); (case h4 => k_is); (case h5 => k_is))
    case e_Full => (refine' Nk.ec_mk KX G ?k ?a ?l ?t ?d ?h1 ?h2 ?h3 ?h4 ?h5; (case k => k_is); (case a => k_is); (case l => k_is); (case t => k_is); (case d => k_is); (case h1 => k_is); (case h2 => k_is); (case h3 => k_is); (case h4 => k_is); (case h5 => k_is))
    case e_NotHeld => (refine' Nk.ec_mk KX G ?k ?a ?l ?t ?d ?h1 ?h2 ?h3 ?h4 ?h5; (case k => k_is); (case a => k_is); (case l => k_is); (case t => k_is); (case d => k_is); (case h1 => k_is); (case h2 => k_is); (case h3 => k_is); (case h4 => k_is); (case h5 => k_is))
    case e_Pinned => (refine' Nk.ec_mk KX G ?k ?a ?l ?t ?d ?h1 ?h2 ?h3 ?h4 ?h5; (case k => k_is); (case a => k_is); (case l => k_is); (case t => k_is); (case d => k_is); (case h1 => k_is); (case h2 => k_is); (case h3 => k_is); (case h4 => k_is); (case h5 => k_is))
    case e_NotPinned => (refine' Nk.ec_mk KX G ?k ?a ?l ?t ?d ?h1 ?h2 ?h3 ?h4 ?h5; (case k => k_is); (case a => k_is); (case l => k_is); (case t => k_is); (case d => k_is); (case h1 => k_is); (case h2 => k_is); (case h3 => k_is); (case h4 => k_is); (case h5 => k_is))
    case e_BadState => (refine' Nk.ec_mk KX G ?k ?a ?l ?t ?d ?h1 ?h2 ?h3 ?h4 ?h5; (case k => k_is); (case a => k_is); (case l => k_is); (case t => k_is); (case d => k_is); (case h1 => k_is); (case h2 => k_is); (case h3 => k_is); (case h4 => k_is); (case h5 => k_is))
    case e_BadPart => (refine' Nk.ec_mk KX G ?k ?a ?l ?t ?d ?h1 ?h2 ?h3 ?h4 ?h5; (case k => k_is); (case a => k_is); (case l => k_is); (case t => k_is); (case d => k_is); (case h1 => k_is); (case h2 => k_is); (case h3 => k_is); (case h4 => k_is); (case h5 => k_is))
    case e_NotFit => (refine' Nk.ec_mk KX G ?k ?a ?l ?t ?d ?h1 ?h2 ?h3 ?h4 ?h5; (case k => k_is); (case a => k_is); (case l => k_is); (case t => k_is); (case d => k_is); (case h1 => k_is); (case h2 => k_is); (case h3 => k_is); (case h4 => k_is); (case h5 => k_is))
    case e_IsWhole => (refine' Nk.ec_mk KX G ?k ?a ?l ?t ?d ?h1 ?h2 ?h3 ?h4 ?h5; (case k => k_is); (case a => k_is); (case l => k_is); (case t => k_is); (case d => k_is); (case h1 => k_is); (case h2 => k_is); (case h3 => k_is); (case h4 => k_is); (case h5 => k_is))
    case e_BadPlan => (refine' Nk.ec_mk KX G ?k ?a ?l ?t ?d ?h1 ?h2 ?h3 ?h4 ?h5; (case k => k_is); (case a => k_is); (case l => k_is); (case t => k_is); (case d => k_is); (case h1 => k_is); (case h2 => k_is); (case h3 => k_is); (case h4 => k_is); (case h5 => k_is))
    case e_Unlike => (refine' Nk.ec_mk KX G ?k ?a ?l ?t ?d ?h1 ?h2 ?h3 ?h4 ?h5; (case k => k_is); (case a => k_is); (case l => k_is); (case t => k_is); (case d => k_is); (case h1 => k_is); (case h2 => k_is); (case h3 => k_is); (case h4 => k_is); (case h5 => k_is))
    case e_BadText => (refine' Nk.ec_mk KX G ?k ?a ?l ?t ?d ?h1 ?h2 ?h3 ?h4 ?h5; (case k => k_is); (case a => k_is); (case l => k_is); (case t => k_is); (case d => k_is); (case h1 => k_is); (case h2 => k_is); (case h3 => k_is); (case h4 => k_is); (case h5 => k_is))
    case c_MOST_NIGHT => (refine' Nk.ci_mk KX G ?a; (case a => k_is))
    case c_MOST_HELD => (refine' Nk.ci_mk KX G ?a; (case a => k_is))
    case b_RuntimeError => (refine' PySem.W.mg_none_of KX G ?a; (case a => k_is))
    case b_all => (refine' PySem.W.mg_none_of KX G ?a; (case a => k_is))
    case b_bool => (refine' PySem.W.mg_none_of KX G ?a; (case a => k_is))
    case b_enumerate => (refine' PySem.W.mg_none_of KX G ?a; (case a => k_is))
    case b_int => (refine' PySem.W.mg_none_of KX G ?a; (case a => k_is))
    case b_isinstance => (refine' PySem.W.mg_none_of KX G ?a; (case a => k_is))
    case b_len => (refine' PySem.W.mg_none_of KX G ?a; (case a => k_is))
    case b_list => (refine' PySem.W.mg_none_of KX G ?a; (case a => k_is))
    case b_max => (refine' PySem.W.mg_none_of KX G ?a; (case a => k_is))
    case b_range => (refine' PySem.W.mg_none_of KX G ?a; (case a => k_is))
    case b_reversed => (refine' PySem.W.mg_none_of KX G ?a; (case a => k_is))
    case b_set => (refine' PySem.W.mg_none_of KX G ?a; (case a => k_is))
    case b_sorted => (refine' PySem.W.mg_none_of KX G ?a; (case a => k_is))
    case b_sum => (refine' PySem.W.mg_none_of KX G ?a; (case a => k_is))
    case b_tuple => (refine' PySem.W.mg_none_of KX G ?a; (case a => k_is))
    case b_zip => (refine' PySem.W.mg_none_of KX G ?a; (case a => k_is))
