import PyProof.Rows.All
import Wide.All
import OpenK.AllK
import Wide.FinOn
import HandS.ForMost
import HandS.ForExc
import HandS.IsInst
import HandS.Wide
import HandS.SortInts
import HandS.Zip
import HandS.Walk
import HandS.Evl
import HandS.More
import HandS.Conv
import HandS.ExcIs
import HandS.ExcField
import HandS.ExcInit
import HandS.Sort
import HandS.SetFor
import HandS.TupMul
import HandS.Strs
import KE.KDictSum
import KE.KTupSum
import KE.KExcIs
import PySem.Challenge.RW_nightkeep_k27_full
set_option Elab.async false
set_option linter.all false
set_option maxRecDepth 100000
set_option maxHeartbeats 4000000
/-! ### rounds: plain mathematics -/
namespace Nk
def pre (rs : List Int) (j : Nat) : Int := (rs.take j).sum
def walkR : List Int → Int → Int → Int
  | [], _, found => found
  | r :: rs, left, found => if left < r then found else walkR rs (left - r) (found + 1)
def numOf (rs : List Int) (n : Int) : Int := walkR rs (n % rs.sum) (n / rs.sum * rs.length)
def firstOf (rs : List Int) (k : Int) : Int := k / rs.length * rs.sum + pre rs (k % rs.length).toNat
/-- lengths: at least one, each at least 1 -/
structure Rnds (rs : List Int) : Prop where
  ne : rs ≠ []
  pos : ∀ r ∈ rs, 1 ≤ r
theorem pre_zero (rs : List Int) : pre rs 0 = 0 := by simp [pre]
theorem pre_cons (r : Int) (rs : List Int) (j : Nat) : pre (r :: rs) (j + 1) = r + pre rs j := by simp [pre]
theorem pre_len (rs : List Int) : pre rs rs.length = rs.sum := by simp [pre]
theorem pre_step : ∀ {rs : List Int} {j : Nat} {r : Int}, rs[j]? = some r → pre rs (j + 1) = pre rs j + r
  | [], _, _, h => by simp at h
  | a :: rs, 0, r, h => by
    have e : a = r := by simpa using h
    subst e
    rw [pre_cons, pre_zero, pre_zero]; omega
  | a :: rs, j + 1, r, h => by
    have ih := pre_step (rs := rs) (j := j) (r := r) (by simpa using h)
    rw [pre_cons, pre_cons, ih]; omega
theorem pre_mono {rs : List Int} (hp : ∀ r ∈ rs, 1 ≤ r) : ∀ {i j : Nat}, i ≤ j → j ≤ rs.length → pre rs i + ((j : Int) - (i : Int)) ≤ pre rs j := by
  intro i j hij hj
  induction j with
  | zero =>
    have : i = 0 := by omega
    subst this; simp
  | succ j ih =>
    by_cases h : i = j + 1
    · subst h; simp
    · have h1 := ih (by omega) (by omega)
      have hlt : j < rs.length := by omega
      have e := pre_step (List.getElem?_eq_getElem hlt)
      have p := hp _ (List.getElem_mem hlt)
      rw [e]
      omega
theorem pre_nonneg {rs : List Int} (hp : ∀ r ∈ rs, 1 ≤ r) {j : Nat} (hj : j ≤ rs.length) : (j : Int) ≤ pre rs j := by
  have := pre_mono hp (Nat.zero_le j) hj
  rw [pre_zero] at this
  omega
theorem sum_ge {rs : List Int} (hp : ∀ r ∈ rs, 1 ≤ r) : (rs.length : Int) ≤ rs.sum := by
  have := pre_nonneg hp (Nat.le_refl rs.length)
  rw [pre_len] at this
  exact this
theorem Rnds.len {rs : List Int} (h : Rnds rs) : 0 < rs.length := List.length_pos_iff.mpr h.ne
theorem Rnds.sum {rs : List Int} (h : Rnds rs) : 0 < rs.sum := by
  have := sum_ge h.pos
  have := h.len
  omega
theorem walkR_spec : ∀ (rs : List Int) (left found : Int), 0 ≤ left → left < rs.sum → ∃ j : Nat, j < rs.length ∧ walkR rs left found = found + j ∧ pre rs j ≤ left ∧ left < pre rs (j + 1)
  | [], left, found, h0, h1 => by simp at h1; omega
  | r :: rs, left, found, h0, h1 => by
    unfold walkR
    by_cases c : left < r
    · refine ⟨0, by simp, by simp [c], ?_, ?_⟩
      · rw [pre_zero]; exact h0
      · rw [pre_cons, pre_zero]; omega
    · rw [if_neg c]
      obtain ⟨j, hj, e, h2, h3⟩ := walkR_spec rs (left - r) (found + 1) (by omega) (by rw [List.sum_cons] at h1; omega)
      refine ⟨j + 1, by simp; omega, ?_, ?_, ?_⟩
      · rw [e]; push_cast; omega
      · rw [pre_cons]; omega
      · rw [pre_cons]; omega
theorem pre_uniq {rs : List Int} (hp : ∀ r ∈ rs, 1 ≤ r) {i j : Nat} (hi : i < rs.length) (hj : j < rs.length) {x : Int} (h1 : pre rs i ≤ x) (h2 : x < pre rs (i + 1)) (h3 : pre rs j ≤ x) (h4 : x < pre rs (j + 1)) : i = j := by
  by_cases h : i < j
  · have := pre_mono hp (i := i + 1) (j := j) (by omega) (by omega)
    omega
  · by_cases h' : j < i
    · have := pre_mono hp (i := j + 1) (j := i) (by omega) (by omega)
      omega
    · omega
theorem emod_nat {k : Int} {n : Nat} (h : 0 < n) : ∃ j : Nat, j < n ∧ k % (n : Int) = (j : Int) ∧ (j : Int) + (n : Int) * (k / (n : Int)) = k := by
  have h0 := Int.emod_nonneg k (show (n : Int) ≠ 0 by omega)
  have h1 := Int.emod_lt_of_pos k (show (0 : Int) < n by omega)
  have h2 := Int.emod_add_mul_ediv k (n : Int)
  exact ⟨(k % n).toNat, by omega, by omega, by omega⟩
/-- a round, by its place in the turn -/
theorem firstOf_at {rs : List Int} (h : Rnds rs) (q : Int) {j : Nat} (hj : j ≤ rs.length) : firstOf rs (q * rs.length + j) = q * rs.sum + pre rs j := by
  have hl := h.len
  unfold firstOf
  by_cases e : j = rs.length
  · have h1 : (q * (rs.length : Int) + (j : Int)) / (rs.length : Int) = q + 1 ∧ (q * (rs.length : Int) + (j : Int)) % (rs.length : Int) = 0 := by
      rw [Int.ediv_emod_unique (by omega)]
      refine ⟨?_, by omega, by omega⟩
      rw [e, Int.mul_add, Int.mul_comm q]; omega
    rw [h1.1, h1.2, e, pre_len]
    show (q + 1) * rs.sum + pre rs (Int.toNat 0) = _
    rw [show Int.toNat 0 = 0 from rfl, pre_zero, Int.add_mul]
    omega
  · have h1 : (q * (rs.length : Int) + (j : Int)) / (rs.length : Int) = q ∧ (q * (rs.length : Int) + (j : Int)) % (rs.length : Int) = (j : Int) := by
      rw [Int.ediv_emod_unique (by omega)]
      refine ⟨?_, by omega, by omega⟩
      rw [Int.mul_comm q]; omega
    rw [h1.1, h1.2]
    simp
theorem firstOf_step {rs : List Int} (h : Rnds rs) (k : Int) {r : Int} (hr : rs[(k % rs.length).toNat]? = some r) : firstOf rs (k + 1) = firstOf rs k + r := by
  obtain ⟨j, hj, e, f⟩ := emod_nat (k := k) h.len
  rw [e] at hr
  have hr' : rs[j]? = some r := by simpa using hr
  have e1 : k = (k / rs.length) * rs.length + j := by rw [Int.mul_comm]; omega
  have a1 := firstOf_at h (k / rs.length) (Nat.le_of_lt hj)
  have a2 := firstOf_at h (k / rs.length) (Nat.succ_le_of_lt hj)
  rw [← e1] at a1
  have e2 : k / (rs.length : Int) * (rs.length : Int) + ((Nat.succ j : Nat) : Int) = k + 1 := by push_cast; omega
  rw [e2] at a2
  rw [a1, a2]
  show _ + pre rs (j + 1) = _
  rw [pre_step hr']
  omega
theorem get_round {rs : List Int} (h : Rnds rs) (k : Int) : ∃ r, rs[(k % rs.length).toNat]? = some r ∧ 1 ≤ r ∧ r ∈ rs := by
  obtain ⟨j, hj, e, f⟩ := emod_nat (k := k) h.len
  refine ⟨rs[j], ?_, h.pos _ (List.getElem_mem hj), List.getElem_mem hj⟩
  rw [e]
  simpa using List.getElem?_eq_getElem hj
theorem firstOf_lt {rs : List Int} (h : Rnds rs) (k : Int) : firstOf rs k + 1 ≤ firstOf rs (k + 1) := by
  obtain ⟨r, h1, h2, _⟩ := get_round h k
  rw [firstOf_step h k h1]
  omega
theorem firstOf_zero {rs : List Int} (h : Rnds rs) : firstOf rs 0 = 0 := by
  have := firstOf_at h 0 (Nat.zero_le rs.length)
  simp [pre_zero] at this
  exact this
/-- a night between a round's ends lies in it -/
theorem numOf_of {rs : List Int} (h : Rnds rs) {k m : Int} (h1 : firstOf rs k ≤ m) (h2 : m < firstOf rs (k + 1)) : numOf rs m = k := by
  obtain ⟨j, hj, e, f⟩ := emod_nat (k := k) h.len
  have e1 : k = (k / rs.length) * rs.length + j := by rw [Int.mul_comm]; omega
  have a1 := firstOf_at h (k / rs.length) (Nat.le_of_lt hj)
  have a2 := firstOf_at h (k / rs.length) (Nat.succ_le_of_lt hj)
  rw [← e1] at a1
  have e2 : k / (rs.length : Int) * (rs.length : Int) + ((Nat.succ j : Nat) : Int) = k + 1 := by push_cast; omega
  rw [e2] at a2
  rw [a1] at h1
  rw [a2] at h2
  have b0 := pre_nonneg h.pos (Nat.le_of_lt hj)
  have b1 := pre_mono h.pos (i := j + 1) (j := rs.length) (by omega) (Nat.le_refl _)
  rw [pre_len] at b1
  have h2' : m < k / (rs.length : Int) * rs.sum + pre rs (j + 1) := h2
  have h3 : m / rs.sum = k / rs.length ∧ m % rs.sum = m - (k / rs.length) * rs.sum := by
    rw [Int.ediv_emod_unique h.sum]
    refine ⟨by rw [Int.mul_comm rs.sum]; omega, by omega, by omega⟩
  unfold numOf
  rw [h3.1, h3.2]
  obtain ⟨i, hi, w, p1, p2⟩ := walkR_spec rs (m - k / ↑rs.length * rs.sum) (k / ↑rs.length * ↑rs.length) (by omega) (by omega)
  rw [w]
  have : i = j := pre_uniq h.pos hi hj p1 p2 (by omega) (by omega)
  subst this
  omega
/-- each night lies between the ends of its round -/
theorem numOf_spec {rs : List Int} (h : Rnds rs) (m : Int) : firstOf rs (numOf rs m) ≤ m ∧ m < firstOf rs (numOf rs m + 1) := by
  have hs := h.sum
  obtain ⟨i, hi, w, p1, p2⟩ := walkR_spec rs (m % rs.sum) (m / rs.sum * rs.length) (Int.emod_nonneg m (by omega)) (Int.emod_lt_of_pos m hs)
  have hm := Int.emod_add_mul_ediv m rs.sum
  have e : numOf rs m = m / rs.sum * rs.length + i := w
  have a1 := firstOf_at h (m / rs.sum) (Nat.le_of_lt hi)
  have a2 := firstOf_at h (m / rs.sum) (Nat.succ_le_of_lt hi)
  have e2 : m / rs.sum * (rs.length : Int) + ((Nat.succ i : Nat) : Int) = numOf rs m + 1 := by rw [e]; push_cast; omega
  rw [← e] at a1
  rw [e2] at a2
  rw [a1, a2]
  have c := Int.mul_comm rs.sum (m / rs.sum)
  refine ⟨by omega, ?_⟩
  show m < m / rs.sum * rs.sum + pre rs (i + 1)
  omega
theorem firstOf_mono {rs : List Int} (h : Rnds rs) (i : Int) : ∀ d : Nat, firstOf rs i + d ≤ firstOf rs (i + d)
  | 0 => by simp
  | d + 1 => by
    have h1 := firstOf_mono h i d
    have h2 := firstOf_lt h (i + d)
    push_cast
    rw [Int.add_assoc i d 1] at h2
    omega
theorem firstOf_le {rs : List Int} (h : Rnds rs) {i j : Int} (hij : i ≤ j) : firstOf rs i + (j - i) ≤ firstOf rs j := by
  have := firstOf_mono h i (j - i).toNat
  rw [show i + ((j - i).toNat : Int) = j by omega] at this
  omega
theorem firstOf_pos {rs : List Int} (h : Rnds rs) {k : Int} (hk : 0 ≤ k) : k ≤ firstOf rs k := by
  have := firstOf_le h hk
  rw [firstOf_zero h] at this
  omega
theorem numOf_nonneg {rs : List Int} (h : Rnds rs) {n : Int} (hn : 0 ≤ n) : 0 ≤ numOf rs n := by
  have h2 := (numOf_spec h n).2
  by_cases c : 0 ≤ numOf rs n
  · exact c
  · have := firstOf_le h (i := numOf rs n + 1) (j := 0) (by omega)
    rw [firstOf_zero h] at this
    omega
theorem numOf_le {rs : List Int} (h : Rnds rs) {n : Int} (hn : 0 ≤ n) : numOf rs n ≤ n := by
  have h1 := (numOf_spec h n).1
  have h2 := firstOf_pos h (numOf_nonneg h hn)
  omega
/-- later nights lie in no earlier rounds -/
theorem numOf_mono {rs : List Int} (h : Rnds rs) {m n : Int} (hmn : m ≤ n) : numOf rs m ≤ numOf rs n := by
  have h1 := (numOf_spec h m).1
  have h2 := (numOf_spec h n).2
  by_cases c : numOf rs m ≤ numOf rs n
  · exact c
  · have := firstOf_le h (i := numOf rs n + 1) (j := numOf rs m) (by omega)
    omega
/-- a whole turn later -/
theorem firstOf_turn {rs : List Int} (h : Rnds rs) (k : Int) : firstOf rs (k + rs.length) = firstOf rs k + rs.sum := by
  obtain ⟨j, hj, e, f⟩ := emod_nat (k := k) h.len
  have e1 : k = (k / rs.length) * rs.length + j := by rw [Int.mul_comm]; omega
  have a1 := firstOf_at h (k / rs.length) (Nat.le_of_lt hj)
  have a2 := firstOf_at h (k / rs.length + 1) (Nat.le_of_lt hj)
  rw [← e1] at a1
  have e2 : (k / rs.length + 1) * (rs.length : Int) + (j : Int) = k + rs.length := by rw [Int.add_mul]; omega
  rw [e2] at a2
  rw [a1, a2, Int.add_mul]
  omega
theorem numOf_turn {rs : List Int} (h : Rnds rs) (n : Int) : numOf rs (n + rs.sum) = numOf rs n + rs.length := by
  obtain ⟨h1, h2⟩ := numOf_spec h n
  have a1 := firstOf_turn h (numOf rs n)
  have a2 := firstOf_turn h (numOf rs n + 1)
  refine numOf_of h (by omega) ?_
  rw [show numOf rs n + (rs.length : Int) + 1 = numOf rs n + 1 + rs.length by omega]
  omega
theorem firstOf_ge {rs : List Int} (h : Rnds rs) : ∀ k : Nat, (k : Int) ≤ firstOf rs k
  | 0 => by rw [show ((0 : Nat) : Int) = 0 from rfl, firstOf_zero h]; omega
  | k + 1 => by
    have h1 := firstOf_ge h k
    have h2 := firstOf_lt h k
    push_cast
    omega
end Nk
/-! ### what rules keep: plain mathematics -/
namespace Nk
/-- going back through nights: those whose round is another one than that of the night gone through just before -/
def endsR (rs : List Int) : Option Int → List Int → List Int
  | _, [] => []
  | ah, n :: l => if ah = some (numOf rs n) then endsR rs (some (numOf rs n)) l else n :: endsR rs (some (numOf rs n)) l
def lastN (rs : List Int) (ah : Option Int) (l : List Int) : Option Int := match l.getLast? with
  | some n => some (numOf rs n)
  | none => ah
theorem lastN_cons (rs : List Int) (ah : Option Int) (n : Int) (l : List Int) : lastN rs ah (n :: l) = lastN rs (some (numOf rs n)) l := by
  unfold lastN
  cases l with
  | nil => rfl
  | cons m r => rw [List.getLast?_cons_cons]; cases h : (m :: r).getLast? <;> simp_all
theorem endsR_snoc (rs : List Int) : ∀ (l : List Int) (ah : Option Int) (n : Int), endsR rs ah (l ++ [n]) = endsR rs ah l ++ (if lastN rs ah l = some (numOf rs n) then [] else [n])
  | [], ah, n => by
    by_cases h : ah = some (numOf rs n) <;> simp [endsR, lastN, h]
  | m :: l, ah, n => by
    rw [lastN_cons]
    simp only [List.cons_append, endsR]
    rw [endsR_snoc rs l]
    split <;> simp
theorem lastN_snoc (rs : List Int) (ah : Option Int) (l : List Int) (n : Int) : lastN rs ah (l ++ [n]) = some (numOf rs n) := by
  simp [lastN]
/-- the last nights of the rounds, rising -/
def endsF (rs : List Int) : List Int → List Int
  | [] => []
  | [n] => [n]
  | n :: m :: l => if numOf rs n = numOf rs m then endsF rs (m :: l) else n :: endsF rs (m :: l)
theorem endsF_eq (rs : List Int) : ∀ ns : List Int, endsF rs ns = (endsR rs none ns.reverse).reverse
  | [] => rfl
  | [n] => by simp [endsF, endsR]
  | n :: m :: l => by
    rw [List.reverse_cons, endsR_snoc]
    have h : lastN rs none (m :: l).reverse = some (numOf rs m) := by simp [lastN]
    rw [h, List.reverse_append, ← endsF_eq rs (m :: l)]
    simp only [endsF, Option.some.injEq]
    by_cases e : numOf rs n = numOf rs m
    · rw [if_pos e, if_pos e.symm]; rfl
    · rw [if_neg e, if_neg (fun z => e z.symm)]; rfl
/-- what one rule keeps, the last one first -/
def keptBy (ru : List Int × Int) (ns : List Int) : List Int := (endsR ru.1 none ns.reverse).take ru.2.toNat
/-- .. rising -/
def keptUp (ru : List Int × Int) (ns : List Int) : List Int := (endsF ru.1 ns).drop ((endsF ru.1 ns).length - ru.2.toNat)
theorem keptUp_eq (ru : List Int × Int) (ns : List Int) : keptUp ru ns = (keptBy ru ns).reverse := by
  unfold keptUp keptBy
  rw [endsF_eq, List.length_reverse, List.reverse_take]
theorem endsR_sub (rs : List Int) : ∀ (l : List Int) (ah : Option Int), ∀ n ∈ endsR rs ah l, n ∈ l
  | [], _, n, h => by simp [endsR] at h
  | m :: l, ah, n, h => by
    simp only [endsR] at h
    split at h
    · exact List.mem_cons_of_mem _ (endsR_sub rs l _ n h)
    · rcases List.mem_cons.mp h with e | h
      · rw [e]; exact List.mem_cons_self
      · exact List.mem_cons_of_mem _ (endsR_sub rs l _ n h)
theorem keptBy_sub {ru : List Int × Int} {ns : List Int} {n : Int} (h : n ∈ keptBy ru ns) : n ∈ ns := by
  have := endsR_sub ru.1 _ _ n (List.mem_of_mem_take h)
  simpa using this
theorem mem_keptUp {ru : List Int × Int} {ns : List Int} {n : Int} : n ∈ keptUp ru ns ↔ n ∈ keptBy ru ns := by
  rw [keptUp_eq, List.mem_reverse]
/-- what rules keep, rising -/
def keptF (rules : List (List Int × Int)) (ns : List Int) : List Int := ns.filter fun n => rules.any fun ru => decide (n ∈ keptBy ru ns)
theorem mem_keptF {rules : List (List Int × Int)} {ns : List Int} {n : Int} : n ∈ keptF rules ns ↔ ∃ ru ∈ rules, n ∈ keptBy ru ns := by
  unfold keptF
  rw [List.mem_filter, List.any_eq_true]
  constructor
  · rintro ⟨_, ru, h1, h2⟩
    exact ⟨ru, h1, of_decide_eq_true h2⟩
  · rintro ⟨ru, h1, h2⟩
    exact ⟨keptBy_sub h2, ru, h1, decide_eq_true h2⟩
theorem keptF_rise {rules : List (List Int × Int)} {ns : List Int} (h : ns.Pairwise (· < ·)) : (keptF rules ns).Pairwise (· < ·) := h.filter _
/-- two rising lists with the same members are one -/
theorem rise_ext : ∀ {l m : List Int}, l.Pairwise (· < ·) → m.Pairwise (· < ·) → (∀ x, x ∈ l ↔ x ∈ m) → l = m
  | [], [], _, _, _ => rfl
  | [], y :: m, _, _, h => absurd ((h y).mpr List.mem_cons_self) (by simp)
  | x :: l, [], _, _, h => absurd ((h x).mp List.mem_cons_self) (by simp)
  | x :: l, y :: m, hl, hm, h => by
    obtain ⟨hx, hl'⟩ := List.pairwise_cons.mp hl
    obtain ⟨hy, hm'⟩ := List.pairwise_cons.mp hm
    have e : x = y := by
      rcases List.mem_cons.mp ((h x).mp List.mem_cons_self) with e | h1
      · exact e
      · rcases List.mem_cons.mp ((h y).mpr List.mem_cons_self) with e | h2
        · exact e.symm
        · have a := hx y h2
          have b := hy x h1
          omega
    subst e
    have : l = m := rise_ext hl' hm' fun z => by
      constructor
      · intro hz
        have hxz := hx z hz
        rcases List.mem_cons.mp ((h z).mp (List.mem_cons_of_mem _ hz)) with e | h1
        · omega
        · exact h1
      · intro hz
        have hxz := hy z hz
        rcases List.mem_cons.mp ((h z).mpr (List.mem_cons_of_mem _ hz)) with e | h1
        · omega
        · exact h1
    rw [this]
theorem rise_of_le {l : List Int} (h : l.Pairwise (· ≤ ·)) (nd : l.Nodup) : l.Pairwise (· < ·) := by
  have := h.and nd
  exact this.imp fun {a b} ⟨h1, h2⟩ => by omega
theorem take_prefix {α : Type} {l : List α} {p : List α} {k : Nat} (h : ∃ t, l = p ++ t) (hp : p.length = k) : p = l.take k := by
  obtain ⟨t, rfl⟩ := h
  subst hp
  simp
theorem endsR_pre (rs : List Int) (ah : Option Int) : ∀ (t l : List Int), ∃ u, endsR rs ah (l ++ t) = endsR rs ah l ++ u
  | [], l => ⟨[], by simp⟩
  | x :: t, l => by
    obtain ⟨u, hu⟩ := endsR_pre rs ah t (l ++ [x])
    rw [List.append_assoc, List.singleton_append] at hu
    rw [hu, endsR_snoc, List.append_assoc]
    exact ⟨_, rfl⟩
end Nk
/-! ### each night has a copy: plain mathematics -/
namespace Nk
theorem endsF_sublist (rs : List Int) : ∀ ns : List Int, (endsF rs ns).Sublist ns
  | [] => .slnil
  | [n] => List.Sublist.refl _
  | n :: m :: l => by
    have ih := endsF_sublist rs (m :: l)
    simp only [endsF]
    split
    · exact ih.cons n
    · exact ih.cons₂ n
theorem endsF_rise {rs ns : List Int} (h : ns.Pairwise (· < ·)) : (endsF rs ns).Pairwise (· < ·) := h.sublist (endsF_sublist rs ns)
/-- the last of its round -/
theorem mem_endsF {rs : List Int} (h : Rnds rs) : ∀ ns : List Int, ns.Pairwise (· < ·) → ∀ m, m ∈ endsF rs ns ↔ m ∈ ns ∧ ∀ m' ∈ ns, m < m' → numOf rs m < numOf rs m'
  | [], _, m => by simp [endsF]
  | [n], _, m => by
    simp only [endsF, List.mem_singleton]
    constructor
    · rintro rfl
      exact ⟨rfl, fun m' e h => by omega⟩
    · exact fun z => z.1
  | n :: k :: l, hp, m => by
    obtain ⟨hn, hp'⟩ := List.pairwise_cons.mp hp
    have ih := mem_endsF h (k :: l) hp' m
    have hk : n < k := hn k List.mem_cons_self
    have hmono : ∀ x ∈ k :: l, numOf rs k ≤ numOf rs x := fun x hx => by
      rcases List.mem_cons.mp hx with rfl | hx
      · omega
      · have := (List.pairwise_cons.mp hp').1 x hx
        exact numOf_mono h (by omega)
    have hnk := numOf_mono h (show n ≤ k by omega)
    simp only [endsF]
    split
    · rename_i e
      rw [ih]
      constructor
      · rintro ⟨h1, h2⟩
        refine ⟨List.mem_cons_of_mem _ h1, fun m' hm' hlt => ?_⟩
        rcases List.mem_cons.mp hm' with rfl | hm'
        · have := hn m h1
          omega
        · exact h2 m' hm' hlt
      · rintro ⟨h1, h2⟩
        rcases List.mem_cons.mp h1 with rfl | h1
        · have := h2 k (by simp) hk
          omega
        · exact ⟨h1, fun m' hm' => h2 m' (List.mem_cons_of_mem _ hm')⟩
    · rename_i e
      rw [List.mem_cons, ih]
      constructor
      · rintro (rfl | ⟨h1, h2⟩)
        · refine ⟨List.mem_cons_self, fun m' hm' hlt => ?_⟩
          rcases List.mem_cons.mp hm' with rfl | hm'
          · omega
          · have := hmono m' hm'
            omega
        · refine ⟨List.mem_cons_of_mem _ h1, fun m' hm' hlt => ?_⟩
          rcases List.mem_cons.mp hm' with rfl | hm'
          · have := hn m h1
            omega
          · exact h2 m' hm' hlt
      · rintro ⟨h1, h2⟩
        rcases List.mem_cons.mp h1 with rfl | h1
        · exact .inl rfl
        · exact .inr ⟨h1, fun m' hm' => h2 m' (List.mem_cons_of_mem _ hm')⟩
/-- the nights from 0 to n -/
def upTo (n : Int) : List Int := (List.range (n + 1).toNat).map fun i : Nat => (i : Int)
theorem mem_upTo {n m : Int} : m ∈ upTo n ↔ 0 ≤ m ∧ m ≤ n := by
  unfold upTo
  rw [List.mem_map]
  constructor
  · rintro ⟨i, hi, rfl⟩
    have := List.mem_range.mp hi
    omega
  · intro h
    exact ⟨m.toNat, List.mem_range.mpr (by omega), by omega⟩
theorem rise_range_map (f : Nat → Int) (hf : ∀ i j, i < j → f i < f j) (n : Nat) : ((List.range n).map f).Pairwise (· < ·) := by
  rw [List.pairwise_map]
  exact (List.pairwise_lt_range (n := n)).imp fun {a b} h => hf a b h
theorem upTo_rise (n : Int) : (upTo n).Pairwise (· < ·) := rise_range_map (fun i : Nat => (i : Int)) (fun i j h => by omega) _
theorem upTo_len (n : Int) : (upTo n).length = (n + 1).toNat := by simp [upTo]
/-- the last nights of all rounds up to that of n, and n -/
def expl (rs : List Int) (n : Int) : List Int := ((List.range (numOf rs n).toNat).map fun k : Nat => firstOf rs ((k : Int) + 1) - 1) ++ [n]
theorem expl_rise {rs : List Int} (h : Rnds rs) {n : Int} (hn : 0 ≤ n) : (expl rs n).Pairwise (· < ·) := by
  have hN := numOf_nonneg h hn
  refine List.pairwise_append.mpr ⟨rise_range_map _ (fun i j hij => ?_) _, List.pairwise_singleton _ _, fun x hx y hy => ?_⟩
  · have := firstOf_le h (i := (i : Int) + 1) (j := (j : Int) + 1) (by omega)
    omega
  · rw [List.mem_singleton.mp hy]
    obtain ⟨k, hk, rfl⟩ := List.mem_map.mp hx
    have hk := List.mem_range.mp hk
    have := firstOf_le h (i := (k : Int) + 1) (j := numOf rs n) (by omega)
    have := (numOf_spec h n).1
    omega
theorem endsF_upTo {rs : List Int} (h : Rnds rs) {n : Int} (hn : 0 ≤ n) : endsF rs (upTo n) = expl rs n := by
  have hN := numOf_nonneg h hn
  obtain ⟨hf1, hf2⟩ := numOf_spec h n
  refine rise_ext (endsF_rise (upTo_rise n)) (expl_rise h hn) fun m => ?_
  rw [mem_endsF h _ (upTo_rise n)]
  unfold expl
  rw [List.mem_append, List.mem_singleton, List.mem_map]
  constructor
  · rintro ⟨h1, h2⟩
    obtain ⟨m0, m1⟩ := mem_upTo.mp h1
    by_cases c : m = n
    · exact .inr c
    · left
      have h3 := h2 (m + 1) (mem_upTo.mpr ⟨by omega, by omega⟩) (by omega)
      obtain ⟨g1, g2⟩ := numOf_spec h m
      have hm0 := numOf_nonneg h m0
      have h4 : firstOf rs (numOf rs m + 1) = m + 1 := by
        by_cases c2 : m + 1 < firstOf rs (numOf rs m + 1)
        · have := numOf_of h (k := numOf rs m) (m := m + 1) (by omega) c2
          omega
        · omega
      have h5 := numOf_mono h (show m + 1 ≤ n by omega)
      refine ⟨(numOf rs m).toNat, List.mem_range.mpr (by omega), ?_⟩
      rw [show ((numOf rs m).toNat : Int) = numOf rs m by omega, h4]
      omega
  · rintro (⟨k, hk, rfl⟩ | rfl)
    · have hk := List.mem_range.mp hk
      have a1 := firstOf_pos h (show 0 ≤ (k : Int) + 1 by omega)
      have a2 := firstOf_le h (i := (k : Int) + 1) (j := numOf rs n) (by omega)
      have a3 := firstOf_lt h (k : Int)
      have b1 : numOf rs (firstOf rs ((k : Int) + 1) - 1) = k := numOf_of h (by omega) (by omega)
      have b2 : numOf rs (firstOf rs ((k : Int) + 1)) = (k : Int) + 1 := numOf_of h (by omega) (by have := firstOf_lt h ((k : Int) + 1); omega)
      refine ⟨mem_upTo.mpr ⟨by omega, by omega⟩, fun m' _ hlt => ?_⟩
      have := numOf_mono h (show firstOf rs ((k : Int) + 1) ≤ m' by omega)
      omega
    · refine ⟨mem_upTo.mpr ⟨hn, by omega⟩, fun m' hm' hlt => ?_⟩
      have := mem_upTo.mp hm'
      omega
theorem mem_drop_range {n d k : Nat} : k ∈ (List.range n).drop d ↔ d ≤ k ∧ k < n := by
  rw [List.mem_iff_getElem?]
  constructor
  · rintro ⟨i, hi⟩
    rw [List.getElem?_drop] at hi
    obtain ⟨h1, h2⟩ := List.getElem?_eq_some_iff.mp hi
    simp at h1 h2
    omega
  · rintro ⟨h1, h2⟩
    refine ⟨k - d, ?_⟩
    rw [List.getElem?_drop, show d + (k - d) = k by omega]
    simp [h2]
/-- what stands at night n, if each night has a copy, by one rule -/
def standBy (ru : List Int × Int) (n m : Int) : Prop := m = n ∨ ∃ k : Int, 0 ≤ k ∧ numOf ru.1 n - ru.2 + 1 ≤ k ∧ k < numOf ru.1 n ∧ m = firstOf ru.1 (k + 1) - 1
theorem mem_keptUp_upTo {ru : List Int × Int} (h : Rnds ru.1) (hm : 1 ≤ ru.2) {n : Int} (hn : 0 ≤ n) (m : Int) : m ∈ keptUp ru (upTo n) ↔ standBy ru n m := by
  have hN := numOf_nonneg h hn
  unfold keptUp standBy
  rw [endsF_upTo h hn]
  have hlen : (expl ru.1 n).length = (numOf ru.1 n).toNat + 1 := by simp [expl]
  rw [hlen]
  unfold expl
  rw [List.drop_append_of_le_length (by simp; omega), List.mem_append, List.mem_singleton, ← List.map_drop, List.mem_map]
  constructor
  · rintro (⟨k, hk, rfl⟩ | rfl)
    · obtain ⟨k1, k2⟩ := mem_drop_range.mp hk
      exact .inr ⟨k, by omega, by omega, by omega, rfl⟩
    · exact .inl rfl
  · rintro (rfl | ⟨k, k0, k1, k2, rfl⟩)
    · exact .inr rfl
    · refine .inl ⟨k.toNat, mem_drop_range.mpr ⟨by omega, by omega⟩, ?_⟩
      rw [show (k.toNat : Int) = k by omega]
def standS (rus : List (List Int × Int)) (n m : Int) : Prop := m = n ∨ ∃ ru ∈ rus, ∃ k : Int, 0 ≤ k ∧ numOf ru.1 n - ru.2 + 1 ≤ k ∧ k < numOf ru.1 n ∧ m = firstOf ru.1 (k + 1) - 1
theorem mem_keptF_upTo {rus : List (List Int × Int)} (h : ∀ ru ∈ rus, Rnds ru.1 ∧ 1 ≤ ru.2) (hne : rus ≠ []) {n : Int} (hn : 0 ≤ n) (m : Int) : m ∈ keptF rus (upTo n) ↔ standS rus n m := by
  rw [mem_keptF]
  unfold standS
  constructor
  · rintro ⟨ru, h1, h2⟩
    rcases (mem_keptUp_upTo (h ru h1).1 (h ru h1).2 hn m).mp (mem_keptUp.mpr h2) with h3 | h3
    · exact .inl h3
    · exact .inr ⟨ru, h1, h3⟩
  · rintro (h1 | ⟨ru, h1, h3⟩)
    · obtain ⟨ru, hru⟩ := List.exists_mem_of_ne_nil rus hne
      exact ⟨ru, hru, mem_keptUp.mp ((mem_keptUp_upTo (h ru hru).1 (h ru hru).2 hn m).mpr (.inl h1))⟩
    · exact ⟨ru, h1, mem_keptUp.mp ((mem_keptUp_upTo (h ru h1).1 (h ru h1).2 hn m).mpr (.inr h3))⟩
/-- differences of neighbours -/
def diffsOf : List Int → List Int
  | x :: y :: r => (y - x) :: diffsOf (y :: r)
  | _ => []
theorem diffsOf_get : ∀ (l : List Int) (i : Nat) {x y : Int}, l[i]? = some x → l[i + 1]? = some y → (diffsOf l)[i]? = some (y - x)
  | [], _, _, _, h, _ => by simp at h
  | [_], 0, _, _, _, h => by simp at h
  | [_], i + 1, _, _, h, _ => by simp at h
  | a :: b :: r, 0, x, y, h, h2 => by
    have e1 : a = x := by simpa using h
    have e2 : b = y := by simpa using h2
    rw [← e1, ← e2]; rfl
  | a :: b :: r, i + 1, x, y, h, h2 => by
    have := diffsOf_get (b :: r) i (x := x) (y := y) (by simpa using h) (by simpa using h2)
    simpa [diffsOf] using this
theorem diffsOf_len : ∀ l : List Int, (diffsOf l).length = l.length - 1
  | [] => rfl
  | [_] => rfl
  | x :: y :: r => by
    have := diffsOf_len (y :: r)
    simp only [diffsOf, List.length_cons] at this ⊢
    omega
/-- the greatest of some, and 0 -/
def maxZ (l : List Int) : Int := l.foldl (fun a b => max a b) 0
theorem foldl_max_ge : ∀ (l : List Int) (a : Int), a ≤ l.foldl (fun a b => max a b) a ∧ ∀ x ∈ l, x ≤ l.foldl (fun a b => max a b) a
  | [], a => by simp
  | y :: l, a => by
    obtain ⟨h1, h2⟩ := foldl_max_ge l (max a y)
    refine ⟨?_, fun x hx => ?_⟩
    · simp only [List.foldl_cons]; omega
    · simp only [List.foldl_cons]
      rcases List.mem_cons.mp hx with rfl | hx
      · omega
      · exact h2 x hx
theorem foldl_max_mem : ∀ (l : List Int) (a : Int), l.foldl (fun a b => max a b) a = a ∨ l.foldl (fun a b => max a b) a ∈ l
  | [], a => .inl rfl
  | y :: l, a => by
    simp only [List.foldl_cons]
    rcases foldl_max_mem l (max a y) with h | h
    · rw [h]
      by_cases c : a ≤ y
      · right; rw [show max a y = y by omega]; exact List.mem_cons_self
      · left; omega
    · exact .inr (List.mem_cons_of_mem _ h)
theorem maxZ_of {l : List Int} {m : Int} (h1 : m ∈ l ∨ m = 0) (h2 : ∀ x ∈ l, x ≤ m) (h3 : 0 ≤ m) : m = maxZ l := by
  obtain ⟨g1, g2⟩ := foldl_max_ge l 0
  have g3 := foldl_max_mem l 0
  unfold maxZ
  rcases h1 with h1 | h1
  · have := g2 m h1
    rcases g3 with g | g
    · omega
    · have := h2 _ g
      omega
  · rcases g3 with g | g
    · omega
    · have := h2 _ g
      omega
end Nk
/-! ### what is left by the way: plain mathematics -/
namespace Nk
theorem endsR_filter (rs : List Int) (p : Int → Bool) : ∀ (l : List Int) (ah : Option Int) (m : Nat), (∀ x ∈ (endsR rs ah l).take m, p x = true) → (endsR rs ah (l.filter p)).take m = (endsR rs ah l).take m
  | [], _, _, _ => rfl
  | x :: l, ah, m, h => by
    by_cases c : ah = some (numOf rs x)
    · have e : endsR rs ah (x :: l) = endsR rs ah l := by simp only [endsR]; rw [if_pos c, c]
      rw [e] at h ⊢
      rw [← endsR_filter rs p l ah m h]
      by_cases px : p x = true
      · rw [List.filter_cons_of_pos px]
        have e2 : endsR rs ah (x :: l.filter p) = endsR rs ah (l.filter p) := by simp only [endsR]; rw [if_pos c, c]
        rw [e2]
      · rw [List.filter_cons_of_neg px]
    · have e : endsR rs ah (x :: l) = x :: endsR rs (some (numOf rs x)) l := by simp only [endsR]; rw [if_neg c]
      rw [e] at h ⊢
      cases m with
      | zero => simp
      | succ m =>
        rw [List.take_succ_cons] at h ⊢
        have px := h x List.mem_cons_self
        rw [List.filter_cons_of_pos px]
        have e2 : endsR rs ah (x :: l.filter p) = x :: endsR rs (some (numOf rs x)) (l.filter p) := by simp only [endsR]; rw [if_neg c]
        rw [e2, List.take_succ_cons, endsR_filter rs p l _ m fun y hy => h y (List.mem_cons_of_mem _ hy)]
theorem keptBy_filter {ru : List Int × Int} {ns : List Int} {p : Int → Bool} (h : ∀ x ∈ keptBy ru ns, p x = true) : keptBy ru (ns.filter p) = keptBy ru ns := by
  unfold keptBy at h ⊢
  rw [← List.filter_reverse]
  exact endsR_filter _ p _ _ _ h
/-- a night more, and what is kept so far -/
theorem endsR_some (rs : List Int) (a : Int) : ∀ l : List Int, endsR rs (some a) l = match l with
    | [] => []
    | x :: _ => if a = numOf rs x then (endsR rs none l).tail else endsR rs none l
  | [] => rfl
  | x :: l => by
    simp only [endsR, Option.some.injEq, reduceCtorEq, if_false, List.tail_cons]
theorem endsR_head (rs : List Int) : ∀ l : List Int, (endsR rs none l).head? = l.head?
  | [] => rfl
  | x :: l => by simp [endsR]
def addTo (rs : List Int) (m : Nat) (n : Int) (k : List Int) : List Int := (n :: (match k with
  | [] => []
  | x :: t => if numOf rs n = numOf rs x then t else x :: t)).take m
theorem keptBy_snoc {ru : List Int × Int} (h : 1 ≤ ru.2) (ns : List Int) (n : Int) : keptBy ru (ns ++ [n]) = addTo ru.1 ru.2.toNat n (keptBy ru ns) := by
  unfold keptBy addTo
  rw [List.reverse_append, List.reverse_singleton, List.singleton_append]
  have e : endsR ru.1 none (n :: ns.reverse) = n :: endsR ru.1 (some (numOf ru.1 n)) ns.reverse := by simp [endsR]
  rw [e]
  obtain ⟨m, hm⟩ : ∃ m, ru.2.toNat = m + 1 := ⟨ru.2.toNat - 1, by omega⟩
  rw [hm, List.take_succ_cons, List.take_succ_cons]
  congr 1
  rw [endsR_some]
  cases hr : ns.reverse with
  | nil => simp [endsR]
  | cons x l =>
    simp only [endsR, reduceCtorEq, if_false, List.take_succ_cons]
    split
    · rw [List.tail_cons, List.take_take, Nat.min_self]
    · cases m with
      | zero => simp
      | succ m => simp [List.take_take]
/-- the last night is kept -/
theorem keptBy_last {ru : List Int × Int} (h : 1 ≤ ru.2) (ns : List Int) (n : Int) : ∃ t, keptBy ru (ns ++ [n]) = n :: t ∧ (t.length : Int) ≤ ru.2 - 1 := by
  rw [keptBy_snoc h]
  unfold addTo
  obtain ⟨m, hm⟩ : ∃ m, ru.2.toNat = m + 1 := ⟨ru.2.toNat - 1, by omega⟩
  rw [hm, List.take_succ_cons]
  refine ⟨_, rfl, ?_⟩
  rw [List.length_take]
  omega
theorem keptF_sub {rus : List (List Int × Int)} {ns : List Int} : ∀ n ∈ keptF rus ns, n ∈ ns := fun n h => (List.mem_filter.mp h).1
theorem keptF_congr {rus : List (List Int × Int)} {ns ms : List Int} (hn : ns.Pairwise (· < ·)) (hm : ms.Pairwise (· < ·)) (h : ∀ ru ∈ rus, keptBy ru ns = keptBy ru ms) : keptF rus ns = keptF rus ms :=
  rise_ext (keptF_rise hn) (keptF_rise hm) fun x => by
    rw [mem_keptF, mem_keptF]
    constructor
    · rintro ⟨ru, h1, h2⟩
      exact ⟨ru, h1, by rw [← h ru h1]; exact h2⟩
    · rintro ⟨ru, h1, h2⟩
      exact ⟨ru, h1, by rw [h ru h1]; exact h2⟩
theorem keptF_keptF {rus : List (List Int × Int)} {ns : List Int} (hn : ns.Pairwise (· < ·)) : keptF rus (keptF rus ns) = keptF rus ns := by
  refine keptF_congr (keptF_rise hn) hn fun ru hru => ?_
  unfold keptF
  refine keptBy_filter fun x hx => ?_
  rw [List.any_eq_true]
  exact ⟨ru, hru, decide_eq_true hx⟩
theorem keptF_last {rus : List (List Int × Int)} (h : ∀ ru ∈ rus, 1 ≤ ru.2) (hne : rus ≠ []) (ns : List Int) (n : Int) : ∃ t, keptF rus (ns ++ [n]) = t ++ [n] := by
  refine ⟨(ns.filter fun x => rus.any fun ru => decide (x ∈ keptBy ru (ns ++ [n]))), ?_⟩
  obtain ⟨ru, hru⟩ := List.exists_mem_of_ne_nil rus hne
  have hp : (rus.any fun ru => decide (n ∈ keptBy ru (ns ++ [n]))) = true := by
    rw [List.any_eq_true]
    refine ⟨ru, hru, decide_eq_true ?_⟩
    obtain ⟨t, e, _⟩ := keptBy_last (h ru hru) ns n
    rw [e]
    exact List.mem_cons_self
  unfold keptF
  rw [List.filter_append]
  congr 1
  exact List.filter_eq_self.mpr fun x hx => by rw [List.mem_singleton.mp hx]; exact hp
theorem drop_last (l : List Int) (n : Int) : (l ++ [n]).drop ((l ++ [n]).length - 1) = [n] := by simp
theorem keptF_end {rus : List (List Int × Int)} (h : ∀ ru ∈ rus, 1 ≤ ru.2) (hne : rus ≠ []) (ns : List Int) : (keptF rus ns).drop ((keptF rus ns).length - 1) = ns.drop (ns.length - 1) := by
  rcases List.eq_nil_or_concat ns with rfl | ⟨l, n, rfl⟩
  · rfl
  · rw [List.concat_eq_append]
    obtain ⟨t, e⟩ := keptF_last h hne l n
    rw [e, drop_last, drop_last]
theorem nodup_len : ∀ (l m : List Int), l.Nodup → (∀ x ∈ l, x ∈ m) → l.length ≤ m.length
  | [], _, _, _ => Nat.zero_le _
  | x :: l, m, hn, hs => by
    obtain ⟨h1, h2⟩ := List.nodup_cons.mp hn
    have hx := hs x List.mem_cons_self
    have h3 := nodup_len l (m.erase x) h2 fun y hy => by
      rw [List.mem_erase_of_ne (fun e => h1 (by rw [← e]; exact hy))]
      exact hs y (List.mem_cons_of_mem _ hy)
    rw [List.length_erase_of_mem hx] at h3
    have := List.length_pos_of_mem hx
    simp only [List.length_cons]
    omega
theorem rise_nodup {l : List Int} (h : l.Pairwise (· < ·)) : l.Nodup := h.imp fun {a b} h e => by omega
/-- no more are kept than all rules tell -/
theorem keptF_count {rus : List (List Int × Int)} (h : ∀ ru ∈ rus, 1 ≤ ru.2) {ns : List Int} (hn : ns.Pairwise (· < ·)) (hne : ns ≠ []) : ((keptF rus ns).length : Int) ≤ (rus.map (·.2)).sum - ((rus.length : Int) - 1) := by
  rcases List.eq_nil_or_concat ns with rfl | ⟨l, n, rfl⟩
  · exact absurd rfl hne
  · rw [List.concat_eq_append] at *
    have h1 := nodup_len (keptF rus (l ++ [n])) (n :: rus.flatMap fun ru => (keptBy ru (l ++ [n])).tail) (rise_nodup (keptF_rise hn)) fun x hx => by
      obtain ⟨ru, h1, h2⟩ := mem_keptF.mp hx
      obtain ⟨t, e, _⟩ := keptBy_last (h ru h1) l n
      rw [e] at h2
      rcases List.mem_cons.mp h2 with rfl | h2
      · exact List.mem_cons_self
      · refine List.mem_cons_of_mem _ (List.mem_flatMap.mpr ⟨ru, h1, ?_⟩)
        rw [e]
        exact h2
    have h2 : ∀ rs : List (List Int × Int), (∀ ru ∈ rs, 1 ≤ ru.2) → ((rs.flatMap fun ru => (keptBy ru (l ++ [n])).tail).length : Int) ≤ (rs.map (·.2)).sum - (rs.length : Int) := by
      intro rs
      induction rs with
      | nil => intro _; simp
      | cons ru rs ih =>
        intro hr
        have a := ih fun r hr' => hr r (List.mem_cons_of_mem _ hr')
        obtain ⟨t, e, b⟩ := keptBy_last (hr ru List.mem_cons_self) l n
        rw [List.flatMap_cons, List.length_append, e, List.tail_cons, List.map_cons, List.sum_cons, List.length_cons]
        push_cast
        omega
    have h3 := h2 rus h
    simp only [List.length_cons] at h1
    omega
/-- moved by whole turns -/
theorem numOf_turns {rs : List Int} (h : Rnds rs) (n : Int) : ∀ k : Nat, numOf rs (n + k * rs.sum) = numOf rs n + k * rs.length
  | 0 => by simp
  | k + 1 => by
    have ih := numOf_turns h n k
    have e : n + ((k + 1 : Nat) : Int) * rs.sum = n + k * rs.sum + rs.sum := by push_cast; rw [Int.add_mul]; omega
    rw [e, numOf_turn h, ih]
    push_cast
    rw [Int.add_mul]
    omega
theorem endsR_move {rs : List Int} {d e : Int} (h : ∀ n, numOf rs (n + d) = numOf rs n + e) : ∀ (l : List Int) (ah : Option Int), endsR rs (ah.map (· + e)) (l.map (· + d)) = (endsR rs ah l).map (· + d)
  | [], _ => rfl
  | x :: l, ah => by
    have ih := endsR_move h l (some (numOf rs x))
    rw [Option.map_some] at ih
    simp only [List.map_cons, endsR, h]
    have c : (ah.map (· + e) = some (numOf rs x + e)) ↔ ah = some (numOf rs x) := by
      cases ah with
      | none => simp
      | some a => simp
    by_cases c' : ah = some (numOf rs x)
    · rw [if_pos (c.mpr c'), if_pos c', ih]
    · rw [if_neg (fun z => c' (c.mp z)), if_neg c', List.map_cons, ih]
theorem keptBy_move {ru : List Int × Int} (hr : Rnds ru.1) {far : Int} (h0 : 0 ≤ far) (hd : ru.1.sum ∣ far) (ns : List Int) : keptBy ru (ns.map (· + far)) = (keptBy ru ns).map (· + far) := by
  obtain ⟨k, rfl⟩ := hd
  have hk : 0 ≤ k := by
    by_cases c : 0 ≤ k
    · exact c
    · have := Int.mul_neg_of_pos_of_neg hr.sum (show k < 0 by omega)
      omega
  have hm : ∀ n, numOf ru.1 (n + ru.1.sum * k) = numOf ru.1 n + k * ru.1.length := fun n => by
    have := numOf_turns hr n k.toNat
    rw [show (k.toNat : Int) = k by omega] at this
    rw [Int.mul_comm ru.1.sum]
    exact this
  unfold keptBy
  have := endsR_move hm ns.reverse none
  rw [Option.map_none] at this
  rw [← List.map_reverse, this, List.map_take]
theorem mem_map_add {l : List Int} {d x : Int} : x + d ∈ l.map (· + d) ↔ x ∈ l := by
  rw [List.mem_map]
  constructor
  · rintro ⟨y, hy, e⟩
    have : y = x := by omega
    rw [← this]; exact hy
  · intro h
    exact ⟨x, h, rfl⟩
theorem keptF_move {rus : List (List Int × Int)} (hr : ∀ ru ∈ rus, Rnds ru.1) {far : Int} (h0 : 0 ≤ far) (hd : ∀ ru ∈ rus, ru.1.sum ∣ far) (ns : List Int) : keptF rus (ns.map (· + far)) = (keptF rus ns).map (· + far) := by
  unfold keptF
  rw [List.filter_map]
  congr 1
  apply List.filter_congr
  intro x _
  simp only [Function.comp]
  rw [Bool.eq_iff_iff, List.any_eq_true, List.any_eq_true]
  constructor
  · rintro ⟨ru, h1, h2⟩
    refine ⟨ru, h1, ?_⟩
    rw [decide_eq_true_eq, keptBy_move (hr ru h1) h0 (hd ru h1), mem_map_add] at h2
    exact decide_eq_true h2
  · rintro ⟨ru, h1, h2⟩
    refine ⟨ru, h1, ?_⟩
    rw [decide_eq_true_eq, keptBy_move (hr ru h1) h0 (hd ru h1), mem_map_add]
    exact of_decide_eq_true h2
/-- by the way: what is left keeps the same -/
structure Way (rus : List (List Int × Int)) (all left : List Int) : Prop where
  sub : left.Sublist all
  kep : ∀ ru ∈ rus, keptBy ru left = keptBy ru all
theorem Way.snoc {rus : List (List Int × Int)} (h : ∀ ru ∈ rus, 1 ≤ ru.2) {all left : List Int} (w : Way rus all left) (n : Int) : Way rus (all ++ [n]) (left ++ [n]) :=
  ⟨w.sub.append (List.Sublist.refl _), fun ru hru => by rw [keptBy_snoc (h ru hru), keptBy_snoc (h ru hru), w.kep ru hru]⟩
theorem Way.cut {rus : List (List Int × Int)} {all left : List Int} (w : Way rus all left) {p : Int → Bool} (h : ∀ x ∈ keptF rus left, p x = true) : Way rus all (left.filter p) :=
  ⟨(List.filter_sublist (l := left)).trans w.sub, fun ru hru => by rw [keptBy_filter fun x hx => h x (mem_keptF.mpr ⟨ru, hru, hx⟩), w.kep ru hru]⟩
theorem Way.same {rus : List (List Int × Int)} {all left : List Int} (w : Way rus all left) (ha : all.Pairwise (· < ·)) : keptF rus left = keptF rus all := keptF_congr (ha.sublist w.sub) ha w.kep
def prodS (rus : List (List Int × Int)) : Int := rus.foldl (fun f ru => f * ru.1.sum) 1
theorem prodS_dvd : ∀ (rus : List (List Int × Int)) (a : Int), a ∣ rus.foldl (fun f ru => f * ru.1.sum) a ∧ ∀ ru ∈ rus, ru.1.sum ∣ rus.foldl (fun f ru => f * ru.1.sum) a
  | [], a => ⟨Int.dvd_refl _, fun ru h => by simp at h⟩
  | r :: rus, a => by
    obtain ⟨h1, h2⟩ := prodS_dvd rus (a * r.1.sum)
    simp only [List.foldl_cons]
    refine ⟨Int.dvd_trans (Int.dvd_mul_right _ _) h1, fun ru hru => ?_⟩
    rcases List.mem_cons.mp hru with rfl | hru
    · exact Int.dvd_trans (Int.dvd_mul_left _ _) h1
    · exact h2 ru hru
theorem prodS_pos {rus : List (List Int × Int)} (h : ∀ ru ∈ rus, 0 < ru.1.sum) : ∀ a : Int, 0 < a → 0 < rus.foldl (fun f ru => f * ru.1.sum) a := by
  induction rus with
  | nil => intro a ha; exact ha
  | cons r rus ih =>
    intro a ha
    exact ih (fun ru hru => h ru (List.mem_cons_of_mem _ hru)) _ (Int.mul_pos ha (h r List.mem_cons_self))
end Nk
/-! ### what stands late; the turn: plain mathematics -/
namespace Nk
/-- going back from a night by the ends of rounds -/
def back (rs : List Int) : Nat → Int → List Int
  | 0, _ => []
  | m + 1, at_ => if at_ < 0 then [] else at_ :: back rs m (firstOf rs (numOf rs at_) - 1)
theorem back_len (rs : List Int) : ∀ (m : Nat) (n : Int), (back rs m n).length ≤ m
  | 0, _ => Nat.le_refl _
  | m + 1, n => by
    simp only [back]
    split
    · simp
    · simp only [List.length_cons]
      have := back_len rs m (firstOf rs (numOf rs n) - 1)
      omega
theorem mem_back_end {rs : List Int} (h : Rnds rs) : ∀ (m : Nat) (k0 : Int), 0 ≤ k0 → ∀ x, x ∈ back rs m (firstOf rs k0 - 1) ↔ ∃ k : Int, 0 ≤ k ∧ k0 - m ≤ k ∧ k < k0 ∧ x = firstOf rs (k + 1) - 1
  | 0, k0, _, x => by
    simp only [back, List.not_mem_nil, false_iff]
    rintro ⟨k, _, h2, h3, _⟩
    simp at h2
    omega
  | m + 1, k0, h0, x => by
    by_cases c : k0 = 0
    · subst c
      have : firstOf rs 0 - 1 < 0 := by rw [firstOf_zero h]; omega
      simp only [back, if_pos this, List.not_mem_nil, false_iff]
      rintro ⟨k, h1, _, h3, _⟩
      omega
    · have hp := firstOf_pos h h0
      have hn : numOf rs (firstOf rs k0 - 1) = k0 - 1 := by
        have h1 := firstOf_lt h (k0 - 1)
        rw [show k0 - 1 + 1 = k0 by omega] at h1
        exact numOf_of h (by omega) (by rw [show k0 - 1 + 1 = k0 by omega]; omega)
      simp only [back]
      rw [if_neg (by omega), hn, List.mem_cons, mem_back_end h m (k0 - 1) (by omega)]
      constructor
      · rintro (rfl | ⟨k, h1, h2, h3, rfl⟩)
        · exact ⟨k0 - 1, by omega, by push_cast; omega, by omega, by rw [show k0 - 1 + 1 = k0 by omega]⟩
        · exact ⟨k, h1, by push_cast; omega, by omega, rfl⟩
      · rintro ⟨k, h1, h2, h3, rfl⟩
        by_cases c2 : k = k0 - 1
        · left
          rw [c2, show k0 - 1 + 1 = k0 by omega]
        · right
          exact ⟨k, h1, by push_cast at h2; omega, by omega, rfl⟩
theorem mem_back {ru : List Int × Int} (h : Rnds ru.1) (hm : 1 ≤ ru.2) {n : Int} (hn : 0 ≤ n) (x : Int) : x ∈ back ru.1 ru.2.toNat n ↔ standBy ru n x := by
  obtain ⟨m, e⟩ : ∃ m, ru.2.toNat = m + 1 := ⟨ru.2.toNat - 1, by omega⟩
  have hN := numOf_nonneg h hn
  rw [e]
  simp only [back]
  rw [if_neg (by omega), List.mem_cons, mem_back_end h m _ hN]
  unfold standBy
  constructor
  · rintro (h1 | ⟨k, h1, h2, h3, h4⟩)
    · exact .inl h1
    · exact .inr ⟨k, h1, by omega, h3, h4⟩
  · rintro (h1 | ⟨k, h1, h2, h3, h4⟩)
    · exact .inl h1
    · exact .inr ⟨k, h1, by omega, h3, h4⟩
theorem standS_iff {rus : List (List Int × Int)} (hne : rus ≠ []) (n m : Int) : standS rus n m ↔ ∃ ru ∈ rus, standBy ru n m := by
  unfold standS standBy
  constructor
  · rintro (h | ⟨ru, h1, h2⟩)
    · obtain ⟨ru, hru⟩ := List.exists_mem_of_ne_nil rus hne
      exact ⟨ru, hru, .inl h⟩
    · exact ⟨ru, h1, .inr h2⟩
  · rintro ⟨ru, h1, h2 | h2⟩
    · exact .inl h2
    · exact .inr ⟨ru, h1, h2⟩
/-! moved by whole turns -/
theorem firstOf_turns {rs : List Int} (h : Rnds rs) (k : Int) : ∀ q : Nat, firstOf rs (k + q * rs.length) = firstOf rs k + q * rs.sum
  | 0 => by simp
  | q + 1 => by
    have ih := firstOf_turns h k q
    have e : k + ((q + 1 : Nat) : Int) * rs.length = k + q * rs.length + rs.length := by push_cast; rw [Int.add_mul]; omega
    rw [e, firstOf_turn h, ih]
    push_cast
    rw [Int.add_mul]
    omega
theorem numOf_turnsL {rs : List Int} (h : Rnds rs) (n : Int) : ∀ q : Nat, numOf rs (n + q * rs.sum) = numOf rs n + q * rs.length
  | 0 => by simp
  | q + 1 => by
    have ih := numOf_turnsL h n q
    have e : n + ((q + 1 : Nat) : Int) * rs.sum = n + q * rs.sum + rs.sum := by push_cast; rw [Int.add_mul]; omega
    rw [e, numOf_turn h, ih]
    push_cast
    rw [Int.add_mul]
    omega
theorem firstOf_upper {rs : List Int} (h : Rnds rs) (h31 : ∀ r ∈ rs, r ≤ 31) : ∀ k : Nat, firstOf rs k ≤ 31 * k
  | 0 => by rw [show ((0 : Nat) : Int) = 0 from rfl, firstOf_zero h]; omega
  | k + 1 => by
    have ih := firstOf_upper h h31 k
    obtain ⟨r, h1, h2, h3⟩ := get_round h (k : Int)
    have := firstOf_step h (k : Int) h1
    have := h31 r h3
    push_cast
    omega
theorem late_num {ru : List Int × Int} (h : Rnds ru.1) (h31 : ∀ r ∈ ru.1, r ≤ 31) (hm : ru.2 ≤ 20) {n : Int} (hn : 700 ≤ n) : ru.2 - 1 ≤ numOf ru.1 n := by
  have h0 := numOf_nonneg h (show 0 ≤ n by omega)
  have h1 := (numOf_spec h n).2
  have h2 := firstOf_upper h h31 (numOf ru.1 n + 1).toNat
  rw [show ((numOf ru.1 n + 1).toNat : Int) = numOf ru.1 n + 1 by omega] at h2
  omega
theorem standBy_moveG {ru : List Int × Int} (h : Rnds ru.1) {n far : Int} (hl : ru.2 - 1 ≤ numOf ru.1 n) (h0 : 0 ≤ far) (hd : ru.1.sum ∣ far) (x : Int) : standBy ru (n + far) (x + far) ↔ standBy ru n x := by
  obtain ⟨q, rfl⟩ := hd
  have hq : 0 ≤ q := by
    by_cases c : 0 ≤ q
    · exact c
    · have := Int.mul_neg_of_pos_of_neg h.sum (show q < 0 by omega)
      omega
  obtain ⟨q, rfl⟩ : ∃ j : Nat, q = (j : Int) := ⟨q.toNat, by omega⟩
  have e1 := numOf_turnsL h n q
  rw [Int.mul_comm] at e1
  have hll : (0 : Int) ≤ q * ru.1.length := Int.mul_nonneg (by omega) (by omega)
  unfold standBy
  rw [e1]
  constructor
  · rintro (h1 | ⟨k, k0, k1, k2, k3⟩)
    · exact .inl (by omega)
    · right
      refine ⟨k - q * ru.1.length, by omega, by omega, by omega, ?_⟩
      have e2 := firstOf_turns h (k - q * ru.1.length + 1) q
      rw [show k - ↑q * ↑ru.1.length + 1 + ↑q * ↑ru.1.length = k + 1 by omega] at e2
      rw [Int.mul_comm] at k3
      omega
  · rintro (h1 | ⟨k, k0, k1, k2, k3⟩)
    · exact .inl (by omega)
    · right
      refine ⟨k + q * ru.1.length, by omega, by omega, by omega, ?_⟩
      have e2 := firstOf_turns h (k + 1) q
      rw [show k + 1 + ↑q * (ru.1.length : Int) = k + ↑q * ↑ru.1.length + 1 by omega] at e2
      rw [Int.mul_comm ru.1.sum]
      omega
theorem standBy_move {ru : List Int × Int} (h : Rnds ru.1) (h31 : ∀ r ∈ ru.1, r ≤ 31) (hm : ru.2 ≤ 20) {n far : Int} (hn : 700 ≤ n) (h0 : 0 ≤ far) (hd : ru.1.sum ∣ far) (x : Int) : standBy ru (n + far) (x + far) ↔ standBy ru n x :=
  standBy_moveG h (late_num h h31 hm hn) h0 hd x
theorem diffsOf_move (d : Int) : ∀ l : List Int, diffsOf (l.map (· + d)) = diffsOf l
  | [] => rfl
  | [_] => rfl
  | x :: y :: r => by
    have ih := diffsOf_move d (y :: r)
    simp only [List.map_cons, diffsOf] at ih ⊢
    rw [ih]
    congr 1
    omega
/-! the turn -/
/-- one rule more -/
def lcmS (f s : Nat) : Nat := f * s / Nat.gcd f s
theorem lcmS_eq (f s : Nat) : lcmS f s = f * (s / Nat.gcd f s) := Nat.mul_div_assoc _ (Nat.gcd_dvd_right f s)
theorem lcmS_pos {f s : Nat} (hf : 0 < f) (hs : 0 < s) : 0 < lcmS f s := by
  rw [lcmS_eq]
  exact Nat.mul_pos hf (Nat.div_pos (Nat.le_of_dvd hs (Nat.gcd_dvd_right f s)) (Nat.gcd_pos_of_pos_left _ hf))
theorem lcmS_dvd (f s : Nat) : f ∣ lcmS f s ∧ s ∣ lcmS f s := by
  refine ⟨by rw [lcmS_eq]; exact Nat.dvd_mul_right _ _, ?_⟩
  unfold lcmS
  rw [Nat.mul_comm, Nat.mul_div_assoc _ (Nat.gcd_dvd_left f s)]
  exact Nat.dvd_mul_right _ _
/-- adding f to itself until s divides: not ahead of the last -/
theorem lcm_least {f s j : Nat} (hf : 0 < f) (hs : 0 < s) (h : s ∣ j * f) : s / Nat.gcd f s ∣ j := by
  have hg : 0 < Nat.gcd f s := Nat.gcd_pos_of_pos_left _ hf
  obtain ⟨a, ha⟩ := Nat.gcd_dvd_left f s
  obtain ⟨b, hb⟩ := Nat.gcd_dvd_right f s
  have hb' : s / Nat.gcd f s = b := by
    rw [Nat.div_eq_of_eq_mul_right hg hb]
  have ha' : f / Nat.gcd f s = a := by
    rw [Nat.div_eq_of_eq_mul_right hg ha]
  have hco : Nat.Coprime b a := by
    have := Nat.coprime_div_gcd_div_gcd (m := f) (n := s) hg
    rw [ha', hb'] at this
    exact this.symm
  rw [hb']
  refine hco.dvd_of_dvd_mul_right ?_
  have h2 : Nat.gcd f s * b ∣ Nat.gcd f s * (j * a) := by
    rw [← hb, Nat.mul_left_comm, ← ha]
    exact h
  exact Nat.dvd_of_mul_dvd_mul_left hg h2
theorem lcm_mul (f s : Nat) : s ∣ (s / Nat.gcd f s) * f := by
  rw [Nat.mul_comm, ← lcmS_eq]
  exact (lcmS_dvd f s).2
def turnN (rus : List (List Int × Int)) : Nat := rus.foldl (fun f ru => lcmS f ru.1.sum.toNat) 1
theorem turnN_dvd : ∀ (rus : List (List Int × Int)) (a : Nat), a ∣ rus.foldl (fun f ru => lcmS f ru.1.sum.toNat) a ∧ ∀ ru ∈ rus, ru.1.sum.toNat ∣ rus.foldl (fun f ru => lcmS f ru.1.sum.toNat) a
  | [], a => ⟨Nat.dvd_refl _, fun ru h => by simp at h⟩
  | r :: rus, a => by
    obtain ⟨h1, h2⟩ := turnN_dvd rus (lcmS a r.1.sum.toNat)
    simp only [List.foldl_cons]
    refine ⟨Nat.dvd_trans (lcmS_dvd _ _).1 h1, fun ru hru => ?_⟩
    rcases List.mem_cons.mp hru with rfl | hru
    · exact Nat.dvd_trans (lcmS_dvd _ _).2 h1
    · exact h2 ru hru
theorem turnN_pos {rus : List (List Int × Int)} (h : ∀ ru ∈ rus, 0 < ru.1.sum) : ∀ a : Nat, 0 < a → 0 < rus.foldl (fun f ru => lcmS f ru.1.sum.toNat) a := by
  induction rus with
  | nil => intro a ha; exact ha
  | cons r rus ih =>
    intro a ha
    have := h r List.mem_cons_self
    exact ih (fun ru hru => h ru (List.mem_cons_of_mem _ hru)) _ (lcmS_pos ha (by omega))
end Nk
/-! ### the most that is held: plain mathematics -/
namespace Nk
/-- how many stand at a night -/
def cnt (rus : List (List Int × Int)) (n : Int) : Nat := (keptF rus (upTo n)).length
section
variable {rus : List (List Int × Int)} (h : ∀ ru ∈ rus, Rnds ru.1 ∧ 1 ≤ ru.2) (hne : rus ≠ [])
include h hne
theorem cnt_rise {n : Int} (hn : 0 ≤ n) {L : List Int} (h1 : L.Pairwise (· < ·)) (h2 : ∀ m, m ∈ L ↔ standS rus n m) : L.length = cnt rus n := by
  have e : L = keptF rus (upTo n) := rise_ext h1 (keptF_rise (upTo_rise n)) fun m => by rw [h2, mem_keptF_upTo h hne hn]
  rw [e]
  rfl
theorem cnt_nodup {n : Int} (hn : 0 ≤ n) {L : List Int} (h1 : L.Nodup) (h2 : ∀ m, m ∈ L ↔ standS rus n m) : L.length = cnt rus n := by
  have a := nodup_len L (keptF rus (upTo n)) h1 fun m hm => by rw [mem_keptF_upTo h hne hn, ← h2]; exact hm
  have b := nodup_len (keptF rus (upTo n)) L (rise_nodup (keptF_rise (upTo_rise n))) fun m hm => by rw [mem_keptF_upTo h hne hn, ← h2] at hm; exact hm
  unfold cnt
  omega
theorem cnt_pos {n : Int} (hn : 0 ≤ n) : 1 ≤ cnt rus n := by
  have : n ∈ keptF rus (upTo n) := (mem_keptF_upTo h hne hn n).mpr (.inl rfl)
  exact List.length_pos_of_mem this
theorem cnt_move {n far : Int} (hn : 0 ≤ n) (hl : ∀ ru ∈ rus, ru.2 - 1 ≤ numOf ru.1 n) (h0 : 0 ≤ far) (hd : ∀ ru ∈ rus, ru.1.sum ∣ far) : cnt rus (n + far) = cnt rus n := by
  have e : (keptF rus (upTo n)).map (· + far) = keptF rus (upTo (n + far)) := by
    refine rise_ext (List.pairwise_map.mpr ((keptF_rise (upTo_rise n)).imp fun {a b} h => by omega)) (keptF_rise (upTo_rise _)) fun m => ?_
    rw [mem_keptF_upTo h hne (by omega), List.mem_map, standS_iff hne]
    constructor
    · rintro ⟨x, h1, rfl⟩
      rw [mem_keptF_upTo h hne hn, standS_iff hne] at h1
      obtain ⟨ru, h2, h3⟩ := h1
      exact ⟨ru, h2, (standBy_moveG (h ru h2).1 (hl ru h2) h0 (hd ru h2) x).mpr h3⟩
    · rintro ⟨ru, h2, h3⟩
      refine ⟨m - far, ?_, by omega⟩
      rw [mem_keptF_upTo h hne hn, standS_iff hne]
      exact ⟨ru, h2, (standBy_moveG (h ru h2).1 (hl ru h2) h0 (hd ru h2) (m - far)).mp (by rw [show m - far + far = m by omega]; exact h3)⟩
  unfold cnt
  rw [← e, List.length_map]
end
/-- the greatest of the first k, and the first one that has it -/
structure IsBest (c : Int → Nat) (k b i : Int) : Prop where
  i0 : 0 ≤ i
  ik : i < k
  at_ : (c i : Int) = b
  le : ∀ j, 0 ≤ j → j < k → (c j : Int) ≤ b
  lt : ∀ j, 0 ≤ j → j < i → (c j : Int) < b
theorem IsBest.uniq {c : Int → Nat} {k b i b' i' : Int} (h : IsBest c k b i) (h' : IsBest c k b' i') : b = b' ∧ i = i' := by
  have a1 := h.le i' h'.i0 h'.ik
  have a2 := h'.le i h.i0 h.ik
  have a3 := h.at_
  have a4 := h'.at_
  have e : b = b' := by omega
  refine ⟨e, ?_⟩
  by_cases c1 : i < i'
  · have := h'.lt i h.i0 c1
    omega
  · by_cases c2 : i' < i
    · have := h.lt i' h'.i0 c2
      omega
    · omega
theorem IsBest.more {c : Int → Nat} {k k' b i : Int} (h : IsBest c k b i) (hk : k ≤ k') (hr : ∀ j, k ≤ j → j < k' → ∃ j', 0 ≤ j' ∧ j' < k ∧ c j = c j') : IsBest c k' b i := by
  refine ⟨h.i0, by have := h.ik; omega, h.at_, fun j j0 jk => ?_, h.lt⟩
  by_cases c1 : j < k
  · exact h.le j j0 c1
  · obtain ⟨j', h1, h2, h3⟩ := hr j (by omega) jk
    rw [h3]
    exact h.le j' h1 h2
/-- going on by one night -/
theorem best_step {c : Int → Nat} {k b i : Int} (h : (k = 0 ∧ b = 0 ∧ i = 0) ∨ IsBest c k b i) (k0 : 0 ≤ k) (hc : 1 ≤ c k) : IsBest c (k + 1) (if (c k : Int) > b then c k else b) (if (c k : Int) > b then k else i) := by
  rcases h with ⟨rfl, rfl, rfl⟩ | h
  · rw [if_pos (by omega), if_pos (by omega)]
    exact ⟨by omega, by omega, rfl, fun j j0 j1 => by rw [show j = 0 by omega]; omega, fun j j0 j1 => by omega⟩
  · by_cases c1 : (c k : Int) > b
    · rw [if_pos c1, if_pos c1]
      exact ⟨k0, by omega, rfl, fun j j0 j1 => by
        by_cases c2 : j = k
        · rw [c2]; omega
        · have := h.le j j0 (by omega); omega, fun j j0 j1 => by have := h.le j j0 j1; omega⟩
    · rw [if_neg c1, if_neg c1]
      have := h.ik
      exact ⟨h.i0, by omega, h.at_, fun j j0 j1 => by
        by_cases c2 : j = k
        · rw [c2]; omega
        · exact h.le j j0 (by omega), h.lt⟩
theorem firstOf_upperT {rs : List Int} (h : Rnds rs) {t : Int} (ht : ∀ r ∈ rs, r ≤ t) : ∀ k : Nat, firstOf rs k ≤ t * k
  | 0 => by rw [show ((0 : Nat) : Int) = 0 from rfl, firstOf_zero h]; omega
  | k + 1 => by
    have ih := firstOf_upperT h ht k
    obtain ⟨r, h1, h2, h3⟩ := get_round h (k : Int)
    have := firstOf_step h (k : Int) h1
    have := ht r h3
    push_cast
    rw [Int.mul_add]
    omega
theorem num_of_first {rs : List Int} (h : Rnds rs) {k n : Int} (hn : firstOf rs k ≤ n) : k ≤ numOf rs n := by
  have h1 := (numOf_spec h n).2
  by_cases c : k ≤ numOf rs n
  · exact c
  · have := firstOf_le h (i := numOf rs n + 1) (j := k) (by omega)
    omega
theorem lcmS_le (f s : Nat) : lcmS f s ≤ f * s := Nat.div_le_self _ _
theorem turn_le_prod : ∀ (rus : List (List Int × Int)) (a : Nat) (b : Int), (∀ ru ∈ rus, 0 < ru.1.sum) → (a : Int) ≤ b → ((rus.foldl (fun f ru => lcmS f ru.1.sum.toNat) a : Nat) : Int) ≤ rus.foldl (fun f ru => f * ru.1.sum) b
  | [], a, b, _, h => h
  | r :: rus, a, b, hs, h => by
    simp only [List.foldl_cons]
    refine turn_le_prod rus _ _ (fun ru hru => hs ru (List.mem_cons_of_mem _ hru)) ?_
    have h1 := hs r List.mem_cons_self
    have h2 := lcmS_le a r.1.sum.toNat
    have h3 : ((a * r.1.sum.toNat : Nat) : Int) = (a : Int) * r.1.sum := by
      rw [Int.natCast_mul, show (r.1.sum.toNat : Int) = r.1.sum by omega]
    have h4 : (a : Int) * r.1.sum ≤ b * r.1.sum := Int.mul_le_mul_of_nonneg_right h (by omega)
    omega
end Nk
/-! ### the layer's short words for this program -/
namespace Nk
open PySem L2 PySem.Spec PyProof.Rows
/-- a def of the top keeps a promise: called by its name -/
structure Fk (P : Program) (w : World) (K : PySem.W.Frag) (mg : Str → Option Value) (base : Heap) (CX : CXT) (k : Nat) (x : Str) (ps : List Str) (sp : Sp) : Prop where
  ex : ∃ (f : Addr) (fd : FuncData), mg x = some (.ref f) ∧ PySem.W.keepIn K (.ref f) = true ∧ Binds K fd ps [] ∧ FnOk P w K mg base CX k f fd ps sp
/-- a def as it stands behind the top -/
structure Df (K : PySem.W.Frag) (mg : Str → Option Value) (x qual : Str) (st : Stmt) (ps : List Str) : Prop where
  ex : ∃ (f : Addr) (fd : FuncData), Fun K x qual st f fd ∧ mg x = some (.ref f) ∧ Binds K fd ps []
section
variable {X : Cx} {CX : CXT} {k : Nat} {ps : List Str} {sp : Sp} {x : Str} {p pos : Pos} {e : Expr} {es : List Expr} {t : TA} {E : XK}
theorem pe_fn (F : Fk X.prog X.w X.K X.mg X.base CX k x ps sp) (hr : Room k X.A) (hg : Gl X x) (hx : Passes CX X E) (ha : PA X (e :: es) t) (hdb : (x == ("__debug__" : Str)) = false := by decide)
    (he : starEach (e :: es) X.env = (false, eval e X.env) :: starEach es X.env := by rfl) (hpl : (backTo pos (starEach es X.env)).any (·.1) = false := by rfl) :
    PE X (.Call (.Name x p) (e :: es) [] pos) (tCall sp [] E t) := by
  obtain ⟨f, fd, g, kp, b, G⟩ := F.ex
  exact pe_call G hr hg g kp b .nil hx ha hdb he hpl
theorem passX {X : Cx} {E : XK} (tk : Takes X (fun cls d _ H => E cls d H)) : Passes (L2.CX X.prog X.w) X E := passes_call tk (fun _ _ _ _ h => h)
end
/-- an own exception class without own __init__, over RuntimeError -/
structure Xc (K : PySem.W.Frag) (mg : Str → Option Value) (x : Str) (C : Addr) : Prop where
  gP : mg x = some (.ref C)
  xP : PySem.W.excIn K C [.type "RuntimeError", .type "Exception", .type "BaseException", .type "object"] "RuntimeError.__new__" = true
  kP : PySem.W.keepIn K (.ref C) = true
  bP : PySem.W.subIn K (.ref C) (.type "BaseException") = some true
  tP : PySem.W.typeIn K (.ref C) = some (.type "type")
theorem Xc.rs {X : Cx} {x : Str} {C : Addr} (h : Xc X.K X.mg x C) : Raises X (.ref C) := raises_own h.bP h.tP
/-! sum of a tuple -/
def rSumT (K : PySem.W.Frag) : List V → Hp → VK → Prop := fun vs H Q => ∃ (a : Addr) (ns : List Int), vs = [V.ref a] ∧ SqT K H a (ns.map V.int) ∧ Q (.int ns.sum) H
theorem cr_sumT {X : Cx} (hc : X.calm = true) : CallR X (.builtin "sum") (rSumT X.K) := by
  intro pins s σ H vs us Q I r h
  obtain ⟨a, ns, rfl, hs, q⟩ := h
  obtain ⟨its, rv, hl, _⟩ := I.tuple hs
  rw [Vals.ref1 r]
  have hi : IntsAre its ns := rv.ints
  obtain ⟨xs, hx⟩ := hi.allInts.items
  have hn : numsOf its.toArray.toList = ns := by rw [show its.toArray.toList = its from rfl, hi.numsOf]
  rw [hx] at hl hn
  rw [nums_intItems] at hn
  refine PySem.W.ktm_sumG (I.ok.hd hc) hl fun h' tk t' hk => ?_
  rw [preSum_eq, List.take_of_length_le (by simp), hn]
  exact ⟨.int _, H, I.kept hk, ⟨_, rfl⟩, q⟩
/-! heaps -/
/-- all but t is as it was -/
def But (t : Addr) (H H' : Hp) : Prop := ∀ b o, H b = some o → b ≠ t → H' b = some o
theorem But.refl {t : Addr} {H : Hp} : But t H H := fun _ _ h _ => h
theorem But.trans {t : Addr} {H H1 H2 : Hp} (a : But t H H1) (b : But t H1 H2) : But t H H2 := fun c o h n => b c o (a c o h n) n
theorem But.of {t : Addr} {H H' : Hp} (s : Same H H') : But t H H' := fun b o h _ => s b o h
theorem But.thenS {t : Addr} {H H1 H2 : Hp} (a : But t H H1) (b : Same H1 H2) : But t H H2 := a.trans (.of b)
theorem Same.thenB {t : Addr} {H H1 H2 : Hp} (a : Same H H1) (b : But t H1 H2) : But t H H2 := (But.of a).trans b
theorem same_upd {H : Hp} {p : Addr} {o : HO} (h : H p = none) : Same H (upd H p o) := fun b x e => by
  rw [upd_ne (ne_of_none e h)]
  exact e
theorem But.upd {t : Addr} {H : Hp} {o : HO} : But t H (upd H t o) := fun b x e n => by
  rw [upd_ne n]
  exact e
theorem But.tup {K : PySem.W.Frag} {t a : Addr} {H H' : Hp} {xs : List V} {l : List V} (b : But t H H') (ht : H t = some (.lst l)) (h : SqT K H a xs) : SqT K H' a xs := by
  rcases h with (h | ⟨o, h⟩) | h
  · exact .inl (.inl (b _ _ h (ne_of h ht (by intro z; cases z))))
  · exact .inl (.inr ⟨o, b _ _ h (ne_of h ht (by intro z; cases z))⟩)
  · exact .inr h
theorem But.lst {K : PySem.W.Frag} {t a : Addr} {H H' : Hp} {xs : List V} (b : But t H H') (ha : a ≠ t) (h : SqL K H a xs) : SqL K H' a xs := by
  rcases h with (h | ⟨o, h⟩) | h
  · exact .inl (.inl (b _ _ h ha))
  · exact .inl (.inr ⟨o, b _ _ h ha⟩)
  · exact .inr h
theorem Same.tup {K : PySem.W.Frag} {a : Addr} {H H' : Hp} {xs : List V} (e : Same H H') (h : SqT K H a xs) : SqT K H' a xs := by
  rcases h with (h | ⟨o, h⟩) | h
  · exact .inl (.inl (e _ _ h))
  · exact .inl (.inr ⟨o, e _ _ h⟩)
  · exact .inr h
theorem sqL {K : PySem.W.Frag} {H : Hp} {a : Addr} {xs : List V} (h : H a = some (.lst xs)) : SqL K H a xs := Or.inl (Or.inl h)
theorem sqT {K : PySem.W.Frag} {H : Hp} {a : Addr} {xs : List V} (h : H a = some (.tup xs)) : SqT K H a xs := Or.inl (Or.inl h)
theorem sz {n : Nat} (h : n ≤ 100000) : n ≤ sizeLine := Nat.le_trans h (by decide)
theorem szl {n : Nat} (h : n < 100000) : n < sizeLine := Nat.lt_of_lt_of_le h (by decide)
/-- a list that is read and is not t -/
def SqN (K : PySem.W.Frag) (H : Hp) (a t : Addr) (xs : List V) : Prop := (Rd H a (.lst xs) ∧ a ≠ t) ∨
    ∃ (o : Obj) (its : Array Value) (n : Nat), K.lookup a = some o ∧ o.cls = .type "list" ∧ o.dict = none ∧ o.data = .seq its n ∧ its.size ≤ sizeLine ∧ Vals xs its.toList
theorem SqN.l {K : PySem.W.Frag} {H : Hp} {a t : Addr} {xs : List V} (h : SqN K H a t xs) : SqL K H a xs := by
  rcases h with ⟨h, _⟩ | h
  · exact .inl h
  · exact .inr h
theorem SqN.but {K : PySem.W.Frag} {H H' : Hp} {a t : Addr} {xs : List V} (h : SqN K H a t xs) (b : But t H H') : SqN K H' a t xs := by
  rcases h with ⟨h | ⟨o, h⟩, n⟩ | h
  · exact .inl ⟨.inl (b _ _ h n), n⟩
  · exact .inl ⟨.inr ⟨o, b _ _ h n⟩, n⟩
  · exact .inr h
theorem SqN.same {K : PySem.W.Frag} {H H' : Hp} {a t : Addr} {xs : List V} (h : SqN K H a t xs) (b : Same H H') : SqN K H' a t xs := h.but (.of b)
theorem SqN.new {K : PySem.W.Frag} {H : Hp} {a t : Addr} {xs : List V} (h : SqL K H a xs) (ht : H t = none) : SqN K H a t xs := by
  rcases h with (h | ⟨o, h⟩) | h
  · exact .inl ⟨.inl h, ne_of_none h ht⟩
  · exact .inl ⟨.inr ⟨o, h⟩, ne_of_none h ht⟩
  · exact .inr h
theorem SqN.app {K : PySem.W.Frag} {H H' : Hp} {a t p : Addr} {xs : List V} {o : HO} (h : SqN K H' a t xs) (h0 : SqN K H a t xs) (hp : H p = none) : SqN K (upd H' p o) a t xs := by
  have sN : But p H' (upd H' p o) := But.upd
  rcases h0 with ⟨h' | ⟨o', h'⟩, n'⟩ | h'
  · rcases h with ⟨h | ⟨o, h⟩, n⟩ | h
    · exact .inl ⟨.inl (sN _ _ h (ne_of_none h' hp)), n⟩
    · exact .inl ⟨.inr ⟨o, sN _ _ h (ne_of_none h' hp)⟩, n⟩
    · exact .inr h
  · rcases h with ⟨h | ⟨o, h⟩, n⟩ | h
    · exact .inl ⟨.inl (sN _ _ h (ne_of_none h' hp)), n⟩
    · exact .inl ⟨.inr ⟨o, sN _ _ h (ne_of_none h' hp)⟩, n⟩
    · exact .inr h
  · exact .inr h'
theorem szN {n : Nat} (h : n ≤ 64) : (n ≤ sizeLine) = True := eq_true (sz (by omega))
/-! things -/
/-- what may be handed in, with the name of its type -/
inductive Thing (K : PySem.W.Frag) (H : Hp) : V → String → Prop
  | non : Thing K H .non "NoneType"
  | bl (b : Bool) : Thing K H (.bl b) "bool"
  | int (i : Int) : Thing K H (.int i) "int"
  | str (x : Str) : Thing K H (.str x) "str"
  | lst {a : Addr} {xs : List V} (h : H a = some (.lst xs)) : Thing K H (.ref a) "list"
  | tup {a : Addr} {xs : List V} (h : H a = some (.tup xs)) : Thing K H (.ref a) "tuple"
  | dic {a : Addr} {kvs : List (Key × V)} (h : H a = some (.dK kvs)) : Thing K H (.ref a) "dict"
theorem Thing.ty {K : PySem.W.Frag} {H : Hp} {x : V} {n : String} (h : Thing K H x n) : TyX K H x (.type n) := by
  cases h with
  | non => exact .base .non
  | bl b => exact .base (.bl b)
  | int i => exact .base (.int i)
  | str x => exact .base (.str x)
  | lst h => exact .base (.lst h)
  | tup h => exact .base (.tup h)
  | dic h => exact .base (.dK h)
theorem Thing.same {K : PySem.W.Frag} {H H' : Hp} {x : V} {n : String} (s : Same H H') (h : Thing K H x n) : Thing K H' x n := by
  cases h with
  | non => exact .non
  | bl b => exact .bl b
  | int i => exact .int i
  | str x => exact .str x
  | lst h => exact .lst (s _ _ h)
  | tup h => exact .tup (s _ _ h)
  | dic h => exact .dic (s _ _ h)
def isA (n : String) (T : String) : Bool := n == T || (n == "bool" && T == "int")
def tyNames : List String := ["NoneType", "bool", "int", "str", "list", "tuple", "dict"]
theorem Thing.mem {K : PySem.W.Frag} {H : Hp} {x : V} {n : String} (h : Thing K H x n) : n ∈ tyNames := by
  cases h <;> simp [tyNames]
theorem kit_all : ∀ n ∈ tyNames, ∀ T ∈ tyNames, kitB n T = some (isA n T) := by decide +kernel
theorem Thing.kit {K : PySem.W.Frag} {H : Hp} {x : V} {n : String} (h : Thing K H x n) {T : String} (hT : T ∈ tyNames) : PySem.W.kitOne K (.type n) (.type T) = some (isA n T) := kit_ty (kit_all n h.mem T hT)
/-- isinstance of a thing -/
theorem isi_thing {K : PySem.W.Frag} {H : Hp} {x : V} {n : String} {T : String} {Q : VK} (h : Thing K H x n) (hT : T ∈ tyNames) (q : Q (.bl (isA n T)) H) : rIsi K [x, .ty T] H Q :=
  ⟨x, .ty T, .type n, .type T, isA n T, rfl, .ty T, h.ty, h.kit hT, q⟩
def isWholeV : V → Bool
  | .int _ => true
  | _ => false
def isNumV (x : V) (lo : Int) (y : V) : Bool := match x, y with
  | .int i, .int hi => decide (lo ≤ i) && decide (i ≤ hi)
  | _, _ => false
end Nk
namespace Nk
open PySem L2 PySem.Spec PyProof.Rows
/-- where a class of the top stands -/
def cls (mg : Str → Option Value) (x : Str) : Addr := match mg x with
  | some (.ref a) => a
  | _ => 0
theorem cls_of {mg : Str → Option Value} {x : Str} {a : Addr} (h : mg x = some (.ref a)) : cls mg x = a := by
  unfold cls; rw [h]
section
variable {X : Cx} {x : Str} {i : Int} {z : Str} {pos : Pos}
theorem pe_globI (h : ∃ t, X.mg x = some (.int i t)) (hg : Gl X x) (hd : (x == ("__debug__" : Str)) = false := by decide) : PE X (.Name x pos) (tC (.int i)) := by
  obtain ⟨t, h⟩ := h
  exact pe_glob hg h ⟨_, rfl⟩ hd
theorem pe_globS (h : ∃ t, X.mg x = some (.str z t)) (hg : Gl X x) (hd : (x == ("__debug__" : Str)) = false := by decide) : PE X (.Name x pos) (tC (.str z)) := by
  obtain ⟨t, h⟩ := h
  exact pe_glob hg h ⟨_, rfl⟩ hd
end
section
variable {K : PySem.W.Frag} {h : Heap} {mg : Str → Option Value}
theorem df_mk {x qual : Str} {st : Stmt} {ps : List Str} {f : Addr} {oc : Value} {od an : Option Addr} {osl : Array (Option Value)} {kV doc pm cdv ct : Value} (X : K.In h) (G : h.Ns mainGlobals mg)
    (hb : ∀ (kV doc pm : Value) (an : Option Addr) (cdv ct : Value) (us : List Value), us.length = ps.length → bindArgs (PySem.W.fnOf x qual (defArgs st) (defBody st) (defScope st) .none kV doc pm an cdv ct) ⟨us, []⟩ = pure (ps.zip us))
    (a : PySem.W.nsIn K mainGlobals x = some (some (.ref f)))
    (l : K.lookup f = some ⟨oc, od, .func (PySem.W.fnOf x qual (defArgs st) (defBody st) (defScope st) .none kV doc pm an cdv ct), osl⟩)
    (c : PySem.W.codeIn K cdv qual = true) (k : PySem.W.keepIn K (.ref f) = true) : Df K mg x qual st ps := by
  have F := fun_mk (st := st) l c k
  exact ⟨f, _, F, PySem.W.mg_of X G a, F.binds hb⟩
theorem xc_mk {x : Str} {C : Addr} (X : K.In h) (G : h.Ns mainGlobals mg) (a : PySem.W.nsIn K mainGlobals x = some (some (.ref C)))
    (xP : PySem.W.excIn K C [.type "RuntimeError", .type "Exception", .type "BaseException", .type "object"] "RuntimeError.__new__" = true)
    (kP : PySem.W.keepIn K (.ref C) = true) (bP : PySem.W.subIn K (.ref C) (.type "BaseException") = some true) (tP : PySem.W.typeIn K (.ref C) = some (.type "type")) : Xc K mg x (cls mg x) := by
  have g := PySem.W.mg_of X G a
  rw [cls_of g]
  exact ⟨g, xP, kP, bP, tP⟩
theorem ci_mk {x : Str} {i : Int} {t : Tok} (X : K.In h) (G : h.Ns mainGlobals mg) (a : PySem.W.nsIn K mainGlobals x = some (some (.int i t))) : ∃ t, mg x = some (.int i t) := ⟨t, PySem.W.mg_of X G a⟩
theorem cs_mk {x z : Str} {t : Tok} (X : K.In h) (G : h.Ns mainGlobals mg) (a : PySem.W.nsIn K mainGlobals x = some (some (.str z t))) : ∃ t, mg x = some (.str z t) := ⟨t, PySem.W.mg_of X G a⟩
end
/-- the law's: a list of at most 63 ints is handed in, True comes out -/
def spLaw (K : PySem.W.Frag) : Sp := fun vs H Q _ => ∃ (a : Addr) (ns : List Int), vs = [.ref a] ∧ SqL K H a (ns.map V.int) ∧ ns.length ≤ 63 ∧ ∀ H', Q (.bl true) H'
theorem law_end {P : Program} {w : World} {K : PySem.W.Frag} {mg : Str → Option Value} {st : Stmt} {fa : Addr} {k : Nat} (hfa : mg "law" = some (.ref fa)) (D : Df K mg "law" "law" st ["script"])
    (hb : ∀ (kV doc pm : Value) (an : Option Addr) (cdv ct v : Value), bindArgs (PySem.W.fnOf "law" "law" (defArgs st) (defBody st) (defScope st) .none kV doc pm an cdv ct) ⟨[v], []⟩ = pure [(("script" : Str), v)])
    (G : ∀ (base : Heap) (f : Addr) (fd : FuncData), Fun K "law" "law" st f fd → FnOk P w K mg base CX0 k f fd ["script"] (spLaw K)) :
    ∃ fd : FuncData, (∀ (s : Shared) (v : Value), BindsTo s fd ⟨[v], []⟩ [("script", v)]) ∧ ∀ base : Heap, K.In base → base.Ns mainGlobals mg → FnOk P w K mg base CX0 k fa fd ["script"] (spLaw K) := by
  obtain ⟨f, fd, F, g, b⟩ := D.ex
  have e : fa = f := by
    have := hfa.symm.trans g
    cases this
    rfl
  subst e
  refine ⟨fd, fun s v => ?_, fun base _ _ => G base fa fd F⟩
  obtain ⟨oc, od, kV, doc, pm, an, cdv, ct, osl, rfl, lk, hcd⟩ := F.ex
  exact .of_eq (hb _ _ _ _ _ _ _)
end Nk
namespace Nk
open PySem L2 PySem.Spec PyProof.Rows
theorem Same.keepN {H H' : Hp} {t : Addr} {o : HO} (s : Same H H') (n : H t = none) : Same H (upd H' t o) := fun b x e => by
  rw [upd_ne (ne_of_none e n)]
  exact s b x e
/-- within a comprehension that leaves all else: G i is the list behind i items -/
structure LcP (H1 : Hp) (D : Addr) (G : Nat → List V) (i : Nat) (H : Hp) : Prop where
  same : Same H1 H
  at_ : H D = some (.lst (G i))
theorem LcP.push {H1 H H4 : Hp} {D : Addr} {G : Nat → List V} {i : Nat} {y : V} (p : LcP H1 D G i H) (hD : H1 D = none) (hl : (G i).length ≤ 99999) (s : Same H H4) (e : G (i + 1) = G i ++ [y]) :
    ∃ acc, H4 D = some (.lst acc) ∧ acc.length < sizeLine ∧ LcP H1 D G (i + 1) (upd H4 D (.lst (acc ++ [y]))) :=
  ⟨G i, s _ _ p.at_, szl (by omega), Same.keepN (p.same.trans s) hD, by rw [upd_same, e]⟩
theorem LcP.skip {H1 H H4 : Hp} {D : Addr} {G : Nat → List V} {i : Nat} (p : LcP H1 D G i H) (s : Same H H4) (e : G (i + 1) = G i) : LcP H1 D G (i + 1) H4 :=
  ⟨p.same.trans s, by rw [e]; exact s _ _ p.at_⟩
theorem lcT {K : PySem.W.Frag} {a : Addr} {xs : List V} {g : TG} {tt : TT} {te : TE} {vs : List Nat} {σ : L2.St} {H1 : Hp} {D : Addr} {Qd : Hp → Prop} (hD : H1 D = none) (hT : SqT K H1 a xs) (G : Nat → List V) (h0 : G 0 = [])
    (hs : ∀ i x H, xs[i]? = some x → LcP H1 D G i H → g x (wipe σ vs) H fun σ2 H2 => wipe σ2 vs = wipe σ vs ∧ tt σ2 H2 fun b H3 =>
      if b = true then te σ2 H3 fun y H4 => ∃ acc, H4 D = some (.lst acc) ∧ acc.length < sizeLine ∧ LcP H1 D G (i + 1) (upd H4 D (.lst (acc ++ [y]))) else LcP H1 D G (i + 1) H3) (hd : ∀ H, Same H1 H → H D = some (.lst (G xs.length)) → Qd H) :
    ∃ W : Nat → Nat → Hp → Prop, (∃ m, W 0 m (upd H1 D (.lst []))) ∧ ∀ i m H, W i m H →
      ((Itt K a).stop i H ∧ Qd H) ∨ ((Itt K a).go i H ∧ ∃ Nx : Hp → Prop, (∀ H', Nx H' → ∃ m', m' < m ∧ W (i + 1) m' H') ∧ ∀ x H', (Itt K a).yld i H x H' → g x (wipe σ vs) H' fun σ2 H2 => wipe σ2 vs = wipe σ vs ∧ tt σ2 H2 fun b H3 =>
        if b = true then te σ2 H3 fun y H4 => ∃ acc, H4 D = some (.lst acc) ∧ acc.length < sizeLine ∧ Nx (upd H4 D (.lst (acc ++ [y]))) else Nx H3) :=
  lc_tup (K := K) (a := a) (xs := xs) (LcP H1 D G) ⟨same_upd hD, by rw [h0]; exact upd_same⟩ (fun i H _ p => Same.tup p.same hT) hs fun H p => hd H p.same p.at_
theorem lcL {K : PySem.W.Frag} {a : Addr} {xs : List V} {g : TG} {tt : TT} {te : TE} {vs : List Nat} {σ : L2.St} {H1 : Hp} {D : Addr} {Qd : Hp → Prop} (hD : H1 D = none) (hT : SqL K H1 a xs) (G : Nat → List V) (h0 : G 0 = [])
    (hs : ∀ i x H, xs[i]? = some x → LcP H1 D G i H → g x (wipe σ vs) H fun σ2 H2 => wipe σ2 vs = wipe σ vs ∧ tt σ2 H2 fun b H3 =>
      if b = true then te σ2 H3 fun y H4 => ∃ acc, H4 D = some (.lst acc) ∧ acc.length < sizeLine ∧ LcP H1 D G (i + 1) (upd H4 D (.lst (acc ++ [y]))) else LcP H1 D G (i + 1) H3) (hd : ∀ H, Same H1 H → H D = some (.lst (G xs.length)) → Qd H) :
    ∃ W : Nat → Nat → Hp → Prop, (∃ m, W 0 m (upd H1 D (.lst []))) ∧ ∀ i m H, W i m H →
      ((Itl K a).stop i H ∧ Qd H) ∨ ((Itl K a).go i H ∧ ∃ Nx : Hp → Prop, (∀ H', Nx H' → ∃ m', m' < m ∧ W (i + 1) m' H') ∧ ∀ x H', (Itl K a).yld i H x H' → g x (wipe σ vs) H' fun σ2 H2 => wipe σ2 vs = wipe σ vs ∧ tt σ2 H2 fun b H3 =>
        if b = true then te σ2 H3 fun y H4 => ∃ acc, H4 D = some (.lst acc) ∧ acc.length < sizeLine ∧ Nx (upd H4 D (.lst (acc ++ [y]))) else Nx H3) :=
  lc_list (K := K) (a := a) (xs := xs) (LcP H1 D G) ⟨same_upd hD, by rw [h0]; exact upd_same⟩ (fun i H _ p => p.same.seq hT) hs fun H p => hd H p.same p.at_
theorem lcR {lo : Int} {n : Nat} {g : TG} {tt : TT} {te : TE} {vs : List Nat} {σ : L2.St} {H1 : Hp} {D : Addr} {Qd : Hp → Prop} (hD : H1 D = none) (G : Nat → List V) (h0 : G 0 = [])
    (hs : ∀ i H, i < n → LcP H1 D G i H → g (.int (lo + i)) (wipe σ vs) H fun σ2 H2 => wipe σ2 vs = wipe σ vs ∧ tt σ2 H2 fun b H3 =>
      if b = true then te σ2 H3 fun y H4 => ∃ acc, H4 D = some (.lst acc) ∧ acc.length < sizeLine ∧ LcP H1 D G (i + 1) (upd H4 D (.lst (acc ++ [y]))) else LcP H1 D G (i + 1) H3) (hd : ∀ H, Same H1 H → H D = some (.lst (G n)) → Qd H) :
    ∃ W : Nat → Nat → Hp → Prop, (∃ m, W 0 m (upd H1 D (.lst []))) ∧ ∀ i m H, W i m H →
      ((Itr lo n).stop i H ∧ Qd H) ∨ ((Itr lo n).go i H ∧ ∃ Nx : Hp → Prop, (∀ H', Nx H' → ∃ m', m' < m ∧ W (i + 1) m' H') ∧ ∀ x H', (Itr lo n).yld i H x H' → g x (wipe σ vs) H' fun σ2 H2 => wipe σ2 vs = wipe σ vs ∧ tt σ2 H2 fun b H3 =>
        if b = true then te σ2 H3 fun y H4 => ∃ acc, H4 D = some (.lst acc) ∧ acc.length < sizeLine ∧ Nx (upd H4 D (.lst (acc ++ [y]))) else Nx H3) :=
  lc_range (LcP H1 D G) ⟨same_upd hD, by rw [h0]; exact upd_same⟩ hs fun H p => hd H p.same p.at_
theorem take_next {α : Type} {l : List α} {i : Nat} {x : α} (h : l[i]? = some x) : l.take (i + 1) = l.take i ++ [x] := by
  rw [List.take_add_one, h]; rfl
theorem map_take_next {α β : Type} {l : List α} {i : Nat} {x : α} (f : α → β) (h : l[i]? = some x) : (l.take (i + 1)).map f = (l.take i).map f ++ [f x] := by
  rw [take_next h]; simp
theorem filter_take_next {α : Type} {l : List α} {i : Nat} {x : α} (f : α → Bool) (h : l[i]? = some x) : (l.take (i + 1)).filter f = (l.take i).filter f ++ (if f x = true then [x] else []) := by
  rw [take_next h, List.filter_append]; cases e : f x <;> simp [e]
theorem filter_len {α : Type} (l : List α) (f : α → Bool) (i : Nat) : ((l.take i).filter f).length ≤ l.length :=
  Nat.le_trans (List.length_filter_le _ _) (by simp; omega)
theorem lt_of_get {α : Type} {l : List α} {i : Nat} {x : α} (h : l[i]? = some x) : i < l.length := (List.getElem?_eq_some_iff.mp h).1
theorem mem_of_get {α : Type} {l : List α} {i : Nat} {x : α} (h : l[i]? = some x) : x ∈ l := List.mem_of_getElem? h
end Nk
namespace Nk
open PySem L2
theorem seq_k {t u : TS} {D : Ends} {σ : L2.St} {H : Hp} (h : ∀ Kt : L2.St → Hp → Prop, Kt = u D → t { D with nx := Kt } σ H) : tSeq t u D σ H := h _ rfl
theorem gCons_cons {t : TG} {u : TGs} {v : V} {r : List V} {σ : L2.St} {H : Hp} {Q : L2.St → Hp → Prop} : gCons t u (v :: r) σ H Q = t v σ H fun σ' H' => u r σ' H' Q := by
  simp only [gCons, List.cons.injEq]
  refine propext ⟨?_, fun h => ⟨v, r, ⟨rfl, rfl⟩, h⟩⟩
  rintro ⟨v', r', ⟨rfl, rfl⟩, h⟩
  exact h
theorem gNil_nil {σ : L2.St} {H : Hp} {Q : L2.St → Hp → Prop} : gNil [] σ H Q = Q σ H := by
  simp only [gNil, true_and]
theorem scal_ii {a b : Int} : scal (.int a) (.int b) = true := rfl
theorem scal_ss {a b : Str} : scal (.str a) (.str b) = true := rfl
theorem scal_bb {a b : Bool} : scal (.bl a) (.bl b) = true := rfl
theorem scal_nn : scal .non .non = true := rfl
theorem scal_ni {b : Int} : scal .non (.int b) = true := rfl
theorem scal_in {b : Int} : scal (.int b) .non = true := rfl
theorem scal_ns {b : Str} : scal .non (.str b) = true := rfl
theorem scal_sn {b : Str} : scal (.str b) .non = true := rfl
theorem scal_is {a : Int} {b : Str} : scal (.int a) (.str b) = true := rfl
theorem scal_si {a : Int} {b : Str} : scal (.str b) (.int a) = true := rfl
end Nk
namespace Nk
open PySem L2
/-- what a for asks when its iterator stands -/
def ForW (J : It) (g : TG) (tb : TS) (D : Ends) (σ : L2.St) (H : Hp) : Prop := ∃ W : Nat → Nat → L2.St → Hp → Prop, (∃ m, W 0 m σ H) ∧ ∀ i m σ H, W i m σ H →
  (J.stop i H ∧ D.nx σ H) ∨ (J.go i H ∧ ∃ N : L2.St → Hp → Prop, (∀ σ' H', N σ' H' → ∃ m', m' < m ∧ W (i + 1) m' σ' H') ∧ ∀ x H', J.yld i H x H' → g x σ H' fun σ2 H2 => tb { D with nx := N, ct := N, bk := D.nx } σ2 H2)
theorem tFor_k {wi : TI} {g : TG} {tb : TS} {D : Ends} {σ : L2.St} {H : Hp} : tFor wi g tb D σ H = wi σ H fun J H1 => ForW J g tb D σ H1 := rfl
/-- what a comprehension asks when its iterator and its list stand -/
def LcW (J : It) (g : TG) (tt : TT) (te : TE) (vs : List Nat) (σ : L2.St) (H1 : Hp) (D : Addr) (Qd : Hp → Prop) : Prop := ∃ W : Nat → Nat → Hp → Prop, (∃ m, W 0 m (upd H1 D (.lst []))) ∧ ∀ i m H, W i m H →
  (J.stop i H ∧ Qd H) ∨ (J.go i H ∧ ∃ Nx : Hp → Prop, (∀ H', Nx H' → ∃ m', m' < m ∧ W (i + 1) m' H') ∧ ∀ x H', J.yld i H x H' → g x (wipe σ vs) H' fun σ2 H2 => wipe σ2 vs = wipe σ vs ∧ tt σ2 H2 fun b H3 =>
    if b = true then te σ2 H3 fun y H4 => ∃ acc, H4 D = some (.lst acc) ∧ acc.length < sizeLine ∧ Nx (upd H4 D (.lst (acc ++ [y]))) else Nx H3)
theorem tLc_k {wi : TI} {g : TG} {tt : TT} {te : TE} {vs : List Nat} {σ : L2.St} {H : Hp} {Q : VK} : tLc wi g tt te vs σ H Q = wi σ H fun J H1 => ∀ D, H1 D = none → LcW J g tt te vs σ H1 D (fun H => Q (.ref D) H) := rfl
end Nk
/-! ### data compared by == -/
namespace Nk
open PySem L2
/-- data of depth at most k, without truths and dicts -/
def gd : Nat → PyData → Bool
  | _, .none => true
  | _, .int _ => true
  | _, .str x => PyData.strOk x
  | _, .bool _ => false
  | _, .dict _ => false
  | 0, .list _ => false
  | 0, .tuple _ => false
  | k + 1, .list xs => xs.all (gd k)
  | k + 1, .tuple xs => xs.all (gd k)
theorem gd_all {k : Nat} : ∀ {xs : List PyData}, xs.all (gd k) = true → ∀ x ∈ xs, gd k x = true := fun h x hx => List.all_eq_true.mp h x hx
theorem canLayAll_of : ∀ {xs : List PyData}, (∀ x ∈ xs, x.canLay0 = true) → PyData.canLayAll0 xs = true
  | [], _ => by simp [PyData.canLayAll0]
  | x :: xs, h => by
    have h1 := h x List.mem_cons_self
    have h2 := canLayAll_of (xs := xs) fun y hy => h y (List.mem_cons_of_mem _ hy)
    simp [PyData.canLayAll0, h1, h2]
theorem depthAll_le {k : Nat} : ∀ {xs : List PyData}, (∀ x ∈ xs, x.depth ≤ k) → PyData.depthAll xs ≤ k
  | [], _ => by simp [PyData.depthAll]
  | x :: xs, h => by
    have h1 := h x List.mem_cons_self
    have h2 := depthAll_le (xs := xs) fun y hy => h y (List.mem_cons_of_mem _ hy)
    simp only [PyData.depthAll]
    omega
theorem gd_lay : ∀ (k : Nat) (d : PyData), gd k d = true → d.canLay0 = true ∧ d.depth ≤ k
  | k, .none, _ => by simp [PyData.canLay0, PyData.depth]
  | k, .int _, _ => by simp [PyData.canLay0, PyData.depth]
  | k, .str x, h => by
    have h' : PyData.strOk x = true := by cases k <;> simpa [gd] using h
    simp [PyData.canLay0, PyData.depth, h']
  | k, .bool _, h => by cases k <;> simp [gd] at h
  | k, .dict _, h => by cases k <;> simp [gd] at h
  | 0, .list _, h => by simp [gd] at h
  | 0, .tuple _, h => by simp [gd] at h
  | k + 1, .list xs, h => by
    have h' : xs.all (gd k) = true := by simpa [gd] using h
    have a := gd_all h'
    simp only [PyData.canLay0, PyData.depth]
    exact ⟨canLayAll_of fun x hx => (gd_lay k x (a x hx)).1, Nat.succ_le_succ (depthAll_le fun x hx => (gd_lay k x (a x hx)).2)⟩
  | k + 1, .tuple xs, h => by
    have h' : xs.all (gd k) = true := by simpa [gd] using h
    have a := gd_all h'
    simp only [PyData.canLay0, PyData.depth]
    exact ⟨canLayAll_of fun x hx => (gd_lay k x (a x hx)).1, Nat.succ_le_succ (depthAll_le fun x hx => (gd_lay k x (a x hx)).2)⟩
theorem gd_shaped {k : Nat} {d : PyData} (h : gd k d = true) (hk : k ≤ 64 := by decide) : SeqAt.shaped d = true := by
  obtain ⟨h1, h2⟩ := gd_lay k d h
  unfold SeqAt.shaped
  rw [h1]
  simp
  omega
theorem eqvAll_iff : ∀ (xs ys : List PyData), (∀ x ∈ xs, ∀ y ∈ ys, PyData.eqv x y = true ↔ x = y) → (PyData.eqvAll xs ys = true ↔ xs = ys)
  | [], [], _ => by simp [PyData.eqvAll]
  | [], _ :: _, _ => by simp [PyData.eqvAll]
  | _ :: _, [], _ => by simp [PyData.eqvAll]
  | x :: xs, y :: ys, h => by
    have h1 := h x List.mem_cons_self y List.mem_cons_self
    have h2 := eqvAll_iff xs ys fun a ha b hb => h a (List.mem_cons_of_mem _ ha) b (List.mem_cons_of_mem _ hb)
    simp [PyData.eqvAll, h1, h2]
theorem eqv_iff : ∀ (k m : Nat) (d e : PyData), gd k d = true → gd m e = true → (PyData.eqv d e = true ↔ d = e)
  | k, m, .bool _, e, h, _ => by cases k <;> simp [gd] at h
  | k, m, .dict _, e, h, _ => by cases k <;> simp [gd] at h
  | k, m, .none, e, _, h => by
    cases e with
    | bool _ => cases m <;> simp [gd] at h
    | dict _ => cases m <;> simp [gd] at h
    | _ => simp [PyData.eqv]
  | k, m, .int i, e, _, h => by
    cases e with
    | bool _ => cases m <;> simp [gd] at h
    | dict _ => cases m <;> simp [gd] at h
    | _ => simp [PyData.eqv]
  | k, m, .str i, e, _, h => by
    cases e with
    | bool _ => cases m <;> simp [gd] at h
    | dict _ => cases m <;> simp [gd] at h
    | _ => simp [PyData.eqv]
  | 0, m, .list _, e, h, _ => by simp [gd] at h
  | 0, m, .tuple _, e, h, _ => by simp [gd] at h
  | k + 1, m, .list xs, e, hd, h => by
    cases e with
    | bool _ => cases m <;> simp [gd] at h
    | dict _ => cases m <;> simp [gd] at h
    | list ys =>
      cases m with
      | zero => simp [gd] at h
      | succ m =>
        have a := gd_all (k := k) (xs := xs) (by simpa [gd] using hd)
        have b := gd_all (k := m) (xs := ys) (by simpa [gd] using h)
        simp only [PyData.eqv, PyData.list.injEq]
        exact eqvAll_iff xs ys fun x hx y hy => eqv_iff k m x y (a x hx) (b y hy)
    | _ => simp [PyData.eqv]
  | k + 1, m, .tuple xs, e, hd, h => by
    cases e with
    | bool _ => cases m <;> simp [gd] at h
    | dict _ => cases m <;> simp [gd] at h
    | tuple ys =>
      cases m with
      | zero => simp [gd] at h
      | succ m =>
        have a := gd_all (k := k) (xs := xs) (by simpa [gd] using hd)
        have b := gd_all (k := m) (xs := ys) (by simpa [gd] using h)
        simp only [PyData.eqv, PyData.tuple.injEq]
        exact eqvAll_iff xs ys fun x hx y hy => eqv_iff k m x y (a x hx) (b y hy)
    | _ => simp [PyData.eqv]
theorem eqv_of_eq {k : Nat} {d e : PyData} (h : gd k d = true) (e1 : d = e) : PyData.eqv d e = true := by
  subst e1
  exact (eqv_iff k k d d h h).mpr rfl
theorem eqv_of_ne {k m : Nat} {d e : PyData} (h : gd k d = true) (h' : gd m e = true) (e1 : d ≠ e) : PyData.eqv d e = false := by
  cases q : PyData.eqv d e with
  | false => rfl
  | true => exact absurd ((eqv_iff k m d e h h').mp q) e1
/-- the data of lists of ints, of tuples of ints -/
abbrev dLI (ns : List Int) : PyData := .list (ns.map .int)
abbrev dTI (ns : List Int) : PyData := .tuple (ns.map .int)
theorem gd_int_all (k : Nat) (ns : List Int) : (ns.map PyData.int).all (gd k) = true := by
  rw [List.all_eq_true]
  intro x hx
  obtain ⟨i, _, rfl⟩ := List.mem_map.mp hx
  cases k <;> rfl
theorem gd_dLI {k : Nat} (ns : List Int) : gd (k + 1) (dLI ns) = true := by simp only [dLI, gd]; exact gd_int_all k ns
theorem gd_dTI {k : Nat} (ns : List Int) : gd (k + 1) (dTI ns) = true := by simp only [dTI, gd]; exact gd_int_all k ns
theorem dpAll_ints {K : PySem.W.Frag} {H : Hp} : ∀ ns : List Int, DpAll K H (ns.map V.int) (ns.map PyData.int)
  | [] => .nil
  | n :: ns => .cons (.int n) (dpAll_ints ns)
theorem dp_LI {K : PySem.W.Frag} {H : Hp} {a : Addr} {ns : List Int} (h : SqL K H a (ns.map V.int)) : Dp K H (.ref a) (dLI ns) := .lst h (dpAll_ints ns)
theorem dp_TI {K : PySem.W.Frag} {H : Hp} {a : Addr} {ns : List Int} (h : SqT K H a (ns.map V.int)) : Dp K H (.ref a) (dTI ns) := .tup h (dpAll_ints ns)
theorem dLI_inj {ns ms : List Int} : dLI ns = dLI ms ↔ ns = ms := by
  constructor
  · intro h
    have h' : ns.map PyData.int = ms.map PyData.int := PyData.list.inj h
    exact (List.map_inj_right (fun _ _ q => PyData.int.inj q)).mp h'
  · intro h; rw [h]
theorem dTI_inj {ns ms : List Int} : dTI ns = dTI ms ↔ ns = ms := by
  constructor
  · intro h
    have h' : ns.map PyData.int = ms.map PyData.int := PyData.tuple.inj h
    exact (List.map_inj_right (fun _ _ q => PyData.int.inj q)).mp h'
  · intro h; rw [h]
/-- == of two data -/
theorem eqD {K : PySem.W.Frag} {H : Hp} {x y : V} {d e : PyData} {Q : VK} {k m : Nat} (hd : Dp K H x d) (he : Dp K H y e) (gk : gd k d = true) (gm : gd m e = true) (h1 : d = e → Q (.bl true) H) (h2 : d ≠ e → Q (.bl false) H) (hk : k ≤ 64 := by decide) (hm : m ≤ 64 := by decide) : rEqD K x y H Q := by
  refine ⟨d, e, hd, he, gd_shaped gk hk, gd_shaped gm hm, ?_⟩
  by_cases c : d = e
  · rw [eqv_of_eq gk c]; exact h1 c
  · rw [eqv_of_ne gk gm c]; exact h2 c
theorem neD {K : PySem.W.Frag} {H : Hp} {x y : V} {d e : PyData} {Q : VK} {k m : Nat} (hd : Dp K H x d) (he : Dp K H y e) (gk : gd k d = true) (gm : gd m e = true) (h1 : d = e → Q (.bl false) H) (h2 : d ≠ e → Q (.bl true) H) (hk : k ≤ 64 := by decide) (hm : m ≤ 64 := by decide) : rNeD K x y H Q := by
  refine ⟨d, e, hd, he, gd_shaped gk hk, gd_shaped gm hm, ?_⟩
  by_cases c : d = e
  · rw [eqv_of_eq gk c]; exact h1 c
  · rw [eqv_of_ne gk gm c]; exact h2 c
theorem newF {H H' : Hp} {p : Addr} {o : HO} (hp : H p = none) (e : upd H p o = H') : Same H H' ∧ H' p = some o := by
  subst e
  exact ⟨same_upd hp, upd_same⟩
/-- an item of a list, by its place -/
theorem ixL {K : PySem.W.Frag} {H : Hp} {p : Addr} {xs : List V} {i : Int} {j : Nat} {v : V} {Q : VK} (h : SqL K H p xs) (hi : i = (j : Int)) (e : xs[j]? = some v) (q : Q v H) : rIxL K (.ref p) (.int i) H Q :=
  ⟨p, xs, i, v, rfl, rfl, h, by rw [hi]; exact atI_nat e, q⟩
theorem ixT {K : PySem.W.Frag} {H : Hp} {p : Addr} {xs : List V} {i : Int} {j : Nat} {v : V} {Q : VK} (h : SqT K H p xs) (hi : i = (j : Int)) (e : xs[j]? = some v) (q : Q v H) : rIxT K (.ref p) (.int i) H Q :=
  ⟨p, xs, i, v, rfl, rfl, h, by rw [hi]; exact atI_nat e, q⟩
theorem setL {H : Hp} {p : Addr} {xs : List V} {i : Int} {j : Nat} {v : V} {Q : Hp → Prop} (h : H p = some (.lst xs)) (hi : i = (j : Int)) (e : j < xs.length) (q : Q (upd H p (.lst (xs.set j v)))) : rSetL (.ref p) (.int i) v H Q :=
  ⟨p, xs, i, j, rfl, rfl, h, by rw [hi]; unfold ixN; rw [if_pos (by omega), if_pos (by omega)]; simp, q⟩
theorem tyL {K : PySem.W.Frag} {H : Hp} {l : Addr} {xs : List V} (h : H l = some (.lst xs)) : tyV K "list" (.ref l) H := .inl ⟨rfl, _, SqL.of h⟩
theorem appR {H : Hp} {l : Addr} {xs : List V} {y : V} {Q : VK} (h : H l = some (.lst xs)) (hz : xs.length ≤ 99999) (q : Q .non (upd H l (.lst (xs ++ [y])))) : rAppend (.ref l) [y] H Q :=
  ⟨l, xs, y, rfl, rfl, h, szl (by omega), q⟩
theorem app {K : PySem.W.Frag} {H : Hp} {l : Addr} {xs : List V} {y : V} {Q : VK} (h : H l = some (.lst xs)) (hz : xs.length ≤ 99999) (q : Q .non (upd H l (.lst (xs ++ [y])))) : tyV K "list" (.ref l) H ∧ rAppend (.ref l) [y] H Q :=
  ⟨tyL h, l, xs, y, rfl, rfl, h, szl (by omega), q⟩
theorem Same.app {H H' : Hp} {p : Addr} {o : HO} (s : Same H H') (n : H p = none) : Same H (upd H' p o) := fun b x e => by
  rw [upd_ne (ne_of_none e n)]
  exact s b x e
theorem inV_ints (n : Int) (l : List Int) : inV (.int n) (l.map V.int) = decide (n ∈ l) := by
  unfold inV
  rw [List.any_map, Bool.eq_iff_iff, List.any_eq_true, decide_eq_true_eq]
  constructor
  · rintro ⟨x, hx, e⟩
    have : x = n := by simpa [eqV] using e
    rw [← this]; exact hx
  · intro h
    exact ⟨n, h, by simp [eqV]⟩
theorem flat_ints (l : List Int) : (l.map V.int).all flatV = true := by
  rw [List.all_eq_true]
  intro x hx
  obtain ⟨i, _, rfl⟩ := List.mem_map.mp hx
  rfl
end Nk
/-! ### d.keys() as a value; sorted of it -/
namespace Nk
open PySem L2 PySem.Spec PyProof.Rows
def KeysO (v d : Addr) : HO := .ext fun h => PySem.W.KdlKeysView h v d
theorem keysO_ok {P : Program} {w : World} {H : Hp} {h : Heap} {v d : Addr} (e : PySem.W.KdlKeysView h v d) : ObjOk P w H h v (KeysO v d) := by
  obtain ⟨o, ho, hc, hd⟩ := e
  exact ⟨⟨o, ho, hc, hd⟩, ⟨o, ho⟩, fun h1 h2 ⟨o', q, r⟩ k => ⟨o', k o' q, r⟩⟩
def rKeys : V → List V → Hp → VK → Prop := fun x xs H Q => ∃ (d : Addr) (kvs : List (Key × V)), x = .ref d ∧ xs = [] ∧ H d = some (.dK kvs) ∧ ∀ v, H v = none → Q (.ref v) (upd H v (KeysO v d))
section
variable {X : Cx}
theorem mt_keys : MtR X "dict.keys" rKeys := by
  intro pins s σ H x xs v us Q I rx rxs h
  obtain ⟨d, kvs, rfl, rfl, hd, q⟩ := h
  cases rx
  cases rxs
  obtain ⟨hz, hs0, vs, kv, hdo⟩ := I.hok d _ hd
  refine PySem.call_meetsIn F.slot_dict_keys hdo.typeIs F.entry_dict_keys (F.args_dict_keys_1 _) (PySem.W.kdl_meets_keys (mixKind X.prog X.w) d hs0) ⟨⟨vs, hdo⟩, ?_⟩
  refine ⟨.ref s.heap.objs.size, upd H s.heap.objs.size (KeysO s.heap.objs.size d), I.laid (t' := s.toks) (fun b ob q => Heap.get?_push_of_some _ q) (Nat.le_refl _) (keysO_ok ⟨_, Heap.get?_push_size _ rfl, rfl, rfl⟩), rfl, q _ (I.hok.fresh (Nat.le_refl _))⟩
/-- sorted(d.keys()), whole numbers, any number of them -/
def rSortedKI : List V → Hp → VK → Prop := fun xs H Q => ∃ (v d : Addr) (kvs : List (Key × V)) (ks : List Int), xs = [.ref v] ∧ H v = some (KeysO v d) ∧ H d = some (.dK kvs) ∧ kvs.map (·.1) = ks.map Sum.inl ∧
  ∀ (ys : List Int) (p : Addr), ys.Perm ks → ys.Pairwise (· ≤ ·) → H p = none → Q (.ref p) (upd H p (.lst (ys.map V.int)))
theorem cr_sortedKI (hcalm : X.calm = true) : CallR X (.builtin "sorted") rSortedKI := by
  intro pins s σ H xs us Q I r q
  obtain ⟨v, a, kvs, ks, ex, hv, hd, hks, q⟩ := q
  subst ex
  obtain ⟨u, eu, rx⟩ := vals1 r
  subst eu
  cases rx
  have hview : PySem.W.KdlKeysView s.heap v a := (I.hok v _ hv).1
  obtain ⟨z, lo, vs, rel, dd⟩ := I.hok a _ hd
  obtain ⟨ep, hat⟩ := dd.dictAt
  have hkeys : vs.map (·.1) = ks.map Sum.inl := rel.keys.symm.trans hks
  have hl : vs.length = ks.length := by
    have e := congrArg List.length hkeys
    rw [List.length_map, List.length_map] at e
    exact e
  have hl2 : kvs.length = vs.length := Paired.length rel
  have h16 : vs.length ≤ sizeLine := by omega
  refine Calls.call_function_entry PyProof.Rows.kind_sorted PyProof.Rows.plain_sorted PyProof.Rows.entry_sorted (PyProof.Rows.args_sorted1 _) ?_
  unfold Builtin.«sorted»
  refine wpAny_bind (m := checkCount "sorted" 1 1 _) (wpAny_pure ?_)
  refine wpAny_bind (PySem.W.kdu_collect (A := X.A.in1) (PySem.W.kdl_keys (knd := mixKind X.prog X.w) (r := v) (d := a) (kvs := vs) (ep := ep)) (I.ok.hd hcalm) ⟨hview, hat⟩ h16 fun h' tk acc hk hacc => ?_)
  have hal : acc.toList.length = ks.length := by rw [Array.length_toList, hacc.1, hl]
  have hS : IntsAre acc.toList ks := ints_each hal fun j v e => by
    obtain ⟨k, x, e1, e2⟩ := hacc.2 j v (by rw [← Array.getElem?_toList]; exact e)
    have e3 : (vs.map (·.1))[j]? = some k := by rw [List.getElem?_map, e1]; rfl
    rw [hkeys, List.getElem?_map] at e3
    cases e4 : ks[j]? with
    | none => rw [e4] at e3; cases e3
    | some y =>
      rw [e4] at e3
      have e5 : Sum.inl y = k := Option.some.inj e3
      subst e5
      rcases keyIs_shape (show keyIs (Sum.inl y) v = true from e2) with ⟨i, t, ek, ev⟩ | ⟨z, t, ek, ev⟩
      · cases ek
        exact ⟨y, t, rfl, ev⟩
      · cases ek
  have I1 : Inv X pins σ H { s with heap := h', toks := tk } := I.kept hk
  refine wpAny_bind (wpAny_newList ?_ (by rw [hal]; omega))
  have hoL : (h'.push (seqObj "list" acc.toList.toArray 0)).get? h'.objs.size = some (seqObj "list" acc.toList.toArray 0) := Heap.get?_push_size _ rfl
  show wpAny _ _ _ _ _ { s with heap := h'.push (seqObj "list" acc.toList.toArray 0), toks := tk }
  refine wpAny_bind (wpAny_holding (wpAny_call_entry PyProof.Rows.slot_list_sort ⟨_, hoL, rfl⟩ PyProof.Rows.entry_list_sort
    (SrtO.list_sort_ord (s := { s with heap := h'.push (seqObj "list" acc.toList.toArray 0), toks := tk }) SrtO.swo_int hoL (by rw [hal]; omega) (fun h2 => SrtO.ints_sortable hS h2) fun out g1 g2 => ⟨_, rfl, ?_⟩) (PyProof.Rows.args_list_sort _)))
  obtain ⟨k1, k2, k3⟩ := SrtO.ints_out hS g1 g2
  obtain ⟨e', he'⟩ := PyProof.Rows.sortedHeap_at (vs := acc.toList) (out := out.toArray) hoL
  have hlen : ((out.map SrtO.iv).map V.int).length ≤ sizeLine := by
    rw [List.length_map, k2.length_eq]
    omega
  refine wpAny_pure ⟨_, rfl, .ref h'.objs.size, upd H h'.objs.size (.lst ((out.map SrtO.iv).map V.int)), I1.laid (t' := tk) (fun b u e => ?_) (Nat.le_refl _)
    (show ObjOk X.prog X.w _ _ _ (.lst ((out.map SrtO.iv).map V.int)) from ⟨hlen, out, e', vals_of_ints k1, he'⟩), rfl, q _ _ k2 k3 (I1.hok.fresh (Nat.le_refl _))⟩
  have hb : b < h'.objs.size := Heap.lt_size e
  rw [PyProof.Rows.sortedHeap_old (Nat.ne_of_lt hb) (by rw [size_push']; exact Nat.lt_succ_of_lt hb)]
  exact Heap.get?_push_of_some _ e
end
end Nk
/-! ### the layer's rules with the written part named (for comprehensions, where the reading may not lean on the block) -/
namespace Nk
open PySem L2
section
variable {X : Cx} {K : PySem.W.Frag}
theorem op_inK (K : PySem.W.Frag) (h : X.K = K) : OpR X (compareOp .In) (rIn K false) := h ▸ op_in_seq
theorem op_notInK (K : PySem.W.Frag) (h : X.K = K) : OpR X (compareOp .NotIn) (rIn K true) := h ▸ op_notIn_seq
theorem ix_listK (K : PySem.W.Frag) (h : X.K = K) : IxR X (rIxL K) := h ▸ ix_list
theorem ix_tupK (K : PySem.W.Frag) (h : X.K = K) : IxR X (rIxT K) := h ▸ ix_tup
theorem sl_listK (K : PySem.W.Frag) (h : X.K = K) : SlR X (rSlL K) := h ▸ sl_list
theorem sl_tupK (K : PySem.W.Frag) (h : X.K = K) : SlR X (rSlT K) := h ▸ sl_tup
def rLenQ (K : PySem.W.Frag) : List V → Hp → VK → Prop := fun xs H Q => ∃ p ys, xs = [V.ref p] ∧ (SqL K H p ys ∨ SqT K H p ys) ∧ Q (.int ys.length) H
theorem call_lenK (K : PySem.W.Frag) (h : X.K = K) : CallR X (.builtin "len") (rLenQ K) := h ▸ call_len_seq
def rListQ (K : PySem.W.Frag) : List V → Hp → VK → Prop := fun xs H Q => ∃ p ys, xs = [V.ref p] ∧ (SqL K H p ys ∨ SqT K H p ys) ∧ ∀ l, H l = none → Q (.ref l) (upd H l (.lst ys))
theorem call_listK (K : PySem.W.Frag) (h : X.K = K) : CallR X (.type "list") (rListQ K) := h ▸ call_list_of
def rTupleQ (K : PySem.W.Frag) : List V → Hp → VK → Prop := fun xs H Q => ∃ p ys, xs = [V.ref p] ∧ ((SqL K H p ys ∧ ∀ l, H l = none → Q (.ref l) (upd H l (.tup ys))) ∨ (SqT K H p ys ∧ Q (.ref p) H))
theorem call_tupleK (K : PySem.W.Frag) (h : X.K = K) : CallR X (.type "tuple") (rTupleQ K) := h ▸ call_tuple_of
theorem cr_sumK (K : PySem.W.Frag) (h : X.K = K) (hc : X.calm = true) : CallR X (.builtin "sum") (rSum K) := h ▸ cr_sum hc
theorem cr_sumTK (K : PySem.W.Frag) (h : X.K = K) (hc : X.calm = true) : CallR X (.builtin "sum") (rSumT K) := h ▸ cr_sumT hc
theorem cr_allK (K : PySem.W.Frag) (h : X.K = K) (hc : X.calm = true) : CallR X (.builtin "all") (rAll K) := h ▸ cr_all hc
theorem cr_anyK (K : PySem.W.Frag) (h : X.K = K) (hc : X.calm = true) : CallR X (.builtin "any") (rAny K) := h ▸ cr_any hc
theorem cr_maxK (K : PySem.W.Frag) (h : X.K = K) (hc : X.calm = true) : CallR X (.builtin "max") (rMax K) := h ▸ cr_max hc
theorem cr_minK (K : PySem.W.Frag) (h : X.K = K) (hc : X.calm = true) : CallR X (.builtin "min") (rMin K) := h ▸ cr_min hc
theorem op_eqDK (K : PySem.W.Frag) (h : X.K = K) (hu : X.A.units + 64 < cLine) : OpR X (compareOp .Eq) (rEqD K) := h ▸ op_eqD hu
theorem op_neDK (K : PySem.W.Frag) (h : X.K = K) (hu : X.A.units + 64 < cLine) : OpR X (compareOp .NotEq) (rNeD K) := h ▸ op_neD hu
theorem op_catTK (K : PySem.W.Frag) (h : X.K = K) : OpR X (binaryOp .Add) (rCatT K) := h ▸ op_catT
theorem call_isiK_ (K : PySem.W.Frag) (h : X.K = K) : CallR X (.builtin "isinstance") (rIsi K) := h ▸ call_isi
theorem pi_listK {tg l : Expr} {tl : TE} (K : PySem.W.Frag) (h : X.K = K) (hl : PE X l tl) : PI X tg l (iList K tl) := h ▸ pi_list hl
theorem pi_tupK {tg l : Expr} {tl : TE} (K : PySem.W.Frag) (h : X.K = K) (hl : PE X l tl) : PI X tg l (iTup K tl) := h ▸ pi_tup hl
theorem pg_tupK {es : List Expr} {k : Nat} {t : TGs} {n : Nat} {pos : Pos} (K : PySem.W.Frag) (hK : X.K = K) (hc : X.calm = true) (h : PGs X es t)
    (hn : (assignEach es X.env).length = n := by rfl) (hst : (assignEach es X.env).findIdx? (·.1) = none := by rfl) : PG X (.Tuple es k pos) (gTup K n t) := hK ▸ pg_tup hc h hn hst
theorem pi_enumK {e : Expr} {ta : TA} {p pos tpos : Pos} {elts : List Expr} {kk : Nat} (K : PySem.W.Frag) (h : X.K = K) (hg : Gl X "enumerate") (hm : X.mg "enumerate" = none) (ha : PA X [e] ta) (hs : starEach [e] X.env = [(false, eval e X.env)] := by rfl) :
    PI X (.Tuple elts kk tpos) (.Call (.Name "enumerate" p) [e] [] pos) (iEnum K ta) := h ▸ pi_enum hg hm ha hs
theorem pi_zipK {e e2 : Expr} {ta : TA} {p pos tpos : Pos} {elts : List Expr} {kk : Nat} (K : PySem.W.Frag) (h : X.K = K) (hg : Gl X "zip") (hm : X.mg "zip" = none) (ha : PA X [e, e2] ta)
    (hs : starEach [e, e2] X.env = (false, eval e X.env) :: starEach [e2] X.env := by rfl) (hpl : (backTo pos (starEach [e2] X.env)).any (·.1) = false := by rfl) :
    PI X (.Tuple elts kk tpos) (.Call (.Name "zip" p) [e, e2] [] pos) (iZip K ta) := h ▸ pi_zip hg hm ha hs hpl
end
end Nk
/-! ### more rules: tuples put together (the left one may be empty), ranges, == of lists with [] -/
namespace Nk
open PySem L2 PySem.Spec PyProof.Rows
section
variable {X : Cx}
def rCatT3 : R2 := fun x y H Q => ∃ a b xs ys, x = .ref a ∧ y = .ref b ∧ H a = some (.tup xs) ∧ H b = some (.tup ys) ∧ xs.length + ys.length ≤ 100000 ∧ ∀ p H', Same H H' → H' p = some (.tup (xs ++ ys)) → Q (.ref p) H'
theorem op_catT3 : OpR X (binaryOp .Add) rCatT3 := by
  intro pins s σ H x y v u Q I rx ry h
  obtain ⟨a, b, xs, ys, rfl, rfl, ha, hb, hz, q⟩ := h
  by_cases hx : xs = []
  · subst hx
    cases rx
    cases ry
    obtain ⟨its, r1, p1, _⟩ := I.tuple (sqT (K := X.K) ha)
    obtain ⟨its2, r2, p2, _⟩ := I.tuple (sqT (K := X.K) hb)
    cases r1
    obtain ⟨⟨cls, dd, data, sl⟩, ho, hc, n, hd⟩ := id p1
    obtain ⟨⟨cls2, dd2, data2, sl2⟩, ho2, hc2, n2, hd2⟩ := id p2
    simp only at hc hd hc2 hd2
    subst hc hd hc2 hd2
    exact concat_meets ⟨_, ho, rfl⟩ ⟨_, ho2, rfl⟩ noFill_tuple_add seq_tuple_add PySem.F.slot_tuple_add PySem.F.entry_tuple_add (PySem.F.args_tuple_add_2 _ _)
      (tuple_addW0 a b #[] its2.toArray n n2 dd dd2 sl sl2 (by rfl)) ⟨ho, ho2, ⟨.ref b, H, I, rfl, q b H (Same.refl _) hb⟩⟩
  · refine op_catT pins s σ H (.ref a) (.ref b) v u Q I rx ry ⟨a, b, xs, ys, rfl, rfl, sqT ha, sqT hb, hx, sz hz, fun e => ?_, fun _ p hp => q p _ (same_upd hp) upd_same⟩
    subst e
    exact q a H (Same.refl _) (by rw [List.append_nil]; exact ha)
def rInR (neg : Bool) : R2 := fun x y H Q => ∃ i a lo hi, x = V.int i ∧ y = V.ref a ∧ H a = some (.rng lo hi) ∧ Q (.bl (if neg then !decide (lo ≤ i ∧ i < hi) else decide (lo ≤ i ∧ i < hi))) H
theorem op_inR : OpR X (compareOp .In) (rInR false) := op_in_rng
theorem op_notInR : OpR X (compareOp .NotIn) (rInR true) := by
  intro pins s σ H x y v u Q I rx ry h
  obtain ⟨i, a, lo, hi, rfl, rfl, ha, q⟩ := h
  obtain ⟨k, rfl⟩ := rx
  obtain rfl : u = Value.ref a := ry
  obtain ⟨t1, t2, t3, ho⟩ := I.hok a _ ha
  show wpAny _ _ (do return Value.bool (!(← contains (Value.ref a) (Value.int i k)))) _ _ s
  refine wpAny_bind (wpAny_contains_slot (T := "range") ⟨_, ho, rfl⟩ F.slot_range_contains (call_meets F.slot_range_contains ⟨_, ho, rfl⟩ F.entry_range_contains (F.args_range_contains_2 _ _) (q_contains a lo hi i t1 t2 t3 k)
    ⟨ho, wpAny_truthy_bool (wpAny_pure ⟨.bl _, H, I, rfl, ?_⟩)⟩))
  rw [place1]
  exact q
def rRange : List V → Hp → VK → Prop := fun vs H Q => ∃ i j, vs = [V.int i, V.int j] ∧ ∀ p, H p = none → Q (.ref p) (upd H p (.rng i j))
theorem cr_rangeV : CallR X (.type "range") rRange := cr_range2
end
/-- data, bools among them -/
def gb : Nat → PyData → Bool
  | _, .none => true
  | _, .int _ => true
  | _, .str x => PyData.strOk x
  | _, .bool _ => true
  | k + 1, .list xs => xs.all (gb k)
  | k + 1, .tuple xs => xs.all (gb k)
  | _, _ => false
theorem gb_lay : ∀ (k : Nat) (d : PyData), gb k d = true → d.canLay0 = true ∧ d.depth ≤ k
  | k, .none, _ => by simp [PyData.canLay0, PyData.depth]
  | k, .bool _, _ => by simp [PyData.canLay0, PyData.depth]
  | k, .int _, _ => by simp [PyData.canLay0, PyData.depth]
  | k, .str x, h => by
    have h' : PyData.strOk x = true := by simpa [gb] using h
    simp [PyData.canLay0, PyData.depth, h']
  | k, .dict _, h => by cases k <;> simp [gb] at h
  | 0, .list _, h => by simp [gb] at h
  | 0, .tuple _, h => by simp [gb] at h
  | k + 1, .list xs, h => by
    have a : ∀ x ∈ xs, gb k x = true := by simpa [gb] using h
    simp only [PyData.canLay0, PyData.depth]
    exact ⟨canLayAll_of fun x hx => (gb_lay k x (a x hx)).1, Nat.succ_le_succ (depthAll_le fun x hx => (gb_lay k x (a x hx)).2)⟩
  | k + 1, .tuple xs, h => by
    have a : ∀ x ∈ xs, gb k x = true := by simpa [gb] using h
    simp only [PyData.canLay0, PyData.depth]
    exact ⟨canLayAll_of fun x hx => (gb_lay k x (a x hx)).1, Nat.succ_le_succ (depthAll_le fun x hx => (gb_lay k x (a x hx)).2)⟩
theorem gb_shaped {k : Nat} {d : PyData} (h : gb k d = true) (hk : k ≤ 64 := by decide) : SeqAt.shaped d = true := by
  obtain ⟨h1, h2⟩ := gb_lay k d h
  unfold SeqAt.shaped
  rw [h1]
  simp
  omega
/-- a thing that may stand within another: it can be laid down as data -/
def Dat (K : PySem.W.Frag) (H : Hp) (k : Nat) (x : V) : Prop := ∃ d, Dp K H x d ∧ gb k d = true
mutual
theorem Dp.same {K : PySem.W.Frag} {H H' : Hp} (s : Same H H') : ∀ {x : V} {d : PyData}, Dp K H x d → Dp K H' x d
  | _, _, .non => .non
  | _, _, .bl b => .bl b
  | _, _, .int i => .int i
  | _, _, .str x => .str x
  | _, _, .lst h a => .lst (s.seq h) (DpAll.same s a)
  | _, _, .tup h a => .tup (Same.tup s h) (DpAll.same s a)
theorem DpAll.same {K : PySem.W.Frag} {H H' : Hp} (s : Same H H') : ∀ {xs : List V} {ds : List PyData}, DpAll K H xs ds → DpAll K H' xs ds
  | _, _, .nil => .nil
  | _, _, .cons h a => .cons (Dp.same s h) (DpAll.same s a)
end
theorem Dat.same {K : PySem.W.Frag} {H H' : Hp} {k : Nat} {x : V} (s : Same H H') (h : Dat K H k x) : Dat K H' k x := by
  obtain ⟨d, h1, h2⟩ := h
  exact ⟨d, Dp.same s h1, h2⟩
theorem dat_all {K : PySem.W.Frag} {H : Hp} {k : Nat} : ∀ {xs : List V}, (∀ x ∈ xs, Dat K H k x) → ∃ ds, DpAll K H xs ds ∧ ds.all (gb k) = true ∧ ds.length = xs.length
  | [], _ => ⟨[], .nil, rfl, rfl⟩
  | x :: xs, h => by
    obtain ⟨d, h1, h2⟩ := h x List.mem_cons_self
    obtain ⟨ds, a, b, c⟩ := dat_all (xs := xs) fun y hy => h y (List.mem_cons_of_mem _ hy)
    exact ⟨d :: ds, .cons h1 a, by rw [List.all_cons, h2, b]; rfl, by simp [c]⟩
theorem eqv_nil {ds : List PyData} (h : ds ≠ []) : PyData.eqv (.list ds) (.list []) = false := by
  cases ds with
  | nil => exact absurd rfl h
  | cons d ds => simp [PyData.eqv, PyData.eqvAll]
/-- l == [], whatever stands in l -/
theorem eqE {K : PySem.W.Frag} {H : Hp} {a b : Addr} {xs : List V} {k : Nat} {Q : VK} (ha : SqL K H a xs) (hx : ∀ x ∈ xs, Dat K H k x) (hb : SqL K H b []) (h1 : xs = [] → Q (.bl true) H) (h2 : xs ≠ [] → Q (.bl false) H) (hk : k + 1 ≤ 64 := by decide) : rEqD K (.ref a) (.ref b) H Q := by
  obtain ⟨ds, d1, d2, d3⟩ := dat_all hx
  refine ⟨.list ds, .list [], .lst ha d1, .lst hb .nil, gb_shaped (k := k + 1) (by simpa [gb] using d2) hk, by decide, ?_⟩
  by_cases c : xs = []
  · have : ds = [] := List.length_eq_zero_iff.mp (by rw [d3, c]; rfl)
    subst this
    exact h1 c
  · rw [eqv_nil (fun e => c (List.length_eq_zero_iff.mp (by rw [← d3, e]; rfl)))]
    exact h2 c
theorem neE {K : PySem.W.Frag} {H : Hp} {a b : Addr} {xs : List V} {k : Nat} {Q : VK} (ha : SqL K H a xs) (hx : ∀ x ∈ xs, Dat K H k x) (hb : SqL K H b []) (h1 : xs = [] → Q (.bl false) H) (h2 : xs ≠ [] → Q (.bl true) H) (hk : k + 1 ≤ 64 := by decide) : rNeD K (.ref a) (.ref b) H Q := by
  obtain ⟨ds, d1, d2, d3⟩ := dat_all hx
  refine ⟨.list ds, .list [], .lst ha d1, .lst hb .nil, gb_shaped (k := k + 1) (by simpa [gb] using d2) hk, by decide, ?_⟩
  by_cases c : xs = []
  · have : ds = [] := List.length_eq_zero_iff.mp (by rw [d3, c]; rfl)
    subst this
    exact h1 c
  · rw [eqv_nil (fun e => c (List.length_eq_zero_iff.mp (by rw [← d3, e]; rfl)))]
    exact h2 c
end Nk
/-! ### a caught error that is kept behind its clause -/
namespace Nk
open PySem L2 PySem.Spec PyProof.Rows
/-- an error of the class cl with the own dict d, that was caught -/
def ExV (cl : Value) (d : Option Addr) (a : Addr) : HO := .ext fun h => ∃ oe, h.get? a = some oe ∧ Zc cl d oe ∧ ∃ vs, oe.data = .fields vs
theorem exV_ok {P : Program} {w : World} {H : Hp} {h : Heap} {a : Addr} {cl : Value} {d : Option Addr} {oe : Obj} (e : h.get? a = some oe) (z : Zc cl d oe) (f : ∃ vs, oe.data = .fields vs) : ObjOk P w H h a (ExV cl d a) :=
  ⟨⟨oe, e, z, f⟩, ⟨oe, e⟩, fun _ _ ⟨o, q, r⟩ k => ⟨o, k o q, r⟩⟩
section
variable {X : Cx} {pins : List (Addr × Obj)} {σ : L2.St} {H : Hp} {s : Shared} {a : Addr} {o : HO} {oe : Obj}
/-- an object that was made since the entry is tracked from now on -/
theorem inv_track (I : Inv X pins σ H s) (ha : s.heap.get? a = some oe) (hf : ∃ vs, oe.data = .fields vs) (na : H a = none) (n0 : X.s_0.heap.get? a = none) (nL : a ≠ X.env.locals) (np : ∀ p ∈ X.pn ++ pins, p.1 ≠ a)
    (new : ObjOk X.prog X.w (upd H a o) s.heap a o) : Inv X pins σ (upd H a o) s := by
  have off : ∀ {b : Addr} {u : HO}, H b = some u → (upd H a o) b = some u := fun {b u} e => by rw [upd_ne (ne_of_none e na)]; exact e
  have offN : ∀ {b : Addr}, H b = none → b ≠ a → (upd H a o) b = none := fun {b} e n => by rw [upd_ne n]; exact e
  have old : ∀ {b : Addr} {u : Obj}, X.s_0.heap.get? b = some u → b ≠ a := fun {b u} e z => by rw [z, n0] at e; cases e
  obtain ⟨vs, hvs⟩ := hf
  refine { ok := I.ok, os := I.os, bare := I.bare, base := ?_, loc := I.loc, cell := I.cell, free := offN I.free (Ne.symm nL), freeC := ?_, pin := ?_, hok := ?_, len := I.len }
  · exact { keep := I.base.keep, slot := I.base.slot, free := fun b u e n hx => offN (I.base.free b u e n hx) (old e), there := I.base.there, tups := fun b xs e => off (I.base.tups b xs e), frzs := fun b u v e => off (I.base.frzs b u v e), tbls := fun b ps e => by
              obtain ⟨m, q⟩ := I.base.tbls b ps e
              exact ⟨m, off q⟩ }
  · intro x c e
    refine offN (I.freeC x c e) fun z => ?_
    obtain ⟨v, oc, hc, hd⟩ := I.cell x c e
    rw [z, ha] at hc
    cases hc
    rw [hvs] at hd
    cases hd
  · intro p hp
    obtain ⟨h1, h2, h3, h4, h5⟩ := I.pin p hp
    exact ⟨h1, offN h2 (np p hp), h3, h4, h5⟩
  · intro b u e
    by_cases hb : b = a
    · subst hb
      rw [upd_same] at e
      cases e
      exact new
    · rw [upd_ne hb] at e
      exact (I.hok b u e).stay (fun _ _ _ q => q) (fun _ q => off q) fun _ _ q => off q
end
/-- what 'except x as n: y = n' wishes of an error of the body: n in slot i, y in slot j -/
def wKept (K : PySem.W.Frag) (c : Value) (i j : Nat) (Wout : WX) (D : Ends) : WX := fun cl d σ H =>
  ∃ b, PySem.W.exmOne K cl c = some b ∧ (b = true → ∀ a, H a = none → D.nx ((σ.set i (some (.ref a))).set j (some (.ref a)) |>.set i none) (upd H a (ExV cl d a))) ∧ (b = false → Wout cl d σ H)
section
variable {X : Cx} {x n : Str} {c : Value} {i j : Nat} {body : List Stmt} {b₀ : Stmt} {np pos pos' : Pos} {tb : WX → TS} {Wout : WX}
theorem ps_try_kept (hs : X.stack = X.env :: X.outer) (hf : X.env.frame = some X.env.locals) (hex : X.ex = []) (hN : X.N.Nodup) (hi : X.N[i]? = some n) (hln : X.env.kindOf n = some .local) (hc : Names X x c) (tk : Takes X Wout)
    (hb : ∀ (W : WX) (pn : List (Addr × Obj)) (xe : Value → Shared → Prop), Takes (X.tr pn xe) W → PassesOwn (model X.prog X.w) X.A X.env xe → PSs (X.tr pn xe) body (tb W))
    (hsu : ∀ (a : Addr) (oe : Obj) (pn : List (Addr × Obj)), PSs (X.suite a ((a, oe) :: pn)) [b₀] (tAsg (tVar i) (gName j))) (hlen : i < X.N.length) :
    PS X (.Try body [.ExceptHandler (some (.Name x np)) (some n) [b₀] pos'] [] [] pos) (fun D σ H => tb (wKept X.K c i j Wout D) D σ H) := by
  refine ⟨fun pins s σ H D I h => ?_⟩
  have ok := I.ok
  have hfr : X.A.frames = some (X.env :: X.outer) := by rw [ok.frames, hs]
  refine wpAny_Try_except ?_
  refine wpAny_mono ((hb (wKept X.K c i j Wout D) (X.pn ++ pins) (fun e s₁ => wpAny (model X.prog X.w) X.A (noteFrame e X.env) (fun _ s₂ => wpAny (model X.prog X.w) X.A (setFlight e none) (fun _ s₃ =>
    wpAny (model X.prog X.w) X.A (handleBy e X.env [.ExceptHandler (some (.Name x np)) (some n) [b₀] pos']) (SP X pins D) X.xe s₃) X.xe s₂) X.xe s₁) (fun u s' xx => ?_) PassesOwn.looking).run [] s σ H D (I.toTry _) h) (fun f s1 hsp => ?_) (fun e s1 he => he)
  · obtain ⟨a, B, sI, pins', σ', H', cl, d, rfl, J', nb, up, sky, na, os, ag, b, hb1, hyes, hno⟩ := xx
    have J : Inv X pins σ' H' sI := J'.ofTry ok
    have sky' : Sky B (X.env :: X.outer) a (Zc cl d) X.env.locals s'.heap := hs ▸ sky
    show wpAny (model X.prog X.w) X.A (noteFrame (.ref a) X.env) _ _ _
    refine Sky.land Zc.steady hfr hf sky' fun h3 fl3 up3 => ?_
    have J3 : Inv X pins σ' H' { s' with heap := h3 } := J.landed nb fl3.1 (up.trans up3) os ag
    obtain ⟨oe3, vs3, he3, hz3, hd3⟩ := fl3.there
    have nfr : a ∉ frs (X.env :: X.outer) := fun hm => by
      obtain ⟨_, o', e', hnf⟩ := fl3.2.2.1.mem hm
      rw [he3] at e'
      cases e'
      exact hnf _ hd3
    have nL : a ≠ X.env.locals := fun z => nfr (List.mem_filterMap.mpr ⟨X.env, List.mem_cons_self, by rw [hf, z]⟩)
    have nF : a ∉ X.fs := fun hm => by
      obtain ⟨e, he, q⟩ := List.mem_filterMap.mp hm
      exact nfr (List.mem_filterMap.mpr ⟨e, List.mem_cons_of_mem _ he, q⟩)
    have gone : sI.heap.get? a = none := by
      cases e : sI.heap.get? a with
      | none => rfl
      | some o =>
        have := nb a o e (by rw [hs]; exact nfr)
        rw [fl3.2.1] at this
        cases this
    have n0 : X.s_0.heap.get? a = none := by
      cases e : X.s_0.heap.get? a with
      | none => rfl
      | some o =>
        obtain ⟨o', q⟩ := J.base.there a o e (by rw [hex]; exact fun z => nomatch z)
        rw [gone] at q
        cases q
    have hpn : ∀ p ∈ X.pn ++ pins, p.1 ≠ a := fun p hp z => by
      have := (J.pin p hp).1
      rw [z, gone] at this
      cases this
    have S3 := J3.suite he3 hd3 na nL nF
    refine wpAny_handleBy_cons (codeAny_handlers_test ?_) (by intro q; cases q)
    have LT : PySem.W.Looks (model X.prog X.w) h3 (typeOf (.ref a)) cl := fun A Q E s k q => wpAny_typeOf_ref (k _ _ he3) (by rw [hz3.1]; exact q)
    have LM := PySem.W.exm_one (M := model X.prog X.w) (J3.kIn) LT hb1
    have test : ∀ {Q : Value → Shared → Prop} {E : Value → Shared → Prop}, Q c { s' with heap := h3 } → wpAny (model X.prog X.w) (X.A.mark (some (.ref a))) (eval (.Name x np) X.env) Q E { s' with heap := h3 } := fun {Q E} q => by
      obtain ⟨hg, hdbg, hm | ⟨hm, hv, hnn⟩⟩ := hc
      · exact ld_glob (X := X.suite a ((a, oe3) :: (X.pn ++ pins))) S3 hg hm q hdbg
      · exact ld_blt (X := X.suite a ((a, oe3) :: (X.pn ++ pins))) S3 hg hm hv q hnn hdbg
    refine test (LM.here ?_)
    cases b with
    | true =>
      refine codeAny_handlers_suite_as ?_
      refine HandSPX.lands_againZ fl3 fun h4 fl4 up4 => ?_
      have J4 : Inv X pins σ' H' { s' with heap := h4 } := J.landed nb fl4.1 ((up.trans up3).trans up4) os ag
      obtain ⟨oe4, vs4, he4, hz4, hd4⟩ := fl4.there
      have S4 := J4.suite he4 hd4 na nL nF
      refine store_ok (X := X.suite a ((a, oe4) :: (X.pn ++ pins))) (v := .ref a) S4 hN hi (.inl hln) rfl (fun s5 S5 => ?_) (.inr hln)
      have hv : (σ'.set i (some (V.ref a)))[i]? = some (some (.ref a)) := List.getElem?_set_self (by rw [J4.len]; exact hlen)
      refine wpAny_mono ((hsu a oe4 (X.pn ++ pins)).run [] s5 _ H' { nx := fun σ6 H6 => σ6 = (σ'.set i (some (V.ref a))).set j (some (.ref a)) ∧ H6 = H', rt := fun _ _ => False, bk := fun _ _ => False, ct := fun _ _ => False } S5 ⟨_, hv, rfl, rfl⟩) (fun f s6 hsp => ?_) (fun _ _ z => False.elim z)
      cases f with
      | next =>
        obtain ⟨σ6, H6, S6, rfl, rfl⟩ := hsp
        have he6 : s6.heap.get? a = some oe4 := (S6.pin (a, oe4) (List.mem_append_left _ List.mem_cons_self)).1
        have J6 := S6.unsuite ok
        have J7 := inv_track (o := ExV cl d a) J6 he6 ⟨_, hd4⟩ na n0 nL hpn (exV_ok he6 hz4 ⟨_, hd4⟩)
        exact gone_ok J7 hN hi hln fun s8 J8 => ⟨_, _, J8, hyes rfl a na⟩
      | brk =>
        obtain ⟨_, _, _, z⟩ := hsp
        exact z.elim
      | cont =>
        obtain ⟨_, _, _, z⟩ := hsp
        exact z.elim
      | ret u =>
        obtain ⟨_, _, _, _, _, z⟩ := hsp
        exact z.elim
    | false =>
      show wpAny _ X.A (handleBy (.ref a) X.env []) _ _ _
      refine wpAny_handleBy_nil ?_
      obtain ⟨k1, k2, k3, oe, vs, T, oT, ts', he, hz, hd, h1, hr⟩ := id fl3
      unfold PySem.passOn
      refine wpAny_bind (wpAny_field he hd h1 ?_)
      rw [if_neg (show ¬ ((Value.ref T == Value.none) = true) from by simp)]
      have fin : wpAny (model X.prog X.w) X.A (setFlight (.ref a) X.env.frame) (fun _ s4 => wpAny (model X.prog X.w) X.A (throw (.ref a) : Sem Flow) (SP X pins D) X.xe s4) X.xe { s' with heap := h3 } := by
        rw [hf]
        refine HandSPX.setFlight_upZ fl3 fun h4 hh4 up4 => wpAny_throw (tk _ _ ?_)
        exact ⟨a, B, sI, pins, σ', H', cl, d, rfl, J, nb, (up.trans up3).trans up4, .inr (.inr (by rw [hs]; exact hh4)), na, os, ag, hno rfl⟩
      first
        | exact wpAny_bind (wpAny_pure (wpAny_bind fin))
        | exact wpAny_bind fin
  · cases f with
    | next =>
      obtain ⟨σ', H', J', q⟩ := hsp
      exact wpAny_execs_nil ⟨σ', H', J'.ofTry ok, q⟩
    | brk =>
      obtain ⟨σ', H', J', q⟩ := hsp
      exact ⟨σ', H', J'.ofTry ok, q⟩
    | cont =>
      obtain ⟨σ', H', J', q⟩ := hsp
      exact ⟨σ', H', J'.ofTry ok, q⟩
    | ret u =>
      obtain ⟨v, σ', H', J', r, q⟩ := hsp
      exact ⟨v, σ', H', J'.ofTry ok, r, q⟩
end
section
variable {X : Cx}
/-- isinstance of such an error -/
def rIsX (K : PySem.W.Frag) : List V → Hp → VK → Prop := fun xs H Q => ∃ (a C : Addr) (d : Option Addr) (c : V) (cv : Value) (b : Bool), xs = [.ref a, c] ∧ H a = some (ExV (.ref C) d a) ∧ ExcC K C ∧ ClsV c cv ∧ PySem.W.kitOne K (.ref C) cv = some b ∧ (∀ dd, d = some dd → ∃ fs, H dd = some (.xd fs)) ∧ Q (.bl b) H
theorem call_isX : CallR X (.builtin "isinstance") (rIsX X.K) := by
  intro pins s σ H xs us Q I r h
  obtain ⟨a, C, d, c, cv, b, rfl, ha, E, hc, e, hd, q⟩ := h
  obtain ⟨u1, u2, rfl, r1, r2⟩ := vals2 r
  cases (show u1 = Value.ref a from r1)
  have e2 := hc.eq r2
  subst e2
  obtain ⟨oe, hoe, hz, vs, hv⟩ := (I.hok a _ ha).1
  have hcl : (PySem.W.clsIn X.K C).isSome = true := by
    obtain ⟨cd, hc, _⟩ := PySem.W.any_some E.hd
    rw [hc]; rfl
  have J : ∃ od, PySem.W.InstAt s.heap a oe C od := by
    obtain ⟨oc, odi, oda, osl⟩ := oe
    obtain ⟨h1, h2⟩ := hz
    dsimp only at h1 h2 hv
    subst h1 h2 hv
    cases odi with
    | none => exact ⟨none, hoe, rfl, rfl, trivial⟩
    | some dd =>
      obtain ⟨fs, hfs⟩ := hd dd rfl
      obtain ⟨mA, ⟨od, es, ep, e1, _⟩, _⟩ := I.hok dd _ hfs
      exact ⟨some od, hoe, rfl, rfl, e1⟩
  obtain ⟨od, J⟩ := J
  exact PySem.W.kia_one (PySem.W.kitx_exc hcl E.hg E.hk E.hs E.ha E.hn E.ht E.hm) I.kIn J e (fun z => nomatch z) fun tk => ⟨.bl b, H, I.tok tk, rfl, q⟩
end
end Nk

namespace Nk
open PySem L2 PySem.Spec PyProof.Rows
theorem tk0 {X : Cx} : Takes X (fun _ _ _ _ => False) := fun _ _ x => by
  obtain ⟨_, _, _, _, _, _, _, _, _, _, _, _, _, _, _, _, w⟩ := x
  exact w.elim
section
variable {X : Cx} {CX : CXT} {k : Nat} {ps : List Str} {sp : Sp} {x : Str} {p pos : Pos} {e : Expr} {es : List Expr} {t : TA} {E : L2.St → XK}
theorem pe_fnS (F : Fk X.prog X.w X.K X.mg X.base CX k x ps sp) (hr : Room k X.A) (hg : Gl X x) (hx : ∀ σ, PassesAt CX X σ (E σ)) (ha : PA X (e :: es) t) (hdb : (x == ("__debug__" : Str)) = false := by decide)
    (he : starEach (e :: es) X.env = (false, eval e X.env) :: starEach es X.env := by rfl) (hpl : (backTo pos (starEach es X.env)).any (·.1) = false := by rfl) :
    PE X (.Call (.Name x p) (e :: es) [] pos) (tCallS sp E t) := by
  obtain ⟨f, fd, g, kp, b, G⟩ := F.ex
  exact pe_callS G hr hg g kp b hx ha hdb he hpl
end
/-! counting in a list of flat things -/
theorem count_eqU {x : V} : ∀ {xs : List V} {us : List Value}, Vals xs us → xs.all flatV = true → us.countP (eqU x) = xs.countP fun y => eqV y x
  | _, _, .nil, _ => rfl
  | y :: xs, u :: us, .cons r t, f => by
    rw [List.all_cons, Bool.and_eq_true] at f
    rw [List.countP_cons, List.countP_cons, count_eqU t f.2, eqU_of r f.1]
def rCountF (K : PySem.W.Frag) : V → List V → Hp → VK → Prop := fun x xs H Q => ∃ (p : Addr) (ys : List V) (y : V), x = .ref p ∧ xs = [y] ∧ SqL K H p ys ∧ flatV y = true ∧ ys.all flatV = true ∧ Q (.int ((ys.countP fun z => eqV z y : Nat) : Int)) H
theorem mt_countF {X : Cx} : MtR X "list.count" (rCountF X.K) := by
  intro pins s σ H x xs v us Q I rx rxs h
  obtain ⟨p, ys, y, rfl, rfl, hs, fy, fys, q⟩ := h
  cases rx
  obtain ⟨u, rfl, ru⟩ := rxs.one
  obtain ⟨its, rv, ⟨⟨cls, dd, data, sl⟩, n, ho, hc, hdn, hd⟩, hlen⟩ := I.list hs
  simp only at hc hd
  subst hc hd
  refine call_meets PySem.F.slot_list_count ⟨_, ho, rfl⟩ PySem.F.entry_list_count (PySem.F.args_list_count_2 _ _) (SeqAt.list_countAt p its.toArray n dd sl u (eqU y)) ⟨ho, fun z hz => mem_eqAt ru fy rv fys z (by simpa using hz), ?_⟩
  have ec : its.toArray.toList.countP (eqU y) = ys.countP fun z => eqV z y := by rw [show its.toArray.toList = its from rfl, count_eqU rv fys]
  refine ⟨.int (ys.countP fun z => eqV z y : Nat), H, I.tok _, ⟨s.toks, ?_⟩, q⟩
  rw [ec]
/-! the classes of this program's errors -/
def exTail : List Value := [.type "RuntimeError", .type "Exception", .type "BaseException", .type "object"]
/-- the class over all errors -/
structure Kc (K : PySem.W.Frag) (mg : Str → Option Value) : Prop where
  gP : mg "KeepError" = some (.ref (cls mg "KeepError"))
  ex : ∃ cd, PySem.W.clsIn K (cls mg "KeepError") = some cd ∧ cd.name = "KeepError" ∧ cd.mro = .ref (cls mg "KeepError") :: exTail
  tP : PySem.W.typeIn K (.ref (cls mg "KeepError")) = some (.type "type")
  hd : PySem.W.hasDictIn K (cls mg "KeepError") = true
/-- an error's class -/
structure Ec (K : PySem.W.Frag) (mg : Str → Option Value) (x : Str) : Prop where
  gP : mg x = some (.ref (cls mg x))
  ex : ∃ cd, PySem.W.clsIn K (cls mg x) = some cd ∧ cd.name = x ∧ cd.mro = .ref (cls mg x) :: .ref (cls mg "KeepError") :: exTail
  tP : PySem.W.typeIn K (.ref (cls mg x)) = some (.type "type")
  ec : ExcC K (cls mg x)
section
variable {K : PySem.W.Frag} {h : Heap} {mg : Str → Option Value} {x y : Str}
theorem cls_lookup {C : Addr} {oc : Value} {od : Option Addr} {cd : ClassData} {osl : Array (Option Value)} (l : K.lookup C = some ⟨oc, od, .cls cd, osl⟩) : PySem.W.clsIn K C = some cd := by
  unfold PySem.W.clsIn
  rw [l]
theorem kc_mk {C : Addr} {oc : Value} {od : Option Addr} {osl : Array (Option Value)} {bs : List Value} {N : Addr} {q : Str} {sn : List Str} {sub : List Value} {hd ab dl : Bool} {col : Option Bool} (X : K.In h) (G : h.Ns mainGlobals mg)
    (a : PySem.W.nsIn K mainGlobals "KeepError" = some (some (.ref C)))
    (l : K.lookup C = some ⟨oc, od, .cls { name := "KeepError", bases := bs, mro := [.ref C, .type "RuntimeError", .type "Exception", .type "BaseException", .type "object"], ns := N, qualname := q, hasDict := hd, slotNames := sn, subclasses := sub, abstract := ab, collection := col, hasDel := dl }, osl⟩)
    (tP : PySem.W.typeIn K (.ref C) = some (.type "type")) (hD : PySem.W.hasDictIn K C = true) : Kc K mg := by
  have g := PySem.W.mg_of X G a
  have e := cls_of g
  refine ⟨by rw [e]; exact g, ?_, by rw [e]; exact tP, by rw [e]; exact hD⟩
  rw [e]
  exact ⟨_, cls_lookup l, rfl, rfl⟩
theorem ec_mk {C KE : Addr} {oc : Value} {od : Option Addr} {osl : Array (Option Value)} {bs : List Value} {N : Addr} {q : Str} {sn : List Str} {sub : List Value} {hd ab dl : Bool} {col : Option Bool} (X : K.In h) (G : h.Ns mainGlobals mg)
    (k : PySem.W.nsIn K mainGlobals "KeepError" = some (some (.ref KE))) (a : PySem.W.nsIn K mainGlobals x = some (some (.ref C)))
    (l : K.lookup C = some ⟨oc, od, .cls { name := x, bases := bs, mro := [.ref C, .ref KE, .type "RuntimeError", .type "Exception", .type "BaseException", .type "object"], ns := N, qualname := q, hasDict := hd, slotNames := sn, subclasses := sub, abstract := ab, collection := col, hasDel := dl }, osl⟩)
    (tP : PySem.W.typeIn K (.ref C) = some (.type "type")) (hD : PySem.W.hasDictIn K C = true)
    (h1 : PySem.W.findIn K (.ref C) "__getattribute__" = some (some (.builtin "BaseException.__getattribute__"))) (h2 : PySem.W.findIn K (.ref C) "__getattr__" = some none)
    (h3 : PySem.W.findIn K (.ref C) "__class__" = some (some (.builtin "object.__class__"))) (h4 : PySem.W.specialIn K (.builtin "object.__class__") "__get__" = some (some (.builtin "getset_descriptor.__get__"))) (h5 : PySem.W.takesIn K (.builtin "object.__class__") = some true) : Ec K mg x := by
  have g := PySem.W.mg_of X G a
  have e := cls_of g
  have e2 := cls_of (PySem.W.mg_of X G k)
  have hc := cls_lookup l
  have hm : ∀ b, PySem.W.mroIn K C b = some ([Value.ref C, .ref KE, .type "RuntimeError", .type "Exception", .type "BaseException", .type "object"].contains b) := fun b => by
    unfold PySem.W.mroIn
    rw [hc]
    rfl
  refine ⟨by rw [e]; exact g, ?_, by rw [e]; exact tP, ?_⟩
  · rw [e, e2]
    exact ⟨_, hc, rfl, rfl⟩
  · rw [e]
    refine ⟨h1, h2, ?_, hD, h3, h4, h5, ?_⟩
    · show PySem.W.mroIn K C _ = _
      rw [hm]
      simp
    · rw [hm]
      simp
theorem Ec.mro (e : Ec K mg x) (b : Value) : PySem.W.subIn K (.ref (cls mg x)) b = some ((Value.ref (cls mg x) :: .ref (cls mg "KeepError") :: exTail).contains b) := by
  obtain ⟨cd, h1, _, h3⟩ := e.ex
  show PySem.W.mroIn K _ b = _
  unfold PySem.W.mroIn
  rw [h1, Option.bind_some, h3]
  rfl
theorem Ec.ne (e : Ec K mg x) (f : Ec K mg y) (n : x ≠ y) : cls mg x ≠ cls mg y := fun z => by
  obtain ⟨cd, h1, h2, _⟩ := e.ex
  obtain ⟨cd', h1', h2', _⟩ := f.ex
  rw [z, h1'] at h1
  cases h1
  exact n (h2.symm.trans h2')
theorem Ec.neK (e : Ec K mg x) (f : Kc K mg) (n : x ≠ "KeepError") : cls mg x ≠ cls mg "KeepError" := fun z => by
  obtain ⟨cd, h1, h2, _⟩ := e.ex
  obtain ⟨cd', h1', h2', _⟩ := f.ex
  rw [z, h1'] at h1
  cases h1
  exact n (h2.symm.trans h2')
theorem Ec.is (e : Ec K mg x) (f : Ec K mg y) (k : Kc K mg) (n : y ≠ "KeepError") : PySem.W.kitOne K (.ref (cls mg x)) (.ref (cls mg y)) = some (decide (x = y)) := by
  by_cases c : x = y
  · subst c
    unfold PySem.W.kitOne
    simp
  · have h1 := e.ne f c
    have h2 := f.neK k n
    obtain ⟨cd', h1', _⟩ := f.ex
    unfold PySem.W.kitOne
    rw [if_neg (by intro z; exact h1 (Value.ref.inj (beq_iff_eq.mp z)))]
    show (if ((PySem.W.clsIn K (cls mg y)).isSome && PySem.W.typeIn K (.ref (cls mg y)) == some (.type "type")) = true then PySem.W.subIn K (.ref (cls mg x)) (.ref (cls mg y)) else none) = _
    rw [h1', f.tP, if_pos (by rfl), e.mro]
    rw [Option.some.injEq, decide_eq_false c, List.contains_eq_any_beq]
    simp only [exTail, List.any_cons, List.any_nil, Bool.or_eq_false_iff, beq_eq_false_iff_ne]
    refine ⟨fun z => h1 (Value.ref.inj z).symm, fun z => h2 (Value.ref.inj z), ?_⟩
    simp
theorem Ec.isR (e : Ec K mg x) : PySem.W.kitOne K (.ref (cls mg x)) (.type "RuntimeError") = some true := by
  unfold PySem.W.kitOne
  rw [if_neg (by intro z; exact nomatch (beq_iff_eq.mp z))]
  show (if PySem.W.kitMeta "RuntimeError" = true then PySem.W.subIn K (.ref (cls mg x)) (.type "RuntimeError") else none) = _
  rw [if_pos (by decide +kernel), e.mro]
  simp [exTail]
theorem Ec.exm (e : Ec K mg x) (k : Kc K mg) : PySem.W.exmOne K (.ref (cls mg x)) (.ref (cls mg "KeepError")) = some true := by
  refine PySem.W.exm_ref ?_ k.hd k.tP ?_
  · obtain ⟨cd, h1, _, h3⟩ := k.ex
    show PySem.W.mroIn K _ _ = _
    unfold PySem.W.mroIn
    rw [h1, Option.bind_some, h3]
    rfl
  · rw [e.mro]
    simp
end
end Nk
namespace Nk
open PySem L2
def top (i : Nat) : Stmt := PySem.Challenge.pw_nightkeep_k27_full.main.body.getD i (.Pass ⟨0, 0, 0, 0⟩)
abbrev s_Elder____init__ : Stmt := inClass (top 7) 0
abbrev s_is_number : Stmt := top 20
abbrev s_is_rounds : Stmt := top 21
abbrev s_number_of : Stmt := top 22
abbrev s_first_of : Stmt := top 23
abbrev s_is_rule : Stmt := top 25
abbrev s_look_rules : Stmt := top 26
abbrev s_divisor : Stmt := top 28
abbrev s_turn_of : Stmt := top 29
abbrev s_standing_at : Stmt := top 30
abbrev s_turn : Stmt := top 31
abbrev s_full : Stmt := top 32
abbrev s__law_town : Stmt := top 34
abbrev s__law_draw : Stmt := top 35
abbrev s__law_pick : Stmt := top 36
abbrev s__law_word : Stmt := top 37
abbrev s__law_refused : Stmt := top 38
abbrev s__law_told : Stmt := top 39
abbrev s__law_whole : Stmt := top 40
abbrev s__law_wholes : Stmt := top 41
abbrev s__law_rounds : Stmt := top 42
abbrev s__law_spot : Stmt := top 43
abbrev s__law_rules : Stmt := top 44
abbrev s__law_one : Stmt := top 45
abbrev s__law_counts : Stmt := top 46
abbrev s_law : Stmt := top 47
/-- what the walks ask of the top as it stands when it has run -/
structure Txt (K : PySem.W.Frag) (mg : Str → Option Value) : Prop where
  d_is_number : Df K mg "is_number" "is_number" s_is_number ["thing", "least", "most"]
  d_is_rounds : Df K mg "is_rounds" "is_rounds" s_is_rounds ["thing"]
  d_number_of : Df K mg "number_of" "number_of" s_number_of ["rounds", "night"]
  d_first_of : Df K mg "first_of" "first_of" s_first_of ["rounds", "number"]
  d_is_rule : Df K mg "is_rule" "is_rule" s_is_rule ["thing"]
  d_look_rules : Df K mg "look_rules" "look_rules" s_look_rules ["rules"]
  d_divisor : Df K mg "divisor" "divisor" s_divisor ["one", "other"]
  d_turn_of : Df K mg "turn_of" "turn_of" s_turn_of ["rules"]
  d_standing_at : Df K mg "standing_at" "standing_at" s_standing_at ["rules", "night"]
  d_turn : Df K mg "turn" "turn" s_turn ["rules"]
  d_full : Df K mg "full" "full" s_full ["rules"]
  d__law_town : Df K mg "_law_town" "_law_town" s__law_town ["script"]
  d__law_draw : Df K mg "_law_draw" "_law_draw" s__law_draw ["script", "town", "many"]
  d__law_pick : Df K mg "_law_pick" "_law_pick" s__law_pick ["script", "town", "some"]
  d__law_word : Df K mg "_law_word" "_law_word" s__law_word ["caught"]
  d__law_refused : Df K mg "_law_refused" "_law_refused" s__law_refused ["word"]
  d__law_told : Df K mg "_law_told" "_law_told" s__law_told ["kind", "some"]
  d__law_whole : Df K mg "_law_whole" "_law_whole" s__law_whole ["thing"]
  d__law_wholes : Df K mg "_law_wholes" "_law_wholes" s__law_wholes ["thing"]
  d__law_rounds : Df K mg "_law_rounds" "_law_rounds" s__law_rounds ["script", "town", "long", "top"]
  d__law_spot : Df K mg "_law_spot" "_law_spot" s__law_spot ["rounds", "night"]
  d__law_rules : Df K mg "_law_rules" "_law_rules" s__law_rules ["script", "town", "many", "long", "top", "most_many"]
  d__law_one : Df K mg "_law_one" "_law_one" s__law_one ["kind", "some"]
  d__law_counts : Df K mg "_law_counts" "_law_counts" s__law_counts ["rules", "many"]
  d_law : Df K mg "law" "law" s_law ["script"]
  x_KeepError : Xc K mg "KeepError" (cls mg "KeepError")
  x_BadRounds : Xc K mg "BadRounds" (cls mg "BadRounds")
  x_BadNight : Xc K mg "BadNight" (cls mg "BadNight")
  x_BadNumber : Xc K mg "BadNumber" (cls mg "BadNumber")
  x_BadRules : Xc K mg "BadRules" (cls mg "BadRules")
  x_BadNights : Xc K mg "BadNights" (cls mg "BadNights")
  x_Full : Xc K mg "Full" (cls mg "Full")
  x_NotHeld : Xc K mg "NotHeld" (cls mg "NotHeld")
  x_Pinned : Xc K mg "Pinned" (cls mg "Pinned")
  x_NotPinned : Xc K mg "NotPinned" (cls mg "NotPinned")
  x_BadState : Xc K mg "BadState" (cls mg "BadState")
  x_BadPart : Xc K mg "BadPart" (cls mg "BadPart")
  x_NotFit : Xc K mg "NotFit" (cls mg "NotFit")
  x_IsWhole : Xc K mg "IsWhole" (cls mg "IsWhole")
  x_BadPlan : Xc K mg "BadPlan" (cls mg "BadPlan")
  x_Unlike : Xc K mg "Unlike" (cls mg "Unlike")
  x_BadText : Xc K mg "BadText" (cls mg "BadText")
  k_err : Kc K mg
  e_BadRounds : Ec K mg "BadRounds"
  e_BadNight : Ec K mg "BadNight"
  e_BadNumber : Ec K mg "BadNumber"
  e_BadRules : Ec K mg "BadRules"
  e_BadNights : Ec K mg "BadNights"
  e_Elder : Ec K mg "Elder"
  e_Full : Ec K mg "Full"
  e_NotHeld : Ec K mg "NotHeld"
  e_Pinned : Ec K mg "Pinned"
  e_NotPinned : Ec K mg "NotPinned"
  e_BadState : Ec K mg "BadState"
  e_BadPart : Ec K mg "BadPart"
  e_NotFit : Ec K mg "NotFit"
  e_IsWhole : Ec K mg "IsWhole"
  e_BadPlan : Ec K mg "BadPlan"
  e_Unlike : Ec K mg "Unlike"
  e_BadText : Ec K mg "BadText"
  b_RuntimeError : mg "RuntimeError" = none
  b_all : mg "all" = none
  b_bool : mg "bool" = none
  b_int : mg "int" = none
  b_isinstance : mg "isinstance" = none
  b_len : mg "len" = none
  b_list : mg "list" = none
  b_max : mg "max" = none
  b_range : mg "range" = none
  b_sorted : mg "sorted" = none
  b_sum : mg "sum" = none
  b_tuple : mg "tuple" = none
end Nk
local macro_rules | `(tactic| walk_at "rd") => `(tactic| (try simp only [L2.tRet, L2.tAndV, L2.tOrV, L2.tNotV, L2.tCB, L2.tCons, L2.tNil, L2.tVar, L2.tC, L2.tChain, L2.tOp, L2.tUn, L2.rI, L2.rI0, L2.rU, L2.rEq, L2.rNe, L2.scal, L2.tTest, L2.tB, L2.tAnd, L2.tOr, L2.tNot, L2.tIf, L2.tIfS, L2.tSeq, L2.tNext, L2.tAsg, L2.gName, Nk.gCons_cons, Nk.gNil_nil, L2.gSub, L2.tDrop, L2.tRetN, L2.tCall, L2.tCallS, L2.tIsN, L2.tNotN, L2.tSl, L2.tPart, L2.tNoPart, L2.tPar, L2.tAug, L2.tBreak, L2.tCont, L2.tDisp, L2.tPairs, L2.tLstRg, L2.tRg1, L2.tRg2, Nk.rLenQ, Nk.rListQ, Nk.rTupleQ, L2.sDPut, L2.tBM, L2.tBM0, L2.tTup, L2.tLst, Nk.szN, Nat.reduceLeDiff, L2.tYes, L2.wipe, L2.start, L2.cxOf, List.map_cons, List.map_nil, List.cons_append, List.nil_append, List.append_nil, List.length_cons, List.length_nil, List.replicate, Nat.sub_self, Nat.zero_add, Nat.reduceAdd, Nat.reduceSub, List.set_cons_zero, List.set_cons_succ, List.getElem?_cons_zero, List.getElem?_cons_succ, Option.some.injEq, exists_and_left, exists_eq_left', exists_eq_left, L2.V.int.injEq, L2.V.bl.injEq, L2.V.str.injEq, L2.V.ref.injEq, true_and, and_true, decide_eq_true_eq, Bool.not_true, Bool.not_false, if_true, if_false, Bool.false_eq_true, reduceIte, List.cons.injEq, reduceCtorEq, decide_true, decide_false, decide_eq_false_iff_not, Bool.not_eq_true', Bool.not_not]))
local macro_rules | `(tactic| walk_at "rs") => `(tactic| (try simp only [L2.tRet, L2.tAndV, L2.tOrV, L2.tNotV, L2.tCB, L2.tCons, L2.tNil, L2.tVar, L2.tC, L2.tChain, L2.tOp, L2.tUn, L2.rI, L2.rI0, L2.rU, L2.rEq, L2.rNe, Nk.scal_ii, Nk.scal_ss, Nk.scal_bb, Nk.scal_nn, Nk.scal_ni, Nk.scal_in, Nk.scal_ns, Nk.scal_sn, Nk.scal_is, Nk.scal_si, L2.tTest, L2.tB, L2.tAnd, L2.tOr, L2.tNot, L2.tIf, L2.tIfS, L2.tNext, L2.tAsg, L2.gName, Nk.gCons_cons, Nk.gNil_nil, L2.gSub, L2.tDrop, L2.tRetN, L2.tCall, L2.tCallS, L2.tIsN, L2.tNotN, L2.tSl, L2.tPart, L2.tNoPart, L2.tPar, L2.tAug, L2.tBreak, L2.tCont, L2.tDisp, L2.tPairs, L2.tLstRg, L2.tRg1, L2.tRg2, Nk.rLenQ, Nk.rListQ, Nk.rTupleQ, L2.sDPut, L2.tBM, L2.tBM0, L2.tTup, L2.tLst, Nk.szN, Nat.reduceLeDiff, L2.tYes, L2.wipe, L2.start, L2.cxOf, List.map_cons, List.map_nil, List.cons_append, List.nil_append, List.append_nil, List.length_cons, List.length_nil, List.replicate, Nat.sub_self, Nat.zero_add, Nat.reduceAdd, Nat.reduceSub, List.set_cons_zero, List.set_cons_succ, List.getElem?_cons_zero, List.getElem?_cons_succ, Option.some.injEq, exists_and_left, exists_eq_left', exists_eq_left, L2.V.int.injEq, L2.V.bl.injEq, L2.V.str.injEq, L2.V.ref.injEq, true_and, and_true, decide_eq_true_eq, Bool.not_true, Bool.not_false, if_true, if_false, Bool.false_eq_true, reduceIte, List.cons.injEq, reduceCtorEq, decide_true, decide_false, decide_eq_false_iff_not, Bool.not_eq_true', Bool.not_not]))
local macro_rules | `(tactic| walk_at "rt") => `(tactic| (try simp only [L2.tRet, L2.tAndV, L2.tOrV, L2.tNotV, L2.tCB, L2.tCons, L2.tNil, L2.tVar, L2.tC, L2.tChain, L2.tOp, L2.tUn, L2.rI, L2.rI0, L2.rU, L2.rEq, L2.rNe, Nk.scal_ii, Nk.scal_ss, Nk.scal_bb, Nk.scal_nn, Nk.scal_ni, Nk.scal_in, Nk.scal_ns, Nk.scal_sn, Nk.scal_is, Nk.scal_si, L2.tTest, L2.tB, L2.tAnd, L2.tOr, L2.tNot, L2.tIf, L2.tIfS, L2.tNext, L2.tAsg, L2.gName, Nk.gCons_cons, Nk.gNil_nil, L2.gSub, L2.tDrop, L2.tRetN, L2.tCall, L2.tCallS, L2.tIsN, L2.tNotN, L2.tSl, L2.tPart, L2.tNoPart, L2.tPar, L2.tAug, L2.tBreak, L2.tCont, and_assoc, Nk.tFor_k, Nk.tLc_k, L2.iRng1, L2.iRng2, L2.iList, L2.iTup, L2.iRev, L2.iEnum, L2.iZip, L2.tDisp, L2.tPairs, L2.tLstRg, L2.tRg1, L2.tRg2, Nk.rLenQ, Nk.rListQ, Nk.rTupleQ, L2.sDPut, L2.tBM, L2.tBM0, L2.tTup, L2.tLst, Nk.szN, Nat.reduceLeDiff, L2.tYes, L2.wipe, L2.start, L2.cxOf, List.map_cons, List.map_nil, List.cons_append, List.nil_append, List.append_nil, List.length_cons, List.length_nil, List.replicate, Nat.sub_self, Nat.zero_add, Nat.reduceAdd, Nat.reduceSub, List.set_cons_zero, List.set_cons_succ, List.getElem?_cons_zero, List.getElem?_cons_succ, Option.some.injEq, exists_and_left, exists_eq_left', exists_eq_left, L2.V.int.injEq, L2.V.bl.injEq, L2.V.str.injEq, L2.V.ref.injEq, true_and, and_true, decide_eq_true_eq, Bool.not_true, Bool.not_false, if_true, if_false, Bool.false_eq_true, reduceIte, List.cons.injEq, reduceCtorEq, decide_true, decide_false, decide_eq_false_iff_not, Bool.not_eq_true', Bool.not_not]))
namespace Nk
open PySem L2
section
variable {P : Program} {w : World} {K : PySem.W.Frag} {mg : Str → Option Value} {base : Heap}
abbrev nm_is_number : List Str := ["thing", "least", "most"]
abbrev pm_is_number : List Str := ["thing", "least", "most"]
abbrev lv_is_number : Nat := 1
theorem sc_is_number : FnScope nm_is_number pm_is_number (defScope s_is_number) := ⟨rfl, rfl, rfl, by decide +kernel, rfl, by decide +kernel, by decide +kernel⟩
def sp_is_number (K : PySem.W.Frag) : Sp := fun vs H Q _ => ∃ (x : V) (n : String) (lo : Int) (y : V), vs = [x, .int lo, y] ∧ Thing K H x n ∧ (∀ i, x = .int i → ∃ hi, y = .int hi) ∧ Q (.bl (isNumV x lo y)) H
theorem f_is_number (T : Txt K mg) : Fk P w K mg base CX0 lv_is_number "is_number" pm_is_number (sp_is_number K) := by
  obtain ⟨f, fd, F, g, b⟩ := T.d_is_number.ex
  refine ⟨f, fd, g, F.kp, b, F.ok sc_is_number (fun vs H Q E h => ?_) (fun cdv A outer s H vs Q E hr h => ?_)⟩
  · obtain ⟨x, n, lo, y, rfl, _⟩ := h; rfl
  · obtain ⟨x, n, lo, y, rfl, hx, hy, q⟩ := h
    refine ⟨_, (pss_one (ps_ret (pe_and (pe_callB call_isi (by rfl) T.b_isinstance (by decide +kernel) (pa_cons (pv 0) (pa_cons (pe_bltn (v := .ty "int") (by rfl) T.b_int (by decide +kernel) rfl) pa_nil))) (pe_and (pe_not (pe_callB call_isi (by rfl) T.b_isinstance (by decide +kernel) (pa_cons (pv 0) (pa_cons (pe_bltn (v := .ty "bool") (by rfl) T.b_bool (by decide +kernel) rfl) pa_nil)))) (pe_one (pe_chain op_le op_le (pv 1) (pv 0) (pv 2))))))), ?_⟩
    walk_at "rd"
    refine isi_thing hx (by decide) ?_
    cases hx with
    | int i =>
      obtain ⟨hi, rfl⟩ := hy i rfl
      simp only [show isA "int" "int" = true from by decide]
      walk_at "rd"
      refine isi_thing (.int i) (by decide) ?_
      simp only [show isA "int" "bool" = false from by decide]
      walk_at "rd"
      simp only [isNumV] at q
      by_cases c : lo ≤ i
      · simpa [c] using q
      · simpa [c] using q
    | bl i =>
      simp only [show isA "bool" "int" = true from by decide]
      walk_at "rd"
      refine isi_thing (.bl i) (by decide) ?_
      simp only [show isA "bool" "bool" = true from by decide]
      walk_at "rd"
      exact q
    | _ => exact ⟨false, rfl, q⟩
/-- whether a thing is rounds -/
def isRoundsV (H : Hp) (x : V) : Bool := match x with
  | .ref a => match H a with
    | some (.tup xs) => decide (1 ≤ xs.length) && decide (xs.length ≤ 12) && xs.all fun y => isNumV y 1 (.int 31)
    | _ => false
  | _ => false
/-- a thing, and what is in it if it is a tuple -/
def Thing2 (K : PySem.W.Frag) (H : Hp) (x : V) : Prop := (∃ n, Thing K H x n) ∧ ∀ a xs, x = .ref a → H a = some (.tup xs) → xs.length ≤ 100000 ∧ ∀ y ∈ xs, ∃ m, Thing K H y m
abbrev nm_is_rounds : List Str := ["thing", "one"]
abbrev pm_is_rounds : List Str := ["thing"]
abbrev lv_is_rounds : Nat := 2
theorem sc_is_rounds : FnScope nm_is_rounds pm_is_rounds (defScope s_is_rounds) := ⟨rfl, rfl, rfl, by decide +kernel, rfl, by decide +kernel, by decide +kernel⟩
def sp_is_rounds (K : PySem.W.Frag) : Sp := fun vs H Q _ => ∃ (x : V), vs = [x] ∧ Thing2 K H x ∧ ∀ H', Same H H' → Q (.bl (isRoundsV H x)) H'
theorem f_is_rounds (T : Txt K mg) : Fk P w K mg base CX0 lv_is_rounds "is_rounds" pm_is_rounds (sp_is_rounds K) := by
  obtain ⟨f, fd, F, g, b⟩ := T.d_is_rounds.ex
  refine ⟨f, fd, g, F.kp, b, F.ok sc_is_rounds (fun vs H Q E h => ?_) (fun cdv A outer s H vs Q E hr h => ?_)⟩
  · obtain ⟨x, rfl, _⟩ := h; rfl
  · obtain ⟨x, rfl, ⟨⟨n, hx⟩, hin⟩, q⟩ := h
    refine ⟨_, (pss_cons (ps_if (PW.pt (pw_or (pt_not (pt_val (pe_callB call_isi (by rfl) T.b_isinstance (by decide +kernel) (pa_cons (pv 0) (pa_cons (pe_bltn (v := .ty "tuple") (by rfl) T.b_tuple (by decide +kernel) rfl) pa_nil))))) (pw_or1 (pt_not (pt_chain op_le op_le pe_int (pe_callB call_len_seq (by rfl) T.b_len PySem.boot_len (pa_cons (pv 0) pa_nil)) pe_int))))) (pss_one (ps_ret pe_bl)) pss_nil)
      (pss_one (ps_ret (pe_callB (cr_all rfl) (by rfl) T.b_all (by decide +kernel) (pa_cons (pe_lc (own := [("one", 1)]) (g := gName 1) (tt := tYes) (by rfl) sc_is_rounds.nd (pi_tup (pv 0)) (blkOk_by (own := [("one", 1)]) (N := nm_is_rounds) (sc := defScope s_is_rounds) (by decide +kernel)) (fun _ _ _ _ _ => (pg_name (i := 1) sc_is_rounds.nd rfl (Or.inl rfl))) (fun _ _ _ _ _ => pts_nil) (fun _ _ _ _ _ => (pe_fn (f_is_number T) (hr.mono (by decide)) (by rfl) pass0 (pa_cons (pv 1) (pa_cons pe_int (pa_cons pe_int pa_nil)))))) pa_nil))))), ?_⟩
    walk_at "rd"
    refine isi_thing hx (by decide) ?_
    cases hx with
    | @tup a xs ha =>
      obtain ⟨hz, hth⟩ := hin a xs rfl ha
      simp only [show isA "tuple" "tuple" = true from by decide]
      walk_at "rd"
      refine ⟨xs, .inr (sqT ha), ?_⟩
      have e0 : isRoundsV H (.ref a) = (decide (1 ≤ xs.length) && decide (xs.length ≤ 12) && xs.all fun y => isNumV y 1 (.int 31)) := by
        simp only [isRoundsV, ha]
      rw [e0] at q
      by_cases c1 : 1 ≤ xs.length
      · by_cases c2 : xs.length ≤ 12
        · have d1 : (1 : Int) ≤ (xs.length : Int) := by omega
          have d2 : (xs.length : Int) ≤ 12 := by omega
          simp only [d1, d2]
          walk_at "rd"
          refine ⟨_, rfl, a, rfl, ⟨xs, sqT ha⟩, fun D hD => ?_⟩
          refine lcT hD (sqT ha) (fun i => (xs.take i).map fun y => .bl (isNumV y 1 (.int 31))) rfl (fun i y H2 hy p => ?_) (fun H2 s2 hD2 => ?_)
          · walk_at "rd"
            obtain ⟨m, hm⟩ := hth y (mem_of_get hy)
            refine ⟨y, m, 1, .int 31, rfl, Thing.same p.same hm, fun _ _ => ⟨31, rfl⟩, ?_⟩
            exact p.push hD (by simp; omega) (Same.refl _) (map_take_next _ hy)
          · refine ⟨D, xs.map fun y => isNumV y 1 (.int 31), rfl, ?_, ?_⟩
            · rw [List.take_length] at hD2
              rw [List.map_map]
              exact sqL hD2
            · have := q H2 s2
              simpa [c1, c2, List.all_map, Function.comp_def] using this
        · have d1 : (1 : Int) ≤ (xs.length : Int) := by omega
          have d2 : ¬ (xs.length : Int) ≤ 12 := by omega
          simp only [d1, d2]
          walk_at "rd"
          simpa [c2] using q H (Same.refl H)
      · have d1 : ¬ (1 : Int) ≤ (xs.length : Int) := by omega
        simp only [d1]
        walk_at "rd"
        simpa [c1] using q H (Same.refl H)
    | _ => exact ⟨false, by rfl, by simpa [isRoundsV, *] using q H (Same.refl H)⟩
/-- rounds as a tuple that stands -/
structure RndsAt (H : Hp) (a : Addr) (rs : List Int) : Prop where
  at_ : H a = some (.tup (rs.map V.int))
  ok : Rnds rs
  le : ∀ r ∈ rs, r ≤ 31
  ln : rs.length ≤ 12
theorem RndsAt.same {H H' : Hp} {a : Addr} {rs : List Int} (h : RndsAt H a rs) (s : Same H H') : RndsAt H' a rs := ⟨s _ _ h.at_, h.ok, h.le, h.ln⟩
theorem RndsAt.but {H H' : Hp} {a t : Addr} {rs : List Int} {l : List V} (h : RndsAt H a rs) (s : But t H H') (ht : H t = some (.lst l)) : RndsAt H' a rs := ⟨s _ _ h.at_ (ne_of h.at_ ht (by intro z; cases z)), h.ok, h.le, h.ln⟩
theorem RndsAt.thing {H : Hp} {a : Addr} {rs : List Int} (h : RndsAt H a rs) : Thing2 K H (.ref a) := by
  refine ⟨⟨_, .tup h.at_⟩, fun b xs e hb => ?_⟩
  cases e
  rw [h.at_] at hb
  cases hb
  refine ⟨by have := h.ln; simp; omega, fun y hy => ?_⟩
  obtain ⟨i, _, rfl⟩ := List.mem_map.mp hy
  exact ⟨_, .int i⟩
theorem RndsAt.is {H : Hp} {a : Addr} {rs : List Int} (h : RndsAt H a rs) : isRoundsV H (.ref a) = true := by
  have h1 := h.ok.len
  have h2 := h.ln
  have h3 : rs.all (fun y => isNumV (V.int y) 1 (V.int 31)) = true := by
    rw [List.all_eq_true]
    intro y hy
    simp [isNumV, h.ok.pos y hy, h.le y hy]
  simp only [isRoundsV, h.at_, List.length_map, List.all_map, Function.comp_def, h3, Bool.and_true, Bool.and_eq_true, decide_eq_true_eq]
  omega
theorem sum_le31 : ∀ {rs : List Int}, (∀ r ∈ rs, r ≤ 31) → rs.sum ≤ 31 * rs.length
  | [], _ => by simp
  | r :: rs, h => by
    have h1 := h r List.mem_cons_self
    have h2 := sum_le31 (rs := rs) fun x hx => h x (List.mem_cons_of_mem _ hx)
    simp only [List.sum_cons, List.length_cons]
    push_cast
    omega
theorem RndsAt.sum_le {H : Hp} {a : Addr} {rs : List Int} (h : RndsAt H a rs) : rs.sum ≤ 372 := by
  have := sum_le31 h.le
  have := h.ln
  omega
abbrev nm_number_of : List Str := ["rounds", "night", "whole", "found", "left", "long"]
abbrev pm_number_of : List Str := ["rounds", "night"]
abbrev lv_number_of : Nat := 1
theorem sc_number_of : FnScope nm_number_of pm_number_of (defScope s_number_of) := ⟨rfl, rfl, rfl, by decide +kernel, rfl, by decide +kernel, by decide +kernel⟩
def sp_number_of : Sp := fun vs H Q _ => ∃ (a : Addr) (rs : List Int) (n : Int), vs = [.ref a, .int n] ∧ RndsAt H a rs ∧ Q (.int (numOf rs n)) H
def iv_number_of (a : Addr) (rs : List Int) (n : Int) (H : Hp) (i : Nat) (σ : L2.St) (H' : Hp) : Prop := H' = H ∧ ∃ (fo le : Int) (v : Option V), σ = [some (.ref a), some (.int n), some (.int rs.sum), some (.int fo), some (.int le), v] ∧ walkR (rs.drop i) le fo = numOf rs n
theorem f_number_of (T : Txt K mg) : Fk P w K mg base CX0 lv_number_of "number_of" pm_number_of sp_number_of := by
  obtain ⟨f, fd, F, g, b⟩ := T.d_number_of.ex
  refine ⟨f, fd, g, F.kp, b, F.ok sc_number_of (fun vs H Q E h => ?_) (fun cdv A outer s H vs Q E hr h => ?_)⟩
  · obtain ⟨a, rs, n, rfl, _⟩ := h; rfl
  · obtain ⟨a, rs, n, rfl, ha, q⟩ := h
    refine ⟨_, (pss_cons (ps_set (i := 2) sc_number_of.nd rfl (.inl rfl) (pe_callB (cr_sumT rfl) (by rfl) T.b_sum (by decide +kernel) (pa_cons (pv 0) pa_nil)))
      (pss_cons (ps_set (i := 3) sc_number_of.nd rfl (.inl rfl) (pe_op op_mul (pe_op op_fdiv (pv 1) (pv 2)) (pe_callB call_len_seq (by rfl) T.b_len PySem.boot_len (pa_cons (pv 0) pa_nil))))
      (pss_cons (ps_set (i := 4) sc_number_of.nd rfl (.inl rfl) (pe_op op_mod (pv 1) (pv 2)))
      (pss_cons (ps_for PassesOwn.never rfl (pi_tup (pv 0)) (pg_name (i := 5) sc_number_of.nd rfl (Or.inl rfl)) (pss_cons (ps_if (pt_cmpR op_lt (pv 4) (pv 5) (nomark _)) (pss_one (ps_ret (pv 3))) pss_nil)
      (pss_cons (ps_set (i := 4) sc_number_of.nd rfl (.inl rfl) (pe_op op_sub (pv 4) (pv 5)))
      (pss_one (ps_set (i := 3) sc_number_of.nd rfl (.inl rfl) (pe_op op_add (pv 3) pe_int))))))
      (pss_one (ps_ret (pv 3))))))), ?_⟩
    walk_at "rd"
    have hs := ha.ok.sum
    have hs' := ha.sum_le
    have hl := ha.ln
    refine ⟨a, rs, rfl, sqT ha.at_, ?_⟩
    walk_at "rd"
    refine ⟨⟨hs, by omega⟩, rs.map V.int, .inr (sqT ha.at_), .inr ⟨by simp; omega, by simp; omega⟩, hs, ?_⟩
    refine ⟨_, rfl, a, rfl, ⟨_, sqT ha.at_⟩, for_tup (K := K) (a := a) (xs := rs.map V.int) (iv_number_of a rs n H)
      ⟨rfl, _, _, _, rfl, by simp [numOf]⟩ (fun i σ H' _ p => by rw [p.1]; exact sqT ha.at_) ?_ ?_⟩
    · rintro i x σ H' hi ⟨rfl, fo, le, v, rfl, hw⟩
      rw [List.getElem?_map] at hi
      cases e : rs[i]? with
      | none => rw [e] at hi; cases hi
      | some r =>
        rw [e] at hi
        cases hi
        have hlt := lt_of_get e
        have ed : rs.drop i = r :: rs.drop (i + 1) := by
          rw [List.drop_eq_getElem_cons hlt]
          rw [(List.getElem?_eq_some_iff.mp e).2]
        rw [ed] at hw
        unfold walkR at hw
        walk_at "rd"
        by_cases c : le < r
        · rw [if_pos c] at hw
          rw [if_pos c, hw]
          exact q
        · rw [if_neg c] at hw
          rw [if_neg c]
          exact ⟨rfl, _, _, _, rfl, hw⟩
    · rintro σ H' ⟨rfl, fo, le, v, rfl, hw⟩
      rw [List.length_map, List.drop_length] at hw
      walk_at "rd"
      unfold walkR at hw
      rw [hw]
      exact q
abbrev nm_first_of : List Str := ["rounds", "number"]
abbrev pm_first_of : List Str := ["rounds", "number"]
abbrev lv_first_of : Nat := 1
theorem sc_first_of : FnScope nm_first_of pm_first_of (defScope s_first_of) := ⟨rfl, rfl, rfl, by decide +kernel, rfl, by decide +kernel, by decide +kernel⟩
def sp_first_of : Sp := fun vs H Q _ => ∃ (a : Addr) (rs : List Int) (n : Int), vs = [.ref a, .int n] ∧ RndsAt H a rs ∧ ∀ H', Same H H' → Q (.int (firstOf rs n)) H'
theorem cut_pre (rs : List Int) (j : Nat) : cutV (rs.map V.int) none (some (j : Int)) = (rs.take j).map V.int := by
  unfold cutV
  rw [HT.sIx_none, HT.sIx_nat, List.drop_zero, Nat.sub_zero, List.length_map, ← List.map_take]
  congr 1
  by_cases h : j ≤ rs.length
  · rw [Nat.min_eq_left h]
  · rw [Nat.min_eq_right (by omega), List.take_length, List.take_of_length_le (by omega)]
theorem f_first_of (T : Txt K mg) : Fk P w K mg base CX0 lv_first_of "first_of" pm_first_of sp_first_of := by
  obtain ⟨f, fd, F, g, b⟩ := T.d_first_of.ex
  refine ⟨f, fd, g, F.kp, b, F.ok sc_first_of (fun vs H Q E h => ?_) (fun cdv A outer s H vs Q E hr h => ?_)⟩
  · obtain ⟨a, rs, n, rfl, _⟩ := h; rfl
  · obtain ⟨a, rs, n, rfl, ha, q⟩ := h
    refine ⟨_, (pss_one (ps_ret (pe_op op_add (pe_op op_mul (pe_op op_fdiv (pv 1) (pe_callB call_len_seq (by rfl) T.b_len PySem.boot_len (pa_cons (pv 0) pa_nil))) (pe_callB (cr_sumT rfl) (by rfl) T.b_sum (by decide +kernel) (pa_cons (pv 0) pa_nil))) (pe_callB (cr_sumT rfl) (by rfl) T.b_sum (by decide +kernel) (pa_cons (pe_slice sl_tup (pv 0) po_none (po_some (pe_op op_mod (pv 1) (pe_callB call_len_seq (by rfl) T.b_len PySem.boot_len (pa_cons (pv 0) pa_nil))))) pa_nil))))), ?_⟩
    walk_at "rd"
    have hs := ha.ok.sum
    have hs' := ha.sum_le
    have hl := ha.ln
    have hl0 := ha.ok.len
    have hM : (rs.map V.int).length = rs.length := List.length_map _
    refine ⟨rs.map V.int, .inr (sqT ha.at_), ?_, a, rs, rfl, sqT ha.at_, ?_⟩
    · rw [hM]; exact ⟨by omega, by omega⟩
    rw [hM]
    refine ⟨_, rfl, .inr ⟨by omega, by omega⟩, rs.map V.int, .inr (sqT ha.at_), by rw [hM]; omega, ?_⟩
    rw [hM]
    obtain ⟨j, hj, e, _⟩ := emod_nat (k := n) hl0
    have e1 : cutV (rs.map V.int) none (some (n % ↑rs.length)) = (rs.take j).map V.int := by rw [e]; exact cut_pre rs j
    refine ⟨a, rs.map V.int, rfl, sqT ha.at_, ?_, fun p hp => ?_⟩
    · rw [e, HT.sIx_nat, hM]
      omega
    rw [e1]
    refine ⟨p, rs.take j, rfl, sqT upd_same, _, rfl, ?_⟩
    have := q _ (same_upd (o := .tup ((rs.take j).map V.int)) hp)
    unfold firstOf pre at this
    rw [e] at this
    simpa using this
theorem isNum_ok {n : Int} (h0 : 0 ≤ n) (h1 : n ≤ 1000000000) : isNumV (.int n) 0 (.int 1000000000) = true := by simp [isNumV, h0, h1]
end
end Nk
namespace Nk
open PySem L2
section
variable {P : Program} {w : World} {K : PySem.W.Frag} {mg : Str → Option Value} {base : Heap}
/-- the script at a and the town at t: c draws so far -/
structure Tn (K : PySem.W.Frag) (H : Hp) (a t : Addr) (ns : List Int) (c : Nat) : Prop where
  scr : SqN K H a t (ns.map V.int)
  len : ns.length ≤ 63
  town : ∃ ls : List Int, ls.length = ns.length ∧ H t = some (.lst (V.int c :: ls.map V.int))
theorem Tn.same {H H' : Hp} {a t : Addr} {ns : List Int} {c : Nat} (h : Tn K H a t ns c) (s : Same H H') : Tn K H' a t ns c := by
  obtain ⟨ls, e, ht⟩ := h.town
  exact ⟨h.scr.same s, h.len, ls, e, s _ _ ht⟩
theorem Tn.lst {H : Hp} {a t : Addr} {ns : List Int} {c : Nat} (h : Tn K H a t ns c) : ∃ l, H t = some (.lst l) := by
  obtain ⟨ls, e, ht⟩ := h.town
  exact ⟨_, ht⟩
theorem Tn.some_ {H : Hp} {a t : Addr} {ns : List Int} {c : Nat} (h : Tn K H a t ns c) {p : Addr} (hp : H p = none) : p ≠ t := by
  obtain ⟨l, hl⟩ := h.lst
  exact (ne_of_none hl hp).symm
/-- a tuple stays while the town changes -/
theorem Tn.tup {H H' : Hp} {a t p : Addr} {ns : List Int} {c : Nat} {xs : List V} (h : Tn K H a t ns c) (b : But t H H') (hp : H p = some (.tup xs)) : H' p = some (.tup xs) := by
  obtain ⟨l, hl⟩ := h.lst
  exact b _ _ hp (ne_of hp hl (by intro z; cases z))
/-- an object that was made since may change -/
theorem Tn.app {H H' : Hp} {a t p : Addr} {ns : List Int} {c c0 : Nat} {o : HO} (h : Tn K H' a t ns c) (h0 : Tn K H a t ns c0) (hp : H p = none) (hpt : p ≠ t) : Tn K (upd H' p o) a t ns c := by
  obtain ⟨ls, e1, e2⟩ := h.town
  exact ⟨h.scr.app h0.scr hp, h.len, ls, e1, by rw [upd_ne hpt.symm]; exact e2⟩
theorem But.app {H H' : Hp} {t p : Addr} {o : HO} (b : But t H H') (hp : H p = none) : But t H (L2.upd H' p o) := fun z x hz hzt => by
  rw [upd_ne (ne_of_none hz hp)]
  exact b _ _ hz hzt
theorem But.free {H H' : Hp} {t p : Addr} (b : But t H H') (hp : H' p = none) (hpt : p ≠ t) : H p = none := by
  cases e : H p with
  | none => rfl
  | some o => rw [b _ _ e hpt] at hp; cases hp
abbrev nm__law_town : List Str := ["script"]
abbrev pm__law_town : List Str := ["script"]
abbrev lv__law_town : Nat := 1
theorem sc__law_town : FnScope nm__law_town pm__law_town (defScope s__law_town) := ⟨rfl, rfl, rfl, by decide +kernel, rfl, by decide +kernel, by decide +kernel⟩
def sp__law_town (K : PySem.W.Frag) : Sp := fun vs H Q _ => ∃ (a : Addr) (ns : List Int), vs = [.ref a] ∧ SqL K H a (ns.map V.int) ∧ ns.length ≤ 63 ∧ ∀ H' t, Same H H' → Tn K H' a t ns 0 → H t = none → Q (.ref t) H'
theorem f__law_town (T : Txt K mg) : Fk P w K mg base CX0 lv__law_town "_law_town" pm__law_town (sp__law_town K) := by
  obtain ⟨f, fd, F, g, b⟩ := T.d__law_town.ex
  refine ⟨f, fd, g, F.kp, b, F.ok sc__law_town (fun vs H Q E h => ?_) (fun cdv A outer s H vs Q E hr h => ?_)⟩
  · obtain ⟨a, ns, rfl, _⟩ := h; rfl
  · obtain ⟨a, ns, rfl, hS, hl, q⟩ := h
    refine ⟨_, (pss_one (ps_ret (pe_op op_cat (pe_lst (pa_cons pe_int pa_nil)) (pe_callTy call_list_of (by rfl) T.b_list (by decide +kernel) (pa_cons (pv 0) pa_nil))))), ?_⟩
    walk_at "rd"
    intro p hp
    have s1 : Same H (upd H p (.lst [.int 0])) := same_upd hp
    refine ⟨ns.map V.int, .inl (s1.seq hS), fun l hl2 => ?_⟩
    have npl : p ≠ l := fun e => by rw [← e, upd_same] at hl2; cases hl2
    have s2 := s1.trans (same_upd (o := .lst (ns.map V.int)) hl2)
    refine ⟨p, l, _, _, rfl, rfl, by rw [upd_ne npl]; exact upd_same, upd_same, sz (by simp; omega), fun t ht => ?_⟩
    have hH : H t = none := s2.free ht
    exact q _ t (s2.trans (same_upd ht)) ⟨(SqN.new (s2.seq hS) ht).same (same_upd ht), hl, ns, rfl, upd_same⟩ hH
abbrev nm__law_draw : List Str := ["script", "town", "many", "at", "left", "number"]
abbrev pm__law_draw : List Str := ["script", "town", "many"]
abbrev lv__law_draw : Nat := 1
theorem sc__law_draw : FnScope nm__law_draw pm__law_draw (defScope s__law_draw) := ⟨rfl, rfl, rfl, by decide +kernel, rfl, by decide +kernel, by decide +kernel⟩
def sp__law_draw (K : PySem.W.Frag) : Sp := fun vs H Q _ => ∃ (a t : Addr) (ns : List Int) (c : Nat) (many : Int), vs = [.ref a, .ref t, .int many] ∧ Tn K H a t ns c ∧ c < 1000000000 ∧ 0 < many ∧ many < 1073741824 ∧
  ∀ (d : Int) (H' : Hp), 0 ≤ d → d < many → Tn K H' a t ns (c + 1) → But t H H' → Q (.int d) H'
theorem f__law_draw (T : Txt K mg) : Fk P w K mg base CX0 lv__law_draw "_law_draw" pm__law_draw (sp__law_draw K) := by
  obtain ⟨f, fd, F, g, b⟩ := T.d__law_draw.ex
  refine ⟨f, fd, g, F.kp, b, F.ok sc__law_draw (fun vs H Q E h => ?_) (fun cdv A outer s H vs Q E hr h => ?_)⟩
  · obtain ⟨a, t, ns, c, many, rfl, _⟩ := h; rfl
  · obtain ⟨a, t, ns, c, many, rfl, hT, hc, hm0, hm1, q⟩ := h
    refine ⟨_, (pss_cons (ps_asg (pe_op op_add (pe_ix ix_list (pv 1) pe_int (fun _ _ => rfl)) pe_int) (pg_sub (pv 1) pe_int set_list))
      (pss_cons (ps_if (pt_cmpR (op_eqD hr.units) (pv 0) (pe_lst pa_nil) (nomark _)) (pss_one (ps_ret (pe_op op_mod (pe_op op_fdiv (pe_op op_mul (pe_op op_mul (pe_ix ix_list (pv 1) pe_int (fun _ _ => rfl)) (pe_ix ix_list (pv 1) pe_int (fun _ _ => rfl))) pe_int) pe_int) (pv 2)))) pss_nil)
      (pss_cons (ps_set (i := 3) sc__law_draw.nd rfl (.inl rfl) (pe_op op_mod (pe_ix ix_list (pv 1) pe_int (fun _ _ => rfl)) (pe_callB call_len_seq (by rfl) T.b_len PySem.boot_len (pa_cons (pv 0) pa_nil))))
      (pss_cons (ps_set (i := 4) sc__law_draw.nd rfl (.inl rfl) (pe_ix ix_list (pv 1) (pe_op op_add pe_int (pv 3)) (fun _ _ => rfl)))
      (pss_cons (ps_if (PW.pt (pw_and (pt_cmpR op_ge (pe_ix ix_list (pv 0) (pv 3) (fun _ _ => rfl)) (pe_op op_pow pe_int pe_int) (nomark _)) (pw_and1 (pt_cmpR op_gt (pv 4) pe_int (nomark _))))) (pss_cons (ps_asg (pe_op op_fdiv (pv 4) (pv 2)) (pg_sub (pv 1) (pe_op op_add pe_int (pv 3)) set_list))
      (pss_one (ps_ret (pe_op op_mod (pv 4) (pv 2))))) pss_nil)
      (pss_cons (ps_set (i := 5) sc__law_draw.nd rfl (.inl rfl) (pe_op op_mod (pe_op op_add (pe_ix ix_list (pv 0) (pv 3) (fun _ _ => rfl)) (pe_op op_mul pe_int (pe_ix ix_list (pv 1) pe_int (fun _ _ => rfl)))) pe_int))
      (pss_cons (ps_set (i := 5) sc__law_draw.nd rfl (.inl rfl) (pe_op op_mod (pe_op op_pow (pv 5) pe_int) pe_int))
      (pss_one (ps_ret (pe_op op_mod (pe_op op_fdiv (pe_op op_mod (pe_op op_add (pe_op op_mul (pe_op op_fdiv (pv 5) pe_int) pe_int) (pv 5)) pe_int) pe_int) (pv 2))))))))))), ?_⟩
    walk_at "rd"
    obtain ⟨ls, el, ht⟩ := hT.town
    refine ixL (j := 0) (sqL ht) rfl rfl ?_
    walk_at "rd"
    refine setL (j := 0) ht rfl (by simp) ?_
    intro p hp
    have hpt : t ≠ p := fun e => by rw [← e, upd_same] at hp; cases hp
    have b1 : But t H (upd (upd H t (.lst ((V.int c :: ls.map V.int).set 0 (V.int (↑c + 1))))) p (.lst [])) := But.thenS But.upd (same_upd hp)
    have hN1 := hT.scr.but b1
    have hS1 := hN1.l
    have ht1 : (upd (upd H t (.lst ((V.int c :: ls.map V.int).set 0 (V.int (↑c + 1))))) p (.lst [])) t = some (.lst (V.int ((c + 1 : Nat) : Int) :: ls.map V.int)) := by
      rw [upd_ne hpt, upd_same]; rfl
    have hp1 : (upd (upd H t (.lst ((V.int c :: ls.map V.int).set 0 (V.int (↑c + 1))))) p (.lst [])) p = some (.lst (([] : List Int).map V.int)) := upd_same
    revert b1 hN1 hS1 ht1 hp1
    generalize upd (upd H t (.lst ((V.int c :: ls.map V.int).set 0 (V.int (↑c + 1))))) p (.lst []) = H1
    intro b1 hN1 hS1 ht1 hp1
    have T1 : Tn K H1 a t ns (c + 1) := ⟨hN1, hT.len, ls, el, ht1⟩
    have hC : ((c + 1 : Nat) : Int) < 2 ^ 62 := by omega
    refine eqD (dp_LI hS1) (dp_LI (sqL hp1)) (gd_dLI (k := 0) _) (gd_dLI (k := 0) _) (fun e => ?_) (fun e => ?_)
    · walk_at "rd"
      refine ixL (j := 0) (sqL ht1) rfl rfl ?_
      refine ixL (j := 0) (sqL ht1) rfl rfl ?_
      walk_at "rd"
      refine ⟨.inl ⟨by omega, by omega⟩, .inr ⟨by decide, by decide⟩, ⟨by decide, by decide⟩, hm0, ?_⟩
      exact q _ H1 (Int.emod_nonneg _ (by omega)) (Int.emod_lt_of_pos _ hm0) T1 b1
    · have hne : ns ≠ [] := fun z => e (by rw [z])
      have hn0 : 0 < ns.length := List.length_pos_iff.mpr hne
      walk_at "rd"
      refine ixL (j := 0) (sqL ht1) rfl rfl ?_
      refine ⟨ns.map V.int, .inl hS1, ?_⟩
      rw [List.length_map]
      walk_at "rd"
      obtain ⟨j, hj, ej, _⟩ := emod_nat (k := ((c + 1 : Nat) : Int)) hn0
      rw [ej]
      refine ⟨by omega, ?_⟩
      have hlj : (V.int ((c + 1 : Nat) : Int) :: ls.map V.int)[j + 1]? = some (V.int (ls[j]'(by omega))) := by
        rw [List.getElem?_cons_succ, List.getElem?_map, List.getElem?_eq_getElem (by omega)]; rfl
      have hnj : (ns.map V.int)[j]? = some (V.int (ns[j]'hj)) := by
        rw [List.getElem?_map, List.getElem?_eq_getElem hj]; rfl
      refine ixL (j := j + 1) (sqL ht1) (by push_cast; omega) hlj ?_
      refine ixL (j := j) hS1 rfl hnj ?_
      have tail : rIxL K (.ref a) (.int (j : Int)) H1 fun x H2 => rIxL K (.ref t) (.int 0) H2 fun y H3 => ∃ x_3, y = V.int x_3 ∧ CMul 104729 x_3 ∧ ∃ i, x = V.int i ∧ 0 < (4294967291 : Int) ∧ CPow ((i + 104729 * x_3) % 4294967291) 5 ∧ 0 < (4294967279 : Int) ∧
          CDiv (((i + 104729 * x_3) % 4294967291) ^ Int.toNat 5 % 4294967279) 64 ∧ CMul (((i + 104729 * x_3) % 4294967291) ^ Int.toNat 5 % 4294967279 / 64) 69621 ∧ 0 < (4294967231 : Int) ∧
          CDiv ((((i + 104729 * x_3) % 4294967291) ^ Int.toNat 5 % 4294967279 / 64 * 69621 + ((i + 104729 * x_3) % 4294967291) ^ Int.toNat 5 % 4294967279) % 4294967231) 8 ∧ 0 < many ∧
          Q (.int ((((i + 104729 * x_3) % 4294967291) ^ Int.toNat 5 % 4294967279 / 64 * 69621 + ((i + 104729 * x_3) % 4294967291) ^ Int.toNat 5 % 4294967279) % 4294967231 / 8 % many)) H3 := by
        refine ixL (j := j) hS1 rfl hnj ?_
        refine ixL (j := 0) (sqL ht1) rfl rfl ?_
        have hp := Int.emod_nonneg (ns[j] + 104729 * ((c + 1 : Nat) : Int)) (show (4294967291 : Int) ≠ 0 by decide)
        have hq := Int.emod_lt_of_pos (ns[j] + 104729 * ((c + 1 : Nat) : Int)) (show (0 : Int) < 4294967291 by decide)
        refine ⟨_, rfl, .inl ⟨by decide, by decide⟩, _, rfl, by decide, ⟨by decide, by decide, by omega⟩, by decide, ⟨by decide, by decide⟩, .inr ⟨by decide, by decide⟩, by decide, ⟨by decide, by decide⟩, hm0, ?_⟩
        exact q _ H1 (Int.emod_nonneg _ (by omega)) (Int.emod_lt_of_pos _ hm0) T1 b1
      refine ⟨⟨by decide, by decide, by decide⟩, _, rfl, ?_⟩
      refine ite2 (fun c1 => ?_) (fun c1 => ?_)
      · refine ⟨_, rfl, ite2 (fun c2 => ?_) (fun c2 => ?_)⟩
        · refine ⟨_, rfl, ⟨hm0, hm1⟩, ?_⟩
          refine setL (j := j + 1) ht1 (by push_cast; omega) (by simp; omega) ?_
          refine ⟨_, rfl, hm0, ?_⟩
          refine q _ _ (Int.emod_nonneg _ (by omega)) (Int.emod_lt_of_pos _ hm0) ⟨hN1.but But.upd, hT.len, ls.set j (ls[j] / many), by rw [List.length_set]; exact el, ?_⟩ (b1.trans But.upd)
          rw [upd_same, List.set_cons_succ, List.map_set]
        · exact tail
      · exact tail
abbrev nm__law_pick : List Str := ["script", "town", "some"]
abbrev pm__law_pick : List Str := ["script", "town", "some"]
abbrev lv__law_pick : Nat := 2
theorem sc__law_pick : FnScope nm__law_pick pm__law_pick (defScope s__law_pick) := ⟨rfl, rfl, rfl, by decide +kernel, rfl, by decide +kernel, by decide +kernel⟩
def sp__law_pick (K : PySem.W.Frag) : Sp := fun vs H Q _ => ∃ (a t l : Addr) (ns : List Int) (c : Nat) (xs : List V), vs = [.ref a, .ref t, .ref l] ∧ Tn K H a t ns c ∧ c < 1000000000 ∧ H l = some (.lst xs) ∧ l ≠ t ∧ 0 < xs.length ∧ xs.length ≤ 100000 ∧
  ∀ (v : V) (H' : Hp), v ∈ xs → Tn K H' a t ns (c + 1) → But t H H' → Q v H'
theorem f__law_pick (T : Txt K mg) : Fk P w K mg base CX0 lv__law_pick "_law_pick" pm__law_pick (sp__law_pick K) := by
  obtain ⟨f, fd, F, g, b⟩ := T.d__law_pick.ex
  refine ⟨f, fd, g, F.kp, b, F.ok sc__law_pick (fun vs H Q E h => ?_) (fun cdv A outer s H vs Q E hr h => ?_)⟩
  · obtain ⟨a, t, l, ns, c, xs, rfl, _⟩ := h; rfl
  · obtain ⟨a, t, l, ns, c, xs, rfl, hT, hc, hl, hlt, h0, h1, q⟩ := h
    refine ⟨_, (pss_one (ps_ret (pe_ix ix_list (pv 2) (pe_fn (f__law_draw T) (hr.mono (by decide)) (by rfl) pass0 (pa_cons (pv 0) (pa_cons (pv 1) (pa_cons (pe_callB call_len_seq (by rfl) T.b_len PySem.boot_len (pa_cons (pv 2) pa_nil)) pa_nil)))) (fun _ _ => rfl)))), ?_⟩
    walk_at "rd"
    refine ⟨xs, .inl (sqL hl), a, t, ns, c, xs.length, rfl, hT, hc, by omega, by omega, fun d H' d0 d1 T' b' => ?_⟩
    have hd : d.toNat < xs.length := by omega
    exact ixL (j := d.toNat) (sqL (b' _ _ hl hlt)) (by omega) (List.getElem?_eq_getElem hd) (q _ H' (List.getElem_mem hd) T' b')
theorem pickI {H : Hp} {a t : Addr} {ns : List Int} {c : Nat} {Q : VK} {E : XK} (ks : List Int) (hT : Tn K H a t ns c) (hc : c < 1000000000) (q : ∀ k ∈ ks, ∀ H', Tn K H' a t ns (c + 1) → But t H H' → Q (.int k) H') (h0 : 0 < ks.length := by decide) (h1 : ks.length ≤ 100000 := by decide) :
    ∀ p, H p = none → sp__law_pick K [.ref a, .ref t, .ref p] (L2.upd H p (.lst (ks.map V.int))) Q E := by
  intro p hp
  refine ⟨a, t, p, ns, c, ks.map V.int, rfl, hT.same (same_upd hp), hc, upd_same, hT.some_ hp, by simpa using h0, by simpa using h1, fun v H' hv T' b' => ?_⟩
  obtain ⟨k, hk, rfl⟩ := List.mem_map.mp hv
  exact q k hk H' T' (Same.thenB (same_upd hp) b')
theorem pickV {H : Hp} {a t : Addr} {ns : List Int} {c : Nat} {Q : VK} {E : XK} {xs : List V} (hT : Tn K H a t ns c) (hc : c < 1000000000) (h0 : 0 < xs.length) (h1 : xs.length ≤ 100000) (q : ∀ v ∈ xs, ∀ H', Tn K H' a t ns (c + 1) → But t H H' → Q v H') :
    ∀ p, H p = none → sp__law_pick K [.ref a, .ref t, .ref p] (L2.upd H p (.lst xs)) Q E := by
  intro p hp
  exact ⟨a, t, p, ns, c, xs, rfl, hT.same (same_upd hp), hc, upd_same, hT.some_ hp, h0, h1, fun v H' hv T' b' => q v hv H' T' (Same.thenB (same_upd hp) b')⟩
abbrev nm__law_rounds : List Str := ["script", "town", "long", "top", "many", "k"]
abbrev pm__law_rounds : List Str := ["script", "town", "long", "top"]
abbrev lv__law_rounds : Nat := 2
theorem sc__law_rounds : FnScope nm__law_rounds pm__law_rounds (defScope s__law_rounds) := ⟨rfl, rfl, rfl, by decide +kernel, rfl, by decide +kernel, by decide +kernel⟩
def sp__law_rounds (K : PySem.W.Frag) : Sp := fun vs H Q _ => ∃ (a t : Addr) (ns : List Int) (c : Nat) (long top : Int), vs = [.ref a, .ref t, .int long, .int top] ∧ Tn K H a t ns c ∧ c + 1 + long.toNat < 1000000000 ∧ 0 < long ∧ long ≤ 1000 ∧ 0 < top ∧ top < 1073741824 ∧
  ∀ (rs : List Int) (p : Addr) (c' : Nat) (H' : Hp), 1 ≤ rs.length → (rs.length : Int) ≤ long → (∀ r ∈ rs, 1 ≤ r ∧ r ≤ top) → H p = none → H' p = some (.tup (rs.map V.int)) → c' ≤ c + 1 + long.toNat → Tn K H' a t ns c' → But t H H' → Q (.ref p) H'
def iv__law_rounds (K : PySem.W.Frag) (H1 : Hp) (a t D : Addr) (ns : List Int) (c : Nat) (top : Int) (i : Nat) (H : Hp) : Prop :=
  ∃ rs : List Int, rs.length = i ∧ (∀ r ∈ rs, 1 ≤ r ∧ r ≤ top) ∧ H D = some (.lst (rs.map V.int)) ∧ Tn K H a t ns (c + 1 + i) ∧ But t H1 H
theorem f__law_rounds (T : Txt K mg) : Fk P w K mg base CX0 lv__law_rounds "_law_rounds" pm__law_rounds (sp__law_rounds K) := by
  obtain ⟨f, fd, F, g, b⟩ := T.d__law_rounds.ex
  refine ⟨f, fd, g, F.kp, b, F.ok sc__law_rounds (fun vs H Q E h => ?_) (fun cdv A outer s H vs Q E hr h => ?_)⟩
  · obtain ⟨a, t, ns, c, long, top, rfl, _⟩ := h; rfl
  · obtain ⟨a, t, ns, c, long, top, rfl, hT, hc, hl0, hl1, ht0, ht1, q⟩ := h
    refine ⟨_, (pss_cons (ps_set (i := 4) sc__law_rounds.nd rfl (.inl rfl) (pe_op op_add pe_int (pe_fn (f__law_draw T) (hr.mono (by decide)) (by rfl) pass0 (pa_cons (pv 0) (pa_cons (pv 1) (pa_cons (pv 2) pa_nil))))))
      (pss_one (ps_ret (pe_callTy call_tuple_of (by rfl) T.b_tuple (by decide +kernel) (pa_cons (pe_lc (own := [("k", 5)]) (g := gName 5) (tt := tYes) (by rfl) sc__law_rounds.nd (pi_range1 (by rfl) T.b_range (pa_cons (pv 4) pa_nil)) (blkOk_by (own := [("k", 5)]) (N := nm__law_rounds) (sc := defScope s__law_rounds) (by decide +kernel)) (fun _ _ _ _ _ => (pg_name (i := 5) sc__law_rounds.nd rfl (Or.inl rfl))) (fun _ _ _ _ _ => pts_nil) (fun _ _ _ _ _ => (pe_op op_add pe_int (pe_fn (f__law_draw T) (hr.mono (by decide)) (by rfl) pass0 (pa_cons (pv 0) (pa_cons (pv 1) (pa_cons (pv 3) pa_nil))))))) pa_nil))))), ?_⟩
    walk_at "rd"
    refine ⟨a, t, ns, c, long, rfl, hT, by omega, hl0, by omega, fun d H1 d0 d1 T1 b1 => ?_⟩
    walk_at "rd"
    refine ⟨_, rfl, 1 + d, rfl, by omega, by omega, fun D hD => ?_⟩
    have hDt : D ≠ t := T1.some_ hD
    refine lc_range (iv__law_rounds K H1 a t D ns c top) ⟨[], rfl, fun r hr => (nomatch hr), upd_same, T1.same (same_upd hD), .of (same_upd hD)⟩ (fun i H2 hi iv => ?_) (fun H2 iv => ?_)
    · obtain ⟨rs, el, hrs, hD2, T2, b2⟩ := iv
      walk_at "rd"
      refine ⟨a, t, ns, c + 1 + i, top, rfl, T2, by omega, ht0, ht1, fun e H3 e0 e1 T3 b3 => ?_⟩
      walk_at "rd"
      refine ⟨rs.map V.int, b3 _ _ hD2 hDt, szl (by simp; omega), rs ++ [1 + e], by simp [el], ?_, ?_, ?_, ?_⟩
      · intro r hr
        rcases List.mem_append.mp hr with hr | hr
        · exact hrs r hr
        · have := List.mem_singleton.mp hr; omega
      · rw [upd_same, List.map_append]; rfl
      · have : Tn K (upd H3 D (.lst (rs.map V.int ++ [.int (1 + e)]))) a t ns (c + 1 + i + 1) := by
          obtain ⟨ls, e1, e2⟩ := T3.town
          refine ⟨?_, T3.len, ls, e1, by rw [upd_ne hDt.symm]; exact e2⟩
          have h2 := hT.scr.but (b1.trans (b2.trans b3))
          have hDD : But D H3 (upd H3 D (.lst (rs.map V.int ++ [.int (1 + e)]))) := But.upd
          have h0 := hT.scr.but b1
          rcases h0 with ⟨h | ⟨o, h⟩, n⟩ | h
          · have hne : a ≠ D := ne_of_none h hD
            rcases h2 with ⟨h' | ⟨o', h'⟩, n'⟩ | h'
            · exact .inl ⟨.inl (hDD _ _ h' hne), n'⟩
            · exact .inl ⟨.inr ⟨o', hDD _ _ h' hne⟩, n'⟩
            · exact .inr h'
          · have hne : a ≠ D := ne_of_none h hD
            rcases h2 with ⟨h' | ⟨o', h'⟩, n'⟩ | h'
            · exact .inl ⟨.inl (hDD _ _ h' hne), n'⟩
            · exact .inl ⟨.inr ⟨o', hDD _ _ h' hne⟩, n'⟩
            · exact .inr h'
          · exact .inr h
        exact this
      · intro x o hx hxt
        rw [upd_ne (ne_of_none hx hD)]
        exact b3 _ _ (b2 _ _ hx hxt) hxt
    · obtain ⟨rs, el, hrs, hD2, T2, b2⟩ := iv
      refine ⟨D, rfl, rs.map V.int, .inl ⟨sqL hD2, fun l hl => ?_⟩⟩
      have hlt : l ≠ t := T2.some_ hl
      refine q rs l _ _ (by omega) (by omega) hrs ?_ upd_same (by omega) (T2.same (same_upd hl)) ((b1.trans b2).thenS (same_upd hl))
      cases e : H l with
      | none => rfl
      | some o => rw [b2 _ _ (b1 _ _ e hlt) hlt] at hl; cases hl
abbrev nm__law_whole : List Str := ["thing"]
abbrev pm__law_whole : List Str := ["thing"]
abbrev lv__law_whole : Nat := 1
theorem sc__law_whole : FnScope nm__law_whole pm__law_whole (defScope s__law_whole) := ⟨rfl, rfl, rfl, by decide +kernel, rfl, by decide +kernel, by decide +kernel⟩
def sp__law_whole (K : PySem.W.Frag) : Sp := fun vs H Q _ => ∃ (x : V) (n : String), vs = [x] ∧ Thing K H x n ∧ Q (.bl (isWholeV x)) H
theorem f__law_whole (T : Txt K mg) : Fk P w K mg base CX0 lv__law_whole "_law_whole" pm__law_whole (sp__law_whole K) := by
  obtain ⟨f, fd, F, g, b⟩ := T.d__law_whole.ex
  refine ⟨f, fd, g, F.kp, b, F.ok sc__law_whole (fun vs H Q E h => ?_) (fun cdv A outer s H vs Q E hr h => ?_)⟩
  · obtain ⟨x, n, rfl, _⟩ := h; rfl
  · obtain ⟨x, n, rfl, hx, q⟩ := h
    refine ⟨_, (pss_one (ps_ret (pe_and (pe_callB call_isi (by rfl) T.b_isinstance (by decide +kernel) (pa_cons (pv 0) (pa_cons (pe_bltn (v := .ty "int") (by rfl) T.b_int (by decide +kernel) rfl) pa_nil))) (pe_one (pe_not (pe_callB call_isi (by rfl) T.b_isinstance (by decide +kernel) (pa_cons (pv 0) (pa_cons (pe_bltn (v := .ty "bool") (by rfl) T.b_bool (by decide +kernel) rfl) pa_nil)))))))), ?_⟩
    walk_at "rd"
    refine isi_thing hx (by decide) ?_
    cases hx with
    | int i =>
      refine ⟨true, rfl, ?_⟩
      walk_at "rd"
      exact isi_thing (.int i) (by decide) ⟨false, rfl, q⟩
    | bl i =>
      refine ⟨true, rfl, ?_⟩
      walk_at "rd"
      exact isi_thing (.bl i) (by decide) ⟨true, rfl, q⟩
    | _ => exact ⟨false, rfl, q⟩
end
end Nk
namespace Nk
open PySem L2
section
variable {P : Program} {w : World} {K : PySem.W.Frag} {mg : Str → Option Value} {base : Heap}
abbrev nm__law_wholes : List Str := ["thing", "one"]
abbrev pm__law_wholes : List Str := ["thing"]
abbrev lv__law_wholes : Nat := 2
theorem sc__law_wholes : FnScope nm__law_wholes pm__law_wholes (defScope s__law_wholes) := ⟨rfl, rfl, rfl, by decide +kernel, rfl, by decide +kernel, by decide +kernel⟩
def sp__law_wholes (K : PySem.W.Frag) : Sp := fun vs H Q _ => ∃ (a : Addr) (xs : List V), vs = [.ref a] ∧ H a = some (.lst xs) ∧ xs.length ≤ 1000 ∧ (∀ x ∈ xs, ∃ i, x = .int i) ∧ ∀ H', Same H H' → Q (.bl true) H'
theorem f__law_wholes (T : Txt K mg) : Fk P w K mg base CX0 lv__law_wholes "_law_wholes" pm__law_wholes (sp__law_wholes K) := by
  obtain ⟨f, fd, F, g, b⟩ := T.d__law_wholes.ex
  refine ⟨f, fd, g, F.kp, b, F.ok sc__law_wholes (fun vs H Q E h => ?_) (fun cdv A outer s H vs Q E hr h => ?_)⟩
  · obtain ⟨a, xs, rfl, _⟩ := h; rfl
  · obtain ⟨a, xs, rfl, ha, hz, hin, q⟩ := h
    refine ⟨_, (pss_one (ps_ret (pe_and (pe_callB call_isi (by rfl) T.b_isinstance (by decide +kernel) (pa_cons (pv 0) (pa_cons (pe_bltn (v := .ty "list") (by rfl) T.b_list (by decide +kernel) rfl) pa_nil))) (pe_one (pe_cmpR (op_eqD hr.units) (pe_lc (own := [("one", 1)]) (g := gName 1) (by rfl) sc__law_wholes.nd (pi_list (pv 0)) (blkOk_by (own := [("one", 1)]) (N := nm__law_wholes) (sc := defScope s__law_wholes) (by decide +kernel)) (fun _ _ _ _ _ => (pg_name (i := 1) sc__law_wholes.nd rfl (Or.inl rfl))) (fun _ _ _ _ _ => (pts_one (pt_not (pt_val (pe_fn (f__law_whole T) (hr.mono (by decide)) (by rfl) pass0 (pa_cons (pv 1) pa_nil)))))) (fun _ _ _ _ _ => (pv 1))) (pe_lst pa_nil) (nomark _)))))), ?_⟩
    walk_at "rd"
    refine isi_thing (.lst ha) (by decide) ⟨true, rfl, ?_⟩
    walk_at "rd"
    refine ⟨_, rfl, a, rfl, ⟨xs, sqL ha⟩, fun D hD => ?_⟩
    refine lcL hD (sqL ha) (fun _ => []) rfl (fun i y H2 hy p => ?_) (fun H2 s2 hD2 => ?_)
    · obtain ⟨z, rfl⟩ := hin y (mem_of_get hy)
      walk_at "rd"
      refine ⟨.int z, _, rfl, .int z, ?_⟩
      show ∃ c, _
      exact ⟨true, rfl, p.skip (Same.refl _) rfl⟩
    · walk_at "rd"
      intro p hp
      have s3 := same_upd (o := .lst []) hp
      exact eqD (d := dLI []) (e := dLI []) (dp_LI (sqL (s3 _ _ hD2))) (dp_LI (sqL upd_same)) (gd_dLI (k := 0) _) (gd_dLI (k := 0) _) (fun _ => q _ (s2.trans s3)) (fun h => absurd rfl h)
end
end Nk
namespace Nk
open PySem L2
section
variable {P : Program} {w : World} {K : PySem.W.Frag} {mg : Str → Option Value} {base : Heap}
abbrev nm__law_spot : List Str := ["rounds", "night", "whole", "at", "number", "long"]
abbrev pm__law_spot : List Str := ["rounds", "night"]
abbrev lv__law_spot : Nat := 1
theorem sc__law_spot : FnScope nm__law_spot pm__law_spot (defScope s__law_spot) := ⟨rfl, rfl, rfl, by decide +kernel, rfl, by decide +kernel, by decide +kernel⟩
def sp__law_spot : Sp := fun vs H Q _ => ∃ (a : Addr) (rs : List Int) (n : Int), vs = [.ref a, .int n] ∧ RndsAt H a rs ∧
  ∀ p H', Same H H' → H p = none → H' p = some (.tup [.int (numOf rs n), .int (firstOf rs (numOf rs n))]) → Q (.ref p) H'
def iv__law_spot (a : Addr) (rs : List Int) (n : Int) (H : Hp) (i : Nat) (σ : L2.St) (H' : Hp) : Prop := H' = H ∧ n / rs.sum * rs.sum + pre rs i ≤ n ∧ ∃ (v : Option V),
  σ = [some (.ref a), some (.int n), some (.int rs.sum), some (.int (n / rs.sum * rs.sum + pre rs i)), some (.int (n / rs.sum * rs.length + i)), v]
theorem f__law_spot (T : Txt K mg) : Fk P w K mg base CX0 lv__law_spot "_law_spot" pm__law_spot sp__law_spot := by
  obtain ⟨f, fd, F, g, b⟩ := T.d__law_spot.ex
  refine ⟨f, fd, g, F.kp, b, F.ok sc__law_spot (fun vs H Q E h => ?_) (fun cdv A outer s H vs Q E hr h => ?_)⟩
  · obtain ⟨a, rs, n, rfl, _⟩ := h; rfl
  · obtain ⟨a, rs, n, rfl, ha, q⟩ := h
    refine ⟨_, (pss_cons (ps_set (i := 2) sc__law_spot.nd rfl (.inl rfl) (pe_callB (cr_sumT rfl) (by rfl) T.b_sum (by decide +kernel) (pa_cons (pv 0) pa_nil)))
      (pss_cons (ps_set (i := 3) sc__law_spot.nd rfl (.inl rfl) (pe_op op_mul (pe_op op_fdiv (pv 1) (pv 2)) (pv 2)))
      (pss_cons (ps_set (i := 4) sc__law_spot.nd rfl (.inl rfl) (pe_op op_mul (pe_op op_fdiv (pv 1) (pv 2)) (pe_callB call_len_seq (by rfl) T.b_len PySem.boot_len (pa_cons (pv 0) pa_nil))))
      (pss_cons (ps_for PassesOwn.never rfl (pi_tup (pv 0)) (pg_name (i := 5) sc__law_spot.nd rfl (Or.inl rfl)) (pss_cons (ps_if (pt_cmpR op_lt (pv 1) (pe_op op_add (pv 3) (pv 5)) (nomark _)) (pss_one (ps_ret (pe_tup (pa_cons (pv 4) (pa_cons (pv 3) pa_nil))))) pss_nil)
      (pss_cons (ps_set (i := 3) sc__law_spot.nd rfl (.inl rfl) (pe_op op_add (pv 3) (pv 5)))
      (pss_one (ps_set (i := 4) sc__law_spot.nd rfl (.inl rfl) (pe_op op_add (pv 4) pe_int))))))
      (pss_one (ps_ret pe_non)))))), ?_⟩
    have ok := ha.ok
    have hs := ha.ok.sum
    have hs' := ha.sum_le
    have hl := ha.ln
    have hM : (rs.map V.int).length = rs.length := List.length_map _
    have hmod := Int.emod_add_mul_ediv n rs.sum
    have hm0 := Int.emod_nonneg n (show rs.sum ≠ 0 by omega)
    have hm1 := Int.emod_lt_of_pos n hs
    have hcm := Int.mul_comm rs.sum (n / rs.sum)
    walk_at "rd"
    refine ⟨a, rs, rfl, sqT ha.at_, ?_⟩
    walk_at "rd"
    refine ⟨⟨hs, by omega⟩, .inr ⟨by omega, by omega⟩, ⟨hs, by omega⟩, rs.map V.int, .inr (sqT ha.at_), ?_⟩
    rw [hM]
    refine ⟨.inr ⟨by omega, by omega⟩, ?_⟩
    refine ⟨_, rfl, a, rfl, ⟨_, sqT ha.at_⟩, for_tup (K := K) (a := a) (xs := rs.map V.int) (iv__law_spot a rs n H)
      ⟨rfl, by rw [pre_zero]; omega, none, by rw [pre_zero]; simp⟩ (fun i σ H' _ p => by rw [p.1]; exact sqT ha.at_) ?_ ?_⟩
    · rintro i x σ H' hi ⟨rfl, hle, v, rfl⟩
      rw [List.getElem?_map] at hi
      cases e : rs[i]? with
      | none => rw [e] at hi; cases hi
      | some r =>
        rw [e] at hi
        cases hi
        have hlt := lt_of_get e
        have hst := pre_step e
        walk_at "rd"
        refine ite2 (fun c => ?_) (fun c => ?_)
        · have a1 := firstOf_at ok (n / rs.sum) (Nat.le_of_lt hlt)
          have a2 := firstOf_at ok (n / rs.sum) (Nat.succ_le_of_lt hlt)
          have e2 : n / rs.sum * (rs.length : Int) + ((Nat.succ i : Nat) : Int) = n / rs.sum * (rs.length : Int) + (i : Int) + 1 := by push_cast; omega
          rw [e2] at a2
          have hN : numOf rs n = n / rs.sum * rs.length + i := by
            refine numOf_of ok (by omega) ?_
            rw [a2]
            show n < n / rs.sum * rs.sum + pre rs (i + 1)
            omega
          rw [← a1, ← hN]
          exact fun p hp => q p _ (same_upd hp) hp upd_same
        · refine ⟨rfl, by omega, some (.int r), ?_⟩
          rw [hst]
          congr 4
          · congr 2
            omega
          · congr 3
            push_cast
            omega
    · rintro σ H' ⟨rfl, hle, v, rfl⟩
      rw [hM, pre_len] at hle
      omega
end
end Nk
namespace Nk
open PySem L2
section
variable {P : Program} {w : World} {K : PySem.W.Frag} {mg : Str → Option Value} {base : Heap}
/-- things, down to a depth -/
def DT (K : PySem.W.Frag) (H : Hp) : Nat → V → Prop
  | 0, x => ∃ n, Thing K H x n
  | k + 1, x => (∃ n, Thing K H x n) ∧ ∀ a xs, x = .ref a → (H a = some (.tup xs) ∨ H a = some (.lst xs)) → xs.length ≤ 100000 ∧ ∀ y ∈ xs, DT K H k y
theorem DT.th {H : Hp} {k : Nat} {x : V} (h : DT K H k x) : ∃ n, Thing K H x n := by
  cases k with
  | zero => exact h
  | succ k => exact h.1
theorem DT.same {H H' : Hp} (s : Same H H') : ∀ {k : Nat} {x : V}, DT K H k x → DT K H' k x
  | 0, _, ⟨n, h⟩ => ⟨n, Thing.same s h⟩
  | k + 1, x, ⟨⟨n, h⟩, hi⟩ => by
    refine ⟨⟨n, Thing.same s h⟩, fun a xs e ha => ?_⟩
    have back : H a = some (.tup xs) ∨ H a = some (.lst xs) := by
      subst e
      cases h with
      | lst h => have := s _ _ h; rw [this] at ha; rcases ha with z | z <;> cases z; exact .inr h
      | tup h => have := s _ _ h; rw [this] at ha; rcases ha with z | z <;> cases z; exact .inl h
      | dic h => have := s _ _ h; rw [this] at ha; rcases ha with z | z <;> cases z
    obtain ⟨h1, h2⟩ := hi a xs e back
    exact ⟨h1, fun y hy => DT.same s (h2 y hy)⟩
theorem DT.t2 {H : Hp} {k : Nat} {x : V} (h : DT K H (k + 1) x) : Thing2 K H x :=
  ⟨h.1, fun a xs e ha => by
    obtain ⟨h1, h2⟩ := h.2 a xs e (.inl ha)
    exact ⟨h1, fun y hy => (h2 y hy).th⟩⟩
def isRuleV (H : Hp) (x : V) : Bool := match x with
  | .ref a => match H a with
    | some (.tup [r, m]) => isRoundsV H r && isNumV m 1 (.int 20)
    | _ => false
  | _ => false
def isRulesV (H : Hp) (x : V) : Bool := match x with
  | .ref a => match H a with
    | some (.tup xs) => decide (1 ≤ xs.length) && decide (xs.length ≤ 5) && xs.all (isRuleV H)
    | _ => false
  | _ => false
theorem isRoundsV_same {H H' : Hp} (s : Same H H') {x : V} {n : String} (h : Thing K H x n) : isRoundsV H' x = isRoundsV H x := by
  cases h with
  | lst h => simp only [isRoundsV, h, s _ _ h]
  | tup h => simp only [isRoundsV, h, s _ _ h]
  | dic h => simp only [isRoundsV, h, s _ _ h]
  | _ => rfl
theorem isRuleV_same {H H' : Hp} (s : Same H H') {x : V} (h : DT K H 1 x) : isRuleV H' x = isRuleV H x := by
  obtain ⟨⟨n, h⟩, hi⟩ := h
  cases h with
  | lst h => simp only [isRuleV, h, s _ _ h]
  | @tup a xs h =>
    obtain ⟨_, h2⟩ := hi a xs rfl (.inl h)
    simp only [isRuleV, h, s _ _ h]
    match xs, h2 with
    | [r, m], h2 =>
      obtain ⟨n', hr⟩ := (h2 r List.mem_cons_self).th
      simp only [isRoundsV_same s hr]
    | [], _ => rfl
    | [_], _ => rfl
    | _ :: _ :: _ :: _, _ => rfl
  | dic h => simp only [isRuleV, h, s _ _ h]
  | _ => rfl
/-- a rule that stands -/
def RuleAt (H : Hp) (x : V) (ru : List Int × Int) : Prop := ∃ (b r : Addr), x = .ref b ∧ H b = some (.tup [.ref r, .int ru.2]) ∧ RndsAt H r ru.1 ∧ 1 ≤ ru.2 ∧ ru.2 ≤ 20
theorem RuleAt.same {H H' : Hp} {x : V} {ru : List Int × Int} (h : RuleAt H x ru) (s : Same H H') : RuleAt H' x ru := by
  obtain ⟨b, r, e, hb, hr, h1, h2⟩ := h
  exact ⟨b, r, e, s _ _ hb, hr.same s, h1, h2⟩
theorem RuleAt.but {H H' : Hp} {t : Addr} {l : List V} {x : V} {ru : List Int × Int} (h : RuleAt H x ru) (s : But t H H') (ht : H t = some (.lst l)) : RuleAt H' x ru := by
  obtain ⟨b, r, e, hb, hr, h1, h2⟩ := h
  exact ⟨b, r, e, s _ _ hb (ne_of hb ht (by intro z; cases z)), hr.but s ht, h1, h2⟩
/-- rules that stand -/
structure RulesAt (H : Hp) (a : Addr) (rus : List (List Int × Int)) : Prop where
  ex : ∃ xs : List V, H a = some (.tup xs) ∧ xs.length = rus.length ∧ ∀ (i : Nat) x, xs[i]? = some x → ∃ ru, rus[i]? = some ru ∧ RuleAt H x ru
  l1 : 1 ≤ rus.length
  l5 : rus.length ≤ 5
theorem RulesAt.same {H H' : Hp} {a : Addr} {rus : List (List Int × Int)} (h : RulesAt H a rus) (s : Same H H') : RulesAt H' a rus := by
  obtain ⟨xs, ha, hl, hi⟩ := h.ex
  refine ⟨⟨xs, s _ _ ha, hl, fun i x hx => ?_⟩, h.l1, h.l5⟩
  obtain ⟨ru, e, r⟩ := hi i x hx
  exact ⟨ru, e, r.same s⟩
theorem RulesAt.but {H H' : Hp} {a t : Addr} {l : List V} {rus : List (List Int × Int)} (h : RulesAt H a rus) (s : But t H H') (ht : H t = some (.lst l)) : RulesAt H' a rus := by
  obtain ⟨xs, ha, hl, hi⟩ := h.ex
  refine ⟨⟨xs, s _ _ ha (ne_of ha ht (by intro z; cases z)), hl, fun i x hx => ?_⟩, h.l1, h.l5⟩
  obtain ⟨ru, e, r⟩ := hi i x hx
  exact ⟨ru, e, r.but s ht⟩
theorem RulesAt.rnds {H : Hp} {a : Addr} {rus : List (List Int × Int)} (h : RulesAt H a rus) : ∀ ru ∈ rus, Rnds ru.1 ∧ 1 ≤ ru.2 ∧ ru.2 ≤ 20 ∧ ru.1.length ≤ 12 ∧ ∀ r ∈ ru.1, r ≤ 31 := by
  intro ru hru
  obtain ⟨xs, ha, hl, hi⟩ := h.ex
  obtain ⟨i, hi1, e⟩ := List.mem_iff_getElem.mp hru
  have hx : xs[i]? = some (xs[i]'(by omega)) := List.getElem?_eq_getElem (by omega)
  obtain ⟨ru', e', b, r, _, _, R, h1, h2⟩ := hi i _ hx
  rw [List.getElem?_eq_getElem hi1, e] at e'
  cases e'
  exact ⟨R.ok, h1, h2, R.ln, R.le⟩
theorem RuleAt.thing {H : Hp} {x : V} {ru : List Int × Int} (h : RuleAt H x ru) : DT K H 2 x := by
  obtain ⟨b, r, rfl, hb, hr, h1, h2⟩ := h
  refine ⟨⟨_, .tup hb⟩, fun a xs e ha => ?_⟩
  cases e
  rw [hb] at ha
  rcases ha with z | z <;> cases z
  refine ⟨by simp, fun y hy => ?_⟩
  simp only [List.mem_cons, List.not_mem_nil, or_false] at hy
  rcases hy with rfl | rfl
  · refine ⟨⟨_, .tup hr.at_⟩, fun a xs e ha => ?_⟩
    cases e
    rw [hr.at_] at ha
    rcases ha with z | z <;> cases z
    refine ⟨by have := hr.ln; simp; omega, fun y hy => ?_⟩
    obtain ⟨i, _, rfl⟩ := List.mem_map.mp hy
    exact ⟨_, .int i⟩
  · exact ⟨⟨_, .int _⟩, fun a xs e ha => by cases e⟩
theorem RuleAt.is {H : Hp} {x : V} {ru : List Int × Int} (h : RuleAt H x ru) : isRuleV H x = true := by
  obtain ⟨b, r, rfl, hb, hr, h1, h2⟩ := h
  simp only [isRuleV, hb, hr.is, isNumV, h1, h2, decide_true, Bool.and_true]
theorem RulesAt.thing {H : Hp} {a : Addr} {rus : List (List Int × Int)} (h : RulesAt H a rus) : DT K H 3 (.ref a) := by
  obtain ⟨xs, ha, hl, hi⟩ := h.ex
  refine ⟨⟨_, .tup ha⟩, fun b ys e hb => ?_⟩
  cases e
  rw [ha] at hb
  rcases hb with z | z <;> cases z
  refine ⟨by have := h.l5; omega, fun y hy => ?_⟩
  obtain ⟨i, h1, e⟩ := List.mem_iff_getElem.mp hy
  obtain ⟨ru, _, r⟩ := hi i y (by rw [List.getElem?_eq_getElem h1, e])
  exact r.thing
theorem RulesAt.is {H : Hp} {a : Addr} {rus : List (List Int × Int)} (h : RulesAt H a rus) : isRulesV H (.ref a) = true := by
  obtain ⟨xs, ha, hl, hi⟩ := h.ex
  have h1 := h.l1
  have h5 := h.l5
  have h3 : xs.all (isRuleV H) = true := by
    rw [List.all_eq_true]
    intro y hy
    obtain ⟨i, h1, e⟩ := List.mem_iff_getElem.mp hy
    obtain ⟨ru, _, r⟩ := hi i y (by rw [List.getElem?_eq_getElem h1, e])
    exact r.is
  simp only [isRulesV, ha, h3, Bool.and_true, Bool.and_eq_true, decide_eq_true_eq]
  omega
abbrev nm_is_rule : List Str := ["thing"]
abbrev pm_is_rule : List Str := ["thing"]
abbrev lv_is_rule : Nat := 3
theorem sc_is_rule : FnScope nm_is_rule pm_is_rule (defScope s_is_rule) := ⟨rfl, rfl, rfl, by decide +kernel, rfl, by decide +kernel, by decide +kernel⟩
def sp_is_rule (K : PySem.W.Frag) : Sp := fun vs H Q _ => ∃ (x : V), vs = [x] ∧ DT K H 2 x ∧ ∀ H', Same H H' → Q (.bl (isRuleV H x)) H'
theorem f_is_rule (T : Txt K mg) : Fk P w K mg base CX0 lv_is_rule "is_rule" pm_is_rule (sp_is_rule K) := by
  obtain ⟨f, fd, F, g, b⟩ := T.d_is_rule.ex
  refine ⟨f, fd, g, F.kp, b, F.ok sc_is_rule (fun vs H Q E h => ?_) (fun cdv A outer s H vs Q E hr h => ?_)⟩
  · obtain ⟨x, rfl, _⟩ := h; rfl
  · obtain ⟨x, rfl, ⟨⟨n, hx⟩, hin⟩, q⟩ := h
    refine ⟨_, (pss_one (ps_ret (pe_and (pe_callB call_isi (by rfl) T.b_isinstance (by decide +kernel) (pa_cons (pv 0) (pa_cons (pe_bltn (v := .ty "tuple") (by rfl) T.b_tuple (by decide +kernel) rfl) pa_nil))) (pe_and (pe_cmpR op_eq (pe_callB call_len_seq (by rfl) T.b_len PySem.boot_len (pa_cons (pv 0) pa_nil)) pe_int (nomark _)) (pe_and (pe_fn (f_is_rounds T) (hr.mono (by decide)) (by rfl) pass0 (pa_cons (pe_ix ix_tup (pv 0) pe_int (fun _ _ => rfl)) pa_nil)) (pe_one (pe_fn (f_is_number T) (hr.mono (by decide)) (by rfl) pass0 (pa_cons (pe_ix ix_tup (pv 0) pe_int (fun _ _ => rfl)) (pa_cons pe_int (pa_cons pe_int pa_nil)))))))))), ?_⟩
    walk_at "rs"
    refine isi_thing hx (by decide) ?_
    cases hx with
    | @tup a xs ha =>
      obtain ⟨hz, hth⟩ := hin a xs rfl (.inl ha)
      refine ⟨true, rfl, ?_⟩
      walk_at "rs"
      refine ⟨xs, .inr (sqT ha), ?_⟩
      have qf := q H (Same.refl H)
      by_cases c : xs.length = 2
      · match xs, c with
        | [r, m], _ =>
          obtain ⟨mt, hm⟩ := (hth m (by simp)).th
          walk_at "rs"
          rw [if_pos (by decide)]
          refine ixT (j := 0) (sqT ha) rfl rfl ?_
          refine ⟨r, rfl, (hth r (by simp)).t2, fun H1 s1 => ?_⟩
          refine ⟨_, rfl, ?_⟩
          have q1 := q H1 s1
          simp only [isRuleV, ha] at q1
          cases e : isRoundsV H r with
          | false => rw [e] at q1; simpa using q1
          | true =>
            rw [e] at q1
            walk_at "rs"
            refine ixT (j := 1) (sqT (s1 _ _ ha)) rfl rfl ?_
            exact ⟨m, mt, 1, .int 20, rfl, Thing.same s1 hm, fun _ _ => ⟨_, rfl⟩, by simpa using q1⟩
      · rw [if_neg (by omega)]
        have e : isRuleV H (.ref a) = false := by
          simp only [isRuleV, ha]
          match xs, c with
          | [], _ => rfl
          | [_], _ => rfl
          | [_, _], c => exact absurd rfl c
          | _ :: _ :: _ :: _, _ => rfl
        rw [e] at qf
        exact qf
    | _ => exact ⟨false, by rfl, by simpa [isRuleV, *] using q H (Same.refl H)⟩
abbrev nm_look_rules : List Str := ["rules", "one"]
abbrev pm_look_rules : List Str := ["rules"]
abbrev lv_look_rules : Nat := 4
theorem sc_look_rules : FnScope nm_look_rules pm_look_rules (defScope s_look_rules) := ⟨rfl, rfl, rfl, by decide +kernel, rfl, by decide +kernel, by decide +kernel⟩
def sp_look_rules (K : PySem.W.Frag) (mg : Str → Option Value) : Sp := fun vs H Q E => ∃ (x : V), vs = [x] ∧ DT K H 3 x ∧ (isRulesV H x = true → ∀ H', Same H H' → Q .non H') ∧ (isRulesV H x = false → ∀ H', Same H H' → E (.ref (cls mg "BadRules")) none H')
theorem f_look_rules (T : Txt K mg) : Fk P w K mg base (L2.CX P w) lv_look_rules "look_rules" pm_look_rules (sp_look_rules K mg) := by
  obtain ⟨f, fd, F, g, b⟩ := T.d_look_rules.ex
  refine ⟨f, fd, g, F.kp, b, F.okX sc_look_rules (fun vs H Q E h => ?_) (fun cdv A outer s H vs Q E hr h => ?_)⟩
  · obtain ⟨x, rfl, _⟩ := h; rfl
  · obtain ⟨x, rfl, ⟨⟨n, hx⟩, hin⟩, q1, q2⟩ := h
    refine ⟨_, (pss_one (ps_if (PW.pt (pw_or (pt_not (pt_val (pe_callB call_isi (by rfl) T.b_isinstance (by decide +kernel) (pa_cons (pv 0) (pa_cons (pe_bltn (v := .ty "tuple") (by rfl) T.b_tuple (by decide +kernel) rfl) pa_nil))))) (pw_or (pt_not (pt_chain op_le op_le pe_int (pe_callB call_len_seq (by rfl) T.b_len PySem.boot_len (pa_cons (pv 0) pa_nil)) pe_int)) (pw_or1 (pt_not (pt_val (pe_callB (cr_all rfl) (by rfl) T.b_all (by decide +kernel) (pa_cons (pe_lc (own := [("one", 1)]) (g := gName 1) (tt := tYes) (by rfl) sc_look_rules.nd (pi_tup (pv 0)) (blkOk_by (own := [("one", 1)]) (N := nm_look_rules) (sc := defScope s_look_rules) (by decide +kernel)) (fun _ _ _ _ _ => (pg_name (i := 1) sc_look_rules.nd rfl (Or.inl rfl))) (fun _ _ _ _ _ => pts_nil) (fun _ _ _ _ _ => (pe_fn (f_is_rule T) (hr.mono (by decide)) (by rfl) pass0 (pa_cons (pv 1) pa_nil)))) pa_nil)))))))) (pss_one (ps_raise rfl (takes_of rfl rfl rfl rfl) (pmk_own PySem.F.excBase_RuntimeError T.x_BadRules.xP T.x_BadRules.gP T.x_BadRules.kP T.x_BadRules.rs rfl))) pss_nil)), ?_⟩
    walk_at "rs"
    refine isi_thing hx (by decide) ?_
    cases hx with
    | @tup a xs ha =>
      obtain ⟨hz, hth⟩ := hin a xs rfl (.inl ha)
      refine ⟨true, rfl, ?_⟩
      walk_at "rs"
      refine ⟨xs, .inr (sqT ha), ?_⟩
      have e0 : isRulesV H (.ref a) = (decide (1 ≤ xs.length) && decide (xs.length ≤ 5) && xs.all (isRuleV H)) := by
        simp only [isRulesV, ha]
      rw [e0] at q1 q2
      by_cases c1 : 1 ≤ xs.length
      · rw [if_pos (show (1 : Int) ≤ (xs.length : Int) by omega)]
        by_cases c2 : xs.length ≤ 5
        · rw [if_neg (show ¬ ¬ (xs.length : Int) ≤ 5 by omega)]
          refine ⟨_, rfl, a, rfl, ⟨xs, sqT ha⟩, fun D hD => ?_⟩
          refine lcT hD (sqT ha) (fun i => (xs.take i).map fun y => .bl (isRuleV H y)) rfl (fun i y H2 hy p => ?_) (fun H2 s2 hD2 => ?_)
          · have hy1 := hth y (mem_of_get hy)
            have hy2 := hy1.same p.same
            walk_at "rs"
            refine ⟨y, rfl, hy2, fun H3 s3 => ?_⟩
            rw [isRuleV_same (K := K) p.same ⟨hy1.1, fun a' xs' e' h' => by obtain ⟨w1, w2⟩ := hy1.2 a' xs' e' h'; exact ⟨w1, fun z hz => (w2 z hz).th⟩⟩]
            exact p.push hD (by simp; omega) s3 (map_take_next _ hy)
          · refine ⟨D, xs.map (isRuleV H), rfl, ?_, ?_⟩
            · rw [List.take_length] at hD2
              rw [List.map_map]
              exact sqL hD2
            · walk_at "rs"
              simp only [List.all_map, Function.comp_def, id_eq]
              cases e : xs.all (fun y => isRuleV H y) with
              | true => exact q1 (by simp [c1, c2, e]) H2 s2
              | false => exact q2 (by simp [c1, c2, e]) H2 s2
        · rw [if_pos (show ¬ (xs.length : Int) ≤ 5 by omega)]
          exact q2 (by simp [c2]) H (Same.refl H)
      · rw [if_neg (show ¬ (1 : Int) ≤ (xs.length : Int) by omega)]
        exact q2 (by simp [c1]) H (Same.refl H)
    | _ => exact ⟨false, by rfl, by simpa using q2 (by simp [isRulesV, *]) H (Same.refl H)⟩
end
end Nk
namespace Nk
open PySem L2
section
variable {P : Program} {w : World} {K : PySem.W.Frag} {mg : Str → Option Value} {base : Heap}
def riseV : List V → Bool
  | x :: y :: r => (match x, y with | .int i, .int j => decide (i < j) | _, _ => false) && riseV (y :: r)
  | _ => true
def isNightsV (H : Hp) (x : V) : Bool := match x with
  | .ref a => match H a with
    | some (.lst xs) => decide (xs.length ≤ 100) && xs.all (fun y => isNumV y 0 (.int 1000000000)) && riseV xs
    | _ => false
  | _ => false
theorem cut_from (xs : List V) (j : Nat) : cutV xs (some (j : Int)) none = xs.drop j := by
  unfold cutV
  rw [HT.sIx_none, HT.sIx_nat]
  by_cases h : j ≤ xs.length
  · rw [Nat.min_eq_left h, List.take_of_length_le (by simp)]
  · rw [Nat.min_eq_right (by omega), List.drop_of_length_le (Nat.le_refl _), List.drop_of_length_le (by omega)]
    simp
theorem allNum {xs : List V} (h : xs.all (fun y => isNumV y 0 (.int 1000000000)) = true) : ∃ ns : List Int, xs = ns.map V.int ∧ ∀ n ∈ ns, 0 ≤ n ∧ n ≤ 1000000000 := by
  induction xs with
  | nil => exact ⟨[], rfl, by simp⟩
  | cons x xs ih =>
    simp only [List.all_cons, Bool.and_eq_true] at h
    obtain ⟨ns, e, hn⟩ := ih h.2
    cases x with
    | int i =>
      refine ⟨i :: ns, by rw [e]; rfl, fun n hn' => ?_⟩
      rcases List.mem_cons.mp hn' with rfl | hn'
      · simpa [isNumV] using h.1
      · exact hn n hn'
    | _ => simp [isNumV] at h
theorem riseV_ints : ∀ ns : List Int, riseV (ns.map V.int) = true ↔ ns.Pairwise (· < ·)
  | [] => by simp [riseV]
  | [n] => by simp [riseV]
  | n :: m :: r => by
    have ih := riseV_ints (m :: r)
    simp only [List.map_cons] at ih ⊢
    simp only [riseV, Bool.and_eq_true, decide_eq_true_eq, ih]
    constructor
    · rintro ⟨h1, h2⟩
      refine List.pairwise_cons.mpr ⟨fun x hx => ?_, h2⟩
      rcases List.mem_cons.mp hx with rfl | hx
      · exact h1
      · have := (List.pairwise_cons.mp h2).1 x hx
        omega
    · intro h
      obtain ⟨h1, h2⟩ := List.pairwise_cons.mp h
      exact ⟨h1 m List.mem_cons_self, h2⟩
theorem rise_steps {ns : List Int} (h : ∀ (i : Nat) a b, ns[i]? = some a → ns[i + 1]? = some b → a < b) : ns.Pairwise (· < ·) := by
  induction ns with
  | nil => exact .nil
  | cons n ns ih =>
    have ih' := ih fun i a b h1 h2 => h (i + 1) a b (by simpa using h1) (by simpa using h2)
    cases ns with
    | nil => exact List.pairwise_singleton _ _
    | cons m r =>
      have h0 := h 0 n m rfl rfl
      refine List.pairwise_cons.mpr ⟨fun x hx => ?_, ih'⟩
      rcases List.mem_cons.mp hx with rfl | hx
      · exact h0
      · have := (List.pairwise_cons.mp ih').1 x hx
        omega
end
end Nk
namespace Nk
open PySem L2
section
variable {P : Program} {w : World} {K : PySem.W.Frag} {mg : Str → Option Value} {base : Heap}
/-- a dict whose keys are the whole numbers ks -/
structure IK (kvs : List (Key × V)) (ks : List Int) : Prop where
  keys : kvs.map (·.1) = ks.map Sum.inl
  nd : ks.Nodup
theorem IK.len {kvs : List (Key × V)} {ks : List Int} (h : IK kvs ks) : kvs.length = ks.length := by
  have := congrArg List.length h.keys
  simpa using this
theorem putK_old {kvs : List (Key × V)} {k : Key} {v : V} (h : (valV kvs k).isSome = true) : (putK kvs k v).map (·.1) = kvs.map (·.1) := by
  have ha : (kvs.any fun kv => decide (kv.1 = k)) = true := by rw [valV_any]; exact h
  unfold putK
  rw [if_pos ha, List.map_map]
  congr 1
  funext p
  simp only [Function.comp]
  split <;> rfl
theorem ik_put {kvs : List (Key × V)} {ks : List Int} (h : IK kvs ks) (n : Int) (v : V) : ∃ ks', IK (putK kvs (.inl n) v) ks' ∧ (∀ m, m ∈ ks' ↔ m ∈ ks ∨ m = n) ∧ ks'.length ≤ ks.length + 1 := by
  have memK : ∀ m : Int, (Sum.inl m : Key) ∈ kvs.map (·.1) ↔ m ∈ ks := fun m => by
    rw [h.keys, List.mem_map]
    constructor
    · rintro ⟨a, ha, e⟩
      cases e
      exact ha
    · intro hm
      exact ⟨m, hm, rfl⟩
  cases e : valV kvs (Sum.inl n : Key) with
  | some x =>
    refine ⟨ks, ⟨by rw [putK_old (by rw [e]; rfl)]; exact h.keys, h.nd⟩, fun m => ⟨.inl, fun hm => ?_⟩, by omega⟩
    rcases hm with hm | rfl
    · exact hm
    · exact (memK _).mp (valV_in e)
  | none =>
    have hn : n ∉ ks := fun z => valV_not e ((memK n).mpr z)
    refine ⟨ks ++ [n], ⟨?_, nd_snoc h.nd hn⟩, fun m => by simp, by simp⟩
    rw [putK_new _ e, List.map_append, List.map_append, h.keys]
    rfl
theorem keptBy_len {ru : List Int × Int} {ns : List Int} (h : ru.2 ≤ 20) : (keptBy ru ns).length ≤ 20 := by
  unfold keptBy
  rw [List.length_take]
  omega
theorem lst_thing {H : Hp} {l : Addr} {ns : List Int} (hl : H l = some (.lst (ns.map V.int))) (hz : ns.length ≤ 100000) : DT K H 1 (.ref l) := by
  refine ⟨⟨_, .lst hl⟩, fun a xs e ha => ?_⟩
  cases e
  rw [hl] at ha
  rcases ha with z | z <;> cases z
  refine ⟨by simpa using hz, fun y hy => ?_⟩
  obtain ⟨i, _, rfl⟩ := List.mem_map.mp hy
  exact ⟨_, .int i⟩
theorem nights_is {H : Hp} {l : Addr} {ns : List Int} (hl : H l = some (.lst (ns.map V.int))) (hz : ns.length ≤ 100) (hr : ns.Pairwise (· < ·)) (hb : ∀ n ∈ ns, 0 ≤ n ∧ n ≤ 1000000000) : isNightsV H (.ref l) = true := by
  have h1 : riseV (ns.map V.int) = true := (riseV_ints ns).mpr hr
  have h2 : (ns.map V.int).all (fun y => isNumV y 0 (.int 1000000000)) = true := by
    rw [List.all_eq_true]
    intro y hy
    obtain ⟨i, hi, rfl⟩ := List.mem_map.mp hy
    have := hb i hi
    simp [isNumV, this]
  simp only [isNightsV, hl, h1, h2, List.length_map, hz, decide_true, Bool.and_true]
end
end Nk
namespace Nk
open PySem L2
section
variable {P : Program} {w : World} {K : PySem.W.Frag} {mg : Str → Option Value} {base : Heap}
/-- values and the rules that stand there -/
def RuleVs (H : Hp) (xs : List V) (rus : List (List Int × Int)) : Prop := xs.length = rus.length ∧ ∀ (i : Nat) x, xs[i]? = some x → ∃ ru, rus[i]? = some ru ∧ RuleAt H x ru
theorem RuleVs.same {H H' : Hp} {xs : List V} {rus : List (List Int × Int)} (h : RuleVs H xs rus) (s : Same H H') : RuleVs H' xs rus :=
  ⟨h.1, fun i x hx => by obtain ⟨ru, e, r⟩ := h.2 i x hx; exact ⟨ru, e, r.same s⟩⟩
theorem RuleVs.but {H H' : Hp} {t : Addr} {l : List V} {xs : List V} {rus : List (List Int × Int)} (h : RuleVs H xs rus) (s : But t H H') (ht : H t = some (.lst l)) : RuleVs H' xs rus :=
  ⟨h.1, fun i x hx => by obtain ⟨ru, e, r⟩ := h.2 i x hx; exact ⟨ru, e, r.but s ht⟩⟩
theorem RuleVs.snoc {H : Hp} {xs : List V} {rus : List (List Int × Int)} {x : V} {ru : List Int × Int} (h : RuleVs H xs rus) (r : RuleAt H x ru) : RuleVs H (xs ++ [x]) (rus ++ [ru]) := by
  refine ⟨by simp [h.1], fun i y hy => ?_⟩
  by_cases c : i < xs.length
  · rw [List.getElem?_append_left c] at hy
    obtain ⟨ru', e, r'⟩ := h.2 i y hy
    exact ⟨ru', by rw [List.getElem?_append_left (by rw [← h.1]; exact c)]; exact e, r'⟩
  · have hi : i = xs.length := by
      have := lt_of_get hy
      simp at this
      omega
    subst hi
    have e1 : (xs ++ [x])[xs.length]? = some x := by simp
    rw [e1] at hy
    cases hy
    refine ⟨ru, ?_, r⟩
    rw [h.1]
    simp
theorem RuleVs.set {H : Hp} {xs : List V} {rus : List (List Int × Int)} {x : V} {ru : List Int × Int} (h : RuleVs H xs rus) (r : RuleAt H x ru) (j : Nat) : RuleVs H (xs.set j x) (rus.set j ru) := by
  refine ⟨by simp [h.1], fun i y hy => ?_⟩
  have hl := lt_of_get hy
  rw [List.length_set] at hl
  by_cases c : i = j
  · subst c
    rw [List.getElem?_set_self hl] at hy
    cases hy
    exact ⟨ru, List.getElem?_set_self (by rw [← h.1]; exact hl), r⟩
  · rw [List.getElem?_set_ne (fun z => c z.symm)] at hy
    obtain ⟨ru', e, r'⟩ := h.2 i y hy
    exact ⟨ru', by rw [List.getElem?_set_ne (fun z => c z.symm)]; exact e, r'⟩
theorem RuleVs.at_ {H : Hp} {a : Addr} {xs : List V} {rus : List (List Int × Int)} (h : RuleVs H xs rus) (ha : H a = some (.tup xs)) (h1 : 1 ≤ rus.length) (h5 : rus.length ≤ 5) : RulesAt H a rus := ⟨⟨xs, ha, h.1, h.2⟩, h1, h5⟩
/-- how great a rule is -/
def RuleLe (long top mm : Int) (ru : List Int × Int) : Prop := (ru.1.length : Int) ≤ long ∧ (∀ r ∈ ru.1, r ≤ top) ∧ ru.2 ≤ mm
abbrev nm__law_rules : List Str := ["script", "town", "many", "long", "top", "most_many", "count", "found", "k"]
abbrev pm__law_rules : List Str := ["script", "town", "many", "long", "top", "most_many"]
abbrev lv__law_rules : Nat := 3
theorem sc__law_rules : FnScope nm__law_rules pm__law_rules (defScope s__law_rules) := ⟨rfl, rfl, rfl, by decide +kernel, rfl, by decide +kernel, by decide +kernel⟩
def sp__law_rules (K : PySem.W.Frag) : Sp := fun vs H Q _ => ∃ (a t : Addr) (ns : List Int) (c : Nat) (many long top mm : Int), vs = [.ref a, .ref t, .int many, .int long, .int top, .int mm] ∧ Tn K H a t ns c ∧ c < 900000000 ∧ 0 < many ∧ many ≤ 1000 ∧ 0 < long ∧ long ≤ 12 ∧ 0 < top ∧ top ≤ 31 ∧ 0 < mm ∧ mm ≤ 20 ∧
  ∀ (rus : List (List Int × Int)) (xs : List V) (p : Addr) (c' : Nat) (H' : Hp), 1 ≤ rus.length → (rus.length : Int) ≤ many → (∀ ru ∈ rus, RuleLe long top mm ru) → H p = none → H' p = some (.tup xs) → RuleVs H' xs rus → c' ≤ c + 2 + 14 * many.toNat → Tn K H' a t ns c' → But t H H' → Q (.ref p) H'
def iv__law_rules (K : PySem.W.Frag) (a t p : Addr) (ns : List Int) (c : Nat) (many long top mm count : Int) (H : Hp) (i : Nat) (σ : L2.St) (H' : Hp) : Prop :=
  ∃ (y8 : Option V) (xs : List V) (rus : List (List Int × Int)) (c' : Nat), σ = [some (.ref a), some (.ref t), some (.int many), some (.int long), some (.int top), some (.int mm), some (.int count), some (.ref p), y8] ∧
    H' p = some (.lst xs) ∧ xs.length = i ∧ RuleVs H' xs rus ∧ (∀ ru ∈ rus, RuleLe long top mm ru) ∧ Tn K H' a t ns c' ∧ c' ≤ c + 1 + 14 * i ∧ But t H H'
theorem f__law_rules (T : Txt K mg) : Fk P w K mg base CX0 lv__law_rules "_law_rules" pm__law_rules (sp__law_rules K) := by
  obtain ⟨f, fd, F, g, b⟩ := T.d__law_rules.ex
  refine ⟨f, fd, g, F.kp, b, F.ok sc__law_rules (fun vs H Q E h => ?_) (fun cdv A outer s H vs Q E hr h => ?_)⟩
  · obtain ⟨a, t, ns, c, many, long, top, mm, rfl, _⟩ := h; rfl
  · obtain ⟨a, t, ns, c, many, long, top, mm, rfl, hT, hc, m0, m1, l0, l1, t0, t1, mm0, mm1, q⟩ := h
    refine ⟨_, (pss_cons (ps_set (i := 6) sc__law_rules.nd rfl (.inl rfl) (pe_op op_add pe_int (pe_fn (f__law_draw T) (hr.mono (by decide)) (by rfl) pass0 (pa_cons (pv 0) (pa_cons (pv 1) (pa_cons (pv 2) pa_nil))))))
      (pss_cons (ps_set (i := 7) sc__law_rules.nd rfl (.inl rfl) (pe_lst pa_nil))
      (pss_cons (ps_for PassesOwn.never rfl (pi_range1 (by rfl) T.b_range (pa_cons (pv 6) pa_nil)) (pg_name (i := 8) sc__law_rules.nd rfl (Or.inl rfl)) (pss_one (ps_expr (pe_bm PySem.F.plainAttrs_list PySem.F.slot_list_append PySem.F.type_list_append mt_append (pv 7) (pa_cons (pe_tup (pa_cons (pe_fn (f__law_rounds T) (hr.mono (by decide)) (by rfl) pass0 (pa_cons (pv 0) (pa_cons (pv 1) (pa_cons (pv 3) (pa_cons (pv 4) pa_nil))))) (pa_cons (pe_op op_add pe_int (pe_fn (f__law_draw T) (hr.mono (by decide)) (by rfl) pass0 (pa_cons (pv 0) (pa_cons (pv 1) (pa_cons (pv 5) pa_nil))))) pa_nil))) pa_nil)))))
      (pss_cons (ps_if (PW.pt (pw_and (pt_cmpR op_gt (pv 6) pe_int (nomark _)) (pw_and1 (pt_cmpR op_eq (pe_fn (f__law_draw T) (hr.mono (by decide)) (by rfl) pass0 (pa_cons (pv 0) (pa_cons (pv 1) (pa_cons pe_int pa_nil)))) pe_int (nomark _))))) (pss_one (ps_asg (pe_ix ix_list (pv 7) pe_int (fun _ _ => rfl)) (pg_sub (pv 7) (pe_op op_sub (pv 6) pe_int) set_list))) pss_nil)
      (pss_one (ps_ret (pe_callTy call_tuple_of (by rfl) T.b_tuple (by decide +kernel) (pa_cons (pv 7) pa_nil)))))))), ?_⟩
    with_reducible refine seq_k fun K_ hK_ => ?_
    walk_at "rs"
    refine ⟨a, t, ns, c, many, rfl, hT, by omega, m0, by omega, fun d H1 d0 d1 T1 b1 => ?_⟩
    walk_at "rs"
    subst hK_
    first | with_reducible refine seq_k fun K_ hK_ => ?_ | skip
    walk_at "rs"
    intro p hp
    have hpt : p ≠ t := T1.some_ hp
    have hpH : H p = none := by
      cases e : H p with
      | none => rfl
      | some o => rw [b1 _ _ e hpt] at hp; cases hp
    walk_at "rs"
    subst hK_
    first | with_reducible refine seq_k fun K_ hK_ => ?_ | skip
    walk_at "rs"
    refine ⟨_, rfl, 1 + d, rfl, by omega, by omega, for_range (lo := 0) (n := (1 + d).toNat) (iv__law_rules K a t p ns c many long top mm (1 + d) H)
      ⟨none, [], [], c + 1, rfl, upd_same, rfl, ⟨rfl, fun i x hx => by simp at hx⟩, fun ru hru => by simp at hru, T1.same (same_upd hp), by omega, b1.thenS (same_upd hp)⟩ ?_ ?_⟩
    · rintro i σ H5 hi ⟨y8, xs, rus, c5, rfl, hp5, hl5, hv5, hle5, T5, hc5, b5⟩
      walk_at "rs"
      refine ⟨tyL hp5, a, t, ns, c5, long, top, rfl, T5, by omega, l0, by omega, t0, by omega, fun rs r c6 H6 r1 r2 hrs hr5 hr6 hc6 T6 b6 => ?_⟩
      refine ⟨a, t, ns, c6, mm, rfl, T6, by omega, mm0, by omega, fun e H7 e0 e1 T7 b7 => ?_⟩
      walk_at "rs"
      intro x hx
      obtain ⟨l5, hl5'⟩ := T5.lst
      obtain ⟨l6, hl6'⟩ := T6.lst
      have R6 : RndsAt H6 r rs := ⟨hr6, ⟨List.length_pos_iff.mp (by omega), fun z hz => (hrs z hz).1⟩, fun z hz => by have := hrs z hz; omega, by omega⟩
      have R8 := (R6.but b7 hl6').same (same_upd (o := .tup [.ref r, .int (1 + e)]) hx)
      have hp7 := b7 _ _ (b6 _ _ hp5 hpt) hpt
      have hpx : p ≠ x := ne_of_none hp7 hx
      have s8 : Same H7 (upd H7 x (.tup [.ref r, .int (1 + e)])) := same_upd hx
      have hv8 : RuleVs (upd H7 x (.tup [.ref r, .int (1 + e)])) xs rus := ((hv5.but b6 hl5').but b7 hl6').same s8
      have hx8 : RuleAt (upd H7 x (.tup [.ref r, .int (1 + e)])) (.ref x) (rs, 1 + e) := ⟨x, r, rfl, upd_same, R8, by show 1 ≤ 1 + e; omega, by show 1 + e ≤ 20; omega⟩
      have b8 : But t H (upd H7 x (.tup [.ref r, .int (1 + e)])) := ((b5.trans b6).trans b7).thenS s8
      have T8 := T7.same s8
      have hp8 := s8 _ _ hp7
      revert hv8 hx8 b8 T8 hp8
      generalize upd H7 x (.tup [.ref r, .int (1 + e)]) = H8
      intro hv8 hx8 b8 T8 hp8
      refine appR hp8 (by omega) ?_
      have sN : But p H8 (upd H8 p (.lst (xs ++ [.ref x]))) := But.upd
      have hv9 : RuleVs (upd H8 p (.lst (xs ++ [.ref x]))) (xs ++ [.ref x]) (rus ++ [(rs, 1 + e)]) := (hv8.snoc hx8).but sN hp8
      refine ⟨_, xs ++ [.ref x], rus ++ [(rs, 1 + e)], c6 + 1, rfl, upd_same, by simp [hl5], hv9, ?_, ?_, by omega, ?_⟩
      · intro ru hru
        rcases List.mem_append.mp hru with h | h
        · exact hle5 ru h
        · rw [List.mem_singleton.mp h]
          exact ⟨r2, fun z hz => (hrs z hz).2, by show 1 + e ≤ mm; omega⟩
      · exact T8.app hT hpH hpt
      · intro z o hz hzt
        rw [upd_ne (ne_of_none hz hpH)]
        exact b8 _ _ hz hzt
    · rintro σ H5 ⟨y8, xs, rus, c5, rfl, hp5, hl5, hv5, hle5, T5, hc5, b5⟩
      have fin : ∀ (H6 : Hp) (xs : List V) (rus : List (List Int × Int)) (c6 : Nat), 1 ≤ rus.length → (rus.length : Int) ≤ many → H6 p = some (.lst xs) → RuleVs H6 xs rus → (∀ ru ∈ rus, RuleLe long top mm ru) → Tn K H6 a t ns c6 → c6 ≤ c + 2 + 14 * many.toNat → But t H H6 →
          tRet (tCB (fun xs H Q => ∃ p ys, xs = [V.ref p] ∧ ((SqL K H p ys ∧ ∀ l, H l = none → Q (V.ref l) (upd H l (.tup ys))) ∨ (SqT K H p ys ∧ Q (V.ref p) H))) (tCons (tVar 7) tNil)) { nx := fun x H' => Q V.non H', rt := Q }
            [some (.ref a), some (.ref t), some (.int many), some (.int long), some (.int top), some (.int mm), some (.int (1 + d)), some (.ref p), y8] H6 := by
        intro H6 xs rus c6 n1 n2 hp6 hv6 hle6 T6 hc6 b6
        walk_at "rs"
        refine ⟨xs, .inl ⟨sqL hp6, fun z hz => ?_⟩⟩
        refine q rus xs z c6 _ n1 n2 hle6 ?_ upd_same (hv6.same (same_upd hz)) hc6 (T6.same (same_upd hz)) (b6.thenS (same_upd hz))
        cases e : H z with
        | none => rfl
        | some o => rw [b6 _ _ e (T6.some_ hz)] at hz; cases hz
      have hrl : rus.length = (1 + d).toNat := by rw [← hv5.1, hl5]
      walk_at "rs"
      subst hK_
      first | with_reducible refine seq_k fun K_ hK_ => ?_ | skip
      walk_at "rs"
      refine ite2 (fun c1 => ?_) (fun c1 => ?_)
      · refine ⟨a, t, ns, c5, 6, rfl, T5, by omega, by decide, by decide, fun e H6 e0 e1 T6 b6 => ?_⟩
        obtain ⟨l5, hl5'⟩ := T5.lst
        have hp6 := b6 _ _ hp5 hpt
        have hv6 := hv5.but b6 hl5'
        walk_at "rs"
        refine ite2 (fun c2 => ?_) (fun c2 => ?_)
        · have hx0 : xs[0]? = some (xs[0]'(by omega)) := List.getElem?_eq_getElem (by omega)
          obtain ⟨ru0, hru0, hr0⟩ := hv6.2 0 _ hx0
          refine ixL (j := 0) (sqL hp6) rfl hx0 ?_
          refine setL (j := xs.length - 1) hp6 (by omega) (by omega) ?_
          have sN : But p H6 (upd H6 p (.lst (xs.set (xs.length - 1) (xs[0]'(by omega))))) := But.upd
          subst hK_
          refine fin _ (xs.set (xs.length - 1) (xs[0]'(by omega))) (rus.set (xs.length - 1) ru0) (c5 + 1) (by simp; omega) (by simp; omega) upd_same ((hv6.set hr0 _).but sN hp6) ?_ ?_ (by omega) ?_
          · intro ru hru
            rcases List.mem_or_eq_of_mem_set hru with h | h
            · exact hle5 ru h
            · rw [h]
              exact hle5 ru0 (mem_of_get hru0)
          · exact T6.app hT hpH hpt
          · intro z o hz hzt
            rw [upd_ne (ne_of_none hz hpH)]
            exact b6 _ _ (b5 _ _ hz hzt) hzt
        · subst hK_
          exact fin _ xs rus (c5 + 1) (by omega) (by omega) hp6 hv6 hle5 T6 (by omega) (b5.trans b6)
      · subst hK_
        exact fin _ xs rus c5 (by omega) (by omega) hp5 hv5 hle5 T5 (by omega) b5
end
end Nk
namespace Nk
open PySem L2
section
variable {P : Program} {w : World} {K : PySem.W.Frag} {mg : Str → Option Value} {base : Heap}
/-- the lists of what each rule keeps, none of them at D -/
def ByLists (H : Hp) (D : Addr) (xs : List V) (rus : List (List Int × Int)) (ns : List Int) : Prop := xs.length = rus.length ∧ ∀ (i : Nat) x, xs[i]? = some x → ∃ (ru : List Int × Int) (p : Addr), rus[i]? = some ru ∧ x = .ref p ∧ H p = some (.lst ((keptUp ru ns).map V.int)) ∧ p ≠ D
theorem ByLists.same {H H' : Hp} {D : Addr} {xs : List V} {rus : List (List Int × Int)} {ns : List Int} (h : ByLists H D xs rus ns) (s : Same H H') : ByLists H' D xs rus ns :=
  ⟨h.1, fun i x hx => by obtain ⟨ru, p, e, e2, r, n⟩ := h.2 i x hx; exact ⟨ru, p, e, e2, s _ _ r, n⟩⟩
theorem ByLists.push {H : Hp} {D p : Addr} {xs : List V} {rus : List (List Int × Int)} {ns : List Int} {ru : List Int × Int} {o : HO} (h : ByLists H D xs rus ns) (hp : H p = some (.lst ((keptUp ru ns).map V.int))) (n : p ≠ D) : ByLists (upd H D o) D (xs ++ [.ref p]) (rus ++ [ru]) ns := by
  refine ⟨by simp [h.1], fun i y hy => ?_⟩
  by_cases c : i < xs.length
  · rw [List.getElem?_append_left c] at hy
    obtain ⟨ru', p', e, e2, r', n'⟩ := h.2 i y hy
    exact ⟨ru', p', by rw [List.getElem?_append_left (by rw [← h.1]; exact c)]; exact e, e2, by rw [upd_ne n']; exact r', n'⟩
  · have hi : i = xs.length := by
      have := lt_of_get hy
      simp at this
      omega
    subst hi
    have e1 : (xs ++ [V.ref p])[xs.length]? = some (.ref p) := by simp
    rw [e1] at hy
    cases hy
    refine ⟨ru, p, ?_, rfl, by rw [upd_ne n]; exact hp, n⟩
    rw [h.1]
    simp
end
end Nk
namespace Nk
open PySem L2
section
variable {P : Program} {w : World} {K : PySem.W.Frag} {mg : Str → Option Value} {base : Heap}
abbrev nm_standing_at : List Str := ["rules", "night", "found", "rounds", "many", "number", "k"]
abbrev pm_standing_at : List Str := ["rules", "night"]
abbrev lv_standing_at : Nat := 2
theorem sc_standing_at : FnScope nm_standing_at pm_standing_at (defScope s_standing_at) := ⟨rfl, rfl, rfl, by decide +kernel, rfl, by decide +kernel, by decide +kernel⟩
def sp_standing_at : Sp := fun vs H Q _ => ∃ (a : Addr) (rus : List (List Int × Int)) (n : Int), vs = [.ref a, .int n] ∧ RulesAt H a rus ∧ 0 ≤ n ∧ n < 2 ^ 61 ∧
  ∀ (p : Addr) (L : List Int) (H' : Hp), Same H H' → H p = none → L.Pairwise (· < ·) → (∀ m, m ∈ L ↔ standS rus n m) → L.length ≤ 101 → H' p = some (.lst (L.map V.int)) → Q (.ref p) H'
def iv_standing_at (a d : Addr) (rus : List (List Int × Int)) (n : Int) (H : Hp) (i : Nat) (σ : L2.St) (H' : Hp) : Prop :=
  (∃ y3 y4 y5 y6, σ = [some (.ref a), some (.int n), some (.ref d), y3, y4, y5, y6]) ∧ Same H H' ∧ ∃ kvs ks, H' d = some (.dK kvs) ∧ IK kvs ks ∧ ks.length ≤ 1 + 20 * i ∧ ∀ m, m ∈ ks ↔ standS (rus.take i) n m
def iv_standing_at2 (a d r : Addr) (ru : List Int × Int) (n : Int) (ks0 : List Int) (H : Hp) (i : Nat) (lo : Int) (j : Nat) (σ : L2.St) (H' : Hp) : Prop :=
  (∃ y6, σ = [some (.ref a), some (.int n), some (.ref d), some (.ref r), some (.int ru.2), some (.int (numOf ru.1 n)), y6]) ∧ Same H H' ∧ ∃ kvs ks, H' d = some (.dK kvs) ∧ IK kvs ks ∧ ks.length ≤ 1 + 20 * i + j ∧ ∀ m, m ∈ ks ↔ m ∈ ks0 ∨ ∃ k : Nat, k < j ∧ m = firstOf ru.1 (lo + k + 1) - 1
theorem f_standing_at (T : Txt K mg) : Fk P w K mg base CX0 lv_standing_at "standing_at" pm_standing_at sp_standing_at := by
  obtain ⟨f, fd, F, g, b⟩ := T.d_standing_at.ex
  refine ⟨f, fd, g, F.kp, b, F.ok sc_standing_at (fun vs H Q E h => ?_) (fun cdv A outer s H vs Q E hr h => ?_)⟩
  · obtain ⟨a, rus, n, rfl, _⟩ := h; rfl
  · obtain ⟨a, rus, n, rfl, hR, hn0, hn1, q⟩ := h
    have hu := hu_of hr
    refine ⟨_, (pss_cons (ps_set (i := 2) sc_standing_at.nd rfl (.inl rfl) (pe_disp (pps_cons (pv 1) pe_bl pps_nil) (by rfl) (by rfl) (fun z => by cases z) (by decide)))
      (pss_cons (ps_for PassesOwn.never rfl (pi_tup (pv 0)) (pg_tup rfl (pgs_cons (pg_name (i := 3) sc_standing_at.nd rfl (Or.inl rfl)) (pgs_cons (pg_name (i := 4) sc_standing_at.nd rfl (Or.inl rfl)) pgs_nil))) (pss_cons (ps_set (i := 5) sc_standing_at.nd rfl (.inl rfl) (pe_fn (f_number_of T) (hr.mono (by decide)) (by rfl) pass0 (pa_cons (pv 3) (pa_cons (pv 1) pa_nil))))
      (pss_one (ps_for PassesOwn.never rfl (pi_range2 (by rfl) T.b_range (pa_cons (pe_callB (call_max2 rfl) (by rfl) T.b_max (by decide +kernel) (pa_cons pe_int (pa_cons (pe_op op_add (pe_op op_sub (pv 5) (pv 4)) pe_int) pa_nil))) (pa_cons (pv 5) pa_nil))) (pg_name (i := 6) sc_standing_at.nd rfl (Or.inl rfl)) (pss_one (ps_dput hu (pv 2) (pe_op op_sub (pe_fn (f_first_of T) (hr.mono (by decide)) (by rfl) pass0 (pa_cons (pv 3) (pa_cons (pe_op op_add (pv 6) pe_int) pa_nil))) pe_int) pe_bl rfl))))))
      (pss_one (ps_ret (pe_callB (cr_sortedKI rfl) (by rfl) T.b_sorted (by decide +kernel) (pa_cons (pe_bm0 PySem.F.plainAttrs_dict PySem.F.slot_dict_keys PySem.F.type_dict_keys mt_keys (pv 2)) pa_nil)))))), ?_⟩
    with_reducible refine seq_k fun K_ hK_ => ?_
    walk_at "rs"
    intro d hd
    refine ⟨upd_same, [(Sum.inl n, .bl true)], rfl, by simp, ?_⟩
    have hm0 : mergeK [] [((Sum.inl n : Key), V.bl true)] = [((Sum.inl n : Key), V.bl true)] := rfl
    rw [hm0, upd_upd]
    have sD : Same H (upd H d (.dK [((Sum.inl n : Key), V.bl true)])) := same_upd hd
    obtain ⟨xs, ha, hxl, hxr⟩ := hR.ex
    have hl5 := hR.l5
    have hrn := hR.rnds
    walk_at "rs"
    subst hK_
    first | with_reducible refine seq_k fun K_ hK_ => ?_ | skip
    walk_at "rs"
    refine ⟨_, rfl, a, rfl, ⟨_, sqT (sD _ _ ha)⟩, for_tup (K := K) (a := a) (xs := xs) (iv_standing_at a d rus n H)
      ⟨⟨none, none, none, none, rfl⟩, sD, _, [n], upd_same, ⟨rfl, by simp⟩, by simp, fun m => by simp [standS]⟩ (fun i σ H5 _ p => sqT (p.2.1 _ _ ha)) ?_ ?_⟩
    · rintro i x σ H5 hx ⟨⟨y3, y4, y5, y6, rfl⟩, s5, kvs, ks, hd5, hik, hkl, hmem⟩
      obtain ⟨ru, hru, bx, r, rfl, hb, hrr, m1, m20⟩ := hxr i x hx
      have hi5 := lt_of_get hru
      refine ⟨bx, _, rfl, sqT (s5 _ _ hb), rfl, ?_⟩
      walk_at "rs"
      with_reducible refine seq_k fun K_ hK_ => ?_
      walk_at "rs"
      refine ⟨r, ru.1, n, rfl, hrr.same s5, ?_⟩
      have hN0 := numOf_nonneg hrr.ok hn0
      have hN1 := numOf_le hrr.ok hn0
      walk_at "rt"
      subst hK_
      first | with_reducible refine seq_k fun K_ hK_ => ?_ | skip
      walk_at "rt"
      obtain ⟨lo, hlo, hlo0, hlo1⟩ : ∃ lo : Int, (if numOf ru.1 n - ru.2 + 1 > 0 then numOf ru.1 n - ru.2 + 1 else 0) = lo ∧ 0 ≤ lo ∧ numOf ru.1 n - ru.2 + 1 ≤ lo ∧ (lo ≤ numOf ru.1 n - ru.2 + 1 ∨ lo = 0) := ⟨_, rfl, by split <;> omega, by split <;> omega, by split <;> omega⟩
      rw [hlo]
      refine ⟨by omega, by omega, by omega, by omega, for_range (lo := lo) (n := (numOf ru.1 n - lo).toNat) (iv_standing_at2 a d r ru n ks H i lo) ⟨⟨_, rfl⟩, s5, kvs, ks, hd5, hik, by omega, fun m => by simp⟩ ?_ ?_⟩
      · rintro j σ H7 hj ⟨⟨y6, rfl⟩, s7, kvs7, ks7, hd7, hik7, hkl7, hmem7⟩
        have hkl := hik7.len
        walk_at "rt"
        refine ⟨r, ru.1, _, rfl, hrr.same s7, fun H8 s8 => ?_⟩
        walk_at "rt"
        obtain ⟨ks8, h1, h2, h3⟩ := ik_put hik7 (firstOf ru.1 (lo + j + 1) - 1) (.bl true)
        refine ⟨_, DPut.k (k := Sum.inl (firstOf ru.1 (lo + j + 1) - 1)) (s8 _ _ hd7) (szl (by omega)), ?_⟩
        refine ⟨⟨_, rfl⟩, Same.app (s7.trans s8) hd, _, ks8, upd_same, h1, by omega, fun m => ?_⟩
        rw [h2, hmem7]
        constructor
        · rintro ((h | ⟨k, k1, k2⟩) | h)
          · exact .inl h
          · exact .inr ⟨k, by omega, k2⟩
          · exact .inr ⟨j, by omega, h⟩
        · rintro (h | ⟨k, k1, k2⟩)
          · exact .inl (.inl h)
          · by_cases e : k = j
            · subst e
              exact .inr k2
            · exact .inl (.inr ⟨k, by omega, k2⟩)
      · rintro σ H7 ⟨⟨y6, rfl⟩, s7, kvs7, ks7, hd7, hik7, hkl7, hmem7⟩
        refine ⟨⟨_, _, _, _, rfl⟩, s7, kvs7, ks7, hd7, hik7, by omega, fun m => ?_⟩
        rw [hmem7, hmem, take_next hru]
        unfold standS
        constructor
        · rintro ((h | ⟨ru', h1, h2⟩) | ⟨k, k1, k2⟩)
          · exact .inl h
          · exact .inr ⟨ru', List.mem_append_left _ h1, h2⟩
          · exact .inr ⟨ru, List.mem_append_right _ List.mem_cons_self, lo + k, by omega, by omega, by omega, k2⟩
        · rintro (h | ⟨ru', h1, h2⟩)
          · exact .inl (.inl h)
          · rcases List.mem_append.mp h1 with h1 | h1
            · exact .inl (.inr ⟨ru', h1, h2⟩)
            · rw [List.mem_singleton.mp h1] at h2
              obtain ⟨k, k0, k1, k2, k3⟩ := h2
              refine .inr ⟨(k - lo).toNat, by omega, ?_⟩
              rw [show lo + ((k - lo).toNat : Int) = k by omega]
              exact k3
    · rintro σ H5 ⟨⟨y3, y4, y5, y6, rfl⟩, s5, kvs, ks, hd5, hik, hkl, hmem⟩
      rw [hxl, List.take_length] at hmem
      walk_at "rs"
      subst hK_
      first | with_reducible refine seq_k fun K_ hK_ => ?_ | skip
      walk_at "rs"
      refine ⟨.inr (.inr (.inl ⟨rfl, .inl ⟨_, hd5⟩⟩)), ?_⟩
      refine ⟨d, kvs, rfl, rfl, hd5, fun v hv => ?_⟩
      have s6 := s5.trans (same_upd (o := KeysO v d) hv)
      refine ⟨v, d, kvs, ks, rfl, upd_same, (same_upd hv) _ _ hd5, hik.keys, fun ys p hperm hsort hp => ?_⟩
      refine q p ys _ (s6.trans (same_upd hp)) (s6.free hp) (rise_of_le hsort (hperm.nodup_iff.mpr hik.nd)) (fun m => by rw [hperm.mem_iff, hmem]) ?_ upd_same
      rw [hperm.length_eq]
      rw [hxl] at hkl
      omega
end
end Nk
namespace Nk
open PySem L2
section
variable {P : Program} {w : World} {K : PySem.W.Frag} {mg : Str → Option Value} {base : Heap}
abbrev nm_divisor : List Str := ["one", "other"]
abbrev pm_divisor : List Str := ["one", "other"]
abbrev lv_divisor : Nat := 1
theorem sc_divisor : FnScope nm_divisor pm_divisor (defScope s_divisor) := ⟨rfl, rfl, rfl, by decide +kernel, rfl, by decide +kernel, by decide +kernel⟩
def sp_divisor : Sp := fun vs H Q _ => ∃ (a b : Nat), vs = [.int a, .int b] ∧ Q (.int (Nat.gcd a b)) H
theorem f_divisor (T : Txt K mg) : Fk P w K mg base CX0 lv_divisor "divisor" pm_divisor sp_divisor := by
  obtain ⟨f, fd, F, g, b⟩ := T.d_divisor.ex
  refine ⟨f, fd, g, F.kp, b, F.ok sc_divisor (fun vs H Q E h => ?_) (fun cdv A outer s H vs Q E hr h => ?_)⟩
  · obtain ⟨a, b, rfl, _⟩ := h; rfl
  · obtain ⟨a, b, rfl, q⟩ := h
    refine ⟨_, (pss_cons (ps_while PassesOwn.never (pt_cmpR op_gt (pv 1) pe_int (nomark _)) (pss_one (ps_par (i := 0) (j := 1) (by rfl) sc_divisor.nd rfl rfl (by decide) rfl rfl (pa_cons (pv 1) (pa_cons (pe_op op_mod (pv 0) (pv 1)) pa_nil)) (by rfl))))
      (pss_one (ps_ret (pv 0)))), ?_⟩
    with_reducible refine seq_k fun K_ hK_ => ?_
    walk_at "rt"
    refine ⟨fun m σ H' => H' = H ∧ ∃ x y : Nat, σ = [some (.int x), some (.int y)] ∧ Nat.gcd x y = Nat.gcd a b ∧ m = y, ⟨b, rfl, a, b, rfl, rfl, rfl⟩, ?_⟩
    rintro m σ H' ⟨rfl, x, y, rfl, hg, rfl⟩
    walk_at "rt"
    refine ite2 (fun c => ?_) (fun c => ?_)
    · refine ⟨_, fun σ' H'' h => h, ?_⟩
      walk_at "rt"
      refine ⟨by omega, x % m, Nat.mod_lt _ (by omega), m, rfl, x % m, by rw [Int.natCast_emod], ?_, rfl⟩
      rw [← hg, Nat.gcd_comm m, ← Nat.gcd_rec, Nat.gcd_comm]
    · have : m = 0 := by omega
      subst this
      rw [Nat.gcd_zero_right] at hg
      walk_at "rt"
      subst hK_
      first | with_reducible refine seq_k fun K_ hK_ => ?_ | skip
      walk_at "rt"
      rw [hg]
      exact q
abbrev nm_turn_of : List Str := ["rules", "found", "rounds", "many"]
abbrev pm_turn_of : List Str := ["rules"]
abbrev lv_turn_of : Nat := 2
theorem sc_turn_of : FnScope nm_turn_of pm_turn_of (defScope s_turn_of) := ⟨rfl, rfl, rfl, by decide +kernel, rfl, by decide +kernel, by decide +kernel⟩
def sp_turn_of : Sp := fun vs H Q _ => ∃ (a : Addr) (rus : List (List Int × Int)), vs = [.ref a] ∧ RulesAt H a rus ∧ Q (.int (turnN rus)) H
def iv_turn_of (a : Addr) (rus : List (List Int × Int)) (H : Hp) (i : Nat) (σ : L2.St) (H' : Hp) : Prop := H' = H ∧ ∃ y2 y3, σ = [some (.ref a), some (.int ((rus.take i).foldl (fun f ru => lcmS f ru.1.sum.toNat) 1 : Nat)), y2, y3]
theorem f_turn_of (T : Txt K mg) : Fk P w K mg base CX0 lv_turn_of "turn_of" pm_turn_of sp_turn_of := by
  obtain ⟨f, fd, F, g, b⟩ := T.d_turn_of.ex
  refine ⟨f, fd, g, F.kp, b, F.ok sc_turn_of (fun vs H Q E h => ?_) (fun cdv A outer s H vs Q E hr h => ?_)⟩
  · obtain ⟨a, rus, rfl, _⟩ := h; rfl
  · obtain ⟨a, rus, rfl, hR, q⟩ := h
    refine ⟨_, (pss_cons (ps_set (i := 1) sc_turn_of.nd rfl (.inl rfl) pe_int)
      (pss_cons (ps_for PassesOwn.never rfl (pi_tup (pv 0)) (pg_tup rfl (pgs_cons (pg_name (i := 2) sc_turn_of.nd rfl (Or.inl rfl)) (pgs_cons (pg_name (i := 3) sc_turn_of.nd rfl (Or.inl rfl)) pgs_nil))) (pss_one (ps_set (i := 1) sc_turn_of.nd rfl (.inl rfl) (pe_op op_fdiv (pe_op op_mul (pv 1) (pe_callB (cr_sumT rfl) (by rfl) T.b_sum (by decide +kernel) (pa_cons (pv 2) pa_nil))) (pe_fn (f_divisor T) (hr.mono (by decide)) (by rfl) pass0 (pa_cons (pv 1) (pa_cons (pe_callB (cr_sumT rfl) (by rfl) T.b_sum (by decide +kernel) (pa_cons (pv 2) pa_nil)) pa_nil)))))))
      (pss_one (ps_ret (pv 1))))), ?_⟩
    with_reducible refine seq_k fun K_ hK_ => ?_
    walk_at "rt"
    walk_at "rt"
    subst hK_
    first | with_reducible refine seq_k fun K_ hK_ => ?_ | skip
    walk_at "rt"
    obtain ⟨xs, ha, hxl, hxr⟩ := hR.ex
    refine ⟨⟨_, sqT ha⟩, for_tup (K := K) (a := a) (xs := xs) (iv_turn_of a rus H) ⟨rfl, none, none, rfl⟩ (fun i σ H5 _ p => by rw [p.1]; exact sqT ha) ?_ ?_⟩
    · rintro i x σ H5 hx ⟨rfl, y2, y3, rfl⟩
      obtain ⟨ru, hru, b, r, rfl, hb, hr1, h1, h20⟩ := hxr i x hx
      have hs := hr1.sum_le
      have hs0 := hr1.ok.sum
      refine ⟨b, _, rfl, sqT hb, rfl, ?_⟩
      walk_at "rt"
      generalize hf : (rus.take i).foldl (fun f (ru : List Int × Int) => lcmS f ru.1.sum.toNat) 1 = f
      have hf0 : 0 < f := by
        rw [← hf]
        exact turnN_pos (fun ru hru => (hR.rnds ru (List.mem_of_mem_take hru)).1.sum) 1 (by decide)
      have es : ru.1.sum = (ru.1.sum.toNat : Int) := by omega
      have hg0 : 0 < Nat.gcd f ru.1.sum.toNat := Nat.gcd_pos_of_pos_left _ hf0
      have hg1 : Nat.gcd f ru.1.sum.toNat ≤ ru.1.sum.toNat := Nat.gcd_le_right _ (by omega)
      refine ⟨r, _, rfl, sqT hr1.at_, _, rfl, .inr (by omega), r, _, rfl, sqT hr1.at_, f, ru.1.sum.toNat, by rw [← es], _, rfl, ⟨by omega, by omega⟩, rfl, some (.ref r), some (.int ru.2), ?_⟩
      rw [take_next hru, List.foldl_append, hf]
      simp only [List.foldl_cons, List.foldl_nil]
      have : (f : Int) * ru.1.sum / (Nat.gcd f ru.1.sum.toNat : Int) = (lcmS f ru.1.sum.toNat : Nat) := by
        unfold lcmS
        rw [Int.natCast_ediv, Int.natCast_mul, ← es]
      rw [this]
    · rintro σ H5 ⟨rfl, y2, y3, rfl⟩
      rw [hxl, List.take_length]
      walk_at "rt"
      subst hK_
      first | with_reducible refine seq_k fun K_ hK_ => ?_ | skip
      walk_at "rt"
      exact q
abbrev nm_turn : List Str := ["rules"]
abbrev pm_turn : List Str := ["rules"]
abbrev lv_turn : Nat := 5
theorem sc_turn : FnScope nm_turn pm_turn (defScope s_turn) := ⟨rfl, rfl, rfl, by decide +kernel, rfl, by decide +kernel, by decide +kernel⟩
def sp_turn (K : PySem.W.Frag) (mg : Str → Option Value) : Sp := fun vs H Q E => ∃ (x : V), vs = [x] ∧ DT K H 3 x ∧
  (isRulesV H x = false → ∀ H', Same H H' → E (.ref (cls mg "BadRules")) none H') ∧
  (isRulesV H x = true → ∃ (a : Addr) (rus : List (List Int × Int)), x = .ref a ∧ RulesAt H a rus ∧ ∀ H', Same H H' → Q (.int (turnN rus)) H')
theorem f_turn (T : Txt K mg) : Fk P w K mg base (L2.CX P w) lv_turn "turn" pm_turn (sp_turn K mg) := by
  obtain ⟨f, fd, F, g, b⟩ := T.d_turn.ex
  refine ⟨f, fd, g, F.kp, b, F.okX sc_turn (fun vs H Q E h => ?_) (fun cdv A outer s H vs Q E hr h => ?_)⟩
  · obtain ⟨x, rfl, _⟩ := h; rfl
  · obtain ⟨x, rfl, hx, q1, q2⟩ := h
    refine ⟨_, (pss_cons (ps_expr (pe_fn (f_look_rules T) (hr.mono (by decide)) (by rfl) (passX (takes_of rfl rfl rfl rfl)) (pa_cons (pv 0) pa_nil)))
      (pss_one (ps_ret (pe_fn (f_turn_of T) (hr.mono (by decide)) (by rfl) pass0 (pa_cons (pv 0) pa_nil))))), ?_⟩
    with_reducible refine seq_k fun K_ hK_ => ?_
    walk_at "rt"
    refine ⟨x, rfl, hx, fun e H' s' => ?_, q1⟩
    obtain ⟨a, rus, rfl, ha, q⟩ := q2 e
    walk_at "rt"
    subst hK_
    first | with_reducible refine seq_k fun K_ hK_ => ?_ | skip
    walk_at "rt"
    exact ⟨a, rus, rfl, ha.same s', q H' s'⟩
theorem turn_good {H : Hp} {a : Addr} {rus : List (List Int × Int)} {Q : VK} {E : XK} (R : RulesAt H a rus) (q : ∀ H', Same H H' → Q (.int (turnN rus)) H') : sp_turn K mg [.ref a] H Q E :=
  ⟨.ref a, rfl, R.thing, (fun e => by rw [R.is] at e; cases e), fun _ => ⟨a, rus, rfl, R, q⟩⟩
end
end Nk
namespace Nk
open PySem L2
section
variable {P : Program} {w : World} {K : PySem.W.Frag} {mg : Str → Option Value} {base : Heap}
abbrev nm_full : List Str := ["rules", "long", "best", "night", "count", "rounds", "many"]
abbrev pm_full : List Str := ["rules"]
abbrev lv_full : Nat := 5
theorem sc_full : FnScope nm_full pm_full (defScope s_full) := ⟨rfl, rfl, rfl, by decide +kernel, rfl, by decide +kernel, by decide +kernel⟩
/-- the latest start -/
def Longest (rus : List (List Int × Int)) (lg : Int) : Prop := (∀ ru ∈ rus, firstOf ru.1 (ru.2 + 1) ≤ lg) ∧ ∃ ru ∈ rus, firstOf ru.1 (ru.2 + 1) = lg
def sp_full (K : PySem.W.Frag) (mg : Str → Option Value) : Sp := fun vs H Q E => ∃ (x : V), vs = [x] ∧ DT K H 3 x ∧
  (isRulesV H x = false → ∀ H', Same H H' → E (.ref (cls mg "BadRules")) none H') ∧
  (isRulesV H x = true → ∃ (a : Addr) (rus : List (List Int × Int)), x = .ref a ∧ RulesAt H a rus ∧ (400 < turnN rus → ∀ H', Same H H' → E (.ref (cls mg "BadRules")) none H') ∧
    (turnN rus ≤ 400 → ∀ (p : Addr) (lg b i : Int) (H' : Hp), Same H H' → H p = none → H' p = some (.tup [.int b, .int i]) → Longest rus lg → IsBest (cnt rus) (lg + turnN rus) b i → Q (.ref p) H'))
def iv_full (a : Addr) (rus : List (List Int × Int)) (lg : Int) (H : Hp) (k : Nat) (σ : L2.St) (H' : Hp) : Prop :=
  ∃ (p : Addr) (b i : Int) (y3 y4 : Option V), σ = [some (.ref a), some (.int lg), some (.ref p), y3, y4, none, none] ∧ Same H H' ∧ H p = none ∧ H' p = some (.tup [.int b, .int i]) ∧ (((k : Int) = 0 ∧ b = 0 ∧ i = 0) ∨ IsBest (cnt rus) k b i)
theorem f_full (T : Txt K mg) : Fk P w K mg base (L2.CX P w) lv_full "full" pm_full (sp_full K mg) := by
  obtain ⟨f, fd, F, g, b⟩ := T.d_full.ex
  refine ⟨f, fd, g, F.kp, b, F.okX sc_full (fun vs H Q E h => ?_) (fun cdv A outer s H vs Q E hr h => ?_)⟩
  · obtain ⟨x, rfl, _⟩ := h; rfl
  · obtain ⟨x, rfl, hx, q1, q2⟩ := h
    refine ⟨_, (pss_cons (ps_expr (pe_fn (f_look_rules T) (hr.mono (by decide)) (by rfl) (passX (takes_of rfl rfl rfl rfl)) (pa_cons (pv 0) pa_nil)))
      (pss_cons (ps_if (pt_cmpR op_gt (pe_fn (f_turn_of T) (hr.mono (by decide)) (by rfl) pass0 (pa_cons (pv 0) pa_nil)) pe_int (nomark _)) (pss_one (ps_raise rfl (takes_of rfl rfl rfl rfl) (pmk_own PySem.F.excBase_RuntimeError T.x_BadRules.xP T.x_BadRules.gP T.x_BadRules.kP T.x_BadRules.rs rfl))) pss_nil)
      (pss_cons (ps_set (i := 1) sc_full.nd rfl (.inl rfl) (pe_callB (cr_max rfl) (by rfl) T.b_max (by decide +kernel) (pa_cons (pe_lc (own := [("rounds", 5), ("many", 6)]) (g := gTup K 2 (gCons (gName 5) (gCons (gName 6) (gNil)))) (tt := tYes) (by rfl) sc_full.nd (pi_tup (pv 0)) (blkOk_by (own := [("rounds", 5), ("many", 6)]) (N := nm_full) (sc := defScope s_full) (by decide +kernel)) (fun _ _ _ _ _ => (pg_tupK K rfl rfl (pgs_cons (pg_name (i := 5) sc_full.nd rfl (Or.inl rfl)) (pgs_cons (pg_name (i := 6) sc_full.nd rfl (Or.inl rfl)) pgs_nil)))) (fun _ _ _ _ _ => pts_nil) (fun _ _ _ _ _ => (pe_fn (f_first_of T) (hr.mono (by decide)) (by rfl) pass0 (pa_cons (pv 5) (pa_cons (pe_op op_add (pv 6) pe_int) pa_nil))))) pa_nil)))
      (pss_cons (ps_set (i := 2) sc_full.nd rfl (.inl rfl) (pe_tup (pa_cons pe_int (pa_cons pe_int pa_nil))))
      (pss_cons (ps_for (passes_of rfl) rfl (pi_range1 (by rfl) T.b_range (pa_cons (pe_op op_add (pv 1) (pe_fn (f_turn_of T) (hr.mono (by decide)) (by rfl) pass0 (pa_cons (pv 0) pa_nil))) pa_nil)) (pg_name (i := 3) sc_full.nd rfl (Or.inl rfl)) (pss_cons (ps_set (i := 4) sc_full.nd rfl (.inl rfl) (pe_callB call_len_seq (by rfl) T.b_len PySem.boot_len (pa_cons (pe_fn (f_standing_at T) (hr.mono (by decide)) (by rfl) pass0 (pa_cons (pv 0) (pa_cons (pv 3) pa_nil))) pa_nil)))
      (pss_one (ps_if (pt_cmpR op_gt (pv 4) (pe_ix ix_tup (pv 2) pe_int (fun _ _ => rfl)) (nomark _)) (pss_one (ps_set (i := 2) sc_full.nd rfl (.inl rfl) (pe_tup (pa_cons (pv 4) (pa_cons (pv 3) pa_nil))))) pss_nil))))
      (pss_one (ps_ret (pv 2)))))))), ?_⟩
    with_reducible refine seq_k fun K_ hK_ => ?_
    walk_at "rt"
    refine ⟨x, rfl, hx, fun e H1 s1 => ?_, q1⟩
    obtain ⟨a, rus, rfl, ha, q3, q4⟩ := q2 e
    have R1 := ha.same s1
    walk_at "rt"
    subst hK_
    first | with_reducible refine seq_k fun K_ hK_ => ?_ | skip
    walk_at "rt"
    refine ⟨a, rus, rfl, R1, ?_⟩
    walk_at "rt"
    refine ite2 (fun c => ?_) (fun c => ?_)
    · exact q3 (by omega) H1 s1
    have hrn := R1.rnds
    obtain ⟨xs, hxs, hxl, hxr⟩ := R1.ex
    have hrne : rus ≠ [] := List.length_pos_iff.mp (by have := R1.l1; omega)
    have hrr : ∀ ru ∈ rus, Rnds ru.1 ∧ 1 ≤ ru.2 := fun ru h => ⟨(hrn ru h).1, (hrn ru h).2.1⟩
    have hl5 := R1.l5
    walk_at "rt"
    subst hK_
    first | with_reducible refine seq_k fun K_ hK_ => ?_ | skip
    walk_at "rt"
    refine ⟨⟨_, sqT hxs⟩, fun D hD => ?_⟩
    refine lcT hD (sqT hxs) (fun j => ((rus.take j).map fun ru => firstOf ru.1 (ru.2 + 1)).map V.int) rfl (fun j v H2 hv p => ?_) (fun H2 s2 hD2 => ?_)
    · obtain ⟨ru, hru, b1, r1, rfl, hb1, hr1, h1, h20⟩ := hxr j v hv
      have hj := lt_of_get hru
      refine ⟨b1, _, rfl, sqT (p.same _ _ hb1), rfl, ?_⟩
      walk_at "rt"
      refine ⟨r1, ru.1, _, rfl, hr1.same p.same, fun H3 s3 => ?_⟩
      refine p.push hD (by simp; omega) s3 ?_
      show _ = _
      rw [take_next hru]
      simp
    rw [hxl, List.take_length] at hD2
    refine ⟨D, _, rfl, sqL hD2, by rw [List.length_map]; exact R1.l1, fun lg hl1 hl2 => ?_⟩
    have hlong : Longest rus lg := by
      refine ⟨fun ru hru => hl2 _ (List.mem_map.mpr ⟨ru, hru, rfl⟩), ?_⟩
      obtain ⟨ru, h1, h2⟩ := List.mem_map.mp hl1
      exact ⟨ru, h1, h2⟩
    have hlg0 : 0 ≤ lg := by
      obtain ⟨ru, h1, h2⟩ := hlong.2
      have h3 := hrn ru h1
      have := firstOf_pos h3.1 (show 0 ≤ ru.2 + 1 by omega)
      omega
    have hlg1 : lg ≤ 1000 := by
      obtain ⟨ru, h1, h2⟩ := hlong.2
      have h3 := hrn ru h1
      have := firstOf_upper h3.1 h3.2.2.2.2 (ru.2 + 1).toNat
      rw [show ((ru.2 + 1).toNat : Int) = ru.2 + 1 by omega] at this
      omega
    have R2 := R1.same s2
    walk_at "rt"
    subst hK_
    first | with_reducible refine seq_k fun K_ hK_ => ?_ | skip
    walk_at "rt"
    intro p0 hp0
    walk_at "rt"
    subst hK_
    first | with_reducible refine seq_k fun K_ hK_ => ?_ | skip
    walk_at "rt"
    have s3 := same_upd (o := .tup [.int 0, .int 0]) hp0
    have s13 := (s1.trans s2).trans s3
    refine ⟨a, rus, rfl, R2.same s3, ?_⟩
    walk_at "rt"
    refine ⟨by omega, by omega, for_range (lo := 0) (n := (lg + turnN rus).toNat) (iv_full a rus lg H)
      ⟨p0, 0, 0, none, none, rfl, s13, (s1.trans s2).free hp0, upd_same, .inl ⟨rfl, rfl, rfl⟩⟩ ?_ ?_⟩
    · rintro k σ H4 hk ⟨p, b, i, y3, y4, rfl, s4, hpn, hp, hbest⟩
      walk_at "rt"
      with_reducible refine seq_k fun K_ hK_ => ?_
      walk_at "rt"
      refine ⟨a, rus, _, rfl, ha.same s4, by omega, by omega, fun z L H5 s5 hz4 hrise hmem hlen hz => ?_⟩
      refine ⟨z, rfl, _, .inl (sqL hz), ?_⟩
      have hcnt := cnt_rise hrr hrne (n := 0 + (k : Int)) (by omega) hrise hmem
      rw [List.length_map, hcnt, Int.zero_add]
      have hp5 := s5 _ _ hp
      have s05 := s4.trans s5
      have hstep := best_step hbest (by omega) (cnt_pos hrr hrne (n := (k : Int)) (by omega))
      have ek : ((k + 1 : Nat) : Int) = (k : Int) + 1 := by push_cast; rfl
      walk_at "rt"
      subst hK_
      first | with_reducible refine seq_k fun K_ hK_ => ?_ | skip
      walk_at "rt"
      refine ixT (j := 0) (sqT hp5) rfl rfl ?_
      refine ⟨b, rfl, ite2 (fun c1 => ?_) (fun c1 => ?_)⟩
      · walk_at "rt"
        intro p2 hp2
        rw [if_pos (by omega), if_pos (by omega)] at hstep
        exact ⟨p2, _, _, _, _, rfl, s05.trans (same_upd hp2), s05.free hp2, upd_same, .inr (by rw [ek]; exact hstep)⟩
      · rw [if_neg (by omega), if_neg (by omega)] at hstep
        exact ⟨p, b, i, _, _, rfl, s05, hpn, hp5, .inr (by rw [ek]; exact hstep)⟩
    · rintro σ H4 ⟨p, b, i, y3, y4, rfl, s4, hpn, hp, hbest⟩
      walk_at "rt"
      subst hK_
      first | with_reducible refine seq_k fun K_ hK_ => ?_ | skip
      walk_at "rt"
      have hT : 0 < turnN rus := turnN_pos (fun ru hru => (hrn ru hru).1.sum) 1 (by decide)
      rw [show (((lg + turnN rus).toNat : Nat) : Int) = lg + turnN rus by omega] at hbest
      rcases hbest with ⟨h, _⟩ | hbest
      · omega
      · exact q4 (by omega) p lg b i H4 s4 hpn hp hlong hbest
end
end Nk
namespace Nk
open PySem L2
section
variable {P : Program} {w : World} {K : PySem.W.Frag} {mg : Str → Option Value} {base : Heap}
/-- the errors' names, as the laws number them -/
def exNames : List Str := ["BadRounds", "BadNight", "BadNumber", "BadRules", "BadNights", "Elder", "Full", "NotHeld", "Pinned", "NotPinned", "BadState", "BadPart", "NotFit", "IsWhole", "BadPlan", "Unlike", "BadText"]
/-- an error of the j-th kind, caught, at a -/
def CaughtAt (mg : Str → Option Value) (H : Hp) (a : Addr) (j : Nat) : Prop := ∃ (x : Str) (d : Option Addr), exNames[j]? = some x ∧ H a = some (ExV (.ref (cls mg x)) d a) ∧ ∀ dd, d = some dd → ∃ fs, H dd = some (.xd fs)
theorem ex_count : ∀ j ∈ List.range 17, ((exNames.map fun y => V.bl (decide (exNames.getD j "" = y))).countP fun z => eqV z (.bl true)) = 1 := by decide +kernel
theorem ex_at : ∀ j ∈ List.range 17, ∀ m ∈ List.range 17, exNames.getD j "" = exNames.getD m "" → j = m := by decide +kernel
abbrev nm__law_word : List Str := ["caught", "kinds"]
abbrev pm__law_word : List Str := ["caught"]
abbrev lv__law_word : Nat := 1
theorem sc__law_word : FnScope nm__law_word pm__law_word (defScope s__law_word) := ⟨rfl, rfl, rfl, by decide +kernel, rfl, by decide +kernel, by decide +kernel⟩
def sp__law_word (mg : Str → Option Value) : Sp := fun vs H Q _ => ∃ (a : Addr) (j : Nat), vs = [.ref a] ∧ CaughtAt mg H a j ∧ ∀ H', Same H H' → Q (.int j) H'
theorem ec_all (T : Txt K mg) : ∀ x ∈ exNames, Ec K mg x := by
  intro x hx
  simp only [exNames, List.mem_cons, List.not_mem_nil, or_false] at hx
  rcases hx with rfl | rfl | rfl | rfl | rfl | rfl | rfl | rfl | rfl | rfl | rfl | rfl | rfl | rfl | rfl | rfl | rfl
  · exact T.e_BadRounds
  · exact T.e_BadNight
  · exact T.e_BadNumber
  · exact T.e_BadRules
  · exact T.e_BadNights
  · exact T.e_Elder
  · exact T.e_Full
  · exact T.e_NotHeld
  · exact T.e_Pinned
  · exact T.e_NotPinned
  · exact T.e_BadState
  · exact T.e_BadPart
  · exact T.e_NotFit
  · exact T.e_IsWhole
  · exact T.e_BadPlan
  · exact T.e_Unlike
  · exact T.e_BadText
theorem isx_of (T : Txt K mg) {H : Hp} {a : Addr} {x y : Str} {d : Option Addr} {Q : VK} (ha : H a = some (ExV (.ref (cls mg x)) d a)) (hd : ∀ dd, d = some dd → ∃ fs, H dd = some (.xd fs)) (hx : x ∈ exNames) (hy : y ∈ exNames) (q : Q (.bl (decide (x = y))) H) : rIsX K [.ref a, .ref (cls mg y)] H Q :=
  ⟨a, _, d, _, _, _, rfl, ha, (ec_all T x hx).ec, .own _, (ec_all T x hx).is (ec_all T y hy) T.k_err (by intro z; rw [z] at hy; revert hy; decide), hd, q⟩
theorem isxR_of (T : Txt K mg) {H : Hp} {a : Addr} {x : Str} {d : Option Addr} {Q : VK} (ha : H a = some (ExV (.ref (cls mg x)) d a)) (hd : ∀ dd, d = some dd → ∃ fs, H dd = some (.xd fs)) (hx : x ∈ exNames) (q : Q (.bl true) H) : rIsX K [.ref a, .ty "RuntimeError"] H Q :=
  ⟨a, _, d, _, _, _, rfl, ha, (ec_all T x hx).ec, .ty _, (ec_all T x hx).isR, hd, q⟩
theorem f__law_word (T : Txt K mg) : Fk P w K mg base CX0 lv__law_word "_law_word" pm__law_word (sp__law_word mg) := by
  obtain ⟨f, fd, F, g, b⟩ := T.d__law_word.ex
  refine ⟨f, fd, g, F.kp, b, F.ok sc__law_word (fun vs H Q E h => ?_) (fun cdv A outer s H vs Q E hr h => ?_)⟩
  · obtain ⟨a, j, rfl, _⟩ := h; rfl
  · obtain ⟨a, j, rfl, ⟨x, d, hj, ha, hd⟩, q⟩ := h
    have hx : x ∈ exNames := List.mem_of_getElem? hj
    refine ⟨_, (pss_cons (ps_if (pt_not (pt_val (pe_callB call_isX (by rfl) T.b_isinstance (by decide +kernel) (pa_cons (pv 0) (pa_cons (pe_bltn (v := .ty "RuntimeError") (by rfl) T.b_RuntimeError (by decide +kernel) rfl) pa_nil))))) (pss_one (ps_ret (pe_un un_neg pe_int))) pss_nil)
      (pss_cons (ps_set (i := 1) sc__law_word.nd rfl (.inl rfl) (pe_lst (pa_cons (pe_callB call_isX (by rfl) T.b_isinstance (by decide +kernel) (pa_cons (pv 0) (pa_cons (pe_glob (v := .ref (cls mg "BadRounds")) (by rfl) T.e_BadRounds.gP rfl) pa_nil))) (pa_cons (pe_callB call_isX (by rfl) T.b_isinstance (by decide +kernel) (pa_cons (pv 0) (pa_cons (pe_glob (v := .ref (cls mg "BadNight")) (by rfl) T.e_BadNight.gP rfl) pa_nil))) (pa_cons (pe_callB call_isX (by rfl) T.b_isinstance (by decide +kernel) (pa_cons (pv 0) (pa_cons (pe_glob (v := .ref (cls mg "BadNumber")) (by rfl) T.e_BadNumber.gP rfl) pa_nil))) pa_nil)))))
      (pss_cons (ps_set (i := 1) sc__law_word.nd rfl (.inl rfl) (pe_op op_cat (pv 1) (pe_lst (pa_cons (pe_callB call_isX (by rfl) T.b_isinstance (by decide +kernel) (pa_cons (pv 0) (pa_cons (pe_glob (v := .ref (cls mg "BadRules")) (by rfl) T.e_BadRules.gP rfl) pa_nil))) (pa_cons (pe_callB call_isX (by rfl) T.b_isinstance (by decide +kernel) (pa_cons (pv 0) (pa_cons (pe_glob (v := .ref (cls mg "BadNights")) (by rfl) T.e_BadNights.gP rfl) pa_nil))) (pa_cons (pe_callB call_isX (by rfl) T.b_isinstance (by decide +kernel) (pa_cons (pv 0) (pa_cons (pe_glob (v := .ref (cls mg "Elder")) (by rfl) T.e_Elder.gP rfl) pa_nil))) pa_nil))))))
      (pss_cons (ps_set (i := 1) sc__law_word.nd rfl (.inl rfl) (pe_op op_cat (pv 1) (pe_lst (pa_cons (pe_callB call_isX (by rfl) T.b_isinstance (by decide +kernel) (pa_cons (pv 0) (pa_cons (pe_glob (v := .ref (cls mg "Full")) (by rfl) T.e_Full.gP rfl) pa_nil))) (pa_cons (pe_callB call_isX (by rfl) T.b_isinstance (by decide +kernel) (pa_cons (pv 0) (pa_cons (pe_glob (v := .ref (cls mg "NotHeld")) (by rfl) T.e_NotHeld.gP rfl) pa_nil))) (pa_cons (pe_callB call_isX (by rfl) T.b_isinstance (by decide +kernel) (pa_cons (pv 0) (pa_cons (pe_glob (v := .ref (cls mg "Pinned")) (by rfl) T.e_Pinned.gP rfl) pa_nil))) pa_nil))))))
      (pss_cons (ps_set (i := 1) sc__law_word.nd rfl (.inl rfl) (pe_op op_cat (pv 1) (pe_lst (pa_cons (pe_callB call_isX (by rfl) T.b_isinstance (by decide +kernel) (pa_cons (pv 0) (pa_cons (pe_glob (v := .ref (cls mg "NotPinned")) (by rfl) T.e_NotPinned.gP rfl) pa_nil))) (pa_cons (pe_callB call_isX (by rfl) T.b_isinstance (by decide +kernel) (pa_cons (pv 0) (pa_cons (pe_glob (v := .ref (cls mg "BadState")) (by rfl) T.e_BadState.gP rfl) pa_nil))) (pa_cons (pe_callB call_isX (by rfl) T.b_isinstance (by decide +kernel) (pa_cons (pv 0) (pa_cons (pe_glob (v := .ref (cls mg "BadPart")) (by rfl) T.e_BadPart.gP rfl) pa_nil))) pa_nil))))))
      (pss_cons (ps_set (i := 1) sc__law_word.nd rfl (.inl rfl) (pe_op op_cat (pv 1) (pe_lst (pa_cons (pe_callB call_isX (by rfl) T.b_isinstance (by decide +kernel) (pa_cons (pv 0) (pa_cons (pe_glob (v := .ref (cls mg "NotFit")) (by rfl) T.e_NotFit.gP rfl) pa_nil))) (pa_cons (pe_callB call_isX (by rfl) T.b_isinstance (by decide +kernel) (pa_cons (pv 0) (pa_cons (pe_glob (v := .ref (cls mg "IsWhole")) (by rfl) T.e_IsWhole.gP rfl) pa_nil))) (pa_cons (pe_callB call_isX (by rfl) T.b_isinstance (by decide +kernel) (pa_cons (pv 0) (pa_cons (pe_glob (v := .ref (cls mg "BadPlan")) (by rfl) T.e_BadPlan.gP rfl) pa_nil))) pa_nil))))))
      (pss_cons (ps_set (i := 1) sc__law_word.nd rfl (.inl rfl) (pe_op op_cat (pv 1) (pe_lst (pa_cons (pe_callB call_isX (by rfl) T.b_isinstance (by decide +kernel) (pa_cons (pv 0) (pa_cons (pe_glob (v := .ref (cls mg "Unlike")) (by rfl) T.e_Unlike.gP rfl) pa_nil))) (pa_cons (pe_callB call_isX (by rfl) T.b_isinstance (by decide +kernel) (pa_cons (pv 0) (pa_cons (pe_glob (v := .ref (cls mg "BadText")) (by rfl) T.e_BadText.gP rfl) pa_nil))) pa_nil)))))
      (pss_one (ps_ret (pe_ifExp (pt_cmpR op_eq (pe_bm PySem.F.plainAttrs_list PySem.F.slot_list_count PySem.F.type_list_count mt_countF (pv 1) (pa_cons pe_bl pa_nil)) pe_int (nomark _)) (pe_bm PySem.F.plainAttrs_list PySem.F.slot_list_index PySem.F.type_list_index mt_index (pv 1) (pa_cons pe_bl pa_nil)) (pe_un un_neg pe_int))))))))))), ?_⟩
    with_reducible refine seq_k fun K_ hK_ => ?_
    walk_at "rt"
    refine isxR_of T ha hd hx ⟨true, rfl, ?_⟩
    walk_at "rt"
    walk_at "rt"
    subst hK_
    first | with_reducible refine seq_k fun K_ hK_ => ?_ | skip
    walk_at "rt"
    refine isx_of T ha hd hx (by decide) ?_
    refine isx_of T ha hd hx (by decide) ?_
    refine isx_of T ha hd hx (by decide) ?_
    intro p0 hp0
    have s0 := same_upd (o := .lst ([V.bl (decide (x = "BadRounds")), .bl (decide (x = "BadNight")), .bl (decide (x = "BadNumber"))])) hp0
    have hl0 := upd_same (H := H) (a := p0) (o := .lst ([V.bl (decide (x = "BadRounds")), .bl (decide (x = "BadNight")), .bl (decide (x = "BadNumber"))]))
    revert s0 hl0
    generalize upd H p0 (.lst ([V.bl (decide (x = "BadRounds")), .bl (decide (x = "BadNight")), .bl (decide (x = "BadNumber"))])) = H0
    intro s0 hl0
    have ha0 := s0 _ _ ha
    have hd0 : ∀ dd, d = some dd → ∃ fs, H0 dd = some (.xd fs) := fun dd e => by obtain ⟨fs, h⟩ := hd dd e; exact ⟨fs, s0 _ _ h⟩
    walk_at "rt"
    subst hK_
    first | with_reducible refine seq_k fun K_ hK_ => ?_ | skip
    walk_at "rt"
    refine isx_of T ha0 hd0 hx (by decide) ?_
    refine isx_of T ha0 hd0 hx (by decide) ?_
    refine isx_of T ha0 hd0 hx (by decide) ?_
    intro q0 hq0
    have u0 := same_upd (o := .lst ([V.bl (decide (x = "BadRules")), V.bl (decide (x = "BadNights")), V.bl (decide (x = "Elder"))])) hq0
    refine ⟨p0, q0, _, _, rfl, rfl, u0 _ _ hl0, upd_same, sz (by simp), fun p1 hp1 => ?_⟩
    have v0 := s0.trans (u0.trans (same_upd (o := .lst ([V.bl (decide (x = "BadRounds")), V.bl (decide (x = "BadNight")), V.bl (decide (x = "BadNumber"))] ++ [V.bl (decide (x = "BadRules")), V.bl (decide (x = "BadNights")), V.bl (decide (x = "Elder"))])) hp1))
    have hl1 : (upd (upd H0 q0 (.lst ([V.bl (decide (x = "BadRules")), V.bl (decide (x = "BadNights")), V.bl (decide (x = "Elder"))]))) p1 (.lst ([V.bl (decide (x = "BadRounds")), V.bl (decide (x = "BadNight")), V.bl (decide (x = "BadNumber"))] ++ [V.bl (decide (x = "BadRules")), V.bl (decide (x = "BadNights")), V.bl (decide (x = "Elder"))]))) p1 = some (.lst ([V.bl (decide (x = "BadRounds")), V.bl (decide (x = "BadNight")), V.bl (decide (x = "BadNumber")), V.bl (decide (x = "BadRules")), V.bl (decide (x = "BadNights")), V.bl (decide (x = "Elder"))])) := upd_same
    revert hl1 v0
    generalize upd (upd H0 q0 (.lst ([V.bl (decide (x = "BadRules")), V.bl (decide (x = "BadNights")), V.bl (decide (x = "Elder"))]))) p1 (.lst ([V.bl (decide (x = "BadRounds")), V.bl (decide (x = "BadNight")), V.bl (decide (x = "BadNumber"))] ++ [V.bl (decide (x = "BadRules")), V.bl (decide (x = "BadNights")), V.bl (decide (x = "Elder"))])) = H1
    intro s1 hl1
    have ha1 := s1 _ _ ha
    have hd1 : ∀ dd, d = some dd → ∃ fs, H1 dd = some (.xd fs) := fun dd e => by obtain ⟨fs, h⟩ := hd dd e; exact ⟨fs, s1 _ _ h⟩
    walk_at "rt"
    subst hK_
    first | with_reducible refine seq_k fun K_ hK_ => ?_ | skip
    walk_at "rt"
    refine isx_of T ha1 hd1 hx (by decide) ?_
    refine isx_of T ha1 hd1 hx (by decide) ?_
    refine isx_of T ha1 hd1 hx (by decide) ?_
    intro q1 hq1
    have u1 := same_upd (o := .lst ([V.bl (decide (x = "Full")), V.bl (decide (x = "NotHeld")), V.bl (decide (x = "Pinned"))])) hq1
    refine ⟨p1, q1, _, _, rfl, rfl, u1 _ _ hl1, upd_same, sz (by simp), fun p2 hp2 => ?_⟩
    have v1 := s1.trans (u1.trans (same_upd (o := .lst ([V.bl (decide (x = "BadRounds")), V.bl (decide (x = "BadNight")), V.bl (decide (x = "BadNumber")), V.bl (decide (x = "BadRules")), V.bl (decide (x = "BadNights")), V.bl (decide (x = "Elder"))] ++ [V.bl (decide (x = "Full")), V.bl (decide (x = "NotHeld")), V.bl (decide (x = "Pinned"))])) hp2))
    have hl2 : (upd (upd H1 q1 (.lst ([V.bl (decide (x = "Full")), V.bl (decide (x = "NotHeld")), V.bl (decide (x = "Pinned"))]))) p2 (.lst ([V.bl (decide (x = "BadRounds")), V.bl (decide (x = "BadNight")), V.bl (decide (x = "BadNumber")), V.bl (decide (x = "BadRules")), V.bl (decide (x = "BadNights")), V.bl (decide (x = "Elder"))] ++ [V.bl (decide (x = "Full")), V.bl (decide (x = "NotHeld")), V.bl (decide (x = "Pinned"))]))) p2 = some (.lst ([V.bl (decide (x = "BadRounds")), V.bl (decide (x = "BadNight")), V.bl (decide (x = "BadNumber")), V.bl (decide (x = "BadRules")), V.bl (decide (x = "BadNights")), V.bl (decide (x = "Elder")), V.bl (decide (x = "Full")), V.bl (decide (x = "NotHeld")), V.bl (decide (x = "Pinned"))])) := upd_same
    revert hl2 v1
    generalize upd (upd H1 q1 (.lst ([V.bl (decide (x = "Full")), V.bl (decide (x = "NotHeld")), V.bl (decide (x = "Pinned"))]))) p2 (.lst ([V.bl (decide (x = "BadRounds")), V.bl (decide (x = "BadNight")), V.bl (decide (x = "BadNumber")), V.bl (decide (x = "BadRules")), V.bl (decide (x = "BadNights")), V.bl (decide (x = "Elder"))] ++ [V.bl (decide (x = "Full")), V.bl (decide (x = "NotHeld")), V.bl (decide (x = "Pinned"))])) = H2
    intro s2 hl2
    have ha2 := s2 _ _ ha
    have hd2 : ∀ dd, d = some dd → ∃ fs, H2 dd = some (.xd fs) := fun dd e => by obtain ⟨fs, h⟩ := hd dd e; exact ⟨fs, s2 _ _ h⟩
    walk_at "rt"
    subst hK_
    first | with_reducible refine seq_k fun K_ hK_ => ?_ | skip
    walk_at "rt"
    refine isx_of T ha2 hd2 hx (by decide) ?_
    refine isx_of T ha2 hd2 hx (by decide) ?_
    refine isx_of T ha2 hd2 hx (by decide) ?_
    intro q2 hq2
    have u2 := same_upd (o := .lst ([V.bl (decide (x = "NotPinned")), V.bl (decide (x = "BadState")), V.bl (decide (x = "BadPart"))])) hq2
    refine ⟨p2, q2, _, _, rfl, rfl, u2 _ _ hl2, upd_same, sz (by simp), fun p3 hp3 => ?_⟩
    have v2 := s2.trans (u2.trans (same_upd (o := .lst ([V.bl (decide (x = "BadRounds")), V.bl (decide (x = "BadNight")), V.bl (decide (x = "BadNumber")), V.bl (decide (x = "BadRules")), V.bl (decide (x = "BadNights")), V.bl (decide (x = "Elder")), V.bl (decide (x = "Full")), V.bl (decide (x = "NotHeld")), V.bl (decide (x = "Pinned"))] ++ [V.bl (decide (x = "NotPinned")), V.bl (decide (x = "BadState")), V.bl (decide (x = "BadPart"))])) hp3))
    have hl3 : (upd (upd H2 q2 (.lst ([V.bl (decide (x = "NotPinned")), V.bl (decide (x = "BadState")), V.bl (decide (x = "BadPart"))]))) p3 (.lst ([V.bl (decide (x = "BadRounds")), V.bl (decide (x = "BadNight")), V.bl (decide (x = "BadNumber")), V.bl (decide (x = "BadRules")), V.bl (decide (x = "BadNights")), V.bl (decide (x = "Elder")), V.bl (decide (x = "Full")), V.bl (decide (x = "NotHeld")), V.bl (decide (x = "Pinned"))] ++ [V.bl (decide (x = "NotPinned")), V.bl (decide (x = "BadState")), V.bl (decide (x = "BadPart"))]))) p3 = some (.lst ([V.bl (decide (x = "BadRounds")), V.bl (decide (x = "BadNight")), V.bl (decide (x = "BadNumber")), V.bl (decide (x = "BadRules")), V.bl (decide (x = "BadNights")), V.bl (decide (x = "Elder")), V.bl (decide (x = "Full")), V.bl (decide (x = "NotHeld")), V.bl (decide (x = "Pinned")), V.bl (decide (x = "NotPinned")), V.bl (decide (x = "BadState")), V.bl (decide (x = "BadPart"))])) := upd_same
    revert hl3 v2
    generalize upd (upd H2 q2 (.lst ([V.bl (decide (x = "NotPinned")), V.bl (decide (x = "BadState")), V.bl (decide (x = "BadPart"))]))) p3 (.lst ([V.bl (decide (x = "BadRounds")), V.bl (decide (x = "BadNight")), V.bl (decide (x = "BadNumber")), V.bl (decide (x = "BadRules")), V.bl (decide (x = "BadNights")), V.bl (decide (x = "Elder")), V.bl (decide (x = "Full")), V.bl (decide (x = "NotHeld")), V.bl (decide (x = "Pinned"))] ++ [V.bl (decide (x = "NotPinned")), V.bl (decide (x = "BadState")), V.bl (decide (x = "BadPart"))])) = H3
    intro s3 hl3
    have ha3 := s3 _ _ ha
    have hd3 : ∀ dd, d = some dd → ∃ fs, H3 dd = some (.xd fs) := fun dd e => by obtain ⟨fs, h⟩ := hd dd e; exact ⟨fs, s3 _ _ h⟩
    walk_at "rt"
    subst hK_
    first | with_reducible refine seq_k fun K_ hK_ => ?_ | skip
    walk_at "rt"
    refine isx_of T ha3 hd3 hx (by decide) ?_
    refine isx_of T ha3 hd3 hx (by decide) ?_
    refine isx_of T ha3 hd3 hx (by decide) ?_
    intro q3 hq3
    have u3 := same_upd (o := .lst ([V.bl (decide (x = "NotFit")), V.bl (decide (x = "IsWhole")), V.bl (decide (x = "BadPlan"))])) hq3
    refine ⟨p3, q3, _, _, rfl, rfl, u3 _ _ hl3, upd_same, sz (by simp), fun p4 hp4 => ?_⟩
    have v3 := s3.trans (u3.trans (same_upd (o := .lst ([V.bl (decide (x = "BadRounds")), V.bl (decide (x = "BadNight")), V.bl (decide (x = "BadNumber")), V.bl (decide (x = "BadRules")), V.bl (decide (x = "BadNights")), V.bl (decide (x = "Elder")), V.bl (decide (x = "Full")), V.bl (decide (x = "NotHeld")), V.bl (decide (x = "Pinned")), V.bl (decide (x = "NotPinned")), V.bl (decide (x = "BadState")), V.bl (decide (x = "BadPart"))] ++ [V.bl (decide (x = "NotFit")), V.bl (decide (x = "IsWhole")), V.bl (decide (x = "BadPlan"))])) hp4))
    have hl4 : (upd (upd H3 q3 (.lst ([V.bl (decide (x = "NotFit")), V.bl (decide (x = "IsWhole")), V.bl (decide (x = "BadPlan"))]))) p4 (.lst ([V.bl (decide (x = "BadRounds")), V.bl (decide (x = "BadNight")), V.bl (decide (x = "BadNumber")), V.bl (decide (x = "BadRules")), V.bl (decide (x = "BadNights")), V.bl (decide (x = "Elder")), V.bl (decide (x = "Full")), V.bl (decide (x = "NotHeld")), V.bl (decide (x = "Pinned")), V.bl (decide (x = "NotPinned")), V.bl (decide (x = "BadState")), V.bl (decide (x = "BadPart"))] ++ [V.bl (decide (x = "NotFit")), V.bl (decide (x = "IsWhole")), V.bl (decide (x = "BadPlan"))]))) p4 = some (.lst ([V.bl (decide (x = "BadRounds")), V.bl (decide (x = "BadNight")), V.bl (decide (x = "BadNumber")), V.bl (decide (x = "BadRules")), V.bl (decide (x = "BadNights")), V.bl (decide (x = "Elder")), V.bl (decide (x = "Full")), V.bl (decide (x = "NotHeld")), V.bl (decide (x = "Pinned")), V.bl (decide (x = "NotPinned")), V.bl (decide (x = "BadState")), V.bl (decide (x = "BadPart")), V.bl (decide (x = "NotFit")), V.bl (decide (x = "IsWhole")), V.bl (decide (x = "BadPlan"))])) := upd_same
    revert hl4 v3
    generalize upd (upd H3 q3 (.lst ([V.bl (decide (x = "NotFit")), V.bl (decide (x = "IsWhole")), V.bl (decide (x = "BadPlan"))]))) p4 (.lst ([V.bl (decide (x = "BadRounds")), V.bl (decide (x = "BadNight")), V.bl (decide (x = "BadNumber")), V.bl (decide (x = "BadRules")), V.bl (decide (x = "BadNights")), V.bl (decide (x = "Elder")), V.bl (decide (x = "Full")), V.bl (decide (x = "NotHeld")), V.bl (decide (x = "Pinned")), V.bl (decide (x = "NotPinned")), V.bl (decide (x = "BadState")), V.bl (decide (x = "BadPart"))] ++ [V.bl (decide (x = "NotFit")), V.bl (decide (x = "IsWhole")), V.bl (decide (x = "BadPlan"))])) = H4
    intro s4 hl4
    have ha4 := s4 _ _ ha
    have hd4 : ∀ dd, d = some dd → ∃ fs, H4 dd = some (.xd fs) := fun dd e => by obtain ⟨fs, h⟩ := hd dd e; exact ⟨fs, s4 _ _ h⟩
    walk_at "rt"
    subst hK_
    first | with_reducible refine seq_k fun K_ hK_ => ?_ | skip
    walk_at "rt"
    refine isx_of T ha4 hd4 hx (by decide) ?_
    refine isx_of T ha4 hd4 hx (by decide) ?_
    intro q4 hq4
    have u4 := same_upd (o := .lst ([V.bl (decide (x = "Unlike")), V.bl (decide (x = "BadText"))])) hq4
    refine ⟨p4, q4, _, _, rfl, rfl, u4 _ _ hl4, upd_same, sz (by simp), fun p5 hp5 => ?_⟩
    have v4 := s4.trans (u4.trans (same_upd (o := .lst ([V.bl (decide (x = "BadRounds")), V.bl (decide (x = "BadNight")), V.bl (decide (x = "BadNumber")), V.bl (decide (x = "BadRules")), V.bl (decide (x = "BadNights")), V.bl (decide (x = "Elder")), V.bl (decide (x = "Full")), V.bl (decide (x = "NotHeld")), V.bl (decide (x = "Pinned")), V.bl (decide (x = "NotPinned")), V.bl (decide (x = "BadState")), V.bl (decide (x = "BadPart")), V.bl (decide (x = "NotFit")), V.bl (decide (x = "IsWhole")), V.bl (decide (x = "BadPlan"))] ++ [V.bl (decide (x = "Unlike")), V.bl (decide (x = "BadText"))])) hp5))
    have hl5 : (upd (upd H4 q4 (.lst ([V.bl (decide (x = "Unlike")), V.bl (decide (x = "BadText"))]))) p5 (.lst ([V.bl (decide (x = "BadRounds")), V.bl (decide (x = "BadNight")), V.bl (decide (x = "BadNumber")), V.bl (decide (x = "BadRules")), V.bl (decide (x = "BadNights")), V.bl (decide (x = "Elder")), V.bl (decide (x = "Full")), V.bl (decide (x = "NotHeld")), V.bl (decide (x = "Pinned")), V.bl (decide (x = "NotPinned")), V.bl (decide (x = "BadState")), V.bl (decide (x = "BadPart")), V.bl (decide (x = "NotFit")), V.bl (decide (x = "IsWhole")), V.bl (decide (x = "BadPlan"))] ++ [V.bl (decide (x = "Unlike")), V.bl (decide (x = "BadText"))]))) p5 = some (.lst ([V.bl (decide (x = "BadRounds")), V.bl (decide (x = "BadNight")), V.bl (decide (x = "BadNumber")), V.bl (decide (x = "BadRules")), V.bl (decide (x = "BadNights")), V.bl (decide (x = "Elder")), V.bl (decide (x = "Full")), V.bl (decide (x = "NotHeld")), V.bl (decide (x = "Pinned")), V.bl (decide (x = "NotPinned")), V.bl (decide (x = "BadState")), V.bl (decide (x = "BadPart")), V.bl (decide (x = "NotFit")), V.bl (decide (x = "IsWhole")), V.bl (decide (x = "BadPlan")), V.bl (decide (x = "Unlike")), V.bl (decide (x = "BadText"))])) := upd_same
    revert hl5 v4
    generalize upd (upd H4 q4 (.lst ([V.bl (decide (x = "Unlike")), V.bl (decide (x = "BadText"))]))) p5 (.lst ([V.bl (decide (x = "BadRounds")), V.bl (decide (x = "BadNight")), V.bl (decide (x = "BadNumber")), V.bl (decide (x = "BadRules")), V.bl (decide (x = "BadNights")), V.bl (decide (x = "Elder")), V.bl (decide (x = "Full")), V.bl (decide (x = "NotHeld")), V.bl (decide (x = "Pinned")), V.bl (decide (x = "NotPinned")), V.bl (decide (x = "BadState")), V.bl (decide (x = "BadPart")), V.bl (decide (x = "NotFit")), V.bl (decide (x = "IsWhole")), V.bl (decide (x = "BadPlan"))] ++ [V.bl (decide (x = "Unlike")), V.bl (decide (x = "BadText"))])) = H5
    intro s5 hl5
    have ha5 := s5 _ _ ha
    have hd5 : ∀ dd, d = some dd → ∃ fs, H5 dd = some (.xd fs) := fun dd e => by obtain ⟨fs, h⟩ := hd dd e; exact ⟨fs, s5 _ _ h⟩
    walk_at "rt"
    subst hK_
    first | with_reducible refine seq_k fun K_ hK_ => ?_ | skip
    walk_at "rt"
    have h17 : j < 17 := lt_of_get hj
    have e17 : exNames.getD j "" = x := by rw [List.getD_eq_getElem?_getD, hj]; rfl
    have hcnt := ex_count j (List.mem_range.mpr h17)
    rw [e17] at hcnt
    have fl : ∀ l : List Str, (l.map fun y => V.bl (decide (x = y))).all flatV = true := fun l => by
      rw [List.all_map, List.all_eq_true]
      exact fun _ _ => rfl
    refine ⟨tyL hl5, p5, exNames.map (fun y => V.bl (decide (x = y))), .bl true, rfl, rfl, sqL hl5, rfl, fl _, ?_⟩
    rw [hcnt]
    refine ⟨rfl, ?_⟩
    rw [if_pos (show V.int ((1 : Nat) : Int) = V.int 1 from rfl)]
    refine ⟨tyL hl5, p5, exNames.map (fun y => V.bl (decide (x = y))), .bl true, j, .bl true, rfl, rfl, sqL hl5, rfl, fl _, ?_, rfl, fun m z hm hz => ?_, q H5 s5⟩
    · rw [List.getElem?_map, hj]
      simp
    · rw [List.getElem?_map] at hz
      cases e : exNames[m]? with
      | none => rw [e] at hz; cases hz
      | some y =>
        rw [e] at hz
        cases hz
        have h17' : m < 17 := lt_of_get e
        have e17' : exNames.getD m "" = y := by rw [List.getD_eq_getElem?_getD, e]; rfl
        have : x ≠ y := fun z => by
          have := ex_at j (List.mem_range.mpr h17) m (List.mem_range.mpr h17') (by rw [e17, e17', z])
          omega
        simp [this, eqV]
/-- the word of a kind -/
def exWords : List Str := ["rounds", "night", "number", "rules", "nights", "elder", "full", "held", "pinned", "not pinned", "state", "part", "fit", "whole", "plan", "unlike", "text"]
theorem wd_at : ∀ j ∈ List.range 17, ∀ m ∈ List.range 17, exWords.getD j "" = exWords.getD m "" → j = m := by decide +kernel
abbrev nm__law_refused : List Str := ["word", "words"]
abbrev pm__law_refused : List Str := ["word"]
abbrev lv__law_refused : Nat := 1
theorem sc__law_refused : FnScope nm__law_refused pm__law_refused (defScope s__law_refused) := ⟨rfl, rfl, rfl, by decide +kernel, rfl, by decide +kernel, by decide +kernel⟩
def sp__law_refused : Sp := fun vs H Q _ => ∃ (x : Str) (j : Nat), vs = [.str x] ∧ exWords[j]? = some x ∧ ∀ p H', Same H H' → H p = none → H' p = some (.tup [.str "refused", .int j]) → Q (.ref p) H'
theorem f__law_refused (T : Txt K mg) : Fk P w K mg base CX0 lv__law_refused "_law_refused" pm__law_refused sp__law_refused := by
  obtain ⟨f, fd, F, g, b⟩ := T.d__law_refused.ex
  refine ⟨f, fd, g, F.kp, b, F.ok sc__law_refused (fun vs H Q E h => ?_) (fun cdv A outer s H vs Q E hr h => ?_)⟩
  · obtain ⟨x, j, rfl, _⟩ := h; rfl
  · obtain ⟨x, j, rfl, hj, q⟩ := h
    refine ⟨_, (pss_cons (ps_set (i := 1) sc__law_refused.nd rfl (.inl rfl) (pe_lst (pa_cons pe_str (pa_cons pe_str (pa_cons pe_str (pa_cons pe_str (pa_cons pe_str (pa_cons pe_str (pa_cons pe_str (pa_cons pe_str (pa_cons pe_str (pa_cons pe_str (pa_cons pe_str pa_nil)))))))))))))
      (pss_cons (ps_set (i := 1) sc__law_refused.nd rfl (.inl rfl) (pe_op op_cat (pv 1) (pe_lst (pa_cons pe_str (pa_cons pe_str (pa_cons pe_str (pa_cons pe_str (pa_cons pe_str (pa_cons pe_str pa_nil)))))))))
      (pss_one (ps_ret (pe_tup (pa_cons pe_str (pa_cons (pe_bm PySem.F.plainAttrs_list PySem.F.slot_list_index PySem.F.type_list_index mt_index (pv 1) (pa_cons (pv 0) pa_nil)) pa_nil))))))), ?_⟩
    with_reducible refine seq_k fun K_ hK_ => ?_
    walk_at "rt"
    intro p0 hp0
    walk_at "rt"
    subst hK_
    first | with_reducible refine seq_k fun K_ hK_ => ?_ | skip
    walk_at "rt"
    intro q0 hq0
    have u0 := (same_upd (o := .lst ((exWords.take 11).map V.str)) hp0).trans (same_upd (o := .lst ((exWords.drop 11).map V.str)) hq0)
    refine ⟨p0, q0, (exWords.take 11).map V.str, (exWords.drop 11).map V.str, rfl, rfl, (same_upd hq0) _ _ upd_same, upd_same, sz (by decide), fun p1 hp1 => ?_⟩
    have s1 := u0.trans (same_upd (o := .lst (exWords.map V.str)) hp1)
    walk_at "rt"
    subst hK_
    first | with_reducible refine seq_k fun K_ hK_ => ?_ | skip
    walk_at "rt"
    have h17 : j < 17 := lt_of_get hj
    have e17 : exWords.getD j "" = x := by rw [List.getD_eq_getElem?_getD, hj]; rfl
    have fl : (exWords.map V.str).all flatV = true := by decide +kernel
    refine ⟨tyL (xs := exWords.map V.str) upd_same, p1, exWords.map V.str, .str x, j, .str x, rfl, rfl, sqL upd_same, rfl, fl, by rw [List.getElem?_map, hj]; rfl, by simp [eqV], fun m z hm hz => ?_, ?_⟩
    · rw [List.getElem?_map] at hz
      cases e : exWords[m]? with
      | none => rw [e] at hz; cases hz
      | some y =>
        rw [e] at hz
        cases hz
        have h17' : m < 17 := lt_of_get e
        have e17' : exWords.getD m "" = y := by rw [List.getD_eq_getElem?_getD, e]; rfl
        have : y ≠ x := fun z => by
          have := wd_at j (List.mem_range.mpr h17) m (List.mem_range.mpr h17') (by rw [e17, e17', z])
          omega
        simp [this, eqV]
    · intro p2 hp2
      exact q p2 _ (s1.trans (same_upd hp2)) (s1.free hp2) upd_same
end
end Nk
namespace Nk
open PySem L2
section
variable {P : Program} {w : World} {K : PySem.W.Frag} {mg : Str → Option Value} {base : Heap}
abbrev nm__law_one : List Str := ["kind", "some"]
abbrev pm__law_one : List Str := ["kind", "some"]
abbrev lv__law_one : Nat := 6
theorem sc__law_one : FnScope nm__law_one pm__law_one (defScope s__law_one) := ⟨rfl, rfl, rfl, by decide +kernel, rfl, by decide +kernel, by decide +kernel⟩
def sp__law_one (K : PySem.W.Frag) (mg : Str → Option Value) : Sp := fun vs H Q E => ∃ (k : Int) (x : V), vs = [.int k, x] ∧ sp_full K mg [x] H Q E
theorem one_mono {vs : List V} {H : Hp} {Q Q' : VK} {E E' : XK} (h : sp__law_one K mg vs H Q E) (hq : ∀ v H1, Q v H1 → Q' v H1) (he : ∀ c d H1, E c d H1 → E' c d H1) : sp__law_one K mg vs H Q' E' := by
  obtain ⟨k, x, h1, y, h2, h3, h4, h5⟩ := h
  refine ⟨k, x, h1, y, h2, h3, fun e H' s => he _ _ _ (h4 e H' s), fun e => ?_⟩
  obtain ⟨a, rus, h6, h7, h8, h9⟩ := h5 e
  exact ⟨a, rus, h6, h7, fun c H' s => he _ _ _ (h8 c H' s), fun c p lg b i H' s hp hP hl hb => hq _ _ (h9 c p lg b i H' s hp hP hl hb)⟩
theorem f__law_one (T : Txt K mg) : Fk P w K mg base (L2.CX P w) lv__law_one "_law_one" pm__law_one (sp__law_one K mg) := by
  obtain ⟨f, fd, F, g, b⟩ := T.d__law_one.ex
  refine ⟨f, fd, g, F.kp, b, F.okX sc__law_one (fun vs H Q E h => ?_) (fun cdv A outer s H vs Q E hr h => ?_)⟩
  · obtain ⟨k, x, rfl, _⟩ := h; rfl
  · obtain ⟨k, x, rfl, h⟩ := h
    refine ⟨_, (pss_one (ps_ret (pe_fn (f_full T) (hr.mono (by decide)) (by rfl) (passX (takes_of rfl rfl rfl rfl)) (pa_cons (pv 1) pa_nil)))), ?_⟩
    walk_at "rt"
    exact h
abbrev nm__law_counts : List Str := ["rules", "many", "found", "night", "some", "rounds", "count", "at", "k"]
abbrev pm__law_counts : List Str := ["rules", "many"]
abbrev lv__law_counts : Nat := 2
theorem sc__law_counts : FnScope nm__law_counts pm__law_counts (defScope s__law_counts) := ⟨rfl, rfl, rfl, by decide +kernel, rfl, by decide +kernel, by decide +kernel⟩
def sp__law_counts : Sp := fun vs H Q _ => ∃ (a : Addr) (rus : List (List Int × Int)) (many : Int), vs = [.ref a, .int many] ∧ RulesAt H a rus ∧ 0 ≤ many ∧ many ≤ 1000 ∧
  ∀ p H', Same H H' → H p = none → H' p = some (.lst (((List.range many.toNat).map fun k : Nat => (cnt rus k : Int)).map V.int)) → Q (.ref p) H'
def iv_counts (a p : Addr) (rus : List (List Int × Int)) (many : Int) (H : Hp) (i : Nat) (σ : L2.St) (H' : Hp) : Prop :=
  ∃ y3 y4 y5 y6 y7 y8, σ = [some (.ref a), some (.int many), some (.ref p), y3, y4, y5, y6, y7, y8] ∧ Same H H' ∧ H' p = some (.lst (((List.range i).map fun k : Nat => (cnt rus k : Int)).map V.int))
def iv_counts2 (a p d : Addr) (rus : List (List Int × Int)) (many n : Int) (H : Hp) (l : List V) (i : Nat) (σ : L2.St) (H' : Hp) : Prop :=
  ∃ y5 y6 y7 y8 kvs ks, σ = [some (.ref a), some (.int many), some (.ref p), some (.int n), some (.ref d), y5, y6, y7, y8] ∧ Same H H' ∧ H' p = some (.lst l) ∧ H' d = some (.dK kvs) ∧ IK kvs ks ∧ ks.length ≤ 1 + 20 * i ∧ ∀ m, m ∈ ks ↔ m = n ∨ ∃ ru ∈ rus.take i, standBy ru n m
def iv_counts3 (a p d r : Addr) (ru : List Int × Int) (many n : Int) (H : Hp) (l : List V) (ks0 : List Int) (i : Nat) (k : Nat) (σ : L2.St) (H' : Hp) : Prop :=
  ∃ (at_ : Int) (dn : List Int) (y8 : Option V) (kvs : List (Key × V)) (ks : List Int), σ = [some (.ref a), some (.int many), some (.ref p), some (.int n), some (.ref d), some (.ref r), some (.int ru.2), some (.int at_), y8] ∧ Same H H' ∧ H' p = some (.lst l) ∧ H' d = some (.dK kvs) ∧ IK kvs ks ∧ ks.length ≤ 1 + 20 * i + k ∧
    (∀ m, m ∈ ks ↔ m ∈ ks0 ∨ m ∈ dn) ∧ dn ++ back ru.1 (ru.2.toNat - k) at_ = back ru.1 ru.2.toNat n
theorem f__law_counts (T : Txt K mg) : Fk P w K mg base CX0 lv__law_counts "_law_counts" pm__law_counts sp__law_counts := by
  obtain ⟨f, fd, F, g, b⟩ := T.d__law_counts.ex
  refine ⟨f, fd, g, F.kp, b, F.ok sc__law_counts (fun vs H Q E h => ?_) (fun cdv A outer s H vs Q E hr h => ?_)⟩
  · obtain ⟨a, rus, many, rfl, _⟩ := h; rfl
  · obtain ⟨a, rus, many, rfl, hR, m0, m1, q⟩ := h
    have hu := hu_of hr
    refine ⟨_, (pss_cons (ps_set (i := 2) sc__law_counts.nd rfl (.inl rfl) (pe_lst pa_nil))
      (pss_cons (ps_for PassesOwn.never rfl (pi_range1 (by rfl) T.b_range (pa_cons (pv 1) pa_nil)) (pg_name (i := 3) sc__law_counts.nd rfl (Or.inl rfl)) (pss_cons (ps_set (i := 4) sc__law_counts.nd rfl (.inl rfl) (pe_disp (pps_cons (pv 3) pe_bl pps_nil) (by rfl) (by rfl) (fun z => by cases z) (by decide)))
      (pss_cons (ps_for PassesOwn.never rfl (pi_tup (pv 0)) (pg_tup rfl (pgs_cons (pg_name (i := 5) sc__law_counts.nd rfl (Or.inl rfl)) (pgs_cons (pg_name (i := 6) sc__law_counts.nd rfl (Or.inl rfl)) pgs_nil))) (pss_cons (ps_set (i := 7) sc__law_counts.nd rfl (.inl rfl) (pv 3))
      (pss_one (ps_for PassesOwn.never rfl (pi_range1 (by rfl) T.b_range (pa_cons (pv 6) pa_nil)) (pg_name (i := 8) sc__law_counts.nd rfl (Or.inl rfl)) (pss_one (ps_if (pt_cmpR op_ge (pv 7) pe_int (nomark _)) (pss_cons (ps_dput hu (pv 4) (pv 7) pe_bl rfl)
      (pss_one (ps_set (i := 7) sc__law_counts.nd rfl (.inl rfl) (pe_op op_sub (pe_ix ix_tup (pe_fn (f__law_spot T) (hr.mono (by decide)) (by rfl) pass0 (pa_cons (pv 5) (pa_cons (pv 7) pa_nil))) pe_int (fun _ _ => rfl)) pe_int)))) pss_nil))))))
      (pss_one (ps_expr (pe_bm PySem.F.plainAttrs_list PySem.F.slot_list_append PySem.F.type_list_append mt_append (pv 2) (pa_cons (pe_callB call_lenD (by rfl) T.b_len PySem.boot_len (pa_cons (pv 4) pa_nil)) pa_nil)))))))
      (pss_one (ps_ret (pv 2))))), ?_⟩
    have hrn := hR.rnds
    obtain ⟨xs, hxs, hxl, hxr⟩ := hR.ex
    have hrne : rus ≠ [] := List.length_pos_iff.mp (by have := hR.l1; omega)
    have hrr : ∀ ru ∈ rus, Rnds ru.1 ∧ 1 ≤ ru.2 := fun ru h => ⟨(hrn ru h).1, (hrn ru h).2.1⟩
    have hl5 := hR.l5
    with_reducible refine seq_k fun K_ hK_ => ?_
    walk_at "rt"
    intro p hp
    walk_at "rt"
    subst hK_
    first | with_reducible refine seq_k fun K_ hK_ => ?_ | skip
    walk_at "rt"
    refine ⟨by omega, by omega, for_range (lo := 0) (n := many.toNat) (iv_counts a p rus many H) ⟨none, none, none, none, none, none, rfl, same_upd hp, upd_same⟩ ?_ ?_⟩
    · rintro i σ H1 hi ⟨y3, y4, y5, y6, y7, y8, rfl, s1, hp1⟩
      rw [Int.zero_add]
      walk_at "rt"
      with_reducible refine seq_k fun K_ hK_ => ?_
      walk_at "rt"
      intro d hd
      refine ⟨upd_same, [(Sum.inl (i : Int), .bl true)], rfl, by simp, ?_⟩
      have hm0 : mergeK [] [((Sum.inl (i : Int) : Key), V.bl true)] = [((Sum.inl (i : Int) : Key), V.bl true)] := rfl
      rw [hm0, upd_upd]
      have sD : Same H1 (upd H1 d (.dK [((Sum.inl (i : Int) : Key), V.bl true)])) := same_upd hd
      have hpd : p ≠ d := ne_of_none hp1 hd
      have hxs1 := s1 _ _ hxs
      walk_at "rt"
      subst hK_
      first | with_reducible refine seq_k fun K_ hK_ => ?_ | skip
      walk_at "rt"
      refine ⟨⟨_, sqT (sD _ _ hxs1)⟩, for_tup (K := K) (a := a) (xs := xs) (iv_counts2 a p d rus many i H1 (((List.range i).map fun k : Nat => (cnt rus k : Int)).map V.int))
        ⟨y5, y6, y7, y8, _, [(i : Int)], rfl, sD, sD _ _ hp1, upd_same, ⟨rfl, by simp⟩, by simp, fun m => by simp⟩ (fun j σ H2 _ p => ?_) ?_ ?_⟩
      · obtain ⟨_, _, _, _, _, _, _, s2, _⟩ := p
        exact sqT (s2 _ _ hxs1)
      · rintro j x σ H2 hx ⟨y5, y6, y7, y8, kvs, ks, rfl, s2, hp2, hd2, hik, hkl, hmem⟩
        obtain ⟨ru, hru, b1, r1, rfl, hb1, hr1, h1, h20⟩ := hxr j x hx
        have s12 := s1.trans s2
        have hj := lt_of_get hru
        refine ⟨b1, _, rfl, sqT (s12 _ _ hb1), rfl, ?_⟩
        walk_at "rt"
        with_reducible refine seq_k fun K_ hK_ => ?_
        walk_at "rt"
        walk_at "rt"
        subst hK_
        first | with_reducible refine seq_k fun K_ hK_ => ?_ | skip
        walk_at "rt"
        refine ⟨by omega, by omega, for_range (lo := 0) (n := ru.2.toNat) (iv_counts3 a p d r1 ru many i H1 (((List.range i).map fun k : Nat => (cnt rus k : Int)).map V.int) ks j)
          ⟨i, [], y8, kvs, ks, rfl, s2, hp2, hd2, hik, by omega, fun m => by simp, by simp⟩ ?_ ?_⟩
        · rintro k σ H3 hk ⟨at_, dn, y8, kvs3, ks3, rfl, s3, hp3, hd3, hik3, hkl3, hmem3, hdn⟩
          obtain ⟨e, he⟩ : ∃ e, ru.2.toNat - k = e + 1 := ⟨ru.2.toNat - k - 1, by omega⟩
          rw [he] at hdn
          have he2 : ru.2.toNat - (k + 1) = e := by omega
          walk_at "rt"
          refine ite2 (fun c1 => ?_) (fun c1 => ?_)
          · have hkl := hik3.len
            obtain ⟨ks8, g1, g2, g3⟩ := ik_put hik3 at_ (.bl true)
            with_reducible refine seq_k fun K_ hK_ => ?_
            walk_at "rt"
            refine ⟨_, DPut.k (k := Sum.inl at_) hd3 (szl (by omega)), ?_⟩
            have s4 := Same.app (o := .dK (putK kvs3 (Sum.inl at_) (.bl true))) s3 hd
            walk_at "rt"
            subst hK_
            first | with_reducible refine seq_k fun K_ hK_ => ?_ | skip
            walk_at "rt"
            refine ⟨r1, ru.1, at_, rfl, (hr1.same s1).same s4, fun t H5 s5 _ ht => ?_⟩
            refine ixT (j := 1) (sqT ht) rfl rfl ?_
            walk_at "rt"
            refine ⟨_, dn ++ [at_], _, _, ks8, rfl, s4.trans s5, s5 _ _ (by rw [upd_ne hpd]; exact hp3), s5 _ _ upd_same, g1, by omega, fun m => ?_, ?_⟩
            · rw [g2, hmem3, List.mem_append, List.mem_singleton, or_assoc]
            · rw [he2, ← hdn]
              simp only [back]
              rw [if_neg (by omega), List.append_assoc]
              rfl
          · refine ⟨at_, dn, _, kvs3, ks3, rfl, s3, hp3, hd3, hik3, by omega, hmem3, ?_⟩
            rw [he2, ← hdn]
            have z1 : back ru.1 (e + 1) at_ = [] := by simp only [back]; rw [if_pos (by omega)]
            have z2 : back ru.1 e at_ = [] := by cases e with
              | zero => rfl
              | succ e => simp only [back]; rw [if_pos (by omega)]
            rw [z1, z2]
        · rintro σ H3 ⟨at_, dn, y8, kvs3, ks3, rfl, s3, hp3, hd3, hik3, hkl3, hmem3, hdn⟩
          rw [Nat.sub_self] at hdn
          have hdn : dn = back ru.1 ru.2.toNat i := by rw [← hdn]; simp [back]
          refine ⟨_, _, _, _, kvs3, ks3, rfl, s3, hp3, hd3, hik3, by omega, fun m => ?_⟩
          rw [hmem3, hmem, hdn, mem_back hr1.ok h1 (by omega), take_next hru]
          constructor
          · rintro ((h | ⟨ru', h1, h2⟩) | h)
            · exact .inl h
            · exact .inr ⟨ru', List.mem_append_left _ h1, h2⟩
            · exact .inr ⟨ru, List.mem_append_right _ List.mem_cons_self, h⟩
          · rintro (h | ⟨ru', h1, h2⟩)
            · exact .inl (.inl h)
            · rcases List.mem_append.mp h1 with h1 | h1
              · exact .inl (.inr ⟨ru', h1, h2⟩)
              · rw [List.mem_singleton.mp h1] at h2
                exact .inr h2
      · rintro σ H2 ⟨y5, y6, y7, y8, kvs, ks, rfl, s2, hp2, hd2, hik, hkl, hmem⟩
        rw [hxl, List.take_length] at hmem
        have hc := cnt_nodup hrr hrne (n := (i : Int)) (by omega) hik.nd fun m => by
          rw [hmem, standS_iff hrne]
          constructor
          · rintro (h | h)
            · obtain ⟨ru, hru⟩ := List.exists_mem_of_ne_nil rus hrne
              exact ⟨ru, hru, .inl h⟩
            · exact h
          · exact .inr
        walk_at "rt"
        subst hK_
        first | with_reducible refine seq_k fun K_ hK_ => ?_ | skip
        walk_at "rt"
        refine ⟨tyL hp2, kvs, hd2, appR hp2 (by simp; omega) ?_⟩
        refine ⟨_, _, _, _, _, _, rfl, Same.app (s1.trans s2) hp, ?_⟩
        rw [upd_same, hik.len, hc, List.range_succ, List.map_append, List.map_append]
        rfl
    · rintro σ H1 ⟨y3, y4, y5, y6, y7, y8, rfl, s1, hp1⟩
      walk_at "rt"
      subst hK_
      first | with_reducible refine seq_k fun K_ hK_ => ?_ | skip
      walk_at "rt"
      exact q p H1 s1 hp hp1
end
end Nk
namespace Nk
open PySem L2
section
variable {P : Program} {w : World} {K : PySem.W.Frag} {mg : Str → Option Value} {base : Heap}
abbrev nm__law_told : List Str := ["kind", "some", "caught", "found", "e"]
abbrev pm__law_told : List Str := ["kind", "some"]
abbrev lv__law_told : Nat := 7
theorem sc__law_told : FnScope nm__law_told pm__law_told (defScope s__law_told) := ⟨rfl, rfl, rfl, by decide +kernel, rfl, by decide +kernel, by decide +kernel⟩
/-- whatever _law_one promises, told in a pair -/
def sp__law_told (K : PySem.W.Frag) (mg : Str → Option Value) : Sp := fun vs H Q _ => ∃ x y, vs = [x, y] ∧ sp__law_one K mg [x, y] H (fun v H1 => ∀ p H2, Same H1 H2 → H1 p = none → H2 p = some (.tup [.str "found", v]) → Q (.ref p) H2)
  (fun c d H1 => ∃ (n : Str) (j : Nat), c = .ref (cls mg n) ∧ exNames[j]? = some n ∧ (∀ dd, d = some dd → ∃ fs, H1 dd = some (.xd fs)) ∧ ∀ p H2, Same H1 H2 → H1 p = none → H2 p = some (.tup [.str "refused", .int j]) → Q (.ref p) H2)
theorem f__law_told (T : Txt K mg) : Fk P w K mg base CX0 lv__law_told "_law_told" pm__law_told (sp__law_told K mg) := by
  obtain ⟨f, fd, F, g, b⟩ := T.d__law_told.ex
  refine ⟨f, fd, g, F.kp, b, F.ok sc__law_told (fun vs H Q E h => ?_) (fun cdv A outer s H vs Q E hr h => ?_)⟩
  · obtain ⟨x, y, rfl, _⟩ := h; rfl
  · obtain ⟨x, y, rfl, h⟩ := h
    refine ⟨_, (pss_cons (ps_set (i := 2) sc__law_told.nd rfl (.inl rfl) pe_non)
      (pss_cons (ps_set (i := 3) sc__law_told.nd rfl (.inl rfl) pe_non)
      (pss_cons (ps_try_kept (i := 4) (j := 2) (tb := fun W => tAsg (tCallS (sp__law_one K mg) (WE W) (tCons (tVar 0) (tCons (tVar 1) tNil))) (gName 3)) (Wout := fun _ _ _ _ => False) rfl rfl rfl sc__law_told.nd rfl rfl ⟨rfl, by decide, Or.inl T.k_err.gP⟩ tk0
        (fun W pn xe tk _ => pss_one (ps_set (i := 3) sc__law_told.nd rfl (.inl rfl) (by exact (pe_fnS (f__law_one T) (hr.mono (by decide)) rfl (fun σ => passAt tk σ) (by exact (pa_cons (pv 0) (pa_cons (pv 1) pa_nil)))))))
        (fun a oe pn => pss_one (ps_set (i := 2) sc__law_told.nd rfl (.inl rfl) (pv 4))) (by show 4 < 5; decide))
      (pss_cons (ps_if (pt_cmpR op_isN (pv 2) pe_non (nomark _)) (pss_one (ps_ret (pe_tup (pa_cons pe_str (pa_cons (pv 3) pa_nil))))) pss_nil)
      (pss_one (ps_ret (pe_tup (pa_cons pe_str (pa_cons (pe_fn (f__law_word T) (hr.mono (by decide)) (by rfl) pass0 (pa_cons (pv 2) pa_nil)) pa_nil))))))))), ?_⟩
    with_reducible refine seq_k fun K_ hK_ => ?_
    walk_at "rt"
    walk_at "rt"
    subst hK_
    first | with_reducible refine seq_k fun K_ hK_ => ?_ | skip
    walk_at "rt"
    walk_at "rt"
    subst hK_
    first | with_reducible refine seq_k fun K_ hK_ => ?_ | skip
    walk_at "rt"
    refine one_mono h (fun v H1 q => ?_) (fun c d H1 q => ?_)
    · walk_at "rt"
      subst hK_
      first | with_reducible refine seq_k fun K_ hK_ => ?_ | skip
      walk_at "rt"
      walk_at "rt"
      subst hK_
      first | with_reducible refine seq_k fun K_ hK_ => ?_ | skip
      walk_at "rt"
      intro p hp
      exact q p _ (same_upd hp) hp upd_same
    · obtain ⟨n, j, rfl, hj, hd, q⟩ := q
      have hn : n ∈ exNames := List.mem_of_getElem? hj
      refine ⟨true, (ec_all T n hn).exm T.k_err, fun _ a ha => ?_, fun e => nomatch e⟩
      have s1 := same_upd (o := ExV (.ref (cls mg n)) d a) ha
      walk_at "rt"
      subst hK_
      first | with_reducible refine seq_k fun K_ hK_ => ?_ | skip
      walk_at "rt"
      walk_at "rt"
      subst hK_
      first | with_reducible refine seq_k fun K_ hK_ => ?_ | skip
      walk_at "rt"
      refine ⟨a, j, rfl, ⟨n, d, hj, upd_same, fun dd e => ?_⟩, fun H2 s2 => ?_⟩
      · obtain ⟨fs, h⟩ := hd dd e
        exact ⟨fs, s1 _ _ h⟩
      · intro p hp
        have s3 := s1.trans s2
        exact q p _ (s3.trans (same_upd hp)) (s3.free hp) upd_same
end
end Nk
namespace Nk
open PySem L2
section
variable {P : Program} {w : World} {K : PySem.W.Frag} {mg : Str → Option Value} {base : Heap}
theorem best_range {c : Int → Nat} {k : Nat} {b : Int} {i : Nat} (h1 : b ∈ (List.range k).map fun j : Nat => (c j : Int)) (h2 : ∀ x ∈ (List.range k).map (fun j : Nat => (c j : Int)), x ≤ b)
    (h3 : ((List.range k).map fun j : Nat => (c j : Int))[i]? = some b) (h4 : ∀ m < i, ((List.range k).map fun j : Nat => (c j : Int))[m]? ≠ some b) : IsBest c k b i := by
  have hi : i < k := by have := lt_of_get h3; simpa using this
  have at_ : ∀ j : Nat, j < k → ((List.range k).map fun j : Nat => (c j : Int))[j]? = some (c j : Int) := fun j hj => by
    rw [List.getElem?_map, List.getElem?_range hj]
    rfl
  have le : ∀ j : Int, 0 ≤ j → j < k → (c j : Int) ≤ b := fun j j0 jk => by
    obtain ⟨j, rfl⟩ : ∃ n : Nat, j = (n : Int) := ⟨j.toNat, by omega⟩
    exact h2 _ (List.mem_map.mpr ⟨j, List.mem_range.mpr (by omega), rfl⟩)
  refine ⟨by omega, by omega, ?_, le, fun j j0 ji => ?_⟩
  · have := (at_ i hi).symm.trans h3
    exact Option.some.inj this
  · obtain ⟨j, rfl⟩ : ∃ n : Nat, j = (n : Int) := ⟨j.toNat, by omega⟩
    have h5 := le j j0 (by omega)
    have h6 := h4 j (by omega)
    rw [at_ j (by omega)] at h6
    have : (c j : Int) ≠ b := fun z => h6 (by rw [z])
    omega
theorem first_at : ∀ {l : List Int} {b : Int}, b ∈ l → ∃ i : Nat, l[i]? = some b ∧ ∀ m < i, l[m]? ≠ some b
  | [], _, h => by simp at h
  | x :: l, b, h => by
    by_cases c : x = b
    · exact ⟨0, by simp [c], fun m hm => by omega⟩
    · have hb : b ∈ l := by
        rcases List.mem_cons.mp h with e | h
        · exact absurd e.symm c
        · exact h
      obtain ⟨i, h1, h2⟩ := first_at hb
      refine ⟨i + 1, by simpa using h1, fun m hm => ?_⟩
      cases m with
      | zero => simpa using c
      | succ m => simpa using h2 m (by omega)
theorem best_far {rus : List (List Int × Int)} (hrr : ∀ ru ∈ rus, Rnds ru.1 ∧ 1 ≤ ru.2) (hrne : rus ≠ []) {lg k b i : Int} (hl : Longest rus lg) (hk : lg + turnN rus ≤ k) (h : IsBest (cnt rus) (lg + turnN rus) b i) : IsBest (cnt rus) k b i := by
  have hT : 0 < turnN rus := turnN_pos (fun ru hru => (hrr ru hru).1.sum) 1 (by decide)
  have hlg0 : 0 ≤ lg := by
    obtain ⟨ru, h1, h2⟩ := hl.2
    have := firstOf_pos (hrr ru h1).1 (show 0 ≤ ru.2 + 1 by have := (hrr ru h1).2; omega)
    have := (hrr ru h1).2
    omega
  refine h.more hk fun j j0 j1 => ?_
  have e1 := Int.emod_add_mul_ediv (j - lg) (turnN rus : Int)
  have e2 := Int.emod_nonneg (j - lg) (show (turnN rus : Int) ≠ 0 by omega)
  have e3 := Int.emod_lt_of_pos (j - lg) (show (0 : Int) < turnN rus by omega)
  have e4 : 0 ≤ (j - lg) / (turnN rus : Int) := Int.ediv_nonneg (by omega) (by omega)
  have e5 : 0 ≤ (turnN rus : Int) * ((j - lg) / (turnN rus : Int)) := Int.mul_nonneg (by omega) e4
  refine ⟨lg + (j - lg) % (turnN rus : Int), by omega, by omega, ?_⟩
  have := cnt_move hrr hrne (n := lg + (j - lg) % (turnN rus : Int)) (far := (turnN rus : Int) * ((j - lg) / (turnN rus : Int))) (by omega) (fun ru hru => ?_) e5 (fun ru hru => ?_)
  · rw [show lg + (j - lg) % (turnN rus : Int) + (turnN rus : Int) * ((j - lg) / (turnN rus : Int)) = j by omega] at this
    exact this
  · have h1 := hl.1 ru hru
    have := num_of_first (hrr ru hru).1 (k := ru.2 + 1) (n := lg + (j - lg) % (turnN rus : Int)) (by omega)
    omega
  · have h1 := (turnN_dvd rus 1).2 ru hru
    have h2 := Int.natCast_dvd_natCast.mpr h1
    rw [show (ru.1.sum.toNat : Int) = ru.1.sum by have := (hrr ru hru).1.sum; omega] at h2
    exact Int.dvd_trans h2 (Int.dvd_mul_right _ _)
theorem full_good {H : Hp} {a : Addr} {rus : List (List Int × Int)} {Q : VK} {E : XK} (R : RulesAt H a rus) (h : turnN rus ≤ 400) (q : ∀ (p : Addr) (lg b i : Int) (H' : Hp), Same H H' → H p = none → H' p = some (.tup [.int b, .int i]) → Longest rus lg → IsBest (cnt rus) (lg + turnN rus) b i → Q (.ref p) H') : sp_full K mg [.ref a] H Q E :=
  ⟨.ref a, rfl, R.thing, (fun e => by rw [R.is] at e; cases e), fun _ => ⟨a, rus, rfl, R, (fun c => by omega), fun _ => q⟩⟩
theorem mkRule {H : Hp} {p p1 : Addr} {rs : List Int} {m : Int} (h : H p = some (.tup (rs.map V.int))) (h1 : H p1 = some (.tup [.ref p, .int m])) (ne : rs ≠ []) (hr : ∀ r ∈ rs, 1 ≤ r ∧ r ≤ 31) (hl : rs.length ≤ 12) (m0 : 1 ≤ m) (m1 : m ≤ 20) : RuleAt H (.ref p1) (rs, m) :=
  ⟨p1, p, rfl, h1, ⟨h, ⟨ne, fun r hr' => (hr r hr').1⟩, fun r hr' => (hr r hr').2, hl⟩, m0, m1⟩
/-- the last rules of the law -/
def lastRus : List (List Int × Int) := [([25, 25], 2), ([16], 1)]
theorem last_rr : ∀ ru ∈ lastRus, Rnds ru.1 ∧ 1 ≤ ru.2 := by
  intro ru h
  simp only [lastRus, List.mem_cons, List.not_mem_nil, or_false] at h
  rcases h with rfl | rfl
  · exact ⟨⟨by simp, by simp⟩, by decide⟩
  · exact ⟨⟨by simp, by simp⟩, by decide⟩
theorem last_stand (n m : Int) : standS lastRus n m ↔ m = n ∨ (1 ≤ numOf [25, 25] n ∧ m = firstOf [25, 25] (numOf [25, 25] n) - 1) := by
  unfold standS
  constructor
  · rintro (h | ⟨ru, h, k, k0, k1, k2, k3⟩)
    · exact .inl h
    · simp only [lastRus, List.mem_cons, List.not_mem_nil, or_false] at h
      rcases h with rfl | rfl
      · right
        dsimp only at k1 k2 k3
        have : k = numOf [25, 25] n - 1 := by omega
        subst this
        rw [show numOf [25, 25] n - 1 + 1 = numOf [25, 25] n by omega] at k3
        exact ⟨by omega, k3⟩
      · dsimp only at k1 k2
        omega
  · rintro (h | ⟨h1, h2⟩)
    · exact .inl h
    · right
      refine ⟨([25, 25], 2), by simp [lastRus], numOf [25, 25] n - 1, by omega, by dsimp only; omega, by dsimp only; omega, ?_⟩
      rw [show numOf [25, 25] n - 1 + 1 = numOf [25, 25] n by omega]
      exact h2
theorem last_cnt {n : Int} (hn : 0 ≤ n) : cnt lastRus n = if 25 ≤ n then 2 else 1 := by
  have hR : Rnds [25, 25] := ⟨by simp, by simp⟩
  have e1 : firstOf [25, 25] 1 = 25 := by decide
  have hs := numOf_spec hR n
  by_cases c : 25 ≤ n
  · rw [if_pos c]
    have h1 := num_of_first hR (k := 1) (n := n) (by omega)
    refine (cnt_rise last_rr (by simp [lastRus]) hn (L := [firstOf [25, 25] (numOf [25, 25] n) - 1, n]) (by simp; omega) fun m => ?_).symm
    rw [last_stand]
    simp only [List.mem_cons, List.not_mem_nil, or_false]
    constructor
    · rintro (h | h)
      · exact .inr ⟨h1, h⟩
      · exact .inl h
    · rintro (h | ⟨_, h⟩)
      · exact .inr h
      · exact .inl h
  · rw [if_neg c]
    have h0 : numOf [25, 25] n = 0 := numOf_of hR (by rw [firstOf_zero hR]; exact hn) (by rw [Int.zero_add, e1]; omega)
    refine (cnt_rise last_rr (by simp [lastRus]) hn (L := [n]) (by simp) fun m => ?_).symm
    rw [last_stand, h0]
    simp
theorem last_best {k : Int} (hk : 25 < k) : IsBest (cnt lastRus) k 2 25 := by
  refine ⟨by decide, hk, ?_, fun j j0 j1 => ?_, fun j j0 j1 => ?_⟩
  · rw [last_cnt (by decide)]
    rfl
  · rw [last_cnt j0]
    split <;> decide
  · rw [last_cnt j0, if_neg (by omega)]
    decide
theorem RuleVs.nil {H : Hp} : RuleVs H [] [] := ⟨rfl, fun i x hx => by simp at hx⟩
def iv27c (H0 : Hp) (a t r af pw po pf : Addr) (y4 y5 y6 : Option V) (_ : Nat) (σ : L2.St) (H : Hp) : Prop :=
  ∃ (y7 y8 y12 : Option V), σ = [some (.ref a), some (.ref t), some (.ref r), some (.ref af), y4, y5, y6, y7, y8, some (.ref pw), some (.ref po), some (.ref pf), y12] ∧ Same H0 H
abbrev nm_law : List Str := ["script", "town", "rules", "far", "rounds", "many", "counts", "due", "told", "wide", "other", "fixed", "some"]
abbrev pm_law : List Str := ["script"]
abbrev lv_law : Nat := 8
theorem sc_law : FnScope nm_law pm_law (defScope s_law) := ⟨rfl, rfl, rfl, by decide +kernel, rfl, by decide +kernel, by decide +kernel⟩
def iv27 (a t r : Addr) (H0 : Hp) (rus : List (List Int × Int)) (i : Nat) (σ : L2.St) (H : Hp) : Prop :=
  ∃ (y4 y5 : Option V), σ = [some (.ref a), some (.ref t), some (.ref r), some (.int ((rus.take i).foldl (fun f ru => f * ru.1.sum) 1)), y4, y5, none, none, none, none, none, none, none] ∧ H = H0
theorem ok_law {f : Addr} {fd : FuncData} (F : Fun K "law" "law" s_law f fd) (T : Txt K mg) : FnOk P w K mg base CX0 lv_law f fd ["script"] (spLaw K) := by
  refine F.ok sc_law (fun vs H Q E h => ?_) (fun cdv A outer s H vs Q E hr h => ?_)
  · obtain ⟨a, ns, rfl, _⟩ := h; rfl
  · obtain ⟨a, ns, rfl, hS, hl, q⟩ := h
    refine ⟨_, (pss_cons (ps_set (i := 1) sc_law.nd rfl (.inl rfl) (pe_fn (f__law_town T) (hr.mono (by decide)) (by rfl) pass0 (pa_cons (pv 0) pa_nil)))
      (pss_cons (ps_set (i := 2) sc_law.nd rfl (.inl rfl) (pe_fn (f__law_rules T) (hr.mono (by decide)) (by rfl) pass0 (pa_cons (pv 0) (pa_cons (pv 1) (pa_cons pe_int (pa_cons pe_int (pa_cons (pe_fn (f__law_pick T) (hr.mono (by decide)) (by rfl) pass0 (pa_cons (pv 0) (pa_cons (pv 1) (pa_cons (pe_lst (pa_cons pe_int (pa_cons pe_int pa_nil))) pa_nil)))) (pa_cons (pe_fn (f__law_pick T) (hr.mono (by decide)) (by rfl) pass0 (pa_cons (pv 0) (pa_cons (pv 1) (pa_cons (pe_lst (pa_cons pe_int (pa_cons pe_int pa_nil))) pa_nil)))) pa_nil))))))))
      (pss_cons (ps_set (i := 3) sc_law.nd rfl (.inl rfl) pe_int)
      (pss_cons (ps_for PassesOwn.never rfl (pi_tup (pv 2)) (pg_tup rfl (pgs_cons (pg_name (i := 4) sc_law.nd rfl (Or.inl rfl)) (pgs_cons (pg_name (i := 5) sc_law.nd rfl (Or.inl rfl)) pgs_nil))) (pss_one (ps_set (i := 3) sc_law.nd rfl (.inl rfl) (pe_op op_mul (pv 3) (pe_callB (cr_sumT rfl) (by rfl) T.b_sum (by decide +kernel) (pa_cons (pv 4) pa_nil))))))
      (pss_cons (ps_if (pt_cmpR op_le (pv 3) pe_int (nomark _)) (pss_cons (ps_set (i := 6) sc_law.nd rfl (.inl rfl) (pe_fn (f__law_counts T) (hr.mono (by decide)) (by rfl) pass0 (pa_cons (pv 2) (pa_cons (pe_op op_add (pe_op op_mul pe_int (pv 3)) pe_int) pa_nil))))
      (pss_cons (ps_set (i := 7) sc_law.nd rfl (.inl rfl) (pe_tup (pa_cons (pe_callB (cr_max rfl) (by rfl) T.b_max (by decide +kernel) (pa_cons (pv 6) pa_nil)) (pa_cons (pe_bm PySem.F.plainAttrs_list PySem.F.slot_list_index PySem.F.type_list_index mt_index (pv 6) (pa_cons (pe_callB (cr_max rfl) (by rfl) T.b_max (by decide +kernel) (pa_cons (pv 6) pa_nil)) pa_nil)) pa_nil))))
      (pss_cons (ps_set (i := 8) sc_law.nd rfl (.inl rfl) (pe_fn (f_full T) (hr.mono (by decide)) (by rfl) passL (pa_cons (pv 2) pa_nil)))
      (pss_one (ps_if (PW.pt (pw_or (pt_cmpR (op_neD hr.units) (pv 8) (pv 7) (nomark _)) (pw_or (pt_not (pt_val (pe_callB call_isi (by rfl) T.b_isinstance (by decide +kernel) (pa_cons (pv 8) (pa_cons (pe_bltn (v := .ty "tuple") (by rfl) T.b_tuple (by decide +kernel) rfl) pa_nil))))) (pw_or1 (pt_not (pt_val (pe_fn (f__law_wholes T) (hr.mono (by decide)) (by rfl) pass0 (pa_cons (pe_callTy call_list_of (by rfl) T.b_list (by decide +kernel) (pa_cons (pv 8) pa_nil)) pa_nil)))))))) (pss_one (ps_ret pe_bl)) pss_nil))))) pss_nil)
      (pss_cons (ps_set (i := 9) sc_law.nd rfl (.inl rfl) (pe_tup (pa_cons (pe_tup (pa_cons pe_int (pa_cons (pe_op op_add pe_int (pe_fn (f__law_draw T) (hr.mono (by decide)) (by rfl) pass0 (pa_cons (pv 0) (pa_cons (pv 1) (pa_cons pe_int pa_nil))))) pa_nil))) (pa_cons pe_int pa_nil))))
      (pss_cons (ps_set (i := 10) sc_law.nd rfl (.inl rfl) (pe_tup (pa_cons (pe_tup (pa_cons (pe_fn (f__law_pick T) (hr.mono (by decide)) (by rfl) pass0 (pa_cons (pv 0) (pa_cons (pv 1) (pa_cons (pe_lst (pa_cons pe_int (pa_cons pe_int (pa_cons pe_int (pa_cons pe_int pa_nil))))) pa_nil)))) pa_nil)) (pa_cons pe_int pa_nil))))
      (pss_cons (ps_set (i := 3) sc_law.nd rfl (.inl rfl) (pe_fn (f__law_pick T) (hr.mono (by decide)) (by rfl) pass0 (pa_cons (pv 0) (pa_cons (pv 1) (pa_cons (pe_lst (pa_cons (pe_tup (pa_cons (pe_tup (pa_cons pe_int pa_nil)) (pa_cons pe_int pa_nil))) (pa_cons (pe_tup (pa_cons (pe_tup (pa_cons pe_int (pa_cons pe_int pa_nil))) (pa_cons pe_int pa_nil))) (pa_cons (pe_tup (pa_cons (pe_tup (pa_cons pe_int (pa_cons pe_int (pa_cons pe_int pa_nil)))) (pa_cons pe_int pa_nil))) (pa_cons (pe_tup (pa_cons (pe_op op_repT (pe_tup (pa_cons pe_int pa_nil)) pe_int) (pa_cons pe_int pa_nil))) pa_nil))))) pa_nil)))))
      (pss_cons (ps_set (i := 11) sc_law.nd rfl (.inl rfl) (pe_tup (pa_cons (pe_tup (pa_cons (pe_tup (pa_cons pe_int (pa_cons pe_int pa_nil))) (pa_cons pe_int pa_nil))) (pa_cons (pe_tup (pa_cons (pe_tup (pa_cons pe_int (pa_cons pe_int pa_nil))) (pa_cons pe_int pa_nil))) (pa_cons (pe_tup (pa_cons (pe_tup (pa_cons pe_int pa_nil)) (pa_cons pe_int pa_nil))) pa_nil)))))
      (pss_cons (ps_for PassesOwn.never rfl (pi_tup (pe_tup (pa_cons (pe_tup (pa_cons (pv 9) (pa_cons (pv 10) (pa_cons (pv 3) pa_nil)))) (pa_cons (pv 11) (pa_cons (pe_tup (pa_cons (pe_tup (pa_cons (pe_op op_repT (pe_tup (pa_cons pe_int pa_nil)) pe_int) (pa_cons pe_int pa_nil))) (pa_cons (pv 3) pa_nil))) pa_nil))))) (pg_name (i := 12) sc_law.nd rfl (Or.inl rfl)) (pss_cons (ps_set (i := 7) sc_law.nd rfl (.inl rfl) (pe_cmpR op_le (pe_fn (f_turn T) (hr.mono (by decide)) (by rfl) passL (pa_cons (pv 12) pa_nil)) pe_int (nomark _)))
      (pss_cons (ps_set (i := 8) sc_law.nd rfl (.inl rfl) (pe_fn (f__law_told T) (hr.mono (by decide)) (by rfl) pass0 (pa_cons pe_int (pa_cons (pv 12) pa_nil))))
      (pss_one (ps_if (PW.pt (pw_or (pt_cmpR op_ne (pv 7) (pe_cmpR op_eq (pe_ix ix_tup (pv 8) pe_int (fun _ _ => rfl)) pe_str (nomark _)) (nomark _)) (pw_or1 (PW.pt (pw_and (pt_not (pt_val (pv 7))) (pw_and1 (pt_cmpR (op_neD hr.units) (pv 8) (pe_fn (f__law_refused T) (hr.mono (by decide)) (by rfl) pass0 (pa_cons pe_str pa_nil)) (nomark _)))))))) (pss_one (ps_ret pe_bl)) pss_nil)))))
      (pss_cons (ps_set (i := 12) sc_law.nd rfl (.inl rfl) (pe_tup (pa_cons (pe_tup (pa_cons (pe_tup (pa_cons pe_int (pa_cons pe_int pa_nil))) (pa_cons pe_int pa_nil))) (pa_cons (pe_tup (pa_cons (pe_tup (pa_cons pe_int pa_nil)) (pa_cons pe_int pa_nil))) pa_nil))))
      (pss_one (ps_ret (pe_and (pe_cmpR op_eq (pe_fn (f_turn T) (hr.mono (by decide)) (by rfl) passL (pa_cons (pv 12) pa_nil)) pe_int (nomark _)) (pe_one (pe_cmpR (op_eqD hr.units) (pe_fn (f__law_told T) (hr.mono (by decide)) (by rfl) pass0 (pa_cons pe_int (pa_cons (pv 12) pa_nil))) (pe_tup (pa_cons pe_str (pa_cons (pe_tup (pa_cons pe_int (pa_cons pe_int pa_nil))) pa_nil))) (nomark _))))))))))))))))), ?_⟩
    with_reducible refine seq_k fun K_ hK_ => ?_
    walk_at "rt"
    refine ⟨a, ns, rfl, hS, hl, fun H1 t s1 T1 ht => ?_⟩
    walk_at "rt"
    subst hK_
    first | with_reducible refine seq_k fun K_ hK_ => ?_ | skip
    walk_at "rt"
    refine pickI [1, 3] T1 (by decide) fun top hk1 H2 T2 b2 => ?_
    have hk1' : 0 < top ∧ top ≤ 3 := by simp at hk1; omega
    refine pickI [2, 4] T2 (by decide) fun mm hk2 H3 T3 b3 => ?_
    have hk2' : 0 < mm ∧ mm ≤ 4 := by simp at hk2; omega
    refine ⟨a, t, ns, _, 3, 3, top, mm, rfl, T3, by decide, by decide, by decide, by decide, by decide, by omega, by omega, by omega, by omega, fun rus xs r c4 H4 l1 l5 hle hr3 hr4 hv4 hc4 T4 b4 => ?_⟩
    have R4 := hv4.at_ hr4 l1 (by omega)
    have hc4' : c4 ≤ 100 := by simp at hc4; omega
    have hrn := R4.rnds
    have hxl : xs.length = rus.length := hv4.1
    have hrne : rus ≠ [] := List.length_pos_iff.mp (by omega)
    have hrr : ∀ ru ∈ rus, Rnds ru.1 ∧ 1 ≤ ru.2 := fun ru h => ⟨(hrn ru h).1, (hrn ru h).2.1⟩
    have hsum : ∀ ru ∈ rus, 0 < ru.1.sum := fun ru hru => (hrn ru hru).1.sum
    walk_at "rt"
    subst hK_
    first | with_reducible refine seq_k fun K_ hK_ => ?_ | skip
    walk_at "rt"
    walk_at "rt"
    subst hK_
    first | with_reducible refine seq_k fun K_ hK_ => ?_ | skip
    walk_at "rt"
    refine ⟨⟨_, sqT hr4⟩, for_tup (K := K) (a := r) (xs := xs) (iv27 a t r H4 rus) ⟨none, none, rfl, rfl⟩ (fun i σ H5 _ p => ?_) ?_ ?_⟩
    · obtain ⟨_, _, _, rfl⟩ := p
      exact sqT hr4
    · rintro i x σ H5 hx ⟨y4, y5, rfl, rfl⟩
      obtain ⟨ru, hru, q1, r1, rfl, hq1, hra, _⟩ := hv4.2 i x hx
      refine ⟨q1, _, rfl, sqT hq1, rfl, ?_⟩
      walk_at "rt"
      have h372 := hra.sum_le
      have h0 := hra.ok.sum
      refine ⟨r1, _, rfl, sqT hra.at_, _, rfl, .inr (by omega), some (.ref r1), some (.int ru.2), ?_, rfl⟩
      rw [take_next hru, List.foldl_append]
      rfl
    rintro σ H5 ⟨y4, y5, rfl, rfl⟩
    rw [hxl, List.take_length]
    have hfp := prodS_pos (rus := rus) hsum 1 (by decide)
    have htp := turn_le_prod rus 1 1 hsum (by decide)
    revert hfp htp
    generalize List.foldl (fun f (ru : List Int × Int) => f * ru.1.sum) 1 rus = far
    intro hfp htp
    walk_at "rt"
    subst hK_
    first | with_reducible refine seq_k fun K_ hK_ => ?_ | skip
    walk_at "rt"
    have rest : ∀ (H6 : Hp) (y6 y7 y8 : Option V), Same H5 H6 → K_ [some (V.ref a), some (V.ref t), some (V.ref r), some (V.int far), y4, y5, y6, y7, y8, none, none, none, none] H6 := by
      intro H6 y6 y7 y8 s6
      have T6 := T4.same s6
      walk_at "rt"
      subst hK_
      first | with_reducible refine seq_k fun K_ hK_ => ?_ | skip
      walk_at "rt"
      refine ⟨a, t, ns, _, 12, rfl, T6, by omega, by decide, by decide, fun x H7 x0 x1 T7 b7 => ⟨x, rfl, ?_⟩⟩
      intro pw n_pw
      generalize hG_ : upd _ pw _ = H8
      obtain ⟨s8, hpw⟩ := newF n_pw hG_
      clear hG_
      intro pw1 n_pw1
      generalize hG_ : upd _ pw1 _ = H9
      obtain ⟨s9, hpw1⟩ := newF n_pw1 hG_
      clear hG_
      have W9 : RuleAt H9 (.ref pw1) ([20, 1 + x], 1) := mkRule (s9 _ _ hpw) hpw1 (by simp) (by simp; omega) (by simp) (by decide) (by decide)
      have T9 := (T7.same s8).same s9
      walk_at "rt"
      subst hK_
      first | with_reducible refine seq_k fun K_ hK_ => ?_ | skip
      walk_at "rt"
      refine pickI [16, 25, 20, 10] T9 (by omega) fun ko hko H10 T10 b10 => ?_
      have hko' : 10 ≤ ko ∧ ko ≤ 25 := by simp at hko; omega
      intro po n_po
      generalize hG_ : upd _ po _ = H11
      obtain ⟨s11, hpo⟩ := newF n_po hG_
      clear hG_
      intro po1 n_po1
      generalize hG_ : upd _ po1 _ = H12
      obtain ⟨s12, hpo1⟩ := newF n_po1 hG_
      clear hG_
      have O12 : RuleAt H12 (.ref po1) ([ko], 1) := mkRule (s12 _ _ hpo) hpo1 (by simp) (by simp; omega) (by simp) (by decide) (by decide)
      obtain ⟨l9, hl9⟩ := T9.lst
      have W12 := ((W9.but b10 hl9).same s11).same s12
      have T12 := (T10.same s11).same s12
      walk_at "rt"
      subst hK_
      first | with_reducible refine seq_k fun K_ hK_ => ?_ | skip
      walk_at "rt"
      intro f1 n_f1
      generalize hG_ : upd _ f1 _ = J1
      obtain ⟨u1, hf1⟩ := newF n_f1 hG_
      clear hG_
      intro f2 n_f2
      generalize hG_ : upd _ f2 _ = J2
      obtain ⟨u2, hf2⟩ := newF n_f2 hG_
      clear hG_
      intro f3 n_f3
      generalize hG_ : upd _ f3 _ = J3
      obtain ⟨u3, hf3⟩ := newF n_f3 hG_
      clear hG_
      intro f4 n_f4
      generalize hG_ : upd _ f4 _ = J4
      obtain ⟨u4, hf4⟩ := newF n_f4 hG_
      clear hG_
      intro f5 n_f5
      generalize hG_ : upd _ f5 _ = J5
      obtain ⟨u5, hf5⟩ := newF n_f5 hG_
      clear hG_
      intro f6 n_f6
      generalize hG_ : upd _ f6 _ = J6
      obtain ⟨u6, hf6⟩ := newF n_f6 hG_
      clear hG_
      intro f7 n_f7
      generalize hG_ : upd _ f7 _ = J7
      obtain ⟨u7, hf7⟩ := newF n_f7 hG_
      clear hG_
      refine ⟨f7, 4, [.int 31], rfl, rfl, sqT hf7, by simp, by decide, by decide, by decide, ?_⟩
      intro f8 n_f8
      generalize hG_ : upd _ f8 _ = J8
      obtain ⟨u8, hf8⟩ := newF n_f8 hG_
      clear hG_
      intro f9 n_f9
      generalize hG_ : upd _ f9 _ = J9
      obtain ⟨u9, hf9⟩ := newF n_f9 hG_
      clear hG_
      have v8 := u8.trans u9
      have v6 := (u7.trans v8)
      have v4 := (u5.trans u6).trans v6
      have v2 := (u3.trans u4).trans v4
      have F1 : RuleAt J9 (.ref f2) ([20], 1) := RuleAt.same (mkRule (u2 _ _ hf1) hf2 (by simp) (by simp) (by simp) (by decide) (by decide)) v2
      have F2 : RuleAt J9 (.ref f4) ([31, 31], 1) := RuleAt.same (mkRule (rs := [31, 31]) (u4 _ _ hf3) hf4 (by simp) (by simp) (by simp) (by decide) (by decide)) v4
      have F3 : RuleAt J9 (.ref f6) ([25, 25, 30], 1) := RuleAt.same (mkRule (rs := [25, 25, 30]) (u6 _ _ hf5) hf6 (by simp) (by simp) (by simp) (by decide) (by decide)) v6
      have F4 : RuleAt J9 (.ref f9) ([31, 31, 31, 31], 1) := mkRule (rs := [31, 31, 31, 31]) (u9 _ _ hf8) hf9 (by simp) (by simp) (by simp) (by decide) (by decide)
      have vA := (u1.trans u2).trans v2
      have TJ := T12.same vA
      refine pickV TJ (by omega) (by simp) (by simp) fun fr hfr G1 TG1 bG1 => ?_
      obtain ⟨lJ, hlJ⟩ := TJ.lst
      have FR : ∃ (ad : Addr) (ru : List Int × Int), fr = .ref ad ∧ RuleAt G1 (.ref ad) ru := by
        simp only [List.mem_cons, List.not_mem_nil, or_false] at hfr
        rcases hfr with rfl | rfl | rfl | rfl
        · exact ⟨_, _, rfl, F1.but bG1 hlJ⟩
        · exact ⟨_, _, rfl, F2.but bG1 hlJ⟩
        · exact ⟨_, _, rfl, F3.but bG1 hlJ⟩
        · exact ⟨_, _, rfl, F4.but bG1 hlJ⟩
      clear hfr
      obtain ⟨af, ruf, rfl, FR⟩ := FR
      have WG := (W12.same vA).but bG1 hlJ
      have OG := (O12.same vA).but bG1 hlJ
      walk_at "rt"
      subst hK_
      first | with_reducible refine seq_k fun K_ hK_ => ?_ | skip
      walk_at "rt"
      intro g1 n_g1
      generalize hG_ : upd _ g1 _ = I1
      obtain ⟨w1, hg1⟩ := newF n_g1 hG_
      clear hG_
      intro g2 n_g2
      generalize hG_ : upd _ g2 _ = I2
      obtain ⟨w2, hg2⟩ := newF n_g2 hG_
      clear hG_
      intro g3 n_g3
      generalize hG_ : upd _ g3 _ = I3
      obtain ⟨w3, hg3⟩ := newF n_g3 hG_
      clear hG_
      intro g4 n_g4
      generalize hG_ : upd _ g4 _ = I4
      obtain ⟨w4, hg4⟩ := newF n_g4 hG_
      clear hG_
      intro g5 n_g5
      generalize hG_ : upd _ g5 _ = I5
      obtain ⟨w5, hg5⟩ := newF n_g5 hG_
      clear hG_
      intro g6 n_g6
      generalize hG_ : upd _ g6 _ = I6
      obtain ⟨w6, hg6⟩ := newF n_g6 hG_
      clear hG_
      intro pf n_pf
      generalize hG_ : upd _ pf _ = I7
      obtain ⟨w7, hpf⟩ := newF n_pf hG_
      clear hG_
      have z6 := w7
      have z4 := (w5.trans w6).trans z6
      have z2 := (w3.trans w4).trans z4
      have z0 := (w1.trans w2).trans z2
      have G1' : RuleAt I7 (.ref g2) ([31, 9], 1) := RuleAt.same (mkRule (rs := [31, 9]) (w2 _ _ hg1) hg2 (by simp) (by simp) (by simp) (by decide) (by decide)) z2
      have G2' : RuleAt I7 (.ref g4) ([25, 25], 1) := RuleAt.same (mkRule (rs := [25, 25]) (w4 _ _ hg3) hg4 (by simp) (by simp) (by simp) (by decide) (by decide)) z4
      have G3' : RuleAt I7 (.ref g6) ([20], 1) := RuleAt.same (mkRule (rs := [20]) (w6 _ _ hg5) hg6 (by simp) (by simp) (by simp) (by decide) (by decide)) z6
      have RF : RulesAt I7 pf ([] ++ [([31, 9], 1)] ++ [([25, 25], 1)] ++ [([20], 1)]) := (((RuleVs.nil.snoc G1').snoc G2').snoc G3').at_ hpf (by simp) (by simp)
      have W7 := WG.same z0
      have O7 := OG.same z0
      have FR7 := FR.same z0
      walk_at "rt"
      subst hK_
      first | with_reducible refine seq_k fun K_ hK_ => ?_ | skip
      walk_at "rt"
      intro h1 n_h1
      generalize hG_ : upd _ h1 _ = L1
      obtain ⟨x1', hh1⟩ := newF n_h1 hG_
      clear hG_
      intro h2 n_h2
      generalize hG_ : upd _ h2 _ = L2'
      obtain ⟨x2, hh2⟩ := newF n_h2 hG_
      clear hG_
      refine ⟨h2, 8, [.int 31], rfl, rfl, sqT hh2, by simp, by decide, by decide, by decide, ?_⟩
      intro h3 n_h3
      generalize hG_ : upd _ h3 _ = L3
      obtain ⟨x3, hh3⟩ := newF n_h3 hG_
      clear hG_
      intro h4 n_h4
      generalize hG_ : upd _ h4 _ = L4
      obtain ⟨x4, hh4⟩ := newF n_h4 hG_
      clear hG_
      intro h5 n_h5
      generalize hG_ : upd _ h5 _ = L5
      obtain ⟨x5, hh5⟩ := newF n_h5 hG_
      clear hG_
      intro h6 n_h6
      generalize hG_ : upd _ h6 _ = L6
      obtain ⟨x6, hh6⟩ := newF n_h6 hG_
      clear hG_
      have hN : RuleAt L6 (.ref h4) (List.replicate 8 31, 1) := RuleAt.same (mkRule (rs := List.replicate 8 31) (x4 _ _ hh3) hh4 (by simp) (by simp) (by simp) (by decide) (by decide)) (x5.trans x6)
      have y36 := ((x3.trans x4).trans x5).trans x6
      have y06 := (x1'.trans x2).trans y36
      have A1 : RulesAt L6 h1 ([] ++ [([20, 1 + x], 1)] ++ [([ko], 1)] ++ [ruf]) := (((RuleVs.nil.snoc (W7.same y06)).snoc (O7.same y06)).snoc (FR7.same y06)).at_ ((x2.trans y36) _ _ hh1) (by simp) (by simp)
      have A2 := RF.same y06
      have A3 : RulesAt L6 h5 ([] ++ [(List.replicate 8 31, 1)] ++ [ruf]) := ((RuleVs.nil.snoc hN).snoc (FR7.same y06)).at_ (x6 _ _ hh5) (by simp) (by simp)
      have all3 : ∀ (i : Nat) v, [V.ref h1, V.ref pf, V.ref h5][i]? = some v → ∃ (b : Addr) (rus : List (List Int × Int)), v = .ref b ∧ RulesAt L6 b rus := by
        intro i v hv
        rcases i with _ | _ | _ | i
        · cases hv; exact ⟨_, _, rfl, A1⟩
        · cases hv; exact ⟨_, _, rfl, A2⟩
        · cases hv; exact ⟨_, _, rfl, A3⟩
        · simp at hv
      refine ⟨⟨_, sqT hh6⟩, for_tup (K := K) (a := h6) (xs := [V.ref h1, V.ref pf, V.ref h5]) (iv27c L6 a t r af pw1 po1 pf y4 y5 y6) ⟨y7, y8, none, rfl, Same.refl _⟩ (fun i σ M1 _ p => ?_) ?_ ?_⟩
      · obtain ⟨_, _, _, _, s⟩ := p
        exact sqT (s _ _ hh6)
      · rintro i v σ M1 hv ⟨y7, y8, y12, rfl, sM⟩
        obtain ⟨b, rus2, rfl, B⟩ := all3 i v hv
        have BM := B.same sM
        walk_at "rt"
        with_reducible refine seq_k fun K_ hK_ => ?_
        walk_at "rt"
        refine turn_good BM fun M2 sM2 => ?_
        walk_at "rt"
        have BM2 := BM.same sM2
        walk_at "rt"
        subst hK_
        first | with_reducible refine seq_k fun K_ hK_ => ?_ | skip
        walk_at "rt"
        refine ⟨.int 0, .ref b, rfl, 0, .ref b, rfl, .ref b, rfl, BM2.thing, (fun e => by rw [BM2.is] at e; cases e), fun _ => ⟨b, rus2, rfl, BM2, fun c M3 sM3 => ?_, fun c p lg bb ii M3 sM3 _ hp _ _ => ?_⟩⟩
        · refine ⟨"BadRules", 3, rfl, rfl, (fun dd z => nomatch z), fun p M4 sM4 _ hp => ?_⟩
          rw [decide_eq_false (by omega)]
          walk_at "rt"
          subst hK_
          first | with_reducible refine seq_k fun K_ hK_ => ?_ | skip
          walk_at "rt"
          refine ixT (j := 0) (sqT hp) rfl rfl ?_
          walk_at "rt"
          rw [if_neg (by decide +kernel)]
          refine ⟨_, 3, rfl, by rfl, fun p3 M5 sM5 _ hp3 => ?_⟩
          refine neD (d := .tuple [.str "refused", .int 3]) (e := .tuple [.str "refused", .int 3]) (.tup (sqT (sM5 _ _ hp)) (.cons (.str _) (.cons (.int _) .nil))) (.tup (sqT hp3) (.cons (.str _) (.cons (.int _) .nil))) (k := 1) (m := 1) ?_ ?_ (fun _ => ?_) (fun e => absurd rfl e)
          · simp [gd]; decide +kernel
          · simp [gd]; decide +kernel
          refine ⟨false, rfl, ?_⟩
          rw [if_neg Bool.false_ne_true]
          exact ⟨_, _, _, rfl, (((sM.trans sM2).trans sM3).trans sM4).trans sM5⟩
        · intro p2 M4 sM4 _ hp2
          rw [decide_eq_true (by omega)]
          walk_at "rt"
          subst hK_
          first | with_reducible refine seq_k fun K_ hK_ => ?_ | skip
          walk_at "rt"
          refine ixT (j := 0) (sqT hp2) rfl rfl ?_
          walk_at "rt"
          rw [if_neg (by simp)]
          exact ⟨_, _, _, rfl, ((sM.trans sM2).trans sM3).trans sM4⟩
      · rintro σ M1 ⟨y7, y8, y12, rfl, sM⟩
        walk_at "rt"
        subst hK_
        first | with_reducible refine seq_k fun K_ hK_ => ?_ | skip
        walk_at "rt"
        intro e1 n_e1
        generalize hG_ : upd _ e1 _ = N1
        obtain ⟨n1, he1⟩ := newF n_e1 hG_
        clear hG_
        intro e2 n_e2
        generalize hG_ : upd _ e2 _ = N2
        obtain ⟨n2, he2⟩ := newF n_e2 hG_
        clear hG_
        intro e3 n_e3
        generalize hG_ : upd _ e3 _ = N3
        obtain ⟨n3, he3⟩ := newF n_e3 hG_
        clear hG_
        intro e4 n_e4
        generalize hG_ : upd _ e4 _ = N4
        obtain ⟨n4, he4⟩ := newF n_e4 hG_
        clear hG_
        intro e5 n_e5
        generalize hG_ : upd _ e5 _ = N5
        obtain ⟨n5, he5⟩ := newF n_e5 hG_
        clear hG_
        have E1 : RuleAt N5 (.ref e2) ([25, 25], 2) := RuleAt.same (mkRule (rs := [25, 25]) (n2 _ _ he1) he2 (by simp) (by simp) (by simp) (by decide) (by decide)) ((n3.trans n4).trans n5)
        have E2 : RuleAt N5 (.ref e4) ([16], 1) := RuleAt.same (mkRule (rs := [16]) (n4 _ _ he3) he4 (by simp) (by simp) (by simp) (by decide) (by decide)) n5
        have EE : RulesAt N5 e5 lastRus := ((RuleVs.nil.snoc E1).snoc E2).at_ he5 (by simp) (by simp)
        have e400 : turnN lastRus = 400 := by decide
        walk_at "rt"
        subst hK_
        first | with_reducible refine seq_k fun K_ hK_ => ?_ | skip
        walk_at "rt"
        refine turn_good EE fun M2 sM2 => ?_
        rw [e400]
        have EE2 := EE.same sM2
        walk_at "rt"
        rw [if_pos (by decide)]
        refine ⟨.int 0, .ref e5, rfl, 0, .ref e5, rfl, .ref e5, rfl, EE2.thing, (fun e => by rw [EE2.is] at e; cases e), fun _ => ⟨e5, lastRus, rfl, EE2, (fun c => by rw [e400] at c; omega), fun c p lg bb ii M3 sM3 _ hp hlong hbest => ?_⟩⟩
        have hlg : 75 ≤ lg := by
          have := hlong.1 ([25, 25], 2) (by simp [lastRus])
          rw [show firstOf ([25, 25], 2).1 (([25, 25], 2).2 + 1) = 75 by decide] at this
          exact this
        obtain ⟨rfl, rfl⟩ := hbest.uniq (last_best (k := lg + turnN lastRus) (by omega))
        intro p2 M4 sM4 _ hp2
        intro e6 n_e6
        generalize hG_ : upd _ e6 _ = N6
        obtain ⟨n6, he6⟩ := newF n_e6 hG_
        clear hG_
        intro e7 n_e7
        generalize hG_ : upd _ e7 _ = N7
        obtain ⟨n7, he7⟩ := newF n_e7 hG_
        clear hG_
        have s47 := n6.trans n7
        have hp7 := s47 _ _ (sM4 _ _ hp)
        refine eqD (d := .tuple [.str "found", dTI [2, 25]]) (e := .tuple [.str "found", dTI [2, 25]]) (.tup (sqT (s47 _ _ hp2)) (.cons (.str _) (.cons (dp_TI (ns := [2, 25]) (sqT hp7)) .nil))) (.tup (sqT he7) (.cons (.str _) (.cons (dp_TI (ns := [2, 25]) (sqT (n7 _ _ he6))) .nil))) (k := 2) (m := 2) ?_ ?_ (fun _ => q _) (fun e => absurd rfl e)
        · decide +kernel
        · decide +kernel
    refine ite2 (fun c1 => ?_) (fun c1 => ?_)
    · have hT : (turnN rus : Int) ≤ far := htp
      with_reducible refine seq_k fun K_ hK_ => ?_
      walk_at "rt"
      refine ⟨.inl (by omega), r, rus, _, rfl, R4, by omega, by omega, fun p H6 s6 hp5 hp6 => ?_⟩
      walk_at "rt"
      subst hK_
      first | with_reducible refine seq_k fun K_ hK_ => ?_ | skip
      walk_at "rt"
      have hcl : 0 < ((List.range (2 * far + 40).toNat).map fun k : Nat => (cnt rus k : Int)).length := by simp; omega
      refine ⟨p, _, rfl, sqL hp6, hcl, fun b hb1 hb2 => ⟨tyL hp6, p, _, rfl, sqL hp6, hcl, fun b' hb1' hb2' => ?_⟩⟩
      have eb : b' = b := by
        have := hb2 _ hb1'
        have := hb2' _ hb1
        omega
      subst eb
      obtain ⟨i, hi1, hi2⟩ := first_at hb1
      refine ⟨p, _, _, i, .int b', rfl, rfl, sqL hp6, rfl, flat_ints _, by rw [List.getElem?_map, hi1]; rfl, by simp [eqV], fun m z hm hz => ?_, ?_⟩
      · rw [List.getElem?_map] at hz
        cases e : ((List.range (2 * far + 40).toNat).map fun k : Nat => (cnt rus k : Int))[m]? with
        | none => rw [e] at hz; cases hz
        | some y =>
          rw [e] at hz
          cases hz
          have := hi2 m hm
          rw [e] at this
          have : y ≠ b' := fun z => this (by rw [z])
          simp [eqV, this]
      have B1 := best_range hb1 hb2 hi1 hi2
      rw [show (((2 * far + 40).toNat : Nat) : Int) = 2 * far + 40 by omega] at B1
      intro pd hpd
      have s7 := same_upd (o := .tup [.int b', .int i]) hpd
      have hpd7 := upd_same (H := H6) (a := pd) (o := .tup [.int b', .int i])
      revert s7 hpd7
      generalize upd H6 pd (.tup [.int b', .int i]) = H7
      intro s7 hpd7
      have s57 := s6.trans s7
      walk_at "rt"
      subst hK_
      first | with_reducible refine seq_k fun K_ hK_ => ?_ | skip
      walk_at "rt"
      refine full_good (R4.same s57) (by omega) fun pt lg b2 i2 H8 s8 hpt7 hpt8 hlong hbest => ?_
      have hlg : lg ≤ 15 := by
        obtain ⟨ru, h1, h2⟩ := hlong.2
        obtain ⟨_, h4, h5⟩ := hle ru h1
        have h6 := (hrn ru h1).2.1
        have := firstOf_upperT (hrn ru h1).1 (t := 3) (fun r hr => by have := h4 r hr; omega) (ru.2 + 1).toNat
        rw [show ((ru.2 + 1).toNat : Int) = ru.2 + 1 by omega] at this
        omega
      have B2 := best_far hrr hrne hlong (k := 2 * far + 40) (by omega) hbest
      obtain ⟨rfl, rfl⟩ := B2.uniq B1
      have hpd8 := s8 _ _ hpd7
      walk_at "rt"
      subst hK_
      first | with_reducible refine seq_k fun K_ hK_ => ?_ | skip
      walk_at "rt"
      refine neD (d := dTI [b2, i]) (e := dTI [b2, i]) (dp_TI (ns := [b2, i]) (sqT hpt8)) (dp_TI (ns := [b2, i]) (sqT hpd8)) (gd_dTI (k := 0) _) (gd_dTI (k := 0) _) (fun _ => ?_) (fun e => absurd rfl e)
      walk_at "rt"
      refine isi_thing (.tup hpt8) (by decide) ⟨true, rfl, ?_⟩
      walk_at "rt"
      refine ⟨_, .inr (sqT hpt8), fun l hl => ?_⟩
      refine ⟨l, _, rfl, upd_same, by simp, fun x hx => ?_, fun H9 s9 => ?_⟩
      · simp at hx
        rcases hx with rfl | rfl
        · exact ⟨_, rfl⟩
        · exact ⟨_, rfl⟩
      walk_at "rt"
      exact rest H9 _ _ _ (((s57.trans s8).trans (same_upd hl)).trans s9)
    · exact rest H5 _ _ _ (Same.refl _)
end
end Nk
namespace Nk
open PySem L2
theorem fin {P : Program} {w : World} {K : PySem.W.Frag} {mg : Str → Option Value} {fa : Addr} (hfa : mg "law" = some (.ref fa)) (T : Txt K mg) : ∃ fd : FuncData, (∀ (s : Shared) (v : Value), BindsTo s fd ⟨[v], []⟩ [("script", v)]) ∧ ∀ base : Heap, K.In base → base.Ns mainGlobals mg → FnOk P w K mg base CX0 8 fa fd ["script"] (spLaw K) :=
  law_end hfa T.d_law (fun _ _ _ _ _ _ _ => rfl) (fun base f fd F => ok_law F T)
end Nk
open PySem PySem.W PyProof.Rows
set_option maxRecDepth 100000 in
set_option maxHeartbeats 0 in
theorem PySem.Challenge.cw_nightkeep_k27_full_holds : PySem.Challenge.rw_nightkeep_k27_full.Holds := by
  w_on; o_law; k_head; (case hw => w_witness2)
  k_fill
  refine L2.walk_of (l := PySem.Challenge.rw_nightkeep_k27_full) (n := 63) (k := 8) (x := "script") (CX := fun _ => L2.CX0) (sp := fun w => Nk.spLaw _) rfl (by decide) rfl ⟨rfl, by decide, by decide⟩ (fun w h Y => PySem.W.kIn_of Y) ?F (fun _ _ a ns hl _ hS => ⟨a, ns, rfl, hS, hl, fun _ => rfl⟩) (fun _ _ _ _ _ h => h)
  case F =>
    intro w mg fa h KX G hmg
    refine Nk.fin hmg ?_
    refine ⟨?d_is_number, ?d_is_rounds, ?d_number_of, ?d_first_of, ?d_is_rule, ?d_look_rules, ?d_divisor, ?d_turn_of, ?d_standing_at, ?d_turn, ?d_full, ?d__law_town, ?d__law_draw, ?d__law_pick, ?d__law_word, ?d__law_refused, ?d__law_told, ?d__law_whole, ?d__law_wholes, ?d__law_rounds, ?d__law_spot, ?d__law_rules, ?d__law_one, ?d__law_counts, ?d_law, ?x_KeepError, ?x_BadRounds, ?x_BadNight, ?x_BadNumber, ?x_BadRules, ?x_BadNights, ?x_Full, ?x_NotHeld, ?x_Pinned, ?x_NotPinned, ?x_BadState, ?x_BadPart, ?x_NotFit, ?x_IsWhole, ?x_BadPlan, ?x_Unlike, ?x_BadText, ?k_err, ?e_BadRounds, ?e_BadNight, ?e_BadNumber, ?e_BadRules, ?e_BadNights, ?e_Elder, ?e_Full, ?e_NotHeld, ?e_Pinned, ?e_NotPinned, ?e_BadState, ?e_BadPart, ?e_NotFit, ?e_IsWhole, ?e_BadPlan, ?e_Unlike, ?e_BadText, ?b_RuntimeError, ?b_all, ?b_bool, ?b_int, ?b_isinstance, ?b_len, ?b_list, ?b_max, ?b_range, ?b_sorted, ?b_sum, ?b_tuple⟩
    case d_is_number => (refine' Nk.df_mk (st := Nk.s_is_number) KX G (fun _ _ _ _ _ _ us hl => match us, hl with | [_, _, _], _ => rfl) ?a ?l ?c ?k; (case a => k_is); (case l => k_is); (case c => k_is); (case k => k_is))
    case d_is_rounds => (refine' Nk.df_mk (st := Nk.s_is_rounds) KX G (fun _ _ _ _ _ _ us hl => match us, hl with | [_], _ => rfl) ?a ?l ?c ?k; (case a => k_is); (case l => k_is); (case c => k_is); (case k => k_is))
    case d_number_of => (refine' Nk.df_mk (st := Nk.s_number_of) KX G (fun _ _ _ _ _ _ us hl => match us, hl with | [_, _], _ => rfl) ?a ?l ?c ?k; (case a => k_is); (case l => k_is); (case c => k_is); (case k => k_is))
    case d_first_of => (refine' Nk.df_mk (st := Nk.s_first_of) KX G (fun _ _ _ _ _ _ us hl => match us, hl with | [_, _], _ => rfl) ?a ?l ?c ?k; (case a => k_is); (case l => k_is); (case c => k_is); (case k => k_is))
    case d_is_rule => (refine' Nk.df_mk (st := Nk.s_is_rule) KX G (fun _ _ _ _ _ _ us hl => match us, hl with | [_], _ => rfl) ?a ?l ?c ?k; (case a => k_is); (case l => k_is); (case c => k_is); (case k => k_is))
    case d_look_rules => (refine' Nk.df_mk (st := Nk.s_look_rules) KX G (fun _ _ _ _ _ _ us hl => match us, hl with | [_], _ => rfl) ?a ?l ?c ?k; (case a => k_is); (case l => k_is); (case c => k_is); (case k => k_is))
    case d_divisor => (refine' Nk.df_mk (st := Nk.s_divisor) KX G (fun _ _ _ _ _ _ us hl => match us, hl with | [_, _], _ => rfl) ?a ?l ?c ?k; (case a => k_is); (case l => k_is); (case c => k_is); (case k => k_is))
    case d_turn_of => (refine' Nk.df_mk (st := Nk.s_turn_of) KX G (fun _ _ _ _ _ _ us hl => match us, hl with | [_], _ => rfl) ?a ?l ?c ?k; (case a => k_is); (case l => k_is); (case c => k_is); (case k => k_is))
    case d_standing_at => (refine' Nk.df_mk (st := Nk.s_standing_at) KX G (fun _ _ _ _ _ _ us hl => match us, hl with | [_, _], _ => rfl) ?a ?l ?c ?k; (case a => k_is); (case l => k_is); (case c => k_is); (case k => k_is))
    case d_turn => (refine' Nk.df_mk (st := Nk.s_turn) KX G (fun _ _ _ _ _ _ us hl => match us, hl with | [_], _ => rfl) ?a ?l ?c ?k; (case a => k_is); (case l => k_is); (case c => k_is); (case k => k_is))
    case d_full => (refine' Nk.df_mk (st := Nk.s_full) KX G (fun _ _ _ _ _ _ us hl => match us, hl with | [_], _ => rfl) ?a ?l ?c ?k; (case a => k_is); (case l => k_is); (case c => k_is); (case k => k_is))
    case d__law_town => (refine' Nk.df_mk (st := Nk.s__law_town) KX G (fun _ _ _ _ _ _ us hl => match us, hl with | [_], _ => rfl) ?a ?l ?c ?k; (case a => k_is); (case l => k_is); (case c => k_is); (case k => k_is))
    case d__law_draw => (refine' Nk.df_mk (st := Nk.s__law_draw) KX G (fun _ _ _ _ _ _ us hl => match us, hl with | [_, _, _], _ => rfl) ?a ?l ?c ?k; (case a => k_is); (case l => k_is); (case c => k_is); (case k => k_is))
    case d__law_pick => (refine' Nk.df_mk (st := Nk.s__law_pick) KX G (fun _ _ _ _ _ _ us hl => match us, hl with | [_, _, _], _ => rfl) ?a ?l ?c ?k; (case a => k_is); (case l => k_is); (case c => k_is); (case k => k_is))
    case d__law_word => (refine' Nk.df_mk (st := Nk.s__law_word) KX G (fun _ _ _ _ _ _ us hl => match us, hl with | [_], _ => rfl) ?a ?l ?c ?k; (case a => k_is); (case l => k_is); (case c => k_is); (case k => k_is))
    case d__law_refused => (refine' Nk.df_mk (st := Nk.s__law_refused) KX G (fun _ _ _ _ _ _ us hl => match us, hl with | [_], _ => rfl) ?a ?l ?c ?k; (case a => k_is); (case l => k_is); (case c => k_is); (case k => k_is))
    case d__law_told => (refine' Nk.df_mk (st := Nk.s__law_told) KX G (fun _ _ _ _ _ _ us hl => match us, hl with | [_, _], _ => rfl) ?a ?l ?c ?k; (case a => k_is); (case l => k_is); (case c => k_is); (case k => k_is))
    case d__law_whole => (refine' Nk.df_mk (st := Nk.s__law_whole) KX G (fun _ _ _ _ _ _ us hl => match us, hl with | [_], _ => rfl) ?a ?l ?c ?k; (case a => k_is); (case l => k_is); (case c => k_is); (case k => k_is))
    case d__law_wholes => (refine' Nk.df_mk (st := Nk.s__law_wholes) KX G (fun _ _ _ _ _ _ us hl => match us, hl with | [_], _ => rfl) ?a ?l ?c ?k; (case a => k_is); (case l => k_is); (case c => k_is); (case k => k_is))
    case d__law_rounds => (refine' Nk.df_mk (st := Nk.s__law_rounds) KX G (fun _ _ _ _ _ _ us hl => match us, hl with | [_, _, _, _], _ => rfl) ?a ?l ?c ?k; (case a => k_is); (case l => k_is); (case c => k_is); (case k => k_is))
    case d__law_spot => (refine' Nk.df_mk (st := Nk.s__law_spot) KX G (fun _ _ _ _ _ _ us hl => match us, hl with | [_, _], _ => rfl) ?a ?l ?c ?k; (case a => k_is); (case l => k_is); (case c => k_is); (case k => k_is))
    case d__law_rules => (refine' Nk.df_mk (st := Nk.s__law_rules) KX G (fun _ _ _ _ _ _ us hl => match us, hl with | [_, _, _, _, _, _], _ => rfl) ?a ?l ?c ?k; (case a => k_is); (case l => k_is); (case c => k_is); (case k => k_is))
    case d__law_one => (refine' Nk.df_mk (st := Nk.s__law_one) KX G (fun _ _ _ _ _ _ us hl => match us, hl with | [_, _], _ => rfl) ?a ?l ?c ?k; (case a => k_is); (case l => k_is); (case c => k_is); (case k => k_is))
    case d__law_counts => (refine' Nk.df_mk (st := Nk.s__law_counts) KX G (fun _ _ _ _ _ _ us hl => match us, hl with | [_, _], _ => rfl) ?a ?l ?c ?k; (case a => k_is); (case l => k_is); (case c => k_is); (case k => k_is))
    case d_law => (refine' Nk.df_mk (st := Nk.s_law) KX G (fun _ _ _ _ _ _ us hl => match us, hl with | [_], _ => rfl) ?a ?l ?c ?k; (case a => k_is); (case l => k_is); (case c => k_is); (case k => k_is))
    case x_KeepError => (refine' Nk.xc_mk KX G ?a ?x ?k ?b ?t; (case a => k_is); (case x => k_exc); (case k => k_is); (case b => k_is); (case t => k_is))
    case x_BadRounds => (refine' Nk.xc_mk KX G ?a ?x ?k ?b ?t; (case a => k_is); (case x => k_exc); (case k => k_is); (case b => k_is); (case t => k_is))
    case x_BadNight => (refine' Nk.xc_mk KX G ?a ?x ?k ?b ?t; (case a => k_is); (case x => k_exc); (case k => k_is); (case b => k_is); (case t => k_is))
    case x_BadNumber => (refine' Nk.xc_mk KX G ?a ?x ?k ?b ?t; (case a => k_is); (case x => k_exc); (case k => k_is); (case b => k_is); (case t => k_is))
    case x_BadRules => (refine' Nk.xc_mk KX G ?a ?x ?k ?b ?t; (case a => k_is); (case x => k_exc); (case k => k_is); (case b => k_is); (case t => k_is))
    case x_BadNights => (refine' Nk.xc_mk KX G ?a ?x ?k ?b ?t; (case a => k_is); (case x => k_exc); (case k => k_is); (case b => k_is); (case t => k_is))
    case x_Full => (refine' Nk.xc_mk KX G ?a ?x ?k ?b ?t; (case a => k_is); (case x => k_exc); (case k => k_is); (case b => k_is); (case t => k_is))
    case x_NotHeld => (refine' Nk.xc_mk KX G ?a ?x ?k ?b ?t; (case a => k_is); (case x => k_exc); (case k => k_is); (case b => k_is); (case t => k_is))
    case x_Pinned => (refine' Nk.xc_mk KX G ?a ?x ?k ?b ?t; (case a => k_is); (case x => k_exc); (case k => k_is); (case b => k_is); (case t => k_is))
    case x_NotPinned => (refine' Nk.xc_mk KX G ?a ?x ?k ?b ?t; (case a => k_is); (case x => k_exc); (case k => k_is); (case b => k_is); (case t => k_is))
    case x_BadState => (refine' Nk.xc_mk KX G ?a ?x ?k ?b ?t; (case a => k_is); (case x => k_exc); (case k => k_is); (case b => k_is); (case t => k_is))
    case x_BadPart => (refine' Nk.xc_mk KX G ?a ?x ?k ?b ?t; (case a => k_is); (case x => k_exc); (case k => k_is); (case b => k_is); (case t => k_is))
    case x_NotFit => (refine' Nk.xc_mk KX G ?a ?x ?k ?b ?t; (case a => k_is); (case x => k_exc); (case k => k_is); (case b => k_is); (case t => k_is))
    case x_IsWhole => (refine' Nk.xc_mk KX G ?a ?x ?k ?b ?t; (case a => k_is); (case x => k_exc); (case k => k_is); (case b => k_is); (case t => k_is))
    case x_BadPlan => (refine' Nk.xc_mk KX G ?a ?x ?k ?b ?t; (case a => k_is); (case x => k_exc); (case k => k_is); (case b => k_is); (case t => k_is))
    case x_Unlike => (refine' Nk.xc_mk KX G ?a ?x ?k ?b ?t; (case a => k_is); (case x => k_exc); (case k => k_is); (case b => k_is); (case t => k_is))
    case x_BadText => (refine' Nk.xc_mk KX G ?a ?x ?k ?b ?t; (case a => k_is); (case x => k_exc); (case k => k_is); (case b => k_is); (case t => k_is))
    case k_err => (refine' Nk.kc_mk KX G ?a ?l ?t ?d; (case a => k_is); (case l => k_is); (case t => k_is); (case d => k_is))
    case e_BadRounds => (refine' Nk.ec_mk KX G ?k ?a ?l ?t ?d ?h1 ?h2 ?h3 ?h4 ?h5; (case k => k_is); (case a => k_is); (case l => k_is); (case t => k_is); (case d => k_is); (case h1 => k_is); (case h2 => k_is); (case h3 => k_is); (case h4 => k_is); (case h5 => k_is))
    case e_BadNight => (refine' Nk.ec_mk KX G ?k ?a ?l ?t ?d ?h1 ?h2 ?h3 ?h4 ?h5; (case k => k_is); (case a => k_is); (case l => k_is); (case t => k_is); (case d => k_is); (case h1 => k_is); (case h2 => k_is); (case h3 => k_is); (case h4 => k_is); (case h5 => k_is))
    case e_BadNumber => (refine' Nk.ec_mk KX G ?k ?a ?l ?t ?d ?h1 ?h2 ?h3 ?h4 ?h5; (case k => k_is); (case a => k_is); (case l => k_is); (case t => k_is); (case d => k_is); (case h1 => k_is); (case h2 => k_is); (case h3 => k_is); (case h4 => k_is); (case h5 => k_is))
    case e_BadRules => (refine' Nk.ec_mk KX G ?k ?a ?l ?t ?d ?h1 ?h2 ?h3 ?h4 ?h5; (case k => k_is); (case a => k_is); (case l => k_is); (case t => k_is); (case d => k_is); (case h1 => k_is); (case h2 => k_is); (case h3 => k_is); (case h4 => k_is); (case h5 => k_is))
    case e_BadNights => (refine' Nk.ec_mk KX G ?k ?a ?l ?t ?d ?h1 ?h2 ?h3 ?h4 ?h5; (case k => k_is); (case a => k_is); (case l => k_is); (case t => k_is); (case d => k_is); (case h1 => k_is); (case h2 => k_is); (case h3 => k_is); (case h4 => k_is); (case h5 => k_is))
    case e_Elder => (refine' Nk.ec_mk KX G ?k ?a ?l ?t ?d ?h1 ?h2 ?h3 ?h4 ?h5; (case k => k_is); (case a => k_is); (case l => k_is); (case t => k_is); (case d => k_is); (case h1 => k_is); (case h2 => k_is); (case h3 => k_is); (case h4 => k_is); (case h5 => k_is))
    case e_Full => (refine' Nk.ec_mk KX G ?k ?a ?l ?t ?d ?h1 ?h2 ?h3 ?h4 ?h5; (case k => k_is); (case a => k_is); (case l => k_is); (case t => k_is); (case d => k_is); (case h1 => k_is); (case h2 => k_is); (case h3 => k_is); (case h4 => k_is); (case h5 => k_is))
    case e_NotHeld => (refine' Nk.ec_mk KX G ?k ?a ?l ?t ?d ?h1 ?h2 ?h3 ?h4 ?h5; (case k => k_is); (case a => k_is); (case l => k_is); (case t => k_is); (case d => k_is); (case h1 => k_is); (case h2 => k_is); (case h3 => k_is); (case h4 => k_is); (case h5 => k_is))
    case e_Pinned => (refine' Nk.ec_mk KX G ?k ?a ?l ?t ?d ?h1 ?h2 ?h3 ?h4 ?h5; (case k => k_is); (case a => k_is); (case l => k_is); (case t => k_is); (case d => k_is); (case h1 => k_is); (case h2 => k_is); (case h3 => k_is); (case h4 => k_is); (case h5 => k_is))
    case e_NotPinned => (refine' Nk.ec_mk KX G ?k ?a ?l ?t ?d ?h1 ?h2 ?h3 ?h4 ?h5; (case k => k_is); (case a => k_is); (case l => k_is); (case t => k_is); (case d => k_is); (case h1 => k_is); (case h2 => k_is); (case h3 => k_is); (case h4 => k_is); (case h5 => k_is))
    case e_BadState => (refine' Nk.ec_mk KX G ?k ?a ?l ?t ?d ?h1 ?h2 ?h3 ?h4 ?h5; (case k => k_is); (case a => k_is); (case l => k_is); (case t => k_is); (case d => k_is); (case h1 => k_is); (case h2 => k_is); (case h3 => k_is); (case h4 => k_is); (case h5 => k_is))
    case e_BadPart => (refine' Nk.ec_mk KX G ?k ?a ?l ?t ?d ?h1 ?h2 ?h3 ?h4 ?h5; (case k => k_is); (case a => k_is); (case l => k_is); (case t => k_is); (case d => k_is); (case h1 => k_is); (case h2 => k_is); (case h3 => k_is); (case h4 => k_is); (case h5 => k_is))
    case e_NotFit => (refine' Nk.ec_mk KX G ?k ?a ?l ?t ?d ?h1 ?h2 ?h3 ?h4 ?h5; (case k => k_is); (case a => k_is); (case l => k_is); (case t => k_is); (case d => k_is); (case h1 => k_is); (case h2 => k_is); (case h3 => k_is); (case h4 => k_is); (case h5 => k_is))
    case e_IsWhole => (refine' Nk.ec_mk KX G ?k ?a ?l ?t ?d ?h1 ?h2 ?h3 ?h4 ?h5; (case k => k_is); (case a => k_is); (case l => k_is); (case t => k_is); (case d => k_is); (case h1 => k_is); (case h2 => k_is); (case h3 => k_is); (case h4 => k_is); (case h5 => k_is))
    case e_BadPlan => (refine' Nk.ec_mk KX G ?k ?a ?l ?t ?d ?h1 ?h2 ?h3 ?h4 ?h5; (case k => k_is); (case a => k_is); (case l => k_is); (case t => k_is); (case d => k_is); (case h1 => k_is); (case h2 => k_is); (case h3 => k_is); (case h4 => k_is); (case h5 => k_is))
    case e_Unlike => (refine' Nk.ec_mk KX G ?k ?a ?l ?t ?d ?h1 ?h2 ?h3 ?h4 ?h5; (case k => k_is); (case a => k_is); (case l => k_is); (case t => k_is); (case d => k_is); (case h1 => k_is); (case h2 => k_is); (case h3 => k_is); (case h4 => k_is); (case h5 => k_is))
    case e_BadText => (refine' Nk.ec_mk KX G ?k ?a ?l ?t ?d ?h1 ?h2 ?h3 ?h4 ?h5; (case k => k_is); (case a => k_is); (case l => k_is); (case t => k_is); (case d => k_is); (case h1 => k_is); (case h2 => k_is); (case h3 => k_is); (case h4 => k_is); (case h5 => k_is))
    case b_RuntimeError => (refine' PySem.W.mg_none_of KX G ?a; (case a => k_is))
    case b_all => (refine' PySem.W.mg_none_of KX G ?a; (case a => k_is))
    case b_bool => (refine' PySem.W.mg_none_of KX G ?a; (case a => k_is))
    case b_int => (refine' PySem.W.mg_none_of KX G ?a; (case a => k_is))
    case b_isinstance => (refine' PySem.W.mg_none_of KX G ?a; (case a => k_is))
    case b_len => (refine' PySem.W.mg_none_of KX G ?a; (case a => k_is))
    case b_list => (refine' PySem.W.mg_none_of KX G ?a; (case a => k_is))
    case b_max => (refine' PySem.W.mg_none_of KX G ?a; (case a => k_is))
    case b_range => (refine' PySem.W.mg_none_of KX G ?a; (case a => k_is))
    case b_sorted => (refine' PySem.W.mg_none_of KX G ?a; (case a => k_is))
    case b_sum => (refine' PySem.W.mg_none_of KX G ?a; (case a => k_is))
    case b_tuple => (refine' PySem.W.mg_none_of KX G ?a; (case a => k_is))
