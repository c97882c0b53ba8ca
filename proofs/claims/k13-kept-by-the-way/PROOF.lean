import PyProof.Rows.All
import Wide.All
import OpenK.AllK
import Wide.FinOn
import HandS.ForMost
import HandS.ForExc
import HandS.IsInst
import HandS.Wide
import HandS.SortInts
import HandS.Zip
import HandS.Walk
import HandS.Evl
import HandS.More
import HandS.Conv
import HandS.ExcIs
import HandS.ExcField
import HandS.ExcInit
import KE.KDictSum
import KE.KTupSum
import PySem.Challenge.RW_nightkeep_k13_whole_kept_by_the_way
set_option Elab.async false
set_option linter.all false
set_option maxRecDepth 100000
set_option maxHeartbeats 4000000
/-! ### rounds: plain mathematics -/
namespace Nk
def pre (rs : List Int) (j : Nat) : Int := (rs.take j).sum
def walkR : List Int → Int → Int → Int
  | [], _, found => found
  | r :: rs, left, found => if left < r then found else walkR rs (left - r) (found + 1)
def numOf (rs : List Int) (n : Int) : Int := walkR rs (n % rs.sum) (n / rs.sum * rs.length)
def firstOf (rs : List Int) (k : Int) : Int := k / rs.length * rs.sum + pre rs (k % rs.length).toNat
/-- lengths: at least one, each at least 1 -/
structure Rnds (rs : List Int) : Prop where
  ne : rs ≠ []
  pos : ∀ r ∈ rs, 1 ≤ r
theorem pre_zero (rs : List Int) : pre rs 0 = 0 := by simp [pre]
theorem pre_cons (r : Int) (rs : List Int) (j : Nat) : pre (r :: rs) (j + 1) = r + pre rs j := by simp [pre]
theorem pre_len (rs : List Int) : pre rs rs.length = rs.sum := by simp [pre]
theorem pre_step : ∀ {rs : List Int} {j : Nat} {r : Int}, rs[j]? = some r → pre rs (j + 1) = pre rs j + r
  | [], _, _, h => by simp at h
  | a :: rs, 0, r, h => by
    have e : a = r := by simpa using h
    subst e
    rw [pre_cons, pre_zero, pre_zero]; omega
  | a :: rs, j + 1, r, h => by
    have ih := pre_step (rs := rs) (j := j) (r := r) (by simpa using h)
    rw [pre_cons, pre_cons, ih]; omega
theorem pre_mono {rs : List Int} (hp : ∀ r ∈ rs, 1 ≤ r) : ∀ {i j : Nat}, i ≤ j → j ≤ rs.length → pre rs i + ((j : Int) - (i : Int)) ≤ pre rs j := by
  intro i j hij hj
  induction j with
  | zero =>
    have : i = 0 := by omega
    subst this; simp
  | succ j ih =>
    by_cases h : i = j + 1
    · subst h; simp
    · have h1 := ih (by omega) (by omega)
      have hlt : j < rs.length := by omega
      have e := pre_step (List.getElem?_eq_getElem hlt)
      have p := hp _ (List.getElem_mem hlt)
      rw [e]
      omega
theorem pre_nonneg {rs : List Int} (hp : ∀ r ∈ rs, 1 ≤ r) {j : Nat} (hj : j ≤ rs.length) : (j : Int) ≤ pre rs j := by
  have := pre_mono hp (Nat.zero_le j) hj
  rw [pre_zero] at this
  omega
theorem sum_ge {rs : List Int} (hp : ∀ r ∈ rs, 1 ≤ r) : (rs.length : Int) ≤ rs.sum := by
  have := pre_nonneg hp (Nat.le_refl rs.length)
  rw [pre_len] at this
  exact this
theorem Rnds.len {rs : List Int} (h : Rnds rs) : 0 < rs.length := List.length_pos_iff.mpr h.ne
theorem Rnds.sum {rs : List Int} (h : Rnds rs) : 0 < rs.sum := by
  have := sum_ge h.pos
  have := h.len
  omega
theorem walkR_spec : ∀ (rs : List Int) (left found : Int), 0 ≤ left → left < rs.sum → ∃ j : Nat, j < rs.length ∧ walkR rs left found = found + j ∧ pre rs j ≤ left ∧ left < pre rs (j + 1)
  | [], left, found, h0, h1 => by simp at h1; omega
  | r :: rs, left, found, h0, h1 => by
    unfold walkR
    by_cases c : left < r
    · refine ⟨0, by simp, by simp [c], ?_, ?_⟩
      · rw [pre_zero]; exact h0
      · rw [pre_cons, pre_zero]; omega
    · rw [if_neg c]
      obtain ⟨j, hj, e, h2, h3⟩ := walkR_spec rs (left - r) (found + 1) (by omega) (by rw [List.sum_cons] at h1; omega)
      refine ⟨j + 1, by simp; omega, ?_, ?_, ?_⟩
      · rw [e]; push_cast; omega
      · rw [pre_cons]; omega
      · rw [pre_cons]; omega
theorem pre_uniq {rs : List Int} (hp : ∀ r ∈ rs, 1 ≤ r) {i j : Nat} (hi : i < rs.length) (hj : j < rs.length) {x : Int} (h1 : pre rs i ≤ x) (h2 : x < pre rs (i + 1)) (h3 : pre rs j ≤ x) (h4 : x < pre rs (j + 1)) : i = j := by
  by_cases h : i < j
  · have := pre_mono hp (i := i + 1) (j := j) (by omega) (by omega)
    omega
  · by_cases h' : j < i
    · have := pre_mono hp (i := j + 1) (j := i) (by omega) (by omega)
      omega
    · omega
theorem emod_nat {k : Int} {n : Nat} (h : 0 < n) : ∃ j : Nat, j < n ∧ k % (n : Int) = (j : Int) ∧ (j : Int) + (n : Int) * (k / (n : Int)) = k := by
  have h0 := Int.emod_nonneg k (show (n : Int) ≠ 0 by omega)
  have h1 := Int.emod_lt_of_pos k (show (0 : Int) < n by omega)
  have h2 := Int.emod_add_mul_ediv k (n : Int)
  exact ⟨(k % n).toNat, by omega, by omega, by omega⟩
/-- a round, by its place in the turn -/
theorem firstOf_at {rs : List Int} (h : Rnds rs) (q : Int) {j : Nat} (hj : j ≤ rs.length) : firstOf rs (q * rs.length + j) = q * rs.sum + pre rs j := by
  have hl := h.len
  unfold firstOf
  by_cases e : j = rs.length
  · have h1 : (q * (rs.length : Int) + (j : Int)) / (rs.length : Int) = q + 1 ∧ (q * (rs.length : Int) + (j : Int)) % (rs.length : Int) = 0 := by
      rw [Int.ediv_emod_unique (by omega)]
      refine ⟨?_, by omega, by omega⟩
      rw [e, Int.mul_add, Int.mul_comm q]; omega
    rw [h1.1, h1.2, e, pre_len]
    show (q + 1) * rs.sum + pre rs (Int.toNat 0) = _
    rw [show Int.toNat 0 = 0 from rfl, pre_zero, Int.add_mul]
    omega
  · have h1 : (q * (rs.length : Int) + (j : Int)) / (rs.length : Int) = q ∧ (q * (rs.length : Int) + (j : Int)) % (rs.length : Int) = (j : Int) := by
      rw [Int.ediv_emod_unique (by omega)]
      refine ⟨?_, by omega, by omega⟩
      rw [Int.mul_comm q]; omega
    rw [h1.1, h1.2]
    simp
theorem firstOf_step {rs : List Int} (h : Rnds rs) (k : Int) {r : Int} (hr : rs[(k % rs.length).toNat]? = some r) : firstOf rs (k + 1) = firstOf rs k + r := by
  obtain ⟨j, hj, e, f⟩ := emod_nat (k := k) h.len
  rw [e] at hr
  have hr' : rs[j]? = some r := by simpa using hr
  have e1 : k = (k / rs.length) * rs.length + j := by rw [Int.mul_comm]; omega
  have a1 := firstOf_at h (k / rs.length) (Nat.le_of_lt hj)
  have a2 := firstOf_at h (k / rs.length) (Nat.succ_le_of_lt hj)
  rw [← e1] at a1
  have e2 : k / (rs.length : Int) * (rs.length : Int) + ((Nat.succ j : Nat) : Int) = k + 1 := by push_cast; omega
  rw [e2] at a2
  rw [a1, a2]
  show _ + pre rs (j + 1) = _
  rw [pre_step hr']
  omega
theorem get_round {rs : List Int} (h : Rnds rs) (k : Int) : ∃ r, rs[(k % rs.length).toNat]? = some r ∧ 1 ≤ r ∧ r ∈ rs := by
  obtain ⟨j, hj, e, f⟩ := emod_nat (k := k) h.len
  refine ⟨rs[j], ?_, h.pos _ (List.getElem_mem hj), List.getElem_mem hj⟩
  rw [e]
  simpa using List.getElem?_eq_getElem hj
theorem firstOf_lt {rs : List Int} (h : Rnds rs) (k : Int) : firstOf rs k + 1 ≤ firstOf rs (k + 1) := by
  obtain ⟨r, h1, h2, _⟩ := get_round h k
  rw [firstOf_step h k h1]
  omega
theorem firstOf_zero {rs : List Int} (h : Rnds rs) : firstOf rs 0 = 0 := by
  have := firstOf_at h 0 (Nat.zero_le rs.length)
  simp [pre_zero] at this
  exact this
/-- a night between a round's ends lies in it -/
theorem numOf_of {rs : List Int} (h : Rnds rs) {k m : Int} (h1 : firstOf rs k ≤ m) (h2 : m < firstOf rs (k + 1)) : numOf rs m = k := by
  obtain ⟨j, hj, e, f⟩ := emod_nat (k := k) h.len
  have e1 : k = (k / rs.length) * rs.length + j := by rw [Int.mul_comm]; omega
  have a1 := firstOf_at h (k / rs.length) (Nat.le_of_lt hj)
  have a2 := firstOf_at h (k / rs.length) (Nat.succ_le_of_lt hj)
  rw [← e1] at a1
  have e2 : k / (rs.length : Int) * (rs.length : Int) + ((Nat.succ j : Nat) : Int) = k + 1 := by push_cast; omega
  rw [e2] at a2
  rw [a1] at h1
  rw [a2] at h2
  have b0 := pre_nonneg h.pos (Nat.le_of_lt hj)
  have b1 := pre_mono h.pos (i := j + 1) (j := rs.length) (by omega) (Nat.le_refl _)
  rw [pre_len] at b1
  have h2' : m < k / (rs.length : Int) * rs.sum + pre rs (j + 1) := h2
  have h3 : m / rs.sum = k / rs.length ∧ m % rs.sum = m - (k / rs.length) * rs.sum := by
    rw [Int.ediv_emod_unique h.sum]
    refine ⟨by rw [Int.mul_comm rs.sum]; omega, by omega, by omega⟩
  unfold numOf
  rw [h3.1, h3.2]
  obtain ⟨i, hi, w, p1, p2⟩ := walkR_spec rs (m - k / ↑rs.length * rs.sum) (k / ↑rs.length * ↑rs.length) (by omega) (by omega)
  rw [w]
  have : i = j := pre_uniq h.pos hi hj p1 p2 (by omega) (by omega)
  subst this
  omega
/-- each night lies between the ends of its round -/
theorem numOf_spec {rs : List Int} (h : Rnds rs) (m : Int) : firstOf rs (numOf rs m) ≤ m ∧ m < firstOf rs (numOf rs m + 1) := by
  have hs := h.sum
  obtain ⟨i, hi, w, p1, p2⟩ := walkR_spec rs (m % rs.sum) (m / rs.sum * rs.length) (Int.emod_nonneg m (by omega)) (Int.emod_lt_of_pos m hs)
  have hm := Int.emod_add_mul_ediv m rs.sum
  have e : numOf rs m = m / rs.sum * rs.length + i := w
  have a1 := firstOf_at h (m / rs.sum) (Nat.le_of_lt hi)
  have a2 := firstOf_at h (m / rs.sum) (Nat.succ_le_of_lt hi)
  have e2 : m / rs.sum * (rs.length : Int) + ((Nat.succ i : Nat) : Int) = numOf rs m + 1 := by rw [e]; push_cast; omega
  rw [← e] at a1
  rw [e2] at a2
  rw [a1, a2]
  have c := Int.mul_comm rs.sum (m / rs.sum)
  refine ⟨by omega, ?_⟩
  show m < m / rs.sum * rs.sum + pre rs (i + 1)
  omega
theorem firstOf_mono {rs : List Int} (h : Rnds rs) (i : Int) : ∀ d : Nat, firstOf rs i + d ≤ firstOf rs (i + d)
  | 0 => by simp
  | d + 1 => by
    have h1 := firstOf_mono h i d
    have h2 := firstOf_lt h (i + d)
    push_cast
    rw [Int.add_assoc i d 1] at h2
    omega
theorem firstOf_le {rs : List Int} (h : Rnds rs) {i j : Int} (hij : i ≤ j) : firstOf rs i + (j - i) ≤ firstOf rs j := by
  have := firstOf_mono h i (j - i).toNat
  rw [show i + ((j - i).toNat : Int) = j by omega] at this
  omega
theorem firstOf_pos {rs : List Int} (h : Rnds rs) {k : Int} (hk : 0 ≤ k) : k ≤ firstOf rs k := by
  have := firstOf_le h hk
  rw [firstOf_zero h] at this
  omega
theorem numOf_nonneg {rs : List Int} (h : Rnds rs) {n : Int} (hn : 0 ≤ n) : 0 ≤ numOf rs n := by
  have h2 := (numOf_spec h n).2
  by_cases c : 0 ≤ numOf rs n
  · exact c
  · have := firstOf_le h (i := numOf rs n + 1) (j := 0) (by omega)
    rw [firstOf_zero h] at this
    omega
theorem numOf_le {rs : List Int} (h : Rnds rs) {n : Int} (hn : 0 ≤ n) : numOf rs n ≤ n := by
  have h1 := (numOf_spec h n).1
  have h2 := firstOf_pos h (numOf_nonneg h hn)
  omega
/-- later nights lie in no earlier rounds -/
theorem numOf_mono {rs : List Int} (h : Rnds rs) {m n : Int} (hmn : m ≤ n) : numOf rs m ≤ numOf rs n := by
  have h1 := (numOf_spec h m).1
  have h2 := (numOf_spec h n).2
  by_cases c : numOf rs m ≤ numOf rs n
  · exact c
  · have := firstOf_le h (i := numOf rs n + 1) (j := numOf rs m) (by omega)
    omega
/-- a whole turn later -/
theorem firstOf_turn {rs : List Int} (h : Rnds rs) (k : Int) : firstOf rs (k + rs.length) = firstOf rs k + rs.sum := by
  obtain ⟨j, hj, e, f⟩ := emod_nat (k := k) h.len
  have e1 : k = (k / rs.length) * rs.length + j := by rw [Int.mul_comm]; omega
  have a1 := firstOf_at h (k / rs.length) (Nat.le_of_lt hj)
  have a2 := firstOf_at h (k / rs.length + 1) (Nat.le_of_lt hj)
  rw [← e1] at a1
  have e2 : (k / rs.length + 1) * (rs.length : Int) + (j : Int) = k + rs.length := by rw [Int.add_mul]; omega
  rw [e2] at a2
  rw [a1, a2, Int.add_mul]
  omega
theorem numOf_turn {rs : List Int} (h : Rnds rs) (n : Int) : numOf rs (n + rs.sum) = numOf rs n + rs.length := by
  obtain ⟨h1, h2⟩ := numOf_spec h n
  have a1 := firstOf_turn h (numOf rs n)
  have a2 := firstOf_turn h (numOf rs n + 1)
  refine numOf_of h (by omega) ?_
  rw [show numOf rs n + (rs.length : Int) + 1 = numOf rs n + 1 + rs.length by omega]
  omega
theorem firstOf_ge {rs : List Int} (h : Rnds rs) : ∀ k : Nat, (k : Int) ≤ firstOf rs k
  | 0 => by rw [show ((0 : Nat) : Int) = 0 from rfl, firstOf_zero h]; omega
  | k + 1 => by
    have h1 := firstOf_ge h k
    have h2 := firstOf_lt h k
    push_cast
    omega
end Nk
/-! ### what rules keep: plain mathematics -/
namespace Nk
/-- going back through nights: those whose round is another one than that of the night gone through just before -/
def endsR (rs : List Int) : Option Int → List Int → List Int
  | _, [] => []
  | ah, n :: l => if ah = some (numOf rs n) then endsR rs (some (numOf rs n)) l else n :: endsR rs (some (numOf rs n)) l
def lastN (rs : List Int) (ah : Option Int) (l : List Int) : Option Int := match l.getLast? with
  | some n => some (numOf rs n)
  | none => ah
theorem lastN_cons (rs : List Int) (ah : Option Int) (n : Int) (l : List Int) : lastN rs ah (n :: l) = lastN rs (some (numOf rs n)) l := by
  unfold lastN
  cases l with
  | nil => rfl
  | cons m r => rw [List.getLast?_cons_cons]; cases h : (m :: r).getLast? <;> simp_all
theorem endsR_snoc (rs : List Int) : ∀ (l : List Int) (ah : Option Int) (n : Int), endsR rs ah (l ++ [n]) = endsR rs ah l ++ (if lastN rs ah l = some (numOf rs n) then [] else [n])
  | [], ah, n => by
    by_cases h : ah = some (numOf rs n) <;> simp [endsR, lastN, h]
  | m :: l, ah, n => by
    rw [lastN_cons]
    simp only [List.cons_append, endsR]
    rw [endsR_snoc rs l]
    split <;> simp
theorem lastN_snoc (rs : List Int) (ah : Option Int) (l : List Int) (n : Int) : lastN rs ah (l ++ [n]) = some (numOf rs n) := by
  simp [lastN]
/-- the last nights of the rounds, rising -/
def endsF (rs : List Int) : List Int → List Int
  | [] => []
  | [n] => [n]
  | n :: m :: l => if numOf rs n = numOf rs m then endsF rs (m :: l) else n :: endsF rs (m :: l)
theorem endsF_eq (rs : List Int) : ∀ ns : List Int, endsF rs ns = (endsR rs none ns.reverse).reverse
  | [] => rfl
  | [n] => by simp [endsF, endsR]
  | n :: m :: l => by
    rw [List.reverse_cons, endsR_snoc]
    have h : lastN rs none (m :: l).reverse = some (numOf rs m) := by simp [lastN]
    rw [h, List.reverse_append, ← endsF_eq rs (m :: l)]
    simp only [endsF, Option.some.injEq]
    by_cases e : numOf rs n = numOf rs m
    · rw [if_pos e, if_pos e.symm]; rfl
    · rw [if_neg e, if_neg (fun z => e z.symm)]; rfl
/-- what one rule keeps, the last one first -/
def keptBy (ru : List Int × Int) (ns : List Int) : List Int := (endsR ru.1 none ns.reverse).take ru.2.toNat
/-- .. rising -/
def keptUp (ru : List Int × Int) (ns : List Int) : List Int := (endsF ru.1 ns).drop ((endsF ru.1 ns).length - ru.2.toNat)
theorem keptUp_eq (ru : List Int × Int) (ns : List Int) : keptUp ru ns = (keptBy ru ns).reverse := by
  unfold keptUp keptBy
  rw [endsF_eq, List.length_reverse, List.reverse_take]
theorem endsR_sub (rs : List Int) : ∀ (l : List Int) (ah : Option Int), ∀ n ∈ endsR rs ah l, n ∈ l
  | [], _, n, h => by simp [endsR] at h
  | m :: l, ah, n, h => by
    simp only [endsR] at h
    split at h
    · exact List.mem_cons_of_mem _ (endsR_sub rs l _ n h)
    · rcases List.mem_cons.mp h with e | h
      · rw [e]; exact List.mem_cons_self
      · exact List.mem_cons_of_mem _ (endsR_sub rs l _ n h)
theorem keptBy_sub {ru : List Int × Int} {ns : List Int} {n : Int} (h : n ∈ keptBy ru ns) : n ∈ ns := by
  have := endsR_sub ru.1 _ _ n (List.mem_of_mem_take h)
  simpa using this
theorem mem_keptUp {ru : List Int × Int} {ns : List Int} {n : Int} : n ∈ keptUp ru ns ↔ n ∈ keptBy ru ns := by
  rw [keptUp_eq, List.mem_reverse]
/-- what rules keep, rising -/
def keptF (rules : List (List Int × Int)) (ns : List Int) : List Int := ns.filter fun n => rules.any fun ru => decide (n ∈ keptBy ru ns)
theorem mem_keptF {rules : List (List Int × Int)} {ns : List Int} {n : Int} : n ∈ keptF rules ns ↔ ∃ ru ∈ rules, n ∈ keptBy ru ns := by
  unfold keptF
  rw [List.mem_filter, List.any_eq_true]
  constructor
  · rintro ⟨_, ru, h1, h2⟩
    exact ⟨ru, h1, of_decide_eq_true h2⟩
  · rintro ⟨ru, h1, h2⟩
    exact ⟨keptBy_sub h2, ru, h1, decide_eq_true h2⟩
theorem keptF_rise {rules : List (List Int × Int)} {ns : List Int} (h : ns.Pairwise (· < ·)) : (keptF rules ns).Pairwise (· < ·) := h.filter _
/-- two rising lists with the same members are one -/
theorem rise_ext : ∀ {l m : List Int}, l.Pairwise (· < ·) → m.Pairwise (· < ·) → (∀ x, x ∈ l ↔ x ∈ m) → l = m
  | [], [], _, _, _ => rfl
  | [], y :: m, _, _, h => absurd ((h y).mpr List.mem_cons_self) (by simp)
  | x :: l, [], _, _, h => absurd ((h x).mp List.mem_cons_self) (by simp)
  | x :: l, y :: m, hl, hm, h => by
    obtain ⟨hx, hl'⟩ := List.pairwise_cons.mp hl
    obtain ⟨hy, hm'⟩ := List.pairwise_cons.mp hm
    have e : x = y := by
      rcases List.mem_cons.mp ((h x).mp List.mem_cons_self) with e | h1
      · exact e
      · rcases List.mem_cons.mp ((h y).mpr List.mem_cons_self) with e | h2
        · exact e.symm
        · have a := hx y h2
          have b := hy x h1
          omega
    subst e
    have : l = m := rise_ext hl' hm' fun z => by
      constructor
      · intro hz
        have hxz := hx z hz
        rcases List.mem_cons.mp ((h z).mp (List.mem_cons_of_mem _ hz)) with e | h1
        · omega
        · exact h1
      · intro hz
        have hxz := hy z hz
        rcases List.mem_cons.mp ((h z).mpr (List.mem_cons_of_mem _ hz)) with e | h1
        · omega
        · exact h1
    rw [this]
theorem rise_of_le {l : List Int} (h : l.Pairwise (· ≤ ·)) (nd : l.Nodup) : l.Pairwise (· < ·) := by
  have := h.and nd
  exact this.imp fun {a b} ⟨h1, h2⟩ => by omega
theorem take_prefix {α : Type} {l : List α} {p : List α} {k : Nat} (h : ∃ t, l = p ++ t) (hp : p.length = k) : p = l.take k := by
  obtain ⟨t, rfl⟩ := h
  subst hp
  simp
theorem endsR_pre (rs : List Int) (ah : Option Int) : ∀ (t l : List Int), ∃ u, endsR rs ah (l ++ t) = endsR rs ah l ++ u
  | [], l => ⟨[], by simp⟩
  | x :: t, l => by
    obtain ⟨u, hu⟩ := endsR_pre rs ah t (l ++ [x])
    rw [List.append_assoc, List.singleton_append] at hu
    rw [hu, endsR_snoc, List.append_assoc]
    exact ⟨_, rfl⟩
end Nk
/-! ### what is left by the way: plain mathematics -/
namespace Nk
theorem endsR_filter (rs : List Int) (p : Int → Bool) : ∀ (l : List Int) (ah : Option Int) (m : Nat), (∀ x ∈ (endsR rs ah l).take m, p x = true) → (endsR rs ah (l.filter p)).take m = (endsR rs ah l).take m
  | [], _, _, _ => rfl
  | x :: l, ah, m, h => by
    by_cases c : ah = some (numOf rs x)
    · have e : endsR rs ah (x :: l) = endsR rs ah l := by simp only [endsR]; rw [if_pos c, c]
      rw [e] at h ⊢
      rw [← endsR_filter rs p l ah m h]
      by_cases px : p x = true
      · rw [List.filter_cons_of_pos px]
        have e2 : endsR rs ah (x :: l.filter p) = endsR rs ah (l.filter p) := by simp only [endsR]; rw [if_pos c, c]
        rw [e2]
      · rw [List.filter_cons_of_neg px]
    · have e : endsR rs ah (x :: l) = x :: endsR rs (some (numOf rs x)) l := by simp only [endsR]; rw [if_neg c]
      rw [e] at h ⊢
      cases m with
      | zero => simp
      | succ m =>
        rw [List.take_succ_cons] at h ⊢
        have px := h x List.mem_cons_self
        rw [List.filter_cons_of_pos px]
        have e2 : endsR rs ah (x :: l.filter p) = x :: endsR rs (some (numOf rs x)) (l.filter p) := by simp only [endsR]; rw [if_neg c]
        rw [e2, List.take_succ_cons, endsR_filter rs p l _ m fun y hy => h y (List.mem_cons_of_mem _ hy)]
theorem keptBy_filter {ru : List Int × Int} {ns : List Int} {p : Int → Bool} (h : ∀ x ∈ keptBy ru ns, p x = true) : keptBy ru (ns.filter p) = keptBy ru ns := by
  unfold keptBy at h ⊢
  rw [← List.filter_reverse]
  exact endsR_filter _ p _ _ _ h
/-- a night more, and what is kept so far -/
theorem endsR_some (rs : List Int) (a : Int) : ∀ l : List Int, endsR rs (some a) l = match l with
    | [] => []
    | x :: _ => if a = numOf rs x then (endsR rs none l).tail else endsR rs none l
  | [] => rfl
  | x :: l => by
    simp only [endsR, Option.some.injEq, reduceCtorEq, if_false, List.tail_cons]
theorem endsR_head (rs : List Int) : ∀ l : List Int, (endsR rs none l).head? = l.head?
  | [] => rfl
  | x :: l => by simp [endsR]
def addTo (rs : List Int) (m : Nat) (n : Int) (k : List Int) : List Int := (n :: (match k with
  | [] => []
  | x :: t => if numOf rs n = numOf rs x then t else x :: t)).take m
theorem keptBy_snoc {ru : List Int × Int} (h : 1 ≤ ru.2) (ns : List Int) (n : Int) : keptBy ru (ns ++ [n]) = addTo ru.1 ru.2.toNat n (keptBy ru ns) := by
  unfold keptBy addTo
  rw [List.reverse_append, List.reverse_singleton, List.singleton_append]
  have e : endsR ru.1 none (n :: ns.reverse) = n :: endsR ru.1 (some (numOf ru.1 n)) ns.reverse := by simp [endsR]
  rw [e]
  obtain ⟨m, hm⟩ : ∃ m, ru.2.toNat = m + 1 := ⟨ru.2.toNat - 1, by omega⟩
  rw [hm, List.take_succ_cons, List.take_succ_cons]
  congr 1
  rw [endsR_some]
  cases hr : ns.reverse with
  | nil => simp [endsR]
  | cons x l =>
    simp only [endsR, reduceCtorEq, if_false, List.take_succ_cons]
    split
    · rw [List.tail_cons, List.take_take, Nat.min_self]
    · cases m with
      | zero => simp
      | succ m => simp [List.take_take]
/-- the last night is kept -/
theorem keptBy_last {ru : List Int × Int} (h : 1 ≤ ru.2) (ns : List Int) (n : Int) : ∃ t, keptBy ru (ns ++ [n]) = n :: t ∧ (t.length : Int) ≤ ru.2 - 1 := by
  rw [keptBy_snoc h]
  unfold addTo
  obtain ⟨m, hm⟩ : ∃ m, ru.2.toNat = m + 1 := ⟨ru.2.toNat - 1, by omega⟩
  rw [hm, List.take_succ_cons]
  refine ⟨_, rfl, ?_⟩
  rw [List.length_take]
  omega
theorem keptF_sub {rus : List (List Int × Int)} {ns : List Int} : ∀ n ∈ keptF rus ns, n ∈ ns := fun n h => (List.mem_filter.mp h).1
theorem keptF_congr {rus : List (List Int × Int)} {ns ms : List Int} (hn : ns.Pairwise (· < ·)) (hm : ms.Pairwise (· < ·)) (h : ∀ ru ∈ rus, keptBy ru ns = keptBy ru ms) : keptF rus ns = keptF rus ms :=
  rise_ext (keptF_rise hn) (keptF_rise hm) fun x => by
    rw [mem_keptF, mem_keptF]
    constructor
    · rintro ⟨ru, h1, h2⟩
      exact ⟨ru, h1, by rw [← h ru h1]; exact h2⟩
    · rintro ⟨ru, h1, h2⟩
      exact ⟨ru, h1, by rw [h ru h1]; exact h2⟩
theorem keptF_keptF {rus : List (List Int × Int)} {ns : List Int} (hn : ns.Pairwise (· < ·)) : keptF rus (keptF rus ns) = keptF rus ns := by
  refine keptF_congr (keptF_rise hn) hn fun ru hru => ?_
  unfold keptF
  refine keptBy_filter fun x hx => ?_
  rw [List.any_eq_true]
  exact ⟨ru, hru, decide_eq_true hx⟩
theorem keptF_last {rus : List (List Int × Int)} (h : ∀ ru ∈ rus, 1 ≤ ru.2) (hne : rus ≠ []) (ns : List Int) (n : Int) : ∃ t, keptF rus (ns ++ [n]) = t ++ [n] := by
  refine ⟨(ns.filter fun x => rus.any fun ru => decide (x ∈ keptBy ru (ns ++ [n]))), ?_⟩
  obtain ⟨ru, hru⟩ := List.exists_mem_of_ne_nil rus hne
  have hp : (rus.any fun ru => decide (n ∈ keptBy ru (ns ++ [n]))) = true := by
    rw [List.any_eq_true]
    refine ⟨ru, hru, decide_eq_true ?_⟩
    obtain ⟨t, e, _⟩ := keptBy_last (h ru hru) ns n
    rw [e]
    exact List.mem_cons_self
  unfold keptF
  rw [List.filter_append]
  congr 1
  exact List.filter_eq_self.mpr fun x hx => by rw [List.mem_singleton.mp hx]; exact hp
theorem drop_last (l : List Int) (n : Int) : (l ++ [n]).drop ((l ++ [n]).length - 1) = [n] := by simp
theorem keptF_end {rus : List (List Int × Int)} (h : ∀ ru ∈ rus, 1 ≤ ru.2) (hne : rus ≠ []) (ns : List Int) : (keptF rus ns).drop ((keptF rus ns).length - 1) = ns.drop (ns.length - 1) := by
  rcases List.eq_nil_or_concat ns with rfl | ⟨l, n, rfl⟩
  · rfl
  · rw [List.concat_eq_append]
    obtain ⟨t, e⟩ := keptF_last h hne l n
    rw [e, drop_last, drop_last]
theorem nodup_len : ∀ (l m : List Int), l.Nodup → (∀ x ∈ l, x ∈ m) → l.length ≤ m.length
  | [], _, _, _ => Nat.zero_le _
  | x :: l, m, hn, hs => by
    obtain ⟨h1, h2⟩ := List.nodup_cons.mp hn
    have hx := hs x List.mem_cons_self
    have h3 := nodup_len l (m.erase x) h2 fun y hy => by
      rw [List.mem_erase_of_ne (fun e => h1 (by rw [← e]; exact hy))]
      exact hs y (List.mem_cons_of_mem _ hy)
    rw [List.length_erase_of_mem hx] at h3
    have := List.length_pos_of_mem hx
    simp only [List.length_cons]
    omega
theorem rise_nodup {l : List Int} (h : l.Pairwise (· < ·)) : l.Nodup := h.imp fun {a b} h e => by omega
/-- no more are kept than all rules tell -/
theorem keptF_count {rus : List (List Int × Int)} (h : ∀ ru ∈ rus, 1 ≤ ru.2) {ns : List Int} (hn : ns.Pairwise (· < ·)) (hne : ns ≠ []) : ((keptF rus ns).length : Int) ≤ (rus.map (·.2)).sum - ((rus.length : Int) - 1) := by
  rcases List.eq_nil_or_concat ns with rfl | ⟨l, n, rfl⟩
  · exact absurd rfl hne
  · rw [List.concat_eq_append] at *
    have h1 := nodup_len (keptF rus (l ++ [n])) (n :: rus.flatMap fun ru => (keptBy ru (l ++ [n])).tail) (rise_nodup (keptF_rise hn)) fun x hx => by
      obtain ⟨ru, h1, h2⟩ := mem_keptF.mp hx
      obtain ⟨t, e, _⟩ := keptBy_last (h ru h1) l n
      rw [e] at h2
      rcases List.mem_cons.mp h2 with rfl | h2
      · exact List.mem_cons_self
      · refine List.mem_cons_of_mem _ (List.mem_flatMap.mpr ⟨ru, h1, ?_⟩)
        rw [e]
        exact h2
    have h2 : ∀ rs : List (List Int × Int), (∀ ru ∈ rs, 1 ≤ ru.2) → ((rs.flatMap fun ru => (keptBy ru (l ++ [n])).tail).length : Int) ≤ (rs.map (·.2)).sum - (rs.length : Int) := by
      intro rs
      induction rs with
      | nil => intro _; simp
      | cons ru rs ih =>
        intro hr
        have a := ih fun r hr' => hr r (List.mem_cons_of_mem _ hr')
        obtain ⟨t, e, b⟩ := keptBy_last (hr ru List.mem_cons_self) l n
        rw [List.flatMap_cons, List.length_append, e, List.tail_cons, List.map_cons, List.sum_cons, List.length_cons]
        push_cast
        omega
    have h3 := h2 rus h
    simp only [List.length_cons] at h1
    omega
/-- moved by whole turns -/
theorem numOf_turns {rs : List Int} (h : Rnds rs) (n : Int) : ∀ k : Nat, numOf rs (n + k * rs.sum) = numOf rs n + k * rs.length
  | 0 => by simp
  | k + 1 => by
    have ih := numOf_turns h n k
    have e : n + ((k + 1 : Nat) : Int) * rs.sum = n + k * rs.sum + rs.sum := by push_cast; rw [Int.add_mul]; omega
    rw [e, numOf_turn h, ih]
    push_cast
    rw [Int.add_mul]
    omega
theorem endsR_move {rs : List Int} {d e : Int} (h : ∀ n, numOf rs (n + d) = numOf rs n + e) : ∀ (l : List Int) (ah : Option Int), endsR rs (ah.map (· + e)) (l.map (· + d)) = (endsR rs ah l).map (· + d)
  | [], _ => rfl
  | x :: l, ah => by
    have ih := endsR_move h l (some (numOf rs x))
    rw [Option.map_some] at ih
    simp only [List.map_cons, endsR, h]
    have c : (ah.map (· + e) = some (numOf rs x + e)) ↔ ah = some (numOf rs x) := by
      cases ah with
      | none => simp
      | some a => simp
    by_cases c' : ah = some (numOf rs x)
    · rw [if_pos (c.mpr c'), if_pos c', ih]
    · rw [if_neg (fun z => c' (c.mp z)), if_neg c', List.map_cons, ih]
theorem keptBy_move {ru : List Int × Int} (hr : Rnds ru.1) {far : Int} (h0 : 0 ≤ far) (hd : ru.1.sum ∣ far) (ns : List Int) : keptBy ru (ns.map (· + far)) = (keptBy ru ns).map (· + far) := by
  obtain ⟨k, rfl⟩ := hd
  have hk : 0 ≤ k := by
    by_cases c : 0 ≤ k
    · exact c
    · have := Int.mul_neg_of_pos_of_neg hr.sum (show k < 0 by omega)
      omega
  have hm : ∀ n, numOf ru.1 (n + ru.1.sum * k) = numOf ru.1 n + k * ru.1.length := fun n => by
    have := numOf_turns hr n k.toNat
    rw [show (k.toNat : Int) = k by omega] at this
    rw [Int.mul_comm ru.1.sum]
    exact this
  unfold keptBy
  have := endsR_move hm ns.reverse none
  rw [Option.map_none] at this
  rw [← List.map_reverse, this, List.map_take]
theorem mem_map_add {l : List Int} {d x : Int} : x + d ∈ l.map (· + d) ↔ x ∈ l := by
  rw [List.mem_map]
  constructor
  · rintro ⟨y, hy, e⟩
    have : y = x := by omega
    rw [← this]; exact hy
  · intro h
    exact ⟨x, h, rfl⟩
theorem keptF_move {rus : List (List Int × Int)} (hr : ∀ ru ∈ rus, Rnds ru.1) {far : Int} (h0 : 0 ≤ far) (hd : ∀ ru ∈ rus, ru.1.sum ∣ far) (ns : List Int) : keptF rus (ns.map (· + far)) = (keptF rus ns).map (· + far) := by
  unfold keptF
  rw [List.filter_map]
  congr 1
  apply List.filter_congr
  intro x _
  simp only [Function.comp]
  rw [Bool.eq_iff_iff, List.any_eq_true, List.any_eq_true]
  constructor
  · rintro ⟨ru, h1, h2⟩
    refine ⟨ru, h1, ?_⟩
    rw [decide_eq_true_eq, keptBy_move (hr ru h1) h0 (hd ru h1), mem_map_add] at h2
    exact decide_eq_true h2
  · rintro ⟨ru, h1, h2⟩
    refine ⟨ru, h1, ?_⟩
    rw [decide_eq_true_eq, keptBy_move (hr ru h1) h0 (hd ru h1), mem_map_add]
    exact of_decide_eq_true h2
/-- by the way: what is left keeps the same -/
structure Way (rus : List (List Int × Int)) (all left : List Int) : Prop where
  sub : left.Sublist all
  kep : ∀ ru ∈ rus, keptBy ru left = keptBy ru all
theorem Way.snoc {rus : List (List Int × Int)} (h : ∀ ru ∈ rus, 1 ≤ ru.2) {all left : List Int} (w : Way rus all left) (n : Int) : Way rus (all ++ [n]) (left ++ [n]) :=
  ⟨w.sub.append (List.Sublist.refl _), fun ru hru => by rw [keptBy_snoc (h ru hru), keptBy_snoc (h ru hru), w.kep ru hru]⟩
theorem Way.cut {rus : List (List Int × Int)} {all left : List Int} (w : Way rus all left) {p : Int → Bool} (h : ∀ x ∈ keptF rus left, p x = true) : Way rus all (left.filter p) :=
  ⟨(List.filter_sublist (l := left)).trans w.sub, fun ru hru => by rw [keptBy_filter fun x hx => h x (mem_keptF.mpr ⟨ru, hru, hx⟩), w.kep ru hru]⟩
theorem Way.same {rus : List (List Int × Int)} {all left : List Int} (w : Way rus all left) (ha : all.Pairwise (· < ·)) : keptF rus left = keptF rus all := keptF_congr (ha.sublist w.sub) ha w.kep
def prodS (rus : List (List Int × Int)) : Int := rus.foldl (fun f ru => f * ru.1.sum) 1
theorem prodS_dvd : ∀ (rus : List (List Int × Int)) (a : Int), a ∣ rus.foldl (fun f ru => f * ru.1.sum) a ∧ ∀ ru ∈ rus, ru.1.sum ∣ rus.foldl (fun f ru => f * ru.1.sum) a
  | [], a => ⟨Int.dvd_refl _, fun ru h => by simp at h⟩
  | r :: rus, a => by
    obtain ⟨h1, h2⟩ := prodS_dvd rus (a * r.1.sum)
    simp only [List.foldl_cons]
    refine ⟨Int.dvd_trans (Int.dvd_mul_right _ _) h1, fun ru hru => ?_⟩
    rcases List.mem_cons.mp hru with rfl | hru
    · exact Int.dvd_trans (Int.dvd_mul_left _ _) h1
    · exact h2 ru hru
theorem prodS_pos {rus : List (List Int × Int)} (h : ∀ ru ∈ rus, 0 < ru.1.sum) : ∀ a : Int, 0 < a → 0 < rus.foldl (fun f ru => f * ru.1.sum) a := by
  induction rus with
  | nil => intro a ha; exact ha
  | cons r rus ih =>
    intro a ha
    exact ih (fun ru hru => h ru (List.mem_cons_of_mem _ hru)) _ (Int.mul_pos ha (h r List.mem_cons_self))
end Nk
/-! ### the layer's short words for this program -/
namespace Nk
open PySem L2 PySem.Spec PyProof.Rows
/-- a def of the top keeps a promise: called by its name -/
structure Fk (P : Program) (w : World) (K : PySem.W.Frag) (mg : Str → Option Value) (base : Heap) (CX : CXT) (k : Nat) (x : Str) (ps : List Str) (sp : Sp) : Prop where
  ex : ∃ (f : Addr) (fd : FuncData), mg x = some (.ref f) ∧ PySem.W.keepIn K (.ref f) = true ∧ Binds K fd ps [] ∧ FnOk P w K mg base CX k f fd ps sp
/-- a def as it stands behind the top -/
structure Df (K : PySem.W.Frag) (mg : Str → Option Value) (x qual : Str) (st : Stmt) (ps : List Str) : Prop where
  ex : ∃ (f : Addr) (fd : FuncData), Fun K x qual st f fd ∧ mg x = some (.ref f) ∧ Binds K fd ps []
section
variable {X : Cx} {CX : CXT} {k : Nat} {ps : List Str} {sp : Sp} {x : Str} {p pos : Pos} {e : Expr} {es : List Expr} {t : TA} {E : XK}
theorem pe_fn (F : Fk X.prog X.w X.K X.mg X.base CX k x ps sp) (hr : Room k X.A) (hg : Gl X x) (hx : Passes CX X E) (ha : PA X (e :: es) t) (hdb : (x == ("__debug__" : Str)) = false := by decide)
    (he : starEach (e :: es) X.env = (false, eval e X.env) :: starEach es X.env := by rfl) (hpl : (backTo pos (starEach es X.env)).any (·.1) = false := by rfl) :
    PE X (.Call (.Name x p) (e :: es) [] pos) (tCall sp [] E t) := by
  obtain ⟨f, fd, g, kp, b, G⟩ := F.ex
  exact pe_call G hr hg g kp b .nil hx ha hdb he hpl
theorem passX {X : Cx} {E : XK} (tk : Takes X (fun cls d _ H => E cls d H)) : Passes (L2.CX X.prog X.w) X E := passes_call tk (fun _ _ _ _ h => h)
end
/-- an own exception class without own __init__, over RuntimeError -/
structure Xc (K : PySem.W.Frag) (mg : Str → Option Value) (x : Str) (C : Addr) : Prop where
  gP : mg x = some (.ref C)
  xP : PySem.W.excIn K C [.type "RuntimeError", .type "Exception", .type "BaseException", .type "object"] "RuntimeError.__new__" = true
  kP : PySem.W.keepIn K (.ref C) = true
  bP : PySem.W.subIn K (.ref C) (.type "BaseException") = some true
  tP : PySem.W.typeIn K (.ref C) = some (.type "type")
theorem Xc.rs {X : Cx} {x : Str} {C : Addr} (h : Xc X.K X.mg x C) : Raises X (.ref C) := raises_own h.bP h.tP
/-! sum of a tuple -/
def rSumT (K : PySem.W.Frag) : List V → Hp → VK → Prop := fun vs H Q => ∃ (a : Addr) (ns : List Int), vs = [V.ref a] ∧ SqT K H a (ns.map V.int) ∧ Q (.int ns.sum) H
theorem cr_sumT {X : Cx} (hc : X.calm = true) : CallR X (.builtin "sum") (rSumT X.K) := by
  intro pins s σ H vs us Q I r h
  obtain ⟨a, ns, rfl, hs, q⟩ := h
  obtain ⟨its, rv, hl, _⟩ := I.tuple hs
  rw [Vals.ref1 r]
  have hi : IntsAre its ns := rv.ints
  obtain ⟨xs, hx⟩ := hi.allInts.items
  have hn : numsOf its.toArray.toList = ns := by rw [show its.toArray.toList = its from rfl, hi.numsOf]
  rw [hx] at hl hn
  rw [nums_intItems] at hn
  refine PySem.W.ktm_sumG (I.ok.hd hc) hl fun h' tk t' hk => ?_
  rw [preSum_eq, List.take_of_length_le (by simp), hn]
  exact ⟨.int _, H, I.kept hk, ⟨_, rfl⟩, q⟩
/-! heaps -/
/-- all but t is as it was -/
def But (t : Addr) (H H' : Hp) : Prop := ∀ b o, H b = some o → b ≠ t → H' b = some o
theorem But.refl {t : Addr} {H : Hp} : But t H H := fun _ _ h _ => h
theorem But.trans {t : Addr} {H H1 H2 : Hp} (a : But t H H1) (b : But t H1 H2) : But t H H2 := fun c o h n => b c o (a c o h n) n
theorem But.of {t : Addr} {H H' : Hp} (s : Same H H') : But t H H' := fun b o h _ => s b o h
theorem But.thenS {t : Addr} {H H1 H2 : Hp} (a : But t H H1) (b : Same H1 H2) : But t H H2 := a.trans (.of b)
theorem Same.thenB {t : Addr} {H H1 H2 : Hp} (a : Same H H1) (b : But t H1 H2) : But t H H2 := (But.of a).trans b
theorem same_upd {H : Hp} {p : Addr} {o : HO} (h : H p = none) : Same H (upd H p o) := fun b x e => by
  rw [upd_ne (ne_of_none e h)]
  exact e
theorem But.upd {t : Addr} {H : Hp} {o : HO} : But t H (upd H t o) := fun b x e n => by
  rw [upd_ne n]
  exact e
theorem But.tup {K : PySem.W.Frag} {t a : Addr} {H H' : Hp} {xs : List V} {l : List V} (b : But t H H') (ht : H t = some (.lst l)) (h : SqT K H a xs) : SqT K H' a xs := by
  rcases h with (h | ⟨o, h⟩) | h
  · exact .inl (.inl (b _ _ h (ne_of h ht (by intro z; cases z))))
  · exact .inl (.inr ⟨o, b _ _ h (ne_of h ht (by intro z; cases z))⟩)
  · exact .inr h
theorem But.lst {K : PySem.W.Frag} {t a : Addr} {H H' : Hp} {xs : List V} (b : But t H H') (ha : a ≠ t) (h : SqL K H a xs) : SqL K H' a xs := by
  rcases h with (h | ⟨o, h⟩) | h
  · exact .inl (.inl (b _ _ h ha))
  · exact .inl (.inr ⟨o, b _ _ h ha⟩)
  · exact .inr h
theorem Same.tup {K : PySem.W.Frag} {a : Addr} {H H' : Hp} {xs : List V} (e : Same H H') (h : SqT K H a xs) : SqT K H' a xs := by
  rcases h with (h | ⟨o, h⟩) | h
  · exact .inl (.inl (e _ _ h))
  · exact .inl (.inr ⟨o, e _ _ h⟩)
  · exact .inr h
theorem sqL {K : PySem.W.Frag} {H : Hp} {a : Addr} {xs : List V} (h : H a = some (.lst xs)) : SqL K H a xs := Or.inl (Or.inl h)
theorem sqT {K : PySem.W.Frag} {H : Hp} {a : Addr} {xs : List V} (h : H a = some (.tup xs)) : SqT K H a xs := Or.inl (Or.inl h)
theorem sz {n : Nat} (h : n ≤ 100000) : n ≤ sizeLine := Nat.le_trans h (by decide)
theorem szl {n : Nat} (h : n < 100000) : n < sizeLine := Nat.lt_of_lt_of_le h (by decide)
/-- a list that is read and is not t -/
def SqN (K : PySem.W.Frag) (H : Hp) (a t : Addr) (xs : List V) : Prop := (Rd H a (.lst xs) ∧ a ≠ t) ∨
    ∃ (o : Obj) (its : Array Value) (n : Nat), K.lookup a = some o ∧ o.cls = .type "list" ∧ o.dict = none ∧ o.data = .seq its n ∧ its.size ≤ sizeLine ∧ Vals xs its.toList
theorem SqN.l {K : PySem.W.Frag} {H : Hp} {a t : Addr} {xs : List V} (h : SqN K H a t xs) : SqL K H a xs := by
  rcases h with ⟨h, _⟩ | h
  · exact .inl h
  · exact .inr h
theorem SqN.but {K : PySem.W.Frag} {H H' : Hp} {a t : Addr} {xs : List V} (h : SqN K H a t xs) (b : But t H H') : SqN K H' a t xs := by
  rcases h with ⟨h | ⟨o, h⟩, n⟩ | h
  · exact .inl ⟨.inl (b _ _ h n), n⟩
  · exact .inl ⟨.inr ⟨o, b _ _ h n⟩, n⟩
  · exact .inr h
theorem SqN.same {K : PySem.W.Frag} {H H' : Hp} {a t : Addr} {xs : List V} (h : SqN K H a t xs) (b : Same H H') : SqN K H' a t xs := h.but (.of b)
theorem SqN.new {K : PySem.W.Frag} {H : Hp} {a t : Addr} {xs : List V} (h : SqL K H a xs) (ht : H t = none) : SqN K H a t xs := by
  rcases h with (h | ⟨o, h⟩) | h
  · exact .inl ⟨.inl h, ne_of_none h ht⟩
  · exact .inl ⟨.inr ⟨o, h⟩, ne_of_none h ht⟩
  · exact .inr h
theorem SqN.app {K : PySem.W.Frag} {H H' : Hp} {a t p : Addr} {xs : List V} {o : HO} (h : SqN K H' a t xs) (h0 : SqN K H a t xs) (hp : H p = none) : SqN K (upd H' p o) a t xs := by
  have sN : But p H' (upd H' p o) := But.upd
  rcases h0 with ⟨h' | ⟨o', h'⟩, n'⟩ | h'
  · rcases h with ⟨h | ⟨o, h⟩, n⟩ | h
    · exact .inl ⟨.inl (sN _ _ h (ne_of_none h' hp)), n⟩
    · exact .inl ⟨.inr ⟨o, sN _ _ h (ne_of_none h' hp)⟩, n⟩
    · exact .inr h
  · rcases h with ⟨h | ⟨o, h⟩, n⟩ | h
    · exact .inl ⟨.inl (sN _ _ h (ne_of_none h' hp)), n⟩
    · exact .inl ⟨.inr ⟨o, sN _ _ h (ne_of_none h' hp)⟩, n⟩
    · exact .inr h
  · exact .inr h'
theorem szN {n : Nat} (h : n ≤ 64) : (n ≤ sizeLine) = True := eq_true (sz (by omega))
/-! things -/
/-- what may be handed in, with the name of its type -/
inductive Thing (K : PySem.W.Frag) (H : Hp) : V → String → Prop
  | non : Thing K H .non "NoneType"
  | bl (b : Bool) : Thing K H (.bl b) "bool"
  | int (i : Int) : Thing K H (.int i) "int"
  | str (x : Str) : Thing K H (.str x) "str"
  | lst {a : Addr} {xs : List V} (h : H a = some (.lst xs)) : Thing K H (.ref a) "list"
  | tup {a : Addr} {xs : List V} (h : H a = some (.tup xs)) : Thing K H (.ref a) "tuple"
  | dic {a : Addr} {kvs : List (Key × V)} (h : H a = some (.dK kvs)) : Thing K H (.ref a) "dict"
theorem Thing.ty {K : PySem.W.Frag} {H : Hp} {x : V} {n : String} (h : Thing K H x n) : TyX K H x (.type n) := by
  cases h with
  | non => exact .base .non
  | bl b => exact .base (.bl b)
  | int i => exact .base (.int i)
  | str x => exact .base (.str x)
  | lst h => exact .base (.lst h)
  | tup h => exact .base (.tup h)
  | dic h => exact .base (.dK h)
theorem Thing.same {K : PySem.W.Frag} {H H' : Hp} {x : V} {n : String} (s : Same H H') (h : Thing K H x n) : Thing K H' x n := by
  cases h with
  | non => exact .non
  | bl b => exact .bl b
  | int i => exact .int i
  | str x => exact .str x
  | lst h => exact .lst (s _ _ h)
  | tup h => exact .tup (s _ _ h)
  | dic h => exact .dic (s _ _ h)
def isA (n : String) (T : String) : Bool := n == T || (n == "bool" && T == "int")
def tyNames : List String := ["NoneType", "bool", "int", "str", "list", "tuple", "dict"]
theorem Thing.mem {K : PySem.W.Frag} {H : Hp} {x : V} {n : String} (h : Thing K H x n) : n ∈ tyNames := by
  cases h <;> simp [tyNames]
theorem kit_all : ∀ n ∈ tyNames, ∀ T ∈ tyNames, kitB n T = some (isA n T) := by decide +kernel
theorem Thing.kit {K : PySem.W.Frag} {H : Hp} {x : V} {n : String} (h : Thing K H x n) {T : String} (hT : T ∈ tyNames) : PySem.W.kitOne K (.type n) (.type T) = some (isA n T) := kit_ty (kit_all n h.mem T hT)
/-- isinstance of a thing -/
theorem isi_thing {K : PySem.W.Frag} {H : Hp} {x : V} {n : String} {T : String} {Q : VK} (h : Thing K H x n) (hT : T ∈ tyNames) (q : Q (.bl (isA n T)) H) : rIsi K [x, .ty T] H Q :=
  ⟨x, .ty T, .type n, .type T, isA n T, rfl, .ty T, h.ty, h.kit hT, q⟩
def isWholeV : V → Bool
  | .int _ => true
  | _ => false
def isNumV (x : V) (lo : Int) (y : V) : Bool := match x, y with
  | .int i, .int hi => decide (lo ≤ i) && decide (i ≤ hi)
  | _, _ => false
end Nk
namespace Nk
open PySem L2 PySem.Spec PyProof.Rows
/-- where a class of the top stands -/
def cls (mg : Str → Option Value) (x : Str) : Addr := match mg x with
  | some (.ref a) => a
  | _ => 0
theorem cls_of {mg : Str → Option Value} {x : Str} {a : Addr} (h : mg x = some (.ref a)) : cls mg x = a := by
  unfold cls; rw [h]
section
variable {X : Cx} {x : Str} {i : Int} {z : Str} {pos : Pos}
theorem pe_globI (h : ∃ t, X.mg x = some (.int i t)) (hg : Gl X x) (hd : (x == ("__debug__" : Str)) = false := by decide) : PE X (.Name x pos) (tC (.int i)) := by
  obtain ⟨t, h⟩ := h
  exact pe_glob hg h ⟨_, rfl⟩ hd
theorem pe_globS (h : ∃ t, X.mg x = some (.str z t)) (hg : Gl X x) (hd : (x == ("__debug__" : Str)) = false := by decide) : PE X (.Name x pos) (tC (.str z)) := by
  obtain ⟨t, h⟩ := h
  exact pe_glob hg h ⟨_, rfl⟩ hd
end
section
variable {K : PySem.W.Frag} {h : Heap} {mg : Str → Option Value}
theorem df_mk {x qual : Str} {st : Stmt} {ps : List Str} {f : Addr} {oc : Value} {od an : Option Addr} {osl : Array (Option Value)} {kV doc pm cdv ct : Value} (X : K.In h) (G : h.Ns mainGlobals mg)
    (hb : ∀ (kV doc pm : Value) (an : Option Addr) (cdv ct : Value) (us : List Value), us.length = ps.length → bindArgs (PySem.W.fnOf x qual (defArgs st) (defBody st) (defScope st) .none kV doc pm an cdv ct) ⟨us, []⟩ = pure (ps.zip us))
    (a : PySem.W.nsIn K mainGlobals x = some (some (.ref f)))
    (l : K.lookup f = some ⟨oc, od, .func (PySem.W.fnOf x qual (defArgs st) (defBody st) (defScope st) .none kV doc pm an cdv ct), osl⟩)
    (c : PySem.W.codeIn K cdv qual = true) (k : PySem.W.keepIn K (.ref f) = true) : Df K mg x qual st ps := by
  have F := fun_mk (st := st) l c k
  exact ⟨f, _, F, PySem.W.mg_of X G a, F.binds hb⟩
theorem xc_mk {x : Str} {C : Addr} (X : K.In h) (G : h.Ns mainGlobals mg) (a : PySem.W.nsIn K mainGlobals x = some (some (.ref C)))
    (xP : PySem.W.excIn K C [.type "RuntimeError", .type "Exception", .type "BaseException", .type "object"] "RuntimeError.__new__" = true)
    (kP : PySem.W.keepIn K (.ref C) = true) (bP : PySem.W.subIn K (.ref C) (.type "BaseException") = some true) (tP : PySem.W.typeIn K (.ref C) = some (.type "type")) : Xc K mg x (cls mg x) := by
  have g := PySem.W.mg_of X G a
  rw [cls_of g]
  exact ⟨g, xP, kP, bP, tP⟩
theorem ci_mk {x : Str} {i : Int} {t : Tok} (X : K.In h) (G : h.Ns mainGlobals mg) (a : PySem.W.nsIn K mainGlobals x = some (some (.int i t))) : ∃ t, mg x = some (.int i t) := ⟨t, PySem.W.mg_of X G a⟩
theorem cs_mk {x z : Str} {t : Tok} (X : K.In h) (G : h.Ns mainGlobals mg) (a : PySem.W.nsIn K mainGlobals x = some (some (.str z t))) : ∃ t, mg x = some (.str z t) := ⟨t, PySem.W.mg_of X G a⟩
end
/-- the law's: a list of at most 63 ints is handed in, True comes out -/
def spLaw (K : PySem.W.Frag) : Sp := fun vs H Q _ => ∃ (a : Addr) (ns : List Int), vs = [.ref a] ∧ SqL K H a (ns.map V.int) ∧ ns.length ≤ 63 ∧ ∀ H', Q (.bl true) H'
theorem law_end {P : Program} {w : World} {K : PySem.W.Frag} {mg : Str → Option Value} {st : Stmt} {fa : Addr} {k : Nat} (hfa : mg "law" = some (.ref fa)) (D : Df K mg "law" "law" st ["script"])
    (hb : ∀ (kV doc pm : Value) (an : Option Addr) (cdv ct v : Value), bindArgs (PySem.W.fnOf "law" "law" (defArgs st) (defBody st) (defScope st) .none kV doc pm an cdv ct) ⟨[v], []⟩ = pure [(("script" : Str), v)])
    (G : ∀ (base : Heap) (f : Addr) (fd : FuncData), Fun K "law" "law" st f fd → FnOk P w K mg base CX0 k f fd ["script"] (spLaw K)) :
    ∃ fd : FuncData, (∀ (s : Shared) (v : Value), BindsTo s fd ⟨[v], []⟩ [("script", v)]) ∧ ∀ base : Heap, K.In base → base.Ns mainGlobals mg → FnOk P w K mg base CX0 k fa fd ["script"] (spLaw K) := by
  obtain ⟨f, fd, F, g, b⟩ := D.ex
  have e : fa = f := by
    have := hfa.symm.trans g
    cases this
    rfl
  subst e
  refine ⟨fd, fun s v => ?_, fun base _ _ => G base fa fd F⟩
  obtain ⟨oc, od, kV, doc, pm, an, cdv, ct, osl, rfl, lk, hcd⟩ := F.ex
  exact .of_eq (hb _ _ _ _ _ _ _)
end Nk
namespace Nk
open PySem L2 PySem.Spec PyProof.Rows
theorem Same.keepN {H H' : Hp} {t : Addr} {o : HO} (s : Same H H') (n : H t = none) : Same H (upd H' t o) := fun b x e => by
  rw [upd_ne (ne_of_none e n)]
  exact s b x e
/-- within a comprehension that leaves all else: G i is the list behind i items -/
structure LcP (H1 : Hp) (D : Addr) (G : Nat → List V) (i : Nat) (H : Hp) : Prop where
  same : Same H1 H
  at_ : H D = some (.lst (G i))
theorem LcP.push {H1 H H4 : Hp} {D : Addr} {G : Nat → List V} {i : Nat} {y : V} (p : LcP H1 D G i H) (hD : H1 D = none) (hl : (G i).length ≤ 99999) (s : Same H H4) (e : G (i + 1) = G i ++ [y]) :
    ∃ acc, H4 D = some (.lst acc) ∧ acc.length < sizeLine ∧ LcP H1 D G (i + 1) (upd H4 D (.lst (acc ++ [y]))) :=
  ⟨G i, s _ _ p.at_, szl (by omega), Same.keepN (p.same.trans s) hD, by rw [upd_same, e]⟩
theorem LcP.skip {H1 H H4 : Hp} {D : Addr} {G : Nat → List V} {i : Nat} (p : LcP H1 D G i H) (s : Same H H4) (e : G (i + 1) = G i) : LcP H1 D G (i + 1) H4 :=
  ⟨p.same.trans s, by rw [e]; exact s _ _ p.at_⟩
theorem lcT {K : PySem.W.Frag} {a : Addr} {xs : List V} {g : TG} {tt : TT} {te : TE} {vs : List Nat} {σ : L2.St} {H1 : Hp} {D : Addr} {Qd : Hp → Prop} (hD : H1 D = none) (hT : SqT K H1 a xs) (G : Nat → List V) (h0 : G 0 = [])
    (hs : ∀ i x H, xs[i]? = some x → LcP H1 D G i H → g x (wipe σ vs) H fun σ2 H2 => wipe σ2 vs = wipe σ vs ∧ tt σ2 H2 fun b H3 =>
      if b = true then te σ2 H3 fun y H4 => ∃ acc, H4 D = some (.lst acc) ∧ acc.length < sizeLine ∧ LcP H1 D G (i + 1) (upd H4 D (.lst (acc ++ [y]))) else LcP H1 D G (i + 1) H3) (hd : ∀ H, Same H1 H → H D = some (.lst (G xs.length)) → Qd H) :
    ∃ W : Nat → Nat → Hp → Prop, (∃ m, W 0 m (upd H1 D (.lst []))) ∧ ∀ i m H, W i m H →
      ((Itt K a).stop i H ∧ Qd H) ∨ ((Itt K a).go i H ∧ ∃ Nx : Hp → Prop, (∀ H', Nx H' → ∃ m', m' < m ∧ W (i + 1) m' H') ∧ ∀ x H', (Itt K a).yld i H x H' → g x (wipe σ vs) H' fun σ2 H2 => wipe σ2 vs = wipe σ vs ∧ tt σ2 H2 fun b H3 =>
        if b = true then te σ2 H3 fun y H4 => ∃ acc, H4 D = some (.lst acc) ∧ acc.length < sizeLine ∧ Nx (upd H4 D (.lst (acc ++ [y]))) else Nx H3) :=
  lc_tup (K := K) (a := a) (xs := xs) (LcP H1 D G) ⟨same_upd hD, by rw [h0]; exact upd_same⟩ (fun i H _ p => Same.tup p.same hT) hs fun H p => hd H p.same p.at_
theorem lcL {K : PySem.W.Frag} {a : Addr} {xs : List V} {g : TG} {tt : TT} {te : TE} {vs : List Nat} {σ : L2.St} {H1 : Hp} {D : Addr} {Qd : Hp → Prop} (hD : H1 D = none) (hT : SqL K H1 a xs) (G : Nat → List V) (h0 : G 0 = [])
    (hs : ∀ i x H, xs[i]? = some x → LcP H1 D G i H → g x (wipe σ vs) H fun σ2 H2 => wipe σ2 vs = wipe σ vs ∧ tt σ2 H2 fun b H3 =>
      if b = true then te σ2 H3 fun y H4 => ∃ acc, H4 D = some (.lst acc) ∧ acc.length < sizeLine ∧ LcP H1 D G (i + 1) (upd H4 D (.lst (acc ++ [y]))) else LcP H1 D G (i + 1) H3) (hd : ∀ H, Same H1 H → H D = some (.lst (G xs.length)) → Qd H) :
    ∃ W : Nat → Nat → Hp → Prop, (∃ m, W 0 m (upd H1 D (.lst []))) ∧ ∀ i m H, W i m H →
      ((Itl K a).stop i H ∧ Qd H) ∨ ((Itl K a).go i H ∧ ∃ Nx : Hp → Prop, (∀ H', Nx H' → ∃ m', m' < m ∧ W (i + 1) m' H') ∧ ∀ x H', (Itl K a).yld i H x H' → g x (wipe σ vs) H' fun σ2 H2 => wipe σ2 vs = wipe σ vs ∧ tt σ2 H2 fun b H3 =>
        if b = true then te σ2 H3 fun y H4 => ∃ acc, H4 D = some (.lst acc) ∧ acc.length < sizeLine ∧ Nx (upd H4 D (.lst (acc ++ [y]))) else Nx H3) :=
  lc_list (K := K) (a := a) (xs := xs) (LcP H1 D G) ⟨same_upd hD, by rw [h0]; exact upd_same⟩ (fun i H _ p => p.same.seq hT) hs fun H p => hd H p.same p.at_
theorem lcR {lo : Int} {n : Nat} {g : TG} {tt : TT} {te : TE} {vs : List Nat} {σ : L2.St} {H1 : Hp} {D : Addr} {Qd : Hp → Prop} (hD : H1 D = none) (G : Nat → List V) (h0 : G 0 = [])
    (hs : ∀ i H, i < n → LcP H1 D G i H → g (.int (lo + i)) (wipe σ vs) H fun σ2 H2 => wipe σ2 vs = wipe σ vs ∧ tt σ2 H2 fun b H3 =>
      if b = true then te σ2 H3 fun y H4 => ∃ acc, H4 D = some (.lst acc) ∧ acc.length < sizeLine ∧ LcP H1 D G (i + 1) (upd H4 D (.lst (acc ++ [y]))) else LcP H1 D G (i + 1) H3) (hd : ∀ H, Same H1 H → H D = some (.lst (G n)) → Qd H) :
    ∃ W : Nat → Nat → Hp → Prop, (∃ m, W 0 m (upd H1 D (.lst []))) ∧ ∀ i m H, W i m H →
      ((Itr lo n).stop i H ∧ Qd H) ∨ ((Itr lo n).go i H ∧ ∃ Nx : Hp → Prop, (∀ H', Nx H' → ∃ m', m' < m ∧ W (i + 1) m' H') ∧ ∀ x H', (Itr lo n).yld i H x H' → g x (wipe σ vs) H' fun σ2 H2 => wipe σ2 vs = wipe σ vs ∧ tt σ2 H2 fun b H3 =>
        if b = true then te σ2 H3 fun y H4 => ∃ acc, H4 D = some (.lst acc) ∧ acc.length < sizeLine ∧ Nx (upd H4 D (.lst (acc ++ [y]))) else Nx H3) :=
  lc_range (LcP H1 D G) ⟨same_upd hD, by rw [h0]; exact upd_same⟩ hs fun H p => hd H p.same p.at_
theorem take_next {α : Type} {l : List α} {i : Nat} {x : α} (h : l[i]? = some x) : l.take (i + 1) = l.take i ++ [x] := by
  rw [List.take_add_one, h]; rfl
theorem map_take_next {α β : Type} {l : List α} {i : Nat} {x : α} (f : α → β) (h : l[i]? = some x) : (l.take (i + 1)).map f = (l.take i).map f ++ [f x] := by
  rw [take_next h]; simp
theorem filter_take_next {α : Type} {l : List α} {i : Nat} {x : α} (f : α → Bool) (h : l[i]? = some x) : (l.take (i + 1)).filter f = (l.take i).filter f ++ (if f x = true then [x] else []) := by
  rw [take_next h, List.filter_append]; cases e : f x <;> simp [e]
theorem filter_len {α : Type} (l : List α) (f : α → Bool) (i : Nat) : ((l.take i).filter f).length ≤ l.length :=
  Nat.le_trans (List.length_filter_le _ _) (by simp; omega)
theorem lt_of_get {α : Type} {l : List α} {i : Nat} {x : α} (h : l[i]? = some x) : i < l.length := (List.getElem?_eq_some_iff.mp h).1
theorem mem_of_get {α : Type} {l : List α} {i : Nat} {x : α} (h : l[i]? = some x) : x ∈ l := List.mem_of_getElem? h
end Nk
namespace Nk
open PySem L2
theorem seq_k {t u : TS} {D : Ends} {σ : L2.St} {H : Hp} (h : ∀ Kt : L2.St → Hp → Prop, Kt = u D → t { D with nx := Kt } σ H) : tSeq t u D σ H := h _ rfl
theorem gCons_cons {t : TG} {u : TGs} {v : V} {r : List V} {σ : L2.St} {H : Hp} {Q : L2.St → Hp → Prop} : gCons t u (v :: r) σ H Q = t v σ H fun σ' H' => u r σ' H' Q := by
  simp only [gCons, List.cons.injEq]
  refine propext ⟨?_, fun h => ⟨v, r, ⟨rfl, rfl⟩, h⟩⟩
  rintro ⟨v', r', ⟨rfl, rfl⟩, h⟩
  exact h
theorem gNil_nil {σ : L2.St} {H : Hp} {Q : L2.St → Hp → Prop} : gNil [] σ H Q = Q σ H := by
  simp only [gNil, true_and]
theorem scal_ii {a b : Int} : scal (.int a) (.int b) = true := rfl
theorem scal_ss {a b : Str} : scal (.str a) (.str b) = true := rfl
theorem scal_bb {a b : Bool} : scal (.bl a) (.bl b) = true := rfl
theorem scal_nn : scal .non .non = true := rfl
theorem scal_ni {b : Int} : scal .non (.int b) = true := rfl
theorem scal_in {b : Int} : scal (.int b) .non = true := rfl
theorem scal_ns {b : Str} : scal .non (.str b) = true := rfl
theorem scal_sn {b : Str} : scal (.str b) .non = true := rfl
theorem scal_is {a : Int} {b : Str} : scal (.int a) (.str b) = true := rfl
theorem scal_si {a : Int} {b : Str} : scal (.str b) (.int a) = true := rfl
end Nk
namespace Nk
open PySem L2
/-- what a for asks when its iterator stands -/
def ForW (J : It) (g : TG) (tb : TS) (D : Ends) (σ : L2.St) (H : Hp) : Prop := ∃ W : Nat → Nat → L2.St → Hp → Prop, (∃ m, W 0 m σ H) ∧ ∀ i m σ H, W i m σ H →
  (J.stop i H ∧ D.nx σ H) ∨ (J.go i H ∧ ∃ N : L2.St → Hp → Prop, (∀ σ' H', N σ' H' → ∃ m', m' < m ∧ W (i + 1) m' σ' H') ∧ ∀ x H', J.yld i H x H' → g x σ H' fun σ2 H2 => tb { D with nx := N, ct := N, bk := D.nx } σ2 H2)
theorem tFor_k {wi : TI} {g : TG} {tb : TS} {D : Ends} {σ : L2.St} {H : Hp} : tFor wi g tb D σ H = wi σ H fun J H1 => ForW J g tb D σ H1 := rfl
/-- what a comprehension asks when its iterator and its list stand -/
def LcW (J : It) (g : TG) (tt : TT) (te : TE) (vs : List Nat) (σ : L2.St) (H1 : Hp) (D : Addr) (Qd : Hp → Prop) : Prop := ∃ W : Nat → Nat → Hp → Prop, (∃ m, W 0 m (upd H1 D (.lst []))) ∧ ∀ i m H, W i m H →
  (J.stop i H ∧ Qd H) ∨ (J.go i H ∧ ∃ Nx : Hp → Prop, (∀ H', Nx H' → ∃ m', m' < m ∧ W (i + 1) m' H') ∧ ∀ x H', J.yld i H x H' → g x (wipe σ vs) H' fun σ2 H2 => wipe σ2 vs = wipe σ vs ∧ tt σ2 H2 fun b H3 =>
    if b = true then te σ2 H3 fun y H4 => ∃ acc, H4 D = some (.lst acc) ∧ acc.length < sizeLine ∧ Nx (upd H4 D (.lst (acc ++ [y]))) else Nx H3)
theorem tLc_k {wi : TI} {g : TG} {tt : TT} {te : TE} {vs : List Nat} {σ : L2.St} {H : Hp} {Q : VK} : tLc wi g tt te vs σ H Q = wi σ H fun J H1 => ∀ D, H1 D = none → LcW J g tt te vs σ H1 D (fun H => Q (.ref D) H) := rfl
end Nk
/-! ### data compared by == -/
namespace Nk
open PySem L2
/-- data of depth at most k, without truths and dicts -/
def gd : Nat → PyData → Bool
  | _, .none => true
  | _, .int _ => true
  | _, .str x => PyData.strOk x
  | _, .bool _ => false
  | _, .dict _ => false
  | 0, .list _ => false
  | 0, .tuple _ => false
  | k + 1, .list xs => xs.all (gd k)
  | k + 1, .tuple xs => xs.all (gd k)
theorem gd_all {k : Nat} : ∀ {xs : List PyData}, xs.all (gd k) = true → ∀ x ∈ xs, gd k x = true := fun h x hx => List.all_eq_true.mp h x hx
theorem canLayAll_of : ∀ {xs : List PyData}, (∀ x ∈ xs, x.canLay0 = true) → PyData.canLayAll0 xs = true
  | [], _ => by simp [PyData.canLayAll0]
  | x :: xs, h => by
    have h1 := h x List.mem_cons_self
    have h2 := canLayAll_of (xs := xs) fun y hy => h y (List.mem_cons_of_mem _ hy)
    simp [PyData.canLayAll0, h1, h2]
theorem depthAll_le {k : Nat} : ∀ {xs : List PyData}, (∀ x ∈ xs, x.depth ≤ k) → PyData.depthAll xs ≤ k
  | [], _ => by simp [PyData.depthAll]
  | x :: xs, h => by
    have h1 := h x List.mem_cons_self
    have h2 := depthAll_le (xs := xs) fun y hy => h y (List.mem_cons_of_mem _ hy)
    simp only [PyData.depthAll]
    omega
theorem gd_lay : ∀ (k : Nat) (d : PyData), gd k d = true → d.canLay0 = true ∧ d.depth ≤ k
  | k, .none, _ => by simp [PyData.canLay0, PyData.depth]
  | k, .int _, _ => by simp [PyData.canLay0, PyData.depth]
  | k, .str x, h => by
    have h' : PyData.strOk x = true := by cases k <;> simpa [gd] using h
    simp [PyData.canLay0, PyData.depth, h']
  | k, .bool _, h => by cases k <;> simp [gd] at h
  | k, .dict _, h => by cases k <;> simp [gd] at h
  | 0, .list _, h => by simp [gd] at h
  | 0, .tuple _, h => by simp [gd] at h
  | k + 1, .list xs, h => by
    have h' : xs.all (gd k) = true := by simpa [gd] using h
    have a := gd_all h'
    simp only [PyData.canLay0, PyData.depth]
    exact ⟨canLayAll_of fun x hx => (gd_lay k x (a x hx)).1, Nat.succ_le_succ (depthAll_le fun x hx => (gd_lay k x (a x hx)).2)⟩
  | k + 1, .tuple xs, h => by
    have h' : xs.all (gd k) = true := by simpa [gd] using h
    have a := gd_all h'
    simp only [PyData.canLay0, PyData.depth]
    exact ⟨canLayAll_of fun x hx => (gd_lay k x (a x hx)).1, Nat.succ_le_succ (depthAll_le fun x hx => (gd_lay k x (a x hx)).2)⟩
theorem gd_shaped {k : Nat} {d : PyData} (h : gd k d = true) (hk : k ≤ 64 := by decide) : SeqAt.shaped d = true := by
  obtain ⟨h1, h2⟩ := gd_lay k d h
  unfold SeqAt.shaped
  rw [h1]
  simp
  omega
theorem eqvAll_iff : ∀ (xs ys : List PyData), (∀ x ∈ xs, ∀ y ∈ ys, PyData.eqv x y = true ↔ x = y) → (PyData.eqvAll xs ys = true ↔ xs = ys)
  | [], [], _ => by simp [PyData.eqvAll]
  | [], _ :: _, _ => by simp [PyData.eqvAll]
  | _ :: _, [], _ => by simp [PyData.eqvAll]
  | x :: xs, y :: ys, h => by
    have h1 := h x List.mem_cons_self y List.mem_cons_self
    have h2 := eqvAll_iff xs ys fun a ha b hb => h a (List.mem_cons_of_mem _ ha) b (List.mem_cons_of_mem _ hb)
    simp [PyData.eqvAll, h1, h2]
theorem eqv_iff : ∀ (k m : Nat) (d e : PyData), gd k d = true → gd m e = true → (PyData.eqv d e = true ↔ d = e)
  | k, m, .bool _, e, h, _ => by cases k <;> simp [gd] at h
  | k, m, .dict _, e, h, _ => by cases k <;> simp [gd] at h
  | k, m, .none, e, _, h => by
    cases e with
    | bool _ => cases m <;> simp [gd] at h
    | dict _ => cases m <;> simp [gd] at h
    | _ => simp [PyData.eqv]
  | k, m, .int i, e, _, h => by
    cases e with
    | bool _ => cases m <;> simp [gd] at h
    | dict _ => cases m <;> simp [gd] at h
    | _ => simp [PyData.eqv]
  | k, m, .str i, e, _, h => by
    cases e with
    | bool _ => cases m <;> simp [gd] at h
    | dict _ => cases m <;> simp [gd] at h
    | _ => simp [PyData.eqv]
  | 0, m, .list _, e, h, _ => by simp [gd] at h
  | 0, m, .tuple _, e, h, _ => by simp [gd] at h
  | k + 1, m, .list xs, e, hd, h => by
    cases e with
    | bool _ => cases m <;> simp [gd] at h
    | dict _ => cases m <;> simp [gd] at h
    | list ys =>
      cases m with
      | zero => simp [gd] at h
      | succ m =>
        have a := gd_all (k := k) (xs := xs) (by simpa [gd] using hd)
        have b := gd_all (k := m) (xs := ys) (by simpa [gd] using h)
        simp only [PyData.eqv, PyData.list.injEq]
        exact eqvAll_iff xs ys fun x hx y hy => eqv_iff k m x y (a x hx) (b y hy)
    | _ => simp [PyData.eqv]
  | k + 1, m, .tuple xs, e, hd, h => by
    cases e with
    | bool _ => cases m <;> simp [gd] at h
    | dict _ => cases m <;> simp [gd] at h
    | tuple ys =>
      cases m with
      | zero => simp [gd] at h
      | succ m =>
        have a := gd_all (k := k) (xs := xs) (by simpa [gd] using hd)
        have b := gd_all (k := m) (xs := ys) (by simpa [gd] using h)
        simp only [PyData.eqv, PyData.tuple.injEq]
        exact eqvAll_iff xs ys fun x hx y hy => eqv_iff k m x y (a x hx) (b y hy)
    | _ => simp [PyData.eqv]
theorem eqv_of_eq {k : Nat} {d e : PyData} (h : gd k d = true) (e1 : d = e) : PyData.eqv d e = true := by
  subst e1
  exact (eqv_iff k k d d h h).mpr rfl
theorem eqv_of_ne {k m : Nat} {d e : PyData} (h : gd k d = true) (h' : gd m e = true) (e1 : d ≠ e) : PyData.eqv d e = false := by
  cases q : PyData.eqv d e with
  | false => rfl
  | true => exact absurd ((eqv_iff k m d e h h').mp q) e1
/-- the data of lists of ints, of tuples of ints -/
abbrev dLI (ns : List Int) : PyData := .list (ns.map .int)
abbrev dTI (ns : List Int) : PyData := .tuple (ns.map .int)
theorem gd_int_all (k : Nat) (ns : List Int) : (ns.map PyData.int).all (gd k) = true := by
  rw [List.all_eq_true]
  intro x hx
  obtain ⟨i, _, rfl⟩ := List.mem_map.mp hx
  cases k <;> rfl
theorem gd_dLI {k : Nat} (ns : List Int) : gd (k + 1) (dLI ns) = true := by simp only [dLI, gd]; exact gd_int_all k ns
theorem gd_dTI {k : Nat} (ns : List Int) : gd (k + 1) (dTI ns) = true := by simp only [dTI, gd]; exact gd_int_all k ns
theorem dpAll_ints {K : PySem.W.Frag} {H : Hp} : ∀ ns : List Int, DpAll K H (ns.map V.int) (ns.map PyData.int)
  | [] => .nil
  | n :: ns => .cons (.int n) (dpAll_ints ns)
theorem dp_LI {K : PySem.W.Frag} {H : Hp} {a : Addr} {ns : List Int} (h : SqL K H a (ns.map V.int)) : Dp K H (.ref a) (dLI ns) := .lst h (dpAll_ints ns)
theorem dp_TI {K : PySem.W.Frag} {H : Hp} {a : Addr} {ns : List Int} (h : SqT K H a (ns.map V.int)) : Dp K H (.ref a) (dTI ns) := .tup h (dpAll_ints ns)
theorem dLI_inj {ns ms : List Int} : dLI ns = dLI ms ↔ ns = ms := by
  constructor
  · intro h
    have h' : ns.map PyData.int = ms.map PyData.int := PyData.list.inj h
    exact (List.map_inj_right (fun _ _ q => PyData.int.inj q)).mp h'
  · intro h; rw [h]
theorem dTI_inj {ns ms : List Int} : dTI ns = dTI ms ↔ ns = ms := by
  constructor
  · intro h
    have h' : ns.map PyData.int = ms.map PyData.int := PyData.tuple.inj h
    exact (List.map_inj_right (fun _ _ q => PyData.int.inj q)).mp h'
  · intro h; rw [h]
/-- == of two data -/
theorem eqD {K : PySem.W.Frag} {H : Hp} {x y : V} {d e : PyData} {Q : VK} {k m : Nat} (hd : Dp K H x d) (he : Dp K H y e) (gk : gd k d = true) (gm : gd m e = true) (h1 : d = e → Q (.bl true) H) (h2 : d ≠ e → Q (.bl false) H) (hk : k ≤ 64 := by decide) (hm : m ≤ 64 := by decide) : rEqD K x y H Q := by
  refine ⟨d, e, hd, he, gd_shaped gk hk, gd_shaped gm hm, ?_⟩
  by_cases c : d = e
  · rw [eqv_of_eq gk c]; exact h1 c
  · rw [eqv_of_ne gk gm c]; exact h2 c
theorem neD {K : PySem.W.Frag} {H : Hp} {x y : V} {d e : PyData} {Q : VK} {k m : Nat} (hd : Dp K H x d) (he : Dp K H y e) (gk : gd k d = true) (gm : gd m e = true) (h1 : d = e → Q (.bl false) H) (h2 : d ≠ e → Q (.bl true) H) (hk : k ≤ 64 := by decide) (hm : m ≤ 64 := by decide) : rNeD K x y H Q := by
  refine ⟨d, e, hd, he, gd_shaped gk hk, gd_shaped gm hm, ?_⟩
  by_cases c : d = e
  · rw [eqv_of_eq gk c]; exact h1 c
  · rw [eqv_of_ne gk gm c]; exact h2 c
/-- an item of a list, by its place -/
theorem ixL {K : PySem.W.Frag} {H : Hp} {p : Addr} {xs : List V} {i : Int} {j : Nat} {v : V} {Q : VK} (h : SqL K H p xs) (hi : i = (j : Int)) (e : xs[j]? = some v) (q : Q v H) : rIxL K (.ref p) (.int i) H Q :=
  ⟨p, xs, i, v, rfl, rfl, h, by rw [hi]; exact atI_nat e, q⟩
theorem ixT {K : PySem.W.Frag} {H : Hp} {p : Addr} {xs : List V} {i : Int} {j : Nat} {v : V} {Q : VK} (h : SqT K H p xs) (hi : i = (j : Int)) (e : xs[j]? = some v) (q : Q v H) : rIxT K (.ref p) (.int i) H Q :=
  ⟨p, xs, i, v, rfl, rfl, h, by rw [hi]; exact atI_nat e, q⟩
theorem setL {H : Hp} {p : Addr} {xs : List V} {i : Int} {j : Nat} {v : V} {Q : Hp → Prop} (h : H p = some (.lst xs)) (hi : i = (j : Int)) (e : j < xs.length) (q : Q (upd H p (.lst (xs.set j v)))) : rSetL (.ref p) (.int i) v H Q :=
  ⟨p, xs, i, j, rfl, rfl, h, by rw [hi]; unfold ixN; rw [if_pos (by omega), if_pos (by omega)]; simp, q⟩
theorem tyL {K : PySem.W.Frag} {H : Hp} {l : Addr} {xs : List V} (h : H l = some (.lst xs)) : tyV K "list" (.ref l) H := .inl ⟨rfl, _, SqL.of h⟩
theorem appR {H : Hp} {l : Addr} {xs : List V} {y : V} {Q : VK} (h : H l = some (.lst xs)) (hz : xs.length ≤ 99999) (q : Q .non (upd H l (.lst (xs ++ [y])))) : rAppend (.ref l) [y] H Q :=
  ⟨l, xs, y, rfl, rfl, h, szl (by omega), q⟩
theorem app {K : PySem.W.Frag} {H : Hp} {l : Addr} {xs : List V} {y : V} {Q : VK} (h : H l = some (.lst xs)) (hz : xs.length ≤ 99999) (q : Q .non (upd H l (.lst (xs ++ [y])))) : tyV K "list" (.ref l) H ∧ rAppend (.ref l) [y] H Q :=
  ⟨tyL h, l, xs, y, rfl, rfl, h, szl (by omega), q⟩
theorem Same.app {H H' : Hp} {p : Addr} {o : HO} (s : Same H H') (n : H p = none) : Same H (upd H' p o) := fun b x e => by
  rw [upd_ne (ne_of_none e n)]
  exact s b x e
theorem inV_ints (n : Int) (l : List Int) : inV (.int n) (l.map V.int) = decide (n ∈ l) := by
  unfold inV
  rw [List.any_map, Bool.eq_iff_iff, List.any_eq_true, decide_eq_true_eq]
  constructor
  · rintro ⟨x, hx, e⟩
    have : x = n := by simpa [eqV] using e
    rw [← this]; exact hx
  · intro h
    exact ⟨n, h, by simp [eqV]⟩
theorem flat_ints (l : List Int) : (l.map V.int).all flatV = true := by
  rw [List.all_eq_true]
  intro x hx
  obtain ⟨i, _, rfl⟩ := List.mem_map.mp hx
  rfl
end Nk
/-! ### d.keys() as a value; sorted of it -/
namespace Nk
open PySem L2 PySem.Spec PyProof.Rows
def KeysO (v d : Addr) : HO := .ext fun h => PySem.W.KdlKeysView h v d
theorem keysO_ok {P : Program} {w : World} {H : Hp} {h : Heap} {v d : Addr} (e : PySem.W.KdlKeysView h v d) : ObjOk P w H h v (KeysO v d) := by
  obtain ⟨o, ho, hc, hd⟩ := e
  exact ⟨⟨o, ho, hc, hd⟩, ⟨o, ho⟩, fun h1 h2 ⟨o', q, r⟩ k => ⟨o', k o' q, r⟩⟩
def rKeys : V → List V → Hp → VK → Prop := fun x xs H Q => ∃ (d : Addr) (kvs : List (Key × V)), x = .ref d ∧ xs = [] ∧ H d = some (.dK kvs) ∧ ∀ v, H v = none → Q (.ref v) (upd H v (KeysO v d))
section
variable {X : Cx}
theorem mt_keys : MtR X "dict.keys" rKeys := by
  intro pins s σ H x xs v us Q I rx rxs h
  obtain ⟨d, kvs, rfl, rfl, hd, q⟩ := h
  cases rx
  cases rxs
  obtain ⟨hz, hs0, vs, kv, hdo⟩ := I.hok d _ hd
  refine PySem.call_meetsIn F.slot_dict_keys hdo.typeIs F.entry_dict_keys (F.args_dict_keys_1 _) (PySem.W.kdl_meets_keys (mixKind X.prog X.w) d hs0) ⟨⟨vs, hdo⟩, ?_⟩
  refine ⟨.ref s.heap.objs.size, upd H s.heap.objs.size (KeysO s.heap.objs.size d), I.laid (t' := s.toks) (fun b ob q => Heap.get?_push_of_some _ q) (Nat.le_refl _) (keysO_ok ⟨_, Heap.get?_push_size _ rfl, rfl, rfl⟩), rfl, q _ (I.hok.fresh (Nat.le_refl _))⟩
/-- sorted(d.keys()), whole numbers, any number of them -/
def rSortedKI : List V → Hp → VK → Prop := fun xs H Q => ∃ (v d : Addr) (kvs : List (Key × V)) (ks : List Int), xs = [.ref v] ∧ H v = some (KeysO v d) ∧ H d = some (.dK kvs) ∧ kvs.map (·.1) = ks.map Sum.inl ∧
  ∀ (ys : List Int) (p : Addr), ys.Perm ks → ys.Pairwise (· ≤ ·) → H p = none → Q (.ref p) (upd H p (.lst (ys.map V.int)))
theorem cr_sortedKI (hcalm : X.calm = true) : CallR X (.builtin "sorted") rSortedKI := by
  intro pins s σ H xs us Q I r q
  obtain ⟨v, a, kvs, ks, ex, hv, hd, hks, q⟩ := q
  subst ex
  obtain ⟨u, eu, rx⟩ := vals1 r
  subst eu
  cases rx
  have hview : PySem.W.KdlKeysView s.heap v a := (I.hok v _ hv).1
  obtain ⟨z, lo, vs, rel, dd⟩ := I.hok a _ hd
  obtain ⟨ep, hat⟩ := dd.dictAt
  have hkeys : vs.map (·.1) = ks.map Sum.inl := rel.keys.symm.trans hks
  have hl : vs.length = ks.length := by
    have e := congrArg List.length hkeys
    rw [List.length_map, List.length_map] at e
    exact e
  have hl2 : kvs.length = vs.length := Paired.length rel
  have h16 : vs.length ≤ sizeLine := by omega
  refine Calls.call_function_entry PyProof.Rows.kind_sorted PyProof.Rows.plain_sorted PyProof.Rows.entry_sorted (PyProof.Rows.args_sorted1 _) ?_
  unfold Builtin.«sorted»
  refine wpAny_bind (m := checkCount "sorted" 1 1 _) (wpAny_pure ?_)
  refine wpAny_bind (PySem.W.kdu_collect (A := X.A.in1) (PySem.W.kdl_keys (knd := mixKind X.prog X.w) (r := v) (d := a) (kvs := vs) (ep := ep)) (I.ok.hd hcalm) ⟨hview, hat⟩ h16 fun h' tk acc hk hacc => ?_)
  have hal : acc.toList.length = ks.length := by rw [Array.length_toList, hacc.1, hl]
  have hS : IntsAre acc.toList ks := ints_each hal fun j v e => by
    obtain ⟨k, x, e1, e2⟩ := hacc.2 j v (by rw [← Array.getElem?_toList]; exact e)
    have e3 : (vs.map (·.1))[j]? = some k := by rw [List.getElem?_map, e1]; rfl
    rw [hkeys, List.getElem?_map] at e3
    cases e4 : ks[j]? with
    | none => rw [e4] at e3; cases e3
    | some y =>
      rw [e4] at e3
      have e5 : Sum.inl y = k := Option.some.inj e3
      subst e5
      rcases keyIs_shape (show keyIs (Sum.inl y) v = true from e2) with ⟨i, t, ek, ev⟩ | ⟨z, t, ek, ev⟩
      · cases ek
        exact ⟨y, t, rfl, ev⟩
      · cases ek
  have I1 : Inv X pins σ H { s with heap := h', toks := tk } := I.kept hk
  refine wpAny_bind (wpAny_newList ?_ (by rw [hal]; omega))
  have hoL : (h'.push (seqObj "list" acc.toList.toArray 0)).get? h'.objs.size = some (seqObj "list" acc.toList.toArray 0) := Heap.get?_push_size _ rfl
  show wpAny _ _ _ _ _ { s with heap := h'.push (seqObj "list" acc.toList.toArray 0), toks := tk }
  refine wpAny_bind (wpAny_holding (wpAny_call_entry PyProof.Rows.slot_list_sort ⟨_, hoL, rfl⟩ PyProof.Rows.entry_list_sort
    (SrtO.list_sort_ord (s := { s with heap := h'.push (seqObj "list" acc.toList.toArray 0), toks := tk }) SrtO.swo_int hoL (by rw [hal]; omega) (fun h2 => SrtO.ints_sortable hS h2) fun out g1 g2 => ⟨_, rfl, ?_⟩) (PyProof.Rows.args_list_sort _)))
  obtain ⟨k1, k2, k3⟩ := SrtO.ints_out hS g1 g2
  obtain ⟨e', he'⟩ := PyProof.Rows.sortedHeap_at (vs := acc.toList) (out := out.toArray) hoL
  have hlen : ((out.map SrtO.iv).map V.int).length ≤ sizeLine := by
    rw [List.length_map, k2.length_eq]
    omega
  refine wpAny_pure ⟨_, rfl, .ref h'.objs.size, upd H h'.objs.size (.lst ((out.map SrtO.iv).map V.int)), I1.laid (t' := tk) (fun b u e => ?_) (Nat.le_refl _)
    (show ObjOk X.prog X.w _ _ _ (.lst ((out.map SrtO.iv).map V.int)) from ⟨hlen, out, e', vals_of_ints k1, he'⟩), rfl, q _ _ k2 k3 (I1.hok.fresh (Nat.le_refl _))⟩
  have hb : b < h'.objs.size := Heap.lt_size e
  rw [PyProof.Rows.sortedHeap_old (Nat.ne_of_lt hb) (by rw [size_push']; exact Nat.lt_succ_of_lt hb)]
  exact Heap.get?_push_of_some _ e
end
end Nk
/-! ### the layer's rules with the written part named (for comprehensions, where the reading may not lean on the block) -/
namespace Nk
open PySem L2
section
variable {X : Cx} {K : PySem.W.Frag}
theorem op_inK (K : PySem.W.Frag) (h : X.K = K) : OpR X (compareOp .In) (rIn K false) := h ▸ op_in_seq
theorem op_notInK (K : PySem.W.Frag) (h : X.K = K) : OpR X (compareOp .NotIn) (rIn K true) := h ▸ op_notIn_seq
theorem ix_listK (K : PySem.W.Frag) (h : X.K = K) : IxR X (rIxL K) := h ▸ ix_list
theorem ix_tupK (K : PySem.W.Frag) (h : X.K = K) : IxR X (rIxT K) := h ▸ ix_tup
theorem sl_listK (K : PySem.W.Frag) (h : X.K = K) : SlR X (rSlL K) := h ▸ sl_list
theorem sl_tupK (K : PySem.W.Frag) (h : X.K = K) : SlR X (rSlT K) := h ▸ sl_tup
def rLenQ (K : PySem.W.Frag) : List V → Hp → VK → Prop := fun xs H Q => ∃ p ys, xs = [V.ref p] ∧ (SqL K H p ys ∨ SqT K H p ys) ∧ Q (.int ys.length) H
theorem call_lenK (K : PySem.W.Frag) (h : X.K = K) : CallR X (.builtin "len") (rLenQ K) := h ▸ call_len_seq
def rListQ (K : PySem.W.Frag) : List V → Hp → VK → Prop := fun xs H Q => ∃ p ys, xs = [V.ref p] ∧ (SqL K H p ys ∨ SqT K H p ys) ∧ ∀ l, H l = none → Q (.ref l) (upd H l (.lst ys))
theorem call_listK (K : PySem.W.Frag) (h : X.K = K) : CallR X (.type "list") (rListQ K) := h ▸ call_list_of
def rTupleQ (K : PySem.W.Frag) : List V → Hp → VK → Prop := fun xs H Q => ∃ p ys, xs = [V.ref p] ∧ ((SqL K H p ys ∧ ∀ l, H l = none → Q (.ref l) (upd H l (.tup ys))) ∨ (SqT K H p ys ∧ Q (.ref p) H))
theorem call_tupleK (K : PySem.W.Frag) (h : X.K = K) : CallR X (.type "tuple") (rTupleQ K) := h ▸ call_tuple_of
theorem cr_sumK (K : PySem.W.Frag) (h : X.K = K) (hc : X.calm = true) : CallR X (.builtin "sum") (rSum K) := h ▸ cr_sum hc
theorem cr_sumTK (K : PySem.W.Frag) (h : X.K = K) (hc : X.calm = true) : CallR X (.builtin "sum") (rSumT K) := h ▸ cr_sumT hc
theorem cr_allK (K : PySem.W.Frag) (h : X.K = K) (hc : X.calm = true) : CallR X (.builtin "all") (rAll K) := h ▸ cr_all hc
theorem cr_anyK (K : PySem.W.Frag) (h : X.K = K) (hc : X.calm = true) : CallR X (.builtin "any") (rAny K) := h ▸ cr_any hc
theorem cr_maxK (K : PySem.W.Frag) (h : X.K = K) (hc : X.calm = true) : CallR X (.builtin "max") (rMax K) := h ▸ cr_max hc
theorem cr_minK (K : PySem.W.Frag) (h : X.K = K) (hc : X.calm = true) : CallR X (.builtin "min") (rMin K) := h ▸ cr_min hc
theorem op_eqDK (K : PySem.W.Frag) (h : X.K = K) (hu : X.A.units + 64 < cLine) : OpR X (compareOp .Eq) (rEqD K) := h ▸ op_eqD hu
theorem op_neDK (K : PySem.W.Frag) (h : X.K = K) (hu : X.A.units + 64 < cLine) : OpR X (compareOp .NotEq) (rNeD K) := h ▸ op_neD hu
theorem op_catTK (K : PySem.W.Frag) (h : X.K = K) : OpR X (binaryOp .Add) (rCatT K) := h ▸ op_catT
theorem call_isiK_ (K : PySem.W.Frag) (h : X.K = K) : CallR X (.builtin "isinstance") (rIsi K) := h ▸ call_isi
theorem pi_listK {tg l : Expr} {tl : TE} (K : PySem.W.Frag) (h : X.K = K) (hl : PE X l tl) : PI X tg l (iList K tl) := h ▸ pi_list hl
theorem pi_tupK {tg l : Expr} {tl : TE} (K : PySem.W.Frag) (h : X.K = K) (hl : PE X l tl) : PI X tg l (iTup K tl) := h ▸ pi_tup hl
theorem pg_tupK {es : List Expr} {k : Nat} {t : TGs} {n : Nat} {pos : Pos} (K : PySem.W.Frag) (hK : X.K = K) (hc : X.calm = true) (h : PGs X es t)
    (hn : (assignEach es X.env).length = n := by rfl) (hst : (assignEach es X.env).findIdx? (·.1) = none := by rfl) : PG X (.Tuple es k pos) (gTup K n t) := hK ▸ pg_tup hc h hn hst
theorem pi_enumK {e : Expr} {ta : TA} {p pos tpos : Pos} {elts : List Expr} {kk : Nat} (K : PySem.W.Frag) (h : X.K = K) (hg : Gl X "enumerate") (hm : X.mg "enumerate" = none) (ha : PA X [e] ta) (hs : starEach [e] X.env = [(false, eval e X.env)] := by rfl) :
    PI X (.Tuple elts kk tpos) (.Call (.Name "enumerate" p) [e] [] pos) (iEnum K ta) := h ▸ pi_enum hg hm ha hs
theorem pi_zipK {e e2 : Expr} {ta : TA} {p pos tpos : Pos} {elts : List Expr} {kk : Nat} (K : PySem.W.Frag) (h : X.K = K) (hg : Gl X "zip") (hm : X.mg "zip" = none) (ha : PA X [e, e2] ta)
    (hs : starEach [e, e2] X.env = (false, eval e X.env) :: starEach [e2] X.env := by rfl) (hpl : (backTo pos (starEach [e2] X.env)).any (·.1) = false := by rfl) :
    PI X (.Tuple elts kk tpos) (.Call (.Name "zip" p) [e, e2] [] pos) (iZip K ta) := h ▸ pi_zip hg hm ha hs hpl
end
end Nk
namespace Nk
open PySem L2
def top (i : Nat) : Stmt := PySem.Challenge.pw_nightkeep_k13_whole_kept_by_the_way.main.body.getD i (.Pass ⟨0, 0, 0, 0⟩)
abbrev s_is_number : Stmt := top 6
abbrev s_is_rounds : Stmt := top 7
abbrev s_number_of : Stmt := top 8
abbrev s_is_rule : Stmt := top 11
abbrev s_look_rules : Stmt := top 12
abbrev s_look_nights : Stmt := top 13
abbrev s_kept_by : Stmt := top 14
abbrev s_kept_of : Stmt := top 15
abbrev s_kept : Stmt := top 16
abbrev s__law_town : Stmt := top 18
abbrev s__law_draw : Stmt := top 19
abbrev s__law_pick : Stmt := top 20
abbrev s__law_rounds : Stmt := top 21
abbrev s__law_rules : Stmt := top 22
abbrev s__law_nights : Stmt := top 23
abbrev s_law : Stmt := top 24
/-- what the walks ask of the top as it stands when it has run -/
structure Txt (K : PySem.W.Frag) (mg : Str → Option Value) : Prop where
  d_is_number : Df K mg "is_number" "is_number" s_is_number ["thing", "least", "most"]
  d_is_rounds : Df K mg "is_rounds" "is_rounds" s_is_rounds ["thing"]
  d_number_of : Df K mg "number_of" "number_of" s_number_of ["rounds", "night"]
  d_is_rule : Df K mg "is_rule" "is_rule" s_is_rule ["thing"]
  d_look_rules : Df K mg "look_rules" "look_rules" s_look_rules ["rules"]
  d_look_nights : Df K mg "look_nights" "look_nights" s_look_nights ["nights"]
  d_kept_by : Df K mg "kept_by" "kept_by" s_kept_by ["rule", "nights"]
  d_kept_of : Df K mg "kept_of" "kept_of" s_kept_of ["rules", "nights"]
  d_kept : Df K mg "kept" "kept" s_kept ["rules", "nights"]
  d__law_town : Df K mg "_law_town" "_law_town" s__law_town ["script"]
  d__law_draw : Df K mg "_law_draw" "_law_draw" s__law_draw ["script", "town", "many"]
  d__law_pick : Df K mg "_law_pick" "_law_pick" s__law_pick ["script", "town", "some"]
  d__law_rounds : Df K mg "_law_rounds" "_law_rounds" s__law_rounds ["script", "town", "long", "top"]
  d__law_rules : Df K mg "_law_rules" "_law_rules" s__law_rules ["script", "town", "many", "long", "top", "most_many"]
  d__law_nights : Df K mg "_law_nights" "_law_nights" s__law_nights ["script", "town", "many", "step"]
  d_law : Df K mg "law" "law" s_law ["script"]
  x_KeepError : Xc K mg "KeepError" (cls mg "KeepError")
  x_BadRules : Xc K mg "BadRules" (cls mg "BadRules")
  x_BadNights : Xc K mg "BadNights" (cls mg "BadNights")
  c_MOST_NIGHT : ∃ t, mg "MOST_NIGHT" = some (.int 1000000000 t)
  c_MOST_HELD : ∃ t, mg "MOST_HELD" = some (.int 100 t)
  b_all : mg "all" = none
  b_bool : mg "bool" = none
  b_int : mg "int" = none
  b_isinstance : mg "isinstance" = none
  b_len : mg "len" = none
  b_list : mg "list" = none
  b_min : mg "min" = none
  b_range : mg "range" = none
  b_reversed : mg "reversed" = none
  b_sorted : mg "sorted" = none
  b_sum : mg "sum" = none
  b_tuple : mg "tuple" = none
  b_zip : mg "zip" = none
end Nk
local macro_rules | `(tactic| walk_at "rd") => `(tactic| (try simp only [L2.tRet, L2.tAndV, L2.tOrV, L2.tNotV, L2.tCB, L2.tCons, L2.tNil, L2.tVar, L2.tC, L2.tChain, L2.tOp, L2.tUn, L2.rI, L2.rI0, L2.rU, L2.rEq, L2.rNe, L2.scal, L2.tTest, L2.tB, L2.tAnd, L2.tOr, L2.tNot, L2.tIf, L2.tIfS, L2.tSeq, L2.tNext, L2.tAsg, L2.gName, Nk.gCons_cons, Nk.gNil_nil, L2.gSub, L2.tDrop, L2.tRetN, L2.tCall, L2.tIsN, L2.tNotN, L2.tSl, L2.tPart, L2.tNoPart, L2.tPar, L2.tAug, L2.tBreak, L2.tCont, L2.tDisp, L2.tPairs, L2.tLstRg, L2.tRg1, L2.tRg2, Nk.rLenQ, Nk.rListQ, Nk.rTupleQ, L2.sDPut, L2.tBM, L2.tBM0, L2.tTup, L2.tLst, Nk.szN, Nat.reduceLeDiff, L2.tYes, L2.wipe, L2.start, L2.cxOf, List.map_cons, List.map_nil, List.cons_append, List.nil_append, List.append_nil, List.length_cons, List.length_nil, List.replicate, Nat.sub_self, Nat.zero_add, Nat.reduceAdd, Nat.reduceSub, List.set_cons_zero, List.set_cons_succ, List.getElem?_cons_zero, List.getElem?_cons_succ, Option.some.injEq, exists_and_left, exists_eq_left', exists_eq_left, L2.V.int.injEq, L2.V.bl.injEq, L2.V.str.injEq, L2.V.ref.injEq, true_and, and_true, decide_eq_true_eq, Bool.not_true, Bool.not_false, if_true, if_false, Bool.false_eq_true, reduceIte, List.cons.injEq, reduceCtorEq, decide_true, decide_false, decide_eq_false_iff_not, Bool.not_eq_true', Bool.not_not]))
local macro_rules | `(tactic| walk_at "rs") => `(tactic| (try simp only [L2.tRet, L2.tAndV, L2.tOrV, L2.tNotV, L2.tCB, L2.tCons, L2.tNil, L2.tVar, L2.tC, L2.tChain, L2.tOp, L2.tUn, L2.rI, L2.rI0, L2.rU, L2.rEq, L2.rNe, Nk.scal_ii, Nk.scal_ss, Nk.scal_bb, Nk.scal_nn, Nk.scal_ni, Nk.scal_in, Nk.scal_ns, Nk.scal_sn, Nk.scal_is, Nk.scal_si, L2.tTest, L2.tB, L2.tAnd, L2.tOr, L2.tNot, L2.tIf, L2.tIfS, L2.tNext, L2.tAsg, L2.gName, Nk.gCons_cons, Nk.gNil_nil, L2.gSub, L2.tDrop, L2.tRetN, L2.tCall, L2.tIsN, L2.tNotN, L2.tSl, L2.tPart, L2.tNoPart, L2.tPar, L2.tAug, L2.tBreak, L2.tCont, L2.tDisp, L2.tPairs, L2.tLstRg, L2.tRg1, L2.tRg2, Nk.rLenQ, Nk.rListQ, Nk.rTupleQ, L2.sDPut, L2.tBM, L2.tBM0, L2.tTup, L2.tLst, Nk.szN, Nat.reduceLeDiff, L2.tYes, L2.wipe, L2.start, L2.cxOf, List.map_cons, List.map_nil, List.cons_append, List.nil_append, List.append_nil, List.length_cons, List.length_nil, List.replicate, Nat.sub_self, Nat.zero_add, Nat.reduceAdd, Nat.reduceSub, List.set_cons_zero, List.set_cons_succ, List.getElem?_cons_zero, List.getElem?_cons_succ, Option.some.injEq, exists_and_left, exists_eq_left', exists_eq_left, L2.V.int.injEq, L2.V.bl.injEq, L2.V.str.injEq, L2.V.ref.injEq, true_and, and_true, decide_eq_true_eq, Bool.not_true, Bool.not_false, if_true, if_false, Bool.false_eq_true, reduceIte, List.cons.injEq, reduceCtorEq, decide_true, decide_false, decide_eq_false_iff_not, Bool.not_eq_true', Bool.not_not]))
local macro_rules | `(tactic| walk_at "rt") => `(tactic| (try simp only [L2.tRet, L2.tAndV, L2.tOrV, L2.tNotV, L2.tCB, L2.tCons, L2.tNil, L2.tVar, L2.tC, L2.tChain, L2.tOp, L2.tUn, L2.rI, L2.rI0, L2.rU, L2.rEq, L2.rNe, Nk.scal_ii, Nk.scal_ss, Nk.scal_bb, Nk.scal_nn, Nk.scal_ni, Nk.scal_in, Nk.scal_ns, Nk.scal_sn, Nk.scal_is, Nk.scal_si, L2.tTest, L2.tB, L2.tAnd, L2.tOr, L2.tNot, L2.tIf, L2.tIfS, L2.tNext, L2.tAsg, L2.gName, Nk.gCons_cons, Nk.gNil_nil, L2.gSub, L2.tDrop, L2.tRetN, L2.tCall, L2.tIsN, L2.tNotN, L2.tSl, L2.tPart, L2.tNoPart, L2.tPar, L2.tAug, L2.tBreak, L2.tCont, and_assoc, Nk.tFor_k, Nk.tLc_k, L2.iRng1, L2.iRng2, L2.iList, L2.iTup, L2.iRev, L2.iEnum, L2.iZip, L2.tDisp, L2.tPairs, L2.tLstRg, L2.tRg1, L2.tRg2, Nk.rLenQ, Nk.rListQ, Nk.rTupleQ, L2.sDPut, L2.tBM, L2.tBM0, L2.tTup, L2.tLst, Nk.szN, Nat.reduceLeDiff, L2.tYes, L2.wipe, L2.start, L2.cxOf, List.map_cons, List.map_nil, List.cons_append, List.nil_append, List.append_nil, List.length_cons, List.length_nil, List.replicate, Nat.sub_self, Nat.zero_add, Nat.reduceAdd, Nat.reduceSub, List.set_cons_zero, List.set_cons_succ, List.getElem?_cons_zero, List.getElem?_cons_succ, Option.some.injEq, exists_and_left, exists_eq_left', exists_eq_left, L2.V.int.injEq, L2.V.bl.injEq, L2.V.str.injEq, L2.V.ref.injEq, true_and, and_true, decide_eq_true_eq, Bool.not_true, Bool.not_false, if_true, if_false, Bool.false_eq_true, reduceIte, List.cons.injEq, reduceCtorEq, decide_true, decide_false, decide_eq_false_iff_not, Bool.not_eq_true', Bool.not_not]))
namespace Nk
open PySem L2
section
variable {P : Program} {w : World} {K : PySem.W.Frag} {mg : Str → Option Value} {base : Heap}
abbrev nm_is_number : List Str := ["thing", "least", "most"]
abbrev pm_is_number : List Str := ["thing", "least", "most"]
abbrev lv_is_number : Nat := 1
theorem sc_is_number : FnScope nm_is_number pm_is_number (defScope s_is_number) := ⟨rfl, rfl, rfl, by decide +kernel, rfl, by decide +kernel, by decide +kernel⟩
def sp_is_number (K : PySem.W.Frag) : Sp := fun vs H Q _ => ∃ (x : V) (n : String) (lo : Int) (y : V), vs = [x, .int lo, y] ∧ Thing K H x n ∧ (∀ i, x = .int i → ∃ hi, y = .int hi) ∧ Q (.bl (isNumV x lo y)) H
theorem f_is_number (T : Txt K mg) : Fk P w K mg base CX0 lv_is_number "is_number" pm_is_number (sp_is_number K) := by
  obtain ⟨f, fd, F, g, b⟩ := T.d_is_number.ex
  refine ⟨f, fd, g, F.kp, b, F.ok sc_is_number (fun vs H Q E h => ?_) (fun cdv A outer s H vs Q E hr h => ?_)⟩
  · obtain ⟨x, n, lo, y, rfl, _⟩ := h; rfl
  · obtain ⟨x, n, lo, y, rfl, hx, hy, q⟩ := h
    refine ⟨_, (pss_one (ps_ret (pe_and (pe_callB call_isi (by rfl) T.b_isinstance (by decide +kernel) (pa_cons (pv 0) (pa_cons (pe_bltn (v := .ty "int") (by rfl) T.b_int (by decide +kernel) rfl) pa_nil))) (pe_and (pe_not (pe_callB call_isi (by rfl) T.b_isinstance (by decide +kernel) (pa_cons (pv 0) (pa_cons (pe_bltn (v := .ty "bool") (by rfl) T.b_bool (by decide +kernel) rfl) pa_nil)))) (pe_one (pe_chain op_le op_le (pv 1) (pv 0) (pv 2))))))), ?_⟩
    walk_at "rd"
    refine isi_thing hx (by decide) ?_
    cases hx with
    | int i =>
      obtain ⟨hi, rfl⟩ := hy i rfl
      simp only [show isA "int" "int" = true from by decide]
      walk_at "rd"
      refine isi_thing (.int i) (by decide) ?_
      simp only [show isA "int" "bool" = false from by decide]
      walk_at "rd"
      simp only [isNumV] at q
      by_cases c : lo ≤ i
      · simpa [c] using q
      · simpa [c] using q
    | bl i =>
      simp only [show isA "bool" "int" = true from by decide]
      walk_at "rd"
      refine isi_thing (.bl i) (by decide) ?_
      simp only [show isA "bool" "bool" = true from by decide]
      walk_at "rd"
      exact q
    | _ => exact ⟨false, rfl, q⟩
/-- whether a thing is rounds -/
def isRoundsV (H : Hp) (x : V) : Bool := match x with
  | .ref a => match H a with
    | some (.tup xs) => decide (1 ≤ xs.length) && decide (xs.length ≤ 12) && xs.all fun y => isNumV y 1 (.int 31)
    | _ => false
  | _ => false
/-- a thing, and what is in it if it is a tuple -/
def Thing2 (K : PySem.W.Frag) (H : Hp) (x : V) : Prop := (∃ n, Thing K H x n) ∧ ∀ a xs, x = .ref a → H a = some (.tup xs) → xs.length ≤ 100000 ∧ ∀ y ∈ xs, ∃ m, Thing K H y m
abbrev nm_is_rounds : List Str := ["thing", "one"]
abbrev pm_is_rounds : List Str := ["thing"]
abbrev lv_is_rounds : Nat := 2
theorem sc_is_rounds : FnScope nm_is_rounds pm_is_rounds (defScope s_is_rounds) := ⟨rfl, rfl, rfl, by decide +kernel, rfl, by decide +kernel, by decide +kernel⟩
def sp_is_rounds (K : PySem.W.Frag) : Sp := fun vs H Q _ => ∃ (x : V), vs = [x] ∧ Thing2 K H x ∧ ∀ H', Same H H' → Q (.bl (isRoundsV H x)) H'
theorem f_is_rounds (T : Txt K mg) : Fk P w K mg base CX0 lv_is_rounds "is_rounds" pm_is_rounds (sp_is_rounds K) := by
  obtain ⟨f, fd, F, g, b⟩ := T.d_is_rounds.ex
  refine ⟨f, fd, g, F.kp, b, F.ok sc_is_rounds (fun vs H Q E h => ?_) (fun cdv A outer s H vs Q E hr h => ?_)⟩
  · obtain ⟨x, rfl, _⟩ := h; rfl
  · obtain ⟨x, rfl, ⟨⟨n, hx⟩, hin⟩, q⟩ := h
    refine ⟨_, (pss_cons (ps_if (PW.pt (pw_or (pt_not (pt_val (pe_callB call_isi (by rfl) T.b_isinstance (by decide +kernel) (pa_cons (pv 0) (pa_cons (pe_bltn (v := .ty "tuple") (by rfl) T.b_tuple (by decide +kernel) rfl) pa_nil))))) (pw_or1 (pt_not (pt_chain op_le op_le pe_int (pe_callB call_len_seq (by rfl) T.b_len PySem.boot_len (pa_cons (pv 0) pa_nil)) pe_int))))) (pss_one (ps_ret pe_bl)) pss_nil)
      (pss_one (ps_ret (pe_callB (cr_all rfl) (by rfl) T.b_all (by decide +kernel) (pa_cons (pe_lc (own := [("one", 1)]) (g := gName 1) (tt := tYes) (by rfl) sc_is_rounds.nd (pi_tup (pv 0)) (blkOk_by (own := [("one", 1)]) (N := nm_is_rounds) (sc := defScope s_is_rounds) (by decide +kernel)) (fun _ _ _ _ _ => (pg_name (i := 1) sc_is_rounds.nd rfl (Or.inl rfl))) (fun _ _ _ _ _ => pts_nil) (fun _ _ _ _ _ => (pe_fn (f_is_number T) (hr.mono (by decide)) (by rfl) pass0 (pa_cons (pv 1) (pa_cons pe_int (pa_cons pe_int pa_nil)))))) pa_nil))))), ?_⟩
    walk_at "rd"
    refine isi_thing hx (by decide) ?_
    cases hx with
    | @tup a xs ha =>
      obtain ⟨hz, hth⟩ := hin a xs rfl ha
      simp only [show isA "tuple" "tuple" = true from by decide]
      walk_at "rd"
      refine ⟨xs, .inr (sqT ha), ?_⟩
      have e0 : isRoundsV H (.ref a) = (decide (1 ≤ xs.length) && decide (xs.length ≤ 12) && xs.all fun y => isNumV y 1 (.int 31)) := by
        simp only [isRoundsV, ha]
      rw [e0] at q
      by_cases c1 : 1 ≤ xs.length
      · by_cases c2 : xs.length ≤ 12
        · have d1 : (1 : Int) ≤ (xs.length : Int) := by omega
          have d2 : (xs.length : Int) ≤ 12 := by omega
          simp only [d1, d2]
          walk_at "rd"
          refine ⟨_, rfl, a, rfl, ⟨xs, sqT ha⟩, fun D hD => ?_⟩
          refine lcT hD (sqT ha) (fun i => (xs.take i).map fun y => .bl (isNumV y 1 (.int 31))) rfl (fun i y H2 hy p => ?_) (fun H2 s2 hD2 => ?_)
          · walk_at "rd"
            obtain ⟨m, hm⟩ := hth y (mem_of_get hy)
            refine ⟨y, m, 1, .int 31, rfl, Thing.same p.same hm, fun _ _ => ⟨31, rfl⟩, ?_⟩
            exact p.push hD (by simp; omega) (Same.refl _) (map_take_next _ hy)
          · refine ⟨D, xs.map fun y => isNumV y 1 (.int 31), rfl, ?_, ?_⟩
            · rw [List.take_length] at hD2
              rw [List.map_map]
              exact sqL hD2
            · have := q H2 s2
              simpa [c1, c2, List.all_map, Function.comp_def] using this
        · have d1 : (1 : Int) ≤ (xs.length : Int) := by omega
          have d2 : ¬ (xs.length : Int) ≤ 12 := by omega
          simp only [d1, d2]
          walk_at "rd"
          simpa [c2] using q H (Same.refl H)
      · have d1 : ¬ (1 : Int) ≤ (xs.length : Int) := by omega
        simp only [d1]
        walk_at "rd"
        simpa [c1] using q H (Same.refl H)
    | _ => exact ⟨false, by rfl, by simpa [isRoundsV, *] using q H (Same.refl H)⟩
/-- rounds as a tuple that stands -/
structure RndsAt (H : Hp) (a : Addr) (rs : List Int) : Prop where
  at_ : H a = some (.tup (rs.map V.int))
  ok : Rnds rs
  le : ∀ r ∈ rs, r ≤ 31
  ln : rs.length ≤ 12
theorem RndsAt.same {H H' : Hp} {a : Addr} {rs : List Int} (h : RndsAt H a rs) (s : Same H H') : RndsAt H' a rs := ⟨s _ _ h.at_, h.ok, h.le, h.ln⟩
theorem RndsAt.but {H H' : Hp} {a t : Addr} {rs : List Int} {l : List V} (h : RndsAt H a rs) (s : But t H H') (ht : H t = some (.lst l)) : RndsAt H' a rs := ⟨s _ _ h.at_ (ne_of h.at_ ht (by intro z; cases z)), h.ok, h.le, h.ln⟩
theorem RndsAt.thing {H : Hp} {a : Addr} {rs : List Int} (h : RndsAt H a rs) : Thing2 K H (.ref a) := by
  refine ⟨⟨_, .tup h.at_⟩, fun b xs e hb => ?_⟩
  cases e
  rw [h.at_] at hb
  cases hb
  refine ⟨by have := h.ln; simp; omega, fun y hy => ?_⟩
  obtain ⟨i, _, rfl⟩ := List.mem_map.mp hy
  exact ⟨_, .int i⟩
theorem RndsAt.is {H : Hp} {a : Addr} {rs : List Int} (h : RndsAt H a rs) : isRoundsV H (.ref a) = true := by
  have h1 := h.ok.len
  have h2 := h.ln
  have h3 : rs.all (fun y => isNumV (V.int y) 1 (V.int 31)) = true := by
    rw [List.all_eq_true]
    intro y hy
    simp [isNumV, h.ok.pos y hy, h.le y hy]
  simp only [isRoundsV, h.at_, List.length_map, List.all_map, Function.comp_def, h3, Bool.and_true, Bool.and_eq_true, decide_eq_true_eq]
  omega
theorem sum_le31 : ∀ {rs : List Int}, (∀ r ∈ rs, r ≤ 31) → rs.sum ≤ 31 * rs.length
  | [], _ => by simp
  | r :: rs, h => by
    have h1 := h r List.mem_cons_self
    have h2 := sum_le31 (rs := rs) fun x hx => h x (List.mem_cons_of_mem _ hx)
    simp only [List.sum_cons, List.length_cons]
    push_cast
    omega
theorem RndsAt.sum_le {H : Hp} {a : Addr} {rs : List Int} (h : RndsAt H a rs) : rs.sum ≤ 372 := by
  have := sum_le31 h.le
  have := h.ln
  omega
abbrev nm_number_of : List Str := ["rounds", "night", "whole", "found", "left", "long"]
abbrev pm_number_of : List Str := ["rounds", "night"]
abbrev lv_number_of : Nat := 1
theorem sc_number_of : FnScope nm_number_of pm_number_of (defScope s_number_of) := ⟨rfl, rfl, rfl, by decide +kernel, rfl, by decide +kernel, by decide +kernel⟩
def sp_number_of : Sp := fun vs H Q _ => ∃ (a : Addr) (rs : List Int) (n : Int), vs = [.ref a, .int n] ∧ RndsAt H a rs ∧ Q (.int (numOf rs n)) H
def iv_number_of (a : Addr) (rs : List Int) (n : Int) (H : Hp) (i : Nat) (σ : L2.St) (H' : Hp) : Prop := H' = H ∧ ∃ (fo le : Int) (v : Option V), σ = [some (.ref a), some (.int n), some (.int rs.sum), some (.int fo), some (.int le), v] ∧ walkR (rs.drop i) le fo = numOf rs n
theorem f_number_of (T : Txt K mg) : Fk P w K mg base CX0 lv_number_of "number_of" pm_number_of sp_number_of := by
  obtain ⟨f, fd, F, g, b⟩ := T.d_number_of.ex
  refine ⟨f, fd, g, F.kp, b, F.ok sc_number_of (fun vs H Q E h => ?_) (fun cdv A outer s H vs Q E hr h => ?_)⟩
  · obtain ⟨a, rs, n, rfl, _⟩ := h; rfl
  · obtain ⟨a, rs, n, rfl, ha, q⟩ := h
    refine ⟨_, (pss_cons (ps_set (i := 2) sc_number_of.nd rfl (.inl rfl) (pe_callB (cr_sumT rfl) (by rfl) T.b_sum (by decide +kernel) (pa_cons (pv 0) pa_nil)))
      (pss_cons (ps_set (i := 3) sc_number_of.nd rfl (.inl rfl) (pe_op op_mul (pe_op op_fdiv (pv 1) (pv 2)) (pe_callB call_len_seq (by rfl) T.b_len PySem.boot_len (pa_cons (pv 0) pa_nil))))
      (pss_cons (ps_set (i := 4) sc_number_of.nd rfl (.inl rfl) (pe_op op_mod (pv 1) (pv 2)))
      (pss_cons (ps_for PassesOwn.never rfl (pi_tup (pv 0)) (pg_name (i := 5) sc_number_of.nd rfl (Or.inl rfl)) (pss_cons (ps_if (pt_cmpR op_lt (pv 4) (pv 5) (nomark _)) (pss_one (ps_ret (pv 3))) pss_nil)
      (pss_cons (ps_set (i := 4) sc_number_of.nd rfl (.inl rfl) (pe_op op_sub (pv 4) (pv 5)))
      (pss_one (ps_set (i := 3) sc_number_of.nd rfl (.inl rfl) (pe_op op_add (pv 3) pe_int))))))
      (pss_one (ps_ret (pv 3))))))), ?_⟩
    walk_at "rd"
    have hs := ha.ok.sum
    have hs' := ha.sum_le
    have hl := ha.ln
    refine ⟨a, rs, rfl, sqT ha.at_, ?_⟩
    walk_at "rd"
    refine ⟨⟨hs, by omega⟩, rs.map V.int, .inr (sqT ha.at_), .inr ⟨by simp; omega, by simp; omega⟩, hs, ?_⟩
    refine ⟨_, rfl, a, rfl, ⟨_, sqT ha.at_⟩, for_tup (K := K) (a := a) (xs := rs.map V.int) (iv_number_of a rs n H)
      ⟨rfl, _, _, _, rfl, by simp [numOf]⟩ (fun i σ H' _ p => by rw [p.1]; exact sqT ha.at_) ?_ ?_⟩
    · rintro i x σ H' hi ⟨rfl, fo, le, v, rfl, hw⟩
      rw [List.getElem?_map] at hi
      cases e : rs[i]? with
      | none => rw [e] at hi; cases hi
      | some r =>
        rw [e] at hi
        cases hi
        have hlt := lt_of_get e
        have ed : rs.drop i = r :: rs.drop (i + 1) := by
          rw [List.drop_eq_getElem_cons hlt]
          rw [(List.getElem?_eq_some_iff.mp e).2]
        rw [ed] at hw
        unfold walkR at hw
        walk_at "rd"
        by_cases c : le < r
        · rw [if_pos c] at hw
          rw [if_pos c, hw]
          exact q
        · rw [if_neg c] at hw
          rw [if_neg c]
          exact ⟨rfl, _, _, _, rfl, hw⟩
    · rintro σ H' ⟨rfl, fo, le, v, rfl, hw⟩
      rw [List.length_map, List.drop_length] at hw
      walk_at "rd"
      unfold walkR at hw
      rw [hw]
      exact q
theorem isNum_ok {n : Int} (h0 : 0 ≤ n) (h1 : n ≤ 1000000000) : isNumV (.int n) 0 (.int 1000000000) = true := by simp [isNumV, h0, h1]
end
end Nk
namespace Nk
open PySem L2
section
variable {P : Program} {w : World} {K : PySem.W.Frag} {mg : Str → Option Value} {base : Heap}
/-- the script at a and the town at t: c draws so far -/
structure Tn (K : PySem.W.Frag) (H : Hp) (a t : Addr) (ns : List Int) (c : Nat) : Prop where
  scr : SqN K H a t (ns.map V.int)
  len : ns.length ≤ 63
  town : ∃ ls : List Int, ls.length = ns.length ∧ H t = some (.lst (V.int c :: ls.map V.int))
theorem Tn.same {H H' : Hp} {a t : Addr} {ns : List Int} {c : Nat} (h : Tn K H a t ns c) (s : Same H H') : Tn K H' a t ns c := by
  obtain ⟨ls, e, ht⟩ := h.town
  exact ⟨h.scr.same s, h.len, ls, e, s _ _ ht⟩
theorem Tn.lst {H : Hp} {a t : Addr} {ns : List Int} {c : Nat} (h : Tn K H a t ns c) : ∃ l, H t = some (.lst l) := by
  obtain ⟨ls, e, ht⟩ := h.town
  exact ⟨_, ht⟩
theorem Tn.some_ {H : Hp} {a t : Addr} {ns : List Int} {c : Nat} (h : Tn K H a t ns c) {p : Addr} (hp : H p = none) : p ≠ t := by
  obtain ⟨l, hl⟩ := h.lst
  exact (ne_of_none hl hp).symm
/-- a tuple stays while the town changes -/
theorem Tn.tup {H H' : Hp} {a t p : Addr} {ns : List Int} {c : Nat} {xs : List V} (h : Tn K H a t ns c) (b : But t H H') (hp : H p = some (.tup xs)) : H' p = some (.tup xs) := by
  obtain ⟨l, hl⟩ := h.lst
  exact b _ _ hp (ne_of hp hl (by intro z; cases z))
/-- an object that was made since may change -/
theorem Tn.app {H H' : Hp} {a t p : Addr} {ns : List Int} {c c0 : Nat} {o : HO} (h : Tn K H' a t ns c) (h0 : Tn K H a t ns c0) (hp : H p = none) (hpt : p ≠ t) : Tn K (upd H' p o) a t ns c := by
  obtain ⟨ls, e1, e2⟩ := h.town
  exact ⟨h.scr.app h0.scr hp, h.len, ls, e1, by rw [upd_ne hpt.symm]; exact e2⟩
theorem But.app {H H' : Hp} {t p : Addr} {o : HO} (b : But t H H') (hp : H p = none) : But t H (L2.upd H' p o) := fun z x hz hzt => by
  rw [upd_ne (ne_of_none hz hp)]
  exact b _ _ hz hzt
theorem But.free {H H' : Hp} {t p : Addr} (b : But t H H') (hp : H' p = none) (hpt : p ≠ t) : H p = none := by
  cases e : H p with
  | none => rfl
  | some o => rw [b _ _ e hpt] at hp; cases hp
abbrev nm__law_town : List Str := ["script"]
abbrev pm__law_town : List Str := ["script"]
abbrev lv__law_town : Nat := 1
theorem sc__law_town : FnScope nm__law_town pm__law_town (defScope s__law_town) := ⟨rfl, rfl, rfl, by decide +kernel, rfl, by decide +kernel, by decide +kernel⟩
def sp__law_town (K : PySem.W.Frag) : Sp := fun vs H Q _ => ∃ (a : Addr) (ns : List Int), vs = [.ref a] ∧ SqL K H a (ns.map V.int) ∧ ns.length ≤ 63 ∧ ∀ H' t, Same H H' → Tn K H' a t ns 0 → H t = none → Q (.ref t) H'
theorem f__law_town (T : Txt K mg) : Fk P w K mg base CX0 lv__law_town "_law_town" pm__law_town (sp__law_town K) := by
  obtain ⟨f, fd, F, g, b⟩ := T.d__law_town.ex
  refine ⟨f, fd, g, F.kp, b, F.ok sc__law_town (fun vs H Q E h => ?_) (fun cdv A outer s H vs Q E hr h => ?_)⟩
  · obtain ⟨a, ns, rfl, _⟩ := h; rfl
  · obtain ⟨a, ns, rfl, hS, hl, q⟩ := h
    refine ⟨_, (pss_one (ps_ret (pe_op op_cat (pe_lst (pa_cons pe_int pa_nil)) (pe_callTy call_list_of (by rfl) T.b_list (by decide +kernel) (pa_cons (pv 0) pa_nil))))), ?_⟩
    walk_at "rd"
    intro p hp
    have s1 : Same H (upd H p (.lst [.int 0])) := same_upd hp
    refine ⟨ns.map V.int, .inl (s1.seq hS), fun l hl2 => ?_⟩
    have npl : p ≠ l := fun e => by rw [← e, upd_same] at hl2; cases hl2
    have s2 := s1.trans (same_upd (o := .lst (ns.map V.int)) hl2)
    refine ⟨p, l, _, _, rfl, rfl, by rw [upd_ne npl]; exact upd_same, upd_same, sz (by simp; omega), fun t ht => ?_⟩
    have hH : H t = none := s2.free ht
    exact q _ t (s2.trans (same_upd ht)) ⟨(SqN.new (s2.seq hS) ht).same (same_upd ht), hl, ns, rfl, upd_same⟩ hH
abbrev nm__law_draw : List Str := ["script", "town", "many", "at", "left", "number"]
abbrev pm__law_draw : List Str := ["script", "town", "many"]
abbrev lv__law_draw : Nat := 1
theorem sc__law_draw : FnScope nm__law_draw pm__law_draw (defScope s__law_draw) := ⟨rfl, rfl, rfl, by decide +kernel, rfl, by decide +kernel, by decide +kernel⟩
def sp__law_draw (K : PySem.W.Frag) : Sp := fun vs H Q _ => ∃ (a t : Addr) (ns : List Int) (c : Nat) (many : Int), vs = [.ref a, .ref t, .int many] ∧ Tn K H a t ns c ∧ c < 1000000000 ∧ 0 < many ∧ many < 1073741824 ∧
  ∀ (d : Int) (H' : Hp), 0 ≤ d → d < many → Tn K H' a t ns (c + 1) → But t H H' → Q (.int d) H'
theorem f__law_draw (T : Txt K mg) : Fk P w K mg base CX0 lv__law_draw "_law_draw" pm__law_draw (sp__law_draw K) := by
  obtain ⟨f, fd, F, g, b⟩ := T.d__law_draw.ex
  refine ⟨f, fd, g, F.kp, b, F.ok sc__law_draw (fun vs H Q E h => ?_) (fun cdv A outer s H vs Q E hr h => ?_)⟩
  · obtain ⟨a, t, ns, c, many, rfl, _⟩ := h; rfl
  · obtain ⟨a, t, ns, c, many, rfl, hT, hc, hm0, hm1, q⟩ := h
    refine ⟨_, (pss_cons (ps_asg (pe_op op_add (pe_ix ix_list (pv 1) pe_int (fun _ _ => rfl)) pe_int) (pg_sub (pv 1) pe_int set_list))
      (pss_cons (ps_if (pt_cmpR (op_eqD hr.units) (pv 0) (pe_lst pa_nil) (nomark _)) (pss_one (ps_ret (pe_op op_mod (pe_op op_fdiv (pe_op op_mul (pe_op op_mul (pe_ix ix_list (pv 1) pe_int (fun _ _ => rfl)) (pe_ix ix_list (pv 1) pe_int (fun _ _ => rfl))) pe_int) pe_int) (pv 2)))) pss_nil)
      (pss_cons (ps_set (i := 3) sc__law_draw.nd rfl (.inl rfl) (pe_op op_mod (pe_ix ix_list (pv 1) pe_int (fun _ _ => rfl)) (pe_callB call_len_seq (by rfl) T.b_len PySem.boot_len (pa_cons (pv 0) pa_nil))))
      (pss_cons (ps_set (i := 4) sc__law_draw.nd rfl (.inl rfl) (pe_ix ix_list (pv 1) (pe_op op_add pe_int (pv 3)) (fun _ _ => rfl)))
      (pss_cons (ps_if (PW.pt (pw_and (pt_cmpR op_ge (pe_ix ix_list (pv 0) (pv 3) (fun _ _ => rfl)) (pe_op op_pow pe_int pe_int) (nomark _)) (pw_and1 (pt_cmpR op_gt (pv 4) pe_int (nomark _))))) (pss_cons (ps_asg (pe_op op_fdiv (pv 4) (pv 2)) (pg_sub (pv 1) (pe_op op_add pe_int (pv 3)) set_list))
      (pss_one (ps_ret (pe_op op_mod (pv 4) (pv 2))))) pss_nil)
      (pss_cons (ps_set (i := 5) sc__law_draw.nd rfl (.inl rfl) (pe_op op_mod (pe_op op_add (pe_ix ix_list (pv 0) (pv 3) (fun _ _ => rfl)) (pe_op op_mul pe_int (pe_ix ix_list (pv 1) pe_int (fun _ _ => rfl)))) pe_int))
      (pss_cons (ps_set (i := 5) sc__law_draw.nd rfl (.inl rfl) (pe_op op_mod (pe_op op_pow (pv 5) pe_int) pe_int))
      (pss_one (ps_ret (pe_op op_mod (pe_op op_fdiv (pe_op op_mod (pe_op op_add (pe_op op_mul (pe_op op_fdiv (pv 5) pe_int) pe_int) (pv 5)) pe_int) pe_int) (pv 2))))))))))), ?_⟩
    walk_at "rd"
    obtain ⟨ls, el, ht⟩ := hT.town
    refine ixL (j := 0) (sqL ht) rfl rfl ?_
    walk_at "rd"
    refine setL (j := 0) ht rfl (by simp) ?_
    intro p hp
    have hpt : t ≠ p := fun e => by rw [← e, upd_same] at hp; cases hp
    have b1 : But t H (upd (upd H t (.lst ((V.int c :: ls.map V.int).set 0 (V.int (↑c + 1))))) p (.lst [])) := But.thenS But.upd (same_upd hp)
    have hN1 := hT.scr.but b1
    have hS1 := hN1.l
    have ht1 : (upd (upd H t (.lst ((V.int c :: ls.map V.int).set 0 (V.int (↑c + 1))))) p (.lst [])) t = some (.lst (V.int ((c + 1 : Nat) : Int) :: ls.map V.int)) := by
      rw [upd_ne hpt, upd_same]; rfl
    have hp1 : (upd (upd H t (.lst ((V.int c :: ls.map V.int).set 0 (V.int (↑c + 1))))) p (.lst [])) p = some (.lst (([] : List Int).map V.int)) := upd_same
    revert b1 hN1 hS1 ht1 hp1
    generalize upd (upd H t (.lst ((V.int c :: ls.map V.int).set 0 (V.int (↑c + 1))))) p (.lst []) = H1
    intro b1 hN1 hS1 ht1 hp1
    have T1 : Tn K H1 a t ns (c + 1) := ⟨hN1, hT.len, ls, el, ht1⟩
    have hC : ((c + 1 : Nat) : Int) < 2 ^ 62 := by omega
    refine eqD (dp_LI hS1) (dp_LI (sqL hp1)) (gd_dLI (k := 0) _) (gd_dLI (k := 0) _) (fun e => ?_) (fun e => ?_)
    · walk_at "rd"
      refine ixL (j := 0) (sqL ht1) rfl rfl ?_
      refine ixL (j := 0) (sqL ht1) rfl rfl ?_
      walk_at "rd"
      refine ⟨.inl ⟨by omega, by omega⟩, .inr ⟨by decide, by decide⟩, ⟨by decide, by decide⟩, hm0, ?_⟩
      exact q _ H1 (Int.emod_nonneg _ (by omega)) (Int.emod_lt_of_pos _ hm0) T1 b1
    · have hne : ns ≠ [] := fun z => e (by rw [z])
      have hn0 : 0 < ns.length := List.length_pos_iff.mpr hne
      walk_at "rd"
      refine ixL (j := 0) (sqL ht1) rfl rfl ?_
      refine ⟨ns.map V.int, .inl hS1, ?_⟩
      rw [List.length_map]
      walk_at "rd"
      obtain ⟨j, hj, ej, _⟩ := emod_nat (k := ((c + 1 : Nat) : Int)) hn0
      rw [ej]
      refine ⟨by omega, ?_⟩
      have hlj : (V.int ((c + 1 : Nat) : Int) :: ls.map V.int)[j + 1]? = some (V.int (ls[j]'(by omega))) := by
        rw [List.getElem?_cons_succ, List.getElem?_map, List.getElem?_eq_getElem (by omega)]; rfl
      have hnj : (ns.map V.int)[j]? = some (V.int (ns[j]'hj)) := by
        rw [List.getElem?_map, List.getElem?_eq_getElem hj]; rfl
      refine ixL (j := j + 1) (sqL ht1) (by push_cast; omega) hlj ?_
      refine ixL (j := j) hS1 rfl hnj ?_
      have tail : rIxL K (.ref a) (.int (j : Int)) H1 fun x H2 => rIxL K (.ref t) (.int 0) H2 fun y H3 => ∃ x_3, y = V.int x_3 ∧ CMul 104729 x_3 ∧ ∃ i, x = V.int i ∧ 0 < (4294967291 : Int) ∧ CPow ((i + 104729 * x_3) % 4294967291) 5 ∧ 0 < (4294967279 : Int) ∧
          CDiv (((i + 104729 * x_3) % 4294967291) ^ Int.toNat 5 % 4294967279) 64 ∧ CMul (((i + 104729 * x_3) % 4294967291) ^ Int.toNat 5 % 4294967279 / 64) 69621 ∧ 0 < (4294967231 : Int) ∧
          CDiv ((((i + 104729 * x_3) % 4294967291) ^ Int.toNat 5 % 4294967279 / 64 * 69621 + ((i + 104729 * x_3) % 4294967291) ^ Int.toNat 5 % 4294967279) % 4294967231) 8 ∧ 0 < many ∧
          Q (.int ((((i + 104729 * x_3) % 4294967291) ^ Int.toNat 5 % 4294967279 / 64 * 69621 + ((i + 104729 * x_3) % 4294967291) ^ Int.toNat 5 % 4294967279) % 4294967231 / 8 % many)) H3 := by
        refine ixL (j := j) hS1 rfl hnj ?_
        refine ixL (j := 0) (sqL ht1) rfl rfl ?_
        have hp := Int.emod_nonneg (ns[j] + 104729 * ((c + 1 : Nat) : Int)) (show (4294967291 : Int) ≠ 0 by decide)
        have hq := Int.emod_lt_of_pos (ns[j] + 104729 * ((c + 1 : Nat) : Int)) (show (0 : Int) < 4294967291 by decide)
        refine ⟨_, rfl, .inl ⟨by decide, by decide⟩, _, rfl, by decide, ⟨by decide, by decide, by omega⟩, by decide, ⟨by decide, by decide⟩, .inr ⟨by decide, by decide⟩, by decide, ⟨by decide, by decide⟩, hm0, ?_⟩
        exact q _ H1 (Int.emod_nonneg _ (by omega)) (Int.emod_lt_of_pos _ hm0) T1 b1
      refine ⟨⟨by decide, by decide, by decide⟩, _, rfl, ?_⟩
      refine ite2 (fun c1 => ?_) (fun c1 => ?_)
      · refine ⟨_, rfl, ite2 (fun c2 => ?_) (fun c2 => ?_)⟩
        · refine ⟨_, rfl, ⟨hm0, hm1⟩, ?_⟩
          refine setL (j := j + 1) ht1 (by push_cast; omega) (by simp; omega) ?_
          refine ⟨_, rfl, hm0, ?_⟩
          refine q _ _ (Int.emod_nonneg _ (by omega)) (Int.emod_lt_of_pos _ hm0) ⟨hN1.but But.upd, hT.len, ls.set j (ls[j] / many), by rw [List.length_set]; exact el, ?_⟩ (b1.trans But.upd)
          rw [upd_same, List.set_cons_succ, List.map_set]
        · exact tail
      · exact tail
abbrev nm__law_pick : List Str := ["script", "town", "some"]
abbrev pm__law_pick : List Str := ["script", "town", "some"]
abbrev lv__law_pick : Nat := 2
theorem sc__law_pick : FnScope nm__law_pick pm__law_pick (defScope s__law_pick) := ⟨rfl, rfl, rfl, by decide +kernel, rfl, by decide +kernel, by decide +kernel⟩
def sp__law_pick (K : PySem.W.Frag) : Sp := fun vs H Q _ => ∃ (a t l : Addr) (ns : List Int) (c : Nat) (xs : List V), vs = [.ref a, .ref t, .ref l] ∧ Tn K H a t ns c ∧ c < 1000000000 ∧ H l = some (.lst xs) ∧ l ≠ t ∧ 0 < xs.length ∧ xs.length ≤ 100000 ∧
  ∀ (v : V) (H' : Hp), v ∈ xs → Tn K H' a t ns (c + 1) → But t H H' → Q v H'
theorem f__law_pick (T : Txt K mg) : Fk P w K mg base CX0 lv__law_pick "_law_pick" pm__law_pick (sp__law_pick K) := by
  obtain ⟨f, fd, F, g, b⟩ := T.d__law_pick.ex
  refine ⟨f, fd, g, F.kp, b, F.ok sc__law_pick (fun vs H Q E h => ?_) (fun cdv A outer s H vs Q E hr h => ?_)⟩
  · obtain ⟨a, t, l, ns, c, xs, rfl, _⟩ := h; rfl
  · obtain ⟨a, t, l, ns, c, xs, rfl, hT, hc, hl, hlt, h0, h1, q⟩ := h
    refine ⟨_, (pss_one (ps_ret (pe_ix ix_list (pv 2) (pe_fn (f__law_draw T) (hr.mono (by decide)) (by rfl) pass0 (pa_cons (pv 0) (pa_cons (pv 1) (pa_cons (pe_callB call_len_seq (by rfl) T.b_len PySem.boot_len (pa_cons (pv 2) pa_nil)) pa_nil)))) (fun _ _ => rfl)))), ?_⟩
    walk_at "rd"
    refine ⟨xs, .inl (sqL hl), a, t, ns, c, xs.length, rfl, hT, hc, by omega, by omega, fun d H' d0 d1 T' b' => ?_⟩
    have hd : d.toNat < xs.length := by omega
    exact ixL (j := d.toNat) (sqL (b' _ _ hl hlt)) (by omega) (List.getElem?_eq_getElem hd) (q _ H' (List.getElem_mem hd) T' b')
theorem pickI {H : Hp} {a t : Addr} {ns : List Int} {c : Nat} {Q : VK} {E : XK} (ks : List Int) (hT : Tn K H a t ns c) (hc : c < 1000000000) (q : ∀ k ∈ ks, ∀ H', Tn K H' a t ns (c + 1) → But t H H' → Q (.int k) H') (h0 : 0 < ks.length := by decide) (h1 : ks.length ≤ 100000 := by decide) :
    ∀ p, H p = none → sp__law_pick K [.ref a, .ref t, .ref p] (L2.upd H p (.lst (ks.map V.int))) Q E := by
  intro p hp
  refine ⟨a, t, p, ns, c, ks.map V.int, rfl, hT.same (same_upd hp), hc, upd_same, hT.some_ hp, by simpa using h0, by simpa using h1, fun v H' hv T' b' => ?_⟩
  obtain ⟨k, hk, rfl⟩ := List.mem_map.mp hv
  exact q k hk H' T' (Same.thenB (same_upd hp) b')
abbrev nm__law_rounds : List Str := ["script", "town", "long", "top", "many", "k"]
abbrev pm__law_rounds : List Str := ["script", "town", "long", "top"]
abbrev lv__law_rounds : Nat := 2
theorem sc__law_rounds : FnScope nm__law_rounds pm__law_rounds (defScope s__law_rounds) := ⟨rfl, rfl, rfl, by decide +kernel, rfl, by decide +kernel, by decide +kernel⟩
def sp__law_rounds (K : PySem.W.Frag) : Sp := fun vs H Q _ => ∃ (a t : Addr) (ns : List Int) (c : Nat) (long top : Int), vs = [.ref a, .ref t, .int long, .int top] ∧ Tn K H a t ns c ∧ c + 1 + long.toNat < 1000000000 ∧ 0 < long ∧ long ≤ 1000 ∧ 0 < top ∧ top < 1073741824 ∧
  ∀ (rs : List Int) (p : Addr) (c' : Nat) (H' : Hp), 1 ≤ rs.length → (rs.length : Int) ≤ long → (∀ r ∈ rs, 1 ≤ r ∧ r ≤ top) → H p = none → H' p = some (.tup (rs.map V.int)) → c' ≤ c + 1 + long.toNat → Tn K H' a t ns c' → But t H H' → Q (.ref p) H'
def iv__law_rounds (K : PySem.W.Frag) (H1 : Hp) (a t D : Addr) (ns : List Int) (c : Nat) (top : Int) (i : Nat) (H : Hp) : Prop :=
  ∃ rs : List Int, rs.length = i ∧ (∀ r ∈ rs, 1 ≤ r ∧ r ≤ top) ∧ H D = some (.lst (rs.map V.int)) ∧ Tn K H a t ns (c + 1 + i) ∧ But t H1 H
theorem f__law_rounds (T : Txt K mg) : Fk P w K mg base CX0 lv__law_rounds "_law_rounds" pm__law_rounds (sp__law_rounds K) := by
  obtain ⟨f, fd, F, g, b⟩ := T.d__law_rounds.ex
  refine ⟨f, fd, g, F.kp, b, F.ok sc__law_rounds (fun vs H Q E h => ?_) (fun cdv A outer s H vs Q E hr h => ?_)⟩
  · obtain ⟨a, t, ns, c, long, top, rfl, _⟩ := h; rfl
  · obtain ⟨a, t, ns, c, long, top, rfl, hT, hc, hl0, hl1, ht0, ht1, q⟩ := h
    refine ⟨_, (pss_cons (ps_set (i := 4) sc__law_rounds.nd rfl (.inl rfl) (pe_op op_add pe_int (pe_fn (f__law_draw T) (hr.mono (by decide)) (by rfl) pass0 (pa_cons (pv 0) (pa_cons (pv 1) (pa_cons (pv 2) pa_nil))))))
      (pss_one (ps_ret (pe_callTy call_tuple_of (by rfl) T.b_tuple (by decide +kernel) (pa_cons (pe_lc (own := [("k", 5)]) (g := gName 5) (tt := tYes) (by rfl) sc__law_rounds.nd (pi_range1 (by rfl) T.b_range (pa_cons (pv 4) pa_nil)) (blkOk_by (own := [("k", 5)]) (N := nm__law_rounds) (sc := defScope s__law_rounds) (by decide +kernel)) (fun _ _ _ _ _ => (pg_name (i := 5) sc__law_rounds.nd rfl (Or.inl rfl))) (fun _ _ _ _ _ => pts_nil) (fun _ _ _ _ _ => (pe_op op_add pe_int (pe_fn (f__law_draw T) (hr.mono (by decide)) (by rfl) pass0 (pa_cons (pv 0) (pa_cons (pv 1) (pa_cons (pv 3) pa_nil))))))) pa_nil))))), ?_⟩
    walk_at "rd"
    refine ⟨a, t, ns, c, long, rfl, hT, by omega, hl0, by omega, fun d H1 d0 d1 T1 b1 => ?_⟩
    walk_at "rd"
    refine ⟨_, rfl, 1 + d, rfl, by omega, by omega, fun D hD => ?_⟩
    have hDt : D ≠ t := T1.some_ hD
    refine lc_range (iv__law_rounds K H1 a t D ns c top) ⟨[], rfl, fun r hr => (nomatch hr), upd_same, T1.same (same_upd hD), .of (same_upd hD)⟩ (fun i H2 hi iv => ?_) (fun H2 iv => ?_)
    · obtain ⟨rs, el, hrs, hD2, T2, b2⟩ := iv
      walk_at "rd"
      refine ⟨a, t, ns, c + 1 + i, top, rfl, T2, by omega, ht0, ht1, fun e H3 e0 e1 T3 b3 => ?_⟩
      walk_at "rd"
      refine ⟨rs.map V.int, b3 _ _ hD2 hDt, szl (by simp; omega), rs ++ [1 + e], by simp [el], ?_, ?_, ?_, ?_⟩
      · intro r hr
        rcases List.mem_append.mp hr with hr | hr
        · exact hrs r hr
        · have := List.mem_singleton.mp hr; omega
      · rw [upd_same, List.map_append]; rfl
      · have : Tn K (upd H3 D (.lst (rs.map V.int ++ [.int (1 + e)]))) a t ns (c + 1 + i + 1) := by
          obtain ⟨ls, e1, e2⟩ := T3.town
          refine ⟨?_, T3.len, ls, e1, by rw [upd_ne hDt.symm]; exact e2⟩
          have h2 := hT.scr.but (b1.trans (b2.trans b3))
          have hDD : But D H3 (upd H3 D (.lst (rs.map V.int ++ [.int (1 + e)]))) := But.upd
          have h0 := hT.scr.but b1
          rcases h0 with ⟨h | ⟨o, h⟩, n⟩ | h
          · have hne : a ≠ D := ne_of_none h hD
            rcases h2 with ⟨h' | ⟨o', h'⟩, n'⟩ | h'
            · exact .inl ⟨.inl (hDD _ _ h' hne), n'⟩
            · exact .inl ⟨.inr ⟨o', hDD _ _ h' hne⟩, n'⟩
            · exact .inr h'
          · have hne : a ≠ D := ne_of_none h hD
            rcases h2 with ⟨h' | ⟨o', h'⟩, n'⟩ | h'
            · exact .inl ⟨.inl (hDD _ _ h' hne), n'⟩
            · exact .inl ⟨.inr ⟨o', hDD _ _ h' hne⟩, n'⟩
            · exact .inr h'
          · exact .inr h
        exact this
      · intro x o hx hxt
        rw [upd_ne (ne_of_none hx hD)]
        exact b3 _ _ (b2 _ _ hx hxt) hxt
    · obtain ⟨rs, el, hrs, hD2, T2, b2⟩ := iv
      refine ⟨D, rfl, rs.map V.int, .inl ⟨sqL hD2, fun l hl => ?_⟩⟩
      have hlt : l ≠ t := T2.some_ hl
      refine q rs l _ _ (by omega) (by omega) hrs ?_ upd_same (by omega) (T2.same (same_upd hl)) ((b1.trans b2).thenS (same_upd hl))
      cases e : H l with
      | none => rfl
      | some o => rw [b2 _ _ (b1 _ _ e hlt) hlt] at hl; cases hl
end
end Nk
namespace Nk
open PySem L2
section
variable {P : Program} {w : World} {K : PySem.W.Frag} {mg : Str → Option Value} {base : Heap}
end
end Nk
namespace Nk
open PySem L2
section
variable {P : Program} {w : World} {K : PySem.W.Frag} {mg : Str → Option Value} {base : Heap}
end
end Nk
namespace Nk
open PySem L2
section
variable {P : Program} {w : World} {K : PySem.W.Frag} {mg : Str → Option Value} {base : Heap}
/-- things, down to a depth -/
def DT (K : PySem.W.Frag) (H : Hp) : Nat → V → Prop
  | 0, x => ∃ n, Thing K H x n
  | k + 1, x => (∃ n, Thing K H x n) ∧ ∀ a xs, x = .ref a → (H a = some (.tup xs) ∨ H a = some (.lst xs)) → xs.length ≤ 100000 ∧ ∀ y ∈ xs, DT K H k y
theorem DT.th {H : Hp} {k : Nat} {x : V} (h : DT K H k x) : ∃ n, Thing K H x n := by
  cases k with
  | zero => exact h
  | succ k => exact h.1
theorem DT.same {H H' : Hp} (s : Same H H') : ∀ {k : Nat} {x : V}, DT K H k x → DT K H' k x
  | 0, _, ⟨n, h⟩ => ⟨n, Thing.same s h⟩
  | k + 1, x, ⟨⟨n, h⟩, hi⟩ => by
    refine ⟨⟨n, Thing.same s h⟩, fun a xs e ha => ?_⟩
    have back : H a = some (.tup xs) ∨ H a = some (.lst xs) := by
      subst e
      cases h with
      | lst h => have := s _ _ h; rw [this] at ha; rcases ha with z | z <;> cases z; exact .inr h
      | tup h => have := s _ _ h; rw [this] at ha; rcases ha with z | z <;> cases z; exact .inl h
      | dic h => have := s _ _ h; rw [this] at ha; rcases ha with z | z <;> cases z
    obtain ⟨h1, h2⟩ := hi a xs e back
    exact ⟨h1, fun y hy => DT.same s (h2 y hy)⟩
theorem DT.t2 {H : Hp} {k : Nat} {x : V} (h : DT K H (k + 1) x) : Thing2 K H x :=
  ⟨h.1, fun a xs e ha => by
    obtain ⟨h1, h2⟩ := h.2 a xs e (.inl ha)
    exact ⟨h1, fun y hy => (h2 y hy).th⟩⟩
def isRuleV (H : Hp) (x : V) : Bool := match x with
  | .ref a => match H a with
    | some (.tup [r, m]) => isRoundsV H r && isNumV m 1 (.int 20)
    | _ => false
  | _ => false
def isRulesV (H : Hp) (x : V) : Bool := match x with
  | .ref a => match H a with
    | some (.tup xs) => decide (1 ≤ xs.length) && decide (xs.length ≤ 5) && xs.all (isRuleV H)
    | _ => false
  | _ => false
theorem isRoundsV_same {H H' : Hp} (s : Same H H') {x : V} {n : String} (h : Thing K H x n) : isRoundsV H' x = isRoundsV H x := by
  cases h with
  | lst h => simp only [isRoundsV, h, s _ _ h]
  | tup h => simp only [isRoundsV, h, s _ _ h]
  | dic h => simp only [isRoundsV, h, s _ _ h]
  | _ => rfl
theorem isRuleV_same {H H' : Hp} (s : Same H H') {x : V} (h : DT K H 1 x) : isRuleV H' x = isRuleV H x := by
  obtain ⟨⟨n, h⟩, hi⟩ := h
  cases h with
  | lst h => simp only [isRuleV, h, s _ _ h]
  | @tup a xs h =>
    obtain ⟨_, h2⟩ := hi a xs rfl (.inl h)
    simp only [isRuleV, h, s _ _ h]
    match xs, h2 with
    | [r, m], h2 =>
      obtain ⟨n', hr⟩ := (h2 r List.mem_cons_self).th
      simp only [isRoundsV_same s hr]
    | [], _ => rfl
    | [_], _ => rfl
    | _ :: _ :: _ :: _, _ => rfl
  | dic h => simp only [isRuleV, h, s _ _ h]
  | _ => rfl
/-- a rule that stands -/
def RuleAt (H : Hp) (x : V) (ru : List Int × Int) : Prop := ∃ (b r : Addr), x = .ref b ∧ H b = some (.tup [.ref r, .int ru.2]) ∧ RndsAt H r ru.1 ∧ 1 ≤ ru.2 ∧ ru.2 ≤ 20
theorem RuleAt.same {H H' : Hp} {x : V} {ru : List Int × Int} (h : RuleAt H x ru) (s : Same H H') : RuleAt H' x ru := by
  obtain ⟨b, r, e, hb, hr, h1, h2⟩ := h
  exact ⟨b, r, e, s _ _ hb, hr.same s, h1, h2⟩
theorem RuleAt.but {H H' : Hp} {t : Addr} {l : List V} {x : V} {ru : List Int × Int} (h : RuleAt H x ru) (s : But t H H') (ht : H t = some (.lst l)) : RuleAt H' x ru := by
  obtain ⟨b, r, e, hb, hr, h1, h2⟩ := h
  exact ⟨b, r, e, s _ _ hb (ne_of hb ht (by intro z; cases z)), hr.but s ht, h1, h2⟩
/-- rules that stand -/
structure RulesAt (H : Hp) (a : Addr) (rus : List (List Int × Int)) : Prop where
  ex : ∃ xs : List V, H a = some (.tup xs) ∧ xs.length = rus.length ∧ ∀ (i : Nat) x, xs[i]? = some x → ∃ ru, rus[i]? = some ru ∧ RuleAt H x ru
  l1 : 1 ≤ rus.length
  l5 : rus.length ≤ 5
theorem RulesAt.same {H H' : Hp} {a : Addr} {rus : List (List Int × Int)} (h : RulesAt H a rus) (s : Same H H') : RulesAt H' a rus := by
  obtain ⟨xs, ha, hl, hi⟩ := h.ex
  refine ⟨⟨xs, s _ _ ha, hl, fun i x hx => ?_⟩, h.l1, h.l5⟩
  obtain ⟨ru, e, r⟩ := hi i x hx
  exact ⟨ru, e, r.same s⟩
theorem RulesAt.but {H H' : Hp} {a t : Addr} {l : List V} {rus : List (List Int × Int)} (h : RulesAt H a rus) (s : But t H H') (ht : H t = some (.lst l)) : RulesAt H' a rus := by
  obtain ⟨xs, ha, hl, hi⟩ := h.ex
  refine ⟨⟨xs, s _ _ ha (ne_of ha ht (by intro z; cases z)), hl, fun i x hx => ?_⟩, h.l1, h.l5⟩
  obtain ⟨ru, e, r⟩ := hi i x hx
  exact ⟨ru, e, r.but s ht⟩
theorem RulesAt.rnds {H : Hp} {a : Addr} {rus : List (List Int × Int)} (h : RulesAt H a rus) : ∀ ru ∈ rus, Rnds ru.1 ∧ 1 ≤ ru.2 ∧ ru.2 ≤ 20 ∧ ru.1.length ≤ 12 ∧ ∀ r ∈ ru.1, r ≤ 31 := by
  intro ru hru
  obtain ⟨xs, ha, hl, hi⟩ := h.ex
  obtain ⟨i, hi1, e⟩ := List.mem_iff_getElem.mp hru
  have hx : xs[i]? = some (xs[i]'(by omega)) := List.getElem?_eq_getElem (by omega)
  obtain ⟨ru', e', b, r, _, _, R, h1, h2⟩ := hi i _ hx
  rw [List.getElem?_eq_getElem hi1, e] at e'
  cases e'
  exact ⟨R.ok, h1, h2, R.ln, R.le⟩
theorem RuleAt.thing {H : Hp} {x : V} {ru : List Int × Int} (h : RuleAt H x ru) : DT K H 2 x := by
  obtain ⟨b, r, rfl, hb, hr, h1, h2⟩ := h
  refine ⟨⟨_, .tup hb⟩, fun a xs e ha => ?_⟩
  cases e
  rw [hb] at ha
  rcases ha with z | z <;> cases z
  refine ⟨by simp, fun y hy => ?_⟩
  simp only [List.mem_cons, List.not_mem_nil, or_false] at hy
  rcases hy with rfl | rfl
  · refine ⟨⟨_, .tup hr.at_⟩, fun a xs e ha => ?_⟩
    cases e
    rw [hr.at_] at ha
    rcases ha with z | z <;> cases z
    refine ⟨by have := hr.ln; simp; omega, fun y hy => ?_⟩
    obtain ⟨i, _, rfl⟩ := List.mem_map.mp hy
    exact ⟨_, .int i⟩
  · exact ⟨⟨_, .int _⟩, fun a xs e ha => by cases e⟩
theorem RuleAt.is {H : Hp} {x : V} {ru : List Int × Int} (h : RuleAt H x ru) : isRuleV H x = true := by
  obtain ⟨b, r, rfl, hb, hr, h1, h2⟩ := h
  simp only [isRuleV, hb, hr.is, isNumV, h1, h2, decide_true, Bool.and_true]
theorem RulesAt.thing {H : Hp} {a : Addr} {rus : List (List Int × Int)} (h : RulesAt H a rus) : DT K H 3 (.ref a) := by
  obtain ⟨xs, ha, hl, hi⟩ := h.ex
  refine ⟨⟨_, .tup ha⟩, fun b ys e hb => ?_⟩
  cases e
  rw [ha] at hb
  rcases hb with z | z <;> cases z
  refine ⟨by have := h.l5; omega, fun y hy => ?_⟩
  obtain ⟨i, h1, e⟩ := List.mem_iff_getElem.mp hy
  obtain ⟨ru, _, r⟩ := hi i y (by rw [List.getElem?_eq_getElem h1, e])
  exact r.thing
theorem RulesAt.is {H : Hp} {a : Addr} {rus : List (List Int × Int)} (h : RulesAt H a rus) : isRulesV H (.ref a) = true := by
  obtain ⟨xs, ha, hl, hi⟩ := h.ex
  have h1 := h.l1
  have h5 := h.l5
  have h3 : xs.all (isRuleV H) = true := by
    rw [List.all_eq_true]
    intro y hy
    obtain ⟨i, h1, e⟩ := List.mem_iff_getElem.mp hy
    obtain ⟨ru, _, r⟩ := hi i y (by rw [List.getElem?_eq_getElem h1, e])
    exact r.is
  simp only [isRulesV, ha, h3, Bool.and_true, Bool.and_eq_true, decide_eq_true_eq]
  omega
abbrev nm_is_rule : List Str := ["thing"]
abbrev pm_is_rule : List Str := ["thing"]
abbrev lv_is_rule : Nat := 3
theorem sc_is_rule : FnScope nm_is_rule pm_is_rule (defScope s_is_rule) := ⟨rfl, rfl, rfl, by decide +kernel, rfl, by decide +kernel, by decide +kernel⟩
def sp_is_rule (K : PySem.W.Frag) : Sp := fun vs H Q _ => ∃ (x : V), vs = [x] ∧ DT K H 2 x ∧ ∀ H', Same H H' → Q (.bl (isRuleV H x)) H'
theorem f_is_rule (T : Txt K mg) : Fk P w K mg base CX0 lv_is_rule "is_rule" pm_is_rule (sp_is_rule K) := by
  obtain ⟨f, fd, F, g, b⟩ := T.d_is_rule.ex
  refine ⟨f, fd, g, F.kp, b, F.ok sc_is_rule (fun vs H Q E h => ?_) (fun cdv A outer s H vs Q E hr h => ?_)⟩
  · obtain ⟨x, rfl, _⟩ := h; rfl
  · obtain ⟨x, rfl, ⟨⟨n, hx⟩, hin⟩, q⟩ := h
    refine ⟨_, (pss_one (ps_ret (pe_and (pe_callB call_isi (by rfl) T.b_isinstance (by decide +kernel) (pa_cons (pv 0) (pa_cons (pe_bltn (v := .ty "tuple") (by rfl) T.b_tuple (by decide +kernel) rfl) pa_nil))) (pe_and (pe_cmpR op_eq (pe_callB call_len_seq (by rfl) T.b_len PySem.boot_len (pa_cons (pv 0) pa_nil)) pe_int (nomark _)) (pe_and (pe_fn (f_is_rounds T) (hr.mono (by decide)) (by rfl) pass0 (pa_cons (pe_ix ix_tup (pv 0) pe_int (fun _ _ => rfl)) pa_nil)) (pe_one (pe_fn (f_is_number T) (hr.mono (by decide)) (by rfl) pass0 (pa_cons (pe_ix ix_tup (pv 0) pe_int (fun _ _ => rfl)) (pa_cons pe_int (pa_cons pe_int pa_nil)))))))))), ?_⟩
    walk_at "rs"
    refine isi_thing hx (by decide) ?_
    cases hx with
    | @tup a xs ha =>
      obtain ⟨hz, hth⟩ := hin a xs rfl (.inl ha)
      refine ⟨true, rfl, ?_⟩
      walk_at "rs"
      refine ⟨xs, .inr (sqT ha), ?_⟩
      have qf := q H (Same.refl H)
      by_cases c : xs.length = 2
      · match xs, c with
        | [r, m], _ =>
          obtain ⟨mt, hm⟩ := (hth m (by simp)).th
          walk_at "rs"
          rw [if_pos (by decide)]
          refine ixT (j := 0) (sqT ha) rfl rfl ?_
          refine ⟨r, rfl, (hth r (by simp)).t2, fun H1 s1 => ?_⟩
          refine ⟨_, rfl, ?_⟩
          have q1 := q H1 s1
          simp only [isRuleV, ha] at q1
          cases e : isRoundsV H r with
          | false => rw [e] at q1; simpa using q1
          | true =>
            rw [e] at q1
            walk_at "rs"
            refine ixT (j := 1) (sqT (s1 _ _ ha)) rfl rfl ?_
            exact ⟨m, mt, 1, .int 20, rfl, Thing.same s1 hm, fun _ _ => ⟨_, rfl⟩, by simpa using q1⟩
      · rw [if_neg (by omega)]
        have e : isRuleV H (.ref a) = false := by
          simp only [isRuleV, ha]
          match xs, c with
          | [], _ => rfl
          | [_], _ => rfl
          | [_, _], c => exact absurd rfl c
          | _ :: _ :: _ :: _, _ => rfl
        rw [e] at qf
        exact qf
    | _ => exact ⟨false, by rfl, by simpa [isRuleV, *] using q H (Same.refl H)⟩
abbrev nm_look_rules : List Str := ["rules", "one"]
abbrev pm_look_rules : List Str := ["rules"]
abbrev lv_look_rules : Nat := 4
theorem sc_look_rules : FnScope nm_look_rules pm_look_rules (defScope s_look_rules) := ⟨rfl, rfl, rfl, by decide +kernel, rfl, by decide +kernel, by decide +kernel⟩
def sp_look_rules (K : PySem.W.Frag) (mg : Str → Option Value) : Sp := fun vs H Q E => ∃ (x : V), vs = [x] ∧ DT K H 3 x ∧ (isRulesV H x = true → ∀ H', Same H H' → Q .non H') ∧ (isRulesV H x = false → ∀ H', Same H H' → E (.ref (cls mg "BadRules")) none H')
theorem f_look_rules (T : Txt K mg) : Fk P w K mg base (L2.CX P w) lv_look_rules "look_rules" pm_look_rules (sp_look_rules K mg) := by
  obtain ⟨f, fd, F, g, b⟩ := T.d_look_rules.ex
  refine ⟨f, fd, g, F.kp, b, F.okX sc_look_rules (fun vs H Q E h => ?_) (fun cdv A outer s H vs Q E hr h => ?_)⟩
  · obtain ⟨x, rfl, _⟩ := h; rfl
  · obtain ⟨x, rfl, ⟨⟨n, hx⟩, hin⟩, q1, q2⟩ := h
    refine ⟨_, (pss_one (ps_if (PW.pt (pw_or (pt_not (pt_val (pe_callB call_isi (by rfl) T.b_isinstance (by decide +kernel) (pa_cons (pv 0) (pa_cons (pe_bltn (v := .ty "tuple") (by rfl) T.b_tuple (by decide +kernel) rfl) pa_nil))))) (pw_or (pt_not (pt_chain op_le op_le pe_int (pe_callB call_len_seq (by rfl) T.b_len PySem.boot_len (pa_cons (pv 0) pa_nil)) pe_int)) (pw_or1 (pt_not (pt_val (pe_callB (cr_all rfl) (by rfl) T.b_all (by decide +kernel) (pa_cons (pe_lc (own := [("one", 1)]) (g := gName 1) (tt := tYes) (by rfl) sc_look_rules.nd (pi_tup (pv 0)) (blkOk_by (own := [("one", 1)]) (N := nm_look_rules) (sc := defScope s_look_rules) (by decide +kernel)) (fun _ _ _ _ _ => (pg_name (i := 1) sc_look_rules.nd rfl (Or.inl rfl))) (fun _ _ _ _ _ => pts_nil) (fun _ _ _ _ _ => (pe_fn (f_is_rule T) (hr.mono (by decide)) (by rfl) pass0 (pa_cons (pv 1) pa_nil)))) pa_nil)))))))) (pss_one (ps_raise rfl (takes_of rfl rfl rfl rfl) (pmk_own PySem.F.excBase_RuntimeError T.x_BadRules.xP T.x_BadRules.gP T.x_BadRules.kP T.x_BadRules.rs rfl))) pss_nil)), ?_⟩
    walk_at "rs"
    refine isi_thing hx (by decide) ?_
    cases hx with
    | @tup a xs ha =>
      obtain ⟨hz, hth⟩ := hin a xs rfl (.inl ha)
      refine ⟨true, rfl, ?_⟩
      walk_at "rs"
      refine ⟨xs, .inr (sqT ha), ?_⟩
      have e0 : isRulesV H (.ref a) = (decide (1 ≤ xs.length) && decide (xs.length ≤ 5) && xs.all (isRuleV H)) := by
        simp only [isRulesV, ha]
      rw [e0] at q1 q2
      by_cases c1 : 1 ≤ xs.length
      · rw [if_pos (show (1 : Int) ≤ (xs.length : Int) by omega)]
        by_cases c2 : xs.length ≤ 5
        · rw [if_neg (show ¬ ¬ (xs.length : Int) ≤ 5 by omega)]
          refine ⟨_, rfl, a, rfl, ⟨xs, sqT ha⟩, fun D hD => ?_⟩
          refine lcT hD (sqT ha) (fun i => (xs.take i).map fun y => .bl (isRuleV H y)) rfl (fun i y H2 hy p => ?_) (fun H2 s2 hD2 => ?_)
          · have hy1 := hth y (mem_of_get hy)
            have hy2 := hy1.same p.same
            walk_at "rs"
            refine ⟨y, rfl, hy2, fun H3 s3 => ?_⟩
            rw [isRuleV_same (K := K) p.same ⟨hy1.1, fun a' xs' e' h' => by obtain ⟨w1, w2⟩ := hy1.2 a' xs' e' h'; exact ⟨w1, fun z hz => (w2 z hz).th⟩⟩]
            exact p.push hD (by simp; omega) s3 (map_take_next _ hy)
          · refine ⟨D, xs.map (isRuleV H), rfl, ?_, ?_⟩
            · rw [List.take_length] at hD2
              rw [List.map_map]
              exact sqL hD2
            · walk_at "rs"
              simp only [List.all_map, Function.comp_def, id_eq]
              cases e : xs.all (fun y => isRuleV H y) with
              | true => exact q1 (by simp [c1, c2, e]) H2 s2
              | false => exact q2 (by simp [c1, c2, e]) H2 s2
        · rw [if_pos (show ¬ (xs.length : Int) ≤ 5 by omega)]
          exact q2 (by simp [c2]) H (Same.refl H)
      · rw [if_neg (show ¬ (1 : Int) ≤ (xs.length : Int) by omega)]
        exact q2 (by simp [c1]) H (Same.refl H)
    | _ => exact ⟨false, by rfl, by simpa using q2 (by simp [isRulesV, *]) H (Same.refl H)⟩
end
end Nk
namespace Nk
open PySem L2
section
variable {P : Program} {w : World} {K : PySem.W.Frag} {mg : Str → Option Value} {base : Heap}
def riseV : List V → Bool
  | x :: y :: r => (match x, y with | .int i, .int j => decide (i < j) | _, _ => false) && riseV (y :: r)
  | _ => true
def isNightsV (H : Hp) (x : V) : Bool := match x with
  | .ref a => match H a with
    | some (.lst xs) => decide (xs.length ≤ 100) && xs.all (fun y => isNumV y 0 (.int 1000000000)) && riseV xs
    | _ => false
  | _ => false
theorem cut_from (xs : List V) (j : Nat) : cutV xs (some (j : Int)) none = xs.drop j := by
  unfold cutV
  rw [HT.sIx_none, HT.sIx_nat]
  by_cases h : j ≤ xs.length
  · rw [Nat.min_eq_left h, List.take_of_length_le (by simp)]
  · rw [Nat.min_eq_right (by omega), List.drop_of_length_le (Nat.le_refl _), List.drop_of_length_le (by omega)]
    simp
theorem allNum {xs : List V} (h : xs.all (fun y => isNumV y 0 (.int 1000000000)) = true) : ∃ ns : List Int, xs = ns.map V.int ∧ ∀ n ∈ ns, 0 ≤ n ∧ n ≤ 1000000000 := by
  induction xs with
  | nil => exact ⟨[], rfl, by simp⟩
  | cons x xs ih =>
    simp only [List.all_cons, Bool.and_eq_true] at h
    obtain ⟨ns, e, hn⟩ := ih h.2
    cases x with
    | int i =>
      refine ⟨i :: ns, by rw [e]; rfl, fun n hn' => ?_⟩
      rcases List.mem_cons.mp hn' with rfl | hn'
      · simpa [isNumV] using h.1
      · exact hn n hn'
    | _ => simp [isNumV] at h
theorem riseV_ints : ∀ ns : List Int, riseV (ns.map V.int) = true ↔ ns.Pairwise (· < ·)
  | [] => by simp [riseV]
  | [n] => by simp [riseV]
  | n :: m :: r => by
    have ih := riseV_ints (m :: r)
    simp only [List.map_cons] at ih ⊢
    simp only [riseV, Bool.and_eq_true, decide_eq_true_eq, ih]
    constructor
    · rintro ⟨h1, h2⟩
      refine List.pairwise_cons.mpr ⟨fun x hx => ?_, h2⟩
      rcases List.mem_cons.mp hx with rfl | hx
      · exact h1
      · have := (List.pairwise_cons.mp h2).1 x hx
        omega
    · intro h
      obtain ⟨h1, h2⟩ := List.pairwise_cons.mp h
      exact ⟨h1 m List.mem_cons_self, h2⟩
theorem rise_steps {ns : List Int} (h : ∀ (i : Nat) a b, ns[i]? = some a → ns[i + 1]? = some b → a < b) : ns.Pairwise (· < ·) := by
  induction ns with
  | nil => exact .nil
  | cons n ns ih =>
    have ih' := ih fun i a b h1 h2 => h (i + 1) a b (by simpa using h1) (by simpa using h2)
    cases ns with
    | nil => exact List.pairwise_singleton _ _
    | cons m r =>
      have h0 := h 0 n m rfl rfl
      refine List.pairwise_cons.mpr ⟨fun x hx => ?_, ih'⟩
      rcases List.mem_cons.mp hx with rfl | hx
      · exact h0
      · have := (List.pairwise_cons.mp ih').1 x hx
        omega
abbrev nm_look_nights : List Str := ["nights", "one", "other"]
abbrev pm_look_nights : List Str := ["nights"]
abbrev lv_look_nights : Nat := 2
theorem sc_look_nights : FnScope nm_look_nights pm_look_nights (defScope s_look_nights) := ⟨rfl, rfl, rfl, by decide +kernel, rfl, by decide +kernel, by decide +kernel⟩
def sp_look_nights (K : PySem.W.Frag) (mg : Str → Option Value) : Sp := fun vs H Q E => ∃ (x : V), vs = [x] ∧ DT K H 1 x ∧ (isNightsV H x = true → ∀ H', Same H H' → Q .non H') ∧ (isNightsV H x = false → ∀ H', Same H H' → E (.ref (cls mg "BadNights")) none H')
def iv_look_nights (a : Addr) (ns : List Int) (H : Hp) (c : Addr) (i : Nat) (σ : L2.St) (H' : Hp) : Prop := (∃ y1 y2, σ = [some (.ref a), y1, y2]) ∧ Same H H' ∧ H' c = some (.lst ((ns.drop 1).map V.int)) ∧ ∀ (j : Nat) x y, j < i → ns[j]? = some x → ns[j + 1]? = some y → x < y
theorem f_look_nights (T : Txt K mg) : Fk P w K mg base (L2.CX P w) lv_look_nights "look_nights" pm_look_nights (sp_look_nights K mg) := by
  obtain ⟨f, fd, F, g, b⟩ := T.d_look_nights.ex
  refine ⟨f, fd, g, F.kp, b, F.okX sc_look_nights (fun vs H Q E h => ?_) (fun cdv A outer s H vs Q E hr h => ?_)⟩
  · obtain ⟨x, rfl, _⟩ := h; rfl
  · obtain ⟨x, rfl, ⟨⟨n, hx⟩, hin⟩, q1, q2⟩ := h
    refine ⟨_, (pss_cons (ps_if (PW.pt (pw_or (pt_not (pt_val (pe_callB call_isi (by rfl) T.b_isinstance (by decide +kernel) (pa_cons (pv 0) (pa_cons (pe_bltn (v := .ty "list") (by rfl) T.b_list (by decide +kernel) rfl) pa_nil))))) (pw_or1 (pt_cmpR op_gt (pe_callB call_len_seq (by rfl) T.b_len PySem.boot_len (pa_cons (pv 0) pa_nil)) (pe_globI T.c_MOST_HELD (by rfl)) (nomark _))))) (pss_one (ps_raise rfl (takes_of rfl rfl rfl rfl) (pmk_own PySem.F.excBase_RuntimeError T.x_BadNights.xP T.x_BadNights.gP T.x_BadNights.kP T.x_BadNights.rs rfl))) pss_nil)
      (pss_cons (ps_if (pt_not (pt_val (pe_callB (cr_all rfl) (by rfl) T.b_all (by decide +kernel) (pa_cons (pe_lc (own := [("one", 1)]) (g := gName 1) (tt := tYes) (by rfl) sc_look_nights.nd (pi_list (pv 0)) (blkOk_by (own := [("one", 1)]) (N := nm_look_nights) (sc := defScope s_look_nights) (by decide +kernel)) (fun _ _ _ _ _ => (pg_name (i := 1) sc_look_nights.nd rfl (Or.inl rfl))) (fun _ _ _ _ _ => pts_nil) (fun _ _ _ _ _ => (pe_fn (f_is_number T) (hr.mono (by decide)) (by rfl) pass0 (pa_cons (pv 1) (pa_cons pe_int (pa_cons (pe_globI T.c_MOST_NIGHT (by rfl)) pa_nil)))))) pa_nil)))) (pss_one (ps_raise rfl (takes_of rfl rfl rfl rfl) (pmk_own PySem.F.excBase_RuntimeError T.x_BadNights.xP T.x_BadNights.gP T.x_BadNights.kP T.x_BadNights.rs rfl))) pss_nil)
      (pss_one (ps_for (passes_of rfl) rfl (pi_zip (by rfl) T.b_zip (pa_cons (pv 0) (pa_cons (pe_slice sl_list (pv 0) (po_some pe_int) po_none) pa_nil))) (pg_tup rfl (pgs_cons (pg_name (i := 1) sc_look_nights.nd rfl (Or.inl rfl)) (pgs_cons (pg_name (i := 2) sc_look_nights.nd rfl (Or.inl rfl)) pgs_nil))) (pss_one (ps_if (pt_cmpR op_ge (pv 1) (pv 2) (nomark _)) (pss_one (ps_raise rfl (takes_of rfl rfl rfl rfl) (pmk_own PySem.F.excBase_RuntimeError T.x_BadNights.xP T.x_BadNights.gP T.x_BadNights.kP T.x_BadNights.rs rfl))) pss_nil)))))), ?_⟩
    with_reducible refine seq_k fun K_ hK_ => ?_
    walk_at "rs"
    refine isi_thing hx (by decide) ?_
    cases hx with
    | @lst a xs ha =>
      obtain ⟨hz, hth⟩ := hin a xs rfl (.inr ha)
      refine ⟨true, rfl, ?_⟩
      walk_at "rs"
      refine ⟨xs, .inl (sqL ha), ?_⟩
      have e0 : isNightsV H (.ref a) = (decide (xs.length ≤ 100) && xs.all (fun y => isNumV y 0 (.int 1000000000)) && riseV xs) := by
        simp only [isNightsV, ha]
      rw [e0] at q1 q2
      by_cases c1 : xs.length ≤ 100
      · rw [if_neg (show ¬ (100 : Int) < (xs.length : Int) by omega)]
        walk_at "rs"
        subst hK_
        first | with_reducible refine seq_k fun K_ hK_ => ?_ | skip
        walk_at "rs"
        refine ⟨_, rfl, a, rfl, ⟨xs, sqL ha⟩, fun D hD => ?_⟩
        refine lcL hD (sqL ha) (fun i => (xs.take i).map fun y => .bl (isNumV y 0 (.int 1000000000))) rfl (fun i y H2 hy p => ?_) (fun H2 s2 hD2 => ?_)
        · walk_at "rs"
          obtain ⟨m, hm⟩ := (hth y (mem_of_get hy)).th
          refine ⟨y, m, 0, .int 1000000000, rfl, Thing.same p.same hm, fun _ _ => ⟨_, rfl⟩, ?_⟩
          exact p.push hD (by simp; omega) (Same.refl _) (map_take_next _ hy)
        · refine ⟨D, xs.map fun y => isNumV y 0 (.int 1000000000), rfl, ?_, ?_⟩
          · rw [List.take_length] at hD2
            rw [List.map_map]
            exact sqL hD2
          walk_at "rs"
          simp only [List.all_map, Function.comp_def, id_eq]
          cases e : xs.all (fun y => isNumV y 0 (.int 1000000000)) with
          | false => exact q2 (by simp [e]) H2 s2
          | true =>
            obtain ⟨ns, rfl, hns⟩ := allNum e
            walk_at "rs"
            subst hK_
            first | with_reducible refine seq_k fun K_ hK_ => ?_ | skip
            walk_at "rs"
            refine ⟨_, rfl, _, rfl, 1, rfl, a, _, rfl, s2.seq (sqL ha), fun c hc => ?_⟩
            have s3 : Same H (upd H2 c (.lst (cutV (ns.map V.int) (some 1) none))) := s2.trans (same_upd hc)
            have hC : (upd H2 c (.lst (cutV (ns.map V.int) (some 1) none))) c = some (.lst ((ns.drop 1).map V.int)) := by
              rw [upd_same, show cutV (ns.map V.int) (some 1) none = (ns.map V.int).drop 1 from cut_from _ 1, List.map_drop]
            refine ⟨a, c, ns.map V.int, (ns.drop 1).map V.int, rfl, s3.seq (sqL ha), sqL hC, ?_⟩
            have hn : ns.length - 1 = min (ns.map V.int).length ((ns.drop 1).map V.int).length := by simp
            refine for_it (walk_zip hn) (iv_look_nights a ns H c) ⟨⟨none, none, rfl⟩, s3, hC, fun j _ _ hj => absurd hj (by omega)⟩ (fun i σ H5 _ p => ⟨p.2.1.seq (sqL ha), sqL p.2.2.1⟩) ?_ ?_
            · rintro i x σ H5 H6 hi ⟨⟨y1, y2, rfl⟩, s5, hc5, hr5⟩ ⟨t, u, v, rfl, ht, rfl, hu, hv⟩
              have hu : (ns.map V.int)[i]? = some u := hu
              have hv : ((ns.drop 1).map V.int)[i]? = some v := hv
              rw [List.getElem?_map] at hu hv
              rw [List.getElem?_drop, Nat.add_comm] at hv
              cases eu : ns[i]? with
              | none => rw [eu] at hu; cases hu
              | some x =>
                rw [eu] at hu
                cases hu
                cases ev : ns[i + 1]? with
                | none => rw [ev] at hv; cases hv
                | some y =>
                  rw [ev] at hv
                  cases hv
                  have s6 := s5.trans (same_upd (o := .tup [.int x, .int y]) ht)
                  refine ⟨t, [.int x, .int y], rfl, sqT upd_same, rfl, ?_⟩
                  walk_at "rs"
                  refine ite2 (fun c2 => ?_) (fun c2 => ?_)
                  · refine q2 ?_ _ s6
                    have : riseV (ns.map V.int) = false := by
                      cases e2 : riseV (ns.map V.int) with
                      | false => rfl
                      | true =>
                        have hp := (riseV_ints ns).mp e2
                        obtain ⟨h1, e1⟩ := List.getElem?_eq_some_iff.mp eu
                        obtain ⟨h2, e2⟩ := List.getElem?_eq_some_iff.mp ev
                        have := List.pairwise_iff_getElem.mp hp i (i + 1) h1 h2 (by omega)
                        omega
                    simp [this]
                  · refine ⟨⟨_, _, rfl⟩, s6, (same_upd ht) _ _ hc5, fun j a b hj h1 h2 => ?_⟩
                    by_cases ej : j = i
                    · subst ej
                      rw [eu] at h1
                      rw [ev] at h2
                      cases h1
                      cases h2
                      omega
                    · exact hr5 j a b (by omega) h1 h2
            · rintro σ H5 ⟨_, s5, _, hr5⟩
              refine q1 ?_ H5 s5
              have : riseV (ns.map V.int) = true := (riseV_ints ns).mpr (rise_steps fun i a b h1 h2 => hr5 i a b (by have := lt_of_get h2; omega) h1 h2)
              have c1' : ns.length ≤ 100 := by simpa using c1
              simp [this, e, c1']
      · rw [if_pos (show (100 : Int) < (xs.length : Int) by omega)]
        exact q2 (by simp [c1]) H (Same.refl H)
    | _ => exact ⟨false, by rfl, by simpa using q2 (by simp [isNightsV, *]) H (Same.refl H)⟩
abbrev nm_kept_by : List Str := ["rule", "nights", "found", "ahead", "night", "number"]
abbrev pm_kept_by : List Str := ["rule", "nights"]
abbrev lv_kept_by : Nat := 2
theorem sc_kept_by : FnScope nm_kept_by pm_kept_by (defScope s_kept_by) := ⟨rfl, rfl, rfl, by decide +kernel, rfl, by decide +kernel, by decide +kernel⟩
def sp_kept_by (K : PySem.W.Frag) : Sp := fun vs H Q _ => ∃ (x : V) (ru : List Int × Int) (l : Addr) (ns : List Int), vs = [x, .ref l] ∧ RuleAt H x ru ∧ SqL K H l (ns.map V.int) ∧
  ∀ p H', Same H H' → H p = none → H' p = some (.lst ((keptBy ru ns).map V.int)) → Q (.ref p) H'
def iv_kept_by (x : V) (l p : Addr) (ru : List Int × Int) (ns : List Int) (H : Hp) (i : Nat) (σ : L2.St) (H' : Hp) : Prop :=
  (∃ y4 y5, σ = [some x, some (.ref l), some (.ref p), some (match lastN ru.1 none (ns.reverse.take i) with | none => .non | some k => .int k), y4, y5]) ∧ Same H H' ∧ H' p = some (.lst ((endsR ru.1 none (ns.reverse.take i)).map V.int)) ∧ (endsR ru.1 none (ns.reverse.take i)).length < ru.2.toNat
theorem f_kept_by (T : Txt K mg) : Fk P w K mg base CX0 lv_kept_by "kept_by" pm_kept_by (sp_kept_by K) := by
  obtain ⟨f, fd, F, g, b⟩ := T.d_kept_by.ex
  refine ⟨f, fd, g, F.kp, b, F.ok sc_kept_by (fun vs H Q E h => ?_) (fun cdv A outer s H vs Q E hr h => ?_)⟩
  · obtain ⟨x, ru, l, ns, rfl, _⟩ := h; rfl
  · obtain ⟨x, ru, l, ns, rfl, hx, hl, q⟩ := h
    refine ⟨_, (pss_cons (ps_set (i := 2) sc_kept_by.nd rfl (.inl rfl) (pe_lst pa_nil))
      (pss_cons (ps_set (i := 3) sc_kept_by.nd rfl (.inl rfl) pe_non)
      (pss_cons (ps_for PassesOwn.never rfl (pi_reversed (by rfl) T.b_reversed (pa_cons (pv 1) pa_nil)) (pg_name (i := 4) sc_kept_by.nd rfl (Or.inl rfl)) (pss_cons (ps_set (i := 5) sc_kept_by.nd rfl (.inl rfl) (pe_fn (f_number_of T) (hr.mono (by decide)) (by rfl) pass0 (pa_cons (pe_ix ix_tup (pv 0) pe_int (fun _ _ => rfl)) (pa_cons (pv 4) pa_nil))))
      (pss_cons (ps_if (pt_cmpR op_ne (pv 5) (pv 3) (nomark _)) (pss_cons (ps_expr (pe_bm PySem.F.plainAttrs_list PySem.F.slot_list_append PySem.F.type_list_append mt_append (pv 2) (pa_cons (pv 4) pa_nil)))
      (pss_one (ps_set (i := 3) sc_kept_by.nd rfl (.inl rfl) (pv 5)))) pss_nil)
      (pss_one (ps_if (pt_cmpR op_eq (pe_callB call_len_seq (by rfl) T.b_len PySem.boot_len (pa_cons (pv 2) pa_nil)) (pe_ix ix_tup (pv 0) pe_int (fun _ _ => rfl)) (nomark _)) (pss_one (ps_ret (pv 2))) pss_nil)))))
      (pss_one (ps_ret (pv 2)))))), ?_⟩
    with_reducible refine seq_k fun K_ hK_ => ?_
    walk_at "rs"
    intro p hp
    walk_at "rs"
    subst hK_
    first | with_reducible refine seq_k fun K_ hK_ => ?_ | skip
    walk_at "rs"
    walk_at "rs"
    subst hK_
    first | with_reducible refine seq_k fun K_ hK_ => ?_ | skip
    walk_at "rs"
    have sP : Same H (upd H p (.lst [])) := same_upd hp
    obtain ⟨bx, rx, rfl, hbx, hrx, m1, m20⟩ := id hx
    have hM : (ns.map V.int).length = ns.length := List.length_map _
    refine ⟨_, rfl, l, ns.map V.int, rfl, sP.seq hl, for_it walk_rev (iv_kept_by (.ref bx) l p ru ns H)
      ⟨⟨none, none, by simp [lastN]⟩, sP, by rw [upd_same]; simp [endsR], by simp [endsR]; omega⟩ (fun i σ H5 _ p => p.2.1.seq hl) ?_ ?_⟩
    · rintro i v σ H5 H6 hi ⟨⟨y4, y5, rfl⟩, s5, hp5, hc5⟩ ⟨rfl, hv⟩
      rw [hM] at hi hv
      obtain ⟨n, hn, rfl⟩ : ∃ n, ns.reverse[i]? = some n ∧ v = .int n := by
        rw [List.getElem?_map] at hv
        rw [List.getElem?_reverse hi]
        cases e : ns[ns.length - 1 - i]? with
        | none => rw [e] at hv; cases hv
        | some n => rw [e] at hv; cases hv; exact ⟨n, rfl, rfl⟩
      have ht := take_next hn
      have hsn := endsR_snoc ru.1 (ns.reverse.take i) none n
      rw [← ht] at hsn
      have hln := lastN_snoc ru.1 none (ns.reverse.take i) n
      rw [← ht] at hln
      walk_at "rs"
      with_reducible refine seq_k fun K_ hK_ => ?_
      walk_at "rs"
      refine ixT (j := 0) (sqT (s5 _ _ hbx)) rfl rfl ?_
      refine ⟨rx, ru.1, n, rfl, hrx.same s5, ?_⟩
      walk_at "rs"
      subst hK_
      first | with_reducible refine seq_k fun K_ hK_ => ?_ | skip
      walk_at "rs"
      -- behind the test both ways meet
      have meet : ∀ (H7 : Hp), Same H H7 → H7 p = some (.lst ((endsR ru.1 none (ns.reverse.take (i + 1))).map V.int)) →
          K_ [some (.ref bx), some (.ref l), some (.ref p), some (.int (numOf ru.1 n)), some (.int n), some (.int (numOf ru.1 n))] H7 := by
        intro H7 s7 hp7
        walk_at "rs"
        subst hK_
        first | with_reducible refine seq_k fun K_ hK_ => ?_ | skip
        walk_at "rs"
        have hle : (endsR ru.1 none (ns.reverse.take (i + 1))).length ≤ ru.2.toNat := by
          rw [hsn, List.length_append]
          split <;> simp <;> omega
        refine ⟨_, .inl (sqL hp7), ?_⟩
        refine ixT (j := 1) (sqT (s7 _ _ hbx)) rfl rfl ?_
        walk_at "rs"
        rw [List.length_map]
        refine ite2 (fun c => ?_) (fun c => ?_)
        · refine q p H7 s7 hp ?_
          have hpre : ∃ t, endsR ru.1 none ns.reverse = endsR ru.1 none (ns.reverse.take (i + 1)) ++ t := by
            have := endsR_pre ru.1 none (ns.reverse.drop (i + 1)) (ns.reverse.take (i + 1))
            rwa [List.take_append_drop] at this
          have e := take_prefix hpre (k := ru.2.toNat) (by omega)
          unfold keptBy
          rw [← e]
          exact hp7
        · refine ⟨⟨some (.int n), some (.int (numOf ru.1 n)), ?_⟩, s7, hp7, by omega⟩
          rw [hln]
      by_cases c : lastN ru.1 none (ns.reverse.take i) = some (numOf ru.1 n)
      · rw [c]
        walk_at "rs"
        simp only [not_true_eq_false, if_false]
        rw [if_pos c, List.append_nil] at hsn
        exact meet H6 s5 (by rw [hsn]; exact hp5)
      · rw [if_neg c] at hsn
        have go : ∀ (bk ct : L2.St → Hp → Prop) (v : V), tSeq (tDrop (tBM K "list" rAppend (tVar 2) (tCons (tVar 4) tNil))) (tAsg (tVar 5) (gName 3)) { nx := K_, rt := Q, bk := bk, ct := ct }
            [some (.ref bx), some (.ref l), some (.ref p), some v, some (.int n), some (.int (numOf ru.1 n))] H6 := by
          intro bk ct v
          with_reducible refine seq_k fun K_ hK_ => ?_
          walk_at "rs"
          refine app hp5 (by simp; omega) ?_
          walk_at "rs"
          subst hK_
          first | with_reducible refine seq_k fun K_ hK_ => ?_ | skip
          walk_at "rs"
          refine meet _ (Same.app s5 hp) ?_
          rw [upd_same, hsn, List.map_append]; rfl
        cases e : lastN ru.1 none (ns.reverse.take i) with
        | none =>
          walk_at "rs"
          exact go _ _ _
        | some k =>
          walk_at "rs"
          rw [if_pos (fun z => c (by rw [e, z]))]
          exact go _ _ _
    · rintro σ H5 ⟨⟨y4, y5, rfl⟩, s5, hp5, hc5⟩
      rw [hM] at hp5 hc5
      rw [List.take_of_length_le (by simp)] at hp5 hc5
      walk_at "rs"
      subst hK_
      first | with_reducible refine seq_k fun K_ hK_ => ?_ | skip
      walk_at "rs"
      refine q p H5 s5 hp ?_
      unfold keptBy
      rw [List.take_of_length_le (by omega)]
      exact hp5
end
end Nk
namespace Nk
open PySem L2
section
variable {P : Program} {w : World} {K : PySem.W.Frag} {mg : Str → Option Value} {base : Heap}
/-- a dict whose keys are the whole numbers ks -/
structure IK (kvs : List (Key × V)) (ks : List Int) : Prop where
  keys : kvs.map (·.1) = ks.map Sum.inl
  nd : ks.Nodup
theorem IK.len {kvs : List (Key × V)} {ks : List Int} (h : IK kvs ks) : kvs.length = ks.length := by
  have := congrArg List.length h.keys
  simpa using this
theorem putK_old {kvs : List (Key × V)} {k : Key} {v : V} (h : (valV kvs k).isSome = true) : (putK kvs k v).map (·.1) = kvs.map (·.1) := by
  have ha : (kvs.any fun kv => decide (kv.1 = k)) = true := by rw [valV_any]; exact h
  unfold putK
  rw [if_pos ha, List.map_map]
  congr 1
  funext p
  simp only [Function.comp]
  split <;> rfl
theorem ik_put {kvs : List (Key × V)} {ks : List Int} (h : IK kvs ks) (n : Int) (v : V) : ∃ ks', IK (putK kvs (.inl n) v) ks' ∧ (∀ m, m ∈ ks' ↔ m ∈ ks ∨ m = n) ∧ ks'.length ≤ ks.length + 1 := by
  have memK : ∀ m : Int, (Sum.inl m : Key) ∈ kvs.map (·.1) ↔ m ∈ ks := fun m => by
    rw [h.keys, List.mem_map]
    constructor
    · rintro ⟨a, ha, e⟩
      cases e
      exact ha
    · intro hm
      exact ⟨m, hm, rfl⟩
  cases e : valV kvs (Sum.inl n : Key) with
  | some x =>
    refine ⟨ks, ⟨by rw [putK_old (by rw [e]; rfl)]; exact h.keys, h.nd⟩, fun m => ⟨.inl, fun hm => ?_⟩, by omega⟩
    rcases hm with hm | rfl
    · exact hm
    · exact (memK _).mp (valV_in e)
  | none =>
    have hn : n ∉ ks := fun z => valV_not e ((memK n).mpr z)
    refine ⟨ks ++ [n], ⟨?_, nd_snoc h.nd hn⟩, fun m => by simp, by simp⟩
    rw [putK_new _ e, List.map_append, List.map_append, h.keys]
    rfl
theorem keptBy_len {ru : List Int × Int} {ns : List Int} (h : ru.2 ≤ 20) : (keptBy ru ns).length ≤ 20 := by
  unfold keptBy
  rw [List.length_take]
  omega
abbrev nm_kept_of : List Str := ["rules", "nights", "found", "rule", "night"]
abbrev pm_kept_of : List Str := ["rules", "nights"]
abbrev lv_kept_of : Nat := 3
theorem sc_kept_of : FnScope nm_kept_of pm_kept_of (defScope s_kept_of) := ⟨rfl, rfl, rfl, by decide +kernel, rfl, by decide +kernel, by decide +kernel⟩
def sp_kept_of (K : PySem.W.Frag) : Sp := fun vs H Q _ => ∃ (a l : Addr) (rus : List (List Int × Int)) (ns : List Int), vs = [.ref a, .ref l] ∧ RulesAt H a rus ∧ SqL K H l (ns.map V.int) ∧ ns.Pairwise (· < ·) ∧
  ∀ p H', Same H H' → H p = none → H' p = some (.lst ((keptF rus ns).map V.int)) → Q (.ref p) H'
def iv_kept_of (a l d : Addr) (rus : List (List Int × Int)) (ns : List Int) (H : Hp) (i : Nat) (σ : L2.St) (H' : Hp) : Prop :=
  (∃ y3 y4, σ = [some (.ref a), some (.ref l), some (.ref d), y3, y4]) ∧ Same H H' ∧ ∃ kvs ks, H' d = some (.dK kvs) ∧ IK kvs ks ∧ ks.length ≤ 20 * i ∧ ∀ m, m ∈ ks ↔ ∃ ru ∈ rus.take i, m ∈ keptBy ru ns
def iv_kept_of2 (a l d p : Addr) (x : V) (kb : List Int) (ks0 : List Int) (H : Hp) (i : Nat) (j : Nat) (σ : L2.St) (H' : Hp) : Prop :=
  (∃ y4, σ = [some (.ref a), some (.ref l), some (.ref d), some x, y4]) ∧ Same H H' ∧ H' p = some (.lst (kb.map V.int)) ∧ ∃ kvs ks, H' d = some (.dK kvs) ∧ IK kvs ks ∧ ks.length ≤ 20 * i + j ∧ ∀ m, m ∈ ks ↔ m ∈ ks0 ∨ m ∈ kb.take j
theorem f_kept_of (T : Txt K mg) : Fk P w K mg base CX0 lv_kept_of "kept_of" pm_kept_of (sp_kept_of K) := by
  obtain ⟨f, fd, F, g, b⟩ := T.d_kept_of.ex
  refine ⟨f, fd, g, F.kp, b, F.ok sc_kept_of (fun vs H Q E h => ?_) (fun cdv A outer s H vs Q E hr h => ?_)⟩
  · obtain ⟨a, l, rus, ns, rfl, _⟩ := h; rfl
  · obtain ⟨a, l, rus, ns, rfl, hR, hl, hrise, q⟩ := h
    have hu := hu_of hr
    refine ⟨_, (pss_cons (ps_set (i := 2) sc_kept_of.nd rfl (.inl rfl) pe_dnewK)
      (pss_cons (ps_for PassesOwn.never rfl (pi_tup (pv 0)) (pg_name (i := 3) sc_kept_of.nd rfl (Or.inl rfl)) (pss_one (ps_for PassesOwn.never rfl (pi_list (pe_fn (f_kept_by T) (hr.mono (by decide)) (by rfl) pass0 (pa_cons (pv 3) (pa_cons (pv 1) pa_nil)))) (pg_name (i := 4) sc_kept_of.nd rfl (Or.inl rfl)) (pss_one (ps_dput hu (pv 2) (pv 4) pe_bl rfl)))))
      (pss_one (ps_ret (pe_callB (cr_sortedKI rfl) (by rfl) T.b_sorted (by decide +kernel) (pa_cons (pe_bm0 PySem.F.plainAttrs_dict PySem.F.slot_dict_keys PySem.F.type_dict_keys mt_keys (pv 2)) pa_nil)))))), ?_⟩
    with_reducible refine seq_k fun K_ hK_ => ?_
    walk_at "rs"
    intro d hd
    walk_at "rs"
    subst hK_
    first | with_reducible refine seq_k fun K_ hK_ => ?_ | skip
    walk_at "rs"
    have sD : Same H (upd H d (.dK [])) := same_upd hd
    obtain ⟨xs, ha, hxl, hxr⟩ := hR.ex
    have hl5 := hR.l5
    refine ⟨_, rfl, a, rfl, ⟨_, sqT (sD _ _ ha)⟩, for_tup (K := K) (a := a) (xs := xs) (iv_kept_of a l d rus ns H)
      ⟨⟨none, none, rfl⟩, sD, [], [], upd_same, ⟨rfl, List.nodup_nil⟩, by simp, fun m => by simp⟩ (fun i σ H5 _ p => sqT (p.2.1 _ _ ha)) ?_ ?_⟩
    · rintro i x σ H5 hx ⟨⟨y3, y4, rfl⟩, s5, kvs, ks, hd5, hik, hkl, hmem⟩
      obtain ⟨ru, hru, hxa⟩ := hxr i x hx
      have hi5 := lt_of_get hru
      have hru20 : ru.2 ≤ 20 := by obtain ⟨_, _, _, _, _, _, z⟩ := hxa; exact z
      walk_at "rs"
      refine ⟨_, rfl, _, rfl, x, ru, l, ns, rfl, hxa.same s5, s5.seq hl, fun p H6 s6 hp6 hP => ?_⟩
      have hpd : p ≠ d := fun e => by rw [e, hd5] at hp6; cases hp6
      have hkb := keptBy_len (ns := ns) hru20
      refine ⟨p, rfl, ⟨_, sqL hP⟩, for_list (K := K) (a := p) (xs := (keptBy ru ns).map V.int) (iv_kept_of2 a l d p x (keptBy ru ns) ks H i)
        ⟨⟨_, rfl⟩, s5.trans s6, hP, kvs, ks, s6 _ _ hd5, hik, by omega, fun m => by simp⟩ (fun j σ H7 _ p => sqL p.2.2.1) ?_ ?_⟩
      · rintro j y σ H7 hy ⟨⟨y4, rfl⟩, s7, hp7, kvs7, ks7, hd7, hik7, hkl7, hmem7⟩
        rw [List.getElem?_map] at hy
        cases e : (keptBy ru ns)[j]? with
        | none => rw [e] at hy; cases hy
        | some n =>
          rw [e] at hy
          cases hy
          have hj := lt_of_get e
          have hkl := hik7.len
          walk_at "rs"
          obtain ⟨ks8, h1, h2, h3⟩ := ik_put hik7 n (.bl true)
          refine ⟨_, DPut.k (k := Sum.inl n) hd7 (szl (by omega)), ?_⟩
          refine ⟨⟨_, rfl⟩, Same.app s7 hd, by rw [upd_ne hpd]; exact hp7, _, ks8, upd_same, h1, by omega, fun m => ?_⟩
          rw [h2, hmem7, take_next e, List.mem_append, List.mem_singleton, or_assoc]
      · rintro σ H7 ⟨⟨y4, rfl⟩, s7, hp7, kvs7, ks7, hd7, hik7, hkl7, hmem7⟩
        rw [List.length_map] at hkl7
        refine ⟨⟨_, _, rfl⟩, s7, kvs7, ks7, hd7, hik7, by omega, fun m => ?_⟩
        rw [hmem7, List.length_map, List.take_length, hmem, take_next hru]
        constructor
        · rintro (⟨r, h1, h2⟩ | h)
          · exact ⟨r, List.mem_append_left _ h1, h2⟩
          · exact ⟨ru, List.mem_append_right _ List.mem_cons_self, h⟩
        · rintro ⟨r, h1, h2⟩
          rcases List.mem_append.mp h1 with h1 | h1
          · exact .inl ⟨r, h1, h2⟩
          · rw [List.mem_singleton.mp h1] at h2
            exact .inr h2
    · rintro σ H5 ⟨⟨y3, y4, rfl⟩, s5, kvs, ks, hd5, hik, hkl, hmem⟩
      rw [hxl, List.take_length] at hmem
      walk_at "rs"
      subst hK_
      first | with_reducible refine seq_k fun K_ hK_ => ?_ | skip
      walk_at "rs"
      refine ⟨.inr (.inr (.inl ⟨rfl, .inl ⟨_, hd5⟩⟩)), ?_⟩
      refine ⟨d, kvs, rfl, rfl, hd5, fun v hv => ?_⟩
      have s6 := s5.trans (same_upd (o := KeysO v d) hv)
      refine ⟨v, d, kvs, ks, rfl, upd_same, (same_upd hv) _ _ hd5, hik.keys, fun ys p hperm hsort hp => ?_⟩
      refine q p _ (s6.trans (same_upd hp)) (s6.free hp) ?_
      rw [upd_same]
      have e : ys = keptF rus ns := rise_ext (rise_of_le hsort (hperm.nodup_iff.mpr hik.nd)) (keptF_rise hrise) fun m => by
        rw [hperm.mem_iff, hmem, mem_keptF]
      rw [e]
abbrev nm_kept : List Str := ["rules", "nights"]
abbrev pm_kept : List Str := ["rules", "nights"]
abbrev lv_kept : Nat := 5
theorem sc_kept : FnScope nm_kept pm_kept (defScope s_kept) := ⟨rfl, rfl, rfl, by decide +kernel, rfl, by decide +kernel, by decide +kernel⟩
def sp_kept (K : PySem.W.Frag) (mg : Str → Option Value) : Sp := fun vs H Q E => ∃ (x y : V), vs = [x, y] ∧ DT K H 3 x ∧ DT K H 1 y ∧
  (isRulesV H x = false → ∀ H', Same H H' → E (.ref (cls mg "BadRules")) none H') ∧
  (isRulesV H x = true → isNightsV H y = false → ∀ H', Same H H' → E (.ref (cls mg "BadNights")) none H') ∧
  (isRulesV H x = true → isNightsV H y = true → ∃ (a l : Addr) (rus : List (List Int × Int)) (ns : List Int), x = .ref a ∧ y = .ref l ∧ RulesAt H a rus ∧ SqL K H l (ns.map V.int) ∧ ns.Pairwise (· < ·) ∧
    ∀ p H', Same H H' → H p = none → H' p = some (.lst ((keptF rus ns).map V.int)) → Q (.ref p) H')
theorem f_kept (T : Txt K mg) : Fk P w K mg base (L2.CX P w) lv_kept "kept" pm_kept (sp_kept K mg) := by
  obtain ⟨f, fd, F, g, b⟩ := T.d_kept.ex
  refine ⟨f, fd, g, F.kp, b, F.okX sc_kept (fun vs H Q E h => ?_) (fun cdv A outer s H vs Q E hr h => ?_)⟩
  · obtain ⟨x, y, rfl, _⟩ := h; rfl
  · obtain ⟨x, y, rfl, hx, hy, q1, q2, q3⟩ := h
    refine ⟨_, (pss_cons (ps_expr (pe_fn (f_look_rules T) (hr.mono (by decide)) (by rfl) (passX (takes_of rfl rfl rfl rfl)) (pa_cons (pv 0) pa_nil)))
      (pss_cons (ps_expr (pe_fn (f_look_nights T) (hr.mono (by decide)) (by rfl) (passX (takes_of rfl rfl rfl rfl)) (pa_cons (pv 1) pa_nil)))
      (pss_one (ps_ret (pe_fn (f_kept_of T) (hr.mono (by decide)) (by rfl) pass0 (pa_cons (pv 0) (pa_cons (pv 1) pa_nil))))))), ?_⟩
    walk_at "rd"
    refine ⟨x, rfl, hx, fun e H' s' => ?_, q1⟩
    walk_at "rd"
    have en : isNightsV H' y = isNightsV H y := by
      obtain ⟨n, hn⟩ := hy.th
      cases hn with
      | lst h => simp only [isNightsV, h, s' _ _ h]
      | tup h => simp only [isNightsV, h, s' _ _ h]
      | dic h => simp only [isNightsV, h, s' _ _ h]
      | _ => rfl
    refine ⟨y, rfl, hy.same s', fun e2 H2 s2 => ?_, fun e2 H2 s2 => q2 e (by rw [← en]; exact e2) H2 (s'.trans s2)⟩
    obtain ⟨a, l, rus, ns, rfl, rfl, ha, hl, hr, q⟩ := q3 e (by rw [← en]; exact e2)
    have s3 := s'.trans s2
    walk_at "rd"
    exact ⟨a, l, rus, ns, rfl, ha.same s3, s3.seq hl, hr, fun p H4 s4 hp h4 => q p H4 (s3.trans s4) (s3.free hp) h4⟩
theorem lst_thing {H : Hp} {l : Addr} {ns : List Int} (hl : H l = some (.lst (ns.map V.int))) (hz : ns.length ≤ 100000) : DT K H 1 (.ref l) := by
  refine ⟨⟨_, .lst hl⟩, fun a xs e ha => ?_⟩
  cases e
  rw [hl] at ha
  rcases ha with z | z <;> cases z
  refine ⟨by simpa using hz, fun y hy => ?_⟩
  obtain ⟨i, _, rfl⟩ := List.mem_map.mp hy
  exact ⟨_, .int i⟩
theorem nights_is {H : Hp} {l : Addr} {ns : List Int} (hl : H l = some (.lst (ns.map V.int))) (hz : ns.length ≤ 100) (hr : ns.Pairwise (· < ·)) (hb : ∀ n ∈ ns, 0 ≤ n ∧ n ≤ 1000000000) : isNightsV H (.ref l) = true := by
  have h1 : riseV (ns.map V.int) = true := (riseV_ints ns).mpr hr
  have h2 : (ns.map V.int).all (fun y => isNumV y 0 (.int 1000000000)) = true := by
    rw [List.all_eq_true]
    intro y hy
    obtain ⟨i, hi, rfl⟩ := List.mem_map.mp hy
    have := hb i hi
    simp [isNumV, this]
  simp only [isNightsV, hl, h1, h2, List.length_map, hz, decide_true, Bool.and_true]
theorem kept_good {H : Hp} {a l : Addr} {rus : List (List Int × Int)} {ns : List Int} {Q : VK} {E : XK} (R : RulesAt H a rus) (hl : H l = some (.lst (ns.map V.int))) (hz : ns.length ≤ 100) (hr : ns.Pairwise (· < ·)) (hb : ∀ n ∈ ns, 0 ≤ n ∧ n ≤ 1000000000)
    (q : ∀ p H', Same H H' → H p = none → H' p = some (.lst ((keptF rus ns).map V.int)) → Q (.ref p) H') : sp_kept K mg [.ref a, .ref l] H Q E :=
  ⟨.ref a, .ref l, rfl, R.thing, lst_thing hl (by omega), (fun e => by rw [R.is] at e; cases e), (fun _ e => by rw [nights_is hl hz hr hb] at e; cases e), fun _ _ => ⟨a, l, rus, ns, rfl, rfl, R, sqL hl, hr, q⟩⟩
end
end Nk
namespace Nk
open PySem L2
section
variable {P : Program} {w : World} {K : PySem.W.Frag} {mg : Str → Option Value} {base : Heap}
/-- values and the rules that stand there -/
def RuleVs (H : Hp) (xs : List V) (rus : List (List Int × Int)) : Prop := xs.length = rus.length ∧ ∀ (i : Nat) x, xs[i]? = some x → ∃ ru, rus[i]? = some ru ∧ RuleAt H x ru
theorem RuleVs.same {H H' : Hp} {xs : List V} {rus : List (List Int × Int)} (h : RuleVs H xs rus) (s : Same H H') : RuleVs H' xs rus :=
  ⟨h.1, fun i x hx => by obtain ⟨ru, e, r⟩ := h.2 i x hx; exact ⟨ru, e, r.same s⟩⟩
theorem RuleVs.but {H H' : Hp} {t : Addr} {l : List V} {xs : List V} {rus : List (List Int × Int)} (h : RuleVs H xs rus) (s : But t H H') (ht : H t = some (.lst l)) : RuleVs H' xs rus :=
  ⟨h.1, fun i x hx => by obtain ⟨ru, e, r⟩ := h.2 i x hx; exact ⟨ru, e, r.but s ht⟩⟩
theorem RuleVs.snoc {H : Hp} {xs : List V} {rus : List (List Int × Int)} {x : V} {ru : List Int × Int} (h : RuleVs H xs rus) (r : RuleAt H x ru) : RuleVs H (xs ++ [x]) (rus ++ [ru]) := by
  refine ⟨by simp [h.1], fun i y hy => ?_⟩
  by_cases c : i < xs.length
  · rw [List.getElem?_append_left c] at hy
    obtain ⟨ru', e, r'⟩ := h.2 i y hy
    exact ⟨ru', by rw [List.getElem?_append_left (by rw [← h.1]; exact c)]; exact e, r'⟩
  · have hi : i = xs.length := by
      have := lt_of_get hy
      simp at this
      omega
    subst hi
    have e1 : (xs ++ [x])[xs.length]? = some x := by simp
    rw [e1] at hy
    cases hy
    refine ⟨ru, ?_, r⟩
    rw [h.1]
    simp
theorem RuleVs.set {H : Hp} {xs : List V} {rus : List (List Int × Int)} {x : V} {ru : List Int × Int} (h : RuleVs H xs rus) (r : RuleAt H x ru) (j : Nat) : RuleVs H (xs.set j x) (rus.set j ru) := by
  refine ⟨by simp [h.1], fun i y hy => ?_⟩
  have hl := lt_of_get hy
  rw [List.length_set] at hl
  by_cases c : i = j
  · subst c
    rw [List.getElem?_set_self hl] at hy
    cases hy
    exact ⟨ru, List.getElem?_set_self (by rw [← h.1]; exact hl), r⟩
  · rw [List.getElem?_set_ne (fun z => c z.symm)] at hy
    obtain ⟨ru', e, r'⟩ := h.2 i y hy
    exact ⟨ru', by rw [List.getElem?_set_ne (fun z => c z.symm)]; exact e, r'⟩
theorem RuleVs.at_ {H : Hp} {a : Addr} {xs : List V} {rus : List (List Int × Int)} (h : RuleVs H xs rus) (ha : H a = some (.tup xs)) (h1 : 1 ≤ rus.length) (h5 : rus.length ≤ 5) : RulesAt H a rus := ⟨⟨xs, ha, h.1, h.2⟩, h1, h5⟩
/-- how great a rule is -/
def RuleLe (long top mm : Int) (ru : List Int × Int) : Prop := (ru.1.length : Int) ≤ long ∧ (∀ r ∈ ru.1, r ≤ top) ∧ ru.2 ≤ mm
abbrev nm__law_rules : List Str := ["script", "town", "many", "long", "top", "most_many", "count", "found", "k"]
abbrev pm__law_rules : List Str := ["script", "town", "many", "long", "top", "most_many"]
abbrev lv__law_rules : Nat := 3
theorem sc__law_rules : FnScope nm__law_rules pm__law_rules (defScope s__law_rules) := ⟨rfl, rfl, rfl, by decide +kernel, rfl, by decide +kernel, by decide +kernel⟩
def sp__law_rules (K : PySem.W.Frag) : Sp := fun vs H Q _ => ∃ (a t : Addr) (ns : List Int) (c : Nat) (many long top mm : Int), vs = [.ref a, .ref t, .int many, .int long, .int top, .int mm] ∧ Tn K H a t ns c ∧ c < 900000000 ∧ 0 < many ∧ many ≤ 1000 ∧ 0 < long ∧ long ≤ 12 ∧ 0 < top ∧ top ≤ 31 ∧ 0 < mm ∧ mm ≤ 20 ∧
  ∀ (rus : List (List Int × Int)) (xs : List V) (p : Addr) (c' : Nat) (H' : Hp), 1 ≤ rus.length → (rus.length : Int) ≤ many → (∀ ru ∈ rus, RuleLe long top mm ru) → H p = none → H' p = some (.tup xs) → RuleVs H' xs rus → c' ≤ c + 2 + 14 * many.toNat → Tn K H' a t ns c' → But t H H' → Q (.ref p) H'
def iv__law_rules (K : PySem.W.Frag) (a t p : Addr) (ns : List Int) (c : Nat) (many long top mm count : Int) (H : Hp) (i : Nat) (σ : L2.St) (H' : Hp) : Prop :=
  ∃ (y8 : Option V) (xs : List V) (rus : List (List Int × Int)) (c' : Nat), σ = [some (.ref a), some (.ref t), some (.int many), some (.int long), some (.int top), some (.int mm), some (.int count), some (.ref p), y8] ∧
    H' p = some (.lst xs) ∧ xs.length = i ∧ RuleVs H' xs rus ∧ (∀ ru ∈ rus, RuleLe long top mm ru) ∧ Tn K H' a t ns c' ∧ c' ≤ c + 1 + 14 * i ∧ But t H H'
theorem f__law_rules (T : Txt K mg) : Fk P w K mg base CX0 lv__law_rules "_law_rules" pm__law_rules (sp__law_rules K) := by
  obtain ⟨f, fd, F, g, b⟩ := T.d__law_rules.ex
  refine ⟨f, fd, g, F.kp, b, F.ok sc__law_rules (fun vs H Q E h => ?_) (fun cdv A outer s H vs Q E hr h => ?_)⟩
  · obtain ⟨a, t, ns, c, many, long, top, mm, rfl, _⟩ := h; rfl
  · obtain ⟨a, t, ns, c, many, long, top, mm, rfl, hT, hc, m0, m1, l0, l1, t0, t1, mm0, mm1, q⟩ := h
    refine ⟨_, (pss_cons (ps_set (i := 6) sc__law_rules.nd rfl (.inl rfl) (pe_op op_add pe_int (pe_fn (f__law_draw T) (hr.mono (by decide)) (by rfl) pass0 (pa_cons (pv 0) (pa_cons (pv 1) (pa_cons (pv 2) pa_nil))))))
      (pss_cons (ps_set (i := 7) sc__law_rules.nd rfl (.inl rfl) (pe_lst pa_nil))
      (pss_cons (ps_for PassesOwn.never rfl (pi_range1 (by rfl) T.b_range (pa_cons (pv 6) pa_nil)) (pg_name (i := 8) sc__law_rules.nd rfl (Or.inl rfl)) (pss_one (ps_expr (pe_bm PySem.F.plainAttrs_list PySem.F.slot_list_append PySem.F.type_list_append mt_append (pv 7) (pa_cons (pe_tup (pa_cons (pe_fn (f__law_rounds T) (hr.mono (by decide)) (by rfl) pass0 (pa_cons (pv 0) (pa_cons (pv 1) (pa_cons (pv 3) (pa_cons (pv 4) pa_nil))))) (pa_cons (pe_op op_add pe_int (pe_fn (f__law_draw T) (hr.mono (by decide)) (by rfl) pass0 (pa_cons (pv 0) (pa_cons (pv 1) (pa_cons (pv 5) pa_nil))))) pa_nil))) pa_nil)))))
      (pss_cons (ps_if (PW.pt (pw_and (pt_cmpR op_gt (pv 6) pe_int (nomark _)) (pw_and1 (pt_cmpR op_eq (pe_fn (f__law_draw T) (hr.mono (by decide)) (by rfl) pass0 (pa_cons (pv 0) (pa_cons (pv 1) (pa_cons pe_int pa_nil)))) pe_int (nomark _))))) (pss_one (ps_asg (pe_ix ix_list (pv 7) pe_int (fun _ _ => rfl)) (pg_sub (pv 7) (pe_op op_sub (pv 6) pe_int) set_list))) pss_nil)
      (pss_one (ps_ret (pe_callTy call_tuple_of (by rfl) T.b_tuple (by decide +kernel) (pa_cons (pv 7) pa_nil)))))))), ?_⟩
    with_reducible refine seq_k fun K_ hK_ => ?_
    walk_at "rs"
    refine ⟨a, t, ns, c, many, rfl, hT, by omega, m0, by omega, fun d H1 d0 d1 T1 b1 => ?_⟩
    walk_at "rs"
    subst hK_
    first | with_reducible refine seq_k fun K_ hK_ => ?_ | skip
    walk_at "rs"
    intro p hp
    have hpt : p ≠ t := T1.some_ hp
    have hpH : H p = none := by
      cases e : H p with
      | none => rfl
      | some o => rw [b1 _ _ e hpt] at hp; cases hp
    walk_at "rs"
    subst hK_
    first | with_reducible refine seq_k fun K_ hK_ => ?_ | skip
    walk_at "rs"
    refine ⟨_, rfl, 1 + d, rfl, by omega, by omega, for_range (lo := 0) (n := (1 + d).toNat) (iv__law_rules K a t p ns c many long top mm (1 + d) H)
      ⟨none, [], [], c + 1, rfl, upd_same, rfl, ⟨rfl, fun i x hx => by simp at hx⟩, fun ru hru => by simp at hru, T1.same (same_upd hp), by omega, b1.thenS (same_upd hp)⟩ ?_ ?_⟩
    · rintro i σ H5 hi ⟨y8, xs, rus, c5, rfl, hp5, hl5, hv5, hle5, T5, hc5, b5⟩
      walk_at "rs"
      refine ⟨tyL hp5, a, t, ns, c5, long, top, rfl, T5, by omega, l0, by omega, t0, by omega, fun rs r c6 H6 r1 r2 hrs hr5 hr6 hc6 T6 b6 => ?_⟩
      refine ⟨a, t, ns, c6, mm, rfl, T6, by omega, mm0, by omega, fun e H7 e0 e1 T7 b7 => ?_⟩
      walk_at "rs"
      intro x hx
      obtain ⟨l5, hl5'⟩ := T5.lst
      obtain ⟨l6, hl6'⟩ := T6.lst
      have R6 : RndsAt H6 r rs := ⟨hr6, ⟨List.length_pos_iff.mp (by omega), fun z hz => (hrs z hz).1⟩, fun z hz => by have := hrs z hz; omega, by omega⟩
      have R8 := (R6.but b7 hl6').same (same_upd (o := .tup [.ref r, .int (1 + e)]) hx)
      have hp7 := b7 _ _ (b6 _ _ hp5 hpt) hpt
      have hpx : p ≠ x := ne_of_none hp7 hx
      have s8 : Same H7 (upd H7 x (.tup [.ref r, .int (1 + e)])) := same_upd hx
      have hv8 : RuleVs (upd H7 x (.tup [.ref r, .int (1 + e)])) xs rus := ((hv5.but b6 hl5').but b7 hl6').same s8
      have hx8 : RuleAt (upd H7 x (.tup [.ref r, .int (1 + e)])) (.ref x) (rs, 1 + e) := ⟨x, r, rfl, upd_same, R8, by show 1 ≤ 1 + e; omega, by show 1 + e ≤ 20; omega⟩
      have b8 : But t H (upd H7 x (.tup [.ref r, .int (1 + e)])) := ((b5.trans b6).trans b7).thenS s8
      have T8 := T7.same s8
      have hp8 := s8 _ _ hp7
      revert hv8 hx8 b8 T8 hp8
      generalize upd H7 x (.tup [.ref r, .int (1 + e)]) = H8
      intro hv8 hx8 b8 T8 hp8
      refine appR hp8 (by omega) ?_
      have sN : But p H8 (upd H8 p (.lst (xs ++ [.ref x]))) := But.upd
      have hv9 : RuleVs (upd H8 p (.lst (xs ++ [.ref x]))) (xs ++ [.ref x]) (rus ++ [(rs, 1 + e)]) := (hv8.snoc hx8).but sN hp8
      refine ⟨_, xs ++ [.ref x], rus ++ [(rs, 1 + e)], c6 + 1, rfl, upd_same, by simp [hl5], hv9, ?_, ?_, by omega, ?_⟩
      · intro ru hru
        rcases List.mem_append.mp hru with h | h
        · exact hle5 ru h
        · rw [List.mem_singleton.mp h]
          exact ⟨r2, fun z hz => (hrs z hz).2, by show 1 + e ≤ mm; omega⟩
      · exact T8.app hT hpH hpt
      · intro z o hz hzt
        rw [upd_ne (ne_of_none hz hpH)]
        exact b8 _ _ hz hzt
    · rintro σ H5 ⟨y8, xs, rus, c5, rfl, hp5, hl5, hv5, hle5, T5, hc5, b5⟩
      have fin : ∀ (H6 : Hp) (xs : List V) (rus : List (List Int × Int)) (c6 : Nat), 1 ≤ rus.length → (rus.length : Int) ≤ many → H6 p = some (.lst xs) → RuleVs H6 xs rus → (∀ ru ∈ rus, RuleLe long top mm ru) → Tn K H6 a t ns c6 → c6 ≤ c + 2 + 14 * many.toNat → But t H H6 →
          tRet (tCB (fun xs H Q => ∃ p ys, xs = [V.ref p] ∧ ((SqL K H p ys ∧ ∀ l, H l = none → Q (V.ref l) (upd H l (.tup ys))) ∨ (SqT K H p ys ∧ Q (V.ref p) H))) (tCons (tVar 7) tNil)) { nx := fun x H' => Q V.non H', rt := Q }
            [some (.ref a), some (.ref t), some (.int many), some (.int long), some (.int top), some (.int mm), some (.int (1 + d)), some (.ref p), y8] H6 := by
        intro H6 xs rus c6 n1 n2 hp6 hv6 hle6 T6 hc6 b6
        walk_at "rs"
        refine ⟨xs, .inl ⟨sqL hp6, fun z hz => ?_⟩⟩
        refine q rus xs z c6 _ n1 n2 hle6 ?_ upd_same (hv6.same (same_upd hz)) hc6 (T6.same (same_upd hz)) (b6.thenS (same_upd hz))
        cases e : H z with
        | none => rfl
        | some o => rw [b6 _ _ e (T6.some_ hz)] at hz; cases hz
      have hrl : rus.length = (1 + d).toNat := by rw [← hv5.1, hl5]
      walk_at "rs"
      subst hK_
      first | with_reducible refine seq_k fun K_ hK_ => ?_ | skip
      walk_at "rs"
      refine ite2 (fun c1 => ?_) (fun c1 => ?_)
      · refine ⟨a, t, ns, c5, 6, rfl, T5, by omega, by decide, by decide, fun e H6 e0 e1 T6 b6 => ?_⟩
        obtain ⟨l5, hl5'⟩ := T5.lst
        have hp6 := b6 _ _ hp5 hpt
        have hv6 := hv5.but b6 hl5'
        walk_at "rs"
        refine ite2 (fun c2 => ?_) (fun c2 => ?_)
        · have hx0 : xs[0]? = some (xs[0]'(by omega)) := List.getElem?_eq_getElem (by omega)
          obtain ⟨ru0, hru0, hr0⟩ := hv6.2 0 _ hx0
          refine ixL (j := 0) (sqL hp6) rfl hx0 ?_
          refine setL (j := xs.length - 1) hp6 (by omega) (by omega) ?_
          have sN : But p H6 (upd H6 p (.lst (xs.set (xs.length - 1) (xs[0]'(by omega))))) := But.upd
          subst hK_
          refine fin _ (xs.set (xs.length - 1) (xs[0]'(by omega))) (rus.set (xs.length - 1) ru0) (c5 + 1) (by simp; omega) (by simp; omega) upd_same ((hv6.set hr0 _).but sN hp6) ?_ ?_ (by omega) ?_
          · intro ru hru
            rcases List.mem_or_eq_of_mem_set hru with h | h
            · exact hle5 ru h
            · rw [h]
              exact hle5 ru0 (mem_of_get hru0)
          · exact T6.app hT hpH hpt
          · intro z o hz hzt
            rw [upd_ne (ne_of_none hz hpH)]
            exact b6 _ _ (b5 _ _ hz hzt) hzt
        · subst hK_
          exact fin _ xs rus (c5 + 1) (by omega) (by omega) hp6 hv6 hle5 T6 (by omega) (b5.trans b6)
      · subst hK_
        exact fin _ xs rus c5 (by omega) (by omega) hp5 hv5 hle5 T5 (by omega) b5
end
end Nk
namespace Nk
open PySem L2
section
variable {P : Program} {w : World} {K : PySem.W.Frag} {mg : Str → Option Value} {base : Heap}
abbrev nm__law_nights : List Str := ["script", "town", "many", "step", "at", "found", "k"]
abbrev pm__law_nights : List Str := ["script", "town", "many", "step"]
abbrev lv__law_nights : Nat := 3
theorem sc__law_nights : FnScope nm__law_nights pm__law_nights (defScope s__law_nights) := ⟨rfl, rfl, rfl, by decide +kernel, rfl, by decide +kernel, by decide +kernel⟩
def sp__law_nights (K : PySem.W.Frag) : Sp := fun vs H Q _ => ∃ (a t : Addr) (ns : List Int) (c : Nat) (many step : Int), vs = [.ref a, .ref t, .int many, .int step] ∧ Tn K H a t ns c ∧ c < 900000000 ∧ 0 ≤ many ∧ many ≤ 1000 ∧ 0 < step ∧ step ≤ 1000 ∧
  ∀ (ms : List Int) (p : Addr) (c' : Nat) (H' : Hp), (ms.length : Int) ≤ many → ms.Pairwise (· < ·) → (∀ n ∈ ms, 0 ≤ n ∧ n ≤ 2 * step + many * (step + 1)) → H p = none → H' p = some (.lst (ms.map V.int)) → c' ≤ c + 2 + 2 * many.toNat → Tn K H' a t ns c' → But t H H' → Q (.ref p) H'
def iv__law_nights (K : PySem.W.Frag) (a t p : Addr) (ns : List Int) (c : Nat) (many step : Int) (H : Hp) (i : Nat) (σ : L2.St) (H' : Hp) : Prop :=
  ∃ (y6 : Option V) (at_ : Int) (ms : List Int) (c' : Nat), σ = [some (.ref a), some (.ref t), some (.int many), some (.int step), some (.int at_), some (.ref p), y6] ∧
    H' p = some (.lst (ms.map V.int)) ∧ ms.length = i ∧ ms.Pairwise (· < ·) ∧ (∀ n ∈ ms, 0 ≤ n ∧ n < at_) ∧ 0 ≤ at_ ∧ at_ ≤ 2 * step + i * (step + 1) ∧ Tn K H' a t ns c' ∧ c' ≤ c + 2 + 2 * i ∧ But t H H'
theorem f__law_nights (T : Txt K mg) : Fk P w K mg base CX0 lv__law_nights "_law_nights" pm__law_nights (sp__law_nights K) := by
  obtain ⟨f, fd, F, g, b⟩ := T.d__law_nights.ex
  refine ⟨f, fd, g, F.kp, b, F.ok sc__law_nights (fun vs H Q E h => ?_) (fun cdv A outer s H vs Q E hr h => ?_)⟩
  · obtain ⟨a, t, ns, c, many, step, rfl, _⟩ := h; rfl
  · obtain ⟨a, t, ns, c, many, step, rfl, hT, hc, m0, m1, s0, s1, q⟩ := h
    refine ⟨_, (pss_cons (ps_set (i := 4) sc__law_nights.nd rfl (.inl rfl) (pe_fn (f__law_draw T) (hr.mono (by decide)) (by rfl) pass0 (pa_cons (pv 0) (pa_cons (pv 1) (pa_cons (pe_op op_add (pe_op op_mul pe_int (pv 3)) pe_int) pa_nil)))))
      (pss_cons (ps_set (i := 5) sc__law_nights.nd rfl (.inl rfl) (pe_lst pa_nil))
      (pss_cons (ps_for PassesOwn.never rfl (pi_range1 (by rfl) T.b_range (pa_cons (pe_fn (f__law_draw T) (hr.mono (by decide)) (by rfl) pass0 (pa_cons (pv 0) (pa_cons (pv 1) (pa_cons (pe_op op_add (pv 2) pe_int) pa_nil)))) pa_nil)) (pg_name (i := 6) sc__law_nights.nd rfl (Or.inl rfl)) (pss_cons (ps_expr (pe_bm PySem.F.plainAttrs_list PySem.F.slot_list_append PySem.F.type_list_append mt_append (pv 5) (pa_cons (pv 4) pa_nil)))
      (pss_one (ps_set (i := 4) sc__law_nights.nd rfl (.inl rfl) (pe_op op_add (pe_op op_add (pv 4) pe_int) (pe_fn (f__law_draw T) (hr.mono (by decide)) (by rfl) pass0 (pa_cons (pv 0) (pa_cons (pv 1) (pa_cons (pe_fn (f__law_pick T) (hr.mono (by decide)) (by rfl) pass0 (pa_cons (pv 0) (pa_cons (pv 1) (pa_cons (pe_lst (pa_cons pe_int (pa_cons pe_int (pa_cons (pv 3) pa_nil)))) pa_nil)))) pa_nil)))))))))
      (pss_one (ps_ret (pv 5)))))), ?_⟩
    with_reducible refine seq_k fun K_ hK_ => ?_
    walk_at "rs"
    refine ⟨.inl ⟨by decide, by decide⟩, a, t, ns, c, 2 * step + 1, rfl, hT, by omega, by omega, by omega, fun d H1 d0 d1 T1 b1 => ?_⟩
    walk_at "rs"
    subst hK_
    first | with_reducible refine seq_k fun K_ hK_ => ?_ | skip
    walk_at "rs"
    intro p hp
    have hpt : p ≠ t := T1.some_ hp
    have hpH := b1.free hp hpt
    walk_at "rs"
    subst hK_
    first | with_reducible refine seq_k fun K_ hK_ => ?_ | skip
    walk_at "rs"
    have T2 := T1.same (same_upd (o := .lst []) hp)
    refine ⟨_, rfl, _, rfl, _, rfl, _, _, rfl, rfl, a, t, ns, c + 1, many + 1, rfl, T2, by omega, by omega, by omega, fun e H2 e0 e1 T3 b2 => ?_⟩
    have hp2 := b2 _ _ (upd_same (H := H1) (a := p) (o := .lst [])) hpt
    have b3 : But t H H2 := (b1.thenS (same_upd hp)).trans b2
    refine ⟨e, rfl, by omega, by omega, for_range (lo := 0) (n := e.toNat) (iv__law_nights K a t p ns c many step H)
      ⟨none, d, [], c + 2, rfl, hp2, rfl, .nil, fun n hn => by simp at hn, d0, by simp; omega, T3, by omega, b3⟩ ?_ ?_⟩
    · rintro i σ H5 hi ⟨y6, at_, ms, c5, rfl, hp5, hl5, hr5, hm5, ha0, ha1, T5, hc5, b5⟩
      walk_at "rs"
      with_reducible refine seq_k fun K_ hK_ => ?_
      walk_at "rs"
      refine app hp5 (by simp; omega) ?_
      have T6 : Tn K (upd H5 p (.lst (ms.map V.int ++ [.int at_]))) a t ns c5 := T5.app hT hpH hpt
      have b6 : But t H (upd H5 p (.lst (ms.map V.int ++ [.int at_]))) := b5.app hpH
      have hp6 : (upd H5 p (.lst (ms.map V.int ++ [.int at_]))) p = some (.lst ((ms ++ [at_]).map V.int)) := by rw [upd_same, List.map_append]; rfl
      revert T6 b6 hp6
      generalize upd H5 p (.lst (ms.map V.int ++ [.int at_])) = H6
      intro T6 b6 hp6
      walk_at "rs"
      subst hK_
      first | with_reducible refine seq_k fun K_ hK_ => ?_ | skip
      walk_at "rs"
      intro z hz
      have hzt := T6.some_ hz
      refine ⟨a, t, z, ns, c5, _, rfl, T6.same (same_upd hz), by omega, upd_same, hzt, by simp, by simp, fun v H7 hv T7 b7 => ?_⟩
      obtain ⟨x, rfl, hx0, hx1⟩ : ∃ x, v = .int x ∧ 0 < x ∧ x ≤ step + 1 := by
        simp only [List.mem_cons, List.not_mem_nil, or_false] at hv
        rcases hv with rfl | rfl | rfl
        · exact ⟨_, rfl, by decide, by omega⟩
        · exact ⟨_, rfl, by decide, by omega⟩
        · exact ⟨_, rfl, by omega, by omega⟩
      refine ⟨a, t, ns, _, x, rfl, T7, by omega, hx0, by omega, fun e2 H8 f0 f1 T8 b8 => ?_⟩
      walk_at "rs"
      have hp8 := b8 _ _ (b7 _ _ ((same_upd hz) _ _ hp6) hpt) hpt
      refine ⟨_, at_ + 1 + e2, ms ++ [at_], c5 + 1 + 1, rfl, hp8, by simp [hl5], ?_, ?_, by omega, ?_, T8, by omega, ((b6.thenS (same_upd hz)).trans b7).trans b8⟩
      · refine List.pairwise_append.mpr ⟨hr5, List.pairwise_singleton _ _, fun x hx y hy => ?_⟩
        rw [List.mem_singleton.mp hy]
        exact (hm5 x hx).2
      · intro n hn
        rcases List.mem_append.mp hn with h | h
        · have := hm5 n h
          omega
        · rw [List.mem_singleton.mp h]
          omega
      · rw [show ((i + 1 : Nat) : Int) = (i : Int) + 1 from rfl, Int.add_mul]
        omega
    · rintro σ H5 ⟨y6, at_, ms, c5, rfl, hp5, hl5, hr5, hm5, ha0, ha1, T5, hc5, b5⟩
      walk_at "rs"
      subst hK_
      first | with_reducible refine seq_k fun K_ hK_ => ?_ | skip
      walk_at "rs"
      refine q ms p c5 H5 (by omega) hr5 (fun n hn => ?_) hpH hp5 (by omega) T5 b5
      have h1 := hm5 n hn
      have h2 : (e.toNat : Int) * (step + 1) ≤ many * (step + 1) := Int.mul_le_mul_of_nonneg_right (by omega) (by omega)
      omega
/-- the lists of what each rule keeps, none of them at D -/
def ByLists (H : Hp) (D : Addr) (xs : List V) (rus : List (List Int × Int)) (ns : List Int) : Prop := xs.length = rus.length ∧ ∀ (i : Nat) x, xs[i]? = some x → ∃ (ru : List Int × Int) (p : Addr), rus[i]? = some ru ∧ x = .ref p ∧ H p = some (.lst ((keptUp ru ns).map V.int)) ∧ p ≠ D
theorem ByLists.same {H H' : Hp} {D : Addr} {xs : List V} {rus : List (List Int × Int)} {ns : List Int} (h : ByLists H D xs rus ns) (s : Same H H') : ByLists H' D xs rus ns :=
  ⟨h.1, fun i x hx => by obtain ⟨ru, p, e, e2, r, n⟩ := h.2 i x hx; exact ⟨ru, p, e, e2, s _ _ r, n⟩⟩
theorem ByLists.push {H : Hp} {D p : Addr} {xs : List V} {rus : List (List Int × Int)} {ns : List Int} {ru : List Int × Int} {o : HO} (h : ByLists H D xs rus ns) (hp : H p = some (.lst ((keptUp ru ns).map V.int))) (n : p ≠ D) : ByLists (upd H D o) D (xs ++ [.ref p]) (rus ++ [ru]) ns := by
  refine ⟨by simp [h.1], fun i y hy => ?_⟩
  by_cases c : i < xs.length
  · rw [List.getElem?_append_left c] at hy
    obtain ⟨ru', p', e, e2, r', n'⟩ := h.2 i y hy
    exact ⟨ru', p', by rw [List.getElem?_append_left (by rw [← h.1]; exact c)]; exact e, e2, by rw [upd_ne n']; exact r', n'⟩
  · have hi : i = xs.length := by
      have := lt_of_get hy
      simp at this
      omega
    subst hi
    have e1 : (xs ++ [V.ref p])[xs.length]? = some (.ref p) := by simp
    rw [e1] at hy
    cases hy
    refine ⟨ru, p, ?_, rfl, by rw [upd_ne n]; exact hp, n⟩
    rw [h.1]
    simp
end
end Nk
namespace Nk
open PySem L2
section
variable {P : Program} {w : World} {K : PySem.W.Frag} {mg : Str → Option Value} {base : Heap}
theorem sIx_m1 (n d : Nat) : HT.sIx n d (some (-1)) = n - 1 := by
  unfold HT.sIx
  simp
  omega
theorem cut_last (l : List Int) : cutV (l.map V.int) (some (-1)) none = (l.drop (l.length - 1)).map V.int := by
  unfold cutV
  rw [HT.sIx_none, sIx_m1, List.take_of_length_le (by simp), List.length_map, List.map_drop]
theorem cut_but (xs : List V) : cutV xs none (some (-1)) = xs.take (xs.length - 1) := by
  unfold cutV
  rw [HT.sIx_none, sIx_m1]
  simp
theorem RuleVs.take {H : Hp} {xs : List V} {rus : List (List Int × Int)} (h : RuleVs H xs rus) (k : Nat) : RuleVs H (xs.take k) (rus.take k) := by
  refine ⟨by simp [h.1], fun i x hx => ?_⟩
  have hi : i < k := by have := lt_of_get hx; simp at this; omega
  rw [List.getElem?_take_of_lt hi] at hx ⊢
  exact h.2 i x hx
abbrev nm_law : List Str := ["script", "town", "rules", "nights", "due", "left", "night", "way", "stay", "extra", "some", "far", "rounds", "many", "one"]
abbrev pm_law : List Str := ["script"]
abbrev lv_law : Nat := 6
theorem sc_law : FnScope nm_law pm_law (defScope s_law) := ⟨rfl, rfl, rfl, by decide +kernel, rfl, by decide +kernel, by decide +kernel⟩
def iv13b (H0 : Hp) (a t r n d L : Addr) (y6 y7 y8 y9 : Option V) (p : Addr) (rus : List (List Int × Int)) (i : Nat) (σ : L2.St) (H : Hp) : Prop :=
  ∃ (y12 y13 : Option V), σ = [some (.ref a), some (.ref t), some (.ref r), some (.ref n), some (.ref d), some (.ref L), y6, y7, y8, y9, some (.ref p), some (.int ((rus.take i).foldl (fun f ru => f * ru.1.sum) 1)), y12, y13, none] ∧ H = H0
def iv13 (K : PySem.W.Frag) (H0 : Hp) (a t r n d : Addr) (ns : List Int) (c : Nat) (rus : List (List Int × Int)) (ms : List Int) (i : Nat) (σ : L2.St) (H : Hp) : Prop :=
  ∃ (L : Addr) (left : List Int) (c' : Nat) (y6 y7 y8 y9 : Option V), σ = [some (.ref a), some (.ref t), some (.ref r), some (.ref n), some (.ref d), some (.ref L), y6, y7, y8, y9, none, none, none, none, none] ∧
    H L = some (.lst (left.map V.int)) ∧ H0 L = none ∧ L ≠ t ∧ Way rus (ms.take i) left ∧ Tn K H a t ns c' ∧ c' ≤ c + 2 * i ∧ But t H0 H
theorem ok_law {f : Addr} {fd : FuncData} (F : Fun K "law" "law" s_law f fd) (T : Txt K mg) : FnOk P w K mg base CX0 lv_law f fd ["script"] (spLaw K) := by
  refine F.ok sc_law (fun vs H Q E h => ?_) (fun cdv A outer s H vs Q E hr h => ?_)
  · obtain ⟨a, ns, rfl, _⟩ := h; rfl
  · obtain ⟨a, ns, rfl, hS, hl, q⟩ := h
    refine ⟨_, (pss_cons (ps_set (i := 1) sc_law.nd rfl (.inl rfl) (pe_fn (f__law_town T) (hr.mono (by decide)) (by rfl) pass0 (pa_cons (pv 0) pa_nil)))
      (pss_cons (ps_set (i := 2) sc_law.nd rfl (.inl rfl) (pe_fn (f__law_rules T) (hr.mono (by decide)) (by rfl) pass0 (pa_cons (pv 0) (pa_cons (pv 1) (pa_cons pe_int (pa_cons pe_int (pa_cons (pe_fn (f__law_pick T) (hr.mono (by decide)) (by rfl) pass0 (pa_cons (pv 0) (pa_cons (pv 1) (pa_cons (pe_lst (pa_cons pe_int (pa_cons pe_int pa_nil))) pa_nil)))) (pa_cons (pe_fn (f__law_pick T) (hr.mono (by decide)) (by rfl) pass0 (pa_cons (pv 0) (pa_cons (pv 1) (pa_cons (pe_lst (pa_cons pe_int (pa_cons pe_int (pa_cons pe_int pa_nil)))) pa_nil)))) pa_nil))))))))
      (pss_cons (ps_set (i := 3) sc_law.nd rfl (.inr rfl) (pe_fn (f__law_nights T) (hr.mono (by decide)) (by rfl) pass0 (pa_cons (pv 0) (pa_cons (pv 1) (pa_cons pe_int (pa_cons (pe_fn (f__law_pick T) (hr.mono (by decide)) (by rfl) pass0 (pa_cons (pv 0) (pa_cons (pv 1) (pa_cons (pe_lst (pa_cons pe_int (pa_cons pe_int (pa_cons pe_int pa_nil)))) pa_nil)))) pa_nil))))))
      (pss_cons (ps_set (i := 4) sc_law.nd rfl (.inr rfl) (pe_fn (f_kept T) (hr.mono (by decide)) (by rfl) passL (pa_cons (pv 2) (pa_cons (pv 3) pa_nil))))
      (pss_cons (ps_set (i := 5) sc_law.nd rfl (.inl rfl) (pe_lst pa_nil))
      (pss_cons (ps_for PassesOwn.never rfl (pi_list (pv 3)) (pg_name (i := 6) sc_law.nd rfl (Or.inl rfl)) (pss_cons (ps_expr (pe_bm PySem.F.plainAttrs_list PySem.F.slot_list_append PySem.F.type_list_append mt_append (pv 5) (pa_cons (pv 6) pa_nil)))
      (pss_cons (ps_set (i := 7) sc_law.nd rfl (.inl rfl) (pe_fn (f__law_draw T) (hr.mono (by decide)) (by rfl) pass0 (pa_cons (pv 0) (pa_cons (pv 1) (pa_cons pe_int pa_nil)))))
      (pss_one (ps_if (pt_cmpR op_lt (pv 7) pe_int (nomark _)) (pss_cons (ps_set (i := 8) sc_law.nd rfl (.inr rfl) (pe_fn (f_kept T) (hr.mono (by decide)) (by rfl) passL (pa_cons (pv 2) (pa_cons (pv 5) pa_nil))))
      (pss_cons (ps_set (i := 9) sc_law.nd rfl (.inr rfl) (pe_ifExp (pt_cmpR op_eq (pv 7) pe_int (nomark _)) (pe_fn (f__law_pick T) (hr.mono (by decide)) (by rfl) pass0 (pa_cons (pv 0) (pa_cons (pv 1) (pa_cons (pv 5) pa_nil)))) (pv 6)))
      (pss_one (ps_setLc (own := [("one", 14)]) (g := gName 14) (i := 5) (by rfl) sc_law.nd rfl rfl (sw_true rfl rfl rfl (by decide +kernel)) (pi_list (pv 5)) (blkOk_by (own := [("one", 14)]) (N := nm_law) (sc := defScope s_law) (by decide +kernel)) (fun _ _ _ _ _ => (pg_name (i := 14) sc_law.nd rfl (Or.inl rfl))) (fun _ _ _ _ _ => (pts_one (PW.pt (pw_or (pt_cmpR (op_inK K rfl) (pv 14) (pv 8) (by rfl)) (pw_or1 (pt_cmpR op_eq (pv 14) (pv 9) (nomark _))))))) (fun _ _ _ _ _ => (pv 14)))))) pss_nil)))))
      (pss_cons (ps_if (PW.pt (pw_or (pt_cmpR (op_neD hr.units) (pe_fn (f_kept T) (hr.mono (by decide)) (by rfl) passL (pa_cons (pv 2) (pa_cons (pv 5) pa_nil))) (pv 4) (nomark _)) (pw_or (pt_cmpR (op_neD hr.units) (pe_fn (f_kept T) (hr.mono (by decide)) (by rfl) passL (pa_cons (pv 2) (pa_cons (pv 4) pa_nil))) (pv 4) (nomark _)) (pw_or1 (pt_cmpR (op_neD hr.units) (pe_slice sl_list (pv 4) (po_some (pe_un un_neg pe_int)) po_none) (pe_slice sl_list (pv 3) (po_some (pe_un un_neg pe_int)) po_none) (nomark _)))))) (pss_one (ps_ret pe_bl)) pss_nil)
      (pss_cons (ps_if (pt_cmpR op_gt (pe_callB call_len_seq (by rfl) T.b_len PySem.boot_len (pa_cons (pv 4) pa_nil)) (pe_op op_sub (pe_callB (cr_sum rfl) (by rfl) T.b_sum (by decide +kernel) (pa_cons (pe_lc (own := [("rounds", 12), ("many", 13)]) (g := gTup K 2 (gCons (gName 12) (gCons (gName 13) (gNil)))) (tt := tYes) (by rfl) sc_law.nd (pi_tup (pv 2)) (blkOk_by (own := [("rounds", 12), ("many", 13)]) (N := nm_law) (sc := defScope s_law) (by decide +kernel)) (fun _ _ _ _ _ => (pg_tupK K rfl rfl (pgs_cons (pg_name (i := 12) sc_law.nd rfl (Or.inl rfl)) (pgs_cons (pg_name (i := 13) sc_law.nd rfl (Or.inl rfl)) pgs_nil)))) (fun _ _ _ _ _ => pts_nil) (fun _ _ _ _ _ => (pv 13))) pa_nil)) (pe_op op_mul (pe_op op_sub (pe_callB call_len_seq (by rfl) T.b_len PySem.boot_len (pa_cons (pv 2) pa_nil)) pe_int) (pe_callB (call_min2 rfl) (by rfl) T.b_min (by decide +kernel) (pa_cons pe_int (pa_cons (pe_callB call_len_seq (by rfl) T.b_len PySem.boot_len (pa_cons (pv 3) pa_nil)) pa_nil))))) (nomark _)) (pss_one (ps_ret pe_bl)) pss_nil)
      (pss_cons (ps_set (i := 10) sc_law.nd rfl (.inl rfl) (pe_ifExp (pt_cmpR op_gt (pe_callB call_len_seq (by rfl) T.b_len PySem.boot_len (pa_cons (pv 2) pa_nil)) pe_int (nomark _)) (pe_fn (f_kept T) (hr.mono (by decide)) (by rfl) passL (pa_cons (pe_slice sl_tup (pv 2) po_none (po_some (pe_un un_neg pe_int))) (pa_cons (pv 3) pa_nil))) (pe_lst pa_nil)))
      (pss_cons (ps_if (PW.pt (pw_or (pt_cmpR (op_neD hr.units) (pe_lc (own := [("night", 6)]) (g := gName 6) (by rfl) sc_law.nd (pi_list (pv 10)) (blkOk_by (own := [("night", 6)]) (N := nm_law) (sc := defScope s_law) (by decide +kernel)) (fun _ _ _ _ _ => (pg_name (i := 6) sc_law.nd rfl (Or.inl rfl))) (fun _ _ _ _ _ => (pts_one (pt_cmpR (op_notInK K rfl) (pv 6) (pv 4) (by rfl)))) (fun _ _ _ _ _ => (pv 6))) (pe_lst pa_nil) (nomark _)) (pw_or1 (pt_cmpR (op_neD hr.units) (pe_lc (own := [("night", 6)]) (g := gName 6) (by rfl) sc_law.nd (pi_list (pv 4)) (blkOk_by (own := [("night", 6)]) (N := nm_law) (sc := defScope s_law) (by decide +kernel)) (fun _ _ _ _ _ => (pg_name (i := 6) sc_law.nd rfl (Or.inl rfl))) (fun _ _ _ _ _ => (pts_one (pt_cmpR (op_notInK K rfl) (pv 6) (pv 3) (by rfl)))) (fun _ _ _ _ _ => (pv 6))) (pe_lst pa_nil) (nomark _))))) (pss_one (ps_ret pe_bl)) pss_nil)
      (pss_cons (ps_set (i := 11) sc_law.nd rfl (.inr rfl) pe_int)
      (pss_cons (ps_for PassesOwn.never rfl (pi_tup (pv 2)) (pg_tup rfl (pgs_cons (pg_name (i := 12) sc_law.nd rfl (Or.inl rfl)) (pgs_cons (pg_name (i := 13) sc_law.nd rfl (Or.inl rfl)) pgs_nil))) (pss_one (ps_set (i := 11) sc_law.nd rfl (.inr rfl) (pe_op op_mul (pv 11) (pe_callB (cr_sumT rfl) (by rfl) T.b_sum (by decide +kernel) (pa_cons (pv 12) pa_nil))))))
      (pss_cons (ps_set (i := 11) sc_law.nd rfl (.inr rfl) (pe_ifExp (pt_cmpR op_lt (pv 11) (pe_op op_pow pe_int pe_int) (nomark _)) (pe_op op_mod (pe_op op_mul (pv 11) (pe_op op_add pe_int (pe_fn (f__law_draw T) (hr.mono (by decide)) (by rfl) pass0 (pa_cons (pv 0) (pa_cons (pv 1) (pa_cons pe_int pa_nil)))))) (pe_op op_pow pe_int pe_int)) pe_int))
      (pss_one (ps_ret (pe_cmpR (op_eqD hr.units) (pe_fn (f_kept T) (hr.mono (by decide)) (by rfl) passL (pa_cons (pv 2) (pa_cons (pe_lc (own := [("night", 6)]) (g := gName 6) (tt := tYes) (by rfl) sc_law.nd (pi_list (pv 3)) (blkOk_by (own := [("night", 6)]) (N := nm_law) (sc := defScope s_law) (by decide +kernel)) (fun _ _ _ _ _ => (pg_name (i := 6) sc_law.nd rfl (Or.inl rfl))) (fun _ _ _ _ _ => pts_nil) (fun _ _ _ _ _ => (pe_op op_add (pv 6) (pv 11)))) pa_nil))) (pe_lc (own := [("night", 6)]) (g := gName 6) (tt := tYes) (by rfl) sc_law.nd (pi_list (pv 4)) (blkOk_by (own := [("night", 6)]) (N := nm_law) (sc := defScope s_law) (by decide +kernel)) (fun _ _ _ _ _ => (pg_name (i := 6) sc_law.nd rfl (Or.inl rfl))) (fun _ _ _ _ _ => pts_nil) (fun _ _ _ _ _ => (pe_op op_add (pv 6) (pv 11)))) (nomark _))))))))))))))))), ?_⟩
    with_reducible refine seq_k fun K_ hK_ => ?_
    walk_at "rt"
    refine ⟨a, ns, rfl, hS, hl, fun H1 t s1 T1 ht => ?_⟩
    walk_at "rt"
    subst hK_
    first | with_reducible refine seq_k fun K_ hK_ => ?_ | skip
    walk_at "rt"
    refine pickI [2, 7] T1 (by decide) fun top hk1 H2 T2 b2 => ?_
    have hk1' : 0 < top ∧ top ≤ 31 := by simp at hk1; omega
    refine pickI [2, 3, 9] T2 (by decide) fun mm hk2 H3 T3 b3 => ?_
    have hk2' : 0 < mm ∧ mm ≤ 20 := by simp at hk2; omega
    refine ⟨a, t, ns, _, 5, 3, top, mm, rfl, T3, by decide, by decide, by decide, by decide, by decide, by omega, by omega, by omega, by omega, fun rus xs r c4 H4 l1 l5 _ hr3 hr4 hv4 hc4 T4 b4 => ?_⟩
    have R4 := hv4.at_ hr4 l1 (by omega)
    have hc4' : c4 ≤ 100 := by simp at hc4; omega
    walk_at "rt"
    subst hK_
    first | with_reducible refine seq_k fun K_ hK_ => ?_ | skip
    walk_at "rt"
    refine pickI [1, 3, 9] T4 (by omega) fun step hk3 H5 T5 b5 => ?_
    have hk3' : 0 < step ∧ step ≤ 9 := by simp at hk3; omega
    obtain ⟨l4, hl4⟩ := T4.lst
    have R5 := R4.but b5 hl4
    have hv5 := hv4.but b5 hl4
    have hr5 := T4.tup b5 hr4
    refine ⟨a, t, ns, _, 20, step, rfl, T5, by omega, by decide, by decide, by omega, by omega, fun ms n c6 H6 n24 hrise hb hn5 hn6 hc6 T6 b6 => ?_⟩
    obtain ⟨l5', hl5⟩ := T5.lst
    have R6 := R5.but b6 hl5
    have hv6 := hv5.but b6 hl5
    have hr6 := T5.tup b6 hr5
    have hnt : n ≠ t := fun e => by rw [e, hl5] at hn5; cases hn5
    have hrus := R6.rnds
    have hm1 : ∀ ru ∈ rus, 1 ≤ ru.2 := fun ru h => (hrus ru h).2.1
    have hb' : ∀ n ∈ ms, 0 ≤ n ∧ n ≤ 1000 := fun n hn => by have := hb n hn; omega
    have hrne : rus ≠ [] := List.length_pos_iff.mp (by omega)
    have hc6' : c6 ≤ 1000 := by simp at hc6; omega
    have hM : (ms.map V.int).length = ms.length := List.length_map _
    walk_at "rt"
    subst hK_
    first | with_reducible refine seq_k fun K_ hK_ => ?_ | skip
    walk_at "rt"
    refine kept_good R6 hn6 (by omega) hrise (fun n hn => by have := hb' n hn; omega) fun d H7 s7 hd6 hd7 => ?_
    have T7 := T6.same s7
    have hdt : d ≠ t := T6.some_ hd6
    walk_at "rt"
    subst hK_
    first | with_reducible refine seq_k fun K_ hK_ => ?_ | skip
    walk_at "rt"
    intro L hL
    walk_at "rt"
    subst hK_
    first | with_reducible refine seq_k fun K_ hK_ => ?_ | skip
    walk_at "rt"
    have sL : Same H7 (upd H7 L (.lst [])) := same_upd hL
    refine ⟨⟨_, sqL (sL _ _ (s7 _ _ hn6))⟩, for_list (K := K) (a := n) (xs := ms.map V.int) (iv13 K H7 a t r n d ns c6 rus ms)
      ⟨L, [], c6, none, none, none, none, rfl, upd_same, hL, T7.some_ hL, ⟨List.Sublist.refl _, fun _ _ => rfl⟩, T7.same sL, by omega, .of sL⟩ (fun i σ H8 _ p => ?_) ?_ ?_⟩
    · obtain ⟨L, left, c', y6, y7, y8, y9, rfl, hL8, hL7, hLt, hw, T8, hc8, b8⟩ := p
      exact sqL (b8 _ _ (s7 _ _ hn6) hnt)
    · rintro i x σ H8 hx ⟨L, left, c', y6, y7, y8, y9, rfl, hL8, hL7, hLt, hw, T8, hc8, b8⟩
      rw [List.getElem?_map] at hx
      cases e : ms[i]? with
      | none => rw [e] at hx; cases hx
      | some m =>
      rw [e] at hx
      cases hx
      have hi := lt_of_get e
      have hll : left.length ≤ 20 := Nat.le_trans hw.sub.length_le (by simp; omega)
      walk_at "rt"
      with_reducible refine seq_k fun K_ hK_ => ?_
      walk_at "rt"
      refine app hL8 (by simp; omega) ?_
      have hw9 := hw.snoc hm1 m
      rw [← take_next e] at hw9
      have T9 : Tn K (upd H8 L (.lst (left.map V.int ++ [.int m]))) a t ns c' := T8.app T7 hL7 hLt
      have b9 : But t H7 (upd H8 L (.lst (left.map V.int ++ [.int m]))) := b8.app hL7
      have hL9 : (upd H8 L (.lst (left.map V.int ++ [.int m]))) L = some (.lst ((left ++ [m]).map V.int)) := by rw [upd_same, List.map_append]; rfl
      revert T9 b9 hL9
      generalize upd H8 L (.lst (left.map V.int ++ [.int m])) = H9
      intro T9 b9 hL9
      walk_at "rt"
      subst hK_
      first | with_reducible refine seq_k fun K_ hK_ => ?_ | skip
      walk_at "rt"
      refine ⟨a, t, ns, c', 5, rfl, T9, by omega, by decide, by decide, fun way H10 w0 w1 T10 b10 => ?_⟩
      have hL10 := b10 _ _ hL9 hLt
      have b7A := b9.trans b10
      walk_at "rt"
      subst hK_
      first | with_reducible refine seq_k fun K_ hK_ => ?_ | skip
      walk_at "rt"
      refine ite2 (fun cw => ?_) (fun cw => ?_)
      · have hrise9 : (left ++ [m]).Pairwise (· < ·) := (hrise.sublist (List.take_sublist _ _)).sublist hw9.sub
        have hsub9 : ∀ z ∈ left ++ [m], z ∈ ms := fun z hz => List.mem_of_mem_take (hw9.sub.subset hz)
        obtain ⟨l7, hl7⟩ := T7.lst
        have R10 := (R6.same s7).but b7A hl7
        with_reducible refine seq_k fun K_ hK_ => ?_
        walk_at "rt"
        refine kept_good R10 hL10 (by simp; omega) hrise9 (fun z hz => by have := hb' z (hsub9 z hz); omega) fun st H11 s11 hst10 hst11 => ?_
        have hstt : st ≠ t := T10.some_ hst10
        walk_at "rt"
        subst hK_
        first | with_reducible refine seq_k fun K_ hK_ => ?_ | skip
        walk_at "rt"
        have rest : ∀ (ex : Int) (c2 : Nat) (H12 : Hp), Tn K H12 a t ns c2 → c2 ≤ c' + 2 → But t H11 H12 → K_ [some (V.ref a), some (V.ref t), some (V.ref r), some (V.ref n), some (V.ref d), some (V.ref L), some (V.int m), some (V.int way), some (V.ref st), some (.int ex), none, none, none, none, none] H12 := by
          intro ex c2 H12 T12 hc12 b12
          have hL12 := b12 _ _ (s11 _ _ hL10) hLt
          have hst12 := b12 _ _ hst11 hstt
          have b7B := (b7A.thenS s11).trans b12
          subst hK_
          walk_at "rt"
          refine ⟨⟨_, sqL hL12⟩, fun D hD => ?_⟩
          refine lcL hD (sqL hL12) (fun j => (((left ++ [m]).take j).filter fun x => decide (x ∈ keptF rus (left ++ [m])) || decide (x = ex)).map V.int) rfl (fun j v H13 hv p => ?_) (fun H13 s13 hD13 => ?_)
          · rw [List.getElem?_map] at hv
            cases e : (left ++ [m])[j]? with
            | none => rw [e] at hv; cases hv
            | some z =>
              rw [e] at hv
              cases hv
              walk_at "rt"
              have hj := lt_of_get e
              have hfl := filter_take_next (fun x => decide (x ∈ keptF rus (left ++ [m])) || decide (x = ex)) e
              have hfn := filter_len (left ++ [m]) (fun x => decide (x ∈ keptF rus (left ++ [m])) || decide (x = ex)) j
              have hl21 : (left ++ [m]).length ≤ 21 := by simp; omega
              refine ⟨st, _, rfl, .inl (sqL (p.same _ _ hst12)), rfl, flat_ints _, ?_⟩
              refine ⟨_, rfl, ?_⟩
              rw [inV_ints]
              by_cases c1 : z ∈ keptF rus (left ++ [m])
              · rw [if_pos (by simp [c1])]
                refine p.push hD (by rw [List.length_map]; omega) (Same.refl _) ?_
                show _ = _
                rw [hfl]
                simp [c1]
              · rw [if_neg (by simp [c1])]
                refine ite2 (fun c2 => ?_) (fun c2 => ?_)
                · refine p.push hD (by rw [List.length_map]; omega) (Same.refl _) ?_
                  show _ = _
                  rw [hfl]
                  simp [c1, c2]
                · refine p.skip (Same.refl _) ?_
                  show _ = _
                  rw [hfl]
                  simp [c1, c2]
          · rw [List.length_map, List.take_length] at hD13
            refine ⟨D, _, c2, _, _, _, _, rfl, hD13, b7B.free hD (T12.some_ hD), T12.some_ hD, hw9.cut (fun x hx => ?_), T12.same s13, by omega, b7B.thenS s13⟩
            simp [hx]
        refine ite2 (fun c0 => ?_) (fun c0 => ?_)
        · refine ⟨a, t, L, ns, c' + 1, (left ++ [m]).map V.int, rfl, T10.same s11, by omega, s11 _ _ hL10, hLt, by simp, by simp; omega, fun v H12 hv T12 b12 => ?_⟩
          obtain ⟨ex, _, rfl⟩ := List.mem_map.mp hv
          exact rest ex (c' + 2) H12 T12 (by omega) b12
        · exact rest m (c' + 1) H11 (T10.same s11) (by omega) But.refl
      · exact ⟨L, left ++ [m], c' + 1, _, _, _, _, rfl, hL10, hL7, hLt, hw9, T10, by omega, b7A⟩
    · rintro σ H8 ⟨L, left, c', y6, y7, y8, y9, rfl, hL8, hL7, hLt, hw, T8, hc8, b8⟩
      rw [hM, List.take_length] at hw
      have hll : left.length ≤ 20 := Nat.le_trans hw.sub.length_le (by omega)
      have hrise8 : left.Pairwise (· < ·) := hrise.sublist hw.sub
      have hsub8 : ∀ z ∈ left, z ∈ ms := fun z hz => hw.sub.subset hz
      obtain ⟨l7, hl7⟩ := T7.lst
      have R8 := (R6.same s7).but b8 hl7
      have hv8 := (hv6.same s7).but b8 hl7
      have hr8 := T7.tup b8 (s7 _ _ hr6)
      have hd8 := b8 _ _ hd7 hdt
      have hn8 := b8 _ _ (s7 _ _ hn6) hnt
      have hdl : (keptF rus ms).length ≤ 20 := Nat.le_trans (List.length_filter_le _ _) (by omega)
      have hdb : ∀ z ∈ keptF rus ms, 0 ≤ z ∧ z ≤ 1000 := fun z hz => hb' z (keptF_sub z hz)
      walk_at "rt"
      subst hK_
      first | with_reducible refine seq_k fun K_ hK_ => ?_ | skip
      walk_at "rt"
      refine kept_good R8 hL8 (by omega) hrise8 (fun z hz => by have := hb' z (hsub8 z hz); omega) fun p9 H9 s9 hp8 hp9 => ?_
      rw [hw.same hrise] at hp9
      refine neD (d := dLI (keptF rus ms)) (e := dLI (keptF rus ms)) (dp_LI (sqL hp9)) (dp_LI (sqL (s9 _ _ hd8))) (gd_dLI (k := 0) _) (gd_dLI (k := 0) _) (fun _ => ?_) (fun e => absurd rfl e)
      walk_at "rt"
      refine kept_good (R8.same s9) (s9 _ _ hd8) (by omega) (keptF_rise hrise) (fun z hz => by have := hdb z hz; omega) fun p10 H10 s10 hp9' hp10 => ?_
      rw [keptF_keptF hrise] at hp10
      have s810 := s9.trans s10
      refine neD (d := dLI (keptF rus ms)) (e := dLI (keptF rus ms)) (dp_LI (sqL hp10)) (dp_LI (sqL (s810 _ _ hd8))) (gd_dLI (k := 0) _) (gd_dLI (k := 0) _) (fun _ => ?_) (fun e => absurd rfl e)
      walk_at "rt"
      refine ⟨d, _, rfl, sqL (s810 _ _ hd8), fun u1 hu1 => ?_⟩
      have sA := same_upd (o := .lst (cutV ((keptF rus ms).map V.int) (some (-1)) none)) hu1
      refine ⟨n, _, rfl, sqL (sA _ _ (s810 _ _ hn8)), fun u2 hu2 => ?_⟩
      have sB := same_upd (o := .lst (cutV (ms.map V.int) (some (-1)) none)) hu2
      have hu1B := sB _ _ (show _ = _ from upd_same (H := H10) (a := u1) (o := .lst (cutV ((keptF rus ms).map V.int) (some (-1)) none)))
      have hu2B : (upd (upd H10 u1 (.lst (cutV ((keptF rus ms).map V.int) (some (-1)) none))) u2 (.lst (cutV (ms.map V.int) (some (-1)) none))) u2 = some (.lst ((ms.drop (ms.length - 1)).map V.int)) := by rw [upd_same, cut_last]
      have sC := (s810.trans sA).trans sB
      revert hu1B hu2B sC
      generalize upd (upd H10 u1 (.lst (cutV ((keptF rus ms).map V.int) (some (-1)) none))) u2 (.lst (cutV (ms.map V.int) (some (-1)) none)) = H11
      intro hu1B hu2B sC
      rw [cut_last, keptF_end hm1 hrne] at hu1B
      refine neD (d := dLI (ms.drop (ms.length - 1))) (e := dLI (ms.drop (ms.length - 1))) (dp_LI (sqL hu1B)) (dp_LI (sqL hu2B)) (gd_dLI (k := 0) _) (gd_dLI (k := 0) _) (fun _ => ?_) (fun e => absurd rfl e)
      walk_at "rt"
      subst hK_
      first | with_reducible refine seq_k fun K_ hK_ => ?_ | skip
      walk_at "rt"
      have hd11 := sC _ _ hd8
      have hn11 := sC _ _ hn8
      have hr11 := sC _ _ hr8
      have hv11 := hv8.same sC
      refine ⟨_, .inl (sqL hd11), ⟨_, sqT hr11⟩, fun D hD => ?_⟩
      have hxl := hv6.1
      refine lcT hD (sqT hr11) (fun j => ((rus.take j).map (·.2)).map V.int) rfl (fun j v H12 hv p => ?_) (fun H12 s12 hD12 => ?_)
      · obtain ⟨ru, hru, q1, r1, rfl, hq1, _⟩ := hv11.2 j v hv
        have hj := lt_of_get hru
        refine ⟨q1, _, rfl, sqT (p.same _ _ hq1), rfl, ?_⟩
        walk_at "rt"
        refine p.push hD (by simp; omega) (Same.refl _) ?_
        show _ = _
        rw [take_next hru]
        simp
      · rw [hxl, List.take_length] at hD12
        refine ⟨D, _, rfl, sqL hD12, ?_⟩
        have hr12 := s12 _ _ hr11
        have hn12 := s12 _ _ hn11
        have hcnt : ¬ ((rus.map (·.2)).sum - ((xs.length : Int) - 1) * (if ((ms.map V.int).length : Int) < 1 then ((ms.map V.int).length : Int) else 1) < (((keptF rus ms).map V.int).length : Int)) := by
          rw [List.length_map, List.length_map, hxl]
          by_cases c : ms = []
          · have h0 : 0 ≤ (rus.map (·.2)).sum := by
              have : ∀ l : List (List Int × Int), (∀ ru ∈ l, 1 ≤ ru.2) → 0 ≤ (l.map (·.2)).sum := by
                intro l
                induction l with
                | nil => intro _; simp
                | cons x l ih =>
                  intro h
                  have h1 := h x List.mem_cons_self
                  have h2 := ih fun ru hru => h ru (List.mem_cons_of_mem _ hru)
                  simp only [List.map_cons, List.sum_cons]
                  omega
              exact this rus hm1
            rw [c]
            simp [keptF]
            omega
          · have h1 := keptF_count hm1 hrise c
            have h2 := List.length_pos_iff.mpr c
            rw [if_neg (by omega), Int.mul_one]
            omega
        refine ⟨_, .inr (sqT hr12), _, .inl (sqL hn12), .inr (by constructor <;> split <;> omega), _, rfl, ?_⟩
        rw [if_neg hcnt]
        walk_at "rt"
        subst hK_
        first | with_reducible refine seq_k fun K_ hK_ => ?_ | skip
        walk_at "rt"
        have hd12 := s12 _ _ hd11
        have hv12 := hv11.same s12
        have T12 := T8.same (sC.trans s12)
        have R12 := (R8.same sC).same s12
        have rest : ∀ (p : Addr) (sm : List Int) (H13 : Hp), Same H12 H13 → H13 p = some (.lst (sm.map V.int)) → (∀ x ∈ sm, x ∈ keptF rus ms) → K_ [some (V.ref a), some (V.ref t), some (V.ref r), some (V.ref n), some (V.ref d), some (V.ref L), y6, y7, y8, y9, some (V.ref p), none, none, none, none] H13 := by
          intro p sm H13 s13 hp13 hsm
          have hd13 := s13 _ _ hd12
          have hn13 := s13 _ _ hn12
          have hr13 := s13 _ _ hr12
          have hv13 := hv12.same s13
          subst hK_
          first | with_reducible refine seq_k fun K_ hK_ => ?_ | skip
          walk_at "rt"
          refine ⟨⟨_, sqL hp13⟩, fun D2 hD2 => ?_⟩
          refine lcL hD2 (sqL hp13) (fun _ => []) rfl (fun j v H14 hv p => ?_) (fun H14 s14 hD14 => ?_)
          · rw [List.getElem?_map] at hv
            cases e : sm[j]? with
            | none => rw [e] at hv; cases hv
            | some z =>
              rw [e] at hv
              cases hv
              have hz := hsm z (mem_of_get e)
              walk_at "rt"
              refine ⟨d, _, rfl, .inl (sqL (p.same _ _ hd13)), rfl, flat_ints _, ?_⟩
              refine ⟨_, rfl, ?_⟩
              rw [inV_ints]
              rw [if_neg (by simp [hz])]
              exact p.skip (Same.refl _) rfl
          have hd14 := s14 _ _ hd13
          have hn14 := s14 _ _ hn13
          have hr14 := s14 _ _ hr13
          have hv14 := hv13.same s14
          walk_at "rt"
          intro e1 he1
          have s15 := same_upd (o := .lst []) he1
          refine neD (d := dLI []) (e := dLI []) (dp_LI (sqL (s15 _ _ hD14))) (dp_LI (sqL upd_same)) (gd_dLI (k := 0) _) (gd_dLI (k := 0) _) (fun _ => ?_) (fun e => absurd rfl e)
          have hd15 := s15 _ _ hd14
          have hn15 := s15 _ _ hn14
          have hr15 := s15 _ _ hr14
          have sF := ((s12.trans s13).trans s14).trans s15
          revert hd15 hn15 hr15 sF
          generalize upd H14 e1 (.lst []) = H15
          intro hd15 hn15 hr15 sF
          walk_at "rt"
          refine ⟨⟨_, sqL hd15⟩, fun D3 hD3 => ?_⟩
          refine lcL hD3 (sqL hd15) (fun _ => []) rfl (fun j v H14 hv p => ?_) (fun H16 s16 hD16 => ?_)
          · rw [List.getElem?_map] at hv
            cases e : (keptF rus ms)[j]? with
            | none => rw [e] at hv; cases hv
            | some z =>
              rw [e] at hv
              cases hv
              have hz := keptF_sub z (mem_of_get e)
              walk_at "rt"
              refine ⟨n, _, rfl, .inl (sqL (p.same _ _ hn15)), rfl, flat_ints _, ?_⟩
              refine ⟨_, rfl, ?_⟩
              rw [inV_ints]
              rw [if_neg (by simp [hz])]
              exact p.skip (Same.refl _) rfl
          intro e2 he2
          have s17 := same_upd (o := .lst []) he2
          refine neD (d := dLI []) (e := dLI []) (dp_LI (sqL (s17 _ _ hD16))) (dp_LI (sqL upd_same)) (gd_dLI (k := 0) _) (gd_dLI (k := 0) _) (fun _ => ?_) (fun e => absurd rfl e)
          have hd17 := s17 _ _ (s16 _ _ hd15)
          have hn17 := s17 _ _ (s16 _ _ hn15)
          have hr17 := s17 _ _ (s16 _ _ hr15)
          have sG := (sF.trans s16).trans s17
          revert hd17 hn17 hr17 sG
          generalize upd H16 e2 (.lst []) = H17
          intro hd17 hn17 hr17 sG
          have R17 := (R8.same sC).same sG
          have hv17 := hv11.same sG
          have T17 := (T8.same sC).same sG
          walk_at "rt"
          subst hK_
          first | with_reducible refine seq_k fun K_ hK_ => ?_ | skip
          walk_at "rt"
          walk_at "rt"
          subst hK_
          first | with_reducible refine seq_k fun K_ hK_ => ?_ | skip
          walk_at "rt"
          refine ⟨⟨_, sqT hr17⟩, for_tup (K := K) (a := r) (xs := xs) (iv13b H17 a t r n d L y6 y7 y8 y9 p rus) ⟨none, none, rfl, rfl⟩ (fun i σ H18 _ p => ?_) ?_ ?_⟩
          · obtain ⟨_, _, _, rfl⟩ := p
            exact sqT hr17
          · rintro i x σ H18 hx ⟨y12, y13, rfl, rfl⟩
            obtain ⟨ru, hru, q1, r1, rfl, hq1, hra, _⟩ := hv17.2 i x hx
            have hs := (hrus ru (mem_of_get hru))
            have h372 : ru.1.sum ≤ 31 * ru.1.length := by
              have : ∀ l : List Int, (∀ r ∈ l, r ≤ 31) → l.sum ≤ 31 * l.length := by
                intro l
                induction l with
                | nil => intro _; simp
                | cons x l ih =>
                  intro h
                  have h1 := h x List.mem_cons_self
                  have h2 := ih fun r hr => h r (List.mem_cons_of_mem _ hr)
                  simp only [List.sum_cons, List.length_cons]
                  push_cast
                  omega
              exact this ru.1 hs.2.2.2.2
            refine ⟨q1, _, rfl, sqT hq1, rfl, ?_⟩
            walk_at "rt"
            refine ⟨r1, _, rfl, sqT hra.at_, _, rfl, .inr (by have := hs.1.sum; have := hs.2.2.2.1; omega), some (.ref r1), some (.int ru.2), ?_, rfl⟩
            rw [take_next hru, List.foldl_append]
            rfl
          · rintro σ H18 ⟨y12, y13, rfl, rfl⟩
            rw [hxl, List.take_length]
            walk_at "rt"
            subst hK_
            first | with_reducible refine seq_k fun K_ hK_ => ?_ | skip
            walk_at "rt"
            have e7 : (10 : Int) ^ Int.toNat 7 = 10000000 := by decide
            have e8 : (10 : Int) ^ Int.toNat 8 = 100000000 := by decide
            have hfp := prodS_pos (rus := rus) (fun ru hru => (hrus ru hru).1.sum) 1 (by decide)
            have hfd := (prodS_dvd rus 1).2
            revert hfp hfd
            generalize List.foldl (fun f (ru : List Int × Int) => f * ru.1.sum) 1 rus = far
            intro hfp hfd
            have fin : ∀ (fr : Int) (c2 : Nat) (H19 : Hp), 0 ≤ fr → fr ≤ 100000000 → (∀ ru ∈ rus, ru.1.sum ∣ fr) → Tn K H19 a t ns c2 → But t H18 H19 → K_ [some (V.ref a), some (V.ref t), some (V.ref r), some (V.ref n), some (V.ref d), some (V.ref L), y6, y7, y8, y9, some (V.ref p), some (V.int fr), y12, y13, none] H19 := by
              intro fr c2 H19 f0 f1 hdv T19 b19
              obtain ⟨l17, hl17⟩ := T17.lst
              have R19 := R17.but b19 hl17
              have hd19 := b19 _ _ hd17 hdt
              have hn19 := b19 _ _ hn17 hnt
              subst hK_
              walk_at "rt"
              refine ⟨⟨_, sqL hn19⟩, fun D4 hD4 => ?_⟩
              refine lcL hD4 (sqL hn19) (fun j => ((ms.take j).map (· + fr)).map V.int) rfl (fun j v H14 hv p => ?_) (fun H20 s20 hD20 => ?_)
              · rw [List.getElem?_map] at hv
                cases e : ms[j]? with
                | none => rw [e] at hv; cases hv
                | some z =>
                  rw [e] at hv
                  cases hv
                  walk_at "rt"
                  refine p.push hD4 (by simp; omega) (Same.refl _) ?_
                  show _ = _
                  rw [take_next e]
                  simp
              rw [hM, List.take_length] at hD20
              walk_at "rt"
              have rise2 : (ms.map (· + fr)).Pairwise (· < ·) := List.pairwise_map.mpr (hrise.imp fun {a b} h => by omega)
              refine kept_good (R19.same s20) hD20 (by simp; omega) rise2 (fun n hn => by obtain ⟨m, hm, rfl⟩ := List.mem_map.mp hn; have := hb' m hm; omega) fun p21 H21 s21 _ hp21 => ?_
              rw [keptF_move (fun ru hru => (hrus ru hru).1) f0 hdv] at hp21
              have hd21 := s21 _ _ (s20 _ _ hd19)
              refine ⟨⟨_, sqL hd21⟩, fun D5 hD5 => ?_⟩
              refine lcL hD5 (sqL hd21) (fun j => (((keptF rus ms).take j).map (· + fr)).map V.int) rfl (fun j v H14 hv p => ?_) (fun H22 s22 hD22 => ?_)
              · rw [List.getElem?_map] at hv
                cases e : (keptF rus ms)[j]? with
                | none => rw [e] at hv; cases hv
                | some z =>
                  rw [e] at hv
                  cases hv
                  walk_at "rt"
                  refine p.push hD5 (by simp; omega) (Same.refl _) ?_
                  show _ = _
                  rw [take_next e]
                  simp
              rw [List.length_map, List.take_length] at hD22
              exact eqD (d := dLI ((keptF rus ms).map (· + fr))) (e := dLI ((keptF rus ms).map (· + fr))) (dp_LI (sqL (s22 _ _ hp21))) (dp_LI (sqL hD22)) (gd_dLI (k := 0) _) (gd_dLI (k := 0) _) (fun _ => q _) (fun e => absurd rfl e)
            refine ⟨⟨by decide, by decide, by decide⟩, ite2 (fun c7 => ?_) (fun c7 => ?_)⟩
            · rw [e7] at c7
              refine ⟨a, t, ns, _, 3, rfl, T17, by omega, by decide, by decide, fun x H19 x0 x1 T19 b19 => ⟨x, rfl, .inr (by omega), ⟨by decide, by decide, by decide⟩, by decide, ?_⟩⟩
              have h1 : far * (1 + x) ≤ 10000000 * 3 := Int.mul_le_mul (by omega) (by omega) (by omega) (by omega)
              have h0 : 0 ≤ far * (1 + x) := Int.mul_nonneg (by omega) (by omega)
              rw [e8, Int.emod_eq_of_lt h0 (by omega)]
              exact fin _ _ H19 h0 (by omega) (fun ru hru => Int.dvd_trans (hfd ru hru) (Int.dvd_mul_right _ _)) T19 b19
            · exact fin 0 _ H18 (by omega) (by omega) (fun ru hru => Int.dvd_zero _) T17 But.refl
        refine ⟨_, .inr (sqT hr12), ite2 (fun c1 => ?_) (fun c1 => ?_)⟩
        · have hl2 : 2 ≤ rus.length := by omega
          refine ⟨r, xs, rfl, sqT hr12, ?_, fun p hp => ?_⟩
          · rw [HT.sIx_none, sIx_m1]
            omega
          · have sp := same_upd (o := .tup (cutV xs none (some (-1)))) hp
            have Rp : RulesAt (upd H12 p (.tup (cutV xs none (some (-1))))) p (rus.take (xs.length - 1)) := ((hv12.same sp).take (xs.length - 1)).at_ (by rw [upd_same, cut_but]) (by simp; omega) (by simp; omega)
            refine kept_good Rp (sp _ _ hn12) (by omega) hrise (fun z hz => by have := hb' z hz; omega) fun p13 H13 s13 _ hp13 => ?_
            refine rest p13 _ H13 (sp.trans s13) hp13 fun x hx => ?_
            obtain ⟨ru, h1, h2⟩ := mem_keptF.mp hx
            exact mem_keptF.mpr ⟨ru, List.mem_of_mem_take h1, h2⟩
        · intro p hp
          exact rest p [] _ (same_upd hp) upd_same fun x hx => by simp at hx
end
end Nk
namespace Nk
open PySem L2
theorem fin {P : Program} {w : World} {K : PySem.W.Frag} {mg : Str → Option Value} {fa : Addr} (hfa : mg "law" = some (.ref fa)) (T : Txt K mg) : ∃ fd : FuncData, (∀ (s : Shared) (v : Value), BindsTo s fd ⟨[v], []⟩ [("script", v)]) ∧ ∀ base : Heap, K.In base → base.Ns mainGlobals mg → FnOk P w K mg base CX0 6 fa fd ["script"] (spLaw K) :=
  law_end hfa T.d_law (fun _ _ _ _ _ _ _ => rfl) (fun base f fd F => ok_law F T)
end Nk
open PySem PySem.W PyProof.Rows
set_option maxRecDepth 100000 in
set_option maxHeartbeats 0 in
theorem PySem.Challenge.cw_nightkeep_k13_whole_kept_by_the_way_holds : PySem.Challenge.rw_nightkeep_k13_whole_kept_by_the_way.Holds := by
  w_on; o_law; k_head; (case hw => w_witness2)
  k_fill
  refine L2.walk_of (l := PySem.Challenge.rw_nightkeep_k13_whole_kept_by_the_way) (n := 63) (k := 6) (x := "script") (CX := fun _ => L2.CX0) (sp := fun w => Nk.spLaw _) rfl (by decide) rfl ⟨rfl, by decide, by decide⟩ (fun w h Y => PySem.W.kIn_of Y) ?F (fun _ _ a ns hl _ hS => ⟨a, ns, rfl, hS, hl, fun _ => rfl⟩) (fun _ _ _ _ _ h => h)
  case F =>
    intro w mg fa h KX G hmg
    refine Nk.fin hmg ?_
    refine ⟨?d_is_number, ?d_is_rounds, ?d_number_of, ?d_is_rule, ?d_look_rules, ?d_look_nights, ?d_kept_by, ?d_kept_of, ?d_kept, ?d__law_town, ?d__law_draw, ?d__law_pick, ?d__law_rounds, ?d__law_rules, ?d__law_nights, ?d_law, ?x_KeepError, ?x_BadRules, ?x_BadNights, ?c_MOST_NIGHT, ?c_MOST_HELD, ?b_all, ?b_bool, ?b_int, ?b_isinstance, ?b_len, ?b_list, ?b_min, ?b_range, ?b_reversed, ?b_sorted, ?b_sum, ?b_tuple, ?b_zip⟩
    case d_is_number => (refine' Nk.df_mk (st := Nk.s_is_number) KX G (fun _ _ _ _ _ _ us hl => match us, hl with | [_, _, _], _ => rfl) ?a ?l ?c ?k; (case a => k_is); (case l => k_is); (case c => k_is); (case k => k_is))
    case d_is_rounds => (refine' Nk.df_mk (st := Nk.s_is_rounds) KX G (fun _ _ _ _ _ _ us hl => match us, hl with | [_], _ => rfl) ?a ?l ?c ?k; (case a => k_is); (case l => k_is); (case c => k_is); (case k => k_is))
    case d_number_of => (refine' Nk.df_mk (st := Nk.s_number_of) KX G (fun _ _ _ _ _ _ us hl => match us, hl with | [_, _], _ => rfl) ?a ?l ?c ?k; (case a => k_is); (case l => k_is); (case c => k_is); (case k => k_is))
    case d_is_rule => (refine' Nk.df_mk (st := Nk.s_is_rule) KX G (fun _ _ _ _ _ _ us hl => match us, hl with | [_], _ => rfl) ?a ?l ?c ?k; (case a => k_is); (case l => k_is); (case c => k_is); (case k => k_is))
    case d_look_rules => (refine' Nk.df_mk (st := Nk.s_look_rules) KX G (fun _ _ _ _ _ _ us hl => match us, hl with | [_], _ => rfl) ?a ?l ?c ?k; (case a => k_is); (case l => k_is); (case c => k_is); (case k => k_is))
    case d_look_nights => (refine' Nk.df_mk (st := Nk.s_look_nights) KX G (fun _ _ _ _ _ _ us hl => match us, hl with | [_], _ => rfl) ?a ?l ?c ?k; (case a => k_is); (case l => k_is); (case c => k_is); (case k => k_is))
    case d_kept_by => (refine' Nk.df_mk (st := Nk.s_kept_by) KX G (fun _ _ _ _ _ _ us hl => match us, hl with | [_, _], _ => rfl) ?a ?l ?c ?k; (case a => k_is); (case l => k_is); (case c => k_is); (case k => k_is))
    case d_kept_of => (refine' Nk.df_mk (st := Nk.s_kept_of) KX G (fun _ _ _ _ _ _ us hl => match us, hl with | [_, _], _ => rfl) ?a ?l ?c ?k; (case a => k_is); (case l => k_is); (case c => k_is); (case k => k_is))
    case d_kept => (refine' Nk.df_mk (st := Nk.s_kept) KX G (fun _ _ _ _ _ _ us hl => match us, hl with | [_, _], _ => rfl) ?a ?l ?c ?k; (case a => k_is); (case l => k_is); (case c => k_is); (case k => k_is))
    case d__law_town => (refine' Nk.df_mk (st := Nk.s__law_town) KX G (fun _ _ _ _ _ _ us hl => match us, hl with | [_], _ => rfl) ?a ?l ?c ?k; (case a => k_is); (case l => k_is); (case c => k_is); (case k => k_is))
    case d__law_draw => (refine' Nk.df_mk (st := Nk.s__law_draw) KX G (fun _ _ _ _ _ _ us hl => match us, hl with | [_, _, _], _ => rfl) ?a ?l ?c ?k; (case a => k_is); (case l => k_is); (case c => k_is); (case k => k_is))
    case d__law_pick => (refine' Nk.df_mk (st := Nk.s__law_pick) KX G (fun _ _ _ _ _ _ us hl => match us, hl with | [_, _, _], _ => rfl) ?a ?l ?c ?k; (case a => k_is); (case l => k_is); (case c => k_is); (case k => k_is))
    case d__law_rounds => (refine' Nk.df_mk (st := Nk.s__law_rounds) KX G (fun _ _ _ _ _ _ us hl => match us, hl with | [_, _, _, _], _ => rfl) ?a ?l ?c ?k; (case a => k_is); (case l => k_is); (case c => k_is); (case k => k_is))
    case d__law_rules => (refine' Nk.df_mk (st := Nk.s__law_rules) KX G (fun _ _ _ _ _ _ us hl => match us, hl with | [_, _, _, _, _, _], _ => rfl) ?a ?l ?c ?k; (case a => k_is); (case l => k_is); (case c => k_is); (case k => k_is))
    case d__law_nights => (refine' Nk.df_mk (st := Nk.s__law_nights) KX G (fun _ _ _ _ _ _ us hl => match us, hl with | [_, _, _, _], _ => rfl) ?a ?l ?c ?k; (case a => k_is); (case l => k_is); (case c => k_is); (case k => k_is))
    case d_law => (refine' Nk.df_mk (st := Nk.s_law) KX G (fun _ _ _ _ _ _ us hl => match us, hl with | [_], _ => rfl) ?a ?l ?c ?k; (case a => k_is); (case l => k_is); (case c => k_is); (case k => k_is))
    case x_KeepError => (refine' Nk.xc_mk KX G ?a ?x ?k ?b ?t; (case a => k_is); (case x => k_exc); (case k => k_is); (case b => k_is); (case t => k_is))
    case x_BadRules => (refine' Nk.xc_mk KX G ?a ?x ?k ?b ?t; (case a => k_is); (case x => k_exc); (case k => k_is); (case b => k_is); (case t => k_is))
    case x_BadNights => (refine' Nk.xc_mk KX G ?a ?x ?k ?b ?t; (case a => k_is); (case x => k_exc); (case k => k_is); (case b => k_is); (case t => k_is))
    case c_MOST_NIGHT => (refine' Nk.ci_mk KX G ?a; (case a => k_is))
    case c_MOST_HELD => (refine' Nk.ci_mk KX G ?a; (case a => k_is))
    case b_all => (refine' PySem.W.mg_none_of KX G ?a; (case a => k_is))
    case b_bool => (refine' PySem.W.mg_none_of KX G ?a; (case a => k_is))
    case b_int => (refine' PySem.W.mg_none_of KX G ?a; (case a => k_is))
    case b_isinstance => (refine' PySem.W.mg_none_of KX G ?a; (case a => k_is))
    case b_len => (refine' PySem.W.mg_none_of KX G ?a; (case a => k_is))
    case b_list => (refine' PySem.W.mg_none_of KX G ?a; (case a => k_is))
    case b_min => (refine' PySem.W.mg_none_of KX G ?a; (case a => k_is))
    case b_range => (refine' PySem.W.mg_none_of KX G ?a; (case a => k_is))
    case b_reversed => (refine' PySem.W.mg_none_of KX G ?a; (case a => k_is))
    case b_sorted => (refine' PySem.W.mg_none_of KX G ?a; (case a => k_is))
    case b_sum => (refine' PySem.W.mg_none_of KX G ?a; (case a => k_is))
    case b_tuple => (refine' PySem.W.mg_none_of KX G ?a; (case a => k_is))
    case b_zip => (refine' PySem.W.mg_none_of KX G ?a; (case a => k_is))
