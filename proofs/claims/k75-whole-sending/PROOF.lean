import PyProof.Rows.All
import Wide.All
import OpenK.AllK
import Wide.FinOn
import HandS.ForMost
import HandS.ForExc
import HandS.IsInst
import HandS.Wide
import HandS.SortInts
import HandS.Zip
import HandS.Walk
import HandS.Evl
import HandS.More
import HandS.Conv
import HandS.ExcIs
import HandS.ExcField
import HandS.ExcInit
import HandS.Sort
import HandS.SetFor
import HandS.TupMul
import HandS.Strs
import HandS.Deep
import HandS.Defaults
import HandS.MakeKw
import PyProof.Rows.SortShellAny
import HandS.DeepEq
import HandS.TupSets
import KE.KDictDisplayH
import KE.KEqNest
import KE.KDictSum
import KE.KTupSum
import KE.KExcIs
import KE.KExcInit
import PySem.Challenge.RW_nightkeep_k75_whole_sending
set_option Elab.async false
set_option linter.all false
set_option maxRecDepth 100000
set_option maxHeartbeats 4000000
/-! ### rounds: plain mathematics -/
namespace Nk
def pre (rs : List Int) (j : Nat) : Int := (rs.take j).sum
def walkR : List Int → Int → Int → Int
  | [], _, found => found
  | r :: rs, left, found => if left < r then found else walkR rs (left - r) (found + 1)
def numOf (rs : List Int) (n : Int) : Int := walkR rs (n % rs.sum) (n / rs.sum * rs.length)
def firstOf (rs : List Int) (k : Int) : Int := k / rs.length * rs.sum + pre rs (k % rs.length).toNat
/-- lengths: at least one, each at least 1 -/
structure Rnds (rs : List Int) : Prop where
  ne : rs ≠ []
  pos : ∀ r ∈ rs, 1 ≤ r
theorem pre_zero (rs : List Int) : pre rs 0 = 0 := by simp [pre]
theorem pre_cons (r : Int) (rs : List Int) (j : Nat) : pre (r :: rs) (j + 1) = r + pre rs j := by simp [pre]
theorem pre_len (rs : List Int) : pre rs rs.length = rs.sum := by simp [pre]
theorem pre_step : ∀ {rs : List Int} {j : Nat} {r : Int}, rs[j]? = some r → pre rs (j + 1) = pre rs j + r
  | [], _, _, h => by simp at h
  | a :: rs, 0, r, h => by
    have e : a = r := by simpa using h
    subst e
    rw [pre_cons, pre_zero, pre_zero]; omega
  | a :: rs, j + 1, r, h => by
    have ih := pre_step (rs := rs) (j := j) (r := r) (by simpa using h)
    rw [pre_cons, pre_cons, ih]; omega
theorem pre_mono {rs : List Int} (hp : ∀ r ∈ rs, 1 ≤ r) : ∀ {i j : Nat}, i ≤ j → j ≤ rs.length → pre rs i + ((j : Int) - (i : Int)) ≤ pre rs j := by
  intro i j hij hj
  induction j with
  | zero =>
    have : i = 0 := by omega
    subst this; simp
  | succ j ih =>
    by_cases h : i = j + 1
    · subst h; simp
    · have h1 := ih (by omega) (by omega)
      have hlt : j < rs.length := by omega
      have e := pre_step (List.getElem?_eq_getElem hlt)
      have p := hp _ (List.getElem_mem hlt)
      rw [e]
      omega
theorem pre_nonneg {rs : List Int} (hp : ∀ r ∈ rs, 1 ≤ r) {j : Nat} (hj : j ≤ rs.length) : (j : Int) ≤ pre rs j := by
  have := pre_mono hp (Nat.zero_le j) hj
  rw [pre_zero] at this
  omega
theorem sum_ge {rs : List Int} (hp : ∀ r ∈ rs, 1 ≤ r) : (rs.length : Int) ≤ rs.sum := by
  have := pre_nonneg hp (Nat.le_refl rs.length)
  rw [pre_len] at this
  exact this
theorem Rnds.len {rs : List Int} (h : Rnds rs) : 0 < rs.length := List.length_pos_iff.mpr h.ne
theorem Rnds.sum {rs : List Int} (h : Rnds rs) : 0 < rs.sum := by
  have := sum_ge h.pos
  have := h.len
  omega
theorem walkR_spec : ∀ (rs : List Int) (left found : Int), 0 ≤ left → left < rs.sum → ∃ j : Nat, j < rs.length ∧ walkR rs left found = found + j ∧ pre rs j ≤ left ∧ left < pre rs (j + 1)
  | [], left, found, h0, h1 => by simp at h1; omega
  | r :: rs, left, found, h0, h1 => by
    unfold walkR
    by_cases c : left < r
    · refine ⟨0, by simp, by simp [c], ?_, ?_⟩
      · rw [pre_zero]; exact h0
      · rw [pre_cons, pre_zero]; omega
    · rw [if_neg c]
      obtain ⟨j, hj, e, h2, h3⟩ := walkR_spec rs (left - r) (found + 1) (by omega) (by rw [List.sum_cons] at h1; omega)
      refine ⟨j + 1, by simp; omega, ?_, ?_, ?_⟩
      · rw [e]; push_cast; omega
      · rw [pre_cons]; omega
      · rw [pre_cons]; omega
theorem pre_uniq {rs : List Int} (hp : ∀ r ∈ rs, 1 ≤ r) {i j : Nat} (hi : i < rs.length) (hj : j < rs.length) {x : Int} (h1 : pre rs i ≤ x) (h2 : x < pre rs (i + 1)) (h3 : pre rs j ≤ x) (h4 : x < pre rs (j + 1)) : i = j := by
  by_cases h : i < j
  · have := pre_mono hp (i := i + 1) (j := j) (by omega) (by omega)
    omega
  · by_cases h' : j < i
    · have := pre_mono hp (i := j + 1) (j := i) (by omega) (by omega)
      omega
    · omega
theorem emod_nat {k : Int} {n : Nat} (h : 0 < n) : ∃ j : Nat, j < n ∧ k % (n : Int) = (j : Int) ∧ (j : Int) + (n : Int) * (k / (n : Int)) = k := by
  have h0 := Int.emod_nonneg k (show (n : Int) ≠ 0 by omega)
  have h1 := Int.emod_lt_of_pos k (show (0 : Int) < n by omega)
  have h2 := Int.emod_add_mul_ediv k (n : Int)
  exact ⟨(k % n).toNat, by omega, by omega, by omega⟩
/-- a round, by its place in the turn -/
theorem firstOf_at {rs : List Int} (h : Rnds rs) (q : Int) {j : Nat} (hj : j ≤ rs.length) : firstOf rs (q * rs.length + j) = q * rs.sum + pre rs j := by
  have hl := h.len
  unfold firstOf
  by_cases e : j = rs.length
  · have h1 : (q * (rs.length : Int) + (j : Int)) / (rs.length : Int) = q + 1 ∧ (q * (rs.length : Int) + (j : Int)) % (rs.length : Int) = 0 := by
      rw [Int.ediv_emod_unique (by omega)]
      refine ⟨?_, by omega, by omega⟩
      rw [e, Int.mul_add, Int.mul_comm q]; omega
    rw [h1.1, h1.2, e, pre_len]
    show (q + 1) * rs.sum + pre rs (Int.toNat 0) = _
    rw [show Int.toNat 0 = 0 from rfl, pre_zero, Int.add_mul]
    omega
  · have h1 : (q * (rs.length : Int) + (j : Int)) / (rs.length : Int) = q ∧ (q * (rs.length : Int) + (j : Int)) % (rs.length : Int) = (j : Int) := by
      rw [Int.ediv_emod_unique (by omega)]
      refine ⟨?_, by omega, by omega⟩
      rw [Int.mul_comm q]; omega
    rw [h1.1, h1.2]
    simp
theorem firstOf_step {rs : List Int} (h : Rnds rs) (k : Int) {r : Int} (hr : rs[(k % rs.length).toNat]? = some r) : firstOf rs (k + 1) = firstOf rs k + r := by
  obtain ⟨j, hj, e, f⟩ := emod_nat (k := k) h.len
  rw [e] at hr
  have hr' : rs[j]? = some r := by simpa using hr
  have e1 : k = (k / rs.length) * rs.length + j := by rw [Int.mul_comm]; omega
  have a1 := firstOf_at h (k / rs.length) (Nat.le_of_lt hj)
  have a2 := firstOf_at h (k / rs.length) (Nat.succ_le_of_lt hj)
  rw [← e1] at a1
  have e2 : k / (rs.length : Int) * (rs.length : Int) + ((Nat.succ j : Nat) : Int) = k + 1 := by push_cast; omega
  rw [e2] at a2
  rw [a1, a2]
  show _ + pre rs (j + 1) = _
  rw [pre_step hr']
  omega
theorem get_round {rs : List Int} (h : Rnds rs) (k : Int) : ∃ r, rs[(k % rs.length).toNat]? = some r ∧ 1 ≤ r ∧ r ∈ rs := by
  obtain ⟨j, hj, e, f⟩ := emod_nat (k := k) h.len
  refine ⟨rs[j], ?_, h.pos _ (List.getElem_mem hj), List.getElem_mem hj⟩
  rw [e]
  simpa using List.getElem?_eq_getElem hj
theorem firstOf_lt {rs : List Int} (h : Rnds rs) (k : Int) : firstOf rs k + 1 ≤ firstOf rs (k + 1) := by
  obtain ⟨r, h1, h2, _⟩ := get_round h k
  rw [firstOf_step h k h1]
  omega
theorem firstOf_zero {rs : List Int} (h : Rnds rs) : firstOf rs 0 = 0 := by
  have := firstOf_at h 0 (Nat.zero_le rs.length)
  simp [pre_zero] at this
  exact this
/-- a night between a round's ends lies in it -/
theorem numOf_of {rs : List Int} (h : Rnds rs) {k m : Int} (h1 : firstOf rs k ≤ m) (h2 : m < firstOf rs (k + 1)) : numOf rs m = k := by
  obtain ⟨j, hj, e, f⟩ := emod_nat (k := k) h.len
  have e1 : k = (k / rs.length) * rs.length + j := by rw [Int.mul_comm]; omega
  have a1 := firstOf_at h (k / rs.length) (Nat.le_of_lt hj)
  have a2 := firstOf_at h (k / rs.length) (Nat.succ_le_of_lt hj)
  rw [← e1] at a1
  have e2 : k / (rs.length : Int) * (rs.length : Int) + ((Nat.succ j : Nat) : Int) = k + 1 := by push_cast; omega
  rw [e2] at a2
  rw [a1] at h1
  rw [a2] at h2
  have b0 := pre_nonneg h.pos (Nat.le_of_lt hj)
  have b1 := pre_mono h.pos (i := j + 1) (j := rs.length) (by omega) (Nat.le_refl _)
  rw [pre_len] at b1
  have h2' : m < k / (rs.length : Int) * rs.sum + pre rs (j + 1) := h2
  have h3 : m / rs.sum = k / rs.length ∧ m % rs.sum = m - (k / rs.length) * rs.sum := by
    rw [Int.ediv_emod_unique h.sum]
    refine ⟨by rw [Int.mul_comm rs.sum]; omega, by omega, by omega⟩
  unfold numOf
  rw [h3.1, h3.2]
  obtain ⟨i, hi, w, p1, p2⟩ := walkR_spec rs (m - k / ↑rs.length * rs.sum) (k / ↑rs.length * ↑rs.length) (by omega) (by omega)
  rw [w]
  have : i = j := pre_uniq h.pos hi hj p1 p2 (by omega) (by omega)
  subst this
  omega
/-- each night lies between the ends of its round -/
theorem numOf_spec {rs : List Int} (h : Rnds rs) (m : Int) : firstOf rs (numOf rs m) ≤ m ∧ m < firstOf rs (numOf rs m + 1) := by
  have hs := h.sum
  obtain ⟨i, hi, w, p1, p2⟩ := walkR_spec rs (m % rs.sum) (m / rs.sum * rs.length) (Int.emod_nonneg m (by omega)) (Int.emod_lt_of_pos m hs)
  have hm := Int.emod_add_mul_ediv m rs.sum
  have e : numOf rs m = m / rs.sum * rs.length + i := w
  have a1 := firstOf_at h (m / rs.sum) (Nat.le_of_lt hi)
  have a2 := firstOf_at h (m / rs.sum) (Nat.succ_le_of_lt hi)
  have e2 : m / rs.sum * (rs.length : Int) + ((Nat.succ i : Nat) : Int) = numOf rs m + 1 := by rw [e]; push_cast; omega
  rw [← e] at a1
  rw [e2] at a2
  rw [a1, a2]
  have c := Int.mul_comm rs.sum (m / rs.sum)
  refine ⟨by omega, ?_⟩
  show m < m / rs.sum * rs.sum + pre rs (i + 1)
  omega
theorem firstOf_mono {rs : List Int} (h : Rnds rs) (i : Int) : ∀ d : Nat, firstOf rs i + d ≤ firstOf rs (i + d)
  | 0 => by simp
  | d + 1 => by
    have h1 := firstOf_mono h i d
    have h2 := firstOf_lt h (i + d)
    push_cast
    rw [Int.add_assoc i d 1] at h2
    omega
theorem firstOf_le {rs : List Int} (h : Rnds rs) {i j : Int} (hij : i ≤ j) : firstOf rs i + (j - i) ≤ firstOf rs j := by
  have := firstOf_mono h i (j - i).toNat
  rw [show i + ((j - i).toNat : Int) = j by omega] at this
  omega
theorem firstOf_pos {rs : List Int} (h : Rnds rs) {k : Int} (hk : 0 ≤ k) : k ≤ firstOf rs k := by
  have := firstOf_le h hk
  rw [firstOf_zero h] at this
  omega
theorem numOf_nonneg {rs : List Int} (h : Rnds rs) {n : Int} (hn : 0 ≤ n) : 0 ≤ numOf rs n := by
  have h2 := (numOf_spec h n).2
  by_cases c : 0 ≤ numOf rs n
  · exact c
  · have := firstOf_le h (i := numOf rs n + 1) (j := 0) (by omega)
    rw [firstOf_zero h] at this
    omega
theorem numOf_le {rs : List Int} (h : Rnds rs) {n : Int} (hn : 0 ≤ n) : numOf rs n ≤ n := by
  have h1 := (numOf_spec h n).1
  have h2 := firstOf_pos h (numOf_nonneg h hn)
  omega
/-- later nights lie in no earlier rounds -/
theorem numOf_mono {rs : List Int} (h : Rnds rs) {m n : Int} (hmn : m ≤ n) : numOf rs m ≤ numOf rs n := by
  have h1 := (numOf_spec h m).1
  have h2 := (numOf_spec h n).2
  by_cases c : numOf rs m ≤ numOf rs n
  · exact c
  · have := firstOf_le h (i := numOf rs n + 1) (j := numOf rs m) (by omega)
    omega
/-- a whole turn later -/
theorem firstOf_turn {rs : List Int} (h : Rnds rs) (k : Int) : firstOf rs (k + rs.length) = firstOf rs k + rs.sum := by
  obtain ⟨j, hj, e, f⟩ := emod_nat (k := k) h.len
  have e1 : k = (k / rs.length) * rs.length + j := by rw [Int.mul_comm]; omega
  have a1 := firstOf_at h (k / rs.length) (Nat.le_of_lt hj)
  have a2 := firstOf_at h (k / rs.length + 1) (Nat.le_of_lt hj)
  rw [← e1] at a1
  have e2 : (k / rs.length + 1) * (rs.length : Int) + (j : Int) = k + rs.length := by rw [Int.add_mul]; omega
  rw [e2] at a2
  rw [a1, a2, Int.add_mul]
  omega
theorem numOf_turn {rs : List Int} (h : Rnds rs) (n : Int) : numOf rs (n + rs.sum) = numOf rs n + rs.length := by
  obtain ⟨h1, h2⟩ := numOf_spec h n
  have a1 := firstOf_turn h (numOf rs n)
  have a2 := firstOf_turn h (numOf rs n + 1)
  refine numOf_of h (by omega) ?_
  rw [show numOf rs n + (rs.length : Int) + 1 = numOf rs n + 1 + rs.length by omega]
  omega
theorem firstOf_ge {rs : List Int} (h : Rnds rs) : ∀ k : Nat, (k : Int) ≤ firstOf rs k
  | 0 => by rw [show ((0 : Nat) : Int) = 0 from rfl, firstOf_zero h]; omega
  | k + 1 => by
    have h1 := firstOf_ge h k
    have h2 := firstOf_lt h k
    push_cast
    omega
end Nk
/-! ### what rules keep: plain mathematics -/
namespace Nk
/-- going back through nights: those whose round is another one than that of the night gone through just before -/
def endsR (rs : List Int) : Option Int → List Int → List Int
  | _, [] => []
  | ah, n :: l => if ah = some (numOf rs n) then endsR rs (some (numOf rs n)) l else n :: endsR rs (some (numOf rs n)) l
def lastN (rs : List Int) (ah : Option Int) (l : List Int) : Option Int := match l.getLast? with
  | some n => some (numOf rs n)
  | none => ah
theorem lastN_cons (rs : List Int) (ah : Option Int) (n : Int) (l : List Int) : lastN rs ah (n :: l) = lastN rs (some (numOf rs n)) l := by
  unfold lastN
  cases l with
  | nil => rfl
  | cons m r => rw [List.getLast?_cons_cons]; cases h : (m :: r).getLast? <;> simp_all
theorem endsR_snoc (rs : List Int) : ∀ (l : List Int) (ah : Option Int) (n : Int), endsR rs ah (l ++ [n]) = endsR rs ah l ++ (if lastN rs ah l = some (numOf rs n) then [] else [n])
  | [], ah, n => by
    by_cases h : ah = some (numOf rs n) <;> simp [endsR, lastN, h]
  | m :: l, ah, n => by
    rw [lastN_cons]
    simp only [List.cons_append, endsR]
    rw [endsR_snoc rs l]
    split <;> simp
theorem lastN_snoc (rs : List Int) (ah : Option Int) (l : List Int) (n : Int) : lastN rs ah (l ++ [n]) = some (numOf rs n) := by
  simp [lastN]
/-- the last nights of the rounds, rising -/
def endsF (rs : List Int) : List Int → List Int
  | [] => []
  | [n] => [n]
  | n :: m :: l => if numOf rs n = numOf rs m then endsF rs (m :: l) else n :: endsF rs (m :: l)
theorem endsF_eq (rs : List Int) : ∀ ns : List Int, endsF rs ns = (endsR rs none ns.reverse).reverse
  | [] => rfl
  | [n] => by simp [endsF, endsR]
  | n :: m :: l => by
    rw [List.reverse_cons, endsR_snoc]
    have h : lastN rs none (m :: l).reverse = some (numOf rs m) := by simp [lastN]
    rw [h, List.reverse_append, ← endsF_eq rs (m :: l)]
    simp only [endsF, Option.some.injEq]
    by_cases e : numOf rs n = numOf rs m
    · rw [if_pos e, if_pos e.symm]; rfl
    · rw [if_neg e, if_neg (fun z => e z.symm)]; rfl
/-- what one rule keeps, the last one first -/
def keptBy (ru : List Int × Int) (ns : List Int) : List Int := (endsR ru.1 none ns.reverse).take ru.2.toNat
/-- .. rising -/
def keptUp (ru : List Int × Int) (ns : List Int) : List Int := (endsF ru.1 ns).drop ((endsF ru.1 ns).length - ru.2.toNat)
theorem keptUp_eq (ru : List Int × Int) (ns : List Int) : keptUp ru ns = (keptBy ru ns).reverse := by
  unfold keptUp keptBy
  rw [endsF_eq, List.length_reverse, List.reverse_take]
theorem endsR_sub (rs : List Int) : ∀ (l : List Int) (ah : Option Int), ∀ n ∈ endsR rs ah l, n ∈ l
  | [], _, n, h => by simp [endsR] at h
  | m :: l, ah, n, h => by
    simp only [endsR] at h
    split at h
    · exact List.mem_cons_of_mem _ (endsR_sub rs l _ n h)
    · rcases List.mem_cons.mp h with e | h
      · rw [e]; exact List.mem_cons_self
      · exact List.mem_cons_of_mem _ (endsR_sub rs l _ n h)
theorem keptBy_sub {ru : List Int × Int} {ns : List Int} {n : Int} (h : n ∈ keptBy ru ns) : n ∈ ns := by
  have := endsR_sub ru.1 _ _ n (List.mem_of_mem_take h)
  simpa using this
theorem mem_keptUp {ru : List Int × Int} {ns : List Int} {n : Int} : n ∈ keptUp ru ns ↔ n ∈ keptBy ru ns := by
  rw [keptUp_eq, List.mem_reverse]
/-- what rules keep, rising -/
def keptF (rules : List (List Int × Int)) (ns : List Int) : List Int := ns.filter fun n => rules.any fun ru => decide (n ∈ keptBy ru ns)
theorem mem_keptF {rules : List (List Int × Int)} {ns : List Int} {n : Int} : n ∈ keptF rules ns ↔ ∃ ru ∈ rules, n ∈ keptBy ru ns := by
  unfold keptF
  rw [List.mem_filter, List.any_eq_true]
  constructor
  · rintro ⟨_, ru, h1, h2⟩
    exact ⟨ru, h1, of_decide_eq_true h2⟩
  · rintro ⟨ru, h1, h2⟩
    exact ⟨keptBy_sub h2, ru, h1, decide_eq_true h2⟩
theorem keptF_rise {rules : List (List Int × Int)} {ns : List Int} (h : ns.Pairwise (· < ·)) : (keptF rules ns).Pairwise (· < ·) := h.filter _
/-- two rising lists with the same members are one -/
theorem rise_ext : ∀ {l m : List Int}, l.Pairwise (· < ·) → m.Pairwise (· < ·) → (∀ x, x ∈ l ↔ x ∈ m) → l = m
  | [], [], _, _, _ => rfl
  | [], y :: m, _, _, h => absurd ((h y).mpr List.mem_cons_self) (by simp)
  | x :: l, [], _, _, h => absurd ((h x).mp List.mem_cons_self) (by simp)
  | x :: l, y :: m, hl, hm, h => by
    obtain ⟨hx, hl'⟩ := List.pairwise_cons.mp hl
    obtain ⟨hy, hm'⟩ := List.pairwise_cons.mp hm
    have e : x = y := by
      rcases List.mem_cons.mp ((h x).mp List.mem_cons_self) with e | h1
      · exact e
      · rcases List.mem_cons.mp ((h y).mpr List.mem_cons_self) with e | h2
        · exact e.symm
        · have a := hx y h2
          have b := hy x h1
          omega
    subst e
    have : l = m := rise_ext hl' hm' fun z => by
      constructor
      · intro hz
        have hxz := hx z hz
        rcases List.mem_cons.mp ((h z).mp (List.mem_cons_of_mem _ hz)) with e | h1
        · omega
        · exact h1
      · intro hz
        have hxz := hy z hz
        rcases List.mem_cons.mp ((h z).mpr (List.mem_cons_of_mem _ hz)) with e | h1
        · omega
        · exact h1
    rw [this]
theorem rise_of_le {l : List Int} (h : l.Pairwise (· ≤ ·)) (nd : l.Nodup) : l.Pairwise (· < ·) := by
  have := h.and nd
  exact this.imp fun {a b} ⟨h1, h2⟩ => by omega
theorem take_prefix {α : Type} {l : List α} {p : List α} {k : Nat} (h : ∃ t, l = p ++ t) (hp : p.length = k) : p = l.take k := by
  obtain ⟨t, rfl⟩ := h
  subst hp
  simp
theorem endsR_pre (rs : List Int) (ah : Option Int) : ∀ (t l : List Int), ∃ u, endsR rs ah (l ++ t) = endsR rs ah l ++ u
  | [], l => ⟨[], by simp⟩
  | x :: t, l => by
    obtain ⟨u, hu⟩ := endsR_pre rs ah t (l ++ [x])
    rw [List.append_assoc, List.singleton_append] at hu
    rw [hu, endsR_snoc, List.append_assoc]
    exact ⟨_, rfl⟩
end Nk
/-! ### texts in order; tables of names with numbers; parts -/
namespace Nk
open PySem
/-- texts by their signs -/
def sl (a b : Str) : Prop := a.cps.toList < b.cps.toList
instance (a b : Str) : Decidable (sl a b) := inferInstanceAs (Decidable (a.cps.toList < b.cps.toList))
theorem sl_irrefl (a : Str) : ¬ sl a a := List.lt_irrefl _
theorem sl_trans {a b c : Str} (h : sl a b) (h' : sl b c) : sl a c := List.lt_trans h h'
theorem sl_asymm {a b : Str} (h : sl a b) : ¬ sl b a := fun h' => sl_irrefl a (sl_trans h h')
theorem sl_tri {a b : Str} (h1 : ¬ sl a b) (h2 : ¬ sl b a) : a = b := by
  have e : a.cps.toList = b.cps.toList := List.le_antisymm h2 h1
  obtain ⟨⟨x⟩⟩ := a
  obtain ⟨⟨y⟩⟩ := b
  simp only at e
  rw [e]
theorem sl_ntrans {a b c : Str} (h1 : ¬ sl b a) (h2 : ¬ sl c b) : ¬ sl c a := by
  intro h
  by_cases e : sl b c
  · exact h1 (sl_trans e h)
  · have := sl_tri e h2
    subst this
    exact h1 h
theorem srt_uniq : ∀ {xs ys : List Str}, xs.Pairwise sl → ys.Pairwise sl → (∀ k, k ∈ xs ↔ k ∈ ys) → xs = ys
  | [], [], _, _, _ => rfl
  | [], y :: ys, _, _, h => absurd ((h y).mpr List.mem_cons_self) (by simp)
  | x :: xs, [], _, _, h => absurd ((h x).mp List.mem_cons_self) (by simp)
  | x :: xs, y :: ys, hx, hy, h => by
    obtain ⟨hx1, hx2⟩ := List.pairwise_cons.mp hx
    obtain ⟨hy1, hy2⟩ := List.pairwise_cons.mp hy
    have e : x = y := by
      rcases List.mem_cons.mp ((h x).mp List.mem_cons_self) with e | m
      · exact e
      · rcases List.mem_cons.mp ((h y).mpr List.mem_cons_self) with e | m'
        · exact e.symm
        · exact absurd (hy1 x m) (sl_asymm (hx1 y m'))
    subst e
    rw [srt_uniq hx2 hy2 fun k => ?_]
    constructor
    · intro m
      rcases List.mem_cons.mp ((h k).mp (List.mem_cons_of_mem _ m)) with e | m'
      · subst e; exact absurd (hx1 k m) (sl_irrefl k)
      · exact m'
    · intro m
      rcases List.mem_cons.mp ((h k).mpr (List.mem_cons_of_mem _ m)) with e | m'
      · subst e; exact absurd (hy1 k m) (sl_irrefl k)
      · exact m'
def insS (a : Str) : List Str → List Str
  | [] => [a]
  | b :: r => if sl a b then a :: b :: r else if a = b then b :: r else b :: insS a r
theorem mem_insS {a k : Str} : ∀ {l : List Str}, k ∈ insS a l ↔ k = a ∨ k ∈ l
  | [] => by simp [insS]
  | b :: r => by
    unfold insS
    by_cases h1 : sl a b
    · simp [h1]
    · by_cases h2 : a = b
      · rw [if_neg h1, if_pos h2, h2]
        simp
      · simp only [h1, h2, if_false, List.mem_cons, mem_insS (l := r)]
        constructor
        · rintro (h | h | h)
          · exact .inr (.inl h)
          · exact .inl h
          · exact .inr (.inr h)
        · rintro (h | h | h)
          · exact .inr (.inl h)
          · exact .inl h
          · exact .inr (.inr h)
theorem pw_insS {a : Str} : ∀ {l : List Str}, l.Pairwise sl → (insS a l).Pairwise sl
  | [], _ => by simp [insS]
  | b :: r, h => by
    obtain ⟨hb1, hb2⟩ := List.pairwise_cons.mp h
    unfold insS
    by_cases h1 : sl a b
    · simp only [h1, if_true]
      refine List.pairwise_cons.mpr ⟨fun k hk => ?_, h⟩
      rcases List.mem_cons.mp hk with e | m
      · subst e; exact h1
      · exact sl_trans h1 (hb1 k m)
    · by_cases h2 : a = b
      · rw [if_neg h1, if_pos h2]
        exact h
      · simp only [h1, h2, if_false]
        refine List.pairwise_cons.mpr ⟨fun k hk => ?_, pw_insS hb2⟩
        rcases mem_insS.mp hk with e | m
        · subst e
          by_cases c : sl b k
          · exact c
          · exact absurd (sl_tri h1 c) h2
        · exact hb1 k m
def srt (l : List Str) : List Str := l.foldr insS []
theorem mem_srt {k : Str} : ∀ {l : List Str}, k ∈ srt l ↔ k ∈ l
  | [] => by simp [srt]
  | a :: r => by
    show k ∈ insS a (srt r) ↔ _
    rw [mem_insS, mem_srt (l := r), List.mem_cons]
theorem pw_srt : ∀ {l : List Str}, (srt l).Pairwise sl
  | [] => by simp [srt]
  | a :: r => pw_insS (pw_srt (l := r))
theorem pw_nodup {l : List Str} (h : l.Pairwise sl) : l.Nodup := by
  refine List.Pairwise.imp (fun {a b} h => ?_) h
  intro e
  subst e
  exact sl_irrefl _ h
theorem nodup_le {α : Type} [DecidableEq α] : ∀ {l m : List α}, l.Nodup → (∀ x ∈ l, x ∈ m) → l.length ≤ m.length
  | [], _, _, _ => Nat.zero_le _
  | a :: r, m, h, s => by
    obtain ⟨h1, h2⟩ := List.nodup_cons.mp h
    have ha := s a List.mem_cons_self
    have := nodup_le (l := r) (m := m.erase a) h2 fun x hx => by
      refine (List.mem_erase_of_ne ?_).mpr (s x (List.mem_cons_of_mem _ hx))
      intro e; subst e; exact h1 hx
    rw [List.length_erase_of_mem ha] at this
    have := List.length_pos_of_mem ha
    simp only [List.length_cons]
    omega
theorem nodup_same {α : Type} [DecidableEq α] {l m : List α} (hl : l.Nodup) (hm : m.Nodup) (s : ∀ x, x ∈ l ↔ x ∈ m) : l.length = m.length :=
  Nat.le_antisymm (nodup_le hl fun x hx => (s x).mp hx) (nodup_le hm fun x hx => (s x).mpr hx)
/-! tables -/
abbrev Tb := List (Str × Int)
def lk (t : Tb) (n : Str) : Option Int := (t.find? fun p => decide (p.1 = n)).map (·.2)
def putT (t : Tb) (n : Str) (i : Int) : Tb := if (t.any fun p => decide (p.1 = n)) = true then t.map (fun p => if p.1 = n then (p.1, i) else p) else t ++ [(n, i)]
def dropT (t : Tb) (n : Str) : Tb := t.filter fun p => decide (p.1 ≠ n)
def nms (t : Tb) : List Str := t.map (·.1)
theorem lk_nil {n : Str} : lk [] n = none := rfl
theorem lk_cons {p : Str × Int} {t : Tb} {n : Str} : lk (p :: t) n = if p.1 = n then some p.2 else lk t n := by
  unfold lk
  rw [List.find?_cons]
  by_cases e : p.1 = n <;> simp [e]
theorem lk_none {n : Str} : ∀ {t : Tb}, lk t n = none ↔ n ∉ nms t
  | [] => by simp [lk_nil, nms]
  | p :: t => by
    rw [lk_cons]
    have ih := lk_none (n := n) (t := t)
    by_cases e : p.1 = n
    · simp [e, nms]
    · rw [if_neg e, ih]
      simp only [nms, List.map_cons, List.mem_cons, not_or]
      exact ⟨fun h => ⟨fun z => e z.symm, h⟩, fun h => h.2⟩
theorem lk_mem {t : Tb} {n : Str} {i : Int} (h : lk t n = some i) : (n, i) ∈ t := by
  unfold lk at h
  cases e : t.find? fun p => decide (p.1 = n) with
  | none => rw [e] at h; cases h
  | some p =>
    rw [e] at h
    have h1 := List.find?_some e
    have h2 := List.mem_of_find?_eq_some e
    simp at h h1
    obtain ⟨a, b⟩ := p
    simp only at h h1
    subst h h1
    exact h2
theorem lk_of {n : Str} {i : Int} : ∀ {t : Tb}, (nms t).Nodup → (n, i) ∈ t → lk t n = some i
  | p :: t, h, m => by
    rw [lk_cons]
    obtain ⟨h1, h2⟩ := List.nodup_cons.mp (show (p.1 :: nms t).Nodup from h)
    rcases List.mem_cons.mp m with e | m'
    · rw [← e]; simp
    · have : p.1 ≠ n := fun e => h1 (by rw [e]; exact List.mem_map.mpr ⟨_, m', rfl⟩)
      rw [if_neg this]
      exact lk_of h2 m'
theorem mem_nms {t : Tb} {n : Str} : n ∈ nms t ↔ ∃ i, lk t n = some i := by
  constructor
  · intro h
    cases e : lk t n with
    | none => exact absurd h (lk_none.mp e)
    | some i => exact ⟨i, rfl⟩
  · rintro ⟨i, e⟩
    exact List.mem_map.mpr ⟨_, lk_mem e, rfl⟩
theorem lk_app {n : Str} {i : Int} {m : Str} : ∀ {t : Tb}, n ∉ nms t → lk (t ++ [(n, i)]) m = if m = n then some i else lk t m
  | [], _ => by
    rw [List.nil_append, lk_cons, lk_nil]
    by_cases e : n = m
    · simp [e]
    · rw [if_neg e, if_neg (fun z => e z.symm)]
  | p :: t, h => by
    rw [List.cons_append, lk_cons, lk_cons]
    have h1 : ¬ n = p.1 ∧ n ∉ nms t := by simpa [nms] using h
    rw [lk_app h1.2]
    by_cases e : p.1 = m
    · simp only [e, if_true]
      rw [if_neg (fun z => h1.1 (by rw [e, z]))]
    · simp only [e, if_false]
theorem lk_map {n : Str} {i : Int} {m : Str} : ∀ {t : Tb}, lk (t.map fun p => if p.1 = n then (p.1, i) else p) m = (lk t m).map fun x => if m = n then i else x
  | [] => rfl
  | p :: t => by
    rw [List.map_cons, lk_cons, lk_cons, lk_map]
    by_cases e : p.1 = m
    · subst e
      by_cases c : p.1 = n
      · rw [if_pos c]
        simp [c]
      · rw [if_neg c]
        simp [c]
    · have e2 : ¬ (if p.1 = n then (p.1, i) else p).1 = m := by split <;> exact e
      rw [if_neg e, if_neg e2]
theorem any_nms {t : Tb} {n : Str} : (t.any fun p => decide (p.1 = n)) = decide (n ∈ nms t) := by
  rw [Bool.eq_iff_iff, List.any_eq_true, decide_eq_true_eq]
  constructor
  · rintro ⟨p, h1, h2⟩
    exact List.mem_map.mpr ⟨p, h1, by simpa using h2⟩
  · intro h
    obtain ⟨p, h1, h2⟩ := List.mem_map.mp h
    exact ⟨p, h1, by simpa using h2⟩
theorem lk_put {t : Tb} {n m : Str} {i : Int} : lk (putT t n i) m = if m = n then some i else lk t m := by
  unfold putT
  rw [any_nms]
  by_cases c : n ∈ nms t
  · rw [if_pos (by simpa using c), lk_map]
    by_cases e : m = n
    · subst e
      obtain ⟨j, hj⟩ := mem_nms.mp c
      simp [hj]
    · cases lk t m <;> simp [e]
  · rw [if_neg (by simpa using c), lk_app c]
theorem lk_drop {n m : Str} : ∀ {t : Tb}, lk (dropT t n) m = if m = n then none else lk t m
  | [] => by simp [dropT, lk_nil]
  | p :: t => by
    have ih := lk_drop (n := n) (m := m) (t := t)
    unfold dropT at ih ⊢
    rw [List.filter_cons]
    by_cases c : p.1 = n
    · rw [if_neg (by simpa using c), ih, lk_cons]
      by_cases e : m = n
      · simp [e]
      · rw [if_neg e, if_neg e, if_neg (fun z => e (by rw [← z, c]))]
    · rw [if_pos (by simpa using c), lk_cons, lk_cons, ih]
      by_cases e : m = n
      · subst e; simp [c]
      · simp [e]
theorem nms_put {t : Tb} {n : Str} {i : Int} : nms (putT t n i) = if n ∈ nms t then nms t else nms t ++ [n] := by
  unfold putT
  rw [any_nms]
  by_cases c : n ∈ nms t
  · rw [if_pos (decide_eq_true c), if_pos c]
    unfold nms
    rw [List.map_map]
    refine List.map_congr_left fun p _ => ?_
    simp only [Function.comp]
    by_cases e : p.1 = n <;> simp [e]
  · rw [if_neg (by simpa using c), if_neg c]
    simp [nms]
theorem put_len {t : Tb} {n : Str} {i : Int} : (putT t n i).length = if n ∈ nms t then t.length else t.length + 1 := by
  have e : (putT t n i).length = (nms (putT t n i)).length := (List.length_map _).symm
  rw [e, nms_put]
  by_cases c : n ∈ nms t
  · rw [if_pos c, if_pos c]; exact List.length_map _
  · rw [if_neg c, if_neg c]; simp [nms]
theorem put_nd {t : Tb} {n : Str} {i : Int} (h : (nms t).Nodup) : (nms (putT t n i)).Nodup := by
  rw [nms_put]
  split
  · exact h
  · rename_i c
    rw [List.nodup_append]
    exact ⟨h, by simp, fun a ha b hb => by rw [List.mem_singleton.mp hb]; intro e; subst e; exact c ha⟩
theorem drop_nd {t : Tb} {n : Str} (h : (nms t).Nodup) : (nms (dropT t n)).Nodup := List.Nodup.sublist (List.Sublist.map _ List.filter_sublist) h
theorem mem_put {t : Tb} {n : Str} {i : Int} {p : Str × Int} (h : p ∈ putT t n i) : p = (n, i) ∨ p ∈ t := by
  unfold putT at h
  split at h
  · obtain ⟨q, hq, e⟩ := List.mem_map.mp h
    by_cases c : q.1 = n
    · rw [if_pos c, c] at e; exact .inl e.symm
    · rw [if_neg c] at e; exact .inr (e ▸ hq)
  · rcases List.mem_append.mp h with h | h
    · exact .inr h
    · exact .inl (List.mem_singleton.mp h)
/-- a name -/
def isNm (s : Str) : Prop := 1 ≤ s.cps.toList.length ∧ s.cps.toList.length ≤ 6 ∧ ∀ c ∈ s.cps.toList, 97 ≤ c ∧ c ≤ 122
instance (s : Str) : Decidable (isNm s) := inferInstanceAs (Decidable (_ ∧ _ ∧ _))
structure OkT (t : Tb) : Prop where
  nd : (nms t).Nodup
  nm : ∀ p ∈ t, isNm p.1
  num : ∀ p ∈ t, 0 ≤ p.2 ∧ p.2 ≤ 99
theorem OkT.nil : OkT [] := ⟨by simp [nms], (fun _ h => nomatch h), (fun _ h => nomatch h)⟩
theorem OkT.put {t : Tb} (h : OkT t) {n : Str} {i : Int} (hn : isNm n) (h0 : 0 ≤ i) (h1 : i ≤ 99) : OkT (putT t n i) :=
  ⟨put_nd h.nd, fun p hp => (mem_put hp).elim (fun e => by rw [e]; exact hn) (h.nm p), fun p hp => (mem_put hp).elim (fun e => by rw [e]; exact ⟨h0, h1⟩) (h.num p)⟩
theorem OkT.drop {t : Tb} (h : OkT t) {n : Str} : OkT (dropT t n) := ⟨drop_nd h.nd, fun p hp => h.nm p (List.mem_filter.mp hp).1, fun p hp => h.num p (List.mem_filter.mp hp).1⟩
theorem OkT.same_len {a b : Tb} (ha : OkT a) (hb : OkT b) (h : ∀ n, lk a n = lk b n) : a.length = b.length := by
  have := nodup_same ha.nd hb.nd fun n => by rw [mem_nms, mem_nms, h n]
  simpa [nms] using this
theorem OkT.le_len {a b : Tb} (ha : OkT a) (h : ∀ n, lk b n = none → lk a n = none) : a.length ≤ b.length := by
  have := nodup_le ha.nd (m := nms b) fun n hn => by
    by_cases c : n ∈ nms b
    · exact c
    · exact absurd hn (lk_none.mp (h n (lk_none.mpr c)))
  simpa [nms] using this
/-! parts -/
abbrev Pt := List (Str × Option Int)
def diffN (a b : Tb) : List Str := (srt (nms a ++ nms b)).filter fun n => decide (lk a n ≠ lk b n)
def part (a b : Tb) : Pt := (diffN a b).map fun n => (n, lk b n)
theorem mem_diffN {a b : Tb} {n : Str} : n ∈ diffN a b ↔ lk a n ≠ lk b n := by
  unfold diffN
  rw [List.mem_filter, mem_srt, List.mem_append, decide_eq_true_eq]
  refine ⟨fun h => h.2, fun h => ⟨?_, h⟩⟩
  by_cases c : n ∈ nms a
  · exact .inl c
  · by_cases c' : n ∈ nms b
    · exact .inr c'
    · exact absurd ((lk_none.mpr c).trans (lk_none.mpr c').symm) h
theorem pw_diffN {a b : Tb} : (diffN a b).Pairwise sl := List.Pairwise.sublist List.filter_sublist pw_srt
theorem diffN_congr {a b a' b' : Tb} (ha : ∀ n, lk a n = lk a' n) (hb : ∀ n, lk b n = lk b' n) : diffN a b = diffN a' b' :=
  srt_uniq pw_diffN pw_diffN fun k => by rw [mem_diffN, mem_diffN, ha, hb]
theorem part_congr {a b a' b' : Tb} (ha : ∀ n, lk a n = lk a' n) (hb : ∀ n, lk b n = lk b' n) : part a b = part a' b' := by
  unfold part
  rw [diffN_congr ha hb]
  exact List.map_congr_left fun n _ => by rw [hb n]
theorem diffN_swap {a b : Tb} : diffN a b = diffN b a := srt_uniq pw_diffN pw_diffN fun k => by rw [mem_diffN, mem_diffN]; exact ne_comm
theorem part_len {a b : Tb} : (part a b).length = (diffN a b).length := List.length_map _
theorem diffN_len {a b : Tb} : (diffN a b).length ≤ a.length + b.length := by
  have := nodup_le (pw_nodup (pw_diffN (a := a) (b := b))) (m := nms a ++ nms b) fun x hx => by
    have := (List.mem_filter.mp hx).1
    rwa [mem_srt] at this
  simpa [nms] using this
theorem part_nil {a b : Tb} : part a b = [] ↔ ∀ n, lk a n = lk b n := by
  unfold part
  rw [List.map_eq_nil_iff]
  constructor
  · intro h n
    refine Decidable.byContradiction fun c => ?_
    have := mem_diffN.mpr c
    rw [h] at this
    cases this
  · intro h
    cases e : diffN a b with
    | nil => rfl
    | cons n r => exact absurd (h n) (mem_diffN.mp (by rw [e]; exact List.mem_cons_self))
structure GoodP (ps : Pt) : Prop where
  pw : (ps.map (·.1)).Pairwise sl
  nm : ∀ p ∈ ps, isNm p.1
  num : ∀ p ∈ ps, ∀ i, p.2 = some i → 0 ≤ i ∧ i ≤ 99
  len : ps.length ≤ 40
theorem part_names {a b : Tb} : (part a b).map (·.1) = diffN a b := by
  unfold part
  rw [List.map_map]
  exact List.map_id _
theorem part_good {a b : Tb} (ha : OkT a) (hb : OkT b) (la : a.length ≤ 20) (lb : b.length ≤ 20) : GoodP (part a b) := by
  refine ⟨by rw [part_names]; exact pw_diffN, fun p hp => ?_, fun p hp i e => ?_, ?_⟩
  · obtain ⟨n, hn, rfl⟩ := List.mem_map.mp hp
    have h := mem_diffN.mp hn
    cases e : lk a n with
    | some i => exact ha.nm _ (lk_mem e)
    | none =>
      cases e' : lk b n with
      | some i => exact hb.nm _ (lk_mem e')
      | none => rw [e, e'] at h; exact absurd rfl h
  · obtain ⟨n, hn, rfl⟩ := List.mem_map.mp hp
    exact hb.num _ (lk_mem e)
  · rw [part_len]
    have := diffN_len (a := a) (b := b)
    omega
def stepP (t : Tb) (n : Str) (x : Option Int) : Tb := match x with
  | none => dropT t n
  | some i => putT t n i
theorem lk_step {t : Tb} {n m : Str} {x : Option Int} : lk (stepP t n x) m = if m = n then x else lk t m := by
  cases x with
  | none => exact lk_drop
  | some i => exact lk_put
theorem OkT.step {t : Tb} (h : OkT t) {n : Str} {x : Option Int} (hn : isNm n) (hx : ∀ i, x = some i → 0 ≤ i ∧ i ≤ 99) : OkT (stepP t n x) := by
  cases x with
  | none => exact h.drop
  | some i => exact h.put hn (hx i rfl).1 (hx i rfl).2
theorem step_len {t : Tb} {n : Str} {x : Option Int} : (stepP t n x).length ≤ t.length + 1 := by
  cases x with
  | none => exact Nat.le_succ_of_le (List.length_filter_le _ _)
  | some i => show (putT t n i).length ≤ _; rw [put_len]; split <;> omega
def applyP : Tb → Pt → Option Tb
  | t, [] => some t
  | t, (n, x) :: ps => if lk t n = x then none else applyP (stepP t n x) ps
theorem applyP_some : ∀ {ps : Pt} {t : Tb}, (ps.map (·.1)).Nodup → (∀ p ∈ ps, lk t p.1 ≠ p.2) → ∃ t', applyP t ps = some t' ∧ (∀ p ∈ ps, lk t' p.1 = p.2) ∧ ∀ n, n ∉ ps.map (·.1) → lk t' n = lk t n
  | [], t, _, _ => ⟨t, rfl, (fun _ h => nomatch h), fun _ _ => rfl⟩
  | (n, x) :: ps, t, nd, h => by
    obtain ⟨h1, h2⟩ := List.nodup_cons.mp (show (n :: ps.map (·.1)).Nodup from nd)
    have hn : lk t n ≠ x := h (n, x) List.mem_cons_self
    obtain ⟨t', e1, e2, e3⟩ := applyP_some (ps := ps) (t := stepP t n x) h2 fun p hp => by
      have hne : p.1 ≠ n := fun e => h1 (by rw [← e]; exact List.mem_map.mpr ⟨p, hp, rfl⟩)
      rw [lk_step, if_neg hne]
      exact h p (List.mem_cons_of_mem _ hp)
    refine ⟨t', by unfold applyP; rw [if_neg hn]; exact e1, fun p hp => ?_, fun m hm => ?_⟩
    · rcases List.mem_cons.mp hp with e | m
      · subst e
        rw [e3 n h1, lk_step, if_pos rfl]
      · exact e2 p m
    · have hm' : ¬ m = n ∧ m ∉ ps.map (·.1) := by simpa using hm
      rw [e3 m hm'.2, lk_step, if_neg hm'.1]
theorem applyP_none : ∀ {ps : Pt} {t : Tb}, (ps.map (·.1)).Nodup → (∃ p ∈ ps, lk t p.1 = p.2) → applyP t ps = none
  | (n, x) :: ps, t, nd, h => by
    obtain ⟨h1, h2⟩ := List.nodup_cons.mp (show (n :: ps.map (·.1)).Nodup from nd)
    unfold applyP
    by_cases c : lk t n = x
    · rw [if_pos c]
    · rw [if_neg c]
      refine applyP_none h2 ?_
      obtain ⟨p, hp, e⟩ := h
      rcases List.mem_cons.mp hp with z | m
      · subst z; exact absurd e c
      · refine ⟨p, m, ?_⟩
        have hne : p.1 ≠ n := fun e => h1 (by rw [← e]; exact List.mem_map.mpr ⟨p, m, rfl⟩)
        rw [lk_step, if_neg hne]
        exact e
theorem applyP_ok : ∀ {ps : Pt} {t t' : Tb}, OkT t → (∀ p ∈ ps, isNm p.1) → (∀ p ∈ ps, ∀ i, p.2 = some i → 0 ≤ i ∧ i ≤ 99) → applyP t ps = some t' → OkT t'
  | [], t, t', h, _, _, e => by cases e; exact h
  | (n, x) :: ps, t, t', h, h1, h2, e => by
    unfold applyP at e
    by_cases c : lk t n = x
    · rw [if_pos c] at e; cases e
    · rw [if_neg c] at e
      exact applyP_ok (h.step (h1 _ List.mem_cons_self) (h2 _ List.mem_cons_self)) (fun p hp => h1 p (List.mem_cons_of_mem _ hp)) (fun p hp => h2 p (List.mem_cons_of_mem _ hp)) e
/-- the part of two tables leads from the one to the other -/
theorem apply_part {a b : Tb} : ∃ t', applyP a (part a b) = some t' ∧ ∀ n, lk t' n = lk b n := by
  obtain ⟨t', e1, e2, e3⟩ := applyP_some (ps := part a b) (t := a) (by rw [part_names]; exact pw_nodup pw_diffN) fun p hp => by
    obtain ⟨n, hn, rfl⟩ := List.mem_map.mp hp
    exact mem_diffN.mp hn
  refine ⟨t', e1, fun n => ?_⟩
  by_cases c : lk a n = lk b n
  · rw [e3 n (by rw [part_names, mem_diffN]; exact fun z => z c)]
    exact c
  · exact e2 (n, lk b n) (List.mem_map.mpr ⟨n, mem_diffN.mpr c, rfl⟩)
end Nk
/-! ### the shortest ties first, and the nearest first: the same sum -/
namespace Nk
/-- how many different numbers -/
def dc : List Nat → Nat
  | [] => 0
  | x :: l => (if x ∈ l then 0 else 1) + dc l
theorem filter_comm' (p q : Nat → Bool) (l : List Nat) : (l.filter p).filter q = (l.filter q).filter p := by
  rw [List.filter_filter, List.filter_filter]
  congr 1
  funext x
  exact Bool.and_comm _ _
theorem filter_out {x : Nat} {l : List Nat} (h : ¬ x ∈ l) : l.filter (fun y => decide (y ≠ x)) = l := by
  rw [List.filter_eq_self]
  intro y hy
  exact decide_eq_true fun e => h (e ▸ hy)
theorem dc_take' {x : Nat} : ∀ (l : List Nat), x ∈ l → dc l = 1 + dc (l.filter fun y => decide (y ≠ x))
  | [], hx => by cases hx
  | y :: l, hx => by
    by_cases c : y = x
    · subst c
      rw [List.filter_cons, if_neg (by simp)]
      simp only [dc]
      by_cases c2 : y ∈ l
      · rw [if_pos c2, Nat.zero_add]
        exact dc_take' l c2
      · rw [if_neg c2, filter_out c2]
    · have hx2 : x ∈ l := by
        rcases List.mem_cons.mp hx with e | e
        · exact absurd e.symm c
        · exact e
      rw [List.filter_cons, if_pos (by simpa using c)]
      simp only [dc]
      rw [dc_take' l hx2]
      have : (y ∈ l.filter fun y => decide (y ≠ x)) ↔ y ∈ l := by
        rw [List.mem_filter]
        exact ⟨fun h => h.1, fun h => ⟨h, by simpa using c⟩⟩
      by_cases c2 : y ∈ l
      · rw [if_pos c2, if_pos (this.mpr c2)]
        omega
      · rw [if_neg c2, if_neg (fun z => c2 (this.mp z))]
theorem dc_cons (x : Nat) (l : List Nat) : dc (x :: l) = 1 + dc (l.filter fun y => decide (y ≠ x)) := by
  rw [dc_take' (x :: l) List.mem_cons_self, List.filter_cons, if_neg (by simp)]
theorem dc_take {x : Nat} (n : Nat) (l : List Nat) (_ : l.length ≤ n) (h : x ∈ l) : dc l = 1 + dc (l.filter fun y => decide (y ≠ x)) := dc_take' l h
theorem dc_set : ∀ (n : Nat) (l m : List Nat), l.length ≤ n → (∀ x, x ∈ l ↔ x ∈ m) → dc l = dc m
  | 0, l, m, h, hs => by
    cases l with
    | cons a l => simp at h
    | nil =>
      cases m with
      | nil => rfl
      | cons a m => exact absurd ((hs a).mpr List.mem_cons_self) (by simp)
  | n + 1, [], m, h, hs => by
    cases m with
    | nil => rfl
    | cons a m => exact absurd ((hs a).mpr List.mem_cons_self) (by simp)
  | n + 1, x :: l, m, h, hs => by
    rw [dc_cons, dc_take m.length m (Nat.le_refl _) ((hs x).mp List.mem_cons_self)]
    congr 1
    refine dc_set n _ _ ?_ fun y => ?_
    · have := List.length_filter_le (fun z => decide (z ≠ x)) l
      simp only [List.length_cons] at h
      omega
    · rw [List.mem_filter, List.mem_filter, ← hs y]
      constructor
      · rintro ⟨h1, h2⟩
        exact ⟨List.mem_cons_of_mem _ h1, h2⟩
      · rintro ⟨h1, h2⟩
        rcases List.mem_cons.mp h1 with e | e
        · simp [e] at h2
        · exact ⟨e, h2⟩
theorem dc_same {l m : List Nat} (h : ∀ x, x ∈ l ↔ x ∈ m) : dc l = dc m := dc_set l.length l m (Nat.le_refl _) h
theorem dc_snoc (l : List Nat) (x : Nat) : dc (l ++ [x]) = dc l + if x ∈ l then 0 else 1 := by
  by_cases c : x ∈ l
  · rw [if_pos c, Nat.add_zero]
    refine dc_same fun y => ?_
    rw [List.mem_append, List.mem_singleton]
    exact ⟨fun h => h.elim id fun e => by rw [e]; exact c, .inl⟩
  · rw [if_neg c, dc_same (m := x :: l) (fun y => by rw [List.mem_append, List.mem_singleton, List.mem_cons]; exact Or.comm), dc_cons]
    rw [filter_out c]
    omega
/-- q becomes p -/
def mrg (p q z : Nat) : Nat := if z = q then p else z
theorem dc_mrg {l : List Nat} {p q : Nat} (hp : p ∈ l) (hq : q ∈ l) (hne : p ≠ q) : dc (l.map (mrg p q)) + 1 = dc l := by
  rw [dc_take l.length l (Nat.le_refl _) hq, dc_same (l := l.map (mrg p q)) (m := l.filter fun y => decide (y ≠ q))]
  · omega
  · intro y
    rw [List.mem_map, List.mem_filter]
    constructor
    · rintro ⟨z, hz, rfl⟩
      unfold mrg
      by_cases c : z = q
      · rw [if_pos c]; exact ⟨hp, by simpa using hne⟩
      · rw [if_neg c]; exact ⟨hz, by simpa using c⟩
    · rintro ⟨h1, h2⟩
      exact ⟨y, h1, by unfold mrg; rw [if_neg (by simpa using h2)]⟩
theorem dc_one {l : List Nat} {x : Nat} (h0 : x ∈ l) (h : ∀ y ∈ l, y = x) : dc l = 1 := by
  rw [dc_take l.length l (Nat.le_refl _) h0]
  have : l.filter (fun y => decide (y ≠ x)) = [] := by
    rw [List.filter_eq_nil_iff]
    intro y hy
    simp [h y hy]
  rw [this]
  simp [dc]
/-! ties: size, one end, other end -/
abbrev Tie := Nat × Nat × Nat
/-- labels behind a tie -/
def joinL (g : List Nat) (e : Tie) : List Nat := if g.getD e.2.1 0 ≠ g.getD e.2.2 0 then g.map (mrg (g.getD e.2.1 0) (g.getD e.2.2 0)) else g
def joinAll (g : List Nat) (es : List Tie) : List Nat := es.foldl joinL g
/-- the sizes taken -/
def tookL : List Nat → List Tie → List Nat
  | _, [] => []
  | g, e :: es => (if g.getD e.2.1 0 ≠ g.getD e.2.2 0 then [e.1] else []) ++ tookL (joinL g e) es
theorem joinL_len (g : List Nat) (e : Tie) : (joinL g e).length = g.length := by
  unfold joinL
  split <;> simp
theorem joinAll_len : ∀ (es : List Tie) (g : List Nat), (joinAll g es).length = g.length
  | [], _ => rfl
  | e :: es, g => by
    unfold joinAll
    rw [List.foldl_cons]
    exact (joinAll_len es _).trans (joinL_len g e)
theorem getD_mem {g : List Nat} {i : Nat} (h : i < g.length) : g.getD i 0 ∈ g := by
  rw [List.getD_eq_getElem?_getD, List.getElem?_eq_getElem h]
  exact List.getElem_mem h
theorem getD_map {g : List Nat} {i : Nat} {f : Nat → Nat} (h : i < g.length) : (g.map f).getD i 0 = f (g.getD i 0) := by
  rw [List.getD_eq_getElem?_getD, List.getD_eq_getElem?_getD, List.getElem?_map, List.getElem?_eq_getElem h]
  rfl
theorem took_count : ∀ (es : List Tie) (g : List Nat), (∀ e ∈ es, e.2.1 < g.length ∧ e.2.2 < g.length) → (tookL g es).length + dc (joinAll g es) = dc g
  | [], g, _ => by simp [tookL, joinAll]
  | e :: es, g, h => by
    have he := h e List.mem_cons_self
    have ih := took_count es (joinL g e) fun e' he' => by rw [joinL_len]; exact h e' (List.mem_cons_of_mem _ he')
    have hj : joinAll g (e :: es) = joinAll (joinL g e) es := rfl
    rw [hj]
    simp only [tookL, List.length_append]
    have : (if g.getD e.2.1 0 ≠ g.getD e.2.2 0 then [e.1] else []).length + dc (joinL g e) = dc g := by
      unfold joinL
      split
      · rename_i c
        have := dc_mrg (getD_mem he.1) (getD_mem he.2) c
        simp only [List.length_cons, List.length_nil]
        omega
      · simp
    omega
theorem took_app : ∀ (es fs : List Tie) (g : List Nat), tookL g (es ++ fs) = tookL g es ++ tookL (joinAll g es) fs
  | [], fs, g => rfl
  | e :: es, fs, g => by
    rw [List.cons_append]
    simp only [tookL]
    rw [took_app es fs, List.append_assoc]
    rfl
theorem joinAll_app (g : List Nat) (es fs : List Tie) : joinAll g (es ++ fs) = joinAll (joinAll g es) fs := List.foldl_append
theorem took_mem : ∀ (es : List Tie) (g : List Nat), ∀ s ∈ tookL g es, ∃ e ∈ es, s = e.1
  | [], _, s, h => nomatch h
  | e :: es, g, s, h => by
    simp only [tookL] at h
    rcases List.mem_append.mp h with h | h
    · split at h
      · rw [List.mem_singleton.mp h]; exact ⟨e, List.mem_cons_self, rfl⟩
      · cases h
    · obtain ⟨e', he', z⟩ := took_mem es _ s h
      exact ⟨e', List.mem_cons_of_mem _ he', z⟩
/-- alike stays alike -/
theorem joinL_keeps {g : List Nat} {e : Tie} {i j : Nat} (hi : i < g.length) (hj : j < g.length) (h : g.getD i 0 = g.getD j 0) : (joinL g e).getD i 0 = (joinL g e).getD j 0 := by
  unfold joinL
  split
  · rw [getD_map hi, getD_map hj, h]
  · exact h
theorem joinAll_keeps : ∀ (es : List Tie) {g : List Nat} {i j : Nat}, i < g.length → j < g.length → g.getD i 0 = g.getD j 0 → (joinAll g es).getD i 0 = (joinAll g es).getD j 0
  | [], _, _, _, _, _, h => h
  | e :: es, g, i, j, hi, hj, h => joinAll_keeps es (g := joinL g e) (by rw [joinL_len]; exact hi) (by rw [joinL_len]; exact hj) (joinL_keeps hi hj h)
theorem joinL_ends {g : List Nat} {e : Tie} (h : e.2.1 < g.length ∧ e.2.2 < g.length) : (joinL g e).getD e.2.1 0 = (joinL g e).getD e.2.2 0 := by
  unfold joinL
  split
  · rename_i c
    rw [getD_map h.1, getD_map h.2]
    unfold mrg
    rw [if_neg c, if_pos rfl]
  · rename_i c
    exact Decidable.not_not.mp c
theorem joinAll_ends : ∀ (es : List Tie) {g : List Nat}, (∀ e ∈ es, e.2.1 < g.length ∧ e.2.2 < g.length) → ∀ e ∈ es, (joinAll g es).getD e.2.1 0 = (joinAll g es).getD e.2.2 0
  | [], _, _, e, h => nomatch h
  | a :: es, g, hb, e, h => by
    have ha := hb a List.mem_cons_self
    rcases List.mem_cons.mp h with rfl | h
    · exact joinAll_keeps es (g := joinL g e) (by rw [joinL_len]; exact ha.1) (by rw [joinL_len]; exact ha.2) (joinL_ends ha)
    · exact joinAll_ends es (g := joinL g a) (fun e' he' => by rw [joinL_len]; exact hb e' (List.mem_cons_of_mem _ he')) e h
/-- alike lies on one side of any set that no tie leaves -/
theorem joinAll_side (C : Nat → Prop) : ∀ (es : List Tie) {g : List Nat}, (∀ e ∈ es, e.2.1 < g.length ∧ e.2.2 < g.length) → (∀ e ∈ es, (C e.2.1 ↔ C e.2.2)) → (∀ i j, i < g.length → j < g.length → g.getD i 0 = g.getD j 0 → (C i ↔ C j)) →
    ∀ i j, i < g.length → j < g.length → (joinAll g es).getD i 0 = (joinAll g es).getD j 0 → (C i ↔ C j)
  | [], _, _, _, h => h
  | a :: es, g, hb, hc, h => by
    have ha := hb a List.mem_cons_self
    have hca := hc a List.mem_cons_self
    intro i j hi hj hij
    refine joinAll_side C es (g := joinL g a) (fun e' he' => by rw [joinL_len]; exact hb e' (List.mem_cons_of_mem _ he')) (fun e' he' => hc e' (List.mem_cons_of_mem _ he')) (fun i j hi hj hij => ?_) i j (by rw [joinL_len]; exact hi) (by rw [joinL_len]; exact hj) hij
    rw [joinL_len] at hi hj
    unfold joinL at hij
    split at hij
    · rename_i c
      rw [getD_map hi, getD_map hj] at hij
      unfold mrg at hij
      by_cases c1 : g.getD i 0 = g.getD a.2.2 0
      · by_cases c2 : g.getD j 0 = g.getD a.2.2 0
        · exact h i j hi hj (c1.trans c2.symm)
        · rw [if_pos c1, if_neg c2] at hij
          exact ((h i _ hi ha.2 c1).trans hca.symm).trans (h _ j ha.1 hj hij)
      · by_cases c2 : g.getD j 0 = g.getD a.2.2 0
        · rw [if_neg c1, if_pos c2] at hij
          exact ((h i _ hi ha.1 hij).trans hca).trans (h _ j ha.2 hj c2.symm)
        · rw [if_neg c1, if_neg c2] at hij
          exact h i j hi hj hij
    · exact h i j hi hj hij
/-! sums by thresholds -/
theorem sum_over (T : Nat) : ∀ l : List Nat, (∀ x ∈ l, x ≤ T) → l.sum = ((List.range T).map fun t => (l.filter fun x => decide (t < x)).length).sum
  | [], _ => by
    have : ∀ n, ((List.range n).map fun _ => ([] : List Nat).length).sum = 0 := fun n => by
      induction n with
      | zero => rfl
      | succ n ih => rw [List.range_succ, List.map_append, List.sum_append, ih]; rfl
    exact (this T).symm
  | x :: l, h => by
    have ih := sum_over T l fun y hy => h y (List.mem_cons_of_mem _ hy)
    have hx := h x List.mem_cons_self
    have key : ∀ n, ((List.range n).map fun t => ((x :: l).filter fun x => decide (t < x)).length).sum = min n x + ((List.range n).map fun t => (l.filter fun x => decide (t < x)).length).sum := fun n => by
      induction n with
      | zero => simp
      | succ n ihn =>
        rw [List.range_succ, List.map_append, List.sum_append, ihn, List.map_append, List.sum_append]
        simp only [List.map_cons, List.map_nil, List.sum_cons, List.sum_nil, List.filter_cons]
        by_cases c : n < x
        · simp only [decide_eq_true c, if_true, List.length_cons]
          omega
        · simp only [decide_eq_false c, Bool.false_eq_true, if_false]
          omega
    rw [key T, List.sum_cons, ih]
    omega
theorem le_sum : ∀ (l : List Nat) (x : Nat), x ∈ l → x ≤ l.sum
  | y :: l, x, h => by
    rw [List.sum_cons]
    rcases List.mem_cons.mp h with rfl | h
    · omega
    · have := le_sum l x h
      omega
theorem sum_eq {l m : List Nat} (h : ∀ t, (l.filter fun x => decide (t < x)).length = (m.filter fun x => decide (t < x)).length) : l.sum = m.sum := by
  have h1 := sum_over (l.sum + m.sum) l fun x hx => by have := le_sum l x hx; omega
  have h2 := sum_over (l.sum + m.sum) m fun x hx => by have := le_sum m x hx; omega
  refine (h1.trans ?_).trans h2.symm
  congr 1
  exact List.map_congr_left fun t _ => h t
end Nk
namespace Nk
theorem sorted_split (t : Nat) : ∀ (es : List Tie), es.Pairwise (fun a b => a.1 ≤ b.1) → es = es.filter (fun e => decide (e.1 ≤ t)) ++ es.filter (fun e => decide (t < e.1))
  | [], _ => rfl
  | e :: es, h => by
    obtain ⟨h1, h2⟩ := List.pairwise_cons.mp h
    have ih := sorted_split t es h2
    rw [List.filter_cons, List.filter_cons]
    by_cases c : e.1 ≤ t
    · rw [if_pos (decide_eq_true c), if_neg (by simpa using c), List.cons_append, ← ih]
    · have n1 : es.filter (fun e => decide (e.1 ≤ t)) = [] := List.filter_eq_nil_iff.mpr fun a ha => by
        have := h1 a ha
        simp only [decide_eq_true_eq]
        omega
      rw [if_neg (by simpa using c), if_pos (decide_eq_true (by omega)), n1, List.nil_append]
      rw [n1, List.nil_append] at ih
      rw [← ih]
/-- the ties of a full net with n as its root -/
structure Net (wt : Nat → Nat → Nat) (n : Nat) (es : List Tie) : Prop where
  sym : ∀ i j, wt i j = wt j i
  ends : ∀ e ∈ es, e.2.1 < n + 1 ∧ e.2.2 < n + 1 ∧ e.1 = wt e.2.1 e.2.2
  all : ∀ i j, i < j → j ≤ n → (wt i j, i, j) ∈ es
  srt : es.Pairwise fun a b => a.1 ≤ b.1
/-- the nearest first -/
inductive Prim (wt : Nat → Nat → Nat) (n : Nat) : List Nat → List Nat → Prop
  | start : Prim wt n [n] []
  | next {ord ss : List Nat} {v s : Nat} (h : Prim wt n ord ss) (hv : v < n) (hn : ¬ v ∈ ord) (hu : ∃ u ∈ ord, wt u v = s) (hm : ∀ x, x < n → ¬ x ∈ ord → ∀ u ∈ ord, s ≤ wt u x) : Prim wt n (ord ++ [v]) (ss ++ [s])
theorem Prim.root {wt : Nat → Nat → Nat} {n : Nat} {ord ss : List Nat} (h : Prim wt n ord ss) : n ∈ ord ∧ ∀ x ∈ ord, x ≤ n := by
  induction h with
  | start => exact ⟨List.mem_singleton.mpr rfl, fun x hx => by rw [List.mem_singleton.mp hx]; omega⟩
  | next h hv hn hu hm ih =>
    refine ⟨List.mem_append.mpr (.inl ih.1), fun x hx => ?_⟩
    rcases List.mem_append.mp hx with hx | hx
    · exact ih.2 x hx
    · rw [List.mem_singleton.mp hx]; omega
def labT (n t : Nat) (es : List Tie) : List Nat := joinAll (List.range (n + 1)) (es.filter fun e => decide (e.1 ≤ t))
theorem labT_len (n t : Nat) (es : List Tie) : (labT n t es).length = n + 1 := by
  unfold labT
  rw [joinAll_len, List.length_range]
theorem range_getD {n i : Nat} (h : i < n) : (List.range n).getD i 0 = i := by
  rw [List.getD_eq_getElem?_getD, List.getElem?_range h]
  rfl
theorem prim_count {wt : Nat → Nat → Nat} {n : Nat} {es : List Tie} (N : Net wt n es) (t : Nat) {ord ss : List Nat} (h : Prim wt n ord ss) : (ss.filter fun x => decide (t < x)).length + 1 = dc (ord.map fun v => (labT n t es).getD v 0) := by
  induction h with
  | start => simp [dc]
  | @next ord ss v s h hv hn hu hm ih =>
    have hr := h.root
    have hlt : ∀ e ∈ es.filter (fun e => decide (e.1 ≤ t)), e.2.1 < (List.range (n + 1)).length ∧ e.2.2 < (List.range (n + 1)).length := fun e he => by
      rw [List.length_range]
      have := N.ends e (List.mem_filter.mp he).1
      exact ⟨this.1, this.2.1⟩
    rw [List.map_append, List.map_cons, List.map_nil, dc_snoc, ← ih, List.filter_append, List.length_append]
    have key : ((labT n t es).getD v 0 ∈ ord.map fun v => (labT n t es).getD v 0) ↔ ¬ t < s := by
      constructor
      · intro hm1 hts
        obtain ⟨u, hu1, hu2⟩ := List.mem_map.mp hm1
        have := (joinAll_side (· ∈ ord) (es.filter fun e => decide (e.1 ≤ t)) hlt (fun e he => ?_) (fun i j hi hj hij => ?_) u v (by rw [List.length_range]; have := hr.2 u hu1; omega) (by rw [List.length_range]; omega) hu2).mp hu1
        · exact hn this
        · obtain ⟨h1, h2⟩ := List.mem_filter.mp he
          have h2 : e.1 ≤ t := of_decide_eq_true h2
          obtain ⟨a1, a2, a3⟩ := N.ends e h1
          constructor
          · intro hc
            refine Decidable.byContradiction fun hc2 => ?_
            have hx : e.2.2 ≠ n := fun z => hc2 (z ▸ hr.1)
            have := hm e.2.2 (by omega) hc2 e.2.1 hc
            omega
          · intro hc
            refine Decidable.byContradiction fun hc2 => ?_
            have hx : e.2.1 ≠ n := fun z => hc2 (z ▸ hr.1)
            have := hm e.2.1 (by omega) hc2 e.2.2 hc
            rw [N.sym] at this
            omega
        · rw [List.length_range] at hi hj
          rw [range_getD hi, range_getD hj] at hij
          rw [hij]
      · intro hts
        obtain ⟨u, hu1, hu2⟩ := hu
        refine List.mem_map.mpr ⟨u, hu1, ?_⟩
        have hun : u ≠ v := fun z => hn (z ▸ hu1)
        have hul := hr.2 u hu1
        by_cases c : u < v
        · exact joinAll_ends (es.filter fun e => decide (e.1 ≤ t)) hlt (wt u v, u, v) (List.mem_filter.mpr ⟨N.all u v c (by omega), decide_eq_true (by show wt u v ≤ t; omega)⟩)
        · exact (joinAll_ends (es.filter fun e => decide (e.1 ≤ t)) hlt (wt v u, v, u) (List.mem_filter.mpr ⟨N.all v u (by omega) hul, decide_eq_true (by show wt v u ≤ t; rw [N.sym]; omega)⟩)).symm
    by_cases c : t < s
    · rw [if_neg (fun z => (key.mp z) c), List.filter_cons, if_pos (decide_eq_true c)]
      simp
    · rw [if_pos (key.mpr c), List.filter_cons, if_neg (by simpa using c)]
      simp
theorem mem_getD {g : List Nat} {x : Nat} : x ∈ g ↔ ∃ i, i < g.length ∧ g.getD i 0 = x := by
  constructor
  · intro h
    obtain ⟨i, hi, e⟩ := List.getElem_of_mem h
    exact ⟨i, hi, by rw [List.getD_eq_getElem?_getD, List.getElem?_eq_getElem hi]; exact e⟩
  · rintro ⟨i, hi, rfl⟩
    exact getD_mem hi
theorem prim_kruskal {wt : Nat → Nat → Nat} {n : Nat} {es : List Tie} (N : Net wt n es) {ord ss : List Nat} (h : Prim wt n ord ss) (hall : ∀ x, x < n → x ∈ ord) : ss.sum = (tookL (List.range (n + 1)) es).sum := by
  refine sum_eq fun t => ?_
  have h1 := prim_count N t h
  have hr := h.root
  have hd : dc (ord.map fun v => (labT n t es).getD v 0) = dc (labT n t es) := by
    refine dc_same fun x => ?_
    rw [mem_getD (g := labT n t es), labT_len]
    constructor
    · intro hx
      obtain ⟨v, hv, rfl⟩ := List.mem_map.mp hx
      exact ⟨v, by have := hr.2 v hv; omega, rfl⟩
    · rintro ⟨i, hi, rfl⟩
      refine List.mem_map.mpr ⟨i, ?_, rfl⟩
      by_cases c : i = n
      · rw [c]; exact hr.1
      · exact hall i (by omega)
  rw [hd] at h1
  have hsp := sorted_split t es N.srt
  have hends : ∀ e ∈ es, e.2.1 < (List.range (n + 1)).length ∧ e.2.2 < (List.range (n + 1)).length := fun e he => by
    rw [List.length_range]
    have := N.ends e he
    exact ⟨this.1, this.2.1⟩
  have hfin : dc (joinAll (List.range (n + 1)) es) = 1 := by
    refine dc_one (x := (joinAll (List.range (n + 1)) es).getD n 0) (getD_mem (by rw [joinAll_len, List.length_range]; omega)) fun y hy => ?_
    obtain ⟨i, hi, rfl⟩ := mem_getD.mp hy
    rw [joinAll_len, List.length_range] at hi
    by_cases c : i = n
    · rw [c]
    · exact joinAll_ends es hends (wt i n, i, n) (N.all i n (by omega) (Nat.le_refl _))
  have hcnt := took_count (es.filter fun e => decide (t < e.1)) (labT n t es) fun e he => by
    rw [labT_len]
    have := N.ends e (List.mem_filter.mp he).1
    exact ⟨this.1, this.2.1⟩
  have hj : joinAll (labT n t es) (es.filter fun e => decide (t < e.1)) = joinAll (List.range (n + 1)) es := by
    unfold labT
    rw [← joinAll_app, ← hsp]
  rw [hj, hfin] at hcnt
  have htk : (tookL (List.range (n + 1)) es).filter (fun x => decide (t < x)) = tookL (labT n t es) (es.filter fun e => decide (t < e.1)) := by
    have h0 : tookL (List.range (n + 1)) es = tookL (List.range (n + 1)) (es.filter fun e => decide (e.1 ≤ t)) ++ tookL (labT n t es) (es.filter fun e => decide (t < e.1)) := by
      have := took_app (es.filter fun e => decide (e.1 ≤ t)) (es.filter fun e => decide (t < e.1)) (List.range (n + 1))
      rw [← hsp] at this
      exact this
    rw [h0, List.filter_append]
    have n1 : (tookL (List.range (n + 1)) (es.filter fun e => decide (e.1 ≤ t))).filter (fun x => decide (t < x)) = [] := List.filter_eq_nil_iff.mpr fun x hx => by
      obtain ⟨e, he, rfl⟩ := took_mem _ _ x hx
      have := of_decide_eq_true (List.mem_filter.mp he).2
      simp only [decide_eq_true_eq]
      omega
    have n2 : (tookL (labT n t es) (es.filter fun e => decide (t < e.1))).filter (fun x => decide (t < x)) = tookL (labT n t es) (es.filter fun e => decide (t < e.1)) := List.filter_eq_self.mpr fun x hx => by
      obtain ⟨e, he, rfl⟩ := took_mem _ _ x hx
      exact (List.mem_filter.mp he).2
    rw [n1, n2, List.nil_append]
  rw [htk]
  omega
end Nk
/-! ### what is sent, in its order -/
namespace Nk
open PySem
abbrev Pl := List (Int × Tb)
def dist (a b : Tb) : Nat := (part a b).length
theorem dist_sym (a b : Tb) : dist a b = dist b a := by unfold dist; rw [part_len, part_len, diffN_swap]
def bbStep (t : Tb) (acc : Nat × Option Int) (p : Int × Tb) : Nat × Option Int := if dist p.2 t < acc.1 then (dist p.2 t, some p.1) else acc
def bestB (t : Tb) (ps : Pl) : Nat × Option Int := ps.foldl (bbStep t) (t.length, none)
theorem bb_from (t : Tb) : ∀ (ps : Pl) (acc : Nat × Option Int), (ps.foldl (bbStep t) acc).1 ≤ acc.1 ∧ (∀ p ∈ ps, (ps.foldl (bbStep t) acc).1 ≤ dist p.2 t) ∧ (ps.foldl (bbStep t) acc = acc ∨ ∃ p ∈ ps, ps.foldl (bbStep t) acc = (dist p.2 t, some p.1))
  | [], acc => ⟨Nat.le_refl _, (fun _ h => nomatch h), .inl rfl⟩
  | p :: ps, acc => by
    obtain ⟨h1, h2, h3⟩ := bb_from t ps (bbStep t acc p)
    rw [List.foldl_cons]
    have hb : (bbStep t acc p).1 ≤ acc.1 ∧ (bbStep t acc p).1 ≤ dist p.2 t := by
      unfold bbStep
      split
      · exact ⟨by simp only; omega, Nat.le_refl _⟩
      · exact ⟨Nat.le_refl _, by omega⟩
    refine ⟨by omega, fun q hq => ?_, ?_⟩
    · rcases List.mem_cons.mp hq with rfl | hq
      · omega
      · exact h2 q hq
    · rcases h3 with h3 | ⟨q, hq, h3⟩
      · rw [h3]
        unfold bbStep
        split
        · exact .inr ⟨p, List.mem_cons_self, rfl⟩
        · exact .inl rfl
      · exact .inr ⟨q, List.mem_cons_of_mem _ hq, h3⟩
theorem bb_spec (t : Tb) (ps : Pl) : (bestB t ps).1 ≤ t.length ∧ (∀ p ∈ ps, (bestB t ps).1 ≤ dist p.2 t) ∧ (bestB t ps = (t.length, none) ∨ ∃ p ∈ ps, bestB t ps = (dist p.2 t, some p.1)) := bb_from t ps _
theorem bb_next (t : Tb) {ps : Pl} {i : Nat} {p : Int × Tb} (h : ps[i]? = some p) : (ps.take (i + 1)).foldl (bbStep t) (t.length, none) = bbStep t ((ps.take i).foldl (bbStep t) (t.length, none)) p := by
  rw [List.take_add_one, h]
  show List.foldl _ _ (ps.take i ++ [p]) = _
  rw [List.foldl_append]
  rfl
abbrev Sent := Int × Option Int × Nat
inductive SendS (l0 its : Pl) : Pl → Pl → List Sent → Prop
  | start : SendS l0 its l0 its []
  | next {left hv : Pl} {rs : List Sent} {at_ : Nat} {p : Int × Tb} (h : SendS l0 its left hv rs) (hp : left[at_]? = some p) (hm : ∀ q ∈ left, (bestB p.2 hv).1 ≤ (bestB q.2 hv).1) :
      SendS l0 its (left.eraseIdx at_) (hv ++ [p]) (rs ++ [(p.1, (bestB p.2 hv).2, (bestB p.2 hv).1)])
def gP (l0 : Pl) (v : Nat) : Int × Tb := l0.getD v (0, [])
def wtS (l0 its : Pl) (i j : Nat) : Nat := if i = l0.length then (bestB (gP l0 j).2 its).1 else if j = l0.length then (bestB (gP l0 i).2 its).1 else dist (gP l0 i).2 (gP l0 j).2
theorem wtS_sym {l0 its : Pl} (i j : Nat) : wtS l0 its i j = wtS l0 its j i := by
  unfold wtS
  by_cases c1 : i = l0.length
  · by_cases c2 : j = l0.length
    · rw [if_pos c1, if_pos c2, c1, c2]
    · rw [if_pos c1, if_neg c2, if_pos c1]
  · by_cases c2 : j = l0.length
    · rw [if_neg c1, if_pos c2, if_pos c2]
    · rw [if_neg c1, if_neg c2, if_neg c2, if_neg c1, dist_sym]
theorem wtS_root {l0 its : Pl} (v : Nat) : wtS l0 its l0.length v = (bestB (gP l0 v).2 its).1 := if_pos rfl
theorem wtS_two {l0 its : Pl} {u v : Nat} (hu : u ≠ l0.length) (hv : v ≠ l0.length) : wtS l0 its u v = dist (gP l0 u).2 (gP l0 v).2 := by
  unfold wtS
  rw [if_neg hu, if_neg hv]
structure SendI (l0 its left hv : Pl) (rs : List Sent) (cs lf : List Nat) : Prop where
  left_ : left = lf.map (gP l0)
  hv_ : hv = its ++ cs.map (gP l0)
  prim : Prim (wtS l0 its) l0.length (l0.length :: cs) (rs.map fun r => r.2.2)
  perm : (cs ++ lf).Perm (List.range l0.length)
  len : rs.length = cs.length
  each : ∀ (i v : Nat), cs[i]? = some v → rs[i]? = some ((gP l0 v).1, (bestB (gP l0 v).2 (its ++ (cs.take i).map (gP l0))).2, (bestB (gP l0 v).2 (its ++ (cs.take i).map (gP l0))).1)
theorem eraseIdx_map' {α β : Type} (f : α → β) : ∀ (l : List α) (i : Nat), (l.map f).eraseIdx i = (l.eraseIdx i).map f
  | [], _ => rfl
  | a :: l, 0 => rfl
  | a :: l, i + 1 => by
    rw [List.map_cons, List.eraseIdx_cons_succ, List.eraseIdx_cons_succ, List.map_cons, eraseIdx_map' f l i]
theorem perm_erase {l : List Nat} : ∀ {i : Nat} {v : Nat}, l[i]? = some v → l.Perm (v :: l.eraseIdx i) := by
  induction l with
  | nil => intro i v h; simp at h
  | cons a l ih =>
    intro i v h
    cases i with
    | zero => cases h; exact List.Perm.refl _
    | succ i =>
      rw [List.eraseIdx_cons_succ]
      exact ((ih (i := i) (v := v) (by simpa using h)).cons a).trans (List.Perm.swap v a _)
theorem gP_mem {l0 : Pl} {v : Nat} (h : v < l0.length) : gP l0 v ∈ l0 := by
  unfold gP
  rw [List.getD_eq_getElem?_getD, List.getElem?_eq_getElem h]
  exact List.getElem_mem h
theorem send_inv {l0 its left hv : Pl} {rs : List Sent} (h : SendS l0 its left hv rs) : ∃ cs lf, SendI l0 its left hv rs cs lf := by
  induction h with
  | start =>
    refine ⟨[], List.range l0.length, ?_, by simp, .start, by simp, rfl, fun i v h => by simp at h⟩
    refine List.ext_getElem (by simp) fun i h1 h2 => ?_
    simp [gP, List.getD_eq_getElem?_getD, List.getElem?_eq_getElem h1]
  | @next left hv rs at_ p h hp hm ih =>
    obtain ⟨cs, lf, J⟩ := ih
    rw [J.left_, List.getElem?_map] at hp
    cases ev : lf[at_]? with
    | none => rw [ev] at hp; cases hp
    | some v =>
      rw [ev] at hp
      have hp : gP l0 v = p := Option.some.inj hp
      subst hp
      have hnd : (cs ++ lf).Nodup := J.perm.nodup_iff.mpr List.nodup_range
      have hvlf : v ∈ lf := List.mem_of_getElem? ev
      have hvn : v < l0.length := List.mem_range.mp (J.perm.mem_iff.mp (List.mem_append.mpr (.inr hvlf)))
      have hvcs : ¬ v ∈ cs := fun z => (List.nodup_append.mp hnd).2.2 v z v hvlf rfl
      have hle : ∀ t : Tb, (bestB t hv).1 ≤ (bestB t its).1 := fun t => by
        obtain ⟨a1, a2, _⟩ := bb_spec t hv
        obtain ⟨_, _, b3⟩ := bb_spec t its
        rcases b3 with b3 | ⟨q, hq, b3⟩
        · rw [b3]; exact a1
        · rw [b3]; exact a2 q (by rw [J.hv_]; exact List.mem_append.mpr (.inl hq))
      have hcs : ∀ u ∈ cs, u < l0.length := fun u hu => List.mem_range.mp (J.perm.mem_iff.mp (List.mem_append.mpr (.inl hu)))
      have hwt : ∀ u ∈ l0.length :: cs, ∀ x, x < l0.length → (bestB (gP l0 x).2 hv).1 ≤ wtS l0 its u x := fun u hu x hx => by
        rcases List.mem_cons.mp hu with rfl | hu
        · rw [wtS_root]; exact hle _
        · rw [wtS_two (by have := hcs u hu; omega) (by omega)]
          exact (bb_spec (gP l0 x).2 hv).2.1 (gP l0 u) (by rw [J.hv_]; exact List.mem_append.mpr (.inr (List.mem_map.mpr ⟨u, hu, rfl⟩)))
      refine ⟨cs ++ [v], lf.eraseIdx at_, by rw [J.left_, eraseIdx_map'], by rw [J.hv_, List.map_append, List.append_assoc]; rfl, ?_, ?_, by simp [J.len], fun i w hw => ?_⟩
      · rw [List.map_append]
        refine Prim.next (ord := l0.length :: cs) J.prim hvn (fun z => ?_) ?_ (fun x hx hxn u hu => ?_)
        · rcases List.mem_cons.mp z with z | z
          · omega
          · exact hvcs z
        · show ∃ u ∈ l0.length :: cs, wtS l0 its u v = (bestB (gP l0 v).2 hv).1
          have h0 := hwt l0.length List.mem_cons_self v hvn
          rw [wtS_root] at h0
          obtain ⟨a1, a2, a3⟩ := bb_spec (gP l0 v).2 hv
          obtain ⟨b1, b2, b3⟩ := bb_spec (gP l0 v).2 its
          rcases a3 with a3 | ⟨q, hq, a3⟩
          · refine ⟨l0.length, List.mem_cons_self, ?_⟩
            rw [wtS_root]
            rw [a3] at h0 ⊢
            show _ = (gP l0 v).2.length
            have h0' : (gP l0 v).2.length ≤ (bestB (gP l0 v).2 its).1 := h0
            omega
          · rw [J.hv_] at hq
            rcases List.mem_append.mp hq with hq | hq
            · refine ⟨l0.length, List.mem_cons_self, ?_⟩
              rw [wtS_root]
              have := b2 q hq
              rw [a3] at h0 ⊢
              show _ = dist q.2 (gP l0 v).2
              have h0' : dist q.2 (gP l0 v).2 ≤ (bestB (gP l0 v).2 its).1 := h0
              omega
            · obtain ⟨u, hu, rfl⟩ := List.mem_map.mp hq
              refine ⟨u, List.mem_cons_of_mem _ hu, ?_⟩
              rw [wtS_two (by have := hcs u hu; omega) (by omega), a3]
        · have hxlf : x ∈ lf := by
            have := J.perm.mem_iff.mpr (List.mem_range.mpr hx)
            rcases List.mem_append.mp this with z | z
            · exact absurd (List.mem_cons_of_mem _ z) hxn
            · exact z
          have h1 := hm (gP l0 x) (by rw [J.left_]; exact List.mem_map.mpr ⟨x, hxlf, rfl⟩)
          exact Nat.le_trans h1 (hwt u hu x hx)
      · have h1 := perm_erase ev
        refine List.Perm.trans ?_ J.perm
        rw [List.append_assoc]
        exact (h1.symm.append_left cs)
      · by_cases c : i < cs.length
        · rw [List.getElem?_append_left c] at hw
          have h1 := J.each i w hw
          rw [List.getElem?_append_left (by rw [J.len]; exact c), h1, List.take_append_of_le_length (by omega)]
        · rw [List.getElem?_append_right (by omega)] at hw
          have hi : i = cs.length := by
            cases hk : i - cs.length with
            | zero => omega
            | succ k => rw [hk] at hw; simp at hw
          subst hi
          rw [Nat.sub_self] at hw
          have hw : v = w := Option.some.inj hw
          subst hw
          rw [List.getElem?_append_right (by rw [J.len]; omega), J.len, Nat.sub_self, List.take_left, ← J.hv_]
          rfl
end Nk
namespace Nk
open PySem
/-- the law's ties, unsorted -/
def tiesK (l0 its : Pl) (k : Nat) : List Tie := (wtS l0 its l0.length k, k, l0.length) :: (List.range k).map fun j => (wtS l0 its j k, j, k)
def tiesF (l0 its : Pl) (m : Nat) : List Tie := (List.range m).flatMap (tiesK l0 its)
theorem tiesF_next (l0 its : Pl) (m : Nat) : tiesF l0 its (m + 1) = tiesF l0 its m ++ tiesK l0 its m := by
  unfold tiesF
  rw [List.range_succ, List.flatMap_append]
  simp
theorem ties_net {l0 its : Pl} {es : List Tie} (hp : es.Perm (tiesF l0 its l0.length)) (hs : es.Pairwise fun a b => a.1 ≤ b.1) : Net (wtS l0 its) l0.length es := by
  refine ⟨fun i j => wtS_sym i j, fun e he => ?_, fun i j hij hj => ?_, hs⟩
  · obtain ⟨k, hk, he⟩ := List.mem_flatMap.mp (hp.mem_iff.mp he)
    have hk := List.mem_range.mp hk
    rcases List.mem_cons.mp he with rfl | he
    · exact ⟨by show k < _; omega, by show l0.length < _; omega, wtS_sym _ _⟩
    · obtain ⟨j, hj, rfl⟩ := List.mem_map.mp he
      have hj := List.mem_range.mp hj
      exact ⟨by show j < _; omega, by show k < _; omega, rfl⟩
  · refine hp.mem_iff.mpr ?_
    by_cases c : j = l0.length
    · subst c
      refine List.mem_flatMap.mpr ⟨i, List.mem_range.mpr hij, ?_⟩
      rw [wtS_sym]
      exact List.mem_cons_self
    · refine List.mem_flatMap.mpr ⟨j, List.mem_range.mpr (by omega), List.mem_cons_of_mem _ (List.mem_map.mpr ⟨i, List.mem_range.mpr hij, rfl⟩)⟩
theorem tiesF_len (l0 its : Pl) : ∀ m, 2 * (tiesF l0 its m).length = m * (m + 1)
  | 0 => rfl
  | m + 1 => by
    have ih := tiesF_len l0 its m
    rw [tiesF_next, List.length_append]
    have : (tiesK l0 its m).length = m + 1 := by simp [tiesK]
    have e2 : (m + 1) * (m + 1 + 1) = m * (m + 1) + 2 * (m + 1) := by rw [Nat.add_mul, Nat.mul_add m (m + 1) 1, Nat.one_mul]; omega
    rw [this, Nat.mul_add, ih, e2]
/-- one tie more -/
theorem took_next {g : List Nat} {es : List Tie} {i : Nat} {e : Tie} (h : es[i]? = some e) : tookL g (es.take (i + 1)) = tookL g (es.take i) ++ (if (joinAll g (es.take i)).getD e.2.1 0 ≠ (joinAll g (es.take i)).getD e.2.2 0 then [e.1] else []) ∧ joinAll g (es.take (i + 1)) = joinL (joinAll g (es.take i)) e := by
  rw [List.take_add_one, h]
  constructor
  · show tookL g (es.take i ++ [e]) = _
    rw [took_app]
    simp [tookL]
  · show joinAll g (es.take i ++ [e]) = _
    rw [joinAll_app]
    rfl
end Nk
/-! ### plans: reads and room -/
namespace Nk
open PySem
def rdStep (acc : List Int) (w : Str) : List Int := acc ++ [if w = "whole" then 1 else if w = "part" then acc.getLast?.getD 0 + 1 else 2]
def readsW (ws : List Str) : List Int := ws.foldl rdStep []
theorem readsW_next {ws : List Str} {i : Nat} {w : Str} (h : ws[i]? = some w) : readsW (ws.take (i + 1)) = rdStep (readsW (ws.take i)) w := by
  unfold readsW
  rw [List.take_add_one, h]
  show List.foldl rdStep [] (ws.take i ++ [w]) = _
  rw [List.foldl_append]
  rfl
theorem rdStep_len (acc : List Int) (w : Str) : (rdStep acc w).length = acc.length + 1 := by simp [rdStep]
theorem readsW_len (ws : List Str) : (readsW ws).length = ws.length := by
  have : ∀ (ws : List Str) (acc : List Int), (ws.foldl rdStep acc).length = acc.length + ws.length := by
    intro ws
    induction ws with
    | nil => intro acc; rfl
    | cons w ws ih =>
      intro acc
      rw [List.foldl_cons, ih, rdStep_len, List.length_cons]
      omega
  have h := this ws []
  simpa [readsW] using h
def sizeW (ts : List Tb) (w : Str) (i base : Nat) : Nat := if w = "whole" then (ts.getD i []).length else (part (ts.getD (if w = "part" then i - 1 else base) []) (ts.getD i [])).length
def roomS (ts : List Tb) (ws : List Str) : Nat → Int × Nat
  | 0 => (0, 0)
  | i + 1 => ((roomS ts ws i).1 + sizeW ts (ws.getD i Str.empty) i (if ws.getD i Str.empty = "whole" then i else (roomS ts ws i).2), if ws.getD i Str.empty = "whole" then i else (roomS ts ws i).2)
theorem roomS_base (ts : List Tb) (ws : List Str) : ∀ i, (roomS ts ws i).2 ≤ i
  | 0 => Nat.le_refl _
  | i + 1 => by
    have := roomS_base ts ws i
    simp only [roomS]
    split <;> omega
abbrev planWords : List Str := ["whole", "part", "wide"]
/-- a good plan -/
structure GoodW (ws : List Str) : Prop where
  l1 : 1 ≤ ws.length
  l8 : ws.length ≤ 8
  wd : ∀ w ∈ ws, w ∈ planWords
  fst : ws[0]? = some ("whole" : Str)
end Nk
/-! ### the layer's short words for this program -/
namespace Nk
open PySem L2 PySem.Spec PyProof.Rows
/-- a def of the top keeps a promise: called by its name -/
structure Fk (P : Program) (w : World) (K : PySem.W.Frag) (mg : Str → Option Value) (base : Heap) (CX : CXT) (k : Nat) (x : Str) (ps : List Str) (sp : Sp) : Prop where
  ex : ∃ (f : Addr) (fd : FuncData), mg x = some (.ref f) ∧ PySem.W.keepIn K (.ref f) = true ∧ Binds K fd ps [] ∧ FnOk P w K mg base CX k f fd ps sp
/-- a def as it stands behind the top -/
structure Df (K : PySem.W.Frag) (mg : Str → Option Value) (x qual : Str) (st : Stmt) (ps : List Str) : Prop where
  ex : ∃ (f : Addr) (fd : FuncData), Fun K x qual st f fd ∧ mg x = some (.ref f) ∧ Binds K fd ps []
section
variable {X : Cx} {CX : CXT} {k : Nat} {ps : List Str} {sp : Sp} {x : Str} {p pos : Pos} {e : Expr} {es : List Expr} {t : TA} {E : XK}
theorem pe_fn (F : Fk X.prog X.w X.K X.mg X.base CX k x ps sp) (hr : Room k X.A) (hg : Gl X x) (hx : Passes CX X E) (ha : PA X (e :: es) t) (hdb : (x == ("__debug__" : Str)) = false := by decide)
    (he : starEach (e :: es) X.env = (false, eval e X.env) :: starEach es X.env := by rfl) (hpl : (backTo pos (starEach es X.env)).any (·.1) = false := by rfl) :
    PE X (.Call (.Name x p) (e :: es) [] pos) (tCall sp [] E t) := by
  obtain ⟨f, fd, g, kp, b, G⟩ := F.ex
  exact pe_call G hr hg g kp b .nil hx ha hdb he hpl
theorem passX {X : Cx} {E : XK} (tk : Takes X (fun cls d _ H => E cls d H)) : Passes (L2.CX X.prog X.w) X E := passes_call tk (fun _ _ _ _ h => h)
end
/-- an own exception class without own __init__, over RuntimeError -/
structure Xc (K : PySem.W.Frag) (mg : Str → Option Value) (x : Str) (C : Addr) : Prop where
  gP : mg x = some (.ref C)
  xP : PySem.W.excIn K C [.type "RuntimeError", .type "Exception", .type "BaseException", .type "object"] "RuntimeError.__new__" = true
  kP : PySem.W.keepIn K (.ref C) = true
  bP : PySem.W.subIn K (.ref C) (.type "BaseException") = some true
  tP : PySem.W.typeIn K (.ref C) = some (.type "type")
theorem Xc.rs {X : Cx} {x : Str} {C : Addr} (h : Xc X.K X.mg x C) : Raises X (.ref C) := raises_own h.bP h.tP
/-! sum of a tuple -/
def rSumT (K : PySem.W.Frag) : List V → Hp → VK → Prop := fun vs H Q => ∃ (a : Addr) (ns : List Int), vs = [V.ref a] ∧ SqT K H a (ns.map V.int) ∧ Q (.int ns.sum) H
theorem cr_sumT {X : Cx} (hc : X.calm = true) : CallR X (.builtin "sum") (rSumT X.K) := by
  intro pins s σ H vs us Q I r h
  obtain ⟨a, ns, rfl, hs, q⟩ := h
  obtain ⟨its, rv, hl, _⟩ := I.tuple hs
  rw [Vals.ref1 r]
  have hi : IntsAre its ns := rv.ints
  obtain ⟨xs, hx⟩ := hi.allInts.items
  have hn : numsOf its.toArray.toList = ns := by rw [show its.toArray.toList = its from rfl, hi.numsOf]
  rw [hx] at hl hn
  rw [nums_intItems] at hn
  refine PySem.W.ktm_sumG (I.ok.hd hc) hl fun h' tk t' hk => ?_
  rw [preSum_eq, List.take_of_length_le (by simp), hn]
  exact ⟨.int _, H, I.kept hk, ⟨_, rfl⟩, q⟩
/-! heaps -/
/-- all but t is as it was -/
def But (t : Addr) (H H' : Hp) : Prop := ∀ b o, H b = some o → b ≠ t → H' b = some o
theorem But.refl {t : Addr} {H : Hp} : But t H H := fun _ _ h _ => h
theorem But.trans {t : Addr} {H H1 H2 : Hp} (a : But t H H1) (b : But t H1 H2) : But t H H2 := fun c o h n => b c o (a c o h n) n
theorem But.of {t : Addr} {H H' : Hp} (s : Same H H') : But t H H' := fun b o h _ => s b o h
theorem But.thenS {t : Addr} {H H1 H2 : Hp} (a : But t H H1) (b : Same H1 H2) : But t H H2 := a.trans (.of b)
theorem Same.thenB {t : Addr} {H H1 H2 : Hp} (a : Same H H1) (b : But t H1 H2) : But t H H2 := (But.of a).trans b
theorem same_upd {H : Hp} {p : Addr} {o : HO} (h : H p = none) : Same H (upd H p o) := fun b x e => by
  rw [upd_ne (ne_of_none e h)]
  exact e
theorem But.upd {t : Addr} {H : Hp} {o : HO} : But t H (upd H t o) := fun b x e n => by
  rw [upd_ne n]
  exact e
theorem But.tup {K : PySem.W.Frag} {t a : Addr} {H H' : Hp} {xs : List V} {l : List V} (b : But t H H') (ht : H t = some (.lst l)) (h : SqT K H a xs) : SqT K H' a xs := by
  rcases h with (h | ⟨o, h⟩) | h
  · exact .inl (.inl (b _ _ h (ne_of h ht (by intro z; cases z))))
  · exact .inl (.inr ⟨o, b _ _ h (ne_of h ht (by intro z; cases z))⟩)
  · exact .inr h
theorem But.lst {K : PySem.W.Frag} {t a : Addr} {H H' : Hp} {xs : List V} (b : But t H H') (ha : a ≠ t) (h : SqL K H a xs) : SqL K H' a xs := by
  rcases h with (h | ⟨o, h⟩) | h
  · exact .inl (.inl (b _ _ h ha))
  · exact .inl (.inr ⟨o, b _ _ h ha⟩)
  · exact .inr h
theorem Same.tup {K : PySem.W.Frag} {a : Addr} {H H' : Hp} {xs : List V} (e : Same H H') (h : SqT K H a xs) : SqT K H' a xs := by
  rcases h with (h | ⟨o, h⟩) | h
  · exact .inl (.inl (e _ _ h))
  · exact .inl (.inr ⟨o, e _ _ h⟩)
  · exact .inr h
theorem sqL {K : PySem.W.Frag} {H : Hp} {a : Addr} {xs : List V} (h : H a = some (.lst xs)) : SqL K H a xs := Or.inl (Or.inl h)
theorem sqT {K : PySem.W.Frag} {H : Hp} {a : Addr} {xs : List V} (h : H a = some (.tup xs)) : SqT K H a xs := Or.inl (Or.inl h)
theorem sz {n : Nat} (h : n ≤ 100000) : n ≤ sizeLine := Nat.le_trans h (by decide)
theorem szl {n : Nat} (h : n < 100000) : n < sizeLine := Nat.lt_of_lt_of_le h (by decide)
/-- a list that is read and is not t -/
def SqN (K : PySem.W.Frag) (H : Hp) (a t : Addr) (xs : List V) : Prop := (Rd H a (.lst xs) ∧ a ≠ t) ∨
    ∃ (o : Obj) (its : Array Value) (n : Nat), K.lookup a = some o ∧ o.cls = .type "list" ∧ o.dict = none ∧ o.data = .seq its n ∧ its.size ≤ sizeLine ∧ Vals xs its.toList
theorem SqN.l {K : PySem.W.Frag} {H : Hp} {a t : Addr} {xs : List V} (h : SqN K H a t xs) : SqL K H a xs := by
  rcases h with ⟨h, _⟩ | h
  · exact .inl h
  · exact .inr h
theorem SqN.but {K : PySem.W.Frag} {H H' : Hp} {a t : Addr} {xs : List V} (h : SqN K H a t xs) (b : But t H H') : SqN K H' a t xs := by
  rcases h with ⟨h | ⟨o, h⟩, n⟩ | h
  · exact .inl ⟨.inl (b _ _ h n), n⟩
  · exact .inl ⟨.inr ⟨o, b _ _ h n⟩, n⟩
  · exact .inr h
theorem SqN.same {K : PySem.W.Frag} {H H' : Hp} {a t : Addr} {xs : List V} (h : SqN K H a t xs) (b : Same H H') : SqN K H' a t xs := h.but (.of b)
theorem SqN.new {K : PySem.W.Frag} {H : Hp} {a t : Addr} {xs : List V} (h : SqL K H a xs) (ht : H t = none) : SqN K H a t xs := by
  rcases h with (h | ⟨o, h⟩) | h
  · exact .inl ⟨.inl h, ne_of_none h ht⟩
  · exact .inl ⟨.inr ⟨o, h⟩, ne_of_none h ht⟩
  · exact .inr h
theorem SqN.app {K : PySem.W.Frag} {H H' : Hp} {a t p : Addr} {xs : List V} {o : HO} (h : SqN K H' a t xs) (h0 : SqN K H a t xs) (hp : H p = none) : SqN K (upd H' p o) a t xs := by
  have sN : But p H' (upd H' p o) := But.upd
  rcases h0 with ⟨h' | ⟨o', h'⟩, n'⟩ | h'
  · rcases h with ⟨h | ⟨o, h⟩, n⟩ | h
    · exact .inl ⟨.inl (sN _ _ h (ne_of_none h' hp)), n⟩
    · exact .inl ⟨.inr ⟨o, sN _ _ h (ne_of_none h' hp)⟩, n⟩
    · exact .inr h
  · rcases h with ⟨h | ⟨o, h⟩, n⟩ | h
    · exact .inl ⟨.inl (sN _ _ h (ne_of_none h' hp)), n⟩
    · exact .inl ⟨.inr ⟨o, sN _ _ h (ne_of_none h' hp)⟩, n⟩
    · exact .inr h
  · exact .inr h'
theorem szN {n : Nat} (h : n ≤ 64) : (n ≤ sizeLine) = True := eq_true (sz (by omega))
/-! things -/
/-- what may be handed in, with the name of its type -/
inductive Thing (K : PySem.W.Frag) (H : Hp) : V → String → Prop
  | non : Thing K H .non "NoneType"
  | bl (b : Bool) : Thing K H (.bl b) "bool"
  | int (i : Int) : Thing K H (.int i) "int"
  | str (x : Str) : Thing K H (.str x) "str"
  | lst {a : Addr} {xs : List V} (h : H a = some (.lst xs)) : Thing K H (.ref a) "list"
  | tup {a : Addr} {xs : List V} (h : H a = some (.tup xs)) : Thing K H (.ref a) "tuple"
  | dic {a : Addr} {kvs : List (Key × V)} (h : H a = some (.dK kvs)) : Thing K H (.ref a) "dict"
theorem Thing.ty {K : PySem.W.Frag} {H : Hp} {x : V} {n : String} (h : Thing K H x n) : TyX K H x (.type n) := by
  cases h with
  | non => exact .base .non
  | bl b => exact .base (.bl b)
  | int i => exact .base (.int i)
  | str x => exact .base (.str x)
  | lst h => exact .base (.lst h)
  | tup h => exact .base (.tup h)
  | dic h => exact .base (.dK h)
theorem Thing.same {K : PySem.W.Frag} {H H' : Hp} {x : V} {n : String} (s : Same H H') (h : Thing K H x n) : Thing K H' x n := by
  cases h with
  | non => exact .non
  | bl b => exact .bl b
  | int i => exact .int i
  | str x => exact .str x
  | lst h => exact .lst (s _ _ h)
  | tup h => exact .tup (s _ _ h)
  | dic h => exact .dic (s _ _ h)
def isA (n : String) (T : String) : Bool := n == T || (n == "bool" && T == "int")
def tyNames : List String := ["NoneType", "bool", "int", "str", "list", "tuple", "dict"]
theorem Thing.mem {K : PySem.W.Frag} {H : Hp} {x : V} {n : String} (h : Thing K H x n) : n ∈ tyNames := by
  cases h <;> simp [tyNames]
theorem kit_all : ∀ n ∈ tyNames, ∀ T ∈ tyNames, kitB n T = some (isA n T) := by decide +kernel
theorem Thing.kit {K : PySem.W.Frag} {H : Hp} {x : V} {n : String} (h : Thing K H x n) {T : String} (hT : T ∈ tyNames) : PySem.W.kitOne K (.type n) (.type T) = some (isA n T) := kit_ty (kit_all n h.mem T hT)
/-- isinstance of a thing -/
theorem isi_thing {K : PySem.W.Frag} {H : Hp} {x : V} {n : String} {T : String} {Q : VK} (h : Thing K H x n) (hT : T ∈ tyNames) (q : Q (.bl (isA n T)) H) : rIsi K [x, .ty T] H Q :=
  ⟨x, .ty T, .type n, .type T, isA n T, rfl, .ty T, h.ty, h.kit hT, q⟩
def isWholeV : V → Bool
  | .int _ => true
  | _ => false
def isNumV (x : V) (lo : Int) (y : V) : Bool := match x, y with
  | .int i, .int hi => decide (lo ≤ i) && decide (i ≤ hi)
  | _, _ => false
end Nk
namespace Nk
open PySem L2 PySem.Spec PyProof.Rows
/-- where a class of the top stands -/
def cls (mg : Str → Option Value) (x : Str) : Addr := match mg x with
  | some (.ref a) => a
  | _ => 0
theorem cls_of {mg : Str → Option Value} {x : Str} {a : Addr} (h : mg x = some (.ref a)) : cls mg x = a := by
  unfold cls; rw [h]
section
variable {X : Cx} {x : Str} {i : Int} {z : Str} {pos : Pos}
theorem pe_globI (h : ∃ t, X.mg x = some (.int i t)) (hg : Gl X x) (hd : (x == ("__debug__" : Str)) = false := by decide) : PE X (.Name x pos) (tC (.int i)) := by
  obtain ⟨t, h⟩ := h
  exact pe_glob hg h ⟨_, rfl⟩ hd
theorem pe_globS (h : ∃ t, X.mg x = some (.str z t)) (hg : Gl X x) (hd : (x == ("__debug__" : Str)) = false := by decide) : PE X (.Name x pos) (tC (.str z)) := by
  obtain ⟨t, h⟩ := h
  exact pe_glob hg h ⟨_, rfl⟩ hd
end
section
variable {K : PySem.W.Frag} {h : Heap} {mg : Str → Option Value}
theorem df_mk {x qual : Str} {st : Stmt} {ps : List Str} {f : Addr} {oc : Value} {od an : Option Addr} {osl : Array (Option Value)} {kV doc pm cdv ct : Value} (X : K.In h) (G : h.Ns mainGlobals mg)
    (hb : ∀ (kV doc pm : Value) (an : Option Addr) (cdv ct : Value) (us : List Value), us.length = ps.length → bindArgs (PySem.W.fnOf x qual (defArgs st) (defBody st) (defScope st) .none kV doc pm an cdv ct) ⟨us, []⟩ = pure (ps.zip us))
    (a : PySem.W.nsIn K mainGlobals x = some (some (.ref f)))
    (l : K.lookup f = some ⟨oc, od, .func (PySem.W.fnOf x qual (defArgs st) (defBody st) (defScope st) .none kV doc pm an cdv ct), osl⟩)
    (c : PySem.W.codeIn K cdv qual = true) (k : PySem.W.keepIn K (.ref f) = true) : Df K mg x qual st ps := by
  have F := fun_mk (st := st) l c k
  exact ⟨f, _, F, PySem.W.mg_of X G a, F.binds hb⟩
theorem xc_mk {x : Str} {C : Addr} (X : K.In h) (G : h.Ns mainGlobals mg) (a : PySem.W.nsIn K mainGlobals x = some (some (.ref C)))
    (xP : PySem.W.excIn K C [.type "RuntimeError", .type "Exception", .type "BaseException", .type "object"] "RuntimeError.__new__" = true)
    (kP : PySem.W.keepIn K (.ref C) = true) (bP : PySem.W.subIn K (.ref C) (.type "BaseException") = some true) (tP : PySem.W.typeIn K (.ref C) = some (.type "type")) : Xc K mg x (cls mg x) := by
  have g := PySem.W.mg_of X G a
  rw [cls_of g]
  exact ⟨g, xP, kP, bP, tP⟩
theorem ci_mk {x : Str} {i : Int} {t : Tok} (X : K.In h) (G : h.Ns mainGlobals mg) (a : PySem.W.nsIn K mainGlobals x = some (some (.int i t))) : ∃ t, mg x = some (.int i t) := ⟨t, PySem.W.mg_of X G a⟩
theorem cs_mk {x z : Str} {t : Tok} (X : K.In h) (G : h.Ns mainGlobals mg) (a : PySem.W.nsIn K mainGlobals x = some (some (.str z t))) : ∃ t, mg x = some (.str z t) := ⟨t, PySem.W.mg_of X G a⟩
end
/-- the law's: a list of at most 63 ints is handed in, True comes out -/
def spLaw (K : PySem.W.Frag) : Sp := fun vs H Q _ => ∃ (a : Addr) (ns : List Int), vs = [.ref a] ∧ SqL K H a (ns.map V.int) ∧ ns.length ≤ 63 ∧ ∀ H', Q (.bl true) H'
theorem law_end {P : Program} {w : World} {K : PySem.W.Frag} {mg : Str → Option Value} {st : Stmt} {fa : Addr} {k : Nat} (hfa : mg "law" = some (.ref fa)) (D : Df K mg "law" "law" st ["script"])
    (hb : ∀ (kV doc pm : Value) (an : Option Addr) (cdv ct v : Value), bindArgs (PySem.W.fnOf "law" "law" (defArgs st) (defBody st) (defScope st) .none kV doc pm an cdv ct) ⟨[v], []⟩ = pure [(("script" : Str), v)])
    (G : ∀ (base : Heap) (f : Addr) (fd : FuncData), Fun K "law" "law" st f fd → FnOk P w K mg base CX0 k f fd ["script"] (spLaw K)) :
    ∃ fd : FuncData, (∀ (s : Shared) (v : Value), BindsTo s fd ⟨[v], []⟩ [("script", v)]) ∧ ∀ base : Heap, K.In base → base.Ns mainGlobals mg → FnOk P w K mg base CX0 k fa fd ["script"] (spLaw K) := by
  obtain ⟨f, fd, F, g, b⟩ := D.ex
  have e : fa = f := by
    have := hfa.symm.trans g
    cases this
    rfl
  subst e
  refine ⟨fd, fun s v => ?_, fun base _ _ => G base fa fd F⟩
  obtain ⟨oc, od, kV, doc, pm, an, cdv, ct, osl, rfl, lk, hcd⟩ := F.ex
  exact .of_eq (hb _ _ _ _ _ _ _)
end Nk
namespace Nk
open PySem L2 PySem.Spec PyProof.Rows
theorem Same.keepN {H H' : Hp} {t : Addr} {o : HO} (s : Same H H') (n : H t = none) : Same H (upd H' t o) := fun b x e => by
  rw [upd_ne (ne_of_none e n)]
  exact s b x e
/-- within a comprehension that leaves all else: G i is the list behind i items -/
structure LcP (H1 : Hp) (D : Addr) (G : Nat → List V) (i : Nat) (H : Hp) : Prop where
  same : Same H1 H
  at_ : H D = some (.lst (G i))
theorem LcP.push {H1 H H4 : Hp} {D : Addr} {G : Nat → List V} {i : Nat} {y : V} (p : LcP H1 D G i H) (hD : H1 D = none) (hl : (G i).length ≤ 99999) (s : Same H H4) (e : G (i + 1) = G i ++ [y]) :
    ∃ acc, H4 D = some (.lst acc) ∧ acc.length < sizeLine ∧ LcP H1 D G (i + 1) (upd H4 D (.lst (acc ++ [y]))) :=
  ⟨G i, s _ _ p.at_, szl (by omega), Same.keepN (p.same.trans s) hD, by rw [upd_same, e]⟩
theorem LcP.skip {H1 H H4 : Hp} {D : Addr} {G : Nat → List V} {i : Nat} (p : LcP H1 D G i H) (s : Same H H4) (e : G (i + 1) = G i) : LcP H1 D G (i + 1) H4 :=
  ⟨p.same.trans s, by rw [e]; exact s _ _ p.at_⟩
theorem lcT {K : PySem.W.Frag} {a : Addr} {xs : List V} {g : TG} {tt : TT} {te : TE} {vs : List Nat} {σ : L2.St} {H1 : Hp} {D : Addr} {Qd : Hp → Prop} (hD : H1 D = none) (hT : SqT K H1 a xs) (G : Nat → List V) (h0 : G 0 = [])
    (hs : ∀ i x H, xs[i]? = some x → LcP H1 D G i H → g x (wipe σ vs) H fun σ2 H2 => wipe σ2 vs = wipe σ vs ∧ tt σ2 H2 fun b H3 =>
      if b = true then te σ2 H3 fun y H4 => ∃ acc, H4 D = some (.lst acc) ∧ acc.length < sizeLine ∧ LcP H1 D G (i + 1) (upd H4 D (.lst (acc ++ [y]))) else LcP H1 D G (i + 1) H3) (hd : ∀ H, Same H1 H → H D = some (.lst (G xs.length)) → Qd H) :
    ∃ W : Nat → Nat → Hp → Prop, (∃ m, W 0 m (upd H1 D (.lst []))) ∧ ∀ i m H, W i m H →
      ((Itt K a).stop i H ∧ Qd H) ∨ ((Itt K a).go i H ∧ ∃ Nx : Hp → Prop, (∀ H', Nx H' → ∃ m', m' < m ∧ W (i + 1) m' H') ∧ ∀ x H', (Itt K a).yld i H x H' → g x (wipe σ vs) H' fun σ2 H2 => wipe σ2 vs = wipe σ vs ∧ tt σ2 H2 fun b H3 =>
        if b = true then te σ2 H3 fun y H4 => ∃ acc, H4 D = some (.lst acc) ∧ acc.length < sizeLine ∧ Nx (upd H4 D (.lst (acc ++ [y]))) else Nx H3) :=
  lc_tup (K := K) (a := a) (xs := xs) (LcP H1 D G) ⟨same_upd hD, by rw [h0]; exact upd_same⟩ (fun i H _ p => Same.tup p.same hT) hs fun H p => hd H p.same p.at_
theorem lcL {K : PySem.W.Frag} {a : Addr} {xs : List V} {g : TG} {tt : TT} {te : TE} {vs : List Nat} {σ : L2.St} {H1 : Hp} {D : Addr} {Qd : Hp → Prop} (hD : H1 D = none) (hT : SqL K H1 a xs) (G : Nat → List V) (h0 : G 0 = [])
    (hs : ∀ i x H, xs[i]? = some x → LcP H1 D G i H → g x (wipe σ vs) H fun σ2 H2 => wipe σ2 vs = wipe σ vs ∧ tt σ2 H2 fun b H3 =>
      if b = true then te σ2 H3 fun y H4 => ∃ acc, H4 D = some (.lst acc) ∧ acc.length < sizeLine ∧ LcP H1 D G (i + 1) (upd H4 D (.lst (acc ++ [y]))) else LcP H1 D G (i + 1) H3) (hd : ∀ H, Same H1 H → H D = some (.lst (G xs.length)) → Qd H) :
    ∃ W : Nat → Nat → Hp → Prop, (∃ m, W 0 m (upd H1 D (.lst []))) ∧ ∀ i m H, W i m H →
      ((Itl K a).stop i H ∧ Qd H) ∨ ((Itl K a).go i H ∧ ∃ Nx : Hp → Prop, (∀ H', Nx H' → ∃ m', m' < m ∧ W (i + 1) m' H') ∧ ∀ x H', (Itl K a).yld i H x H' → g x (wipe σ vs) H' fun σ2 H2 => wipe σ2 vs = wipe σ vs ∧ tt σ2 H2 fun b H3 =>
        if b = true then te σ2 H3 fun y H4 => ∃ acc, H4 D = some (.lst acc) ∧ acc.length < sizeLine ∧ Nx (upd H4 D (.lst (acc ++ [y]))) else Nx H3) :=
  lc_list (K := K) (a := a) (xs := xs) (LcP H1 D G) ⟨same_upd hD, by rw [h0]; exact upd_same⟩ (fun i H _ p => p.same.seq hT) hs fun H p => hd H p.same p.at_
theorem lcR {lo : Int} {n : Nat} {g : TG} {tt : TT} {te : TE} {vs : List Nat} {σ : L2.St} {H1 : Hp} {D : Addr} {Qd : Hp → Prop} (hD : H1 D = none) (G : Nat → List V) (h0 : G 0 = [])
    (hs : ∀ i H, i < n → LcP H1 D G i H → g (.int (lo + i)) (wipe σ vs) H fun σ2 H2 => wipe σ2 vs = wipe σ vs ∧ tt σ2 H2 fun b H3 =>
      if b = true then te σ2 H3 fun y H4 => ∃ acc, H4 D = some (.lst acc) ∧ acc.length < sizeLine ∧ LcP H1 D G (i + 1) (upd H4 D (.lst (acc ++ [y]))) else LcP H1 D G (i + 1) H3) (hd : ∀ H, Same H1 H → H D = some (.lst (G n)) → Qd H) :
    ∃ W : Nat → Nat → Hp → Prop, (∃ m, W 0 m (upd H1 D (.lst []))) ∧ ∀ i m H, W i m H →
      ((Itr lo n).stop i H ∧ Qd H) ∨ ((Itr lo n).go i H ∧ ∃ Nx : Hp → Prop, (∀ H', Nx H' → ∃ m', m' < m ∧ W (i + 1) m' H') ∧ ∀ x H', (Itr lo n).yld i H x H' → g x (wipe σ vs) H' fun σ2 H2 => wipe σ2 vs = wipe σ vs ∧ tt σ2 H2 fun b H3 =>
        if b = true then te σ2 H3 fun y H4 => ∃ acc, H4 D = some (.lst acc) ∧ acc.length < sizeLine ∧ Nx (upd H4 D (.lst (acc ++ [y]))) else Nx H3) :=
  lc_range (LcP H1 D G) ⟨same_upd hD, by rw [h0]; exact upd_same⟩ hs fun H p => hd H p.same p.at_
theorem take_next {α : Type} {l : List α} {i : Nat} {x : α} (h : l[i]? = some x) : l.take (i + 1) = l.take i ++ [x] := by
  rw [List.take_add_one, h]; rfl
theorem map_take_next {α β : Type} {l : List α} {i : Nat} {x : α} (f : α → β) (h : l[i]? = some x) : (l.take (i + 1)).map f = (l.take i).map f ++ [f x] := by
  rw [take_next h]; simp
theorem filter_take_next {α : Type} {l : List α} {i : Nat} {x : α} (f : α → Bool) (h : l[i]? = some x) : (l.take (i + 1)).filter f = (l.take i).filter f ++ (if f x = true then [x] else []) := by
  rw [take_next h, List.filter_append]; cases e : f x <;> simp [e]
theorem filter_len {α : Type} (l : List α) (f : α → Bool) (i : Nat) : ((l.take i).filter f).length ≤ l.length :=
  Nat.le_trans (List.length_filter_le _ _) (by simp; omega)
theorem lt_of_get {α : Type} {l : List α} {i : Nat} {x : α} (h : l[i]? = some x) : i < l.length := (List.getElem?_eq_some_iff.mp h).1
theorem mem_of_get {α : Type} {l : List α} {i : Nat} {x : α} (h : l[i]? = some x) : x ∈ l := List.mem_of_getElem? h
end Nk
namespace Nk
open PySem L2
theorem seq_k {t u : TS} {D : Ends} {σ : L2.St} {H : Hp} (h : ∀ Kt : L2.St → Hp → Prop, Kt = u D → t { D with nx := Kt } σ H) : tSeq t u D σ H := h _ rfl
theorem gCons_cons {t : TG} {u : TGs} {v : V} {r : List V} {σ : L2.St} {H : Hp} {Q : L2.St → Hp → Prop} : gCons t u (v :: r) σ H Q = t v σ H fun σ' H' => u r σ' H' Q := by
  simp only [gCons, List.cons.injEq]
  refine propext ⟨?_, fun h => ⟨v, r, ⟨rfl, rfl⟩, h⟩⟩
  rintro ⟨v', r', ⟨rfl, rfl⟩, h⟩
  exact h
theorem gNil_nil {σ : L2.St} {H : Hp} {Q : L2.St → Hp → Prop} : gNil [] σ H Q = Q σ H := by
  simp only [gNil, true_and]
theorem scal_ii {a b : Int} : scal (.int a) (.int b) = true := rfl
theorem scal_ss {a b : Str} : scal (.str a) (.str b) = true := rfl
theorem scal_bb {a b : Bool} : scal (.bl a) (.bl b) = true := rfl
theorem scal_nn : scal .non .non = true := rfl
theorem scal_ni {b : Int} : scal .non (.int b) = true := rfl
theorem scal_in {b : Int} : scal (.int b) .non = true := rfl
theorem scal_ns {b : Str} : scal .non (.str b) = true := rfl
theorem scal_sn {b : Str} : scal (.str b) .non = true := rfl
theorem scal_is {a : Int} {b : Str} : scal (.int a) (.str b) = true := rfl
theorem scal_si {a : Int} {b : Str} : scal (.str b) (.int a) = true := rfl
end Nk
namespace Nk
open PySem L2
/-- what a for asks when its iterator stands -/
def ForW (J : It) (g : TG) (tb : TS) (D : Ends) (σ : L2.St) (H : Hp) : Prop := ∃ W : Nat → Nat → L2.St → Hp → Prop, (∃ m, W 0 m σ H) ∧ ∀ i m σ H, W i m σ H →
  (J.stop i H ∧ D.nx σ H) ∨ (J.go i H ∧ ∃ N : L2.St → Hp → Prop, (∀ σ' H', N σ' H' → ∃ m', m' < m ∧ W (i + 1) m' σ' H') ∧ ∀ x H', J.yld i H x H' → g x σ H' fun σ2 H2 => tb { D with nx := N, ct := N, bk := D.nx } σ2 H2)
theorem tFor_k {wi : TI} {g : TG} {tb : TS} {D : Ends} {σ : L2.St} {H : Hp} : tFor wi g tb D σ H = wi σ H fun J H1 => ForW J g tb D σ H1 := rfl
/-- what a comprehension asks when its iterator and its list stand -/
def LcW (J : It) (g : TG) (tt : TT) (te : TE) (vs : List Nat) (σ : L2.St) (H1 : Hp) (D : Addr) (Qd : Hp → Prop) : Prop := ∃ W : Nat → Nat → Hp → Prop, (∃ m, W 0 m (upd H1 D (.lst []))) ∧ ∀ i m H, W i m H →
  (J.stop i H ∧ Qd H) ∨ (J.go i H ∧ ∃ Nx : Hp → Prop, (∀ H', Nx H' → ∃ m', m' < m ∧ W (i + 1) m' H') ∧ ∀ x H', J.yld i H x H' → g x (wipe σ vs) H' fun σ2 H2 => wipe σ2 vs = wipe σ vs ∧ tt σ2 H2 fun b H3 =>
    if b = true then te σ2 H3 fun y H4 => ∃ acc, H4 D = some (.lst acc) ∧ acc.length < sizeLine ∧ Nx (upd H4 D (.lst (acc ++ [y]))) else Nx H3)
theorem tLc_k {wi : TI} {g : TG} {tt : TT} {te : TE} {vs : List Nat} {σ : L2.St} {H : Hp} {Q : VK} : tLc wi g tt te vs σ H Q = wi σ H fun J H1 => ∀ D, H1 D = none → LcW J g tt te vs σ H1 D (fun H => Q (.ref D) H) := rfl
end Nk
/-! ### data compared by == -/
namespace Nk
open PySem L2
/-- data of depth at most k, without truths and dicts -/
def gd : Nat → PyData → Bool
  | _, .none => true
  | _, .int _ => true
  | _, .str x => PyData.strOk x
  | _, .bool _ => false
  | _, .dict _ => false
  | 0, .list _ => false
  | 0, .tuple _ => false
  | k + 1, .list xs => xs.all (gd k)
  | k + 1, .tuple xs => xs.all (gd k)
theorem gd_all {k : Nat} : ∀ {xs : List PyData}, xs.all (gd k) = true → ∀ x ∈ xs, gd k x = true := fun h x hx => List.all_eq_true.mp h x hx
theorem canLayAll_of : ∀ {xs : List PyData}, (∀ x ∈ xs, x.canLay0 = true) → PyData.canLayAll0 xs = true
  | [], _ => by simp [PyData.canLayAll0]
  | x :: xs, h => by
    have h1 := h x List.mem_cons_self
    have h2 := canLayAll_of (xs := xs) fun y hy => h y (List.mem_cons_of_mem _ hy)
    simp [PyData.canLayAll0, h1, h2]
theorem depthAll_le {k : Nat} : ∀ {xs : List PyData}, (∀ x ∈ xs, x.depth ≤ k) → PyData.depthAll xs ≤ k
  | [], _ => by simp [PyData.depthAll]
  | x :: xs, h => by
    have h1 := h x List.mem_cons_self
    have h2 := depthAll_le (xs := xs) fun y hy => h y (List.mem_cons_of_mem _ hy)
    simp only [PyData.depthAll]
    omega
theorem gd_lay : ∀ (k : Nat) (d : PyData), gd k d = true → d.canLay0 = true ∧ d.depth ≤ k
  | k, .none, _ => by simp [PyData.canLay0, PyData.depth]
  | k, .int _, _ => by simp [PyData.canLay0, PyData.depth]
  | k, .str x, h => by
    have h' : PyData.strOk x = true := by cases k <;> simpa [gd] using h
    simp [PyData.canLay0, PyData.depth, h']
  | k, .bool _, h => by cases k <;> simp [gd] at h
  | k, .dict _, h => by cases k <;> simp [gd] at h
  | 0, .list _, h => by simp [gd] at h
  | 0, .tuple _, h => by simp [gd] at h
  | k + 1, .list xs, h => by
    have h' : xs.all (gd k) = true := by simpa [gd] using h
    have a := gd_all h'
    simp only [PyData.canLay0, PyData.depth]
    exact ⟨canLayAll_of fun x hx => (gd_lay k x (a x hx)).1, Nat.succ_le_succ (depthAll_le fun x hx => (gd_lay k x (a x hx)).2)⟩
  | k + 1, .tuple xs, h => by
    have h' : xs.all (gd k) = true := by simpa [gd] using h
    have a := gd_all h'
    simp only [PyData.canLay0, PyData.depth]
    exact ⟨canLayAll_of fun x hx => (gd_lay k x (a x hx)).1, Nat.succ_le_succ (depthAll_le fun x hx => (gd_lay k x (a x hx)).2)⟩
theorem gd_shaped {k : Nat} {d : PyData} (h : gd k d = true) (hk : k ≤ 64 := by decide) : SeqAt.shaped d = true := by
  obtain ⟨h1, h2⟩ := gd_lay k d h
  unfold SeqAt.shaped
  rw [h1]
  simp
  omega
theorem eqvAll_iff : ∀ (xs ys : List PyData), (∀ x ∈ xs, ∀ y ∈ ys, PyData.eqv x y = true ↔ x = y) → (PyData.eqvAll xs ys = true ↔ xs = ys)
  | [], [], _ => by simp [PyData.eqvAll]
  | [], _ :: _, _ => by simp [PyData.eqvAll]
  | _ :: _, [], _ => by simp [PyData.eqvAll]
  | x :: xs, y :: ys, h => by
    have h1 := h x List.mem_cons_self y List.mem_cons_self
    have h2 := eqvAll_iff xs ys fun a ha b hb => h a (List.mem_cons_of_mem _ ha) b (List.mem_cons_of_mem _ hb)
    simp [PyData.eqvAll, h1, h2]
theorem eqv_iff : ∀ (k m : Nat) (d e : PyData), gd k d = true → gd m e = true → (PyData.eqv d e = true ↔ d = e)
  | k, m, .bool _, e, h, _ => by cases k <;> simp [gd] at h
  | k, m, .dict _, e, h, _ => by cases k <;> simp [gd] at h
  | k, m, .none, e, _, h => by
    cases e with
    | bool _ => cases m <;> simp [gd] at h
    | dict _ => cases m <;> simp [gd] at h
    | _ => simp [PyData.eqv]
  | k, m, .int i, e, _, h => by
    cases e with
    | bool _ => cases m <;> simp [gd] at h
    | dict _ => cases m <;> simp [gd] at h
    | _ => simp [PyData.eqv]
  | k, m, .str i, e, _, h => by
    cases e with
    | bool _ => cases m <;> simp [gd] at h
    | dict _ => cases m <;> simp [gd] at h
    | _ => simp [PyData.eqv]
  | 0, m, .list _, e, h, _ => by simp [gd] at h
  | 0, m, .tuple _, e, h, _ => by simp [gd] at h
  | k + 1, m, .list xs, e, hd, h => by
    cases e with
    | bool _ => cases m <;> simp [gd] at h
    | dict _ => cases m <;> simp [gd] at h
    | list ys =>
      cases m with
      | zero => simp [gd] at h
      | succ m =>
        have a := gd_all (k := k) (xs := xs) (by simpa [gd] using hd)
        have b := gd_all (k := m) (xs := ys) (by simpa [gd] using h)
        simp only [PyData.eqv, PyData.list.injEq]
        exact eqvAll_iff xs ys fun x hx y hy => eqv_iff k m x y (a x hx) (b y hy)
    | _ => simp [PyData.eqv]
  | k + 1, m, .tuple xs, e, hd, h => by
    cases e with
    | bool _ => cases m <;> simp [gd] at h
    | dict _ => cases m <;> simp [gd] at h
    | tuple ys =>
      cases m with
      | zero => simp [gd] at h
      | succ m =>
        have a := gd_all (k := k) (xs := xs) (by simpa [gd] using hd)
        have b := gd_all (k := m) (xs := ys) (by simpa [gd] using h)
        simp only [PyData.eqv, PyData.tuple.injEq]
        exact eqvAll_iff xs ys fun x hx y hy => eqv_iff k m x y (a x hx) (b y hy)
    | _ => simp [PyData.eqv]
theorem eqv_of_eq {k : Nat} {d e : PyData} (h : gd k d = true) (e1 : d = e) : PyData.eqv d e = true := by
  subst e1
  exact (eqv_iff k k d d h h).mpr rfl
theorem eqv_of_ne {k m : Nat} {d e : PyData} (h : gd k d = true) (h' : gd m e = true) (e1 : d ≠ e) : PyData.eqv d e = false := by
  cases q : PyData.eqv d e with
  | false => rfl
  | true => exact absurd ((eqv_iff k m d e h h').mp q) e1
/-- the data of lists of ints, of tuples of ints -/
abbrev dLI (ns : List Int) : PyData := .list (ns.map .int)
abbrev dTI (ns : List Int) : PyData := .tuple (ns.map .int)
theorem gd_int_all (k : Nat) (ns : List Int) : (ns.map PyData.int).all (gd k) = true := by
  rw [List.all_eq_true]
  intro x hx
  obtain ⟨i, _, rfl⟩ := List.mem_map.mp hx
  cases k <;> rfl
theorem gd_dLI {k : Nat} (ns : List Int) : gd (k + 1) (dLI ns) = true := by simp only [dLI, gd]; exact gd_int_all k ns
theorem gd_dTI {k : Nat} (ns : List Int) : gd (k + 1) (dTI ns) = true := by simp only [dTI, gd]; exact gd_int_all k ns
theorem dpAll_ints {K : PySem.W.Frag} {H : Hp} : ∀ ns : List Int, DpAll K H (ns.map V.int) (ns.map PyData.int)
  | [] => .nil
  | n :: ns => .cons (.int n) (dpAll_ints ns)
theorem dp_LI {K : PySem.W.Frag} {H : Hp} {a : Addr} {ns : List Int} (h : SqL K H a (ns.map V.int)) : Dp K H (.ref a) (dLI ns) := .lst h (dpAll_ints ns)
theorem dp_TI {K : PySem.W.Frag} {H : Hp} {a : Addr} {ns : List Int} (h : SqT K H a (ns.map V.int)) : Dp K H (.ref a) (dTI ns) := .tup h (dpAll_ints ns)
theorem dLI_inj {ns ms : List Int} : dLI ns = dLI ms ↔ ns = ms := by
  constructor
  · intro h
    have h' : ns.map PyData.int = ms.map PyData.int := PyData.list.inj h
    exact (List.map_inj_right (fun _ _ q => PyData.int.inj q)).mp h'
  · intro h; rw [h]
theorem dTI_inj {ns ms : List Int} : dTI ns = dTI ms ↔ ns = ms := by
  constructor
  · intro h
    have h' : ns.map PyData.int = ms.map PyData.int := PyData.tuple.inj h
    exact (List.map_inj_right (fun _ _ q => PyData.int.inj q)).mp h'
  · intro h; rw [h]
/-- == of two data -/
theorem eqD {K : PySem.W.Frag} {H : Hp} {x y : V} {d e : PyData} {Q : VK} {k m : Nat} (hd : Dp K H x d) (he : Dp K H y e) (gk : gd k d = true) (gm : gd m e = true) (h1 : d = e → Q (.bl true) H) (h2 : d ≠ e → Q (.bl false) H) (hk : k ≤ 64 := by decide) (hm : m ≤ 64 := by decide) : rEqD K x y H Q := by
  refine ⟨d, e, hd, he, gd_shaped gk hk, gd_shaped gm hm, ?_⟩
  by_cases c : d = e
  · rw [eqv_of_eq gk c]; exact h1 c
  · rw [eqv_of_ne gk gm c]; exact h2 c
theorem neD {K : PySem.W.Frag} {H : Hp} {x y : V} {d e : PyData} {Q : VK} {k m : Nat} (hd : Dp K H x d) (he : Dp K H y e) (gk : gd k d = true) (gm : gd m e = true) (h1 : d = e → Q (.bl false) H) (h2 : d ≠ e → Q (.bl true) H) (hk : k ≤ 64 := by decide) (hm : m ≤ 64 := by decide) : rNeD K x y H Q := by
  refine ⟨d, e, hd, he, gd_shaped gk hk, gd_shaped gm hm, ?_⟩
  by_cases c : d = e
  · rw [eqv_of_eq gk c]; exact h1 c
  · rw [eqv_of_ne gk gm c]; exact h2 c
theorem newF {H H' : Hp} {p : Addr} {o : HO} (hp : H p = none) (e : upd H p o = H') : Same H H' ∧ H' p = some o := by
  subst e
  exact ⟨same_upd hp, upd_same⟩
/-- an item of a list, by its place -/
theorem ixL {K : PySem.W.Frag} {H : Hp} {p : Addr} {xs : List V} {i : Int} {j : Nat} {v : V} {Q : VK} (h : SqL K H p xs) (hi : i = (j : Int)) (e : xs[j]? = some v) (q : Q v H) : rIxL K (.ref p) (.int i) H Q :=
  ⟨p, xs, i, v, rfl, rfl, h, by rw [hi]; exact atI_nat e, q⟩
theorem ixT {K : PySem.W.Frag} {H : Hp} {p : Addr} {xs : List V} {i : Int} {j : Nat} {v : V} {Q : VK} (h : SqT K H p xs) (hi : i = (j : Int)) (e : xs[j]? = some v) (q : Q v H) : rIxT K (.ref p) (.int i) H Q :=
  ⟨p, xs, i, v, rfl, rfl, h, by rw [hi]; exact atI_nat e, q⟩
theorem setL {H : Hp} {p : Addr} {xs : List V} {i : Int} {j : Nat} {v : V} {Q : Hp → Prop} (h : H p = some (.lst xs)) (hi : i = (j : Int)) (e : j < xs.length) (q : Q (upd H p (.lst (xs.set j v)))) : rSetL (.ref p) (.int i) v H Q :=
  ⟨p, xs, i, j, rfl, rfl, h, by rw [hi]; unfold ixN; rw [if_pos (by omega), if_pos (by omega)]; simp, q⟩
theorem tyL {K : PySem.W.Frag} {H : Hp} {l : Addr} {xs : List V} (h : H l = some (.lst xs)) : tyV K "list" (.ref l) H := .inl ⟨rfl, _, SqL.of h⟩
theorem appR {H : Hp} {l : Addr} {xs : List V} {y : V} {Q : VK} (h : H l = some (.lst xs)) (hz : xs.length ≤ 99999) (q : Q .non (upd H l (.lst (xs ++ [y])))) : rAppend (.ref l) [y] H Q :=
  ⟨l, xs, y, rfl, rfl, h, szl (by omega), q⟩
theorem app {K : PySem.W.Frag} {H : Hp} {l : Addr} {xs : List V} {y : V} {Q : VK} (h : H l = some (.lst xs)) (hz : xs.length ≤ 99999) (q : Q .non (upd H l (.lst (xs ++ [y])))) : tyV K "list" (.ref l) H ∧ rAppend (.ref l) [y] H Q :=
  ⟨tyL h, l, xs, y, rfl, rfl, h, szl (by omega), q⟩
theorem Same.app {H H' : Hp} {p : Addr} {o : HO} (s : Same H H') (n : H p = none) : Same H (upd H' p o) := fun b x e => by
  rw [upd_ne (ne_of_none e n)]
  exact s b x e
theorem inV_ints (n : Int) (l : List Int) : inV (.int n) (l.map V.int) = decide (n ∈ l) := by
  unfold inV
  rw [List.any_map, Bool.eq_iff_iff, List.any_eq_true, decide_eq_true_eq]
  constructor
  · rintro ⟨x, hx, e⟩
    have : x = n := by simpa [eqV] using e
    rw [← this]; exact hx
  · intro h
    exact ⟨n, h, by simp [eqV]⟩
theorem flat_ints (l : List Int) : (l.map V.int).all flatV = true := by
  rw [List.all_eq_true]
  intro x hx
  obtain ⟨i, _, rfl⟩ := List.mem_map.mp hx
  rfl
end Nk
/-! ### d.keys() as a value; sorted of it -/
namespace Nk
open PySem L2 PySem.Spec PyProof.Rows
def KeysO (v d : Addr) : HO := .ext fun h => PySem.W.KdlKeysView h v d
theorem keysO_ok {P : Program} {w : World} {H : Hp} {h : Heap} {v d : Addr} (e : PySem.W.KdlKeysView h v d) : ObjOk P w H h v (KeysO v d) := by
  obtain ⟨o, ho, hc, hd⟩ := e
  exact ⟨⟨o, ho, hc, hd⟩, ⟨o, ho⟩, fun h1 h2 ⟨o', q, r⟩ k => ⟨o', k o' q, r⟩⟩
def rKeys : V → List V → Hp → VK → Prop := fun x xs H Q => ∃ (d : Addr) (kvs : List (Key × V)), x = .ref d ∧ xs = [] ∧ H d = some (.dK kvs) ∧ ∀ v, H v = none → Q (.ref v) (upd H v (KeysO v d))
section
variable {X : Cx}
theorem mt_keys : MtR X "dict.keys" rKeys := by
  intro pins s σ H x xs v us Q I rx rxs h
  obtain ⟨d, kvs, rfl, rfl, hd, q⟩ := h
  cases rx
  cases rxs
  obtain ⟨hz, hs0, vs, kv, hdo⟩ := I.hok d _ hd
  refine PySem.call_meetsIn F.slot_dict_keys hdo.typeIs F.entry_dict_keys (F.args_dict_keys_1 _) (PySem.W.kdl_meets_keys (mixKind X.prog X.w) d hs0) ⟨⟨vs, hdo⟩, ?_⟩
  refine ⟨.ref s.heap.objs.size, upd H s.heap.objs.size (KeysO s.heap.objs.size d), I.laid (t' := s.toks) (fun b ob q => Heap.get?_push_of_some _ q) (Nat.le_refl _) (keysO_ok ⟨_, Heap.get?_push_size _ rfl, rfl, rfl⟩), rfl, q _ (I.hok.fresh (Nat.le_refl _))⟩
/-- sorted(d.keys()), whole numbers, any number of them -/
def rSortedKI : List V → Hp → VK → Prop := fun xs H Q => ∃ (v d : Addr) (kvs : List (Key × V)) (ks : List Int), xs = [.ref v] ∧ H v = some (KeysO v d) ∧ H d = some (.dK kvs) ∧ kvs.map (·.1) = ks.map Sum.inl ∧
  ∀ (ys : List Int) (p : Addr), ys.Perm ks → ys.Pairwise (· ≤ ·) → H p = none → Q (.ref p) (upd H p (.lst (ys.map V.int)))
theorem cr_sortedKI (hcalm : X.calm = true) : CallR X (.builtin "sorted") rSortedKI := by
  intro pins s σ H xs us Q I r q
  obtain ⟨v, a, kvs, ks, ex, hv, hd, hks, q⟩ := q
  subst ex
  obtain ⟨u, eu, rx⟩ := vals1 r
  subst eu
  cases rx
  have hview : PySem.W.KdlKeysView s.heap v a := (I.hok v _ hv).1
  obtain ⟨z, lo, vs, rel, dd⟩ := I.hok a _ hd
  obtain ⟨ep, hat⟩ := dd.dictAt
  have hkeys : vs.map (·.1) = ks.map Sum.inl := rel.keys.symm.trans hks
  have hl : vs.length = ks.length := by
    have e := congrArg List.length hkeys
    rw [List.length_map, List.length_map] at e
    exact e
  have hl2 : kvs.length = vs.length := Paired.length rel
  have h16 : vs.length ≤ sizeLine := by omega
  refine Calls.call_function_entry PyProof.Rows.kind_sorted PyProof.Rows.plain_sorted PyProof.Rows.entry_sorted (PyProof.Rows.args_sorted1 _) ?_
  unfold Builtin.«sorted»
  refine wpAny_bind (m := checkCount "sorted" 1 1 _) (wpAny_pure ?_)
  refine wpAny_bind (PySem.W.kdu_collect (A := X.A.in1) (PySem.W.kdl_keys (knd := mixKind X.prog X.w) (r := v) (d := a) (kvs := vs) (ep := ep)) (I.ok.hd hcalm) ⟨hview, hat⟩ h16 fun h' tk acc hk hacc => ?_)
  have hal : acc.toList.length = ks.length := by rw [Array.length_toList, hacc.1, hl]
  have hS : IntsAre acc.toList ks := ints_each hal fun j v e => by
    obtain ⟨k, x, e1, e2⟩ := hacc.2 j v (by rw [← Array.getElem?_toList]; exact e)
    have e3 : (vs.map (·.1))[j]? = some k := by rw [List.getElem?_map, e1]; rfl
    rw [hkeys, List.getElem?_map] at e3
    cases e4 : ks[j]? with
    | none => rw [e4] at e3; cases e3
    | some y =>
      rw [e4] at e3
      have e5 : Sum.inl y = k := Option.some.inj e3
      subst e5
      rcases keyIs_shape (show keyIs (Sum.inl y) v = true from e2) with ⟨i, t, ek, ev⟩ | ⟨z, t, ek, ev⟩
      · cases ek
        exact ⟨y, t, rfl, ev⟩
      · cases ek
  have I1 : Inv X pins σ H { s with heap := h', toks := tk } := I.kept hk
  refine wpAny_bind (wpAny_newList ?_ (by rw [hal]; omega))
  have hoL : (h'.push (seqObj "list" acc.toList.toArray 0)).get? h'.objs.size = some (seqObj "list" acc.toList.toArray 0) := Heap.get?_push_size _ rfl
  show wpAny _ _ _ _ _ { s with heap := h'.push (seqObj "list" acc.toList.toArray 0), toks := tk }
  refine wpAny_bind (wpAny_holding (wpAny_call_entry PyProof.Rows.slot_list_sort ⟨_, hoL, rfl⟩ PyProof.Rows.entry_list_sort
    (SrtO.list_sort_ord (s := { s with heap := h'.push (seqObj "list" acc.toList.toArray 0), toks := tk }) SrtO.swo_int hoL (by rw [hal]; omega) (fun h2 => SrtO.ints_sortable hS h2) fun out g1 g2 => ⟨_, rfl, ?_⟩) (PyProof.Rows.args_list_sort _)))
  obtain ⟨k1, k2, k3⟩ := SrtO.ints_out hS g1 g2
  obtain ⟨e', he'⟩ := PyProof.Rows.sortedHeap_at (vs := acc.toList) (out := out.toArray) hoL
  have hlen : ((out.map SrtO.iv).map V.int).length ≤ sizeLine := by
    rw [List.length_map, k2.length_eq]
    omega
  refine wpAny_pure ⟨_, rfl, .ref h'.objs.size, upd H h'.objs.size (.lst ((out.map SrtO.iv).map V.int)), I1.laid (t' := tk) (fun b u e => ?_) (Nat.le_refl _)
    (show ObjOk X.prog X.w _ _ _ (.lst ((out.map SrtO.iv).map V.int)) from ⟨hlen, out, e', vals_of_ints k1, he'⟩), rfl, q _ _ k2 k3 (I1.hok.fresh (Nat.le_refl _))⟩
  have hb : b < h'.objs.size := Heap.lt_size e
  rw [PyProof.Rows.sortedHeap_old (Nat.ne_of_lt hb) (by rw [size_push']; exact Nat.lt_succ_of_lt hb)]
  exact Heap.get?_push_of_some _ e
end
end Nk
/-! ### the layer's rules with the written part named (for comprehensions, where the reading may not lean on the block) -/
namespace Nk
open PySem L2
section
variable {X : Cx} {K : PySem.W.Frag}
theorem op_inK (K : PySem.W.Frag) (h : X.K = K) : OpR X (compareOp .In) (rIn K false) := h ▸ op_in_seq
theorem op_notInK (K : PySem.W.Frag) (h : X.K = K) : OpR X (compareOp .NotIn) (rIn K true) := h ▸ op_notIn_seq
theorem ix_listK (K : PySem.W.Frag) (h : X.K = K) : IxR X (rIxL K) := h ▸ ix_list
theorem ix_tupK (K : PySem.W.Frag) (h : X.K = K) : IxR X (rIxT K) := h ▸ ix_tup
theorem sl_listK (K : PySem.W.Frag) (h : X.K = K) : SlR X (rSlL K) := h ▸ sl_list
theorem sl_tupK (K : PySem.W.Frag) (h : X.K = K) : SlR X (rSlT K) := h ▸ sl_tup
def rLenQ (K : PySem.W.Frag) : List V → Hp → VK → Prop := fun xs H Q => ∃ p ys, xs = [V.ref p] ∧ (SqL K H p ys ∨ SqT K H p ys) ∧ Q (.int ys.length) H
theorem call_lenK (K : PySem.W.Frag) (h : X.K = K) : CallR X (.builtin "len") (rLenQ K) := h ▸ call_len_seq
def rListQ (K : PySem.W.Frag) : List V → Hp → VK → Prop := fun xs H Q => ∃ p ys, xs = [V.ref p] ∧ (SqL K H p ys ∨ SqT K H p ys) ∧ ∀ l, H l = none → Q (.ref l) (upd H l (.lst ys))
theorem call_listK (K : PySem.W.Frag) (h : X.K = K) : CallR X (.type "list") (rListQ K) := h ▸ call_list_of
def rTupleQ (K : PySem.W.Frag) : List V → Hp → VK → Prop := fun xs H Q => ∃ p ys, xs = [V.ref p] ∧ ((SqL K H p ys ∧ ∀ l, H l = none → Q (.ref l) (upd H l (.tup ys))) ∨ (SqT K H p ys ∧ Q (.ref p) H))
theorem call_tupleK (K : PySem.W.Frag) (h : X.K = K) : CallR X (.type "tuple") (rTupleQ K) := h ▸ call_tuple_of
theorem cr_sumK (K : PySem.W.Frag) (h : X.K = K) (hc : X.calm = true) : CallR X (.builtin "sum") (rSum K) := h ▸ cr_sum hc
theorem cr_sumTK (K : PySem.W.Frag) (h : X.K = K) (hc : X.calm = true) : CallR X (.builtin "sum") (rSumT K) := h ▸ cr_sumT hc
theorem cr_allK (K : PySem.W.Frag) (h : X.K = K) (hc : X.calm = true) : CallR X (.builtin "all") (rAll K) := h ▸ cr_all hc
theorem cr_anyK (K : PySem.W.Frag) (h : X.K = K) (hc : X.calm = true) : CallR X (.builtin "any") (rAny K) := h ▸ cr_any hc
theorem cr_maxK (K : PySem.W.Frag) (h : X.K = K) (hc : X.calm = true) : CallR X (.builtin "max") (rMax K) := h ▸ cr_max hc
theorem cr_minK (K : PySem.W.Frag) (h : X.K = K) (hc : X.calm = true) : CallR X (.builtin "min") (rMin K) := h ▸ cr_min hc
theorem op_eqDK (K : PySem.W.Frag) (h : X.K = K) (hu : X.A.units + 64 < cLine) : OpR X (compareOp .Eq) (rEqD K) := h ▸ op_eqD hu
theorem op_neDK (K : PySem.W.Frag) (h : X.K = K) (hu : X.A.units + 64 < cLine) : OpR X (compareOp .NotEq) (rNeD K) := h ▸ op_neD hu
theorem op_catTK (K : PySem.W.Frag) (h : X.K = K) : OpR X (binaryOp .Add) (rCatT K) := h ▸ op_catT
theorem call_isiK_ (K : PySem.W.Frag) (h : X.K = K) : CallR X (.builtin "isinstance") (rIsi K) := h ▸ call_isi
theorem pi_listK {tg l : Expr} {tl : TE} (K : PySem.W.Frag) (h : X.K = K) (hl : PE X l tl) : PI X tg l (iList K tl) := h ▸ pi_list hl
theorem pi_tupK {tg l : Expr} {tl : TE} (K : PySem.W.Frag) (h : X.K = K) (hl : PE X l tl) : PI X tg l (iTup K tl) := h ▸ pi_tup hl
theorem pg_tupK {es : List Expr} {k : Nat} {t : TGs} {n : Nat} {pos : Pos} (K : PySem.W.Frag) (hK : X.K = K) (hc : X.calm = true) (h : PGs X es t)
    (hn : (assignEach es X.env).length = n := by rfl) (hst : (assignEach es X.env).findIdx? (·.1) = none := by rfl) : PG X (.Tuple es k pos) (gTup K n t) := hK ▸ pg_tup hc h hn hst
theorem pi_enumK {e : Expr} {ta : TA} {p pos tpos : Pos} {elts : List Expr} {kk : Nat} (K : PySem.W.Frag) (h : X.K = K) (hg : Gl X "enumerate") (hm : X.mg "enumerate" = none) (ha : PA X [e] ta) (hs : starEach [e] X.env = [(false, eval e X.env)] := by rfl) :
    PI X (.Tuple elts kk tpos) (.Call (.Name "enumerate" p) [e] [] pos) (iEnum K ta) := h ▸ pi_enum hg hm ha hs
theorem pi_zipK {e e2 : Expr} {ta : TA} {p pos tpos : Pos} {elts : List Expr} {kk : Nat} (K : PySem.W.Frag) (h : X.K = K) (hg : Gl X "zip") (hm : X.mg "zip" = none) (ha : PA X [e, e2] ta)
    (hs : starEach [e, e2] X.env = (false, eval e X.env) :: starEach [e2] X.env := by rfl) (hpl : (backTo pos (starEach [e2] X.env)).any (·.1) = false := by rfl) :
    PI X (.Tuple elts kk tpos) (.Call (.Name "zip" p) [e, e2] [] pos) (iZip K ta) := h ▸ pi_zip hg hm ha hs hpl
end
end Nk
/-! ### more rules: tuples put together (the left one may be empty), ranges, == of lists with [] -/
namespace Nk
open PySem L2 PySem.Spec PyProof.Rows
section
variable {X : Cx}
def rCatT3 : R2 := fun x y H Q => ∃ a b xs ys, x = .ref a ∧ y = .ref b ∧ H a = some (.tup xs) ∧ H b = some (.tup ys) ∧ xs.length + ys.length ≤ 100000 ∧ ∀ p H', Same H H' → H' p = some (.tup (xs ++ ys)) → Q (.ref p) H'
theorem op_catT3 : OpR X (binaryOp .Add) rCatT3 := by
  intro pins s σ H x y v u Q I rx ry h
  obtain ⟨a, b, xs, ys, rfl, rfl, ha, hb, hz, q⟩ := h
  by_cases hx : xs = []
  · subst hx
    cases rx
    cases ry
    obtain ⟨its, r1, p1, _⟩ := I.tuple (sqT (K := X.K) ha)
    obtain ⟨its2, r2, p2, _⟩ := I.tuple (sqT (K := X.K) hb)
    cases r1
    obtain ⟨⟨cls, dd, data, sl⟩, ho, hc, n, hd⟩ := id p1
    obtain ⟨⟨cls2, dd2, data2, sl2⟩, ho2, hc2, n2, hd2⟩ := id p2
    simp only at hc hd hc2 hd2
    subst hc hd hc2 hd2
    exact concat_meets ⟨_, ho, rfl⟩ ⟨_, ho2, rfl⟩ noFill_tuple_add seq_tuple_add PySem.F.slot_tuple_add PySem.F.entry_tuple_add (PySem.F.args_tuple_add_2 _ _)
      (tuple_addW0 a b #[] its2.toArray n n2 dd dd2 sl sl2 (by rfl)) ⟨ho, ho2, ⟨.ref b, H, I, rfl, q b H (Same.refl _) hb⟩⟩
  · refine op_catT pins s σ H (.ref a) (.ref b) v u Q I rx ry ⟨a, b, xs, ys, rfl, rfl, sqT ha, sqT hb, hx, sz hz, fun e => ?_, fun _ p hp => q p _ (same_upd hp) upd_same⟩
    subst e
    exact q a H (Same.refl _) (by rw [List.append_nil]; exact ha)
def rInR (neg : Bool) : R2 := fun x y H Q => ∃ i a lo hi, x = V.int i ∧ y = V.ref a ∧ H a = some (.rng lo hi) ∧ Q (.bl (if neg then !decide (lo ≤ i ∧ i < hi) else decide (lo ≤ i ∧ i < hi))) H
theorem op_inR : OpR X (compareOp .In) (rInR false) := op_in_rng
theorem op_notInR : OpR X (compareOp .NotIn) (rInR true) := by
  intro pins s σ H x y v u Q I rx ry h
  obtain ⟨i, a, lo, hi, rfl, rfl, ha, q⟩ := h
  obtain ⟨k, rfl⟩ := rx
  obtain rfl : u = Value.ref a := ry
  obtain ⟨t1, t2, t3, ho⟩ := I.hok a _ ha
  show wpAny _ _ (do return Value.bool (!(← contains (Value.ref a) (Value.int i k)))) _ _ s
  refine wpAny_bind (wpAny_contains_slot (T := "range") ⟨_, ho, rfl⟩ F.slot_range_contains (call_meets F.slot_range_contains ⟨_, ho, rfl⟩ F.entry_range_contains (F.args_range_contains_2 _ _) (q_contains a lo hi i t1 t2 t3 k)
    ⟨ho, wpAny_truthy_bool (wpAny_pure ⟨.bl _, H, I, rfl, ?_⟩)⟩))
  rw [place1]
  exact q
def rRange : List V → Hp → VK → Prop := fun vs H Q => ∃ i j, vs = [V.int i, V.int j] ∧ ∀ p, H p = none → Q (.ref p) (upd H p (.rng i j))
theorem cr_rangeV : CallR X (.type "range") rRange := cr_range2
end
/-- data, bools among them -/
def gb : Nat → PyData → Bool
  | _, .none => true
  | _, .int _ => true
  | _, .str x => PyData.strOk x
  | _, .bool _ => true
  | k + 1, .list xs => xs.all (gb k)
  | k + 1, .tuple xs => xs.all (gb k)
  | _, _ => false
theorem gb_lay : ∀ (k : Nat) (d : PyData), gb k d = true → d.canLay0 = true ∧ d.depth ≤ k
  | k, .none, _ => by simp [PyData.canLay0, PyData.depth]
  | k, .bool _, _ => by simp [PyData.canLay0, PyData.depth]
  | k, .int _, _ => by simp [PyData.canLay0, PyData.depth]
  | k, .str x, h => by
    have h' : PyData.strOk x = true := by simpa [gb] using h
    simp [PyData.canLay0, PyData.depth, h']
  | k, .dict _, h => by cases k <;> simp [gb] at h
  | 0, .list _, h => by simp [gb] at h
  | 0, .tuple _, h => by simp [gb] at h
  | k + 1, .list xs, h => by
    have a : ∀ x ∈ xs, gb k x = true := by simpa [gb] using h
    simp only [PyData.canLay0, PyData.depth]
    exact ⟨canLayAll_of fun x hx => (gb_lay k x (a x hx)).1, Nat.succ_le_succ (depthAll_le fun x hx => (gb_lay k x (a x hx)).2)⟩
  | k + 1, .tuple xs, h => by
    have a : ∀ x ∈ xs, gb k x = true := by simpa [gb] using h
    simp only [PyData.canLay0, PyData.depth]
    exact ⟨canLayAll_of fun x hx => (gb_lay k x (a x hx)).1, Nat.succ_le_succ (depthAll_le fun x hx => (gb_lay k x (a x hx)).2)⟩
theorem gb_shaped {k : Nat} {d : PyData} (h : gb k d = true) (hk : k ≤ 64 := by decide) : SeqAt.shaped d = true := by
  obtain ⟨h1, h2⟩ := gb_lay k d h
  unfold SeqAt.shaped
  rw [h1]
  simp
  omega
/-- a thing that may stand within another: it can be laid down as data -/
def Dat (K : PySem.W.Frag) (H : Hp) (k : Nat) (x : V) : Prop := ∃ d, Dp K H x d ∧ gb k d = true
mutual
theorem Dp.same {K : PySem.W.Frag} {H H' : Hp} (s : Same H H') : ∀ {x : V} {d : PyData}, Dp K H x d → Dp K H' x d
  | _, _, .non => .non
  | _, _, .bl b => .bl b
  | _, _, .int i => .int i
  | _, _, .str x => .str x
  | _, _, .lst h a => .lst (s.seq h) (DpAll.same s a)
  | _, _, .tup h a => .tup (Same.tup s h) (DpAll.same s a)
theorem DpAll.same {K : PySem.W.Frag} {H H' : Hp} (s : Same H H') : ∀ {xs : List V} {ds : List PyData}, DpAll K H xs ds → DpAll K H' xs ds
  | _, _, .nil => .nil
  | _, _, .cons h a => .cons (Dp.same s h) (DpAll.same s a)
end
theorem Dat.same {K : PySem.W.Frag} {H H' : Hp} {k : Nat} {x : V} (s : Same H H') (h : Dat K H k x) : Dat K H' k x := by
  obtain ⟨d, h1, h2⟩ := h
  exact ⟨d, Dp.same s h1, h2⟩
theorem dat_all {K : PySem.W.Frag} {H : Hp} {k : Nat} : ∀ {xs : List V}, (∀ x ∈ xs, Dat K H k x) → ∃ ds, DpAll K H xs ds ∧ ds.all (gb k) = true ∧ ds.length = xs.length
  | [], _ => ⟨[], .nil, rfl, rfl⟩
  | x :: xs, h => by
    obtain ⟨d, h1, h2⟩ := h x List.mem_cons_self
    obtain ⟨ds, a, b, c⟩ := dat_all (xs := xs) fun y hy => h y (List.mem_cons_of_mem _ hy)
    exact ⟨d :: ds, .cons h1 a, by rw [List.all_cons, h2, b]; rfl, by simp [c]⟩
theorem eqv_nil {ds : List PyData} (h : ds ≠ []) : PyData.eqv (.list ds) (.list []) = false := by
  cases ds with
  | nil => exact absurd rfl h
  | cons d ds => simp [PyData.eqv, PyData.eqvAll]
/-- l == [], whatever stands in l -/
theorem eqE {K : PySem.W.Frag} {H : Hp} {a b : Addr} {xs : List V} {k : Nat} {Q : VK} (ha : SqL K H a xs) (hx : ∀ x ∈ xs, Dat K H k x) (hb : SqL K H b []) (h1 : xs = [] → Q (.bl true) H) (h2 : xs ≠ [] → Q (.bl false) H) (hk : k + 1 ≤ 64 := by decide) : rEqD K (.ref a) (.ref b) H Q := by
  obtain ⟨ds, d1, d2, d3⟩ := dat_all hx
  refine ⟨.list ds, .list [], .lst ha d1, .lst hb .nil, gb_shaped (k := k + 1) (by simpa [gb] using d2) hk, by decide, ?_⟩
  by_cases c : xs = []
  · have : ds = [] := List.length_eq_zero_iff.mp (by rw [d3, c]; rfl)
    subst this
    exact h1 c
  · rw [eqv_nil (fun e => c (List.length_eq_zero_iff.mp (by rw [← d3, e]; rfl)))]
    exact h2 c
theorem neE {K : PySem.W.Frag} {H : Hp} {a b : Addr} {xs : List V} {k : Nat} {Q : VK} (ha : SqL K H a xs) (hx : ∀ x ∈ xs, Dat K H k x) (hb : SqL K H b []) (h1 : xs = [] → Q (.bl false) H) (h2 : xs ≠ [] → Q (.bl true) H) (hk : k + 1 ≤ 64 := by decide) : rNeD K (.ref a) (.ref b) H Q := by
  obtain ⟨ds, d1, d2, d3⟩ := dat_all hx
  refine ⟨.list ds, .list [], .lst ha d1, .lst hb .nil, gb_shaped (k := k + 1) (by simpa [gb] using d2) hk, by decide, ?_⟩
  by_cases c : xs = []
  · have : ds = [] := List.length_eq_zero_iff.mp (by rw [d3, c]; rfl)
    subst this
    exact h1 c
  · rw [eqv_nil (fun e => c (List.length_eq_zero_iff.mp (by rw [← d3, e]; rfl)))]
    exact h2 c
end Nk
/-! ### comprehensions that filter ints -/
namespace Nk
open PySem L2
theorem lcF {K : PySem.W.Frag} {a : Addr} {ns : List Int} {j : Nat} {tt : TT} {vs : List Nat} {σ : L2.St} {H1 : Hp} {D : Addr} {Qd : Hp → Prop} (f : Int → Bool) (hD : H1 D = none) (hT : SqL K H1 a (ns.map V.int)) (hn : ns.length ≤ 99999)
    (hj : ∀ v : V, ((wipe σ vs).set j (some v))[j]? = some (some v)) (hw : ∀ v : V, wipe ((wipe σ vs).set j (some v)) vs = wipe σ vs)
    (ht : ∀ n H, n ∈ ns → Same H1 H → ∀ Q : Bool → Hp → Prop, (∀ H', Same H H' → Q (f n) H') → tt ((wipe σ vs).set j (some (.int n))) H Q)
    (hd : ∀ H, Same H1 H → H D = some (.lst ((ns.filter f).map V.int)) → Qd H) : LcW (Itl K a) (gName j) tt (tVar j) vs σ H1 D Qd := by
  refine lcL hD hT (fun i => ((ns.take i).filter f).map V.int) (by simp) (fun i x H hx p => ?_) (fun H s hH => hd H s (by simpa using hH))
  rw [List.getElem?_map] at hx
  cases e : ns[i]? with
  | none => rw [e] at hx; cases hx
  | some n =>
  rw [e] at hx
  cases hx
  refine ⟨hw _, ht n H (mem_of_get e) p.same _ fun H' s => ?_⟩
  have hf := filter_take_next f e
  cases c : f n with
  | true =>
    rw [if_pos rfl]
    refine ⟨_, hj _, p.push hD (by rw [List.length_map]; exact Nat.le_trans (filter_len ns f i) hn) s ?_⟩
    show _ = _
    rw [hf, c]
    simp
  | false =>
    rw [if_neg Bool.false_ne_true]
    refine p.skip s ?_
    show _ = _
    rw [hf, c]
    simp
theorem cut_from (xs : List V) (j : Nat) : cutV xs (some (j : Int)) none = xs.drop j := by
  unfold cutV
  rw [HT.sIx_none, HT.sIx_nat]
  by_cases h : j ≤ xs.length
  · rw [Nat.min_eq_left h, List.take_of_length_le (by simp)]
  · rw [Nat.min_eq_right (by omega), List.drop_of_length_le (Nat.le_refl _), List.drop_of_length_le (by omega)]
    simp
theorem cut_to (xs : List V) (j : Nat) : cutV xs none (some (j : Int)) = xs.take j := by
  unfold cutV
  rw [HT.sIx_none, HT.sIx_nat, List.drop_zero, Nat.sub_zero]
  by_cases h : j ≤ xs.length
  · rw [Nat.min_eq_left h]
  · rw [Nat.min_eq_right (by omega), List.take_of_length_le (Nat.le_refl _), List.take_of_length_le (by omega)]
end Nk
/-! ### set(l) of a list of whole numbers; sorted and len of it, however many -/
namespace Nk
open PySem L2 PySem.Spec PyProof.Rows
abbrev eSet (w : World) : Obj := { cls := .type "set", dict := none, data := .set #[] 0 (.fresh 0 0 (!w.params.followText "set-order")) }
section
variable {prog : Program} {w : World} {A : Around} {E : Value → Shared → Prop} {s : Shared}
set_option maxRecDepth 100000 in
set_option maxHeartbeats 3200000 in
theorem set_of_list {l : Addr} {xs : Array Value} (ns : List Int) {Q : Value → Shared → Prop} (calm : A.handled = none) (isl : s.heap.IsList l xs) (hin : IntsAre xs.toList ns) (few : ns.length + 1 < scanBound)
    (fin : ∀ (g : Heap) (tk c : Nat), SetR w g s.heap.objs.size (fun j => decide (j ∈ ns)) c → c ≤ ns.length → (∀ b o, s.heap.get? b = some o → g.get? b = some o) → Q (.ref s.heap.objs.size) { s with heap := g, toks := tk }) :
    wpAny (model prog w) A (call (.type "set") [.ref l]) Q E s := by
  have size : xs.size = ns.length := by
    have := hin.length
    rwa [Array.length_toList] at this
  obtain ⟨m1, m2, hmro⟩ := F.called_set.mro
  have hm0 := F.called_set.made
  have hm1 := F.called_set.sub
  refine wpAny_call (codeAny_of_tree ?_)
  show wpAny _ _ (callAny (.type "set") _) _ _ _
  refine wpAny_pure ⟨Code.quiet_builtin _ (by decide +kernel), codeAny_builtin F.entry_type_call ?_⟩
  rw [Around.under_plain (weight_type_call_type "set" [.ref l] []) rfl]
  have hm2 := F.called_set.notType
  have hm3 := F.called_set.canCreate
  have hm4 := F.typeCall_set_1 (.ref l)
  repeat (any_goals (first | assumption | wp_step))
  refine codeAny_mono (code_set_led1 (.ref l) (E := E) (Q₁ := fun v s1 => v = .ref s.heap.objs.size ∧ s1 = { s with heap := s.heap.push (eSet w) }) ⟨rfl, rfl⟩) fun r s1 hr => ?_
  cases r with
  | error _ => exact hr
  | ok fl =>
    cases fl with
    | ret v =>
      obtain ⟨rfl, rfl⟩ := hr
      have at0 : (s.heap.push (eSet w)).get? s.heap.objs.size = some (eSet w) := Heap.get?_push_size _ rfl
      have ty0 : Shared.TypeIs { s with heap := s.heap.push (eSet w) } (.ref s.heap.objs.size) "set" := ⟨_, at0, rfl⟩
      have hi1 := F.called_set.init.lookup
      have hi2 := F.called_set.init.bind (.ref s.heap.objs.size)
      repeat (any_goals (first | assumption | wp_step))
      refine codeAny_mono (codeAny_call_builtin (R := wants (fun r s2 => r = .none ∧ ∃ g tk c, s2 = { s with heap := g, toks := tk } ∧ SetR w g s.heap.objs.size (fun j => decide (j ∈ ns)) c ∧ c ≤ ns.length ∧
          (∀ b o, s.heap.get? b = some o → g.get? b = some o)) E) F.called_set.init.plain F.entry_set_init (check_set_init_1 ty0 ?_)) fun r2 s2 hr2 => ?_
      · obtain ⟨ol, hol, hcl, nl, hdl⟩ := isl
        obtain ⟨k1, k2, k3, k4⟩ := ol
        simp only at hcl hdl
        subst hcl hdl
        have hol1 : (s.heap.push (eSet w)).get? l = some { cls := .type "list", dict := k2, data := .seq xs nl, slots := k4 } := Heap.get?_push_of_some _ hol
        have sub1 := F.sub_list_set
        have sub2 := F.sub_list_frozenset
        have nodict : (Value.type "list" == Value.type "dict") = false := by decide
        have isl1 : (s.heap.push (eSet w)).IsList l xs := ⟨_, hol1, rfl, nl, rfl⟩
        unfold Builtin.«set.__init__» noKeywords Builtin.Frozenset.updateFrom
        generalize hPI : pyIter = PI
        wp_walk
        subst hPI
        refine wpAny_pyIter_list isl1 ?_
        refine wpAny_bind (wpAny_runValue ?_)
        have lt0 : l < s.heap.objs.size := Heap.lt_size hol
        have calm3 : A.in1.in1.in1.handled = none := by simp [calm]
        have ne1 : l ≠ (s.heap.push (eSet w)).objs.size := by
          rw [Heap.size_push]
          exact Nat.ne_of_lt (Nat.lt_succ_of_lt lt0)
        have out1 : s.heap.objs.size ∉ [(s.heap.push (eSet w)).objs.size, l] := by
          rw [Heap.size_push]
          simp only [List.mem_cons, List.mem_singleton, List.not_mem_nil, or_false, not_or]
          exact ⟨Nat.ne_of_lt (Nat.lt_succ_self _), Nat.ne_of_gt lt0⟩
        have vals : ∀ (i : Nat) (v : Value), xs[i]? = some v → ∃ k t, ns[i]? = some k ∧ v = .int k t := fun i v hv => by
          have hi : i < ns.length := by
            rw [← size]
            exact (Array.getElem?_eq_some_iff.mp hv).1
          obtain ⟨t, e⟩ := PyProof.Rows.IntsAre.int_at hin i v (by rw [Array.getElem?_toList]; exact hv)
          refine ⟨ns[i], t, List.getElem?_eq_getElem hi, ?_⟩
          rw [e, List.getD_eq_getElem?_getD, List.getElem?_eq_getElem hi] <;> rfl
        refine set_update_ints ((Walks.list calm3 _ l ne1 xs).toS) s.heap.objs.size out1 ns size few vals (xs.size - 0) 0 _ (by omega) (Nat.zero_le _) ⟨⟨_, Heap.get?_push_size _ rfl, rfl, rfl⟩, (isl1.push _)⟩ ?one ?two
        case one =>
          have at2 : ((s.heap.push (eSet w)).push { cls := .type "list_iterator", data := .fields #[.ref l, .int 0 0] }).get? s.heap.objs.size = some (eSet w) := Heap.get?_push_of_some _ at0
          exact ⟨0, Nat.le_refl 0, setR_new_at at2⟩
        case two =>
          intro s3 c3 mv hc3 R3
          obtain ⟨h3, g3, d3, t3, o3⟩ := s3
          have eg : g3 = s.gens := mv.gens
          have ed : d3 = s.drawn := mv.drawn
          have eo : o3 = s.os := mv.os
          subst eg ed eo
          show wpAny _ _ _ _ _ _
          refine wpAny_pure ?_
          show wpAny _ _ (ret Value.none) _ _ _
          rw [size] at hc3
          refine wpAny_pure ⟨rfl, h3, t3, c3, rfl, R3, hc3, fun b o e => ?_⟩
          have lb : b < s.heap.objs.size := Heap.lt_size e
          have nb1 : b ≠ s.heap.objs.size := Nat.ne_of_lt lb
          have nb2 : b ≠ (s.heap.push (eSet w)).objs.size := by
            rw [Heap.size_push]
            exact Nat.ne_of_lt (Nat.lt_succ_of_lt lb)
          refine mv.heap b o ?_ (Heap.get?_push_of_some _ (Heap.get?_push_of_some _ e))
          simp only [List.mem_cons, List.mem_singleton, List.not_mem_nil, or_false, not_or]
          exact ⟨nb1, nb2⟩
      · cases r2 with
        | error _ => exact hr2
        | ok fl2 =>
          cases fl2 with
          | ret _ =>
            obtain ⟨rfl, g, tk, c, rfl, R2, hc2, k2⟩ := hr2
            repeat (any_goals (first | assumption | wp_step))
            exact fin _ _ _ R2 hc2 k2
          | _ => exact hr2.elim
    | _ => exact hr.elim
end
section
variable {X : Cx}
def rSetLI (K : PySem.W.Frag) (w : World) : List V → Hp → VK → Prop := fun vs H Q => ∃ (a : Addr) (ns : List Int), vs = [V.ref a] ∧ SqL K H a (ns.map V.int) ∧ ns.length ≤ 4000 ∧
  ∀ (p : Addr) (c : Nat), H p = none → c ≤ ns.length → Q (.ref p) (upd H p (SetO w p (fun j => decide (j ∈ ns)) c))
theorem cr_setLI (hc : X.calm = true) : CallR X (.type "set") (rSetLI X.K X.w) := by
  intro pins s σ H vs us Q I r h
  obtain ⟨a, ns, rfl, hs, hz, q⟩ := h
  obtain ⟨its, rv, hl, _⟩ := I.list hs
  rw [Vals.ref1 r]
  refine set_of_list ns (I.ok.hd hc) hl.isList rv.ints (by unfold scanBound; omega) fun g tk c R hc k => ?_
  exact ⟨.ref _, _, I.laid (t' := tk) (o := SetO X.w s.heap.objs.size (fun j => decide (j ∈ ns)) c) k (Nat.le_refl _) (setO_new R), rfl, q _ c (I.hok.fresh (Nat.le_refl _)) hc⟩
theorem rise_of_nodup {l : List Int} (h : l.Pairwise (· ≤ ·)) (nd : l.Nodup) : l.Pairwise (· < ·) := (h.and nd).imp fun {a b} ⟨h1, h2⟩ => by omega
/-- sorted of a set, however many -/
def rSortedSA (w : World) : List V → Hp → VK → Prop := fun vs H Q => ∃ (a : Addr) (S : Int → Bool) (n : Nat), vs = [V.ref a] ∧ H a = some (SetO w a S n) ∧ n ≤ 10000 ∧
  ∀ (ns : List Int) (p : Addr), ns.Pairwise (· < ·) → (∀ k : Int, k ∈ ns ↔ S k = true) → ns.length = n → H p = none → Q (.ref p) (upd H p (.lst (ns.map V.int)))
theorem cr_sortedSA (hcalm : X.calm = true) : CallR X (.builtin "sorted") (rSortedSA X.w) := by
  intro pins s σ H vs us Q I r h
  obtain ⟨a, S, n, rfl, ha, hn0, q⟩ := h
  rw [Vals.ref1 r]
  obtain ⟨o, es, ep, t, ho, hex, hd, g, nd, hm, hb, hf, hn, hr, hl⟩ := setO_get I ha
  refine Calls.call_function_entry PyProof.Rows.kind_sorted PyProof.Rows.plain_sorted PyProof.Rows.entry_sorted (PyProof.Rows.args_sorted1 _) ?_
  unfold Builtin.«sorted»
  refine wpAny_bind (m := checkCount "sorted" 1 1 _) (wpAny_pure ?_)
  refine wpAny_bind (collect_set (A := X.A.in1) (I.ok.hd hcalm) ⟨o, ho, hex.1, hd⟩ hf hb hr hl fun s1 us k1 hz g1 o1 pm => ?_)
  have hul : us.length = n := by
    rw [pm.length_eq, List.length_map, Array.length_toList]
    exact hn
  have hI : IntsAre us (us.map Builtin.Re.reRawOf) := ints_of us fun v hv => by
    obtain ⟨e, he, q⟩ := List.mem_map.mp (pm.mem_iff.mp hv)
    obtain ⟨k, tk, h1, _⟩ := g e he
    exact ⟨k, tk, by rw [← q]; exact h1⟩
  have pk : (us.map Builtin.Re.reRawOf).Perm (es.toList.map keyOf) := by
    have z := pm.map Builtin.Re.reRawOf
    rw [List.map_map] at z
    exact z
  have hsz : us.length ≤ sizeLine := by
    rw [hul]
    exact sz (by omega)
  refine wpAny_bind (wpAny_newList ?_ hsz)
  have hoL : (s1.heap.push (seqObj "list" us.toArray 0)).get? s1.heap.objs.size = some (seqObj "list" us.toArray 0) := Heap.get?_push_size _ rfl
  refine wpAny_bind (wpAny_holding (wpAny_call_entry PyProof.Rows.slot_list_sort ⟨_, hoL, rfl⟩ PyProof.Rows.entry_list_sort
    (SrtO.list_sort_ord SrtO.swo_int hoL hsz (fun h2 => SrtO.ints_sortable hI h2) fun out b1 b2 => ⟨_, rfl, ?_⟩) (PyProof.Rows.args_list_sort _)))
  obtain ⟨c1, c2, c3⟩ := SrtO.ints_out hI b1 b2
  obtain ⟨e', he'⟩ := PyProof.Rows.sortedHeap_at (vs := us) (out := out.toArray) hoL
  have pn : (out.map SrtO.iv).Perm (es.toList.map keyOf) := c2.trans pk
  have hlen : ((out.map SrtO.iv).map V.int).length ≤ sizeLine := by
    rw [List.length_map, c2.length_eq, List.length_map]
    exact hsz
  have hnone : H s1.heap.objs.size = none := I.hok.fresh hz
  have old : ∀ b u, s.heap.get? b = some u → (PyProof.Rows.sortedHeap (s1.heap.push (seqObj "list" us.toArray 0)) s1.heap.objs.size us out.toArray).get? b = some u := fun b u e => by
    have z := k1 b u e
    have lt := Heap.lt_size z
    rw [PyProof.Rows.sortedHeap_old (Nat.ne_of_lt lt) (by rw [size_push']; exact Nat.lt_succ_of_lt lt)]
    exact Heap.get?_push_of_some _ z
  have J : Inv X pins σ (upd H s1.heap.objs.size (.lst ((out.map SrtO.iv).map V.int))) { s with heap := PyProof.Rows.sortedHeap (s1.heap.push (seqObj "list" us.toArray 0)) s1.heap.objs.size us out.toArray, gens := s1.gens, drawn := s1.drawn, toks := s1.toks } :=
    I.call (ch := []) (Un.laid old hz hnone) (I.hok.laid old hz ⟨hlen, out, e', vals_of_ints c1, he'⟩) (by rw [g1]; exact I.bare) (fun _ z => nomatch z)
  refine wpAny_pure ⟨_, rfl, .ref s1.heap.objs.size, _, ?_, rfl, q _ _ (rise_of_nodup c3 (pn.nodup_iff.mpr nd)) (fun k => by rw [pn.mem_iff, ← hm k]) (by rw [pn.length_eq, List.length_map, Array.length_toList]; exact hn) hnone⟩
  have eo : s1.os = s.os := o1
  rw [← eo] at J
  exact J
/-- len of a set -/
def rLenS (w : World) : List V → Hp → VK → Prop := fun vs H Q => ∃ (a : Addr) (S : Int → Bool) (n : Nat), vs = [V.ref a] ∧ H a = some (SetO w a S n) ∧ Q (.int n) H
end
end Nk
/-! ### own classes: methods by their promise, len of an instance, steps of the heap -/
namespace Nk
open PySem L2 PySem.Spec PyProof.Rows
/-- a method as it stands behind the top: c's, found at the def st -/
structure Md (K : PySem.W.Frag) (mg : Str → Option Value) (c m qual : Str) (st : Stmt) (ps : List Str) : Prop where
  ex : ∃ (f : Addr) (fd : FuncData), Fun K m qual st f fd ∧ Meth K (cls mg c) m f ∧ Binds K fd ps []
/-- a class without own __new__ -/
structure Oc (K : PySem.W.Frag) (mg : Str → Option Value) (c : Str) : Prop where
  g : mg c = some (.ref (cls mg c))
  cl : Cls K (cls mg c)
  makes : PySem.W.makesIn K (cls mg c) = true
  kp : PySem.W.keepIn K (.ref (cls mg c)) = true
/-- a method keeps a promise -/
structure Mo (P : Program) (w : World) (K : PySem.W.Frag) (mg : Str → Option Value) (base : Heap) (CX : CXT) (k : Nat) (c m : Str) (ps : List Str) (sp : Sp) : Prop where
  ex : ∃ (f : Addr) (fd : FuncData), Meth K (cls mg c) m f ∧ Binds K fd ps [] ∧ FnOk P w K mg base CX k f fd ps sp
section
variable {X : Cx} {CX : CXT} {k : Nat} {ps : List Str} {sp : Sp} {c m x : Str} {p pos apos : Pos} {o e : Expr} {es : List Expr} {ta : TE} {t : TA} {E : XK}
theorem pe_me {pl : Sem Bool} (he : PE X o ta) (O : Oc X.K X.mg c) (M : Mo X.prog X.w X.K X.mg X.base CX k c m ps sp) (hr : Room k X.A) (hx : Passes CX X E) (ha : PA X (e :: es) t)
    (hst : starEach (e :: es) X.env = (false, eval e X.env) :: starEach es X.env := by rfl) (hpl : (backTo pos (starEach es X.env)).any (·.1) = false := by rfl)
    (ht : eval (.Call (.Attribute o m apos) (e :: es) [] pos) X.env = (do
      let ov ← eval o X.env
      standAt apos.atName
      let (g, first) ← holding [ov] (getMethod ov m pl)
      callWith pos g first (backTo pos (starEach (e :: es) X.env)) (backToKw pos (keywordEach [] X.env))) := by rfl) :
    PE X (.Call (.Attribute o m apos) (e :: es) [] pos) (tMeth (cls X.mg c) m sp [] E ta t) := by
  obtain ⟨f, fd, h1, h2, h3⟩ := M.ex
  exact pe_meth he O.cl h1 h3 hr h2 .nil hx ha hst hpl ht
theorem pe_me0 {pl : Sem Bool} (he : PE X o ta) (O : Oc X.K X.mg c) (M : Mo X.prog X.w X.K X.mg X.base CX k c m ps sp) (hr : Room k X.A) (hx : Passes CX X E)
    (ht : eval (.Call (.Attribute o m apos) [] [] pos) X.env = (do
      let ov ← eval o X.env
      standAt apos.atName
      let (g, first) ← holding [ov] (getMethod ov m pl)
      callWith pos g first (backTo pos (starEach [] X.env)) (backToKw pos (keywordEach [] X.env))) := by rfl) :
    PE X (.Call (.Attribute o m apos) [] [] pos) (tMeth (cls X.mg c) m sp [] E ta tNil) := by
  obtain ⟨f, fd, h1, h2, h3⟩ := M.ex
  exact pe_meth0 he O.cl h1 h3 hr h2 .nil hx ht
theorem pe_new (O : Oc X.K X.mg c) (M : Mo X.prog X.w X.K X.mg X.base CX k c "__init__" ps sp) (hr : Room (k + 1) X.A) (hg : Gl X c) (hx : Passes CX X E) (ha : PA X (e :: es) t)
    (hdb : (c == ("__debug__" : Str)) = false := by decide) (he : starEach (e :: es) X.env = (false, eval e X.env) :: starEach es X.env := by rfl) (hpl : (backTo pos (starEach es X.env)).any (·.1) = false := by rfl) :
    PE X (.Call (.Name c p) (e :: es) [] pos) (tMake (cls X.mg c) sp [] E t) := by
  obtain ⟨f, fd, h1, h2, h3⟩ := M.ex
  exact pe_make ⟨O.makes, h1.at_, h1.fn, O.kp⟩ h3 hr hg O.g h2 .nil hx ha hdb he hpl
/-- len of an instance -/
def rLenO (C : Addr) (sp : Sp) (E : XK) : List V → Hp → VK → Prop := fun xs H Q => ∃ (a dx : Addr) (fs : List (Str × V)), xs = [.ref a] ∧ H a = some (.ins C dx fs) ∧ sp [.ref a] H (fun v H' => ∃ n : Nat, v = .int n ∧ n < 2 ^ 62 ∧ Q (.int n) H') E
theorem cr_lenO (O : Oc X.K X.mg c) (M : Mo X.prog X.w X.K X.mg X.base CX k c "__len__" ps sp) (hr : Room (k + 1) X.A) (hx : Passes CX X E) : CallR X (.builtin "len") (rLenO (cls X.mg c) sp E) := by
  intro pins s σ H xs us Q I r h
  obtain ⟨a, dx, fs, rfl, ha, q⟩ := h
  rw [Vals.ref1 r]
  obtain ⟨f, fd, h1, h2, h3⟩ := M.ex
  obtain ⟨mA, ob, _⟩ := ins_get I.hok ha
  obtain ⟨od, hod, _⟩ := lookIn_ns ob.ns
  have J : PySem.W.InstAt s.heap a (PySem.W.instObj (cls X.mg c) dx) (cls X.mg c) (some od) := ⟨ob.obj, rfl, rfl, hod⟩
  obtain ⟨m0, fr⟩ := I.fr
  have r2 : Vals [V.ref a] [Value.ref a] := .cons rfl .nil
  have hl : ([Value.ref a] ++ ([] : List Value)).length = ps.length := by
    have := h3.len _ _ _ _ q
    exact this
  refine PySem.W.len_K fr I.ok.mod.kin J h1.at_ h1.fn ?_
  refine wpAny_call (codeAny_mono (h3.run _ X.stack s H ⟨[.ref a], []⟩ [.ref a] [.ref a] _ E hr.in1 I.env0.in1 (h2 s [.ref a] I.kIn hl) r2 q) fun rr s' hq => ?_)
  cases rr with
  | error e => exact hx pins σ H s e s' I hq
  | ok fl =>
    cases fl with
    | ret u =>
      obtain ⟨v, H', I2, rv, n, rfl, hn, q2⟩ := I.after hq
      obtain ⟨tk, rfl⟩ := rv
      exact ⟨⟨by omega, by omega⟩, .int n, H', I2.tok _, ⟨_, rfl⟩, q2⟩
    | next => exact False.elim hq
    | brk => exact False.elim hq
    | cont => exact False.elim hq
theorem pe_fldK {f : Str} (K : PySem.W.Frag) (hK : X.K = K) (he : PE X e ta) (hb : attributeBase e f X.env (eval e X.env) = eval e X.env) : PE X (.Attribute e f pos) (tFld K ta f) := hK ▸ pe_fld he hb
end
section
variable {K : PySem.W.Frag} {h : Heap} {mg : Str → Option Value}
theorem md_mk {c m qual : Str} {st : Stmt} {ps : List Str} {C f : Addr} {oc : Value} {od an : Option Addr} {osl : Array (Option Value)} {kV doc pm cdv ct : Value} (X : K.In h) (G : h.Ns mainGlobals mg)
    (hb : ∀ (kV doc pm : Value) (an : Option Addr) (cdv ct : Value) (us : List Value), us.length = ps.length → bindArgs (PySem.W.fnOf m qual (defArgs st) (defBody st) (defScope st) .none kV doc pm an cdv ct) ⟨us, []⟩ = pure (ps.zip us))
    (aC : PySem.W.nsIn K mainGlobals c = some (some (.ref C))) (a : PySem.W.findIn K (.ref C) m = some (some (.ref f))) (i : PySem.W.isFn K (.ref f) = true)
    (l : K.lookup f = some ⟨oc, od, .func (PySem.W.fnOf m qual (defArgs st) (defBody st) (defScope st) .none kV doc pm an cdv ct), osl⟩)
    (cc : PySem.W.codeIn K cdv qual = true) (k : PySem.W.keepIn K (.ref f) = true) : Md K mg c m qual st ps := by
  have F := fun_mk (st := st) l cc k
  have e := cls_of (PySem.W.mg_of X G aC)
  exact ⟨f, _, F, by rw [e]; exact ⟨a, i, k⟩, F.binds hb⟩
theorem oc_mk {c : Str} {C : Addr} (X : K.In h) (G : h.Ns mainGlobals mg) (aC : PySem.W.nsIn K mainGlobals c = some (some (.ref C))) (pg : PySem.W.plainGet K C Str.empty = true) (hd : PySem.W.hasDictIn K C = true) (po : PySem.W.plainOver K C = true)
    (sa : PySem.W.findIn K (.ref C) "__setattr__" = some (some (.builtin "object.__setattr__"))) (mk : PySem.W.makesIn K C = true) (kc : PySem.W.keepIn K (.ref C) = true) : Oc K mg c := by
  have g := PySem.W.mg_of X G aC
  have e := cls_of g
  exact ⟨by rw [e]; exact g, by rw [e]; exact ⟨pg, hd, po, sa⟩, by rw [e]; exact mk, by rw [e]; exact kc⟩
theorem na_mk {c f : Str} {C : Addr} (X : K.In h) (G : h.Ns mainGlobals mg) (aC : PySem.W.nsIn K mainGlobals c = some (some (.ref C))) (n : PySem.W.findIn K (.ref C) f = some none) : NoAttr K (cls mg c) f := by
  rw [cls_of (PySem.W.mg_of X G aC)]
  exact n
end
/-! steps of the heap -/
/-- only what stands in S may have changed; tuples never do -/
structure Step (S : List Addr) (H H' : Hp) : Prop where
  keep : ∀ b o, H b = some o → b ∉ S → H' b = some o
  tups : ∀ b xs, H b = some (.tup xs) → H' b = some (.tup xs)
theorem Step.refl {S : List Addr} {H : Hp} : Step S H H := ⟨fun _ _ h _ => h, fun _ _ h => h⟩
theorem Step.of {S : List Addr} {H H' : Hp} (s : Same H H') : Step S H H' := ⟨fun b o h _ => s b o h, fun b xs h => s b _ h⟩
theorem Step.same {S : List Addr} {H H1 H2 : Hp} (a : Step S H H1) (s : Same H1 H2) : Step S H H2 := ⟨fun b o h n => s _ _ (a.keep b o h n), fun b xs h => s _ _ (a.tups b xs h)⟩
theorem Same.step {S : List Addr} {H H1 H2 : Hp} (s : Same H H1) (a : Step S H1 H2) : Step S H H2 := ⟨fun b o h n => a.keep b o (s _ _ h) n, fun b xs h => a.tups b xs (s _ _ h)⟩
/-- S' is S, but for what is new -/
def Own (H : Hp) (S S' : List Addr) : Prop := ∀ b ∈ S', b ∈ S ∨ H b = none
theorem Own.refl {H : Hp} {S : List Addr} : Own H S S := fun _ h => .inl h
theorem Step.trans {S S' : List Addr} {H H1 H2 : Hp} (a : Step S H H1) (b : Step S' H1 H2) (w : Own H S S') : Step S H H2 :=
  ⟨fun c o h n => b.keep c o (a.keep c o h n) fun hm => (w c hm).elim n (fun h1 => by rw [h1] at h; cases h), fun c xs h => b.tups c xs (a.tups c xs h)⟩
theorem Step.more {S T : List Addr} {H H' : Hp} (a : Step S H H') (h : ∀ b ∈ S, b ∈ T) : Step T H H' := ⟨fun b o e n => a.keep b o e fun hm => n (h b hm), a.tups⟩
theorem Step.free {S : List Addr} {H H' : Hp} {p : Addr} (a : Step S H H') (hp : H' p = none) (n : p ∉ S) : H p = none := by
  cases e : H p with
  | none => rfl
  | some o => rw [a.keep _ _ e n] at hp; cases hp
theorem But.step {t : Addr} {H H' : Hp} {l : List V} (b : But t H H') (ht : H t = some (.lst l)) : Step [t] H H' :=
  ⟨fun c o h n => b c o h fun e => n (by rw [e]; exact List.mem_cons_self), fun c xs h => b c _ h (ne_of h ht (by intro z; cases z))⟩
theorem Step.but {t : Addr} {H H' : Hp} (a : Step [t] H H') : But t H H' := fun b o h n => a.keep b o h fun hm => n (List.mem_singleton.mp hm)
theorem step_upd {S : List Addr} {H : Hp} {p : Addr} {o u : HO} (hp : p ∈ S) (h : H p = some u) (hu : ∀ xs, u ≠ .tup xs) : Step S H (upd H p o) :=
  ⟨fun b x e n => by rw [upd_ne (fun z => n (by rw [z]; exact hp))]; exact e, fun b xs e => by rw [upd_ne (ne_of e h fun z => hu xs z.symm)]; exact e⟩
theorem putH {S : List Addr} {H0 H H' : Hp} {k : Addr} {u o : HO} (st : Step S H0 H) (hm : k ∈ S) (h : H k = some u) (hu : ∀ xs, u ≠ .tup xs) (e : upd H k o = H') : Step S H0 H' ∧ But k H H' ∧ H' k = some o := by
  subst e
  exact ⟨st.trans (step_upd hm h hu) .refl, But.upd, upd_same⟩
theorem Step.sqT {K : PySem.W.Frag} {S : List Addr} {H H' : Hp} {a : Addr} {xs : List V} (s : Step S H H') (h : H a = some (.tup xs)) : SqT K H' a xs := Nk.sqT (s.tups _ _ h)
theorem putF_lookup {f g : Str} {y : V} {fs : List (Str × V)} : (putF f y fs).lookup g = if g = f then some y else fs.lookup g := lookup_putF ..
end Nk
/-! ### set(l) of a list of texts, sorted of it -/
namespace Nk
open PySem L2 PySem.Spec PyProof.Rows
def keyS (e : Int × Value) : Str := match e.2 with
  | .str x _ => x
  | _ => Str.empty
def GoodS (w : World) (e : Int × Value) : Prop := ∃ x tk, e.2 = Value.str x tk ∧ e.1 = hashStr w x
theorem textAt : ∀ {us : List Value} {xs : List Str}, StrsAre us xs → ∀ (i : Nat) (v : Value), us[i]? = some v → ∃ k t, xs[i]? = some k ∧ v = .str k t
  | _, _, .nil, i, v, z => by simp at z
  | _, _, .cons x t r, 0, v, z => ⟨x, t, rfl, (Option.some.inj z).symm⟩
  | _, _, .cons x t r, i + 1, v, z => textAt r i v z
/-- the set of texts at a, that can be walked -/
def SetS (w : World) (h : Heap) (a : Addr) (S : Str → Bool) (n : Nat) : Prop := ∃ o es ep t, h.get? a = some o ∧ o.ExactSet ∧ o.data = .set es ep t ∧ (∀ e ∈ es.toList, GoodS w e) ∧ (es.toList.map keyS).Nodup ∧
  (∀ k, S k = true ↔ k ∈ es.toList.map keyS) ∧ es.size < scanBound ∧ t.fits es.size = true ∧ es.size = n ∧ Ris t.place.toList ∧ (w.params.followText "set-order" = true ∨ t.led = true)
section
variable {P : Program} {w : World} {h h' : Heap} {a : Addr} {S : Str → Bool} {n : Nat} {A : Around} {E : Value → Shared → Prop} {s : Shared}
theorem SetS.at (R : SetS w h a S n) (k : ∀ o, h.get? a = some o → h'.get? a = some o) : SetS w h' a S n :=
  let ⟨o, es, ep, t, ho, r⟩ := R
  ⟨o, es, ep, t, k o ho, r⟩
theorem SetS.congr {S' : Str → Bool} (R : SetS w h a S n) (e : ∀ k, S' k = S k) : SetS w h a S' n := by
  obtain ⟨o, es, ep, t, h1, h2, h3, h4, h5, h6, r⟩ := R
  exact ⟨o, es, ep, t, h1, h2, h3, h4, h5, fun k => by rw [e]; exact h6 k, r⟩
theorem isS {x y : Str} {tk : Tok} : (strKind P w).is x (.str y tk) = true ↔ x = y := by
  constructor
  · intro z
    have z2 : Value.isStrOf x (.str y tk) = true := z
    obtain ⟨u, e⟩ := Value.isStrOf_shape z2
    cases e
    rfl
  · rintro rfl
    show Value.isStrOf x (.str x tk) = true
    simp [Value.isStrOf]
theorem elemsS {l : List (Int × Value)} (g : ∀ e ∈ l, GoodS w e) : ElemsOf (strKind P w) l := fun e he => by
  obtain ⟨x, tk, e1, e2⟩ := g e he
  rw [e1]
  exact ⟨⟨x, isS.mpr rfl, e2⟩, rfl⟩
theorem memS {l : List (Int × Value)} (g : ∀ e ∈ l, GoodS w e) (k : Str) : k ∈ l.map keyS ↔ ∃ e ∈ l, (strKind P w).is k e.2 = true := by
  rw [List.mem_map]
  constructor
  · rintro ⟨e, he, rfl⟩
    obtain ⟨x, tk, e1, _⟩ := g e he
    refine ⟨e, he, ?_⟩
    unfold keyS
    rw [e1]
    exact isS.mpr rfl
  · rintro ⟨e, he, z⟩
    obtain ⟨x, tk, e1, _⟩ := g e he
    rw [e1] at z
    refine ⟨e, he, ?_⟩
    unfold keyS
    rw [e1]
    exact (isS.mp z).symm
theorem storeS {o : Obj} {es es' : Array (Int × Value)} {ep : Nat} {t t' : SetTable} (ho : h.get? a = some o) (hd : o.data = .set es ep t) : (h.update a (Obj.putSet es' t')).get? a = some { o with data := .set es' (ep + 1) t' } := store_at ho hd
/-- the tail of an add -/
theorem tailS {g : Bool → Sem Unit} (hg : ∀ (b : Bool) (s₁ : Shared) (Q' : Unit → Shared → Prop), Q' () s₁ → wpAny (model P w) A (g b) Q' E s₁) {o : Obj} {es : Array (Int × Value)} {ep : Nat} {t : SetTable} (at_ : s.heap.get? a = some o) (ex : o.ExactSet) (dat : o.data = .set es ep t)
    {es1 : Array (Int × Value)} {t2 : SetTable} {S' : Str → Bool} (good : ∀ e ∈ es1.toList, GoodS w e) (once : (es1.toList.map keyS).Nodup) (mem : ∀ k, S' k = true ↔ k ∈ es1.toList.map keyS) (few : es1.size < scanBound) (fit : t2.fits es1.size = true) (ris : Ris t2.place.toList)
    (led : w.params.followText "set-order" = true ∨ t2.led = true) {wasDummy : Bool} {R : Option Bool → Shared → Prop} (fin : ∀ h', Heap.SameBut a s.heap h' → SetS w h' a S' es1.size → R (some true) { s with heap := h' }) :
    wpAny (model P w) A (do
      storeSet a es1 t2
      if (!wasDummy && t2.tooFull) = true then do
          g (relayAll t2 es1 (SetTable.grown es1.size)).2.2
          storeSet a (relayAll t2 es1 (SetTable.grown es1.size)).1 (relayAll t2 es1 (SetTable.grown es1.size)).2.1
          pure (some true)
        else pure (some true)) R E s := by
  have new1 := storeS (es' := es1) (t' := t2) at_ dat
  have but1 := Heap.SameBut.update s.heap a (Obj.putSet es1 t2)
  refine wpAny_bind (wpAny_storeSet_of at_ dat ?_ (fits_of_scanBound few))
  split
  · have z1 := relayAll_perm t2 es1 (SetTable.grown es1.size)
    have z2 := relayAll_fits t2 es1 (SetTable.grown es1.size)
    have z3 := relayAll_ris t2 es1 (SetTable.grown es1.size)
    have z4 := relayAll_led t2 es1 (SetTable.grown es1.size)
    generalize relayAll t2 es1 (SetTable.grown es1.size) = Z at z1 z2 z3 z4 ⊢
    obtain ⟨es2, t3, gave⟩ := Z
    dsimp only at z1 z2 z3 z4 ⊢
    have same : es2.size = es1.size := by
      have := z1.length_eq
      simpa using this
    refine wpAny_bind (hg _ _ _ ?_)
    refine wpAny_bind (wpAny_storeSet_of new1 rfl ?_ (fits_of_scanBound (by omega)))
    have new2 := storeS (es' := es2) (t' := t3) new1 rfl
    have zk := z1.map keyS
    exact wpAny_pure (fin _ (but1.trans (Heap.SameBut.update _ a _)) ⟨_, es2, _, t3, new2, ex, rfl, fun e he => good e (z1.mem_iff.mp he), zk.nodup_iff.mpr once, fun k => by rw [mem k, zk.mem_iff], by omega, z2, same, z3, led.imp id fun q => by rw [z4]; exact q⟩)
  · exact wpAny_pure (fin _ but1 ⟨_, es1, _, t2, new1, ex, rfl, good, once, mem, few, fit, rfl, ris, led⟩)
theorem addS {k : Str} {tk : Tok} {Q : Bool → Shared → Prop} (R : SetS w s.heap a S n) (room : n + 1 < scanBound)
    (fin : ∀ h', Heap.SameBut a s.heap h' → SetS w h' a (fun j => S j || decide (j = k)) (if S k = true then n else n + 1) → Q (!S k) { s with heap := h' }) : wpAny (model P w) A (setAddHashed a (.str k tk) ((strKind P w).hash k)) Q E s := by
  obtain ⟨o, es, ep, t, at_, ex, dat, good, once, mem, few, fit, num, ris, led⟩ := R
  have isk : (strKind P w).is k (.str k tk) = true := isS.mpr rfl
  have scn : (Value.str k tk).scannable = true := rfl
  have els : ElemsOf (strKind P w) es.toList := elemsS good
  unfold setAddHashed setAddHashedIn
  refine wpAny_holding (wpAny_bind (wpAny_setState_of at_ dat fit ?_))
  dsimp only
  rw [byScan_of scn few els]
  simp only [↓reduceIte]
  unfold setAddByScan
  refine wpAny_bind (wpAny_bind (wpAny_rule ?_))
  refine wpAny_bind (wpAny_setScan_of isk at_ dat fit els ?_)
  cases found : List.findIdx? (fun e => (strKind P w).is k e.2) es.toList with
  | some j =>
    dsimp only
    obtain ⟨lt, hit, _⟩ := List.findIdx?_eq_some_iff_getElem.mp found
    have old : S k = true := (mem k).2 ((memS (P := P) good k).2 ⟨_, List.getElem_mem lt, hit⟩)
    have q := fin s.heap (Heap.SameBut.refl a s.heap) ⟨o, es, ep, t, at_, ex, dat, good, once, fun i => by
      rw [Bool.or_eq_true, decide_eq_true_eq, ← mem i]
      exact ⟨fun z => z.elim id fun e => by rw [e]; exact old, .inl⟩, few, fit, by rw [if_pos old]; exact num, ris, led⟩
    rw [old] at q
    exact wpAny_pure (wpAny_pure q)
  | none =>
    dsimp only
    have new : k ∉ es.toList.map keyS := fun z => by
      obtain ⟨e, he, hit⟩ := (memS (P := P) good k).1 z
      rw [List.findIdx?_eq_none_iff.mp found e he] at hit
      cases hit
    have fresh : S k = false := by
      cases q : S k with
      | false => rfl
      | true => exact absurd ((mem k).1 q) new
    have gw : ∀ (b : Bool) {s₁ : Shared} {Q' : Unit → Shared → Prop}, Q' () s₁ → wpAny (model P w) A (match b with | true => rule "set.scan.the-table-gave-way" | false => pure ()) Q' E s₁ := fun b s₁ Q' q => by
      cases b
      · exact wpAny_pure q
      · exact wpAny_rule q
    have z1 := layNew_perm t es ((strKind P w).hash k) (.str k tk)
    have z2 := layNew_fits t es ((strKind P w).hash k) (.str k tk)
    have z3 := layNew_ris t es ((strKind P w).hash k) (.str k tk) ris
    have z4 := layNew_led t es ((strKind P w).hash k) (.str k tk)
    generalize layNew t es ((strKind P w).hash k) (.str k tk) = Z at z1 z2 z3 z4 ⊢
    obtain ⟨es1, t1, wasDummy, gave⟩ := Z
    dsimp only at z1 z2 z3 z4 ⊢
    rw [Array.toList_push] at z1
    have zc : es1.toList.Perm ((hashStr w k, Value.str k tk) :: es.toList) := z1.trans (List.perm_append_singleton _ _)
    have zk : (es1.toList.map keyS).Perm (k :: es.toList.map keyS) := zc.map keyS
    have good1 : ∀ e ∈ es1.toList, GoodS w e := fun e he => by
      rcases List.mem_cons.mp (zc.mem_iff.mp he) with z | z
      · subst z
        exact ⟨k, tk, rfl, rfl⟩
      · exact good e z
    have once1 : (es1.toList.map keyS).Nodup := zk.nodup_iff.mpr (List.nodup_cons.mpr ⟨new, once⟩)
    have mem1 : ∀ i, (S i || decide (i = k)) = true ↔ i ∈ es1.toList.map keyS := fun i => by
      rw [Bool.or_eq_true, decide_eq_true_eq, mem i, zk.mem_iff, List.mem_cons, or_comm]
    have size1 : es1.size = n + 1 := by
      have := zc.length_eq
      rw [Array.length_toList, List.length_cons, Array.length_toList, num] at this
      exact this
    have few1 : es1.size < scanBound := by omega
    have led1 : w.params.followText "set-order" = true ∨ t1.led = true := led.imp id fun z => by rw [z4]; exact z
    have last : ∀ h', Heap.SameBut a s.heap h' → SetS w h' a (fun j => S j || decide (j = k)) es1.size → Q true { s with heap := h' } := fun h' sb r => by
      have q := fin h' sb
      rw [fresh, if_neg Bool.false_ne_true, ← size1] at q
      exact q r
    refine wpAny_bind (gw _ ?_)
    split
    · refine wpAny_bind ?_
      rw [hashByValue_scannable 8 scn]
      refine wpAny_pure (tailS ?_ at_ ex dat good1 once1 mem1 few1 ?_ ?_ ?_ ?_)
      · intro b s₁ Q' q
        cases b
        · exact wpAny_pure q
        · exact wpAny_rule q
      · first | (split <;> first | exact z2 | exact SetTable.fits_plain_off z2) | exact z2
      · first | (split <;> exact z3) | exact z3
      · first | (split <;> exact led1) | exact led1
      · intro h' sb r
        dsimp only
        exact wpAny_pure (last h' sb r)
    · refine wpAny_bind (wpAny_pure ?_)
      simp only [↓reduceIte]
      refine tailS ?_ at_ ex dat good1 once1 mem1 few1 z2 z3 led1 ?_
      · intro b s₁ Q' q
        cases b
        · exact wpAny_pure q
        · exact wpAny_rule q
      · intro h' sb r
        dsimp only
        exact wpAny_pure (last h' sb r)
theorem setS_new {xs : List Str} (at_ : h.get? a = some { cls := .type "set", dict := none, data := .set #[] 0 (.fresh 0 0 (!w.params.followText "set-order")) }) : SetS w h a (fun j => decide (j ∈ xs.take 0)) 0 := by
  refine ⟨_, #[], 0, _, at_, ⟨rfl, rfl, rfl⟩, rfl, fun e he => by simp at he, by simp, fun k => by simp, by decide, by rfl, rfl, List.Pairwise.nil, ?_⟩
  show _ ∨ (!w.params.followText "set-order") = true
  cases w.params.followText "set-order" with
  | true => exact .inl rfl
  | false => exact .inr rfl
theorem loopS {I : Addr} {fp wr : List Addr} {G : Array GenState → Array GenState → Prop} {n : Nat} {Pv : Nat → Value → Prop} {St : Nat → Shared → Prop} {R : Result → Shared → Prop} (W : WalksS P w A.in1 I fp wr G n Pv St) (S : Addr) (off : S ∉ fp) (xs : List Str) (len : n = xs.length)
    (few : xs.length + 1 < scanBound) (val : ∀ i v, Pv i v → ∃ k t, xs[i]? = some k ∧ v = .str k t) : ∀ (k i : Nat) (s : Shared), n - i = k → i ≤ n → St i s → (∃ c, c ≤ i ∧ SetS w s.heap S (fun j => decide (j ∈ xs.take i)) c) →
      (∀ s' c, Moved (S :: wr) G s s' → c ≤ n → SetS w s'.heap S (fun j => decide (j ∈ xs)) c → R (.ok (.ret .none)) s') → codeAny (model P w) A (.builtin "set.update.loop" ⟨[.ref S, .ref I], []⟩) R s := by
  have offw : S ∉ wr := fun z => off (W.sub _ z)
  have wider : ∀ b ∈ wr, b ∈ S :: wr := fun b z => List.mem_cons_of_mem _ z
  intro k
  induction k with
  | zero =>
    intro i s ek le st ⟨c, hc, now⟩ fin
    obtain rfl : i = n := by omega
    refine codeAny_builtin F.entry_set_update_loop ?_
    rw [Around.under_plainId F.plain_set_update_loop _]
    refine wpAny_bind (W.done s _ _ st fun s' mv => wpAny_pure (fin s' c (mv.mono wider) hc ?_))
    rw [List.take_of_length_le (by omega)] at now
    exact now.at fun o e => mv.heap S o offw e
  | succ k ih =>
    intro i s ek le st ⟨c, hc, now⟩ fin
    have lt : i < n := by omega
    refine codeAny_builtin F.entry_set_update_loop ?_
    rw [Around.under_plainId F.plain_set_update_loop _]
    refine wpAny_bind (W.item i s _ _ lt st fun v s' pv st' mv => ?_)
    obtain ⟨z, t, hz, rfl⟩ := val i v pv
    have here : SetS w s'.heap S (fun j => decide (j ∈ xs.take i)) c := now.at fun o e => mv.heap S o offw e
    show wpAny _ A.in1 (holding [Value.str z t] (setAdd S (.str z t)) >>= _) _ _ s'
    refine wpAny_bind (wpAny_holding ?_)
    unfold setAdd
    refine wpAny_holding (wpAny_bind ((PySem.strKind P w).pyHash (k := z) (isS.mpr rfl) ?_))
    refine addS (s := { s' with toks := s'.toks + 1 }) here (by omega) fun h' sb after => ?_
    have after2 : SetS w h' S (fun j => decide (j ∈ xs.take (i + 1))) (if decide (z ∈ xs.take i) = true then c else c + 1) := after.congr fun j => by
      rw [List.take_add_one, hz]
      simp [List.mem_append]
    have le2 : (if decide (z ∈ xs.take i) = true then c else c + 1) ≤ i + 1 := by split <;> omega
    refine wpAny_pure ⟨plainId_quiet F.plain_set_update_loop _, ih (i + 1) _ (by omega) lt (W.frame _ s' _ _ st' (Nat.le_succ _) fun b hb o e => ?_) ⟨_, le2, after2⟩ fun s2 c2 mv2 hc2 done => ?_⟩
    · have nb : b ≠ S := fun q => off (q ▸ hb)
      rw [sb.2 b nb]
      exact e
    · refine fin s2 c2 (Moved.trans W.gtrans ((mv.mono wider).then_heap (Nat.le_succ _) fun b o hb e => ?_) mv2) hc2 done
      have nb : b ≠ S := fun q => hb (q ▸ List.mem_cons_self)
      rw [sb.2 b nb]
      exact e
end
section
variable {prog : Program} {w : World} {A : Around} {E : Value → Shared → Prop} {s : Shared}
set_option maxRecDepth 100000 in
set_option maxHeartbeats 3200000 in
theorem set_of_texts {l : Addr} {xs : Array Value} (ns : List Str) {Q : Value → Shared → Prop} (calm : A.handled = none) (isl : s.heap.IsList l xs) (hin : StrsAre xs.toList ns) (few : ns.length + 1 < scanBound)
    (fin : ∀ (g : Heap) (tk c : Nat), SetS w g s.heap.objs.size (fun j => decide (j ∈ ns)) c → c ≤ ns.length → (∀ b o, s.heap.get? b = some o → g.get? b = some o) → Q (.ref s.heap.objs.size) { s with heap := g, toks := tk }) :
    wpAny (model prog w) A (call (.type "set") [.ref l]) Q E s := by
  have size : xs.size = ns.length := by
    have := hin.length
    rwa [Array.length_toList] at this
  obtain ⟨m1, m2, hmro⟩ := F.called_set.mro
  have hm0 := F.called_set.made
  have hm1 := F.called_set.sub
  refine wpAny_call (codeAny_of_tree ?_)
  show wpAny _ _ (callAny (.type "set") _) _ _ _
  refine wpAny_pure ⟨Code.quiet_builtin _ (by decide +kernel), codeAny_builtin F.entry_type_call ?_⟩
  rw [Around.under_plain (weight_type_call_type "set" [.ref l] []) rfl]
  have hm2 := F.called_set.notType
  have hm3 := F.called_set.canCreate
  have hm4 := F.typeCall_set_1 (.ref l)
  repeat (any_goals (first | assumption | wp_step))
  refine codeAny_mono (code_set_led1 (.ref l) (E := E) (Q₁ := fun v s1 => v = .ref s.heap.objs.size ∧ s1 = { s with heap := s.heap.push (eSet w) }) ⟨rfl, rfl⟩) fun r s1 hr => ?_
  cases r with
  | error _ => exact hr
  | ok fl =>
    cases fl with
    | ret v =>
      obtain ⟨rfl, rfl⟩ := hr
      have at0 : (s.heap.push (eSet w)).get? s.heap.objs.size = some (eSet w) := Heap.get?_push_size _ rfl
      have ty0 : Shared.TypeIs { s with heap := s.heap.push (eSet w) } (.ref s.heap.objs.size) "set" := ⟨_, at0, rfl⟩
      have hi1 := F.called_set.init.lookup
      have hi2 := F.called_set.init.bind (.ref s.heap.objs.size)
      repeat (any_goals (first | assumption | wp_step))
      refine codeAny_mono (codeAny_call_builtin (R := wants (fun r s2 => r = .none ∧ ∃ g tk c, s2 = { s with heap := g, toks := tk } ∧ SetS w g s.heap.objs.size (fun j => decide (j ∈ ns)) c ∧ c ≤ ns.length ∧
          (∀ b o, s.heap.get? b = some o → g.get? b = some o)) E) F.called_set.init.plain F.entry_set_init (check_set_init_1 ty0 ?_)) fun r2 s2 hr2 => ?_
      · obtain ⟨ol, hol, hcl, nl, hdl⟩ := isl
        obtain ⟨k1, k2, k3, k4⟩ := ol
        simp only at hcl hdl
        subst hcl hdl
        have hol1 : (s.heap.push (eSet w)).get? l = some { cls := .type "list", dict := k2, data := .seq xs nl, slots := k4 } := Heap.get?_push_of_some _ hol
        have sub1 := F.sub_list_set
        have sub2 := F.sub_list_frozenset
        have nodict : (Value.type "list" == Value.type "dict") = false := by decide
        have isl1 : (s.heap.push (eSet w)).IsList l xs := ⟨_, hol1, rfl, nl, rfl⟩
        unfold Builtin.«set.__init__» noKeywords Builtin.Frozenset.updateFrom
        generalize hPI : pyIter = PI
        wp_walk
        subst hPI
        refine wpAny_pyIter_list isl1 ?_
        refine wpAny_bind (wpAny_runValue ?_)
        have lt0 : l < s.heap.objs.size := Heap.lt_size hol
        have calm3 : A.in1.in1.in1.handled = none := by simp [calm]
        have ne1 : l ≠ (s.heap.push (eSet w)).objs.size := by
          rw [Heap.size_push]
          exact Nat.ne_of_lt (Nat.lt_succ_of_lt lt0)
        have out1 : s.heap.objs.size ∉ [(s.heap.push (eSet w)).objs.size, l] := by
          rw [Heap.size_push]
          simp only [List.mem_cons, List.mem_singleton, List.not_mem_nil, or_false, not_or]
          exact ⟨Nat.ne_of_lt (Nat.lt_succ_self _), Nat.ne_of_gt lt0⟩
        have vals : ∀ (i : Nat) (v : Value), xs[i]? = some v → ∃ k t, ns[i]? = some k ∧ v = .str k t := fun i v hv => by
          have hi : i < ns.length := by
            rw [← size]
            exact (Array.getElem?_eq_some_iff.mp hv).1
          exact textAt hin i v (by rw [Array.getElem?_toList]; exact hv)
        refine loopS ((Walks.list calm3 _ l ne1 xs).toS) s.heap.objs.size out1 ns size few vals (xs.size - 0) 0 _ (by omega) (Nat.zero_le _) ⟨⟨_, Heap.get?_push_size _ rfl, rfl, rfl⟩, (isl1.push _)⟩ ?one ?two
        case one =>
          have at2 : ((s.heap.push (eSet w)).push { cls := .type "list_iterator", data := .fields #[.ref l, .int 0 0] }).get? s.heap.objs.size = some (eSet w) := Heap.get?_push_of_some _ at0
          exact ⟨0, Nat.le_refl 0, setS_new at2⟩
        case two =>
          intro s3 c3 mv hc3 R3
          obtain ⟨h3, g3, d3, t3, o3⟩ := s3
          have eg : g3 = s.gens := mv.gens
          have ed : d3 = s.drawn := mv.drawn
          have eo : o3 = s.os := mv.os
          subst eg ed eo
          show wpAny _ _ _ _ _ _
          refine wpAny_pure ?_
          show wpAny _ _ (ret Value.none) _ _ _
          rw [size] at hc3
          refine wpAny_pure ⟨rfl, h3, t3, c3, rfl, R3, hc3, fun b o e => ?_⟩
          have lb : b < s.heap.objs.size := Heap.lt_size e
          have nb1 : b ≠ s.heap.objs.size := Nat.ne_of_lt lb
          have nb2 : b ≠ (s.heap.push (eSet w)).objs.size := by
            rw [Heap.size_push]
            exact Nat.ne_of_lt (Nat.lt_succ_of_lt lb)
          refine mv.heap b o ?_ (Heap.get?_push_of_some _ (Heap.get?_push_of_some _ e))
          simp only [List.mem_cons, List.mem_singleton, List.not_mem_nil, or_false, not_or]
          exact ⟨nb1, nb2⟩
      · cases r2 with
        | error _ => exact hr2
        | ok fl2 =>
          cases fl2 with
          | ret _ =>
            obtain ⟨rfl, g, tk, c, rfl, R2, hc2, k2⟩ := hr2
            repeat (any_goals (first | assumption | wp_step))
            exact fin _ _ _ R2 hc2 k2
          | _ => exact hr2.elim
    | _ => exact hr.elim
end
end Nk
/-! ### sets of texts as values, texts sorted, dicts compared, own == and != -/
namespace Nk
open PySem L2 PySem.Spec PyProof.Rows
theorem sortedS_pw : ∀ {l : List Str}, sortedS l = true → l.Pairwise fun a b => ¬ sl b a
  | [], _ => .nil
  | [x], _ => by simp
  | x :: y :: r, h => by
    have h' : (!ltCps y.cps.toList x.cps.toList && risingS y r) = true := h
    rw [Bool.and_eq_true] at h'
    obtain ⟨h1, h2⟩ := h'
    have ih := sortedS_pw (l := y :: r) h2
    have hxy : ¬ sl y x := by rw [ltCps_eq] at h1; simpa [sl] using h1
    refine List.pairwise_cons.mpr ⟨fun z hz => ?_, ih⟩
    rcases List.mem_cons.mp hz with e | m
    · subst e; exact hxy
    · exact sl_ntrans hxy ((List.pairwise_cons.mp ih).1 z m)
theorem pw_strict {l : List Str} (h : l.Pairwise fun a b => ¬ sl b a) (nd : l.Nodup) : l.Pairwise sl := by
  refine List.Pairwise.imp (fun {a b} h => ?_) (h.and nd)
  obtain ⟨h1, h2⟩ := h
  by_cases c : sl a b
  · exact c
  · exact absurd (sl_tri c h1) h2
theorem strs_each : ∀ {us : List Value} {ks : List Str}, us.length = ks.length → (∀ (j : Nat) (v : Value), us[j]? = some v → ∃ (x : Str) (t : Tok), ks[j]? = some x ∧ v = Value.str x t) → StrsAre us ks
  | [], [], _, _ => .nil
  | [], _ :: _, hl, _ => by simp at hl
  | _ :: _, [], hl, _ => by simp at hl
  | u :: us, k :: ks, hl, h => by
    obtain ⟨x, t, e1, e2⟩ := h 0 u rfl
    obtain rfl : k = x := Option.some.inj e1
    subst e2
    refine .cons _ _ (strs_each (by simpa using hl) fun j v e => ?_)
    obtain ⟨x, t, a, b⟩ := h (j + 1) v (by simpa using e)
    exact ⟨x, t, by simpa using a, b⟩
def SetOS (w : World) (a : Addr) (S : Str → Bool) (n : Nat) : HO := .ext fun h => SetS w h a S n
theorem setOS_new {w : World} {P : Program} {H : Hp} {h : Heap} {a : Addr} {S : Str → Bool} {n : Nat} (R : SetS w h a S n) : ObjOk P w H h a (SetOS w a S n) := by
  obtain ⟨o, es, ep, t, ho, r⟩ := R
  exact ⟨⟨o, es, ep, t, ho, r⟩, ⟨o, ho⟩, fun h1 h2 p k => SetS.at p k⟩
section
variable {X : Cx}
def rSetLS (K : PySem.W.Frag) (w : World) : List V → Hp → VK → Prop := fun vs H Q => ∃ (a : Addr) (ns : List Str), vs = [V.ref a] ∧ SqL K H a (ns.map V.str) ∧ ns.length ≤ 4000 ∧
  ∀ (p : Addr) (c : Nat), H p = none → c ≤ ns.length → Q (.ref p) (upd H p (SetOS w p (fun j => decide (j ∈ ns)) c))
theorem cr_setLS (hc : X.calm = true) : CallR X (.type "set") (rSetLS X.K X.w) := by
  intro pins s σ H vs us Q I r h
  obtain ⟨a, ns, rfl, hs, hz, q⟩ := h
  obtain ⟨its, rv, hl, _⟩ := I.list hs
  rw [Vals.ref1 r]
  refine set_of_texts ns (I.ok.hd hc) hl.isList rv.strs (by unfold scanBound; omega) fun g tk c R hc k => ?_
  exact ⟨.ref _, _, I.laid (t' := tk) (o := SetOS X.w s.heap.objs.size (fun j => decide (j ∈ ns)) c) k (Nat.le_refl _) (setOS_new R), rfl, q _ c (I.hok.fresh (Nat.le_refl _)) hc⟩
/-- sorted of a set of texts -/
def rSortedSS (w : World) : List V → Hp → VK → Prop := fun vs H Q => ∃ (a : Addr) (S : Str → Bool) (n : Nat), vs = [V.ref a] ∧ H a = some (SetOS w a S n) ∧ n ≤ 10000 ∧
  ∀ (ns : List Str) (p : Addr), ns.Pairwise sl → (∀ k : Str, k ∈ ns ↔ S k = true) → H p = none → Q (.ref p) (upd H p (.lst (ns.map V.str)))
theorem cr_sortedSS (hcalm : X.calm = true) : CallR X (.builtin "sorted") (rSortedSS X.w) := by
  intro pins s σ H vs us Q I r h
  obtain ⟨a, S, n, rfl, ha, hn0, q⟩ := h
  rw [Vals.ref1 r]
  obtain ⟨o, es, ep, t, ho, hex, hd, g, nd, hm, hb, hf, hn, hr, hl⟩ := show SetS X.w s.heap a S n from (I.hok a _ ha).1
  refine Calls.call_function_entry PyProof.Rows.kind_sorted PyProof.Rows.plain_sorted PyProof.Rows.entry_sorted (PyProof.Rows.args_sorted1 _) ?_
  unfold Builtin.«sorted»
  refine wpAny_bind (m := checkCount "sorted" 1 1 _) (wpAny_pure ?_)
  refine wpAny_bind (collect_set (A := X.A.in1) (I.ok.hd hcalm) ⟨o, ho, hex.1, hd⟩ hf hb hr hl fun s1 us k1 hz g1 o1 pm => ?_)
  have hul : us.length = n := by
    rw [pm.length_eq, List.length_map, Array.length_toList]
    exact hn
  have hS : StrsAre us (us.map strOf) := strsAre_map us fun v hv => by
    obtain ⟨e, he, q⟩ := List.mem_map.mp (pm.mem_iff.mp hv)
    obtain ⟨k, tk, h1, _⟩ := g e he
    exact ⟨k, tk, by rw [← q]; exact h1⟩
  have pk : (us.map strOf).Perm (es.toList.map keyS) := by
    have z := pm.map strOf
    rw [List.map_map] at z
    refine z.trans (List.Perm.of_eq (List.map_congr_left fun e he => ?_))
    obtain ⟨k, tk, h1, _⟩ := g e he
    simp only [Function.comp, keyS, h1]
    rfl
  have hsz : us.length ≤ sizeLine := by
    rw [hul]
    exact sz (by omega)
  refine wpAny_bind (wpAny_newList ?_ hsz)
  have hoL : (s1.heap.push (seqObj "list" us.toArray 0)).get? s1.heap.objs.size = some (seqObj "list" us.toArray 0) := Heap.get?_push_size _ rfl
  refine wpAny_bind (wpAny_holding (wpAny_call_entry PyProof.Rows.slot_list_sort ⟨_, hoL, rfl⟩ PyProof.Rows.entry_list_sort
    (list_sort_treeKAny strKind_oneLt hoL hS.keysOf (fun v₁ v₂ rest e => keyKind_strs (by rw [← e]; exact hS)) hsz fun st' hp hs => ⟨_, rfl, ?_⟩) (PyProof.Rows.args_list_sort _)))
  obtain ⟨ss, c1, c2, c3⟩ := sorted_out_str hS hp hs
  generalize hout : (arrOf st').map (·.2) = out at c1 ⊢
  obtain ⟨e', he'⟩ := PyProof.Rows.sortedHeap_at (vs := us) (out := out) hoL
  have pn : ss.Perm (es.toList.map keyS) := c2.trans pk
  have hlen : (ss.map V.str).length ≤ sizeLine := by
    rw [List.length_map, c2.length_eq, List.length_map]
    exact hsz
  have hnone : H s1.heap.objs.size = none := I.hok.fresh hz
  have old : ∀ b u, s.heap.get? b = some u → (PyProof.Rows.sortedHeap (s1.heap.push (seqObj "list" us.toArray 0)) s1.heap.objs.size us out).get? b = some u := fun b u e => by
    have z := k1 b u e
    have lt := Heap.lt_size z
    rw [PyProof.Rows.sortedHeap_old (Nat.ne_of_lt lt) (by rw [size_push']; exact Nat.lt_succ_of_lt lt)]
    exact Heap.get?_push_of_some _ z
  have J : Inv X pins σ (upd H s1.heap.objs.size (.lst (ss.map V.str))) { s with heap := PyProof.Rows.sortedHeap (s1.heap.push (seqObj "list" us.toArray 0)) s1.heap.objs.size us out, gens := s1.gens, drawn := s1.drawn, toks := s1.toks } :=
    I.call (ch := []) (Un.laid old hz hnone) (I.hok.laid old hz ⟨hlen, out.toList, e', vals_of_strs c1, he'⟩) (by rw [g1]; exact I.bare) (fun _ z => nomatch z)
  refine wpAny_pure ⟨_, rfl, .ref s1.heap.objs.size, _, ?_, rfl, q _ _ (pw_strict (sortedS_pw c3) (pn.nodup_iff.mpr nd)) (fun k => by rw [pn.mem_iff, ← hm k]) hnone⟩
  have eo : s1.os = s.os := o1
  rw [← eo] at J
  exact J
/-- sorted(d.keys()), texts -/
def rSortedKS : List V → Hp → VK → Prop := fun xs H Q => ∃ (v d : Addr) (kvs : List (Key × V)) (ks : List Str), xs = [.ref v] ∧ H v = some (KeysO v d) ∧ H d = some (.dK kvs) ∧ kvs.map (·.1) = ks.map Sum.inr ∧ ks.Nodup ∧
  ∀ (ys : List Str) (p : Addr), ys.Pairwise sl → (∀ k, k ∈ ys ↔ k ∈ ks) → H p = none → Q (.ref p) (upd H p (.lst (ys.map V.str)))
theorem cr_sortedKS (hcalm : X.calm = true) : CallR X (.builtin "sorted") rSortedKS := by
  intro pins s σ H xs us Q I r q
  obtain ⟨v, a, kvs, ks, ex, hv, hd, hks, hnd, q⟩ := q
  subst ex
  obtain ⟨u, eu, rx⟩ := vals1 r
  subst eu
  cases rx
  have hview : PySem.W.KdlKeysView s.heap v a := (I.hok v _ hv).1
  obtain ⟨z, lo, vs, rel, dd⟩ := I.hok a _ hd
  obtain ⟨ep, hat⟩ := dd.dictAt
  have hkeys : vs.map (·.1) = ks.map Sum.inr := rel.keys.symm.trans hks
  have hl : vs.length = ks.length := by
    have e := congrArg List.length hkeys
    rw [List.length_map, List.length_map] at e
    exact e
  have hl2 : kvs.length = vs.length := Paired.length rel
  have h16 : vs.length ≤ sizeLine := by omega
  refine Calls.call_function_entry PyProof.Rows.kind_sorted PyProof.Rows.plain_sorted PyProof.Rows.entry_sorted (PyProof.Rows.args_sorted1 _) ?_
  unfold Builtin.«sorted»
  refine wpAny_bind (m := checkCount "sorted" 1 1 _) (wpAny_pure ?_)
  refine wpAny_bind (PySem.W.kdu_collect (A := X.A.in1) (PySem.W.kdl_keys (knd := mixKind X.prog X.w) (r := v) (d := a) (kvs := vs) (ep := ep)) (I.ok.hd hcalm) ⟨hview, hat⟩ h16 fun h' tk acc hk hacc => ?_)
  have hal : acc.toList.length = ks.length := by rw [Array.length_toList, hacc.1, hl]
  have hS : StrsAre acc.toList ks := strs_each hal fun j v e => by
    obtain ⟨k, x, e1, e2⟩ := hacc.2 j v (by rw [← Array.getElem?_toList]; exact e)
    have e3 : (vs.map (·.1))[j]? = some k := by rw [List.getElem?_map, e1]; rfl
    rw [hkeys, List.getElem?_map] at e3
    cases e4 : ks[j]? with
    | none => rw [e4] at e3; cases e3
    | some y =>
      rw [e4] at e3
      have e5 : Sum.inr y = k := Option.some.inj e3
      subst e5
      rcases keyIs_shape (show keyIs (Sum.inr y) v = true from e2) with ⟨i, t, ek, ev⟩ | ⟨z, t, ek, ev⟩
      · cases ek
      · cases ek
        exact ⟨y, t, rfl, ev⟩
  have hsz : acc.toList.length ≤ sizeLine := by rw [hal]; omega
  have I1 : Inv X pins σ H { s with heap := h', toks := tk } := I.kept hk
  refine wpAny_bind (wpAny_newList ?_ hsz)
  have hoL : (h'.push (seqObj "list" acc.toList.toArray 0)).get? h'.objs.size = some (seqObj "list" acc.toList.toArray 0) := Heap.get?_push_size _ rfl
  show wpAny _ _ _ _ _ { s with heap := h'.push (seqObj "list" acc.toList.toArray 0), toks := tk }
  refine wpAny_bind (wpAny_holding (wpAny_call_entry PyProof.Rows.slot_list_sort ⟨_, hoL, rfl⟩ PyProof.Rows.entry_list_sort
    (list_sort_treeKAny (s := { s with heap := h'.push (seqObj "list" acc.toList.toArray 0), toks := tk }) strKind_oneLt hoL hS.keysOf (fun v₁ v₂ rest e => keyKind_strs (by rw [← e]; exact hS)) hsz fun st' hp hs => ⟨_, rfl, ?_⟩) (PyProof.Rows.args_list_sort _)))
  obtain ⟨ss, k1, k2, k3⟩ := sorted_out_str hS hp hs
  generalize hout : (arrOf st').map (·.2) = out at k1 ⊢
  obtain ⟨e', he'⟩ := PyProof.Rows.sortedHeap_at (vs := acc.toList) (out := out) hoL
  have hlen : (ss.map V.str).length ≤ sizeLine := by
    rw [List.length_map, k2.length_eq]
    omega
  refine wpAny_pure ⟨_, rfl, .ref h'.objs.size, upd H h'.objs.size (.lst (ss.map V.str)), I1.laid (t' := tk) (fun b u e => ?_) (Nat.le_refl _)
    (show ObjOk X.prog X.w _ _ _ (.lst (ss.map V.str)) from ⟨hlen, out.toList, e', vals_of_strs k1, he'⟩), rfl, q _ _ (pw_strict (sortedS_pw k3) (k2.nodup_iff.mpr hnd)) (fun k => k2.mem_iff) (I1.hok.fresh (Nat.le_refl _))⟩
  have hb : b < h'.objs.size := Heap.lt_size e
  rw [PyProof.Rows.sortedHeap_old (Nat.ne_of_lt hb) (by rw [size_push']; exact Nat.lt_succ_of_lt hb)]
  exact Heap.get?_push_of_some _ e
/-- list(d.keys()) -/
def rListKeys : List V → Hp → VK → Prop := fun xs H Q => ∃ (v a : Addr) (kvs : List (Key × V)), xs = [.ref v] ∧ H v = some (KeysO v a) ∧ H a = some (.dK kvs) ∧ ∀ p, H p = none → Q (.ref p) (upd H p (.lst (kvs.map fun kv => kV kv.1)))
theorem call_listKeys (hcalm : X.calm = true) : CallR X (.type "list") rListKeys := by
  intro pins s σ H xs us Q I r q
  obtain ⟨v, a, kvs, rfl, hv, hd, q⟩ := q
  rw [Vals.ref1 r]
  have hview : PySem.W.KdlKeysView s.heap v a := (I.hok v _ hv).1
  obtain ⟨z, lo, vs, rel, dd⟩ := I.hok a _ hd
  obtain ⟨ep, hat⟩ := dd.dictAt
  have ek : (kvs.map fun kv => kV kv.1) = vs.map fun p => kV p.1 := by
    have e := congrArg (List.map kV) rel.keys
    rw [List.map_map, List.map_map] at e
    exact e
  refine PySem.W.kdl_call (PySem.W.kdl_keys (knd := mixKind X.prog X.w) (r := v) (d := a) (kvs := vs) (ep := ep)) (I.ok.hd hcalm) ⟨hview, hat⟩ (by rw [← rel.length]; exact z) fun h' tk acc c' hk hD hacc => ?_
  have hv : Vals (vs.map fun p => kV p.1) acc.toList := keys_at (by rw [Array.length_toList]; exact hacc.1) fun j v e => hacc.2 j v (by rw [← Array.getElem?_toList]; exact e)
  exact ⟨.ref s.heap.objs.size, upd H s.heap.objs.size (.lst (kvs.map fun kv => kV kv.1)), I.laid (t' := tk) hk (Nat.le_refl _)
    (show ObjOk X.prog X.w _ _ _ (.lst (kvs.map fun kv => kV kv.1)) from ⟨by rw [List.length_map]; exact z, acc.toList, c', by rw [ek]; exact hv, by rw [Array.toArray_toList]; exact hD⟩), rfl, q _ (I.hok.fresh (Nat.le_refl _))⟩
/-! dicts compared -/
def hitB (ls : List (Key × V)) : List (Key × V) → Bool
  | [] => true
  | p :: r => match valV ls p.1 with
    | none => false
    | some u => eqV p.2 u && hitB ls r
def eqDk (ks ls : List (Key × V)) : Bool := ks.length == ls.length && hitB ls ks
def FlatK (ks : List (Key × V)) : Prop := ∀ p ∈ ks, flatV p.2 = true
theorem FlatK.val {ls : List (Key × V)} (h : FlatK ls) {k : Key} {u : V} (e : valV ls k = some u) : flatV u = true := by
  unfold valV at e
  cases e2 : ls.find? fun kv => decide (kv.1 = k) with
  | none => rw [e2] at e; cases e
  | some p =>
    rw [e2] at e
    have := h p (List.mem_of_find?_eq_some e2)
    have e3 : p.2 = u := Option.some.inj e
    rw [← e3]; exact this
theorem hits_any {A : Around} {s : Shared} {ls : List (Key × V)} {vb : List (Key × Value)} (rb : L2.KV ls vb) (fb : FlatK ls) {ks : List (Key × V)} {va : List (Key × Value)} (ra : L2.KV ks va) : FlatK ks → PySem.W.KeqHits A s vb va (hitB ls ks) := by
  unfold L2.KV at ra
  induction ra with
  | nil => intro _; exact .nil
  | @cons p q ps qs h t ih =>
    intro hp
    obtain ⟨h1, h2⟩ := h
    obtain ⟨k, v⟩ := q
    have h1' : p.1 = k := h1
    have rr := rb.val p.1
    unfold hitB
    cases e : valV ls p.1 with
    | none =>
      rw [e] at rr
      have : valueAt vb k = none := by
        rw [← h1']
        cases e2 : valueAt vb p.1 with
        | none => rfl
        | some y => rw [e2] at rr; cases rr
      exact .miss this
    | some u =>
      rw [e] at rr
      obtain ⟨y, hy, ry⟩ := rr.some_of
      rw [h1'] at hy
      exact .hit hy (eqAt_V h2 ry (hp p List.mem_cons_self) (fb.val e)) (ih fun p' hm => hp p' (List.mem_cons_of_mem _ hm))
def rEqDk (neg : Bool) : R2 := fun x y H Q => ∃ a b ks ls, x = .ref a ∧ y = .ref b ∧ H a = some (.dK ks) ∧ H b = some (.dK ls) ∧ FlatK ks ∧ FlatK ls ∧ Q (.bl (if neg then !eqDk ks ls else eqDk ks ls)) H
theorem op_eqDk (hu : X.A.units < cLine) : OpR X (compareOp .Eq) (rEqDk false) := by
  intro pins s σ H x y v u Q I rx ry h
  obtain ⟨a, b, ks, ls, rfl, rfl, ea, eb, fa, fb, q⟩ := h
  obtain rfl : v = Value.ref a := rx
  obtain rfl : u = Value.ref b := ry
  obtain ⟨_, ya, va, ra, da⟩ := (show ObjOk X.prog X.w H s.heap a (.dK ks) from I.hok a _ ea)
  obtain ⟨_, yb, vb, rb, db⟩ := (show ObjOk X.prog X.w H s.heap b (.dK ls) from I.hok b _ eb)
  have hl : (va.length == vb.length) = (ks.length == ls.length) := by rw [← ra.length, ← rb.length]
  exact PySem.W.keq_eq (knd := mixKind X.prog X.w) (r := hitB ls ks) ya yb da db hu (fun _ => hits_any rb fb ra fa) (fin_bl I q (by rw [hl]; rfl))
theorem op_neDk (hu : X.A.units < cLine) : OpR X (compareOp .NotEq) (rEqDk true) := by
  intro pins s σ H x y v u Q I rx ry h
  obtain ⟨a, b, ks, ls, rfl, rfl, ea, eb, fa, fb, q⟩ := h
  obtain rfl : v = Value.ref a := rx
  obtain rfl : u = Value.ref b := ry
  obtain ⟨_, ya, va, ra, da⟩ := (show ObjOk X.prog X.w H s.heap a (.dK ks) from I.hok a _ ea)
  obtain ⟨_, yb, vb, rb, db⟩ := (show ObjOk X.prog X.w H s.heap b (.dK ls) from I.hok b _ eb)
  have hl : (va.length == vb.length) = (ks.length == ls.length) := by rw [← ra.length, ← rb.length]
  exact PySem.W.keq_ne (knd := mixKind X.prog X.w) (r := hitB ls ks) ya yb da db hu (fun _ => hits_any rb fb ra fa) (fin_bl I q (by rw [hl]; rfl))
/-- d.update(another dict) -/
def rUpdD : V → List V → Hp → VK → Prop := fun x xs H Q => ∃ (a b : Addr) (ks ls : List (Key × V)), x = .ref a ∧ xs = [.ref b] ∧ a ≠ b ∧ H a = some (.dK ks) ∧ H b = some (.dK ls) ∧ ks.length + ls.length ≤ 100000 ∧ Q .non (upd H a (.dK (mergeK ks ls)))
theorem mergeK_len : ∀ (ls ks : List (Key × V)), (mergeK ks ls).length ≤ ks.length + ls.length
  | [], ks => Nat.le_refl _
  | p :: r, ks => by
    have h1 := mergeK_len r (putK ks p.1 p.2)
    have h2 := length_putK ks p.1 p.2
    show (mergeK (putK ks p.1 p.2) r).length ≤ _
    rw [List.length_cons]
    omega
theorem mt_updD : MtR X "dict.update" rUpdD := by
  intro pins s σ H x xs v us Q I rx rxs h
  obtain ⟨a, b, ks, ls, rfl, rfl, hab, ea, eb, hz, q⟩ := h
  cases rx
  rw [Vals.ref1 rxs]
  obtain ⟨_, ya, va, ra, da⟩ := (show ObjOk X.prog X.w H s.heap a (.dK ks) from I.hok a _ ea)
  obtain ⟨_, yb, vb, rb, db⟩ := (show ObjOk X.prog X.w H s.heap b (.dK ls) from I.hok b _ eb)
  refine call_meetsIn F.slot_dict_update da.typeIs F.entry_dict_update (F.args_dict_update_2 _ _) (meets_dict_update (mixKind X.prog X.w) a b hab yb) ⟨va, vb, da, db, by rw [← ra.length, ← rb.length]; exact sz hz, fun h' hm _ hs => ?_⟩
  have he : ∃ q, h'.get? a = some q := let ⟨q, _, _, hq, _⟩ := hm; ⟨q, hq⟩
  have hl := mergeK_len ls ks
  exact ⟨.non, _, d_write I (by rw [ea]; exact True.intro) hs he (dk_new (sz (by omega)) ya (L2.KV.merge rb ra) hm), rfl, q⟩
end
/-! own == and != -/
section
variable {X : Cx} {CX : CXT} {k : Nat} {ps : List Str} {sp : Sp} {c : Str} {E : XK}
/-- a class with an own __eq__, its != is object's -/
structure Eo2 (K : PySem.W.Frag) (mg : Str → Option Value) (c : Str) : Prop where
  ne : PySem.W.findIn K (.ref (cls mg c)) "__ne__" = some (some (.builtin "object.__ne__"))
  sub : PySem.W.subIn K (.ref (cls mg c)) (.type "object") = some true
  ha : PySem.W.findIn K (.ref (cls mg c)) "__class__" = some (some (.builtin "object.__class__"))
  hn : PySem.W.specialIn K (.builtin "object.__class__") "__get__" = some (some (.builtin "getset_descriptor.__get__"))
  htk : PySem.W.takesIn K (.builtin "object.__class__") = some true
  hm : PySem.W.mroIn K (cls mg c) (.type "object") = some true
theorem eo2_mk {K : PySem.W.Frag} {h : Heap} {mg : Str → Option Value} {c : Str} {C : Addr} (X : K.In h) (G : h.Ns mainGlobals mg) (aC : PySem.W.nsIn K mainGlobals c = some (some (.ref C)))
    (ne : PySem.W.findIn K (.ref C) "__ne__" = some (some (.builtin "object.__ne__"))) (sub : PySem.W.subIn K (.ref C) (.type "object") = some true)
    (ha : PySem.W.findIn K (.ref C) "__class__" = some (some (.builtin "object.__class__"))) (hn : PySem.W.specialIn K (.builtin "object.__class__") "__get__" = some (some (.builtin "getset_descriptor.__get__")))
    (htk : PySem.W.takesIn K (.builtin "object.__class__") = some true) (hm : PySem.W.mroIn K C (.type "object") = some true) : Eo2 K mg c := by
  have e := cls_of (PySem.W.mg_of X G aC)
  exact ⟨by rw [e]; exact ne, by rw [e]; exact sub, by rw [e]; exact ha, hn, htk, by rw [e]; exact hm⟩
/-- isinstance of an instance and its own class -/
theorem isi_own {K : PySem.W.Frag} {H : Hp} {mg : Str → Option Value} {c : Str} {a dx : Addr} {fs : List (Str × V)} {Q : VK} (O : Oc K mg c) (N : Eo2 K mg c) (h : H a = some (.ins (cls mg c) dx fs)) (q : Q (.bl true) H) : rIsi K [.ref a, .ref (cls mg c)] H Q :=
  ⟨_, _, _, _, true, rfl, .own _, .base (.ins h O.cl N.ha N.hn N.htk N.hm), by unfold PySem.W.kitOne; simp, q⟩
def rEqO (C : Addr) (sp : Sp) (E : XK) (neg : Bool) : R2 := fun x y H Q => ∃ a b dx dy fs gs, x = .ref a ∧ y = .ref b ∧ H a = some (.ins C dx fs) ∧ H b = some (.ins C dy gs) ∧ sp [.ref a, .ref b] H (fun v H' => ∃ r, v = .bl r ∧ Q (.bl (if neg then !r else r)) H') E
theorem op_eqO (M : Mo X.prog X.w X.K X.mg X.base CX k c "__eq__" ps sp) (hr : Room k X.A) (hx : Passes CX X E) : OpR X (compareOp .Eq) (rEqO (cls X.mg c) sp E false) := by
  intro pins s σ H x y v u Q I rx ry h
  obtain ⟨a, b, dx, dy, fs, gs, rfl, rfl, ha, hb, q⟩ := h
  cases rx
  cases ry
  obtain ⟨f, fd, h1, h2, h3⟩ := M.ex
  obtain ⟨mA, J, _⟩ := ins_get I.hok ha
  obtain ⟨mB, J', _⟩ := ins_get I.hok hb
  obtain ⟨od, J, _⟩ := J.look
  obtain ⟨od', J', _⟩ := J'.look
  obtain ⟨m, hF⟩ := I.fr
  have hl := h3.len _ _ _ _ q
  have r2 : Vals [V.ref a, V.ref b] [Value.ref a, Value.ref b] := .cons rfl (.cons rfl .nil)
  refine PySem.W.cmp_K (op := .Eq) (tb := .ref (cls X.mg c)) hr.units0 hF I.ok.mod.kin J J'.type (by simp [PySem.W.notFirst]) h1.at_ h1.fn ?_
  refine wpAny_call (codeAny_mono (h3.run X.A X.stack s H ⟨[.ref a, .ref b], []⟩ [.ref a, .ref b] [.ref a, .ref b] _ E hr I.env0 (by
    have := h2 s [.ref a, .ref b] I.kIn (by simpa using hl)
    simpa using this) r2 q) fun r s' hq => ?_)
  cases r with
  | error e => exact hx pins σ H s e s' I hq
  | ok fl =>
    cases fl with
    | ret w =>
      obtain ⟨z, H', I', rz, r, ez, q2⟩ := I.after hq
      subst ez
      cases rz
      exact ⟨.bl r, H', I', rfl, q2⟩
    | next => exact False.elim hq
    | brk => exact False.elim hq
    | cont => exact False.elim hq
theorem ifBound_B {prog : Program} {w : World} {A : Around} {E' : Value → Shared → Prop} {s : Shared} {K : PySem.W.Frag} {a C : Addr} {ox : Obj} {od : Option Obj} {name : Str} {id : String} {args : List Value} {Q : Option Value → Shared → Prop} (X : K.In s.heap) (I : PySem.W.InstAt s.heap a ox C od)
    (hs : PySem.W.findIn K (.ref C) name = some (some (.builtin id))) (hb : ∀ self, bindSpecial (.builtin id) self = pure (.builtin id, [self])) (h : wpAny (model prog w) A (call (.builtin id) (.ref a :: args)) (fun v => Q (some v)) E' s) : wpAny (model prog w) A (callSpecialIfBound? (.ref a) name args) Q E' s := by
  simp only [callSpecialIfBound?, bindSpecialIfBound?]
  refine wpAny_holding (wpAny_bind (wpAny_bind (wpAny_bind (I.type.here ((PySem.W.looks_findIn X hs).here ?_)))))
  simp only [hb]
  have fin : wpAny (model prog w) A (call (.builtin id) ([.ref a] ++ args) >>= fun v => pure (some v)) Q E' s := wpAny_bind (wpAny_mono h (fun v s' h' => wpAny_pure h') fun _ _ h' => h')
  refine wpAny_bind (wpAny_askSetting (wpAny_ite ?_))
  split
  · exact wpAny_bind (wpAny_pure (wpAny_pure fin))
  · exact wpAny_tryCatch (wpAny_bind (wpAny_pure (wpAny_pure fin)))
theorem op_neO (N : Eo2 X.K X.mg c) (M : Mo X.prog X.w X.K X.mg X.base CX k c "__eq__" ps sp) (hr : Room (k + 1) X.A) (hx : Passes CX X E) : OpR X (compareOp .NotEq) (rEqO (cls X.mg c) sp E true) := by
  intro pins s σ H x y v u Q I rx ry h
  obtain ⟨a, b, dx, dy, fs, gs, rfl, rfl, ha, hb, q⟩ := h
  cases rx
  cases ry
  obtain ⟨f, fd, h1, h2, h3⟩ := M.ex
  obtain ⟨mA, J, _⟩ := ins_get I.hok ha
  obtain ⟨mB, J', _⟩ := ins_get I.hok hb
  obtain ⟨od, J, _⟩ := J.look
  obtain ⟨od', J', _⟩ := J'.look
  obtain ⟨m, hF⟩ := I.fr
  have hK := I.kIn
  have hl := h3.len _ _ _ _ q
  have r2 : Vals [V.ref a, V.ref b] [Value.ref a, Value.ref b] := .cons rfl (.cons rfl .nil)
  show wpAny (model X.prog X.w) X.A (richCompare .NotEq (.ref a) (.ref b)) (EP X pins σ Q) X.xe s
  have eqc : wpAny (model X.prog X.w) X.A.in1 (call (.ref f) [.ref a, .ref b]) (fun v s' => ∃ r, v = .bool r ∧ EP X pins σ Q (.bool (!r)) s') X.xe s := by
    refine wpAny_call (codeAny_mono (h3.run X.A.in1 X.stack s H ⟨[.ref a, .ref b], []⟩ [.ref a, .ref b] [.ref a, .ref b] _ E hr.in1 I.env0.in1 (by
      have := h2 s [.ref a, .ref b] I.kIn (by simpa using hl)
      simpa using this) r2 q) fun r s' hq => ?_)
    cases r with
    | error e => exact hx pins σ H s e s' I hq
    | ok fl =>
      cases fl with
      | ret w =>
        obtain ⟨z, H', I', rz, r, ez, q2⟩ := I.after hq
        subst ez
        cases rz
        exact ⟨r, rfl, .bl _, H', I', rfl, q2⟩
      | next => exact False.elim hq
      | brk => exact False.elim hq
      | cont => exact False.elim hq
  have t2 : PySem.W.Looks (model X.prog X.w) s.heap (isInstance (.ref a) (.type "object")) true := J.type.andThen (PySem.W.looks_subIn hK N.sub)
  have one : wpAny (model X.prog X.w) X.A (tryCompare (.ref a) "__ne__" (.ref b)) (fun r s' => ∃ v, r = some v ∧ EP X pins σ Q v s') X.xe s := by
    unfold tryCompare
    refine wpAny_bind (ifBound_B hK J N.ne PySem.F.slot_object_ne.bind (wpAny_call (codeAny_call_builtin PySem.F.slot_object_ne.plain PySem.F.entry_object_ne
      (@PySem.W.check_slot (model X.prog X.w) _ _ _ "object.__ne__" "object" "__ne__" (.ref a) [.ref b] [] _ (by decide +kernel) (by decide +kernel) t2 (PySem.F.args_object_ne_2 _ _) ?_))))
    unfold Builtin.«object.__ne__»
    refine wpAny_bind (wpAny_pure ?_)
    refine wpAny_bind (wpAny_cRoomFor (by have := hr.units; show X.A.units + 1 < _; omega) ?_)
    refine wpAny_bind (PySem.W.ifBound_K hK J h1.at_ h1.fn (wpAny_mono eqc (fun v s' hv => ?_) fun _ _ e => e))
    obtain ⟨r, rfl, q2⟩ := hv
    refine wpAny_bind (wpAny_truthy_bool ?_)
    exact wpAny_pure (wpAny_pure ⟨_, rfl, q2⟩)
  unfold richCompare
  simp only [oneThing_ref]
  refine wpAny_holding (wpAny_bind (wpAny_cRoomFor hr.units0 ?_))
  refine wpAny_bind (J.type.here (wpAny_bind (J'.type.here ?_)))
  rw [if_neg (by simp)]
  refine wpAny_bind (wpAny_pure ?_)
  simp only [Bool.false_eq_true, if_false]
  refine wpAny_bind (wpAny_mono one (fun r s' z => ?_) fun _ _ e => e)
  obtain ⟨v, rfl, hq⟩ := z
  exact wpAny_pure hq
/-- a list of texts of the top -/
structure Cl (K : PySem.W.Frag) (mg : Str → Option Value) (x : Str) (ss : List Str) : Prop where
  g : mg x = some (.ref (cls mg x))
  l : ∃ (o : Obj) (its : Array Value) (n : Nat), K.lookup (cls mg x) = some o ∧ o.cls = .type "list" ∧ o.dict = none ∧ o.data = .seq its n ∧ its.size ≤ sizeLine ∧ Vals (ss.map V.str) its.toList
theorem Cl.sq {K : PySem.W.Frag} {mg : Str → Option Value} {x : Str} {ss : List Str} (h : Cl K mg x ss) (H : Hp) : SqL K H (cls mg x) (ss.map V.str) := .inr h.l
theorem cl_mk {K : PySem.W.Frag} {h : Heap} {mg : Str → Option Value} {x : Str} {C : Addr} {s1 s2 s3 : Str} {t1 t2 t3 : Tok} {n : Nat} {sl : Array (Option Value)} (X : K.In h) (G : h.Ns mainGlobals mg) (a : PySem.W.nsIn K mainGlobals x = some (some (.ref C)))
    (l : K.lookup C = some ⟨.type "list", none, .seq #[.str s1 t1, .str s2 t2, .str s3 t3] n, sl⟩) : Cl K mg x [s1, s2, s3] := by
  have e := cls_of (PySem.W.mg_of X G a)
  exact ⟨by rw [e]; exact PySem.W.mg_of X G a, by rw [e]; exact ⟨_, _, _, l, rfl, rfl, rfl, by show 3 ≤ sizeLine; decide, .cons ⟨_, rfl⟩ (.cons ⟨_, rfl⟩ (.cons ⟨_, rfl⟩ .nil))⟩⟩
end
end Nk
namespace L2
open PySem PySem.Spec PyProof.Rows
def EqR2 (K : PySem.W.Frag) (H : Hp) (E : V → V → Prop) (x y : V) : Prop :=
  EqR K H E x y ∨ ∃ a b xs ys, x = .ref a ∧ y = .ref b ∧ SqT K H a xs ∧ SqT K H b ys ∧ Paired E xs ys
/-- equal, of nesting below n, tuples too -/
def EqV2 (K : PySem.W.Frag) (H : Hp) : Nat → V → V → Prop
  | 0 => fun _ _ => False
  | n + 1 => fun x y => (x = y ∧ flatB x = true) ∨ (∃ a, x = .ref a ∧ y = .ref a) ∨ EqR2 K H (EqV2 K H n) x y
section
variable {X : Cx} {pins : List (Addr × Obj)} {σ : St} {H : Hp} {s : Shared}
theorem eqR2_run (I : Inv X pins σ H s) {A : Around} {F : V → V → Prop} (hu : A.units < cLine) (ih : ∀ x y v u, F x y → RelV x v → RelV y u → SeqAt.EqP X.prog X.w A.in1 s v u true) {x y : V} {v u : Value} (h : EqR2 X.K H F x y) (rx : RelV x v) (ry : RelV y u)
    (E Q : Value → Shared → Prop) (q : Q (.bool true) s) : wpAny (model X.prog X.w) A (richCompare .Eq v u) Q E s := by
  rcases h with h | ⟨a, b, xs, ys, rfl, rfl, ha, hb, hp⟩
  · exact eqR_run I hu ih h rx ry E Q q
  · cases (show v = Value.ref a from rx)
    cases (show u = Value.ref b from ry)
    obtain ⟨us, r1, p1, _⟩ := I.tuple ha
    obtain ⟨ws, r2, p2, _⟩ := I.tuple hb
    have hsz : us.toArray.size = ws.toArray.size := by
      rw [List.size_toArray, List.size_toArray, ← r1.length, ← r2.length]
      exact Paired.length hp
    refine SeqAt.rcIn_tuples (e := fun _ => true) p1 p2 hu (fun j h1 h2 => ?_) ?_
    · have k := items_run ih hp r1 r2 j (by simpa using h1) (by simpa using h2)
      exact k
    · rw [show ((List.range (min us.toArray.size ws.toArray.size)).all fun _ => true) = true from List.all_eq_true.mpr fun _ _ => rfl, hsz, beq_self_eq_true]
      exact q
theorem eqV2_run (I : Inv X pins σ H s) : ∀ (n : Nat) (A : Around), A.units + n < cLine → ∀ (x y : V) (v u : Value), EqV2 X.K H n x y → RelV x v → RelV y u → SeqAt.EqP X.prog X.w A s v u true
  | 0, _, _, _, _, _, _, h, _, _ => (show False from h).elim
  | n + 1, A, hu, x, y, v, u, h, rx, ry => by
    rcases h with ⟨rfl, f⟩ | ⟨a, rfl, rfl⟩ | h
    · exact (eqAt_same rx ry f).eqP
    · cases (show v = Value.ref a from rx)
      cases (show u = Value.ref a from ry)
      exact (SeqAt.EqAt.same _).eqP
    · have step := eqR2_run I (A := A) (by omega) (eqV2_run I n A.in1 (by show A.units + 1 + n < cLine; omega)) h rx ry
      obtain ⟨a, b, rfl, rfl⟩ : ∃ a b, x = .ref a ∧ y = .ref b := by
        rcases h with (⟨a, b, _, _, e1, e2, _⟩ | ⟨a, b, _, _, e1, e2, _⟩) | ⟨a, b, _, _, e1, e2, _⟩ <;> exact ⟨a, b, e1, e2⟩
      cases (show v = Value.ref a from rx)
      cases (show u = Value.ref b from ry)
      by_cases e : a = b
      · subst e
        exact (SeqAt.EqAt.same _).eqP
      · exact SeqAt.eqP_refs e step
end
section
variable {X : Cx}
/-- a == b, of nested lists, tuples, dicts that are equal -/
def rEqV2 (K : PySem.W.Frag) : R2 := fun x y H Q => ∃ n, n ≤ 60 ∧ EqR2 K H (EqV2 K H n) x y ∧ Q (.bl true) H
theorem op_eqV2 (hu : X.A.units + 64 < cLine) : OpR X (compareOp .Eq) (rEqV2 X.K) := by
  intro pins s σ H x y v u Q I rx ry h
  obtain ⟨n, hn, h, q⟩ := h
  exact eqR2_run I (A := X.A) (by omega) (eqV2_run I n X.A.in1 (by show X.A.units + 1 + n < cLine; omega)) h rx ry _ _ ⟨.bl true, H, I, rfl, q⟩
end
end L2
namespace Nk
open PySem L2
def top (i : Nat) : Stmt := PySem.Challenge.pw_nightkeep_k75_whole_sending.main.body.getD i (.Pass ⟨0, 0, 0, 0⟩)
abbrev s_is_number : Stmt := top 7
abbrev s_is_name : Stmt := top 11
abbrev s_is_state : Stmt := top 12
abbrev s_State____init__ : Stmt := inClass (top 13) 0
abbrev s_State____len__ : Stmt := inClass (top 13) 1
abbrev s_State____eq__ : Stmt := inClass (top 13) 2
abbrev s_State____str__ : Stmt := inClass (top 13) 3
abbrev s_State____repr__ : Stmt := inClass (top 13) 4
abbrev s_State__number : Stmt := inClass (top 13) 5
abbrev s_State__names : Stmt := inClass (top 13) 6
abbrev s_State__plain : Stmt := inClass (top 13) 7
abbrev s_part_of : Stmt := top 14
abbrev s_is_place : Stmt := top 16
abbrev s_best_base : Stmt := top 17
abbrev s_sending : Stmt := top 18
abbrev s__law_town : Stmt := top 20
abbrev s__law_draw : Stmt := top 21
abbrev s__law_pick : Stmt := top 22
abbrev s__law_whole : Stmt := top 23
abbrev s__law_name : Stmt := top 24
abbrev s__law_table : Stmt := top 25
abbrev s__law_later : Stmt := top 26
abbrev s__law_unlike : Stmt := top 27
abbrev s__law_states : Stmt := top 28
abbrev s__law_places : Stmt := top 29
abbrev s__law_least_ties : Stmt := top 30
abbrev s_law : Stmt := top 31
/-- what the walks ask of the top as it stands when it has run -/
structure Txt (K : PySem.W.Frag) (mg : Str → Option Value) : Prop where
  d_is_number : Df K mg "is_number" "is_number" s_is_number ["thing", "least", "most"]
  d_is_name : Df K mg "is_name" "is_name" s_is_name ["thing"]
  d_is_state : Df K mg "is_state" "is_state" s_is_state ["thing"]
  d_part_of : Df K mg "part_of" "part_of" s_part_of ["one", "other"]
  d_is_place : Df K mg "is_place" "is_place" s_is_place ["thing"]
  d_best_base : Df K mg "best_base" "best_base" s_best_base ["state", "have"]
  d_sending : Df K mg "sending" "sending" s_sending ["mine", "its"]
  d__law_town : Df K mg "_law_town" "_law_town" s__law_town ["script"]
  d__law_draw : Df K mg "_law_draw" "_law_draw" s__law_draw ["script", "town", "many"]
  d__law_pick : Df K mg "_law_pick" "_law_pick" s__law_pick ["script", "town", "some"]
  d__law_whole : Df K mg "_law_whole" "_law_whole" s__law_whole ["thing"]
  d__law_name : Df K mg "_law_name" "_law_name" s__law_name ["script", "town", "names"]
  d__law_table : Df K mg "_law_table" "_law_table" s__law_table ["script", "town", "many"]
  d__law_later : Df K mg "_law_later" "_law_later" s__law_later ["script", "town", "table"]
  d__law_unlike : Df K mg "_law_unlike" "_law_unlike" s__law_unlike ["one", "other"]
  d__law_states : Df K mg "_law_states" "_law_states" s__law_states ["script", "town", "many"]
  d__law_places : Df K mg "_law_places" "_law_places" s__law_places ["script", "town"]
  d__law_least_ties : Df K mg "_law_least_ties" "_law_least_ties" s__law_least_ties ["mine", "its"]
  d_law : Df K mg "law" "law" s_law ["script"]
  x_KeepError : Xc K mg "KeepError" (cls mg "KeepError")
  x_BadNights : Xc K mg "BadNights" (cls mg "BadNights")
  x_BadState : Xc K mg "BadState" (cls mg "BadState")
  x_Unlike : Xc K mg "Unlike" (cls mg "Unlike")
  o_State : Oc K mg "State"
  m_State____init__ : Md K mg "State" "__init__" "State.__init__" s_State____init__ ["self", "some"]
  m_State____len__ : Md K mg "State" "__len__" "State.__len__" s_State____len__ ["self"]
  m_State____eq__ : Md K mg "State" "__eq__" "State.__eq__" s_State____eq__ ["self", "other"]
  m_State____str__ : Md K mg "State" "__str__" "State.__str__" s_State____str__ ["self"]
  m_State____repr__ : Md K mg "State" "__repr__" "State.__repr__" s_State____repr__ ["self"]
  m_State__number : Md K mg "State" "number" "State.number" s_State__number ["self", "name"]
  m_State__names : Md K mg "State" "names" "State.names" s_State__names ["self"]
  m_State__plain : Md K mg "State" "plain" "State.plain" s_State__plain ["self"]
  v_State : Eo2 K mg "State"
  n_State__table : NoAttr K (cls mg "State") "table"
  c_MOST_NIGHT : ∃ t, mg "MOST_NIGHT" = some (.int 1000000000 t)
  c_LETTERS : ∃ t, mg "LETTERS" = some (.str "abcdefghijklmnopqrstuvwxyz" t)
  c_MOST_NAMES : ∃ t, mg "MOST_NAMES" = some (.int 20 t)
  b_all : mg "all" = none
  b_bool : mg "bool" = none
  b_dict : mg "dict" = none
  b_enumerate : mg "enumerate" = none
  b_int : mg "int" = none
  b_isinstance : mg "isinstance" = none
  b_len : mg "len" = none
  b_list : mg "list" = none
  b_min : mg "min" = none
  b_range : mg "range" = none
  b_set : mg "set" = none
  b_sorted : mg "sorted" = none
  b_str : mg "str" = none
  b_sum : mg "sum" = none
  b_tuple : mg "tuple" = none
  b_zip : mg "zip" = none
end Nk
local macro_rules | `(tactic| walk_at "rd") => `(tactic| (try simp only [L2.tRet, L2.tAndV, L2.tOrV, L2.tNotV, L2.tCB, L2.tCons, L2.tNil, L2.tVar, L2.tC, L2.tChain, L2.tOp, L2.tUn, L2.rI, L2.rI0, L2.rU, L2.rEq, L2.rNe, L2.scal, L2.tTest, L2.tB, L2.tAnd, L2.tOr, L2.tNot, L2.tIf, L2.tIfS, L2.tSeq, L2.tNext, L2.tAsg, L2.gName, Nk.gCons_cons, Nk.gNil_nil, L2.gSub, L2.tDrop, L2.tRetN, L2.tCall, L2.tCallS, L2.tIsN, L2.tNotN, L2.tSl, L2.tPart, L2.tNoPart, L2.tPar, L2.tAug, L2.tBreak, L2.tCont, L2.tDisp, L2.tPairs, L2.tLstRg, L2.tRg1, L2.tRg2, Nk.rLenQ, Nk.rListQ, Nk.rTupleQ, L2.sDPut, L2.tBM, L2.tBM0, L2.tTup, L2.tLst, Nk.szN, Nat.reduceLeDiff, L2.tYes, L2.wipe, L2.start, L2.cxOf, List.map_cons, List.map_nil, List.cons_append, List.nil_append, List.append_nil, List.length_cons, List.length_nil, List.replicate, Nat.sub_self, Nat.zero_add, Nat.reduceAdd, Nat.reduceSub, List.set_cons_zero, List.set_cons_succ, List.getElem?_cons_zero, List.getElem?_cons_succ, Option.some.injEq, exists_and_left, exists_eq_left', exists_eq_left, L2.V.int.injEq, L2.V.bl.injEq, L2.V.str.injEq, L2.V.ref.injEq, true_and, and_true, decide_eq_true_eq, Bool.not_true, Bool.not_false, if_true, if_false, Bool.false_eq_true, reduceIte, List.cons.injEq, reduceCtorEq, decide_true, decide_false, decide_eq_false_iff_not, Bool.not_eq_true', Bool.not_not]))
local macro_rules | `(tactic| walk_at "rs") => `(tactic| (try simp only [L2.tRet, L2.tAndV, L2.tOrV, L2.tNotV, L2.tCB, L2.tCons, L2.tNil, L2.tVar, L2.tC, L2.tChain, L2.tOp, L2.tUn, L2.rI, L2.rI0, L2.rU, L2.rEq, L2.rNe, Nk.scal_ii, Nk.scal_ss, Nk.scal_bb, Nk.scal_nn, Nk.scal_ni, Nk.scal_in, Nk.scal_ns, Nk.scal_sn, Nk.scal_is, Nk.scal_si, L2.tTest, L2.tB, L2.tAnd, L2.tOr, L2.tNot, L2.tIf, L2.tIfS, L2.tNext, L2.tAsg, L2.gName, Nk.gCons_cons, Nk.gNil_nil, L2.gSub, L2.tDrop, L2.tRetN, L2.tCall, L2.tCallS, L2.tIsN, L2.tNotN, L2.tSl, L2.tPart, L2.tNoPart, L2.tPar, L2.tAug, L2.tBreak, L2.tCont, L2.tDisp, L2.tPairs, L2.tLstRg, L2.tRg1, L2.tRg2, Nk.rLenQ, Nk.rListQ, Nk.rTupleQ, L2.sDPut, L2.tBM, L2.tBM0, L2.tTup, L2.tLst, Nk.szN, Nat.reduceLeDiff, L2.tYes, L2.wipe, L2.start, L2.cxOf, List.map_cons, List.map_nil, List.cons_append, List.nil_append, List.append_nil, List.length_cons, List.length_nil, List.replicate, Nat.sub_self, Nat.zero_add, Nat.reduceAdd, Nat.reduceSub, List.set_cons_zero, List.set_cons_succ, List.getElem?_cons_zero, List.getElem?_cons_succ, Option.some.injEq, exists_and_left, exists_eq_left', exists_eq_left, L2.V.int.injEq, L2.V.bl.injEq, L2.V.str.injEq, L2.V.ref.injEq, true_and, and_true, decide_eq_true_eq, Bool.not_true, Bool.not_false, if_true, if_false, Bool.false_eq_true, reduceIte, List.cons.injEq, reduceCtorEq, decide_true, decide_false, decide_eq_false_iff_not, Bool.not_eq_true', Bool.not_not]))
local macro_rules | `(tactic| walk_at "rt") => `(tactic| (try simp only [L2.tRet, L2.tFld, L2.sFld, L2.tMeth, L2.tMake, L2.tMkO, L2.tAndV, L2.tOrV, L2.tNotV, L2.tCB, L2.tCons, L2.tNil, L2.tVar, L2.tC, L2.tChain, L2.tOp, L2.tUn, L2.rI, L2.rI0, L2.rU, L2.rEq, L2.rNe, Nk.scal_ii, Nk.scal_ss, Nk.scal_bb, Nk.scal_nn, Nk.scal_ni, Nk.scal_in, Nk.scal_ns, Nk.scal_sn, Nk.scal_is, Nk.scal_si, L2.tTest, L2.tB, L2.tAnd, L2.tOr, L2.tNot, L2.tIf, L2.tIfS, L2.tNext, L2.tAsg, L2.gName, Nk.gCons_cons, Nk.gNil_nil, L2.gSub, L2.tDrop, L2.tRetN, L2.tCall, L2.tCallS, L2.tIsN, L2.tNotN, L2.tSl, L2.tPart, L2.tNoPart, L2.tPar, L2.tAug, L2.tBreak, L2.tCont, and_assoc, Nk.tFor_k, Nk.tLc_k, L2.iRng1, L2.iRng2, L2.iList, L2.iTup, L2.iRev, L2.iEnum, L2.iZip, L2.tDisp, L2.tPairs, L2.tLstRg, L2.tRg1, L2.tRg2, Nk.rLenQ, Nk.rListQ, Nk.rTupleQ, L2.sDPut, L2.tBM, L2.tBM0, L2.tTup, L2.tLst, Nk.szN, Nat.reduceLeDiff, L2.tYes, L2.wipe, L2.start, L2.cxOf, List.map_cons, List.map_nil, List.cons_append, List.nil_append, List.append_nil, List.length_cons, List.length_nil, List.replicate, Nat.sub_self, Nat.zero_add, Nat.reduceAdd, Nat.reduceSub, List.set_cons_zero, List.set_cons_succ, List.getElem?_cons_zero, List.getElem?_cons_succ, Option.some.injEq, exists_and_left, exists_eq_left', exists_eq_left, L2.V.int.injEq, L2.V.bl.injEq, L2.V.str.injEq, L2.V.ref.injEq, true_and, and_true, decide_eq_true_eq, Bool.not_true, Bool.not_false, if_true, if_false, Bool.false_eq_true, reduceIte, List.cons.injEq, reduceCtorEq, decide_true, decide_false, decide_eq_false_iff_not, Bool.not_eq_true', Bool.not_not]))
local macro_rules | `(tactic| walk_at "ru") => `(tactic| (try simp only [L2.kV, L2.tDGet, L2.tDIn, L2.tDNotIn, L2.tDGet1, L2.tDGet2, L2.tDPop1, L2.iKeysM, L2.iKeys, L2.iStr, L2.tRet, L2.tFld, L2.sFld, L2.tMeth, L2.tMake, L2.tMkO, L2.tAndV, L2.tOrV, L2.tNotV, L2.tCB, L2.tCons, L2.tNil, L2.tVar, L2.tC, L2.tChain, L2.tOp, L2.tUn, L2.rI, L2.rI0, L2.rU, L2.rEq, L2.rNe, Nk.scal_ii, Nk.scal_ss, Nk.scal_bb, Nk.scal_nn, Nk.scal_ni, Nk.scal_in, Nk.scal_ns, Nk.scal_sn, Nk.scal_is, Nk.scal_si, L2.tTest, L2.tB, L2.tAnd, L2.tOr, L2.tNot, L2.tIf, L2.tIfS, L2.tNext, L2.tAsg, L2.gName, Nk.gCons_cons, Nk.gNil_nil, L2.gSub, L2.tDrop, L2.tRetN, L2.tCall, L2.tCallS, L2.tIsN, L2.tNotN, L2.tSl, L2.tPart, L2.tNoPart, L2.tPar, L2.tAug, L2.tBreak, L2.tCont, and_assoc, Nk.tFor_k, Nk.tLc_k, L2.iRng1, L2.iRng2, L2.iList, L2.iTup, L2.iRev, L2.iEnum, L2.iZip, L2.tDisp, L2.tPairs, L2.tLstRg, L2.tRg1, L2.tRg2, Nk.rLenQ, Nk.rListQ, Nk.rTupleQ, L2.sDPut, L2.tBM, L2.tBM0, L2.tTup, L2.tLst, Nk.szN, Nat.reduceLeDiff, L2.tYes, L2.wipe, L2.start, L2.cxOf, List.map_cons, List.map_nil, List.cons_append, List.nil_append, List.append_nil, List.length_cons, List.length_nil, List.replicate, Nat.sub_self, Nat.zero_add, Nat.reduceAdd, Nat.reduceSub, List.set_cons_zero, List.set_cons_succ, List.getElem?_cons_zero, List.getElem?_cons_succ, Option.some.injEq, exists_and_left, exists_eq_left', exists_eq_left, L2.V.int.injEq, L2.V.bl.injEq, L2.V.str.injEq, L2.V.ref.injEq, true_and, and_true, decide_eq_true_eq, Bool.not_true, Bool.not_false, if_true, if_false, Bool.false_eq_true, reduceIte, List.cons.injEq, reduceCtorEq, decide_true, decide_false, decide_eq_false_iff_not, Bool.not_eq_true', Bool.not_not]))
namespace Nk
open PySem L2
section
variable {P : Program} {w : World} {K : PySem.W.Frag} {mg : Str → Option Value} {base : Heap}
abbrev nm_is_number : List Str := ["thing", "least", "most"]
abbrev pm_is_number : List Str := ["thing", "least", "most"]
abbrev lv_is_number : Nat := 1
theorem sc_is_number : FnScope nm_is_number pm_is_number (defScope s_is_number) := ⟨rfl, rfl, rfl, by decide +kernel, rfl, by decide +kernel, by decide +kernel⟩
def sp_is_number (K : PySem.W.Frag) : Sp := fun vs H Q _ => ∃ (x : V) (n : String) (lo : Int) (y : V), vs = [x, .int lo, y] ∧ Thing K H x n ∧ (∀ i, x = .int i → ∃ hi, y = .int hi) ∧ Q (.bl (isNumV x lo y)) H
theorem f_is_number (T : Txt K mg) : Fk P w K mg base CX0 lv_is_number "is_number" pm_is_number (sp_is_number K) := by
  obtain ⟨f, fd, F, g, b⟩ := T.d_is_number.ex
  refine ⟨f, fd, g, F.kp, b, F.ok sc_is_number (fun vs H Q E h => ?_) (fun cdv A outer s H vs Q E hr h => ?_)⟩
  · obtain ⟨x, n, lo, y, rfl, _⟩ := h; rfl
  · obtain ⟨x, n, lo, y, rfl, hx, hy, q⟩ := h
    refine ⟨_, (pss_one (ps_ret (pe_and (pe_callB call_isi (by rfl) T.b_isinstance (by decide +kernel) (pa_cons (pv 0) (pa_cons (pe_bltn (v := .ty "int") (by rfl) T.b_int (by decide +kernel) rfl) pa_nil))) (pe_and (pe_not (pe_callB call_isi (by rfl) T.b_isinstance (by decide +kernel) (pa_cons (pv 0) (pa_cons (pe_bltn (v := .ty "bool") (by rfl) T.b_bool (by decide +kernel) rfl) pa_nil)))) (pe_one (pe_chain op_le op_le (pv 1) (pv 0) (pv 2))))))), ?_⟩
    walk_at "rd"
    refine isi_thing hx (by decide) ?_
    cases hx with
    | int i =>
      obtain ⟨hi, rfl⟩ := hy i rfl
      simp only [show isA "int" "int" = true from by decide]
      walk_at "rd"
      refine isi_thing (.int i) (by decide) ?_
      simp only [show isA "int" "bool" = false from by decide]
      walk_at "rd"
      simp only [isNumV] at q
      by_cases c : lo ≤ i
      · simpa [c] using q
      · simpa [c] using q
    | bl i =>
      simp only [show isA "bool" "int" = true from by decide]
      walk_at "rd"
      refine isi_thing (.bl i) (by decide) ?_
      simp only [show isA "bool" "bool" = true from by decide]
      walk_at "rd"
      exact q
    | _ => exact ⟨false, rfl, q⟩
/-- whether a thing is rounds -/
def isRoundsV (H : Hp) (x : V) : Bool := match x with
  | .ref a => match H a with
    | some (.tup xs) => decide (1 ≤ xs.length) && decide (xs.length ≤ 12) && xs.all fun y => isNumV y 1 (.int 31)
    | _ => false
  | _ => false
/-- a thing, and what is in it if it is a tuple -/
def Thing2 (K : PySem.W.Frag) (H : Hp) (x : V) : Prop := (∃ n, Thing K H x n) ∧ ∀ a xs, x = .ref a → H a = some (.tup xs) → xs.length ≤ 100000 ∧ ∀ y ∈ xs, ∃ m, Thing K H y m
/-- rounds as a tuple that stands -/
structure RndsAt (H : Hp) (a : Addr) (rs : List Int) : Prop where
  at_ : H a = some (.tup (rs.map V.int))
  ok : Rnds rs
  le : ∀ r ∈ rs, r ≤ 31
  ln : rs.length ≤ 12
theorem RndsAt.same {H H' : Hp} {a : Addr} {rs : List Int} (h : RndsAt H a rs) (s : Same H H') : RndsAt H' a rs := ⟨s _ _ h.at_, h.ok, h.le, h.ln⟩
theorem RndsAt.but {H H' : Hp} {a t : Addr} {rs : List Int} {l : List V} (h : RndsAt H a rs) (s : But t H H') (ht : H t = some (.lst l)) : RndsAt H' a rs := ⟨s _ _ h.at_ (ne_of h.at_ ht (by intro z; cases z)), h.ok, h.le, h.ln⟩
theorem RndsAt.thing {H : Hp} {a : Addr} {rs : List Int} (h : RndsAt H a rs) : Thing2 K H (.ref a) := by
  refine ⟨⟨_, .tup h.at_⟩, fun b xs e hb => ?_⟩
  cases e
  rw [h.at_] at hb
  cases hb
  refine ⟨by have := h.ln; simp; omega, fun y hy => ?_⟩
  obtain ⟨i, _, rfl⟩ := List.mem_map.mp hy
  exact ⟨_, .int i⟩
theorem RndsAt.is {H : Hp} {a : Addr} {rs : List Int} (h : RndsAt H a rs) : isRoundsV H (.ref a) = true := by
  have h1 := h.ok.len
  have h2 := h.ln
  have h3 : rs.all (fun y => isNumV (V.int y) 1 (V.int 31)) = true := by
    rw [List.all_eq_true]
    intro y hy
    simp [isNumV, h.ok.pos y hy, h.le y hy]
  simp only [isRoundsV, h.at_, List.length_map, List.all_map, Function.comp_def, h3, Bool.and_true, Bool.and_eq_true, decide_eq_true_eq]
  omega
theorem sum_le31 : ∀ {rs : List Int}, (∀ r ∈ rs, r ≤ 31) → rs.sum ≤ 31 * rs.length
  | [], _ => by simp
  | r :: rs, h => by
    have h1 := h r List.mem_cons_self
    have h2 := sum_le31 (rs := rs) fun x hx => h x (List.mem_cons_of_mem _ hx)
    simp only [List.sum_cons, List.length_cons]
    push_cast
    omega
theorem RndsAt.sum_le {H : Hp} {a : Addr} {rs : List Int} (h : RndsAt H a rs) : rs.sum ≤ 372 := by
  have := sum_le31 h.le
  have := h.ln
  omega
theorem isNum_ok {n : Int} (h0 : 0 ≤ n) (h1 : n ≤ 1000000000) : isNumV (.int n) 0 (.int 1000000000) = true := by simp [isNumV, h0, h1]
end
end Nk
namespace Nk
open PySem L2
section
variable {P : Program} {w : World} {K : PySem.W.Frag} {mg : Str → Option Value} {base : Heap}
/-- the script at a and the town at t: c draws so far -/
structure Tn (K : PySem.W.Frag) (H : Hp) (a t : Addr) (ns : List Int) (c : Nat) : Prop where
  scr : SqN K H a t (ns.map V.int)
  len : ns.length ≤ 63
  town : ∃ ls : List Int, ls.length = ns.length ∧ H t = some (.lst (V.int c :: ls.map V.int))
theorem Tn.same {H H' : Hp} {a t : Addr} {ns : List Int} {c : Nat} (h : Tn K H a t ns c) (s : Same H H') : Tn K H' a t ns c := by
  obtain ⟨ls, e, ht⟩ := h.town
  exact ⟨h.scr.same s, h.len, ls, e, s _ _ ht⟩
theorem Tn.lst {H : Hp} {a t : Addr} {ns : List Int} {c : Nat} (h : Tn K H a t ns c) : ∃ l, H t = some (.lst l) := by
  obtain ⟨ls, e, ht⟩ := h.town
  exact ⟨_, ht⟩
theorem Tn.some_ {H : Hp} {a t : Addr} {ns : List Int} {c : Nat} (h : Tn K H a t ns c) {p : Addr} (hp : H p = none) : p ≠ t := by
  obtain ⟨l, hl⟩ := h.lst
  exact (ne_of_none hl hp).symm
/-- a tuple stays while the town changes -/
theorem Tn.tup {H H' : Hp} {a t p : Addr} {ns : List Int} {c : Nat} {xs : List V} (h : Tn K H a t ns c) (b : But t H H') (hp : H p = some (.tup xs)) : H' p = some (.tup xs) := by
  obtain ⟨l, hl⟩ := h.lst
  exact b _ _ hp (ne_of hp hl (by intro z; cases z))
/-- an object that was made since may change -/
theorem Tn.app {H H' : Hp} {a t p : Addr} {ns : List Int} {c c0 : Nat} {o : HO} (h : Tn K H' a t ns c) (h0 : Tn K H a t ns c0) (hp : H p = none) (hpt : p ≠ t) : Tn K (upd H' p o) a t ns c := by
  obtain ⟨ls, e1, e2⟩ := h.town
  exact ⟨h.scr.app h0.scr hp, h.len, ls, e1, by rw [upd_ne hpt.symm]; exact e2⟩
theorem But.app {H H' : Hp} {t p : Addr} {o : HO} (b : But t H H') (hp : H p = none) : But t H (L2.upd H' p o) := fun z x hz hzt => by
  rw [upd_ne (ne_of_none hz hp)]
  exact b _ _ hz hzt
theorem But.free {H H' : Hp} {t p : Addr} (b : But t H H') (hp : H' p = none) (hpt : p ≠ t) : H p = none := by
  cases e : H p with
  | none => rfl
  | some o => rw [b _ _ e hpt] at hp; cases hp
abbrev nm__law_town : List Str := ["script"]
abbrev pm__law_town : List Str := ["script"]
abbrev lv__law_town : Nat := 1
theorem sc__law_town : FnScope nm__law_town pm__law_town (defScope s__law_town) := ⟨rfl, rfl, rfl, by decide +kernel, rfl, by decide +kernel, by decide +kernel⟩
def sp__law_town (K : PySem.W.Frag) : Sp := fun vs H Q _ => ∃ (a : Addr) (ns : List Int), vs = [.ref a] ∧ SqL K H a (ns.map V.int) ∧ ns.length ≤ 63 ∧ ∀ H' t, Same H H' → Tn K H' a t ns 0 → H t = none → Q (.ref t) H'
theorem f__law_town (T : Txt K mg) : Fk P w K mg base CX0 lv__law_town "_law_town" pm__law_town (sp__law_town K) := by
  obtain ⟨f, fd, F, g, b⟩ := T.d__law_town.ex
  refine ⟨f, fd, g, F.kp, b, F.ok sc__law_town (fun vs H Q E h => ?_) (fun cdv A outer s H vs Q E hr h => ?_)⟩
  · obtain ⟨a, ns, rfl, _⟩ := h; rfl
  · obtain ⟨a, ns, rfl, hS, hl, q⟩ := h
    refine ⟨_, (pss_one (ps_ret (pe_op op_cat (pe_lst (pa_cons pe_int pa_nil)) (pe_callTy call_list_of (by rfl) T.b_list (by decide +kernel) (pa_cons (pv 0) pa_nil))))), ?_⟩
    walk_at "rd"
    intro p hp
    have s1 : Same H (upd H p (.lst [.int 0])) := same_upd hp
    refine ⟨ns.map V.int, .inl (s1.seq hS), fun l hl2 => ?_⟩
    have npl : p ≠ l := fun e => by rw [← e, upd_same] at hl2; cases hl2
    have s2 := s1.trans (same_upd (o := .lst (ns.map V.int)) hl2)
    refine ⟨p, l, _, _, rfl, rfl, by rw [upd_ne npl]; exact upd_same, upd_same, sz (by simp; omega), fun t ht => ?_⟩
    have hH : H t = none := s2.free ht
    exact q _ t (s2.trans (same_upd ht)) ⟨(SqN.new (s2.seq hS) ht).same (same_upd ht), hl, ns, rfl, upd_same⟩ hH
abbrev nm__law_draw : List Str := ["script", "town", "many", "at", "left", "number"]
abbrev pm__law_draw : List Str := ["script", "town", "many"]
abbrev lv__law_draw : Nat := 1
theorem sc__law_draw : FnScope nm__law_draw pm__law_draw (defScope s__law_draw) := ⟨rfl, rfl, rfl, by decide +kernel, rfl, by decide +kernel, by decide +kernel⟩
def sp__law_draw (K : PySem.W.Frag) : Sp := fun vs H Q _ => ∃ (a t : Addr) (ns : List Int) (c : Nat) (many : Int), vs = [.ref a, .ref t, .int many] ∧ Tn K H a t ns c ∧ c < 1000000000 ∧ 0 < many ∧ many < 1073741824 ∧
  ∀ (d : Int) (H' : Hp), 0 ≤ d → d < many → Tn K H' a t ns (c + 1) → But t H H' → Q (.int d) H'
theorem f__law_draw (T : Txt K mg) : Fk P w K mg base CX0 lv__law_draw "_law_draw" pm__law_draw (sp__law_draw K) := by
  obtain ⟨f, fd, F, g, b⟩ := T.d__law_draw.ex
  refine ⟨f, fd, g, F.kp, b, F.ok sc__law_draw (fun vs H Q E h => ?_) (fun cdv A outer s H vs Q E hr h => ?_)⟩
  · obtain ⟨a, t, ns, c, many, rfl, _⟩ := h; rfl
  · obtain ⟨a, t, ns, c, many, rfl, hT, hc, hm0, hm1, q⟩ := h
    refine ⟨_, (pss_cons (ps_asg (pe_op op_add (pe_ix ix_list (pv 1) pe_int (fun _ _ => rfl)) pe_int) (pg_sub (pv 1) pe_int set_list))
      (pss_cons (ps_if (pt_cmpR (op_eqD hr.units) (pv 0) (pe_lst pa_nil) (nomark _)) (pss_one (ps_ret (pe_op op_mod (pe_op op_fdiv (pe_op op_mul (pe_op op_mul (pe_ix ix_list (pv 1) pe_int (fun _ _ => rfl)) (pe_ix ix_list (pv 1) pe_int (fun _ _ => rfl))) pe_int) pe_int) (pv 2)))) pss_nil)
      (pss_cons (ps_set (i := 3) sc__law_draw.nd rfl (.inl rfl) (pe_op op_mod (pe_ix ix_list (pv 1) pe_int (fun _ _ => rfl)) (pe_callB call_len_seq (by rfl) T.b_len PySem.boot_len (pa_cons (pv 0) pa_nil))))
      (pss_cons (ps_set (i := 4) sc__law_draw.nd rfl (.inl rfl) (pe_ix ix_list (pv 1) (pe_op op_add pe_int (pv 3)) (fun _ _ => rfl)))
      (pss_cons (ps_if (PW.pt (pw_and (pt_cmpR op_ge (pe_ix ix_list (pv 0) (pv 3) (fun _ _ => rfl)) (pe_op op_pow pe_int pe_int) (nomark _)) (pw_and1 (pt_cmpR op_gt (pv 4) pe_int (nomark _))))) (pss_cons (ps_asg (pe_op op_fdiv (pv 4) (pv 2)) (pg_sub (pv 1) (pe_op op_add pe_int (pv 3)) set_list))
      (pss_one (ps_ret (pe_op op_mod (pv 4) (pv 2))))) pss_nil)
      (pss_cons (ps_set (i := 5) sc__law_draw.nd rfl (.inl rfl) (pe_op op_mod (pe_op op_add (pe_ix ix_list (pv 0) (pv 3) (fun _ _ => rfl)) (pe_op op_mul pe_int (pe_ix ix_list (pv 1) pe_int (fun _ _ => rfl)))) pe_int))
      (pss_cons (ps_set (i := 5) sc__law_draw.nd rfl (.inl rfl) (pe_op op_mod (pe_op op_pow (pv 5) pe_int) pe_int))
      (pss_one (ps_ret (pe_op op_mod (pe_op op_fdiv (pe_op op_mod (pe_op op_add (pe_op op_mul (pe_op op_fdiv (pv 5) pe_int) pe_int) (pv 5)) pe_int) pe_int) (pv 2))))))))))), ?_⟩
    walk_at "rd"
    obtain ⟨ls, el, ht⟩ := hT.town
    refine ixL (j := 0) (sqL ht) rfl rfl ?_
    walk_at "rd"
    refine setL (j := 0) ht rfl (by simp) ?_
    intro p hp
    have hpt : t ≠ p := fun e => by rw [← e, upd_same] at hp; cases hp
    have b1 : But t H (upd (upd H t (.lst ((V.int c :: ls.map V.int).set 0 (V.int (↑c + 1))))) p (.lst [])) := But.thenS But.upd (same_upd hp)
    have hN1 := hT.scr.but b1
    have hS1 := hN1.l
    have ht1 : (upd (upd H t (.lst ((V.int c :: ls.map V.int).set 0 (V.int (↑c + 1))))) p (.lst [])) t = some (.lst (V.int ((c + 1 : Nat) : Int) :: ls.map V.int)) := by
      rw [upd_ne hpt, upd_same]; rfl
    have hp1 : (upd (upd H t (.lst ((V.int c :: ls.map V.int).set 0 (V.int (↑c + 1))))) p (.lst [])) p = some (.lst (([] : List Int).map V.int)) := upd_same
    revert b1 hN1 hS1 ht1 hp1
    generalize upd (upd H t (.lst ((V.int c :: ls.map V.int).set 0 (V.int (↑c + 1))))) p (.lst []) = H1
    intro b1 hN1 hS1 ht1 hp1
    have T1 : Tn K H1 a t ns (c + 1) := ⟨hN1, hT.len, ls, el, ht1⟩
    have hC : ((c + 1 : Nat) : Int) < 2 ^ 62 := by omega
    refine eqD (dp_LI hS1) (dp_LI (sqL hp1)) (gd_dLI (k := 0) _) (gd_dLI (k := 0) _) (fun e => ?_) (fun e => ?_)
    · walk_at "rd"
      refine ixL (j := 0) (sqL ht1) rfl rfl ?_
      refine ixL (j := 0) (sqL ht1) rfl rfl ?_
      walk_at "rd"
      refine ⟨.inl ⟨by omega, by omega⟩, .inr ⟨by decide, by decide⟩, ⟨by decide, by decide⟩, hm0, ?_⟩
      exact q _ H1 (Int.emod_nonneg _ (by omega)) (Int.emod_lt_of_pos _ hm0) T1 b1
    · have hne : ns ≠ [] := fun z => e (by rw [z])
      have hn0 : 0 < ns.length := List.length_pos_iff.mpr hne
      walk_at "rd"
      refine ixL (j := 0) (sqL ht1) rfl rfl ?_
      refine ⟨ns.map V.int, .inl hS1, ?_⟩
      rw [List.length_map]
      walk_at "rd"
      obtain ⟨j, hj, ej, _⟩ := emod_nat (k := ((c + 1 : Nat) : Int)) hn0
      rw [ej]
      refine ⟨by omega, ?_⟩
      have hlj : (V.int ((c + 1 : Nat) : Int) :: ls.map V.int)[j + 1]? = some (V.int (ls[j]'(by omega))) := by
        rw [List.getElem?_cons_succ, List.getElem?_map, List.getElem?_eq_getElem (by omega)]; rfl
      have hnj : (ns.map V.int)[j]? = some (V.int (ns[j]'hj)) := by
        rw [List.getElem?_map, List.getElem?_eq_getElem hj]; rfl
      refine ixL (j := j + 1) (sqL ht1) (by push_cast; omega) hlj ?_
      refine ixL (j := j) hS1 rfl hnj ?_
      have tail : rIxL K (.ref a) (.int (j : Int)) H1 fun x H2 => rIxL K (.ref t) (.int 0) H2 fun y H3 => ∃ x_3, y = V.int x_3 ∧ CMul 104729 x_3 ∧ ∃ i, x = V.int i ∧ 0 < (4294967291 : Int) ∧ CPow ((i + 104729 * x_3) % 4294967291) 5 ∧ 0 < (4294967279 : Int) ∧
          CDiv (((i + 104729 * x_3) % 4294967291) ^ Int.toNat 5 % 4294967279) 64 ∧ CMul (((i + 104729 * x_3) % 4294967291) ^ Int.toNat 5 % 4294967279 / 64) 69621 ∧ 0 < (4294967231 : Int) ∧
          CDiv ((((i + 104729 * x_3) % 4294967291) ^ Int.toNat 5 % 4294967279 / 64 * 69621 + ((i + 104729 * x_3) % 4294967291) ^ Int.toNat 5 % 4294967279) % 4294967231) 8 ∧ 0 < many ∧
          Q (.int ((((i + 104729 * x_3) % 4294967291) ^ Int.toNat 5 % 4294967279 / 64 * 69621 + ((i + 104729 * x_3) % 4294967291) ^ Int.toNat 5 % 4294967279) % 4294967231 / 8 % many)) H3 := by
        refine ixL (j := j) hS1 rfl hnj ?_
        refine ixL (j := 0) (sqL ht1) rfl rfl ?_
        have hp := Int.emod_nonneg (ns[j] + 104729 * ((c + 1 : Nat) : Int)) (show (4294967291 : Int) ≠ 0 by decide)
        have hq := Int.emod_lt_of_pos (ns[j] + 104729 * ((c + 1 : Nat) : Int)) (show (0 : Int) < 4294967291 by decide)
        refine ⟨_, rfl, .inl ⟨by decide, by decide⟩, _, rfl, by decide, ⟨by decide, by decide, by omega⟩, by decide, ⟨by decide, by decide⟩, .inr ⟨by decide, by decide⟩, by decide, ⟨by decide, by decide⟩, hm0, ?_⟩
        exact q _ H1 (Int.emod_nonneg _ (by omega)) (Int.emod_lt_of_pos _ hm0) T1 b1
      refine ⟨⟨by decide, by decide, by decide⟩, _, rfl, ?_⟩
      refine ite2 (fun c1 => ?_) (fun c1 => ?_)
      · refine ⟨_, rfl, ite2 (fun c2 => ?_) (fun c2 => ?_)⟩
        · refine ⟨_, rfl, ⟨hm0, hm1⟩, ?_⟩
          refine setL (j := j + 1) ht1 (by push_cast; omega) (by simp; omega) ?_
          refine ⟨_, rfl, hm0, ?_⟩
          refine q _ _ (Int.emod_nonneg _ (by omega)) (Int.emod_lt_of_pos _ hm0) ⟨hN1.but But.upd, hT.len, ls.set j (ls[j] / many), by rw [List.length_set]; exact el, ?_⟩ (b1.trans But.upd)
          rw [upd_same, List.set_cons_succ, List.map_set]
        · exact tail
      · exact tail
abbrev nm__law_pick : List Str := ["script", "town", "some"]
abbrev pm__law_pick : List Str := ["script", "town", "some"]
abbrev lv__law_pick : Nat := 2
theorem sc__law_pick : FnScope nm__law_pick pm__law_pick (defScope s__law_pick) := ⟨rfl, rfl, rfl, by decide +kernel, rfl, by decide +kernel, by decide +kernel⟩
def sp__law_pick (K : PySem.W.Frag) : Sp := fun vs H Q _ => ∃ (a t l : Addr) (ns : List Int) (c : Nat) (xs : List V), vs = [.ref a, .ref t, .ref l] ∧ Tn K H a t ns c ∧ c < 1000000000 ∧ H l = some (.lst xs) ∧ l ≠ t ∧ 0 < xs.length ∧ xs.length ≤ 100000 ∧
  ∀ (v : V) (H' : Hp), v ∈ xs → Tn K H' a t ns (c + 1) → But t H H' → Q v H'
theorem f__law_pick (T : Txt K mg) : Fk P w K mg base CX0 lv__law_pick "_law_pick" pm__law_pick (sp__law_pick K) := by
  obtain ⟨f, fd, F, g, b⟩ := T.d__law_pick.ex
  refine ⟨f, fd, g, F.kp, b, F.ok sc__law_pick (fun vs H Q E h => ?_) (fun cdv A outer s H vs Q E hr h => ?_)⟩
  · obtain ⟨a, t, l, ns, c, xs, rfl, _⟩ := h; rfl
  · obtain ⟨a, t, l, ns, c, xs, rfl, hT, hc, hl, hlt, h0, h1, q⟩ := h
    refine ⟨_, (pss_one (ps_ret (pe_ix ix_list (pv 2) (pe_fn (f__law_draw T) (hr.mono (by decide)) (by rfl) pass0 (pa_cons (pv 0) (pa_cons (pv 1) (pa_cons (pe_callB call_len_seq (by rfl) T.b_len PySem.boot_len (pa_cons (pv 2) pa_nil)) pa_nil)))) (fun _ _ => rfl)))), ?_⟩
    walk_at "rd"
    refine ⟨xs, .inl (sqL hl), a, t, ns, c, xs.length, rfl, hT, hc, by omega, by omega, fun d H' d0 d1 T' b' => ?_⟩
    have hd : d.toNat < xs.length := by omega
    exact ixL (j := d.toNat) (sqL (b' _ _ hl hlt)) (by omega) (List.getElem?_eq_getElem hd) (q _ H' (List.getElem_mem hd) T' b')
theorem pickI {H : Hp} {a t : Addr} {ns : List Int} {c : Nat} {Q : VK} {E : XK} (ks : List Int) (hT : Tn K H a t ns c) (hc : c < 1000000000) (q : ∀ k ∈ ks, ∀ H', Tn K H' a t ns (c + 1) → But t H H' → Q (.int k) H') (h0 : 0 < ks.length := by decide) (h1 : ks.length ≤ 100000 := by decide) :
    ∀ p, H p = none → sp__law_pick K [.ref a, .ref t, .ref p] (L2.upd H p (.lst (ks.map V.int))) Q E := by
  intro p hp
  refine ⟨a, t, p, ns, c, ks.map V.int, rfl, hT.same (same_upd hp), hc, upd_same, hT.some_ hp, by simpa using h0, by simpa using h1, fun v H' hv T' b' => ?_⟩
  obtain ⟨k, hk, rfl⟩ := List.mem_map.mp hv
  exact q k hk H' T' (Same.thenB (same_upd hp) b')
theorem pickV {H : Hp} {a t : Addr} {ns : List Int} {c : Nat} {Q : VK} {E : XK} {xs : List V} (hT : Tn K H a t ns c) (hc : c < 1000000000) (h0 : 0 < xs.length) (h1 : xs.length ≤ 100000) (q : ∀ v ∈ xs, ∀ H', Tn K H' a t ns (c + 1) → But t H H' → Q v H') :
    ∀ p, H p = none → sp__law_pick K [.ref a, .ref t, .ref p] (L2.upd H p (.lst xs)) Q E := by
  intro p hp
  exact ⟨a, t, p, ns, c, xs, rfl, hT.same (same_upd hp), hc, upd_same, hT.some_ hp, h0, h1, fun v H' hv T' b' => q v hv H' T' (Same.thenB (same_upd hp) b')⟩
abbrev nm__law_whole : List Str := ["thing"]
abbrev pm__law_whole : List Str := ["thing"]
abbrev lv__law_whole : Nat := 1
theorem sc__law_whole : FnScope nm__law_whole pm__law_whole (defScope s__law_whole) := ⟨rfl, rfl, rfl, by decide +kernel, rfl, by decide +kernel, by decide +kernel⟩
def sp__law_whole (K : PySem.W.Frag) : Sp := fun vs H Q _ => ∃ (x : V) (n : String), vs = [x] ∧ Thing K H x n ∧ Q (.bl (isWholeV x)) H
theorem f__law_whole (T : Txt K mg) : Fk P w K mg base CX0 lv__law_whole "_law_whole" pm__law_whole (sp__law_whole K) := by
  obtain ⟨f, fd, F, g, b⟩ := T.d__law_whole.ex
  refine ⟨f, fd, g, F.kp, b, F.ok sc__law_whole (fun vs H Q E h => ?_) (fun cdv A outer s H vs Q E hr h => ?_)⟩
  · obtain ⟨x, n, rfl, _⟩ := h; rfl
  · obtain ⟨x, n, rfl, hx, q⟩ := h
    refine ⟨_, (pss_one (ps_ret (pe_and (pe_callB call_isi (by rfl) T.b_isinstance (by decide +kernel) (pa_cons (pv 0) (pa_cons (pe_bltn (v := .ty "int") (by rfl) T.b_int (by decide +kernel) rfl) pa_nil))) (pe_one (pe_not (pe_callB call_isi (by rfl) T.b_isinstance (by decide +kernel) (pa_cons (pv 0) (pa_cons (pe_bltn (v := .ty "bool") (by rfl) T.b_bool (by decide +kernel) rfl) pa_nil)))))))), ?_⟩
    walk_at "rd"
    refine isi_thing hx (by decide) ?_
    cases hx with
    | int i =>
      refine ⟨true, rfl, ?_⟩
      walk_at "rd"
      exact isi_thing (.int i) (by decide) ⟨false, rfl, q⟩
    | bl i =>
      refine ⟨true, rfl, ?_⟩
      walk_at "rd"
      exact isi_thing (.bl i) (by decide) ⟨true, rfl, q⟩
    | _ => exact ⟨false, rfl, q⟩
end
end Nk
/-! the rules of own classes with the globals named (for comprehensions) -/
namespace Nk
open PySem L2
section
variable {X : Cx} {CX : CXT} {k : Nat} {ps : List Str} {sp : Sp} {c m x : Str} {p pos apos : Pos} {o e : Expr} {es : List Expr} {ta : TE} {t : TA} {E : XK}
theorem pe_meK (mg : Str → Option Value) (hm : X.mg = mg) {pl : Sem Bool} (he : PE X o ta) (O : Oc X.K mg c) (M : Mo X.prog X.w X.K mg X.base CX k c m ps sp) (hr : Room k X.A) (hx : Passes CX X E) (ha : PA X (e :: es) t)
    (hst : starEach (e :: es) X.env = (false, eval e X.env) :: starEach es X.env := by rfl) (hpl : (backTo pos (starEach es X.env)).any (·.1) = false := by rfl)
    (ht : eval (.Call (.Attribute o m apos) (e :: es) [] pos) X.env = (do
      let ov ← eval o X.env
      standAt apos.atName
      let (g, first) ← holding [ov] (getMethod ov m pl)
      callWith pos g first (backTo pos (starEach (e :: es) X.env)) (backToKw pos (keywordEach [] X.env))) := by rfl) :
    PE X (.Call (.Attribute o m apos) (e :: es) [] pos) (tMeth (cls mg c) m sp [] E ta t) := by
  subst hm
  exact pe_me he O M hr hx ha hst hpl ht
theorem pe_me0K (mg : Str → Option Value) (hm : X.mg = mg) {pl : Sem Bool} (he : PE X o ta) (O : Oc X.K mg c) (M : Mo X.prog X.w X.K mg X.base CX k c m ps sp) (hr : Room k X.A) (hx : Passes CX X E)
    (ht : eval (.Call (.Attribute o m apos) [] [] pos) X.env = (do
      let ov ← eval o X.env
      standAt apos.atName
      let (g, first) ← holding [ov] (getMethod ov m pl)
      callWith pos g first (backTo pos (starEach [] X.env)) (backToKw pos (keywordEach [] X.env))) := by rfl) :
    PE X (.Call (.Attribute o m apos) [] [] pos) (tMeth (cls mg c) m sp [] E ta tNil) := by
  subst hm
  exact pe_me0 he O M hr hx ht
theorem pe_newM (mg : Str → Option Value) (hm : X.mg = mg) (O : Oc X.K mg c) (M : Mo X.prog X.w X.K mg X.base CX k c "__init__" ps sp) (hr : Room (k + 1) X.A) (hg : Gl X c) (hx : Passes CX X E) (ha : PA X (e :: es) t)
    (hdb : (c == ("__debug__" : Str)) = false := by decide) (he : starEach (e :: es) X.env = (false, eval e X.env) :: starEach es X.env := by rfl) (hpl : (backTo pos (starEach es X.env)).any (·.1) = false := by rfl) :
    PE X (.Call (.Name c p) (e :: es) [] pos) (tMake (cls mg c) sp [] E t) := by
  subst hm
  exact pe_new O M hr hg hx ha hdb he hpl
theorem cr_lenOK (mg : Str → Option Value) (hm : X.mg = mg) (O : Oc X.K mg c) (M : Mo X.prog X.w X.K mg X.base CX k c "__len__" ps sp) (hr : Room (k + 1) X.A) (hx : Passes CX X E) : CallR X (.builtin "len") (rLenO (cls mg c) sp E) := by
  subst hm
  exact cr_lenO O M hr hx
theorem op_eqOK (mg : Str → Option Value) (hm : X.mg = mg) (M : Mo X.prog X.w X.K mg X.base CX k c "__eq__" ps sp) (hr : Room k X.A) (hx : Passes CX X E) : OpR X (compareOp .Eq) (rEqO (cls mg c) sp E false) := by
  subst hm
  exact op_eqO M hr hx
theorem op_neOK (mg : Str → Option Value) (hm : X.mg = mg) (N : Eo2 X.K mg c) (M : Mo X.prog X.w X.K mg X.base CX k c "__eq__" ps sp) (hr : Room (k + 1) X.A) (hx : Passes CX X E) : OpR X (compareOp .NotEq) (rEqO (cls mg c) sp E true) := by
  subst hm
  exact op_neO N M hr hx
end
end Nk
namespace Nk
open PySem L2
section
variable {P : Program} {w : World} {K : PySem.W.Frag} {mg : Str → Option Value} {base : Heap}
/-! tables as they stand -/
def kvsT (t : Tb) : List (Key × V) := t.map fun p => (Sum.inr p.1, V.int p.2)
def numV : Option Int → V
  | none => .non
  | some i => .int i
theorem kvsT_val {n : Str} : ∀ {t : Tb}, valV (kvsT t) (Sum.inr n) = (lk t n).map V.int
  | [] => rfl
  | p :: t => by
    rw [lk_cons]
    by_cases e : p.1 = n
    · rw [if_pos e]
      show valV ((Sum.inr p.1, V.int p.2) :: kvsT t) _ = _
      rw [valV_pos (by rw [e])]
      rfl
    · rw [if_neg e]
      show valV ((Sum.inr p.1, V.int p.2) :: kvsT t) _ = _
      rw [valV_neg (fun z => e (Sum.inr.inj z))]
      exact kvsT_val
theorem kvsT_len {t : Tb} : (kvsT t).length = t.length := List.length_map _
theorem kvsT_keys {t : Tb} : (kvsT t).map (·.1) = (nms t).map Sum.inr := by
  unfold kvsT nms
  rw [List.map_map, List.map_map]
  rfl
theorem kvsT_keysV {t : Tb} : (kvsT t).map (fun kv => kV kv.1) = (nms t).map V.str := by
  unfold kvsT nms
  rw [List.map_map, List.map_map]
  rfl
theorem kvsT_put {t : Tb} {n : Str} {i : Int} : putK (kvsT t) (Sum.inr n) (.int i) = kvsT (putT t n i) := by
  unfold putK putT
  have e : ((kvsT t).any fun kv => decide (kv.1 = Sum.inr n)) = t.any fun p => decide (p.1 = n) := by
    unfold kvsT
    rw [List.any_map]
    congr 1
    funext p
    simp [Function.comp]
  rw [e]
  split
  · unfold kvsT
    rw [List.map_map, List.map_map]
    refine List.map_congr_left fun p _ => ?_
    simp only [Function.comp, Sum.inr.injEq]
    split <;> rfl
  · simp [kvsT]
theorem kvsT_drop {t : Tb} {n : Str} : dropK (kvsT t) (Sum.inr n) = kvsT (dropT t n) := by
  unfold dropK dropT kvsT
  rw [List.filter_map]
  congr 1
  refine List.filter_congr fun p _ => ?_
  simp [Function.comp]
theorem kvsT_flat {t : Tb} : FlatK (kvsT t) := fun p hp => by
  obtain ⟨q, _, rfl⟩ := List.mem_map.mp hp
  rfl
theorem hitB_T {b : Tb} : ∀ {a : Tb}, hitB (kvsT b) (kvsT a) = true ↔ ∀ p ∈ a, lk b p.1 = some p.2
  | [] => by simp [kvsT, hitB]
  | p :: a => by
    have ih := hitB_T (b := b) (a := a)
    show hitB (kvsT b) ((Sum.inr p.1, V.int p.2) :: kvsT a) = true ↔ _
    unfold hitB
    rw [kvsT_val]
    cases e : lk b p.1 with
    | none => simp [e]
    | some i =>
      simp only [Option.map_some, Bool.and_eq_true, ih, List.mem_cons, forall_eq_or_imp, e, Option.some.injEq]
      constructor
      · rintro ⟨h1, h2⟩
        refine ⟨?_, h2⟩
        have : p.2 = i := by simpa [eqV] using h1
        exact this.symm
      · rintro ⟨h1, h2⟩
        exact ⟨by simp [eqV, h1], h2⟩
theorem eq_T {a b : Tb} (ha : OkT a) (hb : OkT b) : eqDk (kvsT a) (kvsT b) = true ↔ ∀ n, lk a n = lk b n := by
  unfold eqDk
  rw [Bool.and_eq_true, beq_iff_eq, kvsT_len, kvsT_len, hitB_T]
  constructor
  · rintro ⟨h1, h2⟩ n
    cases e : lk a n with
    | some i => exact (h2 _ (lk_mem e)).symm
    | none =>
      cases e' : lk b n with
      | none => rfl
      | some i =>
        have hn : n ∉ nms a := lk_none.mp e
        have := nodup_le (l := n :: nms a) (m := nms b) (List.nodup_cons.mpr ⟨hn, ha.nd⟩) fun x hx => by
          rcases List.mem_cons.mp hx with z | z
          · rw [z]; exact mem_nms.mpr ⟨i, e'⟩
          · obtain ⟨j, hj⟩ := mem_nms.mp z
            exact mem_nms.mpr ⟨j, h2 _ (lk_mem hj)⟩
        simp [nms] at this
        omega
  · intro h
    exact ⟨ha.same_len hb h, fun p hp => by rw [← h]; exact lk_of ha.nd hp⟩
theorem eq_T' {a b : Tb} (ha : OkT a) (hb : OkT b) (h : ∀ n, lk a n = lk b n) : eqDk (kvsT a) (kvsT b) = true := (eq_T ha hb).mpr h
theorem ne_T {a b : Tb} (ha : OkT a) (hb : OkT b) (h : ¬ ∀ n, lk a n = lk b n) : eqDk (kvsT a) (kvsT b) = false := by
  cases e : eqDk (kvsT a) (kvsT b) with
  | false => rfl
  | true => exact absurd ((eq_T ha hb).mp e) h
/-- a state stands at p -/
structure StAt (mg : Str → Option Value) (H : Hp) (p : Addr) (t : Tb) : Prop where
  ex : ∃ dx d, H p = some (.ins (cls mg "State") dx [("table", .ref d)]) ∧ H d = some (.dK (kvsT t))
  ok : OkT t
  len : t.length ≤ 20
theorem StAt.same {H H' : Hp} {p : Addr} {t : Tb} (h : StAt mg H p t) (s : Same H H') : StAt mg H' p t := by
  obtain ⟨dx, d, h1, h2⟩ := h.ex
  exact ⟨⟨dx, d, s _ _ h1, s _ _ h2⟩, h.ok, h.len⟩
theorem StAt.but {H H' : Hp} {p a : Addr} {t : Tb} {l : List V} (h : StAt mg H p t) (s : But a H H') (ha : H a = some (.lst l)) : StAt mg H' p t := by
  obtain ⟨dx, d, h1, h2⟩ := h.ex
  exact ⟨⟨dx, d, s _ _ h1 (ne_of h1 ha (by intro z; cases z)), s _ _ h2 (ne_of h2 ha (by intro z; cases z))⟩, h.ok, h.len⟩
/-- pairs of a part -/
def PairsAt (H : Hp) : List V → Pt → Prop
  | [], [] => True
  | x :: xs, p :: ps => (∃ q, x = .ref q ∧ H q = some (.tup [.str p.1, numV p.2])) ∧ PairsAt H xs ps
  | _, _ => False
theorem PairsAt.tups {H H' : Hp} (h : ∀ b xs, H b = some (.tup xs) → H' b = some (.tup xs)) : ∀ {xs : List V} {ps : Pt}, PairsAt H xs ps → PairsAt H' xs ps
  | [], [], _ => trivial
  | x :: xs, p :: ps, ⟨⟨q, e, hq⟩, r⟩ => ⟨⟨q, e, h _ _ hq⟩, PairsAt.tups h r⟩
theorem PairsAt.same {H H' : Hp} (s : Same H H') {xs : List V} {ps : Pt} (h : PairsAt H xs ps) : PairsAt H' xs ps := h.tups fun b ys e => s _ _ e
theorem PairsAt.len {H : Hp} : ∀ {xs : List V} {ps : Pt}, PairsAt H xs ps → xs.length = ps.length
  | [], [], _ => rfl
  | x :: xs, p :: ps, ⟨_, r⟩ => by simp [PairsAt.len r]
theorem PairsAt.app {H : Hp} : ∀ {xs ys : List V} {ps qs : Pt}, PairsAt H xs ps → PairsAt H ys qs → PairsAt H (xs ++ ys) (ps ++ qs)
  | [], _, [], _, _, h => h
  | x :: xs, _, p :: ps, _, ⟨a, r⟩, h => ⟨a, PairsAt.app r h⟩
theorem PairsAt.one {H : Hp} {q : Addr} {p : Str × Option Int} (h : H q = some (.tup [.str p.1, numV p.2])) : PairsAt H [.ref q] [p] := ⟨⟨q, rfl, h⟩, trivial⟩
theorem PairsAt.get {H : Hp} : ∀ {xs : List V} {ps : Pt}, PairsAt H xs ps → ∀ {i : Nat} {x : V}, xs[i]? = some x → ∃ p q, ps[i]? = some p ∧ x = .ref q ∧ H q = some (.tup [.str p.1, numV p.2])
  | x :: xs, p :: ps, ⟨⟨q, e, hq⟩, r⟩, 0, y, hy => by
    cases hy
    exact ⟨p, q, rfl, e, hq⟩
  | x :: xs, p :: ps, ⟨_, r⟩, i + 1, y, hy => PairsAt.get r hy
  | [], [], _, i, y, hy => by simp at hy
theorem PairsAt.take {H : Hp} : ∀ {xs : List V} {ps : Pt} (n : Nat), PairsAt H xs ps → PairsAt H (xs.take n) (ps.take n)
  | [], [], n, _ => by simp [PairsAt]
  | x :: xs, p :: ps, 0, _ => by simp [PairsAt]
  | x :: xs, p :: ps, n + 1, ⟨a, r⟩ => ⟨a, PairsAt.take n r⟩
theorem PairsAt.drop {H : Hp} : ∀ {xs : List V} {ps : Pt} (n : Nat), PairsAt H xs ps → PairsAt H (xs.drop n) (ps.drop n)
  | [], [], n, _ => by simp [PairsAt]
  | x :: xs, p :: ps, 0, h => h
  | x :: xs, p :: ps, n + 1, ⟨a, r⟩ => PairsAt.drop n r
/-- a part stands at l -/
def PartAt (H : Hp) (l : Addr) (ps : Pt) : Prop := ∃ xs, H l = some (.lst xs) ∧ PairsAt H xs ps
theorem PartAt.same {H H' : Hp} (s : Same H H') {l : Addr} {ps : Pt} (h : PartAt H l ps) : PartAt H' l ps := by
  obtain ⟨xs, h1, h2⟩ := h
  exact ⟨xs, s _ _ h1, h2.same s⟩
/-- .. as data -/
def numD : Option Int → PyData
  | none => .none
  | some i => .int i
def dPt (ps : Pt) : PyData := .list (ps.map fun p => .tuple [.str p.1, numD p.2])
theorem dp_num {H : Hp} (x : Option Int) : Dp K H (numV x) (numD x) := by
  cases x with
  | none => exact .non
  | some i => exact .int i
theorem PairsAt.dp {H : Hp} : ∀ {xs : List V} {ps : Pt}, PairsAt H xs ps → DpAll K H xs (ps.map fun p => .tuple [.str p.1, numD p.2])
  | [], [], _ => .nil
  | x :: xs, p :: ps, ⟨⟨q, e, hq⟩, r⟩ => by
    subst e
    exact .cons (.tup (sqT hq) (.cons (.str _) (.cons (dp_num _) .nil))) (PairsAt.dp r)
theorem PartAt.dp {H : Hp} {l : Addr} {ps : Pt} (h : PartAt H l ps) : Dp K H (.ref l) (dPt ps) := by
  obtain ⟨xs, h1, h2⟩ := h
  exact .lst (sqL h1) h2.dp
theorem numD_inj {x y : Option Int} (h : numD x = numD y) : x = y := by
  cases x <;> cases y <;> simp [numD] at h ⊢
  exact h
theorem dPt_inj {ps qs : Pt} : dPt ps = dPt qs ↔ ps = qs := by
  constructor
  · intro h
    have h' := PyData.list.inj h
    refine (List.map_inj_right (fun a b q => ?_)).mp h'
    have q1 := PyData.tuple.inj q
    simp only [List.cons.injEq, PyData.str.injEq, and_true] at q1
    exact Prod.ext q1.1 (numD_inj q1.2)
  · intro h; rw [h]
/-- texts that may be laid down: names are such -/
theorem nm_strOk {s : Str} (h : isNm s) : PyData.strOk s = true := by
  obtain ⟨h1, h2, h3⟩ := h
  unfold PyData.strOk
  rw [← Array.all_toList, List.all_eq_true]
  intro c hc
  have := h3 c hc
  simp
  omega
theorem gd_dPt {ps : Pt} (h : ∀ p ∈ ps, isNm p.1) : gd 2 (dPt ps) = true := by
  simp only [dPt, gd]
  rw [List.all_eq_true]
  intro x hx
  obtain ⟨p, hp, rfl⟩ := List.mem_map.mp hx
  have h1 : gd 0 (.str p.1) = true := by simp only [gd]; exact nm_strOk (h p hp)
  have h2 : gd 0 (numD p.2) = true := by cases p.2 <;> rfl
  show ([PyData.str p.1, numD p.2].all (gd 0)) = true
  simp only [List.all_cons, List.all_nil, h1, h2, Bool.and_true]
end
end Nk
namespace Nk
open PySem L2
section
variable {P : Program} {w : World} {K : PySem.W.Frag} {mg : Str → Option Value} {base : Heap}
abbrev letters : Str := "abcdefghijklmnopqrstuvwxyz"
theorem letters_in (c : Nat) : c ∈ letters.cps.toList ↔ 97 ≤ c ∧ c ≤ 122 := by
  have e : letters.cps.toList = (List.range 26).map (· + 97) := by decide +kernel
  rw [e, List.mem_map]
  constructor
  · rintro ⟨k, hk, rfl⟩
    have := List.mem_range.mp hk
    omega
  · intro h
    exact ⟨c - 97, List.mem_range.mpr (by omega), by omega⟩
def isNameV : V → Bool
  | .str s => decide (isNm s)
  | _ => false
/-- texts are not too long -/
def ShortS (x : V) : Prop := ∀ s, x = .str s → s.cps.size ≤ 1000
theorem isNm_all {s : Str} (h1 : 1 ≤ s.cps.toList.length) (h2 : s.cps.toList.length ≤ 6) : decide (isNm s) = (s.cps.toList.map fun c => decide (c ∈ letters.cps.toList)).all id := by
  rw [Bool.eq_iff_iff, decide_eq_true_eq, List.all_map, List.all_eq_true]
  unfold isNm
  constructor
  · rintro ⟨_, _, h⟩ c hc
    simp only [Function.comp, id, decide_eq_true_eq]
    exact (letters_in c).mpr (h c hc)
  · intro h
    refine ⟨h1, h2, fun c hc => (letters_in c).mp ?_⟩
    have := h c hc
    simpa only [Function.comp, id, decide_eq_true_eq] using this
abbrev nm_is_name : List Str := ["thing", "sign"]
abbrev pm_is_name : List Str := ["thing"]
abbrev lv_is_name : Nat := 1
theorem sc_is_name : FnScope nm_is_name pm_is_name (defScope s_is_name) := ⟨rfl, rfl, rfl, by decide +kernel, rfl, by decide +kernel, by decide +kernel⟩
def sp_is_name (K : PySem.W.Frag) : Sp := fun vs H Q _ => ∃ (x : V) (n : String), vs = [x] ∧ Thing K H x n ∧ ShortS x ∧ ∀ H', Same H H' → Q (.bl (isNameV x)) H'
theorem f_is_name (T : Txt K mg) : Fk P w K mg base CX0 lv_is_name "is_name" pm_is_name (sp_is_name K) := by
  obtain ⟨f, fd, F, g, b⟩ := T.d_is_name.ex
  refine ⟨f, fd, g, F.kp, b, F.ok sc_is_name (fun vs H Q E h => ?_) (fun cdv A outer s H vs Q E hr h => ?_)⟩
  · obtain ⟨x, n, rfl, _⟩ := h; rfl
  · obtain ⟨x, n, rfl, hx, hs, q⟩ := h
    refine ⟨_, (pss_one (ps_ret (pe_and (pe_callB call_isi (by rfl) T.b_isinstance (by decide +kernel) (pa_cons (pv 0) (pa_cons (pe_bltn (v := .ty "str") (by rfl) T.b_str (by decide +kernel) rfl) pa_nil))) (pe_and (pe_chain op_le op_le pe_int (pe_callB call_len_str (by rfl) T.b_len PySem.boot_len (pa_cons (pv 0) pa_nil)) pe_int) (pe_one (pe_callB (cr_all rfl) (by rfl) T.b_all (by decide +kernel) (pa_cons (pe_lc (own := [("sign", 1)]) (g := gName 1) (tt := tYes) (by rfl) sc_is_name.nd (pi_str (pv 0)) (blkOk_by (own := [("sign", 1)]) (N := nm_is_name) (sc := defScope s_is_name) (by decide +kernel)) (fun _ _ _ _ _ => (pg_name (i := 1) sc_is_name.nd rfl (Or.inl rfl))) (fun _ _ _ _ _ => pts_nil) (fun _ _ _ _ _ => (pe_cmpR op_in_sign (pv 1) (pe_globS T.c_LETTERS (by rfl)) (by rfl)))) pa_nil))))))), ?_⟩
    walk_at "rd"
    refine isi_thing hx (by decide) ?_
    cases hx with
    | str s =>
      have hz := hs s rfl
      have hl : s.length = s.cps.toList.length := Array.length_toList.symm
      have hz' : s.cps.toList.length ≤ 1000 := by rw [Array.length_toList]; exact hz
      refine ⟨true, rfl, ?_⟩
      walk_at "rd"
      refine ⟨by rw [hl]; exact sz (by omega), ?_⟩
      rw [hl]
      by_cases c1 : 1 ≤ s.cps.toList.length
      · by_cases c2 : s.cps.toList.length ≤ 6
        · have d1 : (1 : Int) ≤ (s.cps.toList.length : Int) := by omega
          have d2 : (s.cps.toList.length : Int) ≤ 6 := by omega
          simp only [d1, d2]
          walk_at "ru"
          intro D hD
          refine lc_it walk_str (LcP H D fun i => (s.cps.toList.take i).map fun c => .bl (decide (c ∈ letters.cps.toList))) ⟨same_upd hD, upd_same⟩ (fun _ _ _ _ => trivial) (fun i x H2 H3 hi p hy => ?_) (fun H2 p => ?_)
          · obtain ⟨rfl, c, hc, rfl⟩ := hy
            walk_at "ru"
            have hc' : s.cps.toList[i]? = some c := by rw [Array.getElem?_toList]; exact hc
            exact ⟨c, rfl, p.push hD (by simp; omega) (Same.refl _) (map_take_next _ hc')⟩
          · refine ⟨D, s.cps.toList.map fun c => decide (c ∈ letters.cps.toList), rfl, ?_, ?_⟩
            · have := p.at_
              rw [← Array.length_toList, List.take_length] at this
              rw [List.map_map]
              exact sqL this
            · rw [← isNm_all c1 c2]
              exact q H2 p.same
        · have d1 : (1 : Int) ≤ (s.cps.toList.length : Int) := by omega
          have d2 : ¬ (s.cps.toList.length : Int) ≤ 6 := by omega
          simp only [d1, d2]
          walk_at "ru"
          have e : isNameV (.str s) = false := by
            simp only [isNameV, decide_eq_false_iff_not]
            rintro ⟨_, h, _⟩
            exact c2 h
          rw [e] at q
          exact q _ (Same.refl _)
      · have d1 : ¬ (1 : Int) ≤ (s.cps.toList.length : Int) := by omega
        simp only [d1]
        walk_at "ru"
        have e : isNameV (.str s) = false := by
          simp only [isNameV, decide_eq_false_iff_not]
          rintro ⟨h, _⟩
          exact c1 h
        rw [e] at q
        exact q _ (Same.refl _)
    | _ => exact ⟨false, rfl, q _ (Same.refl _)⟩
theorem ShortS.nm {s : Str} (h : isNm s) : ShortS (.str s) := fun s' e => by
  cases e
  have := h.2.1
  rw [Array.length_toList] at this
  omega
theorem isNameV_nm {s : Str} (h : isNm s) : isNameV (.str s) = true := by
  simp only [isNameV, decide_eq_true_eq]
  exact h
theorem tyD {H : Hp} {d : Addr} {kvs : List (Key × V)} (h : H d = some (.dK kvs)) : tyV K "dict" (.ref d) H := .inr (.inr (.inl ⟨rfl, .inl ⟨_, h⟩⟩))
/-- a locked dict is left as it was -/
theorem unlock {H H1 H2 : Hp} {d : Addr} {od : Obj} {u : HO} (hd : H d = some u) (e : upd H d (.frz od u) = H1) (s : Same H1 H2) : H2 d = some (.frz od u) ∧ Same H (upd H2 d u) := by
  subst e
  refine ⟨s _ _ upd_same, fun b o hb => ?_⟩
  by_cases c : b = d
  · subst c
    rw [hb] at hd
    cases hd
    exact upd_same
  · rw [upd_ne c]
    exact s _ _ (by rw [upd_ne c]; exact hb)
abbrev nm_is_state : List Str := ["thing", "name"]
abbrev pm_is_state : List Str := ["thing"]
abbrev lv_is_state : Nat := 2
theorem sc_is_state : FnScope nm_is_state pm_is_state (defScope s_is_state) := ⟨rfl, rfl, rfl, by decide +kernel, rfl, by decide +kernel, by decide +kernel⟩
def sp_is_state : Sp := fun vs H Q _ => ∃ (d : Addr) (t : Tb), vs = [.ref d] ∧ H d = some (.dK (kvsT t)) ∧ OkT t ∧ t.length ≤ 20 ∧ ∀ H', Same H H' → Q (.bl true) H'
theorem f_is_state (T : Txt K mg) : Fk P w K mg base CX0 lv_is_state "is_state" pm_is_state sp_is_state := by
  obtain ⟨f, fd, F, g, b⟩ := T.d_is_state.ex
  refine ⟨f, fd, g, F.kp, b, F.ok sc_is_state (fun vs H Q E h => ?_) (fun cdv A outer s H vs Q E hr h => ?_)⟩
  · obtain ⟨d, t, rfl, _⟩ := h; rfl
  · obtain ⟨d, t, rfl, hd, ok, hl, q⟩ := h
    have hu := hu_of hr
    refine ⟨_, (pss_cons (ps_if (PW.pt (pw_or (pt_not (pt_val (pe_callB call_isi (by rfl) T.b_isinstance (by decide +kernel) (pa_cons (pv 0) (pa_cons (pe_bltn (v := .ty "dict") (by rfl) T.b_dict (by decide +kernel) rfl) pa_nil))))) (pw_or1 (pt_cmpR op_gt (pe_callB call_lenD (by rfl) T.b_len PySem.boot_len (pa_cons (pv 0) pa_nil)) (pe_globI T.c_MOST_NAMES (by rfl)) (nomark _))))) (pss_one (ps_ret pe_bl)) pss_nil)
      (pss_one (ps_ret (pe_callB (cr_all rfl) (by rfl) T.b_all (by decide +kernel) (pa_cons (pe_lock (pe_lc (own := [("name", 1)]) (g := gName 1) (tt := tYes) (by rfl) sc_is_state.nd (pi_keysM (pv 0)) (blkOk_by (own := [("name", 1)]) (N := nm_is_state) (sc := defScope s_is_state) (by decide +kernel)) (fun _ _ _ _ _ => (pg_name (i := 1) sc_is_state.nd rfl (Or.inl rfl))) (fun _ _ _ _ _ => pts_nil) (fun _ _ _ _ _ => (pe_and (pe_fn (f_is_name T) (hr.mono (by decide)) (by rfl) pass0 (pa_cons (pv 1) pa_nil)) (pe_one (pe_fn (f_is_number T) (hr.mono (by decide)) (by rfl) pass0 (pa_cons (pe_dget hu (pv 0) (pv 1) (fun _ _ => rfl)) (pa_cons pe_int (pa_cons pe_int pa_nil))))))))) pa_nil))))), ?_⟩
    with_reducible refine seq_k fun K_ hK_ => ?_
    walk_at "ru"
    refine isi_thing (.dic hd) (by decide) ⟨true, rfl, ?_⟩
    walk_at "ru"
    refine ⟨_, hd, ?_⟩
    rw [kvsT_len, if_neg (by omega)]
    walk_at "ru"
    subst hK_
    first | with_reducible refine seq_k fun K_ hK_ => ?_ | skip
    walk_at "ru"
    refine ⟨d, _, hd, trivial, fun od => ?_⟩
    generalize hG : upd H d (.frz od (.dK (kvsT t))) = H1
    have hd1 : H1 d = some (.frz od (.dK (kvsT t))) := by rw [← hG]; exact upd_same
    have un := fun {H2 : Hp} (s : Same H1 H2) => unlock hd hG s
    walk_at "ru"
    refine ⟨od, _, hd1, fun D hD => ?_⟩
    refine lc_it walk_keys (LcP H1 D fun i => (t.take i).map fun _ => .bl true) ⟨same_upd hD, upd_same⟩ (fun _ _ _ p => p.same _ _ hd1) (fun i x H2 H3 hi p hy => ?_) (fun H2 p => ?_)
    · obtain ⟨rfl, k, v, hk, rfl⟩ := hy
      unfold kvsT at hk
      rw [List.getElem?_map] at hk
      cases e : t[i]? with
      | none => rw [e] at hk; cases hk
      | some pr =>
        rw [e] at hk
        cases hk
        have hm := mem_of_get e
        have hn := ok.nm _ hm
        have hn2 := ok.num _ hm
        walk_at "ru"
        refine ⟨_, _, rfl, .str pr.1, ShortS.nm hn, fun H4 s4 => ?_⟩
        rw [isNameV_nm hn]
        walk_at "ru"
        have hval : valV (kvsT t) (Sum.inr pr.1) = some (.int pr.2) := by rw [kvsT_val, lk_of ok.nd hm]; rfl
        refine ⟨_, .inl ⟨_, Sum.inr pr.1, .inr ⟨od, (p.same.trans s4) _ _ hd1⟩, rfl, hval.symm⟩, _, _, 0, _, rfl, .int _, fun _ _ => ⟨99, rfl⟩, ?_⟩
        have e2 : isNumV (.int pr.2) 0 (.int 99) = true := by simp [isNumV, hn2]
        rw [e2]
        exact p.push hD (by simp; omega) s4 (map_take_next _ e)
    · obtain ⟨hl2, s2⟩ := un p.same
      refine ⟨hl2, D, (t.take t.length).map fun _ => true, rfl, ?_, ?_⟩
      · have := p.at_
        rw [kvsT_len] at this
        rw [List.map_map]
        refine sqL ?_
        rw [upd_ne (ne_of_none hd1 hD).symm]
        exact this
      · have e : ((t.take t.length).map fun _ => true).all id = true := by simp
        rw [e]
        exact q _ s2
abbrev nm_State____init__ : List Str := ["self", "some"]
abbrev pm_State____init__ : List Str := ["self", "some"]
abbrev lv_State____init__ : Nat := 3
theorem sc_State____init__ : FnScope nm_State____init__ pm_State____init__ (defScope s_State____init__) := ⟨rfl, rfl, rfl, by decide +kernel, rfl, by decide +kernel, by decide +kernel⟩
def sp_State____init__ (mg : Str → Option Value) : Sp := fun vs H Q _ => ∃ (k dx d : Addr) (t : Tb), vs = [.ref k, .ref d] ∧ H k = some (.ins (cls mg "State") dx []) ∧ H d = some (.dK (kvsT t)) ∧ OkT t ∧ t.length ≤ 20 ∧
  ∀ H', (∀ b o, H b = some o → b ≠ k → H' b = some o) → StAt mg H' k t → Q .non H'
theorem f_State____init__ (T : Txt K mg) : Mo P w K mg base CX0 lv_State____init__ "State" "__init__" pm_State____init__ (sp_State____init__ mg) := by
  obtain ⟨f, fd, F, g, b⟩ := T.m_State____init__.ex
  refine ⟨f, fd, g, b, F.ok sc_State____init__ (fun vs H Q E h => ?_) (fun cdv A outer s H vs Q E hr h => ?_)⟩
  · obtain ⟨k, dx, d, t, rfl, _⟩ := h; rfl
  · obtain ⟨k, dx, d, t, rfl, hk, hd, ok, hl, q⟩ := h
    refine ⟨_, (pss_cons (ps_if (pt_not (pt_val (pe_fn (f_is_state T) (hr.mono (by decide)) (by rfl) pass0 (pa_cons (pv 1) pa_nil)))) (pss_one ps_never) pss_nil)
      (pss_one (ps_fld (pv 0) (pe_callTy call_dictD (by rfl) T.b_dict (by decide +kernel) (pa_cons (pv 1) pa_nil)) rfl))), ?_⟩
    with_reducible refine seq_k fun K_ hK_ => ?_
    walk_at "ru"
    refine ⟨d, t, rfl, hd, ok, hl, fun H1 s1 => ⟨true, rfl, ?_⟩⟩
    rw [if_neg (by simp)]
    walk_at "ru"
    subst hK_
    first | with_reducible refine seq_k fun K_ hK_ => ?_ | skip
    walk_at "ru"
    refine ⟨_, .inl (s1 _ _ hd), fun p hp => ?_⟩
    have hk1 := s1 _ _ hk
    have hkp : k ≠ p := ne_of_none hk1 hp
    refine ⟨_, dx, _, by rw [upd_ne hkp]; exact hk1, T.o_State.cl, T.n_State__table, (by show (0 : Nat) < 1000; decide), ?_⟩
    refine q _ (fun b o hb hbk => ?_) ⟨⟨dx, p, upd_same, by rw [upd_ne hkp.symm]; exact upd_same⟩, ok, hl⟩
    have hb1 := s1 _ _ hb
    rw [upd_ne hbk, upd_ne (ne_of_none hb1 hp)]
    exact hb1
/-- State(table) -/
theorem state_new {H : Hp} {d : Addr} {t : Tb} {Q : Addr → Hp → Prop} {E : XK} (hd : H d = some (.dK (kvsT t))) (ok : OkT t) (hl : t.length ≤ 20) (q : ∀ k H', Same H H' → H k = none → StAt mg H' k t → Q k H') :
    ∀ x dx : Addr, H x = none → H dx = none → dx ≠ x → sp_State____init__ mg [.ref x, .ref d] (upd (upd H dx (.own x)) x (.ins (cls mg "State") dx [])) (fun v H2 => v = .non ∧ Q x H2) E := by
  intro x dx hx hdx hne
  have s1 : Same H (upd (upd H dx (.own x)) x (.ins (cls mg "State") dx [])) := fun b o hb => by
    rw [upd_ne (ne_of_none hb hx), upd_ne (ne_of_none hb hdx)]
    exact hb
  exact ⟨x, dx, d, t, rfl, upd_same, s1 _ _ hd, ok, hl, fun H' st hS => ⟨rfl, q x H' (fun b o hb => st b o (s1 _ _ hb) (ne_of_none hb hx)) hx hS⟩⟩
abbrev nm_State____len__ : List Str := ["self"]
abbrev pm_State____len__ : List Str := ["self"]
abbrev lv_State____len__ : Nat := 1
theorem sc_State____len__ : FnScope nm_State____len__ pm_State____len__ (defScope s_State____len__) := ⟨rfl, rfl, rfl, by decide +kernel, rfl, by decide +kernel, by decide +kernel⟩
def sp_State____len__ (mg : Str → Option Value) : Sp := fun vs H Q _ => ∃ (p : Addr) (t : Tb), vs = [.ref p] ∧ StAt mg H p t ∧ Q (.int t.length) H
theorem f_State____len__ (T : Txt K mg) : Mo P w K mg base CX0 lv_State____len__ "State" "__len__" pm_State____len__ (sp_State____len__ mg) := by
  obtain ⟨f, fd, F, g, b⟩ := T.m_State____len__.ex
  refine ⟨f, fd, g, b, F.ok sc_State____len__ (fun vs H Q E h => ?_) (fun cdv A outer s H vs Q E hr h => ?_)⟩
  · obtain ⟨p, t, rfl, _⟩ := h; rfl
  · obtain ⟨p, t, rfl, hS, q⟩ := h
    refine ⟨_, (pss_one (ps_ret (pe_callB call_lenD (by rfl) T.b_len PySem.boot_len (pa_cons (pe_fld (pv 0) rfl) pa_nil)))), ?_⟩
    obtain ⟨dx, d, h1, h2⟩ := hS.ex
    walk_at "ru"
    refine ⟨_, dx, _, h1, T.o_State.cl, T.n_State__table, _, rfl, d, rfl, _, h2, ?_⟩
    rw [kvsT_len]
    exact q
abbrev nm_State____eq__ : List Str := ["self", "other"]
abbrev pm_State____eq__ : List Str := ["self", "other"]
abbrev lv_State____eq__ : Nat := 1
theorem sc_State____eq__ : FnScope nm_State____eq__ pm_State____eq__ (defScope s_State____eq__) := ⟨rfl, rfl, rfl, by decide +kernel, rfl, by decide +kernel, by decide +kernel⟩
def sp_State____eq__ (mg : Str → Option Value) : Sp := fun vs H Q _ => ∃ (p q : Addr) (t u : Tb), vs = [.ref p, .ref q] ∧ StAt mg H p t ∧ StAt mg H q u ∧ Q (.bl (eqDk (kvsT t) (kvsT u))) H
theorem f_State____eq__ (T : Txt K mg) : Mo P w K mg base CX0 lv_State____eq__ "State" "__eq__" pm_State____eq__ (sp_State____eq__ mg) := by
  obtain ⟨f, fd, F, g, b⟩ := T.m_State____eq__.ex
  refine ⟨f, fd, g, b, F.ok sc_State____eq__ (fun vs H Q E h => ?_) (fun cdv A outer s H vs Q E hr h => ?_)⟩
  · obtain ⟨p, q, t, u, rfl, _⟩ := h; rfl
  · obtain ⟨p, q, t, u, rfl, hS, hU, q0⟩ := h
    refine ⟨_, (pss_one (ps_ret (pe_and (pe_callB call_isi (by rfl) T.b_isinstance (by decide +kernel) (pa_cons (pv 1) (pa_cons (pe_glob (v := .ref (cls mg "State")) (by rfl) T.o_State.g rfl) pa_nil))) (pe_one (pe_cmpR (op_eqDk hr.units0) (pe_fld (pv 0) rfl) (pe_fld (pv 1) rfl) (nomark _)))))), ?_⟩
    obtain ⟨dx, d, h1, h2⟩ := hS.ex
    obtain ⟨dy, e, h3, h4⟩ := hU.ex
    walk_at "ru"
    refine isi_own T.o_State T.v_State h3 ⟨true, rfl, ?_⟩
    walk_at "ru"
    refine ⟨_, dx, _, h1, T.o_State.cl, T.n_State__table, _, rfl, _, dy, _, h3, T.o_State.cl, T.n_State__table, _, rfl, d, e, _, _, rfl, rfl, h2, h4, kvsT_flat, kvsT_flat, q0⟩
abbrev nm_State__number : List Str := ["self", "name"]
abbrev pm_State__number : List Str := ["self", "name"]
abbrev lv_State__number : Nat := 2
theorem sc_State__number : FnScope nm_State__number pm_State__number (defScope s_State__number) := ⟨rfl, rfl, rfl, by decide +kernel, rfl, by decide +kernel, by decide +kernel⟩
def lkV (t : Tb) : V → Option Int
  | .str s => lk t s
  | _ => none
def sp_State__number (K : PySem.W.Frag) (mg : Str → Option Value) : Sp := fun vs H Q _ => ∃ (p : Addr) (t : Tb) (x : V) (n : String), vs = [.ref p, x] ∧ StAt mg H p t ∧ Thing K H x n ∧ ShortS x ∧ ∀ H', Same H H' → Q (numV (lkV t x)) H'
theorem f_State__number (T : Txt K mg) : Mo P w K mg base CX0 lv_State__number "State" "number" pm_State__number (sp_State__number K mg) := by
  obtain ⟨f, fd, F, g, b⟩ := T.m_State__number.ex
  refine ⟨f, fd, g, b, F.ok sc_State__number (fun vs H Q E h => ?_) (fun cdv A outer s H vs Q E hr h => ?_)⟩
  · obtain ⟨p, t, x, n, rfl, _⟩ := h; rfl
  · obtain ⟨p, t, x, n, rfl, hS, hx, hs, q⟩ := h
    have hu := hu_of hr
    refine ⟨_, (pss_one (ps_ret (pe_ifExp (PW.pt (pw_and (pt_val (pe_fn (f_is_name T) (hr.mono (by decide)) (by rfl) pass0 (pa_cons (pv 1) pa_nil))) (pw_and1 (pt_cmp (pc_din hu (pv 1) (pe_fld (pv 0) rfl)))))) (pe_dget hu (pe_fld (pv 0) rfl) (pv 1) (fun _ _ => rfl)) pe_non))), ?_⟩
    obtain ⟨dx, d, h1, h2⟩ := hS.ex
    walk_at "ru"
    refine ⟨x, n, rfl, hx, hs, fun H1 s1 => ⟨_, rfl, ?_⟩⟩
    cases hnm : isNameV x with
    | false =>
      rw [if_neg Bool.false_ne_true]
      have e : lkV t x = none := by
        cases x with
        | str s =>
          simp only [lkV]
          rw [lk_none]
          intro hm
          obtain ⟨pr, hp, rfl⟩ := List.mem_map.mp hm
          rw [isNameV_nm (hS.ok.nm _ hp)] at hnm
          cases hnm
        | _ => rfl
      rw [e] at q
      walk_at "ru"
      exact q H1 s1
    | true =>
      rw [if_pos rfl]
      obtain ⟨s, rfl⟩ : ∃ s, x = .str s := by
        cases x with
        | str s => exact ⟨s, rfl⟩
        | _ => cases hnm
      walk_at "ru"
      refine ⟨_, dx, _, s1 _ _ h1, T.o_State.cl, T.n_State__table, _, rfl, d, rfl, _, DGet.k (k := Sum.inr s) (s1 _ _ h2), ?_⟩
      rw [kvsT_val]
      cases e : lk t s with
      | none =>
        rw [if_neg (by simp)]
        have := q H1 s1
        simpa only [lkV, e, numV] using this
      | some i =>
        walk_at "ru"
        refine ⟨_, dx, _, s1 _ _ h1, T.o_State.cl, T.n_State__table, _, rfl, d, rfl, .int i, ?_, ?_⟩
        · have := DGet.k (k := Sum.inr s) (s1 _ _ h2)
          rw [kvsT_val, e] at this
          exact this
        · have := q H1 s1
          simpa only [lkV, e, numV] using this
abbrev nm_State__names : List Str := ["self"]
abbrev pm_State__names : List Str := ["self"]
abbrev lv_State__names : Nat := 1
theorem sc_State__names : FnScope nm_State__names pm_State__names (defScope s_State__names) := ⟨rfl, rfl, rfl, by decide +kernel, rfl, by decide +kernel, by decide +kernel⟩
def sp_State__names (mg : Str → Option Value) : Sp := fun vs H Q _ => ∃ (p : Addr) (t : Tb), vs = [.ref p] ∧ StAt mg H p t ∧ ∀ l H', Same H H' → H l = none → H' l = some (.lst ((srt (nms t)).map V.str)) → Q (.ref l) H'
theorem f_State__names (T : Txt K mg) : Mo P w K mg base CX0 lv_State__names "State" "names" pm_State__names (sp_State__names mg) := by
  obtain ⟨f, fd, F, g, b⟩ := T.m_State__names.ex
  refine ⟨f, fd, g, b, F.ok sc_State__names (fun vs H Q E h => ?_) (fun cdv A outer s H vs Q E hr h => ?_)⟩
  · obtain ⟨p, t, rfl, _⟩ := h; rfl
  · obtain ⟨p, t, rfl, hS, q⟩ := h
    refine ⟨_, (pss_one (ps_ret (pe_callB (cr_sortedKS rfl) (by rfl) T.b_sorted (by decide +kernel) (pa_cons (pe_bm0 PySem.F.plainAttrs_dict PySem.F.slot_dict_keys PySem.F.type_dict_keys mt_keys (pe_fld (pv 0) rfl)) pa_nil)))), ?_⟩
    obtain ⟨dx, d, h1, h2⟩ := hS.ex
    walk_at "ru"
    refine ⟨_, dx, _, h1, T.o_State.cl, T.n_State__table, _, rfl, tyD h2, d, _, rfl, rfl, h2, fun v hv => ?_⟩
    generalize hG : upd H v (KeysO v d) = H1
    obtain ⟨s1, hv1⟩ := newF hv hG
    clear hG
    refine ⟨v, d, _, nms t, rfl, hv1, s1 _ _ h2, kvsT_keys, hS.ok.nd, fun ys l h3 h4 hl => ?_⟩
    have e : ys = srt (nms t) := srt_uniq h3 pw_srt fun k => by rw [h4, mem_srt]
    subst e
    exact q l _ (s1.trans (same_upd hl)) (s1.free hl) upd_same
abbrev nm_State__plain : List Str := ["self"]
abbrev pm_State__plain : List Str := ["self"]
abbrev lv_State__plain : Nat := 1
theorem sc_State__plain : FnScope nm_State__plain pm_State__plain (defScope s_State__plain) := ⟨rfl, rfl, rfl, by decide +kernel, rfl, by decide +kernel, by decide +kernel⟩
def sp_State__plain (mg : Str → Option Value) : Sp := fun vs H Q _ => ∃ (p : Addr) (t : Tb), vs = [.ref p] ∧ StAt mg H p t ∧ ∀ d H', Same H H' → H d = none → H' d = some (.dK (kvsT t)) → Q (.ref d) H'
theorem f_State__plain (T : Txt K mg) : Mo P w K mg base CX0 lv_State__plain "State" "plain" pm_State__plain (sp_State__plain mg) := by
  obtain ⟨f, fd, F, g, b⟩ := T.m_State__plain.ex
  refine ⟨f, fd, g, b, F.ok sc_State__plain (fun vs H Q E h => ?_) (fun cdv A outer s H vs Q E hr h => ?_)⟩
  · obtain ⟨p, t, rfl, _⟩ := h; rfl
  · obtain ⟨p, t, rfl, hS, q⟩ := h
    refine ⟨_, (pss_one (ps_ret (pe_callTy call_dictD (by rfl) T.b_dict (by decide +kernel) (pa_cons (pe_fld (pv 0) rfl) pa_nil)))), ?_⟩
    obtain ⟨dx, d, h1, h2⟩ := hS.ex
    walk_at "ru"
    refine ⟨_, dx, _, h1, T.o_State.cl, T.n_State__table, _, rfl, d, rfl, _, .inl h2, fun p hp => q p _ (same_upd hp) hp upd_same⟩
end
end Nk
namespace Nk
open PySem L2
section
variable {P : Program} {w : World} {K : PySem.W.Frag} {mg : Str → Option Value} {base : Heap}
/-- things, down to a depth, their texts short -/
def DS (K : PySem.W.Frag) (H : Hp) : Nat → V → Prop
  | 0, x => (∃ n, Thing K H x n) ∧ ShortS x
  | k + 1, x => ((∃ n, Thing K H x n) ∧ ShortS x) ∧ ∀ a xs, x = .ref a → (H a = some (.tup xs) ∨ H a = some (.lst xs)) → xs.length ≤ 100000 ∧ ∀ y ∈ xs, DS K H k y
theorem DS.th {H : Hp} {k : Nat} {x : V} (h : DS K H k x) : (∃ n, Thing K H x n) ∧ ShortS x := by
  cases k with
  | zero => exact h
  | succ k => exact h.1
theorem DS.same {H H' : Hp} (s : Same H H') : ∀ {k : Nat} {x : V}, DS K H k x → DS K H' k x
  | 0, _, ⟨⟨n, h⟩, z⟩ => ⟨⟨n, Thing.same s h⟩, z⟩
  | k + 1, x, ⟨⟨⟨n, h⟩, z⟩, hi⟩ => by
    refine ⟨⟨⟨n, Thing.same s h⟩, z⟩, fun a xs e ha => ?_⟩
    have back : H a = some (.tup xs) ∨ H a = some (.lst xs) := by
      subst e
      cases h with
      | lst h => have := s _ _ h; rw [this] at ha; rcases ha with z | z <;> cases z; exact .inr h
      | tup h => have := s _ _ h; rw [this] at ha; rcases ha with z | z <;> cases z; exact .inl h
      | dic h => have := s _ _ h; rw [this] at ha; rcases ha with z | z <;> cases z
    obtain ⟨h1, h2⟩ := hi a xs e back
    exact ⟨h1, fun y hy => DS.same s (h2 y hy)⟩
def isNum0V (m : V) : Bool := match m with
  | .non => true
  | m => isNumV m 0 (.int 99)
def isPairV (H : Hp) (x : V) : Bool := match x with
  | .ref a => match H a with
    | some (.tup [n, m]) => isNameV n && isNum0V m
    | _ => false
  | _ => false
def nameOf (H : Hp) (x : V) : Str := match x with
  | .ref a => match H a with
    | some (.tup (.str s :: _)) => s
    | _ => Str.empty
  | _ => Str.empty
def isPartV (H : Hp) (x : V) : Bool := match x with
  | .ref a => match H a with
    | some (.lst xs) => decide (xs.length ≤ 40) && xs.all (isPairV H) && decide ((xs.map (nameOf H)).Pairwise sl)
    | _ => false
  | _ => false
theorem isPairV_same {H H' : Hp} (s : Same H H') {k : Nat} {x : V} (h0 : DS K H k x) : isPairV H' x = isPairV H x := by
  obtain ⟨⟨n, h⟩, _⟩ := h0.th
  clear h0
  cases h with
  | lst h => simp only [isPairV, h, s _ _ h]
  | tup h => simp only [isPairV, h, s _ _ h]
  | dic h => simp only [isPairV, h, s _ _ h]
  | _ => rfl
theorem nameOf_same {H H' : Hp} (s : Same H H') {k : Nat} {x : V} (h0 : DS K H k x) : nameOf H' x = nameOf H x := by
  obtain ⟨⟨n, h⟩, _⟩ := h0.th
  clear h0
  cases h with
  | lst h => simp only [nameOf, h, s _ _ h]
  | tup h => simp only [nameOf, h, s _ _ h]
  | dic h => simp only [nameOf, h, s _ _ h]
  | _ => rfl
theorem isPartV_same {H H' : Hp} (s : Same H H') {x : V} (h : DS K H 2 x) : isPartV H' x = isPartV H x := by
  obtain ⟨⟨⟨n, h⟩, _⟩, hi⟩ := h
  cases h with
  | @lst a xs h =>
    obtain ⟨_, h2⟩ := hi a xs rfl (.inr h)
    simp only [isPartV, h, s _ _ h]
    have e1 : xs.all (isPairV H') = xs.all (isPairV H) := by
      rw [Bool.eq_iff_iff, List.all_eq_true, List.all_eq_true]
      exact ⟨fun z x hx => by rw [← isPairV_same s (h2 x hx)]; exact z x hx, fun z x hx => by rw [isPairV_same s (h2 x hx)]; exact z x hx⟩
    have e2 : xs.map (nameOf H') = xs.map (nameOf H) := List.map_congr_left fun x hx => nameOf_same s (h2 x hx)
    rw [e1, e2]
  | tup h => simp only [isPartV, h, s _ _ h]
  | dic h => simp only [isPartV, h, s _ _ h]
  | _ => rfl
/-! neighbours in order -/
def adjL (l : List Str) : List Bool := (l.zip (l.drop 1)).map fun p => decide (sl p.1 p.2)
theorem adjL_get {l : List Str} {i : Nat} {x y : Str} (h1 : l[i]? = some x) (h2 : l[i + 1]? = some y) : (adjL l)[i]? = some (decide (sl x y)) := by
  unfold adjL
  have e : (l.zip (l.drop 1))[i]? = some (x, y) := List.getElem?_zip_eq_some.mpr ⟨h1, by rw [List.getElem?_drop, Nat.add_comm]; exact h2⟩
  rw [List.getElem?_map, e]
  rfl
theorem adjL_len {l : List Str} : (adjL l).length = l.length - 1 := by
  unfold adjL
  simp
theorem adjL_all : ∀ {l : List Str}, (adjL l).all id = decide (l.Pairwise sl)
  | [] => by simp [adjL]
  | [x] => by simp [adjL]
  | x :: y :: r => by
    have ih := adjL_all (l := y :: r)
    have e : adjL (x :: y :: r) = decide (sl x y) :: adjL (y :: r) := by simp [adjL]
    rw [e, List.all_cons, ih, Bool.eq_iff_iff]
    simp only [id, Bool.and_eq_true, decide_eq_true_eq]
    constructor
    · rintro ⟨h1, h2⟩
      refine List.pairwise_cons.mpr ⟨fun z hz => ?_, h2⟩
      rcases List.mem_cons.mp hz with c | c
      · rw [c]; exact h1
      · exact sl_trans h1 ((List.pairwise_cons.mp h2).1 z c)
    · intro h
      obtain ⟨h1, h2⟩ := List.pairwise_cons.mp h
      exact ⟨h1 y List.mem_cons_self, h2⟩
theorem PairsAt.ds {H : Hp} : ∀ {xs : List V} {ps : Pt}, PairsAt H xs ps → (∀ p ∈ ps, isNm p.1) → ∀ x ∈ xs, DS K H 1 x
  | x :: xs, p :: ps, ⟨⟨q, e, hq⟩, r⟩, hn, y, hy => by
    rcases List.mem_cons.mp hy with z | z
    · subst z
      subst e
      refine ⟨⟨⟨_, .tup hq⟩, fun s e => nomatch e⟩, fun a ys e ha => ?_⟩
      cases e
      rw [hq] at ha
      rcases ha with z | z <;> cases z
      refine ⟨by simp, fun y hy => ?_⟩
      simp only [List.mem_cons, List.not_mem_nil, or_false] at hy
      rcases hy with rfl | rfl
      · exact ⟨⟨_, .str _⟩, ShortS.nm (hn p List.mem_cons_self)⟩
      · cases p.2 with
        | none => exact ⟨⟨_, .non⟩, fun s e => nomatch e⟩
        | some i => exact ⟨⟨_, .int i⟩, fun s e => nomatch e⟩
    · exact PairsAt.ds r (fun p hp => hn p (List.mem_cons_of_mem _ hp)) y z
theorem PairsAt.isP {H : Hp} : ∀ {xs : List V} {ps : Pt}, PairsAt H xs ps → (∀ p ∈ ps, isNm p.1) → (∀ p ∈ ps, ∀ i, p.2 = some i → 0 ≤ i ∧ i ≤ 99) → xs.all (isPairV H) = true ∧ xs.map (nameOf H) = ps.map (·.1)
  | [], [], _, _, _ => ⟨rfl, rfl⟩
  | x :: xs, p :: ps, ⟨⟨q, e, hq⟩, r⟩, hn, hm => by
    subst e
    obtain ⟨i1, i2⟩ := PairsAt.isP r (fun p hp => hn p (List.mem_cons_of_mem _ hp)) (fun p hp => hm p (List.mem_cons_of_mem _ hp))
    have h1 := hn p List.mem_cons_self
    have h2 := hm p List.mem_cons_self
    constructor
    · rw [List.all_cons, i1, Bool.and_true]
      simp only [isPairV, hq, isNameV_nm h1, Bool.true_and]
      obtain ⟨n, m⟩ := p
      cases m with
      | none => rfl
      | some i =>
        have := h2 i rfl
        simp [numV, isNum0V, isNumV, this]
    · rw [List.map_cons, List.map_cons, i2]
      simp only [nameOf, hq]
theorem PartAt.ds {H : Hp} {l : Addr} {ps : Pt} (h : PartAt H l ps) (g : GoodP ps) : DS K H 2 (.ref l) ∧ isPartV H (.ref l) = true := by
  obtain ⟨xs, h1, h2⟩ := h
  have hl := h2.len
  have g4 := g.len
  refine ⟨⟨⟨⟨_, .lst h1⟩, fun s e => nomatch e⟩, fun a ys e ha => ?_⟩, ?_⟩
  · cases e
    rw [h1] at ha
    rcases ha with z | z <;> cases z
    exact ⟨by omega, h2.ds g.nm⟩
  · obtain ⟨i1, i2⟩ := h2.isP g.nm g.num
    simp only [isPartV, h1, i1, i2, Bool.and_true, Bool.and_eq_true, decide_eq_true_eq]
    exact ⟨by omega, g.pw⟩
theorem ds_list {H : Hp} {l : Addr} {k : Nat} {xs : List V} (h : H l = some (.lst xs)) (hz : xs.length ≤ 1000) (hx : ∀ x ∈ xs, DS K H k x) : DS K H (k + 1) (.ref l) := by
  refine ⟨⟨⟨_, .lst h⟩, fun s e => nomatch e⟩, fun a ys e ha => ?_⟩
  cases e
  rw [h] at ha
  rcases ha with z | z <;> cases z
  exact ⟨by omega, hx⟩
theorem ds0 {H : Hp} {x : V} {n : String} (h : Thing K H x n) (hs : ShortS x) : DS K H 0 x := ⟨⟨n, h⟩, hs⟩
theorem ds_tup {H : Hp} {l : Addr} {k : Nat} {xs : List V} (h : H l = some (.tup xs)) (hz : xs.length ≤ 1000) (hx : ∀ x ∈ xs, DS K H k x) : DS K H (k + 1) (.ref l) := by
  refine ⟨⟨⟨_, .tup h⟩, fun s e => nomatch e⟩, fun a ys e ha => ?_⟩
  cases e
  rw [h] at ha
  rcases ha with z | z <;> cases z
  exact ⟨by omega, hx⟩
theorem short_of {s : Str} (h : s.cps.size ≤ 1000) : ShortS (.str s) := fun s' e => by cases e; exact h
theorem ds_pair {H : Hp} {l : Addr} {s : Str} {x : V} {n : String} (h : H l = some (.tup [.str s, x])) (hs : s.cps.size ≤ 1000) (hx : Thing K H x n) (hx2 : ShortS x) : DS K H 1 (.ref l) :=
  ds_tup h (by simp) fun y hy => by
    simp only [List.mem_cons, List.not_mem_nil, or_false] at hy
    rcases hy with rfl | rfl
    · exact ds0 (.str s) (short_of hs)
    · exact ds0 hx hx2
theorem room65 {k : Nat} {A : Around} (r : Room k A) : A.units + 65 < cLine := by have := r.un; omega
end
end Nk
namespace Nk
open PySem L2
section
variable {P : Program} {w : World} {K : PySem.W.Frag} {mg : Str → Option Value} {base : Heap}
theorem applyP_cons {t : Tb} {n : Str} {x : Option Int} {ps : Pt} : applyP t ((n, x) :: ps) = if lk t n = x then none else applyP (stepP t n x) ps := rfl
theorem scal_num (a b : Option Int) : scal (numV a) (numV b) = true := by cases a <;> cases b <;> rfl
theorem numV_inj {a b : Option Int} : numV a = numV b ↔ a = b := by
  cases a <;> cases b <;> simp [numV]
/-- the number of a name in a state -/
theorem num_of {H : Hp} {p : Addr} {t : Tb} {n : Str} {Q : VK} {E : XK} (hS : StAt mg H p t) (hn : isNm n) (q : ∀ H', Same H H' → Q (numV (lk t n)) H') :
    ∃ dx fs, H p = some (.ins (cls mg "State") dx fs) ∧ fs.lookup ("number" : Str) = none ∧ sp_State__number K mg [.ref p, .str n] H Q E := by
  obtain ⟨dx, d, h1, h2⟩ := hS.ex
  exact ⟨dx, _, h1, rfl, p, t, .str n, _, rfl, hS, .str n, ShortS.nm hn, q⟩
abbrev nm_part_of : List Str := ["one", "other", "names", "name"]
abbrev pm_part_of : List Str := ["one", "other"]
abbrev lv_part_of : Nat := 3
theorem sc_part_of : FnScope nm_part_of pm_part_of (defScope s_part_of) := ⟨rfl, rfl, rfl, by decide +kernel, rfl, by decide +kernel, by decide +kernel⟩
def sp_part_of (mg : Str → Option Value) : Sp := fun vs H Q _ => ∃ (p q : Addr) (t u : Tb), vs = [.ref p, .ref q] ∧ StAt mg H p t ∧ StAt mg H q u ∧ ∀ l H', Same H H' → H l = none → PartAt H' l (part t u) → Q (.ref l) H'
def iv_part_of (H1 : Hp) (D : Addr) (t u : Tb) (i : Nat) (H : Hp) : Prop := Same H1 H ∧ ∃ ys, H D = some (.lst ys) ∧ PairsAt H ys ((((srt (nms t ++ nms u)).take i).filter fun n => decide (lk t n ≠ lk u n)).map fun n => (n, lk u n))
theorem f_part_of (T : Txt K mg) : Fk P w K mg base CX0 lv_part_of "part_of" pm_part_of (sp_part_of mg) := by
  obtain ⟨f, fd, F, g, b⟩ := T.d_part_of.ex
  refine ⟨f, fd, g, F.kp, b, F.ok sc_part_of (fun vs H Q E h => ?_) (fun cdv A outer s H vs Q E hr h => ?_)⟩
  · obtain ⟨p, q, t, u, rfl, _⟩ := h; rfl
  · obtain ⟨p, q, t, u, rfl, hS, hU, q0⟩ := h
    refine ⟨_, (pss_cons (ps_set (i := 2) sc_part_of.nd rfl (.inl rfl) (pe_callB (cr_sortedSS rfl) (by rfl) T.b_sorted (by decide +kernel) (pa_cons (pe_callTy (cr_setLS rfl) (by rfl) T.b_set (by decide +kernel) (pa_cons (pe_op op_cat (pe_me0 (pv 0) T.o_State (f_State__names T) (hr.mono (by decide)) pass0) (pe_me0 (pv 1) T.o_State (f_State__names T) (hr.mono (by decide)) pass0)) pa_nil)) pa_nil)))
      (pss_one (ps_ret (pe_lc (own := [("name", 3)]) (g := gName 3) (by rfl) sc_part_of.nd (pi_list (pv 2)) (blkOk_by (own := [("name", 3)]) (N := nm_part_of) (sc := defScope s_part_of) (by decide +kernel)) (fun _ _ _ _ _ => (pg_name (i := 3) sc_part_of.nd rfl (Or.inl rfl))) (fun _ _ _ _ _ => (pts_one (pt_cmpR op_ne (pe_meK mg rfl (pv 0) T.o_State (f_State__number T) (hr.mono (by decide)) pass0 (pa_cons (pv 3) pa_nil)) (pe_meK mg rfl (pv 1) T.o_State (f_State__number T) (hr.mono (by decide)) pass0 (pa_cons (pv 3) pa_nil)) (nomark _)))) (fun _ _ _ _ _ => (pe_tup (pa_cons (pv 3) (pa_cons (pe_meK mg rfl (pv 1) T.o_State (f_State__number T) (hr.mono (by decide)) pass0 (pa_cons (pv 3) pa_nil)) pa_nil)))))))), ?_⟩
    obtain ⟨dx, d, h1, h2⟩ := hS.ex
    obtain ⟨dy, e, h3, h4⟩ := hU.ex
    have lS := hS.len
    have lU := hU.len
    have hlen : ∀ t : Tb, t.length ≤ 20 → (srt (nms t)).length ≤ 20 := fun t h => Nat.le_trans (nodup_le (pw_nodup pw_srt) (m := nms t) fun x hx => mem_srt.mp hx) (by simpa [nms] using h)
    have l1 := hlen t lS
    have l2 := hlen u lU
    with_reducible refine seq_k fun K_ hK_ => ?_
    walk_at "ru"
    refine ⟨dx, _, h1, rfl, p, t, rfl, hS, fun a1 H1 s1 n1 hA1 => ?_⟩
    refine ⟨dy, _, s1 _ _ h3, rfl, q, u, rfl, hU.same s1, fun a2 H2 s2 n2 hA2 => ?_⟩
    refine ⟨a1, a2, _, _, rfl, rfl, s2 _ _ hA1, hA2, sz (by simp; omega), ?_⟩
    intro a3 n_a3
    generalize hG_ : upd _ a3 _ = H3
    obtain ⟨s3, hA3⟩ := newF n_a3 hG_
    clear hG_
    rw [← List.map_append] at hA3
    refine ⟨a3, _, rfl, sqL hA3, by simp; omega, fun a4 c n4 hc => ?_⟩
    generalize hG : upd H3 a4 _ = H4
    obtain ⟨s4, hA4⟩ := newF n4 hG
    clear hG
    have hc2 : c ≤ 40 := by
      rw [List.length_append] at hc
      omega
    refine ⟨a4, _, c, rfl, hA4, by omega, fun ns a5 g1 g2 n5 => ?_⟩
    have e5 : ns = srt (nms t ++ nms u) := srt_uniq g1 pw_srt fun k => by rw [g2, decide_eq_true_eq, List.mem_append, mem_srt, mem_srt, mem_srt, List.mem_append]
    subst e5
    generalize hG : upd H4 a5 _ = H5
    obtain ⟨s5, hA5⟩ := newF n5 hG
    clear hG
    have sA := ((((s1.trans s2).trans s3).trans s4).trans s5)
    have hN : (srt (nms t ++ nms u)).length ≤ 40 := Nat.le_trans (nodup_le (pw_nodup pw_srt) (m := nms t ++ nms u) fun x hx => mem_srt.mp hx) (by simp [nms]; omega)
    have hnm : ∀ n ∈ srt (nms t ++ nms u), isNm n := fun n hn => by
      rw [mem_srt, List.mem_append] at hn
      rcases hn with hn | hn
      · obtain ⟨pr, hp, rfl⟩ := List.mem_map.mp hn; exact hS.ok.nm _ hp
      · obtain ⟨pr, hp, rfl⟩ := List.mem_map.mp hn; exact hU.ok.nm _ hp
    walk_at "ru"
    subst hK_
    first | with_reducible refine seq_k fun K_ hK_ => ?_ | skip
    walk_at "ru"
    refine ⟨⟨_, sqL hA5⟩, fun D hD => ?_⟩
    refine lc_list (K := K) (a := a5) (xs := (srt (nms t ++ nms u)).map V.str) (iv_part_of H5 D t u) ⟨same_upd hD, [], upd_same, by simp [PairsAt]⟩ (fun i H2 _ p => sqL (p.1 _ _ hA5)) (fun i x H6 hx p => ?_) fun H6 p => ?_
    · obtain ⟨s6, ys, hD6, hP6⟩ := p
      rw [List.getElem?_map] at hx
      cases ex : (srt (nms t ++ nms u))[i]? with
      | none => rw [ex] at hx; cases hx
      | some n =>
        rw [ex] at hx
        cases hx
        have hn := hnm n (mem_of_get ex)
        have hi := lt_of_get ex
        have hlY := hP6.len
        rw [List.length_map] at hlY
        have hlF := filter_len (srt (nms t ++ nms u)) (fun n => decide (lk t n ≠ lk u n)) i
        have hS6 := hS.same (sA.trans s6)
        have hU6 := hU.same (sA.trans s6)
        walk_at "ru"
        refine num_of hS6 hn fun H7 s7 => ?_
        refine num_of (hU6.same s7) hn fun H8 s8 => ?_
        refine ⟨scal_num _ _, ?_⟩
        have s68 := s7.trans s8
        have hft := filter_take_next (fun n => decide (lk t n ≠ lk u n)) ex
        by_cases c : lk t n = lk u n
        · rw [if_neg (by simp [numV_inj, c])]
          rw [if_neg (by simp [c]), List.append_nil] at hft
          exact ⟨s6.trans s68, ys, s68 _ _ hD6, by rw [hft]; exact hP6.same s68⟩
        · rw [if_pos (by simp [numV_inj, c])]
          rw [if_pos (by simp [c])] at hft
          walk_at "ru"
          refine num_of ((hU6.same s7).same s8) hn fun H9 s9 => ?_
          intro a9 n_a9
          generalize hG_ : upd _ a9 _ = HA
          obtain ⟨sB, hA9⟩ := newF n_a9 hG_
          clear hG_
          have s6A := (s68.trans s9).trans sB
          refine ⟨ys, s6A _ _ hD6, szl (by omega), Same.app (s6.trans s6A) hD, ys ++ [.ref a9], upd_same, ?_⟩
          rw [hft, List.map_append]
          have kp : ∀ z zs, HA z = some (.tup zs) → (upd HA D (.lst (ys ++ [.ref a9]))) z = some (.tup zs) := fun z zs e => by rw [upd_ne (ne_of e (s6A _ _ hD6) (by intro z; cases z))]; exact e
          exact (hP6.same s6A |>.tups kp).app (PairsAt.one (p := (n, lk u n)) (kp _ _ hA9))
    · obtain ⟨s6, ys, hD6, hP6⟩ := p
      rw [List.length_map, List.take_length] at hP6
      exact q0 D H6 (sA.trans s6) (sA.free hD) ⟨ys, hD6, hP6⟩
/-- the last of a list -/
theorem ixLast {H : Hp} {p : Addr} {xs : List V} {v : V} {Q : VK} (h : SqL K H p xs) (e : xs.getLast? = some v) (q : Q v H) : rIxL K (.ref p) (.int (-1)) H Q := by
  refine ⟨p, xs, -1, v, rfl, rfl, h, ?_, q⟩
  have hne : xs ≠ [] := fun z => by rw [z] at e; cases e
  have hl := List.length_pos_iff.mpr hne
  unfold atI ixN
  rw [if_neg (by omega), if_pos (by omega)]
  show xs[(-1 + (xs.length : Int)).toNat]? = some v
  rw [List.getLast?_eq_getElem?] at e
  rw [← e]
  congr 1
  omega
end
end Nk
namespace Nk
open PySem L2
section
variable {P : Program} {w : World} {K : PySem.W.Frag} {mg : Str → Option Value} {base : Heap}
theorem ixS {z : Str} {i : Int} {j c : Nat} {H : Hp} {Q : VK} (hz : z.cps.size ≤ 1000) (hi : i = (j : Int)) (e : z.cps.toList[j]? = some c) (q : Q (.str ⟨#[c]⟩) H) : rIxS (.str z) (.int i) H Q :=
  ⟨z, i, c, rfl, rfl, sz (by show z.cps.size ≤ _; omega), by rw [hi]; exact atI_nat e, q⟩
theorem str_add {z : Str} {c : Nat} : (z ++ (⟨#[c]⟩ : Str)).cps.toList = z.cps.toList ++ [c] := by
  show (z.cps ++ #[c]).toList = _
  simp
theorem empty_all : ∀ c ∈ (("" : Str)).cps.toList, 97 ≤ c ∧ c ≤ 122 := by
  have e : (("" : Str)).cps.toList = [] := by decide +kernel
  intro c hc
  rw [e] at hc
  cases hc
abbrev nm__law_name : List Str := ["script", "town", "names", "letters", "found", "k"]
abbrev pm__law_name : List Str := ["script", "town", "names"]
abbrev lv__law_name : Nat := 3
theorem sc__law_name : FnScope nm__law_name pm__law_name (defScope s__law_name) := ⟨rfl, rfl, rfl, by decide +kernel, rfl, by decide +kernel, by decide +kernel⟩
def sp__law_name (K : PySem.W.Frag) : Sp := fun vs H Q _ => ∃ (a t l : Addr) (ns : List Int) (c : Nat) (xs : List Str), vs = [.ref a, .ref t, .ref l] ∧ Tn K H a t ns c ∧ c < 900000000 ∧ H l = some (.lst (xs.map V.str)) ∧ l ≠ t ∧ 0 < xs.length ∧ xs.length ≤ 1000 ∧ (∀ x ∈ xs, isNm x) ∧
  ∀ (s : Str) (c' : Nat) (H' : Hp), isNm s → c' ≤ c + 8 → Tn K H' a t ns c' → But t H H' → Q (.str s) H'
def iv__law_name (K : PySem.W.Frag) (H1 : Hp) (a t l : Addr) (ns : List Int) (c : Nat) (i : Nat) (σ : L2.St) (H : Hp) : Prop :=
  ∃ (z : Str) (y : Option V), σ = [some (.ref a), some (.ref t), some (.ref l), some (.str letters), some (.str z), y] ∧ z.cps.toList.length = i ∧ (∀ c ∈ z.cps.toList, 97 ≤ c ∧ c ≤ 122) ∧ Tn K H a t ns (c + i) ∧ But t H1 H
theorem f__law_name (T : Txt K mg) : Fk P w K mg base CX0 lv__law_name "_law_name" pm__law_name (sp__law_name K) := by
  obtain ⟨f, fd, F, g, b⟩ := T.d__law_name.ex
  refine ⟨f, fd, g, F.kp, b, F.ok sc__law_name (fun vs H Q E h => ?_) (fun cdv A outer s H vs Q E hr h => ?_)⟩
  · obtain ⟨a, t, l, ns, c, xs, rfl, _⟩ := h; rfl
  · obtain ⟨a, t, l, ns, c, xs, rfl, hT, hc, hl, hlt, h0, h1, hnm, q⟩ := h
    refine ⟨_, (pss_cons (ps_if (pt_cmpR op_gt (pe_fn (f__law_draw T) (hr.mono (by decide)) (by rfl) pass0 (pa_cons (pv 0) (pa_cons (pv 1) (pa_cons pe_int pa_nil)))) pe_int (nomark _)) (pss_one (ps_ret (pe_fn (f__law_pick T) (hr.mono (by decide)) (by rfl) pass0 (pa_cons (pv 0) (pa_cons (pv 1) (pa_cons (pv 2) pa_nil)))))) pss_nil)
      (pss_cons (ps_set (i := 3) sc__law_name.nd rfl (.inl rfl) pe_str)
      (pss_cons (ps_set (i := 4) sc__law_name.nd rfl (.inl rfl) pe_str)
      (pss_cons (ps_for PassesOwn.never rfl (pi_range1 (by rfl) T.b_range (pa_cons (pe_op op_add pe_int (pe_fn (f__law_draw T) (hr.mono (by decide)) (by rfl) pass0 (pa_cons (pv 0) (pa_cons (pv 1) (pa_cons pe_int pa_nil))))) pa_nil)) (pg_name (i := 5) sc__law_name.nd rfl (Or.inl rfl)) (pss_one (ps_set (i := 4) sc__law_name.nd rfl (.inl rfl) (pe_op op_add_str (pv 4) (pe_ix ix_str (pv 3) (pe_fn (f__law_draw T) (hr.mono (by decide)) (by rfl) pass0 (pa_cons (pv 0) (pa_cons (pv 1) (pa_cons pe_int pa_nil)))) (fun _ _ => rfl))))))
      (pss_one (ps_ret (pv 4))))))), ?_⟩
    with_reducible refine seq_k fun K_ hK_ => ?_
    walk_at "ru"
    refine ⟨a, t, ns, c, 4, rfl, hT, by omega, by omega, by omega, fun d H1 d0 d1 T1 b1 => ?_⟩
    refine ⟨_, rfl, ite2 (fun c1 => ?_) (fun c1 => ?_)⟩
    · refine ⟨a, t, l, ns, c + 1, xs.map V.str, rfl, T1, by omega, b1 _ _ hl hlt, hlt, by simpa using h0, by simp; omega, fun v H2 hv T2 b2 => ?_⟩
      obtain ⟨x, hx, rfl⟩ := List.mem_map.mp hv
      exact q x (c + 2) H2 (hnm x hx) (by omega) T2 (b1.trans b2)
    · walk_at "ru"
      subst hK_
      first | with_reducible refine seq_k fun K_ hK_ => ?_ | skip
      walk_at "ru"
      walk_at "ru"
      subst hK_
      first | with_reducible refine seq_k fun K_ hK_ => ?_ | skip
      walk_at "ru"
      walk_at "ru"
      subst hK_
      first | with_reducible refine seq_k fun K_ hK_ => ?_ | skip
      walk_at "ru"
      refine ⟨a, t, ns, c + 1, 6, rfl, T1, by omega, by omega, by omega, fun e H2 e0 e1 T2 b2 => ?_⟩
      walk_at "ru"
      refine ⟨by omega, by omega, ?_⟩
      refine for_it walk_range (iv__law_name K H a t l ns (c + 2)) ⟨_, _, rfl, rfl, empty_all, T2, b1.trans b2⟩ (fun _ _ _ _ _ => trivial) (fun i x σ H3 H4 hi iv hy => ?_) (fun σ H3 iv => ?_)
      · obtain ⟨z, y, rfl, hz, hall, T3, b3⟩ := iv
        obtain ⟨rfl, rfl⟩ := hy
        walk_at "ru"
        refine ⟨a, t, ns, c + 2 + i, 26, rfl, T3, by omega, by omega, by omega, fun j H5 j0 j1 T5 b5 => ?_⟩
        have hj : letters.cps.toList[j.toNat]? = some (j.toNat + 97) := by
          have e : letters.cps.toList = (List.range 26).map (· + 97) := by decide +kernel
          rw [e, List.getElem?_map, List.getElem?_range (by omega)]
          rfl
        refine ixS (j := j.toNat) (by decide) (by omega) hj ?_
        walk_at "ru"
        have hzs : z.cps.size = i := by rw [← Array.length_toList]; exact hz
        refine ⟨sz (by show z.cps.size + 1 ≤ _; omega), _, _, rfl, by rw [str_add, List.length_append, hz]; rfl, fun c hc => ?_, T5, b3.trans b5⟩
        rw [str_add] at hc
        rcases List.mem_append.mp hc with hc | hc
        · exact hall c hc
        · rw [List.mem_singleton.mp hc]; omega
      · obtain ⟨z, y, rfl, hz, hall, T3, b3⟩ := iv
        walk_at "ru"
        subst hK_
        first | with_reducible refine seq_k fun K_ hK_ => ?_ | skip
        walk_at "ru"
        refine q z _ H3 ⟨by omega, by omega, hall⟩ ?_ T3 b3
        omega
abbrev nm__law_table : List Str := ["script", "town", "many", "names", "found", "k"]
abbrev pm__law_table : List Str := ["script", "town", "many"]
abbrev lv__law_table : Nat := 4
theorem sc__law_table : FnScope nm__law_table pm__law_table (defScope s__law_table) := ⟨rfl, rfl, rfl, by decide +kernel, rfl, by decide +kernel, by decide +kernel⟩
/-- a table that was made: d is new -/
def sp__law_table (K : PySem.W.Frag) : Sp := fun vs H Q _ => ∃ (a t : Addr) (ns : List Int) (c : Nat) (many : Int), vs = [.ref a, .ref t, .int many] ∧ Tn K H a t ns c ∧ c < 800000000 ∧ 0 ≤ many ∧ many ≤ 20 ∧
  ∀ (d : Addr) (tb : Tb) (c' : Nat) (H' : Hp), H d = none → d ≠ t → H' d = some (.dK (kvsT tb)) → OkT tb → (tb.length : Int) ≤ many → c' ≤ c + 300 → Tn K H' a t ns c' → But t H H' → Q (.ref d) H'
def iv__law_table (K : PySem.W.Frag) (H1 : Hp) (a t l d : Addr) (ns : List Int) (many : Int) (xs : List Str) (c : Nat) (i : Nat) (σ : L2.St) (H : Hp) : Prop :=
  (∃ (y : Option V), σ = [some (.ref a), some (.ref t), some (.int many), some (.ref l), some (.ref d), y]) ∧ ∃ (tb : Tb) (c' : Nat), H d = some (.dK (kvsT tb)) ∧ OkT tb ∧ tb.length ≤ i ∧ c' ≤ c + 10 * i ∧ Tn K H a t ns c' ∧ But t H1 H ∧ H l = some (.lst (xs.map V.str))
theorem OkT.len_put {tb : Tb} {n : Str} {i : Int} : (putT tb n i).length ≤ tb.length + 1 := by
  rw [put_len]; split <;> omega
theorem f__law_table (T : Txt K mg) : Fk P w K mg base CX0 lv__law_table "_law_table" pm__law_table (sp__law_table K) := by
  obtain ⟨f, fd, F, g, b⟩ := T.d__law_table.ex
  refine ⟨f, fd, g, F.kp, b, F.ok sc__law_table (fun vs H Q E h => ?_) (fun cdv A outer s H vs Q E hr h => ?_)⟩
  · obtain ⟨a, t, ns, c, many, rfl, _⟩ := h; rfl
  · obtain ⟨a, t, ns, c, many, rfl, hT, hc, m0, m1, q⟩ := h
    have hu := hu_of hr
    refine ⟨_, (pss_cons (ps_set (i := 3) sc__law_table.nd rfl (.inl rfl) (pe_lst (pa_cons pe_str (pa_cons pe_str (pa_cons pe_str (pa_cons pe_str (pa_cons pe_str (pa_cons pe_str (pa_cons pe_str (pa_cons pe_str (pa_cons pe_str (pa_cons pe_str pa_nil))))))))))))
      (pss_cons (ps_set (i := 4) sc__law_table.nd rfl (.inl rfl) pe_dnewK)
      (pss_cons (ps_for PassesOwn.never rfl (pi_range1 (by rfl) T.b_range (pa_cons (pe_fn (f__law_draw T) (hr.mono (by decide)) (by rfl) pass0 (pa_cons (pv 0) (pa_cons (pv 1) (pa_cons (pe_op op_add (pv 2) pe_int) pa_nil)))) pa_nil)) (pg_name (i := 5) sc__law_table.nd rfl (Or.inl rfl)) (pss_one (ps_dput hu (pv 4) (pe_fn (f__law_name T) (hr.mono (by decide)) (by rfl) pass0 (pa_cons (pv 0) (pa_cons (pv 1) (pa_cons (pv 3) pa_nil)))) (pe_fn (f__law_draw T) (hr.mono (by decide)) (by rfl) pass0 (pa_cons (pv 0) (pa_cons (pv 1) (pa_cons (pe_fn (f__law_pick T) (hr.mono (by decide)) (by rfl) pass0 (pa_cons (pv 0) (pa_cons (pv 1) (pa_cons (pe_lst (pa_cons pe_int (pa_cons pe_int pa_nil))) pa_nil)))) pa_nil)))) rfl)))
      (pss_one (ps_ret (pv 4)))))), ?_⟩
    with_reducible refine seq_k fun K_ hK_ => ?_
    walk_at "ru"
    intro l n_l
    generalize hG_ : upd _ l _ = H1
    obtain ⟨s1, hl⟩ := newF n_l hG_
    clear hG_
    have hlt : l ≠ t := hT.some_ n_l
    walk_at "ru"
    subst hK_
    first | with_reducible refine seq_k fun K_ hK_ => ?_ | skip
    walk_at "ru"
    intro d n_d
    generalize hG_ : upd _ d _ = H2
    obtain ⟨s2, hd⟩ := newF n_d hG_
    clear hG_
    have T2 := hT.same (s1.trans s2)
    have hdt : d ≠ t := (hT.same s1).some_ n_d
    have hl2 := s2 _ _ hl
    have hld : l ≠ d := ne_of_none hl n_d
    have nd : H d = none := s1.free n_d
    have xsN : ∀ x ∈ (["a", "b", "ab", "ba", "z", "zzzzzz", "c", "d", "e", "f"] : List Str), isNm x := by decide +kernel
    walk_at "ru"
    subst hK_
    first | with_reducible refine seq_k fun K_ hK_ => ?_ | skip
    walk_at "ru"
    refine ⟨a, t, ns, c, many + 1, rfl, T2, by omega, by omega, by omega, fun e H3 e0 e1 T3 b3 => ?_⟩
    walk_at "ru"
    have b03 : But t H H3 := Same.thenB (s1.trans s2) b3
    refine ⟨by omega, by omega, ?_⟩
    refine for_it walk_range (iv__law_table K H a t l d ns many ["a", "b", "ab", "ba", "z", "zzzzzz", "c", "d", "e", "f"] (c + 1)) ⟨⟨_, rfl⟩, [], c + 1, b3 _ _ hd hdt, .nil, by simp, by omega, T3, b03, b3 _ _ hl2 hlt⟩ (fun _ _ _ _ _ => trivial) (fun i x σ H4 H5 hi iv hy => ?_) (fun σ H4 iv => ?_)
    · obtain ⟨⟨y, rfl⟩, tb, c', hd4, ok, hlen, hc', T4, b4, hl4⟩ := iv
      obtain ⟨rfl, rfl⟩ := hy
      have hi' : i ≤ 20 := by omega
      walk_at "ru"
      refine pickI [2, 100] T4 (by omega) fun k hk H6 T6 b6 => ?_
      have hk2 : 0 < k ∧ k ≤ 100 := by
        simp only [List.mem_cons, List.not_mem_nil, or_false] at hk
        omega
      refine ⟨a, t, ns, c' + 1, k, rfl, T6, by omega, by omega, by omega, fun j H7 j0 j1 T7 b7 => ?_⟩
      walk_at "ru"
      have b47 := b6.trans b7
      refine ⟨a, t, l, ns, c' + 2, _, rfl, T7, by omega, b47 _ _ hl4 hlt, hlt, by decide, by decide, xsN, fun nm c2 H8 hn hc2 T8 b8 => ?_⟩
      have b48 := b47.trans b8
      have hd8 := b48 _ _ hd4 hdt
      refine ⟨_, DPut.k (k := Sum.inr nm) hd8 (szl (by rw [kvsT_len]; omega)), ?_⟩
      have hp := OkT.len_put (tb := tb) (n := nm) (i := j)
      refine ⟨⟨_, rfl⟩, putT tb nm j, c2, by rw [upd_same, kvsT_put], ok.put hn (by omega) (by omega), by omega, by omega, T8.app hT nd hdt, (b4.trans b48).app nd, ?_⟩
      rw [upd_ne hld]
      exact b48 _ _ hl4 hlt
    · obtain ⟨⟨y, rfl⟩, tb, c', hd4, ok, hlen, hc', T4, b4, hl4⟩ := iv
      walk_at "ru"
      subst hK_
      first | with_reducible refine seq_k fun K_ hK_ => ?_ | skip
      walk_at "ru"
      exact q d tb c' H4 nd hdt hd4 ok (by omega) (by omega) T4 b4
abbrev nm__law_later : List Str := ["script", "town", "table", "found", "k", "name", "way", "one"]
abbrev pm__law_later : List Str := ["script", "town", "table"]
abbrev lv__law_later : Nat := 4
theorem sc__law_later : FnScope nm__law_later pm__law_later (defScope s__law_later) := ⟨rfl, rfl, rfl, by decide +kernel, rfl, by decide +kernel, by decide +kernel⟩
def sp__law_later (K : PySem.W.Frag) : Sp := fun vs H Q _ => ∃ (a t e : Addr) (ns : List Int) (c : Nat) (u : Tb), vs = [.ref a, .ref t, .ref e] ∧ Tn K H a t ns c ∧ c < 800000000 ∧ H e = some (.dK (kvsT u)) ∧ OkT u ∧ u.length ≤ 20 ∧
  ∀ (d : Addr) (tb : Tb) (c' : Nat) (H' : Hp), H d = none → d ≠ t → H' d = some (.dK (kvsT tb)) → OkT tb → tb.length ≤ 20 → c' ≤ c + 50 → Tn K H' a t ns c' → But t H H' → Q (.ref d) H'
def iv__law_later (K : PySem.W.Frag) (H1 : Hp) (a t e : Addr) (ns : List Int) (c : Nat) (i : Nat) (σ : L2.St) (H : Hp) : Prop :=
  ∃ (d : Addr) (y z x : Option V) (tb : Tb) (c' : Nat), σ = [some (.ref a), some (.ref t), some (.ref e), some (.ref d), y, z, x, none] ∧ H1 d = none ∧ d ≠ t ∧ H d = some (.dK (kvsT tb)) ∧ OkT tb ∧ tb.length ≤ 20 ∧ c' ≤ c + 12 * i ∧ Tn K H a t ns c' ∧ But t H1 H
/-- tuples of names and numbers -/
def RefsAt (H : Hp) : List Addr → Tb → Prop
  | [], [] => True
  | q :: qs, p :: ps => H q = some (.tup [.str p.1, .int p.2]) ∧ RefsAt H qs ps
  | _, _ => False
theorem RefsAt.tups {H H' : Hp} (h : ∀ b xs, H b = some (.tup xs) → H' b = some (.tup xs)) : ∀ {xs : List Addr} {ps : Tb}, RefsAt H xs ps → RefsAt H' xs ps
  | [], [], _ => trivial
  | q :: xs, p :: ps, ⟨hq, r⟩ => ⟨h _ _ hq, RefsAt.tups h r⟩
theorem RefsAt.same {H H' : Hp} (s : Same H H') {xs : List Addr} {ps : Tb} (h : RefsAt H xs ps) : RefsAt H' xs ps := h.tups fun b ys e => s _ _ e
theorem RefsAt.len {H : Hp} : ∀ {xs : List Addr} {ps : Tb}, RefsAt H xs ps → xs.length = ps.length
  | [], [], _ => rfl
  | x :: xs, p :: ps, ⟨_, r⟩ => by simp [RefsAt.len r]
theorem RefsAt.app {H : Hp} : ∀ {xs ys : List Addr} {ps qs : Tb}, RefsAt H xs ps → RefsAt H ys qs → RefsAt H (xs ++ ys) (ps ++ qs)
  | [], _, [], _, _, h => h
  | x :: xs, _, p :: ps, _, ⟨a, r⟩, h => ⟨a, RefsAt.app r h⟩
theorem RefsAt.paired {H : Hp} : ∀ {xs : List Addr} {ps : Tb}, RefsAt H xs ps → Paired (fun p kv => SqT K H p [kV kv.1, kv.2]) xs (kvsT ps)
  | [], [], _ => .nil
  | x :: xs, p :: ps, ⟨h, r⟩ => .cons (sqT h) (RefsAt.paired r)
def iv_later2 (H1 : Hp) (D : Addr) (tb : Tb) (nm : Str) (i : Nat) (H : Hp) : Prop := Same H1 H ∧ ∃ ps, H D = some (.lst (ps.map V.ref)) ∧ RefsAt H ps ((tb.take i).filter fun p => decide (p.1 ≠ nm))
theorem mergeK_nd : ∀ {ks ls : List (Key × V)}, ((ls ++ ks).map (·.1)).Nodup → mergeK ls ks = ls ++ ks
  | [], ls, _ => by simp [mergeK]
  | p :: ks, ls, h => by
    have h1 : valV ls p.1 = none := by
      cases e : valV ls p.1 with
      | none => rfl
      | some v =>
        exfalso
        have hm := valV_in e
        rw [List.map_append, List.nodup_append] at h
        exact h.2.2 _ hm p.1 (by simp) rfl
    show mergeK (putK ls p.1 p.2) ks = _
    rw [putK_new _ h1, mergeK_nd (by simpa using h)]
    simp
theorem f__law_later (T : Txt K mg) : Fk P w K mg base CX0 lv__law_later "_law_later" pm__law_later (sp__law_later K) := by
  obtain ⟨f, fd, F, g, b⟩ := T.d__law_later.ex
  refine ⟨f, fd, g, F.kp, b, F.ok sc__law_later (fun vs H Q E h => ?_) (fun cdv A outer s H vs Q E hr h => ?_)⟩
  · obtain ⟨a, t, e, ns, c, u, rfl, _⟩ := h; rfl
  · obtain ⟨a, t, e, ns, c, u, rfl, hT, hc, he, oku, lu, q⟩ := h
    have hu := hu_of hr
    refine ⟨_, (pss_cons (ps_set (i := 3) sc__law_later.nd rfl (.inr rfl) (pe_callTy call_dictD (by rfl) T.b_dict (by decide +kernel) (pa_cons (pv 2) pa_nil)))
      (pss_cons (ps_for PassesOwn.never rfl (pi_range1 (by rfl) T.b_range (pa_cons (pe_fn (f__law_draw T) (hr.mono (by decide)) (by rfl) pass0 (pa_cons (pv 0) (pa_cons (pv 1) (pa_cons pe_int pa_nil)))) pa_nil)) (pg_name (i := 4) sc__law_later.nd rfl (Or.inl rfl)) (pss_cons (ps_set (i := 5) sc__law_later.nd rfl (.inr rfl) (pe_fn (f__law_name T) (hr.mono (by decide)) (by rfl) pass0 (pa_cons (pv 0) (pa_cons (pv 1) (pa_cons (pe_op op_cat (pe_callTy call_list_of (by rfl) T.b_list (by decide +kernel) (pa_cons (pe_callB (cr_sortedKS rfl) (by rfl) T.b_sorted (by decide +kernel) (pa_cons (pe_bm0 PySem.F.plainAttrs_dict PySem.F.slot_dict_keys PySem.F.type_dict_keys mt_keys (pv 3)) pa_nil)) pa_nil)) (pe_lst (pa_cons pe_str (pa_cons pe_str (pa_cons pe_str (pa_cons pe_str pa_nil)))))) pa_nil)))))
      (pss_cons (ps_set (i := 6) sc__law_later.nd rfl (.inl rfl) (pe_fn (f__law_draw T) (hr.mono (by decide)) (by rfl) pass0 (pa_cons (pv 0) (pa_cons (pv 1) (pa_cons pe_int pa_nil)))))
      (pss_one (ps_if (PW.pt (pw_and (pt_cmpR op_eq (pv 6) pe_int (nomark _)) (pw_and1 (pt_cmp (pc_din hu (pv 5) (pv 3)))))) (pss_one (ps_set (i := 3) sc__law_later.nd rfl (.inr rfl) (pe_callTy (call_dictP rfl) (by rfl) T.b_dict (by decide +kernel) (pa_cons (pe_lock (pe_lc (own := [("one", 7)]) (g := gName 7) (by rfl) sc__law_later.nd (pi_keys (pv 3)) (blkOk_by (own := [("one", 7)]) (N := nm__law_later) (sc := defScope s__law_later) (by decide +kernel)) (fun _ _ _ _ _ => (pg_name (i := 7) sc__law_later.nd rfl (Or.inl rfl))) (fun _ _ _ _ _ => (pts_one (pt_cmpR op_ne (pv 7) (pv 5) (nomark _)))) (fun _ _ _ _ _ => (pe_tup (pa_cons (pv 7) (pa_cons (pe_dget hu (pv 3) (pv 7) (fun _ _ => rfl)) pa_nil)))))) pa_nil)))) (pss_one (ps_if (PW.pt (pw_and (pt_cmpR op_gt (pv 6) pe_int (nomark _)) (pw_and1 (PW.pt (pw_or (pt_cmpR op_lt (pe_callB call_lenD (by rfl) T.b_len PySem.boot_len (pa_cons (pv 3) pa_nil)) pe_int (nomark _)) (pw_or1 (pt_cmp (pc_din hu (pv 5) (pv 3))))))))) (pss_one (ps_dput hu (pv 3) (pv 5) (pe_fn (f__law_draw T) (hr.mono (by decide)) (by rfl) pass0 (pa_cons (pv 0) (pa_cons (pv 1) (pa_cons (pe_fn (f__law_pick T) (hr.mono (by decide)) (by rfl) pass0 (pa_cons (pv 0) (pa_cons (pv 1) (pa_cons (pe_lst (pa_cons pe_int (pa_cons pe_int pa_nil))) pa_nil)))) pa_nil)))) rfl)) pss_nil)))))))
      (pss_one (ps_ret (pv 3))))), ?_⟩
    with_reducible refine seq_k fun K_ hK_ => ?_
    walk_at "ru"
    refine ⟨_, .inl he, ?_⟩
    intro d n_d
    generalize hG_ : upd _ d _ = H1
    obtain ⟨s1, hd⟩ := newF n_d hG_
    clear hG_
    have hdt : d ≠ t := hT.some_ n_d
    walk_at "ru"
    subst hK_
    first | with_reducible refine seq_k fun K_ hK_ => ?_ | skip
    walk_at "ru"
    refine ⟨a, t, ns, c, 4, rfl, hT.same s1, by omega, by omega, by omega, fun m H2 m0 m1 T2 b2 => ?_⟩
    walk_at "ru"
    refine ⟨by omega, by omega, ?_⟩
    refine for_it walk_range (iv__law_later K H a t e ns (c + 1)) ⟨d, _, _, _, u, c + 1, rfl, n_d, hdt, b2 _ _ hd hdt, oku, lu, by omega, T2, Same.thenB s1 b2⟩ (fun _ _ _ _ _ => trivial) (fun i x σ H3 H4 hi iv hy => ?_) (fun σ H3 iv => ?_)
    · obtain ⟨d, y, z, x, tb, c', rfl, nd, hdt, hd3, ok, hlen, hc', T3, b3⟩ := iv
      obtain ⟨rfl, rfl⟩ := hy
      have hi' : i < 4 := by omega
      walk_at "ru"
      with_reducible refine seq_k fun K_ hK_ => ?_
      walk_at "ru"
      refine ⟨tyD hd3, d, _, rfl, rfl, hd3, fun v hv => ?_⟩
      generalize hG : upd H4 v (KeysO v d) = H5
      obtain ⟨s5, hv5⟩ := newF hv hG
      clear hG
      refine ⟨v, d, _, nms tb, rfl, hv5, s5 _ _ hd3, kvsT_keys, ok.nd, fun ys l h3 h4 hl => ?_⟩
      generalize hG : upd H5 l _ = H6
      obtain ⟨s6, hl6⟩ := newF hl hG
      clear hG
      walk_at "ru"
      refine ⟨_, .inl (sqL hl6), ?_⟩
      intro l2 n_l2
      generalize hG_ : upd _ l2 _ = H7
      obtain ⟨s7, hl7⟩ := newF n_l2 hG_
      clear hG_
      intro l3 n_l3
      generalize hG_ : upd _ l3 _ = H8
      obtain ⟨s8, hl8⟩ := newF n_l3 hG_
      clear hG_
      have hl28 := s8 _ _ hl7
      have yl : ys.length ≤ 20 := Nat.le_trans (nodup_le (pw_nodup h3) (m := nms tb) fun x hx => (h4 x).mp hx) (by simpa [nms] using hlen)
      refine ⟨l2, l3, _, _, rfl, rfl, hl28, hl8, sz (by simp; omega), ?_⟩
      intro l4 n_l4
      generalize hG_ : upd _ l4 _ = H9
      obtain ⟨s9, hl9⟩ := newF n_l4 hG_
      clear hG_
      have s49 := ((((s5.trans s6).trans s7).trans s8).trans s9)
      have T9 := T3.same s49
      have hd9 := s49 _ _ hd3
      have e4 : ys.map V.str ++ [V.str (Str.ofString "a"), V.str (Str.ofString "b"), V.str (Str.ofString "ab"), V.str (Str.ofString "q")] = (ys ++ (["a", "b", "ab", "q"] : List Str)).map V.str := by rw [List.map_append]; rfl
      rw [e4] at hl9
      have yn : ∀ x ∈ ys ++ (["a", "b", "ab", "q"] : List Str), isNm x := fun x hx => by
        rcases List.mem_append.mp hx with hx | hx
        · obtain ⟨pr, hp, rfl⟩ := List.mem_map.mp ((h4 x).mp hx)
          exact ok.nm _ hp
        · have : ∀ x ∈ (["a", "b", "ab", "q"] : List Str), isNm x := by decide +kernel
          exact this x hx
      refine ⟨a, t, l4, ns, c', _, rfl, T9, by omega, hl9, (T3.same (((s5.trans s6).trans s7).trans s8)).some_ n_l4, by simp, by simp; omega, yn, fun nm c2 H10 hn hc2 T10 b10 => ?_⟩
      have b410 := Same.thenB s49 b10
      have hd10 := b410 _ _ hd3 hdt
      have b310 := b3.trans b410
      walk_at "ru"
      subst hK_
      first | with_reducible refine seq_k fun K_ hK_ => ?_ | skip
      walk_at "ru"
      refine ⟨a, t, ns, c2, 4, rfl, T10, by omega, by omega, by omega, fun way H11 w0 w1 T11 b11 => ?_⟩
      have hd11 := b11 _ _ hd10 hdt
      have b311 := b310.trans b11
      walk_at "ru"
      subst hK_
      first | with_reducible refine seq_k fun K_ hK_ => ?_ | skip
      walk_at "ru"
      have hdget : DGet H11 d (.str nm) (valV (kvsT tb) (Sum.inr nm)) := DGet.k (k := Sum.inr nm) hd11
      have done : iv__law_later K H a t e ns (c + 1) (i + 1) [some (V.ref a), some (V.ref t), some (V.ref e), some (V.ref d), some (V.int (0 + ↑i)), some (V.str nm), some (V.int way), none] H11 :=
        ⟨d, _, _, _, tb, c2 + 1, rfl, nd, hdt, hd11, ok, hlen, by omega, T11, b311⟩
      by_cases w : way = 0
      · rw [if_pos w]
        refine ⟨_, hdget, ?_⟩
        rw [kvsT_val]
        cases eL : lk tb nm with
        | none =>
          rw [if_neg (by simp), if_neg (by omega)]
          exact done
        | some j =>
          rw [if_pos (by simp)]
          refine ⟨d, _, hd11, trivial, fun od => ?_⟩
          generalize hG : upd H11 d (.frz od (.dK (kvsT tb))) = H12
          have hd12 : H12 d = some (.frz od (.dK (kvsT tb))) := by rw [← hG]; exact upd_same
          have un := fun {H2 : Hp} (s : Same H12 H2) => unlock hd11 hG s
          walk_at "ru"
          refine ⟨od, .inl ⟨_, hd12, fun D hD => ?_⟩⟩
          refine lc_it walk_keys (iv_later2 H12 D tb nm) ⟨same_upd hD, [], upd_same, by simp [RefsAt]⟩ (fun _ _ _ p => p.1 _ _ hd12) (fun i x H2 H3 hi p hy => ?_) (fun H2 p => ?_)
          · obtain ⟨s2, ps, hD2, hP2⟩ := p
            obtain ⟨rfl, k, v, hk, rfl⟩ := hy
            unfold kvsT at hk
            rw [List.getElem?_map] at hk
            cases ek : tb[i]? with
            | none => rw [ek] at hk; cases hk
            | some pr =>
              rw [ek] at hk
              cases hk
              have hm := mem_of_get ek
              have hft := filter_take_next (fun p : Str × Int => decide (p.1 ≠ nm)) ek
              have hpl := hP2.len
              have hfl := filter_len tb (fun p : Str × Int => decide (p.1 ≠ nm)) i
              walk_at "ru"
              by_cases cN : pr.1 = nm
              · rw [if_neg (by simp [cN])]
                rw [if_neg (by simp [cN]), List.append_nil] at hft
                exact ⟨s2, ps, hD2, by rw [hft]; exact hP2⟩
              · rw [if_pos (by simp [cN])]
                rw [if_pos (by simp [cN])] at hft
                have hval : valV (kvsT tb) (Sum.inr pr.1) = some (.int pr.2) := by rw [kvsT_val, lk_of ok.nd hm]; rfl
                refine ⟨_, .inl ⟨_, Sum.inr pr.1, .inr ⟨od, s2 _ _ hd12⟩, rfl, hval.symm⟩, ?_⟩
                intro q1 n_q1
                generalize hG_ : upd _ q1 _ = H5
                obtain ⟨s5, hq1⟩ := newF n_q1 hG_
                clear hG_
                refine ⟨_, s5 _ _ hD2, szl (by rw [List.length_map]; omega), Same.app (s2.trans s5) hD, ps ++ [q1], by rw [upd_same, List.map_append]; rfl, ?_⟩
                have kp : ∀ z zs o, H5 z = some (.tup zs) → (upd H5 D (.lst o)) z = some (.tup zs) := fun z zs o e => by rw [upd_ne (ne_of e (s5 _ _ hD2) (by intro z; cases z))]; exact e
                rw [hft]
                exact ((hP2.same s5).tups (fun b xs e => kp b xs _ e)).app ⟨kp _ _ _ hq1, trivial⟩
          · obtain ⟨s2, ps, hD2, hP2⟩ := p
            rw [kvsT_len, List.take_length] at hP2
            obtain ⟨hl2, s11⟩ := un s2
            have hDd : D ≠ d := (ne_of_none hd12 hD).symm
            have hD3 : (upd H2 d (.dK (kvsT tb))) D = some (.lst (ps.map V.ref)) := by rw [upd_ne hDd]; exact hD2
            have hP3 : RefsAt (upd H2 d (.dK (kvsT tb))) ps (dropT tb nm) := hP2.tups fun b xs e => by rw [upd_ne (ne_of e hl2 (by intro z; cases z))]; exact e
            refine ⟨hl2, ps, sqL hD3, kvsT (dropT tb nm), hP3.paired, fun p2 hp2 => ?_⟩
            have ndk : ((([] : List (Key × V)) ++ kvsT (dropT tb nm)).map (·.1)).Nodup := by
              rw [List.nil_append, kvsT_keys]
              exact List.Pairwise.map _ (fun a b h e => h (Sum.inr.inj e)) ok.drop.nd
            rw [mergeK_nd ndk, List.nil_append]
            have nH : H p2 = none := b311.free (s11.free hp2) ((T11.same s11).some_ hp2)
            refine ⟨p2, _, _, _, dropT tb nm, c2 + 1, rfl, nH, (T11.same s11).some_ hp2, upd_same, ok.drop, Nat.le_trans (List.length_filter_le _ _) hlen, by omega, (T11.same s11).same (same_upd hp2), (b311.thenS s11).thenS (same_upd hp2)⟩
      · rw [if_neg w, if_pos (by omega)]
        refine ⟨_, hd11, ?_⟩
        rw [kvsT_len]
        by_cases c20 : tb.length < 20
        · rw [if_pos (by omega)]
          refine pickI [2, 100] T11 (by omega) fun k hk H12 T12 b12 => ?_
          have hk2 : 0 < k ∧ k ≤ 100 := by
            simp only [List.mem_cons, List.not_mem_nil, or_false] at hk
            omega
          refine ⟨a, t, ns, c2 + 2, k, rfl, T12, by omega, by omega, by omega, fun m H13 m0 m1 T13 b13 => ?_⟩
          have hd13 := (b12.trans b13) _ _ hd11 hdt
          walk_at "ru"
          refine ⟨_, DPut.k (k := Sum.inr nm) hd13 (szl (by rw [kvsT_len]; omega)), ?_⟩
          have hpl : (putT tb nm m).length ≤ 20 := by
            rw [put_len]
            split <;> omega
          exact ⟨d, _, _, _, putT tb nm m, c2 + 3, rfl, nd, hdt, by rw [upd_same, kvsT_put], ok.put hn (by omega) (by omega), hpl, by omega, T13.app hT nd hdt, (b311.trans (b12.trans b13)).app nd⟩
        · rw [if_neg (by omega)]
          refine ⟨_, hdget, ?_⟩
          rw [kvsT_val]
          cases eL : lk tb nm with
          | none =>
            rw [if_neg (by simp)]
            exact done
          | some j =>
            rw [if_pos (by simp)]
            refine pickI [2, 100] T11 (by omega) fun k hk H12 T12 b12 => ?_
            have hk2 : 0 < k ∧ k ≤ 100 := by
              simp only [List.mem_cons, List.not_mem_nil, or_false] at hk
              omega
            refine ⟨a, t, ns, c2 + 2, k, rfl, T12, by omega, by omega, by omega, fun m H13 m0 m1 T13 b13 => ?_⟩
            have hd13 := (b12.trans b13) _ _ hd11 hdt
            walk_at "ru"
            refine ⟨_, DPut.k (k := Sum.inr nm) hd13 (szl (by rw [kvsT_len]; omega)), ?_⟩
            have hpl : (putT tb nm m).length ≤ 20 := by
              rw [put_len]
              rw [if_pos (mem_nms.mpr ⟨j, eL⟩)]; exact hlen
            exact ⟨d, _, _, _, putT tb nm m, c2 + 3, rfl, nd, hdt, by rw [upd_same, kvsT_put], ok.put hn (by omega) (by omega), hpl, by omega, T13.app hT nd hdt, (b311.trans (b12.trans b13)).app nd⟩
    · obtain ⟨d, y, z, x, tb, c', rfl, nd, hdt, hd3, ok, hlen, hc', T3, b3⟩ := iv
      walk_at "ru"
      subst hK_
      first | with_reducible refine seq_k fun K_ hK_ => ?_ | skip
      walk_at "ru"
      exact q d tb c' H3 nd hdt hd3 ok hlen (by omega) T3 b3
abbrev nm__law_unlike : List Str := ["one", "other", "names", "name"]
abbrev pm__law_unlike : List Str := ["one", "other"]
abbrev lv__law_unlike : Nat := 1
theorem sc__law_unlike : FnScope nm__law_unlike pm__law_unlike (defScope s__law_unlike) := ⟨rfl, rfl, rfl, by decide +kernel, rfl, by decide +kernel, by decide +kernel⟩
def sp__law_unlike : Sp := fun vs H Q _ => ∃ (p q : Addr) (t u : Tb), vs = [.ref p, .ref q] ∧ H p = some (.dK (kvsT t)) ∧ H q = some (.dK (kvsT u)) ∧ OkT t ∧ OkT u ∧ t.length ≤ 20 ∧ u.length ≤ 20 ∧ ∀ l H', Same H H' → H l = none → PartAt H' l (part t u) → Q (.ref l) H'
/-- list(d.keys()) of a table -/
theorem keys_list {H : Hp} {d : Addr} {t : Tb} {Q : VK} (hd : H d = some (.dK (kvsT t))) (q : ∀ l H', Same H H' → H l = none → H' l = some (.lst ((nms t).map V.str)) → Q (.ref l) H') : tyV K "dict" (.ref d) H ∧ rKeys (.ref d) [] H fun x H1 => rListKeys [x] H1 Q := by
  refine ⟨tyD hd, d, _, rfl, rfl, hd, fun v hv => ?_⟩
  generalize hG : upd H v (KeysO v d) = H1
  obtain ⟨s1, hv1⟩ := newF hv hG
  refine ⟨v, d, _, rfl, hv1, s1 _ _ hd, fun p hp => ?_⟩
  rw [kvsT_keysV]
  exact q p _ (s1.trans (same_upd hp)) (s1.free hp) upd_same
theorem isD_T {H : Hp} {d : Addr} {kvs : List (Key × V)} (h : H d = some (.dK kvs)) : IsD H d := .inl ⟨_, .inl h⟩
theorem getD_T {t : Tb} {n : Str} : ((lk t n).map V.int).getD V.non = numV (lk t n) := by cases lk t n <;> rfl
theorem get_of {H : Hp} {d : Addr} {t : Tb} {n : Str} {Q : VK} (hd : H d = some (.dK (kvsT t))) (q : Q (numV (lk t n)) H) : IsD H d ∧ ∃ o, DGet H d (.str n) o ∧ Q (o.getD .non) H := by
  refine ⟨.inl ⟨_, .inl hd⟩, _, DGet.k (k := Sum.inr n) hd, ?_⟩
  rw [kvsT_val]
  have e0 : ((lk t n).map V.int).getD V.non = numV (lk t n) := by cases lk t n <;> rfl
  rw [e0]
  exact q
theorem f__law_unlike (T : Txt K mg) : Fk P w K mg base CX0 lv__law_unlike "_law_unlike" pm__law_unlike sp__law_unlike := by
  obtain ⟨f, fd, F, g, b⟩ := T.d__law_unlike.ex
  refine ⟨f, fd, g, F.kp, b, F.ok sc__law_unlike (fun vs H Q E h => ?_) (fun cdv A outer s H vs Q E hr h => ?_)⟩
  · obtain ⟨p, q, t, u, rfl, _⟩ := h; rfl
  · obtain ⟨p, q, t, u, rfl, hS, hU, okt, oku, lS, lU, q0⟩ := h
    have hu := hu_of hr
    refine ⟨_, (pss_cons (ps_set (i := 2) sc__law_unlike.nd rfl (.inl rfl) (pe_callB (cr_sortedSS rfl) (by rfl) T.b_sorted (by decide +kernel) (pa_cons (pe_callTy (cr_setLS rfl) (by rfl) T.b_set (by decide +kernel) (pa_cons (pe_op op_cat (pe_callTy (call_listKeys rfl) (by rfl) T.b_list (by decide +kernel) (pa_cons (pe_bm0 PySem.F.plainAttrs_dict PySem.F.slot_dict_keys PySem.F.type_dict_keys mt_keys (pv 0)) pa_nil)) (pe_callTy (call_listKeys rfl) (by rfl) T.b_list (by decide +kernel) (pa_cons (pe_bm0 PySem.F.plainAttrs_dict PySem.F.slot_dict_keys PySem.F.type_dict_keys mt_keys (pv 1)) pa_nil))) pa_nil)) pa_nil)))
      (pss_one (ps_ret (pe_lc (own := [("name", 3)]) (g := gName 3) (by rfl) sc__law_unlike.nd (pi_list (pv 2)) (blkOk_by (own := [("name", 3)]) (N := nm__law_unlike) (sc := defScope s__law_unlike) (by decide +kernel)) (fun _ _ _ _ _ => (pg_name (i := 3) sc__law_unlike.nd rfl (Or.inl rfl))) (fun _ _ _ _ _ => (pts_one (pt_cmpR op_ne (pe_dget1 hu (pv 0) (pv 3) ⟨rfl, rfl, rfl, rfl⟩) (pe_dget1 hu (pv 1) (pv 3) ⟨rfl, rfl, rfl, rfl⟩) (nomark _)))) (fun _ _ _ _ _ => (pe_tup (pa_cons (pv 3) (pa_cons (pe_dget1 hu (pv 1) (pv 3) ⟨rfl, rfl, rfl, rfl⟩) pa_nil)))))))), ?_⟩
    have l1 : (nms t).length ≤ 20 := by simpa [nms] using lS
    have l2 : (nms u).length ≤ 20 := by simpa [nms] using lU
    with_reducible refine seq_k fun K_ hK_ => ?_
    walk_at "ru"
    refine keys_list hS fun a1 H1 s1 n1 hA1 => ?_
    refine keys_list (s1 _ _ hU) fun a2 H2 s2 n2 hA2 => ?_
    refine ⟨a1, a2, _, _, rfl, rfl, s2 _ _ hA1, hA2, sz (by simp; omega), ?_⟩
    intro a3 n_a3
    generalize hG_ : upd _ a3 _ = H3
    obtain ⟨s3, hA3⟩ := newF n_a3 hG_
    clear hG_
    rw [← List.map_append] at hA3
    refine ⟨a3, _, rfl, sqL hA3, by simp; omega, fun a4 c n4 hc => ?_⟩
    generalize hG : upd H3 a4 _ = H4
    obtain ⟨s4, hA4⟩ := newF n4 hG
    clear hG
    have hc2 : c ≤ 40 := by
      rw [List.length_append] at hc
      omega
    refine ⟨a4, _, c, rfl, hA4, by omega, fun ns a5 g1 g2 n5 => ?_⟩
    have e5 : ns = srt (nms t ++ nms u) := srt_uniq g1 pw_srt fun k => by rw [g2, decide_eq_true_eq, mem_srt]
    subst e5
    generalize hG : upd H4 a5 _ = H5
    obtain ⟨s5, hA5⟩ := newF n5 hG
    clear hG
    have sA := ((((s1.trans s2).trans s3).trans s4).trans s5)
    have hN : (srt (nms t ++ nms u)).length ≤ 40 := Nat.le_trans (nodup_le (pw_nodup pw_srt) (m := nms t ++ nms u) fun x hx => mem_srt.mp hx) (by simp; omega)
    walk_at "ru"
    subst hK_
    first | with_reducible refine seq_k fun K_ hK_ => ?_ | skip
    walk_at "ru"
    refine ⟨⟨_, sqL hA5⟩, fun D hD => ?_⟩
    refine lc_list (K := K) (a := a5) (xs := (srt (nms t ++ nms u)).map V.str) (iv_part_of H5 D t u) ⟨same_upd hD, [], upd_same, by simp [PairsAt]⟩ (fun i H2 _ p => sqL (p.1 _ _ hA5)) (fun i x H6 hx p => ?_) fun H6 p => ?_
    · obtain ⟨s6, ys, hD6, hP6⟩ := p
      rw [List.getElem?_map] at hx
      cases ex : (srt (nms t ++ nms u))[i]? with
      | none => rw [ex] at hx; cases hx
      | some n =>
        rw [ex] at hx
        cases hx
        have hi := lt_of_get ex
        have hlY := hP6.len
        rw [List.length_map] at hlY
        have hlF := filter_len (srt (nms t ++ nms u)) (fun n => decide (lk t n ≠ lk u n)) i
        have hS6 := (sA.trans s6) _ _ hS
        have hU6 := (sA.trans s6) _ _ hU
        walk_at "ru"
        refine ⟨isD_T hS6, _, DGet.k (k := Sum.inr n) hS6, isD_T hU6, _, DGet.k (k := Sum.inr n) hU6, ?_⟩
        rw [kvsT_val, kvsT_val, getD_T, getD_T]
        refine ⟨scal_num _ _, ?_⟩
        have hft := filter_take_next (fun n => decide (lk t n ≠ lk u n)) ex
        by_cases c : lk t n = lk u n
        · rw [if_neg (by simp [numV_inj, c])]
          rw [if_neg (by simp [c]), List.append_nil] at hft
          exact ⟨s6, ys, hD6, by rw [hft]; exact hP6⟩
        · rw [if_pos (by simp [numV_inj, c])]
          rw [if_pos (by simp [c])] at hft
          walk_at "ru"
          refine ⟨isD_T hU6, _, DGet.k (k := Sum.inr n) hU6, ?_⟩
          rw [kvsT_val, getD_T]
          intro a9 n_a9
          generalize hG_ : upd _ a9 _ = HA
          obtain ⟨sB, hA9⟩ := newF n_a9 hG_
          clear hG_
          refine ⟨ys, sB _ _ hD6, szl (by omega), Same.app (s6.trans sB) hD, ys ++ [.ref a9], upd_same, ?_⟩
          rw [hft, List.map_append]
          have kp : ∀ z zs, HA z = some (.tup zs) → (upd HA D (.lst (ys ++ [.ref a9]))) z = some (.tup zs) := fun z zs e => by rw [upd_ne (ne_of e (sB _ _ hD6) (by intro z; cases z))]; exact e
          exact (hP6.same sB |>.tups kp).app (PairsAt.one (p := (n, lk u n)) (kp _ _ hA9))
    · obtain ⟨s6, ys, hD6, hP6⟩ := p
      rw [List.length_map, List.take_length] at hP6
      exact q0 D H6 (sA.trans s6) (sA.free hD) ⟨ys, hD6, hP6⟩
theorem ne_same {H : Hp} {p q : Addr} {t u : Tb} {Q : VK} {E : XK} (hS : StAt mg H p t) (hU : StAt mg H q u) (h : ∀ n, lk t n = lk u n) (k : Q (.bl false) H) : rEqO (cls mg "State") (sp_State____eq__ mg) E true (.ref p) (.ref q) H Q := by
  obtain ⟨dx, d, h1, h2⟩ := hS.ex
  obtain ⟨dy, e, h3, h4⟩ := hU.ex
  refine ⟨p, q, dx, dy, _, _, rfl, rfl, h1, h3, p, q, t, u, rfl, hS, hU, _, rfl, ?_⟩
  rw [eq_T' hS.ok hU.ok h]
  exact k
theorem GoodP.nil : GoodP [] := ⟨.nil, (fun _ h => nomatch h), (fun _ h => nomatch h), by simp⟩
theorem dicts_but {H H' : Hp} {t d : Addr} {l : List V} {kvs : List (Key × V)} (b : But t H H') (ht : H t = some (.lst l)) (h : H d = some (.dK kvs)) : H' d = some (.dK kvs) := b _ _ h (ne_of h ht (by intro z; cases z))
end
end Nk
namespace Nk
open PySem L2
section
variable {P : Program} {w : World} {K : PySem.W.Frag} {mg : Str → Option Value} {base : Heap}
/-- the town's list is no part, nor a list of things by reference -/
theorem ne_town {H : Hp} {a t l : Addr} {ns : List Int} {c : Nat} {xs : List V} (T : Tn K H a t ns c) (hl : H l = some (.lst xs)) (hx : ∀ i : Int, xs.head? ≠ some (.int i)) : l ≠ t := by
  obtain ⟨ls, _, ht⟩ := T.town
  intro e
  subst e
  rw [hl] at ht
  have := HO.lst.inj (Option.some.inj ht)
  subst this
  exact hx _ rfl
theorem PairsAt.head {H : Hp} {xs : List V} {ps : Pt} (h : PairsAt H xs ps) (i : Int) : xs.head? ≠ some (.int i) := by
  cases xs with
  | nil => simp
  | cons x xs =>
    cases ps with
    | nil => exact h.elim
    | cons p ps =>
      obtain ⟨⟨q, e, _⟩, _⟩ := h
      rw [e]
      simp
theorem PartAt.but {H H' : Hp} {a t l : Addr} {ns : List Int} {c : Nat} {ps : Pt} (h : PartAt H l ps) (T : Tn K H a t ns c) (b : But t H H') : PartAt H' l ps := by
  obtain ⟨xs, h1, h2⟩ := h
  obtain ⟨ls, ht⟩ := T.lst
  exact ⟨xs, b _ _ h1 (ne_town T h1 h2.head), h2.tups fun z zs e => b _ _ e (ne_of e ht (by intro z; cases z))⟩
/-- tables that stand -/
def TabsAt (H : Hp) : List V → List Tb → Prop
  | [], [] => True
  | x :: xs, t :: ts => (∃ d, x = .ref d ∧ H d = some (.dK (kvsT t))) ∧ TabsAt H xs ts
  | _, _ => False
theorem TabsAt.keep {H H' : Hp} (h : ∀ b kvs, H b = some (.dK kvs) → H' b = some (.dK kvs)) : ∀ {xs : List V} {ps : List Tb}, TabsAt H xs ps → TabsAt H' xs ps
  | [], [], _ => trivial
  | x :: xs, p :: ps, ⟨⟨q, e, hq⟩, r⟩ => ⟨⟨q, e, h _ _ hq⟩, TabsAt.keep h r⟩
theorem TabsAt.same {H H' : Hp} (s : Same H H') {xs : List V} {ps : List Tb} (h : TabsAt H xs ps) : TabsAt H' xs ps := h.keep fun _ _ e => s _ _ e
theorem TabsAt.but {H H' : Hp} {t : Addr} {l : List V} (b : But t H H') (ht : H t = some (.lst l)) {xs : List V} {ps : List Tb} (h : TabsAt H xs ps) : TabsAt H' xs ps := h.keep fun _ _ e => dicts_but b ht e
theorem TabsAt.len {H : Hp} : ∀ {xs : List V} {ps : List Tb}, TabsAt H xs ps → xs.length = ps.length
  | [], [], _ => rfl
  | x :: xs, p :: ps, ⟨_, r⟩ => by simp [TabsAt.len r]
theorem TabsAt.app {H : Hp} : ∀ {xs ys : List V} {ps qs : List Tb}, TabsAt H xs ps → TabsAt H ys qs → TabsAt H (xs ++ ys) (ps ++ qs)
  | [], _, [], _, _, h => h
  | x :: xs, _, p :: ps, _, ⟨a, r⟩, h => ⟨a, TabsAt.app r h⟩
theorem TabsAt.get {H : Hp} : ∀ {xs : List V} {ps : List Tb}, TabsAt H xs ps → ∀ {i : Nat}, i < xs.length → ∃ p q, ps[i]? = some p ∧ xs[i]? = some (.ref q) ∧ H q = some (.dK (kvsT p))
  | x :: xs, p :: ps, ⟨⟨q, e, hq⟩, r⟩, 0, _ => ⟨p, q, rfl, by rw [e]; rfl, hq⟩
  | x :: xs, p :: ps, ⟨_, r⟩, i + 1, h => TabsAt.get r (by simpa using h)
theorem TabsAt.head {H : Hp} {xs : List V} {ps : List Tb} (h : TabsAt H xs ps) (i : Int) : xs.head? ≠ some (.int i) := by
  cases xs with
  | nil => simp
  | cons x xs =>
    cases ps with
    | nil => exact h.elim
    | cons p ps =>
      obtain ⟨⟨q, e, _⟩, _⟩ := h
      rw [e]
      simp
end
end Nk
namespace Nk
open PySem L2
section
variable {P : Program} {w : World} {K : PySem.W.Frag} {mg : Str → Option Value} {base : Heap}
def isWordV : V → Bool
  | .str s => decide (s ∈ planWords)
  | _ => false
def headWhole (xs : List V) : Bool := decide (xs.head? = some (.str "whole"))
def isPlanV (H : Hp) (x : V) : Bool := match x with
  | .ref a => match H a with
    | some (.lst xs) => decide (1 ≤ xs.length) && decide (xs.length ≤ 8) && xs.all isWordV && headWhole xs
    | _ => false
  | _ => false
theorem isPlanV_same {H H' : Hp} (s : Same H H') {x : V} {n : String} (h : Thing K H x n) : isPlanV H' x = isPlanV H x := by
  cases h with
  | lst h => simp only [isPlanV, h, s _ _ h]
  | tup h => simp only [isPlanV, h, s _ _ h]
  | dic h => simp only [isPlanV, h, s _ _ h]
  | _ => rfl
theorem words_of {xs : List V} (h : xs.all isWordV = true) : ∃ ws : List Str, xs = ws.map V.str ∧ ∀ w ∈ ws, w ∈ planWords := by
  induction xs with
  | nil => exact ⟨[], rfl, fun _ h => nomatch h⟩
  | cons x xs ih =>
    simp only [List.all_cons, Bool.and_eq_true] at h
    obtain ⟨ws, e, hw⟩ := ih h.2
    cases x with
    | str s =>
      refine ⟨s :: ws, by rw [e]; rfl, fun w hw' => ?_⟩
      rcases List.mem_cons.mp hw' with rfl | hw'
      · simpa [isWordV] using h.1
      · exact hw w hw'
    | _ => simp [isWordV] at h
theorem plan_of {H : Hp} {x : V} (h : isPlanV H x = true) : ∃ (l : Addr) (ws : List Str), x = .ref l ∧ H l = some (.lst (ws.map V.str)) ∧ GoodW ws := by
  cases x with
  | ref a =>
    simp only [isPlanV] at h
    split at h
    · rename_i xs e
      simp only [Bool.and_eq_true, decide_eq_true_eq] at h
      obtain ⟨⟨⟨h1, h2⟩, h3⟩, h4⟩ := h
      obtain ⟨ws, rfl, hw⟩ := words_of h3
      refine ⟨a, ws, rfl, e, ⟨by simpa using h1, by simpa using h2, hw, ?_⟩⟩
      simp only [headWhole, decide_eq_true_eq] at h4
      cases ws with
      | nil => simp at h4
      | cons w ws => simpa using h4
    · cases h
  | _ => simp [isPlanV] at h
theorem plan_is {H : Hp} {l : Addr} {ws : List Str} (hl : H l = some (.lst (ws.map V.str))) (g : GoodW ws) : isPlanV H (.ref l) = true := by
  simp only [isPlanV, hl, Bool.and_eq_true, decide_eq_true_eq, List.length_map]
  refine ⟨⟨⟨g.l1, g.l8⟩, ?_⟩, ?_⟩
  · rw [List.all_map, List.all_eq_true]
    intro w hw
    simpa [Function.comp, isWordV] using g.wd w hw
  · have := g.fst
    cases ws with
    | nil => cases this
    | cons w ws =>
      simp only [List.getElem?_cons_zero, Option.some.injEq] at this
      simp [headWhole, this]
theorem inV_words (s : Str) : inV (.str s) (planWords.map V.str) = decide (s ∈ planWords) := by
  unfold inV
  rw [List.any_map, Bool.eq_iff_iff, List.any_eq_true, decide_eq_true_eq]
  constructor
  · rintro ⟨x, hx, e⟩
    have : x = s := by simpa [eqV] using e
    rw [← this]; exact hx
  · intro h
    exact ⟨s, h, by simp [eqV]⟩
theorem flat_strs (l : List Str) : (l.map V.str).all flatV = true := by
  rw [List.all_eq_true]
  intro x hx
  obtain ⟨i, _, rfl⟩ := List.mem_map.mp hx
  rfl
/-- states that stand -/
def StsAt (mg : Str → Option Value) (H : Hp) : List V → List Tb → Prop
  | [], [] => True
  | x :: xs, t :: ts => (∃ d, x = .ref d ∧ StAt mg H d t) ∧ StsAt mg H xs ts
  | _, _ => False
theorem StsAt.same {H H' : Hp} (s : Same H H') : ∀ {xs : List V} {ps : List Tb}, StsAt mg H xs ps → StsAt mg H' xs ps
  | [], [], _ => trivial
  | x :: xs, p :: ps, ⟨⟨q, e, hq⟩, r⟩ => ⟨⟨q, e, hq.same s⟩, StsAt.same s r⟩
theorem StsAt.but {H H' : Hp} {t : Addr} {l : List V} (b : But t H H') (ht : H t = some (.lst l)) : ∀ {xs : List V} {ps : List Tb}, StsAt mg H xs ps → StsAt mg H' xs ps
  | [], [], _ => trivial
  | x :: xs, p :: ps, ⟨⟨q, e, hq⟩, r⟩ => ⟨⟨q, e, hq.but b ht⟩, StsAt.but b ht r⟩
theorem StsAt.len {H : Hp} : ∀ {xs : List V} {ps : List Tb}, StsAt mg H xs ps → xs.length = ps.length
  | [], [], _ => rfl
  | x :: xs, p :: ps, ⟨_, r⟩ => by simp [StsAt.len r]
theorem StsAt.app {H : Hp} : ∀ {xs ys : List V} {ps qs : List Tb}, StsAt mg H xs ps → StsAt mg H ys qs → StsAt mg H (xs ++ ys) (ps ++ qs)
  | [], _, [], _, _, h => h
  | x :: xs, _, p :: ps, _, ⟨a, r⟩, h => ⟨a, StsAt.app r h⟩
theorem StsAt.get {H : Hp} : ∀ {xs : List V} {ps : List Tb}, StsAt mg H xs ps → ∀ {i : Nat}, i < xs.length → ∃ p q, ps[i]? = some p ∧ xs[i]? = some (.ref q) ∧ StAt mg H q p
  | x :: xs, p :: ps, ⟨⟨q, e, hq⟩, r⟩, 0, _ => ⟨p, q, rfl, by rw [e]; rfl, hq⟩
  | x :: xs, p :: ps, ⟨_, r⟩, i + 1, h => StsAt.get r (by simpa using h)
theorem StsAt.head {H : Hp} {xs : List V} {ps : List Tb} (h : StsAt mg H xs ps) (i : Int) : xs.head? ≠ some (.int i) := by
  cases xs with
  | nil => simp
  | cons x xs =>
    cases ps with
    | nil => exact h.elim
    | cons p ps =>
      obtain ⟨⟨q, e, _⟩, _⟩ := h
      rw [e]
      simp
def iv_room_of (H0 : Hp) (l lp : Addr) (ts : List Tb) (ws : List Str) (i : Nat) (σ : L2.St) (H : Hp) : Prop := (∃ y z, σ = [some (.ref l), some (.ref lp), some (.int (roomS ts ws i).1), some (.int (roomS ts ws i).2), y, z]) ∧ Same H0 H
/-- len of a state -/
theorem len_st {H : Hp} {p : Addr} {t : Tb} {Q : VK} {E : XK} (h : StAt mg H p t) (q : Q (.int t.length) H) : rLenO (cls mg "State") (sp_State____len__ mg) E [.ref p] H Q := by
  obtain ⟨dx, d, h1, h2⟩ := h.ex
  have := h.len
  exact ⟨p, dx, _, rfl, h1, p, t, rfl, h, t.length, rfl, by omega, q⟩
end
end Nk
namespace Nk
open PySem L2
section
variable {X : Cx}
/-- x not in a tuple of data -/
def rNotInTD (K : PySem.W.Frag) : R2 := fun x y H Q => ∃ d ds, Dp K H x d ∧ Dp K H y (.tuple ds) ∧ SeqAt.shaped d = true ∧ SeqAt.shaped (.tuple ds) = true ∧ Q (.bl (!ds.any fun z => PyData.eqv z d)) H
theorem op_notInTD (K : PySem.W.Frag) (hK : X.K = K) (hu : X.A.units + 65 < cLine) : OpR X (compareOp .NotIn) (rNotInTD K) := by
  subst hK
  intro pins s σ H x y v u Q I rx ry h
  obtain ⟨d, ds, hd, he, sd, se, q⟩ := h
  obtain ⟨as, r1⟩ := Dp.reads I d x v hd rx
  obtain ⟨bs, r2⟩ := Dp.reads I (.tuple ds) y u he ry
  exact SeqAt.notIn_tuple_reads r2 r1 (SeqAt.canLay_of_shaped se) (SeqAt.canLay_of_shaped sd) (PyProof.Rows.room_in_shaped sd hu) ⟨.bl _, H, I, rfl, q⟩
end
section
variable {P : Program} {w : World} {K : PySem.W.Frag} {mg : Str → Option Value} {base : Heap}
theorem eqv_words {H : Hp} {y : V} {d : PyData} (h : Dp K H y d) : ((planWords.map PyData.str).any fun z => PyData.eqv z d) = isWordV y := by
  cases h with
  | str s =>
    simp only [isWordV]
    rw [List.any_map, Bool.eq_iff_iff, List.any_eq_true, decide_eq_true_eq]
    constructor
    · rintro ⟨w, hw, e⟩
      have : w = s := by simpa [PyData.eqv] using e
      rw [← this]; exact hw
    · intro h
      exact ⟨s, h, by simp [PyData.eqv]⟩
  | _ => simp [isWordV, PyData.eqv]
/-- things that may be plans -/
structure PlanT (K : PySem.W.Frag) (H : Hp) (x : V) : Prop where
  ds : DS K H 1 x
  dat : ∀ a xs, x = .ref a → H a = some (.lst xs) → ∀ y ∈ xs, Dat K H 2 y
theorem PlanT.same {H H' : Hp} {x : V} (h : PlanT K H x) (s : Same H H') : PlanT K H' x := by
  refine ⟨h.ds.same s, fun a xs e ha y hy => ?_⟩
  subst e
  obtain ⟨⟨n, th⟩, _⟩ := h.ds.th
  cases th with
  | lst h1 =>
    have := s _ _ h1
    rw [this] at ha
    cases ha
    exact (h.dat a xs rfl h1 y hy).same s
  | tup h1 => rw [s _ _ h1] at ha; cases ha
  | dic h1 => rw [s _ _ h1] at ha; cases ha
theorem PlanT.words {H : Hp} {l : Addr} {ws : List Str} (h : H l = some (.lst (ws.map V.str))) (hz : ws.length ≤ 1000) (hw : ∀ w ∈ ws, w ∈ planWords) : PlanT K H (.ref l) := by
  have hs : ∀ w ∈ planWords, w.cps.size ≤ 1000 ∧ PyData.strOk w = true := by decide +kernel
  refine ⟨ds_list h (by simpa using hz) fun y hy => ?_, fun a xs e ha y hy => ?_⟩
  · obtain ⟨w, hm, rfl⟩ := List.mem_map.mp hy
    exact ⟨⟨_, .str w⟩, fun s e => by cases e; exact (hs w (hw w hm)).1⟩
  · cases e
    rw [h] at ha
    cases ha
    obtain ⟨w, hm, rfl⟩ := List.mem_map.mp hy
    exact ⟨.str w, .str w, by simp only [gb]; exact (hs w (hw w hm)).2⟩
abbrev nm__law_states : List Str := ["script", "town", "many", "found", "k", "later"]
abbrev pm__law_states : List Str := ["script", "town", "many"]
abbrev lv__law_states : Nat := 5
theorem sc__law_states : FnScope nm__law_states pm__law_states (defScope s__law_states) := ⟨rfl, rfl, rfl, by decide +kernel, rfl, by decide +kernel, by decide +kernel⟩
/-- up to so many tables, each a little unlike the one ahead -/
def sp__law_states (K : PySem.W.Frag) : Sp := fun vs H Q _ => ∃ (a t : Addr) (ns : List Int) (c : Nat) (many : Int), vs = [.ref a, .ref t, .int many] ∧ Tn K H a t ns c ∧ c < 700000000 ∧ 0 < many ∧ many ≤ 20 ∧
  ∀ (L : Addr) (xs : List V) (ts : List Tb) (c' : Nat) (H' : Hp), H L = none → L ≠ t → H' L = some (.lst xs) → TabsAt H' xs ts → (∀ t ∈ ts, OkT t ∧ t.length ≤ 20) → 1 ≤ xs.length → (xs.length : Int) ≤ many → c' ≤ c + 20000 → Tn K H' a t ns c' → But t H H' → Q (.ref L) H'
def iv__law_states (K : PySem.W.Frag) (H0 : Hp) (a t L : Addr) (ns : List Int) (many : Int) (c0 : Nat) (i : Nat) (σ : L2.St) (H : Hp) : Prop :=
  ∃ y4 y5 c xs ts, σ = [some (.ref a), some (.ref t), some (.int many), some (.ref L), y4, y5] ∧ c ≤ c0 + 400 * i ∧ xs.length = i + 1 ∧ Tn K H a t ns c ∧ H L = some (.lst xs) ∧ TabsAt H xs ts ∧ (∀ t ∈ ts, OkT t ∧ t.length ≤ 20) ∧ But t H0 H
theorem f__law_states (T : Txt K mg) : Fk P w K mg base CX0 lv__law_states "_law_states" pm__law_states (sp__law_states K) := by
  obtain ⟨f, fd, F, g, b⟩ := T.d__law_states.ex
  refine ⟨f, fd, g, F.kp, b, F.ok sc__law_states (fun vs H Q E h => ?_) (fun cdv A outer s H vs Q E hr h => ?_)⟩
  · obtain ⟨a, t, ns, c, many, rfl, _⟩ := h; rfl
  · obtain ⟨a, t, ns, c, many, rfl, hT, hc, m0, m1, q⟩ := h
    refine ⟨_, (pss_cons (ps_set (i := 3) sc__law_states.nd rfl (.inl rfl) (pe_lst (pa_cons (pe_fn (f__law_table T) (hr.mono (by decide)) (by rfl) pass0 (pa_cons (pv 0) (pa_cons (pv 1) (pa_cons (pe_fn (f__law_pick T) (hr.mono (by decide)) (by rfl) pass0 (pa_cons (pv 0) (pa_cons (pv 1) (pa_cons (pe_lst (pa_cons pe_int (pa_cons pe_int (pa_cons pe_int pa_nil)))) pa_nil)))) pa_nil)))) pa_nil)))
      (pss_cons (ps_for PassesOwn.never rfl (pi_range1 (by rfl) T.b_range (pa_cons (pe_fn (f__law_draw T) (hr.mono (by decide)) (by rfl) pass0 (pa_cons (pv 0) (pa_cons (pv 1) (pa_cons (pv 2) pa_nil)))) pa_nil)) (pg_name (i := 4) sc__law_states.nd rfl (Or.inl rfl)) (pss_cons (ps_set (i := 5) sc__law_states.nd rfl (.inl rfl) (pe_fn (f__law_later T) (hr.mono (by decide)) (by rfl) pass0 (pa_cons (pv 0) (pa_cons (pv 1) (pa_cons (pe_ix ix_list (pv 3) (pe_un un_neg pe_int) (fun _ _ => rfl)) pa_nil)))))
      (pss_one (ps_expr (pe_bm PySem.F.plainAttrs_list PySem.F.slot_list_append PySem.F.type_list_append mt_append (pv 3) (pa_cons (pe_fn (f__law_pick T) (hr.mono (by decide)) (by rfl) pass0 (pa_cons (pv 0) (pa_cons (pv 1) (pa_cons (pe_lst (pa_cons (pv 5) (pa_cons (pv 5) (pa_cons (pv 5) (pa_cons (pe_ix ix_list (pv 3) pe_int (fun _ _ => rfl)) (pa_cons (pe_fn (f__law_table T) (hr.mono (by decide)) (by rfl) pass0 (pa_cons (pv 0) (pa_cons (pv 1) (pa_cons pe_int pa_nil)))) pa_nil)))))) pa_nil)))) pa_nil))))))
      (pss_one (ps_ret (pv 3))))), ?_⟩
    with_reducible refine seq_k fun K_ hK_ => ?_
    walk_at "ru"
    refine pickI [2, 6, 12] hT (by omega) fun m hk1 H2 T2 b2 => ?_
    have hm : 0 < m ∧ m ≤ 20 := by simp at hk1; omega
    refine ⟨a, t, ns, _, m, rfl, T2, by omega, by omega, by omega, fun d1 t1 c3 H3 n1 hd1t hd1 ok1 l1 hc3 T3 b3 => ?_⟩
    have b03 := b2.trans b3
    intro L n_L
    generalize hG_ : upd _ L _ = H4
    obtain ⟨s4, hL⟩ := newF n_L hG_
    clear hG_
    have T4 := T3.same s4
    have hLt : L ≠ t := T3.some_ n_L
    have nL : H L = none := b03.free n_L hLt
    obtain ⟨z4, hz4⟩ := T4.lst
    walk_at "ru"
    subst hK_
    first | with_reducible refine seq_k fun K_ hK_ => ?_ | skip
    walk_at "ru"
    refine ⟨a, t, ns, c3, many, rfl, T4, by omega, by omega, by omega, fun n H5 g0 g1 T5 b5 => ?_⟩
    walk_at "ru"
    refine ⟨by omega, by omega, ?_⟩
    refine for_it walk_range (iv__law_states K H a t L ns many (c3 + 1)) ⟨_, _, c3 + 1, [.ref d1], [t1], rfl, by omega, rfl, T5, b5 _ _ hL hLt, ⟨⟨d1, rfl, dicts_but b5 hz4 (s4 _ _ hd1)⟩, trivial⟩, (fun x hx => by rw [List.mem_singleton.mp hx]; exact ⟨ok1, by omega⟩), (b03.thenS s4).trans b5⟩ (fun _ _ _ _ _ => trivial) (fun i x σ H6 H7 hi iv hy => ?_) (fun σ H6 iv => ?_)
    · obtain ⟨y4, y5, c', xs, ts, rfl, hc', hxl, T6, hL6, tabs6, gd6, b6⟩ := iv
      obtain ⟨rfl, rfl⟩ := hy
      have hi' : i < 20 := by omega
      have hlen := tabs6.len
      obtain ⟨z6, hz6⟩ := T6.lst
      obtain ⟨tl, dl, e1, e2, e3⟩ := tabs6.get (i := xs.length - 1) (by omega)
      have gl := gd6 tl (mem_of_get e1)
      have hlast : xs.getLast? = some (.ref dl) := by rw [List.getLast?_eq_getElem?]; exact e2
      walk_at "ru"
      with_reducible refine seq_k fun K_ hK_ => ?_
      walk_at "ru"
      refine ixLast (sqL hL6) hlast ?_
      refine ⟨a, t, dl, ns, c', tl, rfl, T6, by omega, e3, gl.1, gl.2, fun d2 t2 c7 H7 n2 hd2t hd2 ok2 l2 hc7 T7 b7 => ?_⟩
      have hL7 := b7 _ _ hL6 hLt
      have tabs7 := tabs6.but b7 hz6
      obtain ⟨z7, hz7⟩ := T7.lst
      walk_at "ru"
      subst hK_
      first | with_reducible refine seq_k fun K_ hK_ => ?_ | skip
      walk_at "ru"
      refine ⟨.inl ⟨rfl, _, sqL hL7⟩, ?_⟩
      obtain ⟨p0, q0, f1, f2, f3⟩ := tabs7.get (i := 0) (by omega)
      refine ixL (j := 0) (sqL hL7) rfl f2 ?_
      refine ⟨a, t, ns, c7, 3, rfl, T7, by omega, by omega, by omega, fun d3 t3 c8 H8 n3 hd3t hd3 ok3 l3 hc8 T8 b8 => ?_⟩
      obtain ⟨z8, hz8⟩ := T8.lst
      refine pickV T8 (by omega) (by simp) (by simp) fun v hv H9 T9 b9 => ?_
      have hv' : ∃ d t, v = .ref d ∧ H8 d = some (.dK (kvsT t)) ∧ OkT t ∧ t.length ≤ 20 := by
        simp only [List.mem_cons, List.not_mem_nil, or_false] at hv
        rcases hv with rfl | rfl | rfl | rfl | rfl
        · exact ⟨d2, t2, rfl, dicts_but b8 hz7 hd2, ok2, l2⟩
        · exact ⟨d2, t2, rfl, dicts_but b8 hz7 hd2, ok2, l2⟩
        · exact ⟨d2, t2, rfl, dicts_but b8 hz7 hd2, ok2, l2⟩
        · exact ⟨q0, p0, rfl, dicts_but b8 hz7 f3, gd6 _ (mem_of_get f1)⟩
        · exact ⟨d3, t3, rfl, hd3, ok3, by omega⟩
      obtain ⟨dv, tv, rfl, hdv, gv⟩ := hv'
      have b79 := b8.trans b9
      have hL9 := b79 _ _ hL7 hLt
      have tabs9 := (tabs7.but b8 hz7).but b9 hz8
      refine appR hL9 (by omega) ?_
      have kd : ∀ b kvs, H9 b = some (.dK kvs) → (upd H9 L (.lst (xs ++ [.ref dv]))) b = some (.dK kvs) := fun b kvs e => by rw [upd_ne (ne_of e hL9 (by intro z; cases z))]; exact e
      refine ⟨_, _, c8 + 1, xs ++ [.ref dv], ts ++ [tv], rfl, by omega, by simp [hxl], T9.app hT nL hLt, upd_same, (tabs9.keep kd).app ⟨⟨dv, rfl, kd _ _ (dicts_but b9 hz8 hdv)⟩, trivial⟩, fun x hx => ?_, ((b6.trans b7).trans b79).app nL⟩
      rcases List.mem_append.mp hx with hx | hx
      · exact gd6 x hx
      · rw [List.mem_singleton.mp hx]; exact gv
    · obtain ⟨y4, y5, c', xs, ts, rfl, hc', hxl, T6, hL6, tabs6, gd6, b6⟩ := iv
      walk_at "ru"
      subst hK_
      first | with_reducible refine seq_k fun K_ hK_ => ?_ | skip
      walk_at "ru"
      exact q L xs ts c' H6 nL hLt hL6 tabs6 gd6 (by omega) (by omega) (by omega) T6 b6
end
end Nk
namespace Nk
open PySem L2
section
variable {X : Cx}
/-- a list, whatever it holds, != [] -/
def rNeNil (K : PySem.W.Frag) : R2 := fun x y H Q => ∃ (a b : Addr) (xs : List V), x = .ref a ∧ y = .ref b ∧ SqL K H a xs ∧ SqL K H b [] ∧ Q (.bl (decide (0 < xs.length))) H
theorem op_neNil (K : PySem.W.Frag) (hK : X.K = K) (hu : X.A.units < cLine) : OpR X (compareOp .NotEq) (rNeNil K) := by
  subst hK
  intro pins s σ H x y v u Q I rx ry h
  obtain ⟨a, b, xs, rfl, rfl, ha, hb, q⟩ := h
  obtain rfl : v = Value.ref a := rx
  obtain rfl : u = Value.ref b := ry
  obtain ⟨its, r1, p1, _⟩ := I.list ha
  obtain ⟨its2, r2, p2, _⟩ := I.list hb
  cases r2
  have hl := r1.length
  show wpAny _ _ (richCompare .NotEq (.ref a) (.ref b)) _ _ _
  by_cases c : xs.length = 0
  · refine SeqAt.RcNeAt.lists (e := fun _ => true) p1.isList p2.isList ?_ hu ?_ _ _ _ _ ?_
    · rw [List.size_toArray, ← hl, c]; rfl
    · intro j h1 h2
      exact absurd h2 (by simp)
    · refine fin_bl I q ?_
      simp [c]
  · refine SeqAt.RcNeAt.lists_lengths p1.isList p2.isList ?_ hu _ _ _ _ ?_
    · simp; intro z; rw [z] at hl; exact c hl
    · refine fin_bl I q ?_
      simp; omega
end
end Nk
namespace Nk
open PySem L2
section
variable {P : Program} {w : World} {K : PySem.W.Frag} {mg : Str → Option Value} {base : Heap}
/-- nights with states stand -/
def PlAt (mg : Str → Option Value) (H : Hp) : List V → Pl → Prop
  | [], [] => True
  | x :: xs, p :: ps => (∃ q k, x = .ref q ∧ H q = some (.tup [.int p.1, .ref k]) ∧ StAt mg H k p.2) ∧ PlAt mg H xs ps
  | _, _ => False
theorem PlAt.same {H H' : Hp} (s : Same H H') : ∀ {xs : List V} {ps : Pl}, PlAt mg H xs ps → PlAt mg H' xs ps
  | [], [], _ => trivial
  | x :: xs, p :: ps, ⟨⟨q, k, e, hq, hk⟩, r⟩ => ⟨⟨q, k, e, s _ _ hq, hk.same s⟩, PlAt.same s r⟩
theorem PlAt.but {H H' : Hp} {t : Addr} {l : List V} (b : But t H H') (ht : H t = some (.lst l)) : ∀ {xs : List V} {ps : Pl}, PlAt mg H xs ps → PlAt mg H' xs ps
  | [], [], _ => trivial
  | x :: xs, p :: ps, ⟨⟨q, k, e, hq, hk⟩, r⟩ => ⟨⟨q, k, e, b _ _ hq (ne_of hq ht (by intro z; cases z)), hk.but b ht⟩, PlAt.but b ht r⟩
theorem PlAt.len {H : Hp} : ∀ {xs : List V} {ps : Pl}, PlAt mg H xs ps → xs.length = ps.length
  | [], [], _ => rfl
  | x :: xs, p :: ps, ⟨_, r⟩ => by simp [PlAt.len r]
theorem PlAt.app {H : Hp} : ∀ {xs ys : List V} {ps qs : Pl}, PlAt mg H xs ps → PlAt mg H ys qs → PlAt mg H (xs ++ ys) (ps ++ qs)
  | [], _, [], _, _, h => h
  | x :: xs, _, p :: ps, _, ⟨a, r⟩, h => ⟨a, PlAt.app r h⟩
theorem PlAt.one {H : Hp} {q k : Addr} {p : Int × Tb} (h : H q = some (.tup [.int p.1, .ref k])) (hk : StAt mg H k p.2) : PlAt mg H [.ref q] [p] := ⟨⟨q, k, rfl, h, hk⟩, trivial⟩
theorem PlAt.get {H : Hp} : ∀ {xs : List V} {ps : Pl}, PlAt mg H xs ps → ∀ {i : Nat} {x : V}, xs[i]? = some x → ∃ p q k, ps[i]? = some p ∧ x = .ref q ∧ H q = some (.tup [.int p.1, .ref k]) ∧ StAt mg H k p.2
  | x :: xs, p :: ps, ⟨⟨q, k, e, hq, hk⟩, r⟩, 0, y, hy => by
    cases hy
    exact ⟨p, q, k, rfl, e, hq, hk⟩
  | x :: xs, p :: ps, ⟨_, r⟩, i + 1, y, hy => PlAt.get r hy
  | [], [], _, i, y, hy => by simp at hy
structure GoodPl (ps : Pl) : Prop where
  len : ps.length ≤ 8
  num : ∀ p ∈ ps, 0 ≤ p.1 ∧ p.1 ≤ 1000000000
  pw : ps.Pairwise fun a b => a.1 < b.1
abbrev nm_is_place : List Str := ["thing", "one", "other"]
abbrev pm_is_place : List Str := ["thing"]
abbrev lv_is_place : Nat := 2
theorem sc_is_place : FnScope nm_is_place pm_is_place (defScope s_is_place) := ⟨rfl, rfl, rfl, by decide +kernel, rfl, by decide +kernel, by decide +kernel⟩
def sp_is_place (mg : Str → Option Value) : Sp := fun vs H Q _ => ∃ (l : Addr) (xs : List V) (ps : Pl), vs = [.ref l] ∧ H l = some (.lst xs) ∧ PlAt mg H xs ps ∧ GoodPl ps ∧ ∀ H', Same H H' → Q (.bl true) H'
def iv_is_place (H0 : Hp) (l : Addr) (i : Nat) (σ : L2.St) (H : Hp) : Prop := (∃ y, σ = [some (.ref l), y, none]) ∧ Same H0 H
theorem f_is_place (T : Txt K mg) : Fk P w K mg base CX0 lv_is_place "is_place" pm_is_place (sp_is_place mg) := by
  obtain ⟨f, fd, F, g, b⟩ := T.d_is_place.ex
  refine ⟨f, fd, g, F.kp, b, F.ok sc_is_place (fun vs H Q E h => ?_) (fun cdv A outer s H vs Q E hr h => ?_)⟩
  · obtain ⟨l, xs, ps, rfl, _⟩ := h; rfl
  · obtain ⟨l, xs, ps, rfl, hl, hP, gp, q⟩ := h
    refine ⟨_, (pss_cons (ps_if (PW.pt (pw_or (pt_not (pt_val (pe_callB call_isi (by rfl) T.b_isinstance (by decide +kernel) (pa_cons (pv 0) (pa_cons (pe_bltn (v := .ty "list") (by rfl) T.b_list (by decide +kernel) rfl) pa_nil))))) (pw_or1 (pt_cmpR op_gt (pe_callB call_len_seq (by rfl) T.b_len PySem.boot_len (pa_cons (pv 0) pa_nil)) pe_int (nomark _))))) (pss_one (ps_ret pe_bl)) pss_nil)
      (pss_cons (ps_for PassesOwn.never rfl (pi_list (pv 0)) (pg_name (i := 1) sc_is_place.nd rfl (Or.inl rfl)) (pss_cons (ps_if (PW.pt (pw_or (pt_not (pt_val (pe_callB call_isi (by rfl) T.b_isinstance (by decide +kernel) (pa_cons (pv 1) (pa_cons (pe_bltn (v := .ty "tuple") (by rfl) T.b_tuple (by decide +kernel) rfl) pa_nil))))) (pw_or (pt_cmpR op_ne (pe_callB call_len_seq (by rfl) T.b_len PySem.boot_len (pa_cons (pv 1) pa_nil)) pe_int (nomark _)) (pw_or1 (pt_not (pt_val (pe_fn (f_is_number T) (hr.mono (by decide)) (by rfl) pass0 (pa_cons (pe_ix ix_tup (pv 1) pe_int (fun _ _ => rfl)) (pa_cons pe_int (pa_cons (pe_globI T.c_MOST_NIGHT (by rfl)) pa_nil)))))))))) (pss_one (ps_ret pe_bl)) pss_nil)
      (pss_one (ps_if (pt_not (pt_val (pe_callB call_isi (by rfl) T.b_isinstance (by decide +kernel) (pa_cons (pe_ix ix_tup (pv 1) pe_int (fun _ _ => rfl)) (pa_cons (pe_glob (v := .ref (cls mg "State")) (by rfl) T.o_State.g rfl) pa_nil))))) (pss_one (ps_ret pe_bl)) pss_nil))))
      (pss_one (ps_ret (pe_callB (cr_all rfl) (by rfl) T.b_all (by decide +kernel) (pa_cons (pe_lc (own := [("one", 1), ("other", 2)]) (g := gTup K 2 (gCons (gName 1) (gCons (gName 2) (gNil)))) (tt := tYes) (by rfl) sc_is_place.nd (pi_zip (by rfl) T.b_zip (pa_cons (pv 0) (pa_cons (pe_slice sl_list (pv 0) (po_some pe_int) po_none) pa_nil))) (blkOk_by (own := [("one", 1), ("other", 2)]) (N := nm_is_place) (sc := defScope s_is_place) (by decide +kernel)) (fun _ _ _ _ _ => (pg_tupK K rfl rfl (pgs_cons (pg_name (i := 1) sc_is_place.nd rfl (Or.inl rfl)) (pgs_cons (pg_name (i := 2) sc_is_place.nd rfl (Or.inl rfl)) pgs_nil)))) (fun _ _ _ _ _ => pts_nil) (fun _ _ _ _ _ => (pe_cmpR op_lt (pe_ix (ix_tupK K rfl) (pv 1) pe_int (fun _ _ => rfl)) (pe_ix (ix_tupK K rfl) (pv 2) pe_int (fun _ _ => rfl)) (nomark _)))) pa_nil)))))), ?_⟩
    have hxl := hP.len
    have h8 := gp.len
    with_reducible refine seq_k fun K_ hK_ => ?_
    walk_at "ru"
    refine isi_thing (.lst hl) (by decide) ⟨true, rfl, ?_⟩
    walk_at "ru"
    refine ⟨_, .inl (sqL hl), ?_⟩
    rw [if_neg (by omega)]
    walk_at "ru"
    subst hK_
    first | with_reducible refine seq_k fun K_ hK_ => ?_ | skip
    walk_at "ru"
    refine ⟨⟨_, sqL hl⟩, ?_⟩
    refine for_it (walk_list (xs := xs)) (iv_is_place H l) ⟨⟨_, rfl⟩, Same.refl _⟩ (fun i σ H2 _ iv => sqL (iv.2 _ _ hl)) (fun i x σ H2 H3 hi iv hy => ?_) (fun σ H2 iv => ?_)
    · obtain ⟨⟨y0, rfl⟩, s2⟩ := iv
      obtain ⟨rfl, hy⟩ := hy
      obtain ⟨p, q1, k, e1, rfl, e3, e4⟩ := (hP.same s2).get hy
      have gn := gp.num p (mem_of_get e1)
      walk_at "ru"
      with_reducible refine seq_k fun K_ hK_ => ?_
      walk_at "ru"
      refine isi_thing (.tup e3) (by decide) ⟨true, rfl, ?_⟩
      walk_at "ru"
      refine ⟨_, .inr (sqT e3), ?_⟩
      rw [if_neg (by simp)]
      refine ixT (j := 0) (sqT e3) rfl rfl ?_
      refine ⟨.int p.1, _, 0, .int 1000000000, rfl, .int _, fun _ _ => ⟨1000000000, rfl⟩, _, rfl, ?_⟩
      have e : isNumV (.int p.1) 0 (.int 1000000000) = true := by simp [isNumV]; omega
      rw [e, if_neg (by simp)]
      walk_at "ru"
      subst hK_
      first | with_reducible refine seq_k fun K_ hK_ => ?_ | skip
      walk_at "ru"
      refine ixT (j := 1) (sqT e3) rfl rfl ?_
      obtain ⟨dx, d, h1, h2⟩ := e4.ex
      refine isi_own T.o_State T.v_State h1 ⟨true, rfl, ?_⟩
      rw [if_neg (by simp)]
      exact ⟨⟨_, rfl⟩, s2⟩
    · obtain ⟨⟨y0, rfl⟩, s2⟩ := iv
      have hl2 := s2 _ _ hl
      have hP2 := hP.same s2
      walk_at "ru"
      subst hK_
      first | with_reducible refine seq_k fun K_ hK_ => ?_ | skip
      walk_at "ru"
      refine ⟨l, _, rfl, sqL hl2, ?_⟩
      intro c n_c
      generalize hG_ : upd _ c _ = H3
      obtain ⟨s3, hC⟩ := newF n_c hG_
      clear hG_
      rw [show cutV xs (some 1) none = xs.drop 1 from cut_from _ 1] at hC
      have hl3 := s3 _ _ hl2
      have hP3 := hP2.same s3
      have hn : xs.length - 1 = min xs.length (xs.drop 1).length := by simp
      walk_at "ru"
      refine ⟨_, sqL hl3, _, sqL hC, fun D2 hD2 => ?_⟩
      refine lc_it (walk_zip hn) (LcP H3 D2 fun i => (List.replicate i true).map V.bl) ⟨same_upd hD2, upd_same⟩ (fun i H5 _ p => ⟨sqL (p.same _ _ hl3), sqL (p.same _ _ hC)⟩) (fun i v H5 H6 hi p hv => ?_) fun H5 p => ?_
      · obtain ⟨t, u, v, rfl, ht, rfl, hu, hv⟩ := hv
        have hu : xs[i]? = some u := hu
        have hv : (xs.drop 1)[i]? = some v := hv
        rw [List.getElem?_drop, Nat.add_comm] at hv
        obtain ⟨p1, a1, k1, e1, rfl, h1, _⟩ := hP3.get hu
        obtain ⟨p2, a2, k2, e2, rfl, h2, _⟩ := hP3.get hv
        have s6 : Same H5 (upd H5 t (.tup [.ref a1, .ref a2])) := same_upd ht
        have hs6 : SqT K (upd H5 t (.tup [.ref a1, .ref a2])) t [.ref a1, .ref a2] := sqT upd_same
        revert s6 hs6
        generalize upd H5 t (.tup [.ref a1, .ref a2]) = H6
        intro s6 hs6
        have sA := p.same.trans s6
        refine ⟨t, [.ref a1, .ref a2], rfl, hs6, rfl, ?_⟩
        walk_at "ru"
        refine ixT (j := 0) (sqT (sA _ _ h1)) rfl rfl ?_
        refine ixT (j := 0) (sqT (sA _ _ h2)) rfl rfl ?_
        have hlt : p1.1 < p2.1 := by
          have hi1 := lt_of_get e1
          have hi2 := lt_of_get e2
          have := List.pairwise_iff_getElem.mp gp.pw i (i + 1) hi1 hi2 (by omega)
          rw [List.getElem?_eq_getElem hi1] at e1
          rw [List.getElem?_eq_getElem hi2] at e2
          rw [Option.some.inj e1, Option.some.inj e2] at this
          exact this
        refine ⟨_, rfl, _, rfl, ?_⟩
        rw [decide_eq_true hlt]
        exact p.push hD2 (by simp; omega) s6 (by rw [List.replicate_succ', List.map_append]; rfl)
      · refine ⟨D2, _, rfl, sqL p.at_, ?_⟩
        have e : (List.replicate (xs.length - 1) true).all id = true := by simp
        rw [e]
        exact q _ ((s2.trans s3).trans p.same)
theorem len_sd {H : Hp} {p : Addr} {t : Tb} {Q : VK} {E : XK} (h : StAt mg H p t) (q : Q (.int t.length) H) : rLenO (cls mg "State") (sp_State____len__ mg) E [.ref p] H Q := by
  obtain ⟨dx, d, h1, h2⟩ := h.ex
  have := h.len
  exact ⟨p, dx, _, rfl, h1, p, t, rfl, h, t.length, rfl, by omega, q⟩
def optV : Option Int → V
  | none => .non
  | some i => .int i
abbrev nm_best_base : List Str := ["state", "have", "best", "night", "other", "size"]
abbrev pm_best_base : List Str := ["state", "have"]
abbrev lv_best_base : Nat := 4
theorem sc_best_base : FnScope nm_best_base pm_best_base (defScope s_best_base) := ⟨rfl, rfl, rfl, by decide +kernel, rfl, by decide +kernel, by decide +kernel⟩
def sp_best_base (mg : Str → Option Value) : Sp := fun vs H Q _ => ∃ (k l : Addr) (t : Tb) (xs : List V) (ps : Pl), vs = [.ref k, .ref l] ∧ StAt mg H k t ∧ H l = some (.lst xs) ∧ PlAt mg H xs ps ∧ ∀ r H', Same H H' → H' r = some (.tup [.int ((bestB t ps).1 : Nat), optV (bestB t ps).2]) → Q (.ref r) H'
def iv_best_base (H0 : Hp) (k l : Addr) (t : Tb) (ps : Pl) (i : Nat) (σ : L2.St) (H : Hp) : Prop := ∃ r y3 y4 y5, σ = [some (.ref k), some (.ref l), some (.ref r), y3, y4, y5] ∧ Same H0 H ∧ H r = some (.tup [.int (((ps.take i).foldl (bbStep t) (t.length, none)).1 : Nat), optV ((ps.take i).foldl (bbStep t) (t.length, none)).2])
theorem f_best_base (T : Txt K mg) : Fk P w K mg base CX0 lv_best_base "best_base" pm_best_base (sp_best_base mg) := by
  obtain ⟨f, fd, F, g, b⟩ := T.d_best_base.ex
  refine ⟨f, fd, g, F.kp, b, F.ok sc_best_base (fun vs H Q E h => ?_) (fun cdv A outer s H vs Q E hr h => ?_)⟩
  · obtain ⟨k, l, t, xs, ps, rfl, _⟩ := h; rfl
  · obtain ⟨k, l, t, xs, ps, rfl, hk, hl, hP, q⟩ := h
    refine ⟨_, (pss_cons (ps_set (i := 2) sc_best_base.nd rfl (.inl rfl) (pe_tup (pa_cons (pe_callB (cr_lenO T.o_State (f_State____len__ T) (hr.mono (by decide)) pass0) (by rfl) T.b_len PySem.boot_len (pa_cons (pv 0) pa_nil)) (pa_cons pe_non pa_nil))))
      (pss_cons (ps_for PassesOwn.never rfl (pi_list (pv 1)) (pg_tup rfl (pgs_cons (pg_name (i := 3) sc_best_base.nd rfl (Or.inl rfl)) (pgs_cons (pg_name (i := 4) sc_best_base.nd rfl (Or.inl rfl)) pgs_nil))) (pss_cons (ps_set (i := 5) sc_best_base.nd rfl (.inl rfl) (pe_callB call_len_seq (by rfl) T.b_len PySem.boot_len (pa_cons (pe_fn (f_part_of T) (hr.mono (by decide)) (by rfl) pass0 (pa_cons (pv 4) (pa_cons (pv 0) pa_nil))) pa_nil)))
      (pss_one (ps_if (pt_cmpR op_lt (pv 5) (pe_ix ix_tup (pv 2) pe_int (fun _ _ => rfl)) (nomark _)) (pss_one (ps_set (i := 2) sc_best_base.nd rfl (.inl rfl) (pe_tup (pa_cons (pv 5) (pa_cons (pv 3) pa_nil))))) pss_nil))))
      (pss_one (ps_ret (pv 2))))), ?_⟩
    have hxl := hP.len
    with_reducible refine seq_k fun K_ hK_ => ?_
    walk_at "ru"
    refine len_sd hk ?_
    intro r n_r
    generalize hG_ : upd _ r _ = H1
    obtain ⟨s1, hr1⟩ := newF n_r hG_
    clear hG_
    walk_at "ru"
    subst hK_
    first | with_reducible refine seq_k fun K_ hK_ => ?_ | skip
    walk_at "ru"
    refine ⟨⟨_, sqL (s1 _ _ hl)⟩, ?_⟩
    refine for_it (walk_list (xs := xs)) (iv_best_base H k l t ps) ⟨r, _, _, _, rfl, s1, hr1⟩ (fun i σ H2 _ iv => ?_) (fun i x σ H2 H3 hi iv hy => ?_) (fun σ H2 iv => ?_)
    · obtain ⟨_, _, _, _, _, s2, _⟩ := iv
      exact sqL (s2 _ _ hl)
    · obtain ⟨r2, y3, y4, y5, rfl, s2, hr2⟩ := iv
      obtain ⟨rfl, hy⟩ := hy
      obtain ⟨p, q1, k1, e1, rfl, e3, e4⟩ := (hP.same s2).get hy
      refine ⟨q1, _, rfl, sqT e3, rfl, ?_⟩
      have hb := bb_next t e1
      generalize (ps.take i).foldl (bbStep t) (t.length, none) = acc at hr2 hb
      walk_at "ru"
      with_reducible refine seq_k fun K_ hK_ => ?_
      walk_at "ru"
      refine ⟨k1, k, p.2, t, rfl, e4, hk.same s2, fun lq H4 s4 n4 hPq => ?_⟩
      obtain ⟨zs, hz, hPz⟩ := hPq
      walk_at "ru"
      refine ⟨_, .inl (sqL hz), ?_⟩
      rw [hPz.len]
      have hr4 := s4 _ _ hr2
      walk_at "ru"
      subst hK_
      first | with_reducible refine seq_k fun K_ hK_ => ?_ | skip
      walk_at "ru"
      refine ixT (j := 0) (sqT hr4) rfl rfl ?_
      walk_at "ru"
      by_cases c : dist p.2 t < acc.1
      · rw [if_pos (show ((part p.2 t).length : Int) < (acc.1 : Nat) from by unfold dist at c; omega)]
        intro r3 n_r3
        generalize hG_ : upd _ r3 _ = H5
        obtain ⟨s5, hr3⟩ := newF n_r3 hG_
        clear hG_
        refine ⟨r3, _, _, _, rfl, (s2.trans s4).trans s5, ?_⟩
        rw [hb, show bbStep t acc p = (dist p.2 t, some p.1) from if_pos c]
        exact hr3
      · rw [if_neg (show ¬ ((part p.2 t).length : Int) < (acc.1 : Nat) from by unfold dist at c; omega)]
        refine ⟨r2, _, _, _, rfl, s2.trans s4, ?_⟩
        rw [hb, show bbStep t acc p = acc from if_neg c]
        exact hr4
    · obtain ⟨r2, y3, y4, y5, rfl, s2, hr2⟩ := iv
      rw [hxl, List.take_length] at hr2
      walk_at "ru"
      subst hK_
      first | with_reducible refine seq_k fun K_ hK_ => ?_ | skip
      walk_at "ru"
      exact q r2 H2 s2 hr2
end
end Nk
namespace Nk
open PySem L2
section
variable {P : Program} {w : World} {K : PySem.W.Frag} {mg : Str → Option Value} {base : Heap}
/-- what was told stands -/
def SentAt (H : Hp) : List V → List Sent → Prop
  | [], [] => True
  | x :: xs, r :: rs => (∃ q, x = .ref q ∧ H q = some (.tup [.int r.1, optV r.2.1, .int (r.2.2 : Nat)])) ∧ SentAt H xs rs
  | _, _ => False
theorem SentAt.tups {H H' : Hp} (h : ∀ b xs, H b = some (.tup xs) → H' b = some (.tup xs)) : ∀ {xs : List V} {rs : List Sent}, SentAt H xs rs → SentAt H' xs rs
  | [], [], _ => trivial
  | x :: xs, r :: rs, ⟨⟨q, e, hq⟩, t⟩ => ⟨⟨q, e, h _ _ hq⟩, SentAt.tups h t⟩
theorem SentAt.same {H H' : Hp} (s : Same H H') {xs : List V} {rs : List Sent} (h : SentAt H xs rs) : SentAt H' xs rs := h.tups fun _ _ e => s _ _ e
theorem SentAt.len {H : Hp} : ∀ {xs : List V} {rs : List Sent}, SentAt H xs rs → xs.length = rs.length
  | [], [], _ => rfl
  | x :: xs, r :: rs, ⟨_, t⟩ => by simp [SentAt.len t]
theorem SentAt.app {H : Hp} : ∀ {xs ys : List V} {ps qs : List Sent}, SentAt H xs ps → SentAt H ys qs → SentAt H (xs ++ ys) (ps ++ qs)
  | [], _, [], _, _, h => h
  | x :: xs, _, p :: ps, _, ⟨a, r⟩, h => ⟨a, SentAt.app r h⟩
theorem SentAt.one {H : Hp} {q : Addr} {r : Sent} (h : H q = some (.tup [.int r.1, optV r.2.1, .int (r.2.2 : Nat)])) : SentAt H [.ref q] [r] := ⟨⟨q, rfl, h⟩, trivial⟩
theorem SentAt.get {H : Hp} : ∀ {xs : List V} {rs : List Sent}, SentAt H xs rs → ∀ {i : Nat} {x : V}, xs[i]? = some x → ∃ r q, rs[i]? = some r ∧ x = .ref q ∧ H q = some (.tup [.int r.1, optV r.2.1, .int (r.2.2 : Nat)])
  | x :: xs, p :: ps, ⟨⟨q, e, hq⟩, r⟩, 0, y, hy => by
    cases hy
    exact ⟨p, q, rfl, e, hq⟩
  | x :: xs, p :: ps, ⟨_, r⟩, i + 1, y, hy => SentAt.get r hy
  | [], [], _, i, y, hy => by simp at hy
theorem PlAt.erase {H : Hp} : ∀ {xs : List V} {ps : Pl}, PlAt mg H xs ps → ∀ i, PlAt mg H (xs.take i ++ xs.drop (i + 1)) (ps.eraseIdx i)
  | [], [], _, i => by simp [PlAt]
  | x :: xs, p :: ps, ⟨_, r⟩, 0 => by simpa using r
  | x :: xs, p :: ps, ⟨a, r⟩, i + 1 => ⟨a, PlAt.erase r i⟩
theorem first_at {m : Nat} : ∀ {ns : List Nat}, m ∈ ns → ∃ j : Nat, ns[j]? = some m ∧ ∀ (i : Nat) (z : Nat), i < j → ns[i]? = some z → z ≠ m
  | n :: ns, h => by
    by_cases c : n = m
    · exact ⟨0, by rw [c]; rfl, fun i z hi => by omega⟩
    · have h2 : m ∈ ns := by
        rcases List.mem_cons.mp h with e | e
        · exact absurd e.symm c
        · exact e
      obtain ⟨j, h3, h4⟩ := first_at h2
      refine ⟨j + 1, by simpa using h3, fun i z hi hz => ?_⟩
      cases i with
      | zero => cases hz; exact c
      | succ i => exact h4 i z (by omega) (by simpa using hz)
/-- what lacks there -/
def lackS (ps qs : Pl) : Pl := ps.filter fun p => decide (¬ p.1 ∈ qs.map (·.1))
abbrev nm_sending : List Str := ["mine", "its", "night", "state", "other", "like", "there", "left", "have", "found", "some", "at", "size", "base", "one"]
abbrev pm_sending : List Str := ["mine", "its"]
abbrev lv_sending : Nat := 5
theorem sc_sending : FnScope nm_sending pm_sending (defScope s_sending) := ⟨rfl, rfl, rfl, by decide +kernel, rfl, by decide +kernel, by decide +kernel⟩
def sp_sending (mg : Str → Option Value) : Sp := fun vs H Q _ => ∃ (l m : Addr) (xs ys : List V) (ps qs : Pl), vs = [.ref l, .ref m] ∧ H l = some (.lst xs) ∧ H m = some (.lst ys) ∧ PlAt mg H xs ps ∧ PlAt mg H ys qs ∧ GoodPl ps ∧ GoodPl qs ∧ (∀ p ∈ ps, ∀ q ∈ qs, p.1 = q.1 → p.2 = q.2) ∧
  ∀ r zs rs hv H', Same H H' → H r = none → H' r = some (.lst zs) → SentAt H' zs rs → SendS (lackS ps qs) qs [] hv rs → Q (.ref r) H'
def iv_sd1 (H0 : Hp) (l m : Addr) (i : Nat) (σ : L2.St) (H : Hp) : Prop := (∃ y2 y3 y4 y5, σ = [some (.ref l), some (.ref m), y2, y3, y4, y5, none, none, none, none, none, none, none, none, none]) ∧ Same H0 H
def iv_sd2 (H0 : Hp) (l m : Addr) (n : V) (k : Addr) (i : Nat) (σ : L2.St) (H : Hp) : Prop := (∃ y4 y5, σ = [some (.ref l), some (.ref m), some n, some (.ref k), y4, y5, none, none, none, none, none, none, none, none, none]) ∧ Same H0 H
def iv_sd3 (mg : Str → Option Value) (H0 : Hp) (D : Addr) (ps qs : Pl) (i : Nat) (H : Hp) : Prop := Same H0 H ∧ ∃ zs, H D = some (.lst zs) ∧ PlAt mg H zs ((ps.take i).filter fun p => decide (¬ p.1 ∈ qs.map (·.1)))
structure SdW (mg : Str → Option Value) (H0 : Hp) (l m th lf hv fo : Addr) (ps qs left have_ : Pl) (rs : List Sent) (H : Hp) : Prop where
  same : Same H0 H
  nlf : H0 lf = none
  nhv : H0 hv = none
  nfo : H0 fo = none
  ne1 : hv ≠ fo
  ne2 : lf ≠ hv
  ne3 : lf ≠ fo
  run : SendS (lackS ps qs) qs left have_ rs
  lf_ : ∃ us, H lf = some (.lst us) ∧ PlAt mg H us left
  hv_ : ∃ us, H hv = some (.lst us) ∧ PlAt mg H us have_
  fo_ : ∃ us, H fo = some (.lst us) ∧ SentAt H us rs
  len : left.length + rs.length ≤ 8
  len2 : have_.length = qs.length + rs.length
theorem f_sending (T : Txt K mg) : Fk P w K mg base (L2.CX P w) lv_sending "sending" pm_sending (sp_sending mg) := by
  obtain ⟨f, fd, F, g, b⟩ := T.d_sending.ex
  refine ⟨f, fd, g, F.kp, b, F.okX sc_sending (fun vs H Q E h => ?_) (fun cdv A outer s H vs Q E hr h => ?_)⟩
  · obtain ⟨l, m, xs, ys, ps, qs, rfl, _⟩ := h; rfl
  · obtain ⟨l, m, xs, ys, ps, qs, rfl, hl, hm, hP, hQ, gp, gq, hpq, q⟩ := h
    refine ⟨_, (pss_cons (ps_if (PW.pt (pw_or (pt_not (pt_val (pe_fn (f_is_place T) (hr.mono (by decide)) (by rfl) pass0 (pa_cons (pv 0) pa_nil)))) (pw_or1 (pt_not (pt_val (pe_fn (f_is_place T) (hr.mono (by decide)) (by rfl) pass0 (pa_cons (pv 1) pa_nil))))))) (pss_one (ps_raise rfl (takes_of rfl rfl rfl rfl) (pmk_own PySem.F.excBase_RuntimeError T.x_BadNights.xP T.x_BadNights.gP T.x_BadNights.kP T.x_BadNights.rs rfl))) pss_nil)
      (pss_cons (ps_for (passes_of rfl) rfl (pi_list (pv 0)) (pg_tup rfl (pgs_cons (pg_name (i := 2) sc_sending.nd rfl (Or.inl rfl)) (pgs_cons (pg_name (i := 3) sc_sending.nd rfl (Or.inl rfl)) pgs_nil))) (pss_one (ps_for (passes_of rfl) rfl (pi_list (pv 1)) (pg_tup rfl (pgs_cons (pg_name (i := 4) sc_sending.nd rfl (Or.inl rfl)) (pgs_cons (pg_name (i := 5) sc_sending.nd rfl (Or.inl rfl)) pgs_nil))) (pss_one (ps_if (PW.pt (pw_and (pt_cmpR op_eq (pv 2) (pv 4) (nomark _)) (pw_and1 (pt_cmpR (op_neO T.v_State (f_State____eq__ T) (hr.mono (by decide)) pass0) (pv 3) (pv 5) (nomark _))))) (pss_one (ps_raise rfl (takes_of rfl rfl rfl rfl) (pmk_own PySem.F.excBase_RuntimeError T.x_Unlike.xP T.x_Unlike.gP T.x_Unlike.kP T.x_Unlike.rs rfl))) pss_nil)))))
      (pss_cons (ps_set (i := 6) sc_sending.nd rfl (.inr rfl) (pe_lc (own := [("night", 2), ("state", 3)]) (g := gTup K 2 (gCons (gName 2) (gCons (gName 3) (gNil)))) (tt := tYes) (by rfl) sc_sending.nd (pi_list (pv 1)) (blkOk_by (own := [("night", 2), ("state", 3)]) (N := nm_sending) (sc := defScope s_sending) (by decide +kernel)) (fun _ _ _ _ _ => (pg_tupK K rfl rfl (pgs_cons (pg_name (i := 2) sc_sending.nd rfl (Or.inl rfl)) (pgs_cons (pg_name (i := 3) sc_sending.nd rfl (Or.inl rfl)) pgs_nil)))) (fun _ _ _ _ _ => pts_nil) (fun _ _ _ _ _ => (pv 2))))
      (pss_cons (ps_setLc (own := [("one", 14)]) (g := gName 14) (i := 7) (by rfl) sc_sending.nd rfl rfl (sw_true rfl rfl rfl (by decide +kernel)) (pi_list (pv 0)) (blkOk_by (own := [("one", 14)]) (N := nm_sending) (sc := defScope s_sending) (by decide +kernel)) (fun _ _ _ _ _ => (pg_name (i := 14) sc_sending.nd rfl (Or.inl rfl))) (fun _ _ _ _ _ => (pts_one (pt_cmpR (op_notInK K rfl) (pe_ix (ix_tupK K rfl) (pv 14) pe_int (fun _ _ => rfl)) (pv 6) (by rfl)))) (fun _ _ _ _ _ => (pv 14)))
      (pss_cons (ps_set (i := 8) sc_sending.nd rfl (.inr rfl) (pe_callTy call_list_of (by rfl) T.b_list (by decide +kernel) (pa_cons (pv 1) pa_nil)))
      (pss_cons (ps_set (i := 9) sc_sending.nd rfl (.inl rfl) (pe_lst pa_nil))
      (pss_cons (ps_while (passes_of rfl) (pt_cmpR (op_neNil K rfl hr.units0) (pv 7) (pe_lst pa_nil) (nomark _)) (pss_cons (ps_setLc (own := [("night", 2), ("state", 3)]) (g := gTup K 2 (gCons (gName 2) (gCons (gName 3) (gNil)))) (tt := tYes) (i := 10) (by rfl) sc_sending.nd rfl rfl (sw_true rfl rfl rfl (by decide +kernel)) (pi_list (pv 7)) (blkOk_by (own := [("night", 2), ("state", 3)]) (N := nm_sending) (sc := defScope s_sending) (by decide +kernel)) (fun _ _ _ _ _ => (pg_tupK K rfl rfl (pgs_cons (pg_name (i := 2) sc_sending.nd rfl (Or.inl rfl)) (pgs_cons (pg_name (i := 3) sc_sending.nd rfl (Or.inl rfl)) pgs_nil)))) (fun _ _ _ _ _ => pts_nil) (fun _ _ _ _ _ => (pe_ix (ix_tupK K rfl) (pe_fn (f_best_base T) (hr.mono (by decide)) (by rfl) pass0 (pa_cons (pv 3) (pa_cons (pv 8) pa_nil))) pe_int (fun _ _ => rfl))))
      (pss_cons (ps_set (i := 11) sc_sending.nd rfl (.inl rfl) (pe_bm PySem.F.plainAttrs_list PySem.F.slot_list_index PySem.F.type_list_index mt_index (pv 10) (pa_cons (pe_callB (cr_min rfl) (by rfl) T.b_min (by decide +kernel) (pa_cons (pv 10) pa_nil)) pa_nil)))
      (pss_cons (ps_asg (pe_ix ix_list (pv 7) (pv 11) (fun _ _ => rfl)) (pg_tup rfl (pgs_cons (pg_name (i := 2) sc_sending.nd rfl (Or.inl rfl)) (pgs_cons (pg_name (i := 3) sc_sending.nd rfl (Or.inl rfl)) pgs_nil))))
      (pss_cons (ps_asg (pe_fn (f_best_base T) (hr.mono (by decide)) (by rfl) pass0 (pa_cons (pv 3) (pa_cons (pv 8) pa_nil))) (pg_tup rfl (pgs_cons (pg_name (i := 12) sc_sending.nd rfl (Or.inl rfl)) (pgs_cons (pg_name (i := 13) sc_sending.nd rfl (Or.inl rfl)) pgs_nil))))
      (pss_cons (ps_expr (pe_bm PySem.F.plainAttrs_list PySem.F.slot_list_append PySem.F.type_list_append mt_append (pv 9) (pa_cons (pe_tup (pa_cons (pv 2) (pa_cons (pv 13) (pa_cons (pv 12) pa_nil)))) pa_nil)))
      (pss_cons (ps_expr (pe_bm PySem.F.plainAttrs_list PySem.F.slot_list_append PySem.F.type_list_append mt_append (pv 8) (pa_cons (pe_tup (pa_cons (pv 2) (pa_cons (pv 3) pa_nil))) pa_nil)))
      (pss_one (ps_set (i := 7) sc_sending.nd rfl (.inl rfl) (pe_op op_cat (pe_slice sl_list (pv 7) po_none (po_some (pv 11))) (pe_slice sl_list (pv 7) (po_some (pe_op op_add (pv 11) pe_int)) po_none)))))))))))
      (pss_one (ps_ret (pv 9)))))))))), ?_⟩
    have hxl := hP.len
    have hyl := hQ.len
    have h8 := gp.len
    have h8q := gq.len
    with_reducible refine seq_k fun K_ hK_ => ?_
    walk_at "ru"
    refine ⟨l, xs, ps, rfl, hl, hP, gp, fun H1 s1 => ⟨true, rfl, ?_⟩⟩
    walk_at "ru"
    refine ⟨m, ys, qs, rfl, s1 _ _ hm, hQ.same s1, gq, fun H2 s2 => ⟨true, rfl, ?_⟩⟩
    rw [if_neg (by simp)]
    have s12 := s1.trans s2
    walk_at "ru"
    subst hK_
    first | with_reducible refine seq_k fun K_ hK_ => ?_ | skip
    walk_at "ru"
    refine ⟨⟨_, sqL (s12 _ _ hl)⟩, ?_⟩
    refine for_it (walk_list (xs := xs)) (iv_sd1 H l m) ⟨⟨_, _, _, _, rfl⟩, s12⟩ (fun i σ H2 _ iv => sqL (iv.2 _ _ hl)) (fun i x σ H3 H4 hi iv hy => ?_) (fun σ H3 iv => ?_)
    · obtain ⟨⟨y2, y3, y4, y5, rfl⟩, s3⟩ := iv
      obtain ⟨rfl, hy⟩ := hy
      obtain ⟨p, q1, k1, e1, rfl, e3, e4⟩ := hP.get hy
      refine ⟨q1, _, rfl, sqT (s3 _ _ e3), rfl, ?_⟩
      walk_at "ru"
      refine ⟨⟨_, sqL (s3 _ _ hm)⟩, ?_⟩
      refine for_it (walk_list (xs := ys)) (iv_sd2 H l m (.int p.1) k1) ⟨⟨_, _, rfl⟩, s3⟩ (fun i σ H2 _ iv => sqL (iv.2 _ _ hm)) (fun j y σ H5 H6 hj iv hy2 => ?_) (fun σ H5 iv => ?_)
      · obtain ⟨⟨y4, y5, rfl⟩, s5⟩ := iv
        obtain ⟨rfl, hy2⟩ := hy2
        obtain ⟨p2, q2, k2, f1, rfl, f3, f4⟩ := hQ.get hy2
        refine ⟨q2, _, rfl, sqT (s5 _ _ f3), rfl, ?_⟩
        walk_at "ru"
        by_cases c : p.1 = p2.1
        · rw [if_pos c]
          have ht := hpq p (mem_of_get e1) p2 (mem_of_get f1) c
          have e5 := e4.same s5
          have f5 := f4.same s5
          obtain ⟨dx, d, h1, h2⟩ := e5.ex
          obtain ⟨dy, d', h3, h4⟩ := f5.ex
          refine ⟨k1, k2, dx, dy, _, _, rfl, rfl, h1, h3, k1, k2, p.2, p2.2, rfl, e5, f5, _, rfl, ?_⟩
          rw [eq_T' e4.ok f4.ok (fun n => by rw [ht])]
          exact ⟨false, rfl, ⟨⟨_, _, rfl⟩, s5⟩⟩
        · rw [if_neg c]
          exact ⟨⟨_, _, rfl⟩, s5⟩
      · obtain ⟨⟨y4, y5, rfl⟩, s5⟩ := iv
        exact ⟨⟨_, _, _, _, rfl⟩, s5⟩
    · obtain ⟨⟨y2, y3, y4, y5, rfl⟩, s3⟩ := iv
      walk_at "ru"
      subst hK_
      first | with_reducible refine seq_k fun K_ hK_ => ?_ | skip
      walk_at "ru"
      have hm3 := s3 _ _ hm
      have hQ3 := hQ.same s3
      refine ⟨⟨_, sqL hm3⟩, fun D hD => ?_⟩
      refine lcL hD (sqL hm3) (fun i => (qs.take i).map fun p => V.int p.1) rfl (fun i x H4 hx p => ?_) (fun H4 s4 hD4 => ?_)
      · obtain ⟨p2, q2, k2, f1, rfl, f3, f4⟩ := (hQ3.same p.same).get hx
        refine ⟨q2, _, rfl, sqT f3, rfl, ?_⟩
        walk_at "ru"
        exact p.push hD (by simp; omega) (Same.refl _) (map_take_next _ f1)
      · rw [hyl, List.take_length] at hD4
        have s34 := s3.trans s4
        have hl4 := s34 _ _ hl
        have hP4 := hP.same s34
        walk_at "ru"
        subst hK_
        first | with_reducible refine seq_k fun K_ hK_ => ?_ | skip
        walk_at "ru"
        refine ⟨⟨_, sqL hl4⟩, fun D2 hD2 => ?_⟩
        refine lc_list (K := K) (a := l) (xs := xs) (iv_sd3 mg H4 D2 ps qs) ⟨same_upd hD2, [], upd_same, by simp [PlAt]⟩ (fun i H5 _ p => sqL (p.1 _ _ hl4)) (fun i x H5 hx pv => ?_) fun H5 pv => ?_
        · obtain ⟨s5, zs, hD5, hP5⟩ := pv
          obtain ⟨p, q1, k1, e1, rfl, e3, e4⟩ := (hP4.same s5).get hx
          have hft := filter_take_next (fun p : Int × Tb => decide (¬ p.1 ∈ qs.map (·.1))) e1
          walk_at "ru"
          refine ixT (j := 0) (sqT e3) rfl rfl ?_
          have hD5' : H5 D = some (.lst ((qs.map (·.1)).map V.int)) := by rw [s5 _ _ hD4, List.map_map]; rfl
          refine ⟨D, _, rfl, .inl (sqL hD5'), rfl, by simp [flatV], _, rfl, ?_⟩
          rw [if_pos rfl, inV_ints, ← decide_not]
          have hzl := hP5.len
          have hfl := filter_len ps (fun p : Int × Tb => decide (¬ p.1 ∈ qs.map (·.1))) i
          by_cases c : ¬ p.1 ∈ qs.map (·.1)
          · rw [if_pos (decide_eq_true c)]
            rw [if_pos (decide_eq_true c)] at hft
            refine ⟨zs, hD5, szl (by omega), Same.app s5 hD2, zs ++ [.ref q1], upd_same, ?_⟩
            rw [hft]
            exact (hP5.app (PlAt.one e3 e4)).but But.upd hD5
          · rw [if_neg (by simpa using c)]
            rw [if_neg (by simpa using c), List.append_nil] at hft
            exact ⟨s5, zs, hD5, by rw [hft]; exact hP5⟩
        · obtain ⟨s5, zs, hD5, hP5⟩ := pv
          rw [hxl, List.take_length] at hP5
          have hT5 := s5 _ _ hD4
          have s35 := s34.trans s5
          have nD2 : H D2 = none := s34.free hD2
          walk_at "ru"
          subst hK_
          first | with_reducible refine seq_k fun K_ hK_ => ?_ | skip
          walk_at "ru"
          refine ⟨_, .inl (sqL (s35 _ _ hm)), ?_⟩
          intro hv n_hv
          generalize hG_ : upd _ hv _ = H6
          obtain ⟨s6, hhv⟩ := newF n_hv hG_
          clear hG_
          walk_at "ru"
          subst hK_
          first | with_reducible refine seq_k fun K_ hK_ => ?_ | skip
          walk_at "ru"
          intro fo n_fo
          generalize hG_ : upd _ fo _ = H7
          obtain ⟨s7, hfo⟩ := newF n_fo hG_
          clear hG_
          have s67 := s6.trans s7
          have s07 := s35.trans s67
          have nhv : H hv = none := s35.free n_hv
          have nfo : H fo = none := (s35.trans s6).free n_fo
          have hne : hv ≠ fo := ne_of_none hhv n_fo
          walk_at "ru"
          subst hK_
          first | with_reducible refine seq_k fun K_ hK_ => ?_ | skip
          walk_at "ru"
          refine ⟨fun n σ H' => ∃ lf left have_ rs y2 y3 y10 y11 y12 y13, n = left.length ∧ σ = [some (.ref l), some (.ref m), y2, y3, y4, y5, some (.ref D), some (.ref lf), some (.ref hv), some (.ref fo), y10, y11, y12, y13, none] ∧ SdW mg H l m D lf hv fo ps qs left have_ rs H',
            ⟨_, D2, lackS ps qs, qs, [], _, _, _, _, _, _, rfl, rfl, ⟨s07, nD2, nhv, nfo, hne, ne_of_none hD5 n_hv, ne_of_none (s6 _ _ hD5) n_fo, .start, ⟨zs, s67 _ _ hD5, hP5.same s67⟩, ⟨ys, s7 _ _ hhv, hQ.same s07⟩, ⟨[], hfo, trivial⟩, ?_, rfl⟩⟩, ?_⟩
          · have := List.length_filter_le (fun p : Int × Tb => decide (¬ p.1 ∈ qs.map (·.1))) ps
            unfold lackS
            simp only [List.length_nil]
            omega
          · rintro n σ H8 ⟨lf, left, have_, rs, y2, y3, y10, y11, y12, y13, rfl, rfl, W⟩
            obtain ⟨us, hlf, hPl⟩ := W.lf_
            obtain ⟨vs, hhv8, hPh⟩ := W.hv_
            obtain ⟨ws, hfo8, hSt⟩ := W.fo_
            have hul := hPl.len
            walk_at "ru"
            intro e1 n_e1
            generalize hG_ : upd _ e1 _ = H9
            obtain ⟨s9, he1⟩ := newF n_e1 hG_
            clear hG_
            refine ⟨lf, e1, us, rfl, rfl, sqL (s9 _ _ hlf), sqL he1, ?_⟩
            refine ⟨_, rfl, ?_⟩
            have hlf9 := s9 _ _ hlf
            have hPl9 := hPl.same s9
            have hhv9 := s9 _ _ hhv8
            have hPh9 := hPh.same s9
            by_cases c : 0 < us.length
            · rw [if_pos (decide_eq_true c)]
              refine ⟨_, fun σ' H'' h => h, ?_⟩
              with_reducible refine seq_k fun K_ hK_ => ?_
              walk_at "ru"
              refine ⟨⟨_, sqL hlf9⟩, fun D3 hD3 => ?_⟩
              refine lcL hD3 (sqL hlf9) (fun i => (left.take i).map fun p => V.int (((bestB p.2 have_).1 : Nat) : Int)) rfl (fun i x HA hx p => ?_) (fun HA sA hD3A => ?_)
              · obtain ⟨pr, q1, k1, f1, rfl, f3, f4⟩ := (hPl9.same p.same).get hx
                refine ⟨q1, _, rfl, sqT f3, rfl, ?_⟩
                walk_at "ru"
                refine ⟨k1, hv, pr.2, vs, have_, rfl, f4, p.same _ _ hhv9, hPh9.same p.same, fun r HB sB hrB => ?_⟩
                refine ixT (j := 0) (sqT hrB) rfl rfl ?_
                have := W.len
                exact p.push hD3 (by simp; omega) sB (map_take_next _ f1)
              · rw [hul, List.take_length] at hD3A
                have s8A := s9.trans sA
                walk_at "ru"
                subst hK_
                first | with_reducible refine seq_k fun K_ hK_ => ?_ | skip
                walk_at "ru"
                have hD3B : HA D3 = some (.lst (((left.map fun p => (bestB p.2 have_).1).map fun n : Nat => (n : Int)).map V.int)) := by
                  rw [hD3A, List.map_map, List.map_map]
                  rfl
                refine ⟨tyL hD3B, D3, _, rfl, sqL hD3B, by simp; omega, fun mn hm1 hm2 => ?_⟩
                obtain ⟨av, ha, rfl⟩ := List.mem_map.mp hm1
                obtain ⟨j, hj1, hj2⟩ := first_at ha
                refine ⟨D3, _, .int (av : Nat), j, .int (av : Nat), rfl, rfl, sqL hD3B, rfl, by simp [flatV], by rw [List.getElem?_map, List.getElem?_map, hj1]; rfl, by simp [eqV], fun i z hi hz => ?_, ?_⟩
                · rw [List.getElem?_map, List.getElem?_map] at hz
                  cases ez : (left.map fun p => (bestB p.2 have_).1)[i]? with
                  | none => rw [ez] at hz; cases hz
                  | some z0 =>
                    rw [ez] at hz
                    cases hz
                    have := hj2 i z0 hi ez
                    simp [eqV]
                    omega
                · have hjl : j < us.length := by
                    have := lt_of_get hj1
                    rw [List.length_map] at this
                    omega
                  obtain ⟨pr, q1, k1, f1, f2, f3, f4⟩ := (hPl9.same sA).get (List.getElem?_eq_getElem hjl)
                  have hmin : (bestB pr.2 have_).1 = av := by
                    rw [List.getElem?_map, f1] at hj1
                    exact Option.some.inj hj1
                  have hlfA := sA _ _ hlf9
                  walk_at "ru"
                  subst hK_
                  first | with_reducible refine seq_k fun K_ hK_ => ?_ | skip
                  walk_at "ru"
                  refine ixL (j := j) (sqL hlfA) rfl (List.getElem?_eq_getElem hjl) ?_
                  rw [f2]
                  refine ⟨q1, _, rfl, sqT f3, rfl, ?_⟩
                  walk_at "ru"
                  subst hK_
                  first | with_reducible refine seq_k fun K_ hK_ => ?_ | skip
                  walk_at "ru"
                  refine ⟨k1, hv, pr.2, vs, have_, rfl, f4, sA _ _ hhv9, hPh9.same sA, fun r HB sB hrB => ?_⟩
                  refine ⟨r, _, rfl, sqT hrB, rfl, ?_⟩
                  have s8B := s8A.trans sB
                  have hfoB := s8B _ _ hfo8
                  have hws := hSt.len
                  have hWl := W.len
                  walk_at "ru"
                  subst hK_
                  first | with_reducible refine seq_k fun K_ hK_ => ?_ | skip
                  walk_at "ru"
                  refine ⟨tyL hfoB, ?_⟩
                  intro t1 n_t1
                  generalize hG_ : upd _ t1 _ = HC
                  obtain ⟨sC, ht1⟩ := newF n_t1 hG_
                  clear hG_
                  have s8C := s8B.trans sC
                  have hfoC := sC _ _ hfoB
                  refine appR hfoC (by omega) ?_
                  generalize hG : upd HC fo _ = HD
                  have bD : But fo HC HD := by rw [← hG]; exact But.upd
                  have hfoD : HD fo = some (.lst (ws ++ [.ref t1])) := by rw [← hG]; exact upd_same
                  clear hG
                  have tupD : ∀ z zs, HC z = some (.tup zs) → HD z = some (.tup zs) := fun z zs h => bD _ _ h (ne_of h hfoC (by intro z; cases z))
                  have hStD : SentAt HD (ws ++ [.ref t1]) (rs ++ [(pr.1, (bestB pr.2 have_).2, (bestB pr.2 have_).1)]) := ((hSt.same s8C).app (SentAt.one ht1)).tups tupD
                  have hhvD : HD hv = some (.lst vs) := bD _ _ (s8C _ _ hhv8) W.ne1
                  have hPhD := (hPh.same s8C).but bD hfoC
                  have f4D : StAt mg HD k1 pr.2 := ((f4.same sB).same sC).but bD hfoC
                  have hvl := hPh.len
                  have hWl2 := W.len2
                  walk_at "ru"
                  subst hK_
                  first | with_reducible refine seq_k fun K_ hK_ => ?_ | skip
                  walk_at "ru"
                  refine ⟨tyL hhvD, ?_⟩
                  intro t2 n_t2
                  generalize hG_ : upd _ t2 _ = HE
                  obtain ⟨sE, ht2⟩ := newF n_t2 hG_
                  clear hG_
                  have hhvE := sE _ _ hhvD
                  refine appR hhvE (by omega) ?_
                  generalize hG : upd HE hv _ = HF
                  have bF : But hv HE HF := by rw [← hG]; exact But.upd
                  have hhvF : HF hv = some (.lst (vs ++ [.ref t2])) := by rw [← hG]; exact upd_same
                  clear hG
                  have tupF : ∀ z zs, HE z = some (.tup zs) → HF z = some (.tup zs) := fun z zs h => bF _ _ h (ne_of h hhvE (by intro z; cases z))
                  have hPhF : PlAt mg HF (vs ++ [.ref t2]) (have_ ++ [pr]) := ((hPhD.same sE).app (PlAt.one ht2 (f4D.same sE))).but bF hhvE
                  have hfoF : HF fo = some (.lst (ws ++ [.ref t1])) := bF _ _ (sE _ _ hfoD) W.ne1.symm
                  have hStF := (hStD.same sE).tups tupF
                  have sHF : Same H HF := fun z o h => bF _ _ (sE _ _ (bD _ _ (s8C _ _ (W.same _ _ h)) (ne_of_none h W.nfo))) (ne_of_none h W.nhv)
                  have hlfF : HF lf = some (.lst us) := bF _ _ (sE _ _ (bD _ _ (s8C _ _ hlf) W.ne3)) W.ne2
                  have hPlF : PlAt mg HF us left := (((hPl.same s8C).but bD hfoC).same sE).but bF hhvE
                  walk_at "ru"
                  subst hK_
                  first | with_reducible refine seq_k fun K_ hK_ => ?_ | skip
                  walk_at "ru"
                  refine ⟨lf, _, rfl, sqL hlfF, ?_⟩
                  intro c1 n_c1
                  generalize hG_ : upd _ c1 _ = HG
                  obtain ⟨sG, hc1⟩ := newF n_c1 hG_
                  clear hG_
                  rw [cut_to] at hc1
                  refine ⟨lf, _, rfl, sqL (sG _ _ hlfF), ?_⟩
                  intro c2 n_c2
                  generalize hG_ : upd _ c2 _ = HI
                  obtain ⟨sI, hc2⟩ := newF n_c2 hG_
                  clear hG_
                  rw [show ((j : Int) + 1) = ((j + 1 : Nat) : Int) by omega, cut_from] at hc2
                  refine ⟨c1, c2, _, _, rfl, rfl, sI _ _ hc1, hc2, sz (by rw [List.length_take, List.length_drop]; omega), ?_⟩
                  intro c3 n_c3
                  generalize hG_ : upd _ c3 _ = HJ
                  obtain ⟨sJ, hc3⟩ := newF n_c3 hG_
                  clear hG_
                  have sFJ := (sG.trans sI).trans sJ
                  have sHJ := sHF.trans sFJ
                  have n3 : H c3 = none := (sHF.trans (sG.trans sI)).free n_c3
                  have hjleft : j < left.length := lt_of_get f1
                  refine ⟨(left.eraseIdx j).length, by rw [List.length_eraseIdx, if_pos hjleft]; omega, ?_⟩
                  refine ⟨c3, left.eraseIdx j, rfl, rfl, have_ ++ [pr], rs ++ [(pr.1, (bestB pr.2 have_).2, (bestB pr.2 have_).1)], ?_⟩
                  refine ⟨sHJ, n3, W.nhv, W.nfo, W.ne1, (ne_of_none ((sG.trans sI) _ _ hhvF) n_c3).symm, (ne_of_none ((sG.trans sI) _ _ hfoF) n_c3).symm, .next W.run f1 (fun q hq => ?_), ⟨_, hc3, (hPlF.same sFJ).erase j⟩, ⟨_, sFJ _ _ hhvF, hPhF.same sFJ⟩, ⟨_, sFJ _ _ hfoF, hStF.same sFJ⟩, ?_, ?_⟩
                  · rw [hmin]
                    have := hm2 (((bestB q.2 have_).1 : Nat) : Int) (List.mem_map.mpr ⟨_, List.mem_map.mpr ⟨q, hq, rfl⟩, rfl⟩)
                    omega
                  · rw [List.length_eraseIdx, if_pos hjleft, List.length_append]
                    simp only [List.length_cons, List.length_nil]
                    omega
                  · rw [List.length_append, List.length_append]
                    simp only [List.length_cons, List.length_nil]
                    omega
            · have hus : us = [] := by cases us with
                | nil => rfl
                | cons a r => simp at c
              have hle : left = [] := by
                cases left with
                | nil => rfl
                | cons a r => rw [hus] at hul; simp at hul
              rw [if_neg (by simpa using c)]
              walk_at "ru"
              subst hK_
              first | with_reducible refine seq_k fun K_ hK_ => ?_ | skip
              walk_at "ru"
              exact q fo ws rs have_ H9 (W.same.trans s9) W.nfo (s9 _ _ hfo8) (hSt.same s9) (hle ▸ W.run)
end
end Nk
namespace Nk
open PySem L2
section
variable {P : Program} {w : World} {K : PySem.W.Frag} {mg : Str → Option Value} {base : Heap}
/-- nights with tables stand -/
def PdAt (H : Hp) : List V → Pl → Prop
  | [], [] => True
  | x :: xs, p :: ps => (∃ q d, x = .ref q ∧ H q = some (.tup [.int p.1, .ref d]) ∧ H d = some (.dK (kvsT p.2))) ∧ PdAt H xs ps
  | _, _ => False
theorem PdAt.keep {H H' : Hp} (h1 : ∀ b xs, H b = some (.tup xs) → H' b = some (.tup xs)) (h2 : ∀ b kvs, H b = some (.dK kvs) → H' b = some (.dK kvs)) : ∀ {xs : List V} {ps : Pl}, PdAt H xs ps → PdAt H' xs ps
  | [], [], _ => trivial
  | x :: xs, p :: ps, ⟨⟨q, d, e, hq, hd⟩, r⟩ => ⟨⟨q, d, e, h1 _ _ hq, h2 _ _ hd⟩, PdAt.keep h1 h2 r⟩
theorem PdAt.same {H H' : Hp} (s : Same H H') {xs : List V} {ps : Pl} (h : PdAt H xs ps) : PdAt H' xs ps := h.keep (fun _ _ e => s _ _ e) (fun _ _ e => s _ _ e)
theorem PdAt.but {H H' : Hp} {t : Addr} {l : List V} (b : But t H H') (ht : H t = some (.lst l)) {xs : List V} {ps : Pl} (h : PdAt H xs ps) : PdAt H' xs ps := h.keep (fun _ _ e => b _ _ e (ne_of e ht (by intro z; cases z))) (fun _ _ e => b _ _ e (ne_of e ht (by intro z; cases z)))
theorem PdAt.len {H : Hp} : ∀ {xs : List V} {ps : Pl}, PdAt H xs ps → xs.length = ps.length
  | [], [], _ => rfl
  | x :: xs, p :: ps, ⟨_, r⟩ => by simp [PdAt.len r]
theorem PdAt.app {H : Hp} : ∀ {xs ys : List V} {ps qs : Pl}, PdAt H xs ps → PdAt H ys qs → PdAt H (xs ++ ys) (ps ++ qs)
  | [], _, [], _, _, h => h
  | x :: xs, _, p :: ps, _, ⟨a, r⟩, h => ⟨a, PdAt.app r h⟩
theorem PdAt.one {H : Hp} {q d : Addr} {p : Int × Tb} (h : H q = some (.tup [.int p.1, .ref d])) (hd : H d = some (.dK (kvsT p.2))) : PdAt H [.ref q] [p] := ⟨⟨q, d, rfl, h, hd⟩, trivial⟩
theorem PdAt.get {H : Hp} : ∀ {xs : List V} {ps : Pl}, PdAt H xs ps → ∀ {i : Nat} {x : V}, xs[i]? = some x → ∃ p q d, ps[i]? = some p ∧ x = .ref q ∧ H q = some (.tup [.int p.1, .ref d]) ∧ H d = some (.dK (kvsT p.2))
  | x :: xs, p :: ps, ⟨⟨q, d, e, hq, hd⟩, r⟩, 0, y, hy => by
    cases hy
    exact ⟨p, q, d, rfl, e, hq, hd⟩
  | x :: xs, p :: ps, ⟨_, r⟩, i + 1, y, hy => PdAt.get r hy
  | [], [], _, i, y, hy => by simp at hy
/-- what the law draws -/
structure Drawn (mine its all : Pl) : Prop where
  m : mine.Sublist all
  i : its.Sublist all
  g : GoodPl all
  ok : ∀ p ∈ all, OkT p.2 ∧ p.2.length ≤ 20
abbrev nm__law_places : List Str := ["script", "town", "tables", "nights", "mine", "its", "night", "table", "way", "k"]
abbrev pm__law_places : List Str := ["script", "town"]
abbrev lv__law_places : Nat := 6
theorem sc__law_places : FnScope nm__law_places pm__law_places (defScope s__law_places) := ⟨rfl, rfl, rfl, by decide +kernel, rfl, by decide +kernel, by decide +kernel⟩
def sp__law_places (K : PySem.W.Frag) : Sp := fun vs H Q _ => ∃ (a t : Addr) (ns : List Int) (c : Nat), vs = [.ref a, .ref t] ∧ Tn K H a t ns c ∧ c < 600000000 ∧
  ∀ (r lm li : Addr) (xs ys : List V) (mine its all : Pl) (c' : Nat) (H' : Hp), H' r = some (.tup [.ref lm, .ref li]) → H' lm = some (.lst xs) → H' li = some (.lst ys) → lm ≠ t → li ≠ t → PdAt H' xs mine → PdAt H' ys its → Drawn mine its all → Tn K H' a t ns c' → But t H H' → Q (.ref r) H'
def iv_lp1 (K : PySem.W.Frag) (H0 : Hp) (a t D : Addr) (ns : List Int) (c : Nat) (i : Nat) (H : Hp) : Prop := ∃ ds : List Int, H D = some (.lst (ds.map V.int)) ∧ ds.length = i ∧ (∀ (j : Nat) (x : Int), ds[j]? = some x → 3 * j ≤ x ∧ x < 3 * j + 3) ∧ Tn K H a t ns (c + i) ∧ But t H0 H
def iv_lp2 (K : PySem.W.Frag) (H0 : Hp) (a t L N lm li : Addr) (ns : List Int) (c : Nat) (all : Pl) (i : Nat) (σ : L2.St) (H : Hp) : Prop :=
  ∃ y6 y7 y8 c' xs ys mine its, σ = [some (.ref a), some (.ref t), some (.ref L), some (.ref N), some (.ref lm), some (.ref li), y6, y7, y8, none] ∧ c' ≤ c + 2 * i ∧ Tn K H a t ns c' ∧ H lm = some (.lst xs) ∧ H li = some (.lst ys) ∧ PdAt H xs mine ∧ PdAt H ys its ∧ mine.Sublist (all.take i) ∧ its.Sublist (all.take i) ∧ xs.length ≤ i ∧ ys.length ≤ i ∧ (∀ b o, H0 b = some o → b ≠ t → b ≠ lm → b ≠ li → H b = some o)
theorem f__law_places (T : Txt K mg) : Fk P w K mg base CX0 lv__law_places "_law_places" pm__law_places (sp__law_places K) := by
  obtain ⟨f, fd, F, g, b⟩ := T.d__law_places.ex
  refine ⟨f, fd, g, F.kp, b, F.ok sc__law_places (fun vs H Q E h => ?_) (fun cdv A outer s H vs Q E hr h => ?_)⟩
  · obtain ⟨a, t, ns, c, rfl, _⟩ := h; rfl
  · obtain ⟨a, t, ns, c, rfl, T1, hc, q⟩ := h
    refine ⟨_, (pss_cons (ps_set (i := 2) sc__law_places.nd rfl (.inl rfl) (pe_fn (f__law_states T) (hr.mono (by decide)) (by rfl) pass0 (pa_cons (pv 0) (pa_cons (pv 1) (pa_cons pe_int pa_nil)))))
      (pss_cons (ps_setLc (own := [("k", 9)]) (g := gName 9) (tt := tYes) (i := 3) (by rfl) sc__law_places.nd rfl rfl (sw_true rfl rfl rfl (by decide +kernel)) (pi_range1 (by rfl) T.b_range (pa_cons (pe_callB call_len_seq (by rfl) T.b_len PySem.boot_len (pa_cons (pv 2) pa_nil)) pa_nil)) (blkOk_by (own := [("k", 9)]) (N := nm__law_places) (sc := defScope s__law_places) (by decide +kernel)) (fun _ _ _ _ _ => (pg_name (i := 9) sc__law_places.nd rfl (Or.inl rfl))) (fun _ _ _ _ _ => pts_nil) (fun _ _ _ _ _ => (pe_op op_add (pe_op op_mul pe_int (pv 9)) (pe_fn (f__law_draw T) (hr.mono (by decide)) (by rfl) pass0 (pa_cons (pv 0) (pa_cons (pv 1) (pa_cons pe_int pa_nil)))))))
      (pss_cons (ps_set (i := 4) sc__law_places.nd rfl (.inl rfl) (pe_lst pa_nil))
      (pss_cons (ps_set (i := 5) sc__law_places.nd rfl (.inl rfl) (pe_lst pa_nil))
      (pss_cons (ps_for PassesOwn.never rfl (pi_zip (by rfl) T.b_zip (pa_cons (pv 3) (pa_cons (pv 2) pa_nil))) (pg_tup rfl (pgs_cons (pg_name (i := 6) sc__law_places.nd rfl (Or.inl rfl)) (pgs_cons (pg_name (i := 7) sc__law_places.nd rfl (Or.inl rfl)) pgs_nil))) (pss_cons (ps_set (i := 8) sc__law_places.nd rfl (.inl rfl) (pe_fn (f__law_draw T) (hr.mono (by decide)) (by rfl) pass0 (pa_cons (pv 0) (pa_cons (pv 1) (pa_cons pe_int pa_nil)))))
      (pss_cons (ps_if (pt_cmpR op_gt (pv 8) pe_int (nomark _)) (pss_one (ps_expr (pe_bm PySem.F.plainAttrs_list PySem.F.slot_list_append PySem.F.type_list_append mt_append (pv 4) (pa_cons (pe_tup (pa_cons (pv 6) (pa_cons (pv 7) pa_nil))) pa_nil)))) pss_nil)
      (pss_one (ps_if (PW.pt (pw_or (pt_cmpR op_eq (pv 8) pe_int (nomark _)) (pw_or1 (PW.pt (pw_and (pt_cmpR op_eq (pv 8) pe_int (nomark _)) (pw_and1 (pt_cmpR op_eq (pe_fn (f__law_draw T) (hr.mono (by decide)) (by rfl) pass0 (pa_cons (pv 0) (pa_cons (pv 1) (pa_cons pe_int pa_nil)))) pe_int (nomark _)))))))) (pss_one (ps_expr (pe_bm PySem.F.plainAttrs_list PySem.F.slot_list_append PySem.F.type_list_append mt_append (pv 5) (pa_cons (pe_tup (pa_cons (pv 6) (pa_cons (pv 7) pa_nil))) pa_nil)))) pss_nil)))))
      (pss_one (ps_ret (pe_tup (pa_cons (pv 4) (pa_cons (pv 5) pa_nil)))))))))), ?_⟩
    with_reducible refine seq_k fun K_ hK_ => ?_
    walk_at "ru"
    refine ⟨a, t, ns, _, 8, rfl, T1, by omega, by omega, by omega, fun L xs ts c2 H3 nL hLt hL tabs2 gd2 l1 l8 hc2 T3 b3 => ?_⟩
    have hlen := tabs2.len
    walk_at "ru"
    subst hK_
    first | with_reducible refine seq_k fun K_ hK_ => ?_ | skip
    walk_at "ru"
    refine ⟨_, .inl (sqL hL), by omega, by omega, fun D hD => ?_⟩
    obtain ⟨z3, hz3⟩ := T3.lst
    have hDt : D ≠ t := (ne_of_none hz3 hD).symm
    refine lc_it walk_range (iv_lp1 K H3 a t D ns c2) ⟨[], upd_same, rfl, fun j x h => by simp at h, T3.same (same_upd hD), .of (same_upd hD)⟩ (fun _ _ _ _ => trivial) (fun i x H5 H6 hi iv hy => ?_) (fun H5 iv => ?_)
    · obtain ⟨ds, hD5, hdl, hds, T5, b5⟩ := iv
      obtain ⟨rfl, rfl⟩ := hy
      walk_at "ru"
      refine ⟨.inl (by decide), a, t, ns, _, 3, rfl, T5, by have := hdl; simp at hi; omega, by omega, by omega, fun dd H7 d0 d1 T7 b7 => ?_⟩
      have hD7 := b7 _ _ hD5 hDt
      refine ⟨_, rfl, _, hD7, szl (by rw [List.length_map]; simp at hi; omega), ds ++ [3 * ((0 : Int) + i) + dd], ?_, by simp [hdl], fun j x hx => ?_, ?_, ?_⟩
      · rw [upd_same, List.map_append]; rfl
      · by_cases c : j < ds.length
        · rw [List.getElem?_append_left c] at hx
          exact hds j x hx
        · rw [List.getElem?_append_right (by omega)] at hx
          have hj : j = ds.length := by
            cases hk : j - ds.length with
            | zero => omega
            | succ k => rw [hk] at hx; simp at hx
          subst hj
          rw [Nat.sub_self] at hx
          have hx : 3 * ((0 : Int) + i) + dd = x := Option.some.inj hx
          omega
      · exact (T7.app T3 hD hDt)
      · exact (b5.trans b7).app hD
    · obtain ⟨ds, hD5, hdl, hds, T5, b5⟩ := iv
      have hdl2 : ds.length = xs.length := by rw [hdl]; simp
      obtain ⟨all, hall⟩ : ∃ all : Pl, all = ds.zip ts := ⟨_, rfl⟩
      have hL5 := b5 _ _ hL hLt
      have tabs5 := tabs2.but b5 hz3
      walk_at "ru"
      subst hK_
      first | with_reducible refine seq_k fun K_ hK_ => ?_ | skip
      walk_at "ru"
      intro lm n_lm
      generalize hG_ : upd _ lm _ = H6
      obtain ⟨s6, hlm⟩ := newF n_lm hG_
      clear hG_
      walk_at "ru"
      subst hK_
      first | with_reducible refine seq_k fun K_ hK_ => ?_ | skip
      walk_at "ru"
      intro li n_li
      generalize hG_ : upd _ li _ = H7
      obtain ⟨s7, hli⟩ := newF n_li hG_
      clear hG_
      walk_at "ru"
      subst hK_
      first | with_reducible refine seq_k fun K_ hK_ => ?_ | skip
      walk_at "ru"
      have s57 := s6.trans s7
      have hD7 := s57 _ _ hD5
      have hL7 := s57 _ _ hL5
      have tabs7 := tabs5.same s57
      have T7 := T5.same s57
      have hlm7 := s7 _ _ hlm
      have hmi : lm ≠ li := ne_of_none hlm n_li
      obtain ⟨z5, hz5⟩ := T5.lst
      have hlmt : lm ≠ t := (ne_of_none hz5 n_lm).symm
      have hlit : li ≠ t := (ne_of_none (s6 _ _ hz5) n_li).symm
      have hDlm : D ≠ lm := ne_of_none hD5 n_lm
      have hDli : D ≠ li := ne_of_none (s6 _ _ hD5) n_li
      have hLlm : L ≠ lm := ne_of_none hL5 n_lm
      have hLli : L ≠ li := ne_of_none (s6 _ _ hL5) n_li
      refine ⟨_, sqL hD7, _, sqL hL7, ?_⟩
      have hn : xs.length = min (ds.map V.int).length xs.length := by rw [List.length_map]; omega
      refine for_it (walk_zip hn) (iv_lp2 K H7 a t L D lm li ns (c2 + xs.length) all) ⟨_, _, _, c2 + ds.length, [], [], [], [], rfl, by omega, hdl ▸ T7, hlm7, hli, trivial, trivial, List.nil_sublist _, List.nil_sublist _, by simp, by simp, fun _ _ h _ _ _ => h⟩ (fun i σ H8 _ iv => ?_) (fun i v σ H8 H9 hi iv hv => ?_) (fun σ H8 iv => ?_)
      · obtain ⟨_, _, _, _, _, _, _, _, _, _, _, _, _, _, _, _, _, _, _, fr⟩ := iv
        exact ⟨sqL (fr _ _ hD7 hDt hDlm hDli), sqL (fr _ _ hL7 hLt hLlm hLli)⟩
      · obtain ⟨y6, y7, y8, c', us, vs, mine, its, rfl, hc', T8, hlm8, hli8, hM8, hI8, sm, si, hul, hvl, fr⟩ := iv
        obtain ⟨tt, u, v, rfl, htt, rfl, hu, hv⟩ := hv
        have hu : (ds.map V.int)[i]? = some u := hu
        have hv : xs[i]? = some v := hv
        rw [List.getElem?_map] at hu
        cases eu : ds[i]? with
        | none => rw [eu] at hu; cases hu
        | some night =>
          rw [eu] at hu
          cases hu
          obtain ⟨t1, d1, e1, e2, e3⟩ := tabs7.get hi
          rw [hv] at e2
          cases e2
          have eall : all[i]? = some (night, t1) := by rw [hall, List.getElem?_zip_eq_some]; exact ⟨eu, e1⟩
          have htk : all.take (i + 1) = all.take i ++ [(night, t1)] := take_next eall
          have e38 : H8 d1 = some (.dK (kvsT t1)) := by
            obtain ⟨zt, hzt⟩ := T7.lst
            exact fr _ _ e3 (ne_of e3 hzt (by intro z; cases z)) (ne_of e3 hlm7 (by intro z; cases z)) (ne_of e3 hli (by intro z; cases z))
          have s9 : Same H8 (upd H8 tt (.tup [.int night, .ref d1])) := same_upd htt
          have hs9 : SqT K (upd H8 tt (.tup [.int night, .ref d1])) tt [.int night, .ref d1] := sqT upd_same
          revert s9 hs9
          generalize upd H8 tt (.tup [.int night, .ref d1]) = H9
          intro s9 hs9
          refine ⟨tt, _, rfl, hs9, rfl, ?_⟩
          walk_at "ru"
          with_reducible refine seq_k fun K_ hK_ => ?_
          walk_at "ru"
          obtain ⟨z9, hz9⟩ := (T8.same s9).lst
          refine ⟨a, t, ns, c', 4, rfl, T8.same s9, by omega, by omega, by omega, fun way HA w0 w1 TA bA => ?_⟩
          have hlmA := bA _ _ (s9 _ _ hlm8) hlmt
          have hliA := bA _ _ (s9 _ _ hli8) hlit
          have hMA := (hM8.same s9).but bA hz9
          have hIA := (hI8.same s9).but bA hz9
          have e3A := bA _ _ (s9 _ _ e38) (ne_of (s9 _ _ e38) hz9 (by intro z; cases z))
          have frA : ∀ b o, H7 b = some o → b ≠ t → b ≠ lm → b ≠ li → HA b = some o := fun b o h n1 n2 n3 => bA _ _ (s9 _ _ (fr b o h n1 n2 n3)) n1
          walk_at "ru"
          subst hK_
          first | with_reducible refine seq_k fun K_ hK_ => ?_ | skip
          walk_at "ru"
          have fin : ∀ HB us' mine', Tn K HB a t ns (c' + 1) → HB lm = some (.lst us') → HB li = some (.lst vs) → PdAt HB us' mine' → PdAt HB vs its → mine'.Sublist (all.take (i + 1)) → us'.length ≤ i + 1 → HB d1 = some (.dK (kvsT t1)) → (∀ b o, H7 b = some o → b ≠ t → b ≠ lm → b ≠ li → HB b = some o) →
              K_ [some (V.ref a), some (V.ref t), some (V.ref L), some (V.ref D), some (V.ref lm), some (V.ref li), some (.int night), some (.ref d1), some (.int way), none] HB := by
            intro HB us' mine' TB hlmB hliB hMB hIB smB hulB e3B frB
            have keep : ∀ HE cc, cc ≤ c' + 2 → Tn K HE a t ns cc → HE lm = some (.lst us') → HE li = some (.lst vs) → PdAt HE us' mine' → PdAt HE vs its → (∀ b o, H7 b = some o → b ≠ t → b ≠ lm → b ≠ li → HE b = some o) → iv_lp2 K H7 a t L D lm li ns (c2 + xs.length) all (i + 1) [some (V.ref a), some (V.ref t), some (V.ref L), some (V.ref D), some (V.ref lm), some (V.ref li), some (V.int night), some (V.ref d1), some (V.int way), none] HE := fun HE cc hcc TE h1 h2 h3 h4 h5 =>
              ⟨_, _, _, cc, us', vs, mine', its, rfl, by omega, TE, h1, h2, h3, h4, smB, by rw [htk]; exact si.trans (List.sublist_append_left _ _), hulB, by omega, h5⟩
            have put : ∀ HE cc, cc ≤ c' + 2 → Tn K HE a t ns cc → HE lm = some (.lst us') → HE li = some (.lst vs) → PdAt HE us' mine' → PdAt HE vs its → HE d1 = some (.dK (kvsT t1)) → (∀ b o, H7 b = some o → b ≠ t → b ≠ lm → b ≠ li → HE b = some o) →
                (tyV K "list" (V.ref li) HE ∧ ∀ p, HE p = none → rAppend (V.ref li) [V.ref p] (upd HE p (HO.tup [V.int night, V.ref d1])) fun x H1 => iv_lp2 K H7 a t L D lm li ns (c2 + xs.length) all (i + 1) [some (V.ref a), some (V.ref t), some (V.ref L), some (V.ref D), some (V.ref lm), some (V.ref li), some (V.int night), some (V.ref d1), some (V.int way), none] H1) := by
              intro HE cc hcc TE h1 h2 h3 h4 h6 h5
              refine ⟨tyL h2, ?_⟩
              intro t2 n_t2
              generalize hG_ : upd _ t2 _ = HC
              obtain ⟨sC, ht2⟩ := newF n_t2 hG_
              clear hG_
              have hliC := sC _ _ h2
              refine appR hliC (by omega) ?_
              generalize hG : upd HC li _ = HD
              have bD : But li HC HD := by rw [← hG]; exact But.upd
              have hliD : HD li = some (.lst (vs ++ [.ref t2])) := by rw [← hG]; exact upd_same
              have TD : Tn K HD a t ns cc := by rw [← hG]; exact ((TE.same sC).app T5 (s6.free n_li) hlit)
              clear hG
              exact ⟨_, _, _, cc, us', vs ++ [.ref t2], mine', its ++ [(night, t1)], rfl, by omega, TD, bD _ _ (sC _ _ h1) hmi, hliD, (h3.same sC).but bD hliC, ((h4.same sC).app (PdAt.one ht2 (sC _ _ h6))).but bD hliC, smB, by rw [htk]; exact si.append (List.Sublist.refl _), hulB, by rw [List.length_append]; simp only [List.length_cons, List.length_nil]; omega, fun b o h n1 n2 n3 => bD _ _ (sC _ _ (h5 b o h n1 n2 n3)) n3⟩
            walk_at "ru"
            subst hK_
            first | with_reducible refine seq_k fun K_ hK_ => ?_ | skip
            walk_at "ru"
            by_cases w0' : way = 0
            · rw [if_pos w0']
              exact put HB (c' + 1) (by omega) TB hlmB hliB hMB hIB e3B frB
            · rw [if_neg w0']
              by_cases w3 : way = 3
              · rw [if_pos w3]
                refine ⟨a, t, ns, _, 2, rfl, TB, by omega, by omega, by omega, fun dd HE d0 d1' TE bE => ?_⟩
                obtain ⟨zB, hzB⟩ := TB.lst
                have k1 := bE _ _ hlmB hlmt
                have k2 := bE _ _ hliB hlit
                have k3 := hMB.but bE hzB
                have k4 := hIB.but bE hzB
                have k5 : ∀ b o, H7 b = some o → b ≠ t → b ≠ lm → b ≠ li → HE b = some o := fun b o h n1 n2 n3 => bE _ _ (frB b o h n1 n2 n3) n1
                have k6 := bE _ _ e3B (ne_of e3B hzB (by intro z; cases z))
                walk_at "ru"
                by_cases cd : dd = 0
                · rw [if_pos cd]
                  exact put HE (c' + 1 + 1) (by omega) TE k1 k2 k3 k4 k6 k5
                · rw [if_neg cd]
                  exact keep HE (c' + 1 + 1) (by omega) TE k1 k2 k3 k4 k5
              · rw [if_neg w3]
                exact keep HB (c' + 1) (by omega) TB hlmB hliB hMB hIB frB
          by_cases cw : 0 < way
          · rw [if_pos cw]
            refine ⟨tyL hlmA, ?_⟩
            intro t2 n_t2
            generalize hG_ : upd _ t2 _ = HC
            obtain ⟨sC, ht2⟩ := newF n_t2 hG_
            clear hG_
            have hlmC := sC _ _ hlmA
            refine appR hlmC (by omega) ?_
            generalize hG : upd HC lm _ = HD
            have bD : But lm HC HD := by rw [← hG]; exact But.upd
            have hlmD : HD lm = some (.lst (us ++ [.ref t2])) := by rw [← hG]; exact upd_same
            have TD : Tn K HD a t ns (c' + 1) := by rw [← hG]; exact ((TA.same sC).app T5 n_lm hlmt)
            clear hG
            refine fin HD (us ++ [.ref t2]) (mine ++ [(night, t1)]) TD hlmD (bD _ _ (sC _ _ hliA) hmi.symm) (((hMA.same sC).app (PdAt.one ht2 (sC _ _ e3A))).but bD hlmC) ((hIA.same sC).but bD hlmC) (by rw [htk]; exact sm.append (List.Sublist.refl _)) (by rw [List.length_append]; simp only [List.length_cons, List.length_nil]; omega) (bD _ _ (sC _ _ e3A) (ne_of (sC _ _ e3A) hlmC (by intro z; cases z))) (fun b o h n1 n2 n3 => bD _ _ (sC _ _ (frA b o h n1 n2 n3)) n2)
          · rw [if_neg cw]
            exact fin HA us mine TA hlmA hliA hMA hIA (by rw [htk]; exact sm.trans (List.sublist_append_left _ _)) (by omega) e3A frA
      · obtain ⟨y6, y7, y8, c', us, vs, mine, its, rfl, hc', T8, hlm8, hli8, hM8, hI8, sm, si, hul, hvl, fr⟩ := iv
        have hal : all.length = xs.length := by rw [hall, List.length_zip]; omega
        rw [← hal, List.take_length] at sm si
        walk_at "ru"
        subst hK_
        first | with_reducible refine seq_k fun K_ hK_ => ?_ | skip
        walk_at "ru"
        intro r n_r
        generalize hG_ : upd _ r _ = H9
        obtain ⟨s9, hr9⟩ := newF n_r hG_
        clear hG_
        refine q r lm li us vs mine its all c' H9 hr9 (s9 _ _ hlm8) (s9 _ _ hli8) hlmt hlit (hM8.same s9) (hI8.same s9) ⟨sm, si, ?_, ?_⟩ (T8.same s9) ?_
        · have hget : ∀ (j : Nat) (p : Int × Tb), all[j]? = some p → 3 * (j : Int) ≤ p.1 ∧ p.1 < 3 * j + 3 := fun j p hp => by
            rw [hall] at hp
            have := List.getElem?_zip_eq_some.mp hp
            exact hds j p.1 this.1
          refine ⟨by omega, fun p hp => ?_, ?_⟩
          · obtain ⟨j, hj⟩ := List.getElem?_of_mem hp
            have h1 := hget j p hj
            have h2 := lt_of_get hj
            omega
          · refine List.pairwise_iff_getElem.mpr fun i j hi hj hij => ?_
            have h1 := hget i _ (List.getElem?_eq_getElem hi)
            have h2 := hget j _ (List.getElem?_eq_getElem hj)
            omega
        · intro p hp
          rw [hall] at hp
          exact gd2 p.2 (List.of_mem_zip hp).2
        · intro b o h n
          have h3 := b3 b o h n
          have h5 := b5 b o h3 n
          have h7 := s57 _ _ h5
          exact s9 _ _ (fr b o h7 n (ne_of_none h5 n_lm) (ne_of_none (s6 _ _ h5) n_li))
end
end Nk
namespace Nk
open PySem L2
section
variable {P : Program} {w : World} {K : PySem.W.Frag} {mg : Str → Option Value} {base : Heap}
/-- ties stand -/
def TiesAt (H : Hp) : List V → List Tie → Prop
  | [], [] => True
  | x :: xs, e :: es => (∃ q, x = .ref q ∧ H q = some (.tup [.int (e.1 : Nat), .int (e.2.1 : Nat), .int (e.2.2 : Nat)])) ∧ TiesAt H xs es
  | _, _ => False
theorem TiesAt.tups {H H' : Hp} (h : ∀ b xs, H b = some (.tup xs) → H' b = some (.tup xs)) : ∀ {xs : List V} {es : List Tie}, TiesAt H xs es → TiesAt H' xs es
  | [], [], _ => trivial
  | x :: xs, r :: rs, ⟨⟨q, e, hq⟩, t⟩ => ⟨⟨q, e, h _ _ hq⟩, TiesAt.tups h t⟩
theorem TiesAt.same {H H' : Hp} (s : Same H H') {xs : List V} {es : List Tie} (h : TiesAt H xs es) : TiesAt H' xs es := h.tups fun _ _ e => s _ _ e
theorem TiesAt.len {H : Hp} : ∀ {xs : List V} {es : List Tie}, TiesAt H xs es → xs.length = es.length
  | [], [], _ => rfl
  | x :: xs, r :: rs, ⟨_, t⟩ => by simp [TiesAt.len t]
theorem TiesAt.app {H : Hp} : ∀ {xs ys : List V} {ps qs : List Tie}, TiesAt H xs ps → TiesAt H ys qs → TiesAt H (xs ++ ys) (ps ++ qs)
  | [], _, [], _, _, h => h
  | x :: xs, _, p :: ps, _, ⟨a, r⟩, h => ⟨a, TiesAt.app r h⟩
theorem TiesAt.one {H : Hp} {q : Addr} {e : Tie} (h : H q = some (.tup [.int (e.1 : Nat), .int (e.2.1 : Nat), .int (e.2.2 : Nat)])) : TiesAt H [.ref q] [e] := ⟨⟨q, rfl, h⟩, trivial⟩
theorem TiesAt.get {H : Hp} : ∀ {xs : List V} {es : List Tie}, TiesAt H xs es → ∀ {i : Nat} {x : V}, xs[i]? = some x → ∃ e q, es[i]? = some e ∧ x = .ref q ∧ H q = some (.tup [.int (e.1 : Nat), .int (e.2.1 : Nat), .int (e.2.2 : Nat)])
  | x :: xs, p :: ps, ⟨⟨q, e, hq⟩, r⟩, 0, y, hy => by
    cases hy
    exact ⟨p, q, rfl, e, hq⟩
  | x :: xs, p :: ps, ⟨_, r⟩, i + 1, y, hy => TiesAt.get r hy
  | [], [], _, i, y, hy => by simp at hy
/-- turned about -/
theorem TiesAt.perm {H : Hp} {xs ys : List V} (p : ys.Perm xs) : ∀ {es : List Tie}, TiesAt H xs es → ∃ fs, TiesAt H ys fs ∧ fs.Perm es := by
  induction p with
  | nil => intro es h; exact ⟨es, h, List.Perm.refl _⟩
  | @cons x l1 l2 _ ih =>
    intro es h
    cases es with
    | nil => exact h.elim
    | cons e es =>
      obtain ⟨a, r⟩ := h
      obtain ⟨fs, h1, h2⟩ := ih r
      exact ⟨e :: fs, ⟨a, h1⟩, h2.cons e⟩
  | @swap x y l =>
    intro es h
    match es, h with
    | e1 :: e2 :: es, ⟨a, b, r⟩ => exact ⟨e2 :: e1 :: es, ⟨b, a, r⟩, List.Perm.swap _ _ _⟩
  | @trans l1 l2 l3 _ _ ih1 ih2 =>
    intro es h
    obtain ⟨fs, h1, h2⟩ := ih2 h
    obtain ⟨gs, h3, h4⟩ := ih1 h1
    exact ⟨gs, h3, h4.trans h2⟩
theorem code3 (x y z : Int) : TS.code 64 [x, y, z] = x * 4096 + y * 64 + z := by
  have e2 : (64 : Int) ^ 2 = 4096 := by decide
  have e1 : (64 : Int) ^ 1 = 64 := by decide
  have e0 : (64 : Int) ^ 0 = 1 := by decide
  show x * 64 ^ 2 + (y * 64 ^ 1 + (z * 64 ^ 0 + 0)) = _
  rw [e2, e1, e0]
  omega
def iv_lt1 (H0 : Hp) (D : Addr) (ps qs : Pl) (i : Nat) (H : Hp) : Prop := Same H0 H ∧ ∃ zs, H D = some (.lst zs) ∧ PdAt H zs ((ps.take i).filter fun p => decide (¬ p.1 ∈ qs.map (·.1)))
theorem min_bb {t : Tb} {ps : Pl} {m : Int} (h1 : m ∈ (t.length : Int) :: ps.map fun p => ((dist p.2 t : Nat) : Int)) (h2 : ∀ y ∈ (t.length : Int) :: ps.map (fun p => ((dist p.2 t : Nat) : Int)), m ≤ y) : m = ((bestB t ps).1 : Nat) := by
  obtain ⟨a1, a2, a3⟩ := bb_spec t ps
  have low : ((bestB t ps).1 : Int) ≤ m := by
    rcases List.mem_cons.mp h1 with rfl | h1
    · omega
    · obtain ⟨p, hp, rfl⟩ := List.mem_map.mp h1
      have := a2 p hp
      omega
  have up : m ≤ ((bestB t ps).1 : Nat) := by
    rcases a3 with a3 | ⟨p, hp, a3⟩
    · rw [a3]; exact h2 _ List.mem_cons_self
    · rw [a3]; exact h2 _ (List.mem_cons_of_mem _ (List.mem_map.mpr ⟨p, hp, rfl⟩))
  omega
def iv_lt2 (H0 : Hp) (lm li D D2 ti : Addr) (l0 its : Pl) (i : Nat) (σ : L2.St) (H : Hp) : Prop := ∃ y5 y6 y7 y8 ws, σ = [some (.ref lm), some (.ref li), some (.ref D), some (.ref D2), some (.ref ti), y5, y6, y7, y8, none, none, none, none, none, none, none] ∧ Same H0 H ∧ H ti = some (.lst ws) ∧ TiesAt H ws (tiesF l0 its i)
def iv_lt3 (H0 : Hp) (lm li D D2 ti d1 : Addr) (nt : Int) (l0 its : Pl) (k : Nat) (j : Nat) (σ : L2.St) (H : Hp) : Prop := ∃ y8 ws, σ = [some (.ref lm), some (.ref li), some (.ref D), some (.ref D2), some (.ref ti), some (.int (k : Nat)), some (.int nt), some (.ref d1), y8, none, none, none, none, none, none, none] ∧ Same H0 H ∧ H ti = some (.lst ws) ∧ TiesAt H ws (tiesF l0 its k ++ (wtS l0 its l0.length k, k, l0.length) :: (List.range j).map fun j => (wtS l0 its j k, j, k))
theorem rgV_nat (n : Nat) : rgV 0 ((n : Int) + 1) = (List.range (n + 1)).map fun k => V.int ((k : Nat) : Int) := by
  unfold rgV
  rw [show ((n : Int) + 1 - 0).toNat = n + 1 by omega]
  refine List.map_congr_left fun k _ => ?_
  rw [Int.zero_add]
theorem wt_le {l0 its : Pl} (h : ∀ p ∈ l0, OkT p.2 ∧ p.2.length ≤ 20) (i j : Nat) : wtS l0 its i j ≤ 40 := by
  have g : ∀ i, OkT (gP l0 i).2 ∧ (gP l0 i).2.length ≤ 20 := fun i => by
    unfold gP
    rw [List.getD_eq_getElem?_getD]
    cases e : l0[i]? with
    | none => exact ⟨OkT.nil, by simp⟩
    | some t => exact h t (mem_of_get e)
  unfold wtS
  split
  · have := (bb_spec (gP l0 j).2 its).1
    have := (g j).2
    omega
  · split
    · have := (bb_spec (gP l0 i).2 its).1
      have := (g i).2
      omega
    · exact (part_good (g i).1 (g j).1 (g i).2 (g j).2).len
theorem ties_small {l0 its : Pl} (h : ∀ p ∈ l0, OkT p.2 ∧ p.2.length ≤ 20) (h8 : l0.length ≤ 8) : ∀ e ∈ tiesF l0 its l0.length, e.1 ≤ 40 ∧ e.2.1 ≤ 8 ∧ e.2.2 ≤ 8 := fun e he => by
  obtain ⟨k, hk, he⟩ := List.mem_flatMap.mp he
  have hk := List.mem_range.mp hk
  rcases List.mem_cons.mp he with rfl | he
  · exact ⟨wt_le h _ _, by show k ≤ 8; omega, h8⟩
  · obtain ⟨j, hj, rfl⟩ := List.mem_map.mp he
    have hj := List.mem_range.mp hj
    exact ⟨wt_le h _ _, by show j ≤ 8; omega, by show k ≤ 8; omega⟩
def iv_lt4 (H0 : Hp) (lm li D D2 ti : Addr) (y5 y6 y7 y8 : Option V) (n : Nat) (es : List Tie) (i : Nat) (σ : L2.St) (H : Hp) : Prop := ∃ gr z11 z12 z13 z14, σ = [some (.ref lm), some (.ref li), some (.ref D), some (.ref D2), some (.ref ti), y5, y6, y7, y8, some (.ref gr), some (.int (((tookL (List.range (n + 1)) (es.take i)).sum : Nat) : Int)), z11, z12, z13, z14, none] ∧ Same H0 H ∧ H gr = some (.lst ((joinAll (List.range (n + 1)) (es.take i)).map fun k => V.int ((k : Nat) : Int)))
abbrev nm__law_least_ties : List Str := ["mine", "its", "there", "left", "ties", "k", "night", "table", "j", "group", "found", "size", "one", "other", "gone", "here"]
abbrev pm__law_least_ties : List Str := ["mine", "its"]
abbrev lv__law_least_ties : Nat := 2
theorem sc__law_least_ties : FnScope nm__law_least_ties pm__law_least_ties (defScope s__law_least_ties) := ⟨rfl, rfl, rfl, by decide +kernel, rfl, by decide +kernel, by decide +kernel⟩
def sp__law_least_ties : Sp := fun vs H Q _ => ∃ (lm li : Addr) (xs ys : List V) (mine its : Pl), vs = [.ref lm, .ref li] ∧ H lm = some (.lst xs) ∧ H li = some (.lst ys) ∧ PdAt H xs mine ∧ PdAt H ys its ∧ (∀ p ∈ mine, OkT p.2 ∧ p.2.length ≤ 20) ∧ (∀ p ∈ its, OkT p.2 ∧ p.2.length ≤ 20) ∧ mine.length ≤ 8 ∧ its.length ≤ 8 ∧
  ∀ es H', Same H H' → Net (wtS (lackS mine its) its) (lackS mine its).length es → Q (.int (((tookL (List.range ((lackS mine its).length + 1)) es).sum : Nat) : Int)) H'
theorem f__law_least_ties (T : Txt K mg) : Fk P w K mg base CX0 lv__law_least_ties "_law_least_ties" pm__law_least_ties sp__law_least_ties := by
  obtain ⟨f, fd, F, g, b⟩ := T.d__law_least_ties.ex
  refine ⟨f, fd, g, F.kp, b, F.ok sc__law_least_ties (fun vs H Q E h => ?_) (fun cdv A outer s H vs Q E hr h => ?_)⟩
  · obtain ⟨lm, li, xs, ys, mine, its, rfl, _⟩ := h; rfl
  · obtain ⟨lm, li, xs, ys, mine, its, rfl, hm, hli, hM, hI, okm, oki, m8, i8, q⟩ := h
    refine ⟨_, (pss_cons (ps_set (i := 2) sc__law_least_ties.nd rfl (.inr rfl) (pe_lc (own := [("night", 6), ("table", 7)]) (g := gTup K 2 (gCons (gName 6) (gCons (gName 7) (gNil)))) (tt := tYes) (by rfl) sc__law_least_ties.nd (pi_list (pv 1)) (blkOk_by (own := [("night", 6), ("table", 7)]) (N := nm__law_least_ties) (sc := defScope s__law_least_ties) (by decide +kernel)) (fun _ _ _ _ _ => (pg_tupK K rfl rfl (pgs_cons (pg_name (i := 6) sc__law_least_ties.nd rfl (Or.inl rfl)) (pgs_cons (pg_name (i := 7) sc__law_least_ties.nd rfl (Or.inl rfl)) pgs_nil)))) (fun _ _ _ _ _ => pts_nil) (fun _ _ _ _ _ => (pv 6))))
      (pss_cons (ps_setLc (own := [("one", 12)]) (g := gName 12) (i := 3) (by rfl) sc__law_least_ties.nd rfl rfl (sw_true rfl rfl rfl (by decide +kernel)) (pi_list (pv 0)) (blkOk_by (own := [("one", 12)]) (N := nm__law_least_ties) (sc := defScope s__law_least_ties) (by decide +kernel)) (fun _ _ _ _ _ => (pg_name (i := 12) sc__law_least_ties.nd rfl (Or.inl rfl))) (fun _ _ _ _ _ => (pts_one (pt_cmpR (op_notInK K rfl) (pe_ix (ix_tupK K rfl) (pv 12) pe_int (fun _ _ => rfl)) (pv 2) (by rfl)))) (fun _ _ _ _ _ => (pv 12)))
      (pss_cons (ps_set (i := 4) sc__law_least_ties.nd rfl (.inl rfl) (pe_lst pa_nil))
      (pss_cons (ps_for PassesOwn.never rfl (pi_enum (by rfl) T.b_enumerate (pa_cons (pv 3) pa_nil)) (pg_tup rfl (pgs_cons (pg_name (i := 5) sc__law_least_ties.nd rfl (Or.inl rfl)) (pgs_cons (pg_tup rfl (pgs_cons (pg_name (i := 6) sc__law_least_ties.nd rfl (Or.inl rfl)) (pgs_cons (pg_name (i := 7) sc__law_least_ties.nd rfl (Or.inr rfl)) pgs_nil))) pgs_nil))) (pss_cons (ps_expr (pe_bm PySem.F.plainAttrs_list PySem.F.slot_list_append PySem.F.type_list_append mt_append (pv 4) (pa_cons (pe_tup (pa_cons (pe_callB (cr_min rfl) (by rfl) T.b_min (by decide +kernel) (pa_cons (pe_op op_cat (pe_lst (pa_cons (pe_callB call_lenD (by rfl) T.b_len PySem.boot_len (pa_cons (pv 7) pa_nil)) pa_nil)) (pe_lc (own := [("one", 12), ("other", 13)]) (g := gTup K 2 (gCons (gName 12) (gCons (gName 13) (gNil)))) (tt := tYes) (by rfl) sc__law_least_ties.nd (pi_list (pv 1)) (blkOk_by (own := [("one", 12), ("other", 13)]) (N := nm__law_least_ties) (sc := defScope s__law_least_ties) (by decide +kernel)) (fun _ _ _ _ _ => (pg_tupK K rfl rfl (pgs_cons (pg_name (i := 12) sc__law_least_ties.nd rfl (Or.inl rfl)) (pgs_cons (pg_name (i := 13) sc__law_least_ties.nd rfl (Or.inl rfl)) pgs_nil)))) (fun _ _ _ _ _ => pts_nil) (fun _ _ _ _ _ => (pe_callB (call_lenK K rfl) (by rfl) T.b_len PySem.boot_len (pa_cons (pe_fn (f__law_unlike T) (hr.mono (by decide)) (by rfl) pass0 (pa_cons (pv 13) (pa_cons (pv 7) pa_nil))) pa_nil))))) pa_nil)) (pa_cons (pv 5) (pa_cons (pe_callB call_len_seq (by rfl) T.b_len PySem.boot_len (pa_cons (pv 3) pa_nil)) pa_nil)))) pa_nil)))
      (pss_one (ps_for PassesOwn.never rfl (pi_range1 (by rfl) T.b_range (pa_cons (pv 5) pa_nil)) (pg_name (i := 8) sc__law_least_ties.nd rfl (Or.inl rfl)) (pss_one (ps_expr (pe_bm PySem.F.plainAttrs_list PySem.F.slot_list_append PySem.F.type_list_append mt_append (pv 4) (pa_cons (pe_tup (pa_cons (pe_callB call_len_seq (by rfl) T.b_len PySem.boot_len (pa_cons (pe_fn (f__law_unlike T) (hr.mono (by decide)) (by rfl) pass0 (pa_cons (pe_ix ix_tup (pe_ix ix_list (pv 3) (pv 8) (fun _ _ => rfl)) pe_int (fun _ _ => rfl)) (pa_cons (pv 7) pa_nil))) pa_nil)) (pa_cons (pv 8) (pa_cons (pv 5) pa_nil)))) pa_nil))))))))
      (pss_cons (ps_set (i := 9) sc__law_least_ties.nd rfl (.inr rfl) (pe_listRg rfl (by rfl) T.b_list (prg_1 (by rfl) T.b_range (pe_op op_add (pe_callB call_len_seq (by rfl) T.b_len PySem.boot_len (pa_cons (pv 3) pa_nil)) pe_int))))
      (pss_cons (ps_set (i := 10) sc__law_least_ties.nd rfl (.inl rfl) pe_int)
      (pss_cons (ps_for PassesOwn.never rfl (pi_list (pe_callB (cr_sortT (d := 3) (B := 64) (by decide)) (by rfl) T.b_sorted (by decide +kernel) (pa_cons (pv 4) pa_nil))) (pg_tup rfl (pgs_cons (pg_name (i := 11) sc__law_least_ties.nd rfl (Or.inl rfl)) (pgs_cons (pg_name (i := 12) sc__law_least_ties.nd rfl (Or.inr rfl)) (pgs_cons (pg_name (i := 13) sc__law_least_ties.nd rfl (Or.inl rfl)) pgs_nil)))) (pss_one (ps_if (pt_cmpR op_ne (pe_ix ix_list (pv 9) (pv 12) (fun _ _ => rfl)) (pe_ix ix_list (pv 9) (pv 13) (fun _ _ => rfl)) (nomark _)) (pss_cons (ps_set (i := 10) sc__law_least_ties.nd rfl (.inl rfl) (pe_op op_add (pv 10) (pv 11)))
      (pss_cons (ps_set (i := 14) sc__law_least_ties.nd rfl (.inr rfl) (pe_ix ix_list (pv 9) (pv 13) (fun _ _ => rfl)))
      (pss_one (ps_set (i := 9) sc__law_least_ties.nd rfl (.inr rfl) (pe_lc (own := [("here", 15)]) (g := gName 15) (tt := tYes) (by rfl) sc__law_least_ties.nd (pi_list (pv 9)) (blkOk_by (own := [("here", 15)]) (N := nm__law_least_ties) (sc := defScope s__law_least_ties) (by decide +kernel)) (fun _ _ _ _ _ => (pg_name (i := 15) sc__law_least_ties.nd rfl (Or.inl rfl))) (fun _ _ _ _ _ => pts_nil) (fun _ _ _ _ _ => (pe_ifExp (pt_cmpR op_eq (pv 15) (pv 14) (nomark _)) (pe_ix (ix_listK K rfl) (pv 9) (pv 12) (fun _ _ => rfl)) (pv 15)))))))) pss_nil)))
      (pss_one (ps_ret (pv 10)))))))))), ?_⟩
    have hxl := hM.len
    have hyl := hI.len
    with_reducible refine seq_k fun K_ hK_ => ?_
    walk_at "ru"
    refine ⟨⟨_, sqL hli⟩, fun D hD => ?_⟩
    refine lcL hD (sqL hli) (fun i => (its.take i).map fun p => V.int p.1) rfl (fun i x H4 hx p => ?_) (fun H4 s4 hD4 => ?_)
    · obtain ⟨p2, q2, k2, f1, rfl, f3, f4⟩ := (hI.same p.same).get hx
      refine ⟨q2, _, rfl, sqT f3, rfl, ?_⟩
      walk_at "ru"
      exact p.push hD (by simp; omega) (Same.refl _) (map_take_next _ f1)
    · rw [hyl, List.take_length] at hD4
      have hm4 := s4 _ _ hm
      have hM4 := hM.same s4
      walk_at "ru"
      subst hK_
      first | with_reducible refine seq_k fun K_ hK_ => ?_ | skip
      walk_at "ru"
      refine ⟨⟨_, sqL hm4⟩, fun D2 hD2 => ?_⟩
      refine lc_list (K := K) (a := lm) (xs := xs) (iv_lt1 H4 D2 mine its) ⟨same_upd hD2, [], upd_same, by simp [PdAt]⟩ (fun i H5 _ p => sqL (p.1 _ _ hm4)) (fun i x H5 hx pv => ?_) fun H5 pv => ?_
      · obtain ⟨s5, zs, hD5, hP5⟩ := pv
        obtain ⟨p, q1, k1, e1, rfl, e3, e4⟩ := (hM4.same s5).get hx
        have hft := filter_take_next (fun p : Int × Tb => decide (¬ p.1 ∈ its.map (·.1))) e1
        walk_at "ru"
        refine ixT (j := 0) (sqT e3) rfl rfl ?_
        have hD5' : H5 D = some (.lst ((its.map (·.1)).map V.int)) := by rw [s5 _ _ hD4, List.map_map]; rfl
        refine ⟨D, _, rfl, .inl (sqL hD5'), rfl, by simp [flatV], _, rfl, ?_⟩
        rw [if_pos rfl, inV_ints, ← decide_not]
        have hzl := hP5.len
        have hfl := filter_len mine (fun p : Int × Tb => decide (¬ p.1 ∈ its.map (·.1))) i
        by_cases c : ¬ p.1 ∈ its.map (·.1)
        · rw [if_pos (decide_eq_true c)]
          rw [if_pos (decide_eq_true c)] at hft
          refine ⟨zs, hD5, szl (by omega), Same.app s5 hD2, zs ++ [.ref q1], upd_same, ?_⟩
          rw [hft]
          exact (hP5.app (PdAt.one e3 e4)).but But.upd hD5
        · rw [if_neg (by simpa using c)]
          rw [if_neg (by simpa using c), List.append_nil] at hft
          exact ⟨s5, zs, hD5, by rw [hft]; exact hP5⟩
      · obtain ⟨s5, zs, hD5, hP5⟩ := pv
        rw [hxl, List.take_length] at hP5
        have s05 := s4.trans s5
        walk_at "ru"
        subst hK_
        first | with_reducible refine seq_k fun K_ hK_ => ?_ | skip
        walk_at "ru"
        intro ti n_ti
        generalize hG_ : upd _ ti _ = H6
        obtain ⟨s6, hti⟩ := newF n_ti hG_
        clear hG_
        walk_at "ru"
        subst hK_
        first | with_reducible refine seq_k fun K_ hK_ => ?_ | skip
        walk_at "ru"
        have hzl : zs.length = (lackS mine its).length := hP5.len
        have hl8 : (lackS mine its).length ≤ 8 := Nat.le_trans (List.length_filter_le _ _) m8
        have ok0 : ∀ p ∈ lackS mine its, OkT p.2 ∧ p.2.length ≤ 20 := fun p hp => okm p (List.mem_filter.mp hp).1
        have hP5 : PdAt H5 zs (lackS mine its) := hP5
        refine ⟨_, sqL (s6 _ _ hD5), ?_⟩
        refine for_it (walk_enum (xs := zs)) (iv_lt2 H5 lm li D D2 ti (lackS mine its) its) ⟨_, _, _, _, [], rfl, s6, hti, trivial⟩ (fun i σ H2 _ iv => ?_) (fun i y σ H7 H8 hi iv hy => ?_) (fun σ H7 iv => ?_)
        · obtain ⟨_, _, _, _, _, _, s7, _⟩ := iv
          exact sqL (s7 _ _ hD5)
        · obtain ⟨y5, y6, y7, y8, ws, rfl, s7, hti7, hT7⟩ := iv
          obtain ⟨tt, u, v, rfl, htt, rfl, hu1, hv1⟩ := hy
          cases hu1
          have hv1 : zs[i]? = some v := hv1
          obtain ⟨p, q1, d1, e1, rfl, e3, e4⟩ := hP5.get hv1
          have okp := ok0 p (mem_of_get e1)
          have hgp : gP (lackS mine its) i = p := by unfold gP; rw [List.getD_eq_getElem?_getD, e1]; rfl
          have s8 : Same H7 (upd H7 tt (.tup [.int (i : Nat), .ref q1])) := same_upd htt
          have hs8 : SqT K (upd H7 tt (.tup [.int (i : Nat), .ref q1])) tt [.int (i : Nat), .ref q1] := sqT upd_same
          revert s8 hs8
          generalize upd H7 tt (.tup [.int (i : Nat), .ref q1]) = H8
          intro s8 hs8
          have s58 := s7.trans s8
          refine ⟨tt, _, rfl, hs8, rfl, ?_⟩
          walk_at "ru"
          refine ⟨q1, _, rfl, sqT (s58 _ _ e3), rfl, ?_⟩
          have hti8 := s8 _ _ hti7
          have hi8' : H8 li = some (.lst ys) := (s05.trans s58) _ _ hli
          have hI8 : PdAt H8 ys its := hI.same (s05.trans s58)
          have e48 := s58 _ _ e4
          walk_at "ru"
          with_reducible refine seq_k fun K_ hK_ => ?_
          walk_at "ru"
          refine ⟨tyL hti8, _, e48, ?_⟩
          rw [kvsT_len]
          intro l1 n_l1
          generalize hG_ : upd _ l1 _ = H9
          obtain ⟨s9, hl1⟩ := newF n_l1 hG_
          clear hG_
          have hli9 := s9 _ _ hi8'
          have hI9 := hI8.same s9
          have e49 := s9 _ _ e48
          refine ⟨⟨_, sqL hli9⟩, fun D3 hD3 => ?_⟩
          refine lcL hD3 (sqL hli9) (fun i => (its.take i).map fun o => V.int (((dist o.2 p.2 : Nat) : Int))) rfl (fun i x HA hx pp => ?_) (fun HA sA hD3A => ?_)
          · obtain ⟨o, q2, d2, f1, rfl, f3, f4⟩ := (hI9.same pp.same).get hx
            have oko := oki o (mem_of_get f1)
            refine ⟨q2, _, rfl, sqT f3, rfl, ?_⟩
            walk_at "ru"
            refine ⟨d2, d1, o.2, p.2, rfl, f4, pp.same _ _ e49, oko.1, okp.1, oko.2, okp.2, fun lq HB sB nB hPq => ?_⟩
            obtain ⟨zs2, hz2, hPz2⟩ := hPq
            walk_at "ru"
            refine ⟨_, .inl (sqL hz2), ?_⟩
            rw [hPz2.len]
            exact pp.push hD3 (by simp; omega) sB (map_take_next _ f1)
          · rw [hyl, List.take_length] at hD3A
            have s8A := s9.trans sA
            have hl1A := sA _ _ hl1
            refine ⟨l1, D3, _, _, rfl, rfl, hl1A, hD3A, sz (by simp; omega), ?_⟩
            intro l2 n_l2
            generalize hG_ : upd _ l2 _ = HB
            obtain ⟨sB, hl2⟩ := newF n_l2 hG_
            clear hG_
            have hl2' : HB l2 = some (.lst (((p.2.length : Int) :: its.map fun o => ((dist o.2 p.2 : Nat) : Int)).map V.int)) := by
              rw [hl2, List.map_cons, List.map_map]; rfl
            refine ⟨l2, _, rfl, sqL hl2', by simp, fun mn hm1 hm2 => ?_⟩
            have hmn := min_bb hm1 hm2
            subst hmn
            have s8B := s8A.trans sB
            have s5B := s58.trans s8B
            refine ⟨_, .inl (sqL (s5B _ _ hD5)), ?_⟩
            intro t1 n_t1
            generalize hG_ : upd _ t1 _ = HC
            obtain ⟨sC, ht1⟩ := newF n_t1 hG_
            clear hG_
            have htiC := (s8B.trans sC) _ _ hti8
            have hTC := ((hT7.same s8).same s8B).same sC
            have hwl := hT7.len
            have htl := tiesF_len (lackS mine its) its i
            have hsz : i * (i + 1) ≤ 8 * 9 := Nat.mul_le_mul (by omega) (by omega)
            refine appR htiC (by omega) ?_
            generalize hG : upd HC ti _ = HD
            have bD : But ti HC HD := by rw [← hG]; exact But.upd
            have htiD : HD ti = some (.lst (ws ++ [.ref t1])) := by rw [← hG]; exact upd_same
            clear hG
            have nti : H5 ti = none := n_ti
            have s5D : Same H5 HD := fun z o h => bD _ _ ((s5B.trans sC) _ _ h) (ne_of_none h nti)
            have tupD : ∀ z zs, HC z = some (.tup zs) → HD z = some (.tup zs) := fun z zs h => bD _ _ h (ne_of h htiC (by intro z; cases z))
            have ht1' : HC t1 = some (.tup [.int (wtS (lackS mine its) its (lackS mine its).length i : Nat), .int (i : Nat), .int ((lackS mine its).length : Nat)]) := by
              rw [ht1, wtS_root, hgp, hzl]
            have hTD : TiesAt HD (ws ++ [.ref t1]) (tiesF (lackS mine its) its i ++ [(wtS (lackS mine its) its (lackS mine its).length i, i, (lackS mine its).length)]) := (hTC.app (TiesAt.one ht1')).tups tupD
            walk_at "ru"
            subst hK_
            first | with_reducible refine seq_k fun K_ hK_ => ?_ | skip
            walk_at "ru"
            refine ⟨by omega, by omega, ?_⟩
            refine for_it walk_range (iv_lt3 H5 lm li D D2 ti d1 p.1 (lackS mine its) its i) ⟨_, ws ++ [.ref t1], rfl, s5D, htiD, hTD⟩ (fun _ _ _ _ _ => trivial) (fun j x σ HE HF hj iv hy => ?_) (fun σ HE iv => ?_)
            · obtain ⟨y8', ws2, rfl, sE, htiE, hTE⟩ := iv
              obtain ⟨rfl, rfl⟩ := hy
              simp at hj
              walk_at "ru"
              have hD2E := sE _ _ hD5
              obtain ⟨p2, q2, d2, f1, f2, f3, f4⟩ := (hP5.same sE).get (List.getElem?_eq_getElem (show j < zs.length by omega))
              have okp2 := ok0 p2 (mem_of_get f1)
              have hgp2 : gP (lackS mine its) j = p2 := by unfold gP; rw [List.getD_eq_getElem?_getD, f1]; rfl
              refine ⟨tyL htiE, ?_⟩
              refine ixL (j := j) (sqL hD2E) (by omega) (List.getElem?_eq_getElem (show j < zs.length by omega)) ?_
              rw [f2]
              refine ixT (j := 1) (sqT f3) rfl rfl ?_
              refine ⟨d2, d1, p2.2, p.2, rfl, f4, sE _ _ e4, okp2.1, okp.1, okp2.2, okp.2, fun lq HG sG nG hPq => ?_⟩
              obtain ⟨zs2, hz2, hPz2⟩ := hPq
              walk_at "ru"
              refine ⟨_, .inl (sqL hz2), ?_⟩
              rw [hPz2.len]
              intro t2 n_t2
              generalize hG_ : upd _ t2 _ = HI
              obtain ⟨sI, ht2⟩ := newF n_t2 hG_
              clear hG_
              have sEI := sG.trans sI
              have htiI := sEI _ _ htiE
              have hwl2 := hTE.len
              simp at hwl2
              refine appR htiI (by omega) ?_
              generalize hG : upd HI ti _ = HJ
              have bJ : But ti HI HJ := by rw [← hG]; exact But.upd
              have htiJ : HJ ti = some (.lst (ws2 ++ [.ref t2])) := by rw [← hG]; exact upd_same
              clear hG
              have tupJ : ∀ z zs, HI z = some (.tup zs) → HJ z = some (.tup zs) := fun z zs h => bJ _ _ h (ne_of h htiI (by intro z; cases z))
              have ht2' : HI t2 = some (.tup [.int (wtS (lackS mine its) its j i : Nat), .int (j : Nat), .int (i : Nat)]) := by
                rw [ht2, wtS_two (by omega) (by omega), hgp, hgp2, Int.zero_add]
                rfl
              refine ⟨_, ws2 ++ [.ref t2], rfl, fun z o h => bJ _ _ ((sE.trans sEI) _ _ h) (ne_of_none h nti), htiJ, ?_⟩
              have h3 := ((hTE.same sEI).app (TiesAt.one (e := (wtS (lackS mine its) its j i, j, i)) ht2')).tups tupJ
              rw [List.range_succ, List.map_append]
              simpa using h3
            · obtain ⟨y8', ws2, rfl, sE, htiE, hTE⟩ := iv
              refine ⟨_, _, _, _, ws2, rfl, sE, htiE, ?_⟩
              rw [tiesF_next]
              simpa [tiesK] using hTE
        · obtain ⟨y5, y6, y7, y8, ws, rfl, s7, hti7, hT7⟩ := iv
          rw [hzl] at hT7
          walk_at "ru"
          subst hK_
          first | with_reducible refine seq_k fun K_ hK_ => ?_ | skip
          walk_at "ru"
          refine ⟨_, .inl (sqL (s7 _ _ hD5)), ?_⟩
          rw [hzl, rgV_nat]
          refine ⟨⟨by omega, by omega⟩, ?_⟩
          intro gr n_gr
          generalize hG_ : upd _ gr _ = H8
          obtain ⟨s8, hgr⟩ := newF n_gr hG_
          clear hG_
          walk_at "ru"
          subst hK_
          first | with_reducible refine seq_k fun K_ hK_ => ?_ | skip
          walk_at "ru"
          have s58 := s7.trans s8
          have hti8 := s8 _ _ hti7
          have hT8 := hT7.same s8
          have hwl := hT8.len
          have htl := tiesF_len (lackS mine its) its (lackS mine its).length
          have hsz : (lackS mine its).length * ((lackS mine its).length + 1) ≤ 8 * 9 := Nat.mul_le_mul hl8 (by omega)
          walk_at "ru"
          subst hK_
          first | with_reducible refine seq_k fun K_ hK_ => ?_ | skip
          walk_at "ru"
          refine ⟨ti, ws, rfl, sqL hti8, by omega, fun x hx => ?_, fun ys2 p hperm hpw np => ?_⟩
          · obtain ⟨ix, hix⟩ := List.getElem?_of_mem hx
            obtain ⟨e, qe, e1, rfl, e3⟩ := hT8.get hix
            have hsm := ties_small ok0 hl8 e (mem_of_get e1)
            refine ⟨[(e.1 : Int), (e.2.1 : Int), (e.2.2 : Int)], ⟨qe, rfl, sqT e3⟩, rfl, ?_⟩
            intro z hz
            simp only [List.mem_cons, List.not_mem_nil, or_false] at hz
            omega
          · obtain ⟨es, hE8, hep⟩ := TiesAt.perm hperm hT8
            generalize hG : upd H8 p _ = H9
            obtain ⟨s9, hp9⟩ := newF np hG
            clear hG
            have hsrt : es.Pairwise fun a b => a.1 ≤ b.1 := by
              refine List.pairwise_iff_getElem.mpr fun i j hi hj hij => ?_
              have hyl2 := hE8.len
              have := List.pairwise_iff_getElem.mp hpw i j (by omega) (by omega) hij
              obtain ⟨a, qa, a1, a2, a3⟩ := hE8.get (List.getElem?_eq_getElem (show i < ys2.length by omega))
              obtain ⟨b, qb, b1, b2, b3⟩ := hE8.get (List.getElem?_eq_getElem (show j < ys2.length by omega))
              rw [List.getElem?_eq_getElem hi] at a1
              rw [List.getElem?_eq_getElem hj] at b1
              rw [Option.some.inj a1, Option.some.inj b1]
              have hc := this [(a.1 : Int), (a.2.1 : Int), (a.2.2 : Int)] [(b.1 : Int), (b.2.1 : Int), (b.2.2 : Int)] ⟨qa, a2, sqT a3⟩ ⟨qb, b2, sqT b3⟩
              rw [code3, code3] at hc
              have ha := ties_small ok0 hl8 a (hep.mem_iff.mp (by rw [← Option.some.inj a1]; exact List.getElem_mem hi))
              have hb := ties_small ok0 hl8 b (hep.mem_iff.mp (by rw [← Option.some.inj b1]; exact List.getElem_mem hj))
              omega
            have hnet := ties_net hep hsrt
            have s59 := s58.trans s9
            have hE9 := hE8.same s9
            have hyl2 := hE8.len
            refine ⟨p, rfl, ⟨_, sqL hp9⟩, ?_⟩
            refine for_it (walk_list (xs := ys2)) (iv_lt4 H9 lm li D D2 ti y5 y6 y7 y8 (lackS mine its).length es) ⟨gr, _, _, _, _, rfl, Same.refl _, s9 _ _ hgr⟩ (fun i σ H2 _ iv => ?_) (fun i x σ HA HB hi iv hy => ?_) (fun σ HA iv => ?_)
            · obtain ⟨_, _, _, _, _, _, sA, _⟩ := iv
              exact sqL (sA _ _ hp9)
            · obtain ⟨g2, z11, z12, z13, z14, rfl, sA, hg2⟩ := iv
              obtain ⟨rfl, hy⟩ := hy
              obtain ⟨e, qe, e1, rfl, e3⟩ := (hE9.same sA).get hy
              obtain ⟨tk1, tk2⟩ := took_next (g := List.range ((lackS mine its).length + 1)) e1
              have hgl : (joinAll (List.range ((lackS mine its).length + 1)) (es.take i)).length = (lackS mine its).length + 1 := by rw [joinAll_len, List.length_range]
              obtain ⟨en1, en2, _⟩ := hnet.ends e (mem_of_get e1)
              generalize joinAll (List.range ((lackS mine its).length + 1)) (es.take i) = G at hg2 tk1 tk2 hgl
              refine ⟨qe, _, rfl, sqT e3, rfl, ?_⟩
              have gget : ∀ k, k < (lackS mine its).length + 1 → (G.map fun k => V.int ((k : Nat) : Int))[k]? = some (.int ((G.getD k 0 : Nat) : Int)) := fun k hk => by
                rw [List.getElem?_map, List.getD_eq_getElem?_getD, List.getElem?_eq_getElem (by omega)]; rfl
              walk_at "ru"
              refine ixL (j := e.2.1) (sqL hg2) rfl (gget _ en1) ?_
              refine ixL (j := e.2.2) (sqL hg2) rfl (gget _ en2) ?_
              refine ⟨rfl, ?_⟩
              by_cases c : G.getD e.2.1 0 = G.getD e.2.2 0
              · rw [if_neg (by rw [c]; simp)]
                refine ⟨g2, some (.int (e.1 : Nat)), some (.int (e.2.1 : Nat)), some (.int (e.2.2 : Nat)), z14, ?_, sA, ?_⟩
                · rw [tk1, if_neg (by simpa using c), List.append_nil]
                · rw [tk2, show joinL G e = G from if_neg (by simpa using c)]; exact hg2
              · rw [if_pos (fun z => c (by injection z with z; exact Int.ofNat.inj z))]
                with_reducible refine seq_k fun K_ hK_ => ?_
                walk_at "ru"
                walk_at "ru"
                subst hK_
                first | with_reducible refine seq_k fun K_ hK_ => ?_ | skip
                walk_at "ru"
                refine ixL (j := e.2.2) (sqL hg2) rfl (gget _ en2) ?_
                walk_at "ru"
                subst hK_
                first | with_reducible refine seq_k fun K_ hK_ => ?_ | skip
                walk_at "ru"
                refine ⟨⟨_, sqL hg2⟩, fun D3 hD3 => ?_⟩
                refine lcL hD3 (sqL hg2) (fun i => ((G.take i).map fun k => V.int ((mrg (G.getD e.2.1 0) (G.getD e.2.2 0) k : Nat) : Int))) rfl (fun j y HC hy2 pp => ?_) (fun HC sC hD3C => ?_)
                · rw [List.getElem?_map] at hy2
                  cases ek : G[j]? with
                  | none => rw [ek] at hy2; cases hy2
                  | some kk =>
                    rw [ek] at hy2
                    cases hy2
                    walk_at "ru"
                    have hn := map_take_next (fun k => V.int ((mrg (G.getD e.2.1 0) (G.getD e.2.2 0) k : Nat) : Int)) ek
                    have hjl := lt_of_get ek
                    by_cases c2 : kk = G.getD e.2.2 0
                    · rw [if_pos (by rw [c2])]
                      refine ixL (j := e.2.1) (sqL (pp.same _ _ hg2)) rfl (gget _ en1) ?_
                      refine pp.push hD3 (by simp; omega) (Same.refl _) ?_
                      rw [hn]
                      unfold mrg
                      rw [if_pos c2]
                    · rw [if_neg (by omega)]
                      refine pp.push hD3 (by simp; omega) (Same.refl _) ?_
                      rw [hn]
                      unfold mrg
                      rw [if_neg c2]
                · rw [List.length_map, List.take_length] at hD3C
                  refine ⟨D3, some (.int (e.1 : Nat)), some (.int (e.2.1 : Nat)), some (.int (e.2.2 : Nat)), some (.int (G.getD e.2.2 0 : Nat)), ?_, sA.trans sC, ?_⟩
                  · rw [tk1, if_pos c, List.sum_append]
                    simp
                  · rw [tk2, show joinL G e = G.map (mrg (G.getD e.2.1 0) (G.getD e.2.2 0)) from if_pos c, hD3C, List.map_map]
                    rfl
            · obtain ⟨g2, z11, z12, z13, z14, rfl, sA, hg2⟩ := iv
              rw [hyl2, List.take_length]
              walk_at "ru"
              subst hK_
              first | with_reducible refine seq_k fun K_ hK_ => ?_ | skip
              walk_at "ru"
              exact q es HA (s05.trans (s59.trans sA)) hnet
end
end Nk
namespace Nk
open PySem L2
section
variable {P : Program} {w : World} {K : PySem.W.Frag} {mg : Str → Option Value} {base : Heap}
def iv75s (mg : Str → Option Value) (H0 : Hp) (D : Addr) (ps : Pl) (i : Nat) (H : Hp) : Prop := Same H0 H ∧ ∃ ys, H D = some (.lst ys) ∧ PlAt mg H ys (ps.take i)
theorem GoodPl.sub {ps all : Pl} (h : GoodPl all) (s : ps.Sublist all) : GoodPl ps := ⟨Nat.le_trans s.length_le h.len, fun p hp => h.num p (s.subset hp), List.Pairwise.sublist s h.pw⟩
theorem GoodPl.eq {all : Pl} (h : GoodPl all) {p q : Int × Tb} (hp : p ∈ all) (hq : q ∈ all) (e : p.1 = q.1) : p = q := by
  obtain ⟨i, hi, rfl⟩ := List.getElem_of_mem hp
  obtain ⟨j, hj, rfl⟩ := List.getElem_of_mem hq
  rcases Nat.lt_trichotomy i j with c | c | c
  · have := List.pairwise_iff_getElem.mp h.pw i j hi hj c
    omega
  · subst c; rfl
  · have := List.pairwise_iff_getElem.mp h.pw j i hj hi c
    omega
/-- a dict of nights with tables -/
def KnAt (H : Hp) : List (Key × V) → Pl → Prop
  | [], [] => True
  | kv :: kvs, p :: ps => (∃ d, kv = (Sum.inl p.1, V.ref d) ∧ H d = some (.dK (kvsT p.2))) ∧ KnAt H kvs ps
  | _, _ => False
theorem KnAt.len {H : Hp} : ∀ {xs : List (Key × V)} {ps : Pl}, KnAt H xs ps → xs.length = ps.length
  | [], [], _ => rfl
  | x :: xs, p :: ps, ⟨_, r⟩ => by simp [KnAt.len r]
theorem KnAt.app {H : Hp} : ∀ {xs ys : List (Key × V)} {ps qs : Pl}, KnAt H xs ps → KnAt H ys qs → KnAt H (xs ++ ys) (ps ++ qs)
  | [], _, [], _, _, h => h
  | x :: xs, _, p :: ps, _, ⟨a, r⟩, h => ⟨a, KnAt.app r h⟩
theorem KnAt.keys {H : Hp} : ∀ {xs : List (Key × V)} {ps : Pl}, KnAt H xs ps → xs.map (·.1) = ps.map fun p => (Sum.inl p.1 : Key)
  | [], [], _ => rfl
  | x :: xs, p :: ps, ⟨⟨d, e, _⟩, r⟩ => by simp [KnAt.keys r, e]
theorem KnAt.none {H : Hp} {n : Int} : ∀ {xs : List (Key × V)} {ps : Pl}, KnAt H xs ps → (∀ p ∈ ps, p.1 ≠ n) → valV xs (Sum.inl n) = none
  | [], [], _, _ => rfl
  | x :: xs, p :: ps, ⟨⟨d, e, _⟩, r⟩, h => by
    subst e
    rw [valV_neg (by intro z; exact h p List.mem_cons_self (Sum.inl.inj z))]
    exact KnAt.none r fun q hq => h q (List.mem_cons_of_mem _ hq)
theorem KnAt.some {H : Hp} {n : Int} {t : Tb} : ∀ {xs : List (Key × V)} {ps : Pl}, KnAt H xs ps → (∀ p ∈ ps, p.1 = n → p.2 = t) → (∃ p ∈ ps, p.1 = n) → ∃ d, valV xs (Sum.inl n) = some (.ref d) ∧ H d = some (.dK (kvsT t))
  | [], [], _, _, h => by obtain ⟨p, hp, _⟩ := h; cases hp
  | x :: xs, p :: ps, ⟨⟨d, e, hd⟩, r⟩, h1, h2 => by
    subst e
    by_cases c : p.1 = n
    · exact ⟨d, by rw [valV_pos (by rw [c])], by rw [← h1 p List.mem_cons_self c]; exact hd⟩
    · obtain ⟨d', e1, e2⟩ := KnAt.some r (fun q hq => h1 q (List.mem_cons_of_mem _ hq)) (by
        obtain ⟨q, hq, e⟩ := h2
        rcases List.mem_cons.mp hq with rfl | hq
        · exact absurd e c
        · exact ⟨q, hq, e⟩)
      exact ⟨d', by rw [valV_neg (by intro z; exact c (Sum.inl.inj z))]; exact e1, e2⟩
theorem KnAt.put {H : Hp} {kvs : List (Key × V)} {ps : Pl} {p : Int × Tb} {d : Addr} (h : KnAt H kvs ps) (hn : ∀ q ∈ ps, q.1 ≠ p.1) (hd : H d = Option.some (.dK (kvsT p.2))) : KnAt H (putK kvs (Sum.inl p.1) (.ref d)) (ps ++ [p]) := by
  rw [putK_new _ (h.none hn)]
  exact h.app ⟨⟨d, rfl, hd⟩, trivial⟩
theorem PdAt.dict {H : Hp} : ∀ {xs : List V} {ps : Pl}, PdAt H xs ps → ∃ (qs : List Addr) (kvs : List (Key × V)), xs = qs.map V.ref ∧ Paired (fun p kv => SqT K H p [kV kv.1, kv.2]) qs kvs ∧ KnAt H kvs ps
  | [], [], _ => ⟨[], [], rfl, .nil, trivial⟩
  | x :: xs, p :: ps, ⟨⟨q, d, e, hq, hd⟩, r⟩ => by
    obtain ⟨qs, kvs, e1, e2, e3⟩ := PdAt.dict r
    exact ⟨q :: qs, (Sum.inl p.1, V.ref d) :: kvs, by rw [e, e1]; rfl, .cons (sqT hq) e2, ⟨d, rfl, hd⟩, e3⟩
theorem KnAt.nd {H : Hp} {kvs : List (Key × V)} {ps : Pl} (h : KnAt H kvs ps) (g : GoodPl ps) : mergeK [] kvs = kvs := by
  rw [mergeK_nd, List.nil_append]
  rw [List.nil_append, h.keys]
  refine List.pairwise_map.mpr (List.Pairwise.imp (fun {a b} hab => ?_) g.pw)
  intro z
  have := Sum.inl.inj z
  omega
/-- dict(l) of nights with tables -/
theorem dict_pl {H : Hp} {l : Addr} {xs : List V} {ps : Pl} (hl : H l = some (.lst xs)) (h : PdAt H xs ps) (g : GoodPl ps) :
    ∃ (qs : List Addr) (kvs : List (Key × V)), SqL K H l (qs.map V.ref) ∧ Paired (fun p kv => SqT K H p [kV kv.1, kv.2]) qs kvs ∧ mergeK [] kvs = kvs ∧ KnAt H kvs ps := by
  obtain ⟨qs, kvs, e1, e2, e3⟩ := h.dict (K := K)
  subst e1
  exact ⟨qs, kvs, sqL hl, e2, e3.nd g, e3⟩
theorem natSum_cast : ∀ l : List Nat, ((l.sum : Nat) : Int) = (l.map fun n : Nat => (n : Int)).sum
  | [] => rfl
  | a :: l => by
    rw [List.sum_cons, List.map_cons, List.sum_cons, ← natSum_cast l]
    exact Int.natCast_add _ _
theorem GoodPl.ix {ps : Pl} (g : GoodPl ps) {u v : Nat} (hu : u < ps.length) (hv : v < ps.length) (e : (gP ps u).1 = (gP ps v).1) : u = v := by
  have eu : gP ps u = ps[u] := by unfold gP; rw [List.getD_eq_getElem?_getD, List.getElem?_eq_getElem hu]; rfl
  have ev : gP ps v = ps[v] := by unfold gP; rw [List.getD_eq_getElem?_getD, List.getElem?_eq_getElem hv]; rfl
  rw [eu, ev] at e
  rcases Nat.lt_trichotomy u v with c | c | c
  · have := List.pairwise_iff_getElem.mp g.pw u v hu hv c
    omega
  · exact c
  · have := List.pairwise_iff_getElem.mp g.pw v u hv hu c
    omega
theorem nd_take {cs : List Nat} {i v : Nat} (h : cs.Nodup) (hv : cs[i]? = some v) : v ∉ cs.take i := by
  intro hm
  obtain ⟨j, hj, e⟩ := List.getElem_of_mem hm
  rw [List.length_take] at hj
  rw [List.getElem_take] at e
  obtain ⟨hi, e2⟩ := List.getElem?_eq_some_iff.mp hv
  have := List.pairwise_iff_getElem.mp h j i (by omega) hi (by omega)
  exact this (by rw [e, e2])
theorem sqL_same {H H' : Hp} {a : Addr} {xs : List V} (s : Same H H') (h : SqL K H a xs) : SqL K H' a xs := by
  rcases h with (h | ⟨o, h⟩) | h
  · exact .inl (.inl (s _ _ h))
  · exact .inl (.inr ⟨o, s _ _ h⟩)
  · exact .inr h
theorem paired_same {H H' : Hp} (s : Same H H') {qs : List Addr} {kvs : List (Key × V)} (h : Paired (fun p kv => SqT K H p [kV kv.1, kv.2]) qs kvs) : Paired (fun p kv => SqT K H' p [kV kv.1, kv.2]) qs kvs := by
  induction h with
  | nil => exact .nil
  | cons a _ ih => exact .cons (Same.tup s a) ih
theorem pl_eq {H : Hp} : ∀ {zs xs : List V} {ps : Pl}, PdAt H zs ps → PdAt H xs ps → (∀ p ∈ ps, OkT p.2) → Paired (EqV2 K H 4) zs xs
  | [], [], [], _, _, _ => .nil
  | z :: zs, x :: xs, p :: ps, ⟨⟨q, d, e1, h1, g1⟩, r1⟩, ⟨⟨q', d', e2, h2, g2⟩, r2⟩, ok => by
    refine .cons (.inr (.inr (.inr ⟨q, q', _, _, e1, e2, sqT h1, sqT h2, .cons (.inl ⟨rfl, rfl⟩) (.cons (.inr (.inr (.inl (.inr ⟨d, d', _, _, rfl, rfl, g1, g2, rfl, fun kv hkv => ?_⟩)))) .nil)⟩))) (pl_eq r1 r2 fun t ht => ok t (List.mem_cons_of_mem _ ht))
    obtain ⟨pr, hm, rfl⟩ := List.mem_map.mp hkv
    exact ⟨.int pr.2, by rw [kvsT_val, lk_of (ok p List.mem_cons_self).nd hm]; rfl, .inl ⟨rfl, rfl⟩⟩
  | [], _ :: _, [], _, h, _ => h.elim
  | _ :: _, [], _ :: _, _, h, _ => h.elim
  | [], [], _ :: _, h, _, _ => h.elim
  | [], _ :: _, _ :: _, h, _, _ => h.elim
  | _ :: _, _, [], h, _, _ => h.elim
def iv75p (H0 : Hp) (D : Addr) (ps : Pl) (i : Nat) (H : Hp) : Prop := Same H0 H ∧ ∃ ys, H D = some (.lst ys) ∧ PdAt H ys (ps.take i)
def iv75l (H0 : Hp) (kn : Addr) (σ0 : L2.St) (its : Pl) (l0 : Pl) (cs : List Nat) (i : Nat) (σ : L2.St) (H : Hp) : Prop := ∃ y7 y8 kvs, σ = σ0 ++ [y7, y8, none, none] ∧ Same H0 H ∧ H kn = some (.dK kvs) ∧ KnAt H0 kvs (its ++ (cs.take i).map (gP l0))
abbrev nm_law : List Str := ["script", "town", "mine", "its", "given", "told", "known", "one", "table", "night", "state"]
abbrev pm_law : List Str := ["script"]
abbrev lv_law : Nat := 7
theorem sc_law : FnScope nm_law pm_law (defScope s_law) := ⟨rfl, rfl, rfl, by decide +kernel, rfl, by decide +kernel, by decide +kernel⟩
theorem ok_law {f : Addr} {fd : FuncData} (F : Fun K "law" "law" s_law f fd) (T : Txt K mg) : FnOk P w K mg base CX0 lv_law f fd ["script"] (spLaw K) := by
  refine F.ok sc_law (fun vs H Q E h => ?_) (fun cdv A outer s H vs Q E hr h => ?_)
  · obtain ⟨a, ns, rfl, _⟩ := h; rfl
  · obtain ⟨a, ns, rfl, hS, hl, q⟩ := h
    have hu := hu_of hr
    refine ⟨_, (pss_cons (ps_set (i := 1) sc_law.nd rfl (.inl rfl) (pe_fn (f__law_town T) (hr.mono (by decide)) (by rfl) pass0 (pa_cons (pv 0) pa_nil)))
      (pss_cons (ps_asg (pe_fn (f__law_places T) (hr.mono (by decide)) (by rfl) pass0 (pa_cons (pv 0) (pa_cons (pv 1) pa_nil))) (pg_tup rfl (pgs_cons (pg_name (i := 2) sc_law.nd rfl (Or.inl rfl)) (pgs_cons (pg_name (i := 3) sc_law.nd rfl (Or.inl rfl)) pgs_nil))))
      (pss_cons (ps_set (i := 4) sc_law.nd rfl (.inl rfl) (pe_tup (pa_cons (pe_lc (own := [("night", 9), ("table", 8)]) (g := gTup K 2 (gCons (gName 9) (gCons (gName 8) (gNil)))) (tt := tYes) (by rfl) sc_law.nd (pi_list (pv 2)) (blkOk_by (own := [("night", 9), ("table", 8)]) (N := nm_law) (sc := defScope s_law) (by decide +kernel)) (fun _ _ _ _ _ => (pg_tupK K rfl rfl (pgs_cons (pg_name (i := 9) sc_law.nd rfl (Or.inl rfl)) (pgs_cons (pg_name (i := 8) sc_law.nd rfl (Or.inl rfl)) pgs_nil)))) (fun _ _ _ _ _ => pts_nil) (fun _ _ _ _ _ => (pe_tup (pa_cons (pv 9) (pa_cons (pe_newM mg rfl T.o_State (f_State____init__ T) (hr.mono (by decide)) (by rfl) pass0 (pa_cons (pv 8) pa_nil)) pa_nil))))) (pa_cons (pe_lc (own := [("night", 9), ("table", 8)]) (g := gTup K 2 (gCons (gName 9) (gCons (gName 8) (gNil)))) (tt := tYes) (by rfl) sc_law.nd (pi_list (pv 3)) (blkOk_by (own := [("night", 9), ("table", 8)]) (N := nm_law) (sc := defScope s_law) (by decide +kernel)) (fun _ _ _ _ _ => (pg_tupK K rfl rfl (pgs_cons (pg_name (i := 9) sc_law.nd rfl (Or.inl rfl)) (pgs_cons (pg_name (i := 8) sc_law.nd rfl (Or.inl rfl)) pgs_nil)))) (fun _ _ _ _ _ => pts_nil) (fun _ _ _ _ _ => (pe_tup (pa_cons (pv 9) (pa_cons (pe_newM mg rfl T.o_State (f_State____init__ T) (hr.mono (by decide)) (by rfl) pass0 (pa_cons (pv 8) pa_nil)) pa_nil))))) pa_nil))))
      (pss_cons (ps_set (i := 5) sc_law.nd rfl (.inl rfl) (pe_fn (f_sending T) (hr.mono (by decide)) (by rfl) passL (pa_cons (pe_ix ix_tup (pv 4) pe_int (fun _ _ => rfl)) (pa_cons (pe_ix ix_tup (pv 4) pe_int (fun _ _ => rfl)) pa_nil))))
      (pss_cons (ps_set (i := 6) sc_law.nd rfl (.inr rfl) (pe_callTy (call_dictP rfl) (by rfl) T.b_dict (by decide +kernel) (pa_cons (pv 3) pa_nil)))
      (pss_cons (ps_if (PW.pt (pw_or (pt_not (pt_val (pe_callB call_isi (by rfl) T.b_isinstance (by decide +kernel) (pa_cons (pv 5) (pa_cons (pe_bltn (v := .ty "list") (by rfl) T.b_list (by decide +kernel) rfl) pa_nil))))) (pw_or1 (pt_cmpR op_ne (pe_callB (cr_sum rfl) (by rfl) T.b_sum (by decide +kernel) (pa_cons (pe_lc (own := [("one", 7)]) (g := gName 7) (tt := tYes) (by rfl) sc_law.nd (pi_list (pv 5)) (blkOk_by (own := [("one", 7)]) (N := nm_law) (sc := defScope s_law) (by decide +kernel)) (fun _ _ _ _ _ => (pg_name (i := 7) sc_law.nd rfl (Or.inl rfl))) (fun _ _ _ _ _ => pts_nil) (fun _ _ _ _ _ => (pe_ix (ix_tupK K rfl) (pv 7) pe_int (fun _ _ => rfl)))) pa_nil)) (pe_fn (f__law_least_ties T) (hr.mono (by decide)) (by rfl) pass0 (pa_cons (pv 2) (pa_cons (pv 3) pa_nil))) (nomark _))))) (pss_one (ps_ret pe_bl)) pss_nil)
      (pss_cons (ps_for PassesOwn.never rfl (pi_list (pv 5)) (pg_name (i := 7) sc_law.nd rfl (Or.inl rfl)) (pss_cons (ps_if (PW.pt (pw_or (pt_not (pt_val (pe_callB call_isi (by rfl) T.b_isinstance (by decide +kernel) (pa_cons (pv 7) (pa_cons (pe_bltn (v := .ty "tuple") (by rfl) T.b_tuple (by decide +kernel) rfl) pa_nil))))) (pw_or (pt_not (pt_val (pe_fn (f__law_whole T) (hr.mono (by decide)) (by rfl) pass0 (pa_cons (pe_ix ix_tup (pv 7) pe_int (fun _ _ => rfl)) pa_nil)))) (pw_or (pt_not (pt_val (pe_fn (f__law_whole T) (hr.mono (by decide)) (by rfl) pass0 (pa_cons (pe_ix ix_tup (pv 7) pe_int (fun _ _ => rfl)) pa_nil)))) (pw_or1 (pt_cmp (pc_din hu (pe_ix ix_tup (pv 7) pe_int (fun _ _ => rfl)) (pv 6)))))))) (pss_one (ps_ret pe_bl)) pss_nil)
      (pss_cons (ps_if (PW.pt (pw_or (pt_cmp (pc_dnotin hu (pe_ix ix_tup (pv 7) pe_int (fun _ _ => rfl)) (pe_callTy (call_dictP rfl) (by rfl) T.b_dict (by decide +kernel) (pa_cons (pv 2) pa_nil)))) (pw_or1 (PW.pt (pw_and (pt_cmpR op_notN (pe_ix ix_tup (pv 7) pe_int (fun _ _ => rfl)) pe_non (nomark _)) (pw_and1 (PW.pt (pw_or (pt_not (pt_val (pe_fn (f__law_whole T) (hr.mono (by decide)) (by rfl) pass0 (pa_cons (pe_ix ix_tup (pv 7) pe_int (fun _ _ => rfl)) pa_nil)))) (pw_or1 (pt_cmp (pc_dnotin hu (pe_ix ix_tup (pv 7) pe_int (fun _ _ => rfl)) (pv 6)))))))))))) (pss_one (ps_ret pe_bl)) pss_nil)
      (pss_cons (ps_set (i := 8) sc_law.nd rfl (.inl rfl) (pe_dget hu (pe_callTy (call_dictP rfl) (by rfl) T.b_dict (by decide +kernel) (pa_cons (pv 2) pa_nil)) (pe_ix ix_tup (pv 7) pe_int (fun _ _ => rfl)) (fun _ _ => rfl)))
      (pss_cons (ps_if (pt_cmpR op_ne (pe_ix ix_tup (pv 7) pe_int (fun _ _ => rfl)) (pe_ifExp (pt_cmpR op_isN (pe_ix ix_tup (pv 7) pe_int (fun _ _ => rfl)) pe_non (nomark _)) (pe_callB call_lenD (by rfl) T.b_len PySem.boot_len (pa_cons (pv 8) pa_nil)) (pe_callB call_len_seq (by rfl) T.b_len PySem.boot_len (pa_cons (pe_fn (f__law_unlike T) (hr.mono (by decide)) (by rfl) pass0 (pa_cons (pe_dget hu (pv 6) (pe_ix ix_tup (pv 7) pe_int (fun _ _ => rfl)) (fun _ _ => rfl)) (pa_cons (pv 8) pa_nil))) pa_nil))) (nomark _)) (pss_one (ps_ret pe_bl)) pss_nil)
      (pss_one (ps_dput hu (pv 6) (pe_ix ix_tup (pv 7) pe_int (fun _ _ => rfl)) (pv 8) rfl)))))))
      (pss_cons (ps_if (PW.pt (pw_or (pt_cmpR (op_neD hr.units) (pe_lc (own := [("night", 9), ("table", 8)]) (g := gTup K 2 (gCons (gName 9) (gCons (gName 8) (gNil)))) (by rfl) sc_law.nd (pi_list (pv 2)) (blkOk_by (own := [("night", 9), ("table", 8)]) (N := nm_law) (sc := defScope s_law) (by decide +kernel)) (fun _ _ _ _ _ => (pg_tupK K rfl rfl (pgs_cons (pg_name (i := 9) sc_law.nd rfl (Or.inl rfl)) (pgs_cons (pg_name (i := 8) sc_law.nd rfl (Or.inl rfl)) pgs_nil)))) (fun _ _ _ _ _ => (pts_one (pt_cmp (pc_dnotin hu (pv 9) (pv 6))))) (fun _ _ _ _ _ => (pv 9))) (pe_lst pa_nil) (nomark _)) (pw_or1 (pt_cmpR (op_neD hr.units) (pe_fn (f_sending T) (hr.mono (by decide)) (by rfl) passL (pa_cons (pe_ix ix_tup (pv 4) pe_int (fun _ _ => rfl)) (pa_cons (pe_ix ix_tup (pv 4) pe_int (fun _ _ => rfl)) pa_nil))) (pe_lst pa_nil) (nomark _))))) (pss_one (ps_ret pe_bl)) pss_nil)
      (pss_one (ps_ret (pe_and (pe_cmpR (op_eqV2 hr.units) (pe_lc (own := [("night", 9), ("state", 10)]) (g := gTup K 2 (gCons (gName 9) (gCons (gName 10) (gNil)))) (tt := tYes) (by rfl) sc_law.nd (pi_list (pe_ix ix_tup (pv 4) pe_int (fun _ _ => rfl))) (blkOk_by (own := [("night", 9), ("state", 10)]) (N := nm_law) (sc := defScope s_law) (by decide +kernel)) (fun _ _ _ _ _ => (pg_tupK K rfl rfl (pgs_cons (pg_name (i := 9) sc_law.nd rfl (Or.inl rfl)) (pgs_cons (pg_name (i := 10) sc_law.nd rfl (Or.inl rfl)) pgs_nil)))) (fun _ _ _ _ _ => pts_nil) (fun _ _ _ _ _ => (pe_tup (pa_cons (pv 9) (pa_cons (pe_me0K mg rfl (pv 10) T.o_State (f_State__plain T) (hr.mono (by decide)) pass0) pa_nil))))) (pv 2) (nomark _)) (pe_one (pe_cmpR op_eq (pe_callB call_len_seq (by rfl) T.b_len PySem.boot_len (pa_cons (pe_ix ix_tup (pv 4) pe_int (fun _ _ => rfl)) pa_nil)) (pe_callB call_len_seq (by rfl) T.b_len PySem.boot_len (pa_cons (pv 3) pa_nil)) (nomark _)))))))))))))), ?_⟩
    with_reducible refine seq_k fun K_ hK_ => ?_
    walk_at "ru"
    refine ⟨a, ns, rfl, hS, hl, fun H1 t s1 T1 ht => ?_⟩
    walk_at "ru"
    subst hK_
    first | with_reducible refine seq_k fun K_ hK_ => ?_ | skip
    walk_at "ru"
    refine ⟨a, t, ns, _, rfl, T1, by omega, fun r0 lm li xs ys mine its all c' H2 hr0 hlm hli hlmt hlit hM hI dr T2 b2 => ?_⟩
    refine ⟨r0, _, rfl, sqT hr0, rfl, ?_⟩
    have hxl := hM.len
    have hyl := hI.len
    walk_at "ru"
    subst hK_
    first | with_reducible refine seq_k fun K_ hK_ => ?_ | skip
    walk_at "ru"
    refine ⟨⟨_, sqL hlm⟩, fun D1 hD1 => ?_⟩
    refine lc_list (K := K) (a := lm) (xs := xs) (iv75s mg H2 D1 mine) ⟨same_upd hD1, [], upd_same, by simp [PlAt]⟩ (fun i H5 _ p => sqL (p.1 _ _ hlm)) (fun i x H7 hx pv => ?_) fun H4 pv => ?_
    · obtain ⟨s7, zs, hS7, hP7⟩ := pv
      obtain ⟨p, q1, d1, e1, rfl, e3, e4⟩ := (hM.same s7).get hx
      refine ⟨q1, _, rfl, sqT e3, rfl, ?_⟩
      walk_at "ru"
      have okp := dr.ok p (dr.m.subset (mem_of_get e1))
      have hzl := hP7.len
      rw [List.length_take] at hzl
      have hi := lt_of_get e1
      have hm8 : mine.length ≤ 8 := Nat.le_trans dr.m.length_le dr.g.len
      refine state_new e4 okp.1 okp.2 fun k H8 s8 n8 hk => ?_
      intro p1 n_p1
      generalize hG_ : upd _ p1 _ = H9
      obtain ⟨s9, hp1⟩ := newF n_p1 hG_
      clear hG_
      have s79 := s8.trans s9
      refine ⟨zs, s79 _ _ hS7, szl (by omega), Same.app (s7.trans s79) hD1, zs ++ [.ref p1], upd_same, ?_⟩
      rw [take_next e1]
      exact ((hP7.same s79).app (PlAt.one hp1 (hk.same s9))).but But.upd (s79 _ _ hS7)
    · obtain ⟨s4, zs, hD4, hP4⟩ := pv
      rw [hxl, List.take_length] at hP4
      have hli4 := s4 _ _ hli
      have hI4 := hI.same s4
      refine ⟨⟨_, sqL hli4⟩, fun D2 hD2 => ?_⟩
      refine lc_list (K := K) (a := li) (xs := ys) (iv75s mg H4 D2 its) ⟨same_upd hD2, [], upd_same, by simp [PlAt]⟩ (fun i H5 _ p => sqL (p.1 _ _ hli4)) (fun i x H7 hx pv => ?_) fun H5 pv => ?_
      · obtain ⟨s7, us, hS7, hP7⟩ := pv
        obtain ⟨p, q1, d1, e1, rfl, e3, e4⟩ := (hI4.same s7).get hx
        refine ⟨q1, _, rfl, sqT e3, rfl, ?_⟩
        walk_at "ru"
        have okp := dr.ok p (dr.i.subset (mem_of_get e1))
        have hzl := hP7.len
        rw [List.length_take] at hzl
        have hi := lt_of_get e1
        have hm8 : its.length ≤ 8 := Nat.le_trans dr.i.length_le dr.g.len
        refine state_new e4 okp.1 okp.2 fun k H8 s8 n8 hk => ?_
        intro p1 n_p1
        generalize hG_ : upd _ p1 _ = H9
        obtain ⟨s9, hp1⟩ := newF n_p1 hG_
        clear hG_
        have s79 := s8.trans s9
        refine ⟨us, s79 _ _ hS7, szl (by omega), Same.app (s7.trans s79) hD2, us ++ [.ref p1], upd_same, ?_⟩
        rw [take_next e1]
        exact ((hP7.same s79).app (PlAt.one hp1 (hk.same s9))).but But.upd (s79 _ _ hS7)
      · obtain ⟨s5, us, hD5, hP5⟩ := pv
        rw [hyl, List.take_length] at hP5
        intro gv n_gv
        generalize hG_ : upd _ gv _ = H6
        obtain ⟨s6, hgv⟩ := newF n_gv hG_
        clear hG_
        have s46 := s5.trans s6
        have s26 := s4.trans s46
        have hD1' := s46 _ _ hD4
        have hP1' := hP4.same s46
        have hD2' := s6 _ _ hD5
        have hP2' := hP5.same s6
        have gm := dr.g.sub dr.m
        have gi := dr.g.sub dr.i
        have hpq : ∀ p ∈ mine, ∀ q ∈ its, p.1 = q.1 → p.2 = q.2 := fun p hp q hq e => by rw [dr.g.eq (dr.m.subset hp) (dr.i.subset hq) e]
        walk_at "ru"
        subst hK_
        first | with_reducible refine seq_k fun K_ hK_ => ?_ | skip
        walk_at "ru"
        refine ixT (j := 0) (sqT hgv) rfl rfl ?_
        refine ixT (j := 1) (sqT hgv) rfl rfl ?_
        refine ⟨D1, D2, zs, us, mine, its, rfl, hD1', hD2', hP1', hP2', gm, gi, hpq, fun to ws rs hv H7 s7 nto hto hSt hrun => ?_⟩
        have s27 := s26.trans s7
        have hlm7 := s27 _ _ hlm
        have hli7 := s27 _ _ hli
        have hM7 := hM.same s27
        have hI7 := hI.same s27
        walk_at "ru"
        subst hK_
        first | with_reducible refine seq_k fun K_ hK_ => ?_ | skip
        walk_at "ru"
        obtain ⟨qs, kvs, dq1, dq2, dq3, hK7⟩ := dict_pl (K := K) hli7 hI7 gi
        refine ⟨qs, dq1, kvs, dq2, ?_⟩
        rw [dq3]
        intro kn n_kn
        generalize hG_ : upd _ kn _ = H8
        obtain ⟨s8, hkn⟩ := newF n_kn hG_
        clear hG_
        walk_at "ru"
        subst hK_
        first | with_reducible refine seq_k fun K_ hK_ => ?_ | skip
        walk_at "ru"
        refine isi_thing (.lst (s8 _ _ hto)) (by decide) ?_
        walk_at "ru"
        rw [if_neg (by simp [isA])]
        have hto8 := s8 _ _ hto
        have hSt8 := hSt.same s8
        have hzl := hSt.len
        obtain ⟨cs, lf, J⟩ := send_inv hrun
        have hlf : lf = [] := by
          have := J.left_
          cases lf with
          | nil => rfl
          | cons b l => simp at this
        have hperm : cs.Perm (List.range (lackS mine its).length) := by
          have := J.perm
          rwa [hlf, List.append_nil] at this
        have hl8 : (lackS mine its).length ≤ 8 := Nat.le_trans (List.length_filter_le _ _) gm.len
        have hrl : rs.length ≤ 8 := by rw [J.len, hperm.length_eq, List.length_range]; exact hl8
        refine ⟨⟨_, sqL hto8⟩, fun D hD => ?_⟩
        refine lcL hD (sqL hto8) (fun i => (rs.take i).map fun r => V.int ((r.2.2 : Nat) : Int)) rfl (fun i x H9 hx p => ?_) (fun H9 s9 hD9 => ?_)
        · obtain ⟨r, q1, e1, rfl, e3⟩ := (hSt8.same p.same).get hx
          walk_at "ru"
          refine ixT (j := 2) (sqT e3) rfl rfl ?_
          exact p.push hD (by rw [List.length_map, List.length_take]; omega) (Same.refl _) (by rw [take_next e1, List.map_append]; rfl)
        · rw [hzl, List.take_length] at hD9
          have s79 := s8.trans s9
          have s29 := s27.trans s79
          refine ⟨D, rs.map fun r => ((r.2.2 : Nat) : Int), rfl, sqL (by rw [hD9, List.map_map]; rfl), ?_⟩
          refine ⟨lm, li, xs, ys, mine, its, rfl, s29 _ _ hlm, s29 _ _ hli, hM.same s29, hI.same s29, fun p hp => dr.ok p (dr.m.subset hp), fun p hp => dr.ok p (dr.i.subset hp), gm.len, gi.len, fun es H10 s10 hN => ?_⟩
          have hsum : (rs.map fun r => r.2.2).sum = (tookL (List.range ((lackS mine its).length + 1)) es).sum := prim_kruskal hN J.prim fun x hx => List.mem_cons_of_mem _ (hperm.mem_iff.mpr (List.mem_range.mpr hx))
          have hsum2 : (rs.map fun r => ((r.2.2 : Nat) : Int)).sum = (((rs.map fun r => r.2.2).sum : Nat) : Int) := by
            rw [show (rs.map fun r => ((r.2.2 : Nat) : Int)) = (rs.map fun r => r.2.2).map (fun n : Nat => (n : Int)) by rw [List.map_map]; rfl]
            exact (natSum_cast _).symm
          rw [hsum2, hsum]
          have s710 := s79.trans s10
          refine ⟨rfl, ?_⟩
          rw [if_neg (by simp)]
          walk_at "ru"
          subst hK_
          first | with_reducible refine seq_k fun K_ hK_ => ?_ | skip
          walk_at "ru"
          have hto10 := s710 _ _ hto
          have hkn10 := (s9.trans s10) _ _ hkn
          have hgood : ∀ p ∈ mine, ∀ q ∈ all, p.1 = q.1 → p = q := fun p hp q hq e => dr.g.eq (dr.m.subset hp) hq e
          have hg0 : ∀ v, v < (lackS mine its).length → gP (lackS mine its) v ∈ lackS mine its := fun v hv => gP_mem hv
          refine ⟨⟨_, sqL hto10⟩, ?_⟩
          refine for_it (walk_list (xs := ws)) (iv75l H7 kn [some (.ref a), some (.ref t), some (.ref lm), some (.ref li), some (.ref gv), some (.ref to), some (.ref kn)] its (lackS mine its) cs) ⟨_, _, kvs, rfl, s710, hkn10, by simpa using hK7⟩ (fun i σ H2 _ iv => ?_) (fun i x σ Ha Hb hi iv hy => ?_) (fun σ Ha iv => ?_)
          · obtain ⟨_, _, _, _, s1, _⟩ := iv
            exact sqL (s1 _ _ hto)
          · obtain ⟨y7, y8, kvs1, rfl, sa, hkna, hKa⟩ := iv
            obtain ⟨rfl, hy⟩ := hy
            obtain ⟨r, q1, e1, rfl, e3⟩ := hSt.get hy
            have hil : i < cs.length := by rw [← J.len]; exact lt_of_get e1
            obtain ⟨v, hv⟩ : ∃ v, cs[i]? = some v := ⟨cs[i], List.getElem?_eq_getElem hil⟩
            have er := J.each i v hv
            rw [e1] at er
            have er := Option.some.inj er
            subst er
            walk_at "ru"
            with_reducible refine seq_k fun K_ hK_ => ?_
            walk_at "ru"
            refine isi_thing (.tup (sa _ _ e3)) (by decide) ?_
            walk_at "ru"
            rw [if_neg (by simp [isA])]
            have hvn : v < (lackS mine its).length := List.mem_range.mp (hperm.mem_iff.mp (mem_of_get hv))
            have hpl := gP_mem hvn
            have gl0 : GoodPl (lackS mine its) := gm.sub List.filter_sublist
            have hmn : ∀ w, w < (lackS mine its).length → gP (lackS mine its) w ∈ mine := fun w hw => List.filter_sublist.subset (gP_mem hw)
            have hct : ∀ u ∈ cs.take i, u < (lackS mine its).length ∧ u ≠ v := fun u hu => by
              have hu' := List.mem_of_mem_take hu
              refine ⟨List.mem_range.mp (hperm.mem_iff.mp hu'), fun z => ?_⟩
              subst z
              exact nd_take (hperm.nodup_iff.mpr List.nodup_range) hv hu
            have hpsm : ∀ q ∈ its ++ (cs.take i).map (gP (lackS mine its)), q ∈ all := fun q hq => by
              rcases List.mem_append.mp hq with hq | hq
              · exact dr.i.subset hq
              · obtain ⟨u, hu, rfl⟩ := List.mem_map.mp hq
                exact dr.m.subset (hmn u (hct u hu).1)
            have hn : ∀ q ∈ its ++ (cs.take i).map (gP (lackS mine its)), q.1 ≠ (gP (lackS mine its) v).1 := fun q hq z => by
              rcases List.mem_append.mp hq with hq | hq
              · have := of_decide_eq_true (List.mem_filter.mp hpl).2
                exact this (by rw [← z]; exact List.mem_map.mpr ⟨q, hq, rfl⟩)
              · obtain ⟨u, hu, rfl⟩ := List.mem_map.mp hq
                exact (hct u hu).2 (gl0.ix (hct u hu).1 hvn z)
            have e3b : Hb q1 = some (.tup [.int (gP (lackS mine its) v).1, optV (bestB (gP (lackS mine its) v).2 (its ++ (cs.take i).map (gP (lackS mine its)))).2, .int ((bestB (gP (lackS mine its) v).2 (its ++ (cs.take i).map (gP (lackS mine its)))).1 : Nat)]) := sa _ _ e3
            have okv := dr.ok _ (dr.m.subset (hmn v hvn))
            have hMb := hM7.same sa
            have hlmb := sa _ _ hlm7
            obtain ⟨b1, b2, b3⟩ := bb_spec (gP (lackS mine its) v).2 (its ++ (cs.take i).map (gP (lackS mine its)))
            refine ixT (j := 0) (sqT e3b) rfl rfl ?_
            refine ⟨_, "int", rfl, .int _, true, rfl, ?_⟩
            rw [if_neg (by simp)]
            refine ixT (j := 2) (sqT e3b) rfl rfl ?_
            refine ⟨_, "int", rfl, .int _, true, rfl, ?_⟩
            rw [if_neg (by simp)]
            refine ixT (j := 0) (sqT e3b) rfl rfl ?_
            refine ⟨_, DGet.k (k := Sum.inl (gP (lackS mine its) v).1) hkna, ?_⟩
            rw [hKa.none hn]
            rw [if_neg (by simp)]
            walk_at "ru"
            subst hK_
            first | with_reducible refine seq_k fun K_ hK_ => ?_ | skip
            walk_at "ru"
            refine ixT (j := 0) (sqT e3b) rfl rfl ?_
            obtain ⟨qs1, kv1, c1, c2, c3, hKm⟩ := dict_pl (K := K) hlm7 hM7 gm
            obtain ⟨dv, ev1, ev2⟩ := hKm.some (n := (gP (lackS mine its) v).1) (t := (gP (lackS mine its) v).2) (fun p hp e => congrArg Prod.snd (hgood p hp _ (dr.m.subset (hmn v hvn)) e)) ⟨_, hmn v hvn, rfl⟩
            refine ⟨qs1, sqL_same sa c1, kv1, paired_same sa c2, ?_⟩
            rw [c3]
            intro dm n_dm
            generalize hG_ : upd _ dm _ = Hc
            obtain ⟨sc, hdm⟩ := newF n_dm hG_
            clear hG_
            have e3c := sc _ _ e3b
            refine ⟨_, DGet.k (k := Sum.inl (gP (lackS mine its) v).1) hdm, ?_⟩
            rw [ev1]
            rw [if_neg (by simp)]
            refine ixT (j := 1) (sqT e3c) rfl rfl ?_
            rcases b3 with b3 | ⟨pq, hpq2, b3⟩
            · rw [b3] at e3c
              rw [b3]
              rw [if_neg (by simp [optV])]
              walk_at "ru"
              subst hK_
              first | with_reducible refine seq_k fun K_ hK_ => ?_ | skip
              walk_at "ru"
              refine ⟨qs1, sqL_same (sa.trans sc) c1, kv1, paired_same (sa.trans sc) c2, ?_⟩
              rw [c3]
              intro dn n_dn
              generalize hG_ : upd _ dn _ = Hd
              obtain ⟨sd, hdn⟩ := newF n_dn hG_
              clear hG_
              have e3d := sd _ _ e3c
              have sd7 := (sa.trans sc).trans sd
              have hd2 := sd7 _ _ ev2
              have hknd := (sc.trans sd) _ _ hkna
              refine ixT (j := 0) (sqT e3d) rfl rfl ?_
              refine ⟨V.ref dv, ev1 ▸ DGet.k (k := Sum.inl (gP (lackS mine its) v).1) hdn, ?_⟩
              walk_at "ru"
              subst hK_
              first | with_reducible refine seq_k fun K_ hK_ => ?_ | skip
              walk_at "ru"
              refine ixT (j := 2) (sqT e3d) rfl rfl ?_
              refine ixT (j := 1) (sqT e3d) rfl rfl ?_
              rw [if_pos (show optV (none : Option Int) = V.non from rfl)]
              refine ⟨_, hd2, rfl, ?_⟩
              rw [if_neg (by simp [kvsT])]
              walk_at "ru"
              subst hK_
              first | with_reducible refine seq_k fun K_ hK_ => ?_ | skip
              walk_at "ru"
              refine ixT (j := 0) (sqT e3d) rfl rfl ?_
              refine ⟨_, DPut.k (k := Sum.inl (gP (lackS mine its) v).1) hknd (szl (by rw [hKa.len, List.length_append, List.length_map, List.length_take]; have := gi.len; omega)), ?_⟩
              refine ⟨_, _, _, rfl, Same.app sd7 n_kn, upd_same, ?_⟩
              rw [take_next hv, List.map_append, ← List.append_assoc]
              exact hKa.put hn ev2
            · rw [b3] at e3c
              rw [b3]
              rw [if_pos (by simp [optV])]
              refine ixT (j := 1) (sqT e3c) rfl rfl ?_
              refine ⟨_, "int", rfl, .int _, true, rfl, ?_⟩
              rw [if_neg (by simp)]
              refine ixT (j := 1) (sqT e3c) rfl rfl ?_
              obtain ⟨dw, ew1, ew2⟩ := hKa.some (n := pq.1) (t := pq.2) (fun p hp e => congrArg Prod.snd (dr.g.eq (hpsm p hp) (hpsm pq hpq2) e)) ⟨_, hpq2, rfl⟩
              refine ⟨_, DGet.k (k := Sum.inl pq.1) (sc _ _ hkna), ?_⟩
              rw [ew1]
              rw [if_neg (by simp)]
              walk_at "ru"
              subst hK_
              first | with_reducible refine seq_k fun K_ hK_ => ?_ | skip
              walk_at "ru"
              refine ⟨qs1, sqL_same (sa.trans sc) c1, kv1, paired_same (sa.trans sc) c2, ?_⟩
              rw [c3]
              intro dn n_dn
              generalize hG_ : upd _ dn _ = Hd
              obtain ⟨sd, hdn⟩ := newF n_dn hG_
              clear hG_
              have e3d := sd _ _ e3c
              have sd7 := (sa.trans sc).trans sd
              have hd2 := sd7 _ _ ev2
              have hknd := (sc.trans sd) _ _ hkna
              refine ixT (j := 0) (sqT e3d) rfl rfl ?_
              refine ⟨V.ref dv, ev1 ▸ DGet.k (k := Sum.inl (gP (lackS mine its) v).1) hdn, ?_⟩
              walk_at "ru"
              subst hK_
              first | with_reducible refine seq_k fun K_ hK_ => ?_ | skip
              walk_at "ru"
              refine ixT (j := 2) (sqT e3d) rfl rfl ?_
              refine ixT (j := 1) (sqT e3d) rfl rfl ?_
              rw [if_neg (by simp [optV])]
              refine ixT (j := 1) (sqT e3d) rfl rfl ?_
              refine ⟨V.ref dw, ew1 ▸ DGet.k (k := Sum.inl pq.1) hknd, ?_⟩
              have okq := dr.ok _ (hpsm pq hpq2)
              refine ⟨dw, dv, pq.2, (gP (lackS mine its) v).2, rfl, sd7 _ _ ew2, hd2, okq.1, okv.1, okq.2, okv.2, fun lp He se _ hpa => ?_⟩
              obtain ⟨us2, hu1, hu2⟩ := hpa
              refine ⟨lp, rfl, us2, .inl (sqL hu1), rfl, ?_⟩
              rw [if_neg (by rw [hu2.len]; simp [dist])]
              have sde := sd7.trans se
              walk_at "ru"
              subst hK_
              first | with_reducible refine seq_k fun K_ hK_ => ?_ | skip
              walk_at "ru"
              refine ixT (j := 0) (sqT (se _ _ e3d)) rfl rfl ?_
              refine ⟨_, DPut.k (k := Sum.inl (gP (lackS mine its) v).1) (se _ _ hknd) (szl (by rw [hKa.len, List.length_append, List.length_map, List.length_take]; have := gi.len; omega)), ?_⟩
              refine ⟨_, _, _, rfl, Same.app sde n_kn, upd_same, ?_⟩
              rw [take_next hv, List.map_append, ← List.append_assoc]
              exact hKa.put hn ev2
          · obtain ⟨y7, y8, kvs1, rfl, sa, hkna, hKa⟩ := iv
            rw [hzl, J.len, List.take_length] at hKa
            walk_at "ru"
            subst hK_
            first | with_reducible refine seq_k fun K_ hK_ => ?_ | skip
            walk_at "ru"
            have hlma := sa _ _ hlm7
            have hMa := hM7.same sa
            have hpsm : ∀ q ∈ its ++ cs.map (gP (lackS mine its)), q ∈ all := fun q hq => by
              rcases List.mem_append.mp hq with hq | hq
              · exact dr.i.subset hq
              · obtain ⟨u, hu, rfl⟩ := List.mem_map.mp hq
                exact dr.m.subset (List.filter_sublist.subset (gP_mem (List.mem_range.mp (hperm.mem_iff.mp hu))))
            refine ⟨⟨_, sqL hlma⟩, fun D3 hD3 => ?_⟩
            refine lcL hD3 (sqL hlma) (fun _ => []) rfl (fun i x Hc hx p => ?_) (fun Hc sc hDc => ?_)
            · obtain ⟨pm, q1, d1, e1, rfl, e3, e4⟩ := (hMa.same p.same).get hx
              refine ⟨q1, _, rfl, sqT e3, rfl, ?_⟩
              walk_at "ru"
              have hin : ∃ q ∈ its ++ cs.map (gP (lackS mine its)), q.1 = pm.1 := by
                by_cases c : pm.1 ∈ its.map (·.1)
                · obtain ⟨q, hq, e⟩ := List.mem_map.mp c
                  exact ⟨q, List.mem_append.mpr (.inl hq), e⟩
                · have hpm : pm ∈ lackS mine its := List.mem_filter.mpr ⟨mem_of_get e1, by simpa using c⟩
                  obtain ⟨v, hv, e⟩ := List.getElem_of_mem hpm
                  refine ⟨gP (lackS mine its) v, List.mem_append.mpr (.inr (List.mem_map.mpr ⟨v, hperm.mem_iff.mpr (List.mem_range.mpr hv), rfl⟩)), ?_⟩
                  unfold gP
                  rw [List.getD_eq_getElem?_getD, List.getElem?_eq_getElem hv, e]
                  rfl
              obtain ⟨dw, ew1, ew2⟩ := hKa.some (n := pm.1) (t := pm.2) (fun q hq e => congrArg Prod.snd (dr.g.eq (hpsm q hq) (dr.m.subset (mem_of_get e1)) e)) hin
              refine ⟨_, DGet.k (k := Sum.inl pm.1) (p.same _ _ hkna), ?_⟩
              rw [ew1]
              rw [if_neg (by simp)]
              exact p.skip (Same.refl _) rfl
            · intro e1 n_e1
              generalize hG_ : upd _ e1 _ = Hd
              obtain ⟨sd, he1⟩ := newF n_e1 hG_
              clear hG_
              refine neD (k := 1) (m := 1) (dp_LI (ns := []) (sqL (sd _ _ hDc))) (dp_LI (ns := []) (sqL he1)) (gd_dLI []) (gd_dLI []) (fun _ => ?_) (fun h => absurd rfl h)
              refine ⟨_, rfl, ?_⟩
              have s7d := (sa.trans sc).trans sd
              have s6d := s7.trans s7d
              walk_at "ru"
              refine ixT (j := 0) (sqT (s6d _ _ hgv)) rfl rfl ?_
              refine ixT (j := 0) (sqT (s6d _ _ hgv)) rfl rfl ?_
              refine ⟨D1, D1, zs, zs, mine, mine, rfl, s6d _ _ hD1', s6d _ _ hD1', hP1'.same s6d, hP1'.same s6d, gm, gm, fun p hp q hq e => congrArg Prod.snd (gm.eq hp hq e), fun t2 ws2 rs2 hv2 He se nt2 ht2 hSt2 hrun2 => ?_⟩
              have hl0 : lackS mine mine = [] := List.filter_eq_nil_iff.mpr fun p hp => by simp; exact ⟨p.2, hp⟩
              obtain ⟨cs2, lf2, J2⟩ := send_inv hrun2
              have hrs2 : rs2 = [] := by
                have h1 := J2.perm.length_eq
                rw [hl0] at h1
                have h2 := J2.len
                simp at h1
                rw [h1.1] at h2
                exact List.eq_nil_of_length_eq_zero h2
              have hws2 : ws2 = [] := List.eq_nil_of_length_eq_zero (by rw [hSt2.len, hrs2]; rfl)
              subst hws2
              intro e2 n_e2
              generalize hG_ : upd _ e2 _ = Hf
              obtain ⟨sf, he2⟩ := newF n_e2 hG_
              clear hG_
              refine neD (k := 1) (m := 1) (dp_LI (ns := []) (sqL (sf _ _ ht2))) (dp_LI (ns := []) (sqL he2)) (gd_dLI []) (gd_dLI []) (fun _ => ?_) (fun h => absurd rfl h)
              refine ⟨_, rfl, ?_⟩
              rw [if_neg (by simp)]
              walk_at "ru"
              subst hK_
              first | with_reducible refine seq_k fun K_ hK_ => ?_ | skip
              walk_at "ru"
              have s6f := (s6d.trans se).trans sf
              have hgvf := s6f _ _ hgv
              have hD1f := s6f _ _ hD1'
              have hP1f := hP1'.same s6f
              refine ixT (j := 0) (sqT hgvf) rfl rfl ?_
              refine ⟨_, rfl, ⟨_, sqL hD1f⟩, fun D4 hD4 => ?_⟩
              refine lc_list (K := K) (a := D1) (xs := zs) (iv75p Hf D4 mine) ⟨same_upd hD4, [], upd_same, by simp [PdAt]⟩ (fun i H5 _ p => sqL (p.1 _ _ hD1f)) (fun i x Hg hx pv => ?_) fun Hg pv => ?_
              · obtain ⟨sg, us3, hDg, hPg⟩ := pv
                obtain ⟨pm, q1, k1, e1, rfl, e3, e4⟩ := (hP1f.same sg).get hx
                refine ⟨q1, _, rfl, sqT e3, rfl, ?_⟩
                obtain ⟨dx, dd, g1, g2⟩ := e4.ex
                walk_at "ru"
                have hgl := hPg.len
                rw [List.length_take] at hgl
                have hi := lt_of_get e1
                have hm8 := gm.len
                refine ⟨dx, _, g1, rfl, k1, pm.2, rfl, e4, fun e5 Hh sh n5 h5 => ?_⟩
                intro p1 n_p1
                generalize hG_ : upd _ p1 _ = Hk
                obtain ⟨sk, hp1⟩ := newF n_p1 hG_
                clear hG_
                have shk := sh.trans sk
                refine ⟨us3, shk _ _ hDg, szl (by omega), Same.app (sg.trans shk) hD4, us3 ++ [.ref p1], upd_same, ?_⟩
                rw [take_next e1]
                exact ((hPg.same shk).app (PdAt.one hp1 (sk _ _ h5))).but But.upd (shk _ _ hDg)
              · obtain ⟨sg, us3, hDg, hPg⟩ := pv
                have hzs : zs.length = mine.length := hP1f.len
                rw [hzs, List.take_length] at hPg
                have s7g := ((s7d.trans se).trans sf).trans sg
                refine ⟨4, by decide, .inl (.inl ⟨D4, lm, _, _, rfl, rfl, sqL hDg, sqL (s7g _ _ hlm7), pl_eq hPg (hM7.same s7g) fun p hp => (dr.ok p (dr.m.subset hp)).1⟩), ?_⟩
                refine ⟨true, rfl, ?_⟩
                rw [if_pos rfl]
                have s6g := s6f.trans sg
                refine ixT (j := 1) (sqT (s6g _ _ hgv)) rfl rfl ?_
                refine ⟨D2, rfl, us, .inl (sqL (s6g _ _ hD2')), ys, .inl (sqL (s7g _ _ hli7)), ?_⟩
                rw [decide_eq_true (by rw [hP2'.len, hyl])]
                exact q _
end
end Nk
namespace Nk
open PySem L2
theorem fin {P : Program} {w : World} {K : PySem.W.Frag} {mg : Str → Option Value} {fa : Addr} (hfa : mg "law" = some (.ref fa)) (T : Txt K mg) : ∃ fd : FuncData, (∀ (s : Shared) (v : Value), BindsTo s fd ⟨[v], []⟩ [("script", v)]) ∧ ∀ base : Heap, K.In base → base.Ns mainGlobals mg → FnOk P w K mg base CX0 7 fa fd ["script"] (spLaw K) :=
  law_end hfa T.d_law (fun _ _ _ _ _ _ _ => rfl) (fun base f fd F => ok_law F T)
end Nk
open PySem PySem.W PyProof.Rows
set_option maxRecDepth 100000 in
set_option maxHeartbeats 0 in
theorem PySem.Challenge.cw_nightkeep_k75_whole_sending_holds : PySem.Challenge.rw_nightkeep_k75_whole_sending.Holds := by
  w_on; o_law; k_head; (case hw => w_witness2)
  k_fill
  refine L2.walk_of (l := PySem.Challenge.rw_nightkeep_k75_whole_sending) (n := 63) (k := 7) (x := "script") (CX := fun _ => L2.CX0) (sp := fun w => Nk.spLaw _) rfl (by decide) rfl ⟨rfl, by decide, by decide⟩ (fun w h Y => PySem.W.kIn_of Y) ?F (fun _ _ a ns hl _ hS => ⟨a, ns, rfl, hS, hl, fun _ => rfl⟩) (fun _ _ _ _ _ h => h)
  case F =>
    intro w mg fa h KX G hmg
    refine Nk.fin hmg ?_
    refine ⟨?d_is_number, ?d_is_name, ?d_is_state, ?d_part_of, ?d_is_place, ?d_best_base, ?d_sending, ?d__law_town, ?d__law_draw, ?d__law_pick, ?d__law_whole, ?d__law_name, ?d__law_table, ?d__law_later, ?d__law_unlike, ?d__law_states, ?d__law_places, ?d__law_least_ties, ?d_law, ?x_KeepError, ?x_BadNights, ?x_BadState, ?x_Unlike, ?o_State, ?m_State____init__, ?m_State____len__, ?m_State____eq__, ?m_State____str__, ?m_State____repr__, ?m_State__number, ?m_State__names, ?m_State__plain, ?v_State, ?n_State__table, ?c_MOST_NIGHT, ?c_LETTERS, ?c_MOST_NAMES, ?b_all, ?b_bool, ?b_dict, ?b_enumerate, ?b_int, ?b_isinstance, ?b_len, ?b_list, ?b_min, ?b_range, ?b_set, ?b_sorted, ?b_str, ?b_sum, ?b_tuple, ?b_zip⟩
    case d_is_number => (refine' Nk.df_mk (st := Nk.s_is_number) KX G (fun _ _ _ _ _ _ us hl => match us, hl with | [_, _, _], _ => rfl) ?a ?l ?c ?k; (case a => k_is); (case l => k_is); (case c => k_is); (case k => k_is))
    case d_is_name => (refine' Nk.df_mk (st := Nk.s_is_name) KX G (fun _ _ _ _ _ _ us hl => match us, hl with | [_], _ => rfl) ?a ?l ?c ?k; (case a => k_is); (case l => k_is); (case c => k_is); (case k => k_is))
    case d_is_state => (refine' Nk.df_mk (st := Nk.s_is_state) KX G (fun _ _ _ _ _ _ us hl => match us, hl with | [_], _ => rfl) ?a ?l ?c ?k; (case a => k_is); (case l => k_is); (case c => k_is); (case k => k_is))
    case d_part_of => (refine' Nk.df_mk (st := Nk.s_part_of) KX G (fun _ _ _ _ _ _ us hl => match us, hl with | [_, _], _ => rfl) ?a ?l ?c ?k; (case a => k_is); (case l => k_is); (case c => k_is); (case k => k_is))
    case d_is_place => (refine' Nk.df_mk (st := Nk.s_is_place) KX G (fun _ _ _ _ _ _ us hl => match us, hl with | [_], _ => rfl) ?a ?l ?c ?k; (case a => k_is); (case l => k_is); (case c => k_is); (case k => k_is))
    case d_best_base => (refine' Nk.df_mk (st := Nk.s_best_base) KX G (fun _ _ _ _ _ _ us hl => match us, hl with | [_, _], _ => rfl) ?a ?l ?c ?k; (case a => k_is); (case l => k_is); (case c => k_is); (case k => k_is))
    case d_sending => (refine' Nk.df_mk (st := Nk.s_sending) KX G (fun _ _ _ _ _ _ us hl => match us, hl with | [_, _], _ => rfl) ?a ?l ?c ?k; (case a => k_is); (case l => k_is); (case c => k_is); (case k => k_is))
    case d__law_town => (refine' Nk.df_mk (st := Nk.s__law_town) KX G (fun _ _ _ _ _ _ us hl => match us, hl with | [_], _ => rfl) ?a ?l ?c ?k; (case a => k_is); (case l => k_is); (case c => k_is); (case k => k_is))
    case d__law_draw => (refine' Nk.df_mk (st := Nk.s__law_draw) KX G (fun _ _ _ _ _ _ us hl => match us, hl with | [_, _, _], _ => rfl) ?a ?l ?c ?k; (case a => k_is); (case l => k_is); (case c => k_is); (case k => k_is))
    case d__law_pick => (refine' Nk.df_mk (st := Nk.s__law_pick) KX G (fun _ _ _ _ _ _ us hl => match us, hl with | [_, _, _], _ => rfl) ?a ?l ?c ?k; (case a => k_is); (case l => k_is); (case c => k_is); (case k => k_is))
    case d__law_whole => (refine' Nk.df_mk (st := Nk.s__law_whole) KX G (fun _ _ _ _ _ _ us hl => match us, hl with | [_], _ => rfl) ?a ?l ?c ?k; (case a => k_is); (case l => k_is); (case c => k_is); (case k => k_is))
    case d__law_name => (refine' Nk.df_mk (st := Nk.s__law_name) KX G (fun _ _ _ _ _ _ us hl => match us, hl with | [_, _, _], _ => rfl) ?a ?l ?c ?k; (case a => k_is); (case l => k_is); (case c => k_is); (case k => k_is))
    case d__law_table => (refine' Nk.df_mk (st := Nk.s__law_table) KX G (fun _ _ _ _ _ _ us hl => match us, hl with | [_, _, _], _ => rfl) ?a ?l ?c ?k; (case a => k_is); (case l => k_is); (case c => k_is); (case k => k_is))
    case d__law_later => (refine' Nk.df_mk (st := Nk.s__law_later) KX G (fun _ _ _ _ _ _ us hl => match us, hl with | [_, _, _], _ => rfl) ?a ?l ?c ?k; (case a => k_is); (case l => k_is); (case c => k_is); (case k => k_is))
    case d__law_unlike => (refine' Nk.df_mk (st := Nk.s__law_unlike) KX G (fun _ _ _ _ _ _ us hl => match us, hl with | [_, _], _ => rfl) ?a ?l ?c ?k; (case a => k_is); (case l => k_is); (case c => k_is); (case k => k_is))
    case d__law_states => (refine' Nk.df_mk (st := Nk.s__law_states) KX G (fun _ _ _ _ _ _ us hl => match us, hl with | [_, _, _], _ => rfl) ?a ?l ?c ?k; (case a => k_is); (case l => k_is); (case c => k_is); (case k => k_is))
    case d__law_places => (refine' Nk.df_mk (st := Nk.s__law_places) KX G (fun _ _ _ _ _ _ us hl => match us, hl with | [_, _], _ => rfl) ?a ?l ?c ?k; (case a => k_is); (case l => k_is); (case c => k_is); (case k => k_is))
    case d__law_least_ties => (refine' Nk.df_mk (st := Nk.s__law_least_ties) KX G (fun _ _ _ _ _ _ us hl => match us, hl with | [_, _], _ => rfl) ?a ?l ?c ?k; (case a => k_is); (case l => k_is); (case c => k_is); (case k => k_is))
    case d_law => (refine' Nk.df_mk (st := Nk.s_law) KX G (fun _ _ _ _ _ _ us hl => match us, hl with | [_], _ => rfl) ?a ?l ?c ?k; (case a => k_is); (case l => k_is); (case c => k_is); (case k => k_is))
    case x_KeepError => (refine' Nk.xc_mk KX G ?a ?x ?k ?b ?t; (case a => k_is); (case x => k_exc); (case k => k_is); (case b => k_is); (case t => k_is))
    case x_BadNights => (refine' Nk.xc_mk KX G ?a ?x ?k ?b ?t; (case a => k_is); (case x => k_exc); (case k => k_is); (case b => k_is); (case t => k_is))
    case x_BadState => (refine' Nk.xc_mk KX G ?a ?x ?k ?b ?t; (case a => k_is); (case x => k_exc); (case k => k_is); (case b => k_is); (case t => k_is))
    case x_Unlike => (refine' Nk.xc_mk KX G ?a ?x ?k ?b ?t; (case a => k_is); (case x => k_exc); (case k => k_is); (case b => k_is); (case t => k_is))
    case o_State => (refine' Nk.oc_mk KX G ?aC ?pg ?hd ?po ?sa ?mk ?kc; (case aC => k_is); (case pg => k_is); (case hd => k_is); (case po => k_is); (case sa => k_is); (case mk => k_is); (case kc => k_is))
    case m_State____init__ => (refine' Nk.md_mk (st := Nk.s_State____init__) KX G (fun _ _ _ _ _ _ us hl => match us, hl with | [_, _], _ => rfl) ?aC ?ai ?ii ?li ?cc ?ki; (case aC => k_is); (case ai => k_is); (case ii => k_is); (case li => k_is); (case cc => k_is); (case ki => k_is))
    case m_State____len__ => (refine' Nk.md_mk (st := Nk.s_State____len__) KX G (fun _ _ _ _ _ _ us hl => match us, hl with | [_], _ => rfl) ?aC ?ai ?ii ?li ?cc ?ki; (case aC => k_is); (case ai => k_is); (case ii => k_is); (case li => k_is); (case cc => k_is); (case ki => k_is))
    case m_State____eq__ => (refine' Nk.md_mk (st := Nk.s_State____eq__) KX G (fun _ _ _ _ _ _ us hl => match us, hl with | [_, _], _ => rfl) ?aC ?ai ?ii ?li ?cc ?ki; (case aC => k_is); (case ai => k_is); (case ii => k_is); (case li => k_is); (case cc => k_is); (case ki => k_is))
    case m_State____str__ => (refine' Nk.md_mk (st := Nk.s_State____str__) KX G (fun _ _ _ _ _ _ us hl => match us, hl with | [_], _ => rfl) ?aC ?ai ?ii ?li ?cc ?ki; (case aC => k_is); (case ai => k_is); (case ii => k_is); (case li => k_is); (case cc => k_is); (case ki => k_is))
    case m_State____repr__ => (refine' Nk.md_mk (st := Nk.s_State____repr__) KX G (fun _ _ _ _ _ _ us hl => match us, hl with | [_], _ => rfl) ?aC ?ai ?ii ?li ?cc ?ki; (case aC => k_is); (case ai => k_is); (case ii => k_is); (case li => k_is); (case cc => k_is); (case ki => k_is))
    case m_State__number => (refine' Nk.md_mk (st := Nk.s_State__number) KX G (fun _ _ _ _ _ _ us hl => match us, hl with | [_, _], _ => rfl) ?aC ?ai ?ii ?li ?cc ?ki; (case aC => k_is); (case ai => k_is); (case ii => k_is); (case li => k_is); (case cc => k_is); (case ki => k_is))
    case m_State__names => (refine' Nk.md_mk (st := Nk.s_State__names) KX G (fun _ _ _ _ _ _ us hl => match us, hl with | [_], _ => rfl) ?aC ?ai ?ii ?li ?cc ?ki; (case aC => k_is); (case ai => k_is); (case ii => k_is); (case li => k_is); (case cc => k_is); (case ki => k_is))
    case m_State__plain => (refine' Nk.md_mk (st := Nk.s_State__plain) KX G (fun _ _ _ _ _ _ us hl => match us, hl with | [_], _ => rfl) ?aC ?ai ?ii ?li ?cc ?ki; (case aC => k_is); (case ai => k_is); (case ii => k_is); (case li => k_is); (case cc => k_is); (case ki => k_is))
    case v_State => (refine' Nk.eo2_mk KX G ?aC ?ne ?sub ?ha ?hn ?htk ?hm; (case aC => k_is); (case ne => k_is); (case sub => k_is); (case ha => k_is); (case hn => k_is); (case htk => k_is); (case hm => k_is))
    case n_State__table => (refine' Nk.na_mk KX G ?aC ?n; (case aC => k_is); (case n => k_is))
    case c_MOST_NIGHT => (refine' Nk.ci_mk KX G ?a; (case a => k_is))
    case c_LETTERS => (refine' Nk.cs_mk KX G ?a; (case a => k_is))
    case c_MOST_NAMES => (refine' Nk.ci_mk KX G ?a; (case a => k_is))
    case b_all => (refine' PySem.W.mg_none_of KX G ?a; (case a => k_is))
    case b_bool => (refine' PySem.W.mg_none_of KX G ?a; (case a => k_is))
    case b_dict => (refine' PySem.W.mg_none_of KX G ?a; (case a => k_is))
    case b_enumerate => (refine' PySem.W.mg_none_of KX G ?a; (case a => k_is))
    case b_int => (refine' PySem.W.mg_none_of KX G ?a; (case a => k_is))
    case b_isinstance => (refine' PySem.W.mg_none_of KX G ?a; (case a => k_is))
    case b_len => (refine' PySem.W.mg_none_of KX G ?a; (case a => k_is))
    case b_list => (refine' PySem.W.mg_none_of KX G ?a; (case a => k_is))
    case b_min => (refine' PySem.W.mg_none_of KX G ?a; (case a => k_is))
    case b_range => (refine' PySem.W.mg_none_of KX G ?a; (case a => k_is))
    case b_set => (refine' PySem.W.mg_none_of KX G ?a; (case a => k_is))
    case b_sorted => (refine' PySem.W.mg_none_of KX G ?a; (case a => k_is))
    case b_str => (refine' PySem.W.mg_none_of KX G ?a; (case a => k_is))
    case b_sum => (refine' PySem.W.mg_none_of KX G ?a; (case a => k_is))
    case b_tuple => (refine' PySem.W.mg_none_of KX G ?a; (case a => k_is))
    case b_zip => (refine' PySem.W.mg_none_of KX G ?a; (case a => k_is))
