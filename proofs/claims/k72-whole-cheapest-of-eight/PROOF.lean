import PyProof.Rows.All
import Wide.All
import OpenK.AllK
import Wide.FinOn
import HandS.ForMost
import HandS.ForExc
import HandS.IsInst
import HandS.Wide
import HandS.SortInts
import HandS.Zip
import HandS.Walk
import HandS.Evl
import HandS.More
import HandS.Conv
import HandS.ExcIs
import HandS.ExcField
import HandS.ExcInit
import HandS.Sort
import HandS.SetFor
import HandS.TupMul
import HandS.Strs
import HandS.Deep
import HandS.Defaults
import HandS.MakeKw
import PyProof.Rows.SortShellAny
import HandS.DeepEq
import KE.KDictDisplayH
import KE.KDictSum
import KE.KTupSum
import KE.KExcIs
import KE.KExcInit
import PySem.Challenge.RW_nightkeep_k72_whole_cheapest_of_eight
set_option Elab.async false
set_option linter.all false
set_option maxRecDepth 100000
set_option maxHeartbeats 4000000
/-! ### rounds: plain mathematics -/
namespace Nk
def pre (rs : List Int) (j : Nat) : Int := (rs.take j).sum
def walkR : List Int → Int → Int → Int
  | [], _, found => found
  | r :: rs, left, found => if left < r then found else walkR rs (left - r) (found + 1)
def numOf (rs : List Int) (n : Int) : Int := walkR rs (n % rs.sum) (n / rs.sum * rs.length)
def firstOf (rs : List Int) (k : Int) : Int := k / rs.length * rs.sum + pre rs (k % rs.length).toNat
/-- lengths: at least one, each at least 1 -/
structure Rnds (rs : List Int) : Prop where
  ne : rs ≠ []
  pos : ∀ r ∈ rs, 1 ≤ r
theorem pre_zero (rs : List Int) : pre rs 0 = 0 := by simp [pre]
theorem pre_cons (r : Int) (rs : List Int) (j : Nat) : pre (r :: rs) (j + 1) = r + pre rs j := by simp [pre]
theorem pre_len (rs : List Int) : pre rs rs.length = rs.sum := by simp [pre]
theorem pre_step : ∀ {rs : List Int} {j : Nat} {r : Int}, rs[j]? = some r → pre rs (j + 1) = pre rs j + r
  | [], _, _, h => by simp at h
  | a :: rs, 0, r, h => by
    have e : a = r := by simpa using h
    subst e
    rw [pre_cons, pre_zero, pre_zero]; omega
  | a :: rs, j + 1, r, h => by
    have ih := pre_step (rs := rs) (j := j) (r := r) (by simpa using h)
    rw [pre_cons, pre_cons, ih]; omega
theorem pre_mono {rs : List Int} (hp : ∀ r ∈ rs, 1 ≤ r) : ∀ {i j : Nat}, i ≤ j → j ≤ rs.length → pre rs i + ((j : Int) - (i : Int)) ≤ pre rs j := by
  intro i j hij hj
  induction j with
  | zero =>
    have : i = 0 := by omega
    subst this; simp
  | succ j ih =>
    by_cases h : i = j + 1
    · subst h; simp
    · have h1 := ih (by omega) (by omega)
      have hlt : j < rs.length := by omega
      have e := pre_step (List.getElem?_eq_getElem hlt)
      have p := hp _ (List.getElem_mem hlt)
      rw [e]
      omega
theorem pre_nonneg {rs : List Int} (hp : ∀ r ∈ rs, 1 ≤ r) {j : Nat} (hj : j ≤ rs.length) : (j : Int) ≤ pre rs j := by
  have := pre_mono hp (Nat.zero_le j) hj
  rw [pre_zero] at this
  omega
theorem sum_ge {rs : List Int} (hp : ∀ r ∈ rs, 1 ≤ r) : (rs.length : Int) ≤ rs.sum := by
  have := pre_nonneg hp (Nat.le_refl rs.length)
  rw [pre_len] at this
  exact this
theorem Rnds.len {rs : List Int} (h : Rnds rs) : 0 < rs.length := List.length_pos_iff.mpr h.ne
theorem Rnds.sum {rs : List Int} (h : Rnds rs) : 0 < rs.sum := by
  have := sum_ge h.pos
  have := h.len
  omega
theorem walkR_spec : ∀ (rs : List Int) (left found : Int), 0 ≤ left → left < rs.sum → ∃ j : Nat, j < rs.length ∧ walkR rs left found = found + j ∧ pre rs j ≤ left ∧ left < pre rs (j + 1)
  | [], left, found, h0, h1 => by simp at h1; omega
  | r :: rs, left, found, h0, h1 => by
    unfold walkR
    by_cases c : left < r
    · refine ⟨0, by simp, by simp [c], ?_, ?_⟩
      · rw [pre_zero]; exact h0
      · rw [pre_cons, pre_zero]; omega
    · rw [if_neg c]
      obtain ⟨j, hj, e, h2, h3⟩ := walkR_spec rs (left - r) (found + 1) (by omega) (by rw [List.sum_cons] at h1; omega)
      refine ⟨j + 1, by simp; omega, ?_, ?_, ?_⟩
      · rw [e]; push_cast; omega
      · rw [pre_cons]; omega
      · rw [pre_cons]; omega
theorem pre_uniq {rs : List Int} (hp : ∀ r ∈ rs, 1 ≤ r) {i j : Nat} (hi : i < rs.length) (hj : j < rs.length) {x : Int} (h1 : pre rs i ≤ x) (h2 : x < pre rs (i + 1)) (h3 : pre rs j ≤ x) (h4 : x < pre rs (j + 1)) : i = j := by
  by_cases h : i < j
  · have := pre_mono hp (i := i + 1) (j := j) (by omega) (by omega)
    omega
  · by_cases h' : j < i
    · have := pre_mono hp (i := j + 1) (j := i) (by omega) (by omega)
      omega
    · omega
theorem emod_nat {k : Int} {n : Nat} (h : 0 < n) : ∃ j : Nat, j < n ∧ k % (n : Int) = (j : Int) ∧ (j : Int) + (n : Int) * (k / (n : Int)) = k := by
  have h0 := Int.emod_nonneg k (show (n : Int) ≠ 0 by omega)
  have h1 := Int.emod_lt_of_pos k (show (0 : Int) < n by omega)
  have h2 := Int.emod_add_mul_ediv k (n : Int)
  exact ⟨(k % n).toNat, by omega, by omega, by omega⟩
/-- a round, by its place in the turn -/
theorem firstOf_at {rs : List Int} (h : Rnds rs) (q : Int) {j : Nat} (hj : j ≤ rs.length) : firstOf rs (q * rs.length + j) = q * rs.sum + pre rs j := by
  have hl := h.len
  unfold firstOf
  by_cases e : j = rs.length
  · have h1 : (q * (rs.length : Int) + (j : Int)) / (rs.length : Int) = q + 1 ∧ (q * (rs.length : Int) + (j : Int)) % (rs.length : Int) = 0 := by
      rw [Int.ediv_emod_unique (by omega)]
      refine ⟨?_, by omega, by omega⟩
      rw [e, Int.mul_add, Int.mul_comm q]; omega
    rw [h1.1, h1.2, e, pre_len]
    show (q + 1) * rs.sum + pre rs (Int.toNat 0) = _
    rw [show Int.toNat 0 = 0 from rfl, pre_zero, Int.add_mul]
    omega
  · have h1 : (q * (rs.length : Int) + (j : Int)) / (rs.length : Int) = q ∧ (q * (rs.length : Int) + (j : Int)) % (rs.length : Int) = (j : Int) := by
      rw [Int.ediv_emod_unique (by omega)]
      refine ⟨?_, by omega, by omega⟩
      rw [Int.mul_comm q]; omega
    rw [h1.1, h1.2]
    simp
theorem firstOf_step {rs : List Int} (h : Rnds rs) (k : Int) {r : Int} (hr : rs[(k % rs.length).toNat]? = some r) : firstOf rs (k + 1) = firstOf rs k + r := by
  obtain ⟨j, hj, e, f⟩ := emod_nat (k := k) h.len
  rw [e] at hr
  have hr' : rs[j]? = some r := by simpa using hr
  have e1 : k = (k / rs.length) * rs.length + j := by rw [Int.mul_comm]; omega
  have a1 := firstOf_at h (k / rs.length) (Nat.le_of_lt hj)
  have a2 := firstOf_at h (k / rs.length) (Nat.succ_le_of_lt hj)
  rw [← e1] at a1
  have e2 : k / (rs.length : Int) * (rs.length : Int) + ((Nat.succ j : Nat) : Int) = k + 1 := by push_cast; omega
  rw [e2] at a2
  rw [a1, a2]
  show _ + pre rs (j + 1) = _
  rw [pre_step hr']
  omega
theorem get_round {rs : List Int} (h : Rnds rs) (k : Int) : ∃ r, rs[(k % rs.length).toNat]? = some r ∧ 1 ≤ r ∧ r ∈ rs := by
  obtain ⟨j, hj, e, f⟩ := emod_nat (k := k) h.len
  refine ⟨rs[j], ?_, h.pos _ (List.getElem_mem hj), List.getElem_mem hj⟩
  rw [e]
  simpa using List.getElem?_eq_getElem hj
theorem firstOf_lt {rs : List Int} (h : Rnds rs) (k : Int) : firstOf rs k + 1 ≤ firstOf rs (k + 1) := by
  obtain ⟨r, h1, h2, _⟩ := get_round h k
  rw [firstOf_step h k h1]
  omega
theorem firstOf_zero {rs : List Int} (h : Rnds rs) : firstOf rs 0 = 0 := by
  have := firstOf_at h 0 (Nat.zero_le rs.length)
  simp [pre_zero] at this
  exact this
/-- a night between a round's ends lies in it -/
theorem numOf_of {rs : List Int} (h : Rnds rs) {k m : Int} (h1 : firstOf rs k ≤ m) (h2 : m < firstOf rs (k + 1)) : numOf rs m = k := by
  obtain ⟨j, hj, e, f⟩ := emod_nat (k := k) h.len
  have e1 : k = (k / rs.length) * rs.length + j := by rw [Int.mul_comm]; omega
  have a1 := firstOf_at h (k / rs.length) (Nat.le_of_lt hj)
  have a2 := firstOf_at h (k / rs.length) (Nat.succ_le_of_lt hj)
  rw [← e1] at a1
  have e2 : k / (rs.length : Int) * (rs.length : Int) + ((Nat.succ j : Nat) : Int) = k + 1 := by push_cast; omega
  rw [e2] at a2
  rw [a1] at h1
  rw [a2] at h2
  have b0 := pre_nonneg h.pos (Nat.le_of_lt hj)
  have b1 := pre_mono h.pos (i := j + 1) (j := rs.length) (by omega) (Nat.le_refl _)
  rw [pre_len] at b1
  have h2' : m < k / (rs.length : Int) * rs.sum + pre rs (j + 1) := h2
  have h3 : m / rs.sum = k / rs.length ∧ m % rs.sum = m - (k / rs.length) * rs.sum := by
    rw [Int.ediv_emod_unique h.sum]
    refine ⟨by rw [Int.mul_comm rs.sum]; omega, by omega, by omega⟩
  unfold numOf
  rw [h3.1, h3.2]
  obtain ⟨i, hi, w, p1, p2⟩ := walkR_spec rs (m - k / ↑rs.length * rs.sum) (k / ↑rs.length * ↑rs.length) (by omega) (by omega)
  rw [w]
  have : i = j := pre_uniq h.pos hi hj p1 p2 (by omega) (by omega)
  subst this
  omega
/-- each night lies between the ends of its round -/
theorem numOf_spec {rs : List Int} (h : Rnds rs) (m : Int) : firstOf rs (numOf rs m) ≤ m ∧ m < firstOf rs (numOf rs m + 1) := by
  have hs := h.sum
  obtain ⟨i, hi, w, p1, p2⟩ := walkR_spec rs (m % rs.sum) (m / rs.sum * rs.length) (Int.emod_nonneg m (by omega)) (Int.emod_lt_of_pos m hs)
  have hm := Int.emod_add_mul_ediv m rs.sum
  have e : numOf rs m = m / rs.sum * rs.length + i := w
  have a1 := firstOf_at h (m / rs.sum) (Nat.le_of_lt hi)
  have a2 := firstOf_at h (m / rs.sum) (Nat.succ_le_of_lt hi)
  have e2 : m / rs.sum * (rs.length : Int) + ((Nat.succ i : Nat) : Int) = numOf rs m + 1 := by rw [e]; push_cast; omega
  rw [← e] at a1
  rw [e2] at a2
  rw [a1, a2]
  have c := Int.mul_comm rs.sum (m / rs.sum)
  refine ⟨by omega, ?_⟩
  show m < m / rs.sum * rs.sum + pre rs (i + 1)
  omega
theorem firstOf_mono {rs : List Int} (h : Rnds rs) (i : Int) : ∀ d : Nat, firstOf rs i + d ≤ firstOf rs (i + d)
  | 0 => by simp
  | d + 1 => by
    have h1 := firstOf_mono h i d
    have h2 := firstOf_lt h (i + d)
    push_cast
    rw [Int.add_assoc i d 1] at h2
    omega
theorem firstOf_le {rs : List Int} (h : Rnds rs) {i j : Int} (hij : i ≤ j) : firstOf rs i + (j - i) ≤ firstOf rs j := by
  have := firstOf_mono h i (j - i).toNat
  rw [show i + ((j - i).toNat : Int) = j by omega] at this
  omega
theorem firstOf_pos {rs : List Int} (h : Rnds rs) {k : Int} (hk : 0 ≤ k) : k ≤ firstOf rs k := by
  have := firstOf_le h hk
  rw [firstOf_zero h] at this
  omega
theorem numOf_nonneg {rs : List Int} (h : Rnds rs) {n : Int} (hn : 0 ≤ n) : 0 ≤ numOf rs n := by
  have h2 := (numOf_spec h n).2
  by_cases c : 0 ≤ numOf rs n
  · exact c
  · have := firstOf_le h (i := numOf rs n + 1) (j := 0) (by omega)
    rw [firstOf_zero h] at this
    omega
theorem numOf_le {rs : List Int} (h : Rnds rs) {n : Int} (hn : 0 ≤ n) : numOf rs n ≤ n := by
  have h1 := (numOf_spec h n).1
  have h2 := firstOf_pos h (numOf_nonneg h hn)
  omega
/-- later nights lie in no earlier rounds -/
theorem numOf_mono {rs : List Int} (h : Rnds rs) {m n : Int} (hmn : m ≤ n) : numOf rs m ≤ numOf rs n := by
  have h1 := (numOf_spec h m).1
  have h2 := (numOf_spec h n).2
  by_cases c : numOf rs m ≤ numOf rs n
  · exact c
  · have := firstOf_le h (i := numOf rs n + 1) (j := numOf rs m) (by omega)
    omega
/-- a whole turn later -/
theorem firstOf_turn {rs : List Int} (h : Rnds rs) (k : Int) : firstOf rs (k + rs.length) = firstOf rs k + rs.sum := by
  obtain ⟨j, hj, e, f⟩ := emod_nat (k := k) h.len
  have e1 : k = (k / rs.length) * rs.length + j := by rw [Int.mul_comm]; omega
  have a1 := firstOf_at h (k / rs.length) (Nat.le_of_lt hj)
  have a2 := firstOf_at h (k / rs.length + 1) (Nat.le_of_lt hj)
  rw [← e1] at a1
  have e2 : (k / rs.length + 1) * (rs.length : Int) + (j : Int) = k + rs.length := by rw [Int.add_mul]; omega
  rw [e2] at a2
  rw [a1, a2, Int.add_mul]
  omega
theorem numOf_turn {rs : List Int} (h : Rnds rs) (n : Int) : numOf rs (n + rs.sum) = numOf rs n + rs.length := by
  obtain ⟨h1, h2⟩ := numOf_spec h n
  have a1 := firstOf_turn h (numOf rs n)
  have a2 := firstOf_turn h (numOf rs n + 1)
  refine numOf_of h (by omega) ?_
  rw [show numOf rs n + (rs.length : Int) + 1 = numOf rs n + 1 + rs.length by omega]
  omega
theorem firstOf_ge {rs : List Int} (h : Rnds rs) : ∀ k : Nat, (k : Int) ≤ firstOf rs k
  | 0 => by rw [show ((0 : Nat) : Int) = 0 from rfl, firstOf_zero h]; omega
  | k + 1 => by
    have h1 := firstOf_ge h k
    have h2 := firstOf_lt h k
    push_cast
    omega
end Nk
/-! ### what rules keep: plain mathematics -/
namespace Nk
/-- going back through nights: those whose round is another one than that of the night gone through just before -/
def endsR (rs : List Int) : Option Int → List Int → List Int
  | _, [] => []
  | ah, n :: l => if ah = some (numOf rs n) then endsR rs (some (numOf rs n)) l else n :: endsR rs (some (numOf rs n)) l
def lastN (rs : List Int) (ah : Option Int) (l : List Int) : Option Int := match l.getLast? with
  | some n => some (numOf rs n)
  | none => ah
theorem lastN_cons (rs : List Int) (ah : Option Int) (n : Int) (l : List Int) : lastN rs ah (n :: l) = lastN rs (some (numOf rs n)) l := by
  unfold lastN
  cases l with
  | nil => rfl
  | cons m r => rw [List.getLast?_cons_cons]; cases h : (m :: r).getLast? <;> simp_all
theorem endsR_snoc (rs : List Int) : ∀ (l : List Int) (ah : Option Int) (n : Int), endsR rs ah (l ++ [n]) = endsR rs ah l ++ (if lastN rs ah l = some (numOf rs n) then [] else [n])
  | [], ah, n => by
    by_cases h : ah = some (numOf rs n) <;> simp [endsR, lastN, h]
  | m :: l, ah, n => by
    rw [lastN_cons]
    simp only [List.cons_append, endsR]
    rw [endsR_snoc rs l]
    split <;> simp
theorem lastN_snoc (rs : List Int) (ah : Option Int) (l : List Int) (n : Int) : lastN rs ah (l ++ [n]) = some (numOf rs n) := by
  simp [lastN]
/-- the last nights of the rounds, rising -/
def endsF (rs : List Int) : List Int → List Int
  | [] => []
  | [n] => [n]
  | n :: m :: l => if numOf rs n = numOf rs m then endsF rs (m :: l) else n :: endsF rs (m :: l)
theorem endsF_eq (rs : List Int) : ∀ ns : List Int, endsF rs ns = (endsR rs none ns.reverse).reverse
  | [] => rfl
  | [n] => by simp [endsF, endsR]
  | n :: m :: l => by
    rw [List.reverse_cons, endsR_snoc]
    have h : lastN rs none (m :: l).reverse = some (numOf rs m) := by simp [lastN]
    rw [h, List.reverse_append, ← endsF_eq rs (m :: l)]
    simp only [endsF, Option.some.injEq]
    by_cases e : numOf rs n = numOf rs m
    · rw [if_pos e, if_pos e.symm]; rfl
    · rw [if_neg e, if_neg (fun z => e z.symm)]; rfl
/-- what one rule keeps, the last one first -/
def keptBy (ru : List Int × Int) (ns : List Int) : List Int := (endsR ru.1 none ns.reverse).take ru.2.toNat
/-- .. rising -/
def keptUp (ru : List Int × Int) (ns : List Int) : List Int := (endsF ru.1 ns).drop ((endsF ru.1 ns).length - ru.2.toNat)
theorem keptUp_eq (ru : List Int × Int) (ns : List Int) : keptUp ru ns = (keptBy ru ns).reverse := by
  unfold keptUp keptBy
  rw [endsF_eq, List.length_reverse, List.reverse_take]
theorem endsR_sub (rs : List Int) : ∀ (l : List Int) (ah : Option Int), ∀ n ∈ endsR rs ah l, n ∈ l
  | [], _, n, h => by simp [endsR] at h
  | m :: l, ah, n, h => by
    simp only [endsR] at h
    split at h
    · exact List.mem_cons_of_mem _ (endsR_sub rs l _ n h)
    · rcases List.mem_cons.mp h with e | h
      · rw [e]; exact List.mem_cons_self
      · exact List.mem_cons_of_mem _ (endsR_sub rs l _ n h)
theorem keptBy_sub {ru : List Int × Int} {ns : List Int} {n : Int} (h : n ∈ keptBy ru ns) : n ∈ ns := by
  have := endsR_sub ru.1 _ _ n (List.mem_of_mem_take h)
  simpa using this
theorem mem_keptUp {ru : List Int × Int} {ns : List Int} {n : Int} : n ∈ keptUp ru ns ↔ n ∈ keptBy ru ns := by
  rw [keptUp_eq, List.mem_reverse]
/-- what rules keep, rising -/
def keptF (rules : List (List Int × Int)) (ns : List Int) : List Int := ns.filter fun n => rules.any fun ru => decide (n ∈ keptBy ru ns)
theorem mem_keptF {rules : List (List Int × Int)} {ns : List Int} {n : Int} : n ∈ keptF rules ns ↔ ∃ ru ∈ rules, n ∈ keptBy ru ns := by
  unfold keptF
  rw [List.mem_filter, List.any_eq_true]
  constructor
  · rintro ⟨_, ru, h1, h2⟩
    exact ⟨ru, h1, of_decide_eq_true h2⟩
  · rintro ⟨ru, h1, h2⟩
    exact ⟨keptBy_sub h2, ru, h1, decide_eq_true h2⟩
theorem keptF_rise {rules : List (List Int × Int)} {ns : List Int} (h : ns.Pairwise (· < ·)) : (keptF rules ns).Pairwise (· < ·) := h.filter _
/-- two rising lists with the same members are one -/
theorem rise_ext : ∀ {l m : List Int}, l.Pairwise (· < ·) → m.Pairwise (· < ·) → (∀ x, x ∈ l ↔ x ∈ m) → l = m
  | [], [], _, _, _ => rfl
  | [], y :: m, _, _, h => absurd ((h y).mpr List.mem_cons_self) (by simp)
  | x :: l, [], _, _, h => absurd ((h x).mp List.mem_cons_self) (by simp)
  | x :: l, y :: m, hl, hm, h => by
    obtain ⟨hx, hl'⟩ := List.pairwise_cons.mp hl
    obtain ⟨hy, hm'⟩ := List.pairwise_cons.mp hm
    have e : x = y := by
      rcases List.mem_cons.mp ((h x).mp List.mem_cons_self) with e | h1
      · exact e
      · rcases List.mem_cons.mp ((h y).mpr List.mem_cons_self) with e | h2
        · exact e.symm
        · have a := hx y h2
          have b := hy x h1
          omega
    subst e
    have : l = m := rise_ext hl' hm' fun z => by
      constructor
      · intro hz
        have hxz := hx z hz
        rcases List.mem_cons.mp ((h z).mp (List.mem_cons_of_mem _ hz)) with e | h1
        · omega
        · exact h1
      · intro hz
        have hxz := hy z hz
        rcases List.mem_cons.mp ((h z).mpr (List.mem_cons_of_mem _ hz)) with e | h1
        · omega
        · exact h1
    rw [this]
theorem rise_of_le {l : List Int} (h : l.Pairwise (· ≤ ·)) (nd : l.Nodup) : l.Pairwise (· < ·) := by
  have := h.and nd
  exact this.imp fun {a b} ⟨h1, h2⟩ => by omega
theorem take_prefix {α : Type} {l : List α} {p : List α} {k : Nat} (h : ∃ t, l = p ++ t) (hp : p.length = k) : p = l.take k := by
  obtain ⟨t, rfl⟩ := h
  subst hp
  simp
theorem endsR_pre (rs : List Int) (ah : Option Int) : ∀ (t l : List Int), ∃ u, endsR rs ah (l ++ t) = endsR rs ah l ++ u
  | [], l => ⟨[], by simp⟩
  | x :: t, l => by
    obtain ⟨u, hu⟩ := endsR_pre rs ah t (l ++ [x])
    rw [List.append_assoc, List.singleton_append] at hu
    rw [hu, endsR_snoc, List.append_assoc]
    exact ⟨_, rfl⟩
end Nk
/-! ### texts in order; tables of names with numbers; parts -/
namespace Nk
open PySem
/-- texts by their signs -/
def sl (a b : Str) : Prop := a.cps.toList < b.cps.toList
instance (a b : Str) : Decidable (sl a b) := inferInstanceAs (Decidable (a.cps.toList < b.cps.toList))
theorem sl_irrefl (a : Str) : ¬ sl a a := List.lt_irrefl _
theorem sl_trans {a b c : Str} (h : sl a b) (h' : sl b c) : sl a c := List.lt_trans h h'
theorem sl_asymm {a b : Str} (h : sl a b) : ¬ sl b a := fun h' => sl_irrefl a (sl_trans h h')
theorem sl_tri {a b : Str} (h1 : ¬ sl a b) (h2 : ¬ sl b a) : a = b := by
  have e : a.cps.toList = b.cps.toList := List.le_antisymm h2 h1
  obtain ⟨⟨x⟩⟩ := a
  obtain ⟨⟨y⟩⟩ := b
  simp only at e
  rw [e]
theorem sl_ntrans {a b c : Str} (h1 : ¬ sl b a) (h2 : ¬ sl c b) : ¬ sl c a := by
  intro h
  by_cases e : sl b c
  · exact h1 (sl_trans e h)
  · have := sl_tri e h2
    subst this
    exact h1 h
theorem srt_uniq : ∀ {xs ys : List Str}, xs.Pairwise sl → ys.Pairwise sl → (∀ k, k ∈ xs ↔ k ∈ ys) → xs = ys
  | [], [], _, _, _ => rfl
  | [], y :: ys, _, _, h => absurd ((h y).mpr List.mem_cons_self) (by simp)
  | x :: xs, [], _, _, h => absurd ((h x).mp List.mem_cons_self) (by simp)
  | x :: xs, y :: ys, hx, hy, h => by
    obtain ⟨hx1, hx2⟩ := List.pairwise_cons.mp hx
    obtain ⟨hy1, hy2⟩ := List.pairwise_cons.mp hy
    have e : x = y := by
      rcases List.mem_cons.mp ((h x).mp List.mem_cons_self) with e | m
      · exact e
      · rcases List.mem_cons.mp ((h y).mpr List.mem_cons_self) with e | m'
        · exact e.symm
        · exact absurd (hy1 x m) (sl_asymm (hx1 y m'))
    subst e
    rw [srt_uniq hx2 hy2 fun k => ?_]
    constructor
    · intro m
      rcases List.mem_cons.mp ((h k).mp (List.mem_cons_of_mem _ m)) with e | m'
      · subst e; exact absurd (hx1 k m) (sl_irrefl k)
      · exact m'
    · intro m
      rcases List.mem_cons.mp ((h k).mpr (List.mem_cons_of_mem _ m)) with e | m'
      · subst e; exact absurd (hy1 k m) (sl_irrefl k)
      · exact m'
def insS (a : Str) : List Str → List Str
  | [] => [a]
  | b :: r => if sl a b then a :: b :: r else if a = b then b :: r else b :: insS a r
theorem mem_insS {a k : Str} : ∀ {l : List Str}, k ∈ insS a l ↔ k = a ∨ k ∈ l
  | [] => by simp [insS]
  | b :: r => by
    unfold insS
    by_cases h1 : sl a b
    · simp [h1]
    · by_cases h2 : a = b
      · rw [if_neg h1, if_pos h2, h2]
        simp
      · simp only [h1, h2, if_false, List.mem_cons, mem_insS (l := r)]
        constructor
        · rintro (h | h | h)
          · exact .inr (.inl h)
          · exact .inl h
          · exact .inr (.inr h)
        · rintro (h | h | h)
          · exact .inr (.inl h)
          · exact .inl h
          · exact .inr (.inr h)
theorem pw_insS {a : Str} : ∀ {l : List Str}, l.Pairwise sl → (insS a l).Pairwise sl
  | [], _ => by simp [insS]
  | b :: r, h => by
    obtain ⟨hb1, hb2⟩ := List.pairwise_cons.mp h
    unfold insS
    by_cases h1 : sl a b
    · simp only [h1, if_true]
      refine List.pairwise_cons.mpr ⟨fun k hk => ?_, h⟩
      rcases List.mem_cons.mp hk with e | m
      · subst e; exact h1
      · exact sl_trans h1 (hb1 k m)
    · by_cases h2 : a = b
      · rw [if_neg h1, if_pos h2]
        exact h
      · simp only [h1, h2, if_false]
        refine List.pairwise_cons.mpr ⟨fun k hk => ?_, pw_insS hb2⟩
        rcases mem_insS.mp hk with e | m
        · subst e
          by_cases c : sl b k
          · exact c
          · exact absurd (sl_tri h1 c) h2
        · exact hb1 k m
def srt (l : List Str) : List Str := l.foldr insS []
theorem mem_srt {k : Str} : ∀ {l : List Str}, k ∈ srt l ↔ k ∈ l
  | [] => by simp [srt]
  | a :: r => by
    show k ∈ insS a (srt r) ↔ _
    rw [mem_insS, mem_srt (l := r), List.mem_cons]
theorem pw_srt : ∀ {l : List Str}, (srt l).Pairwise sl
  | [] => by simp [srt]
  | a :: r => pw_insS (pw_srt (l := r))
theorem pw_nodup {l : List Str} (h : l.Pairwise sl) : l.Nodup := by
  refine List.Pairwise.imp (fun {a b} h => ?_) h
  intro e
  subst e
  exact sl_irrefl _ h
theorem nodup_le {α : Type} [DecidableEq α] : ∀ {l m : List α}, l.Nodup → (∀ x ∈ l, x ∈ m) → l.length ≤ m.length
  | [], _, _, _ => Nat.zero_le _
  | a :: r, m, h, s => by
    obtain ⟨h1, h2⟩ := List.nodup_cons.mp h
    have ha := s a List.mem_cons_self
    have := nodup_le (l := r) (m := m.erase a) h2 fun x hx => by
      refine (List.mem_erase_of_ne ?_).mpr (s x (List.mem_cons_of_mem _ hx))
      intro e; subst e; exact h1 hx
    rw [List.length_erase_of_mem ha] at this
    have := List.length_pos_of_mem ha
    simp only [List.length_cons]
    omega
theorem nodup_same {α : Type} [DecidableEq α] {l m : List α} (hl : l.Nodup) (hm : m.Nodup) (s : ∀ x, x ∈ l ↔ x ∈ m) : l.length = m.length :=
  Nat.le_antisymm (nodup_le hl fun x hx => (s x).mp hx) (nodup_le hm fun x hx => (s x).mpr hx)
/-! tables -/
abbrev Tb := List (Str × Int)
def lk (t : Tb) (n : Str) : Option Int := (t.find? fun p => decide (p.1 = n)).map (·.2)
def putT (t : Tb) (n : Str) (i : Int) : Tb := if (t.any fun p => decide (p.1 = n)) = true then t.map (fun p => if p.1 = n then (p.1, i) else p) else t ++ [(n, i)]
def dropT (t : Tb) (n : Str) : Tb := t.filter fun p => decide (p.1 ≠ n)
def nms (t : Tb) : List Str := t.map (·.1)
theorem lk_nil {n : Str} : lk [] n = none := rfl
theorem lk_cons {p : Str × Int} {t : Tb} {n : Str} : lk (p :: t) n = if p.1 = n then some p.2 else lk t n := by
  unfold lk
  rw [List.find?_cons]
  by_cases e : p.1 = n <;> simp [e]
theorem lk_none {n : Str} : ∀ {t : Tb}, lk t n = none ↔ n ∉ nms t
  | [] => by simp [lk_nil, nms]
  | p :: t => by
    rw [lk_cons]
    have ih := lk_none (n := n) (t := t)
    by_cases e : p.1 = n
    · simp [e, nms]
    · rw [if_neg e, ih]
      simp only [nms, List.map_cons, List.mem_cons, not_or]
      exact ⟨fun h => ⟨fun z => e z.symm, h⟩, fun h => h.2⟩
theorem lk_mem {t : Tb} {n : Str} {i : Int} (h : lk t n = some i) : (n, i) ∈ t := by
  unfold lk at h
  cases e : t.find? fun p => decide (p.1 = n) with
  | none => rw [e] at h; cases h
  | some p =>
    rw [e] at h
    have h1 := List.find?_some e
    have h2 := List.mem_of_find?_eq_some e
    simp at h h1
    obtain ⟨a, b⟩ := p
    simp only at h h1
    subst h h1
    exact h2
theorem lk_of {n : Str} {i : Int} : ∀ {t : Tb}, (nms t).Nodup → (n, i) ∈ t → lk t n = some i
  | p :: t, h, m => by
    rw [lk_cons]
    obtain ⟨h1, h2⟩ := List.nodup_cons.mp (show (p.1 :: nms t).Nodup from h)
    rcases List.mem_cons.mp m with e | m'
    · rw [← e]; simp
    · have : p.1 ≠ n := fun e => h1 (by rw [e]; exact List.mem_map.mpr ⟨_, m', rfl⟩)
      rw [if_neg this]
      exact lk_of h2 m'
theorem mem_nms {t : Tb} {n : Str} : n ∈ nms t ↔ ∃ i, lk t n = some i := by
  constructor
  · intro h
    cases e : lk t n with
    | none => exact absurd h (lk_none.mp e)
    | some i => exact ⟨i, rfl⟩
  · rintro ⟨i, e⟩
    exact List.mem_map.mpr ⟨_, lk_mem e, rfl⟩
theorem lk_app {n : Str} {i : Int} {m : Str} : ∀ {t : Tb}, n ∉ nms t → lk (t ++ [(n, i)]) m = if m = n then some i else lk t m
  | [], _ => by
    rw [List.nil_append, lk_cons, lk_nil]
    by_cases e : n = m
    · simp [e]
    · rw [if_neg e, if_neg (fun z => e z.symm)]
  | p :: t, h => by
    rw [List.cons_append, lk_cons, lk_cons]
    have h1 : ¬ n = p.1 ∧ n ∉ nms t := by simpa [nms] using h
    rw [lk_app h1.2]
    by_cases e : p.1 = m
    · simp only [e, if_true]
      rw [if_neg (fun z => h1.1 (by rw [e, z]))]
    · simp only [e, if_false]
theorem lk_map {n : Str} {i : Int} {m : Str} : ∀ {t : Tb}, lk (t.map fun p => if p.1 = n then (p.1, i) else p) m = (lk t m).map fun x => if m = n then i else x
  | [] => rfl
  | p :: t => by
    rw [List.map_cons, lk_cons, lk_cons, lk_map]
    by_cases e : p.1 = m
    · subst e
      by_cases c : p.1 = n
      · rw [if_pos c]
        simp [c]
      · rw [if_neg c]
        simp [c]
    · have e2 : ¬ (if p.1 = n then (p.1, i) else p).1 = m := by split <;> exact e
      rw [if_neg e, if_neg e2]
theorem any_nms {t : Tb} {n : Str} : (t.any fun p => decide (p.1 = n)) = decide (n ∈ nms t) := by
  rw [Bool.eq_iff_iff, List.any_eq_true, decide_eq_true_eq]
  constructor
  · rintro ⟨p, h1, h2⟩
    exact List.mem_map.mpr ⟨p, h1, by simpa using h2⟩
  · intro h
    obtain ⟨p, h1, h2⟩ := List.mem_map.mp h
    exact ⟨p, h1, by simpa using h2⟩
theorem lk_put {t : Tb} {n m : Str} {i : Int} : lk (putT t n i) m = if m = n then some i else lk t m := by
  unfold putT
  rw [any_nms]
  by_cases c : n ∈ nms t
  · rw [if_pos (by simpa using c), lk_map]
    by_cases e : m = n
    · subst e
      obtain ⟨j, hj⟩ := mem_nms.mp c
      simp [hj]
    · cases lk t m <;> simp [e]
  · rw [if_neg (by simpa using c), lk_app c]
theorem lk_drop {n m : Str} : ∀ {t : Tb}, lk (dropT t n) m = if m = n then none else lk t m
  | [] => by simp [dropT, lk_nil]
  | p :: t => by
    have ih := lk_drop (n := n) (m := m) (t := t)
    unfold dropT at ih ⊢
    rw [List.filter_cons]
    by_cases c : p.1 = n
    · rw [if_neg (by simpa using c), ih, lk_cons]
      by_cases e : m = n
      · simp [e]
      · rw [if_neg e, if_neg e, if_neg (fun z => e (by rw [← z, c]))]
    · rw [if_pos (by simpa using c), lk_cons, lk_cons, ih]
      by_cases e : m = n
      · subst e; simp [c]
      · simp [e]
theorem nms_put {t : Tb} {n : Str} {i : Int} : nms (putT t n i) = if n ∈ nms t then nms t else nms t ++ [n] := by
  unfold putT
  rw [any_nms]
  by_cases c : n ∈ nms t
  · rw [if_pos (decide_eq_true c), if_pos c]
    unfold nms
    rw [List.map_map]
    refine List.map_congr_left fun p _ => ?_
    simp only [Function.comp]
    by_cases e : p.1 = n <;> simp [e]
  · rw [if_neg (by simpa using c), if_neg c]
    simp [nms]
theorem put_len {t : Tb} {n : Str} {i : Int} : (putT t n i).length = if n ∈ nms t then t.length else t.length + 1 := by
  have e : (putT t n i).length = (nms (putT t n i)).length := (List.length_map _).symm
  rw [e, nms_put]
  by_cases c : n ∈ nms t
  · rw [if_pos c, if_pos c]; exact List.length_map _
  · rw [if_neg c, if_neg c]; simp [nms]
theorem put_nd {t : Tb} {n : Str} {i : Int} (h : (nms t).Nodup) : (nms (putT t n i)).Nodup := by
  rw [nms_put]
  split
  · exact h
  · rename_i c
    rw [List.nodup_append]
    exact ⟨h, by simp, fun a ha b hb => by rw [List.mem_singleton.mp hb]; intro e; subst e; exact c ha⟩
theorem drop_nd {t : Tb} {n : Str} (h : (nms t).Nodup) : (nms (dropT t n)).Nodup := List.Nodup.sublist (List.Sublist.map _ List.filter_sublist) h
theorem mem_put {t : Tb} {n : Str} {i : Int} {p : Str × Int} (h : p ∈ putT t n i) : p = (n, i) ∨ p ∈ t := by
  unfold putT at h
  split at h
  · obtain ⟨q, hq, e⟩ := List.mem_map.mp h
    by_cases c : q.1 = n
    · rw [if_pos c, c] at e; exact .inl e.symm
    · rw [if_neg c] at e; exact .inr (e ▸ hq)
  · rcases List.mem_append.mp h with h | h
    · exact .inr h
    · exact .inl (List.mem_singleton.mp h)
/-- a name -/
def isNm (s : Str) : Prop := 1 ≤ s.cps.toList.length ∧ s.cps.toList.length ≤ 6 ∧ ∀ c ∈ s.cps.toList, 97 ≤ c ∧ c ≤ 122
instance (s : Str) : Decidable (isNm s) := inferInstanceAs (Decidable (_ ∧ _ ∧ _))
structure OkT (t : Tb) : Prop where
  nd : (nms t).Nodup
  nm : ∀ p ∈ t, isNm p.1
  num : ∀ p ∈ t, 0 ≤ p.2 ∧ p.2 ≤ 99
theorem OkT.nil : OkT [] := ⟨by simp [nms], (fun _ h => nomatch h), (fun _ h => nomatch h)⟩
theorem OkT.put {t : Tb} (h : OkT t) {n : Str} {i : Int} (hn : isNm n) (h0 : 0 ≤ i) (h1 : i ≤ 99) : OkT (putT t n i) :=
  ⟨put_nd h.nd, fun p hp => (mem_put hp).elim (fun e => by rw [e]; exact hn) (h.nm p), fun p hp => (mem_put hp).elim (fun e => by rw [e]; exact ⟨h0, h1⟩) (h.num p)⟩
theorem OkT.drop {t : Tb} (h : OkT t) {n : Str} : OkT (dropT t n) := ⟨drop_nd h.nd, fun p hp => h.nm p (List.mem_filter.mp hp).1, fun p hp => h.num p (List.mem_filter.mp hp).1⟩
theorem OkT.same_len {a b : Tb} (ha : OkT a) (hb : OkT b) (h : ∀ n, lk a n = lk b n) : a.length = b.length := by
  have := nodup_same ha.nd hb.nd fun n => by rw [mem_nms, mem_nms, h n]
  simpa [nms] using this
theorem OkT.le_len {a b : Tb} (ha : OkT a) (h : ∀ n, lk b n = none → lk a n = none) : a.length ≤ b.length := by
  have := nodup_le ha.nd (m := nms b) fun n hn => by
    by_cases c : n ∈ nms b
    · exact c
    · exact absurd hn (lk_none.mp (h n (lk_none.mpr c)))
  simpa [nms] using this
/-! parts -/
abbrev Pt := List (Str × Option Int)
def diffN (a b : Tb) : List Str := (srt (nms a ++ nms b)).filter fun n => decide (lk a n ≠ lk b n)
def part (a b : Tb) : Pt := (diffN a b).map fun n => (n, lk b n)
theorem mem_diffN {a b : Tb} {n : Str} : n ∈ diffN a b ↔ lk a n ≠ lk b n := by
  unfold diffN
  rw [List.mem_filter, mem_srt, List.mem_append, decide_eq_true_eq]
  refine ⟨fun h => h.2, fun h => ⟨?_, h⟩⟩
  by_cases c : n ∈ nms a
  · exact .inl c
  · by_cases c' : n ∈ nms b
    · exact .inr c'
    · exact absurd ((lk_none.mpr c).trans (lk_none.mpr c').symm) h
theorem pw_diffN {a b : Tb} : (diffN a b).Pairwise sl := List.Pairwise.sublist List.filter_sublist pw_srt
theorem diffN_congr {a b a' b' : Tb} (ha : ∀ n, lk a n = lk a' n) (hb : ∀ n, lk b n = lk b' n) : diffN a b = diffN a' b' :=
  srt_uniq pw_diffN pw_diffN fun k => by rw [mem_diffN, mem_diffN, ha, hb]
theorem part_congr {a b a' b' : Tb} (ha : ∀ n, lk a n = lk a' n) (hb : ∀ n, lk b n = lk b' n) : part a b = part a' b' := by
  unfold part
  rw [diffN_congr ha hb]
  exact List.map_congr_left fun n _ => by rw [hb n]
theorem diffN_swap {a b : Tb} : diffN a b = diffN b a := srt_uniq pw_diffN pw_diffN fun k => by rw [mem_diffN, mem_diffN]; exact ne_comm
theorem part_len {a b : Tb} : (part a b).length = (diffN a b).length := List.length_map _
theorem diffN_len {a b : Tb} : (diffN a b).length ≤ a.length + b.length := by
  have := nodup_le (pw_nodup (pw_diffN (a := a) (b := b))) (m := nms a ++ nms b) fun x hx => by
    have := (List.mem_filter.mp hx).1
    rwa [mem_srt] at this
  simpa [nms] using this
theorem part_nil {a b : Tb} : part a b = [] ↔ ∀ n, lk a n = lk b n := by
  unfold part
  rw [List.map_eq_nil_iff]
  constructor
  · intro h n
    refine Decidable.byContradiction fun c => ?_
    have := mem_diffN.mpr c
    rw [h] at this
    cases this
  · intro h
    cases e : diffN a b with
    | nil => rfl
    | cons n r => exact absurd (h n) (mem_diffN.mp (by rw [e]; exact List.mem_cons_self))
structure GoodP (ps : Pt) : Prop where
  pw : (ps.map (·.1)).Pairwise sl
  nm : ∀ p ∈ ps, isNm p.1
  num : ∀ p ∈ ps, ∀ i, p.2 = some i → 0 ≤ i ∧ i ≤ 99
  len : ps.length ≤ 40
theorem part_names {a b : Tb} : (part a b).map (·.1) = diffN a b := by
  unfold part
  rw [List.map_map]
  exact List.map_id _
theorem part_good {a b : Tb} (ha : OkT a) (hb : OkT b) (la : a.length ≤ 20) (lb : b.length ≤ 20) : GoodP (part a b) := by
  refine ⟨by rw [part_names]; exact pw_diffN, fun p hp => ?_, fun p hp i e => ?_, ?_⟩
  · obtain ⟨n, hn, rfl⟩ := List.mem_map.mp hp
    have h := mem_diffN.mp hn
    cases e : lk a n with
    | some i => exact ha.nm _ (lk_mem e)
    | none =>
      cases e' : lk b n with
      | some i => exact hb.nm _ (lk_mem e')
      | none => rw [e, e'] at h; exact absurd rfl h
  · obtain ⟨n, hn, rfl⟩ := List.mem_map.mp hp
    exact hb.num _ (lk_mem e)
  · rw [part_len]
    have := diffN_len (a := a) (b := b)
    omega
def stepP (t : Tb) (n : Str) (x : Option Int) : Tb := match x with
  | none => dropT t n
  | some i => putT t n i
theorem lk_step {t : Tb} {n m : Str} {x : Option Int} : lk (stepP t n x) m = if m = n then x else lk t m := by
  cases x with
  | none => exact lk_drop
  | some i => exact lk_put
theorem OkT.step {t : Tb} (h : OkT t) {n : Str} {x : Option Int} (hn : isNm n) (hx : ∀ i, x = some i → 0 ≤ i ∧ i ≤ 99) : OkT (stepP t n x) := by
  cases x with
  | none => exact h.drop
  | some i => exact h.put hn (hx i rfl).1 (hx i rfl).2
theorem step_len {t : Tb} {n : Str} {x : Option Int} : (stepP t n x).length ≤ t.length + 1 := by
  cases x with
  | none => exact Nat.le_succ_of_le (List.length_filter_le _ _)
  | some i => show (putT t n i).length ≤ _; rw [put_len]; split <;> omega
def applyP : Tb → Pt → Option Tb
  | t, [] => some t
  | t, (n, x) :: ps => if lk t n = x then none else applyP (stepP t n x) ps
theorem applyP_some : ∀ {ps : Pt} {t : Tb}, (ps.map (·.1)).Nodup → (∀ p ∈ ps, lk t p.1 ≠ p.2) → ∃ t', applyP t ps = some t' ∧ (∀ p ∈ ps, lk t' p.1 = p.2) ∧ ∀ n, n ∉ ps.map (·.1) → lk t' n = lk t n
  | [], t, _, _ => ⟨t, rfl, (fun _ h => nomatch h), fun _ _ => rfl⟩
  | (n, x) :: ps, t, nd, h => by
    obtain ⟨h1, h2⟩ := List.nodup_cons.mp (show (n :: ps.map (·.1)).Nodup from nd)
    have hn : lk t n ≠ x := h (n, x) List.mem_cons_self
    obtain ⟨t', e1, e2, e3⟩ := applyP_some (ps := ps) (t := stepP t n x) h2 fun p hp => by
      have hne : p.1 ≠ n := fun e => h1 (by rw [← e]; exact List.mem_map.mpr ⟨p, hp, rfl⟩)
      rw [lk_step, if_neg hne]
      exact h p (List.mem_cons_of_mem _ hp)
    refine ⟨t', by unfold applyP; rw [if_neg hn]; exact e1, fun p hp => ?_, fun m hm => ?_⟩
    · rcases List.mem_cons.mp hp with e | m
      · subst e
        rw [e3 n h1, lk_step, if_pos rfl]
      · exact e2 p m
    · have hm' : ¬ m = n ∧ m ∉ ps.map (·.1) := by simpa using hm
      rw [e3 m hm'.2, lk_step, if_neg hm'.1]
theorem applyP_none : ∀ {ps : Pt} {t : Tb}, (ps.map (·.1)).Nodup → (∃ p ∈ ps, lk t p.1 = p.2) → applyP t ps = none
  | (n, x) :: ps, t, nd, h => by
    obtain ⟨h1, h2⟩ := List.nodup_cons.mp (show (n :: ps.map (·.1)).Nodup from nd)
    unfold applyP
    by_cases c : lk t n = x
    · rw [if_pos c]
    · rw [if_neg c]
      refine applyP_none h2 ?_
      obtain ⟨p, hp, e⟩ := h
      rcases List.mem_cons.mp hp with z | m
      · subst z; exact absurd e c
      · refine ⟨p, m, ?_⟩
        have hne : p.1 ≠ n := fun e => h1 (by rw [← e]; exact List.mem_map.mpr ⟨p, m, rfl⟩)
        rw [lk_step, if_neg hne]
        exact e
theorem applyP_ok : ∀ {ps : Pt} {t t' : Tb}, OkT t → (∀ p ∈ ps, isNm p.1) → (∀ p ∈ ps, ∀ i, p.2 = some i → 0 ≤ i ∧ i ≤ 99) → applyP t ps = some t' → OkT t'
  | [], t, t', h, _, _, e => by cases e; exact h
  | (n, x) :: ps, t, t', h, h1, h2, e => by
    unfold applyP at e
    by_cases c : lk t n = x
    · rw [if_pos c] at e; cases e
    · rw [if_neg c] at e
      exact applyP_ok (h.step (h1 _ List.mem_cons_self) (h2 _ List.mem_cons_self)) (fun p hp => h1 p (List.mem_cons_of_mem _ hp)) (fun p hp => h2 p (List.mem_cons_of_mem _ hp)) e
/-- the part of two tables leads from the one to the other -/
theorem apply_part {a b : Tb} : ∃ t', applyP a (part a b) = some t' ∧ ∀ n, lk t' n = lk b n := by
  obtain ⟨t', e1, e2, e3⟩ := applyP_some (ps := part a b) (t := a) (by rw [part_names]; exact pw_nodup pw_diffN) fun p hp => by
    obtain ⟨n, hn, rfl⟩ := List.mem_map.mp hp
    exact mem_diffN.mp hn
  refine ⟨t', e1, fun n => ?_⟩
  by_cases c : lk a n = lk b n
  · rw [e3 n (by rw [part_names, mem_diffN]; exact fun z => z c)]
    exact c
  · exact e2 (n, lk b n) (List.mem_map.mpr ⟨n, mem_diffN.mpr c, rfl⟩)
end Nk
/-! ### plans: reads and room -/
namespace Nk
open PySem
def rdStep (acc : List Int) (w : Str) : List Int := acc ++ [if w = "whole" then 1 else if w = "part" then acc.getLast?.getD 0 + 1 else 2]
def readsW (ws : List Str) : List Int := ws.foldl rdStep []
theorem readsW_next {ws : List Str} {i : Nat} {w : Str} (h : ws[i]? = some w) : readsW (ws.take (i + 1)) = rdStep (readsW (ws.take i)) w := by
  unfold readsW
  rw [List.take_add_one, h]
  show List.foldl rdStep [] (ws.take i ++ [w]) = _
  rw [List.foldl_append]
  rfl
theorem rdStep_len (acc : List Int) (w : Str) : (rdStep acc w).length = acc.length + 1 := by simp [rdStep]
theorem readsW_len (ws : List Str) : (readsW ws).length = ws.length := by
  have : ∀ (ws : List Str) (acc : List Int), (ws.foldl rdStep acc).length = acc.length + ws.length := by
    intro ws
    induction ws with
    | nil => intro acc; rfl
    | cons w ws ih =>
      intro acc
      rw [List.foldl_cons, ih, rdStep_len, List.length_cons]
      omega
  have h := this ws []
  simpa [readsW] using h
def sizeW (ts : List Tb) (w : Str) (i base : Nat) : Nat := if w = "whole" then (ts.getD i []).length else (part (ts.getD (if w = "part" then i - 1 else base) []) (ts.getD i [])).length
def roomS (ts : List Tb) (ws : List Str) : Nat → Int × Nat
  | 0 => (0, 0)
  | i + 1 => ((roomS ts ws i).1 + sizeW ts (ws.getD i Str.empty) i (if ws.getD i Str.empty = "whole" then i else (roomS ts ws i).2), if ws.getD i Str.empty = "whole" then i else (roomS ts ws i).2)
theorem roomS_base (ts : List Tb) (ws : List Str) : ∀ i, (roomS ts ws i).2 ≤ i
  | 0 => Nat.le_refl _
  | i + 1 => by
    have := roomS_base ts ws i
    simp only [roomS]
    split <;> omega
abbrev planWords : List Str := ["whole", "part", "wide"]
/-- a good plan -/
structure GoodW (ws : List Str) : Prop where
  l1 : 1 ≤ ws.length
  l8 : ws.length ≤ 8
  wd : ∀ w ∈ ws, w ∈ planWords
  fst : ws[0]? = some ("whole" : Str)
end Nk
/-! ### the cheapest plan: the first of those with the least room -/
namespace Nk
open PySem
def cnt (w : Str) (many : Nat) : Nat := if w = "whole" then 1 else if w = "part" then many + 1 else 2
def okW (longest i many : Nat) (w : Str) : Bool := decide (cnt w many ≤ longest) && (decide (0 < i) || decide (w = "whole"))
def nbase (w : Str) (i base : Nat) : Nat := if w = "whole" then i else base
abbrev Bst := Option (Nat × List Str)
def comb (a b : Bst) : Bst := match a, b with
  | none, b => b
  | some x, none => some x
  | some x, some y => if y.1 < x.1 then some y else some x
theorem comb_none (a : Bst) : comb a none = a := by cases a <;> rfl
theorem none_comb (a : Bst) : comb none a = a := rfl
theorem comb_assoc (a b c : Bst) : comb (comb a b) c = comb a (comb b c) := by
  cases a with
  | none => rfl
  | some x =>
    cases b with
    | none => rfl
    | some y =>
      cases c with
      | none => rw [comb_none, comb_none]
      | some z =>
        simp only [comb]
        by_cases h1 : y.1 < x.1
        · rw [if_pos h1]
          by_cases h2 : z.1 < y.1
          · simp only [if_pos h2]
            rw [if_pos (by omega)]
          · simp only [if_neg h2]
            rw [if_pos h1]
        · rw [if_neg h1]
          by_cases h2 : z.1 < y.1
          · simp only [if_pos h2]
          · simp only [if_neg h2]
            by_cases h3 : z.1 < x.1
            · omega
            · rw [if_neg h3, if_neg h1]
def bestL (l : List (Nat × List Str)) : Bst := l.foldl (fun acc x => comb acc (some x)) none
theorem bestL_acc : ∀ (l : List (Nat × List Str)) (a : Bst), l.foldl (fun acc x => comb acc (some x)) a = comb a (bestL l)
  | [], a => (comb_none a).symm
  | x :: l, a => by
    unfold bestL
    rw [List.foldl_cons, List.foldl_cons, bestL_acc l, bestL_acc l (comb none (some x)), comb_assoc]
    rfl
theorem bestL_app (l m : List (Nat × List Str)) : bestL (l ++ m) = comb (bestL l) (bestL m) := by
  unfold bestL
  rw [List.foldl_append, bestL_acc m]
  rfl
theorem bestL_cons (x : Nat × List Str) (l : List (Nat × List Str)) : bestL (x :: l) = comb (some x) (bestL l) := bestL_app [x] l
def addW (s : Nat) (w : Str) (r : Nat × List Str) : Nat × List Str := (s + r.1, w :: r.2)
theorem comb_map (s : Nat) (w : Str) (a b : Bst) : (comb a b).map (addW s w) = comb (a.map (addW s w)) (b.map (addW s w)) := by
  cases a with
  | none => cases b <;> rfl
  | some x =>
    cases b with
    | none => rfl
    | some y =>
      simp only [comb, Option.map_some, addW]
      by_cases h : y.1 < x.1
      · rw [if_pos h, if_pos (by omega)]; rfl
      · rw [if_neg h, if_neg (by omega)]; rfl
theorem bestL_map (s : Nat) (w : Str) : ∀ l : List (Nat × List Str), bestL (l.map (addW s w)) = (bestL l).map (addW s w)
  | [] => rfl
  | x :: l => by
    have h1 : bestL (x :: l) = comb (some x) (bestL l) := bestL_app [x] l
    have h2 : bestL ((x :: l).map (addW s w)) = comb (some (addW s w x)) (bestL (l.map (addW s w))) := bestL_app [addW s w x] _
    rw [h1, h2, comb_map, bestL_map s w l]
    rfl
def bestF (ts : List Tb) (longest : Nat) : Nat → Nat → Nat → Nat → Bst
  | 0, _, _, _ => some (0, [])
  | n + 1, i, base, many => planWords.foldl (fun acc w => if okW longest i many w = true then comb acc ((bestF ts longest n (i + 1) (nbase w i base) (cnt w many)).map (addW (sizeW ts w i base) w)) else acc) none
def allW : Nat → List (List Str)
  | 0 => [[]]
  | n + 1 => planWords.flatMap fun w => (allW n).map (w :: ·)
def costF (ts : List Tb) : List Str → Nat → Nat → Nat
  | [], _, _ => 0
  | w :: r, i, base => sizeW ts w i base + costF ts r (i + 1) (nbase w i base)
def allowF (longest : Nat) : List Str → Nat → Nat → Bool
  | [], _, _ => true
  | w :: r, i, many => okW longest i many w && allowF longest r (i + 1) (cnt w many)
def rowF (ts : List Tb) (longest n i base many : Nat) : List (Nat × List Str) := ((allW n).filter fun ws => allowF longest ws i many).map fun ws => (costF ts ws i base, ws)
theorem rowF_succ (ts : List Tb) (longest n i base many : Nat) : rowF ts longest (n + 1) i base many = planWords.flatMap fun w => if okW longest i many w = true then (rowF ts longest n (i + 1) (nbase w i base) (cnt w many)).map (addW (sizeW ts w i base) w) else [] := by
  unfold rowF
  rw [allW, List.filter_flatMap, List.map_flatMap]
  congr 1
  funext w
  rw [List.filter_map, List.map_map]
  cases h : okW longest i many w with
  | true =>
    rw [if_pos rfl, List.map_map]
    have e : (allW n).filter ((fun ws => allowF longest ws i many) ∘ (w :: ·)) = (allW n).filter fun ws => allowF longest ws (i + 1) (cnt w many) := by
      refine List.filter_congr fun ws _ => ?_
      simp [Function.comp, allowF, h]
    rw [e]
    rfl
  | false =>
    rw [if_neg (by simp)]
    have e : (allW n).filter ((fun ws => allowF longest ws i many) ∘ (w :: ·)) = [] := by
      rw [List.filter_eq_nil_iff]
      intro ws _
      simp [Function.comp, allowF, h]
    rw [e]
    rfl
theorem bestL_flat {f : Str → List (Nat × List Str)} : ∀ (l : List Str) (a : Bst), l.foldl (fun acc w => comb acc (bestL (f w))) a = comb a (bestL (l.flatMap f))
  | [], a => (comb_none a).symm
  | w :: l, a => by
    rw [List.foldl_cons, bestL_flat l, List.flatMap_cons, bestL_app, comb_assoc]
theorem bestF_row (ts : List Tb) (longest : Nat) : ∀ n i base many, bestF ts longest n i base many = bestL (rowF ts longest n i base many)
  | 0, i, base, many => rfl
  | n + 1, i, base, many => by
    rw [rowF_succ, ← none_comb (bestL _), ← bestL_flat]
    unfold bestF
    congr 1
    funext acc w
    by_cases h : okW longest i many w = true
    · rw [if_pos h, if_pos h, bestL_map, bestF_row ts longest n]
    · rw [if_neg h, if_neg h]
      exact (comb_none acc).symm
theorem comb_some {a b : Bst} (h : a ≠ none) : comb a b ≠ none := by
  cases a with
  | none => exact absurd rfl h
  | some x =>
    cases b with
    | none => simp [comb]
    | some y => simp only [comb]; split <;> simp
theorem bestF_some (ts : List Tb) {longest : Nat} (h1 : 1 ≤ longest) : ∀ n i base many, bestF ts longest n i base many ≠ none
  | 0, _, _, _ => by simp [bestF]
  | n + 1, i, base, many => by
    have ok : okW longest i many "whole" = true := by simp [okW, cnt, h1]
    have h := bestF_some ts h1 n (i + 1) (nbase "whole" i base) (cnt "whole" many)
    unfold bestF
    simp only [planWords, List.foldl_cons, List.foldl_nil, ok, if_true, none_comb]
    have h0 : (bestF ts longest n (i + 1) (nbase "whole" i base) (cnt "whole" many)).map (addW (sizeW ts "whole" i base) "whole") ≠ none := by simpa using h
    split
    · split
      · exact comb_some (comb_some h0)
      · exact comb_some h0
    · split
      · exact comb_some h0
      · exact h0
/-! the law's own search -/
def rdF : List Str → Nat → List Nat
  | [], _ => []
  | w :: r, m => cnt w m :: rdF r (cnt w m)
theorem rdF_app : ∀ (l r : List Str) (m : Nat), rdF (l ++ r) m = rdF l m ++ rdF r ((rdF l m).getLast?.getD m)
  | [], r, m => by simp [rdF]
  | w :: l, r, m => by
    rw [List.cons_append]
    simp only [rdF]
    rw [rdF_app l r, List.cons_append]
    congr 3
    rw [List.getLast?_cons]
    cases (rdF l (cnt w m)).getLast? <;> rfl
theorem readsW_rdF (ws : List Str) : readsW ws = (rdF ws 0).map fun n : Nat => (n : Int) := by
  have : ∀ n, readsW (ws.take n) = (rdF (ws.take n) 0).map fun n : Nat => (n : Int) := by
    intro n
    induction n with
    | zero => simp [readsW, rdF]
    | succ n ih =>
      cases e : ws[n]? with
      | none =>
        have h1 : ws.length ≤ n := by simpa using e
        rw [List.take_of_length_le (by omega)] at ih ⊢
        exact ih
      | some w =>
        rw [readsW_next e, ih, List.take_add_one, e, rdF_app, List.map_append]
        unfold rdStep
        congr 1
        simp only [Option.toList_some, rdF, List.map_cons, List.map_nil]
        congr 1
        unfold cnt
        rw [List.getLast?_map]
        split
        · rfl
        · split
          · cases (rdF (List.take n ws) 0).getLast? with
            | none => rfl
            | some y => simp
          · rfl
  have h := this ws.length
  rwa [List.take_length] at h
theorem allow_rd (longest : Nat) : ∀ (ws : List Str) (i m : Nat), 0 < i → (allowF longest ws i m = true ↔ ∀ x ∈ rdF ws m, x ≤ longest)
  | [], i, m, _ => by simp [allowF, rdF]
  | w :: r, i, m, h => by
    have ih := allow_rd longest r (i + 1) (cnt w m) (by omega)
    simp only [allowF, rdF, Bool.and_eq_true, ih, List.mem_cons, forall_eq_or_imp]
    have : okW longest i m w = true ↔ cnt w m ≤ longest := by simp [okW, h]
    rw [this]
theorem allow_all (longest : Nat) (r : List Str) : allowF longest ("whole" :: r) 0 0 = true ↔ ∀ x ∈ rdF ("whole" :: r) 0, x ≤ longest := by
  have ih := allow_rd longest r 1 (cnt "whole" 0) (by omega)
  simp only [allowF, rdF, Bool.and_eq_true, ih, List.mem_cons, forall_eq_or_imp]
  have : okW longest 0 0 "whole" = true ↔ cnt "whole" 0 ≤ longest := by simp [okW]
  rw [this]
theorem size_nb (ts : List Tb) (w : Str) (i b : Nat) : sizeW ts w i (if w = "whole" then i else b) = sizeW ts w i b := by
  unfold sizeW
  by_cases c : w = "whole"
  · simp [c]
  · simp [c]
theorem costF_app (ts : List Tb) : ∀ (l r : List Str) (i base : Nat), costF ts (l ++ r) i base = costF ts l i base + costF ts r (i + l.length) (l.foldl (fun s w => (s.1 + 1, nbase w s.1 s.2)) (i, base)).2
  | [], r, i, base => by simp [costF]
  | w :: l, r, i, base => by
    rw [List.cons_append]
    simp only [costF, List.foldl_cons]
    rw [costF_app ts l r, List.length_cons, show i + (l.length + 1) = i + 1 + l.length by omega]
    omega
theorem room_cost (ts : List Tb) (ws : List Str) : (roomS ts ws ws.length).1 = (costF ts ws 0 0 : Nat) := by
  have key : ∀ n, n ≤ ws.length → roomS ts ws n = (((costF ts (ws.take n) 0 0 : Nat) : Int), ((ws.take n).foldl (fun s w => (s.1 + 1, nbase w s.1 s.2)) (0, 0)).2) ∧ ((ws.take n).foldl (fun s w => (s.1 + 1, nbase w s.1 s.2)) (0, 0)).1 = n := by
    intro n
    induction n with
    | zero => intro _; simp [roomS, costF]
    | succ n ih =>
      intro hn
      obtain ⟨h1, h2⟩ := ih (by omega)
      have e : ws[n]? = some ws[n] := List.getElem?_eq_getElem (by omega)
      have e2 : ws.getD n Str.empty = ws[n] := by rw [List.getD_eq_getElem?_getD, e]; rfl
      have e3 : ws.take (n + 1) = ws.take n ++ [ws[n]] := by rw [List.take_add_one, e]; rfl
      constructor
      · unfold roomS
        rw [e2, size_nb, h1, e3, costF_app, List.foldl_append]
        simp only [List.foldl_cons, List.foldl_nil, costF, h2, List.length_take, Nat.add_zero, Nat.zero_add, Nat.min_eq_left (show n ≤ ws.length by omega)]
        rw [Prod.mk.injEq]
        exact ⟨by push_cast; rfl, rfl⟩
      · rw [e3, List.foldl_append]
        simp only [List.foldl_cons, List.foldl_nil, h2]
  have := (key ws.length (Nat.le_refl _)).1
  rw [this, List.take_length]
/-- the law's list of plans -/
def plansL : Nat → List (List Str)
  | 0 => [["whole"]]
  | n + 1 => (plansL n).flatMap fun p => planWords.map fun w => p ++ [w]
theorem allW_end : ∀ n, allW (n + 1) = (allW n).flatMap fun p => planWords.map fun w => p ++ [w]
  | 0 => by simp [allW]
  | n + 1 => by
    have ih := allW_end n
    have h1 : allW (n + 2) = planWords.flatMap fun w => (allW (n + 1)).map (w :: ·) := rfl
    have h2 : ((allW (n + 1)).flatMap fun p => planWords.map fun w => p ++ [w]) = (planWords.flatMap fun w => (allW n).map (w :: ·)).flatMap fun p => planWords.map fun w => p ++ [w] := rfl
    rw [h1, h2, List.flatMap_assoc]
    congr 1
    funext w
    rw [ih, List.map_flatMap, List.flatMap_map]
    congr 1
theorem plansL_all : ∀ n, plansL n = (allW n).map (("whole" : Str) :: ·)
  | 0 => rfl
  | n + 1 => by
    rw [plansL, plansL_all n, allW_end, List.map_flatMap, List.flatMap_map]
    congr 1
theorem plansL_len : ∀ n, ∀ p ∈ plansL n, p.length = n + 1 ∧ (∀ w ∈ p, w ∈ planWords) ∧ p[0]? = some ("whole" : Str)
  | 0, p, h => by
    rw [List.mem_singleton.mp h]
    exact ⟨rfl, by decide +kernel, rfl⟩
  | n + 1, p, h => by
    obtain ⟨q, hq, hp⟩ := List.mem_flatMap.mp h
    obtain ⟨w, hw, rfl⟩ := List.mem_map.mp hp
    obtain ⟨h1, h2, h3⟩ := plansL_len n q hq
    refine ⟨by simp [h1], fun x hx => ?_, by rw [List.getElem?_append_left (by omega)]; exact h3⟩
    rcases List.mem_append.mp hx with hx | hx
    · exact h2 x hx
    · rw [List.mem_singleton.mp hx]; exact hw
theorem plansL_count : ∀ n, (plansL n).length = 3 ^ n
  | 0 => rfl
  | n + 1 => by
    have ih := plansL_count n
    rw [plansL, List.length_flatMap]
    simp only [List.length_map]
    rw [List.map_const', List.sum_replicate_nat, ih, Nat.pow_succ]
    rfl
/-- one plan more -/
def lawStep (ts : List Tb) (deep : Nat) (acc : Bst) (ws : List Str) : Bst := if ∀ x ∈ rdF ws 0, x ≤ deep then comb acc (some (costF ts ws 0 0, ws)) else acc
theorem law_best (ts : List Tb) (deep n : Nat) : (plansL n).foldl (lawStep ts deep) none = bestF ts deep (n + 1) 0 0 0 := by
  rw [bestF_row, rowF_succ]
  have hw : (planWords.flatMap fun w => if okW deep 0 0 w = true then (rowF ts deep n (0 + 1) (nbase w 0 0) (cnt w 0)).map (addW (sizeW ts w 0 0) w) else []) = (if okW deep 0 0 "whole" = true then (rowF ts deep n 1 (nbase "whole" 0 0) (cnt "whole" 0)).map (addW (sizeW ts "whole" 0 0) "whole") else []) := by
    have h1 : okW deep 0 0 "part" = false := by
      have : ¬ ("part" : Str) = "whole" := by decide +kernel
      simp [okW, this]
    have h2 : okW deep 0 0 "wide" = false := by
      have : ¬ ("wide" : Str) = "whole" := by decide +kernel
      simp [okW, this]
    simp [planWords, h1, h2]
  rw [hw]
  have key : ∀ (l : List (List Str)) (acc : Bst), (l.map (("whole" : Str) :: ·)).foldl (lawStep ts deep) acc = comb acc (bestL (((l.map (("whole" : Str) :: ·)).filter fun ws => allowF deep ws 0 0).map fun ws => (costF ts ws 0 0, ws))) := by
    intro l
    induction l with
    | nil => intro acc; exact (comb_none acc).symm
    | cons p l ih =>
      intro acc
      rw [List.map_cons, List.foldl_cons, ih, List.filter_cons]
      have hal := allow_all deep p
      by_cases c : ∀ x ∈ rdF ("whole" :: p) 0, x ≤ deep
      · rw [show lawStep ts deep acc ("whole" :: p) = comb acc (some (costF ts ("whole" :: p) 0 0, "whole" :: p)) from if_pos c, if_pos (hal.mpr c), List.map_cons]
        rw [bestL_cons, comb_assoc]
      · rw [show lawStep ts deep acc ("whole" :: p) = acc from if_neg c, if_neg (fun z => c (hal.mp z))]
  rw [plansL_all, key, none_comb]
  congr 1
  rw [List.filter_map, List.map_map]
  by_cases h : okW deep 0 0 "whole" = true
  · rw [if_pos h]
    unfold rowF
    rw [List.map_map]
    have e : (allW n).filter ((fun ws => allowF deep ws 0 0) ∘ (("whole" : Str) :: ·)) = (allW n).filter fun ws => allowF deep ws 1 (cnt "whole" 0) := by
      refine List.filter_congr fun ws _ => ?_
      simp [Function.comp, allowF, h]
    rw [e]
    rfl
  · rw [if_neg h]
    have e : (allW n).filter ((fun ws => allowF deep ws 0 0) ∘ (("whole" : Str) :: ·)) = [] := by
      rw [List.filter_eq_nil_iff]
      intro ws _
      simp [Function.comp, allowF, h]
    rw [e]
    rfl
theorem bestL_min : ∀ (l : List (Nat × List Str)) (x : Nat × List Str), bestL l = some x → x ∈ l ∧ ∀ y ∈ l, x.1 ≤ y.1
  | [], x, h => by cases h
  | z :: l, x, h => by
    rw [bestL_cons] at h
    cases e : bestL l with
    | none =>
      rw [e] at h
      have : l = [] := by
        cases l with
        | nil => rfl
        | cons a r =>
          rw [bestL_cons] at e
          exact absurd e (comb_some (by simp))
      subst this
      have : z = x := by simpa [comb] using h
      subst this
      exact ⟨by simp, fun y hy => by rw [List.mem_singleton.mp hy]; omega⟩
    | some y =>
      obtain ⟨h1, h2⟩ := bestL_min l y e
      rw [e] at h
      simp only [comb] at h
      by_cases c : y.1 < z.1
      · rw [if_pos c] at h
        have : y = x := Option.some.inj h
        subst this
        refine ⟨List.mem_cons_of_mem _ h1, fun w hw => ?_⟩
        rcases List.mem_cons.mp hw with rfl | hw
        · omega
        · exact h2 w hw
      · rw [if_neg c] at h
        have : z = x := Option.some.inj h
        subst this
        refine ⟨List.mem_cons_self, fun w hw => ?_⟩
        rcases List.mem_cons.mp hw with rfl | hw
        · omega
        · have := h2 w hw
          omega
theorem allowF_mono {a b : Nat} (h : a ≤ b) : ∀ (ws : List Str) (i m : Nat), allowF a ws i m = true → allowF b ws i m = true
  | [], _, _, _ => rfl
  | w :: r, i, m, z => by
    simp only [allowF, Bool.and_eq_true] at z ⊢
    refine ⟨?_, allowF_mono h r _ _ z.2⟩
    have := z.1
    simp only [okW, Bool.and_eq_true, decide_eq_true_eq] at this ⊢
    exact ⟨by omega, this.2⟩
theorem bestF_mono {ts : List Tb} {a b n i base many : Nat} {x y : Nat × List Str} (h : a ≤ b) (hx : bestF ts a n i base many = some x) (hy : bestF ts b n i base many = some y) : y.1 ≤ x.1 := by
  rw [bestF_row] at hx hy
  obtain ⟨h1, _⟩ := bestL_min _ _ hx
  obtain ⟨_, h2⟩ := bestL_min _ _ hy
  refine h2 x ?_
  unfold rowF at h1 ⊢
  obtain ⟨ws, hw, rfl⟩ := List.mem_map.mp h1
  obtain ⟨g1, g2⟩ := List.mem_filter.mp hw
  exact List.mem_map.mpr ⟨ws, List.mem_filter.mpr ⟨g1, allowF_mono h ws _ _ g2⟩, rfl⟩
theorem allW_words : ∀ n, ∀ ws ∈ allW n, ws.length = n ∧ ∀ w ∈ ws, w ∈ planWords
  | 0, ws, h => by rw [List.mem_singleton.mp h]; exact ⟨rfl, fun _ h => nomatch h⟩
  | n + 1, ws, h => by
    obtain ⟨w, hw, h2⟩ := List.mem_flatMap.mp h
    obtain ⟨r, hr, rfl⟩ := List.mem_map.mp h2
    obtain ⟨h3, h4⟩ := allW_words n r hr
    refine ⟨by simp [h3], fun x hx => ?_⟩
    rcases List.mem_cons.mp hx with rfl | hx
    · exact hw
    · exact h4 x hx
theorem bestF_words {ts : List Tb} {a n i base many : Nat} {x : Nat × List Str} (h : bestF ts a n i base many = some x) : x.2.length = n ∧ ∀ w ∈ x.2, w ∈ planWords := by
  rw [bestF_row] at h
  obtain ⟨h1, _⟩ := bestL_min _ _ h
  obtain ⟨ws, hw, rfl⟩ := List.mem_map.mp h1
  exact allW_words n ws (List.mem_filter.mp hw).1
def grow : Nat → Nat
  | 0 => 0
  | n + 1 => 3 * grow n + 1
end Nk
/-! ### the least room, reached from the front -/
namespace Nk
open PySem
abbrev DM := List ((Nat × Nat) × Nat)
def lkD (d : DM) (k : Nat × Nat) : Option Nat := (d.find? fun e => decide (e.1 = k)).map (·.2)
def putD (d : DM) (k : Nat × Nat) (v : Nat) : DM := if (d.any fun e => decide (e.1 = k)) = true then d.map (fun e => if e.1 = k then (e.1, v) else e) else d ++ [(k, v)]
theorem lkD_mem {d : DM} {k : Nat × Nat} {v : Nat} (h : lkD d k = some v) : (k, v) ∈ d := by
  unfold lkD at h
  cases e : d.find? fun e => decide (e.1 = k) with
  | none => rw [e] at h; cases h
  | some p =>
    rw [e] at h
    have h1 := List.find?_some e
    have h2 := List.mem_of_find?_eq_some e
    simp at h h1
    have : p = (k, v) := Prod.ext h1 h
    rw [← this]
    exact h2
theorem lkD_some {d : DM} {k : Nat × Nat} {v : Nat} (h : (k, v) ∈ d) : ∃ u, lkD d k = some u := by
  unfold lkD
  cases e : d.find? fun e => decide (e.1 = k) with
  | none =>
    have := List.find?_eq_none.mp e _ h
    simp at this
  | some p => exact ⟨p.2, rfl⟩
theorem putD_mem {d : DM} {k : Nat × Nat} {v : Nat} {e : (Nat × Nat) × Nat} (h : e ∈ putD d k v) : e = (k, v) ∨ e ∈ d := by
  unfold putD at h
  split at h
  · obtain ⟨q, hq, z⟩ := List.mem_map.mp h
    by_cases c : q.1 = k
    · rw [if_pos c, c] at z; exact .inl z.symm
    · rw [if_neg c] at z; exact .inr (z ▸ hq)
  · rcases List.mem_append.mp h with h | h
    · exact .inr h
    · exact .inl (List.mem_singleton.mp h)
theorem lkD_map (v : Nat) (k k' : Nat × Nat) : ∀ d : DM, lkD (d.map fun e => if e.1 = k then (e.1, v) else e) k' = if k' = k then (lkD d k').map fun _ => v else lkD d k'
  | [] => by simp [lkD]
  | e :: d => by
    have ih := lkD_map v k k' d
    unfold lkD at ih ⊢
    rw [List.map_cons, List.find?_cons, List.find?_cons]
    have e1 : (if e.1 = k then (e.1, v) else e).1 = e.1 := by split <;> rfl
    rw [e1]
    by_cases c : e.1 = k'
    · simp only [decide_eq_true c]
      by_cases c2 : k' = k
      · rw [if_pos c2, if_pos (c.trans c2)]; rfl
      · rw [if_neg c2, if_neg (fun z => c2 (c.symm.trans z))]
    · simp only [decide_eq_false c]
      exact ih
theorem lkD_put (d : DM) (k k' : Nat × Nat) (v : Nat) : lkD (putD d k v) k' = if k' = k then some v else lkD d k' := by
  unfold putD
  by_cases h : (d.any fun e => decide (e.1 = k)) = true
  · rw [if_pos h, lkD_map]
    by_cases c : k' = k
    · rw [if_pos c, if_pos c]
      obtain ⟨e, he, z⟩ := List.any_eq_true.mp h
      obtain ⟨u, hu⟩ := lkD_some (d := d) (k := k') (v := e.2) (by rw [c, ← of_decide_eq_true z]; exact he)
      rw [hu]; rfl
    · rw [if_neg c, if_neg c]
  · rw [if_neg h]
    have hn : ∀ e ∈ d, ¬ e.1 = k := fun e he z => h (List.any_eq_true.mpr ⟨e, he, decide_eq_true z⟩)
    unfold lkD
    rw [List.find?_append]
    by_cases c : k' = k
    · rw [if_pos c]
      have : d.find? (fun e => decide (e.1 = k')) = none := List.find?_eq_none.mpr fun e he => by rw [c]; simpa using hn e he
      rw [this, c]
      simp
    · rw [if_neg c]
      cases hf : d.find? (fun e => decide (e.1 = k')) with
      | some p => rfl
      | none =>
        have : ¬ k = k' := fun z => c z.symm
        simp [this]
def stepW (ts : List Tb) (deep k b m room : Nat) (acc : DM) (w : Str) : DM := if cnt w m ≤ deep then putD acc (nbase w k b, cnt w m) (min ((lkD acc (nbase w k b, cnt w m)).getD 1000) (room + sizeW ts w k b)) else acc
def stepE (ts : List Tb) (deep k : Nat) (d acc : DM) (e : (Nat × Nat) × Nat) : DM := planWords.foldl (stepW ts deep k e.1.1 e.1.2 ((lkD d e.1).getD 0)) acc
def leastD (ts : List Tb) (deep : Nat) : Nat → DM
  | 0 => [((0, 1), (ts.getD 0 []).length)]
  | k + 1 => (leastD ts deep k).foldl (stepE ts deep (k + 1) (leastD ts deep k)) []
/-- what a plan ends with -/
def baseF (ws : List Str) : Nat := (ws.foldl (fun s w => (s.1 + 1, nbase w s.1 s.2)) ((0, 0) : Nat × Nat)).2
def lastF (ws : List Str) : Nat := (rdF ws 0).getLast?.getD 0
def okP (deep : Nat) (ws : List Str) : Prop := ∀ x ∈ rdF ws 0, x ≤ deep
theorem fold_fst : ∀ (ws : List Str) (i b : Nat), (ws.foldl (fun s w => (s.1 + 1, nbase w s.1 s.2)) ((i, b) : Nat × Nat)).1 = i + ws.length
  | [], i, b => rfl
  | w :: ws, i, b => by
    rw [List.foldl_cons, fold_fst ws, List.length_cons]
    omega
theorem baseF_app (ws : List Str) (w : Str) : baseF (ws ++ [w]) = nbase w ws.length (baseF ws) := by
  unfold baseF
  rw [List.foldl_append]
  simp only [List.foldl_cons, List.foldl_nil]
  rw [fold_fst, Nat.zero_add]
theorem rd_app (ws : List Str) (w : Str) : rdF (ws ++ [w]) 0 = rdF ws 0 ++ [cnt w (lastF ws)] := by
  rw [rdF_app]; rfl
theorem lastF_app (ws : List Str) (w : Str) : lastF (ws ++ [w]) = cnt w (lastF ws) := by
  unfold lastF
  rw [rd_app, List.getLast?_concat]
  rfl
theorem okP_app (deep : Nat) (ws : List Str) (w : Str) : okP deep (ws ++ [w]) ↔ okP deep ws ∧ cnt w (lastF ws) ≤ deep := by
  unfold okP
  rw [rd_app]
  constructor
  · intro h
    exact ⟨fun x hx => h x (List.mem_append.mpr (.inl hx)), h _ (List.mem_append.mpr (.inr (List.mem_singleton.mpr rfl)))⟩
  · intro h x hx
    rcases List.mem_append.mp hx with hx | hx
    · exact h.1 x hx
    · rw [List.mem_singleton.mp hx]; exact h.2
theorem cost_app (ts : List Tb) (ws : List Str) (w : Str) : costF ts (ws ++ [w]) 0 0 = costF ts ws 0 0 + sizeW ts w ws.length (baseF ws) := by
  rw [costF_app]
  simp only [costF, Nat.zero_add, Nat.add_zero]
  rfl
theorem cost_le {ts : List Tb} (hB : ∀ w i b, sizeW ts w i b ≤ 100) : ∀ (ws : List Str) (i b : Nat), costF ts ws i b ≤ 100 * ws.length
  | [], _, _ => by simp [costF]
  | w :: ws, i, b => by
    have h1 := hB w i b
    have h2 := cost_le hB ws (i + 1) (nbase w i b)
    simp only [costF, List.length_cons]
    omega
structure LeastOk (ts : List Tb) (deep k : Nat) (d : DM) : Prop where
  snd : ∀ e ∈ d, ∃ ws ∈ plansL k, okP deep ws ∧ (baseF ws, lastF ws) = e.1 ∧ costF ts ws 0 0 = e.2
  cmp : ∀ ws ∈ plansL k, okP deep ws → ∃ v, lkD d (baseF ws, lastF ws) = some v ∧ v ≤ costF ts ws 0 0
/-- one way more -/
def stepQ (ts : List Tb) (deep k : Nat) (acc : DM) (q : ((Nat × Nat) × Nat) × Str) : DM := stepW ts deep k q.1.1.1 q.1.1.2 q.1.2 acc q.2
def StepInv (ts : List Tb) (deep k : Nat) (acc : DM) (qs : List (((Nat × Nat) × Nat) × Str)) : Prop :=
    (∀ x ∈ acc, ∃ q ∈ qs, cnt q.2 q.1.1.2 ≤ deep ∧ x.1 = (nbase q.2 k q.1.1.1, cnt q.2 q.1.1.2) ∧ x.2 = q.1.2 + sizeW ts q.2 k q.1.1.1) ∧
    (∀ q ∈ qs, cnt q.2 q.1.1.2 ≤ deep → ∃ v, lkD acc (nbase q.2 k q.1.1.1, cnt q.2 q.1.1.2) = some v ∧ v ≤ q.1.2 + sizeW ts q.2 k q.1.1.1)
theorem step_one (ts : List Tb) (deep k : Nat) (acc : DM) (qs : List (((Nat × Nat) × Nat) × Str)) (q : ((Nat × Nat) × Nat) × Str) (h : StepInv ts deep k acc qs) (hq : q.1.2 + sizeW ts q.2 k q.1.1.1 ≤ 1000) : StepInv ts deep k (stepQ ts deep k acc q) (qs ++ [q]) := by
    obtain ⟨h1, h2⟩ := h
    unfold stepQ stepW
    by_cases c : cnt q.2 q.1.1.2 ≤ deep
    · rw [if_pos c]
      constructor
      · intro x hx
        rcases putD_mem hx with rfl | hx
        · cases e : lkD acc (nbase q.2 k q.1.1.1, cnt q.2 q.1.1.2) with
          | none =>
            refine ⟨q, List.mem_append.mpr (.inr (List.mem_singleton.mpr rfl)), c, rfl, ?_⟩
            show min 1000 _ = _
            omega
          | some v =>
            by_cases c2 : v ≤ q.1.2 + sizeW ts q.2 k q.1.1.1
            · obtain ⟨q', hq', g1, g2, g3⟩ := h1 _ (lkD_mem e)
              refine ⟨q', List.mem_append.mpr (.inl hq'), g1, g2, ?_⟩
              show min v _ = _
              have g3' : v = _ := g3
              omega
            · refine ⟨q, List.mem_append.mpr (.inr (List.mem_singleton.mpr rfl)), c, rfl, ?_⟩
              show min v _ = _
              omega
        · obtain ⟨q', hq', g⟩ := h1 x hx
          exact ⟨q', List.mem_append.mpr (.inl hq'), g⟩
      · intro q' hq' c'
        rw [lkD_put]
        by_cases ck : (nbase q'.2 k q'.1.1.1, cnt q'.2 q'.1.1.2) = (nbase q.2 k q.1.1.1, cnt q.2 q.1.1.2)
        · rw [if_pos ck]
          refine ⟨_, rfl, ?_⟩
          rcases List.mem_append.mp hq' with hq' | hq'
          · obtain ⟨v, g1, g2⟩ := h2 q' hq' c'
            rw [← ck, g1]
            show min v _ ≤ _
            omega
          · rw [List.mem_singleton.mp hq']
            omega
        · rw [if_neg ck]
          rcases List.mem_append.mp hq' with hq' | hq'
          · exact h2 q' hq' c'
          · exact absurd (by rw [List.mem_singleton.mp hq']) ck
    · rw [if_neg c]
      constructor
      · intro x hx
        obtain ⟨q', hq', g⟩ := h1 x hx
        exact ⟨q', List.mem_append.mpr (.inl hq'), g⟩
      · intro q' hq' c'
        rcases List.mem_append.mp hq' with hq' | hq'
        · exact h2 q' hq' c'
        · exact absurd (by rw [List.mem_singleton.mp hq'] at c'; exact c') c
theorem steps_from (ts : List Tb) (deep k : Nat) : ∀ (qs ds : List (((Nat × Nat) × Nat) × Str)) (acc : DM), StepInv ts deep k acc ds → (∀ q ∈ qs, q.1.2 + sizeW ts q.2 k q.1.1.1 ≤ 1000) → StepInv ts deep k (qs.foldl (stepQ ts deep k) acc) (ds ++ qs)
  | [], ds, acc, h, _ => by rw [List.append_nil]; exact h
  | q :: qs, ds, acc, h, hB => by
    have := steps_from ts deep k qs (ds ++ [q]) (stepQ ts deep k acc q) (step_one ts deep k acc ds q h (hB q List.mem_cons_self)) fun q hq => hB q (List.mem_cons_of_mem _ hq)
    rw [List.append_assoc] at this
    exact this
theorem steps_ok (ts : List Tb) (deep k : Nat) (qs : List (((Nat × Nat) × Nat) × Str)) (hB : ∀ q ∈ qs, q.1.2 + sizeW ts q.2 k q.1.1.1 ≤ 1000) : StepInv ts deep k (qs.foldl (stepQ ts deep k) []) qs :=
  steps_from ts deep k qs [] [] ⟨(fun _ h => nomatch h), (fun _ h => nomatch h)⟩ hB
theorem fold_flat (ts : List Tb) (deep k : Nat) (d : DM) : ∀ (es : DM) (acc : DM), es.foldl (stepE ts deep k d) acc = (es.flatMap fun e => planWords.map fun w => ((e.1, (lkD d e.1).getD 0), w)).foldl (stepQ ts deep k) acc
  | [], acc => rfl
  | e :: es, acc => by
    rw [List.foldl_cons, fold_flat ts deep k d es, List.flatMap_cons, List.foldl_append]
    congr 1
theorem least_ok {ts : List Tb} {deep : Nat} (h1 : 1 ≤ deep) (hB : ∀ w i b, sizeW ts w i b ≤ 100) : ∀ k, k ≤ 8 → LeastOk ts deep k (leastD ts deep k)
  | 0, _ => by
    have ew : sizeW ts "whole" 0 0 = (ts.getD 0 []).length := by simp [sizeW]
    have ec : costF ts ["whole"] 0 0 = (ts.getD 0 []).length := by simp [costF, ew]
    have eb : baseF ["whole"] = 0 := by simp [baseF, nbase]
    have el : lastF ["whole"] = 1 := by simp [lastF, rdF, cnt]
    refine ⟨fun e he => ?_, fun ws hw _ => ?_⟩
    · rw [List.mem_singleton.mp he]
      refine ⟨["whole"], List.mem_singleton.mpr rfl, fun x hx => ?_, by rw [eb, el], ec⟩
      have : x = 1 := by simpa [rdF, cnt] using hx
      omega
    · rw [List.mem_singleton.mp hw, eb, el, ec]
      exact ⟨_, by simp [leastD, lkD], Nat.le_refl _⟩
  | k + 1, hk => by
    have ih := least_ok h1 hB k (by omega)
    have hflat := fold_flat ts deep (k + 1) (leastD ts deep k) (leastD ts deep k) []
    have hl : leastD ts deep (k + 1) = _ := hflat
    have entry : ∀ e ∈ leastD ts deep k, ∃ v, lkD (leastD ts deep k) e.1 = some v ∧ ∃ ws ∈ plansL k, okP deep ws ∧ (baseF ws, lastF ws) = e.1 ∧ costF ts ws 0 0 = v := fun e he => by
      obtain ⟨v, hv⟩ := lkD_some (d := leastD ts deep k) (k := e.1) (v := e.2) he
      exact ⟨v, hv, ih.snd _ (lkD_mem hv)⟩
    obtain ⟨g1, g2⟩ := steps_ok ts deep (k + 1) ((leastD ts deep k).flatMap fun e => planWords.map fun w => ((e.1, (lkD (leastD ts deep k) e.1).getD 0), w)) (by
      intro q hq
      obtain ⟨e, he, hq⟩ := List.mem_flatMap.mp hq
      obtain ⟨w, hw, rfl⟩ := List.mem_map.mp hq
      obtain ⟨v, hv, ws, hp, _, _, rfl⟩ := entry e he
      have hc := cost_le hB ws 0 0
      rw [(plansL_len k ws hp).1] at hc
      have := hB w (k + 1) e.1.1
      rw [hv]
      show costF ts ws 0 0 + sizeW ts w (k + 1) e.1.1 ≤ 1000
      omega)
    rw [hl]
    refine ⟨fun x hx => ?_, fun ws hw ho => ?_⟩
    · obtain ⟨q, hq, c, e1, e2⟩ := g1 x hx
      obtain ⟨e, he, hq⟩ := List.mem_flatMap.mp hq
      obtain ⟨w, hw, rfl⟩ := List.mem_map.mp hq
      obtain ⟨v, hv, ws, hp, ho, hs, rfl⟩ := entry e he
      have hlen := (plansL_len k ws hp).1
      have hb : e.1.1 = baseF ws := by rw [← hs]
      have hm : e.1.2 = lastF ws := by rw [← hs]
      rw [hv] at e2
      simp only [Option.getD_some] at e1 e2 c
      rw [hb] at e1 e2
      rw [hm] at e1 c
      refine ⟨ws ++ [w], List.mem_flatMap.mpr ⟨ws, hp, List.mem_map.mpr ⟨w, hw, rfl⟩⟩, (okP_app deep ws w).mpr ⟨ho, c⟩, ?_, ?_⟩
      · rw [baseF_app, lastF_app, hlen, e1]
      · rw [cost_app, hlen, e2]
    · obtain ⟨p, hp, hw⟩ := List.mem_flatMap.mp hw
      obtain ⟨w, hww, rfl⟩ := List.mem_map.mp hw
      obtain ⟨ho1, ho2⟩ := (okP_app deep p w).mp ho
      obtain ⟨v, hv, hle⟩ := ih.cmp p hp ho1
      have hlen := (plansL_len k p hp).1
      obtain ⟨u, hu, hul⟩ := g2 (((baseF p, lastF p), v), w) (List.mem_flatMap.mpr ⟨_, lkD_mem hv, List.mem_map.mpr ⟨w, hww, by rw [hv]; rfl⟩⟩) ho2
      refine ⟨u, ?_, ?_⟩
      · rw [baseF_app, lastF_app, hlen]; exact hu
      · rw [cost_app, hlen]
        have hul' : u ≤ v + sizeW ts w (k + 1) (baseF p) := hul
        omega
/-- a best plan is a plan -/
theorem bestF_plan {ts : List Tb} {deep n : Nat} {x : Nat × List Str} (h : bestF ts deep (n + 1) 0 0 0 = some x) : x.2 ∈ plansL n ∧ okP deep x.2 ∧ x.1 = costF ts x.2 0 0 ∧ ∀ ws ∈ plansL n, okP deep ws → x.1 ≤ costF ts ws 0 0 := by
  rw [bestF_row] at h
  obtain ⟨h1, h2⟩ := bestL_min _ _ h
  obtain ⟨ws, hw, rfl⟩ := List.mem_map.mp h1
  obtain ⟨g1, g2⟩ := List.mem_filter.mp hw
  obtain ⟨w, hww, hr⟩ := List.mem_flatMap.mp g1
  obtain ⟨r, hr', rfl⟩ := List.mem_map.mp hr
  have h0 : w = "whole" := by
    simp only [allowF, okW, Bool.and_eq_true, Bool.or_eq_true, decide_eq_true_eq] at g2
    rcases g2.1.2 with h | h
    · omega
    · exact h
  subst h0
  refine ⟨?_, (allow_all deep r).mp g2, rfl, fun ws hws ho => ?_⟩
  · rw [plansL_all]
    exact List.mem_map.mpr ⟨r, hr', rfl⟩
  · rw [plansL_all] at hws
    obtain ⟨r', hr', rfl⟩ := List.mem_map.mp hws
    refine h2 (costF ts ("whole" :: r') 0 0, "whole" :: r') (List.mem_map.mpr ⟨_, List.mem_filter.mpr ⟨List.mem_flatMap.mpr ⟨"whole", by simp [planWords], List.mem_map.mpr ⟨r', hr', rfl⟩⟩, (allow_all deep r').mpr ho⟩, rfl⟩)
def leastL (d : DM) : List Nat := d.map fun e => (lkD d e.1).getD 0
theorem least_best {ts : List Tb} {deep n : Nat} {x : Nat × List Str} (h1 : 1 ≤ deep) (hB : ∀ w i b, sizeW ts w i b ≤ 100) (hn : n ≤ 8) (h : bestF ts deep (n + 1) 0 0 0 = some x) : x.1 ∈ leastL (leastD ts deep n) ∧ ∀ y ∈ leastL (leastD ts deep n), x.1 ≤ y := by
  have hl := least_ok h1 hB n hn
  obtain ⟨p1, p2, p3, p4⟩ := bestF_plan h
  have low : ∀ y ∈ leastL (leastD ts deep n), x.1 ≤ y := fun y hy => by
    obtain ⟨e, he, rfl⟩ := List.mem_map.mp hy
    obtain ⟨v, hv⟩ := lkD_some (d := leastD ts deep n) (k := e.1) (v := e.2) he
    obtain ⟨ws, hw, ho, _, hc⟩ := hl.snd _ (lkD_mem hv)
    rw [hv]
    have := p4 ws hw ho
    show x.1 ≤ v
    have hc' : costF ts ws 0 0 = v := hc
    omega
  refine ⟨?_, low⟩
  obtain ⟨v, hv, hle⟩ := hl.cmp _ p1 p2
  have hm : v ∈ leastL (leastD ts deep n) := List.mem_map.mpr ⟨_, lkD_mem hv, by rw [hv]; rfl⟩
  have := low v hm
  rw [← p3] at hle
  have : v = x.1 := by omega
  rw [← this]; exact hm
theorem least_len (ts : List Tb) (deep : Nat) : ∀ k, (leastD ts deep k).length ≤ 3 ^ k
  | 0 => by simp [leastD]
  | k + 1 => by
    have ih := least_len ts deep k
    have putl : ∀ (d : DM) (q : Nat × Nat) (v : Nat), (putD d q v).length ≤ d.length + 1 := fun d q v => by
      unfold putD
      split
      · simp
      · simp
    have stepl : ∀ (qs : List (((Nat × Nat) × Nat) × Str)) (acc : DM), (qs.foldl (stepQ ts deep (k + 1)) acc).length ≤ acc.length + qs.length := by
      intro qs
      induction qs with
      | nil => intro acc; simp
      | cons q qs ih =>
        intro acc
        rw [List.foldl_cons]
        have := ih (stepQ ts deep (k + 1) acc q)
        have h2 : (stepQ ts deep (k + 1) acc q).length ≤ acc.length + 1 := by
          unfold stepQ stepW
          split
          · exact putl _ _ _
          · omega
        rw [List.length_cons]
        omega
    have hl : leastD ts deep (k + 1) = _ := fold_flat ts deep (k + 1) (leastD ts deep k) (leastD ts deep k) []
    rw [hl]
    refine Nat.le_trans (stepl _ _) ?_
    rw [List.length_flatMap]
    simp only [List.length_map]
    rw [List.map_const', List.sum_replicate_nat, Nat.pow_succ]
    simp only [planWords, List.length_cons, List.length_nil]
    omega
theorem wholes_of : ∀ (ws : List Str) (m : Nat), 1 ≤ m → (∀ x ∈ rdF ws m, x ≤ 1) → ∀ w ∈ ws, w = "whole"
  | [], _, _, _, w, h => nomatch h
  | v :: ws, m, h1, h, w, hw => by
    simp only [rdF, List.mem_cons, forall_eq_or_imp] at h
    have hv : v = "whole" := by
      have := h.1
      unfold cnt at this
      by_cases c : v = "whole"
      · exact c
      · rw [if_neg c] at this
        split at this <;> omega
    have h2 := h.2
    rw [show cnt v m = 1 by rw [hv]; simp [cnt]] at h2
    rcases List.mem_cons.mp hw with rfl | hw
    · exact hv
    · exact wholes_of ws 1 (Nat.le_refl _) h2 w hw
theorem plan_one {n : Nat} {ws : List Str} (hp : ws ∈ plansL n) (ho : okP 1 ws) : ws = List.replicate (n + 1) ("whole" : Str) := by
  obtain ⟨h1, h2, h3⟩ := plansL_len n ws hp
  refine List.eq_replicate_iff.mpr ⟨h1, ?_⟩
  cases ws with
  | nil => simp at h1
  | cons v ws =>
    have hv : v = "whole" := by simpa using h3
    subst hv
    intro w hw
    rcases List.mem_cons.mp hw with rfl | hw
    · rfl
    · have e : cnt "whole" 0 = 1 := by simp [cnt]
      unfold okP at ho
      simp only [rdF, e] at ho
      exact wholes_of ws 1 (Nat.le_refl _) (fun x hx => ho x (List.mem_cons_of_mem _ hx)) w hw
end Nk
namespace Nk
open PySem
theorem baseF_le : ∀ n, ∀ ws ∈ plansL n, baseF ws ≤ n
  | 0, ws, h => by
    rw [List.mem_singleton.mp h]
    simp [baseF, nbase]
  | n + 1, ws, h => by
    obtain ⟨p, hp, hw⟩ := List.mem_flatMap.mp h
    obtain ⟨w, _, rfl⟩ := List.mem_map.mp hw
    have h1 := baseF_le n p hp
    have h2 := (plansL_len n p hp).1
    rw [baseF_app]
    unfold nbase
    split <;> omega
theorem least_base {ts : List Tb} {deep : Nat} (h1 : 1 ≤ deep) (hB : ∀ w i b, sizeW ts w i b ≤ 100) {k : Nat} (hk : k ≤ 8) : ∀ e ∈ leastD ts deep k, e.1.1 ≤ k := fun e he => by
  obtain ⟨ws, hw, _, hs, _⟩ := (least_ok h1 hB k hk).snd e he
  rw [← hs]
  exact baseF_le k ws hw
theorem least_next (ts : List Tb) (deep k : Nat) : leastD ts deep (k + 1) = (leastD ts deep k).foldl (stepE ts deep (k + 1) (leastD ts deep k)) [] := rfl
theorem putD_len (d : DM) (q : Nat × Nat) (v : Nat) : (putD d q v).length ≤ d.length + 1 := by
  unfold putD
  split <;> simp
theorem foldW_len (ts : List Tb) (deep k b m room : Nat) : ∀ (ws : List Str) (acc : DM), (ws.foldl (stepW ts deep k b m room) acc).length ≤ acc.length + ws.length
  | [], acc => by simp
  | w :: ws, acc => by
    have h1 := foldW_len ts deep k b m room ws (stepW ts deep k b m room acc w)
    have h2 : (stepW ts deep k b m room acc w).length ≤ acc.length + 1 := by
      unfold stepW
      split
      · exact putD_len _ _ _
      · omega
    rw [List.foldl_cons, List.length_cons]
    omega
theorem foldE_len (ts : List Tb) (deep k : Nat) (d : DM) : ∀ (es : DM) (acc : DM), (es.foldl (stepE ts deep k d) acc).length ≤ acc.length + 3 * es.length
  | [], acc => by simp
  | e :: es, acc => by
    have h1 := foldE_len ts deep k d es (stepE ts deep k d acc e)
    have h2 := foldW_len ts deep k e.1.1 e.1.2 ((lkD d e.1).getD 0) planWords acc
    have h3 : planWords.length = 3 := rfl
    have h4 : (stepE ts deep k d acc e).length ≤ acc.length + 3 := by rw [← h3]; exact h2
    rw [List.foldl_cons, List.length_cons]
    omega
theorem least_len8 (ts : List Tb) (deep : Nat) {k : Nat} (h : k ≤ 7) : (leastD ts deep k).length ≤ 2187 := by
  have h1 := least_len ts deep k
  have h2 : 3 ^ k ≤ 3 ^ 7 := Nat.pow_le_pow_right (by omega) h
  have h3 : (3 : Nat) ^ 7 = 2187 := by decide
  omega
theorem least_ne (ts : List Tb) {deep : Nat} (h1 : 1 ≤ deep) (hB : ∀ w i b, sizeW ts w i b ≤ 100) {n : Nat} (hn : n ≤ 8) : 0 < (leastD ts deep n).length := by
  cases e : bestF ts deep (n + 1) 0 0 0 with
  | none => exact absurd e (bestF_some ts h1 _ _ _ _)
  | some x =>
    have := (least_best h1 hB hn e).1
    cases hl : leastD ts deep n with
    | nil => rw [hl] at this; cases this
    | cons a r => simp
end Nk
/-! ### the layer's short words for this program -/
namespace Nk
open PySem L2 PySem.Spec PyProof.Rows
/-- a def of the top keeps a promise: called by its name -/
structure Fk (P : Program) (w : World) (K : PySem.W.Frag) (mg : Str → Option Value) (base : Heap) (CX : CXT) (k : Nat) (x : Str) (ps : List Str) (sp : Sp) : Prop where
  ex : ∃ (f : Addr) (fd : FuncData), mg x = some (.ref f) ∧ PySem.W.keepIn K (.ref f) = true ∧ Binds K fd ps [] ∧ FnOk P w K mg base CX k f fd ps sp
/-- a def as it stands behind the top -/
structure Df (K : PySem.W.Frag) (mg : Str → Option Value) (x qual : Str) (st : Stmt) (ps : List Str) : Prop where
  ex : ∃ (f : Addr) (fd : FuncData), Fun K x qual st f fd ∧ mg x = some (.ref f) ∧ Binds K fd ps []
section
variable {X : Cx} {CX : CXT} {k : Nat} {ps : List Str} {sp : Sp} {x : Str} {p pos : Pos} {e : Expr} {es : List Expr} {t : TA} {E : XK}
theorem pe_fn (F : Fk X.prog X.w X.K X.mg X.base CX k x ps sp) (hr : Room k X.A) (hg : Gl X x) (hx : Passes CX X E) (ha : PA X (e :: es) t) (hdb : (x == ("__debug__" : Str)) = false := by decide)
    (he : starEach (e :: es) X.env = (false, eval e X.env) :: starEach es X.env := by rfl) (hpl : (backTo pos (starEach es X.env)).any (·.1) = false := by rfl) :
    PE X (.Call (.Name x p) (e :: es) [] pos) (tCall sp [] E t) := by
  obtain ⟨f, fd, g, kp, b, G⟩ := F.ex
  exact pe_call G hr hg g kp b .nil hx ha hdb he hpl
theorem passX {X : Cx} {E : XK} (tk : Takes X (fun cls d _ H => E cls d H)) : Passes (L2.CX X.prog X.w) X E := passes_call tk (fun _ _ _ _ h => h)
end
/-- an own exception class without own __init__, over RuntimeError -/
structure Xc (K : PySem.W.Frag) (mg : Str → Option Value) (x : Str) (C : Addr) : Prop where
  gP : mg x = some (.ref C)
  xP : PySem.W.excIn K C [.type "RuntimeError", .type "Exception", .type "BaseException", .type "object"] "RuntimeError.__new__" = true
  kP : PySem.W.keepIn K (.ref C) = true
  bP : PySem.W.subIn K (.ref C) (.type "BaseException") = some true
  tP : PySem.W.typeIn K (.ref C) = some (.type "type")
theorem Xc.rs {X : Cx} {x : Str} {C : Addr} (h : Xc X.K X.mg x C) : Raises X (.ref C) := raises_own h.bP h.tP
/-! sum of a tuple -/
def rSumT (K : PySem.W.Frag) : List V → Hp → VK → Prop := fun vs H Q => ∃ (a : Addr) (ns : List Int), vs = [V.ref a] ∧ SqT K H a (ns.map V.int) ∧ Q (.int ns.sum) H
theorem cr_sumT {X : Cx} (hc : X.calm = true) : CallR X (.builtin "sum") (rSumT X.K) := by
  intro pins s σ H vs us Q I r h
  obtain ⟨a, ns, rfl, hs, q⟩ := h
  obtain ⟨its, rv, hl, _⟩ := I.tuple hs
  rw [Vals.ref1 r]
  have hi : IntsAre its ns := rv.ints
  obtain ⟨xs, hx⟩ := hi.allInts.items
  have hn : numsOf its.toArray.toList = ns := by rw [show its.toArray.toList = its from rfl, hi.numsOf]
  rw [hx] at hl hn
  rw [nums_intItems] at hn
  refine PySem.W.ktm_sumG (I.ok.hd hc) hl fun h' tk t' hk => ?_
  rw [preSum_eq, List.take_of_length_le (by simp), hn]
  exact ⟨.int _, H, I.kept hk, ⟨_, rfl⟩, q⟩
/-! heaps -/
/-- all but t is as it was -/
def But (t : Addr) (H H' : Hp) : Prop := ∀ b o, H b = some o → b ≠ t → H' b = some o
theorem But.refl {t : Addr} {H : Hp} : But t H H := fun _ _ h _ => h
theorem But.trans {t : Addr} {H H1 H2 : Hp} (a : But t H H1) (b : But t H1 H2) : But t H H2 := fun c o h n => b c o (a c o h n) n
theorem But.of {t : Addr} {H H' : Hp} (s : Same H H') : But t H H' := fun b o h _ => s b o h
theorem But.thenS {t : Addr} {H H1 H2 : Hp} (a : But t H H1) (b : Same H1 H2) : But t H H2 := a.trans (.of b)
theorem Same.thenB {t : Addr} {H H1 H2 : Hp} (a : Same H H1) (b : But t H1 H2) : But t H H2 := (But.of a).trans b
theorem same_upd {H : Hp} {p : Addr} {o : HO} (h : H p = none) : Same H (upd H p o) := fun b x e => by
  rw [upd_ne (ne_of_none e h)]
  exact e
theorem But.upd {t : Addr} {H : Hp} {o : HO} : But t H (upd H t o) := fun b x e n => by
  rw [upd_ne n]
  exact e
theorem But.tup {K : PySem.W.Frag} {t a : Addr} {H H' : Hp} {xs : List V} {l : List V} (b : But t H H') (ht : H t = some (.lst l)) (h : SqT K H a xs) : SqT K H' a xs := by
  rcases h with (h | ⟨o, h⟩) | h
  · exact .inl (.inl (b _ _ h (ne_of h ht (by intro z; cases z))))
  · exact .inl (.inr ⟨o, b _ _ h (ne_of h ht (by intro z; cases z))⟩)
  · exact .inr h
theorem But.lst {K : PySem.W.Frag} {t a : Addr} {H H' : Hp} {xs : List V} (b : But t H H') (ha : a ≠ t) (h : SqL K H a xs) : SqL K H' a xs := by
  rcases h with (h | ⟨o, h⟩) | h
  · exact .inl (.inl (b _ _ h ha))
  · exact .inl (.inr ⟨o, b _ _ h ha⟩)
  · exact .inr h
theorem Same.tup {K : PySem.W.Frag} {a : Addr} {H H' : Hp} {xs : List V} (e : Same H H') (h : SqT K H a xs) : SqT K H' a xs := by
  rcases h with (h | ⟨o, h⟩) | h
  · exact .inl (.inl (e _ _ h))
  · exact .inl (.inr ⟨o, e _ _ h⟩)
  · exact .inr h
theorem sqL {K : PySem.W.Frag} {H : Hp} {a : Addr} {xs : List V} (h : H a = some (.lst xs)) : SqL K H a xs := Or.inl (Or.inl h)
theorem sqT {K : PySem.W.Frag} {H : Hp} {a : Addr} {xs : List V} (h : H a = some (.tup xs)) : SqT K H a xs := Or.inl (Or.inl h)
theorem sz {n : Nat} (h : n ≤ 100000) : n ≤ sizeLine := Nat.le_trans h (by decide)
theorem szl {n : Nat} (h : n < 100000) : n < sizeLine := Nat.lt_of_lt_of_le h (by decide)
/-- a list that is read and is not t -/
def SqN (K : PySem.W.Frag) (H : Hp) (a t : Addr) (xs : List V) : Prop := (Rd H a (.lst xs) ∧ a ≠ t) ∨
    ∃ (o : Obj) (its : Array Value) (n : Nat), K.lookup a = some o ∧ o.cls = .type "list" ∧ o.dict = none ∧ o.data = .seq its n ∧ its.size ≤ sizeLine ∧ Vals xs its.toList
theorem SqN.l {K : PySem.W.Frag} {H : Hp} {a t : Addr} {xs : List V} (h : SqN K H a t xs) : SqL K H a xs := by
  rcases h with ⟨h, _⟩ | h
  · exact .inl h
  · exact .inr h
theorem SqN.but {K : PySem.W.Frag} {H H' : Hp} {a t : Addr} {xs : List V} (h : SqN K H a t xs) (b : But t H H') : SqN K H' a t xs := by
  rcases h with ⟨h | ⟨o, h⟩, n⟩ | h
  · exact .inl ⟨.inl (b _ _ h n), n⟩
  · exact .inl ⟨.inr ⟨o, b _ _ h n⟩, n⟩
  · exact .inr h
theorem SqN.same {K : PySem.W.Frag} {H H' : Hp} {a t : Addr} {xs : List V} (h : SqN K H a t xs) (b : Same H H') : SqN K H' a t xs := h.but (.of b)
theorem SqN.new {K : PySem.W.Frag} {H : Hp} {a t : Addr} {xs : List V} (h : SqL K H a xs) (ht : H t = none) : SqN K H a t xs := by
  rcases h with (h | ⟨o, h⟩) | h
  · exact .inl ⟨.inl h, ne_of_none h ht⟩
  · exact .inl ⟨.inr ⟨o, h⟩, ne_of_none h ht⟩
  · exact .inr h
theorem SqN.app {K : PySem.W.Frag} {H H' : Hp} {a t p : Addr} {xs : List V} {o : HO} (h : SqN K H' a t xs) (h0 : SqN K H a t xs) (hp : H p = none) : SqN K (upd H' p o) a t xs := by
  have sN : But p H' (upd H' p o) := But.upd
  rcases h0 with ⟨h' | ⟨o', h'⟩, n'⟩ | h'
  · rcases h with ⟨h | ⟨o, h⟩, n⟩ | h
    · exact .inl ⟨.inl (sN _ _ h (ne_of_none h' hp)), n⟩
    · exact .inl ⟨.inr ⟨o, sN _ _ h (ne_of_none h' hp)⟩, n⟩
    · exact .inr h
  · rcases h with ⟨h | ⟨o, h⟩, n⟩ | h
    · exact .inl ⟨.inl (sN _ _ h (ne_of_none h' hp)), n⟩
    · exact .inl ⟨.inr ⟨o, sN _ _ h (ne_of_none h' hp)⟩, n⟩
    · exact .inr h
  · exact .inr h'
theorem szN {n : Nat} (h : n ≤ 64) : (n ≤ sizeLine) = True := eq_true (sz (by omega))
/-! things -/
/-- what may be handed in, with the name of its type -/
inductive Thing (K : PySem.W.Frag) (H : Hp) : V → String → Prop
  | non : Thing K H .non "NoneType"
  | bl (b : Bool) : Thing K H (.bl b) "bool"
  | int (i : Int) : Thing K H (.int i) "int"
  | str (x : Str) : Thing K H (.str x) "str"
  | lst {a : Addr} {xs : List V} (h : H a = some (.lst xs)) : Thing K H (.ref a) "list"
  | tup {a : Addr} {xs : List V} (h : H a = some (.tup xs)) : Thing K H (.ref a) "tuple"
  | dic {a : Addr} {kvs : List (Key × V)} (h : H a = some (.dK kvs)) : Thing K H (.ref a) "dict"
theorem Thing.ty {K : PySem.W.Frag} {H : Hp} {x : V} {n : String} (h : Thing K H x n) : TyX K H x (.type n) := by
  cases h with
  | non => exact .base .non
  | bl b => exact .base (.bl b)
  | int i => exact .base (.int i)
  | str x => exact .base (.str x)
  | lst h => exact .base (.lst h)
  | tup h => exact .base (.tup h)
  | dic h => exact .base (.dK h)
theorem Thing.same {K : PySem.W.Frag} {H H' : Hp} {x : V} {n : String} (s : Same H H') (h : Thing K H x n) : Thing K H' x n := by
  cases h with
  | non => exact .non
  | bl b => exact .bl b
  | int i => exact .int i
  | str x => exact .str x
  | lst h => exact .lst (s _ _ h)
  | tup h => exact .tup (s _ _ h)
  | dic h => exact .dic (s _ _ h)
def isA (n : String) (T : String) : Bool := n == T || (n == "bool" && T == "int")
def tyNames : List String := ["NoneType", "bool", "int", "str", "list", "tuple", "dict"]
theorem Thing.mem {K : PySem.W.Frag} {H : Hp} {x : V} {n : String} (h : Thing K H x n) : n ∈ tyNames := by
  cases h <;> simp [tyNames]
theorem kit_all : ∀ n ∈ tyNames, ∀ T ∈ tyNames, kitB n T = some (isA n T) := by decide +kernel
theorem Thing.kit {K : PySem.W.Frag} {H : Hp} {x : V} {n : String} (h : Thing K H x n) {T : String} (hT : T ∈ tyNames) : PySem.W.kitOne K (.type n) (.type T) = some (isA n T) := kit_ty (kit_all n h.mem T hT)
/-- isinstance of a thing -/
theorem isi_thing {K : PySem.W.Frag} {H : Hp} {x : V} {n : String} {T : String} {Q : VK} (h : Thing K H x n) (hT : T ∈ tyNames) (q : Q (.bl (isA n T)) H) : rIsi K [x, .ty T] H Q :=
  ⟨x, .ty T, .type n, .type T, isA n T, rfl, .ty T, h.ty, h.kit hT, q⟩
def isWholeV : V → Bool
  | .int _ => true
  | _ => false
def isNumV (x : V) (lo : Int) (y : V) : Bool := match x, y with
  | .int i, .int hi => decide (lo ≤ i) && decide (i ≤ hi)
  | _, _ => false
end Nk
namespace Nk
open PySem L2 PySem.Spec PyProof.Rows
/-- where a class of the top stands -/
def cls (mg : Str → Option Value) (x : Str) : Addr := match mg x with
  | some (.ref a) => a
  | _ => 0
theorem cls_of {mg : Str → Option Value} {x : Str} {a : Addr} (h : mg x = some (.ref a)) : cls mg x = a := by
  unfold cls; rw [h]
section
variable {X : Cx} {x : Str} {i : Int} {z : Str} {pos : Pos}
theorem pe_globI (h : ∃ t, X.mg x = some (.int i t)) (hg : Gl X x) (hd : (x == ("__debug__" : Str)) = false := by decide) : PE X (.Name x pos) (tC (.int i)) := by
  obtain ⟨t, h⟩ := h
  exact pe_glob hg h ⟨_, rfl⟩ hd
theorem pe_globS (h : ∃ t, X.mg x = some (.str z t)) (hg : Gl X x) (hd : (x == ("__debug__" : Str)) = false := by decide) : PE X (.Name x pos) (tC (.str z)) := by
  obtain ⟨t, h⟩ := h
  exact pe_glob hg h ⟨_, rfl⟩ hd
end
section
variable {K : PySem.W.Frag} {h : Heap} {mg : Str → Option Value}
theorem df_mk {x qual : Str} {st : Stmt} {ps : List Str} {f : Addr} {oc : Value} {od an : Option Addr} {osl : Array (Option Value)} {kV doc pm cdv ct : Value} (X : K.In h) (G : h.Ns mainGlobals mg)
    (hb : ∀ (kV doc pm : Value) (an : Option Addr) (cdv ct : Value) (us : List Value), us.length = ps.length → bindArgs (PySem.W.fnOf x qual (defArgs st) (defBody st) (defScope st) .none kV doc pm an cdv ct) ⟨us, []⟩ = pure (ps.zip us))
    (a : PySem.W.nsIn K mainGlobals x = some (some (.ref f)))
    (l : K.lookup f = some ⟨oc, od, .func (PySem.W.fnOf x qual (defArgs st) (defBody st) (defScope st) .none kV doc pm an cdv ct), osl⟩)
    (c : PySem.W.codeIn K cdv qual = true) (k : PySem.W.keepIn K (.ref f) = true) : Df K mg x qual st ps := by
  have F := fun_mk (st := st) l c k
  exact ⟨f, _, F, PySem.W.mg_of X G a, F.binds hb⟩
theorem xc_mk {x : Str} {C : Addr} (X : K.In h) (G : h.Ns mainGlobals mg) (a : PySem.W.nsIn K mainGlobals x = some (some (.ref C)))
    (xP : PySem.W.excIn K C [.type "RuntimeError", .type "Exception", .type "BaseException", .type "object"] "RuntimeError.__new__" = true)
    (kP : PySem.W.keepIn K (.ref C) = true) (bP : PySem.W.subIn K (.ref C) (.type "BaseException") = some true) (tP : PySem.W.typeIn K (.ref C) = some (.type "type")) : Xc K mg x (cls mg x) := by
  have g := PySem.W.mg_of X G a
  rw [cls_of g]
  exact ⟨g, xP, kP, bP, tP⟩
theorem ci_mk {x : Str} {i : Int} {t : Tok} (X : K.In h) (G : h.Ns mainGlobals mg) (a : PySem.W.nsIn K mainGlobals x = some (some (.int i t))) : ∃ t, mg x = some (.int i t) := ⟨t, PySem.W.mg_of X G a⟩
theorem cs_mk {x z : Str} {t : Tok} (X : K.In h) (G : h.Ns mainGlobals mg) (a : PySem.W.nsIn K mainGlobals x = some (some (.str z t))) : ∃ t, mg x = some (.str z t) := ⟨t, PySem.W.mg_of X G a⟩
end
/-- the law's: a list of at most 63 ints is handed in, True comes out -/
def spLaw (K : PySem.W.Frag) : Sp := fun vs H Q _ => ∃ (a : Addr) (ns : List Int), vs = [.ref a] ∧ SqL K H a (ns.map V.int) ∧ ns.length ≤ 63 ∧ ∀ H', Q (.bl true) H'
theorem law_end {P : Program} {w : World} {K : PySem.W.Frag} {mg : Str → Option Value} {st : Stmt} {fa : Addr} {k : Nat} (hfa : mg "law" = some (.ref fa)) (D : Df K mg "law" "law" st ["script"])
    (hb : ∀ (kV doc pm : Value) (an : Option Addr) (cdv ct v : Value), bindArgs (PySem.W.fnOf "law" "law" (defArgs st) (defBody st) (defScope st) .none kV doc pm an cdv ct) ⟨[v], []⟩ = pure [(("script" : Str), v)])
    (G : ∀ (base : Heap) (f : Addr) (fd : FuncData), Fun K "law" "law" st f fd → FnOk P w K mg base CX0 k f fd ["script"] (spLaw K)) :
    ∃ fd : FuncData, (∀ (s : Shared) (v : Value), BindsTo s fd ⟨[v], []⟩ [("script", v)]) ∧ ∀ base : Heap, K.In base → base.Ns mainGlobals mg → FnOk P w K mg base CX0 k fa fd ["script"] (spLaw K) := by
  obtain ⟨f, fd, F, g, b⟩ := D.ex
  have e : fa = f := by
    have := hfa.symm.trans g
    cases this
    rfl
  subst e
  refine ⟨fd, fun s v => ?_, fun base _ _ => G base fa fd F⟩
  obtain ⟨oc, od, kV, doc, pm, an, cdv, ct, osl, rfl, lk, hcd⟩ := F.ex
  exact .of_eq (hb _ _ _ _ _ _ _)
end Nk
namespace Nk
open PySem L2 PySem.Spec PyProof.Rows
theorem Same.keepN {H H' : Hp} {t : Addr} {o : HO} (s : Same H H') (n : H t = none) : Same H (upd H' t o) := fun b x e => by
  rw [upd_ne (ne_of_none e n)]
  exact s b x e
/-- within a comprehension that leaves all else: G i is the list behind i items -/
structure LcP (H1 : Hp) (D : Addr) (G : Nat → List V) (i : Nat) (H : Hp) : Prop where
  same : Same H1 H
  at_ : H D = some (.lst (G i))
theorem LcP.push {H1 H H4 : Hp} {D : Addr} {G : Nat → List V} {i : Nat} {y : V} (p : LcP H1 D G i H) (hD : H1 D = none) (hl : (G i).length ≤ 99999) (s : Same H H4) (e : G (i + 1) = G i ++ [y]) :
    ∃ acc, H4 D = some (.lst acc) ∧ acc.length < sizeLine ∧ LcP H1 D G (i + 1) (upd H4 D (.lst (acc ++ [y]))) :=
  ⟨G i, s _ _ p.at_, szl (by omega), Same.keepN (p.same.trans s) hD, by rw [upd_same, e]⟩
theorem LcP.skip {H1 H H4 : Hp} {D : Addr} {G : Nat → List V} {i : Nat} (p : LcP H1 D G i H) (s : Same H H4) (e : G (i + 1) = G i) : LcP H1 D G (i + 1) H4 :=
  ⟨p.same.trans s, by rw [e]; exact s _ _ p.at_⟩
theorem lcT {K : PySem.W.Frag} {a : Addr} {xs : List V} {g : TG} {tt : TT} {te : TE} {vs : List Nat} {σ : L2.St} {H1 : Hp} {D : Addr} {Qd : Hp → Prop} (hD : H1 D = none) (hT : SqT K H1 a xs) (G : Nat → List V) (h0 : G 0 = [])
    (hs : ∀ i x H, xs[i]? = some x → LcP H1 D G i H → g x (wipe σ vs) H fun σ2 H2 => wipe σ2 vs = wipe σ vs ∧ tt σ2 H2 fun b H3 =>
      if b = true then te σ2 H3 fun y H4 => ∃ acc, H4 D = some (.lst acc) ∧ acc.length < sizeLine ∧ LcP H1 D G (i + 1) (upd H4 D (.lst (acc ++ [y]))) else LcP H1 D G (i + 1) H3) (hd : ∀ H, Same H1 H → H D = some (.lst (G xs.length)) → Qd H) :
    ∃ W : Nat → Nat → Hp → Prop, (∃ m, W 0 m (upd H1 D (.lst []))) ∧ ∀ i m H, W i m H →
      ((Itt K a).stop i H ∧ Qd H) ∨ ((Itt K a).go i H ∧ ∃ Nx : Hp → Prop, (∀ H', Nx H' → ∃ m', m' < m ∧ W (i + 1) m' H') ∧ ∀ x H', (Itt K a).yld i H x H' → g x (wipe σ vs) H' fun σ2 H2 => wipe σ2 vs = wipe σ vs ∧ tt σ2 H2 fun b H3 =>
        if b = true then te σ2 H3 fun y H4 => ∃ acc, H4 D = some (.lst acc) ∧ acc.length < sizeLine ∧ Nx (upd H4 D (.lst (acc ++ [y]))) else Nx H3) :=
  lc_tup (K := K) (a := a) (xs := xs) (LcP H1 D G) ⟨same_upd hD, by rw [h0]; exact upd_same⟩ (fun i H _ p => Same.tup p.same hT) hs fun H p => hd H p.same p.at_
theorem lcL {K : PySem.W.Frag} {a : Addr} {xs : List V} {g : TG} {tt : TT} {te : TE} {vs : List Nat} {σ : L2.St} {H1 : Hp} {D : Addr} {Qd : Hp → Prop} (hD : H1 D = none) (hT : SqL K H1 a xs) (G : Nat → List V) (h0 : G 0 = [])
    (hs : ∀ i x H, xs[i]? = some x → LcP H1 D G i H → g x (wipe σ vs) H fun σ2 H2 => wipe σ2 vs = wipe σ vs ∧ tt σ2 H2 fun b H3 =>
      if b = true then te σ2 H3 fun y H4 => ∃ acc, H4 D = some (.lst acc) ∧ acc.length < sizeLine ∧ LcP H1 D G (i + 1) (upd H4 D (.lst (acc ++ [y]))) else LcP H1 D G (i + 1) H3) (hd : ∀ H, Same H1 H → H D = some (.lst (G xs.length)) → Qd H) :
    ∃ W : Nat → Nat → Hp → Prop, (∃ m, W 0 m (upd H1 D (.lst []))) ∧ ∀ i m H, W i m H →
      ((Itl K a).stop i H ∧ Qd H) ∨ ((Itl K a).go i H ∧ ∃ Nx : Hp → Prop, (∀ H', Nx H' → ∃ m', m' < m ∧ W (i + 1) m' H') ∧ ∀ x H', (Itl K a).yld i H x H' → g x (wipe σ vs) H' fun σ2 H2 => wipe σ2 vs = wipe σ vs ∧ tt σ2 H2 fun b H3 =>
        if b = true then te σ2 H3 fun y H4 => ∃ acc, H4 D = some (.lst acc) ∧ acc.length < sizeLine ∧ Nx (upd H4 D (.lst (acc ++ [y]))) else Nx H3) :=
  lc_list (K := K) (a := a) (xs := xs) (LcP H1 D G) ⟨same_upd hD, by rw [h0]; exact upd_same⟩ (fun i H _ p => p.same.seq hT) hs fun H p => hd H p.same p.at_
theorem lcR {lo : Int} {n : Nat} {g : TG} {tt : TT} {te : TE} {vs : List Nat} {σ : L2.St} {H1 : Hp} {D : Addr} {Qd : Hp → Prop} (hD : H1 D = none) (G : Nat → List V) (h0 : G 0 = [])
    (hs : ∀ i H, i < n → LcP H1 D G i H → g (.int (lo + i)) (wipe σ vs) H fun σ2 H2 => wipe σ2 vs = wipe σ vs ∧ tt σ2 H2 fun b H3 =>
      if b = true then te σ2 H3 fun y H4 => ∃ acc, H4 D = some (.lst acc) ∧ acc.length < sizeLine ∧ LcP H1 D G (i + 1) (upd H4 D (.lst (acc ++ [y]))) else LcP H1 D G (i + 1) H3) (hd : ∀ H, Same H1 H → H D = some (.lst (G n)) → Qd H) :
    ∃ W : Nat → Nat → Hp → Prop, (∃ m, W 0 m (upd H1 D (.lst []))) ∧ ∀ i m H, W i m H →
      ((Itr lo n).stop i H ∧ Qd H) ∨ ((Itr lo n).go i H ∧ ∃ Nx : Hp → Prop, (∀ H', Nx H' → ∃ m', m' < m ∧ W (i + 1) m' H') ∧ ∀ x H', (Itr lo n).yld i H x H' → g x (wipe σ vs) H' fun σ2 H2 => wipe σ2 vs = wipe σ vs ∧ tt σ2 H2 fun b H3 =>
        if b = true then te σ2 H3 fun y H4 => ∃ acc, H4 D = some (.lst acc) ∧ acc.length < sizeLine ∧ Nx (upd H4 D (.lst (acc ++ [y]))) else Nx H3) :=
  lc_range (LcP H1 D G) ⟨same_upd hD, by rw [h0]; exact upd_same⟩ hs fun H p => hd H p.same p.at_
theorem take_next {α : Type} {l : List α} {i : Nat} {x : α} (h : l[i]? = some x) : l.take (i + 1) = l.take i ++ [x] := by
  rw [List.take_add_one, h]; rfl
theorem map_take_next {α β : Type} {l : List α} {i : Nat} {x : α} (f : α → β) (h : l[i]? = some x) : (l.take (i + 1)).map f = (l.take i).map f ++ [f x] := by
  rw [take_next h]; simp
theorem filter_take_next {α : Type} {l : List α} {i : Nat} {x : α} (f : α → Bool) (h : l[i]? = some x) : (l.take (i + 1)).filter f = (l.take i).filter f ++ (if f x = true then [x] else []) := by
  rw [take_next h, List.filter_append]; cases e : f x <;> simp [e]
theorem filter_len {α : Type} (l : List α) (f : α → Bool) (i : Nat) : ((l.take i).filter f).length ≤ l.length :=
  Nat.le_trans (List.length_filter_le _ _) (by simp; omega)
theorem lt_of_get {α : Type} {l : List α} {i : Nat} {x : α} (h : l[i]? = some x) : i < l.length := (List.getElem?_eq_some_iff.mp h).1
theorem mem_of_get {α : Type} {l : List α} {i : Nat} {x : α} (h : l[i]? = some x) : x ∈ l := List.mem_of_getElem? h
end Nk
namespace Nk
open PySem L2
theorem seq_k {t u : TS} {D : Ends} {σ : L2.St} {H : Hp} (h : ∀ Kt : L2.St → Hp → Prop, Kt = u D → t { D with nx := Kt } σ H) : tSeq t u D σ H := h _ rfl
theorem gCons_cons {t : TG} {u : TGs} {v : V} {r : List V} {σ : L2.St} {H : Hp} {Q : L2.St → Hp → Prop} : gCons t u (v :: r) σ H Q = t v σ H fun σ' H' => u r σ' H' Q := by
  simp only [gCons, List.cons.injEq]
  refine propext ⟨?_, fun h => ⟨v, r, ⟨rfl, rfl⟩, h⟩⟩
  rintro ⟨v', r', ⟨rfl, rfl⟩, h⟩
  exact h
theorem gNil_nil {σ : L2.St} {H : Hp} {Q : L2.St → Hp → Prop} : gNil [] σ H Q = Q σ H := by
  simp only [gNil, true_and]
theorem scal_ii {a b : Int} : scal (.int a) (.int b) = true := rfl
theorem scal_ss {a b : Str} : scal (.str a) (.str b) = true := rfl
theorem scal_bb {a b : Bool} : scal (.bl a) (.bl b) = true := rfl
theorem scal_nn : scal .non .non = true := rfl
theorem scal_ni {b : Int} : scal .non (.int b) = true := rfl
theorem scal_in {b : Int} : scal (.int b) .non = true := rfl
theorem scal_ns {b : Str} : scal .non (.str b) = true := rfl
theorem scal_sn {b : Str} : scal (.str b) .non = true := rfl
theorem scal_is {a : Int} {b : Str} : scal (.int a) (.str b) = true := rfl
theorem scal_si {a : Int} {b : Str} : scal (.str b) (.int a) = true := rfl
end Nk
namespace Nk
open PySem L2
/-- what a for asks when its iterator stands -/
def ForW (J : It) (g : TG) (tb : TS) (D : Ends) (σ : L2.St) (H : Hp) : Prop := ∃ W : Nat → Nat → L2.St → Hp → Prop, (∃ m, W 0 m σ H) ∧ ∀ i m σ H, W i m σ H →
  (J.stop i H ∧ D.nx σ H) ∨ (J.go i H ∧ ∃ N : L2.St → Hp → Prop, (∀ σ' H', N σ' H' → ∃ m', m' < m ∧ W (i + 1) m' σ' H') ∧ ∀ x H', J.yld i H x H' → g x σ H' fun σ2 H2 => tb { D with nx := N, ct := N, bk := D.nx } σ2 H2)
theorem tFor_k {wi : TI} {g : TG} {tb : TS} {D : Ends} {σ : L2.St} {H : Hp} : tFor wi g tb D σ H = wi σ H fun J H1 => ForW J g tb D σ H1 := rfl
/-- what a comprehension asks when its iterator and its list stand -/
def LcW (J : It) (g : TG) (tt : TT) (te : TE) (vs : List Nat) (σ : L2.St) (H1 : Hp) (D : Addr) (Qd : Hp → Prop) : Prop := ∃ W : Nat → Nat → Hp → Prop, (∃ m, W 0 m (upd H1 D (.lst []))) ∧ ∀ i m H, W i m H →
  (J.stop i H ∧ Qd H) ∨ (J.go i H ∧ ∃ Nx : Hp → Prop, (∀ H', Nx H' → ∃ m', m' < m ∧ W (i + 1) m' H') ∧ ∀ x H', J.yld i H x H' → g x (wipe σ vs) H' fun σ2 H2 => wipe σ2 vs = wipe σ vs ∧ tt σ2 H2 fun b H3 =>
    if b = true then te σ2 H3 fun y H4 => ∃ acc, H4 D = some (.lst acc) ∧ acc.length < sizeLine ∧ Nx (upd H4 D (.lst (acc ++ [y]))) else Nx H3)
theorem tLc_k {wi : TI} {g : TG} {tt : TT} {te : TE} {vs : List Nat} {σ : L2.St} {H : Hp} {Q : VK} : tLc wi g tt te vs σ H Q = wi σ H fun J H1 => ∀ D, H1 D = none → LcW J g tt te vs σ H1 D (fun H => Q (.ref D) H) := rfl
end Nk
/-! ### data compared by == -/
namespace Nk
open PySem L2
/-- data of depth at most k, without truths and dicts -/
def gd : Nat → PyData → Bool
  | _, .none => true
  | _, .int _ => true
  | _, .str x => PyData.strOk x
  | _, .bool _ => false
  | _, .dict _ => false
  | 0, .list _ => false
  | 0, .tuple _ => false
  | k + 1, .list xs => xs.all (gd k)
  | k + 1, .tuple xs => xs.all (gd k)
theorem gd_all {k : Nat} : ∀ {xs : List PyData}, xs.all (gd k) = true → ∀ x ∈ xs, gd k x = true := fun h x hx => List.all_eq_true.mp h x hx
theorem canLayAll_of : ∀ {xs : List PyData}, (∀ x ∈ xs, x.canLay0 = true) → PyData.canLayAll0 xs = true
  | [], _ => by simp [PyData.canLayAll0]
  | x :: xs, h => by
    have h1 := h x List.mem_cons_self
    have h2 := canLayAll_of (xs := xs) fun y hy => h y (List.mem_cons_of_mem _ hy)
    simp [PyData.canLayAll0, h1, h2]
theorem depthAll_le {k : Nat} : ∀ {xs : List PyData}, (∀ x ∈ xs, x.depth ≤ k) → PyData.depthAll xs ≤ k
  | [], _ => by simp [PyData.depthAll]
  | x :: xs, h => by
    have h1 := h x List.mem_cons_self
    have h2 := depthAll_le (xs := xs) fun y hy => h y (List.mem_cons_of_mem _ hy)
    simp only [PyData.depthAll]
    omega
theorem gd_lay : ∀ (k : Nat) (d : PyData), gd k d = true → d.canLay0 = true ∧ d.depth ≤ k
  | k, .none, _ => by simp [PyData.canLay0, PyData.depth]
  | k, .int _, _ => by simp [PyData.canLay0, PyData.depth]
  | k, .str x, h => by
    have h' : PyData.strOk x = true := by cases k <;> simpa [gd] using h
    simp [PyData.canLay0, PyData.depth, h']
  | k, .bool _, h => by cases k <;> simp [gd] at h
  | k, .dict _, h => by cases k <;> simp [gd] at h
  | 0, .list _, h => by simp [gd] at h
  | 0, .tuple _, h => by simp [gd] at h
  | k + 1, .list xs, h => by
    have h' : xs.all (gd k) = true := by simpa [gd] using h
    have a := gd_all h'
    simp only [PyData.canLay0, PyData.depth]
    exact ⟨canLayAll_of fun x hx => (gd_lay k x (a x hx)).1, Nat.succ_le_succ (depthAll_le fun x hx => (gd_lay k x (a x hx)).2)⟩
  | k + 1, .tuple xs, h => by
    have h' : xs.all (gd k) = true := by simpa [gd] using h
    have a := gd_all h'
    simp only [PyData.canLay0, PyData.depth]
    exact ⟨canLayAll_of fun x hx => (gd_lay k x (a x hx)).1, Nat.succ_le_succ (depthAll_le fun x hx => (gd_lay k x (a x hx)).2)⟩
theorem gd_shaped {k : Nat} {d : PyData} (h : gd k d = true) (hk : k ≤ 64 := by decide) : SeqAt.shaped d = true := by
  obtain ⟨h1, h2⟩ := gd_lay k d h
  unfold SeqAt.shaped
  rw [h1]
  simp
  omega
theorem eqvAll_iff : ∀ (xs ys : List PyData), (∀ x ∈ xs, ∀ y ∈ ys, PyData.eqv x y = true ↔ x = y) → (PyData.eqvAll xs ys = true ↔ xs = ys)
  | [], [], _ => by simp [PyData.eqvAll]
  | [], _ :: _, _ => by simp [PyData.eqvAll]
  | _ :: _, [], _ => by simp [PyData.eqvAll]
  | x :: xs, y :: ys, h => by
    have h1 := h x List.mem_cons_self y List.mem_cons_self
    have h2 := eqvAll_iff xs ys fun a ha b hb => h a (List.mem_cons_of_mem _ ha) b (List.mem_cons_of_mem _ hb)
    simp [PyData.eqvAll, h1, h2]
theorem eqv_iff : ∀ (k m : Nat) (d e : PyData), gd k d = true → gd m e = true → (PyData.eqv d e = true ↔ d = e)
  | k, m, .bool _, e, h, _ => by cases k <;> simp [gd] at h
  | k, m, .dict _, e, h, _ => by cases k <;> simp [gd] at h
  | k, m, .none, e, _, h => by
    cases e with
    | bool _ => cases m <;> simp [gd] at h
    | dict _ => cases m <;> simp [gd] at h
    | _ => simp [PyData.eqv]
  | k, m, .int i, e, _, h => by
    cases e with
    | bool _ => cases m <;> simp [gd] at h
    | dict _ => cases m <;> simp [gd] at h
    | _ => simp [PyData.eqv]
  | k, m, .str i, e, _, h => by
    cases e with
    | bool _ => cases m <;> simp [gd] at h
    | dict _ => cases m <;> simp [gd] at h
    | _ => simp [PyData.eqv]
  | 0, m, .list _, e, h, _ => by simp [gd] at h
  | 0, m, .tuple _, e, h, _ => by simp [gd] at h
  | k + 1, m, .list xs, e, hd, h => by
    cases e with
    | bool _ => cases m <;> simp [gd] at h
    | dict _ => cases m <;> simp [gd] at h
    | list ys =>
      cases m with
      | zero => simp [gd] at h
      | succ m =>
        have a := gd_all (k := k) (xs := xs) (by simpa [gd] using hd)
        have b := gd_all (k := m) (xs := ys) (by simpa [gd] using h)
        simp only [PyData.eqv, PyData.list.injEq]
        exact eqvAll_iff xs ys fun x hx y hy => eqv_iff k m x y (a x hx) (b y hy)
    | _ => simp [PyData.eqv]
  | k + 1, m, .tuple xs, e, hd, h => by
    cases e with
    | bool _ => cases m <;> simp [gd] at h
    | dict _ => cases m <;> simp [gd] at h
    | tuple ys =>
      cases m with
      | zero => simp [gd] at h
      | succ m =>
        have a := gd_all (k := k) (xs := xs) (by simpa [gd] using hd)
        have b := gd_all (k := m) (xs := ys) (by simpa [gd] using h)
        simp only [PyData.eqv, PyData.tuple.injEq]
        exact eqvAll_iff xs ys fun x hx y hy => eqv_iff k m x y (a x hx) (b y hy)
    | _ => simp [PyData.eqv]
theorem eqv_of_eq {k : Nat} {d e : PyData} (h : gd k d = true) (e1 : d = e) : PyData.eqv d e = true := by
  subst e1
  exact (eqv_iff k k d d h h).mpr rfl
theorem eqv_of_ne {k m : Nat} {d e : PyData} (h : gd k d = true) (h' : gd m e = true) (e1 : d ≠ e) : PyData.eqv d e = false := by
  cases q : PyData.eqv d e with
  | false => rfl
  | true => exact absurd ((eqv_iff k m d e h h').mp q) e1
/-- the data of lists of ints, of tuples of ints -/
abbrev dLI (ns : List Int) : PyData := .list (ns.map .int)
abbrev dTI (ns : List Int) : PyData := .tuple (ns.map .int)
theorem gd_int_all (k : Nat) (ns : List Int) : (ns.map PyData.int).all (gd k) = true := by
  rw [List.all_eq_true]
  intro x hx
  obtain ⟨i, _, rfl⟩ := List.mem_map.mp hx
  cases k <;> rfl
theorem gd_dLI {k : Nat} (ns : List Int) : gd (k + 1) (dLI ns) = true := by simp only [dLI, gd]; exact gd_int_all k ns
theorem gd_dTI {k : Nat} (ns : List Int) : gd (k + 1) (dTI ns) = true := by simp only [dTI, gd]; exact gd_int_all k ns
theorem dpAll_ints {K : PySem.W.Frag} {H : Hp} : ∀ ns : List Int, DpAll K H (ns.map V.int) (ns.map PyData.int)
  | [] => .nil
  | n :: ns => .cons (.int n) (dpAll_ints ns)
theorem dp_LI {K : PySem.W.Frag} {H : Hp} {a : Addr} {ns : List Int} (h : SqL K H a (ns.map V.int)) : Dp K H (.ref a) (dLI ns) := .lst h (dpAll_ints ns)
theorem dp_TI {K : PySem.W.Frag} {H : Hp} {a : Addr} {ns : List Int} (h : SqT K H a (ns.map V.int)) : Dp K H (.ref a) (dTI ns) := .tup h (dpAll_ints ns)
theorem dLI_inj {ns ms : List Int} : dLI ns = dLI ms ↔ ns = ms := by
  constructor
  · intro h
    have h' : ns.map PyData.int = ms.map PyData.int := PyData.list.inj h
    exact (List.map_inj_right (fun _ _ q => PyData.int.inj q)).mp h'
  · intro h; rw [h]
theorem dTI_inj {ns ms : List Int} : dTI ns = dTI ms ↔ ns = ms := by
  constructor
  · intro h
    have h' : ns.map PyData.int = ms.map PyData.int := PyData.tuple.inj h
    exact (List.map_inj_right (fun _ _ q => PyData.int.inj q)).mp h'
  · intro h; rw [h]
/-- == of two data -/
theorem eqD {K : PySem.W.Frag} {H : Hp} {x y : V} {d e : PyData} {Q : VK} {k m : Nat} (hd : Dp K H x d) (he : Dp K H y e) (gk : gd k d = true) (gm : gd m e = true) (h1 : d = e → Q (.bl true) H) (h2 : d ≠ e → Q (.bl false) H) (hk : k ≤ 64 := by decide) (hm : m ≤ 64 := by decide) : rEqD K x y H Q := by
  refine ⟨d, e, hd, he, gd_shaped gk hk, gd_shaped gm hm, ?_⟩
  by_cases c : d = e
  · rw [eqv_of_eq gk c]; exact h1 c
  · rw [eqv_of_ne gk gm c]; exact h2 c
theorem neD {K : PySem.W.Frag} {H : Hp} {x y : V} {d e : PyData} {Q : VK} {k m : Nat} (hd : Dp K H x d) (he : Dp K H y e) (gk : gd k d = true) (gm : gd m e = true) (h1 : d = e → Q (.bl false) H) (h2 : d ≠ e → Q (.bl true) H) (hk : k ≤ 64 := by decide) (hm : m ≤ 64 := by decide) : rNeD K x y H Q := by
  refine ⟨d, e, hd, he, gd_shaped gk hk, gd_shaped gm hm, ?_⟩
  by_cases c : d = e
  · rw [eqv_of_eq gk c]; exact h1 c
  · rw [eqv_of_ne gk gm c]; exact h2 c
theorem newF {H H' : Hp} {p : Addr} {o : HO} (hp : H p = none) (e : upd H p o = H') : Same H H' ∧ H' p = some o := by
  subst e
  exact ⟨same_upd hp, upd_same⟩
/-- an item of a list, by its place -/
theorem ixL {K : PySem.W.Frag} {H : Hp} {p : Addr} {xs : List V} {i : Int} {j : Nat} {v : V} {Q : VK} (h : SqL K H p xs) (hi : i = (j : Int)) (e : xs[j]? = some v) (q : Q v H) : rIxL K (.ref p) (.int i) H Q :=
  ⟨p, xs, i, v, rfl, rfl, h, by rw [hi]; exact atI_nat e, q⟩
theorem ixT {K : PySem.W.Frag} {H : Hp} {p : Addr} {xs : List V} {i : Int} {j : Nat} {v : V} {Q : VK} (h : SqT K H p xs) (hi : i = (j : Int)) (e : xs[j]? = some v) (q : Q v H) : rIxT K (.ref p) (.int i) H Q :=
  ⟨p, xs, i, v, rfl, rfl, h, by rw [hi]; exact atI_nat e, q⟩
theorem setL {H : Hp} {p : Addr} {xs : List V} {i : Int} {j : Nat} {v : V} {Q : Hp → Prop} (h : H p = some (.lst xs)) (hi : i = (j : Int)) (e : j < xs.length) (q : Q (upd H p (.lst (xs.set j v)))) : rSetL (.ref p) (.int i) v H Q :=
  ⟨p, xs, i, j, rfl, rfl, h, by rw [hi]; unfold ixN; rw [if_pos (by omega), if_pos (by omega)]; simp, q⟩
theorem tyL {K : PySem.W.Frag} {H : Hp} {l : Addr} {xs : List V} (h : H l = some (.lst xs)) : tyV K "list" (.ref l) H := .inl ⟨rfl, _, SqL.of h⟩
theorem appR {H : Hp} {l : Addr} {xs : List V} {y : V} {Q : VK} (h : H l = some (.lst xs)) (hz : xs.length ≤ 99999) (q : Q .non (upd H l (.lst (xs ++ [y])))) : rAppend (.ref l) [y] H Q :=
  ⟨l, xs, y, rfl, rfl, h, szl (by omega), q⟩
theorem app {K : PySem.W.Frag} {H : Hp} {l : Addr} {xs : List V} {y : V} {Q : VK} (h : H l = some (.lst xs)) (hz : xs.length ≤ 99999) (q : Q .non (upd H l (.lst (xs ++ [y])))) : tyV K "list" (.ref l) H ∧ rAppend (.ref l) [y] H Q :=
  ⟨tyL h, l, xs, y, rfl, rfl, h, szl (by omega), q⟩
theorem Same.app {H H' : Hp} {p : Addr} {o : HO} (s : Same H H') (n : H p = none) : Same H (upd H' p o) := fun b x e => by
  rw [upd_ne (ne_of_none e n)]
  exact s b x e
theorem inV_ints (n : Int) (l : List Int) : inV (.int n) (l.map V.int) = decide (n ∈ l) := by
  unfold inV
  rw [List.any_map, Bool.eq_iff_iff, List.any_eq_true, decide_eq_true_eq]
  constructor
  · rintro ⟨x, hx, e⟩
    have : x = n := by simpa [eqV] using e
    rw [← this]; exact hx
  · intro h
    exact ⟨n, h, by simp [eqV]⟩
theorem flat_ints (l : List Int) : (l.map V.int).all flatV = true := by
  rw [List.all_eq_true]
  intro x hx
  obtain ⟨i, _, rfl⟩ := List.mem_map.mp hx
  rfl
end Nk
/-! ### d.keys() as a value; sorted of it -/
namespace Nk
open PySem L2 PySem.Spec PyProof.Rows
def KeysO (v d : Addr) : HO := .ext fun h => PySem.W.KdlKeysView h v d
theorem keysO_ok {P : Program} {w : World} {H : Hp} {h : Heap} {v d : Addr} (e : PySem.W.KdlKeysView h v d) : ObjOk P w H h v (KeysO v d) := by
  obtain ⟨o, ho, hc, hd⟩ := e
  exact ⟨⟨o, ho, hc, hd⟩, ⟨o, ho⟩, fun h1 h2 ⟨o', q, r⟩ k => ⟨o', k o' q, r⟩⟩
def rKeys : V → List V → Hp → VK → Prop := fun x xs H Q => ∃ (d : Addr) (kvs : List (Key × V)), x = .ref d ∧ xs = [] ∧ H d = some (.dK kvs) ∧ ∀ v, H v = none → Q (.ref v) (upd H v (KeysO v d))
section
variable {X : Cx}
theorem mt_keys : MtR X "dict.keys" rKeys := by
  intro pins s σ H x xs v us Q I rx rxs h
  obtain ⟨d, kvs, rfl, rfl, hd, q⟩ := h
  cases rx
  cases rxs
  obtain ⟨hz, hs0, vs, kv, hdo⟩ := I.hok d _ hd
  refine PySem.call_meetsIn F.slot_dict_keys hdo.typeIs F.entry_dict_keys (F.args_dict_keys_1 _) (PySem.W.kdl_meets_keys (mixKind X.prog X.w) d hs0) ⟨⟨vs, hdo⟩, ?_⟩
  refine ⟨.ref s.heap.objs.size, upd H s.heap.objs.size (KeysO s.heap.objs.size d), I.laid (t' := s.toks) (fun b ob q => Heap.get?_push_of_some _ q) (Nat.le_refl _) (keysO_ok ⟨_, Heap.get?_push_size _ rfl, rfl, rfl⟩), rfl, q _ (I.hok.fresh (Nat.le_refl _))⟩
/-- sorted(d.keys()), whole numbers, any number of them -/
def rSortedKI : List V → Hp → VK → Prop := fun xs H Q => ∃ (v d : Addr) (kvs : List (Key × V)) (ks : List Int), xs = [.ref v] ∧ H v = some (KeysO v d) ∧ H d = some (.dK kvs) ∧ kvs.map (·.1) = ks.map Sum.inl ∧
  ∀ (ys : List Int) (p : Addr), ys.Perm ks → ys.Pairwise (· ≤ ·) → H p = none → Q (.ref p) (upd H p (.lst (ys.map V.int)))
theorem cr_sortedKI (hcalm : X.calm = true) : CallR X (.builtin "sorted") rSortedKI := by
  intro pins s σ H xs us Q I r q
  obtain ⟨v, a, kvs, ks, ex, hv, hd, hks, q⟩ := q
  subst ex
  obtain ⟨u, eu, rx⟩ := vals1 r
  subst eu
  cases rx
  have hview : PySem.W.KdlKeysView s.heap v a := (I.hok v _ hv).1
  obtain ⟨z, lo, vs, rel, dd⟩ := I.hok a _ hd
  obtain ⟨ep, hat⟩ := dd.dictAt
  have hkeys : vs.map (·.1) = ks.map Sum.inl := rel.keys.symm.trans hks
  have hl : vs.length = ks.length := by
    have e := congrArg List.length hkeys
    rw [List.length_map, List.length_map] at e
    exact e
  have hl2 : kvs.length = vs.length := Paired.length rel
  have h16 : vs.length ≤ sizeLine := by omega
  refine Calls.call_function_entry PyProof.Rows.kind_sorted PyProof.Rows.plain_sorted PyProof.Rows.entry_sorted (PyProof.Rows.args_sorted1 _) ?_
  unfold Builtin.«sorted»
  refine wpAny_bind (m := checkCount "sorted" 1 1 _) (wpAny_pure ?_)
  refine wpAny_bind (PySem.W.kdu_collect (A := X.A.in1) (PySem.W.kdl_keys (knd := mixKind X.prog X.w) (r := v) (d := a) (kvs := vs) (ep := ep)) (I.ok.hd hcalm) ⟨hview, hat⟩ h16 fun h' tk acc hk hacc => ?_)
  have hal : acc.toList.length = ks.length := by rw [Array.length_toList, hacc.1, hl]
  have hS : IntsAre acc.toList ks := ints_each hal fun j v e => by
    obtain ⟨k, x, e1, e2⟩ := hacc.2 j v (by rw [← Array.getElem?_toList]; exact e)
    have e3 : (vs.map (·.1))[j]? = some k := by rw [List.getElem?_map, e1]; rfl
    rw [hkeys, List.getElem?_map] at e3
    cases e4 : ks[j]? with
    | none => rw [e4] at e3; cases e3
    | some y =>
      rw [e4] at e3
      have e5 : Sum.inl y = k := Option.some.inj e3
      subst e5
      rcases keyIs_shape (show keyIs (Sum.inl y) v = true from e2) with ⟨i, t, ek, ev⟩ | ⟨z, t, ek, ev⟩
      · cases ek
        exact ⟨y, t, rfl, ev⟩
      · cases ek
  have I1 : Inv X pins σ H { s with heap := h', toks := tk } := I.kept hk
  refine wpAny_bind (wpAny_newList ?_ (by rw [hal]; omega))
  have hoL : (h'.push (seqObj "list" acc.toList.toArray 0)).get? h'.objs.size = some (seqObj "list" acc.toList.toArray 0) := Heap.get?_push_size _ rfl
  show wpAny _ _ _ _ _ { s with heap := h'.push (seqObj "list" acc.toList.toArray 0), toks := tk }
  refine wpAny_bind (wpAny_holding (wpAny_call_entry PyProof.Rows.slot_list_sort ⟨_, hoL, rfl⟩ PyProof.Rows.entry_list_sort
    (SrtO.list_sort_ord (s := { s with heap := h'.push (seqObj "list" acc.toList.toArray 0), toks := tk }) SrtO.swo_int hoL (by rw [hal]; omega) (fun h2 => SrtO.ints_sortable hS h2) fun out g1 g2 => ⟨_, rfl, ?_⟩) (PyProof.Rows.args_list_sort _)))
  obtain ⟨k1, k2, k3⟩ := SrtO.ints_out hS g1 g2
  obtain ⟨e', he'⟩ := PyProof.Rows.sortedHeap_at (vs := acc.toList) (out := out.toArray) hoL
  have hlen : ((out.map SrtO.iv).map V.int).length ≤ sizeLine := by
    rw [List.length_map, k2.length_eq]
    omega
  refine wpAny_pure ⟨_, rfl, .ref h'.objs.size, upd H h'.objs.size (.lst ((out.map SrtO.iv).map V.int)), I1.laid (t' := tk) (fun b u e => ?_) (Nat.le_refl _)
    (show ObjOk X.prog X.w _ _ _ (.lst ((out.map SrtO.iv).map V.int)) from ⟨hlen, out, e', vals_of_ints k1, he'⟩), rfl, q _ _ k2 k3 (I1.hok.fresh (Nat.le_refl _))⟩
  have hb : b < h'.objs.size := Heap.lt_size e
  rw [PyProof.Rows.sortedHeap_old (Nat.ne_of_lt hb) (by rw [size_push']; exact Nat.lt_succ_of_lt hb)]
  exact Heap.get?_push_of_some _ e
end
end Nk
/-! ### the layer's rules with the written part named (for comprehensions, where the reading may not lean on the block) -/
namespace Nk
open PySem L2
section
variable {X : Cx} {K : PySem.W.Frag}
theorem op_inK (K : PySem.W.Frag) (h : X.K = K) : OpR X (compareOp .In) (rIn K false) := h ▸ op_in_seq
theorem op_notInK (K : PySem.W.Frag) (h : X.K = K) : OpR X (compareOp .NotIn) (rIn K true) := h ▸ op_notIn_seq
theorem ix_listK (K : PySem.W.Frag) (h : X.K = K) : IxR X (rIxL K) := h ▸ ix_list
theorem ix_tupK (K : PySem.W.Frag) (h : X.K = K) : IxR X (rIxT K) := h ▸ ix_tup
theorem sl_listK (K : PySem.W.Frag) (h : X.K = K) : SlR X (rSlL K) := h ▸ sl_list
theorem sl_tupK (K : PySem.W.Frag) (h : X.K = K) : SlR X (rSlT K) := h ▸ sl_tup
def rLenQ (K : PySem.W.Frag) : List V → Hp → VK → Prop := fun xs H Q => ∃ p ys, xs = [V.ref p] ∧ (SqL K H p ys ∨ SqT K H p ys) ∧ Q (.int ys.length) H
theorem call_lenK (K : PySem.W.Frag) (h : X.K = K) : CallR X (.builtin "len") (rLenQ K) := h ▸ call_len_seq
def rListQ (K : PySem.W.Frag) : List V → Hp → VK → Prop := fun xs H Q => ∃ p ys, xs = [V.ref p] ∧ (SqL K H p ys ∨ SqT K H p ys) ∧ ∀ l, H l = none → Q (.ref l) (upd H l (.lst ys))
theorem call_listK (K : PySem.W.Frag) (h : X.K = K) : CallR X (.type "list") (rListQ K) := h ▸ call_list_of
def rTupleQ (K : PySem.W.Frag) : List V → Hp → VK → Prop := fun xs H Q => ∃ p ys, xs = [V.ref p] ∧ ((SqL K H p ys ∧ ∀ l, H l = none → Q (.ref l) (upd H l (.tup ys))) ∨ (SqT K H p ys ∧ Q (.ref p) H))
theorem call_tupleK (K : PySem.W.Frag) (h : X.K = K) : CallR X (.type "tuple") (rTupleQ K) := h ▸ call_tuple_of
theorem cr_sumK (K : PySem.W.Frag) (h : X.K = K) (hc : X.calm = true) : CallR X (.builtin "sum") (rSum K) := h ▸ cr_sum hc
theorem cr_sumTK (K : PySem.W.Frag) (h : X.K = K) (hc : X.calm = true) : CallR X (.builtin "sum") (rSumT K) := h ▸ cr_sumT hc
theorem cr_allK (K : PySem.W.Frag) (h : X.K = K) (hc : X.calm = true) : CallR X (.builtin "all") (rAll K) := h ▸ cr_all hc
theorem cr_anyK (K : PySem.W.Frag) (h : X.K = K) (hc : X.calm = true) : CallR X (.builtin "any") (rAny K) := h ▸ cr_any hc
theorem cr_maxK (K : PySem.W.Frag) (h : X.K = K) (hc : X.calm = true) : CallR X (.builtin "max") (rMax K) := h ▸ cr_max hc
theorem cr_minK (K : PySem.W.Frag) (h : X.K = K) (hc : X.calm = true) : CallR X (.builtin "min") (rMin K) := h ▸ cr_min hc
theorem op_eqDK (K : PySem.W.Frag) (h : X.K = K) (hu : X.A.units + 64 < cLine) : OpR X (compareOp .Eq) (rEqD K) := h ▸ op_eqD hu
theorem op_neDK (K : PySem.W.Frag) (h : X.K = K) (hu : X.A.units + 64 < cLine) : OpR X (compareOp .NotEq) (rNeD K) := h ▸ op_neD hu
theorem op_catTK (K : PySem.W.Frag) (h : X.K = K) : OpR X (binaryOp .Add) (rCatT K) := h ▸ op_catT
theorem call_isiK_ (K : PySem.W.Frag) (h : X.K = K) : CallR X (.builtin "isinstance") (rIsi K) := h ▸ call_isi
theorem pi_listK {tg l : Expr} {tl : TE} (K : PySem.W.Frag) (h : X.K = K) (hl : PE X l tl) : PI X tg l (iList K tl) := h ▸ pi_list hl
theorem pi_tupK {tg l : Expr} {tl : TE} (K : PySem.W.Frag) (h : X.K = K) (hl : PE X l tl) : PI X tg l (iTup K tl) := h ▸ pi_tup hl
theorem pg_tupK {es : List Expr} {k : Nat} {t : TGs} {n : Nat} {pos : Pos} (K : PySem.W.Frag) (hK : X.K = K) (hc : X.calm = true) (h : PGs X es t)
    (hn : (assignEach es X.env).length = n := by rfl) (hst : (assignEach es X.env).findIdx? (·.1) = none := by rfl) : PG X (.Tuple es k pos) (gTup K n t) := hK ▸ pg_tup hc h hn hst
theorem pi_enumK {e : Expr} {ta : TA} {p pos tpos : Pos} {elts : List Expr} {kk : Nat} (K : PySem.W.Frag) (h : X.K = K) (hg : Gl X "enumerate") (hm : X.mg "enumerate" = none) (ha : PA X [e] ta) (hs : starEach [e] X.env = [(false, eval e X.env)] := by rfl) :
    PI X (.Tuple elts kk tpos) (.Call (.Name "enumerate" p) [e] [] pos) (iEnum K ta) := h ▸ pi_enum hg hm ha hs
theorem pi_zipK {e e2 : Expr} {ta : TA} {p pos tpos : Pos} {elts : List Expr} {kk : Nat} (K : PySem.W.Frag) (h : X.K = K) (hg : Gl X "zip") (hm : X.mg "zip" = none) (ha : PA X [e, e2] ta)
    (hs : starEach [e, e2] X.env = (false, eval e X.env) :: starEach [e2] X.env := by rfl) (hpl : (backTo pos (starEach [e2] X.env)).any (·.1) = false := by rfl) :
    PI X (.Tuple elts kk tpos) (.Call (.Name "zip" p) [e, e2] [] pos) (iZip K ta) := h ▸ pi_zip hg hm ha hs hpl
end
end Nk
/-! ### more rules: tuples put together (the left one may be empty), ranges, == of lists with [] -/
namespace Nk
open PySem L2 PySem.Spec PyProof.Rows
section
variable {X : Cx}
def rCatT3 : R2 := fun x y H Q => ∃ a b xs ys, x = .ref a ∧ y = .ref b ∧ H a = some (.tup xs) ∧ H b = some (.tup ys) ∧ xs.length + ys.length ≤ 100000 ∧ ∀ p H', Same H H' → H' p = some (.tup (xs ++ ys)) → Q (.ref p) H'
theorem op_catT3 : OpR X (binaryOp .Add) rCatT3 := by
  intro pins s σ H x y v u Q I rx ry h
  obtain ⟨a, b, xs, ys, rfl, rfl, ha, hb, hz, q⟩ := h
  by_cases hx : xs = []
  · subst hx
    cases rx
    cases ry
    obtain ⟨its, r1, p1, _⟩ := I.tuple (sqT (K := X.K) ha)
    obtain ⟨its2, r2, p2, _⟩ := I.tuple (sqT (K := X.K) hb)
    cases r1
    obtain ⟨⟨cls, dd, data, sl⟩, ho, hc, n, hd⟩ := id p1
    obtain ⟨⟨cls2, dd2, data2, sl2⟩, ho2, hc2, n2, hd2⟩ := id p2
    simp only at hc hd hc2 hd2
    subst hc hd hc2 hd2
    exact concat_meets ⟨_, ho, rfl⟩ ⟨_, ho2, rfl⟩ noFill_tuple_add seq_tuple_add PySem.F.slot_tuple_add PySem.F.entry_tuple_add (PySem.F.args_tuple_add_2 _ _)
      (tuple_addW0 a b #[] its2.toArray n n2 dd dd2 sl sl2 (by rfl)) ⟨ho, ho2, ⟨.ref b, H, I, rfl, q b H (Same.refl _) hb⟩⟩
  · refine op_catT pins s σ H (.ref a) (.ref b) v u Q I rx ry ⟨a, b, xs, ys, rfl, rfl, sqT ha, sqT hb, hx, sz hz, fun e => ?_, fun _ p hp => q p _ (same_upd hp) upd_same⟩
    subst e
    exact q a H (Same.refl _) (by rw [List.append_nil]; exact ha)
def rInR (neg : Bool) : R2 := fun x y H Q => ∃ i a lo hi, x = V.int i ∧ y = V.ref a ∧ H a = some (.rng lo hi) ∧ Q (.bl (if neg then !decide (lo ≤ i ∧ i < hi) else decide (lo ≤ i ∧ i < hi))) H
theorem op_inR : OpR X (compareOp .In) (rInR false) := op_in_rng
theorem op_notInR : OpR X (compareOp .NotIn) (rInR true) := by
  intro pins s σ H x y v u Q I rx ry h
  obtain ⟨i, a, lo, hi, rfl, rfl, ha, q⟩ := h
  obtain ⟨k, rfl⟩ := rx
  obtain rfl : u = Value.ref a := ry
  obtain ⟨t1, t2, t3, ho⟩ := I.hok a _ ha
  show wpAny _ _ (do return Value.bool (!(← contains (Value.ref a) (Value.int i k)))) _ _ s
  refine wpAny_bind (wpAny_contains_slot (T := "range") ⟨_, ho, rfl⟩ F.slot_range_contains (call_meets F.slot_range_contains ⟨_, ho, rfl⟩ F.entry_range_contains (F.args_range_contains_2 _ _) (q_contains a lo hi i t1 t2 t3 k)
    ⟨ho, wpAny_truthy_bool (wpAny_pure ⟨.bl _, H, I, rfl, ?_⟩)⟩))
  rw [place1]
  exact q
def rRange : List V → Hp → VK → Prop := fun vs H Q => ∃ i j, vs = [V.int i, V.int j] ∧ ∀ p, H p = none → Q (.ref p) (upd H p (.rng i j))
theorem cr_rangeV : CallR X (.type "range") rRange := cr_range2
end
/-- data, bools among them -/
def gb : Nat → PyData → Bool
  | _, .none => true
  | _, .int _ => true
  | _, .str x => PyData.strOk x
  | _, .bool _ => true
  | k + 1, .list xs => xs.all (gb k)
  | k + 1, .tuple xs => xs.all (gb k)
  | _, _ => false
theorem gb_lay : ∀ (k : Nat) (d : PyData), gb k d = true → d.canLay0 = true ∧ d.depth ≤ k
  | k, .none, _ => by simp [PyData.canLay0, PyData.depth]
  | k, .bool _, _ => by simp [PyData.canLay0, PyData.depth]
  | k, .int _, _ => by simp [PyData.canLay0, PyData.depth]
  | k, .str x, h => by
    have h' : PyData.strOk x = true := by simpa [gb] using h
    simp [PyData.canLay0, PyData.depth, h']
  | k, .dict _, h => by cases k <;> simp [gb] at h
  | 0, .list _, h => by simp [gb] at h
  | 0, .tuple _, h => by simp [gb] at h
  | k + 1, .list xs, h => by
    have a : ∀ x ∈ xs, gb k x = true := by simpa [gb] using h
    simp only [PyData.canLay0, PyData.depth]
    exact ⟨canLayAll_of fun x hx => (gb_lay k x (a x hx)).1, Nat.succ_le_succ (depthAll_le fun x hx => (gb_lay k x (a x hx)).2)⟩
  | k + 1, .tuple xs, h => by
    have a : ∀ x ∈ xs, gb k x = true := by simpa [gb] using h
    simp only [PyData.canLay0, PyData.depth]
    exact ⟨canLayAll_of fun x hx => (gb_lay k x (a x hx)).1, Nat.succ_le_succ (depthAll_le fun x hx => (gb_lay k x (a x hx)).2)⟩
theorem gb_shaped {k : Nat} {d : PyData} (h : gb k d = true) (hk : k ≤ 64 := by decide) : SeqAt.shaped d = true := by
  obtain ⟨h1, h2⟩ := gb_lay k d h
  unfold SeqAt.shaped
  rw [h1]
  simp
  omega
/-- a thing that may stand within another: it can be laid down as data -/
def Dat (K : PySem.W.Frag) (H : Hp) (k : Nat) (x : V) : Prop := ∃ d, Dp K H x d ∧ gb k d = true
mutual
theorem Dp.same {K : PySem.W.Frag} {H H' : Hp} (s : Same H H') : ∀ {x : V} {d : PyData}, Dp K H x d → Dp K H' x d
  | _, _, .non => .non
  | _, _, .bl b => .bl b
  | _, _, .int i => .int i
  | _, _, .str x => .str x
  | _, _, .lst h a => .lst (s.seq h) (DpAll.same s a)
  | _, _, .tup h a => .tup (Same.tup s h) (DpAll.same s a)
theorem DpAll.same {K : PySem.W.Frag} {H H' : Hp} (s : Same H H') : ∀ {xs : List V} {ds : List PyData}, DpAll K H xs ds → DpAll K H' xs ds
  | _, _, .nil => .nil
  | _, _, .cons h a => .cons (Dp.same s h) (DpAll.same s a)
end
theorem Dat.same {K : PySem.W.Frag} {H H' : Hp} {k : Nat} {x : V} (s : Same H H') (h : Dat K H k x) : Dat K H' k x := by
  obtain ⟨d, h1, h2⟩ := h
  exact ⟨d, Dp.same s h1, h2⟩
theorem dat_all {K : PySem.W.Frag} {H : Hp} {k : Nat} : ∀ {xs : List V}, (∀ x ∈ xs, Dat K H k x) → ∃ ds, DpAll K H xs ds ∧ ds.all (gb k) = true ∧ ds.length = xs.length
  | [], _ => ⟨[], .nil, rfl, rfl⟩
  | x :: xs, h => by
    obtain ⟨d, h1, h2⟩ := h x List.mem_cons_self
    obtain ⟨ds, a, b, c⟩ := dat_all (xs := xs) fun y hy => h y (List.mem_cons_of_mem _ hy)
    exact ⟨d :: ds, .cons h1 a, by rw [List.all_cons, h2, b]; rfl, by simp [c]⟩
theorem eqv_nil {ds : List PyData} (h : ds ≠ []) : PyData.eqv (.list ds) (.list []) = false := by
  cases ds with
  | nil => exact absurd rfl h
  | cons d ds => simp [PyData.eqv, PyData.eqvAll]
/-- l == [], whatever stands in l -/
theorem eqE {K : PySem.W.Frag} {H : Hp} {a b : Addr} {xs : List V} {k : Nat} {Q : VK} (ha : SqL K H a xs) (hx : ∀ x ∈ xs, Dat K H k x) (hb : SqL K H b []) (h1 : xs = [] → Q (.bl true) H) (h2 : xs ≠ [] → Q (.bl false) H) (hk : k + 1 ≤ 64 := by decide) : rEqD K (.ref a) (.ref b) H Q := by
  obtain ⟨ds, d1, d2, d3⟩ := dat_all hx
  refine ⟨.list ds, .list [], .lst ha d1, .lst hb .nil, gb_shaped (k := k + 1) (by simpa [gb] using d2) hk, by decide, ?_⟩
  by_cases c : xs = []
  · have : ds = [] := List.length_eq_zero_iff.mp (by rw [d3, c]; rfl)
    subst this
    exact h1 c
  · rw [eqv_nil (fun e => c (List.length_eq_zero_iff.mp (by rw [← d3, e]; rfl)))]
    exact h2 c
theorem neE {K : PySem.W.Frag} {H : Hp} {a b : Addr} {xs : List V} {k : Nat} {Q : VK} (ha : SqL K H a xs) (hx : ∀ x ∈ xs, Dat K H k x) (hb : SqL K H b []) (h1 : xs = [] → Q (.bl false) H) (h2 : xs ≠ [] → Q (.bl true) H) (hk : k + 1 ≤ 64 := by decide) : rNeD K (.ref a) (.ref b) H Q := by
  obtain ⟨ds, d1, d2, d3⟩ := dat_all hx
  refine ⟨.list ds, .list [], .lst ha d1, .lst hb .nil, gb_shaped (k := k + 1) (by simpa [gb] using d2) hk, by decide, ?_⟩
  by_cases c : xs = []
  · have : ds = [] := List.length_eq_zero_iff.mp (by rw [d3, c]; rfl)
    subst this
    exact h1 c
  · rw [eqv_nil (fun e => c (List.length_eq_zero_iff.mp (by rw [← d3, e]; rfl)))]
    exact h2 c
end Nk
/-! ### comprehensions that filter ints -/
namespace Nk
open PySem L2
theorem lcF {K : PySem.W.Frag} {a : Addr} {ns : List Int} {j : Nat} {tt : TT} {vs : List Nat} {σ : L2.St} {H1 : Hp} {D : Addr} {Qd : Hp → Prop} (f : Int → Bool) (hD : H1 D = none) (hT : SqL K H1 a (ns.map V.int)) (hn : ns.length ≤ 99999)
    (hj : ∀ v : V, ((wipe σ vs).set j (some v))[j]? = some (some v)) (hw : ∀ v : V, wipe ((wipe σ vs).set j (some v)) vs = wipe σ vs)
    (ht : ∀ n H, n ∈ ns → Same H1 H → ∀ Q : Bool → Hp → Prop, (∀ H', Same H H' → Q (f n) H') → tt ((wipe σ vs).set j (some (.int n))) H Q)
    (hd : ∀ H, Same H1 H → H D = some (.lst ((ns.filter f).map V.int)) → Qd H) : LcW (Itl K a) (gName j) tt (tVar j) vs σ H1 D Qd := by
  refine lcL hD hT (fun i => ((ns.take i).filter f).map V.int) (by simp) (fun i x H hx p => ?_) (fun H s hH => hd H s (by simpa using hH))
  rw [List.getElem?_map] at hx
  cases e : ns[i]? with
  | none => rw [e] at hx; cases hx
  | some n =>
  rw [e] at hx
  cases hx
  refine ⟨hw _, ht n H (mem_of_get e) p.same _ fun H' s => ?_⟩
  have hf := filter_take_next f e
  cases c : f n with
  | true =>
    rw [if_pos rfl]
    refine ⟨_, hj _, p.push hD (by rw [List.length_map]; exact Nat.le_trans (filter_len ns f i) hn) s ?_⟩
    show _ = _
    rw [hf, c]
    simp
  | false =>
    rw [if_neg Bool.false_ne_true]
    refine p.skip s ?_
    show _ = _
    rw [hf, c]
    simp
theorem cut_from (xs : List V) (j : Nat) : cutV xs (some (j : Int)) none = xs.drop j := by
  unfold cutV
  rw [HT.sIx_none, HT.sIx_nat]
  by_cases h : j ≤ xs.length
  · rw [Nat.min_eq_left h, List.take_of_length_le (by simp)]
  · rw [Nat.min_eq_right (by omega), List.drop_of_length_le (Nat.le_refl _), List.drop_of_length_le (by omega)]
    simp
theorem cut_to (xs : List V) (j : Nat) : cutV xs none (some (j : Int)) = xs.take j := by
  unfold cutV
  rw [HT.sIx_none, HT.sIx_nat, List.drop_zero, Nat.sub_zero]
  by_cases h : j ≤ xs.length
  · rw [Nat.min_eq_left h]
  · rw [Nat.min_eq_right (by omega), List.take_of_length_le (Nat.le_refl _), List.take_of_length_le (by omega)]
end Nk
/-! ### set(l) of a list of whole numbers; sorted and len of it, however many -/
namespace Nk
open PySem L2 PySem.Spec PyProof.Rows
abbrev eSet (w : World) : Obj := { cls := .type "set", dict := none, data := .set #[] 0 (.fresh 0 0 (!w.params.followText "set-order")) }
section
variable {prog : Program} {w : World} {A : Around} {E : Value → Shared → Prop} {s : Shared}
set_option maxRecDepth 100000 in
set_option maxHeartbeats 3200000 in
theorem set_of_list {l : Addr} {xs : Array Value} (ns : List Int) {Q : Value → Shared → Prop} (calm : A.handled = none) (isl : s.heap.IsList l xs) (hin : IntsAre xs.toList ns) (few : ns.length + 1 < scanBound)
    (fin : ∀ (g : Heap) (tk c : Nat), SetR w g s.heap.objs.size (fun j => decide (j ∈ ns)) c → c ≤ ns.length → (∀ b o, s.heap.get? b = some o → g.get? b = some o) → Q (.ref s.heap.objs.size) { s with heap := g, toks := tk }) :
    wpAny (model prog w) A (call (.type "set") [.ref l]) Q E s := by
  have size : xs.size = ns.length := by
    have := hin.length
    rwa [Array.length_toList] at this
  obtain ⟨m1, m2, hmro⟩ := F.called_set.mro
  have hm0 := F.called_set.made
  have hm1 := F.called_set.sub
  refine wpAny_call (codeAny_of_tree ?_)
  show wpAny _ _ (callAny (.type "set") _) _ _ _
  refine wpAny_pure ⟨Code.quiet_builtin _ (by decide +kernel), codeAny_builtin F.entry_type_call ?_⟩
  rw [Around.under_plain (weight_type_call_type "set" [.ref l] []) rfl]
  have hm2 := F.called_set.notType
  have hm3 := F.called_set.canCreate
  have hm4 := F.typeCall_set_1 (.ref l)
  repeat (any_goals (first | assumption | wp_step))
  refine codeAny_mono (code_set_led1 (.ref l) (E := E) (Q₁ := fun v s1 => v = .ref s.heap.objs.size ∧ s1 = { s with heap := s.heap.push (eSet w) }) ⟨rfl, rfl⟩) fun r s1 hr => ?_
  cases r with
  | error _ => exact hr
  | ok fl =>
    cases fl with
    | ret v =>
      obtain ⟨rfl, rfl⟩ := hr
      have at0 : (s.heap.push (eSet w)).get? s.heap.objs.size = some (eSet w) := Heap.get?_push_size _ rfl
      have ty0 : Shared.TypeIs { s with heap := s.heap.push (eSet w) } (.ref s.heap.objs.size) "set" := ⟨_, at0, rfl⟩
      have hi1 := F.called_set.init.lookup
      have hi2 := F.called_set.init.bind (.ref s.heap.objs.size)
      repeat (any_goals (first | assumption | wp_step))
      refine codeAny_mono (codeAny_call_builtin (R := wants (fun r s2 => r = .none ∧ ∃ g tk c, s2 = { s with heap := g, toks := tk } ∧ SetR w g s.heap.objs.size (fun j => decide (j ∈ ns)) c ∧ c ≤ ns.length ∧
          (∀ b o, s.heap.get? b = some o → g.get? b = some o)) E) F.called_set.init.plain F.entry_set_init (check_set_init_1 ty0 ?_)) fun r2 s2 hr2 => ?_
      · obtain ⟨ol, hol, hcl, nl, hdl⟩ := isl
        obtain ⟨k1, k2, k3, k4⟩ := ol
        simp only at hcl hdl
        subst hcl hdl
        have hol1 : (s.heap.push (eSet w)).get? l = some { cls := .type "list", dict := k2, data := .seq xs nl, slots := k4 } := Heap.get?_push_of_some _ hol
        have sub1 := F.sub_list_set
        have sub2 := F.sub_list_frozenset
        have nodict : (Value.type "list" == Value.type "dict") = false := by decide
        have isl1 : (s.heap.push (eSet w)).IsList l xs := ⟨_, hol1, rfl, nl, rfl⟩
        unfold Builtin.«set.__init__» noKeywords Builtin.Frozenset.updateFrom
        generalize hPI : pyIter = PI
        wp_walk
        subst hPI
        refine wpAny_pyIter_list isl1 ?_
        refine wpAny_bind (wpAny_runValue ?_)
        have lt0 : l < s.heap.objs.size := Heap.lt_size hol
        have calm3 : A.in1.in1.in1.handled = none := by simp [calm]
        have ne1 : l ≠ (s.heap.push (eSet w)).objs.size := by
          rw [Heap.size_push]
          exact Nat.ne_of_lt (Nat.lt_succ_of_lt lt0)
        have out1 : s.heap.objs.size ∉ [(s.heap.push (eSet w)).objs.size, l] := by
          rw [Heap.size_push]
          simp only [List.mem_cons, List.mem_singleton, List.not_mem_nil, or_false, not_or]
          exact ⟨Nat.ne_of_lt (Nat.lt_succ_self _), Nat.ne_of_gt lt0⟩
        have vals : ∀ (i : Nat) (v : Value), xs[i]? = some v → ∃ k t, ns[i]? = some k ∧ v = .int k t := fun i v hv => by
          have hi : i < ns.length := by
            rw [← size]
            exact (Array.getElem?_eq_some_iff.mp hv).1
          obtain ⟨t, e⟩ := PyProof.Rows.IntsAre.int_at hin i v (by rw [Array.getElem?_toList]; exact hv)
          refine ⟨ns[i], t, List.getElem?_eq_getElem hi, ?_⟩
          rw [e, List.getD_eq_getElem?_getD, List.getElem?_eq_getElem hi] <;> rfl
        refine set_update_ints ((Walks.list calm3 _ l ne1 xs).toS) s.heap.objs.size out1 ns size few vals (xs.size - 0) 0 _ (by omega) (Nat.zero_le _) ⟨⟨_, Heap.get?_push_size _ rfl, rfl, rfl⟩, (isl1.push _)⟩ ?one ?two
        case one =>
          have at2 : ((s.heap.push (eSet w)).push { cls := .type "list_iterator", data := .fields #[.ref l, .int 0 0] }).get? s.heap.objs.size = some (eSet w) := Heap.get?_push_of_some _ at0
          exact ⟨0, Nat.le_refl 0, setR_new_at at2⟩
        case two =>
          intro s3 c3 mv hc3 R3
          obtain ⟨h3, g3, d3, t3, o3⟩ := s3
          have eg : g3 = s.gens := mv.gens
          have ed : d3 = s.drawn := mv.drawn
          have eo : o3 = s.os := mv.os
          subst eg ed eo
          show wpAny _ _ _ _ _ _
          refine wpAny_pure ?_
          show wpAny _ _ (ret Value.none) _ _ _
          rw [size] at hc3
          refine wpAny_pure ⟨rfl, h3, t3, c3, rfl, R3, hc3, fun b o e => ?_⟩
          have lb : b < s.heap.objs.size := Heap.lt_size e
          have nb1 : b ≠ s.heap.objs.size := Nat.ne_of_lt lb
          have nb2 : b ≠ (s.heap.push (eSet w)).objs.size := by
            rw [Heap.size_push]
            exact Nat.ne_of_lt (Nat.lt_succ_of_lt lb)
          refine mv.heap b o ?_ (Heap.get?_push_of_some _ (Heap.get?_push_of_some _ e))
          simp only [List.mem_cons, List.mem_singleton, List.not_mem_nil, or_false, not_or]
          exact ⟨nb1, nb2⟩
      · cases r2 with
        | error _ => exact hr2
        | ok fl2 =>
          cases fl2 with
          | ret _ =>
            obtain ⟨rfl, g, tk, c, rfl, R2, hc2, k2⟩ := hr2
            repeat (any_goals (first | assumption | wp_step))
            exact fin _ _ _ R2 hc2 k2
          | _ => exact hr2.elim
    | _ => exact hr.elim
end
section
variable {X : Cx}
def rSetLI (K : PySem.W.Frag) (w : World) : List V → Hp → VK → Prop := fun vs H Q => ∃ (a : Addr) (ns : List Int), vs = [V.ref a] ∧ SqL K H a (ns.map V.int) ∧ ns.length ≤ 4000 ∧
  ∀ (p : Addr) (c : Nat), H p = none → c ≤ ns.length → Q (.ref p) (upd H p (SetO w p (fun j => decide (j ∈ ns)) c))
theorem cr_setLI (hc : X.calm = true) : CallR X (.type "set") (rSetLI X.K X.w) := by
  intro pins s σ H vs us Q I r h
  obtain ⟨a, ns, rfl, hs, hz, q⟩ := h
  obtain ⟨its, rv, hl, _⟩ := I.list hs
  rw [Vals.ref1 r]
  refine set_of_list ns (I.ok.hd hc) hl.isList rv.ints (by unfold scanBound; omega) fun g tk c R hc k => ?_
  exact ⟨.ref _, _, I.laid (t' := tk) (o := SetO X.w s.heap.objs.size (fun j => decide (j ∈ ns)) c) k (Nat.le_refl _) (setO_new R), rfl, q _ c (I.hok.fresh (Nat.le_refl _)) hc⟩
theorem rise_of_nodup {l : List Int} (h : l.Pairwise (· ≤ ·)) (nd : l.Nodup) : l.Pairwise (· < ·) := (h.and nd).imp fun {a b} ⟨h1, h2⟩ => by omega
/-- sorted of a set, however many -/
def rSortedSA (w : World) : List V → Hp → VK → Prop := fun vs H Q => ∃ (a : Addr) (S : Int → Bool) (n : Nat), vs = [V.ref a] ∧ H a = some (SetO w a S n) ∧ n ≤ 10000 ∧
  ∀ (ns : List Int) (p : Addr), ns.Pairwise (· < ·) → (∀ k : Int, k ∈ ns ↔ S k = true) → ns.length = n → H p = none → Q (.ref p) (upd H p (.lst (ns.map V.int)))
theorem cr_sortedSA (hcalm : X.calm = true) : CallR X (.builtin "sorted") (rSortedSA X.w) := by
  intro pins s σ H vs us Q I r h
  obtain ⟨a, S, n, rfl, ha, hn0, q⟩ := h
  rw [Vals.ref1 r]
  obtain ⟨o, es, ep, t, ho, hex, hd, g, nd, hm, hb, hf, hn, hr, hl⟩ := setO_get I ha
  refine Calls.call_function_entry PyProof.Rows.kind_sorted PyProof.Rows.plain_sorted PyProof.Rows.entry_sorted (PyProof.Rows.args_sorted1 _) ?_
  unfold Builtin.«sorted»
  refine wpAny_bind (m := checkCount "sorted" 1 1 _) (wpAny_pure ?_)
  refine wpAny_bind (collect_set (A := X.A.in1) (I.ok.hd hcalm) ⟨o, ho, hex.1, hd⟩ hf hb hr hl fun s1 us k1 hz g1 o1 pm => ?_)
  have hul : us.length = n := by
    rw [pm.length_eq, List.length_map, Array.length_toList]
    exact hn
  have hI : IntsAre us (us.map Builtin.Re.reRawOf) := ints_of us fun v hv => by
    obtain ⟨e, he, q⟩ := List.mem_map.mp (pm.mem_iff.mp hv)
    obtain ⟨k, tk, h1, _⟩ := g e he
    exact ⟨k, tk, by rw [← q]; exact h1⟩
  have pk : (us.map Builtin.Re.reRawOf).Perm (es.toList.map keyOf) := by
    have z := pm.map Builtin.Re.reRawOf
    rw [List.map_map] at z
    exact z
  have hsz : us.length ≤ sizeLine := by
    rw [hul]
    exact sz (by omega)
  refine wpAny_bind (wpAny_newList ?_ hsz)
  have hoL : (s1.heap.push (seqObj "list" us.toArray 0)).get? s1.heap.objs.size = some (seqObj "list" us.toArray 0) := Heap.get?_push_size _ rfl
  refine wpAny_bind (wpAny_holding (wpAny_call_entry PyProof.Rows.slot_list_sort ⟨_, hoL, rfl⟩ PyProof.Rows.entry_list_sort
    (SrtO.list_sort_ord SrtO.swo_int hoL hsz (fun h2 => SrtO.ints_sortable hI h2) fun out b1 b2 => ⟨_, rfl, ?_⟩) (PyProof.Rows.args_list_sort _)))
  obtain ⟨c1, c2, c3⟩ := SrtO.ints_out hI b1 b2
  obtain ⟨e', he'⟩ := PyProof.Rows.sortedHeap_at (vs := us) (out := out.toArray) hoL
  have pn : (out.map SrtO.iv).Perm (es.toList.map keyOf) := c2.trans pk
  have hlen : ((out.map SrtO.iv).map V.int).length ≤ sizeLine := by
    rw [List.length_map, c2.length_eq, List.length_map]
    exact hsz
  have hnone : H s1.heap.objs.size = none := I.hok.fresh hz
  have old : ∀ b u, s.heap.get? b = some u → (PyProof.Rows.sortedHeap (s1.heap.push (seqObj "list" us.toArray 0)) s1.heap.objs.size us out.toArray).get? b = some u := fun b u e => by
    have z := k1 b u e
    have lt := Heap.lt_size z
    rw [PyProof.Rows.sortedHeap_old (Nat.ne_of_lt lt) (by rw [size_push']; exact Nat.lt_succ_of_lt lt)]
    exact Heap.get?_push_of_some _ z
  have J : Inv X pins σ (upd H s1.heap.objs.size (.lst ((out.map SrtO.iv).map V.int))) { s with heap := PyProof.Rows.sortedHeap (s1.heap.push (seqObj "list" us.toArray 0)) s1.heap.objs.size us out.toArray, gens := s1.gens, drawn := s1.drawn, toks := s1.toks } :=
    I.call (ch := []) (Un.laid old hz hnone) (I.hok.laid old hz ⟨hlen, out, e', vals_of_ints c1, he'⟩) (by rw [g1]; exact I.bare) (fun _ z => nomatch z)
  refine wpAny_pure ⟨_, rfl, .ref s1.heap.objs.size, _, ?_, rfl, q _ _ (rise_of_nodup c3 (pn.nodup_iff.mpr nd)) (fun k => by rw [pn.mem_iff, ← hm k]) (by rw [pn.length_eq, List.length_map, Array.length_toList]; exact hn) hnone⟩
  have eo : s1.os = s.os := o1
  rw [← eo] at J
  exact J
/-- len of a set -/
def rLenS (w : World) : List V → Hp → VK → Prop := fun vs H Q => ∃ (a : Addr) (S : Int → Bool) (n : Nat), vs = [V.ref a] ∧ H a = some (SetO w a S n) ∧ Q (.int n) H
end
end Nk
/-! ### own classes: methods by their promise, len of an instance, steps of the heap -/
namespace Nk
open PySem L2 PySem.Spec PyProof.Rows
/-- a method as it stands behind the top: c's, found at the def st -/
structure Md (K : PySem.W.Frag) (mg : Str → Option Value) (c m qual : Str) (st : Stmt) (ps : List Str) : Prop where
  ex : ∃ (f : Addr) (fd : FuncData), Fun K m qual st f fd ∧ Meth K (cls mg c) m f ∧ Binds K fd ps []
/-- a class without own __new__ -/
structure Oc (K : PySem.W.Frag) (mg : Str → Option Value) (c : Str) : Prop where
  g : mg c = some (.ref (cls mg c))
  cl : Cls K (cls mg c)
  makes : PySem.W.makesIn K (cls mg c) = true
  kp : PySem.W.keepIn K (.ref (cls mg c)) = true
/-- a method keeps a promise -/
structure Mo (P : Program) (w : World) (K : PySem.W.Frag) (mg : Str → Option Value) (base : Heap) (CX : CXT) (k : Nat) (c m : Str) (ps : List Str) (sp : Sp) : Prop where
  ex : ∃ (f : Addr) (fd : FuncData), Meth K (cls mg c) m f ∧ Binds K fd ps [] ∧ FnOk P w K mg base CX k f fd ps sp
section
variable {X : Cx} {CX : CXT} {k : Nat} {ps : List Str} {sp : Sp} {c m x : Str} {p pos apos : Pos} {o e : Expr} {es : List Expr} {ta : TE} {t : TA} {E : XK}
theorem pe_me {pl : Sem Bool} (he : PE X o ta) (O : Oc X.K X.mg c) (M : Mo X.prog X.w X.K X.mg X.base CX k c m ps sp) (hr : Room k X.A) (hx : Passes CX X E) (ha : PA X (e :: es) t)
    (hst : starEach (e :: es) X.env = (false, eval e X.env) :: starEach es X.env := by rfl) (hpl : (backTo pos (starEach es X.env)).any (·.1) = false := by rfl)
    (ht : eval (.Call (.Attribute o m apos) (e :: es) [] pos) X.env = (do
      let ov ← eval o X.env
      standAt apos.atName
      let (g, first) ← holding [ov] (getMethod ov m pl)
      callWith pos g first (backTo pos (starEach (e :: es) X.env)) (backToKw pos (keywordEach [] X.env))) := by rfl) :
    PE X (.Call (.Attribute o m apos) (e :: es) [] pos) (tMeth (cls X.mg c) m sp [] E ta t) := by
  obtain ⟨f, fd, h1, h2, h3⟩ := M.ex
  exact pe_meth he O.cl h1 h3 hr h2 .nil hx ha hst hpl ht
theorem pe_me0 {pl : Sem Bool} (he : PE X o ta) (O : Oc X.K X.mg c) (M : Mo X.prog X.w X.K X.mg X.base CX k c m ps sp) (hr : Room k X.A) (hx : Passes CX X E)
    (ht : eval (.Call (.Attribute o m apos) [] [] pos) X.env = (do
      let ov ← eval o X.env
      standAt apos.atName
      let (g, first) ← holding [ov] (getMethod ov m pl)
      callWith pos g first (backTo pos (starEach [] X.env)) (backToKw pos (keywordEach [] X.env))) := by rfl) :
    PE X (.Call (.Attribute o m apos) [] [] pos) (tMeth (cls X.mg c) m sp [] E ta tNil) := by
  obtain ⟨f, fd, h1, h2, h3⟩ := M.ex
  exact pe_meth0 he O.cl h1 h3 hr h2 .nil hx ht
theorem pe_new (O : Oc X.K X.mg c) (M : Mo X.prog X.w X.K X.mg X.base CX k c "__init__" ps sp) (hr : Room (k + 1) X.A) (hg : Gl X c) (hx : Passes CX X E) (ha : PA X (e :: es) t)
    (hdb : (c == ("__debug__" : Str)) = false := by decide) (he : starEach (e :: es) X.env = (false, eval e X.env) :: starEach es X.env := by rfl) (hpl : (backTo pos (starEach es X.env)).any (·.1) = false := by rfl) :
    PE X (.Call (.Name c p) (e :: es) [] pos) (tMake (cls X.mg c) sp [] E t) := by
  obtain ⟨f, fd, h1, h2, h3⟩ := M.ex
  exact pe_make ⟨O.makes, h1.at_, h1.fn, O.kp⟩ h3 hr hg O.g h2 .nil hx ha hdb he hpl
/-- len of an instance -/
def rLenO (C : Addr) (sp : Sp) (E : XK) : List V → Hp → VK → Prop := fun xs H Q => ∃ (a dx : Addr) (fs : List (Str × V)), xs = [.ref a] ∧ H a = some (.ins C dx fs) ∧ sp [.ref a] H (fun v H' => ∃ n : Nat, v = .int n ∧ n < 2 ^ 62 ∧ Q (.int n) H') E
theorem cr_lenO (O : Oc X.K X.mg c) (M : Mo X.prog X.w X.K X.mg X.base CX k c "__len__" ps sp) (hr : Room (k + 1) X.A) (hx : Passes CX X E) : CallR X (.builtin "len") (rLenO (cls X.mg c) sp E) := by
  intro pins s σ H xs us Q I r h
  obtain ⟨a, dx, fs, rfl, ha, q⟩ := h
  rw [Vals.ref1 r]
  obtain ⟨f, fd, h1, h2, h3⟩ := M.ex
  obtain ⟨mA, ob, _⟩ := ins_get I.hok ha
  obtain ⟨od, hod, _⟩ := lookIn_ns ob.ns
  have J : PySem.W.InstAt s.heap a (PySem.W.instObj (cls X.mg c) dx) (cls X.mg c) (some od) := ⟨ob.obj, rfl, rfl, hod⟩
  obtain ⟨m0, fr⟩ := I.fr
  have r2 : Vals [V.ref a] [Value.ref a] := .cons rfl .nil
  have hl : ([Value.ref a] ++ ([] : List Value)).length = ps.length := by
    have := h3.len _ _ _ _ q
    exact this
  refine PySem.W.len_K fr I.ok.mod.kin J h1.at_ h1.fn ?_
  refine wpAny_call (codeAny_mono (h3.run _ X.stack s H ⟨[.ref a], []⟩ [.ref a] [.ref a] _ E hr.in1 I.env0.in1 (h2 s [.ref a] I.kIn hl) r2 q) fun rr s' hq => ?_)
  cases rr with
  | error e => exact hx pins σ H s e s' I hq
  | ok fl =>
    cases fl with
    | ret u =>
      obtain ⟨v, H', I2, rv, n, rfl, hn, q2⟩ := I.after hq
      obtain ⟨tk, rfl⟩ := rv
      exact ⟨⟨by omega, by omega⟩, .int n, H', I2.tok _, ⟨_, rfl⟩, q2⟩
    | next => exact False.elim hq
    | brk => exact False.elim hq
    | cont => exact False.elim hq
theorem pe_fldK {f : Str} (K : PySem.W.Frag) (hK : X.K = K) (he : PE X e ta) (hb : attributeBase e f X.env (eval e X.env) = eval e X.env) : PE X (.Attribute e f pos) (tFld K ta f) := hK ▸ pe_fld he hb
end
section
variable {K : PySem.W.Frag} {h : Heap} {mg : Str → Option Value}
theorem md_mk {c m qual : Str} {st : Stmt} {ps : List Str} {C f : Addr} {oc : Value} {od an : Option Addr} {osl : Array (Option Value)} {kV doc pm cdv ct : Value} (X : K.In h) (G : h.Ns mainGlobals mg)
    (hb : ∀ (kV doc pm : Value) (an : Option Addr) (cdv ct : Value) (us : List Value), us.length = ps.length → bindArgs (PySem.W.fnOf m qual (defArgs st) (defBody st) (defScope st) .none kV doc pm an cdv ct) ⟨us, []⟩ = pure (ps.zip us))
    (aC : PySem.W.nsIn K mainGlobals c = some (some (.ref C))) (a : PySem.W.findIn K (.ref C) m = some (some (.ref f))) (i : PySem.W.isFn K (.ref f) = true)
    (l : K.lookup f = some ⟨oc, od, .func (PySem.W.fnOf m qual (defArgs st) (defBody st) (defScope st) .none kV doc pm an cdv ct), osl⟩)
    (cc : PySem.W.codeIn K cdv qual = true) (k : PySem.W.keepIn K (.ref f) = true) : Md K mg c m qual st ps := by
  have F := fun_mk (st := st) l cc k
  have e := cls_of (PySem.W.mg_of X G aC)
  exact ⟨f, _, F, by rw [e]; exact ⟨a, i, k⟩, F.binds hb⟩
theorem oc_mk {c : Str} {C : Addr} (X : K.In h) (G : h.Ns mainGlobals mg) (aC : PySem.W.nsIn K mainGlobals c = some (some (.ref C))) (pg : PySem.W.plainGet K C Str.empty = true) (hd : PySem.W.hasDictIn K C = true) (po : PySem.W.plainOver K C = true)
    (sa : PySem.W.findIn K (.ref C) "__setattr__" = some (some (.builtin "object.__setattr__"))) (mk : PySem.W.makesIn K C = true) (kc : PySem.W.keepIn K (.ref C) = true) : Oc K mg c := by
  have g := PySem.W.mg_of X G aC
  have e := cls_of g
  exact ⟨by rw [e]; exact g, by rw [e]; exact ⟨pg, hd, po, sa⟩, by rw [e]; exact mk, by rw [e]; exact kc⟩
theorem na_mk {c f : Str} {C : Addr} (X : K.In h) (G : h.Ns mainGlobals mg) (aC : PySem.W.nsIn K mainGlobals c = some (some (.ref C))) (n : PySem.W.findIn K (.ref C) f = some none) : NoAttr K (cls mg c) f := by
  rw [cls_of (PySem.W.mg_of X G aC)]
  exact n
end
/-! steps of the heap -/
/-- only what stands in S may have changed; tuples never do -/
structure Step (S : List Addr) (H H' : Hp) : Prop where
  keep : ∀ b o, H b = some o → b ∉ S → H' b = some o
  tups : ∀ b xs, H b = some (.tup xs) → H' b = some (.tup xs)
theorem Step.refl {S : List Addr} {H : Hp} : Step S H H := ⟨fun _ _ h _ => h, fun _ _ h => h⟩
theorem Step.of {S : List Addr} {H H' : Hp} (s : Same H H') : Step S H H' := ⟨fun b o h _ => s b o h, fun b xs h => s b _ h⟩
theorem Step.same {S : List Addr} {H H1 H2 : Hp} (a : Step S H H1) (s : Same H1 H2) : Step S H H2 := ⟨fun b o h n => s _ _ (a.keep b o h n), fun b xs h => s _ _ (a.tups b xs h)⟩
theorem Same.step {S : List Addr} {H H1 H2 : Hp} (s : Same H H1) (a : Step S H1 H2) : Step S H H2 := ⟨fun b o h n => a.keep b o (s _ _ h) n, fun b xs h => a.tups b xs (s _ _ h)⟩
/-- S' is S, but for what is new -/
def Own (H : Hp) (S S' : List Addr) : Prop := ∀ b ∈ S', b ∈ S ∨ H b = none
theorem Own.refl {H : Hp} {S : List Addr} : Own H S S := fun _ h => .inl h
theorem Step.trans {S S' : List Addr} {H H1 H2 : Hp} (a : Step S H H1) (b : Step S' H1 H2) (w : Own H S S') : Step S H H2 :=
  ⟨fun c o h n => b.keep c o (a.keep c o h n) fun hm => (w c hm).elim n (fun h1 => by rw [h1] at h; cases h), fun c xs h => b.tups c xs (a.tups c xs h)⟩
theorem Step.more {S T : List Addr} {H H' : Hp} (a : Step S H H') (h : ∀ b ∈ S, b ∈ T) : Step T H H' := ⟨fun b o e n => a.keep b o e fun hm => n (h b hm), a.tups⟩
theorem Step.free {S : List Addr} {H H' : Hp} {p : Addr} (a : Step S H H') (hp : H' p = none) (n : p ∉ S) : H p = none := by
  cases e : H p with
  | none => rfl
  | some o => rw [a.keep _ _ e n] at hp; cases hp
theorem But.step {t : Addr} {H H' : Hp} {l : List V} (b : But t H H') (ht : H t = some (.lst l)) : Step [t] H H' :=
  ⟨fun c o h n => b c o h fun e => n (by rw [e]; exact List.mem_cons_self), fun c xs h => b c _ h (ne_of h ht (by intro z; cases z))⟩
theorem Step.but {t : Addr} {H H' : Hp} (a : Step [t] H H') : But t H H' := fun b o h n => a.keep b o h fun hm => n (List.mem_singleton.mp hm)
theorem step_upd {S : List Addr} {H : Hp} {p : Addr} {o u : HO} (hp : p ∈ S) (h : H p = some u) (hu : ∀ xs, u ≠ .tup xs) : Step S H (upd H p o) :=
  ⟨fun b x e n => by rw [upd_ne (fun z => n (by rw [z]; exact hp))]; exact e, fun b xs e => by rw [upd_ne (ne_of e h fun z => hu xs z.symm)]; exact e⟩
theorem putH {S : List Addr} {H0 H H' : Hp} {k : Addr} {u o : HO} (st : Step S H0 H) (hm : k ∈ S) (h : H k = some u) (hu : ∀ xs, u ≠ .tup xs) (e : upd H k o = H') : Step S H0 H' ∧ But k H H' ∧ H' k = some o := by
  subst e
  exact ⟨st.trans (step_upd hm h hu) .refl, But.upd, upd_same⟩
theorem Step.sqT {K : PySem.W.Frag} {S : List Addr} {H H' : Hp} {a : Addr} {xs : List V} (s : Step S H H') (h : H a = some (.tup xs)) : SqT K H' a xs := Nk.sqT (s.tups _ _ h)
theorem putF_lookup {f g : Str} {y : V} {fs : List (Str × V)} : (putF f y fs).lookup g = if g = f then some y else fs.lookup g := lookup_putF ..
end Nk
/-! ### set(l) of a list of texts, sorted of it -/
namespace Nk
open PySem L2 PySem.Spec PyProof.Rows
def keyS (e : Int × Value) : Str := match e.2 with
  | .str x _ => x
  | _ => Str.empty
def GoodS (w : World) (e : Int × Value) : Prop := ∃ x tk, e.2 = Value.str x tk ∧ e.1 = hashStr w x
theorem textAt : ∀ {us : List Value} {xs : List Str}, StrsAre us xs → ∀ (i : Nat) (v : Value), us[i]? = some v → ∃ k t, xs[i]? = some k ∧ v = .str k t
  | _, _, .nil, i, v, z => by simp at z
  | _, _, .cons x t r, 0, v, z => ⟨x, t, rfl, (Option.some.inj z).symm⟩
  | _, _, .cons x t r, i + 1, v, z => textAt r i v z
/-- the set of texts at a, that can be walked -/
def SetS (w : World) (h : Heap) (a : Addr) (S : Str → Bool) (n : Nat) : Prop := ∃ o es ep t, h.get? a = some o ∧ o.ExactSet ∧ o.data = .set es ep t ∧ (∀ e ∈ es.toList, GoodS w e) ∧ (es.toList.map keyS).Nodup ∧
  (∀ k, S k = true ↔ k ∈ es.toList.map keyS) ∧ es.size < scanBound ∧ t.fits es.size = true ∧ es.size = n ∧ Ris t.place.toList ∧ (w.params.followText "set-order" = true ∨ t.led = true)
section
variable {P : Program} {w : World} {h h' : Heap} {a : Addr} {S : Str → Bool} {n : Nat} {A : Around} {E : Value → Shared → Prop} {s : Shared}
theorem SetS.at (R : SetS w h a S n) (k : ∀ o, h.get? a = some o → h'.get? a = some o) : SetS w h' a S n :=
  let ⟨o, es, ep, t, ho, r⟩ := R
  ⟨o, es, ep, t, k o ho, r⟩
theorem SetS.congr {S' : Str → Bool} (R : SetS w h a S n) (e : ∀ k, S' k = S k) : SetS w h a S' n := by
  obtain ⟨o, es, ep, t, h1, h2, h3, h4, h5, h6, r⟩ := R
  exact ⟨o, es, ep, t, h1, h2, h3, h4, h5, fun k => by rw [e]; exact h6 k, r⟩
theorem isS {x y : Str} {tk : Tok} : (strKind P w).is x (.str y tk) = true ↔ x = y := by
  constructor
  · intro z
    have z2 : Value.isStrOf x (.str y tk) = true := z
    obtain ⟨u, e⟩ := Value.isStrOf_shape z2
    cases e
    rfl
  · rintro rfl
    show Value.isStrOf x (.str x tk) = true
    simp [Value.isStrOf]
theorem elemsS {l : List (Int × Value)} (g : ∀ e ∈ l, GoodS w e) : ElemsOf (strKind P w) l := fun e he => by
  obtain ⟨x, tk, e1, e2⟩ := g e he
  rw [e1]
  exact ⟨⟨x, isS.mpr rfl, e2⟩, rfl⟩
theorem memS {l : List (Int × Value)} (g : ∀ e ∈ l, GoodS w e) (k : Str) : k ∈ l.map keyS ↔ ∃ e ∈ l, (strKind P w).is k e.2 = true := by
  rw [List.mem_map]
  constructor
  · rintro ⟨e, he, rfl⟩
    obtain ⟨x, tk, e1, _⟩ := g e he
    refine ⟨e, he, ?_⟩
    unfold keyS
    rw [e1]
    exact isS.mpr rfl
  · rintro ⟨e, he, z⟩
    obtain ⟨x, tk, e1, _⟩ := g e he
    rw [e1] at z
    refine ⟨e, he, ?_⟩
    unfold keyS
    rw [e1]
    exact (isS.mp z).symm
theorem storeS {o : Obj} {es es' : Array (Int × Value)} {ep : Nat} {t t' : SetTable} (ho : h.get? a = some o) (hd : o.data = .set es ep t) : (h.update a (Obj.putSet es' t')).get? a = some { o with data := .set es' (ep + 1) t' } := store_at ho hd
/-- the tail of an add -/
theorem tailS {g : Bool → Sem Unit} (hg : ∀ (b : Bool) (s₁ : Shared) (Q' : Unit → Shared → Prop), Q' () s₁ → wpAny (model P w) A (g b) Q' E s₁) {o : Obj} {es : Array (Int × Value)} {ep : Nat} {t : SetTable} (at_ : s.heap.get? a = some o) (ex : o.ExactSet) (dat : o.data = .set es ep t)
    {es1 : Array (Int × Value)} {t2 : SetTable} {S' : Str → Bool} (good : ∀ e ∈ es1.toList, GoodS w e) (once : (es1.toList.map keyS).Nodup) (mem : ∀ k, S' k = true ↔ k ∈ es1.toList.map keyS) (few : es1.size < scanBound) (fit : t2.fits es1.size = true) (ris : Ris t2.place.toList)
    (led : w.params.followText "set-order" = true ∨ t2.led = true) {wasDummy : Bool} {R : Option Bool → Shared → Prop} (fin : ∀ h', Heap.SameBut a s.heap h' → SetS w h' a S' es1.size → R (some true) { s with heap := h' }) :
    wpAny (model P w) A (do
      storeSet a es1 t2
      if (!wasDummy && t2.tooFull) = true then do
          g (relayAll t2 es1 (SetTable.grown es1.size)).2.2
          storeSet a (relayAll t2 es1 (SetTable.grown es1.size)).1 (relayAll t2 es1 (SetTable.grown es1.size)).2.1
          pure (some true)
        else pure (some true)) R E s := by
  have new1 := storeS (es' := es1) (t' := t2) at_ dat
  have but1 := Heap.SameBut.update s.heap a (Obj.putSet es1 t2)
  refine wpAny_bind (wpAny_storeSet_of at_ dat ?_ (fits_of_scanBound few))
  split
  · have z1 := relayAll_perm t2 es1 (SetTable.grown es1.size)
    have z2 := relayAll_fits t2 es1 (SetTable.grown es1.size)
    have z3 := relayAll_ris t2 es1 (SetTable.grown es1.size)
    have z4 := relayAll_led t2 es1 (SetTable.grown es1.size)
    generalize relayAll t2 es1 (SetTable.grown es1.size) = Z at z1 z2 z3 z4 ⊢
    obtain ⟨es2, t3, gave⟩ := Z
    dsimp only at z1 z2 z3 z4 ⊢
    have same : es2.size = es1.size := by
      have := z1.length_eq
      simpa using this
    refine wpAny_bind (hg _ _ _ ?_)
    refine wpAny_bind (wpAny_storeSet_of new1 rfl ?_ (fits_of_scanBound (by omega)))
    have new2 := storeS (es' := es2) (t' := t3) new1 rfl
    have zk := z1.map keyS
    exact wpAny_pure (fin _ (but1.trans (Heap.SameBut.update _ a _)) ⟨_, es2, _, t3, new2, ex, rfl, fun e he => good e (z1.mem_iff.mp he), zk.nodup_iff.mpr once, fun k => by rw [mem k, zk.mem_iff], by omega, z2, same, z3, led.imp id fun q => by rw [z4]; exact q⟩)
  · exact wpAny_pure (fin _ but1 ⟨_, es1, _, t2, new1, ex, rfl, good, once, mem, few, fit, rfl, ris, led⟩)
theorem addS {k : Str} {tk : Tok} {Q : Bool → Shared → Prop} (R : SetS w s.heap a S n) (room : n + 1 < scanBound)
    (fin : ∀ h', Heap.SameBut a s.heap h' → SetS w h' a (fun j => S j || decide (j = k)) (if S k = true then n else n + 1) → Q (!S k) { s with heap := h' }) : wpAny (model P w) A (setAddHashed a (.str k tk) ((strKind P w).hash k)) Q E s := by
  obtain ⟨o, es, ep, t, at_, ex, dat, good, once, mem, few, fit, num, ris, led⟩ := R
  have isk : (strKind P w).is k (.str k tk) = true := isS.mpr rfl
  have scn : (Value.str k tk).scannable = true := rfl
  have els : ElemsOf (strKind P w) es.toList := elemsS good
  unfold setAddHashed setAddHashedIn
  refine wpAny_holding (wpAny_bind (wpAny_setState_of at_ dat fit ?_))
  dsimp only
  rw [byScan_of scn few els]
  simp only [↓reduceIte]
  unfold setAddByScan
  refine wpAny_bind (wpAny_bind (wpAny_rule ?_))
  refine wpAny_bind (wpAny_setScan_of isk at_ dat fit els ?_)
  cases found : List.findIdx? (fun e => (strKind P w).is k e.2) es.toList with
  | some j =>
    dsimp only
    obtain ⟨lt, hit, _⟩ := List.findIdx?_eq_some_iff_getElem.mp found
    have old : S k = true := (mem k).2 ((memS (P := P) good k).2 ⟨_, List.getElem_mem lt, hit⟩)
    have q := fin s.heap (Heap.SameBut.refl a s.heap) ⟨o, es, ep, t, at_, ex, dat, good, once, fun i => by
      rw [Bool.or_eq_true, decide_eq_true_eq, ← mem i]
      exact ⟨fun z => z.elim id fun e => by rw [e]; exact old, .inl⟩, few, fit, by rw [if_pos old]; exact num, ris, led⟩
    rw [old] at q
    exact wpAny_pure (wpAny_pure q)
  | none =>
    dsimp only
    have new : k ∉ es.toList.map keyS := fun z => by
      obtain ⟨e, he, hit⟩ := (memS (P := P) good k).1 z
      rw [List.findIdx?_eq_none_iff.mp found e he] at hit
      cases hit
    have fresh : S k = false := by
      cases q : S k with
      | false => rfl
      | true => exact absurd ((mem k).1 q) new
    have gw : ∀ (b : Bool) {s₁ : Shared} {Q' : Unit → Shared → Prop}, Q' () s₁ → wpAny (model P w) A (match b with | true => rule "set.scan.the-table-gave-way" | false => pure ()) Q' E s₁ := fun b s₁ Q' q => by
      cases b
      · exact wpAny_pure q
      · exact wpAny_rule q
    have z1 := layNew_perm t es ((strKind P w).hash k) (.str k tk)
    have z2 := layNew_fits t es ((strKind P w).hash k) (.str k tk)
    have z3 := layNew_ris t es ((strKind P w).hash k) (.str k tk) ris
    have z4 := layNew_led t es ((strKind P w).hash k) (.str k tk)
    generalize layNew t es ((strKind P w).hash k) (.str k tk) = Z at z1 z2 z3 z4 ⊢
    obtain ⟨es1, t1, wasDummy, gave⟩ := Z
    dsimp only at z1 z2 z3 z4 ⊢
    rw [Array.toList_push] at z1
    have zc : es1.toList.Perm ((hashStr w k, Value.str k tk) :: es.toList) := z1.trans (List.perm_append_singleton _ _)
    have zk : (es1.toList.map keyS).Perm (k :: es.toList.map keyS) := zc.map keyS
    have good1 : ∀ e ∈ es1.toList, GoodS w e := fun e he => by
      rcases List.mem_cons.mp (zc.mem_iff.mp he) with z | z
      · subst z
        exact ⟨k, tk, rfl, rfl⟩
      · exact good e z
    have once1 : (es1.toList.map keyS).Nodup := zk.nodup_iff.mpr (List.nodup_cons.mpr ⟨new, once⟩)
    have mem1 : ∀ i, (S i || decide (i = k)) = true ↔ i ∈ es1.toList.map keyS := fun i => by
      rw [Bool.or_eq_true, decide_eq_true_eq, mem i, zk.mem_iff, List.mem_cons, or_comm]
    have size1 : es1.size = n + 1 := by
      have := zc.length_eq
      rw [Array.length_toList, List.length_cons, Array.length_toList, num] at this
      exact this
    have few1 : es1.size < scanBound := by omega
    have led1 : w.params.followText "set-order" = true ∨ t1.led = true := led.imp id fun z => by rw [z4]; exact z
    have last : ∀ h', Heap.SameBut a s.heap h' → SetS w h' a (fun j => S j || decide (j = k)) es1.size → Q true { s with heap := h' } := fun h' sb r => by
      have q := fin h' sb
      rw [fresh, if_neg Bool.false_ne_true, ← size1] at q
      exact q r
    refine wpAny_bind (gw _ ?_)
    split
    · refine wpAny_bind ?_
      rw [hashByValue_scannable 8 scn]
      refine wpAny_pure (tailS ?_ at_ ex dat good1 once1 mem1 few1 ?_ ?_ ?_ ?_)
      · intro b s₁ Q' q
        cases b
        · exact wpAny_pure q
        · exact wpAny_rule q
      · first | (split <;> first | exact z2 | exact SetTable.fits_plain_off z2) | exact z2
      · first | (split <;> exact z3) | exact z3
      · first | (split <;> exact led1) | exact led1
      · intro h' sb r
        dsimp only
        exact wpAny_pure (last h' sb r)
    · refine wpAny_bind (wpAny_pure ?_)
      simp only [↓reduceIte]
      refine tailS ?_ at_ ex dat good1 once1 mem1 few1 z2 z3 led1 ?_
      · intro b s₁ Q' q
        cases b
        · exact wpAny_pure q
        · exact wpAny_rule q
      · intro h' sb r
        dsimp only
        exact wpAny_pure (last h' sb r)
theorem setS_new {xs : List Str} (at_ : h.get? a = some { cls := .type "set", dict := none, data := .set #[] 0 (.fresh 0 0 (!w.params.followText "set-order")) }) : SetS w h a (fun j => decide (j ∈ xs.take 0)) 0 := by
  refine ⟨_, #[], 0, _, at_, ⟨rfl, rfl, rfl⟩, rfl, fun e he => by simp at he, by simp, fun k => by simp, by decide, by rfl, rfl, List.Pairwise.nil, ?_⟩
  show _ ∨ (!w.params.followText "set-order") = true
  cases w.params.followText "set-order" with
  | true => exact .inl rfl
  | false => exact .inr rfl
theorem loopS {I : Addr} {fp wr : List Addr} {G : Array GenState → Array GenState → Prop} {n : Nat} {Pv : Nat → Value → Prop} {St : Nat → Shared → Prop} {R : Result → Shared → Prop} (W : WalksS P w A.in1 I fp wr G n Pv St) (S : Addr) (off : S ∉ fp) (xs : List Str) (len : n = xs.length)
    (few : xs.length + 1 < scanBound) (val : ∀ i v, Pv i v → ∃ k t, xs[i]? = some k ∧ v = .str k t) : ∀ (k i : Nat) (s : Shared), n - i = k → i ≤ n → St i s → (∃ c, c ≤ i ∧ SetS w s.heap S (fun j => decide (j ∈ xs.take i)) c) →
      (∀ s' c, Moved (S :: wr) G s s' → c ≤ n → SetS w s'.heap S (fun j => decide (j ∈ xs)) c → R (.ok (.ret .none)) s') → codeAny (model P w) A (.builtin "set.update.loop" ⟨[.ref S, .ref I], []⟩) R s := by
  have offw : S ∉ wr := fun z => off (W.sub _ z)
  have wider : ∀ b ∈ wr, b ∈ S :: wr := fun b z => List.mem_cons_of_mem _ z
  intro k
  induction k with
  | zero =>
    intro i s ek le st ⟨c, hc, now⟩ fin
    obtain rfl : i = n := by omega
    refine codeAny_builtin F.entry_set_update_loop ?_
    rw [Around.under_plainId F.plain_set_update_loop _]
    refine wpAny_bind (W.done s _ _ st fun s' mv => wpAny_pure (fin s' c (mv.mono wider) hc ?_))
    rw [List.take_of_length_le (by omega)] at now
    exact now.at fun o e => mv.heap S o offw e
  | succ k ih =>
    intro i s ek le st ⟨c, hc, now⟩ fin
    have lt : i < n := by omega
    refine codeAny_builtin F.entry_set_update_loop ?_
    rw [Around.under_plainId F.plain_set_update_loop _]
    refine wpAny_bind (W.item i s _ _ lt st fun v s' pv st' mv => ?_)
    obtain ⟨z, t, hz, rfl⟩ := val i v pv
    have here : SetS w s'.heap S (fun j => decide (j ∈ xs.take i)) c := now.at fun o e => mv.heap S o offw e
    show wpAny _ A.in1 (holding [Value.str z t] (setAdd S (.str z t)) >>= _) _ _ s'
    refine wpAny_bind (wpAny_holding ?_)
    unfold setAdd
    refine wpAny_holding (wpAny_bind ((PySem.strKind P w).pyHash (k := z) (isS.mpr rfl) ?_))
    refine addS (s := { s' with toks := s'.toks + 1 }) here (by omega) fun h' sb after => ?_
    have after2 : SetS w h' S (fun j => decide (j ∈ xs.take (i + 1))) (if decide (z ∈ xs.take i) = true then c else c + 1) := after.congr fun j => by
      rw [List.take_add_one, hz]
      simp [List.mem_append]
    have le2 : (if decide (z ∈ xs.take i) = true then c else c + 1) ≤ i + 1 := by split <;> omega
    refine wpAny_pure ⟨plainId_quiet F.plain_set_update_loop _, ih (i + 1) _ (by omega) lt (W.frame _ s' _ _ st' (Nat.le_succ _) fun b hb o e => ?_) ⟨_, le2, after2⟩ fun s2 c2 mv2 hc2 done => ?_⟩
    · have nb : b ≠ S := fun q => off (q ▸ hb)
      rw [sb.2 b nb]
      exact e
    · refine fin s2 c2 (Moved.trans W.gtrans ((mv.mono wider).then_heap (Nat.le_succ _) fun b o hb e => ?_) mv2) hc2 done
      have nb : b ≠ S := fun q => hb (q ▸ List.mem_cons_self)
      rw [sb.2 b nb]
      exact e
end
section
variable {prog : Program} {w : World} {A : Around} {E : Value → Shared → Prop} {s : Shared}
set_option maxRecDepth 100000 in
set_option maxHeartbeats 3200000 in
theorem set_of_texts {l : Addr} {xs : Array Value} (ns : List Str) {Q : Value → Shared → Prop} (calm : A.handled = none) (isl : s.heap.IsList l xs) (hin : StrsAre xs.toList ns) (few : ns.length + 1 < scanBound)
    (fin : ∀ (g : Heap) (tk c : Nat), SetS w g s.heap.objs.size (fun j => decide (j ∈ ns)) c → c ≤ ns.length → (∀ b o, s.heap.get? b = some o → g.get? b = some o) → Q (.ref s.heap.objs.size) { s with heap := g, toks := tk }) :
    wpAny (model prog w) A (call (.type "set") [.ref l]) Q E s := by
  have size : xs.size = ns.length := by
    have := hin.length
    rwa [Array.length_toList] at this
  obtain ⟨m1, m2, hmro⟩ := F.called_set.mro
  have hm0 := F.called_set.made
  have hm1 := F.called_set.sub
  refine wpAny_call (codeAny_of_tree ?_)
  show wpAny _ _ (callAny (.type "set") _) _ _ _
  refine wpAny_pure ⟨Code.quiet_builtin _ (by decide +kernel), codeAny_builtin F.entry_type_call ?_⟩
  rw [Around.under_plain (weight_type_call_type "set" [.ref l] []) rfl]
  have hm2 := F.called_set.notType
  have hm3 := F.called_set.canCreate
  have hm4 := F.typeCall_set_1 (.ref l)
  repeat (any_goals (first | assumption | wp_step))
  refine codeAny_mono (code_set_led1 (.ref l) (E := E) (Q₁ := fun v s1 => v = .ref s.heap.objs.size ∧ s1 = { s with heap := s.heap.push (eSet w) }) ⟨rfl, rfl⟩) fun r s1 hr => ?_
  cases r with
  | error _ => exact hr
  | ok fl =>
    cases fl with
    | ret v =>
      obtain ⟨rfl, rfl⟩ := hr
      have at0 : (s.heap.push (eSet w)).get? s.heap.objs.size = some (eSet w) := Heap.get?_push_size _ rfl
      have ty0 : Shared.TypeIs { s with heap := s.heap.push (eSet w) } (.ref s.heap.objs.size) "set" := ⟨_, at0, rfl⟩
      have hi1 := F.called_set.init.lookup
      have hi2 := F.called_set.init.bind (.ref s.heap.objs.size)
      repeat (any_goals (first | assumption | wp_step))
      refine codeAny_mono (codeAny_call_builtin (R := wants (fun r s2 => r = .none ∧ ∃ g tk c, s2 = { s with heap := g, toks := tk } ∧ SetS w g s.heap.objs.size (fun j => decide (j ∈ ns)) c ∧ c ≤ ns.length ∧
          (∀ b o, s.heap.get? b = some o → g.get? b = some o)) E) F.called_set.init.plain F.entry_set_init (check_set_init_1 ty0 ?_)) fun r2 s2 hr2 => ?_
      · obtain ⟨ol, hol, hcl, nl, hdl⟩ := isl
        obtain ⟨k1, k2, k3, k4⟩ := ol
        simp only at hcl hdl
        subst hcl hdl
        have hol1 : (s.heap.push (eSet w)).get? l = some { cls := .type "list", dict := k2, data := .seq xs nl, slots := k4 } := Heap.get?_push_of_some _ hol
        have sub1 := F.sub_list_set
        have sub2 := F.sub_list_frozenset
        have nodict : (Value.type "list" == Value.type "dict") = false := by decide
        have isl1 : (s.heap.push (eSet w)).IsList l xs := ⟨_, hol1, rfl, nl, rfl⟩
        unfold Builtin.«set.__init__» noKeywords Builtin.Frozenset.updateFrom
        generalize hPI : pyIter = PI
        wp_walk
        subst hPI
        refine wpAny_pyIter_list isl1 ?_
        refine wpAny_bind (wpAny_runValue ?_)
        have lt0 : l < s.heap.objs.size := Heap.lt_size hol
        have calm3 : A.in1.in1.in1.handled = none := by simp [calm]
        have ne1 : l ≠ (s.heap.push (eSet w)).objs.size := by
          rw [Heap.size_push]
          exact Nat.ne_of_lt (Nat.lt_succ_of_lt lt0)
        have out1 : s.heap.objs.size ∉ [(s.heap.push (eSet w)).objs.size, l] := by
          rw [Heap.size_push]
          simp only [List.mem_cons, List.mem_singleton, List.not_mem_nil, or_false, not_or]
          exact ⟨Nat.ne_of_lt (Nat.lt_succ_self _), Nat.ne_of_gt lt0⟩
        have vals : ∀ (i : Nat) (v : Value), xs[i]? = some v → ∃ k t, ns[i]? = some k ∧ v = .str k t := fun i v hv => by
          have hi : i < ns.length := by
            rw [← size]
            exact (Array.getElem?_eq_some_iff.mp hv).1
          exact textAt hin i v (by rw [Array.getElem?_toList]; exact hv)
        refine loopS ((Walks.list calm3 _ l ne1 xs).toS) s.heap.objs.size out1 ns size few vals (xs.size - 0) 0 _ (by omega) (Nat.zero_le _) ⟨⟨_, Heap.get?_push_size _ rfl, rfl, rfl⟩, (isl1.push _)⟩ ?one ?two
        case one =>
          have at2 : ((s.heap.push (eSet w)).push { cls := .type "list_iterator", data := .fields #[.ref l, .int 0 0] }).get? s.heap.objs.size = some (eSet w) := Heap.get?_push_of_some _ at0
          exact ⟨0, Nat.le_refl 0, setS_new at2⟩
        case two =>
          intro s3 c3 mv hc3 R3
          obtain ⟨h3, g3, d3, t3, o3⟩ := s3
          have eg : g3 = s.gens := mv.gens
          have ed : d3 = s.drawn := mv.drawn
          have eo : o3 = s.os := mv.os
          subst eg ed eo
          show wpAny _ _ _ _ _ _
          refine wpAny_pure ?_
          show wpAny _ _ (ret Value.none) _ _ _
          rw [size] at hc3
          refine wpAny_pure ⟨rfl, h3, t3, c3, rfl, R3, hc3, fun b o e => ?_⟩
          have lb : b < s.heap.objs.size := Heap.lt_size e
          have nb1 : b ≠ s.heap.objs.size := Nat.ne_of_lt lb
          have nb2 : b ≠ (s.heap.push (eSet w)).objs.size := by
            rw [Heap.size_push]
            exact Nat.ne_of_lt (Nat.lt_succ_of_lt lb)
          refine mv.heap b o ?_ (Heap.get?_push_of_some _ (Heap.get?_push_of_some _ e))
          simp only [List.mem_cons, List.mem_singleton, List.not_mem_nil, or_false, not_or]
          exact ⟨nb1, nb2⟩
      · cases r2 with
        | error _ => exact hr2
        | ok fl2 =>
          cases fl2 with
          | ret _ =>
            obtain ⟨rfl, g, tk, c, rfl, R2, hc2, k2⟩ := hr2
            repeat (any_goals (first | assumption | wp_step))
            exact fin _ _ _ R2 hc2 k2
          | _ => exact hr2.elim
    | _ => exact hr.elim
end
end Nk
/-! ### sets of texts as values, texts sorted, dicts compared, own == and != -/
namespace Nk
open PySem L2 PySem.Spec PyProof.Rows
theorem sortedS_pw : ∀ {l : List Str}, sortedS l = true → l.Pairwise fun a b => ¬ sl b a
  | [], _ => .nil
  | [x], _ => by simp
  | x :: y :: r, h => by
    have h' : (!ltCps y.cps.toList x.cps.toList && risingS y r) = true := h
    rw [Bool.and_eq_true] at h'
    obtain ⟨h1, h2⟩ := h'
    have ih := sortedS_pw (l := y :: r) h2
    have hxy : ¬ sl y x := by rw [ltCps_eq] at h1; simpa [sl] using h1
    refine List.pairwise_cons.mpr ⟨fun z hz => ?_, ih⟩
    rcases List.mem_cons.mp hz with e | m
    · subst e; exact hxy
    · exact sl_ntrans hxy ((List.pairwise_cons.mp ih).1 z m)
theorem pw_strict {l : List Str} (h : l.Pairwise fun a b => ¬ sl b a) (nd : l.Nodup) : l.Pairwise sl := by
  refine List.Pairwise.imp (fun {a b} h => ?_) (h.and nd)
  obtain ⟨h1, h2⟩ := h
  by_cases c : sl a b
  · exact c
  · exact absurd (sl_tri c h1) h2
theorem strs_each : ∀ {us : List Value} {ks : List Str}, us.length = ks.length → (∀ (j : Nat) (v : Value), us[j]? = some v → ∃ (x : Str) (t : Tok), ks[j]? = some x ∧ v = Value.str x t) → StrsAre us ks
  | [], [], _, _ => .nil
  | [], _ :: _, hl, _ => by simp at hl
  | _ :: _, [], hl, _ => by simp at hl
  | u :: us, k :: ks, hl, h => by
    obtain ⟨x, t, e1, e2⟩ := h 0 u rfl
    obtain rfl : k = x := Option.some.inj e1
    subst e2
    refine .cons _ _ (strs_each (by simpa using hl) fun j v e => ?_)
    obtain ⟨x, t, a, b⟩ := h (j + 1) v (by simpa using e)
    exact ⟨x, t, by simpa using a, b⟩
def SetOS (w : World) (a : Addr) (S : Str → Bool) (n : Nat) : HO := .ext fun h => SetS w h a S n
theorem setOS_new {w : World} {P : Program} {H : Hp} {h : Heap} {a : Addr} {S : Str → Bool} {n : Nat} (R : SetS w h a S n) : ObjOk P w H h a (SetOS w a S n) := by
  obtain ⟨o, es, ep, t, ho, r⟩ := R
  exact ⟨⟨o, es, ep, t, ho, r⟩, ⟨o, ho⟩, fun h1 h2 p k => SetS.at p k⟩
section
variable {X : Cx}
def rSetLS (K : PySem.W.Frag) (w : World) : List V → Hp → VK → Prop := fun vs H Q => ∃ (a : Addr) (ns : List Str), vs = [V.ref a] ∧ SqL K H a (ns.map V.str) ∧ ns.length ≤ 4000 ∧
  ∀ (p : Addr) (c : Nat), H p = none → c ≤ ns.length → Q (.ref p) (upd H p (SetOS w p (fun j => decide (j ∈ ns)) c))
theorem cr_setLS (hc : X.calm = true) : CallR X (.type "set") (rSetLS X.K X.w) := by
  intro pins s σ H vs us Q I r h
  obtain ⟨a, ns, rfl, hs, hz, q⟩ := h
  obtain ⟨its, rv, hl, _⟩ := I.list hs
  rw [Vals.ref1 r]
  refine set_of_texts ns (I.ok.hd hc) hl.isList rv.strs (by unfold scanBound; omega) fun g tk c R hc k => ?_
  exact ⟨.ref _, _, I.laid (t' := tk) (o := SetOS X.w s.heap.objs.size (fun j => decide (j ∈ ns)) c) k (Nat.le_refl _) (setOS_new R), rfl, q _ c (I.hok.fresh (Nat.le_refl _)) hc⟩
/-- sorted of a set of texts -/
def rSortedSS (w : World) : List V → Hp → VK → Prop := fun vs H Q => ∃ (a : Addr) (S : Str → Bool) (n : Nat), vs = [V.ref a] ∧ H a = some (SetOS w a S n) ∧ n ≤ 10000 ∧
  ∀ (ns : List Str) (p : Addr), ns.Pairwise sl → (∀ k : Str, k ∈ ns ↔ S k = true) → H p = none → Q (.ref p) (upd H p (.lst (ns.map V.str)))
theorem cr_sortedSS (hcalm : X.calm = true) : CallR X (.builtin "sorted") (rSortedSS X.w) := by
  intro pins s σ H vs us Q I r h
  obtain ⟨a, S, n, rfl, ha, hn0, q⟩ := h
  rw [Vals.ref1 r]
  obtain ⟨o, es, ep, t, ho, hex, hd, g, nd, hm, hb, hf, hn, hr, hl⟩ := show SetS X.w s.heap a S n from (I.hok a _ ha).1
  refine Calls.call_function_entry PyProof.Rows.kind_sorted PyProof.Rows.plain_sorted PyProof.Rows.entry_sorted (PyProof.Rows.args_sorted1 _) ?_
  unfold Builtin.«sorted»
  refine wpAny_bind (m := checkCount "sorted" 1 1 _) (wpAny_pure ?_)
  refine wpAny_bind (collect_set (A := X.A.in1) (I.ok.hd hcalm) ⟨o, ho, hex.1, hd⟩ hf hb hr hl fun s1 us k1 hz g1 o1 pm => ?_)
  have hul : us.length = n := by
    rw [pm.length_eq, List.length_map, Array.length_toList]
    exact hn
  have hS : StrsAre us (us.map strOf) := strsAre_map us fun v hv => by
    obtain ⟨e, he, q⟩ := List.mem_map.mp (pm.mem_iff.mp hv)
    obtain ⟨k, tk, h1, _⟩ := g e he
    exact ⟨k, tk, by rw [← q]; exact h1⟩
  have pk : (us.map strOf).Perm (es.toList.map keyS) := by
    have z := pm.map strOf
    rw [List.map_map] at z
    refine z.trans (List.Perm.of_eq (List.map_congr_left fun e he => ?_))
    obtain ⟨k, tk, h1, _⟩ := g e he
    simp only [Function.comp, keyS, h1]
    rfl
  have hsz : us.length ≤ sizeLine := by
    rw [hul]
    exact sz (by omega)
  refine wpAny_bind (wpAny_newList ?_ hsz)
  have hoL : (s1.heap.push (seqObj "list" us.toArray 0)).get? s1.heap.objs.size = some (seqObj "list" us.toArray 0) := Heap.get?_push_size _ rfl
  refine wpAny_bind (wpAny_holding (wpAny_call_entry PyProof.Rows.slot_list_sort ⟨_, hoL, rfl⟩ PyProof.Rows.entry_list_sort
    (list_sort_treeKAny strKind_oneLt hoL hS.keysOf (fun v₁ v₂ rest e => keyKind_strs (by rw [← e]; exact hS)) hsz fun st' hp hs => ⟨_, rfl, ?_⟩) (PyProof.Rows.args_list_sort _)))
  obtain ⟨ss, c1, c2, c3⟩ := sorted_out_str hS hp hs
  generalize hout : (arrOf st').map (·.2) = out at c1 ⊢
  obtain ⟨e', he'⟩ := PyProof.Rows.sortedHeap_at (vs := us) (out := out) hoL
  have pn : ss.Perm (es.toList.map keyS) := c2.trans pk
  have hlen : (ss.map V.str).length ≤ sizeLine := by
    rw [List.length_map, c2.length_eq, List.length_map]
    exact hsz
  have hnone : H s1.heap.objs.size = none := I.hok.fresh hz
  have old : ∀ b u, s.heap.get? b = some u → (PyProof.Rows.sortedHeap (s1.heap.push (seqObj "list" us.toArray 0)) s1.heap.objs.size us out).get? b = some u := fun b u e => by
    have z := k1 b u e
    have lt := Heap.lt_size z
    rw [PyProof.Rows.sortedHeap_old (Nat.ne_of_lt lt) (by rw [size_push']; exact Nat.lt_succ_of_lt lt)]
    exact Heap.get?_push_of_some _ z
  have J : Inv X pins σ (upd H s1.heap.objs.size (.lst (ss.map V.str))) { s with heap := PyProof.Rows.sortedHeap (s1.heap.push (seqObj "list" us.toArray 0)) s1.heap.objs.size us out, gens := s1.gens, drawn := s1.drawn, toks := s1.toks } :=
    I.call (ch := []) (Un.laid old hz hnone) (I.hok.laid old hz ⟨hlen, out.toList, e', vals_of_strs c1, he'⟩) (by rw [g1]; exact I.bare) (fun _ z => nomatch z)
  refine wpAny_pure ⟨_, rfl, .ref s1.heap.objs.size, _, ?_, rfl, q _ _ (pw_strict (sortedS_pw c3) (pn.nodup_iff.mpr nd)) (fun k => by rw [pn.mem_iff, ← hm k]) hnone⟩
  have eo : s1.os = s.os := o1
  rw [← eo] at J
  exact J
/-- sorted(d.keys()), texts -/
def rSortedKS : List V → Hp → VK → Prop := fun xs H Q => ∃ (v d : Addr) (kvs : List (Key × V)) (ks : List Str), xs = [.ref v] ∧ H v = some (KeysO v d) ∧ H d = some (.dK kvs) ∧ kvs.map (·.1) = ks.map Sum.inr ∧ ks.Nodup ∧
  ∀ (ys : List Str) (p : Addr), ys.Pairwise sl → (∀ k, k ∈ ys ↔ k ∈ ks) → H p = none → Q (.ref p) (upd H p (.lst (ys.map V.str)))
theorem cr_sortedKS (hcalm : X.calm = true) : CallR X (.builtin "sorted") rSortedKS := by
  intro pins s σ H xs us Q I r q
  obtain ⟨v, a, kvs, ks, ex, hv, hd, hks, hnd, q⟩ := q
  subst ex
  obtain ⟨u, eu, rx⟩ := vals1 r
  subst eu
  cases rx
  have hview : PySem.W.KdlKeysView s.heap v a := (I.hok v _ hv).1
  obtain ⟨z, lo, vs, rel, dd⟩ := I.hok a _ hd
  obtain ⟨ep, hat⟩ := dd.dictAt
  have hkeys : vs.map (·.1) = ks.map Sum.inr := rel.keys.symm.trans hks
  have hl : vs.length = ks.length := by
    have e := congrArg List.length hkeys
    rw [List.length_map, List.length_map] at e
    exact e
  have hl2 : kvs.length = vs.length := Paired.length rel
  have h16 : vs.length ≤ sizeLine := by omega
  refine Calls.call_function_entry PyProof.Rows.kind_sorted PyProof.Rows.plain_sorted PyProof.Rows.entry_sorted (PyProof.Rows.args_sorted1 _) ?_
  unfold Builtin.«sorted»
  refine wpAny_bind (m := checkCount "sorted" 1 1 _) (wpAny_pure ?_)
  refine wpAny_bind (PySem.W.kdu_collect (A := X.A.in1) (PySem.W.kdl_keys (knd := mixKind X.prog X.w) (r := v) (d := a) (kvs := vs) (ep := ep)) (I.ok.hd hcalm) ⟨hview, hat⟩ h16 fun h' tk acc hk hacc => ?_)
  have hal : acc.toList.length = ks.length := by rw [Array.length_toList, hacc.1, hl]
  have hS : StrsAre acc.toList ks := strs_each hal fun j v e => by
    obtain ⟨k, x, e1, e2⟩ := hacc.2 j v (by rw [← Array.getElem?_toList]; exact e)
    have e3 : (vs.map (·.1))[j]? = some k := by rw [List.getElem?_map, e1]; rfl
    rw [hkeys, List.getElem?_map] at e3
    cases e4 : ks[j]? with
    | none => rw [e4] at e3; cases e3
    | some y =>
      rw [e4] at e3
      have e5 : Sum.inr y = k := Option.some.inj e3
      subst e5
      rcases keyIs_shape (show keyIs (Sum.inr y) v = true from e2) with ⟨i, t, ek, ev⟩ | ⟨z, t, ek, ev⟩
      · cases ek
      · cases ek
        exact ⟨y, t, rfl, ev⟩
  have hsz : acc.toList.length ≤ sizeLine := by rw [hal]; omega
  have I1 : Inv X pins σ H { s with heap := h', toks := tk } := I.kept hk
  refine wpAny_bind (wpAny_newList ?_ hsz)
  have hoL : (h'.push (seqObj "list" acc.toList.toArray 0)).get? h'.objs.size = some (seqObj "list" acc.toList.toArray 0) := Heap.get?_push_size _ rfl
  show wpAny _ _ _ _ _ { s with heap := h'.push (seqObj "list" acc.toList.toArray 0), toks := tk }
  refine wpAny_bind (wpAny_holding (wpAny_call_entry PyProof.Rows.slot_list_sort ⟨_, hoL, rfl⟩ PyProof.Rows.entry_list_sort
    (list_sort_treeKAny (s := { s with heap := h'.push (seqObj "list" acc.toList.toArray 0), toks := tk }) strKind_oneLt hoL hS.keysOf (fun v₁ v₂ rest e => keyKind_strs (by rw [← e]; exact hS)) hsz fun st' hp hs => ⟨_, rfl, ?_⟩) (PyProof.Rows.args_list_sort _)))
  obtain ⟨ss, k1, k2, k3⟩ := sorted_out_str hS hp hs
  generalize hout : (arrOf st').map (·.2) = out at k1 ⊢
  obtain ⟨e', he'⟩ := PyProof.Rows.sortedHeap_at (vs := acc.toList) (out := out) hoL
  have hlen : (ss.map V.str).length ≤ sizeLine := by
    rw [List.length_map, k2.length_eq]
    omega
  refine wpAny_pure ⟨_, rfl, .ref h'.objs.size, upd H h'.objs.size (.lst (ss.map V.str)), I1.laid (t' := tk) (fun b u e => ?_) (Nat.le_refl _)
    (show ObjOk X.prog X.w _ _ _ (.lst (ss.map V.str)) from ⟨hlen, out.toList, e', vals_of_strs k1, he'⟩), rfl, q _ _ (pw_strict (sortedS_pw k3) (k2.nodup_iff.mpr hnd)) (fun k => k2.mem_iff) (I1.hok.fresh (Nat.le_refl _))⟩
  have hb : b < h'.objs.size := Heap.lt_size e
  rw [PyProof.Rows.sortedHeap_old (Nat.ne_of_lt hb) (by rw [size_push']; exact Nat.lt_succ_of_lt hb)]
  exact Heap.get?_push_of_some _ e
/-- list(d.keys()) -/
def rListKeys : List V → Hp → VK → Prop := fun xs H Q => ∃ (v a : Addr) (kvs : List (Key × V)), xs = [.ref v] ∧ H v = some (KeysO v a) ∧ H a = some (.dK kvs) ∧ ∀ p, H p = none → Q (.ref p) (upd H p (.lst (kvs.map fun kv => kV kv.1)))
theorem call_listKeys (hcalm : X.calm = true) : CallR X (.type "list") rListKeys := by
  intro pins s σ H xs us Q I r q
  obtain ⟨v, a, kvs, rfl, hv, hd, q⟩ := q
  rw [Vals.ref1 r]
  have hview : PySem.W.KdlKeysView s.heap v a := (I.hok v _ hv).1
  obtain ⟨z, lo, vs, rel, dd⟩ := I.hok a _ hd
  obtain ⟨ep, hat⟩ := dd.dictAt
  have ek : (kvs.map fun kv => kV kv.1) = vs.map fun p => kV p.1 := by
    have e := congrArg (List.map kV) rel.keys
    rw [List.map_map, List.map_map] at e
    exact e
  refine PySem.W.kdl_call (PySem.W.kdl_keys (knd := mixKind X.prog X.w) (r := v) (d := a) (kvs := vs) (ep := ep)) (I.ok.hd hcalm) ⟨hview, hat⟩ (by rw [← rel.length]; exact z) fun h' tk acc c' hk hD hacc => ?_
  have hv : Vals (vs.map fun p => kV p.1) acc.toList := keys_at (by rw [Array.length_toList]; exact hacc.1) fun j v e => hacc.2 j v (by rw [← Array.getElem?_toList]; exact e)
  exact ⟨.ref s.heap.objs.size, upd H s.heap.objs.size (.lst (kvs.map fun kv => kV kv.1)), I.laid (t' := tk) hk (Nat.le_refl _)
    (show ObjOk X.prog X.w _ _ _ (.lst (kvs.map fun kv => kV kv.1)) from ⟨by rw [List.length_map]; exact z, acc.toList, c', by rw [ek]; exact hv, by rw [Array.toArray_toList]; exact hD⟩), rfl, q _ (I.hok.fresh (Nat.le_refl _))⟩
/-! dicts compared -/
def hitB (ls : List (Key × V)) : List (Key × V) → Bool
  | [] => true
  | p :: r => match valV ls p.1 with
    | none => false
    | some u => eqV p.2 u && hitB ls r
def eqDk (ks ls : List (Key × V)) : Bool := ks.length == ls.length && hitB ls ks
def FlatK (ks : List (Key × V)) : Prop := ∀ p ∈ ks, flatV p.2 = true
theorem FlatK.val {ls : List (Key × V)} (h : FlatK ls) {k : Key} {u : V} (e : valV ls k = some u) : flatV u = true := by
  unfold valV at e
  cases e2 : ls.find? fun kv => decide (kv.1 = k) with
  | none => rw [e2] at e; cases e
  | some p =>
    rw [e2] at e
    have := h p (List.mem_of_find?_eq_some e2)
    have e3 : p.2 = u := Option.some.inj e
    rw [← e3]; exact this
theorem hits_any {A : Around} {s : Shared} {ls : List (Key × V)} {vb : List (Key × Value)} (rb : L2.KV ls vb) (fb : FlatK ls) {ks : List (Key × V)} {va : List (Key × Value)} (ra : L2.KV ks va) : FlatK ks → PySem.W.KeqHits A s vb va (hitB ls ks) := by
  unfold L2.KV at ra
  induction ra with
  | nil => intro _; exact .nil
  | @cons p q ps qs h t ih =>
    intro hp
    obtain ⟨h1, h2⟩ := h
    obtain ⟨k, v⟩ := q
    have h1' : p.1 = k := h1
    have rr := rb.val p.1
    unfold hitB
    cases e : valV ls p.1 with
    | none =>
      rw [e] at rr
      have : valueAt vb k = none := by
        rw [← h1']
        cases e2 : valueAt vb p.1 with
        | none => rfl
        | some y => rw [e2] at rr; cases rr
      exact .miss this
    | some u =>
      rw [e] at rr
      obtain ⟨y, hy, ry⟩ := rr.some_of
      rw [h1'] at hy
      exact .hit hy (eqAt_V h2 ry (hp p List.mem_cons_self) (fb.val e)) (ih fun p' hm => hp p' (List.mem_cons_of_mem _ hm))
def rEqDk (neg : Bool) : R2 := fun x y H Q => ∃ a b ks ls, x = .ref a ∧ y = .ref b ∧ H a = some (.dK ks) ∧ H b = some (.dK ls) ∧ FlatK ks ∧ FlatK ls ∧ Q (.bl (if neg then !eqDk ks ls else eqDk ks ls)) H
theorem op_eqDk (hu : X.A.units < cLine) : OpR X (compareOp .Eq) (rEqDk false) := by
  intro pins s σ H x y v u Q I rx ry h
  obtain ⟨a, b, ks, ls, rfl, rfl, ea, eb, fa, fb, q⟩ := h
  obtain rfl : v = Value.ref a := rx
  obtain rfl : u = Value.ref b := ry
  obtain ⟨_, ya, va, ra, da⟩ := (show ObjOk X.prog X.w H s.heap a (.dK ks) from I.hok a _ ea)
  obtain ⟨_, yb, vb, rb, db⟩ := (show ObjOk X.prog X.w H s.heap b (.dK ls) from I.hok b _ eb)
  have hl : (va.length == vb.length) = (ks.length == ls.length) := by rw [← ra.length, ← rb.length]
  exact PySem.W.keq_eq (knd := mixKind X.prog X.w) (r := hitB ls ks) ya yb da db hu (fun _ => hits_any rb fb ra fa) (fin_bl I q (by rw [hl]; rfl))
theorem op_neDk (hu : X.A.units < cLine) : OpR X (compareOp .NotEq) (rEqDk true) := by
  intro pins s σ H x y v u Q I rx ry h
  obtain ⟨a, b, ks, ls, rfl, rfl, ea, eb, fa, fb, q⟩ := h
  obtain rfl : v = Value.ref a := rx
  obtain rfl : u = Value.ref b := ry
  obtain ⟨_, ya, va, ra, da⟩ := (show ObjOk X.prog X.w H s.heap a (.dK ks) from I.hok a _ ea)
  obtain ⟨_, yb, vb, rb, db⟩ := (show ObjOk X.prog X.w H s.heap b (.dK ls) from I.hok b _ eb)
  have hl : (va.length == vb.length) = (ks.length == ls.length) := by rw [← ra.length, ← rb.length]
  exact PySem.W.keq_ne (knd := mixKind X.prog X.w) (r := hitB ls ks) ya yb da db hu (fun _ => hits_any rb fb ra fa) (fin_bl I q (by rw [hl]; rfl))
/-- d.update(another dict) -/
def rUpdD : V → List V → Hp → VK → Prop := fun x xs H Q => ∃ (a b : Addr) (ks ls : List (Key × V)), x = .ref a ∧ xs = [.ref b] ∧ a ≠ b ∧ H a = some (.dK ks) ∧ H b = some (.dK ls) ∧ ks.length + ls.length ≤ 100000 ∧ Q .non (upd H a (.dK (mergeK ks ls)))
theorem mergeK_len : ∀ (ls ks : List (Key × V)), (mergeK ks ls).length ≤ ks.length + ls.length
  | [], ks => Nat.le_refl _
  | p :: r, ks => by
    have h1 := mergeK_len r (putK ks p.1 p.2)
    have h2 := length_putK ks p.1 p.2
    show (mergeK (putK ks p.1 p.2) r).length ≤ _
    rw [List.length_cons]
    omega
theorem mt_updD : MtR X "dict.update" rUpdD := by
  intro pins s σ H x xs v us Q I rx rxs h
  obtain ⟨a, b, ks, ls, rfl, rfl, hab, ea, eb, hz, q⟩ := h
  cases rx
  rw [Vals.ref1 rxs]
  obtain ⟨_, ya, va, ra, da⟩ := (show ObjOk X.prog X.w H s.heap a (.dK ks) from I.hok a _ ea)
  obtain ⟨_, yb, vb, rb, db⟩ := (show ObjOk X.prog X.w H s.heap b (.dK ls) from I.hok b _ eb)
  refine call_meetsIn F.slot_dict_update da.typeIs F.entry_dict_update (F.args_dict_update_2 _ _) (meets_dict_update (mixKind X.prog X.w) a b hab yb) ⟨va, vb, da, db, by rw [← ra.length, ← rb.length]; exact sz hz, fun h' hm _ hs => ?_⟩
  have he : ∃ q, h'.get? a = some q := let ⟨q, _, _, hq, _⟩ := hm; ⟨q, hq⟩
  have hl := mergeK_len ls ks
  exact ⟨.non, _, d_write I (by rw [ea]; exact True.intro) hs he (dk_new (sz (by omega)) ya (L2.KV.merge rb ra) hm), rfl, q⟩
end
/-! own == and != -/
section
variable {X : Cx} {CX : CXT} {k : Nat} {ps : List Str} {sp : Sp} {c : Str} {E : XK}
/-- a class with an own __eq__, its != is object's -/
structure Eo2 (K : PySem.W.Frag) (mg : Str → Option Value) (c : Str) : Prop where
  ne : PySem.W.findIn K (.ref (cls mg c)) "__ne__" = some (some (.builtin "object.__ne__"))
  sub : PySem.W.subIn K (.ref (cls mg c)) (.type "object") = some true
  ha : PySem.W.findIn K (.ref (cls mg c)) "__class__" = some (some (.builtin "object.__class__"))
  hn : PySem.W.specialIn K (.builtin "object.__class__") "__get__" = some (some (.builtin "getset_descriptor.__get__"))
  htk : PySem.W.takesIn K (.builtin "object.__class__") = some true
  hm : PySem.W.mroIn K (cls mg c) (.type "object") = some true
theorem eo2_mk {K : PySem.W.Frag} {h : Heap} {mg : Str → Option Value} {c : Str} {C : Addr} (X : K.In h) (G : h.Ns mainGlobals mg) (aC : PySem.W.nsIn K mainGlobals c = some (some (.ref C)))
    (ne : PySem.W.findIn K (.ref C) "__ne__" = some (some (.builtin "object.__ne__"))) (sub : PySem.W.subIn K (.ref C) (.type "object") = some true)
    (ha : PySem.W.findIn K (.ref C) "__class__" = some (some (.builtin "object.__class__"))) (hn : PySem.W.specialIn K (.builtin "object.__class__") "__get__" = some (some (.builtin "getset_descriptor.__get__")))
    (htk : PySem.W.takesIn K (.builtin "object.__class__") = some true) (hm : PySem.W.mroIn K C (.type "object") = some true) : Eo2 K mg c := by
  have e := cls_of (PySem.W.mg_of X G aC)
  exact ⟨by rw [e]; exact ne, by rw [e]; exact sub, by rw [e]; exact ha, hn, htk, by rw [e]; exact hm⟩
/-- isinstance of an instance and its own class -/
theorem isi_own {K : PySem.W.Frag} {H : Hp} {mg : Str → Option Value} {c : Str} {a dx : Addr} {fs : List (Str × V)} {Q : VK} (O : Oc K mg c) (N : Eo2 K mg c) (h : H a = some (.ins (cls mg c) dx fs)) (q : Q (.bl true) H) : rIsi K [.ref a, .ref (cls mg c)] H Q :=
  ⟨_, _, _, _, true, rfl, .own _, .base (.ins h O.cl N.ha N.hn N.htk N.hm), by unfold PySem.W.kitOne; simp, q⟩
def rEqO (C : Addr) (sp : Sp) (E : XK) (neg : Bool) : R2 := fun x y H Q => ∃ a b dx dy fs gs, x = .ref a ∧ y = .ref b ∧ H a = some (.ins C dx fs) ∧ H b = some (.ins C dy gs) ∧ sp [.ref a, .ref b] H (fun v H' => ∃ r, v = .bl r ∧ Q (.bl (if neg then !r else r)) H') E
theorem op_eqO (M : Mo X.prog X.w X.K X.mg X.base CX k c "__eq__" ps sp) (hr : Room k X.A) (hx : Passes CX X E) : OpR X (compareOp .Eq) (rEqO (cls X.mg c) sp E false) := by
  intro pins s σ H x y v u Q I rx ry h
  obtain ⟨a, b, dx, dy, fs, gs, rfl, rfl, ha, hb, q⟩ := h
  cases rx
  cases ry
  obtain ⟨f, fd, h1, h2, h3⟩ := M.ex
  obtain ⟨mA, J, _⟩ := ins_get I.hok ha
  obtain ⟨mB, J', _⟩ := ins_get I.hok hb
  obtain ⟨od, J, _⟩ := J.look
  obtain ⟨od', J', _⟩ := J'.look
  obtain ⟨m, hF⟩ := I.fr
  have hl := h3.len _ _ _ _ q
  have r2 : Vals [V.ref a, V.ref b] [Value.ref a, Value.ref b] := .cons rfl (.cons rfl .nil)
  refine PySem.W.cmp_K (op := .Eq) (tb := .ref (cls X.mg c)) hr.units0 hF I.ok.mod.kin J J'.type (by simp [PySem.W.notFirst]) h1.at_ h1.fn ?_
  refine wpAny_call (codeAny_mono (h3.run X.A X.stack s H ⟨[.ref a, .ref b], []⟩ [.ref a, .ref b] [.ref a, .ref b] _ E hr I.env0 (by
    have := h2 s [.ref a, .ref b] I.kIn (by simpa using hl)
    simpa using this) r2 q) fun r s' hq => ?_)
  cases r with
  | error e => exact hx pins σ H s e s' I hq
  | ok fl =>
    cases fl with
    | ret w =>
      obtain ⟨z, H', I', rz, r, ez, q2⟩ := I.after hq
      subst ez
      cases rz
      exact ⟨.bl r, H', I', rfl, q2⟩
    | next => exact False.elim hq
    | brk => exact False.elim hq
    | cont => exact False.elim hq
theorem ifBound_B {prog : Program} {w : World} {A : Around} {E' : Value → Shared → Prop} {s : Shared} {K : PySem.W.Frag} {a C : Addr} {ox : Obj} {od : Option Obj} {name : Str} {id : String} {args : List Value} {Q : Option Value → Shared → Prop} (X : K.In s.heap) (I : PySem.W.InstAt s.heap a ox C od)
    (hs : PySem.W.findIn K (.ref C) name = some (some (.builtin id))) (hb : ∀ self, bindSpecial (.builtin id) self = pure (.builtin id, [self])) (h : wpAny (model prog w) A (call (.builtin id) (.ref a :: args)) (fun v => Q (some v)) E' s) : wpAny (model prog w) A (callSpecialIfBound? (.ref a) name args) Q E' s := by
  simp only [callSpecialIfBound?, bindSpecialIfBound?]
  refine wpAny_holding (wpAny_bind (wpAny_bind (wpAny_bind (I.type.here ((PySem.W.looks_findIn X hs).here ?_)))))
  simp only [hb]
  have fin : wpAny (model prog w) A (call (.builtin id) ([.ref a] ++ args) >>= fun v => pure (some v)) Q E' s := wpAny_bind (wpAny_mono h (fun v s' h' => wpAny_pure h') fun _ _ h' => h')
  refine wpAny_bind (wpAny_askSetting (wpAny_ite ?_))
  split
  · exact wpAny_bind (wpAny_pure (wpAny_pure fin))
  · exact wpAny_tryCatch (wpAny_bind (wpAny_pure (wpAny_pure fin)))
theorem op_neO (N : Eo2 X.K X.mg c) (M : Mo X.prog X.w X.K X.mg X.base CX k c "__eq__" ps sp) (hr : Room (k + 1) X.A) (hx : Passes CX X E) : OpR X (compareOp .NotEq) (rEqO (cls X.mg c) sp E true) := by
  intro pins s σ H x y v u Q I rx ry h
  obtain ⟨a, b, dx, dy, fs, gs, rfl, rfl, ha, hb, q⟩ := h
  cases rx
  cases ry
  obtain ⟨f, fd, h1, h2, h3⟩ := M.ex
  obtain ⟨mA, J, _⟩ := ins_get I.hok ha
  obtain ⟨mB, J', _⟩ := ins_get I.hok hb
  obtain ⟨od, J, _⟩ := J.look
  obtain ⟨od', J', _⟩ := J'.look
  obtain ⟨m, hF⟩ := I.fr
  have hK := I.kIn
  have hl := h3.len _ _ _ _ q
  have r2 : Vals [V.ref a, V.ref b] [Value.ref a, Value.ref b] := .cons rfl (.cons rfl .nil)
  show wpAny (model X.prog X.w) X.A (richCompare .NotEq (.ref a) (.ref b)) (EP X pins σ Q) X.xe s
  have eqc : wpAny (model X.prog X.w) X.A.in1 (call (.ref f) [.ref a, .ref b]) (fun v s' => ∃ r, v = .bool r ∧ EP X pins σ Q (.bool (!r)) s') X.xe s := by
    refine wpAny_call (codeAny_mono (h3.run X.A.in1 X.stack s H ⟨[.ref a, .ref b], []⟩ [.ref a, .ref b] [.ref a, .ref b] _ E hr.in1 I.env0.in1 (by
      have := h2 s [.ref a, .ref b] I.kIn (by simpa using hl)
      simpa using this) r2 q) fun r s' hq => ?_)
    cases r with
    | error e => exact hx pins σ H s e s' I hq
    | ok fl =>
      cases fl with
      | ret w =>
        obtain ⟨z, H', I', rz, r, ez, q2⟩ := I.after hq
        subst ez
        cases rz
        exact ⟨r, rfl, .bl _, H', I', rfl, q2⟩
      | next => exact False.elim hq
      | brk => exact False.elim hq
      | cont => exact False.elim hq
  have t2 : PySem.W.Looks (model X.prog X.w) s.heap (isInstance (.ref a) (.type "object")) true := J.type.andThen (PySem.W.looks_subIn hK N.sub)
  have one : wpAny (model X.prog X.w) X.A (tryCompare (.ref a) "__ne__" (.ref b)) (fun r s' => ∃ v, r = some v ∧ EP X pins σ Q v s') X.xe s := by
    unfold tryCompare
    refine wpAny_bind (ifBound_B hK J N.ne PySem.F.slot_object_ne.bind (wpAny_call (codeAny_call_builtin PySem.F.slot_object_ne.plain PySem.F.entry_object_ne
      (@PySem.W.check_slot (model X.prog X.w) _ _ _ "object.__ne__" "object" "__ne__" (.ref a) [.ref b] [] _ (by decide +kernel) (by decide +kernel) t2 (PySem.F.args_object_ne_2 _ _) ?_))))
    unfold Builtin.«object.__ne__»
    refine wpAny_bind (wpAny_pure ?_)
    refine wpAny_bind (wpAny_cRoomFor (by have := hr.units; show X.A.units + 1 < _; omega) ?_)
    refine wpAny_bind (PySem.W.ifBound_K hK J h1.at_ h1.fn (wpAny_mono eqc (fun v s' hv => ?_) fun _ _ e => e))
    obtain ⟨r, rfl, q2⟩ := hv
    refine wpAny_bind (wpAny_truthy_bool ?_)
    exact wpAny_pure (wpAny_pure ⟨_, rfl, q2⟩)
  unfold richCompare
  simp only [oneThing_ref]
  refine wpAny_holding (wpAny_bind (wpAny_cRoomFor hr.units0 ?_))
  refine wpAny_bind (J.type.here (wpAny_bind (J'.type.here ?_)))
  rw [if_neg (by simp)]
  refine wpAny_bind (wpAny_pure ?_)
  simp only [Bool.false_eq_true, if_false]
  refine wpAny_bind (wpAny_mono one (fun r s' z => ?_) fun _ _ e => e)
  obtain ⟨v, rfl, hq⟩ := z
  exact wpAny_pure hq
/-- a list of texts of the top -/
structure Cl (K : PySem.W.Frag) (mg : Str → Option Value) (x : Str) (ss : List Str) : Prop where
  g : mg x = some (.ref (cls mg x))
  l : ∃ (o : Obj) (its : Array Value) (n : Nat), K.lookup (cls mg x) = some o ∧ o.cls = .type "list" ∧ o.dict = none ∧ o.data = .seq its n ∧ its.size ≤ sizeLine ∧ Vals (ss.map V.str) its.toList
theorem Cl.sq {K : PySem.W.Frag} {mg : Str → Option Value} {x : Str} {ss : List Str} (h : Cl K mg x ss) (H : Hp) : SqL K H (cls mg x) (ss.map V.str) := .inr h.l
theorem cl_mk {K : PySem.W.Frag} {h : Heap} {mg : Str → Option Value} {x : Str} {C : Addr} {s1 s2 s3 : Str} {t1 t2 t3 : Tok} {n : Nat} {sl : Array (Option Value)} (X : K.In h) (G : h.Ns mainGlobals mg) (a : PySem.W.nsIn K mainGlobals x = some (some (.ref C)))
    (l : K.lookup C = some ⟨.type "list", none, .seq #[.str s1 t1, .str s2 t2, .str s3 t3] n, sl⟩) : Cl K mg x [s1, s2, s3] := by
  have e := cls_of (PySem.W.mg_of X G a)
  exact ⟨by rw [e]; exact PySem.W.mg_of X G a, by rw [e]; exact ⟨_, _, _, l, rfl, rfl, rfl, by show 3 ≤ sizeLine; decide, .cons ⟨_, rfl⟩ (.cons ⟨_, rfl⟩ (.cons ⟨_, rfl⟩ .nil))⟩⟩
end
end Nk
namespace Nk
open PySem L2
def top (i : Nat) : Stmt := PySem.Challenge.pw_nightkeep_k72_whole_cheapest_of_eight.main.body.getD i (.Pass ⟨0, 0, 0, 0⟩)
abbrev s_is_number : Stmt := top 5
abbrev s_is_name : Stmt := top 9
abbrev s_is_state : Stmt := top 10
abbrev s_State____init__ : Stmt := inClass (top 11) 0
abbrev s_State____len__ : Stmt := inClass (top 11) 1
abbrev s_State____eq__ : Stmt := inClass (top 11) 2
abbrev s_State____str__ : Stmt := inClass (top 11) 3
abbrev s_State____repr__ : Stmt := inClass (top 11) 4
abbrev s_State__number : Stmt := inClass (top 11) 5
abbrev s_State__names : Stmt := inClass (top 11) 6
abbrev s_State__plain : Stmt := inClass (top 11) 7
abbrev s_part_of : Stmt := top 12
abbrev s_look_states : Stmt := top 15
abbrev s_size_at : Stmt := top 16
abbrev s_best_from : Stmt := top 17
abbrev s_cheapest : Stmt := top 18
abbrev s__law_town : Stmt := top 20
abbrev s__law_draw : Stmt := top 21
abbrev s__law_pick : Stmt := top 22
abbrev s__law_name : Stmt := top 23
abbrev s__law_table : Stmt := top 24
abbrev s__law_later : Stmt := top 25
abbrev s__law_unlike : Stmt := top 26
abbrev s__law_states : Stmt := top 27
abbrev s__law_plan_room : Stmt := top 28
abbrev s__law_plan_reads : Stmt := top 29
abbrev s__law_least : Stmt := top 30
abbrev s_law : Stmt := top 31
/-- what the walks ask of the top as it stands when it has run -/
structure Txt (K : PySem.W.Frag) (mg : Str → Option Value) : Prop where
  d_is_number : Df K mg "is_number" "is_number" s_is_number ["thing", "least", "most"]
  d_is_name : Df K mg "is_name" "is_name" s_is_name ["thing"]
  d_is_state : Df K mg "is_state" "is_state" s_is_state ["thing"]
  d_part_of : Df K mg "part_of" "part_of" s_part_of ["one", "other"]
  d_look_states : Df K mg "look_states" "look_states" s_look_states ["states"]
  d_size_at : Df K mg "size_at" "size_at" s_size_at ["states", "word", "at", "base"]
  d_best_from : Df K mg "best_from" "best_from" s_best_from ["states", "longest", "at", "base", "many", "known"]
  d_cheapest : Df K mg "cheapest" "cheapest" s_cheapest ["states", "longest"]
  d__law_town : Df K mg "_law_town" "_law_town" s__law_town ["script"]
  d__law_draw : Df K mg "_law_draw" "_law_draw" s__law_draw ["script", "town", "many"]
  d__law_pick : Df K mg "_law_pick" "_law_pick" s__law_pick ["script", "town", "some"]
  d__law_name : Df K mg "_law_name" "_law_name" s__law_name ["script", "town", "names"]
  d__law_table : Df K mg "_law_table" "_law_table" s__law_table ["script", "town", "many"]
  d__law_later : Df K mg "_law_later" "_law_later" s__law_later ["script", "town", "table"]
  d__law_unlike : Df K mg "_law_unlike" "_law_unlike" s__law_unlike ["one", "other"]
  d__law_states : Df K mg "_law_states" "_law_states" s__law_states ["script", "town", "many"]
  d__law_plan_room : Df K mg "_law_plan_room" "_law_plan_room" s__law_plan_room ["tables", "plan"]
  d__law_plan_reads : Df K mg "_law_plan_reads" "_law_plan_reads" s__law_plan_reads ["plan"]
  d__law_least : Df K mg "_law_least" "_law_least" s__law_least ["tables", "deep"]
  d_law : Df K mg "law" "law" s_law ["script"]
  x_KeepError : Xc K mg "KeepError" (cls mg "KeepError")
  x_BadNumber : Xc K mg "BadNumber" (cls mg "BadNumber")
  x_BadState : Xc K mg "BadState" (cls mg "BadState")
  o_State : Oc K mg "State"
  m_State____init__ : Md K mg "State" "__init__" "State.__init__" s_State____init__ ["self", "some"]
  m_State____len__ : Md K mg "State" "__len__" "State.__len__" s_State____len__ ["self"]
  m_State____eq__ : Md K mg "State" "__eq__" "State.__eq__" s_State____eq__ ["self", "other"]
  m_State____str__ : Md K mg "State" "__str__" "State.__str__" s_State____str__ ["self"]
  m_State____repr__ : Md K mg "State" "__repr__" "State.__repr__" s_State____repr__ ["self"]
  m_State__number : Md K mg "State" "number" "State.number" s_State__number ["self", "name"]
  m_State__names : Md K mg "State" "names" "State.names" s_State__names ["self"]
  m_State__plain : Md K mg "State" "plain" "State.plain" s_State__plain ["self"]
  v_State : Eo2 K mg "State"
  n_State__table : NoAttr K (cls mg "State") "table"
  c_LETTERS : ∃ t, mg "LETTERS" = some (.str "abcdefghijklmnopqrstuvwxyz" t)
  c_MOST_NAMES : ∃ t, mg "MOST_NAMES" = some (.int 20 t)
  l_WORDS : Cl K mg "WORDS" ["whole", "part", "wide"]
  b_all : mg "all" = none
  b_bool : mg "bool" = none
  b_dict : mg "dict" = none
  b_enumerate : mg "enumerate" = none
  b_int : mg "int" = none
  b_isinstance : mg "isinstance" = none
  b_len : mg "len" = none
  b_list : mg "list" = none
  b_max : mg "max" = none
  b_min : mg "min" = none
  b_range : mg "range" = none
  b_set : mg "set" = none
  b_sorted : mg "sorted" = none
  b_str : mg "str" = none
end Nk
local macro_rules | `(tactic| walk_at "rd") => `(tactic| (try simp only [L2.tRet, L2.tAndV, L2.tOrV, L2.tNotV, L2.tCB, L2.tCons, L2.tNil, L2.tVar, L2.tC, L2.tChain, L2.tOp, L2.tUn, L2.rI, L2.rI0, L2.rU, L2.rEq, L2.rNe, L2.scal, L2.tTest, L2.tB, L2.tAnd, L2.tOr, L2.tNot, L2.tIf, L2.tIfS, L2.tSeq, L2.tNext, L2.tAsg, L2.gName, Nk.gCons_cons, Nk.gNil_nil, L2.gSub, L2.tDrop, L2.tRetN, L2.tCall, L2.tCallS, L2.tIsN, L2.tNotN, L2.tSl, L2.tPart, L2.tNoPart, L2.tPar, L2.tAug, L2.tBreak, L2.tCont, L2.tDisp, L2.tPairs, L2.tLstRg, L2.tRg1, L2.tRg2, Nk.rLenQ, Nk.rListQ, Nk.rTupleQ, L2.sDPut, L2.tBM, L2.tBM0, L2.tTup, L2.tLst, Nk.szN, Nat.reduceLeDiff, L2.tYes, L2.wipe, L2.start, L2.cxOf, List.map_cons, List.map_nil, List.cons_append, List.nil_append, List.append_nil, List.length_cons, List.length_nil, List.replicate, Nat.sub_self, Nat.zero_add, Nat.reduceAdd, Nat.reduceSub, List.set_cons_zero, List.set_cons_succ, List.getElem?_cons_zero, List.getElem?_cons_succ, Option.some.injEq, exists_and_left, exists_eq_left', exists_eq_left, L2.V.int.injEq, L2.V.bl.injEq, L2.V.str.injEq, L2.V.ref.injEq, true_and, and_true, decide_eq_true_eq, Bool.not_true, Bool.not_false, if_true, if_false, Bool.false_eq_true, reduceIte, List.cons.injEq, reduceCtorEq, decide_true, decide_false, decide_eq_false_iff_not, Bool.not_eq_true', Bool.not_not]))
local macro_rules | `(tactic| walk_at "rs") => `(tactic| (try simp only [L2.tRet, L2.tAndV, L2.tOrV, L2.tNotV, L2.tCB, L2.tCons, L2.tNil, L2.tVar, L2.tC, L2.tChain, L2.tOp, L2.tUn, L2.rI, L2.rI0, L2.rU, L2.rEq, L2.rNe, Nk.scal_ii, Nk.scal_ss, Nk.scal_bb, Nk.scal_nn, Nk.scal_ni, Nk.scal_in, Nk.scal_ns, Nk.scal_sn, Nk.scal_is, Nk.scal_si, L2.tTest, L2.tB, L2.tAnd, L2.tOr, L2.tNot, L2.tIf, L2.tIfS, L2.tNext, L2.tAsg, L2.gName, Nk.gCons_cons, Nk.gNil_nil, L2.gSub, L2.tDrop, L2.tRetN, L2.tCall, L2.tCallS, L2.tIsN, L2.tNotN, L2.tSl, L2.tPart, L2.tNoPart, L2.tPar, L2.tAug, L2.tBreak, L2.tCont, L2.tDisp, L2.tPairs, L2.tLstRg, L2.tRg1, L2.tRg2, Nk.rLenQ, Nk.rListQ, Nk.rTupleQ, L2.sDPut, L2.tBM, L2.tBM0, L2.tTup, L2.tLst, Nk.szN, Nat.reduceLeDiff, L2.tYes, L2.wipe, L2.start, L2.cxOf, List.map_cons, List.map_nil, List.cons_append, List.nil_append, List.append_nil, List.length_cons, List.length_nil, List.replicate, Nat.sub_self, Nat.zero_add, Nat.reduceAdd, Nat.reduceSub, List.set_cons_zero, List.set_cons_succ, List.getElem?_cons_zero, List.getElem?_cons_succ, Option.some.injEq, exists_and_left, exists_eq_left', exists_eq_left, L2.V.int.injEq, L2.V.bl.injEq, L2.V.str.injEq, L2.V.ref.injEq, true_and, and_true, decide_eq_true_eq, Bool.not_true, Bool.not_false, if_true, if_false, Bool.false_eq_true, reduceIte, List.cons.injEq, reduceCtorEq, decide_true, decide_false, decide_eq_false_iff_not, Bool.not_eq_true', Bool.not_not]))
local macro_rules | `(tactic| walk_at "rt") => `(tactic| (try simp only [L2.tRet, L2.tFld, L2.sFld, L2.tMeth, L2.tMake, L2.tMkO, L2.tAndV, L2.tOrV, L2.tNotV, L2.tCB, L2.tCons, L2.tNil, L2.tVar, L2.tC, L2.tChain, L2.tOp, L2.tUn, L2.rI, L2.rI0, L2.rU, L2.rEq, L2.rNe, Nk.scal_ii, Nk.scal_ss, Nk.scal_bb, Nk.scal_nn, Nk.scal_ni, Nk.scal_in, Nk.scal_ns, Nk.scal_sn, Nk.scal_is, Nk.scal_si, L2.tTest, L2.tB, L2.tAnd, L2.tOr, L2.tNot, L2.tIf, L2.tIfS, L2.tNext, L2.tAsg, L2.gName, Nk.gCons_cons, Nk.gNil_nil, L2.gSub, L2.tDrop, L2.tRetN, L2.tCall, L2.tCallS, L2.tIsN, L2.tNotN, L2.tSl, L2.tPart, L2.tNoPart, L2.tPar, L2.tAug, L2.tBreak, L2.tCont, and_assoc, Nk.tFor_k, Nk.tLc_k, L2.iRng1, L2.iRng2, L2.iList, L2.iTup, L2.iRev, L2.iEnum, L2.iZip, L2.tDisp, L2.tPairs, L2.tLstRg, L2.tRg1, L2.tRg2, Nk.rLenQ, Nk.rListQ, Nk.rTupleQ, L2.sDPut, L2.tBM, L2.tBM0, L2.tTup, L2.tLst, Nk.szN, Nat.reduceLeDiff, L2.tYes, L2.wipe, L2.start, L2.cxOf, List.map_cons, List.map_nil, List.cons_append, List.nil_append, List.append_nil, List.length_cons, List.length_nil, List.replicate, Nat.sub_self, Nat.zero_add, Nat.reduceAdd, Nat.reduceSub, List.set_cons_zero, List.set_cons_succ, List.getElem?_cons_zero, List.getElem?_cons_succ, Option.some.injEq, exists_and_left, exists_eq_left', exists_eq_left, L2.V.int.injEq, L2.V.bl.injEq, L2.V.str.injEq, L2.V.ref.injEq, true_and, and_true, decide_eq_true_eq, Bool.not_true, Bool.not_false, if_true, if_false, Bool.false_eq_true, reduceIte, List.cons.injEq, reduceCtorEq, decide_true, decide_false, decide_eq_false_iff_not, Bool.not_eq_true', Bool.not_not]))
local macro_rules | `(tactic| walk_at "ru") => `(tactic| (try simp only [L2.kV, L2.tDGet, L2.tDIn, L2.tDNotIn, L2.tDGet1, L2.tDGet2, L2.tDPop1, L2.iKeysM, L2.iKeys, L2.iStr, L2.tRet, L2.tFld, L2.sFld, L2.tMeth, L2.tMake, L2.tMkO, L2.tAndV, L2.tOrV, L2.tNotV, L2.tCB, L2.tCons, L2.tNil, L2.tVar, L2.tC, L2.tChain, L2.tOp, L2.tUn, L2.rI, L2.rI0, L2.rU, L2.rEq, L2.rNe, Nk.scal_ii, Nk.scal_ss, Nk.scal_bb, Nk.scal_nn, Nk.scal_ni, Nk.scal_in, Nk.scal_ns, Nk.scal_sn, Nk.scal_is, Nk.scal_si, L2.tTest, L2.tB, L2.tAnd, L2.tOr, L2.tNot, L2.tIf, L2.tIfS, L2.tNext, L2.tAsg, L2.gName, Nk.gCons_cons, Nk.gNil_nil, L2.gSub, L2.tDrop, L2.tRetN, L2.tCall, L2.tCallS, L2.tIsN, L2.tNotN, L2.tSl, L2.tPart, L2.tNoPart, L2.tPar, L2.tAug, L2.tBreak, L2.tCont, and_assoc, Nk.tFor_k, Nk.tLc_k, L2.iRng1, L2.iRng2, L2.iList, L2.iTup, L2.iRev, L2.iEnum, L2.iZip, L2.tDisp, L2.tPairs, L2.tLstRg, L2.tRg1, L2.tRg2, Nk.rLenQ, Nk.rListQ, Nk.rTupleQ, L2.sDPut, L2.tBM, L2.tBM0, L2.tTup, L2.tLst, Nk.szN, Nat.reduceLeDiff, L2.tYes, L2.wipe, L2.start, L2.cxOf, List.map_cons, List.map_nil, List.cons_append, List.nil_append, List.append_nil, List.length_cons, List.length_nil, List.replicate, Nat.sub_self, Nat.zero_add, Nat.reduceAdd, Nat.reduceSub, List.set_cons_zero, List.set_cons_succ, List.getElem?_cons_zero, List.getElem?_cons_succ, Option.some.injEq, exists_and_left, exists_eq_left', exists_eq_left, L2.V.int.injEq, L2.V.bl.injEq, L2.V.str.injEq, L2.V.ref.injEq, true_and, and_true, decide_eq_true_eq, Bool.not_true, Bool.not_false, if_true, if_false, Bool.false_eq_true, reduceIte, List.cons.injEq, reduceCtorEq, decide_true, decide_false, decide_eq_false_iff_not, Bool.not_eq_true', Bool.not_not]))
namespace Nk
open PySem L2
section
variable {P : Program} {w : World} {K : PySem.W.Frag} {mg : Str → Option Value} {base : Heap}
abbrev nm_is_number : List Str := ["thing", "least", "most"]
abbrev pm_is_number : List Str := ["thing", "least", "most"]
abbrev lv_is_number : Nat := 1
theorem sc_is_number : FnScope nm_is_number pm_is_number (defScope s_is_number) := ⟨rfl, rfl, rfl, by decide +kernel, rfl, by decide +kernel, by decide +kernel⟩
def sp_is_number (K : PySem.W.Frag) : Sp := fun vs H Q _ => ∃ (x : V) (n : String) (lo : Int) (y : V), vs = [x, .int lo, y] ∧ Thing K H x n ∧ (∀ i, x = .int i → ∃ hi, y = .int hi) ∧ Q (.bl (isNumV x lo y)) H
theorem f_is_number (T : Txt K mg) : Fk P w K mg base CX0 lv_is_number "is_number" pm_is_number (sp_is_number K) := by
  obtain ⟨f, fd, F, g, b⟩ := T.d_is_number.ex
  refine ⟨f, fd, g, F.kp, b, F.ok sc_is_number (fun vs H Q E h => ?_) (fun cdv A outer s H vs Q E hr h => ?_)⟩
  · obtain ⟨x, n, lo, y, rfl, _⟩ := h; rfl
  · obtain ⟨x, n, lo, y, rfl, hx, hy, q⟩ := h
    refine ⟨_, (pss_one (ps_ret (pe_and (pe_callB call_isi (by rfl) T.b_isinstance (by decide +kernel) (pa_cons (pv 0) (pa_cons (pe_bltn (v := .ty "int") (by rfl) T.b_int (by decide +kernel) rfl) pa_nil))) (pe_and (pe_not (pe_callB call_isi (by rfl) T.b_isinstance (by decide +kernel) (pa_cons (pv 0) (pa_cons (pe_bltn (v := .ty "bool") (by rfl) T.b_bool (by decide +kernel) rfl) pa_nil)))) (pe_one (pe_chain op_le op_le (pv 1) (pv 0) (pv 2))))))), ?_⟩
    walk_at "rd"
    refine isi_thing hx (by decide) ?_
    cases hx with
    | int i =>
      obtain ⟨hi, rfl⟩ := hy i rfl
      simp only [show isA "int" "int" = true from by decide]
      walk_at "rd"
      refine isi_thing (.int i) (by decide) ?_
      simp only [show isA "int" "bool" = false from by decide]
      walk_at "rd"
      simp only [isNumV] at q
      by_cases c : lo ≤ i
      · simpa [c] using q
      · simpa [c] using q
    | bl i =>
      simp only [show isA "bool" "int" = true from by decide]
      walk_at "rd"
      refine isi_thing (.bl i) (by decide) ?_
      simp only [show isA "bool" "bool" = true from by decide]
      walk_at "rd"
      exact q
    | _ => exact ⟨false, rfl, q⟩
/-- whether a thing is rounds -/
def isRoundsV (H : Hp) (x : V) : Bool := match x with
  | .ref a => match H a with
    | some (.tup xs) => decide (1 ≤ xs.length) && decide (xs.length ≤ 12) && xs.all fun y => isNumV y 1 (.int 31)
    | _ => false
  | _ => false
/-- a thing, and what is in it if it is a tuple -/
def Thing2 (K : PySem.W.Frag) (H : Hp) (x : V) : Prop := (∃ n, Thing K H x n) ∧ ∀ a xs, x = .ref a → H a = some (.tup xs) → xs.length ≤ 100000 ∧ ∀ y ∈ xs, ∃ m, Thing K H y m
/-- rounds as a tuple that stands -/
structure RndsAt (H : Hp) (a : Addr) (rs : List Int) : Prop where
  at_ : H a = some (.tup (rs.map V.int))
  ok : Rnds rs
  le : ∀ r ∈ rs, r ≤ 31
  ln : rs.length ≤ 12
theorem RndsAt.same {H H' : Hp} {a : Addr} {rs : List Int} (h : RndsAt H a rs) (s : Same H H') : RndsAt H' a rs := ⟨s _ _ h.at_, h.ok, h.le, h.ln⟩
theorem RndsAt.but {H H' : Hp} {a t : Addr} {rs : List Int} {l : List V} (h : RndsAt H a rs) (s : But t H H') (ht : H t = some (.lst l)) : RndsAt H' a rs := ⟨s _ _ h.at_ (ne_of h.at_ ht (by intro z; cases z)), h.ok, h.le, h.ln⟩
theorem RndsAt.thing {H : Hp} {a : Addr} {rs : List Int} (h : RndsAt H a rs) : Thing2 K H (.ref a) := by
  refine ⟨⟨_, .tup h.at_⟩, fun b xs e hb => ?_⟩
  cases e
  rw [h.at_] at hb
  cases hb
  refine ⟨by have := h.ln; simp; omega, fun y hy => ?_⟩
  obtain ⟨i, _, rfl⟩ := List.mem_map.mp hy
  exact ⟨_, .int i⟩
theorem RndsAt.is {H : Hp} {a : Addr} {rs : List Int} (h : RndsAt H a rs) : isRoundsV H (.ref a) = true := by
  have h1 := h.ok.len
  have h2 := h.ln
  have h3 : rs.all (fun y => isNumV (V.int y) 1 (V.int 31)) = true := by
    rw [List.all_eq_true]
    intro y hy
    simp [isNumV, h.ok.pos y hy, h.le y hy]
  simp only [isRoundsV, h.at_, List.length_map, List.all_map, Function.comp_def, h3, Bool.and_true, Bool.and_eq_true, decide_eq_true_eq]
  omega
theorem sum_le31 : ∀ {rs : List Int}, (∀ r ∈ rs, r ≤ 31) → rs.sum ≤ 31 * rs.length
  | [], _ => by simp
  | r :: rs, h => by
    have h1 := h r List.mem_cons_self
    have h2 := sum_le31 (rs := rs) fun x hx => h x (List.mem_cons_of_mem _ hx)
    simp only [List.sum_cons, List.length_cons]
    push_cast
    omega
theorem RndsAt.sum_le {H : Hp} {a : Addr} {rs : List Int} (h : RndsAt H a rs) : rs.sum ≤ 372 := by
  have := sum_le31 h.le
  have := h.ln
  omega
theorem isNum_ok {n : Int} (h0 : 0 ≤ n) (h1 : n ≤ 1000000000) : isNumV (.int n) 0 (.int 1000000000) = true := by simp [isNumV, h0, h1]
end
end Nk
namespace Nk
open PySem L2
section
variable {P : Program} {w : World} {K : PySem.W.Frag} {mg : Str → Option Value} {base : Heap}
/-- the script at a and the town at t: c draws so far -/
structure Tn (K : PySem.W.Frag) (H : Hp) (a t : Addr) (ns : List Int) (c : Nat) : Prop where
  scr : SqN K H a t (ns.map V.int)
  len : ns.length ≤ 63
  town : ∃ ls : List Int, ls.length = ns.length ∧ H t = some (.lst (V.int c :: ls.map V.int))
theorem Tn.same {H H' : Hp} {a t : Addr} {ns : List Int} {c : Nat} (h : Tn K H a t ns c) (s : Same H H') : Tn K H' a t ns c := by
  obtain ⟨ls, e, ht⟩ := h.town
  exact ⟨h.scr.same s, h.len, ls, e, s _ _ ht⟩
theorem Tn.lst {H : Hp} {a t : Addr} {ns : List Int} {c : Nat} (h : Tn K H a t ns c) : ∃ l, H t = some (.lst l) := by
  obtain ⟨ls, e, ht⟩ := h.town
  exact ⟨_, ht⟩
theorem Tn.some_ {H : Hp} {a t : Addr} {ns : List Int} {c : Nat} (h : Tn K H a t ns c) {p : Addr} (hp : H p = none) : p ≠ t := by
  obtain ⟨l, hl⟩ := h.lst
  exact (ne_of_none hl hp).symm
/-- a tuple stays while the town changes -/
theorem Tn.tup {H H' : Hp} {a t p : Addr} {ns : List Int} {c : Nat} {xs : List V} (h : Tn K H a t ns c) (b : But t H H') (hp : H p = some (.tup xs)) : H' p = some (.tup xs) := by
  obtain ⟨l, hl⟩ := h.lst
  exact b _ _ hp (ne_of hp hl (by intro z; cases z))
/-- an object that was made since may change -/
theorem Tn.app {H H' : Hp} {a t p : Addr} {ns : List Int} {c c0 : Nat} {o : HO} (h : Tn K H' a t ns c) (h0 : Tn K H a t ns c0) (hp : H p = none) (hpt : p ≠ t) : Tn K (upd H' p o) a t ns c := by
  obtain ⟨ls, e1, e2⟩ := h.town
  exact ⟨h.scr.app h0.scr hp, h.len, ls, e1, by rw [upd_ne hpt.symm]; exact e2⟩
theorem But.app {H H' : Hp} {t p : Addr} {o : HO} (b : But t H H') (hp : H p = none) : But t H (L2.upd H' p o) := fun z x hz hzt => by
  rw [upd_ne (ne_of_none hz hp)]
  exact b _ _ hz hzt
theorem But.free {H H' : Hp} {t p : Addr} (b : But t H H') (hp : H' p = none) (hpt : p ≠ t) : H p = none := by
  cases e : H p with
  | none => rfl
  | some o => rw [b _ _ e hpt] at hp; cases hp
abbrev nm__law_town : List Str := ["script"]
abbrev pm__law_town : List Str := ["script"]
abbrev lv__law_town : Nat := 1
theorem sc__law_town : FnScope nm__law_town pm__law_town (defScope s__law_town) := ⟨rfl, rfl, rfl, by decide +kernel, rfl, by decide +kernel, by decide +kernel⟩
def sp__law_town (K : PySem.W.Frag) : Sp := fun vs H Q _ => ∃ (a : Addr) (ns : List Int), vs = [.ref a] ∧ SqL K H a (ns.map V.int) ∧ ns.length ≤ 63 ∧ ∀ H' t, Same H H' → Tn K H' a t ns 0 → H t = none → Q (.ref t) H'
theorem f__law_town (T : Txt K mg) : Fk P w K mg base CX0 lv__law_town "_law_town" pm__law_town (sp__law_town K) := by
  obtain ⟨f, fd, F, g, b⟩ := T.d__law_town.ex
  refine ⟨f, fd, g, F.kp, b, F.ok sc__law_town (fun vs H Q E h => ?_) (fun cdv A outer s H vs Q E hr h => ?_)⟩
  · obtain ⟨a, ns, rfl, _⟩ := h; rfl
  · obtain ⟨a, ns, rfl, hS, hl, q⟩ := h
    refine ⟨_, (pss_one (ps_ret (pe_op op_cat (pe_lst (pa_cons pe_int pa_nil)) (pe_callTy call_list_of (by rfl) T.b_list (by decide +kernel) (pa_cons (pv 0) pa_nil))))), ?_⟩
    walk_at "rd"
    intro p hp
    have s1 : Same H (upd H p (.lst [.int 0])) := same_upd hp
    refine ⟨ns.map V.int, .inl (s1.seq hS), fun l hl2 => ?_⟩
    have npl : p ≠ l := fun e => by rw [← e, upd_same] at hl2; cases hl2
    have s2 := s1.trans (same_upd (o := .lst (ns.map V.int)) hl2)
    refine ⟨p, l, _, _, rfl, rfl, by rw [upd_ne npl]; exact upd_same, upd_same, sz (by simp; omega), fun t ht => ?_⟩
    have hH : H t = none := s2.free ht
    exact q _ t (s2.trans (same_upd ht)) ⟨(SqN.new (s2.seq hS) ht).same (same_upd ht), hl, ns, rfl, upd_same⟩ hH
abbrev nm__law_draw : List Str := ["script", "town", "many", "at", "left", "number"]
abbrev pm__law_draw : List Str := ["script", "town", "many"]
abbrev lv__law_draw : Nat := 1
theorem sc__law_draw : FnScope nm__law_draw pm__law_draw (defScope s__law_draw) := ⟨rfl, rfl, rfl, by decide +kernel, rfl, by decide +kernel, by decide +kernel⟩
def sp__law_draw (K : PySem.W.Frag) : Sp := fun vs H Q _ => ∃ (a t : Addr) (ns : List Int) (c : Nat) (many : Int), vs = [.ref a, .ref t, .int many] ∧ Tn K H a t ns c ∧ c < 1000000000 ∧ 0 < many ∧ many < 1073741824 ∧
  ∀ (d : Int) (H' : Hp), 0 ≤ d → d < many → Tn K H' a t ns (c + 1) → But t H H' → Q (.int d) H'
theorem f__law_draw (T : Txt K mg) : Fk P w K mg base CX0 lv__law_draw "_law_draw" pm__law_draw (sp__law_draw K) := by
  obtain ⟨f, fd, F, g, b⟩ := T.d__law_draw.ex
  refine ⟨f, fd, g, F.kp, b, F.ok sc__law_draw (fun vs H Q E h => ?_) (fun cdv A outer s H vs Q E hr h => ?_)⟩
  · obtain ⟨a, t, ns, c, many, rfl, _⟩ := h; rfl
  · obtain ⟨a, t, ns, c, many, rfl, hT, hc, hm0, hm1, q⟩ := h
    refine ⟨_, (pss_cons (ps_asg (pe_op op_add (pe_ix ix_list (pv 1) pe_int (fun _ _ => rfl)) pe_int) (pg_sub (pv 1) pe_int set_list))
      (pss_cons (ps_if (pt_cmpR (op_eqD hr.units) (pv 0) (pe_lst pa_nil) (nomark _)) (pss_one (ps_ret (pe_op op_mod (pe_op op_fdiv (pe_op op_mul (pe_op op_mul (pe_ix ix_list (pv 1) pe_int (fun _ _ => rfl)) (pe_ix ix_list (pv 1) pe_int (fun _ _ => rfl))) pe_int) pe_int) (pv 2)))) pss_nil)
      (pss_cons (ps_set (i := 3) sc__law_draw.nd rfl (.inl rfl) (pe_op op_mod (pe_ix ix_list (pv 1) pe_int (fun _ _ => rfl)) (pe_callB call_len_seq (by rfl) T.b_len PySem.boot_len (pa_cons (pv 0) pa_nil))))
      (pss_cons (ps_set (i := 4) sc__law_draw.nd rfl (.inl rfl) (pe_ix ix_list (pv 1) (pe_op op_add pe_int (pv 3)) (fun _ _ => rfl)))
      (pss_cons (ps_if (PW.pt (pw_and (pt_cmpR op_ge (pe_ix ix_list (pv 0) (pv 3) (fun _ _ => rfl)) (pe_op op_pow pe_int pe_int) (nomark _)) (pw_and1 (pt_cmpR op_gt (pv 4) pe_int (nomark _))))) (pss_cons (ps_asg (pe_op op_fdiv (pv 4) (pv 2)) (pg_sub (pv 1) (pe_op op_add pe_int (pv 3)) set_list))
      (pss_one (ps_ret (pe_op op_mod (pv 4) (pv 2))))) pss_nil)
      (pss_cons (ps_set (i := 5) sc__law_draw.nd rfl (.inl rfl) (pe_op op_mod (pe_op op_add (pe_ix ix_list (pv 0) (pv 3) (fun _ _ => rfl)) (pe_op op_mul pe_int (pe_ix ix_list (pv 1) pe_int (fun _ _ => rfl)))) pe_int))
      (pss_cons (ps_set (i := 5) sc__law_draw.nd rfl (.inl rfl) (pe_op op_mod (pe_op op_pow (pv 5) pe_int) pe_int))
      (pss_one (ps_ret (pe_op op_mod (pe_op op_fdiv (pe_op op_mod (pe_op op_add (pe_op op_mul (pe_op op_fdiv (pv 5) pe_int) pe_int) (pv 5)) pe_int) pe_int) (pv 2))))))))))), ?_⟩
    walk_at "rd"
    obtain ⟨ls, el, ht⟩ := hT.town
    refine ixL (j := 0) (sqL ht) rfl rfl ?_
    walk_at "rd"
    refine setL (j := 0) ht rfl (by simp) ?_
    intro p hp
    have hpt : t ≠ p := fun e => by rw [← e, upd_same] at hp; cases hp
    have b1 : But t H (upd (upd H t (.lst ((V.int c :: ls.map V.int).set 0 (V.int (↑c + 1))))) p (.lst [])) := But.thenS But.upd (same_upd hp)
    have hN1 := hT.scr.but b1
    have hS1 := hN1.l
    have ht1 : (upd (upd H t (.lst ((V.int c :: ls.map V.int).set 0 (V.int (↑c + 1))))) p (.lst [])) t = some (.lst (V.int ((c + 1 : Nat) : Int) :: ls.map V.int)) := by
      rw [upd_ne hpt, upd_same]; rfl
    have hp1 : (upd (upd H t (.lst ((V.int c :: ls.map V.int).set 0 (V.int (↑c + 1))))) p (.lst [])) p = some (.lst (([] : List Int).map V.int)) := upd_same
    revert b1 hN1 hS1 ht1 hp1
    generalize upd (upd H t (.lst ((V.int c :: ls.map V.int).set 0 (V.int (↑c + 1))))) p (.lst []) = H1
    intro b1 hN1 hS1 ht1 hp1
    have T1 : Tn K H1 a t ns (c + 1) := ⟨hN1, hT.len, ls, el, ht1⟩
    have hC : ((c + 1 : Nat) : Int) < 2 ^ 62 := by omega
    refine eqD (dp_LI hS1) (dp_LI (sqL hp1)) (gd_dLI (k := 0) _) (gd_dLI (k := 0) _) (fun e => ?_) (fun e => ?_)
    · walk_at "rd"
      refine ixL (j := 0) (sqL ht1) rfl rfl ?_
      refine ixL (j := 0) (sqL ht1) rfl rfl ?_
      walk_at "rd"
      refine ⟨.inl ⟨by omega, by omega⟩, .inr ⟨by decide, by decide⟩, ⟨by decide, by decide⟩, hm0, ?_⟩
      exact q _ H1 (Int.emod_nonneg _ (by omega)) (Int.emod_lt_of_pos _ hm0) T1 b1
    · have hne : ns ≠ [] := fun z => e (by rw [z])
      have hn0 : 0 < ns.length := List.length_pos_iff.mpr hne
      walk_at "rd"
      refine ixL (j := 0) (sqL ht1) rfl rfl ?_
      refine ⟨ns.map V.int, .inl hS1, ?_⟩
      rw [List.length_map]
      walk_at "rd"
      obtain ⟨j, hj, ej, _⟩ := emod_nat (k := ((c + 1 : Nat) : Int)) hn0
      rw [ej]
      refine ⟨by omega, ?_⟩
      have hlj : (V.int ((c + 1 : Nat) : Int) :: ls.map V.int)[j + 1]? = some (V.int (ls[j]'(by omega))) := by
        rw [List.getElem?_cons_succ, List.getElem?_map, List.getElem?_eq_getElem (by omega)]; rfl
      have hnj : (ns.map V.int)[j]? = some (V.int (ns[j]'hj)) := by
        rw [List.getElem?_map, List.getElem?_eq_getElem hj]; rfl
      refine ixL (j := j + 1) (sqL ht1) (by push_cast; omega) hlj ?_
      refine ixL (j := j) hS1 rfl hnj ?_
      have tail : rIxL K (.ref a) (.int (j : Int)) H1 fun x H2 => rIxL K (.ref t) (.int 0) H2 fun y H3 => ∃ x_3, y = V.int x_3 ∧ CMul 104729 x_3 ∧ ∃ i, x = V.int i ∧ 0 < (4294967291 : Int) ∧ CPow ((i + 104729 * x_3) % 4294967291) 5 ∧ 0 < (4294967279 : Int) ∧
          CDiv (((i + 104729 * x_3) % 4294967291) ^ Int.toNat 5 % 4294967279) 64 ∧ CMul (((i + 104729 * x_3) % 4294967291) ^ Int.toNat 5 % 4294967279 / 64) 69621 ∧ 0 < (4294967231 : Int) ∧
          CDiv ((((i + 104729 * x_3) % 4294967291) ^ Int.toNat 5 % 4294967279 / 64 * 69621 + ((i + 104729 * x_3) % 4294967291) ^ Int.toNat 5 % 4294967279) % 4294967231) 8 ∧ 0 < many ∧
          Q (.int ((((i + 104729 * x_3) % 4294967291) ^ Int.toNat 5 % 4294967279 / 64 * 69621 + ((i + 104729 * x_3) % 4294967291) ^ Int.toNat 5 % 4294967279) % 4294967231 / 8 % many)) H3 := by
        refine ixL (j := j) hS1 rfl hnj ?_
        refine ixL (j := 0) (sqL ht1) rfl rfl ?_
        have hp := Int.emod_nonneg (ns[j] + 104729 * ((c + 1 : Nat) : Int)) (show (4294967291 : Int) ≠ 0 by decide)
        have hq := Int.emod_lt_of_pos (ns[j] + 104729 * ((c + 1 : Nat) : Int)) (show (0 : Int) < 4294967291 by decide)
        refine ⟨_, rfl, .inl ⟨by decide, by decide⟩, _, rfl, by decide, ⟨by decide, by decide, by omega⟩, by decide, ⟨by decide, by decide⟩, .inr ⟨by decide, by decide⟩, by decide, ⟨by decide, by decide⟩, hm0, ?_⟩
        exact q _ H1 (Int.emod_nonneg _ (by omega)) (Int.emod_lt_of_pos _ hm0) T1 b1
      refine ⟨⟨by decide, by decide, by decide⟩, _, rfl, ?_⟩
      refine ite2 (fun c1 => ?_) (fun c1 => ?_)
      · refine ⟨_, rfl, ite2 (fun c2 => ?_) (fun c2 => ?_)⟩
        · refine ⟨_, rfl, ⟨hm0, hm1⟩, ?_⟩
          refine setL (j := j + 1) ht1 (by push_cast; omega) (by simp; omega) ?_
          refine ⟨_, rfl, hm0, ?_⟩
          refine q _ _ (Int.emod_nonneg _ (by omega)) (Int.emod_lt_of_pos _ hm0) ⟨hN1.but But.upd, hT.len, ls.set j (ls[j] / many), by rw [List.length_set]; exact el, ?_⟩ (b1.trans But.upd)
          rw [upd_same, List.set_cons_succ, List.map_set]
        · exact tail
      · exact tail
abbrev nm__law_pick : List Str := ["script", "town", "some"]
abbrev pm__law_pick : List Str := ["script", "town", "some"]
abbrev lv__law_pick : Nat := 2
theorem sc__law_pick : FnScope nm__law_pick pm__law_pick (defScope s__law_pick) := ⟨rfl, rfl, rfl, by decide +kernel, rfl, by decide +kernel, by decide +kernel⟩
def sp__law_pick (K : PySem.W.Frag) : Sp := fun vs H Q _ => ∃ (a t l : Addr) (ns : List Int) (c : Nat) (xs : List V), vs = [.ref a, .ref t, .ref l] ∧ Tn K H a t ns c ∧ c < 1000000000 ∧ H l = some (.lst xs) ∧ l ≠ t ∧ 0 < xs.length ∧ xs.length ≤ 100000 ∧
  ∀ (v : V) (H' : Hp), v ∈ xs → Tn K H' a t ns (c + 1) → But t H H' → Q v H'
theorem f__law_pick (T : Txt K mg) : Fk P w K mg base CX0 lv__law_pick "_law_pick" pm__law_pick (sp__law_pick K) := by
  obtain ⟨f, fd, F, g, b⟩ := T.d__law_pick.ex
  refine ⟨f, fd, g, F.kp, b, F.ok sc__law_pick (fun vs H Q E h => ?_) (fun cdv A outer s H vs Q E hr h => ?_)⟩
  · obtain ⟨a, t, l, ns, c, xs, rfl, _⟩ := h; rfl
  · obtain ⟨a, t, l, ns, c, xs, rfl, hT, hc, hl, hlt, h0, h1, q⟩ := h
    refine ⟨_, (pss_one (ps_ret (pe_ix ix_list (pv 2) (pe_fn (f__law_draw T) (hr.mono (by decide)) (by rfl) pass0 (pa_cons (pv 0) (pa_cons (pv 1) (pa_cons (pe_callB call_len_seq (by rfl) T.b_len PySem.boot_len (pa_cons (pv 2) pa_nil)) pa_nil)))) (fun _ _ => rfl)))), ?_⟩
    walk_at "rd"
    refine ⟨xs, .inl (sqL hl), a, t, ns, c, xs.length, rfl, hT, hc, by omega, by omega, fun d H' d0 d1 T' b' => ?_⟩
    have hd : d.toNat < xs.length := by omega
    exact ixL (j := d.toNat) (sqL (b' _ _ hl hlt)) (by omega) (List.getElem?_eq_getElem hd) (q _ H' (List.getElem_mem hd) T' b')
theorem pickI {H : Hp} {a t : Addr} {ns : List Int} {c : Nat} {Q : VK} {E : XK} (ks : List Int) (hT : Tn K H a t ns c) (hc : c < 1000000000) (q : ∀ k ∈ ks, ∀ H', Tn K H' a t ns (c + 1) → But t H H' → Q (.int k) H') (h0 : 0 < ks.length := by decide) (h1 : ks.length ≤ 100000 := by decide) :
    ∀ p, H p = none → sp__law_pick K [.ref a, .ref t, .ref p] (L2.upd H p (.lst (ks.map V.int))) Q E := by
  intro p hp
  refine ⟨a, t, p, ns, c, ks.map V.int, rfl, hT.same (same_upd hp), hc, upd_same, hT.some_ hp, by simpa using h0, by simpa using h1, fun v H' hv T' b' => ?_⟩
  obtain ⟨k, hk, rfl⟩ := List.mem_map.mp hv
  exact q k hk H' T' (Same.thenB (same_upd hp) b')
theorem pickV {H : Hp} {a t : Addr} {ns : List Int} {c : Nat} {Q : VK} {E : XK} {xs : List V} (hT : Tn K H a t ns c) (hc : c < 1000000000) (h0 : 0 < xs.length) (h1 : xs.length ≤ 100000) (q : ∀ v ∈ xs, ∀ H', Tn K H' a t ns (c + 1) → But t H H' → Q v H') :
    ∀ p, H p = none → sp__law_pick K [.ref a, .ref t, .ref p] (L2.upd H p (.lst xs)) Q E := by
  intro p hp
  exact ⟨a, t, p, ns, c, xs, rfl, hT.same (same_upd hp), hc, upd_same, hT.some_ hp, h0, h1, fun v H' hv T' b' => q v hv H' T' (Same.thenB (same_upd hp) b')⟩
end
end Nk
/-! the rules of own classes with the globals named (for comprehensions) -/
namespace Nk
open PySem L2
section
variable {X : Cx} {CX : CXT} {k : Nat} {ps : List Str} {sp : Sp} {c m x : Str} {p pos apos : Pos} {o e : Expr} {es : List Expr} {ta : TE} {t : TA} {E : XK}
theorem pe_meK (mg : Str → Option Value) (hm : X.mg = mg) {pl : Sem Bool} (he : PE X o ta) (O : Oc X.K mg c) (M : Mo X.prog X.w X.K mg X.base CX k c m ps sp) (hr : Room k X.A) (hx : Passes CX X E) (ha : PA X (e :: es) t)
    (hst : starEach (e :: es) X.env = (false, eval e X.env) :: starEach es X.env := by rfl) (hpl : (backTo pos (starEach es X.env)).any (·.1) = false := by rfl)
    (ht : eval (.Call (.Attribute o m apos) (e :: es) [] pos) X.env = (do
      let ov ← eval o X.env
      standAt apos.atName
      let (g, first) ← holding [ov] (getMethod ov m pl)
      callWith pos g first (backTo pos (starEach (e :: es) X.env)) (backToKw pos (keywordEach [] X.env))) := by rfl) :
    PE X (.Call (.Attribute o m apos) (e :: es) [] pos) (tMeth (cls mg c) m sp [] E ta t) := by
  subst hm
  exact pe_me he O M hr hx ha hst hpl ht
theorem pe_me0K (mg : Str → Option Value) (hm : X.mg = mg) {pl : Sem Bool} (he : PE X o ta) (O : Oc X.K mg c) (M : Mo X.prog X.w X.K mg X.base CX k c m ps sp) (hr : Room k X.A) (hx : Passes CX X E)
    (ht : eval (.Call (.Attribute o m apos) [] [] pos) X.env = (do
      let ov ← eval o X.env
      standAt apos.atName
      let (g, first) ← holding [ov] (getMethod ov m pl)
      callWith pos g first (backTo pos (starEach [] X.env)) (backToKw pos (keywordEach [] X.env))) := by rfl) :
    PE X (.Call (.Attribute o m apos) [] [] pos) (tMeth (cls mg c) m sp [] E ta tNil) := by
  subst hm
  exact pe_me0 he O M hr hx ht
theorem pe_newM (mg : Str → Option Value) (hm : X.mg = mg) (O : Oc X.K mg c) (M : Mo X.prog X.w X.K mg X.base CX k c "__init__" ps sp) (hr : Room (k + 1) X.A) (hg : Gl X c) (hx : Passes CX X E) (ha : PA X (e :: es) t)
    (hdb : (c == ("__debug__" : Str)) = false := by decide) (he : starEach (e :: es) X.env = (false, eval e X.env) :: starEach es X.env := by rfl) (hpl : (backTo pos (starEach es X.env)).any (·.1) = false := by rfl) :
    PE X (.Call (.Name c p) (e :: es) [] pos) (tMake (cls mg c) sp [] E t) := by
  subst hm
  exact pe_new O M hr hg hx ha hdb he hpl
theorem cr_lenOK (mg : Str → Option Value) (hm : X.mg = mg) (O : Oc X.K mg c) (M : Mo X.prog X.w X.K mg X.base CX k c "__len__" ps sp) (hr : Room (k + 1) X.A) (hx : Passes CX X E) : CallR X (.builtin "len") (rLenO (cls mg c) sp E) := by
  subst hm
  exact cr_lenO O M hr hx
theorem op_eqOK (mg : Str → Option Value) (hm : X.mg = mg) (M : Mo X.prog X.w X.K mg X.base CX k c "__eq__" ps sp) (hr : Room k X.A) (hx : Passes CX X E) : OpR X (compareOp .Eq) (rEqO (cls mg c) sp E false) := by
  subst hm
  exact op_eqO M hr hx
theorem op_neOK (mg : Str → Option Value) (hm : X.mg = mg) (N : Eo2 X.K mg c) (M : Mo X.prog X.w X.K mg X.base CX k c "__eq__" ps sp) (hr : Room (k + 1) X.A) (hx : Passes CX X E) : OpR X (compareOp .NotEq) (rEqO (cls mg c) sp E true) := by
  subst hm
  exact op_neO N M hr hx
end
end Nk
namespace Nk
open PySem L2
section
variable {P : Program} {w : World} {K : PySem.W.Frag} {mg : Str → Option Value} {base : Heap}
/-! tables as they stand -/
def kvsT (t : Tb) : List (Key × V) := t.map fun p => (Sum.inr p.1, V.int p.2)
def numV : Option Int → V
  | none => .non
  | some i => .int i
theorem kvsT_val {n : Str} : ∀ {t : Tb}, valV (kvsT t) (Sum.inr n) = (lk t n).map V.int
  | [] => rfl
  | p :: t => by
    rw [lk_cons]
    by_cases e : p.1 = n
    · rw [if_pos e]
      show valV ((Sum.inr p.1, V.int p.2) :: kvsT t) _ = _
      rw [valV_pos (by rw [e])]
      rfl
    · rw [if_neg e]
      show valV ((Sum.inr p.1, V.int p.2) :: kvsT t) _ = _
      rw [valV_neg (fun z => e (Sum.inr.inj z))]
      exact kvsT_val
theorem kvsT_len {t : Tb} : (kvsT t).length = t.length := List.length_map _
theorem kvsT_keys {t : Tb} : (kvsT t).map (·.1) = (nms t).map Sum.inr := by
  unfold kvsT nms
  rw [List.map_map, List.map_map]
  rfl
theorem kvsT_keysV {t : Tb} : (kvsT t).map (fun kv => kV kv.1) = (nms t).map V.str := by
  unfold kvsT nms
  rw [List.map_map, List.map_map]
  rfl
theorem kvsT_put {t : Tb} {n : Str} {i : Int} : putK (kvsT t) (Sum.inr n) (.int i) = kvsT (putT t n i) := by
  unfold putK putT
  have e : ((kvsT t).any fun kv => decide (kv.1 = Sum.inr n)) = t.any fun p => decide (p.1 = n) := by
    unfold kvsT
    rw [List.any_map]
    congr 1
    funext p
    simp [Function.comp]
  rw [e]
  split
  · unfold kvsT
    rw [List.map_map, List.map_map]
    refine List.map_congr_left fun p _ => ?_
    simp only [Function.comp, Sum.inr.injEq]
    split <;> rfl
  · simp [kvsT]
theorem kvsT_drop {t : Tb} {n : Str} : dropK (kvsT t) (Sum.inr n) = kvsT (dropT t n) := by
  unfold dropK dropT kvsT
  rw [List.filter_map]
  congr 1
  refine List.filter_congr fun p _ => ?_
  simp [Function.comp]
theorem kvsT_flat {t : Tb} : FlatK (kvsT t) := fun p hp => by
  obtain ⟨q, _, rfl⟩ := List.mem_map.mp hp
  rfl
theorem hitB_T {b : Tb} : ∀ {a : Tb}, hitB (kvsT b) (kvsT a) = true ↔ ∀ p ∈ a, lk b p.1 = some p.2
  | [] => by simp [kvsT, hitB]
  | p :: a => by
    have ih := hitB_T (b := b) (a := a)
    show hitB (kvsT b) ((Sum.inr p.1, V.int p.2) :: kvsT a) = true ↔ _
    unfold hitB
    rw [kvsT_val]
    cases e : lk b p.1 with
    | none => simp [e]
    | some i =>
      simp only [Option.map_some, Bool.and_eq_true, ih, List.mem_cons, forall_eq_or_imp, e, Option.some.injEq]
      constructor
      · rintro ⟨h1, h2⟩
        refine ⟨?_, h2⟩
        have : p.2 = i := by simpa [eqV] using h1
        exact this.symm
      · rintro ⟨h1, h2⟩
        exact ⟨by simp [eqV, h1], h2⟩
theorem eq_T {a b : Tb} (ha : OkT a) (hb : OkT b) : eqDk (kvsT a) (kvsT b) = true ↔ ∀ n, lk a n = lk b n := by
  unfold eqDk
  rw [Bool.and_eq_true, beq_iff_eq, kvsT_len, kvsT_len, hitB_T]
  constructor
  · rintro ⟨h1, h2⟩ n
    cases e : lk a n with
    | some i => exact (h2 _ (lk_mem e)).symm
    | none =>
      cases e' : lk b n with
      | none => rfl
      | some i =>
        have hn : n ∉ nms a := lk_none.mp e
        have := nodup_le (l := n :: nms a) (m := nms b) (List.nodup_cons.mpr ⟨hn, ha.nd⟩) fun x hx => by
          rcases List.mem_cons.mp hx with z | z
          · rw [z]; exact mem_nms.mpr ⟨i, e'⟩
          · obtain ⟨j, hj⟩ := mem_nms.mp z
            exact mem_nms.mpr ⟨j, h2 _ (lk_mem hj)⟩
        simp [nms] at this
        omega
  · intro h
    exact ⟨ha.same_len hb h, fun p hp => by rw [← h]; exact lk_of ha.nd hp⟩
theorem eq_T' {a b : Tb} (ha : OkT a) (hb : OkT b) (h : ∀ n, lk a n = lk b n) : eqDk (kvsT a) (kvsT b) = true := (eq_T ha hb).mpr h
theorem ne_T {a b : Tb} (ha : OkT a) (hb : OkT b) (h : ¬ ∀ n, lk a n = lk b n) : eqDk (kvsT a) (kvsT b) = false := by
  cases e : eqDk (kvsT a) (kvsT b) with
  | false => rfl
  | true => exact absurd ((eq_T ha hb).mp e) h
/-- a state stands at p -/
structure StAt (mg : Str → Option Value) (H : Hp) (p : Addr) (t : Tb) : Prop where
  ex : ∃ dx d, H p = some (.ins (cls mg "State") dx [("table", .ref d)]) ∧ H d = some (.dK (kvsT t))
  ok : OkT t
  len : t.length ≤ 20
theorem StAt.same {H H' : Hp} {p : Addr} {t : Tb} (h : StAt mg H p t) (s : Same H H') : StAt mg H' p t := by
  obtain ⟨dx, d, h1, h2⟩ := h.ex
  exact ⟨⟨dx, d, s _ _ h1, s _ _ h2⟩, h.ok, h.len⟩
theorem StAt.but {H H' : Hp} {p a : Addr} {t : Tb} {l : List V} (h : StAt mg H p t) (s : But a H H') (ha : H a = some (.lst l)) : StAt mg H' p t := by
  obtain ⟨dx, d, h1, h2⟩ := h.ex
  exact ⟨⟨dx, d, s _ _ h1 (ne_of h1 ha (by intro z; cases z)), s _ _ h2 (ne_of h2 ha (by intro z; cases z))⟩, h.ok, h.len⟩
/-- pairs of a part -/
def PairsAt (H : Hp) : List V → Pt → Prop
  | [], [] => True
  | x :: xs, p :: ps => (∃ q, x = .ref q ∧ H q = some (.tup [.str p.1, numV p.2])) ∧ PairsAt H xs ps
  | _, _ => False
theorem PairsAt.tups {H H' : Hp} (h : ∀ b xs, H b = some (.tup xs) → H' b = some (.tup xs)) : ∀ {xs : List V} {ps : Pt}, PairsAt H xs ps → PairsAt H' xs ps
  | [], [], _ => trivial
  | x :: xs, p :: ps, ⟨⟨q, e, hq⟩, r⟩ => ⟨⟨q, e, h _ _ hq⟩, PairsAt.tups h r⟩
theorem PairsAt.same {H H' : Hp} (s : Same H H') {xs : List V} {ps : Pt} (h : PairsAt H xs ps) : PairsAt H' xs ps := h.tups fun b ys e => s _ _ e
theorem PairsAt.len {H : Hp} : ∀ {xs : List V} {ps : Pt}, PairsAt H xs ps → xs.length = ps.length
  | [], [], _ => rfl
  | x :: xs, p :: ps, ⟨_, r⟩ => by simp [PairsAt.len r]
theorem PairsAt.app {H : Hp} : ∀ {xs ys : List V} {ps qs : Pt}, PairsAt H xs ps → PairsAt H ys qs → PairsAt H (xs ++ ys) (ps ++ qs)
  | [], _, [], _, _, h => h
  | x :: xs, _, p :: ps, _, ⟨a, r⟩, h => ⟨a, PairsAt.app r h⟩
theorem PairsAt.one {H : Hp} {q : Addr} {p : Str × Option Int} (h : H q = some (.tup [.str p.1, numV p.2])) : PairsAt H [.ref q] [p] := ⟨⟨q, rfl, h⟩, trivial⟩
theorem PairsAt.get {H : Hp} : ∀ {xs : List V} {ps : Pt}, PairsAt H xs ps → ∀ {i : Nat} {x : V}, xs[i]? = some x → ∃ p q, ps[i]? = some p ∧ x = .ref q ∧ H q = some (.tup [.str p.1, numV p.2])
  | x :: xs, p :: ps, ⟨⟨q, e, hq⟩, r⟩, 0, y, hy => by
    cases hy
    exact ⟨p, q, rfl, e, hq⟩
  | x :: xs, p :: ps, ⟨_, r⟩, i + 1, y, hy => PairsAt.get r hy
  | [], [], _, i, y, hy => by simp at hy
theorem PairsAt.take {H : Hp} : ∀ {xs : List V} {ps : Pt} (n : Nat), PairsAt H xs ps → PairsAt H (xs.take n) (ps.take n)
  | [], [], n, _ => by simp [PairsAt]
  | x :: xs, p :: ps, 0, _ => by simp [PairsAt]
  | x :: xs, p :: ps, n + 1, ⟨a, r⟩ => ⟨a, PairsAt.take n r⟩
theorem PairsAt.drop {H : Hp} : ∀ {xs : List V} {ps : Pt} (n : Nat), PairsAt H xs ps → PairsAt H (xs.drop n) (ps.drop n)
  | [], [], n, _ => by simp [PairsAt]
  | x :: xs, p :: ps, 0, h => h
  | x :: xs, p :: ps, n + 1, ⟨a, r⟩ => PairsAt.drop n r
/-- a part stands at l -/
def PartAt (H : Hp) (l : Addr) (ps : Pt) : Prop := ∃ xs, H l = some (.lst xs) ∧ PairsAt H xs ps
theorem PartAt.same {H H' : Hp} (s : Same H H') {l : Addr} {ps : Pt} (h : PartAt H l ps) : PartAt H' l ps := by
  obtain ⟨xs, h1, h2⟩ := h
  exact ⟨xs, s _ _ h1, h2.same s⟩
/-- .. as data -/
def numD : Option Int → PyData
  | none => .none
  | some i => .int i
def dPt (ps : Pt) : PyData := .list (ps.map fun p => .tuple [.str p.1, numD p.2])
theorem dp_num {H : Hp} (x : Option Int) : Dp K H (numV x) (numD x) := by
  cases x with
  | none => exact .non
  | some i => exact .int i
theorem PairsAt.dp {H : Hp} : ∀ {xs : List V} {ps : Pt}, PairsAt H xs ps → DpAll K H xs (ps.map fun p => .tuple [.str p.1, numD p.2])
  | [], [], _ => .nil
  | x :: xs, p :: ps, ⟨⟨q, e, hq⟩, r⟩ => by
    subst e
    exact .cons (.tup (sqT hq) (.cons (.str _) (.cons (dp_num _) .nil))) (PairsAt.dp r)
theorem PartAt.dp {H : Hp} {l : Addr} {ps : Pt} (h : PartAt H l ps) : Dp K H (.ref l) (dPt ps) := by
  obtain ⟨xs, h1, h2⟩ := h
  exact .lst (sqL h1) h2.dp
theorem numD_inj {x y : Option Int} (h : numD x = numD y) : x = y := by
  cases x <;> cases y <;> simp [numD] at h ⊢
  exact h
theorem dPt_inj {ps qs : Pt} : dPt ps = dPt qs ↔ ps = qs := by
  constructor
  · intro h
    have h' := PyData.list.inj h
    refine (List.map_inj_right (fun a b q => ?_)).mp h'
    have q1 := PyData.tuple.inj q
    simp only [List.cons.injEq, PyData.str.injEq, and_true] at q1
    exact Prod.ext q1.1 (numD_inj q1.2)
  · intro h; rw [h]
/-- texts that may be laid down: names are such -/
theorem nm_strOk {s : Str} (h : isNm s) : PyData.strOk s = true := by
  obtain ⟨h1, h2, h3⟩ := h
  unfold PyData.strOk
  rw [← Array.all_toList, List.all_eq_true]
  intro c hc
  have := h3 c hc
  simp
  omega
theorem gd_dPt {ps : Pt} (h : ∀ p ∈ ps, isNm p.1) : gd 2 (dPt ps) = true := by
  simp only [dPt, gd]
  rw [List.all_eq_true]
  intro x hx
  obtain ⟨p, hp, rfl⟩ := List.mem_map.mp hx
  have h1 : gd 0 (.str p.1) = true := by simp only [gd]; exact nm_strOk (h p hp)
  have h2 : gd 0 (numD p.2) = true := by cases p.2 <;> rfl
  show ([PyData.str p.1, numD p.2].all (gd 0)) = true
  simp only [List.all_cons, List.all_nil, h1, h2, Bool.and_true]
end
end Nk
namespace Nk
open PySem L2
section
variable {P : Program} {w : World} {K : PySem.W.Frag} {mg : Str → Option Value} {base : Heap}
abbrev letters : Str := "abcdefghijklmnopqrstuvwxyz"
theorem letters_in (c : Nat) : c ∈ letters.cps.toList ↔ 97 ≤ c ∧ c ≤ 122 := by
  have e : letters.cps.toList = (List.range 26).map (· + 97) := by decide +kernel
  rw [e, List.mem_map]
  constructor
  · rintro ⟨k, hk, rfl⟩
    have := List.mem_range.mp hk
    omega
  · intro h
    exact ⟨c - 97, List.mem_range.mpr (by omega), by omega⟩
def isNameV : V → Bool
  | .str s => decide (isNm s)
  | _ => false
/-- texts are not too long -/
def ShortS (x : V) : Prop := ∀ s, x = .str s → s.cps.size ≤ 1000
theorem isNm_all {s : Str} (h1 : 1 ≤ s.cps.toList.length) (h2 : s.cps.toList.length ≤ 6) : decide (isNm s) = (s.cps.toList.map fun c => decide (c ∈ letters.cps.toList)).all id := by
  rw [Bool.eq_iff_iff, decide_eq_true_eq, List.all_map, List.all_eq_true]
  unfold isNm
  constructor
  · rintro ⟨_, _, h⟩ c hc
    simp only [Function.comp, id, decide_eq_true_eq]
    exact (letters_in c).mpr (h c hc)
  · intro h
    refine ⟨h1, h2, fun c hc => (letters_in c).mp ?_⟩
    have := h c hc
    simpa only [Function.comp, id, decide_eq_true_eq] using this
abbrev nm_is_name : List Str := ["thing", "sign"]
abbrev pm_is_name : List Str := ["thing"]
abbrev lv_is_name : Nat := 1
theorem sc_is_name : FnScope nm_is_name pm_is_name (defScope s_is_name) := ⟨rfl, rfl, rfl, by decide +kernel, rfl, by decide +kernel, by decide +kernel⟩
def sp_is_name (K : PySem.W.Frag) : Sp := fun vs H Q _ => ∃ (x : V) (n : String), vs = [x] ∧ Thing K H x n ∧ ShortS x ∧ ∀ H', Same H H' → Q (.bl (isNameV x)) H'
theorem f_is_name (T : Txt K mg) : Fk P w K mg base CX0 lv_is_name "is_name" pm_is_name (sp_is_name K) := by
  obtain ⟨f, fd, F, g, b⟩ := T.d_is_name.ex
  refine ⟨f, fd, g, F.kp, b, F.ok sc_is_name (fun vs H Q E h => ?_) (fun cdv A outer s H vs Q E hr h => ?_)⟩
  · obtain ⟨x, n, rfl, _⟩ := h; rfl
  · obtain ⟨x, n, rfl, hx, hs, q⟩ := h
    refine ⟨_, (pss_one (ps_ret (pe_and (pe_callB call_isi (by rfl) T.b_isinstance (by decide +kernel) (pa_cons (pv 0) (pa_cons (pe_bltn (v := .ty "str") (by rfl) T.b_str (by decide +kernel) rfl) pa_nil))) (pe_and (pe_chain op_le op_le pe_int (pe_callB call_len_str (by rfl) T.b_len PySem.boot_len (pa_cons (pv 0) pa_nil)) pe_int) (pe_one (pe_callB (cr_all rfl) (by rfl) T.b_all (by decide +kernel) (pa_cons (pe_lc (own := [("sign", 1)]) (g := gName 1) (tt := tYes) (by rfl) sc_is_name.nd (pi_str (pv 0)) (blkOk_by (own := [("sign", 1)]) (N := nm_is_name) (sc := defScope s_is_name) (by decide +kernel)) (fun _ _ _ _ _ => (pg_name (i := 1) sc_is_name.nd rfl (Or.inl rfl))) (fun _ _ _ _ _ => pts_nil) (fun _ _ _ _ _ => (pe_cmpR op_in_sign (pv 1) (pe_globS T.c_LETTERS (by rfl)) (by rfl)))) pa_nil))))))), ?_⟩
    walk_at "rd"
    refine isi_thing hx (by decide) ?_
    cases hx with
    | str s =>
      have hz := hs s rfl
      have hl : s.length = s.cps.toList.length := Array.length_toList.symm
      have hz' : s.cps.toList.length ≤ 1000 := by rw [Array.length_toList]; exact hz
      refine ⟨true, rfl, ?_⟩
      walk_at "rd"
      refine ⟨by rw [hl]; exact sz (by omega), ?_⟩
      rw [hl]
      by_cases c1 : 1 ≤ s.cps.toList.length
      · by_cases c2 : s.cps.toList.length ≤ 6
        · have d1 : (1 : Int) ≤ (s.cps.toList.length : Int) := by omega
          have d2 : (s.cps.toList.length : Int) ≤ 6 := by omega
          simp only [d1, d2]
          walk_at "ru"
          intro D hD
          refine lc_it walk_str (LcP H D fun i => (s.cps.toList.take i).map fun c => .bl (decide (c ∈ letters.cps.toList))) ⟨same_upd hD, upd_same⟩ (fun _ _ _ _ => trivial) (fun i x H2 H3 hi p hy => ?_) (fun H2 p => ?_)
          · obtain ⟨rfl, c, hc, rfl⟩ := hy
            walk_at "ru"
            have hc' : s.cps.toList[i]? = some c := by rw [Array.getElem?_toList]; exact hc
            exact ⟨c, rfl, p.push hD (by simp; omega) (Same.refl _) (map_take_next _ hc')⟩
          · refine ⟨D, s.cps.toList.map fun c => decide (c ∈ letters.cps.toList), rfl, ?_, ?_⟩
            · have := p.at_
              rw [← Array.length_toList, List.take_length] at this
              rw [List.map_map]
              exact sqL this
            · rw [← isNm_all c1 c2]
              exact q H2 p.same
        · have d1 : (1 : Int) ≤ (s.cps.toList.length : Int) := by omega
          have d2 : ¬ (s.cps.toList.length : Int) ≤ 6 := by omega
          simp only [d1, d2]
          walk_at "ru"
          have e : isNameV (.str s) = false := by
            simp only [isNameV, decide_eq_false_iff_not]
            rintro ⟨_, h, _⟩
            exact c2 h
          rw [e] at q
          exact q _ (Same.refl _)
      · have d1 : ¬ (1 : Int) ≤ (s.cps.toList.length : Int) := by omega
        simp only [d1]
        walk_at "ru"
        have e : isNameV (.str s) = false := by
          simp only [isNameV, decide_eq_false_iff_not]
          rintro ⟨h, _⟩
          exact c1 h
        rw [e] at q
        exact q _ (Same.refl _)
    | _ => exact ⟨false, rfl, q _ (Same.refl _)⟩
theorem ShortS.nm {s : Str} (h : isNm s) : ShortS (.str s) := fun s' e => by
  cases e
  have := h.2.1
  rw [Array.length_toList] at this
  omega
theorem isNameV_nm {s : Str} (h : isNm s) : isNameV (.str s) = true := by
  simp only [isNameV, decide_eq_true_eq]
  exact h
theorem tyD {H : Hp} {d : Addr} {kvs : List (Key × V)} (h : H d = some (.dK kvs)) : tyV K "dict" (.ref d) H := .inr (.inr (.inl ⟨rfl, .inl ⟨_, h⟩⟩))
/-- a locked dict is left as it was -/
theorem unlock {H H1 H2 : Hp} {d : Addr} {od : Obj} {u : HO} (hd : H d = some u) (e : upd H d (.frz od u) = H1) (s : Same H1 H2) : H2 d = some (.frz od u) ∧ Same H (upd H2 d u) := by
  subst e
  refine ⟨s _ _ upd_same, fun b o hb => ?_⟩
  by_cases c : b = d
  · subst c
    rw [hb] at hd
    cases hd
    exact upd_same
  · rw [upd_ne c]
    exact s _ _ (by rw [upd_ne c]; exact hb)
abbrev nm_is_state : List Str := ["thing", "name"]
abbrev pm_is_state : List Str := ["thing"]
abbrev lv_is_state : Nat := 2
theorem sc_is_state : FnScope nm_is_state pm_is_state (defScope s_is_state) := ⟨rfl, rfl, rfl, by decide +kernel, rfl, by decide +kernel, by decide +kernel⟩
def sp_is_state : Sp := fun vs H Q _ => ∃ (d : Addr) (t : Tb), vs = [.ref d] ∧ H d = some (.dK (kvsT t)) ∧ OkT t ∧ t.length ≤ 20 ∧ ∀ H', Same H H' → Q (.bl true) H'
theorem f_is_state (T : Txt K mg) : Fk P w K mg base CX0 lv_is_state "is_state" pm_is_state sp_is_state := by
  obtain ⟨f, fd, F, g, b⟩ := T.d_is_state.ex
  refine ⟨f, fd, g, F.kp, b, F.ok sc_is_state (fun vs H Q E h => ?_) (fun cdv A outer s H vs Q E hr h => ?_)⟩
  · obtain ⟨d, t, rfl, _⟩ := h; rfl
  · obtain ⟨d, t, rfl, hd, ok, hl, q⟩ := h
    have hu := hu_of hr
    refine ⟨_, (pss_cons (ps_if (PW.pt (pw_or (pt_not (pt_val (pe_callB call_isi (by rfl) T.b_isinstance (by decide +kernel) (pa_cons (pv 0) (pa_cons (pe_bltn (v := .ty "dict") (by rfl) T.b_dict (by decide +kernel) rfl) pa_nil))))) (pw_or1 (pt_cmpR op_gt (pe_callB call_lenD (by rfl) T.b_len PySem.boot_len (pa_cons (pv 0) pa_nil)) (pe_globI T.c_MOST_NAMES (by rfl)) (nomark _))))) (pss_one (ps_ret pe_bl)) pss_nil)
      (pss_one (ps_ret (pe_callB (cr_all rfl) (by rfl) T.b_all (by decide +kernel) (pa_cons (pe_lock (pe_lc (own := [("name", 1)]) (g := gName 1) (tt := tYes) (by rfl) sc_is_state.nd (pi_keysM (pv 0)) (blkOk_by (own := [("name", 1)]) (N := nm_is_state) (sc := defScope s_is_state) (by decide +kernel)) (fun _ _ _ _ _ => (pg_name (i := 1) sc_is_state.nd rfl (Or.inl rfl))) (fun _ _ _ _ _ => pts_nil) (fun _ _ _ _ _ => (pe_and (pe_fn (f_is_name T) (hr.mono (by decide)) (by rfl) pass0 (pa_cons (pv 1) pa_nil)) (pe_one (pe_fn (f_is_number T) (hr.mono (by decide)) (by rfl) pass0 (pa_cons (pe_dget hu (pv 0) (pv 1) (fun _ _ => rfl)) (pa_cons pe_int (pa_cons pe_int pa_nil))))))))) pa_nil))))), ?_⟩
    with_reducible refine seq_k fun K_ hK_ => ?_
    walk_at "ru"
    refine isi_thing (.dic hd) (by decide) ⟨true, rfl, ?_⟩
    walk_at "ru"
    refine ⟨_, hd, ?_⟩
    rw [kvsT_len, if_neg (by omega)]
    walk_at "ru"
    subst hK_
    first | with_reducible refine seq_k fun K_ hK_ => ?_ | skip
    walk_at "ru"
    refine ⟨d, _, hd, trivial, fun od => ?_⟩
    generalize hG : upd H d (.frz od (.dK (kvsT t))) = H1
    have hd1 : H1 d = some (.frz od (.dK (kvsT t))) := by rw [← hG]; exact upd_same
    have un := fun {H2 : Hp} (s : Same H1 H2) => unlock hd hG s
    walk_at "ru"
    refine ⟨od, _, hd1, fun D hD => ?_⟩
    refine lc_it walk_keys (LcP H1 D fun i => (t.take i).map fun _ => .bl true) ⟨same_upd hD, upd_same⟩ (fun _ _ _ p => p.same _ _ hd1) (fun i x H2 H3 hi p hy => ?_) (fun H2 p => ?_)
    · obtain ⟨rfl, k, v, hk, rfl⟩ := hy
      unfold kvsT at hk
      rw [List.getElem?_map] at hk
      cases e : t[i]? with
      | none => rw [e] at hk; cases hk
      | some pr =>
        rw [e] at hk
        cases hk
        have hm := mem_of_get e
        have hn := ok.nm _ hm
        have hn2 := ok.num _ hm
        walk_at "ru"
        refine ⟨_, _, rfl, .str pr.1, ShortS.nm hn, fun H4 s4 => ?_⟩
        rw [isNameV_nm hn]
        walk_at "ru"
        have hval : valV (kvsT t) (Sum.inr pr.1) = some (.int pr.2) := by rw [kvsT_val, lk_of ok.nd hm]; rfl
        refine ⟨_, .inl ⟨_, Sum.inr pr.1, .inr ⟨od, (p.same.trans s4) _ _ hd1⟩, rfl, hval.symm⟩, _, _, 0, _, rfl, .int _, fun _ _ => ⟨99, rfl⟩, ?_⟩
        have e2 : isNumV (.int pr.2) 0 (.int 99) = true := by simp [isNumV, hn2]
        rw [e2]
        exact p.push hD (by simp; omega) s4 (map_take_next _ e)
    · obtain ⟨hl2, s2⟩ := un p.same
      refine ⟨hl2, D, (t.take t.length).map fun _ => true, rfl, ?_, ?_⟩
      · have := p.at_
        rw [kvsT_len] at this
        rw [List.map_map]
        refine sqL ?_
        rw [upd_ne (ne_of_none hd1 hD).symm]
        exact this
      · have e : ((t.take t.length).map fun _ => true).all id = true := by simp
        rw [e]
        exact q _ s2
abbrev nm_State____init__ : List Str := ["self", "some"]
abbrev pm_State____init__ : List Str := ["self", "some"]
abbrev lv_State____init__ : Nat := 3
theorem sc_State____init__ : FnScope nm_State____init__ pm_State____init__ (defScope s_State____init__) := ⟨rfl, rfl, rfl, by decide +kernel, rfl, by decide +kernel, by decide +kernel⟩
def sp_State____init__ (mg : Str → Option Value) : Sp := fun vs H Q _ => ∃ (k dx d : Addr) (t : Tb), vs = [.ref k, .ref d] ∧ H k = some (.ins (cls mg "State") dx []) ∧ H d = some (.dK (kvsT t)) ∧ OkT t ∧ t.length ≤ 20 ∧
  ∀ H', (∀ b o, H b = some o → b ≠ k → H' b = some o) → StAt mg H' k t → Q .non H'
theorem f_State____init__ (T : Txt K mg) : Mo P w K mg base CX0 lv_State____init__ "State" "__init__" pm_State____init__ (sp_State____init__ mg) := by
  obtain ⟨f, fd, F, g, b⟩ := T.m_State____init__.ex
  refine ⟨f, fd, g, b, F.ok sc_State____init__ (fun vs H Q E h => ?_) (fun cdv A outer s H vs Q E hr h => ?_)⟩
  · obtain ⟨k, dx, d, t, rfl, _⟩ := h; rfl
  · obtain ⟨k, dx, d, t, rfl, hk, hd, ok, hl, q⟩ := h
    refine ⟨_, (pss_cons (ps_if (pt_not (pt_val (pe_fn (f_is_state T) (hr.mono (by decide)) (by rfl) pass0 (pa_cons (pv 1) pa_nil)))) (pss_one ps_never) pss_nil)
      (pss_one (ps_fld (pv 0) (pe_callTy call_dictD (by rfl) T.b_dict (by decide +kernel) (pa_cons (pv 1) pa_nil)) rfl))), ?_⟩
    with_reducible refine seq_k fun K_ hK_ => ?_
    walk_at "ru"
    refine ⟨d, t, rfl, hd, ok, hl, fun H1 s1 => ⟨true, rfl, ?_⟩⟩
    rw [if_neg (by simp)]
    walk_at "ru"
    subst hK_
    first | with_reducible refine seq_k fun K_ hK_ => ?_ | skip
    walk_at "ru"
    refine ⟨_, .inl (s1 _ _ hd), fun p hp => ?_⟩
    have hk1 := s1 _ _ hk
    have hkp : k ≠ p := ne_of_none hk1 hp
    refine ⟨_, dx, _, by rw [upd_ne hkp]; exact hk1, T.o_State.cl, T.n_State__table, (by show (0 : Nat) < 1000; decide), ?_⟩
    refine q _ (fun b o hb hbk => ?_) ⟨⟨dx, p, upd_same, by rw [upd_ne hkp.symm]; exact upd_same⟩, ok, hl⟩
    have hb1 := s1 _ _ hb
    rw [upd_ne hbk, upd_ne (ne_of_none hb1 hp)]
    exact hb1
/-- State(table) -/
theorem state_new {H : Hp} {d : Addr} {t : Tb} {Q : Addr → Hp → Prop} {E : XK} (hd : H d = some (.dK (kvsT t))) (ok : OkT t) (hl : t.length ≤ 20) (q : ∀ k H', Same H H' → H k = none → StAt mg H' k t → Q k H') :
    ∀ x dx : Addr, H x = none → H dx = none → dx ≠ x → sp_State____init__ mg [.ref x, .ref d] (upd (upd H dx (.own x)) x (.ins (cls mg "State") dx [])) (fun v H2 => v = .non ∧ Q x H2) E := by
  intro x dx hx hdx hne
  have s1 : Same H (upd (upd H dx (.own x)) x (.ins (cls mg "State") dx [])) := fun b o hb => by
    rw [upd_ne (ne_of_none hb hx), upd_ne (ne_of_none hb hdx)]
    exact hb
  exact ⟨x, dx, d, t, rfl, upd_same, s1 _ _ hd, ok, hl, fun H' st hS => ⟨rfl, q x H' (fun b o hb => st b o (s1 _ _ hb) (ne_of_none hb hx)) hx hS⟩⟩
abbrev nm_State____len__ : List Str := ["self"]
abbrev pm_State____len__ : List Str := ["self"]
abbrev lv_State____len__ : Nat := 1
theorem sc_State____len__ : FnScope nm_State____len__ pm_State____len__ (defScope s_State____len__) := ⟨rfl, rfl, rfl, by decide +kernel, rfl, by decide +kernel, by decide +kernel⟩
def sp_State____len__ (mg : Str → Option Value) : Sp := fun vs H Q _ => ∃ (p : Addr) (t : Tb), vs = [.ref p] ∧ StAt mg H p t ∧ Q (.int t.length) H
theorem f_State____len__ (T : Txt K mg) : Mo P w K mg base CX0 lv_State____len__ "State" "__len__" pm_State____len__ (sp_State____len__ mg) := by
  obtain ⟨f, fd, F, g, b⟩ := T.m_State____len__.ex
  refine ⟨f, fd, g, b, F.ok sc_State____len__ (fun vs H Q E h => ?_) (fun cdv A outer s H vs Q E hr h => ?_)⟩
  · obtain ⟨p, t, rfl, _⟩ := h; rfl
  · obtain ⟨p, t, rfl, hS, q⟩ := h
    refine ⟨_, (pss_one (ps_ret (pe_callB call_lenD (by rfl) T.b_len PySem.boot_len (pa_cons (pe_fld (pv 0) rfl) pa_nil)))), ?_⟩
    obtain ⟨dx, d, h1, h2⟩ := hS.ex
    walk_at "ru"
    refine ⟨_, dx, _, h1, T.o_State.cl, T.n_State__table, _, rfl, d, rfl, _, h2, ?_⟩
    rw [kvsT_len]
    exact q
abbrev nm_State____eq__ : List Str := ["self", "other"]
abbrev pm_State____eq__ : List Str := ["self", "other"]
abbrev lv_State____eq__ : Nat := 1
theorem sc_State____eq__ : FnScope nm_State____eq__ pm_State____eq__ (defScope s_State____eq__) := ⟨rfl, rfl, rfl, by decide +kernel, rfl, by decide +kernel, by decide +kernel⟩
def sp_State____eq__ (mg : Str → Option Value) : Sp := fun vs H Q _ => ∃ (p q : Addr) (t u : Tb), vs = [.ref p, .ref q] ∧ StAt mg H p t ∧ StAt mg H q u ∧ Q (.bl (eqDk (kvsT t) (kvsT u))) H
theorem f_State____eq__ (T : Txt K mg) : Mo P w K mg base CX0 lv_State____eq__ "State" "__eq__" pm_State____eq__ (sp_State____eq__ mg) := by
  obtain ⟨f, fd, F, g, b⟩ := T.m_State____eq__.ex
  refine ⟨f, fd, g, b, F.ok sc_State____eq__ (fun vs H Q E h => ?_) (fun cdv A outer s H vs Q E hr h => ?_)⟩
  · obtain ⟨p, q, t, u, rfl, _⟩ := h; rfl
  · obtain ⟨p, q, t, u, rfl, hS, hU, q0⟩ := h
    refine ⟨_, (pss_one (ps_ret (pe_and (pe_callB call_isi (by rfl) T.b_isinstance (by decide +kernel) (pa_cons (pv 1) (pa_cons (pe_glob (v := .ref (cls mg "State")) (by rfl) T.o_State.g rfl) pa_nil))) (pe_one (pe_cmpR (op_eqDk hr.units0) (pe_fld (pv 0) rfl) (pe_fld (pv 1) rfl) (nomark _)))))), ?_⟩
    obtain ⟨dx, d, h1, h2⟩ := hS.ex
    obtain ⟨dy, e, h3, h4⟩ := hU.ex
    walk_at "ru"
    refine isi_own T.o_State T.v_State h3 ⟨true, rfl, ?_⟩
    walk_at "ru"
    refine ⟨_, dx, _, h1, T.o_State.cl, T.n_State__table, _, rfl, _, dy, _, h3, T.o_State.cl, T.n_State__table, _, rfl, d, e, _, _, rfl, rfl, h2, h4, kvsT_flat, kvsT_flat, q0⟩
abbrev nm_State__number : List Str := ["self", "name"]
abbrev pm_State__number : List Str := ["self", "name"]
abbrev lv_State__number : Nat := 2
theorem sc_State__number : FnScope nm_State__number pm_State__number (defScope s_State__number) := ⟨rfl, rfl, rfl, by decide +kernel, rfl, by decide +kernel, by decide +kernel⟩
def lkV (t : Tb) : V → Option Int
  | .str s => lk t s
  | _ => none
def sp_State__number (K : PySem.W.Frag) (mg : Str → Option Value) : Sp := fun vs H Q _ => ∃ (p : Addr) (t : Tb) (x : V) (n : String), vs = [.ref p, x] ∧ StAt mg H p t ∧ Thing K H x n ∧ ShortS x ∧ ∀ H', Same H H' → Q (numV (lkV t x)) H'
theorem f_State__number (T : Txt K mg) : Mo P w K mg base CX0 lv_State__number "State" "number" pm_State__number (sp_State__number K mg) := by
  obtain ⟨f, fd, F, g, b⟩ := T.m_State__number.ex
  refine ⟨f, fd, g, b, F.ok sc_State__number (fun vs H Q E h => ?_) (fun cdv A outer s H vs Q E hr h => ?_)⟩
  · obtain ⟨p, t, x, n, rfl, _⟩ := h; rfl
  · obtain ⟨p, t, x, n, rfl, hS, hx, hs, q⟩ := h
    have hu := hu_of hr
    refine ⟨_, (pss_one (ps_ret (pe_ifExp (PW.pt (pw_and (pt_val (pe_fn (f_is_name T) (hr.mono (by decide)) (by rfl) pass0 (pa_cons (pv 1) pa_nil))) (pw_and1 (pt_cmp (pc_din hu (pv 1) (pe_fld (pv 0) rfl)))))) (pe_dget hu (pe_fld (pv 0) rfl) (pv 1) (fun _ _ => rfl)) pe_non))), ?_⟩
    obtain ⟨dx, d, h1, h2⟩ := hS.ex
    walk_at "ru"
    refine ⟨x, n, rfl, hx, hs, fun H1 s1 => ⟨_, rfl, ?_⟩⟩
    cases hnm : isNameV x with
    | false =>
      rw [if_neg Bool.false_ne_true]
      have e : lkV t x = none := by
        cases x with
        | str s =>
          simp only [lkV]
          rw [lk_none]
          intro hm
          obtain ⟨pr, hp, rfl⟩ := List.mem_map.mp hm
          rw [isNameV_nm (hS.ok.nm _ hp)] at hnm
          cases hnm
        | _ => rfl
      rw [e] at q
      walk_at "ru"
      exact q H1 s1
    | true =>
      rw [if_pos rfl]
      obtain ⟨s, rfl⟩ : ∃ s, x = .str s := by
        cases x with
        | str s => exact ⟨s, rfl⟩
        | _ => cases hnm
      walk_at "ru"
      refine ⟨_, dx, _, s1 _ _ h1, T.o_State.cl, T.n_State__table, _, rfl, d, rfl, _, DGet.k (k := Sum.inr s) (s1 _ _ h2), ?_⟩
      rw [kvsT_val]
      cases e : lk t s with
      | none =>
        rw [if_neg (by simp)]
        have := q H1 s1
        simpa only [lkV, e, numV] using this
      | some i =>
        walk_at "ru"
        refine ⟨_, dx, _, s1 _ _ h1, T.o_State.cl, T.n_State__table, _, rfl, d, rfl, .int i, ?_, ?_⟩
        · have := DGet.k (k := Sum.inr s) (s1 _ _ h2)
          rw [kvsT_val, e] at this
          exact this
        · have := q H1 s1
          simpa only [lkV, e, numV] using this
abbrev nm_State__names : List Str := ["self"]
abbrev pm_State__names : List Str := ["self"]
abbrev lv_State__names : Nat := 1
theorem sc_State__names : FnScope nm_State__names pm_State__names (defScope s_State__names) := ⟨rfl, rfl, rfl, by decide +kernel, rfl, by decide +kernel, by decide +kernel⟩
def sp_State__names (mg : Str → Option Value) : Sp := fun vs H Q _ => ∃ (p : Addr) (t : Tb), vs = [.ref p] ∧ StAt mg H p t ∧ ∀ l H', Same H H' → H l = none → H' l = some (.lst ((srt (nms t)).map V.str)) → Q (.ref l) H'
theorem f_State__names (T : Txt K mg) : Mo P w K mg base CX0 lv_State__names "State" "names" pm_State__names (sp_State__names mg) := by
  obtain ⟨f, fd, F, g, b⟩ := T.m_State__names.ex
  refine ⟨f, fd, g, b, F.ok sc_State__names (fun vs H Q E h => ?_) (fun cdv A outer s H vs Q E hr h => ?_)⟩
  · obtain ⟨p, t, rfl, _⟩ := h; rfl
  · obtain ⟨p, t, rfl, hS, q⟩ := h
    refine ⟨_, (pss_one (ps_ret (pe_callB (cr_sortedKS rfl) (by rfl) T.b_sorted (by decide +kernel) (pa_cons (pe_bm0 PySem.F.plainAttrs_dict PySem.F.slot_dict_keys PySem.F.type_dict_keys mt_keys (pe_fld (pv 0) rfl)) pa_nil)))), ?_⟩
    obtain ⟨dx, d, h1, h2⟩ := hS.ex
    walk_at "ru"
    refine ⟨_, dx, _, h1, T.o_State.cl, T.n_State__table, _, rfl, tyD h2, d, _, rfl, rfl, h2, fun v hv => ?_⟩
    generalize hG : upd H v (KeysO v d) = H1
    obtain ⟨s1, hv1⟩ := newF hv hG
    clear hG
    refine ⟨v, d, _, nms t, rfl, hv1, s1 _ _ h2, kvsT_keys, hS.ok.nd, fun ys l h3 h4 hl => ?_⟩
    have e : ys = srt (nms t) := srt_uniq h3 pw_srt fun k => by rw [h4, mem_srt]
    subst e
    exact q l _ (s1.trans (same_upd hl)) (s1.free hl) upd_same
abbrev nm_State__plain : List Str := ["self"]
abbrev pm_State__plain : List Str := ["self"]
abbrev lv_State__plain : Nat := 1
theorem sc_State__plain : FnScope nm_State__plain pm_State__plain (defScope s_State__plain) := ⟨rfl, rfl, rfl, by decide +kernel, rfl, by decide +kernel, by decide +kernel⟩
def sp_State__plain (mg : Str → Option Value) : Sp := fun vs H Q _ => ∃ (p : Addr) (t : Tb), vs = [.ref p] ∧ StAt mg H p t ∧ ∀ d H', Same H H' → H d = none → H' d = some (.dK (kvsT t)) → Q (.ref d) H'
theorem f_State__plain (T : Txt K mg) : Mo P w K mg base CX0 lv_State__plain "State" "plain" pm_State__plain (sp_State__plain mg) := by
  obtain ⟨f, fd, F, g, b⟩ := T.m_State__plain.ex
  refine ⟨f, fd, g, b, F.ok sc_State__plain (fun vs H Q E h => ?_) (fun cdv A outer s H vs Q E hr h => ?_)⟩
  · obtain ⟨p, t, rfl, _⟩ := h; rfl
  · obtain ⟨p, t, rfl, hS, q⟩ := h
    refine ⟨_, (pss_one (ps_ret (pe_callTy call_dictD (by rfl) T.b_dict (by decide +kernel) (pa_cons (pe_fld (pv 0) rfl) pa_nil)))), ?_⟩
    obtain ⟨dx, d, h1, h2⟩ := hS.ex
    walk_at "ru"
    refine ⟨_, dx, _, h1, T.o_State.cl, T.n_State__table, _, rfl, d, rfl, _, .inl h2, fun p hp => q p _ (same_upd hp) hp upd_same⟩
end
end Nk
namespace Nk
open PySem L2
section
variable {P : Program} {w : World} {K : PySem.W.Frag} {mg : Str → Option Value} {base : Heap}
/-- things, down to a depth, their texts short -/
def DS (K : PySem.W.Frag) (H : Hp) : Nat → V → Prop
  | 0, x => (∃ n, Thing K H x n) ∧ ShortS x
  | k + 1, x => ((∃ n, Thing K H x n) ∧ ShortS x) ∧ ∀ a xs, x = .ref a → (H a = some (.tup xs) ∨ H a = some (.lst xs)) → xs.length ≤ 100000 ∧ ∀ y ∈ xs, DS K H k y
theorem DS.th {H : Hp} {k : Nat} {x : V} (h : DS K H k x) : (∃ n, Thing K H x n) ∧ ShortS x := by
  cases k with
  | zero => exact h
  | succ k => exact h.1
theorem DS.same {H H' : Hp} (s : Same H H') : ∀ {k : Nat} {x : V}, DS K H k x → DS K H' k x
  | 0, _, ⟨⟨n, h⟩, z⟩ => ⟨⟨n, Thing.same s h⟩, z⟩
  | k + 1, x, ⟨⟨⟨n, h⟩, z⟩, hi⟩ => by
    refine ⟨⟨⟨n, Thing.same s h⟩, z⟩, fun a xs e ha => ?_⟩
    have back : H a = some (.tup xs) ∨ H a = some (.lst xs) := by
      subst e
      cases h with
      | lst h => have := s _ _ h; rw [this] at ha; rcases ha with z | z <;> cases z; exact .inr h
      | tup h => have := s _ _ h; rw [this] at ha; rcases ha with z | z <;> cases z; exact .inl h
      | dic h => have := s _ _ h; rw [this] at ha; rcases ha with z | z <;> cases z
    obtain ⟨h1, h2⟩ := hi a xs e back
    exact ⟨h1, fun y hy => DS.same s (h2 y hy)⟩
def isNum0V (m : V) : Bool := match m with
  | .non => true
  | m => isNumV m 0 (.int 99)
def isPairV (H : Hp) (x : V) : Bool := match x with
  | .ref a => match H a with
    | some (.tup [n, m]) => isNameV n && isNum0V m
    | _ => false
  | _ => false
def nameOf (H : Hp) (x : V) : Str := match x with
  | .ref a => match H a with
    | some (.tup (.str s :: _)) => s
    | _ => Str.empty
  | _ => Str.empty
def isPartV (H : Hp) (x : V) : Bool := match x with
  | .ref a => match H a with
    | some (.lst xs) => decide (xs.length ≤ 40) && xs.all (isPairV H) && decide ((xs.map (nameOf H)).Pairwise sl)
    | _ => false
  | _ => false
theorem isPairV_same {H H' : Hp} (s : Same H H') {k : Nat} {x : V} (h0 : DS K H k x) : isPairV H' x = isPairV H x := by
  obtain ⟨⟨n, h⟩, _⟩ := h0.th
  clear h0
  cases h with
  | lst h => simp only [isPairV, h, s _ _ h]
  | tup h => simp only [isPairV, h, s _ _ h]
  | dic h => simp only [isPairV, h, s _ _ h]
  | _ => rfl
theorem nameOf_same {H H' : Hp} (s : Same H H') {k : Nat} {x : V} (h0 : DS K H k x) : nameOf H' x = nameOf H x := by
  obtain ⟨⟨n, h⟩, _⟩ := h0.th
  clear h0
  cases h with
  | lst h => simp only [nameOf, h, s _ _ h]
  | tup h => simp only [nameOf, h, s _ _ h]
  | dic h => simp only [nameOf, h, s _ _ h]
  | _ => rfl
theorem isPartV_same {H H' : Hp} (s : Same H H') {x : V} (h : DS K H 2 x) : isPartV H' x = isPartV H x := by
  obtain ⟨⟨⟨n, h⟩, _⟩, hi⟩ := h
  cases h with
  | @lst a xs h =>
    obtain ⟨_, h2⟩ := hi a xs rfl (.inr h)
    simp only [isPartV, h, s _ _ h]
    have e1 : xs.all (isPairV H') = xs.all (isPairV H) := by
      rw [Bool.eq_iff_iff, List.all_eq_true, List.all_eq_true]
      exact ⟨fun z x hx => by rw [← isPairV_same s (h2 x hx)]; exact z x hx, fun z x hx => by rw [isPairV_same s (h2 x hx)]; exact z x hx⟩
    have e2 : xs.map (nameOf H') = xs.map (nameOf H) := List.map_congr_left fun x hx => nameOf_same s (h2 x hx)
    rw [e1, e2]
  | tup h => simp only [isPartV, h, s _ _ h]
  | dic h => simp only [isPartV, h, s _ _ h]
  | _ => rfl
/-! neighbours in order -/
def adjL (l : List Str) : List Bool := (l.zip (l.drop 1)).map fun p => decide (sl p.1 p.2)
theorem adjL_get {l : List Str} {i : Nat} {x y : Str} (h1 : l[i]? = some x) (h2 : l[i + 1]? = some y) : (adjL l)[i]? = some (decide (sl x y)) := by
  unfold adjL
  have e : (l.zip (l.drop 1))[i]? = some (x, y) := List.getElem?_zip_eq_some.mpr ⟨h1, by rw [List.getElem?_drop, Nat.add_comm]; exact h2⟩
  rw [List.getElem?_map, e]
  rfl
theorem adjL_len {l : List Str} : (adjL l).length = l.length - 1 := by
  unfold adjL
  simp
theorem adjL_all : ∀ {l : List Str}, (adjL l).all id = decide (l.Pairwise sl)
  | [] => by simp [adjL]
  | [x] => by simp [adjL]
  | x :: y :: r => by
    have ih := adjL_all (l := y :: r)
    have e : adjL (x :: y :: r) = decide (sl x y) :: adjL (y :: r) := by simp [adjL]
    rw [e, List.all_cons, ih, Bool.eq_iff_iff]
    simp only [id, Bool.and_eq_true, decide_eq_true_eq]
    constructor
    · rintro ⟨h1, h2⟩
      refine List.pairwise_cons.mpr ⟨fun z hz => ?_, h2⟩
      rcases List.mem_cons.mp hz with c | c
      · rw [c]; exact h1
      · exact sl_trans h1 ((List.pairwise_cons.mp h2).1 z c)
    · intro h
      obtain ⟨h1, h2⟩ := List.pairwise_cons.mp h
      exact ⟨h1 y List.mem_cons_self, h2⟩
theorem PairsAt.ds {H : Hp} : ∀ {xs : List V} {ps : Pt}, PairsAt H xs ps → (∀ p ∈ ps, isNm p.1) → ∀ x ∈ xs, DS K H 1 x
  | x :: xs, p :: ps, ⟨⟨q, e, hq⟩, r⟩, hn, y, hy => by
    rcases List.mem_cons.mp hy with z | z
    · subst z
      subst e
      refine ⟨⟨⟨_, .tup hq⟩, fun s e => nomatch e⟩, fun a ys e ha => ?_⟩
      cases e
      rw [hq] at ha
      rcases ha with z | z <;> cases z
      refine ⟨by simp, fun y hy => ?_⟩
      simp only [List.mem_cons, List.not_mem_nil, or_false] at hy
      rcases hy with rfl | rfl
      · exact ⟨⟨_, .str _⟩, ShortS.nm (hn p List.mem_cons_self)⟩
      · cases p.2 with
        | none => exact ⟨⟨_, .non⟩, fun s e => nomatch e⟩
        | some i => exact ⟨⟨_, .int i⟩, fun s e => nomatch e⟩
    · exact PairsAt.ds r (fun p hp => hn p (List.mem_cons_of_mem _ hp)) y z
theorem PairsAt.isP {H : Hp} : ∀ {xs : List V} {ps : Pt}, PairsAt H xs ps → (∀ p ∈ ps, isNm p.1) → (∀ p ∈ ps, ∀ i, p.2 = some i → 0 ≤ i ∧ i ≤ 99) → xs.all (isPairV H) = true ∧ xs.map (nameOf H) = ps.map (·.1)
  | [], [], _, _, _ => ⟨rfl, rfl⟩
  | x :: xs, p :: ps, ⟨⟨q, e, hq⟩, r⟩, hn, hm => by
    subst e
    obtain ⟨i1, i2⟩ := PairsAt.isP r (fun p hp => hn p (List.mem_cons_of_mem _ hp)) (fun p hp => hm p (List.mem_cons_of_mem _ hp))
    have h1 := hn p List.mem_cons_self
    have h2 := hm p List.mem_cons_self
    constructor
    · rw [List.all_cons, i1, Bool.and_true]
      simp only [isPairV, hq, isNameV_nm h1, Bool.true_and]
      obtain ⟨n, m⟩ := p
      cases m with
      | none => rfl
      | some i =>
        have := h2 i rfl
        simp [numV, isNum0V, isNumV, this]
    · rw [List.map_cons, List.map_cons, i2]
      simp only [nameOf, hq]
theorem PartAt.ds {H : Hp} {l : Addr} {ps : Pt} (h : PartAt H l ps) (g : GoodP ps) : DS K H 2 (.ref l) ∧ isPartV H (.ref l) = true := by
  obtain ⟨xs, h1, h2⟩ := h
  have hl := h2.len
  have g4 := g.len
  refine ⟨⟨⟨⟨_, .lst h1⟩, fun s e => nomatch e⟩, fun a ys e ha => ?_⟩, ?_⟩
  · cases e
    rw [h1] at ha
    rcases ha with z | z <;> cases z
    exact ⟨by omega, h2.ds g.nm⟩
  · obtain ⟨i1, i2⟩ := h2.isP g.nm g.num
    simp only [isPartV, h1, i1, i2, Bool.and_true, Bool.and_eq_true, decide_eq_true_eq]
    exact ⟨by omega, g.pw⟩
theorem ds_list {H : Hp} {l : Addr} {k : Nat} {xs : List V} (h : H l = some (.lst xs)) (hz : xs.length ≤ 1000) (hx : ∀ x ∈ xs, DS K H k x) : DS K H (k + 1) (.ref l) := by
  refine ⟨⟨⟨_, .lst h⟩, fun s e => nomatch e⟩, fun a ys e ha => ?_⟩
  cases e
  rw [h] at ha
  rcases ha with z | z <;> cases z
  exact ⟨by omega, hx⟩
theorem ds0 {H : Hp} {x : V} {n : String} (h : Thing K H x n) (hs : ShortS x) : DS K H 0 x := ⟨⟨n, h⟩, hs⟩
theorem ds_tup {H : Hp} {l : Addr} {k : Nat} {xs : List V} (h : H l = some (.tup xs)) (hz : xs.length ≤ 1000) (hx : ∀ x ∈ xs, DS K H k x) : DS K H (k + 1) (.ref l) := by
  refine ⟨⟨⟨_, .tup h⟩, fun s e => nomatch e⟩, fun a ys e ha => ?_⟩
  cases e
  rw [h] at ha
  rcases ha with z | z <;> cases z
  exact ⟨by omega, hx⟩
theorem short_of {s : Str} (h : s.cps.size ≤ 1000) : ShortS (.str s) := fun s' e => by cases e; exact h
theorem ds_pair {H : Hp} {l : Addr} {s : Str} {x : V} {n : String} (h : H l = some (.tup [.str s, x])) (hs : s.cps.size ≤ 1000) (hx : Thing K H x n) (hx2 : ShortS x) : DS K H 1 (.ref l) :=
  ds_tup h (by simp) fun y hy => by
    simp only [List.mem_cons, List.not_mem_nil, or_false] at hy
    rcases hy with rfl | rfl
    · exact ds0 (.str s) (short_of hs)
    · exact ds0 hx hx2
theorem room65 {k : Nat} {A : Around} (r : Room k A) : A.units + 65 < cLine := by have := r.un; omega
end
end Nk
namespace Nk
open PySem L2
section
variable {P : Program} {w : World} {K : PySem.W.Frag} {mg : Str → Option Value} {base : Heap}
theorem applyP_cons {t : Tb} {n : Str} {x : Option Int} {ps : Pt} : applyP t ((n, x) :: ps) = if lk t n = x then none else applyP (stepP t n x) ps := rfl
theorem scal_num (a b : Option Int) : scal (numV a) (numV b) = true := by cases a <;> cases b <;> rfl
theorem numV_inj {a b : Option Int} : numV a = numV b ↔ a = b := by
  cases a <;> cases b <;> simp [numV]
/-- the number of a name in a state -/
theorem num_of {H : Hp} {p : Addr} {t : Tb} {n : Str} {Q : VK} {E : XK} (hS : StAt mg H p t) (hn : isNm n) (q : ∀ H', Same H H' → Q (numV (lk t n)) H') :
    ∃ dx fs, H p = some (.ins (cls mg "State") dx fs) ∧ fs.lookup ("number" : Str) = none ∧ sp_State__number K mg [.ref p, .str n] H Q E := by
  obtain ⟨dx, d, h1, h2⟩ := hS.ex
  exact ⟨dx, _, h1, rfl, p, t, .str n, _, rfl, hS, .str n, ShortS.nm hn, q⟩
abbrev nm_part_of : List Str := ["one", "other", "names", "name"]
abbrev pm_part_of : List Str := ["one", "other"]
abbrev lv_part_of : Nat := 3
theorem sc_part_of : FnScope nm_part_of pm_part_of (defScope s_part_of) := ⟨rfl, rfl, rfl, by decide +kernel, rfl, by decide +kernel, by decide +kernel⟩
def sp_part_of (mg : Str → Option Value) : Sp := fun vs H Q _ => ∃ (p q : Addr) (t u : Tb), vs = [.ref p, .ref q] ∧ StAt mg H p t ∧ StAt mg H q u ∧ ∀ l H', Same H H' → H l = none → PartAt H' l (part t u) → Q (.ref l) H'
def iv_part_of (H1 : Hp) (D : Addr) (t u : Tb) (i : Nat) (H : Hp) : Prop := Same H1 H ∧ ∃ ys, H D = some (.lst ys) ∧ PairsAt H ys ((((srt (nms t ++ nms u)).take i).filter fun n => decide (lk t n ≠ lk u n)).map fun n => (n, lk u n))
theorem f_part_of (T : Txt K mg) : Fk P w K mg base CX0 lv_part_of "part_of" pm_part_of (sp_part_of mg) := by
  obtain ⟨f, fd, F, g, b⟩ := T.d_part_of.ex
  refine ⟨f, fd, g, F.kp, b, F.ok sc_part_of (fun vs H Q E h => ?_) (fun cdv A outer s H vs Q E hr h => ?_)⟩
  · obtain ⟨p, q, t, u, rfl, _⟩ := h; rfl
  · obtain ⟨p, q, t, u, rfl, hS, hU, q0⟩ := h
    refine ⟨_, (pss_cons (ps_set (i := 2) sc_part_of.nd rfl (.inl rfl) (pe_callB (cr_sortedSS rfl) (by rfl) T.b_sorted (by decide +kernel) (pa_cons (pe_callTy (cr_setLS rfl) (by rfl) T.b_set (by decide +kernel) (pa_cons (pe_op op_cat (pe_me0 (pv 0) T.o_State (f_State__names T) (hr.mono (by decide)) pass0) (pe_me0 (pv 1) T.o_State (f_State__names T) (hr.mono (by decide)) pass0)) pa_nil)) pa_nil)))
      (pss_one (ps_ret (pe_lc (own := [("name", 3)]) (g := gName 3) (by rfl) sc_part_of.nd (pi_list (pv 2)) (blkOk_by (own := [("name", 3)]) (N := nm_part_of) (sc := defScope s_part_of) (by decide +kernel)) (fun _ _ _ _ _ => (pg_name (i := 3) sc_part_of.nd rfl (Or.inl rfl))) (fun _ _ _ _ _ => (pts_one (pt_cmpR op_ne (pe_meK mg rfl (pv 0) T.o_State (f_State__number T) (hr.mono (by decide)) pass0 (pa_cons (pv 3) pa_nil)) (pe_meK mg rfl (pv 1) T.o_State (f_State__number T) (hr.mono (by decide)) pass0 (pa_cons (pv 3) pa_nil)) (nomark _)))) (fun _ _ _ _ _ => (pe_tup (pa_cons (pv 3) (pa_cons (pe_meK mg rfl (pv 1) T.o_State (f_State__number T) (hr.mono (by decide)) pass0 (pa_cons (pv 3) pa_nil)) pa_nil)))))))), ?_⟩
    obtain ⟨dx, d, h1, h2⟩ := hS.ex
    obtain ⟨dy, e, h3, h4⟩ := hU.ex
    have lS := hS.len
    have lU := hU.len
    have hlen : ∀ t : Tb, t.length ≤ 20 → (srt (nms t)).length ≤ 20 := fun t h => Nat.le_trans (nodup_le (pw_nodup pw_srt) (m := nms t) fun x hx => mem_srt.mp hx) (by simpa [nms] using h)
    have l1 := hlen t lS
    have l2 := hlen u lU
    with_reducible refine seq_k fun K_ hK_ => ?_
    walk_at "ru"
    refine ⟨dx, _, h1, rfl, p, t, rfl, hS, fun a1 H1 s1 n1 hA1 => ?_⟩
    refine ⟨dy, _, s1 _ _ h3, rfl, q, u, rfl, hU.same s1, fun a2 H2 s2 n2 hA2 => ?_⟩
    refine ⟨a1, a2, _, _, rfl, rfl, s2 _ _ hA1, hA2, sz (by simp; omega), ?_⟩
    intro a3 n_a3
    generalize hG_ : upd _ a3 _ = H3
    obtain ⟨s3, hA3⟩ := newF n_a3 hG_
    clear hG_
    rw [← List.map_append] at hA3
    refine ⟨a3, _, rfl, sqL hA3, by simp; omega, fun a4 c n4 hc => ?_⟩
    generalize hG : upd H3 a4 _ = H4
    obtain ⟨s4, hA4⟩ := newF n4 hG
    clear hG
    have hc2 : c ≤ 40 := by
      rw [List.length_append] at hc
      omega
    refine ⟨a4, _, c, rfl, hA4, by omega, fun ns a5 g1 g2 n5 => ?_⟩
    have e5 : ns = srt (nms t ++ nms u) := srt_uniq g1 pw_srt fun k => by rw [g2, decide_eq_true_eq, List.mem_append, mem_srt, mem_srt, mem_srt, List.mem_append]
    subst e5
    generalize hG : upd H4 a5 _ = H5
    obtain ⟨s5, hA5⟩ := newF n5 hG
    clear hG
    have sA := ((((s1.trans s2).trans s3).trans s4).trans s5)
    have hN : (srt (nms t ++ nms u)).length ≤ 40 := Nat.le_trans (nodup_le (pw_nodup pw_srt) (m := nms t ++ nms u) fun x hx => mem_srt.mp hx) (by simp [nms]; omega)
    have hnm : ∀ n ∈ srt (nms t ++ nms u), isNm n := fun n hn => by
      rw [mem_srt, List.mem_append] at hn
      rcases hn with hn | hn
      · obtain ⟨pr, hp, rfl⟩ := List.mem_map.mp hn; exact hS.ok.nm _ hp
      · obtain ⟨pr, hp, rfl⟩ := List.mem_map.mp hn; exact hU.ok.nm _ hp
    walk_at "ru"
    subst hK_
    first | with_reducible refine seq_k fun K_ hK_ => ?_ | skip
    walk_at "ru"
    refine ⟨⟨_, sqL hA5⟩, fun D hD => ?_⟩
    refine lc_list (K := K) (a := a5) (xs := (srt (nms t ++ nms u)).map V.str) (iv_part_of H5 D t u) ⟨same_upd hD, [], upd_same, by simp [PairsAt]⟩ (fun i H2 _ p => sqL (p.1 _ _ hA5)) (fun i x H6 hx p => ?_) fun H6 p => ?_
    · obtain ⟨s6, ys, hD6, hP6⟩ := p
      rw [List.getElem?_map] at hx
      cases ex : (srt (nms t ++ nms u))[i]? with
      | none => rw [ex] at hx; cases hx
      | some n =>
        rw [ex] at hx
        cases hx
        have hn := hnm n (mem_of_get ex)
        have hi := lt_of_get ex
        have hlY := hP6.len
        rw [List.length_map] at hlY
        have hlF := filter_len (srt (nms t ++ nms u)) (fun n => decide (lk t n ≠ lk u n)) i
        have hS6 := hS.same (sA.trans s6)
        have hU6 := hU.same (sA.trans s6)
        walk_at "ru"
        refine num_of hS6 hn fun H7 s7 => ?_
        refine num_of (hU6.same s7) hn fun H8 s8 => ?_
        refine ⟨scal_num _ _, ?_⟩
        have s68 := s7.trans s8
        have hft := filter_take_next (fun n => decide (lk t n ≠ lk u n)) ex
        by_cases c : lk t n = lk u n
        · rw [if_neg (by simp [numV_inj, c])]
          rw [if_neg (by simp [c]), List.append_nil] at hft
          exact ⟨s6.trans s68, ys, s68 _ _ hD6, by rw [hft]; exact hP6.same s68⟩
        · rw [if_pos (by simp [numV_inj, c])]
          rw [if_pos (by simp [c])] at hft
          walk_at "ru"
          refine num_of ((hU6.same s7).same s8) hn fun H9 s9 => ?_
          intro a9 n_a9
          generalize hG_ : upd _ a9 _ = HA
          obtain ⟨sB, hA9⟩ := newF n_a9 hG_
          clear hG_
          have s6A := (s68.trans s9).trans sB
          refine ⟨ys, s6A _ _ hD6, szl (by omega), Same.app (s6.trans s6A) hD, ys ++ [.ref a9], upd_same, ?_⟩
          rw [hft, List.map_append]
          have kp : ∀ z zs, HA z = some (.tup zs) → (upd HA D (.lst (ys ++ [.ref a9]))) z = some (.tup zs) := fun z zs e => by rw [upd_ne (ne_of e (s6A _ _ hD6) (by intro z; cases z))]; exact e
          exact (hP6.same s6A |>.tups kp).app (PairsAt.one (p := (n, lk u n)) (kp _ _ hA9))
    · obtain ⟨s6, ys, hD6, hP6⟩ := p
      rw [List.length_map, List.take_length] at hP6
      exact q0 D H6 (sA.trans s6) (sA.free hD) ⟨ys, hD6, hP6⟩
/-- the last of a list -/
theorem ixLast {H : Hp} {p : Addr} {xs : List V} {v : V} {Q : VK} (h : SqL K H p xs) (e : xs.getLast? = some v) (q : Q v H) : rIxL K (.ref p) (.int (-1)) H Q := by
  refine ⟨p, xs, -1, v, rfl, rfl, h, ?_, q⟩
  have hne : xs ≠ [] := fun z => by rw [z] at e; cases e
  have hl := List.length_pos_iff.mpr hne
  unfold atI ixN
  rw [if_neg (by omega), if_pos (by omega)]
  show xs[(-1 + (xs.length : Int)).toNat]? = some v
  rw [List.getLast?_eq_getElem?] at e
  rw [← e]
  congr 1
  omega
end
end Nk
namespace Nk
open PySem L2
section
variable {P : Program} {w : World} {K : PySem.W.Frag} {mg : Str → Option Value} {base : Heap}
theorem ixS {z : Str} {i : Int} {j c : Nat} {H : Hp} {Q : VK} (hz : z.cps.size ≤ 1000) (hi : i = (j : Int)) (e : z.cps.toList[j]? = some c) (q : Q (.str ⟨#[c]⟩) H) : rIxS (.str z) (.int i) H Q :=
  ⟨z, i, c, rfl, rfl, sz (by show z.cps.size ≤ _; omega), by rw [hi]; exact atI_nat e, q⟩
theorem str_add {z : Str} {c : Nat} : (z ++ (⟨#[c]⟩ : Str)).cps.toList = z.cps.toList ++ [c] := by
  show (z.cps ++ #[c]).toList = _
  simp
theorem empty_all : ∀ c ∈ (("" : Str)).cps.toList, 97 ≤ c ∧ c ≤ 122 := by
  have e : (("" : Str)).cps.toList = [] := by decide +kernel
  intro c hc
  rw [e] at hc
  cases hc
abbrev nm__law_name : List Str := ["script", "town", "names", "letters", "found", "k"]
abbrev pm__law_name : List Str := ["script", "town", "names"]
abbrev lv__law_name : Nat := 3
theorem sc__law_name : FnScope nm__law_name pm__law_name (defScope s__law_name) := ⟨rfl, rfl, rfl, by decide +kernel, rfl, by decide +kernel, by decide +kernel⟩
def sp__law_name (K : PySem.W.Frag) : Sp := fun vs H Q _ => ∃ (a t l : Addr) (ns : List Int) (c : Nat) (xs : List Str), vs = [.ref a, .ref t, .ref l] ∧ Tn K H a t ns c ∧ c < 900000000 ∧ H l = some (.lst (xs.map V.str)) ∧ l ≠ t ∧ 0 < xs.length ∧ xs.length ≤ 1000 ∧ (∀ x ∈ xs, isNm x) ∧
  ∀ (s : Str) (c' : Nat) (H' : Hp), isNm s → c' ≤ c + 8 → Tn K H' a t ns c' → But t H H' → Q (.str s) H'
def iv__law_name (K : PySem.W.Frag) (H1 : Hp) (a t l : Addr) (ns : List Int) (c : Nat) (i : Nat) (σ : L2.St) (H : Hp) : Prop :=
  ∃ (z : Str) (y : Option V), σ = [some (.ref a), some (.ref t), some (.ref l), some (.str letters), some (.str z), y] ∧ z.cps.toList.length = i ∧ (∀ c ∈ z.cps.toList, 97 ≤ c ∧ c ≤ 122) ∧ Tn K H a t ns (c + i) ∧ But t H1 H
theorem f__law_name (T : Txt K mg) : Fk P w K mg base CX0 lv__law_name "_law_name" pm__law_name (sp__law_name K) := by
  obtain ⟨f, fd, F, g, b⟩ := T.d__law_name.ex
  refine ⟨f, fd, g, F.kp, b, F.ok sc__law_name (fun vs H Q E h => ?_) (fun cdv A outer s H vs Q E hr h => ?_)⟩
  · obtain ⟨a, t, l, ns, c, xs, rfl, _⟩ := h; rfl
  · obtain ⟨a, t, l, ns, c, xs, rfl, hT, hc, hl, hlt, h0, h1, hnm, q⟩ := h
    refine ⟨_, (pss_cons (ps_if (pt_cmpR op_gt (pe_fn (f__law_draw T) (hr.mono (by decide)) (by rfl) pass0 (pa_cons (pv 0) (pa_cons (pv 1) (pa_cons pe_int pa_nil)))) pe_int (nomark _)) (pss_one (ps_ret (pe_fn (f__law_pick T) (hr.mono (by decide)) (by rfl) pass0 (pa_cons (pv 0) (pa_cons (pv 1) (pa_cons (pv 2) pa_nil)))))) pss_nil)
      (pss_cons (ps_set (i := 3) sc__law_name.nd rfl (.inl rfl) pe_str)
      (pss_cons (ps_set (i := 4) sc__law_name.nd rfl (.inl rfl) pe_str)
      (pss_cons (ps_for PassesOwn.never rfl (pi_range1 (by rfl) T.b_range (pa_cons (pe_op op_add pe_int (pe_fn (f__law_draw T) (hr.mono (by decide)) (by rfl) pass0 (pa_cons (pv 0) (pa_cons (pv 1) (pa_cons pe_int pa_nil))))) pa_nil)) (pg_name (i := 5) sc__law_name.nd rfl (Or.inl rfl)) (pss_one (ps_set (i := 4) sc__law_name.nd rfl (.inl rfl) (pe_op op_add_str (pv 4) (pe_ix ix_str (pv 3) (pe_fn (f__law_draw T) (hr.mono (by decide)) (by rfl) pass0 (pa_cons (pv 0) (pa_cons (pv 1) (pa_cons pe_int pa_nil)))) (fun _ _ => rfl))))))
      (pss_one (ps_ret (pv 4))))))), ?_⟩
    with_reducible refine seq_k fun K_ hK_ => ?_
    walk_at "ru"
    refine ⟨a, t, ns, c, 4, rfl, hT, by omega, by omega, by omega, fun d H1 d0 d1 T1 b1 => ?_⟩
    refine ⟨_, rfl, ite2 (fun c1 => ?_) (fun c1 => ?_)⟩
    · refine ⟨a, t, l, ns, c + 1, xs.map V.str, rfl, T1, by omega, b1 _ _ hl hlt, hlt, by simpa using h0, by simp; omega, fun v H2 hv T2 b2 => ?_⟩
      obtain ⟨x, hx, rfl⟩ := List.mem_map.mp hv
      exact q x (c + 2) H2 (hnm x hx) (by omega) T2 (b1.trans b2)
    · walk_at "ru"
      subst hK_
      first | with_reducible refine seq_k fun K_ hK_ => ?_ | skip
      walk_at "ru"
      walk_at "ru"
      subst hK_
      first | with_reducible refine seq_k fun K_ hK_ => ?_ | skip
      walk_at "ru"
      walk_at "ru"
      subst hK_
      first | with_reducible refine seq_k fun K_ hK_ => ?_ | skip
      walk_at "ru"
      refine ⟨a, t, ns, c + 1, 6, rfl, T1, by omega, by omega, by omega, fun e H2 e0 e1 T2 b2 => ?_⟩
      walk_at "ru"
      refine ⟨by omega, by omega, ?_⟩
      refine for_it walk_range (iv__law_name K H a t l ns (c + 2)) ⟨_, _, rfl, rfl, empty_all, T2, b1.trans b2⟩ (fun _ _ _ _ _ => trivial) (fun i x σ H3 H4 hi iv hy => ?_) (fun σ H3 iv => ?_)
      · obtain ⟨z, y, rfl, hz, hall, T3, b3⟩ := iv
        obtain ⟨rfl, rfl⟩ := hy
        walk_at "ru"
        refine ⟨a, t, ns, c + 2 + i, 26, rfl, T3, by omega, by omega, by omega, fun j H5 j0 j1 T5 b5 => ?_⟩
        have hj : letters.cps.toList[j.toNat]? = some (j.toNat + 97) := by
          have e : letters.cps.toList = (List.range 26).map (· + 97) := by decide +kernel
          rw [e, List.getElem?_map, List.getElem?_range (by omega)]
          rfl
        refine ixS (j := j.toNat) (by decide) (by omega) hj ?_
        walk_at "ru"
        have hzs : z.cps.size = i := by rw [← Array.length_toList]; exact hz
        refine ⟨sz (by show z.cps.size + 1 ≤ _; omega), _, _, rfl, by rw [str_add, List.length_append, hz]; rfl, fun c hc => ?_, T5, b3.trans b5⟩
        rw [str_add] at hc
        rcases List.mem_append.mp hc with hc | hc
        · exact hall c hc
        · rw [List.mem_singleton.mp hc]; omega
      · obtain ⟨z, y, rfl, hz, hall, T3, b3⟩ := iv
        walk_at "ru"
        subst hK_
        first | with_reducible refine seq_k fun K_ hK_ => ?_ | skip
        walk_at "ru"
        refine q z _ H3 ⟨by omega, by omega, hall⟩ ?_ T3 b3
        omega
abbrev nm__law_table : List Str := ["script", "town", "many", "names", "found", "k"]
abbrev pm__law_table : List Str := ["script", "town", "many"]
abbrev lv__law_table : Nat := 4
theorem sc__law_table : FnScope nm__law_table pm__law_table (defScope s__law_table) := ⟨rfl, rfl, rfl, by decide +kernel, rfl, by decide +kernel, by decide +kernel⟩
/-- a table that was made: d is new -/
def sp__law_table (K : PySem.W.Frag) : Sp := fun vs H Q _ => ∃ (a t : Addr) (ns : List Int) (c : Nat) (many : Int), vs = [.ref a, .ref t, .int many] ∧ Tn K H a t ns c ∧ c < 800000000 ∧ 0 ≤ many ∧ many ≤ 20 ∧
  ∀ (d : Addr) (tb : Tb) (c' : Nat) (H' : Hp), H d = none → d ≠ t → H' d = some (.dK (kvsT tb)) → OkT tb → (tb.length : Int) ≤ many → c' ≤ c + 300 → Tn K H' a t ns c' → But t H H' → Q (.ref d) H'
def iv__law_table (K : PySem.W.Frag) (H1 : Hp) (a t l d : Addr) (ns : List Int) (many : Int) (xs : List Str) (c : Nat) (i : Nat) (σ : L2.St) (H : Hp) : Prop :=
  (∃ (y : Option V), σ = [some (.ref a), some (.ref t), some (.int many), some (.ref l), some (.ref d), y]) ∧ ∃ (tb : Tb) (c' : Nat), H d = some (.dK (kvsT tb)) ∧ OkT tb ∧ tb.length ≤ i ∧ c' ≤ c + 10 * i ∧ Tn K H a t ns c' ∧ But t H1 H ∧ H l = some (.lst (xs.map V.str))
theorem OkT.len_put {tb : Tb} {n : Str} {i : Int} : (putT tb n i).length ≤ tb.length + 1 := by
  rw [put_len]; split <;> omega
theorem f__law_table (T : Txt K mg) : Fk P w K mg base CX0 lv__law_table "_law_table" pm__law_table (sp__law_table K) := by
  obtain ⟨f, fd, F, g, b⟩ := T.d__law_table.ex
  refine ⟨f, fd, g, F.kp, b, F.ok sc__law_table (fun vs H Q E h => ?_) (fun cdv A outer s H vs Q E hr h => ?_)⟩
  · obtain ⟨a, t, ns, c, many, rfl, _⟩ := h; rfl
  · obtain ⟨a, t, ns, c, many, rfl, hT, hc, m0, m1, q⟩ := h
    have hu := hu_of hr
    refine ⟨_, (pss_cons (ps_set (i := 3) sc__law_table.nd rfl (.inl rfl) (pe_lst (pa_cons pe_str (pa_cons pe_str (pa_cons pe_str (pa_cons pe_str (pa_cons pe_str (pa_cons pe_str (pa_cons pe_str (pa_cons pe_str (pa_cons pe_str (pa_cons pe_str pa_nil))))))))))))
      (pss_cons (ps_set (i := 4) sc__law_table.nd rfl (.inl rfl) pe_dnewK)
      (pss_cons (ps_for PassesOwn.never rfl (pi_range1 (by rfl) T.b_range (pa_cons (pe_fn (f__law_draw T) (hr.mono (by decide)) (by rfl) pass0 (pa_cons (pv 0) (pa_cons (pv 1) (pa_cons (pe_op op_add (pv 2) pe_int) pa_nil)))) pa_nil)) (pg_name (i := 5) sc__law_table.nd rfl (Or.inl rfl)) (pss_one (ps_dput hu (pv 4) (pe_fn (f__law_name T) (hr.mono (by decide)) (by rfl) pass0 (pa_cons (pv 0) (pa_cons (pv 1) (pa_cons (pv 3) pa_nil)))) (pe_fn (f__law_draw T) (hr.mono (by decide)) (by rfl) pass0 (pa_cons (pv 0) (pa_cons (pv 1) (pa_cons (pe_fn (f__law_pick T) (hr.mono (by decide)) (by rfl) pass0 (pa_cons (pv 0) (pa_cons (pv 1) (pa_cons (pe_lst (pa_cons pe_int (pa_cons pe_int pa_nil))) pa_nil)))) pa_nil)))) rfl)))
      (pss_one (ps_ret (pv 4)))))), ?_⟩
    with_reducible refine seq_k fun K_ hK_ => ?_
    walk_at "ru"
    intro l n_l
    generalize hG_ : upd _ l _ = H1
    obtain ⟨s1, hl⟩ := newF n_l hG_
    clear hG_
    have hlt : l ≠ t := hT.some_ n_l
    walk_at "ru"
    subst hK_
    first | with_reducible refine seq_k fun K_ hK_ => ?_ | skip
    walk_at "ru"
    intro d n_d
    generalize hG_ : upd _ d _ = H2
    obtain ⟨s2, hd⟩ := newF n_d hG_
    clear hG_
    have T2 := hT.same (s1.trans s2)
    have hdt : d ≠ t := (hT.same s1).some_ n_d
    have hl2 := s2 _ _ hl
    have hld : l ≠ d := ne_of_none hl n_d
    have nd : H d = none := s1.free n_d
    have xsN : ∀ x ∈ (["a", "b", "ab", "ba", "z", "zzzzzz", "c", "d", "e", "f"] : List Str), isNm x := by decide +kernel
    walk_at "ru"
    subst hK_
    first | with_reducible refine seq_k fun K_ hK_ => ?_ | skip
    walk_at "ru"
    refine ⟨a, t, ns, c, many + 1, rfl, T2, by omega, by omega, by omega, fun e H3 e0 e1 T3 b3 => ?_⟩
    walk_at "ru"
    have b03 : But t H H3 := Same.thenB (s1.trans s2) b3
    refine ⟨by omega, by omega, ?_⟩
    refine for_it walk_range (iv__law_table K H a t l d ns many ["a", "b", "ab", "ba", "z", "zzzzzz", "c", "d", "e", "f"] (c + 1)) ⟨⟨_, rfl⟩, [], c + 1, b3 _ _ hd hdt, .nil, by simp, by omega, T3, b03, b3 _ _ hl2 hlt⟩ (fun _ _ _ _ _ => trivial) (fun i x σ H4 H5 hi iv hy => ?_) (fun σ H4 iv => ?_)
    · obtain ⟨⟨y, rfl⟩, tb, c', hd4, ok, hlen, hc', T4, b4, hl4⟩ := iv
      obtain ⟨rfl, rfl⟩ := hy
      have hi' : i ≤ 20 := by omega
      walk_at "ru"
      refine pickI [2, 100] T4 (by omega) fun k hk H6 T6 b6 => ?_
      have hk2 : 0 < k ∧ k ≤ 100 := by
        simp only [List.mem_cons, List.not_mem_nil, or_false] at hk
        omega
      refine ⟨a, t, ns, c' + 1, k, rfl, T6, by omega, by omega, by omega, fun j H7 j0 j1 T7 b7 => ?_⟩
      walk_at "ru"
      have b47 := b6.trans b7
      refine ⟨a, t, l, ns, c' + 2, _, rfl, T7, by omega, b47 _ _ hl4 hlt, hlt, by decide, by decide, xsN, fun nm c2 H8 hn hc2 T8 b8 => ?_⟩
      have b48 := b47.trans b8
      have hd8 := b48 _ _ hd4 hdt
      refine ⟨_, DPut.k (k := Sum.inr nm) hd8 (szl (by rw [kvsT_len]; omega)), ?_⟩
      have hp := OkT.len_put (tb := tb) (n := nm) (i := j)
      refine ⟨⟨_, rfl⟩, putT tb nm j, c2, by rw [upd_same, kvsT_put], ok.put hn (by omega) (by omega), by omega, by omega, T8.app hT nd hdt, (b4.trans b48).app nd, ?_⟩
      rw [upd_ne hld]
      exact b48 _ _ hl4 hlt
    · obtain ⟨⟨y, rfl⟩, tb, c', hd4, ok, hlen, hc', T4, b4, hl4⟩ := iv
      walk_at "ru"
      subst hK_
      first | with_reducible refine seq_k fun K_ hK_ => ?_ | skip
      walk_at "ru"
      exact q d tb c' H4 nd hdt hd4 ok (by omega) (by omega) T4 b4
abbrev nm__law_later : List Str := ["script", "town", "table", "found", "k", "name", "way", "one"]
abbrev pm__law_later : List Str := ["script", "town", "table"]
abbrev lv__law_later : Nat := 4
theorem sc__law_later : FnScope nm__law_later pm__law_later (defScope s__law_later) := ⟨rfl, rfl, rfl, by decide +kernel, rfl, by decide +kernel, by decide +kernel⟩
def sp__law_later (K : PySem.W.Frag) : Sp := fun vs H Q _ => ∃ (a t e : Addr) (ns : List Int) (c : Nat) (u : Tb), vs = [.ref a, .ref t, .ref e] ∧ Tn K H a t ns c ∧ c < 800000000 ∧ H e = some (.dK (kvsT u)) ∧ OkT u ∧ u.length ≤ 20 ∧
  ∀ (d : Addr) (tb : Tb) (c' : Nat) (H' : Hp), H d = none → d ≠ t → H' d = some (.dK (kvsT tb)) → OkT tb → tb.length ≤ 20 → c' ≤ c + 50 → Tn K H' a t ns c' → But t H H' → Q (.ref d) H'
def iv__law_later (K : PySem.W.Frag) (H1 : Hp) (a t e : Addr) (ns : List Int) (c : Nat) (i : Nat) (σ : L2.St) (H : Hp) : Prop :=
  ∃ (d : Addr) (y z x : Option V) (tb : Tb) (c' : Nat), σ = [some (.ref a), some (.ref t), some (.ref e), some (.ref d), y, z, x, none] ∧ H1 d = none ∧ d ≠ t ∧ H d = some (.dK (kvsT tb)) ∧ OkT tb ∧ tb.length ≤ 20 ∧ c' ≤ c + 12 * i ∧ Tn K H a t ns c' ∧ But t H1 H
/-- tuples of names and numbers -/
def RefsAt (H : Hp) : List Addr → Tb → Prop
  | [], [] => True
  | q :: qs, p :: ps => H q = some (.tup [.str p.1, .int p.2]) ∧ RefsAt H qs ps
  | _, _ => False
theorem RefsAt.tups {H H' : Hp} (h : ∀ b xs, H b = some (.tup xs) → H' b = some (.tup xs)) : ∀ {xs : List Addr} {ps : Tb}, RefsAt H xs ps → RefsAt H' xs ps
  | [], [], _ => trivial
  | q :: xs, p :: ps, ⟨hq, r⟩ => ⟨h _ _ hq, RefsAt.tups h r⟩
theorem RefsAt.same {H H' : Hp} (s : Same H H') {xs : List Addr} {ps : Tb} (h : RefsAt H xs ps) : RefsAt H' xs ps := h.tups fun b ys e => s _ _ e
theorem RefsAt.len {H : Hp} : ∀ {xs : List Addr} {ps : Tb}, RefsAt H xs ps → xs.length = ps.length
  | [], [], _ => rfl
  | x :: xs, p :: ps, ⟨_, r⟩ => by simp [RefsAt.len r]
theorem RefsAt.app {H : Hp} : ∀ {xs ys : List Addr} {ps qs : Tb}, RefsAt H xs ps → RefsAt H ys qs → RefsAt H (xs ++ ys) (ps ++ qs)
  | [], _, [], _, _, h => h
  | x :: xs, _, p :: ps, _, ⟨a, r⟩, h => ⟨a, RefsAt.app r h⟩
theorem RefsAt.paired {H : Hp} : ∀ {xs : List Addr} {ps : Tb}, RefsAt H xs ps → Paired (fun p kv => SqT K H p [kV kv.1, kv.2]) xs (kvsT ps)
  | [], [], _ => .nil
  | x :: xs, p :: ps, ⟨h, r⟩ => .cons (sqT h) (RefsAt.paired r)
def iv_later2 (H1 : Hp) (D : Addr) (tb : Tb) (nm : Str) (i : Nat) (H : Hp) : Prop := Same H1 H ∧ ∃ ps, H D = some (.lst (ps.map V.ref)) ∧ RefsAt H ps ((tb.take i).filter fun p => decide (p.1 ≠ nm))
theorem mergeK_nd : ∀ {ks ls : List (Key × V)}, ((ls ++ ks).map (·.1)).Nodup → mergeK ls ks = ls ++ ks
  | [], ls, _ => by simp [mergeK]
  | p :: ks, ls, h => by
    have h1 : valV ls p.1 = none := by
      cases e : valV ls p.1 with
      | none => rfl
      | some v =>
        exfalso
        have hm := valV_in e
        rw [List.map_append, List.nodup_append] at h
        exact h.2.2 _ hm p.1 (by simp) rfl
    show mergeK (putK ls p.1 p.2) ks = _
    rw [putK_new _ h1, mergeK_nd (by simpa using h)]
    simp
theorem f__law_later (T : Txt K mg) : Fk P w K mg base CX0 lv__law_later "_law_later" pm__law_later (sp__law_later K) := by
  obtain ⟨f, fd, F, g, b⟩ := T.d__law_later.ex
  refine ⟨f, fd, g, F.kp, b, F.ok sc__law_later (fun vs H Q E h => ?_) (fun cdv A outer s H vs Q E hr h => ?_)⟩
  · obtain ⟨a, t, e, ns, c, u, rfl, _⟩ := h; rfl
  · obtain ⟨a, t, e, ns, c, u, rfl, hT, hc, he, oku, lu, q⟩ := h
    have hu := hu_of hr
    refine ⟨_, (pss_cons (ps_set (i := 3) sc__law_later.nd rfl (.inr rfl) (pe_callTy call_dictD (by rfl) T.b_dict (by decide +kernel) (pa_cons (pv 2) pa_nil)))
      (pss_cons (ps_for PassesOwn.never rfl (pi_range1 (by rfl) T.b_range (pa_cons (pe_fn (f__law_draw T) (hr.mono (by decide)) (by rfl) pass0 (pa_cons (pv 0) (pa_cons (pv 1) (pa_cons pe_int pa_nil)))) pa_nil)) (pg_name (i := 4) sc__law_later.nd rfl (Or.inl rfl)) (pss_cons (ps_set (i := 5) sc__law_later.nd rfl (.inr rfl) (pe_fn (f__law_name T) (hr.mono (by decide)) (by rfl) pass0 (pa_cons (pv 0) (pa_cons (pv 1) (pa_cons (pe_op op_cat (pe_callTy call_list_of (by rfl) T.b_list (by decide +kernel) (pa_cons (pe_callB (cr_sortedKS rfl) (by rfl) T.b_sorted (by decide +kernel) (pa_cons (pe_bm0 PySem.F.plainAttrs_dict PySem.F.slot_dict_keys PySem.F.type_dict_keys mt_keys (pv 3)) pa_nil)) pa_nil)) (pe_lst (pa_cons pe_str (pa_cons pe_str (pa_cons pe_str (pa_cons pe_str pa_nil)))))) pa_nil)))))
      (pss_cons (ps_set (i := 6) sc__law_later.nd rfl (.inl rfl) (pe_fn (f__law_draw T) (hr.mono (by decide)) (by rfl) pass0 (pa_cons (pv 0) (pa_cons (pv 1) (pa_cons pe_int pa_nil)))))
      (pss_one (ps_if (PW.pt (pw_and (pt_cmpR op_eq (pv 6) pe_int (nomark _)) (pw_and1 (pt_cmp (pc_din hu (pv 5) (pv 3)))))) (pss_one (ps_set (i := 3) sc__law_later.nd rfl (.inr rfl) (pe_callTy (call_dictP rfl) (by rfl) T.b_dict (by decide +kernel) (pa_cons (pe_lock (pe_lc (own := [("one", 7)]) (g := gName 7) (by rfl) sc__law_later.nd (pi_keys (pv 3)) (blkOk_by (own := [("one", 7)]) (N := nm__law_later) (sc := defScope s__law_later) (by decide +kernel)) (fun _ _ _ _ _ => (pg_name (i := 7) sc__law_later.nd rfl (Or.inl rfl))) (fun _ _ _ _ _ => (pts_one (pt_cmpR op_ne (pv 7) (pv 5) (nomark _)))) (fun _ _ _ _ _ => (pe_tup (pa_cons (pv 7) (pa_cons (pe_dget hu (pv 3) (pv 7) (fun _ _ => rfl)) pa_nil)))))) pa_nil)))) (pss_one (ps_if (PW.pt (pw_and (pt_cmpR op_gt (pv 6) pe_int (nomark _)) (pw_and1 (PW.pt (pw_or (pt_cmpR op_lt (pe_callB call_lenD (by rfl) T.b_len PySem.boot_len (pa_cons (pv 3) pa_nil)) pe_int (nomark _)) (pw_or1 (pt_cmp (pc_din hu (pv 5) (pv 3))))))))) (pss_one (ps_dput hu (pv 3) (pv 5) (pe_fn (f__law_draw T) (hr.mono (by decide)) (by rfl) pass0 (pa_cons (pv 0) (pa_cons (pv 1) (pa_cons (pe_fn (f__law_pick T) (hr.mono (by decide)) (by rfl) pass0 (pa_cons (pv 0) (pa_cons (pv 1) (pa_cons (pe_lst (pa_cons pe_int (pa_cons pe_int pa_nil))) pa_nil)))) pa_nil)))) rfl)) pss_nil)))))))
      (pss_one (ps_ret (pv 3))))), ?_⟩
    with_reducible refine seq_k fun K_ hK_ => ?_
    walk_at "ru"
    refine ⟨_, .inl he, ?_⟩
    intro d n_d
    generalize hG_ : upd _ d _ = H1
    obtain ⟨s1, hd⟩ := newF n_d hG_
    clear hG_
    have hdt : d ≠ t := hT.some_ n_d
    walk_at "ru"
    subst hK_
    first | with_reducible refine seq_k fun K_ hK_ => ?_ | skip
    walk_at "ru"
    refine ⟨a, t, ns, c, 4, rfl, hT.same s1, by omega, by omega, by omega, fun m H2 m0 m1 T2 b2 => ?_⟩
    walk_at "ru"
    refine ⟨by omega, by omega, ?_⟩
    refine for_it walk_range (iv__law_later K H a t e ns (c + 1)) ⟨d, _, _, _, u, c + 1, rfl, n_d, hdt, b2 _ _ hd hdt, oku, lu, by omega, T2, Same.thenB s1 b2⟩ (fun _ _ _ _ _ => trivial) (fun i x σ H3 H4 hi iv hy => ?_) (fun σ H3 iv => ?_)
    · obtain ⟨d, y, z, x, tb, c', rfl, nd, hdt, hd3, ok, hlen, hc', T3, b3⟩ := iv
      obtain ⟨rfl, rfl⟩ := hy
      have hi' : i < 4 := by omega
      walk_at "ru"
      with_reducible refine seq_k fun K_ hK_ => ?_
      walk_at "ru"
      refine ⟨tyD hd3, d, _, rfl, rfl, hd3, fun v hv => ?_⟩
      generalize hG : upd H4 v (KeysO v d) = H5
      obtain ⟨s5, hv5⟩ := newF hv hG
      clear hG
      refine ⟨v, d, _, nms tb, rfl, hv5, s5 _ _ hd3, kvsT_keys, ok.nd, fun ys l h3 h4 hl => ?_⟩
      generalize hG : upd H5 l _ = H6
      obtain ⟨s6, hl6⟩ := newF hl hG
      clear hG
      walk_at "ru"
      refine ⟨_, .inl (sqL hl6), ?_⟩
      intro l2 n_l2
      generalize hG_ : upd _ l2 _ = H7
      obtain ⟨s7, hl7⟩ := newF n_l2 hG_
      clear hG_
      intro l3 n_l3
      generalize hG_ : upd _ l3 _ = H8
      obtain ⟨s8, hl8⟩ := newF n_l3 hG_
      clear hG_
      have hl28 := s8 _ _ hl7
      have yl : ys.length ≤ 20 := Nat.le_trans (nodup_le (pw_nodup h3) (m := nms tb) fun x hx => (h4 x).mp hx) (by simpa [nms] using hlen)
      refine ⟨l2, l3, _, _, rfl, rfl, hl28, hl8, sz (by simp; omega), ?_⟩
      intro l4 n_l4
      generalize hG_ : upd _ l4 _ = H9
      obtain ⟨s9, hl9⟩ := newF n_l4 hG_
      clear hG_
      have s49 := ((((s5.trans s6).trans s7).trans s8).trans s9)
      have T9 := T3.same s49
      have hd9 := s49 _ _ hd3
      have e4 : ys.map V.str ++ [V.str (Str.ofString "a"), V.str (Str.ofString "b"), V.str (Str.ofString "ab"), V.str (Str.ofString "q")] = (ys ++ (["a", "b", "ab", "q"] : List Str)).map V.str := by rw [List.map_append]; rfl
      rw [e4] at hl9
      have yn : ∀ x ∈ ys ++ (["a", "b", "ab", "q"] : List Str), isNm x := fun x hx => by
        rcases List.mem_append.mp hx with hx | hx
        · obtain ⟨pr, hp, rfl⟩ := List.mem_map.mp ((h4 x).mp hx)
          exact ok.nm _ hp
        · have : ∀ x ∈ (["a", "b", "ab", "q"] : List Str), isNm x := by decide +kernel
          exact this x hx
      refine ⟨a, t, l4, ns, c', _, rfl, T9, by omega, hl9, (T3.same (((s5.trans s6).trans s7).trans s8)).some_ n_l4, by simp, by simp; omega, yn, fun nm c2 H10 hn hc2 T10 b10 => ?_⟩
      have b410 := Same.thenB s49 b10
      have hd10 := b410 _ _ hd3 hdt
      have b310 := b3.trans b410
      walk_at "ru"
      subst hK_
      first | with_reducible refine seq_k fun K_ hK_ => ?_ | skip
      walk_at "ru"
      refine ⟨a, t, ns, c2, 4, rfl, T10, by omega, by omega, by omega, fun way H11 w0 w1 T11 b11 => ?_⟩
      have hd11 := b11 _ _ hd10 hdt
      have b311 := b310.trans b11
      walk_at "ru"
      subst hK_
      first | with_reducible refine seq_k fun K_ hK_ => ?_ | skip
      walk_at "ru"
      have hdget : DGet H11 d (.str nm) (valV (kvsT tb) (Sum.inr nm)) := DGet.k (k := Sum.inr nm) hd11
      have done : iv__law_later K H a t e ns (c + 1) (i + 1) [some (V.ref a), some (V.ref t), some (V.ref e), some (V.ref d), some (V.int (0 + ↑i)), some (V.str nm), some (V.int way), none] H11 :=
        ⟨d, _, _, _, tb, c2 + 1, rfl, nd, hdt, hd11, ok, hlen, by omega, T11, b311⟩
      by_cases w : way = 0
      · rw [if_pos w]
        refine ⟨_, hdget, ?_⟩
        rw [kvsT_val]
        cases eL : lk tb nm with
        | none =>
          rw [if_neg (by simp), if_neg (by omega)]
          exact done
        | some j =>
          rw [if_pos (by simp)]
          refine ⟨d, _, hd11, trivial, fun od => ?_⟩
          generalize hG : upd H11 d (.frz od (.dK (kvsT tb))) = H12
          have hd12 : H12 d = some (.frz od (.dK (kvsT tb))) := by rw [← hG]; exact upd_same
          have un := fun {H2 : Hp} (s : Same H12 H2) => unlock hd11 hG s
          walk_at "ru"
          refine ⟨od, .inl ⟨_, hd12, fun D hD => ?_⟩⟩
          refine lc_it walk_keys (iv_later2 H12 D tb nm) ⟨same_upd hD, [], upd_same, by simp [RefsAt]⟩ (fun _ _ _ p => p.1 _ _ hd12) (fun i x H2 H3 hi p hy => ?_) (fun H2 p => ?_)
          · obtain ⟨s2, ps, hD2, hP2⟩ := p
            obtain ⟨rfl, k, v, hk, rfl⟩ := hy
            unfold kvsT at hk
            rw [List.getElem?_map] at hk
            cases ek : tb[i]? with
            | none => rw [ek] at hk; cases hk
            | some pr =>
              rw [ek] at hk
              cases hk
              have hm := mem_of_get ek
              have hft := filter_take_next (fun p : Str × Int => decide (p.1 ≠ nm)) ek
              have hpl := hP2.len
              have hfl := filter_len tb (fun p : Str × Int => decide (p.1 ≠ nm)) i
              walk_at "ru"
              by_cases cN : pr.1 = nm
              · rw [if_neg (by simp [cN])]
                rw [if_neg (by simp [cN]), List.append_nil] at hft
                exact ⟨s2, ps, hD2, by rw [hft]; exact hP2⟩
              · rw [if_pos (by simp [cN])]
                rw [if_pos (by simp [cN])] at hft
                have hval : valV (kvsT tb) (Sum.inr pr.1) = some (.int pr.2) := by rw [kvsT_val, lk_of ok.nd hm]; rfl
                refine ⟨_, .inl ⟨_, Sum.inr pr.1, .inr ⟨od, s2 _ _ hd12⟩, rfl, hval.symm⟩, ?_⟩
                intro q1 n_q1
                generalize hG_ : upd _ q1 _ = H5
                obtain ⟨s5, hq1⟩ := newF n_q1 hG_
                clear hG_
                refine ⟨_, s5 _ _ hD2, szl (by rw [List.length_map]; omega), Same.app (s2.trans s5) hD, ps ++ [q1], by rw [upd_same, List.map_append]; rfl, ?_⟩
                have kp : ∀ z zs o, H5 z = some (.tup zs) → (upd H5 D (.lst o)) z = some (.tup zs) := fun z zs o e => by rw [upd_ne (ne_of e (s5 _ _ hD2) (by intro z; cases z))]; exact e
                rw [hft]
                exact ((hP2.same s5).tups (fun b xs e => kp b xs _ e)).app ⟨kp _ _ _ hq1, trivial⟩
          · obtain ⟨s2, ps, hD2, hP2⟩ := p
            rw [kvsT_len, List.take_length] at hP2
            obtain ⟨hl2, s11⟩ := un s2
            have hDd : D ≠ d := (ne_of_none hd12 hD).symm
            have hD3 : (upd H2 d (.dK (kvsT tb))) D = some (.lst (ps.map V.ref)) := by rw [upd_ne hDd]; exact hD2
            have hP3 : RefsAt (upd H2 d (.dK (kvsT tb))) ps (dropT tb nm) := hP2.tups fun b xs e => by rw [upd_ne (ne_of e hl2 (by intro z; cases z))]; exact e
            refine ⟨hl2, ps, sqL hD3, kvsT (dropT tb nm), hP3.paired, fun p2 hp2 => ?_⟩
            have ndk : ((([] : List (Key × V)) ++ kvsT (dropT tb nm)).map (·.1)).Nodup := by
              rw [List.nil_append, kvsT_keys]
              exact List.Pairwise.map _ (fun a b h e => h (Sum.inr.inj e)) ok.drop.nd
            rw [mergeK_nd ndk, List.nil_append]
            have nH : H p2 = none := b311.free (s11.free hp2) ((T11.same s11).some_ hp2)
            refine ⟨p2, _, _, _, dropT tb nm, c2 + 1, rfl, nH, (T11.same s11).some_ hp2, upd_same, ok.drop, Nat.le_trans (List.length_filter_le _ _) hlen, by omega, (T11.same s11).same (same_upd hp2), (b311.thenS s11).thenS (same_upd hp2)⟩
      · rw [if_neg w, if_pos (by omega)]
        refine ⟨_, hd11, ?_⟩
        rw [kvsT_len]
        by_cases c20 : tb.length < 20
        · rw [if_pos (by omega)]
          refine pickI [2, 100] T11 (by omega) fun k hk H12 T12 b12 => ?_
          have hk2 : 0 < k ∧ k ≤ 100 := by
            simp only [List.mem_cons, List.not_mem_nil, or_false] at hk
            omega
          refine ⟨a, t, ns, c2 + 2, k, rfl, T12, by omega, by omega, by omega, fun m H13 m0 m1 T13 b13 => ?_⟩
          have hd13 := (b12.trans b13) _ _ hd11 hdt
          walk_at "ru"
          refine ⟨_, DPut.k (k := Sum.inr nm) hd13 (szl (by rw [kvsT_len]; omega)), ?_⟩
          have hpl : (putT tb nm m).length ≤ 20 := by
            rw [put_len]
            split <;> omega
          exact ⟨d, _, _, _, putT tb nm m, c2 + 3, rfl, nd, hdt, by rw [upd_same, kvsT_put], ok.put hn (by omega) (by omega), hpl, by omega, T13.app hT nd hdt, (b311.trans (b12.trans b13)).app nd⟩
        · rw [if_neg (by omega)]
          refine ⟨_, hdget, ?_⟩
          rw [kvsT_val]
          cases eL : lk tb nm with
          | none =>
            rw [if_neg (by simp)]
            exact done
          | some j =>
            rw [if_pos (by simp)]
            refine pickI [2, 100] T11 (by omega) fun k hk H12 T12 b12 => ?_
            have hk2 : 0 < k ∧ k ≤ 100 := by
              simp only [List.mem_cons, List.not_mem_nil, or_false] at hk
              omega
            refine ⟨a, t, ns, c2 + 2, k, rfl, T12, by omega, by omega, by omega, fun m H13 m0 m1 T13 b13 => ?_⟩
            have hd13 := (b12.trans b13) _ _ hd11 hdt
            walk_at "ru"
            refine ⟨_, DPut.k (k := Sum.inr nm) hd13 (szl (by rw [kvsT_len]; omega)), ?_⟩
            have hpl : (putT tb nm m).length ≤ 20 := by
              rw [put_len]
              rw [if_pos (mem_nms.mpr ⟨j, eL⟩)]; exact hlen
            exact ⟨d, _, _, _, putT tb nm m, c2 + 3, rfl, nd, hdt, by rw [upd_same, kvsT_put], ok.put hn (by omega) (by omega), hpl, by omega, T13.app hT nd hdt, (b311.trans (b12.trans b13)).app nd⟩
    · obtain ⟨d, y, z, x, tb, c', rfl, nd, hdt, hd3, ok, hlen, hc', T3, b3⟩ := iv
      walk_at "ru"
      subst hK_
      first | with_reducible refine seq_k fun K_ hK_ => ?_ | skip
      walk_at "ru"
      exact q d tb c' H3 nd hdt hd3 ok hlen (by omega) T3 b3
abbrev nm__law_unlike : List Str := ["one", "other", "names", "name"]
abbrev pm__law_unlike : List Str := ["one", "other"]
abbrev lv__law_unlike : Nat := 1
theorem sc__law_unlike : FnScope nm__law_unlike pm__law_unlike (defScope s__law_unlike) := ⟨rfl, rfl, rfl, by decide +kernel, rfl, by decide +kernel, by decide +kernel⟩
def sp__law_unlike : Sp := fun vs H Q _ => ∃ (p q : Addr) (t u : Tb), vs = [.ref p, .ref q] ∧ H p = some (.dK (kvsT t)) ∧ H q = some (.dK (kvsT u)) ∧ OkT t ∧ OkT u ∧ t.length ≤ 20 ∧ u.length ≤ 20 ∧ ∀ l H', Same H H' → H l = none → PartAt H' l (part t u) → Q (.ref l) H'
/-- list(d.keys()) of a table -/
theorem keys_list {H : Hp} {d : Addr} {t : Tb} {Q : VK} (hd : H d = some (.dK (kvsT t))) (q : ∀ l H', Same H H' → H l = none → H' l = some (.lst ((nms t).map V.str)) → Q (.ref l) H') : tyV K "dict" (.ref d) H ∧ rKeys (.ref d) [] H fun x H1 => rListKeys [x] H1 Q := by
  refine ⟨tyD hd, d, _, rfl, rfl, hd, fun v hv => ?_⟩
  generalize hG : upd H v (KeysO v d) = H1
  obtain ⟨s1, hv1⟩ := newF hv hG
  refine ⟨v, d, _, rfl, hv1, s1 _ _ hd, fun p hp => ?_⟩
  rw [kvsT_keysV]
  exact q p _ (s1.trans (same_upd hp)) (s1.free hp) upd_same
theorem isD_T {H : Hp} {d : Addr} {kvs : List (Key × V)} (h : H d = some (.dK kvs)) : IsD H d := .inl ⟨_, .inl h⟩
theorem getD_T {t : Tb} {n : Str} : ((lk t n).map V.int).getD V.non = numV (lk t n) := by cases lk t n <;> rfl
theorem get_of {H : Hp} {d : Addr} {t : Tb} {n : Str} {Q : VK} (hd : H d = some (.dK (kvsT t))) (q : Q (numV (lk t n)) H) : IsD H d ∧ ∃ o, DGet H d (.str n) o ∧ Q (o.getD .non) H := by
  refine ⟨.inl ⟨_, .inl hd⟩, _, DGet.k (k := Sum.inr n) hd, ?_⟩
  rw [kvsT_val]
  have e0 : ((lk t n).map V.int).getD V.non = numV (lk t n) := by cases lk t n <;> rfl
  rw [e0]
  exact q
theorem f__law_unlike (T : Txt K mg) : Fk P w K mg base CX0 lv__law_unlike "_law_unlike" pm__law_unlike sp__law_unlike := by
  obtain ⟨f, fd, F, g, b⟩ := T.d__law_unlike.ex
  refine ⟨f, fd, g, F.kp, b, F.ok sc__law_unlike (fun vs H Q E h => ?_) (fun cdv A outer s H vs Q E hr h => ?_)⟩
  · obtain ⟨p, q, t, u, rfl, _⟩ := h; rfl
  · obtain ⟨p, q, t, u, rfl, hS, hU, okt, oku, lS, lU, q0⟩ := h
    have hu := hu_of hr
    refine ⟨_, (pss_cons (ps_set (i := 2) sc__law_unlike.nd rfl (.inl rfl) (pe_callB (cr_sortedSS rfl) (by rfl) T.b_sorted (by decide +kernel) (pa_cons (pe_callTy (cr_setLS rfl) (by rfl) T.b_set (by decide +kernel) (pa_cons (pe_op op_cat (pe_callTy (call_listKeys rfl) (by rfl) T.b_list (by decide +kernel) (pa_cons (pe_bm0 PySem.F.plainAttrs_dict PySem.F.slot_dict_keys PySem.F.type_dict_keys mt_keys (pv 0)) pa_nil)) (pe_callTy (call_listKeys rfl) (by rfl) T.b_list (by decide +kernel) (pa_cons (pe_bm0 PySem.F.plainAttrs_dict PySem.F.slot_dict_keys PySem.F.type_dict_keys mt_keys (pv 1)) pa_nil))) pa_nil)) pa_nil)))
      (pss_one (ps_ret (pe_lc (own := [("name", 3)]) (g := gName 3) (by rfl) sc__law_unlike.nd (pi_list (pv 2)) (blkOk_by (own := [("name", 3)]) (N := nm__law_unlike) (sc := defScope s__law_unlike) (by decide +kernel)) (fun _ _ _ _ _ => (pg_name (i := 3) sc__law_unlike.nd rfl (Or.inl rfl))) (fun _ _ _ _ _ => (pts_one (pt_cmpR op_ne (pe_dget1 hu (pv 0) (pv 3) ⟨rfl, rfl, rfl, rfl⟩) (pe_dget1 hu (pv 1) (pv 3) ⟨rfl, rfl, rfl, rfl⟩) (nomark _)))) (fun _ _ _ _ _ => (pe_tup (pa_cons (pv 3) (pa_cons (pe_dget1 hu (pv 1) (pv 3) ⟨rfl, rfl, rfl, rfl⟩) pa_nil)))))))), ?_⟩
    have l1 : (nms t).length ≤ 20 := by simpa [nms] using lS
    have l2 : (nms u).length ≤ 20 := by simpa [nms] using lU
    with_reducible refine seq_k fun K_ hK_ => ?_
    walk_at "ru"
    refine keys_list hS fun a1 H1 s1 n1 hA1 => ?_
    refine keys_list (s1 _ _ hU) fun a2 H2 s2 n2 hA2 => ?_
    refine ⟨a1, a2, _, _, rfl, rfl, s2 _ _ hA1, hA2, sz (by simp; omega), ?_⟩
    intro a3 n_a3
    generalize hG_ : upd _ a3 _ = H3
    obtain ⟨s3, hA3⟩ := newF n_a3 hG_
    clear hG_
    rw [← List.map_append] at hA3
    refine ⟨a3, _, rfl, sqL hA3, by simp; omega, fun a4 c n4 hc => ?_⟩
    generalize hG : upd H3 a4 _ = H4
    obtain ⟨s4, hA4⟩ := newF n4 hG
    clear hG
    have hc2 : c ≤ 40 := by
      rw [List.length_append] at hc
      omega
    refine ⟨a4, _, c, rfl, hA4, by omega, fun ns a5 g1 g2 n5 => ?_⟩
    have e5 : ns = srt (nms t ++ nms u) := srt_uniq g1 pw_srt fun k => by rw [g2, decide_eq_true_eq, mem_srt]
    subst e5
    generalize hG : upd H4 a5 _ = H5
    obtain ⟨s5, hA5⟩ := newF n5 hG
    clear hG
    have sA := ((((s1.trans s2).trans s3).trans s4).trans s5)
    have hN : (srt (nms t ++ nms u)).length ≤ 40 := Nat.le_trans (nodup_le (pw_nodup pw_srt) (m := nms t ++ nms u) fun x hx => mem_srt.mp hx) (by simp; omega)
    walk_at "ru"
    subst hK_
    first | with_reducible refine seq_k fun K_ hK_ => ?_ | skip
    walk_at "ru"
    refine ⟨⟨_, sqL hA5⟩, fun D hD => ?_⟩
    refine lc_list (K := K) (a := a5) (xs := (srt (nms t ++ nms u)).map V.str) (iv_part_of H5 D t u) ⟨same_upd hD, [], upd_same, by simp [PairsAt]⟩ (fun i H2 _ p => sqL (p.1 _ _ hA5)) (fun i x H6 hx p => ?_) fun H6 p => ?_
    · obtain ⟨s6, ys, hD6, hP6⟩ := p
      rw [List.getElem?_map] at hx
      cases ex : (srt (nms t ++ nms u))[i]? with
      | none => rw [ex] at hx; cases hx
      | some n =>
        rw [ex] at hx
        cases hx
        have hi := lt_of_get ex
        have hlY := hP6.len
        rw [List.length_map] at hlY
        have hlF := filter_len (srt (nms t ++ nms u)) (fun n => decide (lk t n ≠ lk u n)) i
        have hS6 := (sA.trans s6) _ _ hS
        have hU6 := (sA.trans s6) _ _ hU
        walk_at "ru"
        refine ⟨isD_T hS6, _, DGet.k (k := Sum.inr n) hS6, isD_T hU6, _, DGet.k (k := Sum.inr n) hU6, ?_⟩
        rw [kvsT_val, kvsT_val, getD_T, getD_T]
        refine ⟨scal_num _ _, ?_⟩
        have hft := filter_take_next (fun n => decide (lk t n ≠ lk u n)) ex
        by_cases c : lk t n = lk u n
        · rw [if_neg (by simp [numV_inj, c])]
          rw [if_neg (by simp [c]), List.append_nil] at hft
          exact ⟨s6, ys, hD6, by rw [hft]; exact hP6⟩
        · rw [if_pos (by simp [numV_inj, c])]
          rw [if_pos (by simp [c])] at hft
          walk_at "ru"
          refine ⟨isD_T hU6, _, DGet.k (k := Sum.inr n) hU6, ?_⟩
          rw [kvsT_val, getD_T]
          intro a9 n_a9
          generalize hG_ : upd _ a9 _ = HA
          obtain ⟨sB, hA9⟩ := newF n_a9 hG_
          clear hG_
          refine ⟨ys, sB _ _ hD6, szl (by omega), Same.app (s6.trans sB) hD, ys ++ [.ref a9], upd_same, ?_⟩
          rw [hft, List.map_append]
          have kp : ∀ z zs, HA z = some (.tup zs) → (upd HA D (.lst (ys ++ [.ref a9]))) z = some (.tup zs) := fun z zs e => by rw [upd_ne (ne_of e (sB _ _ hD6) (by intro z; cases z))]; exact e
          exact (hP6.same sB |>.tups kp).app (PairsAt.one (p := (n, lk u n)) (kp _ _ hA9))
    · obtain ⟨s6, ys, hD6, hP6⟩ := p
      rw [List.length_map, List.take_length] at hP6
      exact q0 D H6 (sA.trans s6) (sA.free hD) ⟨ys, hD6, hP6⟩
theorem ne_same {H : Hp} {p q : Addr} {t u : Tb} {Q : VK} {E : XK} (hS : StAt mg H p t) (hU : StAt mg H q u) (h : ∀ n, lk t n = lk u n) (k : Q (.bl false) H) : rEqO (cls mg "State") (sp_State____eq__ mg) E true (.ref p) (.ref q) H Q := by
  obtain ⟨dx, d, h1, h2⟩ := hS.ex
  obtain ⟨dy, e, h3, h4⟩ := hU.ex
  refine ⟨p, q, dx, dy, _, _, rfl, rfl, h1, h3, p, q, t, u, rfl, hS, hU, _, rfl, ?_⟩
  rw [eq_T' hS.ok hU.ok h]
  exact k
theorem GoodP.nil : GoodP [] := ⟨.nil, (fun _ h => nomatch h), (fun _ h => nomatch h), by simp⟩
theorem dicts_but {H H' : Hp} {t d : Addr} {l : List V} {kvs : List (Key × V)} (b : But t H H') (ht : H t = some (.lst l)) (h : H d = some (.dK kvs)) : H' d = some (.dK kvs) := b _ _ h (ne_of h ht (by intro z; cases z))
end
end Nk
namespace Nk
open PySem L2
section
variable {P : Program} {w : World} {K : PySem.W.Frag} {mg : Str → Option Value} {base : Heap}
/-- the town's list is no part, nor a list of things by reference -/
theorem ne_town {H : Hp} {a t l : Addr} {ns : List Int} {c : Nat} {xs : List V} (T : Tn K H a t ns c) (hl : H l = some (.lst xs)) (hx : ∀ i : Int, xs.head? ≠ some (.int i)) : l ≠ t := by
  obtain ⟨ls, _, ht⟩ := T.town
  intro e
  subst e
  rw [hl] at ht
  have := HO.lst.inj (Option.some.inj ht)
  subst this
  exact hx _ rfl
theorem PairsAt.head {H : Hp} {xs : List V} {ps : Pt} (h : PairsAt H xs ps) (i : Int) : xs.head? ≠ some (.int i) := by
  cases xs with
  | nil => simp
  | cons x xs =>
    cases ps with
    | nil => exact h.elim
    | cons p ps =>
      obtain ⟨⟨q, e, _⟩, _⟩ := h
      rw [e]
      simp
theorem PartAt.but {H H' : Hp} {a t l : Addr} {ns : List Int} {c : Nat} {ps : Pt} (h : PartAt H l ps) (T : Tn K H a t ns c) (b : But t H H') : PartAt H' l ps := by
  obtain ⟨xs, h1, h2⟩ := h
  obtain ⟨ls, ht⟩ := T.lst
  exact ⟨xs, b _ _ h1 (ne_town T h1 h2.head), h2.tups fun z zs e => b _ _ e (ne_of e ht (by intro z; cases z))⟩
/-- tables that stand -/
def TabsAt (H : Hp) : List V → List Tb → Prop
  | [], [] => True
  | x :: xs, t :: ts => (∃ d, x = .ref d ∧ H d = some (.dK (kvsT t))) ∧ TabsAt H xs ts
  | _, _ => False
theorem TabsAt.keep {H H' : Hp} (h : ∀ b kvs, H b = some (.dK kvs) → H' b = some (.dK kvs)) : ∀ {xs : List V} {ps : List Tb}, TabsAt H xs ps → TabsAt H' xs ps
  | [], [], _ => trivial
  | x :: xs, p :: ps, ⟨⟨q, e, hq⟩, r⟩ => ⟨⟨q, e, h _ _ hq⟩, TabsAt.keep h r⟩
theorem TabsAt.same {H H' : Hp} (s : Same H H') {xs : List V} {ps : List Tb} (h : TabsAt H xs ps) : TabsAt H' xs ps := h.keep fun _ _ e => s _ _ e
theorem TabsAt.but {H H' : Hp} {t : Addr} {l : List V} (b : But t H H') (ht : H t = some (.lst l)) {xs : List V} {ps : List Tb} (h : TabsAt H xs ps) : TabsAt H' xs ps := h.keep fun _ _ e => dicts_but b ht e
theorem TabsAt.len {H : Hp} : ∀ {xs : List V} {ps : List Tb}, TabsAt H xs ps → xs.length = ps.length
  | [], [], _ => rfl
  | x :: xs, p :: ps, ⟨_, r⟩ => by simp [TabsAt.len r]
theorem TabsAt.app {H : Hp} : ∀ {xs ys : List V} {ps qs : List Tb}, TabsAt H xs ps → TabsAt H ys qs → TabsAt H (xs ++ ys) (ps ++ qs)
  | [], _, [], _, _, h => h
  | x :: xs, _, p :: ps, _, ⟨a, r⟩, h => ⟨a, TabsAt.app r h⟩
theorem TabsAt.get {H : Hp} : ∀ {xs : List V} {ps : List Tb}, TabsAt H xs ps → ∀ {i : Nat}, i < xs.length → ∃ p q, ps[i]? = some p ∧ xs[i]? = some (.ref q) ∧ H q = some (.dK (kvsT p))
  | x :: xs, p :: ps, ⟨⟨q, e, hq⟩, r⟩, 0, _ => ⟨p, q, rfl, by rw [e]; rfl, hq⟩
  | x :: xs, p :: ps, ⟨_, r⟩, i + 1, h => TabsAt.get r (by simpa using h)
theorem TabsAt.head {H : Hp} {xs : List V} {ps : List Tb} (h : TabsAt H xs ps) (i : Int) : xs.head? ≠ some (.int i) := by
  cases xs with
  | nil => simp
  | cons x xs =>
    cases ps with
    | nil => exact h.elim
    | cons p ps =>
      obtain ⟨⟨q, e, _⟩, _⟩ := h
      rw [e]
      simp
end
end Nk
namespace Nk
open PySem L2
section
variable {P : Program} {w : World} {K : PySem.W.Frag} {mg : Str → Option Value} {base : Heap}
def isWordV : V → Bool
  | .str s => decide (s ∈ planWords)
  | _ => false
def headWhole (xs : List V) : Bool := decide (xs.head? = some (.str "whole"))
def isPlanV (H : Hp) (x : V) : Bool := match x with
  | .ref a => match H a with
    | some (.lst xs) => decide (1 ≤ xs.length) && decide (xs.length ≤ 8) && xs.all isWordV && headWhole xs
    | _ => false
  | _ => false
theorem isPlanV_same {H H' : Hp} (s : Same H H') {x : V} {n : String} (h : Thing K H x n) : isPlanV H' x = isPlanV H x := by
  cases h with
  | lst h => simp only [isPlanV, h, s _ _ h]
  | tup h => simp only [isPlanV, h, s _ _ h]
  | dic h => simp only [isPlanV, h, s _ _ h]
  | _ => rfl
theorem words_of {xs : List V} (h : xs.all isWordV = true) : ∃ ws : List Str, xs = ws.map V.str ∧ ∀ w ∈ ws, w ∈ planWords := by
  induction xs with
  | nil => exact ⟨[], rfl, fun _ h => nomatch h⟩
  | cons x xs ih =>
    simp only [List.all_cons, Bool.and_eq_true] at h
    obtain ⟨ws, e, hw⟩ := ih h.2
    cases x with
    | str s =>
      refine ⟨s :: ws, by rw [e]; rfl, fun w hw' => ?_⟩
      rcases List.mem_cons.mp hw' with rfl | hw'
      · simpa [isWordV] using h.1
      · exact hw w hw'
    | _ => simp [isWordV] at h
theorem plan_of {H : Hp} {x : V} (h : isPlanV H x = true) : ∃ (l : Addr) (ws : List Str), x = .ref l ∧ H l = some (.lst (ws.map V.str)) ∧ GoodW ws := by
  cases x with
  | ref a =>
    simp only [isPlanV] at h
    split at h
    · rename_i xs e
      simp only [Bool.and_eq_true, decide_eq_true_eq] at h
      obtain ⟨⟨⟨h1, h2⟩, h3⟩, h4⟩ := h
      obtain ⟨ws, rfl, hw⟩ := words_of h3
      refine ⟨a, ws, rfl, e, ⟨by simpa using h1, by simpa using h2, hw, ?_⟩⟩
      simp only [headWhole, decide_eq_true_eq] at h4
      cases ws with
      | nil => simp at h4
      | cons w ws => simpa using h4
    · cases h
  | _ => simp [isPlanV] at h
theorem plan_is {H : Hp} {l : Addr} {ws : List Str} (hl : H l = some (.lst (ws.map V.str))) (g : GoodW ws) : isPlanV H (.ref l) = true := by
  simp only [isPlanV, hl, Bool.and_eq_true, decide_eq_true_eq, List.length_map]
  refine ⟨⟨⟨g.l1, g.l8⟩, ?_⟩, ?_⟩
  · rw [List.all_map, List.all_eq_true]
    intro w hw
    simpa [Function.comp, isWordV] using g.wd w hw
  · have := g.fst
    cases ws with
    | nil => cases this
    | cons w ws =>
      simp only [List.getElem?_cons_zero, Option.some.injEq] at this
      simp [headWhole, this]
theorem inV_words (s : Str) : inV (.str s) (planWords.map V.str) = decide (s ∈ planWords) := by
  unfold inV
  rw [List.any_map, Bool.eq_iff_iff, List.any_eq_true, decide_eq_true_eq]
  constructor
  · rintro ⟨x, hx, e⟩
    have : x = s := by simpa [eqV] using e
    rw [← this]; exact hx
  · intro h
    exact ⟨s, h, by simp [eqV]⟩
theorem flat_strs (l : List Str) : (l.map V.str).all flatV = true := by
  rw [List.all_eq_true]
  intro x hx
  obtain ⟨i, _, rfl⟩ := List.mem_map.mp hx
  rfl
abbrev nm_look_states : List Str := ["states"]
abbrev pm_look_states : List Str := ["states"]
abbrev lv_look_states : Nat := 1
theorem sc_look_states : FnScope nm_look_states pm_look_states (defScope s_look_states) := ⟨rfl, rfl, rfl, by decide +kernel, rfl, by decide +kernel, by decide +kernel⟩
def sp_look_states (mg : Str → Option Value) : Sp := fun vs H Q E => ∃ (l : Addr) (xs : List V), vs = [.ref l] ∧ H l = some (.lst xs) ∧ xs.length ≤ 1000 ∧ (1 ≤ xs.length → xs.length ≤ 8 → Q .non H) ∧ (¬ (1 ≤ xs.length ∧ xs.length ≤ 8) → E (.ref (cls mg "BadNumber")) none H)
theorem f_look_states (T : Txt K mg) : Fk P w K mg base (L2.CX P w) lv_look_states "look_states" pm_look_states (sp_look_states mg) := by
  obtain ⟨f, fd, F, g, b⟩ := T.d_look_states.ex
  refine ⟨f, fd, g, F.kp, b, F.okX sc_look_states (fun vs H Q E h => ?_) (fun cdv A outer s H vs Q E hr h => ?_)⟩
  · obtain ⟨l, xs, rfl, _⟩ := h; rfl
  · obtain ⟨l, xs, rfl, hl, hz, q1, q2⟩ := h
    refine ⟨_, (pss_one (ps_if (pt_not (pt_chain op_le op_le pe_int (pe_callB call_len_seq (by rfl) T.b_len PySem.boot_len (pa_cons (pv 0) pa_nil)) pe_int)) (pss_one (ps_raise rfl (takes_of rfl rfl rfl rfl) (pmk_own PySem.F.excBase_RuntimeError T.x_BadNumber.xP T.x_BadNumber.gP T.x_BadNumber.kP T.x_BadNumber.rs rfl))) pss_nil)), ?_⟩
    walk_at "ru"
    refine ⟨xs, .inl (sqL hl), ?_⟩
    by_cases c1 : 1 ≤ xs.length
    · by_cases c2 : xs.length ≤ 8
      · have d1 : (1 : Int) ≤ (xs.length : Int) := by omega
        have d2 : (xs.length : Int) ≤ 8 := by omega
        simp only [d1, d2]
        walk_at "ru"
        exact q1 c1 c2
      · have d1 : (1 : Int) ≤ (xs.length : Int) := by omega
        have d2 : ¬ (xs.length : Int) ≤ 8 := by omega
        simp only [d1, d2]
        walk_at "ru"
        exact q2 (by omega)
    · have d1 : ¬ (1 : Int) ≤ (xs.length : Int) := by omega
      simp only [d1]
      walk_at "ru"
      exact q2 (by omega)
/-- states that stand -/
def StsAt (mg : Str → Option Value) (H : Hp) : List V → List Tb → Prop
  | [], [] => True
  | x :: xs, t :: ts => (∃ d, x = .ref d ∧ StAt mg H d t) ∧ StsAt mg H xs ts
  | _, _ => False
theorem StsAt.same {H H' : Hp} (s : Same H H') : ∀ {xs : List V} {ps : List Tb}, StsAt mg H xs ps → StsAt mg H' xs ps
  | [], [], _ => trivial
  | x :: xs, p :: ps, ⟨⟨q, e, hq⟩, r⟩ => ⟨⟨q, e, hq.same s⟩, StsAt.same s r⟩
theorem StsAt.but {H H' : Hp} {t : Addr} {l : List V} (b : But t H H') (ht : H t = some (.lst l)) : ∀ {xs : List V} {ps : List Tb}, StsAt mg H xs ps → StsAt mg H' xs ps
  | [], [], _ => trivial
  | x :: xs, p :: ps, ⟨⟨q, e, hq⟩, r⟩ => ⟨⟨q, e, hq.but b ht⟩, StsAt.but b ht r⟩
theorem StsAt.len {H : Hp} : ∀ {xs : List V} {ps : List Tb}, StsAt mg H xs ps → xs.length = ps.length
  | [], [], _ => rfl
  | x :: xs, p :: ps, ⟨_, r⟩ => by simp [StsAt.len r]
theorem StsAt.app {H : Hp} : ∀ {xs ys : List V} {ps qs : List Tb}, StsAt mg H xs ps → StsAt mg H ys qs → StsAt mg H (xs ++ ys) (ps ++ qs)
  | [], _, [], _, _, h => h
  | x :: xs, _, p :: ps, _, ⟨a, r⟩, h => ⟨a, StsAt.app r h⟩
theorem StsAt.get {H : Hp} : ∀ {xs : List V} {ps : List Tb}, StsAt mg H xs ps → ∀ {i : Nat}, i < xs.length → ∃ p q, ps[i]? = some p ∧ xs[i]? = some (.ref q) ∧ StAt mg H q p
  | x :: xs, p :: ps, ⟨⟨q, e, hq⟩, r⟩, 0, _ => ⟨p, q, rfl, by rw [e]; rfl, hq⟩
  | x :: xs, p :: ps, ⟨_, r⟩, i + 1, h => StsAt.get r (by simpa using h)
theorem StsAt.head {H : Hp} {xs : List V} {ps : List Tb} (h : StsAt mg H xs ps) (i : Int) : xs.head? ≠ some (.int i) := by
  cases xs with
  | nil => simp
  | cons x xs =>
    cases ps with
    | nil => exact h.elim
    | cons p ps =>
      obtain ⟨⟨q, e, _⟩, _⟩ := h
      rw [e]
      simp
def iv_room_of (H0 : Hp) (l lp : Addr) (ts : List Tb) (ws : List Str) (i : Nat) (σ : L2.St) (H : Hp) : Prop := (∃ y z, σ = [some (.ref l), some (.ref lp), some (.int (roomS ts ws i).1), some (.int (roomS ts ws i).2), y, z]) ∧ Same H0 H
/-- len of a state -/
theorem len_st {H : Hp} {p : Addr} {t : Tb} {Q : VK} {E : XK} (h : StAt mg H p t) (q : Q (.int t.length) H) : rLenO (cls mg "State") (sp_State____len__ mg) E [.ref p] H Q := by
  obtain ⟨dx, d, h1, h2⟩ := h.ex
  have := h.len
  exact ⟨p, dx, _, rfl, h1, p, t, rfl, h, t.length, rfl, by omega, q⟩
abbrev nm_size_at : List Str := ["states", "word", "at", "base"]
abbrev pm_size_at : List Str := ["states", "word", "at", "base"]
abbrev lv_size_at : Nat := 4
theorem sc_size_at : FnScope nm_size_at pm_size_at (defScope s_size_at) := ⟨rfl, rfl, rfl, by decide +kernel, rfl, by decide +kernel, by decide +kernel⟩
def sp_size_at (mg : Str → Option Value) : Sp := fun vs H Q _ => ∃ (l : Addr) (xs : List V) (ts : List Tb) (w : Str) (i base : Nat), vs = [.ref l, .str w, .int i, .int base] ∧ H l = some (.lst xs) ∧ StsAt mg H xs ts ∧ i < ts.length ∧ base < ts.length ∧ (w = "part" → 1 ≤ i) ∧
  ∀ H', Same H H' → Q (.int (sizeW ts w i base)) H'
theorem f_size_at (T : Txt K mg) : Fk P w K mg base CX0 lv_size_at "size_at" pm_size_at (sp_size_at mg) := by
  obtain ⟨f, fd, F, g, b⟩ := T.d_size_at.ex
  refine ⟨f, fd, g, F.kp, b, F.ok sc_size_at (fun vs H Q E h => ?_) (fun cdv A outer s H vs Q E hr h => ?_)⟩
  · obtain ⟨l, xs, ts, w, i, base, rfl, _⟩ := h; rfl
  · obtain ⟨l, xs, ts, w, i, bs, rfl, hl, hS, hi, hb, hp, q⟩ := h
    refine ⟨_, (pss_cons (ps_if (pt_cmpR op_eq (pv 1) pe_str (nomark _)) (pss_one (ps_ret (pe_callB (cr_lenO T.o_State (f_State____len__ T) (hr.mono (by decide)) pass0) (by rfl) T.b_len PySem.boot_len (pa_cons (pe_ix ix_list (pv 0) (pv 2) (fun _ _ => rfl)) pa_nil)))) pss_nil)
      (pss_one (ps_ret (pe_callB call_len_seq (by rfl) T.b_len PySem.boot_len (pa_cons (pe_fn (f_part_of T) (hr.mono (by decide)) (by rfl) pass0 (pa_cons (pe_ix ix_list (pv 0) (pe_ifExp (pt_cmpR op_eq (pv 1) pe_str (nomark _)) (pe_op op_sub (pv 2) pe_int) (pv 3)) (fun _ _ => rfl)) (pa_cons (pe_ix ix_list (pv 0) (pv 2) (fun _ _ => rfl)) pa_nil))) pa_nil))))), ?_⟩
    have hlen := hS.len
    obtain ⟨t, d, e1, e2, e3⟩ := hS.get (i := i) (by omega)
    have et : ts.getD i [] = t := by rw [List.getD_eq_getElem?_getD, e1]; rfl
    with_reducible refine seq_k fun K_ hK_ => ?_
    walk_at "ru"
    by_cases c1 : w = "whole"
    · rw [if_pos (by simpa using c1)]
      refine ixL (j := i) (sqL hl) rfl e2 ?_
      refine len_st e3 ?_
      have := q H (Same.refl _)
      simpa only [sizeW, c1, if_true, et] using this
    · rw [if_neg (by simpa using c1)]
      walk_at "ru"
      subst hK_
      first | with_reducible refine seq_k fun K_ hK_ => ?_ | skip
      walk_at "ru"
      by_cases c2 : w = "part"
      · rw [if_pos (by simpa using c2)]
        have h1 := hp c2
        obtain ⟨t2, d2, f1, f2, f3⟩ := hS.get (i := i - 1) (by omega)
        have et2 : ts.getD (i - 1) [] = t2 := by rw [List.getD_eq_getElem?_getD, f1]; rfl
        refine ixL (j := i - 1) (sqL hl) (by omega) f2 ?_
        refine ixL (j := i) (sqL hl) rfl e2 ?_
        refine ⟨d2, d, t2, t, rfl, f3, e3, fun lp H1 s1 n1 hP => ?_⟩
        obtain ⟨zs, hz, hPz⟩ := hP
        walk_at "ru"
        refine ⟨_, .inl (sqL hz), ?_⟩
        rw [hPz.len]
        have e5 : sizeW ts w i bs = (part t2 t).length := by unfold sizeW; rw [if_neg c1, if_pos c2, et, et2]
        rw [← e5]
        exact q H1 s1
      · rw [if_neg (by simpa using c2)]
        obtain ⟨t2, d2, f1, f2, f3⟩ := hS.get (i := bs) (by omega)
        have et2 : ts.getD bs [] = t2 := by rw [List.getD_eq_getElem?_getD, f1]; rfl
        refine ixL (j := bs) (sqL hl) rfl f2 ?_
        refine ixL (j := i) (sqL hl) rfl e2 ?_
        refine ⟨d2, d, t2, t, rfl, f3, e3, fun lp H1 s1 n1 hP => ?_⟩
        obtain ⟨zs, hz, hPz⟩ := hP
        walk_at "ru"
        refine ⟨_, .inl (sqL hz), ?_⟩
        rw [hPz.len]
        have := q H1 s1
        simpa only [sizeW, c1, c2, if_false, et, et2] using this
end
end Nk
namespace Nk
open PySem L2
section
variable {X : Cx}
/-- x not in a tuple of data -/
def rNotInTD (K : PySem.W.Frag) : R2 := fun x y H Q => ∃ d ds, Dp K H x d ∧ Dp K H y (.tuple ds) ∧ SeqAt.shaped d = true ∧ SeqAt.shaped (.tuple ds) = true ∧ Q (.bl (!ds.any fun z => PyData.eqv z d)) H
theorem op_notInTD (K : PySem.W.Frag) (hK : X.K = K) (hu : X.A.units + 65 < cLine) : OpR X (compareOp .NotIn) (rNotInTD K) := by
  subst hK
  intro pins s σ H x y v u Q I rx ry h
  obtain ⟨d, ds, hd, he, sd, se, q⟩ := h
  obtain ⟨as, r1⟩ := Dp.reads I d x v hd rx
  obtain ⟨bs, r2⟩ := Dp.reads I (.tuple ds) y u he ry
  exact SeqAt.notIn_tuple_reads r2 r1 (SeqAt.canLay_of_shaped se) (SeqAt.canLay_of_shaped sd) (PyProof.Rows.room_in_shaped sd hu) ⟨.bl _, H, I, rfl, q⟩
end
section
variable {P : Program} {w : World} {K : PySem.W.Frag} {mg : Str → Option Value} {base : Heap}
theorem eqv_words {H : Hp} {y : V} {d : PyData} (h : Dp K H y d) : ((planWords.map PyData.str).any fun z => PyData.eqv z d) = isWordV y := by
  cases h with
  | str s =>
    simp only [isWordV]
    rw [List.any_map, Bool.eq_iff_iff, List.any_eq_true, decide_eq_true_eq]
    constructor
    · rintro ⟨w, hw, e⟩
      have : w = s := by simpa [PyData.eqv] using e
      rw [← this]; exact hw
    · intro h
      exact ⟨s, h, by simp [PyData.eqv]⟩
  | _ => simp [isWordV, PyData.eqv]
/-- things that may be plans -/
structure PlanT (K : PySem.W.Frag) (H : Hp) (x : V) : Prop where
  ds : DS K H 1 x
  dat : ∀ a xs, x = .ref a → H a = some (.lst xs) → ∀ y ∈ xs, Dat K H 2 y
theorem PlanT.same {H H' : Hp} {x : V} (h : PlanT K H x) (s : Same H H') : PlanT K H' x := by
  refine ⟨h.ds.same s, fun a xs e ha y hy => ?_⟩
  subst e
  obtain ⟨⟨n, th⟩, _⟩ := h.ds.th
  cases th with
  | lst h1 =>
    have := s _ _ h1
    rw [this] at ha
    cases ha
    exact (h.dat a xs rfl h1 y hy).same s
  | tup h1 => rw [s _ _ h1] at ha; cases ha
  | dic h1 => rw [s _ _ h1] at ha; cases ha
theorem PlanT.words {H : Hp} {l : Addr} {ws : List Str} (h : H l = some (.lst (ws.map V.str))) (hz : ws.length ≤ 1000) (hw : ∀ w ∈ ws, w ∈ planWords) : PlanT K H (.ref l) := by
  have hs : ∀ w ∈ planWords, w.cps.size ≤ 1000 ∧ PyData.strOk w = true := by decide +kernel
  refine ⟨ds_list h (by simpa using hz) fun y hy => ?_, fun a xs e ha y hy => ?_⟩
  · obtain ⟨w, hm, rfl⟩ := List.mem_map.mp hy
    exact ⟨⟨_, .str w⟩, fun s e => by cases e; exact (hs w (hw w hm)).1⟩
  · cases e
    rw [h] at ha
    cases ha
    obtain ⟨w, hm, rfl⟩ := List.mem_map.mp hy
    exact ⟨.str w, .str w, by simp only [gb]; exact (hs w (hw w hm)).2⟩
abbrev nm__law_plan_reads : List Str := ["plan", "found", "word", "ahead"]
abbrev pm__law_plan_reads : List Str := ["plan"]
abbrev lv__law_plan_reads : Nat := 1
theorem sc__law_plan_reads : FnScope nm__law_plan_reads pm__law_plan_reads (defScope s__law_plan_reads) := ⟨rfl, rfl, rfl, by decide +kernel, rfl, by decide +kernel, by decide +kernel⟩
def sp__law_plan_reads : Sp := fun vs H Q _ => ∃ (l : Addr) (ws : List Str), vs = [.ref l] ∧ H l = some (.lst (ws.map V.str)) ∧ ws.length ≤ 8 ∧ (∀ w ∈ ws, w ∈ planWords) ∧ ∀ p H', Same H H' → H p = none → H' p = some (.lst ((readsW ws).map V.int)) → Q (.ref p) H'
def iv__law_plan_reads (H0 : Hp) (l p : Addr) (ws : List Str) (i : Nat) (σ : L2.St) (H : Hp) : Prop := (∃ y z, σ = [some (.ref l), some (.ref p), y, z]) ∧ Same H0 H ∧ H p = some (.lst ((readsW (ws.take i)).map V.int))
theorem f__law_plan_reads (T : Txt K mg) : Fk P w K mg base CX0 lv__law_plan_reads "_law_plan_reads" pm__law_plan_reads sp__law_plan_reads := by
  obtain ⟨f, fd, F, g, b⟩ := T.d__law_plan_reads.ex
  refine ⟨f, fd, g, F.kp, b, F.ok sc__law_plan_reads (fun vs H Q E h => ?_) (fun cdv A outer s H vs Q E hr h => ?_)⟩
  · obtain ⟨l, ws, rfl, _⟩ := h; rfl
  · obtain ⟨l, ws, rfl, hl, h8, hw, q⟩ := h
    have hu := hu_of hr
    refine ⟨_, (pss_cons (ps_set (i := 1) sc__law_plan_reads.nd rfl (.inl rfl) (pe_lst pa_nil))
      (pss_cons (ps_for PassesOwn.never rfl (pi_list (pv 0)) (pg_name (i := 2) sc__law_plan_reads.nd rfl (Or.inl rfl)) (pss_cons (ps_set (i := 3) sc__law_plan_reads.nd rfl (.inl rfl) (pe_ifExp (pt_cmpR (op_neD hr.units) (pv 1) (pe_lst pa_nil) (nomark _)) (pe_ix ix_list (pv 1) (pe_un un_neg pe_int) (fun _ _ => rfl)) pe_int))
      (pss_one (ps_expr (pe_bm PySem.F.plainAttrs_list PySem.F.slot_list_append PySem.F.type_list_append mt_append (pv 1) (pa_cons (pe_dget hu (pe_disp (pps_cons pe_str pe_int (pps_cons pe_str (pe_op op_add (pv 3) pe_int) (pps_cons pe_str pe_int pps_nil))) (by rfl) (by rfl) (fun z => by cases z) (by decide)) (pv 2) (fun _ _ => rfl)) pa_nil))))))
      (pss_one (ps_ret (pv 1))))), ?_⟩
    with_reducible refine seq_k fun K_ hK_ => ?_
    walk_at "ru"
    intro p n_p
    generalize hG_ : upd _ p _ = H2
    obtain ⟨s2, hp⟩ := newF n_p hG_
    clear hG_
    walk_at "ru"
    subst hK_
    first | with_reducible refine seq_k fun K_ hK_ => ?_ | skip
    walk_at "ru"
    refine ⟨⟨_, sqL (s2 _ _ hl)⟩, ?_⟩
    refine for_it (walk_list (xs := ws.map V.str)) (iv__law_plan_reads H l p ws) ⟨⟨_, _, rfl⟩, s2, by simpa [readsW] using hp⟩ (fun i σ H2 _ iv => sqL (iv.2.1 _ _ hl)) (fun i y σ H3 H4 hi iv hy => ?_) (fun σ H3 iv => ?_)
    · obtain ⟨⟨y0, z0, rfl⟩, s3, hp3⟩ := iv
      obtain ⟨rfl, hy⟩ := hy
      rw [List.getElem?_map] at hy
      cases ew : ws[i]? with
      | none => rw [ew] at hy; cases hy
      | some w =>
        rw [ew] at hy
        cases hy
        have hnx := readsW_next ew
        have hi8 := lt_of_get ew
        have hrl := readsW_len (ws.take i)
        rw [List.length_take] at hrl
        have hww := hw w (mem_of_get ew)
        walk_at "ru"
        with_reducible refine seq_k fun K_ hK_ => ?_
        walk_at "ru"
        intro e1 n_e1
        generalize hG_ : upd _ e1 _ = H5
        obtain ⟨s5, he1⟩ := newF n_e1 hG_
        clear hG_
        have hp5 := s5 _ _ hp3
        have ahead : ∀ (H6 : Hp), Same H4 H6 → K_ [some (.ref l), some (.ref p), some (.str w), some (.int ((readsW (ws.take i)).getLast?.getD 0))] H6 := by
          intro H6 s6
          walk_at "ru"
          subst hK_
          first | with_reducible refine seq_k fun K_ hK_ => ?_ | skip
          walk_at "ru"
          refine ⟨tyL (s6 _ _ hp3), ?_⟩
          intro d hd
          refine ⟨upd_same, [(Sum.inr "whole", .int 1), (Sum.inr "part", .int ((readsW (ws.take i)).getLast?.getD 0 + 1)), (Sum.inr "wide", .int 2)], rfl, by simp, ?_⟩
          generalize hA : (readsW (ws.take i)).getLast?.getD 0 = A at *
          rw [upd_upd, show mergeK [] [((Sum.inr "whole" : Key), V.int 1), (Sum.inr "part", .int (A + 1)), (Sum.inr "wide", .int 2)] = [((Sum.inr "whole" : Key), V.int 1), (Sum.inr "part", .int (A + 1)), (Sum.inr "wide", .int 2)] from mergeK_nd (by simp; decide +kernel)]
          generalize hG : upd H6 d _ = H7
          obtain ⟨s7, hd7⟩ := newF hd hG
          clear hG
          have hp7 := s7 _ _ (s6 _ _ hp3)
          have s47 := s6.trans s7
          have step : ∀ v : Int, readsW (ws.take (i + 1)) = readsW (ws.take i) ++ [v] → iv__law_plan_reads H l p ws (i + 1) [some (.ref l), some (.ref p), some (.str w), some (.int A)] (upd H7 p (.lst ((readsW (ws.take i)).map V.int ++ [.int v]))) := fun v e =>
            ⟨⟨_, _, rfl⟩, Same.app (s3.trans s47) n_p, by rw [upd_same, e, List.map_append]; rfl⟩
          have hv : ∀ v, valV [((Sum.inr "whole" : Key), V.int 1), (Sum.inr "part", .int (A + 1)), (Sum.inr "wide", .int 2)] (Sum.inr w) = some (.int v) → readsW (ws.take (i + 1)) = readsW (ws.take i) ++ [v] → ∃ x, DGet H7 d (V.str w) (some x) ∧ rAppend (V.ref p) [x] H7 fun x H1 => iv__law_plan_reads H l p ws (i + 1) [some (.ref l), some (.ref p), some (.str w), some (.int A)] H1 := fun v e1 e2 => by
            have hg := DGet.k (k := Sum.inr w) hd7
            rw [e1] at hg
            exact ⟨_, hg, appR hp7 (by rw [List.length_map]; omega) (step v e2)⟩
          simp only [planWords, List.mem_cons, List.not_mem_nil, or_false] at hww
          rcases hww with rfl | rfl | rfl
          · refine hv 1 (valV_pos rfl) ?_
            rw [hnx]
            simp [rdStep]
          · refine hv (A + 1) (by rw [valV_neg (show ¬ (Sum.inr ("whole" : Str) : Key) = Sum.inr ("part" : Str) from by decide +kernel), valV_pos rfl]) ?_
            rw [hnx]
            simp only [rdStep]
            rw [if_neg (by decide +kernel), if_pos trivial, hA]
          · refine hv 2 (by rw [valV_neg (by decide +kernel), valV_neg (show ¬ (Sum.inr ("part" : Str) : Key) = Sum.inr ("wide" : Str) from by decide +kernel), valV_pos rfl]) ?_
            rw [hnx]
            simp only [rdStep]
            rw [if_neg (by decide +kernel), if_neg (by decide +kernel)]
        refine neD (dp_LI (sqL hp5)) (dp_LI (ns := []) (sqL he1)) (gd_dLI (k := 0) _) (gd_dLI (k := 0) _) (fun z => ?_) (fun z => ?_)
        · refine ⟨false, rfl, ?_⟩
          rw [if_neg (by simp)]
          have z' := dLI_inj.mp z
          have := ahead H5 s5
          rw [z'] at this
          exact this
        · refine ⟨true, rfl, ?_⟩
          rw [if_pos rfl]
          have hne : readsW (ws.take i) ≠ [] := fun e => z (by rw [e])
          have hla := List.getLast?_eq_some_getLast hne
          refine ixLast (v := .int ((readsW (ws.take i)).getLast hne)) (sqL hp5) (by rw [List.getLast?_map, hla]; rfl) ?_
          have := ahead H5 s5
          rw [hla] at this
          exact this
    · obtain ⟨⟨y0, z0, rfl⟩, s3, hp3⟩ := iv
      rw [List.length_map, List.take_length] at hp3
      walk_at "ru"
      subst hK_
      first | with_reducible refine seq_k fun K_ hK_ => ?_ | skip
      walk_at "ru"
      exact q p H3 s3 n_p hp3
abbrev nm__law_plan_room : List Str := ["tables", "plan", "found", "base", "k", "word"]
abbrev pm__law_plan_room : List Str := ["tables", "plan"]
abbrev lv__law_plan_room : Nat := 2
theorem sc__law_plan_room : FnScope nm__law_plan_room pm__law_plan_room (defScope s__law_plan_room) := ⟨rfl, rfl, rfl, by decide +kernel, rfl, by decide +kernel, by decide +kernel⟩
def sp__law_plan_room : Sp := fun vs H Q _ => ∃ (l lp : Addr) (xs : List V) (ts : List Tb) (ws : List Str), vs = [.ref l, .ref lp] ∧ H l = some (.lst xs) ∧ TabsAt H xs ts ∧ (∀ t ∈ ts, OkT t ∧ t.length ≤ 20) ∧ H lp = some (.lst (ws.map V.str)) ∧ GoodW ws ∧ ws.length = xs.length ∧ ∀ H', Same H H' → Q (.int (roomS ts ws ws.length).1) H'
theorem f__law_plan_room (T : Txt K mg) : Fk P w K mg base CX0 lv__law_plan_room "_law_plan_room" pm__law_plan_room sp__law_plan_room := by
  obtain ⟨f, fd, F, g, b⟩ := T.d__law_plan_room.ex
  refine ⟨f, fd, g, F.kp, b, F.ok sc__law_plan_room (fun vs H Q E h => ?_) (fun cdv A outer s H vs Q E hr h => ?_)⟩
  · obtain ⟨l, lp, xs, ts, ws, rfl, _⟩ := h; rfl
  · obtain ⟨l, lp, xs, ts, ws, rfl, hl, hT, gt, hlp, gw, hwl, q⟩ := h
    refine ⟨_, (pss_cons (ps_set (i := 2) sc__law_plan_room.nd rfl (.inl rfl) pe_int)
      (pss_cons (ps_set (i := 3) sc__law_plan_room.nd rfl (.inl rfl) pe_int)
      (pss_cons (ps_for PassesOwn.never rfl (pi_enum (by rfl) T.b_enumerate (pa_cons (pv 1) pa_nil)) (pg_tup rfl (pgs_cons (pg_name (i := 4) sc__law_plan_room.nd rfl (Or.inl rfl)) (pgs_cons (pg_name (i := 5) sc__law_plan_room.nd rfl (Or.inl rfl)) pgs_nil))) (pss_one (ps_if (pt_cmpR op_eq (pv 5) pe_str (nomark _)) (pss_cons (ps_set (i := 2) sc__law_plan_room.nd rfl (.inl rfl) (pe_op op_add (pv 2) (pe_callB call_lenD (by rfl) T.b_len PySem.boot_len (pa_cons (pe_ix ix_list (pv 0) (pv 4) (fun _ _ => rfl)) pa_nil))))
      (pss_one (ps_set (i := 3) sc__law_plan_room.nd rfl (.inl rfl) (pv 4)))) (pss_one (ps_set (i := 2) sc__law_plan_room.nd rfl (.inl rfl) (pe_op op_add (pv 2) (pe_callB call_len_seq (by rfl) T.b_len PySem.boot_len (pa_cons (pe_fn (f__law_unlike T) (hr.mono (by decide)) (by rfl) pass0 (pa_cons (pe_ix ix_list (pv 0) (pe_ifExp (pt_cmpR op_eq (pv 5) pe_str (nomark _)) (pe_op op_sub (pv 4) pe_int) (pv 3)) (fun _ _ => rfl)) (pa_cons (pe_ix ix_list (pv 0) (pv 4) (fun _ _ => rfl)) pa_nil))) pa_nil))))))))
      (pss_one (ps_ret (pv 2)))))), ?_⟩
    have hlen := hT.len
    with_reducible refine seq_k fun K_ hK_ => ?_
    walk_at "ru"
    walk_at "ru"
    subst hK_
    first | with_reducible refine seq_k fun K_ hK_ => ?_ | skip
    walk_at "ru"
    walk_at "ru"
    subst hK_
    first | with_reducible refine seq_k fun K_ hK_ => ?_ | skip
    walk_at "ru"
    refine ⟨_, sqL hlp, ?_⟩
    refine for_it (walk_enum (xs := ws.map V.str)) (iv_room_of H l lp ts ws) ⟨⟨_, _, rfl⟩, Same.refl _⟩ (fun i σ H2 _ iv => sqL (iv.2 _ _ hlp)) (fun i y σ H3 H4 hi iv hy => ?_) (fun σ H3 iv => ?_)
    · obtain ⟨⟨y0, z0, rfl⟩, s3⟩ := iv
      obtain ⟨tt, u, v, rfl, htt, rfl, hu1, hv1⟩ := hy
      cases hu1
      have hv1 : (ws.map V.str)[i]? = some v := hv1
      rw [List.getElem?_map] at hv1
      cases ew : ws[i]? with
      | none => rw [ew] at hv1; cases hv1
      | some w =>
        rw [ew] at hv1
        cases hv1
        have hi8 := lt_of_get ew
        have hbs := roomS_base ts ws i
        have ewd : ws.getD i Str.empty = w := by rw [List.getD_eq_getElem?_getD, ew]; rfl
        have s4 : Same H3 (upd H3 tt (.tup [.int (i : Nat), .str w])) := same_upd htt
        have hs4 : SqT K (upd H3 tt (.tup [.int (i : Nat), .str w])) tt [.int (i : Nat), .str w] := sqT upd_same
        revert s4 hs4
        generalize upd H3 tt (.tup [.int (i : Nat), .str w]) = H4
        intro s4 hs4
        have s34 := s3.trans s4
        have hl4 := s34 _ _ hl
        have hT4 := hT.same s34
        refine ⟨tt, _, rfl, hs4, rfl, ?_⟩
        have hp : w = "part" → 1 ≤ i := fun e => by
          cases i with
          | zero => rw [gw.fst] at ew; cases ew; exact absurd e (by decide +kernel)
          | succ i => omega
        obtain ⟨t1, d1, e1, e2, e3⟩ := hT4.get (i := i) (by omega)
        have et : ts.getD i [] = t1 := by rw [List.getD_eq_getElem?_getD, e1]; rfl
        have g1 := gt t1 (mem_of_get e1)
        walk_at "ru"
        by_cases c4 : w = "whole"
        · rw [if_pos (by simpa using c4)]
          with_reducible refine seq_k fun K_ hK_ => ?_
          walk_at "ru"
          refine ixL (j := i) (sqL hl4) rfl e2 ?_
          walk_at "ru"
          refine ⟨_, e3, ?_⟩
          rw [kvsT_len]
          walk_at "ru"
          subst hK_
          first | with_reducible refine seq_k fun K_ hK_ => ?_ | skip
          walk_at "ru"
          refine ⟨⟨some (.int i), some (.str w), ?_⟩, s34⟩
          simp only [roomS, ewd, c4, if_true, sizeW, et]
        · rw [if_neg (by simpa using c4)]
          by_cases c2 : w = "part"
          · rw [if_pos (by simpa using c2)]
            have h1 := hp c2
            obtain ⟨t2, d2, f1, f2, f3⟩ := hT4.get (i := i - 1) (by omega)
            have et2 : ts.getD (i - 1) [] = t2 := by rw [List.getD_eq_getElem?_getD, f1]; rfl
            have g2 := gt t2 (mem_of_get f1)
            refine ixL (j := i - 1) (sqL hl4) (by omega) f2 ?_
            refine ixL (j := i) (sqL hl4) rfl e2 ?_
            refine ⟨d2, d1, t2, t1, rfl, f3, e3, g2.1, g1.1, g2.2, g1.2, fun lq H5 s5 n5 hP => ?_⟩
            obtain ⟨zs, hz, hPz⟩ := hP
            walk_at "ru"
            refine ⟨_, .inl (sqL hz), ?_⟩
            rw [hPz.len]
            refine ⟨⟨some (.int i), some (.str w), ?_⟩, s34.trans s5⟩
            have e5 : sizeW ts w i (roomS ts ws i).2 = (part t2 t1).length := by unfold sizeW; rw [if_neg c4, if_pos c2, et, et2]
            simp only [roomS, ewd, if_neg c4, e5]
          · rw [if_neg (by simpa using c2)]
            obtain ⟨t2, d2, f1, f2, f3⟩ := hT4.get (i := (roomS ts ws i).2) (by omega)
            have et2 : ts.getD (roomS ts ws i).2 [] = t2 := by rw [List.getD_eq_getElem?_getD, f1]; rfl
            have g2 := gt t2 (mem_of_get f1)
            refine ixL (j := (roomS ts ws i).2) (sqL hl4) rfl f2 ?_
            refine ixL (j := i) (sqL hl4) rfl e2 ?_
            refine ⟨d2, d1, t2, t1, rfl, f3, e3, g2.1, g1.1, g2.2, g1.2, fun lq H5 s5 n5 hP => ?_⟩
            obtain ⟨zs, hz, hPz⟩ := hP
            walk_at "ru"
            refine ⟨_, .inl (sqL hz), ?_⟩
            rw [hPz.len]
            refine ⟨⟨some (.int i), some (.str w), ?_⟩, s34.trans s5⟩
            have e5 : sizeW ts w i (roomS ts ws i).2 = (part t2 t1).length := by unfold sizeW; rw [if_neg c4, if_neg c2, et, et2]
            simp only [roomS, ewd, if_neg c4, e5]
    · obtain ⟨⟨y0, z0, rfl⟩, s3⟩ := iv
      walk_at "ru"
      subst hK_
      first | with_reducible refine seq_k fun K_ hK_ => ?_ | skip
      walk_at "ru"
      rw [List.length_map]
      exact q H3 s3
abbrev nm__law_states : List Str := ["script", "town", "many", "found", "k", "later"]
abbrev pm__law_states : List Str := ["script", "town", "many"]
abbrev lv__law_states : Nat := 5
theorem sc__law_states : FnScope nm__law_states pm__law_states (defScope s__law_states) := ⟨rfl, rfl, rfl, by decide +kernel, rfl, by decide +kernel, by decide +kernel⟩
/-- up to so many tables, each a little unlike the one ahead -/
def sp__law_states (K : PySem.W.Frag) : Sp := fun vs H Q _ => ∃ (a t : Addr) (ns : List Int) (c : Nat) (many : Int), vs = [.ref a, .ref t, .int many] ∧ Tn K H a t ns c ∧ c < 700000000 ∧ 0 < many ∧ many ≤ 20 ∧
  ∀ (L : Addr) (xs : List V) (ts : List Tb) (c' : Nat) (H' : Hp), H L = none → L ≠ t → H' L = some (.lst xs) → TabsAt H' xs ts → (∀ t ∈ ts, OkT t ∧ t.length ≤ 20) → 1 ≤ xs.length → (xs.length : Int) ≤ many → c' ≤ c + 20000 → Tn K H' a t ns c' → But t H H' → Q (.ref L) H'
def iv__law_states (K : PySem.W.Frag) (H0 : Hp) (a t L : Addr) (ns : List Int) (many : Int) (c0 : Nat) (i : Nat) (σ : L2.St) (H : Hp) : Prop :=
  ∃ y4 y5 c xs ts, σ = [some (.ref a), some (.ref t), some (.int many), some (.ref L), y4, y5] ∧ c ≤ c0 + 400 * i ∧ xs.length = i + 1 ∧ Tn K H a t ns c ∧ H L = some (.lst xs) ∧ TabsAt H xs ts ∧ (∀ t ∈ ts, OkT t ∧ t.length ≤ 20) ∧ But t H0 H
theorem f__law_states (T : Txt K mg) : Fk P w K mg base CX0 lv__law_states "_law_states" pm__law_states (sp__law_states K) := by
  obtain ⟨f, fd, F, g, b⟩ := T.d__law_states.ex
  refine ⟨f, fd, g, F.kp, b, F.ok sc__law_states (fun vs H Q E h => ?_) (fun cdv A outer s H vs Q E hr h => ?_)⟩
  · obtain ⟨a, t, ns, c, many, rfl, _⟩ := h; rfl
  · obtain ⟨a, t, ns, c, many, rfl, hT, hc, m0, m1, q⟩ := h
    refine ⟨_, (pss_cons (ps_set (i := 3) sc__law_states.nd rfl (.inl rfl) (pe_lst (pa_cons (pe_fn (f__law_table T) (hr.mono (by decide)) (by rfl) pass0 (pa_cons (pv 0) (pa_cons (pv 1) (pa_cons (pe_fn (f__law_pick T) (hr.mono (by decide)) (by rfl) pass0 (pa_cons (pv 0) (pa_cons (pv 1) (pa_cons (pe_lst (pa_cons pe_int (pa_cons pe_int (pa_cons pe_int pa_nil)))) pa_nil)))) pa_nil)))) pa_nil)))
      (pss_cons (ps_for PassesOwn.never rfl (pi_range1 (by rfl) T.b_range (pa_cons (pe_fn (f__law_draw T) (hr.mono (by decide)) (by rfl) pass0 (pa_cons (pv 0) (pa_cons (pv 1) (pa_cons (pv 2) pa_nil)))) pa_nil)) (pg_name (i := 4) sc__law_states.nd rfl (Or.inl rfl)) (pss_cons (ps_set (i := 5) sc__law_states.nd rfl (.inl rfl) (pe_fn (f__law_later T) (hr.mono (by decide)) (by rfl) pass0 (pa_cons (pv 0) (pa_cons (pv 1) (pa_cons (pe_ix ix_list (pv 3) (pe_un un_neg pe_int) (fun _ _ => rfl)) pa_nil)))))
      (pss_one (ps_expr (pe_bm PySem.F.plainAttrs_list PySem.F.slot_list_append PySem.F.type_list_append mt_append (pv 3) (pa_cons (pe_fn (f__law_pick T) (hr.mono (by decide)) (by rfl) pass0 (pa_cons (pv 0) (pa_cons (pv 1) (pa_cons (pe_lst (pa_cons (pv 5) (pa_cons (pv 5) (pa_cons (pv 5) (pa_cons (pe_ix ix_list (pv 3) pe_int (fun _ _ => rfl)) (pa_cons (pe_fn (f__law_table T) (hr.mono (by decide)) (by rfl) pass0 (pa_cons (pv 0) (pa_cons (pv 1) (pa_cons pe_int pa_nil)))) pa_nil)))))) pa_nil)))) pa_nil))))))
      (pss_one (ps_ret (pv 3))))), ?_⟩
    with_reducible refine seq_k fun K_ hK_ => ?_
    walk_at "ru"
    refine pickI [2, 6, 12] hT (by omega) fun m hk1 H2 T2 b2 => ?_
    have hm : 0 < m ∧ m ≤ 20 := by simp at hk1; omega
    refine ⟨a, t, ns, _, m, rfl, T2, by omega, by omega, by omega, fun d1 t1 c3 H3 n1 hd1t hd1 ok1 l1 hc3 T3 b3 => ?_⟩
    have b03 := b2.trans b3
    intro L n_L
    generalize hG_ : upd _ L _ = H4
    obtain ⟨s4, hL⟩ := newF n_L hG_
    clear hG_
    have T4 := T3.same s4
    have hLt : L ≠ t := T3.some_ n_L
    have nL : H L = none := b03.free n_L hLt
    obtain ⟨z4, hz4⟩ := T4.lst
    walk_at "ru"
    subst hK_
    first | with_reducible refine seq_k fun K_ hK_ => ?_ | skip
    walk_at "ru"
    refine ⟨a, t, ns, c3, many, rfl, T4, by omega, by omega, by omega, fun n H5 g0 g1 T5 b5 => ?_⟩
    walk_at "ru"
    refine ⟨by omega, by omega, ?_⟩
    refine for_it walk_range (iv__law_states K H a t L ns many (c3 + 1)) ⟨_, _, c3 + 1, [.ref d1], [t1], rfl, by omega, rfl, T5, b5 _ _ hL hLt, ⟨⟨d1, rfl, dicts_but b5 hz4 (s4 _ _ hd1)⟩, trivial⟩, (fun x hx => by rw [List.mem_singleton.mp hx]; exact ⟨ok1, by omega⟩), (b03.thenS s4).trans b5⟩ (fun _ _ _ _ _ => trivial) (fun i x σ H6 H7 hi iv hy => ?_) (fun σ H6 iv => ?_)
    · obtain ⟨y4, y5, c', xs, ts, rfl, hc', hxl, T6, hL6, tabs6, gd6, b6⟩ := iv
      obtain ⟨rfl, rfl⟩ := hy
      have hi' : i < 20 := by omega
      have hlen := tabs6.len
      obtain ⟨z6, hz6⟩ := T6.lst
      obtain ⟨tl, dl, e1, e2, e3⟩ := tabs6.get (i := xs.length - 1) (by omega)
      have gl := gd6 tl (mem_of_get e1)
      have hlast : xs.getLast? = some (.ref dl) := by rw [List.getLast?_eq_getElem?]; exact e2
      walk_at "ru"
      with_reducible refine seq_k fun K_ hK_ => ?_
      walk_at "ru"
      refine ixLast (sqL hL6) hlast ?_
      refine ⟨a, t, dl, ns, c', tl, rfl, T6, by omega, e3, gl.1, gl.2, fun d2 t2 c7 H7 n2 hd2t hd2 ok2 l2 hc7 T7 b7 => ?_⟩
      have hL7 := b7 _ _ hL6 hLt
      have tabs7 := tabs6.but b7 hz6
      obtain ⟨z7, hz7⟩ := T7.lst
      walk_at "ru"
      subst hK_
      first | with_reducible refine seq_k fun K_ hK_ => ?_ | skip
      walk_at "ru"
      refine ⟨.inl ⟨rfl, _, sqL hL7⟩, ?_⟩
      obtain ⟨p0, q0, f1, f2, f3⟩ := tabs7.get (i := 0) (by omega)
      refine ixL (j := 0) (sqL hL7) rfl f2 ?_
      refine ⟨a, t, ns, c7, 3, rfl, T7, by omega, by omega, by omega, fun d3 t3 c8 H8 n3 hd3t hd3 ok3 l3 hc8 T8 b8 => ?_⟩
      obtain ⟨z8, hz8⟩ := T8.lst
      refine pickV T8 (by omega) (by simp) (by simp) fun v hv H9 T9 b9 => ?_
      have hv' : ∃ d t, v = .ref d ∧ H8 d = some (.dK (kvsT t)) ∧ OkT t ∧ t.length ≤ 20 := by
        simp only [List.mem_cons, List.not_mem_nil, or_false] at hv
        rcases hv with rfl | rfl | rfl | rfl | rfl
        · exact ⟨d2, t2, rfl, dicts_but b8 hz7 hd2, ok2, l2⟩
        · exact ⟨d2, t2, rfl, dicts_but b8 hz7 hd2, ok2, l2⟩
        · exact ⟨d2, t2, rfl, dicts_but b8 hz7 hd2, ok2, l2⟩
        · exact ⟨q0, p0, rfl, dicts_but b8 hz7 f3, gd6 _ (mem_of_get f1)⟩
        · exact ⟨d3, t3, rfl, hd3, ok3, by omega⟩
      obtain ⟨dv, tv, rfl, hdv, gv⟩ := hv'
      have b79 := b8.trans b9
      have hL9 := b79 _ _ hL7 hLt
      have tabs9 := (tabs7.but b8 hz7).but b9 hz8
      refine appR hL9 (by omega) ?_
      have kd : ∀ b kvs, H9 b = some (.dK kvs) → (upd H9 L (.lst (xs ++ [.ref dv]))) b = some (.dK kvs) := fun b kvs e => by rw [upd_ne (ne_of e hL9 (by intro z; cases z))]; exact e
      refine ⟨_, _, c8 + 1, xs ++ [.ref dv], ts ++ [tv], rfl, by omega, by simp [hxl], T9.app hT nL hLt, upd_same, (tabs9.keep kd).app ⟨⟨dv, rfl, kd _ _ (dicts_but b9 hz8 hdv)⟩, trivial⟩, fun x hx => ?_, ((b6.trans b7).trans b79).app nL⟩
      rcases List.mem_append.mp hx with hx | hx
      · exact gd6 x hx
      · rw [List.mem_singleton.mp hx]; exact gv
    · obtain ⟨y4, y5, c', xs, ts, rfl, hc', hxl, T6, hL6, tabs6, gd6, b6⟩ := iv
      walk_at "ru"
      subst hK_
      first | with_reducible refine seq_k fun K_ hK_ => ?_ | skip
      walk_at "ru"
      exact q L xs ts c' H6 nL hLt hL6 tabs6 gd6 (by omega) (by omega) (by omega) T6 b6
end
end Nk
namespace Nk
open PySem L2
section
variable {P : Program} {w : World} {K : PySem.W.Frag} {mg : Str → Option Value} {base : Heap}
/-- a pair of room and words stands at r -/
def BestAt (H : Hp) (r : Addr) (x : Nat × List Str) : Prop := ∃ wl, H r = some (.tup [.int (x.1 : Nat), .ref wl]) ∧ H wl = some (.lst (x.2.map V.str))
theorem BestAt.same {H H' : Hp} {r : Addr} {x : Nat × List Str} (h : BestAt H r x) (s : Same H H') : BestAt H' r x := by
  obtain ⟨wl, h1, h2⟩ := h
  exact ⟨wl, s _ _ h1, s _ _ h2⟩
theorem BestAt.but {H H' : Hp} {r kd : Addr} {x : Nat × List Str} {kvs : List (List Key × V)} (h : BestAt H r x) (s : But kd H H') (hk : H kd = some (.dT kvs)) : BestAt H' r x := by
  obtain ⟨wl, h1, h2⟩ := h
  exact ⟨wl, s _ _ h1 (ne_of h1 hk (by intro z; cases z)), s _ _ h2 (ne_of h2 hk (by intro z; cases z))⟩
def keyT (i b m : Nat) : List Key := [Sum.inl (i : Nat), Sum.inl (b : Nat), Sum.inl (m : Nat)]
/-- what is known -/
def Known (H : Hp) (ts : List Tb) (longest : Nat) (kvs : List (List Key × V)) : Prop := ∀ e ∈ kvs, ∃ (i b m : Nat) (r : Addr) (x : Nat × List Str), e = (keyT i b m, .ref r) ∧ bestF ts longest (ts.length - i) i b m = some x ∧ BestAt H r x
theorem Known.same {H H' : Hp} {ts : List Tb} {longest : Nat} {kvs : List (List Key × V)} (h : Known H ts longest kvs) (s : Same H H') : Known H' ts longest kvs := fun e he => by
  obtain ⟨i, b, m, r, x, e1, e2, e3⟩ := h e he
  exact ⟨i, b, m, r, x, e1, e2, e3.same s⟩
theorem keyT_inj {i b m i' b' m' : Nat} (h : keyT i b m = keyT i' b' m') : i = i' ∧ b = b' ∧ m = m' := by
  simp only [keyT, List.cons.injEq, Sum.inl.injEq, and_true] at h
  omega
theorem valT_mem {kvs : List (List Key × V)} {k : List Key} {v : V} (h : valV kvs k = some v) : (k, v) ∈ kvs := by
  unfold valV at h
  cases e : kvs.find? fun kv => decide (kv.1 = k) with
  | none => rw [e] at h; cases h
  | some p =>
    rw [e] at h
    have h1 := List.find?_some e
    have h2 := List.mem_of_find?_eq_some e
    simp at h h1
    have : p = (k, v) := Prod.ext h1 h
    rw [← this]
    exact h2
theorem putT_mem {kvs : List (List Key × V)} {k : List Key} {v : V} {e : List Key × V} (h : e ∈ putK kvs k v) : e = (k, v) ∨ e ∈ kvs := by
  unfold putK at h
  split at h
  · obtain ⟨q, hq, z⟩ := List.mem_map.mp h
    by_cases c : q.1 = k
    · rw [if_pos c, c] at z; exact .inl z.symm
    · rw [if_neg c] at z; exact .inr (z ▸ hq)
  · rcases List.mem_append.mp h with h | h
    · exact .inr h
    · exact .inl (List.mem_singleton.mp h)
theorem tIfS_k {c : TT} {t u : TS} {D : Ends} {σ : L2.St} {H : Hp} (h : ∀ T_ : L2.St → Hp → Prop, T_ = t D → c σ H fun b H1 => if b = true then T_ σ H1 else u D σ H1) : tIfS c t u D σ H := h _ rfl
theorem comb_lt {x y : Nat × List Str} (h : y.1 < x.1) : comb (some x) (some y) = some y := if_pos h
theorem comb_ge {x y : Nat × List Str} (h : ¬ y.1 < x.1) : comb (some x) (some y) = some x := if_neg h
abbrev nm_best_from : List Str := ["states", "longest", "at", "base", "many", "known", "key", "best", "word", "count", "size", "room", "words"]
abbrev pm_best_from : List Str := ["states", "longest", "at", "base", "many", "known"]
abbrev lv_best_from : Nat := 13
theorem sc_best_from : FnScope nm_best_from pm_best_from (defScope s_best_from) := ⟨rfl, rfl, rfl, by decide +kernel, rfl, by decide +kernel, by decide +kernel⟩
def sp_best_from (mg : Str → Option Value) (n : Nat) : Sp := fun vs H Q _ => ∃ (l kd : Addr) (xs : List V) (ts : List Tb) (longest i b m : Nat) (kvs : List (List Key × V)), vs = [.ref l, .int longest, .int i, .int b, .int m, .ref kd] ∧ H l = some (.lst xs) ∧ StsAt mg H xs ts ∧ i ≤ ts.length ∧ ts.length - i ≤ n ∧ b < ts.length ∧ 1 ≤ longest ∧
  H kd = some (.dT kvs) ∧ Known H ts longest kvs ∧ kvs.length + grow n ≤ 50000 ∧ ts.length ≤ 8 ∧
  ∀ (r : Addr) (x : Nat × List Str) (kvs' : List (List Key × V)) (H' : Hp), bestF ts longest (ts.length - i) i b m = some x → But kd H H' → H' kd = some (.dT kvs') → Known H' ts longest kvs' → kvs'.length ≤ kvs.length + grow n → BestAt H' r x → Q (.ref r) H'
/-- what stands at the best one so far -/
def BestV (H : Hp) (v : V) (x : Bst) : Prop := (x = none ∧ v = .non) ∨ ∃ r y, x = some y ∧ v = .ref r ∧ BestAt H r y
theorem BestV.but {H H' : Hp} {v : V} {kd : Addr} {x : Bst} {kvs : List (List Key × V)} (h : BestV H v x) (s : But kd H H') (hk : H kd = some (.dT kvs)) : BestV H' v x := by
  rcases h with h | ⟨r, y, e1, e2, h⟩
  · exact .inl h
  · exact .inr ⟨r, y, e1, e2, h.but s hk⟩
def stepB (ts : List Tb) (longest n i b m : Nat) (acc : Bst) (w : Str) : Bst := if okW longest i m w = true then comb acc ((bestF ts longest n (i + 1) (nbase w i b) (cnt w m)).map (addW (sizeW ts w i b) w)) else acc
theorem bestF_step (ts : List Tb) (longest n i b m : Nat) : bestF ts longest (n + 1) i b m = planWords.foldl (stepB ts longest n i b m) none := rfl
def iv_best (ts : List Tb) (g longest n i b m : Nat) (H0 : Hp) (l kd kq : Addr) (kvs : List (List Key × V)) (j : Nat) (σ : L2.St) (H : Hp) : Prop :=
  ∃ v y8 y9 y10 y11 y12 kvs', σ = [some (.ref l), some (.int longest), some (.int i), some (.int b), some (.int m), some (.ref kd), some (.ref kq), some v, y8, y9, y10, y11, y12] ∧ But kd H0 H ∧ H kd = some (.dT kvs') ∧ Known H ts longest kvs' ∧ kvs'.length ≤ kvs.length + j * g ∧ BestV H v ((planWords.take j).foldl (stepB ts longest n i b m) none)
theorem StsAt.butD {H H' : Hp} {kd : Addr} {kvs : List (List Key × V)} (b : But kd H H') (hk : H kd = some (.dT kvs)) : ∀ {xs : List V} {ps : List Tb}, StsAt mg H xs ps → StsAt mg H' xs ps
  | [], [], _ => trivial
  | x :: xs, p :: ps, ⟨⟨q, e, hq⟩, r⟩ => by
    obtain ⟨dx, d, h1, h2⟩ := hq.ex
    exact ⟨⟨q, e, ⟨dx, d, b _ _ h1 (ne_of h1 hk (by intro z; cases z)), b _ _ h2 (ne_of h2 hk (by intro z; cases z))⟩, hq.ok, hq.len⟩, StsAt.butD b hk r⟩
theorem f_best_from (T : Txt K mg) : ∀ n, Fk P w K mg base CX0 (5 + n) "best_from" pm_best_from (sp_best_from mg n)
  | 0 => by
    obtain ⟨f, fd, F, g, b⟩ := T.d_best_from.ex
    refine ⟨f, fd, g, F.kp, b, F.ok sc_best_from (fun vs H Q E h => ?_) (fun cdv A outer s H vs Q E hr h => ?_)⟩
    · obtain ⟨l, kd, xs, ts, longest, i, b, m, kvs, rfl, _⟩ := h; rfl
    · obtain ⟨l, kd, xs, ts, longest, i, b, m, kvs, rfl, hl, hS, hi, hn, hb, h1, hkd, hK, hlen, h8, q⟩ := h
      refine ⟨_, (pss_cons (ps_if (pt_cmpR op_eq (pv 2) (pe_callB call_len_seq (by rfl) T.b_len PySem.boot_len (pa_cons (pv 0) pa_nil)) (nomark _)) (pss_one (ps_ret (pe_tup (pa_cons pe_int (pa_cons (pe_lst pa_nil) pa_nil))))) pss_nil)
      pss_never), ?_⟩
      have hxl := hS.len
      have hii : i = ts.length := by omega
      subst hii
      with_reducible refine seq_k fun K_ hK_ => ?_
      walk_at "ru"
      refine ⟨_, .inl (sqL hl), ?_⟩
      rw [hxl, if_pos rfl]
      intro wl n_wl
      generalize hG_ : upd _ wl _ = H1
      obtain ⟨s1, hwl⟩ := newF n_wl hG_
      clear hG_
      intro r n_r
      generalize hG_ : upd _ r _ = H2
      obtain ⟨s2, hr2⟩ := newF n_r hG_
      clear hG_
      have s12 := s1.trans s2
      exact q r (0, []) kvs H2 (by rw [Nat.sub_self]; rfl) (.of s12) (s12 _ _ hkd) (hK.same s12) (by omega) ⟨wl, hr2, s2 _ _ hwl⟩
  | n + 1 => by
    have ih := f_best_from T n
    obtain ⟨f, fd, F, g, b⟩ := T.d_best_from.ex
    refine ⟨f, fd, g, F.kp, b, F.ok sc_best_from (fun vs H Q E h => ?_) (fun cdv A outer s H vs Q E hr h => ?_)⟩
    · obtain ⟨l, kd, xs, ts, longest, i, b, m, kvs, rfl, _⟩ := h; rfl
    · obtain ⟨l, kd, xs, ts, longest, i, b, m, kvs, rfl, hl, hS, hi, hn, hb, h1, hkd, hK, hlen, h8, q⟩ := h
      have hu := hu_of hr
      refine ⟨_, (pss_cons (ps_if (pt_cmpR op_eq (pv 2) (pe_callB call_len_seq (by rfl) T.b_len PySem.boot_len (pa_cons (pv 0) pa_nil)) (nomark _)) (pss_one (ps_ret (pe_tup (pa_cons pe_int (pa_cons (pe_lst pa_nil) pa_nil))))) pss_nil)
      (pss_cons (ps_set (i := 6) sc_best_from.nd rfl (.inl rfl) (pe_tup (pa_cons (pv 2) (pa_cons (pv 3) (pa_cons (pv 4) pa_nil)))))
      (pss_cons (ps_if (pt_cmp (pc_dnotin hu (pv 6) (pv 5))) (pss_cons (ps_set (i := 7) sc_best_from.nd rfl (.inl rfl) pe_non)
      (pss_cons (ps_for PassesOwn.never rfl (pi_list (pe_glob (v := .ref (cls mg "WORDS")) (by rfl) T.l_WORDS.g rfl)) (pg_name (i := 8) sc_best_from.nd rfl (Or.inl rfl)) (pss_cons (ps_set (i := 9) sc_best_from.nd rfl (.inl rfl) (pe_dget hu (pe_disp (pps_cons pe_str pe_int (pps_cons pe_str (pe_op op_add (pv 4) pe_int) (pps_cons pe_str pe_int pps_nil))) (by rfl) (by rfl) (fun z => by cases z) (by decide)) (pv 8) (fun _ _ => rfl)))
      (pss_one (ps_if (PW.pt (pw_and (pt_cmpR op_le (pv 9) (pv 1) (nomark _)) (pw_and1 (PW.pt (pw_or (pt_cmpR op_gt (pv 2) pe_int (nomark _)) (pw_or1 (pt_cmpR op_eq (pv 8) pe_str (nomark _)))))))) (pss_cons (ps_set (i := 10) sc_best_from.nd rfl (.inl rfl) (pe_fn (f_size_at T) (hr.mono (show 4 ≤ 5 + n from by omega)) (by rfl) pass0 (pa_cons (pv 0) (pa_cons (pv 8) (pa_cons (pv 2) (pa_cons (pv 3) pa_nil))))))
      (pss_cons (ps_asg (pe_fn ih hr (by rfl) pass0 (pa_cons (pv 0) (pa_cons (pv 1) (pa_cons (pe_op op_add (pv 2) pe_int) (pa_cons (pe_ifExp (pt_cmpR op_eq (pv 8) pe_str (nomark _)) (pv 2) (pv 3)) (pa_cons (pv 9) (pa_cons (pv 5) pa_nil))))))) (pg_tup rfl (pgs_cons (pg_name (i := 11) sc_best_from.nd rfl (Or.inl rfl)) (pgs_cons (pg_name (i := 12) sc_best_from.nd rfl (Or.inl rfl)) pgs_nil))))
      (pss_one (ps_if (PW.pt (pw_or (pt_cmpR op_isN (pv 7) pe_non (nomark _)) (pw_or1 (pt_cmpR op_lt (pe_op op_add (pv 10) (pv 11)) (pe_ix ix_tup (pv 7) pe_int (fun _ _ => rfl)) (nomark _))))) (pss_one (ps_set (i := 7) sc_best_from.nd rfl (.inl rfl) (pe_tup (pa_cons (pe_op op_add (pv 10) (pv 11)) (pa_cons (pe_op op_cat (pe_lst (pa_cons (pv 8) pa_nil)) (pv 12)) pa_nil))))) pss_nil)))) pss_nil))))
      (pss_one (ps_dput hu (pv 5) (pv 6) (pv 7) rfl)))) pss_nil)
      (pss_one (ps_ret (pe_dget hu (pv 5) (pv 6) (fun _ _ => rfl))))))), ?_⟩
      have hxl := hS.len
      with_reducible refine seq_k fun K_ hK_ => ?_
      walk_at "ru"
      refine ⟨_, .inl (sqL hl), ?_⟩
      rw [hxl]
      by_cases c0 : i = ts.length
      · rw [if_pos (by omega)]
        intro wl n_wl
        generalize hG_ : upd _ wl _ = H1
        obtain ⟨s1, hwl⟩ := newF n_wl hG_
        clear hG_
        intro r n_r
        generalize hG_ : upd _ r _ = H2
        obtain ⟨s2, hr2⟩ := newF n_r hG_
        clear hG_
        have s12 := s1.trans s2
        exact q r (0, []) kvs H2 (by rw [c0, Nat.sub_self]; rfl) (.of s12) (s12 _ _ hkd) (hK.same s12) (by omega) ⟨wl, hr2, s2 _ _ hwl⟩
      · rw [if_neg (by omega)]
        obtain ⟨e, he⟩ : ∃ e, ts.length - i = e + 1 := ⟨ts.length - i - 1, by omega⟩
        have he2 : ts.length - (i + 1) = e := by omega
        walk_at "ru"
        subst hK_
        first | with_reducible refine seq_k fun K_ hK_ => ?_ | skip
        walk_at "ru"
        intro kq n_kq
        generalize hG_ : upd _ kq _ = H1
        obtain ⟨s1, hkq⟩ := newF n_kq hG_
        clear hG_
        have hkq' : H1 kq = some (.tup ((keyT i b m).map kV)) := hkq
        have hkd1 := s1 _ _ hkd
        walk_at "ru"
        subst hK_
        first | with_reducible refine seq_k fun K_ hK_ => ?_ | skip
        walk_at "ru"
        refine ⟨_, DGet.t hkd1 hkq', ?_⟩
        cases hv : valV kvs (keyT i b m) with
        | some v =>
          rw [if_neg (by simp)]
          walk_at "ru"
          subst hK_
          first | with_reducible refine seq_k fun K_ hK_ => ?_ | skip
          walk_at "ru"
          obtain ⟨i', b', m', r, x, e1, e2, e3⟩ := hK _ (valT_mem hv)
          have e1a := congrArg Prod.fst e1
          have e1b : v = .ref r := congrArg Prod.snd e1
          obtain ⟨rfl, rfl, rfl⟩ := keyT_inj e1a
          subst e1b
          have hg := DGet.t hkd1 hkq'
          rw [hv] at hg
          exact ⟨_, hg, q r x kvs H1 e2 (.of s1) hkd1 (hK.same s1) (by omega) (e3.same s1)⟩
        | none =>
          rw [if_pos (by simp)]
          with_reducible refine seq_k fun K_ hK_ => ?_
          walk_at "ru"
          walk_at "ru"
          subst hK_
          first | with_reducible refine seq_k fun K_ hK_ => ?_ | skip
          walk_at "ru"
          refine ⟨⟨_, T.l_WORDS.sq _⟩, ?_⟩
          refine for_it (walk_list (xs := planWords.map V.str)) (iv_best ts (grow n) longest e i b m H1 l kd kq kvs) ⟨.non, _, _, _, _, _, kvs, rfl, But.refl, hkd1, hK.same s1, by omega, .inl ⟨rfl, rfl⟩⟩ (fun j σ H2 _ iv => T.l_WORDS.sq _) (fun j y σ H2 H3 hj iv hy => ?_) (fun σ H2 iv => ?_)
          · obtain ⟨v, y8, y9, y10, y11, y12, kvs2, rfl, b2, hkd2, hK2, hl2, hB2⟩ := iv
            obtain ⟨rfl, hy⟩ := hy
            rw [List.getElem?_map] at hy
            cases ew : planWords[j]? with
            | none => rw [ew] at hy; cases hy
            | some w =>
              rw [ew] at hy
              cases hy
              have hww := mem_of_get ew
              have hj3 : j < 3 := lt_of_get ew
              have hfw : (planWords.take (j + 1)).foldl (stepB ts longest e i b m) none = stepB ts longest e i b m ((planWords.take j).foldl (stepB ts longest e i b m) none) w := by
                rw [take_next ew, List.foldl_append]
                rfl
              have hgr : grow (n + 1) = 3 * grow n + 1 := rfl
              have hpart : w = "part" → okW longest i m w = true → 1 ≤ i := fun e hok => by
                simp only [okW, Bool.and_eq_true, Bool.or_eq_true, decide_eq_true_eq] at hok
                rcases hok.2 with h | h
                · exact h
                · rw [e] at h; exact absurd h (by decide +kernel)
              walk_at "ru"
              with_reducible refine seq_k fun K_ hK_ => ?_
              walk_at "ru"
              intro d hd
              refine ⟨upd_same, [(Sum.inr "whole", .int 1), (Sum.inr "part", .int (m + 1)), (Sum.inr "wide", .int 2)], rfl, by simp, ?_⟩
              rw [upd_upd, show mergeK [] [((Sum.inr "whole" : Key), V.int 1), (Sum.inr "part", .int ((m : Int) + 1)), (Sum.inr "wide", .int 2)] = [((Sum.inr "whole" : Key), V.int 1), (Sum.inr "part", .int ((m : Int) + 1)), (Sum.inr "wide", .int 2)] from mergeK_nd (by simp; decide +kernel)]
              generalize hG : upd H3 d _ = H4
              obtain ⟨s4, hd4⟩ := newF hd hG
              clear hG
              have hvw : valV [((Sum.inr "whole" : Key), V.int 1), (Sum.inr "part", .int ((m : Int) + 1)), (Sum.inr "wide", .int 2)] (Sum.inr w) = some (.int (cnt w m : Nat)) := by
                simp only [planWords, List.mem_cons, List.not_mem_nil, or_false] at hww
                rcases hww with rfl | rfl | rfl
                · rw [valV_pos rfl]; rfl
                · rw [valV_neg (show ¬ (Sum.inr ("whole" : Str) : Key) = Sum.inr ("part" : Str) from by decide +kernel), valV_pos rfl]
                  have : ¬ ("part" : Str) = "whole" := by decide +kernel
                  simp [cnt, this]
                · rw [valV_neg (show ¬ (Sum.inr ("whole" : Str) : Key) = Sum.inr ("wide" : Str) from by decide +kernel), valV_neg (show ¬ (Sum.inr ("part" : Str) : Key) = Sum.inr ("wide" : Str) from by decide +kernel), valV_pos rfl]
                  have h1 : ¬ ("wide" : Str) = "whole" := by decide +kernel
                  have h2 : ¬ ("wide" : Str) = "part" := by decide +kernel
                  simp [cnt, h1, h2]
              have hg := DGet.k (k := Sum.inr w) hd4
              rw [hvw] at hg
              refine ⟨_, hg, ?_⟩
              have hkd4 := s4 _ _ hkd2
              have hl4 : H4 l = some (.lst xs) := s4 _ _ (b2 _ _ (s1 _ _ hl) (ne_of (s1 _ _ hl) hkd1 (by intro z; cases z)))
              have hS4 := ((hS.same s1).butD b2 hkd1).same s4
              have hB4 := hB2.but (kd := kd) (.of s4) hkd2
              have skip : okW longest i m w = false → iv_best ts (grow n) longest e i b m H1 l kd kq kvs (j + 1) [some (.ref l), some (.int longest), some (.int i), some (.int b), some (.int m), some (.ref kd), some (.ref kq), some v, some (.str w), some (.int (cnt w m : Nat)), y10, y11, y12] H4 := fun hno =>
                ⟨v, _, _, _, _, _, kvs2, rfl, b2.thenS s4, hkd4, hK2.same s4, by rw [Nat.add_mul]; omega, by rw [hfw]; unfold stepB; rw [if_neg (by rw [hno]; simp)]; exact hB4⟩
              walk_at "ru"
              subst hK_
              refine tIfS_k fun T_ hT_ => ?_
              walk_at "ru"
              have body : okW longest i m w = true → T_ [some (.ref l), some (.int longest), some (.int i), some (.int b), some (.int m), some (.ref kd), some (.ref kq), some v, some (.str w), some (.int (cnt w m : Nat)), y10, y11, y12] H4 := by
                intro hok
                subst hT_
                with_reducible refine seq_k fun K_ hK_ => ?_
                walk_at "ru"
                refine ⟨l, xs, ts, w, i, b, rfl, hl4, hS4, by omega, hb, fun e => hpart e hok, fun H5 s5 => ?_⟩
                have s25 := s4.trans s5
                have hl5 := s5 _ _ hl4
                have hS5 := hS4.same s5
                have hkd5 := s5 _ _ hkd4
                have hK5 := hK2.same s25
                walk_at "ru"
                subst hK_
                first | with_reducible refine seq_k fun K_ hK_ => ?_ | skip
                walk_at "ru"
                by_cases cw : w = "whole"
                · rw [if_pos (by simpa using cw)]
                  refine ⟨l, kd, xs, ts, longest, i + 1, i, cnt w m, kvs2, rfl, hl5, hS5, by omega, by omega, by omega, h1, hkd5, hK5, by rw [hgr] at hlen; have : j * grow n ≤ 2 * grow n := Nat.mul_le_mul_right _ (by omega); omega, h8, fun r2 x2 kvs6 H6 e6 b6 hkd6 hK6 hl6 hB6 => ?_⟩
                  rw [he2] at e6
                  have hnb : nbase w i b = i := by unfold nbase; rw [if_pos cw]
                  have e6' : bestF ts longest e (i + 1) (nbase w i b) (cnt w m) = some x2 := by rw [hnb]; exact e6
                  have hx2 := (bestF_words e6').1
                  obtain ⟨wl2, hr2, hwl2⟩ := hB6
                  refine ⟨r2, _, rfl, sqT hr2, rfl, ?_⟩
                  have hv6 := (hB2.but (.of s25) hkd2).but b6 hkd5
                  have b06 : But kd H1 H6 := (b2.thenS s25).trans b6
                  have hkl6 : kvs6.length ≤ kvs.length + (j + 1) * grow n := by rw [Nat.add_mul]; omega
                  have hfold : ∀ acc, (planWords.take j).foldl (stepB ts longest e i b m) none = acc → (planWords.take (j + 1)).foldl (stepB ts longest e i b m) none = comb acc (some (addW (sizeW ts w i b) w x2)) := fun acc ha => by
                    rw [hfw, ha]
                    unfold stepB
                    rw [if_pos hok, e6']
                    rfl
                  walk_at "ru"
                  subst hK_
                  refine tIfS_k fun T_ hT_ => ?_
                  walk_at "ru"
                  have take1 : comb ((planWords.take j).foldl (stepB ts longest e i b m) none) (some (addW (sizeW ts w i b) w x2)) = some (addW (sizeW ts w i b) w x2) → T_ [some (.ref l), some (.int longest), some (.int i), some (.int b), some (.int m), some (.ref kd), some (.ref kq), some v, some (.str w), some (.int (cnt w m : Nat)), some (.int (sizeW ts w i b : Nat)), some (.int (x2.1 : Nat)), some (.ref wl2)] H6 := by
                    intro hc
                    subst hT_
                    walk_at "ru"
                    intro lw n_lw
                    generalize hG_ : upd _ lw _ = H7
                    obtain ⟨s7, hlw⟩ := newF n_lw hG_
                    clear hG_
                    refine ⟨lw, wl2, _, _, rfl, rfl, hlw, s7 _ _ hwl2, sz (by simp; omega), ?_⟩
                    intro lw2 n_lw2
                    generalize hG_ : upd _ lw2 _ = H8
                    obtain ⟨s8, hlw2⟩ := newF n_lw2 hG_
                    clear hG_
                    intro r3 n_r3
                    generalize hG_ : upd _ r3 _ = H9
                    obtain ⟨s9, hr3⟩ := newF n_r3 hG_
                    clear hG_
                    have s69 := (s7.trans s8).trans s9
                    refine ⟨.ref r3, _, _, _, _, _, kvs6, rfl, b06.thenS s69, s69 _ _ hkd6, hK6.same s69, hkl6, .inr ⟨r3, _, (hfold _ rfl).trans hc, rfl, lw2, ?_, s9 _ _ hlw2⟩⟩
                    rw [hr3]
                    simp only [addW, Int.natCast_add]
                  have keep1 : comb ((planWords.take j).foldl (stepB ts longest e i b m) none) (some (addW (sizeW ts w i b) w x2)) = (planWords.take j).foldl (stepB ts longest e i b m) none → iv_best ts (grow n) longest e i b m H1 l kd kq kvs (j + 1) [some (.ref l), some (.int longest), some (.int i), some (.int b), some (.int m), some (.ref kd), some (.ref kq), some v, some (.str w), some (.int (cnt w m : Nat)), some (.int (sizeW ts w i b : Nat)), some (.int (x2.1 : Nat)), some (.ref wl2)] H6 := fun hc =>
                    ⟨v, _, _, _, _, _, kvs6, rfl, b06, hkd6, hK6, hkl6, by rw [hfold _ rfl, hc]; exact hv6⟩
                  rcases hv6 with ⟨hn6, rfl⟩ | ⟨r0, y0, hn6, rfl, wl0, hr0, hwl0⟩
                  · rw [if_pos rfl]
                    exact take1 (by rw [hn6]; rfl)
                  · rw [if_neg (by simp)]
                    refine ixT (j := 0) (sqT hr0) rfl rfl ?_
                    walk_at "ru"
                    by_cases clt : sizeW ts w i b + x2.1 < y0.1
                    · rw [if_pos (by omega)]
                      exact take1 (by rw [hn6]; exact comb_lt clt)
                    · rw [if_neg (by omega)]
                      exact keep1 (by rw [hn6]; exact comb_ge clt)
                · rw [if_neg (by simpa using cw)]
                  refine ⟨l, kd, xs, ts, longest, i + 1, b, cnt w m, kvs2, rfl, hl5, hS5, by omega, by omega, by omega, h1, hkd5, hK5, by rw [hgr] at hlen; have : j * grow n ≤ 2 * grow n := Nat.mul_le_mul_right _ (by omega); omega, h8, fun r2 x2 kvs6 H6 e6 b6 hkd6 hK6 hl6 hB6 => ?_⟩
                  rw [he2] at e6
                  have hnb : nbase w i b = b := by unfold nbase; rw [if_neg cw]
                  have e6' : bestF ts longest e (i + 1) (nbase w i b) (cnt w m) = some x2 := by rw [hnb]; exact e6
                  have hx2 := (bestF_words e6').1
                  obtain ⟨wl2, hr2, hwl2⟩ := hB6
                  refine ⟨r2, _, rfl, sqT hr2, rfl, ?_⟩
                  have hv6 := (hB2.but (.of s25) hkd2).but b6 hkd5
                  have b06 : But kd H1 H6 := (b2.thenS s25).trans b6
                  have hkl6 : kvs6.length ≤ kvs.length + (j + 1) * grow n := by rw [Nat.add_mul]; omega
                  have hfold : ∀ acc, (planWords.take j).foldl (stepB ts longest e i b m) none = acc → (planWords.take (j + 1)).foldl (stepB ts longest e i b m) none = comb acc (some (addW (sizeW ts w i b) w x2)) := fun acc ha => by
                    rw [hfw, ha]
                    unfold stepB
                    rw [if_pos hok, e6']
                    rfl
                  walk_at "ru"
                  subst hK_
                  refine tIfS_k fun T_ hT_ => ?_
                  walk_at "ru"
                  have take1 : comb ((planWords.take j).foldl (stepB ts longest e i b m) none) (some (addW (sizeW ts w i b) w x2)) = some (addW (sizeW ts w i b) w x2) → T_ [some (.ref l), some (.int longest), some (.int i), some (.int b), some (.int m), some (.ref kd), some (.ref kq), some v, some (.str w), some (.int (cnt w m : Nat)), some (.int (sizeW ts w i b : Nat)), some (.int (x2.1 : Nat)), some (.ref wl2)] H6 := by
                    intro hc
                    subst hT_
                    walk_at "ru"
                    intro lw n_lw
                    generalize hG_ : upd _ lw _ = H7
                    obtain ⟨s7, hlw⟩ := newF n_lw hG_
                    clear hG_
                    refine ⟨lw, wl2, _, _, rfl, rfl, hlw, s7 _ _ hwl2, sz (by simp; omega), ?_⟩
                    intro lw2 n_lw2
                    generalize hG_ : upd _ lw2 _ = H8
                    obtain ⟨s8, hlw2⟩ := newF n_lw2 hG_
                    clear hG_
                    intro r3 n_r3
                    generalize hG_ : upd _ r3 _ = H9
                    obtain ⟨s9, hr3⟩ := newF n_r3 hG_
                    clear hG_
                    have s69 := (s7.trans s8).trans s9
                    refine ⟨.ref r3, _, _, _, _, _, kvs6, rfl, b06.thenS s69, s69 _ _ hkd6, hK6.same s69, hkl6, .inr ⟨r3, _, (hfold _ rfl).trans hc, rfl, lw2, ?_, s9 _ _ hlw2⟩⟩
                    rw [hr3]
                    simp only [addW, Int.natCast_add]
                  have keep1 : comb ((planWords.take j).foldl (stepB ts longest e i b m) none) (some (addW (sizeW ts w i b) w x2)) = (planWords.take j).foldl (stepB ts longest e i b m) none → iv_best ts (grow n) longest e i b m H1 l kd kq kvs (j + 1) [some (.ref l), some (.int longest), some (.int i), some (.int b), some (.int m), some (.ref kd), some (.ref kq), some v, some (.str w), some (.int (cnt w m : Nat)), some (.int (sizeW ts w i b : Nat)), some (.int (x2.1 : Nat)), some (.ref wl2)] H6 := fun hc =>
                    ⟨v, _, _, _, _, _, kvs6, rfl, b06, hkd6, hK6, hkl6, by rw [hfold _ rfl, hc]; exact hv6⟩
                  rcases hv6 with ⟨hn6, rfl⟩ | ⟨r0, y0, hn6, rfl, wl0, hr0, hwl0⟩
                  · rw [if_pos rfl]
                    exact take1 (by rw [hn6]; rfl)
                  · rw [if_neg (by simp)]
                    refine ixT (j := 0) (sqT hr0) rfl rfl ?_
                    walk_at "ru"
                    by_cases clt : sizeW ts w i b + x2.1 < y0.1
                    · rw [if_pos (by omega)]
                      exact take1 (by rw [hn6]; exact comb_lt clt)
                    · rw [if_neg (by omega)]
                      exact keep1 (by rw [hn6]; exact comb_ge clt)
              by_cases cl : cnt w m ≤ longest
              · rw [if_pos (by omega)]
                by_cases ci : 0 < i
                · rw [if_pos (by omega)]
                  exact body (by simp [okW, cl, ci])
                · rw [if_neg (by omega)]
                  by_cases cw : w = "whole"
                  · rw [if_pos (by simpa using cw)]
                    exact body (by unfold okW; rw [decide_eq_true cl]; simp [cw])
                  · rw [if_neg (by simpa using cw)]
                    exact skip (by simp [okW, ci, cw])
              · rw [if_neg (by omega)]
                exact skip (by simp [okW, cl])
          · obtain ⟨v, y8, y9, y10, y11, y12, kvs2, rfl, b2, hkd2, hK2, hl2, hB2⟩ := iv
            have hgr : grow (n + 1) = 3 * grow n + 1 := rfl
            have hkq2 : H2 kq = some (.tup ((keyT i b m).map kV)) := b2 _ _ hkq' (ne_of hkq' hkd1 (by intro z; cases z))
            have hml : (planWords.map V.str).length = 3 := rfl
            rw [hml] at hl2 hB2
            have hfull : (planWords.take 3).foldl (stepB ts longest e i b m) none = bestF ts longest (ts.length - i) i b m := by rw [he, bestF_step]; rfl
            rw [hfull] at hB2
            have hne := bestF_some ts h1 (ts.length - i) i b m
            rcases hB2 with ⟨hn2, _⟩ | ⟨r, x, hx, rfl, hBx⟩
            · exact absurd hn2 hne
            · walk_at "ru"
              subst hK_
              first | with_reducible refine seq_k fun K_ hK_ => ?_ | skip
              walk_at "ru"
              refine ⟨_, DPut.t hkd2 hkq2 (szl (by omega)), ?_⟩
              generalize hG : upd H2 kd _ = H3
              have hkd3 : H3 kd = some (.dT (putK kvs2 (keyT i b m) (.ref r))) := by rw [← hG]; exact upd_same
              have b23 : But kd H2 H3 := by rw [← hG]; exact But.upd
              clear hG
              have hkq3 := b23 _ _ hkq2 (ne_of hkq2 hkd2 (by intro z; cases z))
              have hBx3 := hBx.but b23 hkd2
              walk_at "ru"
              subst hK_
              first | with_reducible refine seq_k fun K_ hK_ => ?_ | skip
              walk_at "ru"
              have hg := DGet.t hkd3 hkq3
              rw [valV_put, if_pos rfl] at hg
              refine ⟨_, hg, q r x _ H3 hx (Same.thenB s1 (b2.trans b23)) hkd3 (fun e he => ?_) ?_ hBx3⟩
              · rcases putT_mem he with rfl | he
                · exact ⟨i, b, m, r, x, rfl, hx, hBx3⟩
                · obtain ⟨i', b', m', r', x', g1, g2, g3⟩ := hK2 e he
                  exact ⟨i', b', m', r', x', g1, g2, g3.but b23 hkd2⟩
              · have := length_putK kvs2 (keyT i b m) (.ref r)
                omega
end
end Nk
namespace Nk
open PySem L2
section
variable {P : Program} {w : World} {K : PySem.W.Frag} {mg : Str → Option Value} {base : Heap}
abbrev nm_cheapest : List Str := ["states", "longest"]
abbrev pm_cheapest : List Str := ["states", "longest"]
abbrev lv_cheapest : Nat := 14
theorem sc_cheapest : FnScope nm_cheapest pm_cheapest (defScope s_cheapest) := ⟨rfl, rfl, rfl, by decide +kernel, rfl, by decide +kernel, by decide +kernel⟩
def sp_cheapest (K : PySem.W.Frag) (mg : Str → Option Value) : Sp := fun vs H Q E => ∃ (l : Addr) (xs : List V) (ts : List Tb) (longest : Nat), vs = [.ref l, .int longest] ∧ H l = some (.lst xs) ∧ StsAt mg H xs ts ∧ 1 ≤ ts.length ∧ ts.length ≤ 8 ∧ 1 ≤ longest ∧ longest ≤ 10 ∧
  ∀ (r : Addr) (x : Nat × List Str) (H' : Hp), bestF ts longest ts.length 0 0 0 = some x → Same H H' → BestAt H' r x → Q (.ref r) H'
theorem f_cheapest (T : Txt K mg) : Fk P w K mg base (L2.CX P w) lv_cheapest "cheapest" pm_cheapest (sp_cheapest K mg) := by
  obtain ⟨f, fd, F, g, b⟩ := T.d_cheapest.ex
  refine ⟨f, fd, g, F.kp, b, F.okX sc_cheapest (fun vs H Q E h => ?_) (fun cdv A outer s H vs Q E hr h => ?_)⟩
  · obtain ⟨l, xs, ts, longest, rfl, _⟩ := h; rfl
  · obtain ⟨l, xs, ts, longest, rfl, hl, hS, h1, h8, n1, n10, q⟩ := h
    refine ⟨_, (pss_cons (ps_expr (pe_fn (f_look_states T) (hr.mono (by decide)) (by rfl) (passX (takes_of rfl rfl rfl rfl)) (pa_cons (pv 0) pa_nil)))
      (pss_cons (ps_if (pt_not (pt_val (pe_fn (f_is_number T) (hr.mono (by decide)) (by rfl) pass0 (pa_cons (pv 1) (pa_cons pe_int (pa_cons pe_int pa_nil)))))) (pss_one (ps_raise rfl (takes_of rfl rfl rfl rfl) (pmk_own PySem.F.excBase_RuntimeError T.x_BadNumber.xP T.x_BadNumber.gP T.x_BadNumber.kP T.x_BadNumber.rs rfl))) pss_nil)
      (pss_one (ps_ret (pe_fn (f_best_from T 8) (hr.mono (by decide)) (by rfl) pass0 (pa_cons (pv 0) (pa_cons (pv 1) (pa_cons pe_int (pa_cons pe_int (pa_cons pe_int (pa_cons pe_dnewT pa_nil))))))))))), ?_⟩
    have hxl := hS.len
    with_reducible refine seq_k fun K_ hK_ => ?_
    walk_at "ru"
    refine ⟨l, xs, rfl, hl, by omega, fun _ _ => ?_, fun c => absurd ⟨by omega, by omega⟩ c⟩
    walk_at "ru"
    subst hK_
    first | with_reducible refine seq_k fun K_ hK_ => ?_ | skip
    walk_at "ru"
    refine ⟨.int longest, _, 1, .int 10, rfl, .int _, fun _ _ => ⟨10, rfl⟩, _, rfl, ?_⟩
    have e : isNumV (.int longest) 1 (.int 10) = true := by simp [isNumV]; omega
    rw [e, if_neg (by simp)]
    walk_at "ru"
    subst hK_
    first | with_reducible refine seq_k fun K_ hK_ => ?_ | skip
    walk_at "ru"
    intro kd nkd
    generalize hG : upd H kd _ = H1
    obtain ⟨s1, hkd⟩ := newF nkd hG
    clear hG
    refine ⟨l, kd, xs, ts, longest, 0, 0, 0, [], rfl, s1 _ _ hl, hS.same s1, by omega, by omega, by omega, n1, hkd, (fun _ h => nomatch h), by decide, h8, fun r x kvs' H2 e2 b2 _ _ _ hB => ?_⟩
    exact q r x H2 e2 (fun z o hz => b2 _ _ (s1 _ _ hz) (ne_of_none hz nkd)) hB
/-- lists of words that stand -/
def WsAt (H : Hp) : List V → List (List Str) → Prop
  | [], [] => True
  | x :: xs, p :: ps => (∃ l, x = .ref l ∧ H l = some (.lst (p.map V.str))) ∧ WsAt H xs ps
  | _, _ => False
theorem WsAt.same {H H' : Hp} (s : Same H H') : ∀ {xs : List V} {ps : List (List Str)}, WsAt H xs ps → WsAt H' xs ps
  | [], [], _ => trivial
  | x :: xs, p :: ps, ⟨⟨q, e, hq⟩, r⟩ => ⟨⟨q, e, s _ _ hq⟩, WsAt.same s r⟩
theorem WsAt.len {H : Hp} : ∀ {xs : List V} {ps : List (List Str)}, WsAt H xs ps → xs.length = ps.length
  | [], [], _ => rfl
  | x :: xs, p :: ps, ⟨_, r⟩ => by simp [WsAt.len r]
theorem WsAt.app {H : Hp} : ∀ {xs ys : List V} {ps qs : List (List Str)}, WsAt H xs ps → WsAt H ys qs → WsAt H (xs ++ ys) (ps ++ qs)
  | [], _, [], _, _, h => h
  | x :: xs, _, p :: ps, _, ⟨a, r⟩, h => ⟨a, WsAt.app r h⟩
theorem WsAt.one {H : Hp} {l : Addr} {p : List Str} (h : H l = some (.lst (p.map V.str))) : WsAt H [.ref l] [p] := ⟨⟨l, rfl, h⟩, trivial⟩
theorem WsAt.get {H : Hp} : ∀ {xs : List V} {ps : List (List Str)}, WsAt H xs ps → ∀ {i : Nat} {x : V}, xs[i]? = some x → ∃ p l, ps[i]? = some p ∧ x = .ref l ∧ H l = some (.lst (p.map V.str))
  | x :: xs, p :: ps, ⟨⟨q, e, hq⟩, r⟩, 0, y, hy => by
    cases hy
    exact ⟨p, q, rfl, e, hq⟩
  | x :: xs, p :: ps, ⟨_, r⟩, i + 1, y, hy => WsAt.get r hy
  | [], [], _, i, y, hy => by simp at hy
theorem WsAt.off {H : Hp} {D : Addr} {o : List V} : ∀ {xs : List V} {ps : List (List Str)}, (∀ x ∈ xs, x ≠ .ref D) → WsAt H xs ps → WsAt (upd H D (.lst o)) xs ps
  | [], [], _, _ => trivial
  | x :: xs, p :: ps, hn, ⟨⟨q, e, h1⟩, r⟩ => ⟨⟨q, e, by rw [upd_ne (fun z => hn x List.mem_cons_self (by rw [e, z]))]; exact h1⟩, WsAt.off (fun x hx => hn x (List.mem_cons_of_mem _ hx)) r⟩
/-- pairs of a plan and a word; the plans stand in H0 -/
def BothAt (H0 H : Hp) : List V → List (List Str × Str) → Prop
  | [], [] => True
  | x :: xs, p :: ps => (∃ q l, x = .ref q ∧ H q = some (.tup [.ref l, .str p.2]) ∧ H0 l = some (.lst (p.1.map V.str))) ∧ BothAt H0 H xs ps
  | _, _ => False
theorem BothAt.tups {H0 H H' : Hp} (h : ∀ b xs, H b = some (.tup xs) → H' b = some (.tup xs)) : ∀ {xs : List V} {ps : List (List Str × Str)}, BothAt H0 H xs ps → BothAt H0 H' xs ps
  | [], [], _ => trivial
  | x :: xs, p :: ps, ⟨⟨q, l, e, hq, hl⟩, r⟩ => ⟨⟨q, l, e, h _ _ hq, hl⟩, BothAt.tups h r⟩
theorem BothAt.len {H0 H : Hp} : ∀ {xs : List V} {ps : List (List Str × Str)}, BothAt H0 H xs ps → xs.length = ps.length
  | [], [], _ => rfl
  | x :: xs, p :: ps, ⟨_, r⟩ => by simp [BothAt.len r]
theorem BothAt.app {H0 H : Hp} : ∀ {xs ys : List V} {ps qs : List (List Str × Str)}, BothAt H0 H xs ps → BothAt H0 H ys qs → BothAt H0 H (xs ++ ys) (ps ++ qs)
  | [], _, [], _, _, h => h
  | x :: xs, _, p :: ps, _, ⟨a, r⟩, h => ⟨a, BothAt.app r h⟩
theorem BothAt.one {H0 H : Hp} {q l : Addr} {p : List Str} {w : Str} (h : H q = some (.tup [.ref l, .str w])) (h0 : H0 l = some (.lst (p.map V.str))) : BothAt H0 H [.ref q] [(p, w)] := ⟨⟨q, l, rfl, h, h0⟩, trivial⟩
theorem BothAt.get {H0 H : Hp} : ∀ {xs : List V} {ps : List (List Str × Str)}, BothAt H0 H xs ps → ∀ {i : Nat} {x : V}, xs[i]? = some x → ∃ p q l, ps[i]? = some p ∧ x = .ref q ∧ H q = some (.tup [.ref l, .str p.2]) ∧ H0 l = some (.lst (p.1.map V.str))
  | x :: xs, p :: ps, ⟨⟨q, l, e, hq, hl⟩, r⟩, 0, y, hy => by
    cases hy
    exact ⟨p, q, l, rfl, e, hq, hl⟩
  | x :: xs, p :: ps, ⟨_, r⟩, i + 1, y, hy => BothAt.get r hy
  | [], [], _, i, y, hy => by simp at hy
def bothL (pss : List (List Str)) : List (List Str × Str) := pss.flatMap fun p => planWords.map fun w => (p, w)
theorem bothL_len (pss : List (List Str)) : (bothL pss).length = 3 * pss.length := by
  unfold bothL
  rw [List.length_flatMap]
  simp only [List.length_map]
  rw [List.map_const', List.sum_replicate_nat]
  simp [planWords, Nat.mul_comm]
theorem bothL_next {pss : List (List Str)} {i : Nat} {p : List Str} (h : pss[i]? = some p) : bothL (pss.take (i + 1)) = bothL (pss.take i) ++ planWords.map fun w => (p, w) := by
  unfold bothL
  rw [take_next h, List.flatMap_append]
  simp
end
end Nk
namespace Nk
open PySem L2
section
/-- {k: v}: one pair, the key a tuple -/
def tDispT1 (tk tv : TE) : TE := fun σ H Q => ∀ p, H p = none → tk σ (upd H p (.dT [])) fun x H1 => tv σ H1 fun y H2 => ∃ b ks, x = .ref b ∧ H2 p = some (.dT []) ∧ H2 b = some (.tup (ks.map kV)) ∧ Q (.ref p) (upd H2 p (.dT [(ks, y)]))
theorem pe_dispT1 {X : Cx} {pos : Pos} {k v : Expr} {tk tv : TE} (hu : X.A.units + 1 < cLine) (hk : PE X k tk) (hv : PE X v tv) : PE X (.Dict [some k] [v] pos) (tDispT1 tk tv) := by
  refine ⟨fun pins s σ H Q I q => ?_⟩
  have hn := I.hok.fresh (Nat.le_refl s.heap.objs.size)
  have I1 := I.laid (a := s.heap.objs.size) (o := .dT []) (h' := s.heap.push { cls := .type "dict", data := .dict #[] }) (t' := s.toks) (fun _ _ q => Heap.get?_push_of_some _ q) (Nat.le_refl _) (dt_empty s.heap I.big)
  have hlen := pairTrees_length [some k] [v] X.env pos rfl rfl
  rw [arm_eval_Dict, zip_pairTrees [some k] [v] X.env pos rfl rfl, dictDisplay_pairs _ (fun z => by rw [z] at hlen; cases hlen) (by rw [hlen]; exact Nat.lt_of_sub_eq_succ rfl)]
  refine wpAny_bind (wpAny_standAt (wpAny_bind (wpAny_subDictH (knd := tupleKind (mixKind X.prog X.w)) (show X.A.units < cLine from by omega) (by rw [hlen]; exact Nat.lt_of_sub_eq_succ rfl) ?_)))
  have hps : PPs X pos [some k] [v] [(tk, tv)] := pps_cons hk hv pps_nil
  refine thn (hps.run pins _ σ _ (fun ps H2 => match ps with | [(x, y)] => ∃ b ks, x = .ref b ∧ H2 s.heap.objs.size = some (.dT []) ∧ H2 b = some (.tup (ks.map kV)) ∧ Q (.ref s.heap.objs.size) (upd H2 s.heap.objs.size (.dT [(ks, y)])) | _ => False) I1 ?_) fun ws s2 ⟨ps, H2, I2, rel, hq⟩ => ?_
  · exact q _ hn
  · match ps, hq with
    | [(x, y)], ⟨b, ks, ex, e, eb, q2⟩ =>
      subst ex
      cases rel with
      | @cons p r ps qs h t =>
      cases t
      obtain ⟨r1, r2⟩ := r
      obtain rfl : r1 = Value.ref b := h.1
      obtain ⟨z, hd, xs0, r0, dd⟩ := dt_of I2.hok e
      cases r0
      refine ⟨[(ks, b, r2)], ⟨rfl, rfl, key_of I2.hok eb, trivial⟩, dd, fun h' tk' dd' hs => wpAny_pure ⟨.ref s.heap.objs.size, _, ?_, rfl, q2⟩⟩
      obtain ⟨qo, es, ep, hq, h2, h3, h4, _, h5⟩ := dd'
      refine d_write I2 (by rw [e]; exact True.intro) hs ⟨qo, hq⟩ ⟨by rw [sizeLine_eq]; simp, hd, _, .cons (a := (ks, y)) (b := (ks, b, r2)) ⟨rfl, ?_, h.2⟩ .nil, qo, es, ep, hq, h2, h3, h4, h5⟩
      rw [upd_ne (ne_of eb e (fun z => nomatch z))]
      exact eb
end
def keyB (b m : Nat) : List Key := [Sum.inl (b : Nat), Sum.inl (m : Nat)]
def entD (e : (Nat × Nat) × Nat) : List Key × V := (keyB e.1.1 e.1.2, .int (e.2 : Nat))
theorem keyB_iff {b m b' m' : Nat} : keyB b m = keyB b' m' ↔ (b, m) = (b', m') := by
  simp only [keyB, List.cons.injEq, Sum.inl.injEq, and_true, Prod.mk.injEq]
  omega
theorem val_entD (b m : Nat) : ∀ d : DM, valV (d.map entD) (keyB b m) = (lkD d (b, m)).map fun v => V.int (v : Nat)
  | [] => rfl
  | e :: d => by
    have ih := val_entD b m d
    rw [List.map_cons]
    by_cases c : e.1 = (b, m)
    · rw [valV_pos (keyB_iff.mpr c)]
      unfold lkD
      rw [List.find?_cons]
      simp only [decide_eq_true c]
      rfl
    · rw [valV_neg (fun z => c (keyB_iff.mp z)), ih]
      unfold lkD
      rw [List.find?_cons]
      simp only [decide_eq_false c]
theorem ent_iff {e : (Nat × Nat) × Nat} {b m : Nat} : (entD e).1 = keyB b m ↔ e.1 = (b, m) := keyB_iff
theorem any_entD (b m : Nat) (d : DM) : ((d.map entD).any fun kv => decide (kv.1 = keyB b m)) = d.any fun e => decide (e.1 = (b, m)) := by
  rw [List.any_map]
  congr 1
  funext e
  show decide ((entD e).1 = keyB b m) = decide (e.1 = (b, m))
  by_cases c : e.1 = (b, m)
  · rw [decide_eq_true c, decide_eq_true (ent_iff.mpr c)]
  · rw [decide_eq_false c, decide_eq_false (fun z => c (ent_iff.mp z))]
theorem put_entD (b m v : Nat) (d : DM) : putK (d.map entD) (keyB b m) (.int (v : Nat)) = (putD d (b, m) v).map entD := by
  unfold putK putD
  rw [any_entD]
  split
  · rw [List.map_map, List.map_map]
    refine List.map_congr_left fun e _ => ?_
    simp only [Function.comp]
    by_cases c : e.1 = (b, m)
    · rw [if_pos c, if_pos (show (entD e).1 = keyB b m from keyB_iff.mpr c)]
      rfl
    · rw [if_neg c, if_neg (fun z => c (ent_iff.mp z))]
  · rw [List.map_append]
    rfl
theorem size_le {ts : List Tb} (h : ∀ t ∈ ts, OkT t ∧ t.length ≤ 20) (w : Str) (i b : Nat) : sizeW ts w i b ≤ 100 := by
  have g : ∀ i, OkT (ts.getD i []) ∧ (ts.getD i []).length ≤ 20 := fun i => by
    rw [List.getD_eq_getElem?_getD]
    cases e : ts[i]? with
    | none => exact ⟨OkT.nil, by simp⟩
    | some t => exact h t (mem_of_get e)
  unfold sizeW
  split
  · have := (g i).2
    omega
  · have h1 := g (if w = "part" then i - 1 else b)
    have h2 := g i
    have := (part_good h1.1 h2.1 h1.2 h2.2).len
    omega
section
variable {P : Program} {w : World} {K : PySem.W.Frag} {mg : Str → Option Value} {base : Heap}
abbrev nm__law_least : List Str := ["tables", "deep", "best", "k", "later", "base", "many", "room", "ways", "key", "size"]
abbrev pm__law_least : List Str := ["tables", "deep"]
abbrev lv__law_least : Nat := 2
theorem sc__law_least : FnScope nm__law_least pm__law_least (defScope s__law_least) := ⟨rfl, rfl, rfl, by decide +kernel, rfl, by decide +kernel, by decide +kernel⟩
def sp__law_least : Sp := fun vs H Q _ => ∃ (l : Addr) (xs : List V) (ts : List Tb) (deep : Nat), vs = [.ref l, .int deep] ∧ H l = some (.lst xs) ∧ TabsAt H xs ts ∧ (∀ t ∈ ts, OkT t ∧ t.length ≤ 20) ∧ 1 ≤ ts.length ∧ ts.length ≤ 8 ∧ 1 ≤ deep ∧
  ∀ x H', bestF ts deep ts.length 0 0 0 = some x → Same H H' → Q (.int (x.1 : Nat)) H'
def iv_least (H0 : Hp) (l : Addr) (ts : List Tb) (deep k : Nat) (σ : L2.St) (H : Hp) : Prop :=
  ∃ d y3 y4 y5 y6 y7 y8 y9 y10, σ = [some (.ref l), some (.int deep), some (.ref d), y3, y4, y5, y6, y7, y8, y9, y10] ∧ Same H0 H ∧ H0 d = none ∧ H d = some (.dT ((leastD ts deep k).map entD))
def iv_least2 (H0 : Hp) (l d e : Addr) (ts : List Tb) (deep k : Nat) (u : HO) (σ0 : L2.St) (j : Nat) (σ : L2.St) (H : Hp) : Prop :=
  ∃ y5 y6 y7 y8 y9 y10, σ = σ0 ++ [y5, y6, y7, y8, y9, y10] ∧ Same H0 H ∧ H d = some u ∧ H e = some (.dT ((((leastD ts deep k).take j).foldl (stepE ts deep (k + 1) (leastD ts deep k)) []).map entD))
def iv_least3 (H0 : Hp) (e : Addr) (ts : List Tb) (deep k b m room : Nat) (acc : DM) (σ0 : L2.St) (i : Nat) (σ : L2.St) (H : Hp) : Prop :=
  ∃ y9 y10, σ = σ0 ++ [y9, y10] ∧ But e H0 H ∧ H e = some (.dT (((planWords.take i).foldl (stepW ts deep k b m room) acc).map entD))
def iv_least4 (H0 : Hp) (D : Addr) (d : DM) (i : Nat) (H : Hp) : Prop := Same H0 H ∧ H D = some (.lst (((d.take i).map fun e => V.int (((lkD d e.1).getD 0 : Nat) : Int))))
theorem f__law_least (T : Txt K mg) : Fk P w K mg base CX0 lv__law_least "_law_least" pm__law_least sp__law_least := by
  obtain ⟨f, fd, F, g, b⟩ := T.d__law_least.ex
  refine ⟨f, fd, g, F.kp, b, F.ok sc__law_least (fun vs H Q E h => ?_) (fun cdv A outer s H vs Q E hr h => ?_)⟩
  · obtain ⟨l, xs, ts, deep, rfl, _⟩ := h; rfl
  · obtain ⟨l, xs, ts, deep, rfl, hl, hT, gt, l1, l8, hdeep, q⟩ := h
    have hu := hu_of hr
    refine ⟨_, (pss_cons (ps_set (i := 2) sc__law_least.nd rfl (.inr rfl) (pe_dispT1 hu (pe_tup (pa_cons pe_int (pa_cons pe_int pa_nil))) (pe_callB call_lenD (by rfl) T.b_len PySem.boot_len (pa_cons (pe_ix ix_list (pv 0) pe_int (fun _ _ => rfl)) pa_nil))))
      (pss_cons (ps_for PassesOwn.never rfl (pi_range2 (by rfl) T.b_range (pa_cons pe_int (pa_cons (pe_callB call_len_seq (by rfl) T.b_len PySem.boot_len (pa_cons (pv 0) pa_nil)) pa_nil))) (pg_name (i := 3) sc__law_least.nd rfl (Or.inl rfl)) (pss_cons (ps_set (i := 4) sc__law_least.nd rfl (.inl rfl) pe_dnewT)
      (pss_cons (ps_lock (ps_for PassesOwn.never rfl (pi_keys (pv 2)) (pg_tup rfl (pgs_cons (pg_name (i := 5) sc__law_least.nd rfl (Or.inl rfl)) (pgs_cons (pg_name (i := 6) sc__law_least.nd rfl (Or.inl rfl)) pgs_nil))) (pss_cons (ps_set (i := 7) sc__law_least.nd rfl (.inl rfl) (pe_dget hu (pv 2) (pe_tup (pa_cons (pv 5) (pa_cons (pv 6) pa_nil))) (fun _ _ => rfl)))
      (pss_cons (ps_set (i := 8) sc__law_least.nd rfl (.inl rfl) (pe_lst (pa_cons (pe_tup (pa_cons (pe_tup (pa_cons (pv 3) (pa_cons pe_int pa_nil))) (pa_cons (pe_callB call_lenD (by rfl) T.b_len PySem.boot_len (pa_cons (pe_ix ix_list (pv 0) (pv 3) (fun _ _ => rfl)) pa_nil)) pa_nil))) pa_nil)))
      (pss_cons (ps_expr (pe_bm PySem.F.plainAttrs_list PySem.F.slot_list_append PySem.F.type_list_append mt_append (pv 8) (pa_cons (pe_tup (pa_cons (pe_tup (pa_cons (pv 5) (pa_cons (pe_op op_add (pv 6) pe_int) pa_nil))) (pa_cons (pe_callB call_len_seq (by rfl) T.b_len PySem.boot_len (pa_cons (pe_fn (f__law_unlike T) (hr.mono (by decide)) (by rfl) pass0 (pa_cons (pe_ix ix_list (pv 0) (pe_op op_sub (pv 3) pe_int) (fun _ _ => rfl)) (pa_cons (pe_ix ix_list (pv 0) (pv 3) (fun _ _ => rfl)) pa_nil))) pa_nil)) pa_nil))) pa_nil)))
      (pss_cons (ps_expr (pe_bm PySem.F.plainAttrs_list PySem.F.slot_list_append PySem.F.type_list_append mt_append (pv 8) (pa_cons (pe_tup (pa_cons (pe_tup (pa_cons (pv 5) (pa_cons pe_int pa_nil))) (pa_cons (pe_callB call_len_seq (by rfl) T.b_len PySem.boot_len (pa_cons (pe_fn (f__law_unlike T) (hr.mono (by decide)) (by rfl) pass0 (pa_cons (pe_ix ix_list (pv 0) (pv 5) (fun _ _ => rfl)) (pa_cons (pe_ix ix_list (pv 0) (pv 3) (fun _ _ => rfl)) pa_nil))) pa_nil)) pa_nil))) pa_nil)))
      (pss_one (ps_for PassesOwn.never rfl (pi_list (pv 8)) (pg_tup rfl (pgs_cons (pg_name (i := 9) sc__law_least.nd rfl (Or.inl rfl)) (pgs_cons (pg_name (i := 10) sc__law_least.nd rfl (Or.inl rfl)) pgs_nil))) (pss_one (ps_if (pt_cmpR op_le (pe_ix ix_tup (pv 9) pe_int (fun _ _ => rfl)) (pv 1) (nomark _)) (pss_one (ps_dput hu (pv 4) (pv 9) (pe_callB (call_min2 rfl) (by rfl) T.b_min (by decide +kernel) (pa_cons (pe_dget2 hu (pv 4) (pv 9) pe_int ⟨rfl, rfl, rfl, rfl⟩) (pa_cons (pe_op op_add (pv 7) (pv 10)) pa_nil))) rfl)) pss_nil))))))))))
      (pss_one (ps_set (i := 2) sc__law_least.nd rfl (.inr rfl) (pv 4))))))
      (pss_one (ps_ret (pe_callB (cr_min rfl) (by rfl) T.b_min (by decide +kernel) (pa_cons (pe_lock (pe_lc (own := [("key", 9)]) (g := gName 9) (tt := tYes) (by rfl) sc__law_least.nd (pi_keys (pv 2)) (blkOk_by (own := [("key", 9)]) (N := nm__law_least) (sc := defScope s__law_least) (by decide +kernel)) (fun _ _ _ _ _ => (pg_name (i := 9) sc__law_least.nd rfl (Or.inl rfl))) (fun _ _ _ _ _ => pts_nil) (fun _ _ _ _ _ => (pe_dget hu (pv 2) (pv 9) (fun _ _ => rfl))))) pa_nil)))))), ?_⟩
    have hlen := hT.len
    have hB := size_le gt
    with_reducible refine seq_k fun K_ hK_ => ?_
    walk_at "ru"
    intro d0 nd0
    generalize hG : upd H d0 _ = H1
    obtain ⟨s1, hd1⟩ := newF nd0 hG
    clear hG
    walk_at "ru"
    intro kq n_kq
    generalize hG_ : upd _ kq _ = H2
    obtain ⟨s2, hkq⟩ := newF n_kq hG_
    clear hG_
    obtain ⟨t0, dt0, e1, e2, e3⟩ := (hT.same (s1.trans s2)).get (i := 0) (by omega)
    have et0 : ts.getD 0 [] = t0 := by rw [List.getD_eq_getElem?_getD, e1]; rfl
    refine ixL (j := 0) (sqL ((s1.trans s2) _ _ hl)) rfl e2 ?_
    walk_at "ru"
    refine ⟨_, e3, ?_⟩
    rw [kvsT_len]
    refine ⟨s2 _ _ hd1, keyB 0 1, hkq, ?_⟩
    generalize hG : upd H2 d0 _ = H3
    have s3 : Same H H3 := by rw [← hG]; exact Same.app (s1.trans s2) nd0
    have hd3 : H3 d0 = some (.dT ((leastD ts deep 0).map entD)) := by
      rw [← hG, upd_same]
      simp only [leastD, et0]
      rfl
    clear hG
    walk_at "ru"
    subst hK_
    first | with_reducible refine seq_k fun K_ hK_ => ?_ | skip
    walk_at "ru"
    refine ⟨_, .inl (sqL (s3 _ _ hl)), ?_⟩
    refine ⟨by omega, by omega, by omega, by omega, ?_⟩
    refine for_it walk_range (iv_least H l ts deep) ⟨d0, _, _, _, _, _, _, _, _, rfl, s3, nd0, hd3⟩ (fun _ _ _ _ _ => trivial) (fun k x σ H4 H5 hk iv hy => ?_) (fun σ H4 iv => ?_)
    · obtain ⟨d, y3, y4, y5, y6, y7, y8, y9, y10, rfl, s4, nd, hd4⟩ := iv
      obtain ⟨rfl, rfl⟩ := hy
      walk_at "ru"
      with_reducible refine seq_k fun K_ hK_ => ?_
      walk_at "ru"
      intro e ne
      generalize hG : upd _ e _ = H6
      obtain ⟨s6, he6⟩ := newF ne hG
      clear hG
      have hd6 := s6 _ _ hd4
      have ned : e ≠ d := (ne_of_none hd4 ne).symm
      have s46 := s4.trans s6
      have neH : H e = none := s4.free ne
      walk_at "ru"
      subst hK_
      first | with_reducible refine seq_k fun K_ hK_ => ?_ | skip
      walk_at "ru"
      refine ⟨d, _, hd6, trivial, fun od => ?_⟩
      generalize hG : upd H6 d _ = H7
      have s7 : Same H H7 := by rw [← hG]; exact Same.app s46 nd
      have hd7 : H7 d = some (.frz od (.dT ((leastD ts deep k).map entD))) := by rw [← hG]; exact upd_same
      have he7 : H7 e = some (.dT []) := by rw [← hG, upd_ne ned]; exact he6
      clear hG
      walk_at "ru"
      refine ⟨od, .inr ⟨_, hd7, ?_⟩⟩
      refine for_it walk_keysT (iv_least2 H l d e ts deep k (.frz od (.dT ((leastD ts deep k).map entD))) [some (.ref l), some (.int deep), some (.ref d), some (.int (1 + k)), some (.ref e)]) ⟨_, _, _, _, _, _, rfl, s7, hd7, he7⟩ (fun _ _ _ _ iv => ?_) (fun j x σ H8 H9 hj iv hy => ?_) (fun σ H8 iv => ?_)
      · obtain ⟨_, _, _, _, _, _, _, _, h, _⟩ := iv
        exact h
      · obtain ⟨z5, z6, z7, z8, z9, z10, rfl, s8, hd8, he8⟩ := iv
        obtain ⟨rfl, kk, vv, qa, hkk, rfl, hqa⟩ := hy
        rw [List.getElem?_map] at hkk
        cases een : (leastD ts deep k)[j]? with
        | none => rw [een] at hkk; cases hkk
        | some en =>
          rw [een] at hkk
          cases hkk
          obtain ⟨⟨bb, mm⟩, v0⟩ := en
          have hmem := mem_of_get een
          obtain ⟨room, hroom⟩ := lkD_some hmem
          have hbb : bb ≤ k := least_base hdeep hB (by omega) _ hmem
          have hstep : ((leastD ts deep k).take (j + 1)).foldl (stepE ts deep (k + 1) (leastD ts deep k)) [] = planWords.foldl (stepW ts deep (k + 1) bb mm room) (((leastD ts deep k).take j).foldl (stepE ts deep (k + 1) (leastD ts deep k)) []) := by
            rw [take_next een, List.foldl_append]
            simp only [List.foldl_cons, List.foldl_nil, stepE, hroom, Option.getD_some]
          have hacc := foldE_len ts deep (k + 1) (leastD ts deep k) ((leastD ts deep k).take j) []
          have hl7 := least_len8 ts deep (k := k) (by omega)
          rw [List.length_nil, List.length_take] at hacc
          generalize ((leastD ts deep k).take j).foldl (stepE ts deep (k + 1) (leastD ts deep k)) [] = acc at he8 hstep hacc
          have hqa' : H9 qa = some (.tup [.int bb, .int mm]) := hqa
          refine ⟨qa, [.int bb, .int mm], rfl, sqT hqa', rfl, ?_⟩
          walk_at "ru"
          with_reducible refine seq_k fun K_ hK_ => ?_
          walk_at "ru"
          intro kq2 n_kq2
          generalize hG_ : upd _ kq2 _ = HA
          obtain ⟨sA, hkq2⟩ := newF n_kq2 hG_
          clear hG_
          refine ⟨.int room, .inr ⟨_, keyB bb mm, kq2, .inr ⟨od, sA _ _ hd8⟩, rfl, hkq2, by rw [val_entD, hroom]; rfl⟩, ?_⟩
          have hT8 := hT.same s8
          have hl8 := s8 _ _ hl
          obtain ⟨tk, dk, f1, f2, f3⟩ := hT8.get (i := k + 1) (by omega)
          obtain ⟨tp, dp, g1, g2, g3⟩ := hT8.get (i := k) (by omega)
          obtain ⟨tb, db, h1, h2, h3⟩ := hT8.get (i := bb) (by omega)
          have etk : ts.getD (k + 1) [] = tk := by rw [List.getD_eq_getElem?_getD, f1]; rfl
          have etp : ts.getD k [] = tp := by rw [List.getD_eq_getElem?_getD, g1]; rfl
          have etb : ts.getD bb [] = tb := by rw [List.getD_eq_getElem?_getD, h1]; rfl
          have ok1 := gt tk (mem_of_get f1)
          have ok2 := gt tp (mem_of_get g1)
          have ok3 := gt tb (mem_of_get h1)
          walk_at "ru"
          subst hK_
          first | with_reducible refine seq_k fun K_ hK_ => ?_ | skip
          walk_at "ru"
          intro k1 n_k1
          generalize hG_ : upd _ k1 _ = HB
          obtain ⟨sB, hk1⟩ := newF n_k1 hG_
          clear hG_
          have s9B := sA.trans sB
          refine ixL (j := k + 1) (sqL (s9B _ _ hl8)) (by omega) f2 ?_
          walk_at "ru"
          refine ⟨_, s9B _ _ f3, ?_⟩
          rw [kvsT_len]
          intro t1 n_t1
          generalize hG_ : upd _ t1 _ = HC
          obtain ⟨sC, ht1⟩ := newF n_t1 hG_
          clear hG_
          intro wa n_wa
          generalize hG_ : upd _ wa _ = HD
          obtain ⟨sD, hwa⟩ := newF n_wa hG_
          clear hG_
          have s9D := (s9B.trans sC).trans sD
          have hk1D := (sC.trans sD) _ _ hk1
          have ht1D := sD _ _ ht1
          walk_at "ru"
          subst hK_
          first | with_reducible refine seq_k fun K_ hK_ => ?_ | skip
          walk_at "ru"
          refine ⟨tyL hwa, ?_⟩
          intro k2 n_k2
          generalize hG_ : upd _ k2 _ = HE
          obtain ⟨sE, hk2⟩ := newF n_k2 hG_
          clear hG_
          have s9E := s9D.trans sE
          refine ixL (j := k) (sqL (s9E _ _ hl8)) (by omega) g2 ?_
          refine ixL (j := k + 1) (sqL (s9E _ _ hl8)) (by omega) f2 ?_
          refine ⟨dp, dk, tp, tk, rfl, s9E _ _ g3, s9E _ _ f3, ok2.1, ok1.1, ok2.2, ok1.2, fun lq HF sF nF hP => ?_⟩
          obtain ⟨zs, hz, hPz⟩ := hP
          walk_at "ru"
          refine ⟨_, .inl (sqL hz), ?_⟩
          rw [hPz.len]
          intro t2 n_t2
          generalize hG_ : upd _ t2 _ = HG
          obtain ⟨sG, ht2⟩ := newF n_t2 hG_
          clear hG_
          have sDG := (sE.trans sF).trans sG
          have s9G := s9D.trans sDG
          have hwaG := sDG _ _ hwa
          refine appR hwaG (by simp) ?_
          generalize hG : upd HG wa _ = HI
          have bI : But wa HG HI := by rw [← hG]; exact But.upd
          have hwaI : HI wa = some (.lst [.ref t1, .ref t2]) := by rw [← hG]; exact upd_same
          clear hG
          have nwa : H9 wa = none := (s9B.trans sC).free n_wa
          have s9I : Same H9 HI := fun b o h => bI _ _ (s9G _ _ h) (ne_of_none h nwa)
          have tupI : ∀ z zs, HG z = some (.tup zs) → HI z = some (.tup zs) := fun z zs h => bI _ _ h (ne_of h hwaG (by intro z; cases z))
          have hk1I := tupI _ _ (sDG _ _ hk1D)
          have ht1I := tupI _ _ (sDG _ _ ht1D)
          have hk2I := tupI _ _ ((sF.trans sG) _ _ hk2)
          have ht2I := tupI _ _ ht2
          walk_at "ru"
          subst hK_
          first | with_reducible refine seq_k fun K_ hK_ => ?_ | skip
          walk_at "ru"
          refine ⟨tyL hwaI, ?_⟩
          intro k3 n_k3
          generalize hG_ : upd _ k3 _ = HJ
          obtain ⟨sJ, hk3⟩ := newF n_k3 hG_
          clear hG_
          have s9J := s9I.trans sJ
          refine ixL (j := bb) (sqL (s9J _ _ hl8)) rfl h2 ?_
          refine ixL (j := k + 1) (sqL (s9J _ _ hl8)) (by omega) f2 ?_
          refine ⟨db, dk, tb, tk, rfl, s9J _ _ h3, s9J _ _ f3, ok3.1, ok1.1, ok3.2, ok1.2, fun lq2 HK sK nK hP2 => ?_⟩
          obtain ⟨zs2, hz2, hPz2⟩ := hP2
          walk_at "ru"
          refine ⟨_, .inl (sqL hz2), ?_⟩
          rw [hPz2.len]
          intro t3 n_t3
          generalize hG_ : upd _ t3 _ = HL
          obtain ⟨sL, ht3⟩ := newF n_t3 hG_
          clear hG_
          have sIL := (sJ.trans sK).trans sL
          have hwaL := sIL _ _ hwaI
          refine appR hwaL (by simp) ?_
          generalize hG : upd HL wa _ = HM
          have bM : But wa HL HM := by rw [← hG]; exact But.upd
          have hwaM : HM wa = some (.lst [.ref t1, .ref t2, .ref t3]) := by rw [← hG]; exact upd_same
          clear hG
          have s9M : Same H9 HM := fun b o h => bM _ _ ((s9I.trans sIL) _ _ h) (ne_of_none h nwa)
          have tupM : ∀ z zs, HL z = some (.tup zs) → HM z = some (.tup zs) := fun z zs h => bM _ _ h (ne_of h hwaL (by intro z; cases z))
          have hw1 : ¬ ("part" : Str) = "whole" := by decide +kernel
          have hw2 : ¬ ("wide" : Str) = "whole" := by decide +kernel
          have hw3 : ¬ ("wide" : Str) = "part" := by decide +kernel
          have hways : ∀ (i : Nat) (x : V), [V.ref t1, V.ref t2, V.ref t3][i]? = some x → ∃ (w : Str) (q kq : Addr), planWords[i]? = some w ∧ x = .ref q ∧ HM q = some (.tup [.ref kq, .int (sizeW ts w (k + 1) bb : Nat)]) ∧ HM kq = some (.tup ((keyB (nbase w (k + 1) bb) (cnt w mm)).map kV)) := by
            intro i x hx
            match i, hx with
            | 0, hx =>
              cases hx
              refine ⟨"whole", t1, k1, rfl, rfl, ?_, ?_⟩
              · rw [show sizeW ts "whole" (k + 1) bb = tk.length by simp only [sizeW, if_true, etk]]
                exact tupM _ _ (sIL _ _ ht1I)
              · have := tupM _ _ (sIL _ _ hk1I)
                rw [this]
                simp [keyB, nbase, cnt, kV]
                omega
            | 1, hx =>
              cases hx
              refine ⟨"part", t2, k2, rfl, rfl, ?_, ?_⟩
              · rw [show sizeW ts "part" (k + 1) bb = (part tp tk).length by simp only [sizeW, if_neg hw1, if_true, etk, Nat.add_sub_cancel, etp]]
                exact tupM _ _ (sIL _ _ ht2I)
              · have := tupM _ _ (sIL _ _ hk2I)
                rw [this]
                simp [keyB, nbase, cnt, kV, hw1]
            | 2, hx =>
              cases hx
              refine ⟨"wide", t3, k3, rfl, rfl, ?_, ?_⟩
              · rw [show sizeW ts "wide" (k + 1) bb = (part tb tk).length by simp only [sizeW, if_neg hw2, if_neg hw3, etk, etb]]
                exact tupM _ _ ht3
              · have := tupM _ _ ((sK.trans sL) _ _ hk3)
                rw [this]
                simp [keyB, nbase, cnt, kV, hw2, hw3]
            | i + 3, hx => simp at hx
          have heM := s9M _ _ he8
          walk_at "ru"
          subst hK_
          first | with_reducible refine seq_k fun K_ hK_ => ?_ | skip
          walk_at "ru"
          refine ⟨⟨[V.ref t1, V.ref t2, V.ref t3], sqL hwaM⟩, ?_⟩
          refine for_it (walk_list (xs := [V.ref t1, V.ref t2, V.ref t3])) (iv_least3 HM e ts deep (k + 1) bb mm room acc [some (.ref l), some (.int deep), some (.ref d), some (.int (1 + k)), some (.ref e), some (.int bb), some (.int mm), some (.int room), some (.ref wa)]) ⟨_, _, rfl, But.refl, heM⟩ (fun i σ H2 _ iv => ?_) (fun i x σ HN HQ hi iv hy => ?_) (fun σ HN iv => ?_)
          · obtain ⟨_, _, _, bN, _⟩ := iv
            exact sqL (bN _ _ hwaM (ne_of hwaM heM (by intro z; cases z)))
          · obtain ⟨u9, u10, rfl, bN, heN⟩ := iv
            obtain ⟨rfl, hy⟩ := hy
            obtain ⟨w, qq, kq, hw, rfl, hqq, hkq⟩ := hways i x hy
            have hqqN := bN _ _ hqq (ne_of hqq heM (by intro z; cases z))
            have hkqN := bN _ _ hkq (ne_of hkq heM (by intro z; cases z))
            have hfw : (planWords.take (i + 1)).foldl (stepW ts deep (k + 1) bb mm room) acc = stepW ts deep (k + 1) bb mm room ((planWords.take i).foldl (stepW ts deep (k + 1) bb mm room) acc) w := by
              rw [take_next hw, List.foldl_append]
              rfl
            have hacc2 := foldW_len ts deep (k + 1) bb mm room (planWords.take i) acc
            rw [List.length_take] at hacc2
            have hi3 : i < 3 := lt_of_get hw
            generalize (planWords.take i).foldl (stepW ts deep (k + 1) bb mm room) acc = acc2 at heN hfw hacc2
            refine ⟨qq, _, rfl, sqT hqqN, rfl, ?_⟩
            walk_at "ru"
            have hkqN' : HQ kq = some (.tup [.int (nbase w (k + 1) bb : Nat), .int (cnt w mm : Nat)]) := hkqN
            refine ixT (j := 1) (sqT hkqN') rfl rfl ?_
            walk_at "ru"
            by_cases c : cnt w mm ≤ deep
            · rw [if_pos (by omega)]
              have hfw2 : stepW ts deep (k + 1) bb mm room acc2 w = putD acc2 (nbase w (k + 1) bb, cnt w mm) (min ((lkD acc2 (nbase w (k + 1) bb, cnt w mm)).getD 1000) (room + sizeW ts w (k + 1) bb)) := if_pos c
              have hg := DGet.t heN hkqN
              rw [val_entD] at hg
              have hgo : ((lkD acc2 (nbase w (k + 1) bb, cnt w mm)).map fun v => V.int (v : Nat)).getD (V.int 1000) = V.int (((lkD acc2 (nbase w (k + 1) bb, cnt w mm)).getD 1000 : Nat) : Int) := by
                cases lkD acc2 (nbase w (k + 1) bb, cnt w mm) <;> rfl
              refine ⟨.inr ⟨_, .inl heN⟩, _, hg, _, hgo, ?_⟩
              have hmin : (if (room : Int) + (sizeW ts w (k + 1) bb : Nat) < (((lkD acc2 (nbase w (k + 1) bb, cnt w mm)).getD 1000 : Nat) : Int) then (room : Int) + (sizeW ts w (k + 1) bb : Nat) else (((lkD acc2 (nbase w (k + 1) bb, cnt w mm)).getD 1000 : Nat) : Int)) = ((min ((lkD acc2 (nbase w (k + 1) bb, cnt w mm)).getD 1000) (room + sizeW ts w (k + 1) bb) : Nat) : Int) := by
                generalize (lkD acc2 (nbase w (k + 1) bb, cnt w mm)).getD 1000 = a
                split <;> omega
              rw [hmin]
              refine ⟨_, DPut.t heN hkqN (by rw [sizeLine_eq, List.length_map]; omega), ?_⟩
              refine ⟨_, _, rfl, bN.trans But.upd, ?_⟩
              rw [upd_same, put_entD, hfw, hfw2]
            · rw [if_neg (by omega)]
              refine ⟨_, _, rfl, bN, ?_⟩
              rw [hfw, show stepW ts deep (k + 1) bb mm room acc2 w = acc2 from if_neg c]
              exact heN
          · obtain ⟨u9, u10, rfl, bN, heN⟩ := iv
            refine ⟨_, _, _, _, _, _, rfl, fun b o h => bN _ _ (s9M _ _ (s8 _ _ h)) (ne_of_none h neH), bN _ _ (s9M _ _ hd8) ned.symm, ?_⟩
            rw [hstep]
            exact heN
      · obtain ⟨z5, z6, z7, z8, z9, z10, rfl, s8, hd8, he8⟩ := iv
        rw [List.length_map, List.take_length, ← least_next] at he8
        refine ⟨hd8, ?_⟩
        generalize hG : upd H8 d _ = H9
        have s9 : Same H H9 := by rw [← hG]; exact Same.app s8 nd
        have he9 : H9 e = some (.dT ((leastD ts deep (k + 1)).map entD)) := by rw [← hG, upd_ne ned]; exact he8
        clear hG
        walk_at "ru"
        subst hK_
        first | with_reducible refine seq_k fun K_ hK_ => ?_ | skip
        walk_at "ru"
        exact ⟨e, _, _, _, _, _, _, _, _, rfl, s9, neH, he9⟩
    · obtain ⟨d, y3, y4, y5, y6, y7, y8, y9, y10, rfl, s4, nd, hd4⟩ := iv
      rw [show ((xs.length : Int) - 1).toNat = ts.length - 1 by omega] at hd4
      obtain ⟨n, hn⟩ : ∃ n, ts.length = n + 1 := ⟨ts.length - 1, by omega⟩
      rw [hn, Nat.add_sub_cancel] at hd4
      walk_at "ru"
      subst hK_
      first | with_reducible refine seq_k fun K_ hK_ => ?_ | skip
      walk_at "ru"
      refine ⟨d, _, hd4, trivial, fun od => ?_⟩
      generalize hG : upd H4 d _ = H7
      have s7 : Same H H7 := by rw [← hG]; exact Same.app s4 nd
      have hd7 : H7 d = some (.frz od (.dT ((leastD ts deep n).map entD))) := by rw [← hG]; exact upd_same
      have un := fun {H2 : Hp} (s : Same H7 H2) => unlock hd4 hG s
      walk_at "ru"
      refine ⟨od, .inr ⟨_, hd7, fun D hD => ?_⟩⟩
      have hl7 := least_len8 ts deep (k := n) (by omega)
      refine lc_it walk_keysT (iv_least4 H7 D (leastD ts deep n)) ⟨same_upd hD, upd_same⟩ (fun _ _ _ p => p.1 _ _ hd7) (fun i x H2 H3 hi p hy => ?_) (fun H2 p => ?_)
      · obtain ⟨s2, hD2⟩ := p
        obtain ⟨rfl, kk, vv, qa, hkk, rfl, hqa⟩ := hy
        rw [List.getElem?_map] at hkk
        cases een : (leastD ts deep n)[i]? with
        | none => rw [een] at hkk; cases hkk
        | some en =>
          rw [een] at hkk
          cases hkk
          obtain ⟨room, hroom⟩ := lkD_some (mem_of_get een)
          walk_at "ru"
          refine ⟨.int room, .inr ⟨_, _, qa, .inr ⟨od, s2 _ _ hd7⟩, rfl, hqa, ?_⟩, ?_⟩
          · rw [val_entD, hroom]; rfl
          · refine ⟨_, hD2, szl (by rw [List.length_map, List.length_take]; omega), Same.app s2 hD, ?_⟩
            rw [upd_same, map_take_next _ een, hroom]
            rfl
      · obtain ⟨s2, hD2⟩ := p
        rw [List.length_map, List.take_length] at hD2
        obtain ⟨hl2, s11⟩ := un s2
        refine ⟨hl2, ?_⟩
        have hDd : D ≠ d := (ne_of_none hd7 hD).symm
        generalize hG2 : upd H2 d _ = H5
        have hD5 : H5 D = some (.lst ((leastL (leastD ts deep n)).map fun v => V.int ((v : Nat) : Int))) := by
          rw [← hG2, upd_ne hDd, hD2]
          unfold leastL
          rw [List.map_map]
          rfl
        rw [hG2] at s11
        refine ⟨D, (leastL (leastD ts deep n)).map fun v : Nat => (v : Int), rfl, sqL (by rw [hD5, List.map_map]; rfl), by rw [List.length_map]; unfold leastL; rw [List.length_map]; exact least_ne ts hdeep hB (by omega), fun mn hm1 hm2 => ?_⟩
        have hne := bestF_some ts hdeep ts.length 0 0 0
        cases ex : bestF ts deep ts.length 0 0 0 with
        | none => exact absurd ex hne
        | some x =>
          have ex2 := ex
          rw [hn] at ex2
          obtain ⟨p1, p2⟩ := least_best hdeep hB (by omega) ex2
          obtain ⟨a, ha, rfl⟩ := List.mem_map.mp hm1
          have h1 := p2 a ha
          have h2 := hm2 _ (List.mem_map.mpr ⟨x.1, p1, rfl⟩)
          have : a = x.1 := by
            have h2' : (a : Int) ≤ (x.1 : Nat) := h2
            omega
          rw [this]
          exact q x H5 ex (s4.trans s11)
end
end Nk
namespace Nk
open PySem L2
section
variable {P : Program} {w : World} {K : PySem.W.Frag} {mg : Str → Option Value} {base : Heap}
theorem StsAt.one {H : Hp} {k : Addr} {t : Tb} (h : StAt mg H k t) : StsAt mg H [.ref k] [t] := ⟨⟨k, rfl, h⟩, trivial⟩
theorem TabsAt.one {H : Hp} {d : Addr} {t : Tb} (h : H d = some (.dK (kvsT t))) : TabsAt H [.ref d] [t] := ⟨⟨d, rfl, h⟩, trivial⟩
def iv72s (mg : Str → Option Value) (H0 : Hp) (D : Addr) (ts : List Tb) (i : Nat) (H : Hp) : Prop := Same H0 H ∧ ∃ ys, H D = some (.lst ys) ∧ StsAt mg H ys (ts.take i)
def iv72q (H0 : Hp) (D : Addr) (ts : List Tb) (i : Nat) (H : Hp) : Prop := Same H0 H ∧ ∃ ys, H D = some (.lst ys) ∧ TabsAt H ys (ts.take i)
theorem tabs_eq {H : Hp} : ∀ {zs xs : List V} {ts : List Tb}, TabsAt H zs ts → TabsAt H xs ts → (∀ t ∈ ts, OkT t) → Paired (EqV K H 2) zs xs
  | [], [], [], _, _, _ => .nil
  | z :: zs, x :: xs, t :: ts, ⟨⟨a, e1, h1⟩, r1⟩, ⟨⟨b, e2, h2⟩, r2⟩, ok => by
    refine .cons (.inr (.inr (.inr ⟨a, b, _, _, e1, e2, h1, h2, rfl, fun p hp => ?_⟩))) (tabs_eq r1 r2 fun t ht => ok t (List.mem_cons_of_mem _ ht))
    obtain ⟨pr, hm, rfl⟩ := List.mem_map.mp hp
    exact ⟨.int pr.2, by rw [kvsT_val, lk_of (ok t List.mem_cons_self).nd hm]; rfl, .inl ⟨rfl, rfl⟩⟩
  | [], _ :: _, [], _, h, _ => h.elim
  | _ :: _, [], _ :: _, _, h, _ => h.elim
  | [], [], _ :: _, h, _, _ => h.elim
  | [], _ :: _, _ :: _, h, _, _ => h.elim
  | _ :: _, _, [], h, _, _ => h.elim
theorem dp_words {H : Hp} {l : Addr} {ws : List Str} (h : H l = some (.lst (ws.map V.str))) : Dp K H (.ref l) (.list (ws.map PyData.str)) := by
  have : ∀ ws : List Str, DpAll K H (ws.map V.str) (ws.map PyData.str) := fun ws => by
    induction ws with
    | nil => exact .nil
    | cons w ws ih => exact .cons (.str w) ih
  exact .lst (sqL h) (this _)
theorem gd_words {ws : List Str} (h : ∀ w ∈ ws, w ∈ planWords) : gd 1 (.list (ws.map PyData.str)) = true := by
  have hs : ∀ w ∈ planWords, PyData.strOk w = true := by decide +kernel
  simp only [gd]
  rw [List.all_eq_true]
  intro y hy
  obtain ⟨w, hw, rfl⟩ := List.mem_map.mp hy
  simp only [gd]
  exact hs w (h w hw)
def AheadV (ts : List Tb) (ds : List Nat) (i : Nat) (v : V) : Prop := (i = 0 ∧ v = .non) ∨ ∃ j dj x, i = j + 1 ∧ ds[j]? = some dj ∧ bestF ts dj ts.length 0 0 0 = some x ∧ v = .int (x.1 : Nat)
def iv72 (H0 : Hp) (ts : List Tb) (ds : List Nat) (σ0 : L2.St) (i : Nat) (σ : L2.St) (H : Hp) : Prop := ∃ v y5 y6 y7, σ = σ0 ++ [some v, y5, y6, y7, none, none] ∧ Same H0 H ∧ AheadV ts ds i v
abbrev nm_law : List Str := ["script", "town", "tables", "states", "ahead", "deep", "room", "plan", "table", "state"]
abbrev pm_law : List Str := ["script"]
abbrev lv_law : Nat := 15
theorem sc_law : FnScope nm_law pm_law (defScope s_law) := ⟨rfl, rfl, rfl, by decide +kernel, rfl, by decide +kernel, by decide +kernel⟩
theorem ok_law {f : Addr} {fd : FuncData} (F : Fun K "law" "law" s_law f fd) (T : Txt K mg) : FnOk P w K mg base CX0 lv_law f fd ["script"] (spLaw K) := by
  refine F.ok sc_law (fun vs H Q E h => ?_) (fun cdv A outer s H vs Q E hr h => ?_)
  · obtain ⟨a, ns, rfl, _⟩ := h; rfl
  · obtain ⟨a, ns, rfl, hS, hl, q⟩ := h
    have hu := hu_of hr
    refine ⟨_, (pss_cons (ps_set (i := 1) sc_law.nd rfl (.inl rfl) (pe_fn (f__law_town T) (hr.mono (by decide)) (by rfl) pass0 (pa_cons (pv 0) pa_nil)))
      (pss_cons (ps_set (i := 2) sc_law.nd rfl (.inl rfl) (pe_fn (f__law_states T) (hr.mono (by decide)) (by rfl) pass0 (pa_cons (pv 0) (pa_cons (pv 1) (pa_cons pe_int pa_nil)))))
      (pss_cons (ps_setLc (own := [("table", 8)]) (g := gName 8) (tt := tYes) (i := 3) (by rfl) sc_law.nd rfl rfl (sw_true rfl rfl rfl (by decide +kernel)) (pi_list (pv 2)) (blkOk_by (own := [("table", 8)]) (N := nm_law) (sc := defScope s_law) (by decide +kernel)) (fun _ _ _ _ _ => (pg_name (i := 8) sc_law.nd rfl (Or.inl rfl))) (fun _ _ _ _ _ => pts_nil) (fun _ _ _ _ _ => (pe_newM mg rfl T.o_State (f_State____init__ T) (hr.mono (by decide)) (by rfl) pass0 (pa_cons (pv 8) pa_nil))))
      (pss_cons (ps_set (i := 4) sc_law.nd rfl (.inl rfl) pe_non)
      (pss_cons (ps_for PassesOwn.never rfl (pi_tup (pe_tup (pa_cons pe_int (pa_cons pe_int (pa_cons pe_int (pa_cons (pe_op op_add pe_int (pe_fn (f__law_draw T) (hr.mono (by decide)) (by rfl) pass0 (pa_cons (pv 0) (pa_cons (pv 1) (pa_cons pe_int pa_nil))))) (pa_cons pe_int pa_nil))))))) (pg_name (i := 5) sc_law.nd rfl (Or.inl rfl)) (pss_cons (ps_asg (pe_fn (f_cheapest T) (hr.mono (by decide)) (by rfl) passL (pa_cons (pv 3) (pa_cons (pv 5) pa_nil))) (pg_tup rfl (pgs_cons (pg_name (i := 6) sc_law.nd rfl (Or.inl rfl)) (pgs_cons (pg_name (i := 7) sc_law.nd rfl (Or.inl rfl)) pgs_nil))))
      (pss_cons (ps_if (PW.pt (pw_or (pt_cmpR op_ne (pe_callB call_len_seq (by rfl) T.b_len PySem.boot_len (pa_cons (pv 7) pa_nil)) (pe_callB call_len_seq (by rfl) T.b_len PySem.boot_len (pa_cons (pv 2) pa_nil)) (nomark _)) (pw_or (pt_cmpR op_ne (pe_ix ix_list (pv 7) pe_int (fun _ _ => rfl)) pe_str (nomark _)) (pw_or1 (pt_cmpR op_gt (pe_callB (cr_max rfl) (by rfl) T.b_max (by decide +kernel) (pa_cons (pe_fn (f__law_plan_reads T) (hr.mono (by decide)) (by rfl) pass0 (pa_cons (pv 7) pa_nil)) pa_nil)) (pv 5) (nomark _)))))) (pss_one (ps_ret pe_bl)) pss_nil)
      (pss_cons (ps_if (PW.pt (pw_or (pt_cmpR op_ne (pv 6) (pe_fn (f__law_plan_room T) (hr.mono (by decide)) (by rfl) pass0 (pa_cons (pv 2) (pa_cons (pv 7) pa_nil))) (nomark _)) (pw_or1 (pt_cmpR op_ne (pv 6) (pe_fn (f__law_least T) (hr.mono (by decide)) (by rfl) pass0 (pa_cons (pv 2) (pa_cons (pv 5) pa_nil))) (nomark _))))) (pss_one (ps_ret pe_bl)) pss_nil)
      (pss_cons (ps_if (PW.pt (pw_and (pt_cmpR op_eq (pv 5) pe_int (nomark _)) (pw_and1 (pt_cmpR (op_neD hr.units) (pv 7) (pe_op op_rep (pe_lst (pa_cons pe_str pa_nil)) (pe_callB call_len_seq (by rfl) T.b_len PySem.boot_len (pa_cons (pv 2) pa_nil))) (nomark _))))) (pss_one (ps_ret pe_bl)) pss_nil)
      (pss_cons (ps_if (PW.pt (pw_and (pt_cmpR op_notN (pv 4) pe_non (nomark _)) (pw_and1 (pt_cmpR op_gt (pv 6) (pv 4) (nomark _))))) (pss_one (ps_ret pe_bl)) pss_nil)
      (pss_one (ps_set (i := 4) sc_law.nd rfl (.inl rfl) (pv 6)))))))))
      (pss_one (ps_ret (pe_cmpR (op_eqV hr.units) (pe_lc (own := [("state", 9)]) (g := gName 9) (tt := tYes) (by rfl) sc_law.nd (pi_list (pv 3)) (blkOk_by (own := [("state", 9)]) (N := nm_law) (sc := defScope s_law) (by decide +kernel)) (fun _ _ _ _ _ => (pg_name (i := 9) sc_law.nd rfl (Or.inl rfl))) (fun _ _ _ _ _ => pts_nil) (fun _ _ _ _ _ => (pe_me0K mg rfl (pv 9) T.o_State (f_State__plain T) (hr.mono (by decide)) pass0))) (pv 2) (nomark _))))))))), ?_⟩
    with_reducible refine seq_k fun K_ hK_ => ?_
    walk_at "ru"
    refine ⟨a, ns, rfl, hS, hl, fun H1 t s1 T1 ht => ?_⟩
    walk_at "ru"
    subst hK_
    first | with_reducible refine seq_k fun K_ hK_ => ?_ | skip
    walk_at "ru"
    refine ⟨a, t, ns, _, 8, rfl, T1, by omega, by omega, by omega, fun L xs ts c2 H3 nL hLt hL tabs2 gd2 l1 l8 hc2 T3 b3 => ?_⟩
    have hlen := tabs2.len
    walk_at "ru"
    subst hK_
    first | with_reducible refine seq_k fun K_ hK_ => ?_ | skip
    walk_at "ru"
    refine ⟨⟨_, sqL hL⟩, fun D1 hD1 => ?_⟩
    refine lc_list (K := K) (a := L) (xs := xs) (iv72s mg H3 D1 ts) ⟨same_upd hD1, [], upd_same, by simp [StsAt]⟩ (fun i H5 _ p => sqL (p.1 _ _ hL)) (fun i x H7 hx pv => ?_) fun H4 pv => ?_
    · obtain ⟨s7, ys, hS7, hP7⟩ := pv
      obtain ⟨t1, d1, e1, e2, e3⟩ := (tabs2.same s7).get (lt_of_get hx)
      rw [hx] at e2
      cases e2
      have g1 := gd2 t1 (mem_of_get e1)
      have hyl := hP7.len
      rw [List.length_take] at hyl
      have hi := lt_of_get e1
      walk_at "ru"
      refine state_new e3 g1.1 g1.2 fun k H8 s8 n8 hk => ?_
      refine ⟨ys, s8 _ _ hS7, szl (by omega), Same.app (s7.trans s8) hD1, ys ++ [.ref k], upd_same, ?_⟩
      rw [take_next e1]
      exact (((hP7.same s8).app (StsAt.one hk)).but (But.upd) (s8 _ _ hS7))
    · obtain ⟨s4, ys, hY4, hP4⟩ := pv
      rw [hlen, List.take_length] at hP4
      have hyl := hP4.len
      have hL4 := s4 _ _ hL
      have tabs4 := tabs2.same s4
      have T4 := T3.same s4
      walk_at "ru"
      subst hK_
      first | with_reducible refine seq_k fun K_ hK_ => ?_ | skip
      walk_at "ru"
      walk_at "ru"
      subst hK_
      first | with_reducible refine seq_k fun K_ hK_ => ?_ | skip
      walk_at "ru"
      refine ⟨a, t, ns, c2, 6, rfl, T4, by omega, by omega, by omega, fun dd H5 d0 d1 T5 b5 => ?_⟩
      obtain ⟨z4, hz4⟩ := T4.lst
      obtain ⟨z3, hz3⟩ := T3.lst
      have hD1t : D1 ≠ t := (ne_of_none hz3 hD1).symm
      have hL5 := b5 _ _ hL4 hLt
      have hY5 := b5 _ _ hY4 hD1t
      have tabs5 := tabs4.but b5 hz4
      have hP5 := hP4.but b5 hz4
      obtain ⟨dp, hdp⟩ : ∃ dp : Nat, 4 + dd = (dp : Int) := ⟨(4 + dd).toNat, by omega⟩
      have hdp2 : 4 ≤ dp ∧ dp ≤ 9 := by omega
      walk_at "ru"
      rw [hdp]
      intro p np
      generalize hG : upd H5 p _ = H6
      obtain ⟨s6, hp6⟩ := newF np hG
      clear hG
      have hp6' : H6 p = some (.tup (([1, 2, 3, dp, 10] : List Nat).map fun n => V.int (n : Nat))) := hp6
      have hds : ∀ (i d : Nat), ([1, 2, 3, dp, 10] : List Nat)[i]? = some d → 1 ≤ d ∧ d ≤ 10 ∧ (i = 0 → d = 1) ∧ (d = 1 → i = 0) ∧ ∀ j dj, i = j + 1 → ([1, 2, 3, dp, 10] : List Nat)[j]? = some dj → dj ≤ d := by
        intro i d hd
        match i, hd with
        | 0, hd => cases hd; exact ⟨by omega, by omega, fun _ => rfl, fun _ => rfl, fun j dj h => by omega⟩
        | 1, hd => cases hd; exact ⟨by omega, by omega, fun z => by omega, fun z => by omega, fun j dj h e => by obtain rfl : j = 0 := (by omega); cases e; omega⟩
        | 2, hd => cases hd; exact ⟨by omega, by omega, fun z => by omega, fun z => by omega, fun j dj h e => by obtain rfl : j = 1 := (by omega); cases e; omega⟩
        | 3, hd => cases hd; exact ⟨by omega, by omega, fun z => by omega, fun z => by omega, fun j dj h e => by obtain rfl : j = 2 := (by omega); cases e; omega⟩
        | 4, hd => cases hd; exact ⟨by omega, by omega, fun z => by omega, fun z => by omega, fun j dj h e => by obtain rfl : j = 3 := (by omega); cases e; omega⟩
        | i + 5, hd => simp at hd
      refine ⟨⟨_, sqT hp6'⟩, ?_⟩
      refine for_it (walk_tup (xs := ([1, 2, 3, dp, 10] : List Nat).map fun n => V.int (n : Nat))) (iv72 H6 ts [1, 2, 3, dp, 10] [some (.ref a), some (.ref t), some (.ref L), some (.ref D1)]) ⟨.non, _, _, _, rfl, Same.refl _, .inl ⟨rfl, rfl⟩⟩ (fun i σ H2 _ iv => ?_) (fun i x σ H7 H8 hi iv hy => ?_) (fun σ H7 iv => ?_)
      · obtain ⟨_, _, _, _, _, s7, _⟩ := iv
        exact sqT (s7 _ _ hp6')
      · obtain ⟨v, y5, y6, y7, rfl, s7, hA⟩ := iv
        obtain ⟨rfl, hy⟩ := hy
        rw [List.getElem?_map] at hy
        cases ed : ([1, 2, 3, dp, 10] : List Nat)[i]? with
        | none => rw [ed] at hy; cases hy
        | some deep =>
          rw [ed] at hy
          cases hy
          obtain ⟨g1, g2, g3, g4, g5⟩ := hds i deep ed
          have s67 := s6.trans s7
          walk_at "ru"
          with_reducible refine seq_k fun K_ hK_ => ?_
          walk_at "ru"
          refine ⟨D1, ys, ts, deep, rfl, s67 _ _ hY5, hP5.same s67, by omega, by omega, g1, g2, fun r x H9 e9 s9 hB9 => ?_⟩
          obtain ⟨n, hn⟩ : ∃ n, ts.length = n + 1 := ⟨ts.length - 1, by omega⟩
          have e9n := e9
          rw [hn] at e9n
          obtain ⟨p1, p2, p3, p4⟩ := bestF_plan e9n
          obtain ⟨hxl, hxw, hx0⟩ := plansL_len n x.2 p1
          obtain ⟨wl, hr9, hwl9⟩ := hB9
          refine ⟨r, _, rfl, sqT hr9, rfl, ?_⟩
          have s59 := s67.trans s9
          have hL9 := s59 _ _ hL5
          have tabs9 := tabs5.same s59
          walk_at "ru"
          subst hK_
          first | with_reducible refine seq_k fun K_ hK_ => ?_ | skip
          walk_at "ru"
          refine ⟨_, .inl (sqL hwl9), _, .inl (sqL hL9), ?_⟩
          rw [if_neg (by rw [List.length_map]; omega)]
          refine ixL (j := 0) (sqL hwl9) rfl (by rw [List.getElem?_map, hx0]; rfl) ?_
          refine ⟨rfl, ?_⟩
          rw [if_neg (by simp)]
          refine ⟨wl, x.2, rfl, hwl9, by omega, hxw, fun r1 HA sA nA hr1 => ?_⟩
          refine ⟨r1, _, rfl, sqL hr1, by rw [readsW_len]; omega, fun mx hmx hmax => ?_⟩
          have hmd : mx ≤ (deep : Int) := by
            rw [readsW_rdF] at hmx
            obtain ⟨k, hk, rfl⟩ := List.mem_map.mp hmx
            have := p2 k hk
            show (k : Int) ≤ _
            omega
          walk_at "ru"
          rw [if_neg (by omega)]
          have gw : GoodW x.2 := ⟨by omega, by omega, hxw, hx0⟩
          walk_at "ru"
          subst hK_
          first | with_reducible refine seq_k fun K_ hK_ => ?_ | skip
          walk_at "ru"
          refine ⟨L, wl, xs, ts, x.2, rfl, sA _ _ hL9, tabs9.same sA, gd2, sA _ _ hwl9, gw, by omega, fun HB sB => ?_⟩
          rw [room_cost]
          walk_at "ru"
          rw [if_neg (by rw [p3]; simp)]
          have sAB := sA.trans sB
          refine ⟨L, xs, ts, deep, rfl, sAB _ _ hL9, tabs9.same sAB, gd2, by omega, by omega, g1, fun x2 HC ex2 sC => ?_⟩
          rw [e9] at ex2
          cases ex2
          walk_at "ru"
          rw [if_neg (by simp)]
          have s9C := sAB.trans sC
          have hL9C := s9C _ _ hL9
          have hwl9C := s9C _ _ hwl9
          walk_at "ru"
          subst hK_
          first | with_reducible refine seq_k fun K_ hK_ => ?_ | skip
          walk_at "ru"
          have fin : ∀ HE, Same HC HE → K_ [some (V.ref a), some (V.ref t), some (V.ref L), some (V.ref D1), some v, some (V.int deep), some (V.int (x.1 : Nat)), some (V.ref wl), none, none] HE := by
            intro HE sE
            walk_at "ru"
            subst hK_
            first | with_reducible refine seq_k fun K_ hK_ => ?_ | skip
            walk_at "ru"
            have hnow : AheadV ts [1, 2, 3, dp, 10] (i + 1) (.int (x.1 : Nat)) := .inr ⟨i, deep, x, rfl, ed, e9, rfl⟩
            have s7E := (s7.trans s9).trans (s9C.trans sE)
            rcases hA with ⟨hi0, rfl⟩ | ⟨j, dj, xj, hij, ej, bj, rfl⟩
            · rw [if_neg (by simp)]
              walk_at "ru"
              subst hK_
              first | with_reducible refine seq_k fun K_ hK_ => ?_ | skip
              walk_at "ru"
              exact ⟨_, _, _, _, rfl, s7E, hnow⟩
            · have hle := bestF_mono (g5 j dj hij ej) bj e9
              rw [if_pos (by simp)]
              walk_at "ru"
              rw [if_neg (by omega)]
              walk_at "ru"
              subst hK_
              first | with_reducible refine seq_k fun K_ hK_ => ?_ | skip
              walk_at "ru"
              exact ⟨_, _, _, _, rfl, s7E, hnow⟩
          by_cases c1 : deep = 1
          · rw [if_pos (by omega)]
            intro o1 n_o1
            generalize hG_ : upd _ o1 _ = HD
            obtain ⟨sD, ho1⟩ := newF n_o1 hG_
            clear hG_
            refine ⟨_, .inl (sqL (sD _ _ hL9C)), ?_⟩
            refine ⟨o1, _, _, rfl, rfl, ho1, by omega, by omega, by rw [sizeLine_eq]; simp; omega, ?_⟩
            intro o2 n_o2
            generalize hG_ : upd _ o2 _ = HE
            obtain ⟨sE, ho2⟩ := newF n_o2 hG_
            clear hG_
            have hrep : x.2 = List.replicate (n + 1) ("whole" : Str) := plan_one p1 (by rw [c1] at p2; exact p2)
            have ho2' : HE o2 = some (.lst (x.2.map V.str)) := by
              rw [ho2, hrep, List.map_replicate, Int.toNat_natCast, hlen, hn]
              simp
            refine neD (dp_words ((sD.trans sE) _ _ hwl9C)) (dp_words ho2') (gd_words hxw) (gd_words hxw) (fun _ => ?_) (fun z => absurd rfl z)
            refine ⟨false, rfl, ?_⟩
            rw [if_neg (by simp)]
            exact fin _ (sD.trans sE)
          · rw [if_neg (by omega)]
            exact fin _ (Same.refl _)
      · obtain ⟨v, y5, y6, y7, rfl, s7, hA⟩ := iv
        have s67 := s6.trans s7
        have hY7 := s67 _ _ hY5
        have hP7 := hP5.same s67
        have hL7 := s67 _ _ hL5
        have tabs7 := tabs5.same s67
        walk_at "ru"
        subst hK_
        first | with_reducible refine seq_k fun K_ hK_ => ?_ | skip
        walk_at "ru"
        refine ⟨⟨_, sqL hY7⟩, fun D hD => ?_⟩
        refine lc_list (K := K) (a := D1) (xs := ys) (iv72q H7 D ts) ⟨same_upd hD, [], upd_same, by simp [TabsAt]⟩ (fun i H5 _ p => sqL (p.1 _ _ hY7)) (fun i x X6 hx pv => ?_) fun X6 pv => ?_
        · obtain ⟨u6, zs, hD6, hP6⟩ := pv
          obtain ⟨t1, d1, e1, e2, e3⟩ := (hP7.same u6).get (lt_of_get hx)
          rw [hx] at e2
          cases e2
          have hzl := hP6.len
          rw [List.length_take] at hzl
          have hi := lt_of_get e1
          obtain ⟨dx, dd, g1, g2⟩ := e3.ex
          walk_at "ru"
          refine ⟨dx, _, g1, rfl, d1, t1, rfl, e3, fun e5 X7 u7 n7 h7 => ?_⟩
          have kd : ∀ b kvs, X7 b = some (.dK kvs) → (upd X7 D (.lst (zs ++ [.ref e5]))) b = some (.dK kvs) := fun b kvs e => by rw [upd_ne (ne_of e (u7 _ _ hD6) (by intro z; cases z))]; exact e
          refine ⟨zs, u7 _ _ hD6, szl (by omega), Same.app (u6.trans u7) hD, zs ++ [.ref e5], upd_same, ?_⟩
          rw [take_next e1]
          exact ((hP6.same u7).app (TabsAt.one h7)).keep kd
        · obtain ⟨u6, zs, hD6, hP6⟩ := pv
          rw [hyl, List.take_length] at hP6
          exact ⟨2, by decide, .inl ⟨D, L, zs, xs, rfl, rfl, sqL hD6, sqL (u6 _ _ hL7), tabs_eq hP6 (tabs7.same u6) fun t ht => (gd2 t ht).1⟩, q _⟩
end
end Nk
namespace Nk
open PySem L2
theorem fin {P : Program} {w : World} {K : PySem.W.Frag} {mg : Str → Option Value} {fa : Addr} (hfa : mg "law" = some (.ref fa)) (T : Txt K mg) : ∃ fd : FuncData, (∀ (s : Shared) (v : Value), BindsTo s fd ⟨[v], []⟩ [("script", v)]) ∧ ∀ base : Heap, K.In base → base.Ns mainGlobals mg → FnOk P w K mg base CX0 15 fa fd ["script"] (spLaw K) :=
  law_end hfa T.d_law (fun _ _ _ _ _ _ _ => rfl) (fun base f fd F => ok_law F T)
end Nk
open PySem PySem.W PyProof.Rows
set_option maxRecDepth 100000 in
set_option maxHeartbeats 0 in
theorem PySem.Challenge.cw_nightkeep_k72_whole_cheapest_of_eight_holds : PySem.Challenge.rw_nightkeep_k72_whole_cheapest_of_eight.Holds := by
  w_on; o_law; k_head; (case hw => w_witness2)
  k_fill
  refine L2.walk_of (l := PySem.Challenge.rw_nightkeep_k72_whole_cheapest_of_eight) (n := 63) (k := 15) (x := "script") (CX := fun _ => L2.CX0) (sp := fun w => Nk.spLaw _) rfl (by decide) rfl ⟨rfl, by decide, by decide⟩ (fun w h Y => PySem.W.kIn_of Y) ?F (fun _ _ a ns hl _ hS => ⟨a, ns, rfl, hS, hl, fun _ => rfl⟩) (fun _ _ _ _ _ h => h)
  case F =>
    intro w mg fa h KX G hmg
    refine Nk.fin hmg ?_
    refine ⟨?d_is_number, ?d_is_name, ?d_is_state, ?d_part_of, ?d_look_states, ?d_size_at, ?d_best_from, ?d_cheapest, ?d__law_town, ?d__law_draw, ?d__law_pick, ?d__law_name, ?d__law_table, ?d__law_later, ?d__law_unlike, ?d__law_states, ?d__law_plan_room, ?d__law_plan_reads, ?d__law_least, ?d_law, ?x_KeepError, ?x_BadNumber, ?x_BadState, ?o_State, ?m_State____init__, ?m_State____len__, ?m_State____eq__, ?m_State____str__, ?m_State____repr__, ?m_State__number, ?m_State__names, ?m_State__plain, ?v_State, ?n_State__table, ?c_LETTERS, ?c_MOST_NAMES, ?l_WORDS, ?b_all, ?b_bool, ?b_dict, ?b_enumerate, ?b_int, ?b_isinstance, ?b_len, ?b_list, ?b_max, ?b_min, ?b_range, ?b_set, ?b_sorted, ?b_str⟩
    case d_is_number => (refine' Nk.df_mk (st := Nk.s_is_number) KX G (fun _ _ _ _ _ _ us hl => match us, hl with | [_, _, _], _ => rfl) ?a ?l ?c ?k; (case a => k_is); (case l => k_is); (case c => k_is); (case k => k_is))
    case d_is_name => (refine' Nk.df_mk (st := Nk.s_is_name) KX G (fun _ _ _ _ _ _ us hl => match us, hl with | [_], _ => rfl) ?a ?l ?c ?k; (case a => k_is); (case l => k_is); (case c => k_is); (case k => k_is))
    case d_is_state => (refine' Nk.df_mk (st := Nk.s_is_state) KX G (fun _ _ _ _ _ _ us hl => match us, hl with | [_], _ => rfl) ?a ?l ?c ?k; (case a => k_is); (case l => k_is); (case c => k_is); (case k => k_is))
    case d_part_of => (refine' Nk.df_mk (st := Nk.s_part_of) KX G (fun _ _ _ _ _ _ us hl => match us, hl with | [_, _], _ => rfl) ?a ?l ?c ?k; (case a => k_is); (case l => k_is); (case c => k_is); (case k => k_is))
    case d_look_states => (refine' Nk.df_mk (st := Nk.s_look_states) KX G (fun _ _ _ _ _ _ us hl => match us, hl with | [_], _ => rfl) ?a ?l ?c ?k; (case a => k_is); (case l => k_is); (case c => k_is); (case k => k_is))
    case d_size_at => (refine' Nk.df_mk (st := Nk.s_size_at) KX G (fun _ _ _ _ _ _ us hl => match us, hl with | [_, _, _, _], _ => rfl) ?a ?l ?c ?k; (case a => k_is); (case l => k_is); (case c => k_is); (case k => k_is))
    case d_best_from => (refine' Nk.df_mk (st := Nk.s_best_from) KX G (fun _ _ _ _ _ _ us hl => match us, hl with | [_, _, _, _, _, _], _ => rfl) ?a ?l ?c ?k; (case a => k_is); (case l => k_is); (case c => k_is); (case k => k_is))
    case d_cheapest => (refine' Nk.df_mk (st := Nk.s_cheapest) KX G (fun _ _ _ _ _ _ us hl => match us, hl with | [_, _], _ => rfl) ?a ?l ?c ?k; (case a => k_is); (case l => k_is); (case c => k_is); (case k => k_is))
    case d__law_town => (refine' Nk.df_mk (st := Nk.s__law_town) KX G (fun _ _ _ _ _ _ us hl => match us, hl with | [_], _ => rfl) ?a ?l ?c ?k; (case a => k_is); (case l => k_is); (case c => k_is); (case k => k_is))
    case d__law_draw => (refine' Nk.df_mk (st := Nk.s__law_draw) KX G (fun _ _ _ _ _ _ us hl => match us, hl with | [_, _, _], _ => rfl) ?a ?l ?c ?k; (case a => k_is); (case l => k_is); (case c => k_is); (case k => k_is))
    case d__law_pick => (refine' Nk.df_mk (st := Nk.s__law_pick) KX G (fun _ _ _ _ _ _ us hl => match us, hl with | [_, _, _], _ => rfl) ?a ?l ?c ?k; (case a => k_is); (case l => k_is); (case c => k_is); (case k => k_is))
    case d__law_name => (refine' Nk.df_mk (st := Nk.s__law_name) KX G (fun _ _ _ _ _ _ us hl => match us, hl with | [_, _, _], _ => rfl) ?a ?l ?c ?k; (case a => k_is); (case l => k_is); (case c => k_is); (case k => k_is))
    case d__law_table => (refine' Nk.df_mk (st := Nk.s__law_table) KX G (fun _ _ _ _ _ _ us hl => match us, hl with | [_, _, _], _ => rfl) ?a ?l ?c ?k; (case a => k_is); (case l => k_is); (case c => k_is); (case k => k_is))
    case d__law_later => (refine' Nk.df_mk (st := Nk.s__law_later) KX G (fun _ _ _ _ _ _ us hl => match us, hl with | [_, _, _], _ => rfl) ?a ?l ?c ?k; (case a => k_is); (case l => k_is); (case c => k_is); (case k => k_is))
    case d__law_unlike => (refine' Nk.df_mk (st := Nk.s__law_unlike) KX G (fun _ _ _ _ _ _ us hl => match us, hl with | [_, _], _ => rfl) ?a ?l ?c ?k; (case a => k_is); (case l => k_is); (case c => k_is); (case k => k_is))
    case d__law_states => (refine' Nk.df_mk (st := Nk.s__law_states) KX G (fun _ _ _ _ _ _ us hl => match us, hl with | [_, _, _], _ => rfl) ?a ?l ?c ?k; (case a => k_is); (case l => k_is); (case c => k_is); (case k => k_is))
    case d__law_plan_room => (refine' Nk.df_mk (st := Nk.s__law_plan_room) KX G (fun _ _ _ _ _ _ us hl => match us, hl with | [_, _], _ => rfl) ?a ?l ?c ?k; (case a => k_is); (case l => k_is); (case c => k_is); (case k => k_is))
    case d__law_plan_reads => (refine' Nk.df_mk (st := Nk.s__law_plan_reads) KX G (fun _ _ _ _ _ _ us hl => match us, hl with | [_], _ => rfl) ?a ?l ?c ?k; (case a => k_is); (case l => k_is); (case c => k_is); (case k => k_is))
    case d__law_least => (refine' Nk.df_mk (st := Nk.s__law_least) KX G (fun _ _ _ _ _ _ us hl => match us, hl with | [_, _], _ => rfl) ?a ?l ?c ?k; (case a => k_is); (case l => k_is); (case c => k_is); (case k => k_is))
    case d_law => (refine' Nk.df_mk (st := Nk.s_law) KX G (fun _ _ _ _ _ _ us hl => match us, hl with | [_], _ => rfl) ?a ?l ?c ?k; (case a => k_is); (case l => k_is); (case c => k_is); (case k => k_is))
    case x_KeepError => (refine' Nk.xc_mk KX G ?a ?x ?k ?b ?t; (case a => k_is); (case x => k_exc); (case k => k_is); (case b => k_is); (case t => k_is))
    case x_BadNumber => (refine' Nk.xc_mk KX G ?a ?x ?k ?b ?t; (case a => k_is); (case x => k_exc); (case k => k_is); (case b => k_is); (case t => k_is))
    case x_BadState => (refine' Nk.xc_mk KX G ?a ?x ?k ?b ?t; (case a => k_is); (case x => k_exc); (case k => k_is); (case b => k_is); (case t => k_is))
    case o_State => (refine' Nk.oc_mk KX G ?aC ?pg ?hd ?po ?sa ?mk ?kc; (case aC => k_is); (case pg => k_is); (case hd => k_is); (case po => k_is); (case sa => k_is); (case mk => k_is); (case kc => k_is))
    case m_State____init__ => (refine' Nk.md_mk (st := Nk.s_State____init__) KX G (fun _ _ _ _ _ _ us hl => match us, hl with | [_, _], _ => rfl) ?aC ?ai ?ii ?li ?cc ?ki; (case aC => k_is); (case ai => k_is); (case ii => k_is); (case li => k_is); (case cc => k_is); (case ki => k_is))
    case m_State____len__ => (refine' Nk.md_mk (st := Nk.s_State____len__) KX G (fun _ _ _ _ _ _ us hl => match us, hl with | [_], _ => rfl) ?aC ?ai ?ii ?li ?cc ?ki; (case aC => k_is); (case ai => k_is); (case ii => k_is); (case li => k_is); (case cc => k_is); (case ki => k_is))
    case m_State____eq__ => (refine' Nk.md_mk (st := Nk.s_State____eq__) KX G (fun _ _ _ _ _ _ us hl => match us, hl with | [_, _], _ => rfl) ?aC ?ai ?ii ?li ?cc ?ki; (case aC => k_is); (case ai => k_is); (case ii => k_is); (case li => k_is); (case cc => k_is); (case ki => k_is))
    case m_State____str__ => (refine' Nk.md_mk (st := Nk.s_State____str__) KX G (fun _ _ _ _ _ _ us hl => match us, hl with | [_], _ => rfl) ?aC ?ai ?ii ?li ?cc ?ki; (case aC => k_is); (case ai => k_is); (case ii => k_is); (case li => k_is); (case cc => k_is); (case ki => k_is))
    case m_State____repr__ => (refine' Nk.md_mk (st := Nk.s_State____repr__) KX G (fun _ _ _ _ _ _ us hl => match us, hl with | [_], _ => rfl) ?aC ?ai ?ii ?li ?cc ?ki; (case aC => k_is); (case ai => k_is); (case ii => k_is); (case li => k_is); (case cc => k_is); (case ki => k_is))
    case m_State__number => (refine' Nk.md_mk (st := Nk.s_State__number) KX G (fun _ _ _ _ _ _ us hl => match us, hl with | [_, _], _ => rfl) ?aC ?ai ?ii ?li ?cc ?ki; (case aC => k_is); (case ai => k_is); (case ii => k_is); (case li => k_is); (case cc => k_is); (case ki => k_is))
    case m_State__names => (refine' Nk.md_mk (st := Nk.s_State__names) KX G (fun _ _ _ _ _ _ us hl => match us, hl with | [_], _ => rfl) ?aC ?ai ?ii ?li ?cc ?ki; (case aC => k_is); (case ai => k_is); (case ii => k_is); (case li => k_is); (case cc => k_is); (case ki => k_is))
    case m_State__plain => (refine' Nk.md_mk (st := Nk.s_State__plain) KX G (fun _ _ _ _ _ _ us hl => match us, hl with | [_], _ => rfl) ?aC ?ai ?ii ?li ?cc ?ki; (case aC => k_is); (case ai => k_is); (case ii => k_is); (case li => k_is); (case cc => k_is); (case ki => k_is))
    case v_State => (refine' Nk.eo2_mk KX G ?aC ?ne ?sub ?ha ?hn ?htk ?hm; (case aC => k_is); (case ne => k_is); (case sub => k_is); (case ha => k_is); (case hn => k_is); (case htk => k_is); (case hm => k_is))
    case n_State__table => (refine' Nk.na_mk KX G ?aC ?n; (case aC => k_is); (case n => k_is))
    case c_LETTERS => (refine' Nk.cs_mk KX G ?a; (case a => k_is))
    case c_MOST_NAMES => (refine' Nk.ci_mk KX G ?a; (case a => k_is))
    case l_WORDS => (refine' Nk.cl_mk KX G ?a ?l; (case a => k_is); (case l => k_is))
    case b_all => (refine' PySem.W.mg_none_of KX G ?a; (case a => k_is))
    case b_bool => (refine' PySem.W.mg_none_of KX G ?a; (case a => k_is))
    case b_dict => (refine' PySem.W.mg_none_of KX G ?a; (case a => k_is))
    case b_enumerate => (refine' PySem.W.mg_none_of KX G ?a; (case a => k_is))
    case b_int => (refine' PySem.W.mg_none_of KX G ?a; (case a => k_is))
    case b_isinstance => (refine' PySem.W.mg_none_of KX G ?a; (case a => k_is))
    case b_len => (refine' PySem.W.mg_none_of KX G ?a; (case a => k_is))
    case b_list => (refine' PySem.W.mg_none_of KX G ?a; (case a => k_is))
    case b_max => (refine' PySem.W.mg_none_of KX G ?a; (case a => k_is))
    case b_min => (refine' PySem.W.mg_none_of KX G ?a; (case a => k_is))
    case b_range => (refine' PySem.W.mg_none_of KX G ?a; (case a => k_is))
    case b_set => (refine' PySem.W.mg_none_of KX G ?a; (case a => k_is))
    case b_sorted => (refine' PySem.W.mg_none_of KX G ?a; (case a => k_is))
    case b_str => (refine' PySem.W.mg_none_of KX G ?a; (case a => k_is))
