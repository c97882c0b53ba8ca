import PyProof.Rows.All
import Wide.All
import OpenK.AllK
import Wide.FinOn
import HandS.ForMost
import HandS.ForExc
import HandS.IsInst
import HandS.Wide
import HandS.SortInts
import HandS.Zip
import HandS.Walk
import HandS.Evl
import HandS.More
import HandS.Conv
import HandS.ExcIs
import HandS.ExcField
import HandS.ExcInit
import HandS.Sort
import HandS.SetFor
import HandS.TupMul
import HandS.Strs
import HandS.Deep
import HandS.Defaults
import HandS.MakeKw
import KE.KDictSum
import KE.KTupSum
import KE.KExcIs
import KE.KExcInit
import PySem.Challenge.RW_nightkeep_k10_refused_rules
set_option Elab.async false
set_option linter.all false
set_option maxRecDepth 100000
set_option maxHeartbeats 4000000
/-! ### rounds: plain mathematics -/
namespace Nk
def pre (rs : List Int) (j : Nat) : Int := (rs.take j).sum
def walkR : List Int → Int → Int → Int
  | [], _, found => found
  | r :: rs, left, found => if left < r then found else walkR rs (left - r) (found + 1)
def numOf (rs : List Int) (n : Int) : Int := walkR rs (n % rs.sum) (n / rs.sum * rs.length)
def firstOf (rs : List Int) (k : Int) : Int := k / rs.length * rs.sum + pre rs (k % rs.length).toNat
/-- lengths: at least one, each at least 1 -/
structure Rnds (rs : List Int) : Prop where
  ne : rs ≠ []
  pos : ∀ r ∈ rs, 1 ≤ r
theorem pre_zero (rs : List Int) : pre rs 0 = 0 := by simp [pre]
theorem pre_cons (r : Int) (rs : List Int) (j : Nat) : pre (r :: rs) (j + 1) = r + pre rs j := by simp [pre]
theorem pre_len (rs : List Int) : pre rs rs.length = rs.sum := by simp [pre]
theorem pre_step : ∀ {rs : List Int} {j : Nat} {r : Int}, rs[j]? = some r → pre rs (j + 1) = pre rs j + r
  | [], _, _, h => by simp at h
  | a :: rs, 0, r, h => by
    have e : a = r := by simpa using h
    subst e
    rw [pre_cons, pre_zero, pre_zero]; omega
  | a :: rs, j + 1, r, h => by
    have ih := pre_step (rs := rs) (j := j) (r := r) (by simpa using h)
    rw [pre_cons, pre_cons, ih]; omega
theorem pre_mono {rs : List Int} (hp : ∀ r ∈ rs, 1 ≤ r) : ∀ {i j : Nat}, i ≤ j → j ≤ rs.length → pre rs i + ((j : Int) - (i : Int)) ≤ pre rs j := by
  intro i j hij hj
  induction j with
  | zero =>
    have : i = 0 := by omega
    subst this; simp
  | succ j ih =>
    by_cases h : i = j + 1
    · subst h; simp
    · have h1 := ih (by omega) (by omega)
      have hlt : j < rs.length := by omega
      have e := pre_step (List.getElem?_eq_getElem hlt)
      have p := hp _ (List.getElem_mem hlt)
      rw [e]
      omega
theorem pre_nonneg {rs : List Int} (hp : ∀ r ∈ rs, 1 ≤ r) {j : Nat} (hj : j ≤ rs.length) : (j : Int) ≤ pre rs j := by
  have := pre_mono hp (Nat.zero_le j) hj
  rw [pre_zero] at this
  omega
theorem sum_ge {rs : List Int} (hp : ∀ r ∈ rs, 1 ≤ r) : (rs.length : Int) ≤ rs.sum := by
  have := pre_nonneg hp (Nat.le_refl rs.length)
  rw [pre_len] at this
  exact this
theorem Rnds.len {rs : List Int} (h : Rnds rs) : 0 < rs.length := List.length_pos_iff.mpr h.ne
theorem Rnds.sum {rs : List Int} (h : Rnds rs) : 0 < rs.sum := by
  have := sum_ge h.pos
  have := h.len
  omega
theorem walkR_spec : ∀ (rs : List Int) (left found : Int), 0 ≤ left → left < rs.sum → ∃ j : Nat, j < rs.length ∧ walkR rs left found = found + j ∧ pre rs j ≤ left ∧ left < pre rs (j + 1)
  | [], left, found, h0, h1 => by simp at h1; omega
  | r :: rs, left, found, h0, h1 => by
    unfold walkR
    by_cases c : left < r
    · refine ⟨0, by simp, by simp [c], ?_, ?_⟩
      · rw [pre_zero]; exact h0
      · rw [pre_cons, pre_zero]; omega
    · rw [if_neg c]
      obtain ⟨j, hj, e, h2, h3⟩ := walkR_spec rs (left - r) (found + 1) (by omega) (by rw [List.sum_cons] at h1; omega)
      refine ⟨j + 1, by simp; omega, ?_, ?_, ?_⟩
      · rw [e]; push_cast; omega
      · rw [pre_cons]; omega
      · rw [pre_cons]; omega
theorem pre_uniq {rs : List Int} (hp : ∀ r ∈ rs, 1 ≤ r) {i j : Nat} (hi : i < rs.length) (hj : j < rs.length) {x : Int} (h1 : pre rs i ≤ x) (h2 : x < pre rs (i + 1)) (h3 : pre rs j ≤ x) (h4 : x < pre rs (j + 1)) : i = j := by
  by_cases h : i < j
  · have := pre_mono hp (i := i + 1) (j := j) (by omega) (by omega)
    omega
  · by_cases h' : j < i
    · have := pre_mono hp (i := j + 1) (j := i) (by omega) (by omega)
      omega
    · omega
theorem emod_nat {k : Int} {n : Nat} (h : 0 < n) : ∃ j : Nat, j < n ∧ k % (n : Int) = (j : Int) ∧ (j : Int) + (n : Int) * (k / (n : Int)) = k := by
  have h0 := Int.emod_nonneg k (show (n : Int) ≠ 0 by omega)
  have h1 := Int.emod_lt_of_pos k (show (0 : Int) < n by omega)
  have h2 := Int.emod_add_mul_ediv k (n : Int)
  exact ⟨(k % n).toNat, by omega, by omega, by omega⟩
/-- a round, by its place in the turn -/
theorem firstOf_at {rs : List Int} (h : Rnds rs) (q : Int) {j : Nat} (hj : j ≤ rs.length) : firstOf rs (q * rs.length + j) = q * rs.sum + pre rs j := by
  have hl := h.len
  unfold firstOf
  by_cases e : j = rs.length
  · have h1 : (q * (rs.length : Int) + (j : Int)) / (rs.length : Int) = q + 1 ∧ (q * (rs.length : Int) + (j : Int)) % (rs.length : Int) = 0 := by
      rw [Int.ediv_emod_unique (by omega)]
      refine ⟨?_, by omega, by omega⟩
      rw [e, Int.mul_add, Int.mul_comm q]; omega
    rw [h1.1, h1.2, e, pre_len]
    show (q + 1) * rs.sum + pre rs (Int.toNat 0) = _
    rw [show Int.toNat 0 = 0 from rfl, pre_zero, Int.add_mul]
    omega
  · have h1 : (q * (rs.length : Int) + (j : Int)) / (rs.length : Int) = q ∧ (q * (rs.length : Int) + (j : Int)) % (rs.length : Int) = (j : Int) := by
      rw [Int.ediv_emod_unique (by omega)]
      refine ⟨?_, by omega, by omega⟩
      rw [Int.mul_comm q]; omega
    rw [h1.1, h1.2]
    simp
theorem firstOf_step {rs : List Int} (h : Rnds rs) (k : Int) {r : Int} (hr : rs[(k % rs.length).toNat]? = some r) : firstOf rs (k + 1) = firstOf rs k + r := by
  obtain ⟨j, hj, e, f⟩ := emod_nat (k := k) h.len
  rw [e] at hr
  have hr' : rs[j]? = some r := by simpa using hr
  have e1 : k = (k / rs.length) * rs.length + j := by rw [Int.mul_comm]; omega
  have a1 := firstOf_at h (k / rs.length) (Nat.le_of_lt hj)
  have a2 := firstOf_at h (k / rs.length) (Nat.succ_le_of_lt hj)
  rw [← e1] at a1
  have e2 : k / (rs.length : Int) * (rs.length : Int) + ((Nat.succ j : Nat) : Int) = k + 1 := by push_cast; omega
  rw [e2] at a2
  rw [a1, a2]
  show _ + pre rs (j + 1) = _
  rw [pre_step hr']
  omega
theorem get_round {rs : List Int} (h : Rnds rs) (k : Int) : ∃ r, rs[(k % rs.length).toNat]? = some r ∧ 1 ≤ r ∧ r ∈ rs := by
  obtain ⟨j, hj, e, f⟩ := emod_nat (k := k) h.len
  refine ⟨rs[j], ?_, h.pos _ (List.getElem_mem hj), List.getElem_mem hj⟩
  rw [e]
  simpa using List.getElem?_eq_getElem hj
theorem firstOf_lt {rs : List Int} (h : Rnds rs) (k : Int) : firstOf rs k + 1 ≤ firstOf rs (k + 1) := by
  obtain ⟨r, h1, h2, _⟩ := get_round h k
  rw [firstOf_step h k h1]
  omega
theorem firstOf_zero {rs : List Int} (h : Rnds rs) : firstOf rs 0 = 0 := by
  have := firstOf_at h 0 (Nat.zero_le rs.length)
  simp [pre_zero] at this
  exact this
/-- a night between a round's ends lies in it -/
theorem numOf_of {rs : List Int} (h : Rnds rs) {k m : Int} (h1 : firstOf rs k ≤ m) (h2 : m < firstOf rs (k + 1)) : numOf rs m = k := by
  obtain ⟨j, hj, e, f⟩ := emod_nat (k := k) h.len
  have e1 : k = (k / rs.length) * rs.length + j := by rw [Int.mul_comm]; omega
  have a1 := firstOf_at h (k / rs.length) (Nat.le_of_lt hj)
  have a2 := firstOf_at h (k / rs.length) (Nat.succ_le_of_lt hj)
  rw [← e1] at a1
  have e2 : k / (rs.length : Int) * (rs.length : Int) + ((Nat.succ j : Nat) : Int) = k + 1 := by push_cast; omega
  rw [e2] at a2
  rw [a1] at h1
  rw [a2] at h2
  have b0 := pre_nonneg h.pos (Nat.le_of_lt hj)
  have b1 := pre_mono h.pos (i := j + 1) (j := rs.length) (by omega) (Nat.le_refl _)
  rw [pre_len] at b1
  have h2' : m < k / (rs.length : Int) * rs.sum + pre rs (j + 1) := h2
  have h3 : m / rs.sum = k / rs.length ∧ m % rs.sum = m - (k / rs.length) * rs.sum := by
    rw [Int.ediv_emod_unique h.sum]
    refine ⟨by rw [Int.mul_comm rs.sum]; omega, by omega, by omega⟩
  unfold numOf
  rw [h3.1, h3.2]
  obtain ⟨i, hi, w, p1, p2⟩ := walkR_spec rs (m - k / ↑rs.length * rs.sum) (k / ↑rs.length * ↑rs.length) (by omega) (by omega)
  rw [w]
  have : i = j := pre_uniq h.pos hi hj p1 p2 (by omega) (by omega)
  subst this
  omega
/-- each night lies between the ends of its round -/
theorem numOf_spec {rs : List Int} (h : Rnds rs) (m : Int) : firstOf rs (numOf rs m) ≤ m ∧ m < firstOf rs (numOf rs m + 1) := by
  have hs := h.sum
  obtain ⟨i, hi, w, p1, p2⟩ := walkR_spec rs (m % rs.sum) (m / rs.sum * rs.length) (Int.emod_nonneg m (by omega)) (Int.emod_lt_of_pos m hs)
  have hm := Int.emod_add_mul_ediv m rs.sum
  have e : numOf rs m = m / rs.sum * rs.length + i := w
  have a1 := firstOf_at h (m / rs.sum) (Nat.le_of_lt hi)
  have a2 := firstOf_at h (m / rs.sum) (Nat.succ_le_of_lt hi)
  have e2 : m / rs.sum * (rs.length : Int) + ((Nat.succ i : Nat) : Int) = numOf rs m + 1 := by rw [e]; push_cast; omega
  rw [← e] at a1
  rw [e2] at a2
  rw [a1, a2]
  have c := Int.mul_comm rs.sum (m / rs.sum)
  refine ⟨by omega, ?_⟩
  show m < m / rs.sum * rs.sum + pre rs (i + 1)
  omega
theorem firstOf_mono {rs : List Int} (h : Rnds rs) (i : Int) : ∀ d : Nat, firstOf rs i + d ≤ firstOf rs (i + d)
  | 0 => by simp
  | d + 1 => by
    have h1 := firstOf_mono h i d
    have h2 := firstOf_lt h (i + d)
    push_cast
    rw [Int.add_assoc i d 1] at h2
    omega
theorem firstOf_le {rs : List Int} (h : Rnds rs) {i j : Int} (hij : i ≤ j) : firstOf rs i + (j - i) ≤ firstOf rs j := by
  have := firstOf_mono h i (j - i).toNat
  rw [show i + ((j - i).toNat : Int) = j by omega] at this
  omega
theorem firstOf_pos {rs : List Int} (h : Rnds rs) {k : Int} (hk : 0 ≤ k) : k ≤ firstOf rs k := by
  have := firstOf_le h hk
  rw [firstOf_zero h] at this
  omega
theorem numOf_nonneg {rs : List Int} (h : Rnds rs) {n : Int} (hn : 0 ≤ n) : 0 ≤ numOf rs n := by
  have h2 := (numOf_spec h n).2
  by_cases c : 0 ≤ numOf rs n
  · exact c
  · have := firstOf_le h (i := numOf rs n + 1) (j := 0) (by omega)
    rw [firstOf_zero h] at this
    omega
theorem numOf_le {rs : List Int} (h : Rnds rs) {n : Int} (hn : 0 ≤ n) : numOf rs n ≤ n := by
  have h1 := (numOf_spec h n).1
  have h2 := firstOf_pos h (numOf_nonneg h hn)
  omega
/-- later nights lie in no earlier rounds -/
theorem numOf_mono {rs : List Int} (h : Rnds rs) {m n : Int} (hmn : m ≤ n) : numOf rs m ≤ numOf rs n := by
  have h1 := (numOf_spec h m).1
  have h2 := (numOf_spec h n).2
  by_cases c : numOf rs m ≤ numOf rs n
  · exact c
  · have := firstOf_le h (i := numOf rs n + 1) (j := numOf rs m) (by omega)
    omega
/-- a whole turn later -/
theorem firstOf_turn {rs : List Int} (h : Rnds rs) (k : Int) : firstOf rs (k + rs.length) = firstOf rs k + rs.sum := by
  obtain ⟨j, hj, e, f⟩ := emod_nat (k := k) h.len
  have e1 : k = (k / rs.length) * rs.length + j := by rw [Int.mul_comm]; omega
  have a1 := firstOf_at h (k / rs.length) (Nat.le_of_lt hj)
  have a2 := firstOf_at h (k / rs.length + 1) (Nat.le_of_lt hj)
  rw [← e1] at a1
  have e2 : (k / rs.length + 1) * (rs.length : Int) + (j : Int) = k + rs.length := by rw [Int.add_mul]; omega
  rw [e2] at a2
  rw [a1, a2, Int.add_mul]
  omega
theorem numOf_turn {rs : List Int} (h : Rnds rs) (n : Int) : numOf rs (n + rs.sum) = numOf rs n + rs.length := by
  obtain ⟨h1, h2⟩ := numOf_spec h n
  have a1 := firstOf_turn h (numOf rs n)
  have a2 := firstOf_turn h (numOf rs n + 1)
  refine numOf_of h (by omega) ?_
  rw [show numOf rs n + (rs.length : Int) + 1 = numOf rs n + 1 + rs.length by omega]
  omega
theorem firstOf_ge {rs : List Int} (h : Rnds rs) : ∀ k : Nat, (k : Int) ≤ firstOf rs k
  | 0 => by rw [show ((0 : Nat) : Int) = 0 from rfl, firstOf_zero h]; omega
  | k + 1 => by
    have h1 := firstOf_ge h k
    have h2 := firstOf_lt h k
    push_cast
    omega
end Nk
/-! ### what rules keep: plain mathematics -/
namespace Nk
/-- going back through nights: those whose round is another one than that of the night gone through just before -/
def endsR (rs : List Int) : Option Int → List Int → List Int
  | _, [] => []
  | ah, n :: l => if ah = some (numOf rs n) then endsR rs (some (numOf rs n)) l else n :: endsR rs (some (numOf rs n)) l
def lastN (rs : List Int) (ah : Option Int) (l : List Int) : Option Int := match l.getLast? with
  | some n => some (numOf rs n)
  | none => ah
theorem lastN_cons (rs : List Int) (ah : Option Int) (n : Int) (l : List Int) : lastN rs ah (n :: l) = lastN rs (some (numOf rs n)) l := by
  unfold lastN
  cases l with
  | nil => rfl
  | cons m r => rw [List.getLast?_cons_cons]; cases h : (m :: r).getLast? <;> simp_all
theorem endsR_snoc (rs : List Int) : ∀ (l : List Int) (ah : Option Int) (n : Int), endsR rs ah (l ++ [n]) = endsR rs ah l ++ (if lastN rs ah l = some (numOf rs n) then [] else [n])
  | [], ah, n => by
    by_cases h : ah = some (numOf rs n) <;> simp [endsR, lastN, h]
  | m :: l, ah, n => by
    rw [lastN_cons]
    simp only [List.cons_append, endsR]
    rw [endsR_snoc rs l]
    split <;> simp
theorem lastN_snoc (rs : List Int) (ah : Option Int) (l : List Int) (n : Int) : lastN rs ah (l ++ [n]) = some (numOf rs n) := by
  simp [lastN]
/-- the last nights of the rounds, rising -/
def endsF (rs : List Int) : List Int → List Int
  | [] => []
  | [n] => [n]
  | n :: m :: l => if numOf rs n = numOf rs m then endsF rs (m :: l) else n :: endsF rs (m :: l)
theorem endsF_eq (rs : List Int) : ∀ ns : List Int, endsF rs ns = (endsR rs none ns.reverse).reverse
  | [] => rfl
  | [n] => by simp [endsF, endsR]
  | n :: m :: l => by
    rw [List.reverse_cons, endsR_snoc]
    have h : lastN rs none (m :: l).reverse = some (numOf rs m) := by simp [lastN]
    rw [h, List.reverse_append, ← endsF_eq rs (m :: l)]
    simp only [endsF, Option.some.injEq]
    by_cases e : numOf rs n = numOf rs m
    · rw [if_pos e, if_pos e.symm]; rfl
    · rw [if_neg e, if_neg (fun z => e z.symm)]; rfl
/-- what one rule keeps, the last one first -/
def keptBy (ru : List Int × Int) (ns : List Int) : List Int := (endsR ru.1 none ns.reverse).take ru.2.toNat
/-- .. rising -/
def keptUp (ru : List Int × Int) (ns : List Int) : List Int := (endsF ru.1 ns).drop ((endsF ru.1 ns).length - ru.2.toNat)
theorem keptUp_eq (ru : List Int × Int) (ns : List Int) : keptUp ru ns = (keptBy ru ns).reverse := by
  unfold keptUp keptBy
  rw [endsF_eq, List.length_reverse, List.reverse_take]
theorem endsR_sub (rs : List Int) : ∀ (l : List Int) (ah : Option Int), ∀ n ∈ endsR rs ah l, n ∈ l
  | [], _, n, h => by simp [endsR] at h
  | m :: l, ah, n, h => by
    simp only [endsR] at h
    split at h
    · exact List.mem_cons_of_mem _ (endsR_sub rs l _ n h)
    · rcases List.mem_cons.mp h with e | h
      · rw [e]; exact List.mem_cons_self
      · exact List.mem_cons_of_mem _ (endsR_sub rs l _ n h)
theorem keptBy_sub {ru : List Int × Int} {ns : List Int} {n : Int} (h : n ∈ keptBy ru ns) : n ∈ ns := by
  have := endsR_sub ru.1 _ _ n (List.mem_of_mem_take h)
  simpa using this
theorem mem_keptUp {ru : List Int × Int} {ns : List Int} {n : Int} : n ∈ keptUp ru ns ↔ n ∈ keptBy ru ns := by
  rw [keptUp_eq, List.mem_reverse]
/-- what rules keep, rising -/
def keptF (rules : List (List Int × Int)) (ns : List Int) : List Int := ns.filter fun n => rules.any fun ru => decide (n ∈ keptBy ru ns)
theorem mem_keptF {rules : List (List Int × Int)} {ns : List Int} {n : Int} : n ∈ keptF rules ns ↔ ∃ ru ∈ rules, n ∈ keptBy ru ns := by
  unfold keptF
  rw [List.mem_filter, List.any_eq_true]
  constructor
  · rintro ⟨_, ru, h1, h2⟩
    exact ⟨ru, h1, of_decide_eq_true h2⟩
  · rintro ⟨ru, h1, h2⟩
    exact ⟨keptBy_sub h2, ru, h1, decide_eq_true h2⟩
theorem keptF_rise {rules : List (List Int × Int)} {ns : List Int} (h : ns.Pairwise (· < ·)) : (keptF rules ns).Pairwise (· < ·) := h.filter _
/-- two rising lists with the same members are one -/
theorem rise_ext : ∀ {l m : List Int}, l.Pairwise (· < ·) → m.Pairwise (· < ·) → (∀ x, x ∈ l ↔ x ∈ m) → l = m
  | [], [], _, _, _ => rfl
  | [], y :: m, _, _, h => absurd ((h y).mpr List.mem_cons_self) (by simp)
  | x :: l, [], _, _, h => absurd ((h x).mp List.mem_cons_self) (by simp)
  | x :: l, y :: m, hl, hm, h => by
    obtain ⟨hx, hl'⟩ := List.pairwise_cons.mp hl
    obtain ⟨hy, hm'⟩ := List.pairwise_cons.mp hm
    have e : x = y := by
      rcases List.mem_cons.mp ((h x).mp List.mem_cons_self) with e | h1
      · exact e
      · rcases List.mem_cons.mp ((h y).mpr List.mem_cons_self) with e | h2
        · exact e.symm
        · have a := hx y h2
          have b := hy x h1
          omega
    subst e
    have : l = m := rise_ext hl' hm' fun z => by
      constructor
      · intro hz
        have hxz := hx z hz
        rcases List.mem_cons.mp ((h z).mp (List.mem_cons_of_mem _ hz)) with e | h1
        · omega
        · exact h1
      · intro hz
        have hxz := hy z hz
        rcases List.mem_cons.mp ((h z).mpr (List.mem_cons_of_mem _ hz)) with e | h1
        · omega
        · exact h1
    rw [this]
theorem rise_of_le {l : List Int} (h : l.Pairwise (· ≤ ·)) (nd : l.Nodup) : l.Pairwise (· < ·) := by
  have := h.and nd
  exact this.imp fun {a b} ⟨h1, h2⟩ => by omega
theorem take_prefix {α : Type} {l : List α} {p : List α} {k : Nat} (h : ∃ t, l = p ++ t) (hp : p.length = k) : p = l.take k := by
  obtain ⟨t, rfl⟩ := h
  subst hp
  simp
theorem endsR_pre (rs : List Int) (ah : Option Int) : ∀ (t l : List Int), ∃ u, endsR rs ah (l ++ t) = endsR rs ah l ++ u
  | [], l => ⟨[], by simp⟩
  | x :: t, l => by
    obtain ⟨u, hu⟩ := endsR_pre rs ah t (l ++ [x])
    rw [List.append_assoc, List.singleton_append] at hu
    rw [hu, endsR_snoc, List.append_assoc]
    exact ⟨_, rfl⟩
end Nk
/-! ### the layer's short words for this program -/
namespace Nk
open PySem L2 PySem.Spec PyProof.Rows
/-- a def of the top keeps a promise: called by its name -/
structure Fk (P : Program) (w : World) (K : PySem.W.Frag) (mg : Str → Option Value) (base : Heap) (CX : CXT) (k : Nat) (x : Str) (ps : List Str) (sp : Sp) : Prop where
  ex : ∃ (f : Addr) (fd : FuncData), mg x = some (.ref f) ∧ PySem.W.keepIn K (.ref f) = true ∧ Binds K fd ps [] ∧ FnOk P w K mg base CX k f fd ps sp
/-- a def as it stands behind the top -/
structure Df (K : PySem.W.Frag) (mg : Str → Option Value) (x qual : Str) (st : Stmt) (ps : List Str) : Prop where
  ex : ∃ (f : Addr) (fd : FuncData), Fun K x qual st f fd ∧ mg x = some (.ref f) ∧ Binds K fd ps []
section
variable {X : Cx} {CX : CXT} {k : Nat} {ps : List Str} {sp : Sp} {x : Str} {p pos : Pos} {e : Expr} {es : List Expr} {t : TA} {E : XK}
theorem pe_fn (F : Fk X.prog X.w X.K X.mg X.base CX k x ps sp) (hr : Room k X.A) (hg : Gl X x) (hx : Passes CX X E) (ha : PA X (e :: es) t) (hdb : (x == ("__debug__" : Str)) = false := by decide)
    (he : starEach (e :: es) X.env = (false, eval e X.env) :: starEach es X.env := by rfl) (hpl : (backTo pos (starEach es X.env)).any (·.1) = false := by rfl) :
    PE X (.Call (.Name x p) (e :: es) [] pos) (tCall sp [] E t) := by
  obtain ⟨f, fd, g, kp, b, G⟩ := F.ex
  exact pe_call G hr hg g kp b .nil hx ha hdb he hpl
theorem passX {X : Cx} {E : XK} (tk : Takes X (fun cls d _ H => E cls d H)) : Passes (L2.CX X.prog X.w) X E := passes_call tk (fun _ _ _ _ h => h)
end
/-- an own exception class without own __init__, over RuntimeError -/
structure Xc (K : PySem.W.Frag) (mg : Str → Option Value) (x : Str) (C : Addr) : Prop where
  gP : mg x = some (.ref C)
  xP : PySem.W.excIn K C [.type "RuntimeError", .type "Exception", .type "BaseException", .type "object"] "RuntimeError.__new__" = true
  kP : PySem.W.keepIn K (.ref C) = true
  bP : PySem.W.subIn K (.ref C) (.type "BaseException") = some true
  tP : PySem.W.typeIn K (.ref C) = some (.type "type")
theorem Xc.rs {X : Cx} {x : Str} {C : Addr} (h : Xc X.K X.mg x C) : Raises X (.ref C) := raises_own h.bP h.tP
/-! sum of a tuple -/
def rSumT (K : PySem.W.Frag) : List V → Hp → VK → Prop := fun vs H Q => ∃ (a : Addr) (ns : List Int), vs = [V.ref a] ∧ SqT K H a (ns.map V.int) ∧ Q (.int ns.sum) H
theorem cr_sumT {X : Cx} (hc : X.calm = true) : CallR X (.builtin "sum") (rSumT X.K) := by
  intro pins s σ H vs us Q I r h
  obtain ⟨a, ns, rfl, hs, q⟩ := h
  obtain ⟨its, rv, hl, _⟩ := I.tuple hs
  rw [Vals.ref1 r]
  have hi : IntsAre its ns := rv.ints
  obtain ⟨xs, hx⟩ := hi.allInts.items
  have hn : numsOf its.toArray.toList = ns := by rw [show its.toArray.toList = its from rfl, hi.numsOf]
  rw [hx] at hl hn
  rw [nums_intItems] at hn
  refine PySem.W.ktm_sumG (I.ok.hd hc) hl fun h' tk t' hk => ?_
  rw [preSum_eq, List.take_of_length_le (by simp), hn]
  exact ⟨.int _, H, I.kept hk, ⟨_, rfl⟩, q⟩
/-! heaps -/
/-- all but t is as it was -/
def But (t : Addr) (H H' : Hp) : Prop := ∀ b o, H b = some o → b ≠ t → H' b = some o
theorem But.refl {t : Addr} {H : Hp} : But t H H := fun _ _ h _ => h
theorem But.trans {t : Addr} {H H1 H2 : Hp} (a : But t H H1) (b : But t H1 H2) : But t H H2 := fun c o h n => b c o (a c o h n) n
theorem But.of {t : Addr} {H H' : Hp} (s : Same H H') : But t H H' := fun b o h _ => s b o h
theorem But.thenS {t : Addr} {H H1 H2 : Hp} (a : But t H H1) (b : Same H1 H2) : But t H H2 := a.trans (.of b)
theorem Same.thenB {t : Addr} {H H1 H2 : Hp} (a : Same H H1) (b : But t H1 H2) : But t H H2 := (But.of a).trans b
theorem same_upd {H : Hp} {p : Addr} {o : HO} (h : H p = none) : Same H (upd H p o) := fun b x e => by
  rw [upd_ne (ne_of_none e h)]
  exact e
theorem But.upd {t : Addr} {H : Hp} {o : HO} : But t H (upd H t o) := fun b x e n => by
  rw [upd_ne n]
  exact e
theorem But.tup {K : PySem.W.Frag} {t a : Addr} {H H' : Hp} {xs : List V} {l : List V} (b : But t H H') (ht : H t = some (.lst l)) (h : SqT K H a xs) : SqT K H' a xs := by
  rcases h with (h | ⟨o, h⟩) | h
  · exact .inl (.inl (b _ _ h (ne_of h ht (by intro z; cases z))))
  · exact .inl (.inr ⟨o, b _ _ h (ne_of h ht (by intro z; cases z))⟩)
  · exact .inr h
theorem But.lst {K : PySem.W.Frag} {t a : Addr} {H H' : Hp} {xs : List V} (b : But t H H') (ha : a ≠ t) (h : SqL K H a xs) : SqL K H' a xs := by
  rcases h with (h | ⟨o, h⟩) | h
  · exact .inl (.inl (b _ _ h ha))
  · exact .inl (.inr ⟨o, b _ _ h ha⟩)
  · exact .inr h
theorem Same.tup {K : PySem.W.Frag} {a : Addr} {H H' : Hp} {xs : List V} (e : Same H H') (h : SqT K H a xs) : SqT K H' a xs := by
  rcases h with (h | ⟨o, h⟩) | h
  · exact .inl (.inl (e _ _ h))
  · exact .inl (.inr ⟨o, e _ _ h⟩)
  · exact .inr h
theorem sqL {K : PySem.W.Frag} {H : Hp} {a : Addr} {xs : List V} (h : H a = some (.lst xs)) : SqL K H a xs := Or.inl (Or.inl h)
theorem sqT {K : PySem.W.Frag} {H : Hp} {a : Addr} {xs : List V} (h : H a = some (.tup xs)) : SqT K H a xs := Or.inl (Or.inl h)
theorem sz {n : Nat} (h : n ≤ 100000) : n ≤ sizeLine := Nat.le_trans h (by decide)
theorem szl {n : Nat} (h : n < 100000) : n < sizeLine := Nat.lt_of_lt_of_le h (by decide)
/-- a list that is read and is not t -/
def SqN (K : PySem.W.Frag) (H : Hp) (a t : Addr) (xs : List V) : Prop := (Rd H a (.lst xs) ∧ a ≠ t) ∨
    ∃ (o : Obj) (its : Array Value) (n : Nat), K.lookup a = some o ∧ o.cls = .type "list" ∧ o.dict = none ∧ o.data = .seq its n ∧ its.size ≤ sizeLine ∧ Vals xs its.toList
theorem SqN.l {K : PySem.W.Frag} {H : Hp} {a t : Addr} {xs : List V} (h : SqN K H a t xs) : SqL K H a xs := by
  rcases h with ⟨h, _⟩ | h
  · exact .inl h
  · exact .inr h
theorem SqN.but {K : PySem.W.Frag} {H H' : Hp} {a t : Addr} {xs : List V} (h : SqN K H a t xs) (b : But t H H') : SqN K H' a t xs := by
  rcases h with ⟨h | ⟨o, h⟩, n⟩ | h
  · exact .inl ⟨.inl (b _ _ h n), n⟩
  · exact .inl ⟨.inr ⟨o, b _ _ h n⟩, n⟩
  · exact .inr h
theorem SqN.same {K : PySem.W.Frag} {H H' : Hp} {a t : Addr} {xs : List V} (h : SqN K H a t xs) (b : Same H H') : SqN K H' a t xs := h.but (.of b)
theorem SqN.new {K : PySem.W.Frag} {H : Hp} {a t : Addr} {xs : List V} (h : SqL K H a xs) (ht : H t = none) : SqN K H a t xs := by
  rcases h with (h | ⟨o, h⟩) | h
  · exact .inl ⟨.inl h, ne_of_none h ht⟩
  · exact .inl ⟨.inr ⟨o, h⟩, ne_of_none h ht⟩
  · exact .inr h
theorem SqN.app {K : PySem.W.Frag} {H H' : Hp} {a t p : Addr} {xs : List V} {o : HO} (h : SqN K H' a t xs) (h0 : SqN K H a t xs) (hp : H p = none) : SqN K (upd H' p o) a t xs := by
  have sN : But p H' (upd H' p o) := But.upd
  rcases h0 with ⟨h' | ⟨o', h'⟩, n'⟩ | h'
  · rcases h with ⟨h | ⟨o, h⟩, n⟩ | h
    · exact .inl ⟨.inl (sN _ _ h (ne_of_none h' hp)), n⟩
    · exact .inl ⟨.inr ⟨o, sN _ _ h (ne_of_none h' hp)⟩, n⟩
    · exact .inr h
  · rcases h with ⟨h | ⟨o, h⟩, n⟩ | h
    · exact .inl ⟨.inl (sN _ _ h (ne_of_none h' hp)), n⟩
    · exact .inl ⟨.inr ⟨o, sN _ _ h (ne_of_none h' hp)⟩, n⟩
    · exact .inr h
  · exact .inr h'
theorem szN {n : Nat} (h : n ≤ 64) : (n ≤ sizeLine) = True := eq_true (sz (by omega))
/-! things -/
/-- what may be handed in, with the name of its type -/
inductive Thing (K : PySem.W.Frag) (H : Hp) : V → String → Prop
  | non : Thing K H .non "NoneType"
  | bl (b : Bool) : Thing K H (.bl b) "bool"
  | int (i : Int) : Thing K H (.int i) "int"
  | str (x : Str) : Thing K H (.str x) "str"
  | lst {a : Addr} {xs : List V} (h : H a = some (.lst xs)) : Thing K H (.ref a) "list"
  | tup {a : Addr} {xs : List V} (h : H a = some (.tup xs)) : Thing K H (.ref a) "tuple"
  | dic {a : Addr} {kvs : List (Key × V)} (h : H a = some (.dK kvs)) : Thing K H (.ref a) "dict"
theorem Thing.ty {K : PySem.W.Frag} {H : Hp} {x : V} {n : String} (h : Thing K H x n) : TyX K H x (.type n) := by
  cases h with
  | non => exact .base .non
  | bl b => exact .base (.bl b)
  | int i => exact .base (.int i)
  | str x => exact .base (.str x)
  | lst h => exact .base (.lst h)
  | tup h => exact .base (.tup h)
  | dic h => exact .base (.dK h)
theorem Thing.same {K : PySem.W.Frag} {H H' : Hp} {x : V} {n : String} (s : Same H H') (h : Thing K H x n) : Thing K H' x n := by
  cases h with
  | non => exact .non
  | bl b => exact .bl b
  | int i => exact .int i
  | str x => exact .str x
  | lst h => exact .lst (s _ _ h)
  | tup h => exact .tup (s _ _ h)
  | dic h => exact .dic (s _ _ h)
def isA (n : String) (T : String) : Bool := n == T || (n == "bool" && T == "int")
def tyNames : List String := ["NoneType", "bool", "int", "str", "list", "tuple", "dict"]
theorem Thing.mem {K : PySem.W.Frag} {H : Hp} {x : V} {n : String} (h : Thing K H x n) : n ∈ tyNames := by
  cases h <;> simp [tyNames]
theorem kit_all : ∀ n ∈ tyNames, ∀ T ∈ tyNames, kitB n T = some (isA n T) := by decide +kernel
theorem Thing.kit {K : PySem.W.Frag} {H : Hp} {x : V} {n : String} (h : Thing K H x n) {T : String} (hT : T ∈ tyNames) : PySem.W.kitOne K (.type n) (.type T) = some (isA n T) := kit_ty (kit_all n h.mem T hT)
/-- isinstance of a thing -/
theorem isi_thing {K : PySem.W.Frag} {H : Hp} {x : V} {n : String} {T : String} {Q : VK} (h : Thing K H x n) (hT : T ∈ tyNames) (q : Q (.bl (isA n T)) H) : rIsi K [x, .ty T] H Q :=
  ⟨x, .ty T, .type n, .type T, isA n T, rfl, .ty T, h.ty, h.kit hT, q⟩
def isWholeV : V → Bool
  | .int _ => true
  | _ => false
def isNumV (x : V) (lo : Int) (y : V) : Bool := match x, y with
  | .int i, .int hi => decide (lo ≤ i) && decide (i ≤ hi)
  | _, _ => false
end Nk
namespace Nk
open PySem L2 PySem.Spec PyProof.Rows
/-- where a class of the top stands -/
def cls (mg : Str → Option Value) (x : Str) : Addr := match mg x with
  | some (.ref a) => a
  | _ => 0
theorem cls_of {mg : Str → Option Value} {x : Str} {a : Addr} (h : mg x = some (.ref a)) : cls mg x = a := by
  unfold cls; rw [h]
section
variable {X : Cx} {x : Str} {i : Int} {z : Str} {pos : Pos}
theorem pe_globI (h : ∃ t, X.mg x = some (.int i t)) (hg : Gl X x) (hd : (x == ("__debug__" : Str)) = false := by decide) : PE X (.Name x pos) (tC (.int i)) := by
  obtain ⟨t, h⟩ := h
  exact pe_glob hg h ⟨_, rfl⟩ hd
theorem pe_globS (h : ∃ t, X.mg x = some (.str z t)) (hg : Gl X x) (hd : (x == ("__debug__" : Str)) = false := by decide) : PE X (.Name x pos) (tC (.str z)) := by
  obtain ⟨t, h⟩ := h
  exact pe_glob hg h ⟨_, rfl⟩ hd
end
section
variable {K : PySem.W.Frag} {h : Heap} {mg : Str → Option Value}
theorem df_mk {x qual : Str} {st : Stmt} {ps : List Str} {f : Addr} {oc : Value} {od an : Option Addr} {osl : Array (Option Value)} {kV doc pm cdv ct : Value} (X : K.In h) (G : h.Ns mainGlobals mg)
    (hb : ∀ (kV doc pm : Value) (an : Option Addr) (cdv ct : Value) (us : List Value), us.length = ps.length → bindArgs (PySem.W.fnOf x qual (defArgs st) (defBody st) (defScope st) .none kV doc pm an cdv ct) ⟨us, []⟩ = pure (ps.zip us))
    (a : PySem.W.nsIn K mainGlobals x = some (some (.ref f)))
    (l : K.lookup f = some ⟨oc, od, .func (PySem.W.fnOf x qual (defArgs st) (defBody st) (defScope st) .none kV doc pm an cdv ct), osl⟩)
    (c : PySem.W.codeIn K cdv qual = true) (k : PySem.W.keepIn K (.ref f) = true) : Df K mg x qual st ps := by
  have F := fun_mk (st := st) l c k
  exact ⟨f, _, F, PySem.W.mg_of X G a, F.binds hb⟩
theorem xc_mk {x : Str} {C : Addr} (X : K.In h) (G : h.Ns mainGlobals mg) (a : PySem.W.nsIn K mainGlobals x = some (some (.ref C)))
    (xP : PySem.W.excIn K C [.type "RuntimeError", .type "Exception", .type "BaseException", .type "object"] "RuntimeError.__new__" = true)
    (kP : PySem.W.keepIn K (.ref C) = true) (bP : PySem.W.subIn K (.ref C) (.type "BaseException") = some true) (tP : PySem.W.typeIn K (.ref C) = some (.type "type")) : Xc K mg x (cls mg x) := by
  have g := PySem.W.mg_of X G a
  rw [cls_of g]
  exact ⟨g, xP, kP, bP, tP⟩
theorem ci_mk {x : Str} {i : Int} {t : Tok} (X : K.In h) (G : h.Ns mainGlobals mg) (a : PySem.W.nsIn K mainGlobals x = some (some (.int i t))) : ∃ t, mg x = some (.int i t) := ⟨t, PySem.W.mg_of X G a⟩
theorem cs_mk {x z : Str} {t : Tok} (X : K.In h) (G : h.Ns mainGlobals mg) (a : PySem.W.nsIn K mainGlobals x = some (some (.str z t))) : ∃ t, mg x = some (.str z t) := ⟨t, PySem.W.mg_of X G a⟩
end
/-- the law's: a list of at most 63 ints is handed in, True comes out -/
def spLaw (K : PySem.W.Frag) : Sp := fun vs H Q _ => ∃ (a : Addr) (ns : List Int), vs = [.ref a] ∧ SqL K H a (ns.map V.int) ∧ ns.length ≤ 63 ∧ ∀ H', Q (.bl true) H'
theorem law_end {P : Program} {w : World} {K : PySem.W.Frag} {mg : Str → Option Value} {st : Stmt} {fa : Addr} {k : Nat} (hfa : mg "law" = some (.ref fa)) (D : Df K mg "law" "law" st ["script"])
    (hb : ∀ (kV doc pm : Value) (an : Option Addr) (cdv ct v : Value), bindArgs (PySem.W.fnOf "law" "law" (defArgs st) (defBody st) (defScope st) .none kV doc pm an cdv ct) ⟨[v], []⟩ = pure [(("script" : Str), v)])
    (G : ∀ (base : Heap) (f : Addr) (fd : FuncData), Fun K "law" "law" st f fd → FnOk P w K mg base CX0 k f fd ["script"] (spLaw K)) :
    ∃ fd : FuncData, (∀ (s : Shared) (v : Value), BindsTo s fd ⟨[v], []⟩ [("script", v)]) ∧ ∀ base : Heap, K.In base → base.Ns mainGlobals mg → FnOk P w K mg base CX0 k fa fd ["script"] (spLaw K) := by
  obtain ⟨f, fd, F, g, b⟩ := D.ex
  have e : fa = f := by
    have := hfa.symm.trans g
    cases this
    rfl
  subst e
  refine ⟨fd, fun s v => ?_, fun base _ _ => G base fa fd F⟩
  obtain ⟨oc, od, kV, doc, pm, an, cdv, ct, osl, rfl, lk, hcd⟩ := F.ex
  exact .of_eq (hb _ _ _ _ _ _ _)
end Nk
namespace Nk
open PySem L2 PySem.Spec PyProof.Rows
theorem Same.keepN {H H' : Hp} {t : Addr} {o : HO} (s : Same H H') (n : H t = none) : Same H (upd H' t o) := fun b x e => by
  rw [upd_ne (ne_of_none e n)]
  exact s b x e
/-- within a comprehension that leaves all else: G i is the list behind i items -/
structure LcP (H1 : Hp) (D : Addr) (G : Nat → List V) (i : Nat) (H : Hp) : Prop where
  same : Same H1 H
  at_ : H D = some (.lst (G i))
theorem LcP.push {H1 H H4 : Hp} {D : Addr} {G : Nat → List V} {i : Nat} {y : V} (p : LcP H1 D G i H) (hD : H1 D = none) (hl : (G i).length ≤ 99999) (s : Same H H4) (e : G (i + 1) = G i ++ [y]) :
    ∃ acc, H4 D = some (.lst acc) ∧ acc.length < sizeLine ∧ LcP H1 D G (i + 1) (upd H4 D (.lst (acc ++ [y]))) :=
  ⟨G i, s _ _ p.at_, szl (by omega), Same.keepN (p.same.trans s) hD, by rw [upd_same, e]⟩
theorem LcP.skip {H1 H H4 : Hp} {D : Addr} {G : Nat → List V} {i : Nat} (p : LcP H1 D G i H) (s : Same H H4) (e : G (i + 1) = G i) : LcP H1 D G (i + 1) H4 :=
  ⟨p.same.trans s, by rw [e]; exact s _ _ p.at_⟩
theorem lcT {K : PySem.W.Frag} {a : Addr} {xs : List V} {g : TG} {tt : TT} {te : TE} {vs : List Nat} {σ : L2.St} {H1 : Hp} {D : Addr} {Qd : Hp → Prop} (hD : H1 D = none) (hT : SqT K H1 a xs) (G : Nat → List V) (h0 : G 0 = [])
    (hs : ∀ i x H, xs[i]? = some x → LcP H1 D G i H → g x (wipe σ vs) H fun σ2 H2 => wipe σ2 vs = wipe σ vs ∧ tt σ2 H2 fun b H3 =>
      if b = true then te σ2 H3 fun y H4 => ∃ acc, H4 D = some (.lst acc) ∧ acc.length < sizeLine ∧ LcP H1 D G (i + 1) (upd H4 D (.lst (acc ++ [y]))) else LcP H1 D G (i + 1) H3) (hd : ∀ H, Same H1 H → H D = some (.lst (G xs.length)) → Qd H) :
    ∃ W : Nat → Nat → Hp → Prop, (∃ m, W 0 m (upd H1 D (.lst []))) ∧ ∀ i m H, W i m H →
      ((Itt K a).stop i H ∧ Qd H) ∨ ((Itt K a).go i H ∧ ∃ Nx : Hp → Prop, (∀ H', Nx H' → ∃ m', m' < m ∧ W (i + 1) m' H') ∧ ∀ x H', (Itt K a).yld i H x H' → g x (wipe σ vs) H' fun σ2 H2 => wipe σ2 vs = wipe σ vs ∧ tt σ2 H2 fun b H3 =>
        if b = true then te σ2 H3 fun y H4 => ∃ acc, H4 D = some (.lst acc) ∧ acc.length < sizeLine ∧ Nx (upd H4 D (.lst (acc ++ [y]))) else Nx H3) :=
  lc_tup (K := K) (a := a) (xs := xs) (LcP H1 D G) ⟨same_upd hD, by rw [h0]; exact upd_same⟩ (fun i H _ p => Same.tup p.same hT) hs fun H p => hd H p.same p.at_
theorem lcL {K : PySem.W.Frag} {a : Addr} {xs : List V} {g : TG} {tt : TT} {te : TE} {vs : List Nat} {σ : L2.St} {H1 : Hp} {D : Addr} {Qd : Hp → Prop} (hD : H1 D = none) (hT : SqL K H1 a xs) (G : Nat → List V) (h0 : G 0 = [])
    (hs : ∀ i x H, xs[i]? = some x → LcP H1 D G i H → g x (wipe σ vs) H fun σ2 H2 => wipe σ2 vs = wipe σ vs ∧ tt σ2 H2 fun b H3 =>
      if b = true then te σ2 H3 fun y H4 => ∃ acc, H4 D = some (.lst acc) ∧ acc.length < sizeLine ∧ LcP H1 D G (i + 1) (upd H4 D (.lst (acc ++ [y]))) else LcP H1 D G (i + 1) H3) (hd : ∀ H, Same H1 H → H D = some (.lst (G xs.length)) → Qd H) :
    ∃ W : Nat → Nat → Hp → Prop, (∃ m, W 0 m (upd H1 D (.lst []))) ∧ ∀ i m H, W i m H →
      ((Itl K a).stop i H ∧ Qd H) ∨ ((Itl K a).go i H ∧ ∃ Nx : Hp → Prop, (∀ H', Nx H' → ∃ m', m' < m ∧ W (i + 1) m' H') ∧ ∀ x H', (Itl K a).yld i H x H' → g x (wipe σ vs) H' fun σ2 H2 => wipe σ2 vs = wipe σ vs ∧ tt σ2 H2 fun b H3 =>
        if b = true then te σ2 H3 fun y H4 => ∃ acc, H4 D = some (.lst acc) ∧ acc.length < sizeLine ∧ Nx (upd H4 D (.lst (acc ++ [y]))) else Nx H3) :=
  lc_list (K := K) (a := a) (xs := xs) (LcP H1 D G) ⟨same_upd hD, by rw [h0]; exact upd_same⟩ (fun i H _ p => p.same.seq hT) hs fun H p => hd H p.same p.at_
theorem lcR {lo : Int} {n : Nat} {g : TG} {tt : TT} {te : TE} {vs : List Nat} {σ : L2.St} {H1 : Hp} {D : Addr} {Qd : Hp → Prop} (hD : H1 D = none) (G : Nat → List V) (h0 : G 0 = [])
    (hs : ∀ i H, i < n → LcP H1 D G i H → g (.int (lo + i)) (wipe σ vs) H fun σ2 H2 => wipe σ2 vs = wipe σ vs ∧ tt σ2 H2 fun b H3 =>
      if b = true then te σ2 H3 fun y H4 => ∃ acc, H4 D = some (.lst acc) ∧ acc.length < sizeLine ∧ LcP H1 D G (i + 1) (upd H4 D (.lst (acc ++ [y]))) else LcP H1 D G (i + 1) H3) (hd : ∀ H, Same H1 H → H D = some (.lst (G n)) → Qd H) :
    ∃ W : Nat → Nat → Hp → Prop, (∃ m, W 0 m (upd H1 D (.lst []))) ∧ ∀ i m H, W i m H →
      ((Itr lo n).stop i H ∧ Qd H) ∨ ((Itr lo n).go i H ∧ ∃ Nx : Hp → Prop, (∀ H', Nx H' → ∃ m', m' < m ∧ W (i + 1) m' H') ∧ ∀ x H', (Itr lo n).yld i H x H' → g x (wipe σ vs) H' fun σ2 H2 => wipe σ2 vs = wipe σ vs ∧ tt σ2 H2 fun b H3 =>
        if b = true then te σ2 H3 fun y H4 => ∃ acc, H4 D = some (.lst acc) ∧ acc.length < sizeLine ∧ Nx (upd H4 D (.lst (acc ++ [y]))) else Nx H3) :=
  lc_range (LcP H1 D G) ⟨same_upd hD, by rw [h0]; exact upd_same⟩ hs fun H p => hd H p.same p.at_
theorem take_next {α : Type} {l : List α} {i : Nat} {x : α} (h : l[i]? = some x) : l.take (i + 1) = l.take i ++ [x] := by
  rw [List.take_add_one, h]; rfl
theorem map_take_next {α β : Type} {l : List α} {i : Nat} {x : α} (f : α → β) (h : l[i]? = some x) : (l.take (i + 1)).map f = (l.take i).map f ++ [f x] := by
  rw [take_next h]; simp
theorem filter_take_next {α : Type} {l : List α} {i : Nat} {x : α} (f : α → Bool) (h : l[i]? = some x) : (l.take (i + 1)).filter f = (l.take i).filter f ++ (if f x = true then [x] else []) := by
  rw [take_next h, List.filter_append]; cases e : f x <;> simp [e]
theorem filter_len {α : Type} (l : List α) (f : α → Bool) (i : Nat) : ((l.take i).filter f).length ≤ l.length :=
  Nat.le_trans (List.length_filter_le _ _) (by simp; omega)
theorem lt_of_get {α : Type} {l : List α} {i : Nat} {x : α} (h : l[i]? = some x) : i < l.length := (List.getElem?_eq_some_iff.mp h).1
theorem mem_of_get {α : Type} {l : List α} {i : Nat} {x : α} (h : l[i]? = some x) : x ∈ l := List.mem_of_getElem? h
end Nk
namespace Nk
open PySem L2
theorem seq_k {t u : TS} {D : Ends} {σ : L2.St} {H : Hp} (h : ∀ Kt : L2.St → Hp → Prop, Kt = u D → t { D with nx := Kt } σ H) : tSeq t u D σ H := h _ rfl
theorem gCons_cons {t : TG} {u : TGs} {v : V} {r : List V} {σ : L2.St} {H : Hp} {Q : L2.St → Hp → Prop} : gCons t u (v :: r) σ H Q = t v σ H fun σ' H' => u r σ' H' Q := by
  simp only [gCons, List.cons.injEq]
  refine propext ⟨?_, fun h => ⟨v, r, ⟨rfl, rfl⟩, h⟩⟩
  rintro ⟨v', r', ⟨rfl, rfl⟩, h⟩
  exact h
theorem gNil_nil {σ : L2.St} {H : Hp} {Q : L2.St → Hp → Prop} : gNil [] σ H Q = Q σ H := by
  simp only [gNil, true_and]
theorem scal_ii {a b : Int} : scal (.int a) (.int b) = true := rfl
theorem scal_ss {a b : Str} : scal (.str a) (.str b) = true := rfl
theorem scal_bb {a b : Bool} : scal (.bl a) (.bl b) = true := rfl
theorem scal_nn : scal .non .non = true := rfl
theorem scal_ni {b : Int} : scal .non (.int b) = true := rfl
theorem scal_in {b : Int} : scal (.int b) .non = true := rfl
theorem scal_ns {b : Str} : scal .non (.str b) = true := rfl
theorem scal_sn {b : Str} : scal (.str b) .non = true := rfl
theorem scal_is {a : Int} {b : Str} : scal (.int a) (.str b) = true := rfl
theorem scal_si {a : Int} {b : Str} : scal (.str b) (.int a) = true := rfl
end Nk
namespace Nk
open PySem L2
/-- what a for asks when its iterator stands -/
def ForW (J : It) (g : TG) (tb : TS) (D : Ends) (σ : L2.St) (H : Hp) : Prop := ∃ W : Nat → Nat → L2.St → Hp → Prop, (∃ m, W 0 m σ H) ∧ ∀ i m σ H, W i m σ H →
  (J.stop i H ∧ D.nx σ H) ∨ (J.go i H ∧ ∃ N : L2.St → Hp → Prop, (∀ σ' H', N σ' H' → ∃ m', m' < m ∧ W (i + 1) m' σ' H') ∧ ∀ x H', J.yld i H x H' → g x σ H' fun σ2 H2 => tb { D with nx := N, ct := N, bk := D.nx } σ2 H2)
theorem tFor_k {wi : TI} {g : TG} {tb : TS} {D : Ends} {σ : L2.St} {H : Hp} : tFor wi g tb D σ H = wi σ H fun J H1 => ForW J g tb D σ H1 := rfl
/-- what a comprehension asks when its iterator and its list stand -/
def LcW (J : It) (g : TG) (tt : TT) (te : TE) (vs : List Nat) (σ : L2.St) (H1 : Hp) (D : Addr) (Qd : Hp → Prop) : Prop := ∃ W : Nat → Nat → Hp → Prop, (∃ m, W 0 m (upd H1 D (.lst []))) ∧ ∀ i m H, W i m H →
  (J.stop i H ∧ Qd H) ∨ (J.go i H ∧ ∃ Nx : Hp → Prop, (∀ H', Nx H' → ∃ m', m' < m ∧ W (i + 1) m' H') ∧ ∀ x H', J.yld i H x H' → g x (wipe σ vs) H' fun σ2 H2 => wipe σ2 vs = wipe σ vs ∧ tt σ2 H2 fun b H3 =>
    if b = true then te σ2 H3 fun y H4 => ∃ acc, H4 D = some (.lst acc) ∧ acc.length < sizeLine ∧ Nx (upd H4 D (.lst (acc ++ [y]))) else Nx H3)
theorem tLc_k {wi : TI} {g : TG} {tt : TT} {te : TE} {vs : List Nat} {σ : L2.St} {H : Hp} {Q : VK} : tLc wi g tt te vs σ H Q = wi σ H fun J H1 => ∀ D, H1 D = none → LcW J g tt te vs σ H1 D (fun H => Q (.ref D) H) := rfl
end Nk
/-! ### data compared by == -/
namespace Nk
open PySem L2
/-- data of depth at most k, without truths and dicts -/
def gd : Nat → PyData → Bool
  | _, .none => true
  | _, .int _ => true
  | _, .str x => PyData.strOk x
  | _, .bool _ => false
  | _, .dict _ => false
  | 0, .list _ => false
  | 0, .tuple _ => false
  | k + 1, .list xs => xs.all (gd k)
  | k + 1, .tuple xs => xs.all (gd k)
theorem gd_all {k : Nat} : ∀ {xs : List PyData}, xs.all (gd k) = true → ∀ x ∈ xs, gd k x = true := fun h x hx => List.all_eq_true.mp h x hx
theorem canLayAll_of : ∀ {xs : List PyData}, (∀ x ∈ xs, x.canLay0 = true) → PyData.canLayAll0 xs = true
  | [], _ => by simp [PyData.canLayAll0]
  | x :: xs, h => by
    have h1 := h x List.mem_cons_self
    have h2 := canLayAll_of (xs := xs) fun y hy => h y (List.mem_cons_of_mem _ hy)
    simp [PyData.canLayAll0, h1, h2]
theorem depthAll_le {k : Nat} : ∀ {xs : List PyData}, (∀ x ∈ xs, x.depth ≤ k) → PyData.depthAll xs ≤ k
  | [], _ => by simp [PyData.depthAll]
  | x :: xs, h => by
    have h1 := h x List.mem_cons_self
    have h2 := depthAll_le (xs := xs) fun y hy => h y (List.mem_cons_of_mem _ hy)
    simp only [PyData.depthAll]
    omega
theorem gd_lay : ∀ (k : Nat) (d : PyData), gd k d = true → d.canLay0 = true ∧ d.depth ≤ k
  | k, .none, _ => by simp [PyData.canLay0, PyData.depth]
  | k, .int _, _ => by simp [PyData.canLay0, PyData.depth]
  | k, .str x, h => by
    have h' : PyData.strOk x = true := by cases k <;> simpa [gd] using h
    simp [PyData.canLay0, PyData.depth, h']
  | k, .bool _, h => by cases k <;> simp [gd] at h
  | k, .dict _, h => by cases k <;> simp [gd] at h
  | 0, .list _, h => by simp [gd] at h
  | 0, .tuple _, h => by simp [gd] at h
  | k + 1, .list xs, h => by
    have h' : xs.all (gd k) = true := by simpa [gd] using h
    have a := gd_all h'
    simp only [PyData.canLay0, PyData.depth]
    exact ⟨canLayAll_of fun x hx => (gd_lay k x (a x hx)).1, Nat.succ_le_succ (depthAll_le fun x hx => (gd_lay k x (a x hx)).2)⟩
  | k + 1, .tuple xs, h => by
    have h' : xs.all (gd k) = true := by simpa [gd] using h
    have a := gd_all h'
    simp only [PyData.canLay0, PyData.depth]
    exact ⟨canLayAll_of fun x hx => (gd_lay k x (a x hx)).1, Nat.succ_le_succ (depthAll_le fun x hx => (gd_lay k x (a x hx)).2)⟩
theorem gd_shaped {k : Nat} {d : PyData} (h : gd k d = true) (hk : k ≤ 64 := by decide) : SeqAt.shaped d = true := by
  obtain ⟨h1, h2⟩ := gd_lay k d h
  unfold SeqAt.shaped
  rw [h1]
  simp
  omega
theorem eqvAll_iff : ∀ (xs ys : List PyData), (∀ x ∈ xs, ∀ y ∈ ys, PyData.eqv x y = true ↔ x = y) → (PyData.eqvAll xs ys = true ↔ xs = ys)
  | [], [], _ => by simp [PyData.eqvAll]
  | [], _ :: _, _ => by simp [PyData.eqvAll]
  | _ :: _, [], _ => by simp [PyData.eqvAll]
  | x :: xs, y :: ys, h => by
    have h1 := h x List.mem_cons_self y List.mem_cons_self
    have h2 := eqvAll_iff xs ys fun a ha b hb => h a (List.mem_cons_of_mem _ ha) b (List.mem_cons_of_mem _ hb)
    simp [PyData.eqvAll, h1, h2]
theorem eqv_iff : ∀ (k m : Nat) (d e : PyData), gd k d = true → gd m e = true → (PyData.eqv d e = true ↔ d = e)
  | k, m, .bool _, e, h, _ => by cases k <;> simp [gd] at h
  | k, m, .dict _, e, h, _ => by cases k <;> simp [gd] at h
  | k, m, .none, e, _, h => by
    cases e with
    | bool _ => cases m <;> simp [gd] at h
    | dict _ => cases m <;> simp [gd] at h
    | _ => simp [PyData.eqv]
  | k, m, .int i, e, _, h => by
    cases e with
    | bool _ => cases m <;> simp [gd] at h
    | dict _ => cases m <;> simp [gd] at h
    | _ => simp [PyData.eqv]
  | k, m, .str i, e, _, h => by
    cases e with
    | bool _ => cases m <;> simp [gd] at h
    | dict _ => cases m <;> simp [gd] at h
    | _ => simp [PyData.eqv]
  | 0, m, .list _, e, h, _ => by simp [gd] at h
  | 0, m, .tuple _, e, h, _ => by simp [gd] at h
  | k + 1, m, .list xs, e, hd, h => by
    cases e with
    | bool _ => cases m <;> simp [gd] at h
    | dict _ => cases m <;> simp [gd] at h
    | list ys =>
      cases m with
      | zero => simp [gd] at h
      | succ m =>
        have a := gd_all (k := k) (xs := xs) (by simpa [gd] using hd)
        have b := gd_all (k := m) (xs := ys) (by simpa [gd] using h)
        simp only [PyData.eqv, PyData.list.injEq]
        exact eqvAll_iff xs ys fun x hx y hy => eqv_iff k m x y (a x hx) (b y hy)
    | _ => simp [PyData.eqv]
  | k + 1, m, .tuple xs, e, hd, h => by
    cases e with
    | bool _ => cases m <;> simp [gd] at h
    | dict _ => cases m <;> simp [gd] at h
    | tuple ys =>
      cases m with
      | zero => simp [gd] at h
      | succ m =>
        have a := gd_all (k := k) (xs := xs) (by simpa [gd] using hd)
        have b := gd_all (k := m) (xs := ys) (by simpa [gd] using h)
        simp only [PyData.eqv, PyData.tuple.injEq]
        exact eqvAll_iff xs ys fun x hx y hy => eqv_iff k m x y (a x hx) (b y hy)
    | _ => simp [PyData.eqv]
theorem eqv_of_eq {k : Nat} {d e : PyData} (h : gd k d = true) (e1 : d = e) : PyData.eqv d e = true := by
  subst e1
  exact (eqv_iff k k d d h h).mpr rfl
theorem eqv_of_ne {k m : Nat} {d e : PyData} (h : gd k d = true) (h' : gd m e = true) (e1 : d ≠ e) : PyData.eqv d e = false := by
  cases q : PyData.eqv d e with
  | false => rfl
  | true => exact absurd ((eqv_iff k m d e h h').mp q) e1
/-- the data of lists of ints, of tuples of ints -/
abbrev dLI (ns : List Int) : PyData := .list (ns.map .int)
abbrev dTI (ns : List Int) : PyData := .tuple (ns.map .int)
theorem gd_int_all (k : Nat) (ns : List Int) : (ns.map PyData.int).all (gd k) = true := by
  rw [List.all_eq_true]
  intro x hx
  obtain ⟨i, _, rfl⟩ := List.mem_map.mp hx
  cases k <;> rfl
theorem gd_dLI {k : Nat} (ns : List Int) : gd (k + 1) (dLI ns) = true := by simp only [dLI, gd]; exact gd_int_all k ns
theorem gd_dTI {k : Nat} (ns : List Int) : gd (k + 1) (dTI ns) = true := by simp only [dTI, gd]; exact gd_int_all k ns
theorem dpAll_ints {K : PySem.W.Frag} {H : Hp} : ∀ ns : List Int, DpAll K H (ns.map V.int) (ns.map PyData.int)
  | [] => .nil
  | n :: ns => .cons (.int n) (dpAll_ints ns)
theorem dp_LI {K : PySem.W.Frag} {H : Hp} {a : Addr} {ns : List Int} (h : SqL K H a (ns.map V.int)) : Dp K H (.ref a) (dLI ns) := .lst h (dpAll_ints ns)
theorem dp_TI {K : PySem.W.Frag} {H : Hp} {a : Addr} {ns : List Int} (h : SqT K H a (ns.map V.int)) : Dp K H (.ref a) (dTI ns) := .tup h (dpAll_ints ns)
theorem dLI_inj {ns ms : List Int} : dLI ns = dLI ms ↔ ns = ms := by
  constructor
  · intro h
    have h' : ns.map PyData.int = ms.map PyData.int := PyData.list.inj h
    exact (List.map_inj_right (fun _ _ q => PyData.int.inj q)).mp h'
  · intro h; rw [h]
theorem dTI_inj {ns ms : List Int} : dTI ns = dTI ms ↔ ns = ms := by
  constructor
  · intro h
    have h' : ns.map PyData.int = ms.map PyData.int := PyData.tuple.inj h
    exact (List.map_inj_right (fun _ _ q => PyData.int.inj q)).mp h'
  · intro h; rw [h]
/-- == of two data -/
theorem eqD {K : PySem.W.Frag} {H : Hp} {x y : V} {d e : PyData} {Q : VK} {k m : Nat} (hd : Dp K H x d) (he : Dp K H y e) (gk : gd k d = true) (gm : gd m e = true) (h1 : d = e → Q (.bl true) H) (h2 : d ≠ e → Q (.bl false) H) (hk : k ≤ 64 := by decide) (hm : m ≤ 64 := by decide) : rEqD K x y H Q := by
  refine ⟨d, e, hd, he, gd_shaped gk hk, gd_shaped gm hm, ?_⟩
  by_cases c : d = e
  · rw [eqv_of_eq gk c]; exact h1 c
  · rw [eqv_of_ne gk gm c]; exact h2 c
theorem neD {K : PySem.W.Frag} {H : Hp} {x y : V} {d e : PyData} {Q : VK} {k m : Nat} (hd : Dp K H x d) (he : Dp K H y e) (gk : gd k d = true) (gm : gd m e = true) (h1 : d = e → Q (.bl false) H) (h2 : d ≠ e → Q (.bl true) H) (hk : k ≤ 64 := by decide) (hm : m ≤ 64 := by decide) : rNeD K x y H Q := by
  refine ⟨d, e, hd, he, gd_shaped gk hk, gd_shaped gm hm, ?_⟩
  by_cases c : d = e
  · rw [eqv_of_eq gk c]; exact h1 c
  · rw [eqv_of_ne gk gm c]; exact h2 c
theorem newF {H H' : Hp} {p : Addr} {o : HO} (hp : H p = none) (e : upd H p o = H') : Same H H' ∧ H' p = some o := by
  subst e
  exact ⟨same_upd hp, upd_same⟩
/-- an item of a list, by its place -/
theorem ixL {K : PySem.W.Frag} {H : Hp} {p : Addr} {xs : List V} {i : Int} {j : Nat} {v : V} {Q : VK} (h : SqL K H p xs) (hi : i = (j : Int)) (e : xs[j]? = some v) (q : Q v H) : rIxL K (.ref p) (.int i) H Q :=
  ⟨p, xs, i, v, rfl, rfl, h, by rw [hi]; exact atI_nat e, q⟩
theorem ixT {K : PySem.W.Frag} {H : Hp} {p : Addr} {xs : List V} {i : Int} {j : Nat} {v : V} {Q : VK} (h : SqT K H p xs) (hi : i = (j : Int)) (e : xs[j]? = some v) (q : Q v H) : rIxT K (.ref p) (.int i) H Q :=
  ⟨p, xs, i, v, rfl, rfl, h, by rw [hi]; exact atI_nat e, q⟩
theorem setL {H : Hp} {p : Addr} {xs : List V} {i : Int} {j : Nat} {v : V} {Q : Hp → Prop} (h : H p = some (.lst xs)) (hi : i = (j : Int)) (e : j < xs.length) (q : Q (upd H p (.lst (xs.set j v)))) : rSetL (.ref p) (.int i) v H Q :=
  ⟨p, xs, i, j, rfl, rfl, h, by rw [hi]; unfold ixN; rw [if_pos (by omega), if_pos (by omega)]; simp, q⟩
theorem tyL {K : PySem.W.Frag} {H : Hp} {l : Addr} {xs : List V} (h : H l = some (.lst xs)) : tyV K "list" (.ref l) H := .inl ⟨rfl, _, SqL.of h⟩
theorem appR {H : Hp} {l : Addr} {xs : List V} {y : V} {Q : VK} (h : H l = some (.lst xs)) (hz : xs.length ≤ 99999) (q : Q .non (upd H l (.lst (xs ++ [y])))) : rAppend (.ref l) [y] H Q :=
  ⟨l, xs, y, rfl, rfl, h, szl (by omega), q⟩
theorem app {K : PySem.W.Frag} {H : Hp} {l : Addr} {xs : List V} {y : V} {Q : VK} (h : H l = some (.lst xs)) (hz : xs.length ≤ 99999) (q : Q .non (upd H l (.lst (xs ++ [y])))) : tyV K "list" (.ref l) H ∧ rAppend (.ref l) [y] H Q :=
  ⟨tyL h, l, xs, y, rfl, rfl, h, szl (by omega), q⟩
theorem Same.app {H H' : Hp} {p : Addr} {o : HO} (s : Same H H') (n : H p = none) : Same H (upd H' p o) := fun b x e => by
  rw [upd_ne (ne_of_none e n)]
  exact s b x e
theorem inV_ints (n : Int) (l : List Int) : inV (.int n) (l.map V.int) = decide (n ∈ l) := by
  unfold inV
  rw [List.any_map, Bool.eq_iff_iff, List.any_eq_true, decide_eq_true_eq]
  constructor
  · rintro ⟨x, hx, e⟩
    have : x = n := by simpa [eqV] using e
    rw [← this]; exact hx
  · intro h
    exact ⟨n, h, by simp [eqV]⟩
theorem flat_ints (l : List Int) : (l.map V.int).all flatV = true := by
  rw [List.all_eq_true]
  intro x hx
  obtain ⟨i, _, rfl⟩ := List.mem_map.mp hx
  rfl
end Nk
/-! ### d.keys() as a value; sorted of it -/
namespace Nk
open PySem L2 PySem.Spec PyProof.Rows
def KeysO (v d : Addr) : HO := .ext fun h => PySem.W.KdlKeysView h v d
theorem keysO_ok {P : Program} {w : World} {H : Hp} {h : Heap} {v d : Addr} (e : PySem.W.KdlKeysView h v d) : ObjOk P w H h v (KeysO v d) := by
  obtain ⟨o, ho, hc, hd⟩ := e
  exact ⟨⟨o, ho, hc, hd⟩, ⟨o, ho⟩, fun h1 h2 ⟨o', q, r⟩ k => ⟨o', k o' q, r⟩⟩
def rKeys : V → List V → Hp → VK → Prop := fun x xs H Q => ∃ (d : Addr) (kvs : List (Key × V)), x = .ref d ∧ xs = [] ∧ H d = some (.dK kvs) ∧ ∀ v, H v = none → Q (.ref v) (upd H v (KeysO v d))
section
variable {X : Cx}
theorem mt_keys : MtR X "dict.keys" rKeys := by
  intro pins s σ H x xs v us Q I rx rxs h
  obtain ⟨d, kvs, rfl, rfl, hd, q⟩ := h
  cases rx
  cases rxs
  obtain ⟨hz, hs0, vs, kv, hdo⟩ := I.hok d _ hd
  refine PySem.call_meetsIn F.slot_dict_keys hdo.typeIs F.entry_dict_keys (F.args_dict_keys_1 _) (PySem.W.kdl_meets_keys (mixKind X.prog X.w) d hs0) ⟨⟨vs, hdo⟩, ?_⟩
  refine ⟨.ref s.heap.objs.size, upd H s.heap.objs.size (KeysO s.heap.objs.size d), I.laid (t' := s.toks) (fun b ob q => Heap.get?_push_of_some _ q) (Nat.le_refl _) (keysO_ok ⟨_, Heap.get?_push_size _ rfl, rfl, rfl⟩), rfl, q _ (I.hok.fresh (Nat.le_refl _))⟩
/-- sorted(d.keys()), whole numbers, any number of them -/
def rSortedKI : List V → Hp → VK → Prop := fun xs H Q => ∃ (v d : Addr) (kvs : List (Key × V)) (ks : List Int), xs = [.ref v] ∧ H v = some (KeysO v d) ∧ H d = some (.dK kvs) ∧ kvs.map (·.1) = ks.map Sum.inl ∧
  ∀ (ys : List Int) (p : Addr), ys.Perm ks → ys.Pairwise (· ≤ ·) → H p = none → Q (.ref p) (upd H p (.lst (ys.map V.int)))
theorem cr_sortedKI (hcalm : X.calm = true) : CallR X (.builtin "sorted") rSortedKI := by
  intro pins s σ H xs us Q I r q
  obtain ⟨v, a, kvs, ks, ex, hv, hd, hks, q⟩ := q
  subst ex
  obtain ⟨u, eu, rx⟩ := vals1 r
  subst eu
  cases rx
  have hview : PySem.W.KdlKeysView s.heap v a := (I.hok v _ hv).1
  obtain ⟨z, lo, vs, rel, dd⟩ := I.hok a _ hd
  obtain ⟨ep, hat⟩ := dd.dictAt
  have hkeys : vs.map (·.1) = ks.map Sum.inl := rel.keys.symm.trans hks
  have hl : vs.length = ks.length := by
    have e := congrArg List.length hkeys
    rw [List.length_map, List.length_map] at e
    exact e
  have hl2 : kvs.length = vs.length := Paired.length rel
  have h16 : vs.length ≤ sizeLine := by omega
  refine Calls.call_function_entry PyProof.Rows.kind_sorted PyProof.Rows.plain_sorted PyProof.Rows.entry_sorted (PyProof.Rows.args_sorted1 _) ?_
  unfold Builtin.«sorted»
  refine wpAny_bind (m := checkCount "sorted" 1 1 _) (wpAny_pure ?_)
  refine wpAny_bind (PySem.W.kdu_collect (A := X.A.in1) (PySem.W.kdl_keys (knd := mixKind X.prog X.w) (r := v) (d := a) (kvs := vs) (ep := ep)) (I.ok.hd hcalm) ⟨hview, hat⟩ h16 fun h' tk acc hk hacc => ?_)
  have hal : acc.toList.length = ks.length := by rw [Array.length_toList, hacc.1, hl]
  have hS : IntsAre acc.toList ks := ints_each hal fun j v e => by
    obtain ⟨k, x, e1, e2⟩ := hacc.2 j v (by rw [← Array.getElem?_toList]; exact e)
    have e3 : (vs.map (·.1))[j]? = some k := by rw [List.getElem?_map, e1]; rfl
    rw [hkeys, List.getElem?_map] at e3
    cases e4 : ks[j]? with
    | none => rw [e4] at e3; cases e3
    | some y =>
      rw [e4] at e3
      have e5 : Sum.inl y = k := Option.some.inj e3
      subst e5
      rcases keyIs_shape (show keyIs (Sum.inl y) v = true from e2) with ⟨i, t, ek, ev⟩ | ⟨z, t, ek, ev⟩
      · cases ek
        exact ⟨y, t, rfl, ev⟩
      · cases ek
  have I1 : Inv X pins σ H { s with heap := h', toks := tk } := I.kept hk
  refine wpAny_bind (wpAny_newList ?_ (by rw [hal]; omega))
  have hoL : (h'.push (seqObj "list" acc.toList.toArray 0)).get? h'.objs.size = some (seqObj "list" acc.toList.toArray 0) := Heap.get?_push_size _ rfl
  show wpAny _ _ _ _ _ { s with heap := h'.push (seqObj "list" acc.toList.toArray 0), toks := tk }
  refine wpAny_bind (wpAny_holding (wpAny_call_entry PyProof.Rows.slot_list_sort ⟨_, hoL, rfl⟩ PyProof.Rows.entry_list_sort
    (SrtO.list_sort_ord (s := { s with heap := h'.push (seqObj "list" acc.toList.toArray 0), toks := tk }) SrtO.swo_int hoL (by rw [hal]; omega) (fun h2 => SrtO.ints_sortable hS h2) fun out g1 g2 => ⟨_, rfl, ?_⟩) (PyProof.Rows.args_list_sort _)))
  obtain ⟨k1, k2, k3⟩ := SrtO.ints_out hS g1 g2
  obtain ⟨e', he'⟩ := PyProof.Rows.sortedHeap_at (vs := acc.toList) (out := out.toArray) hoL
  have hlen : ((out.map SrtO.iv).map V.int).length ≤ sizeLine := by
    rw [List.length_map, k2.length_eq]
    omega
  refine wpAny_pure ⟨_, rfl, .ref h'.objs.size, upd H h'.objs.size (.lst ((out.map SrtO.iv).map V.int)), I1.laid (t' := tk) (fun b u e => ?_) (Nat.le_refl _)
    (show ObjOk X.prog X.w _ _ _ (.lst ((out.map SrtO.iv).map V.int)) from ⟨hlen, out, e', vals_of_ints k1, he'⟩), rfl, q _ _ k2 k3 (I1.hok.fresh (Nat.le_refl _))⟩
  have hb : b < h'.objs.size := Heap.lt_size e
  rw [PyProof.Rows.sortedHeap_old (Nat.ne_of_lt hb) (by rw [size_push']; exact Nat.lt_succ_of_lt hb)]
  exact Heap.get?_push_of_some _ e
end
end Nk
/-! ### the layer's rules with the written part named (for comprehensions, where the reading may not lean on the block) -/
namespace Nk
open PySem L2
section
variable {X : Cx} {K : PySem.W.Frag}
theorem op_inK (K : PySem.W.Frag) (h : X.K = K) : OpR X (compareOp .In) (rIn K false) := h ▸ op_in_seq
theorem op_notInK (K : PySem.W.Frag) (h : X.K = K) : OpR X (compareOp .NotIn) (rIn K true) := h ▸ op_notIn_seq
theorem ix_listK (K : PySem.W.Frag) (h : X.K = K) : IxR X (rIxL K) := h ▸ ix_list
theorem ix_tupK (K : PySem.W.Frag) (h : X.K = K) : IxR X (rIxT K) := h ▸ ix_tup
theorem sl_listK (K : PySem.W.Frag) (h : X.K = K) : SlR X (rSlL K) := h ▸ sl_list
theorem sl_tupK (K : PySem.W.Frag) (h : X.K = K) : SlR X (rSlT K) := h ▸ sl_tup
def rLenQ (K : PySem.W.Frag) : List V → Hp → VK → Prop := fun xs H Q => ∃ p ys, xs = [V.ref p] ∧ (SqL K H p ys ∨ SqT K H p ys) ∧ Q (.int ys.length) H
theorem call_lenK (K : PySem.W.Frag) (h : X.K = K) : CallR X (.builtin "len") (rLenQ K) := h ▸ call_len_seq
def rListQ (K : PySem.W.Frag) : List V → Hp → VK → Prop := fun xs H Q => ∃ p ys, xs = [V.ref p] ∧ (SqL K H p ys ∨ SqT K H p ys) ∧ ∀ l, H l = none → Q (.ref l) (upd H l (.lst ys))
theorem call_listK (K : PySem.W.Frag) (h : X.K = K) : CallR X (.type "list") (rListQ K) := h ▸ call_list_of
def rTupleQ (K : PySem.W.Frag) : List V → Hp → VK → Prop := fun xs H Q => ∃ p ys, xs = [V.ref p] ∧ ((SqL K H p ys ∧ ∀ l, H l = none → Q (.ref l) (upd H l (.tup ys))) ∨ (SqT K H p ys ∧ Q (.ref p) H))
theorem call_tupleK (K : PySem.W.Frag) (h : X.K = K) : CallR X (.type "tuple") (rTupleQ K) := h ▸ call_tuple_of
theorem cr_sumK (K : PySem.W.Frag) (h : X.K = K) (hc : X.calm = true) : CallR X (.builtin "sum") (rSum K) := h ▸ cr_sum hc
theorem cr_sumTK (K : PySem.W.Frag) (h : X.K = K) (hc : X.calm = true) : CallR X (.builtin "sum") (rSumT K) := h ▸ cr_sumT hc
theorem cr_allK (K : PySem.W.Frag) (h : X.K = K) (hc : X.calm = true) : CallR X (.builtin "all") (rAll K) := h ▸ cr_all hc
theorem cr_anyK (K : PySem.W.Frag) (h : X.K = K) (hc : X.calm = true) : CallR X (.builtin "any") (rAny K) := h ▸ cr_any hc
theorem cr_maxK (K : PySem.W.Frag) (h : X.K = K) (hc : X.calm = true) : CallR X (.builtin "max") (rMax K) := h ▸ cr_max hc
theorem cr_minK (K : PySem.W.Frag) (h : X.K = K) (hc : X.calm = true) : CallR X (.builtin "min") (rMin K) := h ▸ cr_min hc
theorem op_eqDK (K : PySem.W.Frag) (h : X.K = K) (hu : X.A.units + 64 < cLine) : OpR X (compareOp .Eq) (rEqD K) := h ▸ op_eqD hu
theorem op_neDK (K : PySem.W.Frag) (h : X.K = K) (hu : X.A.units + 64 < cLine) : OpR X (compareOp .NotEq) (rNeD K) := h ▸ op_neD hu
theorem op_catTK (K : PySem.W.Frag) (h : X.K = K) : OpR X (binaryOp .Add) (rCatT K) := h ▸ op_catT
theorem call_isiK_ (K : PySem.W.Frag) (h : X.K = K) : CallR X (.builtin "isinstance") (rIsi K) := h ▸ call_isi
theorem pi_listK {tg l : Expr} {tl : TE} (K : PySem.W.Frag) (h : X.K = K) (hl : PE X l tl) : PI X tg l (iList K tl) := h ▸ pi_list hl
theorem pi_tupK {tg l : Expr} {tl : TE} (K : PySem.W.Frag) (h : X.K = K) (hl : PE X l tl) : PI X tg l (iTup K tl) := h ▸ pi_tup hl
theorem pg_tupK {es : List Expr} {k : Nat} {t : TGs} {n : Nat} {pos : Pos} (K : PySem.W.Frag) (hK : X.K = K) (hc : X.calm = true) (h : PGs X es t)
    (hn : (assignEach es X.env).length = n := by rfl) (hst : (assignEach es X.env).findIdx? (·.1) = none := by rfl) : PG X (.Tuple es k pos) (gTup K n t) := hK ▸ pg_tup hc h hn hst
theorem pi_enumK {e : Expr} {ta : TA} {p pos tpos : Pos} {elts : List Expr} {kk : Nat} (K : PySem.W.Frag) (h : X.K = K) (hg : Gl X "enumerate") (hm : X.mg "enumerate" = none) (ha : PA X [e] ta) (hs : starEach [e] X.env = [(false, eval e X.env)] := by rfl) :
    PI X (.Tuple elts kk tpos) (.Call (.Name "enumerate" p) [e] [] pos) (iEnum K ta) := h ▸ pi_enum hg hm ha hs
theorem pi_zipK {e e2 : Expr} {ta : TA} {p pos tpos : Pos} {elts : List Expr} {kk : Nat} (K : PySem.W.Frag) (h : X.K = K) (hg : Gl X "zip") (hm : X.mg "zip" = none) (ha : PA X [e, e2] ta)
    (hs : starEach [e, e2] X.env = (false, eval e X.env) :: starEach [e2] X.env := by rfl) (hpl : (backTo pos (starEach [e2] X.env)).any (·.1) = false := by rfl) :
    PI X (.Tuple elts kk tpos) (.Call (.Name "zip" p) [e, e2] [] pos) (iZip K ta) := h ▸ pi_zip hg hm ha hs hpl
end
end Nk
/-! ### more rules: tuples put together (the left one may be empty), ranges, == of lists with [] -/
namespace Nk
open PySem L2 PySem.Spec PyProof.Rows
section
variable {X : Cx}
def rCatT3 : R2 := fun x y H Q => ∃ a b xs ys, x = .ref a ∧ y = .ref b ∧ H a = some (.tup xs) ∧ H b = some (.tup ys) ∧ xs.length + ys.length ≤ 100000 ∧ ∀ p H', Same H H' → H' p = some (.tup (xs ++ ys)) → Q (.ref p) H'
theorem op_catT3 : OpR X (binaryOp .Add) rCatT3 := by
  intro pins s σ H x y v u Q I rx ry h
  obtain ⟨a, b, xs, ys, rfl, rfl, ha, hb, hz, q⟩ := h
  by_cases hx : xs = []
  · subst hx
    cases rx
    cases ry
    obtain ⟨its, r1, p1, _⟩ := I.tuple (sqT (K := X.K) ha)
    obtain ⟨its2, r2, p2, _⟩ := I.tuple (sqT (K := X.K) hb)
    cases r1
    obtain ⟨⟨cls, dd, data, sl⟩, ho, hc, n, hd⟩ := id p1
    obtain ⟨⟨cls2, dd2, data2, sl2⟩, ho2, hc2, n2, hd2⟩ := id p2
    simp only at hc hd hc2 hd2
    subst hc hd hc2 hd2
    exact concat_meets ⟨_, ho, rfl⟩ ⟨_, ho2, rfl⟩ noFill_tuple_add seq_tuple_add PySem.F.slot_tuple_add PySem.F.entry_tuple_add (PySem.F.args_tuple_add_2 _ _)
      (tuple_addW0 a b #[] its2.toArray n n2 dd dd2 sl sl2 (by rfl)) ⟨ho, ho2, ⟨.ref b, H, I, rfl, q b H (Same.refl _) hb⟩⟩
  · refine op_catT pins s σ H (.ref a) (.ref b) v u Q I rx ry ⟨a, b, xs, ys, rfl, rfl, sqT ha, sqT hb, hx, sz hz, fun e => ?_, fun _ p hp => q p _ (same_upd hp) upd_same⟩
    subst e
    exact q a H (Same.refl _) (by rw [List.append_nil]; exact ha)
def rInR (neg : Bool) : R2 := fun x y H Q => ∃ i a lo hi, x = V.int i ∧ y = V.ref a ∧ H a = some (.rng lo hi) ∧ Q (.bl (if neg then !decide (lo ≤ i ∧ i < hi) else decide (lo ≤ i ∧ i < hi))) H
theorem op_inR : OpR X (compareOp .In) (rInR false) := op_in_rng
theorem op_notInR : OpR X (compareOp .NotIn) (rInR true) := by
  intro pins s σ H x y v u Q I rx ry h
  obtain ⟨i, a, lo, hi, rfl, rfl, ha, q⟩ := h
  obtain ⟨k, rfl⟩ := rx
  obtain rfl : u = Value.ref a := ry
  obtain ⟨t1, t2, t3, ho⟩ := I.hok a _ ha
  show wpAny _ _ (do return Value.bool (!(← contains (Value.ref a) (Value.int i k)))) _ _ s
  refine wpAny_bind (wpAny_contains_slot (T := "range") ⟨_, ho, rfl⟩ F.slot_range_contains (call_meets F.slot_range_contains ⟨_, ho, rfl⟩ F.entry_range_contains (F.args_range_contains_2 _ _) (q_contains a lo hi i t1 t2 t3 k)
    ⟨ho, wpAny_truthy_bool (wpAny_pure ⟨.bl _, H, I, rfl, ?_⟩)⟩))
  rw [place1]
  exact q
def rRange : List V → Hp → VK → Prop := fun vs H Q => ∃ i j, vs = [V.int i, V.int j] ∧ ∀ p, H p = none → Q (.ref p) (upd H p (.rng i j))
theorem cr_rangeV : CallR X (.type "range") rRange := cr_range2
end
/-- data, bools among them -/
def gb : Nat → PyData → Bool
  | _, .none => true
  | _, .int _ => true
  | _, .str x => PyData.strOk x
  | _, .bool _ => true
  | k + 1, .list xs => xs.all (gb k)
  | k + 1, .tuple xs => xs.all (gb k)
  | _, _ => false
theorem gb_lay : ∀ (k : Nat) (d : PyData), gb k d = true → d.canLay0 = true ∧ d.depth ≤ k
  | k, .none, _ => by simp [PyData.canLay0, PyData.depth]
  | k, .bool _, _ => by simp [PyData.canLay0, PyData.depth]
  | k, .int _, _ => by simp [PyData.canLay0, PyData.depth]
  | k, .str x, h => by
    have h' : PyData.strOk x = true := by simpa [gb] using h
    simp [PyData.canLay0, PyData.depth, h']
  | k, .dict _, h => by cases k <;> simp [gb] at h
  | 0, .list _, h => by simp [gb] at h
  | 0, .tuple _, h => by simp [gb] at h
  | k + 1, .list xs, h => by
    have a : ∀ x ∈ xs, gb k x = true := by simpa [gb] using h
    simp only [PyData.canLay0, PyData.depth]
    exact ⟨canLayAll_of fun x hx => (gb_lay k x (a x hx)).1, Nat.succ_le_succ (depthAll_le fun x hx => (gb_lay k x (a x hx)).2)⟩
  | k + 1, .tuple xs, h => by
    have a : ∀ x ∈ xs, gb k x = true := by simpa [gb] using h
    simp only [PyData.canLay0, PyData.depth]
    exact ⟨canLayAll_of fun x hx => (gb_lay k x (a x hx)).1, Nat.succ_le_succ (depthAll_le fun x hx => (gb_lay k x (a x hx)).2)⟩
theorem gb_shaped {k : Nat} {d : PyData} (h : gb k d = true) (hk : k ≤ 64 := by decide) : SeqAt.shaped d = true := by
  obtain ⟨h1, h2⟩ := gb_lay k d h
  unfold SeqAt.shaped
  rw [h1]
  simp
  omega
/-- a thing that may stand within another: it can be laid down as data -/
def Dat (K : PySem.W.Frag) (H : Hp) (k : Nat) (x : V) : Prop := ∃ d, Dp K H x d ∧ gb k d = true
mutual
theorem Dp.same {K : PySem.W.Frag} {H H' : Hp} (s : Same H H') : ∀ {x : V} {d : PyData}, Dp K H x d → Dp K H' x d
  | _, _, .non => .non
  | _, _, .bl b => .bl b
  | _, _, .int i => .int i
  | _, _, .str x => .str x
  | _, _, .lst h a => .lst (s.seq h) (DpAll.same s a)
  | _, _, .tup h a => .tup (Same.tup s h) (DpAll.same s a)
theorem DpAll.same {K : PySem.W.Frag} {H H' : Hp} (s : Same H H') : ∀ {xs : List V} {ds : List PyData}, DpAll K H xs ds → DpAll K H' xs ds
  | _, _, .nil => .nil
  | _, _, .cons h a => .cons (Dp.same s h) (DpAll.same s a)
end
theorem Dat.same {K : PySem.W.Frag} {H H' : Hp} {k : Nat} {x : V} (s : Same H H') (h : Dat K H k x) : Dat K H' k x := by
  obtain ⟨d, h1, h2⟩ := h
  exact ⟨d, Dp.same s h1, h2⟩
theorem dat_all {K : PySem.W.Frag} {H : Hp} {k : Nat} : ∀ {xs : List V}, (∀ x ∈ xs, Dat K H k x) → ∃ ds, DpAll K H xs ds ∧ ds.all (gb k) = true ∧ ds.length = xs.length
  | [], _ => ⟨[], .nil, rfl, rfl⟩
  | x :: xs, h => by
    obtain ⟨d, h1, h2⟩ := h x List.mem_cons_self
    obtain ⟨ds, a, b, c⟩ := dat_all (xs := xs) fun y hy => h y (List.mem_cons_of_mem _ hy)
    exact ⟨d :: ds, .cons h1 a, by rw [List.all_cons, h2, b]; rfl, by simp [c]⟩
theorem eqv_nil {ds : List PyData} (h : ds ≠ []) : PyData.eqv (.list ds) (.list []) = false := by
  cases ds with
  | nil => exact absurd rfl h
  | cons d ds => simp [PyData.eqv, PyData.eqvAll]
/-- l == [], whatever stands in l -/
theorem eqE {K : PySem.W.Frag} {H : Hp} {a b : Addr} {xs : List V} {k : Nat} {Q : VK} (ha : SqL K H a xs) (hx : ∀ x ∈ xs, Dat K H k x) (hb : SqL K H b []) (h1 : xs = [] → Q (.bl true) H) (h2 : xs ≠ [] → Q (.bl false) H) (hk : k + 1 ≤ 64 := by decide) : rEqD K (.ref a) (.ref b) H Q := by
  obtain ⟨ds, d1, d2, d3⟩ := dat_all hx
  refine ⟨.list ds, .list [], .lst ha d1, .lst hb .nil, gb_shaped (k := k + 1) (by simpa [gb] using d2) hk, by decide, ?_⟩
  by_cases c : xs = []
  · have : ds = [] := List.length_eq_zero_iff.mp (by rw [d3, c]; rfl)
    subst this
    exact h1 c
  · rw [eqv_nil (fun e => c (List.length_eq_zero_iff.mp (by rw [← d3, e]; rfl)))]
    exact h2 c
theorem neE {K : PySem.W.Frag} {H : Hp} {a b : Addr} {xs : List V} {k : Nat} {Q : VK} (ha : SqL K H a xs) (hx : ∀ x ∈ xs, Dat K H k x) (hb : SqL K H b []) (h1 : xs = [] → Q (.bl false) H) (h2 : xs ≠ [] → Q (.bl true) H) (hk : k + 1 ≤ 64 := by decide) : rNeD K (.ref a) (.ref b) H Q := by
  obtain ⟨ds, d1, d2, d3⟩ := dat_all hx
  refine ⟨.list ds, .list [], .lst ha d1, .lst hb .nil, gb_shaped (k := k + 1) (by simpa [gb] using d2) hk, by decide, ?_⟩
  by_cases c : xs = []
  · have : ds = [] := List.length_eq_zero_iff.mp (by rw [d3, c]; rfl)
    subst this
    exact h1 c
  · rw [eqv_nil (fun e => c (List.length_eq_zero_iff.mp (by rw [← d3, e]; rfl)))]
    exact h2 c
end Nk
/-! ### comprehensions that filter ints -/
namespace Nk
open PySem L2
theorem lcF {K : PySem.W.Frag} {a : Addr} {ns : List Int} {j : Nat} {tt : TT} {vs : List Nat} {σ : L2.St} {H1 : Hp} {D : Addr} {Qd : Hp → Prop} (f : Int → Bool) (hD : H1 D = none) (hT : SqL K H1 a (ns.map V.int)) (hn : ns.length ≤ 99999)
    (hj : ∀ v : V, ((wipe σ vs).set j (some v))[j]? = some (some v)) (hw : ∀ v : V, wipe ((wipe σ vs).set j (some v)) vs = wipe σ vs)
    (ht : ∀ n H, n ∈ ns → Same H1 H → ∀ Q : Bool → Hp → Prop, (∀ H', Same H H' → Q (f n) H') → tt ((wipe σ vs).set j (some (.int n))) H Q)
    (hd : ∀ H, Same H1 H → H D = some (.lst ((ns.filter f).map V.int)) → Qd H) : LcW (Itl K a) (gName j) tt (tVar j) vs σ H1 D Qd := by
  refine lcL hD hT (fun i => ((ns.take i).filter f).map V.int) (by simp) (fun i x H hx p => ?_) (fun H s hH => hd H s (by simpa using hH))
  rw [List.getElem?_map] at hx
  cases e : ns[i]? with
  | none => rw [e] at hx; cases hx
  | some n =>
  rw [e] at hx
  cases hx
  refine ⟨hw _, ht n H (mem_of_get e) p.same _ fun H' s => ?_⟩
  have hf := filter_take_next f e
  cases c : f n with
  | true =>
    rw [if_pos rfl]
    refine ⟨_, hj _, p.push hD (by rw [List.length_map]; exact Nat.le_trans (filter_len ns f i) hn) s ?_⟩
    show _ = _
    rw [hf, c]
    simp
  | false =>
    rw [if_neg Bool.false_ne_true]
    refine p.skip s ?_
    show _ = _
    rw [hf, c]
    simp
end Nk
/-! ### a caught error that is kept behind its clause -/
namespace Nk
open PySem L2 PySem.Spec PyProof.Rows
/-- an error of the class cl with the own dict d, that was caught -/
def ExV (cl : Value) (d : Option Addr) (a : Addr) : HO := .ext fun h => ∃ oe, h.get? a = some oe ∧ Zc cl d oe ∧ ∃ vs, oe.data = .fields vs
theorem exV_ok {P : Program} {w : World} {H : Hp} {h : Heap} {a : Addr} {cl : Value} {d : Option Addr} {oe : Obj} (e : h.get? a = some oe) (z : Zc cl d oe) (f : ∃ vs, oe.data = .fields vs) : ObjOk P w H h a (ExV cl d a) :=
  ⟨⟨oe, e, z, f⟩, ⟨oe, e⟩, fun _ _ ⟨o, q, r⟩ k => ⟨o, k o q, r⟩⟩
section
variable {X : Cx} {pins : List (Addr × Obj)} {σ : L2.St} {H : Hp} {s : Shared} {a : Addr} {o : HO} {oe : Obj}
/-- an object that was made since the entry is tracked from now on -/
theorem inv_track (I : Inv X pins σ H s) (ha : s.heap.get? a = some oe) (hf : ∃ vs, oe.data = .fields vs) (na : H a = none) (n0 : X.s_0.heap.get? a = none) (nL : a ≠ X.env.locals) (np : ∀ p ∈ X.pn ++ pins, p.1 ≠ a)
    (new : ObjOk X.prog X.w (upd H a o) s.heap a o) : Inv X pins σ (upd H a o) s := by
  have off : ∀ {b : Addr} {u : HO}, H b = some u → (upd H a o) b = some u := fun {b u} e => by rw [upd_ne (ne_of_none e na)]; exact e
  have offN : ∀ {b : Addr}, H b = none → b ≠ a → (upd H a o) b = none := fun {b} e n => by rw [upd_ne n]; exact e
  have old : ∀ {b : Addr} {u : Obj}, X.s_0.heap.get? b = some u → b ≠ a := fun {b u} e z => by rw [z, n0] at e; cases e
  obtain ⟨vs, hvs⟩ := hf
  refine { ok := I.ok, os := I.os, bare := I.bare, base := ?_, loc := I.loc, cell := I.cell, free := offN I.free (Ne.symm nL), freeC := ?_, pin := ?_, hok := ?_, len := I.len }
  · exact { keep := I.base.keep, slot := I.base.slot, free := fun b u e n hx => offN (I.base.free b u e n hx) (old e), there := I.base.there, tups := fun b xs e => off (I.base.tups b xs e), frzs := fun b u v e => off (I.base.frzs b u v e), tbls := fun b ps e => by
              obtain ⟨m, q⟩ := I.base.tbls b ps e
              exact ⟨m, off q⟩ }
  · intro x c e
    refine offN (I.freeC x c e) fun z => ?_
    obtain ⟨v, oc, hc, hd⟩ := I.cell x c e
    rw [z, ha] at hc
    cases hc
    rw [hvs] at hd
    cases hd
  · intro p hp
    obtain ⟨h1, h2, h3, h4, h5⟩ := I.pin p hp
    exact ⟨h1, offN h2 (np p hp), h3, h4, h5⟩
  · intro b u e
    by_cases hb : b = a
    · subst hb
      rw [upd_same] at e
      cases e
      exact new
    · rw [upd_ne hb] at e
      exact (I.hok b u e).stay (fun _ _ _ q => q) (fun _ q => off q) fun _ _ q => off q
end
/-- what 'except x as n: y = n' wishes of an error of the body: n in slot i, y in slot j -/
def wKept (K : PySem.W.Frag) (c : Value) (i j : Nat) (Wout : WX) (D : Ends) : WX := fun cl d σ H =>
  ∃ b, PySem.W.exmOne K cl c = some b ∧ (b = true → ∀ a, H a = none → D.nx ((σ.set i (some (.ref a))).set j (some (.ref a)) |>.set i none) (upd H a (ExV cl d a))) ∧ (b = false → Wout cl d σ H)
section
variable {X : Cx} {x n : Str} {c : Value} {i j : Nat} {body : List Stmt} {b₀ : Stmt} {np pos pos' : Pos} {tb : WX → TS} {Wout : WX}
theorem ps_try_kept (hs : X.stack = X.env :: X.outer) (hf : X.env.frame = some X.env.locals) (hex : X.ex = []) (hN : X.N.Nodup) (hi : X.N[i]? = some n) (hln : X.env.kindOf n = some .local) (hc : Names X x c) (tk : Takes X Wout)
    (hb : ∀ (W : WX) (pn : List (Addr × Obj)) (xe : Value → Shared → Prop), Takes (X.tr pn xe) W → PassesOwn (model X.prog X.w) X.A X.env xe → PSs (X.tr pn xe) body (tb W))
    (hsu : ∀ (a : Addr) (oe : Obj) (pn : List (Addr × Obj)), PSs (X.suite a ((a, oe) :: pn)) [b₀] (tAsg (tVar i) (gName j))) (hlen : i < X.N.length) :
    PS X (.Try body [.ExceptHandler (some (.Name x np)) (some n) [b₀] pos'] [] [] pos) (fun D σ H => tb (wKept X.K c i j Wout D) D σ H) := by
  refine ⟨fun pins s σ H D I h => ?_⟩
  have ok := I.ok
  have hfr : X.A.frames = some (X.env :: X.outer) := by rw [ok.frames, hs]
  refine wpAny_Try_except ?_
  refine wpAny_mono ((hb (wKept X.K c i j Wout D) (X.pn ++ pins) (fun e s₁ => wpAny (model X.prog X.w) X.A (noteFrame e X.env) (fun _ s₂ => wpAny (model X.prog X.w) X.A (setFlight e none) (fun _ s₃ =>
    wpAny (model X.prog X.w) X.A (handleBy e X.env [.ExceptHandler (some (.Name x np)) (some n) [b₀] pos']) (SP X pins D) X.xe s₃) X.xe s₂) X.xe s₁) (fun u s' xx => ?_) PassesOwn.looking).run [] s σ H D (I.toTry _) h) (fun f s1 hsp => ?_) (fun e s1 he => he)
  · obtain ⟨a, B, sI, pins', σ', H', cl, d, rfl, J', nb, up, sky, na, os, ag, b, hb1, hyes, hno⟩ := xx
    have J : Inv X pins σ' H' sI := J'.ofTry ok
    have sky' : Sky B (X.env :: X.outer) a (Zc cl d) X.env.locals s'.heap := hs ▸ sky
    show wpAny (model X.prog X.w) X.A (noteFrame (.ref a) X.env) _ _ _
    refine Sky.land Zc.steady hfr hf sky' fun h3 fl3 up3 => ?_
    have J3 : Inv X pins σ' H' { s' with heap := h3 } := J.landed nb fl3.1 (up.trans up3) os ag
    obtain ⟨oe3, vs3, he3, hz3, hd3⟩ := fl3.there
    have nfr : a ∉ frs (X.env :: X.outer) := fun hm => by
      obtain ⟨_, o', e', hnf⟩ := fl3.2.2.1.mem hm
      rw [he3] at e'
      cases e'
      exact hnf _ hd3
    have nL : a ≠ X.env.locals := fun z => nfr (List.mem_filterMap.mpr ⟨X.env, List.mem_cons_self, by rw [hf, z]⟩)
    have nF : a ∉ X.fs := fun hm => by
      obtain ⟨e, he, q⟩ := List.mem_filterMap.mp hm
      exact nfr (List.mem_filterMap.mpr ⟨e, List.mem_cons_of_mem _ he, q⟩)
    have gone : sI.heap.get? a = none := by
      cases e : sI.heap.get? a with
      | none => rfl
      | some o =>
        have := nb a o e (by rw [hs]; exact nfr)
        rw [fl3.2.1] at this
        cases this
    have n0 : X.s_0.heap.get? a = none := by
      cases e : X.s_0.heap.get? a with
      | none => rfl
      | some o =>
        obtain ⟨o', q⟩ := J.base.there a o e (by rw [hex]; exact fun z => nomatch z)
        rw [gone] at q
        cases q
    have hpn : ∀ p ∈ X.pn ++ pins, p.1 ≠ a := fun p hp z => by
      have := (J.pin p hp).1
      rw [z, gone] at this
      cases this
    have S3 := J3.suite he3 hd3 na nL nF
    refine wpAny_handleBy_cons (codeAny_handlers_test ?_) (by intro q; cases q)
    have LT : PySem.W.Looks (model X.prog X.w) h3 (typeOf (.ref a)) cl := fun A Q E s k q => wpAny_typeOf_ref (k _ _ he3) (by rw [hz3.1]; exact q)
    have LM := PySem.W.exm_one (M := model X.prog X.w) (J3.kIn) LT hb1
    have test : ∀ {Q : Value → Shared → Prop} {E : Value → Shared → Prop}, Q c { s' with heap := h3 } → wpAny (model X.prog X.w) (X.A.mark (some (.ref a))) (eval (.Name x np) X.env) Q E { s' with heap := h3 } := fun {Q E} q => by
      obtain ⟨hg, hdbg, hm | ⟨hm, hv, hnn⟩⟩ := hc
      · exact ld_glob (X := X.suite a ((a, oe3) :: (X.pn ++ pins))) S3 hg hm q hdbg
      · exact ld_blt (X := X.suite a ((a, oe3) :: (X.pn ++ pins))) S3 hg hm hv q hnn hdbg
    refine test (LM.here ?_)
    cases b with
    | true =>
      refine codeAny_handlers_suite_as ?_
      refine HandSPX.lands_againZ fl3 fun h4 fl4 up4 => ?_
      have J4 : Inv X pins σ' H' { s' with heap := h4 } := J.landed nb fl4.1 ((up.trans up3).trans up4) os ag
      obtain ⟨oe4, vs4, he4, hz4, hd4⟩ := fl4.there
      have S4 := J4.suite he4 hd4 na nL nF
      refine store_ok (X := X.suite a ((a, oe4) :: (X.pn ++ pins))) (v := .ref a) S4 hN hi (.inl hln) rfl (fun s5 S5 => ?_) (.inr hln)
      have hv : (σ'.set i (some (V.ref a)))[i]? = some (some (.ref a)) := List.getElem?_set_self (by rw [J4.len]; exact hlen)
      refine wpAny_mono ((hsu a oe4 (X.pn ++ pins)).run [] s5 _ H' { nx := fun σ6 H6 => σ6 = (σ'.set i (some (V.ref a))).set j (some (.ref a)) ∧ H6 = H', rt := fun _ _ => False, bk := fun _ _ => False, ct := fun _ _ => False } S5 ⟨_, hv, rfl, rfl⟩) (fun f s6 hsp => ?_) (fun _ _ z => False.elim z)
      cases f with
      | next =>
        obtain ⟨σ6, H6, S6, rfl, rfl⟩ := hsp
        have he6 : s6.heap.get? a = some oe4 := (S6.pin (a, oe4) (List.mem_append_left _ List.mem_cons_self)).1
        have J6 := S6.unsuite ok
        have J7 := inv_track (o := ExV cl d a) J6 he6 ⟨_, hd4⟩ na n0 nL hpn (exV_ok he6 hz4 ⟨_, hd4⟩)
        exact gone_ok J7 hN hi hln fun s8 J8 => ⟨_, _, J8, hyes rfl a na⟩
      | brk =>
        obtain ⟨_, _, _, z⟩ := hsp
        exact z.elim
      | cont =>
        obtain ⟨_, _, _, z⟩ := hsp
        exact z.elim
      | ret u =>
        obtain ⟨_, _, _, _, _, z⟩ := hsp
        exact z.elim
    | false =>
      show wpAny _ X.A (handleBy (.ref a) X.env []) _ _ _
      refine wpAny_handleBy_nil ?_
      obtain ⟨k1, k2, k3, oe, vs, T, oT, ts', he, hz, hd, h1, hr⟩ := id fl3
      unfold PySem.passOn
      refine wpAny_bind (wpAny_field he hd h1 ?_)
      rw [if_neg (show ¬ ((Value.ref T == Value.none) = true) from by simp)]
      have fin : wpAny (model X.prog X.w) X.A (setFlight (.ref a) X.env.frame) (fun _ s4 => wpAny (model X.prog X.w) X.A (throw (.ref a) : Sem Flow) (SP X pins D) X.xe s4) X.xe { s' with heap := h3 } := by
        rw [hf]
        refine HandSPX.setFlight_upZ fl3 fun h4 hh4 up4 => wpAny_throw (tk _ _ ?_)
        exact ⟨a, B, sI, pins, σ', H', cl, d, rfl, J, nb, (up.trans up3).trans up4, .inr (.inr (by rw [hs]; exact hh4)), na, os, ag, hno rfl⟩
      first
        | exact wpAny_bind (wpAny_pure (wpAny_bind fin))
        | exact wpAny_bind fin
  · cases f with
    | next =>
      obtain ⟨σ', H', J', q⟩ := hsp
      exact wpAny_execs_nil ⟨σ', H', J'.ofTry ok, q⟩
    | brk =>
      obtain ⟨σ', H', J', q⟩ := hsp
      exact ⟨σ', H', J'.ofTry ok, q⟩
    | cont =>
      obtain ⟨σ', H', J', q⟩ := hsp
      exact ⟨σ', H', J'.ofTry ok, q⟩
    | ret u =>
      obtain ⟨v, σ', H', J', r, q⟩ := hsp
      exact ⟨v, σ', H', J'.ofTry ok, r, q⟩
end
section
variable {X : Cx}
/-- isinstance of such an error -/
def rIsX (K : PySem.W.Frag) : List V → Hp → VK → Prop := fun xs H Q => ∃ (a C : Addr) (d : Option Addr) (c : V) (cv : Value) (b : Bool), xs = [.ref a, c] ∧ H a = some (ExV (.ref C) d a) ∧ ExcC K C ∧ ClsV c cv ∧ PySem.W.kitOne K (.ref C) cv = some b ∧ (∀ dd, d = some dd → ∃ fs, H dd = some (.xd fs)) ∧ Q (.bl b) H
theorem call_isX : CallR X (.builtin "isinstance") (rIsX X.K) := by
  intro pins s σ H xs us Q I r h
  obtain ⟨a, C, d, c, cv, b, rfl, ha, E, hc, e, hd, q⟩ := h
  obtain ⟨u1, u2, rfl, r1, r2⟩ := vals2 r
  cases (show u1 = Value.ref a from r1)
  have e2 := hc.eq r2
  subst e2
  obtain ⟨oe, hoe, hz, vs, hv⟩ := (I.hok a _ ha).1
  have hcl : (PySem.W.clsIn X.K C).isSome = true := by
    obtain ⟨cd, hc, _⟩ := PySem.W.any_some E.hd
    rw [hc]; rfl
  have J : ∃ od, PySem.W.InstAt s.heap a oe C od := by
    obtain ⟨oc, odi, oda, osl⟩ := oe
    obtain ⟨h1, h2⟩ := hz
    dsimp only at h1 h2 hv
    subst h1 h2 hv
    cases odi with
    | none => exact ⟨none, hoe, rfl, rfl, trivial⟩
    | some dd =>
      obtain ⟨fs, hfs⟩ := hd dd rfl
      obtain ⟨mA, ⟨od, es, ep, e1, _⟩, _⟩ := I.hok dd _ hfs
      exact ⟨some od, hoe, rfl, rfl, e1⟩
  obtain ⟨od, J⟩ := J
  exact PySem.W.kia_one (PySem.W.kitx_exc hcl E.hg E.hk E.hs E.ha E.hn E.ht E.hm) I.kIn J e (fun z => nomatch z) fun tk => ⟨.bl b, H, I.tok tk, rfl, q⟩
end
end Nk

namespace Nk
open PySem L2 PySem.Spec PyProof.Rows
theorem tk0 {X : Cx} : Takes X (fun _ _ _ _ => False) := fun _ _ x => by
  obtain ⟨_, _, _, _, _, _, _, _, _, _, _, _, _, _, _, _, w⟩ := x
  exact w.elim
section
variable {X : Cx} {CX : CXT} {k : Nat} {ps : List Str} {sp : Sp} {x : Str} {p pos : Pos} {e : Expr} {es : List Expr} {t : TA} {E : L2.St → XK}
theorem pe_fnS (F : Fk X.prog X.w X.K X.mg X.base CX k x ps sp) (hr : Room k X.A) (hg : Gl X x) (hx : ∀ σ, PassesAt CX X σ (E σ)) (ha : PA X (e :: es) t) (hdb : (x == ("__debug__" : Str)) = false := by decide)
    (he : starEach (e :: es) X.env = (false, eval e X.env) :: starEach es X.env := by rfl) (hpl : (backTo pos (starEach es X.env)).any (·.1) = false := by rfl) :
    PE X (.Call (.Name x p) (e :: es) [] pos) (tCallS sp E t) := by
  obtain ⟨f, fd, g, kp, b, G⟩ := F.ex
  exact pe_callS G hr hg g kp b hx ha hdb he hpl
end
/-! counting in a list of flat things -/
theorem count_eqU {x : V} : ∀ {xs : List V} {us : List Value}, Vals xs us → xs.all flatV = true → us.countP (eqU x) = xs.countP fun y => eqV y x
  | _, _, .nil, _ => rfl
  | y :: xs, u :: us, .cons r t, f => by
    rw [List.all_cons, Bool.and_eq_true] at f
    rw [List.countP_cons, List.countP_cons, count_eqU t f.2, eqU_of r f.1]
def rCountF (K : PySem.W.Frag) : V → List V → Hp → VK → Prop := fun x xs H Q => ∃ (p : Addr) (ys : List V) (y : V), x = .ref p ∧ xs = [y] ∧ SqL K H p ys ∧ flatV y = true ∧ ys.all flatV = true ∧ Q (.int ((ys.countP fun z => eqV z y : Nat) : Int)) H
theorem mt_countF {X : Cx} : MtR X "list.count" (rCountF X.K) := by
  intro pins s σ H x xs v us Q I rx rxs h
  obtain ⟨p, ys, y, rfl, rfl, hs, fy, fys, q⟩ := h
  cases rx
  obtain ⟨u, rfl, ru⟩ := rxs.one
  obtain ⟨its, rv, ⟨⟨cls, dd, data, sl⟩, n, ho, hc, hdn, hd⟩, hlen⟩ := I.list hs
  simp only at hc hd
  subst hc hd
  refine call_meets PySem.F.slot_list_count ⟨_, ho, rfl⟩ PySem.F.entry_list_count (PySem.F.args_list_count_2 _ _) (SeqAt.list_countAt p its.toArray n dd sl u (eqU y)) ⟨ho, fun z hz => mem_eqAt ru fy rv fys z (by simpa using hz), ?_⟩
  have ec : its.toArray.toList.countP (eqU y) = ys.countP fun z => eqV z y := by rw [show its.toArray.toList = its from rfl, count_eqU rv fys]
  refine ⟨.int (ys.countP fun z => eqV z y : Nat), H, I.tok _, ⟨s.toks, ?_⟩, q⟩
  rw [ec]
/-! the classes of this program's errors -/
def exTail : List Value := [.type "RuntimeError", .type "Exception", .type "BaseException", .type "object"]
/-- the class over all errors -/
structure Kc (K : PySem.W.Frag) (mg : Str → Option Value) : Prop where
  gP : mg "KeepError" = some (.ref (cls mg "KeepError"))
  ex : ∃ cd, PySem.W.clsIn K (cls mg "KeepError") = some cd ∧ cd.name = "KeepError" ∧ cd.mro = .ref (cls mg "KeepError") :: exTail
  tP : PySem.W.typeIn K (.ref (cls mg "KeepError")) = some (.type "type")
  hd : PySem.W.hasDictIn K (cls mg "KeepError") = true
/-- an error's class -/
structure Ec (K : PySem.W.Frag) (mg : Str → Option Value) (x : Str) : Prop where
  gP : mg x = some (.ref (cls mg x))
  ex : ∃ cd, PySem.W.clsIn K (cls mg x) = some cd ∧ cd.name = x ∧ cd.mro = .ref (cls mg x) :: .ref (cls mg "KeepError") :: exTail
  tP : PySem.W.typeIn K (.ref (cls mg x)) = some (.type "type")
  ec : ExcC K (cls mg x)
section
variable {K : PySem.W.Frag} {h : Heap} {mg : Str → Option Value} {x y : Str}
theorem cls_lookup {C : Addr} {oc : Value} {od : Option Addr} {cd : ClassData} {osl : Array (Option Value)} (l : K.lookup C = some ⟨oc, od, .cls cd, osl⟩) : PySem.W.clsIn K C = some cd := by
  unfold PySem.W.clsIn
  rw [l]
theorem kc_mk {C : Addr} {oc : Value} {od : Option Addr} {osl : Array (Option Value)} {bs : List Value} {N : Addr} {q : Str} {sn : List Str} {sub : List Value} {hd ab dl : Bool} {col : Option Bool} (X : K.In h) (G : h.Ns mainGlobals mg)
    (a : PySem.W.nsIn K mainGlobals "KeepError" = some (some (.ref C)))
    (l : K.lookup C = some ⟨oc, od, .cls { name := "KeepError", bases := bs, mro := [.ref C, .type "RuntimeError", .type "Exception", .type "BaseException", .type "object"], ns := N, qualname := q, hasDict := hd, slotNames := sn, subclasses := sub, abstract := ab, collection := col, hasDel := dl }, osl⟩)
    (tP : PySem.W.typeIn K (.ref C) = some (.type "type")) (hD : PySem.W.hasDictIn K C = true) : Kc K mg := by
  have g := PySem.W.mg_of X G a
  have e := cls_of g
  refine ⟨by rw [e]; exact g, ?_, by rw [e]; exact tP, by rw [e]; exact hD⟩
  rw [e]
  exact ⟨_, cls_lookup l, rfl, rfl⟩
theorem ec_mk {C KE : Addr} {oc : Value} {od : Option Addr} {osl : Array (Option Value)} {bs : List Value} {N : Addr} {q : Str} {sn : List Str} {sub : List Value} {hd ab dl : Bool} {col : Option Bool} (X : K.In h) (G : h.Ns mainGlobals mg)
    (k : PySem.W.nsIn K mainGlobals "KeepError" = some (some (.ref KE))) (a : PySem.W.nsIn K mainGlobals x = some (some (.ref C)))
    (l : K.lookup C = some ⟨oc, od, .cls { name := x, bases := bs, mro := [.ref C, .ref KE, .type "RuntimeError", .type "Exception", .type "BaseException", .type "object"], ns := N, qualname := q, hasDict := hd, slotNames := sn, subclasses := sub, abstract := ab, collection := col, hasDel := dl }, osl⟩)
    (tP : PySem.W.typeIn K (.ref C) = some (.type "type")) (hD : PySem.W.hasDictIn K C = true)
    (h1 : PySem.W.findIn K (.ref C) "__getattribute__" = some (some (.builtin "BaseException.__getattribute__"))) (h2 : PySem.W.findIn K (.ref C) "__getattr__" = some none)
    (h3 : PySem.W.findIn K (.ref C) "__class__" = some (some (.builtin "object.__class__"))) (h4 : PySem.W.specialIn K (.builtin "object.__class__") "__get__" = some (some (.builtin "getset_descriptor.__get__"))) (h5 : PySem.W.takesIn K (.builtin "object.__class__") = some true) : Ec K mg x := by
  have g := PySem.W.mg_of X G a
  have e := cls_of g
  have e2 := cls_of (PySem.W.mg_of X G k)
  have hc := cls_lookup l
  have hm : ∀ b, PySem.W.mroIn K C b = some ([Value.ref C, .ref KE, .type "RuntimeError", .type "Exception", .type "BaseException", .type "object"].contains b) := fun b => by
    unfold PySem.W.mroIn
    rw [hc]
    rfl
  refine ⟨by rw [e]; exact g, ?_, by rw [e]; exact tP, ?_⟩
  · rw [e, e2]
    exact ⟨_, hc, rfl, rfl⟩
  · rw [e]
    refine ⟨h1, h2, ?_, hD, h3, h4, h5, ?_⟩
    · show PySem.W.mroIn K C _ = _
      rw [hm]
      simp
    · rw [hm]
      simp
theorem Ec.mro (e : Ec K mg x) (b : Value) : PySem.W.subIn K (.ref (cls mg x)) b = some ((Value.ref (cls mg x) :: .ref (cls mg "KeepError") :: exTail).contains b) := by
  obtain ⟨cd, h1, _, h3⟩ := e.ex
  show PySem.W.mroIn K _ b = _
  unfold PySem.W.mroIn
  rw [h1, Option.bind_some, h3]
  rfl
theorem Ec.ne (e : Ec K mg x) (f : Ec K mg y) (n : x ≠ y) : cls mg x ≠ cls mg y := fun z => by
  obtain ⟨cd, h1, h2, _⟩ := e.ex
  obtain ⟨cd', h1', h2', _⟩ := f.ex
  rw [z, h1'] at h1
  cases h1
  exact n (h2.symm.trans h2')
theorem Ec.neK (e : Ec K mg x) (f : Kc K mg) (n : x ≠ "KeepError") : cls mg x ≠ cls mg "KeepError" := fun z => by
  obtain ⟨cd, h1, h2, _⟩ := e.ex
  obtain ⟨cd', h1', h2', _⟩ := f.ex
  rw [z, h1'] at h1
  cases h1
  exact n (h2.symm.trans h2')
theorem Ec.is (e : Ec K mg x) (f : Ec K mg y) (k : Kc K mg) (n : y ≠ "KeepError") : PySem.W.kitOne K (.ref (cls mg x)) (.ref (cls mg y)) = some (decide (x = y)) := by
  by_cases c : x = y
  · subst c
    unfold PySem.W.kitOne
    simp
  · have h1 := e.ne f c
    have h2 := f.neK k n
    obtain ⟨cd', h1', _⟩ := f.ex
    unfold PySem.W.kitOne
    rw [if_neg (by intro z; exact h1 (Value.ref.inj (beq_iff_eq.mp z)))]
    show (if ((PySem.W.clsIn K (cls mg y)).isSome && PySem.W.typeIn K (.ref (cls mg y)) == some (.type "type")) = true then PySem.W.subIn K (.ref (cls mg x)) (.ref (cls mg y)) else none) = _
    rw [h1', f.tP, if_pos (by rfl), e.mro]
    rw [Option.some.injEq, decide_eq_false c, List.contains_eq_any_beq]
    simp only [exTail, List.any_cons, List.any_nil, Bool.or_eq_false_iff, beq_eq_false_iff_ne]
    refine ⟨fun z => h1 (Value.ref.inj z).symm, fun z => h2 (Value.ref.inj z), ?_⟩
    simp
theorem Ec.isR (e : Ec K mg x) : PySem.W.kitOne K (.ref (cls mg x)) (.type "RuntimeError") = some true := by
  unfold PySem.W.kitOne
  rw [if_neg (by intro z; exact nomatch (beq_iff_eq.mp z))]
  show (if PySem.W.kitMeta "RuntimeError" = true then PySem.W.subIn K (.ref (cls mg x)) (.type "RuntimeError") else none) = _
  rw [if_pos (by decide +kernel), e.mro]
  simp [exTail]
theorem Ec.exm (e : Ec K mg x) (k : Kc K mg) : PySem.W.exmOne K (.ref (cls mg x)) (.ref (cls mg "KeepError")) = some true := by
  refine PySem.W.exm_ref ?_ k.hd k.tP ?_
  · obtain ⟨cd, h1, _, h3⟩ := k.ex
    show PySem.W.mroIn K _ _ = _
    unfold PySem.W.mroIn
    rw [h1, Option.bind_some, h3]
    rfl
  · rw [e.mro]
    simp
end
end Nk
/-! ### set(l) of a list of whole numbers; sorted and len of it, however many -/
namespace Nk
open PySem L2 PySem.Spec PyProof.Rows
abbrev eSet (w : World) : Obj := { cls := .type "set", dict := none, data := .set #[] 0 (.fresh 0 0 (!w.params.followText "set-order")) }
section
variable {prog : Program} {w : World} {A : Around} {E : Value → Shared → Prop} {s : Shared}
set_option maxRecDepth 100000 in
set_option maxHeartbeats 3200000 in
theorem set_of_list {l : Addr} {xs : Array Value} (ns : List Int) {Q : Value → Shared → Prop} (calm : A.handled = none) (isl : s.heap.IsList l xs) (hin : IntsAre xs.toList ns) (few : ns.length + 1 < scanBound)
    (fin : ∀ (g : Heap) (tk c : Nat), SetR w g s.heap.objs.size (fun j => decide (j ∈ ns)) c → c ≤ ns.length → (∀ b o, s.heap.get? b = some o → g.get? b = some o) → Q (.ref s.heap.objs.size) { s with heap := g, toks := tk }) :
    wpAny (model prog w) A (call (.type "set") [.ref l]) Q E s := by
  have size : xs.size = ns.length := by
    have := hin.length
    rwa [Array.length_toList] at this
  obtain ⟨m1, m2, hmro⟩ := F.called_set.mro
  have hm0 := F.called_set.made
  have hm1 := F.called_set.sub
  refine wpAny_call (codeAny_of_tree ?_)
  show wpAny _ _ (callAny (.type "set") _) _ _ _
  refine wpAny_pure ⟨Code.quiet_builtin _ (by decide +kernel), codeAny_builtin F.entry_type_call ?_⟩
  rw [Around.under_plain (weight_type_call_type "set" [.ref l] []) rfl]
  have hm2 := F.called_set.notType
  have hm3 := F.called_set.canCreate
  have hm4 := F.typeCall_set_1 (.ref l)
  repeat (any_goals (first | assumption | wp_step))
  refine codeAny_mono (code_set_led1 (.ref l) (E := E) (Q₁ := fun v s1 => v = .ref s.heap.objs.size ∧ s1 = { s with heap := s.heap.push (eSet w) }) ⟨rfl, rfl⟩) fun r s1 hr => ?_
  cases r with
  | error _ => exact hr
  | ok fl =>
    cases fl with
    | ret v =>
      obtain ⟨rfl, rfl⟩ := hr
      have at0 : (s.heap.push (eSet w)).get? s.heap.objs.size = some (eSet w) := Heap.get?_push_size _ rfl
      have ty0 : Shared.TypeIs { s with heap := s.heap.push (eSet w) } (.ref s.heap.objs.size) "set" := ⟨_, at0, rfl⟩
      have hi1 := F.called_set.init.lookup
      have hi2 := F.called_set.init.bind (.ref s.heap.objs.size)
      repeat (any_goals (first | assumption | wp_step))
      refine codeAny_mono (codeAny_call_builtin (R := wants (fun r s2 => r = .none ∧ ∃ g tk c, s2 = { s with heap := g, toks := tk } ∧ SetR w g s.heap.objs.size (fun j => decide (j ∈ ns)) c ∧ c ≤ ns.length ∧
          (∀ b o, s.heap.get? b = some o → g.get? b = some o)) E) F.called_set.init.plain F.entry_set_init (check_set_init_1 ty0 ?_)) fun r2 s2 hr2 => ?_
      · obtain ⟨ol, hol, hcl, nl, hdl⟩ := isl
        obtain ⟨k1, k2, k3, k4⟩ := ol
        simp only at hcl hdl
        subst hcl hdl
        have hol1 : (s.heap.push (eSet w)).get? l = some { cls := .type "list", dict := k2, data := .seq xs nl, slots := k4 } := Heap.get?_push_of_some _ hol
        have sub1 := F.sub_list_set
        have sub2 := F.sub_list_frozenset
        have nodict : (Value.type "list" == Value.type "dict") = false := by decide
        have isl1 : (s.heap.push (eSet w)).IsList l xs := ⟨_, hol1, rfl, nl, rfl⟩
        unfold Builtin.«set.__init__» noKeywords Builtin.Frozenset.updateFrom
        generalize hPI : pyIter = PI
        wp_walk
        subst hPI
        refine wpAny_pyIter_list isl1 ?_
        refine wpAny_bind (wpAny_runValue ?_)
        have lt0 : l < s.heap.objs.size := Heap.lt_size hol
        have calm3 : A.in1.in1.in1.handled = none := by simp [calm]
        have ne1 : l ≠ (s.heap.push (eSet w)).objs.size := by
          rw [Heap.size_push]
          exact Nat.ne_of_lt (Nat.lt_succ_of_lt lt0)
        have out1 : s.heap.objs.size ∉ [(s.heap.push (eSet w)).objs.size, l] := by
          rw [Heap.size_push]
          simp only [List.mem_cons, List.mem_singleton, List.not_mem_nil, or_false, not_or]
          exact ⟨Nat.ne_of_lt (Nat.lt_succ_self _), Nat.ne_of_gt lt0⟩
        have vals : ∀ (i : Nat) (v : Value), xs[i]? = some v → ∃ k t, ns[i]? = some k ∧ v = .int k t := fun i v hv => by
          have hi : i < ns.length := by
            rw [← size]
            exact (Array.getElem?_eq_some_iff.mp hv).1
          obtain ⟨t, e⟩ := PyProof.Rows.IntsAre.int_at hin i v (by rw [Array.getElem?_toList]; exact hv)
          refine ⟨ns[i], t, List.getElem?_eq_getElem hi, ?_⟩
          rw [e, List.getD_eq_getElem?_getD, List.getElem?_eq_getElem hi] <;> rfl
        refine set_update_ints ((Walks.list calm3 _ l ne1 xs).toS) s.heap.objs.size out1 ns size few vals (xs.size - 0) 0 _ (by omega) (Nat.zero_le _) ⟨⟨_, Heap.get?_push_size _ rfl, rfl, rfl⟩, (isl1.push _)⟩ ?one ?two
        case one =>
          have at2 : ((s.heap.push (eSet w)).push { cls := .type "list_iterator", data := .fields #[.ref l, .int 0 0] }).get? s.heap.objs.size = some (eSet w) := Heap.get?_push_of_some _ at0
          exact ⟨0, Nat.le_refl 0, setR_new_at at2⟩
        case two =>
          intro s3 c3 mv hc3 R3
          obtain ⟨h3, g3, d3, t3, o3⟩ := s3
          have eg : g3 = s.gens := mv.gens
          have ed : d3 = s.drawn := mv.drawn
          have eo : o3 = s.os := mv.os
          subst eg ed eo
          show wpAny _ _ _ _ _ _
          refine wpAny_pure ?_
          show wpAny _ _ (ret Value.none) _ _ _
          rw [size] at hc3
          refine wpAny_pure ⟨rfl, h3, t3, c3, rfl, R3, hc3, fun b o e => ?_⟩
          have lb : b < s.heap.objs.size := Heap.lt_size e
          have nb1 : b ≠ s.heap.objs.size := Nat.ne_of_lt lb
          have nb2 : b ≠ (s.heap.push (eSet w)).objs.size := by
            rw [Heap.size_push]
            exact Nat.ne_of_lt (Nat.lt_succ_of_lt lb)
          refine mv.heap b o ?_ (Heap.get?_push_of_some _ (Heap.get?_push_of_some _ e))
          simp only [List.mem_cons, List.mem_singleton, List.not_mem_nil, or_false, not_or]
          exact ⟨nb1, nb2⟩
      · cases r2 with
        | error _ => exact hr2
        | ok fl2 =>
          cases fl2 with
          | ret _ =>
            obtain ⟨rfl, g, tk, c, rfl, R2, hc2, k2⟩ := hr2
            repeat (any_goals (first | assumption | wp_step))
            exact fin _ _ _ R2 hc2 k2
          | _ => exact hr2.elim
    | _ => exact hr.elim
end
section
variable {X : Cx}
def rSetLI (K : PySem.W.Frag) (w : World) : List V → Hp → VK → Prop := fun vs H Q => ∃ (a : Addr) (ns : List Int), vs = [V.ref a] ∧ SqL K H a (ns.map V.int) ∧ ns.length ≤ 4000 ∧
  ∀ (p : Addr) (c : Nat), H p = none → c ≤ ns.length → Q (.ref p) (upd H p (SetO w p (fun j => decide (j ∈ ns)) c))
theorem cr_setLI (hc : X.calm = true) : CallR X (.type "set") (rSetLI X.K X.w) := by
  intro pins s σ H vs us Q I r h
  obtain ⟨a, ns, rfl, hs, hz, q⟩ := h
  obtain ⟨its, rv, hl, _⟩ := I.list hs
  rw [Vals.ref1 r]
  refine set_of_list ns (I.ok.hd hc) hl.isList rv.ints (by unfold scanBound; omega) fun g tk c R hc k => ?_
  exact ⟨.ref _, _, I.laid (t' := tk) (o := SetO X.w s.heap.objs.size (fun j => decide (j ∈ ns)) c) k (Nat.le_refl _) (setO_new R), rfl, q _ c (I.hok.fresh (Nat.le_refl _)) hc⟩
theorem rise_of_nodup {l : List Int} (h : l.Pairwise (· ≤ ·)) (nd : l.Nodup) : l.Pairwise (· < ·) := (h.and nd).imp fun {a b} ⟨h1, h2⟩ => by omega
/-- sorted of a set, however many -/
def rSortedSA (w : World) : List V → Hp → VK → Prop := fun vs H Q => ∃ (a : Addr) (S : Int → Bool) (n : Nat), vs = [V.ref a] ∧ H a = some (SetO w a S n) ∧ n ≤ 10000 ∧
  ∀ (ns : List Int) (p : Addr), ns.Pairwise (· < ·) → (∀ k : Int, k ∈ ns ↔ S k = true) → ns.length = n → H p = none → Q (.ref p) (upd H p (.lst (ns.map V.int)))
theorem cr_sortedSA (hcalm : X.calm = true) : CallR X (.builtin "sorted") (rSortedSA X.w) := by
  intro pins s σ H vs us Q I r h
  obtain ⟨a, S, n, rfl, ha, hn0, q⟩ := h
  rw [Vals.ref1 r]
  obtain ⟨o, es, ep, t, ho, hex, hd, g, nd, hm, hb, hf, hn, hr, hl⟩ := setO_get I ha
  refine Calls.call_function_entry PyProof.Rows.kind_sorted PyProof.Rows.plain_sorted PyProof.Rows.entry_sorted (PyProof.Rows.args_sorted1 _) ?_
  unfold Builtin.«sorted»
  refine wpAny_bind (m := checkCount "sorted" 1 1 _) (wpAny_pure ?_)
  refine wpAny_bind (collect_set (A := X.A.in1) (I.ok.hd hcalm) ⟨o, ho, hex.1, hd⟩ hf hb hr hl fun s1 us k1 hz g1 o1 pm => ?_)
  have hul : us.length = n := by
    rw [pm.length_eq, List.length_map, Array.length_toList]
    exact hn
  have hI : IntsAre us (us.map Builtin.Re.reRawOf) := ints_of us fun v hv => by
    obtain ⟨e, he, q⟩ := List.mem_map.mp (pm.mem_iff.mp hv)
    obtain ⟨k, tk, h1, _⟩ := g e he
    exact ⟨k, tk, by rw [← q]; exact h1⟩
  have pk : (us.map Builtin.Re.reRawOf).Perm (es.toList.map keyOf) := by
    have z := pm.map Builtin.Re.reRawOf
    rw [List.map_map] at z
    exact z
  have hsz : us.length ≤ sizeLine := by
    rw [hul]
    exact sz (by omega)
  refine wpAny_bind (wpAny_newList ?_ hsz)
  have hoL : (s1.heap.push (seqObj "list" us.toArray 0)).get? s1.heap.objs.size = some (seqObj "list" us.toArray 0) := Heap.get?_push_size _ rfl
  refine wpAny_bind (wpAny_holding (wpAny_call_entry PyProof.Rows.slot_list_sort ⟨_, hoL, rfl⟩ PyProof.Rows.entry_list_sort
    (SrtO.list_sort_ord SrtO.swo_int hoL hsz (fun h2 => SrtO.ints_sortable hI h2) fun out b1 b2 => ⟨_, rfl, ?_⟩) (PyProof.Rows.args_list_sort _)))
  obtain ⟨c1, c2, c3⟩ := SrtO.ints_out hI b1 b2
  obtain ⟨e', he'⟩ := PyProof.Rows.sortedHeap_at (vs := us) (out := out.toArray) hoL
  have pn : (out.map SrtO.iv).Perm (es.toList.map keyOf) := c2.trans pk
  have hlen : ((out.map SrtO.iv).map V.int).length ≤ sizeLine := by
    rw [List.length_map, c2.length_eq, List.length_map]
    exact hsz
  have hnone : H s1.heap.objs.size = none := I.hok.fresh hz
  have old : ∀ b u, s.heap.get? b = some u → (PyProof.Rows.sortedHeap (s1.heap.push (seqObj "list" us.toArray 0)) s1.heap.objs.size us out.toArray).get? b = some u := fun b u e => by
    have z := k1 b u e
    have lt := Heap.lt_size z
    rw [PyProof.Rows.sortedHeap_old (Nat.ne_of_lt lt) (by rw [size_push']; exact Nat.lt_succ_of_lt lt)]
    exact Heap.get?_push_of_some _ z
  have J : Inv X pins σ (upd H s1.heap.objs.size (.lst ((out.map SrtO.iv).map V.int))) { s with heap := PyProof.Rows.sortedHeap (s1.heap.push (seqObj "list" us.toArray 0)) s1.heap.objs.size us out.toArray, gens := s1.gens, drawn := s1.drawn, toks := s1.toks } :=
    I.call (ch := []) (Un.laid old hz hnone) (I.hok.laid old hz ⟨hlen, out, e', vals_of_ints c1, he'⟩) (by rw [g1]; exact I.bare) (fun _ z => nomatch z)
  refine wpAny_pure ⟨_, rfl, .ref s1.heap.objs.size, _, ?_, rfl, q _ _ (rise_of_nodup c3 (pn.nodup_iff.mpr nd)) (fun k => by rw [pn.mem_iff, ← hm k]) (by rw [pn.length_eq, List.length_map, Array.length_toList]; exact hn) hnone⟩
  have eo : s1.os = s.os := o1
  rw [← eo] at J
  exact J
/-- len of a set -/
def rLenS (w : World) : List V → Hp → VK → Prop := fun vs H Q => ∃ (a : Addr) (S : Int → Bool) (n : Nat), vs = [V.ref a] ∧ H a = some (SetO w a S n) ∧ Q (.int n) H
end
end Nk
/-! ### own classes: methods by their promise, len of an instance, steps of the heap -/
namespace Nk
open PySem L2 PySem.Spec PyProof.Rows
/-- a method as it stands behind the top: c's, found at the def st -/
structure Md (K : PySem.W.Frag) (mg : Str → Option Value) (c m qual : Str) (st : Stmt) (ps : List Str) : Prop where
  ex : ∃ (f : Addr) (fd : FuncData), Fun K m qual st f fd ∧ Meth K (cls mg c) m f ∧ Binds K fd ps []
/-- a class without own __new__ -/
structure Oc (K : PySem.W.Frag) (mg : Str → Option Value) (c : Str) : Prop where
  g : mg c = some (.ref (cls mg c))
  cl : Cls K (cls mg c)
  makes : PySem.W.makesIn K (cls mg c) = true
  kp : PySem.W.keepIn K (.ref (cls mg c)) = true
/-- a method keeps a promise -/
structure Mo (P : Program) (w : World) (K : PySem.W.Frag) (mg : Str → Option Value) (base : Heap) (CX : CXT) (k : Nat) (c m : Str) (ps : List Str) (sp : Sp) : Prop where
  ex : ∃ (f : Addr) (fd : FuncData), Meth K (cls mg c) m f ∧ Binds K fd ps [] ∧ FnOk P w K mg base CX k f fd ps sp
section
variable {X : Cx} {CX : CXT} {k : Nat} {ps : List Str} {sp : Sp} {c m x : Str} {p pos apos : Pos} {o e : Expr} {es : List Expr} {ta : TE} {t : TA} {E : XK}
theorem pe_me {pl : Sem Bool} (he : PE X o ta) (O : Oc X.K X.mg c) (M : Mo X.prog X.w X.K X.mg X.base CX k c m ps sp) (hr : Room k X.A) (hx : Passes CX X E) (ha : PA X (e :: es) t)
    (hst : starEach (e :: es) X.env = (false, eval e X.env) :: starEach es X.env := by rfl) (hpl : (backTo pos (starEach es X.env)).any (·.1) = false := by rfl)
    (ht : eval (.Call (.Attribute o m apos) (e :: es) [] pos) X.env = (do
      let ov ← eval o X.env
      standAt apos.atName
      let (g, first) ← holding [ov] (getMethod ov m pl)
      callWith pos g first (backTo pos (starEach (e :: es) X.env)) (backToKw pos (keywordEach [] X.env))) := by rfl) :
    PE X (.Call (.Attribute o m apos) (e :: es) [] pos) (tMeth (cls X.mg c) m sp [] E ta t) := by
  obtain ⟨f, fd, h1, h2, h3⟩ := M.ex
  exact pe_meth he O.cl h1 h3 hr h2 .nil hx ha hst hpl ht
theorem pe_me0 {pl : Sem Bool} (he : PE X o ta) (O : Oc X.K X.mg c) (M : Mo X.prog X.w X.K X.mg X.base CX k c m ps sp) (hr : Room k X.A) (hx : Passes CX X E)
    (ht : eval (.Call (.Attribute o m apos) [] [] pos) X.env = (do
      let ov ← eval o X.env
      standAt apos.atName
      let (g, first) ← holding [ov] (getMethod ov m pl)
      callWith pos g first (backTo pos (starEach [] X.env)) (backToKw pos (keywordEach [] X.env))) := by rfl) :
    PE X (.Call (.Attribute o m apos) [] [] pos) (tMeth (cls X.mg c) m sp [] E ta tNil) := by
  obtain ⟨f, fd, h1, h2, h3⟩ := M.ex
  exact pe_meth0 he O.cl h1 h3 hr h2 .nil hx ht
theorem pe_new (O : Oc X.K X.mg c) (M : Mo X.prog X.w X.K X.mg X.base CX k c "__init__" ps sp) (hr : Room (k + 1) X.A) (hg : Gl X c) (hx : Passes CX X E) (ha : PA X (e :: es) t)
    (hdb : (c == ("__debug__" : Str)) = false := by decide) (he : starEach (e :: es) X.env = (false, eval e X.env) :: starEach es X.env := by rfl) (hpl : (backTo pos (starEach es X.env)).any (·.1) = false := by rfl) :
    PE X (.Call (.Name c p) (e :: es) [] pos) (tMake (cls X.mg c) sp [] E t) := by
  obtain ⟨f, fd, h1, h2, h3⟩ := M.ex
  exact pe_make ⟨O.makes, h1.at_, h1.fn, O.kp⟩ h3 hr hg O.g h2 .nil hx ha hdb he hpl
/-- len of an instance -/
def rLenO (C : Addr) (sp : Sp) (E : XK) : List V → Hp → VK → Prop := fun xs H Q => ∃ (a dx : Addr) (fs : List (Str × V)), xs = [.ref a] ∧ H a = some (.ins C dx fs) ∧ sp [.ref a] H (fun v H' => ∃ n : Nat, v = .int n ∧ n < 2 ^ 62 ∧ Q (.int n) H') E
theorem cr_lenO (O : Oc X.K X.mg c) (M : Mo X.prog X.w X.K X.mg X.base CX k c "__len__" ps sp) (hr : Room (k + 1) X.A) (hx : Passes CX X E) : CallR X (.builtin "len") (rLenO (cls X.mg c) sp E) := by
  intro pins s σ H xs us Q I r h
  obtain ⟨a, dx, fs, rfl, ha, q⟩ := h
  rw [Vals.ref1 r]
  obtain ⟨f, fd, h1, h2, h3⟩ := M.ex
  obtain ⟨mA, ob, _⟩ := ins_get I.hok ha
  obtain ⟨od, hod, _⟩ := lookIn_ns ob.ns
  have J : PySem.W.InstAt s.heap a (PySem.W.instObj (cls X.mg c) dx) (cls X.mg c) (some od) := ⟨ob.obj, rfl, rfl, hod⟩
  obtain ⟨m0, fr⟩ := I.fr
  have r2 : Vals [V.ref a] [Value.ref a] := .cons rfl .nil
  have hl : ([Value.ref a] ++ ([] : List Value)).length = ps.length := by
    have := h3.len _ _ _ _ q
    exact this
  refine PySem.W.len_K fr I.ok.mod.kin J h1.at_ h1.fn ?_
  refine wpAny_call (codeAny_mono (h3.run _ X.stack s H ⟨[.ref a], []⟩ [.ref a] [.ref a] _ E hr.in1 I.env0.in1 (h2 s [.ref a] I.kIn hl) r2 q) fun rr s' hq => ?_)
  cases rr with
  | error e => exact hx pins σ H s e s' I hq
  | ok fl =>
    cases fl with
    | ret u =>
      obtain ⟨v, H', I2, rv, n, rfl, hn, q2⟩ := I.after hq
      obtain ⟨tk, rfl⟩ := rv
      exact ⟨⟨by omega, by omega⟩, .int n, H', I2.tok _, ⟨_, rfl⟩, q2⟩
    | next => exact False.elim hq
    | brk => exact False.elim hq
    | cont => exact False.elim hq
theorem pe_fldK {f : Str} (K : PySem.W.Frag) (hK : X.K = K) (he : PE X e ta) (hb : attributeBase e f X.env (eval e X.env) = eval e X.env) : PE X (.Attribute e f pos) (tFld K ta f) := hK ▸ pe_fld he hb
end
section
variable {K : PySem.W.Frag} {h : Heap} {mg : Str → Option Value}
theorem md_mk {c m qual : Str} {st : Stmt} {ps : List Str} {C f : Addr} {oc : Value} {od an : Option Addr} {osl : Array (Option Value)} {kV doc pm cdv ct : Value} (X : K.In h) (G : h.Ns mainGlobals mg)
    (hb : ∀ (kV doc pm : Value) (an : Option Addr) (cdv ct : Value) (us : List Value), us.length = ps.length → bindArgs (PySem.W.fnOf m qual (defArgs st) (defBody st) (defScope st) .none kV doc pm an cdv ct) ⟨us, []⟩ = pure (ps.zip us))
    (aC : PySem.W.nsIn K mainGlobals c = some (some (.ref C))) (a : PySem.W.findIn K (.ref C) m = some (some (.ref f))) (i : PySem.W.isFn K (.ref f) = true)
    (l : K.lookup f = some ⟨oc, od, .func (PySem.W.fnOf m qual (defArgs st) (defBody st) (defScope st) .none kV doc pm an cdv ct), osl⟩)
    (cc : PySem.W.codeIn K cdv qual = true) (k : PySem.W.keepIn K (.ref f) = true) : Md K mg c m qual st ps := by
  have F := fun_mk (st := st) l cc k
  have e := cls_of (PySem.W.mg_of X G aC)
  exact ⟨f, _, F, by rw [e]; exact ⟨a, i, k⟩, F.binds hb⟩
theorem oc_mk {c : Str} {C : Addr} (X : K.In h) (G : h.Ns mainGlobals mg) (aC : PySem.W.nsIn K mainGlobals c = some (some (.ref C))) (pg : PySem.W.plainGet K C Str.empty = true) (hd : PySem.W.hasDictIn K C = true) (po : PySem.W.plainOver K C = true)
    (sa : PySem.W.findIn K (.ref C) "__setattr__" = some (some (.builtin "object.__setattr__"))) (mk : PySem.W.makesIn K C = true) (kc : PySem.W.keepIn K (.ref C) = true) : Oc K mg c := by
  have g := PySem.W.mg_of X G aC
  have e := cls_of g
  exact ⟨by rw [e]; exact g, by rw [e]; exact ⟨pg, hd, po, sa⟩, by rw [e]; exact mk, by rw [e]; exact kc⟩
theorem na_mk {c f : Str} {C : Addr} (X : K.In h) (G : h.Ns mainGlobals mg) (aC : PySem.W.nsIn K mainGlobals c = some (some (.ref C))) (n : PySem.W.findIn K (.ref C) f = some none) : NoAttr K (cls mg c) f := by
  rw [cls_of (PySem.W.mg_of X G aC)]
  exact n
end
/-! steps of the heap -/
/-- only what stands in S may have changed; tuples never do -/
structure Step (S : List Addr) (H H' : Hp) : Prop where
  keep : ∀ b o, H b = some o → b ∉ S → H' b = some o
  tups : ∀ b xs, H b = some (.tup xs) → H' b = some (.tup xs)
theorem Step.refl {S : List Addr} {H : Hp} : Step S H H := ⟨fun _ _ h _ => h, fun _ _ h => h⟩
theorem Step.of {S : List Addr} {H H' : Hp} (s : Same H H') : Step S H H' := ⟨fun b o h _ => s b o h, fun b xs h => s b _ h⟩
theorem Step.same {S : List Addr} {H H1 H2 : Hp} (a : Step S H H1) (s : Same H1 H2) : Step S H H2 := ⟨fun b o h n => s _ _ (a.keep b o h n), fun b xs h => s _ _ (a.tups b xs h)⟩
theorem Same.step {S : List Addr} {H H1 H2 : Hp} (s : Same H H1) (a : Step S H1 H2) : Step S H H2 := ⟨fun b o h n => a.keep b o (s _ _ h) n, fun b xs h => a.tups b xs (s _ _ h)⟩
/-- S' is S, but for what is new -/
def Own (H : Hp) (S S' : List Addr) : Prop := ∀ b ∈ S', b ∈ S ∨ H b = none
theorem Own.refl {H : Hp} {S : List Addr} : Own H S S := fun _ h => .inl h
theorem Step.trans {S S' : List Addr} {H H1 H2 : Hp} (a : Step S H H1) (b : Step S' H1 H2) (w : Own H S S') : Step S H H2 :=
  ⟨fun c o h n => b.keep c o (a.keep c o h n) fun hm => (w c hm).elim n (fun h1 => by rw [h1] at h; cases h), fun c xs h => b.tups c xs (a.tups c xs h)⟩
theorem Step.more {S T : List Addr} {H H' : Hp} (a : Step S H H') (h : ∀ b ∈ S, b ∈ T) : Step T H H' := ⟨fun b o e n => a.keep b o e fun hm => n (h b hm), a.tups⟩
theorem Step.free {S : List Addr} {H H' : Hp} {p : Addr} (a : Step S H H') (hp : H' p = none) (n : p ∉ S) : H p = none := by
  cases e : H p with
  | none => rfl
  | some o => rw [a.keep _ _ e n] at hp; cases hp
theorem But.step {t : Addr} {H H' : Hp} {l : List V} (b : But t H H') (ht : H t = some (.lst l)) : Step [t] H H' :=
  ⟨fun c o h n => b c o h fun e => n (by rw [e]; exact List.mem_cons_self), fun c xs h => b c _ h (ne_of h ht (by intro z; cases z))⟩
theorem Step.but {t : Addr} {H H' : Hp} (a : Step [t] H H') : But t H H' := fun b o h n => a.keep b o h fun hm => n (List.mem_singleton.mp hm)
theorem step_upd {S : List Addr} {H : Hp} {p : Addr} {o u : HO} (hp : p ∈ S) (h : H p = some u) (hu : ∀ xs, u ≠ .tup xs) : Step S H (upd H p o) :=
  ⟨fun b x e n => by rw [upd_ne (fun z => n (by rw [z]; exact hp))]; exact e, fun b xs e => by rw [upd_ne (ne_of e h fun z => hu xs z.symm)]; exact e⟩
theorem putH {S : List Addr} {H0 H H' : Hp} {k : Addr} {u o : HO} (st : Step S H0 H) (hm : k ∈ S) (h : H k = some u) (hu : ∀ xs, u ≠ .tup xs) (e : upd H k o = H') : Step S H0 H' ∧ But k H H' ∧ H' k = some o := by
  subst e
  exact ⟨st.trans (step_upd hm h hu) .refl, But.upd, upd_same⟩
theorem Step.sqT {K : PySem.W.Frag} {S : List Addr} {H H' : Hp} {a : Addr} {xs : List V} (s : Step S H H') (h : H a = some (.tup xs)) : SqT K H' a xs := Nk.sqT (s.tups _ _ h)
theorem putF_lookup {f g : Str} {y : V} {fs : List (Str × V)} : (putF f y fs).lookup g = if g = f then some y else fs.lookup g := lookup_putF ..
end Nk
/-! ### an own error with its own __init__, over KeepError over RuntimeError -/
namespace Nk
open PySem L2 PySem.Spec PyProof.Rows PySem.HandSPX
open Builtin Builtin.ObjectAttr
abbrev rtTail : List Value := [.type "RuntimeError", .type "Exception", .type "BaseException", .type "object"]
theorem rt_pass (self : Value) (C B : Addr) : refuseLoop self "__setattr__" (.ref C :: .ref B :: rtTail) = pure () := by
  rw [refuseLoop_ref, refuseLoop_ref]
  exact F.store_RuntimeError.passes self
section
variable {prog : Program} {w : World} {A : Around} {E : Value → Shared → Prop} {R : Result → Shared → Prop} {hp : Heap} {g : Array GenState} {d : Drawn} {t : Nat} {os : OsState}
theorem first_fld {K : W.Frag} {nam : Str} {tk : Tok} {v : Value} {x C B : Addr} {fv : Array Value} {cd : ClassData} (X : K.In hp) (hx : hp.get? x = some { cls := .ref C, data := .fields fv }) (hcd : W.clsIn K C = some cd) (hmro : cd.mro = .ref C :: .ref B :: rtTail) (hh : cd.hasDict = true)
    (ha : W.findIn K (.ref C) nam = some none)
    (fin : ∀ h2 tk2 dx, (∀ b o, b ≠ x → hp.get? b = some o → h2.get? b = some o) → hp.objs.size ≤ dx → dx ≠ x → h2.get? x = some { cls := .ref C, dict := some dx, data := .fields fv } → h2.Ns1 dx (fun y => if y = nam then some v else none) → R (.ok (.ret .none)) ⟨h2, g, d, tk2, os⟩) :
    codeAny (model prog w) A (.call (.builtin "object.__setattr__") ⟨[.ref x, .str nam tk, v], []⟩) R ⟨hp, g, d, t, os⟩ := by
  have J : W.InstAt hp x { cls := .ref C, data := .fields fv } C none := ⟨hx, rfl, rfl, trivial⟩
  have st := F.store_object
  have nxs : x ≠ hp.objs.size := Nat.ne_of_lt (Heap.lt_size hx)
  have hob : W.mroIn K C (.type "object") = some true := by
    unfold W.mroIn
    rw [hcd, Option.bind_some, hmro]
    rfl
  have sub : W.Looks (model prog w) hp (isInstance (.ref x) (.type "object")) true := J.type.andThen (W.looks_mroIn X hob)
  refine codeAny_call_builtin st.slot.plain st.entry (@W.check_slot (model prog w) _ _ ⟨hp, g, d, t, os⟩ "object.__setattr__" "object" "__setattr__" (.ref x) [.str nam tk, v] [] _ st.kind st.split sub (st.args (.ref x) (.str nam tk) v) ?_)
  have lm : W.Looks (model prog w) hp (mroOf (.ref C)) cd.mro := (W.looks_clsIn X hcd).andThen .now
  have lt : W.Looks (model prog w) hp (storeTaker? none) none := .now
  have lc : W.Looks (model prog w) hp (classData C) cd := W.looks_clsIn X hcd
  rw [W.osa_eq, refuse_eq]
  refine wpAny_bind (wpAny_bind (J.type.at (wpAny_bind (lm.at ?_))))
  rw [hmro, rt_pass]
  refine wpAny_pure (wpAny_bind (J.type.at (wpAny_bind ((W.looks_findIn X ha).at (wpAny_bind (lt.at ?_))))))
  show wpAny _ _ (storeInOwnDict (.ref x) (.ref C) (.str nam tk) nam v false) _ _ _
  obtain ⟨k1, k2, k3, k4, k5, k6, k7, k8, k9, k10, k11⟩ := cd
  dsimp only at hh
  subst hh
  unfold storeInOwnDict ownDictForStores
  repeat (first | with_reducible refine store_in_new ?_ ?_ | with_reducible refine wpAny_loadPart_at hx ?_ | with_reducible refine lc.at ?_ | wp_step)
  · exact ⟨_, #[], _, (Heap.get?_update_ne _ _ _ _ nxs.symm).trans (Heap.get?_push_at rfl rfl), rfl, fun e he => absurd he (by simp), fun _ => rfl⟩
  · intro h2 tk2 n2 sb
    have hx1 : (hp.push { cls := .type "dict", data := .dict #[] }).get? x = some { cls := .ref C, data := .fields fv } := Heap.get?_push_of_some _ hx
    refine fin h2 tk2 hp.objs.size (fun b o hb ho => ?_) (Nat.le_refl _) nxs.symm ?_ n2
    · exact (sb.2 b (Nat.ne_of_lt (Heap.lt_size ho))).trans ((Heap.get?_update_ne _ _ _ _ hb).trans (Heap.get?_push_of_some _ ho))
    · exact (sb.2 x nxs).trans (Heap.get?_update_self _ hx1 rfl)
end
/-- what the written part says of such a class -/
structure OexR (K : PySem.W.Frag) (C : Addr) : Prop where
  cls : ∃ nm q N bs B sn sub ab col dd k0 k1 k2 k3 k5, K.lookup C = some (excClassObj nm q C N bs (.ref B :: rtTail) true sn sub ab col dd k0 k1 k2 k3 k5 "RuntimeError.__new__")
  sa : PySem.W.findIn K (.ref C) "__setattr__" = some (some (.builtin "object.__setattr__"))
  exC : PySem.W.subIn K (.ref C) (.type "BaseException") = some true
  tyC : PySem.W.typeIn K (.ref C) = some (.type "type")
  kC : PySem.W.keepIn K (.ref C) = true
section
variable {X : Cx} {pins : List (Addr × Obj)} {σ : L2.St} {H : Hp} {s : Shared} {a C : Addr} {f : Str} {y : V} {u : Value} {Q : Unit → Shared → Prop} {E : Value → Shared → Prop} {A : Around}
theorem own_first (T : OexR X.K C) (I : Inv X pins σ H s) (e : H a = some (exo a C none)) (hno : PySem.W.findIn X.K (.ref C) f = some none) (ry : RelV y u)
    (k : ∀ dx s', H dx = none → dx ≠ a → Inv X pins σ (upd (upd H dx (exd dx [(f, y)])) a (exo a C (some dx))) s' → Q () s') : wpAny (model X.prog X.w) A (setAttr (.ref a) f u) Q E s := by
  obtain ⟨nm, q, N, bs, B, sn, sub, ab, col, dd, k0, k1, k2, k3, k5, hC⟩ := T.cls
  have hcl : PySem.W.clsIn X.K C = some { name := nm, bases := bs, mro := .ref C :: .ref B :: rtTail, ns := N, qualname := q, hasDict := true, slotNames := sn, subclasses := sub, abstract := ab, collection := col, hasDel := false } := by
    unfold PySem.W.clsIn
    rw [hC] <;> rfl
  obtain ⟨t1, ho⟩ := exo_at I.hok e
  obtain ⟨hp, g, d, t, os⟩ := s
  refine PySem.W.set_plain I.kIn (ox := { cls := .ref C, dict := none, data := .fields #[.ref t1, .none, .none, .none, .bool false, .none] }) (od := none) ⟨ho, rfl, rfl, trivial⟩ T.sa ?_
  refine first_fld I.kIn ho hcl rfl rfl hno fun h2 tk2 dx kp dn dne hx hn => ?_
  have hnd : H dx = none := I.hok.fresh dn
  have nd : ∀ {b : Addr} {o : Obj}, hp.get? b = some o → b ≠ dx := fun {b o} z => Nat.ne_of_lt (Nat.lt_of_lt_of_le (Heap.lt_size z) dn)
  have na : ∀ {b : Addr}, H b = none → b ≠ a := fun {b} n z => by rw [z, e] at n; cases n
  have U : Un X.fs [] H (upd (upd H dx (exd dx [(f, y)])) a (exo a C (some dx))) hp h2 := {
    keep := fun b o z n _ _ => kp b o (na n) z
    slot := fun b o z n _ _ => ⟨o.slots, kp b o (na n) z⟩
    free := fun b o z n _ => by rw [upd_ne (na n), upd_ne (nd z)]; exact n
    there := fun b o z _ => by
      by_cases hb : b = a
      · rw [hb]; exact ⟨_, hx⟩
      · exact ⟨o, kp b o hb z⟩
    tups := fun b xs z => by rw [upd_ne (at_ne e z exo_tup), upd_ne (ne_of_none z hnd)]; exact z
    frzs := fun b o v z => by rw [upd_ne (at_ne e z exo_frz), upd_ne (ne_of_none z hnd)]; exact z
    tbls := fun b ps z => ⟨#[], by rw [upd_ne (at_ne e z exo_tbl), upd_ne (ne_of_none z hnd), z]; simp⟩ }
  refine k dx _ hnd dne (I.un (t' := tk2) U fun b o z => ?_)
  by_cases hb : b = a
  · subst hb
    rw [upd_same] at z
    cases z
    exact exo_ok hx
  · rw [upd_ne hb] at z
    by_cases hd : b = dx
    · subst hd
      rw [upd_same] at z
      cases z
      exact exd_ok hn (relO_put (fs := []) ry fun g => True.intro)
    · rw [upd_ne hd] at z
      refine (I.hok b o z).stay (fun c v hc w => kp c v ?_ w) (fun c hc => by rw [upd_ne (at_ne e hc exo_own), upd_ne (ne_of_none hc hnd)]; exact hc) (fun c xs hc => by rw [upd_ne (at_ne e hc exo_tup), upd_ne (ne_of_none hc hnd)]; exact hc)
      rcases hc with hc | hc
      · rw [hc]; exact hb
      · exact at_ne e hc exo_own
end
/-- self.f = e, the first one -/
def tOstR (K : PySem.W.Frag) (f : Str) (to te : TE) : TS := fun D σ H => te σ H fun y H1 => to σ H1 fun x H2 => ∃ a C : Addr, x = .ref a ∧ OexR K C ∧ PySem.W.findIn K (.ref C) f = some none ∧
  H2 a = some (exo a C none) ∧ ∀ dx, H2 dx = none → dx ≠ a → D.nx σ (upd (upd H2 dx (exd dx [(f, y)])) a (exo a C (some dx)))
section
variable {X : Cx} {o e : Expr} {es : List Expr} {to te : TE} {ta : TA} {f : Str} {p p' pos : Pos}
theorem ps_ostR (ho : PE X o to) (he : PE X e te) (hs : swapsWith e (some (.Attribute o f p')) pos.line X.env = pure false := by rfl) : PS X (.Assign [.Attribute o f p'] e pos) (tOstR X.K f to te) := by
  refine ⟨fun pins s σ H D I h => ?_⟩
  refine plainObj_wpAny_Assign_Attribute (thn (he.run pins s σ H _ I h) fun v s1 ⟨y, H1, I1, r1, q1⟩ => thn (ho.run pins s1 σ H1 _ I1 q1) fun u s2 ⟨x, H2, I2, r2, a, C, ex, T, hno, ea, q⟩ => ?_) hs
  subst ex
  obtain rfl : u = Value.ref a := r2
  exact own_first T I2 ea hno r1 fun dx s' n ne J => ⟨σ, _, J, q dx n ne⟩
theorem pmk_oexR {CX : CXT} {x : Str} {C fI : Addr} {k : Nat} {fd : FuncData} {ps : List Str} {sp : Sp} (T : OexR X.K C) (iC : PySem.W.findIn X.K (.ref C) "__init__" = some (some (.ref fI))) (tI : PySem.W.typeIn X.K (.ref fI) = some (.type "function"))
    (F1 : FnOk X.prog X.w X.K X.mg X.base CX k fI fd ps sp) (hr : Room (k + 1) X.A) (hb : Binds X.K fd ps []) (hx : Passes CX X (fun _ _ _ => False)) (hg : Gl X x) (hm : X.mg x = some (.ref C)) (ha : PA X (e :: es) ta)
    (hdb : (x == ("__debug__" : Str)) = false := by decide) (he : starEach (e :: es) X.env = (false, eval e X.env) :: starEach es X.env := by rfl) (hpl : (backTo pos (starEach es X.env)).any (·.1) = false := by rfl) :
    PMk X (.Call (.Name x p) (e :: es) [] pos) (tMkO C sp [] ta) := by
  intro pins s σ H Q I h
  obtain ⟨nm, q, N, bs, B, sn, sub, ab, col, dd, k0, k1, k2, k3, k5, hC⟩ := T.cls
  refine wpAny_Call_Name_kw (ld_glob I hg hm ?_ hdb)
  refine PySem.W.callWith_K (h₀ := X.base) I.ok.mod.kin T.kC (thn (ha.run pos pins s σ H _ I h) fun us s1 ⟨vs, H1, I1, r1, hz, q1⟩ => ⟨I1.kIn, ?_⟩) he hpl
  show wpAny _ _ (call (.ref C) us) _ _ _
  obtain ⟨hp, g, dr, tk, os⟩ := s1
  have up1 : hp.objs.size ≤ hp.objs.size + 1 := Nat.le_succ _
  have hn : H1 (hp.objs.size + 1) = none := I1.hok.fresh up1
  have hq := q1 (hp.objs.size + 1) hn
  have old : ∀ b o, hp.get? b = some o → ((hp.push (PySem.W.kdv_tup us)).push (excO C hp.objs.size)).get? b = some o := fun b o z => Heap.get?_push_of_some _ (Heap.get?_push_of_some _ z)
  have new : ((hp.push (PySem.W.kdv_tup us)).push (excO C hp.objs.size)).get? (hp.objs.size + 1) = some (excO C hp.objs.size) := by heap_get
  have I2 : Inv X pins σ (upd H1 (hp.objs.size + 1) (exo (hp.objs.size + 1) C none)) ⟨(hp.push (PySem.W.kdv_tup us)).push (excO C hp.objs.size), g, dr, tk, os⟩ :=
    I1.laid (t' := tk) (a := hp.objs.size + 1) (o := exo (hp.objs.size + 1) C none) (h' := (hp.push (PySem.W.kdv_tup us)).push (excO C hp.objs.size)) old up1 (exo_ok new)
  rw [List.append_nil] at hq
  have r2 : Vals (V.ref (hp.objs.size + 1) :: vs) (Value.ref (hp.objs.size + 1) :: us) := .cons rfl r1
  have hl : (Value.ref (hp.objs.size + 1) :: us ++ ([] : List Value)).length = ps.length := by
    rw [List.append_nil, ← r2.length]
    exact F1.len _ _ _ _ hq
  have hus : us.length ≤ sizeLine := by
    rw [← Paired.length r1, sizeLine_eq]
    omega
  have hbb := hb ⟨(hp.push (PySem.W.kdv_tup us)).push (excO C hp.objs.size), g, dr, tk, os⟩ (Value.ref (hp.objs.size + 1) :: us) I2.kIn hl
  rw [List.append_nil] at hbb
  refine wpAny_call (call_own F.excBase_RuntimeError (bm := .ref B :: rtTail) (fun Y => rfl) (I1.kIn _ _ hC) (PySem.W.looks_findIn I1.kIn iC) (fun self => PySem.W.bind_fn I1.kIn self tI) hus
    (codeAny_mono (F1.run _ X.stack _ _ ⟨Value.ref (hp.objs.size + 1) :: us, []⟩ (Value.ref (hp.objs.size + 1) :: us) _ _ (fun _ _ _ => False) (hr.make C us []) (I2.env0.make C us []) hbb r2 hq) fun r s' hq' => ?_))
  cases r with
  | error er => exact hx pins σ _ _ er s' I2 hq'
  | ok fl =>
    cases fl with
    | ret u =>
      obtain ⟨v, H2, os2, bare2, un2, hok2, rv, ev, d, fs, ea, ed, hd1, q2⟩ := hq'
      subst ev
      obtain ⟨h2, g2, d2, t2, os'⟩ := s'
      exact ⟨rv, mk_end (raises_own T.exC T.tyC) I1 up1 old un2 hok2 os2 bare2 ea ed hd1 q2⟩
    | next => exact False.elim hq'
    | brk => exact False.elim hq'
    | cont => exact False.elim hq'
end
end Nk
namespace Nk
open PySem L2 PySem.Spec PyProof.Rows
/-- such a class as it stands behind the top: one field, set by its __init__ -/
structure Eo (K : PySem.W.Frag) (mg : Str → Option Value) (x qual : Str) (st : Stmt) (ps : List Str) (f : Str) : Prop where
  g : mg x = some (.ref (cls mg x))
  ox : OexR K (cls mg x)
  na : PySem.W.findIn K (.ref (cls mg x)) f = some none
  ini : ∃ (fI : Addr) (fd : FuncData), Fun K "__init__" qual st fI fd ∧ PySem.W.findIn K (.ref (cls mg x)) "__init__" = some (some (.ref fI)) ∧ PySem.W.typeIn K (.ref fI) = some (.type "function") ∧ Binds K fd ps []
section
variable {K : PySem.W.Frag} {h : Heap} {mg : Str → Option Value}
theorem eo_mk {x qual : Str} {st : Stmt} {ps : List Str} {f : Str} {C fI : Addr} {oc : Value} {od an : Option Addr} {osl : Array (Option Value)} {kV doc pm cdv ct : Value}
    {nm q : Str} {N B : Addr} {bs : List Value} {sn : List Str} {sub : List Value} {ab : Bool} {col : Option Bool} {dd : Option Addr} {k0 k1 k2 k3 k5 : Option Value} (X : K.In h) (G : h.Ns mainGlobals mg)
    (hb : ∀ (kV doc pm : Value) (an : Option Addr) (cdv ct : Value) (us : List Value), us.length = ps.length → bindArgs (PySem.W.fnOf "__init__" qual (defArgs st) (defBody st) (defScope st) .none kV doc pm an cdv ct) ⟨us, []⟩ = pure (ps.zip us))
    (aC : PySem.W.nsIn K mainGlobals x = some (some (.ref C)))
    (lC : K.lookup C = some (excClassObj nm q C N bs (.ref B :: rtTail) true sn sub ab col dd k0 k1 k2 k3 k5 "RuntimeError.__new__"))
    (sa : PySem.W.findIn K (.ref C) "__setattr__" = some (some (.builtin "object.__setattr__"))) (exC : PySem.W.subIn K (.ref C) (.type "BaseException") = some true) (tyC : PySem.W.typeIn K (.ref C) = some (.type "type")) (kC : PySem.W.keepIn K (.ref C) = true)
    (na : PySem.W.findIn K (.ref C) f = some none)
    (a : PySem.W.findIn K (.ref C) "__init__" = some (some (.ref fI))) (ti : PySem.W.typeIn K (.ref fI) = some (.type "function"))
    (l : K.lookup fI = some ⟨oc, od, .func (PySem.W.fnOf "__init__" qual (defArgs st) (defBody st) (defScope st) .none kV doc pm an cdv ct), osl⟩)
    (cc : PySem.W.codeIn K cdv qual = true) (k : PySem.W.keepIn K (.ref fI) = true) : Eo K mg x qual st ps f := by
  have g := PySem.W.mg_of X G aC
  have e := cls_of g
  have F := fun_mk (st := st) l cc k
  refine ⟨by rw [e]; exact g, by rw [e]; exact ⟨⟨_, _, _, _, _, _, _, _, _, _, _, _, _, _, _, lC⟩, sa, exC, tyC, kC⟩, by rw [e]; exact na, fI, _, F, by rw [e]; exact a, ti, F.binds hb⟩
end
end Nk

namespace Nk
open PySem L2 PySem.Spec PyProof.Rows
/-- its __init__ keeps a promise -/
structure Ek (P : Program) (w : World) (K : PySem.W.Frag) (mg : Str → Option Value) (base : Heap) (CX : CXT) (k : Nat) (x : Str) (ps : List Str) (sp : Sp) : Prop where
  ex : ∃ (fI : Addr) (fd : FuncData), PySem.W.findIn K (.ref (cls mg x)) "__init__" = some (some (.ref fI)) ∧ PySem.W.typeIn K (.ref fI) = some (.type "function") ∧ Binds K fd ps [] ∧ FnOk P w K mg base CX k fI fd ps sp
section
variable {X : Cx} {CX : CXT} {k : Nat} {ps : List Str} {sp : Sp} {x qual f : Str} {st : Stmt} {p pos : Pos} {e : Expr} {es : List Expr} {ta : TA} {ps0 : List Str}
theorem pmk_el (Y : Eo X.K X.mg x qual st ps0 f) (F : Ek X.prog X.w X.K X.mg X.base CX k x ps sp) (hr : Room (k + 1) X.A) (hx : Passes CX X (fun _ _ _ => False)) (hg : Gl X x) (ha : PA X (e :: es) ta)
    (hdb : (x == ("__debug__" : Str)) = false := by decide) (he : starEach (e :: es) X.env = (false, eval e X.env) :: starEach es X.env := by rfl) (hpl : (backTo pos (starEach es X.env)).any (·.1) = false := by rfl) :
    PMk X (.Call (.Name x p) (e :: es) [] pos) (tMkO (cls X.mg x) sp [] ta) := by
  obtain ⟨fI, fd, h1, h2, h3, h4⟩ := F.ex
  exact pmk_oexR Y.ox h1 h2 h4 hr h3 hx hg Y.g ha hdb he hpl
end
end Nk
/-! ### defs of a class called by its name, an __init__ with defaults and keywords -/
namespace Nk
open PySem L2 PySem.Spec PyProof.Rows
/-- C.m is a plain def of the class -/
structure Cf (K : PySem.W.Frag) (mg : Str → Option Value) (c m : Str) : Prop where
  ex : ∃ (mc : Value) (f : Addr), PySem.W.readsIn K (cls mg c) mc = true ∧ PySem.W.specialIn K (.ref (cls mg c)) "__getattribute__" = some (some (.builtin "type.__getattribute__")) ∧ PySem.W.findCls K (.ref (cls mg c)) mc m = some (.val (.ref f)) ∧ PySem.W.findIn K (.ref (cls mg c)) m = some (some (.ref f))
/-- an __init__ with defaults -/
structure Sd (K : PySem.W.Frag) (mg : Str → Option Value) (c qual : Str) (st : Stmt) (ps : List Str) (dvs : List V) : Prop where
  ex : ∃ (f : Addr) (fd : FuncData), FunD K "__init__" qual (defArgs st) (defBody st) (defScope st) dvs [] f fd ∧ Meth K (cls mg c) "__init__" f
section
variable {K : PySem.W.Frag} {h : Heap} {mg : Str → Option Value}
theorem cf_mk {c m : Str} {C f : Addr} {mc : Value} (X : K.In h) (G : h.Ns mainGlobals mg) (aC : PySem.W.nsIn K mainGlobals c = some (some (.ref C))) (rd : PySem.W.readsIn K C mc = true)
    (ga : PySem.W.specialIn K (.ref C) "__getattribute__" = some (some (.builtin "type.__getattribute__"))) (fc : PySem.W.findCls K (.ref C) mc m = some (.val (.ref f))) (ai : PySem.W.findIn K (.ref C) m = some (some (.ref f))) : Cf K mg c m := by
  have e := cls_of (PySem.W.mg_of X G aC)
  exact ⟨mc, f, by rw [e]; exact rd, by rw [e]; exact ga, by rw [e]; exact fc, by rw [e]; exact ai⟩
theorem sd_mk {c qual : Str} {st : Stmt} {ps : List Str} {C f Tt : Addr} {i : Int} {tk : Tok} {oc c2 : Value} {od an d2 : Option Addr} {osl sl2 : Array (Option Value)} {kV doc pm cdv ct : Value} {n : Nat} (X : K.In h) (G : h.Ns mainGlobals mg)
    (aC : PySem.W.nsIn K mainGlobals c = some (some (.ref C))) (a : PySem.W.findIn K (.ref C) "__init__" = some (some (.ref f))) (ii : PySem.W.isFn K (.ref f) = true)
    (l : K.lookup f = some ⟨oc, od, .func (PySem.W.fnOf "__init__" qual (defArgs st) (defBody st) (defScope st) (.ref Tt) kV doc pm an cdv ct), osl⟩)
    (lT : K.lookup Tt = some ⟨c2, d2, .seq #[.int i tk] n, sl2⟩)
    (cc : PySem.W.codeIn K cdv qual = true) (k : PySem.W.keepIn K (.ref f) = true) : Sd K mg c qual st ps [.int i] := by
  have e := cls_of (PySem.W.mg_of X G aC)
  exact ⟨f, _, ⟨⟨oc, od, _, kV, doc, pm, an, cdv, ct, osl, rfl, l, cc, .inr ⟨by simp, Tt, _, [.int i tk], n, rfl, lT, rfl, .cons ⟨tk, rfl⟩ .nil⟩, .inl rfl⟩, k⟩, by rw [e]; exact ⟨a, ii, k⟩⟩
end
section
variable {X : Cx} {CX : CXT} {k : Nat} {ps : List Str} {sp : Sp} {c m qual : Str} {st : Stmt} {dvs : List V} {p pos apos : Pos} {o e : Expr} {es : List Expr} {ta : TE} {t tk : TA} {E : XK} {kws : List Keyword}
def tCFn (C : Addr) (sp : Sp) (E : XK) (ta : TE) (t : TA) : TE := fun σ H Q => ta σ H fun x H1 => x = .ref C ∧ t σ H1 fun vs H2 => sp (vs ++ []) H2 Q E
theorem pe_cfn {pl : Sem Bool} (he : PE X o ta) (R : Cf X.K X.mg c m) (M : Mo X.prog X.w X.K X.mg X.base CX k c m ps sp) (hr : Room k X.A) (hx : Passes CX X E) (ha : PA X (e :: es) t)
    (hst : starEach (e :: es) X.env = (false, eval e X.env) :: starEach es X.env := by rfl) (hpl : (backTo pos (starEach es X.env)).any (·.1) = false := by rfl)
    (ht : eval (.Call (.Attribute o m apos) (e :: es) [] pos) X.env = (do
      let ov ← eval o X.env
      standAt apos.atName
      let (g, first) ← holding [ov] (getMethod ov m pl)
      callWith pos g first (backTo pos (starEach (e :: es) X.env)) (backToKw pos (keywordEach [] X.env))) := by rfl) :
    PE X (.Call (.Attribute o m apos) (e :: es) [] pos) (tCFn (cls X.mg c) sp E ta t) := by
  obtain ⟨f, fd, h1, h2, h3⟩ := M.ex
  obtain ⟨mc, f', r1, r2, r3, r4⟩ := R.ex
  have e0 : f' = f := by
    have := h1.at_
    rw [r4] at this
    cases this
    rfl
  subst e0
  refine ⟨fun pins s σ H Q I h => PySem.W.methodCall_KW (pl := pl) (thn (he.run pins s σ H _ I h) fun u s1 ⟨x, H1, I1, rx, ex, q⟩ => ?_) ht⟩
  subst ex
  obtain rfl : u = Value.ref (cls X.mg c) := rx
  refine PySem.W.method_cls I1.kIn r2 (PySem.W.cls_value I1.kIn r1 r3 rfl ?_)
  exact PySem.W.callWith_K (first := []) (h₀ := X.base) I.ok.mod.kin h1.kp (thn (ha.run pos pins _ σ H1 _ (I1.tok _) q) fun us s2 ⟨vs, H2, I2, r, q2⟩ => ⟨I2.kIn, run_fn (us := us) (vs := vs) h3 hr h2 .nil hx I2 r q2⟩) hst hpl
/-- such an __init__ keeps a promise -/
structure Mi (P : Program) (w : World) (K : PySem.W.Frag) (mg : Str → Option Value) (base : Heap) (CX : CXT) (k : Nat) (c qual : Str) (st : Stmt) (ps : List Str) (dvs : List V) (sp : Sp) : Prop where
  ex : ∃ (f : Addr) (fd : FuncData), Meth K (cls mg c) "__init__" f ∧ FunD K "__init__" qual (defArgs st) (defBody st) (defScope st) dvs [] f fd ∧ FnOk P w K mg base CX k f fd ps sp
theorem vals_app {xs ys : List V} {us vs : List Value} (h : Vals xs us) (h2 : Vals ys vs) : Vals (xs ++ ys) (us ++ vs) := by
  induction h with
  | nil => exact h2
  | cons r _ ih => exact .cons r ih
theorem pe_newK {ks : List Str} {n : Nat} (O : Oc X.K X.mg c) (M : Mi X.prog X.w X.K X.mg X.base CX k c qual st ps dvs sp) (hd : dvs ≠ []) (hr : Room (k + 1) X.A) (hg : Gl X c) (hx : Passes CX X E)
    (hb : ∀ (T : Addr) (kV doc pm : Value) (an : Option Addr) (cdv ct : Value) (us its ws : List Value), us.length = n + 1 → its.length = dvs.length → ws.length = ks.length →
      ∃ k, bindArgs (PySem.W.fnOf "__init__" qual (defArgs st) (defBody st) (defScope st) (.ref T) kV doc pm an cdv ct) ⟨us, ks.zip ws⟩ = seqItems? (.ref T) >>= k ∧ k (some its.toArray) = pure (ps.zip (us ++ ws)))
    (ha : PA X (e :: es) t) (hkw : PK X kws tk) (hall : (backToKw pos (keywordEach kws X.env)).all (·.1.isSome) = true := by rfl) (hks : (backToKw pos (keywordEach kws X.env)).filterMap (·.1) = ks := by rfl)
    (hdb : (c == ("__debug__" : Str)) = false := by decide) (he : starEach (e :: es) X.env = (false, eval e X.env) :: starEach es X.env := by rfl)
    (hpl : ((backTo pos (starEach (e :: es) X.env)).any (·.1) || (backToKw pos (keywordEach kws X.env)).any (·.1.isNone)) = false := by rfl) :
    PE X (.Call (.Name c p) (e :: es) kws pos) (tMakeN (cls X.mg c) n ks.length sp (fun vs zs => vs ++ zs) E t tk) := by
  obtain ⟨f, fd, h1, F, h3⟩ := M.ex
  obtain ⟨its, B⟩ := F.kbindsD (n + 1) ks (fun us _ ws => us ++ ws) hd (fun a _ b => vals_app a b) hb
  exact pe_makeN ⟨O.makes, h1.at_, h1.fn, O.kp⟩ h3 hr hg O.g B hx ha hkw hall hks hdb he hpl
end
end Nk
namespace Nk
open PySem L2
def top (i : Nat) : Stmt := PySem.Challenge.pw_nightkeep_k10_refused_rules.main.body.getD i (.Pass ⟨0, 0, 0, 0⟩)
abbrev s__wall : Stmt := top 0
abbrev s_Elder____init__ : Stmt := inClass (top 8) 0
abbrev s_is_number : Stmt := top 22
abbrev s_is_rounds : Stmt := top 23
abbrev s_look_night : Stmt := top 24
abbrev s_number_of : Stmt := top 25
abbrev s_first_of : Stmt := top 26
abbrev s_is_rule : Stmt := top 29
abbrev s_look_rules : Stmt := top 30
abbrev s_look_nights : Stmt := top 31
abbrev s_kept_by : Stmt := top 32
abbrev s_kept_of : Stmt := top 33
abbrev s_kept : Stmt := top 34
abbrev s_reasons : Stmt := top 35
abbrev s_look_taken : Stmt := top 37
abbrev s_look_held : Stmt := top 38
abbrev s_Keep____init__ : Stmt := inClass (top 39) 0
abbrev s_Keep____len__ : Stmt := inClass (top 39) 1
abbrev s_Keep__take : Stmt := inClass (top 39) 2
abbrev s_Keep__let_go : Stmt := inClass (top 39) 3
abbrev s_Keep__pin : Stmt := inClass (top 39) 4
abbrev s_Keep__unpin : Stmt := inClass (top 39) 5
abbrev s_Keep__held : Stmt := inClass (top 39) 6
abbrev s_Keep__pins : Stmt := inClass (top 39) 7
abbrev s_Keep__stays : Stmt := inClass (top 39) 8
abbrev s_Keep__ahead : Stmt := inClass (top 39) 9
abbrev s_divisor : Stmt := top 41
abbrev s_turn_of : Stmt := top 42
abbrev s_standing_at : Stmt := top 43
abbrev s_held_at : Stmt := top 44
abbrev s_gap : Stmt := top 45
abbrev s_turn : Stmt := top 46
abbrev s_full : Stmt := top 47
abbrev s_part_of : Stmt := top 49
abbrev s_copy_of : Stmt := top 51
abbrev s_chain_of : Stmt := top 52
abbrev s_Store____init__ : Stmt := inClass (top 53) 0
abbrev s_Store__take : Stmt := inClass (top 53) 1
abbrev s_Store__let_go : Stmt := inClass (top 53) 2
abbrev s_Store__whole : Stmt := inClass (top 53) 3
abbrev s_Store__lose : Stmt := inClass (top 53) 4
abbrev s_Store__state : Stmt := inClass (top 53) 5
abbrev s_Store__copies : Stmt := inClass (top 53) 6
abbrev s_Store__chain : Stmt := inClass (top 53) 7
abbrev s_Store__room : Stmt := inClass (top 53) 8
abbrev s_look_small : Stmt := top 55
abbrev s_look_turn : Stmt := top 56
abbrev s_stood : Stmt := top 57
abbrev s_gone_back : Stmt := top 58
abbrev s_copied : Stmt := top 59
abbrev s_steps : Stmt := top 60
abbrev s_nights_from : Stmt := top 61
abbrev s_outdone : Stmt := top 62
abbrev s_within : Stmt := top 63
abbrev s_lean : Stmt := top 64
abbrev s_best_from : Stmt := top 65
abbrev s_most : Stmt := top 66
abbrev s__law_town : Stmt := top 68
abbrev s__law_draw : Stmt := top 69
abbrev s__law_pick : Stmt := top 70
abbrev s__law_word : Stmt := top 71
abbrev s__law_refused : Stmt := top 72
abbrev s__law_told : Stmt := top 73
abbrev s__law_whole : Stmt := top 74
abbrev s__law_rounds : Stmt := top 75
abbrev s__law_rules : Stmt := top 76
abbrev s__law_nights : Stmt := top 77
abbrev s__law_one : Stmt := top 78
abbrev s__law_good : Stmt := top 79
abbrev s__law_spoilt : Stmt := top 80
abbrev s__law_ordered : Stmt := top 81
abbrev s_law : Stmt := top 82
/-- what the walks ask of the top as it stands when it has run -/
structure Txt (K : PySem.W.Frag) (mg : Str → Option Value) : Prop where
  d_is_number : Df K mg "is_number" "is_number" s_is_number ["thing", "least", "most"]
  d_is_rounds : Df K mg "is_rounds" "is_rounds" s_is_rounds ["thing"]
  d_look_night : Df K mg "look_night" "look_night" s_look_night ["night"]
  d_number_of : Df K mg "number_of" "number_of" s_number_of ["rounds", "night"]
  d_first_of : Df K mg "first_of" "first_of" s_first_of ["rounds", "number"]
  d_is_rule : Df K mg "is_rule" "is_rule" s_is_rule ["thing"]
  d_look_rules : Df K mg "look_rules" "look_rules" s_look_rules ["rules"]
  d_look_nights : Df K mg "look_nights" "look_nights" s_look_nights ["nights"]
  d_kept_by : Df K mg "kept_by" "kept_by" s_kept_by ["rule", "nights"]
  d_kept_of : Df K mg "kept_of" "kept_of" s_kept_of ["rules", "nights"]
  d_kept : Df K mg "kept" "kept" s_kept ["rules", "nights"]
  d_reasons : Df K mg "reasons" "reasons" s_reasons ["rules", "nights"]
  d_held_at : Df K mg "held_at" "held_at" s_held_at ["rules", "night"]
  d_gap : Df K mg "gap" "gap" s_gap ["rules", "night"]
  d_turn : Df K mg "turn" "turn" s_turn ["rules"]
  d_full : Df K mg "full" "full" s_full ["rules"]
  d_look_small : Df K mg "look_small" "look_small" s_look_small ["rules"]
  d_within : Df K mg "within" "within" s_within ["one", "other"]
  d_lean : Df K mg "lean" "lean" s_lean ["rules"]
  d_most : Df K mg "most" "most" s_most ["rules"]
  d__law_town : Df K mg "_law_town" "_law_town" s__law_town ["script"]
  d__law_draw : Df K mg "_law_draw" "_law_draw" s__law_draw ["script", "town", "many"]
  d__law_pick : Df K mg "_law_pick" "_law_pick" s__law_pick ["script", "town", "some"]
  d__law_word : Df K mg "_law_word" "_law_word" s__law_word ["caught"]
  d__law_refused : Df K mg "_law_refused" "_law_refused" s__law_refused ["word"]
  d__law_told : Df K mg "_law_told" "_law_told" s__law_told ["kind", "some"]
  d__law_whole : Df K mg "_law_whole" "_law_whole" s__law_whole ["thing"]
  d__law_rounds : Df K mg "_law_rounds" "_law_rounds" s__law_rounds ["script", "town", "long", "top"]
  d__law_rules : Df K mg "_law_rules" "_law_rules" s__law_rules ["script", "town", "many", "long", "top", "most_many"]
  d__law_nights : Df K mg "_law_nights" "_law_nights" s__law_nights ["script", "town", "many", "step"]
  d__law_one : Df K mg "_law_one" "_law_one" s__law_one ["kind", "some"]
  d__law_good : Df K mg "_law_good" "_law_good" s__law_good ["thing"]
  d__law_spoilt : Df K mg "_law_spoilt" "_law_spoilt" s__law_spoilt ["script", "town", "some"]
  d__law_ordered : Df K mg "_law_ordered" "_law_ordered" s__law_ordered ["thing"]
  d_law : Df K mg "law" "law" s_law ["script"]
  x_KeepError : Xc K mg "KeepError" (cls mg "KeepError")
  x_BadRounds : Xc K mg "BadRounds" (cls mg "BadRounds")
  x_BadNight : Xc K mg "BadNight" (cls mg "BadNight")
  x_BadNumber : Xc K mg "BadNumber" (cls mg "BadNumber")
  x_BadRules : Xc K mg "BadRules" (cls mg "BadRules")
  x_BadNights : Xc K mg "BadNights" (cls mg "BadNights")
  x_Full : Xc K mg "Full" (cls mg "Full")
  x_NotHeld : Xc K mg "NotHeld" (cls mg "NotHeld")
  x_Pinned : Xc K mg "Pinned" (cls mg "Pinned")
  x_NotPinned : Xc K mg "NotPinned" (cls mg "NotPinned")
  x_BadState : Xc K mg "BadState" (cls mg "BadState")
  x_BadPart : Xc K mg "BadPart" (cls mg "BadPart")
  x_NotFit : Xc K mg "NotFit" (cls mg "NotFit")
  x_IsWhole : Xc K mg "IsWhole" (cls mg "IsWhole")
  x_BadPlan : Xc K mg "BadPlan" (cls mg "BadPlan")
  x_Unlike : Xc K mg "Unlike" (cls mg "Unlike")
  x_BadText : Xc K mg "BadText" (cls mg "BadText")
  y_Elder : Eo K mg "Elder" "Elder.__init__" s_Elder____init__ ["self", "last"] "last"
  o_Keep : Oc K mg "Keep"
  m_Keep____init__ : Md K mg "Keep" "__init__" "Keep.__init__" s_Keep____init__ ["self", "rules"]
  m_Keep____len__ : Md K mg "Keep" "__len__" "Keep.__len__" s_Keep____len__ ["self"]
  n_Keep__last : NoAttr K (cls mg "Keep") "last"
  n_Keep__nights : NoAttr K (cls mg "Keep") "nights"
  n_Keep__pinned : NoAttr K (cls mg "Keep") "pinned"
  n_Keep__rules : NoAttr K (cls mg "Keep") "rules"
  o_Store : Oc K mg "Store"
  m_Store____len__ : Md K mg "Store" "__len__" "Keep.__len__" s_Keep____len__ ["self"]
  q_Keep____init__ : Cf K mg "Keep" "__init__"
  i_Store : Sd K mg "Store" "Store.__init__" s_Store____init__ ["self", "rules", "longest"] [.int 4]
  k_err : Kc K mg
  e_BadRounds : Ec K mg "BadRounds"
  e_BadNight : Ec K mg "BadNight"
  e_BadNumber : Ec K mg "BadNumber"
  e_BadRules : Ec K mg "BadRules"
  e_BadNights : Ec K mg "BadNights"
  e_Elder : Ec K mg "Elder"
  e_Full : Ec K mg "Full"
  e_NotHeld : Ec K mg "NotHeld"
  e_Pinned : Ec K mg "Pinned"
  e_NotPinned : Ec K mg "NotPinned"
  e_BadState : Ec K mg "BadState"
  e_BadPart : Ec K mg "BadPart"
  e_NotFit : Ec K mg "NotFit"
  e_IsWhole : Ec K mg "IsWhole"
  e_BadPlan : Ec K mg "BadPlan"
  e_Unlike : Ec K mg "Unlike"
  e_BadText : Ec K mg "BadText"
  c_MOST_NIGHT : ∃ t, mg "MOST_NIGHT" = some (.int 1000000000 t)
  c_MOST_HELD : ∃ t, mg "MOST_HELD" = some (.int 100 t)
  b_RuntimeError : mg "RuntimeError" = none
  b_all : mg "all" = none
  b_bool : mg "bool" = none
  b_enumerate : mg "enumerate" = none
  b_int : mg "int" = none
  b_isinstance : mg "isinstance" = none
  b_len : mg "len" = none
  b_list : mg "list" = none
  b_max : mg "max" = none
  b_min : mg "min" = none
  b_range : mg "range" = none
  b_reversed : mg "reversed" = none
  b_set : mg "set" = none
  b_sorted : mg "sorted" = none
  b_sum : mg "sum" = none
  b_tuple : mg "tuple" = none
  b_zip : mg "zip" = none
end Nk
local macro_rules | `(tactic| walk_at "rd") => `(tactic| (try simp only [L2.tRet, L2.tAndV, L2.tOrV, L2.tNotV, L2.tCB, L2.tCons, L2.tNil, L2.tVar, L2.tC, L2.tChain, L2.tOp, L2.tUn, L2.rI, L2.rI0, L2.rU, L2.rEq, L2.rNe, L2.scal, L2.tTest, L2.tB, L2.tAnd, L2.tOr, L2.tNot, L2.tIf, L2.tIfS, L2.tSeq, L2.tNext, L2.tAsg, L2.gName, Nk.gCons_cons, Nk.gNil_nil, L2.gSub, L2.tDrop, L2.tRetN, L2.tCall, L2.tCallS, L2.tIsN, L2.tNotN, L2.tSl, L2.tPart, L2.tNoPart, L2.tPar, L2.tAug, L2.tBreak, L2.tCont, L2.tDisp, L2.tPairs, L2.tLstRg, L2.tRg1, L2.tRg2, Nk.rLenQ, Nk.rListQ, Nk.rTupleQ, L2.sDPut, L2.tBM, L2.tBM0, L2.tTup, L2.tLst, Nk.szN, Nat.reduceLeDiff, L2.tYes, L2.wipe, L2.start, L2.cxOf, List.map_cons, List.map_nil, List.cons_append, List.nil_append, List.append_nil, List.length_cons, List.length_nil, List.replicate, Nat.sub_self, Nat.zero_add, Nat.reduceAdd, Nat.reduceSub, List.set_cons_zero, List.set_cons_succ, List.getElem?_cons_zero, List.getElem?_cons_succ, Option.some.injEq, exists_and_left, exists_eq_left', exists_eq_left, L2.V.int.injEq, L2.V.bl.injEq, L2.V.str.injEq, L2.V.ref.injEq, true_and, and_true, decide_eq_true_eq, Bool.not_true, Bool.not_false, if_true, if_false, Bool.false_eq_true, reduceIte, List.cons.injEq, reduceCtorEq, decide_true, decide_false, decide_eq_false_iff_not, Bool.not_eq_true', Bool.not_not]))
local macro_rules | `(tactic| walk_at "rs") => `(tactic| (try simp only [L2.tRet, L2.tAndV, L2.tOrV, L2.tNotV, L2.tCB, L2.tCons, L2.tNil, L2.tVar, L2.tC, L2.tChain, L2.tOp, L2.tUn, L2.rI, L2.rI0, L2.rU, L2.rEq, L2.rNe, Nk.scal_ii, Nk.scal_ss, Nk.scal_bb, Nk.scal_nn, Nk.scal_ni, Nk.scal_in, Nk.scal_ns, Nk.scal_sn, Nk.scal_is, Nk.scal_si, L2.tTest, L2.tB, L2.tAnd, L2.tOr, L2.tNot, L2.tIf, L2.tIfS, L2.tNext, L2.tAsg, L2.gName, Nk.gCons_cons, Nk.gNil_nil, L2.gSub, L2.tDrop, L2.tRetN, L2.tCall, L2.tCallS, L2.tIsN, L2.tNotN, L2.tSl, L2.tPart, L2.tNoPart, L2.tPar, L2.tAug, L2.tBreak, L2.tCont, L2.tDisp, L2.tPairs, L2.tLstRg, L2.tRg1, L2.tRg2, Nk.rLenQ, Nk.rListQ, Nk.rTupleQ, L2.sDPut, L2.tBM, L2.tBM0, L2.tTup, L2.tLst, Nk.szN, Nat.reduceLeDiff, L2.tYes, L2.wipe, L2.start, L2.cxOf, List.map_cons, List.map_nil, List.cons_append, List.nil_append, List.append_nil, List.length_cons, List.length_nil, List.replicate, Nat.sub_self, Nat.zero_add, Nat.reduceAdd, Nat.reduceSub, List.set_cons_zero, List.set_cons_succ, List.getElem?_cons_zero, List.getElem?_cons_succ, Option.some.injEq, exists_and_left, exists_eq_left', exists_eq_left, L2.V.int.injEq, L2.V.bl.injEq, L2.V.str.injEq, L2.V.ref.injEq, true_and, and_true, decide_eq_true_eq, Bool.not_true, Bool.not_false, if_true, if_false, Bool.false_eq_true, reduceIte, List.cons.injEq, reduceCtorEq, decide_true, decide_false, decide_eq_false_iff_not, Bool.not_eq_true', Bool.not_not]))
local macro_rules | `(tactic| walk_at "rt") => `(tactic| (try simp only [L2.tRet, L2.tFld, L2.sFld, L2.tMeth, L2.tMake, L2.tMkO, L2.tAndV, L2.tOrV, L2.tNotV, L2.tCB, L2.tCons, L2.tNil, L2.tVar, L2.tC, L2.tChain, L2.tOp, L2.tUn, L2.rI, L2.rI0, L2.rU, L2.rEq, L2.rNe, Nk.scal_ii, Nk.scal_ss, Nk.scal_bb, Nk.scal_nn, Nk.scal_ni, Nk.scal_in, Nk.scal_ns, Nk.scal_sn, Nk.scal_is, Nk.scal_si, L2.tTest, L2.tB, L2.tAnd, L2.tOr, L2.tNot, L2.tIf, L2.tIfS, L2.tNext, L2.tAsg, L2.gName, Nk.gCons_cons, Nk.gNil_nil, L2.gSub, L2.tDrop, L2.tRetN, L2.tCall, L2.tCallS, L2.tIsN, L2.tNotN, L2.tSl, L2.tPart, L2.tNoPart, L2.tPar, L2.tAug, L2.tBreak, L2.tCont, and_assoc, Nk.tFor_k, Nk.tLc_k, L2.iRng1, L2.iRng2, L2.iList, L2.iTup, L2.iRev, L2.iEnum, L2.iZip, L2.tDisp, L2.tPairs, L2.tLstRg, L2.tRg1, L2.tRg2, Nk.rLenQ, Nk.rListQ, Nk.rTupleQ, L2.sDPut, L2.tBM, L2.tBM0, L2.tTup, L2.tLst, Nk.szN, Nat.reduceLeDiff, L2.tYes, L2.wipe, L2.start, L2.cxOf, List.map_cons, List.map_nil, List.cons_append, List.nil_append, List.append_nil, List.length_cons, List.length_nil, List.replicate, Nat.sub_self, Nat.zero_add, Nat.reduceAdd, Nat.reduceSub, List.set_cons_zero, List.set_cons_succ, List.getElem?_cons_zero, List.getElem?_cons_succ, Option.some.injEq, exists_and_left, exists_eq_left', exists_eq_left, L2.V.int.injEq, L2.V.bl.injEq, L2.V.str.injEq, L2.V.ref.injEq, true_and, and_true, decide_eq_true_eq, Bool.not_true, Bool.not_false, if_true, if_false, Bool.false_eq_true, reduceIte, List.cons.injEq, reduceCtorEq, decide_true, decide_false, decide_eq_false_iff_not, Bool.not_eq_true', Bool.not_not]))
namespace Nk
open PySem L2
section
variable {P : Program} {w : World} {K : PySem.W.Frag} {mg : Str → Option Value} {base : Heap}
abbrev nm_is_number : List Str := ["thing", "least", "most"]
abbrev pm_is_number : List Str := ["thing", "least", "most"]
abbrev lv_is_number : Nat := 1
theorem sc_is_number : FnScope nm_is_number pm_is_number (defScope s_is_number) := ⟨rfl, rfl, rfl, by decide +kernel, rfl, by decide +kernel, by decide +kernel⟩
def sp_is_number (K : PySem.W.Frag) : Sp := fun vs H Q _ => ∃ (x : V) (n : String) (lo : Int) (y : V), vs = [x, .int lo, y] ∧ Thing K H x n ∧ (∀ i, x = .int i → ∃ hi, y = .int hi) ∧ Q (.bl (isNumV x lo y)) H
theorem f_is_number (T : Txt K mg) : Fk P w K mg base CX0 lv_is_number "is_number" pm_is_number (sp_is_number K) := by
  obtain ⟨f, fd, F, g, b⟩ := T.d_is_number.ex
  refine ⟨f, fd, g, F.kp, b, F.ok sc_is_number (fun vs H Q E h => ?_) (fun cdv A outer s H vs Q E hr h => ?_)⟩
  · obtain ⟨x, n, lo, y, rfl, _⟩ := h; rfl
  · obtain ⟨x, n, lo, y, rfl, hx, hy, q⟩ := h
    refine ⟨_, (pss_one (ps_ret (pe_and (pe_callB call_isi (by rfl) T.b_isinstance (by decide +kernel) (pa_cons (pv 0) (pa_cons (pe_bltn (v := .ty "int") (by rfl) T.b_int (by decide +kernel) rfl) pa_nil))) (pe_and (pe_not (pe_callB call_isi (by rfl) T.b_isinstance (by decide +kernel) (pa_cons (pv 0) (pa_cons (pe_bltn (v := .ty "bool") (by rfl) T.b_bool (by decide +kernel) rfl) pa_nil)))) (pe_one (pe_chain op_le op_le (pv 1) (pv 0) (pv 2))))))), ?_⟩
    walk_at "rd"
    refine isi_thing hx (by decide) ?_
    cases hx with
    | int i =>
      obtain ⟨hi, rfl⟩ := hy i rfl
      simp only [show isA "int" "int" = true from by decide]
      walk_at "rd"
      refine isi_thing (.int i) (by decide) ?_
      simp only [show isA "int" "bool" = false from by decide]
      walk_at "rd"
      simp only [isNumV] at q
      by_cases c : lo ≤ i
      · simpa [c] using q
      · simpa [c] using q
    | bl i =>
      simp only [show isA "bool" "int" = true from by decide]
      walk_at "rd"
      refine isi_thing (.bl i) (by decide) ?_
      simp only [show isA "bool" "bool" = true from by decide]
      walk_at "rd"
      exact q
    | _ => exact ⟨false, rfl, q⟩
/-- whether a thing is rounds -/
def isRoundsV (H : Hp) (x : V) : Bool := match x with
  | .ref a => match H a with
    | some (.tup xs) => decide (1 ≤ xs.length) && decide (xs.length ≤ 12) && xs.all fun y => isNumV y 1 (.int 31)
    | _ => false
  | _ => false
/-- a thing, and what is in it if it is a tuple -/
def Thing2 (K : PySem.W.Frag) (H : Hp) (x : V) : Prop := (∃ n, Thing K H x n) ∧ ∀ a xs, x = .ref a → H a = some (.tup xs) → xs.length ≤ 100000 ∧ ∀ y ∈ xs, ∃ m, Thing K H y m
abbrev nm_is_rounds : List Str := ["thing", "one"]
abbrev pm_is_rounds : List Str := ["thing"]
abbrev lv_is_rounds : Nat := 2
theorem sc_is_rounds : FnScope nm_is_rounds pm_is_rounds (defScope s_is_rounds) := ⟨rfl, rfl, rfl, by decide +kernel, rfl, by decide +kernel, by decide +kernel⟩
def sp_is_rounds (K : PySem.W.Frag) : Sp := fun vs H Q _ => ∃ (x : V), vs = [x] ∧ Thing2 K H x ∧ ∀ H', Same H H' → Q (.bl (isRoundsV H x)) H'
theorem f_is_rounds (T : Txt K mg) : Fk P w K mg base CX0 lv_is_rounds "is_rounds" pm_is_rounds (sp_is_rounds K) := by
  obtain ⟨f, fd, F, g, b⟩ := T.d_is_rounds.ex
  refine ⟨f, fd, g, F.kp, b, F.ok sc_is_rounds (fun vs H Q E h => ?_) (fun cdv A outer s H vs Q E hr h => ?_)⟩
  · obtain ⟨x, rfl, _⟩ := h; rfl
  · obtain ⟨x, rfl, ⟨⟨n, hx⟩, hin⟩, q⟩ := h
    refine ⟨_, (pss_cons (ps_if (PW.pt (pw_or (pt_not (pt_val (pe_callB call_isi (by rfl) T.b_isinstance (by decide +kernel) (pa_cons (pv 0) (pa_cons (pe_bltn (v := .ty "tuple") (by rfl) T.b_tuple (by decide +kernel) rfl) pa_nil))))) (pw_or1 (pt_not (pt_chain op_le op_le pe_int (pe_callB call_len_seq (by rfl) T.b_len PySem.boot_len (pa_cons (pv 0) pa_nil)) pe_int))))) (pss_one (ps_ret pe_bl)) pss_nil)
      (pss_one (ps_ret (pe_callB (cr_all rfl) (by rfl) T.b_all (by decide +kernel) (pa_cons (pe_lc (own := [("one", 1)]) (g := gName 1) (tt := tYes) (by rfl) sc_is_rounds.nd (pi_tup (pv 0)) (blkOk_by (own := [("one", 1)]) (N := nm_is_rounds) (sc := defScope s_is_rounds) (by decide +kernel)) (fun _ _ _ _ _ => (pg_name (i := 1) sc_is_rounds.nd rfl (Or.inl rfl))) (fun _ _ _ _ _ => pts_nil) (fun _ _ _ _ _ => (pe_fn (f_is_number T) (hr.mono (by decide)) (by rfl) pass0 (pa_cons (pv 1) (pa_cons pe_int (pa_cons pe_int pa_nil)))))) pa_nil))))), ?_⟩
    walk_at "rd"
    refine isi_thing hx (by decide) ?_
    cases hx with
    | @tup a xs ha =>
      obtain ⟨hz, hth⟩ := hin a xs rfl ha
      simp only [show isA "tuple" "tuple" = true from by decide]
      walk_at "rd"
      refine ⟨xs, .inr (sqT ha), ?_⟩
      have e0 : isRoundsV H (.ref a) = (decide (1 ≤ xs.length) && decide (xs.length ≤ 12) && xs.all fun y => isNumV y 1 (.int 31)) := by
        simp only [isRoundsV, ha]
      rw [e0] at q
      by_cases c1 : 1 ≤ xs.length
      · by_cases c2 : xs.length ≤ 12
        · have d1 : (1 : Int) ≤ (xs.length : Int) := by omega
          have d2 : (xs.length : Int) ≤ 12 := by omega
          simp only [d1, d2]
          walk_at "rd"
          refine ⟨_, rfl, a, rfl, ⟨xs, sqT ha⟩, fun D hD => ?_⟩
          refine lcT hD (sqT ha) (fun i => (xs.take i).map fun y => .bl (isNumV y 1 (.int 31))) rfl (fun i y H2 hy p => ?_) (fun H2 s2 hD2 => ?_)
          · walk_at "rd"
            obtain ⟨m, hm⟩ := hth y (mem_of_get hy)
            refine ⟨y, m, 1, .int 31, rfl, Thing.same p.same hm, fun _ _ => ⟨31, rfl⟩, ?_⟩
            exact p.push hD (by simp; omega) (Same.refl _) (map_take_next _ hy)
          · refine ⟨D, xs.map fun y => isNumV y 1 (.int 31), rfl, ?_, ?_⟩
            · rw [List.take_length] at hD2
              rw [List.map_map]
              exact sqL hD2
            · have := q H2 s2
              simpa [c1, c2, List.all_map, Function.comp_def] using this
        · have d1 : (1 : Int) ≤ (xs.length : Int) := by omega
          have d2 : ¬ (xs.length : Int) ≤ 12 := by omega
          simp only [d1, d2]
          walk_at "rd"
          simpa [c2] using q H (Same.refl H)
      · have d1 : ¬ (1 : Int) ≤ (xs.length : Int) := by omega
        simp only [d1]
        walk_at "rd"
        simpa [c1] using q H (Same.refl H)
    | _ => exact ⟨false, by rfl, by simpa [isRoundsV, *] using q H (Same.refl H)⟩
/-- rounds as a tuple that stands -/
structure RndsAt (H : Hp) (a : Addr) (rs : List Int) : Prop where
  at_ : H a = some (.tup (rs.map V.int))
  ok : Rnds rs
  le : ∀ r ∈ rs, r ≤ 31
  ln : rs.length ≤ 12
theorem RndsAt.same {H H' : Hp} {a : Addr} {rs : List Int} (h : RndsAt H a rs) (s : Same H H') : RndsAt H' a rs := ⟨s _ _ h.at_, h.ok, h.le, h.ln⟩
theorem RndsAt.but {H H' : Hp} {a t : Addr} {rs : List Int} {l : List V} (h : RndsAt H a rs) (s : But t H H') (ht : H t = some (.lst l)) : RndsAt H' a rs := ⟨s _ _ h.at_ (ne_of h.at_ ht (by intro z; cases z)), h.ok, h.le, h.ln⟩
theorem RndsAt.thing {H : Hp} {a : Addr} {rs : List Int} (h : RndsAt H a rs) : Thing2 K H (.ref a) := by
  refine ⟨⟨_, .tup h.at_⟩, fun b xs e hb => ?_⟩
  cases e
  rw [h.at_] at hb
  cases hb
  refine ⟨by have := h.ln; simp; omega, fun y hy => ?_⟩
  obtain ⟨i, _, rfl⟩ := List.mem_map.mp hy
  exact ⟨_, .int i⟩
theorem RndsAt.is {H : Hp} {a : Addr} {rs : List Int} (h : RndsAt H a rs) : isRoundsV H (.ref a) = true := by
  have h1 := h.ok.len
  have h2 := h.ln
  have h3 : rs.all (fun y => isNumV (V.int y) 1 (V.int 31)) = true := by
    rw [List.all_eq_true]
    intro y hy
    simp [isNumV, h.ok.pos y hy, h.le y hy]
  simp only [isRoundsV, h.at_, List.length_map, List.all_map, Function.comp_def, h3, Bool.and_true, Bool.and_eq_true, decide_eq_true_eq]
  omega
theorem sum_le31 : ∀ {rs : List Int}, (∀ r ∈ rs, r ≤ 31) → rs.sum ≤ 31 * rs.length
  | [], _ => by simp
  | r :: rs, h => by
    have h1 := h r List.mem_cons_self
    have h2 := sum_le31 (rs := rs) fun x hx => h x (List.mem_cons_of_mem _ hx)
    simp only [List.sum_cons, List.length_cons]
    push_cast
    omega
theorem RndsAt.sum_le {H : Hp} {a : Addr} {rs : List Int} (h : RndsAt H a rs) : rs.sum ≤ 372 := by
  have := sum_le31 h.le
  have := h.ln
  omega
abbrev nm_look_night : List Str := ["night"]
abbrev pm_look_night : List Str := ["night"]
abbrev lv_look_night : Nat := 2
theorem sc_look_night : FnScope nm_look_night pm_look_night (defScope s_look_night) := ⟨rfl, rfl, rfl, by decide +kernel, rfl, by decide +kernel, by decide +kernel⟩
def sp_look_night (K : PySem.W.Frag) (mg : Str → Option Value) : Sp := fun vs H Q E => ∃ (x : V) (n : String), vs = [x] ∧ Thing K H x n ∧ (isNumV x 0 (.int 1000000000) = true → Q .non H) ∧ (isNumV x 0 (.int 1000000000) = false → E (.ref (cls mg "BadNight")) none H)
theorem f_look_night (T : Txt K mg) : Fk P w K mg base (L2.CX P w) lv_look_night "look_night" pm_look_night (sp_look_night K mg) := by
  obtain ⟨f, fd, F, g, b⟩ := T.d_look_night.ex
  refine ⟨f, fd, g, F.kp, b, F.okX sc_look_night (fun vs H Q E h => ?_) (fun cdv A outer s H vs Q E hr h => ?_)⟩
  · obtain ⟨x, n, rfl, _⟩ := h; rfl
  · obtain ⟨x, n, rfl, hx, q1, q2⟩ := h
    refine ⟨_, (pss_one (ps_if (pt_not (pt_val (pe_fn (f_is_number T) (hr.mono (by decide)) (by rfl) pass0 (pa_cons (pv 0) (pa_cons pe_int (pa_cons (pe_globI T.c_MOST_NIGHT (by rfl)) pa_nil)))))) (pss_one (ps_raise rfl (takes_of rfl rfl rfl rfl) (pmk_own PySem.F.excBase_RuntimeError T.x_BadNight.xP T.x_BadNight.gP T.x_BadNight.kP T.x_BadNight.rs rfl))) pss_nil)), ?_⟩
    walk_at "rd"
    refine ⟨x, n, 0, _, rfl, hx, fun _ _ => ⟨_, rfl⟩, ?_⟩
    walk_at "rd"
    cases e : isNumV x 0 (.int 1000000000) with
    | true => exact q1 e
    | false => exact q2 e
abbrev nm_number_of : List Str := ["rounds", "night", "whole", "found", "left", "long"]
abbrev pm_number_of : List Str := ["rounds", "night"]
abbrev lv_number_of : Nat := 1
theorem sc_number_of : FnScope nm_number_of pm_number_of (defScope s_number_of) := ⟨rfl, rfl, rfl, by decide +kernel, rfl, by decide +kernel, by decide +kernel⟩
def sp_number_of : Sp := fun vs H Q _ => ∃ (a : Addr) (rs : List Int) (n : Int), vs = [.ref a, .int n] ∧ RndsAt H a rs ∧ Q (.int (numOf rs n)) H
def iv_number_of (a : Addr) (rs : List Int) (n : Int) (H : Hp) (i : Nat) (σ : L2.St) (H' : Hp) : Prop := H' = H ∧ ∃ (fo le : Int) (v : Option V), σ = [some (.ref a), some (.int n), some (.int rs.sum), some (.int fo), some (.int le), v] ∧ walkR (rs.drop i) le fo = numOf rs n
theorem f_number_of (T : Txt K mg) : Fk P w K mg base CX0 lv_number_of "number_of" pm_number_of sp_number_of := by
  obtain ⟨f, fd, F, g, b⟩ := T.d_number_of.ex
  refine ⟨f, fd, g, F.kp, b, F.ok sc_number_of (fun vs H Q E h => ?_) (fun cdv A outer s H vs Q E hr h => ?_)⟩
  · obtain ⟨a, rs, n, rfl, _⟩ := h; rfl
  · obtain ⟨a, rs, n, rfl, ha, q⟩ := h
    refine ⟨_, (pss_cons (ps_set (i := 2) sc_number_of.nd rfl (.inl rfl) (pe_callB (cr_sumT rfl) (by rfl) T.b_sum (by decide +kernel) (pa_cons (pv 0) pa_nil)))
      (pss_cons (ps_set (i := 3) sc_number_of.nd rfl (.inl rfl) (pe_op op_mul (pe_op op_fdiv (pv 1) (pv 2)) (pe_callB call_len_seq (by rfl) T.b_len PySem.boot_len (pa_cons (pv 0) pa_nil))))
      (pss_cons (ps_set (i := 4) sc_number_of.nd rfl (.inl rfl) (pe_op op_mod (pv 1) (pv 2)))
      (pss_cons (ps_for PassesOwn.never rfl (pi_tup (pv 0)) (pg_name (i := 5) sc_number_of.nd rfl (Or.inl rfl)) (pss_cons (ps_if (pt_cmpR op_lt (pv 4) (pv 5) (nomark _)) (pss_one (ps_ret (pv 3))) pss_nil)
      (pss_cons (ps_set (i := 4) sc_number_of.nd rfl (.inl rfl) (pe_op op_sub (pv 4) (pv 5)))
      (pss_one (ps_set (i := 3) sc_number_of.nd rfl (.inl rfl) (pe_op op_add (pv 3) pe_int))))))
      (pss_one (ps_ret (pv 3))))))), ?_⟩
    walk_at "rd"
    have hs := ha.ok.sum
    have hs' := ha.sum_le
    have hl := ha.ln
    refine ⟨a, rs, rfl, sqT ha.at_, ?_⟩
    walk_at "rd"
    refine ⟨⟨hs, by omega⟩, rs.map V.int, .inr (sqT ha.at_), .inr ⟨by simp; omega, by simp; omega⟩, hs, ?_⟩
    refine ⟨_, rfl, a, rfl, ⟨_, sqT ha.at_⟩, for_tup (K := K) (a := a) (xs := rs.map V.int) (iv_number_of a rs n H)
      ⟨rfl, _, _, _, rfl, by simp [numOf]⟩ (fun i σ H' _ p => by rw [p.1]; exact sqT ha.at_) ?_ ?_⟩
    · rintro i x σ H' hi ⟨rfl, fo, le, v, rfl, hw⟩
      rw [List.getElem?_map] at hi
      cases e : rs[i]? with
      | none => rw [e] at hi; cases hi
      | some r =>
        rw [e] at hi
        cases hi
        have hlt := lt_of_get e
        have ed : rs.drop i = r :: rs.drop (i + 1) := by
          rw [List.drop_eq_getElem_cons hlt]
          rw [(List.getElem?_eq_some_iff.mp e).2]
        rw [ed] at hw
        unfold walkR at hw
        walk_at "rd"
        by_cases c : le < r
        · rw [if_pos c] at hw
          rw [if_pos c, hw]
          exact q
        · rw [if_neg c] at hw
          rw [if_neg c]
          exact ⟨rfl, _, _, _, rfl, hw⟩
    · rintro σ H' ⟨rfl, fo, le, v, rfl, hw⟩
      rw [List.length_map, List.drop_length] at hw
      walk_at "rd"
      unfold walkR at hw
      rw [hw]
      exact q
abbrev nm_first_of : List Str := ["rounds", "number"]
abbrev pm_first_of : List Str := ["rounds", "number"]
abbrev lv_first_of : Nat := 1
theorem sc_first_of : FnScope nm_first_of pm_first_of (defScope s_first_of) := ⟨rfl, rfl, rfl, by decide +kernel, rfl, by decide +kernel, by decide +kernel⟩
def sp_first_of : Sp := fun vs H Q _ => ∃ (a : Addr) (rs : List Int) (n : Int), vs = [.ref a, .int n] ∧ RndsAt H a rs ∧ ∀ H', Same H H' → Q (.int (firstOf rs n)) H'
theorem cut_pre (rs : List Int) (j : Nat) : cutV (rs.map V.int) none (some (j : Int)) = (rs.take j).map V.int := by
  unfold cutV
  rw [HT.sIx_none, HT.sIx_nat, List.drop_zero, Nat.sub_zero, List.length_map, ← List.map_take]
  congr 1
  by_cases h : j ≤ rs.length
  · rw [Nat.min_eq_left h]
  · rw [Nat.min_eq_right (by omega), List.take_length, List.take_of_length_le (by omega)]
theorem f_first_of (T : Txt K mg) : Fk P w K mg base CX0 lv_first_of "first_of" pm_first_of sp_first_of := by
  obtain ⟨f, fd, F, g, b⟩ := T.d_first_of.ex
  refine ⟨f, fd, g, F.kp, b, F.ok sc_first_of (fun vs H Q E h => ?_) (fun cdv A outer s H vs Q E hr h => ?_)⟩
  · obtain ⟨a, rs, n, rfl, _⟩ := h; rfl
  · obtain ⟨a, rs, n, rfl, ha, q⟩ := h
    refine ⟨_, (pss_one (ps_ret (pe_op op_add (pe_op op_mul (pe_op op_fdiv (pv 1) (pe_callB call_len_seq (by rfl) T.b_len PySem.boot_len (pa_cons (pv 0) pa_nil))) (pe_callB (cr_sumT rfl) (by rfl) T.b_sum (by decide +kernel) (pa_cons (pv 0) pa_nil))) (pe_callB (cr_sumT rfl) (by rfl) T.b_sum (by decide +kernel) (pa_cons (pe_slice sl_tup (pv 0) po_none (po_some (pe_op op_mod (pv 1) (pe_callB call_len_seq (by rfl) T.b_len PySem.boot_len (pa_cons (pv 0) pa_nil))))) pa_nil))))), ?_⟩
    walk_at "rd"
    have hs := ha.ok.sum
    have hs' := ha.sum_le
    have hl := ha.ln
    have hl0 := ha.ok.len
    have hM : (rs.map V.int).length = rs.length := List.length_map _
    refine ⟨rs.map V.int, .inr (sqT ha.at_), ?_, a, rs, rfl, sqT ha.at_, ?_⟩
    · rw [hM]; exact ⟨by omega, by omega⟩
    rw [hM]
    refine ⟨_, rfl, .inr ⟨by omega, by omega⟩, rs.map V.int, .inr (sqT ha.at_), by rw [hM]; omega, ?_⟩
    rw [hM]
    obtain ⟨j, hj, e, _⟩ := emod_nat (k := n) hl0
    have e1 : cutV (rs.map V.int) none (some (n % ↑rs.length)) = (rs.take j).map V.int := by rw [e]; exact cut_pre rs j
    refine ⟨a, rs.map V.int, rfl, sqT ha.at_, ?_, fun p hp => ?_⟩
    · rw [e, HT.sIx_nat, hM]
      omega
    rw [e1]
    refine ⟨p, rs.take j, rfl, sqT upd_same, _, rfl, ?_⟩
    have := q _ (same_upd (o := .tup ((rs.take j).map V.int)) hp)
    unfold firstOf pre at this
    rw [e] at this
    simpa using this
theorem isNum_ok {n : Int} (h0 : 0 ≤ n) (h1 : n ≤ 1000000000) : isNumV (.int n) 0 (.int 1000000000) = true := by simp [isNumV, h0, h1]
end
end Nk
namespace Nk
open PySem L2
section
variable {P : Program} {w : World} {K : PySem.W.Frag} {mg : Str → Option Value} {base : Heap}
/-- the script at a and the town at t: c draws so far -/
structure Tn (K : PySem.W.Frag) (H : Hp) (a t : Addr) (ns : List Int) (c : Nat) : Prop where
  scr : SqN K H a t (ns.map V.int)
  len : ns.length ≤ 63
  town : ∃ ls : List Int, ls.length = ns.length ∧ H t = some (.lst (V.int c :: ls.map V.int))
theorem Tn.same {H H' : Hp} {a t : Addr} {ns : List Int} {c : Nat} (h : Tn K H a t ns c) (s : Same H H') : Tn K H' a t ns c := by
  obtain ⟨ls, e, ht⟩ := h.town
  exact ⟨h.scr.same s, h.len, ls, e, s _ _ ht⟩
theorem Tn.lst {H : Hp} {a t : Addr} {ns : List Int} {c : Nat} (h : Tn K H a t ns c) : ∃ l, H t = some (.lst l) := by
  obtain ⟨ls, e, ht⟩ := h.town
  exact ⟨_, ht⟩
theorem Tn.some_ {H : Hp} {a t : Addr} {ns : List Int} {c : Nat} (h : Tn K H a t ns c) {p : Addr} (hp : H p = none) : p ≠ t := by
  obtain ⟨l, hl⟩ := h.lst
  exact (ne_of_none hl hp).symm
/-- a tuple stays while the town changes -/
theorem Tn.tup {H H' : Hp} {a t p : Addr} {ns : List Int} {c : Nat} {xs : List V} (h : Tn K H a t ns c) (b : But t H H') (hp : H p = some (.tup xs)) : H' p = some (.tup xs) := by
  obtain ⟨l, hl⟩ := h.lst
  exact b _ _ hp (ne_of hp hl (by intro z; cases z))
/-- an object that was made since may change -/
theorem Tn.app {H H' : Hp} {a t p : Addr} {ns : List Int} {c c0 : Nat} {o : HO} (h : Tn K H' a t ns c) (h0 : Tn K H a t ns c0) (hp : H p = none) (hpt : p ≠ t) : Tn K (upd H' p o) a t ns c := by
  obtain ⟨ls, e1, e2⟩ := h.town
  exact ⟨h.scr.app h0.scr hp, h.len, ls, e1, by rw [upd_ne hpt.symm]; exact e2⟩
theorem But.app {H H' : Hp} {t p : Addr} {o : HO} (b : But t H H') (hp : H p = none) : But t H (L2.upd H' p o) := fun z x hz hzt => by
  rw [upd_ne (ne_of_none hz hp)]
  exact b _ _ hz hzt
theorem But.free {H H' : Hp} {t p : Addr} (b : But t H H') (hp : H' p = none) (hpt : p ≠ t) : H p = none := by
  cases e : H p with
  | none => rfl
  | some o => rw [b _ _ e hpt] at hp; cases hp
abbrev nm__law_town : List Str := ["script"]
abbrev pm__law_town : List Str := ["script"]
abbrev lv__law_town : Nat := 1
theorem sc__law_town : FnScope nm__law_town pm__law_town (defScope s__law_town) := ⟨rfl, rfl, rfl, by decide +kernel, rfl, by decide +kernel, by decide +kernel⟩
def sp__law_town (K : PySem.W.Frag) : Sp := fun vs H Q _ => ∃ (a : Addr) (ns : List Int), vs = [.ref a] ∧ SqL K H a (ns.map V.int) ∧ ns.length ≤ 63 ∧ ∀ H' t, Same H H' → Tn K H' a t ns 0 → H t = none → Q (.ref t) H'
theorem f__law_town (T : Txt K mg) : Fk P w K mg base CX0 lv__law_town "_law_town" pm__law_town (sp__law_town K) := by
  obtain ⟨f, fd, F, g, b⟩ := T.d__law_town.ex
  refine ⟨f, fd, g, F.kp, b, F.ok sc__law_town (fun vs H Q E h => ?_) (fun cdv A outer s H vs Q E hr h => ?_)⟩
  · obtain ⟨a, ns, rfl, _⟩ := h; rfl
  · obtain ⟨a, ns, rfl, hS, hl, q⟩ := h
    refine ⟨_, (pss_one (ps_ret (pe_op op_cat (pe_lst (pa_cons pe_int pa_nil)) (pe_callTy call_list_of (by rfl) T.b_list (by decide +kernel) (pa_cons (pv 0) pa_nil))))), ?_⟩
    walk_at "rd"
    intro p hp
    have s1 : Same H (upd H p (.lst [.int 0])) := same_upd hp
    refine ⟨ns.map V.int, .inl (s1.seq hS), fun l hl2 => ?_⟩
    have npl : p ≠ l := fun e => by rw [← e, upd_same] at hl2; cases hl2
    have s2 := s1.trans (same_upd (o := .lst (ns.map V.int)) hl2)
    refine ⟨p, l, _, _, rfl, rfl, by rw [upd_ne npl]; exact upd_same, upd_same, sz (by simp; omega), fun t ht => ?_⟩
    have hH : H t = none := s2.free ht
    exact q _ t (s2.trans (same_upd ht)) ⟨(SqN.new (s2.seq hS) ht).same (same_upd ht), hl, ns, rfl, upd_same⟩ hH
abbrev nm__law_draw : List Str := ["script", "town", "many", "at", "left", "number"]
abbrev pm__law_draw : List Str := ["script", "town", "many"]
abbrev lv__law_draw : Nat := 1
theorem sc__law_draw : FnScope nm__law_draw pm__law_draw (defScope s__law_draw) := ⟨rfl, rfl, rfl, by decide +kernel, rfl, by decide +kernel, by decide +kernel⟩
def sp__law_draw (K : PySem.W.Frag) : Sp := fun vs H Q _ => ∃ (a t : Addr) (ns : List Int) (c : Nat) (many : Int), vs = [.ref a, .ref t, .int many] ∧ Tn K H a t ns c ∧ c < 1000000000 ∧ 0 < many ∧ many < 1073741824 ∧
  ∀ (d : Int) (H' : Hp), 0 ≤ d → d < many → Tn K H' a t ns (c + 1) → But t H H' → Q (.int d) H'
theorem f__law_draw (T : Txt K mg) : Fk P w K mg base CX0 lv__law_draw "_law_draw" pm__law_draw (sp__law_draw K) := by
  obtain ⟨f, fd, F, g, b⟩ := T.d__law_draw.ex
  refine ⟨f, fd, g, F.kp, b, F.ok sc__law_draw (fun vs H Q E h => ?_) (fun cdv A outer s H vs Q E hr h => ?_)⟩
  · obtain ⟨a, t, ns, c, many, rfl, _⟩ := h; rfl
  · obtain ⟨a, t, ns, c, many, rfl, hT, hc, hm0, hm1, q⟩ := h
    refine ⟨_, (pss_cons (ps_asg (pe_op op_add (pe_ix ix_list (pv 1) pe_int (fun _ _ => rfl)) pe_int) (pg_sub (pv 1) pe_int set_list))
      (pss_cons (ps_if (pt_cmpR (op_eqD hr.units) (pv 0) (pe_lst pa_nil) (nomark _)) (pss_one (ps_ret (pe_op op_mod (pe_op op_fdiv (pe_op op_mul (pe_op op_mul (pe_ix ix_list (pv 1) pe_int (fun _ _ => rfl)) (pe_ix ix_list (pv 1) pe_int (fun _ _ => rfl))) pe_int) pe_int) (pv 2)))) pss_nil)
      (pss_cons (ps_set (i := 3) sc__law_draw.nd rfl (.inl rfl) (pe_op op_mod (pe_ix ix_list (pv 1) pe_int (fun _ _ => rfl)) (pe_callB call_len_seq (by rfl) T.b_len PySem.boot_len (pa_cons (pv 0) pa_nil))))
      (pss_cons (ps_set (i := 4) sc__law_draw.nd rfl (.inl rfl) (pe_ix ix_list (pv 1) (pe_op op_add pe_int (pv 3)) (fun _ _ => rfl)))
      (pss_cons (ps_if (PW.pt (pw_and (pt_cmpR op_ge (pe_ix ix_list (pv 0) (pv 3) (fun _ _ => rfl)) (pe_op op_pow pe_int pe_int) (nomark _)) (pw_and1 (pt_cmpR op_gt (pv 4) pe_int (nomark _))))) (pss_cons (ps_asg (pe_op op_fdiv (pv 4) (pv 2)) (pg_sub (pv 1) (pe_op op_add pe_int (pv 3)) set_list))
      (pss_one (ps_ret (pe_op op_mod (pv 4) (pv 2))))) pss_nil)
      (pss_cons (ps_set (i := 5) sc__law_draw.nd rfl (.inl rfl) (pe_op op_mod (pe_op op_add (pe_ix ix_list (pv 0) (pv 3) (fun _ _ => rfl)) (pe_op op_mul pe_int (pe_ix ix_list (pv 1) pe_int (fun _ _ => rfl)))) pe_int))
      (pss_cons (ps_set (i := 5) sc__law_draw.nd rfl (.inl rfl) (pe_op op_mod (pe_op op_pow (pv 5) pe_int) pe_int))
      (pss_one (ps_ret (pe_op op_mod (pe_op op_fdiv (pe_op op_mod (pe_op op_add (pe_op op_mul (pe_op op_fdiv (pv 5) pe_int) pe_int) (pv 5)) pe_int) pe_int) (pv 2))))))))))), ?_⟩
    walk_at "rd"
    obtain ⟨ls, el, ht⟩ := hT.town
    refine ixL (j := 0) (sqL ht) rfl rfl ?_
    walk_at "rd"
    refine setL (j := 0) ht rfl (by simp) ?_
    intro p hp
    have hpt : t ≠ p := fun e => by rw [← e, upd_same] at hp; cases hp
    have b1 : But t H (upd (upd H t (.lst ((V.int c :: ls.map V.int).set 0 (V.int (↑c + 1))))) p (.lst [])) := But.thenS But.upd (same_upd hp)
    have hN1 := hT.scr.but b1
    have hS1 := hN1.l
    have ht1 : (upd (upd H t (.lst ((V.int c :: ls.map V.int).set 0 (V.int (↑c + 1))))) p (.lst [])) t = some (.lst (V.int ((c + 1 : Nat) : Int) :: ls.map V.int)) := by
      rw [upd_ne hpt, upd_same]; rfl
    have hp1 : (upd (upd H t (.lst ((V.int c :: ls.map V.int).set 0 (V.int (↑c + 1))))) p (.lst [])) p = some (.lst (([] : List Int).map V.int)) := upd_same
    revert b1 hN1 hS1 ht1 hp1
    generalize upd (upd H t (.lst ((V.int c :: ls.map V.int).set 0 (V.int (↑c + 1))))) p (.lst []) = H1
    intro b1 hN1 hS1 ht1 hp1
    have T1 : Tn K H1 a t ns (c + 1) := ⟨hN1, hT.len, ls, el, ht1⟩
    have hC : ((c + 1 : Nat) : Int) < 2 ^ 62 := by omega
    refine eqD (dp_LI hS1) (dp_LI (sqL hp1)) (gd_dLI (k := 0) _) (gd_dLI (k := 0) _) (fun e => ?_) (fun e => ?_)
    · walk_at "rd"
      refine ixL (j := 0) (sqL ht1) rfl rfl ?_
      refine ixL (j := 0) (sqL ht1) rfl rfl ?_
      walk_at "rd"
      refine ⟨.inl ⟨by omega, by omega⟩, .inr ⟨by decide, by decide⟩, ⟨by decide, by decide⟩, hm0, ?_⟩
      exact q _ H1 (Int.emod_nonneg _ (by omega)) (Int.emod_lt_of_pos _ hm0) T1 b1
    · have hne : ns ≠ [] := fun z => e (by rw [z])
      have hn0 : 0 < ns.length := List.length_pos_iff.mpr hne
      walk_at "rd"
      refine ixL (j := 0) (sqL ht1) rfl rfl ?_
      refine ⟨ns.map V.int, .inl hS1, ?_⟩
      rw [List.length_map]
      walk_at "rd"
      obtain ⟨j, hj, ej, _⟩ := emod_nat (k := ((c + 1 : Nat) : Int)) hn0
      rw [ej]
      refine ⟨by omega, ?_⟩
      have hlj : (V.int ((c + 1 : Nat) : Int) :: ls.map V.int)[j + 1]? = some (V.int (ls[j]'(by omega))) := by
        rw [List.getElem?_cons_succ, List.getElem?_map, List.getElem?_eq_getElem (by omega)]; rfl
      have hnj : (ns.map V.int)[j]? = some (V.int (ns[j]'hj)) := by
        rw [List.getElem?_map, List.getElem?_eq_getElem hj]; rfl
      refine ixL (j := j + 1) (sqL ht1) (by push_cast; omega) hlj ?_
      refine ixL (j := j) hS1 rfl hnj ?_
      have tail : rIxL K (.ref a) (.int (j : Int)) H1 fun x H2 => rIxL K (.ref t) (.int 0) H2 fun y H3 => ∃ x_3, y = V.int x_3 ∧ CMul 104729 x_3 ∧ ∃ i, x = V.int i ∧ 0 < (4294967291 : Int) ∧ CPow ((i + 104729 * x_3) % 4294967291) 5 ∧ 0 < (4294967279 : Int) ∧
          CDiv (((i + 104729 * x_3) % 4294967291) ^ Int.toNat 5 % 4294967279) 64 ∧ CMul (((i + 104729 * x_3) % 4294967291) ^ Int.toNat 5 % 4294967279 / 64) 69621 ∧ 0 < (4294967231 : Int) ∧
          CDiv ((((i + 104729 * x_3) % 4294967291) ^ Int.toNat 5 % 4294967279 / 64 * 69621 + ((i + 104729 * x_3) % 4294967291) ^ Int.toNat 5 % 4294967279) % 4294967231) 8 ∧ 0 < many ∧
          Q (.int ((((i + 104729 * x_3) % 4294967291) ^ Int.toNat 5 % 4294967279 / 64 * 69621 + ((i + 104729 * x_3) % 4294967291) ^ Int.toNat 5 % 4294967279) % 4294967231 / 8 % many)) H3 := by
        refine ixL (j := j) hS1 rfl hnj ?_
        refine ixL (j := 0) (sqL ht1) rfl rfl ?_
        have hp := Int.emod_nonneg (ns[j] + 104729 * ((c + 1 : Nat) : Int)) (show (4294967291 : Int) ≠ 0 by decide)
        have hq := Int.emod_lt_of_pos (ns[j] + 104729 * ((c + 1 : Nat) : Int)) (show (0 : Int) < 4294967291 by decide)
        refine ⟨_, rfl, .inl ⟨by decide, by decide⟩, _, rfl, by decide, ⟨by decide, by decide, by omega⟩, by decide, ⟨by decide, by decide⟩, .inr ⟨by decide, by decide⟩, by decide, ⟨by decide, by decide⟩, hm0, ?_⟩
        exact q _ H1 (Int.emod_nonneg _ (by omega)) (Int.emod_lt_of_pos _ hm0) T1 b1
      refine ⟨⟨by decide, by decide, by decide⟩, _, rfl, ?_⟩
      refine ite2 (fun c1 => ?_) (fun c1 => ?_)
      · refine ⟨_, rfl, ite2 (fun c2 => ?_) (fun c2 => ?_)⟩
        · refine ⟨_, rfl, ⟨hm0, hm1⟩, ?_⟩
          refine setL (j := j + 1) ht1 (by push_cast; omega) (by simp; omega) ?_
          refine ⟨_, rfl, hm0, ?_⟩
          refine q _ _ (Int.emod_nonneg _ (by omega)) (Int.emod_lt_of_pos _ hm0) ⟨hN1.but But.upd, hT.len, ls.set j (ls[j] / many), by rw [List.length_set]; exact el, ?_⟩ (b1.trans But.upd)
          rw [upd_same, List.set_cons_succ, List.map_set]
        · exact tail
      · exact tail
abbrev nm__law_pick : List Str := ["script", "town", "some"]
abbrev pm__law_pick : List Str := ["script", "town", "some"]
abbrev lv__law_pick : Nat := 2
theorem sc__law_pick : FnScope nm__law_pick pm__law_pick (defScope s__law_pick) := ⟨rfl, rfl, rfl, by decide +kernel, rfl, by decide +kernel, by decide +kernel⟩
def sp__law_pick (K : PySem.W.Frag) : Sp := fun vs H Q _ => ∃ (a t l : Addr) (ns : List Int) (c : Nat) (xs : List V), vs = [.ref a, .ref t, .ref l] ∧ Tn K H a t ns c ∧ c < 1000000000 ∧ H l = some (.lst xs) ∧ l ≠ t ∧ 0 < xs.length ∧ xs.length ≤ 100000 ∧
  ∀ (v : V) (H' : Hp), v ∈ xs → Tn K H' a t ns (c + 1) → But t H H' → Q v H'
theorem f__law_pick (T : Txt K mg) : Fk P w K mg base CX0 lv__law_pick "_law_pick" pm__law_pick (sp__law_pick K) := by
  obtain ⟨f, fd, F, g, b⟩ := T.d__law_pick.ex
  refine ⟨f, fd, g, F.kp, b, F.ok sc__law_pick (fun vs H Q E h => ?_) (fun cdv A outer s H vs Q E hr h => ?_)⟩
  · obtain ⟨a, t, l, ns, c, xs, rfl, _⟩ := h; rfl
  · obtain ⟨a, t, l, ns, c, xs, rfl, hT, hc, hl, hlt, h0, h1, q⟩ := h
    refine ⟨_, (pss_one (ps_ret (pe_ix ix_list (pv 2) (pe_fn (f__law_draw T) (hr.mono (by decide)) (by rfl) pass0 (pa_cons (pv 0) (pa_cons (pv 1) (pa_cons (pe_callB call_len_seq (by rfl) T.b_len PySem.boot_len (pa_cons (pv 2) pa_nil)) pa_nil)))) (fun _ _ => rfl)))), ?_⟩
    walk_at "rd"
    refine ⟨xs, .inl (sqL hl), a, t, ns, c, xs.length, rfl, hT, hc, by omega, by omega, fun d H' d0 d1 T' b' => ?_⟩
    have hd : d.toNat < xs.length := by omega
    exact ixL (j := d.toNat) (sqL (b' _ _ hl hlt)) (by omega) (List.getElem?_eq_getElem hd) (q _ H' (List.getElem_mem hd) T' b')
theorem pickI {H : Hp} {a t : Addr} {ns : List Int} {c : Nat} {Q : VK} {E : XK} (ks : List Int) (hT : Tn K H a t ns c) (hc : c < 1000000000) (q : ∀ k ∈ ks, ∀ H', Tn K H' a t ns (c + 1) → But t H H' → Q (.int k) H') (h0 : 0 < ks.length := by decide) (h1 : ks.length ≤ 100000 := by decide) :
    ∀ p, H p = none → sp__law_pick K [.ref a, .ref t, .ref p] (L2.upd H p (.lst (ks.map V.int))) Q E := by
  intro p hp
  refine ⟨a, t, p, ns, c, ks.map V.int, rfl, hT.same (same_upd hp), hc, upd_same, hT.some_ hp, by simpa using h0, by simpa using h1, fun v H' hv T' b' => ?_⟩
  obtain ⟨k, hk, rfl⟩ := List.mem_map.mp hv
  exact q k hk H' T' (Same.thenB (same_upd hp) b')
theorem pickV {H : Hp} {a t : Addr} {ns : List Int} {c : Nat} {Q : VK} {E : XK} {xs : List V} (hT : Tn K H a t ns c) (hc : c < 1000000000) (h0 : 0 < xs.length) (h1 : xs.length ≤ 100000) (q : ∀ v ∈ xs, ∀ H', Tn K H' a t ns (c + 1) → But t H H' → Q v H') :
    ∀ p, H p = none → sp__law_pick K [.ref a, .ref t, .ref p] (L2.upd H p (.lst xs)) Q E := by
  intro p hp
  exact ⟨a, t, p, ns, c, xs, rfl, hT.same (same_upd hp), hc, upd_same, hT.some_ hp, h0, h1, fun v H' hv T' b' => q v hv H' T' (Same.thenB (same_upd hp) b')⟩
abbrev nm__law_rounds : List Str := ["script", "town", "long", "top", "many", "k"]
abbrev pm__law_rounds : List Str := ["script", "town", "long", "top"]
abbrev lv__law_rounds : Nat := 2
theorem sc__law_rounds : FnScope nm__law_rounds pm__law_rounds (defScope s__law_rounds) := ⟨rfl, rfl, rfl, by decide +kernel, rfl, by decide +kernel, by decide +kernel⟩
def sp__law_rounds (K : PySem.W.Frag) : Sp := fun vs H Q _ => ∃ (a t : Addr) (ns : List Int) (c : Nat) (long top : Int), vs = [.ref a, .ref t, .int long, .int top] ∧ Tn K H a t ns c ∧ c + 1 + long.toNat < 1000000000 ∧ 0 < long ∧ long ≤ 1000 ∧ 0 < top ∧ top < 1073741824 ∧
  ∀ (rs : List Int) (p : Addr) (c' : Nat) (H' : Hp), 1 ≤ rs.length → (rs.length : Int) ≤ long → (∀ r ∈ rs, 1 ≤ r ∧ r ≤ top) → H p = none → H' p = some (.tup (rs.map V.int)) → c' ≤ c + 1 + long.toNat → Tn K H' a t ns c' → But t H H' → Q (.ref p) H'
def iv__law_rounds (K : PySem.W.Frag) (H1 : Hp) (a t D : Addr) (ns : List Int) (c : Nat) (top : Int) (i : Nat) (H : Hp) : Prop :=
  ∃ rs : List Int, rs.length = i ∧ (∀ r ∈ rs, 1 ≤ r ∧ r ≤ top) ∧ H D = some (.lst (rs.map V.int)) ∧ Tn K H a t ns (c + 1 + i) ∧ But t H1 H
theorem f__law_rounds (T : Txt K mg) : Fk P w K mg base CX0 lv__law_rounds "_law_rounds" pm__law_rounds (sp__law_rounds K) := by
  obtain ⟨f, fd, F, g, b⟩ := T.d__law_rounds.ex
  refine ⟨f, fd, g, F.kp, b, F.ok sc__law_rounds (fun vs H Q E h => ?_) (fun cdv A outer s H vs Q E hr h => ?_)⟩
  · obtain ⟨a, t, ns, c, long, top, rfl, _⟩ := h; rfl
  · obtain ⟨a, t, ns, c, long, top, rfl, hT, hc, hl0, hl1, ht0, ht1, q⟩ := h
    refine ⟨_, (pss_cons (ps_set (i := 4) sc__law_rounds.nd rfl (.inl rfl) (pe_op op_add pe_int (pe_fn (f__law_draw T) (hr.mono (by decide)) (by rfl) pass0 (pa_cons (pv 0) (pa_cons (pv 1) (pa_cons (pv 2) pa_nil))))))
      (pss_one (ps_ret (pe_callTy call_tuple_of (by rfl) T.b_tuple (by decide +kernel) (pa_cons (pe_lc (own := [("k", 5)]) (g := gName 5) (tt := tYes) (by rfl) sc__law_rounds.nd (pi_range1 (by rfl) T.b_range (pa_cons (pv 4) pa_nil)) (blkOk_by (own := [("k", 5)]) (N := nm__law_rounds) (sc := defScope s__law_rounds) (by decide +kernel)) (fun _ _ _ _ _ => (pg_name (i := 5) sc__law_rounds.nd rfl (Or.inl rfl))) (fun _ _ _ _ _ => pts_nil) (fun _ _ _ _ _ => (pe_op op_add pe_int (pe_fn (f__law_draw T) (hr.mono (by decide)) (by rfl) pass0 (pa_cons (pv 0) (pa_cons (pv 1) (pa_cons (pv 3) pa_nil))))))) pa_nil))))), ?_⟩
    walk_at "rd"
    refine ⟨a, t, ns, c, long, rfl, hT, by omega, hl0, by omega, fun d H1 d0 d1 T1 b1 => ?_⟩
    walk_at "rd"
    refine ⟨_, rfl, 1 + d, rfl, by omega, by omega, fun D hD => ?_⟩
    have hDt : D ≠ t := T1.some_ hD
    refine lc_range (iv__law_rounds K H1 a t D ns c top) ⟨[], rfl, fun r hr => (nomatch hr), upd_same, T1.same (same_upd hD), .of (same_upd hD)⟩ (fun i H2 hi iv => ?_) (fun H2 iv => ?_)
    · obtain ⟨rs, el, hrs, hD2, T2, b2⟩ := iv
      walk_at "rd"
      refine ⟨a, t, ns, c + 1 + i, top, rfl, T2, by omega, ht0, ht1, fun e H3 e0 e1 T3 b3 => ?_⟩
      walk_at "rd"
      refine ⟨rs.map V.int, b3 _ _ hD2 hDt, szl (by simp; omega), rs ++ [1 + e], by simp [el], ?_, ?_, ?_, ?_⟩
      · intro r hr
        rcases List.mem_append.mp hr with hr | hr
        · exact hrs r hr
        · have := List.mem_singleton.mp hr; omega
      · rw [upd_same, List.map_append]; rfl
      · have : Tn K (upd H3 D (.lst (rs.map V.int ++ [.int (1 + e)]))) a t ns (c + 1 + i + 1) := by
          obtain ⟨ls, e1, e2⟩ := T3.town
          refine ⟨?_, T3.len, ls, e1, by rw [upd_ne hDt.symm]; exact e2⟩
          have h2 := hT.scr.but (b1.trans (b2.trans b3))
          have hDD : But D H3 (upd H3 D (.lst (rs.map V.int ++ [.int (1 + e)]))) := But.upd
          have h0 := hT.scr.but b1
          rcases h0 with ⟨h | ⟨o, h⟩, n⟩ | h
          · have hne : a ≠ D := ne_of_none h hD
            rcases h2 with ⟨h' | ⟨o', h'⟩, n'⟩ | h'
            · exact .inl ⟨.inl (hDD _ _ h' hne), n'⟩
            · exact .inl ⟨.inr ⟨o', hDD _ _ h' hne⟩, n'⟩
            · exact .inr h'
          · have hne : a ≠ D := ne_of_none h hD
            rcases h2 with ⟨h' | ⟨o', h'⟩, n'⟩ | h'
            · exact .inl ⟨.inl (hDD _ _ h' hne), n'⟩
            · exact .inl ⟨.inr ⟨o', hDD _ _ h' hne⟩, n'⟩
            · exact .inr h'
          · exact .inr h
        exact this
      · intro x o hx hxt
        rw [upd_ne (ne_of_none hx hD)]
        exact b3 _ _ (b2 _ _ hx hxt) hxt
    · obtain ⟨rs, el, hrs, hD2, T2, b2⟩ := iv
      refine ⟨D, rfl, rs.map V.int, .inl ⟨sqL hD2, fun l hl => ?_⟩⟩
      have hlt : l ≠ t := T2.some_ hl
      refine q rs l _ _ (by omega) (by omega) hrs ?_ upd_same (by omega) (T2.same (same_upd hl)) ((b1.trans b2).thenS (same_upd hl))
      cases e : H l with
      | none => rfl
      | some o => rw [b2 _ _ (b1 _ _ e hlt) hlt] at hl; cases hl
abbrev nm__law_whole : List Str := ["thing"]
abbrev pm__law_whole : List Str := ["thing"]
abbrev lv__law_whole : Nat := 1
theorem sc__law_whole : FnScope nm__law_whole pm__law_whole (defScope s__law_whole) := ⟨rfl, rfl, rfl, by decide +kernel, rfl, by decide +kernel, by decide +kernel⟩
def sp__law_whole (K : PySem.W.Frag) : Sp := fun vs H Q _ => ∃ (x : V) (n : String), vs = [x] ∧ Thing K H x n ∧ Q (.bl (isWholeV x)) H
theorem f__law_whole (T : Txt K mg) : Fk P w K mg base CX0 lv__law_whole "_law_whole" pm__law_whole (sp__law_whole K) := by
  obtain ⟨f, fd, F, g, b⟩ := T.d__law_whole.ex
  refine ⟨f, fd, g, F.kp, b, F.ok sc__law_whole (fun vs H Q E h => ?_) (fun cdv A outer s H vs Q E hr h => ?_)⟩
  · obtain ⟨x, n, rfl, _⟩ := h; rfl
  · obtain ⟨x, n, rfl, hx, q⟩ := h
    refine ⟨_, (pss_one (ps_ret (pe_and (pe_callB call_isi (by rfl) T.b_isinstance (by decide +kernel) (pa_cons (pv 0) (pa_cons (pe_bltn (v := .ty "int") (by rfl) T.b_int (by decide +kernel) rfl) pa_nil))) (pe_one (pe_not (pe_callB call_isi (by rfl) T.b_isinstance (by decide +kernel) (pa_cons (pv 0) (pa_cons (pe_bltn (v := .ty "bool") (by rfl) T.b_bool (by decide +kernel) rfl) pa_nil)))))))), ?_⟩
    walk_at "rd"
    refine isi_thing hx (by decide) ?_
    cases hx with
    | int i =>
      refine ⟨true, rfl, ?_⟩
      walk_at "rd"
      exact isi_thing (.int i) (by decide) ⟨false, rfl, q⟩
    | bl i =>
      refine ⟨true, rfl, ?_⟩
      walk_at "rd"
      exact isi_thing (.bl i) (by decide) ⟨true, rfl, q⟩
    | _ => exact ⟨false, rfl, q⟩
end
end Nk
namespace Nk
open PySem L2
section
variable {P : Program} {w : World} {K : PySem.W.Frag} {mg : Str → Option Value} {base : Heap}
end
end Nk
namespace Nk
open PySem L2
section
variable {P : Program} {w : World} {K : PySem.W.Frag} {mg : Str → Option Value} {base : Heap}
end
end Nk
namespace Nk
open PySem L2
section
variable {P : Program} {w : World} {K : PySem.W.Frag} {mg : Str → Option Value} {base : Heap}
/-- things, down to a depth -/
def DT (K : PySem.W.Frag) (H : Hp) : Nat → V → Prop
  | 0, x => ∃ n, Thing K H x n
  | k + 1, x => (∃ n, Thing K H x n) ∧ ∀ a xs, x = .ref a → (H a = some (.tup xs) ∨ H a = some (.lst xs)) → xs.length ≤ 100000 ∧ ∀ y ∈ xs, DT K H k y
theorem DT.th {H : Hp} {k : Nat} {x : V} (h : DT K H k x) : ∃ n, Thing K H x n := by
  cases k with
  | zero => exact h
  | succ k => exact h.1
theorem DT.same {H H' : Hp} (s : Same H H') : ∀ {k : Nat} {x : V}, DT K H k x → DT K H' k x
  | 0, _, ⟨n, h⟩ => ⟨n, Thing.same s h⟩
  | k + 1, x, ⟨⟨n, h⟩, hi⟩ => by
    refine ⟨⟨n, Thing.same s h⟩, fun a xs e ha => ?_⟩
    have back : H a = some (.tup xs) ∨ H a = some (.lst xs) := by
      subst e
      cases h with
      | lst h => have := s _ _ h; rw [this] at ha; rcases ha with z | z <;> cases z; exact .inr h
      | tup h => have := s _ _ h; rw [this] at ha; rcases ha with z | z <;> cases z; exact .inl h
      | dic h => have := s _ _ h; rw [this] at ha; rcases ha with z | z <;> cases z
    obtain ⟨h1, h2⟩ := hi a xs e back
    exact ⟨h1, fun y hy => DT.same s (h2 y hy)⟩
theorem DT.t2 {H : Hp} {k : Nat} {x : V} (h : DT K H (k + 1) x) : Thing2 K H x :=
  ⟨h.1, fun a xs e ha => by
    obtain ⟨h1, h2⟩ := h.2 a xs e (.inl ha)
    exact ⟨h1, fun y hy => (h2 y hy).th⟩⟩
def isRuleV (H : Hp) (x : V) : Bool := match x with
  | .ref a => match H a with
    | some (.tup [r, m]) => isRoundsV H r && isNumV m 1 (.int 20)
    | _ => false
  | _ => false
def isRulesV (H : Hp) (x : V) : Bool := match x with
  | .ref a => match H a with
    | some (.tup xs) => decide (1 ≤ xs.length) && decide (xs.length ≤ 5) && xs.all (isRuleV H)
    | _ => false
  | _ => false
theorem isRoundsV_same {H H' : Hp} (s : Same H H') {x : V} {n : String} (h : Thing K H x n) : isRoundsV H' x = isRoundsV H x := by
  cases h with
  | lst h => simp only [isRoundsV, h, s _ _ h]
  | tup h => simp only [isRoundsV, h, s _ _ h]
  | dic h => simp only [isRoundsV, h, s _ _ h]
  | _ => rfl
theorem isRuleV_same {H H' : Hp} (s : Same H H') {x : V} (h : DT K H 1 x) : isRuleV H' x = isRuleV H x := by
  obtain ⟨⟨n, h⟩, hi⟩ := h
  cases h with
  | lst h => simp only [isRuleV, h, s _ _ h]
  | @tup a xs h =>
    obtain ⟨_, h2⟩ := hi a xs rfl (.inl h)
    simp only [isRuleV, h, s _ _ h]
    match xs, h2 with
    | [r, m], h2 =>
      obtain ⟨n', hr⟩ := (h2 r List.mem_cons_self).th
      simp only [isRoundsV_same s hr]
    | [], _ => rfl
    | [_], _ => rfl
    | _ :: _ :: _ :: _, _ => rfl
  | dic h => simp only [isRuleV, h, s _ _ h]
  | _ => rfl
/-- a rule that stands -/
def RuleAt (H : Hp) (x : V) (ru : List Int × Int) : Prop := ∃ (b r : Addr), x = .ref b ∧ H b = some (.tup [.ref r, .int ru.2]) ∧ RndsAt H r ru.1 ∧ 1 ≤ ru.2 ∧ ru.2 ≤ 20
theorem RuleAt.same {H H' : Hp} {x : V} {ru : List Int × Int} (h : RuleAt H x ru) (s : Same H H') : RuleAt H' x ru := by
  obtain ⟨b, r, e, hb, hr, h1, h2⟩ := h
  exact ⟨b, r, e, s _ _ hb, hr.same s, h1, h2⟩
theorem RuleAt.but {H H' : Hp} {t : Addr} {l : List V} {x : V} {ru : List Int × Int} (h : RuleAt H x ru) (s : But t H H') (ht : H t = some (.lst l)) : RuleAt H' x ru := by
  obtain ⟨b, r, e, hb, hr, h1, h2⟩ := h
  exact ⟨b, r, e, s _ _ hb (ne_of hb ht (by intro z; cases z)), hr.but s ht, h1, h2⟩
/-- rules that stand -/
structure RulesAt (H : Hp) (a : Addr) (rus : List (List Int × Int)) : Prop where
  ex : ∃ xs : List V, H a = some (.tup xs) ∧ xs.length = rus.length ∧ ∀ (i : Nat) x, xs[i]? = some x → ∃ ru, rus[i]? = some ru ∧ RuleAt H x ru
  l1 : 1 ≤ rus.length
  l5 : rus.length ≤ 5
theorem RulesAt.same {H H' : Hp} {a : Addr} {rus : List (List Int × Int)} (h : RulesAt H a rus) (s : Same H H') : RulesAt H' a rus := by
  obtain ⟨xs, ha, hl, hi⟩ := h.ex
  refine ⟨⟨xs, s _ _ ha, hl, fun i x hx => ?_⟩, h.l1, h.l5⟩
  obtain ⟨ru, e, r⟩ := hi i x hx
  exact ⟨ru, e, r.same s⟩
theorem RulesAt.but {H H' : Hp} {a t : Addr} {l : List V} {rus : List (List Int × Int)} (h : RulesAt H a rus) (s : But t H H') (ht : H t = some (.lst l)) : RulesAt H' a rus := by
  obtain ⟨xs, ha, hl, hi⟩ := h.ex
  refine ⟨⟨xs, s _ _ ha (ne_of ha ht (by intro z; cases z)), hl, fun i x hx => ?_⟩, h.l1, h.l5⟩
  obtain ⟨ru, e, r⟩ := hi i x hx
  exact ⟨ru, e, r.but s ht⟩
theorem RulesAt.rnds {H : Hp} {a : Addr} {rus : List (List Int × Int)} (h : RulesAt H a rus) : ∀ ru ∈ rus, Rnds ru.1 ∧ 1 ≤ ru.2 ∧ ru.2 ≤ 20 ∧ ru.1.length ≤ 12 ∧ ∀ r ∈ ru.1, r ≤ 31 := by
  intro ru hru
  obtain ⟨xs, ha, hl, hi⟩ := h.ex
  obtain ⟨i, hi1, e⟩ := List.mem_iff_getElem.mp hru
  have hx : xs[i]? = some (xs[i]'(by omega)) := List.getElem?_eq_getElem (by omega)
  obtain ⟨ru', e', b, r, _, _, R, h1, h2⟩ := hi i _ hx
  rw [List.getElem?_eq_getElem hi1, e] at e'
  cases e'
  exact ⟨R.ok, h1, h2, R.ln, R.le⟩
theorem RuleAt.thing {H : Hp} {x : V} {ru : List Int × Int} (h : RuleAt H x ru) : DT K H 2 x := by
  obtain ⟨b, r, rfl, hb, hr, h1, h2⟩ := h
  refine ⟨⟨_, .tup hb⟩, fun a xs e ha => ?_⟩
  cases e
  rw [hb] at ha
  rcases ha with z | z <;> cases z
  refine ⟨by simp, fun y hy => ?_⟩
  simp only [List.mem_cons, List.not_mem_nil, or_false] at hy
  rcases hy with rfl | rfl
  · refine ⟨⟨_, .tup hr.at_⟩, fun a xs e ha => ?_⟩
    cases e
    rw [hr.at_] at ha
    rcases ha with z | z <;> cases z
    refine ⟨by have := hr.ln; simp; omega, fun y hy => ?_⟩
    obtain ⟨i, _, rfl⟩ := List.mem_map.mp hy
    exact ⟨_, .int i⟩
  · exact ⟨⟨_, .int _⟩, fun a xs e ha => by cases e⟩
theorem RuleAt.is {H : Hp} {x : V} {ru : List Int × Int} (h : RuleAt H x ru) : isRuleV H x = true := by
  obtain ⟨b, r, rfl, hb, hr, h1, h2⟩ := h
  simp only [isRuleV, hb, hr.is, isNumV, h1, h2, decide_true, Bool.and_true]
theorem RulesAt.thing {H : Hp} {a : Addr} {rus : List (List Int × Int)} (h : RulesAt H a rus) : DT K H 3 (.ref a) := by
  obtain ⟨xs, ha, hl, hi⟩ := h.ex
  refine ⟨⟨_, .tup ha⟩, fun b ys e hb => ?_⟩
  cases e
  rw [ha] at hb
  rcases hb with z | z <;> cases z
  refine ⟨by have := h.l5; omega, fun y hy => ?_⟩
  obtain ⟨i, h1, e⟩ := List.mem_iff_getElem.mp hy
  obtain ⟨ru, _, r⟩ := hi i y (by rw [List.getElem?_eq_getElem h1, e])
  exact r.thing
theorem RulesAt.is {H : Hp} {a : Addr} {rus : List (List Int × Int)} (h : RulesAt H a rus) : isRulesV H (.ref a) = true := by
  obtain ⟨xs, ha, hl, hi⟩ := h.ex
  have h1 := h.l1
  have h5 := h.l5
  have h3 : xs.all (isRuleV H) = true := by
    rw [List.all_eq_true]
    intro y hy
    obtain ⟨i, h1, e⟩ := List.mem_iff_getElem.mp hy
    obtain ⟨ru, _, r⟩ := hi i y (by rw [List.getElem?_eq_getElem h1, e])
    exact r.is
  simp only [isRulesV, ha, h3, Bool.and_true, Bool.and_eq_true, decide_eq_true_eq]
  omega
abbrev nm_is_rule : List Str := ["thing"]
abbrev pm_is_rule : List Str := ["thing"]
abbrev lv_is_rule : Nat := 3
theorem sc_is_rule : FnScope nm_is_rule pm_is_rule (defScope s_is_rule) := ⟨rfl, rfl, rfl, by decide +kernel, rfl, by decide +kernel, by decide +kernel⟩
def sp_is_rule (K : PySem.W.Frag) : Sp := fun vs H Q _ => ∃ (x : V), vs = [x] ∧ DT K H 2 x ∧ ∀ H', Same H H' → Q (.bl (isRuleV H x)) H'
theorem f_is_rule (T : Txt K mg) : Fk P w K mg base CX0 lv_is_rule "is_rule" pm_is_rule (sp_is_rule K) := by
  obtain ⟨f, fd, F, g, b⟩ := T.d_is_rule.ex
  refine ⟨f, fd, g, F.kp, b, F.ok sc_is_rule (fun vs H Q E h => ?_) (fun cdv A outer s H vs Q E hr h => ?_)⟩
  · obtain ⟨x, rfl, _⟩ := h; rfl
  · obtain ⟨x, rfl, ⟨⟨n, hx⟩, hin⟩, q⟩ := h
    refine ⟨_, (pss_one (ps_ret (pe_and (pe_callB call_isi (by rfl) T.b_isinstance (by decide +kernel) (pa_cons (pv 0) (pa_cons (pe_bltn (v := .ty "tuple") (by rfl) T.b_tuple (by decide +kernel) rfl) pa_nil))) (pe_and (pe_cmpR op_eq (pe_callB call_len_seq (by rfl) T.b_len PySem.boot_len (pa_cons (pv 0) pa_nil)) pe_int (nomark _)) (pe_and (pe_fn (f_is_rounds T) (hr.mono (by decide)) (by rfl) pass0 (pa_cons (pe_ix ix_tup (pv 0) pe_int (fun _ _ => rfl)) pa_nil)) (pe_one (pe_fn (f_is_number T) (hr.mono (by decide)) (by rfl) pass0 (pa_cons (pe_ix ix_tup (pv 0) pe_int (fun _ _ => rfl)) (pa_cons pe_int (pa_cons pe_int pa_nil)))))))))), ?_⟩
    walk_at "rs"
    refine isi_thing hx (by decide) ?_
    cases hx with
    | @tup a xs ha =>
      obtain ⟨hz, hth⟩ := hin a xs rfl (.inl ha)
      refine ⟨true, rfl, ?_⟩
      walk_at "rs"
      refine ⟨xs, .inr (sqT ha), ?_⟩
      have qf := q H (Same.refl H)
      by_cases c : xs.length = 2
      · match xs, c with
        | [r, m], _ =>
          obtain ⟨mt, hm⟩ := (hth m (by simp)).th
          walk_at "rs"
          rw [if_pos (by decide)]
          refine ixT (j := 0) (sqT ha) rfl rfl ?_
          refine ⟨r, rfl, (hth r (by simp)).t2, fun H1 s1 => ?_⟩
          refine ⟨_, rfl, ?_⟩
          have q1 := q H1 s1
          simp only [isRuleV, ha] at q1
          cases e : isRoundsV H r with
          | false => rw [e] at q1; simpa using q1
          | true =>
            rw [e] at q1
            walk_at "rs"
            refine ixT (j := 1) (sqT (s1 _ _ ha)) rfl rfl ?_
            exact ⟨m, mt, 1, .int 20, rfl, Thing.same s1 hm, fun _ _ => ⟨_, rfl⟩, by simpa using q1⟩
      · rw [if_neg (by omega)]
        have e : isRuleV H (.ref a) = false := by
          simp only [isRuleV, ha]
          match xs, c with
          | [], _ => rfl
          | [_], _ => rfl
          | [_, _], c => exact absurd rfl c
          | _ :: _ :: _ :: _, _ => rfl
        rw [e] at qf
        exact qf
    | _ => exact ⟨false, by rfl, by simpa [isRuleV, *] using q H (Same.refl H)⟩
abbrev nm_look_rules : List Str := ["rules", "one"]
abbrev pm_look_rules : List Str := ["rules"]
abbrev lv_look_rules : Nat := 4
theorem sc_look_rules : FnScope nm_look_rules pm_look_rules (defScope s_look_rules) := ⟨rfl, rfl, rfl, by decide +kernel, rfl, by decide +kernel, by decide +kernel⟩
def sp_look_rules (K : PySem.W.Frag) (mg : Str → Option Value) : Sp := fun vs H Q E => ∃ (x : V), vs = [x] ∧ DT K H 3 x ∧ (isRulesV H x = true → ∀ H', Same H H' → Q .non H') ∧ (isRulesV H x = false → ∀ H', Same H H' → E (.ref (cls mg "BadRules")) none H')
theorem f_look_rules (T : Txt K mg) : Fk P w K mg base (L2.CX P w) lv_look_rules "look_rules" pm_look_rules (sp_look_rules K mg) := by
  obtain ⟨f, fd, F, g, b⟩ := T.d_look_rules.ex
  refine ⟨f, fd, g, F.kp, b, F.okX sc_look_rules (fun vs H Q E h => ?_) (fun cdv A outer s H vs Q E hr h => ?_)⟩
  · obtain ⟨x, rfl, _⟩ := h; rfl
  · obtain ⟨x, rfl, ⟨⟨n, hx⟩, hin⟩, q1, q2⟩ := h
    refine ⟨_, (pss_one (ps_if (PW.pt (pw_or (pt_not (pt_val (pe_callB call_isi (by rfl) T.b_isinstance (by decide +kernel) (pa_cons (pv 0) (pa_cons (pe_bltn (v := .ty "tuple") (by rfl) T.b_tuple (by decide +kernel) rfl) pa_nil))))) (pw_or (pt_not (pt_chain op_le op_le pe_int (pe_callB call_len_seq (by rfl) T.b_len PySem.boot_len (pa_cons (pv 0) pa_nil)) pe_int)) (pw_or1 (pt_not (pt_val (pe_callB (cr_all rfl) (by rfl) T.b_all (by decide +kernel) (pa_cons (pe_lc (own := [("one", 1)]) (g := gName 1) (tt := tYes) (by rfl) sc_look_rules.nd (pi_tup (pv 0)) (blkOk_by (own := [("one", 1)]) (N := nm_look_rules) (sc := defScope s_look_rules) (by decide +kernel)) (fun _ _ _ _ _ => (pg_name (i := 1) sc_look_rules.nd rfl (Or.inl rfl))) (fun _ _ _ _ _ => pts_nil) (fun _ _ _ _ _ => (pe_fn (f_is_rule T) (hr.mono (by decide)) (by rfl) pass0 (pa_cons (pv 1) pa_nil)))) pa_nil)))))))) (pss_one (ps_raise rfl (takes_of rfl rfl rfl rfl) (pmk_own PySem.F.excBase_RuntimeError T.x_BadRules.xP T.x_BadRules.gP T.x_BadRules.kP T.x_BadRules.rs rfl))) pss_nil)), ?_⟩
    walk_at "rs"
    refine isi_thing hx (by decide) ?_
    cases hx with
    | @tup a xs ha =>
      obtain ⟨hz, hth⟩ := hin a xs rfl (.inl ha)
      refine ⟨true, rfl, ?_⟩
      walk_at "rs"
      refine ⟨xs, .inr (sqT ha), ?_⟩
      have e0 : isRulesV H (.ref a) = (decide (1 ≤ xs.length) && decide (xs.length ≤ 5) && xs.all (isRuleV H)) := by
        simp only [isRulesV, ha]
      rw [e0] at q1 q2
      by_cases c1 : 1 ≤ xs.length
      · rw [if_pos (show (1 : Int) ≤ (xs.length : Int) by omega)]
        by_cases c2 : xs.length ≤ 5
        · rw [if_neg (show ¬ ¬ (xs.length : Int) ≤ 5 by omega)]
          refine ⟨_, rfl, a, rfl, ⟨xs, sqT ha⟩, fun D hD => ?_⟩
          refine lcT hD (sqT ha) (fun i => (xs.take i).map fun y => .bl (isRuleV H y)) rfl (fun i y H2 hy p => ?_) (fun H2 s2 hD2 => ?_)
          · have hy1 := hth y (mem_of_get hy)
            have hy2 := hy1.same p.same
            walk_at "rs"
            refine ⟨y, rfl, hy2, fun H3 s3 => ?_⟩
            rw [isRuleV_same (K := K) p.same ⟨hy1.1, fun a' xs' e' h' => by obtain ⟨w1, w2⟩ := hy1.2 a' xs' e' h'; exact ⟨w1, fun z hz => (w2 z hz).th⟩⟩]
            exact p.push hD (by simp; omega) s3 (map_take_next _ hy)
          · refine ⟨D, xs.map (isRuleV H), rfl, ?_, ?_⟩
            · rw [List.take_length] at hD2
              rw [List.map_map]
              exact sqL hD2
            · walk_at "rs"
              simp only [List.all_map, Function.comp_def, id_eq]
              cases e : xs.all (fun y => isRuleV H y) with
              | true => exact q1 (by simp [c1, c2, e]) H2 s2
              | false => exact q2 (by simp [c1, c2, e]) H2 s2
        · rw [if_pos (show ¬ (xs.length : Int) ≤ 5 by omega)]
          exact q2 (by simp [c2]) H (Same.refl H)
      · rw [if_neg (show ¬ (1 : Int) ≤ (xs.length : Int) by omega)]
        exact q2 (by simp [c1]) H (Same.refl H)
    | _ => exact ⟨false, by rfl, by simpa using q2 (by simp [isRulesV, *]) H (Same.refl H)⟩
end
end Nk
namespace Nk
open PySem L2
section
variable {P : Program} {w : World} {K : PySem.W.Frag} {mg : Str → Option Value} {base : Heap}
def riseV : List V → Bool
  | x :: y :: r => (match x, y with | .int i, .int j => decide (i < j) | _, _ => false) && riseV (y :: r)
  | _ => true
def isNightsV (H : Hp) (x : V) : Bool := match x with
  | .ref a => match H a with
    | some (.lst xs) => decide (xs.length ≤ 100) && xs.all (fun y => isNumV y 0 (.int 1000000000)) && riseV xs
    | _ => false
  | _ => false
theorem cut_from (xs : List V) (j : Nat) : cutV xs (some (j : Int)) none = xs.drop j := by
  unfold cutV
  rw [HT.sIx_none, HT.sIx_nat]
  by_cases h : j ≤ xs.length
  · rw [Nat.min_eq_left h, List.take_of_length_le (by simp)]
  · rw [Nat.min_eq_right (by omega), List.drop_of_length_le (Nat.le_refl _), List.drop_of_length_le (by omega)]
    simp
theorem allNum {xs : List V} (h : xs.all (fun y => isNumV y 0 (.int 1000000000)) = true) : ∃ ns : List Int, xs = ns.map V.int ∧ ∀ n ∈ ns, 0 ≤ n ∧ n ≤ 1000000000 := by
  induction xs with
  | nil => exact ⟨[], rfl, by simp⟩
  | cons x xs ih =>
    simp only [List.all_cons, Bool.and_eq_true] at h
    obtain ⟨ns, e, hn⟩ := ih h.2
    cases x with
    | int i =>
      refine ⟨i :: ns, by rw [e]; rfl, fun n hn' => ?_⟩
      rcases List.mem_cons.mp hn' with rfl | hn'
      · simpa [isNumV] using h.1
      · exact hn n hn'
    | _ => simp [isNumV] at h
theorem riseV_ints : ∀ ns : List Int, riseV (ns.map V.int) = true ↔ ns.Pairwise (· < ·)
  | [] => by simp [riseV]
  | [n] => by simp [riseV]
  | n :: m :: r => by
    have ih := riseV_ints (m :: r)
    simp only [List.map_cons] at ih ⊢
    simp only [riseV, Bool.and_eq_true, decide_eq_true_eq, ih]
    constructor
    · rintro ⟨h1, h2⟩
      refine List.pairwise_cons.mpr ⟨fun x hx => ?_, h2⟩
      rcases List.mem_cons.mp hx with rfl | hx
      · exact h1
      · have := (List.pairwise_cons.mp h2).1 x hx
        omega
    · intro h
      obtain ⟨h1, h2⟩ := List.pairwise_cons.mp h
      exact ⟨h1 m List.mem_cons_self, h2⟩
theorem rise_steps {ns : List Int} (h : ∀ (i : Nat) a b, ns[i]? = some a → ns[i + 1]? = some b → a < b) : ns.Pairwise (· < ·) := by
  induction ns with
  | nil => exact .nil
  | cons n ns ih =>
    have ih' := ih fun i a b h1 h2 => h (i + 1) a b (by simpa using h1) (by simpa using h2)
    cases ns with
    | nil => exact List.pairwise_singleton _ _
    | cons m r =>
      have h0 := h 0 n m rfl rfl
      refine List.pairwise_cons.mpr ⟨fun x hx => ?_, ih'⟩
      rcases List.mem_cons.mp hx with rfl | hx
      · exact h0
      · have := (List.pairwise_cons.mp ih').1 x hx
        omega
abbrev nm_look_nights : List Str := ["nights", "one", "other"]
abbrev pm_look_nights : List Str := ["nights"]
abbrev lv_look_nights : Nat := 2
theorem sc_look_nights : FnScope nm_look_nights pm_look_nights (defScope s_look_nights) := ⟨rfl, rfl, rfl, by decide +kernel, rfl, by decide +kernel, by decide +kernel⟩
def sp_look_nights (K : PySem.W.Frag) (mg : Str → Option Value) : Sp := fun vs H Q E => ∃ (x : V), vs = [x] ∧ DT K H 1 x ∧ (isNightsV H x = true → ∀ H', Same H H' → Q .non H') ∧ (isNightsV H x = false → ∀ H', Same H H' → E (.ref (cls mg "BadNights")) none H')
def iv_look_nights (a : Addr) (ns : List Int) (H : Hp) (c : Addr) (i : Nat) (σ : L2.St) (H' : Hp) : Prop := (∃ y1 y2, σ = [some (.ref a), y1, y2]) ∧ Same H H' ∧ H' c = some (.lst ((ns.drop 1).map V.int)) ∧ ∀ (j : Nat) x y, j < i → ns[j]? = some x → ns[j + 1]? = some y → x < y
theorem f_look_nights (T : Txt K mg) : Fk P w K mg base (L2.CX P w) lv_look_nights "look_nights" pm_look_nights (sp_look_nights K mg) := by
  obtain ⟨f, fd, F, g, b⟩ := T.d_look_nights.ex
  refine ⟨f, fd, g, F.kp, b, F.okX sc_look_nights (fun vs H Q E h => ?_) (fun cdv A outer s H vs Q E hr h => ?_)⟩
  · obtain ⟨x, rfl, _⟩ := h; rfl
  · obtain ⟨x, rfl, ⟨⟨n, hx⟩, hin⟩, q1, q2⟩ := h
    refine ⟨_, (pss_cons (ps_if (PW.pt (pw_or (pt_not (pt_val (pe_callB call_isi (by rfl) T.b_isinstance (by decide +kernel) (pa_cons (pv 0) (pa_cons (pe_bltn (v := .ty "list") (by rfl) T.b_list (by decide +kernel) rfl) pa_nil))))) (pw_or1 (pt_cmpR op_gt (pe_callB call_len_seq (by rfl) T.b_len PySem.boot_len (pa_cons (pv 0) pa_nil)) (pe_globI T.c_MOST_HELD (by rfl)) (nomark _))))) (pss_one (ps_raise rfl (takes_of rfl rfl rfl rfl) (pmk_own PySem.F.excBase_RuntimeError T.x_BadNights.xP T.x_BadNights.gP T.x_BadNights.kP T.x_BadNights.rs rfl))) pss_nil)
      (pss_cons (ps_if (pt_not (pt_val (pe_callB (cr_all rfl) (by rfl) T.b_all (by decide +kernel) (pa_cons (pe_lc (own := [("one", 1)]) (g := gName 1) (tt := tYes) (by rfl) sc_look_nights.nd (pi_list (pv 0)) (blkOk_by (own := [("one", 1)]) (N := nm_look_nights) (sc := defScope s_look_nights) (by decide +kernel)) (fun _ _ _ _ _ => (pg_name (i := 1) sc_look_nights.nd rfl (Or.inl rfl))) (fun _ _ _ _ _ => pts_nil) (fun _ _ _ _ _ => (pe_fn (f_is_number T) (hr.mono (by decide)) (by rfl) pass0 (pa_cons (pv 1) (pa_cons pe_int (pa_cons (pe_globI T.c_MOST_NIGHT (by rfl)) pa_nil)))))) pa_nil)))) (pss_one (ps_raise rfl (takes_of rfl rfl rfl rfl) (pmk_own PySem.F.excBase_RuntimeError T.x_BadNights.xP T.x_BadNights.gP T.x_BadNights.kP T.x_BadNights.rs rfl))) pss_nil)
      (pss_one (ps_for (passes_of rfl) rfl (pi_zip (by rfl) T.b_zip (pa_cons (pv 0) (pa_cons (pe_slice sl_list (pv 0) (po_some pe_int) po_none) pa_nil))) (pg_tup rfl (pgs_cons (pg_name (i := 1) sc_look_nights.nd rfl (Or.inl rfl)) (pgs_cons (pg_name (i := 2) sc_look_nights.nd rfl (Or.inl rfl)) pgs_nil))) (pss_one (ps_if (pt_cmpR op_ge (pv 1) (pv 2) (nomark _)) (pss_one (ps_raise rfl (takes_of rfl rfl rfl rfl) (pmk_own PySem.F.excBase_RuntimeError T.x_BadNights.xP T.x_BadNights.gP T.x_BadNights.kP T.x_BadNights.rs rfl))) pss_nil)))))), ?_⟩
    with_reducible refine seq_k fun K_ hK_ => ?_
    walk_at "rs"
    refine isi_thing hx (by decide) ?_
    cases hx with
    | @lst a xs ha =>
      obtain ⟨hz, hth⟩ := hin a xs rfl (.inr ha)
      refine ⟨true, rfl, ?_⟩
      walk_at "rs"
      refine ⟨xs, .inl (sqL ha), ?_⟩
      have e0 : isNightsV H (.ref a) = (decide (xs.length ≤ 100) && xs.all (fun y => isNumV y 0 (.int 1000000000)) && riseV xs) := by
        simp only [isNightsV, ha]
      rw [e0] at q1 q2
      by_cases c1 : xs.length ≤ 100
      · rw [if_neg (show ¬ (100 : Int) < (xs.length : Int) by omega)]
        walk_at "rs"
        subst hK_
        first | with_reducible refine seq_k fun K_ hK_ => ?_ | skip
        walk_at "rs"
        refine ⟨_, rfl, a, rfl, ⟨xs, sqL ha⟩, fun D hD => ?_⟩
        refine lcL hD (sqL ha) (fun i => (xs.take i).map fun y => .bl (isNumV y 0 (.int 1000000000))) rfl (fun i y H2 hy p => ?_) (fun H2 s2 hD2 => ?_)
        · walk_at "rs"
          obtain ⟨m, hm⟩ := (hth y (mem_of_get hy)).th
          refine ⟨y, m, 0, .int 1000000000, rfl, Thing.same p.same hm, fun _ _ => ⟨_, rfl⟩, ?_⟩
          exact p.push hD (by simp; omega) (Same.refl _) (map_take_next _ hy)
        · refine ⟨D, xs.map fun y => isNumV y 0 (.int 1000000000), rfl, ?_, ?_⟩
          · rw [List.take_length] at hD2
            rw [List.map_map]
            exact sqL hD2
          walk_at "rs"
          simp only [List.all_map, Function.comp_def, id_eq]
          cases e : xs.all (fun y => isNumV y 0 (.int 1000000000)) with
          | false => exact q2 (by simp [e]) H2 s2
          | true =>
            obtain ⟨ns, rfl, hns⟩ := allNum e
            walk_at "rs"
            subst hK_
            first | with_reducible refine seq_k fun K_ hK_ => ?_ | skip
            walk_at "rs"
            refine ⟨_, rfl, _, rfl, 1, rfl, a, _, rfl, s2.seq (sqL ha), fun c hc => ?_⟩
            have s3 : Same H (upd H2 c (.lst (cutV (ns.map V.int) (some 1) none))) := s2.trans (same_upd hc)
            have hC : (upd H2 c (.lst (cutV (ns.map V.int) (some 1) none))) c = some (.lst ((ns.drop 1).map V.int)) := by
              rw [upd_same, show cutV (ns.map V.int) (some 1) none = (ns.map V.int).drop 1 from cut_from _ 1, List.map_drop]
            refine ⟨a, c, ns.map V.int, (ns.drop 1).map V.int, rfl, s3.seq (sqL ha), sqL hC, ?_⟩
            have hn : ns.length - 1 = min (ns.map V.int).length ((ns.drop 1).map V.int).length := by simp
            refine for_it (walk_zip hn) (iv_look_nights a ns H c) ⟨⟨none, none, rfl⟩, s3, hC, fun j _ _ hj => absurd hj (by omega)⟩ (fun i σ H5 _ p => ⟨p.2.1.seq (sqL ha), sqL p.2.2.1⟩) ?_ ?_
            · rintro i x σ H5 H6 hi ⟨⟨y1, y2, rfl⟩, s5, hc5, hr5⟩ ⟨t, u, v, rfl, ht, rfl, hu, hv⟩
              have hu : (ns.map V.int)[i]? = some u := hu
              have hv : ((ns.drop 1).map V.int)[i]? = some v := hv
              rw [List.getElem?_map] at hu hv
              rw [List.getElem?_drop, Nat.add_comm] at hv
              cases eu : ns[i]? with
              | none => rw [eu] at hu; cases hu
              | some x =>
                rw [eu] at hu
                cases hu
                cases ev : ns[i + 1]? with
                | none => rw [ev] at hv; cases hv
                | some y =>
                  rw [ev] at hv
                  cases hv
                  have s6 := s5.trans (same_upd (o := .tup [.int x, .int y]) ht)
                  refine ⟨t, [.int x, .int y], rfl, sqT upd_same, rfl, ?_⟩
                  walk_at "rs"
                  refine ite2 (fun c2 => ?_) (fun c2 => ?_)
                  · refine q2 ?_ _ s6
                    have : riseV (ns.map V.int) = false := by
                      cases e2 : riseV (ns.map V.int) with
                      | false => rfl
                      | true =>
                        have hp := (riseV_ints ns).mp e2
                        obtain ⟨h1, e1⟩ := List.getElem?_eq_some_iff.mp eu
                        obtain ⟨h2, e2⟩ := List.getElem?_eq_some_iff.mp ev
                        have := List.pairwise_iff_getElem.mp hp i (i + 1) h1 h2 (by omega)
                        omega
                    simp [this]
                  · refine ⟨⟨_, _, rfl⟩, s6, (same_upd ht) _ _ hc5, fun j a b hj h1 h2 => ?_⟩
                    by_cases ej : j = i
                    · subst ej
                      rw [eu] at h1
                      rw [ev] at h2
                      cases h1
                      cases h2
                      omega
                    · exact hr5 j a b (by omega) h1 h2
            · rintro σ H5 ⟨_, s5, _, hr5⟩
              refine q1 ?_ H5 s5
              have : riseV (ns.map V.int) = true := (riseV_ints ns).mpr (rise_steps fun i a b h1 h2 => hr5 i a b (by have := lt_of_get h2; omega) h1 h2)
              have c1' : ns.length ≤ 100 := by simpa using c1
              simp [this, e, c1']
      · rw [if_pos (show (100 : Int) < (xs.length : Int) by omega)]
        exact q2 (by simp [c1]) H (Same.refl H)
    | _ => exact ⟨false, by rfl, by simpa using q2 (by simp [isNightsV, *]) H (Same.refl H)⟩
abbrev nm_kept_by : List Str := ["rule", "nights", "found", "ahead", "night", "number"]
abbrev pm_kept_by : List Str := ["rule", "nights"]
abbrev lv_kept_by : Nat := 2
theorem sc_kept_by : FnScope nm_kept_by pm_kept_by (defScope s_kept_by) := ⟨rfl, rfl, rfl, by decide +kernel, rfl, by decide +kernel, by decide +kernel⟩
def sp_kept_by (K : PySem.W.Frag) : Sp := fun vs H Q _ => ∃ (x : V) (ru : List Int × Int) (l : Addr) (ns : List Int), vs = [x, .ref l] ∧ RuleAt H x ru ∧ SqL K H l (ns.map V.int) ∧
  ∀ p H', Same H H' → H p = none → H' p = some (.lst ((keptBy ru ns).map V.int)) → Q (.ref p) H'
def iv_kept_by (x : V) (l p : Addr) (ru : List Int × Int) (ns : List Int) (H : Hp) (i : Nat) (σ : L2.St) (H' : Hp) : Prop :=
  (∃ y4 y5, σ = [some x, some (.ref l), some (.ref p), some (match lastN ru.1 none (ns.reverse.take i) with | none => .non | some k => .int k), y4, y5]) ∧ Same H H' ∧ H' p = some (.lst ((endsR ru.1 none (ns.reverse.take i)).map V.int)) ∧ (endsR ru.1 none (ns.reverse.take i)).length < ru.2.toNat
theorem f_kept_by (T : Txt K mg) : Fk P w K mg base CX0 lv_kept_by "kept_by" pm_kept_by (sp_kept_by K) := by
  obtain ⟨f, fd, F, g, b⟩ := T.d_kept_by.ex
  refine ⟨f, fd, g, F.kp, b, F.ok sc_kept_by (fun vs H Q E h => ?_) (fun cdv A outer s H vs Q E hr h => ?_)⟩
  · obtain ⟨x, ru, l, ns, rfl, _⟩ := h; rfl
  · obtain ⟨x, ru, l, ns, rfl, hx, hl, q⟩ := h
    refine ⟨_, (pss_cons (ps_set (i := 2) sc_kept_by.nd rfl (.inl rfl) (pe_lst pa_nil))
      (pss_cons (ps_set (i := 3) sc_kept_by.nd rfl (.inl rfl) pe_non)
      (pss_cons (ps_for PassesOwn.never rfl (pi_reversed (by rfl) T.b_reversed (pa_cons (pv 1) pa_nil)) (pg_name (i := 4) sc_kept_by.nd rfl (Or.inl rfl)) (pss_cons (ps_set (i := 5) sc_kept_by.nd rfl (.inl rfl) (pe_fn (f_number_of T) (hr.mono (by decide)) (by rfl) pass0 (pa_cons (pe_ix ix_tup (pv 0) pe_int (fun _ _ => rfl)) (pa_cons (pv 4) pa_nil))))
      (pss_cons (ps_if (pt_cmpR op_ne (pv 5) (pv 3) (nomark _)) (pss_cons (ps_expr (pe_bm PySem.F.plainAttrs_list PySem.F.slot_list_append PySem.F.type_list_append mt_append (pv 2) (pa_cons (pv 4) pa_nil)))
      (pss_one (ps_set (i := 3) sc_kept_by.nd rfl (.inl rfl) (pv 5)))) pss_nil)
      (pss_one (ps_if (pt_cmpR op_eq (pe_callB call_len_seq (by rfl) T.b_len PySem.boot_len (pa_cons (pv 2) pa_nil)) (pe_ix ix_tup (pv 0) pe_int (fun _ _ => rfl)) (nomark _)) (pss_one (ps_ret (pv 2))) pss_nil)))))
      (pss_one (ps_ret (pv 2)))))), ?_⟩
    with_reducible refine seq_k fun K_ hK_ => ?_
    walk_at "rs"
    intro p hp
    walk_at "rs"
    subst hK_
    first | with_reducible refine seq_k fun K_ hK_ => ?_ | skip
    walk_at "rs"
    walk_at "rs"
    subst hK_
    first | with_reducible refine seq_k fun K_ hK_ => ?_ | skip
    walk_at "rs"
    have sP : Same H (upd H p (.lst [])) := same_upd hp
    obtain ⟨bx, rx, rfl, hbx, hrx, m1, m20⟩ := id hx
    have hM : (ns.map V.int).length = ns.length := List.length_map _
    refine ⟨_, rfl, l, ns.map V.int, rfl, sP.seq hl, for_it walk_rev (iv_kept_by (.ref bx) l p ru ns H)
      ⟨⟨none, none, by simp [lastN]⟩, sP, by rw [upd_same]; simp [endsR], by simp [endsR]; omega⟩ (fun i σ H5 _ p => p.2.1.seq hl) ?_ ?_⟩
    · rintro i v σ H5 H6 hi ⟨⟨y4, y5, rfl⟩, s5, hp5, hc5⟩ ⟨rfl, hv⟩
      rw [hM] at hi hv
      obtain ⟨n, hn, rfl⟩ : ∃ n, ns.reverse[i]? = some n ∧ v = .int n := by
        rw [List.getElem?_map] at hv
        rw [List.getElem?_reverse hi]
        cases e : ns[ns.length - 1 - i]? with
        | none => rw [e] at hv; cases hv
        | some n => rw [e] at hv; cases hv; exact ⟨n, rfl, rfl⟩
      have ht := take_next hn
      have hsn := endsR_snoc ru.1 (ns.reverse.take i) none n
      rw [← ht] at hsn
      have hln := lastN_snoc ru.1 none (ns.reverse.take i) n
      rw [← ht] at hln
      walk_at "rs"
      with_reducible refine seq_k fun K_ hK_ => ?_
      walk_at "rs"
      refine ixT (j := 0) (sqT (s5 _ _ hbx)) rfl rfl ?_
      refine ⟨rx, ru.1, n, rfl, hrx.same s5, ?_⟩
      walk_at "rs"
      subst hK_
      first | with_reducible refine seq_k fun K_ hK_ => ?_ | skip
      walk_at "rs"
      -- behind the test both ways meet
      have meet : ∀ (H7 : Hp), Same H H7 → H7 p = some (.lst ((endsR ru.1 none (ns.reverse.take (i + 1))).map V.int)) →
          K_ [some (.ref bx), some (.ref l), some (.ref p), some (.int (numOf ru.1 n)), some (.int n), some (.int (numOf ru.1 n))] H7 := by
        intro H7 s7 hp7
        walk_at "rs"
        subst hK_
        first | with_reducible refine seq_k fun K_ hK_ => ?_ | skip
        walk_at "rs"
        have hle : (endsR ru.1 none (ns.reverse.take (i + 1))).length ≤ ru.2.toNat := by
          rw [hsn, List.length_append]
          split <;> simp <;> omega
        refine ⟨_, .inl (sqL hp7), ?_⟩
        refine ixT (j := 1) (sqT (s7 _ _ hbx)) rfl rfl ?_
        walk_at "rs"
        rw [List.length_map]
        refine ite2 (fun c => ?_) (fun c => ?_)
        · refine q p H7 s7 hp ?_
          have hpre : ∃ t, endsR ru.1 none ns.reverse = endsR ru.1 none (ns.reverse.take (i + 1)) ++ t := by
            have := endsR_pre ru.1 none (ns.reverse.drop (i + 1)) (ns.reverse.take (i + 1))
            rwa [List.take_append_drop] at this
          have e := take_prefix hpre (k := ru.2.toNat) (by omega)
          unfold keptBy
          rw [← e]
          exact hp7
        · refine ⟨⟨some (.int n), some (.int (numOf ru.1 n)), ?_⟩, s7, hp7, by omega⟩
          rw [hln]
      by_cases c : lastN ru.1 none (ns.reverse.take i) = some (numOf ru.1 n)
      · rw [c]
        walk_at "rs"
        simp only [not_true_eq_false, if_false]
        rw [if_pos c, List.append_nil] at hsn
        exact meet H6 s5 (by rw [hsn]; exact hp5)
      · rw [if_neg c] at hsn
        have go : ∀ (bk ct : L2.St → Hp → Prop) (v : V), tSeq (tDrop (tBM K "list" rAppend (tVar 2) (tCons (tVar 4) tNil))) (tAsg (tVar 5) (gName 3)) { nx := K_, rt := Q, bk := bk, ct := ct }
            [some (.ref bx), some (.ref l), some (.ref p), some v, some (.int n), some (.int (numOf ru.1 n))] H6 := by
          intro bk ct v
          with_reducible refine seq_k fun K_ hK_ => ?_
          walk_at "rs"
          refine app hp5 (by simp; omega) ?_
          walk_at "rs"
          subst hK_
          first | with_reducible refine seq_k fun K_ hK_ => ?_ | skip
          walk_at "rs"
          refine meet _ (Same.app s5 hp) ?_
          rw [upd_same, hsn, List.map_append]; rfl
        cases e : lastN ru.1 none (ns.reverse.take i) with
        | none =>
          walk_at "rs"
          exact go _ _ _
        | some k =>
          walk_at "rs"
          rw [if_pos (fun z => c (by rw [e, z]))]
          exact go _ _ _
    · rintro σ H5 ⟨⟨y4, y5, rfl⟩, s5, hp5, hc5⟩
      rw [hM] at hp5 hc5
      rw [List.take_of_length_le (by simp)] at hp5 hc5
      walk_at "rs"
      subst hK_
      first | with_reducible refine seq_k fun K_ hK_ => ?_ | skip
      walk_at "rs"
      refine q p H5 s5 hp ?_
      unfold keptBy
      rw [List.take_of_length_le (by omega)]
      exact hp5
end
end Nk
namespace Nk
open PySem L2
section
variable {P : Program} {w : World} {K : PySem.W.Frag} {mg : Str → Option Value} {base : Heap}
/-- a dict whose keys are the whole numbers ks -/
structure IK (kvs : List (Key × V)) (ks : List Int) : Prop where
  keys : kvs.map (·.1) = ks.map Sum.inl
  nd : ks.Nodup
theorem IK.len {kvs : List (Key × V)} {ks : List Int} (h : IK kvs ks) : kvs.length = ks.length := by
  have := congrArg List.length h.keys
  simpa using this
theorem putK_old {kvs : List (Key × V)} {k : Key} {v : V} (h : (valV kvs k).isSome = true) : (putK kvs k v).map (·.1) = kvs.map (·.1) := by
  have ha : (kvs.any fun kv => decide (kv.1 = k)) = true := by rw [valV_any]; exact h
  unfold putK
  rw [if_pos ha, List.map_map]
  congr 1
  funext p
  simp only [Function.comp]
  split <;> rfl
theorem ik_put {kvs : List (Key × V)} {ks : List Int} (h : IK kvs ks) (n : Int) (v : V) : ∃ ks', IK (putK kvs (.inl n) v) ks' ∧ (∀ m, m ∈ ks' ↔ m ∈ ks ∨ m = n) ∧ ks'.length ≤ ks.length + 1 := by
  have memK : ∀ m : Int, (Sum.inl m : Key) ∈ kvs.map (·.1) ↔ m ∈ ks := fun m => by
    rw [h.keys, List.mem_map]
    constructor
    · rintro ⟨a, ha, e⟩
      cases e
      exact ha
    · intro hm
      exact ⟨m, hm, rfl⟩
  cases e : valV kvs (Sum.inl n : Key) with
  | some x =>
    refine ⟨ks, ⟨by rw [putK_old (by rw [e]; rfl)]; exact h.keys, h.nd⟩, fun m => ⟨.inl, fun hm => ?_⟩, by omega⟩
    rcases hm with hm | rfl
    · exact hm
    · exact (memK _).mp (valV_in e)
  | none =>
    have hn : n ∉ ks := fun z => valV_not e ((memK n).mpr z)
    refine ⟨ks ++ [n], ⟨?_, nd_snoc h.nd hn⟩, fun m => by simp, by simp⟩
    rw [putK_new _ e, List.map_append, List.map_append, h.keys]
    rfl
theorem keptBy_len {ru : List Int × Int} {ns : List Int} (h : ru.2 ≤ 20) : (keptBy ru ns).length ≤ 20 := by
  unfold keptBy
  rw [List.length_take]
  omega
abbrev nm_kept_of : List Str := ["rules", "nights", "found", "rule", "night"]
abbrev pm_kept_of : List Str := ["rules", "nights"]
abbrev lv_kept_of : Nat := 3
theorem sc_kept_of : FnScope nm_kept_of pm_kept_of (defScope s_kept_of) := ⟨rfl, rfl, rfl, by decide +kernel, rfl, by decide +kernel, by decide +kernel⟩
def sp_kept_of (K : PySem.W.Frag) : Sp := fun vs H Q _ => ∃ (a l : Addr) (rus : List (List Int × Int)) (ns : List Int), vs = [.ref a, .ref l] ∧ RulesAt H a rus ∧ SqL K H l (ns.map V.int) ∧ ns.Pairwise (· < ·) ∧
  ∀ p H', Same H H' → H p = none → H' p = some (.lst ((keptF rus ns).map V.int)) → Q (.ref p) H'
def iv_kept_of (a l d : Addr) (rus : List (List Int × Int)) (ns : List Int) (H : Hp) (i : Nat) (σ : L2.St) (H' : Hp) : Prop :=
  (∃ y3 y4, σ = [some (.ref a), some (.ref l), some (.ref d), y3, y4]) ∧ Same H H' ∧ ∃ kvs ks, H' d = some (.dK kvs) ∧ IK kvs ks ∧ ks.length ≤ 20 * i ∧ ∀ m, m ∈ ks ↔ ∃ ru ∈ rus.take i, m ∈ keptBy ru ns
def iv_kept_of2 (a l d p : Addr) (x : V) (kb : List Int) (ks0 : List Int) (H : Hp) (i : Nat) (j : Nat) (σ : L2.St) (H' : Hp) : Prop :=
  (∃ y4, σ = [some (.ref a), some (.ref l), some (.ref d), some x, y4]) ∧ Same H H' ∧ H' p = some (.lst (kb.map V.int)) ∧ ∃ kvs ks, H' d = some (.dK kvs) ∧ IK kvs ks ∧ ks.length ≤ 20 * i + j ∧ ∀ m, m ∈ ks ↔ m ∈ ks0 ∨ m ∈ kb.take j
theorem f_kept_of (T : Txt K mg) : Fk P w K mg base CX0 lv_kept_of "kept_of" pm_kept_of (sp_kept_of K) := by
  obtain ⟨f, fd, F, g, b⟩ := T.d_kept_of.ex
  refine ⟨f, fd, g, F.kp, b, F.ok sc_kept_of (fun vs H Q E h => ?_) (fun cdv A outer s H vs Q E hr h => ?_)⟩
  · obtain ⟨a, l, rus, ns, rfl, _⟩ := h; rfl
  · obtain ⟨a, l, rus, ns, rfl, hR, hl, hrise, q⟩ := h
    have hu := hu_of hr
    refine ⟨_, (pss_cons (ps_set (i := 2) sc_kept_of.nd rfl (.inl rfl) pe_dnewK)
      (pss_cons (ps_for PassesOwn.never rfl (pi_tup (pv 0)) (pg_name (i := 3) sc_kept_of.nd rfl (Or.inl rfl)) (pss_one (ps_for PassesOwn.never rfl (pi_list (pe_fn (f_kept_by T) (hr.mono (by decide)) (by rfl) pass0 (pa_cons (pv 3) (pa_cons (pv 1) pa_nil)))) (pg_name (i := 4) sc_kept_of.nd rfl (Or.inl rfl)) (pss_one (ps_dput hu (pv 2) (pv 4) pe_bl rfl)))))
      (pss_one (ps_ret (pe_callB (cr_sortedKI rfl) (by rfl) T.b_sorted (by decide +kernel) (pa_cons (pe_bm0 PySem.F.plainAttrs_dict PySem.F.slot_dict_keys PySem.F.type_dict_keys mt_keys (pv 2)) pa_nil)))))), ?_⟩
    with_reducible refine seq_k fun K_ hK_ => ?_
    walk_at "rs"
    intro d hd
    walk_at "rs"
    subst hK_
    first | with_reducible refine seq_k fun K_ hK_ => ?_ | skip
    walk_at "rs"
    have sD : Same H (upd H d (.dK [])) := same_upd hd
    obtain ⟨xs, ha, hxl, hxr⟩ := hR.ex
    have hl5 := hR.l5
    refine ⟨_, rfl, a, rfl, ⟨_, sqT (sD _ _ ha)⟩, for_tup (K := K) (a := a) (xs := xs) (iv_kept_of a l d rus ns H)
      ⟨⟨none, none, rfl⟩, sD, [], [], upd_same, ⟨rfl, List.nodup_nil⟩, by simp, fun m => by simp⟩ (fun i σ H5 _ p => sqT (p.2.1 _ _ ha)) ?_ ?_⟩
    · rintro i x σ H5 hx ⟨⟨y3, y4, rfl⟩, s5, kvs, ks, hd5, hik, hkl, hmem⟩
      obtain ⟨ru, hru, hxa⟩ := hxr i x hx
      have hi5 := lt_of_get hru
      have hru20 : ru.2 ≤ 20 := by obtain ⟨_, _, _, _, _, _, z⟩ := hxa; exact z
      walk_at "rs"
      refine ⟨_, rfl, _, rfl, x, ru, l, ns, rfl, hxa.same s5, s5.seq hl, fun p H6 s6 hp6 hP => ?_⟩
      have hpd : p ≠ d := fun e => by rw [e, hd5] at hp6; cases hp6
      have hkb := keptBy_len (ns := ns) hru20
      refine ⟨p, rfl, ⟨_, sqL hP⟩, for_list (K := K) (a := p) (xs := (keptBy ru ns).map V.int) (iv_kept_of2 a l d p x (keptBy ru ns) ks H i)
        ⟨⟨_, rfl⟩, s5.trans s6, hP, kvs, ks, s6 _ _ hd5, hik, by omega, fun m => by simp⟩ (fun j σ H7 _ p => sqL p.2.2.1) ?_ ?_⟩
      · rintro j y σ H7 hy ⟨⟨y4, rfl⟩, s7, hp7, kvs7, ks7, hd7, hik7, hkl7, hmem7⟩
        rw [List.getElem?_map] at hy
        cases e : (keptBy ru ns)[j]? with
        | none => rw [e] at hy; cases hy
        | some n =>
          rw [e] at hy
          cases hy
          have hj := lt_of_get e
          have hkl := hik7.len
          walk_at "rs"
          obtain ⟨ks8, h1, h2, h3⟩ := ik_put hik7 n (.bl true)
          refine ⟨_, DPut.k (k := Sum.inl n) hd7 (szl (by omega)), ?_⟩
          refine ⟨⟨_, rfl⟩, Same.app s7 hd, by rw [upd_ne hpd]; exact hp7, _, ks8, upd_same, h1, by omega, fun m => ?_⟩
          rw [h2, hmem7, take_next e, List.mem_append, List.mem_singleton, or_assoc]
      · rintro σ H7 ⟨⟨y4, rfl⟩, s7, hp7, kvs7, ks7, hd7, hik7, hkl7, hmem7⟩
        rw [List.length_map] at hkl7
        refine ⟨⟨_, _, rfl⟩, s7, kvs7, ks7, hd7, hik7, by omega, fun m => ?_⟩
        rw [hmem7, List.length_map, List.take_length, hmem, take_next hru]
        constructor
        · rintro (⟨r, h1, h2⟩ | h)
          · exact ⟨r, List.mem_append_left _ h1, h2⟩
          · exact ⟨ru, List.mem_append_right _ List.mem_cons_self, h⟩
        · rintro ⟨r, h1, h2⟩
          rcases List.mem_append.mp h1 with h1 | h1
          · exact .inl ⟨r, h1, h2⟩
          · rw [List.mem_singleton.mp h1] at h2
            exact .inr h2
    · rintro σ H5 ⟨⟨y3, y4, rfl⟩, s5, kvs, ks, hd5, hik, hkl, hmem⟩
      rw [hxl, List.take_length] at hmem
      walk_at "rs"
      subst hK_
      first | with_reducible refine seq_k fun K_ hK_ => ?_ | skip
      walk_at "rs"
      refine ⟨.inr (.inr (.inl ⟨rfl, .inl ⟨_, hd5⟩⟩)), ?_⟩
      refine ⟨d, kvs, rfl, rfl, hd5, fun v hv => ?_⟩
      have s6 := s5.trans (same_upd (o := KeysO v d) hv)
      refine ⟨v, d, kvs, ks, rfl, upd_same, (same_upd hv) _ _ hd5, hik.keys, fun ys p hperm hsort hp => ?_⟩
      refine q p _ (s6.trans (same_upd hp)) (s6.free hp) ?_
      rw [upd_same]
      have e : ys = keptF rus ns := rise_ext (rise_of_le hsort (hperm.nodup_iff.mpr hik.nd)) (keptF_rise hrise) fun m => by
        rw [hperm.mem_iff, hmem, mem_keptF]
      rw [e]
abbrev nm_kept : List Str := ["rules", "nights"]
abbrev pm_kept : List Str := ["rules", "nights"]
abbrev lv_kept : Nat := 5
theorem sc_kept : FnScope nm_kept pm_kept (defScope s_kept) := ⟨rfl, rfl, rfl, by decide +kernel, rfl, by decide +kernel, by decide +kernel⟩
def sp_kept (K : PySem.W.Frag) (mg : Str → Option Value) : Sp := fun vs H Q E => ∃ (x y : V), vs = [x, y] ∧ DT K H 3 x ∧ DT K H 1 y ∧
  (isRulesV H x = false → ∀ H', Same H H' → E (.ref (cls mg "BadRules")) none H') ∧
  (isRulesV H x = true → isNightsV H y = false → ∀ H', Same H H' → E (.ref (cls mg "BadNights")) none H') ∧
  (isRulesV H x = true → isNightsV H y = true → ∃ (a l : Addr) (rus : List (List Int × Int)) (ns : List Int), x = .ref a ∧ y = .ref l ∧ RulesAt H a rus ∧ SqL K H l (ns.map V.int) ∧ ns.Pairwise (· < ·) ∧
    ∀ p H', Same H H' → H p = none → H' p = some (.lst ((keptF rus ns).map V.int)) → Q (.ref p) H')
theorem f_kept (T : Txt K mg) : Fk P w K mg base (L2.CX P w) lv_kept "kept" pm_kept (sp_kept K mg) := by
  obtain ⟨f, fd, F, g, b⟩ := T.d_kept.ex
  refine ⟨f, fd, g, F.kp, b, F.okX sc_kept (fun vs H Q E h => ?_) (fun cdv A outer s H vs Q E hr h => ?_)⟩
  · obtain ⟨x, y, rfl, _⟩ := h; rfl
  · obtain ⟨x, y, rfl, hx, hy, q1, q2, q3⟩ := h
    refine ⟨_, (pss_cons (ps_expr (pe_fn (f_look_rules T) (hr.mono (by decide)) (by rfl) (passX (takes_of rfl rfl rfl rfl)) (pa_cons (pv 0) pa_nil)))
      (pss_cons (ps_expr (pe_fn (f_look_nights T) (hr.mono (by decide)) (by rfl) (passX (takes_of rfl rfl rfl rfl)) (pa_cons (pv 1) pa_nil)))
      (pss_one (ps_ret (pe_fn (f_kept_of T) (hr.mono (by decide)) (by rfl) pass0 (pa_cons (pv 0) (pa_cons (pv 1) pa_nil))))))), ?_⟩
    walk_at "rd"
    refine ⟨x, rfl, hx, fun e H' s' => ?_, q1⟩
    walk_at "rd"
    have en : isNightsV H' y = isNightsV H y := by
      obtain ⟨n, hn⟩ := hy.th
      cases hn with
      | lst h => simp only [isNightsV, h, s' _ _ h]
      | tup h => simp only [isNightsV, h, s' _ _ h]
      | dic h => simp only [isNightsV, h, s' _ _ h]
      | _ => rfl
    refine ⟨y, rfl, hy.same s', fun e2 H2 s2 => ?_, fun e2 H2 s2 => q2 e (by rw [← en]; exact e2) H2 (s'.trans s2)⟩
    obtain ⟨a, l, rus, ns, rfl, rfl, ha, hl, hr, q⟩ := q3 e (by rw [← en]; exact e2)
    have s3 := s'.trans s2
    walk_at "rd"
    exact ⟨a, l, rus, ns, rfl, ha.same s3, s3.seq hl, hr, fun p H4 s4 hp h4 => q p H4 (s3.trans s4) (s3.free hp) h4⟩
theorem lst_thing {H : Hp} {l : Addr} {ns : List Int} (hl : H l = some (.lst (ns.map V.int))) (hz : ns.length ≤ 100000) : DT K H 1 (.ref l) := by
  refine ⟨⟨_, .lst hl⟩, fun a xs e ha => ?_⟩
  cases e
  rw [hl] at ha
  rcases ha with z | z <;> cases z
  refine ⟨by simpa using hz, fun y hy => ?_⟩
  obtain ⟨i, _, rfl⟩ := List.mem_map.mp hy
  exact ⟨_, .int i⟩
theorem nights_is {H : Hp} {l : Addr} {ns : List Int} (hl : H l = some (.lst (ns.map V.int))) (hz : ns.length ≤ 100) (hr : ns.Pairwise (· < ·)) (hb : ∀ n ∈ ns, 0 ≤ n ∧ n ≤ 1000000000) : isNightsV H (.ref l) = true := by
  have h1 : riseV (ns.map V.int) = true := (riseV_ints ns).mpr hr
  have h2 : (ns.map V.int).all (fun y => isNumV y 0 (.int 1000000000)) = true := by
    rw [List.all_eq_true]
    intro y hy
    obtain ⟨i, hi, rfl⟩ := List.mem_map.mp hy
    have := hb i hi
    simp [isNumV, this]
  simp only [isNightsV, hl, h1, h2, List.length_map, hz, decide_true, Bool.and_true]
theorem kept_good {H : Hp} {a l : Addr} {rus : List (List Int × Int)} {ns : List Int} {Q : VK} {E : XK} (R : RulesAt H a rus) (hl : H l = some (.lst (ns.map V.int))) (hz : ns.length ≤ 100) (hr : ns.Pairwise (· < ·)) (hb : ∀ n ∈ ns, 0 ≤ n ∧ n ≤ 1000000000)
    (q : ∀ p H', Same H H' → H p = none → H' p = some (.lst ((keptF rus ns).map V.int)) → Q (.ref p) H') : sp_kept K mg [.ref a, .ref l] H Q E :=
  ⟨.ref a, .ref l, rfl, R.thing, lst_thing hl (by omega), (fun e => by rw [R.is] at e; cases e), (fun _ e => by rw [nights_is hl hz hr hb] at e; cases e), fun _ _ => ⟨a, l, rus, ns, rfl, rfl, R, sqL hl, hr, q⟩⟩
end
end Nk
namespace Nk
open PySem L2
section
variable {P : Program} {w : World} {K : PySem.W.Frag} {mg : Str → Option Value} {base : Heap}
/-- values and the rules that stand there -/
def RuleVs (H : Hp) (xs : List V) (rus : List (List Int × Int)) : Prop := xs.length = rus.length ∧ ∀ (i : Nat) x, xs[i]? = some x → ∃ ru, rus[i]? = some ru ∧ RuleAt H x ru
theorem RuleVs.same {H H' : Hp} {xs : List V} {rus : List (List Int × Int)} (h : RuleVs H xs rus) (s : Same H H') : RuleVs H' xs rus :=
  ⟨h.1, fun i x hx => by obtain ⟨ru, e, r⟩ := h.2 i x hx; exact ⟨ru, e, r.same s⟩⟩
theorem RuleVs.but {H H' : Hp} {t : Addr} {l : List V} {xs : List V} {rus : List (List Int × Int)} (h : RuleVs H xs rus) (s : But t H H') (ht : H t = some (.lst l)) : RuleVs H' xs rus :=
  ⟨h.1, fun i x hx => by obtain ⟨ru, e, r⟩ := h.2 i x hx; exact ⟨ru, e, r.but s ht⟩⟩
theorem RuleVs.snoc {H : Hp} {xs : List V} {rus : List (List Int × Int)} {x : V} {ru : List Int × Int} (h : RuleVs H xs rus) (r : RuleAt H x ru) : RuleVs H (xs ++ [x]) (rus ++ [ru]) := by
  refine ⟨by simp [h.1], fun i y hy => ?_⟩
  by_cases c : i < xs.length
  · rw [List.getElem?_append_left c] at hy
    obtain ⟨ru', e, r'⟩ := h.2 i y hy
    exact ⟨ru', by rw [List.getElem?_append_left (by rw [← h.1]; exact c)]; exact e, r'⟩
  · have hi : i = xs.length := by
      have := lt_of_get hy
      simp at this
      omega
    subst hi
    have e1 : (xs ++ [x])[xs.length]? = some x := by simp
    rw [e1] at hy
    cases hy
    refine ⟨ru, ?_, r⟩
    rw [h.1]
    simp
theorem RuleVs.set {H : Hp} {xs : List V} {rus : List (List Int × Int)} {x : V} {ru : List Int × Int} (h : RuleVs H xs rus) (r : RuleAt H x ru) (j : Nat) : RuleVs H (xs.set j x) (rus.set j ru) := by
  refine ⟨by simp [h.1], fun i y hy => ?_⟩
  have hl := lt_of_get hy
  rw [List.length_set] at hl
  by_cases c : i = j
  · subst c
    rw [List.getElem?_set_self hl] at hy
    cases hy
    exact ⟨ru, List.getElem?_set_self (by rw [← h.1]; exact hl), r⟩
  · rw [List.getElem?_set_ne (fun z => c z.symm)] at hy
    obtain ⟨ru', e, r'⟩ := h.2 i y hy
    exact ⟨ru', by rw [List.getElem?_set_ne (fun z => c z.symm)]; exact e, r'⟩
theorem RuleVs.at_ {H : Hp} {a : Addr} {xs : List V} {rus : List (List Int × Int)} (h : RuleVs H xs rus) (ha : H a = some (.tup xs)) (h1 : 1 ≤ rus.length) (h5 : rus.length ≤ 5) : RulesAt H a rus := ⟨⟨xs, ha, h.1, h.2⟩, h1, h5⟩
/-- how great a rule is -/
def RuleLe (long top mm : Int) (ru : List Int × Int) : Prop := (ru.1.length : Int) ≤ long ∧ (∀ r ∈ ru.1, r ≤ top) ∧ ru.2 ≤ mm
abbrev nm__law_rules : List Str := ["script", "town", "many", "long", "top", "most_many", "count", "found", "k"]
abbrev pm__law_rules : List Str := ["script", "town", "many", "long", "top", "most_many"]
abbrev lv__law_rules : Nat := 3
theorem sc__law_rules : FnScope nm__law_rules pm__law_rules (defScope s__law_rules) := ⟨rfl, rfl, rfl, by decide +kernel, rfl, by decide +kernel, by decide +kernel⟩
def sp__law_rules (K : PySem.W.Frag) : Sp := fun vs H Q _ => ∃ (a t : Addr) (ns : List Int) (c : Nat) (many long top mm : Int), vs = [.ref a, .ref t, .int many, .int long, .int top, .int mm] ∧ Tn K H a t ns c ∧ c < 900000000 ∧ 0 < many ∧ many ≤ 1000 ∧ 0 < long ∧ long ≤ 12 ∧ 0 < top ∧ top ≤ 31 ∧ 0 < mm ∧ mm ≤ 20 ∧
  ∀ (rus : List (List Int × Int)) (xs : List V) (p : Addr) (c' : Nat) (H' : Hp), 1 ≤ rus.length → (rus.length : Int) ≤ many → (∀ ru ∈ rus, RuleLe long top mm ru) → H p = none → H' p = some (.tup xs) → RuleVs H' xs rus → c' ≤ c + 2 + 14 * many.toNat → Tn K H' a t ns c' → But t H H' → Q (.ref p) H'
def iv__law_rules (K : PySem.W.Frag) (a t p : Addr) (ns : List Int) (c : Nat) (many long top mm count : Int) (H : Hp) (i : Nat) (σ : L2.St) (H' : Hp) : Prop :=
  ∃ (y8 : Option V) (xs : List V) (rus : List (List Int × Int)) (c' : Nat), σ = [some (.ref a), some (.ref t), some (.int many), some (.int long), some (.int top), some (.int mm), some (.int count), some (.ref p), y8] ∧
    H' p = some (.lst xs) ∧ xs.length = i ∧ RuleVs H' xs rus ∧ (∀ ru ∈ rus, RuleLe long top mm ru) ∧ Tn K H' a t ns c' ∧ c' ≤ c + 1 + 14 * i ∧ But t H H'
theorem f__law_rules (T : Txt K mg) : Fk P w K mg base CX0 lv__law_rules "_law_rules" pm__law_rules (sp__law_rules K) := by
  obtain ⟨f, fd, F, g, b⟩ := T.d__law_rules.ex
  refine ⟨f, fd, g, F.kp, b, F.ok sc__law_rules (fun vs H Q E h => ?_) (fun cdv A outer s H vs Q E hr h => ?_)⟩
  · obtain ⟨a, t, ns, c, many, long, top, mm, rfl, _⟩ := h; rfl
  · obtain ⟨a, t, ns, c, many, long, top, mm, rfl, hT, hc, m0, m1, l0, l1, t0, t1, mm0, mm1, q⟩ := h
    refine ⟨_, (pss_cons (ps_set (i := 6) sc__law_rules.nd rfl (.inl rfl) (pe_op op_add pe_int (pe_fn (f__law_draw T) (hr.mono (by decide)) (by rfl) pass0 (pa_cons (pv 0) (pa_cons (pv 1) (pa_cons (pv 2) pa_nil))))))
      (pss_cons (ps_set (i := 7) sc__law_rules.nd rfl (.inl rfl) (pe_lst pa_nil))
      (pss_cons (ps_for PassesOwn.never rfl (pi_range1 (by rfl) T.b_range (pa_cons (pv 6) pa_nil)) (pg_name (i := 8) sc__law_rules.nd rfl (Or.inl rfl)) (pss_one (ps_expr (pe_bm PySem.F.plainAttrs_list PySem.F.slot_list_append PySem.F.type_list_append mt_append (pv 7) (pa_cons (pe_tup (pa_cons (pe_fn (f__law_rounds T) (hr.mono (by decide)) (by rfl) pass0 (pa_cons (pv 0) (pa_cons (pv 1) (pa_cons (pv 3) (pa_cons (pv 4) pa_nil))))) (pa_cons (pe_op op_add pe_int (pe_fn (f__law_draw T) (hr.mono (by decide)) (by rfl) pass0 (pa_cons (pv 0) (pa_cons (pv 1) (pa_cons (pv 5) pa_nil))))) pa_nil))) pa_nil)))))
      (pss_cons (ps_if (PW.pt (pw_and (pt_cmpR op_gt (pv 6) pe_int (nomark _)) (pw_and1 (pt_cmpR op_eq (pe_fn (f__law_draw T) (hr.mono (by decide)) (by rfl) pass0 (pa_cons (pv 0) (pa_cons (pv 1) (pa_cons pe_int pa_nil)))) pe_int (nomark _))))) (pss_one (ps_asg (pe_ix ix_list (pv 7) pe_int (fun _ _ => rfl)) (pg_sub (pv 7) (pe_op op_sub (pv 6) pe_int) set_list))) pss_nil)
      (pss_one (ps_ret (pe_callTy call_tuple_of (by rfl) T.b_tuple (by decide +kernel) (pa_cons (pv 7) pa_nil)))))))), ?_⟩
    with_reducible refine seq_k fun K_ hK_ => ?_
    walk_at "rs"
    refine ⟨a, t, ns, c, many, rfl, hT, by omega, m0, by omega, fun d H1 d0 d1 T1 b1 => ?_⟩
    walk_at "rs"
    subst hK_
    first | with_reducible refine seq_k fun K_ hK_ => ?_ | skip
    walk_at "rs"
    intro p hp
    have hpt : p ≠ t := T1.some_ hp
    have hpH : H p = none := by
      cases e : H p with
      | none => rfl
      | some o => rw [b1 _ _ e hpt] at hp; cases hp
    walk_at "rs"
    subst hK_
    first | with_reducible refine seq_k fun K_ hK_ => ?_ | skip
    walk_at "rs"
    refine ⟨_, rfl, 1 + d, rfl, by omega, by omega, for_range (lo := 0) (n := (1 + d).toNat) (iv__law_rules K a t p ns c many long top mm (1 + d) H)
      ⟨none, [], [], c + 1, rfl, upd_same, rfl, ⟨rfl, fun i x hx => by simp at hx⟩, fun ru hru => by simp at hru, T1.same (same_upd hp), by omega, b1.thenS (same_upd hp)⟩ ?_ ?_⟩
    · rintro i σ H5 hi ⟨y8, xs, rus, c5, rfl, hp5, hl5, hv5, hle5, T5, hc5, b5⟩
      walk_at "rs"
      refine ⟨tyL hp5, a, t, ns, c5, long, top, rfl, T5, by omega, l0, by omega, t0, by omega, fun rs r c6 H6 r1 r2 hrs hr5 hr6 hc6 T6 b6 => ?_⟩
      refine ⟨a, t, ns, c6, mm, rfl, T6, by omega, mm0, by omega, fun e H7 e0 e1 T7 b7 => ?_⟩
      walk_at "rs"
      intro x hx
      obtain ⟨l5, hl5'⟩ := T5.lst
      obtain ⟨l6, hl6'⟩ := T6.lst
      have R6 : RndsAt H6 r rs := ⟨hr6, ⟨List.length_pos_iff.mp (by omega), fun z hz => (hrs z hz).1⟩, fun z hz => by have := hrs z hz; omega, by omega⟩
      have R8 := (R6.but b7 hl6').same (same_upd (o := .tup [.ref r, .int (1 + e)]) hx)
      have hp7 := b7 _ _ (b6 _ _ hp5 hpt) hpt
      have hpx : p ≠ x := ne_of_none hp7 hx
      have s8 : Same H7 (upd H7 x (.tup [.ref r, .int (1 + e)])) := same_upd hx
      have hv8 : RuleVs (upd H7 x (.tup [.ref r, .int (1 + e)])) xs rus := ((hv5.but b6 hl5').but b7 hl6').same s8
      have hx8 : RuleAt (upd H7 x (.tup [.ref r, .int (1 + e)])) (.ref x) (rs, 1 + e) := ⟨x, r, rfl, upd_same, R8, by show 1 ≤ 1 + e; omega, by show 1 + e ≤ 20; omega⟩
      have b8 : But t H (upd H7 x (.tup [.ref r, .int (1 + e)])) := ((b5.trans b6).trans b7).thenS s8
      have T8 := T7.same s8
      have hp8 := s8 _ _ hp7
      revert hv8 hx8 b8 T8 hp8
      generalize upd H7 x (.tup [.ref r, .int (1 + e)]) = H8
      intro hv8 hx8 b8 T8 hp8
      refine appR hp8 (by omega) ?_
      have sN : But p H8 (upd H8 p (.lst (xs ++ [.ref x]))) := But.upd
      have hv9 : RuleVs (upd H8 p (.lst (xs ++ [.ref x]))) (xs ++ [.ref x]) (rus ++ [(rs, 1 + e)]) := (hv8.snoc hx8).but sN hp8
      refine ⟨_, xs ++ [.ref x], rus ++ [(rs, 1 + e)], c6 + 1, rfl, upd_same, by simp [hl5], hv9, ?_, ?_, by omega, ?_⟩
      · intro ru hru
        rcases List.mem_append.mp hru with h | h
        · exact hle5 ru h
        · rw [List.mem_singleton.mp h]
          exact ⟨r2, fun z hz => (hrs z hz).2, by show 1 + e ≤ mm; omega⟩
      · exact T8.app hT hpH hpt
      · intro z o hz hzt
        rw [upd_ne (ne_of_none hz hpH)]
        exact b8 _ _ hz hzt
    · rintro σ H5 ⟨y8, xs, rus, c5, rfl, hp5, hl5, hv5, hle5, T5, hc5, b5⟩
      have fin : ∀ (H6 : Hp) (xs : List V) (rus : List (List Int × Int)) (c6 : Nat), 1 ≤ rus.length → (rus.length : Int) ≤ many → H6 p = some (.lst xs) → RuleVs H6 xs rus → (∀ ru ∈ rus, RuleLe long top mm ru) → Tn K H6 a t ns c6 → c6 ≤ c + 2 + 14 * many.toNat → But t H H6 →
          tRet (tCB (fun xs H Q => ∃ p ys, xs = [V.ref p] ∧ ((SqL K H p ys ∧ ∀ l, H l = none → Q (V.ref l) (upd H l (.tup ys))) ∨ (SqT K H p ys ∧ Q (V.ref p) H))) (tCons (tVar 7) tNil)) { nx := fun x H' => Q V.non H', rt := Q }
            [some (.ref a), some (.ref t), some (.int many), some (.int long), some (.int top), some (.int mm), some (.int (1 + d)), some (.ref p), y8] H6 := by
        intro H6 xs rus c6 n1 n2 hp6 hv6 hle6 T6 hc6 b6
        walk_at "rs"
        refine ⟨xs, .inl ⟨sqL hp6, fun z hz => ?_⟩⟩
        refine q rus xs z c6 _ n1 n2 hle6 ?_ upd_same (hv6.same (same_upd hz)) hc6 (T6.same (same_upd hz)) (b6.thenS (same_upd hz))
        cases e : H z with
        | none => rfl
        | some o => rw [b6 _ _ e (T6.some_ hz)] at hz; cases hz
      have hrl : rus.length = (1 + d).toNat := by rw [← hv5.1, hl5]
      walk_at "rs"
      subst hK_
      first | with_reducible refine seq_k fun K_ hK_ => ?_ | skip
      walk_at "rs"
      refine ite2 (fun c1 => ?_) (fun c1 => ?_)
      · refine ⟨a, t, ns, c5, 6, rfl, T5, by omega, by decide, by decide, fun e H6 e0 e1 T6 b6 => ?_⟩
        obtain ⟨l5, hl5'⟩ := T5.lst
        have hp6 := b6 _ _ hp5 hpt
        have hv6 := hv5.but b6 hl5'
        walk_at "rs"
        refine ite2 (fun c2 => ?_) (fun c2 => ?_)
        · have hx0 : xs[0]? = some (xs[0]'(by omega)) := List.getElem?_eq_getElem (by omega)
          obtain ⟨ru0, hru0, hr0⟩ := hv6.2 0 _ hx0
          refine ixL (j := 0) (sqL hp6) rfl hx0 ?_
          refine setL (j := xs.length - 1) hp6 (by omega) (by omega) ?_
          have sN : But p H6 (upd H6 p (.lst (xs.set (xs.length - 1) (xs[0]'(by omega))))) := But.upd
          subst hK_
          refine fin _ (xs.set (xs.length - 1) (xs[0]'(by omega))) (rus.set (xs.length - 1) ru0) (c5 + 1) (by simp; omega) (by simp; omega) upd_same ((hv6.set hr0 _).but sN hp6) ?_ ?_ (by omega) ?_
          · intro ru hru
            rcases List.mem_or_eq_of_mem_set hru with h | h
            · exact hle5 ru h
            · rw [h]
              exact hle5 ru0 (mem_of_get hru0)
          · exact T6.app hT hpH hpt
          · intro z o hz hzt
            rw [upd_ne (ne_of_none hz hpH)]
            exact b6 _ _ (b5 _ _ hz hzt) hzt
        · subst hK_
          exact fin _ xs rus (c5 + 1) (by omega) (by omega) hp6 hv6 hle5 T6 (by omega) (b5.trans b6)
      · subst hK_
        exact fin _ xs rus c5 (by omega) (by omega) hp5 hv5 hle5 T5 (by omega) b5
end
end Nk
namespace Nk
open PySem L2
section
variable {P : Program} {w : World} {K : PySem.W.Frag} {mg : Str → Option Value} {base : Heap}
abbrev nm__law_nights : List Str := ["script", "town", "many", "step", "at", "found", "k"]
abbrev pm__law_nights : List Str := ["script", "town", "many", "step"]
abbrev lv__law_nights : Nat := 3
theorem sc__law_nights : FnScope nm__law_nights pm__law_nights (defScope s__law_nights) := ⟨rfl, rfl, rfl, by decide +kernel, rfl, by decide +kernel, by decide +kernel⟩
def sp__law_nights (K : PySem.W.Frag) : Sp := fun vs H Q _ => ∃ (a t : Addr) (ns : List Int) (c : Nat) (many step : Int), vs = [.ref a, .ref t, .int many, .int step] ∧ Tn K H a t ns c ∧ c < 900000000 ∧ 0 ≤ many ∧ many ≤ 1000 ∧ 0 < step ∧ step ≤ 1000 ∧
  ∀ (ms : List Int) (p : Addr) (c' : Nat) (H' : Hp), (ms.length : Int) ≤ many → ms.Pairwise (· < ·) → (∀ n ∈ ms, 0 ≤ n ∧ n ≤ 2 * step + many * (step + 1)) → H p = none → H' p = some (.lst (ms.map V.int)) → c' ≤ c + 2 + 2 * many.toNat → Tn K H' a t ns c' → But t H H' → Q (.ref p) H'
def iv__law_nights (K : PySem.W.Frag) (a t p : Addr) (ns : List Int) (c : Nat) (many step : Int) (H : Hp) (i : Nat) (σ : L2.St) (H' : Hp) : Prop :=
  ∃ (y6 : Option V) (at_ : Int) (ms : List Int) (c' : Nat), σ = [some (.ref a), some (.ref t), some (.int many), some (.int step), some (.int at_), some (.ref p), y6] ∧
    H' p = some (.lst (ms.map V.int)) ∧ ms.length = i ∧ ms.Pairwise (· < ·) ∧ (∀ n ∈ ms, 0 ≤ n ∧ n < at_) ∧ 0 ≤ at_ ∧ at_ ≤ 2 * step + i * (step + 1) ∧ Tn K H' a t ns c' ∧ c' ≤ c + 2 + 2 * i ∧ But t H H'
theorem f__law_nights (T : Txt K mg) : Fk P w K mg base CX0 lv__law_nights "_law_nights" pm__law_nights (sp__law_nights K) := by
  obtain ⟨f, fd, F, g, b⟩ := T.d__law_nights.ex
  refine ⟨f, fd, g, F.kp, b, F.ok sc__law_nights (fun vs H Q E h => ?_) (fun cdv A outer s H vs Q E hr h => ?_)⟩
  · obtain ⟨a, t, ns, c, many, step, rfl, _⟩ := h; rfl
  · obtain ⟨a, t, ns, c, many, step, rfl, hT, hc, m0, m1, s0, s1, q⟩ := h
    refine ⟨_, (pss_cons (ps_set (i := 4) sc__law_nights.nd rfl (.inl rfl) (pe_fn (f__law_draw T) (hr.mono (by decide)) (by rfl) pass0 (pa_cons (pv 0) (pa_cons (pv 1) (pa_cons (pe_op op_add (pe_op op_mul pe_int (pv 3)) pe_int) pa_nil)))))
      (pss_cons (ps_set (i := 5) sc__law_nights.nd rfl (.inl rfl) (pe_lst pa_nil))
      (pss_cons (ps_for PassesOwn.never rfl (pi_range1 (by rfl) T.b_range (pa_cons (pe_fn (f__law_draw T) (hr.mono (by decide)) (by rfl) pass0 (pa_cons (pv 0) (pa_cons (pv 1) (pa_cons (pe_op op_add (pv 2) pe_int) pa_nil)))) pa_nil)) (pg_name (i := 6) sc__law_nights.nd rfl (Or.inl rfl)) (pss_cons (ps_expr (pe_bm PySem.F.plainAttrs_list PySem.F.slot_list_append PySem.F.type_list_append mt_append (pv 5) (pa_cons (pv 4) pa_nil)))
      (pss_one (ps_set (i := 4) sc__law_nights.nd rfl (.inl rfl) (pe_op op_add (pe_op op_add (pv 4) pe_int) (pe_fn (f__law_draw T) (hr.mono (by decide)) (by rfl) pass0 (pa_cons (pv 0) (pa_cons (pv 1) (pa_cons (pe_fn (f__law_pick T) (hr.mono (by decide)) (by rfl) pass0 (pa_cons (pv 0) (pa_cons (pv 1) (pa_cons (pe_lst (pa_cons pe_int (pa_cons pe_int (pa_cons (pv 3) pa_nil)))) pa_nil)))) pa_nil)))))))))
      (pss_one (ps_ret (pv 5)))))), ?_⟩
    with_reducible refine seq_k fun K_ hK_ => ?_
    walk_at "rs"
    refine ⟨.inl ⟨by decide, by decide⟩, a, t, ns, c, 2 * step + 1, rfl, hT, by omega, by omega, by omega, fun d H1 d0 d1 T1 b1 => ?_⟩
    walk_at "rs"
    subst hK_
    first | with_reducible refine seq_k fun K_ hK_ => ?_ | skip
    walk_at "rs"
    intro p hp
    have hpt : p ≠ t := T1.some_ hp
    have hpH := b1.free hp hpt
    walk_at "rs"
    subst hK_
    first | with_reducible refine seq_k fun K_ hK_ => ?_ | skip
    walk_at "rs"
    have T2 := T1.same (same_upd (o := .lst []) hp)
    refine ⟨_, rfl, _, rfl, _, rfl, _, _, rfl, rfl, a, t, ns, c + 1, many + 1, rfl, T2, by omega, by omega, by omega, fun e H2 e0 e1 T3 b2 => ?_⟩
    have hp2 := b2 _ _ (upd_same (H := H1) (a := p) (o := .lst [])) hpt
    have b3 : But t H H2 := (b1.thenS (same_upd hp)).trans b2
    refine ⟨e, rfl, by omega, by omega, for_range (lo := 0) (n := e.toNat) (iv__law_nights K a t p ns c many step H)
      ⟨none, d, [], c + 2, rfl, hp2, rfl, .nil, fun n hn => by simp at hn, d0, by simp; omega, T3, by omega, b3⟩ ?_ ?_⟩
    · rintro i σ H5 hi ⟨y6, at_, ms, c5, rfl, hp5, hl5, hr5, hm5, ha0, ha1, T5, hc5, b5⟩
      walk_at "rs"
      with_reducible refine seq_k fun K_ hK_ => ?_
      walk_at "rs"
      refine app hp5 (by simp; omega) ?_
      have T6 : Tn K (upd H5 p (.lst (ms.map V.int ++ [.int at_]))) a t ns c5 := T5.app hT hpH hpt
      have b6 : But t H (upd H5 p (.lst (ms.map V.int ++ [.int at_]))) := b5.app hpH
      have hp6 : (upd H5 p (.lst (ms.map V.int ++ [.int at_]))) p = some (.lst ((ms ++ [at_]).map V.int)) := by rw [upd_same, List.map_append]; rfl
      revert T6 b6 hp6
      generalize upd H5 p (.lst (ms.map V.int ++ [.int at_])) = H6
      intro T6 b6 hp6
      walk_at "rs"
      subst hK_
      first | with_reducible refine seq_k fun K_ hK_ => ?_ | skip
      walk_at "rs"
      intro z hz
      have hzt := T6.some_ hz
      refine ⟨a, t, z, ns, c5, _, rfl, T6.same (same_upd hz), by omega, upd_same, hzt, by simp, by simp, fun v H7 hv T7 b7 => ?_⟩
      obtain ⟨x, rfl, hx0, hx1⟩ : ∃ x, v = .int x ∧ 0 < x ∧ x ≤ step + 1 := by
        simp only [List.mem_cons, List.not_mem_nil, or_false] at hv
        rcases hv with rfl | rfl | rfl
        · exact ⟨_, rfl, by decide, by omega⟩
        · exact ⟨_, rfl, by decide, by omega⟩
        · exact ⟨_, rfl, by omega, by omega⟩
      refine ⟨a, t, ns, _, x, rfl, T7, by omega, hx0, by omega, fun e2 H8 f0 f1 T8 b8 => ?_⟩
      walk_at "rs"
      have hp8 := b8 _ _ (b7 _ _ ((same_upd hz) _ _ hp6) hpt) hpt
      refine ⟨_, at_ + 1 + e2, ms ++ [at_], c5 + 1 + 1, rfl, hp8, by simp [hl5], ?_, ?_, by omega, ?_, T8, by omega, ((b6.thenS (same_upd hz)).trans b7).trans b8⟩
      · refine List.pairwise_append.mpr ⟨hr5, List.pairwise_singleton _ _, fun x hx y hy => ?_⟩
        rw [List.mem_singleton.mp hy]
        exact (hm5 x hx).2
      · intro n hn
        rcases List.mem_append.mp hn with h | h
        · have := hm5 n h
          omega
        · rw [List.mem_singleton.mp h]
          omega
      · rw [show ((i + 1 : Nat) : Int) = (i : Int) + 1 from rfl, Int.add_mul]
        omega
    · rintro σ H5 ⟨y6, at_, ms, c5, rfl, hp5, hl5, hr5, hm5, ha0, ha1, T5, hc5, b5⟩
      walk_at "rs"
      subst hK_
      first | with_reducible refine seq_k fun K_ hK_ => ?_ | skip
      walk_at "rs"
      refine q ms p c5 H5 (by omega) hr5 (fun n hn => ?_) hpH hp5 (by omega) T5 b5
      have h1 := hm5 n hn
      have h2 : (e.toNat : Int) * (step + 1) ≤ many * (step + 1) := Int.mul_le_mul_of_nonneg_right (by omega) (by omega)
      omega
/-- the lists of what each rule keeps, none of them at D -/
def ByLists (H : Hp) (D : Addr) (xs : List V) (rus : List (List Int × Int)) (ns : List Int) : Prop := xs.length = rus.length ∧ ∀ (i : Nat) x, xs[i]? = some x → ∃ (ru : List Int × Int) (p : Addr), rus[i]? = some ru ∧ x = .ref p ∧ H p = some (.lst ((keptUp ru ns).map V.int)) ∧ p ≠ D
theorem ByLists.same {H H' : Hp} {D : Addr} {xs : List V} {rus : List (List Int × Int)} {ns : List Int} (h : ByLists H D xs rus ns) (s : Same H H') : ByLists H' D xs rus ns :=
  ⟨h.1, fun i x hx => by obtain ⟨ru, p, e, e2, r, n⟩ := h.2 i x hx; exact ⟨ru, p, e, e2, s _ _ r, n⟩⟩
theorem ByLists.push {H : Hp} {D p : Addr} {xs : List V} {rus : List (List Int × Int)} {ns : List Int} {ru : List Int × Int} {o : HO} (h : ByLists H D xs rus ns) (hp : H p = some (.lst ((keptUp ru ns).map V.int))) (n : p ≠ D) : ByLists (upd H D o) D (xs ++ [.ref p]) (rus ++ [ru]) ns := by
  refine ⟨by simp [h.1], fun i y hy => ?_⟩
  by_cases c : i < xs.length
  · rw [List.getElem?_append_left c] at hy
    obtain ⟨ru', p', e, e2, r', n'⟩ := h.2 i y hy
    exact ⟨ru', p', by rw [List.getElem?_append_left (by rw [← h.1]; exact c)]; exact e, e2, by rw [upd_ne n']; exact r', n'⟩
  · have hi : i = xs.length := by
      have := lt_of_get hy
      simp at this
      omega
    subst hi
    have e1 : (xs ++ [V.ref p])[xs.length]? = some (.ref p) := by simp
    rw [e1] at hy
    cases hy
    refine ⟨ru, p, ?_, rfl, by rw [upd_ne n]; exact hp, n⟩
    rw [h.1]
    simp
end
end Nk
namespace Nk
open PySem L2
section
variable {P : Program} {w : World} {K : PySem.W.Frag} {mg : Str → Option Value} {base : Heap}
/-- the numbers of the rules that keep a night -/
def idxs (rus : List (List Int × Int)) (ns : List Int) (n : Int) (m : Nat) : List Int := ((List.range m).filter fun k => match rus[k]? with | some ru => decide (n ∈ keptBy ru ns) | none => false).map fun k : Nat => ((k : Nat) : Int)
theorem idxs_next (rus : List (List Int × Int)) (ns : List Int) (n : Int) (m : Nat) {ru : List Int × Int} (h : rus[m]? = some ru) : idxs rus ns n (m + 1) = idxs rus ns n m ++ (if n ∈ keptBy ru ns then [(m : Int)] else []) := by
  unfold idxs
  rw [List.range_succ, List.filter_append, List.map_append]
  congr 1
  by_cases c : n ∈ keptBy ru ns <;> simp [h, c]
theorem idxs_zero (rus : List (List Int × Int)) (ns : List Int) (n : Int) : idxs rus ns n 0 = [] := rfl
theorem idxs_len (rus : List (List Int × Int)) (ns : List Int) (n : Int) (m : Nat) : (idxs rus ns n m).length ≤ m := by
  unfold idxs
  rw [List.length_map]
  exact Nat.le_trans (List.length_filter_le _ _) (by simp)
theorem idxs_none {rus : List (List Int × Int)} {ns : List Int} {n : Int} : idxs rus ns n rus.length = [] ↔ ¬ ∃ ru ∈ rus, n ∈ keptBy ru ns := by
  unfold idxs
  rw [List.map_eq_nil_iff, List.filter_eq_nil_iff]
  constructor
  · rintro h ⟨ru, h1, h2⟩
    obtain ⟨i, hi, e⟩ := List.mem_iff_getElem.mp h1
    have := h i (List.mem_range.mpr hi)
    rw [List.getElem?_eq_getElem hi, e] at this
    simp [h2] at this
  · intro h k hk
    have hk' := List.mem_range.mp hk
    rw [List.getElem?_eq_getElem hk']
    simp only [decide_eq_true_eq]
    intro z
    exact h ⟨_, List.getElem_mem hk', z⟩
/-- pairs of a night and the numbers of its rules, as they stand -/
def ReasonsAt (H : Hp) (D : Addr) (xs : List V) (rus : List (List Int × Int)) (ns all : List Int) : Prop := xs.length = ns.length ∧ ∀ (i : Nat) x, xs[i]? = some x → ∃ (n : Int) (q q2 : Addr), ns[i]? = some n ∧ x = .ref q ∧ H q = some (.tup [.int n, .ref q2]) ∧ H q2 = some (.tup ((idxs rus all n rus.length).map V.int))
theorem ReasonsAt.same {H H' : Hp} {D : Addr} {xs : List V} {rus : List (List Int × Int)} {ns all : List Int} (h : ReasonsAt H D xs rus ns all) (s : Same H H') : ReasonsAt H' D xs rus ns all :=
  ⟨h.1, fun i x hx => by obtain ⟨n, q, q2, e1, e2, e3, e4⟩ := h.2 i x hx; exact ⟨n, q, q2, e1, e2, s _ _ e3, s _ _ e4⟩⟩
theorem ReasonsAt.push {H : Hp} {D q q2 : Addr} {l : List V} {xs : List V} {rus : List (List Int × Int)} {ns all : List Int} {n : Int} {o : HO} (h : ReasonsAt H D xs rus ns all) (hD : H D = some (.lst l)) (hq : H q = some (.tup [.int n, .ref q2])) (hq2 : H q2 = some (.tup ((idxs rus all n rus.length).map V.int))) : ReasonsAt (upd H D o) D (xs ++ [.ref q]) rus (ns ++ [n]) all := by
  have kp : ∀ z ys, H z = some (.tup ys) → (upd H D o) z = some (.tup ys) := fun z ys e => by rw [upd_ne (ne_of e hD (by intro z; cases z))]; exact e
  refine ⟨by simp [h.1], fun i y hy => ?_⟩
  by_cases c : i < xs.length
  · rw [List.getElem?_append_left c] at hy
    obtain ⟨n', p', p2', e, e2, r', r2'⟩ := h.2 i y hy
    exact ⟨n', p', p2', by rw [List.getElem?_append_left (by rw [← h.1]; exact c)]; exact e, e2, kp _ _ r', kp _ _ r2'⟩
  · have hi : i = xs.length := by
      have := lt_of_get hy
      simp at this
      omega
    subst hi
    have e1 : (xs ++ [V.ref q])[xs.length]? = some (.ref q) := by simp
    rw [e1] at hy
    cases hy
    refine ⟨n, q, q2, ?_, rfl, kp _ _ hq, kp _ _ hq2⟩
    rw [h.1]
    simp
/-- .. as data -/
def dRe (rus : List (List Int × Int)) (all : List Int) (n : Int) : PyData := .tuple [.int n, dTI (idxs rus all n rus.length)]
theorem ReasonsAt.dp {H : Hp} {D : Addr} {rus : List (List Int × Int)} {all : List Int} : ∀ {xs : List V} {ns : List Int}, ReasonsAt H D xs rus ns all → DpAll K H xs (ns.map (dRe rus all))
  | [], [], _ => .nil
  | [], _ :: _, h => absurd h.1 (by simp)
  | _ :: _, [], h => absurd h.1 (by simp)
  | x :: xs, n :: ns, h => by
    obtain ⟨n', q, q2, e1, rfl, e3, e4⟩ := h.2 0 x rfl
    cases e1
    refine .cons (.tup (sqT e3) (.cons (.int n) (.cons (dp_TI (sqT e4)) .nil))) (ReasonsAt.dp (D := D) (xs := xs) (ns := ns) ⟨by simpa using h.1, fun i y hy => ?_⟩)
    obtain ⟨m, a, b, f1, f2, f3, f4⟩ := h.2 (i + 1) y (by simpa using hy)
    exact ⟨m, a, b, by simpa using f1, f2, f3, f4⟩
theorem gd_dRe (rus : List (List Int × Int)) (all : List Int) (ns : List Int) : gd 3 (.list (ns.map (dRe rus all))) = true := by
  simp only [gd]
  rw [List.all_eq_true]
  intro x hx
  obtain ⟨n, _, rfl⟩ := List.mem_map.mp hx
  show ([PyData.int n, dTI _].all (gd 1)) = true
  simp only [List.all_cons, List.all_nil, gd_dTI (k := 0), Bool.and_true]
  rfl
abbrev nm_reasons : List Str := ["rules", "nights", "some", "rule", "night", "k", "one"]
abbrev pm_reasons : List Str := ["rules", "nights"]
abbrev lv_reasons : Nat := 5
theorem sc_reasons : FnScope nm_reasons pm_reasons (defScope s_reasons) := ⟨rfl, rfl, rfl, by decide +kernel, rfl, by decide +kernel, by decide +kernel⟩
def sp_reasons (K : PySem.W.Frag) (mg : Str → Option Value) : Sp := fun vs H Q E => ∃ (x y : V), vs = [x, y] ∧ DT K H 3 x ∧ DT K H 1 y ∧
  (isRulesV H x = false → ∀ H', Same H H' → E (.ref (cls mg "BadRules")) none H') ∧
  (isRulesV H x = true → isNightsV H y = false → ∀ H', Same H H' → E (.ref (cls mg "BadNights")) none H') ∧
  (isRulesV H x = true → isNightsV H y = true → ∃ (a l : Addr) (rus : List (List Int × Int)) (ns : List Int), x = .ref a ∧ y = .ref l ∧ RulesAt H a rus ∧ SqL K H l (ns.map V.int) ∧ ns.length ≤ 10000 ∧
    ∀ p xs H', Same H H' → H p = none → H' p = some (.lst xs) → ReasonsAt H' p xs rus ns ns → Q (.ref p) H')
/-- the lists of what each rule keeps, the last one first, none of them at D -/
def ByDown (H : Hp) (D : Addr) (xs : List V) (rus : List (List Int × Int)) (ns : List Int) : Prop := xs.length = rus.length ∧ ∀ (i : Nat) x, xs[i]? = some x → ∃ (ru : List Int × Int) (p : Addr), rus[i]? = some ru ∧ x = .ref p ∧ H p = some (.lst ((keptBy ru ns).map V.int)) ∧ p ≠ D
theorem ByDown.same {H H' : Hp} {D : Addr} {xs : List V} {rus : List (List Int × Int)} {ns : List Int} (h : ByDown H D xs rus ns) (s : Same H H') : ByDown H' D xs rus ns :=
  ⟨h.1, fun i x hx => by obtain ⟨ru, p, e, e2, r, n⟩ := h.2 i x hx; exact ⟨ru, p, e, e2, s _ _ r, n⟩⟩
theorem ByDown.push {H : Hp} {D p : Addr} {xs : List V} {rus : List (List Int × Int)} {ns : List Int} {ru : List Int × Int} {o : HO} (h : ByDown H D xs rus ns) (hp : H p = some (.lst ((keptBy ru ns).map V.int))) (n : p ≠ D) : ByDown (upd H D o) D (xs ++ [.ref p]) (rus ++ [ru]) ns := by
  refine ⟨by simp [h.1], fun i y hy => ?_⟩
  by_cases c : i < xs.length
  · rw [List.getElem?_append_left c] at hy
    obtain ⟨ru', p', e, e2, r', n'⟩ := h.2 i y hy
    exact ⟨ru', p', by rw [List.getElem?_append_left (by rw [← h.1]; exact c)]; exact e, e2, by rw [upd_ne n']; exact r', n'⟩
  · have hi : i = xs.length := by
      have := lt_of_get hy
      simp at this
      omega
    subst hi
    have e1 : (xs ++ [V.ref p])[xs.length]? = some (.ref p) := by simp
    rw [e1] at hy
    cases hy
    refine ⟨ru, p, ?_, rfl, by rw [upd_ne n]; exact hp, n⟩
    rw [h.1]
    simp
def iv_reasons (H1 : Hp) (D : Addr) (rus : List (List Int × Int)) (ns : List Int) (i : Nat) (H : Hp) : Prop := Same H1 H ∧ ∃ ys, H D = some (.lst ys) ∧ ByDown H D ys (rus.take i) ns ∧ ys.length = i
def iv_reasons2 (H1 : Hp) (D : Addr) (rus : List (List Int × Int)) (ns : List Int) (i : Nat) (H : Hp) : Prop := Same H1 H ∧ ∃ ys, H D = some (.lst ys) ∧ ReasonsAt H D ys rus (ns.take i) ns
def iv_reasons3 (H1 : Hp) (D : Addr) (rus : List (List Int × Int)) (ns : List Int) (n : Int) (i : Nat) (H : Hp) : Prop := Same H1 H ∧ H D = some (.lst ((idxs rus ns n i).map V.int))
theorem f_reasons (T : Txt K mg) : Fk P w K mg base (L2.CX P w) lv_reasons "reasons" pm_reasons (sp_reasons K mg) := by
  obtain ⟨f, fd, F, g, b⟩ := T.d_reasons.ex
  refine ⟨f, fd, g, F.kp, b, F.okX sc_reasons (fun vs H Q E h => ?_) (fun cdv A outer s H vs Q E hr h => ?_)⟩
  · obtain ⟨x, y, rfl, _⟩ := h; rfl
  · obtain ⟨x, y, rfl, hx, hy, q1, q2, q3⟩ := h
    refine ⟨_, (pss_cons (ps_expr (pe_fn (f_look_rules T) (hr.mono (by decide)) (by rfl) (passX (takes_of rfl rfl rfl rfl)) (pa_cons (pv 0) pa_nil)))
      (pss_cons (ps_expr (pe_fn (f_look_nights T) (hr.mono (by decide)) (by rfl) (passX (takes_of rfl rfl rfl rfl)) (pa_cons (pv 1) pa_nil)))
      (pss_cons (ps_set (i := 2) sc_reasons.nd rfl (.inr rfl) (pe_lc (own := [("rule", 3)]) (g := gName 3) (tt := tYes) (by rfl) sc_reasons.nd (pi_tup (pv 0)) (blkOk_by (own := [("rule", 3)]) (N := nm_reasons) (sc := defScope s_reasons) (by decide +kernel)) (fun _ _ _ _ _ => (pg_name (i := 3) sc_reasons.nd rfl (Or.inl rfl))) (fun _ _ _ _ _ => pts_nil) (fun _ _ _ _ _ => (pe_fn (f_kept_by T) (hr.mono (by decide)) (by rfl) pass0 (pa_cons (pv 3) (pa_cons (pv 1) pa_nil))))))
      (pss_one (ps_ret (pe_lc (own := [("night", 4)]) (g := gName 4) (tt := tYes) (by rfl) sc_reasons.nd (pi_list (pv 1)) (blkOk_by (own := [("night", 4)]) (N := nm_reasons) (sc := defScope s_reasons) (by decide +kernel)) (fun _ _ _ _ _ => (pg_name (i := 4) sc_reasons.nd rfl (Or.inr rfl))) (fun _ _ _ _ _ => pts_nil) (fun _ _ _ _ _ => (pe_tup (pa_cons (pv 4) (pa_cons (pe_callTy (call_tupleK K rfl) (by rfl) T.b_tuple (by decide +kernel) (pa_cons (pe_lc (own := [("k", 5), ("one", 6)]) (g := gTup K 2 (gCons (gName 5) (gCons (gName 6) (gNil)))) (by rfl) sc_reasons.nd (pi_enumK K rfl (by rfl) T.b_enumerate (pa_cons (pv 2) pa_nil)) (blkOk_by (own := [("k", 5), ("one", 6)]) (N := nm_reasons) (sc := relS { kind := .function, names := [(".0", .local), ("night", .cell), ("tuple", .globalImplicit), ("enumerate", .globalImplicit), ("some", .free)], isGenerator := false, isCoroutine := false } (defScope s_reasons)) (by decide +kernel)) (fun _ _ _ _ _ => (pg_tupK K rfl rfl (pgs_cons (pg_name (i := 5) sc_reasons.nd rfl (Or.inl rfl)) (pgs_cons (pg_name (i := 6) sc_reasons.nd rfl (Or.inl rfl)) pgs_nil)))) (fun _ _ _ _ _ => (pts_one (pt_cmpR (op_inK K rfl) (pv 4) (pv 6) (by rfl)))) (fun _ _ _ _ _ => (pv 5))) pa_nil)) pa_nil)))))))))), ?_⟩
    with_reducible refine seq_k fun K_ hK_ => ?_
    walk_at "rs"
    refine ⟨x, rfl, hx, fun e H' s' => ?_, q1⟩
    walk_at "rs"
    subst hK_
    first | with_reducible refine seq_k fun K_ hK_ => ?_ | skip
    walk_at "rs"
    have en : isNightsV H' y = isNightsV H y := by
      obtain ⟨n, hn⟩ := hy.th
      cases hn with
      | lst h => simp only [isNightsV, h, s' _ _ h]
      | tup h => simp only [isNightsV, h, s' _ _ h]
      | dic h => simp only [isNightsV, h, s' _ _ h]
      | _ => rfl
    refine ⟨y, rfl, hy.same s', fun e2 H2 s2 => ?_, fun e2 H2 s2 => q2 e (by rw [← en]; exact e2) H2 (s'.trans s2)⟩
    obtain ⟨a, l, rus, ns, rfl, rfl, ha, hl, hnz, q⟩ := q3 e (by rw [← en]; exact e2)
    have s3 := s'.trans s2
    have hM : (ns.map V.int).length = ns.length := List.length_map _
    have l5 := ha.l5
    obtain ⟨xs, hax, hxl, hxr⟩ := ha.ex
    have hax3 := s3 _ _ hax
    walk_at "rs"
    subst hK_
    first | with_reducible refine seq_k fun K_ hK_ => ?_ | skip
    walk_at "rs"
    refine ⟨_, rfl, a, rfl, ⟨xs, sqT hax3⟩, fun D hD => lc_tup (K := K) (a := a) (xs := xs) (iv_reasons H2 D rus ns)
      ⟨same_upd hD, [], upd_same, ⟨by simp, fun i x hx => by simp at hx⟩, rfl⟩ (fun i H2 _ p => sqT (p.1 _ _ hax3)) (fun i x H4 hx p => ?_) fun H4 p => ?_⟩
    · obtain ⟨s4, ys, hD4, hB4, hl4⟩ := p
      obtain ⟨ru, hru, hra⟩ := hxr i x hx
      have s34 := s3.trans s4
      walk_at "rs"
      refine ⟨x, ru, l, ns, rfl, hra.same s34, s34.seq hl, fun p1 H5 s5 hp1 hP => ?_⟩
      have hi := lt_of_get hru
      have hpD : p1 ≠ D := fun e => by rw [e, hD4] at hp1; cases hp1
      refine ⟨ys, s5 _ _ hD4, szl (by omega), Same.app (s4.trans s5) hD, ys ++ [.ref p1], upd_same, ?_, by simp [hl4]⟩
      rw [take_next hru]
      exact (hB4.same s5).push hP hpD
    · obtain ⟨s4, ys, hD4, hB4, hl4⟩ := p
      rw [hxl, List.take_length] at hB4
      have s34 := s3.trans s4
      walk_at "rs"
      subst hK_
      first | with_reducible refine seq_k fun K_ hK_ => ?_ | skip
      walk_at "rs"
      refine ⟨_, rfl, l, rfl, ⟨_, s34.seq hl⟩, fun D2 hD2 => lc_list (K := K) (a := l) (xs := ns.map V.int) (iv_reasons2 H4 D2 rus ns)
        ⟨same_upd hD2, [], upd_same, ⟨by simp, fun i x hx => by simp at hx⟩⟩ (fun i H5 _ p => (s34.trans p.1).seq hl) (fun i v H5 hv p => ?_) fun H5 p => ?_⟩
      · obtain ⟨s5, zs, hz5, hR5⟩ := p
        rw [List.getElem?_map] at hv
        cases e : ns[i]? with
        | none => rw [e] at hv; cases hv
        | some n =>
          rw [e] at hv
          cases hv
          walk_at "rs"
          have hD5 := s5 _ _ hD4
          have hB5 := hB4.same s5
          refine ⟨_, rfl, D, ys, rfl, sqL hD5, fun D3 hD3 => lc_it (walk_enum (xs := ys)) (iv_reasons3 H5 D3 rus ns n)
            ⟨same_upd hD3, by rw [idxs_zero]; exact upd_same⟩ (fun j H6 _ p => sqL (p.1 _ _ hD5)) (fun j v H6 H6' hj p hv => ?_) fun H6 p => ?_⟩
          · obtain ⟨s6, hD6⟩ := p
            obtain ⟨t, u, z, rfl, ht, rfl, hu, hz⟩ := hv
            cases hu
            have hz : ys[j]? = some z := hz
            obtain ⟨ru, q1, e1, rfl, e3, _⟩ := hB5.2 j z hz
            have s7 : Same H6 (upd H6 t (.tup [.int (j : Nat), .ref q1])) := same_upd ht
            have hs7 : SqT K (upd H6 t (.tup [.int (j : Nat), .ref q1])) t [.int (j : Nat), .ref q1] := sqT upd_same
            revert s7 hs7
            generalize upd H6 t (.tup [.int (j : Nat), .ref q1]) = H7
            intro s7 hs7
            have hnx := idxs_next rus ns n j e1
            refine ⟨t, [.int (j : Nat), .ref q1], rfl, hs7, rfl, ?_⟩
            walk_at "rs"
            refine ⟨q1, _, rfl, .inl (sqL ((s6.trans s7) _ _ e3)), rfl, flat_ints _, ?_⟩
            refine ⟨_, rfl, ?_⟩
            rw [if_neg Bool.false_ne_true, inV_ints]
            have hlen := idxs_len rus ns n j
            have hjl := lt_of_get e1
            by_cases c : n ∈ keptBy ru ns
            · rw [if_pos (decide_eq_true c)]
              rw [if_pos c] at hnx
              refine ⟨_, s7 _ _ hD6, szl (by rw [List.length_map]; omega), Same.app (s6.trans s7) hD3, ?_⟩
              rw [upd_same, hnx, List.map_append]
              rfl
            · rw [if_neg (by rw [decide_eq_true_eq]; exact c)]
              rw [if_neg c, List.append_nil] at hnx
              exact ⟨s6.trans s7, by rw [hnx]; exact s7 _ _ hD6⟩
          · obtain ⟨s6, hD6⟩ := p
            rw [hB4.1] at hD6
            walk_at "rs"
            refine ⟨_, .inl ⟨sqL hD6, fun q2 hq2 => ?_⟩⟩
            intro q1 hq1
            have s8 := (s6.trans (same_upd (o := .tup ((idxs rus ns n rus.length).map V.int)) hq2)).trans (same_upd (o := .tup [.int n, .ref q2]) hq1)
            have n12 : q2 ≠ q1 := fun e => by rw [← e, upd_same] at hq1; cases hq1
            refine ⟨zs, s8 _ _ hz5, szl (by rw [hR5.1]; simp; omega), Same.app (s5.trans s8) hD2, zs ++ [.ref q1], upd_same, ?_⟩
            rw [take_next e]
            exact (hR5.same s8).push (s8 _ _ hz5) upd_same (by rw [upd_ne n12]; exact upd_same)
      · obtain ⟨s5, zs, hz5, hR5⟩ := p
        rw [hM, List.take_length] at hR5
        exact q D2 zs H5 (s34.trans s5) (s34.free hD2) hz5 hR5
theorem reasons_good {H : Hp} {a l : Addr} {rus : List (List Int × Int)} {ns : List Int} {Q : VK} {E : XK} (R : RulesAt H a rus) (hl : H l = some (.lst (ns.map V.int))) (hz : ns.length ≤ 100) (hr : ns.Pairwise (· < ·)) (hb : ∀ n ∈ ns, 0 ≤ n ∧ n ≤ 1000000000)
    (q : ∀ p xs H', Same H H' → H p = none → H' p = some (.lst xs) → ReasonsAt H' p xs rus ns ns → Q (.ref p) H') : sp_reasons K mg [.ref a, .ref l] H Q E :=
  ⟨.ref a, .ref l, rfl, R.thing, lst_thing hl (by omega), (fun e => by rw [R.is] at e; cases e), (fun _ e => by rw [nights_is hl hz hr hb] at e; cases e), fun _ _ => ⟨a, l, rus, ns, rfl, rfl, R, sqL hl, by omega, q⟩⟩
end
end Nk
namespace Nk
open PySem L2
section
variable {P : Program} {w : World} {K : PySem.W.Frag} {mg : Str → Option Value} {base : Heap}
theorem isRulesV_same {H H' : Hp} (s : Same H H') {x : V} (h : DT K H 3 x) : isRulesV H' x = isRulesV H x := by
  obtain ⟨⟨n, h⟩, hi⟩ := h
  cases h with
  | lst h => simp only [isRulesV, h, s _ _ h]
  | @tup a xs h =>
    obtain ⟨_, h2⟩ := hi a xs rfl (.inl h)
    simp only [isRulesV, h, s _ _ h]
    congr 1
    rw [Bool.eq_iff_iff, List.all_eq_true, List.all_eq_true]
    constructor
    · intro g y hy
      rw [← isRuleV_same (K := K) s ⟨(h2 y hy).1, fun a' xs' e' h' => by obtain ⟨w1, w2⟩ := (h2 y hy).2 a' xs' e' h'; exact ⟨w1, fun z hz => (w2 z hz).th⟩⟩]
      exact g y hy
    · intro g y hy
      rw [isRuleV_same (K := K) s ⟨(h2 y hy).1, fun a' xs' e' h' => by obtain ⟨w1, w2⟩ := (h2 y hy).2 a' xs' e' h'; exact ⟨w1, fun z hz => (w2 z hz).th⟩⟩]
      exact g y hy
  | dic h => simp only [isRulesV, h, s _ _ h]
  | _ => rfl
theorem isNightsV_same {H H' : Hp} (s : Same H H') {x : V} {n : String} (h : Thing K H x n) : isNightsV H' x = isNightsV H x := by
  cases h with
  | lst h => simp only [isNightsV, h, s _ _ h]
  | tup h => simp only [isNightsV, h, s _ _ h]
  | dic h => simp only [isNightsV, h, s _ _ h]
  | _ => rfl
/-- what is no rules is refused -/
def spR (K : PySem.W.Frag) (mg : Str → Option Value) (n : Nat) : Sp := fun vs H _ E => ∃ (x : V) (r : List V), vs = x :: r ∧ r.length = n ∧ DT K H 3 x ∧ isRulesV H x = false ∧ ∀ H', Same H H' → E (.ref (cls mg "BadRules")) none H'
abbrev nm_held_at : List Str := ["rules", "night"]
abbrev pm_held_at : List Str := ["rules", "night"]
abbrev lv_held_at : Nat := 5
theorem sc_held_at : FnScope nm_held_at pm_held_at (defScope s_held_at) := ⟨rfl, rfl, rfl, by decide +kernel, rfl, by decide +kernel, by decide +kernel⟩
theorem f_held_at (T : Txt K mg) : Fk P w K mg base (L2.CX P w) lv_held_at "held_at" pm_held_at (spR K mg 1) := by
  obtain ⟨f, fd, F, g, b⟩ := T.d_held_at.ex
  refine ⟨f, fd, g, F.kp, b, F.okX sc_held_at (fun vs H Q E h => ?_) (fun cdv A outer s H vs Q E hr h => ?_)⟩
  · obtain ⟨x, r, rfl, hr, _⟩ := h; simp [hr]
  · obtain ⟨x, r, rfl, hl, hx, hb, q⟩ := h
    match r, hl with
    | [y], _ =>
      refine ⟨_, (pss_cons (ps_expr (pe_fn (f_look_rules T) (hr.mono (by decide)) (by rfl) (passX (takes_of rfl rfl rfl rfl)) (pa_cons (pv 0) pa_nil)))
      pss_never), ?_⟩
      with_reducible refine seq_k fun K_ hK_ => ?_
      walk_at "rt"
      exact ⟨x, rfl, hx, (fun e => by rw [hb] at e; cases e), fun _ H' s => q H' s⟩
abbrev nm_gap : List Str := ["rules", "night", "some", "one", "other"]
abbrev pm_gap : List Str := ["rules", "night"]
abbrev lv_gap : Nat := 6
theorem sc_gap : FnScope nm_gap pm_gap (defScope s_gap) := ⟨rfl, rfl, rfl, by decide +kernel, rfl, by decide +kernel, by decide +kernel⟩
theorem f_gap (T : Txt K mg) : Fk P w K mg base (L2.CX P w) lv_gap "gap" pm_gap (spR K mg 1) := by
  obtain ⟨f, fd, F, g, b⟩ := T.d_gap.ex
  refine ⟨f, fd, g, F.kp, b, F.okX sc_gap (fun vs H Q E h => ?_) (fun cdv A outer s H vs Q E hr h => ?_)⟩
  · obtain ⟨x, r, rfl, hr, _⟩ := h; simp [hr]
  · obtain ⟨x, r, rfl, hl, hx, hb, q⟩ := h
    match r, hl with
    | [y], _ =>
      refine ⟨_, (pss_cons (ps_set (i := 2) sc_gap.nd rfl (.inl rfl) (pe_fn (f_held_at T) (hr.mono (by decide)) (by rfl) (passX (takes_of rfl rfl rfl rfl)) (pa_cons (pv 0) (pa_cons (pv 1) pa_nil))))
      pss_never), ?_⟩
      with_reducible refine seq_k fun K_ hK_ => ?_
      walk_at "rt"
      exact ⟨x, [y], rfl, rfl, hx, hb, fun H' s => q H' s⟩
abbrev nm_turn : List Str := ["rules"]
abbrev pm_turn : List Str := ["rules"]
abbrev lv_turn : Nat := 5
theorem sc_turn : FnScope nm_turn pm_turn (defScope s_turn) := ⟨rfl, rfl, rfl, by decide +kernel, rfl, by decide +kernel, by decide +kernel⟩
theorem f_turn (T : Txt K mg) : Fk P w K mg base (L2.CX P w) lv_turn "turn" pm_turn (spR K mg 0) := by
  obtain ⟨f, fd, F, g, b⟩ := T.d_turn.ex
  refine ⟨f, fd, g, F.kp, b, F.okX sc_turn (fun vs H Q E h => ?_) (fun cdv A outer s H vs Q E hr h => ?_)⟩
  · obtain ⟨x, r, rfl, hr, _⟩ := h; simp [hr]
  · obtain ⟨x, r, rfl, hl, hx, hb, q⟩ := h
    match r, hl with
    | [], _ =>
      refine ⟨_, (pss_cons (ps_expr (pe_fn (f_look_rules T) (hr.mono (by decide)) (by rfl) (passX (takes_of rfl rfl rfl rfl)) (pa_cons (pv 0) pa_nil)))
      pss_never), ?_⟩
      with_reducible refine seq_k fun K_ hK_ => ?_
      walk_at "rt"
      exact ⟨x, rfl, hx, (fun e => by rw [hb] at e; cases e), fun _ H' s => q H' s⟩
abbrev nm_full : List Str := ["rules", "long", "best", "night", "count", "rounds", "many"]
abbrev pm_full : List Str := ["rules"]
abbrev lv_full : Nat := 5
theorem sc_full : FnScope nm_full pm_full (defScope s_full) := ⟨rfl, rfl, rfl, by decide +kernel, rfl, by decide +kernel, by decide +kernel⟩
theorem f_full (T : Txt K mg) : Fk P w K mg base (L2.CX P w) lv_full "full" pm_full (spR K mg 0) := by
  obtain ⟨f, fd, F, g, b⟩ := T.d_full.ex
  refine ⟨f, fd, g, F.kp, b, F.okX sc_full (fun vs H Q E h => ?_) (fun cdv A outer s H vs Q E hr h => ?_)⟩
  · obtain ⟨x, r, rfl, hr, _⟩ := h; simp [hr]
  · obtain ⟨x, r, rfl, hl, hx, hb, q⟩ := h
    match r, hl with
    | [], _ =>
      refine ⟨_, (pss_cons (ps_expr (pe_fn (f_look_rules T) (hr.mono (by decide)) (by rfl) (passX (takes_of rfl rfl rfl rfl)) (pa_cons (pv 0) pa_nil)))
      pss_never), ?_⟩
      with_reducible refine seq_k fun K_ hK_ => ?_
      walk_at "rt"
      exact ⟨x, rfl, hx, (fun e => by rw [hb] at e; cases e), fun _ H' s => q H' s⟩
abbrev nm_look_small : List Str := ["rules", "rounds", "many"]
abbrev pm_look_small : List Str := ["rules"]
abbrev lv_look_small : Nat := 5
theorem sc_look_small : FnScope nm_look_small pm_look_small (defScope s_look_small) := ⟨rfl, rfl, rfl, by decide +kernel, rfl, by decide +kernel, by decide +kernel⟩
def sp_look_small (K : PySem.W.Frag) (mg : Str → Option Value) : Sp := fun vs H Q E => ∃ (x : V), vs = [x] ∧ DT K H 3 x ∧ (isRulesV H x = false → ∀ H', Same H H' → E (.ref (cls mg "BadRules")) none H') ∧
  (isRulesV H x = true → ∃ a, x = .ref a ∧ RulesAt H a [([1], 1)] ∧ ∀ H', Same H H' → Q .non H')
theorem f_look_small (T : Txt K mg) : Fk P w K mg base (L2.CX P w) lv_look_small "look_small" pm_look_small (sp_look_small K mg) := by
  obtain ⟨f, fd, F, g, b⟩ := T.d_look_small.ex
  refine ⟨f, fd, g, F.kp, b, F.okX sc_look_small (fun vs H Q E h => ?_) (fun cdv A outer s H vs Q E hr h => ?_)⟩
  · obtain ⟨x, rfl, _⟩ := h; rfl
  · obtain ⟨x, rfl, hx, q1, q2⟩ := h
    refine ⟨_, (pss_cons (ps_expr (pe_fn (f_look_rules T) (hr.mono (by decide)) (by rfl) (passX (takes_of rfl rfl rfl rfl)) (pa_cons (pv 0) pa_nil)))
      (pss_one (ps_if (PW.pt (pw_or (pt_cmpR op_gt (pe_callB call_len_seq (by rfl) T.b_len PySem.boot_len (pa_cons (pv 0) pa_nil)) pe_int (nomark _)) (pw_or1 (pt_not (pt_val (pe_callB (cr_all rfl) (by rfl) T.b_all (by decide +kernel) (pa_cons (pe_lc (own := [("rounds", 1), ("many", 2)]) (g := gTup K 2 (gCons (gName 1) (gCons (gName 2) (gNil)))) (tt := tYes) (by rfl) sc_look_small.nd (pi_tup (pv 0)) (blkOk_by (own := [("rounds", 1), ("many", 2)]) (N := nm_look_small) (sc := defScope s_look_small) (by decide +kernel)) (fun _ _ _ _ _ => (pg_tupK K rfl rfl (pgs_cons (pg_name (i := 1) sc_look_small.nd rfl (Or.inl rfl)) (pgs_cons (pg_name (i := 2) sc_look_small.nd rfl (Or.inl rfl)) pgs_nil)))) (fun _ _ _ _ _ => pts_nil) (fun _ _ _ _ _ => (pe_and (pe_cmpR op_le (pv 2) pe_int (nomark _)) (pe_one (pe_cmpR op_le (pe_callB (cr_sumTK K rfl rfl) (by rfl) T.b_sum (by decide +kernel) (pa_cons (pv 1) pa_nil)) pe_int (nomark _)))))) pa_nil))))))) (pss_one (ps_raise rfl (takes_of rfl rfl rfl rfl) (pmk_own PySem.F.excBase_RuntimeError T.x_BadRules.xP T.x_BadRules.gP T.x_BadRules.kP T.x_BadRules.rs rfl))) pss_nil))), ?_⟩
    with_reducible refine seq_k fun K_ hK_ => ?_
    walk_at "rt"
    refine ⟨x, rfl, hx, fun e H1 s1 => ?_, q1⟩
    obtain ⟨a, rfl, hR, q⟩ := q2 e
    have R1 := hR.same s1
    obtain ⟨xs, hxs, hxl, hxr⟩ := R1.ex
    walk_at "rt"
    subst hK_
    first | with_reducible refine seq_k fun K_ hK_ => ?_ | skip
    walk_at "rt"
    refine ⟨_, .inr (sqT hxs), ?_⟩
    have hx1 : xs.length = 1 := hxl
    rw [if_neg (by omega)]
    refine ⟨⟨_, sqT hxs⟩, fun D hD => ?_⟩
    refine lcT hD (sqT hxs) (fun i => (xs.take i).map fun _ => V.bl true) rfl (fun i y H2 hy p => ?_) (fun H2 s2 hD2 => ?_)
    · obtain ⟨ru, hru, b1, r1, rfl, hb1, hrr, _, _⟩ := hxr i y hy
      have hi : i = 0 := by have := lt_of_get hy; omega
      subst hi
      cases hru
      refine ⟨b1, _, rfl, sqT (p.same _ _ hb1), rfl, ?_⟩
      walk_at "rt"
      rw [if_pos (by decide)]
      refine ⟨r1, [1], rfl, sqT (p.same _ _ hrr.at_), ?_⟩
      walk_at "rt"
      exact p.push hD (by simp) (Same.refl _) (map_take_next _ hy)
    · refine ⟨D, xs.map fun _ => true, rfl, ?_, ?_⟩
      · rw [List.take_length] at hD2
        rw [List.map_map]
        exact sqL hD2
      · refine ⟨true, ?_, ?_⟩
        · simp
        · rw [if_neg (by decide)]
          exact q _ (s1.trans s2)
abbrev nm_lean : List Str := ["rules", "left", "k", "others"]
abbrev pm_lean : List Str := ["rules"]
abbrev lv_lean : Nat := 6
theorem sc_lean : FnScope nm_lean pm_lean (defScope s_lean) := ⟨rfl, rfl, rfl, by decide +kernel, rfl, by decide +kernel, by decide +kernel⟩
theorem f_lean (T : Txt K mg) : Fk P w K mg base (L2.CX P w) lv_lean "lean" pm_lean (spR K mg 0) := by
  obtain ⟨f, fd, F, g, b⟩ := T.d_lean.ex
  refine ⟨f, fd, g, F.kp, b, F.okX sc_lean (fun vs H Q E h => ?_) (fun cdv A outer s H vs Q E hr h => ?_)⟩
  · obtain ⟨x, r, rfl, hr, _⟩ := h; simp [hr]
  · obtain ⟨x, r, rfl, hl, hx, hb, q⟩ := h
    match r, hl with
    | [], _ =>
      refine ⟨_, (pss_cons (ps_expr (pe_fn (f_look_small T) (hr.mono (by decide)) (by rfl) (passX (takes_of rfl rfl rfl rfl)) (pa_cons (pv 0) pa_nil)))
      pss_never), ?_⟩
      with_reducible refine seq_k fun K_ hK_ => ?_
      walk_at "rt"
      exact ⟨x, rfl, hx, fun _ H' s => q H' s, fun e => by rw [hb] at e; cases e⟩
abbrev nm_most : List Str := ["rules", "turn", "known", "found", "place", "some", "ages", "k"]
abbrev pm_most : List Str := ["rules"]
abbrev lv_most : Nat := 6
theorem sc_most : FnScope nm_most pm_most (defScope s_most) := ⟨rfl, rfl, rfl, by decide +kernel, rfl, by decide +kernel, by decide +kernel⟩
theorem f_most (T : Txt K mg) : Fk P w K mg base (L2.CX P w) lv_most "most" pm_most (spR K mg 0) := by
  obtain ⟨f, fd, F, g, b⟩ := T.d_most.ex
  refine ⟨f, fd, g, F.kp, b, F.okX sc_most (fun vs H Q E h => ?_) (fun cdv A outer s H vs Q E hr h => ?_)⟩
  · obtain ⟨x, r, rfl, hr, _⟩ := h; simp [hr]
  · obtain ⟨x, r, rfl, hl, hx, hb, q⟩ := h
    match r, hl with
    | [], _ =>
      refine ⟨_, (pss_cons (ps_expr (pe_fn (f_look_small T) (hr.mono (by decide)) (by rfl) (passX (takes_of rfl rfl rfl rfl)) (pa_cons (pv 0) pa_nil)))
      pss_never), ?_⟩
      with_reducible refine seq_k fun K_ hK_ => ?_
      walk_at "rt"
      exact ⟨x, rfl, hx, fun _ H' s => q H' s, fun e => by rw [hb] at e; cases e⟩
abbrev nm_within : List Str := ["one", "other", "found", "least", "rule", "nights"]
abbrev pm_within : List Str := ["one", "other"]
abbrev lv_within : Nat := 6
theorem sc_within : FnScope nm_within pm_within (defScope s_within) := ⟨rfl, rfl, rfl, by decide +kernel, rfl, by decide +kernel, by decide +kernel⟩
def sp_within (K : PySem.W.Frag) (mg : Str → Option Value) : Sp := fun vs H _ E => ∃ (x y : V), vs = [x, y] ∧ DT K H 3 x ∧ (isRulesV H x = false ∨ (DT K H 3 y ∧ (∃ a, x = .ref a ∧ RulesAt H a [([1], 1)]) ∧ isRulesV H y = false)) ∧ ∀ H', Same H H' → E (.ref (cls mg "BadRules")) none H'
theorem f_within (T : Txt K mg) : Fk P w K mg base (L2.CX P w) lv_within "within" pm_within (sp_within K mg) := by
  obtain ⟨f, fd, F, g, b⟩ := T.d_within.ex
  refine ⟨f, fd, g, F.kp, b, F.okX sc_within (fun vs H Q E h => ?_) (fun cdv A outer s H vs Q E hr h => ?_)⟩
  · obtain ⟨x, y, rfl, _⟩ := h; rfl
  · obtain ⟨x, y, rfl, hx, hb, q⟩ := h
    refine ⟨_, (pss_cons (ps_expr (pe_fn (f_look_small T) (hr.mono (by decide)) (by rfl) (passX (takes_of rfl rfl rfl rfl)) (pa_cons (pv 0) pa_nil)))
      (pss_cons (ps_expr (pe_fn (f_look_small T) (hr.mono (by decide)) (by rfl) (passX (takes_of rfl rfl rfl rfl)) (pa_cons (pv 1) pa_nil)))
      pss_never)), ?_⟩
    with_reducible refine seq_k fun K_ hK_ => ?_
    walk_at "rt"
    refine ⟨x, rfl, hx, fun _ H' s => q H' s, fun e => ?_⟩
    rcases hb with hb | ⟨hy, ⟨a, rfl, hR⟩, hb⟩
    · rw [hb] at e; cases e
    refine ⟨a, rfl, hR, fun H1 s1 => ?_⟩
    walk_at "rt"
    subst hK_
    first | with_reducible refine seq_k fun K_ hK_ => ?_ | skip
    walk_at "rt"
    refine ⟨y, rfl, hy.same s1, fun _ H' s => q H' (s1.trans s), fun e => ?_⟩
    rw [isRulesV_same s1 hy, hb] at e
    cases e
abbrev nm_Keep____init__ : List Str := ["self", "rules"]
abbrev pm_Keep____init__ : List Str := ["self", "rules"]
abbrev lv_Keep____init__ : Nat := 5
theorem sc_Keep____init__ : FnScope nm_Keep____init__ pm_Keep____init__ (defScope s_Keep____init__) := ⟨rfl, rfl, rfl, by decide +kernel, rfl, by decide +kernel, by decide +kernel⟩
def sp_Keep____init__ (K : PySem.W.Frag) (mg : Str → Option Value) : Sp := fun vs H _ E => ∃ (k : Addr) (x : V), vs = [.ref k, x] ∧ DT K H 3 x ∧ isRulesV H x = false ∧ ∀ H', Same H H' → E (.ref (cls mg "BadRules")) none H'
theorem f_Keep____init__ (T : Txt K mg) : Mo P w K mg base (L2.CX P w) lv_Keep____init__ "Keep" "__init__" pm_Keep____init__ (sp_Keep____init__ K mg) := by
  obtain ⟨f, fd, F, g, b⟩ := T.m_Keep____init__.ex
  refine ⟨f, fd, g, b, F.okX sc_Keep____init__ (fun vs H Q E h => ?_) (fun cdv A outer s H vs Q E hr h => ?_)⟩
  · obtain ⟨k, x, rfl, _⟩ := h; rfl
  · obtain ⟨k, x, rfl, hx, hb, q⟩ := h
    refine ⟨_, (pss_cons (ps_expr (pe_fn (f_look_rules T) (hr.mono (by decide)) (by rfl) (passX (takes_of rfl rfl rfl rfl)) (pa_cons (pv 1) pa_nil)))
      pss_never), ?_⟩
    with_reducible refine seq_k fun K_ hK_ => ?_
    walk_at "rt"
    exact ⟨x, rfl, hx, (fun e => by rw [hb] at e; cases e), fun _ H' s => q H' s⟩
abbrev nm_Keep____len__ : List Str := ["self"]
abbrev pm_Keep____len__ : List Str := ["self"]
abbrev lv_Keep____len__ : Nat := 1
theorem sc_Keep____len__ : FnScope nm_Keep____len__ pm_Keep____len__ (defScope s_Keep____len__) := ⟨rfl, rfl, rfl, by decide +kernel, rfl, by decide +kernel, by decide +kernel⟩
theorem f_Keep____len__ (T : Txt K mg) : Mo P w K mg base CX0 lv_Keep____len__ "Keep" "__len__" pm_Keep____len__ (fun _ _ _ _ => False) := by
  obtain ⟨f, fd, F, g, b⟩ := T.m_Keep____len__.ex
  exact ⟨f, fd, g, b, F.ok sc_Keep____len__ (fun vs H Q E h => h.elim) (fun cdv A outer s H vs Q E hr h => h.elim)⟩
theorem f_Store____len__ (T : Txt K mg) : Mo P w K mg base CX0 lv_Keep____len__ "Store" "__len__" pm_Keep____len__ (fun _ _ _ _ => False) := by
  obtain ⟨f, fd, F, g, b⟩ := T.m_Store____len__.ex
  exact ⟨f, fd, g, b, F.ok sc_Keep____len__ (fun vs H Q E h => h.elim) (fun cdv A outer s H vs Q E hr h => h.elim)⟩
abbrev nm_Store____init__ : List Str := ["self", "rules", "longest"]
abbrev pm_Store____init__ : List Str := ["self", "rules", "longest"]
abbrev lv_Store____init__ : Nat := 6
theorem sc_Store____init__ : FnScope nm_Store____init__ pm_Store____init__ (defScope s_Store____init__) := ⟨rfl, rfl, rfl, by decide +kernel, rfl, by decide +kernel, by decide +kernel⟩
def sp_Store____init__ (K : PySem.W.Frag) (mg : Str → Option Value) : Sp := fun vs H _ E => ∃ (k : Addr) (x y : V), vs = [.ref k, x, y] ∧ DT K H 3 x ∧ isRulesV H x = false ∧ ∀ H', Same H H' → E (.ref (cls mg "BadRules")) none H'
theorem f_Store____init__ (T : Txt K mg) : Mi P w K mg base (L2.CX P w) lv_Store____init__ "Store" "Store.__init__" s_Store____init__ pm_Store____init__ [.int 4] (sp_Store____init__ K mg) := by
  obtain ⟨f, fd, F, g⟩ := T.i_Store.ex
  refine ⟨f, fd, g, F, F.ok (CX := L2.CX P w) sc_Store____init__ (fun vs H Q E h => ?_) (fun cdv A outer s H vs Q E hr h => ?_)⟩
  · obtain ⟨k, x, y, rfl, _⟩ := h; rfl
  · obtain ⟨k, x, y, rfl, hx, hb, q⟩ := h
    refine ⟨_, (pss_cons (ps_expr (pe_cfn (pe_glob (v := .ref (cls mg "Keep")) (by rfl) T.o_Keep.g rfl) T.q_Keep____init__ (f_Keep____init__ T) (hr.mono (by decide)) (passX (takes_of rfl rfl rfl rfl)) (pa_cons (pv 0) (pa_cons (pv 1) pa_nil))))
      pss_never), ?_⟩
    with_reducible refine seq_k fun K_ hK_ => ?_
    walk_at "rt"
    exact ⟨rfl, _, rfl, _, rfl, k, x, rfl, hx, hb, q⟩
end
end Nk
namespace Nk
open PySem L2
section
variable {P : Program} {w : World} {K : PySem.W.Frag} {mg : Str → Option Value} {base : Heap}
/-- the errors' names, as the laws number them -/
def exNames : List Str := ["BadRounds", "BadNight", "BadNumber", "BadRules", "BadNights", "Elder", "Full", "NotHeld", "Pinned", "NotPinned", "BadState", "BadPart", "NotFit", "IsWhole", "BadPlan", "Unlike", "BadText"]
/-- an error of the j-th kind, caught, at a -/
def CaughtAt (mg : Str → Option Value) (H : Hp) (a : Addr) (j : Nat) : Prop := ∃ (x : Str) (d : Option Addr), exNames[j]? = some x ∧ H a = some (ExV (.ref (cls mg x)) d a) ∧ ∀ dd, d = some dd → ∃ fs, H dd = some (.xd fs)
theorem ex_count : ∀ j ∈ List.range 17, ((exNames.map fun y => V.bl (decide (exNames.getD j "" = y))).countP fun z => eqV z (.bl true)) = 1 := by decide +kernel
theorem ex_at : ∀ j ∈ List.range 17, ∀ m ∈ List.range 17, exNames.getD j "" = exNames.getD m "" → j = m := by decide +kernel
abbrev nm__law_word : List Str := ["caught", "kinds"]
abbrev pm__law_word : List Str := ["caught"]
abbrev lv__law_word : Nat := 1
theorem sc__law_word : FnScope nm__law_word pm__law_word (defScope s__law_word) := ⟨rfl, rfl, rfl, by decide +kernel, rfl, by decide +kernel, by decide +kernel⟩
def sp__law_word (mg : Str → Option Value) : Sp := fun vs H Q _ => ∃ (a : Addr) (j : Nat), vs = [.ref a] ∧ CaughtAt mg H a j ∧ ∀ H', Same H H' → Q (.int j) H'
theorem ec_all (T : Txt K mg) : ∀ x ∈ exNames, Ec K mg x := by
  intro x hx
  simp only [exNames, List.mem_cons, List.not_mem_nil, or_false] at hx
  rcases hx with rfl | rfl | rfl | rfl | rfl | rfl | rfl | rfl | rfl | rfl | rfl | rfl | rfl | rfl | rfl | rfl | rfl
  · exact T.e_BadRounds
  · exact T.e_BadNight
  · exact T.e_BadNumber
  · exact T.e_BadRules
  · exact T.e_BadNights
  · exact T.e_Elder
  · exact T.e_Full
  · exact T.e_NotHeld
  · exact T.e_Pinned
  · exact T.e_NotPinned
  · exact T.e_BadState
  · exact T.e_BadPart
  · exact T.e_NotFit
  · exact T.e_IsWhole
  · exact T.e_BadPlan
  · exact T.e_Unlike
  · exact T.e_BadText
theorem isx_of (T : Txt K mg) {H : Hp} {a : Addr} {x y : Str} {d : Option Addr} {Q : VK} (ha : H a = some (ExV (.ref (cls mg x)) d a)) (hd : ∀ dd, d = some dd → ∃ fs, H dd = some (.xd fs)) (hx : x ∈ exNames) (hy : y ∈ exNames) (q : Q (.bl (decide (x = y))) H) : rIsX K [.ref a, .ref (cls mg y)] H Q :=
  ⟨a, _, d, _, _, _, rfl, ha, (ec_all T x hx).ec, .own _, (ec_all T x hx).is (ec_all T y hy) T.k_err (by intro z; rw [z] at hy; revert hy; decide), hd, q⟩
theorem isxR_of (T : Txt K mg) {H : Hp} {a : Addr} {x : Str} {d : Option Addr} {Q : VK} (ha : H a = some (ExV (.ref (cls mg x)) d a)) (hd : ∀ dd, d = some dd → ∃ fs, H dd = some (.xd fs)) (hx : x ∈ exNames) (q : Q (.bl true) H) : rIsX K [.ref a, .ty "RuntimeError"] H Q :=
  ⟨a, _, d, _, _, _, rfl, ha, (ec_all T x hx).ec, .ty _, (ec_all T x hx).isR, hd, q⟩
theorem f__law_word (T : Txt K mg) : Fk P w K mg base CX0 lv__law_word "_law_word" pm__law_word (sp__law_word mg) := by
  obtain ⟨f, fd, F, g, b⟩ := T.d__law_word.ex
  refine ⟨f, fd, g, F.kp, b, F.ok sc__law_word (fun vs H Q E h => ?_) (fun cdv A outer s H vs Q E hr h => ?_)⟩
  · obtain ⟨a, j, rfl, _⟩ := h; rfl
  · obtain ⟨a, j, rfl, ⟨x, d, hj, ha, hd⟩, q⟩ := h
    have hx : x ∈ exNames := List.mem_of_getElem? hj
    refine ⟨_, (pss_cons (ps_if (pt_not (pt_val (pe_callB call_isX (by rfl) T.b_isinstance (by decide +kernel) (pa_cons (pv 0) (pa_cons (pe_bltn (v := .ty "RuntimeError") (by rfl) T.b_RuntimeError (by decide +kernel) rfl) pa_nil))))) (pss_one (ps_ret (pe_un un_neg pe_int))) pss_nil)
      (pss_cons (ps_set (i := 1) sc__law_word.nd rfl (.inl rfl) (pe_lst (pa_cons (pe_callB call_isX (by rfl) T.b_isinstance (by decide +kernel) (pa_cons (pv 0) (pa_cons (pe_glob (v := .ref (cls mg "BadRounds")) (by rfl) T.e_BadRounds.gP rfl) pa_nil))) (pa_cons (pe_callB call_isX (by rfl) T.b_isinstance (by decide +kernel) (pa_cons (pv 0) (pa_cons (pe_glob (v := .ref (cls mg "BadNight")) (by rfl) T.e_BadNight.gP rfl) pa_nil))) (pa_cons (pe_callB call_isX (by rfl) T.b_isinstance (by decide +kernel) (pa_cons (pv 0) (pa_cons (pe_glob (v := .ref (cls mg "BadNumber")) (by rfl) T.e_BadNumber.gP rfl) pa_nil))) pa_nil)))))
      (pss_cons (ps_set (i := 1) sc__law_word.nd rfl (.inl rfl) (pe_op op_cat (pv 1) (pe_lst (pa_cons (pe_callB call_isX (by rfl) T.b_isinstance (by decide +kernel) (pa_cons (pv 0) (pa_cons (pe_glob (v := .ref (cls mg "BadRules")) (by rfl) T.e_BadRules.gP rfl) pa_nil))) (pa_cons (pe_callB call_isX (by rfl) T.b_isinstance (by decide +kernel) (pa_cons (pv 0) (pa_cons (pe_glob (v := .ref (cls mg "BadNights")) (by rfl) T.e_BadNights.gP rfl) pa_nil))) (pa_cons (pe_callB call_isX (by rfl) T.b_isinstance (by decide +kernel) (pa_cons (pv 0) (pa_cons (pe_glob (v := .ref (cls mg "Elder")) (by rfl) T.e_Elder.gP rfl) pa_nil))) pa_nil))))))
      (pss_cons (ps_set (i := 1) sc__law_word.nd rfl (.inl rfl) (pe_op op_cat (pv 1) (pe_lst (pa_cons (pe_callB call_isX (by rfl) T.b_isinstance (by decide +kernel) (pa_cons (pv 0) (pa_cons (pe_glob (v := .ref (cls mg "Full")) (by rfl) T.e_Full.gP rfl) pa_nil))) (pa_cons (pe_callB call_isX (by rfl) T.b_isinstance (by decide +kernel) (pa_cons (pv 0) (pa_cons (pe_glob (v := .ref (cls mg "NotHeld")) (by rfl) T.e_NotHeld.gP rfl) pa_nil))) (pa_cons (pe_callB call_isX (by rfl) T.b_isinstance (by decide +kernel) (pa_cons (pv 0) (pa_cons (pe_glob (v := .ref (cls mg "Pinned")) (by rfl) T.e_Pinned.gP rfl) pa_nil))) pa_nil))))))
      (pss_cons (ps_set (i := 1) sc__law_word.nd rfl (.inl rfl) (pe_op op_cat (pv 1) (pe_lst (pa_cons (pe_callB call_isX (by rfl) T.b_isinstance (by decide +kernel) (pa_cons (pv 0) (pa_cons (pe_glob (v := .ref (cls mg "NotPinned")) (by rfl) T.e_NotPinned.gP rfl) pa_nil))) (pa_cons (pe_callB call_isX (by rfl) T.b_isinstance (by decide +kernel) (pa_cons (pv 0) (pa_cons (pe_glob (v := .ref (cls mg "BadState")) (by rfl) T.e_BadState.gP rfl) pa_nil))) (pa_cons (pe_callB call_isX (by rfl) T.b_isinstance (by decide +kernel) (pa_cons (pv 0) (pa_cons (pe_glob (v := .ref (cls mg "BadPart")) (by rfl) T.e_BadPart.gP rfl) pa_nil))) pa_nil))))))
      (pss_cons (ps_set (i := 1) sc__law_word.nd rfl (.inl rfl) (pe_op op_cat (pv 1) (pe_lst (pa_cons (pe_callB call_isX (by rfl) T.b_isinstance (by decide +kernel) (pa_cons (pv 0) (pa_cons (pe_glob (v := .ref (cls mg "NotFit")) (by rfl) T.e_NotFit.gP rfl) pa_nil))) (pa_cons (pe_callB call_isX (by rfl) T.b_isinstance (by decide +kernel) (pa_cons (pv 0) (pa_cons (pe_glob (v := .ref (cls mg "IsWhole")) (by rfl) T.e_IsWhole.gP rfl) pa_nil))) (pa_cons (pe_callB call_isX (by rfl) T.b_isinstance (by decide +kernel) (pa_cons (pv 0) (pa_cons (pe_glob (v := .ref (cls mg "BadPlan")) (by rfl) T.e_BadPlan.gP rfl) pa_nil))) pa_nil))))))
      (pss_cons (ps_set (i := 1) sc__law_word.nd rfl (.inl rfl) (pe_op op_cat (pv 1) (pe_lst (pa_cons (pe_callB call_isX (by rfl) T.b_isinstance (by decide +kernel) (pa_cons (pv 0) (pa_cons (pe_glob (v := .ref (cls mg "Unlike")) (by rfl) T.e_Unlike.gP rfl) pa_nil))) (pa_cons (pe_callB call_isX (by rfl) T.b_isinstance (by decide +kernel) (pa_cons (pv 0) (pa_cons (pe_glob (v := .ref (cls mg "BadText")) (by rfl) T.e_BadText.gP rfl) pa_nil))) pa_nil)))))
      (pss_one (ps_ret (pe_ifExp (pt_cmpR op_eq (pe_bm PySem.F.plainAttrs_list PySem.F.slot_list_count PySem.F.type_list_count mt_countF (pv 1) (pa_cons pe_bl pa_nil)) pe_int (nomark _)) (pe_bm PySem.F.plainAttrs_list PySem.F.slot_list_index PySem.F.type_list_index mt_index (pv 1) (pa_cons pe_bl pa_nil)) (pe_un un_neg pe_int))))))))))), ?_⟩
    with_reducible refine seq_k fun K_ hK_ => ?_
    walk_at "rt"
    refine isxR_of T ha hd hx ⟨true, rfl, ?_⟩
    walk_at "rt"
    walk_at "rt"
    subst hK_
    first | with_reducible refine seq_k fun K_ hK_ => ?_ | skip
    walk_at "rt"
    refine isx_of T ha hd hx (by decide) ?_
    refine isx_of T ha hd hx (by decide) ?_
    refine isx_of T ha hd hx (by decide) ?_
    intro p0 hp0
    have s0 := same_upd (o := .lst ([V.bl (decide (x = "BadRounds")), .bl (decide (x = "BadNight")), .bl (decide (x = "BadNumber"))])) hp0
    have hl0 := upd_same (H := H) (a := p0) (o := .lst ([V.bl (decide (x = "BadRounds")), .bl (decide (x = "BadNight")), .bl (decide (x = "BadNumber"))]))
    revert s0 hl0
    generalize upd H p0 (.lst ([V.bl (decide (x = "BadRounds")), .bl (decide (x = "BadNight")), .bl (decide (x = "BadNumber"))])) = H0
    intro s0 hl0
    have ha0 := s0 _ _ ha
    have hd0 : ∀ dd, d = some dd → ∃ fs, H0 dd = some (.xd fs) := fun dd e => by obtain ⟨fs, h⟩ := hd dd e; exact ⟨fs, s0 _ _ h⟩
    walk_at "rt"
    subst hK_
    first | with_reducible refine seq_k fun K_ hK_ => ?_ | skip
    walk_at "rt"
    refine isx_of T ha0 hd0 hx (by decide) ?_
    refine isx_of T ha0 hd0 hx (by decide) ?_
    refine isx_of T ha0 hd0 hx (by decide) ?_
    intro q0 hq0
    have u0 := same_upd (o := .lst ([V.bl (decide (x = "BadRules")), V.bl (decide (x = "BadNights")), V.bl (decide (x = "Elder"))])) hq0
    refine ⟨p0, q0, _, _, rfl, rfl, u0 _ _ hl0, upd_same, sz (by simp), fun p1 hp1 => ?_⟩
    have v0 := s0.trans (u0.trans (same_upd (o := .lst ([V.bl (decide (x = "BadRounds")), V.bl (decide (x = "BadNight")), V.bl (decide (x = "BadNumber"))] ++ [V.bl (decide (x = "BadRules")), V.bl (decide (x = "BadNights")), V.bl (decide (x = "Elder"))])) hp1))
    have hl1 : (upd (upd H0 q0 (.lst ([V.bl (decide (x = "BadRules")), V.bl (decide (x = "BadNights")), V.bl (decide (x = "Elder"))]))) p1 (.lst ([V.bl (decide (x = "BadRounds")), V.bl (decide (x = "BadNight")), V.bl (decide (x = "BadNumber"))] ++ [V.bl (decide (x = "BadRules")), V.bl (decide (x = "BadNights")), V.bl (decide (x = "Elder"))]))) p1 = some (.lst ([V.bl (decide (x = "BadRounds")), V.bl (decide (x = "BadNight")), V.bl (decide (x = "BadNumber")), V.bl (decide (x = "BadRules")), V.bl (decide (x = "BadNights")), V.bl (decide (x = "Elder"))])) := upd_same
    revert hl1 v0
    generalize upd (upd H0 q0 (.lst ([V.bl (decide (x = "BadRules")), V.bl (decide (x = "BadNights")), V.bl (decide (x = "Elder"))]))) p1 (.lst ([V.bl (decide (x = "BadRounds")), V.bl (decide (x = "BadNight")), V.bl (decide (x = "BadNumber"))] ++ [V.bl (decide (x = "BadRules")), V.bl (decide (x = "BadNights")), V.bl (decide (x = "Elder"))])) = H1
    intro s1 hl1
    have ha1 := s1 _ _ ha
    have hd1 : ∀ dd, d = some dd → ∃ fs, H1 dd = some (.xd fs) := fun dd e => by obtain ⟨fs, h⟩ := hd dd e; exact ⟨fs, s1 _ _ h⟩
    walk_at "rt"
    subst hK_
    first | with_reducible refine seq_k fun K_ hK_ => ?_ | skip
    walk_at "rt"
    refine isx_of T ha1 hd1 hx (by decide) ?_
    refine isx_of T ha1 hd1 hx (by decide) ?_
    refine isx_of T ha1 hd1 hx (by decide) ?_
    intro q1 hq1
    have u1 := same_upd (o := .lst ([V.bl (decide (x = "Full")), V.bl (decide (x = "NotHeld")), V.bl (decide (x = "Pinned"))])) hq1
    refine ⟨p1, q1, _, _, rfl, rfl, u1 _ _ hl1, upd_same, sz (by simp), fun p2 hp2 => ?_⟩
    have v1 := s1.trans (u1.trans (same_upd (o := .lst ([V.bl (decide (x = "BadRounds")), V.bl (decide (x = "BadNight")), V.bl (decide (x = "BadNumber")), V.bl (decide (x = "BadRules")), V.bl (decide (x = "BadNights")), V.bl (decide (x = "Elder"))] ++ [V.bl (decide (x = "Full")), V.bl (decide (x = "NotHeld")), V.bl (decide (x = "Pinned"))])) hp2))
    have hl2 : (upd (upd H1 q1 (.lst ([V.bl (decide (x = "Full")), V.bl (decide (x = "NotHeld")), V.bl (decide (x = "Pinned"))]))) p2 (.lst ([V.bl (decide (x = "BadRounds")), V.bl (decide (x = "BadNight")), V.bl (decide (x = "BadNumber")), V.bl (decide (x = "BadRules")), V.bl (decide (x = "BadNights")), V.bl (decide (x = "Elder"))] ++ [V.bl (decide (x = "Full")), V.bl (decide (x = "NotHeld")), V.bl (decide (x = "Pinned"))]))) p2 = some (.lst ([V.bl (decide (x = "BadRounds")), V.bl (decide (x = "BadNight")), V.bl (decide (x = "BadNumber")), V.bl (decide (x = "BadRules")), V.bl (decide (x = "BadNights")), V.bl (decide (x = "Elder")), V.bl (decide (x = "Full")), V.bl (decide (x = "NotHeld")), V.bl (decide (x = "Pinned"))])) := upd_same
    revert hl2 v1
    generalize upd (upd H1 q1 (.lst ([V.bl (decide (x = "Full")), V.bl (decide (x = "NotHeld")), V.bl (decide (x = "Pinned"))]))) p2 (.lst ([V.bl (decide (x = "BadRounds")), V.bl (decide (x = "BadNight")), V.bl (decide (x = "BadNumber")), V.bl (decide (x = "BadRules")), V.bl (decide (x = "BadNights")), V.bl (decide (x = "Elder"))] ++ [V.bl (decide (x = "Full")), V.bl (decide (x = "NotHeld")), V.bl (decide (x = "Pinned"))])) = H2
    intro s2 hl2
    have ha2 := s2 _ _ ha
    have hd2 : ∀ dd, d = some dd → ∃ fs, H2 dd = some (.xd fs) := fun dd e => by obtain ⟨fs, h⟩ := hd dd e; exact ⟨fs, s2 _ _ h⟩
    walk_at "rt"
    subst hK_
    first | with_reducible refine seq_k fun K_ hK_ => ?_ | skip
    walk_at "rt"
    refine isx_of T ha2 hd2 hx (by decide) ?_
    refine isx_of T ha2 hd2 hx (by decide) ?_
    refine isx_of T ha2 hd2 hx (by decide) ?_
    intro q2 hq2
    have u2 := same_upd (o := .lst ([V.bl (decide (x = "NotPinned")), V.bl (decide (x = "BadState")), V.bl (decide (x = "BadPart"))])) hq2
    refine ⟨p2, q2, _, _, rfl, rfl, u2 _ _ hl2, upd_same, sz (by simp), fun p3 hp3 => ?_⟩
    have v2 := s2.trans (u2.trans (same_upd (o := .lst ([V.bl (decide (x = "BadRounds")), V.bl (decide (x = "BadNight")), V.bl (decide (x = "BadNumber")), V.bl (decide (x = "BadRules")), V.bl (decide (x = "BadNights")), V.bl (decide (x = "Elder")), V.bl (decide (x = "Full")), V.bl (decide (x = "NotHeld")), V.bl (decide (x = "Pinned"))] ++ [V.bl (decide (x = "NotPinned")), V.bl (decide (x = "BadState")), V.bl (decide (x = "BadPart"))])) hp3))
    have hl3 : (upd (upd H2 q2 (.lst ([V.bl (decide (x = "NotPinned")), V.bl (decide (x = "BadState")), V.bl (decide (x = "BadPart"))]))) p3 (.lst ([V.bl (decide (x = "BadRounds")), V.bl (decide (x = "BadNight")), V.bl (decide (x = "BadNumber")), V.bl (decide (x = "BadRules")), V.bl (decide (x = "BadNights")), V.bl (decide (x = "Elder")), V.bl (decide (x = "Full")), V.bl (decide (x = "NotHeld")), V.bl (decide (x = "Pinned"))] ++ [V.bl (decide (x = "NotPinned")), V.bl (decide (x = "BadState")), V.bl (decide (x = "BadPart"))]))) p3 = some (.lst ([V.bl (decide (x = "BadRounds")), V.bl (decide (x = "BadNight")), V.bl (decide (x = "BadNumber")), V.bl (decide (x = "BadRules")), V.bl (decide (x = "BadNights")), V.bl (decide (x = "Elder")), V.bl (decide (x = "Full")), V.bl (decide (x = "NotHeld")), V.bl (decide (x = "Pinned")), V.bl (decide (x = "NotPinned")), V.bl (decide (x = "BadState")), V.bl (decide (x = "BadPart"))])) := upd_same
    revert hl3 v2
    generalize upd (upd H2 q2 (.lst ([V.bl (decide (x = "NotPinned")), V.bl (decide (x = "BadState")), V.bl (decide (x = "BadPart"))]))) p3 (.lst ([V.bl (decide (x = "BadRounds")), V.bl (decide (x = "BadNight")), V.bl (decide (x = "BadNumber")), V.bl (decide (x = "BadRules")), V.bl (decide (x = "BadNights")), V.bl (decide (x = "Elder")), V.bl (decide (x = "Full")), V.bl (decide (x = "NotHeld")), V.bl (decide (x = "Pinned"))] ++ [V.bl (decide (x = "NotPinned")), V.bl (decide (x = "BadState")), V.bl (decide (x = "BadPart"))])) = H3
    intro s3 hl3
    have ha3 := s3 _ _ ha
    have hd3 : ∀ dd, d = some dd → ∃ fs, H3 dd = some (.xd fs) := fun dd e => by obtain ⟨fs, h⟩ := hd dd e; exact ⟨fs, s3 _ _ h⟩
    walk_at "rt"
    subst hK_
    first | with_reducible refine seq_k fun K_ hK_ => ?_ | skip
    walk_at "rt"
    refine isx_of T ha3 hd3 hx (by decide) ?_
    refine isx_of T ha3 hd3 hx (by decide) ?_
    refine isx_of T ha3 hd3 hx (by decide) ?_
    intro q3 hq3
    have u3 := same_upd (o := .lst ([V.bl (decide (x = "NotFit")), V.bl (decide (x = "IsWhole")), V.bl (decide (x = "BadPlan"))])) hq3
    refine ⟨p3, q3, _, _, rfl, rfl, u3 _ _ hl3, upd_same, sz (by simp), fun p4 hp4 => ?_⟩
    have v3 := s3.trans (u3.trans (same_upd (o := .lst ([V.bl (decide (x = "BadRounds")), V.bl (decide (x = "BadNight")), V.bl (decide (x = "BadNumber")), V.bl (decide (x = "BadRules")), V.bl (decide (x = "BadNights")), V.bl (decide (x = "Elder")), V.bl (decide (x = "Full")), V.bl (decide (x = "NotHeld")), V.bl (decide (x = "Pinned")), V.bl (decide (x = "NotPinned")), V.bl (decide (x = "BadState")), V.bl (decide (x = "BadPart"))] ++ [V.bl (decide (x = "NotFit")), V.bl (decide (x = "IsWhole")), V.bl (decide (x = "BadPlan"))])) hp4))
    have hl4 : (upd (upd H3 q3 (.lst ([V.bl (decide (x = "NotFit")), V.bl (decide (x = "IsWhole")), V.bl (decide (x = "BadPlan"))]))) p4 (.lst ([V.bl (decide (x = "BadRounds")), V.bl (decide (x = "BadNight")), V.bl (decide (x = "BadNumber")), V.bl (decide (x = "BadRules")), V.bl (decide (x = "BadNights")), V.bl (decide (x = "Elder")), V.bl (decide (x = "Full")), V.bl (decide (x = "NotHeld")), V.bl (decide (x = "Pinned")), V.bl (decide (x = "NotPinned")), V.bl (decide (x = "BadState")), V.bl (decide (x = "BadPart"))] ++ [V.bl (decide (x = "NotFit")), V.bl (decide (x = "IsWhole")), V.bl (decide (x = "BadPlan"))]))) p4 = some (.lst ([V.bl (decide (x = "BadRounds")), V.bl (decide (x = "BadNight")), V.bl (decide (x = "BadNumber")), V.bl (decide (x = "BadRules")), V.bl (decide (x = "BadNights")), V.bl (decide (x = "Elder")), V.bl (decide (x = "Full")), V.bl (decide (x = "NotHeld")), V.bl (decide (x = "Pinned")), V.bl (decide (x = "NotPinned")), V.bl (decide (x = "BadState")), V.bl (decide (x = "BadPart")), V.bl (decide (x = "NotFit")), V.bl (decide (x = "IsWhole")), V.bl (decide (x = "BadPlan"))])) := upd_same
    revert hl4 v3
    generalize upd (upd H3 q3 (.lst ([V.bl (decide (x = "NotFit")), V.bl (decide (x = "IsWhole")), V.bl (decide (x = "BadPlan"))]))) p4 (.lst ([V.bl (decide (x = "BadRounds")), V.bl (decide (x = "BadNight")), V.bl (decide (x = "BadNumber")), V.bl (decide (x = "BadRules")), V.bl (decide (x = "BadNights")), V.bl (decide (x = "Elder")), V.bl (decide (x = "Full")), V.bl (decide (x = "NotHeld")), V.bl (decide (x = "Pinned")), V.bl (decide (x = "NotPinned")), V.bl (decide (x = "BadState")), V.bl (decide (x = "BadPart"))] ++ [V.bl (decide (x = "NotFit")), V.bl (decide (x = "IsWhole")), V.bl (decide (x = "BadPlan"))])) = H4
    intro s4 hl4
    have ha4 := s4 _ _ ha
    have hd4 : ∀ dd, d = some dd → ∃ fs, H4 dd = some (.xd fs) := fun dd e => by obtain ⟨fs, h⟩ := hd dd e; exact ⟨fs, s4 _ _ h⟩
    walk_at "rt"
    subst hK_
    first | with_reducible refine seq_k fun K_ hK_ => ?_ | skip
    walk_at "rt"
    refine isx_of T ha4 hd4 hx (by decide) ?_
    refine isx_of T ha4 hd4 hx (by decide) ?_
    intro q4 hq4
    have u4 := same_upd (o := .lst ([V.bl (decide (x = "Unlike")), V.bl (decide (x = "BadText"))])) hq4
    refine ⟨p4, q4, _, _, rfl, rfl, u4 _ _ hl4, upd_same, sz (by simp), fun p5 hp5 => ?_⟩
    have v4 := s4.trans (u4.trans (same_upd (o := .lst ([V.bl (decide (x = "BadRounds")), V.bl (decide (x = "BadNight")), V.bl (decide (x = "BadNumber")), V.bl (decide (x = "BadRules")), V.bl (decide (x = "BadNights")), V.bl (decide (x = "Elder")), V.bl (decide (x = "Full")), V.bl (decide (x = "NotHeld")), V.bl (decide (x = "Pinned")), V.bl (decide (x = "NotPinned")), V.bl (decide (x = "BadState")), V.bl (decide (x = "BadPart")), V.bl (decide (x = "NotFit")), V.bl (decide (x = "IsWhole")), V.bl (decide (x = "BadPlan"))] ++ [V.bl (decide (x = "Unlike")), V.bl (decide (x = "BadText"))])) hp5))
    have hl5 : (upd (upd H4 q4 (.lst ([V.bl (decide (x = "Unlike")), V.bl (decide (x = "BadText"))]))) p5 (.lst ([V.bl (decide (x = "BadRounds")), V.bl (decide (x = "BadNight")), V.bl (decide (x = "BadNumber")), V.bl (decide (x = "BadRules")), V.bl (decide (x = "BadNights")), V.bl (decide (x = "Elder")), V.bl (decide (x = "Full")), V.bl (decide (x = "NotHeld")), V.bl (decide (x = "Pinned")), V.bl (decide (x = "NotPinned")), V.bl (decide (x = "BadState")), V.bl (decide (x = "BadPart")), V.bl (decide (x = "NotFit")), V.bl (decide (x = "IsWhole")), V.bl (decide (x = "BadPlan"))] ++ [V.bl (decide (x = "Unlike")), V.bl (decide (x = "BadText"))]))) p5 = some (.lst ([V.bl (decide (x = "BadRounds")), V.bl (decide (x = "BadNight")), V.bl (decide (x = "BadNumber")), V.bl (decide (x = "BadRules")), V.bl (decide (x = "BadNights")), V.bl (decide (x = "Elder")), V.bl (decide (x = "Full")), V.bl (decide (x = "NotHeld")), V.bl (decide (x = "Pinned")), V.bl (decide (x = "NotPinned")), V.bl (decide (x = "BadState")), V.bl (decide (x = "BadPart")), V.bl (decide (x = "NotFit")), V.bl (decide (x = "IsWhole")), V.bl (decide (x = "BadPlan")), V.bl (decide (x = "Unlike")), V.bl (decide (x = "BadText"))])) := upd_same
    revert hl5 v4
    generalize upd (upd H4 q4 (.lst ([V.bl (decide (x = "Unlike")), V.bl (decide (x = "BadText"))]))) p5 (.lst ([V.bl (decide (x = "BadRounds")), V.bl (decide (x = "BadNight")), V.bl (decide (x = "BadNumber")), V.bl (decide (x = "BadRules")), V.bl (decide (x = "BadNights")), V.bl (decide (x = "Elder")), V.bl (decide (x = "Full")), V.bl (decide (x = "NotHeld")), V.bl (decide (x = "Pinned")), V.bl (decide (x = "NotPinned")), V.bl (decide (x = "BadState")), V.bl (decide (x = "BadPart")), V.bl (decide (x = "NotFit")), V.bl (decide (x = "IsWhole")), V.bl (decide (x = "BadPlan"))] ++ [V.bl (decide (x = "Unlike")), V.bl (decide (x = "BadText"))])) = H5
    intro s5 hl5
    have ha5 := s5 _ _ ha
    have hd5 : ∀ dd, d = some dd → ∃ fs, H5 dd = some (.xd fs) := fun dd e => by obtain ⟨fs, h⟩ := hd dd e; exact ⟨fs, s5 _ _ h⟩
    walk_at "rt"
    subst hK_
    first | with_reducible refine seq_k fun K_ hK_ => ?_ | skip
    walk_at "rt"
    have h17 : j < 17 := lt_of_get hj
    have e17 : exNames.getD j "" = x := by rw [List.getD_eq_getElem?_getD, hj]; rfl
    have hcnt := ex_count j (List.mem_range.mpr h17)
    rw [e17] at hcnt
    have fl : ∀ l : List Str, (l.map fun y => V.bl (decide (x = y))).all flatV = true := fun l => by
      rw [List.all_map, List.all_eq_true]
      exact fun _ _ => rfl
    refine ⟨tyL hl5, p5, exNames.map (fun y => V.bl (decide (x = y))), .bl true, rfl, rfl, sqL hl5, rfl, fl _, ?_⟩
    rw [hcnt]
    refine ⟨rfl, ?_⟩
    rw [if_pos (show V.int ((1 : Nat) : Int) = V.int 1 from rfl)]
    refine ⟨tyL hl5, p5, exNames.map (fun y => V.bl (decide (x = y))), .bl true, j, .bl true, rfl, rfl, sqL hl5, rfl, fl _, ?_, rfl, fun m z hm hz => ?_, q H5 s5⟩
    · rw [List.getElem?_map, hj]
      simp
    · rw [List.getElem?_map] at hz
      cases e : exNames[m]? with
      | none => rw [e] at hz; cases hz
      | some y =>
        rw [e] at hz
        cases hz
        have h17' : m < 17 := lt_of_get e
        have e17' : exNames.getD m "" = y := by rw [List.getD_eq_getElem?_getD, e]; rfl
        have : x ≠ y := fun z => by
          have := ex_at j (List.mem_range.mpr h17) m (List.mem_range.mpr h17') (by rw [e17, e17', z])
          omega
        simp [this, eqV]
/-- the word of a kind -/
def exWords : List Str := ["rounds", "night", "number", "rules", "nights", "elder", "full", "held", "pinned", "not pinned", "state", "part", "fit", "whole", "plan", "unlike", "text"]
theorem wd_at : ∀ j ∈ List.range 17, ∀ m ∈ List.range 17, exWords.getD j "" = exWords.getD m "" → j = m := by decide +kernel
abbrev nm__law_refused : List Str := ["word", "words"]
abbrev pm__law_refused : List Str := ["word"]
abbrev lv__law_refused : Nat := 1
theorem sc__law_refused : FnScope nm__law_refused pm__law_refused (defScope s__law_refused) := ⟨rfl, rfl, rfl, by decide +kernel, rfl, by decide +kernel, by decide +kernel⟩
def sp__law_refused : Sp := fun vs H Q _ => ∃ (x : Str) (j : Nat), vs = [.str x] ∧ exWords[j]? = some x ∧ ∀ p H', Same H H' → H p = none → H' p = some (.tup [.str "refused", .int j]) → Q (.ref p) H'
theorem f__law_refused (T : Txt K mg) : Fk P w K mg base CX0 lv__law_refused "_law_refused" pm__law_refused sp__law_refused := by
  obtain ⟨f, fd, F, g, b⟩ := T.d__law_refused.ex
  refine ⟨f, fd, g, F.kp, b, F.ok sc__law_refused (fun vs H Q E h => ?_) (fun cdv A outer s H vs Q E hr h => ?_)⟩
  · obtain ⟨x, j, rfl, _⟩ := h; rfl
  · obtain ⟨x, j, rfl, hj, q⟩ := h
    refine ⟨_, (pss_cons (ps_set (i := 1) sc__law_refused.nd rfl (.inl rfl) (pe_lst (pa_cons pe_str (pa_cons pe_str (pa_cons pe_str (pa_cons pe_str (pa_cons pe_str (pa_cons pe_str (pa_cons pe_str (pa_cons pe_str (pa_cons pe_str (pa_cons pe_str (pa_cons pe_str pa_nil)))))))))))))
      (pss_cons (ps_set (i := 1) sc__law_refused.nd rfl (.inl rfl) (pe_op op_cat (pv 1) (pe_lst (pa_cons pe_str (pa_cons pe_str (pa_cons pe_str (pa_cons pe_str (pa_cons pe_str (pa_cons pe_str pa_nil)))))))))
      (pss_one (ps_ret (pe_tup (pa_cons pe_str (pa_cons (pe_bm PySem.F.plainAttrs_list PySem.F.slot_list_index PySem.F.type_list_index mt_index (pv 1) (pa_cons (pv 0) pa_nil)) pa_nil))))))), ?_⟩
    with_reducible refine seq_k fun K_ hK_ => ?_
    walk_at "rt"
    intro p0 hp0
    walk_at "rt"
    subst hK_
    first | with_reducible refine seq_k fun K_ hK_ => ?_ | skip
    walk_at "rt"
    intro q0 hq0
    have u0 := (same_upd (o := .lst ((exWords.take 11).map V.str)) hp0).trans (same_upd (o := .lst ((exWords.drop 11).map V.str)) hq0)
    refine ⟨p0, q0, (exWords.take 11).map V.str, (exWords.drop 11).map V.str, rfl, rfl, (same_upd hq0) _ _ upd_same, upd_same, sz (by decide), fun p1 hp1 => ?_⟩
    have s1 := u0.trans (same_upd (o := .lst (exWords.map V.str)) hp1)
    walk_at "rt"
    subst hK_
    first | with_reducible refine seq_k fun K_ hK_ => ?_ | skip
    walk_at "rt"
    have h17 : j < 17 := lt_of_get hj
    have e17 : exWords.getD j "" = x := by rw [List.getD_eq_getElem?_getD, hj]; rfl
    have fl : (exWords.map V.str).all flatV = true := by decide +kernel
    refine ⟨tyL (xs := exWords.map V.str) upd_same, p1, exWords.map V.str, .str x, j, .str x, rfl, rfl, sqL upd_same, rfl, fl, by rw [List.getElem?_map, hj]; rfl, by simp [eqV], fun m z hm hz => ?_, ?_⟩
    · rw [List.getElem?_map] at hz
      cases e : exWords[m]? with
      | none => rw [e] at hz; cases hz
      | some y =>
        rw [e] at hz
        cases hz
        have h17' : m < 17 := lt_of_get e
        have e17' : exWords.getD m "" = y := by rw [List.getD_eq_getElem?_getD, e]; rfl
        have : y ≠ x := fun z => by
          have := wd_at j (List.mem_range.mpr h17) m (List.mem_range.mpr h17') (by rw [e17, e17', z])
          omega
        simp [this, eqV]
    · intro p2 hp2
      exact q p2 _ (s1.trans (same_upd hp2)) (s1.free hp2) upd_same
end
end Nk
namespace Nk
open PySem L2
section
variable {P : Program} {w : World} {K : PySem.W.Frag} {mg : Str → Option Value} {base : Heap}
/-- things down to a depth, data at the end -/
def DX (K : PySem.W.Frag) (H : Hp) : Nat → V → Prop
  | 0, x => (∃ n, Thing K H x n) ∧ Dat K H 2 x
  | k + 1, x => (∃ n, Thing K H x n) ∧ ∀ a xs, x = .ref a → (H a = some (.tup xs) ∨ H a = some (.lst xs)) → xs.length ≤ 100000 ∧ ∀ y ∈ xs, DX K H k y
theorem DX.th {H : Hp} {k : Nat} {x : V} (h : DX K H k x) : ∃ n, Thing K H x n := by
  cases k with
  | zero => exact h.1
  | succ k => exact h.1
theorem DX.dt {H : Hp} : ∀ {k : Nat} {x : V}, DX K H k x → DT K H k x
  | 0, _, h => h.1
  | k + 1, _, h => ⟨h.1, fun a xs e ha => ⟨(h.2 a xs e ha).1, fun y hy => ((h.2 a xs e ha).2 y hy).dt⟩⟩
theorem DX.same {H H' : Hp} (s : Same H H') : ∀ {k : Nat} {x : V}, DX K H k x → DX K H' k x
  | 0, _, h => ⟨let ⟨n, h1⟩ := h.1; ⟨n, h1.same s⟩, h.2.same s⟩
  | k + 1, x, h => by
    obtain ⟨⟨n, hn⟩, hi⟩ := h
    refine ⟨⟨n, hn.same s⟩, fun a xs e ha => ?_⟩
    subst e
    have h2 : H a = some (.tup xs) ∨ H a = some (.lst xs) := by
      obtain ⟨o, ho⟩ : ∃ o, H a = some o := by
        cases hn with
        | lst h => exact ⟨_, h⟩
        | tup h => exact ⟨_, h⟩
        | dic h => exact ⟨_, h⟩
      have := s _ _ ho
      rw [this] at ha
      rw [ho]
      exact ha
    obtain ⟨g1, g2⟩ := hi a xs rfl h2
    exact ⟨g1, fun y hy => (g2 y hy).same s⟩
theorem dx_flat {H : Hp} {x : V} {n : String} (h : Thing K H x n) (hn : ∀ b, x ≠ .ref b) : ∀ {k : Nat}, (∃ d, Dp K H x d ∧ gb 2 d = true) → DX K H k x
  | 0, h2 => ⟨⟨n, h⟩, h2⟩
  | k + 1, _ => ⟨⟨n, h⟩, fun a xs e => absurd e (hn a)⟩
theorem dx_int {H : Hp} (i : Int) {k : Nat} : DX K H k (.int i) := dx_flat (.int i) (fun b e => nomatch e) ⟨_, .int i, rfl⟩
theorem dx_bl {H : Hp} (i : Bool) {k : Nat} : DX K H k (.bl i) := dx_flat (.bl i) (fun b e => nomatch e) ⟨_, .bl i, rfl⟩
theorem dx_non {H : Hp} {k : Nat} : DX K H k .non := dx_flat .non (fun b e => nomatch e) ⟨_, .non, rfl⟩
theorem dx_str {H : Hp} {x : Str} (h : PyData.strOk x = true) {k : Nat} : DX K H k (.str x) := dx_flat (.str x) (fun b e => nomatch e) ⟨_, .str x, by simp [gb, h]⟩
theorem dx_tup {H : Hp} {a : Addr} {xs : List V} {k : Nat} (h : H a = some (.tup xs)) (hl : xs.length ≤ 100000) (hx : ∀ y ∈ xs, DX K H k y) : DX K H (k + 1) (.ref a) := by
  refine ⟨⟨_, .tup h⟩, fun b ys e hb => ?_⟩
  cases e
  rw [h] at hb
  rcases hb with z | z <;> cases z
  exact ⟨hl, hx⟩
theorem dx_lst {H : Hp} {a : Addr} {xs : List V} {k : Nat} (h : H a = some (.lst xs)) (hl : xs.length ≤ 100000) (hx : ∀ y ∈ xs, DX K H k y) : DX K H (k + 1) (.ref a) := by
  refine ⟨⟨_, .lst h⟩, fun b ys e hb => ?_⟩
  cases e
  rw [h] at hb
  rcases hb with z | z <;> cases z
  exact ⟨hl, hx⟩
theorem dx_dic {H : Hp} {a : Addr} {kvs : List (Key × V)} {k : Nat} (h : H a = some (.dK kvs)) : DX K H (k + 1) (.ref a) := by
  refine ⟨⟨_, .dic h⟩, fun b ys e hb => ?_⟩
  cases e
  rw [h] at hb
  rcases hb with z | z <;> cases z
/-- rounds that stand -/
theorem rounds_at {H : Hp} {x : V} (h : isRoundsV H x = true) : ∃ a rs, x = .ref a ∧ RndsAt H a rs := by
  cases x with
  | ref a =>
    cases ha : H a with
    | none => simp [isRoundsV, ha] at h
    | some o =>
      cases o with
      | tup xs =>
        simp only [isRoundsV, ha, Bool.and_eq_true, decide_eq_true_eq] at h
        obtain ⟨⟨h1, h2⟩, h3⟩ := h
        have key : ∀ ys : List V, (ys.all fun y => isNumV y 1 (.int 31)) = true → ∃ rs : List Int, ys = rs.map V.int ∧ ∀ r ∈ rs, 1 ≤ r ∧ r ≤ 31 := by
          intro ys
          induction ys with
          | nil => exact fun _ => ⟨[], rfl, fun _ h => nomatch h⟩
          | cons y ys ih =>
            intro h
            rw [List.all_cons, Bool.and_eq_true] at h
            obtain ⟨rs, rfl, hrs⟩ := ih h.2
            cases y with
            | int i =>
              have h1 := h.1
              simp only [isNumV, decide_eq_true_eq] at h1
              refine ⟨i :: rs, rfl, fun r hr => ?_⟩
              rcases List.mem_cons.mp hr with rfl | hr
              · simpa using h1
              · exact hrs r hr
            | _ => simp [isNumV] at h
        obtain ⟨rs, rfl, hrs⟩ := key xs h3
        rw [List.length_map] at h1 h2
        exact ⟨a, rs, rfl, ⟨ha, ⟨List.length_pos_iff.mp (by omega), fun r hr => (hrs r hr).1⟩, fun r hr => (hrs r hr).2, h2⟩⟩
      | _ => simp [isRoundsV, ha] at h
  | _ => simp [isRoundsV] at h
theorem rules_at {H : Hp} {x : V} (h : isRulesV H x = true) : ∃ a rus, x = .ref a ∧ RulesAt H a rus := by
  cases x with
  | ref a =>
    cases ha : H a with
    | none => simp [isRulesV, ha] at h
    | some o =>
      cases o with
      | tup xs =>
        simp only [isRulesV, ha, Bool.and_eq_true, decide_eq_true_eq] at h
        obtain ⟨⟨h1, h2⟩, h3⟩ := h
        have one : ∀ y : V, isRuleV H y = true → ∃ ru, RuleAt H y ru := by
          intro y hy
          cases y with
          | ref b =>
            cases hb : H b with
            | none => simp [isRuleV, hb] at hy
            | some o =>
              cases o with
              | tup ys =>
                match ys, hb with
                | [r, m], hb =>
                  simp only [isRuleV, hb, Bool.and_eq_true] at hy
                  obtain ⟨rb, rs, rfl, hr⟩ := rounds_at hy.1
                  cases m with
                  | int i =>
                    have h1 := hy.2
                    simp only [isNumV, decide_eq_true_eq] at h1
                    exact ⟨(rs, i), b, rb, rfl, hb, hr, by simpa using h1⟩
                  | _ => simp [isNumV] at hy
                | [], hb => simp [isRuleV, hb] at hy
                | [_], hb => simp [isRuleV, hb] at hy
                | _ :: _ :: _ :: _, hb => simp [isRuleV, hb] at hy
              | _ => simp [isRuleV, hb] at hy
          | _ => simp [isRuleV] at hy
        have key : ∀ ys : List V, ys.all (isRuleV H) = true → ∃ rus : List (List Int × Int), ys.length = rus.length ∧ ∀ (i : Nat) y, ys[i]? = some y → ∃ ru, rus[i]? = some ru ∧ RuleAt H y ru := by
          intro ys
          induction ys with
          | nil => exact fun _ => ⟨[], rfl, fun i y h => by simp at h⟩
          | cons y ys ih =>
            intro h
            rw [List.all_cons, Bool.and_eq_true] at h
            obtain ⟨rus, g1, g2⟩ := ih h.2
            obtain ⟨ru, hru⟩ := one y h.1
            refine ⟨ru :: rus, by simp [g1], fun i z hz => ?_⟩
            cases i with
            | zero => cases hz; exact ⟨ru, rfl, hru⟩
            | succ i => exact g2 i z hz
        obtain ⟨rus, g1, g2⟩ := key xs h3
        exact ⟨a, rus, rfl, ⟨⟨xs, ha, g1, g2⟩, by omega, by omega⟩⟩
      | _ => simp [isRulesV, ha] at h
  | _ => simp [isRulesV] at h
theorem nights_at {H : Hp} {x : V} (h : isNightsV H x = true) : ∃ (l : Addr) (ns : List Int), x = .ref l ∧ H l = some (.lst (ns.map V.int)) ∧ ns.length ≤ 100 ∧ ns.Pairwise (· < ·) := by
  cases x with
  | ref a =>
    cases ha : H a with
    | none => simp [isNightsV, ha] at h
    | some o =>
      cases o with
      | lst xs =>
        simp only [isNightsV, ha, Bool.and_eq_true, decide_eq_true_eq] at h
        obtain ⟨ns, rfl, _⟩ := allNum h.1.2
        exact ⟨a, ns, rfl, ha, by simpa using h.1.1, (riseV_ints ns).mp h.2⟩
      | _ => simp [isNightsV, ha] at h
  | _ => simp [isNightsV] at h
abbrev nm__law_one : List Str := ["kind", "some", "rules", "thing"]
abbrev pm__law_one : List Str := ["kind", "some"]
abbrev lv__law_one : Nat := 8
theorem sc__law_one : FnScope nm__law_one pm__law_one (defScope s__law_one) := ⟨rfl, rfl, rfl, by decide +kernel, rfl, by decide +kernel, by decide +kernel⟩
def sp__law_one (K : PySem.W.Frag) (mg : Str → Option Value) : Sp := fun vs H Q E => ∃ (kind : Int) (u : Addr) (x y : V), vs = [.int kind, .ref u] ∧ H u = some (.tup [x, y]) ∧ DT K H 3 x ∧ DT K H 1 y ∧
  ((isRulesV H x = false ∧ 0 ≤ kind ∧ kind ≤ 11 ∧ ∀ H', Same H H' → E (.ref (cls mg "BadRules")) none H') ∨
   (isRulesV H x = true ∧ 0 ≤ kind ∧ kind ≤ 1 ∧ (isNightsV H y = false → ∀ H', Same H H' → E (.ref (cls mg "BadNights")) none H') ∧ (isNightsV H y = true → ∀ p H', Same H H' → H p = none → Q (.ref p) H')))
theorem one_mono {vs : List V} {H : Hp} {Q Q' : VK} {E E' : XK} (h : sp__law_one K mg vs H Q E) (hq : ∀ v H1, Q v H1 → Q' v H1) (he : ∀ c d H1, E c d H1 → E' c d H1) : sp__law_one K mg vs H Q' E' := by
  obtain ⟨kind, u, x, y, h1, h2, h3, h4, h5⟩ := h
  refine ⟨kind, u, x, y, h1, h2, h3, h4, ?_⟩
  rcases h5 with ⟨a, b, c, d⟩ | ⟨a, b, c, d, e⟩
  · exact .inl ⟨a, b, c, fun H' s => he _ _ _ (d H' s)⟩
  · exact .inr ⟨a, b, c, fun f H' s => he _ _ _ (d f H' s), fun f p H' s g => hq _ _ (e f p H' s g)⟩
theorem f__law_one (T : Txt K mg) : Fk P w K mg base (L2.CX P w) lv__law_one "_law_one" pm__law_one (sp__law_one K mg) := by
  obtain ⟨f, fd, F, g, b⟩ := T.d__law_one.ex
  refine ⟨f, fd, g, F.kp, b, F.okX sc__law_one (fun vs H Q E h => ?_) (fun cdv A outer s H vs Q E hr h => ?_)⟩
  · obtain ⟨kind, u, x, y, rfl, _⟩ := h; rfl
  · obtain ⟨kind, u, x, y, rfl, hu, hx, hy, h⟩ := h
    refine ⟨_, (pss_cons (ps_asg (pv 1) (pg_tup rfl (pgs_cons (pg_name (i := 2) sc__law_one.nd rfl (Or.inl rfl)) (pgs_cons (pg_name (i := 3) sc__law_one.nd rfl (Or.inl rfl)) pgs_nil))))
      (pss_cons (ps_if (pt_cmpR op_lt (pv 0) pe_int (nomark _)) (pss_one (ps_ret (pe_ifExp (pt_cmpR op_eq (pv 0) pe_int (nomark _)) (pe_fn (f_kept T) (hr.mono (by decide)) (by rfl) (passX (takes_of rfl rfl rfl rfl)) (pa_cons (pv 2) (pa_cons (pv 3) pa_nil))) (pe_fn (f_reasons T) (hr.mono (by decide)) (by rfl) (passX (takes_of rfl rfl rfl rfl)) (pa_cons (pv 2) (pa_cons (pv 3) pa_nil)))))) pss_nil)
      (pss_cons (ps_if (pt_cmpR op_lt (pv 0) pe_int (nomark _)) (pss_one (ps_ret (pe_ifExp (pt_cmpR op_eq (pv 0) pe_int (nomark _)) (pe_callB (cr_lenO T.o_Keep (f_Keep____len__ T) (hr.mono (by decide)) pass0) (by rfl) T.b_len PySem.boot_len (pa_cons (pe_new T.o_Keep (f_Keep____init__ T) (hr.mono (by decide)) (by rfl) (passX (takes_of rfl rfl rfl rfl)) (pa_cons (pv 2) pa_nil)) pa_nil)) (pe_callB (cr_lenO T.o_Store (f_Store____len__ T) (hr.mono (by decide)) pass0) (by rfl) T.b_len PySem.boot_len (pa_cons (pe_newK (n := 1) (ks := ["longest"]) T.o_Store (f_Store____init__ T) (by simp) (hr.mono (by decide)) (by rfl) (passX (takes_of rfl rfl rfl rfl)) (fun _ _ _ _ _ _ _ us its ws h1 h2 h3 => match us, its, ws, h1, h2, h3 with | [_, _], [_], [_], _, _, _ => ⟨_, rfl, rfl⟩) (pa_cons (pv 2) pa_nil) (pk_cons (pv 3) pk_nil)) pa_nil))))) pss_nil)
      (pss_cons (ps_if (pt_cmpR op_lt (pv 0) pe_int (nomark _)) (pss_one (ps_ret (pe_ifExp (pt_cmpR op_eq (pv 0) pe_int (nomark _)) (pe_fn (f_held_at T) (hr.mono (by decide)) (by rfl) (passX (takes_of rfl rfl rfl rfl)) (pa_cons (pv 2) (pa_cons (pv 3) pa_nil))) (pe_fn (f_gap T) (hr.mono (by decide)) (by rfl) (passX (takes_of rfl rfl rfl rfl)) (pa_cons (pv 2) (pa_cons (pv 3) pa_nil)))))) pss_nil)
      (pss_cons (ps_if (pt_cmpR op_lt (pv 0) pe_int (nomark _)) (pss_one (ps_ret (pe_ifExp (pt_cmpR op_eq (pv 0) pe_int (nomark _)) (pe_fn (f_turn T) (hr.mono (by decide)) (by rfl) (passX (takes_of rfl rfl rfl rfl)) (pa_cons (pv 2) pa_nil)) (pe_fn (f_lean T) (hr.mono (by decide)) (by rfl) (passX (takes_of rfl rfl rfl rfl)) (pa_cons (pv 2) pa_nil))))) pss_nil)
      (pss_cons (ps_if (pt_cmpR op_lt (pv 0) pe_int (nomark _)) (pss_one (ps_ret (pe_ifExp (pt_cmpR op_eq (pv 0) pe_int (nomark _)) (pe_fn (f_most T) (hr.mono (by decide)) (by rfl) (passX (takes_of rfl rfl rfl rfl)) (pa_cons (pv 2) pa_nil)) (pe_fn (f_full T) (hr.mono (by decide)) (by rfl) (passX (takes_of rfl rfl rfl rfl)) (pa_cons (pv 2) pa_nil))))) pss_nil)
      (pss_one (ps_ret (pe_ifExp (pt_cmpR op_eq (pv 0) pe_int (nomark _)) (pe_fn (f_within T) (hr.mono (by decide)) (by rfl) (passX (takes_of rfl rfl rfl rfl)) (pa_cons (pv 2) (pa_cons (pv 3) pa_nil))) (pe_fn (f_within T) (hr.mono (by decide)) (by rfl) (passX (takes_of rfl rfl rfl rfl)) (pa_cons (pe_tup (pa_cons (pe_tup (pa_cons (pe_tup (pa_cons pe_int pa_nil)) (pa_cons pe_int pa_nil))) pa_nil)) (pa_cons (pv 2) pa_nil)))))))))))), ?_⟩
    with_reducible refine seq_k fun K_ hK_ => ?_
    walk_at "rt"
    refine ⟨u, _, rfl, sqT hu, rfl, ?_⟩
    walk_at "rt"
    subst hK_
    first | with_reducible refine seq_k fun K_ hK_ => ?_ | skip
    walk_at "rt"
    rcases h with ⟨hb, k0, k11, q⟩ | ⟨hb, k0, k1, q1, q2⟩
    · have nx := fun (H1 : Hp) (s1 : Same H H1) => (isRulesV_same s1 hx).trans hb
      have spr : ∀ (r : List V) (Q' : VK), spR K mg r.length (x :: r) H Q' E := fun r Q' => ⟨x, r, rfl, rfl, hx, hb, q⟩
      have new2 : ∀ (H1 : Hp) (z dz : Addr) (C : Addr), Same H H1 → H1 z = none → H1 dz = none → Same H (upd (upd H1 dz (.own z)) z (.ins C dz [])) := fun H1 z dz C s hz hdz b o hb => by
        have := s _ _ hb
        rw [upd_ne (ne_of_none this hz), upd_ne (ne_of_none this hdz)]
        exact this
      refine ite2 (fun c => ite2 (fun c2 => ?_) (fun c2 => ?_)) (fun c => ?_)
      · exact ⟨x, y, rfl, hx, hy, fun _ H' s => q H' s, (fun e => by rw [hb] at e; cases e), (fun e => by rw [hb] at e; cases e)⟩
      · exact ⟨x, y, rfl, hx, hy, fun _ H' s => q H' s, (fun e => by rw [hb] at e; cases e), (fun e => by rw [hb] at e; cases e)⟩
      walk_at "rt"
      subst hK_
      first | with_reducible refine seq_k fun K_ hK_ => ?_ | skip
      walk_at "rt"
      refine ite2 (fun c => ite2 (fun c2 => ?_) (fun c2 => ?_)) (fun c => ?_)
      · intro z dz hz hdz hne
        have s1 := new2 H z dz (cls mg "Keep") (Same.refl _) hz hdz
        exact ⟨z, x, rfl, hx.same s1, nx _ s1, fun H' s => q H' (s1.trans s)⟩
      · refine ⟨_, rfl, _, rfl, rfl, rfl, fun z dz hz hdz hne => ?_⟩
        have s1 := new2 H z dz (cls mg "Store") (Same.refl _) hz hdz
        exact ⟨z, x, y, rfl, hx.same s1, nx _ s1, fun H' s => q H' (s1.trans s)⟩
      walk_at "rt"
      subst hK_
      first | with_reducible refine seq_k fun K_ hK_ => ?_ | skip
      walk_at "rt"
      refine ite2 (fun c => ite2 (fun c2 => spr [y] _) (fun c2 => spr [y] _)) (fun c => ?_)
      walk_at "rt"
      subst hK_
      first | with_reducible refine seq_k fun K_ hK_ => ?_ | skip
      walk_at "rt"
      refine ite2 (fun c => ite2 (fun c2 => spr [] _) (fun c2 => spr [] _)) (fun c => ?_)
      walk_at "rt"
      subst hK_
      first | with_reducible refine seq_k fun K_ hK_ => ?_ | skip
      walk_at "rt"
      refine ite2 (fun c => ite2 (fun c2 => spr [] _) (fun c2 => spr [] _)) (fun c => ?_)
      walk_at "rt"
      subst hK_
      first | with_reducible refine seq_k fun K_ hK_ => ?_ | skip
      walk_at "rt"
      refine ite2 (fun c2 => ⟨x, y, rfl, hx, .inl hb, q⟩) (fun c2 => ?_)
      intro r1 n_r1
      generalize hG_ : upd _ r1 _ = H1
      obtain ⟨s1, hr1⟩ := newF n_r1 hG_
      clear hG_
      intro b1 n_b1
      generalize hG_ : upd _ b1 _ = H2
      obtain ⟨s2, hb1⟩ := newF n_b1 hG_
      clear hG_
      intro a1 n_a1
      generalize hG_ : upd _ a1 _ = H3
      obtain ⟨s3, ha1⟩ := newF n_a1 hG_
      clear hG_
      have s03 := s1.trans (s2.trans s3)
      have hr3 := s3 _ _ (s2 _ _ hr1)
      have hb3 := s3 _ _ hb1
      have R3 : RulesAt H3 a1 [([1], 1)] := by
        refine ⟨⟨[.ref b1], ha1, rfl, fun i z hz => ?_⟩, by decide, by decide⟩
        match i, hz with
        | 0, hz =>
          cases hz
          exact ⟨([1], 1), rfl, b1, r1, rfl, hb3, ⟨hr3, ⟨by simp, by simp⟩, by simp, by simp⟩, by decide, by decide⟩
        | i + 1, hz => simp at hz
      exact ⟨_, _, rfl, R3.thing, .inr ⟨hx.same s03, ⟨a1, rfl, R3⟩, nx _ s03⟩, fun H' s => q H' (s03.trans s)⟩
    · rw [if_pos (by omega)]
      refine ite2 (fun c => ?_) (fun c => ?_)
      · refine ⟨x, y, rfl, hx, hy, (fun e => by rw [hb] at e; cases e), fun _ e H' s => q1 e H' s, fun _ e => ?_⟩
        obtain ⟨a, rus, rfl, hR⟩ := rules_at hb
        obtain ⟨l, ns, rfl, hl, _, hrise⟩ := nights_at e
        exact ⟨a, l, rus, ns, rfl, rfl, hR, sqL hl, hrise, fun p H' s hp _ => q2 e p H' s hp⟩
      · refine ⟨x, y, rfl, hx, hy, (fun e => by rw [hb] at e; cases e), fun _ e H' s => q1 e H' s, fun _ e => ?_⟩
        obtain ⟨a, rus, rfl, hR⟩ := rules_at hb
        obtain ⟨l, ns, rfl, hl, h100, hrise⟩ := nights_at e
        exact ⟨a, l, rus, ns, rfl, rfl, hR, sqL hl, by omega, fun p _ H' s hp _ _ => q2 e p H' s hp⟩
abbrev nm__law_good : List Str := ["thing", "one", "long"]
abbrev pm__law_good : List Str := ["thing"]
abbrev lv__law_good : Nat := 2
theorem sc__law_good : FnScope nm__law_good pm__law_good (defScope s__law_good) := ⟨rfl, rfl, rfl, by decide +kernel, rfl, by decide +kernel, by decide +kernel⟩
def sp__law_good (K : PySem.W.Frag) : Sp := fun vs H Q _ => ∃ (x : V), vs = [x] ∧ DX K H 3 x ∧ ∀ H', Same H H' → Q (.bl (isRulesV H x)) H'
def iv_good (H : Hp) (a : Addr) (xs : List V) (i : Nat) (σ : L2.St) (H' : Hp) : Prop := ∃ (y1 y2 : Option V), σ = [some (.ref a), y1, y2] ∧ Same H H' ∧ ∀ y ∈ xs.take i, isRuleV H y = true
theorem f__law_good (T : Txt K mg) : Fk P w K mg base CX0 lv__law_good "_law_good" pm__law_good (sp__law_good K) := by
  obtain ⟨f, fd, F, g, b⟩ := T.d__law_good.ex
  refine ⟨f, fd, g, F.kp, b, F.ok sc__law_good (fun vs H Q E h => ?_) (fun cdv A outer s H vs Q E hr h => ?_)⟩
  · obtain ⟨x, rfl, _⟩ := h; rfl
  · obtain ⟨x, rfl, ⟨⟨n, th⟩, el⟩, q⟩ := h
    refine ⟨_, (pss_cons (ps_if (PW.pt (pw_or (pt_not (pt_val (pe_callB call_isi (by rfl) T.b_isinstance (by decide +kernel) (pa_cons (pv 0) (pa_cons (pe_bltn (v := .ty "tuple") (by rfl) T.b_tuple (by decide +kernel) rfl) pa_nil))))) (pw_or1 (pt_cmpR op_notInR (pe_callB call_len_seq (by rfl) T.b_len PySem.boot_len (pa_cons (pv 0) pa_nil)) (pe_callTy cr_rangeV (by rfl) T.b_range (by decide +kernel) (pa_cons pe_int (pa_cons pe_int pa_nil))) (by rfl))))) (pss_one (ps_ret pe_bl)) pss_nil)
      (pss_cons (ps_for PassesOwn.never rfl (pi_tup (pv 0)) (pg_name (i := 1) sc__law_good.nd rfl (Or.inl rfl)) (pss_cons (ps_if (PW.pt (pw_or (pt_not (pt_val (pe_callB call_isi (by rfl) T.b_isinstance (by decide +kernel) (pa_cons (pv 1) (pa_cons (pe_bltn (v := .ty "tuple") (by rfl) T.b_tuple (by decide +kernel) rfl) pa_nil))))) (pw_or (pt_cmpR op_ne (pe_callB call_len_seq (by rfl) T.b_len PySem.boot_len (pa_cons (pv 1) pa_nil)) pe_int (nomark _)) (pw_or1 (pt_not (pt_val (pe_callB call_isi (by rfl) T.b_isinstance (by decide +kernel) (pa_cons (pe_ix ix_tup (pv 1) pe_int (fun _ _ => rfl)) (pa_cons (pe_bltn (v := .ty "tuple") (by rfl) T.b_tuple (by decide +kernel) rfl) pa_nil))))))))) (pss_one (ps_ret pe_bl)) pss_nil)
      (pss_cons (ps_if (PW.pt (pw_or (pt_cmpR op_notInR (pe_callB call_len_seq (by rfl) T.b_len PySem.boot_len (pa_cons (pe_ix ix_tup (pv 1) pe_int (fun _ _ => rfl)) pa_nil)) (pe_callTy cr_rangeV (by rfl) T.b_range (by decide +kernel) (pa_cons pe_int (pa_cons pe_int pa_nil))) (by rfl)) (pw_or (pt_not (pt_val (pe_fn (f__law_whole T) (hr.mono (by decide)) (by rfl) pass0 (pa_cons (pe_ix ix_tup (pv 1) pe_int (fun _ _ => rfl)) pa_nil)))) (pw_or1 (pt_cmpR op_notInR (pe_ix ix_tup (pv 1) pe_int (fun _ _ => rfl)) (pe_callTy cr_rangeV (by rfl) T.b_range (by decide +kernel) (pa_cons pe_int (pa_cons pe_int pa_nil))) (by rfl)))))) (pss_one (ps_ret pe_bl)) pss_nil)
      (pss_one (ps_if (pt_cmpR (op_neD hr.units) (pe_lc (own := [("long", 2)]) (g := gName 2) (by rfl) sc__law_good.nd (pi_tup (pe_ix ix_tup (pv 1) pe_int (fun _ _ => rfl))) (blkOk_by (own := [("long", 2)]) (N := nm__law_good) (sc := defScope s__law_good) (by decide +kernel)) (fun _ _ _ _ _ => (pg_name (i := 2) sc__law_good.nd rfl (Or.inl rfl))) (fun _ _ _ _ _ => (pts_one (PW.pt (pw_or (pt_not (pt_val (pe_fn (f__law_whole T) (hr.mono (by decide)) (by rfl) pass0 (pa_cons (pv 2) pa_nil)))) (pw_or1 (pt_cmpR op_notInR (pv 2) (pe_callTy cr_rangeV (by rfl) T.b_range (by decide +kernel) (pa_cons pe_int (pa_cons pe_int pa_nil))) (by rfl))))))) (fun _ _ _ _ _ => (pv 2))) (pe_lst pa_nil) (nomark _)) (pss_one (ps_ret pe_bl)) pss_nil)))))
      (pss_one (ps_ret pe_bl)))), ?_⟩
    with_reducible refine seq_k fun K_ hK_ => ?_
    walk_at "rt"
    refine isi_thing th (by decide) ?_
    cases th with
    | @tup a xs ha =>
      obtain ⟨hz, hel⟩ := el a xs rfl (.inl ha)
      refine ⟨true, rfl, ?_⟩
      walk_at "rt"
      refine ⟨xs, .inr (sqT ha), 1, 6, rfl, fun r hr => ?_⟩
      have s1 := same_upd (o := .rng 1 6) hr
      refine ⟨_, r, 1, 6, rfl, rfl, upd_same, _, rfl, ?_⟩
      have e0 : isRulesV H (.ref a) = (decide (1 ≤ xs.length) && decide (xs.length ≤ 5) && xs.all (isRuleV H)) := by
        simp only [isRulesV, ha]
      by_cases c : 1 ≤ xs.length ∧ xs.length ≤ 5
      · rw [if_neg (by simp; omega)]
        generalize upd H r (.rng 1 6) = H1 at s1 ⊢
        have ha1 := s1 _ _ ha
        walk_at "rt"
        subst hK_
        first | with_reducible refine seq_k fun K_ hK_ => ?_ | skip
        walk_at "rt"
        refine ⟨⟨_, sqT ha1⟩, for_tup (K := K) (a := a) (xs := xs) (iv_good H a xs) ⟨none, none, rfl, s1, fun y h => nomatch h⟩ (fun i σ H2 _ p => ?_) ?_ ?_⟩
        · obtain ⟨_, _, _, s2, _⟩ := p
          exact sqT (s2 _ _ ha)
        · rintro i y σ H2 hy ⟨y1, y2, rfl, s2, hall⟩
          have hye := hel y (mem_of_get hy)
          have bad : isRuleV H y = false → ∀ H', Same H H' → Q (.bl false) H' := fun e H' s' => by
            have : isRulesV H (.ref a) = false := by
              rw [e0]
              have : xs.all (isRuleV H) = false := by
                rw [Bool.eq_false_iff]
                intro h
                rw [List.all_eq_true.mp h y (mem_of_get hy)] at e
                cases e
              rw [this, Bool.and_false]
            rw [← this]
            exact q _ s'
          walk_at "rt"
          with_reducible refine seq_k fun K_ hK_ => ?_
          walk_at "rt"
          obtain ⟨⟨n, thy⟩, ely⟩ := hye
          refine isi_thing (thy.same s2) (by decide) ?_
          cases thy with
          | @tup b ys hb =>
            obtain ⟨_, hely⟩ := ely b ys rfl (.inl hb)
            have hb2 := s2 _ _ hb
            refine ⟨true, rfl, ?_⟩
            rw [if_neg (by decide)]
            refine ⟨b, rfl, ys, .inr (sqT hb2), ?_⟩
            match ys, hb, hb2, hely with
            | [r, m], hb, hb2, hely =>
              rw [if_neg (by simp)]
              have e1 : isRuleV H (.ref b) = (isRoundsV H r && isNumV m 1 (.int 20)) := by simp only [isRuleV, hb]
              refine ixT (j := 0) (sqT hb2) rfl rfl ?_
              obtain ⟨⟨nr, thr⟩, elr⟩ := hely r (by simp)
              obtain ⟨nm, thm⟩ := (hely m (by simp)).th
              refine isi_thing (thr.same s2) (by decide) ?_
              cases thr with
              | @tup d zs hd =>
                obtain ⟨_, helz⟩ := elr d zs rfl (.inl hd)
                have hd2 := s2 _ _ hd
                have e2 : isRoundsV H (.ref d) = (decide (1 ≤ zs.length) && decide (zs.length ≤ 12) && zs.all fun y => isNumV y 1 (.int 31)) := by simp only [isRoundsV, hd]
                refine ⟨true, rfl, ?_⟩
                rw [if_neg (by decide)]
                walk_at "rt"
                subst hK_
                first | with_reducible refine seq_k fun K_ hK_ => ?_ | skip
                walk_at "rt"
                refine ixT (j := 0) (sqT hb2) rfl rfl ?_
                refine ⟨d, rfl, zs, .inr (sqT hd2), 1, 13, rfl, ?_⟩
                intro g1 n_g1
                generalize hG_ : upd _ g1 _ = H3
                obtain ⟨s3, hg1⟩ := newF n_g1 hG_
                clear hG_
                have s03 := s2.trans s3
                refine ⟨_, g1, 1, 13, rfl, rfl, hg1, _, rfl, ?_⟩
                by_cases c1 : 1 ≤ zs.length ∧ zs.length ≤ 12
                · rw [if_neg (by simp; omega)]
                  refine ixT (j := 1) (sqT (s3 _ _ hb2)) rfl rfl ?_
                  refine ⟨m, nm, rfl, thm.same s03, _, rfl, ?_⟩
                  cases m with
                  | int j =>
                    rw [if_neg (by simp [isWholeV])]
                    refine ixT (j := 1) (sqT (s3 _ _ hb2)) rfl rfl ?_
                    refine ⟨1, 21, rfl, ?_⟩
                    intro g2 n_g2
                    generalize hG_ : upd _ g2 _ = H4
                    obtain ⟨s4, hg2⟩ := newF n_g2 hG_
                    clear hG_
                    have s04 := s03.trans s4
                    refine ⟨j, g2, 1, 21, rfl, rfl, hg2, _, rfl, ?_⟩
                    by_cases c2 : 1 ≤ j ∧ j ≤ 20
                    · rw [if_neg (by simp; omega)]
                      have e3 : isNumV (.int j) 1 (.int 20) = true := by simp [isNumV]; omega
                      rw [e3, Bool.and_true] at e1
                      have hd4 := s04 _ _ hd
                      walk_at "rt"
                      subst hK_
                      first | with_reducible refine seq_k fun K_ hK_ => ?_ | skip
                      walk_at "rt"
                      refine ixT (j := 0) (sqT (s04 _ _ hb)) rfl rfl ?_
                      refine ⟨d, rfl, ⟨_, sqT hd4⟩, fun D hD => ?_⟩
                      refine lcT hD (sqT hd4) (fun i => (zs.take i).filter fun y => !isNumV y 1 (.int 31)) rfl (fun i y H5 hy p => ?_) (fun H5 s5 hD5 => ?_)
                      · walk_at "rt"
                        have ho := (helz y (mem_of_get hy)).same (s04.trans p.same)
                        have hi := lt_of_get hy
                        have hfl := filter_take_next (fun y => !isNumV y 1 (.int 31)) hy
                        have hfn := filter_len zs (fun y => !isNumV y 1 (.int 31)) i
                        obtain ⟨⟨k, hk⟩, _⟩ := ho
                        have push : isNumV y 1 (.int 31) = false → ∀ H6, Same H5 H6 → ∃ acc, H6 D = some (.lst acc) ∧ acc.length < sizeLine ∧ LcP H4 D (fun i => (zs.take i).filter fun y => !isNumV y 1 (.int 31)) (i + 1) (upd H6 D (.lst (acc ++ [y]))) := fun e H6 s6 => by
                          refine p.push hD (by omega) s6 ?_
                          show _ = _
                          rw [hfl]
                          simp [e]
                        refine ⟨y, k, rfl, hk, _, rfl, ?_⟩
                        cases y with
                        | int j =>
                          rw [if_neg (by simp [isWholeV])]
                          refine ⟨1, 32, rfl, ?_⟩
                          intro g3 n_g3
                          generalize hG_ : upd _ g3 _ = H6
                          obtain ⟨s6, hg3⟩ := newF n_g3 hG_
                          clear hG_
                          refine ⟨j, g3, 1, 32, rfl, rfl, hg3, _, rfl, ?_⟩
                          by_cases c3 : 1 ≤ j ∧ j ≤ 31
                          · rw [if_neg (by simp; omega)]
                            refine p.skip s6 ?_
                            show _ = _
                            rw [hfl]
                            have e : isNumV (.int j) 1 (.int 31) = true := by simp [isNumV]; omega
                            simp [e]
                          · rw [if_pos (by simp; omega)]
                            exact push (by simp [isNumV]; omega) _ s6
                        | _ =>
                          rw [if_pos (by rfl)]
                          exact push rfl _ (Same.refl _)
                      · rw [List.take_length] at hD5
                        intro e5 n_e5
                        generalize hG_ : upd _ e5 _ = H6
                        obtain ⟨s6, he5⟩ := newF n_e5 hG_
                        clear hG_
                        have s06 := (s04.trans s5).trans s6
                        have dat : ∀ y ∈ zs.filter (fun y => !isNumV y 1 (.int 31)), Dat K H6 2 y := fun y hy => ((helz y (List.mem_filter.mp hy).1).same s06).2
                        refine neE (sqL (s6 _ _ hD5)) dat (sqL he5) (fun z => ⟨_, rfl, ?_⟩) (fun z => ⟨_, rfl, ?_⟩)
                        · rw [if_neg Bool.false_ne_true]
                          refine ⟨_, _, rfl, s06, fun y' hy' => ?_⟩
                          rw [take_next hy] at hy'
                          rcases List.mem_append.mp hy' with hy' | hy'
                          · exact hall y' hy'
                          · rw [List.mem_singleton.mp hy', e1, e2]
                            have : (zs.all fun y => isNumV y 1 (.int 31)) = true := by
                              rw [List.all_eq_true]
                              intro y hy
                              have := List.filter_eq_nil_iff.mp z y hy
                              simpa using this
                            simp [c1, this]
                        · rw [if_pos rfl]
                          refine bad ?_ _ s06
                          rw [e1, e2]
                          have : (zs.all fun y => isNumV y 1 (.int 31)) = false := by
                            rw [Bool.eq_false_iff]
                            intro h
                            apply z
                            rw [List.filter_eq_nil_iff]
                            intro y hy
                            simp [List.all_eq_true.mp h y hy]
                          simp [this]
                    · rw [if_pos (by simp; omega)]
                      exact bad (by rw [e1]; have : isNumV (.int j) 1 (.int 20) = false := by simp [isNumV]; omega
                                    rw [this, Bool.and_false]) _ s04
                  | _ =>
                    rw [if_pos (by rfl)]
                    exact bad (by rw [e1]; simp [isNumV]) _ s03
                · rw [if_pos (by simp; omega)]
                  refine bad ?_ _ s03
                  rw [e1, e2]
                  by_cases c2 : 1 ≤ zs.length
                  · have c3 : ¬ zs.length ≤ 12 := fun h => c1 ⟨c2, h⟩
                    simp [c3]
                  · simp [c2]
              | _ => exact ⟨false, rfl, bad (by rw [e1]; simp [isRoundsV, *]) _ s2⟩
            | [], hb, hb2, _ => rw [if_pos (by simp)]; exact bad (by simp only [isRuleV, hb]) _ s2
            | [_], hb, hb2, _ => rw [if_pos (by simp)]; exact bad (by simp only [isRuleV, hb]) _ s2
            | _ :: _ :: _ :: _, hb, hb2, _ => rw [if_pos (by simp; omega)]; exact bad (by simp only [isRuleV, hb]) _ s2
          | _ => exact ⟨false, rfl, bad (by simp [isRuleV, *]) _ s2⟩
        · rintro σ H2 ⟨y1, y2, rfl, s2, hall⟩
          rw [List.take_length] at hall
          walk_at "rt"
          subst hK_
          first | with_reducible refine seq_k fun K_ hK_ => ?_ | skip
          walk_at "rt"
          have : isRulesV H (.ref a) = true := by
            rw [e0, List.all_eq_true.mpr hall]
            simp [c]
          rw [← this]
          exact q _ s2
      · rw [if_pos (by simp; omega)]
        have : isRulesV H (.ref a) = false := by
          rw [e0]
          by_cases c1 : 1 ≤ xs.length
          · have c2 : ¬ xs.length ≤ 5 := fun h => c ⟨c1, h⟩
            simp [c2]
          · simp [c1]
        rw [← this]
        exact q _ s1
    | _ => exact ⟨false, rfl, by simpa [isRulesV, *] using q H (Same.refl H)⟩
abbrev nm__law_ordered : List Str := ["thing", "one", "other"]
abbrev pm__law_ordered : List Str := ["thing"]
abbrev lv__law_ordered : Nat := 2
theorem sc__law_ordered : FnScope nm__law_ordered pm__law_ordered (defScope s__law_ordered) := ⟨rfl, rfl, rfl, by decide +kernel, rfl, by decide +kernel, by decide +kernel⟩
def badsOf (ns : List Int) (i : Nat) : List Int := ((List.range i).filter fun j => decide (ns.getD (j + 1) 0 ≤ ns.getD j 0)).map fun _ => (1 : Int)
theorem badsOf_succ (ns : List Int) (i : Nat) : badsOf ns (i + 1) = badsOf ns i ++ (if ns.getD (i + 1) 0 ≤ ns.getD i 0 then [1] else []) := by
  unfold badsOf
  rw [List.range_succ, List.filter_append, List.map_append]
  by_cases c : ns.getD (i + 1) 0 ≤ ns.getD i 0
  · rw [if_pos c, List.filter_cons, if_pos (by simpa using c)]; rfl
  · rw [if_neg c, List.filter_cons, if_neg (by simpa using c)]; rfl
theorem badsOf_len (ns : List Int) (i : Nat) : (badsOf ns i).length ≤ i := by
  unfold badsOf
  rw [List.length_map]
  exact Nat.le_trans (List.length_filter_le _ _) (by simp)
theorem badsOf_nil (ns : List Int) : badsOf ns (ns.length - 1) = [] ↔ ns.Pairwise (· < ·) := by
  unfold badsOf
  rw [List.map_eq_nil_iff, List.filter_eq_nil_iff]
  constructor
  · intro h
    refine rise_steps fun i a b ha hb => ?_
    have hi := lt_of_get hb
    have := h i (List.mem_range.mpr (by omega))
    rw [List.getD_eq_getElem?_getD, List.getD_eq_getElem?_getD, ha, hb] at this
    simpa using this
  · intro h i hi
    have hi := List.mem_range.mp hi
    have h1 : i < ns.length := by omega
    have h2 : i + 1 < ns.length := by omega
    have := List.pairwise_iff_getElem.mp h i (i + 1) h1 h2 (by omega)
    rw [List.getD_eq_getElem?_getD, List.getD_eq_getElem?_getD, List.getElem?_eq_getElem h1, List.getElem?_eq_getElem h2]
    simpa using this
def iv_ordered (H1 : Hp) (D : Addr) (ns : List Int) (i : Nat) (H : Hp) : Prop := Same H1 H ∧ H D = some (.lst ((badsOf ns i).map V.int))
def sp__law_ordered (K : PySem.W.Frag) : Sp := fun vs H Q _ => ∃ (x : V), vs = [x] ∧ DX K H 1 x ∧ ∀ H', Same H H' → Q (.bl (isNightsV H x)) H'
theorem f__law_ordered (T : Txt K mg) : Fk P w K mg base CX0 lv__law_ordered "_law_ordered" pm__law_ordered (sp__law_ordered K) := by
  obtain ⟨f, fd, F, g, b⟩ := T.d__law_ordered.ex
  refine ⟨f, fd, g, F.kp, b, F.ok sc__law_ordered (fun vs H Q E h => ?_) (fun cdv A outer s H vs Q E hr h => ?_)⟩
  · obtain ⟨x, rfl, _⟩ := h; rfl
  · obtain ⟨x, rfl, ⟨⟨n, th⟩, el⟩, q⟩ := h
    refine ⟨_, (pss_cons (ps_if (PW.pt (pw_or (pt_not (pt_val (pe_callB call_isi (by rfl) T.b_isinstance (by decide +kernel) (pa_cons (pv 0) (pa_cons (pe_bltn (v := .ty "list") (by rfl) T.b_list (by decide +kernel) rfl) pa_nil))))) (pw_or1 (pt_cmpR op_gt (pe_callB call_len_seq (by rfl) T.b_len PySem.boot_len (pa_cons (pv 0) pa_nil)) pe_int (nomark _))))) (pss_one (ps_ret pe_bl)) pss_nil)
      (pss_cons (ps_if (pt_cmpR (op_neD hr.units) (pe_lc (own := [("one", 1)]) (g := gName 1) (by rfl) sc__law_ordered.nd (pi_list (pv 0)) (blkOk_by (own := [("one", 1)]) (N := nm__law_ordered) (sc := defScope s__law_ordered) (by decide +kernel)) (fun _ _ _ _ _ => (pg_name (i := 1) sc__law_ordered.nd rfl (Or.inl rfl))) (fun _ _ _ _ _ => (pts_one (PW.pt (pw_or (pt_not (pt_val (pe_fn (f__law_whole T) (hr.mono (by decide)) (by rfl) pass0 (pa_cons (pv 1) pa_nil)))) (pw_or (pt_cmpR op_lt (pv 1) pe_int (nomark _)) (pw_or1 (pt_cmpR op_gt (pv 1) (pe_op op_pow pe_int pe_int) (nomark _)))))))) (fun _ _ _ _ _ => (pv 1))) (pe_lst pa_nil) (nomark _)) (pss_one (ps_ret pe_bl)) pss_nil)
      (pss_one (ps_ret (pe_cmpR (op_eqD hr.units) (pe_lc (own := [("one", 1), ("other", 2)]) (g := gTup K 2 (gCons (gName 1) (gCons (gName 2) (gNil)))) (by rfl) sc__law_ordered.nd (pi_zip (by rfl) T.b_zip (pa_cons (pv 0) (pa_cons (pe_slice sl_list (pv 0) (po_some pe_int) po_none) pa_nil))) (blkOk_by (own := [("one", 1), ("other", 2)]) (N := nm__law_ordered) (sc := defScope s__law_ordered) (by decide +kernel)) (fun _ _ _ _ _ => (pg_tupK K rfl rfl (pgs_cons (pg_name (i := 1) sc__law_ordered.nd rfl (Or.inl rfl)) (pgs_cons (pg_name (i := 2) sc__law_ordered.nd rfl (Or.inl rfl)) pgs_nil)))) (fun _ _ _ _ _ => (pts_one (pt_cmpR op_ge (pv 1) (pv 2) (nomark _)))) (fun _ _ _ _ _ => pe_int)) (pe_lst pa_nil) (nomark _)))))), ?_⟩
    with_reducible refine seq_k fun K_ hK_ => ?_
    walk_at "rt"
    refine isi_thing th (by decide) ?_
    cases th with
    | @lst a xs ha =>
      obtain ⟨hz, hel⟩ := el a xs rfl (.inr ha)
      have e0 : isNightsV H (.ref a) = (decide (xs.length ≤ 100) && xs.all (fun y => isNumV y 0 (.int 1000000000)) && riseV xs) := by simp only [isNightsV, ha]
      refine ⟨true, rfl, ?_⟩
      walk_at "rt"
      refine ⟨xs, .inl (sqL ha), ?_⟩
      refine ite2 (fun c1 => ?_) (fun c1 => ?_)
      · have : isNightsV H (.ref a) = false := by
          rw [e0]
          have c2 : ¬ xs.length ≤ 100 := by omega
          simp [c2]
        rw [← this]
        exact q _ (Same.refl _)
      have hx100 : xs.length ≤ 100 := by omega
      rw [decide_eq_true hx100, Bool.true_and] at e0
      walk_at "rt"
      subst hK_
      first | with_reducible refine seq_k fun K_ hK_ => ?_ | skip
      walk_at "rt"
      refine ⟨⟨_, sqL ha⟩, fun D hD => ?_⟩
      refine lcL hD (sqL ha) (fun i => (xs.take i).filter fun y => !isNumV y 0 (.int 1000000000)) rfl (fun i y H5 hy p => ?_) (fun H5 s5 hD5 => ?_)
      · walk_at "rt"
        have ho := (hel y (mem_of_get hy)).same p.same
        have hfl := filter_take_next (fun y => !isNumV y 0 (.int 1000000000)) hy
        have hfn := filter_len xs (fun y => !isNumV y 0 (.int 1000000000)) i
        obtain ⟨⟨k, hk⟩, _⟩ := ho
        have push : isNumV y 0 (.int 1000000000) = false → ∃ acc, H5 D = some (.lst acc) ∧ acc.length < sizeLine ∧ LcP H D (fun i => (xs.take i).filter fun y => !isNumV y 0 (.int 1000000000)) (i + 1) (upd H5 D (.lst (acc ++ [y]))) := fun e => by
          refine p.push hD (by omega) (Same.refl _) ?_
          show _ = _
          rw [hfl]
          simp [e]
        have hpow : (10 : Int) ^ Int.toNat 9 = 1000000000 := by decide
        refine ⟨y, k, rfl, hk, _, rfl, ?_⟩
        cases y with
        | int j =>
          rw [if_neg (by simp [isWholeV])]
          refine ⟨j, rfl, ?_⟩
          refine ite2 (fun c1 => push (by simp [isNumV]; omega)) (fun c1 => ⟨⟨by decide, by decide⟩, j, rfl, ?_⟩)
          rw [hpow]
          refine ite2 (fun c2 => push (by simp [isNumV]; omega)) (fun c2 => ?_)
          refine p.skip (Same.refl _) ?_
          show _ = _
          rw [hfl]
          have e : isNumV (.int j) 0 (.int 1000000000) = true := by simp [isNumV]; omega
          simp [e]
        | _ =>
          rw [if_pos (by rfl)]
          exact push rfl
      · rw [List.take_length] at hD5
        intro e5 n_e5
        generalize hG_ : upd _ e5 _ = H6
        obtain ⟨s6, he5⟩ := newF n_e5 hG_
        clear hG_
        have s06 := s5.trans s6
        have dat : ∀ y ∈ xs.filter (fun y => !isNumV y 0 (.int 1000000000)), Dat K H6 2 y := fun y hy => ((hel y (List.mem_filter.mp hy).1).same s06).2
        refine neE (sqL (s6 _ _ hD5)) dat (sqL he5) (fun z => ⟨_, rfl, ?_⟩) (fun z => ⟨_, rfl, ?_⟩)
        · rw [if_neg Bool.false_ne_true]
          have hall : (xs.all fun y => isNumV y 0 (.int 1000000000)) = true := by
            rw [List.all_eq_true]
            intro y hy
            have := List.filter_eq_nil_iff.mp z y hy
            simpa using this
          obtain ⟨ns, rfl, hns⟩ := allNum hall
          rw [hall, Bool.true_and] at e0
          rw [List.length_map] at hx100
          have ha6 := s06 _ _ ha
          walk_at "rt"
          subst hK_
          first | with_reducible refine seq_k fun K_ hK_ => ?_ | skip
          walk_at "rt"
          refine ⟨a, _, rfl, sqL ha6, ?_⟩
          intro c7 n_c7
          generalize hG_ : upd _ c7 _ = H7
          obtain ⟨s7, hc7⟩ := newF n_c7 hG_
          clear hG_
          have hc7 : H7 c7 = some (.lst ((ns.drop 1).map V.int)) := by
            rw [hc7, show cutV (ns.map V.int) (some 1) none = (ns.map V.int).drop 1 from cut_from _ 1, List.map_drop]
          have s07 := s06.trans s7
          have ha7 := s7 _ _ ha6
          refine ⟨c7, rfl, _, sqL ha7, _, sqL hc7, fun D2 hD2 => ?_⟩
          have hn : ns.length - 1 = min (ns.map V.int).length ((ns.drop 1).map V.int).length := by simp
          refine lc_it (walk_zip hn) (iv_ordered H7 D2 ns) ⟨same_upd hD2, upd_same⟩ (fun i H5 _ p => ⟨sqL (p.1 _ _ ha7), sqL (p.1 _ _ hc7)⟩) (fun i v H8 H9 hi p hv => ?_) fun H8 p => ?_
          · obtain ⟨s8, hD8⟩ := p
            obtain ⟨t, u, v, rfl, ht, rfl, hu, hv⟩ := hv
            have hu : (ns.map V.int)[i]? = some u := hu
            have hv : ((ns.drop 1).map V.int)[i]? = some v := hv
            rw [List.getElem?_map] at hu hv
            rw [List.getElem?_drop, Nat.add_comm] at hv
            cases eu : ns[i]? with
            | none => rw [eu] at hu; cases hu
            | some x =>
            rw [eu] at hu
            cases hu
            cases ev : ns[i + 1]? with
            | none => rw [ev] at hv; cases hv
            | some y =>
            rw [ev] at hv
            cases hv
            have s9 := s8.trans (same_upd (o := .tup [.int x, .int y]) ht)
            have hD9 := (same_upd (o := .tup [.int x, .int y]) ht) _ _ hD8
            have hg1 : ns.getD (i + 1) 0 = y := by rw [List.getD_eq_getElem?_getD, ev]; rfl
            have hg0 : ns.getD i 0 = x := by rw [List.getD_eq_getElem?_getD, eu]; rfl
            have hbs := badsOf_succ ns i
            rw [hg1, hg0] at hbs
            have hbl := badsOf_len ns i
            have hi2 := lt_of_get ev
            refine ⟨t, [.int x, .int y], rfl, sqT upd_same, rfl, ?_⟩
            walk_at "rt"
            refine ite2 (fun c1 => ?_) (fun c1 => ?_)
            · refine ⟨_, hD9, szl (by rw [List.length_map]; omega), Same.app s9 hD2, ?_⟩
              rw [upd_same, hbs, if_pos c1, List.map_append]
              rfl
            · refine ⟨s9, ?_⟩
              rw [hbs, if_neg c1, List.append_nil]
              exact hD9
          · obtain ⟨s8, hD8⟩ := p
            intro e9 n_e9
            generalize hG_ : upd _ e9 _ = H9
            obtain ⟨s9, he9⟩ := newF n_e9 hG_
            clear hG_
            have s09 := (s07.trans s8).trans s9
            refine eqD (d := dLI (badsOf ns (ns.length - 1))) (e := dLI []) (dp_LI (sqL (s9 _ _ hD8))) (dp_LI (sqL he9)) (gd_dLI (k := 0) _) (gd_dLI (k := 0) _) (fun e => ?_) (fun e => ?_)
            · have h1 := (badsOf_nil ns).mp (dLI_inj.mp e)
              rw [(riseV_ints ns).mpr h1] at e0
              rw [← e0]
              exact q _ s09
            · have h1 : riseV (ns.map V.int) = false := by
                rw [Bool.eq_false_iff]
                intro h
                exact e (by rw [(badsOf_nil ns).mpr ((riseV_ints ns).mp h)])
              rw [h1] at e0
              rw [← e0]
              exact q _ s09
        · rw [if_pos rfl]
          have : (xs.all fun y => isNumV y 0 (.int 1000000000)) = false := by
            rw [Bool.eq_false_iff]
            intro h
            apply z
            rw [List.filter_eq_nil_iff]
            intro y hy
            simp [List.all_eq_true.mp h y hy]
          rw [this, Bool.false_and] at e0
          rw [← e0]
          exact q _ s06
    | _ => exact ⟨false, rfl, by simpa [isNightsV, *] using q H (Same.refl H)⟩
end
end Nk
namespace Nk
open PySem L2
section
variable {P : Program} {w : World} {K : PySem.W.Frag} {mg : Str → Option Value} {base : Heap}
theorem RndsAt.dx {H : Hp} {a : Addr} {rs : List Int} (h : RndsAt H a rs) {k : Nat} : DX K H (k + 1) (.ref a) := by
  refine dx_tup h.at_ (by have := h.ln; simp; omega) fun y hy => ?_
  obtain ⟨i, _, rfl⟩ := List.mem_map.mp hy
  exact dx_int i
theorem RuleAt.dx {H : Hp} {x : V} {ru : List Int × Int} (h : RuleAt H x ru) {k : Nat} : DX K H (k + 2) x := by
  obtain ⟨b, r, rfl, hb, hr, _, _⟩ := h
  refine dx_tup hb (by simp) fun y hy => ?_
  simp only [List.mem_cons, List.not_mem_nil, or_false] at hy
  rcases hy with rfl | rfl
  · exact hr.dx
  · exact dx_int _
theorem RuleVs.dx {H : Hp} {xs : List V} {rus : List (List Int × Int)} (h : RuleVs H xs rus) : ∀ y ∈ xs, DX K H 2 y := fun y hy => by
  obtain ⟨i, hi, e⟩ := List.mem_iff_getElem.mp hy
  obtain ⟨ru, _, hr⟩ := h.2 i y (by rw [List.getElem?_eq_getElem hi, e])
  exact hr.dx
theorem DX.but {H H' : Hp} {t : Addr} (T : ∃ l, H t = some (.lst l)) (b : But t H H') : ∀ {k : Nat} {x : V}, DX K H k x → (∀ a, x = .ref a → a ≠ t) → (∀ a xs, x = .ref a → (H a = some (.tup xs) ∨ H a = some (.lst xs)) → ∀ y ∈ xs, DX K H' (k - 1) y) → 0 < k → DX K H' k x := by
  intro k x h hn hi h0
  obtain ⟨k, rfl⟩ : ∃ j, k = j + 1 := ⟨k - 1, by omega⟩
  obtain ⟨⟨n, th⟩, el⟩ := h
  cases th with
  | non => exact dx_non
  | bl b => exact dx_bl b
  | int i => exact dx_int i
  | str s => exact ⟨⟨_, .str s⟩, fun a xs e => nomatch e⟩
  | @lst a xs h => exact dx_lst (b _ _ h (hn a rfl)) (el a xs rfl (.inr h)).1 (hi a xs rfl (.inr h))
  | @tup a xs h => exact dx_tup (b _ _ h (hn a rfl)) (el a xs rfl (.inl h)).1 (hi a xs rfl (.inl h))
  | dic h => exact dx_dic (b _ _ h (hn _ rfl))
theorem cut_to (xs : List V) (j : Nat) : cutV xs none (some (j : Int)) = xs.take j := by
  unfold cutV
  rw [HT.sIx_none, HT.sIx_nat, List.drop_zero, Nat.sub_zero]
  by_cases h : j ≤ xs.length
  · rw [Nat.min_eq_left h]
  · rw [Nat.min_eq_right (by omega), List.take_of_length_le (Nat.le_refl _), List.take_of_length_le (by omega)]
/-- some[:j] and some[j + 1:], new ones -/
theorem cut_head {H : Hp} {p : Addr} {xs : List V} {j : Nat} {Q : VK} (hp : H p = some (.tup xs)) (hj : j < xs.length) (q : ∀ u H', Same H H' → H' u = some (.tup (xs.take j)) → Q (.ref u) H') : rSlT K (.ref p) none (some (j : Int)) H Q := by
  refine ⟨p, xs, rfl, sqT hp, ?_, fun u hu => ?_⟩
  · rw [HT.sIx_nat]
    omega
  · rw [cut_to]
    exact q u _ (same_upd hu) upd_same
theorem cut_tail {H : Hp} {p : Addr} {xs : List V} {j : Nat} {Q : VK} (hp : H p = some (.tup xs)) (hj : j < xs.length) (q : ∀ u H', Same H H' → H' u = some (.tup (xs.drop (j + 1))) → Q (.ref u) H') : rSlT K (.ref p) (some ((j : Int) + 1)) none H Q := by
  have e : ((j : Int) + 1) = ((j + 1 : Nat) : Int) := by omega
  rw [e]
  refine ⟨p, xs, rfl, sqT hp, ?_, fun u hu => ?_⟩
  · rw [HT.sIx_nat]
    omega
  · rw [cut_from]
    exact q u _ (same_upd hu) upd_same
abbrev nm__law_spoilt : List Str := ["script", "town", "some", "way", "at", "rounds", "many", "one", "some_odd"]
abbrev pm__law_spoilt : List Str := ["script", "town", "some"]
abbrev lv__law_spoilt : Nat := 3
theorem sc__law_spoilt : FnScope nm__law_spoilt pm__law_spoilt (defScope s__law_spoilt) := ⟨rfl, rfl, rfl, by decide +kernel, rfl, by decide +kernel, by decide +kernel⟩
def sp__law_spoilt (K : PySem.W.Frag) : Sp := fun vs H Q _ => ∃ (a t r : Addr) (ns : List Int) (c : Nat) (xs : List V) (rus : List (List Int × Int)), vs = [.ref a, .ref t, .ref r] ∧ Tn K H a t ns c ∧ c < 900000000 ∧ H r = some (.tup xs) ∧ RuleVs H xs rus ∧ 1 ≤ rus.length ∧ rus.length ≤ 6 ∧
  ∀ x c' H', (∀ H'', But t H' H'' → DX K H'' 3 x) → c' ≤ c + 3 → Tn K H' a t ns c' → But t H H' → Q x H'
theorem f__law_spoilt (T : Txt K mg) : Fk P w K mg base CX0 lv__law_spoilt "_law_spoilt" pm__law_spoilt (sp__law_spoilt K) := by
  obtain ⟨f, fd, F, g, b⟩ := T.d__law_spoilt.ex
  refine ⟨f, fd, g, F.kp, b, F.ok sc__law_spoilt (fun vs H Q E h => ?_) (fun cdv A outer s H vs Q E hr h => ?_)⟩
  · obtain ⟨a, t, r, ns, c, xs, rus, rfl, _⟩ := h; rfl
  · obtain ⟨a, t, r, ns, c, xs, rus, rfl, hT, hc, hr0, hv0, l1, l6, q⟩ := h
    refine ⟨_, (pss_cons (ps_set (i := 3) sc__law_spoilt.nd rfl (.inl rfl) (pe_fn (f__law_draw T) (hr.mono (by decide)) (by rfl) pass0 (pa_cons (pv 0) (pa_cons (pv 1) (pa_cons pe_int pa_nil)))))
      (pss_cons (ps_set (i := 4) sc__law_spoilt.nd rfl (.inl rfl) (pe_fn (f__law_draw T) (hr.mono (by decide)) (by rfl) pass0 (pa_cons (pv 0) (pa_cons (pv 1) (pa_cons (pe_callB call_len_seq (by rfl) T.b_len PySem.boot_len (pa_cons (pv 2) pa_nil)) pa_nil)))))
      (pss_cons (ps_asg (pe_ix ix_tup (pv 2) (pv 4) (fun _ _ => rfl)) (pg_tup rfl (pgs_cons (pg_name (i := 5) sc__law_spoilt.nd rfl (Or.inl rfl)) (pgs_cons (pg_name (i := 6) sc__law_spoilt.nd rfl (Or.inl rfl)) pgs_nil))))
      (pss_cons (ps_if (pt_cmpR op_eq (pv 3) pe_int (nomark _)) (pss_one (ps_set (i := 7) sc__law_spoilt.nd rfl (.inl rfl) (pe_tup (pa_cons (pv 5) (pa_cons (pe_fn (f__law_pick T) (hr.mono (by decide)) (by rfl) pass0 (pa_cons (pv 0) (pa_cons (pv 1) (pa_cons (pe_lst (pa_cons pe_int (pa_cons pe_int (pa_cons pe_int (pa_cons pe_int (pa_cons pe_bl (pa_cons pe_non (pa_cons pe_str (pa_cons (pe_tup (pa_cons pe_int pa_nil)) pa_nil))))))))) pa_nil)))) pa_nil))))) (pss_one (ps_if (pt_cmpR op_eq (pv 3) pe_int (nomark _)) (pss_one (ps_set (i := 7) sc__law_spoilt.nd rfl (.inl rfl) (pe_tup (pa_cons (pe_op op_catT3 (pv 5) (pe_fn (f__law_pick T) (hr.mono (by decide)) (by rfl) pass0 (pa_cons (pv 0) (pa_cons (pv 1) (pa_cons (pe_lst (pa_cons (pe_tup (pa_cons pe_int pa_nil)) (pa_cons (pe_tup (pa_cons pe_int pa_nil)) (pa_cons (pe_tup (pa_cons pe_bl pa_nil)) (pa_cons (pe_tup (pa_cons pe_str pa_nil)) (pa_cons (pe_op op_repT (pe_tup (pa_cons pe_int pa_nil)) pe_int) (pa_cons (pe_tup (pa_cons pe_non pa_nil)) pa_nil))))))) pa_nil))))) (pa_cons (pv 6) pa_nil))))) (pss_one (ps_if (pt_cmpR op_eq (pv 3) pe_int (nomark _)) (pss_cons (ps_set (i := 8) sc__law_spoilt.nd rfl (.inl rfl) (pe_lst (pa_cons pe_non (pa_cons (pe_tup (pa_cons (pv 5) pa_nil)) (pa_cons (pe_tup (pa_cons (pv 5) (pa_cons (pv 6) (pa_cons (pv 6) pa_nil)))) (pa_cons (pe_lst (pa_cons (pv 5) (pa_cons (pv 6) pa_nil))) (pa_cons (pe_tup (pa_cons (pv 6) (pa_cons (pv 5) pa_nil))) (pa_cons (pv 5) (pa_cons pe_int pa_nil)))))))))
      (pss_one (ps_set (i := 7) sc__law_spoilt.nd rfl (.inl rfl) (pe_fn (f__law_pick T) (hr.mono (by decide)) (by rfl) pass0 (pa_cons (pv 0) (pa_cons (pv 1) (pa_cons (pv 8) pa_nil))))))) (pss_one (ps_if (pt_cmpR op_eq (pv 3) pe_int (nomark _)) (pss_one (ps_ret (pe_fn (f__law_pick T) (hr.mono (by decide)) (by rfl) pass0 (pa_cons (pv 0) (pa_cons (pv 1) (pa_cons (pe_lst (pa_cons pe_non (pa_cons (pe_tup pa_nil) (pa_cons (pe_callTy call_list_of (by rfl) T.b_list (by decide +kernel) (pa_cons (pv 2) pa_nil)) (pa_cons (pe_ix ix_tup (pv 2) pe_int (fun _ _ => rfl)) (pa_cons pe_dnewK (pa_cons pe_str (pa_cons pe_int (pa_cons pe_bl pa_nil))))))))) pa_nil)))))) (pss_one (ps_if (pt_cmpR op_eq (pv 3) pe_int (nomark _)) (pss_one (ps_set (i := 7) sc__law_spoilt.nd rfl (.inl rfl) (pe_tup (pa_cons (pe_callTy call_list_of (by rfl) T.b_list (by decide +kernel) (pa_cons (pv 5) pa_nil)) (pa_cons (pv 6) pa_nil))))) (pss_one (ps_ret (pv 2))))))))))))
      (pss_one (ps_ret (pe_op op_catT3 (pe_op op_catT3 (pe_slice sl_tup (pv 2) po_none (po_some (pv 4))) (pe_tup (pa_cons (pv 7) pa_nil))) (pe_slice sl_tup (pv 2) (po_some (pe_op op_add (pv 4) pe_int)) po_none)))))))), ?_⟩
    with_reducible refine seq_k fun K_ hK_ => ?_
    walk_at "rt"
    refine ⟨a, t, ns, c, 7, rfl, hT, by omega, by decide, by decide, fun way H1 w0 w1 T1 b1 => ?_⟩
    obtain ⟨lt0, hlt0⟩ := hT.lst
    have hr1 := hT.tup b1 hr0
    have hv1 := hv0.but b1 hlt0
    have hxl := hv1.1
    walk_at "rt"
    subst hK_
    first | with_reducible refine seq_k fun K_ hK_ => ?_ | skip
    walk_at "rt"
    refine ⟨xs, .inr (sqT hr1), a, t, ns, _, _, rfl, T1, by omega, by omega, by omega, fun at_ H2 a0 a1 T2 b2 => ?_⟩
    obtain ⟨lt1, hlt1⟩ := T1.lst
    have hr2 := T1.tup b2 hr1
    have hv2 := hv1.but b2 hlt1
    have b02 := b1.trans b2
    obtain ⟨j, rfl⟩ : ∃ j : Nat, at_ = j := ⟨at_.toNat, by omega⟩
    have hj : j < xs.length := by omega
    obtain ⟨y, hy⟩ : ∃ y, xs[j]? = some y := ⟨_, List.getElem?_eq_getElem hj⟩
    obtain ⟨ru, hru, b0, r0, rfl, hb2, hrr2, m1, m20⟩ := hv2.2 j y hy
    obtain ⟨lt2, hlt2⟩ := T2.lst
    walk_at "rt"
    subst hK_
    first | with_reducible refine seq_k fun K_ hK_ => ?_ | skip
    walk_at "rt"
    refine ixT (j := j) (sqT hr2) rfl hy ?_
    refine ⟨b0, _, rfl, sqT hb2, rfl, ?_⟩
    have r2dx : RndsAt H2 r0 ru.1 := hrr2
    walk_at "rt"
    subst hK_
    first | with_reducible refine seq_k fun K_ hK_ => ?_ | skip
    walk_at "rt"
    have fin : ∀ (y : V) (H3 : Hp) (c3 : Nat) (y8 : Option V), (∀ H'', But t H3 H'' → DX K H'' 2 y) → But t H2 H3 → Tn K H3 a t ns c3 → c3 ≤ c + 3 → K_ [some (.ref a), some (.ref t), some (.ref r), some (.int way), some (.int j), some (.ref r0), some (.int ru.2), some y, y8] H3 := by
      intro y H3 c3 y8 hdx b3 T3 hc3
      have hr3 := T2.tup b3 hr2
      have hv3 := hv2.but b3 hlt2
      walk_at "rt"
      subst hK_
      first | with_reducible refine seq_k fun K_ hK_ => ?_ | skip
      walk_at "rt"
      refine cut_head hr3 hj fun u1 H4 s4 hu1 => ?_
      intro u2 n_u2
      generalize hG_ : upd _ u2 _ = H5
      obtain ⟨s5, hu2⟩ := newF n_u2 hG_
      clear hG_
      refine ⟨u1, u2, _, _, rfl, rfl, s5 _ _ hu1, hu2, by simp; omega, fun u3 H6 s6 hu3 => ?_⟩
      have s36 := s4.trans (s5.trans s6)
      refine cut_tail (s36 _ _ hr3) hj fun u4 H7 s7 hu4 => ?_
      refine ⟨u3, u4, _, _, rfl, rfl, s7 _ _ hu3, hu4, by simp; omega, fun u5 H8 s8 hu5 => ?_⟩
      have s38 := s36.trans (s7.trans s8)
      have T8 := T3.same s38
      obtain ⟨l8, hl8⟩ := T8.lst
      refine q _ c3 H8 (fun H9 b9 => dx_tup (T8.tup b9 hu5) (by simp; omega) fun z hz => ?_) hc3 T8 ((b02.trans b3).thenS s38)
      have hvz := ((hv3.same s38).but b9 hl8).dx (K := K)
      simp only [List.mem_append, List.mem_singleton] at hz
      rcases hz with (hz | hz) | hz
      · exact hvz z (List.mem_of_mem_take hz)
      · rw [hz]; exact hdx H9 (Same.thenB s38 b9)
      · exact hvz z (List.mem_of_mem_drop hz)
    have dxr : ∀ (H3 : Hp) {k : Nat}, But t H2 H3 → DX K H3 (k + 1) (.ref r0) := fun H3 k b3 => (r2dx.but b3 hlt2).dx
    refine ite2 (fun c0 => ?_) (fun c0 => ?_)
    · intro p1 n_p1
      generalize hG_ : upd _ p1 _ = H3
      obtain ⟨s3, hp1⟩ := newF n_p1 hG_
      clear hG_
      have n1 : p1 ≠ t := T2.some_ n_p1
      refine pickV (T2.same s3) (by omega) (by simp) (by simp) (fun x hx H4 T4 b4 => ?_)
      have b24 := Same.thenB s3 b4
      have hx1 : ∀ H9, But t H3 H9 → DX K H9 1 x := by
        intro H9 b4
        simp only [List.mem_cons, List.not_mem_nil, or_false] at hx
        rcases hx with rfl | rfl | rfl | rfl | rfl | rfl | rfl | rfl
        · exact dx_int _
        · exact dx_int _
        · exact dx_int _
        · exact dx_int _
        · exact dx_bl _
        · exact dx_non
        · exact dx_str (by decide +kernel)
        · exact dx_tup (b4 _ _ hp1 n1) (by simp) (fun y hy => by rw [List.mem_singleton.mp hy]; exact dx_int _)
      intro p2 n_p2
      generalize hG_ : upd _ p2 _ = H5
      obtain ⟨s5, hp2⟩ := newF n_p2 hG_
      clear hG_
      refine fin _ H5 _ _ (fun H9 b9 => dx_tup ((T4.same s5).tup b9 hp2) (by simp) fun y hy => ?_) (b24.thenS s5) (T4.same s5) (by omega)
      simp only [List.mem_cons, List.not_mem_nil, or_false] at hy
      rcases hy with rfl | rfl
      · exact dxr H9 ((b24.thenS s5).trans b9)
      · exact hx1 H9 ((b4.thenS s5).trans b9)
    refine ite2 (fun c1 => ?_) (fun c1 => ?_)
    · intro p1 n_p1
      generalize hG_ : upd _ p1 _ = G1
      obtain ⟨g1, e1⟩ := newF n_p1 hG_
      clear hG_
      intro p2 n_p2
      generalize hG_ : upd _ p2 _ = G2
      obtain ⟨g2, e2⟩ := newF n_p2 hG_
      clear hG_
      intro p3 n_p3
      generalize hG_ : upd _ p3 _ = G3
      obtain ⟨g3, e3⟩ := newF n_p3 hG_
      clear hG_
      intro p4 n_p4
      generalize hG_ : upd _ p4 _ = G4
      obtain ⟨g4, e4⟩ := newF n_p4 hG_
      clear hG_
      intro p5 n_p5
      generalize hG_ : upd _ p5 _ = G5
      obtain ⟨g5, e5⟩ := newF n_p5 hG_
      clear hG_
      refine ⟨p5, 12, _, rfl, rfl, sqT e5, by simp, by decide, by decide, by simp, ?_⟩
      intro p6 n_p6
      generalize hG_ : upd _ p6 _ = G6
      obtain ⟨g6, e6⟩ := newF n_p6 hG_
      clear hG_
      intro p7 n_p7
      generalize hG_ : upd _ p7 _ = G7
      obtain ⟨g7, e7⟩ := newF n_p7 hG_
      clear hG_
      have g57 := g6.trans g7
      have g47 := g5.trans g57
      have g37 := g4.trans g47
      have g27 := g3.trans g37
      have g17 := g2.trans g27
      have g07 := g1.trans g17
      refine pickV (T2.same g07) (by omega) (by simp) (by simp) (fun x hx H4 T4 b4 => ?_)
      have b24 := Same.thenB g07 b4
      have n1 : p1 ≠ t := T2.some_ n_p1
      have n2 : p2 ≠ t := T2.some_ (g1.free n_p2)
      have n3 : p3 ≠ t := T2.some_ (g1.free (g2.free n_p3))
      have n4 : p4 ≠ t := T2.some_ (g1.free (g2.free (g3.free n_p4)))
      have n6 : p6 ≠ t := T2.some_ (g1.free (g2.free (g3.free (g4.free (g5.free n_p6)))))
      have n7 : p7 ≠ t := T2.some_ (g1.free (g2.free (g3.free (g4.free (g5.free (g6.free n_p7))))))
      have key : ∃ (z : Addr) (zs : List V), x = .ref z ∧ H4 z = some (.tup zs) ∧ zs.length ≤ 12 ∧ ∀ y ∈ zs, ∀ H', DX K H' 0 y := by
        simp only [List.mem_cons, List.not_mem_nil, or_false] at hx
        rcases hx with rfl | rfl | rfl | rfl | rfl | rfl
        · exact ⟨_, _, rfl, b4 _ _ (g17 _ _ e1) n1, by simp, fun y hy H' => by rw [List.mem_singleton.mp hy]; exact dx_int _⟩
        · exact ⟨_, _, rfl, b4 _ _ (g27 _ _ e2) n2, by simp, fun y hy H' => by rw [List.mem_singleton.mp hy]; exact dx_int _⟩
        · exact ⟨_, _, rfl, b4 _ _ (g37 _ _ e3) n3, by simp, fun y hy H' => by rw [List.mem_singleton.mp hy]; exact dx_bl _⟩
        · exact ⟨_, _, rfl, b4 _ _ (g47 _ _ e4) n4, by simp, fun y hy H' => by rw [List.mem_singleton.mp hy]; exact dx_str (by decide +kernel)⟩
        · refine ⟨_, _, rfl, b4 _ _ (g7 _ _ e6) n6, by simp, fun y hy H' => ?_⟩
          simp [List.replicate] at hy
          rw [hy]; exact dx_int _
        · exact ⟨_, _, rfl, b4 _ _ e7 n7, by simp, fun y hy H' => by rw [List.mem_singleton.mp hy]; exact dx_non⟩
      obtain ⟨z, zs, rfl, hz, hzl, hzd⟩ := key
      have hr4 := r2dx.but b24 hlt2
      have hrl := hr4.ln
      refine ⟨r0, z, _, _, rfl, rfl, hr4.at_, hz, by rw [List.length_map]; omega, fun w1 H5 s5 hw1 => ?_⟩
      intro w2 n_w2
      generalize hG_ : upd _ w2 _ = H6
      obtain ⟨s6, hw2⟩ := newF n_w2 hG_
      clear hG_
      have s46 := s5.trans s6
      have T6 := T4.same s46
      refine fin _ H6 _ _ (fun H9 b9 => dx_tup (T6.tup b9 hw2) (by simp) fun y hy => ?_) (b24.thenS s46) T6 (by omega)
      simp only [List.mem_cons, List.not_mem_nil, or_false] at hy
      rcases hy with rfl | rfl
      · refine dx_tup (T6.tup b9 (s6 _ _ hw1)) (by rw [List.length_append, List.length_map]; omega) fun y hy => ?_
        rcases List.mem_append.mp hy with hy | hy
        · obtain ⟨i, _, rfl⟩ := List.mem_map.mp hy
          exact dx_int i
        · exact hzd y hy _
      · exact dx_int _
    refine ite2 (fun c2 => ?_) (fun c2 => ?_)
    · clear hK_
      with_reducible refine seq_k fun K_ hK_ => ?_
      walk_at "rt"
      intro p1 n_p1
      generalize hG_ : upd _ p1 _ = G1
      obtain ⟨g1, e1⟩ := newF n_p1 hG_
      clear hG_
      intro p2 n_p2
      generalize hG_ : upd _ p2 _ = G2
      obtain ⟨g2, e2⟩ := newF n_p2 hG_
      clear hG_
      intro p3 n_p3
      generalize hG_ : upd _ p3 _ = G3
      obtain ⟨g3, e3⟩ := newF n_p3 hG_
      clear hG_
      intro p4 n_p4
      generalize hG_ : upd _ p4 _ = G4
      obtain ⟨g4, e4⟩ := newF n_p4 hG_
      clear hG_
      intro p5 n_p5
      generalize hG_ : upd _ p5 _ = G5
      obtain ⟨g5, e5⟩ := newF n_p5 hG_
      clear hG_
      have g45 := g5
      have g35 := g4.trans g45
      have g25 := g3.trans g35
      have g15 := g2.trans g25
      have g05 := g1.trans g15
      have n1 : p1 ≠ t := T2.some_ n_p1
      have n2 : p2 ≠ t := T2.some_ (g1.free n_p2)
      have n3 : p3 ≠ t := T2.some_ (g1.free (g2.free n_p3))
      have n4 : p4 ≠ t := T2.some_ (g1.free (g2.free (g3.free n_p4)))
      have n5 : p5 ≠ t := T2.some_ (g1.free (g2.free (g3.free (g4.free n_p5))))
      walk_at "rt"
      subst hK_
      first | with_reducible refine seq_k fun K_ hK_ => ?_ | skip
      walk_at "rt"
      refine ⟨a, t, p5, ns, _, _, rfl, T2.same g05, by omega, e5, n5, by simp, by simp, fun x H4 hx T4 b4 => ?_⟩
      have b24 := Same.thenB g05 b4
      refine fin _ H4 _ _ (fun H9 b9 => ?_) b24 T4 (by omega)
      have b4 := b4.trans b9
      have b24 := b24.trans b9
      simp only [List.mem_cons, List.not_mem_nil, or_false] at hx
      rcases hx with rfl | rfl | rfl | rfl | rfl | rfl | rfl
      · exact dx_non
      · refine dx_tup (b4 _ _ (g15 _ _ e1) n1) (by simp) fun y hy => ?_
        rw [List.mem_singleton.mp hy]; exact dxr H9 b24
      · refine dx_tup (b4 _ _ (g25 _ _ e2) n2) (by simp) fun y hy => ?_
        simp only [List.mem_cons, List.not_mem_nil, or_false] at hy
        rcases hy with rfl | rfl | rfl
        · exact dxr H9 b24
        · exact dx_int _
        · exact dx_int _
      · refine dx_lst (b4 _ _ (g35 _ _ e3) n3) (by simp) fun y hy => ?_
        simp only [List.mem_cons, List.not_mem_nil, or_false] at hy
        rcases hy with rfl | rfl
        · exact dxr H9 b24
        · exact dx_int _
      · refine dx_tup (b4 _ _ (g45 _ _ e4) n4) (by simp) fun y hy => ?_
        simp only [List.mem_cons, List.not_mem_nil, or_false] at hy
        rcases hy with rfl | rfl
        · exact dx_int _
        · exact dxr H9 b24
      · exact dxr H9 b24
      · exact dx_int _
    refine ite2 (fun c3 => ?_) (fun c3 => ?_)
    · intro p1 n_p1
      generalize hG_ : upd _ p1 _ = G1
      obtain ⟨g1, e1⟩ := newF n_p1 hG_
      clear hG_
      refine ⟨_, .inr (sqT (g1 _ _ hr2)), ?_⟩
      intro p2 n_p2
      generalize hG_ : upd _ p2 _ = G2
      obtain ⟨g2, e2⟩ := newF n_p2 hG_
      clear hG_
      have g02 := g1.trans g2
      refine ixT (j := 0) (sqT (g02 _ _ hr2)) rfl (List.getElem?_eq_getElem (by omega)) ?_
      simp only [L2.tDNewK]
      intro p3 n_p3
      generalize hG_ : upd _ p3 _ = G3
      obtain ⟨g3, e3⟩ := newF n_p3 hG_
      clear hG_
      have g03 := g02.trans g3
      have n1 : p1 ≠ t := T2.some_ n_p1
      have n2 : p2 ≠ t := T2.some_ (g1.free n_p2)
      have n3 : p3 ≠ t := T2.some_ (g02.free n_p3)
      refine pickV (T2.same g03) (by omega) (by simp) (by simp) (fun x hx H4 T4 b4 => ?_)
      have b24 := Same.thenB g03 b4
      refine q x _ H4 (fun H9 b9 => ?_) (by omega) T4 (b02.trans b24)
      have b4 := b4.trans b9
      have hv4 := hv2.but (b24.trans b9) hlt2
      simp only [List.mem_cons, List.not_mem_nil, or_false] at hx
      rcases hx with rfl | rfl | rfl | rfl | rfl | rfl | rfl | rfl
      · exact dx_non
      · exact dx_tup (b4 _ _ (g3 _ _ (g2 _ _ e1)) n1) (by simp) (fun y hy => nomatch hy)
      · exact dx_lst (b4 _ _ (g3 _ _ e2) n2) (by omega) hv4.dx
      · obtain ⟨ru', _, hru'⟩ := hv4.2 0 _ (List.getElem?_eq_getElem (by omega))
        exact hru'.dx
      · exact dx_dic (b4 _ _ e3 n3)
      · exact dx_str (by decide +kernel)
      · exact dx_int _
      · exact dx_bl _
    refine ite2 (fun c4 => ?_) (fun c4 => ?_)
    · refine ⟨_, .inr (sqT r2dx.at_), ?_⟩
      intro p1 n_p1
      generalize hG_ : upd _ p1 _ = G1
      obtain ⟨g1, e1⟩ := newF n_p1 hG_
      clear hG_
      intro p2 n_p2
      generalize hG_ : upd _ p2 _ = G2
      obtain ⟨g2, e2⟩ := newF n_p2 hG_
      clear hG_
      have g02 := g1.trans g2
      have n1 : p1 ≠ t := T2.some_ n_p1
      have TG := T2.same g02
      have hrl := r2dx.ln
      refine fin _ G2 _ _ (fun H9 b9 => dx_tup (TG.tup b9 e2) (by simp) fun y hy => ?_) (.of g02) TG (by omega)
      simp only [List.mem_cons, List.not_mem_nil, or_false] at hy
      rcases hy with rfl | rfl
      · refine dx_lst (b9 _ _ (g2 _ _ e1) n1) (by rw [List.length_map]; omega) fun y hy => ?_
        obtain ⟨i, _, rfl⟩ := List.mem_map.mp hy
        exact dx_int i
      · exact dx_int _
    · refine q _ _ H2 (fun H9 b9 => dx_tup (T2.tup b9 hr2) (by omega) (hv2.but b9 hlt2).dx) (by omega) T2 b02
end
end Nk
namespace Nk
open PySem L2
section
variable {P : Program} {w : World} {K : PySem.W.Frag} {mg : Str → Option Value} {base : Heap}
abbrev nm__law_told : List Str := ["kind", "some", "caught", "found", "e"]
abbrev pm__law_told : List Str := ["kind", "some"]
abbrev lv__law_told : Nat := 9
theorem sc__law_told : FnScope nm__law_told pm__law_told (defScope s__law_told) := ⟨rfl, rfl, rfl, by decide +kernel, rfl, by decide +kernel, by decide +kernel⟩
/-- whatever _law_one promises, told in a pair -/
def sp__law_told (K : PySem.W.Frag) (mg : Str → Option Value) : Sp := fun vs H Q _ => ∃ x y, vs = [x, y] ∧ sp__law_one K mg [x, y] H (fun v H1 => ∀ p H2, Same H1 H2 → H1 p = none → H2 p = some (.tup [.str "found", v]) → Q (.ref p) H2)
  (fun c d H1 => ∃ (n : Str) (j : Nat), c = .ref (cls mg n) ∧ exNames[j]? = some n ∧ (∀ dd, d = some dd → ∃ fs, H1 dd = some (.xd fs)) ∧ ∀ p H2, Same H1 H2 → H1 p = none → H2 p = some (.tup [.str "refused", .int j]) → Q (.ref p) H2)
theorem f__law_told (T : Txt K mg) : Fk P w K mg base CX0 lv__law_told "_law_told" pm__law_told (sp__law_told K mg) := by
  obtain ⟨f, fd, F, g, b⟩ := T.d__law_told.ex
  refine ⟨f, fd, g, F.kp, b, F.ok sc__law_told (fun vs H Q E h => ?_) (fun cdv A outer s H vs Q E hr h => ?_)⟩
  · obtain ⟨x, y, rfl, _⟩ := h; rfl
  · obtain ⟨x, y, rfl, h⟩ := h
    refine ⟨_, (pss_cons (ps_set (i := 2) sc__law_told.nd rfl (.inl rfl) pe_non)
      (pss_cons (ps_set (i := 3) sc__law_told.nd rfl (.inl rfl) pe_non)
      (pss_cons (ps_try_kept (i := 4) (j := 2) (tb := fun W => tAsg (tCallS (sp__law_one K mg) (WE W) (tCons (tVar 0) (tCons (tVar 1) tNil))) (gName 3)) (Wout := fun _ _ _ _ => False) rfl rfl rfl sc__law_told.nd rfl rfl ⟨rfl, by decide, Or.inl T.k_err.gP⟩ tk0
        (fun W pn xe tk _ => pss_one (ps_set (i := 3) sc__law_told.nd rfl (.inl rfl) (by exact (pe_fnS (f__law_one T) (hr.mono (by decide)) rfl (fun σ => passAt tk σ) (by exact (pa_cons (pv 0) (pa_cons (pv 1) pa_nil)))))))
        (fun a oe pn => pss_one (ps_set (i := 2) sc__law_told.nd rfl (.inl rfl) (pv 4))) (by show 4 < 5; decide))
      (pss_cons (ps_if (pt_cmpR op_isN (pv 2) pe_non (nomark _)) (pss_one (ps_ret (pe_tup (pa_cons pe_str (pa_cons (pv 3) pa_nil))))) pss_nil)
      (pss_one (ps_ret (pe_tup (pa_cons pe_str (pa_cons (pe_fn (f__law_word T) (hr.mono (by decide)) (by rfl) pass0 (pa_cons (pv 2) pa_nil)) pa_nil))))))))), ?_⟩
    with_reducible refine seq_k fun K_ hK_ => ?_
    walk_at "rt"
    walk_at "rt"
    subst hK_
    first | with_reducible refine seq_k fun K_ hK_ => ?_ | skip
    walk_at "rt"
    walk_at "rt"
    subst hK_
    first | with_reducible refine seq_k fun K_ hK_ => ?_ | skip
    walk_at "rt"
    refine one_mono h (fun v H1 q => ?_) (fun c d H1 q => ?_)
    · walk_at "rt"
      subst hK_
      first | with_reducible refine seq_k fun K_ hK_ => ?_ | skip
      walk_at "rt"
      walk_at "rt"
      subst hK_
      first | with_reducible refine seq_k fun K_ hK_ => ?_ | skip
      walk_at "rt"
      intro p hp
      exact q p _ (same_upd hp) hp upd_same
    · obtain ⟨n, j, rfl, hj, hd, q⟩ := q
      have hn : n ∈ exNames := List.mem_of_getElem? hj
      refine ⟨true, (ec_all T n hn).exm T.k_err, fun _ a ha => ?_, fun e => nomatch e⟩
      have s1 := same_upd (o := ExV (.ref (cls mg n)) d a) ha
      walk_at "rt"
      subst hK_
      first | with_reducible refine seq_k fun K_ hK_ => ?_ | skip
      walk_at "rt"
      walk_at "rt"
      subst hK_
      first | with_reducible refine seq_k fun K_ hK_ => ?_ | skip
      walk_at "rt"
      refine ⟨a, j, rfl, ⟨n, d, hj, upd_same, fun dd e => ?_⟩, fun H2 s2 => ?_⟩
      · obtain ⟨fs, h⟩ := hd dd e
        exact ⟨fs, s1 _ _ h⟩
      · intro p hp
        have s3 := s1.trans s2
        exact q p _ (s3.trans (same_upd hp)) (s3.free hp) upd_same
end
end Nk
namespace Nk
open PySem L2
section
variable {P : Program} {w : World} {K : PySem.W.Frag} {mg : Str → Option Value} {base : Heap}
theorem told_bad {kind : Int} {u : Addr} {x y : V} {H : Hp} {Q : VK} {E : XK} (hu : H u = some (.tup [x, y])) (hx : DT K H 3 x) (hy : DT K H 1 y) (k0 : 0 ≤ kind) (k11 : kind ≤ 11) (hb : isRulesV H x = false)
    (q : ∀ p H', Same H H' → H' p = some (.tup [.str "refused", .int 3]) → Q (.ref p) H') : sp__law_told K mg [.int kind, .ref u] H Q E :=
  ⟨_, _, rfl, kind, u, x, y, rfl, hu, hx, hy, .inl ⟨hb, k0, k11, fun H1 s1 => ⟨"BadRules", 3, rfl, rfl, fun _ h => (nomatch h), fun p H2 s2 _ hp => q p H2 (s1.trans s2) hp⟩⟩⟩
theorem told_good {kind : Int} {u : Addr} {x y : V} {H : Hp} {Q : VK} {E : XK} (hu : H u = some (.tup [x, y])) (hx : DT K H 3 x) (hy : DT K H 1 y) (k0 : 0 ≤ kind) (k1 : kind ≤ 1) (hb : isRulesV H x = true)
    (q1 : isNightsV H y = false → ∀ p H', Same H H' → H' p = some (.tup [.str "refused", .int 4]) → Q (.ref p) H')
    (q2 : isNightsV H y = true → ∀ p z H', Same H H' → H' p = some (.tup [.str "found", .ref z]) → Q (.ref p) H') : sp__law_told K mg [.int kind, .ref u] H Q E :=
  ⟨_, _, rfl, kind, u, x, y, rfl, hu, hx, hy, .inr ⟨hb, k0, k1, fun e H1 s1 => ⟨"BadNights", 4, rfl, rfl, fun _ h => (nomatch h), fun p H2 s2 _ hp => q1 e p H2 (s1.trans s2) hp⟩, fun e z H1 s1 _ => fun p H2 s2 _ hp => q2 e p z H2 (s1.trans s2) hp⟩⟩
theorem dp_refused {H : Hp} {p : Addr} {j : Int} (h : H p = some (.tup [.str "refused", .int j])) : Dp K H (.ref p) (.tuple [.str "refused", .int j]) := .tup (sqT h) (.cons (.str _) (.cons (.int _) .nil))
theorem gd_refused {j : Int} : gd 1 (.tuple [.str "refused", .int j]) = true := by simp [gd]; decide +kernel
theorem cut_mem {xs : List V} {lo hi : Option Int} {y : V} (h : y ∈ cutV xs lo hi) : y ∈ xs := by
  unfold cutV at h
  first
  | exact List.mem_of_mem_drop (List.mem_of_mem_take h)
  | exact List.mem_of_mem_take (List.mem_of_mem_drop h)
theorem cut_len (xs : List V) (lo hi : Option Int) : (cutV xs lo hi).length ≤ xs.length := by
  unfold cutV
  simp only [List.length_take, List.length_drop]
  omega
theorem dx_pair {H : Hp} {p : Addr} (h : H p = some (.tup [.int 7])) : DX K H 0 (.ref p) := ⟨⟨_, .tup h⟩, _, .tup (sqT h) (.cons (.int _) .nil), by simp [gb]⟩
abbrev nm_law : List Str := ["script", "town", "rules", "good", "kind", "nights", "at", "odd", "told", "k"]
abbrev pm_law : List Str := ["script"]
abbrev lv_law : Nat := 10
theorem sc_law : FnScope nm_law pm_law (defScope s_law) := ⟨rfl, rfl, rfl, by decide +kernel, rfl, by decide +kernel, by decide +kernel⟩
def iv10b (H0 : Hp) (a t : Addr) (x y : V) (g : Bool) (y6 y7 : Option V) (i : Nat) (σ : L2.St) (H : Hp) : Prop := ∃ y4 y8, σ = [some (.ref a), some (.ref t), some x, some (.bl g), y4, some y, y6, y7, y8, none] ∧ Same H0 H
def iv10 (H6 : Hp) (a t : Addr) (x : V) (g : Bool) (i : Nat) (σ : L2.St) (H : Hp) : Prop := ∃ y4, σ = [some (.ref a), some (.ref t), some x, some (.bl g), y4, none, none, none, none, none] ∧ Same H6 H
theorem ok_law {f : Addr} {fd : FuncData} (F : Fun K "law" "law" s_law f fd) (T : Txt K mg) : FnOk P w K mg base CX0 lv_law f fd ["script"] (spLaw K) := by
  refine F.ok sc_law (fun vs H Q E h => ?_) (fun cdv A outer s H vs Q E hr h => ?_)
  · obtain ⟨a, ns, rfl, _⟩ := h; rfl
  · obtain ⟨a, ns, rfl, hS, hl, q⟩ := h
    refine ⟨_, (pss_cons (ps_set (i := 1) sc_law.nd rfl (.inl rfl) (pe_fn (f__law_town T) (hr.mono (by decide)) (by rfl) pass0 (pa_cons (pv 0) pa_nil)))
      (pss_cons (ps_set (i := 2) sc_law.nd rfl (.inl rfl) (pe_fn (f__law_spoilt T) (hr.mono (by decide)) (by rfl) pass0 (pa_cons (pv 0) (pa_cons (pv 1) (pa_cons (pe_fn (f__law_rules T) (hr.mono (by decide)) (by rfl) pass0 (pa_cons (pv 0) (pa_cons (pv 1) (pa_cons pe_int (pa_cons pe_int (pa_cons pe_int (pa_cons pe_int pa_nil))))))) pa_nil)))))
      (pss_cons (ps_set (i := 3) sc_law.nd rfl (.inl rfl) (pe_fn (f__law_good T) (hr.mono (by decide)) (by rfl) pass0 (pa_cons (pv 2) pa_nil)))
      (pss_cons (ps_if (pt_not (pt_val (pv 3))) (pss_one (ps_for PassesOwn.never rfl (pi_range1 (by rfl) T.b_range (pa_cons pe_int pa_nil)) (pg_name (i := 4) sc_law.nd rfl (Or.inl rfl)) (pss_one (ps_if (pt_cmpR (op_neD hr.units) (pe_fn (f__law_told T) (hr.mono (by decide)) (by rfl) pass0 (pa_cons (pv 4) (pa_cons (pe_tup (pa_cons (pv 2) (pa_cons pe_non pa_nil))) pa_nil))) (pe_fn (f__law_refused T) (hr.mono (by decide)) (by rfl) pass0 (pa_cons pe_str pa_nil)) (nomark _)) (pss_one (ps_ret pe_bl)) pss_nil)))) pss_nil)
      (pss_cons (ps_set (i := 5) sc_law.nd rfl (.inl rfl) (pe_op op_cat (pe_fn (f__law_nights T) (hr.mono (by decide)) (by rfl) pass0 (pa_cons (pv 0) (pa_cons (pv 1) (pa_cons pe_int (pa_cons pe_int pa_nil))))) (pe_lc (own := [("k", 9)]) (g := gName 9) (tt := tYes) (by rfl) sc_law.nd (pi_range1 (by rfl) T.b_range (pa_cons (pe_fn (f__law_pick T) (hr.mono (by decide)) (by rfl) pass0 (pa_cons (pv 0) (pa_cons (pv 1) (pa_cons (pe_lst (pa_cons pe_int (pa_cons pe_int (pa_cons pe_int (pa_cons pe_int pa_nil))))) pa_nil)))) pa_nil)) (blkOk_by (own := [("k", 9)]) (N := nm_law) (sc := defScope s_law) (by decide +kernel)) (fun _ _ _ _ _ => (pg_name (i := 9) sc_law.nd rfl (Or.inl rfl))) (fun _ _ _ _ _ => pts_nil) (fun _ _ _ _ _ => (pe_op op_add pe_int (pv 9))))))
      (pss_cons (ps_set (i := 6) sc_law.nd rfl (.inl rfl) (pe_fn (f__law_draw T) (hr.mono (by decide)) (by rfl) pass0 (pa_cons (pv 0) (pa_cons (pv 1) (pa_cons (pe_op op_add (pe_callB call_len_seq (by rfl) T.b_len PySem.boot_len (pa_cons (pv 5) pa_nil)) pe_int) pa_nil)))))
      (pss_cons (ps_set (i := 7) sc_law.nd rfl (.inl rfl) (pe_fn (f__law_pick T) (hr.mono (by decide)) (by rfl) pass0 (pa_cons (pv 0) (pa_cons (pv 1) (pa_cons (pe_op op_cat (pe_lst (pa_cons pe_non (pa_cons pe_bl (pa_cons pe_str (pa_cons (pe_un un_neg pe_int) (pa_cons (pe_op op_add (pe_op op_pow pe_int pe_int) pe_int) (pa_cons pe_int (pa_cons pe_int (pa_cons (pe_tup (pa_cons pe_int pa_nil)) (pa_cons (pe_op op_pow pe_int pe_int) pa_nil)))))))))) (pe_op op_rep (pe_slice sl_list (pv 5) (po_some (pv 6)) (po_some (pe_op op_add (pv 6) pe_int))) pe_int)) pa_nil)))))
      (pss_cons (ps_set (i := 5) sc_law.nd rfl (.inl rfl) (pe_op op_cat (pe_op op_cat (pe_slice sl_list (pv 5) po_none (po_some (pv 6))) (pe_fn (f__law_pick T) (hr.mono (by decide)) (by rfl) pass0 (pa_cons (pv 0) (pa_cons (pv 1) (pa_cons (pe_lst (pa_cons (pe_lst pa_nil) (pa_cons (pe_lst pa_nil) (pa_cons (pe_lst (pa_cons (pv 7) pa_nil)) pa_nil)))) pa_nil))))) (pe_slice sl_list (pv 5) (po_some (pv 6)) po_none)))
      (pss_cons (ps_set (i := 5) sc_law.nd rfl (.inl rfl) (pe_fn (f__law_pick T) (hr.mono (by decide)) (by rfl) pass0 (pa_cons (pv 0) (pa_cons (pv 1) (pa_cons (pe_lst (pa_cons (pv 5) (pa_cons (pv 5) (pa_cons (pv 5) (pa_cons (pv 5) (pa_cons (pe_callTy call_tuple_of (by rfl) T.b_tuple (by decide +kernel) (pa_cons (pv 5) pa_nil)) (pa_cons pe_non (pa_cons pe_int (pa_cons pe_str (pa_cons pe_dnewK pa_nil)))))))))) pa_nil)))))
      (pss_cons (ps_for PassesOwn.never rfl (pi_range1 (by rfl) T.b_range (pa_cons pe_int pa_nil)) (pg_name (i := 4) sc_law.nd rfl (Or.inl rfl)) (pss_cons (ps_set (i := 8) sc_law.nd rfl (.inl rfl) (pe_fn (f__law_told T) (hr.mono (by decide)) (by rfl) pass0 (pa_cons (pv 4) (pa_cons (pe_tup (pa_cons (pv 2) (pa_cons (pv 5) pa_nil))) pa_nil))))
      (pss_cons (ps_if (PW.pt (pw_and (pt_val (pv 3)) (pw_and1 (pt_cmpR op_ne (pe_fn (f__law_ordered T) (hr.mono (by decide)) (by rfl) pass0 (pa_cons (pv 5) pa_nil)) (pe_cmpR op_eq (pe_ix ix_tup (pv 8) pe_int (fun _ _ => rfl)) pe_str (nomark _)) (nomark _))))) (pss_one (ps_ret pe_bl)) pss_nil)
      (pss_one (ps_if (PW.pt (pw_and (pt_val (pv 3)) (pw_and (pt_cmpR op_ne (pe_ix ix_tup (pv 8) pe_int (fun _ _ => rfl)) pe_str (nomark _)) (pw_and1 (pt_cmpR (op_neD hr.units) (pv 8) (pe_fn (f__law_refused T) (hr.mono (by decide)) (by rfl) pass0 (pa_cons pe_str pa_nil)) (nomark _)))))) (pss_one (ps_ret pe_bl)) pss_nil)))))
      (pss_one (ps_ret pe_bl)))))))))))), ?_⟩
    with_reducible refine seq_k fun K_ hK_ => ?_
    walk_at "rt"
    refine ⟨a, ns, rfl, hS, hl, fun H1 t s1 T1 ht => ?_⟩
    walk_at "rt"
    subst hK_
    first | with_reducible refine seq_k fun K_ hK_ => ?_ | skip
    walk_at "rt"
    refine ⟨a, t, ns, _, 6, 12, 31, 20, rfl, T1, by decide, by decide, by decide, by decide, by decide, by decide, by decide, by decide, by decide, fun rus xs r c4 H4 l1 l6 _ hr3 hr4 hv4 hc4 T4 b4 => ?_⟩
    have hc4' : c4 ≤ 200 := by simp at hc4; omega
    refine ⟨a, t, r, ns, c4, xs, rus, rfl, T4, by omega, hr4, hv4, l1, by omega, fun x c5 H5 hx5 hc5 T5 b5 => ?_⟩
    have hx := hx5 H5 .refl
    walk_at "rt"
    subst hK_
    first | with_reducible refine seq_k fun K_ hK_ => ?_ | skip
    walk_at "rt"
    refine ⟨x, rfl, hx, fun H6 s6 => ?_⟩
    have T6 := T5.same s6
    have hx6 : ∀ H', But t H6 H' → DX K H' 3 x := fun H' b' => hx5 H' (Same.thenB s6 b')
    have r56 : isRulesV H6 x = isRulesV H5 x := isRulesV_same s6 hx.dt
    generalize hg : isRulesV H5 x = gd_ at r56
    walk_at "rt"
    subst hK_
    first | with_reducible refine seq_k fun K_ hK_ => ?_ | skip
    walk_at "rt"
    have rest : ∀ (H7 : Hp) (y4 : Option V), Same H6 H7 → K_ [some (.ref a), some (.ref t), some x, some (.bl gd_), y4, none, none, none, none, none] H7 := by
      intro H7 y4 s7
      have T7 := T6.same s7
      have hx7 : ∀ H', But t H7 H' → DX K H' 3 x := fun H' b' => hx6 H' (Same.thenB s7 b')
      walk_at "rt"
      subst hK_
      first | with_reducible refine seq_k fun K_ hK_ => ?_ | skip
      walk_at "rt"
      refine ⟨a, t, ns, c5, 6, 9, rfl, T7, by omega, by decide, by decide, by decide, by decide, fun ms n c8 H8 n6 hrise hb hn7 hn8 hc8 T8 b8 => ?_⟩
      have hc8' : c8 ≤ 300 := by simp at hc8; omega
      have hnt : n ≠ t := T7.some_ hn7
      refine pickI [0, 0, 94, 95] T8 (by omega) fun jj hjj H9 T9 b9 => ⟨jj, rfl, by simp at hjj; omega, by simp at hjj; omega, fun D hD => ?_⟩
      have hjj' : 0 ≤ jj ∧ jj ≤ 95 := by simp at hjj; omega
      have b79 := b8.trans b9
      refine lcR hD (fun i => ((List.range i).map fun k : Nat => (200 : Int) + k).map V.int) rfl (fun i H10 hi p => ?_) (fun Ha sa hDa => ?_)
      · walk_at "rt"
        refine p.push hD (by simp; omega) (Same.refl _) ?_
        show _ = _
        rw [List.range_succ, List.map_append, List.map_append]
        simp
      have hna := sa _ _ (b9 _ _ hn8 hnt)
      refine ⟨n, D, _, _, rfl, rfl, hna, hDa, sz (by simp; omega), ?_⟩
      intro nl n_nl
      generalize hG_ : upd _ nl _ = Hb
      obtain ⟨sb, hnl⟩ := newF n_nl hG_
      clear hG_
      rw [← List.map_append] at hnl
      generalize hL : ms ++ (List.range jj.toNat).map (fun k : Nat => (200 : Int) + k) = L at hnl
      have hLl : L.length ≤ 101 := by rw [← hL]; simp; omega
      have sab := sa.trans sb
      have Tb := T9.same sab
      have b7b := b79.thenS sab
      have hnlt : nl ≠ t := (T9.same sa).some_ n_nl
      have hc9 : c8 + 1 ≤ 301 := by omega
      walk_at "rt"
      subst hK_
      first | with_reducible refine seq_k fun K_ hK_ => ?_ | skip
      walk_at "rt"
      refine ⟨_, .inl (sqL hnl), ?_⟩
      rw [List.length_map]
      refine ⟨a, t, ns, _, _, rfl, Tb, by omega, by omega, by omega, fun at_ Hc a0 a1 Tc bc => ?_⟩
      obtain ⟨j, rfl⟩ : ∃ j : Nat, at_ = j := ⟨at_.toNat, by omega⟩
      have hnlc := bc _ _ hnl hnlt
      have b7c := b7b.trans bc
      walk_at "rt"
      subst hK_
      first | with_reducible refine seq_k fun K_ hK_ => ?_ | skip
      walk_at "rt"
      refine ⟨⟨by decide, by decide⟩, ?_⟩
      intro p1 n_p1
      generalize hG_ : upd _ p1 _ = G1
      obtain ⟨g1, e1⟩ := newF n_p1 hG_
      clear hG_
      refine ⟨⟨by decide, by decide⟩, ?_⟩
      intro p2 n_p2
      generalize hG_ : upd _ p2 _ = G2
      obtain ⟨g2, e2⟩ := newF n_p2 hG_
      clear hG_
      have g02 := g1.trans g2
      refine ⟨nl, _, rfl, sqL (g02 _ _ hnlc), ?_⟩
      intro p3 n_p3
      generalize hG_ : upd _ p3 _ = G3
      obtain ⟨g3, e3⟩ := newF n_p3 hG_
      clear hG_
      have hcl := cut_len (L.map V.int) (some (j : Int)) (some ((j : Int) + 1))
      rw [List.length_map] at hcl
      refine ⟨p3, 3, _, rfl, rfl, e3, by decide, by decide, sz (by show _ * 3 ≤ _; omega), ?_⟩
      intro p4 n_p4
      generalize hG_ : upd _ p4 _ = G4
      obtain ⟨g4, e4⟩ := newF n_p4 hG_
      clear hG_
      refine ⟨p2, p4, _, _, rfl, rfl, g4 _ _ (g3 _ _ e2), e4, sz (by simp; omega), ?_⟩
      intro p5 n_p5
      generalize hG_ : upd _ p5 _ = G5
      obtain ⟨g5, e5⟩ := newF n_p5 hG_
      clear hG_
      have g25 := g3.trans (g4.trans g5)
      have g05 := g02.trans g25
      have TG := Tc.same g05
      have n1 : p1 ≠ t := Tc.some_ n_p1
      have n5 : p5 ≠ t := (Tc.same (g02.trans (g3.trans g4))).some_ n_p5
      refine ⟨a, t, p5, ns, _, _, rfl, TG, by omega, e5, n5, by simp, by simp; omega, fun o Hd ho Td bd => ?_⟩
      have hodd : ∀ H', But t Hd H' → DX K H' 0 o := fun H' b' => by
        have bb := bd.trans b'
        rcases List.mem_append.mp ho with ho | ho
        · simp only [List.mem_cons, List.not_mem_nil, or_false] at ho
          rcases ho with rfl | rfl | rfl | rfl | rfl | rfl | rfl | rfl | rfl
          · exact dx_non
          · exact dx_bl _
          · exact dx_str (by decide +kernel)
          · exact dx_int _
          · exact dx_int _
          · exact dx_int _
          · exact dx_int _
          · exact dx_pair (bb _ _ (g25 _ _ (g2 _ _ e1)) n1)
          · exact dx_int _
        · obtain ⟨l, hl1, hl2⟩ := List.mem_flatten.mp ho
          rw [(List.mem_replicate.mp hl1).2] at hl2
          obtain ⟨z, _, rfl⟩ := List.mem_map.mp (cut_mem hl2)
          exact dx_int z
      have hnld := bd _ _ (g05 _ _ hnlc) hnlt
      have hc10 : c8 + 1 + 1 + 1 ≤ 400 := by omega
      walk_at "rt"
      subst hK_
      first | with_reducible refine seq_k fun K_ hK_ => ?_ | skip
      walk_at "rt"
      refine ⟨nl, _, rfl, sqL hnld, ?_⟩
      intro m1 n_m1
      generalize hG_ : upd _ m1 _ = F1
      obtain ⟨f1, i1⟩ := newF n_m1 hG_
      clear hG_
      intro m2 n_m2
      generalize hG_ : upd _ m2 _ = F2
      obtain ⟨f2, i2⟩ := newF n_m2 hG_
      clear hG_
      intro m3 n_m3
      generalize hG_ : upd _ m3 _ = F3
      obtain ⟨f3, i3⟩ := newF n_m3 hG_
      clear hG_
      intro m4 n_m4
      generalize hG_ : upd _ m4 _ = F4
      obtain ⟨f4, i4⟩ := newF n_m4 hG_
      clear hG_
      intro m5 n_m5
      generalize hG_ : upd _ m5 _ = F5
      obtain ⟨f5, i5⟩ := newF n_m5 hG_
      clear hG_
      have f45 := f5
      have f35 := f4.trans f45
      have f25 := f3.trans f35
      have f15 := f2.trans f25
      have f05 := f1.trans f15
      have nm1 : m1 ≠ t := Td.some_ n_m1
      have nm2 : m2 ≠ t := (Td.same f1).some_ n_m2
      have nm3 : m3 ≠ t := (Td.same (f1.trans f2)).some_ n_m3
      have nm4 : m4 ≠ t := (Td.same (f1.trans (f2.trans f3))).some_ n_m4
      have nm5 : m5 ≠ t := (Td.same (f1.trans (f2.trans (f3.trans f4)))).some_ n_m5
      refine ⟨a, t, m5, ns, _, _, rfl, Td.same f05, by omega, i5, nm5, by simp, by simp, fun v He hv Te be => ?_⟩
      have hvl : ∃ (z : Addr) (zs : List V), v = .ref z ∧ He z = some (.lst zs) ∧ zs.length ≤ 1 ∧ ∀ y ∈ zs, y = o := by
        simp only [List.mem_cons, List.not_mem_nil, or_false] at hv
        rcases hv with rfl | rfl | rfl
        · exact ⟨_, _, rfl, be _ _ (f25 _ _ i2) nm2, by simp, fun y hy => nomatch hy⟩
        · exact ⟨_, _, rfl, be _ _ (f35 _ _ i3) nm3, by simp, fun y hy => nomatch hy⟩
        · exact ⟨_, _, rfl, be _ _ (f45 _ _ i4) nm4, by simp, fun y hy => List.mem_singleton.mp hy⟩
      obtain ⟨z, zs, rfl, hz, hzl, hzo⟩ := hvl
      have hm1 := be _ _ (f15 _ _ i1) nm1
      have hnle := be _ _ (f05 _ _ hnld) hnlt
      have hcl1 := cut_len (L.map V.int) none (some (j : Int))
      have hcl2 := cut_len (L.map V.int) (some (j : Int)) none
      rw [List.length_map] at hcl1 hcl2
      refine ⟨m1, z, _, _, rfl, rfl, hm1, hz, sz (by omega), ?_⟩
      intro w1 n_w1
      generalize hG_ : upd _ w1 _ = Hf
      obtain ⟨sf, hw1⟩ := newF n_w1 hG_
      clear hG_
      refine ⟨nl, _, rfl, sqL (sf _ _ hnle), ?_⟩
      intro w2 n_w2
      generalize hG_ : upd _ w2 _ = Hg
      obtain ⟨sg, hw2⟩ := newF n_w2 hG_
      clear hG_
      refine ⟨w1, w2, _, _, rfl, rfl, sg _ _ hw1, hw2, sz (by rw [List.length_append]; omega), ?_⟩
      intro w3 n_w3
      generalize hG_ : upd _ w3 _ = Hh
      obtain ⟨sh, hw3⟩ := newF n_w3 hG_
      clear hG_
      have seh := sf.trans (sg.trans sh)
      have Th := Te.same seh
      have nw3 : w3 ≠ t := (Te.same (sf.trans sg)).some_ n_w3
      generalize hNN : cutV (L.map V.int) none (some (j : Int)) ++ zs ++ cutV (L.map V.int) (some (j : Int)) none = NN at hw3
      have hNl : NN.length ≤ 1000 := by rw [← hNN, List.length_append, List.length_append]; omega
      have bdh := ((Same.thenB f05 be).thenS seh)
      have hNd : ∀ y ∈ NN, ∀ H', But t Hh H' → DX K H' 0 y := fun y hy H' b' => by
        rw [← hNN] at hy
        rcases List.mem_append.mp hy with hy | hy
        · rcases List.mem_append.mp hy with hy | hy
          · obtain ⟨k, _, rfl⟩ := List.mem_map.mp (cut_mem hy)
            exact dx_int k
          · rw [hzo y hy]
            exact hodd H' (bdh.trans b')
        · obtain ⟨k, _, rfl⟩ := List.mem_map.mp (cut_mem hy)
          exact dx_int k
      have hc11 : c8 + 1 + 1 + 1 + 1 ≤ 500 := by omega
      walk_at "rt"
      subst hK_
      first | with_reducible refine seq_k fun K_ hK_ => ?_ | skip
      walk_at "rt"
      refine ⟨_, .inl ⟨sqL hw3, ?_⟩⟩
      intro k1 n_k1
      generalize hG_ : upd _ k1 _ = J1
      obtain ⟨j1, h1⟩ := newF n_k1 hG_
      clear hG_
      simp only [L2.tDNewK]
      intro k2 n_k2
      generalize hG_ : upd _ k2 _ = J2
      obtain ⟨j2, h2⟩ := newF n_k2 hG_
      clear hG_
      have j12 := j1.trans j2
      have nk2 : k2 ≠ t := (Th.same j1).some_ n_k2
      refine pickV (Th.same j12) (by omega) (by simp) (by simp) (fun y hy Hi Ti bi => ?_)
      have bhi := Same.thenB j12 bi
      have hyd : DX K Hi 1 y := by
        simp only [List.mem_cons, List.not_mem_nil, or_false] at hy
        have hl : DX K Hi 1 (.ref w3) := dx_lst (bi _ _ (j12 _ _ hw3) nw3) (by omega) fun z hz => hNd z hz Hi bhi
        rcases hy with rfl | rfl | rfl | rfl | rfl | rfl | rfl | rfl | rfl
        · exact hl
        · exact hl
        · exact hl
        · exact hl
        · exact dx_tup ((Th.same j12).tup bi (j2 _ _ h1)) (by omega) fun z hz => hNd z hz Hi bhi
        · exact dx_non
        · exact dx_int _
        · exact dx_str (by decide +kernel)
        · exact dx_dic (bi _ _ h2 nk2)
      have bAll : But t H7 Hi := ((((b7c.thenS g05).trans bd).trans bdh).trans bhi)
      have hxi := hx7 Hi bAll
      obtain ⟨l5, hl5⟩ := T5.lst
      have hgood : gd_ = true → isRulesV Hi x = true := fun e => by
        rw [e] at hg
        obtain ⟨ra, rus5, rfl, R5⟩ := rules_at hg
        exact (R5.but (Same.thenB (s6.trans s7) bAll) hl5).is
      clear hNd hodd hL hNN
      walk_at "rt"
      subst hK_
      first | with_reducible refine seq_k fun K_ hK_ => ?_ | skip
      walk_at "rt"
      refine ⟨by omega, by omega, for_range (lo := 0) (n := 2) (iv10b Hi a t x y gd_ (some (.int j)) (some o)) ⟨_, _, rfl, Same.refl _⟩ ?_ ?_⟩
      · rintro i σ Hj hi ⟨y4', y8, rfl, sj⟩
        walk_at "rt"
        with_reducible refine seq_k fun K_ hK_ => ?_
        walk_at "rt"
        intro u n_u
        generalize hG_ : upd _ u _ = Hk
        obtain ⟨sk, hu⟩ := newF n_u hG_
        clear hG_
        have sik := sj.trans sk
        have hxk := (hxi.same sik).dt
        have hyk := (hyd.same sik)
        obtain ⟨ny, hny⟩ := hyd.th
        have nyk : isNightsV Hk y = isNightsV Hi y := isNightsV_same sik hny
        have cont : ∀ (p : Addr) (Hl : Hp) (s : Str) (v2 : V), Same Hk Hl → Hl p = some (.tup [.str s, v2]) → (gd_ = true → (s = "found" ∧ isNightsV Hi y = true) ∨ (s = "refused" ∧ v2 = .int 4 ∧ isNightsV Hi y = false)) →
            K_ [some (.ref a), some (.ref t), some x, some (.bl gd_), some (.int (0 + (i : Int))), some y, some (.int j), some o, some (.ref p), none] Hl := by
          intro p Hl s v2 sl hp hs
          have sil := sik.trans sl
          walk_at "rt"
          subst hK_
          first | with_reducible refine seq_k fun K_ hK_ => ?_ | skip
          walk_at "rt"
          cases gd_ with
          | false =>
            rw [if_neg Bool.false_ne_true]
            walk_at "rt"
            subst hK_
            first | with_reducible refine seq_k fun K_ hK_ => ?_ | skip
            walk_at "rt"
            exact ⟨_, _, rfl, sil⟩
          | true =>
            rw [if_pos rfl]
            refine ⟨y, rfl, hyd.same sil, fun Hm sm => ?_⟩
            have nyl : isNightsV Hl y = isNightsV Hi y := isNightsV_same sil hny
            have hpm := sm _ _ hp
            refine ixT (j := 0) (sqT hpm) rfl rfl ?_
            rcases hs rfl with ⟨rfl, h⟩ | ⟨rfl, rfl, h⟩
            · refine ⟨rfl, rfl, ?_⟩
              rw [nyl, h, if_neg (by simp)]
              walk_at "rt"
              subst hK_
              first | with_reducible refine seq_k fun K_ hK_ => ?_ | skip
              walk_at "rt"
              refine ixT (j := 0) (sqT hpm) rfl rfl ⟨rfl, ?_⟩
              rw [if_neg (fun e => e rfl)]
              exact ⟨_, _, rfl, sil.trans sm⟩
            · refine ⟨rfl, rfl, ?_⟩
              rw [nyl, h, if_neg (by simp; decide +kernel)]
              walk_at "rt"
              subst hK_
              first | with_reducible refine seq_k fun K_ hK_ => ?_ | skip
              walk_at "rt"
              refine ixT (j := 0) (sqT hpm) rfl rfl ⟨rfl, ?_⟩
              rw [if_pos (by simp; decide +kernel)]
              refine ⟨"nights", 4, rfl, rfl, fun p2 Hn sn _ hp2 => ?_⟩
              refine neD (dp_refused (sn _ _ hpm)) (dp_refused hp2) gd_refused gd_refused (fun _ => ⟨_, rfl, ?_⟩) (fun e => absurd rfl e)
              rw [if_neg Bool.false_ne_true]
              exact ⟨_, _, rfl, (sil.trans sm).trans sn⟩
        cases hri : isRulesV Hi x with
        | false =>
          refine told_bad hu hxk hyk.dt (by omega) (by omega) ((isRulesV_same sik hxi.dt).trans hri) (fun p Hl sl hp => ?_)
          exact cont p Hl _ _ sl hp (fun e => by rw [hgood e] at hri; cases hri)
        | true =>
          refine told_good hu hxk hyk.dt (by omega) (by omega) ((isRulesV_same sik hxi.dt).trans hri) (fun e p Hl sl hp => ?_) (fun e p z Hl sl hp => ?_)
          · exact cont p Hl _ _ sl hp (fun _ => .inr ⟨rfl, rfl, by rw [← nyk]; exact e⟩)
          · exact cont p Hl _ _ sl hp (fun _ => .inl ⟨rfl, by rw [← nyk]; exact e⟩)
      · rintro σ Hj ⟨y4', y8, rfl, sj⟩
        walk_at "rt"
        subst hK_
        first | with_reducible refine seq_k fun K_ hK_ => ?_ | skip
        walk_at "rt"
        exact q _
    refine ite2 (fun c1 => ?_) (fun c1 => rest H6 _ (Same.refl _))
    have hbad : isRulesV H6 x = false := by rw [r56]; exact c1
    have hxd := (hx6 H6 .refl).dt
    refine ⟨by omega, by omega, for_range (lo := 0) (n := 12) (iv10 H6 a t x gd_) ⟨none, rfl, Same.refl _⟩ ?_ ?_⟩
    · rintro i σ H7 hi ⟨y4, rfl, s7⟩
      walk_at "rt"
      intro u n_u
      generalize hG_ : upd _ u _ = H8
      obtain ⟨s8, hu⟩ := newF n_u hG_
      clear hG_
      have s78 := s7.trans s8
      refine told_bad hu (hxd.same s78) ⟨⟨_, .non⟩, fun a xs e => nomatch e⟩ (by omega) (by omega) ((isRulesV_same s78 hxd).trans hbad) (fun p H9 s9 hp => ?_)
      refine ⟨"rules", 3, rfl, rfl, fun p2 H10 s10 _ hp2 => ?_⟩
      refine neD (dp_refused (s10 _ _ hp)) (dp_refused hp2) gd_refused gd_refused (fun _ => ⟨_, rfl, ?_⟩) (fun e => absurd rfl e)
      rw [if_neg Bool.false_ne_true]
      exact ⟨_, rfl, s78.trans (s9.trans s10)⟩
    · rintro σ H7 ⟨y4, rfl, s7⟩
      exact rest H7 y4 s7
end
end Nk
namespace Nk
open PySem L2
theorem fin {P : Program} {w : World} {K : PySem.W.Frag} {mg : Str → Option Value} {fa : Addr} (hfa : mg "law" = some (.ref fa)) (T : Txt K mg) : ∃ fd : FuncData, (∀ (s : Shared) (v : Value), BindsTo s fd ⟨[v], []⟩ [("script", v)]) ∧ ∀ base : Heap, K.In base → base.Ns mainGlobals mg → FnOk P w K mg base CX0 10 fa fd ["script"] (spLaw K) :=
  law_end hfa T.d_law (fun _ _ _ _ _ _ _ => rfl) (fun base f fd F => ok_law F T)
end Nk
open PySem PySem.W PyProof.Rows
set_option maxRecDepth 100000 in
set_option maxHeartbeats 0 in
theorem PySem.Challenge.cw_nightkeep_k10_refused_rules_holds : PySem.Challenge.rw_nightkeep_k10_refused_rules.Holds := by
  w_on; o_law; k_head; (case hw => w_witness2)
  k_fill
  refine L2.walk_of (l := PySem.Challenge.rw_nightkeep_k10_refused_rules) (n := 63) (k := 10) (x := "script") (CX := fun _ => L2.CX0) (sp := fun w => Nk.spLaw _) rfl (by decide) rfl ⟨rfl, by decide, by decide⟩ (fun w h Y => PySem.W.kIn_of Y) ?F (fun _ _ a ns hl _ hS => ⟨a, ns, rfl, hS, hl, fun _ => rfl⟩) (fun _ _ _ _ _ h => h)
  case F =>
    intro w mg fa h KX G hmg
    refine Nk.fin hmg ?_
    refine ⟨?d_is_number, ?d_is_rounds, ?d_look_night, ?d_number_of, ?d_first_of, ?d_is_rule, ?d_look_rules, ?d_look_nights, ?d_kept_by, ?d_kept_of, ?d_kept, ?d_reasons, ?d_held_at, ?d_gap, ?d_turn, ?d_full, ?d_look_small, ?d_within, ?d_lean, ?d_most, ?d__law_town, ?d__law_draw, ?d__law_pick, ?d__law_word, ?d__law_refused, ?d__law_told, ?d__law_whole, ?d__law_rounds, ?d__law_rules, ?d__law_nights, ?d__law_one, ?d__law_good, ?d__law_spoilt, ?d__law_ordered, ?d_law, ?x_KeepError, ?x_BadRounds, ?x_BadNight, ?x_BadNumber, ?x_BadRules, ?x_BadNights, ?x_Full, ?x_NotHeld, ?x_Pinned, ?x_NotPinned, ?x_BadState, ?x_BadPart, ?x_NotFit, ?x_IsWhole, ?x_BadPlan, ?x_Unlike, ?x_BadText, ?y_Elder, ?o_Keep, ?m_Keep____init__, ?m_Keep____len__, ?n_Keep__last, ?n_Keep__nights, ?n_Keep__pinned, ?n_Keep__rules, ?o_Store, ?m_Store____len__, ?q_Keep____init__, ?i_Store, ?k_err, ?e_BadRounds, ?e_BadNight, ?e_BadNumber, ?e_BadRules, ?e_BadNights, ?e_Elder, ?e_Full, ?e_NotHeld, ?e_Pinned, ?e_NotPinned, ?e_BadState, ?e_BadPart, ?e_NotFit, ?e_IsWhole, ?e_BadPlan, ?e_Unlike, ?e_BadText, ?c_MOST_NIGHT, ?c_MOST_HELD, ?b_RuntimeError, ?b_all, ?b_bool, ?b_enumerate, ?b_int, ?b_isinstance, ?b_len, ?b_list, ?b_max, ?b_min, ?b_range, ?b_reversed, ?b_set, ?b_sorted, ?b_sum, ?b_tuple, ?b_zip⟩
    case d_is_number => (refine' Nk.df_mk (st := Nk.s_is_number) KX G (fun _ _ _ _ _ _ us hl => match us, hl with | [_, _, _], _ => rfl) ?a ?l ?c ?k; (case a => k_is); (case l => k_is); (case c => k_is); (case k => k_is))
    case d_is_rounds => (refine' Nk.df_mk (st := Nk.s_is_rounds) KX G (fun _ _ _ _ _ _ us hl => match us, hl with | [_], _ => rfl) ?a ?l ?c ?k; (case a => k_is); (case l => k_is); (case c => k_is); (case k => k_is))
    case d_look_night => (refine' Nk.df_mk (st := Nk.s_look_night) KX G (fun _ _ _ _ _ _ us hl => match us, hl with | [_], _ => rfl) ?a ?l ?c ?k; (case a => k_is); (case l => k_is); (case c => k_is); (case k => k_is))
    case d_number_of => (refine' Nk.df_mk (st := Nk.s_number_of) KX G (fun _ _ _ _ _ _ us hl => match us, hl with | [_, _], _ => rfl) ?a ?l ?c ?k; (case a => k_is); (case l => k_is); (case c => k_is); (case k => k_is))
    case d_first_of => (refine' Nk.df_mk (st := Nk.s_first_of) KX G (fun _ _ _ _ _ _ us hl => match us, hl with | [_, _], _ => rfl) ?a ?l ?c ?k; (case a => k_is); (case l => k_is); (case c => k_is); (case k => k_is))
    case d_is_rule => (refine' Nk.df_mk (st := Nk.s_is_rule) KX G (fun _ _ _ _ _ _ us hl => match us, hl with | [_], _ => rfl) ?a ?l ?c ?k; (case a => k_is); (case l => k_is); (case c => k_is); (case k => k_is))
    case d_look_rules => (refine' Nk.df_mk (st := Nk.s_look_rules) KX G (fun _ _ _ _ _ _ us hl => match us, hl with | [_], _ => rfl) ?a ?l ?c ?k; (case a => k_is); (case l => k_is); (case c => k_is); (case k => k_is))
    case d_look_nights => (refine' Nk.df_mk (st := Nk.s_look_nights) KX G (fun _ _ _ _ _ _ us hl => match us, hl with | [_], _ => rfl) ?a ?l ?c ?k; (case a => k_is); (case l => k_is); (case c => k_is); (case k => k_is))
    case d_kept_by => (refine' Nk.df_mk (st := Nk.s_kept_by) KX G (fun _ _ _ _ _ _ us hl => match us, hl with | [_, _], _ => rfl) ?a ?l ?c ?k; (case a => k_is); (case l => k_is); (case c => k_is); (case k => k_is))
    case d_kept_of => (refine' Nk.df_mk (st := Nk.s_kept_of) KX G (fun _ _ _ _ _ _ us hl => match us, hl with | [_, _], _ => rfl) ?a ?l ?c ?k; (case a => k_is); (case l => k_is); (case c => k_is); (case k => k_is))
    case d_kept => (refine' Nk.df_mk (st := Nk.s_kept) KX G (fun _ _ _ _ _ _ us hl => match us, hl with | [_, _], _ => rfl) ?a ?l ?c ?k; (case a => k_is); (case l => k_is); (case c => k_is); (case k => k_is))
    case d_reasons => (refine' Nk.df_mk (st := Nk.s_reasons) KX G (fun _ _ _ _ _ _ us hl => match us, hl with | [_, _], _ => rfl) ?a ?l ?c ?k; (case a => k_is); (case l => k_is); (case c => k_is); (case k => k_is))
    case d_held_at => (refine' Nk.df_mk (st := Nk.s_held_at) KX G (fun _ _ _ _ _ _ us hl => match us, hl with | [_, _], _ => rfl) ?a ?l ?c ?k; (case a => k_is); (case l => k_is); (case c => k_is); (case k => k_is))
    case d_gap => (refine' Nk.df_mk (st := Nk.s_gap) KX G (fun _ _ _ _ _ _ us hl => match us, hl with | [_, _], _ => rfl) ?a ?l ?c ?k; (case a => k_is); (case l => k_is); (case c => k_is); (case k => k_is))
    case d_turn => (refine' Nk.df_mk (st := Nk.s_turn) KX G (fun _ _ _ _ _ _ us hl => match us, hl with | [_], _ => rfl) ?a ?l ?c ?k; (case a => k_is); (case l => k_is); (case c => k_is); (case k => k_is))
    case d_full => (refine' Nk.df_mk (st := Nk.s_full) KX G (fun _ _ _ _ _ _ us hl => match us, hl with | [_], _ => rfl) ?a ?l ?c ?k; (case a => k_is); (case l => k_is); (case c => k_is); (case k => k_is))
    case d_look_small => (refine' Nk.df_mk (st := Nk.s_look_small) KX G (fun _ _ _ _ _ _ us hl => match us, hl with | [_], _ => rfl) ?a ?l ?c ?k; (case a => k_is); (case l => k_is); (case c => k_is); (case k => k_is))
    case d_within => (refine' Nk.df_mk (st := Nk.s_within) KX G (fun _ _ _ _ _ _ us hl => match us, hl with | [_, _], _ => rfl) ?a ?l ?c ?k; (case a => k_is); (case l => k_is); (case c => k_is); (case k => k_is))
    case d_lean => (refine' Nk.df_mk (st := Nk.s_lean) KX G (fun _ _ _ _ _ _ us hl => match us, hl with | [_], _ => rfl) ?a ?l ?c ?k; (case a => k_is); (case l => k_is); (case c => k_is); (case k => k_is))
    case d_most => (refine' Nk.df_mk (st := Nk.s_most) KX G (fun _ _ _ _ _ _ us hl => match us, hl with | [_], _ => rfl) ?a ?l ?c ?k; (case a => k_is); (case l => k_is); (case c => k_is); (case k => k_is))
    case d__law_town => (refine' Nk.df_mk (st := Nk.s__law_town) KX G (fun _ _ _ _ _ _ us hl => match us, hl with | [_], _ => rfl) ?a ?l ?c ?k; (case a => k_is); (case l => k_is); (case c => k_is); (case k => k_is))
    case d__law_draw => (refine' Nk.df_mk (st := Nk.s__law_draw) KX G (fun _ _ _ _ _ _ us hl => match us, hl with | [_, _, _], _ => rfl) ?a ?l ?c ?k; (case a => k_is); (case l => k_is); (case c => k_is); (case k => k_is))
    case d__law_pick => (refine' Nk.df_mk (st := Nk.s__law_pick) KX G (fun _ _ _ _ _ _ us hl => match us, hl with | [_, _, _], _ => rfl) ?a ?l ?c ?k; (case a => k_is); (case l => k_is); (case c => k_is); (case k => k_is))
    case d__law_word => (refine' Nk.df_mk (st := Nk.s__law_word) KX G (fun _ _ _ _ _ _ us hl => match us, hl with | [_], _ => rfl) ?a ?l ?c ?k; (case a => k_is); (case l => k_is); (case c => k_is); (case k => k_is))
    case d__law_refused => (refine' Nk.df_mk (st := Nk.s__law_refused) KX G (fun _ _ _ _ _ _ us hl => match us, hl with | [_], _ => rfl) ?a ?l ?c ?k; (case a => k_is); (case l => k_is); (case c => k_is); (case k => k_is))
    case d__law_told => (refine' Nk.df_mk (st := Nk.s__law_told) KX G (fun _ _ _ _ _ _ us hl => match us, hl with | [_, _], _ => rfl) ?a ?l ?c ?k; (case a => k_is); (case l => k_is); (case c => k_is); (case k => k_is))
    case d__law_whole => (refine' Nk.df_mk (st := Nk.s__law_whole) KX G (fun _ _ _ _ _ _ us hl => match us, hl with | [_], _ => rfl) ?a ?l ?c ?k; (case a => k_is); (case l => k_is); (case c => k_is); (case k => k_is))
    case d__law_rounds => (refine' Nk.df_mk (st := Nk.s__law_rounds) KX G (fun _ _ _ _ _ _ us hl => match us, hl with | [_, _, _, _], _ => rfl) ?a ?l ?c ?k; (case a => k_is); (case l => k_is); (case c => k_is); (case k => k_is))
    case d__law_rules => (refine' Nk.df_mk (st := Nk.s__law_rules) KX G (fun _ _ _ _ _ _ us hl => match us, hl with | [_, _, _, _, _, _], _ => rfl) ?a ?l ?c ?k; (case a => k_is); (case l => k_is); (case c => k_is); (case k => k_is))
    case d__law_nights => (refine' Nk.df_mk (st := Nk.s__law_nights) KX G (fun _ _ _ _ _ _ us hl => match us, hl with | [_, _, _, _], _ => rfl) ?a ?l ?c ?k; (case a => k_is); (case l => k_is); (case c => k_is); (case k => k_is))
    case d__law_one => (refine' Nk.df_mk (st := Nk.s__law_one) KX G (fun _ _ _ _ _ _ us hl => match us, hl with | [_, _], _ => rfl) ?a ?l ?c ?k; (case a => k_is); (case l => k_is); (case c => k_is); (case k => k_is))
    case d__law_good => (refine' Nk.df_mk (st := Nk.s__law_good) KX G (fun _ _ _ _ _ _ us hl => match us, hl with | [_], _ => rfl) ?a ?l ?c ?k; (case a => k_is); (case l => k_is); (case c => k_is); (case k => k_is))
    case d__law_spoilt => (refine' Nk.df_mk (st := Nk.s__law_spoilt) KX G (fun _ _ _ _ _ _ us hl => match us, hl with | [_, _, _], _ => rfl) ?a ?l ?c ?k; (case a => k_is); (case l => k_is); (case c => k_is); (case k => k_is))
    case d__law_ordered => (refine' Nk.df_mk (st := Nk.s__law_ordered) KX G (fun _ _ _ _ _ _ us hl => match us, hl with | [_], _ => rfl) ?a ?l ?c ?k; (case a => k_is); (case l => k_is); (case c => k_is); (case k => k_is))
    case d_law => (refine' Nk.df_mk (st := Nk.s_law) KX G (fun _ _ _ _ _ _ us hl => match us, hl with | [_], _ => rfl) ?a ?l ?c ?k; (case a => k_is); (case l => k_is); (case c => k_is); (case k => k_is))
    case x_KeepError => (refine' Nk.xc_mk KX G ?a ?x ?k ?b ?t; (case a => k_is); (case x => k_exc); (case k => k_is); (case b => k_is); (case t => k_is))
    case x_BadRounds => (refine' Nk.xc_mk KX G ?a ?x ?k ?b ?t; (case a => k_is); (case x => k_exc); (case k => k_is); (case b => k_is); (case t => k_is))
    case x_BadNight => (refine' Nk.xc_mk KX G ?a ?x ?k ?b ?t; (case a => k_is); (case x => k_exc); (case k => k_is); (case b => k_is); (case t => k_is))
    case x_BadNumber => (refine' Nk.xc_mk KX G ?a ?x ?k ?b ?t; (case a => k_is); (case x => k_exc); (case k => k_is); (case b => k_is); (case t => k_is))
    case x_BadRules => (refine' Nk.xc_mk KX G ?a ?x ?k ?b ?t; (case a => k_is); (case x => k_exc); (case k => k_is); (case b => k_is); (case t => k_is))
    case x_BadNights => (refine' Nk.xc_mk KX G ?a ?x ?k ?b ?t; (case a => k_is); (case x => k_exc); (case k => k_is); (case b => k_is); (case t => k_is))
    case x_Full => (refine' Nk.xc_mk KX G ?a ?x ?k ?b ?t; (case a => k_is); (case x => k_exc); (case k => k_is); (case b => k_is); (case t => k_is))
    case x_NotHeld => (refine' Nk.xc_mk KX G ?a ?x ?k ?b ?t; (case a => k_is); (case x => k_exc); (case k => k_is); (case b => k_is); (case t => k_is))
    case x_Pinned => (refine' Nk.xc_mk KX G ?a ?x ?k ?b ?t; (case a => k_is); (case x => k_exc); (case k => k_is); (case b => k_is); (case t => k_is))
    case x_NotPinned => (refine' Nk.xc_mk KX G ?a ?x ?k ?b ?t; (case a => k_is); (case x => k_exc); (case k => k_is); (case b => k_is); (case t => k_is))
    case x_BadState => (refine' Nk.xc_mk KX G ?a ?x ?k ?b ?t; (case a => k_is); (case x => k_exc); (case k => k_is); (case b => k_is); (case t => k_is))
    case x_BadPart => (refine' Nk.xc_mk KX G ?a ?x ?k ?b ?t; (case a => k_is); (case x => k_exc); (case k => k_is); (case b => k_is); (case t => k_is))
    case x_NotFit => (refine' Nk.xc_mk KX G ?a ?x ?k ?b ?t; (case a => k_is); (case x => k_exc); (case k => k_is); (case b => k_is); (case t => k_is))
    case x_IsWhole => (refine' Nk.xc_mk KX G ?a ?x ?k ?b ?t; (case a => k_is); (case x => k_exc); (case k => k_is); (case b => k_is); (case t => k_is))
    case x_BadPlan => (refine' Nk.xc_mk KX G ?a ?x ?k ?b ?t; (case a => k_is); (case x => k_exc); (case k => k_is); (case b => k_is); (case t => k_is))
    case x_Unlike => (refine' Nk.xc_mk KX G ?a ?x ?k ?b ?t; (case a => k_is); (case x => k_exc); (case k => k_is); (case b => k_is); (case t => k_is))
    case x_BadText => (refine' Nk.xc_mk KX G ?a ?x ?k ?b ?t; (case a => k_is); (case x => k_exc); (case k => k_is); (case b => k_is); (case t => k_is))
    case y_Elder => (refine' Nk.eo_mk (st := Nk.s_Elder____init__) KX G (fun _ _ _ _ _ _ us hl => match us, hl with | [_, _], _ => rfl) ?aC ?lC ?sa ?ex ?ty ?kC ?na ?ai ?ti ?li ?cc ?ki; (case aC => k_is); (case lC => k_is); (case sa => k_is); (case ex => k_is); (case ty => k_is); (case kC => k_is); (case na => k_is); (case ai => k_is); (case ti => k_is); (case li => k_is); (case cc => k_is); (case ki => k_is))
    case o_Keep => (refine' Nk.oc_mk KX G ?aC ?pg ?hd ?po ?sa ?mk ?kc; (case aC => k_is); (case pg => k_is); (case hd => k_is); (case po => k_is); (case sa => k_is); (case mk => k_is); (case kc => k_is))
    case m_Keep____init__ => (refine' Nk.md_mk (st := Nk.s_Keep____init__) KX G (fun _ _ _ _ _ _ us hl => match us, hl with | [_, _], _ => rfl) ?aC ?ai ?ii ?li ?cc ?ki; (case aC => k_is); (case ai => k_is); (case ii => k_is); (case li => k_is); (case cc => k_is); (case ki => k_is))
    case m_Keep____len__ => (refine' Nk.md_mk (st := Nk.s_Keep____len__) KX G (fun _ _ _ _ _ _ us hl => match us, hl with | [_], _ => rfl) ?aC ?ai ?ii ?li ?cc ?ki; (case aC => k_is); (case ai => k_is); (case ii => k_is); (case li => k_is); (case cc => k_is); (case ki => k_is))
    case n_Keep__last => (refine' Nk.na_mk KX G ?aC ?n; (case aC => k_is); (case n => k_is))
    case n_Keep__nights => (refine' Nk.na_mk KX G ?aC ?n; (case aC => k_is); (case n => k_is))
    case n_Keep__pinned => (refine' Nk.na_mk KX G ?aC ?n; (case aC => k_is); (case n => k_is))
    case n_Keep__rules => (refine' Nk.na_mk KX G ?aC ?n; (case aC => k_is); (case n => k_is))
    case o_Store => (refine' Nk.oc_mk KX G ?aC ?pg ?hd ?po ?sa ?mk ?kc; (case aC => k_is); (case pg => k_is); (case hd => k_is); (case po => k_is); (case sa => k_is); (case mk => k_is); (case kc => k_is))
    case m_Store____len__ => (refine' Nk.md_mk (st := Nk.s_Keep____len__) KX G (fun _ _ _ _ _ _ us hl => match us, hl with | [_], _ => rfl) ?aC ?ai ?ii ?li ?cc ?ki; (case aC => k_is); (case ai => k_is); (case ii => k_is); (case li => k_is); (case cc => k_is); (case ki => k_is))
    case q_Keep____init__ => (refine' Nk.cf_mk (mc := .type "type") KX G ?aC ?rd ?ga ?fc ?ai; (case aC => k_is); (case rd => k_is); (case ga => k_is); (case fc => k_is); (case ai => k_is))
    case i_Store => (refine' Nk.sd_mk (st := Nk.s_Store____init__) KX G ?aC ?ai ?ii ?li ?lT ?cc ?ki; (case aC => k_is); (case ai => k_is); (case ii => k_is); (case li => k_is); (case lT => k_is); (case cc => k_is); (case ki => k_is))
    case k_err => (refine' Nk.kc_mk KX G ?a ?l ?t ?d; (case a => k_is); (case l => k_is); (case t => k_is); (case d => k_is))
    case e_BadRounds => (refine' Nk.ec_mk KX G ?k ?a ?l ?t ?d ?h1 ?h2 ?h3 ?h4 ?h5; (case k => k_is); (case a => k_is); (case l => k_is); (case t => k_is); (case d => k_is); (case h1 => k_is); (case h2 => k_is); (case h3 => k_is); (case h4 => k_is); (case h5 => k_is))
    case e_BadNight => (refine' Nk.ec_mk KX G ?k ?a ?l ?t ?d ?h1 ?h2 ?h3 ?h4 ?h5; (case k => k_is); (case a => k_is); (case l => k_is); (case t => k_is); (case d => k_is); (case h1 => k_is); (case h2 => k_is); (case h3 => k_is); (case h4 => k_is); (case h5 => k_is))
    case e_BadNumber => (refine' Nk.ec_mk KX G ?k ?a ?l ?t ?d ?h1 ?h2 ?h3 ?h4 ?h5; (case k => k_is); (case a => k_is); (case l => k_is); (case t => k_is); (case d => k_is); (case h1 => k_is); (case h2 => k_is); (case h3 => k_is); (case h4 => k_is); (case h5 => k_is))
    case e_BadRules => (refine' Nk.ec_mk KX G ?k ?a ?l ?t ?d ?h1 ?h2 ?h3 ?h4 ?h5; (case k => k_is); (case a => k_is); (case l => k_is); (case t => k_is); (case d => k_is); (case h1 => k_is); (case h2 => k_is); (case h3 => k_is); (case h4 => k_is); (case h5 => k_is))
    case e_BadNights => (refine' Nk.ec_mk KX G ?k ?a ?l ?t ?d ?h1 ?h2 ?h3 ?h4 ?h5; (case k => k_is); (case a => k_is); (case l => k_is); (case t => k_is); (case d => k_is); (case h1 => k_is); (case h2 => k_is); (case h3 => k_is); (case h4 => k_is); (case h5 => k_is))
    case e_Elder => (refine' Nk.ec_mk KX G ?k ?a ?l ?t ?d ?h1 ?h2 ?h3 ?h4 ?h5; (case k => k_is); (case a => k_is); (case l => k_is); (case t => k_is); (case d => k_is); (case h1 => k_is); (case h2 => k_is); (case h3 => k_is); (case h4 => k_is); (case h5 => k_is))
    case e_Full => (refine' Nk.ec_mk KX G ?k ?a ?l ?t ?d ?h1 ?h2 ?h3 ?h4 ?h5; (case k => k_is); (case a => k_is); (case l => k_is); (case t => k_is); (case d => k_is); (case h1 => k_is); (case h2 => k_is); (case h3 => k_is); (case h4 => k_is); (case h5 => k_is))
    case e_NotHeld => (refine' Nk.ec_mk KX G ?k ?a ?l ?t ?d ?h1 ?h2 ?h3 ?h4 ?h5; (case k => k_is); (case a => k_is); (case l => k_is); (case t => k_is); (case d => k_is); (case h1 => k_is); (case h2 => k_is); (case h3 => k_is); (case h4 => k_is); (case h5 => k_is))
    case e_Pinned => (refine' Nk.ec_mk KX G ?k ?a ?l ?t ?d ?h1 ?h2 ?h3 ?h4 ?h5; (case k => k_is); (case a => k_is); (case l => k_is); (case t => k_is); (case d => k_is); (case h1 => k_is); (case h2 => k_is); (case h3 => k_is); (case h4 => k_is); (case h5 => k_is))
    case e_NotPinned => (refine' Nk.ec_mk KX G ?k ?a ?l ?t ?d ?h1 ?h2 ?h3 ?h4 ?h5; (case k => k_is); (case a => k_is); (case l => k_is); (case t => k_is); (case d => k_is); (case h1 => k_is); (case h2 => k_is); (case h3 => k_is); (case h4 => k_is); (case h5 => k_is))
    case e_BadState => (refine' Nk.ec_mk KX G ?k ?a ?l ?t ?d ?h1 ?h2 ?h3 ?h4 ?h5; (case k => k_is); (case a => k_is); (case l => k_is); (case t => k_is); (case d => k_is); (case h1 => k_is); (case h2 => k_is); (case h3 => k_is); (case h4 => k_is); (case h5 => k_is))
    case e_BadPart => (refine' Nk.ec_mk KX G ?k ?a ?l ?t ?d ?h1 ?h2 ?h3 ?h4 ?h5; (case k => k_is); (case a => k_is); (case l => k_is); (case t => k_is); (case d => k_is); (case h1 => k_is); (case h2 => k_is); (case h3 => k_is); (case h4 => k_is); (case h5 => k_is))
    case e_NotFit => (refine' Nk.ec_mk KX G ?k ?a ?l ?t ?d ?h1 ?h2 ?h3 ?h4 ?h5; (case k => k_is); (case a => k_is); (case l => k_is); (case t => k_is); (case d => k_is); (case h1 => k_is); (case h2 => k_is); (case h3 => k_is); (case h4 => k_is); (case h5 => k_is))
    case e_IsWhole => (refine' Nk.ec_mk KX G ?k ?a ?l ?t ?d ?h1 ?h2 ?h3 ?h4 ?h5; (case k => k_is); (case a => k_is); (case l => k_is); (case t => k_is); (case d => k_is); (case h1 => k_is); (case h2 => k_is); (case h3 => k_is); (case h4 => k_is); (case h5 => k_is))
    case e_BadPlan => (refine' Nk.ec_mk KX G ?k ?a ?l ?t ?d ?h1 ?h2 ?h3 ?h4 ?h5; (case k => k_is); (case a => k_is); (case l => k_is); (case t => k_is); (case d => k_is); (case h1 => k_is); (case h2 => k_is); (case h3 => k_is); (case h4 => k_is); (case h5 => k_is))
    case e_Unlike => (refine' Nk.ec_mk KX G ?k ?a ?l ?t ?d ?h1 ?h2 ?h3 ?h4 ?h5; (case k => k_is); (case a => k_is); (case l => k_is); (case t => k_is); (case d => k_is); (case h1 => k_is); (case h2 => k_is); (case h3 => k_is); (case h4 => k_is); (case h5 => k_is))
    case e_BadText => (refine' Nk.ec_mk KX G ?k ?a ?l ?t ?d ?h1 ?h2 ?h3 ?h4 ?h5; (case k => k_is); (case a => k_is); (case l => k_is); (case t => k_is); (case d => k_is); (case h1 => k_is); (case h2 => k_is); (case h3 => k_is); (case h4 => k_is); (case h5 => k_is))
    case c_MOST_NIGHT => (refine' Nk.ci_mk KX G ?a; (case a => k_is))
    case c_MOST_HELD => (refine' Nk.ci_mk KX G ?a; (case a => k_is))
    case b_RuntimeError => (refine' PySem.W.mg_none_of KX G ?a; (case a => k_is))
    case b_all => (refine' PySem.W.mg_none_of KX G ?a; (case a => k_is))
    case b_bool => (refine' PySem.W.mg_none_of KX G ?a; (case a => k_is))
    case b_enumerate => (refine' PySem.W.mg_none_of KX G ?a; (case a => k_is))
    case b_int => (refine' PySem.W.mg_none_of KX G ?a; (case a => k_is))
    case b_isinstance => (refine' PySem.W.mg_none_of KX G ?a; (case a => k_is))
    case b_len => (refine' PySem.W.mg_none_of KX G ?a; (case a => k_is))
    case b_list => (refine' PySem.W.mg_none_of KX G ?a; (case a => k_is))
    case b_max => (refine' PySem.W.mg_none_of KX G ?a; (case a => k_is))
    case b_min => (refine' PySem.W.mg_none_of KX G ?a; (case a => k_is))
    case b_range => (refine' PySem.W.mg_none_of KX G ?a; (case a => k_is))
    case b_reversed => (refine' PySem.W.mg_none_of KX G ?a; (case a => k_is))
    case b_set => (refine' PySem.W.mg_none_of KX G ?a; (case a => k_is))
    case b_sorted => (refine' PySem.W.mg_none_of KX G ?a; (case a => k_is))
    case b_sum => (refine' PySem.W.mg_none_of KX G ?a; (case a => k_is))
    case b_tuple => (refine' PySem.W.mg_none_of KX G ?a; (case a => k_is))
    case b_zip => (refine' PySem.W.mg_none_of KX G ?a; (case a => k_is))
