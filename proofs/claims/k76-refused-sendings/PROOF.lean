import PyProof.Rows.All
import Wide.All
import OpenK.AllK
import Wide.FinOn
import HandS.ForMost
import HandS.ForExc
import HandS.IsInst
import HandS.Wide
import HandS.SortInts
import HandS.Zip
import HandS.Walk
import HandS.Evl
import HandS.More
import HandS.Conv
import HandS.ExcIs
import HandS.ExcField
import HandS.ExcInit
import HandS.Sort
import HandS.SetFor
import HandS.TupMul
import HandS.Strs
import HandS.Deep
import HandS.Defaults
import HandS.MakeKw
import HandS.Style
import PyProof.Rows.SortShellAny
import HandS.DeepEq
import HandS.TupSets
import KE.KDictDisplayH
import KE.KEqNest
import KE.KDictSum
import KE.KTupSum
import KE.KExcIs
import KE.KExcInit
import PySem.Challenge.RW_nightkeep_k76_refused_sendings
set_option Elab.async false
set_option linter.all false
set_option maxRecDepth 100000
set_option maxHeartbeats 4000000
/-! ### rounds: plain mathematics -/
namespace Nk
def pre (rs : List Int) (j : Nat) : Int := (rs.take j).sum
def walkR : List Int → Int → Int → Int
  | [], _, found => found
  | r :: rs, left, found => if left < r then found else walkR rs (left - r) (found + 1)
def numOf (rs : List Int) (n : Int) : Int := walkR rs (n % rs.sum) (n / rs.sum * rs.length)
def firstOf (rs : List Int) (k : Int) : Int := k / rs.length * rs.sum + pre rs (k % rs.length).toNat
/-- lengths: at least one, each at least 1 -/
structure Rnds (rs : List Int) : Prop where
  ne : rs ≠ []
  pos : ∀ r ∈ rs, 1 ≤ r
theorem pre_zero (rs : List Int) : pre rs 0 = 0 := by simp [pre]
theorem pre_cons (r : Int) (rs : List Int) (j : Nat) : pre (r :: rs) (j + 1) = r + pre rs j := by simp [pre]
theorem pre_len (rs : List Int) : pre rs rs.length = rs.sum := by simp [pre]
theorem pre_step : ∀ {rs : List Int} {j : Nat} {r : Int}, rs[j]? = some r → pre rs (j + 1) = pre rs j + r
  | [], _, _, h => by simp at h
  | a :: rs, 0, r, h => by
    have e : a = r := by simpa using h
    subst e
    rw [pre_cons, pre_zero, pre_zero]; omega
  | a :: rs, j + 1, r, h => by
    have ih := pre_step (rs := rs) (j := j) (r := r) (by simpa using h)
    rw [pre_cons, pre_cons, ih]; omega
theorem pre_mono {rs : List Int} (hp : ∀ r ∈ rs, 1 ≤ r) : ∀ {i j : Nat}, i ≤ j → j ≤ rs.length → pre rs i + ((j : Int) - (i : Int)) ≤ pre rs j := by
  intro i j hij hj
  induction j with
  | zero =>
    have : i = 0 := by omega
    subst this; simp
  | succ j ih =>
    by_cases h : i = j + 1
    · subst h; simp
    · have h1 := ih (by omega) (by omega)
      have hlt : j < rs.length := by omega
      have e := pre_step (List.getElem?_eq_getElem hlt)
      have p := hp _ (List.getElem_mem hlt)
      rw [e]
      omega
theorem pre_nonneg {rs : List Int} (hp : ∀ r ∈ rs, 1 ≤ r) {j : Nat} (hj : j ≤ rs.length) : (j : Int) ≤ pre rs j := by
  have := pre_mono hp (Nat.zero_le j) hj
  rw [pre_zero] at this
  omega
theorem sum_ge {rs : List Int} (hp : ∀ r ∈ rs, 1 ≤ r) : (rs.length : Int) ≤ rs.sum := by
  have := pre_nonneg hp (Nat.le_refl rs.length)
  rw [pre_len] at this
  exact this
theorem Rnds.len {rs : List Int} (h : Rnds rs) : 0 < rs.length := List.length_pos_iff.mpr h.ne
theorem Rnds.sum {rs : List Int} (h : Rnds rs) : 0 < rs.sum := by
  have := sum_ge h.pos
  have := h.len
  omega
theorem walkR_spec : ∀ (rs : List Int) (left found : Int), 0 ≤ left → left < rs.sum → ∃ j : Nat, j < rs.length ∧ walkR rs left found = found + j ∧ pre rs j ≤ left ∧ left < pre rs (j + 1)
  | [], left, found, h0, h1 => by simp at h1; omega
  | r :: rs, left, found, h0, h1 => by
    unfold walkR
    by_cases c : left < r
    · refine ⟨0, by simp, by simp [c], ?_, ?_⟩
      · rw [pre_zero]; exact h0
      · rw [pre_cons, pre_zero]; omega
    · rw [if_neg c]
      obtain ⟨j, hj, e, h2, h3⟩ := walkR_spec rs (left - r) (found + 1) (by omega) (by rw [List.sum_cons] at h1; omega)
      refine ⟨j + 1, by simp; omega, ?_, ?_, ?_⟩
      · rw [e]; push_cast; omega
      · rw [pre_cons]; omega
      · rw [pre_cons]; omega
theorem pre_uniq {rs : List Int} (hp : ∀ r ∈ rs, 1 ≤ r) {i j : Nat} (hi : i < rs.length) (hj : j < rs.length) {x : Int} (h1 : pre rs i ≤ x) (h2 : x < pre rs (i + 1)) (h3 : pre rs j ≤ x) (h4 : x < pre rs (j + 1)) : i = j := by
  by_cases h : i < j
  · have := pre_mono hp (i := i + 1) (j := j) (by omega) (by omega)
    omega
  · by_cases h' : j < i
    · have := pre_mono hp (i := j + 1) (j := i) (by omega) (by omega)
      omega
    · omega
theorem emod_nat {k : Int} {n : Nat} (h : 0 < n) : ∃ j : Nat, j < n ∧ k % (n : Int) = (j : Int) ∧ (j : Int) + (n : Int) * (k / (n : Int)) = k := by
  have h0 := Int.emod_nonneg k (show (n : Int) ≠ 0 by omega)
  have h1 := Int.emod_lt_of_pos k (show (0 : Int) < n by omega)
  have h2 := Int.emod_add_mul_ediv k (n : Int)
  exact ⟨(k % n).toNat, by omega, by omega, by omega⟩
/-- a round, by its place in the turn -/
theorem firstOf_at {rs : List Int} (h : Rnds rs) (q : Int) {j : Nat} (hj : j ≤ rs.length) : firstOf rs (q * rs.length + j) = q * rs.sum + pre rs j := by
  have hl := h.len
  unfold firstOf
  by_cases e : j = rs.length
  · have h1 : (q * (rs.length : Int) + (j : Int)) / (rs.length : Int) = q + 1 ∧ (q * (rs.length : Int) + (j : Int)) % (rs.length : Int) = 0 := by
      rw [Int.ediv_emod_unique (by omega)]
      refine ⟨?_, by omega, by omega⟩
      rw [e, Int.mul_add, Int.mul_comm q]; omega
    rw [h1.1, h1.2, e, pre_len]
    show (q + 1) * rs.sum + pre rs (Int.toNat 0) = _
    rw [show Int.toNat 0 = 0 from rfl, pre_zero, Int.add_mul]
    omega
  · have h1 : (q * (rs.length : Int) + (j : Int)) / (rs.length : Int) = q ∧ (q * (rs.length : Int) + (j : Int)) % (rs.length : Int) = (j : Int) := by
      rw [Int.ediv_emod_unique (by omega)]
      refine ⟨?_, by omega, by omega⟩
      rw [Int.mul_comm q]; omega
    rw [h1.1, h1.2]
    simp
theorem firstOf_step {rs : List Int} (h : Rnds rs) (k : Int) {r : Int} (hr : rs[(k % rs.length).toNat]? = some r) : firstOf rs (k + 1) = firstOf rs k + r := by
  obtain ⟨j, hj, e, f⟩ := emod_nat (k := k) h.len
  rw [e] at hr
  have hr' : rs[j]? = some r := by simpa using hr
  have e1 : k = (k / rs.length) * rs.length + j := by rw [Int.mul_comm]; omega
  have a1 := firstOf_at h (k / rs.length) (Nat.le_of_lt hj)
  have a2 := firstOf_at h (k / rs.length) (Nat.succ_le_of_lt hj)
  rw [← e1] at a1
  have e2 : k / (rs.length : Int) * (rs.length : Int) + ((Nat.succ j : Nat) : Int) = k + 1 := by push_cast; omega
  rw [e2] at a2
  rw [a1, a2]
  show _ + pre rs (j + 1) = _
  rw [pre_step hr']
  omega
theorem get_round {rs : List Int} (h : Rnds rs) (k : Int) : ∃ r, rs[(k % rs.length).toNat]? = some r ∧ 1 ≤ r ∧ r ∈ rs := by
  obtain ⟨j, hj, e, f⟩ := emod_nat (k := k) h.len
  refine ⟨rs[j], ?_, h.pos _ (List.getElem_mem hj), List.getElem_mem hj⟩
  rw [e]
  simpa using List.getElem?_eq_getElem hj
theorem firstOf_lt {rs : List Int} (h : Rnds rs) (k : Int) : firstOf rs k + 1 ≤ firstOf rs (k + 1) := by
  obtain ⟨r, h1, h2, _⟩ := get_round h k
  rw [firstOf_step h k h1]
  omega
theorem firstOf_zero {rs : List Int} (h : Rnds rs) : firstOf rs 0 = 0 := by
  have := firstOf_at h 0 (Nat.zero_le rs.length)
  simp [pre_zero] at this
  exact this
/-- a night between a round's ends lies in it -/
theorem numOf_of {rs : List Int} (h : Rnds rs) {k m : Int} (h1 : firstOf rs k ≤ m) (h2 : m < firstOf rs (k + 1)) : numOf rs m = k := by
  obtain ⟨j, hj, e, f⟩ := emod_nat (k := k) h.len
  have e1 : k = (k / rs.length) * rs.length + j := by rw [Int.mul_comm]; omega
  have a1 := firstOf_at h (k / rs.length) (Nat.le_of_lt hj)
  have a2 := firstOf_at h (k / rs.length) (Nat.succ_le_of_lt hj)
  rw [← e1] at a1
  have e2 : k / (rs.length : Int) * (rs.length : Int) + ((Nat.succ j : Nat) : Int) = k + 1 := by push_cast; omega
  rw [e2] at a2
  rw [a1] at h1
  rw [a2] at h2
  have b0 := pre_nonneg h.pos (Nat.le_of_lt hj)
  have b1 := pre_mono h.pos (i := j + 1) (j := rs.length) (by omega) (Nat.le_refl _)
  rw [pre_len] at b1
  have h2' : m < k / (rs.length : Int) * rs.sum + pre rs (j + 1) := h2
  have h3 : m / rs.sum = k / rs.length ∧ m % rs.sum = m - (k / rs.length) * rs.sum := by
    rw [Int.ediv_emod_unique h.sum]
    refine ⟨by rw [Int.mul_comm rs.sum]; omega, by omega, by omega⟩
  unfold numOf
  rw [h3.1, h3.2]
  obtain ⟨i, hi, w, p1, p2⟩ := walkR_spec rs (m - k / ↑rs.length * rs.sum) (k / ↑rs.length * ↑rs.length) (by omega) (by omega)
  rw [w]
  have : i = j := pre_uniq h.pos hi hj p1 p2 (by omega) (by omega)
  subst this
  omega
/-- each night lies between the ends of its round -/
theorem numOf_spec {rs : List Int} (h : Rnds rs) (m : Int) : firstOf rs (numOf rs m) ≤ m ∧ m < firstOf rs (numOf rs m + 1) := by
  have hs := h.sum
  obtain ⟨i, hi, w, p1, p2⟩ := walkR_spec rs (m % rs.sum) (m / rs.sum * rs.length) (Int.emod_nonneg m (by omega)) (Int.emod_lt_of_pos m hs)
  have hm := Int.emod_add_mul_ediv m rs.sum
  have e : numOf rs m = m / rs.sum * rs.length + i := w
  have a1 := firstOf_at h (m / rs.sum) (Nat.le_of_lt hi)
  have a2 := firstOf_at h (m / rs.sum) (Nat.succ_le_of_lt hi)
  have e2 : m / rs.sum * (rs.length : Int) + ((Nat.succ i : Nat) : Int) = numOf rs m + 1 := by rw [e]; push_cast; omega
  rw [← e] at a1
  rw [e2] at a2
  rw [a1, a2]
  have c := Int.mul_comm rs.sum (m / rs.sum)
  refine ⟨by omega, ?_⟩
  show m < m / rs.sum * rs.sum + pre rs (i + 1)
  omega
theorem firstOf_mono {rs : List Int} (h : Rnds rs) (i : Int) : ∀ d : Nat, firstOf rs i + d ≤ firstOf rs (i + d)
  | 0 => by simp
  | d + 1 => by
    have h1 := firstOf_mono h i d
    have h2 := firstOf_lt h (i + d)
    push_cast
    rw [Int.add_assoc i d 1] at h2
    omega
theorem firstOf_le {rs : List Int} (h : Rnds rs) {i j : Int} (hij : i ≤ j) : firstOf rs i + (j - i) ≤ firstOf rs j := by
  have := firstOf_mono h i (j - i).toNat
  rw [show i + ((j - i).toNat : Int) = j by omega] at this
  omega
theorem firstOf_pos {rs : List Int} (h : Rnds rs) {k : Int} (hk : 0 ≤ k) : k ≤ firstOf rs k := by
  have := firstOf_le h hk
  rw [firstOf_zero h] at this
  omega
theorem numOf_nonneg {rs : List Int} (h : Rnds rs) {n : Int} (hn : 0 ≤ n) : 0 ≤ numOf rs n := by
  have h2 := (numOf_spec h n).2
  by_cases c : 0 ≤ numOf rs n
  · exact c
  · have := firstOf_le h (i := numOf rs n + 1) (j := 0) (by omega)
    rw [firstOf_zero h] at this
    omega
theorem numOf_le {rs : List Int} (h : Rnds rs) {n : Int} (hn : 0 ≤ n) : numOf rs n ≤ n := by
  have h1 := (numOf_spec h n).1
  have h2 := firstOf_pos h (numOf_nonneg h hn)
  omega
/-- later nights lie in no earlier rounds -/
theorem numOf_mono {rs : List Int} (h : Rnds rs) {m n : Int} (hmn : m ≤ n) : numOf rs m ≤ numOf rs n := by
  have h1 := (numOf_spec h m).1
  have h2 := (numOf_spec h n).2
  by_cases c : numOf rs m ≤ numOf rs n
  · exact c
  · have := firstOf_le h (i := numOf rs n + 1) (j := numOf rs m) (by omega)
    omega
/-- a whole turn later -/
theorem firstOf_turn {rs : List Int} (h : Rnds rs) (k : Int) : firstOf rs (k + rs.length) = firstOf rs k + rs.sum := by
  obtain ⟨j, hj, e, f⟩ := emod_nat (k := k) h.len
  have e1 : k = (k / rs.length) * rs.length + j := by rw [Int.mul_comm]; omega
  have a1 := firstOf_at h (k / rs.length) (Nat.le_of_lt hj)
  have a2 := firstOf_at h (k / rs.length + 1) (Nat.le_of_lt hj)
  rw [← e1] at a1
  have e2 : (k / rs.length + 1) * (rs.length : Int) + (j : Int) = k + rs.length := by rw [Int.add_mul]; omega
  rw [e2] at a2
  rw [a1, a2, Int.add_mul]
  omega
theorem numOf_turn {rs : List Int} (h : Rnds rs) (n : Int) : numOf rs (n + rs.sum) = numOf rs n + rs.length := by
  obtain ⟨h1, h2⟩ := numOf_spec h n
  have a1 := firstOf_turn h (numOf rs n)
  have a2 := firstOf_turn h (numOf rs n + 1)
  refine numOf_of h (by omega) ?_
  rw [show numOf rs n + (rs.length : Int) + 1 = numOf rs n + 1 + rs.length by omega]
  omega
theorem firstOf_ge {rs : List Int} (h : Rnds rs) : ∀ k : Nat, (k : Int) ≤ firstOf rs k
  | 0 => by rw [show ((0 : Nat) : Int) = 0 from rfl, firstOf_zero h]; omega
  | k + 1 => by
    have h1 := firstOf_ge h k
    have h2 := firstOf_lt h k
    push_cast
    omega
end Nk
/-! ### what rules keep: plain mathematics -/
namespace Nk
/-- going back through nights: those whose round is another one than that of the night gone through just before -/
def endsR (rs : List Int) : Option Int → List Int → List Int
  | _, [] => []
  | ah, n :: l => if ah = some (numOf rs n) then endsR rs (some (numOf rs n)) l else n :: endsR rs (some (numOf rs n)) l
def lastN (rs : List Int) (ah : Option Int) (l : List Int) : Option Int := match l.getLast? with
  | some n => some (numOf rs n)
  | none => ah
theorem lastN_cons (rs : List Int) (ah : Option Int) (n : Int) (l : List Int) : lastN rs ah (n :: l) = lastN rs (some (numOf rs n)) l := by
  unfold lastN
  cases l with
  | nil => rfl
  | cons m r => rw [List.getLast?_cons_cons]; cases h : (m :: r).getLast? <;> simp_all
theorem endsR_snoc (rs : List Int) : ∀ (l : List Int) (ah : Option Int) (n : Int), endsR rs ah (l ++ [n]) = endsR rs ah l ++ (if lastN rs ah l = some (numOf rs n) then [] else [n])
  | [], ah, n => by
    by_cases h : ah = some (numOf rs n) <;> simp [endsR, lastN, h]
  | m :: l, ah, n => by
    rw [lastN_cons]
    simp only [List.cons_append, endsR]
    rw [endsR_snoc rs l]
    split <;> simp
theorem lastN_snoc (rs : List Int) (ah : Option Int) (l : List Int) (n : Int) : lastN rs ah (l ++ [n]) = some (numOf rs n) := by
  simp [lastN]
/-- the last nights of the rounds, rising -/
def endsF (rs : List Int) : List Int → List Int
  | [] => []
  | [n] => [n]
  | n :: m :: l => if numOf rs n = numOf rs m then endsF rs (m :: l) else n :: endsF rs (m :: l)
theorem endsF_eq (rs : List Int) : ∀ ns : List Int, endsF rs ns = (endsR rs none ns.reverse).reverse
  | [] => rfl
  | [n] => by simp [endsF, endsR]
  | n :: m :: l => by
    rw [List.reverse_cons, endsR_snoc]
    have h : lastN rs none (m :: l).reverse = some (numOf rs m) := by simp [lastN]
    rw [h, List.reverse_append, ← endsF_eq rs (m :: l)]
    simp only [endsF, Option.some.injEq]
    by_cases e : numOf rs n = numOf rs m
    · rw [if_pos e, if_pos e.symm]; rfl
    · rw [if_neg e, if_neg (fun z => e z.symm)]; rfl
/-- what one rule keeps, the last one first -/
def keptBy (ru : List Int × Int) (ns : List Int) : List Int := (endsR ru.1 none ns.reverse).take ru.2.toNat
/-- .. rising -/
def keptUp (ru : List Int × Int) (ns : List Int) : List Int := (endsF ru.1 ns).drop ((endsF ru.1 ns).length - ru.2.toNat)
theorem keptUp_eq (ru : List Int × Int) (ns : List Int) : keptUp ru ns = (keptBy ru ns).reverse := by
  unfold keptUp keptBy
  rw [endsF_eq, List.length_reverse, List.reverse_take]
theorem endsR_sub (rs : List Int) : ∀ (l : List Int) (ah : Option Int), ∀ n ∈ endsR rs ah l, n ∈ l
  | [], _, n, h => by simp [endsR] at h
  | m :: l, ah, n, h => by
    simp only [endsR] at h
    split at h
    · exact List.mem_cons_of_mem _ (endsR_sub rs l _ n h)
    · rcases List.mem_cons.mp h with e | h
      · rw [e]; exact List.mem_cons_self
      · exact List.mem_cons_of_mem _ (endsR_sub rs l _ n h)
theorem keptBy_sub {ru : List Int × Int} {ns : List Int} {n : Int} (h : n ∈ keptBy ru ns) : n ∈ ns := by
  have := endsR_sub ru.1 _ _ n (List.mem_of_mem_take h)
  simpa using this
theorem mem_keptUp {ru : List Int × Int} {ns : List Int} {n : Int} : n ∈ keptUp ru ns ↔ n ∈ keptBy ru ns := by
  rw [keptUp_eq, List.mem_reverse]
/-- what rules keep, rising -/
def keptF (rules : List (List Int × Int)) (ns : List Int) : List Int := ns.filter fun n => rules.any fun ru => decide (n ∈ keptBy ru ns)
theorem mem_keptF {rules : List (List Int × Int)} {ns : List Int} {n : Int} : n ∈ keptF rules ns ↔ ∃ ru ∈ rules, n ∈ keptBy ru ns := by
  unfold keptF
  rw [List.mem_filter, List.any_eq_true]
  constructor
  · rintro ⟨_, ru, h1, h2⟩
    exact ⟨ru, h1, of_decide_eq_true h2⟩
  · rintro ⟨ru, h1, h2⟩
    exact ⟨keptBy_sub h2, ru, h1, decide_eq_true h2⟩
theorem keptF_rise {rules : List (List Int × Int)} {ns : List Int} (h : ns.Pairwise (· < ·)) : (keptF rules ns).Pairwise (· < ·) := h.filter _
/-- two rising lists with the same members are one -/
theorem rise_ext : ∀ {l m : List Int}, l.Pairwise (· < ·) → m.Pairwise (· < ·) → (∀ x, x ∈ l ↔ x ∈ m) → l = m
  | [], [], _, _, _ => rfl
  | [], y :: m, _, _, h => absurd ((h y).mpr List.mem_cons_self) (by simp)
  | x :: l, [], _, _, h => absurd ((h x).mp List.mem_cons_self) (by simp)
  | x :: l, y :: m, hl, hm, h => by
    obtain ⟨hx, hl'⟩ := List.pairwise_cons.mp hl
    obtain ⟨hy, hm'⟩ := List.pairwise_cons.mp hm
    have e : x = y := by
      rcases List.mem_cons.mp ((h x).mp List.mem_cons_self) with e | h1
      · exact e
      · rcases List.mem_cons.mp ((h y).mpr List.mem_cons_self) with e | h2
        · exact e.symm
        · have a := hx y h2
          have b := hy x h1
          omega
    subst e
    have : l = m := rise_ext hl' hm' fun z => by
      constructor
      · intro hz
        have hxz := hx z hz
        rcases List.mem_cons.mp ((h z).mp (List.mem_cons_of_mem _ hz)) with e | h1
        · omega
        · exact h1
      · intro hz
        have hxz := hy z hz
        rcases List.mem_cons.mp ((h z).mpr (List.mem_cons_of_mem _ hz)) with e | h1
        · omega
        · exact h1
    rw [this]
theorem rise_of_le {l : List Int} (h : l.Pairwise (· ≤ ·)) (nd : l.Nodup) : l.Pairwise (· < ·) := by
  have := h.and nd
  exact this.imp fun {a b} ⟨h1, h2⟩ => by omega
theorem take_prefix {α : Type} {l : List α} {p : List α} {k : Nat} (h : ∃ t, l = p ++ t) (hp : p.length = k) : p = l.take k := by
  obtain ⟨t, rfl⟩ := h
  subst hp
  simp
theorem endsR_pre (rs : List Int) (ah : Option Int) : ∀ (t l : List Int), ∃ u, endsR rs ah (l ++ t) = endsR rs ah l ++ u
  | [], l => ⟨[], by simp⟩
  | x :: t, l => by
    obtain ⟨u, hu⟩ := endsR_pre rs ah t (l ++ [x])
    rw [List.append_assoc, List.singleton_append] at hu
    rw [hu, endsR_snoc, List.append_assoc]
    exact ⟨_, rfl⟩
end Nk
/-! ### texts in order; tables of names with numbers; parts -/
namespace Nk
open PySem
/-- texts by their signs -/
def sl (a b : Str) : Prop := a.cps.toList < b.cps.toList
instance (a b : Str) : Decidable (sl a b) := inferInstanceAs (Decidable (a.cps.toList < b.cps.toList))
theorem sl_irrefl (a : Str) : ¬ sl a a := List.lt_irrefl _
theorem sl_trans {a b c : Str} (h : sl a b) (h' : sl b c) : sl a c := List.lt_trans h h'
theorem sl_asymm {a b : Str} (h : sl a b) : ¬ sl b a := fun h' => sl_irrefl a (sl_trans h h')
theorem sl_tri {a b : Str} (h1 : ¬ sl a b) (h2 : ¬ sl b a) : a = b := by
  have e : a.cps.toList = b.cps.toList := List.le_antisymm h2 h1
  obtain ⟨⟨x⟩⟩ := a
  obtain ⟨⟨y⟩⟩ := b
  simp only at e
  rw [e]
theorem sl_ntrans {a b c : Str} (h1 : ¬ sl b a) (h2 : ¬ sl c b) : ¬ sl c a := by
  intro h
  by_cases e : sl b c
  · exact h1 (sl_trans e h)
  · have := sl_tri e h2
    subst this
    exact h1 h
theorem srt_uniq : ∀ {xs ys : List Str}, xs.Pairwise sl → ys.Pairwise sl → (∀ k, k ∈ xs ↔ k ∈ ys) → xs = ys
  | [], [], _, _, _ => rfl
  | [], y :: ys, _, _, h => absurd ((h y).mpr List.mem_cons_self) (by simp)
  | x :: xs, [], _, _, h => absurd ((h x).mp List.mem_cons_self) (by simp)
  | x :: xs, y :: ys, hx, hy, h => by
    obtain ⟨hx1, hx2⟩ := List.pairwise_cons.mp hx
    obtain ⟨hy1, hy2⟩ := List.pairwise_cons.mp hy
    have e : x = y := by
      rcases List.mem_cons.mp ((h x).mp List.mem_cons_self) with e | m
      · exact e
      · rcases List.mem_cons.mp ((h y).mpr List.mem_cons_self) with e | m'
        · exact e.symm
        · exact absurd (hy1 x m) (sl_asymm (hx1 y m'))
    subst e
    rw [srt_uniq hx2 hy2 fun k => ?_]
    constructor
    · intro m
      rcases List.mem_cons.mp ((h k).mp (List.mem_cons_of_mem _ m)) with e | m'
      · subst e; exact absurd (hx1 k m) (sl_irrefl k)
      · exact m'
    · intro m
      rcases List.mem_cons.mp ((h k).mpr (List.mem_cons_of_mem _ m)) with e | m'
      · subst e; exact absurd (hy1 k m) (sl_irrefl k)
      · exact m'
def insS (a : Str) : List Str → List Str
  | [] => [a]
  | b :: r => if sl a b then a :: b :: r else if a = b then b :: r else b :: insS a r
theorem mem_insS {a k : Str} : ∀ {l : List Str}, k ∈ insS a l ↔ k = a ∨ k ∈ l
  | [] => by simp [insS]
  | b :: r => by
    unfold insS
    by_cases h1 : sl a b
    · simp [h1]
    · by_cases h2 : a = b
      · rw [if_neg h1, if_pos h2, h2]
        simp
      · simp only [h1, h2, if_false, List.mem_cons, mem_insS (l := r)]
        constructor
        · rintro (h | h | h)
          · exact .inr (.inl h)
          · exact .inl h
          · exact .inr (.inr h)
        · rintro (h | h | h)
          · exact .inr (.inl h)
          · exact .inl h
          · exact .inr (.inr h)
theorem pw_insS {a : Str} : ∀ {l : List Str}, l.Pairwise sl → (insS a l).Pairwise sl
  | [], _ => by simp [insS]
  | b :: r, h => by
    obtain ⟨hb1, hb2⟩ := List.pairwise_cons.mp h
    unfold insS
    by_cases h1 : sl a b
    · simp only [h1, if_true]
      refine List.pairwise_cons.mpr ⟨fun k hk => ?_, h⟩
      rcases List.mem_cons.mp hk with e | m
      · subst e; exact h1
      · exact sl_trans h1 (hb1 k m)
    · by_cases h2 : a = b
      · rw [if_neg h1, if_pos h2]
        exact h
      · simp only [h1, h2, if_false]
        refine List.pairwise_cons.mpr ⟨fun k hk => ?_, pw_insS hb2⟩
        rcases mem_insS.mp hk with e | m
        · subst e
          by_cases c : sl b k
          · exact c
          · exact absurd (sl_tri h1 c) h2
        · exact hb1 k m
def srt (l : List Str) : List Str := l.foldr insS []
theorem mem_srt {k : Str} : ∀ {l : List Str}, k ∈ srt l ↔ k ∈ l
  | [] => by simp [srt]
  | a :: r => by
    show k ∈ insS a (srt r) ↔ _
    rw [mem_insS, mem_srt (l := r), List.mem_cons]
theorem pw_srt : ∀ {l : List Str}, (srt l).Pairwise sl
  | [] => by simp [srt]
  | a :: r => pw_insS (pw_srt (l := r))
theorem pw_nodup {l : List Str} (h : l.Pairwise sl) : l.Nodup := by
  refine List.Pairwise.imp (fun {a b} h => ?_) h
  intro e
  subst e
  exact sl_irrefl _ h
theorem nodup_le {α : Type} [DecidableEq α] : ∀ {l m : List α}, l.Nodup → (∀ x ∈ l, x ∈ m) → l.length ≤ m.length
  | [], _, _, _ => Nat.zero_le _
  | a :: r, m, h, s => by
    obtain ⟨h1, h2⟩ := List.nodup_cons.mp h
    have ha := s a List.mem_cons_self
    have := nodup_le (l := r) (m := m.erase a) h2 fun x hx => by
      refine (List.mem_erase_of_ne ?_).mpr (s x (List.mem_cons_of_mem _ hx))
      intro e; subst e; exact h1 hx
    rw [List.length_erase_of_mem ha] at this
    have := List.length_pos_of_mem ha
    simp only [List.length_cons]
    omega
theorem nodup_same {α : Type} [DecidableEq α] {l m : List α} (hl : l.Nodup) (hm : m.Nodup) (s : ∀ x, x ∈ l ↔ x ∈ m) : l.length = m.length :=
  Nat.le_antisymm (nodup_le hl fun x hx => (s x).mp hx) (nodup_le hm fun x hx => (s x).mpr hx)
/-! tables -/
abbrev Tb := List (Str × Int)
def lk (t : Tb) (n : Str) : Option Int := (t.find? fun p => decide (p.1 = n)).map (·.2)
def putT (t : Tb) (n : Str) (i : Int) : Tb := if (t.any fun p => decide (p.1 = n)) = true then t.map (fun p => if p.1 = n then (p.1, i) else p) else t ++ [(n, i)]
def dropT (t : Tb) (n : Str) : Tb := t.filter fun p => decide (p.1 ≠ n)
def nms (t : Tb) : List Str := t.map (·.1)
theorem lk_nil {n : Str} : lk [] n = none := rfl
theorem lk_cons {p : Str × Int} {t : Tb} {n : Str} : lk (p :: t) n = if p.1 = n then some p.2 else lk t n := by
  unfold lk
  rw [List.find?_cons]
  by_cases e : p.1 = n <;> simp [e]
theorem lk_none {n : Str} : ∀ {t : Tb}, lk t n = none ↔ n ∉ nms t
  | [] => by simp [lk_nil, nms]
  | p :: t => by
    rw [lk_cons]
    have ih := lk_none (n := n) (t := t)
    by_cases e : p.1 = n
    · simp [e, nms]
    · rw [if_neg e, ih]
      simp only [nms, List.map_cons, List.mem_cons, not_or]
      exact ⟨fun h => ⟨fun z => e z.symm, h⟩, fun h => h.2⟩
theorem lk_mem {t : Tb} {n : Str} {i : Int} (h : lk t n = some i) : (n, i) ∈ t := by
  unfold lk at h
  cases e : t.find? fun p => decide (p.1 = n) with
  | none => rw [e] at h; cases h
  | some p =>
    rw [e] at h
    have h1 := List.find?_some e
    have h2 := List.mem_of_find?_eq_some e
    simp at h h1
    obtain ⟨a, b⟩ := p
    simp only at h h1
    subst h h1
    exact h2
theorem lk_of {n : Str} {i : Int} : ∀ {t : Tb}, (nms t).Nodup → (n, i) ∈ t → lk t n = some i
  | p :: t, h, m => by
    rw [lk_cons]
    obtain ⟨h1, h2⟩ := List.nodup_cons.mp (show (p.1 :: nms t).Nodup from h)
    rcases List.mem_cons.mp m with e | m'
    · rw [← e]; simp
    · have : p.1 ≠ n := fun e => h1 (by rw [e]; exact List.mem_map.mpr ⟨_, m', rfl⟩)
      rw [if_neg this]
      exact lk_of h2 m'
theorem mem_nms {t : Tb} {n : Str} : n ∈ nms t ↔ ∃ i, lk t n = some i := by
  constructor
  · intro h
    cases e : lk t n with
    | none => exact absurd h (lk_none.mp e)
    | some i => exact ⟨i, rfl⟩
  · rintro ⟨i, e⟩
    exact List.mem_map.mpr ⟨_, lk_mem e, rfl⟩
theorem lk_app {n : Str} {i : Int} {m : Str} : ∀ {t : Tb}, n ∉ nms t → lk (t ++ [(n, i)]) m = if m = n then some i else lk t m
  | [], _ => by
    rw [List.nil_append, lk_cons, lk_nil]
    by_cases e : n = m
    · simp [e]
    · rw [if_neg e, if_neg (fun z => e z.symm)]
  | p :: t, h => by
    rw [List.cons_append, lk_cons, lk_cons]
    have h1 : ¬ n = p.1 ∧ n ∉ nms t := by simpa [nms] using h
    rw [lk_app h1.2]
    by_cases e : p.1 = m
    · simp only [e, if_true]
      rw [if_neg (fun z => h1.1 (by rw [e, z]))]
    · simp only [e, if_false]
theorem lk_map {n : Str} {i : Int} {m : Str} : ∀ {t : Tb}, lk (t.map fun p => if p.1 = n then (p.1, i) else p) m = (lk t m).map fun x => if m = n then i else x
  | [] => rfl
  | p :: t => by
    rw [List.map_cons, lk_cons, lk_cons, lk_map]
    by_cases e : p.1 = m
    · subst e
      by_cases c : p.1 = n
      · rw [if_pos c]
        simp [c]
      · rw [if_neg c]
        simp [c]
    · have e2 : ¬ (if p.1 = n then (p.1, i) else p).1 = m := by split <;> exact e
      rw [if_neg e, if_neg e2]
theorem any_nms {t : Tb} {n : Str} : (t.any fun p => decide (p.1 = n)) = decide (n ∈ nms t) := by
  rw [Bool.eq_iff_iff, List.any_eq_true, decide_eq_true_eq]
  constructor
  · rintro ⟨p, h1, h2⟩
    exact List.mem_map.mpr ⟨p, h1, by simpa using h2⟩
  · intro h
    obtain ⟨p, h1, h2⟩ := List.mem_map.mp h
    exact ⟨p, h1, by simpa using h2⟩
theorem lk_put {t : Tb} {n m : Str} {i : Int} : lk (putT t n i) m = if m = n then some i else lk t m := by
  unfold putT
  rw [any_nms]
  by_cases c : n ∈ nms t
  · rw [if_pos (by simpa using c), lk_map]
    by_cases e : m = n
    · subst e
      obtain ⟨j, hj⟩ := mem_nms.mp c
      simp [hj]
    · cases lk t m <;> simp [e]
  · rw [if_neg (by simpa using c), lk_app c]
theorem lk_drop {n m : Str} : ∀ {t : Tb}, lk (dropT t n) m = if m = n then none else lk t m
  | [] => by simp [dropT, lk_nil]
  | p :: t => by
    have ih := lk_drop (n := n) (m := m) (t := t)
    unfold dropT at ih ⊢
    rw [List.filter_cons]
    by_cases c : p.1 = n
    · rw [if_neg (by simpa using c), ih, lk_cons]
      by_cases e : m = n
      · simp [e]
      · rw [if_neg e, if_neg e, if_neg (fun z => e (by rw [← z, c]))]
    · rw [if_pos (by simpa using c), lk_cons, lk_cons, ih]
      by_cases e : m = n
      · subst e; simp [c]
      · simp [e]
theorem nms_put {t : Tb} {n : Str} {i : Int} : nms (putT t n i) = if n ∈ nms t then nms t else nms t ++ [n] := by
  unfold putT
  rw [any_nms]
  by_cases c : n ∈ nms t
  · rw [if_pos (decide_eq_true c), if_pos c]
    unfold nms
    rw [List.map_map]
    refine List.map_congr_left fun p _ => ?_
    simp only [Function.comp]
    by_cases e : p.1 = n <;> simp [e]
  · rw [if_neg (by simpa using c), if_neg c]
    simp [nms]
theorem put_len {t : Tb} {n : Str} {i : Int} : (putT t n i).length = if n ∈ nms t then t.length else t.length + 1 := by
  have e : (putT t n i).length = (nms (putT t n i)).length := (List.length_map _).symm
  rw [e, nms_put]
  by_cases c : n ∈ nms t
  · rw [if_pos c, if_pos c]; exact List.length_map _
  · rw [if_neg c, if_neg c]; simp [nms]
theorem put_nd {t : Tb} {n : Str} {i : Int} (h : (nms t).Nodup) : (nms (putT t n i)).Nodup := by
  rw [nms_put]
  split
  · exact h
  · rename_i c
    rw [List.nodup_append]
    exact ⟨h, by simp, fun a ha b hb => by rw [List.mem_singleton.mp hb]; intro e; subst e; exact c ha⟩
theorem drop_nd {t : Tb} {n : Str} (h : (nms t).Nodup) : (nms (dropT t n)).Nodup := List.Nodup.sublist (List.Sublist.map _ List.filter_sublist) h
theorem mem_put {t : Tb} {n : Str} {i : Int} {p : Str × Int} (h : p ∈ putT t n i) : p = (n, i) ∨ p ∈ t := by
  unfold putT at h
  split at h
  · obtain ⟨q, hq, e⟩ := List.mem_map.mp h
    by_cases c : q.1 = n
    · rw [if_pos c, c] at e; exact .inl e.symm
    · rw [if_neg c] at e; exact .inr (e ▸ hq)
  · rcases List.mem_append.mp h with h | h
    · exact .inr h
    · exact .inl (List.mem_singleton.mp h)
/-- a name -/
def isNm (s : Str) : Prop := 1 ≤ s.cps.toList.length ∧ s.cps.toList.length ≤ 6 ∧ ∀ c ∈ s.cps.toList, 97 ≤ c ∧ c ≤ 122
instance (s : Str) : Decidable (isNm s) := inferInstanceAs (Decidable (_ ∧ _ ∧ _))
structure OkT (t : Tb) : Prop where
  nd : (nms t).Nodup
  nm : ∀ p ∈ t, isNm p.1
  num : ∀ p ∈ t, 0 ≤ p.2 ∧ p.2 ≤ 99
theorem OkT.nil : OkT [] := ⟨by simp [nms], (fun _ h => nomatch h), (fun _ h => nomatch h)⟩
theorem OkT.put {t : Tb} (h : OkT t) {n : Str} {i : Int} (hn : isNm n) (h0 : 0 ≤ i) (h1 : i ≤ 99) : OkT (putT t n i) :=
  ⟨put_nd h.nd, fun p hp => (mem_put hp).elim (fun e => by rw [e]; exact hn) (h.nm p), fun p hp => (mem_put hp).elim (fun e => by rw [e]; exact ⟨h0, h1⟩) (h.num p)⟩
theorem OkT.drop {t : Tb} (h : OkT t) {n : Str} : OkT (dropT t n) := ⟨drop_nd h.nd, fun p hp => h.nm p (List.mem_filter.mp hp).1, fun p hp => h.num p (List.mem_filter.mp hp).1⟩
theorem OkT.same_len {a b : Tb} (ha : OkT a) (hb : OkT b) (h : ∀ n, lk a n = lk b n) : a.length = b.length := by
  have := nodup_same ha.nd hb.nd fun n => by rw [mem_nms, mem_nms, h n]
  simpa [nms] using this
theorem OkT.le_len {a b : Tb} (ha : OkT a) (h : ∀ n, lk b n = none → lk a n = none) : a.length ≤ b.length := by
  have := nodup_le ha.nd (m := nms b) fun n hn => by
    by_cases c : n ∈ nms b
    · exact c
    · exact absurd hn (lk_none.mp (h n (lk_none.mpr c)))
  simpa [nms] using this
/-! parts -/
abbrev Pt := List (Str × Option Int)
def diffN (a b : Tb) : List Str := (srt (nms a ++ nms b)).filter fun n => decide (lk a n ≠ lk b n)
def part (a b : Tb) : Pt := (diffN a b).map fun n => (n, lk b n)
theorem mem_diffN {a b : Tb} {n : Str} : n ∈ diffN a b ↔ lk a n ≠ lk b n := by
  unfold diffN
  rw [List.mem_filter, mem_srt, List.mem_append, decide_eq_true_eq]
  refine ⟨fun h => h.2, fun h => ⟨?_, h⟩⟩
  by_cases c : n ∈ nms a
  · exact .inl c
  · by_cases c' : n ∈ nms b
    · exact .inr c'
    · exact absurd ((lk_none.mpr c).trans (lk_none.mpr c').symm) h
theorem pw_diffN {a b : Tb} : (diffN a b).Pairwise sl := List.Pairwise.sublist List.filter_sublist pw_srt
theorem diffN_congr {a b a' b' : Tb} (ha : ∀ n, lk a n = lk a' n) (hb : ∀ n, lk b n = lk b' n) : diffN a b = diffN a' b' :=
  srt_uniq pw_diffN pw_diffN fun k => by rw [mem_diffN, mem_diffN, ha, hb]
theorem part_congr {a b a' b' : Tb} (ha : ∀ n, lk a n = lk a' n) (hb : ∀ n, lk b n = lk b' n) : part a b = part a' b' := by
  unfold part
  rw [diffN_congr ha hb]
  exact List.map_congr_left fun n _ => by rw [hb n]
theorem diffN_swap {a b : Tb} : diffN a b = diffN b a := srt_uniq pw_diffN pw_diffN fun k => by rw [mem_diffN, mem_diffN]; exact ne_comm
theorem part_len {a b : Tb} : (part a b).length = (diffN a b).length := List.length_map _
theorem diffN_len {a b : Tb} : (diffN a b).length ≤ a.length + b.length := by
  have := nodup_le (pw_nodup (pw_diffN (a := a) (b := b))) (m := nms a ++ nms b) fun x hx => by
    have := (List.mem_filter.mp hx).1
    rwa [mem_srt] at this
  simpa [nms] using this
theorem part_nil {a b : Tb} : part a b = [] ↔ ∀ n, lk a n = lk b n := by
  unfold part
  rw [List.map_eq_nil_iff]
  constructor
  · intro h n
    refine Decidable.byContradiction fun c => ?_
    have := mem_diffN.mpr c
    rw [h] at this
    cases this
  · intro h
    cases e : diffN a b with
    | nil => rfl
    | cons n r => exact absurd (h n) (mem_diffN.mp (by rw [e]; exact List.mem_cons_self))
structure GoodP (ps : Pt) : Prop where
  pw : (ps.map (·.1)).Pairwise sl
  nm : ∀ p ∈ ps, isNm p.1
  num : ∀ p ∈ ps, ∀ i, p.2 = some i → 0 ≤ i ∧ i ≤ 99
  len : ps.length ≤ 40
theorem part_names {a b : Tb} : (part a b).map (·.1) = diffN a b := by
  unfold part
  rw [List.map_map]
  exact List.map_id _
theorem part_good {a b : Tb} (ha : OkT a) (hb : OkT b) (la : a.length ≤ 20) (lb : b.length ≤ 20) : GoodP (part a b) := by
  refine ⟨by rw [part_names]; exact pw_diffN, fun p hp => ?_, fun p hp i e => ?_, ?_⟩
  · obtain ⟨n, hn, rfl⟩ := List.mem_map.mp hp
    have h := mem_diffN.mp hn
    cases e : lk a n with
    | some i => exact ha.nm _ (lk_mem e)
    | none =>
      cases e' : lk b n with
      | some i => exact hb.nm _ (lk_mem e')
      | none => rw [e, e'] at h; exact absurd rfl h
  · obtain ⟨n, hn, rfl⟩ := List.mem_map.mp hp
    exact hb.num _ (lk_mem e)
  · rw [part_len]
    have := diffN_len (a := a) (b := b)
    omega
def stepP (t : Tb) (n : Str) (x : Option Int) : Tb := match x with
  | none => dropT t n
  | some i => putT t n i
theorem lk_step {t : Tb} {n m : Str} {x : Option Int} : lk (stepP t n x) m = if m = n then x else lk t m := by
  cases x with
  | none => exact lk_drop
  | some i => exact lk_put
theorem OkT.step {t : Tb} (h : OkT t) {n : Str} {x : Option Int} (hn : isNm n) (hx : ∀ i, x = some i → 0 ≤ i ∧ i ≤ 99) : OkT (stepP t n x) := by
  cases x with
  | none => exact h.drop
  | some i => exact h.put hn (hx i rfl).1 (hx i rfl).2
theorem step_len {t : Tb} {n : Str} {x : Option Int} : (stepP t n x).length ≤ t.length + 1 := by
  cases x with
  | none => exact Nat.le_succ_of_le (List.length_filter_le _ _)
  | some i => show (putT t n i).length ≤ _; rw [put_len]; split <;> omega
def applyP : Tb → Pt → Option Tb
  | t, [] => some t
  | t, (n, x) :: ps => if lk t n = x then none else applyP (stepP t n x) ps
theorem applyP_some : ∀ {ps : Pt} {t : Tb}, (ps.map (·.1)).Nodup → (∀ p ∈ ps, lk t p.1 ≠ p.2) → ∃ t', applyP t ps = some t' ∧ (∀ p ∈ ps, lk t' p.1 = p.2) ∧ ∀ n, n ∉ ps.map (·.1) → lk t' n = lk t n
  | [], t, _, _ => ⟨t, rfl, (fun _ h => nomatch h), fun _ _ => rfl⟩
  | (n, x) :: ps, t, nd, h => by
    obtain ⟨h1, h2⟩ := List.nodup_cons.mp (show (n :: ps.map (·.1)).Nodup from nd)
    have hn : lk t n ≠ x := h (n, x) List.mem_cons_self
    obtain ⟨t', e1, e2, e3⟩ := applyP_some (ps := ps) (t := stepP t n x) h2 fun p hp => by
      have hne : p.1 ≠ n := fun e => h1 (by rw [← e]; exact List.mem_map.mpr ⟨p, hp, rfl⟩)
      rw [lk_step, if_neg hne]
      exact h p (List.mem_cons_of_mem _ hp)
    refine ⟨t', by unfold applyP; rw [if_neg hn]; exact e1, fun p hp => ?_, fun m hm => ?_⟩
    · rcases List.mem_cons.mp hp with e | m
      · subst e
        rw [e3 n h1, lk_step, if_pos rfl]
      · exact e2 p m
    · have hm' : ¬ m = n ∧ m ∉ ps.map (·.1) := by simpa using hm
      rw [e3 m hm'.2, lk_step, if_neg hm'.1]
theorem applyP_none : ∀ {ps : Pt} {t : Tb}, (ps.map (·.1)).Nodup → (∃ p ∈ ps, lk t p.1 = p.2) → applyP t ps = none
  | (n, x) :: ps, t, nd, h => by
    obtain ⟨h1, h2⟩ := List.nodup_cons.mp (show (n :: ps.map (·.1)).Nodup from nd)
    unfold applyP
    by_cases c : lk t n = x
    · rw [if_pos c]
    · rw [if_neg c]
      refine applyP_none h2 ?_
      obtain ⟨p, hp, e⟩ := h
      rcases List.mem_cons.mp hp with z | m
      · subst z; exact absurd e c
      · refine ⟨p, m, ?_⟩
        have hne : p.1 ≠ n := fun e => h1 (by rw [← e]; exact List.mem_map.mpr ⟨p, m, rfl⟩)
        rw [lk_step, if_neg hne]
        exact e
theorem applyP_ok : ∀ {ps : Pt} {t t' : Tb}, OkT t → (∀ p ∈ ps, isNm p.1) → (∀ p ∈ ps, ∀ i, p.2 = some i → 0 ≤ i ∧ i ≤ 99) → applyP t ps = some t' → OkT t'
  | [], t, t', h, _, _, e => by cases e; exact h
  | (n, x) :: ps, t, t', h, h1, h2, e => by
    unfold applyP at e
    by_cases c : lk t n = x
    · rw [if_pos c] at e; cases e
    · rw [if_neg c] at e
      exact applyP_ok (h.step (h1 _ List.mem_cons_self) (h2 _ List.mem_cons_self)) (fun p hp => h1 p (List.mem_cons_of_mem _ hp)) (fun p hp => h2 p (List.mem_cons_of_mem _ hp)) e
/-- the part of two tables leads from the one to the other -/
theorem apply_part {a b : Tb} : ∃ t', applyP a (part a b) = some t' ∧ ∀ n, lk t' n = lk b n := by
  obtain ⟨t', e1, e2, e3⟩ := applyP_some (ps := part a b) (t := a) (by rw [part_names]; exact pw_nodup pw_diffN) fun p hp => by
    obtain ⟨n, hn, rfl⟩ := List.mem_map.mp hp
    exact mem_diffN.mp hn
  refine ⟨t', e1, fun n => ?_⟩
  by_cases c : lk a n = lk b n
  · rw [e3 n (by rw [part_names, mem_diffN]; exact fun z => z c)]
    exact c
  · exact e2 (n, lk b n) (List.mem_map.mpr ⟨n, mem_diffN.mpr c, rfl⟩)
end Nk
/-! ### the shortest ties first, and the nearest first: the same sum -/
namespace Nk
/-- how many different numbers -/
def dc : List Nat → Nat
  | [] => 0
  | x :: l => (if x ∈ l then 0 else 1) + dc l
theorem filter_comm' (p q : Nat → Bool) (l : List Nat) : (l.filter p).filter q = (l.filter q).filter p := by
  rw [List.filter_filter, List.filter_filter]
  congr 1
  funext x
  exact Bool.and_comm _ _
theorem filter_out {x : Nat} {l : List Nat} (h : ¬ x ∈ l) : l.filter (fun y => decide (y ≠ x)) = l := by
  rw [List.filter_eq_self]
  intro y hy
  exact decide_eq_true fun e => h (e ▸ hy)
theorem dc_take' {x : Nat} : ∀ (l : List Nat), x ∈ l → dc l = 1 + dc (l.filter fun y => decide (y ≠ x))
  | [], hx => by cases hx
  | y :: l, hx => by
    by_cases c : y = x
    · subst c
      rw [List.filter_cons, if_neg (by simp)]
      simp only [dc]
      by_cases c2 : y ∈ l
      · rw [if_pos c2, Nat.zero_add]
        exact dc_take' l c2
      · rw [if_neg c2, filter_out c2]
    · have hx2 : x ∈ l := by
        rcases List.mem_cons.mp hx with e | e
        · exact absurd e.symm c
        · exact e
      rw [List.filter_cons, if_pos (by simpa using c)]
      simp only [dc]
      rw [dc_take' l hx2]
      have : (y ∈ l.filter fun y => decide (y ≠ x)) ↔ y ∈ l := by
        rw [List.mem_filter]
        exact ⟨fun h => h.1, fun h => ⟨h, by simpa using c⟩⟩
      by_cases c2 : y ∈ l
      · rw [if_pos c2, if_pos (this.mpr c2)]
        omega
      · rw [if_neg c2, if_neg (fun z => c2 (this.mp z))]
theorem dc_cons (x : Nat) (l : List Nat) : dc (x :: l) = 1 + dc (l.filter fun y => decide (y ≠ x)) := by
  rw [dc_take' (x :: l) List.mem_cons_self, List.filter_cons, if_neg (by simp)]
theorem dc_take {x : Nat} (n : Nat) (l : List Nat) (_ : l.length ≤ n) (h : x ∈ l) : dc l = 1 + dc (l.filter fun y => decide (y ≠ x)) := dc_take' l h
theorem dc_set : ∀ (n : Nat) (l m : List Nat), l.length ≤ n → (∀ x, x ∈ l ↔ x ∈ m) → dc l = dc m
  | 0, l, m, h, hs => by
    cases l with
    | cons a l => simp at h
    | nil =>
      cases m with
      | nil => rfl
      | cons a m => exact absurd ((hs a).mpr List.mem_cons_self) (by simp)
  | n + 1, [], m, h, hs => by
    cases m with
    | nil => rfl
    | cons a m => exact absurd ((hs a).mpr List.mem_cons_self) (by simp)
  | n + 1, x :: l, m, h, hs => by
    rw [dc_cons, dc_take m.length m (Nat.le_refl _) ((hs x).mp List.mem_cons_self)]
    congr 1
    refine dc_set n _ _ ?_ fun y => ?_
    · have := List.length_filter_le (fun z => decide (z ≠ x)) l
      simp only [List.length_cons] at h
      omega
    · rw [List.mem_filter, List.mem_filter, ← hs y]
      constructor
      · rintro ⟨h1, h2⟩
        exact ⟨List.mem_cons_of_mem _ h1, h2⟩
      · rintro ⟨h1, h2⟩
        rcases List.mem_cons.mp h1 with e | e
        · simp [e] at h2
        · exact ⟨e, h2⟩
theorem dc_same {l m : List Nat} (h : ∀ x, x ∈ l ↔ x ∈ m) : dc l = dc m := dc_set l.length l m (Nat.le_refl _) h
theorem dc_snoc (l : List Nat) (x : Nat) : dc (l ++ [x]) = dc l + if x ∈ l then 0 else 1 := by
  by_cases c : x ∈ l
  · rw [if_pos c, Nat.add_zero]
    refine dc_same fun y => ?_
    rw [List.mem_append, List.mem_singleton]
    exact ⟨fun h => h.elim id fun e => by rw [e]; exact c, .inl⟩
  · rw [if_neg c, dc_same (m := x :: l) (fun y => by rw [List.mem_append, List.mem_singleton, List.mem_cons]; exact Or.comm), dc_cons]
    rw [filter_out c]
    omega
/-- q becomes p -/
def mrg (p q z : Nat) : Nat := if z = q then p else z
theorem dc_mrg {l : List Nat} {p q : Nat} (hp : p ∈ l) (hq : q ∈ l) (hne : p ≠ q) : dc (l.map (mrg p q)) + 1 = dc l := by
  rw [dc_take l.length l (Nat.le_refl _) hq, dc_same (l := l.map (mrg p q)) (m := l.filter fun y => decide (y ≠ q))]
  · omega
  · intro y
    rw [List.mem_map, List.mem_filter]
    constructor
    · rintro ⟨z, hz, rfl⟩
      unfold mrg
      by_cases c : z = q
      · rw [if_pos c]; exact ⟨hp, by simpa using hne⟩
      · rw [if_neg c]; exact ⟨hz, by simpa using c⟩
    · rintro ⟨h1, h2⟩
      exact ⟨y, h1, by unfold mrg; rw [if_neg (by simpa using h2)]⟩
theorem dc_one {l : List Nat} {x : Nat} (h0 : x ∈ l) (h : ∀ y ∈ l, y = x) : dc l = 1 := by
  rw [dc_take l.length l (Nat.le_refl _) h0]
  have : l.filter (fun y => decide (y ≠ x)) = [] := by
    rw [List.filter_eq_nil_iff]
    intro y hy
    simp [h y hy]
  rw [this]
  simp [dc]
/-! ties: size, one end, other end -/
abbrev Tie := Nat × Nat × Nat
/-- labels behind a tie -/
def joinL (g : List Nat) (e : Tie) : List Nat := if g.getD e.2.1 0 ≠ g.getD e.2.2 0 then g.map (mrg (g.getD e.2.1 0) (g.getD e.2.2 0)) else g
def joinAll (g : List Nat) (es : List Tie) : List Nat := es.foldl joinL g
/-- the sizes taken -/
def tookL : List Nat → List Tie → List Nat
  | _, [] => []
  | g, e :: es => (if g.getD e.2.1 0 ≠ g.getD e.2.2 0 then [e.1] else []) ++ tookL (joinL g e) es
theorem joinL_len (g : List Nat) (e : Tie) : (joinL g e).length = g.length := by
  unfold joinL
  split <;> simp
theorem joinAll_len : ∀ (es : List Tie) (g : List Nat), (joinAll g es).length = g.length
  | [], _ => rfl
  | e :: es, g => by
    unfold joinAll
    rw [List.foldl_cons]
    exact (joinAll_len es _).trans (joinL_len g e)
theorem getD_mem {g : List Nat} {i : Nat} (h : i < g.length) : g.getD i 0 ∈ g := by
  rw [List.getD_eq_getElem?_getD, List.getElem?_eq_getElem h]
  exact List.getElem_mem h
theorem getD_map {g : List Nat} {i : Nat} {f : Nat → Nat} (h : i < g.length) : (g.map f).getD i 0 = f (g.getD i 0) := by
  rw [List.getD_eq_getElem?_getD, List.getD_eq_getElem?_getD, List.getElem?_map, List.getElem?_eq_getElem h]
  rfl
theorem took_count : ∀ (es : List Tie) (g : List Nat), (∀ e ∈ es, e.2.1 < g.length ∧ e.2.2 < g.length) → (tookL g es).length + dc (joinAll g es) = dc g
  | [], g, _ => by simp [tookL, joinAll]
  | e :: es, g, h => by
    have he := h e List.mem_cons_self
    have ih := took_count es (joinL g e) fun e' he' => by rw [joinL_len]; exact h e' (List.mem_cons_of_mem _ he')
    have hj : joinAll g (e :: es) = joinAll (joinL g e) es := rfl
    rw [hj]
    simp only [tookL, List.length_append]
    have : (if g.getD e.2.1 0 ≠ g.getD e.2.2 0 then [e.1] else []).length + dc (joinL g e) = dc g := by
      unfold joinL
      split
      · rename_i c
        have := dc_mrg (getD_mem he.1) (getD_mem he.2) c
        simp only [List.length_cons, List.length_nil]
        omega
      · simp
    omega
theorem took_app : ∀ (es fs : List Tie) (g : List Nat), tookL g (es ++ fs) = tookL g es ++ tookL (joinAll g es) fs
  | [], fs, g => rfl
  | e :: es, fs, g => by
    rw [List.cons_append]
    simp only [tookL]
    rw [took_app es fs, List.append_assoc]
    rfl
theorem joinAll_app (g : List Nat) (es fs : List Tie) : joinAll g (es ++ fs) = joinAll (joinAll g es) fs := List.foldl_append
theorem took_mem : ∀ (es : List Tie) (g : List Nat), ∀ s ∈ tookL g es, ∃ e ∈ es, s = e.1
  | [], _, s, h => nomatch h
  | e :: es, g, s, h => by
    simp only [tookL] at h
    rcases List.mem_append.mp h with h | h
    · split at h
      · rw [List.mem_singleton.mp h]; exact ⟨e, List.mem_cons_self, rfl⟩
      · cases h
    · obtain ⟨e', he', z⟩ := took_mem es _ s h
      exact ⟨e', List.mem_cons_of_mem _ he', z⟩
/-- alike stays alike -/
theorem joinL_keeps {g : List Nat} {e : Tie} {i j : Nat} (hi : i < g.length) (hj : j < g.length) (h : g.getD i 0 = g.getD j 0) : (joinL g e).getD i 0 = (joinL g e).getD j 0 := by
  unfold joinL
  split
  · rw [getD_map hi, getD_map hj, h]
  · exact h
theorem joinAll_keeps : ∀ (es : List Tie) {g : List Nat} {i j : Nat}, i < g.length → j < g.length → g.getD i 0 = g.getD j 0 → (joinAll g es).getD i 0 = (joinAll g es).getD j 0
  | [], _, _, _, _, _, h => h
  | e :: es, g, i, j, hi, hj, h => joinAll_keeps es (g := joinL g e) (by rw [joinL_len]; exact hi) (by rw [joinL_len]; exact hj) (joinL_keeps hi hj h)
theorem joinL_ends {g : List Nat} {e : Tie} (h : e.2.1 < g.length ∧ e.2.2 < g.length) : (joinL g e).getD e.2.1 0 = (joinL g e).getD e.2.2 0 := by
  unfold joinL
  split
  · rename_i c
    rw [getD_map h.1, getD_map h.2]
    unfold mrg
    rw [if_neg c, if_pos rfl]
  · rename_i c
    exact Decidable.not_not.mp c
theorem joinAll_ends : ∀ (es : List Tie) {g : List Nat}, (∀ e ∈ es, e.2.1 < g.length ∧ e.2.2 < g.length) → ∀ e ∈ es, (joinAll g es).getD e.2.1 0 = (joinAll g es).getD e.2.2 0
  | [], _, _, e, h => nomatch h
  | a :: es, g, hb, e, h => by
    have ha := hb a List.mem_cons_self
    rcases List.mem_cons.mp h with rfl | h
    · exact joinAll_keeps es (g := joinL g e) (by rw [joinL_len]; exact ha.1) (by rw [joinL_len]; exact ha.2) (joinL_ends ha)
    · exact joinAll_ends es (g := joinL g a) (fun e' he' => by rw [joinL_len]; exact hb e' (List.mem_cons_of_mem _ he')) e h
/-- alike lies on one side of any set that no tie leaves -/
theorem joinAll_side (C : Nat → Prop) : ∀ (es : List Tie) {g : List Nat}, (∀ e ∈ es, e.2.1 < g.length ∧ e.2.2 < g.length) → (∀ e ∈ es, (C e.2.1 ↔ C e.2.2)) → (∀ i j, i < g.length → j < g.length → g.getD i 0 = g.getD j 0 → (C i ↔ C j)) →
    ∀ i j, i < g.length → j < g.length → (joinAll g es).getD i 0 = (joinAll g es).getD j 0 → (C i ↔ C j)
  | [], _, _, _, h => h
  | a :: es, g, hb, hc, h => by
    have ha := hb a List.mem_cons_self
    have hca := hc a List.mem_cons_self
    intro i j hi hj hij
    refine joinAll_side C es (g := joinL g a) (fun e' he' => by rw [joinL_len]; exact hb e' (List.mem_cons_of_mem _ he')) (fun e' he' => hc e' (List.mem_cons_of_mem _ he')) (fun i j hi hj hij => ?_) i j (by rw [joinL_len]; exact hi) (by rw [joinL_len]; exact hj) hij
    rw [joinL_len] at hi hj
    unfold joinL at hij
    split at hij
    · rename_i c
      rw [getD_map hi, getD_map hj] at hij
      unfold mrg at hij
      by_cases c1 : g.getD i 0 = g.getD a.2.2 0
      · by_cases c2 : g.getD j 0 = g.getD a.2.2 0
        · exact h i j hi hj (c1.trans c2.symm)
        · rw [if_pos c1, if_neg c2] at hij
          exact ((h i _ hi ha.2 c1).trans hca.symm).trans (h _ j ha.1 hj hij)
      · by_cases c2 : g.getD j 0 = g.getD a.2.2 0
        · rw [if_neg c1, if_pos c2] at hij
          exact ((h i _ hi ha.1 hij).trans hca).trans (h _ j ha.2 hj c2.symm)
        · rw [if_neg c1, if_neg c2] at hij
          exact h i j hi hj hij
    · exact h i j hi hj hij
/-! sums by thresholds -/
theorem sum_over (T : Nat) : ∀ l : List Nat, (∀ x ∈ l, x ≤ T) → l.sum = ((List.range T).map fun t => (l.filter fun x => decide (t < x)).length).sum
  | [], _ => by
    have : ∀ n, ((List.range n).map fun _ => ([] : List Nat).length).sum = 0 := fun n => by
      induction n with
      | zero => rfl
      | succ n ih => rw [List.range_succ, List.map_append, List.sum_append, ih]; rfl
    exact (this T).symm
  | x :: l, h => by
    have ih := sum_over T l fun y hy => h y (List.mem_cons_of_mem _ hy)
    have hx := h x List.mem_cons_self
    have key : ∀ n, ((List.range n).map fun t => ((x :: l).filter fun x => decide (t < x)).length).sum = min n x + ((List.range n).map fun t => (l.filter fun x => decide (t < x)).length).sum := fun n => by
      induction n with
      | zero => simp
      | succ n ihn =>
        rw [List.range_succ, List.map_append, List.sum_append, ihn, List.map_append, List.sum_append]
        simp only [List.map_cons, List.map_nil, List.sum_cons, List.sum_nil, List.filter_cons]
        by_cases c : n < x
        · simp only [decide_eq_true c, if_true, List.length_cons]
          omega
        · simp only [decide_eq_false c, Bool.false_eq_true, if_false]
          omega
    rw [key T, List.sum_cons, ih]
    omega
theorem le_sum : ∀ (l : List Nat) (x : Nat), x ∈ l → x ≤ l.sum
  | y :: l, x, h => by
    rw [List.sum_cons]
    rcases List.mem_cons.mp h with rfl | h
    · omega
    · have := le_sum l x h
      omega
theorem sum_eq {l m : List Nat} (h : ∀ t, (l.filter fun x => decide (t < x)).length = (m.filter fun x => decide (t < x)).length) : l.sum = m.sum := by
  have h1 := sum_over (l.sum + m.sum) l fun x hx => by have := le_sum l x hx; omega
  have h2 := sum_over (l.sum + m.sum) m fun x hx => by have := le_sum m x hx; omega
  refine (h1.trans ?_).trans h2.symm
  congr 1
  exact List.map_congr_left fun t _ => h t
end Nk
namespace Nk
theorem sorted_split (t : Nat) : ∀ (es : List Tie), es.Pairwise (fun a b => a.1 ≤ b.1) → es = es.filter (fun e => decide (e.1 ≤ t)) ++ es.filter (fun e => decide (t < e.1))
  | [], _ => rfl
  | e :: es, h => by
    obtain ⟨h1, h2⟩ := List.pairwise_cons.mp h
    have ih := sorted_split t es h2
    rw [List.filter_cons, List.filter_cons]
    by_cases c : e.1 ≤ t
    · rw [if_pos (decide_eq_true c), if_neg (by simpa using c), List.cons_append, ← ih]
    · have n1 : es.filter (fun e => decide (e.1 ≤ t)) = [] := List.filter_eq_nil_iff.mpr fun a ha => by
        have := h1 a ha
        simp only [decide_eq_true_eq]
        omega
      rw [if_neg (by simpa using c), if_pos (decide_eq_true (by omega)), n1, List.nil_append]
      rw [n1, List.nil_append] at ih
      rw [← ih]
/-- the ties of a full net with n as its root -/
structure Net (wt : Nat → Nat → Nat) (n : Nat) (es : List Tie) : Prop where
  sym : ∀ i j, wt i j = wt j i
  ends : ∀ e ∈ es, e.2.1 < n + 1 ∧ e.2.2 < n + 1 ∧ e.1 = wt e.2.1 e.2.2
  all : ∀ i j, i < j → j ≤ n → (wt i j, i, j) ∈ es
  srt : es.Pairwise fun a b => a.1 ≤ b.1
/-- the nearest first -/
inductive Prim (wt : Nat → Nat → Nat) (n : Nat) : List Nat → List Nat → Prop
  | start : Prim wt n [n] []
  | next {ord ss : List Nat} {v s : Nat} (h : Prim wt n ord ss) (hv : v < n) (hn : ¬ v ∈ ord) (hu : ∃ u ∈ ord, wt u v = s) (hm : ∀ x, x < n → ¬ x ∈ ord → ∀ u ∈ ord, s ≤ wt u x) : Prim wt n (ord ++ [v]) (ss ++ [s])
theorem Prim.root {wt : Nat → Nat → Nat} {n : Nat} {ord ss : List Nat} (h : Prim wt n ord ss) : n ∈ ord ∧ ∀ x ∈ ord, x ≤ n := by
  induction h with
  | start => exact ⟨List.mem_singleton.mpr rfl, fun x hx => by rw [List.mem_singleton.mp hx]; omega⟩
  | next h hv hn hu hm ih =>
    refine ⟨List.mem_append.mpr (.inl ih.1), fun x hx => ?_⟩
    rcases List.mem_append.mp hx with hx | hx
    · exact ih.2 x hx
    · rw [List.mem_singleton.mp hx]; omega
def labT (n t : Nat) (es : List Tie) : List Nat := joinAll (List.range (n + 1)) (es.filter fun e => decide (e.1 ≤ t))
theorem labT_len (n t : Nat) (es : List Tie) : (labT n t es).length = n + 1 := by
  unfold labT
  rw [joinAll_len, List.length_range]
theorem range_getD {n i : Nat} (h : i < n) : (List.range n).getD i 0 = i := by
  rw [List.getD_eq_getElem?_getD, List.getElem?_range h]
  rfl
theorem prim_count {wt : Nat → Nat → Nat} {n : Nat} {es : List Tie} (N : Net wt n es) (t : Nat) {ord ss : List Nat} (h : Prim wt n ord ss) : (ss.filter fun x => decide (t < x)).length + 1 = dc (ord.map fun v => (labT n t es).getD v 0) := by
  induction h with
  | start => simp [dc]
  | @next ord ss v s h hv hn hu hm ih =>
    have hr := h.root
    have hlt : ∀ e ∈ es.filter (fun e => decide (e.1 ≤ t)), e.2.1 < (List.range (n + 1)).length ∧ e.2.2 < (List.range (n + 1)).length := fun e he => by
      rw [List.length_range]
      have := N.ends e (List.mem_filter.mp he).1
      exact ⟨this.1, this.2.1⟩
    rw [List.map_append, List.map_cons, List.map_nil, dc_snoc, ← ih, List.filter_append, List.length_append]
    have key : ((labT n t es).getD v 0 ∈ ord.map fun v => (labT n t es).getD v 0) ↔ ¬ t < s := by
      constructor
      · intro hm1 hts
        obtain ⟨u, hu1, hu2⟩ := List.mem_map.mp hm1
        have := (joinAll_side (· ∈ ord) (es.filter fun e => decide (e.1 ≤ t)) hlt (fun e he => ?_) (fun i j hi hj hij => ?_) u v (by rw [List.length_range]; have := hr.2 u hu1; omega) (by rw [List.length_range]; omega) hu2).mp hu1
        · exact hn this
        · obtain ⟨h1, h2⟩ := List.mem_filter.mp he
          have h2 : e.1 ≤ t := of_decide_eq_true h2
          obtain ⟨a1, a2, a3⟩ := N.ends e h1
          constructor
          · intro hc
            refine Decidable.byContradiction fun hc2 => ?_
            have hx : e.2.2 ≠ n := fun z => hc2 (z ▸ hr.1)
            have := hm e.2.2 (by omega) hc2 e.2.1 hc
            omega
          · intro hc
            refine Decidable.byContradiction fun hc2 => ?_
            have hx : e.2.1 ≠ n := fun z => hc2 (z ▸ hr.1)
            have := hm e.2.1 (by omega) hc2 e.2.2 hc
            rw [N.sym] at this
            omega
        · rw [List.length_range] at hi hj
          rw [range_getD hi, range_getD hj] at hij
          rw [hij]
      · intro hts
        obtain ⟨u, hu1, hu2⟩ := hu
        refine List.mem_map.mpr ⟨u, hu1, ?_⟩
        have hun : u ≠ v := fun z => hn (z ▸ hu1)
        have hul := hr.2 u hu1
        by_cases c : u < v
        · exact joinAll_ends (es.filter fun e => decide (e.1 ≤ t)) hlt (wt u v, u, v) (List.mem_filter.mpr ⟨N.all u v c (by omega), decide_eq_true (by show wt u v ≤ t; omega)⟩)
        · exact (joinAll_ends (es.filter fun e => decide (e.1 ≤ t)) hlt (wt v u, v, u) (List.mem_filter.mpr ⟨N.all v u (by omega) hul, decide_eq_true (by show wt v u ≤ t; rw [N.sym]; omega)⟩)).symm
    by_cases c : t < s
    · rw [if_neg (fun z => (key.mp z) c), List.filter_cons, if_pos (decide_eq_true c)]
      simp
    · rw [if_pos (key.mpr c), List.filter_cons, if_neg (by simpa using c)]
      simp
theorem mem_getD {g : List Nat} {x : Nat} : x ∈ g ↔ ∃ i, i < g.length ∧ g.getD i 0 = x := by
  constructor
  · intro h
    obtain ⟨i, hi, e⟩ := List.getElem_of_mem h
    exact ⟨i, hi, by rw [List.getD_eq_getElem?_getD, List.getElem?_eq_getElem hi]; exact e⟩
  · rintro ⟨i, hi, rfl⟩
    exact getD_mem hi
theorem prim_kruskal {wt : Nat → Nat → Nat} {n : Nat} {es : List Tie} (N : Net wt n es) {ord ss : List Nat} (h : Prim wt n ord ss) (hall : ∀ x, x < n → x ∈ ord) : ss.sum = (tookL (List.range (n + 1)) es).sum := by
  refine sum_eq fun t => ?_
  have h1 := prim_count N t h
  have hr := h.root
  have hd : dc (ord.map fun v => (labT n t es).getD v 0) = dc (labT n t es) := by
    refine dc_same fun x => ?_
    rw [mem_getD (g := labT n t es), labT_len]
    constructor
    · intro hx
      obtain ⟨v, hv, rfl⟩ := List.mem_map.mp hx
      exact ⟨v, by have := hr.2 v hv; omega, rfl⟩
    · rintro ⟨i, hi, rfl⟩
      refine List.mem_map.mpr ⟨i, ?_, rfl⟩
      by_cases c : i = n
      · rw [c]; exact hr.1
      · exact hall i (by omega)
  rw [hd] at h1
  have hsp := sorted_split t es N.srt
  have hends : ∀ e ∈ es, e.2.1 < (List.range (n + 1)).length ∧ e.2.2 < (List.range (n + 1)).length := fun e he => by
    rw [List.length_range]
    have := N.ends e he
    exact ⟨this.1, this.2.1⟩
  have hfin : dc (joinAll (List.range (n + 1)) es) = 1 := by
    refine dc_one (x := (joinAll (List.range (n + 1)) es).getD n 0) (getD_mem (by rw [joinAll_len, List.length_range]; omega)) fun y hy => ?_
    obtain ⟨i, hi, rfl⟩ := mem_getD.mp hy
    rw [joinAll_len, List.length_range] at hi
    by_cases c : i = n
    · rw [c]
    · exact joinAll_ends es hends (wt i n, i, n) (N.all i n (by omega) (Nat.le_refl _))
  have hcnt := took_count (es.filter fun e => decide (t < e.1)) (labT n t es) fun e he => by
    rw [labT_len]
    have := N.ends e (List.mem_filter.mp he).1
    exact ⟨this.1, this.2.1⟩
  have hj : joinAll (labT n t es) (es.filter fun e => decide (t < e.1)) = joinAll (List.range (n + 1)) es := by
    unfold labT
    rw [← joinAll_app, ← hsp]
  rw [hj, hfin] at hcnt
  have htk : (tookL (List.range (n + 1)) es).filter (fun x => decide (t < x)) = tookL (labT n t es) (es.filter fun e => decide (t < e.1)) := by
    have h0 : tookL (List.range (n + 1)) es = tookL (List.range (n + 1)) (es.filter fun e => decide (e.1 ≤ t)) ++ tookL (labT n t es) (es.filter fun e => decide (t < e.1)) := by
      have := took_app (es.filter fun e => decide (e.1 ≤ t)) (es.filter fun e => decide (t < e.1)) (List.range (n + 1))
      rw [← hsp] at this
      exact this
    rw [h0, List.filter_append]
    have n1 : (tookL (List.range (n + 1)) (es.filter fun e => decide (e.1 ≤ t))).filter (fun x => decide (t < x)) = [] := List.filter_eq_nil_iff.mpr fun x hx => by
      obtain ⟨e, he, rfl⟩ := took_mem _ _ x hx
      have := of_decide_eq_true (List.mem_filter.mp he).2
      simp only [decide_eq_true_eq]
      omega
    have n2 : (tookL (labT n t es) (es.filter fun e => decide (t < e.1))).filter (fun x => decide (t < x)) = tookL (labT n t es) (es.filter fun e => decide (t < e.1)) := List.filter_eq_self.mpr fun x hx => by
      obtain ⟨e, he, rfl⟩ := took_mem _ _ x hx
      exact (List.mem_filter.mp he).2
    rw [n1, n2, List.nil_append]
  rw [htk]
  omega
end Nk
/-! ### what is sent, in its order -/
namespace Nk
open PySem
abbrev Pl := List (Int × Tb)
def dist (a b : Tb) : Nat := (part a b).length
theorem dist_sym (a b : Tb) : dist a b = dist b a := by unfold dist; rw [part_len, part_len, diffN_swap]
def bbStep (t : Tb) (acc : Nat × Option Int) (p : Int × Tb) : Nat × Option Int := if dist p.2 t < acc.1 then (dist p.2 t, some p.1) else acc
def bestB (t : Tb) (ps : Pl) : Nat × Option Int := ps.foldl (bbStep t) (t.length, none)
theorem bb_from (t : Tb) : ∀ (ps : Pl) (acc : Nat × Option Int), (ps.foldl (bbStep t) acc).1 ≤ acc.1 ∧ (∀ p ∈ ps, (ps.foldl (bbStep t) acc).1 ≤ dist p.2 t) ∧ (ps.foldl (bbStep t) acc = acc ∨ ∃ p ∈ ps, ps.foldl (bbStep t) acc = (dist p.2 t, some p.1))
  | [], acc => ⟨Nat.le_refl _, (fun _ h => nomatch h), .inl rfl⟩
  | p :: ps, acc => by
    obtain ⟨h1, h2, h3⟩ := bb_from t ps (bbStep t acc p)
    rw [List.foldl_cons]
    have hb : (bbStep t acc p).1 ≤ acc.1 ∧ (bbStep t acc p).1 ≤ dist p.2 t := by
      unfold bbStep
      split
      · exact ⟨by simp only; omega, Nat.le_refl _⟩
      · exact ⟨Nat.le_refl _, by omega⟩
    refine ⟨by omega, fun q hq => ?_, ?_⟩
    · rcases List.mem_cons.mp hq with rfl | hq
      · omega
      · exact h2 q hq
    · rcases h3 with h3 | ⟨q, hq, h3⟩
      · rw [h3]
        unfold bbStep
        split
        · exact .inr ⟨p, List.mem_cons_self, rfl⟩
        · exact .inl rfl
      · exact .inr ⟨q, List.mem_cons_of_mem _ hq, h3⟩
theorem bb_spec (t : Tb) (ps : Pl) : (bestB t ps).1 ≤ t.length ∧ (∀ p ∈ ps, (bestB t ps).1 ≤ dist p.2 t) ∧ (bestB t ps = (t.length, none) ∨ ∃ p ∈ ps, bestB t ps = (dist p.2 t, some p.1)) := bb_from t ps _
theorem bb_next (t : Tb) {ps : Pl} {i : Nat} {p : Int × Tb} (h : ps[i]? = some p) : (ps.take (i + 1)).foldl (bbStep t) (t.length, none) = bbStep t ((ps.take i).foldl (bbStep t) (t.length, none)) p := by
  rw [List.take_add_one, h]
  show List.foldl _ _ (ps.take i ++ [p]) = _
  rw [List.foldl_append]
  rfl
abbrev Sent := Int × Option Int × Nat
inductive SendS (l0 its : Pl) : Pl → Pl → List Sent → Prop
  | start : SendS l0 its l0 its []
  | next {left hv : Pl} {rs : List Sent} {at_ : Nat} {p : Int × Tb} (h : SendS l0 its left hv rs) (hp : left[at_]? = some p) (hm : ∀ q ∈ left, (bestB p.2 hv).1 ≤ (bestB q.2 hv).1) :
      SendS l0 its (left.eraseIdx at_) (hv ++ [p]) (rs ++ [(p.1, (bestB p.2 hv).2, (bestB p.2 hv).1)])
def gP (l0 : Pl) (v : Nat) : Int × Tb := l0.getD v (0, [])
def wtS (l0 its : Pl) (i j : Nat) : Nat := if i = l0.length then (bestB (gP l0 j).2 its).1 else if j = l0.length then (bestB (gP l0 i).2 its).1 else dist (gP l0 i).2 (gP l0 j).2
theorem wtS_sym {l0 its : Pl} (i j : Nat) : wtS l0 its i j = wtS l0 its j i := by
  unfold wtS
  by_cases c1 : i = l0.length
  · by_cases c2 : j = l0.length
    · rw [if_pos c1, if_pos c2, c1, c2]
    · rw [if_pos c1, if_neg c2, if_pos c1]
  · by_cases c2 : j = l0.length
    · rw [if_neg c1, if_pos c2, if_pos c2]
    · rw [if_neg c1, if_neg c2, if_neg c2, if_neg c1, dist_sym]
theorem wtS_root {l0 its : Pl} (v : Nat) : wtS l0 its l0.length v = (bestB (gP l0 v).2 its).1 := if_pos rfl
theorem wtS_two {l0 its : Pl} {u v : Nat} (hu : u ≠ l0.length) (hv : v ≠ l0.length) : wtS l0 its u v = dist (gP l0 u).2 (gP l0 v).2 := by
  unfold wtS
  rw [if_neg hu, if_neg hv]
structure SendI (l0 its left hv : Pl) (rs : List Sent) (cs lf : List Nat) : Prop where
  left_ : left = lf.map (gP l0)
  hv_ : hv = its ++ cs.map (gP l0)
  prim : Prim (wtS l0 its) l0.length (l0.length :: cs) (rs.map fun r => r.2.2)
  perm : (cs ++ lf).Perm (List.range l0.length)
  len : rs.length = cs.length
  each : ∀ (i v : Nat), cs[i]? = some v → rs[i]? = some ((gP l0 v).1, (bestB (gP l0 v).2 (its ++ (cs.take i).map (gP l0))).2, (bestB (gP l0 v).2 (its ++ (cs.take i).map (gP l0))).1)
theorem eraseIdx_map' {α β : Type} (f : α → β) : ∀ (l : List α) (i : Nat), (l.map f).eraseIdx i = (l.eraseIdx i).map f
  | [], _ => rfl
  | a :: l, 0 => rfl
  | a :: l, i + 1 => by
    rw [List.map_cons, List.eraseIdx_cons_succ, List.eraseIdx_cons_succ, List.map_cons, eraseIdx_map' f l i]
theorem perm_erase {l : List Nat} : ∀ {i : Nat} {v : Nat}, l[i]? = some v → l.Perm (v :: l.eraseIdx i) := by
  induction l with
  | nil => intro i v h; simp at h
  | cons a l ih =>
    intro i v h
    cases i with
    | zero => cases h; exact List.Perm.refl _
    | succ i =>
      rw [List.eraseIdx_cons_succ]
      exact ((ih (i := i) (v := v) (by simpa using h)).cons a).trans (List.Perm.swap v a _)
theorem gP_mem {l0 : Pl} {v : Nat} (h : v < l0.length) : gP l0 v ∈ l0 := by
  unfold gP
  rw [List.getD_eq_getElem?_getD, List.getElem?_eq_getElem h]
  exact List.getElem_mem h
theorem send_inv {l0 its left hv : Pl} {rs : List Sent} (h : SendS l0 its left hv rs) : ∃ cs lf, SendI l0 its left hv rs cs lf := by
  induction h with
  | start =>
    refine ⟨[], List.range l0.length, ?_, by simp, .start, by simp, rfl, fun i v h => by simp at h⟩
    refine List.ext_getElem (by simp) fun i h1 h2 => ?_
    simp [gP, List.getD_eq_getElem?_getD, List.getElem?_eq_getElem h1]
  | @next left hv rs at_ p h hp hm ih =>
    obtain ⟨cs, lf, J⟩ := ih
    rw [J.left_, List.getElem?_map] at hp
    cases ev : lf[at_]? with
    | none => rw [ev] at hp; cases hp
    | some v =>
      rw [ev] at hp
      have hp : gP l0 v = p := Option.some.inj hp
      subst hp
      have hnd : (cs ++ lf).Nodup := J.perm.nodup_iff.mpr List.nodup_range
      have hvlf : v ∈ lf := List.mem_of_getElem? ev
      have hvn : v < l0.length := List.mem_range.mp (J.perm.mem_iff.mp (List.mem_append.mpr (.inr hvlf)))
      have hvcs : ¬ v ∈ cs := fun z => (List.nodup_append.mp hnd).2.2 v z v hvlf rfl
      have hle : ∀ t : Tb, (bestB t hv).1 ≤ (bestB t its).1 := fun t => by
        obtain ⟨a1, a2, _⟩ := bb_spec t hv
        obtain ⟨_, _, b3⟩ := bb_spec t its
        rcases b3 with b3 | ⟨q, hq, b3⟩
        · rw [b3]; exact a1
        · rw [b3]; exact a2 q (by rw [J.hv_]; exact List.mem_append.mpr (.inl hq))
      have hcs : ∀ u ∈ cs, u < l0.length := fun u hu => List.mem_range.mp (J.perm.mem_iff.mp (List.mem_append.mpr (.inl hu)))
      have hwt : ∀ u ∈ l0.length :: cs, ∀ x, x < l0.length → (bestB (gP l0 x).2 hv).1 ≤ wtS l0 its u x := fun u hu x hx => by
        rcases List.mem_cons.mp hu with rfl | hu
        · rw [wtS_root]; exact hle _
        · rw [wtS_two (by have := hcs u hu; omega) (by omega)]
          exact (bb_spec (gP l0 x).2 hv).2.1 (gP l0 u) (by rw [J.hv_]; exact List.mem_append.mpr (.inr (List.mem_map.mpr ⟨u, hu, rfl⟩)))
      refine ⟨cs ++ [v], lf.eraseIdx at_, by rw [J.left_, eraseIdx_map'], by rw [J.hv_, List.map_append, List.append_assoc]; rfl, ?_, ?_, by simp [J.len], fun i w hw => ?_⟩
      · rw [List.map_append]
        refine Prim.next (ord := l0.length :: cs) J.prim hvn (fun z => ?_) ?_ (fun x hx hxn u hu => ?_)
        · rcases List.mem_cons.mp z with z | z
          · omega
          · exact hvcs z
        · show ∃ u ∈ l0.length :: cs, wtS l0 its u v = (bestB (gP l0 v).2 hv).1
          have h0 := hwt l0.length List.mem_cons_self v hvn
          rw [wtS_root] at h0
          obtain ⟨a1, a2, a3⟩ := bb_spec (gP l0 v).2 hv
          obtain ⟨b1, b2, b3⟩ := bb_spec (gP l0 v).2 its
          rcases a3 with a3 | ⟨q, hq, a3⟩
          · refine ⟨l0.length, List.mem_cons_self, ?_⟩
            rw [wtS_root]
            rw [a3] at h0 ⊢
            show _ = (gP l0 v).2.length
            have h0' : (gP l0 v).2.length ≤ (bestB (gP l0 v).2 its).1 := h0
            omega
          · rw [J.hv_] at hq
            rcases List.mem_append.mp hq with hq | hq
            · refine ⟨l0.length, List.mem_cons_self, ?_⟩
              rw [wtS_root]
              have := b2 q hq
              rw [a3] at h0 ⊢
              show _ = dist q.2 (gP l0 v).2
              have h0' : dist q.2 (gP l0 v).2 ≤ (bestB (gP l0 v).2 its).1 := h0
              omega
            · obtain ⟨u, hu, rfl⟩ := List.mem_map.mp hq
              refine ⟨u, List.mem_cons_of_mem _ hu, ?_⟩
              rw [wtS_two (by have := hcs u hu; omega) (by omega), a3]
        · have hxlf : x ∈ lf := by
            have := J.perm.mem_iff.mpr (List.mem_range.mpr hx)
            rcases List.mem_append.mp this with z | z
            · exact absurd (List.mem_cons_of_mem _ z) hxn
            · exact z
          have h1 := hm (gP l0 x) (by rw [J.left_]; exact List.mem_map.mpr ⟨x, hxlf, rfl⟩)
          exact Nat.le_trans h1 (hwt u hu x hx)
      · have h1 := perm_erase ev
        refine List.Perm.trans ?_ J.perm
        rw [List.append_assoc]
        exact (h1.symm.append_left cs)
      · by_cases c : i < cs.length
        · rw [List.getElem?_append_left c] at hw
          have h1 := J.each i w hw
          rw [List.getElem?_append_left (by rw [J.len]; exact c), h1, List.take_append_of_le_length (by omega)]
        · rw [List.getElem?_append_right (by omega)] at hw
          have hi : i = cs.length := by
            cases hk : i - cs.length with
            | zero => omega
            | succ k => rw [hk] at hw; simp at hw
          subst hi
          rw [Nat.sub_self] at hw
          have hw : v = w := Option.some.inj hw
          subst hw
          rw [List.getElem?_append_right (by rw [J.len]; omega), J.len, Nat.sub_self, List.take_left, ← J.hv_]
          rfl
end Nk
namespace Nk
open PySem
/-- the law's ties, unsorted -/
def tiesK (l0 its : Pl) (k : Nat) : List Tie := (wtS l0 its l0.length k, k, l0.length) :: (List.range k).map fun j => (wtS l0 its j k, j, k)
def tiesF (l0 its : Pl) (m : Nat) : List Tie := (List.range m).flatMap (tiesK l0 its)
theorem tiesF_next (l0 its : Pl) (m : Nat) : tiesF l0 its (m + 1) = tiesF l0 its m ++ tiesK l0 its m := by
  unfold tiesF
  rw [List.range_succ, List.flatMap_append]
  simp
theorem ties_net {l0 its : Pl} {es : List Tie} (hp : es.Perm (tiesF l0 its l0.length)) (hs : es.Pairwise fun a b => a.1 ≤ b.1) : Net (wtS l0 its) l0.length es := by
  refine ⟨fun i j => wtS_sym i j, fun e he => ?_, fun i j hij hj => ?_, hs⟩
  · obtain ⟨k, hk, he⟩ := List.mem_flatMap.mp (hp.mem_iff.mp he)
    have hk := List.mem_range.mp hk
    rcases List.mem_cons.mp he with rfl | he
    · exact ⟨by show k < _; omega, by show l0.length < _; omega, wtS_sym _ _⟩
    · obtain ⟨j, hj, rfl⟩ := List.mem_map.mp he
      have hj := List.mem_range.mp hj
      exact ⟨by show j < _; omega, by show k < _; omega, rfl⟩
  · refine hp.mem_iff.mpr ?_
    by_cases c : j = l0.length
    · subst c
      refine List.mem_flatMap.mpr ⟨i, List.mem_range.mpr hij, ?_⟩
      rw [wtS_sym]
      exact List.mem_cons_self
    · refine List.mem_flatMap.mpr ⟨j, List.mem_range.mpr (by omega), List.mem_cons_of_mem _ (List.mem_map.mpr ⟨i, List.mem_range.mpr hij, rfl⟩)⟩
theorem tiesF_len (l0 its : Pl) : ∀ m, 2 * (tiesF l0 its m).length = m * (m + 1)
  | 0 => rfl
  | m + 1 => by
    have ih := tiesF_len l0 its m
    rw [tiesF_next, List.length_append]
    have : (tiesK l0 its m).length = m + 1 := by simp [tiesK]
    have e2 : (m + 1) * (m + 1 + 1) = m * (m + 1) + 2 * (m + 1) := by rw [Nat.add_mul, Nat.mul_add m (m + 1) 1, Nat.one_mul]; omega
    rw [this, Nat.mul_add, ih, e2]
/-- one tie more -/
theorem took_next {g : List Nat} {es : List Tie} {i : Nat} {e : Tie} (h : es[i]? = some e) : tookL g (es.take (i + 1)) = tookL g (es.take i) ++ (if (joinAll g (es.take i)).getD e.2.1 0 ≠ (joinAll g (es.take i)).getD e.2.2 0 then [e.1] else []) ∧ joinAll g (es.take (i + 1)) = joinL (joinAll g (es.take i)) e := by
  rw [List.take_add_one, h]
  constructor
  · show tookL g (es.take i ++ [e]) = _
    rw [took_app]
    simp [tookL]
  · show joinAll g (es.take i ++ [e]) = _
    rw [joinAll_app]
    rfl
end Nk
/-! ### the layer's short words for this program -/
namespace Nk
open PySem L2 PySem.Spec PyProof.Rows
/-- a def of the top keeps a promise: called by its name -/
structure Fk (P : Program) (w : World) (K : PySem.W.Frag) (mg : Str → Option Value) (base : Heap) (CX : CXT) (k : Nat) (x : Str) (ps : List Str) (sp : Sp) : Prop where
  ex : ∃ (f : Addr) (fd : FuncData), mg x = some (.ref f) ∧ PySem.W.keepIn K (.ref f) = true ∧ Binds K fd ps [] ∧ FnOk P w K mg base CX k f fd ps sp
/-- a def as it stands behind the top -/
structure Df (K : PySem.W.Frag) (mg : Str → Option Value) (x qual : Str) (st : Stmt) (ps : List Str) : Prop where
  ex : ∃ (f : Addr) (fd : FuncData), Fun K x qual st f fd ∧ mg x = some (.ref f) ∧ Binds K fd ps []
section
variable {X : Cx} {CX : CXT} {k : Nat} {ps : List Str} {sp : Sp} {x : Str} {p pos : Pos} {e : Expr} {es : List Expr} {t : TA} {E : XK}
theorem pe_fn (F : Fk X.prog X.w X.K X.mg X.base CX k x ps sp) (hr : Room k X.A) (hg : Gl X x) (hx : Passes CX X E) (ha : PA X (e :: es) t) (hdb : (x == ("__debug__" : Str)) = false := by decide)
    (he : starEach (e :: es) X.env = (false, eval e X.env) :: starEach es X.env := by rfl) (hpl : (backTo pos (starEach es X.env)).any (·.1) = false := by rfl) :
    PE X (.Call (.Name x p) (e :: es) [] pos) (tCall sp [] E t) := by
  obtain ⟨f, fd, g, kp, b, G⟩ := F.ex
  exact pe_call G hr hg g kp b .nil hx ha hdb he hpl
theorem passX {X : Cx} {E : XK} (tk : Takes X (fun cls d _ H => E cls d H)) : Passes (L2.CX X.prog X.w) X E := passes_call tk (fun _ _ _ _ h => h)
end
/-- an own exception class without own __init__, over RuntimeError -/
structure Xc (K : PySem.W.Frag) (mg : Str → Option Value) (x : Str) (C : Addr) : Prop where
  gP : mg x = some (.ref C)
  xP : PySem.W.excIn K C [.type "RuntimeError", .type "Exception", .type "BaseException", .type "object"] "RuntimeError.__new__" = true
  kP : PySem.W.keepIn K (.ref C) = true
  bP : PySem.W.subIn K (.ref C) (.type "BaseException") = some true
  tP : PySem.W.typeIn K (.ref C) = some (.type "type")
theorem Xc.rs {X : Cx} {x : Str} {C : Addr} (h : Xc X.K X.mg x C) : Raises X (.ref C) := raises_own h.bP h.tP
/-! sum of a tuple -/
def rSumT (K : PySem.W.Frag) : List V → Hp → VK → Prop := fun vs H Q => ∃ (a : Addr) (ns : List Int), vs = [V.ref a] ∧ SqT K H a (ns.map V.int) ∧ Q (.int ns.sum) H
theorem cr_sumT {X : Cx} (hc : X.calm = true) : CallR X (.builtin "sum") (rSumT X.K) := by
  intro pins s σ H vs us Q I r h
  obtain ⟨a, ns, rfl, hs, q⟩ := h
  obtain ⟨its, rv, hl, _⟩ := I.tuple hs
  rw [Vals.ref1 r]
  have hi : IntsAre its ns := rv.ints
  obtain ⟨xs, hx⟩ := hi.allInts.items
  have hn : numsOf its.toArray.toList = ns := by rw [show its.toArray.toList = its from rfl, hi.numsOf]
  rw [hx] at hl hn
  rw [nums_intItems] at hn
  refine PySem.W.ktm_sumG (I.ok.hd hc) hl fun h' tk t' hk => ?_
  rw [preSum_eq, List.take_of_length_le (by simp), hn]
  exact ⟨.int _, H, I.kept hk, ⟨_, rfl⟩, q⟩
/-! heaps -/
/-- all but t is as it was -/
def But (t : Addr) (H H' : Hp) : Prop := ∀ b o, H b = some o → b ≠ t → H' b = some o
theorem But.refl {t : Addr} {H : Hp} : But t H H := fun _ _ h _ => h
theorem But.trans {t : Addr} {H H1 H2 : Hp} (a : But t H H1) (b : But t H1 H2) : But t H H2 := fun c o h n => b c o (a c o h n) n
theorem But.of {t : Addr} {H H' : Hp} (s : Same H H') : But t H H' := fun b o h _ => s b o h
theorem But.thenS {t : Addr} {H H1 H2 : Hp} (a : But t H H1) (b : Same H1 H2) : But t H H2 := a.trans (.of b)
theorem Same.thenB {t : Addr} {H H1 H2 : Hp} (a : Same H H1) (b : But t H1 H2) : But t H H2 := (But.of a).trans b
theorem same_upd {H : Hp} {p : Addr} {o : HO} (h : H p = none) : Same H (upd H p o) := fun b x e => by
  rw [upd_ne (ne_of_none e h)]
  exact e
theorem But.upd {t : Addr} {H : Hp} {o : HO} : But t H (upd H t o) := fun b x e n => by
  rw [upd_ne n]
  exact e
theorem But.tup {K : PySem.W.Frag} {t a : Addr} {H H' : Hp} {xs : List V} {l : List V} (b : But t H H') (ht : H t = some (.lst l)) (h : SqT K H a xs) : SqT K H' a xs := by
  rcases h with (h | ⟨o, h⟩) | h
  · exact .inl (.inl (b _ _ h (ne_of h ht (by intro z; cases z))))
  · exact .inl (.inr ⟨o, b _ _ h (ne_of h ht (by intro z; cases z))⟩)
  · exact .inr h
theorem But.lst {K : PySem.W.Frag} {t a : Addr} {H H' : Hp} {xs : List V} (b : But t H H') (ha : a ≠ t) (h : SqL K H a xs) : SqL K H' a xs := by
  rcases h with (h | ⟨o, h⟩) | h
  · exact .inl (.inl (b _ _ h ha))
  · exact .inl (.inr ⟨o, b _ _ h ha⟩)
  · exact .inr h
theorem Same.tup {K : PySem.W.Frag} {a : Addr} {H H' : Hp} {xs : List V} (e : Same H H') (h : SqT K H a xs) : SqT K H' a xs := by
  rcases h with (h | ⟨o, h⟩) | h
  · exact .inl (.inl (e _ _ h))
  · exact .inl (.inr ⟨o, e _ _ h⟩)
  · exact .inr h
theorem sqL {K : PySem.W.Frag} {H : Hp} {a : Addr} {xs : List V} (h : H a = some (.lst xs)) : SqL K H a xs := Or.inl (Or.inl h)
theorem sqT {K : PySem.W.Frag} {H : Hp} {a : Addr} {xs : List V} (h : H a = some (.tup xs)) : SqT K H a xs := Or.inl (Or.inl h)
theorem sz {n : Nat} (h : n ≤ 100000) : n ≤ sizeLine := Nat.le_trans h (by decide)
theorem szl {n : Nat} (h : n < 100000) : n < sizeLine := Nat.lt_of_lt_of_le h (by decide)
/-- a list that is read and is not t -/
def SqN (K : PySem.W.Frag) (H : Hp) (a t : Addr) (xs : List V) : Prop := (Rd H a (.lst xs) ∧ a ≠ t) ∨
    ∃ (o : Obj) (its : Array Value) (n : Nat), K.lookup a = some o ∧ o.cls = .type "list" ∧ o.dict = none ∧ o.data = .seq its n ∧ its.size ≤ sizeLine ∧ Vals xs its.toList
theorem SqN.l {K : PySem.W.Frag} {H : Hp} {a t : Addr} {xs : List V} (h : SqN K H a t xs) : SqL K H a xs := by
  rcases h with ⟨h, _⟩ | h
  · exact .inl h
  · exact .inr h
theorem SqN.but {K : PySem.W.Frag} {H H' : Hp} {a t : Addr} {xs : List V} (h : SqN K H a t xs) (b : But t H H') : SqN K H' a t xs := by
  rcases h with ⟨h | ⟨o, h⟩, n⟩ | h
  · exact .inl ⟨.inl (b _ _ h n), n⟩
  · exact .inl ⟨.inr ⟨o, b _ _ h n⟩, n⟩
  · exact .inr h
theorem SqN.same {K : PySem.W.Frag} {H H' : Hp} {a t : Addr} {xs : List V} (h : SqN K H a t xs) (b : Same H H') : SqN K H' a t xs := h.but (.of b)
theorem SqN.new {K : PySem.W.Frag} {H : Hp} {a t : Addr} {xs : List V} (h : SqL K H a xs) (ht : H t = none) : SqN K H a t xs := by
  rcases h with (h | ⟨o, h⟩) | h
  · exact .inl ⟨.inl h, ne_of_none h ht⟩
  · exact .inl ⟨.inr ⟨o, h⟩, ne_of_none h ht⟩
  · exact .inr h
theorem SqN.app {K : PySem.W.Frag} {H H' : Hp} {a t p : Addr} {xs : List V} {o : HO} (h : SqN K H' a t xs) (h0 : SqN K H a t xs) (hp : H p = none) : SqN K (upd H' p o) a t xs := by
  have sN : But p H' (upd H' p o) := But.upd
  rcases h0 with ⟨h' | ⟨o', h'⟩, n'⟩ | h'
  · rcases h with ⟨h | ⟨o, h⟩, n⟩ | h
    · exact .inl ⟨.inl (sN _ _ h (ne_of_none h' hp)), n⟩
    · exact .inl ⟨.inr ⟨o, sN _ _ h (ne_of_none h' hp)⟩, n⟩
    · exact .inr h
  · rcases h with ⟨h | ⟨o, h⟩, n⟩ | h
    · exact .inl ⟨.inl (sN _ _ h (ne_of_none h' hp)), n⟩
    · exact .inl ⟨.inr ⟨o, sN _ _ h (ne_of_none h' hp)⟩, n⟩
    · exact .inr h
  · exact .inr h'
theorem szN {n : Nat} (h : n ≤ 64) : (n ≤ sizeLine) = True := eq_true (sz (by omega))
/-! things -/
/-- what may be handed in, with the name of its type -/
inductive Thing (K : PySem.W.Frag) (H : Hp) : V → String → Prop
  | non : Thing K H .non "NoneType"
  | bl (b : Bool) : Thing K H (.bl b) "bool"
  | int (i : Int) : Thing K H (.int i) "int"
  | str (x : Str) : Thing K H (.str x) "str"
  | lst {a : Addr} {xs : List V} (h : H a = some (.lst xs)) : Thing K H (.ref a) "list"
  | tup {a : Addr} {xs : List V} (h : H a = some (.tup xs)) : Thing K H (.ref a) "tuple"
  | dic {a : Addr} {kvs : List (Key × V)} (h : H a = some (.dK kvs)) : Thing K H (.ref a) "dict"
theorem Thing.ty {K : PySem.W.Frag} {H : Hp} {x : V} {n : String} (h : Thing K H x n) : TyX K H x (.type n) := by
  cases h with
  | non => exact .base .non
  | bl b => exact .base (.bl b)
  | int i => exact .base (.int i)
  | str x => exact .base (.str x)
  | lst h => exact .base (.lst h)
  | tup h => exact .base (.tup h)
  | dic h => exact .base (.dK h)
theorem Thing.same {K : PySem.W.Frag} {H H' : Hp} {x : V} {n : String} (s : Same H H') (h : Thing K H x n) : Thing K H' x n := by
  cases h with
  | non => exact .non
  | bl b => exact .bl b
  | int i => exact .int i
  | str x => exact .str x
  | lst h => exact .lst (s _ _ h)
  | tup h => exact .tup (s _ _ h)
  | dic h => exact .dic (s _ _ h)
def isA (n : String) (T : String) : Bool := n == T || (n == "bool" && T == "int")
def tyNames : List String := ["NoneType", "bool", "int", "str", "list", "tuple", "dict"]
theorem Thing.mem {K : PySem.W.Frag} {H : Hp} {x : V} {n : String} (h : Thing K H x n) : n ∈ tyNames := by
  cases h <;> simp [tyNames]
theorem kit_all : ∀ n ∈ tyNames, ∀ T ∈ tyNames, kitB n T = some (isA n T) := by decide +kernel
theorem Thing.kit {K : PySem.W.Frag} {H : Hp} {x : V} {n : String} (h : Thing K H x n) {T : String} (hT : T ∈ tyNames) : PySem.W.kitOne K (.type n) (.type T) = some (isA n T) := kit_ty (kit_all n h.mem T hT)
/-- isinstance of a thing -/
theorem isi_thing {K : PySem.W.Frag} {H : Hp} {x : V} {n : String} {T : String} {Q : VK} (h : Thing K H x n) (hT : T ∈ tyNames) (q : Q (.bl (isA n T)) H) : rIsi K [x, .ty T] H Q :=
  ⟨x, .ty T, .type n, .type T, isA n T, rfl, .ty T, h.ty, h.kit hT, q⟩
def isWholeV : V → Bool
  | .int _ => true
  | _ => false
def isNumV (x : V) (lo : Int) (y : V) : Bool := match x, y with
  | .int i, .int hi => decide (lo ≤ i) && decide (i ≤ hi)
  | _, _ => false
end Nk
namespace Nk
open PySem L2 PySem.Spec PyProof.Rows
/-- where a class of the top stands -/
def cls (mg : Str → Option Value) (x : Str) : Addr := match mg x with
  | some (.ref a) => a
  | _ => 0
theorem cls_of {mg : Str → Option Value} {x : Str} {a : Addr} (h : mg x = some (.ref a)) : cls mg x = a := by
  unfold cls; rw [h]
section
variable {X : Cx} {x : Str} {i : Int} {z : Str} {pos : Pos}
theorem pe_globI (h : ∃ t, X.mg x = some (.int i t)) (hg : Gl X x) (hd : (x == ("__debug__" : Str)) = false := by decide) : PE X (.Name x pos) (tC (.int i)) := by
  obtain ⟨t, h⟩ := h
  exact pe_glob hg h ⟨_, rfl⟩ hd
theorem pe_globS (h : ∃ t, X.mg x = some (.str z t)) (hg : Gl X x) (hd : (x == ("__debug__" : Str)) = false := by decide) : PE X (.Name x pos) (tC (.str z)) := by
  obtain ⟨t, h⟩ := h
  exact pe_glob hg h ⟨_, rfl⟩ hd
end
section
variable {K : PySem.W.Frag} {h : Heap} {mg : Str → Option Value}
theorem df_mk {x qual : Str} {st : Stmt} {ps : List Str} {f : Addr} {oc : Value} {od an : Option Addr} {osl : Array (Option Value)} {kV doc pm cdv ct : Value} (X : K.In h) (G : h.Ns mainGlobals mg)
    (hb : ∀ (kV doc pm : Value) (an : Option Addr) (cdv ct : Value) (us : List Value), us.length = ps.length → bindArgs (PySem.W.fnOf x qual (defArgs st) (defBody st) (defScope st) .none kV doc pm an cdv ct) ⟨us, []⟩ = pure (ps.zip us))
    (a : PySem.W.nsIn K mainGlobals x = some (some (.ref f)))
    (l : K.lookup f = some ⟨oc, od, .func (PySem.W.fnOf x qual (defArgs st) (defBody st) (defScope st) .none kV doc pm an cdv ct), osl⟩)
    (c : PySem.W.codeIn K cdv qual = true) (k : PySem.W.keepIn K (.ref f) = true) : Df K mg x qual st ps := by
  have F := fun_mk (st := st) l c k
  exact ⟨f, _, F, PySem.W.mg_of X G a, F.binds hb⟩
theorem xc_mk {x : Str} {C : Addr} (X : K.In h) (G : h.Ns mainGlobals mg) (a : PySem.W.nsIn K mainGlobals x = some (some (.ref C)))
    (xP : PySem.W.excIn K C [.type "RuntimeError", .type "Exception", .type "BaseException", .type "object"] "RuntimeError.__new__" = true)
    (kP : PySem.W.keepIn K (.ref C) = true) (bP : PySem.W.subIn K (.ref C) (.type "BaseException") = some true) (tP : PySem.W.typeIn K (.ref C) = some (.type "type")) : Xc K mg x (cls mg x) := by
  have g := PySem.W.mg_of X G a
  rw [cls_of g]
  exact ⟨g, xP, kP, bP, tP⟩
theorem ci_mk {x : Str} {i : Int} {t : Tok} (X : K.In h) (G : h.Ns mainGlobals mg) (a : PySem.W.nsIn K mainGlobals x = some (some (.int i t))) : ∃ t, mg x = some (.int i t) := ⟨t, PySem.W.mg_of X G a⟩
theorem cs_mk {x z : Str} {t : Tok} (X : K.In h) (G : h.Ns mainGlobals mg) (a : PySem.W.nsIn K mainGlobals x = some (some (.str z t))) : ∃ t, mg x = some (.str z t) := ⟨t, PySem.W.mg_of X G a⟩
end
/-- the law's: a list of at most 63 ints is handed in, True comes out -/
def spLaw (K : PySem.W.Frag) : Sp := fun vs H Q _ => ∃ (a : Addr) (ns : List Int), vs = [.ref a] ∧ SqL K H a (ns.map V.int) ∧ ns.length ≤ 63 ∧ ∀ H', Q (.bl true) H'
theorem law_end {P : Program} {w : World} {K : PySem.W.Frag} {mg : Str → Option Value} {st : Stmt} {fa : Addr} {k : Nat} (hfa : mg "law" = some (.ref fa)) (D : Df K mg "law" "law" st ["script"])
    (hb : ∀ (kV doc pm : Value) (an : Option Addr) (cdv ct v : Value), bindArgs (PySem.W.fnOf "law" "law" (defArgs st) (defBody st) (defScope st) .none kV doc pm an cdv ct) ⟨[v], []⟩ = pure [(("script" : Str), v)])
    (G : ∀ (base : Heap) (f : Addr) (fd : FuncData), Fun K "law" "law" st f fd → FnOk P w K mg base CX0 k f fd ["script"] (spLaw K)) :
    ∃ fd : FuncData, (∀ (s : Shared) (v : Value), BindsTo s fd ⟨[v], []⟩ [("script", v)]) ∧ ∀ base : Heap, K.In base → base.Ns mainGlobals mg → FnOk P w K mg base CX0 k fa fd ["script"] (spLaw K) := by
  obtain ⟨f, fd, F, g, b⟩ := D.ex
  have e : fa = f := by
    have := hfa.symm.trans g
    cases this
    rfl
  subst e
  refine ⟨fd, fun s v => ?_, fun base _ _ => G base fa fd F⟩
  obtain ⟨oc, od, kV, doc, pm, an, cdv, ct, osl, rfl, lk, hcd⟩ := F.ex
  exact .of_eq (hb _ _ _ _ _ _ _)
end Nk
namespace Nk
open PySem L2 PySem.Spec PyProof.Rows
theorem Same.keepN {H H' : Hp} {t : Addr} {o : HO} (s : Same H H') (n : H t = none) : Same H (upd H' t o) := fun b x e => by
  rw [upd_ne (ne_of_none e n)]
  exact s b x e
/-- within a comprehension that leaves all else: G i is the list behind i items -/
structure LcP (H1 : Hp) (D : Addr) (G : Nat → List V) (i : Nat) (H : Hp) : Prop where
  same : Same H1 H
  at_ : H D = some (.lst (G i))
theorem LcP.push {H1 H H4 : Hp} {D : Addr} {G : Nat → List V} {i : Nat} {y : V} (p : LcP H1 D G i H) (hD : H1 D = none) (hl : (G i).length ≤ 99999) (s : Same H H4) (e : G (i + 1) = G i ++ [y]) :
    ∃ acc, H4 D = some (.lst acc) ∧ acc.length < sizeLine ∧ LcP H1 D G (i + 1) (upd H4 D (.lst (acc ++ [y]))) :=
  ⟨G i, s _ _ p.at_, szl (by omega), Same.keepN (p.same.trans s) hD, by rw [upd_same, e]⟩
theorem LcP.skip {H1 H H4 : Hp} {D : Addr} {G : Nat → List V} {i : Nat} (p : LcP H1 D G i H) (s : Same H H4) (e : G (i + 1) = G i) : LcP H1 D G (i + 1) H4 :=
  ⟨p.same.trans s, by rw [e]; exact s _ _ p.at_⟩
theorem lcT {K : PySem.W.Frag} {a : Addr} {xs : List V} {g : TG} {tt : TT} {te : TE} {vs : List Nat} {σ : L2.St} {H1 : Hp} {D : Addr} {Qd : Hp → Prop} (hD : H1 D = none) (hT : SqT K H1 a xs) (G : Nat → List V) (h0 : G 0 = [])
    (hs : ∀ i x H, xs[i]? = some x → LcP H1 D G i H → g x (wipe σ vs) H fun σ2 H2 => wipe σ2 vs = wipe σ vs ∧ tt σ2 H2 fun b H3 =>
      if b = true then te σ2 H3 fun y H4 => ∃ acc, H4 D = some (.lst acc) ∧ acc.length < sizeLine ∧ LcP H1 D G (i + 1) (upd H4 D (.lst (acc ++ [y]))) else LcP H1 D G (i + 1) H3) (hd : ∀ H, Same H1 H → H D = some (.lst (G xs.length)) → Qd H) :
    ∃ W : Nat → Nat → Hp → Prop, (∃ m, W 0 m (upd H1 D (.lst []))) ∧ ∀ i m H, W i m H →
      ((Itt K a).stop i H ∧ Qd H) ∨ ((Itt K a).go i H ∧ ∃ Nx : Hp → Prop, (∀ H', Nx H' → ∃ m', m' < m ∧ W (i + 1) m' H') ∧ ∀ x H', (Itt K a).yld i H x H' → g x (wipe σ vs) H' fun σ2 H2 => wipe σ2 vs = wipe σ vs ∧ tt σ2 H2 fun b H3 =>
        if b = true then te σ2 H3 fun y H4 => ∃ acc, H4 D = some (.lst acc) ∧ acc.length < sizeLine ∧ Nx (upd H4 D (.lst (acc ++ [y]))) else Nx H3) :=
  lc_tup (K := K) (a := a) (xs := xs) (LcP H1 D G) ⟨same_upd hD, by rw [h0]; exact upd_same⟩ (fun i H _ p => Same.tup p.same hT) hs fun H p => hd H p.same p.at_
theorem lcL {K : PySem.W.Frag} {a : Addr} {xs : List V} {g : TG} {tt : TT} {te : TE} {vs : List Nat} {σ : L2.St} {H1 : Hp} {D : Addr} {Qd : Hp → Prop} (hD : H1 D = none) (hT : SqL K H1 a xs) (G : Nat → List V) (h0 : G 0 = [])
    (hs : ∀ i x H, xs[i]? = some x → LcP H1 D G i H → g x (wipe σ vs) H fun σ2 H2 => wipe σ2 vs = wipe σ vs ∧ tt σ2 H2 fun b H3 =>
      if b = true then te σ2 H3 fun y H4 => ∃ acc, H4 D = some (.lst acc) ∧ acc.length < sizeLine ∧ LcP H1 D G (i + 1) (upd H4 D (.lst (acc ++ [y]))) else LcP H1 D G (i + 1) H3) (hd : ∀ H, Same H1 H → H D = some (.lst (G xs.length)) → Qd H) :
    ∃ W : Nat → Nat → Hp → Prop, (∃ m, W 0 m (upd H1 D (.lst []))) ∧ ∀ i m H, W i m H →
      ((Itl K a).stop i H ∧ Qd H) ∨ ((Itl K a).go i H ∧ ∃ Nx : Hp → Prop, (∀ H', Nx H' → ∃ m', m' < m ∧ W (i + 1) m' H') ∧ ∀ x H', (Itl K a).yld i H x H' → g x (wipe σ vs) H' fun σ2 H2 => wipe σ2 vs = wipe σ vs ∧ tt σ2 H2 fun b H3 =>
        if b = true then te σ2 H3 fun y H4 => ∃ acc, H4 D = some (.lst acc) ∧ acc.length < sizeLine ∧ Nx (upd H4 D (.lst (acc ++ [y]))) else Nx H3) :=
  lc_list (K := K) (a := a) (xs := xs) (LcP H1 D G) ⟨same_upd hD, by rw [h0]; exact upd_same⟩ (fun i H _ p => p.same.seq hT) hs fun H p => hd H p.same p.at_
theorem lcR {lo : Int} {n : Nat} {g : TG} {tt : TT} {te : TE} {vs : List Nat} {σ : L2.St} {H1 : Hp} {D : Addr} {Qd : Hp → Prop} (hD : H1 D = none) (G : Nat → List V) (h0 : G 0 = [])
    (hs : ∀ i H, i < n → LcP H1 D G i H → g (.int (lo + i)) (wipe σ vs) H fun σ2 H2 => wipe σ2 vs = wipe σ vs ∧ tt σ2 H2 fun b H3 =>
      if b = true then te σ2 H3 fun y H4 => ∃ acc, H4 D = some (.lst acc) ∧ acc.length < sizeLine ∧ LcP H1 D G (i + 1) (upd H4 D (.lst (acc ++ [y]))) else LcP H1 D G (i + 1) H3) (hd : ∀ H, Same H1 H → H D = some (.lst (G n)) → Qd H) :
    ∃ W : Nat → Nat → Hp → Prop, (∃ m, W 0 m (upd H1 D (.lst []))) ∧ ∀ i m H, W i m H →
      ((Itr lo n).stop i H ∧ Qd H) ∨ ((Itr lo n).go i H ∧ ∃ Nx : Hp → Prop, (∀ H', Nx H' → ∃ m', m' < m ∧ W (i + 1) m' H') ∧ ∀ x H', (Itr lo n).yld i H x H' → g x (wipe σ vs) H' fun σ2 H2 => wipe σ2 vs = wipe σ vs ∧ tt σ2 H2 fun b H3 =>
        if b = true then te σ2 H3 fun y H4 => ∃ acc, H4 D = some (.lst acc) ∧ acc.length < sizeLine ∧ Nx (upd H4 D (.lst (acc ++ [y]))) else Nx H3) :=
  lc_range (LcP H1 D G) ⟨same_upd hD, by rw [h0]; exact upd_same⟩ hs fun H p => hd H p.same p.at_
theorem take_next {α : Type} {l : List α} {i : Nat} {x : α} (h : l[i]? = some x) : l.take (i + 1) = l.take i ++ [x] := by
  rw [List.take_add_one, h]; rfl
theorem map_take_next {α β : Type} {l : List α} {i : Nat} {x : α} (f : α → β) (h : l[i]? = some x) : (l.take (i + 1)).map f = (l.take i).map f ++ [f x] := by
  rw [take_next h]; simp
theorem filter_take_next {α : Type} {l : List α} {i : Nat} {x : α} (f : α → Bool) (h : l[i]? = some x) : (l.take (i + 1)).filter f = (l.take i).filter f ++ (if f x = true then [x] else []) := by
  rw [take_next h, List.filter_append]; cases e : f x <;> simp [e]
theorem filter_len {α : Type} (l : List α) (f : α → Bool) (i : Nat) : ((l.take i).filter f).length ≤ l.length :=
  Nat.le_trans (List.length_filter_le _ _) (by simp; omega)
theorem lt_of_get {α : Type} {l : List α} {i : Nat} {x : α} (h : l[i]? = some x) : i < l.length := (List.getElem?_eq_some_iff.mp h).1
theorem mem_of_get {α : Type} {l : List α} {i : Nat} {x : α} (h : l[i]? = some x) : x ∈ l := List.mem_of_getElem? h
end Nk
namespace Nk
open PySem L2
theorem seq_k {t u : TS} {D : Ends} {σ : L2.St} {H : Hp} (h : ∀ Kt : L2.St → Hp → Prop, Kt = u D → t { D with nx := Kt } σ H) : tSeq t u D σ H := h _ rfl
theorem gCons_cons {t : TG} {u : TGs} {v : V} {r : List V} {σ : L2.St} {H : Hp} {Q : L2.St → Hp → Prop} : gCons t u (v :: r) σ H Q = t v σ H fun σ' H' => u r σ' H' Q := by
  simp only [gCons, List.cons.injEq]
  refine propext ⟨?_, fun h => ⟨v, r, ⟨rfl, rfl⟩, h⟩⟩
  rintro ⟨v', r', ⟨rfl, rfl⟩, h⟩
  exact h
theorem gNil_nil {σ : L2.St} {H : Hp} {Q : L2.St → Hp → Prop} : gNil [] σ H Q = Q σ H := by
  simp only [gNil, true_and]
theorem scal_ii {a b : Int} : scal (.int a) (.int b) = true := rfl
theorem scal_ss {a b : Str} : scal (.str a) (.str b) = true := rfl
theorem scal_bb {a b : Bool} : scal (.bl a) (.bl b) = true := rfl
theorem scal_nn : scal .non .non = true := rfl
theorem scal_ni {b : Int} : scal .non (.int b) = true := rfl
theorem scal_in {b : Int} : scal (.int b) .non = true := rfl
theorem scal_ns {b : Str} : scal .non (.str b) = true := rfl
theorem scal_sn {b : Str} : scal (.str b) .non = true := rfl
theorem scal_is {a : Int} {b : Str} : scal (.int a) (.str b) = true := rfl
theorem scal_si {a : Int} {b : Str} : scal (.str b) (.int a) = true := rfl
end Nk
namespace Nk
open PySem L2
/-- what a for asks when its iterator stands -/
def ForW (J : It) (g : TG) (tb : TS) (D : Ends) (σ : L2.St) (H : Hp) : Prop := ∃ W : Nat → Nat → L2.St → Hp → Prop, (∃ m, W 0 m σ H) ∧ ∀ i m σ H, W i m σ H →
  (J.stop i H ∧ D.nx σ H) ∨ (J.go i H ∧ ∃ N : L2.St → Hp → Prop, (∀ σ' H', N σ' H' → ∃ m', m' < m ∧ W (i + 1) m' σ' H') ∧ ∀ x H', J.yld i H x H' → g x σ H' fun σ2 H2 => tb { D with nx := N, ct := N, bk := D.nx } σ2 H2)
theorem tFor_k {wi : TI} {g : TG} {tb : TS} {D : Ends} {σ : L2.St} {H : Hp} : tFor wi g tb D σ H = wi σ H fun J H1 => ForW J g tb D σ H1 := rfl
/-- what a comprehension asks when its iterator and its list stand -/
def LcW (J : It) (g : TG) (tt : TT) (te : TE) (vs : List Nat) (σ : L2.St) (H1 : Hp) (D : Addr) (Qd : Hp → Prop) : Prop := ∃ W : Nat → Nat → Hp → Prop, (∃ m, W 0 m (upd H1 D (.lst []))) ∧ ∀ i m H, W i m H →
  (J.stop i H ∧ Qd H) ∨ (J.go i H ∧ ∃ Nx : Hp → Prop, (∀ H', Nx H' → ∃ m', m' < m ∧ W (i + 1) m' H') ∧ ∀ x H', J.yld i H x H' → g x (wipe σ vs) H' fun σ2 H2 => wipe σ2 vs = wipe σ vs ∧ tt σ2 H2 fun b H3 =>
    if b = true then te σ2 H3 fun y H4 => ∃ acc, H4 D = some (.lst acc) ∧ acc.length < sizeLine ∧ Nx (upd H4 D (.lst (acc ++ [y]))) else Nx H3)
theorem tLc_k {wi : TI} {g : TG} {tt : TT} {te : TE} {vs : List Nat} {σ : L2.St} {H : Hp} {Q : VK} : tLc wi g tt te vs σ H Q = wi σ H fun J H1 => ∀ D, H1 D = none → LcW J g tt te vs σ H1 D (fun H => Q (.ref D) H) := rfl
end Nk
/-! ### data compared by == -/
namespace Nk
open PySem L2
/-- data of depth at most k, without truths and dicts -/
def gd : Nat → PyData → Bool
  | _, .none => true
  | _, .int _ => true
  | _, .str x => PyData.strOk x
  | _, .bool _ => false
  | _, .dict _ => false
  | 0, .list _ => false
  | 0, .tuple _ => false
  | k + 1, .list xs => xs.all (gd k)
  | k + 1, .tuple xs => xs.all (gd k)
theorem gd_all {k : Nat} : ∀ {xs : List PyData}, xs.all (gd k) = true → ∀ x ∈ xs, gd k x = true := fun h x hx => List.all_eq_true.mp h x hx
theorem canLayAll_of : ∀ {xs : List PyData}, (∀ x ∈ xs, x.canLay0 = true) → PyData.canLayAll0 xs = true
  | [], _ => by simp [PyData.canLayAll0]
  | x :: xs, h => by
    have h1 := h x List.mem_cons_self
    have h2 := canLayAll_of (xs := xs) fun y hy => h y (List.mem_cons_of_mem _ hy)
    simp [PyData.canLayAll0, h1, h2]
theorem depthAll_le {k : Nat} : ∀ {xs : List PyData}, (∀ x ∈ xs, x.depth ≤ k) → PyData.depthAll xs ≤ k
  | [], _ => by simp [PyData.depthAll]
  | x :: xs, h => by
    have h1 := h x List.mem_cons_self
    have h2 := depthAll_le (xs := xs) fun y hy => h y (List.mem_cons_of_mem _ hy)
    simp only [PyData.depthAll]
    omega
theorem gd_lay : ∀ (k : Nat) (d : PyData), gd k d = true → d.canLay0 = true ∧ d.depth ≤ k
  | k, .none, _ => by simp [PyData.canLay0, PyData.depth]
  | k, .int _, _ => by simp [PyData.canLay0, PyData.depth]
  | k, .str x, h => by
    have h' : PyData.strOk x = true := by cases k <;> simpa [gd] using h
    simp [PyData.canLay0, PyData.depth, h']
  | k, .bool _, h => by cases k <;> simp [gd] at h
  | k, .dict _, h => by cases k <;> simp [gd] at h
  | 0, .list _, h => by simp [gd] at h
  | 0, .tuple _, h => by simp [gd] at h
  | k + 1, .list xs, h => by
    have h' : xs.all (gd k) = true := by simpa [gd] using h
    have a := gd_all h'
    simp only [PyData.canLay0, PyData.depth]
    exact ⟨canLayAll_of fun x hx => (gd_lay k x (a x hx)).1, Nat.succ_le_succ (depthAll_le fun x hx => (gd_lay k x (a x hx)).2)⟩
  | k + 1, .tuple xs, h => by
    have h' : xs.all (gd k) = true := by simpa [gd] using h
    have a := gd_all h'
    simp only [PyData.canLay0, PyData.depth]
    exact ⟨canLayAll_of fun x hx => (gd_lay k x (a x hx)).1, Nat.succ_le_succ (depthAll_le fun x hx => (gd_lay k x (a x hx)).2)⟩
theorem gd_shaped {k : Nat} {d : PyData} (h : gd k d = true) (hk : k ≤ 64 := by decide) : SeqAt.shaped d = true := by
  obtain ⟨h1, h2⟩ := gd_lay k d h
  unfold SeqAt.shaped
  rw [h1]
  simp
  omega
theorem eqvAll_iff : ∀ (xs ys : List PyData), (∀ x ∈ xs, ∀ y ∈ ys, PyData.eqv x y = true ↔ x = y) → (PyData.eqvAll xs ys = true ↔ xs = ys)
  | [], [], _ => by simp [PyData.eqvAll]
  | [], _ :: _, _ => by simp [PyData.eqvAll]
  | _ :: _, [], _ => by simp [PyData.eqvAll]
  | x :: xs, y :: ys, h => by
    have h1 := h x List.mem_cons_self y List.mem_cons_self
    have h2 := eqvAll_iff xs ys fun a ha b hb => h a (List.mem_cons_of_mem _ ha) b (List.mem_cons_of_mem _ hb)
    simp [PyData.eqvAll, h1, h2]
theorem eqv_iff : ∀ (k m : Nat) (d e : PyData), gd k d = true → gd m e = true → (PyData.eqv d e = true ↔ d = e)
  | k, m, .bool _, e, h, _ => by cases k <;> simp [gd] at h
  | k, m, .dict _, e, h, _ => by cases k <;> simp [gd] at h
  | k, m, .none, e, _, h => by
    cases e with
    | bool _ => cases m <;> simp [gd] at h
    | dict _ => cases m <;> simp [gd] at h
    | _ => simp [PyData.eqv]
  | k, m, .int i, e, _, h => by
    cases e with
    | bool _ => cases m <;> simp [gd] at h
    | dict _ => cases m <;> simp [gd] at h
    | _ => simp [PyData.eqv]
  | k, m, .str i, e, _, h => by
    cases e with
    | bool _ => cases m <;> simp [gd] at h
    | dict _ => cases m <;> simp [gd] at h
    | _ => simp [PyData.eqv]
  | 0, m, .list _, e, h, _ => by simp [gd] at h
  | 0, m, .tuple _, e, h, _ => by simp [gd] at h
  | k + 1, m, .list xs, e, hd, h => by
    cases e with
    | bool _ => cases m <;> simp [gd] at h
    | dict _ => cases m <;> simp [gd] at h
    | list ys =>
      cases m with
      | zero => simp [gd] at h
      | succ m =>
        have a := gd_all (k := k) (xs := xs) (by simpa [gd] using hd)
        have b := gd_all (k := m) (xs := ys) (by simpa [gd] using h)
        simp only [PyData.eqv, PyData.list.injEq]
        exact eqvAll_iff xs ys fun x hx y hy => eqv_iff k m x y (a x hx) (b y hy)
    | _ => simp [PyData.eqv]
  | k + 1, m, .tuple xs, e, hd, h => by
    cases e with
    | bool _ => cases m <;> simp [gd] at h
    | dict _ => cases m <;> simp [gd] at h
    | tuple ys =>
      cases m with
      | zero => simp [gd] at h
      | succ m =>
        have a := gd_all (k := k) (xs := xs) (by simpa [gd] using hd)
        have b := gd_all (k := m) (xs := ys) (by simpa [gd] using h)
        simp only [PyData.eqv, PyData.tuple.injEq]
        exact eqvAll_iff xs ys fun x hx y hy => eqv_iff k m x y (a x hx) (b y hy)
    | _ => simp [PyData.eqv]
theorem eqv_of_eq {k : Nat} {d e : PyData} (h : gd k d = true) (e1 : d = e) : PyData.eqv d e = true := by
  subst e1
  exact (eqv_iff k k d d h h).mpr rfl
theorem eqv_of_ne {k m : Nat} {d e : PyData} (h : gd k d = true) (h' : gd m e = true) (e1 : d ≠ e) : PyData.eqv d e = false := by
  cases q : PyData.eqv d e with
  | false => rfl
  | true => exact absurd ((eqv_iff k m d e h h').mp q) e1
/-- the data of lists of ints, of tuples of ints -/
abbrev dLI (ns : List Int) : PyData := .list (ns.map .int)
abbrev dTI (ns : List Int) : PyData := .tuple (ns.map .int)
theorem gd_int_all (k : Nat) (ns : List Int) : (ns.map PyData.int).all (gd k) = true := by
  rw [List.all_eq_true]
  intro x hx
  obtain ⟨i, _, rfl⟩ := List.mem_map.mp hx
  cases k <;> rfl
theorem gd_dLI {k : Nat} (ns : List Int) : gd (k + 1) (dLI ns) = true := by simp only [dLI, gd]; exact gd_int_all k ns
theorem gd_dTI {k : Nat} (ns : List Int) : gd (k + 1) (dTI ns) = true := by simp only [dTI, gd]; exact gd_int_all k ns
theorem dpAll_ints {K : PySem.W.Frag} {H : Hp} : ∀ ns : List Int, DpAll K H (ns.map V.int) (ns.map PyData.int)
  | [] => .nil
  | n :: ns => .cons (.int n) (dpAll_ints ns)
theorem dp_LI {K : PySem.W.Frag} {H : Hp} {a : Addr} {ns : List Int} (h : SqL K H a (ns.map V.int)) : Dp K H (.ref a) (dLI ns) := .lst h (dpAll_ints ns)
theorem dp_TI {K : PySem.W.Frag} {H : Hp} {a : Addr} {ns : List Int} (h : SqT K H a (ns.map V.int)) : Dp K H (.ref a) (dTI ns) := .tup h (dpAll_ints ns)
theorem dLI_inj {ns ms : List Int} : dLI ns = dLI ms ↔ ns = ms := by
  constructor
  · intro h
    have h' : ns.map PyData.int = ms.map PyData.int := PyData.list.inj h
    exact (List.map_inj_right (fun _ _ q => PyData.int.inj q)).mp h'
  · intro h; rw [h]
theorem dTI_inj {ns ms : List Int} : dTI ns = dTI ms ↔ ns = ms := by
  constructor
  · intro h
    have h' : ns.map PyData.int = ms.map PyData.int := PyData.tuple.inj h
    exact (List.map_inj_right (fun _ _ q => PyData.int.inj q)).mp h'
  · intro h; rw [h]
/-- == of two data -/
theorem eqD {K : PySem.W.Frag} {H : Hp} {x y : V} {d e : PyData} {Q : VK} {k m : Nat} (hd : Dp K H x d) (he : Dp K H y e) (gk : gd k d = true) (gm : gd m e = true) (h1 : d = e → Q (.bl true) H) (h2 : d ≠ e → Q (.bl false) H) (hk : k ≤ 64 := by decide) (hm : m ≤ 64 := by decide) : rEqD K x y H Q := by
  refine ⟨d, e, hd, he, gd_shaped gk hk, gd_shaped gm hm, ?_⟩
  by_cases c : d = e
  · rw [eqv_of_eq gk c]; exact h1 c
  · rw [eqv_of_ne gk gm c]; exact h2 c
theorem neD {K : PySem.W.Frag} {H : Hp} {x y : V} {d e : PyData} {Q : VK} {k m : Nat} (hd : Dp K H x d) (he : Dp K H y e) (gk : gd k d = true) (gm : gd m e = true) (h1 : d = e → Q (.bl false) H) (h2 : d ≠ e → Q (.bl true) H) (hk : k ≤ 64 := by decide) (hm : m ≤ 64 := by decide) : rNeD K x y H Q := by
  refine ⟨d, e, hd, he, gd_shaped gk hk, gd_shaped gm hm, ?_⟩
  by_cases c : d = e
  · rw [eqv_of_eq gk c]; exact h1 c
  · rw [eqv_of_ne gk gm c]; exact h2 c
theorem newF {H H' : Hp} {p : Addr} {o : HO} (hp : H p = none) (e : upd H p o = H') : Same H H' ∧ H' p = some o := by
  subst e
  exact ⟨same_upd hp, upd_same⟩
/-- an item of a list, by its place -/
theorem ixL {K : PySem.W.Frag} {H : Hp} {p : Addr} {xs : List V} {i : Int} {j : Nat} {v : V} {Q : VK} (h : SqL K H p xs) (hi : i = (j : Int)) (e : xs[j]? = some v) (q : Q v H) : rIxL K (.ref p) (.int i) H Q :=
  ⟨p, xs, i, v, rfl, rfl, h, by rw [hi]; exact atI_nat e, q⟩
theorem ixT {K : PySem.W.Frag} {H : Hp} {p : Addr} {xs : List V} {i : Int} {j : Nat} {v : V} {Q : VK} (h : SqT K H p xs) (hi : i = (j : Int)) (e : xs[j]? = some v) (q : Q v H) : rIxT K (.ref p) (.int i) H Q :=
  ⟨p, xs, i, v, rfl, rfl, h, by rw [hi]; exact atI_nat e, q⟩
theorem setL {H : Hp} {p : Addr} {xs : List V} {i : Int} {j : Nat} {v : V} {Q : Hp → Prop} (h : H p = some (.lst xs)) (hi : i = (j : Int)) (e : j < xs.length) (q : Q (upd H p (.lst (xs.set j v)))) : rSetL (.ref p) (.int i) v H Q :=
  ⟨p, xs, i, j, rfl, rfl, h, by rw [hi]; unfold ixN; rw [if_pos (by omega), if_pos (by omega)]; simp, q⟩
theorem tyL {K : PySem.W.Frag} {H : Hp} {l : Addr} {xs : List V} (h : H l = some (.lst xs)) : tyV K "list" (.ref l) H := .inl ⟨rfl, _, SqL.of h⟩
theorem appR {H : Hp} {l : Addr} {xs : List V} {y : V} {Q : VK} (h : H l = some (.lst xs)) (hz : xs.length ≤ 99999) (q : Q .non (upd H l (.lst (xs ++ [y])))) : rAppend (.ref l) [y] H Q :=
  ⟨l, xs, y, rfl, rfl, h, szl (by omega), q⟩
theorem app {K : PySem.W.Frag} {H : Hp} {l : Addr} {xs : List V} {y : V} {Q : VK} (h : H l = some (.lst xs)) (hz : xs.length ≤ 99999) (q : Q .non (upd H l (.lst (xs ++ [y])))) : tyV K "list" (.ref l) H ∧ rAppend (.ref l) [y] H Q :=
  ⟨tyL h, l, xs, y, rfl, rfl, h, szl (by omega), q⟩
theorem Same.app {H H' : Hp} {p : Addr} {o : HO} (s : Same H H') (n : H p = none) : Same H (upd H' p o) := fun b x e => by
  rw [upd_ne (ne_of_none e n)]
  exact s b x e
theorem inV_ints (n : Int) (l : List Int) : inV (.int n) (l.map V.int) = decide (n ∈ l) := by
  unfold inV
  rw [List.any_map, Bool.eq_iff_iff, List.any_eq_true, decide_eq_true_eq]
  constructor
  · rintro ⟨x, hx, e⟩
    have : x = n := by simpa [eqV] using e
    rw [← this]; exact hx
  · intro h
    exact ⟨n, h, by simp [eqV]⟩
theorem flat_ints (l : List Int) : (l.map V.int).all flatV = true := by
  rw [List.all_eq_true]
  intro x hx
  obtain ⟨i, _, rfl⟩ := List.mem_map.mp hx
  rfl
end Nk
/-! ### d.keys() as a value; sorted of it -/
namespace Nk
open PySem L2 PySem.Spec PyProof.Rows
def KeysO (v d : Addr) : HO := .ext fun h => PySem.W.KdlKeysView h v d
theorem keysO_ok {P : Program} {w : World} {H : Hp} {h : Heap} {v d : Addr} (e : PySem.W.KdlKeysView h v d) : ObjOk P w H h v (KeysO v d) := by
  obtain ⟨o, ho, hc, hd⟩ := e
  exact ⟨⟨o, ho, hc, hd⟩, ⟨o, ho⟩, fun h1 h2 ⟨o', q, r⟩ k => ⟨o', k o' q, r⟩⟩
def rKeys : V → List V → Hp → VK → Prop := fun x xs H Q => ∃ (d : Addr) (kvs : List (Key × V)), x = .ref d ∧ xs = [] ∧ H d = some (.dK kvs) ∧ ∀ v, H v = none → Q (.ref v) (upd H v (KeysO v d))
section
variable {X : Cx}
theorem mt_keys : MtR X "dict.keys" rKeys := by
  intro pins s σ H x xs v us Q I rx rxs h
  obtain ⟨d, kvs, rfl, rfl, hd, q⟩ := h
  cases rx
  cases rxs
  obtain ⟨hz, hs0, vs, kv, hdo⟩ := I.hok d _ hd
  refine PySem.call_meetsIn F.slot_dict_keys hdo.typeIs F.entry_dict_keys (F.args_dict_keys_1 _) (PySem.W.kdl_meets_keys (mixKind X.prog X.w) d hs0) ⟨⟨vs, hdo⟩, ?_⟩
  refine ⟨.ref s.heap.objs.size, upd H s.heap.objs.size (KeysO s.heap.objs.size d), I.laid (t' := s.toks) (fun b ob q => Heap.get?_push_of_some _ q) (Nat.le_refl _) (keysO_ok ⟨_, Heap.get?_push_size _ rfl, rfl, rfl⟩), rfl, q _ (I.hok.fresh (Nat.le_refl _))⟩
/-- sorted(d.keys()), whole numbers, any number of them -/
def rSortedKI : List V → Hp → VK → Prop := fun xs H Q => ∃ (v d : Addr) (kvs : List (Key × V)) (ks : List Int), xs = [.ref v] ∧ H v = some (KeysO v d) ∧ H d = some (.dK kvs) ∧ kvs.map (·.1) = ks.map Sum.inl ∧
  ∀ (ys : List Int) (p : Addr), ys.Perm ks → ys.Pairwise (· ≤ ·) → H p = none → Q (.ref p) (upd H p (.lst (ys.map V.int)))
theorem cr_sortedKI (hcalm : X.calm = true) : CallR X (.builtin "sorted") rSortedKI := by
  intro pins s σ H xs us Q I r q
  obtain ⟨v, a, kvs, ks, ex, hv, hd, hks, q⟩ := q
  subst ex
  obtain ⟨u, eu, rx⟩ := vals1 r
  subst eu
  cases rx
  have hview : PySem.W.KdlKeysView s.heap v a := (I.hok v _ hv).1
  obtain ⟨z, lo, vs, rel, dd⟩ := I.hok a _ hd
  obtain ⟨ep, hat⟩ := dd.dictAt
  have hkeys : vs.map (·.1) = ks.map Sum.inl := rel.keys.symm.trans hks
  have hl : vs.length = ks.length := by
    have e := congrArg List.length hkeys
    rw [List.length_map, List.length_map] at e
    exact e
  have hl2 : kvs.length = vs.length := Paired.length rel
  have h16 : vs.length ≤ sizeLine := by omega
  refine Calls.call_function_entry PyProof.Rows.kind_sorted PyProof.Rows.plain_sorted PyProof.Rows.entry_sorted (PyProof.Rows.args_sorted1 _) ?_
  unfold Builtin.«sorted»
  refine wpAny_bind (m := checkCount "sorted" 1 1 _) (wpAny_pure ?_)
  refine wpAny_bind (PySem.W.kdu_collect (A := X.A.in1) (PySem.W.kdl_keys (knd := mixKind X.prog X.w) (r := v) (d := a) (kvs := vs) (ep := ep)) (I.ok.hd hcalm) ⟨hview, hat⟩ h16 fun h' tk acc hk hacc => ?_)
  have hal : acc.toList.length = ks.length := by rw [Array.length_toList, hacc.1, hl]
  have hS : IntsAre acc.toList ks := ints_each hal fun j v e => by
    obtain ⟨k, x, e1, e2⟩ := hacc.2 j v (by rw [← Array.getElem?_toList]; exact e)
    have e3 : (vs.map (·.1))[j]? = some k := by rw [List.getElem?_map, e1]; rfl
    rw [hkeys, List.getElem?_map] at e3
    cases e4 : ks[j]? with
    | none => rw [e4] at e3; cases e3
    | some y =>
      rw [e4] at e3
      have e5 : Sum.inl y = k := Option.some.inj e3
      subst e5
      rcases keyIs_shape (show keyIs (Sum.inl y) v = true from e2) with ⟨i, t, ek, ev⟩ | ⟨z, t, ek, ev⟩
      · cases ek
        exact ⟨y, t, rfl, ev⟩
      · cases ek
  have I1 : Inv X pins σ H { s with heap := h', toks := tk } := I.kept hk
  refine wpAny_bind (wpAny_newList ?_ (by rw [hal]; omega))
  have hoL : (h'.push (seqObj "list" acc.toList.toArray 0)).get? h'.objs.size = some (seqObj "list" acc.toList.toArray 0) := Heap.get?_push_size _ rfl
  show wpAny _ _ _ _ _ { s with heap := h'.push (seqObj "list" acc.toList.toArray 0), toks := tk }
  refine wpAny_bind (wpAny_holding (wpAny_call_entry PyProof.Rows.slot_list_sort ⟨_, hoL, rfl⟩ PyProof.Rows.entry_list_sort
    (SrtO.list_sort_ord (s := { s with heap := h'.push (seqObj "list" acc.toList.toArray 0), toks := tk }) SrtO.swo_int hoL (by rw [hal]; omega) (fun h2 => SrtO.ints_sortable hS h2) fun out g1 g2 => ⟨_, rfl, ?_⟩) (PyProof.Rows.args_list_sort _)))
  obtain ⟨k1, k2, k3⟩ := SrtO.ints_out hS g1 g2
  obtain ⟨e', he'⟩ := PyProof.Rows.sortedHeap_at (vs := acc.toList) (out := out.toArray) hoL
  have hlen : ((out.map SrtO.iv).map V.int).length ≤ sizeLine := by
    rw [List.length_map, k2.length_eq]
    omega
  refine wpAny_pure ⟨_, rfl, .ref h'.objs.size, upd H h'.objs.size (.lst ((out.map SrtO.iv).map V.int)), I1.laid (t' := tk) (fun b u e => ?_) (Nat.le_refl _)
    (show ObjOk X.prog X.w _ _ _ (.lst ((out.map SrtO.iv).map V.int)) from ⟨hlen, out, e', vals_of_ints k1, he'⟩), rfl, q _ _ k2 k3 (I1.hok.fresh (Nat.le_refl _))⟩
  have hb : b < h'.objs.size := Heap.lt_size e
  rw [PyProof.Rows.sortedHeap_old (Nat.ne_of_lt hb) (by rw [size_push']; exact Nat.lt_succ_of_lt hb)]
  exact Heap.get?_push_of_some _ e
end
end Nk
/-! ### the layer's rules with the written part named (for comprehensions, where the reading may not lean on the block) -/
namespace Nk
open PySem L2
section
variable {X : Cx} {K : PySem.W.Frag}
theorem op_inK (K : PySem.W.Frag) (h : X.K = K) : OpR X (compareOp .In) (rIn K false) := h ▸ op_in_seq
theorem op_notInK (K : PySem.W.Frag) (h : X.K = K) : OpR X (compareOp .NotIn) (rIn K true) := h ▸ op_notIn_seq
theorem ix_listK (K : PySem.W.Frag) (h : X.K = K) : IxR X (rIxL K) := h ▸ ix_list
theorem ix_tupK (K : PySem.W.Frag) (h : X.K = K) : IxR X (rIxT K) := h ▸ ix_tup
theorem sl_listK (K : PySem.W.Frag) (h : X.K = K) : SlR X (rSlL K) := h ▸ sl_list
theorem sl_tupK (K : PySem.W.Frag) (h : X.K = K) : SlR X (rSlT K) := h ▸ sl_tup
def rLenQ (K : PySem.W.Frag) : List V → Hp → VK → Prop := fun xs H Q => ∃ p ys, xs = [V.ref p] ∧ (SqL K H p ys ∨ SqT K H p ys) ∧ Q (.int ys.length) H
theorem call_lenK (K : PySem.W.Frag) (h : X.K = K) : CallR X (.builtin "len") (rLenQ K) := h ▸ call_len_seq
def rListQ (K : PySem.W.Frag) : List V → Hp → VK → Prop := fun xs H Q => ∃ p ys, xs = [V.ref p] ∧ (SqL K H p ys ∨ SqT K H p ys) ∧ ∀ l, H l = none → Q (.ref l) (upd H l (.lst ys))
theorem call_listK (K : PySem.W.Frag) (h : X.K = K) : CallR X (.type "list") (rListQ K) := h ▸ call_list_of
def rTupleQ (K : PySem.W.Frag) : List V → Hp → VK → Prop := fun xs H Q => ∃ p ys, xs = [V.ref p] ∧ ((SqL K H p ys ∧ ∀ l, H l = none → Q (.ref l) (upd H l (.tup ys))) ∨ (SqT K H p ys ∧ Q (.ref p) H))
theorem call_tupleK (K : PySem.W.Frag) (h : X.K = K) : CallR X (.type "tuple") (rTupleQ K) := h ▸ call_tuple_of
theorem cr_sumK (K : PySem.W.Frag) (h : X.K = K) (hc : X.calm = true) : CallR X (.builtin "sum") (rSum K) := h ▸ cr_sum hc
theorem cr_sumTK (K : PySem.W.Frag) (h : X.K = K) (hc : X.calm = true) : CallR X (.builtin "sum") (rSumT K) := h ▸ cr_sumT hc
theorem cr_allK (K : PySem.W.Frag) (h : X.K = K) (hc : X.calm = true) : CallR X (.builtin "all") (rAll K) := h ▸ cr_all hc
theorem cr_anyK (K : PySem.W.Frag) (h : X.K = K) (hc : X.calm = true) : CallR X (.builtin "any") (rAny K) := h ▸ cr_any hc
theorem cr_maxK (K : PySem.W.Frag) (h : X.K = K) (hc : X.calm = true) : CallR X (.builtin "max") (rMax K) := h ▸ cr_max hc
theorem cr_minK (K : PySem.W.Frag) (h : X.K = K) (hc : X.calm = true) : CallR X (.builtin "min") (rMin K) := h ▸ cr_min hc
theorem op_eqDK (K : PySem.W.Frag) (h : X.K = K) (hu : X.A.units + 64 < cLine) : OpR X (compareOp .Eq) (rEqD K) := h ▸ op_eqD hu
theorem op_neDK (K : PySem.W.Frag) (h : X.K = K) (hu : X.A.units + 64 < cLine) : OpR X (compareOp .NotEq) (rNeD K) := h ▸ op_neD hu
theorem op_catTK (K : PySem.W.Frag) (h : X.K = K) : OpR X (binaryOp .Add) (rCatT K) := h ▸ op_catT
theorem call_isiK_ (K : PySem.W.Frag) (h : X.K = K) : CallR X (.builtin "isinstance") (rIsi K) := h ▸ call_isi
theorem pi_listK {tg l : Expr} {tl : TE} (K : PySem.W.Frag) (h : X.K = K) (hl : PE X l tl) : PI X tg l (iList K tl) := h ▸ pi_list hl
theorem pi_tupK {tg l : Expr} {tl : TE} (K : PySem.W.Frag) (h : X.K = K) (hl : PE X l tl) : PI X tg l (iTup K tl) := h ▸ pi_tup hl
theorem pg_tupK {es : List Expr} {k : Nat} {t : TGs} {n : Nat} {pos : Pos} (K : PySem.W.Frag) (hK : X.K = K) (hc : X.calm = true) (h : PGs X es t)
    (hn : (assignEach es X.env).length = n := by rfl) (hst : (assignEach es X.env).findIdx? (·.1) = none := by rfl) : PG X (.Tuple es k pos) (gTup K n t) := hK ▸ pg_tup hc h hn hst
theorem pi_enumK {e : Expr} {ta : TA} {p pos tpos : Pos} {elts : List Expr} {kk : Nat} (K : PySem.W.Frag) (h : X.K = K) (hg : Gl X "enumerate") (hm : X.mg "enumerate" = none) (ha : PA X [e] ta) (hs : starEach [e] X.env = [(false, eval e X.env)] := by rfl) :
    PI X (.Tuple elts kk tpos) (.Call (.Name "enumerate" p) [e] [] pos) (iEnum K ta) := h ▸ pi_enum hg hm ha hs
theorem pi_zipK {e e2 : Expr} {ta : TA} {p pos tpos : Pos} {elts : List Expr} {kk : Nat} (K : PySem.W.Frag) (h : X.K = K) (hg : Gl X "zip") (hm : X.mg "zip" = none) (ha : PA X [e, e2] ta)
    (hs : starEach [e, e2] X.env = (false, eval e X.env) :: starEach [e2] X.env := by rfl) (hpl : (backTo pos (starEach [e2] X.env)).any (·.1) = false := by rfl) :
    PI X (.Tuple elts kk tpos) (.Call (.Name "zip" p) [e, e2] [] pos) (iZip K ta) := h ▸ pi_zip hg hm ha hs hpl
end
end Nk
/-! ### more rules: tuples put together (the left one may be empty), ranges, == of lists with [] -/
namespace Nk
open PySem L2 PySem.Spec PyProof.Rows
section
variable {X : Cx}
def rCatT3 : R2 := fun x y H Q => ∃ a b xs ys, x = .ref a ∧ y = .ref b ∧ H a = some (.tup xs) ∧ H b = some (.tup ys) ∧ xs.length + ys.length ≤ 100000 ∧ ∀ p H', Same H H' → H' p = some (.tup (xs ++ ys)) → Q (.ref p) H'
theorem op_catT3 : OpR X (binaryOp .Add) rCatT3 := by
  intro pins s σ H x y v u Q I rx ry h
  obtain ⟨a, b, xs, ys, rfl, rfl, ha, hb, hz, q⟩ := h
  by_cases hx : xs = []
  · subst hx
    cases rx
    cases ry
    obtain ⟨its, r1, p1, _⟩ := I.tuple (sqT (K := X.K) ha)
    obtain ⟨its2, r2, p2, _⟩ := I.tuple (sqT (K := X.K) hb)
    cases r1
    obtain ⟨⟨cls, dd, data, sl⟩, ho, hc, n, hd⟩ := id p1
    obtain ⟨⟨cls2, dd2, data2, sl2⟩, ho2, hc2, n2, hd2⟩ := id p2
    simp only at hc hd hc2 hd2
    subst hc hd hc2 hd2
    exact concat_meets ⟨_, ho, rfl⟩ ⟨_, ho2, rfl⟩ noFill_tuple_add seq_tuple_add PySem.F.slot_tuple_add PySem.F.entry_tuple_add (PySem.F.args_tuple_add_2 _ _)
      (tuple_addW0 a b #[] its2.toArray n n2 dd dd2 sl sl2 (by rfl)) ⟨ho, ho2, ⟨.ref b, H, I, rfl, q b H (Same.refl _) hb⟩⟩
  · refine op_catT pins s σ H (.ref a) (.ref b) v u Q I rx ry ⟨a, b, xs, ys, rfl, rfl, sqT ha, sqT hb, hx, sz hz, fun e => ?_, fun _ p hp => q p _ (same_upd hp) upd_same⟩
    subst e
    exact q a H (Same.refl _) (by rw [List.append_nil]; exact ha)
def rInR (neg : Bool) : R2 := fun x y H Q => ∃ i a lo hi, x = V.int i ∧ y = V.ref a ∧ H a = some (.rng lo hi) ∧ Q (.bl (if neg then !decide (lo ≤ i ∧ i < hi) else decide (lo ≤ i ∧ i < hi))) H
theorem op_inR : OpR X (compareOp .In) (rInR false) := op_in_rng
theorem op_notInR : OpR X (compareOp .NotIn) (rInR true) := by
  intro pins s σ H x y v u Q I rx ry h
  obtain ⟨i, a, lo, hi, rfl, rfl, ha, q⟩ := h
  obtain ⟨k, rfl⟩ := rx
  obtain rfl : u = Value.ref a := ry
  obtain ⟨t1, t2, t3, ho⟩ := I.hok a _ ha
  show wpAny _ _ (do return Value.bool (!(← contains (Value.ref a) (Value.int i k)))) _ _ s
  refine wpAny_bind (wpAny_contains_slot (T := "range") ⟨_, ho, rfl⟩ F.slot_range_contains (call_meets F.slot_range_contains ⟨_, ho, rfl⟩ F.entry_range_contains (F.args_range_contains_2 _ _) (q_contains a lo hi i t1 t2 t3 k)
    ⟨ho, wpAny_truthy_bool (wpAny_pure ⟨.bl _, H, I, rfl, ?_⟩)⟩))
  rw [place1]
  exact q
def rRange : List V → Hp → VK → Prop := fun vs H Q => ∃ i j, vs = [V.int i, V.int j] ∧ ∀ p, H p = none → Q (.ref p) (upd H p (.rng i j))
theorem cr_rangeV : CallR X (.type "range") rRange := cr_range2
end
/-- data, bools among them -/
def gb : Nat → PyData → Bool
  | _, .none => true
  | _, .int _ => true
  | _, .str x => PyData.strOk x
  | _, .bool _ => true
  | k + 1, .list xs => xs.all (gb k)
  | k + 1, .tuple xs => xs.all (gb k)
  | _, _ => false
theorem gb_lay : ∀ (k : Nat) (d : PyData), gb k d = true → d.canLay0 = true ∧ d.depth ≤ k
  | k, .none, _ => by simp [PyData.canLay0, PyData.depth]
  | k, .bool _, _ => by simp [PyData.canLay0, PyData.depth]
  | k, .int _, _ => by simp [PyData.canLay0, PyData.depth]
  | k, .str x, h => by
    have h' : PyData.strOk x = true := by simpa [gb] using h
    simp [PyData.canLay0, PyData.depth, h']
  | k, .dict _, h => by cases k <;> simp [gb] at h
  | 0, .list _, h => by simp [gb] at h
  | 0, .tuple _, h => by simp [gb] at h
  | k + 1, .list xs, h => by
    have a : ∀ x ∈ xs, gb k x = true := by simpa [gb] using h
    simp only [PyData.canLay0, PyData.depth]
    exact ⟨canLayAll_of fun x hx => (gb_lay k x (a x hx)).1, Nat.succ_le_succ (depthAll_le fun x hx => (gb_lay k x (a x hx)).2)⟩
  | k + 1, .tuple xs, h => by
    have a : ∀ x ∈ xs, gb k x = true := by simpa [gb] using h
    simp only [PyData.canLay0, PyData.depth]
    exact ⟨canLayAll_of fun x hx => (gb_lay k x (a x hx)).1, Nat.succ_le_succ (depthAll_le fun x hx => (gb_lay k x (a x hx)).2)⟩
theorem gb_shaped {k : Nat} {d : PyData} (h : gb k d = true) (hk : k ≤ 64 := by decide) : SeqAt.shaped d = true := by
  obtain ⟨h1, h2⟩ := gb_lay k d h
  unfold SeqAt.shaped
  rw [h1]
  simp
  omega
/-- a thing that may stand within another: it can be laid down as data -/
def Dat (K : PySem.W.Frag) (H : Hp) (k : Nat) (x : V) : Prop := ∃ d, Dp K H x d ∧ gb k d = true
mutual
theorem Dp.same {K : PySem.W.Frag} {H H' : Hp} (s : Same H H') : ∀ {x : V} {d : PyData}, Dp K H x d → Dp K H' x d
  | _, _, .non => .non
  | _, _, .bl b => .bl b
  | _, _, .int i => .int i
  | _, _, .str x => .str x
  | _, _, .lst h a => .lst (s.seq h) (DpAll.same s a)
  | _, _, .tup h a => .tup (Same.tup s h) (DpAll.same s a)
theorem DpAll.same {K : PySem.W.Frag} {H H' : Hp} (s : Same H H') : ∀ {xs : List V} {ds : List PyData}, DpAll K H xs ds → DpAll K H' xs ds
  | _, _, .nil => .nil
  | _, _, .cons h a => .cons (Dp.same s h) (DpAll.same s a)
end
theorem Dat.same {K : PySem.W.Frag} {H H' : Hp} {k : Nat} {x : V} (s : Same H H') (h : Dat K H k x) : Dat K H' k x := by
  obtain ⟨d, h1, h2⟩ := h
  exact ⟨d, Dp.same s h1, h2⟩
theorem dat_all {K : PySem.W.Frag} {H : Hp} {k : Nat} : ∀ {xs : List V}, (∀ x ∈ xs, Dat K H k x) → ∃ ds, DpAll K H xs ds ∧ ds.all (gb k) = true ∧ ds.length = xs.length
  | [], _ => ⟨[], .nil, rfl, rfl⟩
  | x :: xs, h => by
    obtain ⟨d, h1, h2⟩ := h x List.mem_cons_self
    obtain ⟨ds, a, b, c⟩ := dat_all (xs := xs) fun y hy => h y (List.mem_cons_of_mem _ hy)
    exact ⟨d :: ds, .cons h1 a, by rw [List.all_cons, h2, b]; rfl, by simp [c]⟩
theorem eqv_nil {ds : List PyData} (h : ds ≠ []) : PyData.eqv (.list ds) (.list []) = false := by
  cases ds with
  | nil => exact absurd rfl h
  | cons d ds => simp [PyData.eqv, PyData.eqvAll]
/-- l == [], whatever stands in l -/
theorem eqE {K : PySem.W.Frag} {H : Hp} {a b : Addr} {xs : List V} {k : Nat} {Q : VK} (ha : SqL K H a xs) (hx : ∀ x ∈ xs, Dat K H k x) (hb : SqL K H b []) (h1 : xs = [] → Q (.bl true) H) (h2 : xs ≠ [] → Q (.bl false) H) (hk : k + 1 ≤ 64 := by decide) : rEqD K (.ref a) (.ref b) H Q := by
  obtain ⟨ds, d1, d2, d3⟩ := dat_all hx
  refine ⟨.list ds, .list [], .lst ha d1, .lst hb .nil, gb_shaped (k := k + 1) (by simpa [gb] using d2) hk, by decide, ?_⟩
  by_cases c : xs = []
  · have : ds = [] := List.length_eq_zero_iff.mp (by rw [d3, c]; rfl)
    subst this
    exact h1 c
  · rw [eqv_nil (fun e => c (List.length_eq_zero_iff.mp (by rw [← d3, e]; rfl)))]
    exact h2 c
theorem neE {K : PySem.W.Frag} {H : Hp} {a b : Addr} {xs : List V} {k : Nat} {Q : VK} (ha : SqL K H a xs) (hx : ∀ x ∈ xs, Dat K H k x) (hb : SqL K H b []) (h1 : xs = [] → Q (.bl false) H) (h2 : xs ≠ [] → Q (.bl true) H) (hk : k + 1 ≤ 64 := by decide) : rNeD K (.ref a) (.ref b) H Q := by
  obtain ⟨ds, d1, d2, d3⟩ := dat_all hx
  refine ⟨.list ds, .list [], .lst ha d1, .lst hb .nil, gb_shaped (k := k + 1) (by simpa [gb] using d2) hk, by decide, ?_⟩
  by_cases c : xs = []
  · have : ds = [] := List.length_eq_zero_iff.mp (by rw [d3, c]; rfl)
    subst this
    exact h1 c
  · rw [eqv_nil (fun e => c (List.length_eq_zero_iff.mp (by rw [← d3, e]; rfl)))]
    exact h2 c
end Nk
/-! ### comprehensions that filter ints -/
namespace Nk
open PySem L2
theorem lcF {K : PySem.W.Frag} {a : Addr} {ns : List Int} {j : Nat} {tt : TT} {vs : List Nat} {σ : L2.St} {H1 : Hp} {D : Addr} {Qd : Hp → Prop} (f : Int → Bool) (hD : H1 D = none) (hT : SqL K H1 a (ns.map V.int)) (hn : ns.length ≤ 99999)
    (hj : ∀ v : V, ((wipe σ vs).set j (some v))[j]? = some (some v)) (hw : ∀ v : V, wipe ((wipe σ vs).set j (some v)) vs = wipe σ vs)
    (ht : ∀ n H, n ∈ ns → Same H1 H → ∀ Q : Bool → Hp → Prop, (∀ H', Same H H' → Q (f n) H') → tt ((wipe σ vs).set j (some (.int n))) H Q)
    (hd : ∀ H, Same H1 H → H D = some (.lst ((ns.filter f).map V.int)) → Qd H) : LcW (Itl K a) (gName j) tt (tVar j) vs σ H1 D Qd := by
  refine lcL hD hT (fun i => ((ns.take i).filter f).map V.int) (by simp) (fun i x H hx p => ?_) (fun H s hH => hd H s (by simpa using hH))
  rw [List.getElem?_map] at hx
  cases e : ns[i]? with
  | none => rw [e] at hx; cases hx
  | some n =>
  rw [e] at hx
  cases hx
  refine ⟨hw _, ht n H (mem_of_get e) p.same _ fun H' s => ?_⟩
  have hf := filter_take_next f e
  cases c : f n with
  | true =>
    rw [if_pos rfl]
    refine ⟨_, hj _, p.push hD (by rw [List.length_map]; exact Nat.le_trans (filter_len ns f i) hn) s ?_⟩
    show _ = _
    rw [hf, c]
    simp
  | false =>
    rw [if_neg Bool.false_ne_true]
    refine p.skip s ?_
    show _ = _
    rw [hf, c]
    simp
theorem cut_from (xs : List V) (j : Nat) : cutV xs (some (j : Int)) none = xs.drop j := by
  unfold cutV
  rw [HT.sIx_none, HT.sIx_nat]
  by_cases h : j ≤ xs.length
  · rw [Nat.min_eq_left h, List.take_of_length_le (by simp)]
  · rw [Nat.min_eq_right (by omega), List.drop_of_length_le (Nat.le_refl _), List.drop_of_length_le (by omega)]
    simp
theorem cut_to (xs : List V) (j : Nat) : cutV xs none (some (j : Int)) = xs.take j := by
  unfold cutV
  rw [HT.sIx_none, HT.sIx_nat, List.drop_zero, Nat.sub_zero]
  by_cases h : j ≤ xs.length
  · rw [Nat.min_eq_left h]
  · rw [Nat.min_eq_right (by omega), List.take_of_length_le (Nat.le_refl _), List.take_of_length_le (by omega)]
end Nk
/-! ### a caught error that is kept behind its clause -/
namespace Nk
open PySem L2 PySem.Spec PyProof.Rows
/-- an error of the class cl with the own dict d, that was caught -/
def ExV (cl : Value) (d : Option Addr) (a : Addr) : HO := .ext fun h => ∃ oe, h.get? a = some oe ∧ Zc cl d oe ∧ ∃ vs, oe.data = .fields vs
theorem exV_ok {P : Program} {w : World} {H : Hp} {h : Heap} {a : Addr} {cl : Value} {d : Option Addr} {oe : Obj} (e : h.get? a = some oe) (z : Zc cl d oe) (f : ∃ vs, oe.data = .fields vs) : ObjOk P w H h a (ExV cl d a) :=
  ⟨⟨oe, e, z, f⟩, ⟨oe, e⟩, fun _ _ ⟨o, q, r⟩ k => ⟨o, k o q, r⟩⟩
section
variable {X : Cx} {pins : List (Addr × Obj)} {σ : L2.St} {H : Hp} {s : Shared} {a : Addr} {o : HO} {oe : Obj}
/-- an object that was made since the entry is tracked from now on -/
theorem inv_track (I : Inv X pins σ H s) (ha : s.heap.get? a = some oe) (hf : ∃ vs, oe.data = .fields vs) (na : H a = none) (n0 : X.s_0.heap.get? a = none) (nL : a ≠ X.env.locals) (np : ∀ p ∈ X.pn ++ pins, p.1 ≠ a)
    (new : ObjOk X.prog X.w (upd H a o) s.heap a o) : Inv X pins σ (upd H a o) s := by
  have off : ∀ {b : Addr} {u : HO}, H b = some u → (upd H a o) b = some u := fun {b u} e => by rw [upd_ne (ne_of_none e na)]; exact e
  have offN : ∀ {b : Addr}, H b = none → b ≠ a → (upd H a o) b = none := fun {b} e n => by rw [upd_ne n]; exact e
  have old : ∀ {b : Addr} {u : Obj}, X.s_0.heap.get? b = some u → b ≠ a := fun {b u} e z => by rw [z, n0] at e; cases e
  obtain ⟨vs, hvs⟩ := hf
  refine { ok := I.ok, os := I.os, bare := I.bare, base := ?_, loc := I.loc, cell := I.cell, free := offN I.free (Ne.symm nL), freeC := ?_, pin := ?_, hok := ?_, len := I.len }
  · exact { keep := I.base.keep, slot := I.base.slot, free := fun b u e n hx => offN (I.base.free b u e n hx) (old e), there := I.base.there, tups := fun b xs e => off (I.base.tups b xs e), frzs := fun b u v e => off (I.base.frzs b u v e), tbls := fun b ps e => by
              obtain ⟨m, q⟩ := I.base.tbls b ps e
              exact ⟨m, off q⟩ }
  · intro x c e
    refine offN (I.freeC x c e) fun z => ?_
    obtain ⟨v, oc, hc, hd⟩ := I.cell x c e
    rw [z, ha] at hc
    cases hc
    rw [hvs] at hd
    cases hd
  · intro p hp
    obtain ⟨h1, h2, h3, h4, h5⟩ := I.pin p hp
    exact ⟨h1, offN h2 (np p hp), h3, h4, h5⟩
  · intro b u e
    by_cases hb : b = a
    · subst hb
      rw [upd_same] at e
      cases e
      exact new
    · rw [upd_ne hb] at e
      exact (I.hok b u e).stay (fun _ _ _ q => q) (fun _ q => off q) fun _ _ q => off q
end
/-- what 'except x as n: y = n' wishes of an error of the body: n in slot i, y in slot j -/
def wKept (K : PySem.W.Frag) (c : Value) (i j : Nat) (Wout : WX) (D : Ends) : WX := fun cl d σ H =>
  ∃ b, PySem.W.exmOne K cl c = some b ∧ (b = true → ∀ a, H a = none → D.nx ((σ.set i (some (.ref a))).set j (some (.ref a)) |>.set i none) (upd H a (ExV cl d a))) ∧ (b = false → Wout cl d σ H)
section
variable {X : Cx} {x n : Str} {c : Value} {i j : Nat} {body : List Stmt} {b₀ : Stmt} {np pos pos' : Pos} {tb : WX → TS} {Wout : WX}
theorem ps_try_kept (hs : X.stack = X.env :: X.outer) (hf : X.env.frame = some X.env.locals) (hex : X.ex = []) (hN : X.N.Nodup) (hi : X.N[i]? = some n) (hln : X.env.kindOf n = some .local) (hc : Names X x c) (tk : Takes X Wout)
    (hb : ∀ (W : WX) (pn : List (Addr × Obj)) (xe : Value → Shared → Prop), Takes (X.tr pn xe) W → PassesOwn (model X.prog X.w) X.A X.env xe → PSs (X.tr pn xe) body (tb W))
    (hsu : ∀ (a : Addr) (oe : Obj) (pn : List (Addr × Obj)), PSs (X.suite a ((a, oe) :: pn)) [b₀] (tAsg (tVar i) (gName j))) (hlen : i < X.N.length) :
    PS X (.Try body [.ExceptHandler (some (.Name x np)) (some n) [b₀] pos'] [] [] pos) (fun D σ H => tb (wKept X.K c i j Wout D) D σ H) := by
  refine ⟨fun pins s σ H D I h => ?_⟩
  have ok := I.ok
  have hfr : X.A.frames = some (X.env :: X.outer) := by rw [ok.frames, hs]
  refine wpAny_Try_except ?_
  refine wpAny_mono ((hb (wKept X.K c i j Wout D) (X.pn ++ pins) (fun e s₁ => wpAny (model X.prog X.w) X.A (noteFrame e X.env) (fun _ s₂ => wpAny (model X.prog X.w) X.A (setFlight e none) (fun _ s₃ =>
    wpAny (model X.prog X.w) X.A (handleBy e X.env [.ExceptHandler (some (.Name x np)) (some n) [b₀] pos']) (SP X pins D) X.xe s₃) X.xe s₂) X.xe s₁) (fun u s' xx => ?_) PassesOwn.looking).run [] s σ H D (I.toTry _) h) (fun f s1 hsp => ?_) (fun e s1 he => he)
  · obtain ⟨a, B, sI, pins', σ', H', cl, d, rfl, J', nb, up, sky, na, os, ag, b, hb1, hyes, hno⟩ := xx
    have J : Inv X pins σ' H' sI := J'.ofTry ok
    have sky' : Sky B (X.env :: X.outer) a (Zc cl d) X.env.locals s'.heap := hs ▸ sky
    show wpAny (model X.prog X.w) X.A (noteFrame (.ref a) X.env) _ _ _
    refine Sky.land Zc.steady hfr hf sky' fun h3 fl3 up3 => ?_
    have J3 : Inv X pins σ' H' { s' with heap := h3 } := J.landed nb fl3.1 (up.trans up3) os ag
    obtain ⟨oe3, vs3, he3, hz3, hd3⟩ := fl3.there
    have nfr : a ∉ frs (X.env :: X.outer) := fun hm => by
      obtain ⟨_, o', e', hnf⟩ := fl3.2.2.1.mem hm
      rw [he3] at e'
      cases e'
      exact hnf _ hd3
    have nL : a ≠ X.env.locals := fun z => nfr (List.mem_filterMap.mpr ⟨X.env, List.mem_cons_self, by rw [hf, z]⟩)
    have nF : a ∉ X.fs := fun hm => by
      obtain ⟨e, he, q⟩ := List.mem_filterMap.mp hm
      exact nfr (List.mem_filterMap.mpr ⟨e, List.mem_cons_of_mem _ he, q⟩)
    have gone : sI.heap.get? a = none := by
      cases e : sI.heap.get? a with
      | none => rfl
      | some o =>
        have := nb a o e (by rw [hs]; exact nfr)
        rw [fl3.2.1] at this
        cases this
    have n0 : X.s_0.heap.get? a = none := by
      cases e : X.s_0.heap.get? a with
      | none => rfl
      | some o =>
        obtain ⟨o', q⟩ := J.base.there a o e (by rw [hex]; exact fun z => nomatch z)
        rw [gone] at q
        cases q
    have hpn : ∀ p ∈ X.pn ++ pins, p.1 ≠ a := fun p hp z => by
      have := (J.pin p hp).1
      rw [z, gone] at this
      cases this
    have S3 := J3.suite he3 hd3 na nL nF
    refine wpAny_handleBy_cons (codeAny_handlers_test ?_) (by intro q; cases q)
    have LT : PySem.W.Looks (model X.prog X.w) h3 (typeOf (.ref a)) cl := fun A Q E s k q => wpAny_typeOf_ref (k _ _ he3) (by rw [hz3.1]; exact q)
    have LM := PySem.W.exm_one (M := model X.prog X.w) (J3.kIn) LT hb1
    have test : ∀ {Q : Value → Shared → Prop} {E : Value → Shared → Prop}, Q c { s' with heap := h3 } → wpAny (model X.prog X.w) (X.A.mark (some (.ref a))) (eval (.Name x np) X.env) Q E { s' with heap := h3 } := fun {Q E} q => by
      obtain ⟨hg, hdbg, hm | ⟨hm, hv, hnn⟩⟩ := hc
      · exact ld_glob (X := X.suite a ((a, oe3) :: (X.pn ++ pins))) S3 hg hm q hdbg
      · exact ld_blt (X := X.suite a ((a, oe3) :: (X.pn ++ pins))) S3 hg hm hv q hnn hdbg
    refine test (LM.here ?_)
    cases b with
    | true =>
      refine codeAny_handlers_suite_as ?_
      refine HandSPX.lands_againZ fl3 fun h4 fl4 up4 => ?_
      have J4 : Inv X pins σ' H' { s' with heap := h4 } := J.landed nb fl4.1 ((up.trans up3).trans up4) os ag
      obtain ⟨oe4, vs4, he4, hz4, hd4⟩ := fl4.there
      have S4 := J4.suite he4 hd4 na nL nF
      refine store_ok (X := X.suite a ((a, oe4) :: (X.pn ++ pins))) (v := .ref a) S4 hN hi (.inl hln) rfl (fun s5 S5 => ?_) (.inr hln)
      have hv : (σ'.set i (some (V.ref a)))[i]? = some (some (.ref a)) := List.getElem?_set_self (by rw [J4.len]; exact hlen)
      refine wpAny_mono ((hsu a oe4 (X.pn ++ pins)).run [] s5 _ H' { nx := fun σ6 H6 => σ6 = (σ'.set i (some (V.ref a))).set j (some (.ref a)) ∧ H6 = H', rt := fun _ _ => False, bk := fun _ _ => False, ct := fun _ _ => False } S5 ⟨_, hv, rfl, rfl⟩) (fun f s6 hsp => ?_) (fun _ _ z => False.elim z)
      cases f with
      | next =>
        obtain ⟨σ6, H6, S6, rfl, rfl⟩ := hsp
        have he6 : s6.heap.get? a = some oe4 := (S6.pin (a, oe4) (List.mem_append_left _ List.mem_cons_self)).1
        have J6 := S6.unsuite ok
        have J7 := inv_track (o := ExV cl d a) J6 he6 ⟨_, hd4⟩ na n0 nL hpn (exV_ok he6 hz4 ⟨_, hd4⟩)
        exact gone_ok J7 hN hi hln fun s8 J8 => ⟨_, _, J8, hyes rfl a na⟩
      | brk =>
        obtain ⟨_, _, _, z⟩ := hsp
        exact z.elim
      | cont =>
        obtain ⟨_, _, _, z⟩ := hsp
        exact z.elim
      | ret u =>
        obtain ⟨_, _, _, _, _, z⟩ := hsp
        exact z.elim
    | false =>
      show wpAny _ X.A (handleBy (.ref a) X.env []) _ _ _
      refine wpAny_handleBy_nil ?_
      obtain ⟨k1, k2, k3, oe, vs, T, oT, ts', he, hz, hd, h1, hr⟩ := id fl3
      unfold PySem.passOn
      refine wpAny_bind (wpAny_field he hd h1 ?_)
      rw [if_neg (show ¬ ((Value.ref T == Value.none) = true) from by simp)]
      have fin : wpAny (model X.prog X.w) X.A (setFlight (.ref a) X.env.frame) (fun _ s4 => wpAny (model X.prog X.w) X.A (throw (.ref a) : Sem Flow) (SP X pins D) X.xe s4) X.xe { s' with heap := h3 } := by
        rw [hf]
        refine HandSPX.setFlight_upZ fl3 fun h4 hh4 up4 => wpAny_throw (tk _ _ ?_)
        exact ⟨a, B, sI, pins, σ', H', cl, d, rfl, J, nb, (up.trans up3).trans up4, .inr (.inr (by rw [hs]; exact hh4)), na, os, ag, hno rfl⟩
      first
        | exact wpAny_bind (wpAny_pure (wpAny_bind fin))
        | exact wpAny_bind fin
  · cases f with
    | next =>
      obtain ⟨σ', H', J', q⟩ := hsp
      exact wpAny_execs_nil ⟨σ', H', J'.ofTry ok, q⟩
    | brk =>
      obtain ⟨σ', H', J', q⟩ := hsp
      exact ⟨σ', H', J'.ofTry ok, q⟩
    | cont =>
      obtain ⟨σ', H', J', q⟩ := hsp
      exact ⟨σ', H', J'.ofTry ok, q⟩
    | ret u =>
      obtain ⟨v, σ', H', J', r, q⟩ := hsp
      exact ⟨v, σ', H', J'.ofTry ok, r, q⟩
end
section
variable {X : Cx}
/-- isinstance of such an error -/
def rIsX (K : PySem.W.Frag) : List V → Hp → VK → Prop := fun xs H Q => ∃ (a C : Addr) (d : Option Addr) (c : V) (cv : Value) (b : Bool), xs = [.ref a, c] ∧ H a = some (ExV (.ref C) d a) ∧ ExcC K C ∧ ClsV c cv ∧ PySem.W.kitOne K (.ref C) cv = some b ∧ (∀ dd, d = some dd → ∃ fs, H dd = some (.xd fs)) ∧ Q (.bl b) H
theorem call_isX : CallR X (.builtin "isinstance") (rIsX X.K) := by
  intro pins s σ H xs us Q I r h
  obtain ⟨a, C, d, c, cv, b, rfl, ha, E, hc, e, hd, q⟩ := h
  obtain ⟨u1, u2, rfl, r1, r2⟩ := vals2 r
  cases (show u1 = Value.ref a from r1)
  have e2 := hc.eq r2
  subst e2
  obtain ⟨oe, hoe, hz, vs, hv⟩ := (I.hok a _ ha).1
  have hcl : (PySem.W.clsIn X.K C).isSome = true := by
    obtain ⟨cd, hc, _⟩ := PySem.W.any_some E.hd
    rw [hc]; rfl
  have J : ∃ od, PySem.W.InstAt s.heap a oe C od := by
    obtain ⟨oc, odi, oda, osl⟩ := oe
    obtain ⟨h1, h2⟩ := hz
    dsimp only at h1 h2 hv
    subst h1 h2 hv
    cases odi with
    | none => exact ⟨none, hoe, rfl, rfl, trivial⟩
    | some dd =>
      obtain ⟨fs, hfs⟩ := hd dd rfl
      obtain ⟨mA, ⟨od, es, ep, e1, _⟩, _⟩ := I.hok dd _ hfs
      exact ⟨some od, hoe, rfl, rfl, e1⟩
  obtain ⟨od, J⟩ := J
  exact PySem.W.kia_one (PySem.W.kitx_exc hcl E.hg E.hk E.hs E.ha E.hn E.ht E.hm) I.kIn J e (fun z => nomatch z) fun tk => ⟨.bl b, H, I.tok tk, rfl, q⟩
end
end Nk

namespace Nk
open PySem L2 PySem.Spec PyProof.Rows
theorem tk0 {X : Cx} : Takes X (fun _ _ _ _ => False) := fun _ _ x => by
  obtain ⟨_, _, _, _, _, _, _, _, _, _, _, _, _, _, _, _, w⟩ := x
  exact w.elim
section
variable {X : Cx} {CX : CXT} {k : Nat} {ps : List Str} {sp : Sp} {x : Str} {p pos : Pos} {e : Expr} {es : List Expr} {t : TA} {E : L2.St → XK}
theorem pe_fnS (F : Fk X.prog X.w X.K X.mg X.base CX k x ps sp) (hr : Room k X.A) (hg : Gl X x) (hx : ∀ σ, PassesAt CX X σ (E σ)) (ha : PA X (e :: es) t) (hdb : (x == ("__debug__" : Str)) = false := by decide)
    (he : starEach (e :: es) X.env = (false, eval e X.env) :: starEach es X.env := by rfl) (hpl : (backTo pos (starEach es X.env)).any (·.1) = false := by rfl) :
    PE X (.Call (.Name x p) (e :: es) [] pos) (tCallS sp E t) := by
  obtain ⟨f, fd, g, kp, b, G⟩ := F.ex
  exact pe_callS G hr hg g kp b hx ha hdb he hpl
end
/-! counting in a list of flat things -/
theorem count_eqU {x : V} : ∀ {xs : List V} {us : List Value}, Vals xs us → xs.all flatV = true → us.countP (eqU x) = xs.countP fun y => eqV y x
  | _, _, .nil, _ => rfl
  | y :: xs, u :: us, .cons r t, f => by
    rw [List.all_cons, Bool.and_eq_true] at f
    rw [List.countP_cons, List.countP_cons, count_eqU t f.2, eqU_of r f.1]
def rCountF (K : PySem.W.Frag) : V → List V → Hp → VK → Prop := fun x xs H Q => ∃ (p : Addr) (ys : List V) (y : V), x = .ref p ∧ xs = [y] ∧ SqL K H p ys ∧ flatV y = true ∧ ys.all flatV = true ∧ Q (.int ((ys.countP fun z => eqV z y : Nat) : Int)) H
theorem mt_countF {X : Cx} : MtR X "list.count" (rCountF X.K) := by
  intro pins s σ H x xs v us Q I rx rxs h
  obtain ⟨p, ys, y, rfl, rfl, hs, fy, fys, q⟩ := h
  cases rx
  obtain ⟨u, rfl, ru⟩ := rxs.one
  obtain ⟨its, rv, ⟨⟨cls, dd, data, sl⟩, n, ho, hc, hdn, hd⟩, hlen⟩ := I.list hs
  simp only at hc hd
  subst hc hd
  refine call_meets PySem.F.slot_list_count ⟨_, ho, rfl⟩ PySem.F.entry_list_count (PySem.F.args_list_count_2 _ _) (SeqAt.list_countAt p its.toArray n dd sl u (eqU y)) ⟨ho, fun z hz => mem_eqAt ru fy rv fys z (by simpa using hz), ?_⟩
  have ec : its.toArray.toList.countP (eqU y) = ys.countP fun z => eqV z y := by rw [show its.toArray.toList = its from rfl, count_eqU rv fys]
  refine ⟨.int (ys.countP fun z => eqV z y : Nat), H, I.tok _, ⟨s.toks, ?_⟩, q⟩
  rw [ec]
/-! the classes of this program's errors -/
def exTail : List Value := [.type "RuntimeError", .type "Exception", .type "BaseException", .type "object"]
/-- the class over all errors -/
structure Kc (K : PySem.W.Frag) (mg : Str → Option Value) : Prop where
  gP : mg "KeepError" = some (.ref (cls mg "KeepError"))
  ex : ∃ cd, PySem.W.clsIn K (cls mg "KeepError") = some cd ∧ cd.name = "KeepError" ∧ cd.mro = .ref (cls mg "KeepError") :: exTail
  tP : PySem.W.typeIn K (.ref (cls mg "KeepError")) = some (.type "type")
  hd : PySem.W.hasDictIn K (cls mg "KeepError") = true
/-- an error's class -/
structure Ec (K : PySem.W.Frag) (mg : Str → Option Value) (x : Str) : Prop where
  gP : mg x = some (.ref (cls mg x))
  ex : ∃ cd, PySem.W.clsIn K (cls mg x) = some cd ∧ cd.name = x ∧ cd.mro = .ref (cls mg x) :: .ref (cls mg "KeepError") :: exTail
  tP : PySem.W.typeIn K (.ref (cls mg x)) = some (.type "type")
  ec : ExcC K (cls mg x)
section
variable {K : PySem.W.Frag} {h : Heap} {mg : Str → Option Value} {x y : Str}
theorem cls_lookup {C : Addr} {oc : Value} {od : Option Addr} {cd : ClassData} {osl : Array (Option Value)} (l : K.lookup C = some ⟨oc, od, .cls cd, osl⟩) : PySem.W.clsIn K C = some cd := by
  unfold PySem.W.clsIn
  rw [l]
theorem kc_mk {C : Addr} {oc : Value} {od : Option Addr} {osl : Array (Option Value)} {bs : List Value} {N : Addr} {q : Str} {sn : List Str} {sub : List Value} {hd ab dl : Bool} {col : Option Bool} (X : K.In h) (G : h.Ns mainGlobals mg)
    (a : PySem.W.nsIn K mainGlobals "KeepError" = some (some (.ref C)))
    (l : K.lookup C = some ⟨oc, od, .cls { name := "KeepError", bases := bs, mro := [.ref C, .type "RuntimeError", .type "Exception", .type "BaseException", .type "object"], ns := N, qualname := q, hasDict := hd, slotNames := sn, subclasses := sub, abstract := ab, collection := col, hasDel := dl }, osl⟩)
    (tP : PySem.W.typeIn K (.ref C) = some (.type "type")) (hD : PySem.W.hasDictIn K C = true) : Kc K mg := by
  have g := PySem.W.mg_of X G a
  have e := cls_of g
  refine ⟨by rw [e]; exact g, ?_, by rw [e]; exact tP, by rw [e]; exact hD⟩
  rw [e]
  exact ⟨_, cls_lookup l, rfl, rfl⟩
theorem ec_mk {C KE : Addr} {oc : Value} {od : Option Addr} {osl : Array (Option Value)} {bs : List Value} {N : Addr} {q : Str} {sn : List Str} {sub : List Value} {hd ab dl : Bool} {col : Option Bool} (X : K.In h) (G : h.Ns mainGlobals mg)
    (k : PySem.W.nsIn K mainGlobals "KeepError" = some (some (.ref KE))) (a : PySem.W.nsIn K mainGlobals x = some (some (.ref C)))
    (l : K.lookup C = some ⟨oc, od, .cls { name := x, bases := bs, mro := [.ref C, .ref KE, .type "RuntimeError", .type "Exception", .type "BaseException", .type "object"], ns := N, qualname := q, hasDict := hd, slotNames := sn, subclasses := sub, abstract := ab, collection := col, hasDel := dl }, osl⟩)
    (tP : PySem.W.typeIn K (.ref C) = some (.type "type")) (hD : PySem.W.hasDictIn K C = true)
    (h1 : PySem.W.findIn K (.ref C) "__getattribute__" = some (some (.builtin "BaseException.__getattribute__"))) (h2 : PySem.W.findIn K (.ref C) "__getattr__" = some none)
    (h3 : PySem.W.findIn K (.ref C) "__class__" = some (some (.builtin "object.__class__"))) (h4 : PySem.W.specialIn K (.builtin "object.__class__") "__get__" = some (some (.builtin "getset_descriptor.__get__"))) (h5 : PySem.W.takesIn K (.builtin "object.__class__") = some true) : Ec K mg x := by
  have g := PySem.W.mg_of X G a
  have e := cls_of g
  have e2 := cls_of (PySem.W.mg_of X G k)
  have hc := cls_lookup l
  have hm : ∀ b, PySem.W.mroIn K C b = some ([Value.ref C, .ref KE, .type "RuntimeError", .type "Exception", .type "BaseException", .type "object"].contains b) := fun b => by
    unfold PySem.W.mroIn
    rw [hc]
    rfl
  refine ⟨by rw [e]; exact g, ?_, by rw [e]; exact tP, ?_⟩
  · rw [e, e2]
    exact ⟨_, hc, rfl, rfl⟩
  · rw [e]
    refine ⟨h1, h2, ?_, hD, h3, h4, h5, ?_⟩
    · show PySem.W.mroIn K C _ = _
      rw [hm]
      simp
    · rw [hm]
      simp
theorem Ec.mro (e : Ec K mg x) (b : Value) : PySem.W.subIn K (.ref (cls mg x)) b = some ((Value.ref (cls mg x) :: .ref (cls mg "KeepError") :: exTail).contains b) := by
  obtain ⟨cd, h1, _, h3⟩ := e.ex
  show PySem.W.mroIn K _ b = _
  unfold PySem.W.mroIn
  rw [h1, Option.bind_some, h3]
  rfl
theorem Ec.ne (e : Ec K mg x) (f : Ec K mg y) (n : x ≠ y) : cls mg x ≠ cls mg y := fun z => by
  obtain ⟨cd, h1, h2, _⟩ := e.ex
  obtain ⟨cd', h1', h2', _⟩ := f.ex
  rw [z, h1'] at h1
  cases h1
  exact n (h2.symm.trans h2')
theorem Ec.neK (e : Ec K mg x) (f : Kc K mg) (n : x ≠ "KeepError") : cls mg x ≠ cls mg "KeepError" := fun z => by
  obtain ⟨cd, h1, h2, _⟩ := e.ex
  obtain ⟨cd', h1', h2', _⟩ := f.ex
  rw [z, h1'] at h1
  cases h1
  exact n (h2.symm.trans h2')
theorem Ec.is (e : Ec K mg x) (f : Ec K mg y) (k : Kc K mg) (n : y ≠ "KeepError") : PySem.W.kitOne K (.ref (cls mg x)) (.ref (cls mg y)) = some (decide (x = y)) := by
  by_cases c : x = y
  · subst c
    unfold PySem.W.kitOne
    simp
  · have h1 := e.ne f c
    have h2 := f.neK k n
    obtain ⟨cd', h1', _⟩ := f.ex
    unfold PySem.W.kitOne
    rw [if_neg (by intro z; exact h1 (Value.ref.inj (beq_iff_eq.mp z)))]
    show (if ((PySem.W.clsIn K (cls mg y)).isSome && PySem.W.typeIn K (.ref (cls mg y)) == some (.type "type")) = true then PySem.W.subIn K (.ref (cls mg x)) (.ref (cls mg y)) else none) = _
    rw [h1', f.tP, if_pos (by rfl), e.mro]
    rw [Option.some.injEq, decide_eq_false c, List.contains_eq_any_beq]
    simp only [exTail, List.any_cons, List.any_nil, Bool.or_eq_false_iff, beq_eq_false_iff_ne]
    refine ⟨fun z => h1 (Value.ref.inj z).symm, fun z => h2 (Value.ref.inj z), ?_⟩
    simp
theorem Ec.isR (e : Ec K mg x) : PySem.W.kitOne K (.ref (cls mg x)) (.type "RuntimeError") = some true := by
  unfold PySem.W.kitOne
  rw [if_neg (by intro z; exact nomatch (beq_iff_eq.mp z))]
  show (if PySem.W.kitMeta "RuntimeError" = true then PySem.W.subIn K (.ref (cls mg x)) (.type "RuntimeError") else none) = _
  rw [if_pos (by decide +kernel), e.mro]
  simp [exTail]
theorem Ec.exm (e : Ec K mg x) (k : Kc K mg) : PySem.W.exmOne K (.ref (cls mg x)) (.ref (cls mg "KeepError")) = some true := by
  refine PySem.W.exm_ref ?_ k.hd k.tP ?_
  · obtain ⟨cd, h1, _, h3⟩ := k.ex
    show PySem.W.mroIn K _ _ = _
    unfold PySem.W.mroIn
    rw [h1, Option.bind_some, h3]
    rfl
  · rw [e.mro]
    simp
end
end Nk
/-! ### set(l) of a list of whole numbers; sorted and len of it, however many -/
namespace Nk
open PySem L2 PySem.Spec PyProof.Rows
abbrev eSet (w : World) : Obj := { cls := .type "set", dict := none, data := .set #[] 0 (.fresh 0 0 (!w.params.followText "set-order")) }
section
variable {prog : Program} {w : World} {A : Around} {E : Value → Shared → Prop} {s : Shared}
set_option maxRecDepth 100000 in
set_option maxHeartbeats 3200000 in
theorem set_of_list {l : Addr} {xs : Array Value} (ns : List Int) {Q : Value → Shared → Prop} (calm : A.handled = none) (isl : s.heap.IsList l xs) (hin : IntsAre xs.toList ns) (few : ns.length + 1 < scanBound)
    (fin : ∀ (g : Heap) (tk c : Nat), SetR w g s.heap.objs.size (fun j => decide (j ∈ ns)) c → c ≤ ns.length → (∀ b o, s.heap.get? b = some o → g.get? b = some o) → Q (.ref s.heap.objs.size) { s with heap := g, toks := tk }) :
    wpAny (model prog w) A (call (.type "set") [.ref l]) Q E s := by
  have size : xs.size = ns.length := by
    have := hin.length
    rwa [Array.length_toList] at this
  obtain ⟨m1, m2, hmro⟩ := F.called_set.mro
  have hm0 := F.called_set.made
  have hm1 := F.called_set.sub
  refine wpAny_call (codeAny_of_tree ?_)
  show wpAny _ _ (callAny (.type "set") _) _ _ _
  refine wpAny_pure ⟨Code.quiet_builtin _ (by decide +kernel), codeAny_builtin F.entry_type_call ?_⟩
  rw [Around.under_plain (weight_type_call_type "set" [.ref l] []) rfl]
  have hm2 := F.called_set.notType
  have hm3 := F.called_set.canCreate
  have hm4 := F.typeCall_set_1 (.ref l)
  repeat (any_goals (first | assumption | wp_step))
  refine codeAny_mono (code_set_led1 (.ref l) (E := E) (Q₁ := fun v s1 => v = .ref s.heap.objs.size ∧ s1 = { s with heap := s.heap.push (eSet w) }) ⟨rfl, rfl⟩) fun r s1 hr => ?_
  cases r with
  | error _ => exact hr
  | ok fl =>
    cases fl with
    | ret v =>
      obtain ⟨rfl, rfl⟩ := hr
      have at0 : (s.heap.push (eSet w)).get? s.heap.objs.size = some (eSet w) := Heap.get?_push_size _ rfl
      have ty0 : Shared.TypeIs { s with heap := s.heap.push (eSet w) } (.ref s.heap.objs.size) "set" := ⟨_, at0, rfl⟩
      have hi1 := F.called_set.init.lookup
      have hi2 := F.called_set.init.bind (.ref s.heap.objs.size)
      repeat (any_goals (first | assumption | wp_step))
      refine codeAny_mono (codeAny_call_builtin (R := wants (fun r s2 => r = .none ∧ ∃ g tk c, s2 = { s with heap := g, toks := tk } ∧ SetR w g s.heap.objs.size (fun j => decide (j ∈ ns)) c ∧ c ≤ ns.length ∧
          (∀ b o, s.heap.get? b = some o → g.get? b = some o)) E) F.called_set.init.plain F.entry_set_init (check_set_init_1 ty0 ?_)) fun r2 s2 hr2 => ?_
      · obtain ⟨ol, hol, hcl, nl, hdl⟩ := isl
        obtain ⟨k1, k2, k3, k4⟩ := ol
        simp only at hcl hdl
        subst hcl hdl
        have hol1 : (s.heap.push (eSet w)).get? l = some { cls := .type "list", dict := k2, data := .seq xs nl, slots := k4 } := Heap.get?_push_of_some _ hol
        have sub1 := F.sub_list_set
        have sub2 := F.sub_list_frozenset
        have nodict : (Value.type "list" == Value.type "dict") = false := by decide
        have isl1 : (s.heap.push (eSet w)).IsList l xs := ⟨_, hol1, rfl, nl, rfl⟩
        unfold Builtin.«set.__init__» noKeywords Builtin.Frozenset.updateFrom
        generalize hPI : pyIter = PI
        wp_walk
        subst hPI
        refine wpAny_pyIter_list isl1 ?_
        refine wpAny_bind (wpAny_runValue ?_)
        have lt0 : l < s.heap.objs.size := Heap.lt_size hol
        have calm3 : A.in1.in1.in1.handled = none := by simp [calm]
        have ne1 : l ≠ (s.heap.push (eSet w)).objs.size := by
          rw [Heap.size_push]
          exact Nat.ne_of_lt (Nat.lt_succ_of_lt lt0)
        have out1 : s.heap.objs.size ∉ [(s.heap.push (eSet w)).objs.size, l] := by
          rw [Heap.size_push]
          simp only [List.mem_cons, List.mem_singleton, List.not_mem_nil, or_false, not_or]
          exact ⟨Nat.ne_of_lt (Nat.lt_succ_self _), Nat.ne_of_gt lt0⟩
        have vals : ∀ (i : Nat) (v : Value), xs[i]? = some v → ∃ k t, ns[i]? = some k ∧ v = .int k t := fun i v hv => by
          have hi : i < ns.length := by
            rw [← size]
            exact (Array.getElem?_eq_some_iff.mp hv).1
          obtain ⟨t, e⟩ := PyProof.Rows.IntsAre.int_at hin i v (by rw [Array.getElem?_toList]; exact hv)
          refine ⟨ns[i], t, List.getElem?_eq_getElem hi, ?_⟩
          rw [e, List.getD_eq_getElem?_getD, List.getElem?_eq_getElem hi] <;> rfl
        refine set_update_ints ((Walks.list calm3 _ l ne1 xs).toS) s.heap.objs.size out1 ns size few vals (xs.size - 0) 0 _ (by omega) (Nat.zero_le _) ⟨⟨_, Heap.get?_push_size _ rfl, rfl, rfl⟩, (isl1.push _)⟩ ?one ?two
        case one =>
          have at2 : ((s.heap.push (eSet w)).push { cls := .type "list_iterator", data := .fields #[.ref l, .int 0 0] }).get? s.heap.objs.size = some (eSet w) := Heap.get?_push_of_some _ at0
          exact ⟨0, Nat.le_refl 0, setR_new_at at2⟩
        case two =>
          intro s3 c3 mv hc3 R3
          obtain ⟨h3, g3, d3, t3, o3⟩ := s3
          have eg : g3 = s.gens := mv.gens
          have ed : d3 = s.drawn := mv.drawn
          have eo : o3 = s.os := mv.os
          subst eg ed eo
          show wpAny _ _ _ _ _ _
          refine wpAny_pure ?_
          show wpAny _ _ (ret Value.none) _ _ _
          rw [size] at hc3
          refine wpAny_pure ⟨rfl, h3, t3, c3, rfl, R3, hc3, fun b o e => ?_⟩
          have lb : b < s.heap.objs.size := Heap.lt_size e
          have nb1 : b ≠ s.heap.objs.size := Nat.ne_of_lt lb
          have nb2 : b ≠ (s.heap.push (eSet w)).objs.size := by
            rw [Heap.size_push]
            exact Nat.ne_of_lt (Nat.lt_succ_of_lt lb)
          refine mv.heap b o ?_ (Heap.get?_push_of_some _ (Heap.get?_push_of_some _ e))
          simp only [List.mem_cons, List.mem_singleton, List.not_mem_nil, or_false, not_or]
          exact ⟨nb1, nb2⟩
      · cases r2 with
        | error _ => exact hr2
        | ok fl2 =>
          cases fl2 with
          | ret _ =>
            obtain ⟨rfl, g, tk, c, rfl, R2, hc2, k2⟩ := hr2
            repeat (any_goals (first | assumption | wp_step))
            exact fin _ _ _ R2 hc2 k2
          | _ => exact hr2.elim
    | _ => exact hr.elim
end
section
variable {X : Cx}
def rSetLI (K : PySem.W.Frag) (w : World) : List V → Hp → VK → Prop := fun vs H Q => ∃ (a : Addr) (ns : List Int), vs = [V.ref a] ∧ SqL K H a (ns.map V.int) ∧ ns.length ≤ 4000 ∧
  ∀ (p : Addr) (c : Nat), H p = none → c ≤ ns.length → Q (.ref p) (upd H p (SetO w p (fun j => decide (j ∈ ns)) c))
theorem cr_setLI (hc : X.calm = true) : CallR X (.type "set") (rSetLI X.K X.w) := by
  intro pins s σ H vs us Q I r h
  obtain ⟨a, ns, rfl, hs, hz, q⟩ := h
  obtain ⟨its, rv, hl, _⟩ := I.list hs
  rw [Vals.ref1 r]
  refine set_of_list ns (I.ok.hd hc) hl.isList rv.ints (by unfold scanBound; omega) fun g tk c R hc k => ?_
  exact ⟨.ref _, _, I.laid (t' := tk) (o := SetO X.w s.heap.objs.size (fun j => decide (j ∈ ns)) c) k (Nat.le_refl _) (setO_new R), rfl, q _ c (I.hok.fresh (Nat.le_refl _)) hc⟩
theorem rise_of_nodup {l : List Int} (h : l.Pairwise (· ≤ ·)) (nd : l.Nodup) : l.Pairwise (· < ·) := (h.and nd).imp fun {a b} ⟨h1, h2⟩ => by omega
/-- sorted of a set, however many -/
def rSortedSA (w : World) : List V → Hp → VK → Prop := fun vs H Q => ∃ (a : Addr) (S : Int → Bool) (n : Nat), vs = [V.ref a] ∧ H a = some (SetO w a S n) ∧ n ≤ 10000 ∧
  ∀ (ns : List Int) (p : Addr), ns.Pairwise (· < ·) → (∀ k : Int, k ∈ ns ↔ S k = true) → ns.length = n → H p = none → Q (.ref p) (upd H p (.lst (ns.map V.int)))
theorem cr_sortedSA (hcalm : X.calm = true) : CallR X (.builtin "sorted") (rSortedSA X.w) := by
  intro pins s σ H vs us Q I r h
  obtain ⟨a, S, n, rfl, ha, hn0, q⟩ := h
  rw [Vals.ref1 r]
  obtain ⟨o, es, ep, t, ho, hex, hd, g, nd, hm, hb, hf, hn, hr, hl⟩ := setO_get I ha
  refine Calls.call_function_entry PyProof.Rows.kind_sorted PyProof.Rows.plain_sorted PyProof.Rows.entry_sorted (PyProof.Rows.args_sorted1 _) ?_
  unfold Builtin.«sorted»
  refine wpAny_bind (m := checkCount "sorted" 1 1 _) (wpAny_pure ?_)
  refine wpAny_bind (collect_set (A := X.A.in1) (I.ok.hd hcalm) ⟨o, ho, hex.1, hd⟩ hf hb hr hl fun s1 us k1 hz g1 o1 pm => ?_)
  have hul : us.length = n := by
    rw [pm.length_eq, List.length_map, Array.length_toList]
    exact hn
  have hI : IntsAre us (us.map Builtin.Re.reRawOf) := ints_of us fun v hv => by
    obtain ⟨e, he, q⟩ := List.mem_map.mp (pm.mem_iff.mp hv)
    obtain ⟨k, tk, h1, _⟩ := g e he
    exact ⟨k, tk, by rw [← q]; exact h1⟩
  have pk : (us.map Builtin.Re.reRawOf).Perm (es.toList.map keyOf) := by
    have z := pm.map Builtin.Re.reRawOf
    rw [List.map_map] at z
    exact z
  have hsz : us.length ≤ sizeLine := by
    rw [hul]
    exact sz (by omega)
  refine wpAny_bind (wpAny_newList ?_ hsz)
  have hoL : (s1.heap.push (seqObj "list" us.toArray 0)).get? s1.heap.objs.size = some (seqObj "list" us.toArray 0) := Heap.get?_push_size _ rfl
  refine wpAny_bind (wpAny_holding (wpAny_call_entry PyProof.Rows.slot_list_sort ⟨_, hoL, rfl⟩ PyProof.Rows.entry_list_sort
    (SrtO.list_sort_ord SrtO.swo_int hoL hsz (fun h2 => SrtO.ints_sortable hI h2) fun out b1 b2 => ⟨_, rfl, ?_⟩) (PyProof.Rows.args_list_sort _)))
  obtain ⟨c1, c2, c3⟩ := SrtO.ints_out hI b1 b2
  obtain ⟨e', he'⟩ := PyProof.Rows.sortedHeap_at (vs := us) (out := out.toArray) hoL
  have pn : (out.map SrtO.iv).Perm (es.toList.map keyOf) := c2.trans pk
  have hlen : ((out.map SrtO.iv).map V.int).length ≤ sizeLine := by
    rw [List.length_map, c2.length_eq, List.length_map]
    exact hsz
  have hnone : H s1.heap.objs.size = none := I.hok.fresh hz
  have old : ∀ b u, s.heap.get? b = some u → (PyProof.Rows.sortedHeap (s1.heap.push (seqObj "list" us.toArray 0)) s1.heap.objs.size us out.toArray).get? b = some u := fun b u e => by
    have z := k1 b u e
    have lt := Heap.lt_size z
    rw [PyProof.Rows.sortedHeap_old (Nat.ne_of_lt lt) (by rw [size_push']; exact Nat.lt_succ_of_lt lt)]
    exact Heap.get?_push_of_some _ z
  have J : Inv X pins σ (upd H s1.heap.objs.size (.lst ((out.map SrtO.iv).map V.int))) { s with heap := PyProof.Rows.sortedHeap (s1.heap.push (seqObj "list" us.toArray 0)) s1.heap.objs.size us out.toArray, gens := s1.gens, drawn := s1.drawn, toks := s1.toks } :=
    I.call (ch := []) (Un.laid old hz hnone) (I.hok.laid old hz ⟨hlen, out, e', vals_of_ints c1, he'⟩) (by rw [g1]; exact I.bare) (fun _ z => nomatch z)
  refine wpAny_pure ⟨_, rfl, .ref s1.heap.objs.size, _, ?_, rfl, q _ _ (rise_of_nodup c3 (pn.nodup_iff.mpr nd)) (fun k => by rw [pn.mem_iff, ← hm k]) (by rw [pn.length_eq, List.length_map, Array.length_toList]; exact hn) hnone⟩
  have eo : s1.os = s.os := o1
  rw [← eo] at J
  exact J
/-- len of a set -/
def rLenS (w : World) : List V → Hp → VK → Prop := fun vs H Q => ∃ (a : Addr) (S : Int → Bool) (n : Nat), vs = [V.ref a] ∧ H a = some (SetO w a S n) ∧ Q (.int n) H
end
end Nk
/-! ### own classes: methods by their promise, len of an instance, steps of the heap -/
namespace Nk
open PySem L2 PySem.Spec PyProof.Rows
/-- a method as it stands behind the top: c's, found at the def st -/
structure Md (K : PySem.W.Frag) (mg : Str → Option Value) (c m qual : Str) (st : Stmt) (ps : List Str) : Prop where
  ex : ∃ (f : Addr) (fd : FuncData), Fun K m qual st f fd ∧ Meth K (cls mg c) m f ∧ Binds K fd ps []
/-- a class without own __new__ -/
structure Oc (K : PySem.W.Frag) (mg : Str → Option Value) (c : Str) : Prop where
  g : mg c = some (.ref (cls mg c))
  cl : Cls K (cls mg c)
  makes : PySem.W.makesIn K (cls mg c) = true
  kp : PySem.W.keepIn K (.ref (cls mg c)) = true
/-- a method keeps a promise -/
structure Mo (P : Program) (w : World) (K : PySem.W.Frag) (mg : Str → Option Value) (base : Heap) (CX : CXT) (k : Nat) (c m : Str) (ps : List Str) (sp : Sp) : Prop where
  ex : ∃ (f : Addr) (fd : FuncData), Meth K (cls mg c) m f ∧ Binds K fd ps [] ∧ FnOk P w K mg base CX k f fd ps sp
section
variable {X : Cx} {CX : CXT} {k : Nat} {ps : List Str} {sp : Sp} {c m x : Str} {p pos apos : Pos} {o e : Expr} {es : List Expr} {ta : TE} {t : TA} {E : XK}
theorem pe_me {pl : Sem Bool} (he : PE X o ta) (O : Oc X.K X.mg c) (M : Mo X.prog X.w X.K X.mg X.base CX k c m ps sp) (hr : Room k X.A) (hx : Passes CX X E) (ha : PA X (e :: es) t)
    (hst : starEach (e :: es) X.env = (false, eval e X.env) :: starEach es X.env := by rfl) (hpl : (backTo pos (starEach es X.env)).any (·.1) = false := by rfl)
    (ht : eval (.Call (.Attribute o m apos) (e :: es) [] pos) X.env = (do
      let ov ← eval o X.env
      standAt apos.atName
      let (g, first) ← holding [ov] (getMethod ov m pl)
      callWith pos g first (backTo pos (starEach (e :: es) X.env)) (backToKw pos (keywordEach [] X.env))) := by rfl) :
    PE X (.Call (.Attribute o m apos) (e :: es) [] pos) (tMeth (cls X.mg c) m sp [] E ta t) := by
  obtain ⟨f, fd, h1, h2, h3⟩ := M.ex
  exact pe_meth he O.cl h1 h3 hr h2 .nil hx ha hst hpl ht
theorem pe_me0 {pl : Sem Bool} (he : PE X o ta) (O : Oc X.K X.mg c) (M : Mo X.prog X.w X.K X.mg X.base CX k c m ps sp) (hr : Room k X.A) (hx : Passes CX X E)
    (ht : eval (.Call (.Attribute o m apos) [] [] pos) X.env = (do
      let ov ← eval o X.env
      standAt apos.atName
      let (g, first) ← holding [ov] (getMethod ov m pl)
      callWith pos g first (backTo pos (starEach [] X.env)) (backToKw pos (keywordEach [] X.env))) := by rfl) :
    PE X (.Call (.Attribute o m apos) [] [] pos) (tMeth (cls X.mg c) m sp [] E ta tNil) := by
  obtain ⟨f, fd, h1, h2, h3⟩ := M.ex
  exact pe_meth0 he O.cl h1 h3 hr h2 .nil hx ht
theorem pe_new (O : Oc X.K X.mg c) (M : Mo X.prog X.w X.K X.mg X.base CX k c "__init__" ps sp) (hr : Room (k + 1) X.A) (hg : Gl X c) (hx : Passes CX X E) (ha : PA X (e :: es) t)
    (hdb : (c == ("__debug__" : Str)) = false := by decide) (he : starEach (e :: es) X.env = (false, eval e X.env) :: starEach es X.env := by rfl) (hpl : (backTo pos (starEach es X.env)).any (·.1) = false := by rfl) :
    PE X (.Call (.Name c p) (e :: es) [] pos) (tMake (cls X.mg c) sp [] E t) := by
  obtain ⟨f, fd, h1, h2, h3⟩ := M.ex
  exact pe_make ⟨O.makes, h1.at_, h1.fn, O.kp⟩ h3 hr hg O.g h2 .nil hx ha hdb he hpl
/-- len of an instance -/
def rLenO (C : Addr) (sp : Sp) (E : XK) : List V → Hp → VK → Prop := fun xs H Q => ∃ (a dx : Addr) (fs : List (Str × V)), xs = [.ref a] ∧ H a = some (.ins C dx fs) ∧ sp [.ref a] H (fun v H' => ∃ n : Nat, v = .int n ∧ n < 2 ^ 62 ∧ Q (.int n) H') E
theorem cr_lenO (O : Oc X.K X.mg c) (M : Mo X.prog X.w X.K X.mg X.base CX k c "__len__" ps sp) (hr : Room (k + 1) X.A) (hx : Passes CX X E) : CallR X (.builtin "len") (rLenO (cls X.mg c) sp E) := by
  intro pins s σ H xs us Q I r h
  obtain ⟨a, dx, fs, rfl, ha, q⟩ := h
  rw [Vals.ref1 r]
  obtain ⟨f, fd, h1, h2, h3⟩ := M.ex
  obtain ⟨mA, ob, _⟩ := ins_get I.hok ha
  obtain ⟨od, hod, _⟩ := lookIn_ns ob.ns
  have J : PySem.W.InstAt s.heap a (PySem.W.instObj (cls X.mg c) dx) (cls X.mg c) (some od) := ⟨ob.obj, rfl, rfl, hod⟩
  obtain ⟨m0, fr⟩ := I.fr
  have r2 : Vals [V.ref a] [Value.ref a] := .cons rfl .nil
  have hl : ([Value.ref a] ++ ([] : List Value)).length = ps.length := by
    have := h3.len _ _ _ _ q
    exact this
  refine PySem.W.len_K fr I.ok.mod.kin J h1.at_ h1.fn ?_
  refine wpAny_call (codeAny_mono (h3.run _ X.stack s H ⟨[.ref a], []⟩ [.ref a] [.ref a] _ E hr.in1 I.env0.in1 (h2 s [.ref a] I.kIn hl) r2 q) fun rr s' hq => ?_)
  cases rr with
  | error e => exact hx pins σ H s e s' I hq
  | ok fl =>
    cases fl with
    | ret u =>
      obtain ⟨v, H', I2, rv, n, rfl, hn, q2⟩ := I.after hq
      obtain ⟨tk, rfl⟩ := rv
      exact ⟨⟨by omega, by omega⟩, .int n, H', I2.tok _, ⟨_, rfl⟩, q2⟩
    | next => exact False.elim hq
    | brk => exact False.elim hq
    | cont => exact False.elim hq
theorem pe_fldK {f : Str} (K : PySem.W.Frag) (hK : X.K = K) (he : PE X e ta) (hb : attributeBase e f X.env (eval e X.env) = eval e X.env) : PE X (.Attribute e f pos) (tFld K ta f) := hK ▸ pe_fld he hb
end
section
variable {K : PySem.W.Frag} {h : Heap} {mg : Str → Option Value}
theorem md_mk {c m qual : Str} {st : Stmt} {ps : List Str} {C f : Addr} {oc : Value} {od an : Option Addr} {osl : Array (Option Value)} {kV doc pm cdv ct : Value} (X : K.In h) (G : h.Ns mainGlobals mg)
    (hb : ∀ (kV doc pm : Value) (an : Option Addr) (cdv ct : Value) (us : List Value), us.length = ps.length → bindArgs (PySem.W.fnOf m qual (defArgs st) (defBody st) (defScope st) .none kV doc pm an cdv ct) ⟨us, []⟩ = pure (ps.zip us))
    (aC : PySem.W.nsIn K mainGlobals c = some (some (.ref C))) (a : PySem.W.findIn K (.ref C) m = some (some (.ref f))) (i : PySem.W.isFn K (.ref f) = true)
    (l : K.lookup f = some ⟨oc, od, .func (PySem.W.fnOf m qual (defArgs st) (defBody st) (defScope st) .none kV doc pm an cdv ct), osl⟩)
    (cc : PySem.W.codeIn K cdv qual = true) (k : PySem.W.keepIn K (.ref f) = true) : Md K mg c m qual st ps := by
  have F := fun_mk (st := st) l cc k
  have e := cls_of (PySem.W.mg_of X G aC)
  exact ⟨f, _, F, by rw [e]; exact ⟨a, i, k⟩, F.binds hb⟩
theorem oc_mk {c : Str} {C : Addr} (X : K.In h) (G : h.Ns mainGlobals mg) (aC : PySem.W.nsIn K mainGlobals c = some (some (.ref C))) (pg : PySem.W.plainGet K C Str.empty = true) (hd : PySem.W.hasDictIn K C = true) (po : PySem.W.plainOver K C = true)
    (sa : PySem.W.findIn K (.ref C) "__setattr__" = some (some (.builtin "object.__setattr__"))) (mk : PySem.W.makesIn K C = true) (kc : PySem.W.keepIn K (.ref C) = true) : Oc K mg c := by
  have g := PySem.W.mg_of X G aC
  have e := cls_of g
  exact ⟨by rw [e]; exact g, by rw [e]; exact ⟨pg, hd, po, sa⟩, by rw [e]; exact mk, by rw [e]; exact kc⟩
theorem na_mk {c f : Str} {C : Addr} (X : K.In h) (G : h.Ns mainGlobals mg) (aC : PySem.W.nsIn K mainGlobals c = some (some (.ref C))) (n : PySem.W.findIn K (.ref C) f = some none) : NoAttr K (cls mg c) f := by
  rw [cls_of (PySem.W.mg_of X G aC)]
  exact n
end
/-! steps of the heap -/
/-- only what stands in S may have changed; tuples never do -/
structure Step (S : List Addr) (H H' : Hp) : Prop where
  keep : ∀ b o, H b = some o → b ∉ S → H' b = some o
  tups : ∀ b xs, H b = some (.tup xs) → H' b = some (.tup xs)
theorem Step.refl {S : List Addr} {H : Hp} : Step S H H := ⟨fun _ _ h _ => h, fun _ _ h => h⟩
theorem Step.of {S : List Addr} {H H' : Hp} (s : Same H H') : Step S H H' := ⟨fun b o h _ => s b o h, fun b xs h => s b _ h⟩
theorem Step.same {S : List Addr} {H H1 H2 : Hp} (a : Step S H H1) (s : Same H1 H2) : Step S H H2 := ⟨fun b o h n => s _ _ (a.keep b o h n), fun b xs h => s _ _ (a.tups b xs h)⟩
theorem Same.step {S : List Addr} {H H1 H2 : Hp} (s : Same H H1) (a : Step S H1 H2) : Step S H H2 := ⟨fun b o h n => a.keep b o (s _ _ h) n, fun b xs h => a.tups b xs (s _ _ h)⟩
/-- S' is S, but for what is new -/
def Own (H : Hp) (S S' : List Addr) : Prop := ∀ b ∈ S', b ∈ S ∨ H b = none
theorem Own.refl {H : Hp} {S : List Addr} : Own H S S := fun _ h => .inl h
theorem Step.trans {S S' : List Addr} {H H1 H2 : Hp} (a : Step S H H1) (b : Step S' H1 H2) (w : Own H S S') : Step S H H2 :=
  ⟨fun c o h n => b.keep c o (a.keep c o h n) fun hm => (w c hm).elim n (fun h1 => by rw [h1] at h; cases h), fun c xs h => b.tups c xs (a.tups c xs h)⟩
theorem Step.more {S T : List Addr} {H H' : Hp} (a : Step S H H') (h : ∀ b ∈ S, b ∈ T) : Step T H H' := ⟨fun b o e n => a.keep b o e fun hm => n (h b hm), a.tups⟩
theorem Step.free {S : List Addr} {H H' : Hp} {p : Addr} (a : Step S H H') (hp : H' p = none) (n : p ∉ S) : H p = none := by
  cases e : H p with
  | none => rfl
  | some o => rw [a.keep _ _ e n] at hp; cases hp
theorem But.step {t : Addr} {H H' : Hp} {l : List V} (b : But t H H') (ht : H t = some (.lst l)) : Step [t] H H' :=
  ⟨fun c o h n => b c o h fun e => n (by rw [e]; exact List.mem_cons_self), fun c xs h => b c _ h (ne_of h ht (by intro z; cases z))⟩
theorem Step.but {t : Addr} {H H' : Hp} (a : Step [t] H H') : But t H H' := fun b o h n => a.keep b o h fun hm => n (List.mem_singleton.mp hm)
theorem step_upd {S : List Addr} {H : Hp} {p : Addr} {o u : HO} (hp : p ∈ S) (h : H p = some u) (hu : ∀ xs, u ≠ .tup xs) : Step S H (upd H p o) :=
  ⟨fun b x e n => by rw [upd_ne (fun z => n (by rw [z]; exact hp))]; exact e, fun b xs e => by rw [upd_ne (ne_of e h fun z => hu xs z.symm)]; exact e⟩
theorem putH {S : List Addr} {H0 H H' : Hp} {k : Addr} {u o : HO} (st : Step S H0 H) (hm : k ∈ S) (h : H k = some u) (hu : ∀ xs, u ≠ .tup xs) (e : upd H k o = H') : Step S H0 H' ∧ But k H H' ∧ H' k = some o := by
  subst e
  exact ⟨st.trans (step_upd hm h hu) .refl, But.upd, upd_same⟩
theorem Step.sqT {K : PySem.W.Frag} {S : List Addr} {H H' : Hp} {a : Addr} {xs : List V} (s : Step S H H') (h : H a = some (.tup xs)) : SqT K H' a xs := Nk.sqT (s.tups _ _ h)
theorem putF_lookup {f g : Str} {y : V} {fs : List (Str × V)} : (putF f y fs).lookup g = if g = f then some y else fs.lookup g := lookup_putF ..
end Nk
/-! ### set(l) of a list of texts, sorted of it -/
namespace Nk
open PySem L2 PySem.Spec PyProof.Rows
def keyS (e : Int × Value) : Str := match e.2 with
  | .str x _ => x
  | _ => Str.empty
def GoodS (w : World) (e : Int × Value) : Prop := ∃ x tk, e.2 = Value.str x tk ∧ e.1 = hashStr w x
theorem textAt : ∀ {us : List Value} {xs : List Str}, StrsAre us xs → ∀ (i : Nat) (v : Value), us[i]? = some v → ∃ k t, xs[i]? = some k ∧ v = .str k t
  | _, _, .nil, i, v, z => by simp at z
  | _, _, .cons x t r, 0, v, z => ⟨x, t, rfl, (Option.some.inj z).symm⟩
  | _, _, .cons x t r, i + 1, v, z => textAt r i v z
/-- the set of texts at a, that can be walked -/
def SetS (w : World) (h : Heap) (a : Addr) (S : Str → Bool) (n : Nat) : Prop := ∃ o es ep t, h.get? a = some o ∧ o.ExactSet ∧ o.data = .set es ep t ∧ (∀ e ∈ es.toList, GoodS w e) ∧ (es.toList.map keyS).Nodup ∧
  (∀ k, S k = true ↔ k ∈ es.toList.map keyS) ∧ es.size < scanBound ∧ t.fits es.size = true ∧ es.size = n ∧ Ris t.place.toList ∧ (w.params.followText "set-order" = true ∨ t.led = true)
section
variable {P : Program} {w : World} {h h' : Heap} {a : Addr} {S : Str → Bool} {n : Nat} {A : Around} {E : Value → Shared → Prop} {s : Shared}
theorem SetS.at (R : SetS w h a S n) (k : ∀ o, h.get? a = some o → h'.get? a = some o) : SetS w h' a S n :=
  let ⟨o, es, ep, t, ho, r⟩ := R
  ⟨o, es, ep, t, k o ho, r⟩
theorem SetS.congr {S' : Str → Bool} (R : SetS w h a S n) (e : ∀ k, S' k = S k) : SetS w h a S' n := by
  obtain ⟨o, es, ep, t, h1, h2, h3, h4, h5, h6, r⟩ := R
  exact ⟨o, es, ep, t, h1, h2, h3, h4, h5, fun k => by rw [e]; exact h6 k, r⟩
theorem isS {x y : Str} {tk : Tok} : (strKind P w).is x (.str y tk) = true ↔ x = y := by
  constructor
  · intro z
    have z2 : Value.isStrOf x (.str y tk) = true := z
    obtain ⟨u, e⟩ := Value.isStrOf_shape z2
    cases e
    rfl
  · rintro rfl
    show Value.isStrOf x (.str x tk) = true
    simp [Value.isStrOf]
theorem elemsS {l : List (Int × Value)} (g : ∀ e ∈ l, GoodS w e) : ElemsOf (strKind P w) l := fun e he => by
  obtain ⟨x, tk, e1, e2⟩ := g e he
  rw [e1]
  exact ⟨⟨x, isS.mpr rfl, e2⟩, rfl⟩
theorem memS {l : List (Int × Value)} (g : ∀ e ∈ l, GoodS w e) (k : Str) : k ∈ l.map keyS ↔ ∃ e ∈ l, (strKind P w).is k e.2 = true := by
  rw [List.mem_map]
  constructor
  · rintro ⟨e, he, rfl⟩
    obtain ⟨x, tk, e1, _⟩ := g e he
    refine ⟨e, he, ?_⟩
    unfold keyS
    rw [e1]
    exact isS.mpr rfl
  · rintro ⟨e, he, z⟩
    obtain ⟨x, tk, e1, _⟩ := g e he
    rw [e1] at z
    refine ⟨e, he, ?_⟩
    unfold keyS
    rw [e1]
    exact (isS.mp z).symm
theorem storeS {o : Obj} {es es' : Array (Int × Value)} {ep : Nat} {t t' : SetTable} (ho : h.get? a = some o) (hd : o.data = .set es ep t) : (h.update a (Obj.putSet es' t')).get? a = some { o with data := .set es' (ep + 1) t' } := store_at ho hd
/-- the tail of an add -/
theorem tailS {g : Bool → Sem Unit} (hg : ∀ (b : Bool) (s₁ : Shared) (Q' : Unit → Shared → Prop), Q' () s₁ → wpAny (model P w) A (g b) Q' E s₁) {o : Obj} {es : Array (Int × Value)} {ep : Nat} {t : SetTable} (at_ : s.heap.get? a = some o) (ex : o.ExactSet) (dat : o.data = .set es ep t)
    {es1 : Array (Int × Value)} {t2 : SetTable} {S' : Str → Bool} (good : ∀ e ∈ es1.toList, GoodS w e) (once : (es1.toList.map keyS).Nodup) (mem : ∀ k, S' k = true ↔ k ∈ es1.toList.map keyS) (few : es1.size < scanBound) (fit : t2.fits es1.size = true) (ris : Ris t2.place.toList)
    (led : w.params.followText "set-order" = true ∨ t2.led = true) {wasDummy : Bool} {R : Option Bool → Shared → Prop} (fin : ∀ h', Heap.SameBut a s.heap h' → SetS w h' a S' es1.size → R (some true) { s with heap := h' }) :
    wpAny (model P w) A (do
      storeSet a es1 t2
      if (!wasDummy && t2.tooFull) = true then do
          g (relayAll t2 es1 (SetTable.grown es1.size)).2.2
          storeSet a (relayAll t2 es1 (SetTable.grown es1.size)).1 (relayAll t2 es1 (SetTable.grown es1.size)).2.1
          pure (some true)
        else pure (some true)) R E s := by
  have new1 := storeS (es' := es1) (t' := t2) at_ dat
  have but1 := Heap.SameBut.update s.heap a (Obj.putSet es1 t2)
  refine wpAny_bind (wpAny_storeSet_of at_ dat ?_ (fits_of_scanBound few))
  split
  · have z1 := relayAll_perm t2 es1 (SetTable.grown es1.size)
    have z2 := relayAll_fits t2 es1 (SetTable.grown es1.size)
    have z3 := relayAll_ris t2 es1 (SetTable.grown es1.size)
    have z4 := relayAll_led t2 es1 (SetTable.grown es1.size)
    generalize relayAll t2 es1 (SetTable.grown es1.size) = Z at z1 z2 z3 z4 ⊢
    obtain ⟨es2, t3, gave⟩ := Z
    dsimp only at z1 z2 z3 z4 ⊢
    have same : es2.size = es1.size := by
      have := z1.length_eq
      simpa using this
    refine wpAny_bind (hg _ _ _ ?_)
    refine wpAny_bind (wpAny_storeSet_of new1 rfl ?_ (fits_of_scanBound (by omega)))
    have new2 := storeS (es' := es2) (t' := t3) new1 rfl
    have zk := z1.map keyS
    exact wpAny_pure (fin _ (but1.trans (Heap.SameBut.update _ a _)) ⟨_, es2, _, t3, new2, ex, rfl, fun e he => good e (z1.mem_iff.mp he), zk.nodup_iff.mpr once, fun k => by rw [mem k, zk.mem_iff], by omega, z2, same, z3, led.imp id fun q => by rw [z4]; exact q⟩)
  · exact wpAny_pure (fin _ but1 ⟨_, es1, _, t2, new1, ex, rfl, good, once, mem, few, fit, rfl, ris, led⟩)
theorem addS {k : Str} {tk : Tok} {Q : Bool → Shared → Prop} (R : SetS w s.heap a S n) (room : n + 1 < scanBound)
    (fin : ∀ h', Heap.SameBut a s.heap h' → SetS w h' a (fun j => S j || decide (j = k)) (if S k = true then n else n + 1) → Q (!S k) { s with heap := h' }) : wpAny (model P w) A (setAddHashed a (.str k tk) ((strKind P w).hash k)) Q E s := by
  obtain ⟨o, es, ep, t, at_, ex, dat, good, once, mem, few, fit, num, ris, led⟩ := R
  have isk : (strKind P w).is k (.str k tk) = true := isS.mpr rfl
  have scn : (Value.str k tk).scannable = true := rfl
  have els : ElemsOf (strKind P w) es.toList := elemsS good
  unfold setAddHashed setAddHashedIn
  refine wpAny_holding (wpAny_bind (wpAny_setState_of at_ dat fit ?_))
  dsimp only
  rw [byScan_of scn few els]
  simp only [↓reduceIte]
  unfold setAddByScan
  refine wpAny_bind (wpAny_bind (wpAny_rule ?_))
  refine wpAny_bind (wpAny_setScan_of isk at_ dat fit els ?_)
  cases found : List.findIdx? (fun e => (strKind P w).is k e.2) es.toList with
  | some j =>
    dsimp only
    obtain ⟨lt, hit, _⟩ := List.findIdx?_eq_some_iff_getElem.mp found
    have old : S k = true := (mem k).2 ((memS (P := P) good k).2 ⟨_, List.getElem_mem lt, hit⟩)
    have q := fin s.heap (Heap.SameBut.refl a s.heap) ⟨o, es, ep, t, at_, ex, dat, good, once, fun i => by
      rw [Bool.or_eq_true, decide_eq_true_eq, ← mem i]
      exact ⟨fun z => z.elim id fun e => by rw [e]; exact old, .inl⟩, few, fit, by rw [if_pos old]; exact num, ris, led⟩
    rw [old] at q
    exact wpAny_pure (wpAny_pure q)
  | none =>
    dsimp only
    have new : k ∉ es.toList.map keyS := fun z => by
      obtain ⟨e, he, hit⟩ := (memS (P := P) good k).1 z
      rw [List.findIdx?_eq_none_iff.mp found e he] at hit
      cases hit
    have fresh : S k = false := by
      cases q : S k with
      | false => rfl
      | true => exact absurd ((mem k).1 q) new
    have gw : ∀ (b : Bool) {s₁ : Shared} {Q' : Unit → Shared → Prop}, Q' () s₁ → wpAny (model P w) A (match b with | true => rule "set.scan.the-table-gave-way" | false => pure ()) Q' E s₁ := fun b s₁ Q' q => by
      cases b
      · exact wpAny_pure q
      · exact wpAny_rule q
    have z1 := layNew_perm t es ((strKind P w).hash k) (.str k tk)
    have z2 := layNew_fits t es ((strKind P w).hash k) (.str k tk)
    have z3 := layNew_ris t es ((strKind P w).hash k) (.str k tk) ris
    have z4 := layNew_led t es ((strKind P w).hash k) (.str k tk)
    generalize layNew t es ((strKind P w).hash k) (.str k tk) = Z at z1 z2 z3 z4 ⊢
    obtain ⟨es1, t1, wasDummy, gave⟩ := Z
    dsimp only at z1 z2 z3 z4 ⊢
    rw [Array.toList_push] at z1
    have zc : es1.toList.Perm ((hashStr w k, Value.str k tk) :: es.toList) := z1.trans (List.perm_append_singleton _ _)
    have zk : (es1.toList.map keyS).Perm (k :: es.toList.map keyS) := zc.map keyS
    have good1 : ∀ e ∈ es1.toList, GoodS w e := fun e he => by
      rcases List.mem_cons.mp (zc.mem_iff.mp he) with z | z
      · subst z
        exact ⟨k, tk, rfl, rfl⟩
      · exact good e z
    have once1 : (es1.toList.map keyS).Nodup := zk.nodup_iff.mpr (List.nodup_cons.mpr ⟨new, once⟩)
    have mem1 : ∀ i, (S i || decide (i = k)) = true ↔ i ∈ es1.toList.map keyS := fun i => by
      rw [Bool.or_eq_true, decide_eq_true_eq, mem i, zk.mem_iff, List.mem_cons, or_comm]
    have size1 : es1.size = n + 1 := by
      have := zc.length_eq
      rw [Array.length_toList, List.length_cons, Array.length_toList, num] at this
      exact this
    have few1 : es1.size < scanBound := by omega
    have led1 : w.params.followText "set-order" = true ∨ t1.led = true := led.imp id fun z => by rw [z4]; exact z
    have last : ∀ h', Heap.SameBut a s.heap h' → SetS w h' a (fun j => S j || decide (j = k)) es1.size → Q true { s with heap := h' } := fun h' sb r => by
      have q := fin h' sb
      rw [fresh, if_neg Bool.false_ne_true, ← size1] at q
      exact q r
    refine wpAny_bind (gw _ ?_)
    split
    · refine wpAny_bind ?_
      rw [hashByValue_scannable 8 scn]
      refine wpAny_pure (tailS ?_ at_ ex dat good1 once1 mem1 few1 ?_ ?_ ?_ ?_)
      · intro b s₁ Q' q
        cases b
        · exact wpAny_pure q
        · exact wpAny_rule q
      · first | (split <;> first | exact z2 | exact SetTable.fits_plain_off z2) | exact z2
      · first | (split <;> exact z3) | exact z3
      · first | (split <;> exact led1) | exact led1
      · intro h' sb r
        dsimp only
        exact wpAny_pure (last h' sb r)
    · refine wpAny_bind (wpAny_pure ?_)
      simp only [↓reduceIte]
      refine tailS ?_ at_ ex dat good1 once1 mem1 few1 z2 z3 led1 ?_
      · intro b s₁ Q' q
        cases b
        · exact wpAny_pure q
        · exact wpAny_rule q
      · intro h' sb r
        dsimp only
        exact wpAny_pure (last h' sb r)
theorem setS_new {xs : List Str} (at_ : h.get? a = some { cls := .type "set", dict := none, data := .set #[] 0 (.fresh 0 0 (!w.params.followText "set-order")) }) : SetS w h a (fun j => decide (j ∈ xs.take 0)) 0 := by
  refine ⟨_, #[], 0, _, at_, ⟨rfl, rfl, rfl⟩, rfl, fun e he => by simp at he, by simp, fun k => by simp, by decide, by rfl, rfl, List.Pairwise.nil, ?_⟩
  show _ ∨ (!w.params.followText "set-order") = true
  cases w.params.followText "set-order" with
  | true => exact .inl rfl
  | false => exact .inr rfl
theorem loopS {I : Addr} {fp wr : List Addr} {G : Array GenState → Array GenState → Prop} {n : Nat} {Pv : Nat → Value → Prop} {St : Nat → Shared → Prop} {R : Result → Shared → Prop} (W : WalksS P w A.in1 I fp wr G n Pv St) (S : Addr) (off : S ∉ fp) (xs : List Str) (len : n = xs.length)
    (few : xs.length + 1 < scanBound) (val : ∀ i v, Pv i v → ∃ k t, xs[i]? = some k ∧ v = .str k t) : ∀ (k i : Nat) (s : Shared), n - i = k → i ≤ n → St i s → (∃ c, c ≤ i ∧ SetS w s.heap S (fun j => decide (j ∈ xs.take i)) c) →
      (∀ s' c, Moved (S :: wr) G s s' → c ≤ n → SetS w s'.heap S (fun j => decide (j ∈ xs)) c → R (.ok (.ret .none)) s') → codeAny (model P w) A (.builtin "set.update.loop" ⟨[.ref S, .ref I], []⟩) R s := by
  have offw : S ∉ wr := fun z => off (W.sub _ z)
  have wider : ∀ b ∈ wr, b ∈ S :: wr := fun b z => List.mem_cons_of_mem _ z
  intro k
  induction k with
  | zero =>
    intro i s ek le st ⟨c, hc, now⟩ fin
    obtain rfl : i = n := by omega
    refine codeAny_builtin F.entry_set_update_loop ?_
    rw [Around.under_plainId F.plain_set_update_loop _]
    refine wpAny_bind (W.done s _ _ st fun s' mv => wpAny_pure (fin s' c (mv.mono wider) hc ?_))
    rw [List.take_of_length_le (by omega)] at now
    exact now.at fun o e => mv.heap S o offw e
  | succ k ih =>
    intro i s ek le st ⟨c, hc, now⟩ fin
    have lt : i < n := by omega
    refine codeAny_builtin F.entry_set_update_loop ?_
    rw [Around.under_plainId F.plain_set_update_loop _]
    refine wpAny_bind (W.item i s _ _ lt st fun v s' pv st' mv => ?_)
    obtain ⟨z, t, hz, rfl⟩ := val i v pv
    have here : SetS w s'.heap S (fun j => decide (j ∈ xs.take i)) c := now.at fun o e => mv.heap S o offw e
    show wpAny _ A.in1 (holding [Value.str z t] (setAdd S (.str z t)) >>= _) _ _ s'
    refine wpAny_bind (wpAny_holding ?_)
    unfold setAdd
    refine wpAny_holding (wpAny_bind ((PySem.strKind P w).pyHash (k := z) (isS.mpr rfl) ?_))
    refine addS (s := { s' with toks := s'.toks + 1 }) here (by omega) fun h' sb after => ?_
    have after2 : SetS w h' S (fun j => decide (j ∈ xs.take (i + 1))) (if decide (z ∈ xs.take i) = true then c else c + 1) := after.congr fun j => by
      rw [List.take_add_one, hz]
      simp [List.mem_append]
    have le2 : (if decide (z ∈ xs.take i) = true then c else c + 1) ≤ i + 1 := by split <;> omega
    refine wpAny_pure ⟨plainId_quiet F.plain_set_update_loop _, ih (i + 1) _ (by omega) lt (W.frame _ s' _ _ st' (Nat.le_succ _) fun b hb o e => ?_) ⟨_, le2, after2⟩ fun s2 c2 mv2 hc2 done => ?_⟩
    · have nb : b ≠ S := fun q => off (q ▸ hb)
      rw [sb.2 b nb]
      exact e
    · refine fin s2 c2 (Moved.trans W.gtrans ((mv.mono wider).then_heap (Nat.le_succ _) fun b o hb e => ?_) mv2) hc2 done
      have nb : b ≠ S := fun q => hb (q ▸ List.mem_cons_self)
      rw [sb.2 b nb]
      exact e
end
section
variable {prog : Program} {w : World} {A : Around} {E : Value → Shared → Prop} {s : Shared}
set_option maxRecDepth 100000 in
set_option maxHeartbeats 3200000 in
theorem set_of_texts {l : Addr} {xs : Array Value} (ns : List Str) {Q : Value → Shared → Prop} (calm : A.handled = none) (isl : s.heap.IsList l xs) (hin : StrsAre xs.toList ns) (few : ns.length + 1 < scanBound)
    (fin : ∀ (g : Heap) (tk c : Nat), SetS w g s.heap.objs.size (fun j => decide (j ∈ ns)) c → c ≤ ns.length → (∀ b o, s.heap.get? b = some o → g.get? b = some o) → Q (.ref s.heap.objs.size) { s with heap := g, toks := tk }) :
    wpAny (model prog w) A (call (.type "set") [.ref l]) Q E s := by
  have size : xs.size = ns.length := by
    have := hin.length
    rwa [Array.length_toList] at this
  obtain ⟨m1, m2, hmro⟩ := F.called_set.mro
  have hm0 := F.called_set.made
  have hm1 := F.called_set.sub
  refine wpAny_call (codeAny_of_tree ?_)
  show wpAny _ _ (callAny (.type "set") _) _ _ _
  refine wpAny_pure ⟨Code.quiet_builtin _ (by decide +kernel), codeAny_builtin F.entry_type_call ?_⟩
  rw [Around.under_plain (weight_type_call_type "set" [.ref l] []) rfl]
  have hm2 := F.called_set.notType
  have hm3 := F.called_set.canCreate
  have hm4 := F.typeCall_set_1 (.ref l)
  repeat (any_goals (first | assumption | wp_step))
  refine codeAny_mono (code_set_led1 (.ref l) (E := E) (Q₁ := fun v s1 => v = .ref s.heap.objs.size ∧ s1 = { s with heap := s.heap.push (eSet w) }) ⟨rfl, rfl⟩) fun r s1 hr => ?_
  cases r with
  | error _ => exact hr
  | ok fl =>
    cases fl with
    | ret v =>
      obtain ⟨rfl, rfl⟩ := hr
      have at0 : (s.heap.push (eSet w)).get? s.heap.objs.size = some (eSet w) := Heap.get?_push_size _ rfl
      have ty0 : Shared.TypeIs { s with heap := s.heap.push (eSet w) } (.ref s.heap.objs.size) "set" := ⟨_, at0, rfl⟩
      have hi1 := F.called_set.init.lookup
      have hi2 := F.called_set.init.bind (.ref s.heap.objs.size)
      repeat (any_goals (first | assumption | wp_step))
      refine codeAny_mono (codeAny_call_builtin (R := wants (fun r s2 => r = .none ∧ ∃ g tk c, s2 = { s with heap := g, toks := tk } ∧ SetS w g s.heap.objs.size (fun j => decide (j ∈ ns)) c ∧ c ≤ ns.length ∧
          (∀ b o, s.heap.get? b = some o → g.get? b = some o)) E) F.called_set.init.plain F.entry_set_init (check_set_init_1 ty0 ?_)) fun r2 s2 hr2 => ?_
      · obtain ⟨ol, hol, hcl, nl, hdl⟩ := isl
        obtain ⟨k1, k2, k3, k4⟩ := ol
        simp only at hcl hdl
        subst hcl hdl
        have hol1 : (s.heap.push (eSet w)).get? l = some { cls := .type "list", dict := k2, data := .seq xs nl, slots := k4 } := Heap.get?_push_of_some _ hol
        have sub1 := F.sub_list_set
        have sub2 := F.sub_list_frozenset
        have nodict : (Value.type "list" == Value.type "dict") = false := by decide
        have isl1 : (s.heap.push (eSet w)).IsList l xs := ⟨_, hol1, rfl, nl, rfl⟩
        unfold Builtin.«set.__init__» noKeywords Builtin.Frozenset.updateFrom
        generalize hPI : pyIter = PI
        wp_walk
        subst hPI
        refine wpAny_pyIter_list isl1 ?_
        refine wpAny_bind (wpAny_runValue ?_)
        have lt0 : l < s.heap.objs.size := Heap.lt_size hol
        have calm3 : A.in1.in1.in1.handled = none := by simp [calm]
        have ne1 : l ≠ (s.heap.push (eSet w)).objs.size := by
          rw [Heap.size_push]
          exact Nat.ne_of_lt (Nat.lt_succ_of_lt lt0)
        have out1 : s.heap.objs.size ∉ [(s.heap.push (eSet w)).objs.size, l] := by
          rw [Heap.size_push]
          simp only [List.mem_cons, List.mem_singleton, List.not_mem_nil, or_false, not_or]
          exact ⟨Nat.ne_of_lt (Nat.lt_succ_self _), Nat.ne_of_gt lt0⟩
        have vals : ∀ (i : Nat) (v : Value), xs[i]? = some v → ∃ k t, ns[i]? = some k ∧ v = .str k t := fun i v hv => by
          have hi : i < ns.length := by
            rw [← size]
            exact (Array.getElem?_eq_some_iff.mp hv).1
          exact textAt hin i v (by rw [Array.getElem?_toList]; exact hv)
        refine loopS ((Walks.list calm3 _ l ne1 xs).toS) s.heap.objs.size out1 ns size few vals (xs.size - 0) 0 _ (by omega) (Nat.zero_le _) ⟨⟨_, Heap.get?_push_size _ rfl, rfl, rfl⟩, (isl1.push _)⟩ ?one ?two
        case one =>
          have at2 : ((s.heap.push (eSet w)).push { cls := .type "list_iterator", data := .fields #[.ref l, .int 0 0] }).get? s.heap.objs.size = some (eSet w) := Heap.get?_push_of_some _ at0
          exact ⟨0, Nat.le_refl 0, setS_new at2⟩
        case two =>
          intro s3 c3 mv hc3 R3
          obtain ⟨h3, g3, d3, t3, o3⟩ := s3
          have eg : g3 = s.gens := mv.gens
          have ed : d3 = s.drawn := mv.drawn
          have eo : o3 = s.os := mv.os
          subst eg ed eo
          show wpAny _ _ _ _ _ _
          refine wpAny_pure ?_
          show wpAny _ _ (ret Value.none) _ _ _
          rw [size] at hc3
          refine wpAny_pure ⟨rfl, h3, t3, c3, rfl, R3, hc3, fun b o e => ?_⟩
          have lb : b < s.heap.objs.size := Heap.lt_size e
          have nb1 : b ≠ s.heap.objs.size := Nat.ne_of_lt lb
          have nb2 : b ≠ (s.heap.push (eSet w)).objs.size := by
            rw [Heap.size_push]
            exact Nat.ne_of_lt (Nat.lt_succ_of_lt lb)
          refine mv.heap b o ?_ (Heap.get?_push_of_some _ (Heap.get?_push_of_some _ e))
          simp only [List.mem_cons, List.mem_singleton, List.not_mem_nil, or_false, not_or]
          exact ⟨nb1, nb2⟩
      · cases r2 with
        | error _ => exact hr2
        | ok fl2 =>
          cases fl2 with
          | ret _ =>
            obtain ⟨rfl, g, tk, c, rfl, R2, hc2, k2⟩ := hr2
            repeat (any_goals (first | assumption | wp_step))
            exact fin _ _ _ R2 hc2 k2
          | _ => exact hr2.elim
    | _ => exact hr.elim
end
end Nk
/-! ### sets of texts as values, texts sorted, dicts compared, own == and != -/
namespace Nk
open PySem L2 PySem.Spec PyProof.Rows
theorem sortedS_pw : ∀ {l : List Str}, sortedS l = true → l.Pairwise fun a b => ¬ sl b a
  | [], _ => .nil
  | [x], _ => by simp
  | x :: y :: r, h => by
    have h' : (!ltCps y.cps.toList x.cps.toList && risingS y r) = true := h
    rw [Bool.and_eq_true] at h'
    obtain ⟨h1, h2⟩ := h'
    have ih := sortedS_pw (l := y :: r) h2
    have hxy : ¬ sl y x := by rw [ltCps_eq] at h1; simpa [sl] using h1
    refine List.pairwise_cons.mpr ⟨fun z hz => ?_, ih⟩
    rcases List.mem_cons.mp hz with e | m
    · subst e; exact hxy
    · exact sl_ntrans hxy ((List.pairwise_cons.mp ih).1 z m)
theorem pw_strict {l : List Str} (h : l.Pairwise fun a b => ¬ sl b a) (nd : l.Nodup) : l.Pairwise sl := by
  refine List.Pairwise.imp (fun {a b} h => ?_) (h.and nd)
  obtain ⟨h1, h2⟩ := h
  by_cases c : sl a b
  · exact c
  · exact absurd (sl_tri c h1) h2
theorem strs_each : ∀ {us : List Value} {ks : List Str}, us.length = ks.length → (∀ (j : Nat) (v : Value), us[j]? = some v → ∃ (x : Str) (t : Tok), ks[j]? = some x ∧ v = Value.str x t) → StrsAre us ks
  | [], [], _, _ => .nil
  | [], _ :: _, hl, _ => by simp at hl
  | _ :: _, [], hl, _ => by simp at hl
  | u :: us, k :: ks, hl, h => by
    obtain ⟨x, t, e1, e2⟩ := h 0 u rfl
    obtain rfl : k = x := Option.some.inj e1
    subst e2
    refine .cons _ _ (strs_each (by simpa using hl) fun j v e => ?_)
    obtain ⟨x, t, a, b⟩ := h (j + 1) v (by simpa using e)
    exact ⟨x, t, by simpa using a, b⟩
def SetOS (w : World) (a : Addr) (S : Str → Bool) (n : Nat) : HO := .ext fun h => SetS w h a S n
theorem setOS_new {w : World} {P : Program} {H : Hp} {h : Heap} {a : Addr} {S : Str → Bool} {n : Nat} (R : SetS w h a S n) : ObjOk P w H h a (SetOS w a S n) := by
  obtain ⟨o, es, ep, t, ho, r⟩ := R
  exact ⟨⟨o, es, ep, t, ho, r⟩, ⟨o, ho⟩, fun h1 h2 p k => SetS.at p k⟩
section
variable {X : Cx}
def rSetLS (K : PySem.W.Frag) (w : World) : List V → Hp → VK → Prop := fun vs H Q => ∃ (a : Addr) (ns : List Str), vs = [V.ref a] ∧ SqL K H a (ns.map V.str) ∧ ns.length ≤ 4000 ∧
  ∀ (p : Addr) (c : Nat), H p = none → c ≤ ns.length → Q (.ref p) (upd H p (SetOS w p (fun j => decide (j ∈ ns)) c))
theorem cr_setLS (hc : X.calm = true) : CallR X (.type "set") (rSetLS X.K X.w) := by
  intro pins s σ H vs us Q I r h
  obtain ⟨a, ns, rfl, hs, hz, q⟩ := h
  obtain ⟨its, rv, hl, _⟩ := I.list hs
  rw [Vals.ref1 r]
  refine set_of_texts ns (I.ok.hd hc) hl.isList rv.strs (by unfold scanBound; omega) fun g tk c R hc k => ?_
  exact ⟨.ref _, _, I.laid (t' := tk) (o := SetOS X.w s.heap.objs.size (fun j => decide (j ∈ ns)) c) k (Nat.le_refl _) (setOS_new R), rfl, q _ c (I.hok.fresh (Nat.le_refl _)) hc⟩
/-- sorted of a set of texts -/
def rSortedSS (w : World) : List V → Hp → VK → Prop := fun vs H Q => ∃ (a : Addr) (S : Str → Bool) (n : Nat), vs = [V.ref a] ∧ H a = some (SetOS w a S n) ∧ n ≤ 10000 ∧
  ∀ (ns : List Str) (p : Addr), ns.Pairwise sl → (∀ k : Str, k ∈ ns ↔ S k = true) → H p = none → Q (.ref p) (upd H p (.lst (ns.map V.str)))
theorem cr_sortedSS (hcalm : X.calm = true) : CallR X (.builtin "sorted") (rSortedSS X.w) := by
  intro pins s σ H vs us Q I r h
  obtain ⟨a, S, n, rfl, ha, hn0, q⟩ := h
  rw [Vals.ref1 r]
  obtain ⟨o, es, ep, t, ho, hex, hd, g, nd, hm, hb, hf, hn, hr, hl⟩ := show SetS X.w s.heap a S n from (I.hok a _ ha).1
  refine Calls.call_function_entry PyProof.Rows.kind_sorted PyProof.Rows.plain_sorted PyProof.Rows.entry_sorted (PyProof.Rows.args_sorted1 _) ?_
  unfold Builtin.«sorted»
  refine wpAny_bind (m := checkCount "sorted" 1 1 _) (wpAny_pure ?_)
  refine wpAny_bind (collect_set (A := X.A.in1) (I.ok.hd hcalm) ⟨o, ho, hex.1, hd⟩ hf hb hr hl fun s1 us k1 hz g1 o1 pm => ?_)
  have hul : us.length = n := by
    rw [pm.length_eq, List.length_map, Array.length_toList]
    exact hn
  have hS : StrsAre us (us.map strOf) := strsAre_map us fun v hv => by
    obtain ⟨e, he, q⟩ := List.mem_map.mp (pm.mem_iff.mp hv)
    obtain ⟨k, tk, h1, _⟩ := g e he
    exact ⟨k, tk, by rw [← q]; exact h1⟩
  have pk : (us.map strOf).Perm (es.toList.map keyS) := by
    have z := pm.map strOf
    rw [List.map_map] at z
    refine z.trans (List.Perm.of_eq (List.map_congr_left fun e he => ?_))
    obtain ⟨k, tk, h1, _⟩ := g e he
    simp only [Function.comp, keyS, h1]
    rfl
  have hsz : us.length ≤ sizeLine := by
    rw [hul]
    exact sz (by omega)
  refine wpAny_bind (wpAny_newList ?_ hsz)
  have hoL : (s1.heap.push (seqObj "list" us.toArray 0)).get? s1.heap.objs.size = some (seqObj "list" us.toArray 0) := Heap.get?_push_size _ rfl
  refine wpAny_bind (wpAny_holding (wpAny_call_entry PyProof.Rows.slot_list_sort ⟨_, hoL, rfl⟩ PyProof.Rows.entry_list_sort
    (list_sort_treeKAny strKind_oneLt hoL hS.keysOf (fun v₁ v₂ rest e => keyKind_strs (by rw [← e]; exact hS)) hsz fun st' hp hs => ⟨_, rfl, ?_⟩) (PyProof.Rows.args_list_sort _)))
  obtain ⟨ss, c1, c2, c3⟩ := sorted_out_str hS hp hs
  generalize hout : (arrOf st').map (·.2) = out at c1 ⊢
  obtain ⟨e', he'⟩ := PyProof.Rows.sortedHeap_at (vs := us) (out := out) hoL
  have pn : ss.Perm (es.toList.map keyS) := c2.trans pk
  have hlen : (ss.map V.str).length ≤ sizeLine := by
    rw [List.length_map, c2.length_eq, List.length_map]
    exact hsz
  have hnone : H s1.heap.objs.size = none := I.hok.fresh hz
  have old : ∀ b u, s.heap.get? b = some u → (PyProof.Rows.sortedHeap (s1.heap.push (seqObj "list" us.toArray 0)) s1.heap.objs.size us out).get? b = some u := fun b u e => by
    have z := k1 b u e
    have lt := Heap.lt_size z
    rw [PyProof.Rows.sortedHeap_old (Nat.ne_of_lt lt) (by rw [size_push']; exact Nat.lt_succ_of_lt lt)]
    exact Heap.get?_push_of_some _ z
  have J : Inv X pins σ (upd H s1.heap.objs.size (.lst (ss.map V.str))) { s with heap := PyProof.Rows.sortedHeap (s1.heap.push (seqObj "list" us.toArray 0)) s1.heap.objs.size us out, gens := s1.gens, drawn := s1.drawn, toks := s1.toks } :=
    I.call (ch := []) (Un.laid old hz hnone) (I.hok.laid old hz ⟨hlen, out.toList, e', vals_of_strs c1, he'⟩) (by rw [g1]; exact I.bare) (fun _ z => nomatch z)
  refine wpAny_pure ⟨_, rfl, .ref s1.heap.objs.size, _, ?_, rfl, q _ _ (pw_strict (sortedS_pw c3) (pn.nodup_iff.mpr nd)) (fun k => by rw [pn.mem_iff, ← hm k]) hnone⟩
  have eo : s1.os = s.os := o1
  rw [← eo] at J
  exact J
/-- sorted(d.keys()), texts -/
def rSortedKS : List V → Hp → VK → Prop := fun xs H Q => ∃ (v d : Addr) (kvs : List (Key × V)) (ks : List Str), xs = [.ref v] ∧ H v = some (KeysO v d) ∧ H d = some (.dK kvs) ∧ kvs.map (·.1) = ks.map Sum.inr ∧ ks.Nodup ∧
  ∀ (ys : List Str) (p : Addr), ys.Pairwise sl → (∀ k, k ∈ ys ↔ k ∈ ks) → H p = none → Q (.ref p) (upd H p (.lst (ys.map V.str)))
theorem cr_sortedKS (hcalm : X.calm = true) : CallR X (.builtin "sorted") rSortedKS := by
  intro pins s σ H xs us Q I r q
  obtain ⟨v, a, kvs, ks, ex, hv, hd, hks, hnd, q⟩ := q
  subst ex
  obtain ⟨u, eu, rx⟩ := vals1 r
  subst eu
  cases rx
  have hview : PySem.W.KdlKeysView s.heap v a := (I.hok v _ hv).1
  obtain ⟨z, lo, vs, rel, dd⟩ := I.hok a _ hd
  obtain ⟨ep, hat⟩ := dd.dictAt
  have hkeys : vs.map (·.1) = ks.map Sum.inr := rel.keys.symm.trans hks
  have hl : vs.length = ks.length := by
    have e := congrArg List.length hkeys
    rw [List.length_map, List.length_map] at e
    exact e
  have hl2 : kvs.length = vs.length := Paired.length rel
  have h16 : vs.length ≤ sizeLine := by omega
  refine Calls.call_function_entry PyProof.Rows.kind_sorted PyProof.Rows.plain_sorted PyProof.Rows.entry_sorted (PyProof.Rows.args_sorted1 _) ?_
  unfold Builtin.«sorted»
  refine wpAny_bind (m := checkCount "sorted" 1 1 _) (wpAny_pure ?_)
  refine wpAny_bind (PySem.W.kdu_collect (A := X.A.in1) (PySem.W.kdl_keys (knd := mixKind X.prog X.w) (r := v) (d := a) (kvs := vs) (ep := ep)) (I.ok.hd hcalm) ⟨hview, hat⟩ h16 fun h' tk acc hk hacc => ?_)
  have hal : acc.toList.length = ks.length := by rw [Array.length_toList, hacc.1, hl]
  have hS : StrsAre acc.toList ks := strs_each hal fun j v e => by
    obtain ⟨k, x, e1, e2⟩ := hacc.2 j v (by rw [← Array.getElem?_toList]; exact e)
    have e3 : (vs.map (·.1))[j]? = some k := by rw [List.getElem?_map, e1]; rfl
    rw [hkeys, List.getElem?_map] at e3
    cases e4 : ks[j]? with
    | none => rw [e4] at e3; cases e3
    | some y =>
      rw [e4] at e3
      have e5 : Sum.inr y = k := Option.some.inj e3
      subst e5
      rcases keyIs_shape (show keyIs (Sum.inr y) v = true from e2) with ⟨i, t, ek, ev⟩ | ⟨z, t, ek, ev⟩
      · cases ek
      · cases ek
        exact ⟨y, t, rfl, ev⟩
  have hsz : acc.toList.length ≤ sizeLine := by rw [hal]; omega
  have I1 : Inv X pins σ H { s with heap := h', toks := tk } := I.kept hk
  refine wpAny_bind (wpAny_newList ?_ hsz)
  have hoL : (h'.push (seqObj "list" acc.toList.toArray 0)).get? h'.objs.size = some (seqObj "list" acc.toList.toArray 0) := Heap.get?_push_size _ rfl
  show wpAny _ _ _ _ _ { s with heap := h'.push (seqObj "list" acc.toList.toArray 0), toks := tk }
  refine wpAny_bind (wpAny_holding (wpAny_call_entry PyProof.Rows.slot_list_sort ⟨_, hoL, rfl⟩ PyProof.Rows.entry_list_sort
    (list_sort_treeKAny (s := { s with heap := h'.push (seqObj "list" acc.toList.toArray 0), toks := tk }) strKind_oneLt hoL hS.keysOf (fun v₁ v₂ rest e => keyKind_strs (by rw [← e]; exact hS)) hsz fun st' hp hs => ⟨_, rfl, ?_⟩) (PyProof.Rows.args_list_sort _)))
  obtain ⟨ss, k1, k2, k3⟩ := sorted_out_str hS hp hs
  generalize hout : (arrOf st').map (·.2) = out at k1 ⊢
  obtain ⟨e', he'⟩ := PyProof.Rows.sortedHeap_at (vs := acc.toList) (out := out) hoL
  have hlen : (ss.map V.str).length ≤ sizeLine := by
    rw [List.length_map, k2.length_eq]
    omega
  refine wpAny_pure ⟨_, rfl, .ref h'.objs.size, upd H h'.objs.size (.lst (ss.map V.str)), I1.laid (t' := tk) (fun b u e => ?_) (Nat.le_refl _)
    (show ObjOk X.prog X.w _ _ _ (.lst (ss.map V.str)) from ⟨hlen, out.toList, e', vals_of_strs k1, he'⟩), rfl, q _ _ (pw_strict (sortedS_pw k3) (k2.nodup_iff.mpr hnd)) (fun k => k2.mem_iff) (I1.hok.fresh (Nat.le_refl _))⟩
  have hb : b < h'.objs.size := Heap.lt_size e
  rw [PyProof.Rows.sortedHeap_old (Nat.ne_of_lt hb) (by rw [size_push']; exact Nat.lt_succ_of_lt hb)]
  exact Heap.get?_push_of_some _ e
/-- list(d.keys()) -/
def rListKeys : List V → Hp → VK → Prop := fun xs H Q => ∃ (v a : Addr) (kvs : List (Key × V)), xs = [.ref v] ∧ H v = some (KeysO v a) ∧ H a = some (.dK kvs) ∧ ∀ p, H p = none → Q (.ref p) (upd H p (.lst (kvs.map fun kv => kV kv.1)))
theorem call_listKeys (hcalm : X.calm = true) : CallR X (.type "list") rListKeys := by
  intro pins s σ H xs us Q I r q
  obtain ⟨v, a, kvs, rfl, hv, hd, q⟩ := q
  rw [Vals.ref1 r]
  have hview : PySem.W.KdlKeysView s.heap v a := (I.hok v _ hv).1
  obtain ⟨z, lo, vs, rel, dd⟩ := I.hok a _ hd
  obtain ⟨ep, hat⟩ := dd.dictAt
  have ek : (kvs.map fun kv => kV kv.1) = vs.map fun p => kV p.1 := by
    have e := congrArg (List.map kV) rel.keys
    rw [List.map_map, List.map_map] at e
    exact e
  refine PySem.W.kdl_call (PySem.W.kdl_keys (knd := mixKind X.prog X.w) (r := v) (d := a) (kvs := vs) (ep := ep)) (I.ok.hd hcalm) ⟨hview, hat⟩ (by rw [← rel.length]; exact z) fun h' tk acc c' hk hD hacc => ?_
  have hv : Vals (vs.map fun p => kV p.1) acc.toList := keys_at (by rw [Array.length_toList]; exact hacc.1) fun j v e => hacc.2 j v (by rw [← Array.getElem?_toList]; exact e)
  exact ⟨.ref s.heap.objs.size, upd H s.heap.objs.size (.lst (kvs.map fun kv => kV kv.1)), I.laid (t' := tk) hk (Nat.le_refl _)
    (show ObjOk X.prog X.w _ _ _ (.lst (kvs.map fun kv => kV kv.1)) from ⟨by rw [List.length_map]; exact z, acc.toList, c', by rw [ek]; exact hv, by rw [Array.toArray_toList]; exact hD⟩), rfl, q _ (I.hok.fresh (Nat.le_refl _))⟩
/-! dicts compared -/
def hitB (ls : List (Key × V)) : List (Key × V) → Bool
  | [] => true
  | p :: r => match valV ls p.1 with
    | none => false
    | some u => eqV p.2 u && hitB ls r
def eqDk (ks ls : List (Key × V)) : Bool := ks.length == ls.length && hitB ls ks
def FlatK (ks : List (Key × V)) : Prop := ∀ p ∈ ks, flatV p.2 = true
theorem FlatK.val {ls : List (Key × V)} (h : FlatK ls) {k : Key} {u : V} (e : valV ls k = some u) : flatV u = true := by
  unfold valV at e
  cases e2 : ls.find? fun kv => decide (kv.1 = k) with
  | none => rw [e2] at e; cases e
  | some p =>
    rw [e2] at e
    have := h p (List.mem_of_find?_eq_some e2)
    have e3 : p.2 = u := Option.some.inj e
    rw [← e3]; exact this
theorem hits_any {A : Around} {s : Shared} {ls : List (Key × V)} {vb : List (Key × Value)} (rb : L2.KV ls vb) (fb : FlatK ls) {ks : List (Key × V)} {va : List (Key × Value)} (ra : L2.KV ks va) : FlatK ks → PySem.W.KeqHits A s vb va (hitB ls ks) := by
  unfold L2.KV at ra
  induction ra with
  | nil => intro _; exact .nil
  | @cons p q ps qs h t ih =>
    intro hp
    obtain ⟨h1, h2⟩ := h
    obtain ⟨k, v⟩ := q
    have h1' : p.1 = k := h1
    have rr := rb.val p.1
    unfold hitB
    cases e : valV ls p.1 with
    | none =>
      rw [e] at rr
      have : valueAt vb k = none := by
        rw [← h1']
        cases e2 : valueAt vb p.1 with
        | none => rfl
        | some y => rw [e2] at rr; cases rr
      exact .miss this
    | some u =>
      rw [e] at rr
      obtain ⟨y, hy, ry⟩ := rr.some_of
      rw [h1'] at hy
      exact .hit hy (eqAt_V h2 ry (hp p List.mem_cons_self) (fb.val e)) (ih fun p' hm => hp p' (List.mem_cons_of_mem _ hm))
def rEqDk (neg : Bool) : R2 := fun x y H Q => ∃ a b ks ls, x = .ref a ∧ y = .ref b ∧ H a = some (.dK ks) ∧ H b = some (.dK ls) ∧ FlatK ks ∧ FlatK ls ∧ Q (.bl (if neg then !eqDk ks ls else eqDk ks ls)) H
theorem op_eqDk (hu : X.A.units < cLine) : OpR X (compareOp .Eq) (rEqDk false) := by
  intro pins s σ H x y v u Q I rx ry h
  obtain ⟨a, b, ks, ls, rfl, rfl, ea, eb, fa, fb, q⟩ := h
  obtain rfl : v = Value.ref a := rx
  obtain rfl : u = Value.ref b := ry
  obtain ⟨_, ya, va, ra, da⟩ := (show ObjOk X.prog X.w H s.heap a (.dK ks) from I.hok a _ ea)
  obtain ⟨_, yb, vb, rb, db⟩ := (show ObjOk X.prog X.w H s.heap b (.dK ls) from I.hok b _ eb)
  have hl : (va.length == vb.length) = (ks.length == ls.length) := by rw [← ra.length, ← rb.length]
  exact PySem.W.keq_eq (knd := mixKind X.prog X.w) (r := hitB ls ks) ya yb da db hu (fun _ => hits_any rb fb ra fa) (fin_bl I q (by rw [hl]; rfl))
theorem op_neDk (hu : X.A.units < cLine) : OpR X (compareOp .NotEq) (rEqDk true) := by
  intro pins s σ H x y v u Q I rx ry h
  obtain ⟨a, b, ks, ls, rfl, rfl, ea, eb, fa, fb, q⟩ := h
  obtain rfl : v = Value.ref a := rx
  obtain rfl : u = Value.ref b := ry
  obtain ⟨_, ya, va, ra, da⟩ := (show ObjOk X.prog X.w H s.heap a (.dK ks) from I.hok a _ ea)
  obtain ⟨_, yb, vb, rb, db⟩ := (show ObjOk X.prog X.w H s.heap b (.dK ls) from I.hok b _ eb)
  have hl : (va.length == vb.length) = (ks.length == ls.length) := by rw [← ra.length, ← rb.length]
  exact PySem.W.keq_ne (knd := mixKind X.prog X.w) (r := hitB ls ks) ya yb da db hu (fun _ => hits_any rb fb ra fa) (fin_bl I q (by rw [hl]; rfl))
/-- d.update(another dict) -/
def rUpdD : V → List V → Hp → VK → Prop := fun x xs H Q => ∃ (a b : Addr) (ks ls : List (Key × V)), x = .ref a ∧ xs = [.ref b] ∧ a ≠ b ∧ H a = some (.dK ks) ∧ H b = some (.dK ls) ∧ ks.length + ls.length ≤ 100000 ∧ Q .non (upd H a (.dK (mergeK ks ls)))
theorem mergeK_len : ∀ (ls ks : List (Key × V)), (mergeK ks ls).length ≤ ks.length + ls.length
  | [], ks => Nat.le_refl _
  | p :: r, ks => by
    have h1 := mergeK_len r (putK ks p.1 p.2)
    have h2 := length_putK ks p.1 p.2
    show (mergeK (putK ks p.1 p.2) r).length ≤ _
    rw [List.length_cons]
    omega
theorem mt_updD : MtR X "dict.update" rUpdD := by
  intro pins s σ H x xs v us Q I rx rxs h
  obtain ⟨a, b, ks, ls, rfl, rfl, hab, ea, eb, hz, q⟩ := h
  cases rx
  rw [Vals.ref1 rxs]
  obtain ⟨_, ya, va, ra, da⟩ := (show ObjOk X.prog X.w H s.heap a (.dK ks) from I.hok a _ ea)
  obtain ⟨_, yb, vb, rb, db⟩ := (show ObjOk X.prog X.w H s.heap b (.dK ls) from I.hok b _ eb)
  refine call_meetsIn F.slot_dict_update da.typeIs F.entry_dict_update (F.args_dict_update_2 _ _) (meets_dict_update (mixKind X.prog X.w) a b hab yb) ⟨va, vb, da, db, by rw [← ra.length, ← rb.length]; exact sz hz, fun h' hm _ hs => ?_⟩
  have he : ∃ q, h'.get? a = some q := let ⟨q, _, _, hq, _⟩ := hm; ⟨q, hq⟩
  have hl := mergeK_len ls ks
  exact ⟨.non, _, d_write I (by rw [ea]; exact True.intro) hs he (dk_new (sz (by omega)) ya (L2.KV.merge rb ra) hm), rfl, q⟩
end
/-! own == and != -/
section
variable {X : Cx} {CX : CXT} {k : Nat} {ps : List Str} {sp : Sp} {c : Str} {E : XK}
/-- a class with an own __eq__, its != is object's -/
structure Eo2 (K : PySem.W.Frag) (mg : Str → Option Value) (c : Str) : Prop where
  ne : PySem.W.findIn K (.ref (cls mg c)) "__ne__" = some (some (.builtin "object.__ne__"))
  sub : PySem.W.subIn K (.ref (cls mg c)) (.type "object") = some true
  ha : PySem.W.findIn K (.ref (cls mg c)) "__class__" = some (some (.builtin "object.__class__"))
  hn : PySem.W.specialIn K (.builtin "object.__class__") "__get__" = some (some (.builtin "getset_descriptor.__get__"))
  htk : PySem.W.takesIn K (.builtin "object.__class__") = some true
  hm : PySem.W.mroIn K (cls mg c) (.type "object") = some true
theorem eo2_mk {K : PySem.W.Frag} {h : Heap} {mg : Str → Option Value} {c : Str} {C : Addr} (X : K.In h) (G : h.Ns mainGlobals mg) (aC : PySem.W.nsIn K mainGlobals c = some (some (.ref C)))
    (ne : PySem.W.findIn K (.ref C) "__ne__" = some (some (.builtin "object.__ne__"))) (sub : PySem.W.subIn K (.ref C) (.type "object") = some true)
    (ha : PySem.W.findIn K (.ref C) "__class__" = some (some (.builtin "object.__class__"))) (hn : PySem.W.specialIn K (.builtin "object.__class__") "__get__" = some (some (.builtin "getset_descriptor.__get__")))
    (htk : PySem.W.takesIn K (.builtin "object.__class__") = some true) (hm : PySem.W.mroIn K C (.type "object") = some true) : Eo2 K mg c := by
  have e := cls_of (PySem.W.mg_of X G aC)
  exact ⟨by rw [e]; exact ne, by rw [e]; exact sub, by rw [e]; exact ha, hn, htk, by rw [e]; exact hm⟩
/-- isinstance of an instance and its own class -/
theorem isi_own {K : PySem.W.Frag} {H : Hp} {mg : Str → Option Value} {c : Str} {a dx : Addr} {fs : List (Str × V)} {Q : VK} (O : Oc K mg c) (N : Eo2 K mg c) (h : H a = some (.ins (cls mg c) dx fs)) (q : Q (.bl true) H) : rIsi K [.ref a, .ref (cls mg c)] H Q :=
  ⟨_, _, _, _, true, rfl, .own _, .base (.ins h O.cl N.ha N.hn N.htk N.hm), by unfold PySem.W.kitOne; simp, q⟩
/-- a class that is no int -/
structure Eo3 (K : PySem.W.Frag) (mg : Str → Option Value) (c : Str) : Prop where
  tp : PySem.W.typeIn K (.ref (cls mg c)) = some (.type "type")
  ni : PySem.W.mroIn K (cls mg c) (.type "int") = some false
theorem eo3_mk {K : PySem.W.Frag} {h : Heap} {mg : Str → Option Value} {c : Str} {C : Addr} (X : K.In h) (G : h.Ns mainGlobals mg) (aC : PySem.W.nsIn K mainGlobals c = some (some (.ref C)))
    (tp : PySem.W.typeIn K (.ref C) = some (.type "type")) (ni : PySem.W.mroIn K C (.type "int") = some false) : Eo3 K mg c := by
  have e := cls_of (PySem.W.mg_of X G aC)
  exact ⟨by rw [e]; exact tp, by rw [e]; exact ni⟩
def allTy (l : List Value) : Bool := l.all fun v => match v with
  | .type _ => true
  | _ => false
theorem mro_ty : ∀ n ∈ tyNames, (PySem.fastBuiltinMro n).map allTy = some true := by decide +kernel
/-- isinstance of a thing and an own class -/
theorem isi_not {K : PySem.W.Frag} {H : Hp} {mg : Str → Option Value} {c : Str} {x : V} {n : String} {Q : VK} (N : Eo2 K mg c) (N3 : Eo3 K mg c) (h : Thing K H x n) (q : Q (.bl false) H) : rIsi K [x, .ref (cls mg c)] H Q := by
  refine ⟨_, _, .type n, .ref (cls mg c), false, rfl, .own _, h.ty, ?_, q⟩
  unfold PySem.W.kitOne
  rw [if_neg (by intro z; exact nomatch (beq_iff_eq.mp z))]
  have hs : (PySem.W.clsIn K (cls mg c)).isSome = true := by
    have := N.hm
    unfold PySem.W.mroIn at this
    obtain ⟨cd, a, _⟩ := Option.bind_eq_some_iff.mp this
    rw [a]; rfl
  show (if ((PySem.W.clsIn K (cls mg c)).isSome && PySem.W.typeIn K (.ref (cls mg c)) == some (.type "type")) = true then PySem.W.subIn K (.type n) (.ref (cls mg c)) else none) = _
  rw [hs, N3.tp, if_pos (by rfl)]
  obtain ⟨l, e1, e2⟩ := Option.map_eq_some_iff.mp (mro_ty n h.mem)
  show (PySem.fastBuiltinMro n).map (·.contains (.ref (cls mg c))) = _
  rw [e1]
  show some (l.contains (Value.ref (cls mg c))) = some false
  rw [Option.some.injEq, List.contains_eq_any_beq, List.any_eq_false]
  intro v hv z
  have := List.all_eq_true.mp e2 v hv
  rw [← beq_iff_eq.mp z] at this
  exact nomatch this
/-- isinstance of an own instance and int -/
theorem isi_ownI {K : PySem.W.Frag} {H : Hp} {mg : Str → Option Value} {c : Str} {a dx : Addr} {fs : List (Str × V)} {Q : VK} (O : Oc K mg c) (N : Eo2 K mg c) (N3 : Eo3 K mg c) (h : H a = some (.ins (cls mg c) dx fs)) (q : Q (.bl false) H) : rIsi K [.ref a, .ty "int"] H Q := by
  refine ⟨_, _, .ref (cls mg c), .type "int", false, rfl, .ty _, .base (.ins h O.cl N.ha N.hn N.htk N.hm), ?_, q⟩
  unfold PySem.W.kitOne
  rw [if_neg (by intro z; exact nomatch (beq_iff_eq.mp z))]
  show (if PySem.W.kitMeta "int" = true then PySem.W.subIn K (.ref (cls mg c)) (.type "int") else none) = _
  rw [if_pos (by decide +kernel)]
  exact N3.ni
def rEqO (C : Addr) (sp : Sp) (E : XK) (neg : Bool) : R2 := fun x y H Q => ∃ a b dx dy fs gs, x = .ref a ∧ y = .ref b ∧ H a = some (.ins C dx fs) ∧ H b = some (.ins C dy gs) ∧ sp [.ref a, .ref b] H (fun v H' => ∃ r, v = .bl r ∧ Q (.bl (if neg then !r else r)) H') E
theorem op_eqO (M : Mo X.prog X.w X.K X.mg X.base CX k c "__eq__" ps sp) (hr : Room k X.A) (hx : Passes CX X E) : OpR X (compareOp .Eq) (rEqO (cls X.mg c) sp E false) := by
  intro pins s σ H x y v u Q I rx ry h
  obtain ⟨a, b, dx, dy, fs, gs, rfl, rfl, ha, hb, q⟩ := h
  cases rx
  cases ry
  obtain ⟨f, fd, h1, h2, h3⟩ := M.ex
  obtain ⟨mA, J, _⟩ := ins_get I.hok ha
  obtain ⟨mB, J', _⟩ := ins_get I.hok hb
  obtain ⟨od, J, _⟩ := J.look
  obtain ⟨od', J', _⟩ := J'.look
  obtain ⟨m, hF⟩ := I.fr
  have hl := h3.len _ _ _ _ q
  have r2 : Vals [V.ref a, V.ref b] [Value.ref a, Value.ref b] := .cons rfl (.cons rfl .nil)
  refine PySem.W.cmp_K (op := .Eq) (tb := .ref (cls X.mg c)) hr.units0 hF I.ok.mod.kin J J'.type (by simp [PySem.W.notFirst]) h1.at_ h1.fn ?_
  refine wpAny_call (codeAny_mono (h3.run X.A X.stack s H ⟨[.ref a, .ref b], []⟩ [.ref a, .ref b] [.ref a, .ref b] _ E hr I.env0 (by
    have := h2 s [.ref a, .ref b] I.kIn (by simpa using hl)
    simpa using this) r2 q) fun r s' hq => ?_)
  cases r with
  | error e => exact hx pins σ H s e s' I hq
  | ok fl =>
    cases fl with
    | ret w =>
      obtain ⟨z, H', I', rz, r, ez, q2⟩ := I.after hq
      subst ez
      cases rz
      exact ⟨.bl r, H', I', rfl, q2⟩
    | next => exact False.elim hq
    | brk => exact False.elim hq
    | cont => exact False.elim hq
theorem ifBound_B {prog : Program} {w : World} {A : Around} {E' : Value → Shared → Prop} {s : Shared} {K : PySem.W.Frag} {a C : Addr} {ox : Obj} {od : Option Obj} {name : Str} {id : String} {args : List Value} {Q : Option Value → Shared → Prop} (X : K.In s.heap) (I : PySem.W.InstAt s.heap a ox C od)
    (hs : PySem.W.findIn K (.ref C) name = some (some (.builtin id))) (hb : ∀ self, bindSpecial (.builtin id) self = pure (.builtin id, [self])) (h : wpAny (model prog w) A (call (.builtin id) (.ref a :: args)) (fun v => Q (some v)) E' s) : wpAny (model prog w) A (callSpecialIfBound? (.ref a) name args) Q E' s := by
  simp only [callSpecialIfBound?, bindSpecialIfBound?]
  refine wpAny_holding (wpAny_bind (wpAny_bind (wpAny_bind (I.type.here ((PySem.W.looks_findIn X hs).here ?_)))))
  simp only [hb]
  have fin : wpAny (model prog w) A (call (.builtin id) ([.ref a] ++ args) >>= fun v => pure (some v)) Q E' s := wpAny_bind (wpAny_mono h (fun v s' h' => wpAny_pure h') fun _ _ h' => h')
  refine wpAny_bind (wpAny_askSetting (wpAny_ite ?_))
  split
  · exact wpAny_bind (wpAny_pure (wpAny_pure fin))
  · exact wpAny_tryCatch (wpAny_bind (wpAny_pure (wpAny_pure fin)))
theorem op_neO (N : Eo2 X.K X.mg c) (M : Mo X.prog X.w X.K X.mg X.base CX k c "__eq__" ps sp) (hr : Room (k + 1) X.A) (hx : Passes CX X E) : OpR X (compareOp .NotEq) (rEqO (cls X.mg c) sp E true) := by
  intro pins s σ H x y v u Q I rx ry h
  obtain ⟨a, b, dx, dy, fs, gs, rfl, rfl, ha, hb, q⟩ := h
  cases rx
  cases ry
  obtain ⟨f, fd, h1, h2, h3⟩ := M.ex
  obtain ⟨mA, J, _⟩ := ins_get I.hok ha
  obtain ⟨mB, J', _⟩ := ins_get I.hok hb
  obtain ⟨od, J, _⟩ := J.look
  obtain ⟨od', J', _⟩ := J'.look
  obtain ⟨m, hF⟩ := I.fr
  have hK := I.kIn
  have hl := h3.len _ _ _ _ q
  have r2 : Vals [V.ref a, V.ref b] [Value.ref a, Value.ref b] := .cons rfl (.cons rfl .nil)
  show wpAny (model X.prog X.w) X.A (richCompare .NotEq (.ref a) (.ref b)) (EP X pins σ Q) X.xe s
  have eqc : wpAny (model X.prog X.w) X.A.in1 (call (.ref f) [.ref a, .ref b]) (fun v s' => ∃ r, v = .bool r ∧ EP X pins σ Q (.bool (!r)) s') X.xe s := by
    refine wpAny_call (codeAny_mono (h3.run X.A.in1 X.stack s H ⟨[.ref a, .ref b], []⟩ [.ref a, .ref b] [.ref a, .ref b] _ E hr.in1 I.env0.in1 (by
      have := h2 s [.ref a, .ref b] I.kIn (by simpa using hl)
      simpa using this) r2 q) fun r s' hq => ?_)
    cases r with
    | error e => exact hx pins σ H s e s' I hq
    | ok fl =>
      cases fl with
      | ret w =>
        obtain ⟨z, H', I', rz, r, ez, q2⟩ := I.after hq
        subst ez
        cases rz
        exact ⟨r, rfl, .bl _, H', I', rfl, q2⟩
      | next => exact False.elim hq
      | brk => exact False.elim hq
      | cont => exact False.elim hq
  have t2 : PySem.W.Looks (model X.prog X.w) s.heap (isInstance (.ref a) (.type "object")) true := J.type.andThen (PySem.W.looks_subIn hK N.sub)
  have one : wpAny (model X.prog X.w) X.A (tryCompare (.ref a) "__ne__" (.ref b)) (fun r s' => ∃ v, r = some v ∧ EP X pins σ Q v s') X.xe s := by
    unfold tryCompare
    refine wpAny_bind (ifBound_B hK J N.ne PySem.F.slot_object_ne.bind (wpAny_call (codeAny_call_builtin PySem.F.slot_object_ne.plain PySem.F.entry_object_ne
      (@PySem.W.check_slot (model X.prog X.w) _ _ _ "object.__ne__" "object" "__ne__" (.ref a) [.ref b] [] _ (by decide +kernel) (by decide +kernel) t2 (PySem.F.args_object_ne_2 _ _) ?_))))
    unfold Builtin.«object.__ne__»
    refine wpAny_bind (wpAny_pure ?_)
    refine wpAny_bind (wpAny_cRoomFor (by have := hr.units; show X.A.units + 1 < _; omega) ?_)
    refine wpAny_bind (PySem.W.ifBound_K hK J h1.at_ h1.fn (wpAny_mono eqc (fun v s' hv => ?_) fun _ _ e => e))
    obtain ⟨r, rfl, q2⟩ := hv
    refine wpAny_bind (wpAny_truthy_bool ?_)
    exact wpAny_pure (wpAny_pure ⟨_, rfl, q2⟩)
  unfold richCompare
  simp only [oneThing_ref]
  refine wpAny_holding (wpAny_bind (wpAny_cRoomFor hr.units0 ?_))
  refine wpAny_bind (J.type.here (wpAny_bind (J'.type.here ?_)))
  rw [if_neg (by simp)]
  refine wpAny_bind (wpAny_pure ?_)
  simp only [Bool.false_eq_true, if_false]
  refine wpAny_bind (wpAny_mono one (fun r s' z => ?_) fun _ _ e => e)
  obtain ⟨v, rfl, hq⟩ := z
  exact wpAny_pure hq
/-- a list of texts of the top -/
structure Cl (K : PySem.W.Frag) (mg : Str → Option Value) (x : Str) (ss : List Str) : Prop where
  g : mg x = some (.ref (cls mg x))
  l : ∃ (o : Obj) (its : Array Value) (n : Nat), K.lookup (cls mg x) = some o ∧ o.cls = .type "list" ∧ o.dict = none ∧ o.data = .seq its n ∧ its.size ≤ sizeLine ∧ Vals (ss.map V.str) its.toList
theorem Cl.sq {K : PySem.W.Frag} {mg : Str → Option Value} {x : Str} {ss : List Str} (h : Cl K mg x ss) (H : Hp) : SqL K H (cls mg x) (ss.map V.str) := .inr h.l
theorem cl_mk {K : PySem.W.Frag} {h : Heap} {mg : Str → Option Value} {x : Str} {C : Addr} {s1 s2 s3 : Str} {t1 t2 t3 : Tok} {n : Nat} {sl : Array (Option Value)} (X : K.In h) (G : h.Ns mainGlobals mg) (a : PySem.W.nsIn K mainGlobals x = some (some (.ref C)))
    (l : K.lookup C = some ⟨.type "list", none, .seq #[.str s1 t1, .str s2 t2, .str s3 t3] n, sl⟩) : Cl K mg x [s1, s2, s3] := by
  have e := cls_of (PySem.W.mg_of X G a)
  exact ⟨by rw [e]; exact PySem.W.mg_of X G a, by rw [e]; exact ⟨_, _, _, l, rfl, rfl, rfl, by show 3 ≤ sizeLine; decide, .cons ⟨_, rfl⟩ (.cons ⟨_, rfl⟩ (.cons ⟨_, rfl⟩ .nil))⟩⟩
end
end Nk
namespace Nk
open PySem L2
def top (i : Nat) : Stmt := PySem.Challenge.pw_nightkeep_k76_refused_sendings.main.body.getD i (.Pass ⟨0, 0, 0, 0⟩)
abbrev s_Elder____init__ : Stmt := inClass (top 7) 0
abbrev s_is_number : Stmt := top 21
abbrev s_is_name : Stmt := top 25
abbrev s_is_state : Stmt := top 26
abbrev s_State____init__ : Stmt := inClass (top 27) 0
abbrev s_State____len__ : Stmt := inClass (top 27) 1
abbrev s_State____eq__ : Stmt := inClass (top 27) 2
abbrev s_State____str__ : Stmt := inClass (top 27) 3
abbrev s_State____repr__ : Stmt := inClass (top 27) 4
abbrev s_State__number : Stmt := inClass (top 27) 5
abbrev s_State__names : Stmt := inClass (top 27) 6
abbrev s_State__plain : Stmt := inClass (top 27) 7
abbrev s_part_of : Stmt := top 28
abbrev s_is_place : Stmt := top 30
abbrev s_best_base : Stmt := top 31
abbrev s_sending : Stmt := top 32
abbrev s__law_town : Stmt := top 34
abbrev s__law_draw : Stmt := top 35
abbrev s__law_pick : Stmt := top 36
abbrev s__law_word : Stmt := top 37
abbrev s__law_refused : Stmt := top 38
abbrev s__law_told : Stmt := top 39
abbrev s__law_whole : Stmt := top 40
abbrev s__law_name : Stmt := top 41
abbrev s__law_table : Stmt := top 42
abbrev s__law_one : Stmt := top 43
abbrev s__law_place_good : Stmt := top 44
abbrev s__law_place : Stmt := top 45
abbrev s__law_spoilt : Stmt := top 46
abbrev s_law : Stmt := top 47
/-- what the walks ask of the top as it stands when it has run -/
structure Txt (K : PySem.W.Frag) (mg : Str → Option Value) : Prop where
  d_is_number : Df K mg "is_number" "is_number" s_is_number ["thing", "least", "most"]
  d_is_name : Df K mg "is_name" "is_name" s_is_name ["thing"]
  d_is_state : Df K mg "is_state" "is_state" s_is_state ["thing"]
  d_part_of : Df K mg "part_of" "part_of" s_part_of ["one", "other"]
  d_is_place : Df K mg "is_place" "is_place" s_is_place ["thing"]
  d_best_base : Df K mg "best_base" "best_base" s_best_base ["state", "have"]
  d_sending : Df K mg "sending" "sending" s_sending ["mine", "its"]
  d__law_town : Df K mg "_law_town" "_law_town" s__law_town ["script"]
  d__law_draw : Df K mg "_law_draw" "_law_draw" s__law_draw ["script", "town", "many"]
  d__law_pick : Df K mg "_law_pick" "_law_pick" s__law_pick ["script", "town", "some"]
  d__law_word : Df K mg "_law_word" "_law_word" s__law_word ["caught"]
  d__law_refused : Df K mg "_law_refused" "_law_refused" s__law_refused ["word"]
  d__law_told : Df K mg "_law_told" "_law_told" s__law_told ["kind", "some"]
  d__law_whole : Df K mg "_law_whole" "_law_whole" s__law_whole ["thing"]
  d__law_name : Df K mg "_law_name" "_law_name" s__law_name ["script", "town", "names"]
  d__law_table : Df K mg "_law_table" "_law_table" s__law_table ["script", "town", "many"]
  d__law_one : Df K mg "_law_one" "_law_one" s__law_one ["kind", "some"]
  d__law_place_good : Df K mg "_law_place_good" "_law_place_good" s__law_place_good ["thing"]
  d__law_place : Df K mg "_law_place" "_law_place" s__law_place ["script", "town"]
  d__law_spoilt : Df K mg "_law_spoilt" "_law_spoilt" s__law_spoilt ["script", "town", "some"]
  d_law : Df K mg "law" "law" s_law ["script"]
  x_KeepError : Xc K mg "KeepError" (cls mg "KeepError")
  x_BadRounds : Xc K mg "BadRounds" (cls mg "BadRounds")
  x_BadNight : Xc K mg "BadNight" (cls mg "BadNight")
  x_BadNumber : Xc K mg "BadNumber" (cls mg "BadNumber")
  x_BadRules : Xc K mg "BadRules" (cls mg "BadRules")
  x_BadNights : Xc K mg "BadNights" (cls mg "BadNights")
  x_Full : Xc K mg "Full" (cls mg "Full")
  x_NotHeld : Xc K mg "NotHeld" (cls mg "NotHeld")
  x_Pinned : Xc K mg "Pinned" (cls mg "Pinned")
  x_NotPinned : Xc K mg "NotPinned" (cls mg "NotPinned")
  x_BadState : Xc K mg "BadState" (cls mg "BadState")
  x_BadPart : Xc K mg "BadPart" (cls mg "BadPart")
  x_NotFit : Xc K mg "NotFit" (cls mg "NotFit")
  x_IsWhole : Xc K mg "IsWhole" (cls mg "IsWhole")
  x_BadPlan : Xc K mg "BadPlan" (cls mg "BadPlan")
  x_Unlike : Xc K mg "Unlike" (cls mg "Unlike")
  x_BadText : Xc K mg "BadText" (cls mg "BadText")
  o_State : Oc K mg "State"
  m_State____init__ : Md K mg "State" "__init__" "State.__init__" s_State____init__ ["self", "some"]
  m_State____len__ : Md K mg "State" "__len__" "State.__len__" s_State____len__ ["self"]
  m_State____eq__ : Md K mg "State" "__eq__" "State.__eq__" s_State____eq__ ["self", "other"]
  m_State____str__ : Md K mg "State" "__str__" "State.__str__" s_State____str__ ["self"]
  m_State____repr__ : Md K mg "State" "__repr__" "State.__repr__" s_State____repr__ ["self"]
  m_State__number : Md K mg "State" "number" "State.number" s_State__number ["self", "name"]
  m_State__names : Md K mg "State" "names" "State.names" s_State__names ["self"]
  m_State__plain : Md K mg "State" "plain" "State.plain" s_State__plain ["self"]
  v_State : Eo2 K mg "State"
  u_State : Eo3 K mg "State"
  n_State__table : NoAttr K (cls mg "State") "table"
  k_err : Kc K mg
  e_BadRounds : Ec K mg "BadRounds"
  e_BadNight : Ec K mg "BadNight"
  e_BadNumber : Ec K mg "BadNumber"
  e_BadRules : Ec K mg "BadRules"
  e_BadNights : Ec K mg "BadNights"
  e_Elder : Ec K mg "Elder"
  e_Full : Ec K mg "Full"
  e_NotHeld : Ec K mg "NotHeld"
  e_Pinned : Ec K mg "Pinned"
  e_NotPinned : Ec K mg "NotPinned"
  e_BadState : Ec K mg "BadState"
  e_BadPart : Ec K mg "BadPart"
  e_NotFit : Ec K mg "NotFit"
  e_IsWhole : Ec K mg "IsWhole"
  e_BadPlan : Ec K mg "BadPlan"
  e_Unlike : Ec K mg "Unlike"
  e_BadText : Ec K mg "BadText"
  c_MOST_NIGHT : ∃ t, mg "MOST_NIGHT" = some (.int 1000000000 t)
  c_LETTERS : ∃ t, mg "LETTERS" = some (.str "abcdefghijklmnopqrstuvwxyz" t)
  c_MOST_NAMES : ∃ t, mg "MOST_NAMES" = some (.int 20 t)
  b_RuntimeError : mg "RuntimeError" = none
  b_all : mg "all" = none
  b_bool : mg "bool" = none
  b_dict : mg "dict" = none
  b_int : mg "int" = none
  b_isinstance : mg "isinstance" = none
  b_len : mg "len" = none
  b_list : mg "list" = none
  b_min : mg "min" = none
  b_range : mg "range" = none
  b_set : mg "set" = none
  b_sorted : mg "sorted" = none
  b_str : mg "str" = none
  b_tuple : mg "tuple" = none
  b_zip : mg "zip" = none
end Nk
local macro_rules | `(tactic| walk_at "rd") => `(tactic| (try simp only [L2.tRet, L2.tAndV, L2.tOrV, L2.tNotV, L2.tCB, L2.tCons, L2.tNil, L2.tVar, L2.tC, L2.tChain, L2.tOp, L2.tUn, L2.rI, L2.rI0, L2.rU, L2.rEq, L2.rNe, L2.scal, L2.tTest, L2.tB, L2.tAnd, L2.tOr, L2.tNot, L2.tIf, L2.tIfS, L2.tSeq, L2.tNext, L2.tAsg, L2.gName, Nk.gCons_cons, Nk.gNil_nil, L2.gSub, L2.tDrop, L2.tRetN, L2.tCall, L2.tCallS, L2.tIsN, L2.tNotN, L2.tSl, L2.tPart, L2.tNoPart, L2.tPar, L2.tAug, L2.tBreak, L2.tCont, L2.tDisp, L2.tPairs, L2.tLstRg, L2.tRg1, L2.tRg2, Nk.rLenQ, Nk.rListQ, Nk.rTupleQ, L2.sDPut, L2.tBM, L2.tBM0, L2.tTup, L2.tLst, Nk.szN, Nat.reduceLeDiff, L2.tYes, L2.wipe, L2.start, L2.cxOf, List.map_cons, List.map_nil, List.cons_append, List.nil_append, List.append_nil, List.length_cons, List.length_nil, List.replicate, Nat.sub_self, Nat.zero_add, Nat.reduceAdd, Nat.reduceSub, List.set_cons_zero, List.set_cons_succ, List.getElem?_cons_zero, List.getElem?_cons_succ, Option.some.injEq, exists_and_left, exists_eq_left', exists_eq_left, L2.V.int.injEq, L2.V.bl.injEq, L2.V.str.injEq, L2.V.ref.injEq, true_and, and_true, decide_eq_true_eq, Bool.not_true, Bool.not_false, if_true, if_false, Bool.false_eq_true, reduceIte, List.cons.injEq, reduceCtorEq, decide_true, decide_false, decide_eq_false_iff_not, Bool.not_eq_true', Bool.not_not]))
local macro_rules | `(tactic| walk_at "rs") => `(tactic| (try simp only [L2.tRet, L2.tAndV, L2.tOrV, L2.tNotV, L2.tCB, L2.tCons, L2.tNil, L2.tVar, L2.tC, L2.tChain, L2.tOp, L2.tUn, L2.rI, L2.rI0, L2.rU, L2.rEq, L2.rNe, Nk.scal_ii, Nk.scal_ss, Nk.scal_bb, Nk.scal_nn, Nk.scal_ni, Nk.scal_in, Nk.scal_ns, Nk.scal_sn, Nk.scal_is, Nk.scal_si, L2.tTest, L2.tB, L2.tAnd, L2.tOr, L2.tNot, L2.tIf, L2.tIfS, L2.tNext, L2.tAsg, L2.gName, Nk.gCons_cons, Nk.gNil_nil, L2.gSub, L2.tDrop, L2.tRetN, L2.tCall, L2.tCallS, L2.tIsN, L2.tNotN, L2.tSl, L2.tPart, L2.tNoPart, L2.tPar, L2.tAug, L2.tBreak, L2.tCont, L2.tDisp, L2.tPairs, L2.tLstRg, L2.tRg1, L2.tRg2, Nk.rLenQ, Nk.rListQ, Nk.rTupleQ, L2.sDPut, L2.tBM, L2.tBM0, L2.tTup, L2.tLst, Nk.szN, Nat.reduceLeDiff, L2.tYes, L2.wipe, L2.start, L2.cxOf, List.map_cons, List.map_nil, List.cons_append, List.nil_append, List.append_nil, List.length_cons, List.length_nil, List.replicate, Nat.sub_self, Nat.zero_add, Nat.reduceAdd, Nat.reduceSub, List.set_cons_zero, List.set_cons_succ, List.getElem?_cons_zero, List.getElem?_cons_succ, Option.some.injEq, exists_and_left, exists_eq_left', exists_eq_left, L2.V.int.injEq, L2.V.bl.injEq, L2.V.str.injEq, L2.V.ref.injEq, true_and, and_true, decide_eq_true_eq, Bool.not_true, Bool.not_false, if_true, if_false, Bool.false_eq_true, reduceIte, List.cons.injEq, reduceCtorEq, decide_true, decide_false, decide_eq_false_iff_not, Bool.not_eq_true', Bool.not_not]))
local macro_rules | `(tactic| walk_at "rt") => `(tactic| (try simp only [L2.tRet, L2.tFld, L2.sFld, L2.tMeth, L2.tMake, L2.tMkO, L2.tAndV, L2.tOrV, L2.tNotV, L2.tCB, L2.tCons, L2.tNil, L2.tVar, L2.tC, L2.tChain, L2.tOp, L2.tUn, L2.rI, L2.rI0, L2.rU, L2.rEq, L2.rNe, Nk.scal_ii, Nk.scal_ss, Nk.scal_bb, Nk.scal_nn, Nk.scal_ni, Nk.scal_in, Nk.scal_ns, Nk.scal_sn, Nk.scal_is, Nk.scal_si, L2.tTest, L2.tB, L2.tAnd, L2.tOr, L2.tNot, L2.tIf, L2.tIfS, L2.tNext, L2.tAsg, L2.gName, Nk.gCons_cons, Nk.gNil_nil, L2.gSub, L2.tDrop, L2.tRetN, L2.tCall, L2.tCallS, L2.tIsN, L2.tNotN, L2.tSl, L2.tPart, L2.tNoPart, L2.tPar, L2.tAug, L2.tBreak, L2.tCont, and_assoc, Nk.tFor_k, Nk.tLc_k, L2.iRng1, L2.iRng2, L2.iList, L2.iTup, L2.iRev, L2.iEnum, L2.iZip, L2.tDisp, L2.tPairs, L2.tLstRg, L2.tRg1, L2.tRg2, Nk.rLenQ, Nk.rListQ, Nk.rTupleQ, L2.sDPut, L2.tBM, L2.tBM0, L2.tTup, L2.tLst, Nk.szN, Nat.reduceLeDiff, L2.tYes, L2.wipe, L2.start, L2.cxOf, List.map_cons, List.map_nil, List.cons_append, List.nil_append, List.append_nil, List.length_cons, List.length_nil, List.replicate, Nat.sub_self, Nat.zero_add, Nat.reduceAdd, Nat.reduceSub, List.set_cons_zero, List.set_cons_succ, List.getElem?_cons_zero, List.getElem?_cons_succ, Option.some.injEq, exists_and_left, exists_eq_left', exists_eq_left, L2.V.int.injEq, L2.V.bl.injEq, L2.V.str.injEq, L2.V.ref.injEq, true_and, and_true, decide_eq_true_eq, Bool.not_true, Bool.not_false, if_true, if_false, Bool.false_eq_true, reduceIte, List.cons.injEq, reduceCtorEq, decide_true, decide_false, decide_eq_false_iff_not, Bool.not_eq_true', Bool.not_not]))
local macro_rules | `(tactic| walk_at "ru") => `(tactic| (try simp only [L2.kV, L2.tRevL, L2.tDGet, L2.tDIn, L2.tDNotIn, L2.tDGet1, L2.tDGet2, L2.tDPop1, L2.iKeysM, L2.iKeys, L2.iStr, L2.tRet, L2.tFld, L2.sFld, L2.tMeth, L2.tMake, L2.tMkO, L2.tAndV, L2.tOrV, L2.tNotV, L2.tCB, L2.tCons, L2.tNil, L2.tVar, L2.tC, L2.tChain, L2.tOp, L2.tUn, L2.rI, L2.rI0, L2.rU, L2.rEq, L2.rNe, Nk.scal_ii, Nk.scal_ss, Nk.scal_bb, Nk.scal_nn, Nk.scal_ni, Nk.scal_in, Nk.scal_ns, Nk.scal_sn, Nk.scal_is, Nk.scal_si, L2.tTest, L2.tB, L2.tAnd, L2.tOr, L2.tNot, L2.tIf, L2.tIfS, L2.tNext, L2.tAsg, L2.gName, Nk.gCons_cons, Nk.gNil_nil, L2.gSub, L2.tDrop, L2.tRetN, L2.tCall, L2.tCallS, L2.tIsN, L2.tNotN, L2.tSl, L2.tPart, L2.tNoPart, L2.tPar, L2.tAug, L2.tBreak, L2.tCont, and_assoc, Nk.tFor_k, Nk.tLc_k, L2.iRng1, L2.iRng2, L2.iList, L2.iTup, L2.iRev, L2.iEnum, L2.iZip, L2.tDisp, L2.tPairs, L2.tLstRg, L2.tRg1, L2.tRg2, Nk.rLenQ, Nk.rListQ, Nk.rTupleQ, L2.sDPut, L2.tBM, L2.tBM0, L2.tTup, L2.tLst, Nk.szN, Nat.reduceLeDiff, L2.tYes, L2.wipe, L2.start, L2.cxOf, List.map_cons, List.map_nil, List.cons_append, List.nil_append, List.append_nil, List.length_cons, List.length_nil, List.replicate, Nat.sub_self, Nat.zero_add, Nat.reduceAdd, Nat.reduceSub, List.set_cons_zero, List.set_cons_succ, List.getElem?_cons_zero, List.getElem?_cons_succ, Option.some.injEq, exists_and_left, exists_eq_left', exists_eq_left, L2.V.int.injEq, L2.V.bl.injEq, L2.V.str.injEq, L2.V.ref.injEq, true_and, and_true, decide_eq_true_eq, Bool.not_true, Bool.not_false, if_true, if_false, Bool.false_eq_true, reduceIte, List.cons.injEq, reduceCtorEq, decide_true, decide_false, decide_eq_false_iff_not, Bool.not_eq_true', Bool.not_not]))
namespace Nk
open PySem L2
section
variable {P : Program} {w : World} {K : PySem.W.Frag} {mg : Str → Option Value} {base : Heap}
abbrev nm_is_number : List Str := ["thing", "least", "most"]
abbrev pm_is_number : List Str := ["thing", "least", "most"]
abbrev lv_is_number : Nat := 1
theorem sc_is_number : FnScope nm_is_number pm_is_number (defScope s_is_number) := ⟨rfl, rfl, rfl, by decide +kernel, rfl, by decide +kernel, by decide +kernel⟩
def sp_is_number (K : PySem.W.Frag) : Sp := fun vs H Q _ => ∃ (x : V) (n : String) (lo : Int) (y : V), vs = [x, .int lo, y] ∧ Thing K H x n ∧ (∀ i, x = .int i → ∃ hi, y = .int hi) ∧ Q (.bl (isNumV x lo y)) H
theorem f_is_number (T : Txt K mg) : Fk P w K mg base CX0 lv_is_number "is_number" pm_is_number (sp_is_number K) := by
  obtain ⟨f, fd, F, g, b⟩ := T.d_is_number.ex
  refine ⟨f, fd, g, F.kp, b, F.ok sc_is_number (fun vs H Q E h => ?_) (fun cdv A outer s H vs Q E hr h => ?_)⟩
  · obtain ⟨x, n, lo, y, rfl, _⟩ := h; rfl
  · obtain ⟨x, n, lo, y, rfl, hx, hy, q⟩ := h
    refine ⟨_, (pss_one (ps_ret (pe_and (pe_callB call_isi (by rfl) T.b_isinstance (by decide +kernel) (pa_cons (pv 0) (pa_cons (pe_bltn (v := .ty "int") (by rfl) T.b_int (by decide +kernel) rfl) pa_nil))) (pe_and (pe_not (pe_callB call_isi (by rfl) T.b_isinstance (by decide +kernel) (pa_cons (pv 0) (pa_cons (pe_bltn (v := .ty "bool") (by rfl) T.b_bool (by decide +kernel) rfl) pa_nil)))) (pe_one (pe_chain op_le op_le (pv 1) (pv 0) (pv 2))))))), ?_⟩
    walk_at "rd"
    refine isi_thing hx (by decide) ?_
    cases hx with
    | int i =>
      obtain ⟨hi, rfl⟩ := hy i rfl
      simp only [show isA "int" "int" = true from by decide]
      walk_at "rd"
      refine isi_thing (.int i) (by decide) ?_
      simp only [show isA "int" "bool" = false from by decide]
      walk_at "rd"
      simp only [isNumV] at q
      by_cases c : lo ≤ i
      · simpa [c] using q
      · simpa [c] using q
    | bl i =>
      simp only [show isA "bool" "int" = true from by decide]
      walk_at "rd"
      refine isi_thing (.bl i) (by decide) ?_
      simp only [show isA "bool" "bool" = true from by decide]
      walk_at "rd"
      exact q
    | _ => exact ⟨false, rfl, q⟩
/-- whether a thing is rounds -/
def isRoundsV (H : Hp) (x : V) : Bool := match x with
  | .ref a => match H a with
    | some (.tup xs) => decide (1 ≤ xs.length) && decide (xs.length ≤ 12) && xs.all fun y => isNumV y 1 (.int 31)
    | _ => false
  | _ => false
/-- a thing, and what is in it if it is a tuple -/
def Thing2 (K : PySem.W.Frag) (H : Hp) (x : V) : Prop := (∃ n, Thing K H x n) ∧ ∀ a xs, x = .ref a → H a = some (.tup xs) → xs.length ≤ 100000 ∧ ∀ y ∈ xs, ∃ m, Thing K H y m
/-- rounds as a tuple that stands -/
structure RndsAt (H : Hp) (a : Addr) (rs : List Int) : Prop where
  at_ : H a = some (.tup (rs.map V.int))
  ok : Rnds rs
  le : ∀ r ∈ rs, r ≤ 31
  ln : rs.length ≤ 12
theorem RndsAt.same {H H' : Hp} {a : Addr} {rs : List Int} (h : RndsAt H a rs) (s : Same H H') : RndsAt H' a rs := ⟨s _ _ h.at_, h.ok, h.le, h.ln⟩
theorem RndsAt.but {H H' : Hp} {a t : Addr} {rs : List Int} {l : List V} (h : RndsAt H a rs) (s : But t H H') (ht : H t = some (.lst l)) : RndsAt H' a rs := ⟨s _ _ h.at_ (ne_of h.at_ ht (by intro z; cases z)), h.ok, h.le, h.ln⟩
theorem RndsAt.thing {H : Hp} {a : Addr} {rs : List Int} (h : RndsAt H a rs) : Thing2 K H (.ref a) := by
  refine ⟨⟨_, .tup h.at_⟩, fun b xs e hb => ?_⟩
  cases e
  rw [h.at_] at hb
  cases hb
  refine ⟨by have := h.ln; simp; omega, fun y hy => ?_⟩
  obtain ⟨i, _, rfl⟩ := List.mem_map.mp hy
  exact ⟨_, .int i⟩
theorem RndsAt.is {H : Hp} {a : Addr} {rs : List Int} (h : RndsAt H a rs) : isRoundsV H (.ref a) = true := by
  have h1 := h.ok.len
  have h2 := h.ln
  have h3 : rs.all (fun y => isNumV (V.int y) 1 (V.int 31)) = true := by
    rw [List.all_eq_true]
    intro y hy
    simp [isNumV, h.ok.pos y hy, h.le y hy]
  simp only [isRoundsV, h.at_, List.length_map, List.all_map, Function.comp_def, h3, Bool.and_true, Bool.and_eq_true, decide_eq_true_eq]
  omega
theorem sum_le31 : ∀ {rs : List Int}, (∀ r ∈ rs, r ≤ 31) → rs.sum ≤ 31 * rs.length
  | [], _ => by simp
  | r :: rs, h => by
    have h1 := h r List.mem_cons_self
    have h2 := sum_le31 (rs := rs) fun x hx => h x (List.mem_cons_of_mem _ hx)
    simp only [List.sum_cons, List.length_cons]
    push_cast
    omega
theorem RndsAt.sum_le {H : Hp} {a : Addr} {rs : List Int} (h : RndsAt H a rs) : rs.sum ≤ 372 := by
  have := sum_le31 h.le
  have := h.ln
  omega
theorem isNum_ok {n : Int} (h0 : 0 ≤ n) (h1 : n ≤ 1000000000) : isNumV (.int n) 0 (.int 1000000000) = true := by simp [isNumV, h0, h1]
end
end Nk
namespace Nk
open PySem L2
section
variable {P : Program} {w : World} {K : PySem.W.Frag} {mg : Str → Option Value} {base : Heap}
/-- the script at a and the town at t: c draws so far -/
structure Tn (K : PySem.W.Frag) (H : Hp) (a t : Addr) (ns : List Int) (c : Nat) : Prop where
  scr : SqN K H a t (ns.map V.int)
  len : ns.length ≤ 63
  town : ∃ ls : List Int, ls.length = ns.length ∧ H t = some (.lst (V.int c :: ls.map V.int))
theorem Tn.same {H H' : Hp} {a t : Addr} {ns : List Int} {c : Nat} (h : Tn K H a t ns c) (s : Same H H') : Tn K H' a t ns c := by
  obtain ⟨ls, e, ht⟩ := h.town
  exact ⟨h.scr.same s, h.len, ls, e, s _ _ ht⟩
theorem Tn.lst {H : Hp} {a t : Addr} {ns : List Int} {c : Nat} (h : Tn K H a t ns c) : ∃ l, H t = some (.lst l) := by
  obtain ⟨ls, e, ht⟩ := h.town
  exact ⟨_, ht⟩
theorem Tn.some_ {H : Hp} {a t : Addr} {ns : List Int} {c : Nat} (h : Tn K H a t ns c) {p : Addr} (hp : H p = none) : p ≠ t := by
  obtain ⟨l, hl⟩ := h.lst
  exact (ne_of_none hl hp).symm
/-- a tuple stays while the town changes -/
theorem Tn.tup {H H' : Hp} {a t p : Addr} {ns : List Int} {c : Nat} {xs : List V} (h : Tn K H a t ns c) (b : But t H H') (hp : H p = some (.tup xs)) : H' p = some (.tup xs) := by
  obtain ⟨l, hl⟩ := h.lst
  exact b _ _ hp (ne_of hp hl (by intro z; cases z))
/-- an object that was made since may change -/
theorem Tn.app {H H' : Hp} {a t p : Addr} {ns : List Int} {c c0 : Nat} {o : HO} (h : Tn K H' a t ns c) (h0 : Tn K H a t ns c0) (hp : H p = none) (hpt : p ≠ t) : Tn K (upd H' p o) a t ns c := by
  obtain ⟨ls, e1, e2⟩ := h.town
  exact ⟨h.scr.app h0.scr hp, h.len, ls, e1, by rw [upd_ne hpt.symm]; exact e2⟩
theorem But.app {H H' : Hp} {t p : Addr} {o : HO} (b : But t H H') (hp : H p = none) : But t H (L2.upd H' p o) := fun z x hz hzt => by
  rw [upd_ne (ne_of_none hz hp)]
  exact b _ _ hz hzt
theorem But.free {H H' : Hp} {t p : Addr} (b : But t H H') (hp : H' p = none) (hpt : p ≠ t) : H p = none := by
  cases e : H p with
  | none => rfl
  | some o => rw [b _ _ e hpt] at hp; cases hp
abbrev nm__law_town : List Str := ["script"]
abbrev pm__law_town : List Str := ["script"]
abbrev lv__law_town : Nat := 1
theorem sc__law_town : FnScope nm__law_town pm__law_town (defScope s__law_town) := ⟨rfl, rfl, rfl, by decide +kernel, rfl, by decide +kernel, by decide +kernel⟩
def sp__law_town (K : PySem.W.Frag) : Sp := fun vs H Q _ => ∃ (a : Addr) (ns : List Int), vs = [.ref a] ∧ SqL K H a (ns.map V.int) ∧ ns.length ≤ 63 ∧ ∀ H' t, Same H H' → Tn K H' a t ns 0 → H t = none → Q (.ref t) H'
theorem f__law_town (T : Txt K mg) : Fk P w K mg base CX0 lv__law_town "_law_town" pm__law_town (sp__law_town K) := by
  obtain ⟨f, fd, F, g, b⟩ := T.d__law_town.ex
  refine ⟨f, fd, g, F.kp, b, F.ok sc__law_town (fun vs H Q E h => ?_) (fun cdv A outer s H vs Q E hr h => ?_)⟩
  · obtain ⟨a, ns, rfl, _⟩ := h; rfl
  · obtain ⟨a, ns, rfl, hS, hl, q⟩ := h
    refine ⟨_, (pss_one (ps_ret (pe_op op_cat (pe_lst (pa_cons pe_int pa_nil)) (pe_callTy call_list_of (by rfl) T.b_list (by decide +kernel) (pa_cons (pv 0) pa_nil))))), ?_⟩
    walk_at "rd"
    intro p hp
    have s1 : Same H (upd H p (.lst [.int 0])) := same_upd hp
    refine ⟨ns.map V.int, .inl (s1.seq hS), fun l hl2 => ?_⟩
    have npl : p ≠ l := fun e => by rw [← e, upd_same] at hl2; cases hl2
    have s2 := s1.trans (same_upd (o := .lst (ns.map V.int)) hl2)
    refine ⟨p, l, _, _, rfl, rfl, by rw [upd_ne npl]; exact upd_same, upd_same, sz (by simp; omega), fun t ht => ?_⟩
    have hH : H t = none := s2.free ht
    exact q _ t (s2.trans (same_upd ht)) ⟨(SqN.new (s2.seq hS) ht).same (same_upd ht), hl, ns, rfl, upd_same⟩ hH
abbrev nm__law_draw : List Str := ["script", "town", "many", "at", "left", "number"]
abbrev pm__law_draw : List Str := ["script", "town", "many"]
abbrev lv__law_draw : Nat := 1
theorem sc__law_draw : FnScope nm__law_draw pm__law_draw (defScope s__law_draw) := ⟨rfl, rfl, rfl, by decide +kernel, rfl, by decide +kernel, by decide +kernel⟩
def sp__law_draw (K : PySem.W.Frag) : Sp := fun vs H Q _ => ∃ (a t : Addr) (ns : List Int) (c : Nat) (many : Int), vs = [.ref a, .ref t, .int many] ∧ Tn K H a t ns c ∧ c < 1000000000 ∧ 0 < many ∧ many < 1073741824 ∧
  ∀ (d : Int) (H' : Hp), 0 ≤ d → d < many → Tn K H' a t ns (c + 1) → But t H H' → Q (.int d) H'
theorem f__law_draw (T : Txt K mg) : Fk P w K mg base CX0 lv__law_draw "_law_draw" pm__law_draw (sp__law_draw K) := by
  obtain ⟨f, fd, F, g, b⟩ := T.d__law_draw.ex
  refine ⟨f, fd, g, F.kp, b, F.ok sc__law_draw (fun vs H Q E h => ?_) (fun cdv A outer s H vs Q E hr h => ?_)⟩
  · obtain ⟨a, t, ns, c, many, rfl, _⟩ := h; rfl
  · obtain ⟨a, t, ns, c, many, rfl, hT, hc, hm0, hm1, q⟩ := h
    refine ⟨_, (pss_cons (ps_asg (pe_op op_add (pe_ix ix_list (pv 1) pe_int (fun _ _ => rfl)) pe_int) (pg_sub (pv 1) pe_int set_list))
      (pss_cons (ps_if (pt_cmpR (op_eqD hr.units) (pv 0) (pe_lst pa_nil) (nomark _)) (pss_one (ps_ret (pe_op op_mod (pe_op op_fdiv (pe_op op_mul (pe_op op_mul (pe_ix ix_list (pv 1) pe_int (fun _ _ => rfl)) (pe_ix ix_list (pv 1) pe_int (fun _ _ => rfl))) pe_int) pe_int) (pv 2)))) pss_nil)
      (pss_cons (ps_set (i := 3) sc__law_draw.nd rfl (.inl rfl) (pe_op op_mod (pe_ix ix_list (pv 1) pe_int (fun _ _ => rfl)) (pe_callB call_len_seq (by rfl) T.b_len PySem.boot_len (pa_cons (pv 0) pa_nil))))
      (pss_cons (ps_set (i := 4) sc__law_draw.nd rfl (.inl rfl) (pe_ix ix_list (pv 1) (pe_op op_add pe_int (pv 3)) (fun _ _ => rfl)))
      (pss_cons (ps_if (PW.pt (pw_and (pt_cmpR op_ge (pe_ix ix_list (pv 0) (pv 3) (fun _ _ => rfl)) (pe_op op_pow pe_int pe_int) (nomark _)) (pw_and1 (pt_cmpR op_gt (pv 4) pe_int (nomark _))))) (pss_cons (ps_asg (pe_op op_fdiv (pv 4) (pv 2)) (pg_sub (pv 1) (pe_op op_add pe_int (pv 3)) set_list))
      (pss_one (ps_ret (pe_op op_mod (pv 4) (pv 2))))) pss_nil)
      (pss_cons (ps_set (i := 5) sc__law_draw.nd rfl (.inl rfl) (pe_op op_mod (pe_op op_add (pe_ix ix_list (pv 0) (pv 3) (fun _ _ => rfl)) (pe_op op_mul pe_int (pe_ix ix_list (pv 1) pe_int (fun _ _ => rfl)))) pe_int))
      (pss_cons (ps_set (i := 5) sc__law_draw.nd rfl (.inl rfl) (pe_op op_mod (pe_op op_pow (pv 5) pe_int) pe_int))
      (pss_one (ps_ret (pe_op op_mod (pe_op op_fdiv (pe_op op_mod (pe_op op_add (pe_op op_mul (pe_op op_fdiv (pv 5) pe_int) pe_int) (pv 5)) pe_int) pe_int) (pv 2))))))))))), ?_⟩
    walk_at "rd"
    obtain ⟨ls, el, ht⟩ := hT.town
    refine ixL (j := 0) (sqL ht) rfl rfl ?_
    walk_at "rd"
    refine setL (j := 0) ht rfl (by simp) ?_
    intro p hp
    have hpt : t ≠ p := fun e => by rw [← e, upd_same] at hp; cases hp
    have b1 : But t H (upd (upd H t (.lst ((V.int c :: ls.map V.int).set 0 (V.int (↑c + 1))))) p (.lst [])) := But.thenS But.upd (same_upd hp)
    have hN1 := hT.scr.but b1
    have hS1 := hN1.l
    have ht1 : (upd (upd H t (.lst ((V.int c :: ls.map V.int).set 0 (V.int (↑c + 1))))) p (.lst [])) t = some (.lst (V.int ((c + 1 : Nat) : Int) :: ls.map V.int)) := by
      rw [upd_ne hpt, upd_same]; rfl
    have hp1 : (upd (upd H t (.lst ((V.int c :: ls.map V.int).set 0 (V.int (↑c + 1))))) p (.lst [])) p = some (.lst (([] : List Int).map V.int)) := upd_same
    revert b1 hN1 hS1 ht1 hp1
    generalize upd (upd H t (.lst ((V.int c :: ls.map V.int).set 0 (V.int (↑c + 1))))) p (.lst []) = H1
    intro b1 hN1 hS1 ht1 hp1
    have T1 : Tn K H1 a t ns (c + 1) := ⟨hN1, hT.len, ls, el, ht1⟩
    have hC : ((c + 1 : Nat) : Int) < 2 ^ 62 := by omega
    refine eqD (dp_LI hS1) (dp_LI (sqL hp1)) (gd_dLI (k := 0) _) (gd_dLI (k := 0) _) (fun e => ?_) (fun e => ?_)
    · walk_at "rd"
      refine ixL (j := 0) (sqL ht1) rfl rfl ?_
      refine ixL (j := 0) (sqL ht1) rfl rfl ?_
      walk_at "rd"
      refine ⟨.inl ⟨by omega, by omega⟩, .inr ⟨by decide, by decide⟩, ⟨by decide, by decide⟩, hm0, ?_⟩
      exact q _ H1 (Int.emod_nonneg _ (by omega)) (Int.emod_lt_of_pos _ hm0) T1 b1
    · have hne : ns ≠ [] := fun z => e (by rw [z])
      have hn0 : 0 < ns.length := List.length_pos_iff.mpr hne
      walk_at "rd"
      refine ixL (j := 0) (sqL ht1) rfl rfl ?_
      refine ⟨ns.map V.int, .inl hS1, ?_⟩
      rw [List.length_map]
      walk_at "rd"
      obtain ⟨j, hj, ej, _⟩ := emod_nat (k := ((c + 1 : Nat) : Int)) hn0
      rw [ej]
      refine ⟨by omega, ?_⟩
      have hlj : (V.int ((c + 1 : Nat) : Int) :: ls.map V.int)[j + 1]? = some (V.int (ls[j]'(by omega))) := by
        rw [List.getElem?_cons_succ, List.getElem?_map, List.getElem?_eq_getElem (by omega)]; rfl
      have hnj : (ns.map V.int)[j]? = some (V.int (ns[j]'hj)) := by
        rw [List.getElem?_map, List.getElem?_eq_getElem hj]; rfl
      refine ixL (j := j + 1) (sqL ht1) (by push_cast; omega) hlj ?_
      refine ixL (j := j) hS1 rfl hnj ?_
      have tail : rIxL K (.ref a) (.int (j : Int)) H1 fun x H2 => rIxL K (.ref t) (.int 0) H2 fun y H3 => ∃ x_3, y = V.int x_3 ∧ CMul 104729 x_3 ∧ ∃ i, x = V.int i ∧ 0 < (4294967291 : Int) ∧ CPow ((i + 104729 * x_3) % 4294967291) 5 ∧ 0 < (4294967279 : Int) ∧
          CDiv (((i + 104729 * x_3) % 4294967291) ^ Int.toNat 5 % 4294967279) 64 ∧ CMul (((i + 104729 * x_3) % 4294967291) ^ Int.toNat 5 % 4294967279 / 64) 69621 ∧ 0 < (4294967231 : Int) ∧
          CDiv ((((i + 104729 * x_3) % 4294967291) ^ Int.toNat 5 % 4294967279 / 64 * 69621 + ((i + 104729 * x_3) % 4294967291) ^ Int.toNat 5 % 4294967279) % 4294967231) 8 ∧ 0 < many ∧
          Q (.int ((((i + 104729 * x_3) % 4294967291) ^ Int.toNat 5 % 4294967279 / 64 * 69621 + ((i + 104729 * x_3) % 4294967291) ^ Int.toNat 5 % 4294967279) % 4294967231 / 8 % many)) H3 := by
        refine ixL (j := j) hS1 rfl hnj ?_
        refine ixL (j := 0) (sqL ht1) rfl rfl ?_
        have hp := Int.emod_nonneg (ns[j] + 104729 * ((c + 1 : Nat) : Int)) (show (4294967291 : Int) ≠ 0 by decide)
        have hq := Int.emod_lt_of_pos (ns[j] + 104729 * ((c + 1 : Nat) : Int)) (show (0 : Int) < 4294967291 by decide)
        refine ⟨_, rfl, .inl ⟨by decide, by decide⟩, _, rfl, by decide, ⟨by decide, by decide, by omega⟩, by decide, ⟨by decide, by decide⟩, .inr ⟨by decide, by decide⟩, by decide, ⟨by decide, by decide⟩, hm0, ?_⟩
        exact q _ H1 (Int.emod_nonneg _ (by omega)) (Int.emod_lt_of_pos _ hm0) T1 b1
      refine ⟨⟨by decide, by decide, by decide⟩, _, rfl, ?_⟩
      refine ite2 (fun c1 => ?_) (fun c1 => ?_)
      · refine ⟨_, rfl, ite2 (fun c2 => ?_) (fun c2 => ?_)⟩
        · refine ⟨_, rfl, ⟨hm0, hm1⟩, ?_⟩
          refine setL (j := j + 1) ht1 (by push_cast; omega) (by simp; omega) ?_
          refine ⟨_, rfl, hm0, ?_⟩
          refine q _ _ (Int.emod_nonneg _ (by omega)) (Int.emod_lt_of_pos _ hm0) ⟨hN1.but But.upd, hT.len, ls.set j (ls[j] / many), by rw [List.length_set]; exact el, ?_⟩ (b1.trans But.upd)
          rw [upd_same, List.set_cons_succ, List.map_set]
        · exact tail
      · exact tail
abbrev nm__law_pick : List Str := ["script", "town", "some"]
abbrev pm__law_pick : List Str := ["script", "town", "some"]
abbrev lv__law_pick : Nat := 2
theorem sc__law_pick : FnScope nm__law_pick pm__law_pick (defScope s__law_pick) := ⟨rfl, rfl, rfl, by decide +kernel, rfl, by decide +kernel, by decide +kernel⟩
def sp__law_pick (K : PySem.W.Frag) : Sp := fun vs H Q _ => ∃ (a t l : Addr) (ns : List Int) (c : Nat) (xs : List V), vs = [.ref a, .ref t, .ref l] ∧ Tn K H a t ns c ∧ c < 1000000000 ∧ H l = some (.lst xs) ∧ l ≠ t ∧ 0 < xs.length ∧ xs.length ≤ 100000 ∧
  ∀ (v : V) (H' : Hp), v ∈ xs → Tn K H' a t ns (c + 1) → But t H H' → Q v H'
theorem f__law_pick (T : Txt K mg) : Fk P w K mg base CX0 lv__law_pick "_law_pick" pm__law_pick (sp__law_pick K) := by
  obtain ⟨f, fd, F, g, b⟩ := T.d__law_pick.ex
  refine ⟨f, fd, g, F.kp, b, F.ok sc__law_pick (fun vs H Q E h => ?_) (fun cdv A outer s H vs Q E hr h => ?_)⟩
  · obtain ⟨a, t, l, ns, c, xs, rfl, _⟩ := h; rfl
  · obtain ⟨a, t, l, ns, c, xs, rfl, hT, hc, hl, hlt, h0, h1, q⟩ := h
    refine ⟨_, (pss_one (ps_ret (pe_ix ix_list (pv 2) (pe_fn (f__law_draw T) (hr.mono (by decide)) (by rfl) pass0 (pa_cons (pv 0) (pa_cons (pv 1) (pa_cons (pe_callB call_len_seq (by rfl) T.b_len PySem.boot_len (pa_cons (pv 2) pa_nil)) pa_nil)))) (fun _ _ => rfl)))), ?_⟩
    walk_at "rd"
    refine ⟨xs, .inl (sqL hl), a, t, ns, c, xs.length, rfl, hT, hc, by omega, by omega, fun d H' d0 d1 T' b' => ?_⟩
    have hd : d.toNat < xs.length := by omega
    exact ixL (j := d.toNat) (sqL (b' _ _ hl hlt)) (by omega) (List.getElem?_eq_getElem hd) (q _ H' (List.getElem_mem hd) T' b')
theorem pickI {H : Hp} {a t : Addr} {ns : List Int} {c : Nat} {Q : VK} {E : XK} (ks : List Int) (hT : Tn K H a t ns c) (hc : c < 1000000000) (q : ∀ k ∈ ks, ∀ H', Tn K H' a t ns (c + 1) → But t H H' → Q (.int k) H') (h0 : 0 < ks.length := by decide) (h1 : ks.length ≤ 100000 := by decide) :
    ∀ p, H p = none → sp__law_pick K [.ref a, .ref t, .ref p] (L2.upd H p (.lst (ks.map V.int))) Q E := by
  intro p hp
  refine ⟨a, t, p, ns, c, ks.map V.int, rfl, hT.same (same_upd hp), hc, upd_same, hT.some_ hp, by simpa using h0, by simpa using h1, fun v H' hv T' b' => ?_⟩
  obtain ⟨k, hk, rfl⟩ := List.mem_map.mp hv
  exact q k hk H' T' (Same.thenB (same_upd hp) b')
theorem pickV {H : Hp} {a t : Addr} {ns : List Int} {c : Nat} {Q : VK} {E : XK} {xs : List V} (hT : Tn K H a t ns c) (hc : c < 1000000000) (h0 : 0 < xs.length) (h1 : xs.length ≤ 100000) (q : ∀ v ∈ xs, ∀ H', Tn K H' a t ns (c + 1) → But t H H' → Q v H') :
    ∀ p, H p = none → sp__law_pick K [.ref a, .ref t, .ref p] (L2.upd H p (.lst xs)) Q E := by
  intro p hp
  exact ⟨a, t, p, ns, c, xs, rfl, hT.same (same_upd hp), hc, upd_same, hT.some_ hp, h0, h1, fun v H' hv T' b' => q v hv H' T' (Same.thenB (same_upd hp) b')⟩
abbrev nm__law_whole : List Str := ["thing"]
abbrev pm__law_whole : List Str := ["thing"]
abbrev lv__law_whole : Nat := 1
theorem sc__law_whole : FnScope nm__law_whole pm__law_whole (defScope s__law_whole) := ⟨rfl, rfl, rfl, by decide +kernel, rfl, by decide +kernel, by decide +kernel⟩
def sp__law_whole (K : PySem.W.Frag) : Sp := fun vs H Q _ => ∃ (x : V) (n : String), vs = [x] ∧ Thing K H x n ∧ Q (.bl (isWholeV x)) H
theorem f__law_whole (T : Txt K mg) : Fk P w K mg base CX0 lv__law_whole "_law_whole" pm__law_whole (sp__law_whole K) := by
  obtain ⟨f, fd, F, g, b⟩ := T.d__law_whole.ex
  refine ⟨f, fd, g, F.kp, b, F.ok sc__law_whole (fun vs H Q E h => ?_) (fun cdv A outer s H vs Q E hr h => ?_)⟩
  · obtain ⟨x, n, rfl, _⟩ := h; rfl
  · obtain ⟨x, n, rfl, hx, q⟩ := h
    refine ⟨_, (pss_one (ps_ret (pe_and (pe_callB call_isi (by rfl) T.b_isinstance (by decide +kernel) (pa_cons (pv 0) (pa_cons (pe_bltn (v := .ty "int") (by rfl) T.b_int (by decide +kernel) rfl) pa_nil))) (pe_one (pe_not (pe_callB call_isi (by rfl) T.b_isinstance (by decide +kernel) (pa_cons (pv 0) (pa_cons (pe_bltn (v := .ty "bool") (by rfl) T.b_bool (by decide +kernel) rfl) pa_nil)))))))), ?_⟩
    walk_at "rd"
    refine isi_thing hx (by decide) ?_
    cases hx with
    | int i =>
      refine ⟨true, rfl, ?_⟩
      walk_at "rd"
      exact isi_thing (.int i) (by decide) ⟨false, rfl, q⟩
    | bl i =>
      refine ⟨true, rfl, ?_⟩
      walk_at "rd"
      exact isi_thing (.bl i) (by decide) ⟨true, rfl, q⟩
    | _ => exact ⟨false, rfl, q⟩
end
end Nk
/-! the rules of own classes with the globals named (for comprehensions) -/
namespace Nk
open PySem L2
section
variable {X : Cx} {CX : CXT} {k : Nat} {ps : List Str} {sp : Sp} {c m x : Str} {p pos apos : Pos} {o e : Expr} {es : List Expr} {ta : TE} {t : TA} {E : XK}
theorem pe_meK (mg : Str → Option Value) (hm : X.mg = mg) {pl : Sem Bool} (he : PE X o ta) (O : Oc X.K mg c) (M : Mo X.prog X.w X.K mg X.base CX k c m ps sp) (hr : Room k X.A) (hx : Passes CX X E) (ha : PA X (e :: es) t)
    (hst : starEach (e :: es) X.env = (false, eval e X.env) :: starEach es X.env := by rfl) (hpl : (backTo pos (starEach es X.env)).any (·.1) = false := by rfl)
    (ht : eval (.Call (.Attribute o m apos) (e :: es) [] pos) X.env = (do
      let ov ← eval o X.env
      standAt apos.atName
      let (g, first) ← holding [ov] (getMethod ov m pl)
      callWith pos g first (backTo pos (starEach (e :: es) X.env)) (backToKw pos (keywordEach [] X.env))) := by rfl) :
    PE X (.Call (.Attribute o m apos) (e :: es) [] pos) (tMeth (cls mg c) m sp [] E ta t) := by
  subst hm
  exact pe_me he O M hr hx ha hst hpl ht
theorem pe_me0K (mg : Str → Option Value) (hm : X.mg = mg) {pl : Sem Bool} (he : PE X o ta) (O : Oc X.K mg c) (M : Mo X.prog X.w X.K mg X.base CX k c m ps sp) (hr : Room k X.A) (hx : Passes CX X E)
    (ht : eval (.Call (.Attribute o m apos) [] [] pos) X.env = (do
      let ov ← eval o X.env
      standAt apos.atName
      let (g, first) ← holding [ov] (getMethod ov m pl)
      callWith pos g first (backTo pos (starEach [] X.env)) (backToKw pos (keywordEach [] X.env))) := by rfl) :
    PE X (.Call (.Attribute o m apos) [] [] pos) (tMeth (cls mg c) m sp [] E ta tNil) := by
  subst hm
  exact pe_me0 he O M hr hx ht
theorem pe_newM (mg : Str → Option Value) (hm : X.mg = mg) (O : Oc X.K mg c) (M : Mo X.prog X.w X.K mg X.base CX k c "__init__" ps sp) (hr : Room (k + 1) X.A) (hg : Gl X c) (hx : Passes CX X E) (ha : PA X (e :: es) t)
    (hdb : (c == ("__debug__" : Str)) = false := by decide) (he : starEach (e :: es) X.env = (false, eval e X.env) :: starEach es X.env := by rfl) (hpl : (backTo pos (starEach es X.env)).any (·.1) = false := by rfl) :
    PE X (.Call (.Name c p) (e :: es) [] pos) (tMake (cls mg c) sp [] E t) := by
  subst hm
  exact pe_new O M hr hg hx ha hdb he hpl
theorem cr_lenOK (mg : Str → Option Value) (hm : X.mg = mg) (O : Oc X.K mg c) (M : Mo X.prog X.w X.K mg X.base CX k c "__len__" ps sp) (hr : Room (k + 1) X.A) (hx : Passes CX X E) : CallR X (.builtin "len") (rLenO (cls mg c) sp E) := by
  subst hm
  exact cr_lenO O M hr hx
theorem op_eqOK (mg : Str → Option Value) (hm : X.mg = mg) (M : Mo X.prog X.w X.K mg X.base CX k c "__eq__" ps sp) (hr : Room k X.A) (hx : Passes CX X E) : OpR X (compareOp .Eq) (rEqO (cls mg c) sp E false) := by
  subst hm
  exact op_eqO M hr hx
theorem op_neOK (mg : Str → Option Value) (hm : X.mg = mg) (N : Eo2 X.K mg c) (M : Mo X.prog X.w X.K mg X.base CX k c "__eq__" ps sp) (hr : Room (k + 1) X.A) (hx : Passes CX X E) : OpR X (compareOp .NotEq) (rEqO (cls mg c) sp E true) := by
  subst hm
  exact op_neO N M hr hx
end
end Nk
namespace Nk
open PySem L2
section
variable {P : Program} {w : World} {K : PySem.W.Frag} {mg : Str → Option Value} {base : Heap}
/-! tables as they stand -/
def kvsT (t : Tb) : List (Key × V) := t.map fun p => (Sum.inr p.1, V.int p.2)
def numV : Option Int → V
  | none => .non
  | some i => .int i
theorem kvsT_val {n : Str} : ∀ {t : Tb}, valV (kvsT t) (Sum.inr n) = (lk t n).map V.int
  | [] => rfl
  | p :: t => by
    rw [lk_cons]
    by_cases e : p.1 = n
    · rw [if_pos e]
      show valV ((Sum.inr p.1, V.int p.2) :: kvsT t) _ = _
      rw [valV_pos (by rw [e])]
      rfl
    · rw [if_neg e]
      show valV ((Sum.inr p.1, V.int p.2) :: kvsT t) _ = _
      rw [valV_neg (fun z => e (Sum.inr.inj z))]
      exact kvsT_val
theorem kvsT_len {t : Tb} : (kvsT t).length = t.length := List.length_map _
theorem kvsT_keys {t : Tb} : (kvsT t).map (·.1) = (nms t).map Sum.inr := by
  unfold kvsT nms
  rw [List.map_map, List.map_map]
  rfl
theorem kvsT_keysV {t : Tb} : (kvsT t).map (fun kv => kV kv.1) = (nms t).map V.str := by
  unfold kvsT nms
  rw [List.map_map, List.map_map]
  rfl
theorem kvsT_put {t : Tb} {n : Str} {i : Int} : putK (kvsT t) (Sum.inr n) (.int i) = kvsT (putT t n i) := by
  unfold putK putT
  have e : ((kvsT t).any fun kv => decide (kv.1 = Sum.inr n)) = t.any fun p => decide (p.1 = n) := by
    unfold kvsT
    rw [List.any_map]
    congr 1
    funext p
    simp [Function.comp]
  rw [e]
  split
  · unfold kvsT
    rw [List.map_map, List.map_map]
    refine List.map_congr_left fun p _ => ?_
    simp only [Function.comp, Sum.inr.injEq]
    split <;> rfl
  · simp [kvsT]
theorem kvsT_drop {t : Tb} {n : Str} : dropK (kvsT t) (Sum.inr n) = kvsT (dropT t n) := by
  unfold dropK dropT kvsT
  rw [List.filter_map]
  congr 1
  refine List.filter_congr fun p _ => ?_
  simp [Function.comp]
theorem kvsT_flat {t : Tb} : FlatK (kvsT t) := fun p hp => by
  obtain ⟨q, _, rfl⟩ := List.mem_map.mp hp
  rfl
theorem hitB_T {b : Tb} : ∀ {a : Tb}, hitB (kvsT b) (kvsT a) = true ↔ ∀ p ∈ a, lk b p.1 = some p.2
  | [] => by simp [kvsT, hitB]
  | p :: a => by
    have ih := hitB_T (b := b) (a := a)
    show hitB (kvsT b) ((Sum.inr p.1, V.int p.2) :: kvsT a) = true ↔ _
    unfold hitB
    rw [kvsT_val]
    cases e : lk b p.1 with
    | none => simp [e]
    | some i =>
      simp only [Option.map_some, Bool.and_eq_true, ih, List.mem_cons, forall_eq_or_imp, e, Option.some.injEq]
      constructor
      · rintro ⟨h1, h2⟩
        refine ⟨?_, h2⟩
        have : p.2 = i := by simpa [eqV] using h1
        exact this.symm
      · rintro ⟨h1, h2⟩
        exact ⟨by simp [eqV, h1], h2⟩
theorem eq_T {a b : Tb} (ha : OkT a) (hb : OkT b) : eqDk (kvsT a) (kvsT b) = true ↔ ∀ n, lk a n = lk b n := by
  unfold eqDk
  rw [Bool.and_eq_true, beq_iff_eq, kvsT_len, kvsT_len, hitB_T]
  constructor
  · rintro ⟨h1, h2⟩ n
    cases e : lk a n with
    | some i => exact (h2 _ (lk_mem e)).symm
    | none =>
      cases e' : lk b n with
      | none => rfl
      | some i =>
        have hn : n ∉ nms a := lk_none.mp e
        have := nodup_le (l := n :: nms a) (m := nms b) (List.nodup_cons.mpr ⟨hn, ha.nd⟩) fun x hx => by
          rcases List.mem_cons.mp hx with z | z
          · rw [z]; exact mem_nms.mpr ⟨i, e'⟩
          · obtain ⟨j, hj⟩ := mem_nms.mp z
            exact mem_nms.mpr ⟨j, h2 _ (lk_mem hj)⟩
        simp [nms] at this
        omega
  · intro h
    exact ⟨ha.same_len hb h, fun p hp => by rw [← h]; exact lk_of ha.nd hp⟩
theorem eq_T' {a b : Tb} (ha : OkT a) (hb : OkT b) (h : ∀ n, lk a n = lk b n) : eqDk (kvsT a) (kvsT b) = true := (eq_T ha hb).mpr h
theorem ne_T {a b : Tb} (ha : OkT a) (hb : OkT b) (h : ¬ ∀ n, lk a n = lk b n) : eqDk (kvsT a) (kvsT b) = false := by
  cases e : eqDk (kvsT a) (kvsT b) with
  | false => rfl
  | true => exact absurd ((eq_T ha hb).mp e) h
/-- a state stands at p -/
structure StAt (mg : Str → Option Value) (H : Hp) (p : Addr) (t : Tb) : Prop where
  ex : ∃ dx d, H p = some (.ins (cls mg "State") dx [("table", .ref d)]) ∧ H d = some (.dK (kvsT t))
  ok : OkT t
  len : t.length ≤ 20
theorem StAt.same {H H' : Hp} {p : Addr} {t : Tb} (h : StAt mg H p t) (s : Same H H') : StAt mg H' p t := by
  obtain ⟨dx, d, h1, h2⟩ := h.ex
  exact ⟨⟨dx, d, s _ _ h1, s _ _ h2⟩, h.ok, h.len⟩
theorem StAt.but {H H' : Hp} {p a : Addr} {t : Tb} {l : List V} (h : StAt mg H p t) (s : But a H H') (ha : H a = some (.lst l)) : StAt mg H' p t := by
  obtain ⟨dx, d, h1, h2⟩ := h.ex
  exact ⟨⟨dx, d, s _ _ h1 (ne_of h1 ha (by intro z; cases z)), s _ _ h2 (ne_of h2 ha (by intro z; cases z))⟩, h.ok, h.len⟩
/-- pairs of a part -/
def PairsAt (H : Hp) : List V → Pt → Prop
  | [], [] => True
  | x :: xs, p :: ps => (∃ q, x = .ref q ∧ H q = some (.tup [.str p.1, numV p.2])) ∧ PairsAt H xs ps
  | _, _ => False
theorem PairsAt.tups {H H' : Hp} (h : ∀ b xs, H b = some (.tup xs) → H' b = some (.tup xs)) : ∀ {xs : List V} {ps : Pt}, PairsAt H xs ps → PairsAt H' xs ps
  | [], [], _ => trivial
  | x :: xs, p :: ps, ⟨⟨q, e, hq⟩, r⟩ => ⟨⟨q, e, h _ _ hq⟩, PairsAt.tups h r⟩
theorem PairsAt.same {H H' : Hp} (s : Same H H') {xs : List V} {ps : Pt} (h : PairsAt H xs ps) : PairsAt H' xs ps := h.tups fun b ys e => s _ _ e
theorem PairsAt.len {H : Hp} : ∀ {xs : List V} {ps : Pt}, PairsAt H xs ps → xs.length = ps.length
  | [], [], _ => rfl
  | x :: xs, p :: ps, ⟨_, r⟩ => by simp [PairsAt.len r]
theorem PairsAt.app {H : Hp} : ∀ {xs ys : List V} {ps qs : Pt}, PairsAt H xs ps → PairsAt H ys qs → PairsAt H (xs ++ ys) (ps ++ qs)
  | [], _, [], _, _, h => h
  | x :: xs, _, p :: ps, _, ⟨a, r⟩, h => ⟨a, PairsAt.app r h⟩
theorem PairsAt.one {H : Hp} {q : Addr} {p : Str × Option Int} (h : H q = some (.tup [.str p.1, numV p.2])) : PairsAt H [.ref q] [p] := ⟨⟨q, rfl, h⟩, trivial⟩
theorem PairsAt.get {H : Hp} : ∀ {xs : List V} {ps : Pt}, PairsAt H xs ps → ∀ {i : Nat} {x : V}, xs[i]? = some x → ∃ p q, ps[i]? = some p ∧ x = .ref q ∧ H q = some (.tup [.str p.1, numV p.2])
  | x :: xs, p :: ps, ⟨⟨q, e, hq⟩, r⟩, 0, y, hy => by
    cases hy
    exact ⟨p, q, rfl, e, hq⟩
  | x :: xs, p :: ps, ⟨_, r⟩, i + 1, y, hy => PairsAt.get r hy
  | [], [], _, i, y, hy => by simp at hy
theorem PairsAt.take {H : Hp} : ∀ {xs : List V} {ps : Pt} (n : Nat), PairsAt H xs ps → PairsAt H (xs.take n) (ps.take n)
  | [], [], n, _ => by simp [PairsAt]
  | x :: xs, p :: ps, 0, _ => by simp [PairsAt]
  | x :: xs, p :: ps, n + 1, ⟨a, r⟩ => ⟨a, PairsAt.take n r⟩
theorem PairsAt.drop {H : Hp} : ∀ {xs : List V} {ps : Pt} (n : Nat), PairsAt H xs ps → PairsAt H (xs.drop n) (ps.drop n)
  | [], [], n, _ => by simp [PairsAt]
  | x :: xs, p :: ps, 0, h => h
  | x :: xs, p :: ps, n + 1, ⟨a, r⟩ => PairsAt.drop n r
/-- a part stands at l -/
def PartAt (H : Hp) (l : Addr) (ps : Pt) : Prop := ∃ xs, H l = some (.lst xs) ∧ PairsAt H xs ps
theorem PartAt.same {H H' : Hp} (s : Same H H') {l : Addr} {ps : Pt} (h : PartAt H l ps) : PartAt H' l ps := by
  obtain ⟨xs, h1, h2⟩ := h
  exact ⟨xs, s _ _ h1, h2.same s⟩
/-- .. as data -/
def numD : Option Int → PyData
  | none => .none
  | some i => .int i
def dPt (ps : Pt) : PyData := .list (ps.map fun p => .tuple [.str p.1, numD p.2])
theorem dp_num {H : Hp} (x : Option Int) : Dp K H (numV x) (numD x) := by
  cases x with
  | none => exact .non
  | some i => exact .int i
theorem PairsAt.dp {H : Hp} : ∀ {xs : List V} {ps : Pt}, PairsAt H xs ps → DpAll K H xs (ps.map fun p => .tuple [.str p.1, numD p.2])
  | [], [], _ => .nil
  | x :: xs, p :: ps, ⟨⟨q, e, hq⟩, r⟩ => by
    subst e
    exact .cons (.tup (sqT hq) (.cons (.str _) (.cons (dp_num _) .nil))) (PairsAt.dp r)
theorem PartAt.dp {H : Hp} {l : Addr} {ps : Pt} (h : PartAt H l ps) : Dp K H (.ref l) (dPt ps) := by
  obtain ⟨xs, h1, h2⟩ := h
  exact .lst (sqL h1) h2.dp
theorem numD_inj {x y : Option Int} (h : numD x = numD y) : x = y := by
  cases x <;> cases y <;> simp [numD] at h ⊢
  exact h
theorem dPt_inj {ps qs : Pt} : dPt ps = dPt qs ↔ ps = qs := by
  constructor
  · intro h
    have h' := PyData.list.inj h
    refine (List.map_inj_right (fun a b q => ?_)).mp h'
    have q1 := PyData.tuple.inj q
    simp only [List.cons.injEq, PyData.str.injEq, and_true] at q1
    exact Prod.ext q1.1 (numD_inj q1.2)
  · intro h; rw [h]
/-- texts that may be laid down: names are such -/
theorem nm_strOk {s : Str} (h : isNm s) : PyData.strOk s = true := by
  obtain ⟨h1, h2, h3⟩ := h
  unfold PyData.strOk
  rw [← Array.all_toList, List.all_eq_true]
  intro c hc
  have := h3 c hc
  simp
  omega
theorem gd_dPt {ps : Pt} (h : ∀ p ∈ ps, isNm p.1) : gd 2 (dPt ps) = true := by
  simp only [dPt, gd]
  rw [List.all_eq_true]
  intro x hx
  obtain ⟨p, hp, rfl⟩ := List.mem_map.mp hx
  have h1 : gd 0 (.str p.1) = true := by simp only [gd]; exact nm_strOk (h p hp)
  have h2 : gd 0 (numD p.2) = true := by cases p.2 <;> rfl
  show ([PyData.str p.1, numD p.2].all (gd 0)) = true
  simp only [List.all_cons, List.all_nil, h1, h2, Bool.and_true]
end
end Nk
namespace Nk
open PySem L2
section
variable {P : Program} {w : World} {K : PySem.W.Frag} {mg : Str → Option Value} {base : Heap}
abbrev letters : Str := "abcdefghijklmnopqrstuvwxyz"
theorem letters_in (c : Nat) : c ∈ letters.cps.toList ↔ 97 ≤ c ∧ c ≤ 122 := by
  have e : letters.cps.toList = (List.range 26).map (· + 97) := by decide +kernel
  rw [e, List.mem_map]
  constructor
  · rintro ⟨k, hk, rfl⟩
    have := List.mem_range.mp hk
    omega
  · intro h
    exact ⟨c - 97, List.mem_range.mpr (by omega), by omega⟩
def isNameV : V → Bool
  | .str s => decide (isNm s)
  | _ => false
/-- texts are not too long -/
def ShortS (x : V) : Prop := ∀ s, x = .str s → s.cps.size ≤ 1000
theorem isNm_all {s : Str} (h1 : 1 ≤ s.cps.toList.length) (h2 : s.cps.toList.length ≤ 6) : decide (isNm s) = (s.cps.toList.map fun c => decide (c ∈ letters.cps.toList)).all id := by
  rw [Bool.eq_iff_iff, decide_eq_true_eq, List.all_map, List.all_eq_true]
  unfold isNm
  constructor
  · rintro ⟨_, _, h⟩ c hc
    simp only [Function.comp, id, decide_eq_true_eq]
    exact (letters_in c).mpr (h c hc)
  · intro h
    refine ⟨h1, h2, fun c hc => (letters_in c).mp ?_⟩
    have := h c hc
    simpa only [Function.comp, id, decide_eq_true_eq] using this
abbrev nm_is_name : List Str := ["thing", "sign"]
abbrev pm_is_name : List Str := ["thing"]
abbrev lv_is_name : Nat := 1
theorem sc_is_name : FnScope nm_is_name pm_is_name (defScope s_is_name) := ⟨rfl, rfl, rfl, by decide +kernel, rfl, by decide +kernel, by decide +kernel⟩
def sp_is_name (K : PySem.W.Frag) : Sp := fun vs H Q _ => ∃ (x : V) (n : String), vs = [x] ∧ Thing K H x n ∧ ShortS x ∧ ∀ H', Same H H' → Q (.bl (isNameV x)) H'
theorem f_is_name (T : Txt K mg) : Fk P w K mg base CX0 lv_is_name "is_name" pm_is_name (sp_is_name K) := by
  obtain ⟨f, fd, F, g, b⟩ := T.d_is_name.ex
  refine ⟨f, fd, g, F.kp, b, F.ok sc_is_name (fun vs H Q E h => ?_) (fun cdv A outer s H vs Q E hr h => ?_)⟩
  · obtain ⟨x, n, rfl, _⟩ := h; rfl
  · obtain ⟨x, n, rfl, hx, hs, q⟩ := h
    refine ⟨_, (pss_one (ps_ret (pe_and (pe_callB call_isi (by rfl) T.b_isinstance (by decide +kernel) (pa_cons (pv 0) (pa_cons (pe_bltn (v := .ty "str") (by rfl) T.b_str (by decide +kernel) rfl) pa_nil))) (pe_and (pe_chain op_le op_le pe_int (pe_callB call_len_str (by rfl) T.b_len PySem.boot_len (pa_cons (pv 0) pa_nil)) pe_int) (pe_one (pe_callB (cr_all rfl) (by rfl) T.b_all (by decide +kernel) (pa_cons (pe_lc (own := [("sign", 1)]) (g := gName 1) (tt := tYes) (by rfl) sc_is_name.nd (pi_str (pv 0)) (blkOk_by (own := [("sign", 1)]) (N := nm_is_name) (sc := defScope s_is_name) (by decide +kernel)) (fun _ _ _ _ _ => (pg_name (i := 1) sc_is_name.nd rfl (Or.inl rfl))) (fun _ _ _ _ _ => pts_nil) (fun _ _ _ _ _ => (pe_cmpR op_in_sign (pv 1) (pe_globS T.c_LETTERS (by rfl)) (by rfl)))) pa_nil))))))), ?_⟩
    walk_at "rd"
    refine isi_thing hx (by decide) ?_
    cases hx with
    | str s =>
      have hz := hs s rfl
      have hl : s.length = s.cps.toList.length := Array.length_toList.symm
      have hz' : s.cps.toList.length ≤ 1000 := by rw [Array.length_toList]; exact hz
      refine ⟨true, rfl, ?_⟩
      walk_at "rd"
      refine ⟨by rw [hl]; exact sz (by omega), ?_⟩
      rw [hl]
      by_cases c1 : 1 ≤ s.cps.toList.length
      · by_cases c2 : s.cps.toList.length ≤ 6
        · have d1 : (1 : Int) ≤ (s.cps.toList.length : Int) := by omega
          have d2 : (s.cps.toList.length : Int) ≤ 6 := by omega
          simp only [d1, d2]
          walk_at "ru"
          intro D hD
          refine lc_it walk_str (LcP H D fun i => (s.cps.toList.take i).map fun c => .bl (decide (c ∈ letters.cps.toList))) ⟨same_upd hD, upd_same⟩ (fun _ _ _ _ => trivial) (fun i x H2 H3 hi p hy => ?_) (fun H2 p => ?_)
          · obtain ⟨rfl, c, hc, rfl⟩ := hy
            walk_at "ru"
            have hc' : s.cps.toList[i]? = some c := by rw [Array.getElem?_toList]; exact hc
            exact ⟨c, rfl, p.push hD (by simp; omega) (Same.refl _) (map_take_next _ hc')⟩
          · refine ⟨D, s.cps.toList.map fun c => decide (c ∈ letters.cps.toList), rfl, ?_, ?_⟩
            · have := p.at_
              rw [← Array.length_toList, List.take_length] at this
              rw [List.map_map]
              exact sqL this
            · rw [← isNm_all c1 c2]
              exact q H2 p.same
        · have d1 : (1 : Int) ≤ (s.cps.toList.length : Int) := by omega
          have d2 : ¬ (s.cps.toList.length : Int) ≤ 6 := by omega
          simp only [d1, d2]
          walk_at "ru"
          have e : isNameV (.str s) = false := by
            simp only [isNameV, decide_eq_false_iff_not]
            rintro ⟨_, h, _⟩
            exact c2 h
          rw [e] at q
          exact q _ (Same.refl _)
      · have d1 : ¬ (1 : Int) ≤ (s.cps.toList.length : Int) := by omega
        simp only [d1]
        walk_at "ru"
        have e : isNameV (.str s) = false := by
          simp only [isNameV, decide_eq_false_iff_not]
          rintro ⟨h, _⟩
          exact c1 h
        rw [e] at q
        exact q _ (Same.refl _)
    | _ => exact ⟨false, rfl, q _ (Same.refl _)⟩
theorem ShortS.nm {s : Str} (h : isNm s) : ShortS (.str s) := fun s' e => by
  cases e
  have := h.2.1
  rw [Array.length_toList] at this
  omega
theorem isNameV_nm {s : Str} (h : isNm s) : isNameV (.str s) = true := by
  simp only [isNameV, decide_eq_true_eq]
  exact h
theorem tyD {H : Hp} {d : Addr} {kvs : List (Key × V)} (h : H d = some (.dK kvs)) : tyV K "dict" (.ref d) H := .inr (.inr (.inl ⟨rfl, .inl ⟨_, h⟩⟩))
/-- a locked dict is left as it was -/
theorem unlock {H H1 H2 : Hp} {d : Addr} {od : Obj} {u : HO} (hd : H d = some u) (e : upd H d (.frz od u) = H1) (s : Same H1 H2) : H2 d = some (.frz od u) ∧ Same H (upd H2 d u) := by
  subst e
  refine ⟨s _ _ upd_same, fun b o hb => ?_⟩
  by_cases c : b = d
  · subst c
    rw [hb] at hd
    cases hd
    exact upd_same
  · rw [upd_ne c]
    exact s _ _ (by rw [upd_ne c]; exact hb)
abbrev nm_is_state : List Str := ["thing", "name"]
abbrev pm_is_state : List Str := ["thing"]
abbrev lv_is_state : Nat := 2
theorem sc_is_state : FnScope nm_is_state pm_is_state (defScope s_is_state) := ⟨rfl, rfl, rfl, by decide +kernel, rfl, by decide +kernel, by decide +kernel⟩
def sp_is_state : Sp := fun vs H Q _ => ∃ (d : Addr) (t : Tb), vs = [.ref d] ∧ H d = some (.dK (kvsT t)) ∧ OkT t ∧ t.length ≤ 20 ∧ ∀ H', Same H H' → Q (.bl true) H'
theorem f_is_state (T : Txt K mg) : Fk P w K mg base CX0 lv_is_state "is_state" pm_is_state sp_is_state := by
  obtain ⟨f, fd, F, g, b⟩ := T.d_is_state.ex
  refine ⟨f, fd, g, F.kp, b, F.ok sc_is_state (fun vs H Q E h => ?_) (fun cdv A outer s H vs Q E hr h => ?_)⟩
  · obtain ⟨d, t, rfl, _⟩ := h; rfl
  · obtain ⟨d, t, rfl, hd, ok, hl, q⟩ := h
    have hu := hu_of hr
    refine ⟨_, (pss_cons (ps_if (PW.pt (pw_or (pt_not (pt_val (pe_callB call_isi (by rfl) T.b_isinstance (by decide +kernel) (pa_cons (pv 0) (pa_cons (pe_bltn (v := .ty "dict") (by rfl) T.b_dict (by decide +kernel) rfl) pa_nil))))) (pw_or1 (pt_cmpR op_gt (pe_callB call_lenD (by rfl) T.b_len PySem.boot_len (pa_cons (pv 0) pa_nil)) (pe_globI T.c_MOST_NAMES (by rfl)) (nomark _))))) (pss_one (ps_ret pe_bl)) pss_nil)
      (pss_one (ps_ret (pe_callB (cr_all rfl) (by rfl) T.b_all (by decide +kernel) (pa_cons (pe_lock (pe_lc (own := [("name", 1)]) (g := gName 1) (tt := tYes) (by rfl) sc_is_state.nd (pi_keysM (pv 0)) (blkOk_by (own := [("name", 1)]) (N := nm_is_state) (sc := defScope s_is_state) (by decide +kernel)) (fun _ _ _ _ _ => (pg_name (i := 1) sc_is_state.nd rfl (Or.inl rfl))) (fun _ _ _ _ _ => pts_nil) (fun _ _ _ _ _ => (pe_and (pe_fn (f_is_name T) (hr.mono (by decide)) (by rfl) pass0 (pa_cons (pv 1) pa_nil)) (pe_one (pe_fn (f_is_number T) (hr.mono (by decide)) (by rfl) pass0 (pa_cons (pe_dget hu (pv 0) (pv 1) (fun _ _ => rfl)) (pa_cons pe_int (pa_cons pe_int pa_nil))))))))) pa_nil))))), ?_⟩
    with_reducible refine seq_k fun K_ hK_ => ?_
    walk_at "ru"
    refine isi_thing (.dic hd) (by decide) ⟨true, rfl, ?_⟩
    walk_at "ru"
    refine ⟨_, hd, ?_⟩
    rw [kvsT_len, if_neg (by omega)]
    walk_at "ru"
    subst hK_
    first | with_reducible refine seq_k fun K_ hK_ => ?_ | skip
    walk_at "ru"
    refine ⟨d, _, hd, trivial, fun od => ?_⟩
    generalize hG : upd H d (.frz od (.dK (kvsT t))) = H1
    have hd1 : H1 d = some (.frz od (.dK (kvsT t))) := by rw [← hG]; exact upd_same
    have un := fun {H2 : Hp} (s : Same H1 H2) => unlock hd hG s
    walk_at "ru"
    refine ⟨od, _, hd1, fun D hD => ?_⟩
    refine lc_it walk_keys (LcP H1 D fun i => (t.take i).map fun _ => .bl true) ⟨same_upd hD, upd_same⟩ (fun _ _ _ p => p.same _ _ hd1) (fun i x H2 H3 hi p hy => ?_) (fun H2 p => ?_)
    · obtain ⟨rfl, k, v, hk, rfl⟩ := hy
      unfold kvsT at hk
      rw [List.getElem?_map] at hk
      cases e : t[i]? with
      | none => rw [e] at hk; cases hk
      | some pr =>
        rw [e] at hk
        cases hk
        have hm := mem_of_get e
        have hn := ok.nm _ hm
        have hn2 := ok.num _ hm
        walk_at "ru"
        refine ⟨_, _, rfl, .str pr.1, ShortS.nm hn, fun H4 s4 => ?_⟩
        rw [isNameV_nm hn]
        walk_at "ru"
        have hval : valV (kvsT t) (Sum.inr pr.1) = some (.int pr.2) := by rw [kvsT_val, lk_of ok.nd hm]; rfl
        refine ⟨_, .inl ⟨_, Sum.inr pr.1, .inr ⟨od, (p.same.trans s4) _ _ hd1⟩, rfl, hval.symm⟩, _, _, 0, _, rfl, .int _, fun _ _ => ⟨99, rfl⟩, ?_⟩
        have e2 : isNumV (.int pr.2) 0 (.int 99) = true := by simp [isNumV, hn2]
        rw [e2]
        exact p.push hD (by simp; omega) s4 (map_take_next _ e)
    · obtain ⟨hl2, s2⟩ := un p.same
      refine ⟨hl2, D, (t.take t.length).map fun _ => true, rfl, ?_, ?_⟩
      · have := p.at_
        rw [kvsT_len] at this
        rw [List.map_map]
        refine sqL ?_
        rw [upd_ne (ne_of_none hd1 hD).symm]
        exact this
      · have e : ((t.take t.length).map fun _ => true).all id = true := by simp
        rw [e]
        exact q _ s2
abbrev nm_State____init__ : List Str := ["self", "some"]
abbrev pm_State____init__ : List Str := ["self", "some"]
abbrev lv_State____init__ : Nat := 3
theorem sc_State____init__ : FnScope nm_State____init__ pm_State____init__ (defScope s_State____init__) := ⟨rfl, rfl, rfl, by decide +kernel, rfl, by decide +kernel, by decide +kernel⟩
def sp_State____init__ (mg : Str → Option Value) : Sp := fun vs H Q _ => ∃ (k dx d : Addr) (t : Tb), vs = [.ref k, .ref d] ∧ H k = some (.ins (cls mg "State") dx []) ∧ H d = some (.dK (kvsT t)) ∧ OkT t ∧ t.length ≤ 20 ∧
  ∀ H', (∀ b o, H b = some o → b ≠ k → H' b = some o) → StAt mg H' k t → Q .non H'
theorem f_State____init__ (T : Txt K mg) : Mo P w K mg base CX0 lv_State____init__ "State" "__init__" pm_State____init__ (sp_State____init__ mg) := by
  obtain ⟨f, fd, F, g, b⟩ := T.m_State____init__.ex
  refine ⟨f, fd, g, b, F.ok sc_State____init__ (fun vs H Q E h => ?_) (fun cdv A outer s H vs Q E hr h => ?_)⟩
  · obtain ⟨k, dx, d, t, rfl, _⟩ := h; rfl
  · obtain ⟨k, dx, d, t, rfl, hk, hd, ok, hl, q⟩ := h
    refine ⟨_, (pss_cons (ps_if (pt_not (pt_val (pe_fn (f_is_state T) (hr.mono (by decide)) (by rfl) pass0 (pa_cons (pv 1) pa_nil)))) (pss_one ps_never) pss_nil)
      (pss_one (ps_fld (pv 0) (pe_callTy call_dictD (by rfl) T.b_dict (by decide +kernel) (pa_cons (pv 1) pa_nil)) rfl))), ?_⟩
    with_reducible refine seq_k fun K_ hK_ => ?_
    walk_at "ru"
    refine ⟨d, t, rfl, hd, ok, hl, fun H1 s1 => ⟨true, rfl, ?_⟩⟩
    rw [if_neg (by simp)]
    walk_at "ru"
    subst hK_
    first | with_reducible refine seq_k fun K_ hK_ => ?_ | skip
    walk_at "ru"
    refine ⟨_, .inl (s1 _ _ hd), fun p hp => ?_⟩
    have hk1 := s1 _ _ hk
    have hkp : k ≠ p := ne_of_none hk1 hp
    refine ⟨_, dx, _, by rw [upd_ne hkp]; exact hk1, T.o_State.cl, T.n_State__table, (by show (0 : Nat) < 1000; decide), ?_⟩
    refine q _ (fun b o hb hbk => ?_) ⟨⟨dx, p, upd_same, by rw [upd_ne hkp.symm]; exact upd_same⟩, ok, hl⟩
    have hb1 := s1 _ _ hb
    rw [upd_ne hbk, upd_ne (ne_of_none hb1 hp)]
    exact hb1
/-- State(table) -/
theorem state_new {H : Hp} {d : Addr} {t : Tb} {Q : Addr → Hp → Prop} {E : XK} (hd : H d = some (.dK (kvsT t))) (ok : OkT t) (hl : t.length ≤ 20) (q : ∀ k H', Same H H' → H k = none → StAt mg H' k t → Q k H') :
    ∀ x dx : Addr, H x = none → H dx = none → dx ≠ x → sp_State____init__ mg [.ref x, .ref d] (upd (upd H dx (.own x)) x (.ins (cls mg "State") dx [])) (fun v H2 => v = .non ∧ Q x H2) E := by
  intro x dx hx hdx hne
  have s1 : Same H (upd (upd H dx (.own x)) x (.ins (cls mg "State") dx [])) := fun b o hb => by
    rw [upd_ne (ne_of_none hb hx), upd_ne (ne_of_none hb hdx)]
    exact hb
  exact ⟨x, dx, d, t, rfl, upd_same, s1 _ _ hd, ok, hl, fun H' st hS => ⟨rfl, q x H' (fun b o hb => st b o (s1 _ _ hb) (ne_of_none hb hx)) hx hS⟩⟩
abbrev nm_State____len__ : List Str := ["self"]
abbrev pm_State____len__ : List Str := ["self"]
abbrev lv_State____len__ : Nat := 1
theorem sc_State____len__ : FnScope nm_State____len__ pm_State____len__ (defScope s_State____len__) := ⟨rfl, rfl, rfl, by decide +kernel, rfl, by decide +kernel, by decide +kernel⟩
def sp_State____len__ (mg : Str → Option Value) : Sp := fun vs H Q _ => ∃ (p : Addr) (t : Tb), vs = [.ref p] ∧ StAt mg H p t ∧ Q (.int t.length) H
theorem f_State____len__ (T : Txt K mg) : Mo P w K mg base CX0 lv_State____len__ "State" "__len__" pm_State____len__ (sp_State____len__ mg) := by
  obtain ⟨f, fd, F, g, b⟩ := T.m_State____len__.ex
  refine ⟨f, fd, g, b, F.ok sc_State____len__ (fun vs H Q E h => ?_) (fun cdv A outer s H vs Q E hr h => ?_)⟩
  · obtain ⟨p, t, rfl, _⟩ := h; rfl
  · obtain ⟨p, t, rfl, hS, q⟩ := h
    refine ⟨_, (pss_one (ps_ret (pe_callB call_lenD (by rfl) T.b_len PySem.boot_len (pa_cons (pe_fld (pv 0) rfl) pa_nil)))), ?_⟩
    obtain ⟨dx, d, h1, h2⟩ := hS.ex
    walk_at "ru"
    refine ⟨_, dx, _, h1, T.o_State.cl, T.n_State__table, _, rfl, d, rfl, _, h2, ?_⟩
    rw [kvsT_len]
    exact q
abbrev nm_State____eq__ : List Str := ["self", "other"]
abbrev pm_State____eq__ : List Str := ["self", "other"]
abbrev lv_State____eq__ : Nat := 1
theorem sc_State____eq__ : FnScope nm_State____eq__ pm_State____eq__ (defScope s_State____eq__) := ⟨rfl, rfl, rfl, by decide +kernel, rfl, by decide +kernel, by decide +kernel⟩
def sp_State____eq__ (mg : Str → Option Value) : Sp := fun vs H Q _ => ∃ (p q : Addr) (t u : Tb), vs = [.ref p, .ref q] ∧ StAt mg H p t ∧ StAt mg H q u ∧ Q (.bl (eqDk (kvsT t) (kvsT u))) H
theorem f_State____eq__ (T : Txt K mg) : Mo P w K mg base CX0 lv_State____eq__ "State" "__eq__" pm_State____eq__ (sp_State____eq__ mg) := by
  obtain ⟨f, fd, F, g, b⟩ := T.m_State____eq__.ex
  refine ⟨f, fd, g, b, F.ok sc_State____eq__ (fun vs H Q E h => ?_) (fun cdv A outer s H vs Q E hr h => ?_)⟩
  · obtain ⟨p, q, t, u, rfl, _⟩ := h; rfl
  · obtain ⟨p, q, t, u, rfl, hS, hU, q0⟩ := h
    refine ⟨_, (pss_one (ps_ret (pe_and (pe_callB call_isi (by rfl) T.b_isinstance (by decide +kernel) (pa_cons (pv 1) (pa_cons (pe_glob (v := .ref (cls mg "State")) (by rfl) T.o_State.g rfl) pa_nil))) (pe_one (pe_cmpR (op_eqDk hr.units0) (pe_fld (pv 0) rfl) (pe_fld (pv 1) rfl) (nomark _)))))), ?_⟩
    obtain ⟨dx, d, h1, h2⟩ := hS.ex
    obtain ⟨dy, e, h3, h4⟩ := hU.ex
    walk_at "ru"
    refine isi_own T.o_State T.v_State h3 ⟨true, rfl, ?_⟩
    walk_at "ru"
    refine ⟨_, dx, _, h1, T.o_State.cl, T.n_State__table, _, rfl, _, dy, _, h3, T.o_State.cl, T.n_State__table, _, rfl, d, e, _, _, rfl, rfl, h2, h4, kvsT_flat, kvsT_flat, q0⟩
abbrev nm_State__number : List Str := ["self", "name"]
abbrev pm_State__number : List Str := ["self", "name"]
abbrev lv_State__number : Nat := 2
theorem sc_State__number : FnScope nm_State__number pm_State__number (defScope s_State__number) := ⟨rfl, rfl, rfl, by decide +kernel, rfl, by decide +kernel, by decide +kernel⟩
def lkV (t : Tb) : V → Option Int
  | .str s => lk t s
  | _ => none
def sp_State__number (K : PySem.W.Frag) (mg : Str → Option Value) : Sp := fun vs H Q _ => ∃ (p : Addr) (t : Tb) (x : V) (n : String), vs = [.ref p, x] ∧ StAt mg H p t ∧ Thing K H x n ∧ ShortS x ∧ ∀ H', Same H H' → Q (numV (lkV t x)) H'
theorem f_State__number (T : Txt K mg) : Mo P w K mg base CX0 lv_State__number "State" "number" pm_State__number (sp_State__number K mg) := by
  obtain ⟨f, fd, F, g, b⟩ := T.m_State__number.ex
  refine ⟨f, fd, g, b, F.ok sc_State__number (fun vs H Q E h => ?_) (fun cdv A outer s H vs Q E hr h => ?_)⟩
  · obtain ⟨p, t, x, n, rfl, _⟩ := h; rfl
  · obtain ⟨p, t, x, n, rfl, hS, hx, hs, q⟩ := h
    have hu := hu_of hr
    refine ⟨_, (pss_one (ps_ret (pe_ifExp (PW.pt (pw_and (pt_val (pe_fn (f_is_name T) (hr.mono (by decide)) (by rfl) pass0 (pa_cons (pv 1) pa_nil))) (pw_and1 (pt_cmp (pc_din hu (pv 1) (pe_fld (pv 0) rfl)))))) (pe_dget hu (pe_fld (pv 0) rfl) (pv 1) (fun _ _ => rfl)) pe_non))), ?_⟩
    obtain ⟨dx, d, h1, h2⟩ := hS.ex
    walk_at "ru"
    refine ⟨x, n, rfl, hx, hs, fun H1 s1 => ⟨_, rfl, ?_⟩⟩
    cases hnm : isNameV x with
    | false =>
      rw [if_neg Bool.false_ne_true]
      have e : lkV t x = none := by
        cases x with
        | str s =>
          simp only [lkV]
          rw [lk_none]
          intro hm
          obtain ⟨pr, hp, rfl⟩ := List.mem_map.mp hm
          rw [isNameV_nm (hS.ok.nm _ hp)] at hnm
          cases hnm
        | _ => rfl
      rw [e] at q
      walk_at "ru"
      exact q H1 s1
    | true =>
      rw [if_pos rfl]
      obtain ⟨s, rfl⟩ : ∃ s, x = .str s := by
        cases x with
        | str s => exact ⟨s, rfl⟩
        | _ => cases hnm
      walk_at "ru"
      refine ⟨_, dx, _, s1 _ _ h1, T.o_State.cl, T.n_State__table, _, rfl, d, rfl, _, DGet.k (k := Sum.inr s) (s1 _ _ h2), ?_⟩
      rw [kvsT_val]
      cases e : lk t s with
      | none =>
        rw [if_neg (by simp)]
        have := q H1 s1
        simpa only [lkV, e, numV] using this
      | some i =>
        walk_at "ru"
        refine ⟨_, dx, _, s1 _ _ h1, T.o_State.cl, T.n_State__table, _, rfl, d, rfl, .int i, ?_, ?_⟩
        · have := DGet.k (k := Sum.inr s) (s1 _ _ h2)
          rw [kvsT_val, e] at this
          exact this
        · have := q H1 s1
          simpa only [lkV, e, numV] using this
abbrev nm_State__names : List Str := ["self"]
abbrev pm_State__names : List Str := ["self"]
abbrev lv_State__names : Nat := 1
theorem sc_State__names : FnScope nm_State__names pm_State__names (defScope s_State__names) := ⟨rfl, rfl, rfl, by decide +kernel, rfl, by decide +kernel, by decide +kernel⟩
def sp_State__names (mg : Str → Option Value) : Sp := fun vs H Q _ => ∃ (p : Addr) (t : Tb), vs = [.ref p] ∧ StAt mg H p t ∧ ∀ l H', Same H H' → H l = none → H' l = some (.lst ((srt (nms t)).map V.str)) → Q (.ref l) H'
theorem f_State__names (T : Txt K mg) : Mo P w K mg base CX0 lv_State__names "State" "names" pm_State__names (sp_State__names mg) := by
  obtain ⟨f, fd, F, g, b⟩ := T.m_State__names.ex
  refine ⟨f, fd, g, b, F.ok sc_State__names (fun vs H Q E h => ?_) (fun cdv A outer s H vs Q E hr h => ?_)⟩
  · obtain ⟨p, t, rfl, _⟩ := h; rfl
  · obtain ⟨p, t, rfl, hS, q⟩ := h
    refine ⟨_, (pss_one (ps_ret (pe_callB (cr_sortedKS rfl) (by rfl) T.b_sorted (by decide +kernel) (pa_cons (pe_bm0 PySem.F.plainAttrs_dict PySem.F.slot_dict_keys PySem.F.type_dict_keys mt_keys (pe_fld (pv 0) rfl)) pa_nil)))), ?_⟩
    obtain ⟨dx, d, h1, h2⟩ := hS.ex
    walk_at "ru"
    refine ⟨_, dx, _, h1, T.o_State.cl, T.n_State__table, _, rfl, tyD h2, d, _, rfl, rfl, h2, fun v hv => ?_⟩
    generalize hG : upd H v (KeysO v d) = H1
    obtain ⟨s1, hv1⟩ := newF hv hG
    clear hG
    refine ⟨v, d, _, nms t, rfl, hv1, s1 _ _ h2, kvsT_keys, hS.ok.nd, fun ys l h3 h4 hl => ?_⟩
    have e : ys = srt (nms t) := srt_uniq h3 pw_srt fun k => by rw [h4, mem_srt]
    subst e
    exact q l _ (s1.trans (same_upd hl)) (s1.free hl) upd_same
abbrev nm_State__plain : List Str := ["self"]
abbrev pm_State__plain : List Str := ["self"]
abbrev lv_State__plain : Nat := 1
theorem sc_State__plain : FnScope nm_State__plain pm_State__plain (defScope s_State__plain) := ⟨rfl, rfl, rfl, by decide +kernel, rfl, by decide +kernel, by decide +kernel⟩
def sp_State__plain (mg : Str → Option Value) : Sp := fun vs H Q _ => ∃ (p : Addr) (t : Tb), vs = [.ref p] ∧ StAt mg H p t ∧ ∀ d H', Same H H' → H d = none → H' d = some (.dK (kvsT t)) → Q (.ref d) H'
theorem f_State__plain (T : Txt K mg) : Mo P w K mg base CX0 lv_State__plain "State" "plain" pm_State__plain (sp_State__plain mg) := by
  obtain ⟨f, fd, F, g, b⟩ := T.m_State__plain.ex
  refine ⟨f, fd, g, b, F.ok sc_State__plain (fun vs H Q E h => ?_) (fun cdv A outer s H vs Q E hr h => ?_)⟩
  · obtain ⟨p, t, rfl, _⟩ := h; rfl
  · obtain ⟨p, t, rfl, hS, q⟩ := h
    refine ⟨_, (pss_one (ps_ret (pe_callTy call_dictD (by rfl) T.b_dict (by decide +kernel) (pa_cons (pe_fld (pv 0) rfl) pa_nil)))), ?_⟩
    obtain ⟨dx, d, h1, h2⟩ := hS.ex
    walk_at "ru"
    refine ⟨_, dx, _, h1, T.o_State.cl, T.n_State__table, _, rfl, d, rfl, _, .inl h2, fun p hp => q p _ (same_upd hp) hp upd_same⟩
end
end Nk
namespace Nk
open PySem L2
section
variable {P : Program} {w : World} {K : PySem.W.Frag} {mg : Str → Option Value} {base : Heap}
/-- things, down to a depth, their texts short -/
def DS (K : PySem.W.Frag) (H : Hp) : Nat → V → Prop
  | 0, x => (∃ n, Thing K H x n) ∧ ShortS x
  | k + 1, x => ((∃ n, Thing K H x n) ∧ ShortS x) ∧ ∀ a xs, x = .ref a → (H a = some (.tup xs) ∨ H a = some (.lst xs)) → xs.length ≤ 100000 ∧ ∀ y ∈ xs, DS K H k y
theorem DS.th {H : Hp} {k : Nat} {x : V} (h : DS K H k x) : (∃ n, Thing K H x n) ∧ ShortS x := by
  cases k with
  | zero => exact h
  | succ k => exact h.1
theorem DS.same {H H' : Hp} (s : Same H H') : ∀ {k : Nat} {x : V}, DS K H k x → DS K H' k x
  | 0, _, ⟨⟨n, h⟩, z⟩ => ⟨⟨n, Thing.same s h⟩, z⟩
  | k + 1, x, ⟨⟨⟨n, h⟩, z⟩, hi⟩ => by
    refine ⟨⟨⟨n, Thing.same s h⟩, z⟩, fun a xs e ha => ?_⟩
    have back : H a = some (.tup xs) ∨ H a = some (.lst xs) := by
      subst e
      cases h with
      | lst h => have := s _ _ h; rw [this] at ha; rcases ha with z | z <;> cases z; exact .inr h
      | tup h => have := s _ _ h; rw [this] at ha; rcases ha with z | z <;> cases z; exact .inl h
      | dic h => have := s _ _ h; rw [this] at ha; rcases ha with z | z <;> cases z
    obtain ⟨h1, h2⟩ := hi a xs e back
    exact ⟨h1, fun y hy => DS.same s (h2 y hy)⟩
def isNum0V (m : V) : Bool := match m with
  | .non => true
  | m => isNumV m 0 (.int 99)
def isPairV (H : Hp) (x : V) : Bool := match x with
  | .ref a => match H a with
    | some (.tup [n, m]) => isNameV n && isNum0V m
    | _ => false
  | _ => false
def nameOf (H : Hp) (x : V) : Str := match x with
  | .ref a => match H a with
    | some (.tup (.str s :: _)) => s
    | _ => Str.empty
  | _ => Str.empty
def isPartV (H : Hp) (x : V) : Bool := match x with
  | .ref a => match H a with
    | some (.lst xs) => decide (xs.length ≤ 40) && xs.all (isPairV H) && decide ((xs.map (nameOf H)).Pairwise sl)
    | _ => false
  | _ => false
theorem isPairV_same {H H' : Hp} (s : Same H H') {k : Nat} {x : V} (h0 : DS K H k x) : isPairV H' x = isPairV H x := by
  obtain ⟨⟨n, h⟩, _⟩ := h0.th
  clear h0
  cases h with
  | lst h => simp only [isPairV, h, s _ _ h]
  | tup h => simp only [isPairV, h, s _ _ h]
  | dic h => simp only [isPairV, h, s _ _ h]
  | _ => rfl
theorem nameOf_same {H H' : Hp} (s : Same H H') {k : Nat} {x : V} (h0 : DS K H k x) : nameOf H' x = nameOf H x := by
  obtain ⟨⟨n, h⟩, _⟩ := h0.th
  clear h0
  cases h with
  | lst h => simp only [nameOf, h, s _ _ h]
  | tup h => simp only [nameOf, h, s _ _ h]
  | dic h => simp only [nameOf, h, s _ _ h]
  | _ => rfl
theorem isPartV_same {H H' : Hp} (s : Same H H') {x : V} (h : DS K H 2 x) : isPartV H' x = isPartV H x := by
  obtain ⟨⟨⟨n, h⟩, _⟩, hi⟩ := h
  cases h with
  | @lst a xs h =>
    obtain ⟨_, h2⟩ := hi a xs rfl (.inr h)
    simp only [isPartV, h, s _ _ h]
    have e1 : xs.all (isPairV H') = xs.all (isPairV H) := by
      rw [Bool.eq_iff_iff, List.all_eq_true, List.all_eq_true]
      exact ⟨fun z x hx => by rw [← isPairV_same s (h2 x hx)]; exact z x hx, fun z x hx => by rw [isPairV_same s (h2 x hx)]; exact z x hx⟩
    have e2 : xs.map (nameOf H') = xs.map (nameOf H) := List.map_congr_left fun x hx => nameOf_same s (h2 x hx)
    rw [e1, e2]
  | tup h => simp only [isPartV, h, s _ _ h]
  | dic h => simp only [isPartV, h, s _ _ h]
  | _ => rfl
/-! neighbours in order -/
def adjL (l : List Str) : List Bool := (l.zip (l.drop 1)).map fun p => decide (sl p.1 p.2)
theorem adjL_get {l : List Str} {i : Nat} {x y : Str} (h1 : l[i]? = some x) (h2 : l[i + 1]? = some y) : (adjL l)[i]? = some (decide (sl x y)) := by
  unfold adjL
  have e : (l.zip (l.drop 1))[i]? = some (x, y) := List.getElem?_zip_eq_some.mpr ⟨h1, by rw [List.getElem?_drop, Nat.add_comm]; exact h2⟩
  rw [List.getElem?_map, e]
  rfl
theorem adjL_len {l : List Str} : (adjL l).length = l.length - 1 := by
  unfold adjL
  simp
theorem adjL_all : ∀ {l : List Str}, (adjL l).all id = decide (l.Pairwise sl)
  | [] => by simp [adjL]
  | [x] => by simp [adjL]
  | x :: y :: r => by
    have ih := adjL_all (l := y :: r)
    have e : adjL (x :: y :: r) = decide (sl x y) :: adjL (y :: r) := by simp [adjL]
    rw [e, List.all_cons, ih, Bool.eq_iff_iff]
    simp only [id, Bool.and_eq_true, decide_eq_true_eq]
    constructor
    · rintro ⟨h1, h2⟩
      refine List.pairwise_cons.mpr ⟨fun z hz => ?_, h2⟩
      rcases List.mem_cons.mp hz with c | c
      · rw [c]; exact h1
      · exact sl_trans h1 ((List.pairwise_cons.mp h2).1 z c)
    · intro h
      obtain ⟨h1, h2⟩ := List.pairwise_cons.mp h
      exact ⟨h1 y List.mem_cons_self, h2⟩
theorem PairsAt.ds {H : Hp} : ∀ {xs : List V} {ps : Pt}, PairsAt H xs ps → (∀ p ∈ ps, isNm p.1) → ∀ x ∈ xs, DS K H 1 x
  | x :: xs, p :: ps, ⟨⟨q, e, hq⟩, r⟩, hn, y, hy => by
    rcases List.mem_cons.mp hy with z | z
    · subst z
      subst e
      refine ⟨⟨⟨_, .tup hq⟩, fun s e => nomatch e⟩, fun a ys e ha => ?_⟩
      cases e
      rw [hq] at ha
      rcases ha with z | z <;> cases z
      refine ⟨by simp, fun y hy => ?_⟩
      simp only [List.mem_cons, List.not_mem_nil, or_false] at hy
      rcases hy with rfl | rfl
      · exact ⟨⟨_, .str _⟩, ShortS.nm (hn p List.mem_cons_self)⟩
      · cases p.2 with
        | none => exact ⟨⟨_, .non⟩, fun s e => nomatch e⟩
        | some i => exact ⟨⟨_, .int i⟩, fun s e => nomatch e⟩
    · exact PairsAt.ds r (fun p hp => hn p (List.mem_cons_of_mem _ hp)) y z
theorem PairsAt.isP {H : Hp} : ∀ {xs : List V} {ps : Pt}, PairsAt H xs ps → (∀ p ∈ ps, isNm p.1) → (∀ p ∈ ps, ∀ i, p.2 = some i → 0 ≤ i ∧ i ≤ 99) → xs.all (isPairV H) = true ∧ xs.map (nameOf H) = ps.map (·.1)
  | [], [], _, _, _ => ⟨rfl, rfl⟩
  | x :: xs, p :: ps, ⟨⟨q, e, hq⟩, r⟩, hn, hm => by
    subst e
    obtain ⟨i1, i2⟩ := PairsAt.isP r (fun p hp => hn p (List.mem_cons_of_mem _ hp)) (fun p hp => hm p (List.mem_cons_of_mem _ hp))
    have h1 := hn p List.mem_cons_self
    have h2 := hm p List.mem_cons_self
    constructor
    · rw [List.all_cons, i1, Bool.and_true]
      simp only [isPairV, hq, isNameV_nm h1, Bool.true_and]
      obtain ⟨n, m⟩ := p
      cases m with
      | none => rfl
      | some i =>
        have := h2 i rfl
        simp [numV, isNum0V, isNumV, this]
    · rw [List.map_cons, List.map_cons, i2]
      simp only [nameOf, hq]
theorem PartAt.ds {H : Hp} {l : Addr} {ps : Pt} (h : PartAt H l ps) (g : GoodP ps) : DS K H 2 (.ref l) ∧ isPartV H (.ref l) = true := by
  obtain ⟨xs, h1, h2⟩ := h
  have hl := h2.len
  have g4 := g.len
  refine ⟨⟨⟨⟨_, .lst h1⟩, fun s e => nomatch e⟩, fun a ys e ha => ?_⟩, ?_⟩
  · cases e
    rw [h1] at ha
    rcases ha with z | z <;> cases z
    exact ⟨by omega, h2.ds g.nm⟩
  · obtain ⟨i1, i2⟩ := h2.isP g.nm g.num
    simp only [isPartV, h1, i1, i2, Bool.and_true, Bool.and_eq_true, decide_eq_true_eq]
    exact ⟨by omega, g.pw⟩
theorem ds_list {H : Hp} {l : Addr} {k : Nat} {xs : List V} (h : H l = some (.lst xs)) (hz : xs.length ≤ 1000) (hx : ∀ x ∈ xs, DS K H k x) : DS K H (k + 1) (.ref l) := by
  refine ⟨⟨⟨_, .lst h⟩, fun s e => nomatch e⟩, fun a ys e ha => ?_⟩
  cases e
  rw [h] at ha
  rcases ha with z | z <;> cases z
  exact ⟨by omega, hx⟩
theorem ds0 {H : Hp} {x : V} {n : String} (h : Thing K H x n) (hs : ShortS x) : DS K H 0 x := ⟨⟨n, h⟩, hs⟩
theorem ds_tup {H : Hp} {l : Addr} {k : Nat} {xs : List V} (h : H l = some (.tup xs)) (hz : xs.length ≤ 1000) (hx : ∀ x ∈ xs, DS K H k x) : DS K H (k + 1) (.ref l) := by
  refine ⟨⟨⟨_, .tup h⟩, fun s e => nomatch e⟩, fun a ys e ha => ?_⟩
  cases e
  rw [h] at ha
  rcases ha with z | z <;> cases z
  exact ⟨by omega, hx⟩
theorem short_of {s : Str} (h : s.cps.size ≤ 1000) : ShortS (.str s) := fun s' e => by cases e; exact h
theorem ds_pair {H : Hp} {l : Addr} {s : Str} {x : V} {n : String} (h : H l = some (.tup [.str s, x])) (hs : s.cps.size ≤ 1000) (hx : Thing K H x n) (hx2 : ShortS x) : DS K H 1 (.ref l) :=
  ds_tup h (by simp) fun y hy => by
    simp only [List.mem_cons, List.not_mem_nil, or_false] at hy
    rcases hy with rfl | rfl
    · exact ds0 (.str s) (short_of hs)
    · exact ds0 hx hx2
theorem room65 {k : Nat} {A : Around} (r : Room k A) : A.units + 65 < cLine := by have := r.un; omega
end
end Nk
namespace Nk
open PySem L2
section
variable {P : Program} {w : World} {K : PySem.W.Frag} {mg : Str → Option Value} {base : Heap}
theorem applyP_cons {t : Tb} {n : Str} {x : Option Int} {ps : Pt} : applyP t ((n, x) :: ps) = if lk t n = x then none else applyP (stepP t n x) ps := rfl
theorem scal_num (a b : Option Int) : scal (numV a) (numV b) = true := by cases a <;> cases b <;> rfl
theorem numV_inj {a b : Option Int} : numV a = numV b ↔ a = b := by
  cases a <;> cases b <;> simp [numV]
/-- the number of a name in a state -/
theorem num_of {H : Hp} {p : Addr} {t : Tb} {n : Str} {Q : VK} {E : XK} (hS : StAt mg H p t) (hn : isNm n) (q : ∀ H', Same H H' → Q (numV (lk t n)) H') :
    ∃ dx fs, H p = some (.ins (cls mg "State") dx fs) ∧ fs.lookup ("number" : Str) = none ∧ sp_State__number K mg [.ref p, .str n] H Q E := by
  obtain ⟨dx, d, h1, h2⟩ := hS.ex
  exact ⟨dx, _, h1, rfl, p, t, .str n, _, rfl, hS, .str n, ShortS.nm hn, q⟩
abbrev nm_part_of : List Str := ["one", "other", "names", "name"]
abbrev pm_part_of : List Str := ["one", "other"]
abbrev lv_part_of : Nat := 3
theorem sc_part_of : FnScope nm_part_of pm_part_of (defScope s_part_of) := ⟨rfl, rfl, rfl, by decide +kernel, rfl, by decide +kernel, by decide +kernel⟩
def sp_part_of (mg : Str → Option Value) : Sp := fun vs H Q _ => ∃ (p q : Addr) (t u : Tb), vs = [.ref p, .ref q] ∧ StAt mg H p t ∧ StAt mg H q u ∧ ∀ l H', Same H H' → H l = none → PartAt H' l (part t u) → Q (.ref l) H'
def iv_part_of (H1 : Hp) (D : Addr) (t u : Tb) (i : Nat) (H : Hp) : Prop := Same H1 H ∧ ∃ ys, H D = some (.lst ys) ∧ PairsAt H ys ((((srt (nms t ++ nms u)).take i).filter fun n => decide (lk t n ≠ lk u n)).map fun n => (n, lk u n))
theorem f_part_of (T : Txt K mg) : Fk P w K mg base CX0 lv_part_of "part_of" pm_part_of (sp_part_of mg) := by
  obtain ⟨f, fd, F, g, b⟩ := T.d_part_of.ex
  refine ⟨f, fd, g, F.kp, b, F.ok sc_part_of (fun vs H Q E h => ?_) (fun cdv A outer s H vs Q E hr h => ?_)⟩
  · obtain ⟨p, q, t, u, rfl, _⟩ := h; rfl
  · obtain ⟨p, q, t, u, rfl, hS, hU, q0⟩ := h
    refine ⟨_, (pss_cons (ps_set (i := 2) sc_part_of.nd rfl (.inl rfl) (pe_callB (cr_sortedSS rfl) (by rfl) T.b_sorted (by decide +kernel) (pa_cons (pe_callTy (cr_setLS rfl) (by rfl) T.b_set (by decide +kernel) (pa_cons (pe_op op_cat (pe_me0 (pv 0) T.o_State (f_State__names T) (hr.mono (by decide)) pass0) (pe_me0 (pv 1) T.o_State (f_State__names T) (hr.mono (by decide)) pass0)) pa_nil)) pa_nil)))
      (pss_one (ps_ret (pe_lc (own := [("name", 3)]) (g := gName 3) (by rfl) sc_part_of.nd (pi_list (pv 2)) (blkOk_by (own := [("name", 3)]) (N := nm_part_of) (sc := defScope s_part_of) (by decide +kernel)) (fun _ _ _ _ _ => (pg_name (i := 3) sc_part_of.nd rfl (Or.inl rfl))) (fun _ _ _ _ _ => (pts_one (pt_cmpR op_ne (pe_meK mg rfl (pv 0) T.o_State (f_State__number T) (hr.mono (by decide)) pass0 (pa_cons (pv 3) pa_nil)) (pe_meK mg rfl (pv 1) T.o_State (f_State__number T) (hr.mono (by decide)) pass0 (pa_cons (pv 3) pa_nil)) (nomark _)))) (fun _ _ _ _ _ => (pe_tup (pa_cons (pv 3) (pa_cons (pe_meK mg rfl (pv 1) T.o_State (f_State__number T) (hr.mono (by decide)) pass0 (pa_cons (pv 3) pa_nil)) pa_nil)))))))), ?_⟩
    obtain ⟨dx, d, h1, h2⟩ := hS.ex
    obtain ⟨dy, e, h3, h4⟩ := hU.ex
    have lS := hS.len
    have lU := hU.len
    have hlen : ∀ t : Tb, t.length ≤ 20 → (srt (nms t)).length ≤ 20 := fun t h => Nat.le_trans (nodup_le (pw_nodup pw_srt) (m := nms t) fun x hx => mem_srt.mp hx) (by simpa [nms] using h)
    have l1 := hlen t lS
    have l2 := hlen u lU
    with_reducible refine seq_k fun K_ hK_ => ?_
    walk_at "ru"
    refine ⟨dx, _, h1, rfl, p, t, rfl, hS, fun a1 H1 s1 n1 hA1 => ?_⟩
    refine ⟨dy, _, s1 _ _ h3, rfl, q, u, rfl, hU.same s1, fun a2 H2 s2 n2 hA2 => ?_⟩
    refine ⟨a1, a2, _, _, rfl, rfl, s2 _ _ hA1, hA2, sz (by simp; omega), ?_⟩
    intro a3 n_a3
    generalize hG_ : upd _ a3 _ = H3
    obtain ⟨s3, hA3⟩ := newF n_a3 hG_
    clear hG_
    rw [← List.map_append] at hA3
    refine ⟨a3, _, rfl, sqL hA3, by simp; omega, fun a4 c n4 hc => ?_⟩
    generalize hG : upd H3 a4 _ = H4
    obtain ⟨s4, hA4⟩ := newF n4 hG
    clear hG
    have hc2 : c ≤ 40 := by
      rw [List.length_append] at hc
      omega
    refine ⟨a4, _, c, rfl, hA4, by omega, fun ns a5 g1 g2 n5 => ?_⟩
    have e5 : ns = srt (nms t ++ nms u) := srt_uniq g1 pw_srt fun k => by rw [g2, decide_eq_true_eq, List.mem_append, mem_srt, mem_srt, mem_srt, List.mem_append]
    subst e5
    generalize hG : upd H4 a5 _ = H5
    obtain ⟨s5, hA5⟩ := newF n5 hG
    clear hG
    have sA := ((((s1.trans s2).trans s3).trans s4).trans s5)
    have hN : (srt (nms t ++ nms u)).length ≤ 40 := Nat.le_trans (nodup_le (pw_nodup pw_srt) (m := nms t ++ nms u) fun x hx => mem_srt.mp hx) (by simp [nms]; omega)
    have hnm : ∀ n ∈ srt (nms t ++ nms u), isNm n := fun n hn => by
      rw [mem_srt, List.mem_append] at hn
      rcases hn with hn | hn
      · obtain ⟨pr, hp, rfl⟩ := List.mem_map.mp hn; exact hS.ok.nm _ hp
      · obtain ⟨pr, hp, rfl⟩ := List.mem_map.mp hn; exact hU.ok.nm _ hp
    walk_at "ru"
    subst hK_
    first | with_reducible refine seq_k fun K_ hK_ => ?_ | skip
    walk_at "ru"
    refine ⟨⟨_, sqL hA5⟩, fun D hD => ?_⟩
    refine lc_list (K := K) (a := a5) (xs := (srt (nms t ++ nms u)).map V.str) (iv_part_of H5 D t u) ⟨same_upd hD, [], upd_same, by simp [PairsAt]⟩ (fun i H2 _ p => sqL (p.1 _ _ hA5)) (fun i x H6 hx p => ?_) fun H6 p => ?_
    · obtain ⟨s6, ys, hD6, hP6⟩ := p
      rw [List.getElem?_map] at hx
      cases ex : (srt (nms t ++ nms u))[i]? with
      | none => rw [ex] at hx; cases hx
      | some n =>
        rw [ex] at hx
        cases hx
        have hn := hnm n (mem_of_get ex)
        have hi := lt_of_get ex
        have hlY := hP6.len
        rw [List.length_map] at hlY
        have hlF := filter_len (srt (nms t ++ nms u)) (fun n => decide (lk t n ≠ lk u n)) i
        have hS6 := hS.same (sA.trans s6)
        have hU6 := hU.same (sA.trans s6)
        walk_at "ru"
        refine num_of hS6 hn fun H7 s7 => ?_
        refine num_of (hU6.same s7) hn fun H8 s8 => ?_
        refine ⟨scal_num _ _, ?_⟩
        have s68 := s7.trans s8
        have hft := filter_take_next (fun n => decide (lk t n ≠ lk u n)) ex
        by_cases c : lk t n = lk u n
        · rw [if_neg (by simp [numV_inj, c])]
          rw [if_neg (by simp [c]), List.append_nil] at hft
          exact ⟨s6.trans s68, ys, s68 _ _ hD6, by rw [hft]; exact hP6.same s68⟩
        · rw [if_pos (by simp [numV_inj, c])]
          rw [if_pos (by simp [c])] at hft
          walk_at "ru"
          refine num_of ((hU6.same s7).same s8) hn fun H9 s9 => ?_
          intro a9 n_a9
          generalize hG_ : upd _ a9 _ = HA
          obtain ⟨sB, hA9⟩ := newF n_a9 hG_
          clear hG_
          have s6A := (s68.trans s9).trans sB
          refine ⟨ys, s6A _ _ hD6, szl (by omega), Same.app (s6.trans s6A) hD, ys ++ [.ref a9], upd_same, ?_⟩
          rw [hft, List.map_append]
          have kp : ∀ z zs, HA z = some (.tup zs) → (upd HA D (.lst (ys ++ [.ref a9]))) z = some (.tup zs) := fun z zs e => by rw [upd_ne (ne_of e (s6A _ _ hD6) (by intro z; cases z))]; exact e
          exact (hP6.same s6A |>.tups kp).app (PairsAt.one (p := (n, lk u n)) (kp _ _ hA9))
    · obtain ⟨s6, ys, hD6, hP6⟩ := p
      rw [List.length_map, List.take_length] at hP6
      exact q0 D H6 (sA.trans s6) (sA.free hD) ⟨ys, hD6, hP6⟩
/-- the last of a list -/
theorem ixLast {H : Hp} {p : Addr} {xs : List V} {v : V} {Q : VK} (h : SqL K H p xs) (e : xs.getLast? = some v) (q : Q v H) : rIxL K (.ref p) (.int (-1)) H Q := by
  refine ⟨p, xs, -1, v, rfl, rfl, h, ?_, q⟩
  have hne : xs ≠ [] := fun z => by rw [z] at e; cases e
  have hl := List.length_pos_iff.mpr hne
  unfold atI ixN
  rw [if_neg (by omega), if_pos (by omega)]
  show xs[(-1 + (xs.length : Int)).toNat]? = some v
  rw [List.getLast?_eq_getElem?] at e
  rw [← e]
  congr 1
  omega
end
end Nk
namespace Nk
open PySem L2
section
variable {P : Program} {w : World} {K : PySem.W.Frag} {mg : Str → Option Value} {base : Heap}
theorem mergeK_nd : ∀ {ks ls : List (Key × V)}, ((ls ++ ks).map (·.1)).Nodup → mergeK ls ks = ls ++ ks
  | [], ls, _ => by simp [mergeK]
  | p :: ks, ls, h => by
    have h1 : valV ls p.1 = none := by
      cases e : valV ls p.1 with
      | none => rfl
      | some v =>
        exfalso
        have hm := valV_in e
        rw [List.map_append, List.nodup_append] at h
        exact h.2.2 _ hm p.1 (by simp) rfl
    show mergeK (putK ls p.1 p.2) ks = _
    rw [putK_new _ h1, mergeK_nd (by simpa using h)]
    simp
theorem ixS {z : Str} {i : Int} {j c : Nat} {H : Hp} {Q : VK} (hz : z.cps.size ≤ 1000) (hi : i = (j : Int)) (e : z.cps.toList[j]? = some c) (q : Q (.str ⟨#[c]⟩) H) : rIxS (.str z) (.int i) H Q :=
  ⟨z, i, c, rfl, rfl, sz (by show z.cps.size ≤ _; omega), by rw [hi]; exact atI_nat e, q⟩
theorem str_add {z : Str} {c : Nat} : (z ++ (⟨#[c]⟩ : Str)).cps.toList = z.cps.toList ++ [c] := by
  show (z.cps ++ #[c]).toList = _
  simp
theorem empty_all : ∀ c ∈ (("" : Str)).cps.toList, 97 ≤ c ∧ c ≤ 122 := by
  have e : (("" : Str)).cps.toList = [] := by decide +kernel
  intro c hc
  rw [e] at hc
  cases hc
abbrev nm__law_name : List Str := ["script", "town", "names", "letters", "found", "k"]
abbrev pm__law_name : List Str := ["script", "town", "names"]
abbrev lv__law_name : Nat := 3
theorem sc__law_name : FnScope nm__law_name pm__law_name (defScope s__law_name) := ⟨rfl, rfl, rfl, by decide +kernel, rfl, by decide +kernel, by decide +kernel⟩
def sp__law_name (K : PySem.W.Frag) : Sp := fun vs H Q _ => ∃ (a t l : Addr) (ns : List Int) (c : Nat) (xs : List Str), vs = [.ref a, .ref t, .ref l] ∧ Tn K H a t ns c ∧ c < 900000000 ∧ H l = some (.lst (xs.map V.str)) ∧ l ≠ t ∧ 0 < xs.length ∧ xs.length ≤ 1000 ∧ (∀ x ∈ xs, isNm x) ∧
  ∀ (s : Str) (c' : Nat) (H' : Hp), isNm s → c' ≤ c + 8 → Tn K H' a t ns c' → But t H H' → Q (.str s) H'
def iv__law_name (K : PySem.W.Frag) (H1 : Hp) (a t l : Addr) (ns : List Int) (c : Nat) (i : Nat) (σ : L2.St) (H : Hp) : Prop :=
  ∃ (z : Str) (y : Option V), σ = [some (.ref a), some (.ref t), some (.ref l), some (.str letters), some (.str z), y] ∧ z.cps.toList.length = i ∧ (∀ c ∈ z.cps.toList, 97 ≤ c ∧ c ≤ 122) ∧ Tn K H a t ns (c + i) ∧ But t H1 H
theorem f__law_name (T : Txt K mg) : Fk P w K mg base CX0 lv__law_name "_law_name" pm__law_name (sp__law_name K) := by
  obtain ⟨f, fd, F, g, b⟩ := T.d__law_name.ex
  refine ⟨f, fd, g, F.kp, b, F.ok sc__law_name (fun vs H Q E h => ?_) (fun cdv A outer s H vs Q E hr h => ?_)⟩
  · obtain ⟨a, t, l, ns, c, xs, rfl, _⟩ := h; rfl
  · obtain ⟨a, t, l, ns, c, xs, rfl, hT, hc, hl, hlt, h0, h1, hnm, q⟩ := h
    refine ⟨_, (pss_cons (ps_if (pt_cmpR op_gt (pe_fn (f__law_draw T) (hr.mono (by decide)) (by rfl) pass0 (pa_cons (pv 0) (pa_cons (pv 1) (pa_cons pe_int pa_nil)))) pe_int (nomark _)) (pss_one (ps_ret (pe_fn (f__law_pick T) (hr.mono (by decide)) (by rfl) pass0 (pa_cons (pv 0) (pa_cons (pv 1) (pa_cons (pv 2) pa_nil)))))) pss_nil)
      (pss_cons (ps_set (i := 3) sc__law_name.nd rfl (.inl rfl) pe_str)
      (pss_cons (ps_set (i := 4) sc__law_name.nd rfl (.inl rfl) pe_str)
      (pss_cons (ps_for PassesOwn.never rfl (pi_range1 (by rfl) T.b_range (pa_cons (pe_op op_add pe_int (pe_fn (f__law_draw T) (hr.mono (by decide)) (by rfl) pass0 (pa_cons (pv 0) (pa_cons (pv 1) (pa_cons pe_int pa_nil))))) pa_nil)) (pg_name (i := 5) sc__law_name.nd rfl (Or.inl rfl)) (pss_one (ps_set (i := 4) sc__law_name.nd rfl (.inl rfl) (pe_op op_add_str (pv 4) (pe_ix ix_str (pv 3) (pe_fn (f__law_draw T) (hr.mono (by decide)) (by rfl) pass0 (pa_cons (pv 0) (pa_cons (pv 1) (pa_cons pe_int pa_nil)))) (fun _ _ => rfl))))))
      (pss_one (ps_ret (pv 4))))))), ?_⟩
    with_reducible refine seq_k fun K_ hK_ => ?_
    walk_at "ru"
    refine ⟨a, t, ns, c, 4, rfl, hT, by omega, by omega, by omega, fun d H1 d0 d1 T1 b1 => ?_⟩
    refine ⟨_, rfl, ite2 (fun c1 => ?_) (fun c1 => ?_)⟩
    · refine ⟨a, t, l, ns, c + 1, xs.map V.str, rfl, T1, by omega, b1 _ _ hl hlt, hlt, by simpa using h0, by simp; omega, fun v H2 hv T2 b2 => ?_⟩
      obtain ⟨x, hx, rfl⟩ := List.mem_map.mp hv
      exact q x (c + 2) H2 (hnm x hx) (by omega) T2 (b1.trans b2)
    · walk_at "ru"
      subst hK_
      first | with_reducible refine seq_k fun K_ hK_ => ?_ | skip
      walk_at "ru"
      walk_at "ru"
      subst hK_
      first | with_reducible refine seq_k fun K_ hK_ => ?_ | skip
      walk_at "ru"
      walk_at "ru"
      subst hK_
      first | with_reducible refine seq_k fun K_ hK_ => ?_ | skip
      walk_at "ru"
      refine ⟨a, t, ns, c + 1, 6, rfl, T1, by omega, by omega, by omega, fun e H2 e0 e1 T2 b2 => ?_⟩
      walk_at "ru"
      refine ⟨by omega, by omega, ?_⟩
      refine for_it walk_range (iv__law_name K H a t l ns (c + 2)) ⟨_, _, rfl, rfl, empty_all, T2, b1.trans b2⟩ (fun _ _ _ _ _ => trivial) (fun i x σ H3 H4 hi iv hy => ?_) (fun σ H3 iv => ?_)
      · obtain ⟨z, y, rfl, hz, hall, T3, b3⟩ := iv
        obtain ⟨rfl, rfl⟩ := hy
        walk_at "ru"
        refine ⟨a, t, ns, c + 2 + i, 26, rfl, T3, by omega, by omega, by omega, fun j H5 j0 j1 T5 b5 => ?_⟩
        have hj : letters.cps.toList[j.toNat]? = some (j.toNat + 97) := by
          have e : letters.cps.toList = (List.range 26).map (· + 97) := by decide +kernel
          rw [e, List.getElem?_map, List.getElem?_range (by omega)]
          rfl
        refine ixS (j := j.toNat) (by decide) (by omega) hj ?_
        walk_at "ru"
        have hzs : z.cps.size = i := by rw [← Array.length_toList]; exact hz
        refine ⟨sz (by show z.cps.size + 1 ≤ _; omega), _, _, rfl, by rw [str_add, List.length_append, hz]; rfl, fun c hc => ?_, T5, b3.trans b5⟩
        rw [str_add] at hc
        rcases List.mem_append.mp hc with hc | hc
        · exact hall c hc
        · rw [List.mem_singleton.mp hc]; omega
      · obtain ⟨z, y, rfl, hz, hall, T3, b3⟩ := iv
        walk_at "ru"
        subst hK_
        first | with_reducible refine seq_k fun K_ hK_ => ?_ | skip
        walk_at "ru"
        refine q z _ H3 ⟨by omega, by omega, hall⟩ ?_ T3 b3
        omega
abbrev nm__law_table : List Str := ["script", "town", "many", "names", "found", "k"]
abbrev pm__law_table : List Str := ["script", "town", "many"]
abbrev lv__law_table : Nat := 4
theorem sc__law_table : FnScope nm__law_table pm__law_table (defScope s__law_table) := ⟨rfl, rfl, rfl, by decide +kernel, rfl, by decide +kernel, by decide +kernel⟩
/-- a table that was made: d is new -/
def sp__law_table (K : PySem.W.Frag) : Sp := fun vs H Q _ => ∃ (a t : Addr) (ns : List Int) (c : Nat) (many : Int), vs = [.ref a, .ref t, .int many] ∧ Tn K H a t ns c ∧ c < 800000000 ∧ 0 ≤ many ∧ many ≤ 20 ∧
  ∀ (d : Addr) (tb : Tb) (c' : Nat) (H' : Hp), H d = none → d ≠ t → H' d = some (.dK (kvsT tb)) → OkT tb → (tb.length : Int) ≤ many → c' ≤ c + 300 → Tn K H' a t ns c' → But t H H' → Q (.ref d) H'
def iv__law_table (K : PySem.W.Frag) (H1 : Hp) (a t l d : Addr) (ns : List Int) (many : Int) (xs : List Str) (c : Nat) (i : Nat) (σ : L2.St) (H : Hp) : Prop :=
  (∃ (y : Option V), σ = [some (.ref a), some (.ref t), some (.int many), some (.ref l), some (.ref d), y]) ∧ ∃ (tb : Tb) (c' : Nat), H d = some (.dK (kvsT tb)) ∧ OkT tb ∧ tb.length ≤ i ∧ c' ≤ c + 10 * i ∧ Tn K H a t ns c' ∧ But t H1 H ∧ H l = some (.lst (xs.map V.str))
theorem OkT.len_put {tb : Tb} {n : Str} {i : Int} : (putT tb n i).length ≤ tb.length + 1 := by
  rw [put_len]; split <;> omega
theorem f__law_table (T : Txt K mg) : Fk P w K mg base CX0 lv__law_table "_law_table" pm__law_table (sp__law_table K) := by
  obtain ⟨f, fd, F, g, b⟩ := T.d__law_table.ex
  refine ⟨f, fd, g, F.kp, b, F.ok sc__law_table (fun vs H Q E h => ?_) (fun cdv A outer s H vs Q E hr h => ?_)⟩
  · obtain ⟨a, t, ns, c, many, rfl, _⟩ := h; rfl
  · obtain ⟨a, t, ns, c, many, rfl, hT, hc, m0, m1, q⟩ := h
    have hu := hu_of hr
    refine ⟨_, (pss_cons (ps_set (i := 3) sc__law_table.nd rfl (.inl rfl) (pe_lst (pa_cons pe_str (pa_cons pe_str (pa_cons pe_str (pa_cons pe_str (pa_cons pe_str (pa_cons pe_str (pa_cons pe_str (pa_cons pe_str (pa_cons pe_str (pa_cons pe_str pa_nil))))))))))))
      (pss_cons (ps_set (i := 4) sc__law_table.nd rfl (.inl rfl) pe_dnewK)
      (pss_cons (ps_for PassesOwn.never rfl (pi_range1 (by rfl) T.b_range (pa_cons (pe_fn (f__law_draw T) (hr.mono (by decide)) (by rfl) pass0 (pa_cons (pv 0) (pa_cons (pv 1) (pa_cons (pe_op op_add (pv 2) pe_int) pa_nil)))) pa_nil)) (pg_name (i := 5) sc__law_table.nd rfl (Or.inl rfl)) (pss_one (ps_dput hu (pv 4) (pe_fn (f__law_name T) (hr.mono (by decide)) (by rfl) pass0 (pa_cons (pv 0) (pa_cons (pv 1) (pa_cons (pv 3) pa_nil)))) (pe_fn (f__law_draw T) (hr.mono (by decide)) (by rfl) pass0 (pa_cons (pv 0) (pa_cons (pv 1) (pa_cons (pe_fn (f__law_pick T) (hr.mono (by decide)) (by rfl) pass0 (pa_cons (pv 0) (pa_cons (pv 1) (pa_cons (pe_lst (pa_cons pe_int (pa_cons pe_int pa_nil))) pa_nil)))) pa_nil)))) rfl)))
      (pss_one (ps_ret (pv 4)))))), ?_⟩
    with_reducible refine seq_k fun K_ hK_ => ?_
    walk_at "ru"
    intro l n_l
    generalize hG_ : upd _ l _ = H1
    obtain ⟨s1, hl⟩ := newF n_l hG_
    clear hG_
    have hlt : l ≠ t := hT.some_ n_l
    walk_at "ru"
    subst hK_
    first | with_reducible refine seq_k fun K_ hK_ => ?_ | skip
    walk_at "ru"
    intro d n_d
    generalize hG_ : upd _ d _ = H2
    obtain ⟨s2, hd⟩ := newF n_d hG_
    clear hG_
    have T2 := hT.same (s1.trans s2)
    have hdt : d ≠ t := (hT.same s1).some_ n_d
    have hl2 := s2 _ _ hl
    have hld : l ≠ d := ne_of_none hl n_d
    have nd : H d = none := s1.free n_d
    have xsN : ∀ x ∈ (["a", "b", "ab", "ba", "z", "zzzzzz", "c", "d", "e", "f"] : List Str), isNm x := by decide +kernel
    walk_at "ru"
    subst hK_
    first | with_reducible refine seq_k fun K_ hK_ => ?_ | skip
    walk_at "ru"
    refine ⟨a, t, ns, c, many + 1, rfl, T2, by omega, by omega, by omega, fun e H3 e0 e1 T3 b3 => ?_⟩
    walk_at "ru"
    have b03 : But t H H3 := Same.thenB (s1.trans s2) b3
    refine ⟨by omega, by omega, ?_⟩
    refine for_it walk_range (iv__law_table K H a t l d ns many ["a", "b", "ab", "ba", "z", "zzzzzz", "c", "d", "e", "f"] (c + 1)) ⟨⟨_, rfl⟩, [], c + 1, b3 _ _ hd hdt, .nil, by simp, by omega, T3, b03, b3 _ _ hl2 hlt⟩ (fun _ _ _ _ _ => trivial) (fun i x σ H4 H5 hi iv hy => ?_) (fun σ H4 iv => ?_)
    · obtain ⟨⟨y, rfl⟩, tb, c', hd4, ok, hlen, hc', T4, b4, hl4⟩ := iv
      obtain ⟨rfl, rfl⟩ := hy
      have hi' : i ≤ 20 := by omega
      walk_at "ru"
      refine pickI [2, 100] T4 (by omega) fun k hk H6 T6 b6 => ?_
      have hk2 : 0 < k ∧ k ≤ 100 := by
        simp only [List.mem_cons, List.not_mem_nil, or_false] at hk
        omega
      refine ⟨a, t, ns, c' + 1, k, rfl, T6, by omega, by omega, by omega, fun j H7 j0 j1 T7 b7 => ?_⟩
      walk_at "ru"
      have b47 := b6.trans b7
      refine ⟨a, t, l, ns, c' + 2, _, rfl, T7, by omega, b47 _ _ hl4 hlt, hlt, by decide, by decide, xsN, fun nm c2 H8 hn hc2 T8 b8 => ?_⟩
      have b48 := b47.trans b8
      have hd8 := b48 _ _ hd4 hdt
      refine ⟨_, DPut.k (k := Sum.inr nm) hd8 (szl (by rw [kvsT_len]; omega)), ?_⟩
      have hp := OkT.len_put (tb := tb) (n := nm) (i := j)
      refine ⟨⟨_, rfl⟩, putT tb nm j, c2, by rw [upd_same, kvsT_put], ok.put hn (by omega) (by omega), by omega, by omega, T8.app hT nd hdt, (b4.trans b48).app nd, ?_⟩
      rw [upd_ne hld]
      exact b48 _ _ hl4 hlt
    · obtain ⟨⟨y, rfl⟩, tb, c', hd4, ok, hlen, hc', T4, b4, hl4⟩ := iv
      walk_at "ru"
      subst hK_
      first | with_reducible refine seq_k fun K_ hK_ => ?_ | skip
      walk_at "ru"
      exact q d tb c' H4 nd hdt hd4 ok (by omega) (by omega) T4 b4
theorem ne_same {H : Hp} {p q : Addr} {t u : Tb} {Q : VK} {E : XK} (hS : StAt mg H p t) (hU : StAt mg H q u) (h : ∀ n, lk t n = lk u n) (k : Q (.bl false) H) : rEqO (cls mg "State") (sp_State____eq__ mg) E true (.ref p) (.ref q) H Q := by
  obtain ⟨dx, d, h1, h2⟩ := hS.ex
  obtain ⟨dy, e, h3, h4⟩ := hU.ex
  refine ⟨p, q, dx, dy, _, _, rfl, rfl, h1, h3, p, q, t, u, rfl, hS, hU, _, rfl, ?_⟩
  rw [eq_T' hS.ok hU.ok h]
  exact k
theorem GoodP.nil : GoodP [] := ⟨.nil, (fun _ h => nomatch h), (fun _ h => nomatch h), by simp⟩
theorem dicts_but {H H' : Hp} {t d : Addr} {l : List V} {kvs : List (Key × V)} (b : But t H H') (ht : H t = some (.lst l)) (h : H d = some (.dK kvs)) : H' d = some (.dK kvs) := b _ _ h (ne_of h ht (by intro z; cases z))
end
end Nk
namespace Nk
open PySem L2
section
variable {X : Cx}
/-- a list, whatever it holds, != [] -/
def rNeNil (K : PySem.W.Frag) : R2 := fun x y H Q => ∃ (a b : Addr) (xs : List V), x = .ref a ∧ y = .ref b ∧ SqL K H a xs ∧ SqL K H b [] ∧ Q (.bl (decide (0 < xs.length))) H
theorem op_neNil (K : PySem.W.Frag) (hK : X.K = K) (hu : X.A.units < cLine) : OpR X (compareOp .NotEq) (rNeNil K) := by
  subst hK
  intro pins s σ H x y v u Q I rx ry h
  obtain ⟨a, b, xs, rfl, rfl, ha, hb, q⟩ := h
  obtain rfl : v = Value.ref a := rx
  obtain rfl : u = Value.ref b := ry
  obtain ⟨its, r1, p1, _⟩ := I.list ha
  obtain ⟨its2, r2, p2, _⟩ := I.list hb
  cases r2
  have hl := r1.length
  show wpAny _ _ (richCompare .NotEq (.ref a) (.ref b)) _ _ _
  by_cases c : xs.length = 0
  · refine SeqAt.RcNeAt.lists (e := fun _ => true) p1.isList p2.isList ?_ hu ?_ _ _ _ _ ?_
    · rw [List.size_toArray, ← hl, c]; rfl
    · intro j h1 h2
      exact absurd h2 (by simp)
    · refine fin_bl I q ?_
      simp [c]
  · refine SeqAt.RcNeAt.lists_lengths p1.isList p2.isList ?_ hu _ _ _ _ ?_
    · simp; intro z; rw [z] at hl; exact c hl
    · refine fin_bl I q ?_
      simp; omega
end
end Nk
namespace Nk
open PySem L2
section
variable {P : Program} {w : World} {K : PySem.W.Frag} {mg : Str → Option Value} {base : Heap}
/-- nights with states stand -/
def PlAt (mg : Str → Option Value) (H : Hp) : List V → Pl → Prop
  | [], [] => True
  | x :: xs, p :: ps => (∃ q k, x = .ref q ∧ H q = some (.tup [.int p.1, .ref k]) ∧ StAt mg H k p.2) ∧ PlAt mg H xs ps
  | _, _ => False
theorem PlAt.same {H H' : Hp} (s : Same H H') : ∀ {xs : List V} {ps : Pl}, PlAt mg H xs ps → PlAt mg H' xs ps
  | [], [], _ => trivial
  | x :: xs, p :: ps, ⟨⟨q, k, e, hq, hk⟩, r⟩ => ⟨⟨q, k, e, s _ _ hq, hk.same s⟩, PlAt.same s r⟩
theorem PlAt.but {H H' : Hp} {t : Addr} {l : List V} (b : But t H H') (ht : H t = some (.lst l)) : ∀ {xs : List V} {ps : Pl}, PlAt mg H xs ps → PlAt mg H' xs ps
  | [], [], _ => trivial
  | x :: xs, p :: ps, ⟨⟨q, k, e, hq, hk⟩, r⟩ => ⟨⟨q, k, e, b _ _ hq (ne_of hq ht (by intro z; cases z)), hk.but b ht⟩, PlAt.but b ht r⟩
theorem PlAt.len {H : Hp} : ∀ {xs : List V} {ps : Pl}, PlAt mg H xs ps → xs.length = ps.length
  | [], [], _ => rfl
  | x :: xs, p :: ps, ⟨_, r⟩ => by simp [PlAt.len r]
theorem PlAt.app {H : Hp} : ∀ {xs ys : List V} {ps qs : Pl}, PlAt mg H xs ps → PlAt mg H ys qs → PlAt mg H (xs ++ ys) (ps ++ qs)
  | [], _, [], _, _, h => h
  | x :: xs, _, p :: ps, _, ⟨a, r⟩, h => ⟨a, PlAt.app r h⟩
theorem PlAt.one {H : Hp} {q k : Addr} {p : Int × Tb} (h : H q = some (.tup [.int p.1, .ref k])) (hk : StAt mg H k p.2) : PlAt mg H [.ref q] [p] := ⟨⟨q, k, rfl, h, hk⟩, trivial⟩
theorem PlAt.get {H : Hp} : ∀ {xs : List V} {ps : Pl}, PlAt mg H xs ps → ∀ {i : Nat} {x : V}, xs[i]? = some x → ∃ p q k, ps[i]? = some p ∧ x = .ref q ∧ H q = some (.tup [.int p.1, .ref k]) ∧ StAt mg H k p.2
  | x :: xs, p :: ps, ⟨⟨q, k, e, hq, hk⟩, r⟩, 0, y, hy => by
    cases hy
    exact ⟨p, q, k, rfl, e, hq, hk⟩
  | x :: xs, p :: ps, ⟨_, r⟩, i + 1, y, hy => PlAt.get r hy
  | [], [], _, i, y, hy => by simp at hy
structure GoodPl (ps : Pl) : Prop where
  len : ps.length ≤ 8
  num : ∀ p ∈ ps, 0 ≤ p.1 ∧ p.1 ≤ 1000000000
  pw : ps.Pairwise fun a b => a.1 < b.1
theorem len_sd {H : Hp} {p : Addr} {t : Tb} {Q : VK} {E : XK} (h : StAt mg H p t) (q : Q (.int t.length) H) : rLenO (cls mg "State") (sp_State____len__ mg) E [.ref p] H Q := by
  obtain ⟨dx, d, h1, h2⟩ := h.ex
  have := h.len
  exact ⟨p, dx, _, rfl, h1, p, t, rfl, h, t.length, rfl, by omega, q⟩
def optV : Option Int → V
  | none => .non
  | some i => .int i
abbrev nm_best_base : List Str := ["state", "have", "best", "night", "other", "size"]
abbrev pm_best_base : List Str := ["state", "have"]
abbrev lv_best_base : Nat := 4
theorem sc_best_base : FnScope nm_best_base pm_best_base (defScope s_best_base) := ⟨rfl, rfl, rfl, by decide +kernel, rfl, by decide +kernel, by decide +kernel⟩
def sp_best_base (mg : Str → Option Value) : Sp := fun vs H Q _ => ∃ (k l : Addr) (t : Tb) (xs : List V) (ps : Pl), vs = [.ref k, .ref l] ∧ StAt mg H k t ∧ H l = some (.lst xs) ∧ PlAt mg H xs ps ∧ ∀ r H', Same H H' → H' r = some (.tup [.int ((bestB t ps).1 : Nat), optV (bestB t ps).2]) → Q (.ref r) H'
def iv_best_base (H0 : Hp) (k l : Addr) (t : Tb) (ps : Pl) (i : Nat) (σ : L2.St) (H : Hp) : Prop := ∃ r y3 y4 y5, σ = [some (.ref k), some (.ref l), some (.ref r), y3, y4, y5] ∧ Same H0 H ∧ H r = some (.tup [.int (((ps.take i).foldl (bbStep t) (t.length, none)).1 : Nat), optV ((ps.take i).foldl (bbStep t) (t.length, none)).2])
theorem f_best_base (T : Txt K mg) : Fk P w K mg base CX0 lv_best_base "best_base" pm_best_base (sp_best_base mg) := by
  obtain ⟨f, fd, F, g, b⟩ := T.d_best_base.ex
  refine ⟨f, fd, g, F.kp, b, F.ok sc_best_base (fun vs H Q E h => ?_) (fun cdv A outer s H vs Q E hr h => ?_)⟩
  · obtain ⟨k, l, t, xs, ps, rfl, _⟩ := h; rfl
  · obtain ⟨k, l, t, xs, ps, rfl, hk, hl, hP, q⟩ := h
    refine ⟨_, (pss_cons (ps_set (i := 2) sc_best_base.nd rfl (.inl rfl) (pe_tup (pa_cons (pe_callB (cr_lenO T.o_State (f_State____len__ T) (hr.mono (by decide)) pass0) (by rfl) T.b_len PySem.boot_len (pa_cons (pv 0) pa_nil)) (pa_cons pe_non pa_nil))))
      (pss_cons (ps_for PassesOwn.never rfl (pi_list (pv 1)) (pg_tup rfl (pgs_cons (pg_name (i := 3) sc_best_base.nd rfl (Or.inl rfl)) (pgs_cons (pg_name (i := 4) sc_best_base.nd rfl (Or.inl rfl)) pgs_nil))) (pss_cons (ps_set (i := 5) sc_best_base.nd rfl (.inl rfl) (pe_callB call_len_seq (by rfl) T.b_len PySem.boot_len (pa_cons (pe_fn (f_part_of T) (hr.mono (by decide)) (by rfl) pass0 (pa_cons (pv 4) (pa_cons (pv 0) pa_nil))) pa_nil)))
      (pss_one (ps_if (pt_cmpR op_lt (pv 5) (pe_ix ix_tup (pv 2) pe_int (fun _ _ => rfl)) (nomark _)) (pss_one (ps_set (i := 2) sc_best_base.nd rfl (.inl rfl) (pe_tup (pa_cons (pv 5) (pa_cons (pv 3) pa_nil))))) pss_nil))))
      (pss_one (ps_ret (pv 2))))), ?_⟩
    have hxl := hP.len
    with_reducible refine seq_k fun K_ hK_ => ?_
    walk_at "ru"
    refine len_sd hk ?_
    intro r n_r
    generalize hG_ : upd _ r _ = H1
    obtain ⟨s1, hr1⟩ := newF n_r hG_
    clear hG_
    walk_at "ru"
    subst hK_
    first | with_reducible refine seq_k fun K_ hK_ => ?_ | skip
    walk_at "ru"
    refine ⟨⟨_, sqL (s1 _ _ hl)⟩, ?_⟩
    refine for_it (walk_list (xs := xs)) (iv_best_base H k l t ps) ⟨r, _, _, _, rfl, s1, hr1⟩ (fun i σ H2 _ iv => ?_) (fun i x σ H2 H3 hi iv hy => ?_) (fun σ H2 iv => ?_)
    · obtain ⟨_, _, _, _, _, s2, _⟩ := iv
      exact sqL (s2 _ _ hl)
    · obtain ⟨r2, y3, y4, y5, rfl, s2, hr2⟩ := iv
      obtain ⟨rfl, hy⟩ := hy
      obtain ⟨p, q1, k1, e1, rfl, e3, e4⟩ := (hP.same s2).get hy
      refine ⟨q1, _, rfl, sqT e3, rfl, ?_⟩
      have hb := bb_next t e1
      generalize (ps.take i).foldl (bbStep t) (t.length, none) = acc at hr2 hb
      walk_at "ru"
      with_reducible refine seq_k fun K_ hK_ => ?_
      walk_at "ru"
      refine ⟨k1, k, p.2, t, rfl, e4, hk.same s2, fun lq H4 s4 n4 hPq => ?_⟩
      obtain ⟨zs, hz, hPz⟩ := hPq
      walk_at "ru"
      refine ⟨_, .inl (sqL hz), ?_⟩
      rw [hPz.len]
      have hr4 := s4 _ _ hr2
      walk_at "ru"
      subst hK_
      first | with_reducible refine seq_k fun K_ hK_ => ?_ | skip
      walk_at "ru"
      refine ixT (j := 0) (sqT hr4) rfl rfl ?_
      walk_at "ru"
      by_cases c : dist p.2 t < acc.1
      · rw [if_pos (show ((part p.2 t).length : Int) < (acc.1 : Nat) from by unfold dist at c; omega)]
        intro r3 n_r3
        generalize hG_ : upd _ r3 _ = H5
        obtain ⟨s5, hr3⟩ := newF n_r3 hG_
        clear hG_
        refine ⟨r3, _, _, _, rfl, (s2.trans s4).trans s5, ?_⟩
        rw [hb, show bbStep t acc p = (dist p.2 t, some p.1) from if_pos c]
        exact hr3
      · rw [if_neg (show ¬ ((part p.2 t).length : Int) < (acc.1 : Nat) from by unfold dist at c; omega)]
        refine ⟨r2, _, _, _, rfl, s2.trans s4, ?_⟩
        rw [hb, show bbStep t acc p = acc from if_neg c]
        exact hr4
    · obtain ⟨r2, y3, y4, y5, rfl, s2, hr2⟩ := iv
      rw [hxl, List.take_length] at hr2
      walk_at "ru"
      subst hK_
      first | with_reducible refine seq_k fun K_ hK_ => ?_ | skip
      walk_at "ru"
      exact q r2 H2 s2 hr2
end
end Nk
namespace Nk
open PySem L2
section
variable {P : Program} {w : World} {K : PySem.W.Frag} {mg : Str → Option Value} {base : Heap}
/-- what was told stands -/
def SentAt (H : Hp) : List V → List Sent → Prop
  | [], [] => True
  | x :: xs, r :: rs => (∃ q, x = .ref q ∧ H q = some (.tup [.int r.1, optV r.2.1, .int (r.2.2 : Nat)])) ∧ SentAt H xs rs
  | _, _ => False
theorem SentAt.tups {H H' : Hp} (h : ∀ b xs, H b = some (.tup xs) → H' b = some (.tup xs)) : ∀ {xs : List V} {rs : List Sent}, SentAt H xs rs → SentAt H' xs rs
  | [], [], _ => trivial
  | x :: xs, r :: rs, ⟨⟨q, e, hq⟩, t⟩ => ⟨⟨q, e, h _ _ hq⟩, SentAt.tups h t⟩
theorem SentAt.same {H H' : Hp} (s : Same H H') {xs : List V} {rs : List Sent} (h : SentAt H xs rs) : SentAt H' xs rs := h.tups fun _ _ e => s _ _ e
theorem SentAt.len {H : Hp} : ∀ {xs : List V} {rs : List Sent}, SentAt H xs rs → xs.length = rs.length
  | [], [], _ => rfl
  | x :: xs, r :: rs, ⟨_, t⟩ => by simp [SentAt.len t]
theorem SentAt.app {H : Hp} : ∀ {xs ys : List V} {ps qs : List Sent}, SentAt H xs ps → SentAt H ys qs → SentAt H (xs ++ ys) (ps ++ qs)
  | [], _, [], _, _, h => h
  | x :: xs, _, p :: ps, _, ⟨a, r⟩, h => ⟨a, SentAt.app r h⟩
theorem SentAt.one {H : Hp} {q : Addr} {r : Sent} (h : H q = some (.tup [.int r.1, optV r.2.1, .int (r.2.2 : Nat)])) : SentAt H [.ref q] [r] := ⟨⟨q, rfl, h⟩, trivial⟩
theorem SentAt.get {H : Hp} : ∀ {xs : List V} {rs : List Sent}, SentAt H xs rs → ∀ {i : Nat} {x : V}, xs[i]? = some x → ∃ r q, rs[i]? = some r ∧ x = .ref q ∧ H q = some (.tup [.int r.1, optV r.2.1, .int (r.2.2 : Nat)])
  | x :: xs, p :: ps, ⟨⟨q, e, hq⟩, r⟩, 0, y, hy => by
    cases hy
    exact ⟨p, q, rfl, e, hq⟩
  | x :: xs, p :: ps, ⟨_, r⟩, i + 1, y, hy => SentAt.get r hy
  | [], [], _, i, y, hy => by simp at hy
theorem PlAt.erase {H : Hp} : ∀ {xs : List V} {ps : Pl}, PlAt mg H xs ps → ∀ i, PlAt mg H (xs.take i ++ xs.drop (i + 1)) (ps.eraseIdx i)
  | [], [], _, i => by simp [PlAt]
  | x :: xs, p :: ps, ⟨_, r⟩, 0 => by simpa using r
  | x :: xs, p :: ps, ⟨a, r⟩, i + 1 => ⟨a, PlAt.erase r i⟩
theorem first_at {m : Nat} : ∀ {ns : List Nat}, m ∈ ns → ∃ j : Nat, ns[j]? = some m ∧ ∀ (i : Nat) (z : Nat), i < j → ns[i]? = some z → z ≠ m
  | n :: ns, h => by
    by_cases c : n = m
    · exact ⟨0, by rw [c]; rfl, fun i z hi => by omega⟩
    · have h2 : m ∈ ns := by
        rcases List.mem_cons.mp h with e | e
        · exact absurd e.symm c
        · exact e
      obtain ⟨j, h3, h4⟩ := first_at h2
      refine ⟨j + 1, by simpa using h3, fun i z hi hz => ?_⟩
      cases i with
      | zero => cases hz; exact c
      | succ i => exact h4 i z (by omega) (by simpa using hz)
/-- what lacks there -/
def lackS (ps qs : Pl) : Pl := ps.filter fun p => decide (¬ p.1 ∈ qs.map (·.1))
end
end Nk
namespace Nk
open PySem L2
section
variable {P : Program} {w : World} {K : PySem.W.Frag} {mg : Str → Option Value} {base : Heap}
/-- all but the list t is as it was -/
def Fb (t : Addr) (H H' : Hp) : Prop := ∀ b o, H b = some o → b ≠ t ∨ (∀ l, o ≠ .lst l) → H' b = some o
theorem Fb.of {t : Addr} {H H' : Hp} (s : Same H H') : Fb t H H' := fun b o h _ => s b o h
theorem Fb.but {t : Addr} {H H' : Hp} {l : List V} (s : But t H H') (ht : H t = some (.lst l)) : Fb t H H' := fun b o h z => by
  rcases z with z | z
  · exact s b o h z
  · refine s b o h fun e => ?_
    subst e
    rw [ht] at h
    exact z l (Option.some.inj h).symm
theorem Fb.trans {t : Addr} {H H1 H2 : Hp} (a : Fb t H H1) (b : Fb t H1 H2) : Fb t H H2 := fun c o h z => b c o (a c o h z) z
/-- a thing, and not the list t -/
def ThN (K : PySem.W.Frag) (t : Addr) (H : Hp) (v : V) : Prop := (∃ n, Thing K H v n) ∧ v ≠ .ref t
theorem ThN.fr {t : Addr} {H H' : Hp} {v : V} (f : Fb t H H') (h : ThN K t H v) : ThN K t H' v := by
  obtain ⟨⟨n, h⟩, hn⟩ := h
  refine ⟨?_, hn⟩
  cases h with
  | non => exact ⟨_, .non⟩
  | bl b => exact ⟨_, .bl b⟩
  | int i => exact ⟨_, .int i⟩
  | str x => exact ⟨_, .str x⟩
  | lst h => exact ⟨_, .lst (f _ _ h (.inl fun e => hn (by rw [e])))⟩
  | tup h => exact ⟨_, .tup (f _ _ h (.inl fun e => hn (by rw [e])))⟩
  | dic h => exact ⟨_, .dic (f _ _ h (.inl fun e => hn (by rw [e])))⟩
theorem ThN.back {t a : Addr} {H H' : Hp} {o : HO} (f : Fb t H H') (h : ThN K t H (.ref a)) (h' : H' a = some o) : H a = some o := by
  obtain ⟨⟨n, h⟩, hn⟩ := h
  cases h with
  | lst h => have := f _ _ h (.inl fun e => hn (by rw [e])); rw [h] ; rw [this] at h'; exact h'
  | tup h => have := f _ _ h (.inl fun e => hn (by rw [e])); rw [h] ; rw [this] at h'; exact h'
  | dic h => have := f _ _ h (.inl fun e => hn (by rw [e])); rw [h] ; rw [this] at h'; exact h'
theorem ThN.lst {t l : Addr} {H : Hp} {xs : List V} (h : H l = some (.lst xs)) (hn : l ≠ t) : ThN K t H (.ref l) := ⟨⟨_, .lst h⟩, fun e => hn (V.ref.inj e)⟩
theorem ThN.tup {t l : Addr} {H : Hp} {xs : List V} (h : H l = some (.tup xs)) (hn : l ≠ t) : ThN K t H (.ref l) := ⟨⟨_, .tup h⟩, fun e => hn (V.ref.inj e)⟩
theorem StAt.fr {t p : Addr} {H H' : Hp} {tb : Tb} (f : Fb t H H') (h : StAt mg H p tb) : StAt mg H' p tb := by
  obtain ⟨dx, d, h1, h2⟩ := h.ex
  exact ⟨⟨dx, d, f _ _ h1 (.inr fun l z => nomatch z), f _ _ h2 (.inr fun l z => nomatch z)⟩, h.ok, h.len⟩
def Cmp (K : PySem.W.Frag) (mg : Str → Option Value) (t : Addr) (H : Hp) (v : V) : Prop := ThN K t H v ∨ ∃ p tb, v = .ref p ∧ StAt mg H p tb
theorem Cmp.fr {t : Addr} {H H' : Hp} {v : V} (f : Fb t H H') (h : Cmp K mg t H v) : Cmp K mg t H' v := by
  rcases h with h | ⟨p, tb, e, h⟩
  · exact .inl (h.fr f)
  · exact .inr ⟨p, tb, e, h.fr f⟩
def Itm (K : PySem.W.Frag) (mg : Str → Option Value) (t : Addr) (H : Hp) (v : V) : Prop := ThN K t H v ∧ ∀ a xs, v = .ref a → H a = some (.tup xs) → xs.length ≤ 1000 ∧ ∀ y ∈ xs, Cmp K mg t H y
theorem Itm.fr {t : Addr} {H H' : Hp} {v : V} (f : Fb t H H') (h : Itm K mg t H v) : Itm K mg t H' v := by
  refine ⟨h.1.fr f, fun a xs e h' => ?_⟩
  subst e
  obtain ⟨h1, h2⟩ := h.2 a xs rfl (h.1.back f h')
  exact ⟨h1, fun y hy => (h2 y hy).fr f⟩
def Plc (K : PySem.W.Frag) (mg : Str → Option Value) (t : Addr) (H : Hp) (v : V) : Prop := ThN K t H v ∧ ∀ a xs, v = .ref a → H a = some (.lst xs) → xs.length ≤ 1000 ∧ ∀ y ∈ xs, Itm K mg t H y
theorem Plc.fr {t : Addr} {H H' : Hp} {v : V} (f : Fb t H H') (h : Plc K mg t H v) : Plc K mg t H' v := by
  refine ⟨h.1.fr f, fun a xs e h' => ?_⟩
  subst e
  obtain ⟨h1, h2⟩ := h.2 a xs rfl (h.1.back f h')
  exact ⟨h1, fun y hy => (h2 y hy).fr f⟩
theorem PlAt.fr {t : Addr} {H H' : Hp} (f : Fb t H H') : ∀ {xs : List V} {ps : Pl}, PlAt mg H xs ps → PlAt mg H' xs ps
  | [], [], _ => trivial
  | x :: xs, p :: ps, ⟨⟨q, k, e, hq, hk⟩, r⟩ => ⟨⟨q, k, e, f _ _ hq (.inr fun l z => nomatch z), hk.fr f⟩, PlAt.fr f r⟩
/-- nights with states as they should be -/
def IsPl (mg : Str → Option Value) (H : Hp) (v : V) : Prop := ∃ l xs ps, v = .ref l ∧ H l = some (.lst xs) ∧ PlAt mg H xs ps ∧ GoodPl ps
theorem StAt.back {t k : Addr} {H H' : Hp} {n : V} {q : Addr} {tb : Tb} (f : Fb t H H') (hc : Cmp K mg t H (.ref k)) (h : StAt mg H' k tb) : StAt mg H k tb := by
  rcases hc with hc | ⟨p, tb', e, hS⟩
  · obtain ⟨dx, d, h1, h2⟩ := h.ex
    have := hc.back f h1
    obtain ⟨⟨n, z⟩, _⟩ := hc
    cases z with
    | lst z => rw [z] at this; cases this
    | tup z => rw [z] at this; cases this
    | dic z => rw [z] at this; cases this
  · cases e
    obtain ⟨dx, d, h1, h2⟩ := hS.ex
    obtain ⟨dx', d', h1', h2'⟩ := h.ex
    have e1 := f _ _ h1 (.inr fun l z => nomatch z)
    rw [e1] at h1'
    cases h1'
    have e2 := f _ _ h2 (.inr fun l z => nomatch z)
    rw [e2] at h2'
    refine ⟨⟨dx, d, h1, ?_⟩, h.ok, h.len⟩
    rw [h2]
    exact h2'
theorem PlAt.back {t : Addr} {H H' : Hp} (f : Fb t H H') : ∀ {xs : List V} {ps : Pl}, (∀ y ∈ xs, Itm K mg t H y) → PlAt mg H' xs ps → PlAt mg H xs ps
  | [], [], _, _ => trivial
  | x :: xs, p :: ps, hi, ⟨⟨q, k, e, hq, hk⟩, r⟩ => by
    subst e
    have h1 := hi _ List.mem_cons_self
    have hq' := h1.1.back f hq
    have h2 := (h1.2 q _ rfl hq').2 (.ref k) (by simp)
    exact ⟨⟨q, k, rfl, hq', StAt.back (n := .non) (q := 0) f h2 hk⟩, PlAt.back f (fun y hy => hi y (List.mem_cons_of_mem _ hy)) r⟩
theorem IsPl.fr {t : Addr} {H H' : Hp} {v : V} (f : Fb t H H') (hp : Plc K mg t H v) : IsPl mg H' v ↔ IsPl mg H v := by
  constructor
  · rintro ⟨l, xs, ps, rfl, h1, h2, h3⟩
    have h1' := hp.1.back f h1
    exact ⟨l, xs, ps, rfl, h1', h2.back f (hp.2 l xs rfl h1').2, h3⟩
  · rintro ⟨l, xs, ps, rfl, h1, h2, h3⟩
    exact ⟨l, xs, ps, rfl, f _ _ h1 (.inl fun e => hp.1.2 (by rw [e])), h2.fr f, h3⟩
def adjI (l : List Int) : List Bool := (l.zip (l.drop 1)).map fun p => decide (p.1 < p.2)
theorem adjI_get {l : List Int} {i : Nat} {x y : Int} (h1 : l[i]? = some x) (h2 : l[i + 1]? = some y) : (adjI l)[i]? = some (decide (x < y)) := by
  unfold adjI
  have e : (l.zip (l.drop 1))[i]? = some (x, y) := List.getElem?_zip_eq_some.mpr ⟨h1, by rw [List.getElem?_drop, Nat.add_comm]; exact h2⟩
  rw [List.getElem?_map, e]
  rfl
theorem adjI_len {l : List Int} : (adjI l).length = l.length - 1 := by
  unfold adjI
  simp
theorem adjI_all : ∀ {l : List Int}, (adjI l).all id = decide (l.Pairwise (· < ·))
  | [] => by simp [adjI]
  | [x] => by simp [adjI]
  | x :: y :: r => by
    have ih := adjI_all (l := y :: r)
    have e : adjI (x :: y :: r) = decide (x < y) :: adjI (y :: r) := by simp [adjI]
    rw [e, List.all_cons, ih, Bool.eq_iff_iff]
    simp only [id, Bool.and_eq_true, decide_eq_true_eq]
    constructor
    · rintro ⟨h1, h2⟩
      refine List.pairwise_cons.mpr ⟨fun z hz => ?_, h2⟩
      rcases List.mem_cons.mp hz with c | c
      · rw [c]; exact h1
      · exact Int.lt_trans h1 ((List.pairwise_cons.mp h2).1 z c)
    · intro h
      obtain ⟨h1, h2⟩ := List.pairwise_cons.mp h
      exact ⟨h1 y List.mem_cons_self, h2⟩
theorem PlAt.take {H : Hp} : ∀ {xs : List V} {ps : Pl}, PlAt mg H xs ps → ∀ i, PlAt mg H (xs.take i) (ps.take i)
  | [], [], _, i => by simp [PlAt]
  | x :: xs, p :: ps, h, 0 => by simp [PlAt]
  | x :: xs, p :: ps, ⟨a, r⟩, i + 1 => by
    simp only [List.take_succ_cons]
    exact ⟨a, PlAt.take r i⟩
/-- StAt and PlAt tell the tables -/
theorem StAt.inj {H : Hp} {k : Addr} {t u : Tb} (h : StAt mg H k t) (h' : StAt mg H k u) : kvsT t = kvsT u := by
  obtain ⟨dx, d, h1, h2⟩ := h.ex
  obtain ⟨dx', d', h1', h2'⟩ := h'.ex
  rw [h1] at h1'
  cases h1'
  rw [h2] at h2'
  exact HO.dK.inj (Option.some.inj h2')
theorem PlAt.nights {H : Hp} : ∀ {xs : List V} {ps qs : Pl}, PlAt mg H xs ps → PlAt mg H xs qs → ps.map (·.1) = qs.map (·.1)
  | [], [], [], _, _ => rfl
  | x :: xs, p :: ps, q :: qs, ⟨⟨a, k, e, ha, hk⟩, r⟩, ⟨⟨a', k', e', ha', hk'⟩, r'⟩ => by
    subst e
    cases e'
    rw [ha] at ha'
    have e1 := V.int.inj (List.cons.inj (HO.tup.inj (Option.some.inj ha'))).1
    simp only [List.map_cons, PlAt.nights r r', e1]
/-- the first i are pairs of a night and a state -/
def okPs (mg : Str → Option Value) (H : Hp) (xs : List V) (i : Nat) : Prop := ∃ ps, PlAt mg H (xs.take i) ps ∧ ∀ p ∈ ps, 0 ≤ p.1 ∧ p.1 ≤ 1000000000
theorem okPs.next {H : Hp} {xs : List V} {i : Nat} {q k : Addr} {n : Int} {t : Tb} (h : okPs mg H xs i) (hx : xs[i]? = some (.ref q)) (hq : H q = some (.tup [.int n, .ref k])) (hk : StAt mg H k t) (h0 : 0 ≤ n) (h1 : n ≤ 1000000000) : okPs mg H xs (i + 1) := by
  obtain ⟨ps, h2, h3⟩ := h
  refine ⟨ps ++ [(n, t)], by rw [take_next hx]; exact h2.app (PlAt.one (p := (n, t)) hq hk), fun p hp => ?_⟩
  rcases List.mem_append.mp hp with hp | hp
  · exact h3 p hp
  · rw [List.mem_singleton.mp hp]; exact ⟨h0, h1⟩
theorem IsPl.pair {H : Hp} {l : Addr} {xs : List V} (hl : H l = some (.lst xs)) (h : IsPl mg H (.ref l)) {i : Nat} {x : V} (hx : xs[i]? = some x) : xs.length ≤ 8 ∧ ∃ q k n t, x = .ref q ∧ H q = some (.tup [.int n, .ref k]) ∧ StAt mg H k t ∧ 0 ≤ n ∧ n ≤ 1000000000 := by
  obtain ⟨l', xs', ps, e, h1, h2, h3⟩ := h
  cases e
  rw [hl] at h1
  cases h1
  obtain ⟨p, q, k, e1, e2, e3, e4⟩ := h2.get hx
  exact ⟨by rw [h2.len]; exact h3.len, q, k, p.1, p.2, e2, e3, e4, h3.num p (mem_of_get e1)⟩
theorem IsPl.len {H : Hp} {l : Addr} {xs : List V} (hl : H l = some (.lst xs)) (h : IsPl mg H (.ref l)) : xs.length ≤ 8 := by
  obtain ⟨l', xs', ps, e, h1, h2, h3⟩ := h
  cases e
  rw [hl] at h1
  cases h1
  rw [h2.len]
  exact h3.len
def sp_is_number2 (K : PySem.W.Frag) (mg : Str → Option Value) : Sp := fun vs H Q E => sp_is_number K vs H Q E ∨ ∃ (p : Addr) (t : Tb) (lo : Int) (y : V), vs = [.ref p, .int lo, y] ∧ StAt mg H p t ∧ Q (.bl false) H
theorem f_is_number2 (T : Txt K mg) : Fk P w K mg base CX0 lv_is_number "is_number" pm_is_number (sp_is_number2 K mg) := by
  obtain ⟨f, fd, F, g, b⟩ := T.d_is_number.ex
  refine ⟨f, fd, g, F.kp, b, F.ok sc_is_number (fun vs H Q E h => ?_) (fun cdv A outer s H vs Q E hr h => ?_)⟩
  · rcases h with h | h
    · obtain ⟨x, n, lo, y, rfl, _⟩ := h; rfl
    · obtain ⟨p, t, lo, y, rfl, _⟩ := h; rfl
  · refine ⟨_, (pss_one (ps_ret (pe_and (pe_callB call_isi (by rfl) T.b_isinstance (by decide +kernel) (pa_cons (pv 0) (pa_cons (pe_bltn (v := .ty "int") (by rfl) T.b_int (by decide +kernel) rfl) pa_nil))) (pe_and (pe_not (pe_callB call_isi (by rfl) T.b_isinstance (by decide +kernel) (pa_cons (pv 0) (pa_cons (pe_bltn (v := .ty "bool") (by rfl) T.b_bool (by decide +kernel) rfl) pa_nil)))) (pe_one (pe_chain op_le op_le (pv 1) (pv 0) (pv 2))))))), ?_⟩
    rcases h with h | h
    · obtain ⟨x, n, lo, y, rfl, hx, hy, q⟩ := h
      walk_at "rd"
      refine isi_thing hx (by decide) ?_
      cases hx with
      | int i =>
        obtain ⟨hi, rfl⟩ := hy i rfl
        simp only [show isA "int" "int" = true from by decide]
        walk_at "rd"
        refine isi_thing (.int i) (by decide) ?_
        simp only [show isA "int" "bool" = false from by decide]
        walk_at "rd"
        simp only [isNumV] at q
        by_cases c : lo ≤ i
        · simpa [c] using q
        · simpa [c] using q
      | bl i =>
        simp only [show isA "bool" "int" = true from by decide]
        walk_at "rd"
        refine isi_thing (.bl i) (by decide) ?_
        simp only [show isA "bool" "bool" = true from by decide]
        walk_at "rd"
        exact q
      | _ => exact ⟨false, rfl, q⟩
    · obtain ⟨p, t, lo, y, rfl, hS, q⟩ := h
      obtain ⟨dx, d, h1, h2⟩ := hS.ex
      walk_at "rd"
      refine isi_ownI T.o_State T.v_State T.u_State h1 ?_
      exact ⟨false, rfl, q⟩
abbrev nm_is_place : List Str := ["thing", "one", "other"]
abbrev pm_is_place : List Str := ["thing"]
abbrev lv_is_place : Nat := 2
theorem sc_is_place : FnScope nm_is_place pm_is_place (defScope s_is_place) := ⟨rfl, rfl, rfl, by decide +kernel, rfl, by decide +kernel, by decide +kernel⟩
def sp_is_place (K : PySem.W.Frag) (mg : Str → Option Value) : Sp := fun vs H Q _ => ∃ (t : Addr) (x : V), vs = [x] ∧ Plc K mg t H x ∧ (IsPl mg H x → ∀ H', Same H H' → Q (.bl true) H') ∧ (¬ IsPl mg H x → ∀ H', Same H H' → Q (.bl false) H')
def iv_is_place (mg : Str → Option Value) (H0 : Hp) (l : Addr) (xs : List V) (i : Nat) (σ : L2.St) (H : Hp) : Prop := (∃ y, σ = [some (.ref l), y, none]) ∧ Same H0 H ∧ okPs mg H0 xs i
theorem f_is_place (T : Txt K mg) : Fk P w K mg base CX0 lv_is_place "is_place" pm_is_place (sp_is_place K mg) := by
  obtain ⟨f, fd, F, g, b⟩ := T.d_is_place.ex
  refine ⟨f, fd, g, F.kp, b, F.ok sc_is_place (fun vs H Q E h => ?_) (fun cdv A outer s H vs Q E hr h => ?_)⟩
  · obtain ⟨t, x, rfl, _⟩ := h; rfl
  · obtain ⟨t, x, rfl, hP, q1, q2⟩ := h
    refine ⟨_, (pss_cons (ps_if (PW.pt (pw_or (pt_not (pt_val (pe_callB call_isi (by rfl) T.b_isinstance (by decide +kernel) (pa_cons (pv 0) (pa_cons (pe_bltn (v := .ty "list") (by rfl) T.b_list (by decide +kernel) rfl) pa_nil))))) (pw_or1 (pt_cmpR op_gt (pe_callB call_len_seq (by rfl) T.b_len PySem.boot_len (pa_cons (pv 0) pa_nil)) pe_int (nomark _))))) (pss_one (ps_ret pe_bl)) pss_nil)
      (pss_cons (ps_for PassesOwn.never rfl (pi_list (pv 0)) (pg_name (i := 1) sc_is_place.nd rfl (Or.inl rfl)) (pss_cons (ps_if (PW.pt (pw_or (pt_not (pt_val (pe_callB call_isi (by rfl) T.b_isinstance (by decide +kernel) (pa_cons (pv 1) (pa_cons (pe_bltn (v := .ty "tuple") (by rfl) T.b_tuple (by decide +kernel) rfl) pa_nil))))) (pw_or (pt_cmpR op_ne (pe_callB call_len_seq (by rfl) T.b_len PySem.boot_len (pa_cons (pv 1) pa_nil)) pe_int (nomark _)) (pw_or1 (pt_not (pt_val (pe_fn (f_is_number2 T) (hr.mono (by decide)) (by rfl) pass0 (pa_cons (pe_ix ix_tup (pv 1) pe_int (fun _ _ => rfl)) (pa_cons pe_int (pa_cons (pe_globI T.c_MOST_NIGHT (by rfl)) pa_nil)))))))))) (pss_one (ps_ret pe_bl)) pss_nil)
      (pss_one (ps_if (pt_not (pt_val (pe_callB call_isi (by rfl) T.b_isinstance (by decide +kernel) (pa_cons (pe_ix ix_tup (pv 1) pe_int (fun _ _ => rfl)) (pa_cons (pe_glob (v := .ref (cls mg "State")) (by rfl) T.o_State.g rfl) pa_nil))))) (pss_one (ps_ret pe_bl)) pss_nil))))
      (pss_one (ps_ret (pe_callB (cr_all rfl) (by rfl) T.b_all (by decide +kernel) (pa_cons (pe_lc (own := [("one", 1), ("other", 2)]) (g := gTup K 2 (gCons (gName 1) (gCons (gName 2) (gNil)))) (tt := tYes) (by rfl) sc_is_place.nd (pi_zip (by rfl) T.b_zip (pa_cons (pv 0) (pa_cons (pe_slice sl_list (pv 0) (po_some pe_int) po_none) pa_nil))) (blkOk_by (own := [("one", 1), ("other", 2)]) (N := nm_is_place) (sc := defScope s_is_place) (by decide +kernel)) (fun _ _ _ _ _ => (pg_tupK K rfl rfl (pgs_cons (pg_name (i := 1) sc_is_place.nd rfl (Or.inl rfl)) (pgs_cons (pg_name (i := 2) sc_is_place.nd rfl (Or.inl rfl)) pgs_nil)))) (fun _ _ _ _ _ => pts_nil) (fun _ _ _ _ _ => (pe_cmpR op_lt (pe_ix (ix_tupK K rfl) (pv 1) pe_int (fun _ _ => rfl)) (pe_ix (ix_tupK K rfl) (pv 2) pe_int (fun _ _ => rfl)) (nomark _)))) pa_nil)))))), ?_⟩
    obtain ⟨⟨⟨n, hx⟩, hxt⟩, hin⟩ := hP
    with_reducible refine seq_k fun K_ hK_ => ?_
    walk_at "ru"
    refine isi_thing hx (by decide) ?_
    have nl : n ≠ "list" → ¬ IsPl mg H x := by
      rintro hn ⟨l, xs, ps, rfl, h1, _⟩
      cases hx with
      | lst _ => exact hn rfl
      | tup h => rw [h1] at h; cases h
      | dic h => rw [h1] at h; cases h
    cases hx with
    | @lst l xs hl =>
      obtain ⟨hz, hit⟩ := hin l xs rfl hl
      refine ⟨true, rfl, ?_⟩
      walk_at "ru"
      refine ⟨_, .inl (sqL hl), ?_⟩
      by_cases c8 : xs.length ≤ 8
      · rw [if_neg (by omega)]
        walk_at "ru"
        subst hK_
        first | with_reducible refine seq_k fun K_ hK_ => ?_ | skip
        walk_at "ru"
        refine ⟨⟨_, sqL hl⟩, ?_⟩
        refine for_it (walk_list (xs := xs)) (iv_is_place mg H l xs) ⟨⟨_, rfl⟩, Same.refl _, [], by simp [PlAt], (fun _ h => nomatch h)⟩ (fun i σ H2 _ iv => sqL (iv.2.1 _ _ hl)) (fun i x σ H2 H3 hi iv hy => ?_) (fun σ H2 iv => ?_)
        · obtain ⟨⟨y0, rfl⟩, s2, ok⟩ := iv
          obtain ⟨rfl, hy⟩ := hy
          have hit2 := hit x (mem_of_get hy)
          have no : ∀ {B : Prop}, (¬ (∃ q k n t, x = .ref q ∧ H q = some (.tup [.int n, .ref k]) ∧ StAt mg H k t ∧ 0 ≤ n ∧ n ≤ 1000000000)) → Q (.bl false) H3 := fun hno => q2 (fun h => hno (h.pair hl hy).2) H3 s2
          obtain ⟨⟨⟨m, hm⟩, hmt⟩, hmi⟩ := hit2
          walk_at "ru"
          with_reducible refine seq_k fun K_ hK_ => ?_
          walk_at "ru"
          refine isi_thing (hm.same s2) (by decide) ?_
          cases hm with
          | @tup a ys ha =>
            obtain ⟨hyz, hyc⟩ := hmi a ys rfl ha
            have ha3 := s2 _ _ ha
            refine ⟨true, rfl, ?_⟩
            walk_at "ru"
            refine ⟨_, .inr (sqT ha3), ?_⟩
            by_cases c2 : ys.length = 2
            · rw [if_neg (by omega)]
              match ys, c2 with
              | [u, v], _ =>
                refine ixT (j := 0) (sqT ha3) rfl rfl ?_
                have hu := (hyc u (by simp)).fr (Fb.of s2)
                have hv := (hyc v (by simp))
                rcases hu with ⟨⟨nu, hu⟩, _⟩ | ⟨pu, tu, eu, hSu⟩
                · refine .inl ⟨u, nu, 0, .int 1000000000, rfl, hu, fun _ _ => ⟨_, rfl⟩, ?_⟩
                  cases e : isNumV u 0 (.int 1000000000) with
                  | false =>
                    refine ⟨false, rfl, ?_⟩
                    rw [if_pos (by simp)]
                    refine no (B := True) ?_
                    rintro ⟨q, k, n, t', e1, e2, e3, e4, e5⟩
                    cases e1
                    rw [ha] at e2
                    cases e2
                    simp [isNumV, e4, e5] at e
                  | true =>
                    refine ⟨true, rfl, ?_⟩
                    rw [if_neg (by simp)]
                    walk_at "ru"
                    subst hK_
                    first | with_reducible refine seq_k fun K_ hK_ => ?_ | skip
                    walk_at "ru"
                    refine ixT (j := 1) (sqT ha3) rfl rfl ?_
                    obtain ⟨nn, rfl, hn0, hn1⟩ : ∃ nn, u = .int nn ∧ 0 ≤ nn ∧ nn ≤ 1000000000 := by
                      cases u with
                      | int i => exact ⟨i, rfl, by simpa [isNumV] using e⟩
                      | _ => cases e
                    rcases hv with hv | ⟨pv, tv, rfl, hSv⟩
                    · obtain ⟨⟨nv, hv⟩, _⟩ := hv
                      refine isi_not T.v_State T.u_State (hv.same s2) ⟨false, rfl, ?_⟩
                      rw [if_pos (by simp)]
                      refine no (B := True) ?_
                      rintro ⟨q, k, n, t', e1, e2, e3, e4, e5⟩
                      cases e1
                      rw [ha] at e2
                      cases e2
                      obtain ⟨dx, d, h1, h2⟩ := e3.ex
                      cases hv with
                      | lst z => rw [z] at h1; cases h1
                      | tup z => rw [z] at h1; cases h1
                      | dic z => rw [z] at h1; cases h1
                    · obtain ⟨dx, d, h1, h2⟩ := hSv.ex
                      refine isi_own T.o_State T.v_State (s2 _ _ h1) ⟨true, rfl, ?_⟩
                      rw [if_neg (by simp)]
                      exact ⟨⟨_, rfl⟩, s2, ok.next hy ha hSv hn0 hn1⟩
                · subst eu
                  refine .inr ⟨pu, tu, 0, _, rfl, hSu, false, rfl, ?_⟩
                  rw [if_pos (by simp)]
                  refine no (B := True) ?_
                  rintro ⟨q, k, n, t', e1, e2, e3, e4, e5⟩
                  cases e1
                  rw [ha] at e2
                  cases e2
            · rw [if_pos (by omega)]
              refine no (B := True) ?_
              rintro ⟨q, k, n, t', e1, e2, e3, e4, e5⟩
              cases e1
              rw [ha] at e2
              cases e2
              exact c2 rfl
          | @lst a ys ha =>
            refine ⟨false, rfl, ?_⟩
            refine no (B := True) ?_
            rintro ⟨q, k, n, t', e1, e2, e3, e4, e5⟩
            cases e1
            rw [ha] at e2
            cases e2
          | @dic a ys ha =>
            refine ⟨false, rfl, ?_⟩
            refine no (B := True) ?_
            rintro ⟨q, k, n, t', e1, e2, e3, e4, e5⟩
            cases e1
            rw [ha] at e2
            cases e2
          | _ =>
            refine ⟨false, rfl, ?_⟩
            refine no (B := True) ?_
            rintro ⟨q, k, n, t', e1, e2, e3, e4, e5⟩
            cases e1
        · obtain ⟨⟨y0, rfl⟩, s2, ps, hPs, hnum⟩ := iv
          rw [List.take_length] at hPs
          have hl2 := s2 _ _ hl
          have hP2 := hPs.same s2
          have hlen := hPs.len
          walk_at "ru"
          subst hK_
          first | with_reducible refine seq_k fun K_ hK_ => ?_ | skip
          walk_at "ru"
          refine ⟨l, _, rfl, sqL hl2, ?_⟩
          intro c n_c
          generalize hG_ : upd _ c _ = H3
          obtain ⟨s3, hC⟩ := newF n_c hG_
          clear hG_
          rw [show cutV xs (some 1) none = xs.drop 1 from cut_from _ 1] at hC
          have hl3 := s3 _ _ hl2
          have hP3 := hP2.same s3
          have hn : (adjI (ps.map (·.1))).length = min xs.length (xs.drop 1).length := by rw [adjI_len]; simp; omega
          walk_at "ru"
          refine ⟨_, sqL hl3, _, sqL hC, fun D2 hD2 => ?_⟩
          refine lc_it (walk_zip hn) (LcP H3 D2 fun i => ((adjI (ps.map (·.1))).take i).map V.bl) ⟨same_upd hD2, upd_same⟩ (fun i H5 _ p => ⟨sqL (p.same _ _ hl3), sqL (p.same _ _ hC)⟩) (fun i v H5 H6 hi p hv => ?_) fun H5 p => ?_
          · obtain ⟨t, u, v, rfl, ht, rfl, hu, hv⟩ := hv
            have hu : xs[i]? = some u := hu
            have hv : (xs.drop 1)[i]? = some v := hv
            rw [List.getElem?_drop, Nat.add_comm] at hv
            obtain ⟨p1, a1, k1, e1, rfl, h1, _⟩ := hP3.get hu
            obtain ⟨p2, a2, k2, e2, rfl, h2, _⟩ := hP3.get hv
            have s6 : Same H5 (upd H5 t (.tup [.ref a1, .ref a2])) := same_upd ht
            have hs6 : SqT K (upd H5 t (.tup [.ref a1, .ref a2])) t [.ref a1, .ref a2] := sqT upd_same
            revert s6 hs6
            generalize upd H5 t (.tup [.ref a1, .ref a2]) = H6
            intro s6 hs6
            have sA := p.same.trans s6
            refine ⟨t, [.ref a1, .ref a2], rfl, hs6, rfl, ?_⟩
            walk_at "ru"
            refine ixT (j := 0) (sqT (sA _ _ h1)) rfl rfl ?_
            refine ixT (j := 0) (sqT (sA _ _ h2)) rfl rfl ?_
            have hg := adjI_get (l := ps.map (·.1)) (i := i) (x := p1.1) (y := p2.1) (by rw [List.getElem?_map, e1]; rfl) (by rw [List.getElem?_map, e2]; rfl)
            refine ⟨_, rfl, _, rfl, ?_⟩
            have hi' := lt_of_get hg
            rw [adjI_len, List.length_map] at hi'
            exact p.push hD2 (by simp; omega) s6 (map_take_next _ hg)
          · have hp := p.at_
            rw [List.take_length] at hp
            refine ⟨D2, adjI (ps.map (·.1)), rfl, sqL hp, ?_⟩
            rw [adjI_all]
            have sF := (s2.trans s3).trans p.same
            by_cases c : (ps.map (·.1)).Pairwise (· < ·)
            · rw [decide_eq_true c]
              exact q1 ⟨l, xs, ps, rfl, hl, hPs, by omega, hnum, List.pairwise_map.mp c⟩ _ sF
            · rw [decide_eq_false c]
              refine q2 ?_ _ sF
              rintro ⟨l', xs', ps', e, h1, h2, h3⟩
              cases e
              rw [hl] at h1
              cases h1
              have : ps'.map (·.1) = ps.map (·.1) := PlAt.nights h2 hPs
              rw [← this] at c
              exact c (List.pairwise_map.mpr h3.pw)
      · rw [if_pos (by omega)]
        exact q2 (fun h => c8 (h.len hl)) _ (Same.refl _)
    | _ => exact ⟨false, rfl, q2 (nl (by decide)) _ (Same.refl _)⟩
end
end Nk
namespace Nk
open PySem L2
section
variable {P : Program} {w : World} {K : PySem.W.Frag} {mg : Str → Option Value} {base : Heap}
abbrev nm__law_place_good : List Str := ["thing", "one", "other"]
abbrev pm__law_place_good : List Str := ["thing"]
abbrev lv__law_place_good : Nat := 2
theorem sc__law_place_good : FnScope nm__law_place_good pm__law_place_good (defScope s__law_place_good) := ⟨rfl, rfl, rfl, by decide +kernel, rfl, by decide +kernel, by decide +kernel⟩
def sp__law_whole2 (K : PySem.W.Frag) (mg : Str → Option Value) : Sp := fun vs H Q E => sp__law_whole K vs H Q E ∨ ∃ (p : Addr) (t : Tb), vs = [.ref p] ∧ StAt mg H p t ∧ Q (.bl false) H
theorem f__law_whole2 (T : Txt K mg) : Fk P w K mg base CX0 lv__law_whole "_law_whole" pm__law_whole (sp__law_whole2 K mg) := by
  obtain ⟨f, fd, F, g, b⟩ := T.d__law_whole.ex
  refine ⟨f, fd, g, F.kp, b, F.ok sc__law_whole (fun vs H Q E h => ?_) (fun cdv A outer s H vs Q E hr h => ?_)⟩
  · rcases h with h | h
    · obtain ⟨x, n, rfl, _⟩ := h; rfl
    · obtain ⟨p, t, rfl, _⟩ := h; rfl
  · refine ⟨_, (pss_one (ps_ret (pe_and (pe_callB call_isi (by rfl) T.b_isinstance (by decide +kernel) (pa_cons (pv 0) (pa_cons (pe_bltn (v := .ty "int") (by rfl) T.b_int (by decide +kernel) rfl) pa_nil))) (pe_one (pe_not (pe_callB call_isi (by rfl) T.b_isinstance (by decide +kernel) (pa_cons (pv 0) (pa_cons (pe_bltn (v := .ty "bool") (by rfl) T.b_bool (by decide +kernel) rfl) pa_nil)))))))), ?_⟩
    rcases h with h | h
    · obtain ⟨x, n, rfl, hx, q⟩ := h
      walk_at "rd"
      refine isi_thing hx (by decide) ?_
      cases hx with
      | int i =>
        refine ⟨true, rfl, ?_⟩
        walk_at "rd"
        exact isi_thing (.int i) (by decide) ⟨false, rfl, q⟩
      | bl i =>
        refine ⟨true, rfl, ?_⟩
        walk_at "rd"
        exact isi_thing (.bl i) (by decide) ⟨true, rfl, q⟩
      | _ => exact ⟨false, rfl, q⟩
    · obtain ⟨p, t, rfl, hS, q⟩ := h
      obtain ⟨dx, d, h1, h2⟩ := hS.ex
      walk_at "rd"
      exact isi_ownI T.o_State T.v_State T.u_State h1 ⟨false, rfl, q⟩
def sp__law_place_good (K : PySem.W.Frag) (mg : Str → Option Value) : Sp := fun vs H Q _ => ∃ (t : Addr) (x : V), vs = [x] ∧ Plc K mg t H x ∧ (IsPl mg H x → ∀ H', Same H H' → Q (.bl true) H') ∧ (¬ IsPl mg H x → ∀ H', Same H H' → Q (.bl false) H')
def ones (l : List Bool) : List Int := (l.filter fun b => !b).map fun _ => 1
theorem ones_next {l : List Bool} {i : Nat} {b : Bool} (h : l[i]? = some b) : (ones (l.take (i + 1))).map V.int = (ones (l.take i)).map V.int ++ (if b = true then [] else [.int 1]) := by
  unfold ones
  rw [filter_take_next (fun b => !b) h]
  cases b <;> simp
theorem ones_nil {l : List Bool} : ones l = [] ↔ l.all id = true := by
  unfold ones
  rw [List.map_eq_nil_iff, List.filter_eq_nil_iff, List.all_eq_true]
  simp
theorem f__law_place_good (T : Txt K mg) : Fk P w K mg base CX0 lv__law_place_good "_law_place_good" pm__law_place_good (sp__law_place_good K mg) := by
  obtain ⟨f, fd, F, g, b⟩ := T.d__law_place_good.ex
  refine ⟨f, fd, g, F.kp, b, F.ok sc__law_place_good (fun vs H Q E h => ?_) (fun cdv A outer s H vs Q E hr h => ?_)⟩
  · obtain ⟨t, x, rfl, _⟩ := h; rfl
  · obtain ⟨t, x, rfl, hP, q1, q2⟩ := h
    refine ⟨_, (pss_cons (ps_if (PW.pt (pw_or (pt_not (pt_val (pe_callB call_isi (by rfl) T.b_isinstance (by decide +kernel) (pa_cons (pv 0) (pa_cons (pe_bltn (v := .ty "list") (by rfl) T.b_list (by decide +kernel) rfl) pa_nil))))) (pw_or1 (pt_cmpR op_gt (pe_callB call_len_seq (by rfl) T.b_len PySem.boot_len (pa_cons (pv 0) pa_nil)) pe_int (nomark _))))) (pss_one (ps_ret pe_bl)) pss_nil)
      (pss_cons (ps_for PassesOwn.never rfl (pi_list (pv 0)) (pg_name (i := 1) sc__law_place_good.nd rfl (Or.inl rfl)) (pss_cons (ps_if (PW.pt (pw_or (pt_not (pt_val (pe_callB call_isi (by rfl) T.b_isinstance (by decide +kernel) (pa_cons (pv 1) (pa_cons (pe_bltn (v := .ty "tuple") (by rfl) T.b_tuple (by decide +kernel) rfl) pa_nil))))) (pw_or (pt_cmpR op_ne (pe_callB call_len_seq (by rfl) T.b_len PySem.boot_len (pa_cons (pv 1) pa_nil)) pe_int (nomark _)) (pw_or1 (pt_not (pt_val (pe_callB call_isi (by rfl) T.b_isinstance (by decide +kernel) (pa_cons (pe_ix ix_tup (pv 1) pe_int (fun _ _ => rfl)) (pa_cons (pe_glob (v := .ref (cls mg "State")) (by rfl) T.o_State.g rfl) pa_nil))))))))) (pss_one (ps_ret pe_bl)) pss_nil)
      (pss_one (ps_if (PW.pt (pw_or (pt_not (pt_val (pe_fn (f__law_whole2 T) (hr.mono (by decide)) (by rfl) pass0 (pa_cons (pe_ix ix_tup (pv 1) pe_int (fun _ _ => rfl)) pa_nil)))) (pw_or (pt_cmpR op_lt (pe_ix ix_tup (pv 1) pe_int (fun _ _ => rfl)) pe_int (nomark _)) (pw_or1 (pt_cmpR op_gt (pe_ix ix_tup (pv 1) pe_int (fun _ _ => rfl)) (pe_op op_pow pe_int pe_int) (nomark _)))))) (pss_one (ps_ret pe_bl)) pss_nil))))
      (pss_one (ps_ret (pe_cmpR (op_eqD hr.units) (pe_lc (own := [("one", 1), ("other", 2)]) (g := gTup K 2 (gCons (gName 1) (gCons (gName 2) (gNil)))) (by rfl) sc__law_place_good.nd (pi_zip (by rfl) T.b_zip (pa_cons (pv 0) (pa_cons (pe_slice sl_list (pv 0) (po_some pe_int) po_none) pa_nil))) (blkOk_by (own := [("one", 1), ("other", 2)]) (N := nm__law_place_good) (sc := defScope s__law_place_good) (by decide +kernel)) (fun _ _ _ _ _ => (pg_tupK K rfl rfl (pgs_cons (pg_name (i := 1) sc__law_place_good.nd rfl (Or.inl rfl)) (pgs_cons (pg_name (i := 2) sc__law_place_good.nd rfl (Or.inl rfl)) pgs_nil)))) (fun _ _ _ _ _ => (pts_one (pt_cmpR op_ge (pe_ix (ix_tupK K rfl) (pv 1) pe_int (fun _ _ => rfl)) (pe_ix (ix_tupK K rfl) (pv 2) pe_int (fun _ _ => rfl)) (nomark _)))) (fun _ _ _ _ _ => pe_int)) (pe_lst pa_nil) (nomark _)))))), ?_⟩
    obtain ⟨⟨⟨n, hx⟩, hxt⟩, hin⟩ := hP
    with_reducible refine seq_k fun K_ hK_ => ?_
    walk_at "ru"
    refine isi_thing hx (by decide) ?_
    have nl : n ≠ "list" → ¬ IsPl mg H x := by
      rintro hn ⟨l, xs, ps, rfl, h1, _⟩
      cases hx with
      | lst _ => exact hn rfl
      | tup h => rw [h1] at h; cases h
      | dic h => rw [h1] at h; cases h
    cases hx with
    | @lst l xs hl =>
      obtain ⟨hz, hit⟩ := hin l xs rfl hl
      refine ⟨true, rfl, ?_⟩
      walk_at "ru"
      refine ⟨_, .inl (sqL hl), ?_⟩
      by_cases c8 : xs.length ≤ 8
      · rw [if_neg (by omega)]
        walk_at "ru"
        subst hK_
        first | with_reducible refine seq_k fun K_ hK_ => ?_ | skip
        walk_at "ru"
        refine ⟨⟨_, sqL hl⟩, ?_⟩
        refine for_it (walk_list (xs := xs)) (iv_is_place mg H l xs) ⟨⟨_, rfl⟩, Same.refl _, [], by simp [PlAt], (fun _ h => nomatch h)⟩ (fun i σ H2 _ iv => sqL (iv.2.1 _ _ hl)) (fun i x σ H2 H3 hi iv hy => ?_) (fun σ H2 iv => ?_)
        · obtain ⟨⟨y0, rfl⟩, s2, ok⟩ := iv
          obtain ⟨rfl, hy⟩ := hy
          have hit2 := hit x (mem_of_get hy)
          have no : (¬ (∃ q k n t, x = .ref q ∧ H q = some (.tup [.int n, .ref k]) ∧ StAt mg H k t ∧ 0 ≤ n ∧ n ≤ 1000000000)) → Q (.bl false) H3 := fun hno => q2 (fun h => hno (h.pair hl hy).2) H3 s2
          obtain ⟨⟨⟨m, hm⟩, hmt⟩, hmi⟩ := hit2
          walk_at "ru"
          with_reducible refine seq_k fun K_ hK_ => ?_
          walk_at "ru"
          refine isi_thing (hm.same s2) (by decide) ?_
          cases hm with
          | @tup a ys ha =>
            obtain ⟨hyz, hyc⟩ := hmi a ys rfl ha
            have ha3 := s2 _ _ ha
            refine ⟨true, rfl, ?_⟩
            walk_at "ru"
            refine ⟨_, .inr (sqT ha3), ?_⟩
            by_cases c2 : ys.length = 2
            · rw [if_neg (by omega)]
              match ys, c2 with
              | [u, v], _ =>
                refine ixT (j := 1) (sqT ha3) rfl rfl ?_
                have hu := (hyc u (by simp)).fr (Fb.of s2)
                have hv := (hyc v (by simp))
                rcases hv with hv | ⟨pv, tv, rfl, hSv⟩
                · obtain ⟨⟨nv, hv⟩, _⟩ := hv
                  refine isi_not T.v_State T.u_State (hv.same s2) ⟨false, rfl, ?_⟩
                  rw [if_pos (by simp)]
                  refine no ?_
                  rintro ⟨q, k, n, t', e1, e2, e3, e4, e5⟩
                  cases e1
                  rw [ha] at e2
                  cases e2
                  obtain ⟨dx, d, h1, h2⟩ := e3.ex
                  cases hv with
                  | lst z => rw [z] at h1; cases h1
                  | tup z => rw [z] at h1; cases h1
                  | dic z => rw [z] at h1; cases h1
                · obtain ⟨dx, d, h1, h2⟩ := hSv.ex
                  refine isi_own T.o_State T.v_State (s2 _ _ h1) ⟨true, rfl, ?_⟩
                  rw [if_neg (by simp)]
                  walk_at "ru"
                  subst hK_
                  first | with_reducible refine seq_k fun K_ hK_ => ?_ | skip
                  walk_at "ru"
                  refine ixT (j := 0) (sqT ha3) rfl rfl ?_
                  rcases hu with ⟨⟨nu, hu⟩, _⟩ | ⟨pu, tu, eu, hSu⟩
                  · refine .inl ⟨u, nu, rfl, hu, ?_⟩
                    cases u with
                    | int nn =>
                      refine ⟨true, rfl, ?_⟩
                      walk_at "ru"
                      refine ixT (j := 0) (sqT ha3) rfl rfl ?_
                      refine ⟨_, rfl, ?_⟩
                      by_cases c0 : nn < 0
                      · rw [if_pos (by simpa using c0)]
                        refine no ?_
                        rintro ⟨q, k, n, t', e1, e2, e3, e4, e5⟩
                        cases e1
                        rw [ha] at e2
                        cases e2
                        omega
                      · rw [if_neg (by simpa using c0)]
                        refine ixT (j := 0) (sqT ha3) rfl rfl ?_
                        refine ⟨⟨by decide, by decide, by decide⟩, nn, rfl, ?_⟩
                        rw [show (10 : Int) ^ Int.toNat 9 = 1000000000 by decide]
                        by_cases c1 : 1000000000 < nn
                        · rw [if_pos c1]
                          refine no ?_
                          rintro ⟨q, k, n, t', e1, e2, e3, e4, e5⟩
                          cases e1
                          rw [ha] at e2
                          cases e2
                          omega
                        · rw [if_neg c1]
                          exact ⟨⟨_, rfl⟩, s2, ok.next hy ha hSv (by omega) (by omega)⟩
                    | _ =>
                      refine ⟨false, rfl, ?_⟩
                      rw [if_pos (by simp)]
                      refine no ?_
                      rintro ⟨q, k, n, t', e1, e2, e3, e4, e5⟩
                      cases e1
                      rw [ha] at e2
                      cases e2
                  · subst eu
                    refine .inr ⟨pu, tu, rfl, hSu, false, rfl, ?_⟩
                    rw [if_pos (by simp)]
                    refine no ?_
                    rintro ⟨q, k, n, t', e1, e2, e3, e4, e5⟩
                    cases e1
                    rw [ha] at e2
                    cases e2
            · rw [if_pos (by omega)]
              refine no ?_
              rintro ⟨q, k, n, t', e1, e2, e3, e4, e5⟩
              cases e1
              rw [ha] at e2
              cases e2
              exact c2 rfl
          | @lst a ys ha =>
            refine ⟨false, rfl, ?_⟩
            refine no ?_
            rintro ⟨q, k, n, t', e1, e2, e3, e4, e5⟩
            cases e1
            rw [ha] at e2
            cases e2
          | @dic a ys ha =>
            refine ⟨false, rfl, ?_⟩
            refine no ?_
            rintro ⟨q, k, n, t', e1, e2, e3, e4, e5⟩
            cases e1
            rw [ha] at e2
            cases e2
          | _ =>
            refine ⟨false, rfl, ?_⟩
            refine no ?_
            rintro ⟨q, k, n, t', e1, e2, e3, e4, e5⟩
            cases e1
        · obtain ⟨⟨y0, rfl⟩, s2, ps, hPs, hnum⟩ := iv
          rw [List.take_length] at hPs
          have hl2 := s2 _ _ hl
          have hP2 := hPs.same s2
          have hlen := hPs.len
          walk_at "ru"
          subst hK_
          first | with_reducible refine seq_k fun K_ hK_ => ?_ | skip
          walk_at "ru"
          refine ⟨l, _, rfl, sqL hl2, ?_⟩
          intro c n_c
          generalize hG_ : upd _ c _ = H3
          obtain ⟨s3, hC⟩ := newF n_c hG_
          clear hG_
          rw [show cutV xs (some 1) none = xs.drop 1 from cut_from _ 1] at hC
          have hl3 := s3 _ _ hl2
          have hP3 := hP2.same s3
          have hn : (adjI (ps.map (·.1))).length = min xs.length (xs.drop 1).length := by rw [adjI_len]; simp; omega
          walk_at "ru"
          refine ⟨_, sqL hl3, _, sqL hC, fun D2 hD2 => ?_⟩
          refine lc_it (walk_zip hn) (LcP H3 D2 fun i => (ones ((adjI (ps.map (·.1))).take i)).map V.int) ⟨same_upd hD2, upd_same⟩ (fun i H5 _ p => ⟨sqL (p.same _ _ hl3), sqL (p.same _ _ hC)⟩) (fun i v H5 H6 hi p hv => ?_) fun H5 p => ?_
          · obtain ⟨t, u, v, rfl, ht, rfl, hu, hv⟩ := hv
            have hu : xs[i]? = some u := hu
            have hv : (xs.drop 1)[i]? = some v := hv
            rw [List.getElem?_drop, Nat.add_comm] at hv
            obtain ⟨p1, a1, k1, e1, rfl, h1, _⟩ := hP3.get hu
            obtain ⟨p2, a2, k2, e2, rfl, h2, _⟩ := hP3.get hv
            have s6 : Same H5 (upd H5 t (.tup [.ref a1, .ref a2])) := same_upd ht
            have hs6 : SqT K (upd H5 t (.tup [.ref a1, .ref a2])) t [.ref a1, .ref a2] := sqT upd_same
            revert s6 hs6
            generalize upd H5 t (.tup [.ref a1, .ref a2]) = H6
            intro s6 hs6
            have sA := p.same.trans s6
            refine ⟨t, [.ref a1, .ref a2], rfl, hs6, rfl, ?_⟩
            walk_at "ru"
            refine ixT (j := 0) (sqT (sA _ _ h1)) rfl rfl ?_
            refine ixT (j := 0) (sqT (sA _ _ h2)) rfl rfl ?_
            have hg := adjI_get (l := ps.map (·.1)) (i := i) (x := p1.1) (y := p2.1) (by rw [List.getElem?_map, e1]; rfl) (by rw [List.getElem?_map, e2]; rfl)
            have hon := ones_next hg
            refine ⟨_, rfl, _, rfl, ?_⟩
            have hi' := lt_of_get hg
            rw [adjI_len, List.length_map] at hi'
            by_cases c : p1.1 < p2.1
            · rw [decide_eq_true c] at hon
              rw [if_neg (by simpa using c)]
              exact p.skip s6 (by rw [hon]; simp)
            · rw [decide_eq_false c] at hon
              rw [if_pos (by simpa using c)]
              refine p.push hD2 ?_ s6 (by rw [hon]; simp)
              have := List.length_filter_le (fun b => !b) ((adjI (ps.map (·.1))).take i)
              rw [List.length_take, adjI_len, List.length_map] at this
              simp only [ones, List.length_map]
              omega
          · have hp := p.at_
            rw [List.take_length] at hp
            have sF := (s2.trans s3).trans p.same
            intro e n_e
            generalize hG_ : upd _ e _ = H6
            obtain ⟨s6, he⟩ := newF n_e hG_
            clear hG_
            refine eqD (dp_LI (ns := ones (adjI (ps.map (·.1)))) (sqL (s6 _ _ hp))) (dp_LI (ns := []) (sqL he)) (gd_dLI (k := 0) _) (gd_dLI (k := 0) _) (fun z => ?_) (fun z => ?_)
            · rw [dLI_inj, ones_nil, adjI_all, decide_eq_true_eq] at z
              exact q1 ⟨l, xs, ps, rfl, hl, hPs, by omega, hnum, List.pairwise_map.mp z⟩ _ (sF.trans s6)
            · rw [ne_eq, dLI_inj, ones_nil, adjI_all, decide_eq_true_eq] at z
              refine q2 ?_ _ (sF.trans s6)
              rintro ⟨l', xs', ps', e, h1, h2, h3⟩
              cases e
              rw [hl] at h1
              cases h1
              have : ps'.map (·.1) = ps.map (·.1) := PlAt.nights h2 hPs
              rw [← this] at z
              exact z (List.pairwise_map.mpr h3.pw)
      · rw [if_pos (by omega)]
        exact q2 (fun h => c8 (h.len hl)) _ (Same.refl _)
    | _ => exact ⟨false, rfl, q2 (nl (by decide)) _ (Same.refl _)⟩
end
end Nk
namespace Nk
open PySem L2
section
variable {P : Program} {w : World} {K : PySem.W.Frag} {mg : Str → Option Value} {base : Heap}
def alike (p q : Int × Tb) : Prop := p.1 = q.1 → ∀ n, lk p.2 n = lk q.2 n
abbrev nm_sending : List Str := ["mine", "its", "night", "state", "other", "like", "there", "left", "have", "found", "some", "at", "size", "base", "one"]
abbrev pm_sending : List Str := ["mine", "its"]
abbrev lv_sending : Nat := 5
theorem sc_sending : FnScope nm_sending pm_sending (defScope s_sending) := ⟨rfl, rfl, rfl, by decide +kernel, rfl, by decide +kernel, by decide +kernel⟩
def sp_sending (K : PySem.W.Frag) (mg : Str → Option Value) : Sp := fun vs H Q E => ∃ (t0 : Addr) (x y : V), vs = [x, y] ∧ Plc K mg t0 H x ∧ Plc K mg t0 H y ∧
  (¬ (IsPl mg H x ∧ IsPl mg H y) → ∀ H', Same H H' → E (.ref (cls mg "BadNights")) none H') ∧
  (∀ l m xs ys ps qs, x = .ref l → y = .ref m → H l = some (.lst xs) → H m = some (.lst ys) → PlAt mg H xs ps → PlAt mg H ys qs → GoodPl ps → GoodPl qs →
    ((¬ ∀ p ∈ ps, ∀ q ∈ qs, alike p q) → ∀ H', Same H H' → E (.ref (cls mg "Unlike")) none H') ∧
    ((∀ p ∈ ps, ∀ q ∈ qs, alike p q) → ∀ r zs rs hv H', Same H H' → H r = none → H' r = some (.lst zs) → SentAt H' zs rs → SendS (lackS ps qs) qs [] hv rs → Q (.ref r) H'))
def iv_sd1 (H0 : Hp) (l m : Addr) (ps qs : Pl) (i : Nat) (σ : L2.St) (H : Hp) : Prop := (∃ y2 y3 y4 y5, σ = [some (.ref l), some (.ref m), y2, y3, y4, y5, none, none, none, none, none, none, none, none, none]) ∧ Same H0 H ∧ ∀ p ∈ ps.take i, ∀ q ∈ qs, alike p q
def iv_sd2 (H0 : Hp) (l m : Addr) (n : V) (k : Addr) (p : Int × Tb) (qs : Pl) (i : Nat) (σ : L2.St) (H : Hp) : Prop := (∃ y4 y5, σ = [some (.ref l), some (.ref m), some n, some (.ref k), y4, y5, none, none, none, none, none, none, none, none, none]) ∧ Same H0 H ∧ ∀ q ∈ qs.take i, alike p q
def iv_sd3 (mg : Str → Option Value) (H0 : Hp) (D : Addr) (ps qs : Pl) (i : Nat) (H : Hp) : Prop := Same H0 H ∧ ∃ zs, H D = some (.lst zs) ∧ PlAt mg H zs ((ps.take i).filter fun p => decide (¬ p.1 ∈ qs.map (·.1)))
structure SdW (mg : Str → Option Value) (H0 : Hp) (l m th lf hv fo : Addr) (ps qs left have_ : Pl) (rs : List Sent) (H : Hp) : Prop where
  same : Same H0 H
  nlf : H0 lf = none
  nhv : H0 hv = none
  nfo : H0 fo = none
  ne1 : hv ≠ fo
  ne2 : lf ≠ hv
  ne3 : lf ≠ fo
  run : SendS (lackS ps qs) qs left have_ rs
  lf_ : ∃ us, H lf = some (.lst us) ∧ PlAt mg H us left
  hv_ : ∃ us, H hv = some (.lst us) ∧ PlAt mg H us have_
  fo_ : ∃ us, H fo = some (.lst us) ∧ SentAt H us rs
  len : left.length + rs.length ≤ 8
  len2 : have_.length = qs.length + rs.length
theorem f_sending (T : Txt K mg) : Fk P w K mg base (L2.CX P w) lv_sending "sending" pm_sending (sp_sending K mg) := by
  obtain ⟨f, fd, F, g, b⟩ := T.d_sending.ex
  refine ⟨f, fd, g, F.kp, b, F.okX sc_sending (fun vs H Q E h => ?_) (fun cdv A outer s H vs Q E hr h => ?_)⟩
  · obtain ⟨t0, x, y, rfl, _⟩ := h; rfl
  · obtain ⟨t0, x, y, rfl, hX, hY, qe, qg⟩ := h
    refine ⟨_, (pss_cons (ps_if (PW.pt (pw_or (pt_not (pt_val (pe_fn (f_is_place T) (hr.mono (by decide)) (by rfl) pass0 (pa_cons (pv 0) pa_nil)))) (pw_or1 (pt_not (pt_val (pe_fn (f_is_place T) (hr.mono (by decide)) (by rfl) pass0 (pa_cons (pv 1) pa_nil))))))) (pss_one (ps_raise rfl (takes_of rfl rfl rfl rfl) (pmk_own PySem.F.excBase_RuntimeError T.x_BadNights.xP T.x_BadNights.gP T.x_BadNights.kP T.x_BadNights.rs rfl))) pss_nil)
      (pss_cons (ps_for (passes_of rfl) rfl (pi_list (pv 0)) (pg_tup rfl (pgs_cons (pg_name (i := 2) sc_sending.nd rfl (Or.inl rfl)) (pgs_cons (pg_name (i := 3) sc_sending.nd rfl (Or.inl rfl)) pgs_nil))) (pss_one (ps_for (passes_of rfl) rfl (pi_list (pv 1)) (pg_tup rfl (pgs_cons (pg_name (i := 4) sc_sending.nd rfl (Or.inl rfl)) (pgs_cons (pg_name (i := 5) sc_sending.nd rfl (Or.inl rfl)) pgs_nil))) (pss_one (ps_if (PW.pt (pw_and (pt_cmpR op_eq (pv 2) (pv 4) (nomark _)) (pw_and1 (pt_cmpR (op_neO T.v_State (f_State____eq__ T) (hr.mono (by decide)) pass0) (pv 3) (pv 5) (nomark _))))) (pss_one (ps_raise rfl (takes_of rfl rfl rfl rfl) (pmk_own PySem.F.excBase_RuntimeError T.x_Unlike.xP T.x_Unlike.gP T.x_Unlike.kP T.x_Unlike.rs rfl))) pss_nil)))))
      (pss_cons (ps_set (i := 6) sc_sending.nd rfl (.inr rfl) (pe_lc (own := [("night", 2), ("state", 3)]) (g := gTup K 2 (gCons (gName 2) (gCons (gName 3) (gNil)))) (tt := tYes) (by rfl) sc_sending.nd (pi_list (pv 1)) (blkOk_by (own := [("night", 2), ("state", 3)]) (N := nm_sending) (sc := defScope s_sending) (by decide +kernel)) (fun _ _ _ _ _ => (pg_tupK K rfl rfl (pgs_cons (pg_name (i := 2) sc_sending.nd rfl (Or.inl rfl)) (pgs_cons (pg_name (i := 3) sc_sending.nd rfl (Or.inl rfl)) pgs_nil)))) (fun _ _ _ _ _ => pts_nil) (fun _ _ _ _ _ => (pv 2))))
      (pss_cons (ps_setLc (own := [("one", 14)]) (g := gName 14) (i := 7) (by rfl) sc_sending.nd rfl rfl (sw_true rfl rfl rfl (by decide +kernel)) (pi_list (pv 0)) (blkOk_by (own := [("one", 14)]) (N := nm_sending) (sc := defScope s_sending) (by decide +kernel)) (fun _ _ _ _ _ => (pg_name (i := 14) sc_sending.nd rfl (Or.inl rfl))) (fun _ _ _ _ _ => (pts_one (pt_cmpR (op_notInK K rfl) (pe_ix (ix_tupK K rfl) (pv 14) pe_int (fun _ _ => rfl)) (pv 6) (by rfl)))) (fun _ _ _ _ _ => (pv 14)))
      (pss_cons (ps_set (i := 8) sc_sending.nd rfl (.inr rfl) (pe_callTy call_list_of (by rfl) T.b_list (by decide +kernel) (pa_cons (pv 1) pa_nil)))
      (pss_cons (ps_set (i := 9) sc_sending.nd rfl (.inl rfl) (pe_lst pa_nil))
      (pss_cons (ps_while (passes_of rfl) (pt_cmpR (op_neNil K rfl hr.units0) (pv 7) (pe_lst pa_nil) (nomark _)) (pss_cons (ps_setLc (own := [("night", 2), ("state", 3)]) (g := gTup K 2 (gCons (gName 2) (gCons (gName 3) (gNil)))) (tt := tYes) (i := 10) (by rfl) sc_sending.nd rfl rfl (sw_true rfl rfl rfl (by decide +kernel)) (pi_list (pv 7)) (blkOk_by (own := [("night", 2), ("state", 3)]) (N := nm_sending) (sc := defScope s_sending) (by decide +kernel)) (fun _ _ _ _ _ => (pg_tupK K rfl rfl (pgs_cons (pg_name (i := 2) sc_sending.nd rfl (Or.inl rfl)) (pgs_cons (pg_name (i := 3) sc_sending.nd rfl (Or.inl rfl)) pgs_nil)))) (fun _ _ _ _ _ => pts_nil) (fun _ _ _ _ _ => (pe_ix (ix_tupK K rfl) (pe_fn (f_best_base T) (hr.mono (by decide)) (by rfl) pass0 (pa_cons (pv 3) (pa_cons (pv 8) pa_nil))) pe_int (fun _ _ => rfl))))
      (pss_cons (ps_set (i := 11) sc_sending.nd rfl (.inl rfl) (pe_bm PySem.F.plainAttrs_list PySem.F.slot_list_index PySem.F.type_list_index mt_index (pv 10) (pa_cons (pe_callB (cr_min rfl) (by rfl) T.b_min (by decide +kernel) (pa_cons (pv 10) pa_nil)) pa_nil)))
      (pss_cons (ps_asg (pe_ix ix_list (pv 7) (pv 11) (fun _ _ => rfl)) (pg_tup rfl (pgs_cons (pg_name (i := 2) sc_sending.nd rfl (Or.inl rfl)) (pgs_cons (pg_name (i := 3) sc_sending.nd rfl (Or.inl rfl)) pgs_nil))))
      (pss_cons (ps_asg (pe_fn (f_best_base T) (hr.mono (by decide)) (by rfl) pass0 (pa_cons (pv 3) (pa_cons (pv 8) pa_nil))) (pg_tup rfl (pgs_cons (pg_name (i := 12) sc_sending.nd rfl (Or.inl rfl)) (pgs_cons (pg_name (i := 13) sc_sending.nd rfl (Or.inl rfl)) pgs_nil))))
      (pss_cons (ps_expr (pe_bm PySem.F.plainAttrs_list PySem.F.slot_list_append PySem.F.type_list_append mt_append (pv 9) (pa_cons (pe_tup (pa_cons (pv 2) (pa_cons (pv 13) (pa_cons (pv 12) pa_nil)))) pa_nil)))
      (pss_cons (ps_expr (pe_bm PySem.F.plainAttrs_list PySem.F.slot_list_append PySem.F.type_list_append mt_append (pv 8) (pa_cons (pe_tup (pa_cons (pv 2) (pa_cons (pv 3) pa_nil))) pa_nil)))
      (pss_one (ps_set (i := 7) sc_sending.nd rfl (.inl rfl) (pe_op op_cat (pe_slice sl_list (pv 7) po_none (po_some (pv 11))) (pe_slice sl_list (pv 7) (po_some (pe_op op_add (pv 11) pe_int)) po_none)))))))))))
      (pss_one (ps_ret (pv 9)))))))))), ?_⟩
    with_reducible refine seq_k fun K_ hK_ => ?_
    walk_at "ru"
    refine ⟨t0, x, rfl, hX, fun c1 H1 s1 => ⟨true, rfl, ?_⟩, fun c1 H1 s1 => ⟨false, rfl, ?_⟩⟩
    rotate_left
    · rw [if_pos (by simp)]
      exact qe (fun z => c1 z.1) H1 s1
    walk_at "ru"
    refine ⟨t0, y, rfl, hY.fr (Fb.of s1), fun c2 H2 s2 => ⟨true, rfl, ?_⟩, fun c2 H2 s2 => ⟨false, rfl, ?_⟩⟩
    rotate_left
    · rw [if_pos (by simp)]
      rw [IsPl.fr (Fb.of s1) hY] at c2
      exact qe (fun z => c2 z.2) H2 (s1.trans s2)
    rw [IsPl.fr (Fb.of s1) hY] at c2
    obtain ⟨l, xs, ps, rfl, hl, hP, gp⟩ := c1
    obtain ⟨m, ys, qs, rfl, hm, hQ, gq⟩ := c2
    obtain ⟨qu, q⟩ := qg l m xs ys ps qs rfl rfl hl hm hP hQ gp gq
    have hxl := hP.len
    have hyl := hQ.len
    have h8 := gp.len
    have h8q := gq.len
    rw [if_neg (by simp)]
    have s12 := s1.trans s2
    walk_at "ru"
    subst hK_
    first | with_reducible refine seq_k fun K_ hK_ => ?_ | skip
    walk_at "ru"
    refine ⟨⟨_, sqL (s12 _ _ hl)⟩, ?_⟩
    refine for_it (walk_list (xs := xs)) (iv_sd1 H l m ps qs) ⟨⟨_, _, _, _, rfl⟩, s12, fun _ h => nomatch h⟩ (fun i σ H2 _ iv => sqL (iv.2.1 _ _ hl)) (fun i x σ H3 H4 hi iv hy => ?_) (fun σ H3 iv => ?_)
    · obtain ⟨⟨y2, y3, y4, y5, rfl⟩, s3, al⟩ := iv
      obtain ⟨rfl, hy⟩ := hy
      obtain ⟨p, q1, k1, e1, rfl, e3, e4⟩ := hP.get hy
      refine ⟨q1, _, rfl, sqT (s3 _ _ e3), rfl, ?_⟩
      walk_at "ru"
      refine ⟨⟨_, sqL (s3 _ _ hm)⟩, ?_⟩
      refine for_it (walk_list (xs := ys)) (iv_sd2 H l m (.int p.1) k1 p qs) ⟨⟨_, _, rfl⟩, s3, fun _ h => nomatch h⟩ (fun i σ H2 _ iv => sqL (iv.2.1 _ _ hm)) (fun j y σ H5 H6 hj iv hy2 => ?_) (fun σ H5 iv => ?_)
      · obtain ⟨⟨y4, y5, rfl⟩, s5, al2⟩ := iv
        obtain ⟨rfl, hy2⟩ := hy2
        obtain ⟨p2, q2, k2, f1, rfl, f3, f4⟩ := hQ.get hy2
        refine ⟨q2, _, rfl, sqT (s5 _ _ f3), rfl, ?_⟩
        have next : alike p p2 → ∀ q ∈ qs.take (j + 1), alike p q := fun ha q hq => by
          rw [take_next f1] at hq
          rcases List.mem_append.mp hq with hq | hq
          · exact al2 q hq
          · rw [List.mem_singleton.mp hq]; exact ha
        walk_at "ru"
        by_cases c : p.1 = p2.1
        · rw [if_pos c]
          have e5 := e4.same s5
          have f5 := f4.same s5
          obtain ⟨dx, d, h1, h2⟩ := e5.ex
          obtain ⟨dy, d', h3, h4⟩ := f5.ex
          refine ⟨k1, k2, dx, dy, _, _, rfl, rfl, h1, h3, k1, k2, p.2, p2.2, rfl, e5, f5, _, rfl, ?_⟩
          by_cases ce : ∀ n, lk p.2 n = lk p2.2 n
          · rw [eq_T' e4.ok f4.ok ce]
            exact ⟨false, rfl, ⟨⟨_, _, rfl⟩, s5, next fun _ => ce⟩⟩
          · rw [ne_T e4.ok f4.ok ce]
            refine ⟨true, rfl, ?_⟩
            rw [if_pos rfl]
            exact qu (fun z => ce (z p (mem_of_get e1) p2 (mem_of_get f1) c)) _ s5
        · rw [if_neg c]
          exact ⟨⟨_, _, rfl⟩, s5, next fun z => absurd z c⟩
      · obtain ⟨⟨y4, y5, rfl⟩, s5, al2⟩ := iv
        refine ⟨⟨_, _, _, _, rfl⟩, s5, fun p' hp' => ?_⟩
        rw [take_next e1] at hp'
        rcases List.mem_append.mp hp' with hp' | hp'
        · exact al p' hp'
        · rw [List.mem_singleton.mp hp']
          rw [hyl, List.take_length] at al2
          exact al2
    · obtain ⟨⟨y2, y3, y4, y5, rfl⟩, s3, al⟩ := iv
      rw [hxl, List.take_length] at al
      replace q := q al
      walk_at "ru"
      subst hK_
      first | with_reducible refine seq_k fun K_ hK_ => ?_ | skip
      walk_at "ru"
      have hm3 := s3 _ _ hm
      have hQ3 := hQ.same s3
      refine ⟨⟨_, sqL hm3⟩, fun D hD => ?_⟩
      refine lcL hD (sqL hm3) (fun i => (qs.take i).map fun p => V.int p.1) rfl (fun i x H4 hx p => ?_) (fun H4 s4 hD4 => ?_)
      · obtain ⟨p2, q2, k2, f1, rfl, f3, f4⟩ := (hQ3.same p.same).get hx
        refine ⟨q2, _, rfl, sqT f3, rfl, ?_⟩
        walk_at "ru"
        exact p.push hD (by simp; omega) (Same.refl _) (map_take_next _ f1)
      · rw [hyl, List.take_length] at hD4
        have s34 := s3.trans s4
        have hl4 := s34 _ _ hl
        have hP4 := hP.same s34
        walk_at "ru"
        subst hK_
        first | with_reducible refine seq_k fun K_ hK_ => ?_ | skip
        walk_at "ru"
        refine ⟨⟨_, sqL hl4⟩, fun D2 hD2 => ?_⟩
        refine lc_list (K := K) (a := l) (xs := xs) (iv_sd3 mg H4 D2 ps qs) ⟨same_upd hD2, [], upd_same, by simp [PlAt]⟩ (fun i H5 _ p => sqL (p.1 _ _ hl4)) (fun i x H5 hx pv => ?_) fun H5 pv => ?_
        · obtain ⟨s5, zs, hD5, hP5⟩ := pv
          obtain ⟨p, q1, k1, e1, rfl, e3, e4⟩ := (hP4.same s5).get hx
          have hft := filter_take_next (fun p : Int × Tb => decide (¬ p.1 ∈ qs.map (·.1))) e1
          walk_at "ru"
          refine ixT (j := 0) (sqT e3) rfl rfl ?_
          have hD5' : H5 D = some (.lst ((qs.map (·.1)).map V.int)) := by rw [s5 _ _ hD4, List.map_map]; rfl
          refine ⟨D, _, rfl, .inl (sqL hD5'), rfl, by simp [flatV], _, rfl, ?_⟩
          rw [if_pos rfl, inV_ints, ← decide_not]
          have hzl := hP5.len
          have hfl := filter_len ps (fun p : Int × Tb => decide (¬ p.1 ∈ qs.map (·.1))) i
          by_cases c : ¬ p.1 ∈ qs.map (·.1)
          · rw [if_pos (decide_eq_true c)]
            rw [if_pos (decide_eq_true c)] at hft
            refine ⟨zs, hD5, szl (by omega), Same.app s5 hD2, zs ++ [.ref q1], upd_same, ?_⟩
            rw [hft]
            exact (hP5.app (PlAt.one e3 e4)).but But.upd hD5
          · rw [if_neg (by simpa using c)]
            rw [if_neg (by simpa using c), List.append_nil] at hft
            exact ⟨s5, zs, hD5, by rw [hft]; exact hP5⟩
        · obtain ⟨s5, zs, hD5, hP5⟩ := pv
          rw [hxl, List.take_length] at hP5
          have hT5 := s5 _ _ hD4
          have s35 := s34.trans s5
          have nD2 : H D2 = none := s34.free hD2
          walk_at "ru"
          subst hK_
          first | with_reducible refine seq_k fun K_ hK_ => ?_ | skip
          walk_at "ru"
          refine ⟨_, .inl (sqL (s35 _ _ hm)), ?_⟩
          intro hv n_hv
          generalize hG_ : upd _ hv _ = H6
          obtain ⟨s6, hhv⟩ := newF n_hv hG_
          clear hG_
          walk_at "ru"
          subst hK_
          first | with_reducible refine seq_k fun K_ hK_ => ?_ | skip
          walk_at "ru"
          intro fo n_fo
          generalize hG_ : upd _ fo _ = H7
          obtain ⟨s7, hfo⟩ := newF n_fo hG_
          clear hG_
          have s67 := s6.trans s7
          have s07 := s35.trans s67
          have nhv : H hv = none := s35.free n_hv
          have nfo : H fo = none := (s35.trans s6).free n_fo
          have hne : hv ≠ fo := ne_of_none hhv n_fo
          walk_at "ru"
          subst hK_
          first | with_reducible refine seq_k fun K_ hK_ => ?_ | skip
          walk_at "ru"
          refine ⟨fun n σ H' => ∃ lf left have_ rs y2 y3 y10 y11 y12 y13, n = left.length ∧ σ = [some (.ref l), some (.ref m), y2, y3, y4, y5, some (.ref D), some (.ref lf), some (.ref hv), some (.ref fo), y10, y11, y12, y13, none] ∧ SdW mg H l m D lf hv fo ps qs left have_ rs H',
            ⟨_, D2, lackS ps qs, qs, [], _, _, _, _, _, _, rfl, rfl, ⟨s07, nD2, nhv, nfo, hne, ne_of_none hD5 n_hv, ne_of_none (s6 _ _ hD5) n_fo, .start, ⟨zs, s67 _ _ hD5, hP5.same s67⟩, ⟨ys, s7 _ _ hhv, hQ.same s07⟩, ⟨[], hfo, trivial⟩, ?_, rfl⟩⟩, ?_⟩
          · have := List.length_filter_le (fun p : Int × Tb => decide (¬ p.1 ∈ qs.map (·.1))) ps
            unfold lackS
            simp only [List.length_nil]
            omega
          · rintro n σ H8 ⟨lf, left, have_, rs, y2, y3, y10, y11, y12, y13, rfl, rfl, W⟩
            obtain ⟨us, hlf, hPl⟩ := W.lf_
            obtain ⟨vs, hhv8, hPh⟩ := W.hv_
            obtain ⟨ws, hfo8, hSt⟩ := W.fo_
            have hul := hPl.len
            walk_at "ru"
            intro e1 n_e1
            generalize hG_ : upd _ e1 _ = H9
            obtain ⟨s9, he1⟩ := newF n_e1 hG_
            clear hG_
            refine ⟨lf, e1, us, rfl, rfl, sqL (s9 _ _ hlf), sqL he1, ?_⟩
            refine ⟨_, rfl, ?_⟩
            have hlf9 := s9 _ _ hlf
            have hPl9 := hPl.same s9
            have hhv9 := s9 _ _ hhv8
            have hPh9 := hPh.same s9
            by_cases c : 0 < us.length
            · rw [if_pos (decide_eq_true c)]
              refine ⟨_, fun σ' H'' h => h, ?_⟩
              with_reducible refine seq_k fun K_ hK_ => ?_
              walk_at "ru"
              refine ⟨⟨_, sqL hlf9⟩, fun D3 hD3 => ?_⟩
              refine lcL hD3 (sqL hlf9) (fun i => (left.take i).map fun p => V.int (((bestB p.2 have_).1 : Nat) : Int)) rfl (fun i x HA hx p => ?_) (fun HA sA hD3A => ?_)
              · obtain ⟨pr, q1, k1, f1, rfl, f3, f4⟩ := (hPl9.same p.same).get hx
                refine ⟨q1, _, rfl, sqT f3, rfl, ?_⟩
                walk_at "ru"
                refine ⟨k1, hv, pr.2, vs, have_, rfl, f4, p.same _ _ hhv9, hPh9.same p.same, fun r HB sB hrB => ?_⟩
                refine ixT (j := 0) (sqT hrB) rfl rfl ?_
                have := W.len
                exact p.push hD3 (by simp; omega) sB (map_take_next _ f1)
              · rw [hul, List.take_length] at hD3A
                have s8A := s9.trans sA
                walk_at "ru"
                subst hK_
                first | with_reducible refine seq_k fun K_ hK_ => ?_ | skip
                walk_at "ru"
                have hD3B : HA D3 = some (.lst (((left.map fun p => (bestB p.2 have_).1).map fun n : Nat => (n : Int)).map V.int)) := by
                  rw [hD3A, List.map_map, List.map_map]
                  rfl
                refine ⟨tyL hD3B, D3, _, rfl, sqL hD3B, by simp; omega, fun mn hm1 hm2 => ?_⟩
                obtain ⟨av, ha, rfl⟩ := List.mem_map.mp hm1
                obtain ⟨j, hj1, hj2⟩ := first_at ha
                refine ⟨D3, _, .int (av : Nat), j, .int (av : Nat), rfl, rfl, sqL hD3B, rfl, by simp [flatV], by rw [List.getElem?_map, List.getElem?_map, hj1]; rfl, by simp [eqV], fun i z hi hz => ?_, ?_⟩
                · rw [List.getElem?_map, List.getElem?_map] at hz
                  cases ez : (left.map fun p => (bestB p.2 have_).1)[i]? with
                  | none => rw [ez] at hz; cases hz
                  | some z0 =>
                    rw [ez] at hz
                    cases hz
                    have := hj2 i z0 hi ez
                    simp [eqV]
                    omega
                · have hjl : j < us.length := by
                    have := lt_of_get hj1
                    rw [List.length_map] at this
                    omega
                  obtain ⟨pr, q1, k1, f1, f2, f3, f4⟩ := (hPl9.same sA).get (List.getElem?_eq_getElem hjl)
                  have hmin : (bestB pr.2 have_).1 = av := by
                    rw [List.getElem?_map, f1] at hj1
                    exact Option.some.inj hj1
                  have hlfA := sA _ _ hlf9
                  walk_at "ru"
                  subst hK_
                  first | with_reducible refine seq_k fun K_ hK_ => ?_ | skip
                  walk_at "ru"
                  refine ixL (j := j) (sqL hlfA) rfl (List.getElem?_eq_getElem hjl) ?_
                  rw [f2]
                  refine ⟨q1, _, rfl, sqT f3, rfl, ?_⟩
                  walk_at "ru"
                  subst hK_
                  first | with_reducible refine seq_k fun K_ hK_ => ?_ | skip
                  walk_at "ru"
                  refine ⟨k1, hv, pr.2, vs, have_, rfl, f4, sA _ _ hhv9, hPh9.same sA, fun r HB sB hrB => ?_⟩
                  refine ⟨r, _, rfl, sqT hrB, rfl, ?_⟩
                  have s8B := s8A.trans sB
                  have hfoB := s8B _ _ hfo8
                  have hws := hSt.len
                  have hWl := W.len
                  walk_at "ru"
                  subst hK_
                  first | with_reducible refine seq_k fun K_ hK_ => ?_ | skip
                  walk_at "ru"
                  refine ⟨tyL hfoB, ?_⟩
                  intro t1 n_t1
                  generalize hG_ : upd _ t1 _ = HC
                  obtain ⟨sC, ht1⟩ := newF n_t1 hG_
                  clear hG_
                  have s8C := s8B.trans sC
                  have hfoC := sC _ _ hfoB
                  refine appR hfoC (by omega) ?_
                  generalize hG : upd HC fo _ = HD
                  have bD : But fo HC HD := by rw [← hG]; exact But.upd
                  have hfoD : HD fo = some (.lst (ws ++ [.ref t1])) := by rw [← hG]; exact upd_same
                  clear hG
                  have tupD : ∀ z zs, HC z = some (.tup zs) → HD z = some (.tup zs) := fun z zs h => bD _ _ h (ne_of h hfoC (by intro z; cases z))
                  have hStD : SentAt HD (ws ++ [.ref t1]) (rs ++ [(pr.1, (bestB pr.2 have_).2, (bestB pr.2 have_).1)]) := ((hSt.same s8C).app (SentAt.one ht1)).tups tupD
                  have hhvD : HD hv = some (.lst vs) := bD _ _ (s8C _ _ hhv8) W.ne1
                  have hPhD := (hPh.same s8C).but bD hfoC
                  have f4D : StAt mg HD k1 pr.2 := ((f4.same sB).same sC).but bD hfoC
                  have hvl := hPh.len
                  have hWl2 := W.len2
                  walk_at "ru"
                  subst hK_
                  first | with_reducible refine seq_k fun K_ hK_ => ?_ | skip
                  walk_at "ru"
                  refine ⟨tyL hhvD, ?_⟩
                  intro t2 n_t2
                  generalize hG_ : upd _ t2 _ = HE
                  obtain ⟨sE, ht2⟩ := newF n_t2 hG_
                  clear hG_
                  have hhvE := sE _ _ hhvD
                  refine appR hhvE (by omega) ?_
                  generalize hG : upd HE hv _ = HF
                  have bF : But hv HE HF := by rw [← hG]; exact But.upd
                  have hhvF : HF hv = some (.lst (vs ++ [.ref t2])) := by rw [← hG]; exact upd_same
                  clear hG
                  have tupF : ∀ z zs, HE z = some (.tup zs) → HF z = some (.tup zs) := fun z zs h => bF _ _ h (ne_of h hhvE (by intro z; cases z))
                  have hPhF : PlAt mg HF (vs ++ [.ref t2]) (have_ ++ [pr]) := ((hPhD.same sE).app (PlAt.one ht2 (f4D.same sE))).but bF hhvE
                  have hfoF : HF fo = some (.lst (ws ++ [.ref t1])) := bF _ _ (sE _ _ hfoD) W.ne1.symm
                  have hStF := (hStD.same sE).tups tupF
                  have sHF : Same H HF := fun z o h => bF _ _ (sE _ _ (bD _ _ (s8C _ _ (W.same _ _ h)) (ne_of_none h W.nfo))) (ne_of_none h W.nhv)
                  have hlfF : HF lf = some (.lst us) := bF _ _ (sE _ _ (bD _ _ (s8C _ _ hlf) W.ne3)) W.ne2
                  have hPlF : PlAt mg HF us left := (((hPl.same s8C).but bD hfoC).same sE).but bF hhvE
                  walk_at "ru"
                  subst hK_
                  first | with_reducible refine seq_k fun K_ hK_ => ?_ | skip
                  walk_at "ru"
                  refine ⟨lf, _, rfl, sqL hlfF, ?_⟩
                  intro c1 n_c1
                  generalize hG_ : upd _ c1 _ = HG
                  obtain ⟨sG, hc1⟩ := newF n_c1 hG_
                  clear hG_
                  rw [cut_to] at hc1
                  refine ⟨lf, _, rfl, sqL (sG _ _ hlfF), ?_⟩
                  intro c2 n_c2
                  generalize hG_ : upd _ c2 _ = HI
                  obtain ⟨sI, hc2⟩ := newF n_c2 hG_
                  clear hG_
                  rw [show ((j : Int) + 1) = ((j + 1 : Nat) : Int) by omega, cut_from] at hc2
                  refine ⟨c1, c2, _, _, rfl, rfl, sI _ _ hc1, hc2, sz (by rw [List.length_take, List.length_drop]; omega), ?_⟩
                  intro c3 n_c3
                  generalize hG_ : upd _ c3 _ = HJ
                  obtain ⟨sJ, hc3⟩ := newF n_c3 hG_
                  clear hG_
                  have sFJ := (sG.trans sI).trans sJ
                  have sHJ := sHF.trans sFJ
                  have n3 : H c3 = none := (sHF.trans (sG.trans sI)).free n_c3
                  have hjleft : j < left.length := lt_of_get f1
                  refine ⟨(left.eraseIdx j).length, by rw [List.length_eraseIdx, if_pos hjleft]; omega, ?_⟩
                  refine ⟨c3, left.eraseIdx j, rfl, rfl, have_ ++ [pr], rs ++ [(pr.1, (bestB pr.2 have_).2, (bestB pr.2 have_).1)], ?_⟩
                  refine ⟨sHJ, n3, W.nhv, W.nfo, W.ne1, (ne_of_none ((sG.trans sI) _ _ hhvF) n_c3).symm, (ne_of_none ((sG.trans sI) _ _ hfoF) n_c3).symm, .next W.run f1 (fun q hq => ?_), ⟨_, hc3, (hPlF.same sFJ).erase j⟩, ⟨_, sFJ _ _ hhvF, hPhF.same sFJ⟩, ⟨_, sFJ _ _ hfoF, hStF.same sFJ⟩, ?_, ?_⟩
                  · rw [hmin]
                    have := hm2 (((bestB q.2 have_).1 : Nat) : Int) (List.mem_map.mpr ⟨_, List.mem_map.mpr ⟨q, hq, rfl⟩, rfl⟩)
                    omega
                  · rw [List.length_eraseIdx, if_pos hjleft, List.length_append]
                    simp only [List.length_cons, List.length_nil]
                    omega
                  · rw [List.length_append, List.length_append]
                    simp only [List.length_cons, List.length_nil]
                    omega
            · have hus : us = [] := by cases us with
                | nil => rfl
                | cons a r => simp at c
              have hle : left = [] := by
                cases left with
                | nil => rfl
                | cons a r => rw [hus] at hul; simp at hul
              rw [if_neg (by simpa using c)]
              walk_at "ru"
              subst hK_
              first | with_reducible refine seq_k fun K_ hK_ => ?_ | skip
              walk_at "ru"
              exact q fo ws rs have_ H9 (W.same.trans s9) W.nfo (s9 _ _ hfo8) (hSt.same s9) (hle ▸ W.run)
end
end Nk
namespace Nk
open PySem L2
section
variable {P : Program} {w : World} {K : PySem.W.Frag} {mg : Str → Option Value} {base : Heap}
theorem PlAt.itm {H : Hp} {t : Addr} {l : List V} (ht : H t = some (.lst l)) : ∀ {xs : List V} {ps : Pl}, PlAt mg H xs ps → ∀ y ∈ xs, Itm K mg t H y
  | x :: xs, p :: ps, ⟨⟨q, k, e, hq, hk⟩, r⟩, y, hy => by
    rcases List.mem_cons.mp hy with z | z
    · subst z
      subst e
      refine ⟨ThN.tup hq (ne_of hq ht (by intro z; cases z)), fun a ys e ha => ?_⟩
      cases e
      rw [hq] at ha
      cases ha
      refine ⟨by simp, fun y hy => ?_⟩
      simp only [List.mem_cons, List.not_mem_nil, or_false] at hy
      rcases hy with rfl | rfl
      · exact .inl ⟨⟨_, .int _⟩, fun z => nomatch z⟩
      · exact .inr ⟨k, p.2, rfl, hk⟩
    · exact PlAt.itm ht r y z
theorem itm_tup {H : Hp} {t a : Addr} {xs : List V} (h : H a = some (.tup xs)) (hz : xs.length ≤ 1000) (hne : a ≠ t) (hc : ∀ y ∈ xs, Cmp K mg t H y) : Itm K mg t H (.ref a) :=
  ⟨ThN.tup h hne, fun a' ys e ha => by
    cases e
    rw [h] at ha
    cases ha
    exact ⟨hz, hc⟩⟩
theorem itm_lst {H : Hp} {t a : Addr} {xs : List V} (h : H a = some (.lst xs)) (hne : a ≠ t) : Itm K mg t H (.ref a) :=
  ⟨ThN.lst h hne, fun a' ys e ha => by
    cases e
    rw [h] at ha
    cases ha⟩
theorem plc_lst {H : Hp} {t l : Addr} {xs : List V} (h : H l = some (.lst xs)) (hz : xs.length ≤ 1000) (hne : l ≠ t) (hi : ∀ y ∈ xs, Itm K mg t H y) : Plc K mg t H (.ref l) :=
  ⟨ThN.lst h hne, fun a' ys e ha => by
    cases e
    rw [h] at ha
    cases ha
    exact ⟨hz, hi⟩⟩
theorem plc_tup {H : Hp} {t l : Addr} {xs : List V} (h : H l = some (.tup xs)) (hne : l ≠ t) : Plc K mg t H (.ref l) :=
  ⟨ThN.tup h hne, fun a' ys e ha => by
    cases e
    rw [h] at ha
    cases ha⟩
theorem plc_dic {H : Hp} {t l : Addr} {xs : List (Key × V)} (h : H l = some (.dK xs)) (hne : l ≠ t) : Plc K mg t H (.ref l) :=
  ⟨⟨⟨_, .dic h⟩, fun e => hne (V.ref.inj e)⟩, fun a' ys e ha => by
    cases e
    rw [h] at ha
    cases ha⟩
abbrev nm__law_place : List Str := ["script", "town", "found", "at", "k"]
abbrev pm__law_place : List Str := ["script", "town"]
abbrev lv__law_place : Nat := 5
theorem sc__law_place : FnScope nm__law_place pm__law_place (defScope s__law_place) := ⟨rfl, rfl, rfl, by decide +kernel, rfl, by decide +kernel, by decide +kernel⟩
def sp__law_place (K : PySem.W.Frag) (mg : Str → Option Value) : Sp := fun vs H Q _ => ∃ (a t : Addr) (ns : List Int) (c : Nat), vs = [.ref a, .ref t] ∧ Tn K H a t ns c ∧ c < 700000000 ∧
  ∀ (L : Addr) (xs : List V) (ps : Pl) (c' : Nat) (H' : Hp), H L = none → L ≠ t → H' L = some (.lst xs) → PlAt mg H' xs ps → xs.length ≤ 9 → c' ≤ c + 10000 → Tn K H' a t ns c' → But t H H' → Q (.ref L) H'
def iv__law_place (K : PySem.W.Frag) (mg : Str → Option Value) (H0 : Hp) (a t L : Addr) (ns : List Int) (c0 : Nat) (i : Nat) (σ : L2.St) (H : Hp) : Prop :=
  ∃ at_ y4 c xs ps, σ = [some (.ref a), some (.ref t), some (.ref L), some (.int at_), y4] ∧ c ≤ c0 + 400 * i ∧ xs.length = i ∧ Tn K H a t ns c ∧ H L = some (.lst xs) ∧ PlAt mg H xs ps ∧ But t H0 H
theorem f__law_place (T : Txt K mg) : Fk P w K mg base CX0 lv__law_place "_law_place" pm__law_place (sp__law_place K mg) := by
  obtain ⟨f, fd, F, g, b⟩ := T.d__law_place.ex
  refine ⟨f, fd, g, F.kp, b, F.ok sc__law_place (fun vs H Q E h => ?_) (fun cdv A outer s H vs Q E hr h => ?_)⟩
  · obtain ⟨a, t, ns, c, rfl, _⟩ := h; rfl
  · obtain ⟨a, t, ns, c, rfl, hT, hc, q⟩ := h
    refine ⟨_, (pss_cons (ps_set (i := 2) sc__law_place.nd rfl (.inl rfl) (pe_lst pa_nil))
      (pss_cons (ps_set (i := 3) sc__law_place.nd rfl (.inl rfl) (pe_fn (f__law_draw T) (hr.mono (by decide)) (by rfl) pass0 (pa_cons (pv 0) (pa_cons (pv 1) (pa_cons pe_int pa_nil)))))
      (pss_cons (ps_for PassesOwn.never rfl (pi_range1 (by rfl) T.b_range (pa_cons (pe_fn (f__law_pick T) (hr.mono (by decide)) (by rfl) pass0 (pa_cons (pv 0) (pa_cons (pv 1) (pa_cons (pe_lst (pa_cons pe_int (pa_cons pe_int (pa_cons pe_int (pa_cons pe_int (pa_cons pe_int pa_nil)))))) pa_nil)))) pa_nil)) (pg_name (i := 4) sc__law_place.nd rfl (Or.inl rfl)) (pss_cons (ps_expr (pe_bm PySem.F.plainAttrs_list PySem.F.slot_list_append PySem.F.type_list_append mt_append (pv 2) (pa_cons (pe_tup (pa_cons (pv 3) (pa_cons (pe_new T.o_State (f_State____init__ T) (hr.mono (by decide)) (by rfl) pass0 (pa_cons (pe_fn (f__law_table T) (hr.mono (by decide)) (by rfl) pass0 (pa_cons (pv 0) (pa_cons (pv 1) (pa_cons pe_int pa_nil)))) pa_nil)) pa_nil))) pa_nil)))
      (pss_one (ps_set (i := 3) sc__law_place.nd rfl (.inl rfl) (pe_op op_add (pe_op op_add (pv 3) pe_int) (pe_fn (f__law_draw T) (hr.mono (by decide)) (by rfl) pass0 (pa_cons (pv 0) (pa_cons (pv 1) (pa_cons pe_int pa_nil)))))))))
      (pss_one (ps_ret (pv 2)))))), ?_⟩
    with_reducible refine seq_k fun K_ hK_ => ?_
    walk_at "ru"
    intro L n_L
    generalize hG_ : upd _ L _ = H1
    obtain ⟨s1, hL⟩ := newF n_L hG_
    clear hG_
    have hLt : L ≠ t := hT.some_ n_L
    have T1 := hT.same s1
    walk_at "ru"
    subst hK_
    first | with_reducible refine seq_k fun K_ hK_ => ?_ | skip
    walk_at "ru"
    refine ⟨a, t, ns, c, 3, rfl, T1, by omega, by omega, by omega, fun at0 H2 _ _ T2 b2 => ?_⟩
    walk_at "ru"
    subst hK_
    first | with_reducible refine seq_k fun K_ hK_ => ?_ | skip
    walk_at "ru"
    refine pickI [0, 1, 3, 8, 9] T2 (by omega) fun m hm H3 T3 b3 => ?_
    have hm' : 0 ≤ m ∧ m ≤ 9 := by simp at hm; omega
    have b13 := b2.trans b3
    walk_at "ru"
    refine ⟨by omega, by omega, ?_⟩
    refine for_it walk_range (iv__law_place K mg H a t L ns (c + 2)) ⟨at0, _, c + 2, [], [], rfl, by omega, rfl, T3, b13 _ _ hL hLt, trivial, Same.thenB s1 b13⟩ (fun _ _ _ _ _ => trivial) (fun i x σ H6 H7 hi iv hy => ?_) (fun σ H6 iv => ?_)
    · obtain ⟨at_, y4, c', xs, ps, rfl, hc', hxl, T6, hL6, hP6, b6⟩ := iv
      obtain ⟨rfl, rfl⟩ := hy
      have hi' : i < 9 := by omega
      walk_at "ru"
      with_reducible refine seq_k fun K_ hK_ => ?_
      walk_at "ru"
      refine ⟨tyL hL6, ?_⟩
      refine ⟨a, t, ns, c', 2, rfl, T6, by omega, by omega, by omega, fun d tb c7 H7 nd hdt hd ok l2 hc7 T7 b7 => ?_⟩
      obtain ⟨z6, hz6⟩ := T6.lst
      walk_at "ru"
      refine state_new hd ok (by omega) fun k H8 s8 nk hS => ?_
      have T8 := T7.same s8
      have hL8 := s8 _ _ (b7 _ _ hL6 hLt)
      have hP8 := (hP6.but b7 hz6).same s8
      intro p n_p
      generalize hG_ : upd _ p _ = H9
      obtain ⟨s9, hp⟩ := newF n_p hG_
      clear hG_
      have hL9 := s9 _ _ hL8
      refine appR hL9 (by omega) ?_
      generalize hG : upd H9 L _ = HA
      have bA : But L H9 HA := by rw [← hG]; exact But.upd
      have hLA : HA L = some (.lst (xs ++ [.ref p])) := by rw [← hG]; exact upd_same
      have b69 := (b7.thenS s8).thenS s9
      have nL : H L = none := n_L
      have TA : Tn K HA a t ns c7 := by rw [← hG]; exact (T8.same s9).app hT n_L hLt
      have bB : But t H HA := by rw [← hG]; exact (b6.trans b69).app n_L
      clear hG
      have hPA : PlAt mg HA (xs ++ [.ref p]) (ps ++ [(at_, tb)]) := ((hP8.same s9).app (PlAt.one (p := (at_, tb)) hp (hS.same s9))).but bA hL9
      walk_at "ru"
      subst hK_
      first | with_reducible refine seq_k fun K_ hK_ => ?_ | skip
      walk_at "ru"
      refine ⟨a, t, ns, c7, 2, rfl, TA, by omega, by omega, by omega, fun n HB _ _ TB bBB => ?_⟩
      obtain ⟨zA, hzA⟩ := TA.lst
      walk_at "ru"
      exact ⟨_, _, c7 + 1, xs ++ [.ref p], ps ++ [(at_, tb)], rfl, by omega, by simp [hxl], TB, bBB _ _ hLA hLt, hPA.but bBB hzA, bB.trans bBB⟩
    · obtain ⟨at_, y4, c', xs, ps, rfl, hc', hxl, T6, hL6, hP6, b6⟩ := iv
      walk_at "ru"
      subst hK_
      first | with_reducible refine seq_k fun K_ hK_ => ?_ | skip
      walk_at "ru"
      exact q L xs ps c' H6 n_L hLt hL6 hP6 (by omega) (by omega) T6 b6
abbrev nm__law_spoilt : List Str := ["script", "town", "some", "way", "at", "night", "state", "ahead", "odd", "others"]
abbrev pm__law_spoilt : List Str := ["script", "town", "some"]
abbrev lv__law_spoilt : Nat := 5
theorem sc__law_spoilt : FnScope nm__law_spoilt pm__law_spoilt (defScope s__law_spoilt) := ⟨rfl, rfl, rfl, by decide +kernel, rfl, by decide +kernel, by decide +kernel⟩
def sp__law_spoilt (K : PySem.W.Frag) (mg : Str → Option Value) : Sp := fun vs H Q _ => ∃ (a t l : Addr) (ns : List Int) (c : Nat) (xs : List V) (ps : Pl), vs = [.ref a, .ref t, .ref l] ∧ Tn K H a t ns c ∧ c < 700000000 ∧ H l = some (.lst xs) ∧ l ≠ t ∧ PlAt mg H xs ps ∧ xs.length ≤ 9 ∧
  ∀ (v : V) (c' : Nat) (H' : Hp), c' ≤ c + 10 → Tn K H' a t ns c' → But t H H' → Plc K mg t H' v → Q v H'
theorem f__law_spoilt (T : Txt K mg) : Fk P w K mg base CX0 lv__law_spoilt "_law_spoilt" pm__law_spoilt (sp__law_spoilt K mg) := by
  obtain ⟨f, fd, F, g, b⟩ := T.d__law_spoilt.ex
  refine ⟨f, fd, g, F.kp, b, F.ok sc__law_spoilt (fun vs H Q E h => ?_) (fun cdv A outer s H vs Q E hr h => ?_)⟩
  · obtain ⟨a, t, l, ns, c, xs, ps, rfl, _⟩ := h; rfl
  · obtain ⟨a, t, l, ns, c, xs, ps, rfl, hT, hc, hl, hlt, hP, hx9, q⟩ := h
    refine ⟨_, (pss_cons (ps_set (i := 3) sc__law_spoilt.nd rfl (.inl rfl) (pe_fn (f__law_draw T) (hr.mono (by decide)) (by rfl) pass0 (pa_cons (pv 0) (pa_cons (pv 1) (pa_cons pe_int pa_nil)))))
      (pss_cons (ps_set (i := 4) sc__law_spoilt.nd rfl (.inl rfl) (pe_fn (f__law_draw T) (hr.mono (by decide)) (by rfl) pass0 (pa_cons (pv 0) (pa_cons (pv 1) (pa_cons (pe_op op_add (pe_callB call_len_seq (by rfl) T.b_len PySem.boot_len (pa_cons (pv 2) pa_nil)) pe_int) pa_nil)))))
      (pss_cons (ps_asg (pe_ifExp (pt_cmpR op_lt (pv 4) (pe_callB call_len_seq (by rfl) T.b_len PySem.boot_len (pa_cons (pv 2) pa_nil)) (nomark _)) (pe_ix ix_list (pv 2) (pv 4) (fun _ _ => rfl)) (pe_tup (pa_cons pe_int (pa_cons (pe_new T.o_State (f_State____init__ T) (hr.mono (by decide)) (by rfl) pass0 (pa_cons pe_dnewK pa_nil)) pa_nil)))) (pg_tup rfl (pgs_cons (pg_name (i := 5) sc__law_spoilt.nd rfl (Or.inl rfl)) (pgs_cons (pg_name (i := 6) sc__law_spoilt.nd rfl (Or.inl rfl)) pgs_nil))))
      (pss_cons (ps_set (i := 7) sc__law_spoilt.nd rfl (.inl rfl) (pe_ifExp (pt_cmpR op_gt (pv 4) pe_int (nomark _)) (pe_ix ix_tup (pe_ix ix_list (pv 2) (pe_op op_sub (pv 4) pe_int) (fun _ _ => rfl)) pe_int (fun _ _ => rfl)) pe_int))
      (pss_cons (ps_set (i := 8) sc__law_spoilt.nd rfl (.inl rfl) (pe_fn (f__law_pick T) (hr.mono (by decide)) (by rfl) pass0 (pa_cons (pv 0) (pa_cons (pv 1) (pa_cons (pe_op op_cat (pe_lst (pa_cons pe_non (pa_cons pe_bl (pa_cons pe_bl (pa_cons (pe_un un_neg pe_int) (pa_cons (pe_op op_pow pe_int pe_int) (pa_cons (pe_op op_add (pe_op op_pow pe_int pe_int) pe_int) (pa_cons pe_str (pa_cons (pe_tup (pa_cons (pv 5) pa_nil)) pa_nil))))))))) (pe_op op_rep (pe_lst (pa_cons (pv 7) pa_nil)) pe_int)) pa_nil)))))
      (pss_cons (ps_if (pt_cmpR op_eq (pv 3) pe_int (nomark _)) (pss_one (ps_ret (pe_op op_cat (pe_op op_cat (pe_slice sl_list (pv 2) po_none (po_some (pv 4))) (pe_lst (pa_cons (pe_tup (pa_cons (pv 8) (pa_cons (pv 6) pa_nil))) pa_nil))) (pe_slice sl_list (pv 2) (po_some (pe_op op_add (pv 4) pe_int)) po_none)))) pss_nil)
      (pss_cons (ps_if (pt_cmpR op_eq (pv 3) pe_int (nomark _)) (pss_cons (ps_set (i := 9) sc__law_spoilt.nd rfl (.inl rfl) (pe_lst (pa_cons pe_non (pa_cons (pe_lst (pa_cons (pv 5) (pa_cons (pv 6) pa_nil))) (pa_cons (pe_tup (pa_cons (pv 5) pa_nil)) (pa_cons (pe_tup (pa_cons (pv 6) (pa_cons (pv 5) pa_nil))) (pa_cons (pe_tup (pa_cons (pv 5) (pa_cons (pv 6) (pa_cons pe_int pa_nil)))) pa_nil)))))))
      (pss_one (ps_ret (pe_op op_cat (pe_slice sl_list (pv 2) po_none (po_some (pv 4))) (pe_lst (pa_cons (pe_fn (f__law_pick T) (hr.mono (by decide)) (by rfl) pass0 (pa_cons (pv 0) (pa_cons (pv 1) (pa_cons (pv 9) pa_nil)))) pa_nil)))))) pss_nil)
      (pss_cons (ps_if (pt_cmpR op_eq (pv 3) pe_int (nomark _)) (pss_one (ps_ret (pe_op op_cat (pe_slice sl_list (pv 2) po_none (po_some (pv 4))) (pe_lst (pa_cons (pe_tup (pa_cons (pv 5) (pa_cons (pe_fn (f__law_pick T) (hr.mono (by decide)) (by rfl) pass0 (pa_cons (pv 0) (pa_cons (pv 1) (pa_cons (pe_lst (pa_cons pe_non (pa_cons pe_dnewK (pa_cons pe_str (pa_cons (pe_disp (pps_cons pe_str pe_int pps_nil) (by rfl) (by rfl) (fun z => by cases z) (by decide)) (pa_cons pe_int pa_nil)))))) pa_nil)))) pa_nil))) pa_nil))))) pss_nil)
      (pss_cons (ps_if (pt_cmpR op_eq (pv 3) pe_int (nomark _)) (pss_one (ps_ret (pe_fn (f__law_pick T) (hr.mono (by decide)) (by rfl) pass0 (pa_cons (pv 0) (pa_cons (pv 1) (pa_cons (pe_lst (pa_cons pe_non (pa_cons (pe_callTy call_tuple_of (by rfl) T.b_tuple (by decide +kernel) (pa_cons (pv 2) pa_nil)) (pa_cons (pe_callTy (call_dictP rfl) (by rfl) T.b_dict (by decide +kernel) (pa_cons (pe_lst (pa_cons (pe_tup (pa_cons pe_int (pa_cons pe_int pa_nil))) pa_nil)) pa_nil)) (pa_cons pe_int (pa_cons pe_str (pa_cons (pe_revL (pv 2)) pa_nil))))))) pa_nil)))))) pss_nil)
      (pss_one (ps_ret (pv 2)))))))))))), ?_⟩
    with_reducible refine seq_k fun K_ hK_ => ?_
    walk_at "ru"
    refine ⟨a, t, ns, c, 7, rfl, hT, by omega, by omega, by omega, fun way H1 _ _ T1 b1 => ?_⟩
    have hl1 := b1 _ _ hl hlt
    walk_at "ru"
    subst hK_
    first | with_reducible refine seq_k fun K_ hK_ => ?_ | skip
    walk_at "ru"
    refine ⟨_, .inl (sqL hl1), ?_⟩
    refine ⟨a, t, ns, _, _, rfl, T1, by omega, by omega, by omega, fun at_ H2 a0 a1 T2 b2 => ?_⟩
    obtain ⟨j, rfl⟩ : ∃ j : Nat, at_ = j := ⟨at_.toNat, by omega⟩
    have hl2 := b2 _ _ hl1 hlt
    obtain ⟨z0, hz0⟩ := hT.lst
    obtain ⟨z1, hz1⟩ := T1.lst
    have hP2 := (hP.but b1 hz0).but b2 hz1
    have b02 := b1.trans b2
    have hxl := hP.len
    walk_at "ru"
    subst hK_
    first | with_reducible refine seq_k fun K_ hK_ => ?_ | skip
    walk_at "ru"
    refine ⟨_, .inl (sqL hl2), ?_⟩
    /- whichever night and state -/
    suffices go : ∀ (night : Int) (k : Addr) (tb : Tb) (H3 : Hp), Same H2 H3 → StAt mg H3 k tb → K_ [some (.ref a), some (.ref t), some (.ref l), some (.int way), some (.int (j : Nat)), some (.int night), some (.ref k), none, none, none] H3 by
      by_cases cj : j < xs.length
      · rw [if_pos (by omega)]
        obtain ⟨p, q1, k1, e1, e2, e3, e4⟩ := hP2.get (List.getElem?_eq_getElem cj)
        refine ixL (j := j) (sqL hl2) rfl (List.getElem?_eq_getElem cj) ?_
        rw [e2]
        refine ⟨q1, _, rfl, sqT e3, rfl, ?_⟩
        walk_at "ru"
        exact go _ _ _ _ (Same.refl _) e4
      · rw [if_neg (by omega)]
        intro d n_d
        generalize hG_ : upd _ d _ = H3
        obtain ⟨s3, hd⟩ := newF n_d hG_
        clear hG_
        refine state_new (t := []) hd OkT.nil (by simp) fun k H4 s4 nk hS => ?_
        intro p1 n_p1
        generalize hG_ : upd _ p1 _ = H5
        obtain ⟨s5, hp1⟩ := newF n_p1 hG_
        clear hG_
        refine ⟨p1, _, rfl, sqT hp1, rfl, ?_⟩
        walk_at "ru"
        exact go _ _ _ _ ((s3.trans s4).trans s5) (hS.same s5)
    subst hK_
    intro night k tb H3 s3 hS3
    have hl3' := s3 _ _ hl2
    have T3 := T2.same s3
    have hP3 := hP2.same s3
    have b03 := b02.thenS s3
    with_reducible refine seq_k fun K_ hK_ => ?_
    walk_at "ru"
    suffices go2 : ∀ (ahead : Int), K_ [some (.ref a), some (.ref t), some (.ref l), some (.int way), some (.int (j : Nat)), some (.int night), some (.ref k), some (.int ahead), none, none] H3 by
      by_cases cj : 0 < j
      · rw [if_pos (by omega)]
        have cj' : j - 1 < xs.length := by omega
        obtain ⟨p, q1, k1, e1, e2, e3, e4⟩ := hP3.get (List.getElem?_eq_getElem cj')
        refine ixL (j := j - 1) (sqL hl3') (by omega) (List.getElem?_eq_getElem cj') ?_
        rw [e2]
        exact ixT (j := 0) (sqT e3) rfl rfl (go2 _)
      · rw [if_neg (by omega)]
        exact go2 0
    subst hK_
    intro ahead
    with_reducible refine seq_k fun K_ hK_ => ?_
    walk_at "ru"
    refine ⟨⟨by decide, by decide, by decide⟩, ⟨by decide, by decide, by decide⟩, ?_⟩
    intro tp n_tp
    generalize hG_ : upd _ tp _ = H4
    obtain ⟨s4, htp⟩ := newF n_tp hG_
    clear hG_
    intro l1 n_l1
    generalize hG_ : upd _ l1 _ = H5
    obtain ⟨s5, hl1⟩ := newF n_l1 hG_
    clear hG_
    intro l2 n_l2
    generalize hG_ : upd _ l2 _ = H6
    obtain ⟨s6, hl2⟩ := newF n_l2 hG_
    clear hG_
    refine ⟨l2, 4, _, rfl, rfl, hl2, by decide, by decide, by show 1 * 4 ≤ sizeLine; decide, ?_⟩
    intro l3 n_l3
    generalize hG_ : upd _ l3 _ = H7
    obtain ⟨s7, hl3⟩ := newF n_l3 hG_
    clear hG_
    refine ⟨l1, l3, _, _, rfl, rfl, (s6.trans s7) _ _ hl1, hl3, by show 12 ≤ sizeLine; decide, ?_⟩
    intro l4 n_l4
    generalize hG_ : upd _ l4 _ = H8
    obtain ⟨s8, hl4⟩ := newF n_l4 hG_
    clear hG_
    have s38 := ((s4.trans s5).trans (s6.trans s7)).trans s8
    have s48 := ((s5.trans s6).trans s7).trans s8
    have T8 := T3.same s38
    have nl4 : l4 ≠ t := (T3.same ((s4.trans s5).trans (s6.trans s7))).some_ n_l4
    have ntp : tp ≠ t := T3.some_ n_tp
    refine ⟨a, t, l4, ns, _, _, rfl, T8, by omega, hl4, nl4, by show 0 < 12; decide, by show 12 ≤ 100000; decide, fun v H9 hv T9 b9 => ?_⟩
    obtain ⟨z8, hz8⟩ := T8.lst
    have hl9 := b9 _ _ (s38 _ _ hl3') hlt
    have hP9 := (hP3.same s38).but b9 hz8
    have hS9 : StAt mg H9 k tb := (hS3.same s38).but b9 hz8
    have b09 := (b03.thenS s38).trans b9
    have htp9 := b9 _ _ (s48 _ _ htp) ntp
    have hodd : Cmp K mg t H9 v := by
      simp only [List.cons_append, List.nil_append, List.replicate, Int.toNat, List.flatten_cons, List.flatten_nil, List.append_nil, List.mem_cons, List.not_mem_nil, or_false] at hv
      rcases hv with rfl | rfl | rfl | rfl | rfl | rfl | rfl | rfl | rfl | rfl | rfl | rfl
      · exact .inl ⟨⟨_, .non⟩, fun z => nomatch z⟩
      · exact .inl ⟨⟨_, .bl _⟩, fun z => nomatch z⟩
      · exact .inl ⟨⟨_, .bl _⟩, fun z => nomatch z⟩
      · exact .inl ⟨⟨_, .int _⟩, fun z => nomatch z⟩
      · exact .inl ⟨⟨_, .int _⟩, fun z => nomatch z⟩
      · exact .inl ⟨⟨_, .int _⟩, fun z => nomatch z⟩
      · exact .inl ⟨⟨_, .str _⟩, fun z => nomatch z⟩
      · exact .inl (ThN.tup htp9 ntp)
      all_goals exact .inl ⟨⟨_, .int _⟩, fun z => nomatch z⟩
    obtain ⟨z9, hz9⟩ := T9.lst
    have hIt9 : ∀ y ∈ xs, Itm K mg t H9 y := PlAt.itm hz9 hP9
    clear hv hl3 hl4 htp9 htp s38 s48 s4 s5 s6 s7 s8 b9 T8 nl4 ntp n_tp n_l1 n_l2 n_l3 n_l4 hP3 hl3' T3 hP2 hl2 T2 b02 b03 hS3 s3 hz8 hz1 hz0 b1 b2 T1 hl1
    have fin : ∀ (L : Addr) (ys : List V) (H' : Hp) (c' : Nat), c' ≤ c + 10 → But t H H' → Tn K H' a t ns c' → H' L = some (.lst ys) → L ≠ t → ys.length ≤ 1000 → (∀ y ∈ ys, Itm K mg t H' y) → Q (.ref L) H' := fun L ys H' c' h0 h1 h2 h3 h4 h5 h6 => q _ c' H' h0 h2 h1 (plc_lst h3 h5 h4 h6)
    have cmpS : ∀ {H' : Hp}, Same H9 H' → Cmp K mg t H' (.ref k) := fun s => .inr ⟨k, tb, rfl, hS9.same s⟩
    have cmpO : ∀ {H' : Hp}, Same H9 H' → Cmp K mg t H' v := fun s => hodd.fr (Fb.of s)
    have cmpI : ∀ {H' : Hp} (i : Int), Cmp K mg t H' (.int i) := fun i => .inl ⟨⟨_, .int i⟩, fun z => nomatch z⟩
    have itX : ∀ {H' : Hp}, Same H9 H' → ∀ y ∈ xs, Itm K mg t H' y := fun s y hy => (hIt9 y hy).fr (Fb.of s)
    walk_at "ru"
    subst hK_
    first | with_reducible refine seq_k fun K_ hK_ => ?_ | skip
    walk_at "ru"
    refine ite2 (fun c0 => ?_) (fun c0 => ?_)
    · refine ⟨l, _, rfl, sqL hl9, ?_⟩
      intro c1 n_c1
      generalize hG_ : upd _ c1 _ = J1
      obtain ⟨u1, hc1⟩ := newF n_c1 hG_
      clear hG_
      rw [cut_to] at hc1
      intro p1 n_p1
      generalize hG_ : upd _ p1 _ = J2
      obtain ⟨u2, hp1⟩ := newF n_p1 hG_
      clear hG_
      have np1 : p1 ≠ t := (T9.same u1).some_ n_p1
      intro c2 n_c2
      generalize hG_ : upd _ c2 _ = J3
      obtain ⟨u3, hc2⟩ := newF n_c2 hG_
      clear hG_
      have u13 := u2.trans u3
      refine ⟨c1, c2, _, _, rfl, rfl, u13 _ _ hc1, hc2, sz (by simp; omega), ?_⟩
      intro c3 n_c3
      generalize hG_ : upd _ c3 _ = J4
      obtain ⟨u4, hc3⟩ := newF n_c3 hG_
      clear hG_
      have u93 := u1.trans u13
      refine ⟨l, _, rfl, sqL ((u93.trans u4) _ _ hl9), ?_⟩
      intro c4 n_c4
      generalize hG_ : upd _ c4 _ = J5
      obtain ⟨u5, hc4⟩ := newF n_c4 hG_
      clear hG_
      rw [show ((j : Int) + 1) = ((j + 1 : Nat) : Int) by omega, cut_from] at hc4
      refine ⟨c3, c4, _, _, rfl, rfl, u5 _ _ hc3, hc4, sz (by simp; omega), ?_⟩
      intro c5 n_c5
      generalize hG_ : upd _ c5 _ = J6
      obtain ⟨u6, hc5⟩ := newF n_c5 hG_
      clear hG_
      have u95 := (u93.trans u4).trans u5
      have u96 := u95.trans u6
      refine fin c5 _ J6 _ (by omega) (b09.thenS u96) (T9.same u96) hc5 ((T9.same u95).some_ n_c5) (by simp; omega) fun y hy => ?_
      rcases List.mem_append.mp hy with hy | hy
      · rcases List.mem_append.mp hy with hy | hy
        · exact itX u96 y (List.mem_of_mem_take hy)
        · rw [List.mem_singleton.mp hy]
          refine itm_tup ((((u3.trans u4).trans u5).trans u6) _ _ hp1) (by simp) np1 fun y hy => ?_
          simp only [List.mem_cons, List.not_mem_nil, or_false] at hy
          rcases hy with rfl | rfl
          · exact cmpO u96
          · exact cmpS u96
      · exact itX u96 y (List.mem_of_mem_drop hy)
    walk_at "ru"
    subst hK_
    first | with_reducible refine seq_k fun K_ hK_ => ?_ | skip
    walk_at "ru"
    refine ite2 (fun c1 => ?_) (fun c1 => ?_)
    · with_reducible refine seq_k fun K_ hK_ => ?_
      walk_at "ru"
      intro w0 n_w0
      generalize hG_ : upd _ w0 _ = J1
      obtain ⟨u1, hw0⟩ := newF n_w0 hG_
      clear hG_
      intro w1 n_w1
      generalize hG_ : upd _ w1 _ = J2
      obtain ⟨u2, hw1⟩ := newF n_w1 hG_
      clear hG_
      intro w2 n_w2
      generalize hG_ : upd _ w2 _ = J3
      obtain ⟨u3, hw2⟩ := newF n_w2 hG_
      clear hG_
      intro w3 n_w3
      generalize hG_ : upd _ w3 _ = J4
      obtain ⟨u4, hw3⟩ := newF n_w3 hG_
      clear hG_
      intro w4 n_w4
      generalize hG_ : upd _ w4 _ = J5
      obtain ⟨u5, hw4⟩ := newF n_w4 hG_
      clear hG_
      have m0 := T9.some_ n_w0
      have m1 := (T9.same u1).some_ n_w1
      have m2 := (T9.same (u1.trans u2)).some_ n_w2
      have u13 := (u1.trans u2).trans u3
      have m3 := (T9.same u13).some_ n_w3
      have u14 := u13.trans u4
      have m4 := (T9.same u14).some_ n_w4
      have u15 := u14.trans u5
      have T5 := T9.same u15
      walk_at "ru"
      subst hK_
      first | with_reducible refine seq_k fun K_ hK_ => ?_ | skip
      walk_at "ru"
      refine ⟨l, _, rfl, sqL (u15 _ _ hl9), ?_⟩
      intro c1 n_c1
      generalize hG_ : upd _ c1 _ = J6
      obtain ⟨u6, hc1⟩ := newF n_c1 hG_
      clear hG_
      rw [cut_to] at hc1
      have T6 := T5.same u6
      refine ⟨a, t, w4, ns, _, _, rfl, T6, by omega, u6 _ _ hw4, m4, by simp, by simp, fun z J7 hz T7 b7 => ?_⟩
      obtain ⟨z6, hz6⟩ := T6.lst
      have hc17 := b7 _ _ hc1 (T5.some_ n_c1)
      have bA := ((b09.thenS u15).thenS u6).trans b7
      have fA : Fb t H9 J7 := (Fb.of (u15.trans u6)).trans (Fb.but b7 hz6)
      have cS : Cmp K mg t J7 (.ref k) := (cmpS (Same.refl _)).fr fA
      have hIz : Itm K mg t J7 z := by
        simp only [List.mem_cons, List.not_mem_nil, or_false] at hz
        have h0 := b7 _ _ ((((u2.trans u3).trans (u4.trans u5)).trans u6) _ _ hw0) m0
        have h1 := b7 _ _ (((u3.trans (u4.trans u5)).trans u6) _ _ hw1) m1
        have h2 := b7 _ _ (((u4.trans u5).trans u6) _ _ hw2) m2
        have h3 := b7 _ _ ((u5.trans u6) _ _ hw3) m3
        rcases hz with rfl | rfl | rfl | rfl | rfl
        · exact ⟨⟨⟨_, .non⟩, fun z => nomatch z⟩, fun a xs e _ => nomatch e⟩
        · exact itm_lst h0 m0
        · refine itm_tup h1 (by simp) m1 fun y hy => ?_
          rw [List.mem_singleton.mp hy]; exact cmpI _
        · refine itm_tup h2 (by simp) m2 fun y hy => ?_
          simp only [List.mem_cons, List.not_mem_nil, or_false] at hy
          rcases hy with rfl | rfl
          · exact cS
          · exact cmpI _
        · refine itm_tup h3 (by simp) m3 fun y hy => ?_
          simp only [List.mem_cons, List.not_mem_nil, or_false] at hy
          rcases hy with rfl | rfl | rfl
          · exact cmpI _
          · exact cS
          · exact cmpI _
      intro c2 n_c2
      generalize hG_ : upd _ c2 _ = J8
      obtain ⟨u8, hc2⟩ := newF n_c2 hG_
      clear hG_
      refine ⟨c1, c2, _, _, rfl, rfl, u8 _ _ hc17, hc2, sz (by simp; omega), ?_⟩
      intro c3 n_c3
      generalize hG_ : upd _ c3 _ = J9
      obtain ⟨u9, hc3⟩ := newF n_c3 hG_
      clear hG_
      refine fin c3 _ J9 _ (by omega) ((bA.thenS u8).thenS u9) ((T7.same u8).same u9) hc3 ((T7.same u8).some_ n_c3) (by simp; omega) fun y hy => ?_
      have fB := fA.trans (Fb.of (u8.trans u9))
      rcases List.mem_append.mp hy with hy | hy
      · exact (hIt9 y (List.mem_of_mem_take hy)).fr fB
      · rw [List.mem_singleton.mp hy]
        exact hIz.fr (Fb.of (u8.trans u9))
    walk_at "ru"
    subst hK_
    first | with_reducible refine seq_k fun K_ hK_ => ?_ | skip
    walk_at "ru"
    refine ite2 (fun c2 => ?_) (fun c2 => ?_)
    · refine ⟨l, _, rfl, sqL hl9, ?_⟩
      intro c1 n_c1
      generalize hG_ : upd _ c1 _ = J1
      obtain ⟨u1, hc1⟩ := newF n_c1 hG_
      clear hG_
      rw [cut_to] at hc1
      intro d1 n_d1
      generalize hG_ : upd _ d1 _ = J2
      obtain ⟨u2, hd1⟩ := newF n_d1 hG_
      clear hG_
      have m1 := (T9.same u1).some_ n_d1
      intro d2 n_d2
      have u12 := u1.trans u2
      have m2 := (T9.same u12).some_ n_d2
      refine ⟨upd_same, [(Sum.inr "a", .int 1)], rfl, by simp, ?_⟩
      rw [upd_upd]
      generalize hG_ : upd _ d2 _ = J3
      obtain ⟨u3, hd2⟩ := newF n_d2 hG_
      clear hG_
      intro w4 n_w4
      generalize hG_ : upd _ w4 _ = J4
      obtain ⟨u4, hw4⟩ := newF n_w4 hG_
      clear hG_
      have u14 := (u12.trans u3).trans u4
      have T4 := T9.same u14
      refine ⟨a, t, w4, ns, _, _, rfl, T4, by omega, hw4, (T9.same (u12.trans u3)).some_ n_w4, by simp, by simp, fun z J7 hz T7 b7 => ?_⟩
      obtain ⟨z6, hz6⟩ := T4.lst
      have hc17 := b7 _ _ (((u2.trans u3).trans u4) _ _ hc1) (T9.some_ n_c1)
      have bA := (b09.thenS u14).trans b7
      have fA : Fb t H9 J7 := (Fb.of u14).trans (Fb.but b7 hz6)
      have hcz : Cmp K mg t J7 z := by
        simp only [List.mem_cons, List.not_mem_nil, or_false] at hz
        rcases hz with rfl | rfl | rfl | rfl | rfl
        · exact .inl ⟨⟨_, .non⟩, fun z => nomatch z⟩
        · exact .inl ⟨⟨_, .dic (b7 _ _ ((u3.trans u4) _ _ hd1) m1)⟩, fun e => m1 (V.ref.inj e)⟩
        · exact .inl ⟨⟨_, .str _⟩, fun z => nomatch z⟩
        · exact .inl ⟨⟨_, .dic (b7 _ _ (u4 _ _ hd2) m2)⟩, fun e => m2 (V.ref.inj e)⟩
        · exact cmpI _
      intro p1 n_p1
      generalize hG_ : upd _ p1 _ = J8
      obtain ⟨u8, hp1⟩ := newF n_p1 hG_
      clear hG_
      intro c2 n_c2
      generalize hG_ : upd _ c2 _ = J9
      obtain ⟨u9, hc2⟩ := newF n_c2 hG_
      clear hG_
      refine ⟨c1, c2, _, _, rfl, rfl, (u8.trans u9) _ _ hc17, hc2, sz (by simp; omega), ?_⟩
      intro c3 n_c3
      generalize hG_ : upd _ c3 _ = JA
      obtain ⟨uA, hc3⟩ := newF n_c3 hG_
      clear hG_
      have u7A := (u8.trans u9).trans uA
      refine fin c3 _ JA _ (by omega) (bA.thenS u7A) (T7.same u7A) hc3 ((T7.same (u8.trans u9)).some_ n_c3) (by simp; omega) fun y hy => ?_
      have fB := fA.trans (Fb.of u7A)
      rcases List.mem_append.mp hy with hy | hy
      · exact (hIt9 y (List.mem_of_mem_take hy)).fr fB
      · rw [List.mem_singleton.mp hy]
        refine itm_tup ((u9.trans uA) _ _ hp1) (by simp) (T7.some_ n_p1) fun y hy => ?_
        simp only [List.mem_cons, List.not_mem_nil, or_false] at hy
        rcases hy with rfl | rfl
        · exact cmpI _
        · exact hcz.fr (Fb.of u7A)
    walk_at "ru"
    subst hK_
    first | with_reducible refine seq_k fun K_ hK_ => ?_ | skip
    walk_at "ru"
    refine ite2 (fun c3 => ?_) (fun c3 => ?_)
    · refine ⟨_, .inl ⟨sqL hl9, ?_⟩⟩
      intro tp n_tp
      generalize hG_ : upd _ tp _ = J1
      obtain ⟨u1, htp⟩ := newF n_tp hG_
      clear hG_
      intro p1 n_p1
      generalize hG_ : upd _ p1 _ = J2
      obtain ⟨u2, hp1⟩ := newF n_p1 hG_
      clear hG_
      intro l1 n_l1
      generalize hG_ : upd _ l1 _ = J3
      obtain ⟨u3, hl1⟩ := newF n_l1 hG_
      clear hG_
      refine ⟨[p1], sqL hl1, [(Sum.inl 1, .int 2)], .cons (sqT (u3 _ _ hp1)) .nil, ?_⟩
      intro d1 n_d1
      generalize hG_ : upd _ d1 _ = J4
      obtain ⟨u4, hd1⟩ := newF n_d1 hG_
      clear hG_
      have u13 := (u1.trans u2).trans u3
      have u14 := u13.trans u4
      refine ⟨_, sqL (u14 _ _ hl9), ?_⟩
      intro r1 n_r1
      generalize hG_ : upd _ r1 _ = J5
      obtain ⟨u5, hr1⟩ := newF n_r1 hG_
      clear hG_
      intro w4 n_w4
      generalize hG_ : upd _ w4 _ = J6
      obtain ⟨u6, hw4⟩ := newF n_w4 hG_
      clear hG_
      have u15 := u14.trans u5
      have u16 := u15.trans u6
      have T6 := T9.same u16
      refine ⟨a, t, w4, ns, _, _, rfl, T6, by omega, hw4, (T9.same u15).some_ n_w4, by simp, by simp, fun z J7 hz T7 b7 => ?_⟩
      obtain ⟨z6, hz6⟩ := T6.lst
      have bA := (b09.thenS u16).trans b7
      have fA : Fb t H9 J7 := (Fb.of u16).trans (Fb.but b7 hz6)
      refine q z _ J7 (by omega) T7 bA ?_
      simp only [List.mem_cons, List.not_mem_nil, or_false] at hz
      have m1 := T9.some_ n_tp
      have m2 := (T9.same u13).some_ n_d1
      have m3 := (T9.same u14).some_ n_r1
      rcases hz with rfl | rfl | rfl | rfl | rfl | rfl
      · exact ⟨⟨⟨_, .non⟩, fun z => nomatch z⟩, fun a xs e _ => nomatch e⟩
      · exact plc_tup (b7 _ _ ((((u2.trans u3).trans u4).trans (u5.trans u6)) _ _ htp) m1) m1
      · exact plc_dic (b7 _ _ ((u5.trans u6) _ _ hd1) m2) m2
      · exact ⟨⟨⟨_, .int _⟩, fun z => nomatch z⟩, fun a xs e _ => nomatch e⟩
      · exact ⟨⟨⟨_, .str _⟩, fun z => nomatch z⟩, fun a xs e _ => nomatch e⟩
      · exact plc_lst (b7 _ _ (u6 _ _ hr1) m3) (by simp; omega) m3 fun y hy => (hIt9 y (List.mem_reverse.mp hy)).fr fA
    walk_at "ru"
    subst hK_
    first | with_reducible refine seq_k fun K_ hK_ => ?_ | skip
    walk_at "ru"
    exact fin l xs H9 _ (by omega) b09 T9 hl9 hlt (by omega) hIt9
end
end Nk
namespace Nk
open PySem L2
section
variable {P : Program} {w : World} {K : PySem.W.Frag} {mg : Str → Option Value} {base : Heap}
/-- nights with tables stand -/
def PdAt (H : Hp) : List V → Pl → Prop
  | [], [] => True
  | x :: xs, p :: ps => (∃ q d, x = .ref q ∧ H q = some (.tup [.int p.1, .ref d]) ∧ H d = some (.dK (kvsT p.2))) ∧ PdAt H xs ps
  | _, _ => False
theorem PdAt.keep {H H' : Hp} (h1 : ∀ b xs, H b = some (.tup xs) → H' b = some (.tup xs)) (h2 : ∀ b kvs, H b = some (.dK kvs) → H' b = some (.dK kvs)) : ∀ {xs : List V} {ps : Pl}, PdAt H xs ps → PdAt H' xs ps
  | [], [], _ => trivial
  | x :: xs, p :: ps, ⟨⟨q, d, e, hq, hd⟩, r⟩ => ⟨⟨q, d, e, h1 _ _ hq, h2 _ _ hd⟩, PdAt.keep h1 h2 r⟩
theorem PdAt.same {H H' : Hp} (s : Same H H') {xs : List V} {ps : Pl} (h : PdAt H xs ps) : PdAt H' xs ps := h.keep (fun _ _ e => s _ _ e) (fun _ _ e => s _ _ e)
theorem PdAt.but {H H' : Hp} {t : Addr} {l : List V} (b : But t H H') (ht : H t = some (.lst l)) {xs : List V} {ps : Pl} (h : PdAt H xs ps) : PdAt H' xs ps := h.keep (fun _ _ e => b _ _ e (ne_of e ht (by intro z; cases z))) (fun _ _ e => b _ _ e (ne_of e ht (by intro z; cases z)))
theorem PdAt.len {H : Hp} : ∀ {xs : List V} {ps : Pl}, PdAt H xs ps → xs.length = ps.length
  | [], [], _ => rfl
  | x :: xs, p :: ps, ⟨_, r⟩ => by simp [PdAt.len r]
theorem PdAt.app {H : Hp} : ∀ {xs ys : List V} {ps qs : Pl}, PdAt H xs ps → PdAt H ys qs → PdAt H (xs ++ ys) (ps ++ qs)
  | [], _, [], _, _, h => h
  | x :: xs, _, p :: ps, _, ⟨a, r⟩, h => ⟨a, PdAt.app r h⟩
theorem PdAt.one {H : Hp} {q d : Addr} {p : Int × Tb} (h : H q = some (.tup [.int p.1, .ref d])) (hd : H d = some (.dK (kvsT p.2))) : PdAt H [.ref q] [p] := ⟨⟨q, d, rfl, h, hd⟩, trivial⟩
theorem PdAt.get {H : Hp} : ∀ {xs : List V} {ps : Pl}, PdAt H xs ps → ∀ {i : Nat} {x : V}, xs[i]? = some x → ∃ p q d, ps[i]? = some p ∧ x = .ref q ∧ H q = some (.tup [.int p.1, .ref d]) ∧ H d = some (.dK (kvsT p.2))
  | x :: xs, p :: ps, ⟨⟨q, d, e, hq, hd⟩, r⟩, 0, y, hy => by
    cases hy
    exact ⟨p, q, d, rfl, e, hq, hd⟩
  | x :: xs, p :: ps, ⟨_, r⟩, i + 1, y, hy => PdAt.get r hy
  | [], [], _, i, y, hy => by simp at hy
/-- what the law draws -/
structure Drawn (mine its all : Pl) : Prop where
  m : mine.Sublist all
  i : its.Sublist all
  g : GoodPl all
  ok : ∀ p ∈ all, OkT p.2 ∧ p.2.length ≤ 20
end
end Nk
namespace Nk
open PySem L2
section
variable {P : Program} {w : World} {K : PySem.W.Frag} {mg : Str → Option Value} {base : Heap}
/-- the errors' names, as the laws number them -/
def exNames : List Str := ["BadRounds", "BadNight", "BadNumber", "BadRules", "BadNights", "Elder", "Full", "NotHeld", "Pinned", "NotPinned", "BadState", "BadPart", "NotFit", "IsWhole", "BadPlan", "Unlike", "BadText"]
/-- an error of the j-th kind, caught, at a -/
def CaughtAt (mg : Str → Option Value) (H : Hp) (a : Addr) (j : Nat) : Prop := ∃ (x : Str) (d : Option Addr), exNames[j]? = some x ∧ H a = some (ExV (.ref (cls mg x)) d a) ∧ ∀ dd, d = some dd → ∃ fs, H dd = some (.xd fs)
theorem ex_count : ∀ j ∈ List.range 17, ((exNames.map fun y => V.bl (decide (exNames.getD j "" = y))).countP fun z => eqV z (.bl true)) = 1 := by decide +kernel
theorem ex_at : ∀ j ∈ List.range 17, ∀ m ∈ List.range 17, exNames.getD j "" = exNames.getD m "" → j = m := by decide +kernel
abbrev nm__law_word : List Str := ["caught", "kinds"]
abbrev pm__law_word : List Str := ["caught"]
abbrev lv__law_word : Nat := 1
theorem sc__law_word : FnScope nm__law_word pm__law_word (defScope s__law_word) := ⟨rfl, rfl, rfl, by decide +kernel, rfl, by decide +kernel, by decide +kernel⟩
def sp__law_word (mg : Str → Option Value) : Sp := fun vs H Q _ => ∃ (a : Addr) (j : Nat), vs = [.ref a] ∧ CaughtAt mg H a j ∧ ∀ H', Same H H' → Q (.int j) H'
theorem ec_all (T : Txt K mg) : ∀ x ∈ exNames, Ec K mg x := by
  intro x hx
  simp only [exNames, List.mem_cons, List.not_mem_nil, or_false] at hx
  rcases hx with rfl | rfl | rfl | rfl | rfl | rfl | rfl | rfl | rfl | rfl | rfl | rfl | rfl | rfl | rfl | rfl | rfl
  · exact T.e_BadRounds
  · exact T.e_BadNight
  · exact T.e_BadNumber
  · exact T.e_BadRules
  · exact T.e_BadNights
  · exact T.e_Elder
  · exact T.e_Full
  · exact T.e_NotHeld
  · exact T.e_Pinned
  · exact T.e_NotPinned
  · exact T.e_BadState
  · exact T.e_BadPart
  · exact T.e_NotFit
  · exact T.e_IsWhole
  · exact T.e_BadPlan
  · exact T.e_Unlike
  · exact T.e_BadText
theorem isx_of (T : Txt K mg) {H : Hp} {a : Addr} {x y : Str} {d : Option Addr} {Q : VK} (ha : H a = some (ExV (.ref (cls mg x)) d a)) (hd : ∀ dd, d = some dd → ∃ fs, H dd = some (.xd fs)) (hx : x ∈ exNames) (hy : y ∈ exNames) (q : Q (.bl (decide (x = y))) H) : rIsX K [.ref a, .ref (cls mg y)] H Q :=
  ⟨a, _, d, _, _, _, rfl, ha, (ec_all T x hx).ec, .own _, (ec_all T x hx).is (ec_all T y hy) T.k_err (by intro z; rw [z] at hy; revert hy; decide), hd, q⟩
theorem isxR_of (T : Txt K mg) {H : Hp} {a : Addr} {x : Str} {d : Option Addr} {Q : VK} (ha : H a = some (ExV (.ref (cls mg x)) d a)) (hd : ∀ dd, d = some dd → ∃ fs, H dd = some (.xd fs)) (hx : x ∈ exNames) (q : Q (.bl true) H) : rIsX K [.ref a, .ty "RuntimeError"] H Q :=
  ⟨a, _, d, _, _, _, rfl, ha, (ec_all T x hx).ec, .ty _, (ec_all T x hx).isR, hd, q⟩
theorem f__law_word (T : Txt K mg) : Fk P w K mg base CX0 lv__law_word "_law_word" pm__law_word (sp__law_word mg) := by
  obtain ⟨f, fd, F, g, b⟩ := T.d__law_word.ex
  refine ⟨f, fd, g, F.kp, b, F.ok sc__law_word (fun vs H Q E h => ?_) (fun cdv A outer s H vs Q E hr h => ?_)⟩
  · obtain ⟨a, j, rfl, _⟩ := h; rfl
  · obtain ⟨a, j, rfl, ⟨x, d, hj, ha, hd⟩, q⟩ := h
    have hx : x ∈ exNames := List.mem_of_getElem? hj
    refine ⟨_, (pss_cons (ps_if (pt_not (pt_val (pe_callB call_isX (by rfl) T.b_isinstance (by decide +kernel) (pa_cons (pv 0) (pa_cons (pe_bltn (v := .ty "RuntimeError") (by rfl) T.b_RuntimeError (by decide +kernel) rfl) pa_nil))))) (pss_one (ps_ret (pe_un un_neg pe_int))) pss_nil)
      (pss_cons (ps_set (i := 1) sc__law_word.nd rfl (.inl rfl) (pe_lst (pa_cons (pe_callB call_isX (by rfl) T.b_isinstance (by decide +kernel) (pa_cons (pv 0) (pa_cons (pe_glob (v := .ref (cls mg "BadRounds")) (by rfl) T.e_BadRounds.gP rfl) pa_nil))) (pa_cons (pe_callB call_isX (by rfl) T.b_isinstance (by decide +kernel) (pa_cons (pv 0) (pa_cons (pe_glob (v := .ref (cls mg "BadNight")) (by rfl) T.e_BadNight.gP rfl) pa_nil))) (pa_cons (pe_callB call_isX (by rfl) T.b_isinstance (by decide +kernel) (pa_cons (pv 0) (pa_cons (pe_glob (v := .ref (cls mg "BadNumber")) (by rfl) T.e_BadNumber.gP rfl) pa_nil))) pa_nil)))))
      (pss_cons (ps_set (i := 1) sc__law_word.nd rfl (.inl rfl) (pe_op op_cat (pv 1) (pe_lst (pa_cons (pe_callB call_isX (by rfl) T.b_isinstance (by decide +kernel) (pa_cons (pv 0) (pa_cons (pe_glob (v := .ref (cls mg "BadRules")) (by rfl) T.e_BadRules.gP rfl) pa_nil))) (pa_cons (pe_callB call_isX (by rfl) T.b_isinstance (by decide +kernel) (pa_cons (pv 0) (pa_cons (pe_glob (v := .ref (cls mg "BadNights")) (by rfl) T.e_BadNights.gP rfl) pa_nil))) (pa_cons (pe_callB call_isX (by rfl) T.b_isinstance (by decide +kernel) (pa_cons (pv 0) (pa_cons (pe_glob (v := .ref (cls mg "Elder")) (by rfl) T.e_Elder.gP rfl) pa_nil))) pa_nil))))))
      (pss_cons (ps_set (i := 1) sc__law_word.nd rfl (.inl rfl) (pe_op op_cat (pv 1) (pe_lst (pa_cons (pe_callB call_isX (by rfl) T.b_isinstance (by decide +kernel) (pa_cons (pv 0) (pa_cons (pe_glob (v := .ref (cls mg "Full")) (by rfl) T.e_Full.gP rfl) pa_nil))) (pa_cons (pe_callB call_isX (by rfl) T.b_isinstance (by decide +kernel) (pa_cons (pv 0) (pa_cons (pe_glob (v := .ref (cls mg "NotHeld")) (by rfl) T.e_NotHeld.gP rfl) pa_nil))) (pa_cons (pe_callB call_isX (by rfl) T.b_isinstance (by decide +kernel) (pa_cons (pv 0) (pa_cons (pe_glob (v := .ref (cls mg "Pinned")) (by rfl) T.e_Pinned.gP rfl) pa_nil))) pa_nil))))))
      (pss_cons (ps_set (i := 1) sc__law_word.nd rfl (.inl rfl) (pe_op op_cat (pv 1) (pe_lst (pa_cons (pe_callB call_isX (by rfl) T.b_isinstance (by decide +kernel) (pa_cons (pv 0) (pa_cons (pe_glob (v := .ref (cls mg "NotPinned")) (by rfl) T.e_NotPinned.gP rfl) pa_nil))) (pa_cons (pe_callB call_isX (by rfl) T.b_isinstance (by decide +kernel) (pa_cons (pv 0) (pa_cons (pe_glob (v := .ref (cls mg "BadState")) (by rfl) T.e_BadState.gP rfl) pa_nil))) (pa_cons (pe_callB call_isX (by rfl) T.b_isinstance (by decide +kernel) (pa_cons (pv 0) (pa_cons (pe_glob (v := .ref (cls mg "BadPart")) (by rfl) T.e_BadPart.gP rfl) pa_nil))) pa_nil))))))
      (pss_cons (ps_set (i := 1) sc__law_word.nd rfl (.inl rfl) (pe_op op_cat (pv 1) (pe_lst (pa_cons (pe_callB call_isX (by rfl) T.b_isinstance (by decide +kernel) (pa_cons (pv 0) (pa_cons (pe_glob (v := .ref (cls mg "NotFit")) (by rfl) T.e_NotFit.gP rfl) pa_nil))) (pa_cons (pe_callB call_isX (by rfl) T.b_isinstance (by decide +kernel) (pa_cons (pv 0) (pa_cons (pe_glob (v := .ref (cls mg "IsWhole")) (by rfl) T.e_IsWhole.gP rfl) pa_nil))) (pa_cons (pe_callB call_isX (by rfl) T.b_isinstance (by decide +kernel) (pa_cons (pv 0) (pa_cons (pe_glob (v := .ref (cls mg "BadPlan")) (by rfl) T.e_BadPlan.gP rfl) pa_nil))) pa_nil))))))
      (pss_cons (ps_set (i := 1) sc__law_word.nd rfl (.inl rfl) (pe_op op_cat (pv 1) (pe_lst (pa_cons (pe_callB call_isX (by rfl) T.b_isinstance (by decide +kernel) (pa_cons (pv 0) (pa_cons (pe_glob (v := .ref (cls mg "Unlike")) (by rfl) T.e_Unlike.gP rfl) pa_nil))) (pa_cons (pe_callB call_isX (by rfl) T.b_isinstance (by decide +kernel) (pa_cons (pv 0) (pa_cons (pe_glob (v := .ref (cls mg "BadText")) (by rfl) T.e_BadText.gP rfl) pa_nil))) pa_nil)))))
      (pss_one (ps_ret (pe_ifExp (pt_cmpR op_eq (pe_bm PySem.F.plainAttrs_list PySem.F.slot_list_count PySem.F.type_list_count mt_countF (pv 1) (pa_cons pe_bl pa_nil)) pe_int (nomark _)) (pe_bm PySem.F.plainAttrs_list PySem.F.slot_list_index PySem.F.type_list_index mt_index (pv 1) (pa_cons pe_bl pa_nil)) (pe_un un_neg pe_int))))))))))), ?_⟩
    with_reducible refine seq_k fun K_ hK_ => ?_
    walk_at "rt"
    refine isxR_of T ha hd hx ⟨true, rfl, ?_⟩
    walk_at "rt"
    walk_at "rt"
    subst hK_
    first | with_reducible refine seq_k fun K_ hK_ => ?_ | skip
    walk_at "rt"
    refine isx_of T ha hd hx (by decide) ?_
    refine isx_of T ha hd hx (by decide) ?_
    refine isx_of T ha hd hx (by decide) ?_
    intro p0 hp0
    have s0 := same_upd (o := .lst ([V.bl (decide (x = "BadRounds")), .bl (decide (x = "BadNight")), .bl (decide (x = "BadNumber"))])) hp0
    have hl0 := upd_same (H := H) (a := p0) (o := .lst ([V.bl (decide (x = "BadRounds")), .bl (decide (x = "BadNight")), .bl (decide (x = "BadNumber"))]))
    revert s0 hl0
    generalize upd H p0 (.lst ([V.bl (decide (x = "BadRounds")), .bl (decide (x = "BadNight")), .bl (decide (x = "BadNumber"))])) = H0
    intro s0 hl0
    have ha0 := s0 _ _ ha
    have hd0 : ∀ dd, d = some dd → ∃ fs, H0 dd = some (.xd fs) := fun dd e => by obtain ⟨fs, h⟩ := hd dd e; exact ⟨fs, s0 _ _ h⟩
    walk_at "rt"
    subst hK_
    first | with_reducible refine seq_k fun K_ hK_ => ?_ | skip
    walk_at "rt"
    refine isx_of T ha0 hd0 hx (by decide) ?_
    refine isx_of T ha0 hd0 hx (by decide) ?_
    refine isx_of T ha0 hd0 hx (by decide) ?_
    intro q0 hq0
    have u0 := same_upd (o := .lst ([V.bl (decide (x = "BadRules")), V.bl (decide (x = "BadNights")), V.bl (decide (x = "Elder"))])) hq0
    refine ⟨p0, q0, _, _, rfl, rfl, u0 _ _ hl0, upd_same, sz (by simp), fun p1 hp1 => ?_⟩
    have v0 := s0.trans (u0.trans (same_upd (o := .lst ([V.bl (decide (x = "BadRounds")), V.bl (decide (x = "BadNight")), V.bl (decide (x = "BadNumber"))] ++ [V.bl (decide (x = "BadRules")), V.bl (decide (x = "BadNights")), V.bl (decide (x = "Elder"))])) hp1))
    have hl1 : (upd (upd H0 q0 (.lst ([V.bl (decide (x = "BadRules")), V.bl (decide (x = "BadNights")), V.bl (decide (x = "Elder"))]))) p1 (.lst ([V.bl (decide (x = "BadRounds")), V.bl (decide (x = "BadNight")), V.bl (decide (x = "BadNumber"))] ++ [V.bl (decide (x = "BadRules")), V.bl (decide (x = "BadNights")), V.bl (decide (x = "Elder"))]))) p1 = some (.lst ([V.bl (decide (x = "BadRounds")), V.bl (decide (x = "BadNight")), V.bl (decide (x = "BadNumber")), V.bl (decide (x = "BadRules")), V.bl (decide (x = "BadNights")), V.bl (decide (x = "Elder"))])) := upd_same
    revert hl1 v0
    generalize upd (upd H0 q0 (.lst ([V.bl (decide (x = "BadRules")), V.bl (decide (x = "BadNights")), V.bl (decide (x = "Elder"))]))) p1 (.lst ([V.bl (decide (x = "BadRounds")), V.bl (decide (x = "BadNight")), V.bl (decide (x = "BadNumber"))] ++ [V.bl (decide (x = "BadRules")), V.bl (decide (x = "BadNights")), V.bl (decide (x = "Elder"))])) = H1
    intro s1 hl1
    have ha1 := s1 _ _ ha
    have hd1 : ∀ dd, d = some dd → ∃ fs, H1 dd = some (.xd fs) := fun dd e => by obtain ⟨fs, h⟩ := hd dd e; exact ⟨fs, s1 _ _ h⟩
    walk_at "rt"
    subst hK_
    first | with_reducible refine seq_k fun K_ hK_ => ?_ | skip
    walk_at "rt"
    refine isx_of T ha1 hd1 hx (by decide) ?_
    refine isx_of T ha1 hd1 hx (by decide) ?_
    refine isx_of T ha1 hd1 hx (by decide) ?_
    intro q1 hq1
    have u1 := same_upd (o := .lst ([V.bl (decide (x = "Full")), V.bl (decide (x = "NotHeld")), V.bl (decide (x = "Pinned"))])) hq1
    refine ⟨p1, q1, _, _, rfl, rfl, u1 _ _ hl1, upd_same, sz (by simp), fun p2 hp2 => ?_⟩
    have v1 := s1.trans (u1.trans (same_upd (o := .lst ([V.bl (decide (x = "BadRounds")), V.bl (decide (x = "BadNight")), V.bl (decide (x = "BadNumber")), V.bl (decide (x = "BadRules")), V.bl (decide (x = "BadNights")), V.bl (decide (x = "Elder"))] ++ [V.bl (decide (x = "Full")), V.bl (decide (x = "NotHeld")), V.bl (decide (x = "Pinned"))])) hp2))
    have hl2 : (upd (upd H1 q1 (.lst ([V.bl (decide (x = "Full")), V.bl (decide (x = "NotHeld")), V.bl (decide (x = "Pinned"))]))) p2 (.lst ([V.bl (decide (x = "BadRounds")), V.bl (decide (x = "BadNight")), V.bl (decide (x = "BadNumber")), V.bl (decide (x = "BadRules")), V.bl (decide (x = "BadNights")), V.bl (decide (x = "Elder"))] ++ [V.bl (decide (x = "Full")), V.bl (decide (x = "NotHeld")), V.bl (decide (x = "Pinned"))]))) p2 = some (.lst ([V.bl (decide (x = "BadRounds")), V.bl (decide (x = "BadNight")), V.bl (decide (x = "BadNumber")), V.bl (decide (x = "BadRules")), V.bl (decide (x = "BadNights")), V.bl (decide (x = "Elder")), V.bl (decide (x = "Full")), V.bl (decide (x = "NotHeld")), V.bl (decide (x = "Pinned"))])) := upd_same
    revert hl2 v1
    generalize upd (upd H1 q1 (.lst ([V.bl (decide (x = "Full")), V.bl (decide (x = "NotHeld")), V.bl (decide (x = "Pinned"))]))) p2 (.lst ([V.bl (decide (x = "BadRounds")), V.bl (decide (x = "BadNight")), V.bl (decide (x = "BadNumber")), V.bl (decide (x = "BadRules")), V.bl (decide (x = "BadNights")), V.bl (decide (x = "Elder"))] ++ [V.bl (decide (x = "Full")), V.bl (decide (x = "NotHeld")), V.bl (decide (x = "Pinned"))])) = H2
    intro s2 hl2
    have ha2 := s2 _ _ ha
    have hd2 : ∀ dd, d = some dd → ∃ fs, H2 dd = some (.xd fs) := fun dd e => by obtain ⟨fs, h⟩ := hd dd e; exact ⟨fs, s2 _ _ h⟩
    walk_at "rt"
    subst hK_
    first | with_reducible refine seq_k fun K_ hK_ => ?_ | skip
    walk_at "rt"
    refine isx_of T ha2 hd2 hx (by decide) ?_
    refine isx_of T ha2 hd2 hx (by decide) ?_
    refine isx_of T ha2 hd2 hx (by decide) ?_
    intro q2 hq2
    have u2 := same_upd (o := .lst ([V.bl (decide (x = "NotPinned")), V.bl (decide (x = "BadState")), V.bl (decide (x = "BadPart"))])) hq2
    refine ⟨p2, q2, _, _, rfl, rfl, u2 _ _ hl2, upd_same, sz (by simp), fun p3 hp3 => ?_⟩
    have v2 := s2.trans (u2.trans (same_upd (o := .lst ([V.bl (decide (x = "BadRounds")), V.bl (decide (x = "BadNight")), V.bl (decide (x = "BadNumber")), V.bl (decide (x = "BadRules")), V.bl (decide (x = "BadNights")), V.bl (decide (x = "Elder")), V.bl (decide (x = "Full")), V.bl (decide (x = "NotHeld")), V.bl (decide (x = "Pinned"))] ++ [V.bl (decide (x = "NotPinned")), V.bl (decide (x = "BadState")), V.bl (decide (x = "BadPart"))])) hp3))
    have hl3 : (upd (upd H2 q2 (.lst ([V.bl (decide (x = "NotPinned")), V.bl (decide (x = "BadState")), V.bl (decide (x = "BadPart"))]))) p3 (.lst ([V.bl (decide (x = "BadRounds")), V.bl (decide (x = "BadNight")), V.bl (decide (x = "BadNumber")), V.bl (decide (x = "BadRules")), V.bl (decide (x = "BadNights")), V.bl (decide (x = "Elder")), V.bl (decide (x = "Full")), V.bl (decide (x = "NotHeld")), V.bl (decide (x = "Pinned"))] ++ [V.bl (decide (x = "NotPinned")), V.bl (decide (x = "BadState")), V.bl (decide (x = "BadPart"))]))) p3 = some (.lst ([V.bl (decide (x = "BadRounds")), V.bl (decide (x = "BadNight")), V.bl (decide (x = "BadNumber")), V.bl (decide (x = "BadRules")), V.bl (decide (x = "BadNights")), V.bl (decide (x = "Elder")), V.bl (decide (x = "Full")), V.bl (decide (x = "NotHeld")), V.bl (decide (x = "Pinned")), V.bl (decide (x = "NotPinned")), V.bl (decide (x = "BadState")), V.bl (decide (x = "BadPart"))])) := upd_same
    revert hl3 v2
    generalize upd (upd H2 q2 (.lst ([V.bl (decide (x = "NotPinned")), V.bl (decide (x = "BadState")), V.bl (decide (x = "BadPart"))]))) p3 (.lst ([V.bl (decide (x = "BadRounds")), V.bl (decide (x = "BadNight")), V.bl (decide (x = "BadNumber")), V.bl (decide (x = "BadRules")), V.bl (decide (x = "BadNights")), V.bl (decide (x = "Elder")), V.bl (decide (x = "Full")), V.bl (decide (x = "NotHeld")), V.bl (decide (x = "Pinned"))] ++ [V.bl (decide (x = "NotPinned")), V.bl (decide (x = "BadState")), V.bl (decide (x = "BadPart"))])) = H3
    intro s3 hl3
    have ha3 := s3 _ _ ha
    have hd3 : ∀ dd, d = some dd → ∃ fs, H3 dd = some (.xd fs) := fun dd e => by obtain ⟨fs, h⟩ := hd dd e; exact ⟨fs, s3 _ _ h⟩
    walk_at "rt"
    subst hK_
    first | with_reducible refine seq_k fun K_ hK_ => ?_ | skip
    walk_at "rt"
    refine isx_of T ha3 hd3 hx (by decide) ?_
    refine isx_of T ha3 hd3 hx (by decide) ?_
    refine isx_of T ha3 hd3 hx (by decide) ?_
    intro q3 hq3
    have u3 := same_upd (o := .lst ([V.bl (decide (x = "NotFit")), V.bl (decide (x = "IsWhole")), V.bl (decide (x = "BadPlan"))])) hq3
    refine ⟨p3, q3, _, _, rfl, rfl, u3 _ _ hl3, upd_same, sz (by simp), fun p4 hp4 => ?_⟩
    have v3 := s3.trans (u3.trans (same_upd (o := .lst ([V.bl (decide (x = "BadRounds")), V.bl (decide (x = "BadNight")), V.bl (decide (x = "BadNumber")), V.bl (decide (x = "BadRules")), V.bl (decide (x = "BadNights")), V.bl (decide (x = "Elder")), V.bl (decide (x = "Full")), V.bl (decide (x = "NotHeld")), V.bl (decide (x = "Pinned")), V.bl (decide (x = "NotPinned")), V.bl (decide (x = "BadState")), V.bl (decide (x = "BadPart"))] ++ [V.bl (decide (x = "NotFit")), V.bl (decide (x = "IsWhole")), V.bl (decide (x = "BadPlan"))])) hp4))
    have hl4 : (upd (upd H3 q3 (.lst ([V.bl (decide (x = "NotFit")), V.bl (decide (x = "IsWhole")), V.bl (decide (x = "BadPlan"))]))) p4 (.lst ([V.bl (decide (x = "BadRounds")), V.bl (decide (x = "BadNight")), V.bl (decide (x = "BadNumber")), V.bl (decide (x = "BadRules")), V.bl (decide (x = "BadNights")), V.bl (decide (x = "Elder")), V.bl (decide (x = "Full")), V.bl (decide (x = "NotHeld")), V.bl (decide (x = "Pinned")), V.bl (decide (x = "NotPinned")), V.bl (decide (x = "BadState")), V.bl (decide (x = "BadPart"))] ++ [V.bl (decide (x = "NotFit")), V.bl (decide (x = "IsWhole")), V.bl (decide (x = "BadPlan"))]))) p4 = some (.lst ([V.bl (decide (x = "BadRounds")), V.bl (decide (x = "BadNight")), V.bl (decide (x = "BadNumber")), V.bl (decide (x = "BadRules")), V.bl (decide (x = "BadNights")), V.bl (decide (x = "Elder")), V.bl (decide (x = "Full")), V.bl (decide (x = "NotHeld")), V.bl (decide (x = "Pinned")), V.bl (decide (x = "NotPinned")), V.bl (decide (x = "BadState")), V.bl (decide (x = "BadPart")), V.bl (decide (x = "NotFit")), V.bl (decide (x = "IsWhole")), V.bl (decide (x = "BadPlan"))])) := upd_same
    revert hl4 v3
    generalize upd (upd H3 q3 (.lst ([V.bl (decide (x = "NotFit")), V.bl (decide (x = "IsWhole")), V.bl (decide (x = "BadPlan"))]))) p4 (.lst ([V.bl (decide (x = "BadRounds")), V.bl (decide (x = "BadNight")), V.bl (decide (x = "BadNumber")), V.bl (decide (x = "BadRules")), V.bl (decide (x = "BadNights")), V.bl (decide (x = "Elder")), V.bl (decide (x = "Full")), V.bl (decide (x = "NotHeld")), V.bl (decide (x = "Pinned")), V.bl (decide (x = "NotPinned")), V.bl (decide (x = "BadState")), V.bl (decide (x = "BadPart"))] ++ [V.bl (decide (x = "NotFit")), V.bl (decide (x = "IsWhole")), V.bl (decide (x = "BadPlan"))])) = H4
    intro s4 hl4
    have ha4 := s4 _ _ ha
    have hd4 : ∀ dd, d = some dd → ∃ fs, H4 dd = some (.xd fs) := fun dd e => by obtain ⟨fs, h⟩ := hd dd e; exact ⟨fs, s4 _ _ h⟩
    walk_at "rt"
    subst hK_
    first | with_reducible refine seq_k fun K_ hK_ => ?_ | skip
    walk_at "rt"
    refine isx_of T ha4 hd4 hx (by decide) ?_
    refine isx_of T ha4 hd4 hx (by decide) ?_
    intro q4 hq4
    have u4 := same_upd (o := .lst ([V.bl (decide (x = "Unlike")), V.bl (decide (x = "BadText"))])) hq4
    refine ⟨p4, q4, _, _, rfl, rfl, u4 _ _ hl4, upd_same, sz (by simp), fun p5 hp5 => ?_⟩
    have v4 := s4.trans (u4.trans (same_upd (o := .lst ([V.bl (decide (x = "BadRounds")), V.bl (decide (x = "BadNight")), V.bl (decide (x = "BadNumber")), V.bl (decide (x = "BadRules")), V.bl (decide (x = "BadNights")), V.bl (decide (x = "Elder")), V.bl (decide (x = "Full")), V.bl (decide (x = "NotHeld")), V.bl (decide (x = "Pinned")), V.bl (decide (x = "NotPinned")), V.bl (decide (x = "BadState")), V.bl (decide (x = "BadPart")), V.bl (decide (x = "NotFit")), V.bl (decide (x = "IsWhole")), V.bl (decide (x = "BadPlan"))] ++ [V.bl (decide (x = "Unlike")), V.bl (decide (x = "BadText"))])) hp5))
    have hl5 : (upd (upd H4 q4 (.lst ([V.bl (decide (x = "Unlike")), V.bl (decide (x = "BadText"))]))) p5 (.lst ([V.bl (decide (x = "BadRounds")), V.bl (decide (x = "BadNight")), V.bl (decide (x = "BadNumber")), V.bl (decide (x = "BadRules")), V.bl (decide (x = "BadNights")), V.bl (decide (x = "Elder")), V.bl (decide (x = "Full")), V.bl (decide (x = "NotHeld")), V.bl (decide (x = "Pinned")), V.bl (decide (x = "NotPinned")), V.bl (decide (x = "BadState")), V.bl (decide (x = "BadPart")), V.bl (decide (x = "NotFit")), V.bl (decide (x = "IsWhole")), V.bl (decide (x = "BadPlan"))] ++ [V.bl (decide (x = "Unlike")), V.bl (decide (x = "BadText"))]))) p5 = some (.lst ([V.bl (decide (x = "BadRounds")), V.bl (decide (x = "BadNight")), V.bl (decide (x = "BadNumber")), V.bl (decide (x = "BadRules")), V.bl (decide (x = "BadNights")), V.bl (decide (x = "Elder")), V.bl (decide (x = "Full")), V.bl (decide (x = "NotHeld")), V.bl (decide (x = "Pinned")), V.bl (decide (x = "NotPinned")), V.bl (decide (x = "BadState")), V.bl (decide (x = "BadPart")), V.bl (decide (x = "NotFit")), V.bl (decide (x = "IsWhole")), V.bl (decide (x = "BadPlan")), V.bl (decide (x = "Unlike")), V.bl (decide (x = "BadText"))])) := upd_same
    revert hl5 v4
    generalize upd (upd H4 q4 (.lst ([V.bl (decide (x = "Unlike")), V.bl (decide (x = "BadText"))]))) p5 (.lst ([V.bl (decide (x = "BadRounds")), V.bl (decide (x = "BadNight")), V.bl (decide (x = "BadNumber")), V.bl (decide (x = "BadRules")), V.bl (decide (x = "BadNights")), V.bl (decide (x = "Elder")), V.bl (decide (x = "Full")), V.bl (decide (x = "NotHeld")), V.bl (decide (x = "Pinned")), V.bl (decide (x = "NotPinned")), V.bl (decide (x = "BadState")), V.bl (decide (x = "BadPart")), V.bl (decide (x = "NotFit")), V.bl (decide (x = "IsWhole")), V.bl (decide (x = "BadPlan"))] ++ [V.bl (decide (x = "Unlike")), V.bl (decide (x = "BadText"))])) = H5
    intro s5 hl5
    have ha5 := s5 _ _ ha
    have hd5 : ∀ dd, d = some dd → ∃ fs, H5 dd = some (.xd fs) := fun dd e => by obtain ⟨fs, h⟩ := hd dd e; exact ⟨fs, s5 _ _ h⟩
    walk_at "rt"
    subst hK_
    first | with_reducible refine seq_k fun K_ hK_ => ?_ | skip
    walk_at "rt"
    have h17 : j < 17 := lt_of_get hj
    have e17 : exNames.getD j "" = x := by rw [List.getD_eq_getElem?_getD, hj]; rfl
    have hcnt := ex_count j (List.mem_range.mpr h17)
    rw [e17] at hcnt
    have fl : ∀ l : List Str, (l.map fun y => V.bl (decide (x = y))).all flatV = true := fun l => by
      rw [List.all_map, List.all_eq_true]
      exact fun _ _ => rfl
    refine ⟨tyL hl5, p5, exNames.map (fun y => V.bl (decide (x = y))), .bl true, rfl, rfl, sqL hl5, rfl, fl _, ?_⟩
    rw [hcnt]
    refine ⟨rfl, ?_⟩
    rw [if_pos (show V.int ((1 : Nat) : Int) = V.int 1 from rfl)]
    refine ⟨tyL hl5, p5, exNames.map (fun y => V.bl (decide (x = y))), .bl true, j, .bl true, rfl, rfl, sqL hl5, rfl, fl _, ?_, rfl, fun m z hm hz => ?_, q H5 s5⟩
    · rw [List.getElem?_map, hj]
      simp
    · rw [List.getElem?_map] at hz
      cases e : exNames[m]? with
      | none => rw [e] at hz; cases hz
      | some y =>
        rw [e] at hz
        cases hz
        have h17' : m < 17 := lt_of_get e
        have e17' : exNames.getD m "" = y := by rw [List.getD_eq_getElem?_getD, e]; rfl
        have : x ≠ y := fun z => by
          have := ex_at j (List.mem_range.mpr h17) m (List.mem_range.mpr h17') (by rw [e17, e17', z])
          omega
        simp [this, eqV]
/-- the word of a kind -/
def exWords : List Str := ["rounds", "night", "number", "rules", "nights", "elder", "full", "held", "pinned", "not pinned", "state", "part", "fit", "whole", "plan", "unlike", "text"]
theorem wd_at : ∀ j ∈ List.range 17, ∀ m ∈ List.range 17, exWords.getD j "" = exWords.getD m "" → j = m := by decide +kernel
abbrev nm__law_refused : List Str := ["word", "words"]
abbrev pm__law_refused : List Str := ["word"]
abbrev lv__law_refused : Nat := 1
theorem sc__law_refused : FnScope nm__law_refused pm__law_refused (defScope s__law_refused) := ⟨rfl, rfl, rfl, by decide +kernel, rfl, by decide +kernel, by decide +kernel⟩
def sp__law_refused : Sp := fun vs H Q _ => ∃ (x : Str) (j : Nat), vs = [.str x] ∧ exWords[j]? = some x ∧ ∀ p H', Same H H' → H p = none → H' p = some (.tup [.str "refused", .int j]) → Q (.ref p) H'
theorem f__law_refused (T : Txt K mg) : Fk P w K mg base CX0 lv__law_refused "_law_refused" pm__law_refused sp__law_refused := by
  obtain ⟨f, fd, F, g, b⟩ := T.d__law_refused.ex
  refine ⟨f, fd, g, F.kp, b, F.ok sc__law_refused (fun vs H Q E h => ?_) (fun cdv A outer s H vs Q E hr h => ?_)⟩
  · obtain ⟨x, j, rfl, _⟩ := h; rfl
  · obtain ⟨x, j, rfl, hj, q⟩ := h
    refine ⟨_, (pss_cons (ps_set (i := 1) sc__law_refused.nd rfl (.inl rfl) (pe_lst (pa_cons pe_str (pa_cons pe_str (pa_cons pe_str (pa_cons pe_str (pa_cons pe_str (pa_cons pe_str (pa_cons pe_str (pa_cons pe_str (pa_cons pe_str (pa_cons pe_str (pa_cons pe_str pa_nil)))))))))))))
      (pss_cons (ps_set (i := 1) sc__law_refused.nd rfl (.inl rfl) (pe_op op_cat (pv 1) (pe_lst (pa_cons pe_str (pa_cons pe_str (pa_cons pe_str (pa_cons pe_str (pa_cons pe_str (pa_cons pe_str pa_nil)))))))))
      (pss_one (ps_ret (pe_tup (pa_cons pe_str (pa_cons (pe_bm PySem.F.plainAttrs_list PySem.F.slot_list_index PySem.F.type_list_index mt_index (pv 1) (pa_cons (pv 0) pa_nil)) pa_nil))))))), ?_⟩
    with_reducible refine seq_k fun K_ hK_ => ?_
    walk_at "rt"
    intro p0 hp0
    walk_at "rt"
    subst hK_
    first | with_reducible refine seq_k fun K_ hK_ => ?_ | skip
    walk_at "rt"
    intro q0 hq0
    have u0 := (same_upd (o := .lst ((exWords.take 11).map V.str)) hp0).trans (same_upd (o := .lst ((exWords.drop 11).map V.str)) hq0)
    refine ⟨p0, q0, (exWords.take 11).map V.str, (exWords.drop 11).map V.str, rfl, rfl, (same_upd hq0) _ _ upd_same, upd_same, sz (by decide), fun p1 hp1 => ?_⟩
    have s1 := u0.trans (same_upd (o := .lst (exWords.map V.str)) hp1)
    walk_at "rt"
    subst hK_
    first | with_reducible refine seq_k fun K_ hK_ => ?_ | skip
    walk_at "rt"
    have h17 : j < 17 := lt_of_get hj
    have e17 : exWords.getD j "" = x := by rw [List.getD_eq_getElem?_getD, hj]; rfl
    have fl : (exWords.map V.str).all flatV = true := by decide +kernel
    refine ⟨tyL (xs := exWords.map V.str) upd_same, p1, exWords.map V.str, .str x, j, .str x, rfl, rfl, sqL upd_same, rfl, fl, by rw [List.getElem?_map, hj]; rfl, by simp [eqV], fun m z hm hz => ?_, ?_⟩
    · rw [List.getElem?_map] at hz
      cases e : exWords[m]? with
      | none => rw [e] at hz; cases hz
      | some y =>
        rw [e] at hz
        cases hz
        have h17' : m < 17 := lt_of_get e
        have e17' : exWords.getD m "" = y := by rw [List.getD_eq_getElem?_getD, e]; rfl
        have : y ≠ x := fun z => by
          have := wd_at j (List.mem_range.mpr h17) m (List.mem_range.mpr h17') (by rw [e17, e17', z])
          omega
        simp [this, eqV]
    · intro p2 hp2
      exact q p2 _ (s1.trans (same_upd hp2)) (s1.free hp2) upd_same
end
end Nk
namespace Nk
open PySem L2
section
variable {P : Program} {w : World} {K : PySem.W.Frag} {mg : Str → Option Value} {base : Heap}
abbrev nm__law_one : List Str := ["kind", "some"]
abbrev pm__law_one : List Str := ["kind", "some"]
abbrev lv__law_one : Nat := 6
theorem sc__law_one : FnScope nm__law_one pm__law_one (defScope s__law_one) := ⟨rfl, rfl, rfl, by decide +kernel, rfl, by decide +kernel, by decide +kernel⟩
theorem sending_mono {vs : List V} {H : Hp} {Q Q' : VK} {E E' : XK} (h : sp_sending K mg vs H Q E) (hq : ∀ v H1, Q v H1 → Q' v H1) (he : ∀ c d H1, E c d H1 → E' c d H1) : sp_sending K mg vs H Q' E' := by
  obtain ⟨t0, x, y, h1, h2, h3, h4, h5⟩ := h
  refine ⟨t0, x, y, h1, h2, h3, fun z H' s => he _ _ _ (h4 z H' s), fun l m xs ys ps qs a1 a2 a3 a4 a5 a6 a7 a8 => ?_⟩
  obtain ⟨b1, b2⟩ := h5 l m xs ys ps qs a1 a2 a3 a4 a5 a6 a7 a8
  exact ⟨fun z H' s => he _ _ _ (b1 z H' s), fun z r zs rs hv H' c1 c2 c3 c4 c5 => hq _ _ (b2 z r zs rs hv H' c1 c2 c3 c4 c5)⟩
def sp__law_one (K : PySem.W.Frag) (mg : Str → Option Value) : Sp := fun vs H Q E => ∃ (k : Int) (q : Addr) (x y : V), vs = [.int k, .ref q] ∧ H q = some (.tup [x, y]) ∧ sp_sending K mg [x, y] H Q E
theorem one_mono {vs : List V} {H : Hp} {Q Q' : VK} {E E' : XK} (h : sp__law_one K mg vs H Q E) (hq : ∀ v H1, Q v H1 → Q' v H1) (he : ∀ c d H1, E c d H1 → E' c d H1) : sp__law_one K mg vs H Q' E' := by
  obtain ⟨k, q, x, y, h1, h2, h3⟩ := h
  exact ⟨k, q, x, y, h1, h2, sending_mono h3 hq he⟩
theorem f__law_one (T : Txt K mg) : Fk P w K mg base (L2.CX P w) lv__law_one "_law_one" pm__law_one (sp__law_one K mg) := by
  obtain ⟨f, fd, F, g, b⟩ := T.d__law_one.ex
  refine ⟨f, fd, g, F.kp, b, F.okX sc__law_one (fun vs H Q E h => ?_) (fun cdv A outer s H vs Q E hr h => ?_)⟩
  · obtain ⟨k, q, x, y, rfl, _⟩ := h; rfl
  · obtain ⟨k, q, x, y, rfl, hq, h3⟩ := h
    refine ⟨_, (pss_one (ps_ret (pe_fn (f_sending T) (hr.mono (by decide)) (by rfl) (passX (takes_of rfl rfl rfl rfl)) (pa_cons (pe_ix ix_tup (pv 1) pe_int (fun _ _ => rfl)) (pa_cons (pe_ix ix_tup (pv 1) pe_int (fun _ _ => rfl)) pa_nil))))), ?_⟩
    walk_at "ru"
    refine ixT (j := 0) (sqT hq) rfl rfl ?_
    refine ixT (j := 1) (sqT hq) rfl rfl ?_
    exact h3
end
end Nk
namespace Nk
open PySem L2
section
variable {P : Program} {w : World} {K : PySem.W.Frag} {mg : Str → Option Value} {base : Heap}
abbrev nm__law_told : List Str := ["kind", "some", "caught", "found", "e"]
abbrev pm__law_told : List Str := ["kind", "some"]
abbrev lv__law_told : Nat := 7
theorem sc__law_told : FnScope nm__law_told pm__law_told (defScope s__law_told) := ⟨rfl, rfl, rfl, by decide +kernel, rfl, by decide +kernel, by decide +kernel⟩
/-- whatever _law_one promises, told in a pair -/
def sp__law_told (K : PySem.W.Frag) (mg : Str → Option Value) : Sp := fun vs H Q _ => ∃ x y, vs = [x, y] ∧ sp__law_one K mg [x, y] H (fun v H1 => ∀ p H2, Same H1 H2 → H1 p = none → H2 p = some (.tup [.str "found", v]) → Q (.ref p) H2)
  (fun c d H1 => ∃ (n : Str) (j : Nat), c = .ref (cls mg n) ∧ exNames[j]? = some n ∧ (∀ dd, d = some dd → ∃ fs, H1 dd = some (.xd fs)) ∧ ∀ p H2, Same H1 H2 → H1 p = none → H2 p = some (.tup [.str "refused", .int j]) → Q (.ref p) H2)
theorem f__law_told (T : Txt K mg) : Fk P w K mg base CX0 lv__law_told "_law_told" pm__law_told (sp__law_told K mg) := by
  obtain ⟨f, fd, F, g, b⟩ := T.d__law_told.ex
  refine ⟨f, fd, g, F.kp, b, F.ok sc__law_told (fun vs H Q E h => ?_) (fun cdv A outer s H vs Q E hr h => ?_)⟩
  · obtain ⟨x, y, rfl, _⟩ := h; rfl
  · obtain ⟨x, y, rfl, h⟩ := h
    refine ⟨_, (pss_cons (ps_set (i := 2) sc__law_told.nd rfl (.inl rfl) pe_non)
      (pss_cons (ps_set (i := 3) sc__law_told.nd rfl (.inl rfl) pe_non)
      (pss_cons (ps_try_kept (i := 4) (j := 2) (tb := fun W => tAsg (tCallS (sp__law_one K mg) (WE W) (tCons (tVar 0) (tCons (tVar 1) tNil))) (gName 3)) (Wout := fun _ _ _ _ => False) rfl rfl rfl sc__law_told.nd rfl rfl ⟨rfl, by decide, Or.inl T.k_err.gP⟩ tk0
        (fun W pn xe tk _ => pss_one (ps_set (i := 3) sc__law_told.nd rfl (.inl rfl) (by exact (pe_fnS (f__law_one T) (hr.mono (by decide)) rfl (fun σ => passAt tk σ) (by exact (pa_cons (pv 0) (pa_cons (pv 1) pa_nil)))))))
        (fun a oe pn => pss_one (ps_set (i := 2) sc__law_told.nd rfl (.inl rfl) (pv 4))) (by show 4 < 5; decide))
      (pss_cons (ps_if (pt_cmpR op_isN (pv 2) pe_non (nomark _)) (pss_one (ps_ret (pe_tup (pa_cons pe_str (pa_cons (pv 3) pa_nil))))) pss_nil)
      (pss_one (ps_ret (pe_tup (pa_cons pe_str (pa_cons (pe_fn (f__law_word T) (hr.mono (by decide)) (by rfl) pass0 (pa_cons (pv 2) pa_nil)) pa_nil))))))))), ?_⟩
    with_reducible refine seq_k fun K_ hK_ => ?_
    walk_at "rt"
    walk_at "rt"
    subst hK_
    first | with_reducible refine seq_k fun K_ hK_ => ?_ | skip
    walk_at "rt"
    walk_at "rt"
    subst hK_
    first | with_reducible refine seq_k fun K_ hK_ => ?_ | skip
    walk_at "rt"
    refine one_mono h (fun v H1 q => ?_) (fun c d H1 q => ?_)
    · walk_at "rt"
      subst hK_
      first | with_reducible refine seq_k fun K_ hK_ => ?_ | skip
      walk_at "rt"
      walk_at "rt"
      subst hK_
      first | with_reducible refine seq_k fun K_ hK_ => ?_ | skip
      walk_at "rt"
      intro p hp
      exact q p _ (same_upd hp) hp upd_same
    · obtain ⟨n, j, rfl, hj, hd, q⟩ := q
      have hn : n ∈ exNames := List.mem_of_getElem? hj
      refine ⟨true, (ec_all T n hn).exm T.k_err, fun _ a ha => ?_, fun e => nomatch e⟩
      have s1 := same_upd (o := ExV (.ref (cls mg n)) d a) ha
      walk_at "rt"
      subst hK_
      first | with_reducible refine seq_k fun K_ hK_ => ?_ | skip
      walk_at "rt"
      walk_at "rt"
      subst hK_
      first | with_reducible refine seq_k fun K_ hK_ => ?_ | skip
      walk_at "rt"
      refine ⟨a, j, rfl, ⟨n, d, hj, upd_same, fun dd e => ?_⟩, fun H2 s2 => ?_⟩
      · obtain ⟨fs, h⟩ := hd dd e
        exact ⟨fs, s1 _ _ h⟩
      · intro p hp
        have s3 := s1.trans s2
        exact q p _ (s3.trans (same_upd hp)) (s3.free hp) upd_same
end
end Nk
namespace Nk
open PySem L2
section
variable {P : Program} {w : World} {K : PySem.W.Frag} {mg : Str → Option Value} {base : Heap}
theorem kvsT_inj {t u : Tb} (h : kvsT t = kvsT u) : t = u := by
  unfold kvsT at h
  refine (List.map_inj_right fun a b e => ?_).mp h
  have e1 : (Sum.inr a.1 : Key) = Sum.inr b.1 := (Prod.mk.inj e).1
  have e2 := V.int.inj (Prod.mk.inj e).2
  exact Prod.ext (Sum.inr.inj e1) e2
theorem PlAt.uniq {H : Hp} : ∀ {xs : List V} {ps qs : Pl}, PlAt mg H xs ps → PlAt mg H xs qs → ps = qs
  | [], [], [], _, _ => rfl
  | x :: xs, p :: ps, q :: qs, ⟨⟨a, k, e, ha, hk⟩, r⟩, ⟨⟨a', k', e', ha', hk'⟩, r'⟩ => by
    subst e
    cases e'
    rw [ha] at ha'
    have e0 := HO.tup.inj (Option.some.inj ha')
    have e1 := V.int.inj (List.cons.inj e0).1
    have e2 := V.ref.inj (List.cons.inj (List.cons.inj e0).2).1
    subst e2
    rw [PlAt.uniq r r', Prod.ext e1 (kvsT_inj (hk.inj hk'))]
theorem SendS.len {l0 its left hv : Pl} {rs : List Sent} (h : SendS l0 its left hv rs) : left.length + rs.length = l0.length := by
  induction h with
  | start => rfl
  | next h hp hm ih =>
    have := lt_of_get hp
    rw [List.length_eraseIdx, if_pos this, List.length_append]
    simp only [List.length_cons, List.length_nil]
    omega
theorem dp_ref {H : Hp} {r : Addr} {j : Nat} (hr : H r = some (.tup [.str "refused", .int j])) : Dp K H (.ref r) (.tuple [.str "refused", .int j]) := .tup (sqT hr) (.cons (.str _) (.cons (.int _) .nil))
theorem told_bad {H : Hp} {q t0 : Addr} {x y : V} {Q : VK} {E : XK} (hq : H q = some (.tup [x, y])) (hX : Plc K mg t0 H x) (hY : Plc K mg t0 H y) (bad : ¬ (IsPl mg H x ∧ IsPl mg H y))
    (k : ∀ r H', Same H H' → H' r = some (.tup [.str "refused", .int (4 : Nat)]) → Q (.ref r) H') : sp__law_told K mg [.int 0, .ref q] H Q E :=
  ⟨_, _, rfl, 0, q, x, y, rfl, hq, t0, x, y, rfl, hX, hY, fun _ H1 s1 => ⟨"BadNights", 4, rfl, rfl, (fun _ e => nomatch e), fun r H3 s3 _ hr => k r H3 (s1.trans s3) hr⟩,
    fun l m xs ys ps qs e1 e2 h1 h2 h3 h4 g1 g2 => absurd ⟨⟨l, xs, ps, e1, h1, h3, g1⟩, ⟨m, ys, qs, e2, h2, h4, g2⟩⟩ bad⟩
theorem told_pl {H : Hp} {q t0 l m : Addr} {xs ys : List V} {ps qs : Pl} {Q : VK} {E : XK} (hq : H q = some (.tup [.ref l, .ref m])) (hX : Plc K mg t0 H (.ref l)) (hY : Plc K mg t0 H (.ref m)) (hl : H l = some (.lst xs)) (hm : H m = some (.lst ys)) (hP : PlAt mg H xs ps) (hQ : PlAt mg H ys qs) (gp : GoodPl ps) (gq : GoodPl qs)
    (k1 : (¬ ∀ p ∈ ps, ∀ q ∈ qs, alike p q) → ∀ r H', Same H H' → H' r = some (.tup [.str "refused", .int (15 : Nat)]) → Q (.ref r) H')
    (k2 : (∀ p ∈ ps, ∀ q ∈ qs, alike p q) → ∀ r f zs H', Same H H' → H' r = some (.tup [.str "found", .ref f]) → H' f = some (.lst zs) → zs.length = (lackS ps qs).length → Q (.ref r) H') : sp__law_told K mg [.int 0, .ref q] H Q E := by
  refine ⟨_, _, rfl, 0, q, _, _, rfl, hq, t0, _, _, rfl, hX, hY, fun z => absurd ⟨⟨l, xs, ps, rfl, hl, hP, gp⟩, ⟨m, ys, qs, rfl, hm, hQ, gq⟩⟩ z, fun l' m' xs' ys' ps' qs' e1 e2 h1 h2 h3 h4 g1 g2 => ?_⟩
  cases e1
  cases e2
  rw [hl] at h1
  rw [hm] at h2
  cases h1
  cases h2
  have z1 := PlAt.uniq h3 hP
  have z2 := PlAt.uniq h4 hQ
  subst z1 z2
  refine ⟨fun z H1 s1 => ⟨"Unlike", 15, rfl, rfl, (fun _ e => nomatch e), fun r H3 s3 _ hr => k1 z r H3 (s1.trans s3) hr⟩, fun z f zs rs hv H1 s1 nf hf hSt hSn r H3 s3 _ hr => ?_⟩
  have := hSn.len
  have e := hSt.len
  refine k2 z r f zs H3 (s1.trans s3) hr (s3 _ _ hf) ?_
  simp only [List.length_nil] at this
  omega
theorem both_ref {H8 : Hp} {r : Addr} {x y : V} {j : Nat} {w : Str} {Q : VK} (hw : exWords[j]? = some w) (hg : gd 1 (.tuple [.str "refused", .int j]) = true) (hr : H8 r = some (.tup [.str "refused", .int j]))
    (kk : ∀ H9 p, Same H8 H9 → H9 p = some (.tup [y, x]) → ∀ Q' : VK, (∀ r2 H', Same H9 H' → H' r2 = some (.tup [.str "refused", .int j]) → Q' (.ref r2) H') → sp__law_told K mg [.int 0, .ref p] H9 Q' E0) (q : ∀ H, Q (.bl true) H) :
    sp__law_refused [.str w] H8 (fun y_1 H2 => rEqD K (V.ref r) y_1 H2 fun x_1 H1 => ∃ c, x_1 = V.bl c ∧ if c = true then ∀ (p : Addr), H1 p = none → sp__law_told K mg [V.int 0, V.ref p] (upd H1 p (HO.tup [y, x])) (fun x H1 => rEqD K x (V.ref r) H1 Q) E0 else Q (V.bl false) H1) E0 := by
  refine ⟨w, j, rfl, hw, fun p H1 s1 np hp => ?_⟩
  refine eqD (dp_ref (s1 _ _ hr)) (dp_ref hp) hg hg (fun _ => ?_) (fun z => absurd rfl z)
  refine ⟨true, rfl, ?_⟩
  rw [if_pos rfl]
  intro p2 hp2
  refine kk _ _ (s1.trans (same_upd hp2)) upd_same _ fun r2 H2 s2 hr2 => ?_
  exact eqD (dp_ref hr2) (dp_ref (((s1.trans (same_upd hp2)).trans s2) _ _ hr)) hg hg (fun _ => q _) (fun z => absurd rfl z)
def lookP (qs : Pl) (n : Int) : Tb := ((qs.find? fun p => decide (p.1 = n)).map (·.2)).getD []
/-- a dict of nights with dicts -/
def TdAt (H : Hp) : List (Key × V) → Pl → Prop
  | [], [] => True
  | kv :: kvs, p :: ps => (kv.1 = Sum.inl p.1 ∧ ∃ d, kv.2 = .ref d ∧ H d = some (.dK (kvsT p.2))) ∧ TdAt H kvs ps
  | _, _ => False
theorem TdAt.keep {H H' : Hp} (h2 : ∀ b kvs, H b = some (.dK kvs) → H' b = some (.dK kvs)) : ∀ {kvs : List (Key × V)} {ps : Pl}, TdAt H kvs ps → TdAt H' kvs ps
  | [], [], _ => trivial
  | kv :: kvs, p :: ps, ⟨⟨e, d, e2, hd⟩, r⟩ => ⟨⟨e, d, e2, h2 _ _ hd⟩, TdAt.keep h2 r⟩
theorem TdAt.keys {H : Hp} : ∀ {kvs : List (Key × V)} {ps : Pl}, TdAt H kvs ps → kvs.map (·.1) = ps.map fun p => Sum.inl p.1
  | [], [], _ => rfl
  | kv :: kvs, p :: ps, ⟨⟨e, d, e2, hd⟩, r⟩ => by rw [List.map_cons, List.map_cons, e, TdAt.keys r]
theorem TdAt.val {H : Hp} {n : Int} : ∀ {kvs : List (Key × V)} {ps : Pl}, TdAt H kvs ps → n ∈ ps.map (·.1) → ∃ d, valV kvs (Sum.inl n) = some (.ref d) ∧ H d = some (.dK (kvsT (lookP ps n)))
  | [], [], _, h => nomatch h
  | (k, v) :: kvs, p :: ps, ⟨⟨e, d, e2, hd⟩, r⟩, h => by
    have e : k = Sum.inl p.1 := e
    have e2 : v = .ref d := e2
    subst e e2
    by_cases c : p.1 = n
    · refine ⟨d, by rw [valV_pos (by rw [c])], ?_⟩
      unfold lookP
      rw [List.find?_cons_of_pos (by simpa using c)]
      exact hd
    · obtain ⟨d', h1, h2⟩ := TdAt.val r (by
        rcases List.mem_cons.mp h with h | h
        · exact absurd h.symm c
        · exact h)
      refine ⟨d', by rw [valV_neg (fun z => c (Sum.inl.inj z))]; exact h1, ?_⟩
      unfold lookP
      rw [List.find?_cons_of_neg (by simpa using c)]
      exact h2
theorem TdAt.valN {H : Hp} {n : Int} : ∀ {kvs : List (Key × V)} {ps : Pl}, TdAt H kvs ps → n ∉ ps.map (·.1) → valV kvs (Sum.inl n) = none
  | [], [], _, h => rfl
  | (k, v) :: kvs, p :: ps, ⟨⟨e, d, e2, hd⟩, r⟩, h => by
    have e : k = Sum.inl p.1 := e
    subst e
    rw [List.map_cons, List.mem_cons, not_or] at h
    rw [valV_neg (fun z => h.1 (Sum.inl.inj z).symm)]
    exact TdAt.valN r h.2
theorem PdAt.pairs {H : Hp} : ∀ {xs : List V} {ps : Pl}, PdAt H xs ps → ∃ (as : List Addr) (kvs : List (Key × V)), xs = as.map V.ref ∧ Paired (fun p (kv : Key × V) => SqT K H p [kV kv.1, kv.2]) as kvs ∧ TdAt H kvs ps
  | [], [], _ => ⟨[], [], rfl, .nil, trivial⟩
  | x :: xs, p :: ps, ⟨⟨q, d, e, hq, hd⟩, r⟩ => by
    obtain ⟨as, kvs, h1, h2, h3⟩ := PdAt.pairs r
    exact ⟨q :: as, (Sum.inl p.1, .ref d) :: kvs, by rw [e, h1]; rfl, .cons (sqT hq) h2, ⟨⟨rfl, d, rfl, hd⟩, h3⟩⟩
theorem lookP_of {n : Int} {t : Tb} : ∀ {qs : Pl}, qs.Pairwise (fun a b => a.1 < b.1) → (n, t) ∈ qs → lookP qs n = t
  | q :: qs, h, hm => by
    unfold lookP
    obtain ⟨h1, h2⟩ := List.pairwise_cons.mp h
    rcases List.mem_cons.mp hm with e | e
    · rw [← e, List.find?_cons_of_pos (by simp)]
      rfl
    · have := h1 _ e
      have hne : ¬ q.1 = n := by
        intro z
        simp only at this
        omega
      rw [List.find?_cons_of_neg (by simpa using hne)]
      exact lookP_of h2 e
theorem PlAt.ok {H : Hp} : ∀ {xs : List V} {ps : Pl}, PlAt mg H xs ps → ∀ p ∈ ps, OkT p.2
  | [], [], _, _, h => nomatch h
  | x :: xs, p :: ps, ⟨⟨q, k, e, hq, hk⟩, r⟩, p', hp' => by
    rcases List.mem_cons.mp hp' with z | z
    · rw [z]; exact hk.ok
    · exact PlAt.ok r p' z
theorem diffs_nil {ps qs : Pl} (h1 : ∀ p ∈ ps, OkT p.2) (h2 : ∀ q ∈ qs, OkT q.2) (g : qs.Pairwise (fun a b => a.1 < b.1)) :
    (ps.filter fun p : Int × Tb => decide (p.1 ∈ qs.map (·.1))).filter (fun p => !eqDk (kvsT (lookP qs p.1)) (kvsT p.2)) = [] ↔ ∀ p ∈ ps, ∀ q ∈ qs, alike p q := by
  rw [List.filter_eq_nil_iff]
  constructor
  · intro h p hp q hq e
    have := h p (List.mem_filter.mpr ⟨hp, by rw [decide_eq_true_eq, e]; exact List.mem_map.mpr ⟨q, hq, rfl⟩⟩)
    rw [e, lookP_of g (t := q.2) hq] at this
    have := (eq_T (h2 q hq) (h1 p hp)).mp (by simpa using this)
    exact fun n => (this n).symm
  · intro h p hp
    obtain ⟨hp1, hp2⟩ := List.mem_filter.mp hp
    obtain ⟨q, hq, e⟩ := List.mem_map.mp (of_decide_eq_true hp2)
    rw [← e, lookP_of g (t := q.2) hq, (eq_T (h2 q hq) (h1 p hp1)).mpr fun n => (h p hp1 q hq e.symm n).symm]
    simp
theorem lack_len (ps qs : Pl) : (lackS ps qs).length + (ps.filter fun p : Int × Tb => decide (p.1 ∈ qs.map (·.1))).length = ps.length := by
  unfold lackS
  induction ps with
  | nil => rfl
  | cons p ps ih =>
    rw [List.filter_cons, List.filter_cons]
    by_cases c : p.1 ∈ qs.map (·.1)
    · rw [if_neg (by simpa using c), if_pos (by simpa using c)]
      simp only [List.length_cons]
      omega
    · rw [if_pos (by simpa using c), if_neg (by simpa using c)]
      simp only [List.length_cons]
      omega
theorem FlatK_T (t : Tb) : FlatK (kvsT t) := fun p hp => by
  obtain ⟨pr, _, rfl⟩ := List.mem_map.mp hp
  rfl
def iv76b (mg : Str → Option Value) (H0 : Hp) (D : Addr) (ps qs : Pl) (i : Nat) (H : Hp) : Prop := Same H0 H ∧ ∃ zs, H D = some (.lst zs) ∧ PlAt mg H zs ((ps.take i).filter fun p => decide (p.1 ∈ qs.map (·.1)))
def iv76p (H0 : Hp) (D : Addr) (qs : Pl) (i : Nat) (H : Hp) : Prop := Same H0 H ∧ ∃ zs, H D = some (.lst zs) ∧ PdAt H zs (qs.take i)
abbrev nm_law : List Str := ["script", "town", "mine", "its", "told", "table", "both", "apart", "night", "state"]
abbrev pm_law : List Str := ["script"]
abbrev lv_law : Nat := 8
theorem sc_law : FnScope nm_law pm_law (defScope s_law) := ⟨rfl, rfl, rfl, by decide +kernel, rfl, by decide +kernel, by decide +kernel⟩
theorem ok_law {f : Addr} {fd : FuncData} (F : Fun K "law" "law" s_law f fd) (T : Txt K mg) : FnOk P w K mg base CX0 lv_law f fd ["script"] (spLaw K) := by
  refine F.ok sc_law (fun vs H Q E h => ?_) (fun cdv A outer s H vs Q E hr h => ?_)
  · obtain ⟨a, ns, rfl, _⟩ := h; rfl
  · obtain ⟨a, ns, rfl, hS, hl, q⟩ := h
    have hu := hu_of hr
    refine ⟨_, (pss_cons (ps_set (i := 1) sc_law.nd rfl (.inl rfl) (pe_fn (f__law_town T) (hr.mono (by decide)) (by rfl) pass0 (pa_cons (pv 0) pa_nil)))
      (pss_cons (ps_set (i := 2) sc_law.nd rfl (.inl rfl) (pe_fn (f__law_spoilt T) (hr.mono (by decide)) (by rfl) pass0 (pa_cons (pv 0) (pa_cons (pv 1) (pa_cons (pe_fn (f__law_place T) (hr.mono (by decide)) (by rfl) pass0 (pa_cons (pv 0) (pa_cons (pv 1) pa_nil))) pa_nil)))))
      (pss_cons (ps_set (i := 3) sc_law.nd rfl (.inl rfl) (pe_fn (f__law_spoilt T) (hr.mono (by decide)) (by rfl) pass0 (pa_cons (pv 0) (pa_cons (pv 1) (pa_cons (pe_fn (f__law_place T) (hr.mono (by decide)) (by rfl) pass0 (pa_cons (pv 0) (pa_cons (pv 1) pa_nil))) pa_nil)))))
      (pss_cons (ps_set (i := 4) sc_law.nd rfl (.inl rfl) (pe_fn (f__law_told T) (hr.mono (by decide)) (by rfl) pass0 (pa_cons pe_int (pa_cons (pe_tup (pa_cons (pv 2) (pa_cons (pv 3) pa_nil))) pa_nil))))
      (pss_cons (ps_if (PW.pt (pw_or (pt_not (pt_val (pe_fn (f__law_place_good T) (hr.mono (by decide)) (by rfl) pass0 (pa_cons (pv 2) pa_nil)))) (pw_or1 (pt_not (pt_val (pe_fn (f__law_place_good T) (hr.mono (by decide)) (by rfl) pass0 (pa_cons (pv 3) pa_nil))))))) (pss_one (ps_ret (pe_and (pe_cmpR (op_eqD hr.units) (pv 4) (pe_fn (f__law_refused T) (hr.mono (by decide)) (by rfl) pass0 (pa_cons pe_str pa_nil)) (nomark _)) (pe_one (pe_cmpR (op_eqD hr.units) (pe_fn (f__law_told T) (hr.mono (by decide)) (by rfl) pass0 (pa_cons pe_int (pa_cons (pe_tup (pa_cons (pv 3) (pa_cons (pv 2) pa_nil))) pa_nil))) (pv 4) (nomark _)))))) pss_nil)
      (pss_cons (ps_set (i := 5) sc_law.nd rfl (.inr rfl) (pe_callTy (call_dictP rfl) (by rfl) T.b_dict (by decide +kernel) (pa_cons (pe_lc (own := [("night", 8), ("state", 9)]) (g := gTup K 2 (gCons (gName 8) (gCons (gName 9) (gNil)))) (tt := tYes) (by rfl) sc_law.nd (pi_list (pv 3)) (blkOk_by (own := [("night", 8), ("state", 9)]) (N := nm_law) (sc := defScope s_law) (by decide +kernel)) (fun _ _ _ _ _ => (pg_tupK K rfl rfl (pgs_cons (pg_name (i := 8) sc_law.nd rfl (Or.inl rfl)) (pgs_cons (pg_name (i := 9) sc_law.nd rfl (Or.inl rfl)) pgs_nil)))) (fun _ _ _ _ _ => pts_nil) (fun _ _ _ _ _ => (pe_tup (pa_cons (pv 8) (pa_cons (pe_me0K mg rfl (pv 9) T.o_State (f_State__plain T) (hr.mono (by decide)) pass0) pa_nil))))) pa_nil)))
      (pss_cons (ps_setLc (own := [("night", 8), ("state", 9)]) (g := gTup K 2 (gCons (gName 8) (gCons (gName 9) (gNil)))) (i := 6) (by rfl) sc_law.nd rfl rfl (sw_true rfl rfl rfl (by decide +kernel)) (pi_list (pv 2)) (blkOk_by (own := [("night", 8), ("state", 9)]) (N := nm_law) (sc := defScope s_law) (by decide +kernel)) (fun _ _ _ _ _ => (pg_tupK K rfl rfl (pgs_cons (pg_name (i := 8) sc_law.nd rfl (Or.inl rfl)) (pgs_cons (pg_name (i := 9) sc_law.nd rfl (Or.inl rfl)) pgs_nil)))) (fun _ _ _ _ _ => (pts_one (pt_cmp (pc_din hu (pv 8) (pv 5))))) (fun _ _ _ _ _ => (pe_tup (pa_cons (pv 8) (pa_cons (pv 9) pa_nil)))))
      (pss_cons (ps_setLc (own := [("night", 8), ("state", 9)]) (g := gTup K 2 (gCons (gName 8) (gCons (gName 9) (gNil)))) (i := 7) (by rfl) sc_law.nd rfl rfl (sw_true rfl rfl rfl (by decide +kernel)) (pi_list (pv 6)) (blkOk_by (own := [("night", 8), ("state", 9)]) (N := nm_law) (sc := defScope s_law) (by decide +kernel)) (fun _ _ _ _ _ => (pg_tupK K rfl rfl (pgs_cons (pg_name (i := 8) sc_law.nd rfl (Or.inl rfl)) (pgs_cons (pg_name (i := 9) sc_law.nd rfl (Or.inl rfl)) pgs_nil)))) (fun _ _ _ _ _ => (pts_one (pt_cmpR (op_neDk hr.units0) (pe_dget hu (pv 5) (pv 8) (fun _ _ => rfl)) (pe_me0K mg rfl (pv 9) T.o_State (f_State__plain T) (hr.mono (by decide)) pass0) (nomark _)))) (fun _ _ _ _ _ => (pv 8)))
      (pss_cons (ps_if (pt_cmpR (op_neD hr.units) (pv 7) (pe_lst pa_nil) (nomark _)) (pss_one (ps_ret (pe_and (pe_cmpR (op_eqD hr.units) (pv 4) (pe_fn (f__law_refused T) (hr.mono (by decide)) (by rfl) pass0 (pa_cons pe_str pa_nil)) (nomark _)) (pe_one (pe_cmpR (op_eqD hr.units) (pe_fn (f__law_told T) (hr.mono (by decide)) (by rfl) pass0 (pa_cons pe_int (pa_cons (pe_tup (pa_cons (pv 3) (pa_cons (pv 2) pa_nil))) pa_nil))) (pv 4) (nomark _)))))) pss_nil)
      (pss_one (ps_ret (pe_and (pe_cmpR op_eq (pe_ix ix_tup (pv 4) pe_int (fun _ _ => rfl)) pe_str (nomark _)) (pe_one (pe_cmpR op_eq (pe_callB call_len_seq (by rfl) T.b_len PySem.boot_len (pa_cons (pe_ix ix_tup (pv 4) pe_int (fun _ _ => rfl)) pa_nil)) (pe_op op_sub (pe_callB call_len_seq (by rfl) T.b_len PySem.boot_len (pa_cons (pv 2) pa_nil)) (pe_callB call_len_seq (by rfl) T.b_len PySem.boot_len (pa_cons (pv 6) pa_nil))) (nomark _))))))))))))))), ?_⟩
    with_reducible refine seq_k fun K_ hK_ => ?_
    walk_at "ru"
    refine ⟨a, ns, rfl, hS, hl, fun H1 t s1 T1 ht => ?_⟩
    walk_at "ru"
    subst hK_
    first | with_reducible refine seq_k fun K_ hK_ => ?_ | skip
    walk_at "ru"
    refine ⟨a, t, ns, 0, rfl, T1, by omega, fun L xs0 ps0 c2 H2 nL hLt hL hP0 hx0 hc2 T2 b2 => ?_⟩
    refine ⟨a, t, L, ns, c2, xs0, ps0, rfl, T2, by omega, hL, hLt, hP0, hx0, fun x c3 H3 hc3 T3 b3 hX3 => ?_⟩
    walk_at "ru"
    subst hK_
    first | with_reducible refine seq_k fun K_ hK_ => ?_ | skip
    walk_at "ru"
    refine ⟨a, t, ns, c3, rfl, T3, by omega, fun L2 ys0 qs0 c4 H4 nL2 hLt2 hL2 hQ0 hy0 hc4 T4 b4 => ?_⟩
    refine ⟨a, t, L2, ns, c4, ys0, qs0, rfl, T4, by omega, hL2, hLt2, hQ0, hy0, fun y c5 H5 hc5 T5 b5 hY5 => ?_⟩
    obtain ⟨z3, hz3⟩ := T3.lst
    obtain ⟨z4, hz4⟩ := T4.lst
    have hX5 := hX3.fr ((Fb.but b4 hz3).trans (Fb.but b5 hz4))
    walk_at "ru"
    subst hK_
    first | with_reducible refine seq_k fun K_ hK_ => ?_ | skip
    walk_at "ru"
    intro q1 n_q1
    generalize hG_ : upd _ q1 _ = H6
    obtain ⟨s6, hq1⟩ := newF n_q1 hG_
    clear hG_
    have T6 := T5.same s6
    have hX6 := hX5.fr (Fb.of s6)
    have hY6 := hY5.fr (Fb.of s6)
    by_cases hb : IsPl mg H6 x ∧ IsPl mg H6 y
    · obtain ⟨⟨l, xs, ps, rfl, hl, hP, gp⟩, ⟨m, ys, qs, rfl, hm, hQ, gq⟩⟩ := hb
      suffices go : ∀ r H7, Same H6 H7 → (((¬ ∀ p ∈ ps, ∀ q ∈ qs, alike p q) ∧ H7 r = some (.tup [.str "refused", .int (15 : Nat)])) ∨ ((∀ p ∈ ps, ∀ q ∈ qs, alike p q) ∧ ∃ fo zs, H7 r = some (.tup [.str "found", .ref fo]) ∧ H7 fo = some (.lst zs) ∧ zs.length = (lackS ps qs).length)) →
          K_ [some (V.ref a), some (V.ref t), some (V.ref l), some (V.ref m), some (V.ref r), none, none, none, none, none] H7 from
        told_pl hq1 hX6 hY6 hl hm hP hQ gp gq (fun hal r H7 s7 hr7 => go r H7 s7 (.inl ⟨hal, hr7⟩)) (fun hal r fo zs H7 s7 hr7 hfo hzl => go r H7 s7 (.inr ⟨hal, fo, zs, hr7, hfo, hzl⟩))
      subst hK_
      intro r H7 s7 hr7
      with_reducible refine seq_k fun K_ hK_ => ?_
      walk_at "ru"
      have isX : ∀ {H'}, Same H6 H' → IsPl mg H' (.ref l) := fun s => ⟨l, xs, ps, rfl, s _ _ hl, hP.same s, gp⟩
      have isY : ∀ {H'}, Same H6 H' → IsPl mg H' (.ref m) := fun s => ⟨m, ys, qs, rfl, s _ _ hm, hQ.same s, gq⟩
      refine ⟨t, _, rfl, hX6.fr (Fb.of s7), fun _ H8 s8 => ⟨true, rfl, ?_⟩, fun c1 H8 s8 => absurd (isX s7) c1⟩
      rw [if_neg (by simp)]
      have s68 := s7.trans s8
      refine ⟨t, _, rfl, hY6.fr (Fb.of s68), fun _ H9 s9 => ⟨true, rfl, ?_⟩, fun c1 H9 s9 => absurd (isY s68) c1⟩
      rw [if_neg (by simp)]
      have s69 := s68.trans s9
      have s79 := s8.trans s9
      have hl9 := s69 _ _ hl
      have hm9 := s69 _ _ hm
      have hP9 := hP.same s69
      have hQ9 := hQ.same s69
      have hxl := hP.len
      have hyl := hQ.len
      have gpl := gp.len
      have gql := gq.len
      walk_at "ru"
      subst hK_
      first | with_reducible refine seq_k fun K_ hK_ => ?_ | skip
      walk_at "ru"
      refine ⟨⟨_, sqL hm9⟩, fun D hD => ?_⟩
      refine lc_list (K := K) (a := m) (xs := ys) (iv76p H9 D qs) ⟨same_upd hD, [], upd_same, by simp [PdAt]⟩ (fun i H5 _ p => sqL (p.1 _ _ hm9)) (fun i x HA hx pv => ?_) fun HA pv => ?_
      · obtain ⟨sA, zs, hDA, hPA⟩ := pv
        obtain ⟨p, q1, k1, e1, rfl, e3, e4⟩ := (hQ9.same sA).get hx
        refine ⟨q1, _, rfl, sqT e3, rfl, ?_⟩
        walk_at "ru"
        obtain ⟨dx, dd, g1, g2⟩ := e4.ex
        refine ⟨dx, _, g1, rfl, k1, _, rfl, e4, fun d HB sB nd hd => ?_⟩
        intro p1 n_p1
        generalize hG_ : upd _ p1 _ = HC
        obtain ⟨sC, hp1⟩ := newF n_p1 hG_
        clear hG_
        have sAC := sB.trans sC
        have hDC := sAC _ _ hDA
        have kt : ∀ b xs o, HC b = some (.tup xs) → (upd HC D (.lst o)) b = some (.tup xs) := fun b xs o e => by rw [upd_ne (ne_of e hDC (by intro z; cases z))]; exact e
        have kd : ∀ b kvs o, HC b = some (.dK kvs) → (upd HC D (.lst o)) b = some (.dK kvs) := fun b kvs o e => by rw [upd_ne (ne_of e hDC (by intro z; cases z))]; exact e
        have hzl := hPA.len
        rw [List.length_take] at hzl
        refine ⟨zs, hDC, szl (by omega), Same.app (sA.trans sAC) hD, zs ++ [.ref p1], upd_same, ?_⟩
        rw [take_next e1]
        exact ((hPA.same sAC).app (PdAt.one (p := p) hp1 (sC _ _ hd))).keep (fun b xs e => kt b xs _ e) (fun b kvs e => kd b kvs _ e)
      · obtain ⟨sA, zs, hDA, hPA⟩ := pv
        rw [hyl, List.take_length] at hPA
        obtain ⟨as, kvs, rfl, hpr, hTd⟩ := PdAt.pairs (K := K) hPA
        refine ⟨as, sqL hDA, kvs, hpr, ?_⟩
        have ndk : ((([] : List (Key × V)) ++ kvs).map (·.1)).Nodup := by
          rw [List.nil_append, hTd.keys]
          have := gq.pw
          rw [List.Nodup, List.pairwise_map]
          exact this.imp fun h e => by have := Sum.inl.inj e; omega
        rw [mergeK_nd ndk, List.nil_append]
        intro tb n_tb
        generalize hG_ : upd _ tb _ = HB
        obtain ⟨sB, htb⟩ := newF n_tb hG_
        clear hG_
        have sAB := sA.trans sB
        have hTdB := hTd.keep fun b kvs e => sB _ _ e
        have hPB := hP9.same sAB
        have hlB := sAB _ _ hl9
        walk_at "ru"
        subst hK_
        first | with_reducible refine seq_k fun K_ hK_ => ?_ | skip
        walk_at "ru"
        refine ⟨⟨_, sqL hlB⟩, fun D2 hD2 => ?_⟩
        refine lc_list (K := K) (a := l) (xs := xs) (iv76b mg HB D2 ps qs) ⟨same_upd hD2, [], upd_same, by simp [PlAt]⟩ (fun i H5 _ p => sqL (p.1 _ _ hlB)) (fun i x HC hx pv => ?_) fun HC pv => ?_
        · obtain ⟨sC, zs, hDC, hPC⟩ := pv
          obtain ⟨p, q1, k1, e1, rfl, e3, e4⟩ := (hPB.same sC).get hx
          refine ⟨q1, _, rfl, sqT e3, rfl, ?_⟩
          walk_at "ru"
          have hft := filter_take_next (fun p : Int × Tb => decide (p.1 ∈ qs.map (·.1))) e1
          have hzl := hPC.len
          have hfl := filter_len ps (fun p : Int × Tb => decide (p.1 ∈ qs.map (·.1))) i
          refine ⟨_, DGet.k (k := Sum.inl p.1) (sC _ _ htb), ?_⟩
          by_cases c : p.1 ∈ qs.map (·.1)
          · obtain ⟨d, hv, _⟩ := hTdB.val c
            rw [hv, if_pos (show (some (V.ref d)).isSome = true from rfl)]
            rw [if_pos (decide_eq_true c)] at hft
            intro p1 n_p1
            generalize hG_ : upd _ p1 _ = HE
            obtain ⟨sE, hp1⟩ := newF n_p1 hG_
            clear hG_
            have hDE := sE _ _ hDC
            refine ⟨zs, hDE, szl (by omega), Same.app (sC.trans sE) hD2, zs ++ [.ref p1], upd_same, ?_⟩
            rw [hft]
            exact ((hPC.same sE).app (PlAt.one (p := p) hp1 (e4.same sE))).but But.upd hDE
          · rw [hTdB.valN c, if_neg (by simp)]
            rw [if_neg (by simpa using c), List.append_nil] at hft
            exact ⟨sC, zs, hDC, by rw [hft]; exact hPC⟩
        · obtain ⟨sC, zs, hDC, hPC⟩ := pv
          rw [hxl, List.take_length] at hPC
          have hzl := hPC.len
          have hbl := filter_len ps (fun p : Int × Tb => decide (p.1 ∈ qs.map (·.1))) ps.length
          rw [List.take_length] at hbl
          generalize hbs : ps.filter (fun p : Int × Tb => decide (p.1 ∈ qs.map (·.1))) = bs at hPC hzl hbl
          have htbC := sC _ _ htb
          have hTdC := hTdB.keep fun b kvs e => sC _ _ e
          walk_at "ru"
          subst hK_
          first | with_reducible refine seq_k fun K_ hK_ => ?_ | skip
          walk_at "ru"
          refine ⟨⟨_, sqL hDC⟩, fun D3 hD3 => ?_⟩
          refine lc_list (K := K) (a := D2) (xs := zs) (LcP HC D3 fun i => ((bs.take i).filter fun p => !eqDk (kvsT (lookP qs p.1)) (kvsT p.2)).map fun p => V.int p.1) ⟨same_upd hD3, upd_same⟩ (fun i H5 _ p => sqL (p.same _ _ hDC)) (fun i x HE hx pv => ?_) fun HE pv => ?_
          · obtain ⟨p, q1, k1, e1, rfl, e3, e4⟩ := (hPC.same pv.same).get hx
            refine ⟨q1, _, rfl, sqT e3, rfl, ?_⟩
            walk_at "ru"
            have hft := filter_take_next (fun p : Int × Tb => !eqDk (kvsT (lookP qs p.1)) (kvsT p.2)) e1
            have hfl := filter_len bs (fun p : Int × Tb => !eqDk (kvsT (lookP qs p.1)) (kvsT p.2)) i
            have hpq : p.1 ∈ qs.map (·.1) := by
              have := mem_of_get e1
              rw [← hbs] at this
              exact of_decide_eq_true (List.mem_filter.mp this).2
            obtain ⟨d, hv, hd⟩ := hTdC.val hpq
            have hg := DGet.k (k := Sum.inl p.1) (pv.same _ _ htbC)
            rw [hv] at hg
            obtain ⟨dx, dd, g1, g2⟩ := e4.ex
            refine ⟨_, hg, dx, _, g1, rfl, k1, _, rfl, e4, fun d2 HF sF nd2 hd2 => ?_⟩
            refine ⟨d, d2, _, _, rfl, rfl, sF _ _ (pv.same _ _ hd), hd2, FlatK_T _, FlatK_T _, _, rfl, ?_⟩
            rw [if_pos rfl]
            cases ec : eqDk (kvsT (lookP qs p.1)) (kvsT p.2) with
            | true =>
              rw [if_neg (by simp)]
              rw [ec, if_neg (by simp), List.append_nil] at hft
              exact pv.skip sF (by simp only [hft])
            | false =>
              rw [if_pos (by simp)]
              rw [ec, if_pos (by simp)] at hft
              exact pv.push hD3 (by rw [List.length_map]; omega) sF (by simp only [hft, List.map_append]; rfl)
          · have sE := pv.same
            have hD3E := pv.at_
            rw [hzl, List.take_length] at hD3E
            have hdn := diffs_nil (ps := ps) (qs := qs) hP.ok hQ.ok gq.pw
            rw [hbs] at hdn
            generalize (bs.filter fun p => !eqDk (kvsT (lookP qs p.1)) (kvsT p.2)) = ds at hD3E hdn
            have s7E := ((s79.trans sAB).trans sC).trans sE
            have s6E := s7.trans s7E
            walk_at "ru"
            subst hK_
            first | with_reducible refine seq_k fun K_ hK_ => ?_ | skip
            walk_at "ru"
            intro e0 n_e0
            generalize hG_ : upd _ e0 _ = HF
            obtain ⟨sF, he0⟩ := newF n_e0 hG_
            clear hG_
            have hD3F : HF D3 = some (.lst ((ds.map (·.1)).map V.int)) := by rw [sF _ _ hD3E, List.map_map]; rfl
            have s7F := s7E.trans sF
            have s6F := s6E.trans sF
            refine neD (dp_LI (sqL hD3F)) (dp_LI (ns := []) (sqL he0)) (gd_dLI (k := 0) _) (gd_dLI (k := 0) _) (fun e => ?_) (fun e => ?_)
            · have hal := hdn.mp (List.map_eq_nil_iff.mp (dLI_inj.mp e))
              refine ⟨false, rfl, ?_⟩
              rw [if_neg (by simp)]
              rcases hr7 with ⟨hn, _⟩ | ⟨_, fo, zs', hr7, hfo, hzl'⟩
              · exact absurd hal hn
              walk_at "ru"
              subst hK_
              first | with_reducible refine seq_k fun K_ hK_ => ?_ | skip
              walk_at "ru"
              refine ixT (j := 0) (sqT (s7F _ _ hr7)) rfl rfl ⟨rfl, ?_⟩
              rw [if_pos rfl]
              refine ixT (j := 1) (sqT (s7F _ _ hr7)) rfl rfl ?_
              refine ⟨fo, rfl, zs', .inl (sqL (s7F _ _ hfo)), xs, .inl (sqL (s6F _ _ hl)), zs, .inl (sqL ((sE.trans sF) _ _ hDC)), ?_⟩
              have hll := lack_len ps qs
              rw [hbs] at hll
              rw [decide_eq_true (by omega)]
              exact q _
            · have hal : ¬ ∀ p ∈ ps, ∀ q ∈ qs, alike p q := fun z => e (by rw [hdn.mpr z]; rfl)
              refine ⟨true, rfl, ?_⟩
              rw [if_pos rfl]
              rcases hr7 with ⟨_, hr7⟩ | ⟨hn, _⟩
              rotate_left
              · exact absurd hn hal
              refine both_ref rfl (by decide +kernel) (s7F _ _ hr7) (fun H9' p s9' hp Q' k => ?_) (fun _ => q _)
              have s6' := s6F.trans s9'
              refine told_pl hp (hY6.fr (Fb.of s6')) (hX6.fr (Fb.of s6')) (s6' _ _ hm) (s6' _ _ hl) (hQ.same s6') (hP.same s6') gq gp (fun _ => k) (fun z => absurd (fun p hp q hq => ?_) hal)
              intro e n
              exact (z q hq p hp e.symm n).symm
    · refine told_bad hq1 hX6 hY6 hb fun r H7 s7 hr7 => ?_
      walk_at "ru"
      subst hK_
      first | with_reducible refine seq_k fun K_ hK_ => ?_ | skip
      walk_at "ru"
      have hX7 := hX6.fr (Fb.of s7)
      have kk : ∀ {H8}, Same H7 H8 → ∀ H9 p, Same H8 H9 → H9 p = some (.tup [y, x]) → ∀ Q' : VK, (∀ r2 H', Same H9 H' → H' r2 = some (.tup [.str "refused", .int (4 : Nat)]) → Q' (.ref r2) H') → sp__law_told K mg [.int 0, .ref p] H9 Q' E0 := fun s8 H9 p s9 hp Q' k => by
        have s69 := (s7.trans s8).trans s9
        refine told_bad hp (hY6.fr (Fb.of s69)) (hX6.fr (Fb.of s69)) (fun z => hb ?_) k
        rw [IsPl.fr (Fb.of s69) hX6, IsPl.fr (Fb.of s69) hY6] at z
        exact ⟨z.2, z.1⟩
      refine ⟨t, x, rfl, hX7, fun c1 H8 s8 => ⟨true, rfl, ?_⟩, fun c1 H8 s8 => ⟨false, rfl, ?_⟩⟩
      · rw [if_neg (by simp)]
        refine ⟨t, y, rfl, hY6.fr (Fb.of (s7.trans s8)), fun c2 H9 s9 => ?_, fun c2 H9 s9 => ⟨false, rfl, ?_⟩⟩
        · rw [IsPl.fr (Fb.of s7) hX6] at c1
          rw [IsPl.fr (Fb.of (s7.trans s8)) hY6] at c2
          exact absurd ⟨c1, c2⟩ hb
        · rw [if_pos rfl]
          exact both_ref rfl (by decide +kernel) ((s8.trans s9) _ _ hr7) (kk (s8.trans s9)) (fun _ => q _)
      · rw [if_pos rfl]
        exact both_ref rfl (by decide +kernel) (s8 _ _ hr7) (kk s8) (fun _ => q _)
end
end Nk
namespace Nk
open PySem L2
theorem fin {P : Program} {w : World} {K : PySem.W.Frag} {mg : Str → Option Value} {fa : Addr} (hfa : mg "law" = some (.ref fa)) (T : Txt K mg) : ∃ fd : FuncData, (∀ (s : Shared) (v : Value), BindsTo s fd ⟨[v], []⟩ [("script", v)]) ∧ ∀ base : Heap, K.In base → base.Ns mainGlobals mg → FnOk P w K mg base CX0 8 fa fd ["script"] (spLaw K) :=
  law_end hfa T.d_law (fun _ _ _ _ _ _ _ => rfl) (fun base f fd F => ok_law F T)
end Nk
open PySem PySem.W PyProof.Rows
set_option maxRecDepth 100000 in
set_option maxHeartbeats 0 in
theorem PySem.Challenge.cw_nightkeep_k76_refused_sendings_holds : PySem.Challenge.rw_nightkeep_k76_refused_sendings.Holds := by
  w_on; o_law; k_head; (case hw => w_witness2)
  k_fill
  refine L2.walk_of (l := PySem.Challenge.rw_nightkeep_k76_refused_sendings) (n := 63) (k := 8) (x := "script") (CX := fun _ => L2.CX0) (sp := fun w => Nk.spLaw _) rfl (by decide) rfl ⟨rfl, by decide, by decide⟩ (fun w h Y => PySem.W.kIn_of Y) ?F (fun _ _ a ns hl _ hS => ⟨a, ns, rfl, hS, hl, fun _ => rfl⟩) (fun _ _ _ _ _ h => h)
  case F =>
    intro w mg fa h KX G hmg
    refine Nk.fin hmg ?_
    refine ⟨?d_is_number, ?d_is_name, ?d_is_state, ?d_part_of, ?d_is_place, ?d_best_base, ?d_sending, ?d__law_town, ?d__law_draw, ?d__law_pick, ?d__law_word, ?d__law_refused, ?d__law_told, ?d__law_whole, ?d__law_name, ?d__law_table, ?d__law_one, ?d__law_place_good, ?d__law_place, ?d__law_spoilt, ?d_law, ?x_KeepError, ?x_BadRounds, ?x_BadNight, ?x_BadNumber, ?x_BadRules, ?x_BadNights, ?x_Full, ?x_NotHeld, ?x_Pinned, ?x_NotPinned, ?x_BadState, ?x_BadPart, ?x_NotFit, ?x_IsWhole, ?x_BadPlan, ?x_Unlike, ?x_BadText, ?o_State, ?m_State____init__, ?m_State____len__, ?m_State____eq__, ?m_State____str__, ?m_State____repr__, ?m_State__number, ?m_State__names, ?m_State__plain, ?v_State, ?u_State, ?n_State__table, ?k_err, ?e_BadRounds, ?e_BadNight, ?e_BadNumber, ?e_BadRules, ?e_BadNights, ?e_Elder, ?e_Full, ?e_NotHeld, ?e_Pinned, ?e_NotPinned, ?e_BadState, ?e_BadPart, ?e_NotFit, ?e_IsWhole, ?e_BadPlan, ?e_Unlike, ?e_BadText, ?c_MOST_NIGHT, ?c_LETTERS, ?c_MOST_NAMES, ?b_RuntimeError, ?b_all, ?b_bool, ?b_dict, ?b_int, ?b_isinstance, ?b_len, ?b_list, ?b_min, ?b_range, ?b_set, ?b_sorted, ?b_str, ?b_tuple, ?b_zip⟩
    case d_is_number => (refine' Nk.df_mk (st := Nk.s_is_number) KX G (fun _ _ _ _ _ _ us hl => match us, hl with | [_, _, _], _ => rfl) ?a ?l ?c ?k; (case a => k_is); (case l => k_is); (case c => k_is); (case k => k_is))
    case d_is_name => (refine' Nk.df_mk (st := Nk.s_is_name) KX G (fun _ _ _ _ _ _ us hl => match us, hl with | [_], _ => rfl) ?a ?l ?c ?k; (case a => k_is); (case l => k_is); (case c => k_is); (case k => k_is))
    case d_is_state => (refine' Nk.df_mk (st := Nk.s_is_state) KX G (fun _ _ _ _ _ _ us hl => match us, hl with | [_], _ => rfl) ?a ?l ?c ?k; (case a => k_is); (case l => k_is); (case c => k_is); (case k => k_is))
    case d_part_of => (refine' Nk.df_mk (st := Nk.s_part_of) KX G (fun _ _ _ _ _ _ us hl => match us, hl with | [_, _], _ => rfl) ?a ?l ?c ?k; (case a => k_is); (case l => k_is); (case c => k_is); (case k => k_is))
    case d_is_place => (refine' Nk.df_mk (st := Nk.s_is_place) KX G (fun _ _ _ _ _ _ us hl => match us, hl with | [_], _ => rfl) ?a ?l ?c ?k; (case a => k_is); (case l => k_is); (case c => k_is); (case k => k_is))
    case d_best_base => (refine' Nk.df_mk (st := Nk.s_best_base) KX G (fun _ _ _ _ _ _ us hl => match us, hl with | [_, _], _ => rfl) ?a ?l ?c ?k; (case a => k_is); (case l => k_is); (case c => k_is); (case k => k_is))
    case d_sending => (refine' Nk.df_mk (st := Nk.s_sending) KX G (fun _ _ _ _ _ _ us hl => match us, hl with | [_, _], _ => rfl) ?a ?l ?c ?k; (case a => k_is); (case l => k_is); (case c => k_is); (case k => k_is))
    case d__law_town => (refine' Nk.df_mk (st := Nk.s__law_town) KX G (fun _ _ _ _ _ _ us hl => match us, hl with | [_], _ => rfl) ?a ?l ?c ?k; (case a => k_is); (case l => k_is); (case c => k_is); (case k => k_is))
    case d__law_draw => (refine' Nk.df_mk (st := Nk.s__law_draw) KX G (fun _ _ _ _ _ _ us hl => match us, hl with | [_, _, _], _ => rfl) ?a ?l ?c ?k; (case a => k_is); (case l => k_is); (case c => k_is); (case k => k_is))
    case d__law_pick => (refine' Nk.df_mk (st := Nk.s__law_pick) KX G (fun _ _ _ _ _ _ us hl => match us, hl with | [_, _, _], _ => rfl) ?a ?l ?c ?k; (case a => k_is); (case l => k_is); (case c => k_is); (case k => k_is))
    case d__law_word => (refine' Nk.df_mk (st := Nk.s__law_word) KX G (fun _ _ _ _ _ _ us hl => match us, hl with | [_], _ => rfl) ?a ?l ?c ?k; (case a => k_is); (case l => k_is); (case c => k_is); (case k => k_is))
    case d__law_refused => (refine' Nk.df_mk (st := Nk.s__law_refused) KX G (fun _ _ _ _ _ _ us hl => match us, hl with | [_], _ => rfl) ?a ?l ?c ?k; (case a => k_is); (case l => k_is); (case c => k_is); (case k => k_is))
    case d__law_told => (refine' Nk.df_mk (st := Nk.s__law_told) KX G (fun _ _ _ _ _ _ us hl => match us, hl with | [_, _], _ => rfl) ?a ?l ?c ?k; (case a => k_is); (case l => k_is); (case c => k_is); (case k => k_is))
    case d__law_whole => (refine' Nk.df_mk (st := Nk.s__law_whole) KX G (fun _ _ _ _ _ _ us hl => match us, hl with | [_], _ => rfl) ?a ?l ?c ?k; (case a => k_is); (case l => k_is); (case c => k_is); (case k => k_is))
    case d__law_name => (refine' Nk.df_mk (st := Nk.s__law_name) KX G (fun _ _ _ _ _ _ us hl => match us, hl with | [_, _, _], _ => rfl) ?a ?l ?c ?k; (case a => k_is); (case l => k_is); (case c => k_is); (case k => k_is))
    case d__law_table => (refine' Nk.df_mk (st := Nk.s__law_table) KX G (fun _ _ _ _ _ _ us hl => match us, hl with | [_, _, _], _ => rfl) ?a ?l ?c ?k; (case a => k_is); (case l => k_is); (case c => k_is); (case k => k_is))
    case d__law_one => (refine' Nk.df_mk (st := Nk.s__law_one) KX G (fun _ _ _ _ _ _ us hl => match us, hl with | [_, _], _ => rfl) ?a ?l ?c ?k; (case a => k_is); (case l => k_is); (case c => k_is); (case k => k_is))
    case d__law_place_good => (refine' Nk.df_mk (st := Nk.s__law_place_good) KX G (fun _ _ _ _ _ _ us hl => match us, hl with | [_], _ => rfl) ?a ?l ?c ?k; (case a => k_is); (case l => k_is); (case c => k_is); (case k => k_is))
    case d__law_place => (refine' Nk.df_mk (st := Nk.s__law_place) KX G (fun _ _ _ _ _ _ us hl => match us, hl with | [_, _], _ => rfl) ?a ?l ?c ?k; (case a => k_is); (case l => k_is); (case c => k_is); (case k => k_is))
    case d__law_spoilt => (refine' Nk.df_mk (st := Nk.s__law_spoilt) KX G (fun _ _ _ _ _ _ us hl => match us, hl with | [_, _, _], _ => rfl) ?a ?l ?c ?k; (case a => k_is); (case l => k_is); (case c => k_is); (case k => k_is))
    case d_law => (refine' Nk.df_mk (st := Nk.s_law) KX G (fun _ _ _ _ _ _ us hl => match us, hl with | [_], _ => rfl) ?a ?l ?c ?k; (case a => k_is); (case l => k_is); (case c => k_is); (case k => k_is))
    case x_KeepError => (refine' Nk.xc_mk KX G ?a ?x ?k ?b ?t; (case a => k_is); (case x => k_exc); (case k => k_is); (case b => k_is); (case t => k_is))
    case x_BadRounds => (refine' Nk.xc_mk KX G ?a ?x ?k ?b ?t; (case a => k_is); (case x => k_exc); (case k => k_is); (case b => k_is); (case t => k_is))
    case x_BadNight => (refine' Nk.xc_mk KX G ?a ?x ?k ?b ?t; (case a => k_is); (case x => k_exc); (case k => k_is); (case b => k_is); (case t => k_is))
    case x_BadNumber => (refine' Nk.xc_mk KX G ?a ?x ?k ?b ?t; (case a => k_is); (case x => k_exc); (case k => k_is); (case b => k_is); (case t => k_is))
    case x_BadRules => (refine' Nk.xc_mk KX G ?a ?x ?k ?b ?t; (case a => k_is); (case x => k_exc); (case k => k_is); (case b => k_is); (case t => k_is))
    case x_BadNights => (refine' Nk.xc_mk KX G ?a ?x ?k ?b ?t; (case a => k_is); (case x => k_exc); (case k => k_is); (case b => k_is); (case t => k_is))
    case x_Full => (refine' Nk.xc_mk KX G ?a ?x ?k ?b ?t; (case a => k_is); (case x => k_exc); (case k => k_is); (case b => k_is); (case t => k_is))
    case x_NotHeld => (refine' Nk.xc_mk KX G ?a ?x ?k ?b ?t; (case a => k_is); (case x => k_exc); (case k => k_is); (case b => k_is); (case t => k_is))
    case x_Pinned => (refine' Nk.xc_mk KX G ?a ?x ?k ?b ?t; (case a => k_is); (case x => k_exc); (case k => k_is); (case b => k_is); (case t => k_is))
    case x_NotPinned => (refine' Nk.xc_mk KX G ?a ?x ?k ?b ?t; (case a => k_is); (case x => k_exc); (case k => k_is); (case b => k_is); (case t => k_is))
    case x_BadState => (refine' Nk.xc_mk KX G ?a ?x ?k ?b ?t; (case a => k_is); (case x => k_exc); (case k => k_is); (case b => k_is); (case t => k_is))
    case x_BadPart => (refine' Nk.xc_mk KX G ?a ?x ?k ?b ?t; (case a => k_is); (case x => k_exc); (case k => k_is); (case b => k_is); (case t => k_is))
    case x_NotFit => (refine' Nk.xc_mk KX G ?a ?x ?k ?b ?t; (case a => k_is); (case x => k_exc); (case k => k_is); (case b => k_is); (case t => k_is))
    case x_IsWhole => (refine' Nk.xc_mk KX G ?a ?x ?k ?b ?t; (case a => k_is); (case x => k_exc); (case k => k_is); (case b => k_is); (case t => k_is))
    case x_BadPlan => (refine' Nk.xc_mk KX G ?a ?x ?k ?b ?t; (case a => k_is); (case x => k_exc); (case k => k_is); (case b => k_is); (case t => k_is))
    case x_Unlike => (refine' Nk.xc_mk KX G ?a ?x ?k ?b ?t; (case a => k_is); (case x => k_exc); (case k => k_is); (case b => k_is); (case t => k_is))
    case x_BadText => (refine' Nk.xc_mk KX G ?a ?x ?k ?b ?t; (case a => k_is); (case x => k_exc); (case k => k_is); (case b => k_is); (case t => k_is))
    case o_State => (refine' Nk.oc_mk KX G ?aC ?pg ?hd ?po ?sa ?mk ?kc; (case aC => k_is); (case pg => k_is); (case hd => k_is); (case po => k_is); (case sa => k_is); (case mk => k_is); (case kc => k_is))
    case m_State____init__ => (refine' Nk.md_mk (st := Nk.s_State____init__) KX G (fun _ _ _ _ _ _ us hl => match us, hl with | [_, _], _ => rfl) ?aC ?ai ?ii ?li ?cc ?ki; (case aC => k_is); (case ai => k_is); (case ii => k_is); (case li => k_is); (case cc => k_is); (case ki => k_is))
    case m_State____len__ => (refine' Nk.md_mk (st := Nk.s_State____len__) KX G (fun _ _ _ _ _ _ us hl => match us, hl with | [_], _ => rfl) ?aC ?ai ?ii ?li ?cc ?ki; (case aC => k_is); (case ai => k_is); (case ii => k_is); (case li => k_is); (case cc => k_is); (case ki => k_is))
    case m_State____eq__ => (refine' Nk.md_mk (st := Nk.s_State____eq__) KX G (fun _ _ _ _ _ _ us hl => match us, hl with | [_, _], _ => rfl) ?aC ?ai ?ii ?li ?cc ?ki; (case aC => k_is); (case ai => k_is); (case ii => k_is); (case li => k_is); (case cc => k_is); (case ki => k_is))
    case m_State____str__ => (refine' Nk.md_mk (st := Nk.s_State____str__) KX G (fun _ _ _ _ _ _ us hl => match us, hl with | [_], _ => rfl) ?aC ?ai ?ii ?li ?cc ?ki; (case aC => k_is); (case ai => k_is); (case ii => k_is); (case li => k_is); (case cc => k_is); (case ki => k_is))
    case m_State____repr__ => (refine' Nk.md_mk (st := Nk.s_State____repr__) KX G (fun _ _ _ _ _ _ us hl => match us, hl with | [_], _ => rfl) ?aC ?ai ?ii ?li ?cc ?ki; (case aC => k_is); (case ai => k_is); (case ii => k_is); (case li => k_is); (case cc => k_is); (case ki => k_is))
    case m_State__number => (refine' Nk.md_mk (st := Nk.s_State__number) KX G (fun _ _ _ _ _ _ us hl => match us, hl with | [_, _], _ => rfl) ?aC ?ai ?ii ?li ?cc ?ki; (case aC => k_is); (case ai => k_is); (case ii => k_is); (case li => k_is); (case cc => k_is); (case ki => k_is))
    case m_State__names => (refine' Nk.md_mk (st := Nk.s_State__names) KX G (fun _ _ _ _ _ _ us hl => match us, hl with | [_], _ => rfl) ?aC ?ai ?ii ?li ?cc ?ki; (case aC => k_is); (case ai => k_is); (case ii => k_is); (case li => k_is); (case cc => k_is); (case ki => k_is))
    case m_State__plain => (refine' Nk.md_mk (st := Nk.s_State__plain) KX G (fun _ _ _ _ _ _ us hl => match us, hl with | [_], _ => rfl) ?aC ?ai ?ii ?li ?cc ?ki; (case aC => k_is); (case ai => k_is); (case ii => k_is); (case li => k_is); (case cc => k_is); (case ki => k_is))
    case v_State => (refine' Nk.eo2_mk KX G ?aC ?ne ?sub ?ha ?hn ?htk ?hm; (case aC => k_is); (case ne => k_is); (case sub => k_is); (case ha => k_is); (case hn => k_is); (case htk => k_is); (case hm => k_is))
    case u_State => (refine' Nk.eo3_mk KX G ?aC ?tp ?ni; (case aC => k_is); (case tp => k_is); (case ni => k_is))
    case n_State__table => (refine' Nk.na_mk KX G ?aC ?n; (case aC => k_is); (case n => k_is))
    case k_err => (refine' Nk.kc_mk KX G ?a ?l ?t ?d; (case a => k_is); (case l => k_is); (case t => k_is); (case d => k_is))
    case e_BadRounds => (refine' Nk.ec_mk KX G ?k ?a ?l ?t ?d ?h1 ?h2 ?h3 ?h4 ?h5; (case k => k_is); (case a => k_is); (case l => k_is); (case t => k_is); (case d => k_is); (case h1 => k_is); (case h2 => k_is); (case h3 => k_is); (case h4 => k_is); (case h5 => k_is))
    case e_BadNight => (refine' Nk.ec_mk KX G ?k ?a ?l ?t ?d ?h1 ?h2 ?h3 ?h4 ?h5; (case k => k_is); (case a => k_is); (case l => k_is); (case t => k_is); (case d => k_is); (case h1 => k_is); (case h2 => k_is); (case h3 => k_is); (case h4 => k_is); (case h5 => k_is))
    case e_BadNumber => (refine' Nk.ec_mk KX G ?k ?a ?l ?t ?d ?h1 ?h2 ?h3 ?h4 ?h5; (case k => k_is); (case a => k_is); (case l => k_is); (case t => k_is); (case d => k_is); (case h1 => k_is); (case h2 => k_is); (case h3 => k_is); (case h4 => k_is); (case h5 => k_is))
    case e_BadRules => (refine' Nk.ec_mk KX G ?k ?a ?l ?t ?d ?h1 ?h2 ?h3 ?h4 ?h5; (case k => k_is); (case a => k_is); (case l => k_is); (case t => k_is); (case d => k_is); (case h1 => k_is); (case h2 => k_is); (case h3 => k_is); (case h4 => k_is); (case h5 => k_is))
    case e_BadNights => (refine' Nk.ec_mk KX G ?k ?a ?l ?t ?d ?h1 ?h2 ?h3 ?h4 ?h5; (case k => k_is); (case a => k_is); (case l => k_is); (case t => k_is); (case d => k_is); (case h1 => k_is); (case h2 => k_is); (case h3 => k_is); (case h4 => k_is); (case h5 => k_is))
    case e_Elder => (refine' Nk.ec_mk KX G ?k ?a ?l ?t ?d ?h1 ?h2 ?h3 ?h4 ?h5; (case k => k_is); (case a => k_is); (case l => k_is); (case t => k_is); (case d => k_is); (case h1 => k_is); (case h2 => k_is); (case h3 => k_is); (case h4 => k_is); (case h5 => k_is))
    case e_Full => (refine' Nk.ec_mk KX G ?k ?a ?l ?t ?d ?h1 ?h2 ?h3 ?h4 ?h5; (case k => k_is); (case a => k_is); (case l => k_is); (case t => k_is); (case d => k_is); (case h1 => k_is); (case h2 => k_is); (case h3 => k_is); (case h4 => k_is); (case h5 => k_is))
    case e_NotHeld => (refine' Nk.ec_mk KX G ?k ?a ?l ?t ?d ?h1 ?h2 ?h3 ?h4 ?h5; (case k => k_is); (case a => k_is); (case l => k_is); (case t => k_is); (case d => k_is); (case h1 => k_is); (case h2 => k_is); (case h3 => k_is); (case h4 => k_is); (case h5 => k_is))
    case e_Pinned => (refine' Nk.ec_mk KX G ?k ?a ?l ?t ?d ?h1 ?h2 ?h3 ?h4 ?h5; (case k => k_is); (case a => k_is); (case l => k_is); (case t => k_is); (case d => k_is); (case h1 => k_is); (case h2 => k_is); (case h3 => k_is); (case h4 => k_is); (case h5 => k_is))
    case e_NotPinned => (refine' Nk.ec_mk KX G ?k ?a ?l ?t ?d ?h1 ?h2 ?h3 ?h4 ?h5; (case k => k_is); (case a => k_is); (case l => k_is); (case t => k_is); (case d => k_is); (case h1 => k_is); (case h2 => k_is); (case h3 => k_is); (case h4 => k_is); (case h5 => k_is))
    case e_BadState => (refine' Nk.ec_mk KX G ?k ?a ?l ?t ?d ?h1 ?h2 ?h3 ?h4 ?h5; (case k => k_is); (case a => k_is); (case l => k_is); (case t => k_is); (case d => k_is); (case h1 => k_is); (case h2 => k_is); (case h3 => k_is); (case h4 => k_is); (case h5 => k_is))
    case e_BadPart => (refine' Nk.ec_mk KX G ?k ?a ?l ?t ?d ?h1 ?h2 ?h3 ?h4 ?h5; (case k => k_is); (case a => k_is); (case l => k_is); (case t => k_is); (case d => k_is); (case h1 => k_is); (case h2 => k_is); (case h3 => k_is); (case h4 => k_is); (case h5 => k_is))
    case e_NotFit => (refine' Nk.ec_mk KX G ?k ?a ?l ?t ?d ?h1 ?h2 ?h3 ?h4 ?h5; (case k => k_is); (case a => k_is); (case l => k_is); (case t => k_is); (case d => k_is); (case h1 => k_is); (case h2 => k_is); (case h3 => k_is); (case h4 => k_is); (case h5 => k_is))
    case e_IsWhole => (refine' Nk.ec_mk KX G ?k ?a ?l ?t ?d ?h1 ?h2 ?h3 ?h4 ?h5; (case k => k_is); (case a => k_is); (case l => k_is); (case t => k_is); (case d => k_is); (case h1 => k_is); (case h2 => k_is); (case h3 => k_is); (case h4 => k_is); (case h5 => k_is))
    case e_BadPlan => (refine' Nk.ec_mk KX G ?k ?a ?l ?t ?d ?h1 ?h2 ?h3 ?h4 ?h5; (case k => k_is); (case a => k_is); (case l => k_is); (case t => k_is); (case d => k_is); (case h1 => k_is); (case h2 => k_is); (case h3 => k_is); (case h4 => k_is); (case h5 => k_is))
    case e_Unlike => (refine' Nk.ec_mk KX G ?k ?a ?l ?t ?d ?h1 ?h2 ?h3 ?h4 ?h5; (case k => k_is); (case a => k_is); (case l => k_is); (case t => k_is); (case d => k_is); (case h1 => k_is); (case h2 => k_is); (case h3 => k_is); (case h4 => k_is); (case h5 => k_is))
    case e_BadText => (refine' Nk.ec_mk KX G ?k ?a ?l ?t ?d ?h1 ?h2 ?h3 ?h4 ?h5; (case k => k_is); (case a => k_is); (case l => k_is); (case t => k_is); (case d => k_is); (case h1 => k_is); (case h2 => k_is); (case h3 => k_is); (case h4 => k_is); (case h5 => k_is))
    case c_MOST_NIGHT => (refine' Nk.ci_mk KX G ?a; (case a => k_is))
    case c_LETTERS => (refine' Nk.cs_mk KX G ?a; (case a => k_is))
    case c_MOST_NAMES => (refine' Nk.ci_mk KX G ?a; (case a => k_is))
    case b_RuntimeError => (refine' PySem.W.mg_none_of KX G ?a; (case a => k_is))
    case b_all => (refine' PySem.W.mg_none_of KX G ?a; (case a => k_is))
    case b_bool => (refine' PySem.W.mg_none_of KX G ?a; (case a => k_is))
    case b_dict => (refine' PySem.W.mg_none_of KX G ?a; (case a => k_is))
    case b_int => (refine' PySem.W.mg_none_of KX G ?a; (case a => k_is))
    case b_isinstance => (refine' PySem.W.mg_none_of KX G ?a; (case a => k_is))
    case b_len => (refine' PySem.W.mg_none_of KX G ?a; (case a => k_is))
    case b_list => (refine' PySem.W.mg_none_of KX G ?a; (case a => k_is))
    case b_min => (refine' PySem.W.mg_none_of KX G ?a; (case a => k_is))
    case b_range => (refine' PySem.W.mg_none_of KX G ?a; (case a => k_is))
    case b_set => (refine' PySem.W.mg_none_of KX G ?a; (case a => k_is))
    case b_sorted => (refine' PySem.W.mg_none_of KX G ?a; (case a => k_is))
    case b_str => (refine' PySem.W.mg_none_of KX G ?a; (case a => k_is))
    case b_tuple => (refine' PySem.W.mg_none_of KX G ?a; (case a => k_is))
    case b_zip => (refine' PySem.W.mg_none_of KX G ?a; (case a => k_is))
