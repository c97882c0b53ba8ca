import PyProof.Rows.All
import Wide.All
import OpenK.AllK
import Wide.FinOn
import HandS.ForMost
import HandS.ForExc
import HandS.IsInst
import HandS.Wide
import HandS.SortInts
import HandS.Zip
import HandS.Walk
import HandS.Evl
import HandS.More
import HandS.Conv
import HandS.ExcIs
import HandS.ExcField
import HandS.ExcInit
import HandS.Sort
import HandS.SetFor
import HandS.TupMul
import HandS.Strs
import HandS.Deep
import HandS.Defaults
import HandS.MakeKw
import HandS.Style
import PyProof.Rows.SortShellAny
import HandS.DeepEq
import HandS.TupSets
import KE.KDictDisplayH
import KE.KEqNest
import KE.KDictSum
import KE.KTupSum
import KE.KExcIs
import KE.KExcInit
import HandS.SortKw
import HandS.Head2
import HandS.HeadHook2
import HandS.HeadEnd
import HandS.FStr
import HandS.RaiseMore
import PySem.Challenge.RW_nightkeep_k40_states
set_option Elab.async false
set_option linter.all false
set_option maxRecDepth 100000
set_option maxHeartbeats 4000000
/-! ### rounds: plain mathematics -/
namespace Nk
def pre (rs : List Int) (j : Nat) : Int := (rs.take j).sum
def walkR : List Int → Int → Int → Int
  | [], _, found => found
  | r :: rs, left, found => if left < r then found else walkR rs (left - r) (found + 1)
def numOf (rs : List Int) (n : Int) : Int := walkR rs (n % rs.sum) (n / rs.sum * rs.length)
def firstOf (rs : List Int) (k : Int) : Int := k / rs.length * rs.sum + pre rs (k % rs.length).toNat
/-- lengths: at least one, each at least 1 -/
structure Rnds (rs : List Int) : Prop where
  ne : rs ≠ []
  pos : ∀ r ∈ rs, 1 ≤ r
theorem pre_zero (rs : List Int) : pre rs 0 = 0 := by simp [pre]
theorem pre_cons (r : Int) (rs : List Int) (j : Nat) : pre (r :: rs) (j + 1) = r + pre rs j := by simp [pre]
theorem pre_len (rs : List Int) : pre rs rs.length = rs.sum := by simp [pre]
theorem pre_step : ∀ {rs : List Int} {j : Nat} {r : Int}, rs[j]? = some r → pre rs (j + 1) = pre rs j + r
  | [], _, _, h => by simp at h
  | a :: rs, 0, r, h => by
    have e : a = r := by simpa using h
    subst e
    rw [pre_cons, pre_zero, pre_zero]; omega
  | a :: rs, j + 1, r, h => by
    have ih := pre_step (rs := rs) (j := j) (r := r) (by simpa using h)
    rw [pre_cons, pre_cons, ih]; omega
theorem pre_mono {rs : List Int} (hp : ∀ r ∈ rs, 1 ≤ r) : ∀ {i j : Nat}, i ≤ j → j ≤ rs.length → pre rs i + ((j : Int) - (i : Int)) ≤ pre rs j := by
  intro i j hij hj
  induction j with
  | zero =>
    have : i = 0 := by omega
    subst this; simp
  | succ j ih =>
    by_cases h : i = j + 1
    · subst h; simp
    · have h1 := ih (by omega) (by omega)
      have hlt : j < rs.length := by omega
      have e := pre_step (List.getElem?_eq_getElem hlt)
      have p := hp _ (List.getElem_mem hlt)
      rw [e]
      omega
theorem pre_nonneg {rs : List Int} (hp : ∀ r ∈ rs, 1 ≤ r) {j : Nat} (hj : j ≤ rs.length) : (j : Int) ≤ pre rs j := by
  have := pre_mono hp (Nat.zero_le j) hj
  rw [pre_zero] at this
  omega
theorem sum_ge {rs : List Int} (hp : ∀ r ∈ rs, 1 ≤ r) : (rs.length : Int) ≤ rs.sum := by
  have := pre_nonneg hp (Nat.le_refl rs.length)
  rw [pre_len] at this
  exact this
theorem Rnds.len {rs : List Int} (h : Rnds rs) : 0 < rs.length := List.length_pos_iff.mpr h.ne
theorem Rnds.sum {rs : List Int} (h : Rnds rs) : 0 < rs.sum := by
  have := sum_ge h.pos
  have := h.len
  omega
theorem walkR_spec : ∀ (rs : List Int) (left found : Int), 0 ≤ left → left < rs.sum → ∃ j : Nat, j < rs.length ∧ walkR rs left found = found + j ∧ pre rs j ≤ left ∧ left < pre rs (j + 1)
  | [], left, found, h0, h1 => by simp at h1; omega
  | r :: rs, left, found, h0, h1 => by
    unfold walkR
    by_cases c : left < r
    · refine ⟨0, by simp, by simp [c], ?_, ?_⟩
      · rw [pre_zero]; exact h0
      · rw [pre_cons, pre_zero]; omega
    · rw [if_neg c]
      obtain ⟨j, hj, e, h2, h3⟩ := walkR_spec rs (left - r) (found + 1) (by omega) (by rw [List.sum_cons] at h1; omega)
      refine ⟨j + 1, by simp; omega, ?_, ?_, ?_⟩
      · rw [e]; push_cast; omega
      · rw [pre_cons]; omega
      · rw [pre_cons]; omega
theorem pre_uniq {rs : List Int} (hp : ∀ r ∈ rs, 1 ≤ r) {i j : Nat} (hi : i < rs.length) (hj : j < rs.length) {x : Int} (h1 : pre rs i ≤ x) (h2 : x < pre rs (i + 1)) (h3 : pre rs j ≤ x) (h4 : x < pre rs (j + 1)) : i = j := by
  by_cases h : i < j
  · have := pre_mono hp (i := i + 1) (j := j) (by omega) (by omega)
    omega
  · by_cases h' : j < i
    · have := pre_mono hp (i := j + 1) (j := i) (by omega) (by omega)
      omega
    · omega
theorem emod_nat {k : Int} {n : Nat} (h : 0 < n) : ∃ j : Nat, j < n ∧ k % (n : Int) = (j : Int) ∧ (j : Int) + (n : Int) * (k / (n : Int)) = k := by
  have h0 := Int.emod_nonneg k (show (n : Int) ≠ 0 by omega)
  have h1 := Int.emod_lt_of_pos k (show (0 : Int) < n by omega)
  have h2 := Int.emod_add_mul_ediv k (n : Int)
  exact ⟨(k % n).toNat, by omega, by omega, by omega⟩
/-- a round, by its place in the turn -/
theorem firstOf_at {rs : List Int} (h : Rnds rs) (q : Int) {j : Nat} (hj : j ≤ rs.length) : firstOf rs (q * rs.length + j) = q * rs.sum + pre rs j := by
  have hl := h.len
  unfold firstOf
  by_cases e : j = rs.length
  · have h1 : (q * (rs.length : Int) + (j : Int)) / (rs.length : Int) = q + 1 ∧ (q * (rs.length : Int) + (j : Int)) % (rs.length : Int) = 0 := by
      rw [Int.ediv_emod_unique (by omega)]
      refine ⟨?_, by omega, by omega⟩
      rw [e, Int.mul_add, Int.mul_comm q]; omega
    rw [h1.1, h1.2, e, pre_len]
    show (q + 1) * rs.sum + pre rs (Int.toNat 0) = _
    rw [show Int.toNat 0 = 0 from rfl, pre_zero, Int.add_mul]
    omega
  · have h1 : (q * (rs.length : Int) + (j : Int)) / (rs.length : Int) = q ∧ (q * (rs.length : Int) + (j : Int)) % (rs.length : Int) = (j : Int) := by
      rw [Int.ediv_emod_unique (by omega)]
      refine ⟨?_, by omega, by omega⟩
      rw [Int.mul_comm q]; omega
    rw [h1.1, h1.2]
    simp
theorem firstOf_step {rs : List Int} (h : Rnds rs) (k : Int) {r : Int} (hr : rs[(k % rs.length).toNat]? = some r) : firstOf rs (k + 1) = firstOf rs k + r := by
  obtain ⟨j, hj, e, f⟩ := emod_nat (k := k) h.len
  rw [e] at hr
  have hr' : rs[j]? = some r := by simpa using hr
  have e1 : k = (k / rs.length) * rs.length + j := by rw [Int.mul_comm]; omega
  have a1 := firstOf_at h (k / rs.length) (Nat.le_of_lt hj)
  have a2 := firstOf_at h (k / rs.length) (Nat.succ_le_of_lt hj)
  rw [← e1] at a1
  have e2 : k / (rs.length : Int) * (rs.length : Int) + ((Nat.succ j : Nat) : Int) = k + 1 := by push_cast; omega
  rw [e2] at a2
  rw [a1, a2]
  show _ + pre rs (j + 1) = _
  rw [pre_step hr']
  omega
theorem get_round {rs : List Int} (h : Rnds rs) (k : Int) : ∃ r, rs[(k % rs.length).toNat]? = some r ∧ 1 ≤ r ∧ r ∈ rs := by
  obtain ⟨j, hj, e, f⟩ := emod_nat (k := k) h.len
  refine ⟨rs[j], ?_, h.pos _ (List.getElem_mem hj), List.getElem_mem hj⟩
  rw [e]
  simpa using List.getElem?_eq_getElem hj
theorem firstOf_lt {rs : List Int} (h : Rnds rs) (k : Int) : firstOf rs k + 1 ≤ firstOf rs (k + 1) := by
  obtain ⟨r, h1, h2, _⟩ := get_round h k
  rw [firstOf_step h k h1]
  omega
theorem firstOf_zero {rs : List Int} (h : Rnds rs) : firstOf rs 0 = 0 := by
  have := firstOf_at h 0 (Nat.zero_le rs.length)
  simp [pre_zero] at this
  exact this
/-- a night between a round's ends lies in it -/
theorem numOf_of {rs : List Int} (h : Rnds rs) {k m : Int} (h1 : firstOf rs k ≤ m) (h2 : m < firstOf rs (k + 1)) : numOf rs m = k := by
  obtain ⟨j, hj, e, f⟩ := emod_nat (k := k) h.len
  have e1 : k = (k / rs.length) * rs.length + j := by rw [Int.mul_comm]; omega
  have a1 := firstOf_at h (k / rs.length) (Nat.le_of_lt hj)
  have a2 := firstOf_at h (k / rs.length) (Nat.succ_le_of_lt hj)
  rw [← e1] at a1
  have e2 : k / (rs.length : Int) * (rs.length : Int) + ((Nat.succ j : Nat) : Int) = k + 1 := by push_cast; omega
  rw [e2] at a2
  rw [a1] at h1
  rw [a2] at h2
  have b0 := pre_nonneg h.pos (Nat.le_of_lt hj)
  have b1 := pre_mono h.pos (i := j + 1) (j := rs.length) (by omega) (Nat.le_refl _)
  rw [pre_len] at b1
  have h2' : m < k / (rs.length : Int) * rs.sum + pre rs (j + 1) := h2
  have h3 : m / rs.sum = k / rs.length ∧ m % rs.sum = m - (k / rs.length) * rs.sum := by
    rw [Int.ediv_emod_unique h.sum]
    refine ⟨by rw [Int.mul_comm rs.sum]; omega, by omega, by omega⟩
  unfold numOf
  rw [h3.1, h3.2]
  obtain ⟨i, hi, w, p1, p2⟩ := walkR_spec rs (m - k / ↑rs.length * rs.sum) (k / ↑rs.length * ↑rs.length) (by omega) (by omega)
  rw [w]
  have : i = j := pre_uniq h.pos hi hj p1 p2 (by omega) (by omega)
  subst this
  omega
/-- each night lies between the ends of its round -/
theorem numOf_spec {rs : List Int} (h : Rnds rs) (m : Int) : firstOf rs (numOf rs m) ≤ m ∧ m < firstOf rs (numOf rs m + 1) := by
  have hs := h.sum
  obtain ⟨i, hi, w, p1, p2⟩ := walkR_spec rs (m % rs.sum) (m / rs.sum * rs.length) (Int.emod_nonneg m (by omega)) (Int.emod_lt_of_pos m hs)
  have hm := Int.emod_add_mul_ediv m rs.sum
  have e : numOf rs m = m / rs.sum * rs.length + i := w
  have a1 := firstOf_at h (m / rs.sum) (Nat.le_of_lt hi)
  have a2 := firstOf_at h (m / rs.sum) (Nat.succ_le_of_lt hi)
  have e2 : m / rs.sum * (rs.length : Int) + ((Nat.succ i : Nat) : Int) = numOf rs m + 1 := by rw [e]; push_cast; omega
  rw [← e] at a1
  rw [e2] at a2
  rw [a1, a2]
  have c := Int.mul_comm rs.sum (m / rs.sum)
  refine ⟨by omega, ?_⟩
  show m < m / rs.sum * rs.sum + pre rs (i + 1)
  omega
theorem firstOf_mono {rs : List Int} (h : Rnds rs) (i : Int) : ∀ d : Nat, firstOf rs i + d ≤ firstOf rs (i + d)
  | 0 => by simp
  | d + 1 => by
    have h1 := firstOf_mono h i d
    have h2 := firstOf_lt h (i + d)
    push_cast
    rw [Int.add_assoc i d 1] at h2
    omega
theorem firstOf_le {rs : List Int} (h : Rnds rs) {i j : Int} (hij : i ≤ j) : firstOf rs i + (j - i) ≤ firstOf rs j := by
  have := firstOf_mono h i (j - i).toNat
  rw [show i + ((j - i).toNat : Int) = j by omega] at this
  omega
theorem firstOf_pos {rs : List Int} (h : Rnds rs) {k : Int} (hk : 0 ≤ k) : k ≤ firstOf rs k := by
  have := firstOf_le h hk
  rw [firstOf_zero h] at this
  omega
theorem numOf_nonneg {rs : List Int} (h : Rnds rs) {n : Int} (hn : 0 ≤ n) : 0 ≤ numOf rs n := by
  have h2 := (numOf_spec h n).2
  by_cases c : 0 ≤ numOf rs n
  · exact c
  · have := firstOf_le h (i := numOf rs n + 1) (j := 0) (by omega)
    rw [firstOf_zero h] at this
    omega
theorem numOf_le {rs : List Int} (h : Rnds rs) {n : Int} (hn : 0 ≤ n) : numOf rs n ≤ n := by
  have h1 := (numOf_spec h n).1
  have h2 := firstOf_pos h (numOf_nonneg h hn)
  omega
/-- later nights lie in no earlier rounds -/
theorem numOf_mono {rs : List Int} (h : Rnds rs) {m n : Int} (hmn : m ≤ n) : numOf rs m ≤ numOf rs n := by
  have h1 := (numOf_spec h m).1
  have h2 := (numOf_spec h n).2
  by_cases c : numOf rs m ≤ numOf rs n
  · exact c
  · have := firstOf_le h (i := numOf rs n + 1) (j := numOf rs m) (by omega)
    omega
/-- a whole turn later -/
theorem firstOf_turn {rs : List Int} (h : Rnds rs) (k : Int) : firstOf rs (k + rs.length) = firstOf rs k + rs.sum := by
  obtain ⟨j, hj, e, f⟩ := emod_nat (k := k) h.len
  have e1 : k = (k / rs.length) * rs.length + j := by rw [Int.mul_comm]; omega
  have a1 := firstOf_at h (k / rs.length) (Nat.le_of_lt hj)
  have a2 := firstOf_at h (k / rs.length + 1) (Nat.le_of_lt hj)
  rw [← e1] at a1
  have e2 : (k / rs.length + 1) * (rs.length : Int) + (j : Int) = k + rs.length := by rw [Int.add_mul]; omega
  rw [e2] at a2
  rw [a1, a2, Int.add_mul]
  omega
theorem numOf_turn {rs : List Int} (h : Rnds rs) (n : Int) : numOf rs (n + rs.sum) = numOf rs n + rs.length := by
  obtain ⟨h1, h2⟩ := numOf_spec h n
  have a1 := firstOf_turn h (numOf rs n)
  have a2 := firstOf_turn h (numOf rs n + 1)
  refine numOf_of h (by omega) ?_
  rw [show numOf rs n + (rs.length : Int) + 1 = numOf rs n + 1 + rs.length by omega]
  omega
theorem firstOf_ge {rs : List Int} (h : Rnds rs) : ∀ k : Nat, (k : Int) ≤ firstOf rs k
  | 0 => by rw [show ((0 : Nat) : Int) = 0 from rfl, firstOf_zero h]; omega
  | k + 1 => by
    have h1 := firstOf_ge h k
    have h2 := firstOf_lt h k
    push_cast
    omega
end Nk
/-! ### what rules keep: plain mathematics -/
namespace Nk
/-- going back through nights: those whose round is another one than that of the night gone through just before -/
def endsR (rs : List Int) : Option Int → List Int → List Int
  | _, [] => []
  | ah, n :: l => if ah = some (numOf rs n) then endsR rs (some (numOf rs n)) l else n :: endsR rs (some (numOf rs n)) l
def lastN (rs : List Int) (ah : Option Int) (l : List Int) : Option Int := match l.getLast? with
  | some n => some (numOf rs n)
  | none => ah
theorem lastN_cons (rs : List Int) (ah : Option Int) (n : Int) (l : List Int) : lastN rs ah (n :: l) = lastN rs (some (numOf rs n)) l := by
  unfold lastN
  cases l with
  | nil => rfl
  | cons m r => rw [List.getLast?_cons_cons]; cases h : (m :: r).getLast? <;> simp_all
theorem endsR_snoc (rs : List Int) : ∀ (l : List Int) (ah : Option Int) (n : Int), endsR rs ah (l ++ [n]) = endsR rs ah l ++ (if lastN rs ah l = some (numOf rs n) then [] else [n])
  | [], ah, n => by
    by_cases h : ah = some (numOf rs n) <;> simp [endsR, lastN, h]
  | m :: l, ah, n => by
    rw [lastN_cons]
    simp only [List.cons_append, endsR]
    rw [endsR_snoc rs l]
    split <;> simp
theorem lastN_snoc (rs : List Int) (ah : Option Int) (l : List Int) (n : Int) : lastN rs ah (l ++ [n]) = some (numOf rs n) := by
  simp [lastN]
/-- the last nights of the rounds, rising -/
def endsF (rs : List Int) : List Int → List Int
  | [] => []
  | [n] => [n]
  | n :: m :: l => if numOf rs n = numOf rs m then endsF rs (m :: l) else n :: endsF rs (m :: l)
theorem endsF_eq (rs : List Int) : ∀ ns : List Int, endsF rs ns = (endsR rs none ns.reverse).reverse
  | [] => rfl
  | [n] => by simp [endsF, endsR]
  | n :: m :: l => by
    rw [List.reverse_cons, endsR_snoc]
    have h : lastN rs none (m :: l).reverse = some (numOf rs m) := by simp [lastN]
    rw [h, List.reverse_append, ← endsF_eq rs (m :: l)]
    simp only [endsF, Option.some.injEq]
    by_cases e : numOf rs n = numOf rs m
    · rw [if_pos e, if_pos e.symm]; rfl
    · rw [if_neg e, if_neg (fun z => e z.symm)]; rfl
/-- what one rule keeps, the last one first -/
def keptBy (ru : List Int × Int) (ns : List Int) : List Int := (endsR ru.1 none ns.reverse).take ru.2.toNat
/-- .. rising -/
def keptUp (ru : List Int × Int) (ns : List Int) : List Int := (endsF ru.1 ns).drop ((endsF ru.1 ns).length - ru.2.toNat)
theorem keptUp_eq (ru : List Int × Int) (ns : List Int) : keptUp ru ns = (keptBy ru ns).reverse := by
  unfold keptUp keptBy
  rw [endsF_eq, List.length_reverse, List.reverse_take]
theorem endsR_sub (rs : List Int) : ∀ (l : List Int) (ah : Option Int), ∀ n ∈ endsR rs ah l, n ∈ l
  | [], _, n, h => by simp [endsR] at h
  | m :: l, ah, n, h => by
    simp only [endsR] at h
    split at h
    · exact List.mem_cons_of_mem _ (endsR_sub rs l _ n h)
    · rcases List.mem_cons.mp h with e | h
      · rw [e]; exact List.mem_cons_self
      · exact List.mem_cons_of_mem _ (endsR_sub rs l _ n h)
theorem keptBy_sub {ru : List Int × Int} {ns : List Int} {n : Int} (h : n ∈ keptBy ru ns) : n ∈ ns := by
  have := endsR_sub ru.1 _ _ n (List.mem_of_mem_take h)
  simpa using this
theorem mem_keptUp {ru : List Int × Int} {ns : List Int} {n : Int} : n ∈ keptUp ru ns ↔ n ∈ keptBy ru ns := by
  rw [keptUp_eq, List.mem_reverse]
/-- what rules keep, rising -/
def keptF (rules : List (List Int × Int)) (ns : List Int) : List Int := ns.filter fun n => rules.any fun ru => decide (n ∈ keptBy ru ns)
theorem mem_keptF {rules : List (List Int × Int)} {ns : List Int} {n : Int} : n ∈ keptF rules ns ↔ ∃ ru ∈ rules, n ∈ keptBy ru ns := by
  unfold keptF
  rw [List.mem_filter, List.any_eq_true]
  constructor
  · rintro ⟨_, ru, h1, h2⟩
    exact ⟨ru, h1, of_decide_eq_true h2⟩
  · rintro ⟨ru, h1, h2⟩
    exact ⟨keptBy_sub h2, ru, h1, decide_eq_true h2⟩
theorem keptF_rise {rules : List (List Int × Int)} {ns : List Int} (h : ns.Pairwise (· < ·)) : (keptF rules ns).Pairwise (· < ·) := h.filter _
/-- two rising lists with the same members are one -/
theorem rise_ext : ∀ {l m : List Int}, l.Pairwise (· < ·) → m.Pairwise (· < ·) → (∀ x, x ∈ l ↔ x ∈ m) → l = m
  | [], [], _, _, _ => rfl
  | [], y :: m, _, _, h => absurd ((h y).mpr List.mem_cons_self) (by simp)
  | x :: l, [], _, _, h => absurd ((h x).mp List.mem_cons_self) (by simp)
  | x :: l, y :: m, hl, hm, h => by
    obtain ⟨hx, hl'⟩ := List.pairwise_cons.mp hl
    obtain ⟨hy, hm'⟩ := List.pairwise_cons.mp hm
    have e : x = y := by
      rcases List.mem_cons.mp ((h x).mp List.mem_cons_self) with e | h1
      · exact e
      · rcases List.mem_cons.mp ((h y).mpr List.mem_cons_self) with e | h2
        · exact e.symm
        · have a := hx y h2
          have b := hy x h1
          omega
    subst e
    have : l = m := rise_ext hl' hm' fun z => by
      constructor
      · intro hz
        have hxz := hx z hz
        rcases List.mem_cons.mp ((h z).mp (List.mem_cons_of_mem _ hz)) with e | h1
        · omega
        · exact h1
      · intro hz
        have hxz := hy z hz
        rcases List.mem_cons.mp ((h z).mpr (List.mem_cons_of_mem _ hz)) with e | h1
        · omega
        · exact h1
    rw [this]
theorem rise_of_le {l : List Int} (h : l.Pairwise (· ≤ ·)) (nd : l.Nodup) : l.Pairwise (· < ·) := by
  have := h.and nd
  exact this.imp fun {a b} ⟨h1, h2⟩ => by omega
theorem take_prefix {α : Type} {l : List α} {p : List α} {k : Nat} (h : ∃ t, l = p ++ t) (hp : p.length = k) : p = l.take k := by
  obtain ⟨t, rfl⟩ := h
  subst hp
  simp
theorem endsR_pre (rs : List Int) (ah : Option Int) : ∀ (t l : List Int), ∃ u, endsR rs ah (l ++ t) = endsR rs ah l ++ u
  | [], l => ⟨[], by simp⟩
  | x :: t, l => by
    obtain ⟨u, hu⟩ := endsR_pre rs ah t (l ++ [x])
    rw [List.append_assoc, List.singleton_append] at hu
    rw [hu, endsR_snoc, List.append_assoc]
    exact ⟨_, rfl⟩
end Nk
/-! ### texts in order; tables of names with numbers; parts -/
namespace Nk
open PySem
/-- texts by their signs -/
def sl (a b : Str) : Prop := a.cps.toList < b.cps.toList
instance (a b : Str) : Decidable (sl a b) := inferInstanceAs (Decidable (a.cps.toList < b.cps.toList))
theorem sl_irrefl (a : Str) : ¬ sl a a := List.lt_irrefl _
theorem sl_trans {a b c : Str} (h : sl a b) (h' : sl b c) : sl a c := List.lt_trans h h'
theorem sl_asymm {a b : Str} (h : sl a b) : ¬ sl b a := fun h' => sl_irrefl a (sl_trans h h')
theorem sl_tri {a b : Str} (h1 : ¬ sl a b) (h2 : ¬ sl b a) : a = b := by
  have e : a.cps.toList = b.cps.toList := List.le_antisymm h2 h1
  obtain ⟨⟨x⟩⟩ := a
  obtain ⟨⟨y⟩⟩ := b
  simp only at e
  rw [e]
theorem sl_ntrans {a b c : Str} (h1 : ¬ sl b a) (h2 : ¬ sl c b) : ¬ sl c a := by
  intro h
  by_cases e : sl b c
  · exact h1 (sl_trans e h)
  · have := sl_tri e h2
    subst this
    exact h1 h
theorem srt_uniq : ∀ {xs ys : List Str}, xs.Pairwise sl → ys.Pairwise sl → (∀ k, k ∈ xs ↔ k ∈ ys) → xs = ys
  | [], [], _, _, _ => rfl
  | [], y :: ys, _, _, h => absurd ((h y).mpr List.mem_cons_self) (by simp)
  | x :: xs, [], _, _, h => absurd ((h x).mp List.mem_cons_self) (by simp)
  | x :: xs, y :: ys, hx, hy, h => by
    obtain ⟨hx1, hx2⟩ := List.pairwise_cons.mp hx
    obtain ⟨hy1, hy2⟩ := List.pairwise_cons.mp hy
    have e : x = y := by
      rcases List.mem_cons.mp ((h x).mp List.mem_cons_self) with e | m
      · exact e
      · rcases List.mem_cons.mp ((h y).mpr List.mem_cons_self) with e | m'
        · exact e.symm
        · exact absurd (hy1 x m) (sl_asymm (hx1 y m'))
    subst e
    rw [srt_uniq hx2 hy2 fun k => ?_]
    constructor
    · intro m
      rcases List.mem_cons.mp ((h k).mp (List.mem_cons_of_mem _ m)) with e | m'
      · subst e; exact absurd (hx1 k m) (sl_irrefl k)
      · exact m'
    · intro m
      rcases List.mem_cons.mp ((h k).mpr (List.mem_cons_of_mem _ m)) with e | m'
      · subst e; exact absurd (hy1 k m) (sl_irrefl k)
      · exact m'
def insS (a : Str) : List Str → List Str
  | [] => [a]
  | b :: r => if sl a b then a :: b :: r else if a = b then b :: r else b :: insS a r
theorem mem_insS {a k : Str} : ∀ {l : List Str}, k ∈ insS a l ↔ k = a ∨ k ∈ l
  | [] => by simp [insS]
  | b :: r => by
    unfold insS
    by_cases h1 : sl a b
    · simp [h1]
    · by_cases h2 : a = b
      · rw [if_neg h1, if_pos h2, h2]
        simp
      · simp only [h1, h2, if_false, List.mem_cons, mem_insS (l := r)]
        constructor
        · rintro (h | h | h)
          · exact .inr (.inl h)
          · exact .inl h
          · exact .inr (.inr h)
        · rintro (h | h | h)
          · exact .inr (.inl h)
          · exact .inl h
          · exact .inr (.inr h)
theorem pw_insS {a : Str} : ∀ {l : List Str}, l.Pairwise sl → (insS a l).Pairwise sl
  | [], _ => by simp [insS]
  | b :: r, h => by
    obtain ⟨hb1, hb2⟩ := List.pairwise_cons.mp h
    unfold insS
    by_cases h1 : sl a b
    · simp only [h1, if_true]
      refine List.pairwise_cons.mpr ⟨fun k hk => ?_, h⟩
      rcases List.mem_cons.mp hk with e | m
      · subst e; exact h1
      · exact sl_trans h1 (hb1 k m)
    · by_cases h2 : a = b
      · rw [if_neg h1, if_pos h2]
        exact h
      · simp only [h1, h2, if_false]
        refine List.pairwise_cons.mpr ⟨fun k hk => ?_, pw_insS hb2⟩
        rcases mem_insS.mp hk with e | m
        · subst e
          by_cases c : sl b k
          · exact c
          · exact absurd (sl_tri h1 c) h2
        · exact hb1 k m
def srt (l : List Str) : List Str := l.foldr insS []
theorem mem_srt {k : Str} : ∀ {l : List Str}, k ∈ srt l ↔ k ∈ l
  | [] => by simp [srt]
  | a :: r => by
    show k ∈ insS a (srt r) ↔ _
    rw [mem_insS, mem_srt (l := r), List.mem_cons]
theorem pw_srt : ∀ {l : List Str}, (srt l).Pairwise sl
  | [] => by simp [srt]
  | a :: r => pw_insS (pw_srt (l := r))
theorem pw_nodup {l : List Str} (h : l.Pairwise sl) : l.Nodup := by
  refine List.Pairwise.imp (fun {a b} h => ?_) h
  intro e
  subst e
  exact sl_irrefl _ h
theorem nodup_le {α : Type} [DecidableEq α] : ∀ {l m : List α}, l.Nodup → (∀ x ∈ l, x ∈ m) → l.length ≤ m.length
  | [], _, _, _ => Nat.zero_le _
  | a :: r, m, h, s => by
    obtain ⟨h1, h2⟩ := List.nodup_cons.mp h
    have ha := s a List.mem_cons_self
    have := nodup_le (l := r) (m := m.erase a) h2 fun x hx => by
      refine (List.mem_erase_of_ne ?_).mpr (s x (List.mem_cons_of_mem _ hx))
      intro e; subst e; exact h1 hx
    rw [List.length_erase_of_mem ha] at this
    have := List.length_pos_of_mem ha
    simp only [List.length_cons]
    omega
theorem nodup_same {α : Type} [DecidableEq α] {l m : List α} (hl : l.Nodup) (hm : m.Nodup) (s : ∀ x, x ∈ l ↔ x ∈ m) : l.length = m.length :=
  Nat.le_antisymm (nodup_le hl fun x hx => (s x).mp hx) (nodup_le hm fun x hx => (s x).mpr hx)
/-! tables -/
abbrev Tb := List (Str × Int)
def lk (t : Tb) (n : Str) : Option Int := (t.find? fun p => decide (p.1 = n)).map (·.2)
def putT (t : Tb) (n : Str) (i : Int) : Tb := if (t.any fun p => decide (p.1 = n)) = true then t.map (fun p => if p.1 = n then (p.1, i) else p) else t ++ [(n, i)]
def dropT (t : Tb) (n : Str) : Tb := t.filter fun p => decide (p.1 ≠ n)
def nms (t : Tb) : List Str := t.map (·.1)
theorem lk_nil {n : Str} : lk [] n = none := rfl
theorem lk_cons {p : Str × Int} {t : Tb} {n : Str} : lk (p :: t) n = if p.1 = n then some p.2 else lk t n := by
  unfold lk
  rw [List.find?_cons]
  by_cases e : p.1 = n <;> simp [e]
theorem lk_none {n : Str} : ∀ {t : Tb}, lk t n = none ↔ n ∉ nms t
  | [] => by simp [lk_nil, nms]
  | p :: t => by
    rw [lk_cons]
    have ih := lk_none (n := n) (t := t)
    by_cases e : p.1 = n
    · simp [e, nms]
    · rw [if_neg e, ih]
      simp only [nms, List.map_cons, List.mem_cons, not_or]
      exact ⟨fun h => ⟨fun z => e z.symm, h⟩, fun h => h.2⟩
theorem lk_mem {t : Tb} {n : Str} {i : Int} (h : lk t n = some i) : (n, i) ∈ t := by
  unfold lk at h
  cases e : t.find? fun p => decide (p.1 = n) with
  | none => rw [e] at h; cases h
  | some p =>
    rw [e] at h
    have h1 := List.find?_some e
    have h2 := List.mem_of_find?_eq_some e
    simp at h h1
    obtain ⟨a, b⟩ := p
    simp only at h h1
    subst h h1
    exact h2
theorem lk_of {n : Str} {i : Int} : ∀ {t : Tb}, (nms t).Nodup → (n, i) ∈ t → lk t n = some i
  | p :: t, h, m => by
    rw [lk_cons]
    obtain ⟨h1, h2⟩ := List.nodup_cons.mp (show (p.1 :: nms t).Nodup from h)
    rcases List.mem_cons.mp m with e | m'
    · rw [← e]; simp
    · have : p.1 ≠ n := fun e => h1 (by rw [e]; exact List.mem_map.mpr ⟨_, m', rfl⟩)
      rw [if_neg this]
      exact lk_of h2 m'
theorem mem_nms {t : Tb} {n : Str} : n ∈ nms t ↔ ∃ i, lk t n = some i := by
  constructor
  · intro h
    cases e : lk t n with
    | none => exact absurd h (lk_none.mp e)
    | some i => exact ⟨i, rfl⟩
  · rintro ⟨i, e⟩
    exact List.mem_map.mpr ⟨_, lk_mem e, rfl⟩
theorem lk_app {n : Str} {i : Int} {m : Str} : ∀ {t : Tb}, n ∉ nms t → lk (t ++ [(n, i)]) m = if m = n then some i else lk t m
  | [], _ => by
    rw [List.nil_append, lk_cons, lk_nil]
    by_cases e : n = m
    · simp [e]
    · rw [if_neg e, if_neg (fun z => e z.symm)]
  | p :: t, h => by
    rw [List.cons_append, lk_cons, lk_cons]
    have h1 : ¬ n = p.1 ∧ n ∉ nms t := by simpa [nms] using h
    rw [lk_app h1.2]
    by_cases e : p.1 = m
    · simp only [e, if_true]
      rw [if_neg (fun z => h1.1 (by rw [e, z]))]
    · simp only [e, if_false]
theorem lk_map {n : Str} {i : Int} {m : Str} : ∀ {t : Tb}, lk (t.map fun p => if p.1 = n then (p.1, i) else p) m = (lk t m).map fun x => if m = n then i else x
  | [] => rfl
  | p :: t => by
    rw [List.map_cons, lk_cons, lk_cons, lk_map]
    by_cases e : p.1 = m
    · subst e
      by_cases c : p.1 = n
      · rw [if_pos c]
        simp [c]
      · rw [if_neg c]
        simp [c]
    · have e2 : ¬ (if p.1 = n then (p.1, i) else p).1 = m := by split <;> exact e
      rw [if_neg e, if_neg e2]
theorem any_nms {t : Tb} {n : Str} : (t.any fun p => decide (p.1 = n)) = decide (n ∈ nms t) := by
  rw [Bool.eq_iff_iff, List.any_eq_true, decide_eq_true_eq]
  constructor
  · rintro ⟨p, h1, h2⟩
    exact List.mem_map.mpr ⟨p, h1, by simpa using h2⟩
  · intro h
    obtain ⟨p, h1, h2⟩ := List.mem_map.mp h
    exact ⟨p, h1, by simpa using h2⟩
theorem lk_put {t : Tb} {n m : Str} {i : Int} : lk (putT t n i) m = if m = n then some i else lk t m := by
  unfold putT
  rw [any_nms]
  by_cases c : n ∈ nms t
  · rw [if_pos (by simpa using c), lk_map]
    by_cases e : m = n
    · subst e
      obtain ⟨j, hj⟩ := mem_nms.mp c
      simp [hj]
    · cases lk t m <;> simp [e]
  · rw [if_neg (by simpa using c), lk_app c]
theorem lk_drop {n m : Str} : ∀ {t : Tb}, lk (dropT t n) m = if m = n then none else lk t m
  | [] => by simp [dropT, lk_nil]
  | p :: t => by
    have ih := lk_drop (n := n) (m := m) (t := t)
    unfold dropT at ih ⊢
    rw [List.filter_cons]
    by_cases c : p.1 = n
    · rw [if_neg (by simpa using c), ih, lk_cons]
      by_cases e : m = n
      · simp [e]
      · rw [if_neg e, if_neg e, if_neg (fun z => e (by rw [← z, c]))]
    · rw [if_pos (by simpa using c), lk_cons, lk_cons, ih]
      by_cases e : m = n
      · subst e; simp [c]
      · simp [e]
theorem nms_put {t : Tb} {n : Str} {i : Int} : nms (putT t n i) = if n ∈ nms t then nms t else nms t ++ [n] := by
  unfold putT
  rw [any_nms]
  by_cases c : n ∈ nms t
  · rw [if_pos (decide_eq_true c), if_pos c]
    unfold nms
    rw [List.map_map]
    refine List.map_congr_left fun p _ => ?_
    simp only [Function.comp]
    by_cases e : p.1 = n <;> simp [e]
  · rw [if_neg (by simpa using c), if_neg c]
    simp [nms]
theorem put_len {t : Tb} {n : Str} {i : Int} : (putT t n i).length = if n ∈ nms t then t.length else t.length + 1 := by
  have e : (putT t n i).length = (nms (putT t n i)).length := (List.length_map _).symm
  rw [e, nms_put]
  by_cases c : n ∈ nms t
  · rw [if_pos c, if_pos c]; exact List.length_map _
  · rw [if_neg c, if_neg c]; simp [nms]
theorem put_nd {t : Tb} {n : Str} {i : Int} (h : (nms t).Nodup) : (nms (putT t n i)).Nodup := by
  rw [nms_put]
  split
  · exact h
  · rename_i c
    rw [List.nodup_append]
    exact ⟨h, by simp, fun a ha b hb => by rw [List.mem_singleton.mp hb]; intro e; subst e; exact c ha⟩
theorem drop_nd {t : Tb} {n : Str} (h : (nms t).Nodup) : (nms (dropT t n)).Nodup := List.Nodup.sublist (List.Sublist.map _ List.filter_sublist) h
theorem mem_put {t : Tb} {n : Str} {i : Int} {p : Str × Int} (h : p ∈ putT t n i) : p = (n, i) ∨ p ∈ t := by
  unfold putT at h
  split at h
  · obtain ⟨q, hq, e⟩ := List.mem_map.mp h
    by_cases c : q.1 = n
    · rw [if_pos c, c] at e; exact .inl e.symm
    · rw [if_neg c] at e; exact .inr (e ▸ hq)
  · rcases List.mem_append.mp h with h | h
    · exact .inr h
    · exact .inl (List.mem_singleton.mp h)
/-- a name -/
def isNm (s : Str) : Prop := 1 ≤ s.cps.toList.length ∧ s.cps.toList.length ≤ 6 ∧ ∀ c ∈ s.cps.toList, 97 ≤ c ∧ c ≤ 122
instance (s : Str) : Decidable (isNm s) := inferInstanceAs (Decidable (_ ∧ _ ∧ _))
structure OkT (t : Tb) : Prop where
  nd : (nms t).Nodup
  nm : ∀ p ∈ t, isNm p.1
  num : ∀ p ∈ t, 0 ≤ p.2 ∧ p.2 ≤ 99
theorem OkT.nil : OkT [] := ⟨by simp [nms], (fun _ h => nomatch h), (fun _ h => nomatch h)⟩
theorem OkT.put {t : Tb} (h : OkT t) {n : Str} {i : Int} (hn : isNm n) (h0 : 0 ≤ i) (h1 : i ≤ 99) : OkT (putT t n i) :=
  ⟨put_nd h.nd, fun p hp => (mem_put hp).elim (fun e => by rw [e]; exact hn) (h.nm p), fun p hp => (mem_put hp).elim (fun e => by rw [e]; exact ⟨h0, h1⟩) (h.num p)⟩
theorem OkT.drop {t : Tb} (h : OkT t) {n : Str} : OkT (dropT t n) := ⟨drop_nd h.nd, fun p hp => h.nm p (List.mem_filter.mp hp).1, fun p hp => h.num p (List.mem_filter.mp hp).1⟩
theorem OkT.same_len {a b : Tb} (ha : OkT a) (hb : OkT b) (h : ∀ n, lk a n = lk b n) : a.length = b.length := by
  have := nodup_same ha.nd hb.nd fun n => by rw [mem_nms, mem_nms, h n]
  simpa [nms] using this
theorem OkT.le_len {a b : Tb} (ha : OkT a) (h : ∀ n, lk b n = none → lk a n = none) : a.length ≤ b.length := by
  have := nodup_le ha.nd (m := nms b) fun n hn => by
    by_cases c : n ∈ nms b
    · exact c
    · exact absurd hn (lk_none.mp (h n (lk_none.mpr c)))
  simpa [nms] using this
/-! parts -/
abbrev Pt := List (Str × Option Int)
def diffN (a b : Tb) : List Str := (srt (nms a ++ nms b)).filter fun n => decide (lk a n ≠ lk b n)
def part (a b : Tb) : Pt := (diffN a b).map fun n => (n, lk b n)
theorem mem_diffN {a b : Tb} {n : Str} : n ∈ diffN a b ↔ lk a n ≠ lk b n := by
  unfold diffN
  rw [List.mem_filter, mem_srt, List.mem_append, decide_eq_true_eq]
  refine ⟨fun h => h.2, fun h => ⟨?_, h⟩⟩
  by_cases c : n ∈ nms a
  · exact .inl c
  · by_cases c' : n ∈ nms b
    · exact .inr c'
    · exact absurd ((lk_none.mpr c).trans (lk_none.mpr c').symm) h
theorem pw_diffN {a b : Tb} : (diffN a b).Pairwise sl := List.Pairwise.sublist List.filter_sublist pw_srt
theorem diffN_congr {a b a' b' : Tb} (ha : ∀ n, lk a n = lk a' n) (hb : ∀ n, lk b n = lk b' n) : diffN a b = diffN a' b' :=
  srt_uniq pw_diffN pw_diffN fun k => by rw [mem_diffN, mem_diffN, ha, hb]
theorem part_congr {a b a' b' : Tb} (ha : ∀ n, lk a n = lk a' n) (hb : ∀ n, lk b n = lk b' n) : part a b = part a' b' := by
  unfold part
  rw [diffN_congr ha hb]
  exact List.map_congr_left fun n _ => by rw [hb n]
theorem diffN_swap {a b : Tb} : diffN a b = diffN b a := srt_uniq pw_diffN pw_diffN fun k => by rw [mem_diffN, mem_diffN]; exact ne_comm
theorem part_len {a b : Tb} : (part a b).length = (diffN a b).length := List.length_map _
theorem diffN_len {a b : Tb} : (diffN a b).length ≤ a.length + b.length := by
  have := nodup_le (pw_nodup (pw_diffN (a := a) (b := b))) (m := nms a ++ nms b) fun x hx => by
    have := (List.mem_filter.mp hx).1
    rwa [mem_srt] at this
  simpa [nms] using this
theorem part_nil {a b : Tb} : part a b = [] ↔ ∀ n, lk a n = lk b n := by
  unfold part
  rw [List.map_eq_nil_iff]
  constructor
  · intro h n
    refine Decidable.byContradiction fun c => ?_
    have := mem_diffN.mpr c
    rw [h] at this
    cases this
  · intro h
    cases e : diffN a b with
    | nil => rfl
    | cons n r => exact absurd (h n) (mem_diffN.mp (by rw [e]; exact List.mem_cons_self))
structure GoodP (ps : Pt) : Prop where
  pw : (ps.map (·.1)).Pairwise sl
  nm : ∀ p ∈ ps, isNm p.1
  num : ∀ p ∈ ps, ∀ i, p.2 = some i → 0 ≤ i ∧ i ≤ 99
  len : ps.length ≤ 40
theorem part_names {a b : Tb} : (part a b).map (·.1) = diffN a b := by
  unfold part
  rw [List.map_map]
  exact List.map_id _
theorem part_good {a b : Tb} (ha : OkT a) (hb : OkT b) (la : a.length ≤ 20) (lb : b.length ≤ 20) : GoodP (part a b) := by
  refine ⟨by rw [part_names]; exact pw_diffN, fun p hp => ?_, fun p hp i e => ?_, ?_⟩
  · obtain ⟨n, hn, rfl⟩ := List.mem_map.mp hp
    have h := mem_diffN.mp hn
    cases e : lk a n with
    | some i => exact ha.nm _ (lk_mem e)
    | none =>
      cases e' : lk b n with
      | some i => exact hb.nm _ (lk_mem e')
      | none => rw [e, e'] at h; exact absurd rfl h
  · obtain ⟨n, hn, rfl⟩ := List.mem_map.mp hp
    exact hb.num _ (lk_mem e)
  · rw [part_len]
    have := diffN_len (a := a) (b := b)
    omega
def stepP (t : Tb) (n : Str) (x : Option Int) : Tb := match x with
  | none => dropT t n
  | some i => putT t n i
theorem lk_step {t : Tb} {n m : Str} {x : Option Int} : lk (stepP t n x) m = if m = n then x else lk t m := by
  cases x with
  | none => exact lk_drop
  | some i => exact lk_put
theorem OkT.step {t : Tb} (h : OkT t) {n : Str} {x : Option Int} (hn : isNm n) (hx : ∀ i, x = some i → 0 ≤ i ∧ i ≤ 99) : OkT (stepP t n x) := by
  cases x with
  | none => exact h.drop
  | some i => exact h.put hn (hx i rfl).1 (hx i rfl).2
theorem step_len {t : Tb} {n : Str} {x : Option Int} : (stepP t n x).length ≤ t.length + 1 := by
  cases x with
  | none => exact Nat.le_succ_of_le (List.length_filter_le _ _)
  | some i => show (putT t n i).length ≤ _; rw [put_len]; split <;> omega
def applyP : Tb → Pt → Option Tb
  | t, [] => some t
  | t, (n, x) :: ps => if lk t n = x then none else applyP (stepP t n x) ps
theorem applyP_some : ∀ {ps : Pt} {t : Tb}, (ps.map (·.1)).Nodup → (∀ p ∈ ps, lk t p.1 ≠ p.2) → ∃ t', applyP t ps = some t' ∧ (∀ p ∈ ps, lk t' p.1 = p.2) ∧ ∀ n, n ∉ ps.map (·.1) → lk t' n = lk t n
  | [], t, _, _ => ⟨t, rfl, (fun _ h => nomatch h), fun _ _ => rfl⟩
  | (n, x) :: ps, t, nd, h => by
    obtain ⟨h1, h2⟩ := List.nodup_cons.mp (show (n :: ps.map (·.1)).Nodup from nd)
    have hn : lk t n ≠ x := h (n, x) List.mem_cons_self
    obtain ⟨t', e1, e2, e3⟩ := applyP_some (ps := ps) (t := stepP t n x) h2 fun p hp => by
      have hne : p.1 ≠ n := fun e => h1 (by rw [← e]; exact List.mem_map.mpr ⟨p, hp, rfl⟩)
      rw [lk_step, if_neg hne]
      exact h p (List.mem_cons_of_mem _ hp)
    refine ⟨t', by unfold applyP; rw [if_neg hn]; exact e1, fun p hp => ?_, fun m hm => ?_⟩
    · rcases List.mem_cons.mp hp with e | m
      · subst e
        rw [e3 n h1, lk_step, if_pos rfl]
      · exact e2 p m
    · have hm' : ¬ m = n ∧ m ∉ ps.map (·.1) := by simpa using hm
      rw [e3 m hm'.2, lk_step, if_neg hm'.1]
theorem applyP_none : ∀ {ps : Pt} {t : Tb}, (ps.map (·.1)).Nodup → (∃ p ∈ ps, lk t p.1 = p.2) → applyP t ps = none
  | (n, x) :: ps, t, nd, h => by
    obtain ⟨h1, h2⟩ := List.nodup_cons.mp (show (n :: ps.map (·.1)).Nodup from nd)
    unfold applyP
    by_cases c : lk t n = x
    · rw [if_pos c]
    · rw [if_neg c]
      refine applyP_none h2 ?_
      obtain ⟨p, hp, e⟩ := h
      rcases List.mem_cons.mp hp with z | m
      · subst z; exact absurd e c
      · refine ⟨p, m, ?_⟩
        have hne : p.1 ≠ n := fun e => h1 (by rw [← e]; exact List.mem_map.mpr ⟨p, m, rfl⟩)
        rw [lk_step, if_neg hne]
        exact e
theorem applyP_ok : ∀ {ps : Pt} {t t' : Tb}, OkT t → (∀ p ∈ ps, isNm p.1) → (∀ p ∈ ps, ∀ i, p.2 = some i → 0 ≤ i ∧ i ≤ 99) → applyP t ps = some t' → OkT t'
  | [], t, t', h, _, _, e => by cases e; exact h
  | (n, x) :: ps, t, t', h, h1, h2, e => by
    unfold applyP at e
    by_cases c : lk t n = x
    · rw [if_pos c] at e; cases e
    · rw [if_neg c] at e
      exact applyP_ok (h.step (h1 _ List.mem_cons_self) (h2 _ List.mem_cons_self)) (fun p hp => h1 p (List.mem_cons_of_mem _ hp)) (fun p hp => h2 p (List.mem_cons_of_mem _ hp)) e
/-- the part of two tables leads from the one to the other -/
theorem apply_part {a b : Tb} : ∃ t', applyP a (part a b) = some t' ∧ ∀ n, lk t' n = lk b n := by
  obtain ⟨t', e1, e2, e3⟩ := applyP_some (ps := part a b) (t := a) (by rw [part_names]; exact pw_nodup pw_diffN) fun p hp => by
    obtain ⟨n, hn, rfl⟩ := List.mem_map.mp hp
    exact mem_diffN.mp hn
  refine ⟨t', e1, fun n => ?_⟩
  by_cases c : lk a n = lk b n
  · rw [e3 n (by rw [part_names, mem_diffN]; exact fun z => z c)]
    exact c
  · exact e2 (n, lk b n) (List.mem_map.mpr ⟨n, mem_diffN.mpr c, rfl⟩)
end Nk
/-! ### the layer's short words for this program -/
namespace Nk
open PySem L2 PySem.Spec PyProof.Rows
/-- a def of the top keeps a promise: called by its name -/
structure Fk (P : Program) (w : World) (K : PySem.W.Frag) (mg : Str → Option Value) (base : Heap) (CX : CXT) (k : Nat) (x : Str) (ps : List Str) (sp : Sp) : Prop where
  ex : ∃ (f : Addr) (fd : FuncData), mg x = some (.ref f) ∧ PySem.W.keepIn K (.ref f) = true ∧ Binds K fd ps [] ∧ FnOk P w K mg base CX k f fd ps sp
/-- a def as it stands behind the top -/
structure Df (K : PySem.W.Frag) (mg : Str → Option Value) (x qual : Str) (st : Stmt) (ps : List Str) : Prop where
  ex : ∃ (f : Addr) (fd : FuncData), Fun K x qual st f fd ∧ mg x = some (.ref f) ∧ Binds K fd ps []
section
variable {X : Cx} {CX : CXT} {k : Nat} {ps : List Str} {sp : Sp} {x : Str} {p pos : Pos} {e : Expr} {es : List Expr} {t : TA} {E : XK}
theorem pe_fn (F : Fk X.prog X.w X.K X.mg X.base CX k x ps sp) (hr : Room k X.A) (hg : Gl X x) (hx : Passes CX X E) (ha : PA X (e :: es) t) (hdb : (x == ("__debug__" : Str)) = false := by decide)
    (he : starEach (e :: es) X.env = (false, eval e X.env) :: starEach es X.env := by rfl) (hpl : (backTo pos (starEach es X.env)).any (·.1) = false := by rfl) :
    PE X (.Call (.Name x p) (e :: es) [] pos) (tCall sp [] E t) := by
  obtain ⟨f, fd, g, kp, b, G⟩ := F.ex
  exact pe_call G hr hg g kp b .nil hx ha hdb he hpl
theorem passX {X : Cx} {E : XK} (tk : Takes X (fun cls d _ H => E cls d H)) : Passes (L2.CX X.prog X.w) X E := passes_call tk (fun _ _ _ _ h => h)
end
/-- an own exception class without own __init__, over RuntimeError -/
structure Xc (K : PySem.W.Frag) (mg : Str → Option Value) (x : Str) (C : Addr) : Prop where
  gP : mg x = some (.ref C)
  xP : PySem.W.excIn K C [.type "RuntimeError", .type "Exception", .type "BaseException", .type "object"] "RuntimeError.__new__" = true
  kP : PySem.W.keepIn K (.ref C) = true
  bP : PySem.W.subIn K (.ref C) (.type "BaseException") = some true
  tP : PySem.W.typeIn K (.ref C) = some (.type "type")
theorem Xc.rs {X : Cx} {x : Str} {C : Addr} (h : Xc X.K X.mg x C) : Raises X (.ref C) := raises_own h.bP h.tP
/-! sum of a tuple -/
def rSumT (K : PySem.W.Frag) : List V → Hp → VK → Prop := fun vs H Q => ∃ (a : Addr) (ns : List Int), vs = [V.ref a] ∧ SqT K H a (ns.map V.int) ∧ Q (.int ns.sum) H
theorem cr_sumT {X : Cx} (hc : X.calm = true) : CallR X (.builtin "sum") (rSumT X.K) := by
  intro pins s σ H vs us Q I r h
  obtain ⟨a, ns, rfl, hs, q⟩ := h
  obtain ⟨its, rv, hl, _⟩ := I.tuple hs
  rw [Vals.ref1 r]
  have hi : IntsAre its ns := rv.ints
  obtain ⟨xs, hx⟩ := hi.allInts.items
  have hn : numsOf its.toArray.toList = ns := by rw [show its.toArray.toList = its from rfl, hi.numsOf]
  rw [hx] at hl hn
  rw [nums_intItems] at hn
  refine PySem.W.ktm_sumG (I.ok.hd hc) hl fun h' tk t' hk => ?_
  rw [preSum_eq, List.take_of_length_le (by simp), hn]
  exact ⟨.int _, H, I.kept hk, ⟨_, rfl⟩, q⟩
/-! heaps -/
/-- all but t is as it was -/
def But (t : Addr) (H H' : Hp) : Prop := ∀ b o, H b = some o → b ≠ t → H' b = some o
theorem But.refl {t : Addr} {H : Hp} : But t H H := fun _ _ h _ => h
theorem But.trans {t : Addr} {H H1 H2 : Hp} (a : But t H H1) (b : But t H1 H2) : But t H H2 := fun c o h n => b c o (a c o h n) n
theorem But.of {t : Addr} {H H' : Hp} (s : Same H H') : But t H H' := fun b o h _ => s b o h
theorem But.thenS {t : Addr} {H H1 H2 : Hp} (a : But t H H1) (b : Same H1 H2) : But t H H2 := a.trans (.of b)
theorem Same.thenB {t : Addr} {H H1 H2 : Hp} (a : Same H H1) (b : But t H1 H2) : But t H H2 := (But.of a).trans b
theorem same_upd {H : Hp} {p : Addr} {o : HO} (h : H p = none) : Same H (upd H p o) := fun b x e => by
  rw [upd_ne (ne_of_none e h)]
  exact e
theorem But.upd {t : Addr} {H : Hp} {o : HO} : But t H (upd H t o) := fun b x e n => by
  rw [upd_ne n]
  exact e
theorem But.tup {K : PySem.W.Frag} {t a : Addr} {H H' : Hp} {xs : List V} {l : List V} (b : But t H H') (ht : H t = some (.lst l)) (h : SqT K H a xs) : SqT K H' a xs := by
  rcases h with (h | ⟨o, h⟩) | h
  · exact .inl (.inl (b _ _ h (ne_of h ht (by intro z; cases z))))
  · exact .inl (.inr ⟨o, b _ _ h (ne_of h ht (by intro z; cases z))⟩)
  · exact .inr h
theorem But.lst {K : PySem.W.Frag} {t a : Addr} {H H' : Hp} {xs : List V} (b : But t H H') (ha : a ≠ t) (h : SqL K H a xs) : SqL K H' a xs := by
  rcases h with (h | ⟨o, h⟩) | h
  · exact .inl (.inl (b _ _ h ha))
  · exact .inl (.inr ⟨o, b _ _ h ha⟩)
  · exact .inr h
theorem Same.tup {K : PySem.W.Frag} {a : Addr} {H H' : Hp} {xs : List V} (e : Same H H') (h : SqT K H a xs) : SqT K H' a xs := by
  rcases h with (h | ⟨o, h⟩) | h
  · exact .inl (.inl (e _ _ h))
  · exact .inl (.inr ⟨o, e _ _ h⟩)
  · exact .inr h
theorem sqL {K : PySem.W.Frag} {H : Hp} {a : Addr} {xs : List V} (h : H a = some (.lst xs)) : SqL K H a xs := Or.inl (Or.inl h)
theorem sqT {K : PySem.W.Frag} {H : Hp} {a : Addr} {xs : List V} (h : H a = some (.tup xs)) : SqT K H a xs := Or.inl (Or.inl h)
theorem sz {n : Nat} (h : n ≤ 100000) : n ≤ sizeLine := Nat.le_trans h (by decide)
theorem szl {n : Nat} (h : n < 100000) : n < sizeLine := Nat.lt_of_lt_of_le h (by decide)
/-- a list that is read and is not t -/
def SqN (K : PySem.W.Frag) (H : Hp) (a t : Addr) (xs : List V) : Prop := (Rd H a (.lst xs) ∧ a ≠ t) ∨
    ∃ (o : Obj) (its : Array Value) (n : Nat), K.lookup a = some o ∧ o.cls = .type "list" ∧ o.dict = none ∧ o.data = .seq its n ∧ its.size ≤ sizeLine ∧ Vals xs its.toList
theorem SqN.l {K : PySem.W.Frag} {H : Hp} {a t : Addr} {xs : List V} (h : SqN K H a t xs) : SqL K H a xs := by
  rcases h with ⟨h, _⟩ | h
  · exact .inl h
  · exact .inr h
theorem SqN.but {K : PySem.W.Frag} {H H' : Hp} {a t : Addr} {xs : List V} (h : SqN K H a t xs) (b : But t H H') : SqN K H' a t xs := by
  rcases h with ⟨h | ⟨o, h⟩, n⟩ | h
  · exact .inl ⟨.inl (b _ _ h n), n⟩
  · exact .inl ⟨.inr ⟨o, b _ _ h n⟩, n⟩
  · exact .inr h
theorem SqN.same {K : PySem.W.Frag} {H H' : Hp} {a t : Addr} {xs : List V} (h : SqN K H a t xs) (b : Same H H') : SqN K H' a t xs := h.but (.of b)
theorem SqN.new {K : PySem.W.Frag} {H : Hp} {a t : Addr} {xs : List V} (h : SqL K H a xs) (ht : H t = none) : SqN K H a t xs := by
  rcases h with (h | ⟨o, h⟩) | h
  · exact .inl ⟨.inl h, ne_of_none h ht⟩
  · exact .inl ⟨.inr ⟨o, h⟩, ne_of_none h ht⟩
  · exact .inr h
theorem SqN.app {K : PySem.W.Frag} {H H' : Hp} {a t p : Addr} {xs : List V} {o : HO} (h : SqN K H' a t xs) (h0 : SqN K H a t xs) (hp : H p = none) : SqN K (upd H' p o) a t xs := by
  have sN : But p H' (upd H' p o) := But.upd
  rcases h0 with ⟨h' | ⟨o', h'⟩, n'⟩ | h'
  · rcases h with ⟨h | ⟨o, h⟩, n⟩ | h
    · exact .inl ⟨.inl (sN _ _ h (ne_of_none h' hp)), n⟩
    · exact .inl ⟨.inr ⟨o, sN _ _ h (ne_of_none h' hp)⟩, n⟩
    · exact .inr h
  · rcases h with ⟨h | ⟨o, h⟩, n⟩ | h
    · exact .inl ⟨.inl (sN _ _ h (ne_of_none h' hp)), n⟩
    · exact .inl ⟨.inr ⟨o, sN _ _ h (ne_of_none h' hp)⟩, n⟩
    · exact .inr h
  · exact .inr h'
theorem szN {n : Nat} (h : n ≤ 64) : (n ≤ sizeLine) = True := eq_true (sz (by omega))
/-! things -/
/-- what may be handed in, with the name of its type -/
inductive Thing (K : PySem.W.Frag) (H : Hp) : V → String → Prop
  | non : Thing K H .non "NoneType"
  | bl (b : Bool) : Thing K H (.bl b) "bool"
  | int (i : Int) : Thing K H (.int i) "int"
  | str (x : Str) : Thing K H (.str x) "str"
  | lst {a : Addr} {xs : List V} (h : H a = some (.lst xs)) : Thing K H (.ref a) "list"
  | tup {a : Addr} {xs : List V} (h : H a = some (.tup xs)) : Thing K H (.ref a) "tuple"
  | dic {a : Addr} {kvs : List (Key × V)} (h : H a = some (.dK kvs)) : Thing K H (.ref a) "dict"
theorem Thing.ty {K : PySem.W.Frag} {H : Hp} {x : V} {n : String} (h : Thing K H x n) : TyX K H x (.type n) := by
  cases h with
  | non => exact .base .non
  | bl b => exact .base (.bl b)
  | int i => exact .base (.int i)
  | str x => exact .base (.str x)
  | lst h => exact .base (.lst h)
  | tup h => exact .base (.tup h)
  | dic h => exact .base (.dK h)
theorem Thing.same {K : PySem.W.Frag} {H H' : Hp} {x : V} {n : String} (s : Same H H') (h : Thing K H x n) : Thing K H' x n := by
  cases h with
  | non => exact .non
  | bl b => exact .bl b
  | int i => exact .int i
  | str x => exact .str x
  | lst h => exact .lst (s _ _ h)
  | tup h => exact .tup (s _ _ h)
  | dic h => exact .dic (s _ _ h)
def isA (n : String) (T : String) : Bool := n == T || (n == "bool" && T == "int")
def tyNames : List String := ["NoneType", "bool", "int", "str", "list", "tuple", "dict"]
theorem Thing.mem {K : PySem.W.Frag} {H : Hp} {x : V} {n : String} (h : Thing K H x n) : n ∈ tyNames := by
  cases h <;> simp [tyNames]
theorem kit_all : ∀ n ∈ tyNames, ∀ T ∈ tyNames, kitB n T = some (isA n T) := by decide +kernel
theorem Thing.kit {K : PySem.W.Frag} {H : Hp} {x : V} {n : String} (h : Thing K H x n) {T : String} (hT : T ∈ tyNames) : PySem.W.kitOne K (.type n) (.type T) = some (isA n T) := kit_ty (kit_all n h.mem T hT)
/-- isinstance of a thing -/
theorem isi_thing {K : PySem.W.Frag} {H : Hp} {x : V} {n : String} {T : String} {Q : VK} (h : Thing K H x n) (hT : T ∈ tyNames) (q : Q (.bl (isA n T)) H) : rIsi K [x, .ty T] H Q :=
  ⟨x, .ty T, .type n, .type T, isA n T, rfl, .ty T, h.ty, h.kit hT, q⟩
def isWholeV : V → Bool
  | .int _ => true
  | _ => false
def isNumV (x : V) (lo : Int) (y : V) : Bool := match x, y with
  | .int i, .int hi => decide (lo ≤ i) && decide (i ≤ hi)
  | _, _ => false
end Nk
namespace Nk
open PySem L2 PySem.Spec PyProof.Rows
/-- where a class of the top stands -/
def cls (mg : Str → Option Value) (x : Str) : Addr := match mg x with
  | some (.ref a) => a
  | _ => 0
theorem cls_of {mg : Str → Option Value} {x : Str} {a : Addr} (h : mg x = some (.ref a)) : cls mg x = a := by
  unfold cls; rw [h]
section
variable {X : Cx} {x : Str} {i : Int} {z : Str} {pos : Pos}
theorem pe_globI (h : ∃ t, X.mg x = some (.int i t)) (hg : Gl X x) (hd : (x == ("__debug__" : Str)) = false := by decide) : PE X (.Name x pos) (tC (.int i)) := by
  obtain ⟨t, h⟩ := h
  exact pe_glob hg h ⟨_, rfl⟩ hd
theorem pe_globS (h : ∃ t, X.mg x = some (.str z t)) (hg : Gl X x) (hd : (x == ("__debug__" : Str)) = false := by decide) : PE X (.Name x pos) (tC (.str z)) := by
  obtain ⟨t, h⟩ := h
  exact pe_glob hg h ⟨_, rfl⟩ hd
end
section
variable {K : PySem.W.Frag} {h : Heap} {mg : Str → Option Value}
theorem df_mk {x qual : Str} {st : Stmt} {ps : List Str} {f : Addr} {oc : Value} {od an : Option Addr} {osl : Array (Option Value)} {kV doc pm cdv ct : Value} (X : K.In h) (G : h.Ns mainGlobals mg)
    (hb : ∀ (kV doc pm : Value) (an : Option Addr) (cdv ct : Value) (us : List Value), us.length = ps.length → bindArgs (PySem.W.fnOf x qual (defArgs st) (defBody st) (defScope st) .none kV doc pm an cdv ct) ⟨us, []⟩ = pure (ps.zip us))
    (a : PySem.W.nsIn K mainGlobals x = some (some (.ref f)))
    (l : K.lookup f = some ⟨oc, od, .func (PySem.W.fnOf x qual (defArgs st) (defBody st) (defScope st) .none kV doc pm an cdv ct), osl⟩)
    (c : PySem.W.codeIn K cdv qual = true) (k : PySem.W.keepIn K (.ref f) = true) : Df K mg x qual st ps := by
  have F := fun_mk (st := st) l c k
  exact ⟨f, _, F, PySem.W.mg_of X G a, F.binds hb⟩
theorem xc_mk {x : Str} {C : Addr} (X : K.In h) (G : h.Ns mainGlobals mg) (a : PySem.W.nsIn K mainGlobals x = some (some (.ref C)))
    (xP : PySem.W.excIn K C [.type "RuntimeError", .type "Exception", .type "BaseException", .type "object"] "RuntimeError.__new__" = true)
    (kP : PySem.W.keepIn K (.ref C) = true) (bP : PySem.W.subIn K (.ref C) (.type "BaseException") = some true) (tP : PySem.W.typeIn K (.ref C) = some (.type "type")) : Xc K mg x (cls mg x) := by
  have g := PySem.W.mg_of X G a
  rw [cls_of g]
  exact ⟨g, xP, kP, bP, tP⟩
theorem ci_mk {x : Str} {i : Int} {t : Tok} (X : K.In h) (G : h.Ns mainGlobals mg) (a : PySem.W.nsIn K mainGlobals x = some (some (.int i t))) : ∃ t, mg x = some (.int i t) := ⟨t, PySem.W.mg_of X G a⟩
theorem cs_mk {x z : Str} {t : Tok} (X : K.In h) (G : h.Ns mainGlobals mg) (a : PySem.W.nsIn K mainGlobals x = some (some (.str z t))) : ∃ t, mg x = some (.str z t) := ⟨t, PySem.W.mg_of X G a⟩
end
/-- the law's: a list of at most 63 ints is handed in, True comes out -/
def spLaw (K : PySem.W.Frag) : Sp := fun vs H Q _ => ∃ (a : Addr) (ns : List Int), vs = [.ref a] ∧ SqL K H a (ns.map V.int) ∧ ns.length ≤ 63 ∧ ∀ H', Q (.bl true) H'
theorem law_end {P : Program} {w : World} {K : PySem.W.Frag} {mg : Str → Option Value} {st : Stmt} {fa : Addr} {k : Nat} (hfa : mg "law" = some (.ref fa)) (D : Df K mg "law" "law" st ["script"])
    (hb : ∀ (kV doc pm : Value) (an : Option Addr) (cdv ct v : Value), bindArgs (PySem.W.fnOf "law" "law" (defArgs st) (defBody st) (defScope st) .none kV doc pm an cdv ct) ⟨[v], []⟩ = pure [(("script" : Str), v)])
    (G : ∀ (base : Heap) (f : Addr) (fd : FuncData), Fun K "law" "law" st f fd → FnOk P w K mg base CX0 k f fd ["script"] (spLaw K)) :
    ∃ fd : FuncData, (∀ (s : Shared) (v : Value), BindsTo s fd ⟨[v], []⟩ [("script", v)]) ∧ ∀ base : Heap, K.In base → base.Ns mainGlobals mg → FnOk P w K mg base CX0 k fa fd ["script"] (spLaw K) := by
  obtain ⟨f, fd, F, g, b⟩ := D.ex
  have e : fa = f := by
    have := hfa.symm.trans g
    cases this
    rfl
  subst e
  refine ⟨fd, fun s v => ?_, fun base _ _ => G base fa fd F⟩
  obtain ⟨oc, od, kV, doc, pm, an, cdv, ct, osl, rfl, lk, hcd⟩ := F.ex
  exact .of_eq (hb _ _ _ _ _ _ _)
end Nk
namespace Nk
open PySem L2 PySem.Spec PyProof.Rows
theorem Same.keepN {H H' : Hp} {t : Addr} {o : HO} (s : Same H H') (n : H t = none) : Same H (upd H' t o) := fun b x e => by
  rw [upd_ne (ne_of_none e n)]
  exact s b x e
/-- within a comprehension that leaves all else: G i is the list behind i items -/
structure LcP (H1 : Hp) (D : Addr) (G : Nat → List V) (i : Nat) (H : Hp) : Prop where
  same : Same H1 H
  at_ : H D = some (.lst (G i))
theorem LcP.push {H1 H H4 : Hp} {D : Addr} {G : Nat → List V} {i : Nat} {y : V} (p : LcP H1 D G i H) (hD : H1 D = none) (hl : (G i).length ≤ 99999) (s : Same H H4) (e : G (i + 1) = G i ++ [y]) :
    ∃ acc, H4 D = some (.lst acc) ∧ acc.length < sizeLine ∧ LcP H1 D G (i + 1) (upd H4 D (.lst (acc ++ [y]))) :=
  ⟨G i, s _ _ p.at_, szl (by omega), Same.keepN (p.same.trans s) hD, by rw [upd_same, e]⟩
theorem LcP.skip {H1 H H4 : Hp} {D : Addr} {G : Nat → List V} {i : Nat} (p : LcP H1 D G i H) (s : Same H H4) (e : G (i + 1) = G i) : LcP H1 D G (i + 1) H4 :=
  ⟨p.same.trans s, by rw [e]; exact s _ _ p.at_⟩
theorem lcT {K : PySem.W.Frag} {a : Addr} {xs : List V} {g : TG} {tt : TT} {te : TE} {vs : List Nat} {σ : L2.St} {H1 : Hp} {D : Addr} {Qd : Hp → Prop} (hD : H1 D = none) (hT : SqT K H1 a xs) (G : Nat → List V) (h0 : G 0 = [])
    (hs : ∀ i x H, xs[i]? = some x → LcP H1 D G i H → g x (wipe σ vs) H fun σ2 H2 => wipe σ2 vs = wipe σ vs ∧ tt σ2 H2 fun b H3 =>
      if b = true then te σ2 H3 fun y H4 => ∃ acc, H4 D = some (.lst acc) ∧ acc.length < sizeLine ∧ LcP H1 D G (i + 1) (upd H4 D (.lst (acc ++ [y]))) else LcP H1 D G (i + 1) H3) (hd : ∀ H, Same H1 H → H D = some (.lst (G xs.length)) → Qd H) :
    ∃ W : Nat → Nat → Hp → Prop, (∃ m, W 0 m (upd H1 D (.lst []))) ∧ ∀ i m H, W i m H →
      ((Itt K a).stop i H ∧ Qd H) ∨ ((Itt K a).go i H ∧ ∃ Nx : Hp → Prop, (∀ H', Nx H' → ∃ m', m' < m ∧ W (i + 1) m' H') ∧ ∀ x H', (Itt K a).yld i H x H' → g x (wipe σ vs) H' fun σ2 H2 => wipe σ2 vs = wipe σ vs ∧ tt σ2 H2 fun b H3 =>
        if b = true then te σ2 H3 fun y H4 => ∃ acc, H4 D = some (.lst acc) ∧ acc.length < sizeLine ∧ Nx (upd H4 D (.lst (acc ++ [y]))) else Nx H3) :=
  lc_tup (K := K) (a := a) (xs := xs) (LcP H1 D G) ⟨same_upd hD, by rw [h0]; exact upd_same⟩ (fun i H _ p => Same.tup p.same hT) hs fun H p => hd H p.same p.at_
theorem lcL {K : PySem.W.Frag} {a : Addr} {xs : List V} {g : TG} {tt : TT} {te : TE} {vs : List Nat} {σ : L2.St} {H1 : Hp} {D : Addr} {Qd : Hp → Prop} (hD : H1 D = none) (hT : SqL K H1 a xs) (G : Nat → List V) (h0 : G 0 = [])
    (hs : ∀ i x H, xs[i]? = some x → LcP H1 D G i H → g x (wipe σ vs) H fun σ2 H2 => wipe σ2 vs = wipe σ vs ∧ tt σ2 H2 fun b H3 =>
      if b = true then te σ2 H3 fun y H4 => ∃ acc, H4 D = some (.lst acc) ∧ acc.length < sizeLine ∧ LcP H1 D G (i + 1) (upd H4 D (.lst (acc ++ [y]))) else LcP H1 D G (i + 1) H3) (hd : ∀ H, Same H1 H → H D = some (.lst (G xs.length)) → Qd H) :
    ∃ W : Nat → Nat → Hp → Prop, (∃ m, W 0 m (upd H1 D (.lst []))) ∧ ∀ i m H, W i m H →
      ((Itl K a).stop i H ∧ Qd H) ∨ ((Itl K a).go i H ∧ ∃ Nx : Hp → Prop, (∀ H', Nx H' → ∃ m', m' < m ∧ W (i + 1) m' H') ∧ ∀ x H', (Itl K a).yld i H x H' → g x (wipe σ vs) H' fun σ2 H2 => wipe σ2 vs = wipe σ vs ∧ tt σ2 H2 fun b H3 =>
        if b = true then te σ2 H3 fun y H4 => ∃ acc, H4 D = some (.lst acc) ∧ acc.length < sizeLine ∧ Nx (upd H4 D (.lst (acc ++ [y]))) else Nx H3) :=
  lc_list (K := K) (a := a) (xs := xs) (LcP H1 D G) ⟨same_upd hD, by rw [h0]; exact upd_same⟩ (fun i H _ p => p.same.seq hT) hs fun H p => hd H p.same p.at_
theorem lcR {lo : Int} {n : Nat} {g : TG} {tt : TT} {te : TE} {vs : List Nat} {σ : L2.St} {H1 : Hp} {D : Addr} {Qd : Hp → Prop} (hD : H1 D = none) (G : Nat → List V) (h0 : G 0 = [])
    (hs : ∀ i H, i < n → LcP H1 D G i H → g (.int (lo + i)) (wipe σ vs) H fun σ2 H2 => wipe σ2 vs = wipe σ vs ∧ tt σ2 H2 fun b H3 =>
      if b = true then te σ2 H3 fun y H4 => ∃ acc, H4 D = some (.lst acc) ∧ acc.length < sizeLine ∧ LcP H1 D G (i + 1) (upd H4 D (.lst (acc ++ [y]))) else LcP H1 D G (i + 1) H3) (hd : ∀ H, Same H1 H → H D = some (.lst (G n)) → Qd H) :
    ∃ W : Nat → Nat → Hp → Prop, (∃ m, W 0 m (upd H1 D (.lst []))) ∧ ∀ i m H, W i m H →
      ((Itr lo n).stop i H ∧ Qd H) ∨ ((Itr lo n).go i H ∧ ∃ Nx : Hp → Prop, (∀ H', Nx H' → ∃ m', m' < m ∧ W (i + 1) m' H') ∧ ∀ x H', (Itr lo n).yld i H x H' → g x (wipe σ vs) H' fun σ2 H2 => wipe σ2 vs = wipe σ vs ∧ tt σ2 H2 fun b H3 =>
        if b = true then te σ2 H3 fun y H4 => ∃ acc, H4 D = some (.lst acc) ∧ acc.length < sizeLine ∧ Nx (upd H4 D (.lst (acc ++ [y]))) else Nx H3) :=
  lc_range (LcP H1 D G) ⟨same_upd hD, by rw [h0]; exact upd_same⟩ hs fun H p => hd H p.same p.at_
theorem take_next {α : Type} {l : List α} {i : Nat} {x : α} (h : l[i]? = some x) : l.take (i + 1) = l.take i ++ [x] := by
  rw [List.take_add_one, h]; rfl
theorem map_take_next {α β : Type} {l : List α} {i : Nat} {x : α} (f : α → β) (h : l[i]? = some x) : (l.take (i + 1)).map f = (l.take i).map f ++ [f x] := by
  rw [take_next h]; simp
theorem filter_take_next {α : Type} {l : List α} {i : Nat} {x : α} (f : α → Bool) (h : l[i]? = some x) : (l.take (i + 1)).filter f = (l.take i).filter f ++ (if f x = true then [x] else []) := by
  rw [take_next h, List.filter_append]; cases e : f x <;> simp [e]
theorem filter_len {α : Type} (l : List α) (f : α → Bool) (i : Nat) : ((l.take i).filter f).length ≤ l.length :=
  Nat.le_trans (List.length_filter_le _ _) (by simp; omega)
theorem lt_of_get {α : Type} {l : List α} {i : Nat} {x : α} (h : l[i]? = some x) : i < l.length := (List.getElem?_eq_some_iff.mp h).1
theorem mem_of_get {α : Type} {l : List α} {i : Nat} {x : α} (h : l[i]? = some x) : x ∈ l := List.mem_of_getElem? h
end Nk
namespace Nk
open PySem L2
theorem seq_k {t u : TS} {D : Ends} {σ : L2.St} {H : Hp} (h : ∀ Kt : L2.St → Hp → Prop, Kt = u D → t { D with nx := Kt } σ H) : tSeq t u D σ H := h _ rfl
theorem gCons_cons {t : TG} {u : TGs} {v : V} {r : List V} {σ : L2.St} {H : Hp} {Q : L2.St → Hp → Prop} : gCons t u (v :: r) σ H Q = t v σ H fun σ' H' => u r σ' H' Q := by
  simp only [gCons, List.cons.injEq]
  refine propext ⟨?_, fun h => ⟨v, r, ⟨rfl, rfl⟩, h⟩⟩
  rintro ⟨v', r', ⟨rfl, rfl⟩, h⟩
  exact h
theorem gNil_nil {σ : L2.St} {H : Hp} {Q : L2.St → Hp → Prop} : gNil [] σ H Q = Q σ H := by
  simp only [gNil, true_and]
theorem scal_ii {a b : Int} : scal (.int a) (.int b) = true := rfl
theorem scal_ss {a b : Str} : scal (.str a) (.str b) = true := rfl
theorem scal_bb {a b : Bool} : scal (.bl a) (.bl b) = true := rfl
theorem scal_nn : scal .non .non = true := rfl
theorem scal_ni {b : Int} : scal .non (.int b) = true := rfl
theorem scal_in {b : Int} : scal (.int b) .non = true := rfl
theorem scal_ns {b : Str} : scal .non (.str b) = true := rfl
theorem scal_sn {b : Str} : scal (.str b) .non = true := rfl
theorem scal_is {a : Int} {b : Str} : scal (.int a) (.str b) = true := rfl
theorem scal_si {a : Int} {b : Str} : scal (.str b) (.int a) = true := rfl
end Nk
namespace Nk
open PySem L2
/-- what a for asks when its iterator stands -/
def ForW (J : It) (g : TG) (tb : TS) (D : Ends) (σ : L2.St) (H : Hp) : Prop := ∃ W : Nat → Nat → L2.St → Hp → Prop, (∃ m, W 0 m σ H) ∧ ∀ i m σ H, W i m σ H →
  (J.stop i H ∧ D.nx σ H) ∨ (J.go i H ∧ ∃ N : L2.St → Hp → Prop, (∀ σ' H', N σ' H' → ∃ m', m' < m ∧ W (i + 1) m' σ' H') ∧ ∀ x H', J.yld i H x H' → g x σ H' fun σ2 H2 => tb { D with nx := N, ct := N, bk := D.nx } σ2 H2)
theorem tFor_k {wi : TI} {g : TG} {tb : TS} {D : Ends} {σ : L2.St} {H : Hp} : tFor wi g tb D σ H = wi σ H fun J H1 => ForW J g tb D σ H1 := rfl
/-- what a comprehension asks when its iterator and its list stand -/
def LcW (J : It) (g : TG) (tt : TT) (te : TE) (vs : List Nat) (σ : L2.St) (H1 : Hp) (D : Addr) (Qd : Hp → Prop) : Prop := ∃ W : Nat → Nat → Hp → Prop, (∃ m, W 0 m (upd H1 D (.lst []))) ∧ ∀ i m H, W i m H →
  (J.stop i H ∧ Qd H) ∨ (J.go i H ∧ ∃ Nx : Hp → Prop, (∀ H', Nx H' → ∃ m', m' < m ∧ W (i + 1) m' H') ∧ ∀ x H', J.yld i H x H' → g x (wipe σ vs) H' fun σ2 H2 => wipe σ2 vs = wipe σ vs ∧ tt σ2 H2 fun b H3 =>
    if b = true then te σ2 H3 fun y H4 => ∃ acc, H4 D = some (.lst acc) ∧ acc.length < sizeLine ∧ Nx (upd H4 D (.lst (acc ++ [y]))) else Nx H3)
theorem tLc_k {wi : TI} {g : TG} {tt : TT} {te : TE} {vs : List Nat} {σ : L2.St} {H : Hp} {Q : VK} : tLc wi g tt te vs σ H Q = wi σ H fun J H1 => ∀ D, H1 D = none → LcW J g tt te vs σ H1 D (fun H => Q (.ref D) H) := rfl
end Nk
/-! ### data compared by == -/
namespace Nk
open PySem L2
/-- data of depth at most k, without truths and dicts -/
def gd : Nat → PyData → Bool
  | _, .none => true
  | _, .int _ => true
  | _, .str x => PyData.strOk x
  | _, .bool _ => false
  | _, .dict _ => false
  | 0, .list _ => false
  | 0, .tuple _ => false
  | k + 1, .list xs => xs.all (gd k)
  | k + 1, .tuple xs => xs.all (gd k)
theorem gd_all {k : Nat} : ∀ {xs : List PyData}, xs.all (gd k) = true → ∀ x ∈ xs, gd k x = true := fun h x hx => List.all_eq_true.mp h x hx
theorem canLayAll_of : ∀ {xs : List PyData}, (∀ x ∈ xs, x.canLay0 = true) → PyData.canLayAll0 xs = true
  | [], _ => by simp [PyData.canLayAll0]
  | x :: xs, h => by
    have h1 := h x List.mem_cons_self
    have h2 := canLayAll_of (xs := xs) fun y hy => h y (List.mem_cons_of_mem _ hy)
    simp [PyData.canLayAll0, h1, h2]
theorem depthAll_le {k : Nat} : ∀ {xs : List PyData}, (∀ x ∈ xs, x.depth ≤ k) → PyData.depthAll xs ≤ k
  | [], _ => by simp [PyData.depthAll]
  | x :: xs, h => by
    have h1 := h x List.mem_cons_self
    have h2 := depthAll_le (xs := xs) fun y hy => h y (List.mem_cons_of_mem _ hy)
    simp only [PyData.depthAll]
    omega
theorem gd_lay : ∀ (k : Nat) (d : PyData), gd k d = true → d.canLay0 = true ∧ d.depth ≤ k
  | k, .none, _ => by simp [PyData.canLay0, PyData.depth]
  | k, .int _, _ => by simp [PyData.canLay0, PyData.depth]
  | k, .str x, h => by
    have h' : PyData.strOk x = true := by cases k <;> simpa [gd] using h
    simp [PyData.canLay0, PyData.depth, h']
  | k, .bool _, h => by cases k <;> simp [gd] at h
  | k, .dict _, h => by cases k <;> simp [gd] at h
  | 0, .list _, h => by simp [gd] at h
  | 0, .tuple _, h => by simp [gd] at h
  | k + 1, .list xs, h => by
    have h' : xs.all (gd k) = true := by simpa [gd] using h
    have a := gd_all h'
    simp only [PyData.canLay0, PyData.depth]
    exact ⟨canLayAll_of fun x hx => (gd_lay k x (a x hx)).1, Nat.succ_le_succ (depthAll_le fun x hx => (gd_lay k x (a x hx)).2)⟩
  | k + 1, .tuple xs, h => by
    have h' : xs.all (gd k) = true := by simpa [gd] using h
    have a := gd_all h'
    simp only [PyData.canLay0, PyData.depth]
    exact ⟨canLayAll_of fun x hx => (gd_lay k x (a x hx)).1, Nat.succ_le_succ (depthAll_le fun x hx => (gd_lay k x (a x hx)).2)⟩
theorem gd_shaped {k : Nat} {d : PyData} (h : gd k d = true) (hk : k ≤ 64 := by decide) : SeqAt.shaped d = true := by
  obtain ⟨h1, h2⟩ := gd_lay k d h
  unfold SeqAt.shaped
  rw [h1]
  simp
  omega
theorem eqvAll_iff : ∀ (xs ys : List PyData), (∀ x ∈ xs, ∀ y ∈ ys, PyData.eqv x y = true ↔ x = y) → (PyData.eqvAll xs ys = true ↔ xs = ys)
  | [], [], _ => by simp [PyData.eqvAll]
  | [], _ :: _, _ => by simp [PyData.eqvAll]
  | _ :: _, [], _ => by simp [PyData.eqvAll]
  | x :: xs, y :: ys, h => by
    have h1 := h x List.mem_cons_self y List.mem_cons_self
    have h2 := eqvAll_iff xs ys fun a ha b hb => h a (List.mem_cons_of_mem _ ha) b (List.mem_cons_of_mem _ hb)
    simp [PyData.eqvAll, h1, h2]
theorem eqv_iff : ∀ (k m : Nat) (d e : PyData), gd k d = true → gd m e = true → (PyData.eqv d e = true ↔ d = e)
  | k, m, .bool _, e, h, _ => by cases k <;> simp [gd] at h
  | k, m, .dict _, e, h, _ => by cases k <;> simp [gd] at h
  | k, m, .none, e, _, h => by
    cases e with
    | bool _ => cases m <;> simp [gd] at h
    | dict _ => cases m <;> simp [gd] at h
    | _ => simp [PyData.eqv]
  | k, m, .int i, e, _, h => by
    cases e with
    | bool _ => cases m <;> simp [gd] at h
    | dict _ => cases m <;> simp [gd] at h
    | _ => simp [PyData.eqv]
  | k, m, .str i, e, _, h => by
    cases e with
    | bool _ => cases m <;> simp [gd] at h
    | dict _ => cases m <;> simp [gd] at h
    | _ => simp [PyData.eqv]
  | 0, m, .list _, e, h, _ => by simp [gd] at h
  | 0, m, .tuple _, e, h, _ => by simp [gd] at h
  | k + 1, m, .list xs, e, hd, h => by
    cases e with
    | bool _ => cases m <;> simp [gd] at h
    | dict _ => cases m <;> simp [gd] at h
    | list ys =>
      cases m with
      | zero => simp [gd] at h
      | succ m =>
        have a := gd_all (k := k) (xs := xs) (by simpa [gd] using hd)
        have b := gd_all (k := m) (xs := ys) (by simpa [gd] using h)
        simp only [PyData.eqv, PyData.list.injEq]
        exact eqvAll_iff xs ys fun x hx y hy => eqv_iff k m x y (a x hx) (b y hy)
    | _ => simp [PyData.eqv]
  | k + 1, m, .tuple xs, e, hd, h => by
    cases e with
    | bool _ => cases m <;> simp [gd] at h
    | dict _ => cases m <;> simp [gd] at h
    | tuple ys =>
      cases m with
      | zero => simp [gd] at h
      | succ m =>
        have a := gd_all (k := k) (xs := xs) (by simpa [gd] using hd)
        have b := gd_all (k := m) (xs := ys) (by simpa [gd] using h)
        simp only [PyData.eqv, PyData.tuple.injEq]
        exact eqvAll_iff xs ys fun x hx y hy => eqv_iff k m x y (a x hx) (b y hy)
    | _ => simp [PyData.eqv]
theorem eqv_of_eq {k : Nat} {d e : PyData} (h : gd k d = true) (e1 : d = e) : PyData.eqv d e = true := by
  subst e1
  exact (eqv_iff k k d d h h).mpr rfl
theorem eqv_of_ne {k m : Nat} {d e : PyData} (h : gd k d = true) (h' : gd m e = true) (e1 : d ≠ e) : PyData.eqv d e = false := by
  cases q : PyData.eqv d e with
  | false => rfl
  | true => exact absurd ((eqv_iff k m d e h h').mp q) e1
/-- the data of lists of ints, of tuples of ints -/
abbrev dLI (ns : List Int) : PyData := .list (ns.map .int)
abbrev dTI (ns : List Int) : PyData := .tuple (ns.map .int)
theorem gd_int_all (k : Nat) (ns : List Int) : (ns.map PyData.int).all (gd k) = true := by
  rw [List.all_eq_true]
  intro x hx
  obtain ⟨i, _, rfl⟩ := List.mem_map.mp hx
  cases k <;> rfl
theorem gd_dLI {k : Nat} (ns : List Int) : gd (k + 1) (dLI ns) = true := by simp only [dLI, gd]; exact gd_int_all k ns
theorem gd_dTI {k : Nat} (ns : List Int) : gd (k + 1) (dTI ns) = true := by simp only [dTI, gd]; exact gd_int_all k ns
theorem dpAll_ints {K : PySem.W.Frag} {H : Hp} : ∀ ns : List Int, DpAll K H (ns.map V.int) (ns.map PyData.int)
  | [] => .nil
  | n :: ns => .cons (.int n) (dpAll_ints ns)
theorem dp_LI {K : PySem.W.Frag} {H : Hp} {a : Addr} {ns : List Int} (h : SqL K H a (ns.map V.int)) : Dp K H (.ref a) (dLI ns) := .lst h (dpAll_ints ns)
theorem dp_TI {K : PySem.W.Frag} {H : Hp} {a : Addr} {ns : List Int} (h : SqT K H a (ns.map V.int)) : Dp K H (.ref a) (dTI ns) := .tup h (dpAll_ints ns)
theorem dLI_inj {ns ms : List Int} : dLI ns = dLI ms ↔ ns = ms := by
  constructor
  · intro h
    have h' : ns.map PyData.int = ms.map PyData.int := PyData.list.inj h
    exact (List.map_inj_right (fun _ _ q => PyData.int.inj q)).mp h'
  · intro h; rw [h]
theorem dTI_inj {ns ms : List Int} : dTI ns = dTI ms ↔ ns = ms := by
  constructor
  · intro h
    have h' : ns.map PyData.int = ms.map PyData.int := PyData.tuple.inj h
    exact (List.map_inj_right (fun _ _ q => PyData.int.inj q)).mp h'
  · intro h; rw [h]
/-- == of two data -/
theorem eqD {K : PySem.W.Frag} {H : Hp} {x y : V} {d e : PyData} {Q : VK} {k m : Nat} (hd : Dp K H x d) (he : Dp K H y e) (gk : gd k d = true) (gm : gd m e = true) (h1 : d = e → Q (.bl true) H) (h2 : d ≠ e → Q (.bl false) H) (hk : k ≤ 64 := by decide) (hm : m ≤ 64 := by decide) : rEqD K x y H Q := by
  refine ⟨d, e, hd, he, gd_shaped gk hk, gd_shaped gm hm, ?_⟩
  by_cases c : d = e
  · rw [eqv_of_eq gk c]; exact h1 c
  · rw [eqv_of_ne gk gm c]; exact h2 c
theorem neD {K : PySem.W.Frag} {H : Hp} {x y : V} {d e : PyData} {Q : VK} {k m : Nat} (hd : Dp K H x d) (he : Dp K H y e) (gk : gd k d = true) (gm : gd m e = true) (h1 : d = e → Q (.bl false) H) (h2 : d ≠ e → Q (.bl true) H) (hk : k ≤ 64 := by decide) (hm : m ≤ 64 := by decide) : rNeD K x y H Q := by
  refine ⟨d, e, hd, he, gd_shaped gk hk, gd_shaped gm hm, ?_⟩
  by_cases c : d = e
  · rw [eqv_of_eq gk c]; exact h1 c
  · rw [eqv_of_ne gk gm c]; exact h2 c
theorem newF {H H' : Hp} {p : Addr} {o : HO} (hp : H p = none) (e : upd H p o = H') : Same H H' ∧ H' p = some o := by
  subst e
  exact ⟨same_upd hp, upd_same⟩
/-- an item of a list, by its place -/
theorem ixL {K : PySem.W.Frag} {H : Hp} {p : Addr} {xs : List V} {i : Int} {j : Nat} {v : V} {Q : VK} (h : SqL K H p xs) (hi : i = (j : Int)) (e : xs[j]? = some v) (q : Q v H) : rIxL K (.ref p) (.int i) H Q :=
  ⟨p, xs, i, v, rfl, rfl, h, by rw [hi]; exact atI_nat e, q⟩
theorem ixT {K : PySem.W.Frag} {H : Hp} {p : Addr} {xs : List V} {i : Int} {j : Nat} {v : V} {Q : VK} (h : SqT K H p xs) (hi : i = (j : Int)) (e : xs[j]? = some v) (q : Q v H) : rIxT K (.ref p) (.int i) H Q :=
  ⟨p, xs, i, v, rfl, rfl, h, by rw [hi]; exact atI_nat e, q⟩
theorem setL {H : Hp} {p : Addr} {xs : List V} {i : Int} {j : Nat} {v : V} {Q : Hp → Prop} (h : H p = some (.lst xs)) (hi : i = (j : Int)) (e : j < xs.length) (q : Q (upd H p (.lst (xs.set j v)))) : rSetL (.ref p) (.int i) v H Q :=
  ⟨p, xs, i, j, rfl, rfl, h, by rw [hi]; unfold ixN; rw [if_pos (by omega), if_pos (by omega)]; simp, q⟩
theorem tyL {K : PySem.W.Frag} {H : Hp} {l : Addr} {xs : List V} (h : H l = some (.lst xs)) : tyV K "list" (.ref l) H := .inl ⟨rfl, _, SqL.of h⟩
theorem appR {H : Hp} {l : Addr} {xs : List V} {y : V} {Q : VK} (h : H l = some (.lst xs)) (hz : xs.length ≤ 99999) (q : Q .non (upd H l (.lst (xs ++ [y])))) : rAppend (.ref l) [y] H Q :=
  ⟨l, xs, y, rfl, rfl, h, szl (by omega), q⟩
theorem app {K : PySem.W.Frag} {H : Hp} {l : Addr} {xs : List V} {y : V} {Q : VK} (h : H l = some (.lst xs)) (hz : xs.length ≤ 99999) (q : Q .non (upd H l (.lst (xs ++ [y])))) : tyV K "list" (.ref l) H ∧ rAppend (.ref l) [y] H Q :=
  ⟨tyL h, l, xs, y, rfl, rfl, h, szl (by omega), q⟩
theorem Same.app {H H' : Hp} {p : Addr} {o : HO} (s : Same H H') (n : H p = none) : Same H (upd H' p o) := fun b x e => by
  rw [upd_ne (ne_of_none e n)]
  exact s b x e
theorem inV_ints (n : Int) (l : List Int) : inV (.int n) (l.map V.int) = decide (n ∈ l) := by
  unfold inV
  rw [List.any_map, Bool.eq_iff_iff, List.any_eq_true, decide_eq_true_eq]
  constructor
  · rintro ⟨x, hx, e⟩
    have : x = n := by simpa [eqV] using e
    rw [← this]; exact hx
  · intro h
    exact ⟨n, h, by simp [eqV]⟩
theorem flat_ints (l : List Int) : (l.map V.int).all flatV = true := by
  rw [List.all_eq_true]
  intro x hx
  obtain ⟨i, _, rfl⟩ := List.mem_map.mp hx
  rfl
end Nk
/-! ### d.keys() as a value; sorted of it -/
namespace Nk
open PySem L2 PySem.Spec PyProof.Rows
def KeysO (v d : Addr) : HO := .ext fun h => PySem.W.KdlKeysView h v d
theorem keysO_ok {P : Program} {w : World} {H : Hp} {h : Heap} {v d : Addr} (e : PySem.W.KdlKeysView h v d) : ObjOk P w H h v (KeysO v d) := by
  obtain ⟨o, ho, hc, hd⟩ := e
  exact ⟨⟨o, ho, hc, hd⟩, ⟨o, ho⟩, fun h1 h2 ⟨o', q, r⟩ k => ⟨o', k o' q, r⟩⟩
def rKeys : V → List V → Hp → VK → Prop := fun x xs H Q => ∃ (d : Addr) (kvs : List (Key × V)), x = .ref d ∧ xs = [] ∧ H d = some (.dK kvs) ∧ ∀ v, H v = none → Q (.ref v) (upd H v (KeysO v d))
section
variable {X : Cx}
theorem mt_keys : MtR X "dict.keys" rKeys := by
  intro pins s σ H x xs v us Q I rx rxs h
  obtain ⟨d, kvs, rfl, rfl, hd, q⟩ := h
  cases rx
  cases rxs
  obtain ⟨hz, hs0, vs, kv, hdo⟩ := I.hok d _ hd
  refine PySem.call_meetsIn F.slot_dict_keys hdo.typeIs F.entry_dict_keys (F.args_dict_keys_1 _) (PySem.W.kdl_meets_keys (mixKind X.prog X.w) d hs0) ⟨⟨vs, hdo⟩, ?_⟩
  refine ⟨.ref s.heap.objs.size, upd H s.heap.objs.size (KeysO s.heap.objs.size d), I.laid (t' := s.toks) (fun b ob q => Heap.get?_push_of_some _ q) (Nat.le_refl _) (keysO_ok ⟨_, Heap.get?_push_size _ rfl, rfl, rfl⟩), rfl, q _ (I.hok.fresh (Nat.le_refl _))⟩
/-- sorted(d.keys()), whole numbers, any number of them -/
def rSortedKI : List V → Hp → VK → Prop := fun xs H Q => ∃ (v d : Addr) (kvs : List (Key × V)) (ks : List Int), xs = [.ref v] ∧ H v = some (KeysO v d) ∧ H d = some (.dK kvs) ∧ kvs.map (·.1) = ks.map Sum.inl ∧
  ∀ (ys : List Int) (p : Addr), ys.Perm ks → ys.Pairwise (· ≤ ·) → H p = none → Q (.ref p) (upd H p (.lst (ys.map V.int)))
theorem cr_sortedKI (hcalm : X.calm = true) : CallR X (.builtin "sorted") rSortedKI := by
  intro pins s σ H xs us Q I r q
  obtain ⟨v, a, kvs, ks, ex, hv, hd, hks, q⟩ := q
  subst ex
  obtain ⟨u, eu, rx⟩ := vals1 r
  subst eu
  cases rx
  have hview : PySem.W.KdlKeysView s.heap v a := (I.hok v _ hv).1
  obtain ⟨z, lo, vs, rel, dd⟩ := I.hok a _ hd
  obtain ⟨ep, hat⟩ := dd.dictAt
  have hkeys : vs.map (·.1) = ks.map Sum.inl := rel.keys.symm.trans hks
  have hl : vs.length = ks.length := by
    have e := congrArg List.length hkeys
    rw [List.length_map, List.length_map] at e
    exact e
  have hl2 : kvs.length = vs.length := Paired.length rel
  have h16 : vs.length ≤ sizeLine := by omega
  refine Calls.call_function_entry PyProof.Rows.kind_sorted PyProof.Rows.plain_sorted PyProof.Rows.entry_sorted (PyProof.Rows.args_sorted1 _) ?_
  unfold Builtin.«sorted»
  refine wpAny_bind (m := checkCount "sorted" 1 1 _) (wpAny_pure ?_)
  refine wpAny_bind (PySem.W.kdu_collect (A := X.A.in1) (PySem.W.kdl_keys (knd := mixKind X.prog X.w) (r := v) (d := a) (kvs := vs) (ep := ep)) (I.ok.hd hcalm) ⟨hview, hat⟩ h16 fun h' tk acc hk hacc => ?_)
  have hal : acc.toList.length = ks.length := by rw [Array.length_toList, hacc.1, hl]
  have hS : IntsAre acc.toList ks := ints_each hal fun j v e => by
    obtain ⟨k, x, e1, e2⟩ := hacc.2 j v (by rw [← Array.getElem?_toList]; exact e)
    have e3 : (vs.map (·.1))[j]? = some k := by rw [List.getElem?_map, e1]; rfl
    rw [hkeys, List.getElem?_map] at e3
    cases e4 : ks[j]? with
    | none => rw [e4] at e3; cases e3
    | some y =>
      rw [e4] at e3
      have e5 : Sum.inl y = k := Option.some.inj e3
      subst e5
      rcases keyIs_shape (show keyIs (Sum.inl y) v = true from e2) with ⟨i, t, ek, ev⟩ | ⟨z, t, ek, ev⟩
      · cases ek
        exact ⟨y, t, rfl, ev⟩
      · cases ek
  have I1 : Inv X pins σ H { s with heap := h', toks := tk } := I.kept hk
  refine wpAny_bind (wpAny_newList ?_ (by rw [hal]; omega))
  have hoL : (h'.push (seqObj "list" acc.toList.toArray 0)).get? h'.objs.size = some (seqObj "list" acc.toList.toArray 0) := Heap.get?_push_size _ rfl
  show wpAny _ _ _ _ _ { s with heap := h'.push (seqObj "list" acc.toList.toArray 0), toks := tk }
  refine wpAny_bind (wpAny_holding (wpAny_call_entry PyProof.Rows.slot_list_sort ⟨_, hoL, rfl⟩ PyProof.Rows.entry_list_sort
    (SrtO.list_sort_ord (s := { s with heap := h'.push (seqObj "list" acc.toList.toArray 0), toks := tk }) SrtO.swo_int hoL (by rw [hal]; omega) (fun h2 => SrtO.ints_sortable hS h2) fun out g1 g2 => ⟨_, rfl, ?_⟩) (PyProof.Rows.args_list_sort _)))
  obtain ⟨k1, k2, k3⟩ := SrtO.ints_out hS g1 g2
  obtain ⟨e', he'⟩ := PyProof.Rows.sortedHeap_at (vs := acc.toList) (out := out.toArray) hoL
  have hlen : ((out.map SrtO.iv).map V.int).length ≤ sizeLine := by
    rw [List.length_map, k2.length_eq]
    omega
  refine wpAny_pure ⟨_, rfl, .ref h'.objs.size, upd H h'.objs.size (.lst ((out.map SrtO.iv).map V.int)), I1.laid (t' := tk) (fun b u e => ?_) (Nat.le_refl _)
    (show ObjOk X.prog X.w _ _ _ (.lst ((out.map SrtO.iv).map V.int)) from ⟨hlen, out, e', vals_of_ints k1, he'⟩), rfl, q _ _ k2 k3 (I1.hok.fresh (Nat.le_refl _))⟩
  have hb : b < h'.objs.size := Heap.lt_size e
  rw [PyProof.Rows.sortedHeap_old (Nat.ne_of_lt hb) (by rw [size_push']; exact Nat.lt_succ_of_lt hb)]
  exact Heap.get?_push_of_some _ e
end
end Nk
/-! ### the layer's rules with the written part named (for comprehensions, where the reading may not lean on the block) -/
namespace Nk
open PySem L2
section
variable {X : Cx} {K : PySem.W.Frag}
theorem op_inK (K : PySem.W.Frag) (h : X.K = K) : OpR X (compareOp .In) (rIn K false) := h ▸ op_in_seq
theorem op_notInK (K : PySem.W.Frag) (h : X.K = K) : OpR X (compareOp .NotIn) (rIn K true) := h ▸ op_notIn_seq
theorem ix_listK (K : PySem.W.Frag) (h : X.K = K) : IxR X (rIxL K) := h ▸ ix_list
theorem ix_tupK (K : PySem.W.Frag) (h : X.K = K) : IxR X (rIxT K) := h ▸ ix_tup
theorem sl_listK (K : PySem.W.Frag) (h : X.K = K) : SlR X (rSlL K) := h ▸ sl_list
theorem sl_tupK (K : PySem.W.Frag) (h : X.K = K) : SlR X (rSlT K) := h ▸ sl_tup
def rLenQ (K : PySem.W.Frag) : List V → Hp → VK → Prop := fun xs H Q => ∃ p ys, xs = [V.ref p] ∧ (SqL K H p ys ∨ SqT K H p ys) ∧ Q (.int ys.length) H
theorem call_lenK (K : PySem.W.Frag) (h : X.K = K) : CallR X (.builtin "len") (rLenQ K) := h ▸ call_len_seq
def rListQ (K : PySem.W.Frag) : List V → Hp → VK → Prop := fun xs H Q => ∃ p ys, xs = [V.ref p] ∧ (SqL K H p ys ∨ SqT K H p ys) ∧ ∀ l, H l = none → Q (.ref l) (upd H l (.lst ys))
theorem call_listK (K : PySem.W.Frag) (h : X.K = K) : CallR X (.type "list") (rListQ K) := h ▸ call_list_of
def rTupleQ (K : PySem.W.Frag) : List V → Hp → VK → Prop := fun xs H Q => ∃ p ys, xs = [V.ref p] ∧ ((SqL K H p ys ∧ ∀ l, H l = none → Q (.ref l) (upd H l (.tup ys))) ∨ (SqT K H p ys ∧ Q (.ref p) H))
theorem call_tupleK (K : PySem.W.Frag) (h : X.K = K) : CallR X (.type "tuple") (rTupleQ K) := h ▸ call_tuple_of
theorem cr_sumK (K : PySem.W.Frag) (h : X.K = K) (hc : X.calm = true) : CallR X (.builtin "sum") (rSum K) := h ▸ cr_sum hc
theorem cr_sumTK (K : PySem.W.Frag) (h : X.K = K) (hc : X.calm = true) : CallR X (.builtin "sum") (rSumT K) := h ▸ cr_sumT hc
theorem cr_allK (K : PySem.W.Frag) (h : X.K = K) (hc : X.calm = true) : CallR X (.builtin "all") (rAll K) := h ▸ cr_all hc
theorem cr_anyK (K : PySem.W.Frag) (h : X.K = K) (hc : X.calm = true) : CallR X (.builtin "any") (rAny K) := h ▸ cr_any hc
theorem cr_maxK (K : PySem.W.Frag) (h : X.K = K) (hc : X.calm = true) : CallR X (.builtin "max") (rMax K) := h ▸ cr_max hc
theorem cr_minK (K : PySem.W.Frag) (h : X.K = K) (hc : X.calm = true) : CallR X (.builtin "min") (rMin K) := h ▸ cr_min hc
theorem op_eqDK (K : PySem.W.Frag) (h : X.K = K) (hu : X.A.units + 64 < cLine) : OpR X (compareOp .Eq) (rEqD K) := h ▸ op_eqD hu
theorem op_neDK (K : PySem.W.Frag) (h : X.K = K) (hu : X.A.units + 64 < cLine) : OpR X (compareOp .NotEq) (rNeD K) := h ▸ op_neD hu
theorem op_catTK (K : PySem.W.Frag) (h : X.K = K) : OpR X (binaryOp .Add) (rCatT K) := h ▸ op_catT
theorem call_isiK_ (K : PySem.W.Frag) (h : X.K = K) : CallR X (.builtin "isinstance") (rIsi K) := h ▸ call_isi
theorem pi_listK {tg l : Expr} {tl : TE} (K : PySem.W.Frag) (h : X.K = K) (hl : PE X l tl) : PI X tg l (iList K tl) := h ▸ pi_list hl
theorem pi_tupK {tg l : Expr} {tl : TE} (K : PySem.W.Frag) (h : X.K = K) (hl : PE X l tl) : PI X tg l (iTup K tl) := h ▸ pi_tup hl
theorem pg_tupK {es : List Expr} {k : Nat} {t : TGs} {n : Nat} {pos : Pos} (K : PySem.W.Frag) (hK : X.K = K) (hc : X.calm = true) (h : PGs X es t)
    (hn : (assignEach es X.env).length = n := by rfl) (hst : (assignEach es X.env).findIdx? (·.1) = none := by rfl) : PG X (.Tuple es k pos) (gTup K n t) := hK ▸ pg_tup hc h hn hst
theorem pi_enumK {e : Expr} {ta : TA} {p pos tpos : Pos} {elts : List Expr} {kk : Nat} (K : PySem.W.Frag) (h : X.K = K) (hg : Gl X "enumerate") (hm : X.mg "enumerate" = none) (ha : PA X [e] ta) (hs : starEach [e] X.env = [(false, eval e X.env)] := by rfl) :
    PI X (.Tuple elts kk tpos) (.Call (.Name "enumerate" p) [e] [] pos) (iEnum K ta) := h ▸ pi_enum hg hm ha hs
theorem pi_zipK {e e2 : Expr} {ta : TA} {p pos tpos : Pos} {elts : List Expr} {kk : Nat} (K : PySem.W.Frag) (h : X.K = K) (hg : Gl X "zip") (hm : X.mg "zip" = none) (ha : PA X [e, e2] ta)
    (hs : starEach [e, e2] X.env = (false, eval e X.env) :: starEach [e2] X.env := by rfl) (hpl : (backTo pos (starEach [e2] X.env)).any (·.1) = false := by rfl) :
    PI X (.Tuple elts kk tpos) (.Call (.Name "zip" p) [e, e2] [] pos) (iZip K ta) := h ▸ pi_zip hg hm ha hs hpl
end
end Nk
/-! ### more rules: tuples put together (the left one may be empty), ranges, == of lists with [] -/
namespace Nk
open PySem L2 PySem.Spec PyProof.Rows
section
variable {X : Cx}
def rCatT3 : R2 := fun x y H Q => ∃ a b xs ys, x = .ref a ∧ y = .ref b ∧ H a = some (.tup xs) ∧ H b = some (.tup ys) ∧ xs.length + ys.length ≤ 100000 ∧ ∀ p H', Same H H' → H' p = some (.tup (xs ++ ys)) → Q (.ref p) H'
theorem op_catT3 : OpR X (binaryOp .Add) rCatT3 := by
  intro pins s σ H x y v u Q I rx ry h
  obtain ⟨a, b, xs, ys, rfl, rfl, ha, hb, hz, q⟩ := h
  by_cases hx : xs = []
  · subst hx
    cases rx
    cases ry
    obtain ⟨its, r1, p1, _⟩ := I.tuple (sqT (K := X.K) ha)
    obtain ⟨its2, r2, p2, _⟩ := I.tuple (sqT (K := X.K) hb)
    cases r1
    obtain ⟨⟨cls, dd, data, sl⟩, ho, hc, n, hd⟩ := id p1
    obtain ⟨⟨cls2, dd2, data2, sl2⟩, ho2, hc2, n2, hd2⟩ := id p2
    simp only at hc hd hc2 hd2
    subst hc hd hc2 hd2
    exact concat_meets ⟨_, ho, rfl⟩ ⟨_, ho2, rfl⟩ noFill_tuple_add seq_tuple_add PySem.F.slot_tuple_add PySem.F.entry_tuple_add (PySem.F.args_tuple_add_2 _ _)
      (tuple_addW0 a b #[] its2.toArray n n2 dd dd2 sl sl2 (by rfl)) ⟨ho, ho2, ⟨.ref b, H, I, rfl, q b H (Same.refl _) hb⟩⟩
  · refine op_catT pins s σ H (.ref a) (.ref b) v u Q I rx ry ⟨a, b, xs, ys, rfl, rfl, sqT ha, sqT hb, hx, sz hz, fun e => ?_, fun _ p hp => q p _ (same_upd hp) upd_same⟩
    subst e
    exact q a H (Same.refl _) (by rw [List.append_nil]; exact ha)
def rInR (neg : Bool) : R2 := fun x y H Q => ∃ i a lo hi, x = V.int i ∧ y = V.ref a ∧ H a = some (.rng lo hi) ∧ Q (.bl (if neg then !decide (lo ≤ i ∧ i < hi) else decide (lo ≤ i ∧ i < hi))) H
theorem op_inR : OpR X (compareOp .In) (rInR false) := op_in_rng
theorem op_notInR : OpR X (compareOp .NotIn) (rInR true) := by
  intro pins s σ H x y v u Q I rx ry h
  obtain ⟨i, a, lo, hi, rfl, rfl, ha, q⟩ := h
  obtain ⟨k, rfl⟩ := rx
  obtain rfl : u = Value.ref a := ry
  obtain ⟨t1, t2, t3, ho⟩ := I.hok a _ ha
  show wpAny _ _ (do return Value.bool (!(← contains (Value.ref a) (Value.int i k)))) _ _ s
  refine wpAny_bind (wpAny_contains_slot (T := "range") ⟨_, ho, rfl⟩ F.slot_range_contains (call_meets F.slot_range_contains ⟨_, ho, rfl⟩ F.entry_range_contains (F.args_range_contains_2 _ _) (q_contains a lo hi i t1 t2 t3 k)
    ⟨ho, wpAny_truthy_bool (wpAny_pure ⟨.bl _, H, I, rfl, ?_⟩)⟩))
  rw [place1]
  exact q
def rRange : List V → Hp → VK → Prop := fun vs H Q => ∃ i j, vs = [V.int i, V.int j] ∧ ∀ p, H p = none → Q (.ref p) (upd H p (.rng i j))
theorem cr_rangeV : CallR X (.type "range") rRange := cr_range2
end
/-- data, bools among them -/
def gb : Nat → PyData → Bool
  | _, .none => true
  | _, .int _ => true
  | _, .str x => PyData.strOk x
  | _, .bool _ => true
  | k + 1, .list xs => xs.all (gb k)
  | k + 1, .tuple xs => xs.all (gb k)
  | _, _ => false
theorem gb_lay : ∀ (k : Nat) (d : PyData), gb k d = true → d.canLay0 = true ∧ d.depth ≤ k
  | k, .none, _ => by simp [PyData.canLay0, PyData.depth]
  | k, .bool _, _ => by simp [PyData.canLay0, PyData.depth]
  | k, .int _, _ => by simp [PyData.canLay0, PyData.depth]
  | k, .str x, h => by
    have h' : PyData.strOk x = true := by simpa [gb] using h
    simp [PyData.canLay0, PyData.depth, h']
  | k, .dict _, h => by cases k <;> simp [gb] at h
  | 0, .list _, h => by simp [gb] at h
  | 0, .tuple _, h => by simp [gb] at h
  | k + 1, .list xs, h => by
    have a : ∀ x ∈ xs, gb k x = true := by simpa [gb] using h
    simp only [PyData.canLay0, PyData.depth]
    exact ⟨canLayAll_of fun x hx => (gb_lay k x (a x hx)).1, Nat.succ_le_succ (depthAll_le fun x hx => (gb_lay k x (a x hx)).2)⟩
  | k + 1, .tuple xs, h => by
    have a : ∀ x ∈ xs, gb k x = true := by simpa [gb] using h
    simp only [PyData.canLay0, PyData.depth]
    exact ⟨canLayAll_of fun x hx => (gb_lay k x (a x hx)).1, Nat.succ_le_succ (depthAll_le fun x hx => (gb_lay k x (a x hx)).2)⟩
theorem gb_shaped {k : Nat} {d : PyData} (h : gb k d = true) (hk : k ≤ 64 := by decide) : SeqAt.shaped d = true := by
  obtain ⟨h1, h2⟩ := gb_lay k d h
  unfold SeqAt.shaped
  rw [h1]
  simp
  omega
/-- a thing that may stand within another: it can be laid down as data -/
def Dat (K : PySem.W.Frag) (H : Hp) (k : Nat) (x : V) : Prop := ∃ d, Dp K H x d ∧ gb k d = true
mutual
theorem Dp.same {K : PySem.W.Frag} {H H' : Hp} (s : Same H H') : ∀ {x : V} {d : PyData}, Dp K H x d → Dp K H' x d
  | _, _, .non => .non
  | _, _, .bl b => .bl b
  | _, _, .int i => .int i
  | _, _, .str x => .str x
  | _, _, .lst h a => .lst (s.seq h) (DpAll.same s a)
  | _, _, .tup h a => .tup (Same.tup s h) (DpAll.same s a)
theorem DpAll.same {K : PySem.W.Frag} {H H' : Hp} (s : Same H H') : ∀ {xs : List V} {ds : List PyData}, DpAll K H xs ds → DpAll K H' xs ds
  | _, _, .nil => .nil
  | _, _, .cons h a => .cons (Dp.same s h) (DpAll.same s a)
end
theorem Dat.same {K : PySem.W.Frag} {H H' : Hp} {k : Nat} {x : V} (s : Same H H') (h : Dat K H k x) : Dat K H' k x := by
  obtain ⟨d, h1, h2⟩ := h
  exact ⟨d, Dp.same s h1, h2⟩
theorem dat_all {K : PySem.W.Frag} {H : Hp} {k : Nat} : ∀ {xs : List V}, (∀ x ∈ xs, Dat K H k x) → ∃ ds, DpAll K H xs ds ∧ ds.all (gb k) = true ∧ ds.length = xs.length
  | [], _ => ⟨[], .nil, rfl, rfl⟩
  | x :: xs, h => by
    obtain ⟨d, h1, h2⟩ := h x List.mem_cons_self
    obtain ⟨ds, a, b, c⟩ := dat_all (xs := xs) fun y hy => h y (List.mem_cons_of_mem _ hy)
    exact ⟨d :: ds, .cons h1 a, by rw [List.all_cons, h2, b]; rfl, by simp [c]⟩
theorem eqv_nil {ds : List PyData} (h : ds ≠ []) : PyData.eqv (.list ds) (.list []) = false := by
  cases ds with
  | nil => exact absurd rfl h
  | cons d ds => simp [PyData.eqv, PyData.eqvAll]
/-- l == [], whatever stands in l -/
theorem eqE {K : PySem.W.Frag} {H : Hp} {a b : Addr} {xs : List V} {k : Nat} {Q : VK} (ha : SqL K H a xs) (hx : ∀ x ∈ xs, Dat K H k x) (hb : SqL K H b []) (h1 : xs = [] → Q (.bl true) H) (h2 : xs ≠ [] → Q (.bl false) H) (hk : k + 1 ≤ 64 := by decide) : rEqD K (.ref a) (.ref b) H Q := by
  obtain ⟨ds, d1, d2, d3⟩ := dat_all hx
  refine ⟨.list ds, .list [], .lst ha d1, .lst hb .nil, gb_shaped (k := k + 1) (by simpa [gb] using d2) hk, by decide, ?_⟩
  by_cases c : xs = []
  · have : ds = [] := List.length_eq_zero_iff.mp (by rw [d3, c]; rfl)
    subst this
    exact h1 c
  · rw [eqv_nil (fun e => c (List.length_eq_zero_iff.mp (by rw [← d3, e]; rfl)))]
    exact h2 c
theorem neE {K : PySem.W.Frag} {H : Hp} {a b : Addr} {xs : List V} {k : Nat} {Q : VK} (ha : SqL K H a xs) (hx : ∀ x ∈ xs, Dat K H k x) (hb : SqL K H b []) (h1 : xs = [] → Q (.bl false) H) (h2 : xs ≠ [] → Q (.bl true) H) (hk : k + 1 ≤ 64 := by decide) : rNeD K (.ref a) (.ref b) H Q := by
  obtain ⟨ds, d1, d2, d3⟩ := dat_all hx
  refine ⟨.list ds, .list [], .lst ha d1, .lst hb .nil, gb_shaped (k := k + 1) (by simpa [gb] using d2) hk, by decide, ?_⟩
  by_cases c : xs = []
  · have : ds = [] := List.length_eq_zero_iff.mp (by rw [d3, c]; rfl)
    subst this
    exact h1 c
  · rw [eqv_nil (fun e => c (List.length_eq_zero_iff.mp (by rw [← d3, e]; rfl)))]
    exact h2 c
end Nk
/-! ### comprehensions that filter ints -/
namespace Nk
open PySem L2
theorem lcF {K : PySem.W.Frag} {a : Addr} {ns : List Int} {j : Nat} {tt : TT} {vs : List Nat} {σ : L2.St} {H1 : Hp} {D : Addr} {Qd : Hp → Prop} (f : Int → Bool) (hD : H1 D = none) (hT : SqL K H1 a (ns.map V.int)) (hn : ns.length ≤ 99999)
    (hj : ∀ v : V, ((wipe σ vs).set j (some v))[j]? = some (some v)) (hw : ∀ v : V, wipe ((wipe σ vs).set j (some v)) vs = wipe σ vs)
    (ht : ∀ n H, n ∈ ns → Same H1 H → ∀ Q : Bool → Hp → Prop, (∀ H', Same H H' → Q (f n) H') → tt ((wipe σ vs).set j (some (.int n))) H Q)
    (hd : ∀ H, Same H1 H → H D = some (.lst ((ns.filter f).map V.int)) → Qd H) : LcW (Itl K a) (gName j) tt (tVar j) vs σ H1 D Qd := by
  refine lcL hD hT (fun i => ((ns.take i).filter f).map V.int) (by simp) (fun i x H hx p => ?_) (fun H s hH => hd H s (by simpa using hH))
  rw [List.getElem?_map] at hx
  cases e : ns[i]? with
  | none => rw [e] at hx; cases hx
  | some n =>
  rw [e] at hx
  cases hx
  refine ⟨hw _, ht n H (mem_of_get e) p.same _ fun H' s => ?_⟩
  have hf := filter_take_next f e
  cases c : f n with
  | true =>
    rw [if_pos rfl]
    refine ⟨_, hj _, p.push hD (by rw [List.length_map]; exact Nat.le_trans (filter_len ns f i) hn) s ?_⟩
    show _ = _
    rw [hf, c]
    simp
  | false =>
    rw [if_neg Bool.false_ne_true]
    refine p.skip s ?_
    show _ = _
    rw [hf, c]
    simp
theorem cut_from (xs : List V) (j : Nat) : cutV xs (some (j : Int)) none = xs.drop j := by
  unfold cutV
  rw [HT.sIx_none, HT.sIx_nat]
  by_cases h : j ≤ xs.length
  · rw [Nat.min_eq_left h, List.take_of_length_le (by simp)]
  · rw [Nat.min_eq_right (by omega), List.drop_of_length_le (Nat.le_refl _), List.drop_of_length_le (by omega)]
    simp
theorem cut_to (xs : List V) (j : Nat) : cutV xs none (some (j : Int)) = xs.take j := by
  unfold cutV
  rw [HT.sIx_none, HT.sIx_nat, List.drop_zero, Nat.sub_zero]
  by_cases h : j ≤ xs.length
  · rw [Nat.min_eq_left h]
  · rw [Nat.min_eq_right (by omega), List.take_of_length_le (Nat.le_refl _), List.take_of_length_le (by omega)]
end Nk
/-! ### a caught error that is kept behind its clause -/
namespace Nk
open PySem L2 PySem.Spec PyProof.Rows
/-- an error of the class cl with the own dict d, that was caught -/
def ExV (cl : Value) (d : Option Addr) (a : Addr) : HO := .ext fun h => ∃ oe, h.get? a = some oe ∧ Zc cl d oe ∧ ∃ vs, oe.data = .fields vs
theorem exV_ok {P : Program} {w : World} {H : Hp} {h : Heap} {a : Addr} {cl : Value} {d : Option Addr} {oe : Obj} (e : h.get? a = some oe) (z : Zc cl d oe) (f : ∃ vs, oe.data = .fields vs) : ObjOk P w H h a (ExV cl d a) :=
  ⟨⟨oe, e, z, f⟩, ⟨oe, e⟩, fun _ _ ⟨o, q, r⟩ k => ⟨o, k o q, r⟩⟩
section
variable {X : Cx} {pins : List (Addr × Obj)} {σ : L2.St} {H : Hp} {s : Shared} {a : Addr} {o : HO} {oe : Obj}
/-- an object that was made since the entry is tracked from now on -/
theorem inv_track (I : Inv X pins σ H s) (ha : s.heap.get? a = some oe) (hf : ∃ vs, oe.data = .fields vs) (na : H a = none) (n0 : X.s_0.heap.get? a = none) (nL : a ≠ X.env.locals) (np : ∀ p ∈ X.pn ++ pins, p.1 ≠ a)
    (new : ObjOk X.prog X.w (upd H a o) s.heap a o) : Inv X pins σ (upd H a o) s := by
  have off : ∀ {b : Addr} {u : HO}, H b = some u → (upd H a o) b = some u := fun {b u} e => by rw [upd_ne (ne_of_none e na)]; exact e
  have offN : ∀ {b : Addr}, H b = none → b ≠ a → (upd H a o) b = none := fun {b} e n => by rw [upd_ne n]; exact e
  have old : ∀ {b : Addr} {u : Obj}, X.s_0.heap.get? b = some u → b ≠ a := fun {b u} e z => by rw [z, n0] at e; cases e
  obtain ⟨vs, hvs⟩ := hf
  refine { ok := I.ok, os := I.os, bare := I.bare, base := ?_, loc := I.loc, cell := I.cell, free := offN I.free (Ne.symm nL), freeC := ?_, pin := ?_, hok := ?_, len := I.len }
  · exact { keep := I.base.keep, slot := I.base.slot, free := fun b u e n hx => offN (I.base.free b u e n hx) (old e), there := I.base.there, tups := fun b xs e => off (I.base.tups b xs e), frzs := fun b u v e => off (I.base.frzs b u v e), tbls := fun b ps e => by
              obtain ⟨m, q⟩ := I.base.tbls b ps e
              exact ⟨m, off q⟩ }
  · intro x c e
    refine offN (I.freeC x c e) fun z => ?_
    obtain ⟨v, oc, hc, hd⟩ := I.cell x c e
    rw [z, ha] at hc
    cases hc
    rw [hvs] at hd
    cases hd
  · intro p hp
    obtain ⟨h1, h2, h3, h4, h5⟩ := I.pin p hp
    exact ⟨h1, offN h2 (np p hp), h3, h4, h5⟩
  · intro b u e
    by_cases hb : b = a
    · subst hb
      rw [upd_same] at e
      cases e
      exact new
    · rw [upd_ne hb] at e
      exact (I.hok b u e).stay (fun _ _ _ q => q) (fun _ q => off q) fun _ _ q => off q
end
/-- what 'except x as n: y = n' wishes of an error of the body: n in slot i, y in slot j -/
def wKept (K : PySem.W.Frag) (c : Value) (i j : Nat) (Wout : WX) (D : Ends) : WX := fun cl d σ H =>
  ∃ b, PySem.W.exmOne K cl c = some b ∧ (b = true → ∀ a, H a = none → D.nx ((σ.set i (some (.ref a))).set j (some (.ref a)) |>.set i none) (upd H a (ExV cl d a))) ∧ (b = false → Wout cl d σ H)
section
variable {X : Cx} {x n : Str} {c : Value} {i j : Nat} {body : List Stmt} {b₀ : Stmt} {np pos pos' : Pos} {tb : WX → TS} {Wout : WX}
theorem ps_try_kept (hs : X.stack = X.env :: X.outer) (hf : X.env.frame = some X.env.locals) (hex : X.ex = []) (hN : X.N.Nodup) (hi : X.N[i]? = some n) (hln : X.env.kindOf n = some .local) (hc : Names X x c) (tk : Takes X Wout)
    (hb : ∀ (W : WX) (pn : List (Addr × Obj)) (xe : Value → Shared → Prop), Takes (X.tr pn xe) W → PassesOwn (model X.prog X.w) X.A X.env xe → PSs (X.tr pn xe) body (tb W))
    (hsu : ∀ (a : Addr) (oe : Obj) (pn : List (Addr × Obj)), PSs (X.suite a ((a, oe) :: pn)) [b₀] (tAsg (tVar i) (gName j))) (hlen : i < X.N.length) :
    PS X (.Try body [.ExceptHandler (some (.Name x np)) (some n) [b₀] pos'] [] [] pos) (fun D σ H => tb (wKept X.K c i j Wout D) D σ H) := by
  refine ⟨fun pins s σ H D I h => ?_⟩
  have ok := I.ok
  have hfr : X.A.frames = some (X.env :: X.outer) := by rw [ok.frames, hs]
  refine wpAny_Try_except ?_
  refine wpAny_mono ((hb (wKept X.K c i j Wout D) (X.pn ++ pins) (fun e s₁ => wpAny (model X.prog X.w) X.A (noteFrame e X.env) (fun _ s₂ => wpAny (model X.prog X.w) X.A (setFlight e none) (fun _ s₃ =>
    wpAny (model X.prog X.w) X.A (handleBy e X.env [.ExceptHandler (some (.Name x np)) (some n) [b₀] pos']) (SP X pins D) X.xe s₃) X.xe s₂) X.xe s₁) (fun u s' xx => ?_) PassesOwn.looking).run [] s σ H D (I.toTry _) h) (fun f s1 hsp => ?_) (fun e s1 he => he)
  · obtain ⟨a, B, sI, pins', σ', H', cl, d, rfl, J', nb, up, sky, na, os, ag, b, hb1, hyes, hno⟩ := xx
    have J : Inv X pins σ' H' sI := J'.ofTry ok
    have sky' : Sky B (X.env :: X.outer) a (Zc cl d) X.env.locals s'.heap := hs ▸ sky
    show wpAny (model X.prog X.w) X.A (noteFrame (.ref a) X.env) _ _ _
    refine Sky.land Zc.steady hfr hf sky' fun h3 fl3 up3 => ?_
    have J3 : Inv X pins σ' H' { s' with heap := h3 } := J.landed nb fl3.1 (up.trans up3) os ag
    obtain ⟨oe3, vs3, he3, hz3, hd3⟩ := fl3.there
    have nfr : a ∉ frs (X.env :: X.outer) := fun hm => by
      obtain ⟨_, o', e', hnf⟩ := fl3.2.2.1.mem hm
      rw [he3] at e'
      cases e'
      exact hnf _ hd3
    have nL : a ≠ X.env.locals := fun z => nfr (List.mem_filterMap.mpr ⟨X.env, List.mem_cons_self, by rw [hf, z]⟩)
    have nF : a ∉ X.fs := fun hm => by
      obtain ⟨e, he, q⟩ := List.mem_filterMap.mp hm
      exact nfr (List.mem_filterMap.mpr ⟨e, List.mem_cons_of_mem _ he, q⟩)
    have gone : sI.heap.get? a = none := by
      cases e : sI.heap.get? a with
      | none => rfl
      | some o =>
        have := nb a o e (by rw [hs]; exact nfr)
        rw [fl3.2.1] at this
        cases this
    have n0 : X.s_0.heap.get? a = none := by
      cases e : X.s_0.heap.get? a with
      | none => rfl
      | some o =>
        obtain ⟨o', q⟩ := J.base.there a o e (by rw [hex]; exact fun z => nomatch z)
        rw [gone] at q
        cases q
    have hpn : ∀ p ∈ X.pn ++ pins, p.1 ≠ a := fun p hp z => by
      have := (J.pin p hp).1
      rw [z, gone] at this
      cases this
    have S3 := J3.suite he3 hd3 na nL nF
    refine wpAny_handleBy_cons (codeAny_handlers_test ?_) (by intro q; cases q)
    have LT : PySem.W.Looks (model X.prog X.w) h3 (typeOf (.ref a)) cl := fun A Q E s k q => wpAny_typeOf_ref (k _ _ he3) (by rw [hz3.1]; exact q)
    have LM := PySem.W.exm_one (M := model X.prog X.w) (J3.kIn) LT hb1
    have test : ∀ {Q : Value → Shared → Prop} {E : Value → Shared → Prop}, Q c { s' with heap := h3 } → wpAny (model X.prog X.w) (X.A.mark (some (.ref a))) (eval (.Name x np) X.env) Q E { s' with heap := h3 } := fun {Q E} q => by
      obtain ⟨hg, hdbg, hm | ⟨hm, hv, hnn⟩⟩ := hc
      · exact ld_glob (X := X.suite a ((a, oe3) :: (X.pn ++ pins))) S3 hg hm q hdbg
      · exact ld_blt (X := X.suite a ((a, oe3) :: (X.pn ++ pins))) S3 hg hm hv q hnn hdbg
    refine test (LM.here ?_)
    cases b with
    | true =>
      refine codeAny_handlers_suite_as ?_
      refine HandSPX.lands_againZ fl3 fun h4 fl4 up4 => ?_
      have J4 : Inv X pins σ' H' { s' with heap := h4 } := J.landed nb fl4.1 ((up.trans up3).trans up4) os ag
      obtain ⟨oe4, vs4, he4, hz4, hd4⟩ := fl4.there
      have S4 := J4.suite he4 hd4 na nL nF
      refine store_ok (X := X.suite a ((a, oe4) :: (X.pn ++ pins))) (v := .ref a) S4 hN hi (.inl hln) rfl (fun s5 S5 => ?_) (.inr hln)
      have hv : (σ'.set i (some (V.ref a)))[i]? = some (some (.ref a)) := List.getElem?_set_self (by rw [J4.len]; exact hlen)
      refine wpAny_mono ((hsu a oe4 (X.pn ++ pins)).run [] s5 _ H' { nx := fun σ6 H6 => σ6 = (σ'.set i (some (V.ref a))).set j (some (.ref a)) ∧ H6 = H', rt := fun _ _ => False, bk := fun _ _ => False, ct := fun _ _ => False } S5 ⟨_, hv, rfl, rfl⟩) (fun f s6 hsp => ?_) (fun _ _ z => False.elim z)
      cases f with
      | next =>
        obtain ⟨σ6, H6, S6, rfl, rfl⟩ := hsp
        have he6 : s6.heap.get? a = some oe4 := (S6.pin (a, oe4) (List.mem_append_left _ List.mem_cons_self)).1
        have J6 := S6.unsuite ok
        have J7 := inv_track (o := ExV cl d a) J6 he6 ⟨_, hd4⟩ na n0 nL hpn (exV_ok he6 hz4 ⟨_, hd4⟩)
        exact gone_ok J7 hN hi hln fun s8 J8 => ⟨_, _, J8, hyes rfl a na⟩
      | brk =>
        obtain ⟨_, _, _, z⟩ := hsp
        exact z.elim
      | cont =>
        obtain ⟨_, _, _, z⟩ := hsp
        exact z.elim
      | ret u =>
        obtain ⟨_, _, _, _, _, z⟩ := hsp
        exact z.elim
    | false =>
      show wpAny _ X.A (handleBy (.ref a) X.env []) _ _ _
      refine wpAny_handleBy_nil ?_
      obtain ⟨k1, k2, k3, oe, vs, T, oT, ts', he, hz, hd, h1, hr⟩ := id fl3
      unfold PySem.passOn
      refine wpAny_bind (wpAny_field he hd h1 ?_)
      rw [if_neg (show ¬ ((Value.ref T == Value.none) = true) from by simp)]
      have fin : wpAny (model X.prog X.w) X.A (setFlight (.ref a) X.env.frame) (fun _ s4 => wpAny (model X.prog X.w) X.A (throw (.ref a) : Sem Flow) (SP X pins D) X.xe s4) X.xe { s' with heap := h3 } := by
        rw [hf]
        refine HandSPX.setFlight_upZ fl3 fun h4 hh4 up4 => wpAny_throw (tk _ _ ?_)
        exact ⟨a, B, sI, pins, σ', H', cl, d, rfl, J, nb, (up.trans up3).trans up4, .inr (.inr (by rw [hs]; exact hh4)), na, os, ag, hno rfl⟩
      first
        | exact wpAny_bind (wpAny_pure (wpAny_bind fin))
        | exact wpAny_bind fin
  · cases f with
    | next =>
      obtain ⟨σ', H', J', q⟩ := hsp
      exact wpAny_execs_nil ⟨σ', H', J'.ofTry ok, q⟩
    | brk =>
      obtain ⟨σ', H', J', q⟩ := hsp
      exact ⟨σ', H', J'.ofTry ok, q⟩
    | cont =>
      obtain ⟨σ', H', J', q⟩ := hsp
      exact ⟨σ', H', J'.ofTry ok, q⟩
    | ret u =>
      obtain ⟨v, σ', H', J', r, q⟩ := hsp
      exact ⟨v, σ', H', J'.ofTry ok, r, q⟩
end
section
variable {X : Cx}
/-- isinstance of such an error -/
def rIsX (K : PySem.W.Frag) : List V → Hp → VK → Prop := fun xs H Q => ∃ (a C : Addr) (d : Option Addr) (c : V) (cv : Value) (b : Bool), xs = [.ref a, c] ∧ H a = some (ExV (.ref C) d a) ∧ ExcC K C ∧ ClsV c cv ∧ PySem.W.kitOne K (.ref C) cv = some b ∧ (∀ dd, d = some dd → ∃ fs, H dd = some (.xd fs)) ∧ Q (.bl b) H
theorem call_isX : CallR X (.builtin "isinstance") (rIsX X.K) := by
  intro pins s σ H xs us Q I r h
  obtain ⟨a, C, d, c, cv, b, rfl, ha, E, hc, e, hd, q⟩ := h
  obtain ⟨u1, u2, rfl, r1, r2⟩ := vals2 r
  cases (show u1 = Value.ref a from r1)
  have e2 := hc.eq r2
  subst e2
  obtain ⟨oe, hoe, hz, vs, hv⟩ := (I.hok a _ ha).1
  have hcl : (PySem.W.clsIn X.K C).isSome = true := by
    obtain ⟨cd, hc, _⟩ := PySem.W.any_some E.hd
    rw [hc]; rfl
  have J : ∃ od, PySem.W.InstAt s.heap a oe C od := by
    obtain ⟨oc, odi, oda, osl⟩ := oe
    obtain ⟨h1, h2⟩ := hz
    dsimp only at h1 h2 hv
    subst h1 h2 hv
    cases odi with
    | none => exact ⟨none, hoe, rfl, rfl, trivial⟩
    | some dd =>
      obtain ⟨fs, hfs⟩ := hd dd rfl
      obtain ⟨mA, ⟨od, es, ep, e1, _⟩, _⟩ := I.hok dd _ hfs
      exact ⟨some od, hoe, rfl, rfl, e1⟩
  obtain ⟨od, J⟩ := J
  exact PySem.W.kia_one (PySem.W.kitx_exc hcl E.hg E.hk E.hs E.ha E.hn E.ht E.hm) I.kIn J e (fun z => nomatch z) fun tk => ⟨.bl b, H, I.tok tk, rfl, q⟩
end
end Nk

namespace Nk
open PySem L2 PySem.Spec PyProof.Rows
theorem tk0 {X : Cx} : Takes X (fun _ _ _ _ => False) := fun _ _ x => by
  obtain ⟨_, _, _, _, _, _, _, _, _, _, _, _, _, _, _, _, w⟩ := x
  exact w.elim
section
variable {X : Cx} {CX : CXT} {k : Nat} {ps : List Str} {sp : Sp} {x : Str} {p pos : Pos} {e : Expr} {es : List Expr} {t : TA} {E : L2.St → XK}
theorem pe_fnS (F : Fk X.prog X.w X.K X.mg X.base CX k x ps sp) (hr : Room k X.A) (hg : Gl X x) (hx : ∀ σ, PassesAt CX X σ (E σ)) (ha : PA X (e :: es) t) (hdb : (x == ("__debug__" : Str)) = false := by decide)
    (he : starEach (e :: es) X.env = (false, eval e X.env) :: starEach es X.env := by rfl) (hpl : (backTo pos (starEach es X.env)).any (·.1) = false := by rfl) :
    PE X (.Call (.Name x p) (e :: es) [] pos) (tCallS sp E t) := by
  obtain ⟨f, fd, g, kp, b, G⟩ := F.ex
  exact pe_callS G hr hg g kp b hx ha hdb he hpl
end
/-! counting in a list of flat things -/
theorem count_eqU {x : V} : ∀ {xs : List V} {us : List Value}, Vals xs us → xs.all flatV = true → us.countP (eqU x) = xs.countP fun y => eqV y x
  | _, _, .nil, _ => rfl
  | y :: xs, u :: us, .cons r t, f => by
    rw [List.all_cons, Bool.and_eq_true] at f
    rw [List.countP_cons, List.countP_cons, count_eqU t f.2, eqU_of r f.1]
def rCountF (K : PySem.W.Frag) : V → List V → Hp → VK → Prop := fun x xs H Q => ∃ (p : Addr) (ys : List V) (y : V), x = .ref p ∧ xs = [y] ∧ SqL K H p ys ∧ flatV y = true ∧ ys.all flatV = true ∧ Q (.int ((ys.countP fun z => eqV z y : Nat) : Int)) H
theorem mt_countF {X : Cx} : MtR X "list.count" (rCountF X.K) := by
  intro pins s σ H x xs v us Q I rx rxs h
  obtain ⟨p, ys, y, rfl, rfl, hs, fy, fys, q⟩ := h
  cases rx
  obtain ⟨u, rfl, ru⟩ := rxs.one
  obtain ⟨its, rv, ⟨⟨cls, dd, data, sl⟩, n, ho, hc, hdn, hd⟩, hlen⟩ := I.list hs
  simp only at hc hd
  subst hc hd
  refine call_meets PySem.F.slot_list_count ⟨_, ho, rfl⟩ PySem.F.entry_list_count (PySem.F.args_list_count_2 _ _) (SeqAt.list_countAt p its.toArray n dd sl u (eqU y)) ⟨ho, fun z hz => mem_eqAt ru fy rv fys z (by simpa using hz), ?_⟩
  have ec : its.toArray.toList.countP (eqU y) = ys.countP fun z => eqV z y := by rw [show its.toArray.toList = its from rfl, count_eqU rv fys]
  refine ⟨.int (ys.countP fun z => eqV z y : Nat), H, I.tok _, ⟨s.toks, ?_⟩, q⟩
  rw [ec]
/-! the classes of this program's errors -/
def exTail : List Value := [.type "RuntimeError", .type "Exception", .type "BaseException", .type "object"]
/-- the class over all errors -/
structure Kc (K : PySem.W.Frag) (mg : Str → Option Value) : Prop where
  gP : mg "KeepError" = some (.ref (cls mg "KeepError"))
  ex : ∃ cd, PySem.W.clsIn K (cls mg "KeepError") = some cd ∧ cd.name = "KeepError" ∧ cd.mro = .ref (cls mg "KeepError") :: exTail
  tP : PySem.W.typeIn K (.ref (cls mg "KeepError")) = some (.type "type")
  hd : PySem.W.hasDictIn K (cls mg "KeepError") = true
/-- an error's class -/
structure Ec (K : PySem.W.Frag) (mg : Str → Option Value) (x : Str) : Prop where
  gP : mg x = some (.ref (cls mg x))
  ex : ∃ cd, PySem.W.clsIn K (cls mg x) = some cd ∧ cd.name = x ∧ cd.mro = .ref (cls mg x) :: .ref (cls mg "KeepError") :: exTail
  tP : PySem.W.typeIn K (.ref (cls mg x)) = some (.type "type")
  ec : ExcC K (cls mg x)
section
variable {K : PySem.W.Frag} {h : Heap} {mg : Str → Option Value} {x y : Str}
theorem cls_lookup {C : Addr} {oc : Value} {od : Option Addr} {cd : ClassData} {osl : Array (Option Value)} (l : K.lookup C = some ⟨oc, od, .cls cd, osl⟩) : PySem.W.clsIn K C = some cd := by
  unfold PySem.W.clsIn
  rw [l]
theorem kc_mk {C : Addr} {oc : Value} {od : Option Addr} {osl : Array (Option Value)} {bs : List Value} {N : Addr} {q : Str} {sn : List Str} {sub : List Value} {hd ab dl : Bool} {col : Option Bool} (X : K.In h) (G : h.Ns mainGlobals mg)
    (a : PySem.W.nsIn K mainGlobals "KeepError" = some (some (.ref C)))
    (l : K.lookup C = some ⟨oc, od, .cls { name := "KeepError", bases := bs, mro := [.ref C, .type "RuntimeError", .type "Exception", .type "BaseException", .type "object"], ns := N, qualname := q, hasDict := hd, slotNames := sn, subclasses := sub, abstract := ab, collection := col, hasDel := dl }, osl⟩)
    (tP : PySem.W.typeIn K (.ref C) = some (.type "type")) (hD : PySem.W.hasDictIn K C = true) : Kc K mg := by
  have g := PySem.W.mg_of X G a
  have e := cls_of g
  refine ⟨by rw [e]; exact g, ?_, by rw [e]; exact tP, by rw [e]; exact hD⟩
  rw [e]
  exact ⟨_, cls_lookup l, rfl, rfl⟩
theorem ec_mk {C KE : Addr} {oc : Value} {od : Option Addr} {osl : Array (Option Value)} {bs : List Value} {N : Addr} {q : Str} {sn : List Str} {sub : List Value} {hd ab dl : Bool} {col : Option Bool} (X : K.In h) (G : h.Ns mainGlobals mg)
    (k : PySem.W.nsIn K mainGlobals "KeepError" = some (some (.ref KE))) (a : PySem.W.nsIn K mainGlobals x = some (some (.ref C)))
    (l : K.lookup C = some ⟨oc, od, .cls { name := x, bases := bs, mro := [.ref C, .ref KE, .type "RuntimeError", .type "Exception", .type "BaseException", .type "object"], ns := N, qualname := q, hasDict := hd, slotNames := sn, subclasses := sub, abstract := ab, collection := col, hasDel := dl }, osl⟩)
    (tP : PySem.W.typeIn K (.ref C) = some (.type "type")) (hD : PySem.W.hasDictIn K C = true)
    (h1 : PySem.W.findIn K (.ref C) "__getattribute__" = some (some (.builtin "BaseException.__getattribute__"))) (h2 : PySem.W.findIn K (.ref C) "__getattr__" = some none)
    (h3 : PySem.W.findIn K (.ref C) "__class__" = some (some (.builtin "object.__class__"))) (h4 : PySem.W.specialIn K (.builtin "object.__class__") "__get__" = some (some (.builtin "getset_descriptor.__get__"))) (h5 : PySem.W.takesIn K (.builtin "object.__class__") = some true) : Ec K mg x := by
  have g := PySem.W.mg_of X G a
  have e := cls_of g
  have e2 := cls_of (PySem.W.mg_of X G k)
  have hc := cls_lookup l
  have hm : ∀ b, PySem.W.mroIn K C b = some ([Value.ref C, .ref KE, .type "RuntimeError", .type "Exception", .type "BaseException", .type "object"].contains b) := fun b => by
    unfold PySem.W.mroIn
    rw [hc]
    rfl
  refine ⟨by rw [e]; exact g, ?_, by rw [e]; exact tP, ?_⟩
  · rw [e, e2]
    exact ⟨_, hc, rfl, rfl⟩
  · rw [e]
    refine ⟨h1, h2, ?_, hD, h3, h4, h5, ?_⟩
    · show PySem.W.mroIn K C _ = _
      rw [hm]
      simp
    · rw [hm]
      simp
theorem Ec.mro (e : Ec K mg x) (b : Value) : PySem.W.subIn K (.ref (cls mg x)) b = some ((Value.ref (cls mg x) :: .ref (cls mg "KeepError") :: exTail).contains b) := by
  obtain ⟨cd, h1, _, h3⟩ := e.ex
  show PySem.W.mroIn K _ b = _
  unfold PySem.W.mroIn
  rw [h1, Option.bind_some, h3]
  rfl
theorem Ec.ne (e : Ec K mg x) (f : Ec K mg y) (n : x ≠ y) : cls mg x ≠ cls mg y := fun z => by
  obtain ⟨cd, h1, h2, _⟩ := e.ex
  obtain ⟨cd', h1', h2', _⟩ := f.ex
  rw [z, h1'] at h1
  cases h1
  exact n (h2.symm.trans h2')
theorem Ec.neK (e : Ec K mg x) (f : Kc K mg) (n : x ≠ "KeepError") : cls mg x ≠ cls mg "KeepError" := fun z => by
  obtain ⟨cd, h1, h2, _⟩ := e.ex
  obtain ⟨cd', h1', h2', _⟩ := f.ex
  rw [z, h1'] at h1
  cases h1
  exact n (h2.symm.trans h2')
theorem Ec.is (e : Ec K mg x) (f : Ec K mg y) (k : Kc K mg) (n : y ≠ "KeepError") : PySem.W.kitOne K (.ref (cls mg x)) (.ref (cls mg y)) = some (decide (x = y)) := by
  by_cases c : x = y
  · subst c
    unfold PySem.W.kitOne
    simp
  · have h1 := e.ne f c
    have h2 := f.neK k n
    obtain ⟨cd', h1', _⟩ := f.ex
    unfold PySem.W.kitOne
    rw [if_neg (by intro z; exact h1 (Value.ref.inj (beq_iff_eq.mp z)))]
    show (if ((PySem.W.clsIn K (cls mg y)).isSome && PySem.W.typeIn K (.ref (cls mg y)) == some (.type "type")) = true then PySem.W.subIn K (.ref (cls mg x)) (.ref (cls mg y)) else none) = _
    rw [h1', f.tP, if_pos (by rfl), e.mro]
    rw [Option.some.injEq, decide_eq_false c, List.contains_eq_any_beq]
    simp only [exTail, List.any_cons, List.any_nil, Bool.or_eq_false_iff, beq_eq_false_iff_ne]
    refine ⟨fun z => h1 (Value.ref.inj z).symm, fun z => h2 (Value.ref.inj z), ?_⟩
    simp
theorem Ec.isR (e : Ec K mg x) : PySem.W.kitOne K (.ref (cls mg x)) (.type "RuntimeError") = some true := by
  unfold PySem.W.kitOne
  rw [if_neg (by intro z; exact nomatch (beq_iff_eq.mp z))]
  show (if PySem.W.kitMeta "RuntimeError" = true then PySem.W.subIn K (.ref (cls mg x)) (.type "RuntimeError") else none) = _
  rw [if_pos (by decide +kernel), e.mro]
  simp [exTail]
theorem Ec.exm (e : Ec K mg x) (k : Kc K mg) : PySem.W.exmOne K (.ref (cls mg x)) (.ref (cls mg "KeepError")) = some true := by
  refine PySem.W.exm_ref ?_ k.hd k.tP ?_
  · obtain ⟨cd, h1, _, h3⟩ := k.ex
    show PySem.W.mroIn K _ _ = _
    unfold PySem.W.mroIn
    rw [h1, Option.bind_some, h3]
    rfl
  · rw [e.mro]
    simp
end
end Nk
/-! ### set(l) of a list of whole numbers; sorted and len of it, however many -/
namespace Nk
open PySem L2 PySem.Spec PyProof.Rows
abbrev eSet (w : World) : Obj := { cls := .type "set", dict := none, data := .set #[] 0 (.fresh 0 0 (!w.params.followText "set-order")) }
section
variable {prog : Program} {w : World} {A : Around} {E : Value → Shared → Prop} {s : Shared}
set_option maxRecDepth 100000 in
set_option maxHeartbeats 3200000 in
theorem set_of_list {l : Addr} {xs : Array Value} (ns : List Int) {Q : Value → Shared → Prop} (calm : A.handled = none) (isl : s.heap.IsList l xs) (hin : IntsAre xs.toList ns) (few : ns.length + 1 < scanBound)
    (fin : ∀ (g : Heap) (tk c : Nat), SetR w g s.heap.objs.size (fun j => decide (j ∈ ns)) c → c ≤ ns.length → (∀ b o, s.heap.get? b = some o → g.get? b = some o) → Q (.ref s.heap.objs.size) { s with heap := g, toks := tk }) :
    wpAny (model prog w) A (call (.type "set") [.ref l]) Q E s := by
  have size : xs.size = ns.length := by
    have := hin.length
    rwa [Array.length_toList] at this
  obtain ⟨m1, m2, hmro⟩ := F.called_set.mro
  have hm0 := F.called_set.made
  have hm1 := F.called_set.sub
  refine wpAny_call (codeAny_of_tree ?_)
  show wpAny _ _ (callAny (.type "set") _) _ _ _
  refine wpAny_pure ⟨Code.quiet_builtin _ (by decide +kernel), codeAny_builtin F.entry_type_call ?_⟩
  rw [Around.under_plain (weight_type_call_type "set" [.ref l] []) rfl]
  have hm2 := F.called_set.notType
  have hm3 := F.called_set.canCreate
  have hm4 := F.typeCall_set_1 (.ref l)
  repeat (any_goals (first | assumption | wp_step))
  refine codeAny_mono (code_set_led1 (.ref l) (E := E) (Q₁ := fun v s1 => v = .ref s.heap.objs.size ∧ s1 = { s with heap := s.heap.push (eSet w) }) ⟨rfl, rfl⟩) fun r s1 hr => ?_
  cases r with
  | error _ => exact hr
  | ok fl =>
    cases fl with
    | ret v =>
      obtain ⟨rfl, rfl⟩ := hr
      have at0 : (s.heap.push (eSet w)).get? s.heap.objs.size = some (eSet w) := Heap.get?_push_size _ rfl
      have ty0 : Shared.TypeIs { s with heap := s.heap.push (eSet w) } (.ref s.heap.objs.size) "set" := ⟨_, at0, rfl⟩
      have hi1 := F.called_set.init.lookup
      have hi2 := F.called_set.init.bind (.ref s.heap.objs.size)
      repeat (any_goals (first | assumption | wp_step))
      refine codeAny_mono (codeAny_call_builtin (R := wants (fun r s2 => r = .none ∧ ∃ g tk c, s2 = { s with heap := g, toks := tk } ∧ SetR w g s.heap.objs.size (fun j => decide (j ∈ ns)) c ∧ c ≤ ns.length ∧
          (∀ b o, s.heap.get? b = some o → g.get? b = some o)) E) F.called_set.init.plain F.entry_set_init (check_set_init_1 ty0 ?_)) fun r2 s2 hr2 => ?_
      · obtain ⟨ol, hol, hcl, nl, hdl⟩ := isl
        obtain ⟨k1, k2, k3, k4⟩ := ol
        simp only at hcl hdl
        subst hcl hdl
        have hol1 : (s.heap.push (eSet w)).get? l = some { cls := .type "list", dict := k2, data := .seq xs nl, slots := k4 } := Heap.get?_push_of_some _ hol
        have sub1 := F.sub_list_set
        have sub2 := F.sub_list_frozenset
        have nodict : (Value.type "list" == Value.type "dict") = false := by decide
        have isl1 : (s.heap.push (eSet w)).IsList l xs := ⟨_, hol1, rfl, nl, rfl⟩
        unfold Builtin.«set.__init__» noKeywords Builtin.Frozenset.updateFrom
        generalize hPI : pyIter = PI
        wp_walk
        subst hPI
        refine wpAny_pyIter_list isl1 ?_
        refine wpAny_bind (wpAny_runValue ?_)
        have lt0 : l < s.heap.objs.size := Heap.lt_size hol
        have calm3 : A.in1.in1.in1.handled = none := by simp [calm]
        have ne1 : l ≠ (s.heap.push (eSet w)).objs.size := by
          rw [Heap.size_push]
          exact Nat.ne_of_lt (Nat.lt_succ_of_lt lt0)
        have out1 : s.heap.objs.size ∉ [(s.heap.push (eSet w)).objs.size, l] := by
          rw [Heap.size_push]
          simp only [List.mem_cons, List.mem_singleton, List.not_mem_nil, or_false, not_or]
          exact ⟨Nat.ne_of_lt (Nat.lt_succ_self _), Nat.ne_of_gt lt0⟩
        have vals : ∀ (i : Nat) (v : Value), xs[i]? = some v → ∃ k t, ns[i]? = some k ∧ v = .int k t := fun i v hv => by
          have hi : i < ns.length := by
            rw [← size]
            exact (Array.getElem?_eq_some_iff.mp hv).1
          obtain ⟨t, e⟩ := PyProof.Rows.IntsAre.int_at hin i v (by rw [Array.getElem?_toList]; exact hv)
          refine ⟨ns[i], t, List.getElem?_eq_getElem hi, ?_⟩
          rw [e, List.getD_eq_getElem?_getD, List.getElem?_eq_getElem hi] <;> rfl
        refine set_update_ints ((Walks.list calm3 _ l ne1 xs).toS) s.heap.objs.size out1 ns size few vals (xs.size - 0) 0 _ (by omega) (Nat.zero_le _) ⟨⟨_, Heap.get?_push_size _ rfl, rfl, rfl⟩, (isl1.push _)⟩ ?one ?two
        case one =>
          have at2 : ((s.heap.push (eSet w)).push { cls := .type "list_iterator", data := .fields #[.ref l, .int 0 0] }).get? s.heap.objs.size = some (eSet w) := Heap.get?_push_of_some _ at0
          exact ⟨0, Nat.le_refl 0, setR_new_at at2⟩
        case two =>
          intro s3 c3 mv hc3 R3
          obtain ⟨h3, g3, d3, t3, o3⟩ := s3
          have eg : g3 = s.gens := mv.gens
          have ed : d3 = s.drawn := mv.drawn
          have eo : o3 = s.os := mv.os
          subst eg ed eo
          show wpAny _ _ _ _ _ _
          refine wpAny_pure ?_
          show wpAny _ _ (ret Value.none) _ _ _
          rw [size] at hc3
          refine wpAny_pure ⟨rfl, h3, t3, c3, rfl, R3, hc3, fun b o e => ?_⟩
          have lb : b < s.heap.objs.size := Heap.lt_size e
          have nb1 : b ≠ s.heap.objs.size := Nat.ne_of_lt lb
          have nb2 : b ≠ (s.heap.push (eSet w)).objs.size := by
            rw [Heap.size_push]
            exact Nat.ne_of_lt (Nat.lt_succ_of_lt lb)
          refine mv.heap b o ?_ (Heap.get?_push_of_some _ (Heap.get?_push_of_some _ e))
          simp only [List.mem_cons, List.mem_singleton, List.not_mem_nil, or_false, not_or]
          exact ⟨nb1, nb2⟩
      · cases r2 with
        | error _ => exact hr2
        | ok fl2 =>
          cases fl2 with
          | ret _ =>
            obtain ⟨rfl, g, tk, c, rfl, R2, hc2, k2⟩ := hr2
            repeat (any_goals (first | assumption | wp_step))
            exact fin _ _ _ R2 hc2 k2
          | _ => exact hr2.elim
    | _ => exact hr.elim
end
section
variable {X : Cx}
def rSetLI (K : PySem.W.Frag) (w : World) : List V → Hp → VK → Prop := fun vs H Q => ∃ (a : Addr) (ns : List Int), vs = [V.ref a] ∧ SqL K H a (ns.map V.int) ∧ ns.length ≤ 4000 ∧
  ∀ (p : Addr) (c : Nat), H p = none → c ≤ ns.length → Q (.ref p) (upd H p (SetO w p (fun j => decide (j ∈ ns)) c))
theorem cr_setLI (hc : X.calm = true) : CallR X (.type "set") (rSetLI X.K X.w) := by
  intro pins s σ H vs us Q I r h
  obtain ⟨a, ns, rfl, hs, hz, q⟩ := h
  obtain ⟨its, rv, hl, _⟩ := I.list hs
  rw [Vals.ref1 r]
  refine set_of_list ns (I.ok.hd hc) hl.isList rv.ints (by unfold scanBound; omega) fun g tk c R hc k => ?_
  exact ⟨.ref _, _, I.laid (t' := tk) (o := SetO X.w s.heap.objs.size (fun j => decide (j ∈ ns)) c) k (Nat.le_refl _) (setO_new R), rfl, q _ c (I.hok.fresh (Nat.le_refl _)) hc⟩
theorem rise_of_nodup {l : List Int} (h : l.Pairwise (· ≤ ·)) (nd : l.Nodup) : l.Pairwise (· < ·) := (h.and nd).imp fun {a b} ⟨h1, h2⟩ => by omega
/-- sorted of a set, however many -/
def rSortedSA (w : World) : List V → Hp → VK → Prop := fun vs H Q => ∃ (a : Addr) (S : Int → Bool) (n : Nat), vs = [V.ref a] ∧ H a = some (SetO w a S n) ∧ n ≤ 10000 ∧
  ∀ (ns : List Int) (p : Addr), ns.Pairwise (· < ·) → (∀ k : Int, k ∈ ns ↔ S k = true) → ns.length = n → H p = none → Q (.ref p) (upd H p (.lst (ns.map V.int)))
theorem cr_sortedSA (hcalm : X.calm = true) : CallR X (.builtin "sorted") (rSortedSA X.w) := by
  intro pins s σ H vs us Q I r h
  obtain ⟨a, S, n, rfl, ha, hn0, q⟩ := h
  rw [Vals.ref1 r]
  obtain ⟨o, es, ep, t, ho, hex, hd, g, nd, hm, hb, hf, hn, hr, hl⟩ := setO_get I ha
  refine Calls.call_function_entry PyProof.Rows.kind_sorted PyProof.Rows.plain_sorted PyProof.Rows.entry_sorted (PyProof.Rows.args_sorted1 _) ?_
  unfold Builtin.«sorted»
  refine wpAny_bind (m := checkCount "sorted" 1 1 _) (wpAny_pure ?_)
  refine wpAny_bind (collect_set (A := X.A.in1) (I.ok.hd hcalm) ⟨o, ho, hex.1, hd⟩ hf hb hr hl fun s1 us k1 hz g1 o1 pm => ?_)
  have hul : us.length = n := by
    rw [pm.length_eq, List.length_map, Array.length_toList]
    exact hn
  have hI : IntsAre us (us.map Builtin.Re.reRawOf) := ints_of us fun v hv => by
    obtain ⟨e, he, q⟩ := List.mem_map.mp (pm.mem_iff.mp hv)
    obtain ⟨k, tk, h1, _⟩ := g e he
    exact ⟨k, tk, by rw [← q]; exact h1⟩
  have pk : (us.map Builtin.Re.reRawOf).Perm (es.toList.map keyOf) := by
    have z := pm.map Builtin.Re.reRawOf
    rw [List.map_map] at z
    exact z
  have hsz : us.length ≤ sizeLine := by
    rw [hul]
    exact sz (by omega)
  refine wpAny_bind (wpAny_newList ?_ hsz)
  have hoL : (s1.heap.push (seqObj "list" us.toArray 0)).get? s1.heap.objs.size = some (seqObj "list" us.toArray 0) := Heap.get?_push_size _ rfl
  refine wpAny_bind (wpAny_holding (wpAny_call_entry PyProof.Rows.slot_list_sort ⟨_, hoL, rfl⟩ PyProof.Rows.entry_list_sort
    (SrtO.list_sort_ord SrtO.swo_int hoL hsz (fun h2 => SrtO.ints_sortable hI h2) fun out b1 b2 => ⟨_, rfl, ?_⟩) (PyProof.Rows.args_list_sort _)))
  obtain ⟨c1, c2, c3⟩ := SrtO.ints_out hI b1 b2
  obtain ⟨e', he'⟩ := PyProof.Rows.sortedHeap_at (vs := us) (out := out.toArray) hoL
  have pn : (out.map SrtO.iv).Perm (es.toList.map keyOf) := c2.trans pk
  have hlen : ((out.map SrtO.iv).map V.int).length ≤ sizeLine := by
    rw [List.length_map, c2.length_eq, List.length_map]
    exact hsz
  have hnone : H s1.heap.objs.size = none := I.hok.fresh hz
  have old : ∀ b u, s.heap.get? b = some u → (PyProof.Rows.sortedHeap (s1.heap.push (seqObj "list" us.toArray 0)) s1.heap.objs.size us out.toArray).get? b = some u := fun b u e => by
    have z := k1 b u e
    have lt := Heap.lt_size z
    rw [PyProof.Rows.sortedHeap_old (Nat.ne_of_lt lt) (by rw [size_push']; exact Nat.lt_succ_of_lt lt)]
    exact Heap.get?_push_of_some _ z
  have J : Inv X pins σ (upd H s1.heap.objs.size (.lst ((out.map SrtO.iv).map V.int))) { s with heap := PyProof.Rows.sortedHeap (s1.heap.push (seqObj "list" us.toArray 0)) s1.heap.objs.size us out.toArray, gens := s1.gens, drawn := s1.drawn, toks := s1.toks } :=
    I.call (ch := []) (Un.laid old hz hnone) (I.hok.laid old hz ⟨hlen, out, e', vals_of_ints c1, he'⟩) (by rw [g1]; exact I.bare) (fun _ z => nomatch z)
  refine wpAny_pure ⟨_, rfl, .ref s1.heap.objs.size, _, ?_, rfl, q _ _ (rise_of_nodup c3 (pn.nodup_iff.mpr nd)) (fun k => by rw [pn.mem_iff, ← hm k]) (by rw [pn.length_eq, List.length_map, Array.length_toList]; exact hn) hnone⟩
  have eo : s1.os = s.os := o1
  rw [← eo] at J
  exact J
/-- len of a set -/
def rLenS (w : World) : List V → Hp → VK → Prop := fun vs H Q => ∃ (a : Addr) (S : Int → Bool) (n : Nat), vs = [V.ref a] ∧ H a = some (SetO w a S n) ∧ Q (.int n) H
end
end Nk
/-! ### own classes: methods by their promise, len of an instance, steps of the heap -/
namespace Nk
open PySem L2 PySem.Spec PyProof.Rows
/-- a method as it stands behind the top: c's, found at the def st -/
structure Md (K : PySem.W.Frag) (mg : Str → Option Value) (c m qual : Str) (st : Stmt) (ps : List Str) : Prop where
  ex : ∃ (f : Addr) (fd : FuncData), Fun K m qual st f fd ∧ Meth K (cls mg c) m f ∧ Binds K fd ps []
/-- a class without own __new__ -/
structure Oc (K : PySem.W.Frag) (mg : Str → Option Value) (c : Str) : Prop where
  g : mg c = some (.ref (cls mg c))
  cl : Cls K (cls mg c)
  makes : PySem.W.makesIn K (cls mg c) = true
  kp : PySem.W.keepIn K (.ref (cls mg c)) = true
/-- a method keeps a promise -/
structure Mo (P : Program) (w : World) (K : PySem.W.Frag) (mg : Str → Option Value) (base : Heap) (CX : CXT) (k : Nat) (c m : Str) (ps : List Str) (sp : Sp) : Prop where
  ex : ∃ (f : Addr) (fd : FuncData), Meth K (cls mg c) m f ∧ Binds K fd ps [] ∧ FnOk P w K mg base CX k f fd ps sp
section
variable {X : Cx} {CX : CXT} {k : Nat} {ps : List Str} {sp : Sp} {c m x : Str} {p pos apos : Pos} {o e : Expr} {es : List Expr} {ta : TE} {t : TA} {E : XK}
theorem pe_me {pl : Sem Bool} (he : PE X o ta) (O : Oc X.K X.mg c) (M : Mo X.prog X.w X.K X.mg X.base CX k c m ps sp) (hr : Room k X.A) (hx : Passes CX X E) (ha : PA X (e :: es) t)
    (hst : starEach (e :: es) X.env = (false, eval e X.env) :: starEach es X.env := by rfl) (hpl : (backTo pos (starEach es X.env)).any (·.1) = false := by rfl)
    (ht : eval (.Call (.Attribute o m apos) (e :: es) [] pos) X.env = (do
      let ov ← eval o X.env
      standAt apos.atName
      let (g, first) ← holding [ov] (getMethod ov m pl)
      callWith pos g first (backTo pos (starEach (e :: es) X.env)) (backToKw pos (keywordEach [] X.env))) := by rfl) :
    PE X (.Call (.Attribute o m apos) (e :: es) [] pos) (tMeth (cls X.mg c) m sp [] E ta t) := by
  obtain ⟨f, fd, h1, h2, h3⟩ := M.ex
  exact pe_meth he O.cl h1 h3 hr h2 .nil hx ha hst hpl ht
theorem pe_me0 {pl : Sem Bool} (he : PE X o ta) (O : Oc X.K X.mg c) (M : Mo X.prog X.w X.K X.mg X.base CX k c m ps sp) (hr : Room k X.A) (hx : Passes CX X E)
    (ht : eval (.Call (.Attribute o m apos) [] [] pos) X.env = (do
      let ov ← eval o X.env
      standAt apos.atName
      let (g, first) ← holding [ov] (getMethod ov m pl)
      callWith pos g first (backTo pos (starEach [] X.env)) (backToKw pos (keywordEach [] X.env))) := by rfl) :
    PE X (.Call (.Attribute o m apos) [] [] pos) (tMeth (cls X.mg c) m sp [] E ta tNil) := by
  obtain ⟨f, fd, h1, h2, h3⟩ := M.ex
  exact pe_meth0 he O.cl h1 h3 hr h2 .nil hx ht
theorem pe_new (O : Oc X.K X.mg c) (M : Mo X.prog X.w X.K X.mg X.base CX k c "__init__" ps sp) (hr : Room (k + 1) X.A) (hg : Gl X c) (hx : Passes CX X E) (ha : PA X (e :: es) t)
    (hdb : (c == ("__debug__" : Str)) = false := by decide) (he : starEach (e :: es) X.env = (false, eval e X.env) :: starEach es X.env := by rfl) (hpl : (backTo pos (starEach es X.env)).any (·.1) = false := by rfl) :
    PE X (.Call (.Name c p) (e :: es) [] pos) (tMake (cls X.mg c) sp [] E t) := by
  obtain ⟨f, fd, h1, h2, h3⟩ := M.ex
  exact pe_make ⟨O.makes, h1.at_, h1.fn, O.kp⟩ h3 hr hg O.g h2 .nil hx ha hdb he hpl
/-- len of an instance -/
def rLenO (C : Addr) (sp : Sp) (E : XK) : List V → Hp → VK → Prop := fun xs H Q => ∃ (a dx : Addr) (fs : List (Str × V)), xs = [.ref a] ∧ H a = some (.ins C dx fs) ∧ sp [.ref a] H (fun v H' => ∃ n : Nat, v = .int n ∧ n < 2 ^ 62 ∧ Q (.int n) H') E
theorem cr_lenO (O : Oc X.K X.mg c) (M : Mo X.prog X.w X.K X.mg X.base CX k c "__len__" ps sp) (hr : Room (k + 1) X.A) (hx : Passes CX X E) : CallR X (.builtin "len") (rLenO (cls X.mg c) sp E) := by
  intro pins s σ H xs us Q I r h
  obtain ⟨a, dx, fs, rfl, ha, q⟩ := h
  rw [Vals.ref1 r]
  obtain ⟨f, fd, h1, h2, h3⟩ := M.ex
  obtain ⟨mA, ob, _⟩ := ins_get I.hok ha
  obtain ⟨od, hod, _⟩ := lookIn_ns ob.ns
  have J : PySem.W.InstAt s.heap a (PySem.W.instObj (cls X.mg c) dx) (cls X.mg c) (some od) := ⟨ob.obj, rfl, rfl, hod⟩
  obtain ⟨m0, fr⟩ := I.fr
  have r2 : Vals [V.ref a] [Value.ref a] := .cons rfl .nil
  have hl : ([Value.ref a] ++ ([] : List Value)).length = ps.length := by
    have := h3.len _ _ _ _ q
    exact this
  refine PySem.W.len_K fr I.ok.mod.kin J h1.at_ h1.fn ?_
  refine wpAny_call (codeAny_mono (h3.run _ X.stack s H ⟨[.ref a], []⟩ [.ref a] [.ref a] _ E hr.in1 I.env0.in1 (h2 s [.ref a] I.kIn hl) r2 q) fun rr s' hq => ?_)
  cases rr with
  | error e => exact hx pins σ H s e s' I hq
  | ok fl =>
    cases fl with
    | ret u =>
      obtain ⟨v, H', I2, rv, n, rfl, hn, q2⟩ := I.after hq
      obtain ⟨tk, rfl⟩ := rv
      exact ⟨⟨by omega, by omega⟩, .int n, H', I2.tok _, ⟨_, rfl⟩, q2⟩
    | next => exact False.elim hq
    | brk => exact False.elim hq
    | cont => exact False.elim hq
theorem pe_fldK {f : Str} (K : PySem.W.Frag) (hK : X.K = K) (he : PE X e ta) (hb : attributeBase e f X.env (eval e X.env) = eval e X.env) : PE X (.Attribute e f pos) (tFld K ta f) := hK ▸ pe_fld he hb
end
section
variable {K : PySem.W.Frag} {h : Heap} {mg : Str → Option Value}
theorem md_mk {c m qual : Str} {st : Stmt} {ps : List Str} {C f : Addr} {oc : Value} {od an : Option Addr} {osl : Array (Option Value)} {kV doc pm cdv ct : Value} (X : K.In h) (G : h.Ns mainGlobals mg)
    (hb : ∀ (kV doc pm : Value) (an : Option Addr) (cdv ct : Value) (us : List Value), us.length = ps.length → bindArgs (PySem.W.fnOf m qual (defArgs st) (defBody st) (defScope st) .none kV doc pm an cdv ct) ⟨us, []⟩ = pure (ps.zip us))
    (aC : PySem.W.nsIn K mainGlobals c = some (some (.ref C))) (a : PySem.W.findIn K (.ref C) m = some (some (.ref f))) (i : PySem.W.isFn K (.ref f) = true)
    (l : K.lookup f = some ⟨oc, od, .func (PySem.W.fnOf m qual (defArgs st) (defBody st) (defScope st) .none kV doc pm an cdv ct), osl⟩)
    (cc : PySem.W.codeIn K cdv qual = true) (k : PySem.W.keepIn K (.ref f) = true) : Md K mg c m qual st ps := by
  have F := fun_mk (st := st) l cc k
  have e := cls_of (PySem.W.mg_of X G aC)
  exact ⟨f, _, F, by rw [e]; exact ⟨a, i, k⟩, F.binds hb⟩
theorem oc_mk {c : Str} {C : Addr} (X : K.In h) (G : h.Ns mainGlobals mg) (aC : PySem.W.nsIn K mainGlobals c = some (some (.ref C))) (pg : PySem.W.plainGet K C Str.empty = true) (hd : PySem.W.hasDictIn K C = true) (po : PySem.W.plainOver K C = true)
    (sa : PySem.W.findIn K (.ref C) "__setattr__" = some (some (.builtin "object.__setattr__"))) (mk : PySem.W.makesIn K C = true) (kc : PySem.W.keepIn K (.ref C) = true) : Oc K mg c := by
  have g := PySem.W.mg_of X G aC
  have e := cls_of g
  exact ⟨by rw [e]; exact g, by rw [e]; exact ⟨pg, hd, po, sa⟩, by rw [e]; exact mk, by rw [e]; exact kc⟩
theorem na_mk {c f : Str} {C : Addr} (X : K.In h) (G : h.Ns mainGlobals mg) (aC : PySem.W.nsIn K mainGlobals c = some (some (.ref C))) (n : PySem.W.findIn K (.ref C) f = some none) : NoAttr K (cls mg c) f := by
  rw [cls_of (PySem.W.mg_of X G aC)]
  exact n
end
/-! steps of the heap -/
/-- only what stands in S may have changed; tuples never do -/
structure Step (S : List Addr) (H H' : Hp) : Prop where
  keep : ∀ b o, H b = some o → b ∉ S → H' b = some o
  tups : ∀ b xs, H b = some (.tup xs) → H' b = some (.tup xs)
theorem Step.refl {S : List Addr} {H : Hp} : Step S H H := ⟨fun _ _ h _ => h, fun _ _ h => h⟩
theorem Step.of {S : List Addr} {H H' : Hp} (s : Same H H') : Step S H H' := ⟨fun b o h _ => s b o h, fun b xs h => s b _ h⟩
theorem Step.same {S : List Addr} {H H1 H2 : Hp} (a : Step S H H1) (s : Same H1 H2) : Step S H H2 := ⟨fun b o h n => s _ _ (a.keep b o h n), fun b xs h => s _ _ (a.tups b xs h)⟩
theorem Same.step {S : List Addr} {H H1 H2 : Hp} (s : Same H H1) (a : Step S H1 H2) : Step S H H2 := ⟨fun b o h n => a.keep b o (s _ _ h) n, fun b xs h => a.tups b xs (s _ _ h)⟩
/-- S' is S, but for what is new -/
def Own (H : Hp) (S S' : List Addr) : Prop := ∀ b ∈ S', b ∈ S ∨ H b = none
theorem Own.refl {H : Hp} {S : List Addr} : Own H S S := fun _ h => .inl h
theorem Step.trans {S S' : List Addr} {H H1 H2 : Hp} (a : Step S H H1) (b : Step S' H1 H2) (w : Own H S S') : Step S H H2 :=
  ⟨fun c o h n => b.keep c o (a.keep c o h n) fun hm => (w c hm).elim n (fun h1 => by rw [h1] at h; cases h), fun c xs h => b.tups c xs (a.tups c xs h)⟩
theorem Step.more {S T : List Addr} {H H' : Hp} (a : Step S H H') (h : ∀ b ∈ S, b ∈ T) : Step T H H' := ⟨fun b o e n => a.keep b o e fun hm => n (h b hm), a.tups⟩
theorem Step.free {S : List Addr} {H H' : Hp} {p : Addr} (a : Step S H H') (hp : H' p = none) (n : p ∉ S) : H p = none := by
  cases e : H p with
  | none => rfl
  | some o => rw [a.keep _ _ e n] at hp; cases hp
theorem But.step {t : Addr} {H H' : Hp} {l : List V} (b : But t H H') (ht : H t = some (.lst l)) : Step [t] H H' :=
  ⟨fun c o h n => b c o h fun e => n (by rw [e]; exact List.mem_cons_self), fun c xs h => b c _ h (ne_of h ht (by intro z; cases z))⟩
theorem Step.but {t : Addr} {H H' : Hp} (a : Step [t] H H') : But t H H' := fun b o h n => a.keep b o h fun hm => n (List.mem_singleton.mp hm)
theorem step_upd {S : List Addr} {H : Hp} {p : Addr} {o u : HO} (hp : p ∈ S) (h : H p = some u) (hu : ∀ xs, u ≠ .tup xs) : Step S H (upd H p o) :=
  ⟨fun b x e n => by rw [upd_ne (fun z => n (by rw [z]; exact hp))]; exact e, fun b xs e => by rw [upd_ne (ne_of e h fun z => hu xs z.symm)]; exact e⟩
theorem putH {S : List Addr} {H0 H H' : Hp} {k : Addr} {u o : HO} (st : Step S H0 H) (hm : k ∈ S) (h : H k = some u) (hu : ∀ xs, u ≠ .tup xs) (e : upd H k o = H') : Step S H0 H' ∧ But k H H' ∧ H' k = some o := by
  subst e
  exact ⟨st.trans (step_upd hm h hu) .refl, But.upd, upd_same⟩
theorem Step.sqT {K : PySem.W.Frag} {S : List Addr} {H H' : Hp} {a : Addr} {xs : List V} (s : Step S H H') (h : H a = some (.tup xs)) : SqT K H' a xs := Nk.sqT (s.tups _ _ h)
theorem putF_lookup {f g : Str} {y : V} {fs : List (Str × V)} : (putF f y fs).lookup g = if g = f then some y else fs.lookup g := lookup_putF ..
end Nk
/-! ### an own error with its own __init__, over KeepError over RuntimeError -/
namespace Nk
open PySem L2 PySem.Spec PyProof.Rows PySem.HandSPX
open Builtin Builtin.ObjectAttr
abbrev rtTail : List Value := [.type "RuntimeError", .type "Exception", .type "BaseException", .type "object"]
theorem rt_pass (self : Value) (C B : Addr) : refuseLoop self "__setattr__" (.ref C :: .ref B :: rtTail) = pure () := by
  rw [refuseLoop_ref, refuseLoop_ref]
  exact F.store_RuntimeError.passes self
section
variable {prog : Program} {w : World} {A : Around} {E : Value → Shared → Prop} {R : Result → Shared → Prop} {hp : Heap} {g : Array GenState} {d : Drawn} {t : Nat} {os : OsState}
theorem first_fld {K : W.Frag} {nam : Str} {tk : Tok} {v : Value} {x C B : Addr} {fv : Array Value} {cd : ClassData} (X : K.In hp) (hx : hp.get? x = some { cls := .ref C, data := .fields fv }) (hcd : W.clsIn K C = some cd) (hmro : cd.mro = .ref C :: .ref B :: rtTail) (hh : cd.hasDict = true)
    (ha : W.findIn K (.ref C) nam = some none)
    (fin : ∀ h2 tk2 dx, (∀ b o, b ≠ x → hp.get? b = some o → h2.get? b = some o) → hp.objs.size ≤ dx → dx ≠ x → h2.get? x = some { cls := .ref C, dict := some dx, data := .fields fv } → h2.Ns1 dx (fun y => if y = nam then some v else none) → R (.ok (.ret .none)) ⟨h2, g, d, tk2, os⟩) :
    codeAny (model prog w) A (.call (.builtin "object.__setattr__") ⟨[.ref x, .str nam tk, v], []⟩) R ⟨hp, g, d, t, os⟩ := by
  have J : W.InstAt hp x { cls := .ref C, data := .fields fv } C none := ⟨hx, rfl, rfl, trivial⟩
  have st := F.store_object
  have nxs : x ≠ hp.objs.size := Nat.ne_of_lt (Heap.lt_size hx)
  have hob : W.mroIn K C (.type "object") = some true := by
    unfold W.mroIn
    rw [hcd, Option.bind_some, hmro]
    rfl
  have sub : W.Looks (model prog w) hp (isInstance (.ref x) (.type "object")) true := J.type.andThen (W.looks_mroIn X hob)
  refine codeAny_call_builtin st.slot.plain st.entry (@W.check_slot (model prog w) _ _ ⟨hp, g, d, t, os⟩ "object.__setattr__" "object" "__setattr__" (.ref x) [.str nam tk, v] [] _ st.kind st.split sub (st.args (.ref x) (.str nam tk) v) ?_)
  have lm : W.Looks (model prog w) hp (mroOf (.ref C)) cd.mro := (W.looks_clsIn X hcd).andThen .now
  have lt : W.Looks (model prog w) hp (storeTaker? none) none := .now
  have lc : W.Looks (model prog w) hp (classData C) cd := W.looks_clsIn X hcd
  rw [W.osa_eq, refuse_eq]
  refine wpAny_bind (wpAny_bind (J.type.at (wpAny_bind (lm.at ?_))))
  rw [hmro, rt_pass]
  refine wpAny_pure (wpAny_bind (J.type.at (wpAny_bind ((W.looks_findIn X ha).at (wpAny_bind (lt.at ?_))))))
  show wpAny _ _ (storeInOwnDict (.ref x) (.ref C) (.str nam tk) nam v false) _ _ _
  obtain ⟨k1, k2, k3, k4, k5, k6, k7, k8, k9, k10, k11⟩ := cd
  dsimp only at hh
  subst hh
  unfold storeInOwnDict ownDictForStores
  repeat (first | with_reducible refine store_in_new ?_ ?_ | with_reducible refine wpAny_loadPart_at hx ?_ | with_reducible refine lc.at ?_ | wp_step)
  · exact ⟨_, #[], _, (Heap.get?_update_ne _ _ _ _ nxs.symm).trans (Heap.get?_push_at rfl rfl), rfl, fun e he => absurd he (by simp), fun _ => rfl⟩
  · intro h2 tk2 n2 sb
    have hx1 : (hp.push { cls := .type "dict", data := .dict #[] }).get? x = some { cls := .ref C, data := .fields fv } := Heap.get?_push_of_some _ hx
    refine fin h2 tk2 hp.objs.size (fun b o hb ho => ?_) (Nat.le_refl _) nxs.symm ?_ n2
    · exact (sb.2 b (Nat.ne_of_lt (Heap.lt_size ho))).trans ((Heap.get?_update_ne _ _ _ _ hb).trans (Heap.get?_push_of_some _ ho))
    · exact (sb.2 x nxs).trans (Heap.get?_update_self _ hx1 rfl)
end
/-- what the written part says of such a class -/
structure OexR (K : PySem.W.Frag) (C : Addr) : Prop where
  cls : ∃ nm q N bs B sn sub ab col dd k0 k1 k2 k3 k5, K.lookup C = some (excClassObj nm q C N bs (.ref B :: rtTail) true sn sub ab col dd k0 k1 k2 k3 k5 "RuntimeError.__new__")
  sa : PySem.W.findIn K (.ref C) "__setattr__" = some (some (.builtin "object.__setattr__"))
  exC : PySem.W.subIn K (.ref C) (.type "BaseException") = some true
  tyC : PySem.W.typeIn K (.ref C) = some (.type "type")
  kC : PySem.W.keepIn K (.ref C) = true
section
variable {X : Cx} {pins : List (Addr × Obj)} {σ : L2.St} {H : Hp} {s : Shared} {a C : Addr} {f : Str} {y : V} {u : Value} {Q : Unit → Shared → Prop} {E : Value → Shared → Prop} {A : Around}
theorem own_first (T : OexR X.K C) (I : Inv X pins σ H s) (e : H a = some (exo a C none)) (hno : PySem.W.findIn X.K (.ref C) f = some none) (ry : RelV y u)
    (k : ∀ dx s', H dx = none → dx ≠ a → Inv X pins σ (upd (upd H dx (exd dx [(f, y)])) a (exo a C (some dx))) s' → Q () s') : wpAny (model X.prog X.w) A (setAttr (.ref a) f u) Q E s := by
  obtain ⟨nm, q, N, bs, B, sn, sub, ab, col, dd, k0, k1, k2, k3, k5, hC⟩ := T.cls
  have hcl : PySem.W.clsIn X.K C = some { name := nm, bases := bs, mro := .ref C :: .ref B :: rtTail, ns := N, qualname := q, hasDict := true, slotNames := sn, subclasses := sub, abstract := ab, collection := col, hasDel := false } := by
    unfold PySem.W.clsIn
    rw [hC] <;> rfl
  obtain ⟨t1, ho⟩ := exo_at I.hok e
  obtain ⟨hp, g, d, t, os⟩ := s
  refine PySem.W.set_plain I.kIn (ox := { cls := .ref C, dict := none, data := .fields #[.ref t1, .none, .none, .none, .bool false, .none] }) (od := none) ⟨ho, rfl, rfl, trivial⟩ T.sa ?_
  refine first_fld I.kIn ho hcl rfl rfl hno fun h2 tk2 dx kp dn dne hx hn => ?_
  have hnd : H dx = none := I.hok.fresh dn
  have nd : ∀ {b : Addr} {o : Obj}, hp.get? b = some o → b ≠ dx := fun {b o} z => Nat.ne_of_lt (Nat.lt_of_lt_of_le (Heap.lt_size z) dn)
  have na : ∀ {b : Addr}, H b = none → b ≠ a := fun {b} n z => by rw [z, e] at n; cases n
  have U : Un X.fs [] H (upd (upd H dx (exd dx [(f, y)])) a (exo a C (some dx))) hp h2 := {
    keep := fun b o z n _ _ => kp b o (na n) z
    slot := fun b o z n _ _ => ⟨o.slots, kp b o (na n) z⟩
    free := fun b o z n _ => by rw [upd_ne (na n), upd_ne (nd z)]; exact n
    there := fun b o z _ => by
      by_cases hb : b = a
      · rw [hb]; exact ⟨_, hx⟩
      · exact ⟨o, kp b o hb z⟩
    tups := fun b xs z => by rw [upd_ne (at_ne e z exo_tup), upd_ne (ne_of_none z hnd)]; exact z
    frzs := fun b o v z => by rw [upd_ne (at_ne e z exo_frz), upd_ne (ne_of_none z hnd)]; exact z
    tbls := fun b ps z => ⟨#[], by rw [upd_ne (at_ne e z exo_tbl), upd_ne (ne_of_none z hnd), z]; simp⟩ }
  refine k dx _ hnd dne (I.un (t' := tk2) U fun b o z => ?_)
  by_cases hb : b = a
  · subst hb
    rw [upd_same] at z
    cases z
    exact exo_ok hx
  · rw [upd_ne hb] at z
    by_cases hd : b = dx
    · subst hd
      rw [upd_same] at z
      cases z
      exact exd_ok hn (relO_put (fs := []) ry fun g => True.intro)
    · rw [upd_ne hd] at z
      refine (I.hok b o z).stay (fun c v hc w => kp c v ?_ w) (fun c hc => by rw [upd_ne (at_ne e hc exo_own), upd_ne (ne_of_none hc hnd)]; exact hc) (fun c xs hc => by rw [upd_ne (at_ne e hc exo_tup), upd_ne (ne_of_none hc hnd)]; exact hc)
      rcases hc with hc | hc
      · rw [hc]; exact hb
      · exact at_ne e hc exo_own
end
/-- self.f = e, the first one -/
def tOstR (K : PySem.W.Frag) (f : Str) (to te : TE) : TS := fun D σ H => te σ H fun y H1 => to σ H1 fun x H2 => ∃ a C : Addr, x = .ref a ∧ OexR K C ∧ PySem.W.findIn K (.ref C) f = some none ∧
  H2 a = some (exo a C none) ∧ ∀ dx, H2 dx = none → dx ≠ a → D.nx σ (upd (upd H2 dx (exd dx [(f, y)])) a (exo a C (some dx)))
section
variable {X : Cx} {o e : Expr} {es : List Expr} {to te : TE} {ta : TA} {f : Str} {p p' pos : Pos}
theorem ps_ostR (ho : PE X o to) (he : PE X e te) (hs : swapsWith e (some (.Attribute o f p')) pos.line X.env = pure false := by rfl) : PS X (.Assign [.Attribute o f p'] e pos) (tOstR X.K f to te) := by
  refine ⟨fun pins s σ H D I h => ?_⟩
  refine plainObj_wpAny_Assign_Attribute (thn (he.run pins s σ H _ I h) fun v s1 ⟨y, H1, I1, r1, q1⟩ => thn (ho.run pins s1 σ H1 _ I1 q1) fun u s2 ⟨x, H2, I2, r2, a, C, ex, T, hno, ea, q⟩ => ?_) hs
  subst ex
  obtain rfl : u = Value.ref a := r2
  exact own_first T I2 ea hno r1 fun dx s' n ne J => ⟨σ, _, J, q dx n ne⟩
theorem pmk_oexR {CX : CXT} {x : Str} {C fI : Addr} {k : Nat} {fd : FuncData} {ps : List Str} {sp : Sp} (T : OexR X.K C) (iC : PySem.W.findIn X.K (.ref C) "__init__" = some (some (.ref fI))) (tI : PySem.W.typeIn X.K (.ref fI) = some (.type "function"))
    (F1 : FnOk X.prog X.w X.K X.mg X.base CX k fI fd ps sp) (hr : Room (k + 1) X.A) (hb : Binds X.K fd ps []) (hx : Passes CX X (fun _ _ _ => False)) (hg : Gl X x) (hm : X.mg x = some (.ref C)) (ha : PA X (e :: es) ta)
    (hdb : (x == ("__debug__" : Str)) = false := by decide) (he : starEach (e :: es) X.env = (false, eval e X.env) :: starEach es X.env := by rfl) (hpl : (backTo pos (starEach es X.env)).any (·.1) = false := by rfl) :
    PMk X (.Call (.Name x p) (e :: es) [] pos) (tMkO C sp [] ta) := by
  intro pins s σ H Q I h
  obtain ⟨nm, q, N, bs, B, sn, sub, ab, col, dd, k0, k1, k2, k3, k5, hC⟩ := T.cls
  refine wpAny_Call_Name_kw (ld_glob I hg hm ?_ hdb)
  refine PySem.W.callWith_K (h₀ := X.base) I.ok.mod.kin T.kC (thn (ha.run pos pins s σ H _ I h) fun us s1 ⟨vs, H1, I1, r1, hz, q1⟩ => ⟨I1.kIn, ?_⟩) he hpl
  show wpAny _ _ (call (.ref C) us) _ _ _
  obtain ⟨hp, g, dr, tk, os⟩ := s1
  have up1 : hp.objs.size ≤ hp.objs.size + 1 := Nat.le_succ _
  have hn : H1 (hp.objs.size + 1) = none := I1.hok.fresh up1
  have hq := q1 (hp.objs.size + 1) hn
  have old : ∀ b o, hp.get? b = some o → ((hp.push (PySem.W.kdv_tup us)).push (excO C hp.objs.size)).get? b = some o := fun b o z => Heap.get?_push_of_some _ (Heap.get?_push_of_some _ z)
  have new : ((hp.push (PySem.W.kdv_tup us)).push (excO C hp.objs.size)).get? (hp.objs.size + 1) = some (excO C hp.objs.size) := by heap_get
  have I2 : Inv X pins σ (upd H1 (hp.objs.size + 1) (exo (hp.objs.size + 1) C none)) ⟨(hp.push (PySem.W.kdv_tup us)).push (excO C hp.objs.size), g, dr, tk, os⟩ :=
    I1.laid (t' := tk) (a := hp.objs.size + 1) (o := exo (hp.objs.size + 1) C none) (h' := (hp.push (PySem.W.kdv_tup us)).push (excO C hp.objs.size)) old up1 (exo_ok new)
  rw [List.append_nil] at hq
  have r2 : Vals (V.ref (hp.objs.size + 1) :: vs) (Value.ref (hp.objs.size + 1) :: us) := .cons rfl r1
  have hl : (Value.ref (hp.objs.size + 1) :: us ++ ([] : List Value)).length = ps.length := by
    rw [List.append_nil, ← r2.length]
    exact F1.len _ _ _ _ hq
  have hus : us.length ≤ sizeLine := by
    rw [← Paired.length r1, sizeLine_eq]
    omega
  have hbb := hb ⟨(hp.push (PySem.W.kdv_tup us)).push (excO C hp.objs.size), g, dr, tk, os⟩ (Value.ref (hp.objs.size + 1) :: us) I2.kIn hl
  rw [List.append_nil] at hbb
  refine wpAny_call (call_own F.excBase_RuntimeError (bm := .ref B :: rtTail) (fun Y => rfl) (I1.kIn _ _ hC) (PySem.W.looks_findIn I1.kIn iC) (fun self => PySem.W.bind_fn I1.kIn self tI) hus
    (codeAny_mono (F1.run _ X.stack _ _ ⟨Value.ref (hp.objs.size + 1) :: us, []⟩ (Value.ref (hp.objs.size + 1) :: us) _ _ (fun _ _ _ => False) (hr.make C us []) (I2.env0.make C us []) hbb r2 hq) fun r s' hq' => ?_))
  cases r with
  | error er => exact hx pins σ _ _ er s' I2 hq'
  | ok fl =>
    cases fl with
    | ret u =>
      obtain ⟨v, H2, os2, bare2, un2, hok2, rv, ev, d, fs, ea, ed, hd1, q2⟩ := hq'
      subst ev
      obtain ⟨h2, g2, d2, t2, os'⟩ := s'
      exact ⟨rv, mk_end (raises_own T.exC T.tyC) I1 up1 old un2 hok2 os2 bare2 ea ed hd1 q2⟩
    | next => exact False.elim hq'
    | brk => exact False.elim hq'
    | cont => exact False.elim hq'
end
end Nk
namespace Nk
open PySem L2 PySem.Spec PyProof.Rows
/-- such a class as it stands behind the top: one field, set by its __init__ -/
structure Eo (K : PySem.W.Frag) (mg : Str → Option Value) (x qual : Str) (st : Stmt) (ps : List Str) (f : Str) : Prop where
  g : mg x = some (.ref (cls mg x))
  ox : OexR K (cls mg x)
  na : PySem.W.findIn K (.ref (cls mg x)) f = some none
  ini : ∃ (fI : Addr) (fd : FuncData), Fun K "__init__" qual st fI fd ∧ PySem.W.findIn K (.ref (cls mg x)) "__init__" = some (some (.ref fI)) ∧ PySem.W.typeIn K (.ref fI) = some (.type "function") ∧ Binds K fd ps []
section
variable {K : PySem.W.Frag} {h : Heap} {mg : Str → Option Value}
theorem eo_mk {x qual : Str} {st : Stmt} {ps : List Str} {f : Str} {C fI : Addr} {oc : Value} {od an : Option Addr} {osl : Array (Option Value)} {kV doc pm cdv ct : Value}
    {nm q : Str} {N B : Addr} {bs : List Value} {sn : List Str} {sub : List Value} {ab : Bool} {col : Option Bool} {dd : Option Addr} {k0 k1 k2 k3 k5 : Option Value} (X : K.In h) (G : h.Ns mainGlobals mg)
    (hb : ∀ (kV doc pm : Value) (an : Option Addr) (cdv ct : Value) (us : List Value), us.length = ps.length → bindArgs (PySem.W.fnOf "__init__" qual (defArgs st) (defBody st) (defScope st) .none kV doc pm an cdv ct) ⟨us, []⟩ = pure (ps.zip us))
    (aC : PySem.W.nsIn K mainGlobals x = some (some (.ref C)))
    (lC : K.lookup C = some (excClassObj nm q C N bs (.ref B :: rtTail) true sn sub ab col dd k0 k1 k2 k3 k5 "RuntimeError.__new__"))
    (sa : PySem.W.findIn K (.ref C) "__setattr__" = some (some (.builtin "object.__setattr__"))) (exC : PySem.W.subIn K (.ref C) (.type "BaseException") = some true) (tyC : PySem.W.typeIn K (.ref C) = some (.type "type")) (kC : PySem.W.keepIn K (.ref C) = true)
    (na : PySem.W.findIn K (.ref C) f = some none)
    (a : PySem.W.findIn K (.ref C) "__init__" = some (some (.ref fI))) (ti : PySem.W.typeIn K (.ref fI) = some (.type "function"))
    (l : K.lookup fI = some ⟨oc, od, .func (PySem.W.fnOf "__init__" qual (defArgs st) (defBody st) (defScope st) .none kV doc pm an cdv ct), osl⟩)
    (cc : PySem.W.codeIn K cdv qual = true) (k : PySem.W.keepIn K (.ref fI) = true) : Eo K mg x qual st ps f := by
  have g := PySem.W.mg_of X G aC
  have e := cls_of g
  have F := fun_mk (st := st) l cc k
  refine ⟨by rw [e]; exact g, by rw [e]; exact ⟨⟨_, _, _, _, _, _, _, _, _, _, _, _, _, _, _, lC⟩, sa, exC, tyC, kC⟩, by rw [e]; exact na, fI, _, F, by rw [e]; exact a, ti, F.binds hb⟩
end
end Nk

namespace Nk
open PySem L2 PySem.Spec PyProof.Rows
/-- its __init__ keeps a promise -/
structure Ek (P : Program) (w : World) (K : PySem.W.Frag) (mg : Str → Option Value) (base : Heap) (CX : CXT) (k : Nat) (x : Str) (ps : List Str) (sp : Sp) : Prop where
  ex : ∃ (fI : Addr) (fd : FuncData), PySem.W.findIn K (.ref (cls mg x)) "__init__" = some (some (.ref fI)) ∧ PySem.W.typeIn K (.ref fI) = some (.type "function") ∧ Binds K fd ps [] ∧ FnOk P w K mg base CX k fI fd ps sp
section
variable {X : Cx} {CX : CXT} {k : Nat} {ps : List Str} {sp : Sp} {x qual f : Str} {st : Stmt} {p pos : Pos} {e : Expr} {es : List Expr} {ta : TA} {ps0 : List Str}
theorem pmk_el (Y : Eo X.K X.mg x qual st ps0 f) (F : Ek X.prog X.w X.K X.mg X.base CX k x ps sp) (hr : Room (k + 1) X.A) (hx : Passes CX X (fun _ _ _ => False)) (hg : Gl X x) (ha : PA X (e :: es) ta)
    (hdb : (x == ("__debug__" : Str)) = false := by decide) (he : starEach (e :: es) X.env = (false, eval e X.env) :: starEach es X.env := by rfl) (hpl : (backTo pos (starEach es X.env)).any (·.1) = false := by rfl) :
    PMk X (.Call (.Name x p) (e :: es) [] pos) (tMkO (cls X.mg x) sp [] ta) := by
  obtain ⟨fI, fd, h1, h2, h3, h4⟩ := F.ex
  exact pmk_oexR Y.ox h1 h2 h4 hr h3 hx hg Y.g ha hdb he hpl
end
end Nk
/-! ### defs of a class called by its name, an __init__ with defaults and keywords -/
namespace Nk
open PySem L2 PySem.Spec PyProof.Rows
/-- C.m is a plain def of the class -/
structure Cf (K : PySem.W.Frag) (mg : Str → Option Value) (c m : Str) : Prop where
  ex : ∃ (mc : Value) (f : Addr), PySem.W.readsIn K (cls mg c) mc = true ∧ PySem.W.specialIn K (.ref (cls mg c)) "__getattribute__" = some (some (.builtin "type.__getattribute__")) ∧ PySem.W.findCls K (.ref (cls mg c)) mc m = some (.val (.ref f)) ∧ PySem.W.findIn K (.ref (cls mg c)) m = some (some (.ref f))
/-- an __init__ with defaults -/
structure Sd (K : PySem.W.Frag) (mg : Str → Option Value) (c qual : Str) (st : Stmt) (ps : List Str) (dvs : List V) : Prop where
  ex : ∃ (f : Addr) (fd : FuncData), FunD K "__init__" qual (defArgs st) (defBody st) (defScope st) dvs [] f fd ∧ Meth K (cls mg c) "__init__" f
/-- c stands below d -/
structure Sb (K : PySem.W.Frag) (mg : Str → Option Value) (c d : Str) : Prop where
  ha : PySem.W.findIn K (.ref (cls mg c)) "__class__" = some (some (.builtin "object.__class__"))
  hn : PySem.W.specialIn K (.builtin "object.__class__") "__get__" = some (some (.builtin "getset_descriptor.__get__"))
  htk : PySem.W.takesIn K (.builtin "object.__class__") = some true
  hm : PySem.W.mroIn K (cls mg c) (.type "object") = some true
  kit : PySem.W.kitOne K (.ref (cls mg c)) (.ref (cls mg d)) = some true
theorem isi_sub {K : PySem.W.Frag} {H : Hp} {mg : Str → Option Value} {c d : Str} {a dx : Addr} {fs : List (Str × V)} {Q : VK} (O : Oc K mg c) (N : Sb K mg c d) (h : H a = some (.ins (cls mg c) dx fs)) (q : Q (.bl true) H) : rIsi K [.ref a, .ref (cls mg d)] H Q :=
  ⟨_, _, _, _, true, rfl, .own _, .base (.ins h O.cl N.ha N.hn N.htk N.hm), N.kit, q⟩
section
variable {K : PySem.W.Frag} {h : Heap} {mg : Str → Option Value}
theorem sb_mk {c d : Str} {C D : Addr} (X : K.In h) (G : h.Ns mainGlobals mg) (aC : PySem.W.nsIn K mainGlobals c = some (some (.ref C))) (aD : PySem.W.nsIn K mainGlobals d = some (some (.ref D)))
    (ha : PySem.W.findIn K (.ref C) "__class__" = some (some (.builtin "object.__class__"))) (hn : PySem.W.specialIn K (.builtin "object.__class__") "__get__" = some (some (.builtin "getset_descriptor.__get__")))
    (htk : PySem.W.takesIn K (.builtin "object.__class__") = some true) (hm : PySem.W.mroIn K C (.type "object") = some true) (sub : PySem.W.mroIn K C (.ref D) = some true) (tD : PySem.W.typeIn K (.ref D) = some (.type "type")) (hD : PySem.W.mroIn K D (.type "object") = some true) : Sb K mg c d := by
  have e := cls_of (PySem.W.mg_of X G aC)
  have e2 := cls_of (PySem.W.mg_of X G aD)
  have hs : (PySem.W.clsIn K D).isSome = true := by
    unfold PySem.W.mroIn at hD
    obtain ⟨cd, a, _⟩ := Option.bind_eq_some_iff.mp hD
    rw [a]; rfl
  have kit : PySem.W.kitOne K (.ref C) (.ref D) = some true := by
    unfold PySem.W.kitOne
    split
    · rfl
    · show (if ((PySem.W.clsIn K D).isSome && PySem.W.typeIn K (.ref D) == some (.type "type")) = true then PySem.W.subIn K (.ref C) (.ref D) else none) = _
      rw [hs, tD, if_pos (by rfl)]
      exact sub
  exact ⟨by rw [e]; exact ha, hn, htk, by rw [e]; exact hm, by rw [e, e2]; exact kit⟩
theorem cf_mk {c m : Str} {C f : Addr} {mc : Value} (X : K.In h) (G : h.Ns mainGlobals mg) (aC : PySem.W.nsIn K mainGlobals c = some (some (.ref C))) (rd : PySem.W.readsIn K C mc = true)
    (ga : PySem.W.specialIn K (.ref C) "__getattribute__" = some (some (.builtin "type.__getattribute__"))) (fc : PySem.W.findCls K (.ref C) mc m = some (.val (.ref f))) (ai : PySem.W.findIn K (.ref C) m = some (some (.ref f))) : Cf K mg c m := by
  have e := cls_of (PySem.W.mg_of X G aC)
  exact ⟨mc, f, by rw [e]; exact rd, by rw [e]; exact ga, by rw [e]; exact fc, by rw [e]; exact ai⟩
theorem sd_mk {c qual : Str} {st : Stmt} {ps : List Str} {C f Tt : Addr} {i : Int} {tk : Tok} {oc c2 : Value} {od an d2 : Option Addr} {osl sl2 : Array (Option Value)} {kV doc pm cdv ct : Value} {n : Nat} (X : K.In h) (G : h.Ns mainGlobals mg)
    (aC : PySem.W.nsIn K mainGlobals c = some (some (.ref C))) (a : PySem.W.findIn K (.ref C) "__init__" = some (some (.ref f))) (ii : PySem.W.isFn K (.ref f) = true)
    (l : K.lookup f = some ⟨oc, od, .func (PySem.W.fnOf "__init__" qual (defArgs st) (defBody st) (defScope st) (.ref Tt) kV doc pm an cdv ct), osl⟩)
    (lT : K.lookup Tt = some ⟨c2, d2, .seq #[.int i tk] n, sl2⟩)
    (cc : PySem.W.codeIn K cdv qual = true) (k : PySem.W.keepIn K (.ref f) = true) : Sd K mg c qual st ps [.int i] := by
  have e := cls_of (PySem.W.mg_of X G aC)
  exact ⟨f, _, ⟨⟨oc, od, _, kV, doc, pm, an, cdv, ct, osl, rfl, l, cc, .inr ⟨by simp, Tt, _, [.int i tk], n, rfl, lT, rfl, .cons ⟨tk, rfl⟩ .nil⟩, .inl rfl⟩, k⟩, by rw [e]; exact ⟨a, ii, k⟩⟩
end
section
variable {X : Cx} {CX : CXT} {k : Nat} {ps : List Str} {sp : Sp} {c m qual : Str} {st : Stmt} {dvs : List V} {p pos apos : Pos} {o e : Expr} {es : List Expr} {ta : TE} {t tk : TA} {E : XK} {kws : List Keyword}
def tCFn (C : Addr) (sp : Sp) (E : XK) (ta : TE) (t : TA) : TE := fun σ H Q => ta σ H fun x H1 => x = .ref C ∧ t σ H1 fun vs H2 => sp (vs ++ []) H2 Q E
theorem pe_cfn {pl : Sem Bool} (he : PE X o ta) (R : Cf X.K X.mg c m) (M : Mo X.prog X.w X.K X.mg X.base CX k c m ps sp) (hr : Room k X.A) (hx : Passes CX X E) (ha : PA X (e :: es) t)
    (hst : starEach (e :: es) X.env = (false, eval e X.env) :: starEach es X.env := by rfl) (hpl : (backTo pos (starEach es X.env)).any (·.1) = false := by rfl)
    (ht : eval (.Call (.Attribute o m apos) (e :: es) [] pos) X.env = (do
      let ov ← eval o X.env
      standAt apos.atName
      let (g, first) ← holding [ov] (getMethod ov m pl)
      callWith pos g first (backTo pos (starEach (e :: es) X.env)) (backToKw pos (keywordEach [] X.env))) := by rfl) :
    PE X (.Call (.Attribute o m apos) (e :: es) [] pos) (tCFn (cls X.mg c) sp E ta t) := by
  obtain ⟨f, fd, h1, h2, h3⟩ := M.ex
  obtain ⟨mc, f', r1, r2, r3, r4⟩ := R.ex
  have e0 : f' = f := by
    have := h1.at_
    rw [r4] at this
    cases this
    rfl
  subst e0
  refine ⟨fun pins s σ H Q I h => PySem.W.methodCall_KW (pl := pl) (thn (he.run pins s σ H _ I h) fun u s1 ⟨x, H1, I1, rx, ex, q⟩ => ?_) ht⟩
  subst ex
  obtain rfl : u = Value.ref (cls X.mg c) := rx
  refine PySem.W.method_cls I1.kIn r2 (PySem.W.cls_value I1.kIn r1 r3 rfl ?_)
  exact PySem.W.callWith_K (first := []) (h₀ := X.base) I.ok.mod.kin h1.kp (thn (ha.run pos pins _ σ H1 _ (I1.tok _) q) fun us s2 ⟨vs, H2, I2, r, q2⟩ => ⟨I2.kIn, run_fn (us := us) (vs := vs) h3 hr h2 .nil hx I2 r q2⟩) hst hpl
/-- such an __init__ keeps a promise -/
structure Mi (P : Program) (w : World) (K : PySem.W.Frag) (mg : Str → Option Value) (base : Heap) (CX : CXT) (k : Nat) (c qual : Str) (st : Stmt) (ps : List Str) (dvs : List V) (sp : Sp) : Prop where
  ex : ∃ (f : Addr) (fd : FuncData), Meth K (cls mg c) "__init__" f ∧ FunD K "__init__" qual (defArgs st) (defBody st) (defScope st) dvs [] f fd ∧ FnOk P w K mg base CX k f fd ps sp
theorem vals_app {xs ys : List V} {us vs : List Value} (h : Vals xs us) (h2 : Vals ys vs) : Vals (xs ++ ys) (us ++ vs) := by
  induction h with
  | nil => exact h2
  | cons r _ ih => exact .cons r ih
theorem pe_newK {ks : List Str} {n : Nat} (O : Oc X.K X.mg c) (M : Mi X.prog X.w X.K X.mg X.base CX k c qual st ps dvs sp) (hd : dvs ≠ []) (hr : Room (k + 1) X.A) (hg : Gl X c) (hx : Passes CX X E)
    (hb : ∀ (T : Addr) (kV doc pm : Value) (an : Option Addr) (cdv ct : Value) (us its ws : List Value), us.length = n + 1 → its.length = dvs.length → ws.length = ks.length →
      ∃ k, bindArgs (PySem.W.fnOf "__init__" qual (defArgs st) (defBody st) (defScope st) (.ref T) kV doc pm an cdv ct) ⟨us, ks.zip ws⟩ = seqItems? (.ref T) >>= k ∧ k (some its.toArray) = pure (ps.zip (us ++ ws)))
    (ha : PA X (e :: es) t) (hkw : PK X kws tk) (hall : (backToKw pos (keywordEach kws X.env)).all (·.1.isSome) = true := by rfl) (hks : (backToKw pos (keywordEach kws X.env)).filterMap (·.1) = ks := by rfl)
    (hdb : (c == ("__debug__" : Str)) = false := by decide) (he : starEach (e :: es) X.env = (false, eval e X.env) :: starEach es X.env := by rfl)
    (hpl : ((backTo pos (starEach (e :: es) X.env)).any (·.1) || (backToKw pos (keywordEach kws X.env)).any (·.1.isNone)) = false := by rfl) :
    PE X (.Call (.Name c p) (e :: es) kws pos) (tMakeN (cls X.mg c) n ks.length sp (fun vs zs => vs ++ zs) E t tk) := by
  obtain ⟨f, fd, h1, F, h3⟩ := M.ex
  obtain ⟨its, B⟩ := F.kbindsD (n + 1) ks (fun us _ ws => us ++ ws) hd (fun a _ b => vals_app a b) hb
  exact pe_makeN ⟨O.makes, h1.at_, h1.fn, O.kp⟩ h3 hr hg O.g B hx ha hkw hall hks hdb he hpl
/-- a call with less than all, the defaults behind -/
theorem pe_newD {n j : Nat} (O : Oc X.K X.mg c) (M : Mi X.prog X.w X.K X.mg X.base CX k c qual st ps dvs sp) (hd : dvs ≠ []) (hn : n + (dvs.length - j) = ps.length) (hr : Room (k + 1) X.A) (hg : Gl X c) (hx : Passes CX X E)
    (hb : ∀ (T : Addr) (kV doc pm : Value) (an : Option Addr) (cdv ct : Value) (us its : List Value), us.length = n → its.length = dvs.length →
      ∃ k, bindArgs (PySem.W.fnOf "__init__" qual (defArgs st) (defBody st) (defScope st) (.ref T) kV doc pm an cdv ct) ⟨us, []⟩ = seqItems? (.ref T) >>= k ∧ k (some its.toArray) = pure (ps.zip (us ++ its.drop j)))
    (ha : PA X (e :: es) t) (hdb : (c == ("__debug__" : Str)) = false := by decide) (he : starEach (e :: es) X.env = (false, eval e X.env) :: starEach es X.env := by rfl) (hpl : (backTo pos (starEach es X.env)).any (·.1) = false := by rfl) :
    PE X (.Call (.Name c p) (e :: es) [] pos) (tMake (cls X.mg c) sp (dvs.drop j) E t) := by
  obtain ⟨f, fd, h1, F, h3⟩ := M.ex
  obtain ⟨ds, h4, B⟩ := F.binds1 n j hd hn hb
  exact pe_make ⟨O.makes, h1.at_, h1.fn, O.kp⟩ h3 hr hg O.g B h4 hx ha hdb he hpl
end
end Nk
/-! ### set(l) of a list of texts, sorted of it -/
namespace Nk
open PySem L2 PySem.Spec PyProof.Rows
def keyS (e : Int × Value) : Str := match e.2 with
  | .str x _ => x
  | _ => Str.empty
def GoodS (w : World) (e : Int × Value) : Prop := ∃ x tk, e.2 = Value.str x tk ∧ e.1 = hashStr w x
theorem textAt : ∀ {us : List Value} {xs : List Str}, StrsAre us xs → ∀ (i : Nat) (v : Value), us[i]? = some v → ∃ k t, xs[i]? = some k ∧ v = .str k t
  | _, _, .nil, i, v, z => by simp at z
  | _, _, .cons x t r, 0, v, z => ⟨x, t, rfl, (Option.some.inj z).symm⟩
  | _, _, .cons x t r, i + 1, v, z => textAt r i v z
/-- the set of texts at a, that can be walked -/
def SetS (w : World) (h : Heap) (a : Addr) (S : Str → Bool) (n : Nat) : Prop := ∃ o es ep t, h.get? a = some o ∧ o.ExactSet ∧ o.data = .set es ep t ∧ (∀ e ∈ es.toList, GoodS w e) ∧ (es.toList.map keyS).Nodup ∧
  (∀ k, S k = true ↔ k ∈ es.toList.map keyS) ∧ es.size < scanBound ∧ t.fits es.size = true ∧ es.size = n ∧ Ris t.place.toList ∧ (w.params.followText "set-order" = true ∨ t.led = true)
section
variable {P : Program} {w : World} {h h' : Heap} {a : Addr} {S : Str → Bool} {n : Nat} {A : Around} {E : Value → Shared → Prop} {s : Shared}
theorem SetS.at (R : SetS w h a S n) (k : ∀ o, h.get? a = some o → h'.get? a = some o) : SetS w h' a S n :=
  let ⟨o, es, ep, t, ho, r⟩ := R
  ⟨o, es, ep, t, k o ho, r⟩
theorem SetS.congr {S' : Str → Bool} (R : SetS w h a S n) (e : ∀ k, S' k = S k) : SetS w h a S' n := by
  obtain ⟨o, es, ep, t, h1, h2, h3, h4, h5, h6, r⟩ := R
  exact ⟨o, es, ep, t, h1, h2, h3, h4, h5, fun k => by rw [e]; exact h6 k, r⟩
theorem isS {x y : Str} {tk : Tok} : (strKind P w).is x (.str y tk) = true ↔ x = y := by
  constructor
  · intro z
    have z2 : Value.isStrOf x (.str y tk) = true := z
    obtain ⟨u, e⟩ := Value.isStrOf_shape z2
    cases e
    rfl
  · rintro rfl
    show Value.isStrOf x (.str x tk) = true
    simp [Value.isStrOf]
theorem elemsS {l : List (Int × Value)} (g : ∀ e ∈ l, GoodS w e) : ElemsOf (strKind P w) l := fun e he => by
  obtain ⟨x, tk, e1, e2⟩ := g e he
  rw [e1]
  exact ⟨⟨x, isS.mpr rfl, e2⟩, rfl⟩
theorem memS {l : List (Int × Value)} (g : ∀ e ∈ l, GoodS w e) (k : Str) : k ∈ l.map keyS ↔ ∃ e ∈ l, (strKind P w).is k e.2 = true := by
  rw [List.mem_map]
  constructor
  · rintro ⟨e, he, rfl⟩
    obtain ⟨x, tk, e1, _⟩ := g e he
    refine ⟨e, he, ?_⟩
    unfold keyS
    rw [e1]
    exact isS.mpr rfl
  · rintro ⟨e, he, z⟩
    obtain ⟨x, tk, e1, _⟩ := g e he
    rw [e1] at z
    refine ⟨e, he, ?_⟩
    unfold keyS
    rw [e1]
    exact (isS.mp z).symm
theorem storeS {o : Obj} {es es' : Array (Int × Value)} {ep : Nat} {t t' : SetTable} (ho : h.get? a = some o) (hd : o.data = .set es ep t) : (h.update a (Obj.putSet es' t')).get? a = some { o with data := .set es' (ep + 1) t' } := store_at ho hd
/-- the tail of an add -/
theorem tailS {g : Bool → Sem Unit} (hg : ∀ (b : Bool) (s₁ : Shared) (Q' : Unit → Shared → Prop), Q' () s₁ → wpAny (model P w) A (g b) Q' E s₁) {o : Obj} {es : Array (Int × Value)} {ep : Nat} {t : SetTable} (at_ : s.heap.get? a = some o) (ex : o.ExactSet) (dat : o.data = .set es ep t)
    {es1 : Array (Int × Value)} {t2 : SetTable} {S' : Str → Bool} (good : ∀ e ∈ es1.toList, GoodS w e) (once : (es1.toList.map keyS).Nodup) (mem : ∀ k, S' k = true ↔ k ∈ es1.toList.map keyS) (few : es1.size < scanBound) (fit : t2.fits es1.size = true) (ris : Ris t2.place.toList)
    (led : w.params.followText "set-order" = true ∨ t2.led = true) {wasDummy : Bool} {R : Option Bool → Shared → Prop} (fin : ∀ h', Heap.SameBut a s.heap h' → SetS w h' a S' es1.size → R (some true) { s with heap := h' }) :
    wpAny (model P w) A (do
      storeSet a es1 t2
      if (!wasDummy && t2.tooFull) = true then do
          g (relayAll t2 es1 (SetTable.grown es1.size)).2.2
          storeSet a (relayAll t2 es1 (SetTable.grown es1.size)).1 (relayAll t2 es1 (SetTable.grown es1.size)).2.1
          pure (some true)
        else pure (some true)) R E s := by
  have new1 := storeS (es' := es1) (t' := t2) at_ dat
  have but1 := Heap.SameBut.update s.heap a (Obj.putSet es1 t2)
  refine wpAny_bind (wpAny_storeSet_of at_ dat ?_ (fits_of_scanBound few))
  split
  · have z1 := relayAll_perm t2 es1 (SetTable.grown es1.size)
    have z2 := relayAll_fits t2 es1 (SetTable.grown es1.size)
    have z3 := relayAll_ris t2 es1 (SetTable.grown es1.size)
    have z4 := relayAll_led t2 es1 (SetTable.grown es1.size)
    generalize relayAll t2 es1 (SetTable.grown es1.size) = Z at z1 z2 z3 z4 ⊢
    obtain ⟨es2, t3, gave⟩ := Z
    dsimp only at z1 z2 z3 z4 ⊢
    have same : es2.size = es1.size := by
      have := z1.length_eq
      simpa using this
    refine wpAny_bind (hg _ _ _ ?_)
    refine wpAny_bind (wpAny_storeSet_of new1 rfl ?_ (fits_of_scanBound (by omega)))
    have new2 := storeS (es' := es2) (t' := t3) new1 rfl
    have zk := z1.map keyS
    exact wpAny_pure (fin _ (but1.trans (Heap.SameBut.update _ a _)) ⟨_, es2, _, t3, new2, ex, rfl, fun e he => good e (z1.mem_iff.mp he), zk.nodup_iff.mpr once, fun k => by rw [mem k, zk.mem_iff], by omega, z2, same, z3, led.imp id fun q => by rw [z4]; exact q⟩)
  · exact wpAny_pure (fin _ but1 ⟨_, es1, _, t2, new1, ex, rfl, good, once, mem, few, fit, rfl, ris, led⟩)
theorem addS {k : Str} {tk : Tok} {Q : Bool → Shared → Prop} (R : SetS w s.heap a S n) (room : n + 1 < scanBound)
    (fin : ∀ h', Heap.SameBut a s.heap h' → SetS w h' a (fun j => S j || decide (j = k)) (if S k = true then n else n + 1) → Q (!S k) { s with heap := h' }) : wpAny (model P w) A (setAddHashed a (.str k tk) ((strKind P w).hash k)) Q E s := by
  obtain ⟨o, es, ep, t, at_, ex, dat, good, once, mem, few, fit, num, ris, led⟩ := R
  have isk : (strKind P w).is k (.str k tk) = true := isS.mpr rfl
  have scn : (Value.str k tk).scannable = true := rfl
  have els : ElemsOf (strKind P w) es.toList := elemsS good
  unfold setAddHashed setAddHashedIn
  refine wpAny_holding (wpAny_bind (wpAny_setState_of at_ dat fit ?_))
  dsimp only
  rw [byScan_of scn few els]
  simp only [↓reduceIte]
  unfold setAddByScan
  refine wpAny_bind (wpAny_bind (wpAny_rule ?_))
  refine wpAny_bind (wpAny_setScan_of isk at_ dat fit els ?_)
  cases found : List.findIdx? (fun e => (strKind P w).is k e.2) es.toList with
  | some j =>
    dsimp only
    obtain ⟨lt, hit, _⟩ := List.findIdx?_eq_some_iff_getElem.mp found
    have old : S k = true := (mem k).2 ((memS (P := P) good k).2 ⟨_, List.getElem_mem lt, hit⟩)
    have q := fin s.heap (Heap.SameBut.refl a s.heap) ⟨o, es, ep, t, at_, ex, dat, good, once, fun i => by
      rw [Bool.or_eq_true, decide_eq_true_eq, ← mem i]
      exact ⟨fun z => z.elim id fun e => by rw [e]; exact old, .inl⟩, few, fit, by rw [if_pos old]; exact num, ris, led⟩
    rw [old] at q
    exact wpAny_pure (wpAny_pure q)
  | none =>
    dsimp only
    have new : k ∉ es.toList.map keyS := fun z => by
      obtain ⟨e, he, hit⟩ := (memS (P := P) good k).1 z
      rw [List.findIdx?_eq_none_iff.mp found e he] at hit
      cases hit
    have fresh : S k = false := by
      cases q : S k with
      | false => rfl
      | true => exact absurd ((mem k).1 q) new
    have gw : ∀ (b : Bool) {s₁ : Shared} {Q' : Unit → Shared → Prop}, Q' () s₁ → wpAny (model P w) A (match b with | true => rule "set.scan.the-table-gave-way" | false => pure ()) Q' E s₁ := fun b s₁ Q' q => by
      cases b
      · exact wpAny_pure q
      · exact wpAny_rule q
    have z1 := layNew_perm t es ((strKind P w).hash k) (.str k tk)
    have z2 := layNew_fits t es ((strKind P w).hash k) (.str k tk)
    have z3 := layNew_ris t es ((strKind P w).hash k) (.str k tk) ris
    have z4 := layNew_led t es ((strKind P w).hash k) (.str k tk)
    generalize layNew t es ((strKind P w).hash k) (.str k tk) = Z at z1 z2 z3 z4 ⊢
    obtain ⟨es1, t1, wasDummy, gave⟩ := Z
    dsimp only at z1 z2 z3 z4 ⊢
    rw [Array.toList_push] at z1
    have zc : es1.toList.Perm ((hashStr w k, Value.str k tk) :: es.toList) := z1.trans (List.perm_append_singleton _ _)
    have zk : (es1.toList.map keyS).Perm (k :: es.toList.map keyS) := zc.map keyS
    have good1 : ∀ e ∈ es1.toList, GoodS w e := fun e he => by
      rcases List.mem_cons.mp (zc.mem_iff.mp he) with z | z
      · subst z
        exact ⟨k, tk, rfl, rfl⟩
      · exact good e z
    have once1 : (es1.toList.map keyS).Nodup := zk.nodup_iff.mpr (List.nodup_cons.mpr ⟨new, once⟩)
    have mem1 : ∀ i, (S i || decide (i = k)) = true ↔ i ∈ es1.toList.map keyS := fun i => by
      rw [Bool.or_eq_true, decide_eq_true_eq, mem i, zk.mem_iff, List.mem_cons, or_comm]
    have size1 : es1.size = n + 1 := by
      have := zc.length_eq
      rw [Array.length_toList, List.length_cons, Array.length_toList, num] at this
      exact this
    have few1 : es1.size < scanBound := by omega
    have led1 : w.params.followText "set-order" = true ∨ t1.led = true := led.imp id fun z => by rw [z4]; exact z
    have last : ∀ h', Heap.SameBut a s.heap h' → SetS w h' a (fun j => S j || decide (j = k)) es1.size → Q true { s with heap := h' } := fun h' sb r => by
      have q := fin h' sb
      rw [fresh, if_neg Bool.false_ne_true, ← size1] at q
      exact q r
    refine wpAny_bind (gw _ ?_)
    split
    · refine wpAny_bind ?_
      rw [hashByValue_scannable 8 scn]
      refine wpAny_pure (tailS ?_ at_ ex dat good1 once1 mem1 few1 ?_ ?_ ?_ ?_)
      · intro b s₁ Q' q
        cases b
        · exact wpAny_pure q
        · exact wpAny_rule q
      · first | (split <;> first | exact z2 | exact SetTable.fits_plain_off z2) | exact z2
      · first | (split <;> exact z3) | exact z3
      · first | (split <;> exact led1) | exact led1
      · intro h' sb r
        dsimp only
        exact wpAny_pure (last h' sb r)
    · refine wpAny_bind (wpAny_pure ?_)
      simp only [↓reduceIte]
      refine tailS ?_ at_ ex dat good1 once1 mem1 few1 z2 z3 led1 ?_
      · intro b s₁ Q' q
        cases b
        · exact wpAny_pure q
        · exact wpAny_rule q
      · intro h' sb r
        dsimp only
        exact wpAny_pure (last h' sb r)
theorem setS_new {xs : List Str} (at_ : h.get? a = some { cls := .type "set", dict := none, data := .set #[] 0 (.fresh 0 0 (!w.params.followText "set-order")) }) : SetS w h a (fun j => decide (j ∈ xs.take 0)) 0 := by
  refine ⟨_, #[], 0, _, at_, ⟨rfl, rfl, rfl⟩, rfl, fun e he => by simp at he, by simp, fun k => by simp, by decide, by rfl, rfl, List.Pairwise.nil, ?_⟩
  show _ ∨ (!w.params.followText "set-order") = true
  cases w.params.followText "set-order" with
  | true => exact .inl rfl
  | false => exact .inr rfl
theorem loopS {I : Addr} {fp wr : List Addr} {G : Array GenState → Array GenState → Prop} {n : Nat} {Pv : Nat → Value → Prop} {St : Nat → Shared → Prop} {R : Result → Shared → Prop} (W : WalksS P w A.in1 I fp wr G n Pv St) (S : Addr) (off : S ∉ fp) (xs : List Str) (len : n = xs.length)
    (few : xs.length + 1 < scanBound) (val : ∀ i v, Pv i v → ∃ k t, xs[i]? = some k ∧ v = .str k t) : ∀ (k i : Nat) (s : Shared), n - i = k → i ≤ n → St i s → (∃ c, c ≤ i ∧ SetS w s.heap S (fun j => decide (j ∈ xs.take i)) c) →
      (∀ s' c, Moved (S :: wr) G s s' → c ≤ n → SetS w s'.heap S (fun j => decide (j ∈ xs)) c → R (.ok (.ret .none)) s') → codeAny (model P w) A (.builtin "set.update.loop" ⟨[.ref S, .ref I], []⟩) R s := by
  have offw : S ∉ wr := fun z => off (W.sub _ z)
  have wider : ∀ b ∈ wr, b ∈ S :: wr := fun b z => List.mem_cons_of_mem _ z
  intro k
  induction k with
  | zero =>
    intro i s ek le st ⟨c, hc, now⟩ fin
    obtain rfl : i = n := by omega
    refine codeAny_builtin F.entry_set_update_loop ?_
    rw [Around.under_plainId F.plain_set_update_loop _]
    refine wpAny_bind (W.done s _ _ st fun s' mv => wpAny_pure (fin s' c (mv.mono wider) hc ?_))
    rw [List.take_of_length_le (by omega)] at now
    exact now.at fun o e => mv.heap S o offw e
  | succ k ih =>
    intro i s ek le st ⟨c, hc, now⟩ fin
    have lt : i < n := by omega
    refine codeAny_builtin F.entry_set_update_loop ?_
    rw [Around.under_plainId F.plain_set_update_loop _]
    refine wpAny_bind (W.item i s _ _ lt st fun v s' pv st' mv => ?_)
    obtain ⟨z, t, hz, rfl⟩ := val i v pv
    have here : SetS w s'.heap S (fun j => decide (j ∈ xs.take i)) c := now.at fun o e => mv.heap S o offw e
    show wpAny _ A.in1 (holding [Value.str z t] (setAdd S (.str z t)) >>= _) _ _ s'
    refine wpAny_bind (wpAny_holding ?_)
    unfold setAdd
    refine wpAny_holding (wpAny_bind ((PySem.strKind P w).pyHash (k := z) (isS.mpr rfl) ?_))
    refine addS (s := { s' with toks := s'.toks + 1 }) here (by omega) fun h' sb after => ?_
    have after2 : SetS w h' S (fun j => decide (j ∈ xs.take (i + 1))) (if decide (z ∈ xs.take i) = true then c else c + 1) := after.congr fun j => by
      rw [List.take_add_one, hz]
      simp [List.mem_append]
    have le2 : (if decide (z ∈ xs.take i) = true then c else c + 1) ≤ i + 1 := by split <;> omega
    refine wpAny_pure ⟨plainId_quiet F.plain_set_update_loop _, ih (i + 1) _ (by omega) lt (W.frame _ s' _ _ st' (Nat.le_succ _) fun b hb o e => ?_) ⟨_, le2, after2⟩ fun s2 c2 mv2 hc2 done => ?_⟩
    · have nb : b ≠ S := fun q => off (q ▸ hb)
      rw [sb.2 b nb]
      exact e
    · refine fin s2 c2 (Moved.trans W.gtrans ((mv.mono wider).then_heap (Nat.le_succ _) fun b o hb e => ?_) mv2) hc2 done
      have nb : b ≠ S := fun q => hb (q ▸ List.mem_cons_self)
      rw [sb.2 b nb]
      exact e
end
section
variable {prog : Program} {w : World} {A : Around} {E : Value → Shared → Prop} {s : Shared}
set_option maxRecDepth 100000 in
set_option maxHeartbeats 3200000 in
theorem set_of_texts {l : Addr} {xs : Array Value} (ns : List Str) {Q : Value → Shared → Prop} (calm : A.handled = none) (isl : s.heap.IsList l xs) (hin : StrsAre xs.toList ns) (few : ns.length + 1 < scanBound)
    (fin : ∀ (g : Heap) (tk c : Nat), SetS w g s.heap.objs.size (fun j => decide (j ∈ ns)) c → c ≤ ns.length → (∀ b o, s.heap.get? b = some o → g.get? b = some o) → Q (.ref s.heap.objs.size) { s with heap := g, toks := tk }) :
    wpAny (model prog w) A (call (.type "set") [.ref l]) Q E s := by
  have size : xs.size = ns.length := by
    have := hin.length
    rwa [Array.length_toList] at this
  obtain ⟨m1, m2, hmro⟩ := F.called_set.mro
  have hm0 := F.called_set.made
  have hm1 := F.called_set.sub
  refine wpAny_call (codeAny_of_tree ?_)
  show wpAny _ _ (callAny (.type "set") _) _ _ _
  refine wpAny_pure ⟨Code.quiet_builtin _ (by decide +kernel), codeAny_builtin F.entry_type_call ?_⟩
  rw [Around.under_plain (weight_type_call_type "set" [.ref l] []) rfl]
  have hm2 := F.called_set.notType
  have hm3 := F.called_set.canCreate
  have hm4 := F.typeCall_set_1 (.ref l)
  repeat (any_goals (first | assumption | wp_step))
  refine codeAny_mono (code_set_led1 (.ref l) (E := E) (Q₁ := fun v s1 => v = .ref s.heap.objs.size ∧ s1 = { s with heap := s.heap.push (eSet w) }) ⟨rfl, rfl⟩) fun r s1 hr => ?_
  cases r with
  | error _ => exact hr
  | ok fl =>
    cases fl with
    | ret v =>
      obtain ⟨rfl, rfl⟩ := hr
      have at0 : (s.heap.push (eSet w)).get? s.heap.objs.size = some (eSet w) := Heap.get?_push_size _ rfl
      have ty0 : Shared.TypeIs { s with heap := s.heap.push (eSet w) } (.ref s.heap.objs.size) "set" := ⟨_, at0, rfl⟩
      have hi1 := F.called_set.init.lookup
      have hi2 := F.called_set.init.bind (.ref s.heap.objs.size)
      repeat (any_goals (first | assumption | wp_step))
      refine codeAny_mono (codeAny_call_builtin (R := wants (fun r s2 => r = .none ∧ ∃ g tk c, s2 = { s with heap := g, toks := tk } ∧ SetS w g s.heap.objs.size (fun j => decide (j ∈ ns)) c ∧ c ≤ ns.length ∧
          (∀ b o, s.heap.get? b = some o → g.get? b = some o)) E) F.called_set.init.plain F.entry_set_init (check_set_init_1 ty0 ?_)) fun r2 s2 hr2 => ?_
      · obtain ⟨ol, hol, hcl, nl, hdl⟩ := isl
        obtain ⟨k1, k2, k3, k4⟩ := ol
        simp only at hcl hdl
        subst hcl hdl
        have hol1 : (s.heap.push (eSet w)).get? l = some { cls := .type "list", dict := k2, data := .seq xs nl, slots := k4 } := Heap.get?_push_of_some _ hol
        have sub1 := F.sub_list_set
        have sub2 := F.sub_list_frozenset
        have nodict : (Value.type "list" == Value.type "dict") = false := by decide
        have isl1 : (s.heap.push (eSet w)).IsList l xs := ⟨_, hol1, rfl, nl, rfl⟩
        unfold Builtin.«set.__init__» noKeywords Builtin.Frozenset.updateFrom
        generalize hPI : pyIter = PI
        wp_walk
        subst hPI
        refine wpAny_pyIter_list isl1 ?_
        refine wpAny_bind (wpAny_runValue ?_)
        have lt0 : l < s.heap.objs.size := Heap.lt_size hol
        have calm3 : A.in1.in1.in1.handled = none := by simp [calm]
        have ne1 : l ≠ (s.heap.push (eSet w)).objs.size := by
          rw [Heap.size_push]
          exact Nat.ne_of_lt (Nat.lt_succ_of_lt lt0)
        have out1 : s.heap.objs.size ∉ [(s.heap.push (eSet w)).objs.size, l] := by
          rw [Heap.size_push]
          simp only [List.mem_cons, List.mem_singleton, List.not_mem_nil, or_false, not_or]
          exact ⟨Nat.ne_of_lt (Nat.lt_succ_self _), Nat.ne_of_gt lt0⟩
        have vals : ∀ (i : Nat) (v : Value), xs[i]? = some v → ∃ k t, ns[i]? = some k ∧ v = .str k t := fun i v hv => by
          have hi : i < ns.length := by
            rw [← size]
            exact (Array.getElem?_eq_some_iff.mp hv).1
          exact textAt hin i v (by rw [Array.getElem?_toList]; exact hv)
        refine loopS ((Walks.list calm3 _ l ne1 xs).toS) s.heap.objs.size out1 ns size few vals (xs.size - 0) 0 _ (by omega) (Nat.zero_le _) ⟨⟨_, Heap.get?_push_size _ rfl, rfl, rfl⟩, (isl1.push _)⟩ ?one ?two
        case one =>
          have at2 : ((s.heap.push (eSet w)).push { cls := .type "list_iterator", data := .fields #[.ref l, .int 0 0] }).get? s.heap.objs.size = some (eSet w) := Heap.get?_push_of_some _ at0
          exact ⟨0, Nat.le_refl 0, setS_new at2⟩
        case two =>
          intro s3 c3 mv hc3 R3
          obtain ⟨h3, g3, d3, t3, o3⟩ := s3
          have eg : g3 = s.gens := mv.gens
          have ed : d3 = s.drawn := mv.drawn
          have eo : o3 = s.os := mv.os
          subst eg ed eo
          show wpAny _ _ _ _ _ _
          refine wpAny_pure ?_
          show wpAny _ _ (ret Value.none) _ _ _
          rw [size] at hc3
          refine wpAny_pure ⟨rfl, h3, t3, c3, rfl, R3, hc3, fun b o e => ?_⟩
          have lb : b < s.heap.objs.size := Heap.lt_size e
          have nb1 : b ≠ s.heap.objs.size := Nat.ne_of_lt lb
          have nb2 : b ≠ (s.heap.push (eSet w)).objs.size := by
            rw [Heap.size_push]
            exact Nat.ne_of_lt (Nat.lt_succ_of_lt lb)
          refine mv.heap b o ?_ (Heap.get?_push_of_some _ (Heap.get?_push_of_some _ e))
          simp only [List.mem_cons, List.mem_singleton, List.not_mem_nil, or_false, not_or]
          exact ⟨nb1, nb2⟩
      · cases r2 with
        | error _ => exact hr2
        | ok fl2 =>
          cases fl2 with
          | ret _ =>
            obtain ⟨rfl, g, tk, c, rfl, R2, hc2, k2⟩ := hr2
            repeat (any_goals (first | assumption | wp_step))
            exact fin _ _ _ R2 hc2 k2
          | _ => exact hr2.elim
    | _ => exact hr.elim
end
end Nk
/-! ### sets of texts as values, texts sorted, dicts compared, own == and != -/
namespace Nk
open PySem L2 PySem.Spec PyProof.Rows
theorem sortedS_pw : ∀ {l : List Str}, sortedS l = true → l.Pairwise fun a b => ¬ sl b a
  | [], _ => .nil
  | [x], _ => by simp
  | x :: y :: r, h => by
    have h' : (!ltCps y.cps.toList x.cps.toList && risingS y r) = true := h
    rw [Bool.and_eq_true] at h'
    obtain ⟨h1, h2⟩ := h'
    have ih := sortedS_pw (l := y :: r) h2
    have hxy : ¬ sl y x := by rw [ltCps_eq] at h1; simpa [sl] using h1
    refine List.pairwise_cons.mpr ⟨fun z hz => ?_, ih⟩
    rcases List.mem_cons.mp hz with e | m
    · subst e; exact hxy
    · exact sl_ntrans hxy ((List.pairwise_cons.mp ih).1 z m)
theorem pw_strict {l : List Str} (h : l.Pairwise fun a b => ¬ sl b a) (nd : l.Nodup) : l.Pairwise sl := by
  refine List.Pairwise.imp (fun {a b} h => ?_) (h.and nd)
  obtain ⟨h1, h2⟩ := h
  by_cases c : sl a b
  · exact c
  · exact absurd (sl_tri c h1) h2
theorem strs_each : ∀ {us : List Value} {ks : List Str}, us.length = ks.length → (∀ (j : Nat) (v : Value), us[j]? = some v → ∃ (x : Str) (t : Tok), ks[j]? = some x ∧ v = Value.str x t) → StrsAre us ks
  | [], [], _, _ => .nil
  | [], _ :: _, hl, _ => by simp at hl
  | _ :: _, [], hl, _ => by simp at hl
  | u :: us, k :: ks, hl, h => by
    obtain ⟨x, t, e1, e2⟩ := h 0 u rfl
    obtain rfl : k = x := Option.some.inj e1
    subst e2
    refine .cons _ _ (strs_each (by simpa using hl) fun j v e => ?_)
    obtain ⟨x, t, a, b⟩ := h (j + 1) v (by simpa using e)
    exact ⟨x, t, by simpa using a, b⟩
def SetOS (w : World) (a : Addr) (S : Str → Bool) (n : Nat) : HO := .ext fun h => SetS w h a S n
theorem setOS_new {w : World} {P : Program} {H : Hp} {h : Heap} {a : Addr} {S : Str → Bool} {n : Nat} (R : SetS w h a S n) : ObjOk P w H h a (SetOS w a S n) := by
  obtain ⟨o, es, ep, t, ho, r⟩ := R
  exact ⟨⟨o, es, ep, t, ho, r⟩, ⟨o, ho⟩, fun h1 h2 p k => SetS.at p k⟩
section
variable {X : Cx}
def rSetLS (K : PySem.W.Frag) (w : World) : List V → Hp → VK → Prop := fun vs H Q => ∃ (a : Addr) (ns : List Str), vs = [V.ref a] ∧ SqL K H a (ns.map V.str) ∧ ns.length ≤ 4000 ∧
  ∀ (p : Addr) (c : Nat), H p = none → c ≤ ns.length → Q (.ref p) (upd H p (SetOS w p (fun j => decide (j ∈ ns)) c))
theorem cr_setLS (hc : X.calm = true) : CallR X (.type "set") (rSetLS X.K X.w) := by
  intro pins s σ H vs us Q I r h
  obtain ⟨a, ns, rfl, hs, hz, q⟩ := h
  obtain ⟨its, rv, hl, _⟩ := I.list hs
  rw [Vals.ref1 r]
  refine set_of_texts ns (I.ok.hd hc) hl.isList rv.strs (by unfold scanBound; omega) fun g tk c R hc k => ?_
  exact ⟨.ref _, _, I.laid (t' := tk) (o := SetOS X.w s.heap.objs.size (fun j => decide (j ∈ ns)) c) k (Nat.le_refl _) (setOS_new R), rfl, q _ c (I.hok.fresh (Nat.le_refl _)) hc⟩
/-- sorted of a set of texts -/
def rSortedSS (w : World) : List V → Hp → VK → Prop := fun vs H Q => ∃ (a : Addr) (S : Str → Bool) (n : Nat), vs = [V.ref a] ∧ H a = some (SetOS w a S n) ∧ n ≤ 10000 ∧
  ∀ (ns : List Str) (p : Addr), ns.Pairwise sl → (∀ k : Str, k ∈ ns ↔ S k = true) → H p = none → Q (.ref p) (upd H p (.lst (ns.map V.str)))
theorem cr_sortedSS (hcalm : X.calm = true) : CallR X (.builtin "sorted") (rSortedSS X.w) := by
  intro pins s σ H vs us Q I r h
  obtain ⟨a, S, n, rfl, ha, hn0, q⟩ := h
  rw [Vals.ref1 r]
  obtain ⟨o, es, ep, t, ho, hex, hd, g, nd, hm, hb, hf, hn, hr, hl⟩ := show SetS X.w s.heap a S n from (I.hok a _ ha).1
  refine Calls.call_function_entry PyProof.Rows.kind_sorted PyProof.Rows.plain_sorted PyProof.Rows.entry_sorted (PyProof.Rows.args_sorted1 _) ?_
  unfold Builtin.«sorted»
  refine wpAny_bind (m := checkCount "sorted" 1 1 _) (wpAny_pure ?_)
  refine wpAny_bind (collect_set (A := X.A.in1) (I.ok.hd hcalm) ⟨o, ho, hex.1, hd⟩ hf hb hr hl fun s1 us k1 hz g1 o1 pm => ?_)
  have hul : us.length = n := by
    rw [pm.length_eq, List.length_map, Array.length_toList]
    exact hn
  have hS : StrsAre us (us.map strOf) := strsAre_map us fun v hv => by
    obtain ⟨e, he, q⟩ := List.mem_map.mp (pm.mem_iff.mp hv)
    obtain ⟨k, tk, h1, _⟩ := g e he
    exact ⟨k, tk, by rw [← q]; exact h1⟩
  have pk : (us.map strOf).Perm (es.toList.map keyS) := by
    have z := pm.map strOf
    rw [List.map_map] at z
    refine z.trans (List.Perm.of_eq (List.map_congr_left fun e he => ?_))
    obtain ⟨k, tk, h1, _⟩ := g e he
    simp only [Function.comp, keyS, h1]
    rfl
  have hsz : us.length ≤ sizeLine := by
    rw [hul]
    exact sz (by omega)
  refine wpAny_bind (wpAny_newList ?_ hsz)
  have hoL : (s1.heap.push (seqObj "list" us.toArray 0)).get? s1.heap.objs.size = some (seqObj "list" us.toArray 0) := Heap.get?_push_size _ rfl
  refine wpAny_bind (wpAny_holding (wpAny_call_entry PyProof.Rows.slot_list_sort ⟨_, hoL, rfl⟩ PyProof.Rows.entry_list_sort
    (list_sort_treeKAny strKind_oneLt hoL hS.keysOf (fun v₁ v₂ rest e => keyKind_strs (by rw [← e]; exact hS)) hsz fun st' hp hs => ⟨_, rfl, ?_⟩) (PyProof.Rows.args_list_sort _)))
  obtain ⟨ss, c1, c2, c3⟩ := sorted_out_str hS hp hs
  generalize hout : (arrOf st').map (·.2) = out at c1 ⊢
  obtain ⟨e', he'⟩ := PyProof.Rows.sortedHeap_at (vs := us) (out := out) hoL
  have pn : ss.Perm (es.toList.map keyS) := c2.trans pk
  have hlen : (ss.map V.str).length ≤ sizeLine := by
    rw [List.length_map, c2.length_eq, List.length_map]
    exact hsz
  have hnone : H s1.heap.objs.size = none := I.hok.fresh hz
  have old : ∀ b u, s.heap.get? b = some u → (PyProof.Rows.sortedHeap (s1.heap.push (seqObj "list" us.toArray 0)) s1.heap.objs.size us out).get? b = some u := fun b u e => by
    have z := k1 b u e
    have lt := Heap.lt_size z
    rw [PyProof.Rows.sortedHeap_old (Nat.ne_of_lt lt) (by rw [size_push']; exact Nat.lt_succ_of_lt lt)]
    exact Heap.get?_push_of_some _ z
  have J : Inv X pins σ (upd H s1.heap.objs.size (.lst (ss.map V.str))) { s with heap := PyProof.Rows.sortedHeap (s1.heap.push (seqObj "list" us.toArray 0)) s1.heap.objs.size us out, gens := s1.gens, drawn := s1.drawn, toks := s1.toks } :=
    I.call (ch := []) (Un.laid old hz hnone) (I.hok.laid old hz ⟨hlen, out.toList, e', vals_of_strs c1, he'⟩) (by rw [g1]; exact I.bare) (fun _ z => nomatch z)
  refine wpAny_pure ⟨_, rfl, .ref s1.heap.objs.size, _, ?_, rfl, q _ _ (pw_strict (sortedS_pw c3) (pn.nodup_iff.mpr nd)) (fun k => by rw [pn.mem_iff, ← hm k]) hnone⟩
  have eo : s1.os = s.os := o1
  rw [← eo] at J
  exact J
/-- sorted(d.keys()), texts -/
def rSortedKS : List V → Hp → VK → Prop := fun xs H Q => ∃ (v d : Addr) (kvs : List (Key × V)) (ks : List Str), xs = [.ref v] ∧ H v = some (KeysO v d) ∧ H d = some (.dK kvs) ∧ kvs.map (·.1) = ks.map Sum.inr ∧ ks.Nodup ∧
  ∀ (ys : List Str) (p : Addr), ys.Pairwise sl → (∀ k, k ∈ ys ↔ k ∈ ks) → H p = none → Q (.ref p) (upd H p (.lst (ys.map V.str)))
theorem cr_sortedKS (hcalm : X.calm = true) : CallR X (.builtin "sorted") rSortedKS := by
  intro pins s σ H xs us Q I r q
  obtain ⟨v, a, kvs, ks, ex, hv, hd, hks, hnd, q⟩ := q
  subst ex
  obtain ⟨u, eu, rx⟩ := vals1 r
  subst eu
  cases rx
  have hview : PySem.W.KdlKeysView s.heap v a := (I.hok v _ hv).1
  obtain ⟨z, lo, vs, rel, dd⟩ := I.hok a _ hd
  obtain ⟨ep, hat⟩ := dd.dictAt
  have hkeys : vs.map (·.1) = ks.map Sum.inr := rel.keys.symm.trans hks
  have hl : vs.length = ks.length := by
    have e := congrArg List.length hkeys
    rw [List.length_map, List.length_map] at e
    exact e
  have hl2 : kvs.length = vs.length := Paired.length rel
  have h16 : vs.length ≤ sizeLine := by omega
  refine Calls.call_function_entry PyProof.Rows.kind_sorted PyProof.Rows.plain_sorted PyProof.Rows.entry_sorted (PyProof.Rows.args_sorted1 _) ?_
  unfold Builtin.«sorted»
  refine wpAny_bind (m := checkCount "sorted" 1 1 _) (wpAny_pure ?_)
  refine wpAny_bind (PySem.W.kdu_collect (A := X.A.in1) (PySem.W.kdl_keys (knd := mixKind X.prog X.w) (r := v) (d := a) (kvs := vs) (ep := ep)) (I.ok.hd hcalm) ⟨hview, hat⟩ h16 fun h' tk acc hk hacc => ?_)
  have hal : acc.toList.length = ks.length := by rw [Array.length_toList, hacc.1, hl]
  have hS : StrsAre acc.toList ks := strs_each hal fun j v e => by
    obtain ⟨k, x, e1, e2⟩ := hacc.2 j v (by rw [← Array.getElem?_toList]; exact e)
    have e3 : (vs.map (·.1))[j]? = some k := by rw [List.getElem?_map, e1]; rfl
    rw [hkeys, List.getElem?_map] at e3
    cases e4 : ks[j]? with
    | none => rw [e4] at e3; cases e3
    | some y =>
      rw [e4] at e3
      have e5 : Sum.inr y = k := Option.some.inj e3
      subst e5
      rcases keyIs_shape (show keyIs (Sum.inr y) v = true from e2) with ⟨i, t, ek, ev⟩ | ⟨z, t, ek, ev⟩
      · cases ek
      · cases ek
        exact ⟨y, t, rfl, ev⟩
  have hsz : acc.toList.length ≤ sizeLine := by rw [hal]; omega
  have I1 : Inv X pins σ H { s with heap := h', toks := tk } := I.kept hk
  refine wpAny_bind (wpAny_newList ?_ hsz)
  have hoL : (h'.push (seqObj "list" acc.toList.toArray 0)).get? h'.objs.size = some (seqObj "list" acc.toList.toArray 0) := Heap.get?_push_size _ rfl
  show wpAny _ _ _ _ _ { s with heap := h'.push (seqObj "list" acc.toList.toArray 0), toks := tk }
  refine wpAny_bind (wpAny_holding (wpAny_call_entry PyProof.Rows.slot_list_sort ⟨_, hoL, rfl⟩ PyProof.Rows.entry_list_sort
    (list_sort_treeKAny (s := { s with heap := h'.push (seqObj "list" acc.toList.toArray 0), toks := tk }) strKind_oneLt hoL hS.keysOf (fun v₁ v₂ rest e => keyKind_strs (by rw [← e]; exact hS)) hsz fun st' hp hs => ⟨_, rfl, ?_⟩) (PyProof.Rows.args_list_sort _)))
  obtain ⟨ss, k1, k2, k3⟩ := sorted_out_str hS hp hs
  generalize hout : (arrOf st').map (·.2) = out at k1 ⊢
  obtain ⟨e', he'⟩ := PyProof.Rows.sortedHeap_at (vs := acc.toList) (out := out) hoL
  have hlen : (ss.map V.str).length ≤ sizeLine := by
    rw [List.length_map, k2.length_eq]
    omega
  refine wpAny_pure ⟨_, rfl, .ref h'.objs.size, upd H h'.objs.size (.lst (ss.map V.str)), I1.laid (t' := tk) (fun b u e => ?_) (Nat.le_refl _)
    (show ObjOk X.prog X.w _ _ _ (.lst (ss.map V.str)) from ⟨hlen, out.toList, e', vals_of_strs k1, he'⟩), rfl, q _ _ (pw_strict (sortedS_pw k3) (k2.nodup_iff.mpr hnd)) (fun k => k2.mem_iff) (I1.hok.fresh (Nat.le_refl _))⟩
  have hb : b < h'.objs.size := Heap.lt_size e
  rw [PyProof.Rows.sortedHeap_old (Nat.ne_of_lt hb) (by rw [size_push']; exact Nat.lt_succ_of_lt hb)]
  exact Heap.get?_push_of_some _ e
/-- list(d.keys()) -/
def rListKeys : List V → Hp → VK → Prop := fun xs H Q => ∃ (v a : Addr) (kvs : List (Key × V)), xs = [.ref v] ∧ H v = some (KeysO v a) ∧ H a = some (.dK kvs) ∧ ∀ p, H p = none → Q (.ref p) (upd H p (.lst (kvs.map fun kv => kV kv.1)))
theorem call_listKeys (hcalm : X.calm = true) : CallR X (.type "list") rListKeys := by
  intro pins s σ H xs us Q I r q
  obtain ⟨v, a, kvs, rfl, hv, hd, q⟩ := q
  rw [Vals.ref1 r]
  have hview : PySem.W.KdlKeysView s.heap v a := (I.hok v _ hv).1
  obtain ⟨z, lo, vs, rel, dd⟩ := I.hok a _ hd
  obtain ⟨ep, hat⟩ := dd.dictAt
  have ek : (kvs.map fun kv => kV kv.1) = vs.map fun p => kV p.1 := by
    have e := congrArg (List.map kV) rel.keys
    rw [List.map_map, List.map_map] at e
    exact e
  refine PySem.W.kdl_call (PySem.W.kdl_keys (knd := mixKind X.prog X.w) (r := v) (d := a) (kvs := vs) (ep := ep)) (I.ok.hd hcalm) ⟨hview, hat⟩ (by rw [← rel.length]; exact z) fun h' tk acc c' hk hD hacc => ?_
  have hv : Vals (vs.map fun p => kV p.1) acc.toList := keys_at (by rw [Array.length_toList]; exact hacc.1) fun j v e => hacc.2 j v (by rw [← Array.getElem?_toList]; exact e)
  exact ⟨.ref s.heap.objs.size, upd H s.heap.objs.size (.lst (kvs.map fun kv => kV kv.1)), I.laid (t' := tk) hk (Nat.le_refl _)
    (show ObjOk X.prog X.w _ _ _ (.lst (kvs.map fun kv => kV kv.1)) from ⟨by rw [List.length_map]; exact z, acc.toList, c', by rw [ek]; exact hv, by rw [Array.toArray_toList]; exact hD⟩), rfl, q _ (I.hok.fresh (Nat.le_refl _))⟩
/-! dicts compared -/
def hitB (ls : List (Key × V)) : List (Key × V) → Bool
  | [] => true
  | p :: r => match valV ls p.1 with
    | none => false
    | some u => eqV p.2 u && hitB ls r
def eqDk (ks ls : List (Key × V)) : Bool := ks.length == ls.length && hitB ls ks
def FlatK (ks : List (Key × V)) : Prop := ∀ p ∈ ks, flatV p.2 = true
theorem FlatK.val {ls : List (Key × V)} (h : FlatK ls) {k : Key} {u : V} (e : valV ls k = some u) : flatV u = true := by
  unfold valV at e
  cases e2 : ls.find? fun kv => decide (kv.1 = k) with
  | none => rw [e2] at e; cases e
  | some p =>
    rw [e2] at e
    have := h p (List.mem_of_find?_eq_some e2)
    have e3 : p.2 = u := Option.some.inj e
    rw [← e3]; exact this
theorem hits_any {A : Around} {s : Shared} {ls : List (Key × V)} {vb : List (Key × Value)} (rb : L2.KV ls vb) (fb : FlatK ls) {ks : List (Key × V)} {va : List (Key × Value)} (ra : L2.KV ks va) : FlatK ks → PySem.W.KeqHits A s vb va (hitB ls ks) := by
  unfold L2.KV at ra
  induction ra with
  | nil => intro _; exact .nil
  | @cons p q ps qs h t ih =>
    intro hp
    obtain ⟨h1, h2⟩ := h
    obtain ⟨k, v⟩ := q
    have h1' : p.1 = k := h1
    have rr := rb.val p.1
    unfold hitB
    cases e : valV ls p.1 with
    | none =>
      rw [e] at rr
      have : valueAt vb k = none := by
        rw [← h1']
        cases e2 : valueAt vb p.1 with
        | none => rfl
        | some y => rw [e2] at rr; cases rr
      exact .miss this
    | some u =>
      rw [e] at rr
      obtain ⟨y, hy, ry⟩ := rr.some_of
      rw [h1'] at hy
      exact .hit hy (eqAt_V h2 ry (hp p List.mem_cons_self) (fb.val e)) (ih fun p' hm => hp p' (List.mem_cons_of_mem _ hm))
def rEqDk (neg : Bool) : R2 := fun x y H Q => ∃ a b ks ls, x = .ref a ∧ y = .ref b ∧ H a = some (.dK ks) ∧ H b = some (.dK ls) ∧ FlatK ks ∧ FlatK ls ∧ Q (.bl (if neg then !eqDk ks ls else eqDk ks ls)) H
theorem op_eqDk (hu : X.A.units < cLine) : OpR X (compareOp .Eq) (rEqDk false) := by
  intro pins s σ H x y v u Q I rx ry h
  obtain ⟨a, b, ks, ls, rfl, rfl, ea, eb, fa, fb, q⟩ := h
  obtain rfl : v = Value.ref a := rx
  obtain rfl : u = Value.ref b := ry
  obtain ⟨_, ya, va, ra, da⟩ := (show ObjOk X.prog X.w H s.heap a (.dK ks) from I.hok a _ ea)
  obtain ⟨_, yb, vb, rb, db⟩ := (show ObjOk X.prog X.w H s.heap b (.dK ls) from I.hok b _ eb)
  have hl : (va.length == vb.length) = (ks.length == ls.length) := by rw [← ra.length, ← rb.length]
  exact PySem.W.keq_eq (knd := mixKind X.prog X.w) (r := hitB ls ks) ya yb da db hu (fun _ => hits_any rb fb ra fa) (fin_bl I q (by rw [hl]; rfl))
theorem op_neDk (hu : X.A.units < cLine) : OpR X (compareOp .NotEq) (rEqDk true) := by
  intro pins s σ H x y v u Q I rx ry h
  obtain ⟨a, b, ks, ls, rfl, rfl, ea, eb, fa, fb, q⟩ := h
  obtain rfl : v = Value.ref a := rx
  obtain rfl : u = Value.ref b := ry
  obtain ⟨_, ya, va, ra, da⟩ := (show ObjOk X.prog X.w H s.heap a (.dK ks) from I.hok a _ ea)
  obtain ⟨_, yb, vb, rb, db⟩ := (show ObjOk X.prog X.w H s.heap b (.dK ls) from I.hok b _ eb)
  have hl : (va.length == vb.length) = (ks.length == ls.length) := by rw [← ra.length, ← rb.length]
  exact PySem.W.keq_ne (knd := mixKind X.prog X.w) (r := hitB ls ks) ya yb da db hu (fun _ => hits_any rb fb ra fa) (fin_bl I q (by rw [hl]; rfl))
/-- d.update(another dict) -/
def rUpdD : V → List V → Hp → VK → Prop := fun x xs H Q => ∃ (a b : Addr) (ks ls : List (Key × V)), x = .ref a ∧ xs = [.ref b] ∧ a ≠ b ∧ H a = some (.dK ks) ∧ H b = some (.dK ls) ∧ ks.length + ls.length ≤ 100000 ∧ Q .non (upd H a (.dK (mergeK ks ls)))
theorem mergeK_len : ∀ (ls ks : List (Key × V)), (mergeK ks ls).length ≤ ks.length + ls.length
  | [], ks => Nat.le_refl _
  | p :: r, ks => by
    have h1 := mergeK_len r (putK ks p.1 p.2)
    have h2 := length_putK ks p.1 p.2
    show (mergeK (putK ks p.1 p.2) r).length ≤ _
    rw [List.length_cons]
    omega
theorem mt_updD : MtR X "dict.update" rUpdD := by
  intro pins s σ H x xs v us Q I rx rxs h
  obtain ⟨a, b, ks, ls, rfl, rfl, hab, ea, eb, hz, q⟩ := h
  cases rx
  rw [Vals.ref1 rxs]
  obtain ⟨_, ya, va, ra, da⟩ := (show ObjOk X.prog X.w H s.heap a (.dK ks) from I.hok a _ ea)
  obtain ⟨_, yb, vb, rb, db⟩ := (show ObjOk X.prog X.w H s.heap b (.dK ls) from I.hok b _ eb)
  refine call_meetsIn F.slot_dict_update da.typeIs F.entry_dict_update (F.args_dict_update_2 _ _) (meets_dict_update (mixKind X.prog X.w) a b hab yb) ⟨va, vb, da, db, by rw [← ra.length, ← rb.length]; exact sz hz, fun h' hm _ hs => ?_⟩
  have he : ∃ q, h'.get? a = some q := let ⟨q, _, _, hq, _⟩ := hm; ⟨q, hq⟩
  have hl := mergeK_len ls ks
  exact ⟨.non, _, d_write I (by rw [ea]; exact True.intro) hs he (dk_new (sz (by omega)) ya (L2.KV.merge rb ra) hm), rfl, q⟩
end
/-! own == and != -/
section
variable {X : Cx} {CX : CXT} {k : Nat} {ps : List Str} {sp : Sp} {c : Str} {E : XK}
/-- a class with an own __eq__, its != is object's -/
structure Eo2 (K : PySem.W.Frag) (mg : Str → Option Value) (c : Str) : Prop where
  ne : PySem.W.findIn K (.ref (cls mg c)) "__ne__" = some (some (.builtin "object.__ne__"))
  sub : PySem.W.subIn K (.ref (cls mg c)) (.type "object") = some true
  ha : PySem.W.findIn K (.ref (cls mg c)) "__class__" = some (some (.builtin "object.__class__"))
  hn : PySem.W.specialIn K (.builtin "object.__class__") "__get__" = some (some (.builtin "getset_descriptor.__get__"))
  htk : PySem.W.takesIn K (.builtin "object.__class__") = some true
  hm : PySem.W.mroIn K (cls mg c) (.type "object") = some true
theorem eo2_mk {K : PySem.W.Frag} {h : Heap} {mg : Str → Option Value} {c : Str} {C : Addr} (X : K.In h) (G : h.Ns mainGlobals mg) (aC : PySem.W.nsIn K mainGlobals c = some (some (.ref C)))
    (ne : PySem.W.findIn K (.ref C) "__ne__" = some (some (.builtin "object.__ne__"))) (sub : PySem.W.subIn K (.ref C) (.type "object") = some true)
    (ha : PySem.W.findIn K (.ref C) "__class__" = some (some (.builtin "object.__class__"))) (hn : PySem.W.specialIn K (.builtin "object.__class__") "__get__" = some (some (.builtin "getset_descriptor.__get__")))
    (htk : PySem.W.takesIn K (.builtin "object.__class__") = some true) (hm : PySem.W.mroIn K C (.type "object") = some true) : Eo2 K mg c := by
  have e := cls_of (PySem.W.mg_of X G aC)
  exact ⟨by rw [e]; exact ne, by rw [e]; exact sub, by rw [e]; exact ha, hn, htk, by rw [e]; exact hm⟩
/-- isinstance of an instance and its own class -/
theorem isi_own {K : PySem.W.Frag} {H : Hp} {mg : Str → Option Value} {c : Str} {a dx : Addr} {fs : List (Str × V)} {Q : VK} (O : Oc K mg c) (N : Eo2 K mg c) (h : H a = some (.ins (cls mg c) dx fs)) (q : Q (.bl true) H) : rIsi K [.ref a, .ref (cls mg c)] H Q :=
  ⟨_, _, _, _, true, rfl, .own _, .base (.ins h O.cl N.ha N.hn N.htk N.hm), by unfold PySem.W.kitOne; simp, q⟩
/-- a class that is no int -/
structure Eo3 (K : PySem.W.Frag) (mg : Str → Option Value) (c : Str) : Prop where
  tp : PySem.W.typeIn K (.ref (cls mg c)) = some (.type "type")
  ni : PySem.W.mroIn K (cls mg c) (.type "int") = some false
theorem eo3_mk {K : PySem.W.Frag} {h : Heap} {mg : Str → Option Value} {c : Str} {C : Addr} (X : K.In h) (G : h.Ns mainGlobals mg) (aC : PySem.W.nsIn K mainGlobals c = some (some (.ref C)))
    (tp : PySem.W.typeIn K (.ref C) = some (.type "type")) (ni : PySem.W.mroIn K C (.type "int") = some false) : Eo3 K mg c := by
  have e := cls_of (PySem.W.mg_of X G aC)
  exact ⟨by rw [e]; exact tp, by rw [e]; exact ni⟩
def allTy (l : List Value) : Bool := l.all fun v => match v with
  | .type _ => true
  | _ => false
theorem mro_ty : ∀ n ∈ tyNames, (PySem.fastBuiltinMro n).map allTy = some true := by decide +kernel
/-- isinstance of a thing and an own class -/
theorem isi_not {K : PySem.W.Frag} {H : Hp} {mg : Str → Option Value} {c : Str} {x : V} {n : String} {Q : VK} (N : Eo2 K mg c) (N3 : Eo3 K mg c) (h : Thing K H x n) (q : Q (.bl false) H) : rIsi K [x, .ref (cls mg c)] H Q := by
  refine ⟨_, _, .type n, .ref (cls mg c), false, rfl, .own _, h.ty, ?_, q⟩
  unfold PySem.W.kitOne
  rw [if_neg (by intro z; exact nomatch (beq_iff_eq.mp z))]
  have hs : (PySem.W.clsIn K (cls mg c)).isSome = true := by
    have := N.hm
    unfold PySem.W.mroIn at this
    obtain ⟨cd, a, _⟩ := Option.bind_eq_some_iff.mp this
    rw [a]; rfl
  show (if ((PySem.W.clsIn K (cls mg c)).isSome && PySem.W.typeIn K (.ref (cls mg c)) == some (.type "type")) = true then PySem.W.subIn K (.type n) (.ref (cls mg c)) else none) = _
  rw [hs, N3.tp, if_pos (by rfl)]
  obtain ⟨l, e1, e2⟩ := Option.map_eq_some_iff.mp (mro_ty n h.mem)
  show (PySem.fastBuiltinMro n).map (·.contains (.ref (cls mg c))) = _
  rw [e1]
  show some (l.contains (Value.ref (cls mg c))) = some false
  rw [Option.some.injEq, List.contains_eq_any_beq, List.any_eq_false]
  intro v hv z
  have := List.all_eq_true.mp e2 v hv
  rw [← beq_iff_eq.mp z] at this
  exact nomatch this
/-- isinstance of an own instance and int -/
theorem isi_ownI {K : PySem.W.Frag} {H : Hp} {mg : Str → Option Value} {c : Str} {a dx : Addr} {fs : List (Str × V)} {Q : VK} (O : Oc K mg c) (N : Eo2 K mg c) (N3 : Eo3 K mg c) (h : H a = some (.ins (cls mg c) dx fs)) (q : Q (.bl false) H) : rIsi K [.ref a, .ty "int"] H Q := by
  refine ⟨_, _, .ref (cls mg c), .type "int", false, rfl, .ty _, .base (.ins h O.cl N.ha N.hn N.htk N.hm), ?_, q⟩
  unfold PySem.W.kitOne
  rw [if_neg (by intro z; exact nomatch (beq_iff_eq.mp z))]
  show (if PySem.W.kitMeta "int" = true then PySem.W.subIn K (.ref (cls mg c)) (.type "int") else none) = _
  rw [if_pos (by decide +kernel)]
  exact N3.ni
def rEqO (C : Addr) (sp : Sp) (E : XK) (neg : Bool) : R2 := fun x y H Q => ∃ a b dx dy fs gs, x = .ref a ∧ y = .ref b ∧ H a = some (.ins C dx fs) ∧ H b = some (.ins C dy gs) ∧ sp [.ref a, .ref b] H (fun v H' => ∃ r, v = .bl r ∧ Q (.bl (if neg then !r else r)) H') E
theorem op_eqO (M : Mo X.prog X.w X.K X.mg X.base CX k c "__eq__" ps sp) (hr : Room k X.A) (hx : Passes CX X E) : OpR X (compareOp .Eq) (rEqO (cls X.mg c) sp E false) := by
  intro pins s σ H x y v u Q I rx ry h
  obtain ⟨a, b, dx, dy, fs, gs, rfl, rfl, ha, hb, q⟩ := h
  cases rx
  cases ry
  obtain ⟨f, fd, h1, h2, h3⟩ := M.ex
  obtain ⟨mA, J, _⟩ := ins_get I.hok ha
  obtain ⟨mB, J', _⟩ := ins_get I.hok hb
  obtain ⟨od, J, _⟩ := J.look
  obtain ⟨od', J', _⟩ := J'.look
  obtain ⟨m, hF⟩ := I.fr
  have hl := h3.len _ _ _ _ q
  have r2 : Vals [V.ref a, V.ref b] [Value.ref a, Value.ref b] := .cons rfl (.cons rfl .nil)
  refine PySem.W.cmp_K (op := .Eq) (tb := .ref (cls X.mg c)) hr.units0 hF I.ok.mod.kin J J'.type (by simp [PySem.W.notFirst]) h1.at_ h1.fn ?_
  refine wpAny_call (codeAny_mono (h3.run X.A X.stack s H ⟨[.ref a, .ref b], []⟩ [.ref a, .ref b] [.ref a, .ref b] _ E hr I.env0 (by
    have := h2 s [.ref a, .ref b] I.kIn (by simpa using hl)
    simpa using this) r2 q) fun r s' hq => ?_)
  cases r with
  | error e => exact hx pins σ H s e s' I hq
  | ok fl =>
    cases fl with
    | ret w =>
      obtain ⟨z, H', I', rz, r, ez, q2⟩ := I.after hq
      subst ez
      cases rz
      exact ⟨.bl r, H', I', rfl, q2⟩
    | next => exact False.elim hq
    | brk => exact False.elim hq
    | cont => exact False.elim hq
theorem ifBound_B {prog : Program} {w : World} {A : Around} {E' : Value → Shared → Prop} {s : Shared} {K : PySem.W.Frag} {a C : Addr} {ox : Obj} {od : Option Obj} {name : Str} {id : String} {args : List Value} {Q : Option Value → Shared → Prop} (X : K.In s.heap) (I : PySem.W.InstAt s.heap a ox C od)
    (hs : PySem.W.findIn K (.ref C) name = some (some (.builtin id))) (hb : ∀ self, bindSpecial (.builtin id) self = pure (.builtin id, [self])) (h : wpAny (model prog w) A (call (.builtin id) (.ref a :: args)) (fun v => Q (some v)) E' s) : wpAny (model prog w) A (callSpecialIfBound? (.ref a) name args) Q E' s := by
  simp only [callSpecialIfBound?, bindSpecialIfBound?]
  refine wpAny_holding (wpAny_bind (wpAny_bind (wpAny_bind (I.type.here ((PySem.W.looks_findIn X hs).here ?_)))))
  simp only [hb]
  have fin : wpAny (model prog w) A (call (.builtin id) ([.ref a] ++ args) >>= fun v => pure (some v)) Q E' s := wpAny_bind (wpAny_mono h (fun v s' h' => wpAny_pure h') fun _ _ h' => h')
  refine wpAny_bind (wpAny_askSetting (wpAny_ite ?_))
  split
  · exact wpAny_bind (wpAny_pure (wpAny_pure fin))
  · exact wpAny_tryCatch (wpAny_bind (wpAny_pure (wpAny_pure fin)))
theorem op_neO (N : Eo2 X.K X.mg c) (M : Mo X.prog X.w X.K X.mg X.base CX k c "__eq__" ps sp) (hr : Room (k + 1) X.A) (hx : Passes CX X E) : OpR X (compareOp .NotEq) (rEqO (cls X.mg c) sp E true) := by
  intro pins s σ H x y v u Q I rx ry h
  obtain ⟨a, b, dx, dy, fs, gs, rfl, rfl, ha, hb, q⟩ := h
  cases rx
  cases ry
  obtain ⟨f, fd, h1, h2, h3⟩ := M.ex
  obtain ⟨mA, J, _⟩ := ins_get I.hok ha
  obtain ⟨mB, J', _⟩ := ins_get I.hok hb
  obtain ⟨od, J, _⟩ := J.look
  obtain ⟨od', J', _⟩ := J'.look
  obtain ⟨m, hF⟩ := I.fr
  have hK := I.kIn
  have hl := h3.len _ _ _ _ q
  have r2 : Vals [V.ref a, V.ref b] [Value.ref a, Value.ref b] := .cons rfl (.cons rfl .nil)
  show wpAny (model X.prog X.w) X.A (richCompare .NotEq (.ref a) (.ref b)) (EP X pins σ Q) X.xe s
  have eqc : wpAny (model X.prog X.w) X.A.in1 (call (.ref f) [.ref a, .ref b]) (fun v s' => ∃ r, v = .bool r ∧ EP X pins σ Q (.bool (!r)) s') X.xe s := by
    refine wpAny_call (codeAny_mono (h3.run X.A.in1 X.stack s H ⟨[.ref a, .ref b], []⟩ [.ref a, .ref b] [.ref a, .ref b] _ E hr.in1 I.env0.in1 (by
      have := h2 s [.ref a, .ref b] I.kIn (by simpa using hl)
      simpa using this) r2 q) fun r s' hq => ?_)
    cases r with
    | error e => exact hx pins σ H s e s' I hq
    | ok fl =>
      cases fl with
      | ret w =>
        obtain ⟨z, H', I', rz, r, ez, q2⟩ := I.after hq
        subst ez
        cases rz
        exact ⟨r, rfl, .bl _, H', I', rfl, q2⟩
      | next => exact False.elim hq
      | brk => exact False.elim hq
      | cont => exact False.elim hq
  have t2 : PySem.W.Looks (model X.prog X.w) s.heap (isInstance (.ref a) (.type "object")) true := J.type.andThen (PySem.W.looks_subIn hK N.sub)
  have one : wpAny (model X.prog X.w) X.A (tryCompare (.ref a) "__ne__" (.ref b)) (fun r s' => ∃ v, r = some v ∧ EP X pins σ Q v s') X.xe s := by
    unfold tryCompare
    refine wpAny_bind (ifBound_B hK J N.ne PySem.F.slot_object_ne.bind (wpAny_call (codeAny_call_builtin PySem.F.slot_object_ne.plain PySem.F.entry_object_ne
      (@PySem.W.check_slot (model X.prog X.w) _ _ _ "object.__ne__" "object" "__ne__" (.ref a) [.ref b] [] _ (by decide +kernel) (by decide +kernel) t2 (PySem.F.args_object_ne_2 _ _) ?_))))
    unfold Builtin.«object.__ne__»
    refine wpAny_bind (wpAny_pure ?_)
    refine wpAny_bind (wpAny_cRoomFor (by have := hr.units; show X.A.units + 1 < _; omega) ?_)
    refine wpAny_bind (PySem.W.ifBound_K hK J h1.at_ h1.fn (wpAny_mono eqc (fun v s' hv => ?_) fun _ _ e => e))
    obtain ⟨r, rfl, q2⟩ := hv
    refine wpAny_bind (wpAny_truthy_bool ?_)
    exact wpAny_pure (wpAny_pure ⟨_, rfl, q2⟩)
  unfold richCompare
  simp only [oneThing_ref]
  refine wpAny_holding (wpAny_bind (wpAny_cRoomFor hr.units0 ?_))
  refine wpAny_bind (J.type.here (wpAny_bind (J'.type.here ?_)))
  rw [if_neg (by simp)]
  refine wpAny_bind (wpAny_pure ?_)
  simp only [Bool.false_eq_true, if_false]
  refine wpAny_bind (wpAny_mono one (fun r s' z => ?_) fun _ _ e => e)
  obtain ⟨v, rfl, hq⟩ := z
  exact wpAny_pure hq
/-- a list of texts of the top -/
structure Cl (K : PySem.W.Frag) (mg : Str → Option Value) (x : Str) (ss : List Str) : Prop where
  g : mg x = some (.ref (cls mg x))
  l : ∃ (o : Obj) (its : Array Value) (n : Nat), K.lookup (cls mg x) = some o ∧ o.cls = .type "list" ∧ o.dict = none ∧ o.data = .seq its n ∧ its.size ≤ sizeLine ∧ Vals (ss.map V.str) its.toList
theorem Cl.sq {K : PySem.W.Frag} {mg : Str → Option Value} {x : Str} {ss : List Str} (h : Cl K mg x ss) (H : Hp) : SqL K H (cls mg x) (ss.map V.str) := .inr h.l
theorem cl_mk {K : PySem.W.Frag} {h : Heap} {mg : Str → Option Value} {x : Str} {C : Addr} {s1 s2 s3 : Str} {t1 t2 t3 : Tok} {n : Nat} {sl : Array (Option Value)} (X : K.In h) (G : h.Ns mainGlobals mg) (a : PySem.W.nsIn K mainGlobals x = some (some (.ref C)))
    (l : K.lookup C = some ⟨.type "list", none, .seq #[.str s1 t1, .str s2 t2, .str s3 t3] n, sl⟩) : Cl K mg x [s1, s2, s3] := by
  have e := cls_of (PySem.W.mg_of X G a)
  exact ⟨by rw [e]; exact PySem.W.mg_of X G a, by rw [e]; exact ⟨_, _, _, l, rfl, rfl, rfl, by show 3 ≤ sizeLine; decide, .cons ⟨_, rfl⟩ (.cons ⟨_, rfl⟩ (.cons ⟨_, rfl⟩ .nil))⟩⟩
end
end Nk
/-! ### texts of own instances: str(x), repr(x), f"{x}" by own methods -/
namespace Nk
open PySem L2 PySem.Spec PySem.Calls PyProof.Rows PySem.W
section
variable {prog : Program} {w : World} {A : Around} {E : Value → Shared → Prop} {s : Shared} {K : PySem.W.Frag} {x C f : Addr} {ox : Obj} {od : Option Obj}
def BackS (Q : Value → Shared → Prop) (v : Value) (s' : Shared) : Prop := ∃ y t, v = .str y t ∧ Q v s'
theorem str_ownS {Q : Value → Shared → Prop} (hu : A.in1.in1.units < cLine) (X : K.In s.heap) (I : PySem.W.InstAt s.heap x ox C od) (hs : PySem.W.findIn K (.ref C) "__str__" = some (some (.ref f))) (hf : PySem.W.isFn K (.ref f) = true)
    (h : wpAny (model prog w) A.in1.in1 (call (.ref f) [.ref x]) (BackS Q) E s) : wpAny (model prog w) A (call (.type "str") [.ref x]) Q E s := by
  refine callType_codes (T := "str") (Bi := Builtin.«object.__init__») (Q₁ := fun r s₁ => ∃ y u, r = .str y u ∧ Q r s₁) PySem.F.called_str (PySem.F.typeCall_str_1 _) PySem.F.entry_object_init ?_ ?_
  · refine codeAny_of_tree ?_
    show wpAny _ A.in1.in1 (do checkBuiltinCall "str.__new__" ⟨[.type "str", .ref x], []⟩; again (.builtin "str.__new__" ⟨[.type "str", .ref x], []⟩)) _ _ s
    refine wpAny_bind (wpAny_of_eq (PySem.F.newCall_str_1 _) (wpAny_pure ⟨plainId_quiet (by decide +kernel) _, codeAny_builtin PySem.F.entry_str_new ?_⟩))
    rw [Around.under_plainId (by decide +kernel) _]
    rw [PySem.str_new_tree]
    refine wpAny_bind (wpAny_pure ?_)
    refine wpAny_bind (wpAny_of_eq isSubtype_str_str ?_)
    have key : wpAny (model prog w) A.in1.in1 (PySem.Builtin.Str.strOf (.ref x)) (fun r s₁ => ∃ y u, r = .str y u ∧ Q r s₁) E s := by
      unfold PySem.Builtin.Str.strOf
      rw [show Builtin.Str.isExactStr (.ref x) = false from rfl]
      refine wpAny_bind (m := cRoomFor _ _) (wpAny_cRoomFor hu ?_)
      refine wpAny_bind (m := callSpecial? (.ref x) (Str.ofString "__str__")) (PySem.W.special_fn X I hs (beq_iff_eq.mp hf) (wpAny_mono h (fun r s' z => ?_) fun _ _ y => y))
      obtain ⟨y, t, rfl, q⟩ := z
      exact wpAny_pure ⟨_, _, rfl, q⟩
    exact wpAny_bind (wpAny_mono key (fun r s₁ hr => wpAny_pure hr) fun _ _ y => y)
  · rintro obj s₁ ⟨y, u, rfl, hq⟩
    exact ⟨typeIs_str _ _ _, PySem.F.args_object_init_2 _ _, object_init_meets PySem.F.called_str.init.lookup PySem.F.called_str.made (by decide) prog w A.in1 _ s₁ ⟨typeIs_str _ _ _, rfl, hq⟩⟩
theorem repr_ownS {Q : Value → Shared → Prop} (hu : A.in1.units < cLine) (X : K.In s.heap) (I : PySem.W.InstAt s.heap x ox C od) (hr : PySem.W.findIn K (.ref C) "__repr__" = some (some (.ref f))) (hf : PySem.W.isFn K (.ref f) = true)
    (h : wpAny (model prog w) A.in1 (call (.ref f) [.ref x]) (BackS Q) E s) : wpAny (model prog w) A (call (.builtin "repr") [.ref x]) Q E s := by
  refine Calls.call_function_entry PySem.F.kind_repr PySem.F.plain_repr PySem.F.entry_repr (PySem.F.args_repr1 _) ?_
  unfold Builtin.«repr»
  refine wpAny_bind (m := PySem.oneArg "repr" _) (wpAny_pure ?_)
  refine wpAny_bind (m := cRoomFor _ _) (wpAny_cRoomFor hu ?_)
  refine wpAny_bind (m := specialOf _ _) (wpAny_bind (I.type.here ((PySem.W.looks_findIn X hr).here ?_)))
  refine wpAny_bind (m := callSpecialIfBound? (.ref x) (Str.ofString "__repr__")) (PySem.W.ifBound_K X I hr hf (wpAny_mono h (fun r s' z => ?_) fun _ _ y => y))
  obtain ⟨y, t, rfl, q⟩ := z
  refine wpAny_bind (wpAny_isInstance (T := "str") (b := true) (typeIs_str _ _ _) isSubtype_str_str ?_)
  exact wpAny_pure ⟨_, rfl, q⟩
end
section
variable {X : Cx} {CX : CXT} {k : Nat} {ps : List Str} {sp : Sp} {c m : Str} {E : XK}
/-- an own method of one instance is run -/
theorem run_own1 {A' : Around} {f : Addr} {fd : FuncData} {pins : List (Addr × Obj)} {σ : L2.St} {H : Hp} {s : Shared} {a : Addr} {Q : VK} (h2 : Binds X.K fd ps []) (h3 : FnOk X.prog X.w X.K X.mg X.base CX k f fd ps sp) (hr : Room k A') (e0 : Env0 X.prog X.w X.K X.mg X.base A' X.stack s H) (hx : Passes CX X E) (I : Inv X pins σ H s) (q : sp [.ref a] H Q E) :
    wpAny (model X.prog X.w) A' (call (.ref f) [.ref a]) (fun v s' => ∃ z H', Inv X pins σ H' s' ∧ RelV z v ∧ Q z H') X.xe s := by
  have hl := h3.len _ _ _ _ q
  have r2 : Vals [V.ref a] [Value.ref a] := .cons rfl .nil
  refine wpAny_call (codeAny_mono (h3.run A' X.stack s H ⟨[.ref a], []⟩ [.ref a] [.ref a] _ E hr e0 (by
    have := h2 s [.ref a] I.kIn (by simpa using hl)
    simpa using this) r2 q) fun r s' hq => ?_)
  cases r with
  | error e => exact hx pins σ H s e s' I hq
  | ok fl =>
    cases fl with
    | ret w =>
      obtain ⟨z, H', I', rz, q2⟩ := I.after hq
      exact ⟨z, H', I', rz, q2⟩
    | next => exact False.elim hq
    | brk => exact False.elim hq
    | cont => exact False.elim hq
def rStrO (C : Addr) (sp : Sp) (E : XK) : List V → Hp → VK → Prop := fun xs H Q => ∃ a dx fs, xs = [.ref a] ∧ H a = some (.ins C dx fs) ∧ sp [.ref a] H (fun v H' => ∃ y : Str, v = .str y ∧ Q (.str y) H') E
theorem cr_strO (M : Mo X.prog X.w X.K X.mg X.base CX k c "__str__" ps sp) (hr : Room (k + 2) X.A) (hx : Passes CX X E) : CallR X (.type "str") (rStrO (cls X.mg c) sp E) := by
  intro pins s σ H xs us Q I r h
  obtain ⟨a, dx, fs, rfl, ha, q⟩ := h
  obtain ⟨u, rfl, r1⟩ := vals1 r
  cases r1
  obtain ⟨f, fd, h1, h2, h3⟩ := M.ex
  obtain ⟨mA, J, _⟩ := ins_get I.hok ha
  obtain ⟨od, J, _⟩ := J.look
  have hu := hr.units
  exact str_ownS (by show X.A.units + 1 + 1 < _; omega) I.kIn J h1.at_ h1.fn (wpAny_mono (run_own1 h2 h3 (hr.mono (by omega)).in1.in1 I.env0.in1.in1 hx I q) (fun v s' z => by
    obtain ⟨z, H', I', rz, y, rfl, q2⟩ := z
    obtain ⟨t, rfl⟩ := rz
    exact ⟨y, t, rfl, .str y, H', I', ⟨t, rfl⟩, q2⟩) fun _ _ e => e)
theorem cr_reprO (M : Mo X.prog X.w X.K X.mg X.base CX k c "__repr__" ps sp) (hr : Room (k + 1) X.A) (hx : Passes CX X E) : CallR X (.builtin "repr") (rStrO (cls X.mg c) sp E) := by
  intro pins s σ H xs us Q I r h
  obtain ⟨a, dx, fs, rfl, ha, q⟩ := h
  obtain ⟨u, rfl, r1⟩ := vals1 r
  cases r1
  obtain ⟨f, fd, h1, h2, h3⟩ := M.ex
  obtain ⟨mA, J, _⟩ := ins_get I.hok ha
  obtain ⟨od, J, _⟩ := J.look
  have hu := hr.units
  exact repr_ownS (by show X.A.units + 1 < _; omega) I.kIn J h1.at_ h1.fn (wpAny_mono (run_own1 h2 h3 (hr.mono (by omega)).in1 I.env0.in1 hx I q) (fun v s' z => by
    obtain ⟨z, H', I', rz, y, rfl, q2⟩ := z
    obtain ⟨t, rfl⟩ := rz
    exact ⟨y, t, rfl, .str y, H', I', ⟨t, rfl⟩, q2⟩) fun _ _ e => e)
/-- what == asks of a class with an own __eq__ -/
structure Eo4 (K : PySem.W.Frag) (mg : Str → Option Value) (c : Str) : Prop where
  fm : PySem.W.findIn K (.ref (cls mg c)) "__format__" = some (some (.builtin "object.__format__"))
  sd : PySem.W.subIn K (.ref (cls mg c)) (.type "dict") = some false
  si : PySem.W.subIn K (.ref (cls mg c)) (.type "int") = some false
  md : PySem.W.mroIn K (cls mg c) (.type "dict") = some false
theorem eo4_mk {K : PySem.W.Frag} {h : Heap} {mg : Str → Option Value} {c : Str} {C : Addr} (X : K.In h) (G : h.Ns mainGlobals mg) (aC : PySem.W.nsIn K mainGlobals c = some (some (.ref C)))
    (fm : PySem.W.findIn K (.ref C) "__format__" = some (some (.builtin "object.__format__"))) (sd : PySem.W.subIn K (.ref C) (.type "dict") = some false) (si : PySem.W.subIn K (.ref C) (.type "int") = some false) (md : PySem.W.mroIn K C (.type "dict") = some false) : Eo4 K mg c := by
  have e := cls_of (PySem.W.mg_of X G aC)
  exact ⟨by rw [e]; exact fm, by rw [e]; exact sd, by rw [e]; exact si, by rw [e]; exact md⟩
def tFmtO (C : Addr) (sp : Sp) (E : XK) (te : TE) : TE := fun σ H Q => te σ H fun x H1 => rStrO C sp E [x] H1 Q
theorem pe_fmtO {e : Expr} {te : TE} {pos : Pos} (O : Eo4 X.K X.mg c) (N : Eo2 X.K X.mg c) (M : Mo X.prog X.w X.K X.mg X.base CX k c "__str__" ps sp) (hr : Room (k + 1) X.A) (hx : Passes CX X E) (he : PE X e te) : PE X (.FormattedValue e (-1) none pos) (tFmtO (cls X.mg c) sp E te) := by
  refine ⟨fun pins s σ H Q I h => ?_⟩
  refine wpAny_FormattedValue_plain (thn (he.run pins s σ H _ I h) fun v s1 hv => ?_)
  obtain ⟨x, H1, I1, r1, a, dx, fs, ex, ha, q⟩ := hv
  cases ex
  cases r1
  obtain ⟨f, fd, h1, h2, h3⟩ := M.ex
  obtain ⟨mA, J, _⟩ := ins_get I1.hok ha
  obtain ⟨od, J, _⟩ := J.look
  have hu := hr.units
  exact PySem.W.kfo_fieldS (by show X.A.units + 1 < _; omega) I1.kIn J O.fm N.hm h1.at_ h1.fn (wpAny_mono (run_own1 h2 h3 (hr.mono (by omega)).in1 (I1.tok _).env0.in1 hx (I1.tok _) q) (fun v s' z => by
    obtain ⟨z, H', I', rz, y, rfl, q2⟩ := z
    obtain ⟨t, rfl⟩ := rz
    exact ⟨.str y, H', I', ⟨t, rfl⟩, q2⟩) fun _ _ e => e)
end
end Nk
/-! ### == of an own instance and any thing, `in` of lists with own instances -/
namespace Nk
open PySem L2 PySem.Spec PySem.Calls PyProof.Rows PySem.W
section
variable {prog : Program} {w : World} {A : Around} {E : Value → Shared → Prop} {s : Shared} {K : PySem.W.Frag} {x C f : Addr} {ox : Obj} {od : Option Obj}
/-- a built-in thing on the left that has no answer, an own instance on the right -/
theorem rc_left {T id : String} {u : Value} {Q : Value → Shared → Prop} (hu : A.units < cLine) (X : K.In s.heap) (hT : s.TypeIs u T) (hl : Looks (model prog w) s.heap (typeOf u) (.type T)) (I : PySem.W.InstAt s.heap x ox C od)
    (hm : PySem.W.subIn K (.ref C) (.type T) = some false) (slot : Slot T "__eq__" id) (hc : ∀ Q' : Value → Shared → Prop, Q' .notImplemented s → wpAny (model prog w) A (call (.builtin id) [u, .ref x]) Q' E s)
    (hs : PySem.W.findIn K (.ref C) "__eq__" = some (some (.ref f))) (hf : PySem.W.isFn K (.ref f) = true)
    (h : wpAny (model prog w) A (call (.ref f) [.ref x, u]) (PySem.W.CmpBack Q) E s) : wpAny (model prog w) A (richCompare .Eq u (.ref x)) Q E s := by
  unfold richCompare
  rw [hT.oneThing_none]
  refine wpAny_holding (wpAny_bind (wpAny_cRoomFor hu ?_))
  refine wpAny_bind (hl.here (wpAny_bind (I.type.here ?_)))
  rw [if_pos (by rfl)]
  refine wpAny_bind ((PySem.W.looks_subIn X hm).here ?_)
  simp only [Bool.false_eq_true, if_false]
  have one : ∀ Q' : Option Value → Shared → Prop, Q' none s → wpAny (model prog w) A (tryCompare u (cmpInfo .Eq).2.1 (.ref x)) Q' E s := fun Q' q => by
    unfold tryCompare
    exact wpAny_bind (wpAny_callSpecialIfBound?_slot (name := Str.ofString "__eq__") hT slot (hc _ (wpAny_pure q)))
  refine wpAny_bind (one _ ?_)
  have two : wpAny (model prog w) A (tryCompare (.ref x) (cmpInfo .Eq).2.2 u) (fun r s' => ∃ v, r = some v ∧ Q v s') E s := by
    unfold tryCompare
    refine wpAny_bind (PySem.W.ifBound_K X I hs hf (wpAny_mono h (fun v s' hv => ?_) fun _ _ e => e))
    cases v <;> first | exact hv.elim | exact wpAny_pure ⟨_, rfl, hv⟩
  refine wpAny_bind (wpAny_mono two (fun r s' z => ?_) fun _ _ e => e)
  obtain ⟨v, rfl, hq⟩ := z
  exact wpAny_pure hq
theorem dict_eq_own {d : Addr} {Q : Value → Shared → Prop} (X : K.In s.heap) (hT : s.TypeIs (.ref d) "dict") (I : PySem.W.InstAt s.heap x ox C od) (hm : PySem.W.mroIn K C (.type "dict") = some false) (q : Q .notImplemented s) :
    wpAny (model prog w) A (call (.builtin "dict.__eq__") [.ref d, .ref x]) Q E s := by
  refine wpAny_call (codeAny_call_builtin PySem.F.slot_dict_eq.plain PySem.F.entry_dict_eq (PySem.F.slot_dict_eq.check _ _ _ _ _ _ _ _ hT (PySem.F.args_dict_eq_2 _ _) ?_))
  unfold Builtin.«dict.__eq__»
  refine wpAny_bind (m := Builtin.Dict.dictSlotArgs "__eq__" _) (wpAny_pure ?_)
  have t2 : PySem.W.Looks (model prog w) s.heap (isInstance (.ref x) (.type "dict")) false := I.type.andThen (PySem.W.looks_mroIn X hm)
  refine wpAny_bind (t2.here ?_)
  wp_walk
  exact q
theorem int_eq_own {i : Int} {t : Tok} {Q : Value → Shared → Prop} (X : K.In s.heap) {dx : Addr} (I : PySem.W.InstAt s.heap x (PySem.W.instObj C dx) C od) (q : Q .notImplemented s) :
    wpAny (model prog w) A (call (.builtin "int.__eq__") [.int i t, .ref x]) Q E s := by
  refine wpAny_call (codeAny_call_builtin PySem.F.slot_int_eq.plain PySem.F.entry_int_eq (PySem.F.slot_int_eq.check _ _ _ _ _ _ _ _ (typeIs_int _ _ _) (PySem.F.args_int_eq_2 _ _) ?_))
  unfold Builtin.«int.__eq__»
  show wpAny _ _ (Builtin.Int.intBinary "__eq__" _ false _) _ _ _
  unfold Builtin.Int.intBinary
  refine wpAny_bind (m := slotArgs "__eq__" 1 _) (wpAny_pure ?_)
  refine wpAny_bind (m := Builtin.Int.intOfSelf _) (wpAny_pure ?_)
  refine wpAny_bind (m := asInt? _) (wpAny_bind (wpAny_load I.at_ ?_))
  refine wpAny_pure ?_
  wp_walk
  exact q
end
section
variable {X : Cx} {CX : CXT} {k : Nat} {ps : List Str} {sp : Sp} {c : Str} {E : XK}
/-- an own method of an instance and a thing is run -/
theorem run_own2 {A' : Around} {f : Addr} {fd : FuncData} {pins : List (Addr × Obj)} {σ : L2.St} {H : Hp} {s : Shared} {a : Addr} {y : V} {u : Value} {Q : VK} (h2 : Binds X.K fd ps []) (h3 : FnOk X.prog X.w X.K X.mg X.base CX k f fd ps sp) (hr : Room k A') (e0 : Env0 X.prog X.w X.K X.mg X.base A' X.stack s H) (hx : Passes CX X E) (I : Inv X pins σ H s) (ry : RelV y u) (q : sp [.ref a, y] H Q E) :
    wpAny (model X.prog X.w) A' (call (.ref f) [.ref a, u]) (fun v s' => ∃ z H', Inv X pins σ H' s' ∧ RelV z v ∧ Q z H') X.xe s := by
  have hl := h3.len _ _ _ _ q
  have r2 : Vals [V.ref a, y] [Value.ref a, u] := .cons rfl (.cons ry .nil)
  refine wpAny_call (codeAny_mono (h3.run A' X.stack s H ⟨[.ref a, u], []⟩ [.ref a, u] [.ref a, y] _ E hr e0 (by
    have := h2 s [.ref a, u] I.kIn (by simpa using hl)
    simpa using this) r2 q) fun r s' hq => ?_)
  cases r with
  | error e => exact hx pins σ H s e s' I hq
  | ok fl =>
    cases fl with
    | ret w =>
      obtain ⟨z, H', I', rz, q2⟩ := I.after hq
      exact ⟨z, H', I', rz, q2⟩
    | next => exact False.elim hq
    | brk => exact False.elim hq
    | cont => exact False.elim hq
theorem sub_not {K : PySem.W.Frag} {H : Hp} {mg : Str → Option Value} {c : Str} {x : V} {n : String} (h : Thing K H x n) : PySem.W.subIn K (.type n) (.ref (cls mg c)) = some false := by
  obtain ⟨l, e1, e2⟩ := Option.map_eq_some_iff.mp (mro_ty n h.mem)
  show (PySem.fastBuiltinMro n).map (·.contains (.ref (cls mg c))) = _
  rw [e1]
  show some (l.contains (Value.ref (cls mg c))) = some false
  rw [Option.some.injEq, List.contains_eq_any_beq, List.any_eq_false]
  intro v hv z
  have := List.all_eq_true.mp e2 v hv
  rw [← beq_iff_eq.mp z] at this
  exact nomatch this
/-- a thing to be compared with an own instance -/
def Oth (K : PySem.W.Frag) (C : Addr) (H : Hp) (y : V) : Prop := (∃ b dy gs, y = .ref b ∧ H b = some (.ins C dy gs)) ∨ ∃ n, Thing K H y n
theorem oth_ty {pins : List (Addr × Obj)} {σ : L2.St} {H : Hp} {s : Shared} {y : V} {u : Value} (I : Inv X pins σ H s) (ry : RelV y u) (h : Oth X.K (cls X.mg c) H y) : ∃ tb, PySem.W.Looks (model X.prog X.w) s.heap (typeOf u) tb ∧ PySem.W.notFirst X.K (cls X.mg c) tb = true := by
  rcases h with ⟨b, dy, gs, rfl, hb⟩ | ⟨n, h⟩
  · cases ry
    obtain ⟨mB, J', _⟩ := ins_get I.hok hb
    obtain ⟨od', J', _⟩ := J'.look
    exact ⟨_, J'.type, by simp [PySem.W.notFirst]⟩
  · obtain ⟨P, Z, p, _⟩ := kit_of I ry h.ty
    exact ⟨_, Z.ty _ _ I.kIn p, by unfold PySem.W.notFirst; rw [sub_not h]; simp⟩
/-- an own instance and a thing, by its own __eq__ -/
def rEqX (K : PySem.W.Frag) (C : Addr) (sp : Sp) (E : XK) (neg : Bool) : R2 := fun x y H Q => ∃ a dx fs, x = .ref a ∧ H a = some (.ins C dx fs) ∧ Oth K C H y ∧ sp [.ref a, y] H (fun v H' => ∃ r, v = .bl r ∧ Q (.bl (if neg then !r else r)) H') E
theorem op_eqX (M : Mo X.prog X.w X.K X.mg X.base CX k c "__eq__" ps sp) (hr : Room k X.A) (hx : Passes CX X E) : OpR X (compareOp .Eq) (rEqX X.K (cls X.mg c) sp E false) := by
  intro pins s σ H x y v u Q I rx ry h
  obtain ⟨a, dx, fs, rfl, ha, hy, q⟩ := h
  cases rx
  obtain ⟨f, fd, h1, h2, h3⟩ := M.ex
  obtain ⟨mA, J, _⟩ := ins_get I.hok ha
  obtain ⟨od, J, _⟩ := J.look
  obtain ⟨m, hF⟩ := I.fr
  obtain ⟨tb, L, nf⟩ := oth_ty I ry hy
  exact PySem.W.cmp_K (op := .Eq) (tb := tb) hr.units0 hF I.ok.mod.kin J L nf h1.at_ h1.fn (wpAny_mono (run_own2 h2 h3 hr I.env0 hx I ry q) (fun v s' z => by
    obtain ⟨z, H', I', rz, r, rfl, q2⟩ := z
    cases rz
    exact ⟨.bl r, H', I', rfl, q2⟩) fun _ _ e => e)
theorem op_neX (N : Eo2 X.K X.mg c) (M : Mo X.prog X.w X.K X.mg X.base CX k c "__eq__" ps sp) (hr : Room (k + 1) X.A) (hx : Passes CX X E) : OpR X (compareOp .NotEq) (rEqX X.K (cls X.mg c) sp E true) := by
  intro pins s σ H x y v u Q I rx ry h
  obtain ⟨a, dx, fs, rfl, ha, hy, q⟩ := h
  cases rx
  obtain ⟨f, fd, h1, h2, h3⟩ := M.ex
  obtain ⟨mA, J, _⟩ := ins_get I.hok ha
  obtain ⟨od, J, _⟩ := J.look
  have hK := I.kIn
  obtain ⟨tb, L, nf⟩ := oth_ty I ry hy
  show wpAny (model X.prog X.w) X.A (richCompare .NotEq (.ref a) u) (EP X pins σ Q) X.xe s
  have t2 : PySem.W.Looks (model X.prog X.w) s.heap (isInstance (.ref a) (.type "object")) true := J.type.andThen (PySem.W.looks_subIn hK N.sub)
  have one : wpAny (model X.prog X.w) X.A (tryCompare (.ref a) "__ne__" u) (fun r s' => ∃ v, r = some v ∧ EP X pins σ Q v s') X.xe s := by
    unfold tryCompare
    refine wpAny_bind (ifBound_B hK J N.ne PySem.F.slot_object_ne.bind (wpAny_call (codeAny_call_builtin PySem.F.slot_object_ne.plain PySem.F.entry_object_ne
      (@PySem.W.check_slot (model X.prog X.w) _ _ _ "object.__ne__" "object" "__ne__" (.ref a) [u] [] _ (by decide +kernel) (by decide +kernel) t2 (PySem.F.args_object_ne_2 _ _) ?_))))
    unfold Builtin.«object.__ne__»
    refine wpAny_bind (wpAny_pure ?_)
    refine wpAny_bind (wpAny_cRoomFor (by have := hr.units; show X.A.units + 1 < _; omega) ?_)
    refine wpAny_bind (PySem.W.ifBound_K hK J h1.at_ h1.fn (wpAny_mono (run_own2 h2 h3 (hr.mono (by omega)).in1 I.env0.in1 hx I ry q) (fun v s' hv => ?_) fun _ _ e => e))
    obtain ⟨z, H', I', rz, r, rfl, q2⟩ := hv
    cases rz
    refine wpAny_bind (wpAny_truthy_bool ?_)
    exact wpAny_pure (wpAny_pure ⟨_, rfl, .bl _, H', I', rfl, q2⟩)
  unfold richCompare
  simp only [oneThing_ref]
  refine wpAny_holding (wpAny_bind (wpAny_cRoomFor hr.units0 ?_))
  refine wpAny_bind (J.type.here (wpAny_bind (L.here ?_)))
  split
  · rename_i z
    have e : PySem.W.subIn X.K tb (.ref (cls X.mg c)) = some false := by
      rcases Bool.or_eq_true_iff.mp nf with e | e
      · rw [beq_iff_eq.mp e] at z; simp at z
      · exact beq_iff_eq.mp e
    refine wpAny_bind ((PySem.W.looks_subIn hK e).here ?_)
    simp only [Bool.false_eq_true, if_false]
    refine wpAny_bind (wpAny_mono one (fun r s' z => ?_) fun _ _ e => e)
    obtain ⟨v, rfl, hq⟩ := z
    exact wpAny_pure hq
  · refine wpAny_bind (wpAny_pure ?_)
    simp only [Bool.false_eq_true, if_false]
    refine wpAny_bind (wpAny_mono one (fun r s' z => ?_) fun _ _ e => e)
    obtain ⟨v, rfl, hq⟩ := z
    exact wpAny_pure hq
/-- a dict and an own instance: the instance's own __eq__ answers -/
def rEqL (C : Addr) (sp : Sp) (E : XK) : R2 := fun x y H Q => ∃ d kvs a dx fs, x = .ref d ∧ H d = some (.dK kvs) ∧ y = .ref a ∧ H a = some (.ins C dx fs) ∧ sp [.ref a, .ref d] H (fun v H' => ∃ r, v = .bl r ∧ Q (.bl r) H') E
theorem op_eqL (N : Eo4 X.K X.mg c) (M : Mo X.prog X.w X.K X.mg X.base CX k c "__eq__" ps sp) (hr : Room k X.A) (hx : Passes CX X E) : OpR X (compareOp .Eq) (rEqL (cls X.mg c) sp E) := by
  intro pins s σ H x y v u Q I rx ry h
  obtain ⟨d, kvs, a, dx, fs, rfl, hd, rfl, ha, q⟩ := h
  cases rx
  cases ry
  obtain ⟨f, fd, h1, h2, h3⟩ := M.ex
  obtain ⟨mA, J, _⟩ := ins_get I.hok ha
  obtain ⟨od, J, _⟩ := J.look
  have hth : Thing X.K H (.ref d) "dict" := .dic hd
  obtain ⟨P, Z, p, _⟩ := kit_of I (show RelV (.ref d) (.ref d) from rfl) hth.ty
  have hT : s.TypeIs (.ref d) "dict" := by
    obtain ⟨_, _, vs, _, o, es, ep, g1, g2, _⟩ := (show ObjOk X.prog X.w H s.heap d (.dK kvs) from I.hok d _ hd)
    exact ⟨_, g1, g2.1⟩
  exact rc_left hr.units0 I.kIn hT (Z.ty _ _ I.kIn p) J N.sd PySem.F.slot_dict_eq (fun Q' q' => dict_eq_own I.kIn hT J N.md q') h1.at_ h1.fn (wpAny_mono (run_own2 h2 h3 hr I.env0 hx I (show RelV (.ref d) (.ref d) from rfl) q) (fun v s' z => by
    obtain ⟨z, H', I', rz, r, rfl, q2⟩ := z
    cases rz
    exact ⟨.bl r, H', I', rfl, q2⟩) fun _ _ e => e)
end
end Nk
namespace Nk
open PySem L2 PySem.Spec PySem.Calls PyProof.Rows PySem.W
section
variable {X : Cx} {CX : CXT} {k : Nat} {ps : List Str} {sp : Sp} {c : Str} {E : XK}
/-- an item of a list against an own instance -/
def rEqAny (C : Addr) (sp : Sp) (E : XK) (y : V) (a : Addr) (H : Hp) (Q : Bool → Hp → Prop) : Prop :=
  (∃ i, y = .int i ∧ sp [.ref a, .int i] H (fun v H' => ∃ r, v = .bl r ∧ Q r H') E) ∨ (∃ b dy gs, y = .ref b ∧ b ≠ a ∧ H b = some (.ins C dy gs) ∧ sp [.ref b, .ref a] H (fun v H' => ∃ r, v = .bl r ∧ Q r H') E) ∨
    ∃ d kvs, y = .ref d ∧ H d = some (.dK kvs) ∧ sp [.ref a, .ref d] H (fun v H' => ∃ r, v = .bl r ∧ Q r H') E
def tInO (C : Addr) (sp : Sp) (E : XK) (a : Addr) : List V → Hp → (Bool → Hp → Prop) → Prop
  | [], H, Q => Q false H
  | y :: ys, H, Q => rEqAny C sp E y a H fun b H' => Same H H' ∧ if b = true then Q true H' else tInO C sp E a ys H' Q
def rInO (C : Addr) (sp : Sp) (E : XK) (neg : Bool) : R2 := fun x y H Q => ∃ a dx fs l xs, x = .ref a ∧ y = .ref l ∧ H a = some (.ins C dx fs) ∧ H l = some (.lst xs) ∧ tInO C sp E a xs H fun b H' => Q (.bl (if neg then !b else b)) H'
theorem eqBool_rc {A : Around} {E' : Value → Shared → Prop} {s : Shared} {u : Value} {a : Addr} {Q : Bool → Shared → Prop} (hne : u ≠ .ref a) (hf : ∀ x t, u ≠ .float x t) (h : wpAny (model X.prog X.w) A (richCompare .Eq u (.ref a)) (fun v s' => ∃ r, v = .bool r ∧ Q r s') E' s) : wpAny (model X.prog X.w) A (eqBool u (.ref a)) Q E' s := by
  unfold eqBool
  refine wpAny_holding ?_
  refine wpAny_ite_split (fun hab => absurd (eq_of_beq hab) hne) (fun _ => ?_)
  have fin : wpAny (model X.prog X.w) A (richCompare .Eq u (.ref a) >>= truthOfDropped) Q E' s := by
    refine wpAny_bind (wpAny_mono h (fun v s' hv => ?_) fun _ _ x => x)
    obtain ⟨r, rfl, q⟩ := hv
    exact wpAny_truthy_bool q
  cases u with
  | float x t => exact absurd rfl (hf x t)
  | _ => exact fin
theorem eqAny_run (N : Eo4 X.K X.mg c) (M : Mo X.prog X.w X.K X.mg X.base CX k c "__eq__" ps sp) (hx : Passes CX X E) {A' : Around} (hr : Room k A') {pins : List (Addr × Obj)} {σ : L2.St} {H : Hp} {s : Shared} (e0 : Env0 X.prog X.w X.K X.mg X.base A' X.stack s H) {a dx : Addr} {fs : List (Str × V)} {y : V} {u : Value} {Q : Bool → Hp → Prop}
    (I : Inv X pins σ H s) (ry : RelV y u) (ha : H a = some (.ins (cls X.mg c) dx fs)) (h : rEqAny (cls X.mg c) sp E y a H Q) : wpAny (model X.prog X.w) A' (eqBool u (.ref a)) (fun b s' => ∃ H', Inv X pins σ H' s' ∧ Q b H') X.xe s := by
  obtain ⟨f, fd, h1, h2, h3⟩ := M.ex
  obtain ⟨mA, J, _⟩ := ins_get I.hok ha
  obtain ⟨od, J, _⟩ := J.look
  obtain ⟨m, hF⟩ := I.fr
  rcases h with ⟨i, rfl, q⟩ | ⟨b, dy, gs, rfl, hne, hb, q⟩ | ⟨d, kvs, rfl, hd, q⟩
  · obtain ⟨t, rfl⟩ := ry
    refine eqBool_rc (fun z => nomatch z) (fun _ _ z => nomatch z) ?_
    exact rc_left hr.units0 I.kIn (typeIs_int _ _ _) (PySem.W.Looks.of_pure rfl) J N.si PySem.F.slot_int_eq (fun Q' q' => int_eq_own I.kIn J q') h1.at_ h1.fn (wpAny_mono (run_own2 h2 h3 hr e0 hx I (show RelV (.int i) (.int i t) from ⟨t, rfl⟩) q) (fun v s' z => by
      obtain ⟨z, H', I', rz, r, rfl, q2⟩ := z
      cases rz
      exact ⟨r, rfl, H', I', q2⟩) fun _ _ e => e)
  · cases ry
    obtain ⟨mB, J', _⟩ := ins_get I.hok hb
    obtain ⟨od', J', _⟩ := J'.look
    refine eqBool_rc (fun z => hne (Value.ref.inj z)) (fun _ _ z => nomatch z) ?_
    exact PySem.W.cmp_K (op := .Eq) (tb := .ref (cls X.mg c)) hr.units0 hF I.ok.mod.kin J' J.type (by simp [PySem.W.notFirst]) h1.at_ h1.fn (wpAny_mono (run_own2 h2 h3 hr e0 hx I (show RelV (.ref a) (.ref a) from rfl) q) (fun v s' z => by
      obtain ⟨z, H', I', rz, r, rfl, q2⟩ := z
      cases rz
      exact ⟨r, rfl, H', I', q2⟩) fun _ _ e => e)
  · cases ry
    have hth : Thing X.K H (.ref d) "dict" := .dic hd
    obtain ⟨P, Z, p, _⟩ := kit_of I (show RelV (.ref d) (.ref d) from rfl) hth.ty
    have hT : s.TypeIs (.ref d) "dict" := by
      obtain ⟨_, _, vs, _, o, es, ep, g1, g2, _⟩ := (show ObjOk X.prog X.w H s.heap d (.dK kvs) from I.hok d _ hd)
      exact ⟨_, g1, g2.1⟩
    have hda : d ≠ a := ne_of hd ha (by intro z; cases z)
    refine eqBool_rc (fun z => hda (Value.ref.inj z)) (fun _ _ z => nomatch z) ?_
    exact rc_left hr.units0 I.kIn hT (Z.ty _ _ I.kIn p) J N.sd PySem.F.slot_dict_eq (fun Q' q' => dict_eq_own I.kIn hT J N.md q') h1.at_ h1.fn (wpAny_mono (run_own2 h2 h3 hr e0 hx I (show RelV (.ref d) (.ref d) from rfl) q) (fun v s' z => by
      obtain ⟨z, H', I', rz, r, rfl, q2⟩ := z
      cases rz
      exact ⟨r, rfl, H', I', q2⟩) fun _ _ e => e)
def FinO (prog : Program) (w : World) (A : Around) (R : Result → Shared → Prop) : Fin → Shared → Prop := fun fin s' => match fin with
  | .done f => R (.ok f) s'
  | .again c' => c'.quiet = true ∧ codeAny (model prog w) A c' R s'
theorem in_loop (N : Eo4 X.K X.mg c) (M : Mo X.prog X.w X.K X.mg X.base CX k c "__eq__" ps sp) (hx : Passes CX X E) (hr : Room (k + 1) X.A) {pins : List (Addr × Obj)} {σ : L2.St} {R : Result → Shared → Prop} {a dx l : Addr} {fs : List (Str × V)} {xs : List V} {Q : Bool → Hp → Prop}
    (hQ : ∀ b s' H', Inv X pins σ H' s' → Q b H' → R (.ok (.ret (.bool b))) s') (hE : ∀ e s', X.xe e s' → R (.error e) s') (n : Nat) : ∀ i, xs.length - i = n → ∀ s H, Inv X pins σ H s → H a = some (.ins (cls X.mg c) dx fs) → H l = some (.lst xs) → tInO (cls X.mg c) sp E a (xs.drop i) H Q →
      wpAny (model X.prog X.w) X.A.in1 (Builtin.«list.__contains__.loop» ⟨[.ref l, .ref a, rawInt i], []⟩) (FinO X.prog X.w X.A R) (fun e s' => R (.error e) s') s := by
  induction n with
  | zero =>
    intro i hi s H I ha hl h
    obtain ⟨_, its, n, rv, g⟩ := (show ObjOk X.prog X.w H s.heap l (.lst xs) from I.hok l _ hl)
    have hlen : its.length = xs.length := (Vals.length rv).symm
    have hd : xs.drop i = [] := List.drop_eq_nil_of_le (by omega)
    rw [hd] at h
    have hR := hQ false s H I h
    obtain ⟨hp, gg, d, tk, os⟩ := s
    wp_walk using AutoSeq1.wpAny_loadPart' g
    have hi2 : its.toArray[((i : Nat) : Int).toNat]? = none := by simp; omega
    rw [hi2]
    wp_walk
    exact hR
  | succ n ih =>
    intro i hi s H I ha hl h
    obtain ⟨_, its, n', rv, g⟩ := (show ObjOk X.prog X.w H s.heap l (.lst xs) from I.hok l _ hl)
    have hlen : its.length = xs.length := (Vals.length rv).symm
    have hlt : i < xs.length := by omega
    have hlt2 : i < its.length := by omega
    rw [List.drop_eq_getElem_cons hlt] at h
    have ry : RelV xs[i] its[i] := by
      obtain ⟨u, g1, g2⟩ := Vals.get rv (List.getElem?_eq_getElem hlt)
      rw [List.getElem?_eq_getElem hlt2] at g1
      cases g1
      exact g2
    have turn := eqAny_run N M hx hr.in1 I.env0.in1 I ry ha h
    obtain ⟨hp, gg, d, tk, os⟩ := s
    wp_walk using AutoSeq1.wpAny_loadPart' g
    have hi2 : its.toArray[((i : Nat) : Int).toNat]? = some its[i] := by simp [hlt2]
    rw [hi2]
    refine wpAny_bind (wpAny_mono turn (fun b s' z => ?_) fun e s' z => hE e s' z)
    obtain ⟨H', I', s2, q⟩ := z
    cases b with
    | true =>
      rw [if_pos rfl] at q
      wp_walk
      exact hQ true s' H' I' q
    | false =>
      rw [if_neg (by simp)] at q
      have hnext := ih (i + 1) (by omega) s' H' I' (s2 _ _ ha) (s2 _ _ hl) q
      wp_walk
      exact ⟨plainId_quiet MeetsSeq.plain_contains_loop _, codeAny_builtin MeetsSeq.entry_contains_loop (by
        rw [Around.under_plainId MeetsSeq.plain_contains_loop _]
        exact hnext)⟩
theorem in_run (N : Eo4 X.K X.mg c) (M : Mo X.prog X.w X.K X.mg X.base CX k c "__eq__" ps sp) (hx : Passes CX X E) (hr : Room (k + 1) X.A) {pins : List (Addr × Obj)} {σ : L2.St} {a dx l : Addr} {fs : List (Str × V)} {xs : List V} {Q : Bool → Hp → Prop} {Q' : Bool → Shared → Prop} {s : Shared} {H : Hp}
    (hQ : ∀ b s' H', Inv X pins σ H' s' → Q b H' → Q' b s') (I : Inv X pins σ H s) (ha : H a = some (.ins (cls X.mg c) dx fs)) (hl : H l = some (.lst xs)) (h : tInO (cls X.mg c) sp E a xs H Q) : wpAny (model X.prog X.w) X.A (contains (.ref l) (.ref a)) Q' X.xe s := by
  obtain ⟨_, its, n, rv, g⟩ := (show ObjOk X.prog X.w H s.heap l (.lst xs) from I.hok l _ hl)
  have hT : s.TypeIs (.ref l) "list" := ⟨_, g, rfl⟩
  refine wpAny_contains_slot hT PySem.F.slot_list_contains (wpAny_call (codeAny_call_builtin PySem.F.slot_list_contains.plain PySem.F.entry_list_contains (PySem.F.slot_list_contains.check _ _ _ _ _ _ _ _ hT (PySem.F.args_list_contains_2 _ _) ?_)))
  have lp := in_loop N M hx hr (R := fun r s' => match r with | .ok (.ret v) => wpAny (model X.prog X.w) X.A (truthy v) Q' X.xe s' | .ok _ => False | .error e => X.xe e s') (Q := Q) (fun b s' H' I' q => wpAny_truthy_bool (hQ b s' H' I' q)) (fun e s' z => z) (xs.length - 0) 0 rfl s H I ha hl h
  unfold Builtin.«list.__contains__»
  refine wpAny_bind (m := slotArgs "__contains__" 1 _) (wpAny_pure ?_)
  refine wpAny_pure ⟨plainId_quiet MeetsSeq.plain_contains_loop _, codeAny_builtin MeetsSeq.entry_contains_loop (by
    rw [Around.under_plainId MeetsSeq.plain_contains_loop _]
    exact lp)⟩
theorem op_inO (N : Eo4 X.K X.mg c) (M : Mo X.prog X.w X.K X.mg X.base CX k c "__eq__" ps sp) (hr : Room (k + 1) X.A) (hx : Passes CX X E) : OpR X (compareOp .In) (rInO (cls X.mg c) sp E false) := by
  intro pins s σ H x y v u Q I rx ry h
  obtain ⟨a, dx, fs, l, xs, rfl, rfl, ha, hl, q⟩ := h
  cases rx
  cases ry
  show wpAny _ X.A (do return Value.bool (← contains (.ref l) (.ref a))) _ X.xe s
  exact wpAny_bind (in_run N M hx hr (fun b s' H' I' q => wpAny_pure ⟨.bl b, H', I', rfl, q⟩) I ha hl q)
theorem op_notInO (N : Eo4 X.K X.mg c) (M : Mo X.prog X.w X.K X.mg X.base CX k c "__eq__" ps sp) (hr : Room (k + 1) X.A) (hx : Passes CX X E) : OpR X (compareOp .NotIn) (rInO (cls X.mg c) sp E true) := by
  intro pins s σ H x y v u Q I rx ry h
  obtain ⟨a, dx, fs, l, xs, rfl, rfl, ha, hl, q⟩ := h
  cases rx
  cases ry
  show wpAny _ X.A (do return Value.bool (!(← contains (.ref l) (.ref a)))) _ X.xe s
  exact wpAny_bind (in_run N M hx hr (fun b s' H' I' q => wpAny_pure ⟨.bl (!b), H', I', rfl, q⟩) I ha hl q)
end
end Nk
namespace Nk
open PySem L2
section
variable {X : Cx}
/-- sep.join(a list of texts) -/
def rJoin (K : PySem.W.Frag) : V → List V → Hp → VK → Prop := fun x xs H Q => ∃ a p, ∃ ys : List Str, x = .str a ∧ xs = [.ref p] ∧ SqL K H p (ys.map V.str) ∧ (ys.map (·.length)).sum + ys.length * a.length ≤ 16777216 ∧ Q (.str (Txt.join a ys)) H
theorem mt_joinT : MtR X "str.join" (rJoin X.K) := by
  intro pins s σ H x xs v us Q I rx rs h
  obtain ⟨a, p, ys, e1, e2, hp, hz, q⟩ := h
  exact mt_join pins s σ H x xs v us Q I rx rs ⟨a, p, ys, e1, e2, .inl hp, hz, q⟩
theorem mt_joinK (K : PySem.W.Frag) (h : X.K = K) : MtR X "str.join" (rJoin K) := h ▸ mt_joinT
end
end Nk
/-! ### what the top leaves, read off its run by a Hook -/
namespace Nk
open PySem L2 PySem.Spec PyProof.Rows
/-- a fact about the top as it stands -/
inductive NFa where
  | glo (x : Str)
  | xc (x : Str)
  | oc (c : Str)
  | md (c m : Str)
  | na (c f : Str)
  | eo (x f : Str)
  | eo2 (c : Str)
  | eo3 (c : Str)
  | eo4 (c : Str)
  | sb (c d : Str)
  | cf (c m : Str)
  | kc
  | ec (x : Str)
  | ci (x : Str) (i : Int)
  | cs (x z : Str)
  | cl (x : Str) (ss : List Str)
  | free (x : Str)
def hG (K : PySem.W.Frag) (x : Str) : Bool := He.eqO (PySem.W.nsIn K mainGlobals x) (some (some (.ref (He.ga K x))))
def hF (K : PySem.W.Frag) (C : Addr) (m : Str) (v : Option Value) : Bool := He.eqO (PySem.W.findIn K (.ref C) m) (some v)
def hS (K : PySem.W.Frag) (v : Value) (m : Str) (u : Option Value) : Bool := He.eqO (PySem.W.specialIn K v m) (some u)
def hB (a : Option Bool) (b : Bool) : Bool := decide (a = some b)
def hT (a : Option Value) (b : Value) : Bool := decide (a = some b)
def hEx (K : PySem.W.Frag) (C : Addr) : Bool := match K.lookup C with
  | some ⟨.type t, _, .cls cd, sl⟩ => (match cd.mro, sl.toList with
    | [.ref C', .ref _, .type r, .type e, .type b, .type o], [_, _, _, _, some (.builtin n), _] => decide (t = "type") && (decide (C' = C) && (decide (r = "RuntimeError") && (decide (e = "Exception") && (decide (b = "BaseException") && (decide (o = "object") && (decide (n = "RuntimeError.__new__") && (cd.hasDict && !cd.hasDel)))))))
    | _, _ => false)
  | _ => false
def hM (K : PySem.W.Frag) (C : Addr) (nm : Str) (mro : List Value) : Bool := match K.lookup C with
  | some ⟨_, _, .cls cd, _⟩ => decide (cd.name = nm) && decide (cd.mro = mro)
  | _ => false
def NFa.ok (K : PySem.W.Frag) : NFa → Bool
  | .glo x => hG K x
  | .xc x => hG K x && (PySem.W.excIn K (He.ga K x) [.type "RuntimeError", .type "Exception", .type "BaseException", .type "object"] "RuntimeError.__new__" && (PySem.W.keepIn K (.ref (He.ga K x)) && (hB (PySem.W.subIn K (.ref (He.ga K x)) (.type "BaseException")) true && hT (PySem.W.typeIn K (.ref (He.ga K x))) (.type "type"))))
  | .oc c => hG K c && (PySem.W.plainGet K (He.ga K c) Str.empty && (PySem.W.hasDictIn K (He.ga K c) && (PySem.W.plainOver K (He.ga K c) && (hF K (He.ga K c) "__setattr__" (some (.builtin "object.__setattr__")) && (PySem.W.makesIn K (He.ga K c) && PySem.W.keepIn K (.ref (He.ga K c)))))))
  | .md c m => hG K c && (hF K (He.ga K c) m (some (.ref (He.ma K (He.ga K c) m))) && PySem.W.isFn K (.ref (He.ma K (He.ga K c) m)))
  | .na c f => hG K c && hF K (He.ga K c) f none
  | .eo x f => hG K x && (hEx K (He.ga K x) && (hF K (He.ga K x) "__setattr__" (some (.builtin "object.__setattr__")) && (hB (PySem.W.subIn K (.ref (He.ga K x)) (.type "BaseException")) true && (hT (PySem.W.typeIn K (.ref (He.ga K x))) (.type "type") && (PySem.W.keepIn K (.ref (He.ga K x)) &&
      (hF K (He.ga K x) f none && (hF K (He.ga K x) "__init__" (some (.ref (He.ma K (He.ga K x) "__init__"))) && hT (PySem.W.typeIn K (.ref (He.ma K (He.ga K x) "__init__"))) (.type "function"))))))))
  | .eo2 c => hG K c && (hF K (He.ga K c) "__ne__" (some (.builtin "object.__ne__")) && (hB (PySem.W.subIn K (.ref (He.ga K c)) (.type "object")) true && (hF K (He.ga K c) "__class__" (some (.builtin "object.__class__")) &&
      (hS K (.builtin "object.__class__") "__get__" (some (.builtin "getset_descriptor.__get__")) && (hB (PySem.W.takesIn K (.builtin "object.__class__")) true && hB (PySem.W.mroIn K (He.ga K c) (.type "object")) true)))))
  | .eo3 c => hG K c && (hT (PySem.W.typeIn K (.ref (He.ga K c))) (.type "type") && hB (PySem.W.mroIn K (He.ga K c) (.type "int")) false)
  | .eo4 c => hG K c && (hF K (He.ga K c) "__format__" (some (.builtin "object.__format__")) && (hB (PySem.W.subIn K (.ref (He.ga K c)) (.type "dict")) false && (hB (PySem.W.subIn K (.ref (He.ga K c)) (.type "int")) false && hB (PySem.W.mroIn K (He.ga K c) (.type "dict")) false)))
  | .sb c d => hG K c && (hG K d && (hF K (He.ga K c) "__class__" (some (.builtin "object.__class__")) && (hS K (.builtin "object.__class__") "__get__" (some (.builtin "getset_descriptor.__get__")) && (hB (PySem.W.takesIn K (.builtin "object.__class__")) true && (hB (PySem.W.mroIn K (He.ga K c) (.type "object")) true &&
      (hB (PySem.W.mroIn K (He.ga K c) (.ref (He.ga K d))) true && (hT (PySem.W.typeIn K (.ref (He.ga K d))) (.type "type") && hB (PySem.W.mroIn K (He.ga K d) (.type "object")) true)))))))
  | .cf c m => hG K c && (PySem.W.readsIn K (He.ga K c) (.type "type") && (hS K (.ref (He.ga K c)) "__getattribute__" (some (.builtin "type.__getattribute__")) && ((match PySem.W.findCls K (.ref (He.ga K c)) (.type "type") m with
      | some (.val (.ref a)) => decide (a = He.ma K (He.ga K c) m)
      | _ => false) && hF K (He.ga K c) m (some (.ref (He.ma K (He.ga K c) m))))))
  | .kc => hG K "KeepError" && (hM K (He.ga K "KeepError") "KeepError" [.ref (He.ga K "KeepError"), .type "RuntimeError", .type "Exception", .type "BaseException", .type "object"] && (hT (PySem.W.typeIn K (.ref (He.ga K "KeepError"))) (.type "type") && PySem.W.hasDictIn K (He.ga K "KeepError")))
  | .ec x => hG K "KeepError" && (hG K x && (hM K (He.ga K x) x [.ref (He.ga K x), .ref (He.ga K "KeepError"), .type "RuntimeError", .type "Exception", .type "BaseException", .type "object"] && (hT (PySem.W.typeIn K (.ref (He.ga K x))) (.type "type") && (PySem.W.hasDictIn K (He.ga K x) &&
      (hF K (He.ga K x) "__getattribute__" (some (.builtin "BaseException.__getattribute__")) && (hF K (He.ga K x) "__getattr__" none && (hF K (He.ga K x) "__class__" (some (.builtin "object.__class__")) && (hS K (.builtin "object.__class__") "__get__" (some (.builtin "getset_descriptor.__get__")) && hB (PySem.W.takesIn K (.builtin "object.__class__")) true))))))))
  | .ci x i => (He.Fa.int x i).ok K
  | .cs x z => (He.Fa.str x z).ok K
  | .cl x ss => hG K x && He.lstB K x (ss.map He.Dv.str)
  | .free x => He.eqO (PySem.W.nsIn K mainGlobals x) (some none)
theorem hG_ok {K : PySem.W.Frag} {x : Str} (h : hG K x = true) : PySem.W.nsIn K mainGlobals x = some (some (.ref (He.ga K x))) := He.eqO_ok h
theorem hF_ok {K : PySem.W.Frag} {C : Addr} {m : Str} {v : Option Value} (h : hF K C m v = true) : PySem.W.findIn K (.ref C) m = some v := He.eqO_ok h
theorem hS_ok {K : PySem.W.Frag} {a : Value} {m : Str} {u : Option Value} (h : hS K a m u = true) : PySem.W.specialIn K a m = some u := He.eqO_ok h
theorem hB_ok {a : Option Bool} {b : Bool} (h : hB a b = true) : a = some b := of_decide_eq_true h
theorem hT_ok {a : Option Value} {b : Value} (h : hT a b = true) : a = some b := of_decide_eq_true h
theorem hEx_ok {K : PySem.W.Frag} {C : Addr} (h : hEx K C = true) : ∃ nm q N bs B sn sub ab col dd k0 k1 k2 k3 k5, K.lookup C = some (excClassObj nm q C N bs (.ref B :: rtTail) true sn sub ab col dd k0 k1 k2 k3 k5 "RuntimeError.__new__") := by
  unfold hEx at h
  split at h
  · rename_i t dd cd sl ho
    split at h
    · rename_i C' B r e b o k0 k1 k2 k3 n k5 hm hs
      simp only [Bool.and_eq_true, decide_eq_true_eq, Bool.not_eq_true'] at h
      obtain ⟨h1, h2, h3, h4, h5, h6, h7, h8, h9⟩ := h
      subst h1 h2 h3 h4 h5 h6 h7
      obtain ⟨nm, bs, mro, N, q, hd, sn, sub, ab, col, dl⟩ := cd
      obtain ⟨sl⟩ := sl
      simp only at hm hs h8 h9
      subst hm hs h8 h9
      exact ⟨nm, q, N, bs, B, sn, sub, ab, col, dd, k0, k1, k2, k3, k5, ho⟩
    · cases h
  · cases h
theorem hM_ok {K : PySem.W.Frag} {C : Addr} {nm : Str} {mro : List Value} (h : hM K C nm mro = true) : ∃ oc od osl bs N q sn sub hd ab dl col, K.lookup C = some ⟨oc, od, .cls { name := nm, bases := bs, mro := mro, ns := N, qualname := q, hasDict := hd, slotNames := sn, subclasses := sub, abstract := ab, collection := col, hasDel := dl }, osl⟩ := by
  unfold hM at h
  split at h
  · rename_i oc od cd osl ho
    simp only [Bool.and_eq_true, decide_eq_true_eq] at h
    obtain ⟨nm', bs, mro', N, q, hd, sn, sub, ab, col, dl⟩ := cd
    obtain ⟨h1, h2⟩ := h
    simp only at h1 h2
    subst h1 h2
    exact ⟨oc, od, osl, bs, N, q, sn, sub, hd, ab, dl, col, ho⟩
  · cases h
section
variable {K : PySem.W.Frag} {h : Heap} {mg : Str → Option Value}
theorem nfa_xc {x : Str} (c : (NFa.xc x).ok K = true) (X : K.In h) (G : h.Ns mainGlobals mg) : Xc K mg x (cls mg x) := by
  obtain ⟨c1, c⟩ := He.ba c
  obtain ⟨c2, c⟩ := He.ba c
  obtain ⟨c3, c⟩ := He.ba c
  obtain ⟨c4, c5⟩ := He.ba c
  exact xc_mk X G (hG_ok c1) c2 c3 (hB_ok c4) (hT_ok c5)
theorem nfa_oc {c : Str} (z : (NFa.oc c).ok K = true) (X : K.In h) (G : h.Ns mainGlobals mg) : Oc K mg c := by
  obtain ⟨c1, z⟩ := He.ba z
  obtain ⟨c2, z⟩ := He.ba z
  obtain ⟨c3, z⟩ := He.ba z
  obtain ⟨c4, z⟩ := He.ba z
  obtain ⟨c5, z⟩ := He.ba z
  obtain ⟨c6, c7⟩ := He.ba z
  exact oc_mk X G (hG_ok c1) c2 c3 c4 (hF_ok c5) c6 c7
theorem nfa_na {c f : Str} (z : (NFa.na c f).ok K = true) (X : K.In h) (G : h.Ns mainGlobals mg) : NoAttr K (cls mg c) f := by
  obtain ⟨c1, c2⟩ := He.ba z
  exact na_mk X G (hG_ok c1) (hF_ok c2)
theorem nfa_ci {x : Str} {i : Int} (z : (NFa.ci x i).ok K = true) (X : K.In h) (G : h.Ns mainGlobals mg) : ∃ t, mg x = some (.int i t) := He.int_ok X G z
theorem nfa_cs {x y : Str} (z : (NFa.cs x y).ok K = true) (X : K.In h) (G : h.Ns mainGlobals mg) : ∃ t, mg x = some (.str y t) := He.str_ok X G z
theorem nfa_free {x : Str} (z : (NFa.free x).ok K = true) (X : K.In h) (G : h.Ns mainGlobals mg) : mg x = none := PySem.W.mg_none_of X G (He.eqO_ok z)
theorem nfa_df {x : Str} {st : Stmt} {ps : List Str} {fd : FuncData} (z : (NFa.glo x).ok K = true) (F : FunD K x x (defArgs st) (defBody st) (defScope st) [] [] (He.ga K x) fd) (X : K.In h) (G : h.Ns mainGlobals mg)
    (hb : ∀ (kV doc pm : Value) (an : Option Addr) (cdv ct : Value) (us : List Value), us.length = ps.length → bindArgs (PySem.W.fnOf x x (defArgs st) (defBody st) (defScope st) .none kV doc pm an cdv ct) ⟨us, []⟩ = pure (ps.zip us)) : Df K mg x x st ps := by
  obtain ⟨oc, od, dV, kV, doc, pm, an, cdv, ct, osl, rfl, lk, hcd, hD, _⟩ := F.ex
  rcases hD with ⟨_, rfl⟩ | ⟨e, _⟩
  · exact df_mk X G hb (hG_ok z) lk hcd F.kp
  · exact absurd rfl e
end
end Nk
namespace Nk
open PySem L2 PySem.Spec PyProof.Rows
section
variable {K : PySem.W.Frag} {h : Heap} {mg : Str → Option Value}
theorem nfa_md {c m qual : Str} {st : Stmt} {ps : List Str} {fd : FuncData} (z : (NFa.md c m).ok K = true) (F : FunD K m qual (defArgs st) (defBody st) (defScope st) [] [] (He.ma K (He.ga K c) m) fd) (X : K.In h) (G : h.Ns mainGlobals mg)
    (hb : ∀ (kV doc pm : Value) (an : Option Addr) (cdv ct : Value) (us : List Value), us.length = ps.length → bindArgs (PySem.W.fnOf m qual (defArgs st) (defBody st) (defScope st) .none kV doc pm an cdv ct) ⟨us, []⟩ = pure (ps.zip us)) : Md K mg c m qual st ps := by
  obtain ⟨c1, z⟩ := He.ba z
  obtain ⟨c2, c3⟩ := He.ba z
  obtain ⟨oc, od, dV, kV, doc, pm, an, cdv, ct, osl, rfl, lk, hcd, hD, _⟩ := F.ex
  rcases hD with ⟨_, rfl⟩ | ⟨e, _⟩
  · exact md_mk X G hb (hG_ok c1) (hF_ok c2) c3 lk hcd F.kp
  · exact absurd rfl e
theorem nfa_eo {x qual : Str} {st : Stmt} {ps : List Str} {f : Str} {fd : FuncData} (z : (NFa.eo x f).ok K = true) (F : FunD K "__init__" qual (defArgs st) (defBody st) (defScope st) [] [] (He.ma K (He.ga K x) "__init__") fd) (X : K.In h) (G : h.Ns mainGlobals mg)
    (hb : ∀ (kV doc pm : Value) (an : Option Addr) (cdv ct : Value) (us : List Value), us.length = ps.length → bindArgs (PySem.W.fnOf "__init__" qual (defArgs st) (defBody st) (defScope st) .none kV doc pm an cdv ct) ⟨us, []⟩ = pure (ps.zip us)) : Eo K mg x qual st ps f := by
  obtain ⟨c1, z⟩ := He.ba z
  obtain ⟨c2, z⟩ := He.ba z
  obtain ⟨c3, z⟩ := He.ba z
  obtain ⟨c4, z⟩ := He.ba z
  obtain ⟨c5, z⟩ := He.ba z
  obtain ⟨c6, z⟩ := He.ba z
  obtain ⟨c7, z⟩ := He.ba z
  obtain ⟨c8, c9⟩ := He.ba z
  obtain ⟨nm, q, N, bs, B, sn, sub, ab, col, dd, k0, k1, k2, k3, k5, hC⟩ := hEx_ok c2
  obtain ⟨oc, od, dV, kV, doc, pm, an, cdv, ct, osl, rfl, lk, hcd, hD, _⟩ := F.ex
  rcases hD with ⟨_, rfl⟩ | ⟨e, _⟩
  · exact eo_mk X G hb (hG_ok c1) hC (hF_ok c3) (hB_ok c4) (hT_ok c5) c6 (hF_ok c7) (hF_ok c8) (hT_ok c9) lk hcd F.kp
  · exact absurd rfl e
theorem nfa_eo2 {c : Str} (z : (NFa.eo2 c).ok K = true) (X : K.In h) (G : h.Ns mainGlobals mg) : Eo2 K mg c := by
  obtain ⟨c1, z⟩ := He.ba z
  obtain ⟨c2, z⟩ := He.ba z
  obtain ⟨c3, z⟩ := He.ba z
  obtain ⟨c4, z⟩ := He.ba z
  obtain ⟨c5, z⟩ := He.ba z
  obtain ⟨c6, c7⟩ := He.ba z
  exact eo2_mk X G (hG_ok c1) (hF_ok c2) (hB_ok c3) (hF_ok c4) (hS_ok c5) (hB_ok c6) (hB_ok c7)
theorem nfa_eo3 {c : Str} (z : (NFa.eo3 c).ok K = true) (X : K.In h) (G : h.Ns mainGlobals mg) : Eo3 K mg c := by
  obtain ⟨c1, z⟩ := He.ba z
  obtain ⟨c2, c3⟩ := He.ba z
  exact eo3_mk X G (hG_ok c1) (hT_ok c2) (hB_ok c3)
theorem nfa_sb {c d : Str} (z : (NFa.sb c d).ok K = true) (X : K.In h) (G : h.Ns mainGlobals mg) : Sb K mg c d := by
  obtain ⟨c1, z⟩ := He.ba z
  obtain ⟨c2, z⟩ := He.ba z
  obtain ⟨c3, z⟩ := He.ba z
  obtain ⟨c4, z⟩ := He.ba z
  obtain ⟨c5, z⟩ := He.ba z
  obtain ⟨c6, z⟩ := He.ba z
  obtain ⟨c7, z⟩ := He.ba z
  obtain ⟨c8, c9⟩ := He.ba z
  exact sb_mk X G (hG_ok c1) (hG_ok c2) (hF_ok c3) (hS_ok c4) (hB_ok c5) (hB_ok c6) (hB_ok c7) (hT_ok c8) (hB_ok c9)
theorem nfa_cf {c m : Str} (z : (NFa.cf c m).ok K = true) (X : K.In h) (G : h.Ns mainGlobals mg) : Cf K mg c m := by
  obtain ⟨c1, z⟩ := He.ba z
  obtain ⟨c2, z⟩ := He.ba z
  obtain ⟨c3, z⟩ := He.ba z
  obtain ⟨c4, c5⟩ := He.ba z
  refine cf_mk (mc := .type "type") (f := He.ma K (He.ga K c) m) X G (hG_ok c1) c2 (hS_ok c3) ?_ (hF_ok c5)
  split at c4
  · rename_i a e
    rw [e, of_decide_eq_true c4]
  · cases c4
theorem nfa_kc (z : NFa.kc.ok K = true) (X : K.In h) (G : h.Ns mainGlobals mg) : Kc K mg := by
  obtain ⟨c1, z⟩ := He.ba z
  obtain ⟨c2, z⟩ := He.ba z
  obtain ⟨c3, c4⟩ := He.ba z
  obtain ⟨oc, od, osl, bs, N, q, sn, sub, hd, ab, dl, col, l⟩ := hM_ok c2
  exact kc_mk X G (hG_ok c1) l (hT_ok c3) c4
theorem nfa_ec {x : Str} (z : (NFa.ec x).ok K = true) (X : K.In h) (G : h.Ns mainGlobals mg) : Ec K mg x := by
  obtain ⟨c1, z⟩ := He.ba z
  obtain ⟨c2, z⟩ := He.ba z
  obtain ⟨c3, z⟩ := He.ba z
  obtain ⟨c4, z⟩ := He.ba z
  obtain ⟨c5, z⟩ := He.ba z
  obtain ⟨c6, z⟩ := He.ba z
  obtain ⟨c7, z⟩ := He.ba z
  obtain ⟨c8, z⟩ := He.ba z
  obtain ⟨c9, c10⟩ := He.ba z
  obtain ⟨oc, od, osl, bs, N, q, sn, sub, hd, ab, dl, col, l⟩ := hM_ok c3
  exact ec_mk X G (hG_ok c1) (hG_ok c2) l (hT_ok c4) c5 (hF_ok c6) (hF_ok c7) (hF_ok c8) (hS_ok c9) (hB_ok c10)
theorem nfa_cl {x : Str} {ss : List Str} (z : (NFa.cl x ss).ok K = true) (X : K.In h) (G : h.Ns mainGlobals mg) : Cl K mg x ss := by
  obtain ⟨c1, c2⟩ := He.ba z
  have g := PySem.W.mg_of X G (hG_ok c1)
  have e := cls_of g
  have s := He.lstB_ok c2 (fun _ => none)
  refine ⟨by rw [e]; exact g, ?_⟩
  rw [e]
  rcases s with (s | ⟨_, s⟩) | ⟨o, its, n, h1, h2, h3, h4, h5, h6⟩
  · cases s
  · cases s
  · refine ⟨o, its, n, h1, h2, h3, h4, h5, ?_⟩
    rw [List.map_map] at h6
    exact h6
theorem nfa_sd {c qual : Str} {st : Stmt} {ps : List Str} {dvs : List V} {fd : FuncData} (z : (NFa.md c "__init__").ok K = true) (F : FunD K "__init__" qual (defArgs st) (defBody st) (defScope st) dvs [] (He.ma K (He.ga K c) "__init__") fd) (X : K.In h) (G : h.Ns mainGlobals mg) : Sd K mg c qual st ps dvs := by
  obtain ⟨c1, z⟩ := He.ba z
  obtain ⟨c2, c3⟩ := He.ba z
  have e := cls_of (PySem.W.mg_of X G (hG_ok c1))
  exact ⟨_, fd, F, by rw [e]; exact ⟨hF_ok c2, c3, F.kp⟩⟩
end
/-! the Hook -/
def hAs (n : Nat) : List Addr := mainGlobals :: (List.range n).reverse
def hObs (fa : List NFa) (fn : List He.DefD) (K : PySem.W.Frag) : He.AlD := ((fa.all fun f => f.ok K) && fn.all fun d => d.ok K, fn.map fun d => He.fnW K d.at_)
def hSays (fa : List NFa) (fn : List He.DefD) (K : PySem.W.Frag) : Prop := hObs fa fn K = He.valD fn
def hObsG (n : Nat) (fa : List NFa) (fn : List He.DefD) (g : Addr → Option Obj) : He.AlD := hObs fa fn (He.frG g (hAs n))
def hookN (n : Nat) (fa : List NFa) (fn : List He.DefD) : PySem.W.Hook where
  α := He.AlD
  obs := fun s => hObsG n fa fn s.heap.get?
  val := fun _ => He.valD fn
  says := fun _ h => ∃ K : PySem.W.Frag, K.In h ∧ hSays fa fn K
  of := fun _ _ e => ⟨_, He.frG_in, e⟩
  keeps := fun _ _ _ ⟨K, hK, c⟩ k => ⟨K, PySem.W.Frag.In.keeps hK k, c⟩
theorem hObsG_eq {n : Nat} {fa : List NFa} {fn : List He.DefD} {g : Addr → Option Obj} {s : Shared} (h : ∀ a, g a = s.heap.get? a) : hObsG n fa fn g = (hookN n fa fn).obs s := by
  have e : g = s.heap.get? := funext h
  rw [e] <;> rfl
theorem hSays.fact {fa : List NFa} {fn : List He.DefD} {K : PySem.W.Frag} (c : hSays fa fn K) (i : Nat) {f : NFa} (h : fa[i]? = some f := by rfl) : f.ok K = true := by
  have c1 := (He.ba (show ((fa.all fun f => f.ok K) && fn.all fun d => d.ok K) = true from congrArg (fun z : He.AlD => z.1) c)).1
  exact List.all_eq_true.mp c1 f (List.mem_of_getElem? h)
theorem hSays.def_ {fa : List NFa} {fn : List He.DefD} {K : PySem.W.Frag} (c : hSays fa fn K) (i : Nat) {d : He.DefD} (h : fn[i]? = some d := by rfl) : ∃ fd, FunD K d.name d.qual d.params d.body d.scope (d.dvs K) (d.kws K) (He.fAd K d.at_) fd := by
  have c2 := (He.ba (show ((fa.all fun f => f.ok K) && fn.all fun d => d.ok K) = true from congrArg (fun z : He.AlD => z.1) c)).2
  have e : fn.map (fun d => He.fnW K d.at_) = fn.map He.DefD.val := congrArg (fun z : He.AlD => z.2) c
  have e2 : (fn.map fun d => He.fnW K d.at_)[i]? = (fn.map He.DefD.val)[i]? := by rw [e]
  rw [List.getElem?_map, List.getElem?_map, h] at e2
  exact He.DefD.funD (Option.some.inj e2) (List.all_eq_true.mp c2 d (List.mem_of_getElem? h))
/-- the run told in two -/
theorem run_join {r : PySem.W.OpenRow} {q : Program} {H : PySem.W.Hook} {ob : PySem.W.SharedT → H.α} {M : Nat} {loose : List PySem.Str} {w : World}
    (h1 : ∀ os : OsState, (HandSHeadRun.endF (HandSHeadRun.stepQ (HandSHeadRun.denQ HandSHeadRun.tabQ) r.prog w) M r.prog w os).map (fun s => (HandSHeadRun.looksF r.prog (PySem.W.boot_heap w.params) s.abs, HandSHeadRun.seenQ q loose (importedModules r.prog.main.body) (fun s => PySem.W.xlAt q [] s && PySem.W.recOk r.toRowW.records s) s.abs)) = some (true, PySem.W.openGood q loose))
    (h2 : ∀ os : OsState, (HandSHeadRun.endF (HandSHeadRun.stepQ (HandSHeadRun.denQ HandSHeadRun.tabQ) r.prog w) M r.prog w os).map ob = some (H.val w)) : HandSHeadRun.RunEq r q H ob M loose w := by
  intro os
  obtain ⟨s, hs, e⟩ := Option.map_eq_some_iff.mp (h1 os)
  have h2 := h2 os
  rw [hs] at h2 ⊢
  have h2 : ob s = H.val w := Option.some.inj h2
  obtain ⟨e1, e2⟩ := Prod.mk.inj e
  show some (_, _, ob s) = _
  rw [e1, e2, h2]
end Nk
namespace Nk
open PySem L2
section
variable {P : Program} {w : World} {K : PySem.W.Frag} {h : Heap} {mg : Str → Option Value}
theorem nfa_eo4 {c : Str} (z : (NFa.eo4 c).ok K = true) (X : K.In h) (G : h.Ns mainGlobals mg) : Eo4 K mg c := by
  obtain ⟨c1, z⟩ := He.ba z
  obtain ⟨c2, z⟩ := He.ba z
  obtain ⟨c3, z⟩ := He.ba z
  obtain ⟨c4, c5⟩ := He.ba z
  exact eo4_mk X G (hG_ok c1) (hF_ok c2) (hB_ok c3) (hB_ok c4) (hB_ok c5)
end
end Nk
namespace Nk
open PySem L2
def top (i : Nat) : Stmt := PySem.Challenge.pw_nightkeep_k40_states.main.body.getD i (.Pass ⟨0, 0, 0, 0⟩)
abbrev s_is_number : Stmt := top 4
abbrev s_is_name : Stmt := top 8
abbrev s_is_state : Stmt := top 9
abbrev s_State____init__ : Stmt := inClass (top 10) 0
abbrev s_State____len__ : Stmt := inClass (top 10) 1
abbrev s_State____eq__ : Stmt := inClass (top 10) 2
abbrev s_State____str__ : Stmt := inClass (top 10) 3
abbrev s_State____repr__ : Stmt := inClass (top 10) 4
abbrev s_State__number : Stmt := inClass (top 10) 5
abbrev s_State__names : Stmt := inClass (top 10) 6
abbrev s_State__plain : Stmt := inClass (top 10) 7
abbrev s__law_town : Stmt := top 12
abbrev s__law_draw : Stmt := top 13
abbrev s__law_pick : Stmt := top 14
abbrev s__law_whole : Stmt := top 15
abbrev s__law_name : Stmt := top 16
abbrev s__law_table : Stmt := top 17
abbrev s__law_later : Stmt := top 18
abbrev s__law_text : Stmt := top 19
abbrev s_law : Stmt := top 20
/-- what the walks ask of the top as it stands when it has run -/
structure Txt (K : PySem.W.Frag) (mg : Str → Option Value) : Prop where
  d_is_number : Df K mg "is_number" "is_number" s_is_number ["thing", "least", "most"]
  d_is_name : Df K mg "is_name" "is_name" s_is_name ["thing"]
  d_is_state : Df K mg "is_state" "is_state" s_is_state ["thing"]
  d__law_town : Df K mg "_law_town" "_law_town" s__law_town ["script"]
  d__law_draw : Df K mg "_law_draw" "_law_draw" s__law_draw ["script", "town", "many"]
  d__law_pick : Df K mg "_law_pick" "_law_pick" s__law_pick ["script", "town", "some"]
  d__law_whole : Df K mg "_law_whole" "_law_whole" s__law_whole ["thing"]
  d__law_name : Df K mg "_law_name" "_law_name" s__law_name ["script", "town", "names"]
  d__law_table : Df K mg "_law_table" "_law_table" s__law_table ["script", "town", "many"]
  d__law_later : Df K mg "_law_later" "_law_later" s__law_later ["script", "town", "table"]
  d__law_text : Df K mg "_law_text" "_law_text" s__law_text ["table"]
  d_law : Df K mg "law" "law" s_law ["script"]
  x_KeepError : Xc K mg "KeepError" (cls mg "KeepError")
  x_BadState : Xc K mg "BadState" (cls mg "BadState")
  o_State : Oc K mg "State"
  m_State____init__ : Md K mg "State" "__init__" "State.__init__" s_State____init__ ["self", "some"]
  m_State____len__ : Md K mg "State" "__len__" "State.__len__" s_State____len__ ["self"]
  m_State____eq__ : Md K mg "State" "__eq__" "State.__eq__" s_State____eq__ ["self", "other"]
  m_State____str__ : Md K mg "State" "__str__" "State.__str__" s_State____str__ ["self"]
  m_State____repr__ : Md K mg "State" "__repr__" "State.__repr__" s_State____repr__ ["self"]
  m_State__number : Md K mg "State" "number" "State.number" s_State__number ["self", "name"]
  m_State__names : Md K mg "State" "names" "State.names" s_State__names ["self"]
  m_State__plain : Md K mg "State" "plain" "State.plain" s_State__plain ["self"]
  v_State : Eo2 K mg "State"
  u_State : Eo3 K mg "State"
  t_State : Eo4 K mg "State"
  n_State__table : NoAttr K (cls mg "State") "table"
  c_LETTERS : ∃ t, mg "LETTERS" = some (.str "abcdefghijklmnopqrstuvwxyz" t)
  c_MOST_NAMES : ∃ t, mg "MOST_NAMES" = some (.int 20 t)
  b_all : mg "all" = none
  b_bool : mg "bool" = none
  b_dict : mg "dict" = none
  b_int : mg "int" = none
  b_isinstance : mg "isinstance" = none
  b_len : mg "len" = none
  b_list : mg "list" = none
  b_range : mg "range" = none
  b_repr : mg "repr" = none
  b_sorted : mg "sorted" = none
  b_str : mg "str" = none
end Nk
namespace Nk
open PySem L2 PySem.Spec PyProof.Rows
def hD_g_is_number : He.DefD := ⟨("is_number", none), "is_number", "is_number", defArgs s_is_number, defBody s_is_number, defScope s_is_number, [], []⟩
def hD_g_is_name : He.DefD := ⟨("is_name", none), "is_name", "is_name", defArgs s_is_name, defBody s_is_name, defScope s_is_name, [], []⟩
def hD_g_is_state : He.DefD := ⟨("is_state", none), "is_state", "is_state", defArgs s_is_state, defBody s_is_state, defScope s_is_state, [], []⟩
def hD_g__law_town : He.DefD := ⟨("_law_town", none), "_law_town", "_law_town", defArgs s__law_town, defBody s__law_town, defScope s__law_town, [], []⟩
def hD_g__law_draw : He.DefD := ⟨("_law_draw", none), "_law_draw", "_law_draw", defArgs s__law_draw, defBody s__law_draw, defScope s__law_draw, [], []⟩
def hD_g__law_pick : He.DefD := ⟨("_law_pick", none), "_law_pick", "_law_pick", defArgs s__law_pick, defBody s__law_pick, defScope s__law_pick, [], []⟩
def hD_g__law_whole : He.DefD := ⟨("_law_whole", none), "_law_whole", "_law_whole", defArgs s__law_whole, defBody s__law_whole, defScope s__law_whole, [], []⟩
def hD_g__law_name : He.DefD := ⟨("_law_name", none), "_law_name", "_law_name", defArgs s__law_name, defBody s__law_name, defScope s__law_name, [], []⟩
def hD_g__law_table : He.DefD := ⟨("_law_table", none), "_law_table", "_law_table", defArgs s__law_table, defBody s__law_table, defScope s__law_table, [], []⟩
def hD_g__law_later : He.DefD := ⟨("_law_later", none), "_law_later", "_law_later", defArgs s__law_later, defBody s__law_later, defScope s__law_later, [], []⟩
def hD_g__law_text : He.DefD := ⟨("_law_text", none), "_law_text", "_law_text", defArgs s__law_text, defBody s__law_text, defScope s__law_text, [], []⟩
def hD_g_law : He.DefD := ⟨("law", none), "law", "law", defArgs s_law, defBody s_law, defScope s_law, [], []⟩
def hD_m_State____init__ : He.DefD := ⟨("State", some "__init__"), "__init__", "State.__init__", defArgs s_State____init__, defBody s_State____init__, defScope s_State____init__, [], []⟩
def hD_m_State____len__ : He.DefD := ⟨("State", some "__len__"), "__len__", "State.__len__", defArgs s_State____len__, defBody s_State____len__, defScope s_State____len__, [], []⟩
def hD_m_State____eq__ : He.DefD := ⟨("State", some "__eq__"), "__eq__", "State.__eq__", defArgs s_State____eq__, defBody s_State____eq__, defScope s_State____eq__, [], []⟩
def hD_m_State____str__ : He.DefD := ⟨("State", some "__str__"), "__str__", "State.__str__", defArgs s_State____str__, defBody s_State____str__, defScope s_State____str__, [], []⟩
def hD_m_State____repr__ : He.DefD := ⟨("State", some "__repr__"), "__repr__", "State.__repr__", defArgs s_State____repr__, defBody s_State____repr__, defScope s_State____repr__, [], []⟩
def hD_m_State__number : He.DefD := ⟨("State", some "number"), "number", "State.number", defArgs s_State__number, defBody s_State__number, defScope s_State__number, [], []⟩
def hD_m_State__names : He.DefD := ⟨("State", some "names"), "names", "State.names", defArgs s_State__names, defBody s_State__names, defScope s_State__names, [], []⟩
def hD_m_State__plain : He.DefD := ⟨("State", some "plain"), "plain", "State.plain", defArgs s_State__plain, defBody s_State__plain, defScope s_State__plain, [], []⟩
def hFn0 : List He.DefD := [hD_g_is_number, hD_g_is_name, hD_g_is_state, hD_g__law_town, hD_g__law_draw, hD_g__law_pick, hD_g__law_whole, hD_g__law_name, hD_g__law_table, hD_g__law_later, hD_g__law_text, hD_g_law, hD_m_State____init__, hD_m_State____len__, hD_m_State____eq__, hD_m_State____str__, hD_m_State____repr__, hD_m_State__number, hD_m_State__names, hD_m_State__plain]
def hFn : List He.DefD := hFn0
def hFa0 : List NFa := [.glo "is_number", .glo "is_name", .glo "is_state", .glo "_law_town", .glo "_law_draw", .glo "_law_pick", .glo "_law_whole", .glo "_law_name", .glo "_law_table", .glo "_law_later", .glo "_law_text", .glo "law", .xc "KeepError", .xc "BadState", .oc "State", .md "State" "__init__", .md "State" "__len__", .md "State" "__eq__", .md "State" "__str__", .md "State" "__repr__", .md "State" "number", .md "State" "names", .md "State" "plain", .eo2 "State", .eo3 "State", .eo4 "State", .na "State" "table", .cs "LETTERS" "abcdefghijklmnopqrstuvwxyz", .ci "MOST_NAMES" 20, .free "all"]
def hFa1 : List NFa := [.free "bool", .free "dict", .free "int", .free "isinstance", .free "len", .free "list", .free "range", .free "repr", .free "sorted", .free "str"]
def hFa : List NFa := hFa0 ++ (hFa1)
def hNm0 : List PySem.Str := ["KeepError", "BadState", "is_number", "LETTERS", "MOST_NAMES", "is_name", "is_state", "State", "_law_town", "_law_draw", "_law_pick", "_law_whole", "_law_name", "_law_table", "_law_later", "_law_text"]
def hNm : List PySem.Str := hNm0
abbrev hHk : PySem.W.Hook := hookN 1600 hFa hFn
def hOb (s : PySem.W.SharedT) : He.AlD := hObsG 1600 hFa hFn (HandSHeadRun.getT s)
theorem hOb_eq (s : PySem.W.SharedT) : hOb s = hHk.obs s.abs := hObsG_eq (HandSHeadRun.getT_eq s)
set_option maxHeartbeats 0 in
theorem hRun1 (w : World) (os : OsState) : (HandSHeadRun.endF (HandSHeadRun.stepQ (HandSHeadRun.denQ HandSHeadRun.tabQ) (PySem.W.OpenLaw.row PySem.Challenge.rw_nightkeep_k40_states).prog w) 14000 (PySem.W.OpenLaw.row PySem.Challenge.rw_nightkeep_k40_states).prog w os).map (fun s => (HandSHeadRun.looksF (PySem.W.OpenLaw.row PySem.Challenge.rw_nightkeep_k40_states).prog (PySem.W.boot_heap w.params) s.abs, HandSHeadRun.seenQ (PySem.W.view (PySem.W.OpenLaw.row PySem.Challenge.rw_nightkeep_k40_states).prog [20]) hNm (importedModules (PySem.W.OpenLaw.row PySem.Challenge.rw_nightkeep_k40_states).prog.main.body) (fun s => PySem.W.xlAt (PySem.W.view (PySem.W.OpenLaw.row PySem.Challenge.rw_nightkeep_k40_states).prog [20]) [] s && PySem.W.recOk (PySem.W.OpenLaw.row PySem.Challenge.rw_nightkeep_k40_states).toRowW.records s) s.abs)) = some (true, PySem.W.openGood (PySem.W.view (PySem.W.OpenLaw.row PySem.Challenge.rw_nightkeep_k40_states).prog [20]) hNm) := by
  kernel_rfl
set_option maxHeartbeats 0 in
theorem hRun2 (w : World) (os : OsState) : (HandSHeadRun.endF (HandSHeadRun.stepQ (HandSHeadRun.denQ HandSHeadRun.tabQ) (PySem.W.OpenLaw.row PySem.Challenge.rw_nightkeep_k40_states).prog w) 14000 (PySem.W.OpenLaw.row PySem.Challenge.rw_nightkeep_k40_states).prog w os).map hOb = some (hHk.val w) := by
  kernel_rfl
theorem hRunQ (w : World) : HandSHeadRun.RunEq (PySem.W.OpenLaw.row PySem.Challenge.rw_nightkeep_k40_states) (PySem.W.view (PySem.W.OpenLaw.row PySem.Challenge.rw_nightkeep_k40_states).prog [20]) hHk hOb 14000 hNm w := run_join (hRun1 w) (hRun2 w)
end Nk
local macro_rules | `(tactic| walk_at "rd") => `(tactic| (try simp only [L2.tRet, L2.tAndV, L2.tOrV, L2.tNotV, L2.tCB, L2.tCons, L2.tNil, L2.tVar, L2.tC, L2.tChain, L2.tOp, L2.tUn, L2.rI, L2.rI0, L2.rU, L2.rEq, L2.rNe, L2.scal, L2.tTest, L2.tB, L2.tAnd, L2.tOr, L2.tNot, L2.tIf, L2.tIfS, L2.tSeq, L2.tNext, L2.tAsg, L2.gName, Nk.gCons_cons, Nk.gNil_nil, L2.gSub, L2.tDrop, L2.tRetN, L2.tCall, L2.tCallS, L2.tIsN, L2.tNotN, L2.tSl, L2.tPart, L2.tNoPart, L2.tPar, L2.tAug, L2.tBreak, L2.tCont, L2.tDisp, L2.tPairs, L2.tLstRg, L2.tRg1, L2.tRg2, Nk.rLenQ, Nk.rListQ, Nk.rTupleQ, L2.sDPut, L2.tBM, L2.tBM0, L2.tTup, L2.tLst, Nk.szN, Nat.reduceLeDiff, L2.tYes, L2.wipe, L2.start, L2.cxOf, List.map_cons, List.map_nil, List.cons_append, List.nil_append, List.append_nil, List.length_cons, List.length_nil, List.replicate, Nat.sub_self, Nat.zero_add, Nat.reduceAdd, Nat.reduceSub, List.set_cons_zero, List.set_cons_succ, List.getElem?_cons_zero, List.getElem?_cons_succ, Option.some.injEq, exists_and_left, exists_eq_left', exists_eq_left, L2.V.int.injEq, L2.V.bl.injEq, L2.V.str.injEq, L2.V.ref.injEq, true_and, and_true, decide_eq_true_eq, Bool.not_true, Bool.not_false, if_true, if_false, Bool.false_eq_true, reduceIte, List.cons.injEq, reduceCtorEq, decide_true, decide_false, decide_eq_false_iff_not, Bool.not_eq_true', Bool.not_not]))
local macro_rules | `(tactic| walk_at "rs") => `(tactic| (try simp only [L2.tRet, L2.tAndV, L2.tOrV, L2.tNotV, L2.tCB, L2.tCons, L2.tNil, L2.tVar, L2.tC, L2.tChain, L2.tOp, L2.tUn, L2.rI, L2.rI0, L2.rU, L2.rEq, L2.rNe, Nk.scal_ii, Nk.scal_ss, Nk.scal_bb, Nk.scal_nn, Nk.scal_ni, Nk.scal_in, Nk.scal_ns, Nk.scal_sn, Nk.scal_is, Nk.scal_si, L2.tTest, L2.tB, L2.tAnd, L2.tOr, L2.tNot, L2.tIf, L2.tIfS, L2.tNext, L2.tAsg, L2.gName, Nk.gCons_cons, Nk.gNil_nil, L2.gSub, L2.tDrop, L2.tRetN, L2.tCall, L2.tCallS, L2.tIsN, L2.tNotN, L2.tSl, L2.tPart, L2.tNoPart, L2.tPar, L2.tAug, L2.tBreak, L2.tCont, L2.tDisp, L2.tPairs, L2.tLstRg, L2.tRg1, L2.tRg2, Nk.rLenQ, Nk.rListQ, Nk.rTupleQ, L2.sDPut, L2.tBM, L2.tBM0, L2.tTup, L2.tLst, Nk.szN, Nat.reduceLeDiff, L2.tYes, L2.wipe, L2.start, L2.cxOf, List.map_cons, List.map_nil, List.cons_append, List.nil_append, List.append_nil, List.length_cons, List.length_nil, List.replicate, Nat.sub_self, Nat.zero_add, Nat.reduceAdd, Nat.reduceSub, List.set_cons_zero, List.set_cons_succ, List.getElem?_cons_zero, List.getElem?_cons_succ, Option.some.injEq, exists_and_left, exists_eq_left', exists_eq_left, L2.V.int.injEq, L2.V.bl.injEq, L2.V.str.injEq, L2.V.ref.injEq, true_and, and_true, decide_eq_true_eq, Bool.not_true, Bool.not_false, if_true, if_false, Bool.false_eq_true, reduceIte, List.cons.injEq, reduceCtorEq, decide_true, decide_false, decide_eq_false_iff_not, Bool.not_eq_true', Bool.not_not]))
local macro_rules | `(tactic| walk_at "rt") => `(tactic| (try simp only [L2.tRet, L2.tFld, L2.sFld, L2.tMeth, L2.tMake, L2.tMkO, L2.tAndV, L2.tOrV, L2.tNotV, L2.tCB, L2.tCons, L2.tNil, L2.tVar, L2.tC, L2.tChain, L2.tOp, L2.tUn, L2.rI, L2.rI0, L2.rU, L2.rEq, L2.rNe, Nk.scal_ii, Nk.scal_ss, Nk.scal_bb, Nk.scal_nn, Nk.scal_ni, Nk.scal_in, Nk.scal_ns, Nk.scal_sn, Nk.scal_is, Nk.scal_si, L2.tTest, L2.tB, L2.tAnd, L2.tOr, L2.tNot, L2.tIf, L2.tIfS, L2.tNext, L2.tAsg, L2.gName, Nk.gCons_cons, Nk.gNil_nil, L2.gSub, L2.tDrop, L2.tRetN, L2.tCall, L2.tCallS, L2.tIsN, L2.tNotN, L2.tSl, L2.tPart, L2.tNoPart, L2.tPar, L2.tAug, L2.tBreak, L2.tCont, and_assoc, Nk.tFor_k, Nk.tLc_k, L2.iRng1, L2.iRng2, L2.iList, L2.iTup, L2.iRev, L2.iEnum, L2.iZip, L2.tDisp, L2.tPairs, L2.tLstRg, L2.tRg1, L2.tRg2, Nk.rLenQ, Nk.rListQ, Nk.rTupleQ, L2.sDPut, L2.tBM, L2.tBM0, L2.tTup, L2.tLst, Nk.szN, Nat.reduceLeDiff, L2.tYes, L2.wipe, L2.start, L2.cxOf, List.map_cons, List.map_nil, List.cons_append, List.nil_append, List.append_nil, List.length_cons, List.length_nil, List.replicate, Nat.sub_self, Nat.zero_add, Nat.reduceAdd, Nat.reduceSub, List.set_cons_zero, List.set_cons_succ, List.getElem?_cons_zero, List.getElem?_cons_succ, Option.some.injEq, exists_and_left, exists_eq_left', exists_eq_left, L2.V.int.injEq, L2.V.bl.injEq, L2.V.str.injEq, L2.V.ref.injEq, true_and, and_true, decide_eq_true_eq, Bool.not_true, Bool.not_false, if_true, if_false, Bool.false_eq_true, reduceIte, List.cons.injEq, reduceCtorEq, decide_true, decide_false, decide_eq_false_iff_not, Bool.not_eq_true', Bool.not_not]))
local macro_rules | `(tactic| walk_at "ru") => `(tactic| (try simp only [L2.kV, L2.tRevL, L2.tDGet, L2.tDIn, L2.tDNotIn, L2.tDGet1, L2.tDGet2, L2.tDPop1, L2.iKeysM, L2.iKeys, L2.iStr, L2.tRet, L2.tFld, L2.sFld, L2.tMeth, L2.tMake, L2.tMkO, L2.tAndV, L2.tOrV, L2.tNotV, L2.tCB, L2.tCons, L2.tNil, L2.tVar, L2.tC, L2.tChain, L2.tOp, L2.tUn, L2.rI, L2.rI0, L2.rU, L2.rEq, L2.rNe, Nk.scal_ii, Nk.scal_ss, Nk.scal_bb, Nk.scal_nn, Nk.scal_ni, Nk.scal_in, Nk.scal_ns, Nk.scal_sn, Nk.scal_is, Nk.scal_si, L2.tTest, L2.tB, L2.tAnd, L2.tOr, L2.tNot, L2.tIf, L2.tIfS, L2.tNext, L2.tAsg, L2.gName, Nk.gCons_cons, Nk.gNil_nil, L2.gSub, L2.tDrop, L2.tRetN, L2.tCall, L2.tCallS, L2.tIsN, L2.tNotN, L2.tSl, L2.tPart, L2.tNoPart, L2.tPar, L2.tAug, L2.tBreak, L2.tCont, and_assoc, Nk.tFor_k, Nk.tLc_k, L2.iRng1, L2.iRng2, L2.iList, L2.iTup, L2.iRev, L2.iEnum, L2.iZip, L2.tDisp, L2.tPairs, L2.tLstRg, L2.tRg1, L2.tRg2, Nk.rLenQ, Nk.rListQ, Nk.rTupleQ, L2.sDPut, L2.tBM, L2.tBM0, L2.tTup, L2.tLst, Nk.szN, Nat.reduceLeDiff, L2.tYes, L2.wipe, L2.start, L2.cxOf, List.map_cons, List.map_nil, List.cons_append, List.nil_append, List.append_nil, List.length_cons, List.length_nil, List.replicate, Nat.sub_self, Nat.zero_add, Nat.reduceAdd, Nat.reduceSub, List.set_cons_zero, List.set_cons_succ, List.getElem?_cons_zero, List.getElem?_cons_succ, Option.some.injEq, exists_and_left, exists_eq_left', exists_eq_left, L2.V.int.injEq, L2.V.bl.injEq, L2.V.str.injEq, L2.V.ref.injEq, true_and, and_true, decide_eq_true_eq, Bool.not_true, Bool.not_false, if_true, if_false, Bool.false_eq_true, reduceIte, List.cons.injEq, reduceCtorEq, decide_true, decide_false, decide_eq_false_iff_not, Bool.not_eq_true', Bool.not_not]))
namespace Nk
open PySem L2
section
variable {P : Program} {w : World} {K : PySem.W.Frag} {mg : Str → Option Value} {base : Heap}
abbrev nm_is_number : List Str := ["thing", "least", "most"]
abbrev pm_is_number : List Str := ["thing", "least", "most"]
abbrev lv_is_number : Nat := 1
theorem sc_is_number : FnScope nm_is_number pm_is_number (defScope s_is_number) := ⟨rfl, rfl, rfl, by decide +kernel, rfl, by decide +kernel, by decide +kernel⟩
def sp_is_number (K : PySem.W.Frag) : Sp := fun vs H Q _ => ∃ (x : V) (n : String) (lo : Int) (y : V), vs = [x, .int lo, y] ∧ Thing K H x n ∧ (∀ i, x = .int i → ∃ hi, y = .int hi) ∧ Q (.bl (isNumV x lo y)) H
theorem f_is_number (T : Txt K mg) : Fk P w K mg base CX0 lv_is_number "is_number" pm_is_number (sp_is_number K) := by
  obtain ⟨f, fd, F, g, b⟩ := T.d_is_number.ex
  refine ⟨f, fd, g, F.kp, b, F.ok sc_is_number (fun vs H Q E h => ?_) (fun cdv A outer s H vs Q E hr h => ?_)⟩
  · obtain ⟨x, n, lo, y, rfl, _⟩ := h; rfl
  · obtain ⟨x, n, lo, y, rfl, hx, hy, q⟩ := h
    refine ⟨_, (pss_one (ps_ret (pe_and (pe_callB call_isi (by rfl) T.b_isinstance (by decide +kernel) (pa_cons (pv 0) (pa_cons (pe_bltn (v := .ty "int") (by rfl) T.b_int (by decide +kernel) rfl) pa_nil))) (pe_and (pe_not (pe_callB call_isi (by rfl) T.b_isinstance (by decide +kernel) (pa_cons (pv 0) (pa_cons (pe_bltn (v := .ty "bool") (by rfl) T.b_bool (by decide +kernel) rfl) pa_nil)))) (pe_one (pe_chain op_le op_le (pv 1) (pv 0) (pv 2))))))), ?_⟩
    walk_at "rd"
    refine isi_thing hx (by decide) ?_
    cases hx with
    | int i =>
      obtain ⟨hi, rfl⟩ := hy i rfl
      simp only [show isA "int" "int" = true from by decide]
      walk_at "rd"
      refine isi_thing (.int i) (by decide) ?_
      simp only [show isA "int" "bool" = false from by decide]
      walk_at "rd"
      simp only [isNumV] at q
      by_cases c : lo ≤ i
      · simpa [c] using q
      · simpa [c] using q
    | bl i =>
      simp only [show isA "bool" "int" = true from by decide]
      walk_at "rd"
      refine isi_thing (.bl i) (by decide) ?_
      simp only [show isA "bool" "bool" = true from by decide]
      walk_at "rd"
      exact q
    | _ => exact ⟨false, rfl, q⟩
/-- whether a thing is rounds -/
def isRoundsV (H : Hp) (x : V) : Bool := match x with
  | .ref a => match H a with
    | some (.tup xs) => decide (1 ≤ xs.length) && decide (xs.length ≤ 12) && xs.all fun y => isNumV y 1 (.int 31)
    | _ => false
  | _ => false
/-- a thing, and what is in it if it is a tuple -/
def Thing2 (K : PySem.W.Frag) (H : Hp) (x : V) : Prop := (∃ n, Thing K H x n) ∧ ∀ a xs, x = .ref a → H a = some (.tup xs) → xs.length ≤ 100000 ∧ ∀ y ∈ xs, ∃ m, Thing K H y m
/-- rounds as a tuple that stands -/
structure RndsAt (H : Hp) (a : Addr) (rs : List Int) : Prop where
  at_ : H a = some (.tup (rs.map V.int))
  ok : Rnds rs
  le : ∀ r ∈ rs, r ≤ 31
  ln : rs.length ≤ 12
theorem RndsAt.same {H H' : Hp} {a : Addr} {rs : List Int} (h : RndsAt H a rs) (s : Same H H') : RndsAt H' a rs := ⟨s _ _ h.at_, h.ok, h.le, h.ln⟩
theorem RndsAt.but {H H' : Hp} {a t : Addr} {rs : List Int} {l : List V} (h : RndsAt H a rs) (s : But t H H') (ht : H t = some (.lst l)) : RndsAt H' a rs := ⟨s _ _ h.at_ (ne_of h.at_ ht (by intro z; cases z)), h.ok, h.le, h.ln⟩
theorem RndsAt.thing {H : Hp} {a : Addr} {rs : List Int} (h : RndsAt H a rs) : Thing2 K H (.ref a) := by
  refine ⟨⟨_, .tup h.at_⟩, fun b xs e hb => ?_⟩
  cases e
  rw [h.at_] at hb
  cases hb
  refine ⟨by have := h.ln; simp; omega, fun y hy => ?_⟩
  obtain ⟨i, _, rfl⟩ := List.mem_map.mp hy
  exact ⟨_, .int i⟩
theorem RndsAt.is {H : Hp} {a : Addr} {rs : List Int} (h : RndsAt H a rs) : isRoundsV H (.ref a) = true := by
  have h1 := h.ok.len
  have h2 := h.ln
  have h3 : rs.all (fun y => isNumV (V.int y) 1 (V.int 31)) = true := by
    rw [List.all_eq_true]
    intro y hy
    simp [isNumV, h.ok.pos y hy, h.le y hy]
  simp only [isRoundsV, h.at_, List.length_map, List.all_map, Function.comp_def, h3, Bool.and_true, Bool.and_eq_true, decide_eq_true_eq]
  omega
theorem sum_le31 : ∀ {rs : List Int}, (∀ r ∈ rs, r ≤ 31) → rs.sum ≤ 31 * rs.length
  | [], _ => by simp
  | r :: rs, h => by
    have h1 := h r List.mem_cons_self
    have h2 := sum_le31 (rs := rs) fun x hx => h x (List.mem_cons_of_mem _ hx)
    simp only [List.sum_cons, List.length_cons]
    push_cast
    omega
theorem RndsAt.sum_le {H : Hp} {a : Addr} {rs : List Int} (h : RndsAt H a rs) : rs.sum ≤ 372 := by
  have := sum_le31 h.le
  have := h.ln
  omega
theorem isNum_ok {n : Int} (h0 : 0 ≤ n) (h1 : n ≤ 1000000000) : isNumV (.int n) 0 (.int 1000000000) = true := by simp [isNumV, h0, h1]
end
end Nk
namespace Nk
open PySem L2
section
variable {P : Program} {w : World} {K : PySem.W.Frag} {mg : Str → Option Value} {base : Heap}
/-- the script at a and the town at t: c draws so far -/
structure Tn (K : PySem.W.Frag) (H : Hp) (a t : Addr) (ns : List Int) (c : Nat) : Prop where
  scr : SqN K H a t (ns.map V.int)
  len : ns.length ≤ 63
  town : ∃ ls : List Int, ls.length = ns.length ∧ H t = some (.lst (V.int c :: ls.map V.int))
theorem Tn.same {H H' : Hp} {a t : Addr} {ns : List Int} {c : Nat} (h : Tn K H a t ns c) (s : Same H H') : Tn K H' a t ns c := by
  obtain ⟨ls, e, ht⟩ := h.town
  exact ⟨h.scr.same s, h.len, ls, e, s _ _ ht⟩
theorem Tn.lst {H : Hp} {a t : Addr} {ns : List Int} {c : Nat} (h : Tn K H a t ns c) : ∃ l, H t = some (.lst l) := by
  obtain ⟨ls, e, ht⟩ := h.town
  exact ⟨_, ht⟩
theorem Tn.some_ {H : Hp} {a t : Addr} {ns : List Int} {c : Nat} (h : Tn K H a t ns c) {p : Addr} (hp : H p = none) : p ≠ t := by
  obtain ⟨l, hl⟩ := h.lst
  exact (ne_of_none hl hp).symm
/-- a tuple stays while the town changes -/
theorem Tn.tup {H H' : Hp} {a t p : Addr} {ns : List Int} {c : Nat} {xs : List V} (h : Tn K H a t ns c) (b : But t H H') (hp : H p = some (.tup xs)) : H' p = some (.tup xs) := by
  obtain ⟨l, hl⟩ := h.lst
  exact b _ _ hp (ne_of hp hl (by intro z; cases z))
/-- an object that was made since may change -/
theorem Tn.app {H H' : Hp} {a t p : Addr} {ns : List Int} {c c0 : Nat} {o : HO} (h : Tn K H' a t ns c) (h0 : Tn K H a t ns c0) (hp : H p = none) (hpt : p ≠ t) : Tn K (upd H' p o) a t ns c := by
  obtain ⟨ls, e1, e2⟩ := h.town
  exact ⟨h.scr.app h0.scr hp, h.len, ls, e1, by rw [upd_ne hpt.symm]; exact e2⟩
theorem But.app {H H' : Hp} {t p : Addr} {o : HO} (b : But t H H') (hp : H p = none) : But t H (L2.upd H' p o) := fun z x hz hzt => by
  rw [upd_ne (ne_of_none hz hp)]
  exact b _ _ hz hzt
theorem But.free {H H' : Hp} {t p : Addr} (b : But t H H') (hp : H' p = none) (hpt : p ≠ t) : H p = none := by
  cases e : H p with
  | none => rfl
  | some o => rw [b _ _ e hpt] at hp; cases hp
abbrev nm__law_town : List Str := ["script"]
abbrev pm__law_town : List Str := ["script"]
abbrev lv__law_town : Nat := 1
theorem sc__law_town : FnScope nm__law_town pm__law_town (defScope s__law_town) := ⟨rfl, rfl, rfl, by decide +kernel, rfl, by decide +kernel, by decide +kernel⟩
def sp__law_town (K : PySem.W.Frag) : Sp := fun vs H Q _ => ∃ (a : Addr) (ns : List Int), vs = [.ref a] ∧ SqL K H a (ns.map V.int) ∧ ns.length ≤ 63 ∧ ∀ H' t, Same H H' → Tn K H' a t ns 0 → H t = none → Q (.ref t) H'
theorem f__law_town (T : Txt K mg) : Fk P w K mg base CX0 lv__law_town "_law_town" pm__law_town (sp__law_town K) := by
  obtain ⟨f, fd, F, g, b⟩ := T.d__law_town.ex
  refine ⟨f, fd, g, F.kp, b, F.ok sc__law_town (fun vs H Q E h => ?_) (fun cdv A outer s H vs Q E hr h => ?_)⟩
  · obtain ⟨a, ns, rfl, _⟩ := h; rfl
  · obtain ⟨a, ns, rfl, hS, hl, q⟩ := h
    refine ⟨_, (pss_one (ps_ret (pe_op op_cat (pe_lst (pa_cons pe_int pa_nil)) (pe_callTy call_list_of (by rfl) T.b_list (by decide +kernel) (pa_cons (pv 0) pa_nil))))), ?_⟩
    walk_at "rd"
    intro p hp
    have s1 : Same H (upd H p (.lst [.int 0])) := same_upd hp
    refine ⟨ns.map V.int, .inl (s1.seq hS), fun l hl2 => ?_⟩
    have npl : p ≠ l := fun e => by rw [← e, upd_same] at hl2; cases hl2
    have s2 := s1.trans (same_upd (o := .lst (ns.map V.int)) hl2)
    refine ⟨p, l, _, _, rfl, rfl, by rw [upd_ne npl]; exact upd_same, upd_same, sz (by simp; omega), fun t ht => ?_⟩
    have hH : H t = none := s2.free ht
    exact q _ t (s2.trans (same_upd ht)) ⟨(SqN.new (s2.seq hS) ht).same (same_upd ht), hl, ns, rfl, upd_same⟩ hH
abbrev nm__law_draw : List Str := ["script", "town", "many", "at", "left", "number"]
abbrev pm__law_draw : List Str := ["script", "town", "many"]
abbrev lv__law_draw : Nat := 1
theorem sc__law_draw : FnScope nm__law_draw pm__law_draw (defScope s__law_draw) := ⟨rfl, rfl, rfl, by decide +kernel, rfl, by decide +kernel, by decide +kernel⟩
def sp__law_draw (K : PySem.W.Frag) : Sp := fun vs H Q _ => ∃ (a t : Addr) (ns : List Int) (c : Nat) (many : Int), vs = [.ref a, .ref t, .int many] ∧ Tn K H a t ns c ∧ c < 1000000000 ∧ 0 < many ∧ many < 1073741824 ∧
  ∀ (d : Int) (H' : Hp), 0 ≤ d → d < many → Tn K H' a t ns (c + 1) → But t H H' → Q (.int d) H'
theorem f__law_draw (T : Txt K mg) : Fk P w K mg base CX0 lv__law_draw "_law_draw" pm__law_draw (sp__law_draw K) := by
  obtain ⟨f, fd, F, g, b⟩ := T.d__law_draw.ex
  refine ⟨f, fd, g, F.kp, b, F.ok sc__law_draw (fun vs H Q E h => ?_) (fun cdv A outer s H vs Q E hr h => ?_)⟩
  · obtain ⟨a, t, ns, c, many, rfl, _⟩ := h; rfl
  · obtain ⟨a, t, ns, c, many, rfl, hT, hc, hm0, hm1, q⟩ := h
    refine ⟨_, (pss_cons (ps_asg (pe_op op_add (pe_ix ix_list (pv 1) pe_int (fun _ _ => rfl)) pe_int) (pg_sub (pv 1) pe_int set_list))
      (pss_cons (ps_if (pt_cmpR (op_eqD hr.units) (pv 0) (pe_lst pa_nil) (nomark _)) (pss_one (ps_ret (pe_op op_mod (pe_op op_fdiv (pe_op op_mul (pe_op op_mul (pe_ix ix_list (pv 1) pe_int (fun _ _ => rfl)) (pe_ix ix_list (pv 1) pe_int (fun _ _ => rfl))) pe_int) pe_int) (pv 2)))) pss_nil)
      (pss_cons (ps_set (i := 3) sc__law_draw.nd rfl (.inl rfl) (pe_op op_mod (pe_ix ix_list (pv 1) pe_int (fun _ _ => rfl)) (pe_callB call_len_seq (by rfl) T.b_len PySem.boot_len (pa_cons (pv 0) pa_nil))))
      (pss_cons (ps_set (i := 4) sc__law_draw.nd rfl (.inl rfl) (pe_ix ix_list (pv 1) (pe_op op_add pe_int (pv 3)) (fun _ _ => rfl)))
      (pss_cons (ps_if (PW.pt (pw_and (pt_cmpR op_ge (pe_ix ix_list (pv 0) (pv 3) (fun _ _ => rfl)) (pe_op op_pow pe_int pe_int) (nomark _)) (pw_and1 (pt_cmpR op_gt (pv 4) pe_int (nomark _))))) (pss_cons (ps_asg (pe_op op_fdiv (pv 4) (pv 2)) (pg_sub (pv 1) (pe_op op_add pe_int (pv 3)) set_list))
      (pss_one (ps_ret (pe_op op_mod (pv 4) (pv 2))))) pss_nil)
      (pss_cons (ps_set (i := 5) sc__law_draw.nd rfl (.inl rfl) (pe_op op_mod (pe_op op_add (pe_ix ix_list (pv 0) (pv 3) (fun _ _ => rfl)) (pe_op op_mul pe_int (pe_ix ix_list (pv 1) pe_int (fun _ _ => rfl)))) pe_int))
      (pss_cons (ps_set (i := 5) sc__law_draw.nd rfl (.inl rfl) (pe_op op_mod (pe_op op_pow (pv 5) pe_int) pe_int))
      (pss_one (ps_ret (pe_op op_mod (pe_op op_fdiv (pe_op op_mod (pe_op op_add (pe_op op_mul (pe_op op_fdiv (pv 5) pe_int) pe_int) (pv 5)) pe_int) pe_int) (pv 2))))))))))), ?_⟩
    walk_at "rd"
    obtain ⟨ls, el, ht⟩ := hT.town
    refine ixL (j := 0) (sqL ht) rfl rfl ?_
    walk_at "rd"
    refine setL (j := 0) ht rfl (by simp) ?_
    intro p hp
    have hpt : t ≠ p := fun e => by rw [← e, upd_same] at hp; cases hp
    have b1 : But t H (upd (upd H t (.lst ((V.int c :: ls.map V.int).set 0 (V.int (↑c + 1))))) p (.lst [])) := But.thenS But.upd (same_upd hp)
    have hN1 := hT.scr.but b1
    have hS1 := hN1.l
    have ht1 : (upd (upd H t (.lst ((V.int c :: ls.map V.int).set 0 (V.int (↑c + 1))))) p (.lst [])) t = some (.lst (V.int ((c + 1 : Nat) : Int) :: ls.map V.int)) := by
      rw [upd_ne hpt, upd_same]; rfl
    have hp1 : (upd (upd H t (.lst ((V.int c :: ls.map V.int).set 0 (V.int (↑c + 1))))) p (.lst [])) p = some (.lst (([] : List Int).map V.int)) := upd_same
    revert b1 hN1 hS1 ht1 hp1
    generalize upd (upd H t (.lst ((V.int c :: ls.map V.int).set 0 (V.int (↑c + 1))))) p (.lst []) = H1
    intro b1 hN1 hS1 ht1 hp1
    have T1 : Tn K H1 a t ns (c + 1) := ⟨hN1, hT.len, ls, el, ht1⟩
    have hC : ((c + 1 : Nat) : Int) < 2 ^ 62 := by omega
    refine eqD (dp_LI hS1) (dp_LI (sqL hp1)) (gd_dLI (k := 0) _) (gd_dLI (k := 0) _) (fun e => ?_) (fun e => ?_)
    · walk_at "rd"
      refine ixL (j := 0) (sqL ht1) rfl rfl ?_
      refine ixL (j := 0) (sqL ht1) rfl rfl ?_
      walk_at "rd"
      refine ⟨.inl ⟨by omega, by omega⟩, .inr ⟨by decide, by decide⟩, ⟨by decide, by decide⟩, hm0, ?_⟩
      exact q _ H1 (Int.emod_nonneg _ (by omega)) (Int.emod_lt_of_pos _ hm0) T1 b1
    · have hne : ns ≠ [] := fun z => e (by rw [z])
      have hn0 : 0 < ns.length := List.length_pos_iff.mpr hne
      walk_at "rd"
      refine ixL (j := 0) (sqL ht1) rfl rfl ?_
      refine ⟨ns.map V.int, .inl hS1, ?_⟩
      rw [List.length_map]
      walk_at "rd"
      obtain ⟨j, hj, ej, _⟩ := emod_nat (k := ((c + 1 : Nat) : Int)) hn0
      rw [ej]
      refine ⟨by omega, ?_⟩
      have hlj : (V.int ((c + 1 : Nat) : Int) :: ls.map V.int)[j + 1]? = some (V.int (ls[j]'(by omega))) := by
        rw [List.getElem?_cons_succ, List.getElem?_map, List.getElem?_eq_getElem (by omega)]; rfl
      have hnj : (ns.map V.int)[j]? = some (V.int (ns[j]'hj)) := by
        rw [List.getElem?_map, List.getElem?_eq_getElem hj]; rfl
      refine ixL (j := j + 1) (sqL ht1) (by push_cast; omega) hlj ?_
      refine ixL (j := j) hS1 rfl hnj ?_
      have tail : rIxL K (.ref a) (.int (j : Int)) H1 fun x H2 => rIxL K (.ref t) (.int 0) H2 fun y H3 => ∃ x_3, y = V.int x_3 ∧ CMul 104729 x_3 ∧ ∃ i, x = V.int i ∧ 0 < (4294967291 : Int) ∧ CPow ((i + 104729 * x_3) % 4294967291) 5 ∧ 0 < (4294967279 : Int) ∧
          CDiv (((i + 104729 * x_3) % 4294967291) ^ Int.toNat 5 % 4294967279) 64 ∧ CMul (((i + 104729 * x_3) % 4294967291) ^ Int.toNat 5 % 4294967279 / 64) 69621 ∧ 0 < (4294967231 : Int) ∧
          CDiv ((((i + 104729 * x_3) % 4294967291) ^ Int.toNat 5 % 4294967279 / 64 * 69621 + ((i + 104729 * x_3) % 4294967291) ^ Int.toNat 5 % 4294967279) % 4294967231) 8 ∧ 0 < many ∧
          Q (.int ((((i + 104729 * x_3) % 4294967291) ^ Int.toNat 5 % 4294967279 / 64 * 69621 + ((i + 104729 * x_3) % 4294967291) ^ Int.toNat 5 % 4294967279) % 4294967231 / 8 % many)) H3 := by
        refine ixL (j := j) hS1 rfl hnj ?_
        refine ixL (j := 0) (sqL ht1) rfl rfl ?_
        have hp := Int.emod_nonneg (ns[j] + 104729 * ((c + 1 : Nat) : Int)) (show (4294967291 : Int) ≠ 0 by decide)
        have hq := Int.emod_lt_of_pos (ns[j] + 104729 * ((c + 1 : Nat) : Int)) (show (0 : Int) < 4294967291 by decide)
        refine ⟨_, rfl, .inl ⟨by decide, by decide⟩, _, rfl, by decide, ⟨by decide, by decide, by omega⟩, by decide, ⟨by decide, by decide⟩, .inr ⟨by decide, by decide⟩, by decide, ⟨by decide, by decide⟩, hm0, ?_⟩
        exact q _ H1 (Int.emod_nonneg _ (by omega)) (Int.emod_lt_of_pos _ hm0) T1 b1
      refine ⟨⟨by decide, by decide, by decide⟩, _, rfl, ?_⟩
      refine ite2 (fun c1 => ?_) (fun c1 => ?_)
      · refine ⟨_, rfl, ite2 (fun c2 => ?_) (fun c2 => ?_)⟩
        · refine ⟨_, rfl, ⟨hm0, hm1⟩, ?_⟩
          refine setL (j := j + 1) ht1 (by push_cast; omega) (by simp; omega) ?_
          refine ⟨_, rfl, hm0, ?_⟩
          refine q _ _ (Int.emod_nonneg _ (by omega)) (Int.emod_lt_of_pos _ hm0) ⟨hN1.but But.upd, hT.len, ls.set j (ls[j] / many), by rw [List.length_set]; exact el, ?_⟩ (b1.trans But.upd)
          rw [upd_same, List.set_cons_succ, List.map_set]
        · exact tail
      · exact tail
abbrev nm__law_pick : List Str := ["script", "town", "some"]
abbrev pm__law_pick : List Str := ["script", "town", "some"]
abbrev lv__law_pick : Nat := 2
theorem sc__law_pick : FnScope nm__law_pick pm__law_pick (defScope s__law_pick) := ⟨rfl, rfl, rfl, by decide +kernel, rfl, by decide +kernel, by decide +kernel⟩
def sp__law_pick (K : PySem.W.Frag) : Sp := fun vs H Q _ => ∃ (a t l : Addr) (ns : List Int) (c : Nat) (xs : List V), vs = [.ref a, .ref t, .ref l] ∧ Tn K H a t ns c ∧ c < 1000000000 ∧ H l = some (.lst xs) ∧ l ≠ t ∧ 0 < xs.length ∧ xs.length ≤ 100000 ∧
  ∀ (v : V) (H' : Hp), v ∈ xs → Tn K H' a t ns (c + 1) → But t H H' → Q v H'
theorem f__law_pick (T : Txt K mg) : Fk P w K mg base CX0 lv__law_pick "_law_pick" pm__law_pick (sp__law_pick K) := by
  obtain ⟨f, fd, F, g, b⟩ := T.d__law_pick.ex
  refine ⟨f, fd, g, F.kp, b, F.ok sc__law_pick (fun vs H Q E h => ?_) (fun cdv A outer s H vs Q E hr h => ?_)⟩
  · obtain ⟨a, t, l, ns, c, xs, rfl, _⟩ := h; rfl
  · obtain ⟨a, t, l, ns, c, xs, rfl, hT, hc, hl, hlt, h0, h1, q⟩ := h
    refine ⟨_, (pss_one (ps_ret (pe_ix ix_list (pv 2) (pe_fn (f__law_draw T) (hr.mono (by decide)) (by rfl) pass0 (pa_cons (pv 0) (pa_cons (pv 1) (pa_cons (pe_callB call_len_seq (by rfl) T.b_len PySem.boot_len (pa_cons (pv 2) pa_nil)) pa_nil)))) (fun _ _ => rfl)))), ?_⟩
    walk_at "rd"
    refine ⟨xs, .inl (sqL hl), a, t, ns, c, xs.length, rfl, hT, hc, by omega, by omega, fun d H' d0 d1 T' b' => ?_⟩
    have hd : d.toNat < xs.length := by omega
    exact ixL (j := d.toNat) (sqL (b' _ _ hl hlt)) (by omega) (List.getElem?_eq_getElem hd) (q _ H' (List.getElem_mem hd) T' b')
theorem pickI {H : Hp} {a t : Addr} {ns : List Int} {c : Nat} {Q : VK} {E : XK} (ks : List Int) (hT : Tn K H a t ns c) (hc : c < 1000000000) (q : ∀ k ∈ ks, ∀ H', Tn K H' a t ns (c + 1) → But t H H' → Q (.int k) H') (h0 : 0 < ks.length := by decide) (h1 : ks.length ≤ 100000 := by decide) :
    ∀ p, H p = none → sp__law_pick K [.ref a, .ref t, .ref p] (L2.upd H p (.lst (ks.map V.int))) Q E := by
  intro p hp
  refine ⟨a, t, p, ns, c, ks.map V.int, rfl, hT.same (same_upd hp), hc, upd_same, hT.some_ hp, by simpa using h0, by simpa using h1, fun v H' hv T' b' => ?_⟩
  obtain ⟨k, hk, rfl⟩ := List.mem_map.mp hv
  exact q k hk H' T' (Same.thenB (same_upd hp) b')
theorem pickV {H : Hp} {a t : Addr} {ns : List Int} {c : Nat} {Q : VK} {E : XK} {xs : List V} (hT : Tn K H a t ns c) (hc : c < 1000000000) (h0 : 0 < xs.length) (h1 : xs.length ≤ 100000) (q : ∀ v ∈ xs, ∀ H', Tn K H' a t ns (c + 1) → But t H H' → Q v H') :
    ∀ p, H p = none → sp__law_pick K [.ref a, .ref t, .ref p] (L2.upd H p (.lst xs)) Q E := by
  intro p hp
  exact ⟨a, t, p, ns, c, xs, rfl, hT.same (same_upd hp), hc, upd_same, hT.some_ hp, h0, h1, fun v H' hv T' b' => q v hv H' T' (Same.thenB (same_upd hp) b')⟩
abbrev nm__law_whole : List Str := ["thing"]
abbrev pm__law_whole : List Str := ["thing"]
abbrev lv__law_whole : Nat := 1
theorem sc__law_whole : FnScope nm__law_whole pm__law_whole (defScope s__law_whole) := ⟨rfl, rfl, rfl, by decide +kernel, rfl, by decide +kernel, by decide +kernel⟩
def sp__law_whole (K : PySem.W.Frag) : Sp := fun vs H Q _ => ∃ (x : V) (n : String), vs = [x] ∧ Thing K H x n ∧ Q (.bl (isWholeV x)) H
theorem f__law_whole (T : Txt K mg) : Fk P w K mg base CX0 lv__law_whole "_law_whole" pm__law_whole (sp__law_whole K) := by
  obtain ⟨f, fd, F, g, b⟩ := T.d__law_whole.ex
  refine ⟨f, fd, g, F.kp, b, F.ok sc__law_whole (fun vs H Q E h => ?_) (fun cdv A outer s H vs Q E hr h => ?_)⟩
  · obtain ⟨x, n, rfl, _⟩ := h; rfl
  · obtain ⟨x, n, rfl, hx, q⟩ := h
    refine ⟨_, (pss_one (ps_ret (pe_and (pe_callB call_isi (by rfl) T.b_isinstance (by decide +kernel) (pa_cons (pv 0) (pa_cons (pe_bltn (v := .ty "int") (by rfl) T.b_int (by decide +kernel) rfl) pa_nil))) (pe_one (pe_not (pe_callB call_isi (by rfl) T.b_isinstance (by decide +kernel) (pa_cons (pv 0) (pa_cons (pe_bltn (v := .ty "bool") (by rfl) T.b_bool (by decide +kernel) rfl) pa_nil)))))))), ?_⟩
    walk_at "rd"
    refine isi_thing hx (by decide) ?_
    cases hx with
    | int i =>
      refine ⟨true, rfl, ?_⟩
      walk_at "rd"
      exact isi_thing (.int i) (by decide) ⟨false, rfl, q⟩
    | bl i =>
      refine ⟨true, rfl, ?_⟩
      walk_at "rd"
      exact isi_thing (.bl i) (by decide) ⟨true, rfl, q⟩
    | _ => exact ⟨false, rfl, q⟩
end
end Nk
/-! the rules of own classes with the globals named (for comprehensions) -/
namespace Nk
open PySem L2
section
variable {X : Cx} {CX : CXT} {k : Nat} {ps : List Str} {sp : Sp} {c m x : Str} {p pos apos : Pos} {o e : Expr} {es : List Expr} {ta : TE} {t : TA} {E : XK}
theorem pe_meK (mg : Str → Option Value) (hm : X.mg = mg) {pl : Sem Bool} (he : PE X o ta) (O : Oc X.K mg c) (M : Mo X.prog X.w X.K mg X.base CX k c m ps sp) (hr : Room k X.A) (hx : Passes CX X E) (ha : PA X (e :: es) t)
    (hst : starEach (e :: es) X.env = (false, eval e X.env) :: starEach es X.env := by rfl) (hpl : (backTo pos (starEach es X.env)).any (·.1) = false := by rfl)
    (ht : eval (.Call (.Attribute o m apos) (e :: es) [] pos) X.env = (do
      let ov ← eval o X.env
      standAt apos.atName
      let (g, first) ← holding [ov] (getMethod ov m pl)
      callWith pos g first (backTo pos (starEach (e :: es) X.env)) (backToKw pos (keywordEach [] X.env))) := by rfl) :
    PE X (.Call (.Attribute o m apos) (e :: es) [] pos) (tMeth (cls mg c) m sp [] E ta t) := by
  subst hm
  exact pe_me he O M hr hx ha hst hpl ht
theorem pe_me0K (mg : Str → Option Value) (hm : X.mg = mg) {pl : Sem Bool} (he : PE X o ta) (O : Oc X.K mg c) (M : Mo X.prog X.w X.K mg X.base CX k c m ps sp) (hr : Room k X.A) (hx : Passes CX X E)
    (ht : eval (.Call (.Attribute o m apos) [] [] pos) X.env = (do
      let ov ← eval o X.env
      standAt apos.atName
      let (g, first) ← holding [ov] (getMethod ov m pl)
      callWith pos g first (backTo pos (starEach [] X.env)) (backToKw pos (keywordEach [] X.env))) := by rfl) :
    PE X (.Call (.Attribute o m apos) [] [] pos) (tMeth (cls mg c) m sp [] E ta tNil) := by
  subst hm
  exact pe_me0 he O M hr hx ht
theorem pe_newM (mg : Str → Option Value) (hm : X.mg = mg) (O : Oc X.K mg c) (M : Mo X.prog X.w X.K mg X.base CX k c "__init__" ps sp) (hr : Room (k + 1) X.A) (hg : Gl X c) (hx : Passes CX X E) (ha : PA X (e :: es) t)
    (hdb : (c == ("__debug__" : Str)) = false := by decide) (he : starEach (e :: es) X.env = (false, eval e X.env) :: starEach es X.env := by rfl) (hpl : (backTo pos (starEach es X.env)).any (·.1) = false := by rfl) :
    PE X (.Call (.Name c p) (e :: es) [] pos) (tMake (cls mg c) sp [] E t) := by
  subst hm
  exact pe_new O M hr hg hx ha hdb he hpl
theorem cr_lenOK (mg : Str → Option Value) (hm : X.mg = mg) (O : Oc X.K mg c) (M : Mo X.prog X.w X.K mg X.base CX k c "__len__" ps sp) (hr : Room (k + 1) X.A) (hx : Passes CX X E) : CallR X (.builtin "len") (rLenO (cls mg c) sp E) := by
  subst hm
  exact cr_lenO O M hr hx
theorem op_eqOK (mg : Str → Option Value) (hm : X.mg = mg) (M : Mo X.prog X.w X.K mg X.base CX k c "__eq__" ps sp) (hr : Room k X.A) (hx : Passes CX X E) : OpR X (compareOp .Eq) (rEqO (cls mg c) sp E false) := by
  subst hm
  exact op_eqO M hr hx
theorem op_neOK (mg : Str → Option Value) (hm : X.mg = mg) (N : Eo2 X.K mg c) (M : Mo X.prog X.w X.K mg X.base CX k c "__eq__" ps sp) (hr : Room (k + 1) X.A) (hx : Passes CX X E) : OpR X (compareOp .NotEq) (rEqO (cls mg c) sp E true) := by
  subst hm
  exact op_neO N M hr hx
end
end Nk
namespace Nk
open PySem L2
section
variable {P : Program} {w : World} {K : PySem.W.Frag} {mg : Str → Option Value} {base : Heap}
/-! tables as they stand -/
def kvsT (t : Tb) : List (Key × V) := t.map fun p => (Sum.inr p.1, V.int p.2)
def numV : Option Int → V
  | none => .non
  | some i => .int i
theorem kvsT_val {n : Str} : ∀ {t : Tb}, valV (kvsT t) (Sum.inr n) = (lk t n).map V.int
  | [] => rfl
  | p :: t => by
    rw [lk_cons]
    by_cases e : p.1 = n
    · rw [if_pos e]
      show valV ((Sum.inr p.1, V.int p.2) :: kvsT t) _ = _
      rw [valV_pos (by rw [e])]
      rfl
    · rw [if_neg e]
      show valV ((Sum.inr p.1, V.int p.2) :: kvsT t) _ = _
      rw [valV_neg (fun z => e (Sum.inr.inj z))]
      exact kvsT_val
theorem kvsT_len {t : Tb} : (kvsT t).length = t.length := List.length_map _
theorem kvsT_keys {t : Tb} : (kvsT t).map (·.1) = (nms t).map Sum.inr := by
  unfold kvsT nms
  rw [List.map_map, List.map_map]
  rfl
theorem kvsT_keysV {t : Tb} : (kvsT t).map (fun kv => kV kv.1) = (nms t).map V.str := by
  unfold kvsT nms
  rw [List.map_map, List.map_map]
  rfl
theorem kvsT_put {t : Tb} {n : Str} {i : Int} : putK (kvsT t) (Sum.inr n) (.int i) = kvsT (putT t n i) := by
  unfold putK putT
  have e : ((kvsT t).any fun kv => decide (kv.1 = Sum.inr n)) = t.any fun p => decide (p.1 = n) := by
    unfold kvsT
    rw [List.any_map]
    congr 1
    funext p
    simp [Function.comp]
  rw [e]
  split
  · unfold kvsT
    rw [List.map_map, List.map_map]
    refine List.map_congr_left fun p _ => ?_
    simp only [Function.comp, Sum.inr.injEq]
    split <;> rfl
  · simp [kvsT]
theorem kvsT_drop {t : Tb} {n : Str} : dropK (kvsT t) (Sum.inr n) = kvsT (dropT t n) := by
  unfold dropK dropT kvsT
  rw [List.filter_map]
  congr 1
  refine List.filter_congr fun p _ => ?_
  simp [Function.comp]
theorem kvsT_flat {t : Tb} : FlatK (kvsT t) := fun p hp => by
  obtain ⟨q, _, rfl⟩ := List.mem_map.mp hp
  rfl
theorem hitB_T {b : Tb} : ∀ {a : Tb}, hitB (kvsT b) (kvsT a) = true ↔ ∀ p ∈ a, lk b p.1 = some p.2
  | [] => by simp [kvsT, hitB]
  | p :: a => by
    have ih := hitB_T (b := b) (a := a)
    show hitB (kvsT b) ((Sum.inr p.1, V.int p.2) :: kvsT a) = true ↔ _
    unfold hitB
    rw [kvsT_val]
    cases e : lk b p.1 with
    | none => simp [e]
    | some i =>
      simp only [Option.map_some, Bool.and_eq_true, ih, List.mem_cons, forall_eq_or_imp, e, Option.some.injEq]
      constructor
      · rintro ⟨h1, h2⟩
        refine ⟨?_, h2⟩
        have : p.2 = i := by simpa [eqV] using h1
        exact this.symm
      · rintro ⟨h1, h2⟩
        exact ⟨by simp [eqV, h1], h2⟩
theorem eq_T {a b : Tb} (ha : OkT a) (hb : OkT b) : eqDk (kvsT a) (kvsT b) = true ↔ ∀ n, lk a n = lk b n := by
  unfold eqDk
  rw [Bool.and_eq_true, beq_iff_eq, kvsT_len, kvsT_len, hitB_T]
  constructor
  · rintro ⟨h1, h2⟩ n
    cases e : lk a n with
    | some i => exact (h2 _ (lk_mem e)).symm
    | none =>
      cases e' : lk b n with
      | none => rfl
      | some i =>
        have hn : n ∉ nms a := lk_none.mp e
        have := nodup_le (l := n :: nms a) (m := nms b) (List.nodup_cons.mpr ⟨hn, ha.nd⟩) fun x hx => by
          rcases List.mem_cons.mp hx with z | z
          · rw [z]; exact mem_nms.mpr ⟨i, e'⟩
          · obtain ⟨j, hj⟩ := mem_nms.mp z
            exact mem_nms.mpr ⟨j, h2 _ (lk_mem hj)⟩
        simp [nms] at this
        omega
  · intro h
    exact ⟨ha.same_len hb h, fun p hp => by rw [← h]; exact lk_of ha.nd hp⟩
theorem eq_T' {a b : Tb} (ha : OkT a) (hb : OkT b) (h : ∀ n, lk a n = lk b n) : eqDk (kvsT a) (kvsT b) = true := (eq_T ha hb).mpr h
theorem ne_T {a b : Tb} (ha : OkT a) (hb : OkT b) (h : ¬ ∀ n, lk a n = lk b n) : eqDk (kvsT a) (kvsT b) = false := by
  cases e : eqDk (kvsT a) (kvsT b) with
  | false => rfl
  | true => exact absurd ((eq_T ha hb).mp e) h
/-- a state stands at p -/
structure StAt (mg : Str → Option Value) (H : Hp) (p : Addr) (t : Tb) : Prop where
  ex : ∃ dx d, H p = some (.ins (cls mg "State") dx [("table", .ref d)]) ∧ H d = some (.dK (kvsT t))
  ok : OkT t
  len : t.length ≤ 20
theorem StAt.same {H H' : Hp} {p : Addr} {t : Tb} (h : StAt mg H p t) (s : Same H H') : StAt mg H' p t := by
  obtain ⟨dx, d, h1, h2⟩ := h.ex
  exact ⟨⟨dx, d, s _ _ h1, s _ _ h2⟩, h.ok, h.len⟩
theorem StAt.but {H H' : Hp} {p a : Addr} {t : Tb} {l : List V} (h : StAt mg H p t) (s : But a H H') (ha : H a = some (.lst l)) : StAt mg H' p t := by
  obtain ⟨dx, d, h1, h2⟩ := h.ex
  exact ⟨⟨dx, d, s _ _ h1 (ne_of h1 ha (by intro z; cases z)), s _ _ h2 (ne_of h2 ha (by intro z; cases z))⟩, h.ok, h.len⟩
/-- pairs of a part -/
def PairsAt (H : Hp) : List V → Pt → Prop
  | [], [] => True
  | x :: xs, p :: ps => (∃ q, x = .ref q ∧ H q = some (.tup [.str p.1, numV p.2])) ∧ PairsAt H xs ps
  | _, _ => False
theorem PairsAt.tups {H H' : Hp} (h : ∀ b xs, H b = some (.tup xs) → H' b = some (.tup xs)) : ∀ {xs : List V} {ps : Pt}, PairsAt H xs ps → PairsAt H' xs ps
  | [], [], _ => trivial
  | x :: xs, p :: ps, ⟨⟨q, e, hq⟩, r⟩ => ⟨⟨q, e, h _ _ hq⟩, PairsAt.tups h r⟩
theorem PairsAt.same {H H' : Hp} (s : Same H H') {xs : List V} {ps : Pt} (h : PairsAt H xs ps) : PairsAt H' xs ps := h.tups fun b ys e => s _ _ e
theorem PairsAt.len {H : Hp} : ∀ {xs : List V} {ps : Pt}, PairsAt H xs ps → xs.length = ps.length
  | [], [], _ => rfl
  | x :: xs, p :: ps, ⟨_, r⟩ => by simp [PairsAt.len r]
theorem PairsAt.app {H : Hp} : ∀ {xs ys : List V} {ps qs : Pt}, PairsAt H xs ps → PairsAt H ys qs → PairsAt H (xs ++ ys) (ps ++ qs)
  | [], _, [], _, _, h => h
  | x :: xs, _, p :: ps, _, ⟨a, r⟩, h => ⟨a, PairsAt.app r h⟩
theorem PairsAt.one {H : Hp} {q : Addr} {p : Str × Option Int} (h : H q = some (.tup [.str p.1, numV p.2])) : PairsAt H [.ref q] [p] := ⟨⟨q, rfl, h⟩, trivial⟩
theorem PairsAt.get {H : Hp} : ∀ {xs : List V} {ps : Pt}, PairsAt H xs ps → ∀ {i : Nat} {x : V}, xs[i]? = some x → ∃ p q, ps[i]? = some p ∧ x = .ref q ∧ H q = some (.tup [.str p.1, numV p.2])
  | x :: xs, p :: ps, ⟨⟨q, e, hq⟩, r⟩, 0, y, hy => by
    cases hy
    exact ⟨p, q, rfl, e, hq⟩
  | x :: xs, p :: ps, ⟨_, r⟩, i + 1, y, hy => PairsAt.get r hy
  | [], [], _, i, y, hy => by simp at hy
theorem PairsAt.take {H : Hp} : ∀ {xs : List V} {ps : Pt} (n : Nat), PairsAt H xs ps → PairsAt H (xs.take n) (ps.take n)
  | [], [], n, _ => by simp [PairsAt]
  | x :: xs, p :: ps, 0, _ => by simp [PairsAt]
  | x :: xs, p :: ps, n + 1, ⟨a, r⟩ => ⟨a, PairsAt.take n r⟩
theorem PairsAt.drop {H : Hp} : ∀ {xs : List V} {ps : Pt} (n : Nat), PairsAt H xs ps → PairsAt H (xs.drop n) (ps.drop n)
  | [], [], n, _ => by simp [PairsAt]
  | x :: xs, p :: ps, 0, h => h
  | x :: xs, p :: ps, n + 1, ⟨a, r⟩ => PairsAt.drop n r
/-- a part stands at l -/
def PartAt (H : Hp) (l : Addr) (ps : Pt) : Prop := ∃ xs, H l = some (.lst xs) ∧ PairsAt H xs ps
theorem PartAt.same {H H' : Hp} (s : Same H H') {l : Addr} {ps : Pt} (h : PartAt H l ps) : PartAt H' l ps := by
  obtain ⟨xs, h1, h2⟩ := h
  exact ⟨xs, s _ _ h1, h2.same s⟩
/-- .. as data -/
def numD : Option Int → PyData
  | none => .none
  | some i => .int i
def dPt (ps : Pt) : PyData := .list (ps.map fun p => .tuple [.str p.1, numD p.2])
theorem dp_num {H : Hp} (x : Option Int) : Dp K H (numV x) (numD x) := by
  cases x with
  | none => exact .non
  | some i => exact .int i
theorem PairsAt.dp {H : Hp} : ∀ {xs : List V} {ps : Pt}, PairsAt H xs ps → DpAll K H xs (ps.map fun p => .tuple [.str p.1, numD p.2])
  | [], [], _ => .nil
  | x :: xs, p :: ps, ⟨⟨q, e, hq⟩, r⟩ => by
    subst e
    exact .cons (.tup (sqT hq) (.cons (.str _) (.cons (dp_num _) .nil))) (PairsAt.dp r)
theorem PartAt.dp {H : Hp} {l : Addr} {ps : Pt} (h : PartAt H l ps) : Dp K H (.ref l) (dPt ps) := by
  obtain ⟨xs, h1, h2⟩ := h
  exact .lst (sqL h1) h2.dp
theorem numD_inj {x y : Option Int} (h : numD x = numD y) : x = y := by
  cases x <;> cases y <;> simp [numD] at h ⊢
  exact h
theorem dPt_inj {ps qs : Pt} : dPt ps = dPt qs ↔ ps = qs := by
  constructor
  · intro h
    have h' := PyData.list.inj h
    refine (List.map_inj_right (fun a b q => ?_)).mp h'
    have q1 := PyData.tuple.inj q
    simp only [List.cons.injEq, PyData.str.injEq, and_true] at q1
    exact Prod.ext q1.1 (numD_inj q1.2)
  · intro h; rw [h]
/-- texts that may be laid down: names are such -/
theorem nm_strOk {s : Str} (h : isNm s) : PyData.strOk s = true := by
  obtain ⟨h1, h2, h3⟩ := h
  unfold PyData.strOk
  rw [← Array.all_toList, List.all_eq_true]
  intro c hc
  have := h3 c hc
  simp
  omega
theorem gd_dPt {ps : Pt} (h : ∀ p ∈ ps, isNm p.1) : gd 2 (dPt ps) = true := by
  simp only [dPt, gd]
  rw [List.all_eq_true]
  intro x hx
  obtain ⟨p, hp, rfl⟩ := List.mem_map.mp hx
  have h1 : gd 0 (.str p.1) = true := by simp only [gd]; exact nm_strOk (h p hp)
  have h2 : gd 0 (numD p.2) = true := by cases p.2 <;> rfl
  show ([PyData.str p.1, numD p.2].all (gd 0)) = true
  simp only [List.all_cons, List.all_nil, h1, h2, Bool.and_true]
end
end Nk
namespace Nk
open PySem L2
section
variable {P : Program} {w : World} {K : PySem.W.Frag} {mg : Str → Option Value} {base : Heap}
abbrev letters : Str := "abcdefghijklmnopqrstuvwxyz"
theorem letters_in (c : Nat) : c ∈ letters.cps.toList ↔ 97 ≤ c ∧ c ≤ 122 := by
  have e : letters.cps.toList = (List.range 26).map (· + 97) := by decide +kernel
  rw [e, List.mem_map]
  constructor
  · rintro ⟨k, hk, rfl⟩
    have := List.mem_range.mp hk
    omega
  · intro h
    exact ⟨c - 97, List.mem_range.mpr (by omega), by omega⟩
def isNameV : V → Bool
  | .str s => decide (isNm s)
  | _ => false
/-- texts are not too long -/
def ShortS (x : V) : Prop := ∀ s, x = .str s → s.cps.size ≤ 1000
theorem isNm_all {s : Str} (h1 : 1 ≤ s.cps.toList.length) (h2 : s.cps.toList.length ≤ 6) : decide (isNm s) = (s.cps.toList.map fun c => decide (c ∈ letters.cps.toList)).all id := by
  rw [Bool.eq_iff_iff, decide_eq_true_eq, List.all_map, List.all_eq_true]
  unfold isNm
  constructor
  · rintro ⟨_, _, h⟩ c hc
    simp only [Function.comp, id, decide_eq_true_eq]
    exact (letters_in c).mpr (h c hc)
  · intro h
    refine ⟨h1, h2, fun c hc => (letters_in c).mp ?_⟩
    have := h c hc
    simpa only [Function.comp, id, decide_eq_true_eq] using this
abbrev nm_is_name : List Str := ["thing", "sign"]
abbrev pm_is_name : List Str := ["thing"]
abbrev lv_is_name : Nat := 1
theorem sc_is_name : FnScope nm_is_name pm_is_name (defScope s_is_name) := ⟨rfl, rfl, rfl, by decide +kernel, rfl, by decide +kernel, by decide +kernel⟩
def sp_is_name (K : PySem.W.Frag) : Sp := fun vs H Q _ => ∃ (x : V) (n : String), vs = [x] ∧ Thing K H x n ∧ ShortS x ∧ ∀ H', Same H H' → Q (.bl (isNameV x)) H'
theorem f_is_name (T : Txt K mg) : Fk P w K mg base CX0 lv_is_name "is_name" pm_is_name (sp_is_name K) := by
  obtain ⟨f, fd, F, g, b⟩ := T.d_is_name.ex
  refine ⟨f, fd, g, F.kp, b, F.ok sc_is_name (fun vs H Q E h => ?_) (fun cdv A outer s H vs Q E hr h => ?_)⟩
  · obtain ⟨x, n, rfl, _⟩ := h; rfl
  · obtain ⟨x, n, rfl, hx, hs, q⟩ := h
    refine ⟨_, (pss_one (ps_ret (pe_and (pe_callB call_isi (by rfl) T.b_isinstance (by decide +kernel) (pa_cons (pv 0) (pa_cons (pe_bltn (v := .ty "str") (by rfl) T.b_str (by decide +kernel) rfl) pa_nil))) (pe_and (pe_chain op_le op_le pe_int (pe_callB call_len_str (by rfl) T.b_len PySem.boot_len (pa_cons (pv 0) pa_nil)) pe_int) (pe_one (pe_callB (cr_all rfl) (by rfl) T.b_all (by decide +kernel) (pa_cons (pe_lc (own := [("sign", 1)]) (g := gName 1) (tt := tYes) (by rfl) sc_is_name.nd (pi_str (pv 0)) (blkOk_by (own := [("sign", 1)]) (N := nm_is_name) (sc := defScope s_is_name) (by decide +kernel)) (fun _ _ _ _ _ => (pg_name (i := 1) sc_is_name.nd rfl (Or.inl rfl))) (fun _ _ _ _ _ => pts_nil) (fun _ _ _ _ _ => (pe_cmpR op_in_sign (pv 1) (pe_globS T.c_LETTERS (by rfl)) (by rfl)))) pa_nil))))))), ?_⟩
    walk_at "rd"
    refine isi_thing hx (by decide) ?_
    cases hx with
    | str s =>
      have hz := hs s rfl
      have hl : s.length = s.cps.toList.length := Array.length_toList.symm
      have hz' : s.cps.toList.length ≤ 1000 := by rw [Array.length_toList]; exact hz
      refine ⟨true, rfl, ?_⟩
      walk_at "rd"
      refine ⟨by rw [hl]; exact sz (by omega), ?_⟩
      rw [hl]
      by_cases c1 : 1 ≤ s.cps.toList.length
      · by_cases c2 : s.cps.toList.length ≤ 6
        · have d1 : (1 : Int) ≤ (s.cps.toList.length : Int) := by omega
          have d2 : (s.cps.toList.length : Int) ≤ 6 := by omega
          simp only [d1, d2]
          walk_at "ru"
          intro D hD
          refine lc_it walk_str (LcP H D fun i => (s.cps.toList.take i).map fun c => .bl (decide (c ∈ letters.cps.toList))) ⟨same_upd hD, upd_same⟩ (fun _ _ _ _ => trivial) (fun i x H2 H3 hi p hy => ?_) (fun H2 p => ?_)
          · obtain ⟨rfl, c, hc, rfl⟩ := hy
            walk_at "ru"
            have hc' : s.cps.toList[i]? = some c := by rw [Array.getElem?_toList]; exact hc
            exact ⟨c, rfl, p.push hD (by simp; omega) (Same.refl _) (map_take_next _ hc')⟩
          · refine ⟨D, s.cps.toList.map fun c => decide (c ∈ letters.cps.toList), rfl, ?_, ?_⟩
            · have := p.at_
              rw [← Array.length_toList, List.take_length] at this
              rw [List.map_map]
              exact sqL this
            · rw [← isNm_all c1 c2]
              exact q H2 p.same
        · have d1 : (1 : Int) ≤ (s.cps.toList.length : Int) := by omega
          have d2 : ¬ (s.cps.toList.length : Int) ≤ 6 := by omega
          simp only [d1, d2]
          walk_at "ru"
          have e : isNameV (.str s) = false := by
            simp only [isNameV, decide_eq_false_iff_not]
            rintro ⟨_, h, _⟩
            exact c2 h
          rw [e] at q
          exact q _ (Same.refl _)
      · have d1 : ¬ (1 : Int) ≤ (s.cps.toList.length : Int) := by omega
        simp only [d1]
        walk_at "ru"
        have e : isNameV (.str s) = false := by
          simp only [isNameV, decide_eq_false_iff_not]
          rintro ⟨h, _⟩
          exact c1 h
        rw [e] at q
        exact q _ (Same.refl _)
    | _ => exact ⟨false, rfl, q _ (Same.refl _)⟩
theorem ShortS.nm {s : Str} (h : isNm s) : ShortS (.str s) := fun s' e => by
  cases e
  have := h.2.1
  rw [Array.length_toList] at this
  omega
theorem isNameV_nm {s : Str} (h : isNm s) : isNameV (.str s) = true := by
  simp only [isNameV, decide_eq_true_eq]
  exact h
theorem tyD {H : Hp} {d : Addr} {kvs : List (Key × V)} (h : H d = some (.dK kvs)) : tyV K "dict" (.ref d) H := .inr (.inr (.inl ⟨rfl, .inl ⟨_, h⟩⟩))
/-- a locked dict is left as it was -/
theorem unlock {H H1 H2 : Hp} {d : Addr} {od : Obj} {u : HO} (hd : H d = some u) (e : upd H d (.frz od u) = H1) (s : Same H1 H2) : H2 d = some (.frz od u) ∧ Same H (upd H2 d u) := by
  subst e
  refine ⟨s _ _ upd_same, fun b o hb => ?_⟩
  by_cases c : b = d
  · subst c
    rw [hb] at hd
    cases hd
    exact upd_same
  · rw [upd_ne c]
    exact s _ _ (by rw [upd_ne c]; exact hb)
abbrev nm_is_state : List Str := ["thing", "name"]
abbrev pm_is_state : List Str := ["thing"]
abbrev lv_is_state : Nat := 2
theorem sc_is_state : FnScope nm_is_state pm_is_state (defScope s_is_state) := ⟨rfl, rfl, rfl, by decide +kernel, rfl, by decide +kernel, by decide +kernel⟩
def sp_is_state : Sp := fun vs H Q _ => ∃ (d : Addr) (t : Tb), vs = [.ref d] ∧ H d = some (.dK (kvsT t)) ∧ OkT t ∧ t.length ≤ 20 ∧ ∀ H', Same H H' → Q (.bl true) H'
theorem f_is_state (T : Txt K mg) : Fk P w K mg base CX0 lv_is_state "is_state" pm_is_state sp_is_state := by
  obtain ⟨f, fd, F, g, b⟩ := T.d_is_state.ex
  refine ⟨f, fd, g, F.kp, b, F.ok sc_is_state (fun vs H Q E h => ?_) (fun cdv A outer s H vs Q E hr h => ?_)⟩
  · obtain ⟨d, t, rfl, _⟩ := h; rfl
  · obtain ⟨d, t, rfl, hd, ok, hl, q⟩ := h
    have hu := hu_of hr
    refine ⟨_, (pss_cons (ps_if (PW.pt (pw_or (pt_not (pt_val (pe_callB call_isi (by rfl) T.b_isinstance (by decide +kernel) (pa_cons (pv 0) (pa_cons (pe_bltn (v := .ty "dict") (by rfl) T.b_dict (by decide +kernel) rfl) pa_nil))))) (pw_or1 (pt_cmpR op_gt (pe_callB call_lenD (by rfl) T.b_len PySem.boot_len (pa_cons (pv 0) pa_nil)) (pe_globI T.c_MOST_NAMES (by rfl)) (nomark _))))) (pss_one (ps_ret pe_bl)) pss_nil)
      (pss_one (ps_ret (pe_callB (cr_all rfl) (by rfl) T.b_all (by decide +kernel) (pa_cons (pe_lock (pe_lc (own := [("name", 1)]) (g := gName 1) (tt := tYes) (by rfl) sc_is_state.nd (pi_keysM (pv 0)) (blkOk_by (own := [("name", 1)]) (N := nm_is_state) (sc := defScope s_is_state) (by decide +kernel)) (fun _ _ _ _ _ => (pg_name (i := 1) sc_is_state.nd rfl (Or.inl rfl))) (fun _ _ _ _ _ => pts_nil) (fun _ _ _ _ _ => (pe_and (pe_fn (f_is_name T) (hr.mono (by decide)) (by rfl) pass0 (pa_cons (pv 1) pa_nil)) (pe_one (pe_fn (f_is_number T) (hr.mono (by decide)) (by rfl) pass0 (pa_cons (pe_dget hu (pv 0) (pv 1) (fun _ _ => rfl)) (pa_cons pe_int (pa_cons pe_int pa_nil))))))))) pa_nil))))), ?_⟩
    with_reducible refine seq_k fun K_ hK_ => ?_
    walk_at "ru"
    refine isi_thing (.dic hd) (by decide) ⟨true, rfl, ?_⟩
    walk_at "ru"
    refine ⟨_, hd, ?_⟩
    rw [kvsT_len, if_neg (by omega)]
    walk_at "ru"
    subst hK_
    first | with_reducible refine seq_k fun K_ hK_ => ?_ | skip
    walk_at "ru"
    refine ⟨d, _, hd, trivial, fun od => ?_⟩
    generalize hG : upd H d (.frz od (.dK (kvsT t))) = H1
    have hd1 : H1 d = some (.frz od (.dK (kvsT t))) := by rw [← hG]; exact upd_same
    have un := fun {H2 : Hp} (s : Same H1 H2) => unlock hd hG s
    walk_at "ru"
    refine ⟨od, _, hd1, fun D hD => ?_⟩
    refine lc_it walk_keys (LcP H1 D fun i => (t.take i).map fun _ => .bl true) ⟨same_upd hD, upd_same⟩ (fun _ _ _ p => p.same _ _ hd1) (fun i x H2 H3 hi p hy => ?_) (fun H2 p => ?_)
    · obtain ⟨rfl, k, v, hk, rfl⟩ := hy
      unfold kvsT at hk
      rw [List.getElem?_map] at hk
      cases e : t[i]? with
      | none => rw [e] at hk; cases hk
      | some pr =>
        rw [e] at hk
        cases hk
        have hm := mem_of_get e
        have hn := ok.nm _ hm
        have hn2 := ok.num _ hm
        walk_at "ru"
        refine ⟨_, _, rfl, .str pr.1, ShortS.nm hn, fun H4 s4 => ?_⟩
        rw [isNameV_nm hn]
        walk_at "ru"
        have hval : valV (kvsT t) (Sum.inr pr.1) = some (.int pr.2) := by rw [kvsT_val, lk_of ok.nd hm]; rfl
        refine ⟨_, .inl ⟨_, Sum.inr pr.1, .inr ⟨od, (p.same.trans s4) _ _ hd1⟩, rfl, hval.symm⟩, _, _, 0, _, rfl, .int _, fun _ _ => ⟨99, rfl⟩, ?_⟩
        have e2 : isNumV (.int pr.2) 0 (.int 99) = true := by simp [isNumV, hn2]
        rw [e2]
        exact p.push hD (by simp; omega) s4 (map_take_next _ e)
    · obtain ⟨hl2, s2⟩ := un p.same
      refine ⟨hl2, D, (t.take t.length).map fun _ => true, rfl, ?_, ?_⟩
      · have := p.at_
        rw [kvsT_len] at this
        rw [List.map_map]
        refine sqL ?_
        rw [upd_ne (ne_of_none hd1 hD).symm]
        exact this
      · have e : ((t.take t.length).map fun _ => true).all id = true := by simp
        rw [e]
        exact q _ s2
abbrev nm_State____init__ : List Str := ["self", "some"]
abbrev pm_State____init__ : List Str := ["self", "some"]
abbrev lv_State____init__ : Nat := 3
theorem sc_State____init__ : FnScope nm_State____init__ pm_State____init__ (defScope s_State____init__) := ⟨rfl, rfl, rfl, by decide +kernel, rfl, by decide +kernel, by decide +kernel⟩
def sp_State____init__ (mg : Str → Option Value) : Sp := fun vs H Q _ => ∃ (k dx d : Addr) (t : Tb), vs = [.ref k, .ref d] ∧ H k = some (.ins (cls mg "State") dx []) ∧ H d = some (.dK (kvsT t)) ∧ OkT t ∧ t.length ≤ 20 ∧
  ∀ H', (∀ b o, H b = some o → b ≠ k → H' b = some o) → StAt mg H' k t → (∃ dx d, H d = none ∧ H' k = some (.ins (cls mg "State") dx [("table", .ref d)]) ∧ H' d = some (.dK (kvsT t))) → Q .non H'
theorem f_State____init__ (T : Txt K mg) : Mo P w K mg base CX0 lv_State____init__ "State" "__init__" pm_State____init__ (sp_State____init__ mg) := by
  obtain ⟨f, fd, F, g, b⟩ := T.m_State____init__.ex
  refine ⟨f, fd, g, b, F.ok sc_State____init__ (fun vs H Q E h => ?_) (fun cdv A outer s H vs Q E hr h => ?_)⟩
  · obtain ⟨k, dx, d, t, rfl, _⟩ := h; rfl
  · obtain ⟨k, dx, d, t, rfl, hk, hd, ok, hl, q⟩ := h
    refine ⟨_, (pss_cons (ps_if (pt_not (pt_val (pe_fn (f_is_state T) (hr.mono (by decide)) (by rfl) pass0 (pa_cons (pv 1) pa_nil)))) (pss_one ps_never) pss_nil)
      (pss_one (ps_fld (pv 0) (pe_callTy call_dictD (by rfl) T.b_dict (by decide +kernel) (pa_cons (pv 1) pa_nil)) rfl))), ?_⟩
    with_reducible refine seq_k fun K_ hK_ => ?_
    walk_at "ru"
    refine ⟨d, t, rfl, hd, ok, hl, fun H1 s1 => ⟨true, rfl, ?_⟩⟩
    rw [if_neg (by simp)]
    walk_at "ru"
    subst hK_
    first | with_reducible refine seq_k fun K_ hK_ => ?_ | skip
    walk_at "ru"
    refine ⟨_, .inl (s1 _ _ hd), fun p hp => ?_⟩
    have hk1 := s1 _ _ hk
    have hkp : k ≠ p := ne_of_none hk1 hp
    refine ⟨_, dx, _, by rw [upd_ne hkp]; exact hk1, T.o_State.cl, T.n_State__table, (by show (0 : Nat) < 1000; decide), ?_⟩
    refine q _ (fun b o hb hbk => ?_) ⟨⟨dx, p, upd_same, by rw [upd_ne hkp.symm]; exact upd_same⟩, ok, hl⟩ ⟨dx, p, s1.free hp, upd_same, by rw [upd_ne hkp.symm]; exact upd_same⟩
    have hb1 := s1 _ _ hb
    rw [upd_ne hbk, upd_ne (ne_of_none hb1 hp)]
    exact hb1
/-- State(table) -/
theorem state_new {H : Hp} {d : Addr} {t : Tb} {Q : Addr → Hp → Prop} {E : XK} (hd : H d = some (.dK (kvsT t))) (ok : OkT t) (hl : t.length ≤ 20) (q : ∀ k H', Same H H' → H k = none → StAt mg H' k t → Q k H') :
    ∀ x dx : Addr, H x = none → H dx = none → dx ≠ x → sp_State____init__ mg [.ref x, .ref d] (upd (upd H dx (.own x)) x (.ins (cls mg "State") dx [])) (fun v H2 => v = .non ∧ Q x H2) E := by
  intro x dx hx hdx hne
  have s1 : Same H (upd (upd H dx (.own x)) x (.ins (cls mg "State") dx [])) := fun b o hb => by
    rw [upd_ne (ne_of_none hb hx), upd_ne (ne_of_none hb hdx)]
    exact hb
  exact ⟨x, dx, d, t, rfl, upd_same, s1 _ _ hd, ok, hl, fun H' st hS _ => ⟨rfl, q x H' (fun b o hb => st b o (s1 _ _ hb) (ne_of_none hb hx)) hx hS⟩⟩
/-- State(table), and where its dict stands -/
theorem state_newF {H : Hp} {d : Addr} {t : Tb} {Q : Addr → Hp → Prop} {E : XK} (hd : H d = some (.dK (kvsT t))) (ok : OkT t) (hl : t.length ≤ 20) (q : ∀ k dx e H', Same H H' → H k = none → H e = none → H' k = some (.ins (cls mg "State") dx [("table", .ref e)]) → H' e = some (.dK (kvsT t)) → Q k H') :
    ∀ x dx : Addr, H x = none → H dx = none → dx ≠ x → sp_State____init__ mg [.ref x, .ref d] (upd (upd H dx (.own x)) x (.ins (cls mg "State") dx [])) (fun v H2 => v = .non ∧ Q x H2) E := by
  intro x dx hx hdx hne
  have s1 : Same H (upd (upd H dx (.own x)) x (.ins (cls mg "State") dx [])) := fun b o hb => by
    rw [upd_ne (ne_of_none hb hx), upd_ne (ne_of_none hb hdx)]
    exact hb
  refine ⟨x, dx, d, t, rfl, upd_same, s1 _ _ hd, ok, hl, fun H' st hS hF => ⟨rfl, ?_⟩⟩
  obtain ⟨dx', e, h1, h2, h3⟩ := hF
  exact q x dx' e H' (fun b o hb => st b o (s1 _ _ hb) (ne_of_none hb hx)) hx (s1.free h1) h2 h3
abbrev nm_State____len__ : List Str := ["self"]
abbrev pm_State____len__ : List Str := ["self"]
abbrev lv_State____len__ : Nat := 1
theorem sc_State____len__ : FnScope nm_State____len__ pm_State____len__ (defScope s_State____len__) := ⟨rfl, rfl, rfl, by decide +kernel, rfl, by decide +kernel, by decide +kernel⟩
def sp_State____len__ (mg : Str → Option Value) : Sp := fun vs H Q _ => ∃ (p : Addr) (t : Tb), vs = [.ref p] ∧ StAt mg H p t ∧ Q (.int t.length) H
theorem f_State____len__ (T : Txt K mg) : Mo P w K mg base CX0 lv_State____len__ "State" "__len__" pm_State____len__ (sp_State____len__ mg) := by
  obtain ⟨f, fd, F, g, b⟩ := T.m_State____len__.ex
  refine ⟨f, fd, g, b, F.ok sc_State____len__ (fun vs H Q E h => ?_) (fun cdv A outer s H vs Q E hr h => ?_)⟩
  · obtain ⟨p, t, rfl, _⟩ := h; rfl
  · obtain ⟨p, t, rfl, hS, q⟩ := h
    refine ⟨_, (pss_one (ps_ret (pe_callB call_lenD (by rfl) T.b_len PySem.boot_len (pa_cons (pe_fld (pv 0) rfl) pa_nil)))), ?_⟩
    obtain ⟨dx, d, h1, h2⟩ := hS.ex
    walk_at "ru"
    refine ⟨_, dx, _, h1, T.o_State.cl, T.n_State__table, _, rfl, d, rfl, _, h2, ?_⟩
    rw [kvsT_len]
    exact q
abbrev nm_State____eq__ : List Str := ["self", "other"]
abbrev pm_State____eq__ : List Str := ["self", "other"]
abbrev lv_State____eq__ : Nat := 1
theorem sc_State____eq__ : FnScope nm_State____eq__ pm_State____eq__ (defScope s_State____eq__) := ⟨rfl, rfl, rfl, by decide +kernel, rfl, by decide +kernel, by decide +kernel⟩
def sp_State____eq__ (mg : Str → Option Value) : Sp := fun vs H Q _ => ∃ (p q : Addr) (t u : Tb), vs = [.ref p, .ref q] ∧ StAt mg H p t ∧ StAt mg H q u ∧ Q (.bl (eqDk (kvsT t) (kvsT u))) H
theorem f_State____eq__ (T : Txt K mg) : Mo P w K mg base CX0 lv_State____eq__ "State" "__eq__" pm_State____eq__ (sp_State____eq__ mg) := by
  obtain ⟨f, fd, F, g, b⟩ := T.m_State____eq__.ex
  refine ⟨f, fd, g, b, F.ok sc_State____eq__ (fun vs H Q E h => ?_) (fun cdv A outer s H vs Q E hr h => ?_)⟩
  · obtain ⟨p, q, t, u, rfl, _⟩ := h; rfl
  · obtain ⟨p, q, t, u, rfl, hS, hU, q0⟩ := h
    refine ⟨_, (pss_one (ps_ret (pe_and (pe_callB call_isi (by rfl) T.b_isinstance (by decide +kernel) (pa_cons (pv 1) (pa_cons (pe_glob (v := .ref (cls mg "State")) (by rfl) T.o_State.g rfl) pa_nil))) (pe_one (pe_cmpR (op_eqDk hr.units0) (pe_fld (pv 0) rfl) (pe_fld (pv 1) rfl) (nomark _)))))), ?_⟩
    obtain ⟨dx, d, h1, h2⟩ := hS.ex
    obtain ⟨dy, e, h3, h4⟩ := hU.ex
    walk_at "ru"
    refine isi_own T.o_State T.v_State h3 ⟨true, rfl, ?_⟩
    walk_at "ru"
    refine ⟨_, dx, _, h1, T.o_State.cl, T.n_State__table, _, rfl, _, dy, _, h3, T.o_State.cl, T.n_State__table, _, rfl, d, e, _, _, rfl, rfl, h2, h4, kvsT_flat, kvsT_flat, q0⟩
abbrev nm_State__number : List Str := ["self", "name"]
abbrev pm_State__number : List Str := ["self", "name"]
abbrev lv_State__number : Nat := 2
theorem sc_State__number : FnScope nm_State__number pm_State__number (defScope s_State__number) := ⟨rfl, rfl, rfl, by decide +kernel, rfl, by decide +kernel, by decide +kernel⟩
def lkV (t : Tb) : V → Option Int
  | .str s => lk t s
  | _ => none
def sp_State__number (K : PySem.W.Frag) (mg : Str → Option Value) : Sp := fun vs H Q _ => ∃ (p : Addr) (t : Tb) (x : V) (n : String), vs = [.ref p, x] ∧ StAt mg H p t ∧ Thing K H x n ∧ ShortS x ∧ ∀ H', Same H H' → Q (numV (lkV t x)) H'
theorem f_State__number (T : Txt K mg) : Mo P w K mg base CX0 lv_State__number "State" "number" pm_State__number (sp_State__number K mg) := by
  obtain ⟨f, fd, F, g, b⟩ := T.m_State__number.ex
  refine ⟨f, fd, g, b, F.ok sc_State__number (fun vs H Q E h => ?_) (fun cdv A outer s H vs Q E hr h => ?_)⟩
  · obtain ⟨p, t, x, n, rfl, _⟩ := h; rfl
  · obtain ⟨p, t, x, n, rfl, hS, hx, hs, q⟩ := h
    have hu := hu_of hr
    refine ⟨_, (pss_one (ps_ret (pe_ifExp (PW.pt (pw_and (pt_val (pe_fn (f_is_name T) (hr.mono (by decide)) (by rfl) pass0 (pa_cons (pv 1) pa_nil))) (pw_and1 (pt_cmp (pc_din hu (pv 1) (pe_fld (pv 0) rfl)))))) (pe_dget hu (pe_fld (pv 0) rfl) (pv 1) (fun _ _ => rfl)) pe_non))), ?_⟩
    obtain ⟨dx, d, h1, h2⟩ := hS.ex
    walk_at "ru"
    refine ⟨x, n, rfl, hx, hs, fun H1 s1 => ⟨_, rfl, ?_⟩⟩
    cases hnm : isNameV x with
    | false =>
      rw [if_neg Bool.false_ne_true]
      have e : lkV t x = none := by
        cases x with
        | str s =>
          simp only [lkV]
          rw [lk_none]
          intro hm
          obtain ⟨pr, hp, rfl⟩ := List.mem_map.mp hm
          rw [isNameV_nm (hS.ok.nm _ hp)] at hnm
          cases hnm
        | _ => rfl
      rw [e] at q
      walk_at "ru"
      exact q H1 s1
    | true =>
      rw [if_pos rfl]
      obtain ⟨s, rfl⟩ : ∃ s, x = .str s := by
        cases x with
        | str s => exact ⟨s, rfl⟩
        | _ => cases hnm
      walk_at "ru"
      refine ⟨_, dx, _, s1 _ _ h1, T.o_State.cl, T.n_State__table, _, rfl, d, rfl, _, DGet.k (k := Sum.inr s) (s1 _ _ h2), ?_⟩
      rw [kvsT_val]
      cases e : lk t s with
      | none =>
        rw [if_neg (by simp)]
        have := q H1 s1
        simpa only [lkV, e, numV] using this
      | some i =>
        walk_at "ru"
        refine ⟨_, dx, _, s1 _ _ h1, T.o_State.cl, T.n_State__table, _, rfl, d, rfl, .int i, ?_, ?_⟩
        · have := DGet.k (k := Sum.inr s) (s1 _ _ h2)
          rw [kvsT_val, e] at this
          exact this
        · have := q H1 s1
          simpa only [lkV, e, numV] using this
abbrev nm_State__names : List Str := ["self"]
abbrev pm_State__names : List Str := ["self"]
abbrev lv_State__names : Nat := 1
theorem sc_State__names : FnScope nm_State__names pm_State__names (defScope s_State__names) := ⟨rfl, rfl, rfl, by decide +kernel, rfl, by decide +kernel, by decide +kernel⟩
def sp_State__names (mg : Str → Option Value) : Sp := fun vs H Q _ => ∃ (p : Addr) (t : Tb), vs = [.ref p] ∧ StAt mg H p t ∧ ∀ l H', Same H H' → H l = none → H' l = some (.lst ((srt (nms t)).map V.str)) → Q (.ref l) H'
theorem f_State__names (T : Txt K mg) : Mo P w K mg base CX0 lv_State__names "State" "names" pm_State__names (sp_State__names mg) := by
  obtain ⟨f, fd, F, g, b⟩ := T.m_State__names.ex
  refine ⟨f, fd, g, b, F.ok sc_State__names (fun vs H Q E h => ?_) (fun cdv A outer s H vs Q E hr h => ?_)⟩
  · obtain ⟨p, t, rfl, _⟩ := h; rfl
  · obtain ⟨p, t, rfl, hS, q⟩ := h
    refine ⟨_, (pss_one (ps_ret (pe_callB (cr_sortedKS rfl) (by rfl) T.b_sorted (by decide +kernel) (pa_cons (pe_bm0 PySem.F.plainAttrs_dict PySem.F.slot_dict_keys PySem.F.type_dict_keys mt_keys (pe_fld (pv 0) rfl)) pa_nil)))), ?_⟩
    obtain ⟨dx, d, h1, h2⟩ := hS.ex
    walk_at "ru"
    refine ⟨_, dx, _, h1, T.o_State.cl, T.n_State__table, _, rfl, tyD h2, d, _, rfl, rfl, h2, fun v hv => ?_⟩
    generalize hG : upd H v (KeysO v d) = H1
    obtain ⟨s1, hv1⟩ := newF hv hG
    clear hG
    refine ⟨v, d, _, nms t, rfl, hv1, s1 _ _ h2, kvsT_keys, hS.ok.nd, fun ys l h3 h4 hl => ?_⟩
    have e : ys = srt (nms t) := srt_uniq h3 pw_srt fun k => by rw [h4, mem_srt]
    subst e
    exact q l _ (s1.trans (same_upd hl)) (s1.free hl) upd_same
abbrev nm_State__plain : List Str := ["self"]
abbrev pm_State__plain : List Str := ["self"]
abbrev lv_State__plain : Nat := 1
theorem sc_State__plain : FnScope nm_State__plain pm_State__plain (defScope s_State__plain) := ⟨rfl, rfl, rfl, by decide +kernel, rfl, by decide +kernel, by decide +kernel⟩
def sp_State__plain (mg : Str → Option Value) : Sp := fun vs H Q _ => ∃ (p : Addr) (t : Tb), vs = [.ref p] ∧ StAt mg H p t ∧ ∀ d H', Same H H' → H d = none → H' d = some (.dK (kvsT t)) → Q (.ref d) H'
theorem f_State__plain (T : Txt K mg) : Mo P w K mg base CX0 lv_State__plain "State" "plain" pm_State__plain (sp_State__plain mg) := by
  obtain ⟨f, fd, F, g, b⟩ := T.m_State__plain.ex
  refine ⟨f, fd, g, b, F.ok sc_State__plain (fun vs H Q E h => ?_) (fun cdv A outer s H vs Q E hr h => ?_)⟩
  · obtain ⟨p, t, rfl, _⟩ := h; rfl
  · obtain ⟨p, t, rfl, hS, q⟩ := h
    refine ⟨_, (pss_one (ps_ret (pe_callTy call_dictD (by rfl) T.b_dict (by decide +kernel) (pa_cons (pe_fld (pv 0) rfl) pa_nil)))), ?_⟩
    obtain ⟨dx, d, h1, h2⟩ := hS.ex
    walk_at "ru"
    refine ⟨_, dx, _, h1, T.o_State.cl, T.n_State__table, _, rfl, d, rfl, _, .inl h2, fun p hp => q p _ (same_upd hp) hp upd_same⟩
end
end Nk
namespace Nk
open PySem L2
section
variable {P : Program} {w : World} {K : PySem.W.Frag} {mg : Str → Option Value} {base : Heap}
/-- things, down to a depth, their texts short -/
def DS (K : PySem.W.Frag) (H : Hp) : Nat → V → Prop
  | 0, x => (∃ n, Thing K H x n) ∧ ShortS x
  | k + 1, x => ((∃ n, Thing K H x n) ∧ ShortS x) ∧ ∀ a xs, x = .ref a → (H a = some (.tup xs) ∨ H a = some (.lst xs)) → xs.length ≤ 100000 ∧ ∀ y ∈ xs, DS K H k y
theorem DS.th {H : Hp} {k : Nat} {x : V} (h : DS K H k x) : (∃ n, Thing K H x n) ∧ ShortS x := by
  cases k with
  | zero => exact h
  | succ k => exact h.1
theorem DS.same {H H' : Hp} (s : Same H H') : ∀ {k : Nat} {x : V}, DS K H k x → DS K H' k x
  | 0, _, ⟨⟨n, h⟩, z⟩ => ⟨⟨n, Thing.same s h⟩, z⟩
  | k + 1, x, ⟨⟨⟨n, h⟩, z⟩, hi⟩ => by
    refine ⟨⟨⟨n, Thing.same s h⟩, z⟩, fun a xs e ha => ?_⟩
    have back : H a = some (.tup xs) ∨ H a = some (.lst xs) := by
      subst e
      cases h with
      | lst h => have := s _ _ h; rw [this] at ha; rcases ha with z | z <;> cases z; exact .inr h
      | tup h => have := s _ _ h; rw [this] at ha; rcases ha with z | z <;> cases z; exact .inl h
      | dic h => have := s _ _ h; rw [this] at ha; rcases ha with z | z <;> cases z
    obtain ⟨h1, h2⟩ := hi a xs e back
    exact ⟨h1, fun y hy => DS.same s (h2 y hy)⟩
def isNum0V (m : V) : Bool := match m with
  | .non => true
  | m => isNumV m 0 (.int 99)
def isPairV (H : Hp) (x : V) : Bool := match x with
  | .ref a => match H a with
    | some (.tup [n, m]) => isNameV n && isNum0V m
    | _ => false
  | _ => false
def nameOf (H : Hp) (x : V) : Str := match x with
  | .ref a => match H a with
    | some (.tup (.str s :: _)) => s
    | _ => Str.empty
  | _ => Str.empty
def isPartV (H : Hp) (x : V) : Bool := match x with
  | .ref a => match H a with
    | some (.lst xs) => decide (xs.length ≤ 40) && xs.all (isPairV H) && decide ((xs.map (nameOf H)).Pairwise sl)
    | _ => false
  | _ => false
theorem isPairV_same {H H' : Hp} (s : Same H H') {k : Nat} {x : V} (h0 : DS K H k x) : isPairV H' x = isPairV H x := by
  obtain ⟨⟨n, h⟩, _⟩ := h0.th
  clear h0
  cases h with
  | lst h => simp only [isPairV, h, s _ _ h]
  | tup h => simp only [isPairV, h, s _ _ h]
  | dic h => simp only [isPairV, h, s _ _ h]
  | _ => rfl
theorem nameOf_same {H H' : Hp} (s : Same H H') {k : Nat} {x : V} (h0 : DS K H k x) : nameOf H' x = nameOf H x := by
  obtain ⟨⟨n, h⟩, _⟩ := h0.th
  clear h0
  cases h with
  | lst h => simp only [nameOf, h, s _ _ h]
  | tup h => simp only [nameOf, h, s _ _ h]
  | dic h => simp only [nameOf, h, s _ _ h]
  | _ => rfl
theorem isPartV_same {H H' : Hp} (s : Same H H') {x : V} (h : DS K H 2 x) : isPartV H' x = isPartV H x := by
  obtain ⟨⟨⟨n, h⟩, _⟩, hi⟩ := h
  cases h with
  | @lst a xs h =>
    obtain ⟨_, h2⟩ := hi a xs rfl (.inr h)
    simp only [isPartV, h, s _ _ h]
    have e1 : xs.all (isPairV H') = xs.all (isPairV H) := by
      rw [Bool.eq_iff_iff, List.all_eq_true, List.all_eq_true]
      exact ⟨fun z x hx => by rw [← isPairV_same s (h2 x hx)]; exact z x hx, fun z x hx => by rw [isPairV_same s (h2 x hx)]; exact z x hx⟩
    have e2 : xs.map (nameOf H') = xs.map (nameOf H) := List.map_congr_left fun x hx => nameOf_same s (h2 x hx)
    rw [e1, e2]
  | tup h => simp only [isPartV, h, s _ _ h]
  | dic h => simp only [isPartV, h, s _ _ h]
  | _ => rfl
/-! neighbours in order -/
def adjL (l : List Str) : List Bool := (l.zip (l.drop 1)).map fun p => decide (sl p.1 p.2)
theorem adjL_get {l : List Str} {i : Nat} {x y : Str} (h1 : l[i]? = some x) (h2 : l[i + 1]? = some y) : (adjL l)[i]? = some (decide (sl x y)) := by
  unfold adjL
  have e : (l.zip (l.drop 1))[i]? = some (x, y) := List.getElem?_zip_eq_some.mpr ⟨h1, by rw [List.getElem?_drop, Nat.add_comm]; exact h2⟩
  rw [List.getElem?_map, e]
  rfl
theorem adjL_len {l : List Str} : (adjL l).length = l.length - 1 := by
  unfold adjL
  simp
theorem adjL_all : ∀ {l : List Str}, (adjL l).all id = decide (l.Pairwise sl)
  | [] => by simp [adjL]
  | [x] => by simp [adjL]
  | x :: y :: r => by
    have ih := adjL_all (l := y :: r)
    have e : adjL (x :: y :: r) = decide (sl x y) :: adjL (y :: r) := by simp [adjL]
    rw [e, List.all_cons, ih, Bool.eq_iff_iff]
    simp only [id, Bool.and_eq_true, decide_eq_true_eq]
    constructor
    · rintro ⟨h1, h2⟩
      refine List.pairwise_cons.mpr ⟨fun z hz => ?_, h2⟩
      rcases List.mem_cons.mp hz with c | c
      · rw [c]; exact h1
      · exact sl_trans h1 ((List.pairwise_cons.mp h2).1 z c)
    · intro h
      obtain ⟨h1, h2⟩ := List.pairwise_cons.mp h
      exact ⟨h1 y List.mem_cons_self, h2⟩
theorem PairsAt.ds {H : Hp} : ∀ {xs : List V} {ps : Pt}, PairsAt H xs ps → (∀ p ∈ ps, isNm p.1) → ∀ x ∈ xs, DS K H 1 x
  | x :: xs, p :: ps, ⟨⟨q, e, hq⟩, r⟩, hn, y, hy => by
    rcases List.mem_cons.mp hy with z | z
    · subst z
      subst e
      refine ⟨⟨⟨_, .tup hq⟩, fun s e => nomatch e⟩, fun a ys e ha => ?_⟩
      cases e
      rw [hq] at ha
      rcases ha with z | z <;> cases z
      refine ⟨by simp, fun y hy => ?_⟩
      simp only [List.mem_cons, List.not_mem_nil, or_false] at hy
      rcases hy with rfl | rfl
      · exact ⟨⟨_, .str _⟩, ShortS.nm (hn p List.mem_cons_self)⟩
      · cases p.2 with
        | none => exact ⟨⟨_, .non⟩, fun s e => nomatch e⟩
        | some i => exact ⟨⟨_, .int i⟩, fun s e => nomatch e⟩
    · exact PairsAt.ds r (fun p hp => hn p (List.mem_cons_of_mem _ hp)) y z
theorem PairsAt.isP {H : Hp} : ∀ {xs : List V} {ps : Pt}, PairsAt H xs ps → (∀ p ∈ ps, isNm p.1) → (∀ p ∈ ps, ∀ i, p.2 = some i → 0 ≤ i ∧ i ≤ 99) → xs.all (isPairV H) = true ∧ xs.map (nameOf H) = ps.map (·.1)
  | [], [], _, _, _ => ⟨rfl, rfl⟩
  | x :: xs, p :: ps, ⟨⟨q, e, hq⟩, r⟩, hn, hm => by
    subst e
    obtain ⟨i1, i2⟩ := PairsAt.isP r (fun p hp => hn p (List.mem_cons_of_mem _ hp)) (fun p hp => hm p (List.mem_cons_of_mem _ hp))
    have h1 := hn p List.mem_cons_self
    have h2 := hm p List.mem_cons_self
    constructor
    · rw [List.all_cons, i1, Bool.and_true]
      simp only [isPairV, hq, isNameV_nm h1, Bool.true_and]
      obtain ⟨n, m⟩ := p
      cases m with
      | none => rfl
      | some i =>
        have := h2 i rfl
        simp [numV, isNum0V, isNumV, this]
    · rw [List.map_cons, List.map_cons, i2]
      simp only [nameOf, hq]
theorem PartAt.ds {H : Hp} {l : Addr} {ps : Pt} (h : PartAt H l ps) (g : GoodP ps) : DS K H 2 (.ref l) ∧ isPartV H (.ref l) = true := by
  obtain ⟨xs, h1, h2⟩ := h
  have hl := h2.len
  have g4 := g.len
  refine ⟨⟨⟨⟨_, .lst h1⟩, fun s e => nomatch e⟩, fun a ys e ha => ?_⟩, ?_⟩
  · cases e
    rw [h1] at ha
    rcases ha with z | z <;> cases z
    exact ⟨by omega, h2.ds g.nm⟩
  · obtain ⟨i1, i2⟩ := h2.isP g.nm g.num
    simp only [isPartV, h1, i1, i2, Bool.and_true, Bool.and_eq_true, decide_eq_true_eq]
    exact ⟨by omega, g.pw⟩
theorem ds_list {H : Hp} {l : Addr} {k : Nat} {xs : List V} (h : H l = some (.lst xs)) (hz : xs.length ≤ 1000) (hx : ∀ x ∈ xs, DS K H k x) : DS K H (k + 1) (.ref l) := by
  refine ⟨⟨⟨_, .lst h⟩, fun s e => nomatch e⟩, fun a ys e ha => ?_⟩
  cases e
  rw [h] at ha
  rcases ha with z | z <;> cases z
  exact ⟨by omega, hx⟩
theorem ds0 {H : Hp} {x : V} {n : String} (h : Thing K H x n) (hs : ShortS x) : DS K H 0 x := ⟨⟨n, h⟩, hs⟩
theorem ds_tup {H : Hp} {l : Addr} {k : Nat} {xs : List V} (h : H l = some (.tup xs)) (hz : xs.length ≤ 1000) (hx : ∀ x ∈ xs, DS K H k x) : DS K H (k + 1) (.ref l) := by
  refine ⟨⟨⟨_, .tup h⟩, fun s e => nomatch e⟩, fun a ys e ha => ?_⟩
  cases e
  rw [h] at ha
  rcases ha with z | z <;> cases z
  exact ⟨by omega, hx⟩
theorem short_of {s : Str} (h : s.cps.size ≤ 1000) : ShortS (.str s) := fun s' e => by cases e; exact h
theorem ds_pair {H : Hp} {l : Addr} {s : Str} {x : V} {n : String} (h : H l = some (.tup [.str s, x])) (hs : s.cps.size ≤ 1000) (hx : Thing K H x n) (hx2 : ShortS x) : DS K H 1 (.ref l) :=
  ds_tup h (by simp) fun y hy => by
    simp only [List.mem_cons, List.not_mem_nil, or_false] at hy
    rcases hy with rfl | rfl
    · exact ds0 (.str s) (short_of hs)
    · exact ds0 hx hx2
theorem room65 {k : Nat} {A : Around} (r : Room k A) : A.units + 65 < cLine := by have := r.un; omega
end
end Nk
namespace Nk
open PySem L2
section
variable {P : Program} {w : World} {K : PySem.W.Frag} {mg : Str → Option Value} {base : Heap}
theorem applyP_cons {t : Tb} {n : Str} {x : Option Int} {ps : Pt} : applyP t ((n, x) :: ps) = if lk t n = x then none else applyP (stepP t n x) ps := rfl
theorem scal_num (a b : Option Int) : scal (numV a) (numV b) = true := by cases a <;> cases b <;> rfl
theorem numV_inj {a b : Option Int} : numV a = numV b ↔ a = b := by
  cases a <;> cases b <;> simp [numV]
/-- the number of a name in a state -/
theorem num_of {H : Hp} {p : Addr} {t : Tb} {n : Str} {Q : VK} {E : XK} (hS : StAt mg H p t) (hn : isNm n) (q : ∀ H', Same H H' → Q (numV (lk t n)) H') :
    ∃ dx fs, H p = some (.ins (cls mg "State") dx fs) ∧ fs.lookup ("number" : Str) = none ∧ sp_State__number K mg [.ref p, .str n] H Q E := by
  obtain ⟨dx, d, h1, h2⟩ := hS.ex
  exact ⟨dx, _, h1, rfl, p, t, .str n, _, rfl, hS, .str n, ShortS.nm hn, q⟩
/-- the last of a list -/
theorem ixLast {H : Hp} {p : Addr} {xs : List V} {v : V} {Q : VK} (h : SqL K H p xs) (e : xs.getLast? = some v) (q : Q v H) : rIxL K (.ref p) (.int (-1)) H Q := by
  refine ⟨p, xs, -1, v, rfl, rfl, h, ?_, q⟩
  have hne : xs ≠ [] := fun z => by rw [z] at e; cases e
  have hl := List.length_pos_iff.mpr hne
  unfold atI ixN
  rw [if_neg (by omega), if_pos (by omega)]
  show xs[(-1 + (xs.length : Int)).toNat]? = some v
  rw [List.getLast?_eq_getElem?] at e
  rw [← e]
  congr 1
  omega
end
end Nk
namespace Nk
open PySem L2
section
variable {P : Program} {w : World} {K : PySem.W.Frag} {mg : Str → Option Value} {base : Heap}
theorem mergeK_nd : ∀ {ks ls : List (Key × V)}, ((ls ++ ks).map (·.1)).Nodup → mergeK ls ks = ls ++ ks
  | [], ls, _ => by simp [mergeK]
  | p :: ks, ls, h => by
    have h1 : valV ls p.1 = none := by
      cases e : valV ls p.1 with
      | none => rfl
      | some v =>
        exfalso
        have hm := valV_in e
        rw [List.map_append, List.nodup_append] at h
        exact h.2.2 _ hm p.1 (by simp) rfl
    show mergeK (putK ls p.1 p.2) ks = _
    rw [putK_new _ h1, mergeK_nd (by simpa using h)]
    simp
theorem ixS {z : Str} {i : Int} {j c : Nat} {H : Hp} {Q : VK} (hz : z.cps.size ≤ 1000) (hi : i = (j : Int)) (e : z.cps.toList[j]? = some c) (q : Q (.str ⟨#[c]⟩) H) : rIxS (.str z) (.int i) H Q :=
  ⟨z, i, c, rfl, rfl, sz (by show z.cps.size ≤ _; omega), by rw [hi]; exact atI_nat e, q⟩
theorem str_add {z : Str} {c : Nat} : (z ++ (⟨#[c]⟩ : Str)).cps.toList = z.cps.toList ++ [c] := by
  show (z.cps ++ #[c]).toList = _
  simp
theorem empty_all : ∀ c ∈ (("" : Str)).cps.toList, 97 ≤ c ∧ c ≤ 122 := by
  have e : (("" : Str)).cps.toList = [] := by decide +kernel
  intro c hc
  rw [e] at hc
  cases hc
abbrev nm__law_name : List Str := ["script", "town", "names", "letters", "found", "k"]
abbrev pm__law_name : List Str := ["script", "town", "names"]
abbrev lv__law_name : Nat := 3
theorem sc__law_name : FnScope nm__law_name pm__law_name (defScope s__law_name) := ⟨rfl, rfl, rfl, by decide +kernel, rfl, by decide +kernel, by decide +kernel⟩
def sp__law_name (K : PySem.W.Frag) : Sp := fun vs H Q _ => ∃ (a t l : Addr) (ns : List Int) (c : Nat) (xs : List Str), vs = [.ref a, .ref t, .ref l] ∧ Tn K H a t ns c ∧ c < 900000000 ∧ H l = some (.lst (xs.map V.str)) ∧ l ≠ t ∧ 0 < xs.length ∧ xs.length ≤ 1000 ∧ (∀ x ∈ xs, isNm x) ∧
  ∀ (s : Str) (c' : Nat) (H' : Hp), isNm s → c' ≤ c + 8 → Tn K H' a t ns c' → But t H H' → Q (.str s) H'
def iv__law_name (K : PySem.W.Frag) (H1 : Hp) (a t l : Addr) (ns : List Int) (c : Nat) (i : Nat) (σ : L2.St) (H : Hp) : Prop :=
  ∃ (z : Str) (y : Option V), σ = [some (.ref a), some (.ref t), some (.ref l), some (.str letters), some (.str z), y] ∧ z.cps.toList.length = i ∧ (∀ c ∈ z.cps.toList, 97 ≤ c ∧ c ≤ 122) ∧ Tn K H a t ns (c + i) ∧ But t H1 H
theorem f__law_name (T : Txt K mg) : Fk P w K mg base CX0 lv__law_name "_law_name" pm__law_name (sp__law_name K) := by
  obtain ⟨f, fd, F, g, b⟩ := T.d__law_name.ex
  refine ⟨f, fd, g, F.kp, b, F.ok sc__law_name (fun vs H Q E h => ?_) (fun cdv A outer s H vs Q E hr h => ?_)⟩
  · obtain ⟨a, t, l, ns, c, xs, rfl, _⟩ := h; rfl
  · obtain ⟨a, t, l, ns, c, xs, rfl, hT, hc, hl, hlt, h0, h1, hnm, q⟩ := h
    refine ⟨_, (pss_cons (ps_if (pt_cmpR op_gt (pe_fn (f__law_draw T) (hr.mono (by decide)) (by rfl) pass0 (pa_cons (pv 0) (pa_cons (pv 1) (pa_cons pe_int pa_nil)))) pe_int (nomark _)) (pss_one (ps_ret (pe_fn (f__law_pick T) (hr.mono (by decide)) (by rfl) pass0 (pa_cons (pv 0) (pa_cons (pv 1) (pa_cons (pv 2) pa_nil)))))) pss_nil)
      (pss_cons (ps_set (i := 3) sc__law_name.nd rfl (.inl rfl) pe_str)
      (pss_cons (ps_set (i := 4) sc__law_name.nd rfl (.inl rfl) pe_str)
      (pss_cons (ps_for PassesOwn.never rfl (pi_range1 (by rfl) T.b_range (pa_cons (pe_op op_add pe_int (pe_fn (f__law_draw T) (hr.mono (by decide)) (by rfl) pass0 (pa_cons (pv 0) (pa_cons (pv 1) (pa_cons pe_int pa_nil))))) pa_nil)) (pg_name (i := 5) sc__law_name.nd rfl (Or.inl rfl)) (pss_one (ps_set (i := 4) sc__law_name.nd rfl (.inl rfl) (pe_op op_add_str (pv 4) (pe_ix ix_str (pv 3) (pe_fn (f__law_draw T) (hr.mono (by decide)) (by rfl) pass0 (pa_cons (pv 0) (pa_cons (pv 1) (pa_cons pe_int pa_nil)))) (fun _ _ => rfl))))))
      (pss_one (ps_ret (pv 4))))))), ?_⟩
    with_reducible refine seq_k fun K_ hK_ => ?_
    walk_at "ru"
    refine ⟨a, t, ns, c, 4, rfl, hT, by omega, by omega, by omega, fun d H1 d0 d1 T1 b1 => ?_⟩
    refine ⟨_, rfl, ite2 (fun c1 => ?_) (fun c1 => ?_)⟩
    · refine ⟨a, t, l, ns, c + 1, xs.map V.str, rfl, T1, by omega, b1 _ _ hl hlt, hlt, by simpa using h0, by simp; omega, fun v H2 hv T2 b2 => ?_⟩
      obtain ⟨x, hx, rfl⟩ := List.mem_map.mp hv
      exact q x (c + 2) H2 (hnm x hx) (by omega) T2 (b1.trans b2)
    · walk_at "ru"
      subst hK_
      first | with_reducible refine seq_k fun K_ hK_ => ?_ | skip
      walk_at "ru"
      walk_at "ru"
      subst hK_
      first | with_reducible refine seq_k fun K_ hK_ => ?_ | skip
      walk_at "ru"
      walk_at "ru"
      subst hK_
      first | with_reducible refine seq_k fun K_ hK_ => ?_ | skip
      walk_at "ru"
      refine ⟨a, t, ns, c + 1, 6, rfl, T1, by omega, by omega, by omega, fun e H2 e0 e1 T2 b2 => ?_⟩
      walk_at "ru"
      refine ⟨by omega, by omega, ?_⟩
      refine for_it walk_range (iv__law_name K H a t l ns (c + 2)) ⟨_, _, rfl, rfl, empty_all, T2, b1.trans b2⟩ (fun _ _ _ _ _ => trivial) (fun i x σ H3 H4 hi iv hy => ?_) (fun σ H3 iv => ?_)
      · obtain ⟨z, y, rfl, hz, hall, T3, b3⟩ := iv
        obtain ⟨rfl, rfl⟩ := hy
        walk_at "ru"
        refine ⟨a, t, ns, c + 2 + i, 26, rfl, T3, by omega, by omega, by omega, fun j H5 j0 j1 T5 b5 => ?_⟩
        have hj : letters.cps.toList[j.toNat]? = some (j.toNat + 97) := by
          have e : letters.cps.toList = (List.range 26).map (· + 97) := by decide +kernel
          rw [e, List.getElem?_map, List.getElem?_range (by omega)]
          rfl
        refine ixS (j := j.toNat) (by decide) (by omega) hj ?_
        walk_at "ru"
        have hzs : z.cps.size = i := by rw [← Array.length_toList]; exact hz
        refine ⟨sz (by show z.cps.size + 1 ≤ _; omega), _, _, rfl, by rw [str_add, List.length_append, hz]; rfl, fun c hc => ?_, T5, b3.trans b5⟩
        rw [str_add] at hc
        rcases List.mem_append.mp hc with hc | hc
        · exact hall c hc
        · rw [List.mem_singleton.mp hc]; omega
      · obtain ⟨z, y, rfl, hz, hall, T3, b3⟩ := iv
        walk_at "ru"
        subst hK_
        first | with_reducible refine seq_k fun K_ hK_ => ?_ | skip
        walk_at "ru"
        refine q z _ H3 ⟨by omega, by omega, hall⟩ ?_ T3 b3
        omega
abbrev nm__law_table : List Str := ["script", "town", "many", "names", "found", "k"]
abbrev pm__law_table : List Str := ["script", "town", "many"]
abbrev lv__law_table : Nat := 4
theorem sc__law_table : FnScope nm__law_table pm__law_table (defScope s__law_table) := ⟨rfl, rfl, rfl, by decide +kernel, rfl, by decide +kernel, by decide +kernel⟩
/-- a table that was made: d is new -/
def sp__law_table (K : PySem.W.Frag) : Sp := fun vs H Q _ => ∃ (a t : Addr) (ns : List Int) (c : Nat) (many : Int), vs = [.ref a, .ref t, .int many] ∧ Tn K H a t ns c ∧ c < 800000000 ∧ 0 ≤ many ∧ many ≤ 20 ∧
  ∀ (d : Addr) (tb : Tb) (c' : Nat) (H' : Hp), H d = none → d ≠ t → H' d = some (.dK (kvsT tb)) → OkT tb → (tb.length : Int) ≤ many → c' ≤ c + 300 → Tn K H' a t ns c' → But t H H' → Q (.ref d) H'
def iv__law_table (K : PySem.W.Frag) (H1 : Hp) (a t l d : Addr) (ns : List Int) (many : Int) (xs : List Str) (c : Nat) (i : Nat) (σ : L2.St) (H : Hp) : Prop :=
  (∃ (y : Option V), σ = [some (.ref a), some (.ref t), some (.int many), some (.ref l), some (.ref d), y]) ∧ ∃ (tb : Tb) (c' : Nat), H d = some (.dK (kvsT tb)) ∧ OkT tb ∧ tb.length ≤ i ∧ c' ≤ c + 10 * i ∧ Tn K H a t ns c' ∧ But t H1 H ∧ H l = some (.lst (xs.map V.str))
theorem OkT.len_put {tb : Tb} {n : Str} {i : Int} : (putT tb n i).length ≤ tb.length + 1 := by
  rw [put_len]; split <;> omega
theorem f__law_table (T : Txt K mg) : Fk P w K mg base CX0 lv__law_table "_law_table" pm__law_table (sp__law_table K) := by
  obtain ⟨f, fd, F, g, b⟩ := T.d__law_table.ex
  refine ⟨f, fd, g, F.kp, b, F.ok sc__law_table (fun vs H Q E h => ?_) (fun cdv A outer s H vs Q E hr h => ?_)⟩
  · obtain ⟨a, t, ns, c, many, rfl, _⟩ := h; rfl
  · obtain ⟨a, t, ns, c, many, rfl, hT, hc, m0, m1, q⟩ := h
    have hu := hu_of hr
    refine ⟨_, (pss_cons (ps_set (i := 3) sc__law_table.nd rfl (.inl rfl) (pe_lst (pa_cons pe_str (pa_cons pe_str (pa_cons pe_str (pa_cons pe_str (pa_cons pe_str (pa_cons pe_str (pa_cons pe_str (pa_cons pe_str (pa_cons pe_str (pa_cons pe_str pa_nil))))))))))))
      (pss_cons (ps_set (i := 4) sc__law_table.nd rfl (.inl rfl) pe_dnewK)
      (pss_cons (ps_for PassesOwn.never rfl (pi_range1 (by rfl) T.b_range (pa_cons (pe_fn (f__law_draw T) (hr.mono (by decide)) (by rfl) pass0 (pa_cons (pv 0) (pa_cons (pv 1) (pa_cons (pe_op op_add (pv 2) pe_int) pa_nil)))) pa_nil)) (pg_name (i := 5) sc__law_table.nd rfl (Or.inl rfl)) (pss_one (ps_dput hu (pv 4) (pe_fn (f__law_name T) (hr.mono (by decide)) (by rfl) pass0 (pa_cons (pv 0) (pa_cons (pv 1) (pa_cons (pv 3) pa_nil)))) (pe_fn (f__law_draw T) (hr.mono (by decide)) (by rfl) pass0 (pa_cons (pv 0) (pa_cons (pv 1) (pa_cons (pe_fn (f__law_pick T) (hr.mono (by decide)) (by rfl) pass0 (pa_cons (pv 0) (pa_cons (pv 1) (pa_cons (pe_lst (pa_cons pe_int (pa_cons pe_int pa_nil))) pa_nil)))) pa_nil)))) rfl)))
      (pss_one (ps_ret (pv 4)))))), ?_⟩
    with_reducible refine seq_k fun K_ hK_ => ?_
    walk_at "ru"
    intro l n_l
    generalize hG_ : upd _ l _ = H1
    obtain ⟨s1, hl⟩ := newF n_l hG_
    clear hG_
    have hlt : l ≠ t := hT.some_ n_l
    walk_at "ru"
    subst hK_
    first | with_reducible refine seq_k fun K_ hK_ => ?_ | skip
    walk_at "ru"
    intro d n_d
    generalize hG_ : upd _ d _ = H2
    obtain ⟨s2, hd⟩ := newF n_d hG_
    clear hG_
    have T2 := hT.same (s1.trans s2)
    have hdt : d ≠ t := (hT.same s1).some_ n_d
    have hl2 := s2 _ _ hl
    have hld : l ≠ d := ne_of_none hl n_d
    have nd : H d = none := s1.free n_d
    have xsN : ∀ x ∈ (["a", "b", "ab", "ba", "z", "zzzzzz", "c", "d", "e", "f"] : List Str), isNm x := by decide +kernel
    walk_at "ru"
    subst hK_
    first | with_reducible refine seq_k fun K_ hK_ => ?_ | skip
    walk_at "ru"
    refine ⟨a, t, ns, c, many + 1, rfl, T2, by omega, by omega, by omega, fun e H3 e0 e1 T3 b3 => ?_⟩
    walk_at "ru"
    have b03 : But t H H3 := Same.thenB (s1.trans s2) b3
    refine ⟨by omega, by omega, ?_⟩
    refine for_it walk_range (iv__law_table K H a t l d ns many ["a", "b", "ab", "ba", "z", "zzzzzz", "c", "d", "e", "f"] (c + 1)) ⟨⟨_, rfl⟩, [], c + 1, b3 _ _ hd hdt, .nil, by simp, by omega, T3, b03, b3 _ _ hl2 hlt⟩ (fun _ _ _ _ _ => trivial) (fun i x σ H4 H5 hi iv hy => ?_) (fun σ H4 iv => ?_)
    · obtain ⟨⟨y, rfl⟩, tb, c', hd4, ok, hlen, hc', T4, b4, hl4⟩ := iv
      obtain ⟨rfl, rfl⟩ := hy
      have hi' : i ≤ 20 := by omega
      walk_at "ru"
      refine pickI [2, 100] T4 (by omega) fun k hk H6 T6 b6 => ?_
      have hk2 : 0 < k ∧ k ≤ 100 := by
        simp only [List.mem_cons, List.not_mem_nil, or_false] at hk
        omega
      refine ⟨a, t, ns, c' + 1, k, rfl, T6, by omega, by omega, by omega, fun j H7 j0 j1 T7 b7 => ?_⟩
      walk_at "ru"
      have b47 := b6.trans b7
      refine ⟨a, t, l, ns, c' + 2, _, rfl, T7, by omega, b47 _ _ hl4 hlt, hlt, by decide, by decide, xsN, fun nm c2 H8 hn hc2 T8 b8 => ?_⟩
      have b48 := b47.trans b8
      have hd8 := b48 _ _ hd4 hdt
      refine ⟨_, DPut.k (k := Sum.inr nm) hd8 (szl (by rw [kvsT_len]; omega)), ?_⟩
      have hp := OkT.len_put (tb := tb) (n := nm) (i := j)
      refine ⟨⟨_, rfl⟩, putT tb nm j, c2, by rw [upd_same, kvsT_put], ok.put hn (by omega) (by omega), by omega, by omega, T8.app hT nd hdt, (b4.trans b48).app nd, ?_⟩
      rw [upd_ne hld]
      exact b48 _ _ hl4 hlt
    · obtain ⟨⟨y, rfl⟩, tb, c', hd4, ok, hlen, hc', T4, b4, hl4⟩ := iv
      walk_at "ru"
      subst hK_
      first | with_reducible refine seq_k fun K_ hK_ => ?_ | skip
      walk_at "ru"
      exact q d tb c' H4 nd hdt hd4 ok (by omega) (by omega) T4 b4
abbrev nm__law_later : List Str := ["script", "town", "table", "found", "k", "name", "way", "one"]
abbrev pm__law_later : List Str := ["script", "town", "table"]
abbrev lv__law_later : Nat := 4
theorem sc__law_later : FnScope nm__law_later pm__law_later (defScope s__law_later) := ⟨rfl, rfl, rfl, by decide +kernel, rfl, by decide +kernel, by decide +kernel⟩
def sp__law_later (K : PySem.W.Frag) : Sp := fun vs H Q _ => ∃ (a t e : Addr) (ns : List Int) (c : Nat) (u : Tb), vs = [.ref a, .ref t, .ref e] ∧ Tn K H a t ns c ∧ c < 800000000 ∧ H e = some (.dK (kvsT u)) ∧ OkT u ∧ u.length ≤ 20 ∧
  ∀ (d : Addr) (tb : Tb) (c' : Nat) (H' : Hp), H d = none → d ≠ t → H' d = some (.dK (kvsT tb)) → OkT tb → tb.length ≤ 20 → c' ≤ c + 50 → Tn K H' a t ns c' → But t H H' → Q (.ref d) H'
def iv__law_later (K : PySem.W.Frag) (H1 : Hp) (a t e : Addr) (ns : List Int) (c : Nat) (i : Nat) (σ : L2.St) (H : Hp) : Prop :=
  ∃ (d : Addr) (y z x : Option V) (tb : Tb) (c' : Nat), σ = [some (.ref a), some (.ref t), some (.ref e), some (.ref d), y, z, x, none] ∧ H1 d = none ∧ d ≠ t ∧ H d = some (.dK (kvsT tb)) ∧ OkT tb ∧ tb.length ≤ 20 ∧ c' ≤ c + 12 * i ∧ Tn K H a t ns c' ∧ But t H1 H
/-- tuples of names and numbers -/
def RefsAt (H : Hp) : List Addr → Tb → Prop
  | [], [] => True
  | q :: qs, p :: ps => H q = some (.tup [.str p.1, .int p.2]) ∧ RefsAt H qs ps
  | _, _ => False
theorem RefsAt.tups {H H' : Hp} (h : ∀ b xs, H b = some (.tup xs) → H' b = some (.tup xs)) : ∀ {xs : List Addr} {ps : Tb}, RefsAt H xs ps → RefsAt H' xs ps
  | [], [], _ => trivial
  | q :: xs, p :: ps, ⟨hq, r⟩ => ⟨h _ _ hq, RefsAt.tups h r⟩
theorem RefsAt.same {H H' : Hp} (s : Same H H') {xs : List Addr} {ps : Tb} (h : RefsAt H xs ps) : RefsAt H' xs ps := h.tups fun b ys e => s _ _ e
theorem RefsAt.len {H : Hp} : ∀ {xs : List Addr} {ps : Tb}, RefsAt H xs ps → xs.length = ps.length
  | [], [], _ => rfl
  | x :: xs, p :: ps, ⟨_, r⟩ => by simp [RefsAt.len r]
theorem RefsAt.app {H : Hp} : ∀ {xs ys : List Addr} {ps qs : Tb}, RefsAt H xs ps → RefsAt H ys qs → RefsAt H (xs ++ ys) (ps ++ qs)
  | [], _, [], _, _, h => h
  | x :: xs, _, p :: ps, _, ⟨a, r⟩, h => ⟨a, RefsAt.app r h⟩
theorem RefsAt.paired {H : Hp} : ∀ {xs : List Addr} {ps : Tb}, RefsAt H xs ps → Paired (fun p kv => SqT K H p [kV kv.1, kv.2]) xs (kvsT ps)
  | [], [], _ => .nil
  | x :: xs, p :: ps, ⟨h, r⟩ => .cons (sqT h) (RefsAt.paired r)
def iv_later2 (H1 : Hp) (D : Addr) (tb : Tb) (nm : Str) (i : Nat) (H : Hp) : Prop := Same H1 H ∧ ∃ ps, H D = some (.lst (ps.map V.ref)) ∧ RefsAt H ps ((tb.take i).filter fun p => decide (p.1 ≠ nm))
theorem f__law_later (T : Txt K mg) : Fk P w K mg base CX0 lv__law_later "_law_later" pm__law_later (sp__law_later K) := by
  obtain ⟨f, fd, F, g, b⟩ := T.d__law_later.ex
  refine ⟨f, fd, g, F.kp, b, F.ok sc__law_later (fun vs H Q E h => ?_) (fun cdv A outer s H vs Q E hr h => ?_)⟩
  · obtain ⟨a, t, e, ns, c, u, rfl, _⟩ := h; rfl
  · obtain ⟨a, t, e, ns, c, u, rfl, hT, hc, he, oku, lu, q⟩ := h
    have hu := hu_of hr
    refine ⟨_, (pss_cons (ps_set (i := 3) sc__law_later.nd rfl (.inr rfl) (pe_callTy call_dictD (by rfl) T.b_dict (by decide +kernel) (pa_cons (pv 2) pa_nil)))
      (pss_cons (ps_for PassesOwn.never rfl (pi_range1 (by rfl) T.b_range (pa_cons (pe_fn (f__law_draw T) (hr.mono (by decide)) (by rfl) pass0 (pa_cons (pv 0) (pa_cons (pv 1) (pa_cons pe_int pa_nil)))) pa_nil)) (pg_name (i := 4) sc__law_later.nd rfl (Or.inl rfl)) (pss_cons (ps_set (i := 5) sc__law_later.nd rfl (.inr rfl) (pe_fn (f__law_name T) (hr.mono (by decide)) (by rfl) pass0 (pa_cons (pv 0) (pa_cons (pv 1) (pa_cons (pe_op op_cat (pe_callTy call_list_of (by rfl) T.b_list (by decide +kernel) (pa_cons (pe_callB (cr_sortedKS rfl) (by rfl) T.b_sorted (by decide +kernel) (pa_cons (pe_bm0 PySem.F.plainAttrs_dict PySem.F.slot_dict_keys PySem.F.type_dict_keys mt_keys (pv 3)) pa_nil)) pa_nil)) (pe_lst (pa_cons pe_str (pa_cons pe_str (pa_cons pe_str (pa_cons pe_str pa_nil)))))) pa_nil)))))
      (pss_cons (ps_set (i := 6) sc__law_later.nd rfl (.inl rfl) (pe_fn (f__law_draw T) (hr.mono (by decide)) (by rfl) pass0 (pa_cons (pv 0) (pa_cons (pv 1) (pa_cons pe_int pa_nil)))))
      (pss_one (ps_if (PW.pt (pw_and (pt_cmpR op_eq (pv 6) pe_int (nomark _)) (pw_and1 (pt_cmp (pc_din hu (pv 5) (pv 3)))))) (pss_one (ps_set (i := 3) sc__law_later.nd rfl (.inr rfl) (pe_callTy (call_dictP rfl) (by rfl) T.b_dict (by decide +kernel) (pa_cons (pe_lock (pe_lc (own := [("one", 7)]) (g := gName 7) (by rfl) sc__law_later.nd (pi_keys (pv 3)) (blkOk_by (own := [("one", 7)]) (N := nm__law_later) (sc := defScope s__law_later) (by decide +kernel)) (fun _ _ _ _ _ => (pg_name (i := 7) sc__law_later.nd rfl (Or.inl rfl))) (fun _ _ _ _ _ => (pts_one (pt_cmpR op_ne (pv 7) (pv 5) (nomark _)))) (fun _ _ _ _ _ => (pe_tup (pa_cons (pv 7) (pa_cons (pe_dget hu (pv 3) (pv 7) (fun _ _ => rfl)) pa_nil)))))) pa_nil)))) (pss_one (ps_if (PW.pt (pw_and (pt_cmpR op_gt (pv 6) pe_int (nomark _)) (pw_and1 (PW.pt (pw_or (pt_cmpR op_lt (pe_callB call_lenD (by rfl) T.b_len PySem.boot_len (pa_cons (pv 3) pa_nil)) pe_int (nomark _)) (pw_or1 (pt_cmp (pc_din hu (pv 5) (pv 3))))))))) (pss_one (ps_dput hu (pv 3) (pv 5) (pe_fn (f__law_draw T) (hr.mono (by decide)) (by rfl) pass0 (pa_cons (pv 0) (pa_cons (pv 1) (pa_cons (pe_fn (f__law_pick T) (hr.mono (by decide)) (by rfl) pass0 (pa_cons (pv 0) (pa_cons (pv 1) (pa_cons (pe_lst (pa_cons pe_int (pa_cons pe_int pa_nil))) pa_nil)))) pa_nil)))) rfl)) pss_nil)))))))
      (pss_one (ps_ret (pv 3))))), ?_⟩
    with_reducible refine seq_k fun K_ hK_ => ?_
    walk_at "ru"
    refine ⟨_, .inl he, ?_⟩
    intro d n_d
    generalize hG_ : upd _ d _ = H1
    obtain ⟨s1, hd⟩ := newF n_d hG_
    clear hG_
    have hdt : d ≠ t := hT.some_ n_d
    walk_at "ru"
    subst hK_
    first | with_reducible refine seq_k fun K_ hK_ => ?_ | skip
    walk_at "ru"
    refine ⟨a, t, ns, c, 4, rfl, hT.same s1, by omega, by omega, by omega, fun m H2 m0 m1 T2 b2 => ?_⟩
    walk_at "ru"
    refine ⟨by omega, by omega, ?_⟩
    refine for_it walk_range (iv__law_later K H a t e ns (c + 1)) ⟨d, _, _, _, u, c + 1, rfl, n_d, hdt, b2 _ _ hd hdt, oku, lu, by omega, T2, Same.thenB s1 b2⟩ (fun _ _ _ _ _ => trivial) (fun i x σ H3 H4 hi iv hy => ?_) (fun σ H3 iv => ?_)
    · obtain ⟨d, y, z, x, tb, c', rfl, nd, hdt, hd3, ok, hlen, hc', T3, b3⟩ := iv
      obtain ⟨rfl, rfl⟩ := hy
      have hi' : i < 4 := by omega
      walk_at "ru"
      with_reducible refine seq_k fun K_ hK_ => ?_
      walk_at "ru"
      refine ⟨tyD hd3, d, _, rfl, rfl, hd3, fun v hv => ?_⟩
      generalize hG : upd H4 v (KeysO v d) = H5
      obtain ⟨s5, hv5⟩ := newF hv hG
      clear hG
      refine ⟨v, d, _, nms tb, rfl, hv5, s5 _ _ hd3, kvsT_keys, ok.nd, fun ys l h3 h4 hl => ?_⟩
      generalize hG : upd H5 l _ = H6
      obtain ⟨s6, hl6⟩ := newF hl hG
      clear hG
      walk_at "ru"
      refine ⟨_, .inl (sqL hl6), ?_⟩
      intro l2 n_l2
      generalize hG_ : upd _ l2 _ = H7
      obtain ⟨s7, hl7⟩ := newF n_l2 hG_
      clear hG_
      intro l3 n_l3
      generalize hG_ : upd _ l3 _ = H8
      obtain ⟨s8, hl8⟩ := newF n_l3 hG_
      clear hG_
      have hl28 := s8 _ _ hl7
      have yl : ys.length ≤ 20 := Nat.le_trans (nodup_le (pw_nodup h3) (m := nms tb) fun x hx => (h4 x).mp hx) (by simpa [nms] using hlen)
      refine ⟨l2, l3, _, _, rfl, rfl, hl28, hl8, sz (by simp; omega), ?_⟩
      intro l4 n_l4
      generalize hG_ : upd _ l4 _ = H9
      obtain ⟨s9, hl9⟩ := newF n_l4 hG_
      clear hG_
      have s49 := ((((s5.trans s6).trans s7).trans s8).trans s9)
      have T9 := T3.same s49
      have hd9 := s49 _ _ hd3
      have e4 : ys.map V.str ++ [V.str (Str.ofString "a"), V.str (Str.ofString "b"), V.str (Str.ofString "ab"), V.str (Str.ofString "q")] = (ys ++ (["a", "b", "ab", "q"] : List Str)).map V.str := by rw [List.map_append]; rfl
      rw [e4] at hl9
      have yn : ∀ x ∈ ys ++ (["a", "b", "ab", "q"] : List Str), isNm x := fun x hx => by
        rcases List.mem_append.mp hx with hx | hx
        · obtain ⟨pr, hp, rfl⟩ := List.mem_map.mp ((h4 x).mp hx)
          exact ok.nm _ hp
        · have : ∀ x ∈ (["a", "b", "ab", "q"] : List Str), isNm x := by decide +kernel
          exact this x hx
      refine ⟨a, t, l4, ns, c', _, rfl, T9, by omega, hl9, (T3.same (((s5.trans s6).trans s7).trans s8)).some_ n_l4, by simp, by simp; omega, yn, fun nm c2 H10 hn hc2 T10 b10 => ?_⟩
      have b410 := Same.thenB s49 b10
      have hd10 := b410 _ _ hd3 hdt
      have b310 := b3.trans b410
      walk_at "ru"
      subst hK_
      first | with_reducible refine seq_k fun K_ hK_ => ?_ | skip
      walk_at "ru"
      refine ⟨a, t, ns, c2, 4, rfl, T10, by omega, by omega, by omega, fun way H11 w0 w1 T11 b11 => ?_⟩
      have hd11 := b11 _ _ hd10 hdt
      have b311 := b310.trans b11
      walk_at "ru"
      subst hK_
      first | with_reducible refine seq_k fun K_ hK_ => ?_ | skip
      walk_at "ru"
      have hdget : DGet H11 d (.str nm) (valV (kvsT tb) (Sum.inr nm)) := DGet.k (k := Sum.inr nm) hd11
      have done : iv__law_later K H a t e ns (c + 1) (i + 1) [some (V.ref a), some (V.ref t), some (V.ref e), some (V.ref d), some (V.int (0 + ↑i)), some (V.str nm), some (V.int way), none] H11 :=
        ⟨d, _, _, _, tb, c2 + 1, rfl, nd, hdt, hd11, ok, hlen, by omega, T11, b311⟩
      by_cases w : way = 0
      · rw [if_pos w]
        refine ⟨_, hdget, ?_⟩
        rw [kvsT_val]
        cases eL : lk tb nm with
        | none =>
          rw [if_neg (by simp), if_neg (by omega)]
          exact done
        | some j =>
          rw [if_pos (by simp)]
          refine ⟨d, _, hd11, trivial, fun od => ?_⟩
          generalize hG : upd H11 d (.frz od (.dK (kvsT tb))) = H12
          have hd12 : H12 d = some (.frz od (.dK (kvsT tb))) := by rw [← hG]; exact upd_same
          have un := fun {H2 : Hp} (s : Same H12 H2) => unlock hd11 hG s
          walk_at "ru"
          refine ⟨od, .inl ⟨_, hd12, fun D hD => ?_⟩⟩
          refine lc_it walk_keys (iv_later2 H12 D tb nm) ⟨same_upd hD, [], upd_same, by simp [RefsAt]⟩ (fun _ _ _ p => p.1 _ _ hd12) (fun i x H2 H3 hi p hy => ?_) (fun H2 p => ?_)
          · obtain ⟨s2, ps, hD2, hP2⟩ := p
            obtain ⟨rfl, k, v, hk, rfl⟩ := hy
            unfold kvsT at hk
            rw [List.getElem?_map] at hk
            cases ek : tb[i]? with
            | none => rw [ek] at hk; cases hk
            | some pr =>
              rw [ek] at hk
              cases hk
              have hm := mem_of_get ek
              have hft := filter_take_next (fun p : Str × Int => decide (p.1 ≠ nm)) ek
              have hpl := hP2.len
              have hfl := filter_len tb (fun p : Str × Int => decide (p.1 ≠ nm)) i
              walk_at "ru"
              by_cases cN : pr.1 = nm
              · rw [if_neg (by simp [cN])]
                rw [if_neg (by simp [cN]), List.append_nil] at hft
                exact ⟨s2, ps, hD2, by rw [hft]; exact hP2⟩
              · rw [if_pos (by simp [cN])]
                rw [if_pos (by simp [cN])] at hft
                have hval : valV (kvsT tb) (Sum.inr pr.1) = some (.int pr.2) := by rw [kvsT_val, lk_of ok.nd hm]; rfl
                refine ⟨_, .inl ⟨_, Sum.inr pr.1, .inr ⟨od, s2 _ _ hd12⟩, rfl, hval.symm⟩, ?_⟩
                intro q1 n_q1
                generalize hG_ : upd _ q1 _ = H5
                obtain ⟨s5, hq1⟩ := newF n_q1 hG_
                clear hG_
                refine ⟨_, s5 _ _ hD2, szl (by rw [List.length_map]; omega), Same.app (s2.trans s5) hD, ps ++ [q1], by rw [upd_same, List.map_append]; rfl, ?_⟩
                have kp : ∀ z zs o, H5 z = some (.tup zs) → (upd H5 D (.lst o)) z = some (.tup zs) := fun z zs o e => by rw [upd_ne (ne_of e (s5 _ _ hD2) (by intro z; cases z))]; exact e
                rw [hft]
                exact ((hP2.same s5).tups (fun b xs e => kp b xs _ e)).app ⟨kp _ _ _ hq1, trivial⟩
          · obtain ⟨s2, ps, hD2, hP2⟩ := p
            rw [kvsT_len, List.take_length] at hP2
            obtain ⟨hl2, s11⟩ := un s2
            have hDd : D ≠ d := (ne_of_none hd12 hD).symm
            have hD3 : (upd H2 d (.dK (kvsT tb))) D = some (.lst (ps.map V.ref)) := by rw [upd_ne hDd]; exact hD2
            have hP3 : RefsAt (upd H2 d (.dK (kvsT tb))) ps (dropT tb nm) := hP2.tups fun b xs e => by rw [upd_ne (ne_of e hl2 (by intro z; cases z))]; exact e
            refine ⟨hl2, ps, sqL hD3, kvsT (dropT tb nm), hP3.paired, fun p2 hp2 => ?_⟩
            have ndk : ((([] : List (Key × V)) ++ kvsT (dropT tb nm)).map (·.1)).Nodup := by
              rw [List.nil_append, kvsT_keys]
              exact List.Pairwise.map _ (fun a b h e => h (Sum.inr.inj e)) ok.drop.nd
            rw [mergeK_nd ndk, List.nil_append]
            have nH : H p2 = none := b311.free (s11.free hp2) ((T11.same s11).some_ hp2)
            refine ⟨p2, _, _, _, dropT tb nm, c2 + 1, rfl, nH, (T11.same s11).some_ hp2, upd_same, ok.drop, Nat.le_trans (List.length_filter_le _ _) hlen, by omega, (T11.same s11).same (same_upd hp2), (b311.thenS s11).thenS (same_upd hp2)⟩
      · rw [if_neg w, if_pos (by omega)]
        refine ⟨_, hd11, ?_⟩
        rw [kvsT_len]
        by_cases c20 : tb.length < 20
        · rw [if_pos (by omega)]
          refine pickI [2, 100] T11 (by omega) fun k hk H12 T12 b12 => ?_
          have hk2 : 0 < k ∧ k ≤ 100 := by
            simp only [List.mem_cons, List.not_mem_nil, or_false] at hk
            omega
          refine ⟨a, t, ns, c2 + 2, k, rfl, T12, by omega, by omega, by omega, fun m H13 m0 m1 T13 b13 => ?_⟩
          have hd13 := (b12.trans b13) _ _ hd11 hdt
          walk_at "ru"
          refine ⟨_, DPut.k (k := Sum.inr nm) hd13 (szl (by rw [kvsT_len]; omega)), ?_⟩
          have hpl : (putT tb nm m).length ≤ 20 := by
            rw [put_len]
            split <;> omega
          exact ⟨d, _, _, _, putT tb nm m, c2 + 3, rfl, nd, hdt, by rw [upd_same, kvsT_put], ok.put hn (by omega) (by omega), hpl, by omega, T13.app hT nd hdt, (b311.trans (b12.trans b13)).app nd⟩
        · rw [if_neg (by omega)]
          refine ⟨_, hdget, ?_⟩
          rw [kvsT_val]
          cases eL : lk tb nm with
          | none =>
            rw [if_neg (by simp)]
            exact done
          | some j =>
            rw [if_pos (by simp)]
            refine pickI [2, 100] T11 (by omega) fun k hk H12 T12 b12 => ?_
            have hk2 : 0 < k ∧ k ≤ 100 := by
              simp only [List.mem_cons, List.not_mem_nil, or_false] at hk
              omega
            refine ⟨a, t, ns, c2 + 2, k, rfl, T12, by omega, by omega, by omega, fun m H13 m0 m1 T13 b13 => ?_⟩
            have hd13 := (b12.trans b13) _ _ hd11 hdt
            walk_at "ru"
            refine ⟨_, DPut.k (k := Sum.inr nm) hd13 (szl (by rw [kvsT_len]; omega)), ?_⟩
            have hpl : (putT tb nm m).length ≤ 20 := by
              rw [put_len]
              rw [if_pos (mem_nms.mpr ⟨j, eL⟩)]; exact hlen
            exact ⟨d, _, _, _, putT tb nm m, c2 + 3, rfl, nd, hdt, by rw [upd_same, kvsT_put], ok.put hn (by omega) (by omega), hpl, by omega, T13.app hT nd hdt, (b311.trans (b12.trans b13)).app nd⟩
    · obtain ⟨d, y, z, x, tb, c', rfl, nd, hdt, hd3, ok, hlen, hc', T3, b3⟩ := iv
      walk_at "ru"
      subst hK_
      first | with_reducible refine seq_k fun K_ hK_ => ?_ | skip
      walk_at "ru"
      exact q d tb c' H3 nd hdt hd3 ok hlen (by omega) T3 b3
theorem ne_same {H : Hp} {p q : Addr} {t u : Tb} {Q : VK} {E : XK} (hS : StAt mg H p t) (hU : StAt mg H q u) (h : ∀ n, lk t n = lk u n) (k : Q (.bl false) H) : rEqO (cls mg "State") (sp_State____eq__ mg) E true (.ref p) (.ref q) H Q := by
  obtain ⟨dx, d, h1, h2⟩ := hS.ex
  obtain ⟨dy, e, h3, h4⟩ := hU.ex
  refine ⟨p, q, dx, dy, _, _, rfl, rfl, h1, h3, p, q, t, u, rfl, hS, hU, _, rfl, ?_⟩
  rw [eq_T' hS.ok hU.ok h]
  exact k
theorem GoodP.nil : GoodP [] := ⟨.nil, (fun _ h => nomatch h), (fun _ h => nomatch h), by simp⟩
theorem dicts_but {H H' : Hp} {t d : Addr} {l : List V} {kvs : List (Key × V)} (b : But t H H') (ht : H t = some (.lst l)) (h : H d = some (.dK kvs)) : H' d = some (.dK kvs) := b _ _ h (ne_of h ht (by intro z; cases z))
end
end Nk
namespace Nk
open PySem L2
section
variable {P : Program} {w : World} {K : PySem.W.Frag} {mg : Str → Option Value} {base : Heap}
section
variable {X : Cx}
def tJoined (ts : List TE) : TE := fun σ H Q => L2.tJs ts Str.empty σ H fun out H1 => Q (.str out) H1
theorem pe_joinedD {v1 v2 : Expr} {rest : List Expr} {ts : List TE} {pos : Pos} (h : PJ X (v1 :: v2 :: rest) ts) : PE X (.JoinedStr (v1 :: v2 :: rest) pos) (tJoined ts) := pe_joined h
end
theorem sapp_len (a b : Str) : (a ++ b).length = a.length + b.length := by
  show (a.cps ++ b.cps).size = _
  exact Array.size_append
theorem sempty_app (a : Str) : Str.empty ++ a = a := by
  obtain ⟨c⟩ := a
  show Str.mk (#[] ++ c) = _
  rw [Array.empty_append]
theorem num_len : ∀ k : Nat, k < 100 → (Str.ofString (toString (k : Int))).length ≤ 2 := by decide +kernel
theorem num_log : ∀ k : Nat, k < 100 → k.log2 < 1920 := by decide +kernel
theorem num99 {i : Int} (h0 : 0 ≤ i) (h1 : i ≤ 99) : (Str.ofString (toString i)).length ≤ 2 ∧ i.natAbs.log2 < 1920 := by
  obtain ⟨k, rfl⟩ := Int.eq_ofNat_of_zero_le h0
  exact ⟨num_len k (by omega), num_log k (by omega)⟩
theorem dget_s {H : Hp} {a : Addr} {kvs : List (Key × V)} {n : Str} {v : V} (h : H a = some (.dK kvs)) (e : valV kvs (Sum.inr n) = some v) : DGet H a (.str n) (some v) := by
  rw [← e]; exact DGet.k (k := Sum.inr n) h
theorem sum_lens {B : Nat} : ∀ {l : List Str}, (∀ y ∈ l, y.length ≤ B) → (l.map (·.length)).sum ≤ l.length * B
  | [], _ => by simp
  | a :: l, h => by
    have h1 := h a (by simp)
    have h2 := sum_lens (l := l) fun y hy => h y (by simp [hy])
    simp only [List.map_cons, List.sum_cons, List.length_cons]
    rw [Nat.add_mul, Nat.one_mul]
    omega
/-- names with numbers, written -/
def txtP (t : Tb) (n : Str) : Str := n ++ ("=" : Str) ++ Str.ofString (toString ((lk t n).getD 0))
def txtT (t : Tb) : Str := Txt.join " " ((srt (nms t)).map (txtP t))
theorem one_len : (("=" : Str)).length = 1 := by decide +kernel
theorem spc_len : ((" " : Str)).length = 1 := by decide +kernel
theorem txtP_len {t : Tb} (ok : OkT t) {n : Str} (h : n ∈ nms t) : ∃ i, lk t n = some i ∧ 0 ≤ i ∧ i ≤ 99 ∧ n.length ≤ 6 ∧ (txtP t n).length ≤ 9 ∧ txtP t n = n ++ ("=" : Str) ++ Str.ofString (toString i) := by
  obtain ⟨pr, hpr, hpn⟩ := List.mem_map.mp h
  have hnm := ok.nm pr hpr
  rw [hpn] at hnm
  have hlk : lk t n = some pr.2 := by rw [← hpn]; exact lk_of ok.nd hpr
  have hnum := ok.num pr hpr
  have hn6 : n.length ≤ 6 := hnm.2.1
  have eg : txtP t n = n ++ ("=" : Str) ++ Str.ofString (toString pr.2) := by unfold txtP; rw [hlk]; rfl
  refine ⟨pr.2, hlk, hnum.1, hnum.2, hn6, ?_, eg⟩
  rw [eg, sapp_len, sapp_len, one_len]
  have := (num99 hnum.1 hnum.2).1
  omega
theorem srt_len {t : Tb} (h : t.length ≤ 20) : (srt (nms t)).length ≤ 20 := Nat.le_trans (nodup_le (pw_nodup pw_srt) (m := nms t) fun x hx => mem_srt.mp hx) (by simpa [nms] using h)
theorem glue_fold (a : Str) : ∀ (l : List Str) (b : Array Nat), (l.foldl (fun acc p => acc ++ a.cps ++ p.cps) b).size = b.size + (l.map (·.length)).sum + l.length * a.length
  | [], b => by simp
  | p :: l, b => by
    rw [List.foldl_cons, glue_fold a l, Array.size_append, Array.size_append, List.map_cons, List.sum_cons, List.length_cons, Nat.add_mul, Nat.one_mul]
    show b.size + a.length + p.length + _ + _ = _
    omega
theorem join_len (a : Str) (ys : List Str) : (Txt.join a ys).length ≤ (ys.map (·.length)).sum + ys.length * a.length := by
  cases ys with
  | nil => show (0 : Nat) ≤ _; exact Nat.zero_le _
  | cons y ys =>
    show (ys.foldl (fun acc p => acc ++ a.cps ++ p.cps) y.cps).size ≤ _
    rw [glue_fold, List.map_cons, List.sum_cons, List.length_cons, Nat.add_mul, Nat.one_mul]
    show y.length + _ + _ ≤ _
    omega
theorem txt_size {t : Tb} (ok : OkT t) (h : t.length ≤ 20) : (((srt (nms t)).map (txtP t)).map (·.length)).sum + ((srt (nms t)).map (txtP t)).length * (Str.ofString " ").length ≤ 16777216 := by
  have h1 := sum_lens (B := 9) (l := (srt (nms t)).map (txtP t)) fun y hy => by
    obtain ⟨n, hn, rfl⟩ := List.mem_map.mp hy
    obtain ⟨_, _, _, _, _, h9, _⟩ := txtP_len ok (mem_srt.mp hn)
    exact h9
  have h2 := srt_len h
  have h3 : (Str.ofString " ").length = 1 := spc_len
  rw [h3]
  rw [List.length_map] at h1 ⊢
  omega
theorem txtT_len {t : Tb} (ok : OkT t) (h : t.length ≤ 20) : (txtT t).length ≤ 200 := by
  have h0 := join_len " " ((srt (nms t)).map (txtP t))
  have h1 := sum_lens (B := 9) (l := (srt (nms t)).map (txtP t)) fun y hy => by
    obtain ⟨n, hn, rfl⟩ := List.mem_map.mp hy
    obtain ⟨_, _, _, _, _, h9, _⟩ := txtP_len ok (mem_srt.mp hn)
    exact h9
  have h2 := srt_len h
  have h3 : (Str.ofString " ").length = 1 := spc_len
  rw [h3] at h0
  rw [List.length_map] at h0 h1
  show (Txt.join " " _).length ≤ _
  omega
def sp_State_eqx (K : PySem.W.Frag) (mg : Str → Option Value) : Sp := fun vs H Q _ => ∃ (p : Addr) (y : V) (t : Tb), vs = [.ref p, y] ∧ StAt mg H p t ∧ ((∃ q u, y = .ref q ∧ StAt mg H q u ∧ Q (.bl (eqDk (kvsT t) (kvsT u))) H) ∨ ∃ n, Thing K H y n ∧ Q (.bl false) H)
theorem f_State____eqx (T : Txt K mg) : Mo P w K mg base CX0 lv_State____eq__ "State" "__eq__" pm_State____eq__ (sp_State_eqx K mg) := by
  obtain ⟨f, fd, F, g, b⟩ := T.m_State____eq__.ex
  refine ⟨f, fd, g, b, F.ok sc_State____eq__ (fun vs H Q E h => ?_) (fun cdv A outer s H vs Q E hr h => ?_)⟩
  · obtain ⟨p, y, t, rfl, _⟩ := h; rfl
  · obtain ⟨p, y, t, rfl, hS, h⟩ := h
    refine ⟨_, (pss_one (ps_ret (pe_and (pe_callB call_isi (by rfl) T.b_isinstance (by decide +kernel) (pa_cons (pv 1) (pa_cons (pe_glob (v := .ref (cls mg "State")) (by rfl) T.o_State.g rfl) pa_nil))) (pe_one (pe_cmpR (op_eqDk hr.units0) (pe_fld (pv 0) rfl) (pe_fld (pv 1) rfl) (nomark _)))))), ?_⟩
    obtain ⟨dx, d, h1, h2⟩ := hS.ex
    rcases h with ⟨q, u, rfl, hU, q0⟩ | ⟨n, hy, q0⟩
    · obtain ⟨dy, e, h3, h4⟩ := hU.ex
      walk_at "ru"
      refine isi_own T.o_State T.v_State h3 ⟨true, rfl, ?_⟩
      walk_at "ru"
      refine ⟨_, dx, _, h1, T.o_State.cl, T.n_State__table, _, rfl, _, dy, _, h3, T.o_State.cl, T.n_State__table, _, rfl, d, e, _, _, rfl, rfl, h2, h4, kvsT_flat, kvsT_flat, q0⟩
    · walk_at "ru"
      refine isi_not T.v_State T.u_State hy ⟨false, rfl, ?_⟩
      walk_at "ru"
      exact q0
abbrev nm_State____str__ : List Str := ["self", "name"]
abbrev pm_State____str__ : List Str := ["self"]
abbrev lv_State____str__ : Nat := 1
theorem sc_State____str__ : FnScope nm_State____str__ pm_State____str__ (defScope s_State____str__) := ⟨rfl, rfl, rfl, by decide +kernel, rfl, by decide +kernel, by decide +kernel⟩
def sp_State____str__ (mg : Str → Option Value) : Sp := fun vs H Q _ => ∃ (p : Addr) (t : Tb), vs = [.ref p] ∧ StAt mg H p t ∧ ∀ H', Same H H' → Q (.str (txtT t)) H'
theorem f_State____str__ (T : Txt K mg) : Mo P w K mg base CX0 lv_State____str__ "State" "__str__" pm_State____str__ (sp_State____str__ mg) := by
  obtain ⟨f, fd, F, g, b⟩ := T.m_State____str__.ex
  refine ⟨f, fd, g, b, F.ok sc_State____str__ (fun vs H Q E h => ?_) (fun cdv A outer s H vs Q E hr h => ?_)⟩
  · obtain ⟨p, t, rfl, _⟩ := h; rfl
  · obtain ⟨p, t, rfl, hS, q0⟩ := h
    have hu := hu_of hr
    refine ⟨_, (pss_one (ps_ret (pe_bm PySem.F.plainAttrs_str PySem.F.slot_str_join PySem.F.type_str_join mt_joinT pe_str (pa_cons (pe_lc (own := [("name", 1)]) (g := gName 1) (tt := tYes) (by rfl) sc_State____str__.nd (pi_list (pe_callB (cr_sortedKS rfl) (by rfl) T.b_sorted (by decide +kernel) (pa_cons (pe_bm0 PySem.F.plainAttrs_dict PySem.F.slot_dict_keys PySem.F.type_dict_keys mt_keys (pe_fld (pv 0) rfl)) pa_nil))) (blkOk_by (own := [("name", 1)]) (N := nm_State____str__) (sc := defScope s_State____str__) (by decide +kernel)) (fun _ _ _ _ _ => (pg_name (i := 1) sc_State____str__.nd rfl (Or.inl rfl))) (fun _ _ _ _ _ => pts_nil) (fun _ _ _ _ _ => (pe_joinedD (.cons (pe_fmt (pv 1)) (.cons pe_str (.cons (pe_fmt (pe_dget hu (pe_fldK K rfl (pv 0) rfl) (pv 1) (fun _ _ => rfl))) .nil)))))) pa_nil)))), ?_⟩
    obtain ⟨dx, d, h1, h2⟩ := hS.ex
    walk_at "ru"
    refine ⟨by first | trivial | rfl, ⟨_, dx, _, h1, T.o_State.cl, T.n_State__table, _, rfl, tyD h2, ?_⟩⟩
    refine ⟨d, _, rfl, rfl, h2, fun v hv => ?_⟩
    generalize hG : upd H v (KeysO v d) = H1
    obtain ⟨s1, hv1⟩ := newF hv hG
    clear hG
    refine ⟨v, d, _, nms t, rfl, hv1, s1 _ _ h2, kvsT_keys, hS.ok.nd, fun ys l h3 h4 hl => ?_⟩
    have e : ys = srt (nms t) := srt_uniq h3 pw_srt fun k => by rw [h4, mem_srt]
    subst e
    generalize hG : upd H1 l _ = H2
    obtain ⟨s2, hl2⟩ := newF hl hG
    clear hG
    have s02 := s1.trans s2
    have hN := srt_len hS.len
    refine ⟨l, rfl, ⟨_, sqL hl2⟩, fun D hD => ?_⟩
    refine lcL hD (sqL hl2) (fun i => ((srt (nms t)).take i).map fun n => V.str (txtP t n)) rfl (fun j x HE hx pw => ?_) (fun HE sE hDE => ?_)
    · rw [List.getElem?_map] at hx
      cases ex : (srt (nms t))[j]? with
      | none => rw [ex] at hx; cases hx
      | some n =>
      rw [ex] at hx
      cases hx
      walk_at "ru"
      simp only [tJoined, L2.tJs, L2.tFmt]
      walk_at "ru"
      obtain ⟨i, hlk, h0, h9, hn6, hP, eg⟩ := txtP_len hS.ok (mem_srt.mp (mem_of_get ex))
      obtain ⟨hl2, hlog⟩ := num99 h0 h9
      have hval : valV (kvsT t) (Sum.inr n) = some (.int i) := by rw [kvsT_val, hlk]; rfl
      have hle : ∀ {y : Str}, y.length ≤ 50 → y.length ≤ sizeLine := fun h => sz (by omega)
      have e1 : (Str.ofString "=").length = 1 := one_len
      refine .inl ⟨hle (by omega), hle (by rw [sempty_app]; omega), hle (by rw [sempty_app, sapp_len, e1]; omega), cls mg "State", dx, [("table", .ref d)], pw.same _ _ (s02 _ _ h1), T.o_State.cl, T.n_State__table, _, rfl, d, rfl, _, dget_s (pw.same _ _ (s02 _ _ h2)) hval, .inr ⟨i, rfl, hlog, hle (by rw [sempty_app, sapp_len, sapp_len, e1]; omega), ?_⟩⟩
      rw [sempty_app, ← show _ = n ++ Str.ofString "=" ++ Str.ofString (toString i) from eg]
      refine pw.push hD (by rw [List.length_map, List.length_take]; omega) (Same.refl _) ?_
      rw [map_take_next _ ex]
    · refine ⟨" ", D, (srt (nms t)).map (txtP t), rfl, rfl, ?_, txt_size hS.ok hS.len, q0 _ (s02.trans sE)⟩
      rw [List.map_map]
      rw [List.length_map, List.take_length] at hDE
      exact sqL hDE
abbrev nm_State____repr__ : List Str := ["self"]
abbrev pm_State____repr__ : List Str := ["self"]
abbrev lv_State____repr__ : Nat := 4
theorem sc_State____repr__ : FnScope nm_State____repr__ pm_State____repr__ (defScope s_State____repr__) := ⟨rfl, rfl, rfl, by decide +kernel, rfl, by decide +kernel, by decide +kernel⟩
def sp_State____repr__ (mg : Str → Option Value) : Sp := fun vs H Q _ => ∃ (p : Addr) (t : Tb), vs = [.ref p] ∧ StAt mg H p t ∧ ∀ H', Same H H' → Q (.str (("State(" : Str) ++ txtT t ++ (")" : Str))) H'
theorem f_State____repr__ (T : Txt K mg) : Mo P w K mg base CX0 lv_State____repr__ "State" "__repr__" pm_State____repr__ (sp_State____repr__ mg) := by
  obtain ⟨f, fd, F, g, b⟩ := T.m_State____repr__.ex
  refine ⟨f, fd, g, b, F.ok sc_State____repr__ (fun vs H Q E h => ?_) (fun cdv A outer s H vs Q E hr h => ?_)⟩
  · obtain ⟨p, t, rfl, _⟩ := h; rfl
  · obtain ⟨p, t, rfl, hS, q0⟩ := h
    refine ⟨_, (pss_one (ps_ret (pe_joinedD (.cons pe_str (.cons (pe_fmt (pe_callTy (cr_strO (f_State____str__ T) (hr.mono (by decide)) pass0) (by rfl) T.b_str (by decide +kernel) (pa_cons (pv 0) pa_nil))) (.cons pe_str .nil)))))), ?_⟩
    obtain ⟨dx, d, h1, h2⟩ := hS.ex
    walk_at "ru"
    simp only [tJoined, L2.tJs, L2.tFmt]
    walk_at "ru"
    have hT := txtT_len hS.ok hS.len
    have e1 : (Str.ofString "State(").length = 6 := by decide +kernel
    have e2 : (Str.ofString ")").length = 1 := by decide +kernel
    have hle : ∀ {y : Str}, y.length ≤ 300 → y.length ≤ sizeLine := fun h => sz (by omega)
    refine ⟨hle (by rw [sempty_app]; omega), p, dx, _, rfl, h1, p, t, rfl, hS, fun H1 s1 => ⟨_, rfl, .inl ⟨_, rfl, hle (by omega), hle (by rw [sempty_app, sapp_len]; omega), hle (by rw [sempty_app, sapp_len, sapp_len]; omega), ?_⟩⟩⟩
    rw [sempty_app]
    exact q0 _ s1
end
end Nk
namespace Nk
open PySem L2
section
variable {P : Program} {w : World} {K : PySem.W.Frag} {mg : Str → Option Value} {base : Heap}
theorem keys_sorted {H : Hp} {d : Addr} {t : Tb} {Q : VK} (hd : H d = some (.dK (kvsT t))) (ok : OkT t) (q : ∀ l H', Same H H' → H l = none → H' l = some (.lst ((srt (nms t)).map V.str)) → Q (.ref l) H') : tyV K "dict" (.ref d) H ∧ rKeys (.ref d) [] H fun x H1 => rSortedKS [x] H1 Q := by
  refine ⟨tyD hd, d, _, rfl, rfl, hd, fun v hv => ?_⟩
  generalize hG : upd H v (KeysO v d) = H1
  obtain ⟨s1, hv1⟩ := newF hv hG
  refine ⟨v, d, _, nms t, rfl, hv1, s1 _ _ hd, kvsT_keys, ok.nd, fun ys l h3 h4 hl => ?_⟩
  have e : ys = srt (nms t) := srt_uniq h3 pw_srt fun k => by rw [h4, mem_srt]
  subst e
  exact q l _ (s1.trans (same_upd hl)) (s1.free hl) upd_same
theorem keys_list40 {H : Hp} {d : Addr} {t : Tb} {Q : VK} (hd : H d = some (.dK (kvsT t))) (q : ∀ l H', Same H H' → H l = none → H' l = some (.lst ((nms t).map V.str)) → Q (.ref l) H') : tyV K "dict" (.ref d) H ∧ rKeys (.ref d) [] H fun x H1 => rListKeys [x] H1 Q := by
  refine ⟨tyD hd, d, _, rfl, rfl, hd, fun v hv => ?_⟩
  generalize hG : upd H v (KeysO v d) = H1
  obtain ⟨s1, hv1⟩ := newF hv hG
  refine ⟨v, d, _, rfl, hv1, s1 _ _ hd, fun p hp => ?_⟩
  rw [kvsT_keysV]
  exact q p _ (s1.trans (same_upd hp)) (s1.free hp) upd_same
theorem dpAll_strs40 {H : Hp} : ∀ ws : List Str, DpAll K H (ws.map V.str) (ws.map PyData.str)
  | [] => .nil
  | w :: ws => .cons (.str w) (dpAll_strs40 ws)
theorem dp_LS40 {H : Hp} {l : Addr} {ws : List Str} (h : H l = some (.lst (ws.map V.str))) : Dp K H (.ref l) (.list (ws.map PyData.str)) := .lst (sqL h) (dpAll_strs40 ws)
theorem nm_ok {w : Str} (h : isNm w) : PyData.strOk w = true := by
  unfold PyData.strOk
  rw [← Array.all_toList, List.all_eq_true]
  intro c hc
  have := h.2.2 c hc
  rw [decide_eq_true_eq]
  omega
theorem gd_LS40 {ws : List Str} (h : ∀ w ∈ ws, isNm w) : gd 1 (.list (ws.map PyData.str)) = true := by
  simp only [gd]
  rw [List.all_eq_true]
  intro x hx
  obtain ⟨w, hw, rfl⟩ := List.mem_map.mp hx
  exact nm_ok (h w hw)
theorem srt_nm {t : Tb} (ok : OkT t) : ∀ w ∈ srt (nms t), isNm w := fun w hw => by
  obtain ⟨pr, h1, h2⟩ := List.mem_map.mp (mem_srt.mp hw)
  rw [← h2]
  exact ok.nm pr h1
abbrev nm__law_text : List Str := ["table", "name"]
abbrev pm__law_text : List Str := ["table"]
abbrev lv__law_text : Nat := 1
theorem sc__law_text : FnScope nm__law_text pm__law_text (defScope s__law_text) := ⟨rfl, rfl, rfl, by decide +kernel, rfl, by decide +kernel, by decide +kernel⟩
def sp__law_text (K : PySem.W.Frag) : Sp := fun vs H Q _ => ∃ (d : Addr) (t : Tb), vs = [.ref d] ∧ H d = some (.dK (kvsT t)) ∧ OkT t ∧ t.length ≤ 20 ∧ ∀ H', Same H H' → Q (.str (txtT t)) H'
theorem f__law_text (T : Txt K mg) : Fk P w K mg base CX0 lv__law_text "_law_text" pm__law_text (sp__law_text K) := by
  obtain ⟨f, fd, F, g, b⟩ := T.d__law_text.ex
  refine ⟨f, fd, g, F.kp, b, F.ok sc__law_text (fun vs H Q E h => ?_) (fun cdv A outer s H vs Q E hr h => ?_)⟩
  · obtain ⟨d, t, rfl, _⟩ := h; rfl
  · obtain ⟨d, t, rfl, hd, ok, hl, q0⟩ := h
    have hu := hu_of hr
    refine ⟨_, (pss_one (ps_ret (pe_bm PySem.F.plainAttrs_str PySem.F.slot_str_join PySem.F.type_str_join mt_joinT pe_str (pa_cons (pe_lc (own := [("name", 1)]) (g := gName 1) (tt := tYes) (by rfl) sc__law_text.nd (pi_list (pe_callB (cr_sortedKS rfl) (by rfl) T.b_sorted (by decide +kernel) (pa_cons (pe_bm0 PySem.F.plainAttrs_dict PySem.F.slot_dict_keys PySem.F.type_dict_keys mt_keys (pv 0)) pa_nil))) (blkOk_by (own := [("name", 1)]) (N := nm__law_text) (sc := defScope s__law_text) (by decide +kernel)) (fun _ _ _ _ _ => (pg_name (i := 1) sc__law_text.nd rfl (Or.inl rfl))) (fun _ _ _ _ _ => pts_nil) (fun _ _ _ _ _ => (pe_op op_add_str (pe_op op_add_str (pv 1) pe_str) (pe_callTy call_str_int (by rfl) T.b_str (by decide +kernel) (pa_cons (pe_dget hu (pv 0) (pv 1) (fun _ _ => rfl)) pa_nil))))) pa_nil)))), ?_⟩
    walk_at "ru"
    refine ⟨by first | trivial | rfl, tyD hd, d, _, rfl, rfl, hd, fun v hv => ?_⟩
    generalize hG : upd H v (KeysO v d) = H1
    obtain ⟨s1, hv1⟩ := newF hv hG
    clear hG
    refine ⟨v, d, _, nms t, rfl, hv1, s1 _ _ hd, kvsT_keys, ok.nd, fun ys l h3 h4 hl' => ?_⟩
    have e : ys = srt (nms t) := srt_uniq h3 pw_srt fun k => by rw [h4, mem_srt]
    subst e
    generalize hG : upd H1 l _ = H2
    obtain ⟨s2, hl2⟩ := newF hl' hG
    clear hG
    have s02 := s1.trans s2
    have hN := srt_len hl
    refine ⟨l, rfl, ⟨_, sqL hl2⟩, fun D hD => ?_⟩
    refine lcL hD (sqL hl2) (fun i => ((srt (nms t)).take i).map fun n => V.str (txtP t n)) rfl (fun j x HE hx pw => ?_) (fun HE sE hDE => ?_)
    · rw [List.getElem?_map] at hx
      cases ex : (srt (nms t))[j]? with
      | none => rw [ex] at hx; cases hx
      | some n =>
      rw [ex] at hx
      cases hx
      walk_at "ru"
      obtain ⟨i, hlk, h0, h9, hn6, hP, eg⟩ := txtP_len ok (mem_srt.mp (mem_of_get ex))
      obtain ⟨hl2, hlog⟩ := num99 h0 h9
      have hval : valV (kvsT t) (Sum.inr n) = some (.int i) := by rw [kvsT_val, hlk]; rfl
      have hle : ∀ {y : Str}, y.length ≤ 50 → y.length ≤ sizeLine := fun h => sz (by omega)
      have e1 : (Str.ofString "=").length = 1 := one_len
      have hle2 : ∀ {m : Nat}, m ≤ 50 → m ≤ sizeLine := fun h => sz (by omega)
      refine ⟨hle2 (by rw [e1]; omega), _, dget_s (pw.same _ _ (s02 _ _ hd)) hval, i, rfl, hlog, hle2 (by rw [sapp_len, e1]; omega), ?_⟩
      rw [← show _ = n ++ Str.ofString "=" ++ Str.ofString (toString i) from eg]
      refine pw.push hD (by rw [List.length_map, List.length_take]; omega) (Same.refl _) ?_
      rw [map_take_next _ ex]
    · refine ⟨" ", D, (srt (nms t)).map (txtP t), rfl, rfl, ?_, txt_size ok hl, q0 _ (s02.trans sE)⟩
      rw [List.map_map]
      rw [List.length_map, List.take_length] at hDE
      exact sqL hDE
abbrev nm_law : List Str := ["script", "town", "table", "other", "given", "state", "like", "more", "lent", "name", "due", "told", "text"]
abbrev pm_law : List Str := ["script"]
abbrev lv_law : Nat := 6
theorem sc_law : FnScope nm_law pm_law (defScope s_law) := ⟨rfl, rfl, rfl, by decide +kernel, rfl, by decide +kernel, by decide +kernel⟩
def srtT (t : Tb) : Tb := (srt (nms t)).map fun n => (n, (lk t n).getD 0)
theorem srtT_nms (t : Tb) : nms (srtT t) = srt (nms t) := by
  unfold srtT nms
  rw [List.map_map]
  exact List.map_id _
theorem srtT_lk {t : Tb} (ok : OkT t) (n : Str) : lk (srtT t) n = lk t n := by
  by_cases h : n ∈ nms t
  · have hm : (n, (lk t n).getD 0) ∈ srtT t := List.mem_map.mpr ⟨n, mem_srt.mpr h, rfl⟩
    rw [lk_of (by rw [srtT_nms]; exact pw_nodup pw_srt) hm]
    obtain ⟨i, hi⟩ := mem_nms.mp h
    rw [hi]; rfl
  · have h2 : n ∉ nms (srtT t) := by rw [srtT_nms, mem_srt]; exact h
    cases e : lk (srtT t) n with
    | some i => exact absurd (mem_nms.mpr ⟨i, e⟩) h2
    | none =>
      cases e2 : lk t n with
      | some i => exact absurd (mem_nms.mpr ⟨i, e2⟩) h
      | none => rfl
theorem srtT_ok {t : Tb} (ok : OkT t) : OkT (srtT t) := by
  refine ⟨by rw [srtT_nms]; exact pw_nodup pw_srt, fun p hp => ?_, fun p hp => ?_⟩
  all_goals
    obtain ⟨n, hn, rfl⟩ := List.mem_map.mp hp
    obtain ⟨pr, h1, h2⟩ := List.mem_map.mp (mem_srt.mp hn)
  · rw [← h2]; exact ok.nm pr h1
  · show 0 ≤ (lk t n).getD 0 ∧ (lk t n).getD 0 ≤ 99
    rw [← h2, lk_of ok.nd h1]
    exact ok.num pr h1
theorem srtT_len {t : Tb} (h : t.length ≤ 20) : (srtT t).length ≤ 20 := by
  unfold srtT; rw [List.length_map]; exact srt_len h
theorem len_st40 {H : Hp} {p : Addr} {t : Tb} {Q : VK} {E : XK} (h : StAt mg H p t) (q : Q (.int t.length) H) : rLenO (cls mg "State") (sp_State____len__ mg) E [.ref p] H Q := by
  obtain ⟨dx, d, h1, h2⟩ := h.ex
  have := h.len
  exact ⟨p, dx, _, rfl, h1, p, t, rfl, h, t.length, rfl, by omega, q⟩
theorem eq_st40 {H : Hp} {p q : Addr} {t u : Tb} {Q : VK} {E : XK} (hS : StAt mg H p t) (hU : StAt mg H q u) (k : Q (.bl (eqDk (kvsT t) (kvsT u))) H) : rEqO (cls mg "State") (sp_State____eq__ mg) E false (.ref p) (.ref q) H Q := by
  obtain ⟨dx, d, h1, h2⟩ := hS.ex
  obtain ⟨dy, e, h3, h4⟩ := hU.ex
  exact ⟨p, q, dx, dy, _, _, rfl, rfl, h1, h3, p, q, t, u, rfl, hS, hU, _, rfl, k⟩
theorem ne_st40 {H : Hp} {p q : Addr} {t u : Tb} {Q : VK} {E : XK} (hS : StAt mg H p t) (hU : StAt mg H q u) (k : Q (.bl (!eqDk (kvsT t) (kvsT u))) H) : rEqO (cls mg "State") (sp_State____eq__ mg) E true (.ref p) (.ref q) H Q := by
  obtain ⟨dx, d, h1, h2⟩ := hS.ex
  obtain ⟨dy, e, h3, h4⟩ := hU.ex
  exact ⟨p, q, dx, dy, _, _, rfl, rfl, h1, h3, p, q, t, u, rfl, hS, hU, _, rfl, k⟩
theorem gd_num40 (x : Option Int) : gd 0 (numD x) = true := by cases x <;> rfl
theorem getD_T40 {t : Tb} {n : Str} : ((lk t n).map V.int).getD V.non = numV (lkV t (.str n)) := by
  show _ = numV (lk t n)
  cases lk t n <;> rfl
theorem isA_str {n : String} (h : n ≠ "str") : isA n "str" = false := by
  unfold isA
  rw [beq_eq_false_iff_ne.mpr h, show (("str" : String) == "int") = false from by decide, Bool.and_false, Bool.or_false]
theorem eqx40 {H : Hp} {p : Addr} {t : Tb} {y : V} {n : String} {Q : VK} {E : XK} (hS : StAt mg H p t) (hy : Thing K H y n) (k : Q (.bl false) H) : rEqX K (cls mg "State") (sp_State_eqx K mg) E false (.ref p) y H Q := by
  obtain ⟨dx, d, h1, h2⟩ := hS.ex
  exact ⟨p, dx, _, rfl, h1, .inr ⟨n, hy⟩, p, y, t, rfl, hS, .inr ⟨n, hy, false, rfl, k⟩⟩
theorem nex40 {H : Hp} {p : Addr} {t : Tb} {y : V} {n : String} {Q : VK} {E : XK} (hS : StAt mg H p t) (hy : Thing K H y n) (k : Q (.bl true) H) : rEqX K (cls mg "State") (sp_State_eqx K mg) E true (.ref p) y H Q := by
  obtain ⟨dx, d, h1, h2⟩ := hS.ex
  exact ⟨p, dx, _, rfl, h1, .inr ⟨n, hy⟩, p, y, t, rfl, hS, .inr ⟨n, hy, false, rfl, k⟩⟩
theorem eql40 {H : Hp} {p d : Addr} {t : Tb} {kvs : List (Key × V)} {Q : VK} {E : XK} (hS : StAt mg H p t) (hd : H d = some (.dK kvs)) (k : Q (.bl false) H) : rEqL (cls mg "State") (sp_State_eqx K mg) E (.ref d) (.ref p) H Q := by
  obtain ⟨dx, d', h1, h2⟩ := hS.ex
  exact ⟨d, kvs, p, dx, _, rfl, hd, rfl, h1, p, .ref d, t, rfl, hS, .inr ⟨_, .dic hd, false, rfl, k⟩⟩
/-- one item of a list against a state -/
theorem any_int40 {H : Hp} {p : Addr} {t : Tb} {i : Int} {Q : Bool → Hp → Prop} {E : XK} (hS : StAt mg H p t) (k : Q false H) : rEqAny (cls mg "State") (sp_State_eqx K mg) E (.int i) p H Q :=
  .inl ⟨i, rfl, p, .int i, t, rfl, hS, .inr ⟨_, .int i, false, rfl, k⟩⟩
theorem any_st40 {H : Hp} {p q : Addr} {t u : Tb} {Q : Bool → Hp → Prop} {E : XK} (hS : StAt mg H p t) (hU : StAt mg H q u) (hn : q ≠ p) (k : Q (eqDk (kvsT u) (kvsT t)) H) : rEqAny (cls mg "State") (sp_State_eqx K mg) E (.ref q) p H Q := by
  obtain ⟨dy, e, h3, h4⟩ := hU.ex
  exact .inr (.inl ⟨q, dy, _, rfl, hn, h3, q, .ref p, u, rfl, hU, .inl ⟨p, t, rfl, hS, _, rfl, k⟩⟩)
theorem any_dic40 {H : Hp} {p d : Addr} {t : Tb} {kvs : List (Key × V)} {Q : Bool → Hp → Prop} {E : XK} (hS : StAt mg H p t) (hd : H d = some (.dK kvs)) (k : Q false H) : rEqAny (cls mg "State") (sp_State_eqx K mg) E (.ref d) p H Q :=
  .inr (.inr ⟨d, kvs, rfl, hd, p, .ref d, t, rfl, hS, .inr ⟨_, .dic hd, false, rfl, k⟩⟩)
theorem str40 {H : Hp} {p : Addr} {t : Tb} {Q : VK} {E : XK} (hS : StAt mg H p t) (k : ∀ H1, Same H H1 → Q (.str (txtT t)) H1) : rStrO (cls mg "State") (sp_State____str__ mg) E [.ref p] H Q := by
  obtain ⟨dx, d', h1, h2⟩ := hS.ex
  exact ⟨p, dx, _, rfl, h1, p, t, rfl, hS, fun H1 s1 => ⟨_, rfl, k H1 s1⟩⟩
def iv40 (H0 : Hp) (a t d e g p1 p2 p3 pl : Addr) (i : Nat) (σ : L2.St) (H : Hp) : Prop := (∃ y9 y10 y11, σ = [some (.ref a), some (.ref t), some (.ref d), some (.ref e), some (.ref g), some (.ref p1), some (.ref p2), some (.ref p3), some (.ref pl), y9, y10, y11, none]) ∧ Same H0 H
def iv40l (H1 : Hp) (D : Addr) (t : Tb) (i : Nat) (H : Hp) : Prop := Same H1 H ∧ ∃ ps, H D = some (.lst (ps.map V.ref)) ∧ RefsAt H ps ((srtT t).take i)
theorem ok_law {f : Addr} {fd : FuncData} (F : Fun K "law" "law" s_law f fd) (T : Txt K mg) : FnOk P w K mg base CX0 lv_law f fd ["script"] (spLaw K) := by
  refine F.ok sc_law (fun vs H Q E h => ?_) (fun cdv A outer s H vs Q E hr h => ?_)
  · obtain ⟨a, ns, rfl, _⟩ := h; rfl
  · obtain ⟨a, ns, rfl, hS, hl, q⟩ := h
    have hu := hu_of hr
    refine ⟨_, (pss_cons (ps_set (i := 1) sc_law.nd rfl (.inl rfl) (pe_fn (f__law_town T) (hr.mono (by decide)) (by rfl) pass0 (pa_cons (pv 0) pa_nil)))
      (pss_cons (ps_set (i := 2) sc_law.nd rfl (.inr rfl) (pe_fn (f__law_table T) (hr.mono (by decide)) (by rfl) pass0 (pa_cons (pv 0) (pa_cons (pv 1) (pa_cons (pe_fn (f__law_pick T) (hr.mono (by decide)) (by rfl) pass0 (pa_cons (pv 0) (pa_cons (pv 1) (pa_cons (pe_lst (pa_cons pe_int (pa_cons pe_int (pa_cons pe_int pa_nil)))) pa_nil)))) pa_nil)))))
      (pss_cons (ps_set (i := 3) sc_law.nd rfl (.inl rfl) (pe_fn (f__law_later T) (hr.mono (by decide)) (by rfl) pass0 (pa_cons (pv 0) (pa_cons (pv 1) (pa_cons (pv 2) pa_nil)))))
      (pss_cons (ps_set (i := 4) sc_law.nd rfl (.inl rfl) (pe_callTy call_dictD (by rfl) T.b_dict (by decide +kernel) (pa_cons (pv 2) pa_nil)))
      (pss_cons (ps_set (i := 5) sc_law.nd rfl (.inl rfl) (pe_new T.o_State (f_State____init__ T) (hr.mono (by decide)) (by rfl) pass0 (pa_cons (pv 4) pa_nil)))
      (pss_cons (ps_set (i := 6) sc_law.nd rfl (.inl rfl) (pe_new T.o_State (f_State____init__ T) (hr.mono (by decide)) (by rfl) pass0 (pa_cons (pe_callTy (call_dictP rfl) (by rfl) T.b_dict (by decide +kernel) (pa_cons (pe_lc (own := [("name", 9)]) (g := gName 9) (tt := tYes) (by rfl) sc_law.nd (pi_list (pe_callB (cr_sortedKS rfl) (by rfl) T.b_sorted (by decide +kernel) (pa_cons (pe_bm0 PySem.F.plainAttrs_dict PySem.F.slot_dict_keys PySem.F.type_dict_keys mt_keys (pv 2)) pa_nil))) (blkOk_by (own := [("name", 9)]) (N := nm_law) (sc := defScope s_law) (by decide +kernel)) (fun _ _ _ _ _ => (pg_name (i := 9) sc_law.nd rfl (Or.inl rfl))) (fun _ _ _ _ _ => pts_nil) (fun _ _ _ _ _ => (pe_tup (pa_cons (pv 9) (pa_cons (pe_dget hu (pv 2) (pv 9) (fun _ _ => rfl)) pa_nil))))) pa_nil)) pa_nil)))
      (pss_cons (ps_set (i := 7) sc_law.nd rfl (.inl rfl) (pe_new T.o_State (f_State____init__ T) (hr.mono (by decide)) (by rfl) pass0 (pa_cons (pv 3) pa_nil)))
      (pss_cons (ps_dput hu (pv 4) pe_str pe_int rfl)
      (pss_cons (ps_set (i := 8) sc_law.nd rfl (.inl rfl) (pe_me0 (pv 5) T.o_State (f_State__plain T) (hr.mono (by decide)) pass0))
      (pss_cons (ps_dput hu (pv 8) pe_str pe_int rfl)
      (pss_cons (ps_expr (pe_bm PySem.F.plainAttrs_list PySem.F.slot_list_append PySem.F.type_list_append mt_append (pe_me0 (pv 5) T.o_State (f_State__names T) (hr.mono (by decide)) pass0) (pa_cons pe_str pa_nil)))
      (pss_cons (ps_if (PW.pt (pw_or (pt_cmpR op_ne (pe_callB (cr_lenO T.o_State (f_State____len__ T) (hr.mono (by decide)) pass0) (by rfl) T.b_len PySem.boot_len (pa_cons (pv 5) pa_nil)) (pe_callB call_lenD (by rfl) T.b_len PySem.boot_len (pa_cons (pv 2) pa_nil)) (nomark _)) (pw_or (pt_cmpR (op_neD hr.units) (pe_me0 (pv 5) T.o_State (f_State__names T) (hr.mono (by decide)) pass0) (pe_callB (cr_sortedKS rfl) (by rfl) T.b_sorted (by decide +kernel) (pa_cons (pe_bm0 PySem.F.plainAttrs_dict PySem.F.slot_dict_keys PySem.F.type_dict_keys mt_keys (pv 2)) pa_nil)) (nomark _)) (pw_or1 (pt_cmpR (op_neDk hr.units0) (pe_me0 (pv 5) T.o_State (f_State__plain T) (hr.mono (by decide)) pass0) (pv 2) (nomark _)))))) (pss_one (ps_ret pe_bl)) pss_nil)
      (pss_cons (ps_for PassesOwn.never rfl (pi_list (pe_op op_cat (pe_callTy (call_listKeys rfl) (by rfl) T.b_list (by decide +kernel) (pa_cons (pe_bm0 PySem.F.plainAttrs_dict PySem.F.slot_dict_keys PySem.F.type_dict_keys mt_keys (pv 3)) pa_nil)) (pe_lst (pa_cons pe_str (pa_cons pe_str (pa_cons pe_str (pa_cons pe_str (pa_cons pe_str (pa_cons pe_non (pa_cons pe_int (pa_cons pe_bl (pa_cons (pe_tup (pa_cons pe_str pa_nil)) (pa_cons (pe_lst (pa_cons pe_str pa_nil)) (pa_cons pe_dnewK pa_nil)))))))))))))) (pg_name (i := 9) sc_law.nd rfl (Or.inl rfl)) (pss_cons (ps_set (i := 10) sc_law.nd rfl (.inl rfl) (pe_ifExp (pt_val (pe_callB call_isi (by rfl) T.b_isinstance (by decide +kernel) (pa_cons (pv 9) (pa_cons (pe_bltn (v := .ty "str") (by rfl) T.b_str (by decide +kernel) rfl) pa_nil)))) (pe_dget1 hu (pv 2) (pv 9) ⟨rfl, rfl, rfl, rfl⟩) pe_non))
      (pss_cons (ps_set (i := 11) sc_law.nd rfl (.inl rfl) (pe_me (pv 5) T.o_State (f_State__number T) (hr.mono (by decide)) pass0 (pa_cons (pv 9) pa_nil)))
      (pss_one (ps_if (PW.pt (pw_or (pt_cmpR (op_neD hr.units) (pv 11) (pv 10) (nomark _)) (pw_or1 (PW.pt (pw_and (pt_cmpR op_notN (pv 11) pe_non (nomark _)) (pw_and1 (pt_not (pt_val (pe_fn (f__law_whole T) (hr.mono (by decide)) (by rfl) pass0 (pa_cons (pv 11) pa_nil)))))))))) (pss_one (ps_ret pe_bl)) pss_nil)))))
      (pss_cons (ps_if (PW.pt (pw_or (pt_not (pt_cmpR (op_eqO (f_State____eq__ T) (hr.mono (by decide)) pass0) (pv 5) (pv 6) (nomark _))) (pw_or (pt_cmpR (op_neO T.v_State (f_State____eq__ T) (hr.mono (by decide)) pass0) (pv 5) (pv 6) (nomark _)) (pw_or (pt_cmpR op_ne (pe_cmpR (op_eqO (f_State____eq__ T) (hr.mono (by decide)) pass0) (pv 5) (pv 7) (nomark _)) (pe_cmpR (op_eqDk hr.units0) (pv 2) (pv 3) (nomark _)) (nomark _)) (pw_or1 (pt_cmpR op_ne (pe_cmpR (op_neO T.v_State (f_State____eq__ T) (hr.mono (by decide)) pass0) (pv 7) (pv 5) (nomark _)) (pe_cmpR (op_neDk hr.units0) (pv 2) (pv 3) (nomark _)) (nomark _))))))) (pss_one (ps_ret pe_bl)) pss_nil)
      (pss_cons (ps_if (PW.pt (pw_or (pt_cmpR (op_eqX (f_State____eqx T) (hr.mono (by decide)) pass0) (pv 5) (pv 2) (nomark _)) (pw_or (pt_cmpR (op_eqL T.t_State (f_State____eqx T) (hr.mono (by decide)) pass0) (pv 2) (pv 5) (nomark _)) (pw_or (pt_cmpR (op_eqX (f_State____eqx T) (hr.mono (by decide)) pass0) (pv 5) (pe_callTy (cr_strO (f_State____str__ T) (hr.mono (by decide)) pass0) (by rfl) T.b_str (by decide +kernel) (pa_cons (pv 5) pa_nil)) (nomark _)) (pw_or (pt_cmpR (op_eqX (f_State____eqx T) (hr.mono (by decide)) pass0) (pv 5) pe_int (nomark _)) (pw_or1 (pt_not (pt_cmpR (op_neX T.v_State (f_State____eqx T) (hr.mono (by decide)) pass0) (pv 5) (pv 2) (nomark _))))))))) (pss_one (ps_ret pe_bl)) pss_nil)
      (pss_cons (ps_if (PW.pt (pw_or (pt_cmpR op_ne (pe_cmpR (op_inO T.t_State (f_State____eqx T) (hr.mono (by decide)) pass0) (pv 5) (pe_lst (pa_cons pe_int (pa_cons (pv 7) (pa_cons (pv 2) pa_nil)))) (by rfl)) (pe_cmpR (op_eqDk hr.units0) (pv 2) (pv 3) (nomark _)) (nomark _)) (pw_or1 (pt_cmpR (op_notInO T.t_State (f_State____eqx T) (hr.mono (by decide)) pass0) (pv 5) (pe_lst (pa_cons (pv 7) (pa_cons (pv 6) pa_nil))) (by rfl))))) (pss_one (ps_ret pe_bl)) pss_nil)
      (pss_cons (ps_set (i := 12) sc_law.nd rfl (.inl rfl) (pe_fn (f__law_text T) (hr.mono (by decide)) (by rfl) pass0 (pa_cons (pv 2) pa_nil)))
      (pss_one (ps_ret (pe_and (pe_cmpR op_eq (pe_callTy (cr_strO (f_State____str__ T) (hr.mono (by decide)) pass0) (by rfl) T.b_str (by decide +kernel) (pa_cons (pv 5) pa_nil)) (pv 12) (nomark _)) (pe_and (pe_cmpR op_eq (pe_callB (cr_reprO (f_State____repr__ T) (hr.mono (by decide)) pass0) (by rfl) T.b_repr (by decide +kernel) (pa_cons (pv 5) pa_nil)) (pe_op op_add_str (pe_op op_add_str pe_str (pv 12)) pe_str) (nomark _)) (pe_one (pe_cmpR op_eq (pe_joined1 (pe_fmtO T.t_State T.v_State (f_State____str__ T) (hr.mono (by decide)) pass0 (pv 7))) (pe_fn (f__law_text T) (hr.mono (by decide)) (by rfl) pass0 (pa_cons (pv 3) pa_nil)) (nomark _)))))))))))))))))))))))), ?_⟩
    with_reducible refine seq_k fun K_ hK_ => ?_
    walk_at "ru"
    refine ⟨a, ns, rfl, hS, hl, fun H1 t s1 T1 ht => ?_⟩
    walk_at "ru"
    subst hK_
    first | with_reducible refine seq_k fun K_ hK_ => ?_ | skip
    walk_at "ru"
    refine pickI [1, 4, 20] T1 (by omega) fun mny hmny H2 T2 b2 => ?_
    have hmny' : 0 ≤ mny ∧ mny ≤ 20 := by simp at hmny; omega
    refine ⟨a, t, ns, _, mny, rfl, T2, by omega, hmny'.1, hmny'.2, fun d tb c3 H3 nd hdt hd ok hl20 hc3 T3 b3 => ?_⟩
    have hl20 : tb.length ≤ 20 := by omega
    walk_at "ru"
    subst hK_
    first | with_reducible refine seq_k fun K_ hK_ => ?_ | skip
    walk_at "ru"
    refine ⟨a, t, d, ns, c3, tb, rfl, T3, by omega, hd, ok, hl20, fun e ub c4 H4 ne het he oku hu20 hc4 T4 b4 => ?_⟩
    have hd4 := b4 _ _ hd hdt
    walk_at "ru"
    subst hK_
    first | with_reducible refine seq_k fun K_ hK_ => ?_ | skip
    walk_at "ru"
    refine ⟨_, .inl hd4, ?_⟩
    intro g n_g
    generalize hG_ : upd _ g _ = H5
    obtain ⟨s5, hg⟩ := newF n_g hG_
    clear hG_
    walk_at "ru"
    subst hK_
    first | with_reducible refine seq_k fun K_ hK_ => ?_ | skip
    walk_at "ru"
    refine state_newF hg ok hl20 fun p1 dx1 e1 H6 s6 np1 ne1 hp1 he1 => ?_
    have St1 : StAt mg H6 p1 tb := ⟨⟨dx1, e1, hp1, he1⟩, ok, hl20⟩
    have s46 := s5.trans s6
    have hd6 := s46 _ _ hd4
    walk_at "ru"
    subst hK_
    first | with_reducible refine seq_k fun K_ hK_ => ?_ | skip
    walk_at "ru"
    refine ⟨tyD hd6, d, _, rfl, rfl, hd6, fun v hv => ?_⟩
    generalize hG : upd H6 v (KeysO v d) = H7
    obtain ⟨s7, hv7⟩ := newF hv hG
    clear hG
    refine ⟨v, d, _, nms tb, rfl, hv7, s7 _ _ hd6, kvsT_keys, ok.nd, fun ys l h3 h4 hl' => ?_⟩
    have e : ys = srt (nms tb) := srt_uniq h3 pw_srt fun k => by rw [h4, mem_srt]
    subst e
    generalize hG : upd H7 l _ = H8
    obtain ⟨s8, hl8⟩ := newF hl' hG
    clear hG
    have hN := srt_len hl20
    have s68 := s7.trans s8
    refine ⟨l, rfl, ⟨_, sqL hl8⟩, fun D hD => ?_⟩
    refine lc_list (K := K) (a := l) (xs := (srt (nms tb)).map V.str) (iv40l H8 D tb) ⟨same_upd hD, [], upd_same, by simp [RefsAt]⟩ (fun _ _ _ p => sqL (p.1 _ _ hl8)) (fun j x HE hx p => ?_) (fun HE p => ?_)
    · obtain ⟨s2, ps, hD2, hP2⟩ := p
      rw [List.getElem?_map] at hx
      cases ex : (srt (nms tb))[j]? with
      | none => rw [ex] at hx; cases hx
      | some n =>
      rw [ex] at hx
      cases hx
      have hpl := hP2.len
      rw [List.length_take] at hpl
      obtain ⟨i, hlk, h0, h9, hn6, hP, eg⟩ := txtP_len ok (mem_srt.mp (mem_of_get ex))
      have hval : valV (kvsT tb) (Sum.inr n) = some (.int i) := by rw [kvsT_val, hlk]; rfl
      have ex2 : (srtT tb)[j]? = some (n, i) := by
        unfold srtT
        rw [List.getElem?_map, ex]
        show some (n, (lk tb n).getD 0) = _
        rw [hlk]; rfl
      walk_at "ru"
      refine ⟨_, dget_s (s2 _ _ (s68 _ _ hd6)) hval, ?_⟩
      intro q1 n_q1
      generalize hG_ : upd _ q1 _ = H9
      obtain ⟨s9, hq1⟩ := newF n_q1 hG_
      clear hG_
      refine ⟨_, s9 _ _ hD2, szl (by rw [List.length_map]; have := srtT_len hl20; omega), Same.app (s2.trans s9) hD, ps ++ [q1], by rw [upd_same, List.map_append]; rfl, ?_⟩
      have kp : ∀ z zs o, H9 z = some (.tup zs) → (upd H9 D (.lst o)) z = some (.tup zs) := fun z zs o e => by rw [upd_ne (ne_of e (s9 _ _ hD2) (by intro z; cases z))]; exact e
      rw [take_next ex2]
      exact ((hP2.same s9).tups (fun b xs e => kp b xs _ e)).app ⟨kp _ _ _ hq1, trivial⟩
    · obtain ⟨s2, ps, hD2, hP2⟩ := p
      have hlen : ((srt (nms tb)).map V.str).length = (srtT tb).length := by unfold srtT; rw [List.length_map, List.length_map]
      rw [hlen, List.take_length] at hP2
      refine ⟨ps, sqL hD2, kvsT (srtT tb), hP2.paired, ?_⟩
      have ndk : ((([] : List (Key × V)) ++ kvsT (srtT tb)).map (·.1)).Nodup := by
        rw [List.nil_append, kvsT_keys]
        exact List.Pairwise.map _ (fun a b h e => h (Sum.inr.inj e)) (srtT_ok ok).nd
      rw [mergeK_nd ndk, List.nil_append]
      intro m1 n_m1
      generalize hG_ : upd _ m1 _ = HA
      obtain ⟨sA, hm1⟩ := newF n_m1 hG_
      clear hG_
      refine state_newF hm1 (srtT_ok ok) (srtT_len hl20) fun p2 dx2 e2 HB sB np2 ne2 hp2 he2 => ?_
      have St2 : StAt mg HB p2 (srtT tb) := ⟨⟨dx2, e2, hp2, he2⟩, srtT_ok ok, srtT_len hl20⟩
      have s6B := ((s68.trans s2).trans sA).trans sB
      have he4B := s6B _ _ (s46 _ _ he)
      walk_at "ru"
      subst hK_
      first | with_reducible refine seq_k fun K_ hK_ => ?_ | skip
      walk_at "ru"
      refine state_newF he4B oku hu20 fun p3 dx3 e3 HC sC np3 ne3 hp3 he3 => ?_
      walk_at "ru"
      subst hK_
      first | with_reducible refine seq_k fun K_ hK_ => ?_ | skip
      walk_at "ru"
      have sBC := sC
      have s6C := s6B.trans sC
      have hgC := s6C _ _ (s6 _ _ hg)
      refine ⟨_, DPut.k (k := Sum.inr "a") hgC (szl (by rw [kvsT_len]; omega)), ?_⟩
      have st0 : Step [g] HC HC := .of (Same.refl _)
      generalize hG_ : upd _ g _ = HD
      obtain ⟨stD, bD, hgD⟩ := putH st0 (by simp) hgC (fun _ z => nomatch z) hG_
      clear hG_
      have hdD := bD _ _ (s6C _ _ hd6) (ne_of_none hd4 n_g)
      have heD := bD _ _ (sC _ _ he4B) (ne_of_none he n_g)
      have dk : ∀ {kvs : List (Key × V)} {C dx : Addr} {fs}, HO.ins C dx fs ≠ HO.dK kvs := fun z => nomatch z
      have St1 : StAt mg HD p1 tb := ⟨⟨dx1, e1, bD _ _ (s6C _ _ hp1) (ne_of hp1 (s6 _ _ hg) dk), bD _ _ (s6C _ _ he1) (ne_of_none hg ne1).symm⟩, ok, hl20⟩
      have s6A := (s68.trans s2).trans sA
      have St2 : StAt mg HD p2 (srtT tb) := ⟨⟨dx2, e2, bD _ _ (sC _ _ hp2) (ne_of (sC _ _ hp2) hgC dk), bD _ _ (sC _ _ he2) (ne_of_none (s6A _ _ (s6 _ _ hg)) ne2).symm⟩, srtT_ok ok, srtT_len hl20⟩
      have St3 : StAt mg HD p3 ub := ⟨⟨dx3, e3, bD _ _ hp3 (ne_of hp3 hgC dk), bD _ _ he3 (ne_of_none (s6B _ _ (s6 _ _ hg)) ne3).symm⟩, oku, hu20⟩
      have n12 : p1 ≠ p2 := ne_of_none (s6A _ _ hp1) np2
      have n13 : p1 ≠ p3 := ne_of_none (s6B _ _ hp1) np3
      clear s6A s6B s6C hd6 he4B hp1 he1 hp2 he2 hp3 he3 hgC
      walk_at "ru"
      subst hK_
      first | with_reducible refine seq_k fun K_ hK_ => ?_ | skip
      walk_at "ru"
      obtain ⟨dy1, f1, hq1, hf1⟩ := St1.ex
      refine ⟨dy1, _, hq1, rfl, p1, tb, rfl, St1, fun pl HE sE npl hpl => ?_⟩
      walk_at "ru"
      subst hK_
      first | with_reducible refine seq_k fun K_ hK_ => ?_ | skip
      walk_at "ru"
      refine ⟨_, DPut.k (k := Sum.inr "b") hpl (szl (by rw [kvsT_len]; omega)), ?_⟩
      generalize hG_ : upd HE pl _ = HF
      have sF : Same HD HF := by rw [← hG_]; exact Same.keepN sE npl
      clear hG_
      walk_at "ru"
      subst hK_
      first | with_reducible refine seq_k fun K_ hK_ => ?_ | skip
      walk_at "ru"
      have U1 := St1.same sF
      obtain ⟨dy1, f1, hq1, hf1⟩ := U1.ex
      refine ⟨dy1, _, hq1, rfl, p1, tb, rfl, U1, fun ln HG sG nln hln => ?_⟩
      refine app hln (by rw [List.length_map]; omega) ?_
      generalize hG_ : upd HG ln _ = HI
      have sI : Same HF HI := by rw [← hG_]; exact Same.keepN sG nln
      clear hG_
      have sDI := sF.trans sI
      walk_at "ru"
      subst hK_
      first | with_reducible refine seq_k fun K_ hK_ => ?_ | skip
      walk_at "ru"
      have V1 := St1.same sDI
      have V2 := St2.same sDI
      have V3 := St3.same sDI
      have hdI := sDI _ _ hdD
      have heI := sDI _ _ heD
      clear U1 St1 St2 St3 hq1 hf1
      obtain ⟨dy1, f1, hq1, hf1⟩ := V1.ex
      refine len_st40 V1 ?_
      refine ⟨_, hdI, rfl, ?_⟩
      rw [kvsT_len, if_neg (by simp)]
      refine ⟨dy1, _, hq1, rfl, p1, tb, rfl, V1, fun n1 HJ sJ nn1 hn1 => ?_⟩
      refine keys_sorted (sJ _ _ hdI) ok fun n2 HK sK nn2 hn2 => ?_
      refine neD (dp_LS40 (sK _ _ hn1)) (dp_LS40 hn2) (gd_LS40 (srt_nm ok)) (gd_LS40 (srt_nm ok)) (fun _ => ⟨_, rfl, ?_⟩) (fun z => absurd rfl z)
      rw [if_neg Bool.false_ne_true]
      have sIK := sJ.trans sK
      refine ⟨dy1, _, sIK _ _ hq1, rfl, p1, tb, rfl, V1.same sIK, fun pl2 HL sL npl2 hpl2 => ?_⟩
      have sIL := sIK.trans sL
      refine ⟨pl2, d, _, _, rfl, rfl, hpl2, sIL _ _ hdI, kvsT_flat, kvsT_flat, ?_⟩
      rw [eq_T' ok ok fun _ => rfl]
      refine ⟨_, rfl, ?_⟩
      rw [if_neg (by simp)]
      have W1 := V1.same sIL
      have W2 := V2.same sIL
      have W3 := V3.same sIL
      have hdL := sIL _ _ hdI
      have heL := sIL _ _ heI
      clear V1 V2 V3 hq1 hf1
      walk_at "ru"
      subst hK_
      first | with_reducible refine seq_k fun K_ hK_ => ?_ | skip
      walk_at "ru"
      have hnu : (nms ub).length ≤ 20 := by simpa [nms] using hu20
      refine keys_list40 heL fun l1 HM sM n1 hl1 => ?_
      intro p6 n_p6
      generalize hG_ : upd _ p6 _ = HN
      obtain ⟨sN, hp6⟩ := newF n_p6 hG_
      clear hG_
      intro q6 n_q6
      generalize hG_ : upd _ q6 _ = HO1
      obtain ⟨sO, hq6⟩ := newF n_q6 hG_
      clear hG_
      simp only [L2.tDNewK]
      intro r6 n_r6
      generalize hG_ : upd _ r6 _ = HP1
      obtain ⟨sP, hr6⟩ := newF n_r6 hG_
      clear hG_
      intro l2 n_l2
      generalize hG_ : upd _ l2 _ = HQ
      obtain ⟨sQ, hl2⟩ := newF n_l2 hG_
      clear hG_
      refine ⟨l1, l2, _, _, rfl, rfl, sQ _ _ (sP _ _ (sO _ _ (sN _ _ hl1))), hl2, sz (by simp; omega), ?_⟩
      intro l3 n_l3
      generalize hG_ : upd _ l3 _ = HR
      obtain ⟨sR, hl3⟩ := newF n_l3 hG_
      clear hG_
      have sLR := ((((sM.trans sN).trans sO).trans sP).trans sQ).trans sR
      have hp6R := sR _ _ (sQ _ _ (sP _ _ (sO _ _ hp6)))
      have hq6R := sR _ _ (sQ _ _ (sP _ _ hq6))
      have hr6R := sR _ _ (sQ _ _ hr6)
      have X1 := W1.same sLR
      have X2 := W2.same sLR
      have X3 := W3.same sLR
      have hdR := sLR _ _ hdL
      have heR := sLR _ _ heL
      clear W1 W2 W3
      refine ⟨l3, rfl, ⟨_, sqL hl3⟩, ?_⟩
      refine for_it (walk_list (xs := (nms ub).map V.str ++ [.str "a", .str "b", .str "q", .str "", .str "A", .non, .int 1, .bl true, .ref p6, .ref q6, .ref r6])) (iv40 HR a t d e g p1 p2 p3 pl) ⟨⟨_, _, _, rfl⟩, Same.refl _⟩ (fun j σ HH _ iv => sqL (iv.2 _ _ hl3)) (fun j x σ HH HI2 hj iv hy => ?_) (fun σ HH iv => ?_)
      · obtain ⟨⟨y9, y10, y11, rfl⟩, sH⟩ := iv
        obtain ⟨rfl, hy⟩ := hy
        have hx := mem_of_get hy
        walk_at "ru"
        with_reducible refine seq_k fun K_ hK_ => ?_
        walk_at "ru"
        have hk : (∃ s, x = .str s ∧ s.cps.size ≤ 1000) ∨ ∃ n, Thing K HI2 x n ∧ n ≠ "str" ∧ ∀ s, x ≠ .str s := by
          rcases List.mem_append.mp hx with h | h
          · obtain ⟨s, hs, rfl⟩ := List.mem_map.mp h
            obtain ⟨pr, h1, h2⟩ := List.mem_map.mp hs
            have := (oku.nm pr h1).2.1
            rw [h2] at this
            exact .inl ⟨s, rfl, by have : s.cps.size ≤ 6 := this; omega⟩
          · simp only [List.mem_cons, List.not_mem_nil, or_false] at h
            rcases h with rfl | rfl | rfl | rfl | rfl | rfl | rfl | rfl | rfl | rfl | rfl
            · exact .inl ⟨_, rfl, by decide +kernel⟩
            · exact .inl ⟨_, rfl, by decide +kernel⟩
            · exact .inl ⟨_, rfl, by decide +kernel⟩
            · exact .inl ⟨_, rfl, by decide +kernel⟩
            · exact .inl ⟨_, rfl, by decide +kernel⟩
            · exact .inr ⟨_, .non, by decide, fun _ z => nomatch z⟩
            · exact .inr ⟨_, .int _, by decide, fun _ z => nomatch z⟩
            · exact .inr ⟨_, .bl _, by decide, fun _ z => nomatch z⟩
            · exact .inr ⟨_, .tup (sH _ _ hp6R), by decide, fun _ z => nomatch z⟩
            · exact .inr ⟨_, .lst (sH _ _ hq6R), by decide, fun _ z => nomatch z⟩
            · exact .inr ⟨_, .dic (sH _ _ hr6R), by decide, fun _ z => nomatch z⟩
        have fin : ∀ n, Thing K HI2 x n → ShortS x → K_ [some (.ref a), some (.ref t), some (.ref d), some (.ref e), some (.ref g), some (.ref p1), some (.ref p2), some (.ref p3), some (.ref pl), some x, some (numV (lkV tb x)), y11, none] HI2 := fun n hn hs => by
          subst hK_
          walk_at "ru"
          subst hK_
          first | with_reducible refine seq_k fun K_ hK_ => ?_ | skip
          walk_at "ru"
          have Z1 := X1.same sH
          obtain ⟨dz, fz, hz, _⟩ := Z1.ex
          refine ⟨dz, _, hz, rfl, p1, tb, x, n, rfl, Z1, hn, hs, fun HT sT => ?_⟩
          walk_at "ru"
          subst hK_
          first | with_reducible refine seq_k fun K_ hK_ => ?_ | skip
          walk_at "ru"
          refine neD (dp_num _) (dp_num _) (gd_num40 _) (gd_num40 _) (fun _ => ⟨_, rfl, ?_⟩) (fun z => absurd rfl z)
          rw [if_neg Bool.false_ne_true]
          cases hlk : lkV tb x with
          | none =>
            rw [if_neg (by simp [numV])]
            exact ⟨⟨_, _, _, rfl⟩, sH.trans sT⟩
          | some i =>
            rw [if_pos (by simp [numV])]
            refine ⟨.int i, "int", rfl, .int i, _, rfl, ?_⟩
            exact ⟨⟨_, _, _, rfl⟩, sH.trans sT⟩
        rcases hk with ⟨s', rfl, hs⟩ | ⟨n, hn, hn2, hns⟩
        · refine isi_thing (.str s') (by decide) ⟨true, rfl, ?_⟩
          rw [if_pos rfl]
          refine ⟨.inl ⟨_, .inl (sH _ _ hdR)⟩, _, DGet.k (k := Sum.inr s') (sH _ _ hdR), ?_⟩
          rw [kvsT_val, getD_T40]
          exact fin "str" (.str s') fun z e => by cases e; exact hs
        · refine isi_thing hn (by decide) ⟨false, by rw [isA_str hn2], ?_⟩
          rw [if_neg (by simp)]
          have e : numV (lkV tb x) = .non := by
            cases x with
            | str z => exact absurd rfl (hns z)
            | _ => rfl
          rw [← e]
          exact fin n hn fun z e => absurd e (hns z)
      · obtain ⟨⟨y9, y10, y11, rfl⟩, sH⟩ := iv
        have Y1 := X1.same sH
        have Y2 := X2.same sH
        have Y3 := X3.same sH
        have hdS := sH _ _ hdR
        have heS := sH _ _ heR
        clear X1 X2 X3
        walk_at "ru"
        subst hK_
        first | with_reducible refine seq_k fun K_ hK_ => ?_ | skip
        walk_at "ru"
        have eself : eqDk (kvsT tb) (kvsT (srtT tb)) = true := eq_T' ok (srtT_ok ok) fun n => (srtT_lk ok n).symm
        have ecomm : eqDk (kvsT ub) (kvsT tb) = eqDk (kvsT tb) (kvsT ub) := by
          rw [Bool.eq_iff_iff, eq_T oku ok, eq_T ok oku]
          exact ⟨fun h n => (h n).symm, fun h n => (h n).symm⟩
        refine eq_st40 Y1 Y2 ?_
        rw [eself]
        refine ⟨_, rfl, ?_⟩
        rw [if_neg (by simp)]
        refine ne_st40 Y1 Y2 ?_
        rw [eself]
        refine ⟨_, rfl, ?_⟩
        rw [if_neg (by simp)]
        refine eq_st40 Y1 Y3 ?_
        refine ⟨d, e, _, _, rfl, rfl, hdS, heS, kvsT_flat, kvsT_flat, rfl, ?_⟩
        rw [if_neg (by simp)]
        refine ne_st40 Y3 Y1 ?_
        refine ⟨d, e, _, _, rfl, rfl, hdS, heS, kvsT_flat, kvsT_flat, rfl, ?_⟩
        rw [ecomm, if_neg (by simp)]
        walk_at "ru"
        subst hK_
        first | with_reducible refine seq_k fun K_ hK_ => ?_ | skip
        walk_at "ru"
        refine eqx40 Y1 (.dic hdS) ⟨_, rfl, ?_⟩
        rw [if_neg (by simp)]
        refine eql40 Y1 hdS ⟨_, rfl, ?_⟩
        rw [if_neg (by simp)]
        refine str40 Y1 fun HT sT => ?_
        refine eqx40 (Y1.same sT) (.str _) ⟨_, rfl, ?_⟩
        rw [if_neg (by simp)]
        refine eqx40 (Y1.same sT) (.int _) ⟨_, rfl, ?_⟩
        rw [if_neg (by simp)]
        refine nex40 (Y1.same sT) (.dic (sT _ _ hdS)) ⟨_, rfl, ?_⟩
        rw [if_neg (by simp)]
        have Z1 := Y1.same sT
        have Z2 := Y2.same sT
        have Z3 := Y3.same sT
        have hdT := sT _ _ hdS
        have heT' := sT _ _ heS
        clear Y1 Y2 Y3
        walk_at "ru"
        subst hK_
        first | with_reducible refine seq_k fun K_ hK_ => ?_ | skip
        walk_at "ru"
        intro lA n_lA
        generalize hG_ : upd _ lA _ = HU
        obtain ⟨sU, hlA⟩ := newF n_lA hG_
        clear hG_
        obtain ⟨dz, fz, hz, _⟩ := (Z1.same sU).ex
        refine ⟨p1, dz, _, lA, _, rfl, rfl, hz, hlA, any_int40 (Z1.same sU) ⟨Same.refl _, ?_⟩⟩
        rw [if_neg (by simp)]
        refine any_st40 (Z1.same sU) (Z3.same sU) n13.symm ⟨Same.refl _, ?_⟩
        rw [ecomm]
        have inA : ∀ b, b = eqDk (kvsT tb) (kvsT ub) → (fun x H1 => rEqDk false (V.ref d) (V.ref e) H1 fun y H2 => scal x y = true ∧ if ¬x = y then Q (.bl false) H2 else
            ∀ (p : Addr), H2 p = none → rInO (cls mg (Str.ofString "State")) (sp_State_eqx K mg) E0 true (V.ref p1) (V.ref p) (upd H2 p (HO.lst [V.ref p3, V.ref p2])) fun x H' => ∃ k, x = V.bl k ∧ if k = true then Q (V.bl false) H' else
              K_ [some (V.ref a), some (V.ref t), some (V.ref d), some (V.ref e), some (V.ref g), some (V.ref p1), some (V.ref p2), some (V.ref p3), some (V.ref pl), y9, y10, y11, none] H') (.bl (if false = true then !b else b)) HU := by
          intro b hb
          refine ⟨d, e, _, _, rfl, rfl, sU _ _ hdT, sU _ _ heT', kvsT_flat, kvsT_flat, rfl, ?_⟩
          rw [if_neg (by rw [hb]; simp)]
          intro lB n_lB
          generalize hG_ : upd _ lB _ = HV
          obtain ⟨sV, hlB⟩ := newF n_lB hG_
          clear hG_
          have sUV := sU.trans sV
          have T1' := Z1.same sUV
          have T2' := Z2.same sUV
          have T3' := Z3.same sUV
          obtain ⟨dz2, fz2, hz2, _⟩ := T1'.ex
          refine ⟨p1, dz2, _, lB, _, rfl, rfl, hz2, hlB, any_st40 T1' T3' n13.symm ⟨Same.refl _, ?_⟩⟩
          have e2 : eqDk (kvsT (srtT tb)) (kvsT tb) = true := eq_T' (srtT_ok ok) ok fun n => srtT_lk ok n
          have go : K_ [some (V.ref a), some (V.ref t), some (V.ref d), some (V.ref e), some (V.ref g), some (V.ref p1), some (V.ref p2), some (V.ref p3), some (V.ref pl), y9, y10, y11, none] HV := by
            walk_at "ru"
            subst hK_
            first | with_reducible refine seq_k fun K_ hK_ => ?_ | skip
            walk_at "ru"
            refine ⟨d, tb, rfl, sUV _ _ hdT, ok, hl20, fun HW sW => ?_⟩
            walk_at "ru"
            subst hK_
            first | with_reducible refine seq_k fun K_ hK_ => ?_ | skip
            walk_at "ru"
            refine str40 (T1'.same sW) fun HX sX => ?_
            have hT := txtT_len ok hl20
            have e1 : (Str.ofString "State(").length = 6 := by decide +kernel
            have e2 : (Str.ofString ")").length = 1 := by decide +kernel
            have hle : ∀ {m : Nat}, m ≤ 300 → m ≤ sizeLine := fun h => sz (by omega)
            refine ⟨rfl, ?_⟩
            rw [if_pos rfl]
            have sWX := sW.trans sX
            obtain ⟨dz3, fz3, hz3, _⟩ := (T1'.same sWX).ex
            refine ⟨p1, dz3, _, rfl, hz3, p1, tb, rfl, T1'.same sWX, fun HY sY => ⟨_, rfl, hle (by omega), hle (by rw [sapp_len]; omega), rfl, ?_⟩⟩
            rw [if_pos rfl]
            simp only [tFmtO]
            walk_at "ru"
            refine str40 (T3'.same (sWX.trans sY)) fun HZ sZ => ?_
            refine ⟨e, ub, rfl, ((sWX.trans sY).trans sZ) _ _ (sUV _ _ heT'), oku, hu20, fun HZ2 _ => ⟨rfl, ?_⟩⟩
            rw [decide_eq_true rfl]
            exact q _
          split
          · refine ⟨_, rfl, ?_⟩
            rw [if_neg (by simp)]
            exact go
          · refine any_st40 T1' T2' n12.symm ⟨Same.refl _, ?_⟩
            rw [e2, if_pos rfl]
            refine ⟨_, rfl, ?_⟩
            rw [if_neg (by simp)]
            exact go
        cases hB : eqDk (kvsT tb) (kvsT ub) with
        | true =>
          rw [if_pos rfl]
          exact inA true hB.symm
        | false =>
          rw [if_neg (by simp)]
          refine any_dic40 (Z1.same sU) (sU _ _ hdT) ⟨Same.refl _, ?_⟩
          rw [if_neg (by simp)]
          exact inA false hB.symm
end
end Nk
namespace Nk
open PySem L2 PySem.Spec PyProof.Rows
theorem hTxt {K : PySem.W.Frag} {h : Heap} {mg : Str → Option Value} (X : K.In h) (G : h.Ns mainGlobals mg) (c : hSays hFa hFn K) : Txt K mg where
  d_is_number := by
    obtain ⟨fd, F⟩ := c.def_ 0 (d := hD_g_is_number) rfl
    exact nfa_df (c.fact 0) F X G (fun _ _ _ _ _ _ us hl => match us, hl with | [_, _, _], _ => rfl)
  d_is_name := by
    obtain ⟨fd, F⟩ := c.def_ 1 (d := hD_g_is_name) rfl
    exact nfa_df (c.fact 1) F X G (fun _ _ _ _ _ _ us hl => match us, hl with | [_], _ => rfl)
  d_is_state := by
    obtain ⟨fd, F⟩ := c.def_ 2 (d := hD_g_is_state) rfl
    exact nfa_df (c.fact 2) F X G (fun _ _ _ _ _ _ us hl => match us, hl with | [_], _ => rfl)
  d__law_town := by
    obtain ⟨fd, F⟩ := c.def_ 3 (d := hD_g__law_town) rfl
    exact nfa_df (c.fact 3) F X G (fun _ _ _ _ _ _ us hl => match us, hl with | [_], _ => rfl)
  d__law_draw := by
    obtain ⟨fd, F⟩ := c.def_ 4 (d := hD_g__law_draw) rfl
    exact nfa_df (c.fact 4) F X G (fun _ _ _ _ _ _ us hl => match us, hl with | [_, _, _], _ => rfl)
  d__law_pick := by
    obtain ⟨fd, F⟩ := c.def_ 5 (d := hD_g__law_pick) rfl
    exact nfa_df (c.fact 5) F X G (fun _ _ _ _ _ _ us hl => match us, hl with | [_, _, _], _ => rfl)
  d__law_whole := by
    obtain ⟨fd, F⟩ := c.def_ 6 (d := hD_g__law_whole) rfl
    exact nfa_df (c.fact 6) F X G (fun _ _ _ _ _ _ us hl => match us, hl with | [_], _ => rfl)
  d__law_name := by
    obtain ⟨fd, F⟩ := c.def_ 7 (d := hD_g__law_name) rfl
    exact nfa_df (c.fact 7) F X G (fun _ _ _ _ _ _ us hl => match us, hl with | [_, _, _], _ => rfl)
  d__law_table := by
    obtain ⟨fd, F⟩ := c.def_ 8 (d := hD_g__law_table) rfl
    exact nfa_df (c.fact 8) F X G (fun _ _ _ _ _ _ us hl => match us, hl with | [_, _, _], _ => rfl)
  d__law_later := by
    obtain ⟨fd, F⟩ := c.def_ 9 (d := hD_g__law_later) rfl
    exact nfa_df (c.fact 9) F X G (fun _ _ _ _ _ _ us hl => match us, hl with | [_, _, _], _ => rfl)
  d__law_text := by
    obtain ⟨fd, F⟩ := c.def_ 10 (d := hD_g__law_text) rfl
    exact nfa_df (c.fact 10) F X G (fun _ _ _ _ _ _ us hl => match us, hl with | [_], _ => rfl)
  d_law := by
    obtain ⟨fd, F⟩ := c.def_ 11 (d := hD_g_law) rfl
    exact nfa_df (c.fact 11) F X G (fun _ _ _ _ _ _ us hl => match us, hl with | [_], _ => rfl)
  x_KeepError := nfa_xc (c.fact 12) X G
  x_BadState := nfa_xc (c.fact 13) X G
  o_State := nfa_oc (c.fact 14) X G
  m_State____init__ := by
    obtain ⟨fd, F⟩ := c.def_ 12 (d := hD_m_State____init__) rfl
    exact nfa_md (c.fact 15) F X G (fun _ _ _ _ _ _ us hl => match us, hl with | [_, _], _ => rfl)
  m_State____len__ := by
    obtain ⟨fd, F⟩ := c.def_ 13 (d := hD_m_State____len__) rfl
    exact nfa_md (c.fact 16) F X G (fun _ _ _ _ _ _ us hl => match us, hl with | [_], _ => rfl)
  m_State____eq__ := by
    obtain ⟨fd, F⟩ := c.def_ 14 (d := hD_m_State____eq__) rfl
    exact nfa_md (c.fact 17) F X G (fun _ _ _ _ _ _ us hl => match us, hl with | [_, _], _ => rfl)
  m_State____str__ := by
    obtain ⟨fd, F⟩ := c.def_ 15 (d := hD_m_State____str__) rfl
    exact nfa_md (c.fact 18) F X G (fun _ _ _ _ _ _ us hl => match us, hl with | [_], _ => rfl)
  m_State____repr__ := by
    obtain ⟨fd, F⟩ := c.def_ 16 (d := hD_m_State____repr__) rfl
    exact nfa_md (c.fact 19) F X G (fun _ _ _ _ _ _ us hl => match us, hl with | [_], _ => rfl)
  m_State__number := by
    obtain ⟨fd, F⟩ := c.def_ 17 (d := hD_m_State__number) rfl
    exact nfa_md (c.fact 20) F X G (fun _ _ _ _ _ _ us hl => match us, hl with | [_, _], _ => rfl)
  m_State__names := by
    obtain ⟨fd, F⟩ := c.def_ 18 (d := hD_m_State__names) rfl
    exact nfa_md (c.fact 21) F X G (fun _ _ _ _ _ _ us hl => match us, hl with | [_], _ => rfl)
  m_State__plain := by
    obtain ⟨fd, F⟩ := c.def_ 19 (d := hD_m_State__plain) rfl
    exact nfa_md (c.fact 22) F X G (fun _ _ _ _ _ _ us hl => match us, hl with | [_], _ => rfl)
  v_State := nfa_eo2 (c.fact 23) X G
  u_State := nfa_eo3 (c.fact 24) X G
  t_State := nfa_eo4 (c.fact 25) X G
  n_State__table := nfa_na (c.fact 26) X G
  c_LETTERS := nfa_cs (c.fact 27) X G
  c_MOST_NAMES := nfa_ci (c.fact 28) X G
  b_all := nfa_free (c.fact 29) X G
  b_bool := nfa_free (c.fact 30) X G
  b_dict := nfa_free (c.fact 31) X G
  b_int := nfa_free (c.fact 32) X G
  b_isinstance := nfa_free (c.fact 33) X G
  b_len := nfa_free (c.fact 34) X G
  b_list := nfa_free (c.fact 35) X G
  b_range := nfa_free (c.fact 36) X G
  b_repr := nfa_free (c.fact 37) X G
  b_sorted := nfa_free (c.fact 38) X G
  b_str := nfa_free (c.fact 39) X G
theorem hFin {P : Program} {w : World} {K : PySem.W.Frag} {mg : Str → Option Value} {fa : Addr} (hfa : mg "law" = some (.ref fa)) (T : Txt K mg) : ∃ fd : FuncData, (∀ (s : Shared) (v : Value), BindsTo s fd ⟨[v], []⟩ [("script", v)]) ∧ ∀ base : Heap, K.In base → base.Ns mainGlobals mg → FnOk P w K mg base CX0 6 fa fd ["script"] (spLaw K) :=
  law_end hfa T.d_law (fun _ _ _ _ _ _ _ => rfl) (fun base f fd F => ok_law F T)
end Nk
open PySem PySem.W PySem.Calls PyProof.Rows
set_option maxHeartbeats 0 in
theorem PySem.Challenge.cw_nightkeep_k40_states_holds : PySem.Challenge.rw_nightkeep_k40_states.Holds := by
  w_on; o_law
  refine HandSHeadRun.head_any (r := (PySem.W.OpenLaw.row PySem.Challenge.rw_nightkeep_k40_states)) (q := view (PySem.W.OpenLaw.row PySem.Challenge.rw_nightkeep_k40_states).prog [20]) (H := Nk.hHk) (ob := Nk.hOb) (M := 14000) (loose := Nk.hNm) (d := HandSHeadRun.topDef (PySem.W.OpenLaw.row PySem.Challenge.rw_nightkeep_k40_states).prog 20) (kwd := []) Nk.hOb_eq (by kernel_rfl) (fun s => by kernel_rfl) Nk.hRunQ (by kernel_rfl) (by kernel_rfl) (by kernel_rfl) (by rfl) (by first | assumption | decide +kernel) (by decide +kernel) ⟨rfl, rfl, rfl, rfl, rfl, by decide +kernel⟩ ?hw ?hc
  case hw => w_witness2
  case hc =>
    refine L2.walk_ofE (l := PySem.Challenge.rw_nightkeep_k40_states) (n := 63) (k := 6) (x := "script") (CX := L2.CX0) rfl (by decide) (by kernel_rfl) ⟨rfl, by decide, by decide⟩ ?F (fun _ _ _ _ z => z)
    intro w mg fa h Y G hmg0
    obtain ⟨K, KX, c⟩ := Y
    have hmg : mg ("law" : PySem.Str) = some (.ref fa) := by
      have e : (HandSHeadRun.topDef (PySem.W.OpenLaw.row PySem.Challenge.rw_nightkeep_k40_states).prog 20).name = ("law" : PySem.Str) := by kernel_rfl
      rw [← e]
      exact hmg0
    obtain ⟨fd, hb, hF⟩ := Nk.hFin (P := (PySem.Challenge.rw_nightkeep_k40_states).prog) (w := w) hmg (Nk.hTxt KX G c)
    exact ⟨K, fd, Nk.spLaw K, KX, hb, fun H a ns hl _ hS => ⟨a, ns, rfl, hS, hl, fun _ => rfl⟩, hF⟩
