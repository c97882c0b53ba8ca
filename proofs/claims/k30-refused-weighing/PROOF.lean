import PyProof.Rows.All
import Wide.All
import OpenK.AllK
import Wide.FinOn
import HandS.ForMost
import HandS.ForExc
import HandS.IsInst
import HandS.Wide
import HandS.SortInts
import HandS.Zip
import HandS.Walk
import HandS.Evl
import HandS.More
import HandS.Conv
import HandS.ExcIs
import HandS.ExcField
import HandS.ExcInit
import HandS.Sort
import HandS.SetFor
import HandS.TupMul
import HandS.Strs
import HandS.Deep
import HandS.Defaults
import HandS.MakeKw
import HandS.Style
import PyProof.Rows.SortShellAny
import HandS.DeepEq
import HandS.TupSets
import KE.KDictDisplayH
import KE.KEqNest
import KE.KDictSum
import KE.KTupSum
import KE.KExcIs
import KE.KExcInit
import HandS.SortKw
import HandS.Head2
import HandS.HeadHook2
import HandS.HeadEnd
import HandS.DictTup
import KE.KDictZip
import KE.KeyNested
import KE.DatumOrd
import HandS.Zip
import HandS.TupAny
import PySem.Challenge.RW_nightkeep_k30_refused_weighing
set_option Elab.async false
set_option linter.all false
set_option maxRecDepth 100000
set_option maxHeartbeats 4000000
/-! ### rounds: plain mathematics -/
namespace Nk
def pre (rs : List Int) (j : Nat) : Int := (rs.take j).sum
def walkR : List Int → Int → Int → Int
  | [], _, found => found
  | r :: rs, left, found => if left < r then found else walkR rs (left - r) (found + 1)
def numOf (rs : List Int) (n : Int) : Int := walkR rs (n % rs.sum) (n / rs.sum * rs.length)
def firstOf (rs : List Int) (k : Int) : Int := k / rs.length * rs.sum + pre rs (k % rs.length).toNat
/-- lengths: at least one, each at least 1 -/
structure Rnds (rs : List Int) : Prop where
  ne : rs ≠ []
  pos : ∀ r ∈ rs, 1 ≤ r
theorem pre_zero (rs : List Int) : pre rs 0 = 0 := by simp [pre]
theorem pre_cons (r : Int) (rs : List Int) (j : Nat) : pre (r :: rs) (j + 1) = r + pre rs j := by simp [pre]
theorem pre_len (rs : List Int) : pre rs rs.length = rs.sum := by simp [pre]
theorem pre_step : ∀ {rs : List Int} {j : Nat} {r : Int}, rs[j]? = some r → pre rs (j + 1) = pre rs j + r
  | [], _, _, h => by simp at h
  | a :: rs, 0, r, h => by
    have e : a = r := by simpa using h
    subst e
    rw [pre_cons, pre_zero, pre_zero]; omega
  | a :: rs, j + 1, r, h => by
    have ih := pre_step (rs := rs) (j := j) (r := r) (by simpa using h)
    rw [pre_cons, pre_cons, ih]; omega
theorem pre_mono {rs : List Int} (hp : ∀ r ∈ rs, 1 ≤ r) : ∀ {i j : Nat}, i ≤ j → j ≤ rs.length → pre rs i + ((j : Int) - (i : Int)) ≤ pre rs j := by
  intro i j hij hj
  induction j with
  | zero =>
    have : i = 0 := by omega
    subst this; simp
  | succ j ih =>
    by_cases h : i = j + 1
    · subst h; simp
    · have h1 := ih (by omega) (by omega)
      have hlt : j < rs.length := by omega
      have e := pre_step (List.getElem?_eq_getElem hlt)
      have p := hp _ (List.getElem_mem hlt)
      rw [e]
      omega
theorem pre_nonneg {rs : List Int} (hp : ∀ r ∈ rs, 1 ≤ r) {j : Nat} (hj : j ≤ rs.length) : (j : Int) ≤ pre rs j := by
  have := pre_mono hp (Nat.zero_le j) hj
  rw [pre_zero] at this
  omega
theorem sum_ge {rs : List Int} (hp : ∀ r ∈ rs, 1 ≤ r) : (rs.length : Int) ≤ rs.sum := by
  have := pre_nonneg hp (Nat.le_refl rs.length)
  rw [pre_len] at this
  exact this
theorem Rnds.len {rs : List Int} (h : Rnds rs) : 0 < rs.length := List.length_pos_iff.mpr h.ne
theorem Rnds.sum {rs : List Int} (h : Rnds rs) : 0 < rs.sum := by
  have := sum_ge h.pos
  have := h.len
  omega
theorem walkR_spec : ∀ (rs : List Int) (left found : Int), 0 ≤ left → left < rs.sum → ∃ j : Nat, j < rs.length ∧ walkR rs left found = found + j ∧ pre rs j ≤ left ∧ left < pre rs (j + 1)
  | [], left, found, h0, h1 => by simp at h1; omega
  | r :: rs, left, found, h0, h1 => by
    unfold walkR
    by_cases c : left < r
    · refine ⟨0, by simp, by simp [c], ?_, ?_⟩
      · rw [pre_zero]; exact h0
      · rw [pre_cons, pre_zero]; omega
    · rw [if_neg c]
      obtain ⟨j, hj, e, h2, h3⟩ := walkR_spec rs (left - r) (found + 1) (by omega) (by rw [List.sum_cons] at h1; omega)
      refine ⟨j + 1, by simp; omega, ?_, ?_, ?_⟩
      · rw [e]; push_cast; omega
      · rw [pre_cons]; omega
      · rw [pre_cons]; omega
theorem pre_uniq {rs : List Int} (hp : ∀ r ∈ rs, 1 ≤ r) {i j : Nat} (hi : i < rs.length) (hj : j < rs.length) {x : Int} (h1 : pre rs i ≤ x) (h2 : x < pre rs (i + 1)) (h3 : pre rs j ≤ x) (h4 : x < pre rs (j + 1)) : i = j := by
  by_cases h : i < j
  · have := pre_mono hp (i := i + 1) (j := j) (by omega) (by omega)
    omega
  · by_cases h' : j < i
    · have := pre_mono hp (i := j + 1) (j := i) (by omega) (by omega)
      omega
    · omega
theorem emod_nat {k : Int} {n : Nat} (h : 0 < n) : ∃ j : Nat, j < n ∧ k % (n : Int) = (j : Int) ∧ (j : Int) + (n : Int) * (k / (n : Int)) = k := by
  have h0 := Int.emod_nonneg k (show (n : Int) ≠ 0 by omega)
  have h1 := Int.emod_lt_of_pos k (show (0 : Int) < n by omega)
  have h2 := Int.emod_add_mul_ediv k (n : Int)
  exact ⟨(k % n).toNat, by omega, by omega, by omega⟩
/-- a round, by its place in the turn -/
theorem firstOf_at {rs : List Int} (h : Rnds rs) (q : Int) {j : Nat} (hj : j ≤ rs.length) : firstOf rs (q * rs.length + j) = q * rs.sum + pre rs j := by
  have hl := h.len
  unfold firstOf
  by_cases e : j = rs.length
  · have h1 : (q * (rs.length : Int) + (j : Int)) / (rs.length : Int) = q + 1 ∧ (q * (rs.length : Int) + (j : Int)) % (rs.length : Int) = 0 := by
      rw [Int.ediv_emod_unique (by omega)]
      refine ⟨?_, by omega, by omega⟩
      rw [e, Int.mul_add, Int.mul_comm q]; omega
    rw [h1.1, h1.2, e, pre_len]
    show (q + 1) * rs.sum + pre rs (Int.toNat 0) = _
    rw [show Int.toNat 0 = 0 from rfl, pre_zero, Int.add_mul]
    omega
  · have h1 : (q * (rs.length : Int) + (j : Int)) / (rs.length : Int) = q ∧ (q * (rs.length : Int) + (j : Int)) % (rs.length : Int) = (j : Int) := by
      rw [Int.ediv_emod_unique (by omega)]
      refine ⟨?_, by omega, by omega⟩
      rw [Int.mul_comm q]; omega
    rw [h1.1, h1.2]
    simp
theorem firstOf_step {rs : List Int} (h : Rnds rs) (k : Int) {r : Int} (hr : rs[(k % rs.length).toNat]? = some r) : firstOf rs (k + 1) = firstOf rs k + r := by
  obtain ⟨j, hj, e, f⟩ := emod_nat (k := k) h.len
  rw [e] at hr
  have hr' : rs[j]? = some r := by simpa using hr
  have e1 : k = (k / rs.length) * rs.length + j := by rw [Int.mul_comm]; omega
  have a1 := firstOf_at h (k / rs.length) (Nat.le_of_lt hj)
  have a2 := firstOf_at h (k / rs.length) (Nat.succ_le_of_lt hj)
  rw [← e1] at a1
  have e2 : k / (rs.length : Int) * (rs.length : Int) + ((Nat.succ j : Nat) : Int) = k + 1 := by push_cast; omega
  rw [e2] at a2
  rw [a1, a2]
  show _ + pre rs (j + 1) = _
  rw [pre_step hr']
  omega
theorem get_round {rs : List Int} (h : Rnds rs) (k : Int) : ∃ r, rs[(k % rs.length).toNat]? = some r ∧ 1 ≤ r ∧ r ∈ rs := by
  obtain ⟨j, hj, e, f⟩ := emod_nat (k := k) h.len
  refine ⟨rs[j], ?_, h.pos _ (List.getElem_mem hj), List.getElem_mem hj⟩
  rw [e]
  simpa using List.getElem?_eq_getElem hj
theorem firstOf_lt {rs : List Int} (h : Rnds rs) (k : Int) : firstOf rs k + 1 ≤ firstOf rs (k + 1) := by
  obtain ⟨r, h1, h2, _⟩ := get_round h k
  rw [firstOf_step h k h1]
  omega
theorem firstOf_zero {rs : List Int} (h : Rnds rs) : firstOf rs 0 = 0 := by
  have := firstOf_at h 0 (Nat.zero_le rs.length)
  simp [pre_zero] at this
  exact this
/-- a night between a round's ends lies in it -/
theorem numOf_of {rs : List Int} (h : Rnds rs) {k m : Int} (h1 : firstOf rs k ≤ m) (h2 : m < firstOf rs (k + 1)) : numOf rs m = k := by
  obtain ⟨j, hj, e, f⟩ := emod_nat (k := k) h.len
  have e1 : k = (k / rs.length) * rs.length + j := by rw [Int.mul_comm]; omega
  have a1 := firstOf_at h (k / rs.length) (Nat.le_of_lt hj)
  have a2 := firstOf_at h (k / rs.length) (Nat.succ_le_of_lt hj)
  rw [← e1] at a1
  have e2 : k / (rs.length : Int) * (rs.length : Int) + ((Nat.succ j : Nat) : Int) = k + 1 := by push_cast; omega
  rw [e2] at a2
  rw [a1] at h1
  rw [a2] at h2
  have b0 := pre_nonneg h.pos (Nat.le_of_lt hj)
  have b1 := pre_mono h.pos (i := j + 1) (j := rs.length) (by omega) (Nat.le_refl _)
  rw [pre_len] at b1
  have h2' : m < k / (rs.length : Int) * rs.sum + pre rs (j + 1) := h2
  have h3 : m / rs.sum = k / rs.length ∧ m % rs.sum = m - (k / rs.length) * rs.sum := by
    rw [Int.ediv_emod_unique h.sum]
    refine ⟨by rw [Int.mul_comm rs.sum]; omega, by omega, by omega⟩
  unfold numOf
  rw [h3.1, h3.2]
  obtain ⟨i, hi, w, p1, p2⟩ := walkR_spec rs (m - k / ↑rs.length * rs.sum) (k / ↑rs.length * ↑rs.length) (by omega) (by omega)
  rw [w]
  have : i = j := pre_uniq h.pos hi hj p1 p2 (by omega) (by omega)
  subst this
  omega
/-- each night lies between the ends of its round -/
theorem numOf_spec {rs : List Int} (h : Rnds rs) (m : Int) : firstOf rs (numOf rs m) ≤ m ∧ m < firstOf rs (numOf rs m + 1) := by
  have hs := h.sum
  obtain ⟨i, hi, w, p1, p2⟩ := walkR_spec rs (m % rs.sum) (m / rs.sum * rs.length) (Int.emod_nonneg m (by omega)) (Int.emod_lt_of_pos m hs)
  have hm := Int.emod_add_mul_ediv m rs.sum
  have e : numOf rs m = m / rs.sum * rs.length + i := w
  have a1 := firstOf_at h (m / rs.sum) (Nat.le_of_lt hi)
  have a2 := firstOf_at h (m / rs.sum) (Nat.succ_le_of_lt hi)
  have e2 : m / rs.sum * (rs.length : Int) + ((Nat.succ i : Nat) : Int) = numOf rs m + 1 := by rw [e]; push_cast; omega
  rw [← e] at a1
  rw [e2] at a2
  rw [a1, a2]
  have c := Int.mul_comm rs.sum (m / rs.sum)
  refine ⟨by omega, ?_⟩
  show m < m / rs.sum * rs.sum + pre rs (i + 1)
  omega
theorem firstOf_mono {rs : List Int} (h : Rnds rs) (i : Int) : ∀ d : Nat, firstOf rs i + d ≤ firstOf rs (i + d)
  | 0 => by simp
  | d + 1 => by
    have h1 := firstOf_mono h i d
    have h2 := firstOf_lt h (i + d)
    push_cast
    rw [Int.add_assoc i d 1] at h2
    omega
theorem firstOf_le {rs : List Int} (h : Rnds rs) {i j : Int} (hij : i ≤ j) : firstOf rs i + (j - i) ≤ firstOf rs j := by
  have := firstOf_mono h i (j - i).toNat
  rw [show i + ((j - i).toNat : Int) = j by omega] at this
  omega
theorem firstOf_pos {rs : List Int} (h : Rnds rs) {k : Int} (hk : 0 ≤ k) : k ≤ firstOf rs k := by
  have := firstOf_le h hk
  rw [firstOf_zero h] at this
  omega
theorem numOf_nonneg {rs : List Int} (h : Rnds rs) {n : Int} (hn : 0 ≤ n) : 0 ≤ numOf rs n := by
  have h2 := (numOf_spec h n).2
  by_cases c : 0 ≤ numOf rs n
  · exact c
  · have := firstOf_le h (i := numOf rs n + 1) (j := 0) (by omega)
    rw [firstOf_zero h] at this
    omega
theorem numOf_le {rs : List Int} (h : Rnds rs) {n : Int} (hn : 0 ≤ n) : numOf rs n ≤ n := by
  have h1 := (numOf_spec h n).1
  have h2 := firstOf_pos h (numOf_nonneg h hn)
  omega
/-- later nights lie in no earlier rounds -/
theorem numOf_mono {rs : List Int} (h : Rnds rs) {m n : Int} (hmn : m ≤ n) : numOf rs m ≤ numOf rs n := by
  have h1 := (numOf_spec h m).1
  have h2 := (numOf_spec h n).2
  by_cases c : numOf rs m ≤ numOf rs n
  · exact c
  · have := firstOf_le h (i := numOf rs n + 1) (j := numOf rs m) (by omega)
    omega
/-- a whole turn later -/
theorem firstOf_turn {rs : List Int} (h : Rnds rs) (k : Int) : firstOf rs (k + rs.length) = firstOf rs k + rs.sum := by
  obtain ⟨j, hj, e, f⟩ := emod_nat (k := k) h.len
  have e1 : k = (k / rs.length) * rs.length + j := by rw [Int.mul_comm]; omega
  have a1 := firstOf_at h (k / rs.length) (Nat.le_of_lt hj)
  have a2 := firstOf_at h (k / rs.length + 1) (Nat.le_of_lt hj)
  rw [← e1] at a1
  have e2 : (k / rs.length + 1) * (rs.length : Int) + (j : Int) = k + rs.length := by rw [Int.add_mul]; omega
  rw [e2] at a2
  rw [a1, a2, Int.add_mul]
  omega
theorem numOf_turn {rs : List Int} (h : Rnds rs) (n : Int) : numOf rs (n + rs.sum) = numOf rs n + rs.length := by
  obtain ⟨h1, h2⟩ := numOf_spec h n
  have a1 := firstOf_turn h (numOf rs n)
  have a2 := firstOf_turn h (numOf rs n + 1)
  refine numOf_of h (by omega) ?_
  rw [show numOf rs n + (rs.length : Int) + 1 = numOf rs n + 1 + rs.length by omega]
  omega
theorem firstOf_ge {rs : List Int} (h : Rnds rs) : ∀ k : Nat, (k : Int) ≤ firstOf rs k
  | 0 => by rw [show ((0 : Nat) : Int) = 0 from rfl, firstOf_zero h]; omega
  | k + 1 => by
    have h1 := firstOf_ge h k
    have h2 := firstOf_lt h k
    push_cast
    omega
end Nk
/-! ### what rules keep: plain mathematics -/
namespace Nk
/-- going back through nights: those whose round is another one than that of the night gone through just before -/
def endsR (rs : List Int) : Option Int → List Int → List Int
  | _, [] => []
  | ah, n :: l => if ah = some (numOf rs n) then endsR rs (some (numOf rs n)) l else n :: endsR rs (some (numOf rs n)) l
def lastN (rs : List Int) (ah : Option Int) (l : List Int) : Option Int := match l.getLast? with
  | some n => some (numOf rs n)
  | none => ah
theorem lastN_cons (rs : List Int) (ah : Option Int) (n : Int) (l : List Int) : lastN rs ah (n :: l) = lastN rs (some (numOf rs n)) l := by
  unfold lastN
  cases l with
  | nil => rfl
  | cons m r => rw [List.getLast?_cons_cons]; cases h : (m :: r).getLast? <;> simp_all
theorem endsR_snoc (rs : List Int) : ∀ (l : List Int) (ah : Option Int) (n : Int), endsR rs ah (l ++ [n]) = endsR rs ah l ++ (if lastN rs ah l = some (numOf rs n) then [] else [n])
  | [], ah, n => by
    by_cases h : ah = some (numOf rs n) <;> simp [endsR, lastN, h]
  | m :: l, ah, n => by
    rw [lastN_cons]
    simp only [List.cons_append, endsR]
    rw [endsR_snoc rs l]
    split <;> simp
theorem lastN_snoc (rs : List Int) (ah : Option Int) (l : List Int) (n : Int) : lastN rs ah (l ++ [n]) = some (numOf rs n) := by
  simp [lastN]
/-- the last nights of the rounds, rising -/
def endsF (rs : List Int) : List Int → List Int
  | [] => []
  | [n] => [n]
  | n :: m :: l => if numOf rs n = numOf rs m then endsF rs (m :: l) else n :: endsF rs (m :: l)
theorem endsF_eq (rs : List Int) : ∀ ns : List Int, endsF rs ns = (endsR rs none ns.reverse).reverse
  | [] => rfl
  | [n] => by simp [endsF, endsR]
  | n :: m :: l => by
    rw [List.reverse_cons, endsR_snoc]
    have h : lastN rs none (m :: l).reverse = some (numOf rs m) := by simp [lastN]
    rw [h, List.reverse_append, ← endsF_eq rs (m :: l)]
    simp only [endsF, Option.some.injEq]
    by_cases e : numOf rs n = numOf rs m
    · rw [if_pos e, if_pos e.symm]; rfl
    · rw [if_neg e, if_neg (fun z => e z.symm)]; rfl
/-- what one rule keeps, the last one first -/
def keptBy (ru : List Int × Int) (ns : List Int) : List Int := (endsR ru.1 none ns.reverse).take ru.2.toNat
/-- .. rising -/
def keptUp (ru : List Int × Int) (ns : List Int) : List Int := (endsF ru.1 ns).drop ((endsF ru.1 ns).length - ru.2.toNat)
theorem keptUp_eq (ru : List Int × Int) (ns : List Int) : keptUp ru ns = (keptBy ru ns).reverse := by
  unfold keptUp keptBy
  rw [endsF_eq, List.length_reverse, List.reverse_take]
theorem endsR_sub (rs : List Int) : ∀ (l : List Int) (ah : Option Int), ∀ n ∈ endsR rs ah l, n ∈ l
  | [], _, n, h => by simp [endsR] at h
  | m :: l, ah, n, h => by
    simp only [endsR] at h
    split at h
    · exact List.mem_cons_of_mem _ (endsR_sub rs l _ n h)
    · rcases List.mem_cons.mp h with e | h
      · rw [e]; exact List.mem_cons_self
      · exact List.mem_cons_of_mem _ (endsR_sub rs l _ n h)
theorem keptBy_sub {ru : List Int × Int} {ns : List Int} {n : Int} (h : n ∈ keptBy ru ns) : n ∈ ns := by
  have := endsR_sub ru.1 _ _ n (List.mem_of_mem_take h)
  simpa using this
theorem mem_keptUp {ru : List Int × Int} {ns : List Int} {n : Int} : n ∈ keptUp ru ns ↔ n ∈ keptBy ru ns := by
  rw [keptUp_eq, List.mem_reverse]
/-- what rules keep, rising -/
def keptF (rules : List (List Int × Int)) (ns : List Int) : List Int := ns.filter fun n => rules.any fun ru => decide (n ∈ keptBy ru ns)
theorem mem_keptF {rules : List (List Int × Int)} {ns : List Int} {n : Int} : n ∈ keptF rules ns ↔ ∃ ru ∈ rules, n ∈ keptBy ru ns := by
  unfold keptF
  rw [List.mem_filter, List.any_eq_true]
  constructor
  · rintro ⟨_, ru, h1, h2⟩
    exact ⟨ru, h1, of_decide_eq_true h2⟩
  · rintro ⟨ru, h1, h2⟩
    exact ⟨keptBy_sub h2, ru, h1, decide_eq_true h2⟩
theorem keptF_rise {rules : List (List Int × Int)} {ns : List Int} (h : ns.Pairwise (· < ·)) : (keptF rules ns).Pairwise (· < ·) := h.filter _
/-- two rising lists with the same members are one -/
theorem rise_ext : ∀ {l m : List Int}, l.Pairwise (· < ·) → m.Pairwise (· < ·) → (∀ x, x ∈ l ↔ x ∈ m) → l = m
  | [], [], _, _, _ => rfl
  | [], y :: m, _, _, h => absurd ((h y).mpr List.mem_cons_self) (by simp)
  | x :: l, [], _, _, h => absurd ((h x).mp List.mem_cons_self) (by simp)
  | x :: l, y :: m, hl, hm, h => by
    obtain ⟨hx, hl'⟩ := List.pairwise_cons.mp hl
    obtain ⟨hy, hm'⟩ := List.pairwise_cons.mp hm
    have e : x = y := by
      rcases List.mem_cons.mp ((h x).mp List.mem_cons_self) with e | h1
      · exact e
      · rcases List.mem_cons.mp ((h y).mpr List.mem_cons_self) with e | h2
        · exact e.symm
        · have a := hx y h2
          have b := hy x h1
          omega
    subst e
    have : l = m := rise_ext hl' hm' fun z => by
      constructor
      · intro hz
        have hxz := hx z hz
        rcases List.mem_cons.mp ((h z).mp (List.mem_cons_of_mem _ hz)) with e | h1
        · omega
        · exact h1
      · intro hz
        have hxz := hy z hz
        rcases List.mem_cons.mp ((h z).mpr (List.mem_cons_of_mem _ hz)) with e | h1
        · omega
        · exact h1
    rw [this]
theorem rise_of_le {l : List Int} (h : l.Pairwise (· ≤ ·)) (nd : l.Nodup) : l.Pairwise (· < ·) := by
  have := h.and nd
  exact this.imp fun {a b} ⟨h1, h2⟩ => by omega
theorem take_prefix {α : Type} {l : List α} {p : List α} {k : Nat} (h : ∃ t, l = p ++ t) (hp : p.length = k) : p = l.take k := by
  obtain ⟨t, rfl⟩ := h
  subst hp
  simp
theorem endsR_pre (rs : List Int) (ah : Option Int) : ∀ (t l : List Int), ∃ u, endsR rs ah (l ++ t) = endsR rs ah l ++ u
  | [], l => ⟨[], by simp⟩
  | x :: t, l => by
    obtain ⟨u, hu⟩ := endsR_pre rs ah t (l ++ [x])
    rw [List.append_assoc, List.singleton_append] at hu
    rw [hu, endsR_snoc, List.append_assoc]
    exact ⟨_, rfl⟩
end Nk
/-! ### each night has a copy: plain mathematics -/
namespace Nk
theorem endsF_sublist (rs : List Int) : ∀ ns : List Int, (endsF rs ns).Sublist ns
  | [] => .slnil
  | [n] => List.Sublist.refl _
  | n :: m :: l => by
    have ih := endsF_sublist rs (m :: l)
    simp only [endsF]
    split
    · exact ih.cons n
    · exact ih.cons₂ n
theorem endsF_rise {rs ns : List Int} (h : ns.Pairwise (· < ·)) : (endsF rs ns).Pairwise (· < ·) := h.sublist (endsF_sublist rs ns)
/-- the last of its round -/
theorem mem_endsF {rs : List Int} (h : Rnds rs) : ∀ ns : List Int, ns.Pairwise (· < ·) → ∀ m, m ∈ endsF rs ns ↔ m ∈ ns ∧ ∀ m' ∈ ns, m < m' → numOf rs m < numOf rs m'
  | [], _, m => by simp [endsF]
  | [n], _, m => by
    simp only [endsF, List.mem_singleton]
    constructor
    · rintro rfl
      exact ⟨rfl, fun m' e h => by omega⟩
    · exact fun z => z.1
  | n :: k :: l, hp, m => by
    obtain ⟨hn, hp'⟩ := List.pairwise_cons.mp hp
    have ih := mem_endsF h (k :: l) hp' m
    have hk : n < k := hn k List.mem_cons_self
    have hmono : ∀ x ∈ k :: l, numOf rs k ≤ numOf rs x := fun x hx => by
      rcases List.mem_cons.mp hx with rfl | hx
      · omega
      · have := (List.pairwise_cons.mp hp').1 x hx
        exact numOf_mono h (by omega)
    have hnk := numOf_mono h (show n ≤ k by omega)
    simp only [endsF]
    split
    · rename_i e
      rw [ih]
      constructor
      · rintro ⟨h1, h2⟩
        refine ⟨List.mem_cons_of_mem _ h1, fun m' hm' hlt => ?_⟩
        rcases List.mem_cons.mp hm' with rfl | hm'
        · have := hn m h1
          omega
        · exact h2 m' hm' hlt
      · rintro ⟨h1, h2⟩
        rcases List.mem_cons.mp h1 with rfl | h1
        · have := h2 k (by simp) hk
          omega
        · exact ⟨h1, fun m' hm' => h2 m' (List.mem_cons_of_mem _ hm')⟩
    · rename_i e
      rw [List.mem_cons, ih]
      constructor
      · rintro (rfl | ⟨h1, h2⟩)
        · refine ⟨List.mem_cons_self, fun m' hm' hlt => ?_⟩
          rcases List.mem_cons.mp hm' with rfl | hm'
          · omega
          · have := hmono m' hm'
            omega
        · refine ⟨List.mem_cons_of_mem _ h1, fun m' hm' hlt => ?_⟩
          rcases List.mem_cons.mp hm' with rfl | hm'
          · have := hn m h1
            omega
          · exact h2 m' hm' hlt
      · rintro ⟨h1, h2⟩
        rcases List.mem_cons.mp h1 with rfl | h1
        · exact .inl rfl
        · exact .inr ⟨h1, fun m' hm' => h2 m' (List.mem_cons_of_mem _ hm')⟩
/-- the nights from 0 to n -/
def upTo (n : Int) : List Int := (List.range (n + 1).toNat).map fun i : Nat => (i : Int)
theorem mem_upTo {n m : Int} : m ∈ upTo n ↔ 0 ≤ m ∧ m ≤ n := by
  unfold upTo
  rw [List.mem_map]
  constructor
  · rintro ⟨i, hi, rfl⟩
    have := List.mem_range.mp hi
    omega
  · intro h
    exact ⟨m.toNat, List.mem_range.mpr (by omega), by omega⟩
theorem rise_range_map (f : Nat → Int) (hf : ∀ i j, i < j → f i < f j) (n : Nat) : ((List.range n).map f).Pairwise (· < ·) := by
  rw [List.pairwise_map]
  exact (List.pairwise_lt_range (n := n)).imp fun {a b} h => hf a b h
theorem upTo_rise (n : Int) : (upTo n).Pairwise (· < ·) := rise_range_map (fun i : Nat => (i : Int)) (fun i j h => by omega) _
theorem upTo_len (n : Int) : (upTo n).length = (n + 1).toNat := by simp [upTo]
/-- the last nights of all rounds up to that of n, and n -/
def expl (rs : List Int) (n : Int) : List Int := ((List.range (numOf rs n).toNat).map fun k : Nat => firstOf rs ((k : Int) + 1) - 1) ++ [n]
theorem expl_rise {rs : List Int} (h : Rnds rs) {n : Int} (hn : 0 ≤ n) : (expl rs n).Pairwise (· < ·) := by
  have hN := numOf_nonneg h hn
  refine List.pairwise_append.mpr ⟨rise_range_map _ (fun i j hij => ?_) _, List.pairwise_singleton _ _, fun x hx y hy => ?_⟩
  · have := firstOf_le h (i := (i : Int) + 1) (j := (j : Int) + 1) (by omega)
    omega
  · rw [List.mem_singleton.mp hy]
    obtain ⟨k, hk, rfl⟩ := List.mem_map.mp hx
    have hk := List.mem_range.mp hk
    have := firstOf_le h (i := (k : Int) + 1) (j := numOf rs n) (by omega)
    have := (numOf_spec h n).1
    omega
theorem endsF_upTo {rs : List Int} (h : Rnds rs) {n : Int} (hn : 0 ≤ n) : endsF rs (upTo n) = expl rs n := by
  have hN := numOf_nonneg h hn
  obtain ⟨hf1, hf2⟩ := numOf_spec h n
  refine rise_ext (endsF_rise (upTo_rise n)) (expl_rise h hn) fun m => ?_
  rw [mem_endsF h _ (upTo_rise n)]
  unfold expl
  rw [List.mem_append, List.mem_singleton, List.mem_map]
  constructor
  · rintro ⟨h1, h2⟩
    obtain ⟨m0, m1⟩ := mem_upTo.mp h1
    by_cases c : m = n
    · exact .inr c
    · left
      have h3 := h2 (m + 1) (mem_upTo.mpr ⟨by omega, by omega⟩) (by omega)
      obtain ⟨g1, g2⟩ := numOf_spec h m
      have hm0 := numOf_nonneg h m0
      have h4 : firstOf rs (numOf rs m + 1) = m + 1 := by
        by_cases c2 : m + 1 < firstOf rs (numOf rs m + 1)
        · have := numOf_of h (k := numOf rs m) (m := m + 1) (by omega) c2
          omega
        · omega
      have h5 := numOf_mono h (show m + 1 ≤ n by omega)
      refine ⟨(numOf rs m).toNat, List.mem_range.mpr (by omega), ?_⟩
      rw [show ((numOf rs m).toNat : Int) = numOf rs m by omega, h4]
      omega
  · rintro (⟨k, hk, rfl⟩ | rfl)
    · have hk := List.mem_range.mp hk
      have a1 := firstOf_pos h (show 0 ≤ (k : Int) + 1 by omega)
      have a2 := firstOf_le h (i := (k : Int) + 1) (j := numOf rs n) (by omega)
      have a3 := firstOf_lt h (k : Int)
      have b1 : numOf rs (firstOf rs ((k : Int) + 1) - 1) = k := numOf_of h (by omega) (by omega)
      have b2 : numOf rs (firstOf rs ((k : Int) + 1)) = (k : Int) + 1 := numOf_of h (by omega) (by have := firstOf_lt h ((k : Int) + 1); omega)
      refine ⟨mem_upTo.mpr ⟨by omega, by omega⟩, fun m' _ hlt => ?_⟩
      have := numOf_mono h (show firstOf rs ((k : Int) + 1) ≤ m' by omega)
      omega
    · refine ⟨mem_upTo.mpr ⟨hn, by omega⟩, fun m' hm' hlt => ?_⟩
      have := mem_upTo.mp hm'
      omega
theorem mem_drop_range {n d k : Nat} : k ∈ (List.range n).drop d ↔ d ≤ k ∧ k < n := by
  rw [List.mem_iff_getElem?]
  constructor
  · rintro ⟨i, hi⟩
    rw [List.getElem?_drop] at hi
    obtain ⟨h1, h2⟩ := List.getElem?_eq_some_iff.mp hi
    simp at h1 h2
    omega
  · rintro ⟨h1, h2⟩
    refine ⟨k - d, ?_⟩
    rw [List.getElem?_drop, show d + (k - d) = k by omega]
    simp [h2]
/-- what stands at night n, if each night has a copy, by one rule -/
def standBy (ru : List Int × Int) (n m : Int) : Prop := m = n ∨ ∃ k : Int, 0 ≤ k ∧ numOf ru.1 n - ru.2 + 1 ≤ k ∧ k < numOf ru.1 n ∧ m = firstOf ru.1 (k + 1) - 1
theorem mem_keptUp_upTo {ru : List Int × Int} (h : Rnds ru.1) (hm : 1 ≤ ru.2) {n : Int} (hn : 0 ≤ n) (m : Int) : m ∈ keptUp ru (upTo n) ↔ standBy ru n m := by
  have hN := numOf_nonneg h hn
  unfold keptUp standBy
  rw [endsF_upTo h hn]
  have hlen : (expl ru.1 n).length = (numOf ru.1 n).toNat + 1 := by simp [expl]
  rw [hlen]
  unfold expl
  rw [List.drop_append_of_le_length (by simp; omega), List.mem_append, List.mem_singleton, ← List.map_drop, List.mem_map]
  constructor
  · rintro (⟨k, hk, rfl⟩ | rfl)
    · obtain ⟨k1, k2⟩ := mem_drop_range.mp hk
      exact .inr ⟨k, by omega, by omega, by omega, rfl⟩
    · exact .inl rfl
  · rintro (rfl | ⟨k, k0, k1, k2, rfl⟩)
    · exact .inr rfl
    · refine .inl ⟨k.toNat, mem_drop_range.mpr ⟨by omega, by omega⟩, ?_⟩
      rw [show (k.toNat : Int) = k by omega]
def standS (rus : List (List Int × Int)) (n m : Int) : Prop := m = n ∨ ∃ ru ∈ rus, ∃ k : Int, 0 ≤ k ∧ numOf ru.1 n - ru.2 + 1 ≤ k ∧ k < numOf ru.1 n ∧ m = firstOf ru.1 (k + 1) - 1
theorem mem_keptF_upTo {rus : List (List Int × Int)} (h : ∀ ru ∈ rus, Rnds ru.1 ∧ 1 ≤ ru.2) (hne : rus ≠ []) {n : Int} (hn : 0 ≤ n) (m : Int) : m ∈ keptF rus (upTo n) ↔ standS rus n m := by
  rw [mem_keptF]
  unfold standS
  constructor
  · rintro ⟨ru, h1, h2⟩
    rcases (mem_keptUp_upTo (h ru h1).1 (h ru h1).2 hn m).mp (mem_keptUp.mpr h2) with h3 | h3
    · exact .inl h3
    · exact .inr ⟨ru, h1, h3⟩
  · rintro (h1 | ⟨ru, h1, h3⟩)
    · obtain ⟨ru, hru⟩ := List.exists_mem_of_ne_nil rus hne
      exact ⟨ru, hru, mem_keptUp.mp ((mem_keptUp_upTo (h ru hru).1 (h ru hru).2 hn m).mpr (.inl h1))⟩
    · exact ⟨ru, h1, mem_keptUp.mp ((mem_keptUp_upTo (h ru h1).1 (h ru h1).2 hn m).mpr (.inr h3))⟩
/-- differences of neighbours -/
def diffsOf : List Int → List Int
  | x :: y :: r => (y - x) :: diffsOf (y :: r)
  | _ => []
theorem diffsOf_get : ∀ (l : List Int) (i : Nat) {x y : Int}, l[i]? = some x → l[i + 1]? = some y → (diffsOf l)[i]? = some (y - x)
  | [], _, _, _, h, _ => by simp at h
  | [_], 0, _, _, _, h => by simp at h
  | [_], i + 1, _, _, h, _ => by simp at h
  | a :: b :: r, 0, x, y, h, h2 => by
    have e1 : a = x := by simpa using h
    have e2 : b = y := by simpa using h2
    rw [← e1, ← e2]; rfl
  | a :: b :: r, i + 1, x, y, h, h2 => by
    have := diffsOf_get (b :: r) i (x := x) (y := y) (by simpa using h) (by simpa using h2)
    simpa [diffsOf] using this
theorem diffsOf_len : ∀ l : List Int, (diffsOf l).length = l.length - 1
  | [] => rfl
  | [_] => rfl
  | x :: y :: r => by
    have := diffsOf_len (y :: r)
    simp only [diffsOf, List.length_cons] at this ⊢
    omega
/-- the greatest of some, and 0 -/
def maxZ (l : List Int) : Int := l.foldl (fun a b => max a b) 0
theorem foldl_max_ge : ∀ (l : List Int) (a : Int), a ≤ l.foldl (fun a b => max a b) a ∧ ∀ x ∈ l, x ≤ l.foldl (fun a b => max a b) a
  | [], a => by simp
  | y :: l, a => by
    obtain ⟨h1, h2⟩ := foldl_max_ge l (max a y)
    refine ⟨?_, fun x hx => ?_⟩
    · simp only [List.foldl_cons]; omega
    · simp only [List.foldl_cons]
      rcases List.mem_cons.mp hx with rfl | hx
      · omega
      · exact h2 x hx
theorem foldl_max_mem : ∀ (l : List Int) (a : Int), l.foldl (fun a b => max a b) a = a ∨ l.foldl (fun a b => max a b) a ∈ l
  | [], a => .inl rfl
  | y :: l, a => by
    simp only [List.foldl_cons]
    rcases foldl_max_mem l (max a y) with h | h
    · rw [h]
      by_cases c : a ≤ y
      · right; rw [show max a y = y by omega]; exact List.mem_cons_self
      · left; omega
    · exact .inr (List.mem_cons_of_mem _ h)
theorem maxZ_of {l : List Int} {m : Int} (h1 : m ∈ l ∨ m = 0) (h2 : ∀ x ∈ l, x ≤ m) (h3 : 0 ≤ m) : m = maxZ l := by
  obtain ⟨g1, g2⟩ := foldl_max_ge l 0
  have g3 := foldl_max_mem l 0
  unfold maxZ
  rcases h1 with h1 | h1
  · have := g2 m h1
    rcases g3 with g | g
    · omega
    · have := h2 _ g
      omega
  · rcases g3 with g | g
    · omega
    · have := h2 _ g
      omega
end Nk
/-! ### what stands late; the turn: plain mathematics -/
namespace Nk
/-- going back from a night by the ends of rounds -/
def back (rs : List Int) : Nat → Int → List Int
  | 0, _ => []
  | m + 1, at_ => if at_ < 0 then [] else at_ :: back rs m (firstOf rs (numOf rs at_) - 1)
theorem back_len (rs : List Int) : ∀ (m : Nat) (n : Int), (back rs m n).length ≤ m
  | 0, _ => Nat.le_refl _
  | m + 1, n => by
    simp only [back]
    split
    · simp
    · simp only [List.length_cons]
      have := back_len rs m (firstOf rs (numOf rs n) - 1)
      omega
theorem mem_back_end {rs : List Int} (h : Rnds rs) : ∀ (m : Nat) (k0 : Int), 0 ≤ k0 → ∀ x, x ∈ back rs m (firstOf rs k0 - 1) ↔ ∃ k : Int, 0 ≤ k ∧ k0 - m ≤ k ∧ k < k0 ∧ x = firstOf rs (k + 1) - 1
  | 0, k0, _, x => by
    simp only [back, List.not_mem_nil, false_iff]
    rintro ⟨k, _, h2, h3, _⟩
    simp at h2
    omega
  | m + 1, k0, h0, x => by
    by_cases c : k0 = 0
    · subst c
      have : firstOf rs 0 - 1 < 0 := by rw [firstOf_zero h]; omega
      simp only [back, if_pos this, List.not_mem_nil, false_iff]
      rintro ⟨k, h1, _, h3, _⟩
      omega
    · have hp := firstOf_pos h h0
      have hn : numOf rs (firstOf rs k0 - 1) = k0 - 1 := by
        have h1 := firstOf_lt h (k0 - 1)
        rw [show k0 - 1 + 1 = k0 by omega] at h1
        exact numOf_of h (by omega) (by rw [show k0 - 1 + 1 = k0 by omega]; omega)
      simp only [back]
      rw [if_neg (by omega), hn, List.mem_cons, mem_back_end h m (k0 - 1) (by omega)]
      constructor
      · rintro (rfl | ⟨k, h1, h2, h3, rfl⟩)
        · exact ⟨k0 - 1, by omega, by push_cast; omega, by omega, by rw [show k0 - 1 + 1 = k0 by omega]⟩
        · exact ⟨k, h1, by push_cast; omega, by omega, rfl⟩
      · rintro ⟨k, h1, h2, h3, rfl⟩
        by_cases c2 : k = k0 - 1
        · left
          rw [c2, show k0 - 1 + 1 = k0 by omega]
        · right
          exact ⟨k, h1, by push_cast at h2; omega, by omega, rfl⟩
theorem mem_back {ru : List Int × Int} (h : Rnds ru.1) (hm : 1 ≤ ru.2) {n : Int} (hn : 0 ≤ n) (x : Int) : x ∈ back ru.1 ru.2.toNat n ↔ standBy ru n x := by
  obtain ⟨m, e⟩ : ∃ m, ru.2.toNat = m + 1 := ⟨ru.2.toNat - 1, by omega⟩
  have hN := numOf_nonneg h hn
  rw [e]
  simp only [back]
  rw [if_neg (by omega), List.mem_cons, mem_back_end h m _ hN]
  unfold standBy
  constructor
  · rintro (h1 | ⟨k, h1, h2, h3, h4⟩)
    · exact .inl h1
    · exact .inr ⟨k, h1, by omega, h3, h4⟩
  · rintro (h1 | ⟨k, h1, h2, h3, h4⟩)
    · exact .inl h1
    · exact .inr ⟨k, h1, by omega, h3, h4⟩
theorem standS_iff {rus : List (List Int × Int)} (hne : rus ≠ []) (n m : Int) : standS rus n m ↔ ∃ ru ∈ rus, standBy ru n m := by
  unfold standS standBy
  constructor
  · rintro (h | ⟨ru, h1, h2⟩)
    · obtain ⟨ru, hru⟩ := List.exists_mem_of_ne_nil rus hne
      exact ⟨ru, hru, .inl h⟩
    · exact ⟨ru, h1, .inr h2⟩
  · rintro ⟨ru, h1, h2 | h2⟩
    · exact .inl h2
    · exact .inr ⟨ru, h1, h2⟩
/-! moved by whole turns -/
theorem firstOf_turns {rs : List Int} (h : Rnds rs) (k : Int) : ∀ q : Nat, firstOf rs (k + q * rs.length) = firstOf rs k + q * rs.sum
  | 0 => by simp
  | q + 1 => by
    have ih := firstOf_turns h k q
    have e : k + ((q + 1 : Nat) : Int) * rs.length = k + q * rs.length + rs.length := by push_cast; rw [Int.add_mul]; omega
    rw [e, firstOf_turn h, ih]
    push_cast
    rw [Int.add_mul]
    omega
theorem numOf_turnsL {rs : List Int} (h : Rnds rs) (n : Int) : ∀ q : Nat, numOf rs (n + q * rs.sum) = numOf rs n + q * rs.length
  | 0 => by simp
  | q + 1 => by
    have ih := numOf_turnsL h n q
    have e : n + ((q + 1 : Nat) : Int) * rs.sum = n + q * rs.sum + rs.sum := by push_cast; rw [Int.add_mul]; omega
    rw [e, numOf_turn h, ih]
    push_cast
    rw [Int.add_mul]
    omega
theorem firstOf_upper {rs : List Int} (h : Rnds rs) (h31 : ∀ r ∈ rs, r ≤ 31) : ∀ k : Nat, firstOf rs k ≤ 31 * k
  | 0 => by rw [show ((0 : Nat) : Int) = 0 from rfl, firstOf_zero h]; omega
  | k + 1 => by
    have ih := firstOf_upper h h31 k
    obtain ⟨r, h1, h2, h3⟩ := get_round h (k : Int)
    have := firstOf_step h (k : Int) h1
    have := h31 r h3
    push_cast
    omega
theorem late_num {ru : List Int × Int} (h : Rnds ru.1) (h31 : ∀ r ∈ ru.1, r ≤ 31) (hm : ru.2 ≤ 20) {n : Int} (hn : 700 ≤ n) : ru.2 - 1 ≤ numOf ru.1 n := by
  have h0 := numOf_nonneg h (show 0 ≤ n by omega)
  have h1 := (numOf_spec h n).2
  have h2 := firstOf_upper h h31 (numOf ru.1 n + 1).toNat
  rw [show ((numOf ru.1 n + 1).toNat : Int) = numOf ru.1 n + 1 by omega] at h2
  omega
theorem standBy_moveG {ru : List Int × Int} (h : Rnds ru.1) {n far : Int} (hl : ru.2 - 1 ≤ numOf ru.1 n) (h0 : 0 ≤ far) (hd : ru.1.sum ∣ far) (x : Int) : standBy ru (n + far) (x + far) ↔ standBy ru n x := by
  obtain ⟨q, rfl⟩ := hd
  have hq : 0 ≤ q := by
    by_cases c : 0 ≤ q
    · exact c
    · have := Int.mul_neg_of_pos_of_neg h.sum (show q < 0 by omega)
      omega
  obtain ⟨q, rfl⟩ : ∃ j : Nat, q = (j : Int) := ⟨q.toNat, by omega⟩
  have e1 := numOf_turnsL h n q
  rw [Int.mul_comm] at e1
  have hll : (0 : Int) ≤ q * ru.1.length := Int.mul_nonneg (by omega) (by omega)
  unfold standBy
  rw [e1]
  constructor
  · rintro (h1 | ⟨k, k0, k1, k2, k3⟩)
    · exact .inl (by omega)
    · right
      refine ⟨k - q * ru.1.length, by omega, by omega, by omega, ?_⟩
      have e2 := firstOf_turns h (k - q * ru.1.length + 1) q
      rw [show k - ↑q * ↑ru.1.length + 1 + ↑q * ↑ru.1.length = k + 1 by omega] at e2
      rw [Int.mul_comm] at k3
      omega
  · rintro (h1 | ⟨k, k0, k1, k2, k3⟩)
    · exact .inl (by omega)
    · right
      refine ⟨k + q * ru.1.length, by omega, by omega, by omega, ?_⟩
      have e2 := firstOf_turns h (k + 1) q
      rw [show k + 1 + ↑q * (ru.1.length : Int) = k + ↑q * ↑ru.1.length + 1 by omega] at e2
      rw [Int.mul_comm ru.1.sum]
      omega
theorem standBy_move {ru : List Int × Int} (h : Rnds ru.1) (h31 : ∀ r ∈ ru.1, r ≤ 31) (hm : ru.2 ≤ 20) {n far : Int} (hn : 700 ≤ n) (h0 : 0 ≤ far) (hd : ru.1.sum ∣ far) (x : Int) : standBy ru (n + far) (x + far) ↔ standBy ru n x :=
  standBy_moveG h (late_num h h31 hm hn) h0 hd x
theorem diffsOf_move (d : Int) : ∀ l : List Int, diffsOf (l.map (· + d)) = diffsOf l
  | [] => rfl
  | [_] => rfl
  | x :: y :: r => by
    have ih := diffsOf_move d (y :: r)
    simp only [List.map_cons, diffsOf] at ih ⊢
    rw [ih]
    congr 1
    omega
/-! the turn -/
/-- one rule more -/
def lcmS (f s : Nat) : Nat := f * s / Nat.gcd f s
theorem lcmS_eq (f s : Nat) : lcmS f s = f * (s / Nat.gcd f s) := Nat.mul_div_assoc _ (Nat.gcd_dvd_right f s)
theorem lcmS_pos {f s : Nat} (hf : 0 < f) (hs : 0 < s) : 0 < lcmS f s := by
  rw [lcmS_eq]
  exact Nat.mul_pos hf (Nat.div_pos (Nat.le_of_dvd hs (Nat.gcd_dvd_right f s)) (Nat.gcd_pos_of_pos_left _ hf))
theorem lcmS_dvd (f s : Nat) : f ∣ lcmS f s ∧ s ∣ lcmS f s := by
  refine ⟨by rw [lcmS_eq]; exact Nat.dvd_mul_right _ _, ?_⟩
  unfold lcmS
  rw [Nat.mul_comm, Nat.mul_div_assoc _ (Nat.gcd_dvd_left f s)]
  exact Nat.dvd_mul_right _ _
/-- adding f to itself until s divides: not ahead of the last -/
theorem lcm_least {f s j : Nat} (hf : 0 < f) (hs : 0 < s) (h : s ∣ j * f) : s / Nat.gcd f s ∣ j := by
  have hg : 0 < Nat.gcd f s := Nat.gcd_pos_of_pos_left _ hf
  obtain ⟨a, ha⟩ := Nat.gcd_dvd_left f s
  obtain ⟨b, hb⟩ := Nat.gcd_dvd_right f s
  have hb' : s / Nat.gcd f s = b := by
    rw [Nat.div_eq_of_eq_mul_right hg hb]
  have ha' : f / Nat.gcd f s = a := by
    rw [Nat.div_eq_of_eq_mul_right hg ha]
  have hco : Nat.Coprime b a := by
    have := Nat.coprime_div_gcd_div_gcd (m := f) (n := s) hg
    rw [ha', hb'] at this
    exact this.symm
  rw [hb']
  refine hco.dvd_of_dvd_mul_right ?_
  have h2 : Nat.gcd f s * b ∣ Nat.gcd f s * (j * a) := by
    rw [← hb, Nat.mul_left_comm, ← ha]
    exact h
  exact Nat.dvd_of_mul_dvd_mul_left hg h2
theorem lcm_mul (f s : Nat) : s ∣ (s / Nat.gcd f s) * f := by
  rw [Nat.mul_comm, ← lcmS_eq]
  exact (lcmS_dvd f s).2
def turnN (rus : List (List Int × Int)) : Nat := rus.foldl (fun f ru => lcmS f ru.1.sum.toNat) 1
theorem turnN_dvd : ∀ (rus : List (List Int × Int)) (a : Nat), a ∣ rus.foldl (fun f ru => lcmS f ru.1.sum.toNat) a ∧ ∀ ru ∈ rus, ru.1.sum.toNat ∣ rus.foldl (fun f ru => lcmS f ru.1.sum.toNat) a
  | [], a => ⟨Nat.dvd_refl _, fun ru h => by simp at h⟩
  | r :: rus, a => by
    obtain ⟨h1, h2⟩ := turnN_dvd rus (lcmS a r.1.sum.toNat)
    simp only [List.foldl_cons]
    refine ⟨Nat.dvd_trans (lcmS_dvd _ _).1 h1, fun ru hru => ?_⟩
    rcases List.mem_cons.mp hru with rfl | hru
    · exact Nat.dvd_trans (lcmS_dvd _ _).2 h1
    · exact h2 ru hru
theorem turnN_pos {rus : List (List Int × Int)} (h : ∀ ru ∈ rus, 0 < ru.1.sum) : ∀ a : Nat, 0 < a → 0 < rus.foldl (fun f ru => lcmS f ru.1.sum.toNat) a := by
  induction rus with
  | nil => intro a ha; exact ha
  | cons r rus ih =>
    intro a ha
    have := h r List.mem_cons_self
    exact ih (fun ru hru => h ru (List.mem_cons_of_mem _ hru)) _ (lcmS_pos ha (by omega))
end Nk
/-! ### rules weighed: plain mathematics -/
namespace Nk
/-- rounds, and a number of them that is at least 1 -/
structure OkRu (ru : List Int × Int) : Prop where
  r : Rnds ru.1
  m : 1 ≤ ru.2
def Desc (L : List Int) : Prop := L.Pairwise (· > ·)
theorem Desc.tl {n : Int} {l : List Int} (h : Desc (n :: l)) : Desc l := (List.pairwise_cons.mp h).2
theorem Desc.lt {n : Int} {l : List Int} (h : Desc (n :: l)) {z : Int} (hz : z ∈ l) : z < n := (List.pairwise_cons.mp h).1 z hz
theorem ends_below {rs : List Int} (hr : Rnds rs) : ∀ (l : List Int) (n : Int), Desc (n :: l) → ∀ z ∈ endsR rs (some (numOf rs n)) l, numOf rs z < numOf rs n
  | [], _, _, z, hz => by simp [endsR] at hz
  | m :: l, n, h, z, hz => by
    have hm : numOf rs m ≤ numOf rs n := numOf_mono hr (Int.le_of_lt (h.lt (by simp)))
    have ih := ends_below hr l m h.tl z
    unfold endsR at hz
    split at hz
    · exact Int.lt_of_lt_of_le (ih hz) hm
    · rename_i c
      rcases List.mem_cons.mp hz with rfl | hz
      · have : numOf rs n ≠ numOf rs z := fun e => c (by rw [e])
        omega
      · exact Int.lt_of_lt_of_le (ih hz) hm
theorem ends_pw {rs : List Int} (hr : Rnds rs) : ∀ (l : List Int) (ah : Option Int), Desc l → (endsR rs ah l).Pairwise fun a b => numOf rs b < numOf rs a
  | [], _, _ => by simp [endsR]
  | n :: l, ah, h => by
    unfold endsR
    split
    · exact ends_pw hr l _ h.tl
    · exact List.pairwise_cons.mpr ⟨fun z hz => ends_below hr l n h z hz, ends_pw hr l _ h.tl⟩
theorem ends_sublist (rs : List Int) : ∀ (l : List Int) (ah : Option Int), (endsR rs ah l).Sublist l
  | [], _ => by simp [endsR]
  | n :: l, ah => by
    unfold endsR
    split
    · exact (ends_sublist rs l _).cons n
    · exact (ends_sublist rs l _).cons_cons n
/-- nights of so many rounds make so many ends -/
theorem ends_ge {rs : List Int} (hr : Rnds rs) : ∀ (L S : List Int) (ah : Option Int), Desc L → S.Sublist L → (S.Pairwise fun a b => numOf rs a ≠ numOf rs b) → (∀ s ∈ S, some (numOf rs s) ≠ ah) → S.length ≤ (endsR rs ah L).length
  | [], S, ah, _, hs, _, _ => by
    rw [List.sublist_nil.mp hs]; simp
  | n :: l, S, ah, h, hs, hp, ha => by
    unfold endsR
    split
    · rename_i c
      cases hs with
      | cons _ hs => exact ends_ge hr l S _ h.tl hs hp (fun s hz => by rw [← c]; exact ha s hz)
      | cons_cons _ hs => exact absurd c.symm (ha n (by simp))
    · cases hs with
      | cons_cons _ hs =>
        obtain ⟨h1, h2⟩ := List.pairwise_cons.mp hp
        have := ends_ge hr l _ (some (numOf rs n)) h.tl hs h2 (fun s hz e => h1 s hz (Option.some.inj e).symm)
        simp only [List.length_cons]
        omega
      | cons _ hs =>
        cases S with
        | nil => simp
        | cons s S =>
          obtain ⟨h1, h2⟩ := List.pairwise_cons.mp hp
          have hsl : s ∈ l := hs.subset (by simp)
          by_cases e : numOf rs s = numOf rs n
          · have := ends_ge hr l S (some (numOf rs n)) h.tl ((List.sublist_cons_self s S).trans hs) h2 (fun z hz q => h1 z hz (by rw [e]; exact (Option.some.inj q).symm))
            simp only [List.length_cons]
            omega
          · have hsn : numOf rs s ≤ numOf rs n := numOf_mono hr (Int.le_of_lt (h.lt hsl))
            have hd : Desc (s :: S) := h.tl.sublist hs
            have := ends_ge hr l (s :: S) (some (numOf rs n)) h.tl hs hp (fun z hz q => by
              have q := Option.some.inj q
              rcases List.mem_cons.mp hz with rfl | hz
              · exact e q
              · have := numOf_mono hr (Int.le_of_lt (hd.lt hz))
                omega)
            simp only [List.length_cons] at this ⊢
            omega
theorem ends_mono {rs : List Int} (hr : Rnds rs) {L M : List Int} (h : Desc L) (hs : M.Sublist L) : (endsR rs none M).length ≤ (endsR rs none L).length :=
  ends_ge hr L _ none h ((ends_sublist rs M none).trans hs) ((ends_pw hr M none (h.sublist hs)).imp fun {a b} z => by omega) (fun _ _ => by simp)
/-- whether a night beside those later ones is kept by a rule -/
def keepsAt (ru : List Int × Int) (L : List Int) (x : Int) : Prop := ((endsR ru.1 none L).length : Int) < ru.2 ∧ lastN ru.1 none L ≠ some (numOf ru.1 x)
instance (ru : List Int × Int) (L : List Int) (x : Int) : Decidable (keepsAt ru L x) := by unfold keepsAt; infer_instance
theorem keptBy_snoc {ru : List Int × Int} {L : List Int} {x : Int} (hm : 1 ≤ ru.2) (hx : x ∉ L) : x ∈ keptBy ru (L ++ [x]).reverse ↔ keepsAt ru L x := by
  unfold keptBy keepsAt
  rw [List.reverse_reverse, endsR_snoc]
  have hn : x ∉ endsR ru.1 none L := fun h => hx (endsR_sub _ _ _ _ h)
  constructor
  · intro h
    by_cases c : lastN ru.1 none L = some (numOf ru.1 x)
    · rw [if_pos c, List.append_nil] at h
      exact absurd (List.mem_of_mem_take h) hn
    · rw [if_neg c] at h
      refine ⟨?_, c⟩
      by_cases hl : ((endsR ru.1 none L).length : Int) < ru.2
      · exact hl
      · rw [List.take_append_of_le_length (by omega)] at h
        exact absurd (List.mem_of_mem_take h) hn
  · rintro ⟨h1, h2⟩
    rw [if_neg h2, List.take_append, List.mem_append]
    right
    rw [show ru.2.toNat - (endsR ru.1 none L).length = (ru.2.toNat - (endsR ru.1 none L).length - 1) + 1 by omega]
    simp
/-- of nights a rule keeps one that others don't -/
def Wit (ru : List Int × Int) (ot : List (List Int × Int)) (ns : List Int) : Prop := ∃ x ∈ keptBy ru ns, ∀ o ∈ ot, x ∉ keptBy o ns
/-- the last one of nights is such a one -/
def Hit (ru : List Int × Int) (ot : List (List Int × Int)) (L : List Int) (x : Int) : Prop := keepsAt ru L x ∧ ∀ o ∈ ot, ¬ keepsAt o L x
theorem Hit.wit {ru : List Int × Int} {ot : List (List Int × Int)} {L : List Int} {x : Int} (h : Hit ru ot L x) (hx : x ∉ L) (hm : 1 ≤ ru.2) (ho : ∀ o ∈ ot, OkRu o) : Wit ru ot (L ++ [x]).reverse :=
  ⟨x, (keptBy_snoc hm hx).mpr h.1, fun o hO z => h.2 o hO ((keptBy_snoc (ho o hO).m hx).mp z)⟩
theorem split_at {L : List Int} (h : Desc L) {x : Int} (hx : x ∈ L) : ∃ A B, L = A ++ x :: B ∧ x ∉ A ∧ x ∉ B := by
  obtain ⟨A, B, rfl⟩ := List.append_of_mem hx
  have h' := List.pairwise_append.mp h
  refine ⟨A, B, rfl, fun z => ?_, fun z => ?_⟩
  · have := h'.2.2 x z x (by simp); omega
  · have := (List.pairwise_cons.mp h'.2.1).1 x z; omega
theorem keptBy_cut {ru : List Int × Int} {A B : List Int} {x : Int} (hB : x ∉ B) : x ∈ keptBy ru (A ++ x :: B).reverse ↔ x ∈ keptBy ru (A ++ [x]).reverse := by
  unfold keptBy
  rw [List.reverse_reverse, List.reverse_reverse]
  have e : A ++ x :: B = (A ++ [x]) ++ B := by simp
  rw [e]
  obtain ⟨u, hu⟩ := endsR_pre ru.1 none B (A ++ [x])
  have hu2 : x ∉ u := by
    intro hz
    -- the ends beyond are nights of B
    have : ∀ (t l : List Int) (ah : Option Int), ∃ u, endsR ru.1 ah (l ++ t) = endsR ru.1 ah l ++ u ∧ ∀ z ∈ u, z ∈ t := by
      intro t
      induction t with
      | nil => intro l ah; exact ⟨[], by simp, by simp⟩
      | cons y t ih =>
        intro l ah
        obtain ⟨u, hu, hm⟩ := ih (l ++ [y]) ah
        rw [List.append_assoc, List.singleton_append] at hu
        rw [hu, endsR_snoc, List.append_assoc]
        refine ⟨_, rfl, fun z hz => ?_⟩
        rcases List.mem_append.mp hz with q | q
        · split at q
          · cases q
          · rw [List.mem_singleton.mp q]; simp
        · exact List.mem_cons_of_mem _ (hm z q)
    obtain ⟨u', h1, h2⟩ := this B (A ++ [x]) none
    rw [hu] at h1
    have := List.append_cancel_left h1
    subst this
    exact hB (h2 x hz)
  rw [hu]
  constructor
  · intro h
    rw [List.take_append] at h
    rcases List.mem_append.mp h with h | h
    · exact h
    · exact absurd (List.mem_of_mem_take h) hu2
  · intro h
    rw [List.take_append]
    exact List.mem_append.mpr (.inl h)
/-- the last night is kept by each -/
theorem keeps_last {ru : List Int × Int} (h : 1 ≤ ru.2) (x : Int) : x ∈ keptBy ru [x] := by
  unfold keptBy
  rw [show ru.2.toNat = (ru.2.toNat - 1) + 1 by omega]
  simp [endsR]
/-- where nights show it, some of them, later than the last, do -/
theorem Wit.hit {ru : List Int × Int} {ot : List (List Int × Int)} {ns : List Int} (h : Wit ru ot ns) (hn : ns.Pairwise (· < ·)) (hr : OkRu ru) (ho : ∀ o ∈ ot, OkRu o) (hne : ot ≠ []) : ∃ L x, L ≠ [] ∧ Desc (L ++ [x]) ∧ Hit ru ot L x ∧ L.length + 1 ≤ ns.length := by
  obtain ⟨x, hx, hno⟩ := h
  have hd : Desc ns.reverse := List.pairwise_reverse.mpr hn
  have hxm : x ∈ ns.reverse := List.mem_reverse.mpr (keptBy_sub hx)
  obtain ⟨A, B, e, hA, hB⟩ := split_at hd hxm
  have en : ns = (A ++ x :: B).reverse := by rw [← e, List.reverse_reverse]
  have hA2 : ∀ q : List Int × Int, x ∈ keptBy q ns ↔ x ∈ keptBy q (A ++ [x]).reverse := fun q => by rw [en]; exact keptBy_cut hB
  have hdA : Desc (A ++ [x]) := by
    rw [e] at hd
    exact hd.sublist (by rw [show A ++ x :: B = (A ++ [x]) ++ B by simp]; exact List.sublist_append_left _ _)
  refine ⟨A, x, fun hz => ?_, hdA, ⟨(keptBy_snoc hr.m hA).mp ((hA2 ru).mp hx), fun o hO z => hno o hO ((hA2 o).mpr ((keptBy_snoc (ho o hO).m hA).mpr z))⟩, ?_⟩
  · subst hz
    cases ot with
    | nil => exact hne rfl
    | cons o ot =>
      refine hno o (by simp) ((hA2 o).mpr ?_)
      exact keeps_last (ho o (by simp)).m x
  · have : ns.length = A.length + (B.length + 1) := by rw [en]; simp; omega
    omega
theorem lastN_of {rs : List Int} {L : List Int} {y : Int} (h : L.getLast? = some y) : lastN rs none L = some (numOf rs y) := by
  unfold lastN
  rw [h]
theorem snoc_cases' : ∀ (L : List Int), L = [] ∨ ∃ l y, L = l ++ [y]
  | [] => .inl rfl
  | a :: l => by
    rcases snoc_cases' l with e | ⟨m, y, e⟩
    · exact .inr ⟨[], a, by rw [e]; rfl⟩
    · exact .inr ⟨a :: m, y, by rw [e]; rfl⟩
/-- few nights are enough: those that other rules need -/
theorem few_one {o : List Int × Int} (h : OkRu o) {L : List Int} {x : Int} (hd : Desc (L ++ [x])) (hL : L ≠ []) (hk : ¬ keepsAt o L x) : ∃ S : List Int, S.length ≤ o.2.toNat ∧ S ≠ [] ∧ (∀ s ∈ S, s ∈ L) ∧ ∀ M : List Int, M.Sublist L → (∀ s ∈ S, s ∈ M) → ¬ keepsAt o M x := by
  rcases snoc_cases' L with e | ⟨l, y, e⟩
  · exact absurd e hL
  by_cases c : lastN o.1 none L = some (numOf o.1 x)
  · refine ⟨[y], by have := h.m; simp; omega, by simp, by simp [e], fun M hM hS hk' => hk'.2 ?_⟩
    have hyM : y ∈ M := hS y (by simp)
    have hly : lastN o.1 none L = some (numOf o.1 y) := by rw [e]; exact lastN_snoc _ _ _ _
    rw [hly] at c
    rcases snoc_cases' M with e2 | ⟨m, z, e2⟩
    · rw [e2] at hyM; cases hyM
    rw [e2, lastN_snoc]
    -- the last one of M is y
    have hdL : Desc L := hd.sublist (List.sublist_append_left _ _)
    have hdM : Desc M := hdL.sublist hM
    have hzL : z ∈ L := hM.subset (by rw [e2]; simp)
    have h1 : y ≤ z := by
      rw [e] at hzL hdL
      rcases List.mem_append.mp hzL with q | q
      · have := (List.pairwise_append.mp hdL).2.2 z q y (by simp); omega
      · simp at q; omega
    have h2 : z ≤ y := by
      rw [e2] at hyM hdM
      rcases List.mem_append.mp hyM with q | q
      · have := (List.pairwise_append.mp hdM).2.2 y q z (by simp); omega
      · simp at q; omega
    rw [show z = y by omega, c]
  · have hl : o.2 ≤ ((endsR o.1 none L).length : Int) := by
      by_cases q : ((endsR o.1 none L).length : Int) < o.2
      · exact absurd ⟨q, c⟩ hk
      · omega
    have hdL : Desc L := hd.sublist (List.sublist_append_left _ _)
    have hsub := ends_sublist o.1 L none
    refine ⟨(endsR o.1 none L).take o.2.toNat, by rw [List.length_take]; omega, ?_, fun s hs => hsub.subset (List.mem_of_mem_take hs), fun M hM hS hk' => ?_⟩
    · intro z
      have h1 := congrArg List.length z
      rw [List.length_take, List.length_nil] at h1
      have := h.m
      omega
    · have hdM : Desc M := hdL.sublist hM
      have hpw := (ends_pw h.r L none hdL).sublist (List.take_sublist o.2.toNat _)
      have hdS : Desc ((endsR o.1 none L).take o.2.toNat) := hdL.sublist ((List.take_sublist _ _).trans hsub)
      have hSM : ((endsR o.1 none L).take o.2.toNat).Sublist M := by
        -- both are falling
        have : ∀ (S M : List Int), Desc S → Desc M → (∀ s ∈ S, s ∈ M) → S.Sublist M := by
          intro S M
          induction M generalizing S with
          | nil => intro _ _ hs; cases S with
            | nil => exact List.nil_sublist _
            | cons a S => exact absurd (hs a (by simp)) (by simp)
          | cons b M ih =>
            intro hS hM hs
            cases S with
            | nil => exact List.nil_sublist _
            | cons a S =>
              by_cases e : a = b
              · subst e
                refine List.Sublist.cons_cons a (ih S hS.tl hM.tl fun s hz => ?_)
                have := hS.lt hz
                rcases List.mem_cons.mp (hs s (by simp [hz])) with q | q
                · omega
                · exact q
              · have ha : a ∈ M := by
                  rcases List.mem_cons.mp (hs a (by simp)) with q | q
                  · exact absurd q e
                  · exact q
                have hab := hM.lt ha
                refine List.Sublist.cons b (ih _ hS hM.tl fun s hz => ?_)
                rcases List.mem_cons.mp (hs s hz) with q | q
                · rcases List.mem_cons.mp hz with w | w
                  · omega
                  · have := hS.lt w; omega
                · exact q
        exact this _ M hdS hdM hS
      have := ends_ge h.r M _ none hdM hSM (hpw.imp fun {a b} z => by omega) (fun _ _ => by simp)
      rw [List.length_take] at this
      have := hk'.1
      omega
def manys (ot : List (List Int × Int)) : Nat := (ot.map fun o => o.2.toNat).sum
theorem few_all {x : Int} {L : List Int} (hd : Desc (L ++ [x])) (hL : L ≠ []) : ∀ (ot : List (List Int × Int)), (∀ o ∈ ot, OkRu o) → (∀ o ∈ ot, ¬ keepsAt o L x) → ∃ S : List Int, S.length ≤ manys ot ∧ (ot ≠ [] → S ≠ []) ∧ (∀ s ∈ S, s ∈ L) ∧ ∀ M : List Int, M.Sublist L → (∀ s ∈ S, s ∈ M) → ∀ o ∈ ot, ¬ keepsAt o M x
  | [], _, _ => ⟨[], by simp, by simp, by simp, by simp⟩
  | o :: ot, h, hk => by
    obtain ⟨S1, a1, a2, a3, a4⟩ := few_one (h o (by simp)) hd hL (hk o (by simp))
    obtain ⟨S2, b1, _, b3, b4⟩ := few_all hd hL ot (fun q hq => h q (by simp [hq])) (fun q hq => hk q (by simp [hq]))
    refine ⟨S1 ++ S2, by rw [List.length_append]; unfold manys at *; simp; omega, fun _ => by simp [a2], fun s hs => ?_, fun M hM hs q hq => ?_⟩
    · rcases List.mem_append.mp hs with z | z
      · exact a3 s z
      · exact b3 s z
    · rcases List.mem_cons.mp hq with rfl | hq
      · exact a4 M hM fun s hz => hs s (by simp [hz])
      · exact b4 M hM (fun s hz => hs s (by simp [hz])) q hq
theorem nodup_le : ∀ {l m : List Int}, l.Nodup → (∀ z ∈ l, z ∈ m) → l.length ≤ m.length
  | [], _, _, _ => by simp
  | a :: l, m, hn, hs => by
    obtain ⟨h1, h2⟩ := List.nodup_cons.mp hn
    have ha : a ∈ m := hs a (by simp)
    have := nodup_le (l := l) (m := m.erase a) h2 fun z hz => (List.mem_erase_of_ne (fun e => h1 (by rw [← e]; exact hz))).mpr (hs z (by simp [hz]))
    rw [List.length_erase_of_mem ha] at this
    have := List.length_pos_of_mem ha
    simp only [List.length_cons]
    omega
theorem Desc.nodup {L : List Int} (h : Desc L) : L.Nodup := h.imp fun {a b} z => by omega
theorem Hit.few {ru : List Int × Int} {ot : List (List Int × Int)} {L : List Int} {x : Int} (h : Hit ru ot L x) (hd : Desc (L ++ [x])) (hL : L ≠ []) (hr : OkRu ru) (ho : ∀ o ∈ ot, OkRu o) (hne : ot ≠ []) : ∃ M, M ≠ [] ∧ Desc (M ++ [x]) ∧ Hit ru ot M x ∧ M.length ≤ manys ot := by
  obtain ⟨S, a1, a2, a3, a4⟩ := few_all hd hL ot ho h.2
  have hdL : Desc L := hd.sublist (List.sublist_append_left _ _)
  have hM : (L.filter fun z => decide (z ∈ S)).Sublist L := List.filter_sublist
  have hdM : Desc ((L.filter fun z => decide (z ∈ S)) ++ [x]) := hd.sublist (hM.append (List.Sublist.refl _))
  have hSM : ∀ s ∈ S, s ∈ L.filter fun z => decide (z ∈ S) := fun s hs => List.mem_filter.mpr ⟨a3 s hs, decide_eq_true hs⟩
  refine ⟨L.filter fun z => decide (z ∈ S), fun e => ?_, hdM, ⟨⟨?_, fun e => h.1.2 ?_⟩, a4 _ hM hSM⟩, ?_⟩
  · cases hS : S with
    | nil => exact a2 hne hS
    | cons s S' =>
      have := hSM s (by rw [hS]; simp)
      rw [e] at this
      cases this
  · have := ends_mono hr.r hdL hM
    have := h.1.1
    omega
  · generalize L.filter (fun z => decide (z ∈ S)) = M at *
    rcases snoc_cases' M with e2 | ⟨m, z, e2⟩
    · rw [e2] at e; simp [lastN] at e
    rcases snoc_cases' L with e3 | ⟨l, y, e3⟩
    · exact absurd e3 hL
    rw [e2, lastN_snoc] at e
    rw [e3, lastN_snoc]
    have hzL : z ∈ L := hM.subset (by rw [e2]; simp)
    have h1 : y ≤ z := by
      rw [e3] at hzL hdL
      rcases List.mem_append.mp hzL with q | q
      · have := (List.pairwise_append.mp hdL).2.2 z q y (by simp); omega
      · simp at q; omega
    have h2 : x ≤ y := by
      have := (List.pairwise_append.mp hd).2.2 y (by rw [e3]; simp) x (by simp)
      omega
    have m1 := numOf_mono hr.r h1
    have m2 := numOf_mono hr.r h2
    have := Option.some.inj e
    congr 1
    omega
  · have : (L.filter fun z => decide (z ∈ S)).Nodup := Desc.nodup (hdL.sublist hM)
    have := nodup_le this (m := S) fun z hz => of_decide_eq_true (List.mem_filter.mp hz).2
    omega
abbrev Seen := List (Int × Bool)
def back1 (turn place : Int) (ru : List Int × Int) (s : Int × Bool) : Int × Bool := (s.1, s.2 && (decide (ru.2 ≤ s.1) || decide (numOf ru.1 (place + turn) = numOf ru.1 (place + turn - 1))))
def by1 (ru : List Int × Int) (s : Int × Bool) : Bool := !s.2 && decide (s.1 < ru.2)
def copy1 (ru : List Int × Int) (s : Int × Bool) : Int × Bool := (if by1 ru s = true then s.1 + 1 else s.1, true)
def backF (rules : List (List Int × Int)) (turn : Int) (nd : Int × Seen) : Int × Seen := ((nd.1 - 1) % turn, List.zipWith (back1 turn nd.1) rules nd.2)
def copyF (rules : List (List Int × Int)) (sn : Seen) : Seen := List.zipWith copy1 rules sn
def byFrom : Nat → List (List Int × Int) → Seen → List Int
  | k, ru :: rules, s :: sn => if by1 ru s = true then (k : Int) :: byFrom (k + 1) rules sn else byFrom (k + 1) rules sn
  | _, _, _ => []
def byF (rules : List (List Int × Int)) (sn : Seen) : List Int := byFrom 0 rules sn
def backN (rules : List (List Int × Int)) (turn : Int) : Nat → Int × Seen → Int × Seen
  | 0, nd => nd
  | n + 1, nd => backF rules turn (backN rules turn n nd)
/-- a copy that comes next, so far back -/
def entF (rules : List (List Int × Int)) (turn : Int) (nd : Int × Seen) (n : Nat) : Int × (Int × Seen) × List Int :=
  ((n : Int), ((backN rules turn n nd).1, copyF rules (backN rules turn n nd).2), byF rules (backN rules turn n nd).2)
def stepsF (rules : List (List Int × Int)) (turn : Int) (nd : Int × Seen) : List (Int × (Int × Seen) × List Int) := (List.range (2 * turn).toNat).map fun j => entF rules turn nd (j + 1)
/-- how a rule stands behind nights, at a night -/
def stR (ru : List Int × Int) (L : List Int) (p : Int) : Int × Bool :=
  (min ru.2 ((endsR ru.1 none L).length : Int), decide (ru.2 ≤ ((endsR ru.1 none L).length : Int)) || decide (lastN ru.1 none L = some (numOf ru.1 p)))
def nodeAt (rules : List (List Int × Int)) (turn : Int) (L : List Int) (p : Int) : Int × Seen := (p % turn, rules.map fun ru => stR ru L p)
/-- the turn is one of each rule -/
structure TurnOf (turn : Int) (rules : List (List Int × Int)) : Prop where
  pos : 1 ≤ turn
  ok : ∀ ru ∈ rules, OkRu ru
  dv : ∀ ru ∈ rules, ru.1.sum ∣ turn
theorem numOf_mul {rs : List Int} (h : Rnds rs) (n : Int) : ∀ q : Nat, numOf rs (n + q * rs.sum) = numOf rs n + q * rs.length
  | 0 => by simp
  | q + 1 => by
    have e : n + ((q + 1 : Nat) : Int) * rs.sum = (n + q * rs.sum) + rs.sum := by push_cast; rw [Int.add_mul]; omega
    rw [e, numOf_turn h, numOf_mul h n q]
    push_cast
    rw [Int.add_mul]
    omega
theorem numOf_mulI {rs : List Int} (h : Rnds rs) (n q : Int) : numOf rs (n + q * rs.sum) = numOf rs n + q * rs.length := by
  rcases Int.le_total 0 q with hq | hq
  · obtain ⟨k, rfl⟩ := Int.eq_ofNat_of_zero_le hq
    exact numOf_mul h n k
  · obtain ⟨k, hk⟩ := Int.eq_ofNat_of_zero_le (show 0 ≤ -q by omega)
    have := numOf_mul h (n + q * rs.sum) k
    rw [show n + q * rs.sum + (k : Int) * rs.sum = n by rw [← hk, Int.neg_mul]; omega] at this
    rw [this, ← hk, Int.neg_mul]
    omega
/-- moved by whole turns: whether two nights lie in one round -/
theorem num_same {rs : List Int} (h : Rnds rs) {turn : Int} (hd : rs.sum ∣ turn) {p q : Int} (e : p % turn = q % turn) (d : Int) : numOf rs (p + d) = numOf rs p ↔ numOf rs (q + d) = numOf rs q := by
  obtain ⟨c, hc⟩ := hd
  obtain ⟨k, hk⟩ : turn ∣ p - q := Int.dvd_iff_emod_eq_zero.mpr (Int.emod_eq_emod_iff_emod_sub_eq_zero.mp e)
  have hp : p = q + (c * k) * rs.sum := by
    have : p - q = (c * k) * rs.sum := by rw [hk, hc, Int.mul_assoc, Int.mul_comm rs.sum]
    omega
  have h1 := numOf_mulI h q (c * k)
  have h2 := numOf_mulI h (q + d) (c * k)
  rw [show q + d + c * k * rs.sum = p + d by rw [hp]; omega] at h2
  rw [← hp] at h1
  rw [h1, h2]
  omega
theorem stR_first {ru : List Int × Int} (h : 1 ≤ ru.2) (p : Int) : stR ru [p] p = (1, true) := by
  unfold stR
  simp [endsR, lastN]
  omega
theorem back1_at {ru : List Int × Int} (hr : OkRu ru) {turn : Int} (ht : 1 ≤ turn) (hd : ru.1.sum ∣ turn) {L : List Int} {y p : Int} (hy : L.getLast? = some y) (hp : p ≤ y) : back1 turn (p % turn) ru (stR ru L p) = stR ru L (p - 1) := by
  unfold back1 stR
  rw [lastN_of hy]
  have e1 : (p % turn + turn) % turn = p % turn := by rw [Int.add_emod_right, Int.emod_emod]
  have e2 := num_same hr.r hd e1 (-1)
  rw [show p % turn + turn + -1 = p % turn + turn - 1 by omega, show p + -1 = p - 1 by omega] at e2
  have m1 := numOf_mono hr.r (show p - 1 ≤ p by omega)
  have m2 := numOf_mono hr.r hp
  ext1
  · rfl
  · simp only
    by_cases c : ru.2 ≤ ((endsR ru.1 none L).length : Int)
    · have : ru.2 ≤ min ru.2 ((endsR ru.1 none L).length : Int) := by omega
      simp [c, this]
    · have : ¬ ru.2 ≤ min ru.2 ((endsR ru.1 none L).length : Int) := by omega
      simp only [c, this, decide_false, Bool.false_or, Option.some.injEq]
      rw [Bool.eq_iff_iff]
      simp only [Bool.and_eq_true, decide_eq_true_eq]
      constructor
      · rintro ⟨h1, h2⟩
        have := e2.mp h2.symm
        omega
      · intro h1
        refine ⟨by omega, (e2.mpr ?_).symm⟩
        omega
theorem backN_at {rules : List (List Int × Int)} {turn : Int} (T : TurnOf turn rules) {L : List Int} {y : Int} (hy : L.getLast? = some y) {p : Int} (hp : p ≤ y) : ∀ n : Nat, backN rules turn n (nodeAt rules turn L p) = nodeAt rules turn L (p - n)
  | 0 => by simp [backN]
  | n + 1 => by
    unfold backN
    rw [backN_at T hy hp n]
    unfold backF nodeAt
    have e : (p - (n : Int)) - 1 = p - ((n + 1 : Nat) : Int) := by push_cast; omega
    ext1
    · show ((p - (n : Int)) % turn - 1) % turn = _
      rw [← e, Int.emod_sub_emod]
    · show List.zipWith _ rules (rules.map _) = rules.map _
      rw [List.zipWith_map_right, List.zipWith_self]
      refine List.map_congr_left fun ru hru => ?_
      have := back1_at (T.ok ru hru) T.pos (T.dv ru hru) hy (show p - (n : Int) ≤ y by omega)
      rw [← e]
      exact this
theorem by1_at {ru : List Int × Int} {L : List Int} {p : Int} : by1 ru (stR ru L p) = decide (keepsAt ru L p) := by
  unfold by1 stR keepsAt
  by_cases d : ((endsR ru.1 none L).length : Int) < ru.2
  · have h1 : ¬ ru.2 ≤ ((endsR ru.1 none L).length : Int) := by omega
    have h2 : min ru.2 ((endsR ru.1 none L).length : Int) < ru.2 := by omega
    simp [d, h1, h2]
  · have h1 : ru.2 ≤ ((endsR ru.1 none L).length : Int) := by omega
    simp [d, h1]
theorem copy1_at {ru : List Int × Int} {L : List Int} {p : Int} : copy1 ru (stR ru L p) = stR ru (L ++ [p]) p := by
  unfold copy1
  rw [by1_at]
  unfold stR keepsAt
  rw [endsR_snoc, lastN_snoc]
  by_cases c : lastN ru.1 none L = some (numOf ru.1 p)
  · rw [if_pos c]
    simp [c]
  · rw [if_neg c]
    by_cases d : ((endsR ru.1 none L).length : Int) < ru.2
    · simp only [List.length_append, List.length_singleton, c, d, not_false_eq_true, and_self, decide_true, if_true, ne_eq, Bool.or_true, Prod.mk.injEq, and_true]
      push_cast
      omega
    · simp only [List.length_append, List.length_singleton, c, d, not_false_eq_true, false_and, decide_false, decide_true, ne_eq, Bool.or_true, Prod.mk.injEq, and_true, Bool.false_eq_true, if_false]
      push_cast
      omega
def byAt (rules : List (List Int × Int)) (L : List Int) (x : Int) : List Int := byF rules (rules.map fun ru => stR ru L x)
/-- the node behind nights -/
def nodeF (rules : List (List Int × Int)) (turn : Int) (L : List Int) : Int × Seen := nodeAt rules turn L ((L.getLast?).getD 0)
theorem nodeF_snoc (rules : List (List Int × Int)) (turn : Int) (L : List Int) (x : Int) : nodeF rules turn (L ++ [x]) = nodeAt rules turn (L ++ [x]) x := by
  unfold nodeF
  simp
theorem entF_at {rules : List (List Int × Int)} {turn : Int} (T : TurnOf turn rules) {L : List Int} {y : Int} (hy : L.getLast? = some y) (n : Nat) : entF rules turn (nodeF rules turn L) n = ((n : Int), nodeF rules turn (L ++ [y - n]), byAt rules L (y - n)) := by
  have e : nodeF rules turn L = nodeAt rules turn L y := by unfold nodeF; rw [hy]; rfl
  unfold entF byAt
  rw [e, backN_at T hy (Int.le_refl _), nodeF_snoc]
  unfold nodeAt copyF
  simp only
  rw [List.zipWith_map_right, List.zipWith_self]
  congr 2
  congr 1
  exact List.map_congr_left fun ru _ => copy1_at
theorem by_zero {rule : List Int × Int} {ot : List (List Int × Int)} {L : List Int} {x : Int} : byAt (rule :: ot) L x = [0] ↔ Hit rule ot L x := by
  have hz : ∀ (rs : List (List Int × Int)) (k : Nat), byFrom k rs (rs.map fun ru => stR ru L x) = [] ↔ ∀ o ∈ rs, ¬ keepsAt o L x := by
    intro rs
    induction rs with
    | nil => intro k; simp [byFrom]
    | cons o rs ih =>
      intro k
      rw [List.map_cons, byFrom, by1_at]
      by_cases c : keepsAt o L x
      · simp [c]
      · simp [c, ih]
  have hn : ∀ (rs : List (List Int × Int)) (sn : Seen) (k : Nat), 0 < k → byFrom k rs sn ≠ [0] := by
    intro rs
    induction rs with
    | nil => intro sn k hk; simp [byFrom]
    | cons o rs ih =>
      intro sn k hk
      cases sn with
      | nil => simp [byFrom]
      | cons s sn =>
        rw [byFrom]
        split
        · intro z
          have := (List.cons.inj z).1
          omega
        · exact ih sn (k + 1) (by omega)
  unfold byAt byF Hit
  rw [List.map_cons, byFrom, by1_at]
  by_cases c : keepsAt rule L x
  · simp only [c, decide_true, if_true, true_and]
    rw [show ([0] : List Int) = ((0 : Nat) : Int) :: [] from rfl]
    simp only [List.cons.injEq, true_and]
    exact hz ot _
  · simp only [c, decide_false, Bool.false_eq_true, if_false, false_and, iff_false]
    exact hn _ _ _ (by omega)
theorem num_far {rs : List Int} (h : Rnds rs) {turn : Int} (ht : 1 ≤ turn) (hd : rs.sum ∣ turn) {y p : Int} (hp : p + turn ≤ y) : numOf rs y ≠ numOf rs p := by
  have h0 := h.sum
  have hle : rs.sum ≤ turn := Int.le_of_dvd (by omega) hd
  have h1 := numOf_mono h (show p + rs.sum ≤ y by omega)
  rw [numOf_turn h] at h1
  have := h.len
  omega
theorem stR_far {ru : List Int × Int} (hr : OkRu ru) {turn : Int} (ht : 1 ≤ turn) (hd : ru.1.sum ∣ turn) {L : List Int} {y p q : Int} (hy : L.getLast? = some y) (hp : p + turn ≤ y) (hq : q + turn ≤ y) : stR ru L p = stR ru L q := by
  unfold stR
  rw [lastN_of hy]
  have h1 := num_far hr.r ht hd hp
  have h2 := num_far hr.r ht hd hq
  simp [h1, h2]
/-- each night that can come next is reached by a step -/
theorem reach {rules : List (List Int × Int)} {turn : Int} (T : TurnOf turn rules) {L : List Int} {y x : Int} (hy : L.getLast? = some y) (hx : x < y) : ∃ n : Nat, 1 ≤ n ∧ (n : Int) ≤ 2 * turn ∧ entF rules turn (nodeF rules turn L) n = ((n : Int), nodeF rules turn (L ++ [x]), byAt rules L x) := by
  have hp := T.pos
  by_cases c : y - x ≤ 2 * turn
  · refine ⟨(y - x).toNat, by omega, by omega, ?_⟩
    rw [entF_at T hy, show y - ((y - x).toNat : Int) = x by omega]
  · -- the gap is made shorter by whole turns
    obtain ⟨g, hg⟩ : ∃ g, (y - x) % turn = g := ⟨_, rfl⟩
    have g0 := Int.emod_nonneg (y - x) (show turn ≠ 0 by omega)
    have g1 := Int.emod_lt_of_pos (y - x) (show 0 < turn by omega)
    rw [hg] at g0 g1
    refine ⟨(g + turn).toNat, by omega, by omega, ?_⟩
    rw [entF_at T hy, show y - ((g + turn).toNat : Int) = y - (g + turn) by omega]
    have em : (y - (g + turn)) % turn = x % turn := by
      have h1 := Int.emod_add_mul_ediv (y - x) turn
      rw [hg] at h1
      have : y - (g + turn) = x + turn * ((y - x) / turn - 1) := by rw [Int.mul_sub]; omega
      rw [this, Int.add_mul_emod_self_left]
    have es : ∀ ru ∈ rules, stR ru L (y - (g + turn)) = stR ru L x := fun ru hru => stR_far (T.ok ru hru) hp (T.dv ru hru) hy (by omega) (by omega)
    have eb : byAt rules L (y - (g + turn)) = byAt rules L x := by
      unfold byAt
      rw [List.map_congr_left es]
    rw [eb, nodeF_snoc, nodeF_snoc]
    unfold nodeAt
    rw [em]
    have : (rules.map fun ru => stR ru (L ++ [y - (g + turn)]) (y - (g + turn))) = rules.map fun ru => stR ru (L ++ [x]) x := by
      refine List.map_congr_left fun ru hru => ?_
      rw [← copy1_at, ← copy1_at, es ru hru]
    rw [this]
end Nk
/-! ### rules weighed: going through all nights, layer by layer -/
namespace Nk
theorem endsR_shift {rs : List Int} (h : Rnds rs) (q : Int) : ∀ (L : List Int) (ah : Option Int), endsR rs (ah.map (· + q * rs.length)) (L.map (· + q * rs.sum)) = (endsR rs ah L).map (· + q * rs.sum)
  | [], ah => by simp [endsR]
  | n :: L, ah => by
    have ih := endsR_shift h q L (some (numOf rs n))
    have e := numOf_mulI h n q
    rw [List.map_cons, endsR, endsR, e]
    have e2 : ah.map (· + q * (rs.length : Int)) = some (numOf rs n + q * rs.length) ↔ ah = some (numOf rs n) := by
      cases ah with
      | none => simp
      | some a => simp
    by_cases c : ah = some (numOf rs n)
    · rw [if_pos c, if_pos (e2.mpr c)]
      exact ih
    · rw [if_neg c, if_neg (fun z => c (e2.mp z)), List.map_cons]
      congr 1
theorem lastN_shift {rs : List Int} (h : Rnds rs) (q : Int) (L : List Int) : lastN rs none (L.map (· + q * rs.sum)) = (lastN rs none L).map (· + q * rs.length) := by
  unfold lastN
  rw [List.getLast?_map]
  cases L.getLast? with
  | none => rfl
  | some n => simp [numOf_mulI h n q]
theorem keepsAt_shift {ru : List Int × Int} (h : OkRu ru) {turn : Int} (hd : ru.1.sum ∣ turn) (k : Int) (L : List Int) (x : Int) : keepsAt ru (L.map (· + k * turn)) (x + k * turn) ↔ keepsAt ru L x := by
  obtain ⟨c, hc⟩ := hd
  have e : k * turn = (k * c) * ru.1.sum := by rw [hc, Int.mul_comm ru.1.sum, Int.mul_assoc]
  rw [e]
  unfold keepsAt
  have h1 := endsR_shift h.r (k * c) L none
  rw [Option.map_none] at h1
  rw [h1, lastN_shift h.r, numOf_mulI h.r, List.length_map]
  refine and_congr_right fun _ => not_congr ?_
  cases lastN ru.1 none L with
  | none => simp
  | some a => simp
theorem Hit.shift {ru : List Int × Int} {ot : List (List Int × Int)} {turn : Int} (T : TurnOf turn (ru :: ot)) (k : Int) {L : List Int} {x : Int} (h : Hit ru ot L x) : Hit ru ot (L.map (· + k * turn)) (x + k * turn) :=
  ⟨(keepsAt_shift (T.ok ru (by simp)) (T.dv ru (by simp)) k L x).mpr h.1, fun o hO z => h.2 o hO ((keepsAt_shift (T.ok o (by simp [hO])) (T.dv o (by simp [hO])) k L x).mp z)⟩
abbrev Node := Int × Seen
/-- a node, and the nights by which it is reached: the place of the last one, the ages -/
structure Item where
  nd : Node
  start : Int
  ages : List Int
def Item.L (it : Item) : List Int := it.ages.map fun a => it.start - a
/-- rising from 0 -/
structure AgesOk (turn : Int) (d : Nat) (ages : List Int) : Prop where
  len : ages.length = d + 1
  hd : ages.head? = some 0
  pw : ages.Pairwise (· < ·)
  le : ∀ a ∈ ages, 0 ≤ a ∧ a ≤ 2 * turn * d
structure ItemOk (rules : List (List Int × Int)) (turn : Int) (d : Nat) (it : Item) : Prop where
  ag : AgesOk turn d it.ages
  s0 : 0 ≤ it.start
  s1 : it.start < turn
  nd : it.nd = nodeF rules turn it.L
theorem AgesOk.last {turn : Int} {d : Nat} {ages : List Int} (h : AgesOk turn d ages) : ∃ a, ages.getLast? = some a ∧ ∀ b ∈ ages, b ≤ a := by
  rcases snoc_cases' ages with e | ⟨l, y, e⟩
  · have := h.len
    rw [e] at this
    simp at this
  · refine ⟨y, by rw [e]; simp, fun b hb => ?_⟩
    rw [e] at hb
    have hp := h.pw
    rw [e] at hp
    rcases List.mem_append.mp hb with z | z
    · have := (List.pairwise_append.mp hp).2.2 b z y (by simp)
      omega
    · rw [List.mem_singleton.mp z]; exact Int.le_refl _
theorem AgesOk.snoc {turn : Int} {d : Nat} {ages : List Int} (h : AgesOk turn d ages) {a n : Int} (ha : ages.getLast? = some a) (h1 : 1 ≤ n) (h2 : n ≤ 2 * turn) (ht : 1 ≤ turn) : AgesOk turn (d + 1) (ages ++ [a + n]) := by
  obtain ⟨a', ha', hm⟩ := h.last
  rw [ha] at ha'
  cases ha'
  have hal := h.le a (List.mem_of_getLast? ha)
  have e : 2 * turn * ((d + 1 : Nat) : Int) = 2 * turn * d + 2 * turn := by push_cast; rw [Int.mul_add]; omega
  refine ⟨by rw [List.length_append, h.len]; rfl, ?_, ?_, fun b hb => ?_⟩
  · have := h.hd
    cases ages with
    | nil => cases this
    | cons x l => exact this
  · rw [List.pairwise_append]
    refine ⟨h.pw, List.pairwise_singleton _ _, fun b hb c hc => ?_⟩
    rw [List.mem_singleton.mp hc]
    have := hm b hb
    omega
  · rw [e]
    rcases List.mem_append.mp hb with z | z
    · have := h.le b z
      omega
    · rw [List.mem_singleton.mp z]
      omega
theorem desc_ages {ages : List Int} (h : ages.Pairwise (· < ·)) (s : Int) : Desc (ages.map fun a => s - a) := by
  unfold Desc
  rw [List.pairwise_map]
  exact h.imp fun {a b} z => by omega
theorem ItemOk.desc {rules : List (List Int × Int)} {turn : Int} {d : Nat} {it : Item} (h : ItemOk rules turn d it) : Desc it.L := desc_ages h.ag.pw it.start
theorem ItemOk.last {rules : List (List Int × Int)} {turn : Int} {d : Nat} {it : Item} (_ : ItemOk rules turn d it) {a : Int} (ha : it.ages.getLast? = some a) : it.L.getLast? = some (it.start - a) := by
  unfold Item.L
  rw [List.getLast?_map, ha]
  rfl
/-- the item behind a step -/
def Item.next (it : Item) (nd : Node) (a n : Int) : Item := ⟨nd, it.start, it.ages ++ [a + n]⟩
theorem Item.next_L (it : Item) (nd : Node) (a n : Int) : (it.next nd a n).L = it.L ++ [it.start - a - n] := by
  unfold Item.next Item.L
  simp
  omega
theorem ItemOk.next {rules : List (List Int × Int)} {turn : Int} (T : TurnOf turn rules) {d : Nat} {it : Item} (h : ItemOk rules turn d it) {a : Int} (ha : it.ages.getLast? = some a) {n : Nat} (h1 : 1 ≤ n) (h2 : (n : Int) ≤ 2 * turn) : ItemOk rules turn (d + 1) (it.next (entF rules turn it.nd n).2.1 a n) := by
  refine ⟨h.ag.snoc ha (by omega) h2 T.pos, h.s0, h.s1, ?_⟩
  rw [Item.next_L]
  show (entF rules turn it.nd n).2.1 = _
  rw [h.nd, entF_at T (h.last ha)]
/-- all steps of a node lead on, to known nodes -/
def Leads (rules : List (List Int × Int)) (turn : Int) (K : List Node) (nd : Node) (m : Nat) : Prop := ∀ n : Nat, 1 ≤ n → n ≤ m → (entF rules turn nd n).2.2 ≠ [0] ∧ (entF rules turn nd n).2.1 ∈ K
def LeadsAll (rules : List (List Int × Int)) (turn : Int) (K : List Node) (nd : Node) : Prop := Leads rules turn K nd (2 * turn).toNat
theorem Leads.mono {rules : List (List Int × Int)} {turn : Int} {K K' : List Node} {nd : Node} {m : Nat} (h : Leads rules turn K nd m) (s : ∀ z ∈ K, z ∈ K') : Leads rules turn K' nd m := fun n h1 h2 => ⟨(h n h1 h2).1, s _ (h n h1 h2).2⟩
/-- what is so at the head of a turn of the loop -/
structure Bfs (rules : List (List Int × Int)) (turn : Int) (d : Nat) (D K : List Node) (layer : List Item) : Prop where
  ok : ∀ it ∈ layer, ItemOk rules turn d it
  done : ∀ nd ∈ D, LeadsAll rules turn K nd
  kn : ∀ nd ∈ K, nd ∈ D ∨ ∃ it ∈ layer, it.nd = nd
  all : ∀ L : List Int, L ≠ [] → Desc L → L.length ≤ d + 1 → nodeF rules turn L ∈ D ∨ (L.length = d + 1 ∧ ∃ it ∈ layer, it.nd = nodeF rules turn L)
theorem nodeF_one {rules : List (List Int × Int)} {turn : Int} (T : TurnOf turn rules) (p : Int) : nodeF rules turn [p] = (p % turn, rules.map fun _ => ((1 : Int), true)) := by
  unfold nodeF nodeAt
  simp only [List.getLast?_singleton, Option.getD_some, Prod.mk.injEq, true_and]
  exact List.map_congr_left fun ru hru => stR_first (T.ok ru hru).m p
/-- at first: all places -/
def layer0 (rules : List (List Int × Int)) (turn : Int) : List Item := (List.range turn.toNat).map fun p : Nat => ⟨((p : Int), rules.map fun _ => ((1 : Int), true)), (p : Int), [0]⟩
theorem Bfs.first {rules : List (List Int × Int)} {turn : Int} (T : TurnOf turn rules) : Bfs rules turn 0 [] [] (layer0 rules turn) := by
  have hp := T.pos
  refine ⟨fun it hit => ?_, fun nd h => by simp at h, fun nd h => by simp at h, fun L hL hd hl => .inr ⟨?_, ?_⟩⟩
  · obtain ⟨p, hpm, rfl⟩ := List.mem_map.mp hit
    have hlt : (p : Int) < turn := by have := List.mem_range.mp hpm; omega
    refine ⟨⟨rfl, rfl, List.pairwise_singleton _ _, fun a ha => ?_⟩, Int.natCast_nonneg p, hlt, ?_⟩
    · rw [List.mem_singleton.mp ha]; simp
    · show _ = nodeF rules turn [(p : Int) - 0]
      rw [nodeF_one T, Int.sub_zero, Int.emod_eq_of_lt (Int.natCast_nonneg p) hlt]
  · have := List.length_pos_iff.mpr hL
    omega
  · cases L with
    | nil => exact absurd rfl hL
    | cons y L =>
      have : L = [] := by
        have : L.length = 0 := by rw [List.length_cons] at hl; omega
        exact List.length_eq_zero_iff.mp this
      subst this
      have g0 := Int.emod_nonneg y (show turn ≠ 0 by omega)
      have g1 := Int.emod_lt_of_pos y (show 0 < turn by omega)
      refine ⟨⟨(y % turn, rules.map fun _ => ((1 : Int), true)), y % turn, [0]⟩, List.mem_map.mpr ⟨(y % turn).toNat, List.mem_range.mpr (by omega), ?_⟩, (nodeF_one T y).symm⟩
      rw [Int.toNat_of_nonneg g0]
/-- while a layer is gone through: so many of its items, so many steps of the next one -/
structure BfsIn (rules : List (List Int × Int)) (turn : Int) (d : Nat) (K K' : List Node) (layer later : List Item) (i j : Nat) : Prop where
  sub : ∀ z ∈ K, z ∈ K'
  ok : ∀ it ∈ later, ItemOk rules turn (d + 1) it
  kn : ∀ nd ∈ K', nd ∈ K ∨ ∃ it ∈ later, it.nd = nd
  dn : ∀ (k : Nat) it, k < i → layer[k]? = some it → LeadsAll rules turn K' it.nd
  cur : ∀ it, layer[i]? = some it → Leads rules turn K' it.nd j
  size : K'.length = K.length + later.length
theorem BfsIn.first {rules : List (List Int × Int)} {turn : Int} {d : Nat} {K : List Node} {layer : List Item} : BfsIn rules turn d K K layer [] 0 0 :=
  ⟨fun _ h => h, fun _ h => by simp at h, fun _ h => .inl h, fun k _ h => absurd h (Nat.not_lt_zero _), fun _ _ n h1 h2 => by omega, by simp⟩
theorem BfsIn.item {rules : List (List Int × Int)} {turn : Int} {d : Nat} {K K' : List Node} {layer later : List Item} {i : Nat} (h : BfsIn rules turn d K K' layer later i (2 * turn).toNat) : BfsIn rules turn d K K' layer later (i + 1) 0 :=
  ⟨h.sub, h.ok, h.kn, fun k it hk e => by
    rcases Nat.lt_or_ge k i with z | z
    · exact h.dn k it z e
    · have : k = i := by omega
      subst this
      exact h.cur it e, fun _ _ n h1 h2 => by omega, h.size⟩
/-- a step to a known node -/
theorem BfsIn.old {rules : List (List Int × Int)} {turn : Int} {d : Nat} {K K' : List Node} {layer later : List Item} {i j : Nat} {it : Item} (h : BfsIn rules turn d K K' layer later i j) (hi : layer[i]? = some it) (hb : (entF rules turn it.nd (j + 1)).2.2 ≠ [0]) (hk : (entF rules turn it.nd (j + 1)).2.1 ∈ K') : BfsIn rules turn d K K' layer later i (j + 1) :=
  ⟨h.sub, h.ok, h.kn, h.dn, fun it' e n h1 h2 => by
    rw [hi] at e; cases e
    rcases Nat.lt_or_ge n (j + 1) with z | z
    · exact h.cur it hi n h1 (by omega)
    · have : n = j + 1 := by omega
      subst this
      exact ⟨hb, hk⟩, h.size⟩
/-- .. to a new one -/
theorem BfsIn.new {rules : List (List Int × Int)} {turn : Int} (T : TurnOf turn rules) {d : Nat} {K K' : List Node} {layer later : List Item} {i j : Nat} {it : Item} (h : BfsIn rules turn d K K' layer later i j) (hi : layer[i]? = some it) (hit : ItemOk rules turn d it) (hb : (entF rules turn it.nd (j + 1)).2.2 ≠ [0]) {a : Int} (ha : it.ages.getLast? = some a) (hj : ((j + 1 : Nat) : Int) ≤ 2 * turn) :
    BfsIn rules turn d K (K' ++ [(entF rules turn it.nd (j + 1)).2.1]) layer (later ++ [it.next (entF rules turn it.nd (j + 1)).2.1 a ((j + 1 : Nat) : Int)]) i (j + 1) := by
  refine ⟨fun z hz => List.mem_append_left _ (h.sub z hz), fun q hq => ?_, fun nd hnd => ?_, fun k q hk e => (h.dn k q hk e).mono fun z hz => List.mem_append_left _ hz, fun it' e n h1 h2 => ?_, ?_⟩
  · rcases List.mem_append.mp hq with hq | hq
    · exact h.ok q hq
    · rw [List.mem_singleton.mp hq]
      exact hit.next T ha (by omega) hj
  · rcases List.mem_append.mp hnd with hnd | hnd
    · rcases h.kn nd hnd with z | ⟨q, hq, e⟩
      · exact .inl z
      · exact .inr ⟨q, List.mem_append_left _ hq, e⟩
    · exact .inr ⟨_, List.mem_append_right _ (List.mem_singleton.mpr rfl), (List.mem_singleton.mp hnd).symm⟩
  · rw [hi] at e; cases e
    rcases Nat.lt_or_ge n (j + 1) with z | z
    · obtain ⟨h3, h4⟩ := h.cur it hi n h1 (by omega)
      exact ⟨h3, List.mem_append_left _ h4⟩
    · have : n = j + 1 := by omega
      subst this
      exact ⟨hb, List.mem_append_right _ (List.mem_singleton.mpr rfl)⟩
  · rw [List.length_append, List.length_append, h.size]
    simp
    omega
theorem Bfs.next {rules : List (List Int × Int)} {turn : Int} (T : TurnOf turn rules) {d : Nat} {D K K' : List Node} {layer later : List Item} (h : Bfs rules turn d D K layer) (g : BfsIn rules turn d K K' layer later layer.length 0) : Bfs rules turn (d + 1) (D ++ layer.map Item.nd) K' later := by
  have hD : ∀ nd ∈ D ++ layer.map Item.nd, LeadsAll rules turn K' nd := fun nd hnd => by
    rcases List.mem_append.mp hnd with z | z
    · exact (h.done nd z).mono g.sub
    · obtain ⟨it, hit, rfl⟩ := List.mem_map.mp z
      obtain ⟨k, hk⟩ := List.mem_iff_getElem?.mp hit
      exact g.dn k it (List.getElem?_eq_some_iff.mp hk).1 hk
  have hK : ∀ nd ∈ K', nd ∈ D ++ layer.map Item.nd ∨ ∃ it ∈ later, it.nd = nd := fun nd hnd => by
    rcases g.kn nd hnd with z | z
    · rcases h.kn nd z with z | ⟨it, hit, e⟩
      · exact .inl (List.mem_append_left _ z)
      · exact .inl (List.mem_append_right _ (List.mem_map.mpr ⟨it, hit, e⟩))
    · exact .inr z
  have old : ∀ L : List Int, L ≠ [] → Desc L → L.length ≤ d + 1 → nodeF rules turn L ∈ D ++ layer.map Item.nd := fun L h1 h2 h3 => by
    rcases h.all L h1 h2 h3 with z | ⟨_, it, hit, e⟩
    · exact List.mem_append_left _ z
    · exact List.mem_append_right _ (List.mem_map.mpr ⟨it, hit, e⟩)
  refine ⟨g.ok, hD, hK, fun L hL hd hl => ?_⟩
  rcases Nat.lt_or_ge L.length (d + 2) with z | z
  · exact .inl (old L hL hd (by omega))
  · rcases snoc_cases' L with e | ⟨l, x, e⟩
    · exact absurd e hL
    · subst e
      have hll : l.length = d + 1 := by
        rw [List.length_append] at z hl
        simp at z hl
        omega
      have hl0 : l ≠ [] := fun e => by rw [e] at hll; simp at hll
      have hdl : Desc l := hd.sublist (List.sublist_append_left _ _)
      rcases snoc_cases' l with e | ⟨m, y, e⟩
      · exact absurd e hl0
      have hy : l.getLast? = some y := by rw [e]; simp
      have hxy : x < y := by
        have := (List.pairwise_append.mp hd).2.2 y (by rw [e]; simp) x (by simp)
        omega
      obtain ⟨n, h1, h2, h3⟩ := reach T hy hxy
      have hL2 := hD _ (old l hl0 hdl (by omega)) n h1 (by omega)
      rw [h3] at hL2
      rcases hK _ hL2.2 with q | ⟨it, hit, q⟩
      · exact .inl q
      · exact .inr ⟨by omega, it, hit, q⟩
/-- fewer nights show nothing -/
theorem Bfs.few {rule : List Int × Int} {ot : List (List Int × Int)} {turn : Int} (T : TurnOf turn (rule :: ot)) {d : Nat} {D K : List Node} {layer : List Item} (h : Bfs (rule :: ot) turn d D K layer) {L : List Int} {x : Int} (hL : L ≠ []) (hd : Desc (L ++ [x])) (hl : L.length ≤ d) : ¬ Hit rule ot L x := fun hh => by
  have hdl : Desc L := hd.sublist (List.sublist_append_left _ _)
  rcases h.all L hL hdl (by omega) with z | ⟨z, _⟩
  · rcases snoc_cases' L with e | ⟨m, y, e⟩
    · exact hL e
    have hy : L.getLast? = some y := by rw [e]; simp
    have hxy : x < y := by
      have := (List.pairwise_append.mp hd).2.2 y (by rw [e]; simp) x (by simp)
      omega
    obtain ⟨n, h1, h2, h3⟩ := reach T hy hxy
    have := (h.done _ z n h1 (by omega)).1
    rw [h3] at this
    exact this (by_zero.mpr hh)
  · omega
/-- when nothing is left, nothing shows it -/
theorem Bfs.none {rule : List Int × Int} {ot : List (List Int × Int)} {turn : Int} (T : TurnOf turn (rule :: ot)) {d : Nat} {D K : List Node} (h : Bfs (rule :: ot) turn d D K []) {L : List Int} {x : Int} (hL : L ≠ []) (hd : Desc (L ++ [x])) : ¬ Hit rule ot L x := by
  have all : ∀ (k : Nat) (L : List Int), L.length = k + 1 → Desc L → nodeF (rule :: ot) turn L ∈ D := by
    intro k
    induction k with
    | zero =>
      intro L hl hdl
      rcases h.all L (fun e => by rw [e] at hl; simp at hl) hdl (by omega) with z | ⟨_, it, hit, _⟩
      · exact z
      · simp at hit
    | succ k ih =>
      intro L hl hdl
      rcases snoc_cases' L with e | ⟨l, x, e⟩
      · rw [e] at hl; simp at hl
      subst e
      have hll : l.length = k + 1 := by simp at hl; omega
      have hD := ih l hll (hdl.sublist (List.sublist_append_left _ _))
      rcases snoc_cases' l with e | ⟨m, y, e⟩
      · rw [e] at hll; simp at hll
      have hy : l.getLast? = some y := by rw [e]; simp
      have hxy : x < y := by
        have := (List.pairwise_append.mp hdl).2.2 y (by rw [e]; simp) x (by simp)
        omega
      obtain ⟨n, h1, h2, h3⟩ := reach T hy hxy
      have := (h.done _ hD n h1 (by omega)).2
      rw [h3] at this
      rcases h.kn _ this with q | ⟨it, hit, _⟩
      · exact q
      · simp at hit
  intro hh
  have hl := List.length_pos_iff.mpr hL
  have hD := all (L.length - 1) L (by omega) (hd.sublist (List.sublist_append_left _ _))
  rcases snoc_cases' L with e | ⟨m, y, e⟩
  · exact hL e
  have hy : L.getLast? = some y := by rw [e]; simp
  have hxy : x < y := by
    have := (List.pairwise_append.mp hd).2.2 y (by rw [e]; simp) x (by simp)
    omega
  obtain ⟨n, h1, h2, h3⟩ := reach T hy hxy
  have := (h.done _ hD n h1 (by omega)).1
  rw [h3] at this
  exact this (by_zero.mpr hh)
/-- the nights that are told -/
def toldN (turn start : Int) (ages : List Int) (m : Int) : List Int := (ages.map fun a => start + (m / turn + 1) * turn - a).reverse
/-- a step shows it -/
theorem found_hit {rule : List Int × Int} {ot : List (List Int × Int)} {turn : Int} (T : TurnOf turn (rule :: ot)) {d : Nat} {it : Item} (hit : ItemOk (rule :: ot) turn d it) {a : Int} (ha : it.ages.getLast? = some a) {n : Nat} (h1 : 1 ≤ n) (hb : (entF (rule :: ot) turn it.nd n).2.2 = [0]) : Hit rule ot it.L (it.start - a - n) := by
  rw [hit.nd, entF_at T (hit.last ha)] at hb
  exact by_zero.mp hb
theorem told_rise {turn : Int} {d : Nat} {ages : List Int} (h : AgesOk turn d ages) (start m : Int) : (toldN turn start ages m).Pairwise (· < ·) := by
  unfold toldN
  rw [List.pairwise_reverse]
  have := desc_ages h.pw (start + (m / turn + 1) * turn)
  exact this
theorem told_bnd {turn : Int} (ht : 1 ≤ turn) {d : Nat} {ages : List Int} (h : AgesOk turn d ages) {start m : Int} (s0 : 0 ≤ start) (s1 : start < turn) (hm : m ∈ ages) (hx : ∀ b ∈ ages, b ≤ m) : ∀ z ∈ toldN turn start ages m, 0 ≤ z ∧ z ≤ 2 * turn + 2 * turn * d := by
  intro z hz
  unfold toldN at hz
  rw [List.mem_reverse] at hz
  obtain ⟨a, ha, rfl⟩ := List.mem_map.mp hz
  have h1 := h.le a ha
  have h2 := hx a ha
  have h3 := h.le m hm
  have h4 := Int.emod_add_mul_ediv m turn
  have h5 := Int.emod_nonneg m (show turn ≠ 0 by omega)
  have h6 := Int.emod_lt_of_pos m (show 0 < turn by omega)
  have e : (m / turn + 1) * turn = turn * (m / turn) + turn := by rw [Int.add_mul, Int.mul_comm]; omega
  rw [e]
  omega
theorem told_wit {rule : List Int × Int} {ot : List (List Int × Int)} {turn : Int} (T : TurnOf turn (rule :: ot)) {d : Nat} {it : Item} (hit : ItemOk (rule :: ot) turn d it) {a : Int} (ha : it.ages.getLast? = some a) {n : Nat} (h1 : 1 ≤ n) (hb : (entF (rule :: ot) turn it.nd n).2.2 = [0]) (m : Int) : Wit rule ot (toldN turn it.start (it.ages ++ [a + n]) m) := by
  have hh := (found_hit T hit ha h1 hb).shift T (m / turn + 1)
  have e : toldN turn it.start (it.ages ++ [a + n]) m = ((it.L.map (· + (m / turn + 1) * turn)) ++ [it.start - a - n + (m / turn + 1) * turn]).reverse := by
    unfold toldN Item.L
    rw [List.map_append, List.map_map]
    congr 2
    · exact List.map_congr_left fun b _ => by show _ = it.start - b + _; omega
    · simp
      omega
  rw [e]
  refine hh.wit (fun hz => ?_) (T.ok rule (by simp)).m fun o hO => T.ok o (by simp [hO])
  obtain ⟨y, hy, e2⟩ := List.mem_map.mp hz
  have hy2 : y = it.start - a - n := by have e2 : y + _ = _ := e2; omega
  obtain ⟨b, hb2, e3⟩ := List.mem_map.mp hy
  obtain ⟨a', ha', hmx⟩ := hit.ag.last
  rw [ha] at ha'
  cases ha'
  have := hmx b hb2
  omega
/-! all nodes -/
def combos : List (List Int × Int) → List Seen
  | [] => [[]]
  | ru :: rs => (List.range ru.2.toNat).flatMap fun c : Nat => (combos rs).map fun s => (((c : Int) + 1), true) :: s
def allNodes (rules : List (List Int × Int)) (turn : Int) : List Node := (List.range turn.toNat).flatMap fun p : Nat => (combos rules).map fun s => ((p : Int), s)
theorem flat_len {α β : Type} {n : Nat} {f : α → List β} : ∀ {l : List α}, (∀ a ∈ l, (f a).length = n) → (l.flatMap f).length = l.length * n
  | [], _ => by simp
  | a :: l, h => by
    rw [List.flatMap_cons, List.length_append, flat_len (l := l) fun b hb => h b (by simp [hb]), h a (by simp), List.length_cons, Nat.add_mul]
    omega
theorem combos_len : ∀ {rules : List (List Int × Int)}, (∀ ru ∈ rules, ru.2 ≤ 4) → (combos rules).length ≤ 4 ^ rules.length
  | [], _ => by simp [combos]
  | ru :: rs, h => by
    have ih := combos_len (rules := rs) fun q hq => h q (by simp [hq])
    unfold combos
    rw [flat_len (n := (combos rs).length) (fun _ _ => by rw [List.length_map]), List.length_range, List.length_cons, Nat.pow_succ, Nat.mul_comm _ 4]
    have := h ru (by simp)
    exact Nat.mul_le_mul (by omega) ih
theorem allNodes_len {rules : List (List Int × Int)} {turn : Int} (h : ∀ ru ∈ rules, ru.2 ≤ 4) (ht : turn ≤ 12) : (allNodes rules turn).length ≤ 12 * 4 ^ rules.length := by
  unfold allNodes
  rw [flat_len (n := (combos rules).length) (fun _ _ => by rw [List.length_map]), List.length_range]
  exact Nat.mul_le_mul (by omega) (combos_len h)
theorem mem_combos {L : List Int} (hL : L ≠ []) : ∀ {rules : List (List Int × Int)}, (∀ ru ∈ rules, 1 ≤ ru.2) → (rules.map fun ru => (min ru.2 ((endsR ru.1 none L).length : Int), true)) ∈ combos rules
  | [], _ => by simp [combos]
  | ru :: rs, h => by
    have ih := mem_combos hL (rules := rs) fun q hq => h q (by simp [hq])
    unfold combos
    rw [List.mem_flatMap]
    have h1 := h ru (by simp)
    have h2 : 1 ≤ (endsR ru.1 none L).length := by
      cases L with
      | nil => exact absurd rfl hL
      | cons n l => unfold endsR; simp
    refine ⟨(min ru.2 ((endsR ru.1 none L).length : Int) - 1).toNat, List.mem_range.mpr (by omega), List.mem_map.mpr ⟨_, ih, ?_⟩⟩
    rw [List.map_cons]
    congr 2
    omega
theorem nodeF_all {rules : List (List Int × Int)} {turn : Int} (T : TurnOf turn rules) {L : List Int} (hL : L ≠ []) : nodeF rules turn L ∈ allNodes rules turn := by
  rcases snoc_cases' L with e | ⟨l, y, e⟩
  · exact absurd e hL
  have hp := T.pos
  have g0 := Int.emod_nonneg y (show turn ≠ 0 by omega)
  have g1 := Int.emod_lt_of_pos y (show 0 < turn by omega)
  have hn : nodeF rules turn L = (y % turn, rules.map fun ru => (min ru.2 ((endsR ru.1 none L).length : Int), true)) := by
    subst e
    rw [nodeF_snoc]
    unfold nodeAt stR
    simp only [lastN_snoc]
    simp
  rw [hn]
  unfold allNodes
  rw [List.mem_flatMap]
  refine ⟨(y % turn).toNat, List.mem_range.mpr (by omega), List.mem_map.mpr ⟨_, mem_combos hL fun ru hru => (T.ok ru hru).m, ?_⟩⟩
  rw [Int.toNat_of_nonneg g0]
theorem nodup_leN : ∀ {l m : List Node}, l.Nodup → (∀ z ∈ l, z ∈ m) → l.length ≤ m.length
  | [], _, _, _ => by simp
  | a :: l, m, hn, hs => by
    obtain ⟨h1, h2⟩ := List.nodup_cons.mp hn
    have ha : a ∈ m := hs a (by simp)
    have := nodup_leN (l := l) (m := m.erase a) h2 fun z hz => (List.mem_erase_of_ne (fun e => h1 (by rw [← e]; exact hz))).mpr (hs z (by simp [hz]))
    rw [List.length_erase_of_mem ha] at this
    have := List.length_pos_of_mem ha
    simp only [List.length_cons]
    omega
theorem known_le {rules : List (List Int × Int)} {turn : Int} (h4 : ∀ ru ∈ rules, ru.2 ≤ 4) (hl : rules.length ≤ 4) (ht : turn ≤ 12) {K : List Node} (hn : K.Nodup) (hs : ∀ z ∈ K, z ∈ allNodes rules turn) : K.length ≤ 3072 := by
  have h1 := nodup_leN hn hs
  have h2 := allNodes_len h4 ht
  have h3 : (4 : Nat) ^ rules.length ≤ 4 ^ 4 := Nat.pow_le_pow_right (by decide) hl
  have h4 : (4 : Nat) ^ 4 = 256 := by decide
  omega
end Nk
/-! ### two rules with rounds of one length: plain mathematics -/
namespace Nk
theorem rnds1 {w : Int} (h : 1 ≤ w) : Rnds [w] := ⟨by simp, fun r hr => by rw [List.mem_singleton.mp hr]; exact h⟩
theorem numOf1 {w : Int} (h : 1 ≤ w) (n : Int) : numOf [w] n = n / w := by
  have e : [w].sum = w := by simp
  unfold numOf walkR
  rw [e, if_pos (Int.emod_lt_of_pos n (by omega))]
  simp
theorem ediv2 {o : Int} (ho : 1 ≤ o) (n q : Int) : n / o / q = n / (o * q) := by
  rw [Int.ediv_ediv, if_neg (fun h => by have := h.1; omega), Int.sub_zero]
theorem ends_two {o q : Int} (ho : 1 ≤ o) (hq : 1 ≤ q) : ∀ (n : Nat) (l : List Int) (y : Int), l.length = n → Desc (l ++ [y]) → ((endsR [o] none (l ++ [y])).length : Int) + (y / o) % q ≤ q * ((endsR [o * q] none (l ++ [y])).length : Int)
  | 0, l, y, hl, _ => by
    have : l = [] := List.length_eq_zero_iff.mp hl
    subst this
    simp only [List.nil_append, endsR]
    have h1 := Int.emod_lt_of_pos (y / o) (show 0 < q by omega)
    simp
    omega
  | n + 1, l, x, hl, hd => by
    rcases snoc_cases' l with e | ⟨m, y, e⟩
    · rw [e] at hl; simp at hl
    subst e
    have hm : m.length = n := by simp at hl; omega
    have hdm : Desc (m ++ [y]) := hd.sublist (List.sublist_append_left _ _)
    have ih := ends_two ho hq n m y hm hdm
    have hxy : x < y := (List.pairwise_append.mp hd).2.2 y (by simp) x (by simp)
    have hw : 1 ≤ o * q := Int.mul_pos (by omega) (by omega)
    rw [endsR_snoc [o], endsR_snoc [o * q], lastN_snoc, lastN_snoc, numOf1 ho, numOf1 ho, numOf1 hw, numOf1 hw]
    have e1 : y / (o * q) = y / o / q := (ediv2 ho _ q).symm
    have e2 : x / (o * q) = x / o / q := (ediv2 ho _ q).symm
    have hle : x / o ≤ y / o := Int.ediv_le_ediv (by omega) (by omega)
    have d1 := Int.emod_add_mul_ediv (y / o) q
    have d2 := Int.emod_add_mul_ediv (x / o) q
    have b1 := Int.emod_nonneg (x / o) (show q ≠ 0 by omega)
    have b2 := Int.emod_lt_of_pos (x / o) (show 0 < q by omega)
    have b3 := Int.emod_nonneg (y / o) (show q ≠ 0 by omega)
    rw [e1, e2]
    by_cases c : y / o = x / o
    · rw [c]
      simp only [if_true, List.append_nil]
      rw [c] at ih
      exact ih
    · rw [if_neg (by simpa using c)]
      by_cases c2 : y / o / q = x / o / q
      · rw [if_pos (by rw [c2])]
        simp only [List.append_nil, List.length_append, List.length_singleton]
        rw [c2] at d1
        push_cast
        omega
      · rw [if_neg (by simpa using c2)]
        simp only [List.length_append, List.length_singleton]
        push_cast
        rw [Int.mul_add]
        omega
/-- by the plain words, one rule keeps all that another one does -/
def covTwo (w m o c : Int) : Prop := m = 1 ∨ (w % o = 0 ∧ (m - 1) * (w / o) < c)
instance (w m o c : Int) : Decidable (covTwo w m o c) := by unfold covTwo; infer_instance
theorem cov_two {w m o c : Int} (hw : 1 ≤ w) (hm : 1 ≤ m) (ho : 1 ≤ o) (hc : 1 ≤ c) (h : covTwo w m o c) : ∀ ns : List Int, ns.Pairwise (· < ·) → ¬ Wit ([w], m) [([o], c)] ns := by
  intro ns hns hwit
  obtain ⟨L, x, hL, hd, hh, _⟩ := hwit.hit hns ⟨rnds1 hw, hm⟩ (fun q hq => by rw [List.mem_singleton.mp hq]; exact ⟨rnds1 ho, hc⟩) (by simp)
  obtain ⟨⟨k1, k2⟩, hn⟩ := hh
  have k3 := hn _ (List.mem_singleton.mpr rfl)
  have k1 : ((endsR [w] none L).length : Int) < m := k1
  rcases snoc_cases' L with e | ⟨l, y, e⟩
  · exact hL e
  rcases h with h | ⟨h1, h2⟩
  · have : 1 ≤ (endsR [w] none L).length := by
      cases L with
      | nil => exact absurd rfl hL
      | cons n l => unfold endsR; simp
    omega
  · obtain ⟨q, hq⟩ := Int.dvd_of_emod_eq_zero h1
    have hq1 : 1 ≤ q := by
      by_cases c : 1 ≤ q
      · exact c
      · have : o * q ≤ o * 0 := Int.mul_le_mul_of_nonneg_left (by omega) (by omega)
        omega
    have eq : w / o = q := by rw [hq]; exact Int.mul_ediv_cancel_left q (by omega)
    rw [eq] at h2
    have hxy : x < y := (List.pairwise_append.mp hd).2.2 y (by rw [e]; simp) x (by simp)
    have hly : lastN [o] none L = some (y / o) := by rw [e, lastN_snoc, numOf1 ho]
    have hlw : lastN [w] none L = some (y / w) := by rw [e, lastN_snoc, numOf1 hw]
    have two := ends_two ho hq1 l.length l y rfl (by rw [← e]; exact hd.sublist (List.sublist_append_left _ _))
    rw [← e, ← hq] at two
    have b3 := Int.emod_nonneg (y / o) (show q ≠ 0 by omega)
    apply k3
    refine ⟨?_, fun z => ?_⟩
    · show ((endsR [o] none L).length : Int) < c
      have : q * ((endsR [w] none L).length : Int) ≤ q * (m - 1) := Int.mul_le_mul_of_nonneg_left (by omega) (by omega)
      rw [Int.mul_comm (m - 1)] at h2
      omega
    · have z : lastN [o] none L = some (numOf [o] x) := z
      rw [hly, numOf1 ho] at z
      have z := Option.some.inj z
      apply k2
      show lastN [w] none L = some (numOf [w] x)
      rw [hlw, numOf1 hw, hq, ← ediv2 ho y q, ← ediv2 ho x q, z]
/-- nights that show it, where it is not so -/
def showTwo (w m o : Int) : List Int := if w % o = 0 then ((List.range ((m - 1) * (w / o)).toNat).reverse.map fun j : Nat => w + o * j) else [w]
def okTwo (w m o c : Int) : Bool := decide (covTwo w m o c) || (decide (keepsAt ([w], m) (showTwo w m o) (w - 1)) && !decide (keepsAt ([o], c) (showTwo w m o) (w - 1)) && decide ((showTwo w m o ++ [w - 1]).Pairwise (· > ·)))
def upTo1 (n : Nat) : List Int := (List.range n).map fun k : Nat => (k : Int) + 1
theorem all_two : ((upTo1 6).all fun w => (upTo1 4).all fun m => (upTo1 6).all fun o => (upTo1 4).all fun c => okTwo w m o c) = true := by decide +kernel
theorem mem_upTo1 {n : Nat} {k : Int} (h1 : 1 ≤ k) (h2 : k ≤ n) : k ∈ upTo1 n := List.mem_map.mpr ⟨(k - 1).toNat, List.mem_range.mpr (by omega), by omega⟩
theorem not_cov_two {w m o c : Int} (hw : 1 ≤ w) (hw6 : w ≤ 6) (hm : 1 ≤ m) (hm4 : m ≤ 4) (ho : 1 ≤ o) (ho6 : o ≤ 6) (hc : 1 ≤ c) (hc4 : c ≤ 4) (h : ¬ covTwo w m o c) : ∃ ns : List Int, ns.Pairwise (· < ·) ∧ Wit ([w], m) [([o], c)] ns := by
  have h1 := List.all_eq_true.mp (List.all_eq_true.mp (List.all_eq_true.mp (List.all_eq_true.mp all_two w (mem_upTo1 hw (by omega))) m (mem_upTo1 hm (by omega))) o (mem_upTo1 ho (by omega))) c (mem_upTo1 hc (by omega))
  unfold okTwo at h1
  simp only [Bool.or_eq_true, Bool.and_eq_true, decide_eq_true_eq, Bool.not_eq_true', decide_eq_false_iff_not] at h1
  rcases h1 with z | ⟨⟨k1, k2⟩, k3⟩
  · exact absurd z h
  · have hd : Desc (showTwo w m o ++ [w - 1]) := k3
    refine ⟨(showTwo w m o ++ [w - 1]).reverse, List.pairwise_reverse.mpr hd, Hit.wit ⟨k1, fun q hq => by rw [List.mem_singleton.mp hq]; exact k2⟩ (fun z => ?_) hm (fun q hq => by rw [List.mem_singleton.mp hq]; exact ⟨rnds1 ho, hc⟩)⟩
    have := (List.pairwise_append.mp hd).2.2 _ z (w - 1) (by simp)
    omega
end Nk
/-! ### rules struck, from the last to the first: plain mathematics -/
namespace Nk
abbrev Ru := List Int × Int
/-- rules that are still there: those up to a place, and a tail behind; each is struck that C tells -/
def strikeF (C : Ru → List Ru → Bool) : Nat → List Ru → List Ru → List Ru
  | 0, _, tail => tail
  | k + 1, rules, tail => match rules[k]? with
    | some r => if C r (rules.take k ++ tail) = true then strikeF C k rules tail else strikeF C k rules (r :: tail)
    | none => strikeF C k rules tail
theorem strikeF_sub (C : Ru → List Ru → Bool) : ∀ (k : Nat) (rules tail : List Ru), (strikeF C k rules tail).Sublist (rules.take k ++ tail)
  | 0, rules, tail => by simp [strikeF]
  | k + 1, rules, tail => by
    unfold strikeF
    cases e : rules[k]? with
    | none =>
      have : rules.take (k + 1) = rules.take k := by
        rw [List.take_add_one, e]; simp
      rw [this]
      exact strikeF_sub C k rules tail
    | some r =>
      have : rules.take (k + 1) = rules.take k ++ [r] := by
        rw [List.take_add_one, e]; rfl
      rw [this, List.append_assoc]
      simp only
      split
      · exact (strikeF_sub C k rules tail).trans ((List.Sublist.refl _).append (List.sublist_append_right _ _))
      · exact strikeF_sub C k rules (r :: tail)
theorem strikeF_congr {C D : Ru → List Ru → Bool} : ∀ (k : Nat) (rules tail : List Ru), (∀ (j : Nat) r (ot : List Ru), j < k → rules[j]? = some r → ot.length ≤ j + (k - 1 - j) + tail.length → (∀ q ∈ ot, q ∈ rules ∨ q ∈ tail) → C r ot = D r ot) → strikeF C k rules tail = strikeF D k rules tail
  | 0, rules, tail, _ => by simp [strikeF]
  | k + 1, rules, tail, h => by
    unfold strikeF
    cases e : rules[k]? with
    | none =>
      simp only
      exact strikeF_congr k rules tail fun j r ot hj hr hl ho => h j r ot (by omega) hr (by omega) ho
    | some r =>
      have hc : C r (rules.take k ++ tail) = D r (rules.take k ++ tail) := h k r _ (by omega) e (by rw [List.length_append, List.length_take]; omega) (fun q hq => by
        rcases List.mem_append.mp hq with z | z
        · exact .inl (List.mem_of_mem_take z)
        · exact .inr z)
      simp only
      rw [hc]
      split
      · exact strikeF_congr k rules tail fun j r ot hj hr hl ho => h j r ot (by omega) hr (by omega) ho
      · refine strikeF_congr k rules (r :: tail) fun j r' ot hj hr hl ho => h j r' ot (by omega) hr (by rw [List.length_cons] at hl; omega) fun q hq => ?_
        rcases ho q hq with z | z
        · exact .inl z
        · rcases List.mem_cons.mp z with rfl | z
          · exact .inl (List.mem_of_getElem? e)
          · exact .inr z
/-- others, some there, keep all that a rule keeps -/
noncomputable def covB (r : Ru) (ot : List Ru) : Bool := @decide (ot ≠ [] ∧ ∀ ns : List Int, ns.Pairwise (· < ·) → ¬ Wit r ot ns) (Classical.propDecidable _)
theorem covB_iff {r : Ru} {ot : List Ru} : covB r ot = true ↔ ot ≠ [] ∧ ∀ ns : List Int, ns.Pairwise (· < ·) → ¬ Wit r ot ns := by
  unfold covB
  exact @decide_eq_true_iff _ (Classical.propDecidable _)
theorem Wit.less {r : Ru} {ot ot' : List Ru} {ns : List Int} (h : Wit r ot ns) (s : ∀ q ∈ ot', q ∈ ot) : Wit r ot' ns := let ⟨x, h1, h2⟩ := h; ⟨x, h1, fun o ho => h2 o (s o ho)⟩
theorem keptF_mem {a b : List Ru} {ns : List Int} (h : ∀ x, (∃ r ∈ a, x ∈ keptBy r ns) ↔ ∃ r ∈ b, x ∈ keptBy r ns) : keptF a ns = keptF b ns := by
  unfold keptF
  refine List.filter_congr fun x _ => ?_
  rw [Bool.eq_iff_iff, List.any_eq_true, List.any_eq_true]
  simp only [decide_eq_true_eq]
  exact h x
/-- what strikes leave -/
structure LeanOk (rules L : List Ru) : Prop where
  kept : ∀ ns : List Int, ns.Pairwise (· < ·) → keptF rules ns = keptF L ns
  need : ∀ A r B, L = A ++ r :: B → A ++ B ≠ [] → ∃ ns : List Int, ns.Pairwise (· < ·) ∧ Wit r (A ++ B) ns
  ne : rules ≠ [] → L ≠ []
theorem lean_ok_at : ∀ (k : Nat) (rules tail : List Ru), (∀ A r B, tail = A ++ r :: B → rules.take k ++ (A ++ B) ≠ [] → ∃ ns : List Int, ns.Pairwise (· < ·) ∧ Wit r (rules.take k ++ (A ++ B)) ns) →
    (∀ ns : List Int, ns.Pairwise (· < ·) → keptF (rules.take k ++ tail) ns = keptF (strikeF covB k rules tail) ns) ∧ (∀ A r B, strikeF covB k rules tail = A ++ r :: B → A ++ B ≠ [] → ∃ ns : List Int, ns.Pairwise (· < ·) ∧ Wit r (A ++ B) ns) ∧ (rules.take k ++ tail ≠ [] → strikeF covB k rules tail ≠ [])
  | 0, rules, tail, h => by
    simp only [strikeF, List.take_zero, List.nil_append] at h ⊢
    exact ⟨fun _ _ => trivial, h, fun z => z⟩
  | k + 1, rules, tail, h => by
    unfold strikeF
    cases e : rules[k]? with
    | none =>
      have e2 : rules.take (k + 1) = rules.take k := by
        rw [List.take_add_one, e]; simp
      rw [e2] at h ⊢
      exact lean_ok_at k rules tail h
    | some r =>
      have e2 : rules.take (k + 1) = rules.take k ++ [r] := by
        rw [List.take_add_one, e]; rfl
      rw [e2] at h ⊢
      simp only
      by_cases c : covB r (rules.take k ++ tail) = true
      · rw [if_pos c]
        obtain ⟨c1, c2⟩ := covB_iff.mp c
        obtain ⟨i1, i2, i3⟩ := lean_ok_at k rules tail fun A q B hq hne => by
          obtain ⟨ns, n1, n2⟩ := h A q B hq (by simp)
          exact ⟨ns, n1, n2.less fun z hz => by
            rcases List.mem_append.mp hz with z' | z'
            · simp [z']
            · simp only [List.mem_append] at z' ⊢
              exact .inr z'⟩
        refine ⟨fun ns hns => ?_, i2, fun _ => i3 c1⟩
        rw [← i1 ns hns]
        refine keptF_mem fun x => ⟨?_, ?_⟩
        · rintro ⟨q, hq, hx⟩
          by_cases c3 : ∃ q' ∈ rules.take k ++ tail, x ∈ keptBy q' ns
          · exact c3
          · have hqr : q = r := by
              simp only [List.mem_append, List.mem_singleton] at hq
              rcases hq with (z | z) | z
              · exact absurd ⟨q, by simp [z], hx⟩ c3
              · exact z
              · exact absurd ⟨q, by simp [z], hx⟩ c3
            subst hqr
            exact absurd ⟨x, hx, fun o ho z => c3 ⟨o, ho, z⟩⟩ (c2 ns hns)
        · rintro ⟨q, hq, hx⟩
          refine ⟨q, ?_, hx⟩
          simp only [List.mem_append] at hq ⊢
          rcases hq with z | z
          · exact .inl (.inl z)
          · exact .inr z
      · rw [if_neg c]
        have e3 : rules.take k ++ [r] ++ tail = rules.take k ++ (r :: tail) := by simp
        rw [e3]
        refine lean_ok_at k rules (r :: tail) fun A q B hq hne => ?_
        cases A with
        | nil =>
          rw [List.nil_append] at hq
          obtain ⟨h1, h2⟩ := List.cons.inj hq
          subst h1 h2
          rw [List.nil_append] at hne ⊢
          by_cases c3 : ∀ ns : List Int, ns.Pairwise (· < ·) → ¬ Wit r (rules.take k ++ tail) ns
          · exact absurd (covB_iff.mpr ⟨hne, c3⟩) c
          · simp only [Classical.not_forall, Classical.not_not] at c3
            obtain ⟨ns, n1, n2⟩ := c3
            exact ⟨ns, n1, n2⟩
        | cons a A =>
          obtain ⟨h1, h2⟩ := List.cons.inj hq
          subst h1
          obtain ⟨ns, n1, n2⟩ := h A q B h2 (by simp)
          refine ⟨ns, n1, ?_⟩
          have e4 : rules.take k ++ (r :: A ++ B) = rules.take k ++ [r] ++ (A ++ B) := by simp
          rw [e4]
          exact n2
theorem lean_ok (rules : List Ru) : LeanOk rules (strikeF covB rules.length rules []) := by
  obtain ⟨h1, h2, h3⟩ := lean_ok_at rules.length rules [] fun A r B h => by simp at h
  rw [List.take_length, List.append_nil] at h1 h3
  exact ⟨h1, h2, h3⟩
/-- by the plain words: the first of the others -/
def struckB (r : Ru) (ot : List Ru) : Bool := match ot with
  | o :: _ => decide (covTwo (r.1.headD 0) r.2 (o.1.headD 0) o.2)
  | [] => false
theorem struck_cov {r o : Ru} (hr : ∃ w, r.1 = [w] ∧ 1 ≤ w ∧ w ≤ 6) (hr2 : 1 ≤ r.2 ∧ r.2 ≤ 4) (ho : ∃ w, o.1 = [w] ∧ 1 ≤ w ∧ w ≤ 6) (ho2 : 1 ≤ o.2 ∧ o.2 ≤ 4) : covB r [o] = struckB r [o] := by
  obtain ⟨w, e1, w1, w6⟩ := hr
  obtain ⟨v, e2, v1, v6⟩ := ho
  have er : r = ([w], r.2) := Prod.ext e1 rfl
  have eo : o = ([v], o.2) := Prod.ext e2 rfl
  unfold struckB
  rw [Bool.eq_iff_iff, covB_iff, decide_eq_true_eq, e1, e2]
  simp only [List.headD_cons]
  constructor
  · rintro ⟨_, h⟩
    by_cases c : covTwo w r.2 v o.2
    · exact c
    · obtain ⟨ns, n1, n2⟩ := not_cov_two w1 w6 hr2.1 hr2.2 v1 v6 ho2.1 ho2.2 c
      rw [er, eo] at h
      exact absurd n2 (h ns n1)
  · intro h
    refine ⟨by simp, ?_⟩
    rw [er, eo]
    exact cov_two w1 hr2.1 v1 ho2.1 h
end Nk
/-! ### the most that is kept: plain mathematics -/
namespace Nk
theorem endsR_filterM (rs : List Int) (p : Int → Bool) : ∀ (l : List Int) (ah : Option Int) (m : Nat), (∀ x ∈ (endsR rs ah l).take m, p x = true) → (endsR rs ah (l.filter p)).take m = (endsR rs ah l).take m
  | [], _, _, _ => rfl
  | x :: l, ah, m, h => by
    by_cases c : ah = some (numOf rs x)
    · have e : endsR rs ah (x :: l) = endsR rs ah l := by simp only [endsR]; rw [if_pos c, c]
      rw [e] at h ⊢
      rw [← endsR_filterM rs p l ah m h]
      by_cases px : p x = true
      · rw [List.filter_cons_of_pos px]
        have e2 : endsR rs ah (x :: l.filter p) = endsR rs ah (l.filter p) := by simp only [endsR]; rw [if_pos c, c]
        rw [e2]
      · rw [List.filter_cons_of_neg px]
    · have e : endsR rs ah (x :: l) = x :: endsR rs (some (numOf rs x)) l := by simp only [endsR]; rw [if_neg c]
      rw [e] at h ⊢
      cases m with
      | zero => simp
      | succ m =>
        rw [List.take_succ_cons] at h ⊢
        have px := h x List.mem_cons_self
        rw [List.filter_cons_of_pos px]
        have e2 : endsR rs ah (x :: l.filter p) = x :: endsR rs (some (numOf rs x)) (l.filter p) := by simp only [endsR]; rw [if_neg c]
        rw [e2, List.take_succ_cons, endsR_filterM rs p l _ m fun y hy => h y (List.mem_cons_of_mem _ hy)]
theorem keptBy_filterM {ru : List Int × Int} {ns : List Int} {p : Int → Bool} (h : ∀ x ∈ keptBy ru ns, p x = true) : keptBy ru (ns.filter p) = keptBy ru ns := by
  unfold keptBy at h ⊢
  rw [← List.filter_reverse]
  exact endsR_filterM _ p _ _ _ h
theorem keptF_keptFM {rus : List (List Int × Int)} {ns : List Int} (hn : ns.Pairwise (· < ·)) : keptF rus (keptF rus ns) = keptF rus ns := by
  have hb : ∀ ru ∈ rus, keptBy ru (keptF rus ns) = keptBy ru ns := fun ru hru => by
    unfold keptF
    refine keptBy_filterM fun x hx => ?_
    rw [List.any_eq_true]
    exact ⟨ru, hru, decide_eq_true hx⟩
  refine rise_ext (keptF_rise (keptF_rise hn)) (keptF_rise hn) fun x => ?_
  rw [mem_keptF, mem_keptF]
  constructor
  · rintro ⟨ru, h1, h2⟩
    exact ⟨ru, h1, by rw [← hb ru h1]; exact h2⟩
  · rintro ⟨ru, h1, h2⟩
    exact ⟨ru, h1, by rw [hb ru h1]; exact h2⟩
/-! the longest way -/
abbrev Ent := Int × Node × List Int
def pickB (f : Node → List Int) (best : List Int) (e : Ent) : List Int := if e.2.2 ≠ [] then (if best.length < (f e.2.1).length + 1 then e.1 :: f e.2.1 else best) else best
def bestN (rules : List (List Int × Int)) (turn : Int) : Nat → Node → List Int
  | 0, _ => []
  | f + 1, nd => (stepsF rules turn nd).foldl (pickB (bestN rules turn f)) []
theorem pick_fold (f : Node → List Int) : ∀ (es : List Ent) (b : List Int), b.length ≤ (es.foldl (pickB f) b).length ∧ (∀ e ∈ es, e.2.2 ≠ [] → (f e.2.1).length + 1 ≤ (es.foldl (pickB f) b).length) ∧ (es.foldl (pickB f) b = b ∨ ∃ e ∈ es, e.2.2 ≠ [] ∧ es.foldl (pickB f) b = e.1 :: f e.2.1)
  | [], b => ⟨Nat.le_refl _, fun e h => by simp at h, .inl rfl⟩
  | e :: es, b => by
    rw [List.foldl_cons]
    obtain ⟨h1, h2, h3⟩ := pick_fold f es (pickB f b e)
    have hb : b.length ≤ (pickB f b e).length ∧ (e.2.2 ≠ [] → (f e.2.1).length + 1 ≤ (pickB f b e).length) ∧ (pickB f b e = b ∨ e.2.2 ≠ [] ∧ pickB f b e = e.1 :: f e.2.1) := by
      unfold pickB
      split
      · split
        · refine ⟨by rw [List.length_cons]; omega, fun _ => by rw [List.length_cons]; omega, .inr ⟨by assumption, rfl⟩⟩
        · exact ⟨Nat.le_refl _, fun _ => by omega, .inl rfl⟩
      · exact ⟨Nat.le_refl _, fun h => absurd h (by assumption), .inl rfl⟩
    refine ⟨Nat.le_trans hb.1 h1, fun q hq hne => ?_, ?_⟩
    · rcases List.mem_cons.mp hq with rfl | hq
      · exact Nat.le_trans (hb.2.1 hne) h1
      · exact h2 q hq hne
    · rcases h3 with h3 | ⟨q, hq, h4, h5⟩
      · rcases hb.2.2 with h6 | ⟨h6, h7⟩
        · exact .inl (by rw [h3, h6])
        · exact .inr ⟨e, by simp, h6, by rw [h3, h7]⟩
      · exact .inr ⟨q, by simp [hq], h4, h5⟩
theorem pick_congr {f g : Node → List Int} : ∀ (es : List Ent) (b : List Int), (∀ e ∈ es, e.2.2 ≠ [] → f e.2.1 = g e.2.1) → es.foldl (pickB f) b = es.foldl (pickB g) b
  | [], _, _ => rfl
  | e :: es, b, h => by
    rw [List.foldl_cons, List.foldl_cons]
    have : pickB f b e = pickB g b e := by
      unfold pickB
      split
      · rw [h e (by simp) (by assumption)]
      · rfl
    rw [this]
    exact pick_congr es _ fun q hq => h q (by simp [hq])
/-- how many more can be counted -/
def roomF (rules : List (List Int × Int)) (sn : Seen) : Nat := (List.zipWith (fun (ru : List Int × Int) (s : Int × Bool) => (ru.2 - s.1).toNat) rules sn).sum
theorem room_back (turn p : Int) : ∀ (rules : List (List Int × Int)) (sn : Seen), roomF rules (List.zipWith (back1 turn p) rules sn) = roomF rules sn
  | [], _ => rfl
  | _ :: _, [] => rfl
  | ru :: rules, s :: sn => by
    have := room_back turn p rules sn
    unfold roomF at this ⊢
    simp only [List.zipWith_cons_cons, List.sum_cons]
    rw [this]
    rfl
theorem room_backN (rules : List (List Int × Int)) (turn : Int) (nd : Node) : ∀ n : Nat, roomF rules (backN rules turn n nd).2 = roomF rules nd.2
  | 0 => rfl
  | n + 1 => by
    show roomF rules (List.zipWith (back1 turn (backN rules turn n nd).1) rules (backN rules turn n nd).2) = _
    rw [room_back]
    exact room_backN rules turn nd n
theorem room_copy : ∀ (k : Nat) (rules : List (List Int × Int)) (sn : Seen), roomF rules (copyF rules sn) + (byFrom k rules sn).length = roomF rules sn
  | _, [], _ => rfl
  | _, _ :: _, [] => rfl
  | k, ru :: rules, s :: sn => by
    have ih := room_copy (k + 1) rules sn
    unfold roomF copyF at ih ⊢
    simp only [List.zipWith_cons_cons, List.sum_cons, byFrom]
    have hc : (copy1 ru s).1 = if by1 ru s = true then s.1 + 1 else s.1 := rfl
    rw [hc]
    by_cases c : by1 ru s = true
    · rw [if_pos c, if_pos c]
      unfold by1 at c
      simp only [Bool.and_eq_true, decide_eq_true_eq] at c
      rw [List.length_cons]
      omega
    · rw [if_neg c, if_neg c]
      omega
theorem room_ent {rules : List (List Int × Int)} {turn : Int} {nd : Node} {n : Nat} (h : (entF rules turn nd n).2.2 ≠ []) : roomF rules (entF rules turn nd n).2.1.2 + 1 ≤ roomF rules nd.2 := by
  have h1 := room_copy 0 rules (backN rules turn n nd).2
  have h2 : 0 < (byFrom 0 rules (backN rules turn n nd).2).length := List.length_pos_iff.mpr h
  rw [room_backN] at h1
  show roomF rules (copyF rules (backN rules turn n nd).2) + 1 ≤ _
  omega
theorem mem_stepsF {rules : List (List Int × Int)} {turn : Int} {nd : Node} {e : Ent} : e ∈ stepsF rules turn nd ↔ ∃ n : Nat, 1 ≤ n ∧ (n : Int) ≤ 2 * turn ∧ e = entF rules turn nd n := by
  unfold stepsF
  rw [List.mem_map]
  constructor
  · rintro ⟨j, hj, rfl⟩
    have := List.mem_range.mp hj
    exact ⟨j + 1, by omega, by omega, rfl⟩
  · rintro ⟨n, h1, h2, rfl⟩
    exact ⟨n - 1, List.mem_range.mpr (by omega), by rw [show n - 1 + 1 = n by omega]⟩
theorem best_up {rules : List (List Int × Int)} {turn : Int} : ∀ (f : Nat) (nd : Node), roomF rules nd.2 ≤ f → bestN rules turn (f + 1) nd = bestN rules turn f nd
  | 0, nd, h => by
    show (stepsF rules turn nd).foldl (pickB (bestN rules turn 0)) [] = []
    rcases (pick_fold (bestN rules turn 0) (stepsF rules turn nd) []).2.2 with e | ⟨e, he, hb, _⟩
    · exact e
    · obtain ⟨n, _, _, rfl⟩ := mem_stepsF.mp he
      have := room_ent hb
      omega
  | f + 1, nd, h => by
    show (stepsF rules turn nd).foldl (pickB (bestN rules turn (f + 1))) [] = (stepsF rules turn nd).foldl (pickB (bestN rules turn f)) []
    refine pick_congr _ _ fun e he hb => ?_
    obtain ⟨n, _, _, rfl⟩ := mem_stepsF.mp he
    have := room_ent hb
    exact best_up f _ (by omega)
def bestR (rules : List (List Int × Int)) (turn : Int) (nd : Node) : List Int := bestN rules turn 12 nd
theorem best_step {rules : List (List Int × Int)} {turn : Int} {nd : Node} (h : roomF rules nd.2 ≤ 12) : bestR rules turn nd = (stepsF rules turn nd).foldl (pickB (bestR rules turn)) [] := by
  show (stepsF rules turn nd).foldl (pickB (bestN rules turn 11)) [] = _
  refine pick_congr _ _ fun e he hb => ?_
  obtain ⟨n, _, _, rfl⟩ := mem_stepsF.mp he
  have := room_ent hb
  exact (best_up 11 _ (by omega)).symm
theorem best_len {rules : List (List Int × Int)} {turn : Int} : ∀ (f : Nat) (nd : Node), (bestN rules turn f nd).length ≤ f
  | 0, _ => Nat.le_refl _
  | f + 1, nd => by
    rcases (pick_fold (bestN rules turn f) (stepsF rules turn nd) []).2.2 with e | ⟨e, he, hb, h⟩
    · show ((stepsF rules turn nd).foldl (pickB (bestN rules turn f)) []).length ≤ _
      rw [e]; simp
    · show ((stepsF rules turn nd).foldl (pickB (bestN rules turn f)) []).length ≤ _
      rw [h, List.length_cons]
      have := best_len (rules := rules) (turn := turn) f e.2.1
      omega
theorem best_mem {rules : List (List Int × Int)} {turn : Int} : ∀ (f : Nat) (nd : Node), ∀ d ∈ bestN rules turn f nd, 1 ≤ d ∧ d ≤ 2 * turn
  | 0, _, d, h => by cases h
  | f + 1, nd, d, hd => by
    have hd : d ∈ (stepsF rules turn nd).foldl (pickB (bestN rules turn f)) [] := hd
    rcases (pick_fold (bestN rules turn f) (stepsF rules turn nd) []).2.2 with e | ⟨e, he, hb, h⟩
    · rw [e] at hd; cases hd
    · rw [h] at hd
      rcases List.mem_cons.mp hd with rfl | hd
      · obtain ⟨n, h1, h2, rfl⟩ := mem_stepsF.mp he
        exact ⟨by show (1 : Int) ≤ (n : Int); omega, h2⟩
      · exact best_mem f _ d hd
theorem by_ne {L : List Int} {x : Int} : ∀ (k : Nat) (rules : List (List Int × Int)), byFrom k rules (rules.map fun ru => stR ru L x) ≠ [] ↔ ∃ ru ∈ rules, keepsAt ru L x
  | _, [] => by simp [byFrom]
  | k, ru :: rules => by
    rw [List.map_cons]
    unfold byFrom
    rw [by1_at]
    by_cases c : keepsAt ru L x
    · rw [if_pos (decide_eq_true c)]
      exact ⟨fun _ => ⟨ru, by simp, c⟩, fun _ => by simp⟩
    · rw [if_neg (by simpa using c), by_ne (k + 1) rules]
      constructor
      · rintro ⟨q, h1, h2⟩
        exact ⟨q, by simp [h1], h2⟩
      · rintro ⟨q, h1, h2⟩
        rcases List.mem_cons.mp h1 with rfl | h1
        · exact absurd h2 c
        · exact ⟨q, h1, h2⟩
theorem byAt_ne {rules : List (List Int × Int)} {L : List Int} {x : Int} : byAt rules L x ≠ [] ↔ ∃ ru ∈ rules, keepsAt ru L x := by_ne 0 rules
/-- each that comes next is kept -/
def Ch (rules : List (List Int × Int)) : List Int → List Int → Prop
  | _, [] => True
  | L, x :: xs => byAt rules L x ≠ [] ∧ Ch rules (L ++ [x]) xs
def downs : Int → List Int → List Int
  | _, [] => []
  | y, d :: ds => (y - d) :: downs (y - d) ds
theorem best_ch {rules : List (List Int × Int)} {turn : Int} (T : TurnOf turn rules) : ∀ (f : Nat) (L : List Int) (y : Int), L.getLast? = some y → Ch rules L (downs y (bestN rules turn f (nodeF rules turn L)))
  | 0, _, _, _ => trivial
  | f + 1, L, y, hy => by
    show Ch rules L (downs y ((stepsF rules turn (nodeF rules turn L)).foldl (pickB (bestN rules turn f)) []))
    rcases (pick_fold (bestN rules turn f) (stepsF rules turn (nodeF rules turn L)) []).2.2 with e | ⟨e, he, hb, h⟩
    · rw [e]; trivial
    · rw [h]
      obtain ⟨n, h1, h2, rfl⟩ := mem_stepsF.mp he
      rw [entF_at T hy] at hb ⊢
      exact ⟨hb, best_ch T f _ _ (by simp)⟩
theorem ch_best {rules : List (List Int × Int)} {turn : Int} (T : TurnOf turn rules) : ∀ (xs : List Int) (f : Nat) (L : List Int) (y : Int), L.getLast? = some y → Desc (L ++ xs) → Ch rules L xs → xs.length ≤ f → xs.length ≤ (bestN rules turn f (nodeF rules turn L)).length
  | [], _, _, _, _, _, _, _ => Nat.zero_le _
  | x :: xs, 0, _, _, _, _, _, h => by simp at h
  | x :: xs, f + 1, L, y, hy, hd, hc, hl => by
    have hxy : x < y := by
      have hm := List.mem_of_getLast? hy
      exact (List.pairwise_append.mp hd).2.2 y hm x (by simp)
    obtain ⟨n, h1, h2, h3⟩ := reach T hy hxy
    have hmem : entF rules turn (nodeF rules turn L) n ∈ stepsF rules turn (nodeF rules turn L) := mem_stepsF.mpr ⟨n, h1, h2, rfl⟩
    have hb : (entF rules turn (nodeF rules turn L) n).2.2 ≠ [] := by rw [h3]; exact hc.1
    have h4 := (pick_fold (bestN rules turn f) (stepsF rules turn (nodeF rules turn L)) []).2.1 _ hmem hb
    rw [h3] at h4
    have h5 := ch_best T xs f (L ++ [x]) x (by simp) (by rw [List.append_assoc]; exact hd) hc.2 (by rw [List.length_cons] at hl; omega)
    rw [List.length_cons]
    exact Nat.le_trans (Nat.succ_le_succ h5) h4
theorem room_st (rules : List (List Int × Int)) (L : List Int) (p q : Int) : roomF rules (rules.map fun ru => stR ru L p) = roomF rules (rules.map fun ru => stR ru L q) := by
  unfold roomF
  congr 1
  induction rules with
  | nil => rfl
  | cons ru rules ih =>
    simp only [List.map_cons, List.zipWith_cons_cons]
    rw [ih]
    rfl
theorem copyF_st (rules : List (List Int × Int)) (L : List Int) (x : Int) : copyF rules (rules.map fun ru => stR ru L x) = rules.map fun ru => stR ru (L ++ [x]) x := by
  unfold copyF
  induction rules with
  | nil => rfl
  | cons ru rules ih =>
    simp only [List.map_cons, List.zipWith_cons_cons]
    rw [ih, copy1_at]
theorem ch_room {rules : List (List Int × Int)} : ∀ (xs L : List Int) (p : Int), Ch rules L xs → xs.length ≤ roomF rules (rules.map fun ru => stR ru L p)
  | [], _, _, _ => Nat.zero_le _
  | x :: xs, L, p, h => by
    have h1 := ch_room xs (L ++ [x]) x h.2
    have h2 := room_copy 0 rules (rules.map fun ru => stR ru L x)
    rw [copyF_st] at h2
    have h3 : 0 < (byFrom 0 rules (rules.map fun ru => stR ru L x)).length := List.length_pos_iff.mpr h.1
    rw [room_st rules L p x, List.length_cons]
    omega
theorem kept_ch {rules : List (List Int × Int)} (ok : ∀ ru ∈ rules, 1 ≤ ru.2) : ∀ (B A : List Int), Desc (A ++ B) → (∀ x ∈ B, ∃ ru ∈ rules, x ∈ keptBy ru (A ++ B).reverse) → Ch rules A B
  | [], _, _, _ => trivial
  | x :: B, A, hd, h => by
    have hn := Desc.nodup hd
    have hxA : x ∉ A := fun z => by
      have := (List.pairwise_append.mp hd).2.2 x z x (by simp)
      omega
    have hxB : x ∉ B := fun z => by
      have := (List.pairwise_cons.mp (List.pairwise_append.mp hd).2.1).1 x z
      omega
    obtain ⟨ru, hru, hx⟩ := h x (by simp)
    refine ⟨byAt_ne.mpr ⟨ru, hru, (keptBy_snoc (ok ru hru) hxA).mp ((keptBy_cut hxB).mp hx)⟩, ?_⟩
    have e : A ++ x :: B = (A ++ [x]) ++ B := by simp
    rw [e] at hd h
    exact kept_ch ok B (A ++ [x]) hd fun z hz => h z (by simp [hz])
theorem ch_kept {rules : List (List Int × Int)} (ok : ∀ ru ∈ rules, 1 ≤ ru.2) : ∀ (B A : List Int), Desc (A ++ B) → Ch rules A B → ∀ x ∈ B, ∃ ru ∈ rules, x ∈ keptBy ru (A ++ B).reverse
  | [], _, _, _, x, h => by simp at h
  | x :: B, A, hd, h, z, hz => by
    have hxA : x ∉ A := fun z => by
      have := (List.pairwise_append.mp hd).2.2 x z x (by simp)
      omega
    have hxB : x ∉ B := fun z => by
      have := (List.pairwise_cons.mp (List.pairwise_append.mp hd).2.1).1 x z
      omega
    rcases List.mem_cons.mp hz with rfl | hz
    · obtain ⟨ru, hru, hk⟩ := byAt_ne.mp h.1
      exact ⟨ru, hru, (keptBy_cut hxB).mpr ((keptBy_snoc (ok ru hru) hxA).mpr hk)⟩
    · have e : A ++ x :: B = (A ++ [x]) ++ B := by simp
      rw [e] at hd ⊢
      exact ch_kept ok B (A ++ [x]) hd h.2 z hz
/-! ages, and the nights of a way -/
def agesF (ds : List Int) : List Int := (List.range (ds.length + 1)).map fun k => (ds.take k).sum
theorem agesF_cons (d : Int) (ds : List Int) : agesF (d :: ds) = 0 :: (agesF ds).map (d + ·) := by
  unfold agesF
  rw [List.length_cons, List.range_succ_eq_map, List.map_cons, List.map_map, List.map_map]
  simp
theorem ages_downs : ∀ (ds : List Int) (y : Int), (agesF ds).map (fun a => y - a) = y :: downs y ds
  | [], y => by simp [agesF, downs]
  | d :: ds, y => by
    rw [agesF_cons, List.map_cons, List.map_map]
    have h := ages_downs ds (y - d)
    have e : ((fun a => y - a) ∘ fun x => d + x) = fun a => (y - d) - a := by
      funext a
      show y - (d + a) = y - d - a
      omega
    rw [e, h]
    simp [downs]
theorem agesF_ok {turn : Int} (ht : 1 ≤ turn) : ∀ (ds : List Int), (∀ d ∈ ds, 1 ≤ d ∧ d ≤ 2 * turn) → AgesOk turn ds.length (agesF ds)
  | [], _ => ⟨rfl, rfl, by simp [agesF], fun a h => by simp [agesF] at h; subst h; simp⟩
  | d :: ds, h => by
    have ih := agesF_ok ht ds fun x hx => h x (by simp [hx])
    have hd := h d (by simp)
    have e : 2 * turn * ((ds.length + 1 : Nat) : Int) = 2 * turn * ds.length + 2 * turn := by push_cast; rw [Int.mul_add]; omega
    rw [agesF_cons]
    refine ⟨by rw [List.length_cons, List.length_map, ih.len]; rfl, rfl, List.pairwise_cons.mpr ⟨fun a ha => ?_, ?_⟩, fun a ha => ?_⟩
    · obtain ⟨b, hb, rfl⟩ := List.mem_map.mp ha
      have := ih.le b hb
      omega
    · rw [List.pairwise_map]
      exact ih.pw.imp fun h => by omega
    · rw [List.length_cons, e]
      have h0 : 0 ≤ 2 * turn * (ds.length : Int) := Int.mul_nonneg (by omega) (by omega)
      rcases List.mem_cons.mp ha with rfl | ha
      · omega
      · obtain ⟨b, hb, rfl⟩ := List.mem_map.mp ha
        have := ih.le b hb
        omega
theorem agesF_last (ds : List Int) : ds.sum ∈ agesF ds := List.mem_map.mpr ⟨ds.length, List.mem_range.mpr (by omega), by rw [List.take_length]⟩
theorem agesF_max {turn : Int} (ht : 1 ≤ turn) (ds : List Int) (h : ∀ d ∈ ds, 1 ≤ d ∧ d ≤ 2 * turn) : ∀ a ∈ agesF ds, a ≤ ds.sum := by
  obtain ⟨l, hl, hm⟩ := (agesF_ok ht ds h).last
  have e : (agesF ds).getLast? = some ds.sum := by
    unfold agesF
    rw [List.range_succ, List.map_append, List.map_singleton, List.take_length, List.getLast?_concat]
  rw [e] at hl
  cases hl
  exact hm
/-- the first place, and its way -/
def node0 (rules : List (List Int × Int)) (p : Nat) : Node := ((p : Int), rules.map fun _ => ((1 : Int), true))
def wayF (rules : List (List Int × Int)) (turn : Int) (p : Nat) : List Int := bestR rules turn (node0 rules p)
def foundF (rules : List (List Int × Int)) (turn : Int) (found : List Int) (p : Nat) : List Int := if found.length < (wayF rules turn p).length + 1 then toldN turn p (agesF (wayF rules turn p)) (wayF rules turn p).sum else found
def mostF (rules : List (List Int × Int)) (turn : Int) : List Int := (List.range turn.toNat).foldl (foundF rules turn) []
/-- nights that are all kept -/
structure AllKept (rules : List (List Int × Int)) (ns : List Int) : Prop where
  rise : ns.Pairwise (· < ·)
  all : ∀ x ∈ ns, ∃ ru ∈ rules, x ∈ keptBy ru ns
theorem AllKept.kept {rules : List (List Int × Int)} {ns : List Int} (h : AllKept rules ns) : keptF rules ns = ns := by
  unfold keptF
  refine List.filter_eq_self.mpr fun x hx => ?_
  rw [List.any_eq_true]
  obtain ⟨ru, h1, h2⟩ := h.all x hx
  exact ⟨ru, h1, decide_eq_true h2⟩
theorem AllKept.of {rules : List (List Int × Int)} {ns : List Int} (h : ns.Pairwise (· < ·)) (e : keptF rules ns = ns) : AllKept rules ns := ⟨h, fun x hx => by rw [← e] at hx; exact mem_keptF.mp hx⟩
theorem told_len (turn start m : Int) (ages : List Int) : (toldN turn start ages m).length = ages.length := by
  unfold toldN
  rw [List.length_reverse, List.length_map]
theorem agesF_len (ds : List Int) : (agesF ds).length = ds.length + 1 := by
  unfold agesF
  rw [List.length_map, List.length_range]
structure MostOk (rules : List (List Int × Int)) (turn : Int) : Prop where
  T : TurnOf turn rules
  ne : rules ≠ []
  room : ∀ L p, L ≠ [] → roomF rules (rules.map fun ru => stR ru L p) ≤ 12
theorem way_told {rules : List (List Int × Int)} {turn : Int} (M : MostOk rules turn) {p : Nat} (hp : (p : Int) < turn) : AllKept rules (toldN turn p (agesF (wayF rules turn p)) (wayF rules turn p).sum) := by
  have T := M.T
  obtain ⟨ds, hds⟩ : ∃ ds, wayF rules turn p = ds := ⟨_, rfl⟩
  have hmem : ∀ d ∈ ds, 1 ≤ d ∧ d ≤ 2 * turn := by
    rw [← hds]
    exact best_mem 12 _
  rw [hds]
  have hrise := told_rise (agesF_ok T.pos ds hmem) (p : Int) ds.sum
  obtain ⟨y, hy⟩ : ∃ y, (p : Int) + (ds.sum / turn + 1) * turn = y := ⟨_, rfl⟩
  have et : toldN turn p (agesF ds) ds.sum = (y :: downs y ds).reverse := by
    unfold toldN
    rw [hy, ages_downs]
  rw [et] at hrise ⊢
  have hd : Desc ([y] ++ downs y ds) := by
    have := List.pairwise_reverse.mp hrise
    exact this
  have em : y % turn = (p : Int) := by
    rw [← hy, Int.add_mul_emod_self_right, Int.emod_eq_of_lt (by omega) hp]
  have en : nodeF rules turn [y] = node0 rules p := by
    rw [nodeF_one T, em]
    rfl
  have hch : Ch rules [y] (downs y ds) := by
    have := best_ch T 12 [y] y rfl
    rw [en] at this
    rw [← hds]
    exact this
  refine ⟨hrise, fun x hx => ?_⟩
  have ok : ∀ ru ∈ rules, 1 ≤ ru.2 := fun ru hru => (T.ok ru hru).m
  rw [List.mem_reverse] at hx
  rcases List.mem_cons.mp hx with rfl | hx
  · obtain ⟨ru, hru⟩ := List.exists_mem_of_ne_nil rules M.ne
    have hxB : x ∉ downs x ds := fun z => by
      have := (List.pairwise_cons.mp hd).1 x z
      omega
    exact ⟨ru, hru, (keptBy_cut (A := []) hxB).mpr (keeps_last (ok ru hru) x)⟩
  · exact ch_kept ok (downs y ds) [y] hd hch x hx
theorem all_way {rules : List (List Int × Int)} {turn : Int} (M : MostOk rules turn) {ns : List Int} (h : AllKept rules ns) : ns = [] ∨ ∃ p : Nat, (p : Int) < turn ∧ ns.length ≤ (wayF rules turn p).length + 1 := by
  have T := M.T
  have hp := T.pos
  have hd : Desc ns.reverse := List.pairwise_reverse.mpr h.rise
  cases e : ns.reverse with
  | nil => exact .inl (List.reverse_eq_nil_iff.mp e)
  | cons y xs =>
    right
    have en : ns = (y :: xs).reverse := by rw [← e, List.reverse_reverse]
    rw [e] at hd
    have y0 := Int.emod_nonneg y (show turn ≠ 0 by omega)
    have y1 := Int.emod_lt_of_pos y (show 0 < turn by omega)
    have ok : ∀ ru ∈ rules, 1 ≤ ru.2 := fun ru hru => (T.ok ru hru).m
    have hch : Ch rules [y] xs := kept_ch ok xs [y] hd fun x hx => by
      have := h.all x (by rw [en]; simp [hx])
      rw [en] at this
      exact this
    have h12 := Nat.le_trans (ch_room xs [y] y hch) (M.room [y] y (by simp))
    have hb := ch_best T xs 12 [y] y rfl hd hch h12
    refine ⟨(y % turn).toNat, by omega, ?_⟩
    have en2 : nodeF rules turn [y] = node0 rules (y % turn).toNat := by
      rw [nodeF_one T]
      unfold node0
      rw [show (((y % turn).toNat : Nat) : Int) = y % turn by omega]
    rw [en2] at hb
    rw [en, List.length_reverse, List.length_cons]
    exact Nat.succ_le_succ hb
theorem found_fold {rules : List (List Int × Int)} {turn : Int} (M : MostOk rules turn) : ∀ (ps : List Nat) (b : List Int), (∀ p ∈ ps, (p : Int) < turn) → AllKept rules b → AllKept rules (ps.foldl (foundF rules turn) b) ∧ b.length ≤ (ps.foldl (foundF rules turn) b).length ∧ ∀ p ∈ ps, (wayF rules turn p).length + 1 ≤ (ps.foldl (foundF rules turn) b).length
  | [], b, _, h => ⟨h, Nat.le_refl _, fun p hp => by simp at hp⟩
  | p :: ps, b, hps, h => by
    rw [List.foldl_cons]
    have h1 : AllKept rules (foundF rules turn b p) ∧ b.length ≤ (foundF rules turn b p).length ∧ (wayF rules turn p).length + 1 ≤ (foundF rules turn b p).length := by
      unfold foundF
      split
      · refine ⟨way_told M (hps p (by simp)), ?_, ?_⟩ <;> rw [told_len, agesF_len] <;> omega
      · exact ⟨h, Nat.le_refl _, by omega⟩
    obtain ⟨i1, i2, i3⟩ := found_fold M ps (foundF rules turn b p) (fun q hq => hps q (by simp [hq])) h1.1
    refine ⟨i1, Nat.le_trans h1.2.1 i2, fun q hq => ?_⟩
    rcases List.mem_cons.mp hq with rfl | hq
    · exact Nat.le_trans h1.2.2 i2
    · exact i3 q hq
theorem most_all {rules : List (List Int × Int)} {turn : Int} (M : MostOk rules turn) : AllKept rules (mostF rules turn) :=
  (found_fold M _ [] (fun p hp => by have := List.mem_range.mp hp; have := M.T.pos; omega) ⟨.nil, fun x h => by simp at h⟩).1
theorem most_max {rules : List (List Int × Int)} {turn : Int} (M : MostOk rules turn) {ns : List Int} (h : AllKept rules ns) : ns.length ≤ (mostF rules turn).length := by
  rcases all_way M h with rfl | ⟨p, hp, hl⟩
  · exact Nat.zero_le _
  · refine Nat.le_trans hl ((found_fold M (List.range turn.toNat) [] (fun p hp => by have := List.mem_range.mp hp; have := M.T.pos; omega) ⟨.nil, fun x h => by simp at h⟩).2.2 p (List.mem_range.mpr (by omega)))
theorem most_kept {rules : List (List Int × Int)} {turn : Int} (M : MostOk rules turn) {ns : List Int} (h : ns.Pairwise (· < ·)) : (keptF rules ns).length ≤ (mostF rules turn).length :=
  most_max M (.of (keptF_rise h) (keptF_keptFM h))
theorem most_pos {rules : List (List Int × Int)} {turn : Int} (M : MostOk rules turn) : 1 ≤ (mostF rules turn).length := by
  obtain ⟨ru, hru⟩ := List.exists_mem_of_ne_nil rules M.ne
  exact most_max (ns := [0]) M ⟨by simp, fun x hx => by rw [List.mem_singleton.mp hx]; exact ⟨ru, hru, keeps_last (M.T.ok ru hru).m 0⟩⟩
theorem room_le {L : List Int} (hL : L ≠ []) (p : Int) : ∀ (rules : List (List Int × Int)), (∀ ru ∈ rules, 1 ≤ ru.2 ∧ ru.2 ≤ 4) → roomF rules (rules.map fun ru => stR ru L p) ≤ 3 * rules.length
  | [], _ => Nat.zero_le _
  | ru :: rules, h => by
    have ih := room_le hL p rules fun q hq => h q (by simp [hq])
    have h1 := h ru (by simp)
    unfold roomF at ih ⊢
    simp only [List.map_cons, List.zipWith_cons_cons, List.sum_cons, List.length_cons]
    have h2 : 1 ≤ (endsR ru.1 none L).length := by
      cases L with
      | nil => exact absurd rfl hL
      | cons x l => simp [endsR]
    have h3 : (stR ru L p).1 = min ru.2 ((endsR ru.1 none L).length : Int) := rfl
    rw [h3]
    omega
theorem MostOk.of {rules : List (List Int × Int)} {turn : Int} (T : TurnOf turn rules) (ne : rules ≠ []) (hl : rules.length ≤ 3) (h : ∀ ru ∈ rules, ru.2 ≤ 4) : MostOk rules turn :=
  ⟨T, ne, fun L p hL => by
    have := room_le hL p rules fun ru hru => ⟨(T.ok ru hru).m, h ru hru⟩
    omega⟩
theorem keep_end {ns : List Int} (h : ns.Pairwise (· < ·)) (hne : ns ≠ []) : ∃ y ∈ ns, ∀ ru : List Int × Int, 1 ≤ ru.2 → y ∈ keptBy ru ns := by
  have hd : Desc ns.reverse := List.pairwise_reverse.mpr h
  cases e : ns.reverse with
  | nil => exact absurd (List.reverse_eq_nil_iff.mp e) hne
  | cons y xs =>
    have en : ns = (y :: xs).reverse := by rw [← e, List.reverse_reverse]
    rw [e] at hd
    have hxB : y ∉ xs := fun z => by
      have := (List.pairwise_cons.mp hd).1 y z
      omega
    refine ⟨y, by rw [en]; simp, fun ru hru => ?_⟩
    rw [en]
    exact (keptBy_cut (A := []) hxB).mpr (keeps_last hru y)
theorem most_one {ru : List Int × Int} {turn : Int} (M : MostOk [ru] turn) : ((mostF [ru] turn).length : Int) = ru.2 := by
  have hok := M.T.ok ru (by simp)
  have hm := hok.m
  have h1 := most_all M
  have hle : (mostF [ru] turn).length ≤ ru.2.toNat := by
    have h2 : (mostF [ru] turn).length ≤ (keptBy ru (mostF [ru] turn)).length := by
      refine nodup_le (h1.rise.imp fun {a b} z => by omega) fun z hz => ?_
      obtain ⟨q, hq, hk⟩ := h1.all z hz
      rw [List.mem_singleton.mp hq] at hk
      exact hk
    refine Nat.le_trans h2 ?_
    unfold keptBy
    rw [List.length_take]
    exact Nat.min_le_left _ _
  have hge : ru.2.toNat ≤ (mostF [ru] turn).length := by
    obtain ⟨ns, hns⟩ : ∃ ns : List Int, ns = (List.range ru.2.toNat).map fun k : Nat => 0 + (k : Int) * ru.1.sum := ⟨_, rfl⟩
    have hs := hok.r.sum
    have hnl : ns.length = ru.2.toNat := by rw [hns, List.length_map, List.length_range]
    have hmul : ∀ {a b : Nat}, a < b → (a : Int) * ru.1.sum < (b : Int) * ru.1.sum := fun {a b} h => Int.mul_lt_mul_of_pos_right (by omega) hs
    have hrise : ns.Pairwise (· < ·) := by
      rw [hns, List.pairwise_map]
      exact List.pairwise_lt_range.imp fun {a b} h => by have := hmul h; omega
    have hd : Desc ns.reverse := List.pairwise_reverse.mpr hrise
    have hlen : 0 < (ru.1.length : Int) := by
      have := List.length_pos_iff.mpr hok.r.ne
      omega
    have hnum : ns.reverse.Pairwise fun a b => numOf ru.1 a ≠ numOf ru.1 b := by
      rw [List.pairwise_reverse, hns, List.pairwise_map]
      refine List.pairwise_lt_range.imp fun {a b} h => ?_
      rw [numOf_mul hok.r, numOf_mul hok.r]
      have := Int.mul_lt_mul_of_pos_right (show (a : Int) < (b : Int) by omega) hlen
      omega
    have hends : endsR ru.1 none ns.reverse = ns.reverse := (ends_sublist ru.1 ns.reverse none).eq_of_length_le (ends_ge hok.r ns.reverse ns.reverse none hd (List.Sublist.refl _) hnum fun s _ => by simp)
    have hall : AllKept [ru] ns := ⟨hrise, fun x hx => ⟨ru, by simp, by
      unfold keptBy
      rw [hends, List.take_of_length_le (by rw [List.length_reverse]; omega), List.mem_reverse]
      exact hx⟩⟩
    have := most_max M hall
    omega
  omega
theorem most_less {rest : List (List Int × Int)} {r : List Int × Int} {t t' : Int} (M : MostOk (rest ++ [r]) t) (N : MostOk rest t') : (mostF rest t').length ≤ (mostF (rest ++ [r]) t).length := by
  have h := most_all N
  exact most_max M ⟨h.rise, fun x hx => let ⟨ru, h1, h2⟩ := h.all x hx; ⟨ru, by simp [h1], h2⟩⟩
theorem most_more {rest : List (List Int × Int)} {r : List Int × Int} {t t' : Int} (M : MostOk (rest ++ [r]) t) (N : MostOk rest t') : ((mostF (rest ++ [r]) t).length : Int) ≤ (mostF rest t').length + r.2 - 1 := by
  have h := most_all M
  have hp := most_pos M
  obtain ⟨m, hm⟩ : ∃ m, m = mostF (rest ++ [r]) t := ⟨_, rfl⟩
  rw [← hm] at h hp ⊢
  have hr := (M.T.ok r (by simp)).m
  obtain ⟨y, hy, hk⟩ := keep_end h.rise (fun z => by rw [z] at hp; simp at hp)
  have h1 := most_kept N h.rise
  have h2 : (keptBy r m).length ≤ r.2.toNat := by
    unfold keptBy
    rw [List.length_take]
    exact Nat.min_le_left _ _
  have hy2 : y ∈ keptBy r m := hk r hr
  have hy1 : y ∈ keptF rest m := by
    obtain ⟨ru, hru⟩ := List.exists_mem_of_ne_nil rest N.ne
    exact mem_keptF.mpr ⟨ru, hru, hk ru (N.T.ok ru hru).m⟩
  have h3 : m.length ≤ (keptF rest m ++ (keptBy r m).erase y).length := by
    refine nodup_le (h.rise.imp fun {a b} z => by omega) fun z hz => ?_
    obtain ⟨ru, hru, hkz⟩ := h.all z hz
    rcases List.mem_append.mp hru with q | q
    · exact List.mem_append_left _ (mem_keptF.mpr ⟨ru, q, hkz⟩)
    · rw [List.mem_singleton.mp q] at hkz
      by_cases c : z = y
      · rw [c]; exact List.mem_append_left _ hy1
      · exact List.mem_append_right _ ((List.mem_erase_of_ne c).mpr hkz)
  rw [List.length_append, List.length_erase_of_mem hy2] at h3
  have := List.length_pos_of_mem hy2
  omega
end Nk
/-! ### the layer's short words for this program -/
namespace Nk
open PySem L2 PySem.Spec PyProof.Rows
/-- a def of the top keeps a promise: called by its name -/
structure Fk (P : Program) (w : World) (K : PySem.W.Frag) (mg : Str → Option Value) (base : Heap) (CX : CXT) (k : Nat) (x : Str) (ps : List Str) (sp : Sp) : Prop where
  ex : ∃ (f : Addr) (fd : FuncData), mg x = some (.ref f) ∧ PySem.W.keepIn K (.ref f) = true ∧ Binds K fd ps [] ∧ FnOk P w K mg base CX k f fd ps sp
/-- a def as it stands behind the top -/
structure Df (K : PySem.W.Frag) (mg : Str → Option Value) (x qual : Str) (st : Stmt) (ps : List Str) : Prop where
  ex : ∃ (f : Addr) (fd : FuncData), Fun K x qual st f fd ∧ mg x = some (.ref f) ∧ Binds K fd ps []
section
variable {X : Cx} {CX : CXT} {k : Nat} {ps : List Str} {sp : Sp} {x : Str} {p pos : Pos} {e : Expr} {es : List Expr} {t : TA} {E : XK}
theorem pe_fn (F : Fk X.prog X.w X.K X.mg X.base CX k x ps sp) (hr : Room k X.A) (hg : Gl X x) (hx : Passes CX X E) (ha : PA X (e :: es) t) (hdb : (x == ("__debug__" : Str)) = false := by decide)
    (he : starEach (e :: es) X.env = (false, eval e X.env) :: starEach es X.env := by rfl) (hpl : (backTo pos (starEach es X.env)).any (·.1) = false := by rfl) :
    PE X (.Call (.Name x p) (e :: es) [] pos) (tCall sp [] E t) := by
  obtain ⟨f, fd, g, kp, b, G⟩ := F.ex
  exact pe_call G hr hg g kp b .nil hx ha hdb he hpl
theorem passX {X : Cx} {E : XK} (tk : Takes X (fun cls d _ H => E cls d H)) : Passes (L2.CX X.prog X.w) X E := passes_call tk (fun _ _ _ _ h => h)
end
/-- an own exception class without own __init__, over RuntimeError -/
structure Xc (K : PySem.W.Frag) (mg : Str → Option Value) (x : Str) (C : Addr) : Prop where
  gP : mg x = some (.ref C)
  xP : PySem.W.excIn K C [.type "RuntimeError", .type "Exception", .type "BaseException", .type "object"] "RuntimeError.__new__" = true
  kP : PySem.W.keepIn K (.ref C) = true
  bP : PySem.W.subIn K (.ref C) (.type "BaseException") = some true
  tP : PySem.W.typeIn K (.ref C) = some (.type "type")
theorem Xc.rs {X : Cx} {x : Str} {C : Addr} (h : Xc X.K X.mg x C) : Raises X (.ref C) := raises_own h.bP h.tP
/-! sum of a tuple -/
def rSumT (K : PySem.W.Frag) : List V → Hp → VK → Prop := fun vs H Q => ∃ (a : Addr) (ns : List Int), vs = [V.ref a] ∧ SqT K H a (ns.map V.int) ∧ Q (.int ns.sum) H
theorem cr_sumT {X : Cx} (hc : X.calm = true) : CallR X (.builtin "sum") (rSumT X.K) := by
  intro pins s σ H vs us Q I r h
  obtain ⟨a, ns, rfl, hs, q⟩ := h
  obtain ⟨its, rv, hl, _⟩ := I.tuple hs
  rw [Vals.ref1 r]
  have hi : IntsAre its ns := rv.ints
  obtain ⟨xs, hx⟩ := hi.allInts.items
  have hn : numsOf its.toArray.toList = ns := by rw [show its.toArray.toList = its from rfl, hi.numsOf]
  rw [hx] at hl hn
  rw [nums_intItems] at hn
  refine PySem.W.ktm_sumG (I.ok.hd hc) hl fun h' tk t' hk => ?_
  rw [preSum_eq, List.take_of_length_le (by simp), hn]
  exact ⟨.int _, H, I.kept hk, ⟨_, rfl⟩, q⟩
/-! heaps -/
/-- all but t is as it was -/
def But (t : Addr) (H H' : Hp) : Prop := ∀ b o, H b = some o → b ≠ t → H' b = some o
theorem But.refl {t : Addr} {H : Hp} : But t H H := fun _ _ h _ => h
theorem But.trans {t : Addr} {H H1 H2 : Hp} (a : But t H H1) (b : But t H1 H2) : But t H H2 := fun c o h n => b c o (a c o h n) n
theorem But.of {t : Addr} {H H' : Hp} (s : Same H H') : But t H H' := fun b o h _ => s b o h
theorem But.thenS {t : Addr} {H H1 H2 : Hp} (a : But t H H1) (b : Same H1 H2) : But t H H2 := a.trans (.of b)
theorem Same.thenB {t : Addr} {H H1 H2 : Hp} (a : Same H H1) (b : But t H1 H2) : But t H H2 := (But.of a).trans b
theorem same_upd {H : Hp} {p : Addr} {o : HO} (h : H p = none) : Same H (upd H p o) := fun b x e => by
  rw [upd_ne (ne_of_none e h)]
  exact e
theorem But.upd {t : Addr} {H : Hp} {o : HO} : But t H (upd H t o) := fun b x e n => by
  rw [upd_ne n]
  exact e
theorem But.tup {K : PySem.W.Frag} {t a : Addr} {H H' : Hp} {xs : List V} {l : List V} (b : But t H H') (ht : H t = some (.lst l)) (h : SqT K H a xs) : SqT K H' a xs := by
  rcases h with (h | ⟨o, h⟩) | h
  · exact .inl (.inl (b _ _ h (ne_of h ht (by intro z; cases z))))
  · exact .inl (.inr ⟨o, b _ _ h (ne_of h ht (by intro z; cases z))⟩)
  · exact .inr h
theorem But.lst {K : PySem.W.Frag} {t a : Addr} {H H' : Hp} {xs : List V} (b : But t H H') (ha : a ≠ t) (h : SqL K H a xs) : SqL K H' a xs := by
  rcases h with (h | ⟨o, h⟩) | h
  · exact .inl (.inl (b _ _ h ha))
  · exact .inl (.inr ⟨o, b _ _ h ha⟩)
  · exact .inr h
theorem Same.tup {K : PySem.W.Frag} {a : Addr} {H H' : Hp} {xs : List V} (e : Same H H') (h : SqT K H a xs) : SqT K H' a xs := by
  rcases h with (h | ⟨o, h⟩) | h
  · exact .inl (.inl (e _ _ h))
  · exact .inl (.inr ⟨o, e _ _ h⟩)
  · exact .inr h
theorem sqL {K : PySem.W.Frag} {H : Hp} {a : Addr} {xs : List V} (h : H a = some (.lst xs)) : SqL K H a xs := Or.inl (Or.inl h)
theorem sqT {K : PySem.W.Frag} {H : Hp} {a : Addr} {xs : List V} (h : H a = some (.tup xs)) : SqT K H a xs := Or.inl (Or.inl h)
theorem sz {n : Nat} (h : n ≤ 100000) : n ≤ sizeLine := Nat.le_trans h (by decide)
theorem szl {n : Nat} (h : n < 100000) : n < sizeLine := Nat.lt_of_lt_of_le h (by decide)
/-- a list that is read and is not t -/
def SqN (K : PySem.W.Frag) (H : Hp) (a t : Addr) (xs : List V) : Prop := (Rd H a (.lst xs) ∧ a ≠ t) ∨
    ∃ (o : Obj) (its : Array Value) (n : Nat), K.lookup a = some o ∧ o.cls = .type "list" ∧ o.dict = none ∧ o.data = .seq its n ∧ its.size ≤ sizeLine ∧ Vals xs its.toList
theorem SqN.l {K : PySem.W.Frag} {H : Hp} {a t : Addr} {xs : List V} (h : SqN K H a t xs) : SqL K H a xs := by
  rcases h with ⟨h, _⟩ | h
  · exact .inl h
  · exact .inr h
theorem SqN.but {K : PySem.W.Frag} {H H' : Hp} {a t : Addr} {xs : List V} (h : SqN K H a t xs) (b : But t H H') : SqN K H' a t xs := by
  rcases h with ⟨h | ⟨o, h⟩, n⟩ | h
  · exact .inl ⟨.inl (b _ _ h n), n⟩
  · exact .inl ⟨.inr ⟨o, b _ _ h n⟩, n⟩
  · exact .inr h
theorem SqN.same {K : PySem.W.Frag} {H H' : Hp} {a t : Addr} {xs : List V} (h : SqN K H a t xs) (b : Same H H') : SqN K H' a t xs := h.but (.of b)
theorem SqN.new {K : PySem.W.Frag} {H : Hp} {a t : Addr} {xs : List V} (h : SqL K H a xs) (ht : H t = none) : SqN K H a t xs := by
  rcases h with (h | ⟨o, h⟩) | h
  · exact .inl ⟨.inl h, ne_of_none h ht⟩
  · exact .inl ⟨.inr ⟨o, h⟩, ne_of_none h ht⟩
  · exact .inr h
theorem SqN.app {K : PySem.W.Frag} {H H' : Hp} {a t p : Addr} {xs : List V} {o : HO} (h : SqN K H' a t xs) (h0 : SqN K H a t xs) (hp : H p = none) : SqN K (upd H' p o) a t xs := by
  have sN : But p H' (upd H' p o) := But.upd
  rcases h0 with ⟨h' | ⟨o', h'⟩, n'⟩ | h'
  · rcases h with ⟨h | ⟨o, h⟩, n⟩ | h
    · exact .inl ⟨.inl (sN _ _ h (ne_of_none h' hp)), n⟩
    · exact .inl ⟨.inr ⟨o, sN _ _ h (ne_of_none h' hp)⟩, n⟩
    · exact .inr h
  · rcases h with ⟨h | ⟨o, h⟩, n⟩ | h
    · exact .inl ⟨.inl (sN _ _ h (ne_of_none h' hp)), n⟩
    · exact .inl ⟨.inr ⟨o, sN _ _ h (ne_of_none h' hp)⟩, n⟩
    · exact .inr h
  · exact .inr h'
theorem szN {n : Nat} (h : n ≤ 64) : (n ≤ sizeLine) = True := eq_true (sz (by omega))
/-! things -/
/-- what may be handed in, with the name of its type -/
inductive Thing (K : PySem.W.Frag) (H : Hp) : V → String → Prop
  | non : Thing K H .non "NoneType"
  | bl (b : Bool) : Thing K H (.bl b) "bool"
  | int (i : Int) : Thing K H (.int i) "int"
  | str (x : Str) : Thing K H (.str x) "str"
  | lst {a : Addr} {xs : List V} (h : H a = some (.lst xs)) : Thing K H (.ref a) "list"
  | tup {a : Addr} {xs : List V} (h : H a = some (.tup xs)) : Thing K H (.ref a) "tuple"
  | dic {a : Addr} {kvs : List (Key × V)} (h : H a = some (.dK kvs)) : Thing K H (.ref a) "dict"
theorem Thing.ty {K : PySem.W.Frag} {H : Hp} {x : V} {n : String} (h : Thing K H x n) : TyX K H x (.type n) := by
  cases h with
  | non => exact .base .non
  | bl b => exact .base (.bl b)
  | int i => exact .base (.int i)
  | str x => exact .base (.str x)
  | lst h => exact .base (.lst h)
  | tup h => exact .base (.tup h)
  | dic h => exact .base (.dK h)
theorem Thing.same {K : PySem.W.Frag} {H H' : Hp} {x : V} {n : String} (s : Same H H') (h : Thing K H x n) : Thing K H' x n := by
  cases h with
  | non => exact .non
  | bl b => exact .bl b
  | int i => exact .int i
  | str x => exact .str x
  | lst h => exact .lst (s _ _ h)
  | tup h => exact .tup (s _ _ h)
  | dic h => exact .dic (s _ _ h)
def isA (n : String) (T : String) : Bool := n == T || (n == "bool" && T == "int")
def tyNames : List String := ["NoneType", "bool", "int", "str", "list", "tuple", "dict"]
theorem Thing.mem {K : PySem.W.Frag} {H : Hp} {x : V} {n : String} (h : Thing K H x n) : n ∈ tyNames := by
  cases h <;> simp [tyNames]
theorem kit_all : ∀ n ∈ tyNames, ∀ T ∈ tyNames, kitB n T = some (isA n T) := by decide +kernel
theorem Thing.kit {K : PySem.W.Frag} {H : Hp} {x : V} {n : String} (h : Thing K H x n) {T : String} (hT : T ∈ tyNames) : PySem.W.kitOne K (.type n) (.type T) = some (isA n T) := kit_ty (kit_all n h.mem T hT)
/-- isinstance of a thing -/
theorem isi_thing {K : PySem.W.Frag} {H : Hp} {x : V} {n : String} {T : String} {Q : VK} (h : Thing K H x n) (hT : T ∈ tyNames) (q : Q (.bl (isA n T)) H) : rIsi K [x, .ty T] H Q :=
  ⟨x, .ty T, .type n, .type T, isA n T, rfl, .ty T, h.ty, h.kit hT, q⟩
def isWholeV : V → Bool
  | .int _ => true
  | _ => false
def isNumV (x : V) (lo : Int) (y : V) : Bool := match x, y with
  | .int i, .int hi => decide (lo ≤ i) && decide (i ≤ hi)
  | _, _ => false
end Nk
namespace Nk
open PySem L2 PySem.Spec PyProof.Rows
/-- where a class of the top stands -/
def cls (mg : Str → Option Value) (x : Str) : Addr := match mg x with
  | some (.ref a) => a
  | _ => 0
theorem cls_of {mg : Str → Option Value} {x : Str} {a : Addr} (h : mg x = some (.ref a)) : cls mg x = a := by
  unfold cls; rw [h]
section
variable {X : Cx} {x : Str} {i : Int} {z : Str} {pos : Pos}
theorem pe_globI (h : ∃ t, X.mg x = some (.int i t)) (hg : Gl X x) (hd : (x == ("__debug__" : Str)) = false := by decide) : PE X (.Name x pos) (tC (.int i)) := by
  obtain ⟨t, h⟩ := h
  exact pe_glob hg h ⟨_, rfl⟩ hd
theorem pe_globS (h : ∃ t, X.mg x = some (.str z t)) (hg : Gl X x) (hd : (x == ("__debug__" : Str)) = false := by decide) : PE X (.Name x pos) (tC (.str z)) := by
  obtain ⟨t, h⟩ := h
  exact pe_glob hg h ⟨_, rfl⟩ hd
end
section
variable {K : PySem.W.Frag} {h : Heap} {mg : Str → Option Value}
theorem df_mk {x qual : Str} {st : Stmt} {ps : List Str} {f : Addr} {oc : Value} {od an : Option Addr} {osl : Array (Option Value)} {kV doc pm cdv ct : Value} (X : K.In h) (G : h.Ns mainGlobals mg)
    (hb : ∀ (kV doc pm : Value) (an : Option Addr) (cdv ct : Value) (us : List Value), us.length = ps.length → bindArgs (PySem.W.fnOf x qual (defArgs st) (defBody st) (defScope st) .none kV doc pm an cdv ct) ⟨us, []⟩ = pure (ps.zip us))
    (a : PySem.W.nsIn K mainGlobals x = some (some (.ref f)))
    (l : K.lookup f = some ⟨oc, od, .func (PySem.W.fnOf x qual (defArgs st) (defBody st) (defScope st) .none kV doc pm an cdv ct), osl⟩)
    (c : PySem.W.codeIn K cdv qual = true) (k : PySem.W.keepIn K (.ref f) = true) : Df K mg x qual st ps := by
  have F := fun_mk (st := st) l c k
  exact ⟨f, _, F, PySem.W.mg_of X G a, F.binds hb⟩
theorem xc_mk {x : Str} {C : Addr} (X : K.In h) (G : h.Ns mainGlobals mg) (a : PySem.W.nsIn K mainGlobals x = some (some (.ref C)))
    (xP : PySem.W.excIn K C [.type "RuntimeError", .type "Exception", .type "BaseException", .type "object"] "RuntimeError.__new__" = true)
    (kP : PySem.W.keepIn K (.ref C) = true) (bP : PySem.W.subIn K (.ref C) (.type "BaseException") = some true) (tP : PySem.W.typeIn K (.ref C) = some (.type "type")) : Xc K mg x (cls mg x) := by
  have g := PySem.W.mg_of X G a
  rw [cls_of g]
  exact ⟨g, xP, kP, bP, tP⟩
theorem ci_mk {x : Str} {i : Int} {t : Tok} (X : K.In h) (G : h.Ns mainGlobals mg) (a : PySem.W.nsIn K mainGlobals x = some (some (.int i t))) : ∃ t, mg x = some (.int i t) := ⟨t, PySem.W.mg_of X G a⟩
theorem cs_mk {x z : Str} {t : Tok} (X : K.In h) (G : h.Ns mainGlobals mg) (a : PySem.W.nsIn K mainGlobals x = some (some (.str z t))) : ∃ t, mg x = some (.str z t) := ⟨t, PySem.W.mg_of X G a⟩
end
/-- the law's: a list of at most 63 ints is handed in, True comes out -/
def spLaw (K : PySem.W.Frag) : Sp := fun vs H Q _ => ∃ (a : Addr) (ns : List Int), vs = [.ref a] ∧ SqL K H a (ns.map V.int) ∧ ns.length ≤ 63 ∧ ∀ H', Q (.bl true) H'
theorem law_end {P : Program} {w : World} {K : PySem.W.Frag} {mg : Str → Option Value} {st : Stmt} {fa : Addr} {k : Nat} (hfa : mg "law" = some (.ref fa)) (D : Df K mg "law" "law" st ["script"])
    (hb : ∀ (kV doc pm : Value) (an : Option Addr) (cdv ct v : Value), bindArgs (PySem.W.fnOf "law" "law" (defArgs st) (defBody st) (defScope st) .none kV doc pm an cdv ct) ⟨[v], []⟩ = pure [(("script" : Str), v)])
    (G : ∀ (base : Heap) (f : Addr) (fd : FuncData), Fun K "law" "law" st f fd → FnOk P w K mg base CX0 k f fd ["script"] (spLaw K)) :
    ∃ fd : FuncData, (∀ (s : Shared) (v : Value), BindsTo s fd ⟨[v], []⟩ [("script", v)]) ∧ ∀ base : Heap, K.In base → base.Ns mainGlobals mg → FnOk P w K mg base CX0 k fa fd ["script"] (spLaw K) := by
  obtain ⟨f, fd, F, g, b⟩ := D.ex
  have e : fa = f := by
    have := hfa.symm.trans g
    cases this
    rfl
  subst e
  refine ⟨fd, fun s v => ?_, fun base _ _ => G base fa fd F⟩
  obtain ⟨oc, od, kV, doc, pm, an, cdv, ct, osl, rfl, lk, hcd⟩ := F.ex
  exact .of_eq (hb _ _ _ _ _ _ _)
end Nk
namespace Nk
open PySem L2 PySem.Spec PyProof.Rows
theorem Same.keepN {H H' : Hp} {t : Addr} {o : HO} (s : Same H H') (n : H t = none) : Same H (upd H' t o) := fun b x e => by
  rw [upd_ne (ne_of_none e n)]
  exact s b x e
/-- within a comprehension that leaves all else: G i is the list behind i items -/
structure LcP (H1 : Hp) (D : Addr) (G : Nat → List V) (i : Nat) (H : Hp) : Prop where
  same : Same H1 H
  at_ : H D = some (.lst (G i))
theorem LcP.push {H1 H H4 : Hp} {D : Addr} {G : Nat → List V} {i : Nat} {y : V} (p : LcP H1 D G i H) (hD : H1 D = none) (hl : (G i).length ≤ 99999) (s : Same H H4) (e : G (i + 1) = G i ++ [y]) :
    ∃ acc, H4 D = some (.lst acc) ∧ acc.length < sizeLine ∧ LcP H1 D G (i + 1) (upd H4 D (.lst (acc ++ [y]))) :=
  ⟨G i, s _ _ p.at_, szl (by omega), Same.keepN (p.same.trans s) hD, by rw [upd_same, e]⟩
theorem LcP.skip {H1 H H4 : Hp} {D : Addr} {G : Nat → List V} {i : Nat} (p : LcP H1 D G i H) (s : Same H H4) (e : G (i + 1) = G i) : LcP H1 D G (i + 1) H4 :=
  ⟨p.same.trans s, by rw [e]; exact s _ _ p.at_⟩
theorem lcT {K : PySem.W.Frag} {a : Addr} {xs : List V} {g : TG} {tt : TT} {te : TE} {vs : List Nat} {σ : L2.St} {H1 : Hp} {D : Addr} {Qd : Hp → Prop} (hD : H1 D = none) (hT : SqT K H1 a xs) (G : Nat → List V) (h0 : G 0 = [])
    (hs : ∀ i x H, xs[i]? = some x → LcP H1 D G i H → g x (wipe σ vs) H fun σ2 H2 => wipe σ2 vs = wipe σ vs ∧ tt σ2 H2 fun b H3 =>
      if b = true then te σ2 H3 fun y H4 => ∃ acc, H4 D = some (.lst acc) ∧ acc.length < sizeLine ∧ LcP H1 D G (i + 1) (upd H4 D (.lst (acc ++ [y]))) else LcP H1 D G (i + 1) H3) (hd : ∀ H, Same H1 H → H D = some (.lst (G xs.length)) → Qd H) :
    ∃ W : Nat → Nat → Hp → Prop, (∃ m, W 0 m (upd H1 D (.lst []))) ∧ ∀ i m H, W i m H →
      ((Itt K a).stop i H ∧ Qd H) ∨ ((Itt K a).go i H ∧ ∃ Nx : Hp → Prop, (∀ H', Nx H' → ∃ m', m' < m ∧ W (i + 1) m' H') ∧ ∀ x H', (Itt K a).yld i H x H' → g x (wipe σ vs) H' fun σ2 H2 => wipe σ2 vs = wipe σ vs ∧ tt σ2 H2 fun b H3 =>
        if b = true then te σ2 H3 fun y H4 => ∃ acc, H4 D = some (.lst acc) ∧ acc.length < sizeLine ∧ Nx (upd H4 D (.lst (acc ++ [y]))) else Nx H3) :=
  lc_tup (K := K) (a := a) (xs := xs) (LcP H1 D G) ⟨same_upd hD, by rw [h0]; exact upd_same⟩ (fun i H _ p => Same.tup p.same hT) hs fun H p => hd H p.same p.at_
theorem lcL {K : PySem.W.Frag} {a : Addr} {xs : List V} {g : TG} {tt : TT} {te : TE} {vs : List Nat} {σ : L2.St} {H1 : Hp} {D : Addr} {Qd : Hp → Prop} (hD : H1 D = none) (hT : SqL K H1 a xs) (G : Nat → List V) (h0 : G 0 = [])
    (hs : ∀ i x H, xs[i]? = some x → LcP H1 D G i H → g x (wipe σ vs) H fun σ2 H2 => wipe σ2 vs = wipe σ vs ∧ tt σ2 H2 fun b H3 =>
      if b = true then te σ2 H3 fun y H4 => ∃ acc, H4 D = some (.lst acc) ∧ acc.length < sizeLine ∧ LcP H1 D G (i + 1) (upd H4 D (.lst (acc ++ [y]))) else LcP H1 D G (i + 1) H3) (hd : ∀ H, Same H1 H → H D = some (.lst (G xs.length)) → Qd H) :
    ∃ W : Nat → Nat → Hp → Prop, (∃ m, W 0 m (upd H1 D (.lst []))) ∧ ∀ i m H, W i m H →
      ((Itl K a).stop i H ∧ Qd H) ∨ ((Itl K a).go i H ∧ ∃ Nx : Hp → Prop, (∀ H', Nx H' → ∃ m', m' < m ∧ W (i + 1) m' H') ∧ ∀ x H', (Itl K a).yld i H x H' → g x (wipe σ vs) H' fun σ2 H2 => wipe σ2 vs = wipe σ vs ∧ tt σ2 H2 fun b H3 =>
        if b = true then te σ2 H3 fun y H4 => ∃ acc, H4 D = some (.lst acc) ∧ acc.length < sizeLine ∧ Nx (upd H4 D (.lst (acc ++ [y]))) else Nx H3) :=
  lc_list (K := K) (a := a) (xs := xs) (LcP H1 D G) ⟨same_upd hD, by rw [h0]; exact upd_same⟩ (fun i H _ p => p.same.seq hT) hs fun H p => hd H p.same p.at_
theorem lcR {lo : Int} {n : Nat} {g : TG} {tt : TT} {te : TE} {vs : List Nat} {σ : L2.St} {H1 : Hp} {D : Addr} {Qd : Hp → Prop} (hD : H1 D = none) (G : Nat → List V) (h0 : G 0 = [])
    (hs : ∀ i H, i < n → LcP H1 D G i H → g (.int (lo + i)) (wipe σ vs) H fun σ2 H2 => wipe σ2 vs = wipe σ vs ∧ tt σ2 H2 fun b H3 =>
      if b = true then te σ2 H3 fun y H4 => ∃ acc, H4 D = some (.lst acc) ∧ acc.length < sizeLine ∧ LcP H1 D G (i + 1) (upd H4 D (.lst (acc ++ [y]))) else LcP H1 D G (i + 1) H3) (hd : ∀ H, Same H1 H → H D = some (.lst (G n)) → Qd H) :
    ∃ W : Nat → Nat → Hp → Prop, (∃ m, W 0 m (upd H1 D (.lst []))) ∧ ∀ i m H, W i m H →
      ((Itr lo n).stop i H ∧ Qd H) ∨ ((Itr lo n).go i H ∧ ∃ Nx : Hp → Prop, (∀ H', Nx H' → ∃ m', m' < m ∧ W (i + 1) m' H') ∧ ∀ x H', (Itr lo n).yld i H x H' → g x (wipe σ vs) H' fun σ2 H2 => wipe σ2 vs = wipe σ vs ∧ tt σ2 H2 fun b H3 =>
        if b = true then te σ2 H3 fun y H4 => ∃ acc, H4 D = some (.lst acc) ∧ acc.length < sizeLine ∧ Nx (upd H4 D (.lst (acc ++ [y]))) else Nx H3) :=
  lc_range (LcP H1 D G) ⟨same_upd hD, by rw [h0]; exact upd_same⟩ hs fun H p => hd H p.same p.at_
theorem take_next {α : Type} {l : List α} {i : Nat} {x : α} (h : l[i]? = some x) : l.take (i + 1) = l.take i ++ [x] := by
  rw [List.take_add_one, h]; rfl
theorem map_take_next {α β : Type} {l : List α} {i : Nat} {x : α} (f : α → β) (h : l[i]? = some x) : (l.take (i + 1)).map f = (l.take i).map f ++ [f x] := by
  rw [take_next h]; simp
theorem filter_take_next {α : Type} {l : List α} {i : Nat} {x : α} (f : α → Bool) (h : l[i]? = some x) : (l.take (i + 1)).filter f = (l.take i).filter f ++ (if f x = true then [x] else []) := by
  rw [take_next h, List.filter_append]; cases e : f x <;> simp [e]
theorem filter_len {α : Type} (l : List α) (f : α → Bool) (i : Nat) : ((l.take i).filter f).length ≤ l.length :=
  Nat.le_trans (List.length_filter_le _ _) (by simp; omega)
theorem lt_of_get {α : Type} {l : List α} {i : Nat} {x : α} (h : l[i]? = some x) : i < l.length := (List.getElem?_eq_some_iff.mp h).1
theorem mem_of_get {α : Type} {l : List α} {i : Nat} {x : α} (h : l[i]? = some x) : x ∈ l := List.mem_of_getElem? h
end Nk
namespace Nk
open PySem L2
theorem seq_k {t u : TS} {D : Ends} {σ : L2.St} {H : Hp} (h : ∀ Kt : L2.St → Hp → Prop, Kt = u D → t { D with nx := Kt } σ H) : tSeq t u D σ H := h _ rfl
theorem gCons_cons {t : TG} {u : TGs} {v : V} {r : List V} {σ : L2.St} {H : Hp} {Q : L2.St → Hp → Prop} : gCons t u (v :: r) σ H Q = t v σ H fun σ' H' => u r σ' H' Q := by
  simp only [gCons, List.cons.injEq]
  refine propext ⟨?_, fun h => ⟨v, r, ⟨rfl, rfl⟩, h⟩⟩
  rintro ⟨v', r', ⟨rfl, rfl⟩, h⟩
  exact h
theorem gNil_nil {σ : L2.St} {H : Hp} {Q : L2.St → Hp → Prop} : gNil [] σ H Q = Q σ H := by
  simp only [gNil, true_and]
theorem scal_ii {a b : Int} : scal (.int a) (.int b) = true := rfl
theorem scal_ss {a b : Str} : scal (.str a) (.str b) = true := rfl
theorem scal_bb {a b : Bool} : scal (.bl a) (.bl b) = true := rfl
theorem scal_nn : scal .non .non = true := rfl
theorem scal_ni {b : Int} : scal .non (.int b) = true := rfl
theorem scal_in {b : Int} : scal (.int b) .non = true := rfl
theorem scal_ns {b : Str} : scal .non (.str b) = true := rfl
theorem scal_sn {b : Str} : scal (.str b) .non = true := rfl
theorem scal_is {a : Int} {b : Str} : scal (.int a) (.str b) = true := rfl
theorem scal_si {a : Int} {b : Str} : scal (.str b) (.int a) = true := rfl
end Nk
namespace Nk
open PySem L2
/-- what a for asks when its iterator stands -/
def ForW (J : It) (g : TG) (tb : TS) (D : Ends) (σ : L2.St) (H : Hp) : Prop := ∃ W : Nat → Nat → L2.St → Hp → Prop, (∃ m, W 0 m σ H) ∧ ∀ i m σ H, W i m σ H →
  (J.stop i H ∧ D.nx σ H) ∨ (J.go i H ∧ ∃ N : L2.St → Hp → Prop, (∀ σ' H', N σ' H' → ∃ m', m' < m ∧ W (i + 1) m' σ' H') ∧ ∀ x H', J.yld i H x H' → g x σ H' fun σ2 H2 => tb { D with nx := N, ct := N, bk := D.nx } σ2 H2)
theorem tFor_k {wi : TI} {g : TG} {tb : TS} {D : Ends} {σ : L2.St} {H : Hp} : tFor wi g tb D σ H = wi σ H fun J H1 => ForW J g tb D σ H1 := rfl
/-- what a comprehension asks when its iterator and its list stand -/
def LcW (J : It) (g : TG) (tt : TT) (te : TE) (vs : List Nat) (σ : L2.St) (H1 : Hp) (D : Addr) (Qd : Hp → Prop) : Prop := ∃ W : Nat → Nat → Hp → Prop, (∃ m, W 0 m (upd H1 D (.lst []))) ∧ ∀ i m H, W i m H →
  (J.stop i H ∧ Qd H) ∨ (J.go i H ∧ ∃ Nx : Hp → Prop, (∀ H', Nx H' → ∃ m', m' < m ∧ W (i + 1) m' H') ∧ ∀ x H', J.yld i H x H' → g x (wipe σ vs) H' fun σ2 H2 => wipe σ2 vs = wipe σ vs ∧ tt σ2 H2 fun b H3 =>
    if b = true then te σ2 H3 fun y H4 => ∃ acc, H4 D = some (.lst acc) ∧ acc.length < sizeLine ∧ Nx (upd H4 D (.lst (acc ++ [y]))) else Nx H3)
theorem tLc_k {wi : TI} {g : TG} {tt : TT} {te : TE} {vs : List Nat} {σ : L2.St} {H : Hp} {Q : VK} : tLc wi g tt te vs σ H Q = wi σ H fun J H1 => ∀ D, H1 D = none → LcW J g tt te vs σ H1 D (fun H => Q (.ref D) H) := rfl
end Nk
/-! ### data compared by == -/
namespace Nk
open PySem L2
/-- data of depth at most k, without truths and dicts -/
def gd : Nat → PyData → Bool
  | _, .none => true
  | _, .int _ => true
  | _, .str x => PyData.strOk x
  | _, .bool _ => false
  | _, .dict _ => false
  | 0, .list _ => false
  | 0, .tuple _ => false
  | k + 1, .list xs => xs.all (gd k)
  | k + 1, .tuple xs => xs.all (gd k)
theorem gd_all {k : Nat} : ∀ {xs : List PyData}, xs.all (gd k) = true → ∀ x ∈ xs, gd k x = true := fun h x hx => List.all_eq_true.mp h x hx
theorem canLayAll_of : ∀ {xs : List PyData}, (∀ x ∈ xs, x.canLay0 = true) → PyData.canLayAll0 xs = true
  | [], _ => by simp [PyData.canLayAll0]
  | x :: xs, h => by
    have h1 := h x List.mem_cons_self
    have h2 := canLayAll_of (xs := xs) fun y hy => h y (List.mem_cons_of_mem _ hy)
    simp [PyData.canLayAll0, h1, h2]
theorem depthAll_le {k : Nat} : ∀ {xs : List PyData}, (∀ x ∈ xs, x.depth ≤ k) → PyData.depthAll xs ≤ k
  | [], _ => by simp [PyData.depthAll]
  | x :: xs, h => by
    have h1 := h x List.mem_cons_self
    have h2 := depthAll_le (xs := xs) fun y hy => h y (List.mem_cons_of_mem _ hy)
    simp only [PyData.depthAll]
    omega
theorem gd_lay : ∀ (k : Nat) (d : PyData), gd k d = true → d.canLay0 = true ∧ d.depth ≤ k
  | k, .none, _ => by simp [PyData.canLay0, PyData.depth]
  | k, .int _, _ => by simp [PyData.canLay0, PyData.depth]
  | k, .str x, h => by
    have h' : PyData.strOk x = true := by cases k <;> simpa [gd] using h
    simp [PyData.canLay0, PyData.depth, h']
  | k, .bool _, h => by cases k <;> simp [gd] at h
  | k, .dict _, h => by cases k <;> simp [gd] at h
  | 0, .list _, h => by simp [gd] at h
  | 0, .tuple _, h => by simp [gd] at h
  | k + 1, .list xs, h => by
    have h' : xs.all (gd k) = true := by simpa [gd] using h
    have a := gd_all h'
    simp only [PyData.canLay0, PyData.depth]
    exact ⟨canLayAll_of fun x hx => (gd_lay k x (a x hx)).1, Nat.succ_le_succ (depthAll_le fun x hx => (gd_lay k x (a x hx)).2)⟩
  | k + 1, .tuple xs, h => by
    have h' : xs.all (gd k) = true := by simpa [gd] using h
    have a := gd_all h'
    simp only [PyData.canLay0, PyData.depth]
    exact ⟨canLayAll_of fun x hx => (gd_lay k x (a x hx)).1, Nat.succ_le_succ (depthAll_le fun x hx => (gd_lay k x (a x hx)).2)⟩
theorem gd_shaped {k : Nat} {d : PyData} (h : gd k d = true) (hk : k ≤ 64 := by decide) : SeqAt.shaped d = true := by
  obtain ⟨h1, h2⟩ := gd_lay k d h
  unfold SeqAt.shaped
  rw [h1]
  simp
  omega
theorem eqvAll_iff : ∀ (xs ys : List PyData), (∀ x ∈ xs, ∀ y ∈ ys, PyData.eqv x y = true ↔ x = y) → (PyData.eqvAll xs ys = true ↔ xs = ys)
  | [], [], _ => by simp [PyData.eqvAll]
  | [], _ :: _, _ => by simp [PyData.eqvAll]
  | _ :: _, [], _ => by simp [PyData.eqvAll]
  | x :: xs, y :: ys, h => by
    have h1 := h x List.mem_cons_self y List.mem_cons_self
    have h2 := eqvAll_iff xs ys fun a ha b hb => h a (List.mem_cons_of_mem _ ha) b (List.mem_cons_of_mem _ hb)
    simp [PyData.eqvAll, h1, h2]
theorem eqv_iff : ∀ (k m : Nat) (d e : PyData), gd k d = true → gd m e = true → (PyData.eqv d e = true ↔ d = e)
  | k, m, .bool _, e, h, _ => by cases k <;> simp [gd] at h
  | k, m, .dict _, e, h, _ => by cases k <;> simp [gd] at h
  | k, m, .none, e, _, h => by
    cases e with
    | bool _ => cases m <;> simp [gd] at h
    | dict _ => cases m <;> simp [gd] at h
    | _ => simp [PyData.eqv]
  | k, m, .int i, e, _, h => by
    cases e with
    | bool _ => cases m <;> simp [gd] at h
    | dict _ => cases m <;> simp [gd] at h
    | _ => simp [PyData.eqv]
  | k, m, .str i, e, _, h => by
    cases e with
    | bool _ => cases m <;> simp [gd] at h
    | dict _ => cases m <;> simp [gd] at h
    | _ => simp [PyData.eqv]
  | 0, m, .list _, e, h, _ => by simp [gd] at h
  | 0, m, .tuple _, e, h, _ => by simp [gd] at h
  | k + 1, m, .list xs, e, hd, h => by
    cases e with
    | bool _ => cases m <;> simp [gd] at h
    | dict _ => cases m <;> simp [gd] at h
    | list ys =>
      cases m with
      | zero => simp [gd] at h
      | succ m =>
        have a := gd_all (k := k) (xs := xs) (by simpa [gd] using hd)
        have b := gd_all (k := m) (xs := ys) (by simpa [gd] using h)
        simp only [PyData.eqv, PyData.list.injEq]
        exact eqvAll_iff xs ys fun x hx y hy => eqv_iff k m x y (a x hx) (b y hy)
    | _ => simp [PyData.eqv]
  | k + 1, m, .tuple xs, e, hd, h => by
    cases e with
    | bool _ => cases m <;> simp [gd] at h
    | dict _ => cases m <;> simp [gd] at h
    | tuple ys =>
      cases m with
      | zero => simp [gd] at h
      | succ m =>
        have a := gd_all (k := k) (xs := xs) (by simpa [gd] using hd)
        have b := gd_all (k := m) (xs := ys) (by simpa [gd] using h)
        simp only [PyData.eqv, PyData.tuple.injEq]
        exact eqvAll_iff xs ys fun x hx y hy => eqv_iff k m x y (a x hx) (b y hy)
    | _ => simp [PyData.eqv]
theorem eqv_of_eq {k : Nat} {d e : PyData} (h : gd k d = true) (e1 : d = e) : PyData.eqv d e = true := by
  subst e1
  exact (eqv_iff k k d d h h).mpr rfl
theorem eqv_of_ne {k m : Nat} {d e : PyData} (h : gd k d = true) (h' : gd m e = true) (e1 : d ≠ e) : PyData.eqv d e = false := by
  cases q : PyData.eqv d e with
  | false => rfl
  | true => exact absurd ((eqv_iff k m d e h h').mp q) e1
/-- the data of lists of ints, of tuples of ints -/
abbrev dLI (ns : List Int) : PyData := .list (ns.map .int)
abbrev dTI (ns : List Int) : PyData := .tuple (ns.map .int)
theorem gd_int_all (k : Nat) (ns : List Int) : (ns.map PyData.int).all (gd k) = true := by
  rw [List.all_eq_true]
  intro x hx
  obtain ⟨i, _, rfl⟩ := List.mem_map.mp hx
  cases k <;> rfl
theorem gd_dLI {k : Nat} (ns : List Int) : gd (k + 1) (dLI ns) = true := by simp only [dLI, gd]; exact gd_int_all k ns
theorem gd_dTI {k : Nat} (ns : List Int) : gd (k + 1) (dTI ns) = true := by simp only [dTI, gd]; exact gd_int_all k ns
theorem dpAll_ints {K : PySem.W.Frag} {H : Hp} : ∀ ns : List Int, DpAll K H (ns.map V.int) (ns.map PyData.int)
  | [] => .nil
  | n :: ns => .cons (.int n) (dpAll_ints ns)
theorem dp_LI {K : PySem.W.Frag} {H : Hp} {a : Addr} {ns : List Int} (h : SqL K H a (ns.map V.int)) : Dp K H (.ref a) (dLI ns) := .lst h (dpAll_ints ns)
theorem dp_TI {K : PySem.W.Frag} {H : Hp} {a : Addr} {ns : List Int} (h : SqT K H a (ns.map V.int)) : Dp K H (.ref a) (dTI ns) := .tup h (dpAll_ints ns)
theorem dLI_inj {ns ms : List Int} : dLI ns = dLI ms ↔ ns = ms := by
  constructor
  · intro h
    have h' : ns.map PyData.int = ms.map PyData.int := PyData.list.inj h
    exact (List.map_inj_right (fun _ _ q => PyData.int.inj q)).mp h'
  · intro h; rw [h]
theorem dTI_inj {ns ms : List Int} : dTI ns = dTI ms ↔ ns = ms := by
  constructor
  · intro h
    have h' : ns.map PyData.int = ms.map PyData.int := PyData.tuple.inj h
    exact (List.map_inj_right (fun _ _ q => PyData.int.inj q)).mp h'
  · intro h; rw [h]
/-- == of two data -/
theorem eqD {K : PySem.W.Frag} {H : Hp} {x y : V} {d e : PyData} {Q : VK} {k m : Nat} (hd : Dp K H x d) (he : Dp K H y e) (gk : gd k d = true) (gm : gd m e = true) (h1 : d = e → Q (.bl true) H) (h2 : d ≠ e → Q (.bl false) H) (hk : k ≤ 64 := by decide) (hm : m ≤ 64 := by decide) : rEqD K x y H Q := by
  refine ⟨d, e, hd, he, gd_shaped gk hk, gd_shaped gm hm, ?_⟩
  by_cases c : d = e
  · rw [eqv_of_eq gk c]; exact h1 c
  · rw [eqv_of_ne gk gm c]; exact h2 c
theorem neD {K : PySem.W.Frag} {H : Hp} {x y : V} {d e : PyData} {Q : VK} {k m : Nat} (hd : Dp K H x d) (he : Dp K H y e) (gk : gd k d = true) (gm : gd m e = true) (h1 : d = e → Q (.bl false) H) (h2 : d ≠ e → Q (.bl true) H) (hk : k ≤ 64 := by decide) (hm : m ≤ 64 := by decide) : rNeD K x y H Q := by
  refine ⟨d, e, hd, he, gd_shaped gk hk, gd_shaped gm hm, ?_⟩
  by_cases c : d = e
  · rw [eqv_of_eq gk c]; exact h1 c
  · rw [eqv_of_ne gk gm c]; exact h2 c
theorem newF {H H' : Hp} {p : Addr} {o : HO} (hp : H p = none) (e : upd H p o = H') : Same H H' ∧ H' p = some o := by
  subst e
  exact ⟨same_upd hp, upd_same⟩
/-- an item of a list, by its place -/
theorem ixL {K : PySem.W.Frag} {H : Hp} {p : Addr} {xs : List V} {i : Int} {j : Nat} {v : V} {Q : VK} (h : SqL K H p xs) (hi : i = (j : Int)) (e : xs[j]? = some v) (q : Q v H) : rIxL K (.ref p) (.int i) H Q :=
  ⟨p, xs, i, v, rfl, rfl, h, by rw [hi]; exact atI_nat e, q⟩
theorem ixT {K : PySem.W.Frag} {H : Hp} {p : Addr} {xs : List V} {i : Int} {j : Nat} {v : V} {Q : VK} (h : SqT K H p xs) (hi : i = (j : Int)) (e : xs[j]? = some v) (q : Q v H) : rIxT K (.ref p) (.int i) H Q :=
  ⟨p, xs, i, v, rfl, rfl, h, by rw [hi]; exact atI_nat e, q⟩
theorem setL {H : Hp} {p : Addr} {xs : List V} {i : Int} {j : Nat} {v : V} {Q : Hp → Prop} (h : H p = some (.lst xs)) (hi : i = (j : Int)) (e : j < xs.length) (q : Q (upd H p (.lst (xs.set j v)))) : rSetL (.ref p) (.int i) v H Q :=
  ⟨p, xs, i, j, rfl, rfl, h, by rw [hi]; unfold ixN; rw [if_pos (by omega), if_pos (by omega)]; simp, q⟩
theorem tyL {K : PySem.W.Frag} {H : Hp} {l : Addr} {xs : List V} (h : H l = some (.lst xs)) : tyV K "list" (.ref l) H := .inl ⟨rfl, _, SqL.of h⟩
theorem appR {H : Hp} {l : Addr} {xs : List V} {y : V} {Q : VK} (h : H l = some (.lst xs)) (hz : xs.length ≤ 99999) (q : Q .non (upd H l (.lst (xs ++ [y])))) : rAppend (.ref l) [y] H Q :=
  ⟨l, xs, y, rfl, rfl, h, szl (by omega), q⟩
theorem app {K : PySem.W.Frag} {H : Hp} {l : Addr} {xs : List V} {y : V} {Q : VK} (h : H l = some (.lst xs)) (hz : xs.length ≤ 99999) (q : Q .non (upd H l (.lst (xs ++ [y])))) : tyV K "list" (.ref l) H ∧ rAppend (.ref l) [y] H Q :=
  ⟨tyL h, l, xs, y, rfl, rfl, h, szl (by omega), q⟩
theorem Same.app {H H' : Hp} {p : Addr} {o : HO} (s : Same H H') (n : H p = none) : Same H (upd H' p o) := fun b x e => by
  rw [upd_ne (ne_of_none e n)]
  exact s b x e
theorem inV_ints (n : Int) (l : List Int) : inV (.int n) (l.map V.int) = decide (n ∈ l) := by
  unfold inV
  rw [List.any_map, Bool.eq_iff_iff, List.any_eq_true, decide_eq_true_eq]
  constructor
  · rintro ⟨x, hx, e⟩
    have : x = n := by simpa [eqV] using e
    rw [← this]; exact hx
  · intro h
    exact ⟨n, h, by simp [eqV]⟩
theorem flat_ints (l : List Int) : (l.map V.int).all flatV = true := by
  rw [List.all_eq_true]
  intro x hx
  obtain ⟨i, _, rfl⟩ := List.mem_map.mp hx
  rfl
end Nk
/-! ### d.keys() as a value; sorted of it -/
namespace Nk
open PySem L2 PySem.Spec PyProof.Rows
def KeysO (v d : Addr) : HO := .ext fun h => PySem.W.KdlKeysView h v d
theorem keysO_ok {P : Program} {w : World} {H : Hp} {h : Heap} {v d : Addr} (e : PySem.W.KdlKeysView h v d) : ObjOk P w H h v (KeysO v d) := by
  obtain ⟨o, ho, hc, hd⟩ := e
  exact ⟨⟨o, ho, hc, hd⟩, ⟨o, ho⟩, fun h1 h2 ⟨o', q, r⟩ k => ⟨o', k o' q, r⟩⟩
def rKeys : V → List V → Hp → VK → Prop := fun x xs H Q => ∃ (d : Addr) (kvs : List (Key × V)), x = .ref d ∧ xs = [] ∧ H d = some (.dK kvs) ∧ ∀ v, H v = none → Q (.ref v) (upd H v (KeysO v d))
section
variable {X : Cx}
theorem mt_keys : MtR X "dict.keys" rKeys := by
  intro pins s σ H x xs v us Q I rx rxs h
  obtain ⟨d, kvs, rfl, rfl, hd, q⟩ := h
  cases rx
  cases rxs
  obtain ⟨hz, hs0, vs, kv, hdo⟩ := I.hok d _ hd
  refine PySem.call_meetsIn F.slot_dict_keys hdo.typeIs F.entry_dict_keys (F.args_dict_keys_1 _) (PySem.W.kdl_meets_keys (mixKind X.prog X.w) d hs0) ⟨⟨vs, hdo⟩, ?_⟩
  refine ⟨.ref s.heap.objs.size, upd H s.heap.objs.size (KeysO s.heap.objs.size d), I.laid (t' := s.toks) (fun b ob q => Heap.get?_push_of_some _ q) (Nat.le_refl _) (keysO_ok ⟨_, Heap.get?_push_size _ rfl, rfl, rfl⟩), rfl, q _ (I.hok.fresh (Nat.le_refl _))⟩
/-- sorted(d.keys()), whole numbers, any number of them -/
def rSortedKI : List V → Hp → VK → Prop := fun xs H Q => ∃ (v d : Addr) (kvs : List (Key × V)) (ks : List Int), xs = [.ref v] ∧ H v = some (KeysO v d) ∧ H d = some (.dK kvs) ∧ kvs.map (·.1) = ks.map Sum.inl ∧
  ∀ (ys : List Int) (p : Addr), ys.Perm ks → ys.Pairwise (· ≤ ·) → H p = none → Q (.ref p) (upd H p (.lst (ys.map V.int)))
theorem cr_sortedKI (hcalm : X.calm = true) : CallR X (.builtin "sorted") rSortedKI := by
  intro pins s σ H xs us Q I r q
  obtain ⟨v, a, kvs, ks, ex, hv, hd, hks, q⟩ := q
  subst ex
  obtain ⟨u, eu, rx⟩ := vals1 r
  subst eu
  cases rx
  have hview : PySem.W.KdlKeysView s.heap v a := (I.hok v _ hv).1
  obtain ⟨z, lo, vs, rel, dd⟩ := I.hok a _ hd
  obtain ⟨ep, hat⟩ := dd.dictAt
  have hkeys : vs.map (·.1) = ks.map Sum.inl := rel.keys.symm.trans hks
  have hl : vs.length = ks.length := by
    have e := congrArg List.length hkeys
    rw [List.length_map, List.length_map] at e
    exact e
  have hl2 : kvs.length = vs.length := Paired.length rel
  have h16 : vs.length ≤ sizeLine := by omega
  refine Calls.call_function_entry PyProof.Rows.kind_sorted PyProof.Rows.plain_sorted PyProof.Rows.entry_sorted (PyProof.Rows.args_sorted1 _) ?_
  unfold Builtin.«sorted»
  refine wpAny_bind (m := checkCount "sorted" 1 1 _) (wpAny_pure ?_)
  refine wpAny_bind (PySem.W.kdu_collect (A := X.A.in1) (PySem.W.kdl_keys (knd := mixKind X.prog X.w) (r := v) (d := a) (kvs := vs) (ep := ep)) (I.ok.hd hcalm) ⟨hview, hat⟩ h16 fun h' tk acc hk hacc => ?_)
  have hal : acc.toList.length = ks.length := by rw [Array.length_toList, hacc.1, hl]
  have hS : IntsAre acc.toList ks := ints_each hal fun j v e => by
    obtain ⟨k, x, e1, e2⟩ := hacc.2 j v (by rw [← Array.getElem?_toList]; exact e)
    have e3 : (vs.map (·.1))[j]? = some k := by rw [List.getElem?_map, e1]; rfl
    rw [hkeys, List.getElem?_map] at e3
    cases e4 : ks[j]? with
    | none => rw [e4] at e3; cases e3
    | some y =>
      rw [e4] at e3
      have e5 : Sum.inl y = k := Option.some.inj e3
      subst e5
      rcases keyIs_shape (show keyIs (Sum.inl y) v = true from e2) with ⟨i, t, ek, ev⟩ | ⟨z, t, ek, ev⟩
      · cases ek
        exact ⟨y, t, rfl, ev⟩
      · cases ek
  have I1 : Inv X pins σ H { s with heap := h', toks := tk } := I.kept hk
  refine wpAny_bind (wpAny_newList ?_ (by rw [hal]; omega))
  have hoL : (h'.push (seqObj "list" acc.toList.toArray 0)).get? h'.objs.size = some (seqObj "list" acc.toList.toArray 0) := Heap.get?_push_size _ rfl
  show wpAny _ _ _ _ _ { s with heap := h'.push (seqObj "list" acc.toList.toArray 0), toks := tk }
  refine wpAny_bind (wpAny_holding (wpAny_call_entry PyProof.Rows.slot_list_sort ⟨_, hoL, rfl⟩ PyProof.Rows.entry_list_sort
    (SrtO.list_sort_ord (s := { s with heap := h'.push (seqObj "list" acc.toList.toArray 0), toks := tk }) SrtO.swo_int hoL (by rw [hal]; omega) (fun h2 => SrtO.ints_sortable hS h2) fun out g1 g2 => ⟨_, rfl, ?_⟩) (PyProof.Rows.args_list_sort _)))
  obtain ⟨k1, k2, k3⟩ := SrtO.ints_out hS g1 g2
  obtain ⟨e', he'⟩ := PyProof.Rows.sortedHeap_at (vs := acc.toList) (out := out.toArray) hoL
  have hlen : ((out.map SrtO.iv).map V.int).length ≤ sizeLine := by
    rw [List.length_map, k2.length_eq]
    omega
  refine wpAny_pure ⟨_, rfl, .ref h'.objs.size, upd H h'.objs.size (.lst ((out.map SrtO.iv).map V.int)), I1.laid (t' := tk) (fun b u e => ?_) (Nat.le_refl _)
    (show ObjOk X.prog X.w _ _ _ (.lst ((out.map SrtO.iv).map V.int)) from ⟨hlen, out, e', vals_of_ints k1, he'⟩), rfl, q _ _ k2 k3 (I1.hok.fresh (Nat.le_refl _))⟩
  have hb : b < h'.objs.size := Heap.lt_size e
  rw [PyProof.Rows.sortedHeap_old (Nat.ne_of_lt hb) (by rw [size_push']; exact Nat.lt_succ_of_lt hb)]
  exact Heap.get?_push_of_some _ e
end
end Nk
/-! ### the layer's rules with the written part named (for comprehensions, where the reading may not lean on the block) -/
namespace Nk
open PySem L2
section
variable {X : Cx} {K : PySem.W.Frag}
theorem op_inK (K : PySem.W.Frag) (h : X.K = K) : OpR X (compareOp .In) (rIn K false) := h ▸ op_in_seq
theorem op_notInK (K : PySem.W.Frag) (h : X.K = K) : OpR X (compareOp .NotIn) (rIn K true) := h ▸ op_notIn_seq
theorem ix_listK (K : PySem.W.Frag) (h : X.K = K) : IxR X (rIxL K) := h ▸ ix_list
theorem ix_tupK (K : PySem.W.Frag) (h : X.K = K) : IxR X (rIxT K) := h ▸ ix_tup
theorem sl_listK (K : PySem.W.Frag) (h : X.K = K) : SlR X (rSlL K) := h ▸ sl_list
theorem sl_tupK (K : PySem.W.Frag) (h : X.K = K) : SlR X (rSlT K) := h ▸ sl_tup
def rLenQ (K : PySem.W.Frag) : List V → Hp → VK → Prop := fun xs H Q => ∃ p ys, xs = [V.ref p] ∧ (SqL K H p ys ∨ SqT K H p ys) ∧ Q (.int ys.length) H
theorem call_lenK (K : PySem.W.Frag) (h : X.K = K) : CallR X (.builtin "len") (rLenQ K) := h ▸ call_len_seq
def rListQ (K : PySem.W.Frag) : List V → Hp → VK → Prop := fun xs H Q => ∃ p ys, xs = [V.ref p] ∧ (SqL K H p ys ∨ SqT K H p ys) ∧ ∀ l, H l = none → Q (.ref l) (upd H l (.lst ys))
theorem call_listK (K : PySem.W.Frag) (h : X.K = K) : CallR X (.type "list") (rListQ K) := h ▸ call_list_of
def rTupleQ (K : PySem.W.Frag) : List V → Hp → VK → Prop := fun xs H Q => ∃ p ys, xs = [V.ref p] ∧ ((SqL K H p ys ∧ ∀ l, H l = none → Q (.ref l) (upd H l (.tup ys))) ∨ (SqT K H p ys ∧ Q (.ref p) H))
theorem call_tupleK (K : PySem.W.Frag) (h : X.K = K) : CallR X (.type "tuple") (rTupleQ K) := h ▸ call_tuple_of
theorem cr_sumK (K : PySem.W.Frag) (h : X.K = K) (hc : X.calm = true) : CallR X (.builtin "sum") (rSum K) := h ▸ cr_sum hc
theorem cr_sumTK (K : PySem.W.Frag) (h : X.K = K) (hc : X.calm = true) : CallR X (.builtin "sum") (rSumT K) := h ▸ cr_sumT hc
theorem cr_allK (K : PySem.W.Frag) (h : X.K = K) (hc : X.calm = true) : CallR X (.builtin "all") (rAll K) := h ▸ cr_all hc
theorem cr_anyK (K : PySem.W.Frag) (h : X.K = K) (hc : X.calm = true) : CallR X (.builtin "any") (rAny K) := h ▸ cr_any hc
theorem cr_maxK (K : PySem.W.Frag) (h : X.K = K) (hc : X.calm = true) : CallR X (.builtin "max") (rMax K) := h ▸ cr_max hc
theorem cr_minK (K : PySem.W.Frag) (h : X.K = K) (hc : X.calm = true) : CallR X (.builtin "min") (rMin K) := h ▸ cr_min hc
theorem op_eqDK (K : PySem.W.Frag) (h : X.K = K) (hu : X.A.units + 64 < cLine) : OpR X (compareOp .Eq) (rEqD K) := h ▸ op_eqD hu
theorem op_neDK (K : PySem.W.Frag) (h : X.K = K) (hu : X.A.units + 64 < cLine) : OpR X (compareOp .NotEq) (rNeD K) := h ▸ op_neD hu
theorem op_catTK (K : PySem.W.Frag) (h : X.K = K) : OpR X (binaryOp .Add) (rCatT K) := h ▸ op_catT
theorem call_isiK_ (K : PySem.W.Frag) (h : X.K = K) : CallR X (.builtin "isinstance") (rIsi K) := h ▸ call_isi
theorem pi_listK {tg l : Expr} {tl : TE} (K : PySem.W.Frag) (h : X.K = K) (hl : PE X l tl) : PI X tg l (iList K tl) := h ▸ pi_list hl
theorem pi_tupK {tg l : Expr} {tl : TE} (K : PySem.W.Frag) (h : X.K = K) (hl : PE X l tl) : PI X tg l (iTup K tl) := h ▸ pi_tup hl
theorem pg_tupK {es : List Expr} {k : Nat} {t : TGs} {n : Nat} {pos : Pos} (K : PySem.W.Frag) (hK : X.K = K) (hc : X.calm = true) (h : PGs X es t)
    (hn : (assignEach es X.env).length = n := by rfl) (hst : (assignEach es X.env).findIdx? (·.1) = none := by rfl) : PG X (.Tuple es k pos) (gTup K n t) := hK ▸ pg_tup hc h hn hst
theorem pi_enumK {e : Expr} {ta : TA} {p pos tpos : Pos} {elts : List Expr} {kk : Nat} (K : PySem.W.Frag) (h : X.K = K) (hg : Gl X "enumerate") (hm : X.mg "enumerate" = none) (ha : PA X [e] ta) (hs : starEach [e] X.env = [(false, eval e X.env)] := by rfl) :
    PI X (.Tuple elts kk tpos) (.Call (.Name "enumerate" p) [e] [] pos) (iEnum K ta) := h ▸ pi_enum hg hm ha hs
theorem pi_zipK {e e2 : Expr} {ta : TA} {p pos tpos : Pos} {elts : List Expr} {kk : Nat} (K : PySem.W.Frag) (h : X.K = K) (hg : Gl X "zip") (hm : X.mg "zip" = none) (ha : PA X [e, e2] ta)
    (hs : starEach [e, e2] X.env = (false, eval e X.env) :: starEach [e2] X.env := by rfl) (hpl : (backTo pos (starEach [e2] X.env)).any (·.1) = false := by rfl) :
    PI X (.Tuple elts kk tpos) (.Call (.Name "zip" p) [e, e2] [] pos) (iZip K ta) := h ▸ pi_zip hg hm ha hs hpl
end
end Nk
/-! ### more rules: tuples put together (the left one may be empty), ranges, == of lists with [] -/
namespace Nk
open PySem L2 PySem.Spec PyProof.Rows
section
variable {X : Cx}
def rCatT3 : R2 := fun x y H Q => ∃ a b xs ys, x = .ref a ∧ y = .ref b ∧ H a = some (.tup xs) ∧ H b = some (.tup ys) ∧ xs.length + ys.length ≤ 100000 ∧ ∀ p H', Same H H' → H' p = some (.tup (xs ++ ys)) → Q (.ref p) H'
theorem op_catT3 : OpR X (binaryOp .Add) rCatT3 := by
  intro pins s σ H x y v u Q I rx ry h
  obtain ⟨a, b, xs, ys, rfl, rfl, ha, hb, hz, q⟩ := h
  by_cases hx : xs = []
  · subst hx
    cases rx
    cases ry
    obtain ⟨its, r1, p1, _⟩ := I.tuple (sqT (K := X.K) ha)
    obtain ⟨its2, r2, p2, _⟩ := I.tuple (sqT (K := X.K) hb)
    cases r1
    obtain ⟨⟨cls, dd, data, sl⟩, ho, hc, n, hd⟩ := id p1
    obtain ⟨⟨cls2, dd2, data2, sl2⟩, ho2, hc2, n2, hd2⟩ := id p2
    simp only at hc hd hc2 hd2
    subst hc hd hc2 hd2
    exact concat_meets ⟨_, ho, rfl⟩ ⟨_, ho2, rfl⟩ noFill_tuple_add seq_tuple_add PySem.F.slot_tuple_add PySem.F.entry_tuple_add (PySem.F.args_tuple_add_2 _ _)
      (tuple_addW0 a b #[] its2.toArray n n2 dd dd2 sl sl2 (by rfl)) ⟨ho, ho2, ⟨.ref b, H, I, rfl, q b H (Same.refl _) hb⟩⟩
  · refine op_catT pins s σ H (.ref a) (.ref b) v u Q I rx ry ⟨a, b, xs, ys, rfl, rfl, sqT ha, sqT hb, hx, sz hz, fun e => ?_, fun _ p hp => q p _ (same_upd hp) upd_same⟩
    subst e
    exact q a H (Same.refl _) (by rw [List.append_nil]; exact ha)
def rInR (neg : Bool) : R2 := fun x y H Q => ∃ i a lo hi, x = V.int i ∧ y = V.ref a ∧ H a = some (.rng lo hi) ∧ Q (.bl (if neg then !decide (lo ≤ i ∧ i < hi) else decide (lo ≤ i ∧ i < hi))) H
theorem op_inR : OpR X (compareOp .In) (rInR false) := op_in_rng
theorem op_notInR : OpR X (compareOp .NotIn) (rInR true) := by
  intro pins s σ H x y v u Q I rx ry h
  obtain ⟨i, a, lo, hi, rfl, rfl, ha, q⟩ := h
  obtain ⟨k, rfl⟩ := rx
  obtain rfl : u = Value.ref a := ry
  obtain ⟨t1, t2, t3, ho⟩ := I.hok a _ ha
  show wpAny _ _ (do return Value.bool (!(← contains (Value.ref a) (Value.int i k)))) _ _ s
  refine wpAny_bind (wpAny_contains_slot (T := "range") ⟨_, ho, rfl⟩ F.slot_range_contains (call_meets F.slot_range_contains ⟨_, ho, rfl⟩ F.entry_range_contains (F.args_range_contains_2 _ _) (q_contains a lo hi i t1 t2 t3 k)
    ⟨ho, wpAny_truthy_bool (wpAny_pure ⟨.bl _, H, I, rfl, ?_⟩)⟩))
  rw [place1]
  exact q
def rRange : List V → Hp → VK → Prop := fun vs H Q => ∃ i j, vs = [V.int i, V.int j] ∧ ∀ p, H p = none → Q (.ref p) (upd H p (.rng i j))
theorem cr_rangeV : CallR X (.type "range") rRange := cr_range2
end
/-- data, bools among them -/
def gb : Nat → PyData → Bool
  | _, .none => true
  | _, .int _ => true
  | _, .str x => PyData.strOk x
  | _, .bool _ => true
  | k + 1, .list xs => xs.all (gb k)
  | k + 1, .tuple xs => xs.all (gb k)
  | _, _ => false
theorem gb_lay : ∀ (k : Nat) (d : PyData), gb k d = true → d.canLay0 = true ∧ d.depth ≤ k
  | k, .none, _ => by simp [PyData.canLay0, PyData.depth]
  | k, .bool _, _ => by simp [PyData.canLay0, PyData.depth]
  | k, .int _, _ => by simp [PyData.canLay0, PyData.depth]
  | k, .str x, h => by
    have h' : PyData.strOk x = true := by simpa [gb] using h
    simp [PyData.canLay0, PyData.depth, h']
  | k, .dict _, h => by cases k <;> simp [gb] at h
  | 0, .list _, h => by simp [gb] at h
  | 0, .tuple _, h => by simp [gb] at h
  | k + 1, .list xs, h => by
    have a : ∀ x ∈ xs, gb k x = true := by simpa [gb] using h
    simp only [PyData.canLay0, PyData.depth]
    exact ⟨canLayAll_of fun x hx => (gb_lay k x (a x hx)).1, Nat.succ_le_succ (depthAll_le fun x hx => (gb_lay k x (a x hx)).2)⟩
  | k + 1, .tuple xs, h => by
    have a : ∀ x ∈ xs, gb k x = true := by simpa [gb] using h
    simp only [PyData.canLay0, PyData.depth]
    exact ⟨canLayAll_of fun x hx => (gb_lay k x (a x hx)).1, Nat.succ_le_succ (depthAll_le fun x hx => (gb_lay k x (a x hx)).2)⟩
theorem gb_shaped {k : Nat} {d : PyData} (h : gb k d = true) (hk : k ≤ 64 := by decide) : SeqAt.shaped d = true := by
  obtain ⟨h1, h2⟩ := gb_lay k d h
  unfold SeqAt.shaped
  rw [h1]
  simp
  omega
/-- a thing that may stand within another: it can be laid down as data -/
def Dat (K : PySem.W.Frag) (H : Hp) (k : Nat) (x : V) : Prop := ∃ d, Dp K H x d ∧ gb k d = true
mutual
theorem Dp.same {K : PySem.W.Frag} {H H' : Hp} (s : Same H H') : ∀ {x : V} {d : PyData}, Dp K H x d → Dp K H' x d
  | _, _, .non => .non
  | _, _, .bl b => .bl b
  | _, _, .int i => .int i
  | _, _, .str x => .str x
  | _, _, .lst h a => .lst (s.seq h) (DpAll.same s a)
  | _, _, .tup h a => .tup (Same.tup s h) (DpAll.same s a)
theorem DpAll.same {K : PySem.W.Frag} {H H' : Hp} (s : Same H H') : ∀ {xs : List V} {ds : List PyData}, DpAll K H xs ds → DpAll K H' xs ds
  | _, _, .nil => .nil
  | _, _, .cons h a => .cons (Dp.same s h) (DpAll.same s a)
end
theorem Dat.same {K : PySem.W.Frag} {H H' : Hp} {k : Nat} {x : V} (s : Same H H') (h : Dat K H k x) : Dat K H' k x := by
  obtain ⟨d, h1, h2⟩ := h
  exact ⟨d, Dp.same s h1, h2⟩
theorem dat_all {K : PySem.W.Frag} {H : Hp} {k : Nat} : ∀ {xs : List V}, (∀ x ∈ xs, Dat K H k x) → ∃ ds, DpAll K H xs ds ∧ ds.all (gb k) = true ∧ ds.length = xs.length
  | [], _ => ⟨[], .nil, rfl, rfl⟩
  | x :: xs, h => by
    obtain ⟨d, h1, h2⟩ := h x List.mem_cons_self
    obtain ⟨ds, a, b, c⟩ := dat_all (xs := xs) fun y hy => h y (List.mem_cons_of_mem _ hy)
    exact ⟨d :: ds, .cons h1 a, by rw [List.all_cons, h2, b]; rfl, by simp [c]⟩
theorem eqv_nil {ds : List PyData} (h : ds ≠ []) : PyData.eqv (.list ds) (.list []) = false := by
  cases ds with
  | nil => exact absurd rfl h
  | cons d ds => simp [PyData.eqv, PyData.eqvAll]
/-- l == [], whatever stands in l -/
theorem eqE {K : PySem.W.Frag} {H : Hp} {a b : Addr} {xs : List V} {k : Nat} {Q : VK} (ha : SqL K H a xs) (hx : ∀ x ∈ xs, Dat K H k x) (hb : SqL K H b []) (h1 : xs = [] → Q (.bl true) H) (h2 : xs ≠ [] → Q (.bl false) H) (hk : k + 1 ≤ 64 := by decide) : rEqD K (.ref a) (.ref b) H Q := by
  obtain ⟨ds, d1, d2, d3⟩ := dat_all hx
  refine ⟨.list ds, .list [], .lst ha d1, .lst hb .nil, gb_shaped (k := k + 1) (by simpa [gb] using d2) hk, by decide, ?_⟩
  by_cases c : xs = []
  · have : ds = [] := List.length_eq_zero_iff.mp (by rw [d3, c]; rfl)
    subst this
    exact h1 c
  · rw [eqv_nil (fun e => c (List.length_eq_zero_iff.mp (by rw [← d3, e]; rfl)))]
    exact h2 c
theorem neE {K : PySem.W.Frag} {H : Hp} {a b : Addr} {xs : List V} {k : Nat} {Q : VK} (ha : SqL K H a xs) (hx : ∀ x ∈ xs, Dat K H k x) (hb : SqL K H b []) (h1 : xs = [] → Q (.bl false) H) (h2 : xs ≠ [] → Q (.bl true) H) (hk : k + 1 ≤ 64 := by decide) : rNeD K (.ref a) (.ref b) H Q := by
  obtain ⟨ds, d1, d2, d3⟩ := dat_all hx
  refine ⟨.list ds, .list [], .lst ha d1, .lst hb .nil, gb_shaped (k := k + 1) (by simpa [gb] using d2) hk, by decide, ?_⟩
  by_cases c : xs = []
  · have : ds = [] := List.length_eq_zero_iff.mp (by rw [d3, c]; rfl)
    subst this
    exact h1 c
  · rw [eqv_nil (fun e => c (List.length_eq_zero_iff.mp (by rw [← d3, e]; rfl)))]
    exact h2 c
end Nk
/-! ### comprehensions that filter ints -/
namespace Nk
open PySem L2
theorem lcF {K : PySem.W.Frag} {a : Addr} {ns : List Int} {j : Nat} {tt : TT} {vs : List Nat} {σ : L2.St} {H1 : Hp} {D : Addr} {Qd : Hp → Prop} (f : Int → Bool) (hD : H1 D = none) (hT : SqL K H1 a (ns.map V.int)) (hn : ns.length ≤ 99999)
    (hj : ∀ v : V, ((wipe σ vs).set j (some v))[j]? = some (some v)) (hw : ∀ v : V, wipe ((wipe σ vs).set j (some v)) vs = wipe σ vs)
    (ht : ∀ n H, n ∈ ns → Same H1 H → ∀ Q : Bool → Hp → Prop, (∀ H', Same H H' → Q (f n) H') → tt ((wipe σ vs).set j (some (.int n))) H Q)
    (hd : ∀ H, Same H1 H → H D = some (.lst ((ns.filter f).map V.int)) → Qd H) : LcW (Itl K a) (gName j) tt (tVar j) vs σ H1 D Qd := by
  refine lcL hD hT (fun i => ((ns.take i).filter f).map V.int) (by simp) (fun i x H hx p => ?_) (fun H s hH => hd H s (by simpa using hH))
  rw [List.getElem?_map] at hx
  cases e : ns[i]? with
  | none => rw [e] at hx; cases hx
  | some n =>
  rw [e] at hx
  cases hx
  refine ⟨hw _, ht n H (mem_of_get e) p.same _ fun H' s => ?_⟩
  have hf := filter_take_next f e
  cases c : f n with
  | true =>
    rw [if_pos rfl]
    refine ⟨_, hj _, p.push hD (by rw [List.length_map]; exact Nat.le_trans (filter_len ns f i) hn) s ?_⟩
    show _ = _
    rw [hf, c]
    simp
  | false =>
    rw [if_neg Bool.false_ne_true]
    refine p.skip s ?_
    show _ = _
    rw [hf, c]
    simp
theorem cut_from (xs : List V) (j : Nat) : cutV xs (some (j : Int)) none = xs.drop j := by
  unfold cutV
  rw [HT.sIx_none, HT.sIx_nat]
  by_cases h : j ≤ xs.length
  · rw [Nat.min_eq_left h, List.take_of_length_le (by simp)]
  · rw [Nat.min_eq_right (by omega), List.drop_of_length_le (Nat.le_refl _), List.drop_of_length_le (by omega)]
    simp
theorem cut_to (xs : List V) (j : Nat) : cutV xs none (some (j : Int)) = xs.take j := by
  unfold cutV
  rw [HT.sIx_none, HT.sIx_nat, List.drop_zero, Nat.sub_zero]
  by_cases h : j ≤ xs.length
  · rw [Nat.min_eq_left h]
  · rw [Nat.min_eq_right (by omega), List.take_of_length_le (Nat.le_refl _), List.take_of_length_le (by omega)]
end Nk
/-! ### a caught error that is kept behind its clause -/
namespace Nk
open PySem L2 PySem.Spec PyProof.Rows
/-- an error of the class cl with the own dict d, that was caught -/
def ExV (cl : Value) (d : Option Addr) (a : Addr) : HO := .ext fun h => ∃ oe, h.get? a = some oe ∧ Zc cl d oe ∧ ∃ vs, oe.data = .fields vs
theorem exV_ok {P : Program} {w : World} {H : Hp} {h : Heap} {a : Addr} {cl : Value} {d : Option Addr} {oe : Obj} (e : h.get? a = some oe) (z : Zc cl d oe) (f : ∃ vs, oe.data = .fields vs) : ObjOk P w H h a (ExV cl d a) :=
  ⟨⟨oe, e, z, f⟩, ⟨oe, e⟩, fun _ _ ⟨o, q, r⟩ k => ⟨o, k o q, r⟩⟩
section
variable {X : Cx} {pins : List (Addr × Obj)} {σ : L2.St} {H : Hp} {s : Shared} {a : Addr} {o : HO} {oe : Obj}
/-- an object that was made since the entry is tracked from now on -/
theorem inv_track (I : Inv X pins σ H s) (ha : s.heap.get? a = some oe) (hf : ∃ vs, oe.data = .fields vs) (na : H a = none) (n0 : X.s_0.heap.get? a = none) (nL : a ≠ X.env.locals) (np : ∀ p ∈ X.pn ++ pins, p.1 ≠ a)
    (new : ObjOk X.prog X.w (upd H a o) s.heap a o) : Inv X pins σ (upd H a o) s := by
  have off : ∀ {b : Addr} {u : HO}, H b = some u → (upd H a o) b = some u := fun {b u} e => by rw [upd_ne (ne_of_none e na)]; exact e
  have offN : ∀ {b : Addr}, H b = none → b ≠ a → (upd H a o) b = none := fun {b} e n => by rw [upd_ne n]; exact e
  have old : ∀ {b : Addr} {u : Obj}, X.s_0.heap.get? b = some u → b ≠ a := fun {b u} e z => by rw [z, n0] at e; cases e
  obtain ⟨vs, hvs⟩ := hf
  refine { ok := I.ok, os := I.os, bare := I.bare, base := ?_, loc := I.loc, cell := I.cell, free := offN I.free (Ne.symm nL), freeC := ?_, pin := ?_, hok := ?_, len := I.len }
  · exact { keep := I.base.keep, slot := I.base.slot, free := fun b u e n hx => offN (I.base.free b u e n hx) (old e), there := I.base.there, tups := fun b xs e => off (I.base.tups b xs e), frzs := fun b u v e => off (I.base.frzs b u v e), tbls := fun b ps e => by
              obtain ⟨m, q⟩ := I.base.tbls b ps e
              exact ⟨m, off q⟩ }
  · intro x c e
    refine offN (I.freeC x c e) fun z => ?_
    obtain ⟨v, oc, hc, hd⟩ := I.cell x c e
    rw [z, ha] at hc
    cases hc
    rw [hvs] at hd
    cases hd
  · intro p hp
    obtain ⟨h1, h2, h3, h4, h5⟩ := I.pin p hp
    exact ⟨h1, offN h2 (np p hp), h3, h4, h5⟩
  · intro b u e
    by_cases hb : b = a
    · subst hb
      rw [upd_same] at e
      cases e
      exact new
    · rw [upd_ne hb] at e
      exact (I.hok b u e).stay (fun _ _ _ q => q) (fun _ q => off q) fun _ _ q => off q
end
/-- what 'except x as n: y = n' wishes of an error of the body: n in slot i, y in slot j -/
def wKept (K : PySem.W.Frag) (c : Value) (i j : Nat) (Wout : WX) (D : Ends) : WX := fun cl d σ H =>
  ∃ b, PySem.W.exmOne K cl c = some b ∧ (b = true → ∀ a, H a = none → D.nx ((σ.set i (some (.ref a))).set j (some (.ref a)) |>.set i none) (upd H a (ExV cl d a))) ∧ (b = false → Wout cl d σ H)
section
variable {X : Cx} {x n : Str} {c : Value} {i j : Nat} {body : List Stmt} {b₀ : Stmt} {np pos pos' : Pos} {tb : WX → TS} {Wout : WX}
theorem ps_try_kept (hs : X.stack = X.env :: X.outer) (hf : X.env.frame = some X.env.locals) (hex : X.ex = []) (hN : X.N.Nodup) (hi : X.N[i]? = some n) (hln : X.env.kindOf n = some .local) (hc : Names X x c) (tk : Takes X Wout)
    (hb : ∀ (W : WX) (pn : List (Addr × Obj)) (xe : Value → Shared → Prop), Takes (X.tr pn xe) W → PassesOwn (model X.prog X.w) X.A X.env xe → PSs (X.tr pn xe) body (tb W))
    (hsu : ∀ (a : Addr) (oe : Obj) (pn : List (Addr × Obj)), PSs (X.suite a ((a, oe) :: pn)) [b₀] (tAsg (tVar i) (gName j))) (hlen : i < X.N.length) :
    PS X (.Try body [.ExceptHandler (some (.Name x np)) (some n) [b₀] pos'] [] [] pos) (fun D σ H => tb (wKept X.K c i j Wout D) D σ H) := by
  refine ⟨fun pins s σ H D I h => ?_⟩
  have ok := I.ok
  have hfr : X.A.frames = some (X.env :: X.outer) := by rw [ok.frames, hs]
  refine wpAny_Try_except ?_
  refine wpAny_mono ((hb (wKept X.K c i j Wout D) (X.pn ++ pins) (fun e s₁ => wpAny (model X.prog X.w) X.A (noteFrame e X.env) (fun _ s₂ => wpAny (model X.prog X.w) X.A (setFlight e none) (fun _ s₃ =>
    wpAny (model X.prog X.w) X.A (handleBy e X.env [.ExceptHandler (some (.Name x np)) (some n) [b₀] pos']) (SP X pins D) X.xe s₃) X.xe s₂) X.xe s₁) (fun u s' xx => ?_) PassesOwn.looking).run [] s σ H D (I.toTry _) h) (fun f s1 hsp => ?_) (fun e s1 he => he)
  · obtain ⟨a, B, sI, pins', σ', H', cl, d, rfl, J', nb, up, sky, na, os, ag, b, hb1, hyes, hno⟩ := xx
    have J : Inv X pins σ' H' sI := J'.ofTry ok
    have sky' : Sky B (X.env :: X.outer) a (Zc cl d) X.env.locals s'.heap := hs ▸ sky
    show wpAny (model X.prog X.w) X.A (noteFrame (.ref a) X.env) _ _ _
    refine Sky.land Zc.steady hfr hf sky' fun h3 fl3 up3 => ?_
    have J3 : Inv X pins σ' H' { s' with heap := h3 } := J.landed nb fl3.1 (up.trans up3) os ag
    obtain ⟨oe3, vs3, he3, hz3, hd3⟩ := fl3.there
    have nfr : a ∉ frs (X.env :: X.outer) := fun hm => by
      obtain ⟨_, o', e', hnf⟩ := fl3.2.2.1.mem hm
      rw [he3] at e'
      cases e'
      exact hnf _ hd3
    have nL : a ≠ X.env.locals := fun z => nfr (List.mem_filterMap.mpr ⟨X.env, List.mem_cons_self, by rw [hf, z]⟩)
    have nF : a ∉ X.fs := fun hm => by
      obtain ⟨e, he, q⟩ := List.mem_filterMap.mp hm
      exact nfr (List.mem_filterMap.mpr ⟨e, List.mem_cons_of_mem _ he, q⟩)
    have gone : sI.heap.get? a = none := by
      cases e : sI.heap.get? a with
      | none => rfl
      | some o =>
        have := nb a o e (by rw [hs]; exact nfr)
        rw [fl3.2.1] at this
        cases this
    have n0 : X.s_0.heap.get? a = none := by
      cases e : X.s_0.heap.get? a with
      | none => rfl
      | some o =>
        obtain ⟨o', q⟩ := J.base.there a o e (by rw [hex]; exact fun z => nomatch z)
        rw [gone] at q
        cases q
    have hpn : ∀ p ∈ X.pn ++ pins, p.1 ≠ a := fun p hp z => by
      have := (J.pin p hp).1
      rw [z, gone] at this
      cases this
    have S3 := J3.suite he3 hd3 na nL nF
    refine wpAny_handleBy_cons (codeAny_handlers_test ?_) (by intro q; cases q)
    have LT : PySem.W.Looks (model X.prog X.w) h3 (typeOf (.ref a)) cl := fun A Q E s k q => wpAny_typeOf_ref (k _ _ he3) (by rw [hz3.1]; exact q)
    have LM := PySem.W.exm_one (M := model X.prog X.w) (J3.kIn) LT hb1
    have test : ∀ {Q : Value → Shared → Prop} {E : Value → Shared → Prop}, Q c { s' with heap := h3 } → wpAny (model X.prog X.w) (X.A.mark (some (.ref a))) (eval (.Name x np) X.env) Q E { s' with heap := h3 } := fun {Q E} q => by
      obtain ⟨hg, hdbg, hm | ⟨hm, hv, hnn⟩⟩ := hc
      · exact ld_glob (X := X.suite a ((a, oe3) :: (X.pn ++ pins))) S3 hg hm q hdbg
      · exact ld_blt (X := X.suite a ((a, oe3) :: (X.pn ++ pins))) S3 hg hm hv q hnn hdbg
    refine test (LM.here ?_)
    cases b with
    | true =>
      refine codeAny_handlers_suite_as ?_
      refine HandSPX.lands_againZ fl3 fun h4 fl4 up4 => ?_
      have J4 : Inv X pins σ' H' { s' with heap := h4 } := J.landed nb fl4.1 ((up.trans up3).trans up4) os ag
      obtain ⟨oe4, vs4, he4, hz4, hd4⟩ := fl4.there
      have S4 := J4.suite he4 hd4 na nL nF
      refine store_ok (X := X.suite a ((a, oe4) :: (X.pn ++ pins))) (v := .ref a) S4 hN hi (.inl hln) rfl (fun s5 S5 => ?_) (.inr hln)
      have hv : (σ'.set i (some (V.ref a)))[i]? = some (some (.ref a)) := List.getElem?_set_self (by rw [J4.len]; exact hlen)
      refine wpAny_mono ((hsu a oe4 (X.pn ++ pins)).run [] s5 _ H' { nx := fun σ6 H6 => σ6 = (σ'.set i (some (V.ref a))).set j (some (.ref a)) ∧ H6 = H', rt := fun _ _ => False, bk := fun _ _ => False, ct := fun _ _ => False } S5 ⟨_, hv, rfl, rfl⟩) (fun f s6 hsp => ?_) (fun _ _ z => False.elim z)
      cases f with
      | next =>
        obtain ⟨σ6, H6, S6, rfl, rfl⟩ := hsp
        have he6 : s6.heap.get? a = some oe4 := (S6.pin (a, oe4) (List.mem_append_left _ List.mem_cons_self)).1
        have J6 := S6.unsuite ok
        have J7 := inv_track (o := ExV cl d a) J6 he6 ⟨_, hd4⟩ na n0 nL hpn (exV_ok he6 hz4 ⟨_, hd4⟩)
        exact gone_ok J7 hN hi hln fun s8 J8 => ⟨_, _, J8, hyes rfl a na⟩
      | brk =>
        obtain ⟨_, _, _, z⟩ := hsp
        exact z.elim
      | cont =>
        obtain ⟨_, _, _, z⟩ := hsp
        exact z.elim
      | ret u =>
        obtain ⟨_, _, _, _, _, z⟩ := hsp
        exact z.elim
    | false =>
      show wpAny _ X.A (handleBy (.ref a) X.env []) _ _ _
      refine wpAny_handleBy_nil ?_
      obtain ⟨k1, k2, k3, oe, vs, T, oT, ts', he, hz, hd, h1, hr⟩ := id fl3
      unfold PySem.passOn
      refine wpAny_bind (wpAny_field he hd h1 ?_)
      rw [if_neg (show ¬ ((Value.ref T == Value.none) = true) from by simp)]
      have fin : wpAny (model X.prog X.w) X.A (setFlight (.ref a) X.env.frame) (fun _ s4 => wpAny (model X.prog X.w) X.A (throw (.ref a) : Sem Flow) (SP X pins D) X.xe s4) X.xe { s' with heap := h3 } := by
        rw [hf]
        refine HandSPX.setFlight_upZ fl3 fun h4 hh4 up4 => wpAny_throw (tk _ _ ?_)
        exact ⟨a, B, sI, pins, σ', H', cl, d, rfl, J, nb, (up.trans up3).trans up4, .inr (.inr (by rw [hs]; exact hh4)), na, os, ag, hno rfl⟩
      first
        | exact wpAny_bind (wpAny_pure (wpAny_bind fin))
        | exact wpAny_bind fin
  · cases f with
    | next =>
      obtain ⟨σ', H', J', q⟩ := hsp
      exact wpAny_execs_nil ⟨σ', H', J'.ofTry ok, q⟩
    | brk =>
      obtain ⟨σ', H', J', q⟩ := hsp
      exact ⟨σ', H', J'.ofTry ok, q⟩
    | cont =>
      obtain ⟨σ', H', J', q⟩ := hsp
      exact ⟨σ', H', J'.ofTry ok, q⟩
    | ret u =>
      obtain ⟨v, σ', H', J', r, q⟩ := hsp
      exact ⟨v, σ', H', J'.ofTry ok, r, q⟩
end
section
variable {X : Cx}
/-- isinstance of such an error -/
def rIsX (K : PySem.W.Frag) : List V → Hp → VK → Prop := fun xs H Q => ∃ (a C : Addr) (d : Option Addr) (c : V) (cv : Value) (b : Bool), xs = [.ref a, c] ∧ H a = some (ExV (.ref C) d a) ∧ ExcC K C ∧ ClsV c cv ∧ PySem.W.kitOne K (.ref C) cv = some b ∧ (∀ dd, d = some dd → ∃ fs, H dd = some (.xd fs)) ∧ Q (.bl b) H
theorem call_isX : CallR X (.builtin "isinstance") (rIsX X.K) := by
  intro pins s σ H xs us Q I r h
  obtain ⟨a, C, d, c, cv, b, rfl, ha, E, hc, e, hd, q⟩ := h
  obtain ⟨u1, u2, rfl, r1, r2⟩ := vals2 r
  cases (show u1 = Value.ref a from r1)
  have e2 := hc.eq r2
  subst e2
  obtain ⟨oe, hoe, hz, vs, hv⟩ := (I.hok a _ ha).1
  have hcl : (PySem.W.clsIn X.K C).isSome = true := by
    obtain ⟨cd, hc, _⟩ := PySem.W.any_some E.hd
    rw [hc]; rfl
  have J : ∃ od, PySem.W.InstAt s.heap a oe C od := by
    obtain ⟨oc, odi, oda, osl⟩ := oe
    obtain ⟨h1, h2⟩ := hz
    dsimp only at h1 h2 hv
    subst h1 h2 hv
    cases odi with
    | none => exact ⟨none, hoe, rfl, rfl, trivial⟩
    | some dd =>
      obtain ⟨fs, hfs⟩ := hd dd rfl
      obtain ⟨mA, ⟨od, es, ep, e1, _⟩, _⟩ := I.hok dd _ hfs
      exact ⟨some od, hoe, rfl, rfl, e1⟩
  obtain ⟨od, J⟩ := J
  exact PySem.W.kia_one (PySem.W.kitx_exc hcl E.hg E.hk E.hs E.ha E.hn E.ht E.hm) I.kIn J e (fun z => nomatch z) fun tk => ⟨.bl b, H, I.tok tk, rfl, q⟩
end
end Nk

namespace Nk
open PySem L2 PySem.Spec PyProof.Rows
theorem tk0 {X : Cx} : Takes X (fun _ _ _ _ => False) := fun _ _ x => by
  obtain ⟨_, _, _, _, _, _, _, _, _, _, _, _, _, _, _, _, w⟩ := x
  exact w.elim
section
variable {X : Cx} {CX : CXT} {k : Nat} {ps : List Str} {sp : Sp} {x : Str} {p pos : Pos} {e : Expr} {es : List Expr} {t : TA} {E : L2.St → XK}
theorem pe_fnS (F : Fk X.prog X.w X.K X.mg X.base CX k x ps sp) (hr : Room k X.A) (hg : Gl X x) (hx : ∀ σ, PassesAt CX X σ (E σ)) (ha : PA X (e :: es) t) (hdb : (x == ("__debug__" : Str)) = false := by decide)
    (he : starEach (e :: es) X.env = (false, eval e X.env) :: starEach es X.env := by rfl) (hpl : (backTo pos (starEach es X.env)).any (·.1) = false := by rfl) :
    PE X (.Call (.Name x p) (e :: es) [] pos) (tCallS sp E t) := by
  obtain ⟨f, fd, g, kp, b, G⟩ := F.ex
  exact pe_callS G hr hg g kp b hx ha hdb he hpl
end
/-! counting in a list of flat things -/
theorem count_eqU {x : V} : ∀ {xs : List V} {us : List Value}, Vals xs us → xs.all flatV = true → us.countP (eqU x) = xs.countP fun y => eqV y x
  | _, _, .nil, _ => rfl
  | y :: xs, u :: us, .cons r t, f => by
    rw [List.all_cons, Bool.and_eq_true] at f
    rw [List.countP_cons, List.countP_cons, count_eqU t f.2, eqU_of r f.1]
def rCountF (K : PySem.W.Frag) : V → List V → Hp → VK → Prop := fun x xs H Q => ∃ (p : Addr) (ys : List V) (y : V), x = .ref p ∧ xs = [y] ∧ SqL K H p ys ∧ flatV y = true ∧ ys.all flatV = true ∧ Q (.int ((ys.countP fun z => eqV z y : Nat) : Int)) H
theorem mt_countF {X : Cx} : MtR X "list.count" (rCountF X.K) := by
  intro pins s σ H x xs v us Q I rx rxs h
  obtain ⟨p, ys, y, rfl, rfl, hs, fy, fys, q⟩ := h
  cases rx
  obtain ⟨u, rfl, ru⟩ := rxs.one
  obtain ⟨its, rv, ⟨⟨cls, dd, data, sl⟩, n, ho, hc, hdn, hd⟩, hlen⟩ := I.list hs
  simp only at hc hd
  subst hc hd
  refine call_meets PySem.F.slot_list_count ⟨_, ho, rfl⟩ PySem.F.entry_list_count (PySem.F.args_list_count_2 _ _) (SeqAt.list_countAt p its.toArray n dd sl u (eqU y)) ⟨ho, fun z hz => mem_eqAt ru fy rv fys z (by simpa using hz), ?_⟩
  have ec : its.toArray.toList.countP (eqU y) = ys.countP fun z => eqV z y := by rw [show its.toArray.toList = its from rfl, count_eqU rv fys]
  refine ⟨.int (ys.countP fun z => eqV z y : Nat), H, I.tok _, ⟨s.toks, ?_⟩, q⟩
  rw [ec]
/-! the classes of this program's errors -/
def exTail : List Value := [.type "RuntimeError", .type "Exception", .type "BaseException", .type "object"]
/-- the class over all errors -/
structure Kc (K : PySem.W.Frag) (mg : Str → Option Value) : Prop where
  gP : mg "KeepError" = some (.ref (cls mg "KeepError"))
  ex : ∃ cd, PySem.W.clsIn K (cls mg "KeepError") = some cd ∧ cd.name = "KeepError" ∧ cd.mro = .ref (cls mg "KeepError") :: exTail
  tP : PySem.W.typeIn K (.ref (cls mg "KeepError")) = some (.type "type")
  hd : PySem.W.hasDictIn K (cls mg "KeepError") = true
/-- an error's class -/
structure Ec (K : PySem.W.Frag) (mg : Str → Option Value) (x : Str) : Prop where
  gP : mg x = some (.ref (cls mg x))
  ex : ∃ cd, PySem.W.clsIn K (cls mg x) = some cd ∧ cd.name = x ∧ cd.mro = .ref (cls mg x) :: .ref (cls mg "KeepError") :: exTail
  tP : PySem.W.typeIn K (.ref (cls mg x)) = some (.type "type")
  ec : ExcC K (cls mg x)
section
variable {K : PySem.W.Frag} {h : Heap} {mg : Str → Option Value} {x y : Str}
theorem cls_lookup {C : Addr} {oc : Value} {od : Option Addr} {cd : ClassData} {osl : Array (Option Value)} (l : K.lookup C = some ⟨oc, od, .cls cd, osl⟩) : PySem.W.clsIn K C = some cd := by
  unfold PySem.W.clsIn
  rw [l]
theorem kc_mk {C : Addr} {oc : Value} {od : Option Addr} {osl : Array (Option Value)} {bs : List Value} {N : Addr} {q : Str} {sn : List Str} {sub : List Value} {hd ab dl : Bool} {col : Option Bool} (X : K.In h) (G : h.Ns mainGlobals mg)
    (a : PySem.W.nsIn K mainGlobals "KeepError" = some (some (.ref C)))
    (l : K.lookup C = some ⟨oc, od, .cls { name := "KeepError", bases := bs, mro := [.ref C, .type "RuntimeError", .type "Exception", .type "BaseException", .type "object"], ns := N, qualname := q, hasDict := hd, slotNames := sn, subclasses := sub, abstract := ab, collection := col, hasDel := dl }, osl⟩)
    (tP : PySem.W.typeIn K (.ref C) = some (.type "type")) (hD : PySem.W.hasDictIn K C = true) : Kc K mg := by
  have g := PySem.W.mg_of X G a
  have e := cls_of g
  refine ⟨by rw [e]; exact g, ?_, by rw [e]; exact tP, by rw [e]; exact hD⟩
  rw [e]
  exact ⟨_, cls_lookup l, rfl, rfl⟩
theorem ec_mk {C KE : Addr} {oc : Value} {od : Option Addr} {osl : Array (Option Value)} {bs : List Value} {N : Addr} {q : Str} {sn : List Str} {sub : List Value} {hd ab dl : Bool} {col : Option Bool} (X : K.In h) (G : h.Ns mainGlobals mg)
    (k : PySem.W.nsIn K mainGlobals "KeepError" = some (some (.ref KE))) (a : PySem.W.nsIn K mainGlobals x = some (some (.ref C)))
    (l : K.lookup C = some ⟨oc, od, .cls { name := x, bases := bs, mro := [.ref C, .ref KE, .type "RuntimeError", .type "Exception", .type "BaseException", .type "object"], ns := N, qualname := q, hasDict := hd, slotNames := sn, subclasses := sub, abstract := ab, collection := col, hasDel := dl }, osl⟩)
    (tP : PySem.W.typeIn K (.ref C) = some (.type "type")) (hD : PySem.W.hasDictIn K C = true)
    (h1 : PySem.W.findIn K (.ref C) "__getattribute__" = some (some (.builtin "BaseException.__getattribute__"))) (h2 : PySem.W.findIn K (.ref C) "__getattr__" = some none)
    (h3 : PySem.W.findIn K (.ref C) "__class__" = some (some (.builtin "object.__class__"))) (h4 : PySem.W.specialIn K (.builtin "object.__class__") "__get__" = some (some (.builtin "getset_descriptor.__get__"))) (h5 : PySem.W.takesIn K (.builtin "object.__class__") = some true) : Ec K mg x := by
  have g := PySem.W.mg_of X G a
  have e := cls_of g
  have e2 := cls_of (PySem.W.mg_of X G k)
  have hc := cls_lookup l
  have hm : ∀ b, PySem.W.mroIn K C b = some ([Value.ref C, .ref KE, .type "RuntimeError", .type "Exception", .type "BaseException", .type "object"].contains b) := fun b => by
    unfold PySem.W.mroIn
    rw [hc]
    rfl
  refine ⟨by rw [e]; exact g, ?_, by rw [e]; exact tP, ?_⟩
  · rw [e, e2]
    exact ⟨_, hc, rfl, rfl⟩
  · rw [e]
    refine ⟨h1, h2, ?_, hD, h3, h4, h5, ?_⟩
    · show PySem.W.mroIn K C _ = _
      rw [hm]
      simp
    · rw [hm]
      simp
theorem Ec.mro (e : Ec K mg x) (b : Value) : PySem.W.subIn K (.ref (cls mg x)) b = some ((Value.ref (cls mg x) :: .ref (cls mg "KeepError") :: exTail).contains b) := by
  obtain ⟨cd, h1, _, h3⟩ := e.ex
  show PySem.W.mroIn K _ b = _
  unfold PySem.W.mroIn
  rw [h1, Option.bind_some, h3]
  rfl
theorem Ec.ne (e : Ec K mg x) (f : Ec K mg y) (n : x ≠ y) : cls mg x ≠ cls mg y := fun z => by
  obtain ⟨cd, h1, h2, _⟩ := e.ex
  obtain ⟨cd', h1', h2', _⟩ := f.ex
  rw [z, h1'] at h1
  cases h1
  exact n (h2.symm.trans h2')
theorem Ec.neK (e : Ec K mg x) (f : Kc K mg) (n : x ≠ "KeepError") : cls mg x ≠ cls mg "KeepError" := fun z => by
  obtain ⟨cd, h1, h2, _⟩ := e.ex
  obtain ⟨cd', h1', h2', _⟩ := f.ex
  rw [z, h1'] at h1
  cases h1
  exact n (h2.symm.trans h2')
theorem Ec.is (e : Ec K mg x) (f : Ec K mg y) (k : Kc K mg) (n : y ≠ "KeepError") : PySem.W.kitOne K (.ref (cls mg x)) (.ref (cls mg y)) = some (decide (x = y)) := by
  by_cases c : x = y
  · subst c
    unfold PySem.W.kitOne
    simp
  · have h1 := e.ne f c
    have h2 := f.neK k n
    obtain ⟨cd', h1', _⟩ := f.ex
    unfold PySem.W.kitOne
    rw [if_neg (by intro z; exact h1 (Value.ref.inj (beq_iff_eq.mp z)))]
    show (if ((PySem.W.clsIn K (cls mg y)).isSome && PySem.W.typeIn K (.ref (cls mg y)) == some (.type "type")) = true then PySem.W.subIn K (.ref (cls mg x)) (.ref (cls mg y)) else none) = _
    rw [h1', f.tP, if_pos (by rfl), e.mro]
    rw [Option.some.injEq, decide_eq_false c, List.contains_eq_any_beq]
    simp only [exTail, List.any_cons, List.any_nil, Bool.or_eq_false_iff, beq_eq_false_iff_ne]
    refine ⟨fun z => h1 (Value.ref.inj z).symm, fun z => h2 (Value.ref.inj z), ?_⟩
    simp
theorem Ec.isR (e : Ec K mg x) : PySem.W.kitOne K (.ref (cls mg x)) (.type "RuntimeError") = some true := by
  unfold PySem.W.kitOne
  rw [if_neg (by intro z; exact nomatch (beq_iff_eq.mp z))]
  show (if PySem.W.kitMeta "RuntimeError" = true then PySem.W.subIn K (.ref (cls mg x)) (.type "RuntimeError") else none) = _
  rw [if_pos (by decide +kernel), e.mro]
  simp [exTail]
theorem Ec.exm (e : Ec K mg x) (k : Kc K mg) : PySem.W.exmOne K (.ref (cls mg x)) (.ref (cls mg "KeepError")) = some true := by
  refine PySem.W.exm_ref ?_ k.hd k.tP ?_
  · obtain ⟨cd, h1, _, h3⟩ := k.ex
    show PySem.W.mroIn K _ _ = _
    unfold PySem.W.mroIn
    rw [h1, Option.bind_some, h3]
    rfl
  · rw [e.mro]
    simp
end
end Nk
/-! ### enumerate(zip(..)) of two tuples -/
namespace EZ
open PySem PySem.W PySem.Calls PyProof.Rows PyProof.V PySem.Spec
open PySem.Sem (wp)
open AutoSeq1 (wpAny_loadPart')
/-- a zip: its tuple is free, or out -/
abbrev IsZG (h : Heap) (z TI TO : Addr) (f0 : Value) (f : Bool) : Prop :=
  h.get? z = some { cls := .type "zip", dict := none, data := .fields #[f0, .bool f, .bool false, .ref TI, .ref TO], slots := #[] }
def F0 (v : Value) : Prop := v = .none ∨ ∃ T : Addr, v = rawInt T
section
variable {prog : Program} {w : World} {A : Around} {E : Value → Shared → Prop} {s : Shared}
theorem alive {T : Addr} {Q : Option Obj → Shared → Prop} (h : Q (s.heap.get? T) s) : wpAny (model prog w) A (loadIfAlive T) Q E s := by
  intro Γ p
  unfold loadIfAlive
  rw [PySem.Sem.wp_loadIfAlive, PySem.Sem.wp_pure]
  exact fun _ => h
theorem isFreeG {z TI TO : Addr} {f0 : Value} {f : Bool} {Q : Bool → Shared → Prop} (hz : IsZG s.heap z TI TO f0 f) (h0 : F0 f0)
    (h : ∀ b h' f', IsZG h' z TI TO f0 f' → Heap.SameBut z s.heap h' → Q b { s with heap := h' }) : wpAny (model prog w) A (Builtin.SmallTypes.ownedTupleIsFree (.ref z)) Q E s := by
  unfold Builtin.SmallTypes.ownedTupleIsFree
  refine wpAny_bind (wpAny_field hz rfl (x := f0) rfl ?_)
  rcases h0 with rfl | ⟨T, rfl⟩
  · exact wpAny_pure (h true s.heap f hz (Heap.SameBut.refl _ _))
  · show wpAny _ _ (loadIfAlive ((T : Int).toNat) >>= _) _ _ _
    rw [Int.toNat_natCast]
    refine wpAny_bind (alive ?_)
    cases hT : s.heap.get? T with
    | none =>
      simp only [Option.isNone_none, if_true]
      exact wpAny_pure (h true s.heap f hz (Heap.SameBut.refl _ _))
    | some oT =>
      simp only [Option.isNone_some, Bool.false_eq_true, if_false]
      refine wpAny_bind (wpAny_field hz rfl (x := .bool f) rfl ?_)
      cases f with
      | true =>
        rw [if_neg (show ¬ ((Value.bool true != Value.bool true) = true) from Bool.false_ne_true)]
        exact wpAny_pure (h false s.heap true hz (Heap.SameBut.refl _ _))
      | false =>
        rw [if_pos (show (Value.bool false != Value.bool true) = true from rfl)]
        exact wpAny_bind (wpAny_setField_rec hz (by simp) fun h₁ hz₁ hs₁ => wpAny_pure (h false h₁ true hz₁ hs₁))
theorem zipG_item {z TI TO i1 i2 l1 l2 : Addr} {k1 k2 : Nat} {xs ys : Array Value} {x y a b f0 : Value} {f : Bool} {Q : Value → Shared → Prop} (D : ZipApart z TI TO i1 i2 l1 l2)
    (hz : IsZG s.heap z TI TO f0 f) (h0 : F0 f0) (hTI : IsPair s.heap TI (.ref i1) (.ref i2)) (hTO : IsPair s.heap TO a b)
    (h1 : s.heap.IsTupleIter i1 l1 k1) (h2 : s.heap.IsTupleIter i2 l2 k2) (hl1 : s.heap.IsTuple l1 xs) (hl2 : s.heap.IsTuple l2 ys) (hx : xs[k1]? = some x) (hy : ys[k2]? = some y)
    (hQ : ∀ h' f0' f', IsZG h' z TI TO f0' f' → F0 f0' → (∃ a' b', IsPair h' TO a' b') → h'.IsTupleIter i1 l1 (k1 + 1) → h'.IsTupleIter i2 l2 (k2 + 1) → IsPair h' s.heap.objs.size x y → h'.objs.size = s.heap.objs.size + 1 →
      (∀ c o, c ≠ z → c ≠ TO → c ≠ i1 → c ≠ i2 → s.heap.get? c = some o → h'.get? c = some o) → Q (.ref s.heap.objs.size) { s with heap := h' }) :
    wpAny (model prog w) A (Builtin.«zip.__next__» ⟨[.ref z], []⟩) (fun fin s' => ∃ v, fin = .done (.ret v) ∧ Q v s') E s := by
  show wpAny _ _ (field (.ref z) 2 >>= _) _ _ _
  refine wpAny_bind (wpAny_field hz rfl (x := .bool false) rfl ?_)
  show wpAny _ _ (field (.ref z) 3 >>= _) _ _ _
  refine wpAny_bind (wpAny_field hz rfl (x := .ref TI) rfl ?_)
  refine wpAny_bind (wpAny_seqItems hTI rfl ?_)
  show wpAny _ _ (Builtin.SmallTypes.ownedTupleIsFree (.ref z) >>= _) _ _ _
  refine wpAny_bind (isFreeG hz h0 fun b' h₀ f' hz₀ hs₀ => ?_)
  replace hs₀ : Heap.SameBut z s.heap h₀ := hs₀
  cases b' with
  | true =>
    simp only [if_true]
    refine wpAny_bind (wpAny_rule ?_)
    refine wpAny_bind (wpAny_field (s := { s with heap := h₀ }) hz₀ rfl (x := .ref TO) rfl ?_)
    refine wpAny_bind (wpAny_setField_rec (s := { s with heap := h₀ }) hz₀ (by simp) fun h₁ hz₁ hs₁ => ?_)
    replace hz₁ : IsZG h₁ z TI TO .ellipsis f' := hz₁
    replace hs₁ : Heap.SameBut z h₀ h₁ := hs₁
    refine wpAny_bind ?_
    simp only [List.zipIdx_cons, List.zipIdx_nil, List.forIn_cons, List.forIn_nil]
    refine wpAny_bind (wpAny_bind (wpAny_onRaise ?_))
    show wpAny _ _ (Builtin.SmallTypes.nextOf (.ref i1) >>= _) _ _ _
    refine wpAny_bind (RZ.nextOf_tuple_item (s := { s with heap := h₁ }) ((h1.extBut hs₀.extBut D.i1z).extBut hs₁.extBut D.i1z) ((hl1.extBut hs₀.extBut D.l1z).extBut hs₁.extBut D.l1z) hx fun h₂ h1₂ hs₂ => wpAny_pure ?_)
    replace hs₂ : Heap.SameBut i1 h₁ h₂ := hs₂
    have hTO₂ : IsPair h₂ TO a b := hs₂.extBut _ _ D.TOi1 (hs₁.extBut _ _ D.TOz (hs₀.extBut _ _ D.TOz hTO))
    refine wpAny_bind (wpAny_seqItems (s := { s with heap := h₂ }) hTO₂ rfl ?_)
    refine wpAny_bind (wpAny_updateSeq_pair (s := { s with heap := h₂ }) hTO₂ fun h₃ hTO₃ hs₃ => ?_)
    replace hTO₃ : IsPair h₃ TO x b := hTO₃
    replace hs₃ : Heap.SameBut TO h₂ h₃ := hs₃
    refine wpAny_bind (wpAny_letGo (wpAny_pure ?_))
    refine wpAny_bind (wpAny_bind (wpAny_onRaise ?_))
    show wpAny _ _ (Builtin.SmallTypes.nextOf (.ref i2) >>= _) _ _ _
    refine wpAny_bind (RZ.nextOf_tuple_item (s := { s with heap := h₃ }) ((((h2.extBut hs₀.extBut D.i2z).extBut hs₁.extBut D.i2z).extBut hs₂.extBut D.i12.symm).extBut hs₃.extBut D.TOi2.symm)
      ((((hl2.extBut hs₀.extBut D.l2z).extBut hs₁.extBut D.l2z).extBut hs₂.extBut D.l2i1).extBut hs₃.extBut D.l2TO) hy fun h₄ h2₄ hs₄ => wpAny_pure ?_)
    replace hs₄ : Heap.SameBut i2 h₃ h₄ := hs₄
    have hTO₄ : IsPair h₄ TO x b := hs₄.extBut _ _ D.TOi2 hTO₃
    refine wpAny_bind (wpAny_seqItems (s := { s with heap := h₄ }) hTO₄ rfl ?_)
    refine wpAny_bind (wpAny_updateSeq_pair (s := { s with heap := h₄ }) hTO₄ fun h₅ hTO₅ hs₅ => ?_)
    replace hTO₅ : IsPair h₅ TO x y := hTO₅
    replace hs₅ : Heap.SameBut TO h₄ h₅ := hs₅
    refine wpAny_bind (wpAny_letGo (wpAny_pure (wpAny_pure ?_)))
    refine wpAny_bind (wpAny_seqItems (s := { s with heap := h₅ }) hTO₅ rfl ?_)
    refine wpAny_bind (wpAny_newTuple ?_)
    have hsz : h₅.objs.size = s.heap.objs.size := by rw [hs₅.1, hs₄.1, hs₃.1, hs₂.1, hs₁.1, hs₀.1]
    have hz₅ : IsZG h₅ z TI TO .ellipsis f' := hs₅.extBut _ _ D.TOz.symm (hs₄.extBut _ _ D.i2z.symm (hs₃.extBut _ _ D.TOz.symm (hs₂.extBut _ _ D.i1z.symm hz₁)))
    have hk₅ : ∀ c o, c ≠ z → c ≠ TO → c ≠ i1 → c ≠ i2 → s.heap.get? c = some o → h₅.get? c = some o := fun c o c1 c2 c3 c4 e =>
      hs₅.extBut _ _ c2 (hs₄.extBut _ _ c4 (hs₃.extBut _ _ c2 (hs₂.extBut _ _ c3 (hs₁.extBut _ _ c1 (hs₀.extBut _ _ c1 e)))))
    have h1₅ : h₅.IsTupleIter i1 l1 (k1 + 1) := ((h1₂.extBut hs₃.extBut D.TOi1.symm).extBut hs₄.extBut D.i12).extBut hs₅.extBut D.TOi1.symm
    have h2₅ : h₅.IsTupleIter i2 l2 (k2 + 1) := h2₄.extBut hs₅.extBut D.TOi2.symm
    have hzlt : z < h₅.objs.size := Heap.lt_size hz₅
    show wpAny _ _ (Builtin.SmallTypes.ownedTupleHandOut (.ref z) (.ref h₅.objs.size) >>= _) _ _ _
    refine wpAny_bind ?_
    unfold Builtin.SmallTypes.ownedTupleHandOut
    have hz₆ : IsZG (h₅.push { cls := .type "tuple", data := .seq #[x, y] }) z TI TO .ellipsis f' := Heap.get?_push_of_some _ hz₅
    refine wpAny_bind (wpAny_setField_rec (s := { s with heap := h₅.push { cls := .type "tuple", data := .seq #[x, y] } }) hz₆ (by simp) fun h₇ hz₇ hs₇ => ?_)
    replace hz₇ : IsZG h₇ z TI TO (rawInt h₅.objs.size) f' := hz₇
    refine wpAny_setField_rec (s := { s with heap := h₇ }) hz₇ (by simp) fun h₈ hz₈ hs₈ => ?_
    replace hz₈ : IsZG h₈ z TI TO (rawInt h₅.objs.size) false := hz₈
    replace hs₇ : Heap.SameBut z (h₅.push { cls := .type "tuple", data := .seq #[x, y] }) h₇ := hs₇
    replace hs₈ : Heap.SameBut z h₇ h₈ := hs₈
    have up : ∀ c o, c ≠ z → h₅.get? c = some o → h₈.get? c = some o := fun c o c1 e => hs₈.extBut _ _ c1 (hs₇.extBut _ _ c1 (Heap.get?_push_of_some _ e))
    have hT₈ : IsPair h₈ h₅.objs.size x y := hs₈.extBut _ _ (Nat.ne_of_gt hzlt) (hs₇.extBut _ _ (Nat.ne_of_gt hzlt) (Heap.get?_push_size _ rfl))
    have hz8 : h₈.objs.size = h₅.objs.size + 1 := by rw [hs₈.1, hs₇.1, Heap.size_push]
    rw [hsz] at hz₈ hT₈ hz8
    refine wpAny_pure ⟨_, rfl, ?_⟩
    show Q (.ref h₅.objs.size) _
    rw [hsz]
    exact hQ h₈ _ _ hz₈ (.inr ⟨_, rfl⟩) ⟨_, _, up _ _ D.TOz hTO₅⟩ (h1₅.at fun o e => up _ o D.i1z e) (h2₅.at fun o e => up _ o D.i2z e) hT₈ hz8 fun c o c1 c2 c3 c4 e => up c o c1 (hk₅ c o c1 c2 c3 c4 e)
  | false =>
    simp only [Bool.false_eq_true, if_false]
    refine wpAny_bind ?_
    rw [← Array.forIn_toList]
    simp only [List.forIn_cons, List.forIn_nil]
    refine wpAny_bind (wpAny_bind (wpAny_holding ?_))
    show wpAny _ _ (Builtin.SmallTypes.nextOf (.ref i1) >>= _) _ _ _
    refine wpAny_bind (RZ.nextOf_tuple_item (s := { s with heap := h₀ }) (h1.extBut hs₀.extBut D.i1z) (hl1.extBut hs₀.extBut D.l1z) hx fun h₂ h1₂ hs₂ => wpAny_pure ?_)
    replace hs₂ : Heap.SameBut i1 h₀ h₂ := hs₂
    refine wpAny_pure ?_
    refine wpAny_bind (wpAny_bind (wpAny_holding ?_))
    show wpAny _ _ (Builtin.SmallTypes.nextOf (.ref i2) >>= _) _ _ _
    refine wpAny_bind (RZ.nextOf_tuple_item (s := { s with heap := h₂ }) ((h2.extBut hs₀.extBut D.i2z).extBut hs₂.extBut D.i12.symm) ((hl2.extBut hs₀.extBut D.l2z).extBut hs₂.extBut D.l2i1) hy fun h₃ h2₃ hs₃ => wpAny_pure ?_)
    replace hs₃ : Heap.SameBut i2 h₂ h₃ := hs₃
    refine wpAny_pure (wpAny_pure ?_)
    show wpAny _ _ (newTuple [x, y] >>= _) _ _ _
    refine wpAny_bind (wpAny_newTuple ?_)
    have hsz : h₃.objs.size = s.heap.objs.size := by rw [hs₃.1, hs₂.1, hs₀.1]
    have hz₃ : IsZG h₃ z TI TO f0 f' := hs₃.extBut _ _ D.i2z.symm (hs₂.extBut _ _ D.i1z.symm hz₀)
    have hk : ∀ c o, c ≠ z → c ≠ i1 → c ≠ i2 → s.heap.get? c = some o → h₃.get? c = some o := fun c o c1 c2 c3 e => hs₃.extBut _ _ c3 (hs₂.extBut _ _ c2 (hs₀.extBut _ _ c1 e))
    have h1₃ : h₃.IsTupleIter i1 l1 (k1 + 1) := h1₂.extBut hs₃.extBut D.i12
    have hTO₃ : IsPair h₃ TO a b := hk _ _ D.TOz D.TOi1 D.TOi2 hTO
    refine wpAny_pure ⟨_, rfl, ?_⟩
    show Q (.ref h₃.objs.size) _
    have hp : IsPair (h₃.push { cls := .type "tuple", data := .seq #[x, y] }) h₃.objs.size x y := Heap.get?_push_size _ rfl
    have hz4 : (h₃.push { cls := .type "tuple", data := .seq #[x, y] }).objs.size = h₃.objs.size + 1 := Heap.size_push ..
    rw [hsz] at hp hz4 ⊢
    exact hQ _ _ _ (Heap.get?_push_of_some _ hz₃) h0 ⟨_, _, Heap.get?_push_of_some _ hTO₃⟩ (h1₃.at fun o e => Heap.get?_push_of_some _ e) (h2₃.at fun o e => Heap.get?_push_of_some _ e) hp hz4 fun c o c1 _ c2 c3 e => Heap.get?_push_of_some _ (hk c o c1 c2 c3 e)
theorem zipG_end {z TI TO i1 i2 l1 l2 : Addr} {k1 k2 : Nat} {xs ys : Array Value} {a b f0 : Value} {f : Bool} {Q : Fin → Shared → Prop} (hh : A.handled = none) (D : ZipApart z TI TO i1 i2 l1 l2)
    (hz : IsZG s.heap z TI TO f0 f) (h0 : F0 f0) (hTI : IsPair s.heap TI (.ref i1) (.ref i2)) (hTO : IsPair s.heap TO a b)
    (h1 : s.heap.IsTupleIter i1 l1 k1) (h2 : s.heap.IsTupleIter i2 l2 k2) (hl1 : s.heap.IsTuple l1 xs) (hl2 : s.heap.IsTuple l2 ys) (hend : xs[k1]? = none ∨ ys[k2]? = none)
    (hE : ∀ h' e, (∀ c o, c ≠ z → c ≠ TO → c ≠ i1 → c ≠ i2 → s.heap.get? c = some o → h'.get? c = some o) → (∃ o, h'.get? e = some o ∧ o.cls = .type "StopIteration") → E (.ref e) { s with heap := h' }) :
    wpAny (model prog w) A (Builtin.«zip.__next__» ⟨[.ref z], []⟩) Q E s := by
  show wpAny _ _ (field (.ref z) 2 >>= _) _ _ _
  refine wpAny_bind (wpAny_field hz rfl (x := .bool false) rfl ?_)
  show wpAny _ _ (field (.ref z) 3 >>= _) _ _ _
  refine wpAny_bind (wpAny_field hz rfl (x := .ref TI) rfl ?_)
  refine wpAny_bind (wpAny_seqItems hTI rfl ?_)
  show wpAny _ _ (Builtin.SmallTypes.ownedTupleIsFree (.ref z) >>= _) _ _ _
  refine wpAny_bind (isFreeG hz h0 fun b' h₀ f' hz₀ hs₀ => ?_)
  replace hs₀ : Heap.SameBut z s.heap h₀ := hs₀
  cases b' with
  | true =>
    simp only [if_true]
    refine wpAny_bind (wpAny_rule ?_)
    refine wpAny_bind (wpAny_field (s := { s with heap := h₀ }) hz₀ rfl (x := .ref TO) rfl ?_)
    refine wpAny_bind (wpAny_setField_rec (s := { s with heap := h₀ }) hz₀ (by simp) fun h₁ hz₁ hs₁ => ?_)
    replace hz₁ : IsZG h₁ z TI TO .ellipsis f' := hz₁
    replace hs₁ : Heap.SameBut z h₀ h₁ := hs₁
    refine wpAny_bind ?_
    simp only [List.zipIdx_cons, List.zipIdx_nil, List.forIn_cons, List.forIn_nil]
    refine wpAny_bind (wpAny_bind (wpAny_onRaise ?_))
    show wpAny _ _ (Builtin.SmallTypes.nextOf (.ref i1) >>= _) _ _ _
    cases hx : xs[k1]? with
    | none =>
      refine wpAny_bind (RZ.nextOf_tuple_end (s := { s with heap := h₁ }) hh ((h1.extBut hs₀.extBut D.i1z).extBut hs₁.extBut D.i1z) ((hl1.extBut hs₀.extBut D.l1z).extBut hs₁.extBut D.l1z) hx fun h₂ e hs₂ he => ?_)
      replace hs₂ : Heap.ExtBut i1 h₁ h₂ := hs₂
      obtain ⟨oe, hoe, hce⟩ := he
      have hz₂ : IsZG h₂ z TI TO .ellipsis f' := hs₂ _ _ D.i1z.symm hz₁
      have hez : e ≠ z := fun x => by subst x; rw [hz₂] at hoe; cases hoe; simp at hce
      refine wpAny_setField_rec (s := { s with heap := h₂ }) hz₂ (by simp) fun h₃ _ hs₃ => hE h₃ e (fun c o c1 _ c3 _ x => hs₃.extBut _ _ c1 (hs₂ _ _ c3 (hs₁.extBut _ _ c1 (hs₀.extBut _ _ c1 x)))) ⟨oe, hs₃.extBut _ _ hez hoe, hce⟩
    | some x =>
      have hy : ys[k2]? = none := by rcases hend with h | h; rw [hx] at h; cases h; exact h
      refine wpAny_bind (RZ.nextOf_tuple_item (s := { s with heap := h₁ }) ((h1.extBut hs₀.extBut D.i1z).extBut hs₁.extBut D.i1z) ((hl1.extBut hs₀.extBut D.l1z).extBut hs₁.extBut D.l1z) hx fun h₂ h1₂ hs₂ => wpAny_pure ?_)
      replace hs₂ : Heap.SameBut i1 h₁ h₂ := hs₂
      have hTO₂ : IsPair h₂ TO a b := hs₂.extBut _ _ D.TOi1 (hs₁.extBut _ _ D.TOz (hs₀.extBut _ _ D.TOz hTO))
      refine wpAny_bind (wpAny_seqItems (s := { s with heap := h₂ }) hTO₂ rfl ?_)
      refine wpAny_bind (wpAny_updateSeq_pair (s := { s with heap := h₂ }) hTO₂ fun h₃ hTO₃ hs₃ => ?_)
      replace hs₃ : Heap.SameBut TO h₂ h₃ := hs₃
      refine wpAny_bind (wpAny_letGo (wpAny_pure ?_))
      refine wpAny_bind (wpAny_bind (wpAny_onRaise ?_))
      show wpAny _ _ (Builtin.SmallTypes.nextOf (.ref i2) >>= _) _ _ _
      refine wpAny_bind (RZ.nextOf_tuple_end (s := { s with heap := h₃ }) hh ((((h2.extBut hs₀.extBut D.i2z).extBut hs₁.extBut D.i2z).extBut hs₂.extBut D.i12.symm).extBut hs₃.extBut D.TOi2.symm)
        ((((hl2.extBut hs₀.extBut D.l2z).extBut hs₁.extBut D.l2z).extBut hs₂.extBut D.l2i1).extBut hs₃.extBut D.l2TO) hy fun h₄ e hs₄ he => ?_)
      replace hs₄ : Heap.ExtBut i2 h₃ h₄ := hs₄
      obtain ⟨oe, hoe, hce⟩ := he
      have hz₄ : IsZG h₄ z TI TO .ellipsis f' := hs₄ _ _ D.i2z.symm (hs₃.extBut _ _ D.TOz.symm (hs₂.extBut _ _ D.i1z.symm hz₁))
      have hez : e ≠ z := fun x => by subst x; rw [hz₄] at hoe; cases hoe; simp at hce
      refine wpAny_setField_rec (s := { s with heap := h₄ }) hz₄ (by simp) fun h₅ _ hs₅ => hE h₅ e (fun c o c1 c2 c3 c4 x => hs₅.extBut _ _ c1 (hs₄ _ _ c4 (hs₃.extBut _ _ c2 (hs₂.extBut _ _ c3 (hs₁.extBut _ _ c1 (hs₀.extBut _ _ c1 x)))))) ⟨oe, hs₅.extBut _ _ hez hoe, hce⟩
  | false =>
    simp only [Bool.false_eq_true, if_false]
    refine wpAny_bind ?_
    rw [← Array.forIn_toList]
    simp only [List.forIn_cons, List.forIn_nil]
    refine wpAny_bind (wpAny_bind (wpAny_holding ?_))
    show wpAny _ _ (Builtin.SmallTypes.nextOf (.ref i1) >>= _) _ _ _
    cases hx : xs[k1]? with
    | none =>
      refine wpAny_bind (RZ.nextOf_tuple_end (s := { s with heap := h₀ }) hh (h1.extBut hs₀.extBut D.i1z) (hl1.extBut hs₀.extBut D.l1z) hx fun h₂ e hs₂ he => ?_)
      replace hs₂ : Heap.ExtBut i1 h₀ h₂ := hs₂
      exact hE h₂ e (fun c o c1 _ c2 _ x => hs₂ _ _ c2 (hs₀.extBut _ _ c1 x)) he
    | some x =>
      have hy : ys[k2]? = none := by rcases hend with h | h; rw [hx] at h; cases h; exact h
      refine wpAny_bind (RZ.nextOf_tuple_item (s := { s with heap := h₀ }) (h1.extBut hs₀.extBut D.i1z) (hl1.extBut hs₀.extBut D.l1z) hx fun h₂ h1₂ hs₂ => wpAny_pure ?_)
      replace hs₂ : Heap.SameBut i1 h₀ h₂ := hs₂
      refine wpAny_pure ?_
      refine wpAny_bind (wpAny_bind (wpAny_holding ?_))
      show wpAny _ _ (Builtin.SmallTypes.nextOf (.ref i2) >>= _) _ _ _
      refine wpAny_bind (RZ.nextOf_tuple_end (s := { s with heap := h₂ }) hh ((h2.extBut hs₀.extBut D.i2z).extBut hs₂.extBut D.i12.symm) ((hl2.extBut hs₀.extBut D.l2z).extBut hs₂.extBut D.l2i1) hy fun h₃ e hs₃ he => ?_)
      replace hs₃ : Heap.ExtBut i2 h₂ h₃ := hs₃
      exact hE h₃ e (fun c o c1 _ c2 c3 x => hs₃ _ _ c3 (hs₂.extBut _ _ c2 (hs₀.extBut _ _ c1 x))) he
theorem nextOf_zipG {z TI TO i1 i2 l1 l2 : Addr} {k1 k2 : Nat} {xs ys : Array Value} {x y a b f0 : Value} {f : Bool} {Q : Value → Shared → Prop} (D : ZipApart z TI TO i1 i2 l1 l2)
    (hz : IsZG s.heap z TI TO f0 f) (h0 : F0 f0) (hTI : IsPair s.heap TI (.ref i1) (.ref i2)) (hTO : IsPair s.heap TO a b)
    (h1 : s.heap.IsTupleIter i1 l1 k1) (h2 : s.heap.IsTupleIter i2 l2 k2) (hl1 : s.heap.IsTuple l1 xs) (hl2 : s.heap.IsTuple l2 ys) (hx : xs[k1]? = some x) (hy : ys[k2]? = some y)
    (hQ : ∀ h' f0' f', IsZG h' z TI TO f0' f' → F0 f0' → (∃ a' b', IsPair h' TO a' b') → h'.IsTupleIter i1 l1 (k1 + 1) → h'.IsTupleIter i2 l2 (k2 + 1) → IsPair h' s.heap.objs.size x y → h'.objs.size = s.heap.objs.size + 1 →
      (∀ c o, c ≠ z → c ≠ TO → c ≠ i1 → c ≠ i2 → s.heap.get? c = some o → h'.get? c = some o) → Q (.ref s.heap.objs.size) { s with heap := h' }) :
    wpAny (model prog w) A (Builtin.SmallTypes.nextOf (.ref z)) Q E s := by
  have hT : s.TypeIs (.ref z) "zip" := ⟨_, hz, rfl⟩
  unfold Builtin.SmallTypes.nextOf
  exact wpAny_bind (wpAny_callSpecial?_slot (name := Str.ofString "__next__") hT F.slot_zip_next
    (wpAny_call_entry F.slot_zip_next hT F.entry_zip_next
      (zipG_item D hz h0 hTI hTO h1 h2 hl1 hl2 hx hy fun h' f0' f' a1 a2 a3 a4 a5 a6 a7 a8 => wpAny_pure (hQ h' f0' f' a1 a2 a3 a4 a5 a6 a7 a8)) (F.args_zip_next_1 _)))
theorem nextOf_zipG_end {z TI TO i1 i2 l1 l2 : Addr} {k1 k2 : Nat} {xs ys : Array Value} {a b f0 : Value} {f : Bool} {Q : Value → Shared → Prop} (hh : A.handled = none) (D : ZipApart z TI TO i1 i2 l1 l2)
    (hz : IsZG s.heap z TI TO f0 f) (h0 : F0 f0) (hTI : IsPair s.heap TI (.ref i1) (.ref i2)) (hTO : IsPair s.heap TO a b)
    (h1 : s.heap.IsTupleIter i1 l1 k1) (h2 : s.heap.IsTupleIter i2 l2 k2) (hl1 : s.heap.IsTuple l1 xs) (hl2 : s.heap.IsTuple l2 ys) (hend : xs[k1]? = none ∨ ys[k2]? = none)
    (hE : ∀ h' e, (∀ c o, c ≠ z → c ≠ TO → c ≠ i1 → c ≠ i2 → s.heap.get? c = some o → h'.get? c = some o) → (∃ o, h'.get? e = some o ∧ o.cls = .type "StopIteration") → E (.ref e) { s with heap := h' }) :
    wpAny (model prog w) A (Builtin.SmallTypes.nextOf (.ref z)) Q E s := by
  have hT : s.TypeIs (.ref z) "zip" := ⟨_, hz, rfl⟩
  unfold Builtin.SmallTypes.nextOf
  exact wpAny_bind (wpAny_callSpecial?_slot (name := Str.ofString "__next__") hT F.slot_zip_next
    (wpAny_call_entry F.slot_zip_next hT F.entry_zip_next (zipG_end hh D hz h0 hTI hTO h1 h2 hl1 hl2 hend hE) (F.args_zip_next_1 _)))
theorem ezip_item {e z TI TO i1 i2 l1 l2 : Addr} {i k1 k2 : Nat} {xs ys : Array Value} {x y a b f0 old : Value} {f : Bool} {Q : Value → Shared → Prop} (D : ZipApart z TI TO i1 i2 l1 l2)
    (ne : e ≠ z ∧ e ≠ TI ∧ e ≠ TO ∧ e ≠ i1 ∧ e ≠ i2) (he : IsEnum s.heap e z i old)
    (hz : IsZG s.heap z TI TO f0 f) (h0 : F0 f0) (hTI : IsPair s.heap TI (.ref i1) (.ref i2)) (hTO : IsPair s.heap TO a b)
    (h1 : s.heap.IsTupleIter i1 l1 k1) (h2 : s.heap.IsTupleIter i2 l2 k2) (hl1 : s.heap.IsTuple l1 xs) (hl2 : s.heap.IsTuple l2 ys) (hx : xs[k1]? = some x) (hy : ys[k2]? = some y)
    (hQ : ∀ h' f0' f' T tk, T = s.heap.objs.size + 1 → IsEnumOut h' e z ((i : Int) + 1) (.ref s.heap.objs.size) T → IsZG h' z TI TO f0' f' → F0 f0' → (∃ a' b', IsPair h' TO a' b') → h'.IsTupleIter i1 l1 (k1 + 1) → h'.IsTupleIter i2 l2 (k2 + 1) →
      IsPair h' s.heap.objs.size x y → IsPair h' T (.int i tk) (.ref s.heap.objs.size) →
      (∀ c o, c ≠ e → c ≠ z → c ≠ TO → c ≠ i1 → c ≠ i2 → s.heap.get? c = some o → h'.get? c = some o) → Q (.ref T) { s with heap := h', toks := s.toks + 1 }) :
    wpAny (model prog w) A (Builtin.«enumerate.__next__» ⟨[.ref e], []⟩) (fun fin s' => ∃ v, fin = .done (.ret v) ∧ Q v s') E s := by
  obtain ⟨hp, g, d, tk, os⟩ := s
  obtain ⟨n1, n2, n3, n4, n5⟩ := ne
  show wpAny _ _ (field (.ref e) 2 >>= _) _ _ _
  refine wpAny_bind (wpAny_field he rfl (x := .ref z) rfl ?_)
  refine wpAny_bind (nextOf_zipG D hz h0 hTI hTO h1 h2 hl1 hl2 hx hy fun h₁ f0' f' hz₁ h0' hTO₁ h1₁ h2₁ hp₁ hs₁ hk₁ => ?_)
  replace hs₁ : h₁.objs.size = hp.objs.size + 1 := hs₁
  replace hp₁ : IsPair h₁ hp.objs.size x y := hp₁
  have hel : e < hp.objs.size := Heap.lt_size he
  have he₁ : IsEnum h₁ e z i old := hk₁ e _ n1 n3 n4 n5 he
  show wpAny _ _ (field (.ref e) 3 >>= _) _ _ ⟨h₁, g, d, tk, os⟩
  refine wpAny_bind (wpAny_field he₁ rfl (x := rawInt i) rfl ?_)
  show wpAny _ _ (field (.ref e) 4 >>= _) _ _ ⟨h₁, g, d, tk, os⟩
  refine wpAny_bind (wpAny_field he₁ rfl (x := .none) rfl ?_)
  show wpAny _ _ (mkInt i >>= _) _ _ ⟨h₁, g, d, tk, os⟩
  refine wpAny_bind (wpAny_mkInt ?_)
  show wpAny _ _ (setField (.ref e) 3 (rawInt ((i : Int) + 1)) >>= _) _ _ ⟨h₁, g, d, tk + 1, os⟩
  refine wpAny_bind (wpAny_setField_rec he₁ (by simp) fun h₂ he₂ hs₂ => ?_)
  replace hs₂ : Heap.SameBut e h₁ h₂ := hs₂
  replace he₂ : IsEnum h₂ e z ((i : Int) + 1) old := he₂
  show wpAny _ _ (setField (.ref e) 4 .none >>= _) _ _ ⟨h₂, g, d, tk + 1, os⟩
  refine wpAny_bind (wpAny_setField_rec he₂ (by simp) fun h₃ he₃ hs₃ => ?_)
  replace hs₃ : Heap.SameBut e h₂ h₃ := hs₃
  replace he₃ : IsEnum h₃ e z ((i : Int) + 1) old := he₃
  show wpAny _ _ (newTuple [.int i tk, .ref hp.objs.size] >>= _) _ _ ⟨h₃, g, d, tk + 1, os⟩
  refine wpAny_bind (wpAny_newTuple ?_)
  have he₄ : IsEnum (h₃.push { cls := .type "tuple", data := .seq #[.int i tk, .ref hp.objs.size] }) e z ((i : Int) + 1) old := Heap.get?_push_of_some _ he₃
  generalize hh₄ : h₃.push { cls := .type "tuple", data := .seq #[.int i tk, .ref hp.objs.size] } = h₄ at he₄
  have hsz : h₃.objs.size = hp.objs.size + 1 := by rw [hs₃.1, hs₂.1, hs₁]
  have ht₄ : h₄.get? (hp.objs.size + 1) = some { cls := .type "tuple", data := .seq #[.int i tk, .ref hp.objs.size] } := by rw [← hh₄, ← hsz]; exact Heap.get?_push_size _ rfl
  have up₄ : ∀ b o, b ≠ e → h₁.get? b = some o → h₄.get? b = some o := fun b o hbe hb => by
    rw [← hh₄]; exact Heap.get?_push_of_some _ (hs₃.extBut b o hbe (hs₂.extBut b o hbe hb))
  show wpAny _ _ (Builtin.SmallTypes.ownedTupleIsFree (.ref e) >>= _) _ _ ⟨h₄, g, d, tk + 1, os⟩
  rw [hsz]
  clear hh₄ he₃ hs₃ he₂ hs₂
  refine wpAny_bind ?_
  unfold Builtin.SmallTypes.ownedTupleIsFree
  refine wpAny_bind (wpAny_field he₄ rfl (x := .none) rfl (wpAny_pure ?_))
  simp only [if_true]
  refine wpAny_bind (wpAny_rule ?_)
  refine wpAny_bind (wpAny_field he₄ rfl (x := old) rfl ?_)
  refine wpAny_bind (wpAny_setField_rec he₄ (by simp) fun h₅ he₅ hs₅ => ?_)
  replace hs₅ : Heap.SameBut e h₄ h₅ := hs₅
  replace he₅ : IsEnum h₅ e z ((i : Int) + 1) (.ref hp.objs.size) := he₅
  show wpAny _ _ (Builtin.SmallTypes.ownedTupleHandOut (.ref e) (.ref (hp.objs.size + 1)) >>= _) _ _ ⟨h₅, g, d, tk + 1, os⟩
  refine wpAny_bind ?_
  unfold Builtin.SmallTypes.ownedTupleHandOut
  refine wpAny_bind (wpAny_setField_rec he₅ (by simp) fun h₆ he₆ hs₆ => ?_)
  replace hs₆ : Heap.SameBut e h₅ h₆ := hs₆
  replace he₆ : IsEnumOut h₆ e z ((i : Int) + 1) (.ref hp.objs.size) (hp.objs.size + 1) := he₆
  refine wpAny_setField_rec he₆ (by simp) fun h₇ he₇ hs₇ => ?_
  replace hs₇ : Heap.SameBut e h₆ h₇ := hs₇
  replace he₇ : IsEnumOut h₇ e z ((i : Int) + 1) (.ref hp.objs.size) (hp.objs.size + 1) := he₇
  have up5 : ∀ b o, b ≠ e → h₄.get? b = some o → h₇.get? b = some o := fun b o hbe hb => hs₇.extBut b o hbe (hs₆.extBut b o hbe (hs₅.extBut b o hbe hb))
  have up : ∀ b o, b ≠ e → h₁.get? b = some o → h₇.get? b = some o := fun b o hbe hb => up5 b o hbe (up₄ b o hbe hb)
  have nT : hp.objs.size ≠ e := Nat.ne_of_gt hel
  have nT2 : hp.objs.size + 1 ≠ e := Nat.ne_of_gt (Nat.lt_succ_of_lt hel)
  obtain ⟨a', b', hTO'⟩ := hTO₁
  refine wpAny_bind (wpAny_letGo (wpAny_pure ⟨_, rfl, hQ h₇ f0' f' _ tk rfl he₇ (up _ _ (Ne.symm n1) hz₁) h0' ⟨a', b', up _ _ (Ne.symm n3) hTO'⟩ (h1₁.at fun o q => up _ o (Ne.symm n4) q) (h2₁.at fun o q => up _ o (Ne.symm n5) q) (up _ _ nT hp₁) (up5 _ _ nT2 ht₄) ?_⟩))
  exact fun c o c0 c1 c2 c3 c4 q => up c o c0 (hk₁ c o c1 c2 c3 c4 q)
theorem pyNext_ezip_item {e z TI TO i1 i2 l1 l2 : Addr} {i k1 k2 : Nat} {xs ys : Array Value} {x y a b f0 old : Value} {f : Bool} {Q : Option Value → Shared → Prop} (D : ZipApart z TI TO i1 i2 l1 l2)
    (ne : e ≠ z ∧ e ≠ TI ∧ e ≠ TO ∧ e ≠ i1 ∧ e ≠ i2) (he : IsEnum s.heap e z i old)
    (hz : IsZG s.heap z TI TO f0 f) (h0 : F0 f0) (hTI : IsPair s.heap TI (.ref i1) (.ref i2)) (hTO : IsPair s.heap TO a b)
    (h1 : s.heap.IsTupleIter i1 l1 k1) (h2 : s.heap.IsTupleIter i2 l2 k2) (hl1 : s.heap.IsTuple l1 xs) (hl2 : s.heap.IsTuple l2 ys) (hx : xs[k1]? = some x) (hy : ys[k2]? = some y)
    (hQ : ∀ h' f0' f' T tk, T = s.heap.objs.size + 1 → IsEnumOut h' e z ((i : Int) + 1) (.ref s.heap.objs.size) T → IsZG h' z TI TO f0' f' → F0 f0' → (∃ a' b', IsPair h' TO a' b') → h'.IsTupleIter i1 l1 (k1 + 1) → h'.IsTupleIter i2 l2 (k2 + 1) →
      IsPair h' s.heap.objs.size x y → IsPair h' T (.int i tk) (.ref s.heap.objs.size) →
      (∀ c o, c ≠ e → c ≠ z → c ≠ TO → c ≠ i1 → c ≠ i2 → s.heap.get? c = some o → h'.get? c = some o) → Q (some (.ref T)) { s with heap := h', toks := s.toks + 1 }) :
    wpAny (model prog w) A (pyNext (.ref e)) Q E s := by
  have hTy : s.TypeIs (.ref e) "enumerate" := ⟨_, he, rfl⟩
  unfold pyNext
  exact wpAny_bind (wpAny_attempt (wpAny_callSpecial?_slot (name := Str.ofString "__next__") hTy F.slot_enumerate_next
    (wpAny_call_entry F.slot_enumerate_next hTy F.entry_enumerate_next
      (ezip_item D ne he hz h0 hTI hTO h1 h2 hl1 hl2 hx hy fun h' f0' f' T tk a0 a1 a2 a3 a4 a5 a6 a7 a8 a9 => wpAny_pure (hQ h' f0' f' T tk a0 a1 a2 a3 a4 a5 a6 a7 a8 a9)) (F.args_enumerate_next_1 _))))
theorem pyNext_ezip_end {e z TI TO i1 i2 l1 l2 : Addr} {i k1 k2 : Nat} {xs ys : Array Value} {a b f0 old : Value} {f : Bool} {Q : Option Value → Shared → Prop} (hh : A.handled = none) (D : ZipApart z TI TO i1 i2 l1 l2)
    (he : IsEnum s.heap e z i old)
    (hz : IsZG s.heap z TI TO f0 f) (h0 : F0 f0) (hTI : IsPair s.heap TI (.ref i1) (.ref i2)) (hTO : IsPair s.heap TO a b)
    (h1 : s.heap.IsTupleIter i1 l1 k1) (h2 : s.heap.IsTupleIter i2 l2 k2) (hl1 : s.heap.IsTuple l1 xs) (hl2 : s.heap.IsTuple l2 ys) (hend : xs[k1]? = none ∨ ys[k2]? = none)
    (hQ : ∀ h', (∀ c o, c ≠ z → c ≠ TO → c ≠ i1 → c ≠ i2 → s.heap.get? c = some o → h'.get? c = some o) → Q none { s with heap := h' }) : wpAny (model prog w) A (pyNext (.ref e)) Q E s := by
  have hTy : s.TypeIs (.ref e) "enumerate" := ⟨_, he, rfl⟩
  unfold pyNext
  refine wpAny_bind (wpAny_attempt (wpAny_callSpecial?_slot (name := Str.ofString "__next__") hTy F.slot_enumerate_next
    (wpAny_call_entry F.slot_enumerate_next hTy F.entry_enumerate_next ?_ (F.args_enumerate_next_1 _))))
  show wpAny _ _ (field (.ref e) 2 >>= _) _ _ _
  refine wpAny_bind (wpAny_field he rfl (x := .ref z) rfl ?_)
  refine wpAny_bind (nextOf_zipG_end hh D hz h0 hTI hTO h1 h2 hl1 hl2 hend fun h' x hk hx' => ?_)
  obtain ⟨o, ho, hc⟩ := hx'
  refine wpAny_bind (wpAny_isInstance (T := "StopIteration") (b := true) ⟨o, ho, hc⟩ isSubtype_stop ?_)
  exact wpAny_pure (hQ _ hk)
/-- enumerate of a zip -/
theorem meets_enumerate_newZ (z TI TO : Addr) :
    Meets (Builtin.«enumerate.__new__» ⟨[.type "enumerate", .ref z], []⟩) (fun _ R s => IsZip s.heap z TI TO .none ∧
      R (.ok (.ret (.ref s.heap.objs.size))) { s with heap := s.heap.push { cls := .type "enumerate", data := .fields #[.none, .bool false, .ref z, rawInt 0, .none, .none] } }) :=
  .of_wp fun prog w A R s h => by
    obtain ⟨hp, g, d, tk, os⟩ := s; obtain ⟨hz, h⟩ := h
    have hsub := sub_enumerate
    have hZ : IsZip (Shared.heap ⟨hp, g, d, tk, os⟩) z TI TO .none := hz
    wp_walk using wpAny_loadPart' hz
    refine wpAny_stack_any fun st => wpAny_pure ?_
    split
    · rename_i c _ _ _ _ _
      cases (c == Value.type "enumerate")
      · wp_walk using wpAny_loadPart' hz, wpAny_pyIter_zip hZ
        exact ⟨_, rfl, h⟩
      · wp_walk using wpAny_loadPart' hz, wpAny_pyIter_zip hZ
        exact ⟨_, rfl, h⟩
    · wp_walk using wpAny_loadPart' hz, wpAny_pyIter_zip hZ
      exact ⟨_, rfl, h⟩
theorem call_enumerate_zip {z TI TO : Addr} {Q : Value → Shared → Prop} (hz : IsZip s.heap z TI TO .none)
    (h : ∀ h', IsEnum h' s.heap.objs.size z 0 .none → (∀ c o, s.heap.get? c = some o → h'.get? c = some o) → Q (.ref s.heap.objs.size) { s with heap := h' }) :
    wpAny (model prog w) A (call (.type "enumerate") [.ref z]) Q E s := by
  refine callType_new F.called_enumerate (by decide) (F.typeCall_enumerate_1 _) (F.newCall_enumerate_1 _) (fun obj => F.args_object_init_2 obj _) F.entry_enumerate_new
    (meets_enumerate_newZ z TI TO) ⟨hz, ?_⟩
  have g : (s.heap.push { cls := .type "enumerate", data := .fields #[.none, .bool false, .ref z, rawInt 0, .none, .none] }).get? s.heap.objs.size = some _ := Heap.get?_push_size _ rfl
  exact ⟨⟨_, g, rfl⟩, h _ g fun c o q => Heap.get?_push_of_some _ q⟩
theorem letGo_ezip {e z : Addr} {i : Int} {x : Value} {T : Addr} {elts : List Expr} {kk : Nat} {tpos : Pos} {Q : Unit → Shared → Prop} (he : IsEnumOut s.heap e z i x T)
    (h : ∀ h', IsEnum h' e z i x → Heap.SameBut e s.heap h' → Q () { s with heap := h' }) : wpAny (model prog w) A (letOwnedTupleGo (.Tuple elts kk tpos) (.ref e) (.ref T)) Q E s :=
  wpAny_letOwnedTupleGo_enum (s := s) he h
end
end EZ
namespace L2
open PySem PySem.Spec PyProof.Rows EZ
theorem Inv.turnedNew2 {X : Cx} {pins : List (Addr × Obj)} {σ : St} {H : Hp} {s : Shared} {h' : Heap} {t' : Nat} {ch : List Addr} {T T2 : Addr} {ob ob2 : HO} (I : Inv X pins σ H s) (k : ∀ b o, b ∉ ch → s.heap.get? b = some o → h'.get? b = some o) (hf : ∀ b ∈ ch, FpOk X pins H b) (hT : s.heap.objs.size ≤ T) (hT2 : s.heap.objs.size ≤ T2) (hne : T2 ≠ T)
    (new : ObjOk X.prog X.w (upd (upd H T ob) T2 ob2) h' T ob) (new2 : ObjOk X.prog X.w (upd (upd H T ob) T2 ob2) h' T2 ob2) : Inv X pins σ (upd (upd H T ob) T2 ob2) { s with heap := h', toks := t' } := by
  have hn : H T = none := I.hok.fresh hT
  have hn2 : H T2 = none := I.hok.fresh hT2
  have nit : ∀ b u, H b = some u → b ∉ ch := fun b u e z => by
    have q := (hf b z).1
    rw [q] at e; cases e
  have up : ∀ b u, H b = some u → upd (upd H T ob) T2 ob2 b = some u := fun b u e => by
    rw [upd_ne (ne_of_none e hn2), upd_ne (ne_of_none e hn)]; exact e
  refine I.step (g' := s.gens) (d' := s.drawn) (ch := ch) (fun b hb => ⟨(hf b hb).2.2.2.1, (hf b hb).2.1, (hf b hb).2.2.2.2.1, (hf b hb).2.2.2.2.2⟩) (fun b o _ _ hc e _ => k b o hc e) (fun b o _ _ hc e _ => ⟨o.slots, k b o hc e⟩)
    (fun b o _ e n => ?_) (fun b o hc e => ⟨o, k b o hc e⟩) (fun b xs e => up _ _ e) (fun b o u e => up _ _ e) (fun b ps e => ⟨#[], ?_⟩) (fun m hm => ?_) (fun b u e => ?_) I.bare
  · rw [upd_ne (Nat.ne_of_lt (Nat.lt_of_lt_of_le (Heap.lt_size e) hT2)), upd_ne (Nat.ne_of_lt (Nat.lt_of_lt_of_le (Heap.lt_size e) hT))]; exact n
  · rw [up _ _ e]; simp
  · obtain ⟨o, es, ep, ho, r⟩ := hm
    exact ⟨o, es, ep, k _ o (fun z => (hf _ z).2.1 rfl) ho, r⟩
  · by_cases hb2 : b = T2
    · subst hb2
      rw [upd_same] at e
      cases e
      exact new2
    · by_cases hb : b = T
      · subst hb
        rw [upd_ne hb2, upd_same] at e
        cases e
        exact new
      · rw [upd_ne hb2, upd_ne hb] at e
        refine (I.hok b u e).stay (fun c v hc q => k c v ?_ q) (fun c q => up _ _ q) fun c xs q => up _ _ q
        rcases hc with z | z
        · rw [z]; exact nit b u e
        · exact nit c _ z
/-- the tuples at a and b as they stand at each turn, the items in new pairs, each with its place -/
def Itez (K : PySem.W.Frag) (a b : Addr) : It :=
  ⟨fun i H => ∃ (xs ys : List V) (x y : V), SqT K H a xs ∧ SqT K H b ys ∧ xs[i]? = some x ∧ ys[i]? = some y,
    fun i H v H' => ∃ T T2 x y, v = .ref T ∧ H T = none ∧ H T2 = none ∧ T ≠ T2 ∧ H' = upd (upd H T2 (.tup [x, y])) T (.tup [.int (i : Nat), .ref T2]) ∧ (∀ xs, SqT K H a xs → xs[i]? = some x) ∧ ∀ ys, SqT K H b ys → ys[i]? = some y,
    fun i H => ∃ xs ys : List V, SqT K H a xs ∧ SqT K H b ys ∧ (xs.length ≤ i ∨ ys.length ≤ i)⟩
theorem turn_ezip {P : Program} {w : World} {K : PySem.W.Frag} {elts : List Expr} {kk : Nat} {tpos : Pos} {a b e z TI TO i1 i2 : Addr} (D : ZipApart z TI TO i1 i2 a b) (ne : e ≠ z ∧ e ≠ TI ∧ e ≠ TO ∧ e ≠ i1 ∧ e ≠ i2) :
    Turn P w K (.Tuple elts kk tpos) (Itez K a b) [e, z, TI, TO, i1, i2] e (fun i h => (∃ old, IsEnum h e z ((i : Nat) : Int) old) ∧ (∃ f0 f, IsZG h z TI TO f0 f ∧ F0 f0) ∧ IsPair h TI (.ref i1) (.ref i2) ∧ (∃ x y, IsPair h TO x y) ∧ h.IsTupleIter i1 a i ∧ h.IsTupleIter i2 b i) where
  mem := by simp
  obj := fun i h st c hc => by
    obtain ⟨⟨old, he⟩, ⟨f0, f, hz, _⟩, hTI, ⟨x, y, hTO⟩, ⟨o1, e1, _, d1⟩, ⟨o2, e2, _, d2⟩⟩ := st
    have e' : c = e ∨ c = z ∨ c = TI ∨ c = TO ∨ c = i1 ∨ c = i2 := by simpa using hc
    rcases e' with q | q | q | q | q | q
    · rw [q]; exact ⟨_, he, fun v q => nomatch q⟩
    · rw [q]; exact ⟨_, hz, fun v q => nomatch q⟩
    · rw [q]; exact ⟨_, hTI, fun v q => nomatch q⟩
    · rw [q]; exact ⟨_, hTO, fun v q => nomatch q⟩
    · rw [q]; exact ⟨o1, e1, fun v q => by rw [d1] at q; cases q⟩
    · rw [q]; exact ⟨o2, e2, fun v q => by rw [d2] at q; cases q⟩
  keep := fun i h h' st k => by
    obtain ⟨⟨old, he⟩, ⟨f0, f, hz, h0⟩, hTI, ⟨x, y, hTO⟩, h1, h2⟩ := st
    exact ⟨⟨old, k e (by simp) _ he⟩, ⟨f0, f, k z (by simp) _ hz, h0⟩, k TI (by simp) _ hTI, ⟨x, y, k TO (by simp) _ hTO⟩, h1.at fun o q => k i1 (by simp) o q, h2.at fun o q => k i2 (by simp) o q⟩
  item := by
    intro X hP hw hK hc i pins s σ H E I hf st hg
    subst hP hw hK
    obtain ⟨⟨old, he⟩, ⟨f0, f, hz, h0⟩, hTI, ⟨x0, y0, hTO⟩, h1, h2⟩ := st
    obtain ⟨xs, ys, x, y, hqx, hqy, hx, hy⟩ := hg
    obtain ⟨its, rv, p, _⟩ := I.tuple hqx
    obtain ⟨its2, rv2, p2, _⟩ := I.tuple hqy
    obtain ⟨u, hu, ru⟩ := rv.get hx
    obtain ⟨u2, hu2, ru2⟩ := rv2.get hy
    have hel : e < s.heap.objs.size := Heap.lt_size he
    obtain ⟨n1, n2, n3, n4, n5⟩ := id ne
    refine pyNext_ezip_item D ne he hz h0 hTI hTO h1 h2 p p2 (x := u) (y := u2) (by simpa using hu) (by simpa using hu2) fun h' f0' f' T tk eT he' hz' h0' hTO' h1' h2' hp2 hpT hk => ?_
    refine ⟨_, rfl, letGo_ezip (s := { s with heap := h', toks := s.toks + 1 }) he' fun h'' he'' sb => ?_⟩
    replace sb : Heap.SameBut e h' h'' := sb
    have nS : s.heap.objs.size ≠ e := Nat.ne_of_gt hel
    have nT : T ≠ e := by rw [eT]; exact Nat.ne_of_gt (Nat.lt_succ_of_lt hel)
    have hp2' : IsPair h'' s.heap.objs.size u u2 := (sb.2 _ nS).trans hp2
    have hpT' : IsPair h'' T (.int i tk) (.ref s.heap.objs.size) := (sb.2 _ nT).trans hpT
    have hnS : H s.heap.objs.size = none := I.hok.fresh (Nat.le_refl _)
    have hnT : H T = none := I.hok.fresh (by rw [eT]; exact Nat.le_succ _)
    have nTS : T ≠ s.heap.objs.size := by rw [eT]; exact Nat.succ_ne_self _
    have new1 : ObjOk X.prog X.w (upd (upd H s.heap.objs.size (.tup [x, y])) T (.tup [.int (i : Nat), .ref s.heap.objs.size])) h'' s.heap.objs.size (.tup [x, y]) :=
      ⟨by show 2 ≤ sizeLine; decide, [u, u2], .cons ru (.cons ru2 .nil), ⟨_, hp2', rfl, _, rfl⟩⟩
    have new2 : ObjOk X.prog X.w (upd (upd H s.heap.objs.size (.tup [x, y])) T (.tup [.int (i : Nat), .ref s.heap.objs.size])) h'' T (.tup [.int (i : Nat), .ref s.heap.objs.size]) :=
      ⟨by show 2 ≤ sizeLine; decide, [.int i tk, .ref s.heap.objs.size], .cons ⟨_, rfl⟩ (.cons rfl .nil), ⟨_, hpT', rfl, _, rfl⟩⟩
    have I2 : Inv X pins σ (upd (upd H s.heap.objs.size (.tup [x, y])) T (.tup [.int (i : Nat), .ref s.heap.objs.size])) { s with heap := h'', toks := s.toks + 1 } :=
      I.turnedNew2 (ch := [e, z, TI, TO, i1, i2]) (fun c o hb q => (sb.2 c (fun q' => hb (by simp [q']))).trans (hk c o (fun q' => hb (by simp [q'])) (fun q' => hb (by simp [q'])) (fun q' => hb (by simp [q'])) (fun q' => hb (by simp [q'])) (fun q' => hb (by simp [q'])) q)) hf (Nat.le_refl _) (by rw [eT]; exact Nat.le_succ _) nTS new1 new2
    refine ⟨.ref T, _, I2, rfl, ⟨T, s.heap.objs.size, x, y, rfl, hnT, hnS, nTS, rfl, fun l hl => by rw [I.tuple_inj hl hqx]; exact hx, fun l hl => by rw [I.tuple_inj hl hqy]; exact hy⟩, ⟨⟨.ref s.heap.objs.size, ?_⟩, ⟨f0', f', (sb.2 _ (Ne.symm n1)).trans hz', h0'⟩, ?_, ?_, ?_, ?_⟩, fun c hcm => ?_⟩
    · have e1 : ((i + 1 : Nat) : Int) = (i : Int) + 1 := by omega
      rw [e1]; exact he''
    · exact (sb.2 _ (Ne.symm n2)).trans (hk _ _ (Ne.symm n2) D.TIz D.TITO D.TIi1 D.TIi2 hTI)
    · obtain ⟨a', b', q⟩ := hTO'
      exact ⟨a', b', (sb.2 _ (Ne.symm n3)).trans q⟩
    · exact h1'.at fun o q => (sb.2 _ (Ne.symm n4)).trans q
    · exact h2'.at fun o q => (sb.2 _ (Ne.symm n5)).trans q
    · have hlt : c < s.heap.objs.size := by
        have e' : c = e ∨ c = z ∨ c = TI ∨ c = TO ∨ c = i1 ∨ c = i2 := by simpa using hcm
        rcases e' with q | q | q | q | q | q
        · rw [q]; exact hel
        · rw [q]; exact Heap.lt_size hz
        · rw [q]; exact Heap.lt_size hTI
        · rw [q]; exact Heap.lt_size hTO
        · rw [q]; obtain ⟨_, e1, _⟩ := h1; exact Heap.lt_size e1
        · rw [q]; obtain ⟨_, e2, _⟩ := h2; exact Heap.lt_size e2
      rw [upd_ne (by rw [eT]; exact Nat.ne_of_lt (Nat.lt_succ_of_lt hlt)), upd_ne (Nat.ne_of_lt hlt)]
      exact (hf c hcm).1
  done := by
    intro X hP hw hK hc i pins s σ H E I hf st hg
    subst hP hw hK
    obtain ⟨⟨old, he⟩, ⟨f0, f, hz, h0⟩, hTI, ⟨x0, y0, hTO⟩, h1, h2⟩ := st
    obtain ⟨xs, ys, hqx, hqy, hend⟩ := hg
    obtain ⟨its, rv, p, _⟩ := I.tuple hqx
    obtain ⟨its2, rv2, p2, _⟩ := I.tuple hqy
    have l1 := rv.length
    have l2 := rv2.length
    have hn : its.toArray[i]? = none ∨ its2.toArray[i]? = none := by
      rcases hend with q | q
      · exact .inl (by simp; omega)
      · exact .inr (by simp; omega)
    exact pyNext_ezip_end (I.ok.hd hc) D he hz h0 hTI hTO h1 h2 p p2 hn fun h' hk => ⟨rfl, I.turnedL (t' := s.toks) (ch := [e, z, TI, TO, i1, i2]) (fun c o hb q =>
      hk c o (fun q' => hb (by simp [q'])) (fun q' => hb (by simp [q'])) (fun q' => hb (by simp [q'])) (fun q' => hb (by simp [q'])) q) hf⟩
  self := fun A i s Q E st h => let ⟨⟨_, he⟩, _⟩ := st; wpAny_pyIter_enum he h
def iEnumZip (K : PySem.W.Frag) (ta : TA) : TI := fun σ H R => ta σ H fun vs H1 => ∃ a b xs ys, vs = [.ref a, .ref b] ∧ SqT K H1 a xs ∧ SqT K H1 b ys ∧ R (Itez K a b) H1
theorem pi_enumZip {X : Cx} {e e2 : Expr} {ta : TA} {p pos p2 pos2 tpos : Pos} {elts : List Expr} {kk : Nat} (hg0 : Gl X "enumerate") (hm0 : X.mg "enumerate" = none) (hg : Gl X "zip") (hm : X.mg "zip" = none) (ha : PA X [e, e2] ta)
    (hs : starEach [e, e2] X.env = (false, eval e X.env) :: starEach [e2] X.env := by rfl) (hpl : (backTo pos2 (starEach [e2] X.env)).any (·.1) = false := by rfl)
    (hs0 : starEach [Expr.Call (.Name "zip" p2) [e, e2] [] pos2] X.env = [(false, eval (Expr.Call (.Name "zip" p2) [e, e2] [] pos2) X.env)] := by rfl) :
    PI X (.Tuple elts kk tpos) (.Call (.Name "enumerate" p) [.Call (.Name "zip" p2) [e, e2] [] pos2] [] pos) (iEnumZip X.K ta) := by
  refine ⟨fun pins s σ H R I h => ?_⟩
  refine Call_ (ld_blt I hg0 hm0 boot_enumerate (PyProof.Rows.callWith_type1 ?_ hs0 rfl))
  rw [hs0]
  show wpAny _ _ (spliced ((false, eval (Expr.Call (.Name "zip" p2) [e, e2] [] pos2) X.env) :: backTo pos (starEach [] X.env))) _ _ s
  refine Calls.spliced_cons ?_
  refine Call_ (ld_blt I hg hm PyProof.Rows.boot_zip (PyProof.Rows.callWith_type1 (thn (ha.run pos2 pins s σ H _ I h) fun us s1 ⟨vs, H1, I1, r1, q1⟩ => ?_) hs hpl))
  obtain ⟨a, b, xs, ys, ex, hqx, hqy, q⟩ := q1
  subst ex
  cases r1 with
  | cons r rr =>
    cases rr with
    | cons r' rr =>
      cases rr
      cases r
      cases r'
      obtain ⟨its, rv, p1, _⟩ := I1.tuple hqx
      obtain ⟨its2, rv2, p2, _⟩ := I1.tuple hqy
      obtain ⟨o1, ho1, _⟩ := id p1
      obtain ⟨o2, ho2, _⟩ := id p2
      refine RZ.call_zipT (show s1.heap.IsTuple a its.toArray from p1) (show s1.heap.IsTuple b its2.toArray from p2) fun h' hz hTI hTO h1 h2 hsz hk => ?_
      have I2 : Inv X pins σ H1 { s1 with heap := h' } := I1.kept (t' := s1.toks) hk
      refine Calls.spliced_nil ?_
      refine call_enumerate_zip (s := { s1 with heap := h' }) hz fun h'' he hk2 => wpAny_pyIter_enum he ?_
      have I3 : Inv X pins σ H1 { s1 with heap := h'' } := I2.kept (t' := s1.toks) hk2
      have hs5 : h'.objs.size = s1.heap.objs.size + 5 := hsz
      refine ⟨h'.objs.size, [h'.objs.size, s1.heap.objs.size + 4, s1.heap.objs.size + 2, s1.heap.objs.size + 3, s1.heap.objs.size, s1.heap.objs.size + 1], _, _, H1, rfl, I3, turn_ezip (PySem.W.ktu_apart s1.heap.objs.size a b (Heap.lt_size ho1) (Heap.lt_size ho2)) ?_, ⟨⟨_, he⟩, ⟨.none, false, hk2 _ _ hz, .inl rfl⟩, hk2 _ _ hTI, ⟨_, _, hk2 _ _ hTO⟩, h1.at fun o q => hk2 _ o q, h2.at fun o q => hk2 _ o q⟩, fun c hcm => ?_, q⟩
      · rw [hs5]
        refine ⟨?_, ?_, ?_, ?_, ?_⟩ <;> exact Nat.ne_of_gt (by omega)
      · have e' : c = h'.objs.size ∨ c = s1.heap.objs.size + 4 ∨ c = s1.heap.objs.size + 2 ∨ c = s1.heap.objs.size + 3 ∨ c = s1.heap.objs.size ∨ c = s1.heap.objs.size + 1 := by simpa using hcm
        have hle : s1.heap.objs.size ≤ c := by
          rcases e' with z | z | z | z | z | z <;> rw [z] <;> first | (rw [hs5]; exact Nat.le_add_right _ _) | exact Nat.le_add_right _ _ | exact Nat.le_refl _
        exact I1.fpOk hle (I1.hok.fresh hle)
end L2
/-! ### dicts whose keys are nested tuples -/
namespace L2
open PySem PySem.Spec PyProof.Rows
/-- a thing that is a key of any depth -/
inductive NKey (H : Hp) : NestedKey → V → Prop
  | num (i : Int) : NKey H (.num i) (.int i)
  | bl (b : Bool) : NKey H (.num (if b then 1 else 0)) (.bl b)
  | non : NKey H .none .non
  | str (x : Str) : NKey H (.text x) (.str x)
  | tup0 {a : Addr} : H a = some (.tup []) → NKey H (.tup []) (.ref a)
  | tup1 {a : Addr} {k : NestedKey} {x : V} : H a = some (.tup [x]) → NKey H k x → NKey H (.tup [k]) (.ref a)
  | tup2 {a : Addr} {k l : NestedKey} {x y : V} : H a = some (.tup [x, y]) → NKey H k x → NKey H l y → NKey H (.tup [k, l]) (.ref a)
  | tup3 {a : Addr} {k l m : NestedKey} {x y z : V} : H a = some (.tup [x, y, z]) → NKey H k x → NKey H l y → NKey H m z → NKey H (.tup [k, l, m]) (.ref a)
  | tup4 {a : Addr} {k l m n : NestedKey} {x y z u : V} : H a = some (.tup [x, y, z, u]) → NKey H k x → NKey H l y → NKey H m z → NKey H n u → NKey H (.tup [k, l, m, n]) (.ref a)
theorem NKey.keeps {H H' : Hp} (ht : ∀ b ys, H b = some (.tup ys) → H' b = some (.tup ys)) {k : NestedKey} {x : V} (h : NKey H k x) : NKey H' k x := by
  induction h with
  | num i => exact .num i
  | bl b => exact .bl b
  | non => exact .non
  | str x => exact .str x
  | tup0 e => exact .tup0 (ht _ _ e)
  | tup1 e _ i1 => exact .tup1 (ht _ _ e) i1
  | tup2 e _ _ i1 i2 => exact .tup2 (ht _ _ e) i1 i2
  | tup3 e _ _ _ i1 i2 i3 => exact .tup3 (ht _ _ e) i1 i2 i3
  | tup4 e _ _ _ _ i1 i2 i3 i4 => exact .tup4 (ht _ _ e) i1 i2 i3 i4
theorem NKey.is {P : Program} {w : World} {H : Hp} {h : Heap} (ok : HOk P w H h) {k : NestedKey} {x : V} (r : NKey H k x) : ∀ u, RelV x u → NestedIs h k u := by
  have tp : ∀ {a : Addr} {xs : List V}, H a = some (.tup xs) → ∃ (o : Obj) (its : List Value) (n : Nat), Vals xs its ∧ h.get? a = some o ∧ o.cls = .type "tuple" ∧ o.data = .seq its.toArray n := fun {a xs} e => by
    obtain ⟨_, its, r, o, h1, h2, n, h3⟩ := (show ObjOk P w H h a (.tup xs) from ok a _ e)
    exact ⟨o, its, n, r, h1, h2, h3⟩
  induction r with
  | num i => rintro u ⟨t, rfl⟩; exact .int i t
  | bl b => rintro u rfl; exact .bool rfl
  | non => rintro u rfl; exact .none
  | str x => rintro u ⟨t, rfl⟩; exact .text x t
  | tup0 e =>
    rintro u rfl
    obtain ⟨o, its, n, rv, h1, h2, h3⟩ := tp e
    cases rv
    exact .tup h1 h2 h3 (by simpa using NestedAll.nil)
  | tup1 e _ i1 =>
    rintro u rfl
    obtain ⟨o, its, n, rv, h1, h2, h3⟩ := tp e
    cases rv with | cons r1 rv => cases rv; exact .tup h1 h2 h3 (.cons (i1 _ r1) .nil)
  | tup2 e _ _ i1 i2 =>
    rintro u rfl
    obtain ⟨o, its, n, rv, h1, h2, h3⟩ := tp e
    cases rv with | cons r1 rv => cases rv with | cons r2 rv => cases rv; exact .tup h1 h2 h3 (.cons (i1 _ r1) (.cons (i2 _ r2) .nil))
  | tup3 e _ _ _ i1 i2 i3 =>
    rintro u rfl
    obtain ⟨o, its, n, rv, h1, h2, h3⟩ := tp e
    cases rv with | cons r1 rv => cases rv with | cons r2 rv => cases rv with | cons r3 rv => cases rv; exact .tup h1 h2 h3 (.cons (i1 _ r1) (.cons (i2 _ r2) (.cons (i3 _ r3) .nil)))
  | tup4 e _ _ _ _ i1 i2 i3 i4 =>
    rintro u rfl
    obtain ⟨o, its, n, rv, h1, h2, h3⟩ := tp e
    cases rv with | cons r1 rv => cases rv with | cons r2 rv => cases rv with | cons r3 rv => cases rv with | cons r4 rv => cases rv; exact .tup h1 h2 h3 (.cons (i1 _ r1) (.cons (i2 _ r2) (.cons (i3 _ r3) (.cons (i4 _ r4) .nil))))
/-- what an object of such a dict is: entries, each with its key's place -/
def NRaw (P : Program) (w : World) (a : Addr) (kvs : List (NestedKey × Addr × V)) (h : Heap) : Prop :=
  ∃ xs : List (NestedKey × Addr × Value), Paired (fun (p : NestedKey × Addr × V) (q : NestedKey × Addr × Value) => p.1 = q.1 ∧ p.2.1 = q.2.1 ∧ RelV p.2.2 q.2.2) kvs xs ∧
    ∃ o es ep, h.get? a = some o ∧ o.ExactDict ∧ o.data = .dict es ep ∧ es.toList = xs.map (entryOfKey (nestedKind P w)) ∧ (xs.map (·.1)).Nodup
/-- the value at a key -/
def nVal (kvs : List (NestedKey × Addr × V)) (k : NestedKey) : Option V := (kvs.find? fun x => decide (x.1 = k)).map (·.2.2)
def nPut (kvs : List (NestedKey × Addr × V)) (k : NestedKey) (b : Addr) (v : V) : List (NestedKey × Addr × V) :=
  if (nVal kvs k).isSome then kvs.map fun x => if x.1 = k then (x.1, x.2.1, v) else x else kvs ++ [(k, b, v)]
theorem nPut_new {kvs : List (NestedKey × Addr × V)} {k : NestedKey} {b : Addr} {v : V} (h : nVal kvs k = none) : nPut kvs k b v = kvs ++ [(k, b, v)] := by
  unfold nPut
  rw [h]
  rfl
/-- such a dict stands at a -/
structure NDict (P : Program) (w : World) (H : Hp) (a : Addr) (kvs : List (NestedKey × Addr × V)) : Prop where
  at_ : H a = some (.ext (NRaw P w a kvs))
  len : kvs.length ≤ sizeLine
  sys : (a == sysModules) = false
  keys : ∀ p ∈ kvs, NKey H p.1 (.ref p.2.1) ∧ p.1.depth ≤ 8
section
variable {P : Program} {w : World} {H : Hp} {h : Heap} {a : Addr} {kvs : List (NestedKey × Addr × V)}
theorem NDict.keeps {H' : Hp} (d : NDict P w H a kvs) (e : H' a = H a) (ht : ∀ b ys, H b = some (.tup ys) → H' b = some (.tup ys)) : NDict P w H' a kvs :=
  ⟨e.trans d.at_, d.len, d.sys, fun p hp => ⟨(d.keys p hp).1.keeps ht, (d.keys p hp).2⟩⟩
abbrev NT (kvs : List (NestedKey × Addr × V)) (xs : List (NestedKey × Addr × Value)) : Prop := Paired (fun (p : NestedKey × Addr × V) (q : NestedKey × Addr × Value) => p.1 = q.1 ∧ p.2.1 = q.2.1 ∧ RelV p.2.2 q.2.2) kvs xs
theorem NT.at_ : ∀ {kvs : List (NestedKey × Addr × V)} {xs : List (NestedKey × Addr × Value)}, NT kvs xs → ∀ k, RelO (nVal kvs k) ((atKey xs k).map (·.2)) := by
  intro kvs xs r k
  unfold nVal atKey
  induction r with
  | nil => exact True.intro
  | @cons p q ps qs hq t ih =>
    by_cases e : p.1 = k
    · have e2 : q.1 = k := by rw [← hq.1]; exact e
      simp only [List.find?_cons, e, e2, decide_true, Option.map_some]
      exact hq.2.2
    · have e2 : ¬ q.1 = k := by rw [← hq.1]; exact e
      simp only [List.find?_cons, e, e2, decide_false]
      exact ih
theorem NT.put {k : NestedKey} {b : Addr} {v : V} {u : Value} (rv : RelV v u) : ∀ {kvs : List (NestedKey × Addr × V)} {xs : List (NestedKey × Addr × Value)}, NT kvs xs → NT (nPut kvs k b v) (storedH xs k b u) := by
  intro kvs xs r
  have e := (NT.at_ r k).isSome_eq
  rw [Option.isSome_map] at e
  unfold nPut storedH
  rw [e]
  split
  · have : ∀ {kvs : List (NestedKey × Addr × V)} {xs : List (NestedKey × Addr × Value)}, NT kvs xs → NT (kvs.map fun x => if x.1 = k then (x.1, x.2.1, v) else x) (xs.map (putAt k u)) := by
      intro kvs xs r
      induction r with
      | nil => exact .nil
      | @cons p q ps qs hq t ih =>
        refine .cons ?_ ih
        unfold putAt
        show (if p.1 = k then (p.1, p.2.1, v) else p).1 = _ ∧ (if p.1 = k then (p.1, p.2.1, v) else p).2.1 = _ ∧ RelV (if p.1 = k then (p.1, p.2.1, v) else p).2.2 _
        by_cases e : p.1 = k
        · have e2 : q.1 = k := by rw [← hq.1]; exact e
          rw [if_pos e, if_pos e2]
          exact ⟨hq.1, hq.2.1, rv⟩
        · have e2 : ¬ q.1 = k := by rw [← hq.1]; exact e
          rw [if_neg e, if_neg e2]
          exact hq
    exact this r
  · exact Paired.snoc r ⟨rfl, rfl, rv⟩
theorem NDict.dict (d : NDict P w H a kvs) (ok : HOk P w H h) : ∃ xs, NT kvs xs ∧ h.DictOfH (nestedKind P w) a xs := by
  obtain ⟨φ, _, _⟩ := (show ObjOk P w H h a (.ext (NRaw P w a kvs)) from ok a _ d.at_)
  obtain ⟨xs, r, o, es, ep, h1, h2, h3, h4, h5⟩ := φ
  refine ⟨xs, r, o, es, ep, h1, h2, h3, h4, fun x hx => ?_, h5⟩
  have all : ∀ {l : List (NestedKey × Addr × V)} {m : List (NestedKey × Addr × Value)}, NT l m → (∀ p ∈ l, NKey H p.1 (.ref p.2.1) ∧ p.1.depth ≤ 8) → ∀ x ∈ m, (nestedKind P w).is h x.1 x.2.1 := by
    intro l m q
    induction q with
    | nil => intro _ x hx; exact nomatch hx
    | @cons p q ps qs hq t ih =>
      intro hp x hx
      rcases List.mem_cons.mp hx with e | hx
      · subst e
        obtain ⟨h1, h2⟩ := hp p (by simp)
        rw [hq.1, hq.2.1] at h1
        rw [hq.1] at h2
        exact ⟨h1.is ok _ rfl, h2⟩
      · exact ih (fun p hp' => hp p (by simp [hp'])) x hx
  exact all r d.keys x hx
theorem nraw_stay (h1 h2 : Heap) (x : NRaw P w a kvs h1) (k : ∀ o, h1.get? a = some o → h2.get? a = some o) : NRaw P w a kvs h2 := by
  obtain ⟨xs, r, o, es, ep, e, c⟩ := x
  exact ⟨xs, r, o, es, ep, k _ e, c⟩
theorem nd_obj {h' : Heap} {H' : Hp} (x : NRaw P w a kvs h') : ObjOk P w H' h' a (.ext (NRaw P w a kvs)) := by
  refine ⟨x, ?_, fun h1 h2 => nraw_stay h1 h2⟩
  obtain ⟨xs, r, o, es, ep, e, c⟩ := x
  exact ⟨o, e⟩
end
section
variable {X : Cx} {pins : List (Addr × Obj)} {σ : St} {H : Hp} {s : Shared} {a : Addr} {kvs : List (NestedKey × Addr × V)} {k : NestedKey} {b : Addr} {v : V} {u r : Value} {A : Around} {E : Value → Shared → Prop}
theorem n_getItem {Q : Value → Shared → Prop} (hu : A.units + 9 < cLine) (I : Inv X pins σ H s) (d : NDict X.prog X.w H a kvs) (hk : NKey H k (.ref b)) (hd : k.depth ≤ 8) (l : nVal kvs k = some v) (h : ∀ w' s', Inv X pins σ H s' → RelV v w' → Q w' s') :
    wpAny (model X.prog X.w) A (getItem (.ref a) (.ref b)) Q E s := by
  obtain ⟨xs, rel, dd⟩ := d.dict I.hok
  obtain ⟨w', hw, rw'⟩ := RelO.some_of (v := v) (o := (atKey xs k).map (·.2)) (by rw [← l]; exact NT.at_ rel k)
  obtain ⟨p, hp, hp2⟩ := Option.map_eq_some_iff.mp hw
  refine wpAny_getItem_heap (knd := nestedKind X.prog X.w) (show A.in1.units + 8 < cLine by show A.units + 1 + 8 < cLine; omega) ⟨hk.is I.hok _ rfl, hd⟩ dd hp ?_
  rw [hp2]
  exact h w' _ (I.tok _) rw'
theorem n_notIn {Q : Value → Shared → Prop} (hu : A.units + 9 < cLine) (I : Inv X pins σ H s) (d : NDict X.prog X.w H a kvs) (hk : NKey H k (.ref b)) (hd : k.depth ≤ 8) (h : ∀ s', Inv X pins σ H s' → Q (.bool (!(nVal kvs k).isSome)) s') :
    wpAny (model X.prog X.w) A (compareOp .NotIn (.ref b) (.ref a)) Q E s := by
  obtain ⟨xs, rel, dd⟩ := d.dict I.hok
  refine wpAny_notIn_heap (knd := nestedKind X.prog X.w) (show A.in1.units + 8 < cLine by show A.units + 1 + 8 < cLine; omega) ⟨hk.is I.hok _ rfl, hd⟩ d.sys dd ?_
  have q := (NT.at_ rel k).isSome_eq
  rw [Option.isSome_map] at q
  rw [← q]
  exact h _ (I.tok _)
theorem n_setItem {Q : Unit → Shared → Prop} (hu : A.units + 9 < cLine) (I : Inv X pins σ H s) (d : NDict X.prog X.w H a kvs) (hk : NKey H k (.ref b)) (hd : k.depth ≤ 8) (hl : kvs.length < sizeLine) (rv : RelV v r)
    (h : ∀ s', Inv X pins σ (upd H a (.ext (NRaw X.prog X.w a (nPut kvs k b v)))) s' → Q () s') :
    wpAny (model X.prog X.w) A (setItem (.ref a) (.ref b) r) Q E s := by
  obtain ⟨xs, rel, dd⟩ := d.dict I.hok
  have hz : xs.length ≤ sizeLine := by rw [← Paired.length rel]; exact d.len
  refine wpAny_setItem_heap (knd := nestedKind X.prog X.w) (hsz := hz) (show A.in1.units + 8 < cLine by show A.units + 1 + 8 < cLine; omega) ⟨hk.is I.hok _ rfl, hd⟩ dd fun h' dd' hs => h _ ?_
  obtain ⟨q, es, ep, hq, h2, h3, h4, _, h5⟩ := dd'
  exact d_write I (by rw [d.at_]; exact True.intro) hs ⟨q, hq⟩ (nd_obj ⟨_, NT.put rv rel, q, es, ep, hq, h2, h3, h4, h5⟩)
end
theorem nPut_len (kvs : List (NestedKey × Addr × V)) (k : NestedKey) (b : Addr) (v : V) : (nPut kvs k b v).length ≤ kvs.length + 1 := by
  unfold nPut
  split
  · simp
  · simp
theorem NDict.put {P : Program} {w : World} {H : Hp} {a : Addr} {kvs : List (NestedKey × Addr × V)} (d : NDict P w H a kvs) {k : NestedKey} {b : Addr} {v : V} (hk : NKey H k (.ref b)) (hd : k.depth ≤ 8) (hl : kvs.length < sizeLine) :
    NDict P w (upd H a (.ext (NRaw P w a (nPut kvs k b v)))) a (nPut kvs k b v) := by
  have ht : ∀ c ys, H c = some (.tup ys) → (upd H a (.ext (NRaw P w a (nPut kvs k b v)))) c = some (.tup ys) := fun c ys e => by
    rw [upd_ne (ne_of e d.at_ (by intro z; cases z))]; exact e
  refine ⟨upd_same, by have := nPut_len kvs k b v; omega, d.sys, fun p hp => ?_⟩
  unfold nPut at hp
  split at hp
  · obtain ⟨q, hq, rfl⟩ := List.mem_map.mp hp
    obtain ⟨h1, h2⟩ := d.keys q hq
    split
    · exact ⟨h1.keeps ht, h2⟩
    · exact ⟨h1.keeps ht, h2⟩
  · rcases List.mem_append.mp hp with hp | hp
    · exact ⟨(d.keys p hp).1.keeps ht, (d.keys p hp).2⟩
    · rw [List.mem_singleton.mp hp]
      exact ⟨hk.keeps ht, hd⟩
/-- {} -/
def tDNewN (P : Program) (w : World) : TE := fun _ H Q => ∀ p, H p = none → (p == sysModules) = false → Q (.ref p) (upd H p (.ext (NRaw P w p [])))
/-- d[y] -/
def tNGet (P : Program) (w : World) (td ty : TE) : TE := fun σ H Q => td σ H fun x H1 => ty σ H1 fun y H2 => ∃ a b kvs k v, x = .ref a ∧ y = .ref b ∧ NDict P w H2 a kvs ∧ NKey H2 k (.ref b) ∧ k.depth ≤ 8 ∧ nVal kvs k = some v ∧ Q v H2
/-- y not in d -/
def tNNotIn (P : Program) (w : World) (ty td : TE) : TE := fun σ H Q => ty σ H fun y H1 => td σ H1 fun x H2 => ∃ a b kvs k, x = .ref a ∧ y = .ref b ∧ NDict P w H2 a kvs ∧ NKey H2 k (.ref b) ∧ k.depth ≤ 8 ∧ Q (.bl (!(nVal kvs k).isSome)) H2
/-- d[y] = v -/
def sNPut (P : Program) (w : World) (td ty tv : TE) : TS := fun D σ H => tv σ H fun v H1 => td σ H1 fun x H2 => ty σ H2 fun y H3 => ∃ a b kvs k, x = .ref a ∧ y = .ref b ∧ NDict P w H3 a kvs ∧ NKey H3 k (.ref b) ∧ k.depth ≤ 8 ∧ kvs.length < sizeLine ∧ D.nx σ (upd H3 a (.ext (NRaw P w a (nPut kvs k b v))))
section
variable {X : Cx} {o i e value : Expr} {pos pos' tpos : Pos} {td ty tv : TE} {P : Program} {w : World}
theorem pe_dnewN (hP : X.prog = P) (hw : X.w = w) : PE X (.Dict [] [] pos) (tDNewN P w) := ⟨fun pins s σ H Q I h => by
  subst hP hw
  have hne : (s.heap.objs.size == sysModules) = false := beq_eq_false_iff_ne.mpr (Ne.symm (Nat.ne_of_lt I.big))
  exact wpAny_Dict_empty ⟨.ref s.heap.objs.size, _, I.laid (a := s.heap.objs.size) (o := .ext (NRaw X.prog X.w s.heap.objs.size [])) (t' := s.toks) (fun _ _ q => Heap.get?_push_of_some _ q) (Nat.le_refl _)
    (nd_obj ⟨[], .nil, _, #[], 0, Heap.get?_push_size _ rfl, ⟨rfl, rfl, rfl⟩, rfl, rfl, List.nodup_nil⟩), rfl, h _ (I.hok.fresh (Nat.le_refl _)) hne⟩⟩
theorem pe_nget (hP : X.prog = P) (hw : X.w = w) (hu : X.A.units + 64 < cLine) (ho : PE X o td) (hi : PE X i ty) (hs : NoSl i) : PE X (.Subscript o i pos) (tNGet P w td ty) := by
  subst hP hw
  refine ⟨fun pins s σ H Q I h => ?_⟩
  refine subD_of PySem.F.slot_dict_getitem.lookup hs (thn (ho.run pins s σ H _ I h) fun u s1 ⟨x, H1, I1, rx, q1⟩ => thn (hi.run pins s1 σ H1 _ I1 q1) fun iv s2 ⟨y, H2, I2, ry, a, b, kvs, k, v, ex, ey, d, hk, hd, l, q2⟩ => ?_)
  subst ex ey
  obtain rfl : u = Value.ref a := rx
  obtain rfl : iv = Value.ref b := ry
  obtain ⟨xs, rel, dd⟩ := d.dict I2.hok
  exact ⟨dd.typeIs, n_getItem (by omega) I2 d hk hd l fun w' s3 I3 rw' => ⟨v, H2, I3, rw', q2⟩⟩
theorem pc_nnotin (hP : X.prog = P) (hw : X.w = w) (hu : X.A.units + 64 < cLine) (hi : PE X i ty) (ho : PE X o td) : PC X .NotIn i o (tNNotIn P w ty td) := by
  subst hP hw
  refine ⟨fun pins s σ H Q I h => ?_⟩
  refine thn (hi.run pins s σ H _ I h) fun iv s1 ⟨y, H1, I1, ry, q1⟩ => thn (ho.run pins s1 σ H1 _ I1 q1) fun u s2 ⟨x, H2, I2, rx, a, b, kvs, k, ex, ey, d, hk, hd, q2⟩ => ?_
  subst ex ey
  obtain rfl : u = Value.ref a := rx
  obtain rfl : iv = Value.ref b := ry
  exact n_notIn (by omega) I2 d hk hd fun s3 I3 => ⟨.bl (!(nVal kvs k).isSome), H2, I3, rfl, q2⟩
theorem ps_nput (hP : X.prog = P) (hw : X.w = w) (hu : X.A.units + 64 < cLine) (ho : PE X o td) (hi : PE X i ty) (hv : PE X value tv) (hs : swapsWith value (some (.Subscript o i pos')) pos.line X.env = pure false) :
    PS X (.Assign [.Subscript o i pos'] value pos) (sNPut P w td ty tv) := by
  subst hP hw
  refine ⟨fun pins s σ H D I h => ?_⟩
  refine wpAny_Assign_Subscript (thn (hv.run pins s σ H _ I h) fun r s1 ⟨v, H1, I1, rv, q1⟩ => thn (ho.run pins s1 σ H1 _ I1 q1) fun u s2 ⟨x, H2, I2, rx, q2⟩ => thn (hi.run pins s2 σ H2 _ I2 q2) fun iv s3 ⟨y, H3, I3, ry, a, b, kvs, k, ex, ey, d, hk, hd, hl, q3⟩ => ?_) hs
  subst ex ey
  obtain rfl : u = Value.ref a := rx
  obtain rfl : iv = Value.ref b := ry
  exact n_setItem (by omega) I3 d hk hd hl rv fun s4 I4 => ⟨σ, _, I4, q3⟩
end
end L2
/-! ### max of a tuple of ints -/
namespace L2
open PySem PySem.Spec PyProof.Rows PySem.W
theorem maxOf_spec : ∀ (xs : List Int) (x : Int), maxOf x xs ∈ x :: xs ∧ ∀ y ∈ x :: xs, y ≤ maxOf x xs
  | [], x => ⟨by simp [maxOf], fun y hy => by simp at hy; simp [maxOf, hy]⟩
  | z :: xs, x => by
    have e : maxOf x (z :: xs) = maxOf (if DatumOrd.lt x z = true then z else x) xs := rfl
    have e2 : (DatumOrd.lt x z = true) ↔ x < z := by show decide (x < z) = true ↔ _; simp
    rw [e]
    by_cases c : x < z
    · rw [if_pos (e2.mpr c)]
      obtain ⟨h1, h2⟩ := maxOf_spec xs z
      refine ⟨List.mem_cons_of_mem _ h1, fun y hy => ?_⟩
      have hz := h2 z (by simp)
      rcases List.mem_cons.mp hy with rfl | hy
      · omega
      · exact h2 y hy
    · rw [if_neg (fun h => c (e2.mp h))]
      obtain ⟨h1, h2⟩ := maxOf_spec xs x
      refine ⟨?_, fun y hy => ?_⟩
      · rcases List.mem_cons.mp h1 with h | h
        · rw [h]; simp
        · simp [h]
      · have hx := h2 x (by simp)
        rcases List.mem_cons.mp hy with rfl | hy
        · exact hx
        · rcases List.mem_cons.mp hy with rfl | hy
          · omega
          · exact h2 y (by simp [hy])
def rMaxT (K : PySem.W.Frag) : List V → Hp → VK → Prop := fun vs H Q => ∃ (a : Addr) (n : Int) (ns : List Int), vs = [V.ref a] ∧ SqT K H a ((n :: ns).map V.int) ∧ ∀ m, m ∈ n :: ns → (∀ y ∈ n :: ns, y ≤ m) → Q (.int m) H
theorem holdAll_ints {h : Heap} : ∀ {ns : List Int} {vs : List Value}, Vals (ns.map V.int) vs → HoldAll h vs ns
  | [], _, r => by rw [List.map_nil] at r; cases r; exact .nil
  | n :: ns, _, r => by
    rw [List.map_cons] at r
    cases r with
    | cons r1 r =>
      obtain ⟨t, rfl⟩ := r1
      exact .cons (holds_int n t) (holdAll_ints r)
theorem cr_maxT {X : Cx} (hc : X.calm = true) (hu : X.A.units + 64 < cLine) : CallR X (.builtin "max") (rMaxT X.K) := by
  intro pins s σ H vs us Q I r h
  obtain ⟨a, n, ns, rfl, hs, q⟩ := h
  obtain ⟨its, rv, hl, _⟩ := I.tuple hs
  rw [Vals.ref1 r]
  refine max_tuple_datum (I.ok.hd hc) (show s.heap.IsTuple a its.toArray from hl) (x := n) (xs := ns) (by simpa using holdAll_ints rv) (by show X.A.units + 1 + 0 < cLine; omega) fun i v h' tk hi hv hk => ?_
  obtain ⟨m1, m2⟩ := maxOf_spec ns n
  have hv2 : ∃ t, v = .int (maxOf n ns) t := by
    obtain ⟨as, hr⟩ := hv
    have hr : Reads h' v (.int (maxOf n ns)) as := hr
    cases hr
    exact ⟨_, rfl⟩
  obtain ⟨t, rfl⟩ := hv2
  exact ⟨.int _, H, I.kept hk, ⟨t, rfl⟩, q _ m1 m2⟩
/-- the greatest of a list or of a tuple -/
def rMaxX (K : PySem.W.Frag) : List V → Hp → VK → Prop := fun vs H Q => rMaxT K vs H Q ∨ rMax K vs H Q
theorem cr_maxX {X : Cx} (hc : X.calm = true) (hu : X.A.units + 64 < cLine) : CallR X (.builtin "max") (rMaxX X.K) := by
  intro pins s σ H vs us Q I r h
  rcases h with h | h
  · exact cr_maxT hc hu pins s σ H vs us Q I r h
  · exact cr_max hc pins s σ H vs us Q I r h
/-- the items of a list or of a tuple -/
def iSeqX (K : PySem.W.Frag) (te : TE) : TI := fun σ H R => iTup K te σ H R ∨ iList K te σ H R
theorem pi_seqX {X : Cx} {tg l : Expr} {tl : TE} (K : PySem.W.Frag) (h : X.K = K) (hl : PE X l tl) : PI X tg l (iSeqX K tl) := by
  subst h
  refine ⟨fun pins s σ H R I h => ?_⟩
  rcases h with h | h
  · exact (pi_tup hl).run pins s σ H R I h
  · exact (pi_list hl).run pins s σ H R I h
end L2
namespace Nk
open PySem L2
def top (i : Nat) : Stmt := PySem.Challenge.pw_nightkeep_k30_refused_weighing.main.body.getD i (.Pass ⟨0, 0, 0, 0⟩)
abbrev s_Elder____init__ : Stmt := inClass (top 7) 0
abbrev s_is_number : Stmt := top 20
abbrev s_is_rounds : Stmt := top 21
abbrev s_number_of : Stmt := top 22
abbrev s_is_rule : Stmt := top 24
abbrev s_look_rules : Stmt := top 25
abbrev s_divisor : Stmt := top 27
abbrev s_turn_of : Stmt := top 28
abbrev s_look_small : Stmt := top 30
abbrev s_look_turn : Stmt := top 31
abbrev s_stood : Stmt := top 32
abbrev s_gone_back : Stmt := top 33
abbrev s_copied : Stmt := top 34
abbrev s_steps : Stmt := top 35
abbrev s_nights_from : Stmt := top 36
abbrev s_outdone : Stmt := top 37
abbrev s_within : Stmt := top 38
abbrev s_lean : Stmt := top 39
abbrev s_best_from : Stmt := top 40
abbrev s_most : Stmt := top 41
abbrev s__law_town : Stmt := top 43
abbrev s__law_draw : Stmt := top 44
abbrev s__law_pick : Stmt := top 45
abbrev s__law_word : Stmt := top 46
abbrev s__law_refused : Stmt := top 47
abbrev s__law_told : Stmt := top 48
abbrev s__law_whole : Stmt := top 49
abbrev s__law_wholes : Stmt := top 50
abbrev s__law_parted : Stmt := top 51
abbrev s__law_is_nights : Stmt := top 52
abbrev s__law_one : Stmt := top 53
abbrev s__law_sums : Stmt := top 54
abbrev s__law_weighed : Stmt := top 55
abbrev s_law : Stmt := top 56
/-- what the walks ask of the top as it stands when it has run -/
structure Txt (K : PySem.W.Frag) (mg : Str → Option Value) : Prop where
  d_is_number : Df K mg "is_number" "is_number" s_is_number ["thing", "least", "most"]
  d_is_rounds : Df K mg "is_rounds" "is_rounds" s_is_rounds ["thing"]
  d_number_of : Df K mg "number_of" "number_of" s_number_of ["rounds", "night"]
  d_is_rule : Df K mg "is_rule" "is_rule" s_is_rule ["thing"]
  d_look_rules : Df K mg "look_rules" "look_rules" s_look_rules ["rules"]
  d_divisor : Df K mg "divisor" "divisor" s_divisor ["one", "other"]
  d_turn_of : Df K mg "turn_of" "turn_of" s_turn_of ["rules"]
  d_look_small : Df K mg "look_small" "look_small" s_look_small ["rules"]
  d_look_turn : Df K mg "look_turn" "look_turn" s_look_turn ["rules"]
  d_stood : Df K mg "stood" "stood" s_stood ["rules"]
  d_gone_back : Df K mg "gone_back" "gone_back" s_gone_back ["rules", "turn", "place", "seen"]
  d_copied : Df K mg "copied" "copied" s_copied ["rules", "seen"]
  d_steps : Df K mg "steps" "steps" s_steps ["rules", "turn", "place", "seen"]
  d_nights_from : Df K mg "nights_from" "nights_from" s_nights_from ["turn", "place", "ages"]
  d_outdone : Df K mg "outdone" "outdone" s_outdone ["rule", "others"]
  d_within : Df K mg "within" "within" s_within ["one", "other"]
  d_lean : Df K mg "lean" "lean" s_lean ["rules"]
  d_best_from : Df K mg "best_from" "best_from" s_best_from ["rules", "turn", "node", "known"]
  d_most : Df K mg "most" "most" s_most ["rules"]
  d__law_town : Df K mg "_law_town" "_law_town" s__law_town ["script"]
  d__law_draw : Df K mg "_law_draw" "_law_draw" s__law_draw ["script", "town", "many"]
  d__law_pick : Df K mg "_law_pick" "_law_pick" s__law_pick ["script", "town", "some"]
  d__law_word : Df K mg "_law_word" "_law_word" s__law_word ["caught"]
  d__law_refused : Df K mg "_law_refused" "_law_refused" s__law_refused ["word"]
  d__law_told : Df K mg "_law_told" "_law_told" s__law_told ["kind", "some"]
  d__law_whole : Df K mg "_law_whole" "_law_whole" s__law_whole ["thing"]
  d__law_wholes : Df K mg "_law_wholes" "_law_wholes" s__law_wholes ["thing"]
  d__law_parted : Df K mg "_law_parted" "_law_parted" s__law_parted ["script", "town", "whole"]
  d__law_is_nights : Df K mg "_law_is_nights" "_law_is_nights" s__law_is_nights ["thing"]
  d__law_one : Df K mg "_law_one" "_law_one" s__law_one ["kind", "some"]
  d__law_sums : Df K mg "_law_sums" "_law_sums" s__law_sums ["rules"]
  d__law_weighed : Df K mg "_law_weighed" "_law_weighed" s__law_weighed ["rules", "more"]
  d_law : Df K mg "law" "law" s_law ["script"]
  x_KeepError : Xc K mg "KeepError" (cls mg "KeepError")
  x_BadRounds : Xc K mg "BadRounds" (cls mg "BadRounds")
  x_BadNight : Xc K mg "BadNight" (cls mg "BadNight")
  x_BadNumber : Xc K mg "BadNumber" (cls mg "BadNumber")
  x_BadRules : Xc K mg "BadRules" (cls mg "BadRules")
  x_BadNights : Xc K mg "BadNights" (cls mg "BadNights")
  x_Full : Xc K mg "Full" (cls mg "Full")
  x_NotHeld : Xc K mg "NotHeld" (cls mg "NotHeld")
  x_Pinned : Xc K mg "Pinned" (cls mg "Pinned")
  x_NotPinned : Xc K mg "NotPinned" (cls mg "NotPinned")
  x_BadState : Xc K mg "BadState" (cls mg "BadState")
  x_BadPart : Xc K mg "BadPart" (cls mg "BadPart")
  x_NotFit : Xc K mg "NotFit" (cls mg "NotFit")
  x_IsWhole : Xc K mg "IsWhole" (cls mg "IsWhole")
  x_BadPlan : Xc K mg "BadPlan" (cls mg "BadPlan")
  x_Unlike : Xc K mg "Unlike" (cls mg "Unlike")
  x_BadText : Xc K mg "BadText" (cls mg "BadText")
  k_err : Kc K mg
  e_BadRounds : Ec K mg "BadRounds"
  e_BadNight : Ec K mg "BadNight"
  e_BadNumber : Ec K mg "BadNumber"
  e_BadRules : Ec K mg "BadRules"
  e_BadNights : Ec K mg "BadNights"
  e_Elder : Ec K mg "Elder"
  e_Full : Ec K mg "Full"
  e_NotHeld : Ec K mg "NotHeld"
  e_Pinned : Ec K mg "Pinned"
  e_NotPinned : Ec K mg "NotPinned"
  e_BadState : Ec K mg "BadState"
  e_BadPart : Ec K mg "BadPart"
  e_NotFit : Ec K mg "NotFit"
  e_IsWhole : Ec K mg "IsWhole"
  e_BadPlan : Ec K mg "BadPlan"
  e_Unlike : Ec K mg "Unlike"
  e_BadText : Ec K mg "BadText"
  b_RuntimeError : mg "RuntimeError" = none
  b_all : mg "all" = none
  b_bool : mg "bool" = none
  b_enumerate : mg "enumerate" = none
  b_int : mg "int" = none
  b_isinstance : mg "isinstance" = none
  b_len : mg "len" = none
  b_list : mg "list" = none
  b_max : mg "max" = none
  b_min : mg "min" = none
  b_range : mg "range" = none
  b_sorted : mg "sorted" = none
  b_sum : mg "sum" = none
  b_tuple : mg "tuple" = none
  b_zip : mg "zip" = none
end Nk
local macro_rules | `(tactic| walk_at "rd") => `(tactic| (try simp only [L2.tRet, L2.tAndV, L2.tOrV, L2.tNotV, L2.tCB, L2.tCons, L2.tNil, L2.tVar, L2.tC, L2.tChain, L2.tOp, L2.tUn, L2.rI, L2.rI0, L2.rU, L2.rEq, L2.rNe, L2.scal, L2.tTest, L2.tB, L2.tAnd, L2.tOr, L2.tNot, L2.tIf, L2.tIfS, L2.tSeq, L2.tNext, L2.tAsg, L2.gName, Nk.gCons_cons, Nk.gNil_nil, L2.gSub, L2.tDrop, L2.tRetN, L2.tCall, L2.tCallS, L2.tIsN, L2.tNotN, L2.tSl, L2.tPart, L2.tNoPart, L2.tPar, L2.tAug, L2.tBreak, L2.tCont, L2.tDisp, L2.tPairs, L2.tLstRg, L2.tRg1, L2.tRg2, Nk.rLenQ, Nk.rListQ, Nk.rTupleQ, L2.sDPut, L2.tBM, L2.tBM0, L2.tTup, L2.tLst, Nk.szN, Nat.reduceLeDiff, L2.tYes, L2.wipe, L2.start, L2.cxOf, List.map_cons, List.map_nil, List.cons_append, List.nil_append, List.append_nil, List.length_cons, List.length_nil, List.replicate, Nat.sub_self, Nat.zero_add, Nat.reduceAdd, Nat.reduceSub, List.set_cons_zero, List.set_cons_succ, List.getElem?_cons_zero, List.getElem?_cons_succ, Option.some.injEq, exists_and_left, exists_eq_left', exists_eq_left, L2.V.int.injEq, L2.V.bl.injEq, L2.V.str.injEq, L2.V.ref.injEq, true_and, and_true, decide_eq_true_eq, Bool.not_true, Bool.not_false, if_true, if_false, Bool.false_eq_true, reduceIte, List.cons.injEq, reduceCtorEq, decide_true, decide_false, decide_eq_false_iff_not, Bool.not_eq_true', Bool.not_not]))
local macro_rules | `(tactic| walk_at "rs") => `(tactic| (try simp only [L2.tRet, L2.tAndV, L2.tOrV, L2.tNotV, L2.tCB, L2.tCons, L2.tNil, L2.tVar, L2.tC, L2.tChain, L2.tOp, L2.tUn, L2.rI, L2.rI0, L2.rU, L2.rEq, L2.rNe, Nk.scal_ii, Nk.scal_ss, Nk.scal_bb, Nk.scal_nn, Nk.scal_ni, Nk.scal_in, Nk.scal_ns, Nk.scal_sn, Nk.scal_is, Nk.scal_si, L2.tTest, L2.tB, L2.tAnd, L2.tOr, L2.tNot, L2.tIf, L2.tIfS, L2.tNext, L2.tAsg, L2.gName, Nk.gCons_cons, Nk.gNil_nil, L2.gSub, L2.tDrop, L2.tRetN, L2.tCall, L2.tCallS, L2.tIsN, L2.tNotN, L2.tSl, L2.tPart, L2.tNoPart, L2.tPar, L2.tAug, L2.tBreak, L2.tCont, L2.tDisp, L2.tPairs, L2.tLstRg, L2.tRg1, L2.tRg2, Nk.rLenQ, Nk.rListQ, Nk.rTupleQ, L2.sDPut, L2.tBM, L2.tBM0, L2.tTup, L2.tLst, Nk.szN, Nat.reduceLeDiff, L2.tYes, L2.wipe, L2.start, L2.cxOf, List.map_cons, List.map_nil, List.cons_append, List.nil_append, List.append_nil, List.length_cons, List.length_nil, List.replicate, Nat.sub_self, Nat.zero_add, Nat.reduceAdd, Nat.reduceSub, List.set_cons_zero, List.set_cons_succ, List.getElem?_cons_zero, List.getElem?_cons_succ, Option.some.injEq, exists_and_left, exists_eq_left', exists_eq_left, L2.V.int.injEq, L2.V.bl.injEq, L2.V.str.injEq, L2.V.ref.injEq, true_and, and_true, decide_eq_true_eq, Bool.not_true, Bool.not_false, if_true, if_false, Bool.false_eq_true, reduceIte, List.cons.injEq, reduceCtorEq, decide_true, decide_false, decide_eq_false_iff_not, Bool.not_eq_true', Bool.not_not]))
local macro_rules | `(tactic| walk_at "rt") => `(tactic| (try simp only [L2.tRet, L2.tFld, L2.sFld, L2.tMeth, L2.tMake, L2.tMkO, L2.tAndV, L2.tOrV, L2.tNotV, L2.tCB, L2.tCons, L2.tNil, L2.tVar, L2.tC, L2.tChain, L2.tOp, L2.tUn, L2.rI, L2.rI0, L2.rU, L2.rEq, L2.rNe, Nk.scal_ii, Nk.scal_ss, Nk.scal_bb, Nk.scal_nn, Nk.scal_ni, Nk.scal_in, Nk.scal_ns, Nk.scal_sn, Nk.scal_is, Nk.scal_si, L2.tTest, L2.tB, L2.tAnd, L2.tOr, L2.tNot, L2.tIf, L2.tIfS, L2.tNext, L2.tAsg, L2.gName, Nk.gCons_cons, Nk.gNil_nil, L2.gSub, L2.tDrop, L2.tRetN, L2.tCall, L2.tCallS, L2.tIsN, L2.tNotN, L2.tSl, L2.tPart, L2.tNoPart, L2.tPar, L2.tAug, L2.tBreak, L2.tCont, and_assoc, Nk.tFor_k, Nk.tLc_k, L2.iRng1, L2.iRng2, L2.iList, L2.iTup, L2.iRev, L2.iEnum, L2.iZip, RZ.iZipA, L2.iEnumZip, L2.tDNewN, L2.tNGet, L2.tNNotIn, L2.sNPut, L2.iSeqX, L2.iTup, L2.iList, L2.tDisp, L2.tPairs, L2.tLstRg, L2.tRg1, L2.tRg2, Nk.rLenQ, Nk.rListQ, Nk.rTupleQ, L2.sDPut, L2.tBM, L2.tBM0, L2.tTup, L2.tLst, Nk.szN, Nat.reduceLeDiff, L2.tYes, L2.wipe, L2.start, L2.cxOf, List.map_cons, List.map_nil, List.cons_append, List.nil_append, List.append_nil, List.length_cons, List.length_nil, List.replicate, Nat.sub_self, Nat.zero_add, Nat.reduceAdd, Nat.reduceSub, List.set_cons_zero, List.set_cons_succ, List.getElem?_cons_zero, List.getElem?_cons_succ, Option.some.injEq, exists_and_left, exists_eq_left', exists_eq_left, L2.V.int.injEq, L2.V.bl.injEq, L2.V.str.injEq, L2.V.ref.injEq, true_and, and_true, decide_eq_true_eq, Bool.not_true, Bool.not_false, if_true, if_false, Bool.false_eq_true, reduceIte, List.cons.injEq, reduceCtorEq, decide_true, decide_false, decide_eq_false_iff_not, Bool.not_eq_true', Bool.not_not]))
local macro_rules | `(tactic| walk_at "ru") => `(tactic| (try simp only [L2.kV, L2.tRevL, L2.tDGet, L2.tDIn, L2.tDNotIn, L2.tDGet1, L2.tDGet2, L2.tDPop1, L2.iKeysM, L2.iKeys, L2.iStr, L2.tRet, L2.tFld, L2.sFld, L2.tMeth, L2.tMake, L2.tMkO, L2.tAndV, L2.tOrV, L2.tNotV, L2.tCB, L2.tCons, L2.tNil, L2.tVar, L2.tC, L2.tChain, L2.tOp, L2.tUn, L2.rI, L2.rI0, L2.rU, L2.rEq, L2.rNe, Nk.scal_ii, Nk.scal_ss, Nk.scal_bb, Nk.scal_nn, Nk.scal_ni, Nk.scal_in, Nk.scal_ns, Nk.scal_sn, Nk.scal_is, Nk.scal_si, L2.tTest, L2.tB, L2.tAnd, L2.tOr, L2.tNot, L2.tIf, L2.tIfS, L2.tNext, L2.tAsg, L2.gName, Nk.gCons_cons, Nk.gNil_nil, L2.gSub, L2.tDrop, L2.tRetN, L2.tCall, L2.tCallS, L2.tIsN, L2.tNotN, L2.tSl, L2.tPart, L2.tNoPart, L2.tPar, L2.tAug, L2.tBreak, L2.tCont, and_assoc, Nk.tFor_k, Nk.tLc_k, L2.iRng1, L2.iRng2, L2.iList, L2.iTup, L2.iRev, L2.iEnum, L2.iZip, RZ.iZipA, L2.iEnumZip, L2.tDNewN, L2.tNGet, L2.tNNotIn, L2.sNPut, L2.iSeqX, L2.iTup, L2.iList, L2.tDisp, L2.tPairs, L2.tLstRg, L2.tRg1, L2.tRg2, Nk.rLenQ, Nk.rListQ, Nk.rTupleQ, L2.sDPut, L2.tBM, L2.tBM0, L2.tTup, L2.tLst, Nk.szN, Nat.reduceLeDiff, L2.tYes, L2.wipe, L2.start, L2.cxOf, List.map_cons, List.map_nil, List.cons_append, List.nil_append, List.append_nil, List.length_cons, List.length_nil, List.replicate, Nat.sub_self, Nat.zero_add, Nat.reduceAdd, Nat.reduceSub, List.set_cons_zero, List.set_cons_succ, List.getElem?_cons_zero, List.getElem?_cons_succ, Option.some.injEq, exists_and_left, exists_eq_left', exists_eq_left, L2.V.int.injEq, L2.V.bl.injEq, L2.V.str.injEq, L2.V.ref.injEq, true_and, and_true, decide_eq_true_eq, Bool.not_true, Bool.not_false, if_true, if_false, Bool.false_eq_true, reduceIte, List.cons.injEq, reduceCtorEq, decide_true, decide_false, decide_eq_false_iff_not, Bool.not_eq_true', Bool.not_not]))
namespace Nk
open PySem L2
section
variable {P : Program} {w : World} {K : PySem.W.Frag} {mg : Str → Option Value} {base : Heap}
abbrev nm_is_number : List Str := ["thing", "least", "most"]
abbrev pm_is_number : List Str := ["thing", "least", "most"]
abbrev lv_is_number : Nat := 1
theorem sc_is_number : FnScope nm_is_number pm_is_number (defScope s_is_number) := ⟨rfl, rfl, rfl, by decide +kernel, rfl, by decide +kernel, by decide +kernel⟩
def sp_is_number (K : PySem.W.Frag) : Sp := fun vs H Q _ => ∃ (x : V) (n : String) (lo : Int) (y : V), vs = [x, .int lo, y] ∧ Thing K H x n ∧ (∀ i, x = .int i → ∃ hi, y = .int hi) ∧ Q (.bl (isNumV x lo y)) H
theorem f_is_number (T : Txt K mg) : Fk P w K mg base CX0 lv_is_number "is_number" pm_is_number (sp_is_number K) := by
  obtain ⟨f, fd, F, g, b⟩ := T.d_is_number.ex
  refine ⟨f, fd, g, F.kp, b, F.ok sc_is_number (fun vs H Q E h => ?_) (fun cdv A outer s H vs Q E hr h => ?_)⟩
  · obtain ⟨x, n, lo, y, rfl, _⟩ := h; rfl
  · obtain ⟨x, n, lo, y, rfl, hx, hy, q⟩ := h
    refine ⟨_, (pss_one (ps_ret (pe_and (pe_callB call_isi (by rfl) T.b_isinstance (by decide +kernel) (pa_cons (pv 0) (pa_cons (pe_bltn (v := .ty "int") (by rfl) T.b_int (by decide +kernel) rfl) pa_nil))) (pe_and (pe_not (pe_callB call_isi (by rfl) T.b_isinstance (by decide +kernel) (pa_cons (pv 0) (pa_cons (pe_bltn (v := .ty "bool") (by rfl) T.b_bool (by decide +kernel) rfl) pa_nil)))) (pe_one (pe_chain op_le op_le (pv 1) (pv 0) (pv 2))))))), ?_⟩
    walk_at "rd"
    refine isi_thing hx (by decide) ?_
    cases hx with
    | int i =>
      obtain ⟨hi, rfl⟩ := hy i rfl
      simp only [show isA "int" "int" = true from by decide]
      walk_at "rd"
      refine isi_thing (.int i) (by decide) ?_
      simp only [show isA "int" "bool" = false from by decide]
      walk_at "rd"
      simp only [isNumV] at q
      by_cases c : lo ≤ i
      · simpa [c] using q
      · simpa [c] using q
    | bl i =>
      simp only [show isA "bool" "int" = true from by decide]
      walk_at "rd"
      refine isi_thing (.bl i) (by decide) ?_
      simp only [show isA "bool" "bool" = true from by decide]
      walk_at "rd"
      exact q
    | _ => exact ⟨false, rfl, q⟩
/-- whether a thing is rounds -/
def isRoundsV (H : Hp) (x : V) : Bool := match x with
  | .ref a => match H a with
    | some (.tup xs) => decide (1 ≤ xs.length) && decide (xs.length ≤ 12) && xs.all fun y => isNumV y 1 (.int 31)
    | _ => false
  | _ => false
/-- a thing, and what is in it if it is a tuple -/
def Thing2 (K : PySem.W.Frag) (H : Hp) (x : V) : Prop := (∃ n, Thing K H x n) ∧ ∀ a xs, x = .ref a → H a = some (.tup xs) → xs.length ≤ 100000 ∧ ∀ y ∈ xs, ∃ m, Thing K H y m
abbrev nm_is_rounds : List Str := ["thing", "one"]
abbrev pm_is_rounds : List Str := ["thing"]
abbrev lv_is_rounds : Nat := 2
theorem sc_is_rounds : FnScope nm_is_rounds pm_is_rounds (defScope s_is_rounds) := ⟨rfl, rfl, rfl, by decide +kernel, rfl, by decide +kernel, by decide +kernel⟩
def sp_is_rounds (K : PySem.W.Frag) : Sp := fun vs H Q _ => ∃ (x : V), vs = [x] ∧ Thing2 K H x ∧ ∀ H', Same H H' → Q (.bl (isRoundsV H x)) H'
theorem f_is_rounds (T : Txt K mg) : Fk P w K mg base CX0 lv_is_rounds "is_rounds" pm_is_rounds (sp_is_rounds K) := by
  obtain ⟨f, fd, F, g, b⟩ := T.d_is_rounds.ex
  refine ⟨f, fd, g, F.kp, b, F.ok sc_is_rounds (fun vs H Q E h => ?_) (fun cdv A outer s H vs Q E hr h => ?_)⟩
  · obtain ⟨x, rfl, _⟩ := h; rfl
  · obtain ⟨x, rfl, ⟨⟨n, hx⟩, hin⟩, q⟩ := h
    refine ⟨_, (pss_cons (ps_if (PW.pt (pw_or (pt_not (pt_val (pe_callB call_isi (by rfl) T.b_isinstance (by decide +kernel) (pa_cons (pv 0) (pa_cons (pe_bltn (v := .ty "tuple") (by rfl) T.b_tuple (by decide +kernel) rfl) pa_nil))))) (pw_or1 (pt_not (pt_chain op_le op_le pe_int (pe_callB call_len_seq (by rfl) T.b_len PySem.boot_len (pa_cons (pv 0) pa_nil)) pe_int))))) (pss_one (ps_ret pe_bl)) pss_nil)
      (pss_one (ps_ret (pe_callB (cr_all rfl) (by rfl) T.b_all (by decide +kernel) (pa_cons (pe_lc (own := [("one", 1)]) (g := gName 1) (tt := tYes) (by rfl) sc_is_rounds.nd (pi_tup (pv 0)) (blkOk_by (own := [("one", 1)]) (N := nm_is_rounds) (sc := defScope s_is_rounds) (by decide +kernel)) (fun _ _ _ _ _ => (pg_name (i := 1) sc_is_rounds.nd rfl (Or.inl rfl))) (fun _ _ _ _ _ => pts_nil) (fun _ _ _ _ _ => (pe_fn (f_is_number T) (hr.mono (by decide)) (by rfl) pass0 (pa_cons (pv 1) (pa_cons pe_int (pa_cons pe_int pa_nil)))))) pa_nil))))), ?_⟩
    walk_at "rd"
    refine isi_thing hx (by decide) ?_
    cases hx with
    | @tup a xs ha =>
      obtain ⟨hz, hth⟩ := hin a xs rfl ha
      simp only [show isA "tuple" "tuple" = true from by decide]
      walk_at "rd"
      refine ⟨xs, .inr (sqT ha), ?_⟩
      have e0 : isRoundsV H (.ref a) = (decide (1 ≤ xs.length) && decide (xs.length ≤ 12) && xs.all fun y => isNumV y 1 (.int 31)) := by
        simp only [isRoundsV, ha]
      rw [e0] at q
      by_cases c1 : 1 ≤ xs.length
      · by_cases c2 : xs.length ≤ 12
        · have d1 : (1 : Int) ≤ (xs.length : Int) := by omega
          have d2 : (xs.length : Int) ≤ 12 := by omega
          simp only [d1, d2]
          walk_at "rd"
          refine ⟨_, rfl, a, rfl, ⟨xs, sqT ha⟩, fun D hD => ?_⟩
          refine lcT hD (sqT ha) (fun i => (xs.take i).map fun y => .bl (isNumV y 1 (.int 31))) rfl (fun i y H2 hy p => ?_) (fun H2 s2 hD2 => ?_)
          · walk_at "rd"
            obtain ⟨m, hm⟩ := hth y (mem_of_get hy)
            refine ⟨y, m, 1, .int 31, rfl, Thing.same p.same hm, fun _ _ => ⟨31, rfl⟩, ?_⟩
            exact p.push hD (by simp; omega) (Same.refl _) (map_take_next _ hy)
          · refine ⟨D, xs.map fun y => isNumV y 1 (.int 31), rfl, ?_, ?_⟩
            · rw [List.take_length] at hD2
              rw [List.map_map]
              exact sqL hD2
            · have := q H2 s2
              simpa [c1, c2, List.all_map, Function.comp_def] using this
        · have d1 : (1 : Int) ≤ (xs.length : Int) := by omega
          have d2 : ¬ (xs.length : Int) ≤ 12 := by omega
          simp only [d1, d2]
          walk_at "rd"
          simpa [c2] using q H (Same.refl H)
      · have d1 : ¬ (1 : Int) ≤ (xs.length : Int) := by omega
        simp only [d1]
        walk_at "rd"
        simpa [c1] using q H (Same.refl H)
    | _ => exact ⟨false, by rfl, by simpa [isRoundsV, *] using q H (Same.refl H)⟩
/-- rounds as a tuple that stands -/
structure RndsAt (H : Hp) (a : Addr) (rs : List Int) : Prop where
  at_ : H a = some (.tup (rs.map V.int))
  ok : Rnds rs
  le : ∀ r ∈ rs, r ≤ 31
  ln : rs.length ≤ 12
theorem RndsAt.same {H H' : Hp} {a : Addr} {rs : List Int} (h : RndsAt H a rs) (s : Same H H') : RndsAt H' a rs := ⟨s _ _ h.at_, h.ok, h.le, h.ln⟩
theorem RndsAt.but {H H' : Hp} {a t : Addr} {rs : List Int} {l : List V} (h : RndsAt H a rs) (s : But t H H') (ht : H t = some (.lst l)) : RndsAt H' a rs := ⟨s _ _ h.at_ (ne_of h.at_ ht (by intro z; cases z)), h.ok, h.le, h.ln⟩
theorem RndsAt.thing {H : Hp} {a : Addr} {rs : List Int} (h : RndsAt H a rs) : Thing2 K H (.ref a) := by
  refine ⟨⟨_, .tup h.at_⟩, fun b xs e hb => ?_⟩
  cases e
  rw [h.at_] at hb
  cases hb
  refine ⟨by have := h.ln; simp; omega, fun y hy => ?_⟩
  obtain ⟨i, _, rfl⟩ := List.mem_map.mp hy
  exact ⟨_, .int i⟩
theorem RndsAt.is {H : Hp} {a : Addr} {rs : List Int} (h : RndsAt H a rs) : isRoundsV H (.ref a) = true := by
  have h1 := h.ok.len
  have h2 := h.ln
  have h3 : rs.all (fun y => isNumV (V.int y) 1 (V.int 31)) = true := by
    rw [List.all_eq_true]
    intro y hy
    simp [isNumV, h.ok.pos y hy, h.le y hy]
  simp only [isRoundsV, h.at_, List.length_map, List.all_map, Function.comp_def, h3, Bool.and_true, Bool.and_eq_true, decide_eq_true_eq]
  omega
theorem sum_le31 : ∀ {rs : List Int}, (∀ r ∈ rs, r ≤ 31) → rs.sum ≤ 31 * rs.length
  | [], _ => by simp
  | r :: rs, h => by
    have h1 := h r List.mem_cons_self
    have h2 := sum_le31 (rs := rs) fun x hx => h x (List.mem_cons_of_mem _ hx)
    simp only [List.sum_cons, List.length_cons]
    push_cast
    omega
theorem RndsAt.sum_le {H : Hp} {a : Addr} {rs : List Int} (h : RndsAt H a rs) : rs.sum ≤ 372 := by
  have := sum_le31 h.le
  have := h.ln
  omega
abbrev nm_number_of : List Str := ["rounds", "night", "whole", "found", "left", "long"]
abbrev pm_number_of : List Str := ["rounds", "night"]
abbrev lv_number_of : Nat := 1
theorem sc_number_of : FnScope nm_number_of pm_number_of (defScope s_number_of) := ⟨rfl, rfl, rfl, by decide +kernel, rfl, by decide +kernel, by decide +kernel⟩
def sp_number_of : Sp := fun vs H Q _ => ∃ (a : Addr) (rs : List Int) (n : Int), vs = [.ref a, .int n] ∧ RndsAt H a rs ∧ Q (.int (numOf rs n)) H
def iv_number_of (a : Addr) (rs : List Int) (n : Int) (H : Hp) (i : Nat) (σ : L2.St) (H' : Hp) : Prop := H' = H ∧ ∃ (fo le : Int) (v : Option V), σ = [some (.ref a), some (.int n), some (.int rs.sum), some (.int fo), some (.int le), v] ∧ walkR (rs.drop i) le fo = numOf rs n
theorem f_number_of (T : Txt K mg) : Fk P w K mg base CX0 lv_number_of "number_of" pm_number_of sp_number_of := by
  obtain ⟨f, fd, F, g, b⟩ := T.d_number_of.ex
  refine ⟨f, fd, g, F.kp, b, F.ok sc_number_of (fun vs H Q E h => ?_) (fun cdv A outer s H vs Q E hr h => ?_)⟩
  · obtain ⟨a, rs, n, rfl, _⟩ := h; rfl
  · obtain ⟨a, rs, n, rfl, ha, q⟩ := h
    refine ⟨_, (pss_cons (ps_set (i := 2) sc_number_of.nd rfl (.inl rfl) (pe_callB (cr_sumT rfl) (by rfl) T.b_sum (by decide +kernel) (pa_cons (pv 0) pa_nil)))
      (pss_cons (ps_set (i := 3) sc_number_of.nd rfl (.inl rfl) (pe_op op_mul (pe_op op_fdiv (pv 1) (pv 2)) (pe_callB call_len_seq (by rfl) T.b_len PySem.boot_len (pa_cons (pv 0) pa_nil))))
      (pss_cons (ps_set (i := 4) sc_number_of.nd rfl (.inl rfl) (pe_op op_mod (pv 1) (pv 2)))
      (pss_cons (ps_for PassesOwn.never rfl (pi_tup (pv 0)) (pg_name (i := 5) sc_number_of.nd rfl (Or.inl rfl)) (pss_cons (ps_if (pt_cmpR op_lt (pv 4) (pv 5) (nomark _)) (pss_one (ps_ret (pv 3))) pss_nil)
      (pss_cons (ps_set (i := 4) sc_number_of.nd rfl (.inl rfl) (pe_op op_sub (pv 4) (pv 5)))
      (pss_one (ps_set (i := 3) sc_number_of.nd rfl (.inl rfl) (pe_op op_add (pv 3) pe_int))))))
      (pss_one (ps_ret (pv 3))))))), ?_⟩
    walk_at "rd"
    have hs := ha.ok.sum
    have hs' := ha.sum_le
    have hl := ha.ln
    refine ⟨a, rs, rfl, sqT ha.at_, ?_⟩
    walk_at "rd"
    refine ⟨⟨hs, by omega⟩, rs.map V.int, .inr (sqT ha.at_), .inr ⟨by simp; omega, by simp; omega⟩, hs, ?_⟩
    refine ⟨_, rfl, a, rfl, ⟨_, sqT ha.at_⟩, for_tup (K := K) (a := a) (xs := rs.map V.int) (iv_number_of a rs n H)
      ⟨rfl, _, _, _, rfl, by simp [numOf]⟩ (fun i σ H' _ p => by rw [p.1]; exact sqT ha.at_) ?_ ?_⟩
    · rintro i x σ H' hi ⟨rfl, fo, le, v, rfl, hw⟩
      rw [List.getElem?_map] at hi
      cases e : rs[i]? with
      | none => rw [e] at hi; cases hi
      | some r =>
        rw [e] at hi
        cases hi
        have hlt := lt_of_get e
        have ed : rs.drop i = r :: rs.drop (i + 1) := by
          rw [List.drop_eq_getElem_cons hlt]
          rw [(List.getElem?_eq_some_iff.mp e).2]
        rw [ed] at hw
        unfold walkR at hw
        walk_at "rd"
        by_cases c : le < r
        · rw [if_pos c] at hw
          rw [if_pos c, hw]
          exact q
        · rw [if_neg c] at hw
          rw [if_neg c]
          exact ⟨rfl, _, _, _, rfl, hw⟩
    · rintro σ H' ⟨rfl, fo, le, v, rfl, hw⟩
      rw [List.length_map, List.drop_length] at hw
      walk_at "rd"
      unfold walkR at hw
      rw [hw]
      exact q
theorem isNum_ok {n : Int} (h0 : 0 ≤ n) (h1 : n ≤ 1000000000) : isNumV (.int n) 0 (.int 1000000000) = true := by simp [isNumV, h0, h1]
end
end Nk
namespace Nk
open PySem L2
section
variable {P : Program} {w : World} {K : PySem.W.Frag} {mg : Str → Option Value} {base : Heap}
/-- the script at a and the town at t: c draws so far -/
structure Tn (K : PySem.W.Frag) (H : Hp) (a t : Addr) (ns : List Int) (c : Nat) : Prop where
  scr : SqN K H a t (ns.map V.int)
  len : ns.length ≤ 63
  town : ∃ ls : List Int, ls.length = ns.length ∧ H t = some (.lst (V.int c :: ls.map V.int))
theorem Tn.same {H H' : Hp} {a t : Addr} {ns : List Int} {c : Nat} (h : Tn K H a t ns c) (s : Same H H') : Tn K H' a t ns c := by
  obtain ⟨ls, e, ht⟩ := h.town
  exact ⟨h.scr.same s, h.len, ls, e, s _ _ ht⟩
theorem Tn.lst {H : Hp} {a t : Addr} {ns : List Int} {c : Nat} (h : Tn K H a t ns c) : ∃ l, H t = some (.lst l) := by
  obtain ⟨ls, e, ht⟩ := h.town
  exact ⟨_, ht⟩
theorem Tn.some_ {H : Hp} {a t : Addr} {ns : List Int} {c : Nat} (h : Tn K H a t ns c) {p : Addr} (hp : H p = none) : p ≠ t := by
  obtain ⟨l, hl⟩ := h.lst
  exact (ne_of_none hl hp).symm
/-- a tuple stays while the town changes -/
theorem Tn.tup {H H' : Hp} {a t p : Addr} {ns : List Int} {c : Nat} {xs : List V} (h : Tn K H a t ns c) (b : But t H H') (hp : H p = some (.tup xs)) : H' p = some (.tup xs) := by
  obtain ⟨l, hl⟩ := h.lst
  exact b _ _ hp (ne_of hp hl (by intro z; cases z))
/-- an object that was made since may change -/
theorem Tn.app {H H' : Hp} {a t p : Addr} {ns : List Int} {c c0 : Nat} {o : HO} (h : Tn K H' a t ns c) (h0 : Tn K H a t ns c0) (hp : H p = none) (hpt : p ≠ t) : Tn K (upd H' p o) a t ns c := by
  obtain ⟨ls, e1, e2⟩ := h.town
  exact ⟨h.scr.app h0.scr hp, h.len, ls, e1, by rw [upd_ne hpt.symm]; exact e2⟩
theorem But.app {H H' : Hp} {t p : Addr} {o : HO} (b : But t H H') (hp : H p = none) : But t H (L2.upd H' p o) := fun z x hz hzt => by
  rw [upd_ne (ne_of_none hz hp)]
  exact b _ _ hz hzt
theorem But.free {H H' : Hp} {t p : Addr} (b : But t H H') (hp : H' p = none) (hpt : p ≠ t) : H p = none := by
  cases e : H p with
  | none => rfl
  | some o => rw [b _ _ e hpt] at hp; cases hp
abbrev nm__law_town : List Str := ["script"]
abbrev pm__law_town : List Str := ["script"]
abbrev lv__law_town : Nat := 1
theorem sc__law_town : FnScope nm__law_town pm__law_town (defScope s__law_town) := ⟨rfl, rfl, rfl, by decide +kernel, rfl, by decide +kernel, by decide +kernel⟩
def sp__law_town (K : PySem.W.Frag) : Sp := fun vs H Q _ => ∃ (a : Addr) (ns : List Int), vs = [.ref a] ∧ SqL K H a (ns.map V.int) ∧ ns.length ≤ 63 ∧ ∀ H' t, Same H H' → Tn K H' a t ns 0 → H t = none → Q (.ref t) H'
theorem f__law_town (T : Txt K mg) : Fk P w K mg base CX0 lv__law_town "_law_town" pm__law_town (sp__law_town K) := by
  obtain ⟨f, fd, F, g, b⟩ := T.d__law_town.ex
  refine ⟨f, fd, g, F.kp, b, F.ok sc__law_town (fun vs H Q E h => ?_) (fun cdv A outer s H vs Q E hr h => ?_)⟩
  · obtain ⟨a, ns, rfl, _⟩ := h; rfl
  · obtain ⟨a, ns, rfl, hS, hl, q⟩ := h
    refine ⟨_, (pss_one (ps_ret (pe_op op_cat (pe_lst (pa_cons pe_int pa_nil)) (pe_callTy call_list_of (by rfl) T.b_list (by decide +kernel) (pa_cons (pv 0) pa_nil))))), ?_⟩
    walk_at "rd"
    intro p hp
    have s1 : Same H (upd H p (.lst [.int 0])) := same_upd hp
    refine ⟨ns.map V.int, .inl (s1.seq hS), fun l hl2 => ?_⟩
    have npl : p ≠ l := fun e => by rw [← e, upd_same] at hl2; cases hl2
    have s2 := s1.trans (same_upd (o := .lst (ns.map V.int)) hl2)
    refine ⟨p, l, _, _, rfl, rfl, by rw [upd_ne npl]; exact upd_same, upd_same, sz (by simp; omega), fun t ht => ?_⟩
    have hH : H t = none := s2.free ht
    exact q _ t (s2.trans (same_upd ht)) ⟨(SqN.new (s2.seq hS) ht).same (same_upd ht), hl, ns, rfl, upd_same⟩ hH
abbrev nm__law_draw : List Str := ["script", "town", "many", "at", "left", "number"]
abbrev pm__law_draw : List Str := ["script", "town", "many"]
abbrev lv__law_draw : Nat := 1
theorem sc__law_draw : FnScope nm__law_draw pm__law_draw (defScope s__law_draw) := ⟨rfl, rfl, rfl, by decide +kernel, rfl, by decide +kernel, by decide +kernel⟩
def sp__law_draw (K : PySem.W.Frag) : Sp := fun vs H Q _ => ∃ (a t : Addr) (ns : List Int) (c : Nat) (many : Int), vs = [.ref a, .ref t, .int many] ∧ Tn K H a t ns c ∧ c < 1000000000 ∧ 0 < many ∧ many < 1073741824 ∧
  ∀ (d : Int) (H' : Hp), 0 ≤ d → d < many → Tn K H' a t ns (c + 1) → But t H H' → Q (.int d) H'
theorem f__law_draw (T : Txt K mg) : Fk P w K mg base CX0 lv__law_draw "_law_draw" pm__law_draw (sp__law_draw K) := by
  obtain ⟨f, fd, F, g, b⟩ := T.d__law_draw.ex
  refine ⟨f, fd, g, F.kp, b, F.ok sc__law_draw (fun vs H Q E h => ?_) (fun cdv A outer s H vs Q E hr h => ?_)⟩
  · obtain ⟨a, t, ns, c, many, rfl, _⟩ := h; rfl
  · obtain ⟨a, t, ns, c, many, rfl, hT, hc, hm0, hm1, q⟩ := h
    refine ⟨_, (pss_cons (ps_asg (pe_op op_add (pe_ix ix_list (pv 1) pe_int (fun _ _ => rfl)) pe_int) (pg_sub (pv 1) pe_int set_list))
      (pss_cons (ps_if (pt_cmpR (op_eqD hr.units) (pv 0) (pe_lst pa_nil) (nomark _)) (pss_one (ps_ret (pe_op op_mod (pe_op op_fdiv (pe_op op_mul (pe_op op_mul (pe_ix ix_list (pv 1) pe_int (fun _ _ => rfl)) (pe_ix ix_list (pv 1) pe_int (fun _ _ => rfl))) pe_int) pe_int) (pv 2)))) pss_nil)
      (pss_cons (ps_set (i := 3) sc__law_draw.nd rfl (.inl rfl) (pe_op op_mod (pe_ix ix_list (pv 1) pe_int (fun _ _ => rfl)) (pe_callB call_len_seq (by rfl) T.b_len PySem.boot_len (pa_cons (pv 0) pa_nil))))
      (pss_cons (ps_set (i := 4) sc__law_draw.nd rfl (.inl rfl) (pe_ix ix_list (pv 1) (pe_op op_add pe_int (pv 3)) (fun _ _ => rfl)))
      (pss_cons (ps_if (PW.pt (pw_and (pt_cmpR op_ge (pe_ix ix_list (pv 0) (pv 3) (fun _ _ => rfl)) (pe_op op_pow pe_int pe_int) (nomark _)) (pw_and1 (pt_cmpR op_gt (pv 4) pe_int (nomark _))))) (pss_cons (ps_asg (pe_op op_fdiv (pv 4) (pv 2)) (pg_sub (pv 1) (pe_op op_add pe_int (pv 3)) set_list))
      (pss_one (ps_ret (pe_op op_mod (pv 4) (pv 2))))) pss_nil)
      (pss_cons (ps_set (i := 5) sc__law_draw.nd rfl (.inl rfl) (pe_op op_mod (pe_op op_add (pe_ix ix_list (pv 0) (pv 3) (fun _ _ => rfl)) (pe_op op_mul pe_int (pe_ix ix_list (pv 1) pe_int (fun _ _ => rfl)))) pe_int))
      (pss_cons (ps_set (i := 5) sc__law_draw.nd rfl (.inl rfl) (pe_op op_mod (pe_op op_pow (pv 5) pe_int) pe_int))
      (pss_one (ps_ret (pe_op op_mod (pe_op op_fdiv (pe_op op_mod (pe_op op_add (pe_op op_mul (pe_op op_fdiv (pv 5) pe_int) pe_int) (pv 5)) pe_int) pe_int) (pv 2))))))))))), ?_⟩
    walk_at "rd"
    obtain ⟨ls, el, ht⟩ := hT.town
    refine ixL (j := 0) (sqL ht) rfl rfl ?_
    walk_at "rd"
    refine setL (j := 0) ht rfl (by simp) ?_
    intro p hp
    have hpt : t ≠ p := fun e => by rw [← e, upd_same] at hp; cases hp
    have b1 : But t H (upd (upd H t (.lst ((V.int c :: ls.map V.int).set 0 (V.int (↑c + 1))))) p (.lst [])) := But.thenS But.upd (same_upd hp)
    have hN1 := hT.scr.but b1
    have hS1 := hN1.l
    have ht1 : (upd (upd H t (.lst ((V.int c :: ls.map V.int).set 0 (V.int (↑c + 1))))) p (.lst [])) t = some (.lst (V.int ((c + 1 : Nat) : Int) :: ls.map V.int)) := by
      rw [upd_ne hpt, upd_same]; rfl
    have hp1 : (upd (upd H t (.lst ((V.int c :: ls.map V.int).set 0 (V.int (↑c + 1))))) p (.lst [])) p = some (.lst (([] : List Int).map V.int)) := upd_same
    revert b1 hN1 hS1 ht1 hp1
    generalize upd (upd H t (.lst ((V.int c :: ls.map V.int).set 0 (V.int (↑c + 1))))) p (.lst []) = H1
    intro b1 hN1 hS1 ht1 hp1
    have T1 : Tn K H1 a t ns (c + 1) := ⟨hN1, hT.len, ls, el, ht1⟩
    have hC : ((c + 1 : Nat) : Int) < 2 ^ 62 := by omega
    refine eqD (dp_LI hS1) (dp_LI (sqL hp1)) (gd_dLI (k := 0) _) (gd_dLI (k := 0) _) (fun e => ?_) (fun e => ?_)
    · walk_at "rd"
      refine ixL (j := 0) (sqL ht1) rfl rfl ?_
      refine ixL (j := 0) (sqL ht1) rfl rfl ?_
      walk_at "rd"
      refine ⟨.inl ⟨by omega, by omega⟩, .inr ⟨by decide, by decide⟩, ⟨by decide, by decide⟩, hm0, ?_⟩
      exact q _ H1 (Int.emod_nonneg _ (by omega)) (Int.emod_lt_of_pos _ hm0) T1 b1
    · have hne : ns ≠ [] := fun z => e (by rw [z])
      have hn0 : 0 < ns.length := List.length_pos_iff.mpr hne
      walk_at "rd"
      refine ixL (j := 0) (sqL ht1) rfl rfl ?_
      refine ⟨ns.map V.int, .inl hS1, ?_⟩
      rw [List.length_map]
      walk_at "rd"
      obtain ⟨j, hj, ej, _⟩ := emod_nat (k := ((c + 1 : Nat) : Int)) hn0
      rw [ej]
      refine ⟨by omega, ?_⟩
      have hlj : (V.int ((c + 1 : Nat) : Int) :: ls.map V.int)[j + 1]? = some (V.int (ls[j]'(by omega))) := by
        rw [List.getElem?_cons_succ, List.getElem?_map, List.getElem?_eq_getElem (by omega)]; rfl
      have hnj : (ns.map V.int)[j]? = some (V.int (ns[j]'hj)) := by
        rw [List.getElem?_map, List.getElem?_eq_getElem hj]; rfl
      refine ixL (j := j + 1) (sqL ht1) (by push_cast; omega) hlj ?_
      refine ixL (j := j) hS1 rfl hnj ?_
      have tail : rIxL K (.ref a) (.int (j : Int)) H1 fun x H2 => rIxL K (.ref t) (.int 0) H2 fun y H3 => ∃ x_3, y = V.int x_3 ∧ CMul 104729 x_3 ∧ ∃ i, x = V.int i ∧ 0 < (4294967291 : Int) ∧ CPow ((i + 104729 * x_3) % 4294967291) 5 ∧ 0 < (4294967279 : Int) ∧
          CDiv (((i + 104729 * x_3) % 4294967291) ^ Int.toNat 5 % 4294967279) 64 ∧ CMul (((i + 104729 * x_3) % 4294967291) ^ Int.toNat 5 % 4294967279 / 64) 69621 ∧ 0 < (4294967231 : Int) ∧
          CDiv ((((i + 104729 * x_3) % 4294967291) ^ Int.toNat 5 % 4294967279 / 64 * 69621 + ((i + 104729 * x_3) % 4294967291) ^ Int.toNat 5 % 4294967279) % 4294967231) 8 ∧ 0 < many ∧
          Q (.int ((((i + 104729 * x_3) % 4294967291) ^ Int.toNat 5 % 4294967279 / 64 * 69621 + ((i + 104729 * x_3) % 4294967291) ^ Int.toNat 5 % 4294967279) % 4294967231 / 8 % many)) H3 := by
        refine ixL (j := j) hS1 rfl hnj ?_
        refine ixL (j := 0) (sqL ht1) rfl rfl ?_
        have hp := Int.emod_nonneg (ns[j] + 104729 * ((c + 1 : Nat) : Int)) (show (4294967291 : Int) ≠ 0 by decide)
        have hq := Int.emod_lt_of_pos (ns[j] + 104729 * ((c + 1 : Nat) : Int)) (show (0 : Int) < 4294967291 by decide)
        refine ⟨_, rfl, .inl ⟨by decide, by decide⟩, _, rfl, by decide, ⟨by decide, by decide, by omega⟩, by decide, ⟨by decide, by decide⟩, .inr ⟨by decide, by decide⟩, by decide, ⟨by decide, by decide⟩, hm0, ?_⟩
        exact q _ H1 (Int.emod_nonneg _ (by omega)) (Int.emod_lt_of_pos _ hm0) T1 b1
      refine ⟨⟨by decide, by decide, by decide⟩, _, rfl, ?_⟩
      refine ite2 (fun c1 => ?_) (fun c1 => ?_)
      · refine ⟨_, rfl, ite2 (fun c2 => ?_) (fun c2 => ?_)⟩
        · refine ⟨_, rfl, ⟨hm0, hm1⟩, ?_⟩
          refine setL (j := j + 1) ht1 (by push_cast; omega) (by simp; omega) ?_
          refine ⟨_, rfl, hm0, ?_⟩
          refine q _ _ (Int.emod_nonneg _ (by omega)) (Int.emod_lt_of_pos _ hm0) ⟨hN1.but But.upd, hT.len, ls.set j (ls[j] / many), by rw [List.length_set]; exact el, ?_⟩ (b1.trans But.upd)
          rw [upd_same, List.set_cons_succ, List.map_set]
        · exact tail
      · exact tail
abbrev nm__law_pick : List Str := ["script", "town", "some"]
abbrev pm__law_pick : List Str := ["script", "town", "some"]
abbrev lv__law_pick : Nat := 2
theorem sc__law_pick : FnScope nm__law_pick pm__law_pick (defScope s__law_pick) := ⟨rfl, rfl, rfl, by decide +kernel, rfl, by decide +kernel, by decide +kernel⟩
def sp__law_pick (K : PySem.W.Frag) : Sp := fun vs H Q _ => ∃ (a t l : Addr) (ns : List Int) (c : Nat) (xs : List V), vs = [.ref a, .ref t, .ref l] ∧ Tn K H a t ns c ∧ c < 1000000000 ∧ H l = some (.lst xs) ∧ l ≠ t ∧ 0 < xs.length ∧ xs.length ≤ 100000 ∧
  ∀ (v : V) (H' : Hp), v ∈ xs → Tn K H' a t ns (c + 1) → But t H H' → Q v H'
theorem f__law_pick (T : Txt K mg) : Fk P w K mg base CX0 lv__law_pick "_law_pick" pm__law_pick (sp__law_pick K) := by
  obtain ⟨f, fd, F, g, b⟩ := T.d__law_pick.ex
  refine ⟨f, fd, g, F.kp, b, F.ok sc__law_pick (fun vs H Q E h => ?_) (fun cdv A outer s H vs Q E hr h => ?_)⟩
  · obtain ⟨a, t, l, ns, c, xs, rfl, _⟩ := h; rfl
  · obtain ⟨a, t, l, ns, c, xs, rfl, hT, hc, hl, hlt, h0, h1, q⟩ := h
    refine ⟨_, (pss_one (ps_ret (pe_ix ix_list (pv 2) (pe_fn (f__law_draw T) (hr.mono (by decide)) (by rfl) pass0 (pa_cons (pv 0) (pa_cons (pv 1) (pa_cons (pe_callB call_len_seq (by rfl) T.b_len PySem.boot_len (pa_cons (pv 2) pa_nil)) pa_nil)))) (fun _ _ => rfl)))), ?_⟩
    walk_at "rd"
    refine ⟨xs, .inl (sqL hl), a, t, ns, c, xs.length, rfl, hT, hc, by omega, by omega, fun d H' d0 d1 T' b' => ?_⟩
    have hd : d.toNat < xs.length := by omega
    exact ixL (j := d.toNat) (sqL (b' _ _ hl hlt)) (by omega) (List.getElem?_eq_getElem hd) (q _ H' (List.getElem_mem hd) T' b')
theorem pickI {H : Hp} {a t : Addr} {ns : List Int} {c : Nat} {Q : VK} {E : XK} (ks : List Int) (hT : Tn K H a t ns c) (hc : c < 1000000000) (q : ∀ k ∈ ks, ∀ H', Tn K H' a t ns (c + 1) → But t H H' → Q (.int k) H') (h0 : 0 < ks.length := by decide) (h1 : ks.length ≤ 100000 := by decide) :
    ∀ p, H p = none → sp__law_pick K [.ref a, .ref t, .ref p] (L2.upd H p (.lst (ks.map V.int))) Q E := by
  intro p hp
  refine ⟨a, t, p, ns, c, ks.map V.int, rfl, hT.same (same_upd hp), hc, upd_same, hT.some_ hp, by simpa using h0, by simpa using h1, fun v H' hv T' b' => ?_⟩
  obtain ⟨k, hk, rfl⟩ := List.mem_map.mp hv
  exact q k hk H' T' (Same.thenB (same_upd hp) b')
theorem pickV {H : Hp} {a t : Addr} {ns : List Int} {c : Nat} {Q : VK} {E : XK} {xs : List V} (hT : Tn K H a t ns c) (hc : c < 1000000000) (h0 : 0 < xs.length) (h1 : xs.length ≤ 100000) (q : ∀ v ∈ xs, ∀ H', Tn K H' a t ns (c + 1) → But t H H' → Q v H') :
    ∀ p, H p = none → sp__law_pick K [.ref a, .ref t, .ref p] (L2.upd H p (.lst xs)) Q E := by
  intro p hp
  exact ⟨a, t, p, ns, c, xs, rfl, hT.same (same_upd hp), hc, upd_same, hT.some_ hp, h0, h1, fun v H' hv T' b' => q v hv H' T' (Same.thenB (same_upd hp) b')⟩
abbrev nm__law_whole : List Str := ["thing"]
abbrev pm__law_whole : List Str := ["thing"]
abbrev lv__law_whole : Nat := 1
theorem sc__law_whole : FnScope nm__law_whole pm__law_whole (defScope s__law_whole) := ⟨rfl, rfl, rfl, by decide +kernel, rfl, by decide +kernel, by decide +kernel⟩
def sp__law_whole (K : PySem.W.Frag) : Sp := fun vs H Q _ => ∃ (x : V) (n : String), vs = [x] ∧ Thing K H x n ∧ Q (.bl (isWholeV x)) H
theorem f__law_whole (T : Txt K mg) : Fk P w K mg base CX0 lv__law_whole "_law_whole" pm__law_whole (sp__law_whole K) := by
  obtain ⟨f, fd, F, g, b⟩ := T.d__law_whole.ex
  refine ⟨f, fd, g, F.kp, b, F.ok sc__law_whole (fun vs H Q E h => ?_) (fun cdv A outer s H vs Q E hr h => ?_)⟩
  · obtain ⟨x, n, rfl, _⟩ := h; rfl
  · obtain ⟨x, n, rfl, hx, q⟩ := h
    refine ⟨_, (pss_one (ps_ret (pe_and (pe_callB call_isi (by rfl) T.b_isinstance (by decide +kernel) (pa_cons (pv 0) (pa_cons (pe_bltn (v := .ty "int") (by rfl) T.b_int (by decide +kernel) rfl) pa_nil))) (pe_one (pe_not (pe_callB call_isi (by rfl) T.b_isinstance (by decide +kernel) (pa_cons (pv 0) (pa_cons (pe_bltn (v := .ty "bool") (by rfl) T.b_bool (by decide +kernel) rfl) pa_nil)))))))), ?_⟩
    walk_at "rd"
    refine isi_thing hx (by decide) ?_
    cases hx with
    | int i =>
      refine ⟨true, rfl, ?_⟩
      walk_at "rd"
      exact isi_thing (.int i) (by decide) ⟨false, rfl, q⟩
    | bl i =>
      refine ⟨true, rfl, ?_⟩
      walk_at "rd"
      exact isi_thing (.bl i) (by decide) ⟨true, rfl, q⟩
    | _ => exact ⟨false, rfl, q⟩
end
end Nk
namespace Nk
open PySem L2
section
variable {P : Program} {w : World} {K : PySem.W.Frag} {mg : Str → Option Value} {base : Heap}
abbrev nm__law_wholes : List Str := ["thing", "one"]
abbrev pm__law_wholes : List Str := ["thing"]
abbrev lv__law_wholes : Nat := 2
theorem sc__law_wholes : FnScope nm__law_wholes pm__law_wholes (defScope s__law_wholes) := ⟨rfl, rfl, rfl, by decide +kernel, rfl, by decide +kernel, by decide +kernel⟩
def sp__law_wholes (K : PySem.W.Frag) : Sp := fun vs H Q _ => ∃ (a : Addr) (xs : List V), vs = [.ref a] ∧ H a = some (.lst xs) ∧ xs.length ≤ 1000 ∧ (∀ x ∈ xs, ∃ i, x = .int i) ∧ ∀ H', Same H H' → Q (.bl true) H'
theorem f__law_wholes (T : Txt K mg) : Fk P w K mg base CX0 lv__law_wholes "_law_wholes" pm__law_wholes (sp__law_wholes K) := by
  obtain ⟨f, fd, F, g, b⟩ := T.d__law_wholes.ex
  refine ⟨f, fd, g, F.kp, b, F.ok sc__law_wholes (fun vs H Q E h => ?_) (fun cdv A outer s H vs Q E hr h => ?_)⟩
  · obtain ⟨a, xs, rfl, _⟩ := h; rfl
  · obtain ⟨a, xs, rfl, ha, hz, hin, q⟩ := h
    refine ⟨_, (pss_one (ps_ret (pe_and (pe_callB call_isi (by rfl) T.b_isinstance (by decide +kernel) (pa_cons (pv 0) (pa_cons (pe_bltn (v := .ty "list") (by rfl) T.b_list (by decide +kernel) rfl) pa_nil))) (pe_one (pe_cmpR (op_eqD hr.units) (pe_lc (own := [("one", 1)]) (g := gName 1) (by rfl) sc__law_wholes.nd (pi_list (pv 0)) (blkOk_by (own := [("one", 1)]) (N := nm__law_wholes) (sc := defScope s__law_wholes) (by decide +kernel)) (fun _ _ _ _ _ => (pg_name (i := 1) sc__law_wholes.nd rfl (Or.inl rfl))) (fun _ _ _ _ _ => (pts_one (pt_not (pt_val (pe_fn (f__law_whole T) (hr.mono (by decide)) (by rfl) pass0 (pa_cons (pv 1) pa_nil)))))) (fun _ _ _ _ _ => (pv 1))) (pe_lst pa_nil) (nomark _)))))), ?_⟩
    walk_at "rd"
    refine isi_thing (.lst ha) (by decide) ⟨true, rfl, ?_⟩
    walk_at "rd"
    refine ⟨_, rfl, a, rfl, ⟨xs, sqL ha⟩, fun D hD => ?_⟩
    refine lcL hD (sqL ha) (fun _ => []) rfl (fun i y H2 hy p => ?_) (fun H2 s2 hD2 => ?_)
    · obtain ⟨z, rfl⟩ := hin y (mem_of_get hy)
      walk_at "rd"
      refine ⟨.int z, _, rfl, .int z, ?_⟩
      show ∃ c, _
      exact ⟨true, rfl, p.skip (Same.refl _) rfl⟩
    · walk_at "rd"
      intro p hp
      have s3 := same_upd (o := .lst []) hp
      exact eqD (d := dLI []) (e := dLI []) (dp_LI (sqL (s3 _ _ hD2))) (dp_LI (sqL upd_same)) (gd_dLI (k := 0) _) (gd_dLI (k := 0) _) (fun _ => q _ (s2.trans s3)) (fun h => absurd rfl h)
end
end Nk
namespace Nk
open PySem L2
section
variable {P : Program} {w : World} {K : PySem.W.Frag} {mg : Str → Option Value} {base : Heap}
end
end Nk
namespace Nk
open PySem L2
section
variable {P : Program} {w : World} {K : PySem.W.Frag} {mg : Str → Option Value} {base : Heap}
/-- things, down to a depth -/
def DT (K : PySem.W.Frag) (H : Hp) : Nat → V → Prop
  | 0, x => ∃ n, Thing K H x n
  | k + 1, x => (∃ n, Thing K H x n) ∧ ∀ a xs, x = .ref a → (H a = some (.tup xs) ∨ H a = some (.lst xs)) → xs.length ≤ 100000 ∧ ∀ y ∈ xs, DT K H k y
theorem DT.th {H : Hp} {k : Nat} {x : V} (h : DT K H k x) : ∃ n, Thing K H x n := by
  cases k with
  | zero => exact h
  | succ k => exact h.1
theorem DT.same {H H' : Hp} (s : Same H H') : ∀ {k : Nat} {x : V}, DT K H k x → DT K H' k x
  | 0, _, ⟨n, h⟩ => ⟨n, Thing.same s h⟩
  | k + 1, x, ⟨⟨n, h⟩, hi⟩ => by
    refine ⟨⟨n, Thing.same s h⟩, fun a xs e ha => ?_⟩
    have back : H a = some (.tup xs) ∨ H a = some (.lst xs) := by
      subst e
      cases h with
      | lst h => have := s _ _ h; rw [this] at ha; rcases ha with z | z <;> cases z; exact .inr h
      | tup h => have := s _ _ h; rw [this] at ha; rcases ha with z | z <;> cases z; exact .inl h
      | dic h => have := s _ _ h; rw [this] at ha; rcases ha with z | z <;> cases z
    obtain ⟨h1, h2⟩ := hi a xs e back
    exact ⟨h1, fun y hy => DT.same s (h2 y hy)⟩
theorem DT.t2 {H : Hp} {k : Nat} {x : V} (h : DT K H (k + 1) x) : Thing2 K H x :=
  ⟨h.1, fun a xs e ha => by
    obtain ⟨h1, h2⟩ := h.2 a xs e (.inl ha)
    exact ⟨h1, fun y hy => (h2 y hy).th⟩⟩
def isRuleV (H : Hp) (x : V) : Bool := match x with
  | .ref a => match H a with
    | some (.tup [r, m]) => isRoundsV H r && isNumV m 1 (.int 20)
    | _ => false
  | _ => false
def isRulesV (H : Hp) (x : V) : Bool := match x with
  | .ref a => match H a with
    | some (.tup xs) => decide (1 ≤ xs.length) && decide (xs.length ≤ 5) && xs.all (isRuleV H)
    | _ => false
  | _ => false
theorem isRoundsV_same {H H' : Hp} (s : Same H H') {x : V} {n : String} (h : Thing K H x n) : isRoundsV H' x = isRoundsV H x := by
  cases h with
  | lst h => simp only [isRoundsV, h, s _ _ h]
  | tup h => simp only [isRoundsV, h, s _ _ h]
  | dic h => simp only [isRoundsV, h, s _ _ h]
  | _ => rfl
theorem isRuleV_same {H H' : Hp} (s : Same H H') {x : V} (h : DT K H 1 x) : isRuleV H' x = isRuleV H x := by
  obtain ⟨⟨n, h⟩, hi⟩ := h
  cases h with
  | lst h => simp only [isRuleV, h, s _ _ h]
  | @tup a xs h =>
    obtain ⟨_, h2⟩ := hi a xs rfl (.inl h)
    simp only [isRuleV, h, s _ _ h]
    match xs, h2 with
    | [r, m], h2 =>
      obtain ⟨n', hr⟩ := (h2 r List.mem_cons_self).th
      simp only [isRoundsV_same s hr]
    | [], _ => rfl
    | [_], _ => rfl
    | _ :: _ :: _ :: _, _ => rfl
  | dic h => simp only [isRuleV, h, s _ _ h]
  | _ => rfl
/-- a rule that stands -/
def RuleAt (H : Hp) (x : V) (ru : List Int × Int) : Prop := ∃ (b r : Addr), x = .ref b ∧ H b = some (.tup [.ref r, .int ru.2]) ∧ RndsAt H r ru.1 ∧ 1 ≤ ru.2 ∧ ru.2 ≤ 20
theorem RuleAt.same {H H' : Hp} {x : V} {ru : List Int × Int} (h : RuleAt H x ru) (s : Same H H') : RuleAt H' x ru := by
  obtain ⟨b, r, e, hb, hr, h1, h2⟩ := h
  exact ⟨b, r, e, s _ _ hb, hr.same s, h1, h2⟩
theorem RuleAt.but {H H' : Hp} {t : Addr} {l : List V} {x : V} {ru : List Int × Int} (h : RuleAt H x ru) (s : But t H H') (ht : H t = some (.lst l)) : RuleAt H' x ru := by
  obtain ⟨b, r, e, hb, hr, h1, h2⟩ := h
  exact ⟨b, r, e, s _ _ hb (ne_of hb ht (by intro z; cases z)), hr.but s ht, h1, h2⟩
/-- rules that stand -/
structure RulesAt (H : Hp) (a : Addr) (rus : List (List Int × Int)) : Prop where
  ex : ∃ xs : List V, H a = some (.tup xs) ∧ xs.length = rus.length ∧ ∀ (i : Nat) x, xs[i]? = some x → ∃ ru, rus[i]? = some ru ∧ RuleAt H x ru
  l1 : 1 ≤ rus.length
  l5 : rus.length ≤ 5
theorem RulesAt.same {H H' : Hp} {a : Addr} {rus : List (List Int × Int)} (h : RulesAt H a rus) (s : Same H H') : RulesAt H' a rus := by
  obtain ⟨xs, ha, hl, hi⟩ := h.ex
  refine ⟨⟨xs, s _ _ ha, hl, fun i x hx => ?_⟩, h.l1, h.l5⟩
  obtain ⟨ru, e, r⟩ := hi i x hx
  exact ⟨ru, e, r.same s⟩
theorem RulesAt.but {H H' : Hp} {a t : Addr} {l : List V} {rus : List (List Int × Int)} (h : RulesAt H a rus) (s : But t H H') (ht : H t = some (.lst l)) : RulesAt H' a rus := by
  obtain ⟨xs, ha, hl, hi⟩ := h.ex
  refine ⟨⟨xs, s _ _ ha (ne_of ha ht (by intro z; cases z)), hl, fun i x hx => ?_⟩, h.l1, h.l5⟩
  obtain ⟨ru, e, r⟩ := hi i x hx
  exact ⟨ru, e, r.but s ht⟩
theorem RulesAt.rnds {H : Hp} {a : Addr} {rus : List (List Int × Int)} (h : RulesAt H a rus) : ∀ ru ∈ rus, Rnds ru.1 ∧ 1 ≤ ru.2 ∧ ru.2 ≤ 20 ∧ ru.1.length ≤ 12 ∧ ∀ r ∈ ru.1, r ≤ 31 := by
  intro ru hru
  obtain ⟨xs, ha, hl, hi⟩ := h.ex
  obtain ⟨i, hi1, e⟩ := List.mem_iff_getElem.mp hru
  have hx : xs[i]? = some (xs[i]'(by omega)) := List.getElem?_eq_getElem (by omega)
  obtain ⟨ru', e', b, r, _, _, R, h1, h2⟩ := hi i _ hx
  rw [List.getElem?_eq_getElem hi1, e] at e'
  cases e'
  exact ⟨R.ok, h1, h2, R.ln, R.le⟩
theorem RuleAt.thing {H : Hp} {x : V} {ru : List Int × Int} (h : RuleAt H x ru) : DT K H 2 x := by
  obtain ⟨b, r, rfl, hb, hr, h1, h2⟩ := h
  refine ⟨⟨_, .tup hb⟩, fun a xs e ha => ?_⟩
  cases e
  rw [hb] at ha
  rcases ha with z | z <;> cases z
  refine ⟨by simp, fun y hy => ?_⟩
  simp only [List.mem_cons, List.not_mem_nil, or_false] at hy
  rcases hy with rfl | rfl
  · refine ⟨⟨_, .tup hr.at_⟩, fun a xs e ha => ?_⟩
    cases e
    rw [hr.at_] at ha
    rcases ha with z | z <;> cases z
    refine ⟨by have := hr.ln; simp; omega, fun y hy => ?_⟩
    obtain ⟨i, _, rfl⟩ := List.mem_map.mp hy
    exact ⟨_, .int i⟩
  · exact ⟨⟨_, .int _⟩, fun a xs e ha => by cases e⟩
theorem RuleAt.is {H : Hp} {x : V} {ru : List Int × Int} (h : RuleAt H x ru) : isRuleV H x = true := by
  obtain ⟨b, r, rfl, hb, hr, h1, h2⟩ := h
  simp only [isRuleV, hb, hr.is, isNumV, h1, h2, decide_true, Bool.and_true]
theorem RulesAt.thing {H : Hp} {a : Addr} {rus : List (List Int × Int)} (h : RulesAt H a rus) : DT K H 3 (.ref a) := by
  obtain ⟨xs, ha, hl, hi⟩ := h.ex
  refine ⟨⟨_, .tup ha⟩, fun b ys e hb => ?_⟩
  cases e
  rw [ha] at hb
  rcases hb with z | z <;> cases z
  refine ⟨by have := h.l5; omega, fun y hy => ?_⟩
  obtain ⟨i, h1, e⟩ := List.mem_iff_getElem.mp hy
  obtain ⟨ru, _, r⟩ := hi i y (by rw [List.getElem?_eq_getElem h1, e])
  exact r.thing
theorem RulesAt.is {H : Hp} {a : Addr} {rus : List (List Int × Int)} (h : RulesAt H a rus) : isRulesV H (.ref a) = true := by
  obtain ⟨xs, ha, hl, hi⟩ := h.ex
  have h1 := h.l1
  have h5 := h.l5
  have h3 : xs.all (isRuleV H) = true := by
    rw [List.all_eq_true]
    intro y hy
    obtain ⟨i, h1, e⟩ := List.mem_iff_getElem.mp hy
    obtain ⟨ru, _, r⟩ := hi i y (by rw [List.getElem?_eq_getElem h1, e])
    exact r.is
  simp only [isRulesV, ha, h3, Bool.and_true, Bool.and_eq_true, decide_eq_true_eq]
  omega
abbrev nm_is_rule : List Str := ["thing"]
abbrev pm_is_rule : List Str := ["thing"]
abbrev lv_is_rule : Nat := 3
theorem sc_is_rule : FnScope nm_is_rule pm_is_rule (defScope s_is_rule) := ⟨rfl, rfl, rfl, by decide +kernel, rfl, by decide +kernel, by decide +kernel⟩
def sp_is_rule (K : PySem.W.Frag) : Sp := fun vs H Q _ => ∃ (x : V), vs = [x] ∧ DT K H 2 x ∧ ∀ H', Same H H' → Q (.bl (isRuleV H x)) H'
theorem f_is_rule (T : Txt K mg) : Fk P w K mg base CX0 lv_is_rule "is_rule" pm_is_rule (sp_is_rule K) := by
  obtain ⟨f, fd, F, g, b⟩ := T.d_is_rule.ex
  refine ⟨f, fd, g, F.kp, b, F.ok sc_is_rule (fun vs H Q E h => ?_) (fun cdv A outer s H vs Q E hr h => ?_)⟩
  · obtain ⟨x, rfl, _⟩ := h; rfl
  · obtain ⟨x, rfl, ⟨⟨n, hx⟩, hin⟩, q⟩ := h
    refine ⟨_, (pss_one (ps_ret (pe_and (pe_callB call_isi (by rfl) T.b_isinstance (by decide +kernel) (pa_cons (pv 0) (pa_cons (pe_bltn (v := .ty "tuple") (by rfl) T.b_tuple (by decide +kernel) rfl) pa_nil))) (pe_and (pe_cmpR op_eq (pe_callB call_len_seq (by rfl) T.b_len PySem.boot_len (pa_cons (pv 0) pa_nil)) pe_int (nomark _)) (pe_and (pe_fn (f_is_rounds T) (hr.mono (by decide)) (by rfl) pass0 (pa_cons (pe_ix ix_tup (pv 0) pe_int (fun _ _ => rfl)) pa_nil)) (pe_one (pe_fn (f_is_number T) (hr.mono (by decide)) (by rfl) pass0 (pa_cons (pe_ix ix_tup (pv 0) pe_int (fun _ _ => rfl)) (pa_cons pe_int (pa_cons pe_int pa_nil)))))))))), ?_⟩
    walk_at "rs"
    refine isi_thing hx (by decide) ?_
    cases hx with
    | @tup a xs ha =>
      obtain ⟨hz, hth⟩ := hin a xs rfl (.inl ha)
      refine ⟨true, rfl, ?_⟩
      walk_at "rs"
      refine ⟨xs, .inr (sqT ha), ?_⟩
      have qf := q H (Same.refl H)
      by_cases c : xs.length = 2
      · match xs, c with
        | [r, m], _ =>
          obtain ⟨mt, hm⟩ := (hth m (by simp)).th
          walk_at "rs"
          rw [if_pos (by decide)]
          refine ixT (j := 0) (sqT ha) rfl rfl ?_
          refine ⟨r, rfl, (hth r (by simp)).t2, fun H1 s1 => ?_⟩
          refine ⟨_, rfl, ?_⟩
          have q1 := q H1 s1
          simp only [isRuleV, ha] at q1
          cases e : isRoundsV H r with
          | false => rw [e] at q1; simpa using q1
          | true =>
            rw [e] at q1
            walk_at "rs"
            refine ixT (j := 1) (sqT (s1 _ _ ha)) rfl rfl ?_
            exact ⟨m, mt, 1, .int 20, rfl, Thing.same s1 hm, fun _ _ => ⟨_, rfl⟩, by simpa using q1⟩
      · rw [if_neg (by omega)]
        have e : isRuleV H (.ref a) = false := by
          simp only [isRuleV, ha]
          match xs, c with
          | [], _ => rfl
          | [_], _ => rfl
          | [_, _], c => exact absurd rfl c
          | _ :: _ :: _ :: _, _ => rfl
        rw [e] at qf
        exact qf
    | _ => exact ⟨false, by rfl, by simpa [isRuleV, *] using q H (Same.refl H)⟩
abbrev nm_look_rules : List Str := ["rules", "one"]
abbrev pm_look_rules : List Str := ["rules"]
abbrev lv_look_rules : Nat := 4
theorem sc_look_rules : FnScope nm_look_rules pm_look_rules (defScope s_look_rules) := ⟨rfl, rfl, rfl, by decide +kernel, rfl, by decide +kernel, by decide +kernel⟩
def sp_look_rules (K : PySem.W.Frag) (mg : Str → Option Value) : Sp := fun vs H Q E => ∃ (x : V), vs = [x] ∧ DT K H 3 x ∧ (isRulesV H x = true → ∀ H', Same H H' → Q .non H') ∧ (isRulesV H x = false → ∀ H', Same H H' → E (.ref (cls mg "BadRules")) none H')
theorem f_look_rules (T : Txt K mg) : Fk P w K mg base (L2.CX P w) lv_look_rules "look_rules" pm_look_rules (sp_look_rules K mg) := by
  obtain ⟨f, fd, F, g, b⟩ := T.d_look_rules.ex
  refine ⟨f, fd, g, F.kp, b, F.okX sc_look_rules (fun vs H Q E h => ?_) (fun cdv A outer s H vs Q E hr h => ?_)⟩
  · obtain ⟨x, rfl, _⟩ := h; rfl
  · obtain ⟨x, rfl, ⟨⟨n, hx⟩, hin⟩, q1, q2⟩ := h
    refine ⟨_, (pss_one (ps_if (PW.pt (pw_or (pt_not (pt_val (pe_callB call_isi (by rfl) T.b_isinstance (by decide +kernel) (pa_cons (pv 0) (pa_cons (pe_bltn (v := .ty "tuple") (by rfl) T.b_tuple (by decide +kernel) rfl) pa_nil))))) (pw_or (pt_not (pt_chain op_le op_le pe_int (pe_callB call_len_seq (by rfl) T.b_len PySem.boot_len (pa_cons (pv 0) pa_nil)) pe_int)) (pw_or1 (pt_not (pt_val (pe_callB (cr_all rfl) (by rfl) T.b_all (by decide +kernel) (pa_cons (pe_lc (own := [("one", 1)]) (g := gName 1) (tt := tYes) (by rfl) sc_look_rules.nd (pi_tup (pv 0)) (blkOk_by (own := [("one", 1)]) (N := nm_look_rules) (sc := defScope s_look_rules) (by decide +kernel)) (fun _ _ _ _ _ => (pg_name (i := 1) sc_look_rules.nd rfl (Or.inl rfl))) (fun _ _ _ _ _ => pts_nil) (fun _ _ _ _ _ => (pe_fn (f_is_rule T) (hr.mono (by decide)) (by rfl) pass0 (pa_cons (pv 1) pa_nil)))) pa_nil)))))))) (pss_one (ps_raise rfl (takes_of rfl rfl rfl rfl) (pmk_own PySem.F.excBase_RuntimeError T.x_BadRules.xP T.x_BadRules.gP T.x_BadRules.kP T.x_BadRules.rs rfl))) pss_nil)), ?_⟩
    walk_at "rs"
    refine isi_thing hx (by decide) ?_
    cases hx with
    | @tup a xs ha =>
      obtain ⟨hz, hth⟩ := hin a xs rfl (.inl ha)
      refine ⟨true, rfl, ?_⟩
      walk_at "rs"
      refine ⟨xs, .inr (sqT ha), ?_⟩
      have e0 : isRulesV H (.ref a) = (decide (1 ≤ xs.length) && decide (xs.length ≤ 5) && xs.all (isRuleV H)) := by
        simp only [isRulesV, ha]
      rw [e0] at q1 q2
      by_cases c1 : 1 ≤ xs.length
      · rw [if_pos (show (1 : Int) ≤ (xs.length : Int) by omega)]
        by_cases c2 : xs.length ≤ 5
        · rw [if_neg (show ¬ ¬ (xs.length : Int) ≤ 5 by omega)]
          refine ⟨_, rfl, a, rfl, ⟨xs, sqT ha⟩, fun D hD => ?_⟩
          refine lcT hD (sqT ha) (fun i => (xs.take i).map fun y => .bl (isRuleV H y)) rfl (fun i y H2 hy p => ?_) (fun H2 s2 hD2 => ?_)
          · have hy1 := hth y (mem_of_get hy)
            have hy2 := hy1.same p.same
            walk_at "rs"
            refine ⟨y, rfl, hy2, fun H3 s3 => ?_⟩
            rw [isRuleV_same (K := K) p.same ⟨hy1.1, fun a' xs' e' h' => by obtain ⟨w1, w2⟩ := hy1.2 a' xs' e' h'; exact ⟨w1, fun z hz => (w2 z hz).th⟩⟩]
            exact p.push hD (by simp; omega) s3 (map_take_next _ hy)
          · refine ⟨D, xs.map (isRuleV H), rfl, ?_, ?_⟩
            · rw [List.take_length] at hD2
              rw [List.map_map]
              exact sqL hD2
            · walk_at "rs"
              simp only [List.all_map, Function.comp_def, id_eq]
              cases e : xs.all (fun y => isRuleV H y) with
              | true => exact q1 (by simp [c1, c2, e]) H2 s2
              | false => exact q2 (by simp [c1, c2, e]) H2 s2
        · rw [if_pos (show ¬ (xs.length : Int) ≤ 5 by omega)]
          exact q2 (by simp [c2]) H (Same.refl H)
      · rw [if_neg (show ¬ (1 : Int) ≤ (xs.length : Int) by omega)]
        exact q2 (by simp [c1]) H (Same.refl H)
    | _ => exact ⟨false, by rfl, by simpa using q2 (by simp [isRulesV, *]) H (Same.refl H)⟩
end
end Nk
namespace Nk
open PySem L2
section
variable {P : Program} {w : World} {K : PySem.W.Frag} {mg : Str → Option Value} {base : Heap}
def riseV : List V → Bool
  | x :: y :: r => (match x, y with | .int i, .int j => decide (i < j) | _, _ => false) && riseV (y :: r)
  | _ => true
def isNightsV (H : Hp) (x : V) : Bool := match x with
  | .ref a => match H a with
    | some (.lst xs) => decide (xs.length ≤ 100) && xs.all (fun y => isNumV y 0 (.int 1000000000)) && riseV xs
    | _ => false
  | _ => false
theorem allNum {xs : List V} (h : xs.all (fun y => isNumV y 0 (.int 1000000000)) = true) : ∃ ns : List Int, xs = ns.map V.int ∧ ∀ n ∈ ns, 0 ≤ n ∧ n ≤ 1000000000 := by
  induction xs with
  | nil => exact ⟨[], rfl, by simp⟩
  | cons x xs ih =>
    simp only [List.all_cons, Bool.and_eq_true] at h
    obtain ⟨ns, e, hn⟩ := ih h.2
    cases x with
    | int i =>
      refine ⟨i :: ns, by rw [e]; rfl, fun n hn' => ?_⟩
      rcases List.mem_cons.mp hn' with rfl | hn'
      · simpa [isNumV] using h.1
      · exact hn n hn'
    | _ => simp [isNumV] at h
theorem riseV_ints : ∀ ns : List Int, riseV (ns.map V.int) = true ↔ ns.Pairwise (· < ·)
  | [] => by simp [riseV]
  | [n] => by simp [riseV]
  | n :: m :: r => by
    have ih := riseV_ints (m :: r)
    simp only [List.map_cons] at ih ⊢
    simp only [riseV, Bool.and_eq_true, decide_eq_true_eq, ih]
    constructor
    · rintro ⟨h1, h2⟩
      refine List.pairwise_cons.mpr ⟨fun x hx => ?_, h2⟩
      rcases List.mem_cons.mp hx with rfl | hx
      · exact h1
      · have := (List.pairwise_cons.mp h2).1 x hx
        omega
    · intro h
      obtain ⟨h1, h2⟩ := List.pairwise_cons.mp h
      exact ⟨h1 m List.mem_cons_self, h2⟩
theorem rise_steps {ns : List Int} (h : ∀ (i : Nat) a b, ns[i]? = some a → ns[i + 1]? = some b → a < b) : ns.Pairwise (· < ·) := by
  induction ns with
  | nil => exact .nil
  | cons n ns ih =>
    have ih' := ih fun i a b h1 h2 => h (i + 1) a b (by simpa using h1) (by simpa using h2)
    cases ns with
    | nil => exact List.pairwise_singleton _ _
    | cons m r =>
      have h0 := h 0 n m rfl rfl
      refine List.pairwise_cons.mpr ⟨fun x hx => ?_, ih'⟩
      rcases List.mem_cons.mp hx with rfl | hx
      · exact h0
      · have := (List.pairwise_cons.mp ih').1 x hx
        omega
end
end Nk
namespace Nk
open PySem L2
section
variable {P : Program} {w : World} {K : PySem.W.Frag} {mg : Str → Option Value} {base : Heap}
/-- a dict whose keys are the whole numbers ks -/
structure IK (kvs : List (Key × V)) (ks : List Int) : Prop where
  keys : kvs.map (·.1) = ks.map Sum.inl
  nd : ks.Nodup
theorem IK.len {kvs : List (Key × V)} {ks : List Int} (h : IK kvs ks) : kvs.length = ks.length := by
  have := congrArg List.length h.keys
  simpa using this
theorem putK_old {kvs : List (Key × V)} {k : Key} {v : V} (h : (valV kvs k).isSome = true) : (putK kvs k v).map (·.1) = kvs.map (·.1) := by
  have ha : (kvs.any fun kv => decide (kv.1 = k)) = true := by rw [valV_any]; exact h
  unfold putK
  rw [if_pos ha, List.map_map]
  congr 1
  funext p
  simp only [Function.comp]
  split <;> rfl
theorem ik_put {kvs : List (Key × V)} {ks : List Int} (h : IK kvs ks) (n : Int) (v : V) : ∃ ks', IK (putK kvs (.inl n) v) ks' ∧ (∀ m, m ∈ ks' ↔ m ∈ ks ∨ m = n) ∧ ks'.length ≤ ks.length + 1 := by
  have memK : ∀ m : Int, (Sum.inl m : Key) ∈ kvs.map (·.1) ↔ m ∈ ks := fun m => by
    rw [h.keys, List.mem_map]
    constructor
    · rintro ⟨a, ha, e⟩
      cases e
      exact ha
    · intro hm
      exact ⟨m, hm, rfl⟩
  cases e : valV kvs (Sum.inl n : Key) with
  | some x =>
    refine ⟨ks, ⟨by rw [putK_old (by rw [e]; rfl)]; exact h.keys, h.nd⟩, fun m => ⟨.inl, fun hm => ?_⟩, by omega⟩
    rcases hm with hm | rfl
    · exact hm
    · exact (memK _).mp (valV_in e)
  | none =>
    have hn : n ∉ ks := fun z => valV_not e ((memK n).mpr z)
    refine ⟨ks ++ [n], ⟨?_, nd_snoc h.nd hn⟩, fun m => by simp, by simp⟩
    rw [putK_new _ e, List.map_append, List.map_append, h.keys]
    rfl
theorem keptBy_len {ru : List Int × Int} {ns : List Int} (h : ru.2 ≤ 20) : (keptBy ru ns).length ≤ 20 := by
  unfold keptBy
  rw [List.length_take]
  omega
theorem lst_thing {H : Hp} {l : Addr} {ns : List Int} (hl : H l = some (.lst (ns.map V.int))) (hz : ns.length ≤ 100000) : DT K H 1 (.ref l) := by
  refine ⟨⟨_, .lst hl⟩, fun a xs e ha => ?_⟩
  cases e
  rw [hl] at ha
  rcases ha with z | z <;> cases z
  refine ⟨by simpa using hz, fun y hy => ?_⟩
  obtain ⟨i, _, rfl⟩ := List.mem_map.mp hy
  exact ⟨_, .int i⟩
theorem nights_is {H : Hp} {l : Addr} {ns : List Int} (hl : H l = some (.lst (ns.map V.int))) (hz : ns.length ≤ 100) (hr : ns.Pairwise (· < ·)) (hb : ∀ n ∈ ns, 0 ≤ n ∧ n ≤ 1000000000) : isNightsV H (.ref l) = true := by
  have h1 : riseV (ns.map V.int) = true := (riseV_ints ns).mpr hr
  have h2 : (ns.map V.int).all (fun y => isNumV y 0 (.int 1000000000)) = true := by
    rw [List.all_eq_true]
    intro y hy
    obtain ⟨i, hi, rfl⟩ := List.mem_map.mp hy
    have := hb i hi
    simp [isNumV, this]
  simp only [isNightsV, hl, h1, h2, List.length_map, hz, decide_true, Bool.and_true]
end
end Nk
namespace Nk
open PySem L2
section
variable {P : Program} {w : World} {K : PySem.W.Frag} {mg : Str → Option Value} {base : Heap}
/-- values and the rules that stand there -/
def RuleVs (H : Hp) (xs : List V) (rus : List (List Int × Int)) : Prop := xs.length = rus.length ∧ ∀ (i : Nat) x, xs[i]? = some x → ∃ ru, rus[i]? = some ru ∧ RuleAt H x ru
theorem RuleVs.same {H H' : Hp} {xs : List V} {rus : List (List Int × Int)} (h : RuleVs H xs rus) (s : Same H H') : RuleVs H' xs rus :=
  ⟨h.1, fun i x hx => by obtain ⟨ru, e, r⟩ := h.2 i x hx; exact ⟨ru, e, r.same s⟩⟩
theorem RuleVs.but {H H' : Hp} {t : Addr} {l : List V} {xs : List V} {rus : List (List Int × Int)} (h : RuleVs H xs rus) (s : But t H H') (ht : H t = some (.lst l)) : RuleVs H' xs rus :=
  ⟨h.1, fun i x hx => by obtain ⟨ru, e, r⟩ := h.2 i x hx; exact ⟨ru, e, r.but s ht⟩⟩
theorem RuleVs.snoc {H : Hp} {xs : List V} {rus : List (List Int × Int)} {x : V} {ru : List Int × Int} (h : RuleVs H xs rus) (r : RuleAt H x ru) : RuleVs H (xs ++ [x]) (rus ++ [ru]) := by
  refine ⟨by simp [h.1], fun i y hy => ?_⟩
  by_cases c : i < xs.length
  · rw [List.getElem?_append_left c] at hy
    obtain ⟨ru', e, r'⟩ := h.2 i y hy
    exact ⟨ru', by rw [List.getElem?_append_left (by rw [← h.1]; exact c)]; exact e, r'⟩
  · have hi : i = xs.length := by
      have := lt_of_get hy
      simp at this
      omega
    subst hi
    have e1 : (xs ++ [x])[xs.length]? = some x := by simp
    rw [e1] at hy
    cases hy
    refine ⟨ru, ?_, r⟩
    rw [h.1]
    simp
theorem RuleVs.set {H : Hp} {xs : List V} {rus : List (List Int × Int)} {x : V} {ru : List Int × Int} (h : RuleVs H xs rus) (r : RuleAt H x ru) (j : Nat) : RuleVs H (xs.set j x) (rus.set j ru) := by
  refine ⟨by simp [h.1], fun i y hy => ?_⟩
  have hl := lt_of_get hy
  rw [List.length_set] at hl
  by_cases c : i = j
  · subst c
    rw [List.getElem?_set_self hl] at hy
    cases hy
    exact ⟨ru, List.getElem?_set_self (by rw [← h.1]; exact hl), r⟩
  · rw [List.getElem?_set_ne (fun z => c z.symm)] at hy
    obtain ⟨ru', e, r'⟩ := h.2 i y hy
    exact ⟨ru', by rw [List.getElem?_set_ne (fun z => c z.symm)]; exact e, r'⟩
theorem RuleVs.at_ {H : Hp} {a : Addr} {xs : List V} {rus : List (List Int × Int)} (h : RuleVs H xs rus) (ha : H a = some (.tup xs)) (h1 : 1 ≤ rus.length) (h5 : rus.length ≤ 5) : RulesAt H a rus := ⟨⟨xs, ha, h.1, h.2⟩, h1, h5⟩
/-- how great a rule is -/
def RuleLe (long top mm : Int) (ru : List Int × Int) : Prop := (ru.1.length : Int) ≤ long ∧ (∀ r ∈ ru.1, r ≤ top) ∧ ru.2 ≤ mm
end
end Nk
namespace Nk
open PySem L2
section
variable {P : Program} {w : World} {K : PySem.W.Frag} {mg : Str → Option Value} {base : Heap}
/-- the lists of what each rule keeps, none of them at D -/
def ByLists (H : Hp) (D : Addr) (xs : List V) (rus : List (List Int × Int)) (ns : List Int) : Prop := xs.length = rus.length ∧ ∀ (i : Nat) x, xs[i]? = some x → ∃ (ru : List Int × Int) (p : Addr), rus[i]? = some ru ∧ x = .ref p ∧ H p = some (.lst ((keptUp ru ns).map V.int)) ∧ p ≠ D
theorem ByLists.same {H H' : Hp} {D : Addr} {xs : List V} {rus : List (List Int × Int)} {ns : List Int} (h : ByLists H D xs rus ns) (s : Same H H') : ByLists H' D xs rus ns :=
  ⟨h.1, fun i x hx => by obtain ⟨ru, p, e, e2, r, n⟩ := h.2 i x hx; exact ⟨ru, p, e, e2, s _ _ r, n⟩⟩
theorem ByLists.push {H : Hp} {D p : Addr} {xs : List V} {rus : List (List Int × Int)} {ns : List Int} {ru : List Int × Int} {o : HO} (h : ByLists H D xs rus ns) (hp : H p = some (.lst ((keptUp ru ns).map V.int))) (n : p ≠ D) : ByLists (upd H D o) D (xs ++ [.ref p]) (rus ++ [ru]) ns := by
  refine ⟨by simp [h.1], fun i y hy => ?_⟩
  by_cases c : i < xs.length
  · rw [List.getElem?_append_left c] at hy
    obtain ⟨ru', p', e, e2, r', n'⟩ := h.2 i y hy
    exact ⟨ru', p', by rw [List.getElem?_append_left (by rw [← h.1]; exact c)]; exact e, e2, by rw [upd_ne n']; exact r', n'⟩
  · have hi : i = xs.length := by
      have := lt_of_get hy
      simp at this
      omega
    subst hi
    have e1 : (xs ++ [V.ref p])[xs.length]? = some (.ref p) := by simp
    rw [e1] at hy
    cases hy
    refine ⟨ru, p, ?_, rfl, by rw [upd_ne n]; exact hp, n⟩
    rw [h.1]
    simp
end
end Nk
/-! ### rules weighed: how they stand, a night back, a copy more -/
namespace L2
open PySem RZ
theorem walk_zipT {K : PySem.W.Frag} {a b : Addr} {xs ys : List V} {n : Nat} (hn : n = min xs.length ys.length) : Walk (ItzT K a b) n (fun H => SqT K H a xs ∧ SqT K H b ys) (YPair (fun i => xs[i]?) (fun i => ys[i]?)) := by
  subst hn
  refine ⟨fun i _ hi q => ?_, fun _ q => ⟨xs, ys, q.1, q.2, by omega⟩, fun i H v H' _ q y => ?_⟩
  · have h1 : i < xs.length := by omega
    have h2 : i < ys.length := by omega
    exact ⟨xs, ys, xs[i], ys[i], q.1, q.2, by simp [h1], by simp [h2]⟩
  · obtain ⟨T, x, z, h1, h2, h3, h4, h5⟩ := y
    exact ⟨T, x, z, h1, h2, h3, h4 xs q.1, h5 ys q.2⟩
theorem walk_ezip {K : PySem.W.Frag} {a b : Addr} {xs ys : List V} {n : Nat} (hn : n = min xs.length ys.length) : Walk (Itez K a b) n (fun H => SqT K H a xs ∧ SqT K H b ys) (fun i H v H' => ∃ T T2 x y, v = .ref T ∧ H T = none ∧ H T2 = none ∧ T ≠ T2 ∧ H' = upd (upd H T2 (.tup [x, y])) T (.tup [.int (i : Nat), .ref T2]) ∧ xs[i]? = some x ∧ ys[i]? = some y) := by
  subst hn
  refine ⟨fun i _ hi q => ?_, fun _ q => ⟨xs, ys, q.1, q.2, by omega⟩, fun i H v H' _ q y => ?_⟩
  · have h1 : i < xs.length := by omega
    have h2 : i < ys.length := by omega
    exact ⟨xs, ys, xs[i], ys[i], q.1, q.2, by simp [h1], by simp [h2]⟩
  · obtain ⟨T, T2, x, z, h1, h2, h3, h4, h5, h6, h7⟩ := y
    exact ⟨T, T2, x, z, h1, h2, h3, h4, h5, h6 xs q.1, h7 ys q.2⟩
end L2
namespace Nk
open PySem L2
/-- tuples stay -/
def TK (H H' : Hp) : Prop := ∀ b ys, H b = some (.tup ys) → H' b = some (.tup ys)
theorem Same.tk {H H' : Hp} (s : Same H H') : TK H H' := fun _ _ h => s _ _ h
theorem TK.trans {H H' H'' : Hp} (s : TK H H') (t : TK H' H'') : TK H H'' := fun _ _ h => t _ _ (s _ _ h)
theorem tk_upd {H : Hp} {D : Addr} {l : List V} {o : HO} (h : H D = some (.lst l)) : TK H (upd H D o) := fun b ys e => by
  rw [upd_ne (ne_of e h (by intro z; cases z))]; exact e
theorem RndsAt.tk {H H' : Hp} {r : Addr} {rs : List Int} (h : RndsAt H r rs) (s : TK H H') : RndsAt H' r rs := { h with at_ := s _ _ h.at_ }
theorem RuleAt.tk {H H' : Hp} {x : V} {ru : List Int × Int} (h : RuleAt H x ru) (s : TK H H') : RuleAt H' x ru := by
  obtain ⟨b, r, e, hb, hr, h1, h2⟩ := h
  exact ⟨b, r, e, s _ _ hb, hr.tk s, h1, h2⟩
theorem RuleVs.tk {H H' : Hp} {xs : List V} {rus : List (List Int × Int)} (h : RuleVs H xs rus) (s : TK H H') : RuleVs H' xs rus :=
  ⟨h.1, fun i x hx => by obtain ⟨ru, e, r⟩ := h.2 i x hx; exact ⟨ru, e, r.tk s⟩⟩
/-- rules that stand, of any number -/
def RuX (H : Hp) (a : Addr) (rus : List (List Int × Int)) : Prop := ∃ xs, H a = some (.tup xs) ∧ RuleVs H xs rus
theorem RuX.tk {H H' : Hp} {a : Addr} {rus : List (List Int × Int)} (h : RuX H a rus) (s : TK H H') : RuX H' a rus := let ⟨xs, h1, h2⟩ := h; ⟨xs, s _ _ h1, h2.tk s⟩
/-- how rules stand -/
def SeenVs (H : Hp) (xs : List V) (sn : Seen) : Prop := xs.length = sn.length ∧ ∀ (i : Nat) x, xs[i]? = some x → ∃ c b, sn[i]? = some c ∧ x = .ref b ∧ H b = some (.tup [.int c.1, .bl c.2])
theorem SeenVs.tk {H H' : Hp} {xs : List V} {sn : Seen} (h : SeenVs H xs sn) (s : TK H H') : SeenVs H' xs sn :=
  ⟨h.1, fun i x hx => let ⟨c, b, h1, h2, h3⟩ := h.2 i x hx; ⟨c, b, h1, h2, s _ _ h3⟩⟩
theorem SeenVs.nil {H : Hp} : SeenVs H [] [] := ⟨rfl, fun i x h => by simp at h⟩
theorem SeenVs.snoc {H : Hp} {xs : List V} {sn : Seen} {b : Addr} {c : Int × Bool} (h : SeenVs H xs sn) (hb : H b = some (.tup [.int c.1, .bl c.2])) : SeenVs H (xs ++ [.ref b]) (sn ++ [c]) := by
  refine ⟨by rw [List.length_append, List.length_append, h.1]; rfl, fun i x hx => ?_⟩
  rcases Nat.lt_or_ge i xs.length with hl | hl
  · rw [List.getElem?_append_left hl] at hx
    obtain ⟨c', b', h1, h2, h3⟩ := h.2 i x hx
    exact ⟨c', b', by rw [List.getElem?_append_left (by have := h.1; omega)]; exact h1, h2, h3⟩
  · rw [List.getElem?_append_right hl] at hx
    have hi : i - xs.length = 0 := by
      have := lt_of_get hx
      simp at this; omega
    rw [hi] at hx
    cases hx
    exact ⟨c, b, by rw [List.getElem?_append_right (by have := h.1; omega), show i - sn.length = 0 by have := h.1; omega]; rfl, rfl, hb⟩
def SeenAt (H : Hp) (a : Addr) (sn : Seen) : Prop := ∃ xs, H a = some (.tup xs) ∧ SeenVs H xs sn
theorem SeenAt.tk {H H' : Hp} {a : Addr} {sn : Seen} (h : SeenAt H a sn) (s : TK H H') : SeenAt H' a sn := let ⟨xs, h1, h2⟩ := h; ⟨xs, s _ _ h1, h2.tk s⟩
theorem zipw_next {α β γ : Type} (f : α → β → γ) {l : List α} {m : List β} {i : Nat} {x : α} {y : β} (hx : l[i]? = some x) (hy : m[i]? = some y) : List.zipWith f (l.take (i + 1)) (m.take (i + 1)) = List.zipWith f (l.take i) (m.take i) ++ [f x y] := by
  rw [take_next hx, take_next hy, List.zipWith_append (by rw [List.length_take, List.length_take]; have := lt_of_get hx; have := lt_of_get hy; omega)]
  rfl
section
variable {P : Program} {w : World} {K : PySem.W.Frag} {mg : Str → Option Value} {base : Heap}
abbrev nm_stood : List Str := ["rules", "rule"]
abbrev pm_stood : List Str := ["rules"]
abbrev lv_stood : Nat := 1
theorem sc_stood : FnScope nm_stood pm_stood (defScope s_stood) := ⟨rfl, rfl, rfl, by decide +kernel, rfl, by decide +kernel, by decide +kernel⟩
def sp_stood : Sp := fun vs H Q _ => ∃ (a : Addr) (rus : List (List Int × Int)), vs = [.ref a] ∧ RuX H a rus ∧ rus.length ≤ 6 ∧
  ∀ p H', Same H H' → H p = none → SeenAt H' p (rus.map fun _ => ((1 : Int), true)) → Q (.ref p) H'
theorem f_stood (T : Txt K mg) : Fk P w K mg base CX0 lv_stood "stood" pm_stood sp_stood := by
  obtain ⟨f, fd, F, g, b⟩ := T.d_stood.ex
  refine ⟨f, fd, g, F.kp, b, F.ok sc_stood (fun vs H Q E h => ?_) (fun cdv A outer s H vs Q E hr h => ?_)⟩
  · obtain ⟨a, rus, rfl, _⟩ := h; rfl
  · obtain ⟨a, rus, rfl, ⟨xs, ha, hv⟩, hl6, q⟩ := h
    refine ⟨_, (pss_one (ps_ret (pe_callTy call_tuple_of (by rfl) T.b_tuple (by decide +kernel) (pa_cons (pe_lc (own := [("rule", 1)]) (g := gName 1) (tt := tYes) (by rfl) sc_stood.nd (pi_tup (pv 0)) (blkOk_by (own := [("rule", 1)]) (N := nm_stood) (sc := defScope s_stood) (by decide +kernel)) (fun _ _ _ _ _ => (pg_name (i := 1) sc_stood.nd rfl (Or.inl rfl))) (fun _ _ _ _ _ => pts_nil) (fun _ _ _ _ _ => (pe_tup (pa_cons pe_int (pa_cons pe_bl pa_nil))))) pa_nil)))), ?_⟩
    walk_at "ru"
    refine ⟨⟨_, sqT ha⟩, fun D hD => ?_⟩
    refine lc_it (walk_tup (K := K) (a := a) (xs := xs)) (fun i H' => Same H H' ∧ ∃ ys, H' D = some (.lst ys) ∧ SeenVs H' ys ((rus.take i).map fun _ => ((1 : Int), true))) ⟨same_upd hD, [], upd_same, .nil⟩ (fun i H5 _ p => sqT (p.1 _ _ ha)) (fun i x H5 H6 hi p hy => ?_) (fun H5 p => ?_)
    · obtain ⟨s5, ys, hD5, hys⟩ := p
      obtain ⟨rfl, hx⟩ := hy
      obtain ⟨ru, hru, _⟩ := hv.2 i x hx
      walk_at "ru"
      intro t n_t
      generalize hG_ : upd _ t _ = H7
      obtain ⟨s7, ht⟩ := newF n_t hG_
      clear hG_
      have hD7 := s7 _ _ hD5
      have hyl := hys.1
      rw [List.length_map, List.length_take] at hyl
      refine ⟨ys, hD7, szl (by omega), Same.app (s5.trans s7) hD, ys ++ [.ref t], upd_same, ?_⟩
      rw [take_next hru, List.map_append]
      exact ((hys.tk (Same.tk s7)).snoc (c := ((1 : Int), true)) ht).tk (tk_upd hD7)
    · obtain ⟨s5, ys, hD5, hys⟩ := p
      rw [hv.1, List.take_length] at hys
      refine ⟨_, .inl ⟨sqL hD5, ?_⟩⟩
      intro t n_t
      generalize hG_ : upd _ t _ = H7
      obtain ⟨s7, ht⟩ := newF n_t hG_
      clear hG_
      exact q t H7 (s5.trans s7) (s5.free n_t) ⟨ys, ht, hys.tk (Same.tk s7)⟩
abbrev nm_gone_back : List Str := ["rules", "turn", "place", "seen", "found", "rounds", "many", "count", "had", "here"]
abbrev pm_gone_back : List Str := ["rules", "turn", "place", "seen"]
abbrev lv_gone_back : Nat := 2
theorem sc_gone_back : FnScope nm_gone_back pm_gone_back (defScope s_gone_back) := ⟨rfl, rfl, rfl, by decide +kernel, rfl, by decide +kernel, by decide +kernel⟩
def sp_gone_back : Sp := fun vs H Q _ => ∃ (a s : Addr) (rus : List (List Int × Int)) (turn place : Int) (sn : Seen), vs = [.ref a, .int turn, .int place, .ref s] ∧ RuX H a rus ∧ rus.length ≤ 6 ∧ SeenAt H s sn ∧ sn.length = rus.length ∧ 1 ≤ turn ∧
  ∀ q b H', Same H H' → H q = none → H' q = some (.tup [.int (backF rus turn (place, sn)).1, .ref b]) → SeenAt H' b (backF rus turn (place, sn)).2 → Q (.ref q) H'
def iv_gone_back (a s : Addr) (rus : List (List Int × Int)) (turn place : Int) (sn : Seen) (H : Hp) (p : Addr) (i : Nat) (σ : L2.St) (H' : Hp) : Prop :=
  (∃ y5 y6 y7 y8 y9, σ = [some (.ref a), some (.int turn), some (.int place), some (.ref s), some (.ref p), y5, y6, y7, y8, y9]) ∧ Same H H' ∧ ∃ ys, H' p = some (.lst ys) ∧ SeenVs H' ys (List.zipWith (back1 turn place) (rus.take i) (sn.take i))
theorem f_gone_back (T : Txt K mg) : Fk P w K mg base CX0 lv_gone_back "gone_back" pm_gone_back sp_gone_back := by
  obtain ⟨f, fd, F, g, b⟩ := T.d_gone_back.ex
  refine ⟨f, fd, g, F.kp, b, F.ok sc_gone_back (fun vs H Q E h => ?_) (fun cdv A outer s H vs Q E hr h => ?_)⟩
  · obtain ⟨a, s, rus, turn, place, sn, rfl, _⟩ := h; rfl
  · obtain ⟨a, s, rus, turn, place, sn, rfl, ⟨xs, ha, hv⟩, hl6, ⟨zs, hs, hsn⟩, hsl, ht, q⟩ := h
    refine ⟨_, (pss_cons (ps_set (i := 4) sc_gone_back.nd rfl (.inl rfl) (pe_lst pa_nil))
      (pss_cons (ps_for PassesOwn.never rfl (RZ.pi_zipA (by rfl) T.b_zip (pa_cons (pv 0) (pa_cons (pv 3) pa_nil))) (pg_tup rfl (pgs_cons (pg_tup rfl (pgs_cons (pg_name (i := 5) sc_gone_back.nd rfl (Or.inl rfl)) (pgs_cons (pg_name (i := 6) sc_gone_back.nd rfl (Or.inl rfl)) pgs_nil))) (pgs_cons (pg_tup rfl (pgs_cons (pg_name (i := 7) sc_gone_back.nd rfl (Or.inl rfl)) (pgs_cons (pg_name (i := 8) sc_gone_back.nd rfl (Or.inl rfl)) pgs_nil))) pgs_nil))) (pss_cons (ps_set (i := 9) sc_gone_back.nd rfl (.inl rfl) (pe_fn (f_number_of T) (hr.mono (by decide)) (by rfl) pass0 (pa_cons (pv 5) (pa_cons (pe_op op_add (pv 2) (pv 1)) pa_nil))))
      (pss_one (ps_expr (pe_bm PySem.F.plainAttrs_list PySem.F.slot_list_append PySem.F.type_list_append mt_append (pv 4) (pa_cons (pe_tup (pa_cons (pv 7) (pa_cons (pe_and (pv 8) (pe_one (pe_or (pe_cmpR op_ge (pv 7) (pv 6) (nomark _)) (pe_one (pe_cmpR op_eq (pv 9) (pe_fn (f_number_of T) (hr.mono (by decide)) (by rfl) pass0 (pa_cons (pv 5) (pa_cons (pe_op op_sub (pe_op op_add (pv 2) (pv 1)) pe_int) pa_nil))) (nomark _)))))) pa_nil))) pa_nil))))))
      (pss_one (ps_ret (pe_tup (pa_cons (pe_op op_mod (pe_op op_sub (pv 2) pe_int) (pv 1)) (pa_cons (pe_callTy call_tuple_of (by rfl) T.b_tuple (by decide +kernel) (pa_cons (pv 4) pa_nil)) pa_nil))))))), ?_⟩
    with_reducible refine seq_k fun K_ hK_ => ?_
    walk_at "ru"
    intro p hp
    generalize hG_ : upd H p _ = H1
    obtain ⟨s1, hp1⟩ := newF hp hG_
    clear hG_
    walk_at "ru"
    subst hK_
    first | with_reducible refine seq_k fun K_ hK_ => ?_ | skip
    walk_at "ru"
    have hn : rus.length = min xs.length zs.length := by rw [hv.1, hsn.1, hsl]; omega
    refine ⟨_, _, .inr ⟨sqT (s1 _ _ ha), sqT (s1 _ _ hs), ?_⟩⟩
    refine for_it (walk_zipT hn) (iv_gone_back a s rus turn place sn H p) ⟨⟨_, _, _, _, _, rfl⟩, s1, [], hp1, by rw [List.take_zero]; exact .nil⟩ (fun i σ H5 _ iv => ⟨sqT (iv.2.1 _ _ ha), sqT (iv.2.1 _ _ hs)⟩) (fun i v σ H5 H6 hi iv hy => ?_) (fun σ H5 iv => ?_)
    · obtain ⟨⟨y5, y6, y7, y8, y9, rfl⟩, s5, ys, hp5, hys⟩ := iv
      obtain ⟨t, x, y, rfl, nt, rfl, hx, hy⟩ := hy
      obtain ⟨ru, hru, b1, ro, rfl, hb1, hro, m0, m1⟩ := hv.2 i x hx
      obtain ⟨c, b2, hc, rfl, hb2⟩ := hsn.2 i y hy
      have sT : Same H5 (upd H5 t (.tup [.ref b1, .ref b2])) := same_upd nt
      generalize hG_ : upd H5 t _ = H6 at sT
      have ht6 : H6 t = some (.tup [.ref b1, .ref b2]) := by rw [← hG_]; exact upd_same
      clear hG_
      have s6 := s5.trans sT
      refine ⟨t, _, rfl, sqT ht6, rfl, ?_⟩
      walk_at "ru"
      refine ⟨b1, _, rfl, sqT (s6 _ _ hb1), rfl, ?_⟩
      walk_at "ru"
      refine ⟨b2, _, rfl, sqT (s6 _ _ hb2), rfl, ?_⟩
      walk_at "ru"
      with_reducible refine seq_k fun K_ hK_ => ?_
      walk_at "ru"
      refine ⟨ro, ru.1, _, rfl, hro.same s6, ?_⟩
      have hyl := hys.1
      rw [List.length_zipWith, List.length_take, List.length_take] at hyl
      have hp6 := sT _ _ hp5
      walk_at "ru"
      subst hK_
      first | with_reducible refine seq_k fun K_ hK_ => ?_ | skip
      walk_at "ru"
      refine ⟨tyL hp6, ?_⟩
      have fin : ∀ d : Bool, back1 turn place ru c = (c.1, d) → ∀ p1, H6 p1 = none → rAppend (.ref p) [.ref p1] (upd H6 p1 (.tup [.int c.1, .bl d])) fun x H1 => iv_gone_back a s rus turn place sn H p (i + 1) [some (.ref a), some (.int turn), some (.int place), some (.ref s), some (.ref p), some (.ref ro), some (.int ru.2), some (.int c.1), some (.bl c.2), some (.int (numOf ru.1 (place + turn)))] H1 := by
        intro d hd
        intro p1 n_p1
        generalize hG_ : upd _ p1 _ = H7
        obtain ⟨s7, hp1⟩ := newF n_p1 hG_
        clear hG_
        have hp7 := s7 _ _ hp6
        refine (app (K := K) hp7 (by omega) ?_).2
        refine ⟨⟨_, _, _, _, _, rfl⟩, Same.app (s6.trans s7) hp, ys ++ [.ref p1], upd_same, ?_⟩
        rw [zipw_next (back1 turn place) hru hc, hd]
        exact ((hys.tk (Same.tk (sT.trans s7))).snoc (c := (c.1, d)) hp1).tk (tk_upd hp7)
      have e1 : back1 turn place ru c = (c.1, c.2 && (decide (ru.2 ≤ c.1) || decide (numOf ru.1 (place + turn) = numOf ru.1 (place + turn - 1)))) := rfl
      by_cases c1 : c.2 = true
      · rw [if_pos c1]
        rw [c1, Bool.true_and] at e1
        by_cases c2 : ru.2 ≤ c.1
        · rw [if_pos c2]
          exact fin true (by rw [e1]; simp [c2])
        · rw [if_neg c2]
          refine ⟨ro, ru.1, _, rfl, hro.same s6, rfl, ?_⟩
          refine fin _ ?_
          rw [e1]
          simp [c2]
      · rw [if_neg c1]
        exact fin false (by rw [e1]; simp [c1])
    · obtain ⟨⟨y5, y6, y7, y8, y9, rfl⟩, s5, ys, hp5, hys⟩ := iv
      walk_at "ru"
      subst hK_
      first | with_reducible refine seq_k fun K_ hK_ => ?_ | skip
      walk_at "ru"
      refine ⟨by omega, _, .inl ⟨sqL hp5, ?_⟩⟩
      intro l n_l
      generalize hG_ : upd _ l _ = H6
      obtain ⟨s6, hl⟩ := newF n_l hG_
      clear hG_
      intro q0 n_q0
      generalize hG_ : upd _ q0 _ = H7
      obtain ⟨s7, hq0⟩ := newF n_q0 hG_
      clear hG_
      have hys2 := hys.tk (Same.tk (s6.trans s7))
      rw [List.take_length, ← hsl, List.take_length] at hys2
      exact q q0 l H7 ((s5.trans s6).trans s7) ((s5.trans s6).free n_q0) hq0 ⟨ys, s7 _ _ hl, hys2⟩
end
end Nk
/-! ### rules weighed: a copy more, steps, nights told -/
namespace Nk
open PySem L2
theorem byFrom_snoc : ∀ (l : List (List Int × Int)) (m : Seen) (k : Nat) (x : List Int × Int) (y : Int × Bool), l.length = m.length → byFrom k (l ++ [x]) (m ++ [y]) = byFrom k l m ++ (if by1 x y = true then [((k + l.length : Nat) : Int)] else [])
  | [], [], k, x, y, _ => by simp [byFrom]
  | a :: l, b :: m, k, x, y, h => by
    have ih := byFrom_snoc l m (k + 1) x y (by simpa using h)
    rw [List.cons_append, List.cons_append, byFrom, byFrom, ih]
    have e : k + 1 + l.length = k + (a :: l).length := by simp; omega
    rw [e]
    split <;> simp
  | [], _ :: _, _, _, _, h => by simp at h
  | _ :: _, [], _, _, _, h => by simp at h
section
variable {P : Program} {w : World} {K : PySem.W.Frag} {mg : Str → Option Value} {base : Heap}
abbrev nm_copied : List Str := ["rules", "seen", "found", "by", "k", "one", "count", "had"]
abbrev pm_copied : List Str := ["rules", "seen"]
abbrev lv_copied : Nat := 1
theorem sc_copied : FnScope nm_copied pm_copied (defScope s_copied) := ⟨rfl, rfl, rfl, by decide +kernel, rfl, by decide +kernel, by decide +kernel⟩
def sp_copied : Sp := fun vs H Q _ => ∃ (a s : Addr) (rus : List (List Int × Int)) (sn : Seen), vs = [.ref a, .ref s] ∧ RuX H a rus ∧ rus.length ≤ 6 ∧ SeenAt H s sn ∧ sn.length = rus.length ∧
  ∀ q b l H', Same H H' → H q = none → H l = none → H' q = some (.tup [.ref b, .ref l]) → SeenAt H' b (copyF rus sn) → H' l = some (.lst ((byF rus sn).map V.int)) → Q (.ref q) H'
def iv_copied (a s : Addr) (rus : List (List Int × Int)) (sn : Seen) (H : Hp) (p l : Addr) (i : Nat) (σ : L2.St) (H' : Hp) : Prop :=
  (∃ y4 y5 y6 y7, σ = [some (.ref a), some (.ref s), some (.ref p), some (.ref l), y4, y5, y6, y7]) ∧ Same H H' ∧ p ≠ l ∧ H' l = some (.lst ((byF (rus.take i) (sn.take i)).map V.int)) ∧ ∃ ys, H' p = some (.lst ys) ∧ SeenVs H' ys (copyF (rus.take i) (sn.take i))
theorem f_copied (T : Txt K mg) : Fk P w K mg base CX0 lv_copied "copied" pm_copied sp_copied := by
  obtain ⟨f, fd, F, g, b⟩ := T.d_copied.ex
  refine ⟨f, fd, g, F.kp, b, F.ok sc_copied (fun vs H Q E h => ?_) (fun cdv A outer s H vs Q E hr h => ?_)⟩
  · obtain ⟨a, s, rus, sn, rfl, _⟩ := h; rfl
  · obtain ⟨a, s, rus, sn, rfl, ⟨xs, ha, hv⟩, hl6, ⟨zs, hs, hsn⟩, hsl, q⟩ := h
    refine ⟨_, (pss_cons (ps_set (i := 2) sc_copied.nd rfl (.inl rfl) (pe_lst pa_nil))
      (pss_cons (ps_set (i := 3) sc_copied.nd rfl (.inl rfl) (pe_lst pa_nil))
      (pss_cons (ps_for PassesOwn.never rfl (pi_enumZip (by rfl) T.b_enumerate (by rfl) T.b_zip (pa_cons (pv 0) (pa_cons (pv 1) pa_nil))) (pg_tup rfl (pgs_cons (pg_name (i := 4) sc_copied.nd rfl (Or.inl rfl)) (pgs_cons (pg_tup rfl (pgs_cons (pg_name (i := 5) sc_copied.nd rfl (Or.inl rfl)) (pgs_cons (pg_tup rfl (pgs_cons (pg_name (i := 6) sc_copied.nd rfl (Or.inl rfl)) (pgs_cons (pg_name (i := 7) sc_copied.nd rfl (Or.inl rfl)) pgs_nil))) pgs_nil))) pgs_nil))) (pss_one (ps_if (PW.pt (pw_and (pt_not (pt_val (pv 7))) (pw_and1 (pt_cmpR op_lt (pv 6) (pe_ix ix_tup (pv 5) pe_int (fun _ _ => rfl)) (nomark _))))) (pss_cons (ps_expr (pe_bm PySem.F.plainAttrs_list PySem.F.slot_list_append PySem.F.type_list_append mt_append (pv 3) (pa_cons (pv 4) pa_nil)))
      (pss_one (ps_expr (pe_bm PySem.F.plainAttrs_list PySem.F.slot_list_append PySem.F.type_list_append mt_append (pv 2) (pa_cons (pe_tup (pa_cons (pe_op op_add (pv 6) pe_int) (pa_cons pe_bl pa_nil))) pa_nil))))) (pss_one (ps_expr (pe_bm PySem.F.plainAttrs_list PySem.F.slot_list_append PySem.F.type_list_append mt_append (pv 2) (pa_cons (pe_tup (pa_cons (pv 6) (pa_cons pe_bl pa_nil))) pa_nil)))))))
      (pss_one (ps_ret (pe_tup (pa_cons (pe_callTy call_tuple_of (by rfl) T.b_tuple (by decide +kernel) (pa_cons (pv 2) pa_nil)) (pa_cons (pv 3) pa_nil)))))))), ?_⟩
    with_reducible refine seq_k fun K_ hK_ => ?_
    walk_at "ru"
    intro p n_p
    generalize hG_ : upd _ p _ = H1
    obtain ⟨s1, hp1⟩ := newF n_p hG_
    clear hG_
    walk_at "ru"
    subst hK_
    first | with_reducible refine seq_k fun K_ hK_ => ?_ | skip
    walk_at "ru"
    intro l n_l
    generalize hG_ : upd _ l _ = H2
    obtain ⟨s2, hl2⟩ := newF n_l hG_
    clear hG_
    have hp2 := s2 _ _ hp1
    have hpl : p ≠ l := ne_of_none hp1 n_l
    walk_at "ru"
    subst hK_
    first | with_reducible refine seq_k fun K_ hK_ => ?_ | skip
    walk_at "ru"
    have hn : rus.length = min xs.length zs.length := by rw [hv.1, hsn.1, hsl]; omega
    have s02 := s1.trans s2
    refine ⟨_, sqT (s02 _ _ ha), _, sqT (s02 _ _ hs), ?_⟩
    refine for_it (walk_ezip hn) (iv_copied a s rus sn H p l) ⟨⟨_, _, _, _, rfl⟩, s02, hpl, hl2, [], hp2, .nil⟩ (fun i σ H5 _ iv => ⟨sqT (iv.2.1 _ _ ha), sqT (iv.2.1 _ _ hs)⟩) (fun i v σ H5 H6 hi iv hy => ?_) (fun σ H5 iv => ?_)
    · obtain ⟨⟨y4, y5, y6, y7, rfl⟩, s5, _, hl5, ys, hp5, hys⟩ := iv
      obtain ⟨t, t2, x, y, rfl, nt, nt2, ntt, rfl, hx, hy⟩ := hy
      obtain ⟨ru, hru, b1, ro, rfl, hb1, hro, m0, m1⟩ := hv.2 i x hx
      obtain ⟨c, b2, hc, rfl, hb2⟩ := hsn.2 i y hy
      have sT : Same H5 (upd (upd H5 t2 (.tup [.ref b1, .ref b2])) t (.tup [.int (i : Nat), .ref t2])) := (same_upd nt2).trans (same_upd (by rw [upd_ne ntt]; exact nt))
      have ht0 : (upd (upd H5 t2 (.tup [.ref b1, .ref b2])) t (.tup [.int (i : Nat), .ref t2])) t2 = some (.tup [.ref b1, .ref b2]) := by rw [upd_ne ntt.symm]; exact upd_same
      have ht1 : (upd (upd H5 t2 (.tup [.ref b1, .ref b2])) t (.tup [.int (i : Nat), .ref t2])) t = some (.tup [.int (i : Nat), .ref t2]) := upd_same
      generalize (upd (upd H5 t2 (.tup [.ref b1, .ref b2])) t (.tup [.int (i : Nat), .ref t2])) = H6 at *
      have s6 := s5.trans sT
      have hyl := hys.1
      unfold copyF at hyl
      rw [List.length_zipWith, List.length_take, List.length_take] at hyl
      have hp6 := sT _ _ hp5
      have hl6' := sT _ _ hl5
      have hil := lt_of_get hru
      have hbl : (byF (rus.take i) (sn.take i)).length ≤ 6 := by
        have : ∀ (l : List (List Int × Int)) (m : Seen) (k : Nat), (byFrom k l m).length ≤ l.length := by
          intro l
          induction l with
          | nil => intro m k; simp [byFrom]
          | cons a l ih =>
            intro m k
            cases m with
            | nil => simp [byFrom]
            | cons b m =>
              have := ih m (k + 1)
              rw [byFrom]
              split <;> simp <;> omega
        have := this (rus.take i) (sn.take i) 0
        rw [List.length_take] at this
        unfold byF
        omega
      have eBy : byF (rus.take (i + 1)) (sn.take (i + 1)) = byF (rus.take i) (sn.take i) ++ (if by1 ru c = true then [(i : Int)] else []) := by
        unfold byF
        rw [take_next hru, take_next hc, byFrom_snoc _ _ _ _ _ (by rw [List.length_take, List.length_take, hsl])]
        rw [List.length_take, Nat.zero_add, Nat.min_eq_left (by omega)]
      have eCo : copyF (rus.take (i + 1)) (sn.take (i + 1)) = copyF (rus.take i) (sn.take i) ++ [copy1 ru c] := zipw_next copy1 hru hc
      refine ⟨t, _, rfl, sqT ht1, rfl, ?_⟩
      walk_at "ru"
      refine ⟨t2, _, rfl, sqT ht0, rfl, ?_⟩
      walk_at "ru"
      refine ⟨b2, _, rfl, sqT (s6 _ _ hb2), rfl, ?_⟩
      walk_at "ru"
      have hl5' : (byF (rus.take i) (sn.take i)).length ≤ 99999 := by omega
      have fin : ∀ (H7 : Hp) (y : Int), Same H H7 → TK H6 H7 → H7 p = some (.lst ys) → H7 l = some (.lst ((byF (rus.take (i + 1)) (sn.take (i + 1))).map V.int)) → copy1 ru c = (y, true) → ∀ p1, H7 p1 = none → rAppend (.ref p) [.ref p1] (upd H7 p1 (.tup [.int y, .bl true])) fun x H1 => iv_copied a s rus sn H p l (i + 1) [some (.ref a), some (.ref s), some (.ref p), some (.ref l), some (.int (i : Nat)), some (.ref b1), some (.int c.1), some (.bl c.2)] H1 := by
        intro H7 y s7 tk7 hp7 hl7 he
        intro p1 n_p1
        generalize hG_ : upd _ p1 _ = H8
        obtain ⟨s8, hp1⟩ := newF n_p1 hG_
        clear hG_
        have hp8 := s8 _ _ hp7
        have hl8 := s8 _ _ hl7
        refine (app (K := K) hp8 (by omega) ?_).2
        refine ⟨⟨_, _, _, _, rfl⟩, Same.app (s7.trans s8) n_p, hpl, by rw [upd_ne hpl.symm]; exact hl8, ys ++ [.ref p1], upd_same, ?_⟩
        rw [eCo, he]
        exact ((hys.tk (((Same.tk sT).trans tk7).trans (Same.tk s8))).snoc (c := (y, true)) hp1).tk (tk_upd hp8)
      have hby : by1 ru c = (!c.2 && decide (c.1 < ru.2)) := rfl
      have skip : by1 ru c = false → (tyV K "list" (.ref p) H6 ∧ ∀ p1, H6 p1 = none → rAppend (.ref p) [.ref p1] (upd H6 p1 (.tup [.int c.1, .bl true])) fun x H1 => iv_copied a s rus sn H p l (i + 1) [some (.ref a), some (.ref s), some (.ref p), some (.ref l), some (.int (i : Nat)), some (.ref b1), some (.int c.1), some (.bl c.2)] H1) := fun hb =>
        ⟨tyL hp6, fin H6 c.1 s6 (fun _ _ h => h) hp6 (by rw [eBy, hb]; simpa using hl6') (by unfold copy1; rw [hb]; rfl)⟩
      by_cases c1 : c.2 = false
      · rw [if_pos c1]
        refine ixT (j := 1) (sqT (s6 _ _ hb1)) rfl rfl ⟨_, rfl, ?_⟩
        by_cases c2 : c.1 < ru.2
        · rw [if_pos c2]
          have hb : by1 ru c = true := by rw [hby, c1]; simp [c2]
          with_reducible refine seq_k fun K_ hK_ => ?_
          walk_at "ru"
          refine app (K := K) hl6' (by rw [List.length_map]; omega) ?_
          generalize hG_ : upd H6 l _ = H7
          have tk7 : TK H6 H7 := by rw [← hG_]; exact tk_upd hl6'
          have hl7 : H7 l = some (.lst ((byF (rus.take (i + 1)) (sn.take (i + 1))).map V.int)) := by
            rw [← hG_, upd_same, eBy, hb]
            simp
          have hp7 : H7 p = some (.lst ys) := by rw [← hG_, upd_ne hpl]; exact hp6
          have s7 : Same H H7 := by rw [← hG_]; exact Same.app s6 (s1.free n_l)
          clear hG_
          walk_at "ru"
          subst hK_
          first | with_reducible refine seq_k fun K_ hK_ => ?_ | skip
          walk_at "ru"
          refine ⟨tyL hp7, fin H7 (c.1 + 1) s7 tk7 hp7 hl7 (by unfold copy1; rw [hb]; rfl)⟩
        · rw [if_neg c2]
          exact skip (by rw [hby]; simp [c2])
      · rw [if_neg c1]
        exact skip (by rw [hby]; simp [c1])
    · obtain ⟨⟨y4, y5, y6, y7, rfl⟩, s5, _, hl5, ys, hp5, hys⟩ := iv
      walk_at "ru"
      subst hK_
      first | with_reducible refine seq_k fun K_ hK_ => ?_ | skip
      walk_at "ru"
      refine ⟨_, .inl ⟨sqL hp5, ?_⟩⟩
      intro b0 n_b0
      generalize hG_ : upd _ b0 _ = H6
      obtain ⟨s6, hb0⟩ := newF n_b0 hG_
      clear hG_
      intro q0 n_q0
      generalize hG_ : upd _ q0 _ = H7
      obtain ⟨s7, hq0⟩ := newF n_q0 hG_
      clear hG_
      have hys2 := hys.tk (Same.tk (s6.trans s7))
      rw [List.take_length, ← hsl, List.take_length] at hys2
      rw [List.take_length, ← hsl, List.take_length] at hl5
      exact q q0 b0 l H7 ((s5.trans s6).trans s7) ((s5.trans s6).free n_q0) (s1.free n_l) hq0 ⟨ys, s7 _ _ hb0, hys2⟩ (s7 _ _ (s6 _ _ hl5))
end
end Nk
/-! ### rules weighed: steps, nights told -/
namespace Nk
open PySem L2
section
variable {P : Program} {w : World} {K : PySem.W.Frag} {mg : Str → Option Value} {base : Heap}
theorem backN_len {rus : List (List Int × Int)} {turn : Int} {nd : Node} (h : nd.2.length = rus.length) : ∀ n : Nat, (backN rus turn n nd).2.length = rus.length
  | 0 => h
  | n + 1 => by
    unfold backN backF
    rw [List.length_zipWith, backN_len h n, Nat.min_self]
theorem backF_place {rus : List (List Int × Int)} {turn : Int} (nd : Node) : (backF rus turn nd).1 = (nd.1 - 1) % turn := rfl
/-- only what is in S has changed; tuples never -/
structure Mv (S : List Addr) (H H' : Hp) : Prop where
  keep : ∀ b o, H b = some o → b ∉ S → H' b = some o
  tups : TK H H'
theorem Mv.of {S : List Addr} {H H' : Hp} (s : Same H H') : Mv S H H' := ⟨fun b o h _ => s b o h, Same.tk s⟩
theorem Mv.trans {S : List Addr} {H H' H'' : Hp} (s : Mv S H H') (t : Mv S H' H'') : Mv S H H'' := ⟨fun b o h n => t.keep b o (s.keep b o h n) n, TK.trans s.tups t.tups⟩
theorem Mv.mono {S S' : List Addr} {H H' : Hp} (s : Mv S H H') (h : ∀ b ∈ S, b ∈ S') : Mv S' H H' := ⟨fun b o e n => s.keep b o e fun z => n (h b z), s.tups⟩
/-- a step that stands; its own things are new -/
def StepAt (H0 H : Hp) (x : V) (e : Int × Node × List Int) : Prop := ∃ t b l, x = .ref t ∧ H t = some (.tup [.int e.1, .int e.2.1.1, .ref b, .ref l]) ∧ SeenAt H b e.2.1.2 ∧ H0 l = none ∧ H l = some (.lst (e.2.2.map V.int))
theorem StepAt.step {S : List Addr} {H0 H H' : Hp} {x : V} {e : Int × Node × List Int} (h : StepAt H0 H x e) (s : Mv S H H') (n : ∀ b ∈ S, ∃ o, H0 b = some o) : StepAt H0 H' x e := by
  obtain ⟨t, b, l, h1, h2, h3, h4, h5⟩ := h
  refine ⟨t, b, l, h1, s.tups _ _ h2, h3.tk (fun _ _ z => s.tups _ _ z), h4, s.keep _ _ h5 fun hm => ?_⟩
  obtain ⟨o, ho⟩ := n l hm
  rw [h4] at ho
  cases ho
def StepVs (H0 H : Hp) (xs : List V) (es : List (Int × Node × List Int)) : Prop := xs.length = es.length ∧ ∀ (i : Nat) x, xs[i]? = some x → ∃ e, es[i]? = some e ∧ StepAt H0 H x e
theorem StepVs.step {S : List Addr} {H0 H H' : Hp} {xs : List V} {es : List (Int × Node × List Int)} (h : StepVs H0 H xs es) (s : Mv S H H') (n : ∀ b ∈ S, ∃ o, H0 b = some o) : StepVs H0 H' xs es :=
  ⟨h.1, fun i x hx => let ⟨e, h1, h2⟩ := h.2 i x hx; ⟨e, h1, h2.step s n⟩⟩
theorem StepVs.same {H0 H H' : Hp} {xs : List V} {es : List (Int × Node × List Int)} (h : StepVs H0 H xs es) (s : Same H H') : StepVs H0 H' xs es := h.step (S := []) (.of s) (fun _ z => nomatch z)
theorem StepVs.snoc {H0 H : Hp} {xs : List V} {es : List (Int × Node × List Int)} {x : V} {e : Int × Node × List Int} (h : StepVs H0 H xs es) (r : StepAt H0 H x e) : StepVs H0 H (xs ++ [x]) (es ++ [e]) := by
  refine ⟨by simp [h.1], fun i y hy => ?_⟩
  rcases Nat.lt_or_ge i xs.length with hl | hl
  · rw [List.getElem?_append_left hl] at hy
    obtain ⟨e', h1, h2⟩ := h.2 i y hy
    exact ⟨e', by rw [List.getElem?_append_left (by have := h.1; omega)]; exact h1, h2⟩
  · rw [List.getElem?_append_right hl] at hy
    have hi : i - xs.length = 0 := by
      have := lt_of_get hy
      simp at this; omega
    rw [hi] at hy
    cases hy
    exact ⟨e, by rw [List.getElem?_append_right (by have := h.1; omega), show i - es.length = 0 by have := h.1; omega]; rfl, r⟩
/-- a list that is new has changed, or all is as it was -/
theorem Mv.more1 {H H' : Hp} {D : Addr} {l : List V} {o : HO} (h : H D = some (.lst l)) (e : upd H D o = H') : Mv [D] H H' := by
  subst e
  exact ⟨fun b u hb hn => by rw [upd_ne (by simpa using hn)]; exact hb, fun b ys hb => tk_upd h b ys hb⟩
abbrev nm_steps : List Str := ["rules", "turn", "place", "seen", "found", "far", "behind", "by"]
abbrev pm_steps : List Str := ["rules", "turn", "place", "seen"]
abbrev lv_steps : Nat := 3
theorem sc_steps : FnScope nm_steps pm_steps (defScope s_steps) := ⟨rfl, rfl, rfl, by decide +kernel, rfl, by decide +kernel, by decide +kernel⟩
def sp_steps : Sp := fun vs H Q _ => ∃ (a s : Addr) (rus : List (List Int × Int)) (turn : Int) (nd : Node), vs = [.ref a, .int turn, .int nd.1, .ref s] ∧ RuX H a rus ∧ rus.length ≤ 6 ∧ SeenAt H s nd.2 ∧ nd.2.length = rus.length ∧ 1 ≤ turn ∧ turn ≤ 400 ∧
  ∀ p xs H', Same H H' → H p = none → H' p = some (.lst xs) → StepVs H H' xs (stepsF rus turn nd) → Q (.ref p) H'
def iv_steps (a : Addr) (rus : List (List Int × Int)) (turn : Int) (nd : Node) (H H1 : Hp) (p : Addr) (i : Nat) (σ : L2.St) (H' : Hp) : Prop :=
  (∃ s y5 y6 y7, σ = [some (.ref a), some (.int turn), some (.int (backN rus turn i nd).1), some (.ref s), some (.ref p), y5, y6, y7] ∧ SeenAt H' s (backN rus turn i nd).2) ∧ Same H H' ∧ Mv [p] H1 H' ∧ ∃ xs, H' p = some (.lst xs) ∧ StepVs H1 H' xs ((stepsF rus turn nd).take i)
theorem f_steps (T : Txt K mg) : Fk P w K mg base CX0 lv_steps "steps" pm_steps sp_steps := by
  obtain ⟨f, fd, F, g, b⟩ := T.d_steps.ex
  refine ⟨f, fd, g, F.kp, b, F.ok sc_steps (fun vs H Q E h => ?_) (fun cdv A outer s H vs Q E hr h => ?_)⟩
  · obtain ⟨a, s, rus, turn, nd, rfl, _⟩ := h; rfl
  · obtain ⟨a, s, rus, turn, nd, rfl, hR, hl6, hs, hsl, ht1, ht4, q⟩ := h
    refine ⟨_, (pss_cons (ps_set (i := 4) sc_steps.nd rfl (.inl rfl) (pe_lst pa_nil))
      (pss_cons (ps_for PassesOwn.never rfl (pi_range2 (by rfl) T.b_range (pa_cons pe_int (pa_cons (pe_op op_add (pe_op op_mul pe_int (pv 1)) pe_int) pa_nil))) (pg_name (i := 5) sc_steps.nd rfl (Or.inl rfl)) (pss_cons (ps_asg (pe_fn (f_gone_back T) (hr.mono (by decide)) (by rfl) pass0 (pa_cons (pv 0) (pa_cons (pv 1) (pa_cons (pv 2) (pa_cons (pv 3) pa_nil))))) (pg_tup rfl (pgs_cons (pg_name (i := 2) sc_steps.nd rfl (Or.inl rfl)) (pgs_cons (pg_name (i := 3) sc_steps.nd rfl (Or.inl rfl)) pgs_nil))))
      (pss_cons (ps_asg (pe_fn (f_copied T) (hr.mono (by decide)) (by rfl) pass0 (pa_cons (pv 0) (pa_cons (pv 3) pa_nil))) (pg_tup rfl (pgs_cons (pg_name (i := 6) sc_steps.nd rfl (Or.inl rfl)) (pgs_cons (pg_name (i := 7) sc_steps.nd rfl (Or.inl rfl)) pgs_nil))))
      (pss_one (ps_expr (pe_bm PySem.F.plainAttrs_list PySem.F.slot_list_append PySem.F.type_list_append mt_append (pv 4) (pa_cons (pe_tup (pa_cons (pv 5) (pa_cons (pv 2) (pa_cons (pv 6) (pa_cons (pv 7) pa_nil))))) pa_nil)))))))
      (pss_one (ps_ret (pv 4))))), ?_⟩
    with_reducible refine seq_k fun K_ hK_ => ?_
    walk_at "ru"
    intro p n_p
    generalize hG_ : upd _ p _ = H1
    obtain ⟨s1, hp1⟩ := newF n_p hG_
    clear hG_
    walk_at "ru"
    subst hK_
    first | with_reducible refine seq_k fun K_ hK_ => ?_ | skip
    walk_at "ru"
    obtain ⟨N, hN⟩ : ∃ N : Nat, (2 * turn).toNat = N := ⟨_, rfl⟩
    have eN : (2 * turn + 1 - 1).toNat = N := by omega
    rw [eN]
    refine ⟨.inr (by omega), by omega, by omega, by omega, by omega, ?_⟩
    have hsl0 : (stepsF rus turn nd).length = N := by unfold stepsF; rw [List.length_map, List.length_range, hN]
    refine for_it (walk_range (lo := 1) (n := N)) (iv_steps a rus turn nd H H1 p) ⟨⟨s, _, _, _, rfl, hs.tk (Same.tk s1)⟩, s1, .of (Same.refl _), [], hp1, rfl, fun i x h => by simp at h⟩ (fun i σ H5 _ iv => trivial) (fun i v σ H5 H6 hi iv hy => ?_) (fun σ H5 iv => ?_)
    · obtain ⟨⟨s', y5, y6, y7, rfl, hs5⟩, s5, m5, xs, hp5, hxs⟩ := iv
      obtain ⟨rfl, rfl⟩ := hy
      have hel : (stepsF rus turn nd)[i]? = some (entF rus turn nd (i + 1)) := by
        unfold stepsF
        rw [List.getElem?_map, List.getElem?_range (by omega)]
        rfl
      walk_at "ru"
      with_reducible refine seq_k fun K_ hK_ => ?_
      walk_at "ru"
      refine ⟨a, s', rus, turn, (backN rus turn i nd).1, (backN rus turn i nd).2, rfl, hR.tk (Same.tk s5), hl6, hs5, backN_len hsl i, ht1, fun q0 b0 H7 s7 nq hq hb => ?_⟩
      have e7 : backF rus turn ((backN rus turn i nd).1, (backN rus turn i nd).2) = backN rus turn (i + 1) nd := rfl
      rw [e7] at hq hb
      refine ⟨q0, _, rfl, sqT hq, rfl, ?_⟩
      have s57 := s5.trans s7
      walk_at "ru"
      subst hK_
      first | with_reducible refine seq_k fun K_ hK_ => ?_ | skip
      walk_at "ru"
      refine ⟨a, b0, rus, (backN rus turn (i + 1) nd).2, rfl, hR.tk (Same.tk s57), hl6, hb, backN_len hsl (i + 1), fun q1 b1 l1 H8 s8 nq1 nl1 hq1 hb1 hl1 => ?_⟩
      refine ⟨q1, _, rfl, sqT hq1, rfl, ?_⟩
      have s58 := s57.trans s8
      walk_at "ru"
      subst hK_
      first | with_reducible refine seq_k fun K_ hK_ => ?_ | skip
      walk_at "ru"
      refine ⟨tyL (s8 _ _ (s7 _ _ hp5)), ?_⟩
      intro t n_t
      generalize hG_ : upd _ t _ = H9
      obtain ⟨s9, ht9⟩ := newF n_t hG_
      clear hG_
      have hp9 := s9 _ _ (s8 _ _ (s7 _ _ hp5))
      have hxl := hxs.1
      rw [List.length_take, hsl0] at hxl
      refine (app (K := K) hp9 (by omega) ?_).2
      have m10 := Mv.more1 (o := .lst (xs ++ [.ref t])) hp9 rfl
      rw [show (1 + (i : Int)) = ((i + 1 : Nat) : Int) by omega] at ht9
      have m9 : Mv [p] H1 H9 := m5.trans (.of ((s7.trans s8).trans s9))
      have fr1 : ∀ l, H7 l = none → H1 l = none := fun l h => by
        cases e : H1 l with
        | none => rfl
        | some o =>
          by_cases c : l = p
          · rw [c] at h; rw [s7 _ _ hp5] at h; cases h
          · have := s7 _ _ (m5.keep l o e (by simpa using c))
            rw [h] at this; cases this
      refine ⟨⟨b0, _, _, _, rfl, (hb.tk (Same.tk (s8.trans s9))).tk m10.tups⟩, Same.app (s58.trans s9) n_p, m9.trans m10, xs ++ [.ref t], upd_same, ?_⟩
      rw [take_next hel]
      have nDl : p ≠ l1 := ne_of_none (s7 _ _ hp5) nl1
      refine StepVs.snoc ?_ ⟨t, b1, l1, rfl, m10.tups _ _ ht9, (hb1.tk (Same.tk s9)).tk m10.tups, fr1 l1 nl1, ?_⟩
      · exact (hxs.same ((s7.trans s8).trans s9)).step m10 fun b hb => by rw [List.mem_singleton.mp hb]; exact ⟨_, hp1⟩
      · rw [upd_ne nDl.symm]
        exact s9 _ _ hl1
    · obtain ⟨⟨s', y5, y6, y7, rfl, hs5⟩, s5, m5, xs, hp5, hxs⟩ := iv
      rw [List.take_of_length_le (by omega)] at hxs
      walk_at "ru"
      subst hK_
      first | with_reducible refine seq_k fun K_ hK_ => ?_ | skip
      walk_at "ru"
      exact q p xs H5 s5 n_p hp5 ⟨hxs.1, fun j x hx => let ⟨e, h1, t, b, l, h2, h3, h4, h5, h6⟩ := hxs.2 j x hx; ⟨e, h1, t, b, l, h2, h3, h4, s1.free h5, h6⟩⟩
abbrev nm_nights_from : List Str := ["turn", "place", "ages", "last", "age"]
abbrev pm_nights_from : List Str := ["turn", "place", "ages"]
abbrev lv_nights_from : Nat := 1
theorem sc_nights_from : FnScope nm_nights_from pm_nights_from (defScope s_nights_from) := ⟨rfl, rfl, rfl, by decide +kernel, rfl, by decide +kernel, by decide +kernel⟩
def sp_nights_from (K : PySem.W.Frag) : Sp := fun vs H Q _ => ∃ (s : Addr) (turn start : Int) (d : Nat) (ages : List Int), vs = [.int turn, .int start, .ref s] ∧ (SqT K H s (ages.map V.int) ∨ SqL K H s (ages.map V.int)) ∧ AgesOk turn d ages ∧ ages.length ≤ 60 ∧ 1 ≤ turn ∧ turn ≤ 400 ∧
  ∀ p m H', Same H H' → m ∈ ages → (∀ b ∈ ages, b ≤ m) → H p = none → H' p = some (.lst ((toldN turn start ages m).map V.int)) → Q (.ref p) H'
theorem f_nights_from (T : Txt K mg) : Fk P w K mg base CX0 lv_nights_from "nights_from" pm_nights_from (sp_nights_from K) := by
  obtain ⟨f, fd, F, g, b⟩ := T.d_nights_from.ex
  refine ⟨f, fd, g, F.kp, b, F.ok sc_nights_from (fun vs H Q E h => ?_) (fun cdv A outer s H vs Q E hr h => ?_)⟩
  · obtain ⟨s, turn, start, d, ages, rfl, _⟩ := h; rfl
  · obtain ⟨s, turn, start, d, ages, rfl, hs, hag, hl, ht, ht4, q⟩ := h
    refine ⟨_, (pss_cons (ps_set (i := 3) sc_nights_from.nd rfl (.inr rfl) (pe_op op_add (pv 1) (pe_op op_mul (pe_op op_add (pe_op op_fdiv (pe_callB (cr_maxX rfl hr.units) (by rfl) T.b_max (by decide +kernel) (pa_cons (pv 2) pa_nil)) (pv 0)) pe_int) (pv 0))))
      (pss_one (ps_ret (pe_callB cr_sortedI (by rfl) T.b_sorted (by decide +kernel) (pa_cons (pe_lc (own := [("age", 4)]) (g := gName 4) (tt := tYes) (by rfl) sc_nights_from.nd (pi_seqX K rfl (pv 2)) (blkOk_by (own := [("age", 4)]) (N := nm_nights_from) (sc := defScope s_nights_from) (by decide +kernel)) (fun _ _ _ _ _ => (pg_name (i := 4) sc_nights_from.nd rfl (Or.inl rfl))) (fun _ _ _ _ _ => pts_nil) (fun _ _ _ _ _ => (pe_op op_sub (pv 3) (pv 4)))) pa_nil))))), ?_⟩
    with_reducible refine seq_k fun K_ hK_ => ?_
    walk_at "ru"
    obtain ⟨a0, rest, ea⟩ : ∃ a0 rest, ages = a0 :: rest := by
      cases ages with
      | nil => exact absurd hag.len (by simp)
      | cons a r => exact ⟨a, r, rfl⟩
    have mx : ∀ Q2 : VK, (∀ m, m ∈ ages → (∀ b ∈ ages, b ≤ m) → Q2 (.int m) H) → rMaxX K [.ref s] H Q2 := fun Q2 h2 => by
      rcases hs with hs | hs
      · exact .inl ⟨s, a0, rest, rfl, by rw [← ea]; exact hs, fun m hm hx => h2 m (by rw [ea]; exact hm) (by rw [ea]; exact hx)⟩
      · exact .inr ⟨s, ages, rfl, hs, by rw [ea]; simp, fun m hm hx => h2 m hm hx⟩
    refine mx _ fun m hm hmx => ?_
    have hb := hag.le m hm
    refine ⟨m, rfl, ⟨by omega, by omega⟩, .inr ⟨by omega, by omega⟩, ?_⟩
    walk_at "ru"
    subst hK_
    first | with_reducible refine seq_k fun K_ hK_ => ?_ | skip
    walk_at "ru"
    obtain ⟨la, hla⟩ : ∃ la : Int, start + (m / turn + 1) * turn = la := ⟨_, rfl⟩
    rw [hla]
    rcases hs with hs | hs
    · refine .inl ⟨⟨_, hs⟩, fun D hD => ?_⟩
      refine lcT hD hs (fun i => ((ages.take i).map fun a => la - a).map V.int) rfl (fun j x HE hx pw => ?_) (fun HE sE hDE => ?_)
      · rw [List.getElem?_map] at hx
        cases ex : ages[j]? with
        | none => rw [ex] at hx; cases hx
        | some z =>
        rw [ex] at hx
        cases hx
        walk_at "ru"
        exact pw.push hD (by rw [List.length_map, List.length_map, List.length_take]; omega) (Same.refl _) (by rw [map_take_next _ ex, List.map_append]; rfl)
      · rw [List.length_map, List.take_length] at hDE
        refine ⟨D, _, rfl, sqL hDE, fun ns' p' hpm hpw np => ?_⟩
        have hrise := told_rise hag start m
        have eT : ns' = toldN turn start ages m := by
          refine rise_ext (rise_of_le hpw ?_) hrise fun z => ?_
          · refine hpm.nodup_iff.mpr ?_
            have := desc_ages hag.pw la
            exact this.imp fun {a b} h => by omega
          · rw [hpm.mem_iff]
            unfold toldN
            rw [List.mem_reverse, hla]
        generalize hG_ : upd HE p' _ = HF
        obtain ⟨sF, hp'⟩ := newF np hG_
        rw [eT] at hp'
        exact q p' m HF (sE.trans sF) hm hmx (sE.free np) hp'
    · refine .inr ⟨⟨_, hs⟩, fun D hD => ?_⟩
      refine lcL hD hs (fun i => ((ages.take i).map fun a => la - a).map V.int) rfl (fun j x HE hx pw => ?_) (fun HE sE hDE => ?_)
      · rw [List.getElem?_map] at hx
        cases ex : ages[j]? with
        | none => rw [ex] at hx; cases hx
        | some z =>
        rw [ex] at hx
        cases hx
        walk_at "ru"
        exact pw.push hD (by rw [List.length_map, List.length_map, List.length_take]; omega) (Same.refl _) (by rw [map_take_next _ ex, List.map_append]; rfl)
      · rw [List.length_map, List.take_length] at hDE
        refine ⟨D, _, rfl, sqL hDE, fun ns' p' hpm hpw np => ?_⟩
        have hrise := told_rise hag start m
        have eT : ns' = toldN turn start ages m := by
          refine rise_ext (rise_of_le hpw ?_) hrise fun z => ?_
          · refine hpm.nodup_iff.mpr ?_
            have := desc_ages hag.pw la
            exact this.imp fun {a b} h => by omega
          · rw [hpm.mem_iff]
            unfold toldN
            rw [List.mem_reverse, hla]
        generalize hG_ : upd HE p' _ = HF
        obtain ⟨sF, hp'⟩ := newF np hG_
        rw [eT] at hp'
        exact q p' m HF (sE.trans sF) hm hmx (sE.free np) hp'
end
end Nk
namespace Nk
open PySem L2
section
variable {P : Program} {w : World} {K : PySem.W.Frag} {mg : Str → Option Value} {base : Heap}
abbrev nm_divisor : List Str := ["one", "other"]
abbrev pm_divisor : List Str := ["one", "other"]
abbrev lv_divisor : Nat := 1
theorem sc_divisor : FnScope nm_divisor pm_divisor (defScope s_divisor) := ⟨rfl, rfl, rfl, by decide +kernel, rfl, by decide +kernel, by decide +kernel⟩
def sp_divisor : Sp := fun vs H Q _ => ∃ (a b : Nat), vs = [.int a, .int b] ∧ Q (.int (Nat.gcd a b)) H
theorem f_divisor (T : Txt K mg) : Fk P w K mg base CX0 lv_divisor "divisor" pm_divisor sp_divisor := by
  obtain ⟨f, fd, F, g, b⟩ := T.d_divisor.ex
  refine ⟨f, fd, g, F.kp, b, F.ok sc_divisor (fun vs H Q E h => ?_) (fun cdv A outer s H vs Q E hr h => ?_)⟩
  · obtain ⟨a, b, rfl, _⟩ := h; rfl
  · obtain ⟨a, b, rfl, q⟩ := h
    refine ⟨_, (pss_cons (ps_while PassesOwn.never (pt_cmpR op_gt (pv 1) pe_int (nomark _)) (pss_one (ps_par (i := 0) (j := 1) (by rfl) sc_divisor.nd rfl rfl (by decide) rfl rfl (pa_cons (pv 1) (pa_cons (pe_op op_mod (pv 0) (pv 1)) pa_nil)) (by rfl))))
      (pss_one (ps_ret (pv 0)))), ?_⟩
    with_reducible refine seq_k fun K_ hK_ => ?_
    walk_at "rt"
    refine ⟨fun m σ H' => H' = H ∧ ∃ x y : Nat, σ = [some (.int x), some (.int y)] ∧ Nat.gcd x y = Nat.gcd a b ∧ m = y, ⟨b, rfl, a, b, rfl, rfl, rfl⟩, ?_⟩
    rintro m σ H' ⟨rfl, x, y, rfl, hg, rfl⟩
    walk_at "rt"
    refine ite2 (fun c => ?_) (fun c => ?_)
    · refine ⟨_, fun σ' H'' h => h, ?_⟩
      walk_at "rt"
      refine ⟨by omega, x % m, Nat.mod_lt _ (by omega), m, rfl, x % m, by rw [Int.natCast_emod], ?_, rfl⟩
      rw [← hg, Nat.gcd_comm m, ← Nat.gcd_rec, Nat.gcd_comm]
    · have : m = 0 := by omega
      subst this
      rw [Nat.gcd_zero_right] at hg
      walk_at "rt"
      subst hK_
      first | with_reducible refine seq_k fun K_ hK_ => ?_ | skip
      walk_at "rt"
      rw [hg]
      exact q
end
end Nk
/-! ### rules weighed: what is refused, the turn -/
namespace Nk
open PySem L2
section
variable {P : Program} {w : World} {K : PySem.W.Frag} {mg : Str → Option Value} {base : Heap}
theorem RuleVs.rnds {H : Hp} {xs : List V} {rus : List (List Int × Int)} (h : RuleVs H xs rus) : ∀ ru ∈ rus, Rnds ru.1 ∧ 1 ≤ ru.2 ∧ ru.2 ≤ 20 ∧ ru.1.length ≤ 12 ∧ ∀ r ∈ ru.1, r ≤ 31 := by
  intro ru hru
  obtain ⟨i, hi⟩ := List.mem_iff_getElem?.mp hru
  have hlt := lt_of_get hi
  have hlx : i < xs.length := by rw [h.1]; exact hlt
  obtain ⟨ru', h1, b, r, _, _, hr, m0, m1⟩ := h.2 i xs[i] (List.getElem?_eq_getElem hlx)
  rw [hi] at h1
  cases h1
  exact ⟨hr.ok, m0, m1, hr.ln, hr.le⟩
theorem RuX.rnds {H : Hp} {a : Addr} {rus : List (List Int × Int)} (h : RuX H a rus) : ∀ ru ∈ rus, Rnds ru.1 ∧ 1 ≤ ru.2 ∧ ru.2 ≤ 20 ∧ ru.1.length ≤ 12 ∧ ∀ r ∈ ru.1, r ≤ 31 := let ⟨_, _, hv⟩ := h; hv.rnds
theorem RulesAt.x {H : Hp} {a : Addr} {rus : List (List Int × Int)} (h : RulesAt H a rus) : RuX H a rus := let ⟨xs, h1, h2, h3⟩ := h.ex; ⟨xs, h1, h2, h3⟩
abbrev nm_turn_of : List Str := ["rules", "found", "rounds", "many"]
abbrev pm_turn_of : List Str := ["rules"]
abbrev lv_turn_of : Nat := 2
theorem sc_turn_of : FnScope nm_turn_of pm_turn_of (defScope s_turn_of) := ⟨rfl, rfl, rfl, by decide +kernel, rfl, by decide +kernel, by decide +kernel⟩
def sp_turn_of : Sp := fun vs H Q _ => ∃ (a : Addr) (rus : List (List Int × Int)), vs = [.ref a] ∧ RuX H a rus ∧ Q (.int (turnN rus)) H
def iv_turn_of (a : Addr) (rus : List (List Int × Int)) (H : Hp) (i : Nat) (σ : L2.St) (H' : Hp) : Prop := H' = H ∧ ∃ y2 y3, σ = [some (.ref a), some (.int ((rus.take i).foldl (fun f ru => lcmS f ru.1.sum.toNat) 1 : Nat)), y2, y3]
theorem f_turn_of (T : Txt K mg) : Fk P w K mg base CX0 lv_turn_of "turn_of" pm_turn_of sp_turn_of := by
  obtain ⟨f, fd, F, g, b⟩ := T.d_turn_of.ex
  refine ⟨f, fd, g, F.kp, b, F.ok sc_turn_of (fun vs H Q E h => ?_) (fun cdv A outer s H vs Q E hr h => ?_)⟩
  · obtain ⟨a, rus, rfl, _⟩ := h; rfl
  · obtain ⟨a, rus, rfl, hR, q⟩ := h
    refine ⟨_, (pss_cons (ps_set (i := 1) sc_turn_of.nd rfl (.inl rfl) pe_int)
      (pss_cons (ps_for PassesOwn.never rfl (pi_tup (pv 0)) (pg_tup rfl (pgs_cons (pg_name (i := 2) sc_turn_of.nd rfl (Or.inl rfl)) (pgs_cons (pg_name (i := 3) sc_turn_of.nd rfl (Or.inl rfl)) pgs_nil))) (pss_one (ps_set (i := 1) sc_turn_of.nd rfl (.inl rfl) (pe_op op_fdiv (pe_op op_mul (pv 1) (pe_callB (cr_sumT rfl) (by rfl) T.b_sum (by decide +kernel) (pa_cons (pv 2) pa_nil))) (pe_fn (f_divisor T) (hr.mono (by decide)) (by rfl) pass0 (pa_cons (pv 1) (pa_cons (pe_callB (cr_sumT rfl) (by rfl) T.b_sum (by decide +kernel) (pa_cons (pv 2) pa_nil)) pa_nil)))))))
      (pss_one (ps_ret (pv 1))))), ?_⟩
    with_reducible refine seq_k fun K_ hK_ => ?_
    walk_at "ru"
    walk_at "ru"
    subst hK_
    first | with_reducible refine seq_k fun K_ hK_ => ?_ | skip
    walk_at "ru"
    have hrn := hR.rnds
    obtain ⟨xs, ha, hxl, hxr⟩ := hR
    refine ⟨⟨_, sqT ha⟩, for_tup (K := K) (a := a) (xs := xs) (iv_turn_of a rus H) ⟨rfl, none, none, rfl⟩ (fun i σ H5 _ p => by rw [p.1]; exact sqT ha) ?_ ?_⟩
    · rintro i x σ H5 hx ⟨rfl, y2, y3, rfl⟩
      obtain ⟨ru, hru, b, r, rfl, hb, hr1, h1, h20⟩ := hxr i x hx
      have hs := hr1.sum_le
      have hs0 := hr1.ok.sum
      refine ⟨b, _, rfl, sqT hb, rfl, ?_⟩
      walk_at "ru"
      generalize hf : (rus.take i).foldl (fun f (ru : List Int × Int) => lcmS f ru.1.sum.toNat) 1 = f
      have hf0 : 0 < f := by
        rw [← hf]
        exact turnN_pos (fun ru hru => (hrn ru (List.mem_of_mem_take hru)).1.sum) 1 (by decide)
      have es : ru.1.sum = (ru.1.sum.toNat : Int) := by omega
      have hg0 : 0 < Nat.gcd f ru.1.sum.toNat := Nat.gcd_pos_of_pos_left _ hf0
      have hg1 : Nat.gcd f ru.1.sum.toNat ≤ ru.1.sum.toNat := Nat.gcd_le_right _ (by omega)
      refine ⟨r, _, rfl, sqT hr1.at_, _, rfl, .inr (by omega), r, _, rfl, sqT hr1.at_, f, ru.1.sum.toNat, by rw [← es], _, rfl, ⟨by omega, by omega⟩, rfl, some (.ref r), some (.int ru.2), ?_⟩
      rw [take_next hru, List.foldl_append, hf]
      simp only [List.foldl_cons, List.foldl_nil]
      have : (f : Int) * ru.1.sum / (Nat.gcd f ru.1.sum.toNat : Int) = (lcmS f ru.1.sum.toNat : Nat) := by
        unfold lcmS
        rw [Int.natCast_ediv, Int.natCast_mul, ← es]
      rw [this]
    · rintro σ H5 ⟨rfl, y2, y3, rfl⟩
      rw [hxl, List.take_length]
      walk_at "ru"
      subst hK_
      first | with_reducible refine seq_k fun K_ hK_ => ?_ | skip
      walk_at "ru"
      exact q
/-- rules small enough to be weighed -/
def smallR (rus : List (List Int × Int)) : Prop := rus.length ≤ 3 ∧ ∀ ru ∈ rus, ru.2 ≤ 4 ∧ ru.1.sum ≤ 6
instance (rus : List (List Int × Int)) : Decidable (smallR rus) := by unfold smallR; infer_instance
abbrev nm_look_small : List Str := ["rules", "rounds", "many"]
abbrev pm_look_small : List Str := ["rules"]
abbrev lv_look_small : Nat := 5
theorem sc_look_small : FnScope nm_look_small pm_look_small (defScope s_look_small) := ⟨rfl, rfl, rfl, by decide +kernel, rfl, by decide +kernel, by decide +kernel⟩
def sp_look_small (K : PySem.W.Frag) (mg : Str → Option Value) : Sp := fun vs H Q E => ∃ (a : Addr) (rus : List (List Int × Int)), vs = [.ref a] ∧ RulesAt H a rus ∧
  (smallR rus → ∀ H', Same H H' → Q .non H') ∧ (¬ smallR rus → ∀ H', Same H H' → E (.ref (cls mg "BadRules")) none H')
theorem f_look_small (T : Txt K mg) : Fk P w K mg base (L2.CX P w) lv_look_small "look_small" pm_look_small (sp_look_small K mg) := by
  obtain ⟨f, fd, F, g, b⟩ := T.d_look_small.ex
  refine ⟨f, fd, g, F.kp, b, F.okX sc_look_small (fun vs H Q E h => ?_) (fun cdv A outer s H vs Q E hr h => ?_)⟩
  · obtain ⟨a, rus, rfl, _⟩ := h; rfl
  · obtain ⟨a, rus, rfl, hR, q1, q2⟩ := h
    refine ⟨_, (pss_cons (ps_expr (pe_fn (f_look_rules T) (hr.mono (by decide)) (by rfl) (passX (takes_of rfl rfl rfl rfl)) (pa_cons (pv 0) pa_nil)))
      (pss_one (ps_if (PW.pt (pw_or (pt_cmpR op_gt (pe_callB call_len_seq (by rfl) T.b_len PySem.boot_len (pa_cons (pv 0) pa_nil)) pe_int (nomark _)) (pw_or1 (pt_not (pt_val (pe_callB (cr_all rfl) (by rfl) T.b_all (by decide +kernel) (pa_cons (pe_lc (own := [("rounds", 1), ("many", 2)]) (g := gTup K 2 (gCons (gName 1) (gCons (gName 2) (gNil)))) (tt := tYes) (by rfl) sc_look_small.nd (pi_tup (pv 0)) (blkOk_by (own := [("rounds", 1), ("many", 2)]) (N := nm_look_small) (sc := defScope s_look_small) (by decide +kernel)) (fun _ _ _ _ _ => (pg_tupK K rfl rfl (pgs_cons (pg_name (i := 1) sc_look_small.nd rfl (Or.inl rfl)) (pgs_cons (pg_name (i := 2) sc_look_small.nd rfl (Or.inl rfl)) pgs_nil)))) (fun _ _ _ _ _ => pts_nil) (fun _ _ _ _ _ => (pe_and (pe_cmpR op_le (pv 2) pe_int (nomark _)) (pe_one (pe_cmpR op_le (pe_callB (cr_sumTK K rfl rfl) (by rfl) T.b_sum (by decide +kernel) (pa_cons (pv 1) pa_nil)) pe_int (nomark _)))))) pa_nil))))))) (pss_one (ps_raise rfl (takes_of rfl rfl rfl rfl) (pmk_own PySem.F.excBase_RuntimeError T.x_BadRules.xP T.x_BadRules.gP T.x_BadRules.kP T.x_BadRules.rs rfl))) pss_nil))), ?_⟩
    with_reducible refine seq_k fun K_ hK_ => ?_
    walk_at "ru"
    refine ⟨.ref a, rfl, hR.thing, fun _ H1 s1 => ?_, fun e => by rw [hR.is] at e; cases e⟩
    walk_at "ru"
    subst hK_
    first | with_reducible refine seq_k fun K_ hK_ => ?_ | skip
    walk_at "ru"
    obtain ⟨xs, ha, hv⟩ := hR.x
    have ha1 := s1 _ _ ha
    have hrn := hv.rnds
    refine ⟨xs, .inr (sqT ha1), ?_⟩
    rw [hv.1]
    by_cases c1 : (3 : Int) < (rus.length : Nat)
    · rw [if_pos c1]
      exact q2 (fun z => by have := z.1; omega) H1 s1
    rw [if_neg c1]
    refine ⟨⟨_, sqT ha1⟩, fun D hD => ?_⟩
    refine lcT hD (sqT ha1) (fun i => (rus.take i).map fun ru => V.bl (decide (ru.2 ≤ 4) && decide (ru.1.sum ≤ 6))) rfl (fun j x HE hx pw => ?_) (fun HE sE hDE => ?_)
    · obtain ⟨ru, hru, b1, ro, rfl, hb1, hro, m0, m1⟩ := hv.2 j x hx
      have sE := s1.trans pw.same
      have hl5 := hR.l5
      refine ⟨b1, _, rfl, sqT (sE _ _ hb1), rfl, ?_⟩
      walk_at "ru"
      have fin : ∀ d : Bool, (decide (ru.2 ≤ 4) && decide (ru.1.sum ≤ 6)) = d → ∃ acc, HE D = some (.lst acc) ∧ acc.length < sizeLine ∧ LcP H1 D (fun i => (rus.take i).map fun ru => V.bl (decide (ru.2 ≤ 4) && decide (ru.1.sum ≤ 6))) (j + 1) (upd HE D (.lst (acc ++ [.bl d]))) := fun d hd =>
        pw.push hD (by rw [List.length_map, List.length_take]; omega) (Same.refl _) (by rw [map_take_next _ hru, hd])
      by_cases c4 : ru.2 ≤ 4
      · rw [if_pos c4]
        refine ⟨ro, ru.1, rfl, sqT (sE _ _ hro.at_), _, rfl, ?_⟩
        exact fin _ (by simp [c4])
      · rw [if_neg c4]
        exact fin false (by simp [c4])
    · rw [hv.1, List.take_length] at hDE
      refine ⟨D, rus.map fun ru => decide (ru.2 ≤ 4) && decide (ru.1.sum ≤ 6), rfl, sqL (by rw [hDE, List.map_map]; rfl), _, rfl, ?_⟩
      have e : (rus.map fun ru => decide (ru.2 ≤ 4) && decide (ru.1.sum ≤ 6)).all id = true ↔ ∀ ru ∈ rus, ru.2 ≤ 4 ∧ ru.1.sum ≤ 6 := by
        rw [List.all_map, List.all_eq_true]
        simp
      by_cases c2 : (rus.map fun ru => decide (ru.2 ≤ 4) && decide (ru.1.sum ≤ 6)).all id = true
      · rw [if_neg (by rw [c2]; simp)]
        exact q1 ⟨by omega, e.mp c2⟩ HE (s1.trans sE)
      · rw [if_pos (by simpa using c2)]
        exact q2 (fun z => c2 (e.mpr z.2)) HE (s1.trans sE)
abbrev nm_look_turn : List Str := ["rules"]
abbrev pm_look_turn : List Str := ["rules"]
abbrev lv_look_turn : Nat := 3
theorem sc_look_turn : FnScope nm_look_turn pm_look_turn (defScope s_look_turn) := ⟨rfl, rfl, rfl, by decide +kernel, rfl, by decide +kernel, by decide +kernel⟩
def sp_look_turn (K : PySem.W.Frag) (mg : Str → Option Value) : Sp := fun vs H Q E => ∃ (a : Addr) (rus : List (List Int × Int)), vs = [.ref a] ∧ RuX H a rus ∧
  (turnN rus ≤ 12 → Q .non H) ∧ (¬ turnN rus ≤ 12 → ∀ H', Same H H' → E (.ref (cls mg "BadRules")) none H')
theorem f_look_turn (T : Txt K mg) : Fk P w K mg base (L2.CX P w) lv_look_turn "look_turn" pm_look_turn (sp_look_turn K mg) := by
  obtain ⟨f, fd, F, g, b⟩ := T.d_look_turn.ex
  refine ⟨f, fd, g, F.kp, b, F.okX sc_look_turn (fun vs H Q E h => ?_) (fun cdv A outer s H vs Q E hr h => ?_)⟩
  · obtain ⟨a, rus, rfl, _⟩ := h; rfl
  · obtain ⟨a, rus, rfl, hR, q1, q2⟩ := h
    refine ⟨_, (pss_one (ps_if (pt_cmpR op_gt (pe_fn (f_turn_of T) (hr.mono (by decide)) (by rfl) pass0 (pa_cons (pv 0) pa_nil)) pe_int (nomark _)) (pss_one (ps_raise rfl (takes_of rfl rfl rfl rfl) (pmk_own PySem.F.excBase_RuntimeError T.x_BadRules.xP T.x_BadRules.gP T.x_BadRules.kP T.x_BadRules.rs rfl))) pss_nil)), ?_⟩
    walk_at "ru"
    refine ⟨a, rus, rfl, hR, _, rfl, ?_⟩
    refine ite2 (fun c => ?_) (fun c => ?_)
    · exact q2 (by omega) H (Same.refl _)
    · exact q1 (by omega)
end
end Nk
namespace Nk
open PySem L2
section
variable {X : Cx}
/-- a list, whatever it holds, != [] -/
def rNeNil (K : PySem.W.Frag) : R2 := fun x y H Q => ∃ (a b : Addr) (xs : List V), x = .ref a ∧ y = .ref b ∧ SqL K H a xs ∧ SqL K H b [] ∧ Q (.bl (decide (0 < xs.length))) H
theorem op_neNil (K : PySem.W.Frag) (hK : X.K = K) (hu : X.A.units < cLine) : OpR X (compareOp .NotEq) (rNeNil K) := by
  subst hK
  intro pins s σ H x y v u Q I rx ry h
  obtain ⟨a, b, xs, rfl, rfl, ha, hb, q⟩ := h
  obtain rfl : v = Value.ref a := rx
  obtain rfl : u = Value.ref b := ry
  obtain ⟨its, r1, p1, _⟩ := I.list ha
  obtain ⟨its2, r2, p2, _⟩ := I.list hb
  cases r2
  have hl := r1.length
  show wpAny _ _ (richCompare .NotEq (.ref a) (.ref b)) _ _ _
  by_cases c : xs.length = 0
  · refine SeqAt.RcNeAt.lists (e := fun _ => true) p1.isList p2.isList ?_ hu ?_ _ _ _ _ ?_
    · rw [List.size_toArray, ← hl, c]; rfl
    · intro j h1 h2
      exact absurd h2 (by simp)
    · refine fin_bl I q ?_
      simp [c]
  · refine SeqAt.RcNeAt.lists_lengths p1.isList p2.isList ?_ hu _ _ _ _ ?_
    · simp; intro z; rw [z] at hl; exact c hl
    · refine fin_bl I q ?_
      simp; omega
end
end Nk
/-! ### rules weighed: nodes as keys -/
namespace Nk
open PySem L2
theorem sl_tupAK {X : L2.Cx} (K : PySem.W.Frag) (h : X.K = K) : SlR X (rSlA K) := h ▸ sl_tupA
/-- a node as a key -/
def seenN (sn : Seen) : List NestedKey := sn.map fun c => .tup [.num c.1, .num (if c.2 then 1 else 0)]
def keyN (nd : Node) : NestedKey := .tup [.num nd.1, .tup (seenN nd.2)]
theorem seenN_inj : ∀ {a b : Seen}, seenN a = seenN b → a = b
  | [], [], _ => rfl
  | [], _ :: _, h => by simp [seenN] at h
  | _ :: _, [], h => by simp [seenN] at h
  | (c, x) :: a, (d, y) :: b, h => by
    unfold seenN at h
    rw [List.map_cons, List.map_cons] at h
    obtain ⟨h1, h2⟩ := List.cons.inj h
    injection h1 with h1
    obtain ⟨h3, h4⟩ := List.cons.inj h1
    injection h3 with h3
    injection h4 with h4
    injection h4 with h4
    have h5 : x = y := by
      cases x <;> cases y <;> first | rfl | simp at h4
    have h3 : c = d := h3
    rw [h3, h5, seenN_inj (a := a) (b := b) h2]
theorem keyN_inj {a b : Node} (h : keyN a = keyN b) : a = b := by
  unfold keyN at h
  injection h with h
  obtain ⟨h1, h2⟩ := List.cons.inj h
  injection h1 with h1
  obtain ⟨h3, _⟩ := List.cons.inj h2
  injection h3 with h3
  exact Prod.ext h1 (seenN_inj h3)
theorem keyN_depth (nd : Node) : (keyN nd).depth ≤ 8 := by
  have h : ∀ sn : Seen, NestedKey.depthAll (seenN sn) ≤ 1 := by
    intro sn
    induction sn with
    | nil => simp [seenN, NestedKey.depthAll]
    | cons c sn ih =>
      unfold seenN at ih ⊢
      rw [List.map_cons, NestedKey.depthAll]
      have : NestedKey.depth (.tup [.num c.1, .num (if c.2 = true then 1 else 0)]) = 1 := by simp [NestedKey.depth, NestedKey.depthAll]
      rw [this]
      exact Nat.max_le.mpr ⟨Nat.le_refl _, ih⟩
  have := h nd.2
  unfold keyN
  simp only [NestedKey.depth, NestedKey.depthAll]
  omega
theorem seen_key {H : Hp} {b : Addr} {sn : Seen} (h : SeenAt H b sn) (hl : sn.length ≤ 4) : NKey H (.tup (seenN sn)) (.ref b) := by
  obtain ⟨xs, hb, hlen, hx⟩ := h
  have one : ∀ (i : Nat) x c, xs[i]? = some x → sn[i]? = some c → NKey H (.tup [.num c.1, .num (if c.2 then 1 else 0)]) x := fun i x c h1 h2 => by
    obtain ⟨c', b', h3, h4, h5⟩ := hx i x h1
    rw [h2] at h3
    cases h3
    subst h4
    exact .tup2 h5 (.num _) (.bl _)
  match sn, xs, hlen, hl with
  | [], [], _, _ => exact .tup0 hb
  | [c], [x], _, _ => exact .tup1 hb (one 0 x c rfl rfl)
  | [c, d], [x, y], _, _ => exact .tup2 hb (one 0 x c rfl rfl) (one 1 y d rfl rfl)
  | [c, d, e], [x, y, z], _, _ => exact .tup3 hb (one 0 x c rfl rfl) (one 1 y d rfl rfl) (one 2 z e rfl rfl)
  | [c, d, e, f], [x, y, z, u], _, _ => exact .tup4 hb (one 0 x c rfl rfl) (one 1 y d rfl rfl) (one 2 z e rfl rfl) (one 3 u f rfl rfl)
theorem node_key {H : Hp} {t b : Addr} {nd : Node} (ht : H t = some (.tup [.int nd.1, .ref b])) (h : SeenAt H b nd.2) (hl : nd.2.length ≤ 4) : NKey H (keyN nd) (.ref t) := .tup2 ht (.num _) (seen_key h hl)
theorem nVal_none {kvs : List (NestedKey × Addr × V)} {k : NestedKey} : (nVal kvs k).isSome = true ↔ k ∈ kvs.map (·.1) := by
  unfold nVal
  rw [Option.isSome_map, List.find?_isSome]
  simp only [decide_eq_true_eq, List.mem_map]
theorem Kn.val {K : List Node} {kvs : List (NestedKey × Addr × V)} (e : kvs.map (·.1) = K.map keyN) (nd : Node) : (nVal kvs (keyN nd)).isSome = decide (nd ∈ K) := by
  rw [Bool.eq_iff_iff, nVal_none, e, List.mem_map, decide_eq_true_eq]
  constructor
  · rintro ⟨a, ha, h⟩
    rw [← keyN_inj h]; exact ha
  · exact fun h => ⟨nd, h, rfl⟩
end Nk
/-! ### rules weighed: one rule beside others, gone through layer by layer -/
namespace Nk
open PySem L2
/-- an item that stands -/
def ItemAt (H : Hp) (x : V) (it : Item) : Prop := ∃ t b g, x = .ref t ∧ H t = some (.tup [.int it.nd.1, .ref b, .int it.start, .ref g]) ∧ SeenAt H b it.nd.2 ∧ H g = some (.tup (it.ages.map V.int))
theorem ItemAt.tk {H H' : Hp} {x : V} {it : Item} (h : ItemAt H x it) (s : TK H H') : ItemAt H' x it := let ⟨t, b, g, h1, h2, h3, h4⟩ := h; ⟨t, b, g, h1, s _ _ h2, h3.tk s, s _ _ h4⟩
def ItemVs (H : Hp) (xs : List V) (its : List Item) : Prop := xs.length = its.length ∧ ∀ (i : Nat) x, xs[i]? = some x → ∃ it, its[i]? = some it ∧ ItemAt H x it
theorem ItemVs.tk {H H' : Hp} {xs : List V} {its : List Item} (h : ItemVs H xs its) (s : TK H H') : ItemVs H' xs its := ⟨h.1, fun i x hx => let ⟨it, h1, h2⟩ := h.2 i x hx; ⟨it, h1, h2.tk s⟩⟩
theorem ItemVs.nil {H : Hp} : ItemVs H [] [] := ⟨rfl, fun i x h => by simp at h⟩
theorem ItemVs.snoc {H : Hp} {xs : List V} {es : List Item} {x : V} {e : Item} (h : ItemVs H xs es) (r : ItemAt H x e) : ItemVs H (xs ++ [x]) (es ++ [e]) := by
  refine ⟨by simp [h.1], fun i y hy => ?_⟩
  rcases Nat.lt_or_ge i xs.length with hl | hl
  · rw [List.getElem?_append_left hl] at hy
    obtain ⟨e', h1, h2⟩ := h.2 i y hy
    exact ⟨e', by rw [List.getElem?_append_left (by have := h.1; omega)]; exact h1, h2⟩
  · rw [List.getElem?_append_right hl] at hy
    have hi : i - xs.length = 0 := by
      have := lt_of_get hy
      simp at this; omega
    rw [hi] at hy
    cases hy
    exact ⟨e, by rw [List.getElem?_append_right (by have := h.1; omega), show i - es.length = 0 by have := h.1; omega]; rfl, r⟩
/-- known nodes -/
def Kn (P : Program) (w : World) (H : Hp) (kn : Addr) (K : List Node) : Prop := ∃ kvs, NDict P w H kn kvs ∧ kvs.map (·.1) = K.map keyN
/-- what nights tell: they show that a rule keeps one that others don't; none fewer do -/
structure Told (ru : List Int × Int) (ot : List (List Int × Int)) (ns : List Int) : Prop where
  rise : ns.Pairwise (· < ·)
  bnd : ∀ z ∈ ns, 0 ≤ z ∧ z ≤ 1000
  wit : Wit ru ot ns
  few : ∀ ms : List Int, ms.Pairwise (· < ·) → Wit ru ot ms → ns.length ≤ ms.length
  l13 : ns.length ≤ 13
theorem manys_le : ∀ {ot : List (List Int × Int)}, (∀ q ∈ ot, q.2 ≤ 4) → manys ot ≤ 4 * ot.length
  | [], _ => by simp [manys]
  | o :: ot, h => by
    have ih := manys_le (ot := ot) fun q hq => h q (by simp [hq])
    have := h o (by simp)
    unfold manys at *
    rw [List.map_cons, List.sum_cons, List.length_cons]
    omega
section
variable {P : Program} {w : World} {K : PySem.W.Frag} {mg : Str → Option Value} {base : Heap}
theorem Kn.keep {H H' : Hp} {kn : Addr} {K : List Node} (h : Kn P w H kn K) (e : H' kn = H kn) (s : TK H H') : Kn P w H' kn K := let ⟨kvs, d, e2⟩ := h; ⟨kvs, d.keeps e s, e2⟩
theorem Kn.same {H H' : Hp} {kn : Addr} {K : List Node} (h : Kn P w H kn K) (s : Same H H') : Kn P w H' kn K := by
  obtain ⟨kvs, d, e2⟩ := h
  exact ⟨kvs, d.keeps ((s _ _ d.at_).trans d.at_.symm) (Same.tk s), e2⟩
theorem ixLastT {H : Hp} {p : Addr} {xs : List V} {v : V} {Q : VK} (h : SqT K H p xs) (e : xs.getLast? = some v) (q : Q v H) : rIxT K (.ref p) (.int (-1)) H Q := by
  have sn : ∀ l : List V, l = [] ∨ ∃ m y, l = m ++ [y] := fun l => by
    induction l with
    | nil => exact .inl rfl
    | cons a l ih =>
      rcases ih with e | ⟨m, y, e⟩
      · exact .inr ⟨[], a, by rw [e]; rfl⟩
      · exact .inr ⟨a :: m, y, by rw [e]; rfl⟩
  rcases sn xs with e2 | ⟨l, y, e2⟩
  · rw [e2] at e; cases e
  · subst e2
    rw [List.getLast?_concat] at e
    cases e
    exact ⟨p, _, -1, _, rfl, rfl, h, atI_last _ _, q⟩
/-- while a layer is gone through -/
structure OdIn (P : Program) (w : World) (H H' : Hp) (a ly kn lt : Addr) (rus : List (List Int × Int)) (turn : Int) (d : Nat) (K0 : List Node) (layer : List Item) (zs : List V) (Kx : List Node) (later : List Item) (i j : Nat) : Prop where
  s0 : Same H H'
  ru : RuX H' a rus
  lyA : H' ly = some (.lst zs)
  lyI : ItemVs H' zs layer
  ltA : ∃ us, H' lt = some (.lst us) ∧ ItemVs H' us later
  kn : Kn P w H' kn Kx
  b : BfsIn rus turn d K0 Kx layer later i j
  nd : Kx.Nodup
  al : ∀ z ∈ Kx, z ∈ allNodes rus turn
theorem OdIn.same {H H' H'' : Hp} {a ly kn lt : Addr} {rus : List (List Int × Int)} {turn : Int} {d : Nat} {K0 : List Node} {layer : List Item} {zs : List V} {Kx : List Node} {later : List Item} {i j : Nat} (h : OdIn P w H H' a ly kn lt rus turn d K0 layer zs Kx later i j) (s : Same H' H'') : OdIn P w H H'' a ly kn lt rus turn d K0 layer zs Kx later i j := by
  obtain ⟨us, h1, h2⟩ := h.ltA
  exact ⟨h.s0.trans s, h.ru.tk (Same.tk s), s _ _ h.lyA, h.lyI.tk (Same.tk s), ⟨us, s _ _ h1, h2.tk (Same.tk s)⟩, h.kn.same s, h.b, h.nd, h.al⟩
theorem OdIn.with {H H' : Hp} {a ly kn lt : Addr} {rus : List (List Int × Int)} {turn : Int} {d : Nat} {K0 : List Node} {layer : List Item} {zs : List V} {Kx : List Node} {later : List Item} {i j i' j' : Nat} (h : OdIn P w H H' a ly kn lt rus turn d K0 layer zs Kx later i j) (b : BfsIn rus turn d K0 Kx layer later i' j') : OdIn P w H H' a ly kn lt rus turn d K0 layer zs Kx later i' j' := { h with b := b }
def iv_od1 (P : Program) (w : World) (x : V) (o a : Addr) (turn : Int) (rus : List (List Int × Int)) (H : Hp) (ly kn lt : Addr) (d : Nat) (K0 : List Node) (layer : List Item) (zs : List V) (i : Nat) (σ : L2.St) (H' : Hp) : Prop :=
  ∃ (Kx : List Node) (later : List Item) (y7 y8 y9 y10 y11 y12 y13 y14 : Option V), σ = [some x, some (.ref o), some (.ref a), some (.int turn), some (.ref ly), some (.ref kn), some (.ref lt), y7, y8, y9, y10, y11, y12, y13, y14] ∧ OdIn P w H H' a ly kn lt rus turn d K0 layer zs Kx later i 0
def iv_od2 (P : Program) (w : World) (x : V) (o a : Addr) (turn : Int) (rus : List (List Int × Int)) (H : Hp) (ly kn lt : Addr) (d : Nat) (K0 : List Node) (layer : List Item) (zs : List V) (it : Item) (b g : Addr) (H7 : Hp) (sl : Addr) (es : List V) (i j : Nat) (σ : L2.St) (H' : Hp) : Prop :=
  ∃ (Kx : List Node) (later : List Item) (y11 y12 y13 y14 : Option V), σ = [some x, some (.ref o), some (.ref a), some (.int turn), some (.ref ly), some (.ref kn), some (.ref lt), some (.int it.nd.1), some (.ref b), some (.int it.start), some (.ref g), y11, y12, y13, y14] ∧ OdIn P w H H' a ly kn lt rus turn d K0 layer zs Kx later i j ∧ H' sl = some (.lst es) ∧ StepVs H7 H' es (stepsF rus turn it.nd) ∧ H' g = some (.tup (it.ages.map V.int))
def iv_od (P : Program) (w : World) (x : V) (o a : Addr) (turn : Int) (rus : List (List Int × Int)) (H : Hp) (kn : Addr) (m : Nat) (σ : L2.St) (H' : Hp) : Prop :=
  ∃ (d : Nat) (D Kx : List Node) (layer : List Item) (ly : Addr) (zs : List V) (y6 y7 y8 y9 y10 y11 y12 y13 y14 : Option V),
    σ = [some x, some (.ref o), some (.ref a), some (.int turn), some (.ref ly), some (.ref kn), y6, y7, y8, y9, y10, y11, y12, y13, y14] ∧ Same H H' ∧ ly ≠ kn ∧ H ly = none ∧ H' ly = some (.lst zs) ∧ ItemVs H' zs layer ∧ Kn P w H' kn Kx ∧ RuX H' a rus ∧ Bfs rus turn d D Kx layer ∧ Kx.Nodup ∧ (∀ z ∈ Kx, z ∈ allNodes rus turn) ∧ m = 2 * (3072 - Kx.length) + (if layer = [] then 0 else 1) ∧ (layer ≠ [] → d ≤ Kx.length)
abbrev nm_outdone : List Str := ["rule", "others", "rules", "turn", "layer", "known", "later", "place", "seen", "start", "ages", "far", "spot", "behind", "by"]
abbrev pm_outdone : List Str := ["rule", "others"]
abbrev lv_outdone : Nat := 4
theorem sc_outdone : FnScope nm_outdone pm_outdone (defScope s_outdone) := ⟨rfl, rfl, rfl, by decide +kernel, rfl, by decide +kernel, by decide +kernel⟩
def sp_outdone : Sp := fun vs H Q _ => ∃ (x : V) (o : Addr) (ru : List Int × Int) (ot : List (List Int × Int)), vs = [x, .ref o] ∧ RuleAt H x ru ∧ RuX H o ot ∧ ot ≠ [] ∧ ot.length ≤ 3 ∧ (∀ q ∈ ru :: ot, q.2 ≤ 4) ∧ turnN (ru :: ot) ≤ 12 ∧
  (∀ H', Same H H' → (∀ ns : List Int, ns.Pairwise (· < ·) → ¬ Wit ru ot ns) → Q .non H') ∧
  (∀ p ns H', Same H H' → H p = none → H' p = some (.lst (ns.map V.int)) → Told ru ot ns → Q (.ref p) H')
theorem f_outdone (T : Txt K mg) : Fk P w K mg base CX0 lv_outdone "outdone" pm_outdone sp_outdone := by
  obtain ⟨f, fd, F, g, b⟩ := T.d_outdone.ex
  refine ⟨f, fd, g, F.kp, b, F.ok sc_outdone (fun vs H Q E h => ?_) (fun cdv A outer s H vs Q E hr h => ?_)⟩
  · obtain ⟨x, o, ru, ot, rfl, _⟩ := h; rfl
  · obtain ⟨x, o, ru, ot, rfl, hru, hot, hne, hl3, h4, ht12, q1, q2⟩ := h
    refine ⟨_, (pss_cons (ps_set (i := 2) sc_outdone.nd rfl (.inr rfl) (pe_op op_catT3 (pe_tup (pa_cons (pv 0) pa_nil)) (pv 1)))
      (pss_cons (ps_set (i := 3) sc_outdone.nd rfl (.inl rfl) (pe_fn (f_turn_of T) (hr.mono (by decide)) (by rfl) pass0 (pa_cons (pv 2) pa_nil)))
      (pss_cons (ps_setLc (own := [("place", 7)]) (g := gName 7) (tt := tYes) (i := 4) (by rfl) sc_outdone.nd rfl rfl (sw_true rfl rfl rfl (by decide +kernel)) (pi_range1 (by rfl) T.b_range (pa_cons (pv 3) pa_nil)) (blkOk_by (own := [("place", 7)]) (N := nm_outdone) (sc := defScope s_outdone) (by decide +kernel)) (fun _ _ _ _ _ => (pg_name (i := 7) sc_outdone.nd rfl (Or.inl rfl))) (fun _ _ _ _ _ => pts_nil) (fun _ _ _ _ _ => (pe_tup (pa_cons (pv 7) (pa_cons (pe_fn (f_stood T) (hr.mono (by decide)) (by rfl) pass0 (pa_cons (pv 2) pa_nil)) (pa_cons (pv 7) (pa_cons (pe_tup (pa_cons pe_int pa_nil)) pa_nil)))))))
      (pss_cons (ps_set (i := 5) sc_outdone.nd rfl (.inl rfl) (pe_dnewN rfl rfl))
      (pss_cons (ps_while PassesOwn.never (pt_cmpR (op_neNil K rfl hr.units0) (pv 4) (pe_lst pa_nil) (nomark _)) (pss_cons (ps_set (i := 6) sc_outdone.nd rfl (.inl rfl) (pe_lst pa_nil))
      (pss_cons (ps_for PassesOwn.never rfl (pi_list (pv 4)) (pg_tup rfl (pgs_cons (pg_name (i := 7) sc_outdone.nd rfl (Or.inl rfl)) (pgs_cons (pg_name (i := 8) sc_outdone.nd rfl (Or.inl rfl)) (pgs_cons (pg_name (i := 9) sc_outdone.nd rfl (Or.inl rfl)) (pgs_cons (pg_name (i := 10) sc_outdone.nd rfl (Or.inl rfl)) pgs_nil))))) (pss_one (ps_for PassesOwn.never rfl (pi_list (pe_fn (f_steps T) (hr.mono (by decide)) (by rfl) pass0 (pa_cons (pv 2) (pa_cons (pv 3) (pa_cons (pv 7) (pa_cons (pv 8) pa_nil)))))) (pg_tup rfl (pgs_cons (pg_name (i := 11) sc_outdone.nd rfl (Or.inl rfl)) (pgs_cons (pg_name (i := 12) sc_outdone.nd rfl (Or.inl rfl)) (pgs_cons (pg_name (i := 13) sc_outdone.nd rfl (Or.inl rfl)) (pgs_cons (pg_name (i := 14) sc_outdone.nd rfl (Or.inl rfl)) pgs_nil))))) (pss_cons (ps_if (pt_cmpR (op_eqD hr.units) (pv 14) (pe_lst (pa_cons pe_int pa_nil)) (nomark _)) (pss_one (ps_ret (pe_fn (f_nights_from T) (hr.mono (by decide)) (by rfl) pass0 (pa_cons (pv 3) (pa_cons (pv 9) (pa_cons (pe_op op_catT3 (pv 10) (pe_tup (pa_cons (pe_op op_add (pe_ix ix_tup (pv 10) (pe_un un_neg pe_int) (fun _ _ => rfl)) (pv 11)) pa_nil))) pa_nil)))))) pss_nil)
      (pss_one (ps_if (pt_cmp (pc_nnotin rfl rfl hr.units (pe_tup (pa_cons (pv 12) (pa_cons (pv 13) pa_nil))) (pv 5))) (pss_cons (ps_nput rfl rfl hr.units (pv 5) (pe_tup (pa_cons (pv 12) (pa_cons (pv 13) pa_nil))) pe_bl rfl)
      (pss_one (ps_expr (pe_bm PySem.F.plainAttrs_list PySem.F.slot_list_append PySem.F.type_list_append mt_append (pv 6) (pa_cons (pe_tup (pa_cons (pv 12) (pa_cons (pv 13) (pa_cons (pv 9) (pa_cons (pe_op op_catT3 (pv 10) (pe_tup (pa_cons (pe_op op_add (pe_ix ix_tup (pv 10) (pe_un un_neg pe_int) (fun _ _ => rfl)) (pv 11)) pa_nil))) pa_nil))))) pa_nil))))) pss_nil))))))
      (pss_one (ps_set (i := 4) sc_outdone.nd rfl (.inl rfl) (pv 6))))))
      (pss_one (ps_ret pe_non))))))), ?_⟩
    obtain ⟨ys, hy, hvy⟩ := hot
    obtain ⟨turn, hturn⟩ : ∃ turn : Int, (turnN (ru :: ot) : Int) = turn := ⟨_, rfl⟩
    with_reducible refine seq_k fun K_ hK_ => ?_
    walk_at "ru"
    intro p0 n_p0
    generalize hG_ : upd _ p0 _ = H1
    obtain ⟨s1, hp0⟩ := newF n_p0 hG_
    clear hG_
    refine ⟨p0, o, [x], ys, rfl, rfl, hp0, s1 _ _ hy, by have := hvy.1; simp; omega, fun a H2 s2 ha => ?_⟩
    have ha : H2 a = some (.tup (x :: ys)) := ha
    have s02 := s1.trans s2
    have hvr : RuleVs H2 (x :: ys) (ru :: ot) := by
      refine ⟨by simp [hvy.1], fun i z hz => ?_⟩
      cases i with
      | zero => cases hz; exact ⟨ru, rfl, hru.same s02⟩
      | succ i => obtain ⟨q, h1, h2⟩ := hvy.2 i z hz; exact ⟨q, h1, h2.same s02⟩
    have hR2 : RuX H2 a (ru :: ot) := ⟨_, ha, hvr⟩
    have hrn := hR2.rnds
    have T0 : TurnOf turn (ru :: ot) := by
      obtain ⟨h1, h2⟩ := turnN_dvd (ru :: ot) 1
      have hp : 0 < turnN (ru :: ot) := turnN_pos (fun q hq => (hrn q hq).1.sum) 1 (by decide)
      refine ⟨by omega, fun q hq => ⟨(hrn q hq).1, (hrn q hq).2.1⟩, fun q hq => ?_⟩
      have h3 := h2 q hq
      have hs := (hrn q hq).1.sum
      rw [← hturn]
      have : ((q.1.sum.toNat : Nat) : Int) ∣ (turnN (ru :: ot) : Nat) := Int.natCast_dvd_natCast.mpr h3
      rw [Int.toNat_of_nonneg (by omega)] at this
      exact this
    have tp := T0.pos
    have t12 : turn ≤ 12 := by omega
    walk_at "ru"
    subst hK_
    first | with_reducible refine seq_k fun K_ hK_ => ?_ | skip
    walk_at "ru"
    refine ⟨a, ru :: ot, rfl, hR2, ?_⟩
    rw [hturn]
    walk_at "ru"
    subst hK_
    first | with_reducible refine seq_k fun K_ hK_ => ?_ | skip
    walk_at "ru"
    have hl0 : (layer0 (ru :: ot) turn).length = turn.toNat := by unfold layer0; rw [List.length_map, List.length_range]
    refine ⟨by omega, by omega, fun ly hly => ?_⟩
    refine lc_it (walk_range (lo := 0) (n := turn.toNat)) (fun i H' => Same H2 H' ∧ ∃ zs, H' ly = some (.lst zs) ∧ ItemVs H' zs ((layer0 (ru :: ot) turn).take i)) ⟨same_upd hly, [], upd_same, .nil⟩ (fun i H5 _ p => trivial) (fun i v H5 H6 hi p hy => ?_) (fun H5 p => ?_)
    · obtain ⟨s5, zs, hD5, hzs⟩ := p
      obtain ⟨rfl, rfl⟩ := hy
      have hel : (layer0 (ru :: ot) turn)[i]? = some ⟨((i : Int), (ru :: ot).map fun _ => ((1 : Int), true)), (i : Int), [0]⟩ := by
        unfold layer0
        rw [List.getElem?_map, List.getElem?_range hi]
        rfl
      walk_at "ru"
      refine ⟨a, ru :: ot, rfl, hR2.tk (Same.tk s5), by simp; omega, fun q0 H7 s7 nq hq => ?_⟩
      intro g n_g
      generalize hG_ : upd _ g _ = H8
      obtain ⟨s8, hg⟩ := newF n_g hG_
      clear hG_
      have hg : H8 g = some (.tup (([0] : List Int).map V.int)) := hg
      intro t n_t
      generalize hG_ : upd _ t _ = H9
      obtain ⟨s9, ht⟩ := newF n_t hG_
      clear hG_
      have hzl := hzs.1
      rw [List.length_take, hl0] at hzl
      have hD9 := s9 _ _ (s8 _ _ (s7 _ _ hD5))
      refine ⟨zs, hD9, szl (by omega), Same.app (s5.trans (s7.trans (s8.trans s9))) hly, zs ++ [.ref t], upd_same, ?_⟩
      have tk : TK H9 (upd H9 ly (.lst (zs ++ [.ref t]))) := tk_upd hD9
      rw [take_next hel]
      rw [Int.zero_add] at ht
      exact ((hzs.tk (Same.tk (s7.trans (s8.trans s9)))).snoc (x := .ref t) ⟨t, q0, g, rfl, ht, hq.tk (Same.tk (s8.trans s9)), s9 _ _ hg⟩).tk tk
    obtain ⟨s5, zs, hD5, hzs⟩ := p
    rw [← hl0, List.take_length] at hzs
    walk_at "ru"
    subst hK_
    first | with_reducible refine seq_k fun K_ hK_ => ?_ | skip
    walk_at "ru"
    intro kn nkn ksys
    generalize hG_ : upd H5 kn _ = H6
    obtain ⟨s6, hkn⟩ := newF nkn hG_
    clear hG_
    have hK6 : Kn P w H6 kn [] := ⟨[], ⟨hkn, Nat.zero_le _, ksys, fun p hp => by simp at hp⟩, rfl⟩
    have s06 := ((s02.trans s5).trans s6)
    have hly6 := s6 _ _ hD5
    have hlk : ly ≠ kn := ne_of_none hD5 nkn
    have okn : H kn = none := (s02.trans s5).free nkn
    have oly : H ly = none := s02.free hly
    have hB0 : Bfs (ru :: ot) turn 0 [] [] (layer0 (ru :: ot) turn) := Bfs.first T0
    have kle : ∀ Kx : List Node, Kx.Nodup → (∀ z ∈ Kx, z ∈ allNodes (ru :: ot) turn) → Kx.length ≤ 3072 := fun Kx h1 h2 => known_le h4 (by simp; omega) t12 h1 h2
    have hrl : (ru :: ot).length ≤ 4 := by simp; omega
    walk_at "ru"
    subst hK_
    first | with_reducible refine seq_k fun K_ hK_ => ?_ | skip
    walk_at "ru"
    refine ⟨iv_od P w x o a turn (ru :: ot) H kn, ⟨_, 0, [], [], layer0 (ru :: ot) turn, ly, zs, none, none, none, none, none, none, none, none, none, rfl, s06, hlk, oly, hly6, hzs.tk (Same.tk s6), hK6, (hR2.tk (Same.tk (s5.trans s6))), hB0, List.nodup_nil, (fun z hz => by simp at hz), rfl, fun _ => Nat.zero_le _⟩, ?_⟩
    clear hK6 hly6 hzs s06 hB0
    rintro m σ HA ⟨d, D, K0, layer, ly, zs, y6, y7, y8, y9, y10, y11, y12, y13, y14, rfl, sA, hlk, oly, hlyA, hzs, hKn, hRA, hB, hnd, hal, rfl, hdK⟩
    walk_at "ru"
    intro n0 n_n0
    generalize hG_ : upd _ n0 _ = HB
    obtain ⟨sB, hn0⟩ := newF n_n0 hG_
    clear hG_
    refine ⟨ly, n0, zs, rfl, rfl, sqL (sB _ _ hlyA), sqL hn0, _, rfl, ?_⟩
    have sAB := sA.trans sB
    have hle3 := kle K0 hnd hal
    by_cases cl : layer = []
    · have hz0 : zs.length = 0 := by rw [hzs.1, cl]; rfl
      rw [if_neg (by simp [hz0])]
      subst hK_
      walk_at "ru"
      subst cl
      refine q1 HB sAB fun ns hns hw => ?_
      obtain ⟨L, z, hL, hd, hh, _⟩ := hw.hit hns (T0.ok ru (by simp)) (fun q hq => T0.ok q (by simp [hq])) hne
      exact hB.none T0 hL hd hh
    have hz0 : 0 < zs.length := by
      rw [hzs.1]
      exact List.length_pos_iff.mpr cl
    rw [if_pos (by simpa using hz0)]
    refine ⟨_, fun σ' H'' h => h, ?_⟩
    clear hK_
    have hlyB := sB _ _ hlyA
    have hzsB := hzs.tk (Same.tk sB)
    have hKnB := hKn.same sB
    have hRB := hRA.tk (Same.tk sB)
    with_reducible refine seq_k fun K_ hK_ => ?_
    walk_at "ru"
    intro lt n_lt
    generalize hG_ : upd _ lt _ = HC
    obtain ⟨sC, hlt⟩ := newF n_lt hG_
    clear hG_
    have hlyC := sC _ _ hlyB
    have nlyt : ly ≠ lt := ne_of_none hlyB n_lt
    have nknt : kn ≠ lt := by
      obtain ⟨kvs, dd, _⟩ := hKnB
      exact ne_of_none dd.at_ n_lt
    have olt : H lt = none := sAB.free n_lt
    have hdd := hdK cl
    walk_at "ru"
    subst hK_
    first | with_reducible refine seq_k fun K_ hK_ => ?_ | skip
    walk_at "ru"
    refine ⟨⟨_, sqL hlyC⟩, ?_⟩
    refine for_it (walk_list (xs := zs)) (iv_od1 P w x o a turn (ru :: ot) H ly kn lt d K0 layer zs) ⟨K0, [], y7, y8, y9, y10, y11, y12, y13, y14, rfl, sAB.trans sC, hRB.tk (Same.tk sC), hlyC, hzsB.tk (Same.tk sC), ⟨[], hlt, .nil⟩, hKnB.same sC, BfsIn.first, hnd, hal⟩ (fun i σ H5 _ iv => by obtain ⟨_, _, _, _, _, _, _, _, _, _, _, h⟩ := iv; exact sqL h.lyA) (fun i v σ H5 H6 hi iv hy => ?_) (fun σ H5 iv => ?_)
    · obtain ⟨Kx, later, y7, y8, y9, y10, y11, y12, y13, y14, rfl, O⟩ := iv
      obtain ⟨rfl, hv⟩ := hy
      obtain ⟨it, hit, t, b, g, rfl, ht, hsb, hg⟩ := O.lyI.2 i v hv
      have hIt := hB.ok it (mem_of_get hit)
      have hnl : it.nd.2.length = (ru :: ot).length := by
        rw [hIt.nd]
        unfold nodeF nodeAt
        rw [List.length_map]
      obtain ⟨la, hla, hlam⟩ := hIt.ag.last
      refine ⟨t, _, rfl, sqT ht, rfl, ?_⟩
      walk_at "ru"
      refine ⟨a, b, ru :: ot, turn, it.nd, rfl, O.ru, by omega, hsb, hnl, tp, by omega, fun sl es H7 s7 nsl hsl hst => ?_⟩
      refine ⟨sl, rfl, ⟨_, sqL hsl⟩, ?_⟩
      have O7 := O.same s7
      have hg7 := s7 _ _ hg
      have hsb7 := hsb.tk (Same.tk s7)
      have esl : es.length = (2 * turn).toNat := by
        rw [hst.1]
        unfold stepsF
        rw [List.length_map, List.length_range]
      have nslk : sl ≠ kn := by
        obtain ⟨kvs, dd, _⟩ := O.kn
        exact (ne_of_none dd.at_ nsl).symm
      have nslt : sl ≠ lt := by
        obtain ⟨us, h1, _⟩ := O.ltA
        exact (ne_of_none h1 nsl).symm
      have someK : ∃ ob, H6 kn = some ob := by
        obtain ⟨kvs, dd, _⟩ := O.kn
        exact ⟨_, dd.at_⟩
      have someT : ∃ ob, H6 lt = some ob := by
        obtain ⟨us, h1, _⟩ := O.ltA
        exact ⟨_, h1⟩
      refine for_it (walk_list (xs := es)) (iv_od2 P w x o a turn (ru :: ot) H ly kn lt d K0 layer zs it b g H6 sl es i) ⟨Kx, later, y11, y12, y13, y14, rfl, O7, hsl, hst, hg7⟩ (fun j σ H8 _ iv => by obtain ⟨_, _, _, _, _, _, _, _, h, _⟩ := iv; exact sqL h) (fun j v σ H8 H9 hj iv hy => ?_) (fun σ H8 iv => ?_)
      · obtain ⟨Kx, later, y11, y12, y13, y14, rfl, O8, hsl8, hst8, hg8⟩ := iv
        obtain ⟨rfl, hv⟩ := hy
        obtain ⟨e, he, t', b', l', rfl, ht', hb', nl', hl'⟩ := hst8.2 j v hv
        have hj2 : j < (2 * turn).toNat := by omega
        have ee : e = entF (ru :: ot) turn it.nd (j + 1) := by
          unfold stepsF at he
          rw [List.getElem?_map, List.getElem?_range hj2] at he
          cases he
          rfl
        have hj3 : ((j + 1 : Nat) : Int) ≤ 2 * turn := by omega
        refine ⟨t', _, rfl, sqT ht', rfl, ?_⟩
        walk_at "ru"
        with_reducible refine seq_k fun K_ hK_ => ?_
        walk_at "ru"
        intro n1 n_n1
        generalize hG_ : upd _ n1 _ = H10
        obtain ⟨s10, hn1⟩ := newF n_n1 hG_
        clear hG_
        have O10 := O8.same s10
        have hg10 := s10 _ _ hg8
        refine eqD (d := dLI e.2.2) (e := dLI [0]) (dp_LI (sqL (s10 _ _ hl'))) (dp_LI (sqL hn1)) (gd_dLI (k := 0) _) (gd_dLI (k := 0) _) (fun hb => ?_) (fun hb => ?_)
        · refine ⟨_, rfl, ?_⟩
          rw [if_pos rfl]
          have hbe : (entF (ru :: ot) turn it.nd (j + 1)).2.2 = [0] := by
            rw [← ee]
            unfold dLI at hb
            injection hb with hb
            exact List.map_inj_right (fun a b h => by injection h) |>.mp hb
          have hfar : e.1 = ((j + 1 : Nat) : Int) := by rw [ee]; rfl
          have hag2 : AgesOk turn (d + 1) (it.ages ++ [la + e.1]) := by rw [hfar]; exact hIt.ag.snoc hla (by omega) hj3 tp
          have okO : ∀ q ∈ ot, OkRu q := fun q hq => T0.ok q (by simp [hq])
          have hh := found_hit T0 hIt hla (n := j + 1) (by omega) hbe
          have hdL : Desc (it.L ++ [it.start - la - ((j + 1 : Nat) : Int)]) := by
            have := desc_ages hag2.pw it.start
            rw [List.map_append] at this
            have e2 : it.start - la - ((j + 1 : Nat) : Int) = it.start - (la + e.1) := by rw [hfar]; omega
            rw [e2]
            exact this
          have hL0 : it.L ≠ [] := by
            intro z
            have := congrArg List.length z
            unfold Item.L at this
            rw [List.length_map, hIt.ag.len] at this
            simp at this
          obtain ⟨M, hM, hdM, hhM, hlM⟩ := hh.few hdL hL0 (T0.ok ru (by simp)) okO hne
          have hmo := manys_le (ot := ot) fun q hq => h4 q (by simp [hq])
          have hd12 : d < 12 := by
            by_cases c : M.length ≤ d
            · exact absurd hhM (hB.few T0 hM hdM c)
            · omega
          refine ixLastT (v := .int la) (sqT hg10) (by rw [List.getLast?_map, hla]; rfl) ⟨_, rfl, ?_⟩
          intro p2 n_p2
          generalize hG_ : upd _ p2 _ = H11
          obtain ⟨s11, hp2⟩ := newF n_p2 hG_
          clear hG_
          refine ⟨g, p2, it.ages.map V.int, [.int (la + e.1)], rfl, rfl, s11 _ _ hg10, hp2, by rw [List.length_map, hIt.ag.len]; simp; omega, fun g2 H12 s12 hg2 => ?_⟩
          refine ⟨g2, turn, it.start, d + 1, it.ages ++ [la + e.1], rfl, .inl (sqT (by rw [hg2, List.map_append]; rfl)), hag2, by rw [hag2.len]; omega, tp, by omega, fun p m H13 s13 hm hmx np hp => ?_⟩
          have s813 := O10.s0.trans (s11.trans (s12.trans s13))
          have hln : (toldN turn it.start (it.ages ++ [la + e.1]) m).length = d + 2 := by
            unfold toldN
            rw [List.length_reverse, List.length_map, hag2.len]
          refine q2 p _ H13 s813 ((O10.s0.trans (s11.trans s12)).free np) hp ⟨told_rise hag2 _ _, fun z hz => ?_, by rw [hfar]; exact told_wit T0 hIt hla (by omega) hbe m, fun ms hms hw => ?_, by omega⟩
          · have h1 := told_bnd tp hag2 hIt.s0 hIt.s1 hm hmx z hz
            have h2 : 2 * turn * ((d + 1 : Nat) : Int) ≤ 24 * 12 := Int.mul_le_mul (by omega) (by omega) (by omega) (by decide)
            omega
          · obtain ⟨L, z, hL, hd, hh2, hll⟩ := hw.hit hms (T0.ok ru (by simp)) okO hne
            rw [hln]
            by_cases c : L.length ≤ d
            · exact absurd hh2 (hB.few T0 hL hd c)
            · omega
        · refine ⟨_, rfl, ?_⟩
          rw [if_neg (by simp)]
          have hbe : (entF (ru :: ot) turn it.nd (j + 1)).2.2 ≠ [0] := by
            rw [← ee]
            intro z
            exact hb (by rw [z])
          walk_at "ru"
          subst hK_
          first | with_reducible refine seq_k fun K_ hK_ => ?_ | skip
          walk_at "ru"
          intro p3 n_p3
          generalize hG_ : upd _ p3 _ = H11
          obtain ⟨s11, hp3⟩ := newF n_p3 hG_
          clear hG_
          have O11 := O10.same s11
          obtain ⟨kvs, dd, ekv⟩ := O11.kn
          have hb11 : SeenAt H11 b' e.2.1.2 := hb'.tk (Same.tk (s10.trans s11))
          have hel4 : e.2.1.2.length ≤ 4 := by
            rw [ee]
            show (copyF (ru :: ot) (backN (ru :: ot) turn (j + 1) it.nd).2).length ≤ 4
            unfold copyF
            rw [List.length_zipWith]
            omega
          refine ⟨kvs, dd, keyN e.2.1, node_key hp3 hb11 hel4, keyN_depth _, ?_⟩
          rw [Kn.val ekv]
          by_cases ck : e.2.1 ∈ Kx
          · rw [if_neg (by simp [ck])]
            exact ⟨Kx, later, _, _, _, _, rfl, O11.with (O11.b.old hit hbe (by rw [← ee]; exact ck)), s11 _ _ (s10 _ _ hsl8), (hst8.same s10).same s11, s11 _ _ hg10⟩
          · rw [if_pos (by simp [ck])]
            with_reducible refine seq_k fun K_ hK_ => ?_
            walk_at "ru"
            intro p4 n_p4
            generalize hG_ : upd _ p4 _ = H12
            obtain ⟨s12, hp4⟩ := newF n_p4 hG_
            clear hG_
            have O12 := O11.same s12
            obtain ⟨kvs2, dd2, ekv2⟩ := O12.kn
            have hb12 := hb11.tk (Same.tk s12)
            have hkl : kvs2.length = Kx.length := by
              have := congrArg List.length ekv2
              rw [List.length_map, List.length_map] at this
              exact this
            have hk3 := kle Kx O12.nd O12.al
            have ndK : nVal kvs2 (keyN e.2.1) = none := by
              have h1 := Kn.val ekv2 e.2.1
              rw [decide_eq_false ck] at h1
              cases h2 : nVal kvs2 (keyN e.2.1) with
              | none => rfl
              | some v => rw [h2] at h1; cases h1
            have hnk := node_key hp4 hb12 hel4
            have dput := dd2.put (v := .bl true) hnk (keyN_depth _) (szl (by omega))
            refine ⟨kvs2, dd2, keyN e.2.1, hnk, keyN_depth _, szl (by omega), ?_⟩
            rw [nPut_new ndK] at dput ⊢
            have hknn : ∃ φ, H12 kn = some (.ext φ) := ⟨_, dd2.at_⟩
            generalize hG_ : upd H12 kn _ = H13 at dput ⊢
            have keep13 : ∀ c ob, H12 c = some ob → c ≠ kn → H13 c = some ob := fun c ob h n => by rw [← hG_, upd_ne n]; exact h
            have tk13 : TK H12 H13 := fun c zs h => keep13 _ _ h (by
              obtain ⟨φ, hφ⟩ := hknn
              exact ne_of h hφ (by intro z; cases z))
            have s013 : Same H H13 := fun c ob h => keep13 _ _ (O12.s0 _ _ h) (ne_of_none h okn)
            have kn13 : Kn P w H13 kn (Kx ++ [e.2.1]) := ⟨_, dput, by rw [List.map_append, List.map_append, ekv2]; rfl⟩
            clear hG_ dput
            obtain ⟨us, hus, hui⟩ := O12.ltA
            have hus13 := keep13 _ _ hus nknt.symm
            have hg13 := tk13 _ _ (s12 _ _ (s11 _ _ hg10))
            have hfar : e.1 = ((j + 1 : Nat) : Int) := by rw [ee]; rfl
            have hnx := hIt.next T0 hla (n := j + 1) (by omega) hj3
            walk_at "ru"
            subst hK_
            first | with_reducible refine seq_k fun K_ hK_ => ?_ | skip
            walk_at "ru"
            refine ⟨tyL hus13, ?_⟩
            refine ixLastT (v := .int la) (sqT hg13) (by rw [List.getLast?_map, hla]; rfl) ⟨_, rfl, ?_⟩
            intro p5 n_p5
            generalize hG_ : upd _ p5 _ = H14
            obtain ⟨s14, hp5⟩ := newF n_p5 hG_
            clear hG_
            refine ⟨g, p5, it.ages.map V.int, [.int (la + e.1)], rfl, rfl, s14 _ _ hg13, hp5, by rw [List.length_map, hIt.ag.len]; simp; omega, fun g2 H15 s15 hg2 => ?_⟩
            intro p6 n_p6
            generalize hG_ : upd _ p6 _ = H16
            obtain ⟨s16, hp6⟩ := newF n_p6 hG_
            clear hG_
            have s36 := s14.trans (s15.trans s16)
            have hus16 := s36 _ _ hus13
            have hul := hui.1
            have hul2 : later.length ≤ 3072 := by have := O12.b.size; omega
            refine (app (K := K) hus16 (by omega) ?_).2
            generalize hG_ : upd H16 lt _ = H17
            have keep17 : ∀ c ob, H16 c = some ob → c ≠ lt → H17 c = some ob := fun c ob h n => by rw [← hG_, upd_ne n]; exact h
            have hus17 : H17 lt = some (.lst (us ++ [.ref p6])) := by rw [← hG_]; exact upd_same
            have tk17 : TK H16 H17 := by rw [← hG_]; exact tk_upd hus16
            clear hG_
            have tk27 : TK H12 H17 := (tk13.trans (Same.tk s36)).trans tk17
            have kp : ∀ c ob, H12 c = some ob → c ≠ kn → c ≠ lt → H17 c = some ob := fun c ob h n1 n2 => keep17 _ _ (s36 _ _ (keep13 _ _ h n1)) n2
            have mv : Mv [kn, lt] H12 H17 := ⟨fun c ob h n => kp c ob h (fun z => n (by simp [z])) (fun z => n (by simp [z])), tk27⟩
            have s017 : Same H H17 := fun c ob h => keep17 _ _ (s36 _ _ (s013 _ _ h)) (ne_of_none h olt)
            have hg2' : H15 g2 = some (.tup ((it.ages ++ [la + ((j + 1 : Nat) : Int)]).map V.int)) := by
              rw [hg2, List.map_append, hfar]
              rfl
            have hitm : ItemAt H17 (.ref p6) (it.next (entF (ru :: ot) turn it.nd (j + 1)).2.1 la ((j + 1 : Nat) : Int)) := by
              rw [← ee]
              exact ⟨p6, b', g2, rfl, tk17 _ _ hp6, hb12.tk tk27, tk17 _ _ (s16 _ _ hg2')⟩
            have hbnew := O12.b.new T0 hit hIt hbe hla hj3
            refine ⟨Kx ++ [(entF (ru :: ot) turn it.nd (j + 1)).2.1], later ++ [it.next (entF (ru :: ot) turn it.nd (j + 1)).2.1 la ((j + 1 : Nat) : Int)], _, _, _, _, rfl, ⟨s017, O12.ru.tk tk27, kp _ _ O12.lyA hlk nlyt, O12.lyI.tk tk27, ⟨_, hus17, (hui.tk tk27).snoc hitm⟩, ?_, hbnew, ?_, fun z hz => ?_⟩, kp _ _ (s12 _ _ (s11 _ _ (s10 _ _ hsl8))) nslk nslt, ((hst8.same (s10.trans (s11.trans s12))).step mv fun c hc => ?_), tk27 _ _ (s12 _ _ (s11 _ _ hg10))⟩
            · rw [← ee]
              exact (kn13.same s36).keep (by
                obtain ⟨_, dq, _⟩ := kn13.same s36
                rw [keep17 _ _ dq.at_ nknt, dq.at_]) tk17
            · rw [← ee, List.nodup_append]
              refine ⟨O12.nd, by simp, fun x1 hx1 y1 hy1 => ?_⟩
              rw [List.mem_singleton.mp hy1]
              exact fun z => ck (z ▸ hx1)
            · rcases List.mem_append.mp hz with hz | hz
              · exact O12.al z hz
              · rw [List.mem_singleton.mp hz]
                have e9 := hnx.nd
                have e8 : (it.next (entF (ru :: ot) turn it.nd (j + 1)).2.1 la ((j + 1 : Nat) : Int)).nd = (entF (ru :: ot) turn it.nd (j + 1)).2.1 := rfl
                rw [← e8, e9]
                refine nodeF_all T0 fun z2 => ?_
                rw [Item.next_L] at z2
                simp at z2
            · rcases List.mem_cons.mp hc with rfl | hc
              · exact someK
              · rw [List.mem_singleton.mp hc]
                exact someT
      · obtain ⟨Kx, later, y11, y12, y13, y14, rfl, O8, hsl8, hst8, hg8⟩ := iv
        rw [esl] at O8
        exact ⟨Kx, later, _, _, _, _, _, _, _, _, rfl, O8.with O8.b.item⟩
    · obtain ⟨Kx, later, y7, y8, y9, y10, y11, y12, y13, y14, rfl, O⟩ := iv
      walk_at "ru"
      subst hK_
      first | with_reducible refine seq_k fun K_ hK_ => ?_ | skip
      walk_at "ru"
      have hbn := hB.next T0 (by have := O.b; rw [← hzs.1]; exact this)
      obtain ⟨us, hus, hui⟩ := O.ltA
      have hsz := O.b.size
      have hkx := kle Kx O.nd O.al
      refine ⟨_, ?_, d + 1, _, Kx, later, lt, us, _, _, _, _, _, _, _, _, _, rfl, O.s0, nknt.symm, olt, hus, hui, O.kn, O.ru, hbn, O.nd, O.al, rfl, fun hne' => ?_⟩
      · rw [if_neg cl]
        split
        · omega
        · rename_i hne'
          have := List.length_pos_iff.mpr hne'
          omega
      · have := List.length_pos_iff.mpr hne'
        omega
end
end Nk
/-! ### rules weighed: within -/
namespace Nk
open PySem L2
theorem turnN_least {t : Nat} : ∀ (rus : List (List Int × Int)) (a : Nat), a ∣ t → (∀ ru ∈ rus, ru.1.sum.toNat ∣ t) → rus.foldl (fun f ru => lcmS f ru.1.sum.toNat) a ∣ t
  | [], a, h, _ => h
  | r :: rus, a, h, hs => by
    rw [List.foldl_cons]
    exact turnN_least rus _ (Nat.lcm_dvd h (hs r (by simp))) fun ru hru => hs ru (by simp [hru])
theorem turnN_sub {A B : List (List Int × Int)} (h : ∀ ru ∈ A, ru ∈ B) : turnN A ∣ turnN B :=
  turnN_least A 1 (Nat.one_dvd _) fun ru hru => (turnN_dvd B 1).2 ru (h ru hru)
theorem turnN_le {A B : List (List Int × Int)} (h : ∀ ru ∈ A, ru ∈ B) (hp : ∀ ru ∈ B, 0 < ru.1.sum) : turnN A ≤ turnN B := Nat.le_of_dvd (turnN_pos hp 1 (by decide)) (turnN_sub h)
theorem RuleVs.app {H : Hp} {xs ys : List V} {rs ss : List (List Int × Int)} (h : RuleVs H xs rs) (g : RuleVs H ys ss) : RuleVs H (xs ++ ys) (rs ++ ss) := by
  refine ⟨by rw [List.length_append, List.length_append, h.1, g.1], fun i x hx => ?_⟩
  rcases Nat.lt_or_ge i xs.length with hl | hl
  · rw [List.getElem?_append_left hl] at hx
    obtain ⟨ru, h1, h2⟩ := h.2 i x hx
    exact ⟨ru, by rw [List.getElem?_append_left (by have := h.1; omega)]; exact h1, h2⟩
  · rw [List.getElem?_append_right hl] at hx
    obtain ⟨ru, h1, h2⟩ := g.2 _ x hx
    exact ⟨ru, by rw [List.getElem?_append_right (by have := h.1; omega), ← h.1]; exact h1, h2⟩
/-- no nights show that a rule keeps one that others don't -/
def Cov (ru : List Int × Int) (ot : List (List Int × Int)) : Prop := ∀ ns : List Int, ns.Pairwise (· < ·) → ¬ Wit ru ot ns
/-- .. of rules -/
structure ToldW (one ot : List (List Int × Int)) (ns : List Int) : Prop where
  rise : ns.Pairwise (· < ·)
  bnd : ∀ z ∈ ns, 0 ≤ z ∧ z ≤ 1000
  wit : ∃ ru ∈ one, Wit ru ot ns
  few : ∀ ru ∈ one, ∀ ms : List Int, ms.Pairwise (· < ·) → Wit ru ot ms → ns.length ≤ ms.length
  l13 : ns.length ≤ 13
def weighW (one ot : List (List Int × Int)) : Prop := smallR one ∧ smallR ot ∧ turnN (one ++ ot) ≤ 12
instance (one ot : List (List Int × Int)) : Decidable (weighW one ot) := by unfold weighW; infer_instance
/-- what outdone tells of a rule -/
def FoAt (H0 H : Hp) (v : V) (ru : List Int × Int) (ot : List (List Int × Int)) (r : Option (List Int)) : Prop := match r with
  | none => v = .non ∧ Cov ru ot
  | some ns => ∃ p, v = .ref p ∧ H0 p = none ∧ H p = some (.lst (ns.map V.int)) ∧ Told ru ot ns
/-- rules with their nights -/
def WsAt (H0 H : Hp) (ws : List V) (one ot : List (List Int × Int)) (us : List ((List Int × Int) × List Int)) : Prop :=
  ws.length = us.length ∧ ∀ (k : Nat) v, ws[k]? = some v → ∃ u p, us[k]? = some u ∧ v = .ref p ∧ H0 p = none ∧ H p = some (.lst (u.2.map V.int)) ∧ u.1 ∈ one ∧ Told u.1 ot u.2
theorem WsAt.keep {H0 H H' : Hp} {ws : List V} {one ot : List (List Int × Int)} {us : List ((List Int × Int) × List Int)} (h : WsAt H0 H ws one ot us) (k : ∀ p, V.ref p ∈ ws → ∀ l, H p = some (.lst l) → H' p = some (.lst l)) : WsAt H0 H' ws one ot us :=
  ⟨h.1, fun j v hv => by
    obtain ⟨u, p, h1, rfl, h0, h3, h4⟩ := h.2 j v hv
    exact ⟨u, p, h1, rfl, h0, k p (mem_of_get hv) _ h3, h4⟩⟩
theorem WsAt.same {H0 H H' : Hp} {ws : List V} {one ot : List (List Int × Int)} {us : List ((List Int × Int) × List Int)} (h : WsAt H0 H ws one ot us) (s : Same H H') : WsAt H0 H' ws one ot us := h.keep fun _ _ _ e => s _ _ e
theorem WsAt.nil {H0 H : Hp} {one ot : List (List Int × Int)} : WsAt H0 H [] one ot [] := ⟨rfl, fun k v h => by simp at h⟩
theorem WsAt.snoc {H0 H : Hp} {ws : List V} {one ot : List (List Int × Int)} {us : List ((List Int × Int) × List Int)} {p : Addr} {u : (List Int × Int) × List Int} (h : WsAt H0 H ws one ot us) (h0 : H0 p = none) (hp : H p = some (.lst (u.2.map V.int))) (h1 : u.1 ∈ one) (h2 : Told u.1 ot u.2) : WsAt H0 H (ws ++ [.ref p]) one ot (us ++ [u]) := by
  refine ⟨by simp [h.1], fun i y hy => ?_⟩
  rcases Nat.lt_or_ge i ws.length with hl | hl
  · rw [List.getElem?_append_left hl] at hy
    obtain ⟨u', p', h3, h4⟩ := h.2 i y hy
    exact ⟨u', p', by rw [List.getElem?_append_left (by have := h.1; omega)]; exact h3, h4⟩
  · rw [List.getElem?_append_right hl] at hy
    have hi : i - ws.length = 0 := by
      have := lt_of_get hy
      simp at this; omega
    rw [hi] at hy
    cases hy
    exact ⟨u, p, by rw [List.getElem?_append_right (by have := h.1; omega), show i - us.length = 0 by have := h.1; omega]; rfl, rfl, h0, hp, h1, h2⟩
theorem WsAt.dp {K : PySem.W.Frag} {H0 H : Hp} {one ot : List (List Int × Int)} : ∀ {ws : List V} {us : List ((List Int × Int) × List Int)}, WsAt H0 H ws one ot us → DpAll K H ws (us.map fun u => dLI u.2)
  | [], us, h => by
    have : us = [] := List.length_eq_zero_iff.mp h.1.symm
    rw [this]
    exact .nil
  | w :: ws, [], h => by have := h.1; simp at this
  | w :: ws, u :: us, h => by
    obtain ⟨u', p, h1, rfl, _, h3, _⟩ := h.2 0 w rfl
    cases h1
    exact .cons (dp_LI (sqL h3)) (WsAt.dp ⟨by have := h.1; simpa using this, fun k v hv => h.2 (k + 1) v hv⟩)
def lcW1 (H H3 : Hp) (D : Addr) (one ot : List (List Int × Int)) (i : Nat) (H' : Hp) : Prop :=
  Same H3 H' ∧ ∃ (vs : List V) (rs : List (Option (List Int))), H' D = some (.lst vs) ∧ vs.length = i ∧ rs.length = i ∧ ∀ (k : Nat) v, vs[k]? = some v → ∃ ru r, one[k]? = some ru ∧ rs[k]? = some r ∧ FoAt H H' v ru ot r ∧ ∀ p, v = .ref p → p ≠ D
def lcW2 (H H5 : Hp) (D1 : Addr) (one ot : List (List Int × Int)) (i : Nat) (H' : Hp) : Prop :=
  Same H5 H' ∧ ∃ (ws : List V) (us : List ((List Int × Int) × List Int)), H' D1 = some (.lst ws) ∧ ws.length ≤ i ∧ WsAt H H' ws one ot us ∧ (∀ p, V.ref p ∈ ws → p ≠ D1) ∧ ∀ (k : Nat) ru, k < i → one[k]? = some ru → Cov ru ot ∨ ∃ u ∈ us, u.1 = ru
def lcW3 (H H5 : Hp) (D1 : Addr) (one ot : List (List Int × Int)) (us : List ((List Int × Int) × List Int)) (m : Int) (i : Nat) (H' : Hp) : Prop :=
  Same H5 H' ∧ ∃ (ws : List V) (us2 : List ((List Int × Int) × List Int)), H' D1 = some (.lst ws) ∧ ws.length ≤ i ∧ WsAt H H' ws one ot us2 ∧ (∀ p, V.ref p ∈ ws → p ≠ D1) ∧ (∀ u ∈ us2, (u.2.length : Int) = m) ∧ ∀ (k : Nat) u, k < i → us[k]? = some u → (u.2.length : Int) = m → ws ≠ []
section
variable {P : Program} {w : World} {K : PySem.W.Frag} {mg : Str → Option Value} {base : Heap}
theorem FoAt.same {H0 H H' : Hp} {v : V} {ru : List Int × Int} {ot : List (List Int × Int)} {r : Option (List Int)} (h : FoAt H0 H v ru ot r) (s : Same H H') : FoAt H0 H' v ru ot r := by
  cases r with
  | none => exact h
  | some ns => obtain ⟨p, h1, h0, h2, h3⟩ := h; exact ⟨p, h1, h0, s _ _ h2, h3⟩
abbrev nm_within : List Str := ["one", "other", "found", "least", "rule", "nights"]
abbrev pm_within : List Str := ["one", "other"]
abbrev lv_within : Nat := 6
theorem sc_within : FnScope nm_within pm_within (defScope s_within) := ⟨rfl, rfl, rfl, by decide +kernel, rfl, by decide +kernel, by decide +kernel⟩
def sp_within (K : PySem.W.Frag) (mg : Str → Option Value) : Sp := fun vs H Q E => ∃ (a o : Addr) (one ot : List (List Int × Int)), vs = [.ref a, .ref o] ∧ RulesAt H a one ∧ RulesAt H o ot ∧
  (weighW one ot → (∀ H', Same H H' → (∀ ru ∈ one, Cov ru ot) → Q .non H') ∧ (∀ p ns H', Same H H' → H p = none → H' p = some (.lst (ns.map V.int)) → ToldW one ot ns → Q (.ref p) H')) ∧
  (¬ weighW one ot → ∀ H', Same H H' → E (.ref (cls mg "BadRules")) none H')
theorem f_within (T : Txt K mg) : Fk P w K mg base (L2.CX P w) lv_within "within" pm_within (sp_within K mg) := by
  obtain ⟨f, fd, F, g, b⟩ := T.d_within.ex
  refine ⟨f, fd, g, F.kp, b, F.okX sc_within (fun vs H Q E h => ?_) (fun cdv A outer s H vs Q E hr h => ?_)⟩
  · obtain ⟨a, o, one, ot, rfl, _⟩ := h; rfl
  · obtain ⟨a, o, one, ot, rfl, hA, hO, q1, q2⟩ := h
    refine ⟨_, (pss_cons (ps_expr (pe_fn (f_look_small T) (hr.mono (by decide)) (by rfl) (passX (takes_of rfl rfl rfl rfl)) (pa_cons (pv 0) pa_nil)))
      (pss_cons (ps_expr (pe_fn (f_look_small T) (hr.mono (by decide)) (by rfl) (passX (takes_of rfl rfl rfl rfl)) (pa_cons (pv 1) pa_nil)))
      (pss_cons (ps_expr (pe_fn (f_look_turn T) (hr.mono (by decide)) (by rfl) (passX (takes_of rfl rfl rfl rfl)) (pa_cons (pe_op op_catT3 (pv 0) (pv 1)) pa_nil)))
      (pss_cons (ps_setLc (own := [("rule", 4)]) (g := gName 4) (tt := tYes) (i := 2) (by rfl) sc_within.nd rfl rfl (sw_true rfl rfl rfl (by decide +kernel)) (pi_tup (pv 0)) (blkOk_by (own := [("rule", 4)]) (N := nm_within) (sc := defScope s_within) (by decide +kernel)) (fun _ _ _ _ _ => (pg_name (i := 4) sc_within.nd rfl (Or.inl rfl))) (fun _ _ _ _ _ => pts_nil) (fun _ _ _ _ _ => (pe_fn (f_outdone T) (hr.mono (by decide)) (by rfl) pass0 (pa_cons (pv 4) (pa_cons (pv 1) pa_nil)))))
      (pss_cons (ps_setLc (own := [("nights", 5)]) (g := gName 5) (i := 2) (by rfl) sc_within.nd rfl rfl (sw_true rfl rfl rfl (by decide +kernel)) (pi_list (pv 2)) (blkOk_by (own := [("nights", 5)]) (N := nm_within) (sc := defScope s_within) (by decide +kernel)) (fun _ _ _ _ _ => (pg_name (i := 5) sc_within.nd rfl (Or.inl rfl))) (fun _ _ _ _ _ => (pts_one (pt_cmpR op_notN (pv 5) pe_non (nomark _)))) (fun _ _ _ _ _ => (pv 5)))
      (pss_cons (ps_if (pt_cmpR (op_eqD hr.units) (pv 2) (pe_lst pa_nil) (nomark _)) (pss_one (ps_ret pe_non)) pss_nil)
      (pss_cons (ps_set (i := 3) sc_within.nd rfl (.inr rfl) (pe_callB (cr_min rfl) (by rfl) T.b_min (by decide +kernel) (pa_cons (pe_lc (own := [("nights", 5)]) (g := gName 5) (tt := tYes) (by rfl) sc_within.nd (pi_list (pv 2)) (blkOk_by (own := [("nights", 5)]) (N := nm_within) (sc := defScope s_within) (by decide +kernel)) (fun _ _ _ _ _ => (pg_name (i := 5) sc_within.nd rfl (Or.inl rfl))) (fun _ _ _ _ _ => pts_nil) (fun _ _ _ _ _ => (pe_callB (call_lenK K rfl) (by rfl) T.b_len PySem.boot_len (pa_cons (pv 5) pa_nil)))) pa_nil)))
      (pss_one (ps_ret (pe_ix ix_list (pe_lc (own := [("nights", 5)]) (g := gName 5) (by rfl) sc_within.nd (pi_list (pv 2)) (blkOk_by (own := [("nights", 5)]) (N := nm_within) (sc := defScope s_within) (by decide +kernel)) (fun _ _ _ _ _ => (pg_name (i := 5) sc_within.nd rfl (Or.inl rfl))) (fun _ _ _ _ _ => (pts_one (pt_cmpR op_eq (pe_callB (call_lenK K rfl) (by rfl) T.b_len PySem.boot_len (pa_cons (pv 5) pa_nil)) (pv 3) (nomark _)))) (fun _ _ _ _ _ => (pv 5))) pe_int (fun _ _ => rfl))))))))))), ?_⟩
    with_reducible refine seq_k fun K_ hK_ => ?_
    walk_at "ru"
    refine ⟨a, one, rfl, hA, fun hs1 H1 s1 => ?_, fun hn H1 s1 => q2 (fun z => hn z.1) H1 s1⟩
    have hA1 := hA.same s1
    have hO1 := hO.same s1
    walk_at "ru"
    subst hK_
    first | with_reducible refine seq_k fun K_ hK_ => ?_ | skip
    walk_at "ru"
    refine ⟨o, ot, rfl, hO1, fun hs2 H2 s2 => ?_, fun hn H2 s2 => q2 (fun z => hn z.2.1) H2 (s1.trans s2)⟩
    have hA2 := hA1.same s2
    have hO2 := hO1.same s2
    obtain ⟨xs, ha, hv⟩ := hA2.x
    obtain ⟨ys, ho, hvy⟩ := hO2.x
    have hl3 := hs1.1
    have hm3 := hs2.1
    walk_at "ru"
    subst hK_
    first | with_reducible refine seq_k fun K_ hK_ => ?_ | skip
    walk_at "ru"
    refine ⟨a, o, xs, ys, rfl, rfl, ha, ho, by rw [hv.1, hvy.1]; omega, fun c H3 s3 hc => ?_⟩
    have hR3 : RuX H3 c (one ++ ot) := ⟨_, hc, (hv.same s3).app (hvy.same s3)⟩
    have s03 := s1.trans (s2.trans s3)
    refine ⟨c, one ++ ot, rfl, hR3, fun ht => ?_, fun hn H4 s4 => q2 (fun z => hn z.2.2) H4 (s03.trans s4)⟩
    obtain ⟨q1, q3⟩ := q1 ⟨hs1, hs2, ht⟩
    clear q2
    have ha3 := s3 _ _ ha
    have hv3 := hv.same s3
    have hO3 : RuX H3 o ot := ⟨ys, s3 _ _ ho, hvy.same s3⟩
    have hrn := hR3.rnds
    have hone0 : one ≠ [] := fun e => by have := hA.l1; rw [e] at this; simp at this
    have hot0 : ot ≠ [] := fun e => by have := hO.l1; rw [e] at this; simp at this
    have psum : ∀ ru ∈ one ++ ot, 0 < ru.1.sum := fun ru hru => (hrn ru hru).1.sum
    have okO : ∀ q ∈ ot, OkRu q := fun q hq => ⟨(hrn q (by simp [hq])).1, (hrn q (by simp [hq])).2.1⟩
    walk_at "ru"
    subst hK_
    first | with_reducible refine seq_k fun K_ hK_ => ?_ | skip
    walk_at "ru"
    refine ⟨⟨_, sqT ha3⟩, fun D hD => ?_⟩
    refine lc_it (walk_tup (K := K) (a := a) (xs := xs)) (lcW1 H H3 D one ot) ⟨same_upd hD, [], [], upd_same, rfl, rfl, fun k v h => by simp at h⟩ (fun i H5 _ p => sqT (p.1 _ _ ha3)) (fun i x H5 H6 hi p hy => ?_) (fun H5 p => ?_)
    · obtain ⟨s5, vs, rs, hD5, hvl, hrl, hvs⟩ := p
      obtain ⟨rfl, hx⟩ := hy
      obtain ⟨ru, hru, hrat⟩ := hv3.2 i x hx
      have hrum := mem_of_get hru
      walk_at "ru"
      have hlt := lt_of_get hru
      have push : ∀ (H7 : Hp) (v : V) (r : Option (List Int)), Same H6 H7 → FoAt H H7 v ru ot r → (∀ p, v = .ref p → p ≠ D) → ∃ acc, H7 D = some (.lst acc) ∧ acc.length < sizeLine ∧ lcW1 H H3 D one ot (i + 1) (upd H7 D (.lst (acc ++ [v]))) := by
        intro H7 v r s7 hf hp
        have hD7 := s7 _ _ hD5
        have fk : ∀ {v : V} {ru : List Int × Int} {r : Option (List Int)}, FoAt H H7 v ru ot r → (∀ p, v = .ref p → p ≠ D) → ∀ o, FoAt H (upd H7 D o) v ru ot r := fun {v ru r} hf hp o => by
          cases r with
          | none => exact hf
          | some ns => obtain ⟨p, h1, h0, h2, h3⟩ := hf; exact ⟨p, h1, h0, by rw [upd_ne (hp p h1)]; exact h2, h3⟩
        refine ⟨vs, hD7, szl (by omega), Same.app (s5.trans s7) hD, vs ++ [v], rs ++ [r], upd_same, by rw [List.length_append, hvl]; rfl, by rw [List.length_append, hrl]; rfl, fun k v' hk => ?_⟩
        rcases Nat.lt_or_ge k vs.length with hl | hl
        · rw [List.getElem?_append_left hl] at hk
          obtain ⟨ru', r', h1, h2, h3, h4⟩ := hvs k v' hk
          exact ⟨ru', r', h1, by rw [List.getElem?_append_left (by omega)]; exact h2, fk (h3.same s7) h4 _, h4⟩
        · rw [List.getElem?_append_right hl] at hk
          have hk0 : k - vs.length = 0 := by
            have := lt_of_get hk
            simp at this; omega
          rw [hk0] at hk
          cases hk
          have ek : k = i := by omega
          subst ek
          exact ⟨ru, r, hru, by rw [List.getElem?_append_right (by omega), show k - rs.length = 0 by omega]; rfl, fk hf hp _, hp⟩
      refine ⟨x, o, ru, ot, rfl, hrat.same s5, hO3.tk (Same.tk s5), hot0, hm3, fun q hq => ?_, ?_, fun H7 s7 hc => push H7 .non none s7 ⟨rfl, hc⟩ (fun p z => nomatch z), fun p ns H7 s7 np hp htold => push H7 (.ref p) (some ns) s7 ⟨p, rfl, (s03.trans s5).free np, hp, htold⟩ fun p' e => by cases e; exact (ne_of_none hD5 np).symm⟩
      · rcases List.mem_cons.mp hq with rfl | hq
        · exact (hs1.2 q hrum).1
        · exact (hs2.2 q hq).1
      · refine Nat.le_trans (turnN_le (B := one ++ ot) (fun q hq => ?_) psum) ht
        rcases List.mem_cons.mp hq with rfl | hq
        · simp [hrum]
        · simp [hq]
    obtain ⟨s5, vs, rs, hD5, hvl, hrl, hvs⟩ := p
    rw [hv3.1] at hvl hrl
    have s05 := s03.trans s5
    walk_at "ru"
    subst hK_
    first | with_reducible refine seq_k fun K_ hK_ => ?_ | skip
    walk_at "ru"
    refine ⟨⟨_, sqL hD5⟩, fun D1 hD1 => ?_⟩
    refine lc_it (walk_list (K := K) (a := D) (xs := vs)) (lcW2 H H5 D1 one ot) ⟨same_upd hD1, [], [], upd_same, Nat.zero_le _, .nil, fun p h => by simp at h, fun k ru h => absurd h (Nat.not_lt_zero _)⟩ (fun i H6 _ p => sqL (p.1 _ _ hD5)) (fun i v H6 H7 hi p hy => ?_) (fun H6 p => ?_)
    · obtain ⟨s6, ws, us, hD6, hwl, hws, hwD, hco⟩ := p
      obtain ⟨rfl, hv⟩ := hy
      obtain ⟨ru, r, hru, hr', hfo, hpD⟩ := hvs i v hv
      have hfo6 := hfo.same s6
      walk_at "ru"
      have hlt := lt_of_get hru
      cases r with
      | none =>
        obtain ⟨rfl, hc⟩ := hfo6
        rw [if_neg (by simp)]
        refine ⟨s6, ws, us, hD6, by omega, hws, hwD, fun k ru' hk h1 => ?_⟩
        rcases Nat.lt_or_ge k i with z | z
        · exact hco k ru' z h1
        · have : k = i := by omega
          subst this
          rw [hru] at h1
          cases h1
          exact .inl hc
      | some ns =>
        obtain ⟨p, rfl, hp0, hp, htold⟩ := hfo6
        rw [if_pos (by simp)]
        have hpD1 : p ≠ D1 := by
          obtain ⟨p', e', _, h3, _⟩ := hfo
          cases e'
          exact ne_of_none h3 hD1
        refine ⟨ws, hD6, szl (by omega), Same.app s6 hD1, ws ++ [.ref p], us ++ [(ru, ns)], upd_same, by rw [List.length_append]; show ws.length + 1 ≤ _; omega, ?_, fun p' hp' => ?_, fun k ru' hk h1 => ?_⟩
        · refine WsAt.snoc (hws.keep fun q hq l hl => ?_) hp0 (by rw [upd_ne hpD1]; exact hp) (mem_of_get hru) htold
          rw [upd_ne (hwD q hq)]
          exact hl
        · rcases List.mem_append.mp hp' with z | z
          · exact hwD p' z
          · have e := List.mem_singleton.mp z
            cases e
            exact hpD1
        · rcases Nat.lt_or_ge k i with z | z
          · rcases hco k ru' z h1 with h2 | ⟨u, hu, h2⟩
            · exact .inl h2
            · exact .inr ⟨u, List.mem_append_left _ hu, h2⟩
          · have : k = i := by omega
            subst this
            rw [hru] at h1
            cases h1
            exact .inr ⟨(ru, ns), by simp, rfl⟩
    obtain ⟨s6, ws, us, hD6, hwl, hws, hwD, hco⟩ := p
    rw [hvl] at hwl hco
    have s06 := s05.trans s6
    have hco2 : ∀ ru ∈ one, Cov ru ot ∨ ∃ u ∈ us, u.1 = ru := fun ru hru => by
      obtain ⟨k, hk⟩ := List.mem_iff_getElem?.mp hru
      exact hco k ru (lt_of_get hk) hk
    walk_at "ru"
    subst hK_
    first | with_reducible refine seq_k fun K_ hK_ => ?_ | skip
    walk_at "ru"
    intro e0 n_e0
    generalize hG_ : upd _ e0 _ = H7
    obtain ⟨s7, he0⟩ := newF n_e0 hG_
    clear hG_
    have hws7 := hws.same s7
    have hD7 := s7 _ _ hD6
    refine eqD (d := .list (us.map fun u => dLI u.2)) (e := dLI []) (k := 2) (m := 1) (.lst (sqL hD7) hws7.dp) (dp_LI (ns := []) (sqL he0)) ?_ (gd_dLI (k := 0) _) (fun hb => ?_) (fun hb => ?_)
    · simp only [gd]
      rw [List.all_eq_true]
      intro x hx
      obtain ⟨u, _, rfl⟩ := List.mem_map.mp hx
      exact gd_dLI (k := 0) _
    · refine ⟨_, rfl, ?_⟩
      rw [if_pos rfl]
      have hu0 : us = [] := by
        unfold dLI at hb
        injection hb with hb
        simpa using hb
      refine q1 H7 (s06.trans s7) fun ru hru => ?_
      rcases hco2 ru hru with z | ⟨u, hu, _⟩
      · exact z
      · rw [hu0] at hu; simp at hu
    refine ⟨_, rfl, ?_⟩
    rw [if_neg (by simp)]
    have hu0 : us ≠ [] := fun z => hb (by rw [z]; rfl)
    have hul : us.length ≤ 3 := by rw [← hws.1]; omega
    walk_at "ru"
    subst hK_
    first | with_reducible refine seq_k fun K_ hK_ => ?_ | skip
    walk_at "ru"
    refine ⟨⟨_, sqL hD7⟩, fun D2 hD2 => ?_⟩
    refine lcL hD2 (sqL hD7) (fun i => ((us.take i).map fun u => ((u.2.length : Nat) : Int)).map V.int) rfl (fun j x HE hx pw => ?_) (fun H8 s8 hD8 => ?_)
    · obtain ⟨u, p, hu, rfl, _, hp, _⟩ := hws7.2 j x hx
      have hpE := pw.same _ _ hp
      walk_at "ru"
      refine ⟨_, .inl (sqL hpE), ?_⟩
      exact pw.push hD2 (by rw [List.length_map, List.length_map, List.length_take]; omega) (Same.refl _) (by rw [map_take_next _ hu, List.map_append, List.length_map]; rfl)
    rw [hws7.1, List.take_length] at hD8
    refine ⟨D2, us.map fun u => ((u.2.length : Nat) : Int), rfl, sqL hD8, by rw [List.length_map]; exact List.length_pos_iff.mpr hu0, fun m hm hmn => ?_⟩
    obtain ⟨um, hum, hume⟩ := List.mem_map.mp hm
    have hD8' := s8 _ _ hD7
    have hws8 := hws7.same s8
    walk_at "ru"
    subst hK_
    first | with_reducible refine seq_k fun K_ hK_ => ?_ | skip
    walk_at "ru"
    refine ⟨⟨_, sqL hD8'⟩, fun D3 hD3 => ?_⟩
    refine lc_it (walk_list (K := K) (a := D1) (xs := ws)) (lcW3 H H8 D3 one ot us m) ⟨same_upd hD3, [], [], upd_same, Nat.zero_le _, .nil, fun p h => by simp at h, fun u h => by simp at h, fun k u h => absurd h (Nat.not_lt_zero _)⟩ (fun i H6 _ p => sqL (p.1 _ _ hD8')) (fun i v H9 H10 hi p hy => ?_) (fun H9 p => ?_)
    · obtain ⟨s9, ts, us2, hD9, htl, hts, htD, hlen, hne9⟩ := p
      obtain ⟨rfl, hv⟩ := hy
      obtain ⟨u, p, hu, rfl, h0, hp, h1, h2⟩ := hws8.2 i v hv
      have hp9 := s9 _ _ hp
      have hpD3 := ne_of_none hp hD3
      walk_at "ru"
      refine ⟨u.2.map V.int, .inl (sqL hp9), ?_⟩
      rw [List.length_map]
      have hlu := lt_of_get hu
      by_cases c : ((u.2.length : Nat) : Int) = m
      · rw [if_pos c]
        refine ⟨ts, hD9, szl (by omega), Same.app s9 hD3, ts ++ [.ref p], us2 ++ [u], upd_same, by rw [List.length_append]; show ts.length + 1 ≤ _; omega, ?_, fun p' hp' => ?_, fun u' hu' => ?_, fun k u' hk _ _ => by simp⟩
        · refine WsAt.snoc (hts.keep fun q hq l hl => ?_) h0 (by rw [upd_ne hpD3]; exact hp9) h1 h2
          rw [upd_ne (htD q hq)]
          exact hl
        · rcases List.mem_append.mp hp' with z | z
          · exact htD p' z
          · have e := List.mem_singleton.mp z
            cases e
            exact hpD3
        · rcases List.mem_append.mp hu' with z | z
          · exact hlen u' z
          · rw [List.mem_singleton.mp z]; exact c
      · rw [if_neg c]
        refine ⟨s9, ts, us2, hD9, by omega, hts, htD, hlen, fun k u' hk hu' hm' => ?_⟩
        rcases Nat.lt_or_ge k i with z | z
        · exact hne9 k u' z hu' hm'
        · have : k = i := by omega
          subst this
          rw [hu] at hu'
          cases hu'
          exact absurd hm' c
    obtain ⟨s9, ts, us2, hD9, htl, hts, htD, hlen, hne9⟩ := p
    obtain ⟨km, hkm⟩ := List.mem_iff_getElem?.mp hum
    have hts0 : ts ≠ [] := hne9 km um (by rw [hws8.1]; exact lt_of_get hkm) hkm hume
    obtain ⟨t0, tr, et⟩ : ∃ t0 tr, ts = t0 :: tr := by
      cases ts with
      | nil => exact absurd rfl hts0
      | cons a b => exact ⟨a, b, rfl⟩
    obtain ⟨u, p, hu, hp1, h0, hp, h1, h2⟩ := hts.2 0 t0 (by rw [et]; rfl)
    refine ixL (j := 0) (sqL hD9) rfl (by rw [et]; rfl) ?_
    rw [hp1]
    have hum2 := hlen u (mem_of_get hu)
    refine q3 p u.2 H9 (s06.trans (s7.trans (s8.trans s9))) h0 hp ⟨h2.rise, h2.bnd, ⟨u.1, h1, h2.wit⟩, fun ru hru ms hms hw => ?_, h2.l13⟩
    rcases hco2 ru hru with z | ⟨u3, hu3, e3⟩
    · exact absurd hw (z ms hms)
    · obtain ⟨k3, hk3⟩ := List.mem_iff_getElem?.mp hu3
      have hlt3 : k3 < ws.length := by rw [hws8.1]; exact lt_of_get hk3
      obtain ⟨u4, p4, hu4, _, _, _, _, h24⟩ := hws8.2 k3 ws[k3] (List.getElem?_eq_getElem hlt3)
      rw [hk3] at hu4
      cases hu4
      have := h24.few ms hms (by rw [e3]; exact hw)
      have := hmn _ (List.mem_map.mpr ⟨u3, hu3, rfl⟩)
      omega
end
end Nk
/-! ### rules weighed: lean -/
namespace Nk
open PySem L2
theorem RuleVs.take {H : Hp} {xs : List V} {rus : List (List Int × Int)} (h : RuleVs H xs rus) (k : Nat) : RuleVs H (xs.take k) (rus.take k) := by
  refine ⟨by rw [List.length_take, List.length_take, h.1], fun i x hx => ?_⟩
  rw [List.getElem?_take] at hx
  split at hx
  · rename_i c
    obtain ⟨ru, h1, h2⟩ := h.2 i x hx
    exact ⟨ru, by rw [List.getElem?_take, if_pos c]; exact h1, h2⟩
  · cases hx
theorem RuleVs.drop {H : Hp} {xs : List V} {rus : List (List Int × Int)} (h : RuleVs H xs rus) (k : Nat) : RuleVs H (xs.drop k) (rus.drop k) := by
  refine ⟨by rw [List.length_drop, List.length_drop, h.1], fun i x hx => ?_⟩
  rw [List.getElem?_drop] at hx
  obtain ⟨ru, h1, h2⟩ := h.2 _ x hx
  exact ⟨ru, by rw [List.getElem?_drop]; exact h1, h2⟩
def dRu (ru : List Int × Int) : PyData := .tuple [dTI ru.1, .int ru.2]
theorem RuleAt.dp {K : PySem.W.Frag} {H : Hp} {x : V} {ru : List Int × Int} (h : RuleAt H x ru) : Dp K H x (dRu ru) := by
  obtain ⟨b, r, rfl, hb, hr, _⟩ := h
  exact .tup (sqT hb) (.cons (dp_TI (sqT hr.at_)) (.cons (.int _) .nil))
theorem RuleVs.dp {K : PySem.W.Frag} {H : Hp} : ∀ {xs : List V} {rus : List (List Int × Int)}, RuleVs H xs rus → DpAll K H xs (rus.map dRu)
  | [], rus, h => by
    have : rus = [] := List.length_eq_zero_iff.mp h.1.symm
    rw [this]
    exact .nil
  | x :: xs, [], h => by have := h.1; simp at this
  | x :: xs, ru :: rus, h => by
    obtain ⟨ru', h1, h2⟩ := h.2 0 x rfl
    cases h1
    exact .cons h2.dp (RuleVs.dp ⟨by have := h.1; simpa using this, fun k v hv => h.2 (k + 1) v hv⟩)
theorem gd_TI (ns : List Int) : gd 1 (dTI ns) = true := by
  simp only [dTI, gd]
  rw [List.all_eq_true]
  intro x hx
  obtain ⟨i, _, rfl⟩ := List.mem_map.mp hx
  rfl
theorem gd_Ru (ru : List Int × Int) : gd 2 (dRu ru) = true := by
  show (gd 1 (dTI ru.1) && (gd 1 (.int ru.2) && true)) = true
  rw [gd_TI]
  rfl
theorem gd_Rus (rus : List (List Int × Int)) : gd 3 (.tuple (rus.map dRu)) = true := by
  simp only [gd]
  rw [List.all_eq_true]
  intro x hx
  obtain ⟨ru, _, rfl⟩ := List.mem_map.mp hx
  exact gd_Ru ru
theorem dRu_inj {a b : List Int × Int} (h : dRu a = dRu b) : a = b := by
  unfold dRu dTI at h
  injection h with h
  injection h with h1 h2
  injection h2 with h2 _
  injection h1 with h1
  injection h2 with h2
  exact Prod.ext (List.map_inj_right (fun a b h => by injection h) |>.mp h1) h2
theorem dRus_inj {a b : List (List Int × Int)} (h : a.map dRu = b.map dRu) : a = b := List.map_inj_right (fun _ _ h => dRu_inj h) |>.mp h
def leanW (rus : List (List Int × Int)) : Prop := smallR rus ∧ turnN rus ≤ 12
noncomputable def leanF (rus : List (List Int × Int)) : List (List Int × Int) := strikeF covB rus.length rus []
def iv_lean (a : Addr) (rus : List (List Int × Int)) (H : Hp) (i : Nat) (σ : L2.St) (H' : Hp) : Prop :=
  ∃ (l : Addr) (vs : List V) (tail : List (List Int × Int)) (y2 y3 : Option V), σ = [some (.ref a), some (.ref l), y2, y3] ∧ Same H H' ∧ H' l = some (.lst vs) ∧ RuleVs H' vs (rus.take (rus.length - i) ++ tail) ∧ tail.length ≤ i ∧ (∀ ru ∈ tail, ru ∈ rus) ∧ strikeF covB (rus.length - i) rus tail = leanF rus
section
variable {P : Program} {w : World} {K : PySem.W.Frag} {mg : Str → Option Value} {base : Heap}
abbrev nm_lean : List Str := ["rules", "left", "k", "others"]
abbrev pm_lean : List Str := ["rules"]
abbrev lv_lean : Nat := 6
theorem sc_lean : FnScope nm_lean pm_lean (defScope s_lean) := ⟨rfl, rfl, rfl, by decide +kernel, rfl, by decide +kernel, by decide +kernel⟩
def sp_lean (K : PySem.W.Frag) (mg : Str → Option Value) : Sp := fun vs H Q E => ∃ (a : Addr) (rus : List (List Int × Int)), vs = [.ref a] ∧ RulesAt H a rus ∧
  (leanW rus → ∀ p xs H', Same H H' → H p = none → H' p = some (.tup xs) → RuleVs H' xs (leanF rus) → Q (.ref p) H') ∧
  (¬ leanW rus → ∀ H', Same H H' → E (.ref (cls mg "BadRules")) none H')
theorem f_lean (T : Txt K mg) : Fk P w K mg base (L2.CX P w) lv_lean "lean" pm_lean (sp_lean K mg) := by
  obtain ⟨f, fd, F, g, b⟩ := T.d_lean.ex
  refine ⟨f, fd, g, F.kp, b, F.okX sc_lean (fun vs H Q E h => ?_) (fun cdv A outer s H vs Q E hr h => ?_)⟩
  · obtain ⟨a, rus, rfl, _⟩ := h; rfl
  · obtain ⟨a, rus, rfl, hA, q1, q2⟩ := h
    refine ⟨_, (pss_cons (ps_expr (pe_fn (f_look_small T) (hr.mono (by decide)) (by rfl) (passX (takes_of rfl rfl rfl rfl)) (pa_cons (pv 0) pa_nil)))
      (pss_cons (ps_expr (pe_fn (f_look_turn T) (hr.mono (by decide)) (by rfl) (passX (takes_of rfl rfl rfl rfl)) (pa_cons (pv 0) pa_nil)))
      (pss_cons (ps_set (i := 1) sc_lean.nd rfl (.inl rfl) (pe_callTy call_list_of (by rfl) T.b_list (by decide +kernel) (pa_cons (pv 0) pa_nil)))
      (pss_cons (ps_for (passes_of rfl) rfl (pi_range3 (by rfl) T.b_range (pa_cons (pe_op op_sub (pe_callB call_len_seq (by rfl) T.b_len PySem.boot_len (pa_cons (pv 0) pa_nil)) pe_int) (pa_cons (pe_un un_neg pe_int) (pa_cons (pe_un un_neg pe_int) pa_nil)))) (pg_name (i := 2) sc_lean.nd rfl (Or.inl rfl)) (pss_cons (ps_set (i := 3) sc_lean.nd rfl (.inl rfl) (pe_callTy call_tuple_of (by rfl) T.b_tuple (by decide +kernel) (pa_cons (pe_op op_cat (pe_slice sl_list (pv 1) po_none (po_some (pv 2))) (pe_slice sl_list (pv 1) (po_some (pe_op op_add (pv 2) pe_int)) po_none)) pa_nil)))
      (pss_one (ps_if (PW.pt (pw_and (pt_cmpR (op_neD hr.units) (pv 3) (pe_tup pa_nil) (nomark _)) (pw_and1 (pt_cmpR op_isN (pe_fn (f_outdone T) (hr.mono (by decide)) (by rfl) pass0 (pa_cons (pe_ix ix_list (pv 1) (pv 2) (fun _ _ => rfl)) (pa_cons (pv 3) pa_nil))) pe_non (nomark _))))) (pss_one (ps_set (i := 1) sc_lean.nd rfl (.inl rfl) (pe_op op_cat (pe_slice sl_list (pv 1) po_none (po_some (pv 2))) (pe_slice sl_list (pv 1) (po_some (pe_op op_add (pv 2) pe_int)) po_none)))) pss_nil))))
      (pss_one (ps_ret (pe_callTy call_tuple_of (by rfl) T.b_tuple (by decide +kernel) (pa_cons (pv 1) pa_nil)))))))), ?_⟩
    with_reducible refine seq_k fun K_ hK_ => ?_
    walk_at "ru"
    refine ⟨a, rus, rfl, hA, fun hs1 H1 s1 => ?_, fun hn H1 s1 => q2 (fun z => hn z.1) H1 s1⟩
    have hA1 := hA.same s1
    walk_at "ru"
    subst hK_
    first | with_reducible refine seq_k fun K_ hK_ => ?_ | skip
    walk_at "ru"
    refine ⟨a, rus, rfl, hA1.x, fun ht => ?_, fun hn H2 s2 => q2 (fun z => hn z.2) H2 (s1.trans s2)⟩
    clear q2
    replace q1 := q1 ⟨hs1, ht⟩
    obtain ⟨xs, ha, hv⟩ := hA1.x
    have hl3 := hs1.1
    have hrn := hA1.rnds
    have psum : ∀ ru ∈ rus, 0 < ru.1.sum := fun ru hru => (hrn ru hru).1.sum
    walk_at "ru"
    subst hK_
    first | with_reducible refine seq_k fun K_ hK_ => ?_ | skip
    walk_at "ru"
    refine ⟨xs, .inr (sqT ha), fun l hl0 => ?_⟩
    generalize hG_ : upd H1 l _ = H2
    obtain ⟨s2, hl⟩ := newF hl0 hG_
    clear hG_
    walk_at "ru"
    subst hK_
    first | with_reducible refine seq_k fun K_ hK_ => ?_ | skip
    walk_at "ru"
    have hn1 := hA1.l1
    have hxl := hv.1
    unfold iRng3
    walk_at "ru"
    refine ⟨xs, .inr (sqT (s2 _ _ ha)), _, RgC.neg (i := (xs.length : Int) - 1) (by omega) (by omega) (by decide) (by decide), ?_⟩
    have hxn : ((xs.length : Int) - 1 - -1).toNat = rus.length := by omega
    rw [hxn]
    refine for_it (walk_rangeC (lo := (xs.length : Int) - 1) (c := -1) (n := rus.length)) (iv_lean a rus H) ⟨l, xs, [], none, none, rfl, s1.trans s2, hl, by rw [List.append_nil, Nat.sub_zero, List.take_length]; exact hv.same s2, Nat.le_refl _, fun ru h => by simp at h, rfl⟩ (fun i σ H5 _ iv => trivial) (fun i v σ H5 H6 hi iv hy => ?_) (fun σ H5 iv => ?_)
    · obtain ⟨ll, vs, tail, y2, y3, rfl, s5, hl5, hv5, ht5, hm5, hf5⟩ := iv
      obtain ⟨rfl, rfl⟩ := hy
      walk_at "ru"
      with_reducible refine seq_k fun K_ hK_ => ?_
      walk_at "ru"
      refine ⟨ll, vs, rfl, sqL hl5, fun p1 hp1 => ?_⟩
      generalize hG_ : upd H6 p1 _ = H7
      obtain ⟨s7, h1⟩ := newF hp1 hG_
      clear hG_
      refine ⟨ll, vs, rfl, sqL (s7 _ _ hl5), fun p2 hp2 => ?_⟩
      generalize hG_ : upd H7 p2 _ = H8
      obtain ⟨s8, h2⟩ := newF hp2 hG_
      clear hG_
      obtain ⟨k, hk⟩ : ∃ k : Nat, rus.length - i = k + 1 := ⟨rus.length - i - 1, by omega⟩
      have hkI : ((xs.length : Int) - 1 + (i : Int) * -1) = (k : Int) := by omega
      have hk1 : ((xs.length : Int) - 1 + (i : Int) * -1 + 1) = ((k + 1 : Nat) : Int) := by omega
      rw [hk1, cut_from] at h2
      rw [hkI, cut_to] at h1
      rw [hkI]
      rw [hk] at hv5 hf5
      have hkl : k < rus.length := by omega
      have hvl : vs.length = k + 1 + tail.length := by
        rw [hv5.1, List.length_append, List.length_take]
        omega
      obtain ⟨us, hus⟩ : ∃ us, us = vs.take k ++ vs.drop (k + 1) := ⟨_, rfl⟩
      have hvo : RuleVs H6 us (rus.take k ++ tail) := by
        have e1 : (rus.take (k + 1) ++ tail).take k = rus.take k := by
          rw [List.take_append_of_le_length (by rw [List.length_take]; omega), List.take_take, Nat.min_eq_left (by omega)]
        have e2 : (rus.take (k + 1) ++ tail).drop (k + 1) = tail := by
          have e3 : (rus.take (k + 1)).length = k + 1 := by rw [List.length_take]; omega
          rw [List.drop_append_of_le_length (by omega), List.drop_of_length_le (by omega), List.nil_append]
        have := (hv5.take k).app (hv5.drop (k + 1))
        rw [e1, e2] at this
        rw [hus]
        exact this
      refine ⟨p1, p2, _, _, rfl, rfl, s8 _ _ h1, h2, Nat.le_of_lt (szl (by rw [List.length_take, List.length_drop]; omega)), fun p3 hp3 => ?_⟩
      generalize hG_ : upd H8 p3 _ = H9
      obtain ⟨s9, h3⟩ := newF hp3 hG_
      clear hG_
      rw [← hus] at h3
      refine ⟨p3, rfl, _, .inl ⟨sqL h3, fun p4 hp4 => ?_⟩⟩
      generalize hG_ : upd H9 p4 _ = H10
      obtain ⟨s10, h4⟩ := newF hp4 hG_
      clear hG_
      have s60 := s7.trans (s8.trans (s9.trans s10))
      have hvo10 := hvo.same s60
      obtain ⟨r, hr⟩ : ∃ r, rus[k]? = some r := ⟨rus[k], List.getElem?_eq_getElem hkl⟩
      have e0 : strikeF covB (k + 1) rus tail = if covB r (rus.take k ++ tail) = true then strikeF covB k rus tail else strikeF covB k rus (r :: tail) := by
        rw [strikeF, hr]
      rw [e0] at hf5
      walk_at "ru"
      subst hK_
      first | with_reducible refine seq_k fun K_ hK_ => ?_ | skip
      walk_at "ru"
      intro p5 n_p5
      generalize hG_ : upd _ p5 _ = H11
      obtain ⟨s11, h5⟩ := newF n_p5 hG_
      clear hG_
      have hl11 := s11 _ _ (s60 _ _ hl5)
      have stay : ∀ (H' : Hp) (y : Option V), Same H11 H' → covB r (rus.take k ++ tail) = false → iv_lean a rus H (i + 1) [some (.ref a), some (.ref ll), some (.int (k : Int)), y] H' := by
        intro H' y s' hc
        rw [if_neg (by rw [hc]; simp)] at hf5
        have e3 : rus.take (k + 1) ++ tail = rus.take k ++ r :: tail := by
          rw [List.take_add_one, hr]
          simp
        rw [e3] at hv5
        refine ⟨ll, vs, r :: tail, _, _, rfl, s5.trans (s60.trans (s11.trans s')), s' _ _ hl11, ?_, by rw [List.length_cons]; omega, fun ru hru => ?_, ?_⟩
        · rw [show rus.length - (i + 1) = k by omega]
          exact hv5.same (s60.trans (s11.trans s'))
        · rcases List.mem_cons.mp hru with rfl | z
          · exact List.mem_of_getElem? hr
          · exact hm5 ru z
        · rw [show rus.length - (i + 1) = k by omega]
          exact hf5
      refine neD (d := .tuple ((rus.take k ++ tail).map dRu)) (e := .tuple []) (.tup (sqT (s11 _ _ h4)) (hvo10.same s11).dp) (.tup (sqT h5) .nil) (gd_Rus _) (gd_Rus []) (fun he => ?_) (fun he => ?_)
      · have ho : rus.take k ++ tail = [] := by
          injection he with he
          exact List.map_eq_nil_iff.mp he
        have hc : covB r (rus.take k ++ tail) = false := by
          rw [Bool.eq_false_iff]
          intro z
          exact (covB_iff.mp z).1 ho
        refine ⟨_, rfl, ?_⟩
        rw [if_neg (by simp)]
        exact stay _ _ (Same.refl _) hc
      · have ho : rus.take k ++ tail ≠ [] := fun z => he (by rw [z]; rfl)
        refine ⟨_, rfl, ?_⟩
        rw [if_pos rfl]
        have hlt : k < vs.length := by omega
        have hvk : vs[k]? = some vs[k] := List.getElem?_eq_getElem hlt
        obtain ⟨r', hr', hrat⟩ := hv5.2 k _ hvk
        have er : r' = r := by
          rw [List.getElem?_append_left (by rw [List.length_take]; omega), List.getElem?_take, if_pos (by omega), hr] at hr'
          injection hr' with hr'
          exact hr'.symm
        subst er
        refine ixL (j := k) (sqL hl11) rfl hvk ?_
        have hmem : ∀ q ∈ r' :: (rus.take k ++ tail), q ∈ rus := fun q hq => by
          rcases List.mem_cons.mp hq with rfl | hq
          · exact List.mem_of_getElem? hr
          · rcases List.mem_append.mp hq with z | z
            · exact List.mem_of_mem_take z
            · exact hm5 q z
        refine ⟨_, p4, r', rus.take k ++ tail, rfl, hrat.same (s60.trans s11), ⟨us, s11 _ _ h4, hvo10.same s11⟩, ho, by rw [List.length_append, List.length_take]; omega, fun q hq => (hs1.2 q (hmem q hq)).1, Nat.le_trans (turnN_le hmem psum) ht, fun H12 s12 hc => ?_, fun p ns H12 s12 np hp htold => ?_⟩
        · dsimp only
          rw [if_pos rfl]
          have hcb : covB r' (rus.take k ++ tail) = true := covB_iff.mpr ⟨ho, hc⟩
          refine ⟨ll, vs, rfl, sqL (s12 _ _ hl11), fun p6 hp6 => ?_⟩
          generalize hG_ : upd H12 p6 _ = H13
          obtain ⟨s13, h6⟩ := newF hp6 hG_
          clear hG_
          refine ⟨ll, vs, rfl, sqL (s13 _ _ (s12 _ _ hl11)), fun p7 hp7 => ?_⟩
          generalize hG_ : upd H13 p7 _ = H14
          obtain ⟨s14, h7⟩ := newF hp7 hG_
          clear hG_
          rw [cut_to] at h6
          rw [show ((k : Int) + 1) = ((k + 1 : Nat) : Int) by omega, cut_from] at h7
          refine ⟨p6, p7, _, _, rfl, rfl, s14 _ _ h6, h7, Nat.le_of_lt (szl (by rw [List.length_take, List.length_drop]; omega)), fun p8 hp8 => ?_⟩
          generalize hG_ : upd H14 p8 _ = H15
          obtain ⟨s15, h8⟩ := newF hp8 hG_
          clear hG_
          rw [← hus] at h8
          have s15' := s11.trans (s12.trans (s13.trans (s14.trans s15)))
          rw [if_pos hcb] at hf5
          refine ⟨p8, us, tail, _, _, rfl, s5.trans (s60.trans s15'), h8, ?_, by omega, hm5, ?_⟩
          · rw [show rus.length - (i + 1) = k by omega]
            exact hvo10.same s15'
          · rw [show rus.length - (i + 1) = k by omega]
            exact hf5
        · dsimp only
          rw [if_neg (by simp)]
          refine stay _ _ s12 ?_
          rw [Bool.eq_false_iff]
          intro z
          exact (covB_iff.mp z).2 ns htold.rise htold.wit
    · obtain ⟨ll, vs, tail, y2, y3, rfl, s5, hl5, hv5, ht5, hm5, hf5⟩ := iv
      walk_at "ru"
      subst hK_
      first | with_reducible refine seq_k fun K_ hK_ => ?_ | skip
      walk_at "ru"
      refine ⟨_, .inl ⟨sqL hl5, fun p hp => ?_⟩⟩
      generalize hG_ : upd H5 p _ = H7
      obtain ⟨s7, h1⟩ := newF hp hG_
      rw [Nat.sub_self, List.take_zero, List.nil_append] at hv5
      rw [Nat.sub_self] at hf5
      have hf : tail = leanF rus := hf5
      rw [← hf] at q1
      exact q1 p vs H7 (s5.trans s7) (s5.free hp) h1 (hv5.same s7)
end
end Nk
/-! ### rules weighed: the longest way -/
namespace Nk
open PySem L2
/-- ways known -/
structure Kb (P : Program) (w : World) (H : Hp) (kn : Addr) (rus : List (List Int × Int)) (turn : Int) (Kx : List Node) : Prop where
  ex : ∃ kvs, NDict P w H kn kvs ∧ kvs.map (·.1) = Kx.map keyN ∧ ∀ nd v, nVal kvs (keyN nd) = some v → ∃ p, v = .ref p ∧ H p = some (.tup ((bestR rus turn nd).map V.int))
  nd : Kx.Nodup
  al : ∀ z ∈ Kx, z ∈ allNodes rus turn
theorem Kb.mv {P : Program} {w : World} {H H' : Hp} {kn : Addr} {rus : List (List Int × Int)} {turn : Int} {Kx : List Node} (h : Kb P w H kn rus turn Kx) (e : H' kn = H kn) (s : TK H H') : Kb P w H' kn rus turn Kx := by
  obtain ⟨kvs, d, e1, e2⟩ := h.ex
  exact ⟨⟨kvs, d.keeps e s, e1, fun nd v hv => let ⟨p, h1, h2⟩ := e2 nd v hv; ⟨p, h1, s _ _ h2⟩⟩, h.nd, h.al⟩
theorem Kb.same {P : Program} {w : World} {H H' : Hp} {kn : Addr} {rus : List (List Int × Int)} {turn : Int} {Kx : List Node} (h : Kb P w H kn rus turn Kx) (s : Same H H') : Kb P w H' kn rus turn Kx := by
  obtain ⟨kvs, d, _⟩ := h.ex
  exact h.mv ((s _ _ d.at_).trans d.at_.symm) (Same.tk s)
theorem Kb.at_ {P : Program} {w : World} {H : Hp} {kn : Addr} {rus : List (List Int × Int)} {turn : Int} {Kx : List Node} (h : Kb P w H kn rus turn Kx) : ∃ φ, H kn = some (.ext φ) := by
  obtain ⟨kvs, d, _⟩ := h.ex
  exact ⟨_, d.at_⟩
/-- what is weighed for the most -/
structure MostR (rus : List (List Int × Int)) (turn : Int) : Prop where
  T : TurnOf turn rus
  l3 : rus.length ≤ 3
  t12 : turn ≤ 12
  m4 : ∀ ru ∈ rus, ru.2 ≤ 4
def iv_best (P : Program) (w : World) (H0 : Hp) (a t kn sl : Addr) (rus : List (List Int × Int)) (turn : Int) (nd : Node) (Kx : List Node) (H1 : Hp) (es : List V) (i : Nat) (σ : L2.St) (H' : Hp) : Prop :=
  ∃ (p : Addr) (K' : List Node) (y5 y6 y7 y8 y9 : Option V), σ = [some (.ref a), some (.int turn), some (.ref t), some (.ref kn), some (.ref p), y5, y6, y7, y8, y9] ∧ Mv [kn] H0 H' ∧ Kb P w H' kn rus turn K' ∧ (∀ z ∈ K', z ∈ Kx ∨ roomF rus z.2 < roomF rus nd.2) ∧ H' sl = some (.lst es) ∧ StepVs H1 H' es (stepsF rus turn nd) ∧ H' p = some (.tup ((((stepsF rus turn nd).take i).foldl (pickB (bestR rus turn)) []).map V.int))
section
variable {P : Program} {w : World} {K : PySem.W.Frag} {mg : Str → Option Value} {base : Heap}
abbrev nm_best_from : List Str := ["rules", "turn", "node", "known", "best", "far", "place", "behind", "by", "some"]
abbrev pm_best_from : List Str := ["rules", "turn", "node", "known"]
abbrev lv_best_from : Nat := 14
theorem sc_best_from : FnScope nm_best_from pm_best_from (defScope s_best_from) := ⟨rfl, rfl, rfl, by decide +kernel, rfl, by decide +kernel, by decide +kernel⟩
def sp_best_from (P : Program) (w : World) (n : Nat) : Sp := fun vs H Q _ => ∃ (a t b kn : Addr) (rus : List (List Int × Int)) (turn : Int) (nd : Node) (L : List Int) (y : Int) (Kx : List Node), vs = [.ref a, .int turn, .ref t, .ref kn] ∧ RuX H a rus ∧ MostR rus turn ∧ H t = some (.tup [.int nd.1, .ref b]) ∧ SeenAt H b nd.2 ∧ L.getLast? = some y ∧ nd = nodeF rus turn L ∧ roomF rus nd.2 < n ∧ n ≤ 10 ∧ Kb P w H kn rus turn Kx ∧
  ∀ p H' K', Mv [kn] H H' → Kb P w H' kn rus turn K' → (∀ z ∈ K', z ∈ Kx ∨ roomF rus z.2 ≤ roomF rus nd.2) → H' p = some (.tup ((bestR rus turn nd).map V.int)) → Q (.ref p) H'
theorem f_best_from (T : Txt K mg) : ∀ n, Fk P w K mg base CX0 (4 + n) "best_from" pm_best_from (sp_best_from P w n)
  | 0 => by
    obtain ⟨f, fd, F, g, b⟩ := T.d_best_from.ex
    refine ⟨f, fd, g, F.kp, b, F.ok sc_best_from (fun vs H Q E h => ?_) (fun cdv A outer s H vs Q E hr h => ?_)⟩
    · obtain ⟨a, t, b, kn, rus, turn, nd, L, y, Kx, rfl, _⟩ := h; rfl
    · obtain ⟨a, t, b, kn, rus, turn, nd, L, y, Kx, rfl, _, _, _, _, _, _, h, _⟩ := h
      omega
  | n + 1 => by
    have ih := f_best_from T n
    obtain ⟨f, fd, F, g, b⟩ := T.d_best_from.ex
    refine ⟨f, fd, g, F.kp, b, F.ok sc_best_from (fun vs H Q E h => ?_) (fun cdv A outer s H vs Q E hr h => ?_)⟩
    · obtain ⟨a, t, b, kn, rus, turn, nd, L, y, Kx, rfl, _⟩ := h; rfl
    · obtain ⟨a, t, b, kn, rus, turn, nd, L, y, Kx, rfl, hR, M, ht, hb, hy, hnd, hroom, hn, hK, q⟩ := h
      have hu := hu_of hr
      refine ⟨_, (pss_cons (ps_if (pt_cmp (pc_nnotin rfl rfl hr.units (pv 2) (pv 3))) (pss_cons (ps_set (i := 4) sc_best_from.nd rfl (.inl rfl) (pe_tup pa_nil))
      (pss_cons (ps_for PassesOwn.never rfl (pi_list (pe_fn (f_steps T) (hr.mono (show 3 ≤ 4 + n from by omega)) (by rfl) pass0 (pa_cons (pv 0) (pa_cons (pv 1) (pa_cons (pe_ix ix_tup (pv 2) pe_int (fun _ _ => rfl)) (pa_cons (pe_ix ix_tup (pv 2) pe_int (fun _ _ => rfl)) pa_nil)))))) (pg_tup rfl (pgs_cons (pg_name (i := 5) sc_best_from.nd rfl (Or.inl rfl)) (pgs_cons (pg_name (i := 6) sc_best_from.nd rfl (Or.inl rfl)) (pgs_cons (pg_name (i := 7) sc_best_from.nd rfl (Or.inl rfl)) (pgs_cons (pg_name (i := 8) sc_best_from.nd rfl (Or.inl rfl)) pgs_nil))))) (pss_one (ps_if (pt_cmpR (op_neNil K rfl hr.units0) (pv 8) (pe_lst pa_nil) (nomark _)) (pss_cons (ps_set (i := 9) sc_best_from.nd rfl (.inl rfl) (pe_op op_catT3 (pe_tup (pa_cons (pv 5) pa_nil)) (pe_fn ih hr (by rfl) pass0 (pa_cons (pv 0) (pa_cons (pv 1) (pa_cons (pe_tup (pa_cons (pv 6) (pa_cons (pv 7) pa_nil))) (pa_cons (pv 3) pa_nil)))))))
      (pss_one (ps_if (pt_cmpR op_gt (pe_callB call_len_seq (by rfl) T.b_len PySem.boot_len (pa_cons (pv 9) pa_nil)) (pe_callB call_len_seq (by rfl) T.b_len PySem.boot_len (pa_cons (pv 4) pa_nil)) (nomark _)) (pss_one (ps_set (i := 4) sc_best_from.nd rfl (.inl rfl) (pv 9))) pss_nil))) pss_nil)))
      (pss_one (ps_nput rfl rfl hr.units (pv 3) (pv 2) (pv 4) rfl)))) pss_nil)
      (pss_one (ps_ret (pe_nget rfl rfl hr.units (pv 3) (pv 2) (fun _ _ => rfl))))), ?_⟩
      with_reducible refine seq_k fun K_ hK_ => ?_
      walk_at "ru"
      obtain ⟨kvs, hd, hkeys, hvals⟩ := hK.ex
      have hlen : nd.2.length = rus.length := by
        rw [hnd]
        unfold nodeF nodeAt
        rw [List.length_map]
      have hl3 := M.l3
      have tp := M.T.pos
      have t12 := M.t12
      have hL : L ≠ [] := fun z => by rw [z] at hy; cases hy
      have okn : ∃ φ, H kn = some (.ext φ) := hK.at_
      refine ⟨kvs, hd, keyN nd, node_key ht hb (by omega), keyN_depth nd, ?_⟩
      rw [Kn.val hkeys]
      by_cases ck : nd ∈ Kx
      · rw [if_neg (by simp [ck])]
        walk_at "ru"
        subst hK_
        first | with_reducible refine seq_k fun K_ hK_ => ?_ | skip
        walk_at "ru"
        have hsome : (nVal kvs (keyN nd)).isSome = true := by rw [Kn.val hkeys]; simpa using ck
        obtain ⟨v, hv⟩ := Option.isSome_iff_exists.mp hsome
        obtain ⟨p, rfl, hp⟩ := hvals nd v hv
        refine ⟨kvs, hd, keyN nd, node_key ht hb (by omega), keyN_depth nd, _, hv, ?_⟩
        exact q p H Kx (.of (Same.refl _)) hK (fun z hz => .inl hz) hp
      · rw [if_pos (by simp [ck])]
        with_reducible refine seq_k fun K_ hK_ => ?_
        walk_at "ru"
        intro p0 n_p0
        generalize hG_ : upd _ p0 _ = H1
        obtain ⟨s1, hp0⟩ := newF n_p0 hG_
        clear hG_
        walk_at "ru"
        subst hK_
        first | with_reducible refine seq_k fun K_ hK_ => ?_ | skip
        walk_at "ru"
        have ht1 := s1 _ _ ht
        refine ixT (j := 0) (sqT ht1) rfl rfl ?_
        refine ixT (j := 1) (sqT ht1) rfl rfl ?_
        refine ⟨a, b, rus, turn, nd, rfl, hR.tk (Same.tk s1), by omega, hb.tk (Same.tk s1), hlen, tp, by omega, fun sl es H2 s2 nsl hsl hst => ?_⟩
        refine ⟨sl, rfl, ⟨_, sqL hsl⟩, ?_⟩
        have s02 := s1.trans s2
        have esl : es.length = (2 * turn).toNat := by
          rw [hst.1]
          unfold stepsF
          rw [List.length_map, List.length_range]
        have nslk : sl ≠ kn := by
          obtain ⟨φ, hφ⟩ := okn
          exact (ne_of_none (s1 _ _ hφ) nsl).symm
        have someK : ∀ c ∈ [kn], ∃ ob, H1 c = some ob := fun c hc => by
          obtain ⟨φ, hφ⟩ := okn
          rw [List.mem_singleton.mp hc]
          exact ⟨_, s1 _ _ hφ⟩
        refine for_it (walk_list (K := K) (a := sl) (xs := es)) (iv_best P w H a t kn sl rus turn nd Kx H1 es) ⟨p0, Kx, none, none, none, none, none, rfl, .of s02, hK.same s02, fun z hz => .inl hz, hsl, hst, s2 _ _ hp0⟩ (fun j σ H8 _ iv => by obtain ⟨_, _, _, _, _, _, _, _, _, _, _, h, _⟩ := iv; exact sqL h) (fun j v σ H8 H9 hj iv hy => ?_) (fun σ H8 iv => ?_)
        · obtain ⟨p, K', y5, y6, y7, y8, y9, rfl, mv, hK', hKr, hsl8, hst8, hp⟩ := iv
          obtain ⟨rfl, hv⟩ := hy
          obtain ⟨e, he, t', b', l', rfl, ht', hb', nl', hl'⟩ := hst8.2 j v hv
          refine ⟨t', _, rfl, sqT ht', rfl, ?_⟩
          walk_at "ru"
          intro n1 n_n1
          generalize hG_ : upd _ n1 _ = H10
          obtain ⟨s10, hn1⟩ := newF n_n1 hG_
          clear hG_
          have hj2 : j < (2 * turn).toNat := by omega
          have ee : e = entF rus turn nd (j + 1) := by
            unfold stepsF at he
            rw [List.getElem?_map, List.getElem?_range hj2] at he
            cases he
            rfl
          obtain ⟨B, hB⟩ : ∃ B, B = ((stepsF rus turn nd).take j).foldl (pickB (bestR rus turn)) [] := ⟨_, rfl⟩
          have hfold : ((stepsF rus turn nd).take (j + 1)).foldl (pickB (bestR rus turn)) [] = pickB (bestR rus turn) B e := by
            rw [List.take_add_one, he, List.foldl_append, ← hB]
            rfl
          rw [← hB] at hp
          have mvA := mv.trans (.of s10)
          refine ⟨l', n1, _, rfl, rfl, sqL (s10 _ _ hl'), sqL hn1, _, rfl, ?_⟩
          rw [List.length_map]
          by_cases cb : e.2.2 = []
          · rw [if_neg (by rw [cb]; simp)]
            refine ⟨p, K', _, _, _, _, _, rfl, mvA, hK'.same s10, hKr, s10 _ _ hsl8, hst8.same s10, ?_⟩
            rw [hfold]
            unfold pickB
            rw [if_neg (by simpa using cb)]
            exact s10 _ _ hp
          · have hpos : 0 < e.2.2.length := List.length_pos_iff.mpr cb
            rw [if_pos (by simpa using hpos)]
            with_reducible refine seq_k fun K_ hK_ => ?_
            walk_at "ru"
            intro p1 n_p1
            generalize hG_ : upd _ p1 _ = G1
            obtain ⟨g1, hp1⟩ := newF n_p1 hG_
            clear hG_
            intro p2 n_p2
            generalize hG_ : upd _ p2 _ = G2
            obtain ⟨g2, hp2⟩ := newF n_p2 hG_
            clear hG_
            have g02 := s10.trans (g1.trans g2)
            have hent := entF_at M.T hy (j + 1)
            rw [← hnd, ← ee] at hent
            have hroom2 : roomF rus e.2.1.2 + 1 ≤ roomF rus nd.2 := by
              rw [ee] at cb ⊢
              exact room_ent cb
            have hRA : RuX G2 a rus := hR.tk (TK.trans mv.tups (Same.tk g02))
            refine ⟨a, p2, b', kn, rus, turn, e.2.1, L ++ [y - ((j + 1 : Nat) : Int)], _, K', rfl, hRA, M, hp2, hb'.tk (Same.tk g02), List.getLast?_concat, by rw [hent], by omega, by omega, hK'.same g02, fun p3 G3 K3 m3 hK3 hr3 hp3 => ?_⟩
            have hp1' := m3.tups _ _ (g2 _ _ hp1)
            have hbl := best_len (rules := rus) (turn := turn) 12 e.2.1
            refine ⟨p1, p3, _, _, rfl, rfl, hp1', hp3, by rw [List.length_map]; unfold bestR; simp; omega, fun p4 G4 g4 hp4 => ?_⟩
            walk_at "ru"
            subst hK_
            first | with_reducible refine seq_k fun K_ hK_ => ?_ | skip
            walk_at "ru"
            have hpG := g4 _ _ (m3.tups _ _ (g02 _ _ hp))
            have mvB : Mv [kn] H G4 := (mv.trans (.of g02)).trans (m3.trans (.of g4))
            have hrB : ∀ z ∈ K3, z ∈ Kx ∨ roomF rus z.2 < roomF rus nd.2 := fun z hz => by
              rcases hr3 z hz with h | h
              · exact hKr z h
              · exact .inr (by omega)
            have hslB := g4 _ _ (m3.keep _ _ (g02 _ _ hsl8) (by simp [nslk]))
            have hstB := ((hst8.same g02).step m3 someK).same g4
            have hp4' : G4 p4 = some (.tup ((e.1 :: bestR rus turn e.2.1).map V.int)) := hp4
            refine ⟨_, .inr (sqT hp4'), _, .inr (sqT hpG), ?_⟩
            rw [List.length_map, List.length_map, List.length_cons]
            by_cases cl : B.length < (bestR rus turn e.2.1).length + 1
            · rw [if_pos (by omega)]
              refine ⟨p4, K3, _, _, _, _, _, rfl, mvB, hK3.same g4, hrB, hslB, hstB, ?_⟩
              rw [hfold]
              unfold pickB
              rw [if_pos cb, if_pos cl]
              exact hp4'
            · rw [if_neg (by omega)]
              refine ⟨p, K3, _, _, _, _, _, rfl, mvB, hK3.same g4, hrB, hslB, hstB, ?_⟩
              rw [hfold]
              unfold pickB
              rw [if_pos cb, if_neg cl]
              exact hpG
        · obtain ⟨p, K', y5, y6, y7, y8, y9, rfl, mv, hK', hKr, hsl8, hst8, hp⟩ := iv
          walk_at "ru"
          subst hK_
          first | with_reducible refine seq_k fun K_ hK_ => ?_ | skip
          walk_at "ru"
          rw [esl] at hp
          have hfin : ((stepsF rus turn nd).take (2 * turn).toNat).foldl (pickB (bestR rus turn)) [] = bestR rus turn nd := by
            rw [List.take_of_length_le (by unfold stepsF; rw [List.length_map, List.length_range]; omega)]
            exact (best_step (by omega)).symm
          rw [hfin] at hp
          have ckK : nd ∉ K' := fun z => by
            rcases hKr nd z with h | h
            · exact ck h
            · omega
          obtain ⟨kvs2, hd2, hkeys2, hvals2⟩ := hK'.ex
          have hnone : nVal kvs2 (keyN nd) = none := by
            have h1 := Kn.val hkeys2 nd
            rw [decide_eq_false ckK] at h1
            cases h2 : nVal kvs2 (keyN nd) with
            | none => rfl
            | some v => rw [h2] at h1; cases h1
          have hkl : kvs2.length = K'.length := by
            have := congrArg List.length hkeys2
            rw [List.length_map, List.length_map] at this
            exact this
          have hk3 := known_le M.m4 (by omega) t12 hK'.nd hK'.al
          have ht8 := mv.tups _ _ ht
          have hb8 := hb.tk mv.tups
          have hnk := node_key ht8 hb8 (by omega)
          have dput := hd2.put (v := .ref p) hnk (keyN_depth nd) (szl (by omega))
          refine ⟨kvs2, hd2, keyN nd, hnk, keyN_depth nd, szl (by omega), ?_⟩
          rw [nPut_new hnone] at dput ⊢
          have oext := hK'.at_
          generalize hG_ : upd H8 kn _ = H9 at dput ⊢
          have keep9 : ∀ c ob, H8 c = some ob → c ≠ kn → H9 c = some ob := fun c ob h n => by rw [← hG_, upd_ne n]; exact h
          have tk9 : TK H8 H9 := fun c zs h => keep9 _ _ h (by
            obtain ⟨φ, hφ⟩ := oext
            exact ne_of h hφ (by intro z; cases z))
          clear hG_
          have mv9 : Mv [kn] H H9 := mv.trans ⟨fun c ob h n => keep9 c ob h (by simpa using n), tk9⟩
          have hval9 : ∀ z v, nVal (kvs2 ++ [(keyN nd, t, .ref p)]) (keyN z) = some v → ∃ p', v = .ref p' ∧ H9 p' = some (.tup ((bestR rus turn z).map V.int)) := fun z v hv => by
            unfold nVal at hv
            rw [List.find?_append] at hv
            cases h1 : kvs2.find? (fun x => decide (x.1 = keyN z)) with
            | some q =>
              rw [h1] at hv
              obtain ⟨p', h2, h3⟩ := hvals2 z v (by unfold nVal; rw [h1]; exact hv)
              exact ⟨p', h2, tk9 _ _ h3⟩
            | none =>
              rw [h1] at hv
              by_cases c : keyN nd = keyN z
              · have := keyN_inj c
                subst this
                simp at hv
                exact ⟨p, hv.symm, tk9 _ _ hp⟩
              · simp [c] at hv
          have hK9 : Kb P w H9 kn rus turn (K' ++ [nd]) := by
            refine ⟨⟨_, dput, by rw [List.map_append, List.map_append, hkeys2]; rfl, hval9⟩, ?_, fun z hz => ?_⟩
            · rw [List.nodup_append]
              refine ⟨hK'.nd, by simp, fun x1 hx1 y1 hy1 => ?_⟩
              rw [List.mem_singleton.mp hy1]
              exact fun z => ckK (z ▸ hx1)
            · rcases List.mem_append.mp hz with h | h
              · exact hK'.al z h
              · rw [List.mem_singleton.mp h, hnd]
                exact nodeF_all M.T hL
          walk_at "ru"
          subst hK_
          first | with_reducible refine seq_k fun K_ hK_ => ?_ | skip
          walk_at "ru"
          have hv9 : nVal (kvs2 ++ [(keyN nd, t, .ref p)]) (keyN nd) = some (.ref p) := by
            unfold nVal at hnone ⊢
            rw [List.find?_append]
            cases h1 : kvs2.find? (fun x => decide (x.1 = keyN nd)) with
            | some q => rw [h1] at hnone; cases hnone
            | none => simp
          refine ⟨_, dput, keyN nd, node_key (tk9 _ _ ht8) (hb8.tk tk9) (by omega), keyN_depth nd, _, hv9, ?_⟩
          refine q p H9 (K' ++ [nd]) mv9 hK9 (fun z hz => ?_) (tk9 _ _ hp)
          rcases List.mem_append.mp hz with h | h
          · rcases hKr z h with h | h
            · exact .inl h
            · exact .inr (by omega)
          · rw [List.mem_singleton.mp h]
            exact .inr (Nat.le_refl _)
end
end Nk
/-! ### rules weighed: the most -/
namespace Nk
open PySem L2
def mostW (rus : List (List Int × Int)) : Prop := smallR rus ∧ turnN rus ≤ 12
def iv_most (P : Program) (w : World) (H0 : Hp) (a kn : Addr) (rus : List (List Int × Int)) (turn : Int) (i : Nat) (σ : L2.St) (H' : Hp) : Prop :=
  ∃ (fl : Addr) (K' : List Node) (y5 y6 y7 y8 : Option V), σ = [some (.ref a), some (.int turn), some (.ref kn), some (.ref fl), y5, y6, y7, y8] ∧ Same H0 H' ∧ fl ≠ kn ∧ Kb P w H' kn rus turn K' ∧ H' fl = some (.lst (((List.range i).foldl (foundF rus turn) []).map V.int)) ∧ H0 fl = none
section
variable {P : Program} {w : World} {K : PySem.W.Frag} {mg : Str → Option Value} {base : Heap}
/-- t[:k] of numbers -/
theorem ints_cut {H : Hp} {x : Addr} {ns : List Int} {k : Nat} {Q : VK} (hx : H x = some (.tup (ns.map V.int))) (q : ∀ p H', Same H H' → H' p = some (.tup ((ns.take k).map V.int)) → Q (.ref p) H') : rSlA K (.ref x) none (some (k : Int)) H Q := by
  refine ⟨x, _, rfl, sqT hx, fun hw => ?_, fun hw p hp => ?_⟩
  · have e : ns.take k = ns := by
      have h2 := hw.2
      rw [HT.sIx_nat, List.length_map] at h2
      rw [List.take_of_length_le (by omega)]
    exact q x H (Same.refl _) (by rw [e]; exact hx)
  · generalize hG_ : upd H p _ = H'
    obtain ⟨s, h⟩ := newF hp hG_
    rw [cut_to _ k, ← List.map_take] at h
    exact q p H' s h
abbrev nm_most : List Str := ["rules", "turn", "known", "found", "place", "some", "ages", "k"]
abbrev pm_most : List Str := ["rules"]
abbrev lv_most : Nat := 15
theorem sc_most : FnScope nm_most pm_most (defScope s_most) := ⟨rfl, rfl, rfl, by decide +kernel, rfl, by decide +kernel, by decide +kernel⟩
def sp_most (K : PySem.W.Frag) (mg : Str → Option Value) : Sp := fun vs H Q E => ∃ (a : Addr) (rus : List (List Int × Int)), vs = [.ref a] ∧ RulesAt H a rus ∧
  (mostW rus → ∀ p l H', Same H H' → H p = none → H l = none → H' p = some (.tup [.int ((mostF rus (turnN rus)).length : Nat), .ref l]) → H' l = some (.lst ((mostF rus (turnN rus)).map V.int)) → Q (.ref p) H') ∧
  (¬ mostW rus → ∀ H', Same H H' → E (.ref (cls mg "BadRules")) none H')
theorem f_most (T : Txt K mg) : Fk P w K mg base (L2.CX P w) lv_most "most" pm_most (sp_most K mg) := by
  obtain ⟨f, fd, F, g, b⟩ := T.d_most.ex
  refine ⟨f, fd, g, F.kp, b, F.okX sc_most (fun vs H Q E h => ?_) (fun cdv A outer s H vs Q E hr h => ?_)⟩
  · obtain ⟨a, rus, rfl, _⟩ := h; rfl
  · obtain ⟨a, rus, rfl, hA, q1, q2⟩ := h
    refine ⟨_, (pss_cons (ps_expr (pe_fn (f_look_small T) (hr.mono (by decide)) (by rfl) (passX (takes_of rfl rfl rfl rfl)) (pa_cons (pv 0) pa_nil)))
      (pss_cons (ps_expr (pe_fn (f_look_turn T) (hr.mono (by decide)) (by rfl) (passX (takes_of rfl rfl rfl rfl)) (pa_cons (pv 0) pa_nil)))
      (pss_cons (ps_set (i := 1) sc_most.nd rfl (.inl rfl) (pe_fn (f_turn_of T) (hr.mono (by decide)) (by rfl) pass0 (pa_cons (pv 0) pa_nil)))
      (pss_cons (ps_set (i := 2) sc_most.nd rfl (.inl rfl) (pe_dnewN rfl rfl))
      (pss_cons (ps_set (i := 3) sc_most.nd rfl (.inl rfl) (pe_lst pa_nil))
      (pss_cons (ps_for (passes_of rfl) rfl (pi_range1 (by rfl) T.b_range (pa_cons (pv 1) pa_nil)) (pg_name (i := 4) sc_most.nd rfl (Or.inl rfl)) (pss_cons (ps_set (i := 5) sc_most.nd rfl (.inr rfl) (pe_fn (f_best_from T 10) (hr.mono (by decide)) (by rfl) pass0 (pa_cons (pv 0) (pa_cons (pv 1) (pa_cons (pe_tup (pa_cons (pv 4) (pa_cons (pe_fn (f_stood T) (hr.mono (by decide)) (by rfl) pass0 (pa_cons (pv 0) pa_nil)) pa_nil))) (pa_cons (pv 2) pa_nil))))))
      (pss_cons (ps_setLc (own := [("k", 7)]) (g := gName 7) (tt := tYes) (i := 6) (by rfl) sc_most.nd rfl rfl (sw_true rfl rfl rfl (by decide +kernel)) (pi_range1 (by rfl) T.b_range (pa_cons (pe_op op_add (pe_callB call_len_seq (by rfl) T.b_len PySem.boot_len (pa_cons (pv 5) pa_nil)) pe_int) pa_nil)) (blkOk_by (own := [("k", 7)]) (N := nm_most) (sc := defScope s_most) (by decide +kernel)) (fun _ _ _ _ _ => (pg_name (i := 7) sc_most.nd rfl (Or.inl rfl))) (fun _ _ _ _ _ => pts_nil) (fun _ _ _ _ _ => (pe_callB (cr_sumTK K rfl rfl) (by rfl) T.b_sum (by decide +kernel) (pa_cons (pe_slice (sl_tupAK K rfl) (pv 5) po_none (po_some (pv 7))) pa_nil))))
      (pss_one (ps_if (pt_cmpR op_gt (pe_callB call_len_seq (by rfl) T.b_len PySem.boot_len (pa_cons (pv 6) pa_nil)) (pe_callB call_len_seq (by rfl) T.b_len PySem.boot_len (pa_cons (pv 3) pa_nil)) (nomark _)) (pss_one (ps_set (i := 3) sc_most.nd rfl (.inl rfl) (pe_fn (f_nights_from T) (hr.mono (by decide)) (by rfl) pass0 (pa_cons (pv 1) (pa_cons (pv 4) (pa_cons (pv 6) pa_nil)))))) pss_nil)))))
      (pss_one (ps_ret (pe_tup (pa_cons (pe_callB call_len_seq (by rfl) T.b_len PySem.boot_len (pa_cons (pv 3) pa_nil)) (pa_cons (pv 3) pa_nil))))))))))), ?_⟩
    with_reducible refine seq_k fun K_ hK_ => ?_
    walk_at "ru"
    refine ⟨a, rus, rfl, hA, fun hs1 H1 s1 => ?_, fun hn H1 s1 => q2 (fun z => hn z.1) H1 s1⟩
    have hA1 := hA.same s1
    walk_at "ru"
    subst hK_
    first | with_reducible refine seq_k fun K_ hK_ => ?_ | skip
    walk_at "ru"
    refine ⟨a, rus, rfl, hA1.x, fun ht => ?_, fun hn H2 s2 => q2 (fun z => hn z.2) H2 (s1.trans s2)⟩
    clear q2
    replace q1 := q1 ⟨hs1, ht⟩
    have hR := hA1.x
    have hl3 := hs1.1
    have hrn := hA1.rnds
    have psum : ∀ ru ∈ rus, 0 < ru.1.sum := fun ru hru => (hrn ru hru).1.sum
    walk_at "ru"
    subst hK_
    first | with_reducible refine seq_k fun K_ hK_ => ?_ | skip
    walk_at "ru"
    refine ⟨a, rus, rfl, hR, ?_⟩
    walk_at "ru"
    subst hK_
    first | with_reducible refine seq_k fun K_ hK_ => ?_ | skip
    walk_at "ru"
    intro kn n_kn hsys
    generalize hG_ : upd H1 kn _ = H2
    obtain ⟨s2, hkn⟩ := newF n_kn hG_
    clear hG_
    obtain ⟨turn, hturn⟩ : ∃ turn : Int, (turnN rus : Int) = turn := ⟨_, rfl⟩
    have tp0 : 0 < turnN rus := turnN_pos psum 1 (by decide)
    have T0 : TurnOf turn rus := by
      rw [← hturn]
      exact ⟨by omega, fun q hq => ⟨(hrn q hq).1, (hrn q hq).2.1⟩, fun q hq => by
        have h1 := (turnN_dvd rus 1).2 q hq
        have h2 : ((q.1.sum.toNat : Nat) : Int) ∣ ((turnN rus : Nat) : Int) := Int.natCast_dvd_natCast.mpr h1
        rwa [Int.toNat_of_nonneg (by have := psum q hq; omega)] at h2⟩
    have hM : MostR rus turn := ⟨T0, hl3, by omega, fun ru hru => (hs1.2 ru hru).1⟩
    have hMO : MostOk rus turn := .of T0 (fun z => by have := hA.l1; rw [z] at this; simp at this) hl3 hM.m4
    have hK2 : Kb P w H2 kn rus turn [] := ⟨⟨[], ⟨hkn, Nat.zero_le _, hsys, fun p hp => by simp at hp⟩, rfl, fun nd v h => by simp [nVal] at h⟩, List.nodup_nil, fun z h => by simp at h⟩
    rw [hturn]
    have et : turnN rus = turn.toNat := by omega
    rw [hturn] at q1
    walk_at "ru"
    subst hK_
    first | with_reducible refine seq_k fun K_ hK_ => ?_ | skip
    walk_at "ru"
    intro fl n_fl
    generalize hG_ : upd _ fl _ = H3
    obtain ⟨s3, hfl⟩ := newF n_fl hG_
    clear hG_
    walk_at "ru"
    subst hK_
    first | with_reducible refine seq_k fun K_ hK_ => ?_ | skip
    walk_at "ru"
    have hflk : fl ≠ kn := (ne_of_none hkn n_fl).symm
    have okn0 : H kn = none := s1.free n_kn
    refine ⟨by omega, by omega, ?_⟩
    refine for_it (walk_range (lo := 0) (n := turn.toNat)) (iv_most P w H a kn rus turn) ⟨fl, [], none, none, none, none, rfl, s1.trans (s2.trans s3), hflk, hK2.same s3, hfl, (s1.trans s2).free n_fl⟩ (fun i σ H5 _ iv => trivial) (fun i v σ HA HB hi iv hv => ?_) (fun σ HA iv => ?_)
    · obtain ⟨fl, K', y5, y6, y7, y8, rfl, sA, hne, hK', hflA, hfl0⟩ := iv
      obtain ⟨rfl, rfl⟩ := hv
      have hRA : RuX HB a rus := hA.x.tk (Same.tk sA)
      simp only [Int.zero_add]
      walk_at "ru"
      with_reducible refine seq_k fun K_ hK_ => ?_
      walk_at "ru"
      refine ⟨a, rus, rfl, hRA, by omega, fun sp H5 s5 nsp hsp => ?_⟩
      intro pn n_pn
      generalize hG_ : upd _ pn _ = H6
      obtain ⟨s6, hpn⟩ := newF n_pn hG_
      clear hG_
      have s56 := s5.trans s6
      have hiT : (i : Int) < turn := by omega
      have hnd : node0 rus i = nodeF rus turn [(i : Int)] := by
        rw [nodeF_one T0, Int.emod_eq_of_lt (by omega) hiT]
        rfl
      have hroom : roomF rus (node0 rus i).2 < 10 := by
        rw [hnd]
        have := room_le (L := [(i : Int)]) (by simp) (i : Int) rus fun ru hru => ⟨(T0.ok ru hru).m, hM.m4 ru hru⟩
        have h2 : (nodeF rus turn [(i : Int)]).2 = rus.map fun ru => stR ru [(i : Int)] (i : Int) := rfl
        rw [h2]
        omega
      refine ⟨a, pn, sp, kn, rus, turn, node0 rus i, [(i : Int)], (i : Int), K', rfl, hRA.tk (Same.tk s56), hM, hpn, hsp.tk (Same.tk s6), rfl, hnd, hroom, by decide, hK'.same s56, fun pw H7 K7 m7 hK7 hr7 hpw => ?_⟩
      have hway : bestR rus turn (node0 rus i) = wayF rus turn i := rfl
      rw [hway] at hpw
      obtain ⟨ds, hds⟩ : ∃ ds, wayF rus turn i = ds := ⟨_, rfl⟩
      rw [hds] at hpw
      have hdl : ds.length ≤ 12 := by rw [← hds]; exact best_len 12 _
      have hdm : ∀ d ∈ ds, 1 ≤ d ∧ d ≤ 2 * turn := by rw [← hds]; exact best_mem 12 _
      have s7 : Same H H7 := fun c ob h => m7.keep c ob (s56 _ _ (sA _ _ h)) (by simpa using ne_of_none h okn0)
      have hfl7 := m7.keep _ _ (s56 _ _ hflA) (by simpa using hne)
      walk_at "ru"
      subst hK_
      first | with_reducible refine seq_k fun K_ hK_ => ?_ | skip
      walk_at "ru"
      have hx1 : (((ds.map V.int).length : Int) + 1).toNat = ds.length + 1 := by
        rw [List.length_map]
        omega
      refine ⟨_, .inr (sqT hpw), by rw [List.length_map]; omega, by rw [List.length_map]; omega, fun D hD => ?_⟩
      rw [hx1]
      refine lcR (lo := 0) (n := ds.length + 1) hD (fun j => ((List.range j).map fun k => (ds.take k).sum).map V.int) rfl (fun j HE hj pj => ?_) (fun HE sE hDE => ?_)
      · simp only [Int.zero_add]
        walk_at "ru"
        have hpwE := pj.same _ _ hpw
        refine ints_cut (k := j) hpwE fun pc HF sF hpc => ?_
        refine ⟨pc, ds.take j, rfl, sqT hpc, ?_⟩
        exact pj.push hD (by rw [List.length_map, List.length_map, List.length_range]; omega) sF (by rw [List.range_succ, List.map_append, List.map_append]; rfl)
      have hDE' : HE D = some (.lst ((agesF ds).map V.int)) := hDE
      walk_at "ru"
      subst hK_
      first | with_reducible refine seq_k fun K_ hK_ => ?_ | skip
      walk_at "ru"
      have hflE := sE _ _ hfl7
      obtain ⟨F, hF⟩ : ∃ F, F = (List.range i).foldl (foundF rus turn) [] := ⟨_, rfl⟩
      rw [← hF] at hflE
      have hFn : (List.range (i + 1)).foldl (foundF rus turn) [] = foundF rus turn F i := by
        rw [List.range_succ, List.foldl_append, ← hF]
        rfl
      have s0E := s7.trans sE
      refine ⟨_, .inl (sqL hDE'), _, .inl (sqL hflE), ?_⟩
      rw [List.length_map, List.length_map, agesF_len]
      by_cases cl : F.length < ds.length + 1
      · rw [if_pos (by omega)]
        refine ⟨D, turn, (i : Int), ds.length, agesF ds, rfl, .inr (sqL hDE'), agesF_ok T0.pos ds hdm, by rw [agesF_len]; omega, T0.pos, by omega, fun pf m HG sG hm hmx npf hpf => ?_⟩
        have em : m = ds.sum := by
          have h1 := agesF_max T0.pos ds hdm m hm
          have h2 := hmx _ (agesF_last ds)
          omega
        refine ⟨pf, K7, _, _, _, _, rfl, s0E.trans sG, ?_, (hK7.same sE).same sG, ?_, s0E.free npf⟩
        · obtain ⟨φ, hφ⟩ := (hK7.same sE).at_
          exact (ne_of_none hφ npf).symm
        · rw [hFn]
          unfold foundF
          rw [hds, if_pos cl, ← em]
          exact hpf
      · rw [if_neg (by omega)]
        refine ⟨fl, K7, _, _, _, _, rfl, s0E, hne, hK7.same sE, ?_, hfl0⟩
        rw [hFn]
        unfold foundF
        rw [hds, if_neg cl]
        exact hflE
    · obtain ⟨fl, K', y5, y6, y7, y8, rfl, sA, hne, hK', hflA, hfl0⟩ := iv
      walk_at "ru"
      subst hK_
      first | with_reducible refine seq_k fun K_ hK_ => ?_ | skip
      walk_at "ru"
      refine ⟨_, .inl (sqL hflA), fun p hp => ?_⟩
      generalize hG_ : upd HA p _ = HB
      obtain ⟨sB, hpB⟩ := newF hp hG_
      rw [List.length_map] at hpB
      exact q1 p fl HB (sA.trans sB) (sA.free hp) hfl0 hpB (sB _ _ hflA)
end
end Nk
namespace Nk
open PySem L2
section
variable {P : Program} {w : World} {K : PySem.W.Frag} {mg : Str → Option Value} {base : Heap}
/-- the errors' names, as the laws number them -/
def exNames : List Str := ["BadRounds", "BadNight", "BadNumber", "BadRules", "BadNights", "Elder", "Full", "NotHeld", "Pinned", "NotPinned", "BadState", "BadPart", "NotFit", "IsWhole", "BadPlan", "Unlike", "BadText"]
/-- an error of the j-th kind, caught, at a -/
def CaughtAt (mg : Str → Option Value) (H : Hp) (a : Addr) (j : Nat) : Prop := ∃ (x : Str) (d : Option Addr), exNames[j]? = some x ∧ H a = some (ExV (.ref (cls mg x)) d a) ∧ ∀ dd, d = some dd → ∃ fs, H dd = some (.xd fs)
theorem ex_count : ∀ j ∈ List.range 17, ((exNames.map fun y => V.bl (decide (exNames.getD j "" = y))).countP fun z => eqV z (.bl true)) = 1 := by decide +kernel
theorem ex_at : ∀ j ∈ List.range 17, ∀ m ∈ List.range 17, exNames.getD j "" = exNames.getD m "" → j = m := by decide +kernel
abbrev nm__law_word : List Str := ["caught", "kinds"]
abbrev pm__law_word : List Str := ["caught"]
abbrev lv__law_word : Nat := 1
theorem sc__law_word : FnScope nm__law_word pm__law_word (defScope s__law_word) := ⟨rfl, rfl, rfl, by decide +kernel, rfl, by decide +kernel, by decide +kernel⟩
def sp__law_word (mg : Str → Option Value) : Sp := fun vs H Q _ => ∃ (a : Addr) (j : Nat), vs = [.ref a] ∧ CaughtAt mg H a j ∧ ∀ H', Same H H' → Q (.int j) H'
theorem ec_all (T : Txt K mg) : ∀ x ∈ exNames, Ec K mg x := by
  intro x hx
  simp only [exNames, List.mem_cons, List.not_mem_nil, or_false] at hx
  rcases hx with rfl | rfl | rfl | rfl | rfl | rfl | rfl | rfl | rfl | rfl | rfl | rfl | rfl | rfl | rfl | rfl | rfl
  · exact T.e_BadRounds
  · exact T.e_BadNight
  · exact T.e_BadNumber
  · exact T.e_BadRules
  · exact T.e_BadNights
  · exact T.e_Elder
  · exact T.e_Full
  · exact T.e_NotHeld
  · exact T.e_Pinned
  · exact T.e_NotPinned
  · exact T.e_BadState
  · exact T.e_BadPart
  · exact T.e_NotFit
  · exact T.e_IsWhole
  · exact T.e_BadPlan
  · exact T.e_Unlike
  · exact T.e_BadText
theorem isx_of (T : Txt K mg) {H : Hp} {a : Addr} {x y : Str} {d : Option Addr} {Q : VK} (ha : H a = some (ExV (.ref (cls mg x)) d a)) (hd : ∀ dd, d = some dd → ∃ fs, H dd = some (.xd fs)) (hx : x ∈ exNames) (hy : y ∈ exNames) (q : Q (.bl (decide (x = y))) H) : rIsX K [.ref a, .ref (cls mg y)] H Q :=
  ⟨a, _, d, _, _, _, rfl, ha, (ec_all T x hx).ec, .own _, (ec_all T x hx).is (ec_all T y hy) T.k_err (by intro z; rw [z] at hy; revert hy; decide), hd, q⟩
theorem isxR_of (T : Txt K mg) {H : Hp} {a : Addr} {x : Str} {d : Option Addr} {Q : VK} (ha : H a = some (ExV (.ref (cls mg x)) d a)) (hd : ∀ dd, d = some dd → ∃ fs, H dd = some (.xd fs)) (hx : x ∈ exNames) (q : Q (.bl true) H) : rIsX K [.ref a, .ty "RuntimeError"] H Q :=
  ⟨a, _, d, _, _, _, rfl, ha, (ec_all T x hx).ec, .ty _, (ec_all T x hx).isR, hd, q⟩
theorem f__law_word (T : Txt K mg) : Fk P w K mg base CX0 lv__law_word "_law_word" pm__law_word (sp__law_word mg) := by
  obtain ⟨f, fd, F, g, b⟩ := T.d__law_word.ex
  refine ⟨f, fd, g, F.kp, b, F.ok sc__law_word (fun vs H Q E h => ?_) (fun cdv A outer s H vs Q E hr h => ?_)⟩
  · obtain ⟨a, j, rfl, _⟩ := h; rfl
  · obtain ⟨a, j, rfl, ⟨x, d, hj, ha, hd⟩, q⟩ := h
    have hx : x ∈ exNames := List.mem_of_getElem? hj
    refine ⟨_, (pss_cons (ps_if (pt_not (pt_val (pe_callB call_isX (by rfl) T.b_isinstance (by decide +kernel) (pa_cons (pv 0) (pa_cons (pe_bltn (v := .ty "RuntimeError") (by rfl) T.b_RuntimeError (by decide +kernel) rfl) pa_nil))))) (pss_one (ps_ret (pe_un un_neg pe_int))) pss_nil)
      (pss_cons (ps_set (i := 1) sc__law_word.nd rfl (.inl rfl) (pe_lst (pa_cons (pe_callB call_isX (by rfl) T.b_isinstance (by decide +kernel) (pa_cons (pv 0) (pa_cons (pe_glob (v := .ref (cls mg "BadRounds")) (by rfl) T.e_BadRounds.gP rfl) pa_nil))) (pa_cons (pe_callB call_isX (by rfl) T.b_isinstance (by decide +kernel) (pa_cons (pv 0) (pa_cons (pe_glob (v := .ref (cls mg "BadNight")) (by rfl) T.e_BadNight.gP rfl) pa_nil))) (pa_cons (pe_callB call_isX (by rfl) T.b_isinstance (by decide +kernel) (pa_cons (pv 0) (pa_cons (pe_glob (v := .ref (cls mg "BadNumber")) (by rfl) T.e_BadNumber.gP rfl) pa_nil))) pa_nil)))))
      (pss_cons (ps_set (i := 1) sc__law_word.nd rfl (.inl rfl) (pe_op op_cat (pv 1) (pe_lst (pa_cons (pe_callB call_isX (by rfl) T.b_isinstance (by decide +kernel) (pa_cons (pv 0) (pa_cons (pe_glob (v := .ref (cls mg "BadRules")) (by rfl) T.e_BadRules.gP rfl) pa_nil))) (pa_cons (pe_callB call_isX (by rfl) T.b_isinstance (by decide +kernel) (pa_cons (pv 0) (pa_cons (pe_glob (v := .ref (cls mg "BadNights")) (by rfl) T.e_BadNights.gP rfl) pa_nil))) (pa_cons (pe_callB call_isX (by rfl) T.b_isinstance (by decide +kernel) (pa_cons (pv 0) (pa_cons (pe_glob (v := .ref (cls mg "Elder")) (by rfl) T.e_Elder.gP rfl) pa_nil))) pa_nil))))))
      (pss_cons (ps_set (i := 1) sc__law_word.nd rfl (.inl rfl) (pe_op op_cat (pv 1) (pe_lst (pa_cons (pe_callB call_isX (by rfl) T.b_isinstance (by decide +kernel) (pa_cons (pv 0) (pa_cons (pe_glob (v := .ref (cls mg "Full")) (by rfl) T.e_Full.gP rfl) pa_nil))) (pa_cons (pe_callB call_isX (by rfl) T.b_isinstance (by decide +kernel) (pa_cons (pv 0) (pa_cons (pe_glob (v := .ref (cls mg "NotHeld")) (by rfl) T.e_NotHeld.gP rfl) pa_nil))) (pa_cons (pe_callB call_isX (by rfl) T.b_isinstance (by decide +kernel) (pa_cons (pv 0) (pa_cons (pe_glob (v := .ref (cls mg "Pinned")) (by rfl) T.e_Pinned.gP rfl) pa_nil))) pa_nil))))))
      (pss_cons (ps_set (i := 1) sc__law_word.nd rfl (.inl rfl) (pe_op op_cat (pv 1) (pe_lst (pa_cons (pe_callB call_isX (by rfl) T.b_isinstance (by decide +kernel) (pa_cons (pv 0) (pa_cons (pe_glob (v := .ref (cls mg "NotPinned")) (by rfl) T.e_NotPinned.gP rfl) pa_nil))) (pa_cons (pe_callB call_isX (by rfl) T.b_isinstance (by decide +kernel) (pa_cons (pv 0) (pa_cons (pe_glob (v := .ref (cls mg "BadState")) (by rfl) T.e_BadState.gP rfl) pa_nil))) (pa_cons (pe_callB call_isX (by rfl) T.b_isinstance (by decide +kernel) (pa_cons (pv 0) (pa_cons (pe_glob (v := .ref (cls mg "BadPart")) (by rfl) T.e_BadPart.gP rfl) pa_nil))) pa_nil))))))
      (pss_cons (ps_set (i := 1) sc__law_word.nd rfl (.inl rfl) (pe_op op_cat (pv 1) (pe_lst (pa_cons (pe_callB call_isX (by rfl) T.b_isinstance (by decide +kernel) (pa_cons (pv 0) (pa_cons (pe_glob (v := .ref (cls mg "NotFit")) (by rfl) T.e_NotFit.gP rfl) pa_nil))) (pa_cons (pe_callB call_isX (by rfl) T.b_isinstance (by decide +kernel) (pa_cons (pv 0) (pa_cons (pe_glob (v := .ref (cls mg "IsWhole")) (by rfl) T.e_IsWhole.gP rfl) pa_nil))) (pa_cons (pe_callB call_isX (by rfl) T.b_isinstance (by decide +kernel) (pa_cons (pv 0) (pa_cons (pe_glob (v := .ref (cls mg "BadPlan")) (by rfl) T.e_BadPlan.gP rfl) pa_nil))) pa_nil))))))
      (pss_cons (ps_set (i := 1) sc__law_word.nd rfl (.inl rfl) (pe_op op_cat (pv 1) (pe_lst (pa_cons (pe_callB call_isX (by rfl) T.b_isinstance (by decide +kernel) (pa_cons (pv 0) (pa_cons (pe_glob (v := .ref (cls mg "Unlike")) (by rfl) T.e_Unlike.gP rfl) pa_nil))) (pa_cons (pe_callB call_isX (by rfl) T.b_isinstance (by decide +kernel) (pa_cons (pv 0) (pa_cons (pe_glob (v := .ref (cls mg "BadText")) (by rfl) T.e_BadText.gP rfl) pa_nil))) pa_nil)))))
      (pss_one (ps_ret (pe_ifExp (pt_cmpR op_eq (pe_bm PySem.F.plainAttrs_list PySem.F.slot_list_count PySem.F.type_list_count mt_countF (pv 1) (pa_cons pe_bl pa_nil)) pe_int (nomark _)) (pe_bm PySem.F.plainAttrs_list PySem.F.slot_list_index PySem.F.type_list_index mt_index (pv 1) (pa_cons pe_bl pa_nil)) (pe_un un_neg pe_int))))))))))), ?_⟩
    with_reducible refine seq_k fun K_ hK_ => ?_
    walk_at "rt"
    refine isxR_of T ha hd hx ⟨true, rfl, ?_⟩
    walk_at "rt"
    walk_at "rt"
    subst hK_
    first | with_reducible refine seq_k fun K_ hK_ => ?_ | skip
    walk_at "rt"
    refine isx_of T ha hd hx (by decide) ?_
    refine isx_of T ha hd hx (by decide) ?_
    refine isx_of T ha hd hx (by decide) ?_
    intro p0 hp0
    have s0 := same_upd (o := .lst ([V.bl (decide (x = "BadRounds")), .bl (decide (x = "BadNight")), .bl (decide (x = "BadNumber"))])) hp0
    have hl0 := upd_same (H := H) (a := p0) (o := .lst ([V.bl (decide (x = "BadRounds")), .bl (decide (x = "BadNight")), .bl (decide (x = "BadNumber"))]))
    revert s0 hl0
    generalize upd H p0 (.lst ([V.bl (decide (x = "BadRounds")), .bl (decide (x = "BadNight")), .bl (decide (x = "BadNumber"))])) = H0
    intro s0 hl0
    have ha0 := s0 _ _ ha
    have hd0 : ∀ dd, d = some dd → ∃ fs, H0 dd = some (.xd fs) := fun dd e => by obtain ⟨fs, h⟩ := hd dd e; exact ⟨fs, s0 _ _ h⟩
    walk_at "rt"
    subst hK_
    first | with_reducible refine seq_k fun K_ hK_ => ?_ | skip
    walk_at "rt"
    refine isx_of T ha0 hd0 hx (by decide) ?_
    refine isx_of T ha0 hd0 hx (by decide) ?_
    refine isx_of T ha0 hd0 hx (by decide) ?_
    intro q0 hq0
    have u0 := same_upd (o := .lst ([V.bl (decide (x = "BadRules")), V.bl (decide (x = "BadNights")), V.bl (decide (x = "Elder"))])) hq0
    refine ⟨p0, q0, _, _, rfl, rfl, u0 _ _ hl0, upd_same, sz (by simp), fun p1 hp1 => ?_⟩
    have v0 := s0.trans (u0.trans (same_upd (o := .lst ([V.bl (decide (x = "BadRounds")), V.bl (decide (x = "BadNight")), V.bl (decide (x = "BadNumber"))] ++ [V.bl (decide (x = "BadRules")), V.bl (decide (x = "BadNights")), V.bl (decide (x = "Elder"))])) hp1))
    have hl1 : (upd (upd H0 q0 (.lst ([V.bl (decide (x = "BadRules")), V.bl (decide (x = "BadNights")), V.bl (decide (x = "Elder"))]))) p1 (.lst ([V.bl (decide (x = "BadRounds")), V.bl (decide (x = "BadNight")), V.bl (decide (x = "BadNumber"))] ++ [V.bl (decide (x = "BadRules")), V.bl (decide (x = "BadNights")), V.bl (decide (x = "Elder"))]))) p1 = some (.lst ([V.bl (decide (x = "BadRounds")), V.bl (decide (x = "BadNight")), V.bl (decide (x = "BadNumber")), V.bl (decide (x = "BadRules")), V.bl (decide (x = "BadNights")), V.bl (decide (x = "Elder"))])) := upd_same
    revert hl1 v0
    generalize upd (upd H0 q0 (.lst ([V.bl (decide (x = "BadRules")), V.bl (decide (x = "BadNights")), V.bl (decide (x = "Elder"))]))) p1 (.lst ([V.bl (decide (x = "BadRounds")), V.bl (decide (x = "BadNight")), V.bl (decide (x = "BadNumber"))] ++ [V.bl (decide (x = "BadRules")), V.bl (decide (x = "BadNights")), V.bl (decide (x = "Elder"))])) = H1
    intro s1 hl1
    have ha1 := s1 _ _ ha
    have hd1 : ∀ dd, d = some dd → ∃ fs, H1 dd = some (.xd fs) := fun dd e => by obtain ⟨fs, h⟩ := hd dd e; exact ⟨fs, s1 _ _ h⟩
    walk_at "rt"
    subst hK_
    first | with_reducible refine seq_k fun K_ hK_ => ?_ | skip
    walk_at "rt"
    refine isx_of T ha1 hd1 hx (by decide) ?_
    refine isx_of T ha1 hd1 hx (by decide) ?_
    refine isx_of T ha1 hd1 hx (by decide) ?_
    intro q1 hq1
    have u1 := same_upd (o := .lst ([V.bl (decide (x = "Full")), V.bl (decide (x = "NotHeld")), V.bl (decide (x = "Pinned"))])) hq1
    refine ⟨p1, q1, _, _, rfl, rfl, u1 _ _ hl1, upd_same, sz (by simp), fun p2 hp2 => ?_⟩
    have v1 := s1.trans (u1.trans (same_upd (o := .lst ([V.bl (decide (x = "BadRounds")), V.bl (decide (x = "BadNight")), V.bl (decide (x = "BadNumber")), V.bl (decide (x = "BadRules")), V.bl (decide (x = "BadNights")), V.bl (decide (x = "Elder"))] ++ [V.bl (decide (x = "Full")), V.bl (decide (x = "NotHeld")), V.bl (decide (x = "Pinned"))])) hp2))
    have hl2 : (upd (upd H1 q1 (.lst ([V.bl (decide (x = "Full")), V.bl (decide (x = "NotHeld")), V.bl (decide (x = "Pinned"))]))) p2 (.lst ([V.bl (decide (x = "BadRounds")), V.bl (decide (x = "BadNight")), V.bl (decide (x = "BadNumber")), V.bl (decide (x = "BadRules")), V.bl (decide (x = "BadNights")), V.bl (decide (x = "Elder"))] ++ [V.bl (decide (x = "Full")), V.bl (decide (x = "NotHeld")), V.bl (decide (x = "Pinned"))]))) p2 = some (.lst ([V.bl (decide (x = "BadRounds")), V.bl (decide (x = "BadNight")), V.bl (decide (x = "BadNumber")), V.bl (decide (x = "BadRules")), V.bl (decide (x = "BadNights")), V.bl (decide (x = "Elder")), V.bl (decide (x = "Full")), V.bl (decide (x = "NotHeld")), V.bl (decide (x = "Pinned"))])) := upd_same
    revert hl2 v1
    generalize upd (upd H1 q1 (.lst ([V.bl (decide (x = "Full")), V.bl (decide (x = "NotHeld")), V.bl (decide (x = "Pinned"))]))) p2 (.lst ([V.bl (decide (x = "BadRounds")), V.bl (decide (x = "BadNight")), V.bl (decide (x = "BadNumber")), V.bl (decide (x = "BadRules")), V.bl (decide (x = "BadNights")), V.bl (decide (x = "Elder"))] ++ [V.bl (decide (x = "Full")), V.bl (decide (x = "NotHeld")), V.bl (decide (x = "Pinned"))])) = H2
    intro s2 hl2
    have ha2 := s2 _ _ ha
    have hd2 : ∀ dd, d = some dd → ∃ fs, H2 dd = some (.xd fs) := fun dd e => by obtain ⟨fs, h⟩ := hd dd e; exact ⟨fs, s2 _ _ h⟩
    walk_at "rt"
    subst hK_
    first | with_reducible refine seq_k fun K_ hK_ => ?_ | skip
    walk_at "rt"
    refine isx_of T ha2 hd2 hx (by decide) ?_
    refine isx_of T ha2 hd2 hx (by decide) ?_
    refine isx_of T ha2 hd2 hx (by decide) ?_
    intro q2 hq2
    have u2 := same_upd (o := .lst ([V.bl (decide (x = "NotPinned")), V.bl (decide (x = "BadState")), V.bl (decide (x = "BadPart"))])) hq2
    refine ⟨p2, q2, _, _, rfl, rfl, u2 _ _ hl2, upd_same, sz (by simp), fun p3 hp3 => ?_⟩
    have v2 := s2.trans (u2.trans (same_upd (o := .lst ([V.bl (decide (x = "BadRounds")), V.bl (decide (x = "BadNight")), V.bl (decide (x = "BadNumber")), V.bl (decide (x = "BadRules")), V.bl (decide (x = "BadNights")), V.bl (decide (x = "Elder")), V.bl (decide (x = "Full")), V.bl (decide (x = "NotHeld")), V.bl (decide (x = "Pinned"))] ++ [V.bl (decide (x = "NotPinned")), V.bl (decide (x = "BadState")), V.bl (decide (x = "BadPart"))])) hp3))
    have hl3 : (upd (upd H2 q2 (.lst ([V.bl (decide (x = "NotPinned")), V.bl (decide (x = "BadState")), V.bl (decide (x = "BadPart"))]))) p3 (.lst ([V.bl (decide (x = "BadRounds")), V.bl (decide (x = "BadNight")), V.bl (decide (x = "BadNumber")), V.bl (decide (x = "BadRules")), V.bl (decide (x = "BadNights")), V.bl (decide (x = "Elder")), V.bl (decide (x = "Full")), V.bl (decide (x = "NotHeld")), V.bl (decide (x = "Pinned"))] ++ [V.bl (decide (x = "NotPinned")), V.bl (decide (x = "BadState")), V.bl (decide (x = "BadPart"))]))) p3 = some (.lst ([V.bl (decide (x = "BadRounds")), V.bl (decide (x = "BadNight")), V.bl (decide (x = "BadNumber")), V.bl (decide (x = "BadRules")), V.bl (decide (x = "BadNights")), V.bl (decide (x = "Elder")), V.bl (decide (x = "Full")), V.bl (decide (x = "NotHeld")), V.bl (decide (x = "Pinned")), V.bl (decide (x = "NotPinned")), V.bl (decide (x = "BadState")), V.bl (decide (x = "BadPart"))])) := upd_same
    revert hl3 v2
    generalize upd (upd H2 q2 (.lst ([V.bl (decide (x = "NotPinned")), V.bl (decide (x = "BadState")), V.bl (decide (x = "BadPart"))]))) p3 (.lst ([V.bl (decide (x = "BadRounds")), V.bl (decide (x = "BadNight")), V.bl (decide (x = "BadNumber")), V.bl (decide (x = "BadRules")), V.bl (decide (x = "BadNights")), V.bl (decide (x = "Elder")), V.bl (decide (x = "Full")), V.bl (decide (x = "NotHeld")), V.bl (decide (x = "Pinned"))] ++ [V.bl (decide (x = "NotPinned")), V.bl (decide (x = "BadState")), V.bl (decide (x = "BadPart"))])) = H3
    intro s3 hl3
    have ha3 := s3 _ _ ha
    have hd3 : ∀ dd, d = some dd → ∃ fs, H3 dd = some (.xd fs) := fun dd e => by obtain ⟨fs, h⟩ := hd dd e; exact ⟨fs, s3 _ _ h⟩
    walk_at "rt"
    subst hK_
    first | with_reducible refine seq_k fun K_ hK_ => ?_ | skip
    walk_at "rt"
    refine isx_of T ha3 hd3 hx (by decide) ?_
    refine isx_of T ha3 hd3 hx (by decide) ?_
    refine isx_of T ha3 hd3 hx (by decide) ?_
    intro q3 hq3
    have u3 := same_upd (o := .lst ([V.bl (decide (x = "NotFit")), V.bl (decide (x = "IsWhole")), V.bl (decide (x = "BadPlan"))])) hq3
    refine ⟨p3, q3, _, _, rfl, rfl, u3 _ _ hl3, upd_same, sz (by simp), fun p4 hp4 => ?_⟩
    have v3 := s3.trans (u3.trans (same_upd (o := .lst ([V.bl (decide (x = "BadRounds")), V.bl (decide (x = "BadNight")), V.bl (decide (x = "BadNumber")), V.bl (decide (x = "BadRules")), V.bl (decide (x = "BadNights")), V.bl (decide (x = "Elder")), V.bl (decide (x = "Full")), V.bl (decide (x = "NotHeld")), V.bl (decide (x = "Pinned")), V.bl (decide (x = "NotPinned")), V.bl (decide (x = "BadState")), V.bl (decide (x = "BadPart"))] ++ [V.bl (decide (x = "NotFit")), V.bl (decide (x = "IsWhole")), V.bl (decide (x = "BadPlan"))])) hp4))
    have hl4 : (upd (upd H3 q3 (.lst ([V.bl (decide (x = "NotFit")), V.bl (decide (x = "IsWhole")), V.bl (decide (x = "BadPlan"))]))) p4 (.lst ([V.bl (decide (x = "BadRounds")), V.bl (decide (x = "BadNight")), V.bl (decide (x = "BadNumber")), V.bl (decide (x = "BadRules")), V.bl (decide (x = "BadNights")), V.bl (decide (x = "Elder")), V.bl (decide (x = "Full")), V.bl (decide (x = "NotHeld")), V.bl (decide (x = "Pinned")), V.bl (decide (x = "NotPinned")), V.bl (decide (x = "BadState")), V.bl (decide (x = "BadPart"))] ++ [V.bl (decide (x = "NotFit")), V.bl (decide (x = "IsWhole")), V.bl (decide (x = "BadPlan"))]))) p4 = some (.lst ([V.bl (decide (x = "BadRounds")), V.bl (decide (x = "BadNight")), V.bl (decide (x = "BadNumber")), V.bl (decide (x = "BadRules")), V.bl (decide (x = "BadNights")), V.bl (decide (x = "Elder")), V.bl (decide (x = "Full")), V.bl (decide (x = "NotHeld")), V.bl (decide (x = "Pinned")), V.bl (decide (x = "NotPinned")), V.bl (decide (x = "BadState")), V.bl (decide (x = "BadPart")), V.bl (decide (x = "NotFit")), V.bl (decide (x = "IsWhole")), V.bl (decide (x = "BadPlan"))])) := upd_same
    revert hl4 v3
    generalize upd (upd H3 q3 (.lst ([V.bl (decide (x = "NotFit")), V.bl (decide (x = "IsWhole")), V.bl (decide (x = "BadPlan"))]))) p4 (.lst ([V.bl (decide (x = "BadRounds")), V.bl (decide (x = "BadNight")), V.bl (decide (x = "BadNumber")), V.bl (decide (x = "BadRules")), V.bl (decide (x = "BadNights")), V.bl (decide (x = "Elder")), V.bl (decide (x = "Full")), V.bl (decide (x = "NotHeld")), V.bl (decide (x = "Pinned")), V.bl (decide (x = "NotPinned")), V.bl (decide (x = "BadState")), V.bl (decide (x = "BadPart"))] ++ [V.bl (decide (x = "NotFit")), V.bl (decide (x = "IsWhole")), V.bl (decide (x = "BadPlan"))])) = H4
    intro s4 hl4
    have ha4 := s4 _ _ ha
    have hd4 : ∀ dd, d = some dd → ∃ fs, H4 dd = some (.xd fs) := fun dd e => by obtain ⟨fs, h⟩ := hd dd e; exact ⟨fs, s4 _ _ h⟩
    walk_at "rt"
    subst hK_
    first | with_reducible refine seq_k fun K_ hK_ => ?_ | skip
    walk_at "rt"
    refine isx_of T ha4 hd4 hx (by decide) ?_
    refine isx_of T ha4 hd4 hx (by decide) ?_
    intro q4 hq4
    have u4 := same_upd (o := .lst ([V.bl (decide (x = "Unlike")), V.bl (decide (x = "BadText"))])) hq4
    refine ⟨p4, q4, _, _, rfl, rfl, u4 _ _ hl4, upd_same, sz (by simp), fun p5 hp5 => ?_⟩
    have v4 := s4.trans (u4.trans (same_upd (o := .lst ([V.bl (decide (x = "BadRounds")), V.bl (decide (x = "BadNight")), V.bl (decide (x = "BadNumber")), V.bl (decide (x = "BadRules")), V.bl (decide (x = "BadNights")), V.bl (decide (x = "Elder")), V.bl (decide (x = "Full")), V.bl (decide (x = "NotHeld")), V.bl (decide (x = "Pinned")), V.bl (decide (x = "NotPinned")), V.bl (decide (x = "BadState")), V.bl (decide (x = "BadPart")), V.bl (decide (x = "NotFit")), V.bl (decide (x = "IsWhole")), V.bl (decide (x = "BadPlan"))] ++ [V.bl (decide (x = "Unlike")), V.bl (decide (x = "BadText"))])) hp5))
    have hl5 : (upd (upd H4 q4 (.lst ([V.bl (decide (x = "Unlike")), V.bl (decide (x = "BadText"))]))) p5 (.lst ([V.bl (decide (x = "BadRounds")), V.bl (decide (x = "BadNight")), V.bl (decide (x = "BadNumber")), V.bl (decide (x = "BadRules")), V.bl (decide (x = "BadNights")), V.bl (decide (x = "Elder")), V.bl (decide (x = "Full")), V.bl (decide (x = "NotHeld")), V.bl (decide (x = "Pinned")), V.bl (decide (x = "NotPinned")), V.bl (decide (x = "BadState")), V.bl (decide (x = "BadPart")), V.bl (decide (x = "NotFit")), V.bl (decide (x = "IsWhole")), V.bl (decide (x = "BadPlan"))] ++ [V.bl (decide (x = "Unlike")), V.bl (decide (x = "BadText"))]))) p5 = some (.lst ([V.bl (decide (x = "BadRounds")), V.bl (decide (x = "BadNight")), V.bl (decide (x = "BadNumber")), V.bl (decide (x = "BadRules")), V.bl (decide (x = "BadNights")), V.bl (decide (x = "Elder")), V.bl (decide (x = "Full")), V.bl (decide (x = "NotHeld")), V.bl (decide (x = "Pinned")), V.bl (decide (x = "NotPinned")), V.bl (decide (x = "BadState")), V.bl (decide (x = "BadPart")), V.bl (decide (x = "NotFit")), V.bl (decide (x = "IsWhole")), V.bl (decide (x = "BadPlan")), V.bl (decide (x = "Unlike")), V.bl (decide (x = "BadText"))])) := upd_same
    revert hl5 v4
    generalize upd (upd H4 q4 (.lst ([V.bl (decide (x = "Unlike")), V.bl (decide (x = "BadText"))]))) p5 (.lst ([V.bl (decide (x = "BadRounds")), V.bl (decide (x = "BadNight")), V.bl (decide (x = "BadNumber")), V.bl (decide (x = "BadRules")), V.bl (decide (x = "BadNights")), V.bl (decide (x = "Elder")), V.bl (decide (x = "Full")), V.bl (decide (x = "NotHeld")), V.bl (decide (x = "Pinned")), V.bl (decide (x = "NotPinned")), V.bl (decide (x = "BadState")), V.bl (decide (x = "BadPart")), V.bl (decide (x = "NotFit")), V.bl (decide (x = "IsWhole")), V.bl (decide (x = "BadPlan"))] ++ [V.bl (decide (x = "Unlike")), V.bl (decide (x = "BadText"))])) = H5
    intro s5 hl5
    have ha5 := s5 _ _ ha
    have hd5 : ∀ dd, d = some dd → ∃ fs, H5 dd = some (.xd fs) := fun dd e => by obtain ⟨fs, h⟩ := hd dd e; exact ⟨fs, s5 _ _ h⟩
    walk_at "rt"
    subst hK_
    first | with_reducible refine seq_k fun K_ hK_ => ?_ | skip
    walk_at "rt"
    have h17 : j < 17 := lt_of_get hj
    have e17 : exNames.getD j "" = x := by rw [List.getD_eq_getElem?_getD, hj]; rfl
    have hcnt := ex_count j (List.mem_range.mpr h17)
    rw [e17] at hcnt
    have fl : ∀ l : List Str, (l.map fun y => V.bl (decide (x = y))).all flatV = true := fun l => by
      rw [List.all_map, List.all_eq_true]
      exact fun _ _ => rfl
    refine ⟨tyL hl5, p5, exNames.map (fun y => V.bl (decide (x = y))), .bl true, rfl, rfl, sqL hl5, rfl, fl _, ?_⟩
    rw [hcnt]
    refine ⟨rfl, ?_⟩
    rw [if_pos (show V.int ((1 : Nat) : Int) = V.int 1 from rfl)]
    refine ⟨tyL hl5, p5, exNames.map (fun y => V.bl (decide (x = y))), .bl true, j, .bl true, rfl, rfl, sqL hl5, rfl, fl _, ?_, rfl, fun m z hm hz => ?_, q H5 s5⟩
    · rw [List.getElem?_map, hj]
      simp
    · rw [List.getElem?_map] at hz
      cases e : exNames[m]? with
      | none => rw [e] at hz; cases hz
      | some y =>
        rw [e] at hz
        cases hz
        have h17' : m < 17 := lt_of_get e
        have e17' : exNames.getD m "" = y := by rw [List.getD_eq_getElem?_getD, e]; rfl
        have : x ≠ y := fun z => by
          have := ex_at j (List.mem_range.mpr h17) m (List.mem_range.mpr h17') (by rw [e17, e17', z])
          omega
        simp [this, eqV]
/-- the word of a kind -/
def exWords : List Str := ["rounds", "night", "number", "rules", "nights", "elder", "full", "held", "pinned", "not pinned", "state", "part", "fit", "whole", "plan", "unlike", "text"]
theorem wd_at : ∀ j ∈ List.range 17, ∀ m ∈ List.range 17, exWords.getD j "" = exWords.getD m "" → j = m := by decide +kernel
abbrev nm__law_refused : List Str := ["word", "words"]
abbrev pm__law_refused : List Str := ["word"]
abbrev lv__law_refused : Nat := 1
theorem sc__law_refused : FnScope nm__law_refused pm__law_refused (defScope s__law_refused) := ⟨rfl, rfl, rfl, by decide +kernel, rfl, by decide +kernel, by decide +kernel⟩
def sp__law_refused : Sp := fun vs H Q _ => ∃ (x : Str) (j : Nat), vs = [.str x] ∧ exWords[j]? = some x ∧ ∀ p H', Same H H' → H p = none → H' p = some (.tup [.str "refused", .int j]) → Q (.ref p) H'
theorem f__law_refused (T : Txt K mg) : Fk P w K mg base CX0 lv__law_refused "_law_refused" pm__law_refused sp__law_refused := by
  obtain ⟨f, fd, F, g, b⟩ := T.d__law_refused.ex
  refine ⟨f, fd, g, F.kp, b, F.ok sc__law_refused (fun vs H Q E h => ?_) (fun cdv A outer s H vs Q E hr h => ?_)⟩
  · obtain ⟨x, j, rfl, _⟩ := h; rfl
  · obtain ⟨x, j, rfl, hj, q⟩ := h
    refine ⟨_, (pss_cons (ps_set (i := 1) sc__law_refused.nd rfl (.inl rfl) (pe_lst (pa_cons pe_str (pa_cons pe_str (pa_cons pe_str (pa_cons pe_str (pa_cons pe_str (pa_cons pe_str (pa_cons pe_str (pa_cons pe_str (pa_cons pe_str (pa_cons pe_str (pa_cons pe_str pa_nil)))))))))))))
      (pss_cons (ps_set (i := 1) sc__law_refused.nd rfl (.inl rfl) (pe_op op_cat (pv 1) (pe_lst (pa_cons pe_str (pa_cons pe_str (pa_cons pe_str (pa_cons pe_str (pa_cons pe_str (pa_cons pe_str pa_nil)))))))))
      (pss_one (ps_ret (pe_tup (pa_cons pe_str (pa_cons (pe_bm PySem.F.plainAttrs_list PySem.F.slot_list_index PySem.F.type_list_index mt_index (pv 1) (pa_cons (pv 0) pa_nil)) pa_nil))))))), ?_⟩
    with_reducible refine seq_k fun K_ hK_ => ?_
    walk_at "rt"
    intro p0 hp0
    walk_at "rt"
    subst hK_
    first | with_reducible refine seq_k fun K_ hK_ => ?_ | skip
    walk_at "rt"
    intro q0 hq0
    have u0 := (same_upd (o := .lst ((exWords.take 11).map V.str)) hp0).trans (same_upd (o := .lst ((exWords.drop 11).map V.str)) hq0)
    refine ⟨p0, q0, (exWords.take 11).map V.str, (exWords.drop 11).map V.str, rfl, rfl, (same_upd hq0) _ _ upd_same, upd_same, sz (by decide), fun p1 hp1 => ?_⟩
    have s1 := u0.trans (same_upd (o := .lst (exWords.map V.str)) hp1)
    walk_at "rt"
    subst hK_
    first | with_reducible refine seq_k fun K_ hK_ => ?_ | skip
    walk_at "rt"
    have h17 : j < 17 := lt_of_get hj
    have e17 : exWords.getD j "" = x := by rw [List.getD_eq_getElem?_getD, hj]; rfl
    have fl : (exWords.map V.str).all flatV = true := by decide +kernel
    refine ⟨tyL (xs := exWords.map V.str) upd_same, p1, exWords.map V.str, .str x, j, .str x, rfl, rfl, sqL upd_same, rfl, fl, by rw [List.getElem?_map, hj]; rfl, by simp [eqV], fun m z hm hz => ?_, ?_⟩
    · rw [List.getElem?_map] at hz
      cases e : exWords[m]? with
      | none => rw [e] at hz; cases hz
      | some y =>
        rw [e] at hz
        cases hz
        have h17' : m < 17 := lt_of_get e
        have e17' : exWords.getD m "" = y := by rw [List.getD_eq_getElem?_getD, e]; rfl
        have : y ≠ x := fun z => by
          have := wd_at j (List.mem_range.mpr h17) m (List.mem_range.mpr h17') (by rw [e17, e17', z])
          omega
        simp [this, eqV]
    · intro p2 hp2
      exact q p2 _ (s1.trans (same_upd hp2)) (s1.free hp2) upd_same
end
end Nk
/-! ### weighing: rules drawn, small ones; nights chosen -/
namespace Nk
open PySem L2
/-- sums of rounds, and a turn of all -/
structure SumsOk (S : List Int) (t : Nat) : Prop where
  p : ∀ s ∈ S, 1 ≤ s ∧ s ≤ 6 ∧ s.toNat ∣ t
/-- rules drawn by sums -/
def SmallBy (S : List Int) (ru : List Int × Int) : Prop := ru.1.sum ∈ S ∧ 1 ≤ ru.2 ∧ ru.2 ≤ 4
section
variable {P : Program} {w : World} {K : PySem.W.Frag} {mg : Str → Option Value} {base : Heap}
theorem but_keep {H H' : Hp} {a t p : Addr} {ns : List Int} {c : Nat} {xs : List V} (T : Tn K H a t ns c) (b : But t H H') (h : H p = some (.tup xs)) : H' p = some (.tup xs) := T.tup b h
theorem rule_but {H H' : Hp} {a t : Addr} {ns : List Int} {c : Nat} {xs : List V} {rus : List (List Int × Int)} (T : Tn K H a t ns c) (b : But t H H') (h : RuleVs H xs rus) : RuleVs H' xs rus := by
  obtain ⟨l, hl⟩ := T.lst
  exact h.but b hl
theorem rule_upd {H : Hp} {D : Addr} {l : List V} {o : HO} {xs : List V} {rus : List (List Int × Int)} (h : RuleVs H xs rus) (hD : H D = some (.lst l)) : RuleVs (upd H D o) xs rus := by
  have tk : ∀ b ys, H b = some (.tup ys) → (upd H D o) b = some (.tup ys) := fun b ys e => by
    rw [upd_ne (ne_of e hD (by intro z; cases z))]; exact e
  refine ⟨h.1, fun i x hx => ?_⟩
  obtain ⟨ru, e, b, r, h1, h2, h3, h4, h5⟩ := h.2 i x hx
  exact ⟨ru, e, b, r, h1, tk _ _ h2, { h3 with at_ := tk _ _ h3.at_ }, h4, h5⟩
abbrev nm__law_parted : List Str := ["script", "town", "whole", "found", "left", "long"]
abbrev pm__law_parted : List Str := ["script", "town", "whole"]
abbrev lv__law_parted : Nat := 2
theorem sc__law_parted : FnScope nm__law_parted pm__law_parted (defScope s__law_parted) := ⟨rfl, rfl, rfl, by decide +kernel, rfl, by decide +kernel, by decide +kernel⟩
def sp__law_parted (K : PySem.W.Frag) : Sp := fun vs H Q _ => ∃ (a t : Addr) (ns : List Int) (c : Nat) (wh : Int), vs = [.ref a, .ref t, .int wh] ∧ Tn K H a t ns c ∧ c < 900000000 ∧ 1 ≤ wh ∧ wh ≤ 12 ∧
  ∀ (rs : List Int) (p : Addr) (c' : Nat) (H' : Hp), Rnds rs → rs.sum = wh → (rs.length : Int) ≤ wh → H p = none → p ≠ t → H' p = some (.tup (rs.map V.int)) → c' ≤ c + wh.toNat → Tn K H' a t ns c' → But t H H' → Q (.ref p) H'
def iv__law_parted (K : PySem.W.Frag) (a t p : Addr) (ns : List Int) (c : Nat) (wh : Int) (H : Hp) (m : Nat) (σ : L2.St) (H' : Hp) : Prop :=
  ∃ (left : Int) (rs : List Int) (c' : Nat) (y5 : Option V), σ = [some (.ref a), some (.ref t), some (.int wh), some (.ref p), some (.int left), y5] ∧ 0 ≤ left ∧ m = left.toNat ∧ (∀ r ∈ rs, 1 ≤ r) ∧ rs.sum + left = wh ∧ (rs.length : Int) + left ≤ wh ∧ H' p = some (.lst (rs.map V.int)) ∧ c' + left.toNat ≤ c + wh.toNat ∧ Tn K H' a t ns c' ∧ But t H H'
theorem f__law_parted (T : Txt K mg) : Fk P w K mg base CX0 lv__law_parted "_law_parted" pm__law_parted (sp__law_parted K) := by
  obtain ⟨f, fd, F, g, b⟩ := T.d__law_parted.ex
  refine ⟨f, fd, g, F.kp, b, F.ok sc__law_parted (fun vs H Q E h => ?_) (fun cdv A outer s H vs Q E hr h => ?_)⟩
  · obtain ⟨a, t, ns, c, wh, rfl, _⟩ := h; rfl
  · obtain ⟨a, t, ns, c, wh, rfl, hT, hc, h1, h2, q⟩ := h
    refine ⟨_, (pss_cons (ps_set (i := 3) sc__law_parted.nd rfl (.inl rfl) (pe_lst pa_nil))
      (pss_cons (ps_set (i := 4) sc__law_parted.nd rfl (.inl rfl) (pv 2))
      (pss_cons (ps_while PassesOwn.never (pt_cmpR op_gt (pv 4) pe_int (nomark _)) (pss_cons (ps_set (i := 5) sc__law_parted.nd rfl (.inl rfl) (pe_op op_add pe_int (pe_fn (f__law_draw T) (hr.mono (by decide)) (by rfl) pass0 (pa_cons (pv 0) (pa_cons (pv 1) (pa_cons (pv 4) pa_nil))))))
      (pss_cons (ps_expr (pe_bm PySem.F.plainAttrs_list PySem.F.slot_list_append PySem.F.type_list_append mt_append (pv 3) (pa_cons (pv 5) pa_nil)))
      (pss_one (ps_set (i := 4) sc__law_parted.nd rfl (.inl rfl) (pe_op op_sub (pv 4) (pv 5)))))))
      (pss_one (ps_ret (pe_callTy call_tuple_of (by rfl) T.b_tuple (by decide +kernel) (pa_cons (pv 3) pa_nil))))))), ?_⟩
    with_reducible refine seq_k fun K_ hK_ => ?_
    walk_at "ru"
    intro p n_p
    generalize hG_ : upd _ p _ = H1
    obtain ⟨s1, hp1⟩ := newF n_p hG_
    clear hG_
    walk_at "ru"
    subst hK_
    first | with_reducible refine seq_k fun K_ hK_ => ?_ | skip
    walk_at "ru"
    walk_at "ru"
    subst hK_
    first | with_reducible refine seq_k fun K_ hK_ => ?_ | skip
    walk_at "ru"
    have hpt : p ≠ t := hT.some_ n_p
    refine ⟨iv__law_parted K a t p ns c wh H, ⟨_, wh, [], c, none, rfl, by omega, rfl, fun r h => by simp at h, by simp, by simp, hp1, by omega, hT.same s1, fun b o h _ => s1 b o h⟩, ?_⟩
    rintro m σ H2 ⟨left, rs, c1, y5, rfl, l0, rfl, hr1, hsum, hrl, hp2, hc1, T2, b2⟩
    walk_at "ru"
    refine ite2 (fun cl => ?_) (fun cl => ?_)
    · refine ⟨_, fun σ' H'' h => h, ?_⟩
      with_reducible refine seq_k fun K_ hK_ => ?_
      walk_at "ru"
      refine ⟨a, t, ns, c1, left, rfl, T2, by omega, by omega, by omega, fun d H3 d0 d1 T3 b3 => ?_⟩
      refine ⟨d, rfl, ?_⟩
      obtain ⟨lg, hlg⟩ : ∃ lg : Int, 1 + d = lg := ⟨_, rfl⟩
      rw [hlg]
      have hp3 := b3 _ _ hp2 hpt
      have hrl2 : rs.length ≤ 12 := by omega
      walk_at "ru"
      subst hK_
      first | with_reducible refine seq_k fun K_ hK_ => ?_ | skip
      walk_at "ru"
      refine app (K := K) hp3 (by rw [List.length_map]; omega) ?_
      generalize hG_ : upd H3 p _ = H4
      have hp4 : H4 p = some (.lst ((rs ++ [lg]).map V.int)) := by rw [← hG_, upd_same, List.map_append]; rfl
      have k4 : ∀ b o, H3 b = some o → b ≠ p → H4 b = some o := fun b o h n => by rw [← hG_, upd_ne n]; exact h
      have T4 : Tn K H4 a t ns (c1 + 1) := by rw [← hG_]; exact T3.app hT n_p hpt
      clear hG_
      walk_at "ru"
      subst hK_
      first | with_reducible refine seq_k fun K_ hK_ => ?_ | skip
      walk_at "ru"
      refine ⟨(left - lg).toNat, by omega, left - lg, rs ++ [lg], c1 + 1, _, rfl, by omega, rfl, fun r hr => ?_, by rw [List.sum_append]; simp; omega, by rw [List.length_append]; simp; omega, hp4, by omega, T4, fun b o h nb => k4 b o (b3 b o (b2 b o h nb) nb) (ne_of_none h n_p)⟩
      rcases List.mem_append.mp hr with z | z
      · exact hr1 r z
      · rw [List.mem_singleton.mp z]; omega
    · subst hK_
      walk_at "ru"
      refine ⟨_, .inl ⟨sqL hp2, ?_⟩⟩
      intro r0 n_r0
      generalize hG_ : upd _ r0 _ = H3
      obtain ⟨s3, hr0⟩ := newF n_r0 hG_
      clear hG_
      have hl0 : left = 0 := by omega
      refine q rs r0 c1 H3 ⟨fun z => ?_, hr1⟩ (by omega) (by omega) ?_ (T2.some_ n_r0) hr0 (by omega) (T2.same s3) fun b o h nb => s3 _ _ (b2 b o h nb)
      · rw [z] at hsum; simp at hsum; omega
      · cases e : H r0 with
        | none => rfl
        | some o =>
          by_cases c2 : r0 = t
          · exact absurd c2 (T2.some_ n_r0)
          · rw [b2 r0 o e c2] at n_r0; cases n_r0
end
end Nk
/-! ### weighing: the laws' own words -/
namespace Nk
open PySem L2
theorem outdoes_iff {one ot : List (List Int × Int)} {ns : List Int} : (∃ x ∈ keptF one ns, x ∉ keptF ot ns) ↔ ∃ ru ∈ one, Wit ru ot ns := by
  constructor
  · rintro ⟨x, h1, h2⟩
    obtain ⟨ru, hru, hx⟩ := mem_keptF.mp h1
    exact ⟨ru, hru, x, hx, fun o ho z => h2 (mem_keptF.mpr ⟨o, ho, z⟩)⟩
  · rintro ⟨ru, hru, x, hx, hn⟩
    refine ⟨x, mem_keptF.mpr ⟨ru, hru, hx⟩, fun z => ?_⟩
    obtain ⟨o, ho, hz⟩ := mem_keptF.mp z
    exact hn o ho hz
section
variable {P : Program} {w : World} {K : PySem.W.Frag} {mg : Str → Option Value} {base : Heap}
abbrev nm__law_is_nights : List Str := ["thing", "one", "other"]
abbrev pm__law_is_nights : List Str := ["thing"]
abbrev lv__law_is_nights : Nat := 3
theorem sc__law_is_nights : FnScope nm__law_is_nights pm__law_is_nights (defScope s__law_is_nights) := ⟨rfl, rfl, rfl, by decide +kernel, rfl, by decide +kernel, by decide +kernel⟩
def sp__law_is_nights (K : PySem.W.Frag) : Sp := fun vs H Q _ => ∃ (p : Addr) (ns : List Int), vs = [.ref p] ∧ H p = some (.lst (ns.map V.int)) ∧ ns.length ≤ 100 ∧ (∀ z ∈ ns, 0 ≤ z ∧ z ≤ 1000000000) ∧ ns.Pairwise (· < ·) ∧ ∀ H', Same H H' → Q (.bl true) H'
theorem f__law_is_nights (T : Txt K mg) : Fk P w K mg base CX0 lv__law_is_nights "_law_is_nights" pm__law_is_nights (sp__law_is_nights K) := by
  obtain ⟨f, fd, F, g, b⟩ := T.d__law_is_nights.ex
  refine ⟨f, fd, g, F.kp, b, F.ok sc__law_is_nights (fun vs H Q E h => ?_) (fun cdv A outer s H vs Q E hr h => ?_)⟩
  · obtain ⟨p, ns, rfl, _⟩ := h; rfl
  · obtain ⟨p, ns, rfl, hp, hl, hb, hrise, q⟩ := h
    refine ⟨_, (pss_cons (ps_if (PW.pt (pw_or (pt_not (pt_val (pe_fn (f__law_wholes T) (hr.mono (by decide)) (by rfl) pass0 (pa_cons (pv 0) pa_nil)))) (pw_or (pt_cmpR op_gt (pe_callB call_len_seq (by rfl) T.b_len PySem.boot_len (pa_cons (pv 0) pa_nil)) pe_int (nomark _)) (pw_or1 (pt_cmpR (op_neD hr.units) (pe_lc (own := [("one", 1)]) (g := gName 1) (by rfl) sc__law_is_nights.nd (pi_list (pv 0)) (blkOk_by (own := [("one", 1)]) (N := nm__law_is_nights) (sc := defScope s__law_is_nights) (by decide +kernel)) (fun _ _ _ _ _ => (pg_name (i := 1) sc__law_is_nights.nd rfl (Or.inl rfl))) (fun _ _ _ _ _ => (pts_one (PW.pt (pw_or (pt_cmpR op_lt (pv 1) pe_int (nomark _)) (pw_or1 (pt_cmpR op_gt (pv 1) (pe_op op_pow pe_int pe_int) (nomark _))))))) (fun _ _ _ _ _ => (pv 1))) (pe_lst pa_nil) (nomark _)))))) (pss_one (ps_ret pe_bl)) pss_nil)
      (pss_one (ps_ret (pe_cmpR (op_eqD hr.units) (pe_lc (own := [("one", 1), ("other", 2)]) (g := gTup K 2 (gCons (gName 1) (gCons (gName 2) (gNil)))) (by rfl) sc__law_is_nights.nd (pi_zip (by rfl) T.b_zip (pa_cons (pv 0) (pa_cons (pe_slice sl_list (pv 0) (po_some pe_int) po_none) pa_nil))) (blkOk_by (own := [("one", 1), ("other", 2)]) (N := nm__law_is_nights) (sc := defScope s__law_is_nights) (by decide +kernel)) (fun _ _ _ _ _ => (pg_tupK K rfl rfl (pgs_cons (pg_name (i := 1) sc__law_is_nights.nd rfl (Or.inl rfl)) (pgs_cons (pg_name (i := 2) sc__law_is_nights.nd rfl (Or.inl rfl)) pgs_nil)))) (fun _ _ _ _ _ => (pts_one (pt_cmpR op_ge (pv 1) (pv 2) (nomark _)))) (fun _ _ _ _ _ => pe_int)) (pe_lst pa_nil) (nomark _))))), ?_⟩
    with_reducible refine seq_k fun K_ hK_ => ?_
    walk_at "ru"
    refine ⟨p, _, rfl, hp, by rw [List.length_map]; omega, fun x hx => ?_, fun H1 s1 => ?_⟩
    · obtain ⟨i, _, rfl⟩ := List.mem_map.mp hx; exact ⟨i, rfl⟩
    have hp1 := s1 _ _ hp
    refine ⟨_, rfl, ?_⟩
    rw [if_neg (by simp)]
    refine ⟨_, .inl (sqL hp1), ?_⟩
    rw [List.length_map, if_neg (by omega)]
    refine ⟨⟨_, sqL hp1⟩, fun D hD => ?_⟩
    refine lcF (fun z => decide (z < 0) || decide (1000000000 < z)) hD (sqL hp1) (by omega) (fun _ => rfl) (fun _ => rfl) (fun y H3 hy s3 Q hQ => ?_) (fun H3 s3 hD3 => ?_)
    · have hyb := hb y hy
      walk_at "ru"
      have hq := hQ H3 (Same.refl _)
      have e : (decide (y < 0) || decide (1000000000 < y)) = false := by simp; omega
      simp only [e] at hq
      rw [if_neg (by omega)]
      refine ⟨⟨by decide, by decide, by decide⟩, ?_⟩
      have e2 : decide ((10 : Int) ^ Int.toNat 9 < y) = false := by
        rw [show Int.toNat 9 = 9 from rfl, show (10 : Int) ^ 9 = 1000000000 by decide]
        simp; omega
      rw [e2]
      exact hq
    have hf : (ns.filter fun z => decide (z < 0) || decide (1000000000 < z)) = [] := by
      rw [List.filter_eq_nil_iff]
      intro z hz
      have := hb z hz
      simp; omega
    rw [hf] at hD3
    intro e0 n_e0
    generalize hG_ : upd _ e0 _ = H4
    obtain ⟨s4, he0⟩ := newF n_e0 hG_
    clear hG_
    refine neD (d := dLI []) (e := dLI []) (dp_LI (sqL (s4 _ _ hD3))) (dp_LI (ns := []) (sqL he0)) (gd_dLI (k := 0) _) (gd_dLI (k := 0) _) (fun _ => ?_) (fun z => absurd rfl z)
    refine ⟨_, rfl, ?_⟩
    rw [if_neg (by simp)]
    have s14 := s3.trans s4
    have hp4 := s14 _ _ hp1
    walk_at "ru"
    subst hK_
    first | with_reducible refine seq_k fun K_ hK_ => ?_ | skip
    walk_at "ru"
    refine ⟨p, _, rfl, sqL hp4, fun c hc => ?_⟩
    generalize hG_ : upd H4 c _ = H5
    obtain ⟨s5, hc5⟩ := newF hc hG_
    clear hG_
    rw [show cutV (ns.map V.int) (some 1) none = (ns.map V.int).drop 1 from cut_from _ 1, ← List.map_drop] at hc5
    have hp5 := s5 _ _ hp4
    refine ⟨c, rfl, _, sqL hp5, _, sqL hc5, fun D2 hD2 => ?_⟩
    have hn : ns.length - 1 = min (ns.map V.int).length ((ns.drop 1).map V.int).length := by simp
    refine lc_it (walk_zip hn) (LcP H5 D2 fun _ => []) ⟨same_upd hD2, upd_same⟩ (fun i H6 _ pw => ⟨sqL (pw.same _ _ hp5), sqL (pw.same _ _ hc5)⟩) (fun i v H6 H7 hi pw hv => ?_) (fun H6 pw => ?_)
    · obtain ⟨t, u, v, rfl, ht, rfl, hu, hv⟩ := hv
      have hu : (ns.map V.int)[i]? = some u := hu
      have hv : ((ns.drop 1).map V.int)[i]? = some v := hv
      rw [List.getElem?_map] at hu hv
      rw [List.getElem?_drop, Nat.add_comm] at hv
      cases eu : ns[i]? with
      | none => rw [eu] at hu; cases hu
      | some x =>
      rw [eu] at hu
      cases hu
      cases ev : ns[i + 1]? with
      | none => rw [ev] at hv; cases hv
      | some y =>
      rw [ev] at hv
      cases hv
      have hxy : x < y := by
        obtain ⟨h1, e1⟩ := List.getElem?_eq_some_iff.mp eu
        obtain ⟨h2, e2⟩ := List.getElem?_eq_some_iff.mp ev
        rw [← e1, ← e2]
        exact List.pairwise_iff_getElem.mp hrise i (i + 1) h1 h2 (by omega)
      have sT : Same H6 (upd H6 t (.tup [.int x, .int y])) := same_upd ht
      have hT : (upd H6 t (.tup [.int x, .int y])) t = some (.tup [.int x, .int y]) := upd_same
      generalize upd H6 t (.tup [.int x, .int y]) = H7 at *
      refine ⟨t, _, rfl, sqT hT, rfl, ?_⟩
      walk_at "ru"
      have e2 : decide (y ≤ x) = false := by simp; omega
      rw [if_neg (by omega)]
      exact pw.skip sT rfl
    intro e1 n_e1
    generalize hG_ : upd _ e1 _ = H7
    obtain ⟨s7, he1⟩ := newF n_e1 hG_
    clear hG_
    refine eqD (d := dLI []) (e := dLI []) (dp_LI (ns := []) (sqL (s7 _ _ pw.at_))) (dp_LI (ns := []) (sqL he1)) (gd_dLI (k := 0) _) (gd_dLI (k := 0) _) (fun _ => q H7 (s1.trans (s14.trans (s5.trans (pw.same.trans s7))))) (fun z => absurd rfl z)
end
end Nk
/-! ### k30: what a deed promises -/
namespace Nk
open PySem L2
def moreW (k : Int) : Int := if k = 3 then 2 else if k = 4 then 5 else 1
def dueW (k : Int) (rus : List (List Int × Int)) : Prop := if k < 2 then mostW rus else weighW rus [([moreW k], 1)]
def GoodV (H : Hp) (k : Int) (v : V) : Prop := 1 < k → v = .non ∨ ∃ (p : Addr) (ns : List Int), v = .ref p ∧ H p = some (.lst (ns.map V.int)) ∧ ns.length ≤ 100 ∧ (∀ z ∈ ns, 0 ≤ z ∧ z ≤ 1000000000) ∧ ns.Pairwise (· < ·)
theorem rules_one {H : Hp} {p q r : Addr} {w m : Int} (hp : H p = some (.tup [.int w])) (hq : H q = some (.tup [.ref p, .int m])) (hr : H r = some (.tup [.ref q])) (w1 : 1 ≤ w) (w31 : w ≤ 31) (m1 : 1 ≤ m) (m20 : m ≤ 20) : RulesAt H r [([w], m)] :=
  ⟨⟨[.ref q], hr, rfl, fun i x hx => by
    cases i with
    | zero => cases hx; exact ⟨_, rfl, q, p, rfl, hq, ⟨hp, rnds1 w1, fun r hr => by rw [List.mem_singleton.mp hr]; exact w31, by simp⟩, m1, m20⟩
    | succ i => simp at hx⟩, by simp, by simp⟩
section
variable {P : Program} {w : World} {K : PySem.W.Frag} {mg : Str → Option Value} {base : Heap}
abbrev nm__law_one : List Str := ["kind", "some"]
abbrev pm__law_one : List Str := ["kind", "some"]
abbrev lv__law_one : Nat := 16
theorem sc__law_one : FnScope nm__law_one pm__law_one (defScope s__law_one) := ⟨rfl, rfl, rfl, by decide +kernel, rfl, by decide +kernel, by decide +kernel⟩
def sp__law_one (K : PySem.W.Frag) (mg : Str → Option Value) : Sp := fun vs H Q E => ∃ (k : Int) (a : Addr) (rus : List (List Int × Int)), vs = [.int k, .ref a] ∧ RulesAt H a rus ∧ 0 ≤ k ∧ k ≤ 4 ∧
  (dueW k rus → ∀ v H', Same H H' → GoodV H' k v → Q v H') ∧ (¬ dueW k rus → ∀ H', Same H H' → E (.ref (cls mg "BadRules")) none H')
theorem one_mono {vs : List V} {H : Hp} {Q Q' : VK} {E E' : XK} (h : sp__law_one K mg vs H Q E) (hq : ∀ v H1, Q v H1 → Q' v H1) (he : ∀ c d H1, E c d H1 → E' c d H1) : sp__law_one K mg vs H Q' E' := by
  obtain ⟨k, a, rus, h1, h2, h3, h4, h5, h6⟩ := h
  exact ⟨k, a, rus, h1, h2, h3, h4, fun d v H' s g => hq _ _ (h5 d v H' s g), fun n H' s => he _ _ _ (h6 n H' s)⟩
theorem f__law_one (T : Txt K mg) : Fk P w K mg base (L2.CX P w) lv__law_one "_law_one" pm__law_one (sp__law_one K mg) := by
  obtain ⟨f, fd, F, g, b⟩ := T.d__law_one.ex
  refine ⟨f, fd, g, F.kp, b, F.okX sc__law_one (fun vs H Q E h => ?_) (fun cdv A outer s H vs Q E hr h => ?_)⟩
  · obtain ⟨k, a, rus, rfl, _⟩ := h; rfl
  · obtain ⟨k, a, rus, rfl, hA, k0, k4, q1, q2⟩ := h
    refine ⟨_, (pss_cons (ps_if (pt_cmpR op_eq (pv 0) pe_int (nomark _)) (pss_one (ps_ret (pe_fn (f_lean T) (hr.mono (by decide)) (by rfl) (passX (takes_of rfl rfl rfl rfl)) (pa_cons (pv 1) pa_nil)))) pss_nil)
      (pss_cons (ps_if (pt_cmpR op_eq (pv 0) pe_int (nomark _)) (pss_one (ps_ret (pe_fn (f_most T) (hr.mono (by decide)) (by rfl) (passX (takes_of rfl rfl rfl rfl)) (pa_cons (pv 1) pa_nil)))) pss_nil)
      (pss_one (ps_ret (pe_fn (f_within T) (hr.mono (by decide)) (by rfl) (passX (takes_of rfl rfl rfl rfl)) (pa_cons (pv 1) (pa_cons (pe_tup (pa_cons (pe_tup (pa_cons (pe_tup (pa_cons (pe_ix ix_list (pe_lst (pa_cons pe_int (pa_cons pe_int (pa_cons pe_int pa_nil)))) (pe_op op_sub (pv 0) pe_int) (fun _ _ => rfl)) pa_nil)) (pa_cons pe_int pa_nil))) pa_nil)) pa_nil))))))), ?_⟩
    with_reducible refine seq_k fun K_ hK_ => ?_
    walk_at "ru"
    by_cases c0 : k = 0
    · rw [if_pos c0]
      subst c0
      refine ⟨a, rus, rfl, hA, fun hd p xs H' s np hp hv => q1 hd _ H' s (fun z => absurd z (by decide)), fun hn H' s => q2 hn H' s⟩
    · rw [if_neg c0]
      walk_at "ru"
      subst hK_
      first | with_reducible refine seq_k fun K_ hK_ => ?_ | skip
      walk_at "ru"
      by_cases c1 : k = 1
      · rw [if_pos c1]
        subst c1
        refine ⟨a, rus, rfl, hA, fun hd p l H' s np nl hp hl => q1 hd _ H' s (fun z => absurd z (by decide)), fun hn H' s => q2 hn H' s⟩
      · rw [if_neg c1]
        walk_at "ru"
        subst hK_
        first | with_reducible refine seq_k fun K_ hK_ => ?_ | skip
        walk_at "ru"
        obtain ⟨m, hm⟩ : ∃ m, moreW k = m := ⟨_, rfl⟩
        have hm1 : 1 ≤ m ∧ m ≤ 5 := by
          rw [← hm]
          unfold moreW
          split
          · omega
          · split <;> omega
        have hdue : dueW k rus ↔ weighW rus [([m], 1)] := by
          unfold dueW
          rw [if_neg (by omega), hm]
        intro l0 n_l0
        generalize hG_ : upd _ l0 _ = H1
        obtain ⟨s1, hl0⟩ := newF n_l0 hG_
        clear hG_
        have hix : [V.int 1, V.int 2, V.int 5][(k - 2).toNat]? = some (V.int m) := by
          rw [← hm]
          unfold moreW
          rcases (show k = 2 ∨ k = 3 ∨ k = 4 by omega) with rfl | rfl | rfl <;> rfl
        refine ixL (j := (k - 2).toNat) (sqL hl0) (by omega) hix ?_
        intro x1 n_x1
        generalize hG_ : upd _ x1 _ = H2
        obtain ⟨s2, hx1⟩ := newF n_x1 hG_
        clear hG_
        intro x2 n_x2
        generalize hG_ : upd _ x2 _ = H3
        obtain ⟨s3, hx2⟩ := newF n_x2 hG_
        clear hG_
        intro x3 n_x3
        generalize hG_ : upd _ x3 _ = H4
        obtain ⟨s4, hx3⟩ := newF n_x3 hG_
        clear hG_
        have s04 := s1.trans (s2.trans (s3.trans s4))
        have hO : RulesAt H4 x3 [([m], 1)] := rules_one (s4 _ _ (s3 _ _ hx1)) (s4 _ _ hx2) hx3 hm1.1 (by omega) (by omega) (by omega)
        refine ⟨a, x3, rus, [([m], 1)], rfl, hA.same s04, hO, fun hw => ⟨fun H' s _ => q1 (hdue.mpr hw) _ H' (s04.trans s) (fun _ => .inl rfl), fun p ns H' s np hp htold => q1 (hdue.mpr hw) _ H' (s04.trans s) (fun _ => .inr ⟨p, ns, rfl, hp, Nat.le_trans htold.l13 (by decide), fun z hz => ⟨(htold.bnd z hz).1, by have := (htold.bnd z hz).2; omega⟩, htold.rise⟩)⟩, fun hn H' s => q2 (fun z => hn (hdue.mp z)) H' (s04.trans s)⟩
end
end Nk
namespace Nk
open PySem L2
section
variable {P : Program} {w : World} {K : PySem.W.Frag} {mg : Str → Option Value} {base : Heap}
abbrev nm__law_told : List Str := ["kind", "some", "caught", "found", "e"]
abbrev pm__law_told : List Str := ["kind", "some"]
abbrev lv__law_told : Nat := 17
theorem sc__law_told : FnScope nm__law_told pm__law_told (defScope s__law_told) := ⟨rfl, rfl, rfl, by decide +kernel, rfl, by decide +kernel, by decide +kernel⟩
/-- whatever _law_one promises, told in a pair -/
def sp__law_told (K : PySem.W.Frag) (mg : Str → Option Value) : Sp := fun vs H Q _ => ∃ x y, vs = [x, y] ∧ sp__law_one K mg [x, y] H (fun v H1 => ∀ p H2, Same H1 H2 → H1 p = none → H2 p = some (.tup [.str "found", v]) → Q (.ref p) H2)
  (fun c d H1 => ∃ (n : Str) (j : Nat), c = .ref (cls mg n) ∧ exNames[j]? = some n ∧ (∀ dd, d = some dd → ∃ fs, H1 dd = some (.xd fs)) ∧ ∀ p H2, Same H1 H2 → H1 p = none → H2 p = some (.tup [.str "refused", .int j]) → Q (.ref p) H2)
theorem f__law_told (T : Txt K mg) : Fk P w K mg base CX0 lv__law_told "_law_told" pm__law_told (sp__law_told K mg) := by
  obtain ⟨f, fd, F, g, b⟩ := T.d__law_told.ex
  refine ⟨f, fd, g, F.kp, b, F.ok sc__law_told (fun vs H Q E h => ?_) (fun cdv A outer s H vs Q E hr h => ?_)⟩
  · obtain ⟨x, y, rfl, _⟩ := h; rfl
  · obtain ⟨x, y, rfl, h⟩ := h
    refine ⟨_, (pss_cons (ps_set (i := 2) sc__law_told.nd rfl (.inl rfl) pe_non)
      (pss_cons (ps_set (i := 3) sc__law_told.nd rfl (.inl rfl) pe_non)
      (pss_cons (ps_try_kept (i := 4) (j := 2) (tb := fun W => tAsg (tCallS (sp__law_one K mg) (WE W) (tCons (tVar 0) (tCons (tVar 1) tNil))) (gName 3)) (Wout := fun _ _ _ _ => False) rfl rfl rfl sc__law_told.nd rfl rfl ⟨rfl, by decide, Or.inl T.k_err.gP⟩ tk0
        (fun W pn xe tk _ => pss_one (ps_set (i := 3) sc__law_told.nd rfl (.inl rfl) (by exact (pe_fnS (f__law_one T) (hr.mono (by decide)) rfl (fun σ => passAt tk σ) (by exact (pa_cons (pv 0) (pa_cons (pv 1) pa_nil)))))))
        (fun a oe pn => pss_one (ps_set (i := 2) sc__law_told.nd rfl (.inl rfl) (pv 4))) (by show 4 < 5; decide))
      (pss_cons (ps_if (pt_cmpR op_isN (pv 2) pe_non (nomark _)) (pss_one (ps_ret (pe_tup (pa_cons pe_str (pa_cons (pv 3) pa_nil))))) pss_nil)
      (pss_one (ps_ret (pe_tup (pa_cons pe_str (pa_cons (pe_fn (f__law_word T) (hr.mono (by decide)) (by rfl) pass0 (pa_cons (pv 2) pa_nil)) pa_nil))))))))), ?_⟩
    with_reducible refine seq_k fun K_ hK_ => ?_
    walk_at "rt"
    walk_at "rt"
    subst hK_
    first | with_reducible refine seq_k fun K_ hK_ => ?_ | skip
    walk_at "rt"
    walk_at "rt"
    subst hK_
    first | with_reducible refine seq_k fun K_ hK_ => ?_ | skip
    walk_at "rt"
    refine one_mono h (fun v H1 q => ?_) (fun c d H1 q => ?_)
    · walk_at "rt"
      subst hK_
      first | with_reducible refine seq_k fun K_ hK_ => ?_ | skip
      walk_at "rt"
      walk_at "rt"
      subst hK_
      first | with_reducible refine seq_k fun K_ hK_ => ?_ | skip
      walk_at "rt"
      intro p hp
      exact q p _ (same_upd hp) hp upd_same
    · obtain ⟨n, j, rfl, hj, hd, q⟩ := q
      have hn : n ∈ exNames := List.mem_of_getElem? hj
      refine ⟨true, (ec_all T n hn).exm T.k_err, fun _ a ha => ?_, fun e => nomatch e⟩
      have s1 := same_upd (o := ExV (.ref (cls mg n)) d a) ha
      walk_at "rt"
      subst hK_
      first | with_reducible refine seq_k fun K_ hK_ => ?_ | skip
      walk_at "rt"
      walk_at "rt"
      subst hK_
      first | with_reducible refine seq_k fun K_ hK_ => ?_ | skip
      walk_at "rt"
      refine ⟨a, j, rfl, ⟨n, d, hj, upd_same, fun dd e => ?_⟩, fun H2 s2 => ?_⟩
      · obtain ⟨fs, h⟩ := hd dd e
        exact ⟨fs, s1 _ _ h⟩
      · intro p hp
        have s3 := s1.trans s2
        exact q p _ (s3.trans (same_upd hp)) (s3.free hp) upd_same
end
end Nk
/-! ### k30: whether rules can be weighed, by plain words -/
namespace Nk
open PySem L2
theorem turnN_one (rus : List (List Int × Int)) : turnN (rus ++ [([1], 1)]) = turnN rus := by
  have h1 : turnN rus ∣ turnN (rus ++ [([1], 1)]) := turnN_sub fun ru h => by simp [h]
  have h2 : turnN (rus ++ [([1], 1)]) ∣ turnN rus := turnN_least _ 1 (Nat.one_dvd _) fun ru hru => by
    rcases List.mem_append.mp hru with h | h
    · exact (turnN_dvd rus 1).2 ru h
    · rw [List.mem_singleton.mp h]
      exact Nat.one_dvd _
  exact Nat.dvd_antisymm h2 h1
/-- all go up in a number just where their turn does -/
theorem turn_all {rus : List (List Int × Int)} (hp : ∀ ru ∈ rus, 0 < ru.1.sum) {far : Int} (hf : 0 ≤ far) : (∀ ru ∈ rus, far % ru.1.sum = 0) ↔ ((turnN rus : Nat) : Int) ∣ far := by
  have e : far = ((far.toNat : Nat) : Int) := by omega
  constructor
  · intro h
    rw [e]
    refine Int.natCast_dvd_natCast.mpr (turnN_least rus 1 (Nat.one_dvd _) fun ru hru => ?_)
    have h1 := Int.dvd_of_emod_eq_zero (h ru hru)
    rw [e] at h1
    have h2 := hp ru hru
    rw [← Int.toNat_of_nonneg (show 0 ≤ ru.1.sum by omega)] at h1
    exact Int.natCast_dvd_natCast.mp h1
  · intro h ru hru
    refine Int.emod_eq_zero_of_dvd (Int.dvd_trans ?_ h)
    have h2 := hp ru hru
    have h3 := Int.natCast_dvd_natCast.mpr ((turnN_dvd rus 1).2 ru hru)
    rw [Int.toNat_of_nonneg (show 0 ≤ ru.1.sum by omega)] at h3
    exact h3
def sumsF (rus : List (List Int × Int)) : List Int := rus.map fun ru => ru.1.sum
def lcWd (H4 : Hp) (D : Addr) (al : List Int) (far : Int) (i : Nat) (H' : Hp) : Prop := Same H4 H' ∧ ∃ ks : List Int, H' D = some (.lst (ks.map V.int)) ∧ ks.length ≤ i ∧ (ks = [] ↔ ∀ (j : Nat) z, j < i → al[j]? = some z → far % z = 0)
def iv_weighed (a : Addr) (more : Int) (H0 : Hp) (N : Nat) (m : Nat) (σ : L2.St) (H' : Hp) : Prop :=
  ∃ (far : Int), σ = [some (.ref a), some (.int more), some (.int far), none, none, none] ∧ Same H0 H' ∧ 1 ≤ far ∧ far ≤ N ∧ m = N - far.toNat
section
variable {P : Program} {w : World} {K : PySem.W.Frag} {mg : Str → Option Value} {base : Heap}
abbrev nm__law_sums : List Str := ["rules", "rounds", "many"]
abbrev pm__law_sums : List Str := ["rules"]
abbrev lv__law_sums : Nat := 1
theorem sc__law_sums : FnScope nm__law_sums pm__law_sums (defScope s__law_sums) := ⟨rfl, rfl, rfl, by decide +kernel, rfl, by decide +kernel, by decide +kernel⟩
def sp__law_sums (K : PySem.W.Frag) : Sp := fun vs H Q _ => ∃ (a : Addr) (rus : List (List Int × Int)), vs = [.ref a] ∧ RuX H a rus ∧ rus.length ≤ 100 ∧ ∀ p H', Same H H' → H p = none → H' p = some (.lst ((sumsF rus).map V.int)) → Q (.ref p) H'
theorem f__law_sums (T : Txt K mg) : Fk P w K mg base CX0 lv__law_sums "_law_sums" pm__law_sums (sp__law_sums K) := by
  obtain ⟨f, fd, F, g, b⟩ := T.d__law_sums.ex
  refine ⟨f, fd, g, F.kp, b, F.ok sc__law_sums (fun vs H Q E h => ?_) (fun cdv A outer s H vs Q E hr h => ?_)⟩
  · obtain ⟨a, rus, rfl, _⟩ := h; rfl
  · obtain ⟨a, rus, rfl, ⟨xs, ha, hv⟩, hl, q⟩ := h
    refine ⟨_, (pss_one (ps_ret (pe_lc (own := [("rounds", 1), ("many", 2)]) (g := gTup K 2 (gCons (gName 1) (gCons (gName 2) (gNil)))) (tt := tYes) (by rfl) sc__law_sums.nd (pi_tup (pv 0)) (blkOk_by (own := [("rounds", 1), ("many", 2)]) (N := nm__law_sums) (sc := defScope s__law_sums) (by decide +kernel)) (fun _ _ _ _ _ => (pg_tupK K rfl rfl (pgs_cons (pg_name (i := 1) sc__law_sums.nd rfl (Or.inl rfl)) (pgs_cons (pg_name (i := 2) sc__law_sums.nd rfl (Or.inl rfl)) pgs_nil)))) (fun _ _ _ _ _ => pts_nil) (fun _ _ _ _ _ => (pe_callB (cr_sumTK K rfl rfl) (by rfl) T.b_sum (by decide +kernel) (pa_cons (pv 1) pa_nil)))))), ?_⟩
    walk_at "ru"
    refine ⟨⟨_, sqT ha⟩, fun D hD => ?_⟩
    refine lcT hD (sqT ha) (fun i => (sumsF (rus.take i)).map V.int) rfl (fun i x HE hx pw => ?_) (fun HE sE hDE => ?_)
    · obtain ⟨ru, hru, bb, r, rfl, hb, hro, m0, m1⟩ := hv.2 i x hx
      have hil := lt_of_get hru
      refine ⟨bb, _, rfl, sqT (pw.same _ _ hb), rfl, ?_⟩
      walk_at "ru"
      refine ⟨r, ru.1, rfl, sqT (pw.same _ _ hro.at_), ?_⟩
      exact pw.push hD (by unfold sumsF; rw [List.length_map, List.length_map, List.length_take]; omega) (Same.refl _) (by unfold sumsF; rw [map_take_next _ hru, List.map_append]; rfl)
    · rw [hv.1, List.take_length] at hDE
      exact q D HE sE hD hDE
abbrev nm__law_weighed : List Str := ["rules", "more", "far", "rounds", "many", "one"]
abbrev pm__law_weighed : List Str := ["rules", "more"]
abbrev lv__law_weighed : Nat := 2
theorem sc__law_weighed : FnScope nm__law_weighed pm__law_weighed (defScope s__law_weighed) := ⟨rfl, rfl, rfl, by decide +kernel, rfl, by decide +kernel, by decide +kernel⟩
def sp__law_weighed (K : PySem.W.Frag) : Sp := fun vs H Q _ => ∃ (a : Addr) (rus : List (List Int × Int)) (more : Int), vs = [.ref a, .int more] ∧ RuX H a rus ∧ rus ≠ [] ∧ rus.length ≤ 5 ∧ 1 ≤ more ∧ more ≤ 6 ∧
  ∀ H' b, Same H H' → (b = true ↔ smallR rus ∧ turnN (rus ++ [([more], 1)]) ≤ 12) → Q (.bl b) H'
theorem f__law_weighed (T : Txt K mg) : Fk P w K mg base CX0 lv__law_weighed "_law_weighed" pm__law_weighed (sp__law_weighed K) := by
  obtain ⟨f, fd, F, g, b⟩ := T.d__law_weighed.ex
  refine ⟨f, fd, g, F.kp, b, F.ok sc__law_weighed (fun vs H Q E h => ?_) (fun cdv A outer s H vs Q E hr h => ?_)⟩
  · obtain ⟨a, rus, more, rfl, _⟩ := h; rfl
  · obtain ⟨a, rus, more, rfl, hR, hne, hl5, m1, m6, q⟩ := h
    obtain ⟨xs, ha, hv⟩ := id hR
    have hrn := hR.rnds
    refine ⟨_, (pss_cons (ps_if (PW.pt (pw_or (pt_cmpR op_gt (pe_callB call_len_seq (by rfl) T.b_len PySem.boot_len (pa_cons (pv 0) pa_nil)) pe_int (nomark _)) (pw_or (pt_cmpR op_gt (pe_callB (cr_max rfl) (by rfl) T.b_max (by decide +kernel) (pa_cons (pe_fn (f__law_sums T) (hr.mono (by decide)) (by rfl) pass0 (pa_cons (pv 0) pa_nil)) pa_nil)) pe_int (nomark _)) (pw_or1 (pt_cmpR op_gt (pe_callB (cr_max rfl) (by rfl) T.b_max (by decide +kernel) (pa_cons (pe_lc (own := [("rounds", 3), ("many", 4)]) (g := gTup K 2 (gCons (gName 3) (gCons (gName 4) (gNil)))) (tt := tYes) (by rfl) sc__law_weighed.nd (pi_tup (pv 0)) (blkOk_by (own := [("rounds", 3), ("many", 4)]) (N := nm__law_weighed) (sc := defScope s__law_weighed) (by decide +kernel)) (fun _ _ _ _ _ => (pg_tupK K rfl rfl (pgs_cons (pg_name (i := 3) sc__law_weighed.nd rfl (Or.inl rfl)) (pgs_cons (pg_name (i := 4) sc__law_weighed.nd rfl (Or.inl rfl)) pgs_nil)))) (fun _ _ _ _ _ => pts_nil) (fun _ _ _ _ _ => (pv 4))) pa_nil)) pe_int (nomark _)))))) (pss_one (ps_ret pe_bl)) pss_nil)
      (pss_cons (ps_set (i := 2) sc__law_weighed.nd rfl (.inr rfl) pe_int)
      (pss_cons (ps_while PassesOwn.never (pt_cmpR (op_neD hr.units) (pe_lc (own := [("one", 5)]) (g := gName 5) (by rfl) sc__law_weighed.nd (pi_list (pe_op op_cat (pe_fn (f__law_sums T) (hr.mono (by decide)) (by rfl) pass0 (pa_cons (pv 0) pa_nil)) (pe_lst (pa_cons (pv 1) pa_nil)))) (blkOk_by (own := [("one", 5)]) (N := nm__law_weighed) (sc := defScope s__law_weighed) (by decide +kernel)) (fun _ _ _ _ _ => (pg_name (i := 5) sc__law_weighed.nd rfl (Or.inl rfl))) (fun _ _ _ _ _ => (pts_one (pt_cmpR op_gt (pe_op op_mod (pv 2) (pv 5)) pe_int (nomark _)))) (fun _ _ _ _ _ => pe_int)) (pe_lst pa_nil) (nomark _)) (pss_one (ps_set (i := 2) sc__law_weighed.nd rfl (.inr rfl) (pe_op op_add (pv 2) pe_int))))
      (pss_one (ps_ret (pe_cmpR op_le (pv 2) pe_int (nomark _))))))), ?_⟩
    with_reducible refine seq_k fun K_ hK_ => ?_
    walk_at "ru"
    have hs0 : sumsF rus ≠ [] := fun z => hne (List.map_eq_nil_iff.mp z)
    have psum : ∀ ru ∈ rus, 0 < ru.1.sum := fun ru hru => (hrn ru hru).1.sum
    refine ⟨_, .inr (sqT ha), ?_⟩
    have hfalse : ∀ H', Same H H' → ¬ smallR rus → Q (.bl false) H' := fun H' s h => q H' false s ⟨fun z => (by cases z), fun z => absurd z.1 h⟩
    by_cases c1 : 3 < rus.length
    · rw [if_pos (by rw [hv.1]; omega)]
      exact hfalse H (Same.refl _) fun z => by have := z.1; omega
    rw [if_neg (by rw [hv.1]; omega)]
    refine ⟨a, rus, rfl, hR, by omega, fun p1 H1 s1 np1 hp1 => ?_⟩
    refine ⟨p1, sumsF rus, rfl, sqL hp1, List.length_pos_iff.mpr hs0, fun m hm hmx => ?_⟩
    refine ⟨m, rfl, ?_⟩
    by_cases c2 : 6 < m
    · rw [if_pos c2]
      refine hfalse H1 s1 fun z => ?_
      obtain ⟨ru, hru, rfl⟩ := List.mem_map.mp hm
      have := (z.2 ru hru).2
      omega
    rw [if_neg c2]
    refine ⟨⟨_, sqT (s1 _ _ ha)⟩, fun D hD => ?_⟩
    refine lcT hD (sqT (s1 _ _ ha)) (fun i => (((rus.take i).map fun ru => ru.2).map V.int)) rfl (fun i x HE hx pw => ?_) (fun HE sE hDE => ?_)
    · obtain ⟨ru, hru, bb, r, rfl, hb, hro, m0, m1⟩ := hv.2 i x hx
      have hil := lt_of_get hru
      refine ⟨bb, _, rfl, sqT (pw.same _ _ (s1 _ _ hb)), rfl, ?_⟩
      walk_at "ru"
      exact pw.push hD (by rw [List.length_map, List.length_map, List.length_take]; omega) (Same.refl _) (by rw [map_take_next _ hru, List.map_append]; rfl)
    rw [hv.1, List.take_length] at hDE
    refine ⟨D, rus.map fun ru => ru.2, rfl, sqL hDE, by rw [List.length_map]; exact List.length_pos_iff.mpr hne, fun m4 hm4 hmx4 => ?_⟩
    refine ⟨m4, rfl, ?_⟩
    have s0E := s1.trans sE
    by_cases c3 : 4 < m4
    · rw [if_pos c3]
      refine hfalse HE s0E fun z => ?_
      obtain ⟨ru, hru, rfl⟩ := List.mem_map.mp hm4
      have := (z.2 ru hru).1
      omega
    rw [if_neg c3]
    have hsm : smallR rus := ⟨by omega, fun ru hru => ⟨by have := hmx4 ru.2 (List.mem_map.mpr ⟨ru, hru, rfl⟩); omega, by have := hmx ru.1.sum (List.mem_map.mpr ⟨ru, hru, rfl⟩); omega⟩⟩
    obtain ⟨all, hall⟩ : ∃ all, all = rus ++ [([more], 1)] := ⟨_, rfl⟩
    rw [← hall] at q
    have pall : ∀ ru ∈ all, 0 < ru.1.sum := fun ru hru => by
      rw [hall] at hru
      rcases List.mem_append.mp hru with h | h
      · exact psum ru h
      · rw [List.mem_singleton.mp h]
        simp
        omega
    obtain ⟨N, hN⟩ : ∃ N, turnN all = N := ⟨_, rfl⟩
    have hNp : 0 < N := by
      rw [← hN]
      exact turnN_pos pall 1 (by decide)
    rw [hN] at q
    walk_at "ru"
    subst hK_
    first | with_reducible refine seq_k fun K_ hK_ => ?_ | skip
    walk_at "ru"
    walk_at "ru"
    subst hK_
    first | with_reducible refine seq_k fun K_ hK_ => ?_ | skip
    walk_at "ru"
    refine ⟨iv_weighed a more H N, ⟨_, 1, rfl, s0E, by omega, by omega, rfl⟩, ?_⟩
    rintro m9 σ HA ⟨far, rfl, sA, f1, fN, rfl⟩
    walk_at "ru"
    refine ⟨a, rus, rfl, ⟨xs, sA _ _ ha, hv.same sA⟩, by omega, fun p2 H2 s2 np2 hp2 => ?_⟩
    intro p3 n_p3
    generalize hG_ : upd _ p3 _ = H3
    obtain ⟨s3, hp3⟩ := newF n_p3 hG_
    clear hG_
    have hsl : (sumsF rus).length = rus.length := by unfold sumsF; rw [List.length_map]
    refine ⟨p2, p3, _, _, rfl, rfl, s3 _ _ hp2, hp3, Nat.le_of_lt (szl (by rw [List.length_map, hsl]; simp; omega)), fun p4 hp4 => ?_⟩
    generalize hG_ : upd H3 p4 _ = H4
    obtain ⟨s4, h4⟩ := newF hp4 hG_
    clear hG_
    obtain ⟨al, hal⟩ : ∃ al, al = sumsF all := ⟨_, rfl⟩
    have hal2 : al = sumsF rus ++ [more] := by
      rw [hal, hall]
      unfold sumsF
      rw [List.map_append]
      simp
    have h4' : H4 p4 = some (.lst (al.map V.int)) := by rw [hal2, List.map_append]; exact h4
    have hall6 : al.length ≤ 6 := by rw [hal2, List.length_append, hsl]; simp; omega
    have halp : ∀ z ∈ al, 0 < z := fun z hz => by
      rw [hal] at hz
      obtain ⟨ru, hru, rfl⟩ := List.mem_map.mp hz
      exact pall ru hru
    refine ⟨p4, rfl, ⟨_, sqL h4'⟩, fun D2 hD2 => ?_⟩
    refine lc_it (walk_list (K := K) (a := p4) (xs := al.map V.int)) (lcWd H4 D2 al far) ⟨same_upd hD2, [], upd_same, Nat.le_refl _, ⟨fun _ j z h => absurd h (Nat.not_lt_zero _), fun _ => rfl⟩⟩ (fun i H5 _ p => sqL (p.1 _ _ h4')) (fun i x H5 H6 hi p hy => ?_) (fun H5 p => ?_)
    · obtain ⟨s5, ks, hD5, hkl, hks⟩ := p
      obtain ⟨rfl, hx⟩ := hy
      rw [List.getElem?_map] at hx
      cases ex : al[i]? with
      | none => rw [ex] at hx; cases hx
      | some z =>
        rw [ex] at hx
        cases hx
        have hz := halp z (List.mem_of_getElem? ex)
        have hil := lt_of_get ex
        walk_at "ru"
        have hf0 := Int.emod_nonneg far (show z ≠ 0 by omega)
        refine ⟨hz, ?_⟩
        by_cases c : 0 < far % z
        · rw [if_pos c]
          refine ⟨_, hD5, szl (by rw [List.length_map]; omega), Same.app s5 hD2, ks ++ [1], by rw [upd_same, List.map_append]; rfl, by rw [List.length_append]; simp; omega, ⟨fun h => by simp at h, fun h => ?_⟩⟩
          have := h i z (Nat.lt_succ_self i) ex
          omega
        · rw [if_neg c]
          refine ⟨s5, ks, hD5, by omega, hks.trans ⟨fun h j z2 hj h2 => ?_, fun h j z2 hj h2 => h j z2 (by omega) h2⟩⟩
          rcases Nat.lt_or_ge j i with q1 | q1
          · exact h j z2 q1 h2
          · have : j = i := by omega
            subst this
            rw [ex] at h2
            cases h2
            omega
    obtain ⟨s5, ks, hD5, hkl, hks⟩ := p
    rw [List.length_map] at hkl hks
    intro e1 n_e1
    generalize hG_ : upd _ e1 _ = H6
    obtain ⟨s6, he1⟩ := newF n_e1 hG_
    clear hG_
    have s0F := sA.trans (s2.trans (s3.trans (s4.trans (s5.trans s6))))
    have hdv : ks = [] ↔ ((N : Nat) : Int) ∣ far := by
      rw [hks, ← hN, ← turn_all pall (by omega)]
      constructor
      · intro h ru hru
        obtain ⟨j, hj⟩ := List.mem_iff_getElem?.mp hru
        refine h j ru.1.sum ?_ ?_
        · have := lt_of_get hj
          rw [hal]; unfold sumsF; rw [List.length_map]; exact this
        · rw [hal]; unfold sumsF; rw [List.getElem?_map, hj]; rfl
      · intro h j z _ hz
        rw [hal] at hz
        obtain ⟨ru, hru, rfl⟩ := List.mem_map.mp (List.mem_of_getElem? hz)
        exact h ru hru
    refine neD (k := 1) (m := 1) (d := dLI ks) (e := dLI []) (dp_LI (sqL (s6 _ _ hD5))) (dp_LI (ns := []) (sqL he1)) (gd_dLI (k := 0) _) (gd_dLI (k := 0) _) (fun he => ?_) (fun he => ?_)
    · refine ⟨_, rfl, ?_⟩
      rw [if_neg (by simp)]
      have hd := hdv.mp (dLI_inj.mp he)
      have hfN : far = (N : Int) := by
        have := Int.le_of_dvd (by omega) hd
        omega
      subst hK_
      walk_at "ru"
      refine q H6 _ s0F ?_
      rw [decide_eq_true_iff]
      exact ⟨fun h => ⟨hsm, by omega⟩, fun h => by have := h.2; omega⟩
    · refine ⟨_, rfl, ?_⟩
      rw [if_pos rfl]
      refine ⟨_, fun σ' H'' h => h, ?_⟩
      have hne2 : far ≠ (N : Int) := fun z => he (by rw [hdv.mpr (by rw [z]; exact Int.dvd_refl _)])
      exact ⟨N - (far + 1).toNat, by omega, far + 1, rfl, s0F, by omega, by omega, rfl⟩
end
end Nk
/-! ### k30 -/
namespace Nk
open PySem L2
def iv30a (K : PySem.W.Frag) (a t : Addr) (ns : List Int) (i : Nat) (σ : L2.St) (H' : Hp) : Prop :=
  ∃ (c : Nat) (y2 y3 y4 y5 y6 y7 y8 y9 y10 : Option V), σ = [some (.ref a), some (.ref t), y2, y3, y4, y5, y6, y7, y8, y9, y10, none] ∧ Tn K H' a t ns c ∧ c ≤ 1000 * i
def iv30b (K : PySem.W.Frag) (a t p ls : Addr) (ns : List Int) (c0 : Nat) (k : Int) (S : List Int) (y7 y8 y9 y10 : Option V) (i : Nat) (σ : L2.St) (H' : Hp) : Prop :=
  ∃ (xs : List V) (rus : List (List Int × Int)) (c1 : Nat) (y5 y6 : Option V), σ = [some (.ref a), some (.ref t), some (.int k), some (.ref p), some (.ref ls), y5, y6, y7, y8, y9, y10, none] ∧ xs.length = i ∧ H' p = some (.lst xs) ∧ RuleVs H' xs rus ∧ c1 ≤ c0 + 20 * i ∧ Tn K H' a t ns c1 ∧ H' ls = some (.lst (S.map V.int))
def iv30c (K : PySem.W.Frag) (a t p ls r0 : Addr) (k : Int) (y5 y6 : Option V) (G1 : Hp) (i : Nat) (σ : L2.St) (H' : Hp) : Prop :=
  ∃ (y8 y9 y10 : Option V), σ = [some (.ref a), some (.ref t), some (.int k), some (.ref p), some (.ref ls), y5, y6, some (.ref r0), y8, y9, y10, none] ∧ Same G1 H'
def ToldK (H : Hp) (p : Addr) (k : Int) (rus : List (List Int × Int)) : Prop := (dueW k rus ∧ ∃ v, H p = some (.tup [.str "found", v]) ∧ GoodV H k v) ∨ (¬ dueW k rus ∧ H p = some (.tup [.str "refused", .int (3 : Nat)]))
theorem GoodV.same {H H' : Hp} {k : Int} {v : V} (h : GoodV H k v) (s : Same H H') : GoodV H' k v := fun c => by
  rcases h c with e | ⟨p, ns, e, hp, r⟩
  · exact .inl e
  · exact .inr ⟨p, ns, e, s _ _ hp, r⟩
theorem cov_last {ru : List Int × Int} {ot : List (List Int × Int)} (h : ru.2 = 1) (hne : ot ≠ []) (ok : ∀ o ∈ ot, 1 ≤ o.2) : Cov ru ot := fun ns hns ⟨x, hx, hn⟩ => by
  obtain ⟨o, ho⟩ := List.exists_mem_of_ne_nil ot hne
  obtain ⟨y, _, hy⟩ := keep_end hns (fun z => by have := keptBy_sub hx; rw [z] at this; simp at this)
  have h1 := hy ru (by omega)
  have hl : (keptBy ru ns).length ≤ 1 := by
    unfold keptBy
    rw [List.length_take, h]
    exact Nat.min_le_left _ _
  have e : x = y := by
    match hk : keptBy ru ns, hl with
    | [], _ => rw [hk] at hx; cases hx
    | [a], _ =>
      rw [hk] at hx h1
      rw [List.mem_singleton.mp hx, List.mem_singleton.mp h1]
    | a :: b :: l, hl => simp at hl
  subst e
  exact hn o ho (hy o (ok o ho))
theorem due_iff {k : Int} {rus : List (List Int × Int)} : smallR rus ∧ turnN (rus ++ [([moreW k], 1)]) ≤ 12 ↔ dueW k rus := by
  unfold dueW
  by_cases c : k < 2
  · rw [if_pos c]
    have : moreW k = 1 := by
      unfold moreW
      rw [if_neg (by omega), if_neg (by omega)]
    rw [this, turnN_one]
    exact Iff.rfl
  · rw [if_neg c]
    have hm : moreW k ≤ 6 := by
      unfold moreW
      split
      · omega
      · split <;> omega
    unfold weighW
    constructor
    · rintro ⟨h1, h2⟩
      exact ⟨h1, ⟨by simp, fun ru hru => by rw [List.mem_singleton.mp hru]; exact ⟨by show (1 : Int) ≤ 4; decide, by simpa using hm⟩⟩, h2⟩
    · rintro ⟨h1, _, h2⟩
      exact ⟨h1, h2⟩
section
variable {P : Program} {w : World} {K : PySem.W.Frag} {mg : Str → Option Value} {base : Heap}
abbrev nm_law : List Str := ["script", "town", "k", "some", "sums", "j", "rounds", "rules", "kind", "told", "due", "five"]
abbrev pm_law : List Str := ["script"]
abbrev lv_law : Nat := 18
theorem sc_law : FnScope nm_law pm_law (defScope s_law) := ⟨rfl, rfl, rfl, by decide +kernel, rfl, by decide +kernel, by decide +kernel⟩
theorem ok_law {f : Addr} {fd : FuncData} (F : Fun K "law" "law" s_law f fd) (T : Txt K mg) : FnOk P w K mg base CX0 lv_law f fd ["script"] (spLaw K) := by
  refine F.ok sc_law (fun vs H Q E h => ?_) (fun cdv A outer s H vs Q E hr h => ?_)
  · obtain ⟨a, ns, rfl, _⟩ := h; rfl
  · obtain ⟨a, ns, rfl, hS, hl, q⟩ := h
    have hu := hu_of hr
    refine ⟨_, (pss_cons (ps_set (i := 1) sc_law.nd rfl (.inl rfl) (pe_fn (f__law_town T) (hr.mono (by decide)) (by rfl) pass0 (pa_cons (pv 0) pa_nil)))
      (pss_cons (ps_for PassesOwn.never rfl (pi_range1 (by rfl) T.b_range (pa_cons pe_int pa_nil)) (pg_name (i := 2) sc_law.nd rfl (Or.inl rfl)) (pss_cons (ps_set (i := 3) sc_law.nd rfl (.inl rfl) (pe_lst pa_nil))
      (pss_cons (ps_set (i := 4) sc_law.nd rfl (.inl rfl) (pe_fn (f__law_pick T) (hr.mono (by decide)) (by rfl) pass0 (pa_cons (pv 0) (pa_cons (pv 1) (pa_cons (pe_lst (pa_cons (pe_lst (pa_cons pe_int (pa_cons pe_int (pa_cons pe_int pa_nil)))) (pa_cons (pe_lst (pa_cons pe_int (pa_cons pe_int (pa_cons pe_int pa_nil)))) (pa_cons (pe_lst (pa_cons pe_int (pa_cons pe_int pa_nil))) (pa_cons (pe_lst (pa_cons pe_int (pa_cons pe_int pa_nil))) (pa_cons (pe_lst (pa_cons pe_int (pa_cons pe_int (pa_cons pe_int (pa_cons pe_int (pa_cons pe_int (pa_cons pe_int pa_nil))))))) (pa_cons (pe_lst (pa_cons pe_int (pa_cons pe_int pa_nil))) (pa_cons (pe_lst (pa_cons pe_int (pa_cons pe_int pa_nil))) pa_nil)))))))) pa_nil)))))
      (pss_cons (ps_for PassesOwn.never rfl (pi_range1 (by rfl) T.b_range (pa_cons (pe_op op_add pe_int (pe_fn (f__law_draw T) (hr.mono (by decide)) (by rfl) pass0 (pa_cons (pv 0) (pa_cons (pv 1) (pa_cons (pe_fn (f__law_pick T) (hr.mono (by decide)) (by rfl) pass0 (pa_cons (pv 0) (pa_cons (pv 1) (pa_cons (pe_lst (pa_cons pe_int (pa_cons pe_int (pa_cons pe_int pa_nil)))) pa_nil)))) pa_nil))))) pa_nil)) (pg_name (i := 5) sc_law.nd rfl (Or.inl rfl)) (pss_cons (ps_set (i := 6) sc_law.nd rfl (.inl rfl) (pe_fn (f__law_parted T) (hr.mono (by decide)) (by rfl) pass0 (pa_cons (pv 0) (pa_cons (pv 1) (pa_cons (pe_fn (f__law_pick T) (hr.mono (by decide)) (by rfl) pass0 (pa_cons (pv 0) (pa_cons (pv 1) (pa_cons (pv 4) pa_nil)))) pa_nil)))))
      (pss_one (ps_expr (pe_bm PySem.F.plainAttrs_list PySem.F.slot_list_append PySem.F.type_list_append mt_append (pv 3) (pa_cons (pe_tup (pa_cons (pv 6) (pa_cons (pe_op op_add pe_int (pe_fn (f__law_draw T) (hr.mono (by decide)) (by rfl) pass0 (pa_cons (pv 0) (pa_cons (pv 1) (pa_cons (pe_fn (f__law_pick T) (hr.mono (by decide)) (by rfl) pass0 (pa_cons (pv 0) (pa_cons (pv 1) (pa_cons (pe_lst (pa_cons pe_int (pa_cons pe_int (pa_cons pe_int pa_nil)))) pa_nil)))) pa_nil))))) pa_nil))) pa_nil))))))
      (pss_cons (ps_set (i := 7) sc_law.nd rfl (.inl rfl) (pe_callTy call_tuple_of (by rfl) T.b_tuple (by decide +kernel) (pa_cons (pv 3) pa_nil)))
      (pss_one (ps_for PassesOwn.never rfl (pi_range1 (by rfl) T.b_range (pa_cons pe_int pa_nil)) (pg_name (i := 8) sc_law.nd rfl (Or.inl rfl)) (pss_cons (ps_set (i := 9) sc_law.nd rfl (.inl rfl) (pe_fn (f__law_told T) (hr.mono (by decide)) (by rfl) pass0 (pa_cons (pv 8) (pa_cons (pv 7) pa_nil))))
      (pss_cons (ps_set (i := 10) sc_law.nd rfl (.inl rfl) (pe_fn (f__law_weighed T) (hr.mono (by decide)) (by rfl) pass0 (pa_cons (pv 7) (pa_cons (pe_ix ix_list (pe_lst (pa_cons pe_int (pa_cons pe_int (pa_cons pe_int (pa_cons pe_int (pa_cons pe_int pa_nil)))))) (pv 8) (fun _ _ => rfl)) pa_nil))))
      (pss_cons (ps_if (PW.pt (pw_or (pt_cmpR op_ne (pv 10) (pe_cmpR op_eq (pe_ix ix_tup (pv 9) pe_int (fun _ _ => rfl)) pe_str (nomark _)) (nomark _)) (pw_or1 (PW.pt (pw_and (pt_not (pt_val (pv 10))) (pw_and1 (pt_cmpR (op_neD hr.units) (pv 9) (pe_fn (f__law_refused T) (hr.mono (by decide)) (by rfl) pass0 (pa_cons pe_str pa_nil)) (nomark _)))))))) (pss_one (ps_ret pe_bl)) pss_nil)
      (pss_one (ps_if (PW.pt (pw_and (pt_cmpR op_gt (pv 8) pe_int (nomark _)) (pw_and (pt_val (pv 10)) (pw_and (pt_cmpR op_notN (pe_ix ix_tup (pv 9) pe_int (fun _ _ => rfl)) pe_non (nomark _)) (pw_and1 (pt_not (pt_val (pe_fn (f__law_is_nights T) (hr.mono (by decide)) (by rfl) pass0 (pa_cons (pe_ix ix_tup (pv 9) pe_int (fun _ _ => rfl)) pa_nil))))))))) (pss_one (ps_ret pe_bl)) pss_nil))))))))))))
      (pss_cons (ps_set (i := 11) sc_law.nd rfl (.inl rfl) (pe_tup (pa_cons (pe_tup (pa_cons (pe_tup (pa_cons (pe_tup (pa_cons pe_int pa_nil)) (pa_cons pe_int pa_nil))) pa_nil)) (pa_cons (pe_tup (pa_cons (pe_tup (pa_cons (pe_tup (pa_cons pe_int pa_nil)) (pa_cons pe_int pa_nil))) pa_nil)) pa_nil))))
      (pss_one (ps_ret (pe_and (pe_cmpR op_isN (pe_fn (f_within T) (hr.mono (by decide)) (by rfl) passL (pa_cons (pe_ix ix_tup (pv 11) pe_int (fun _ _ => rfl)) (pa_cons (pe_tup (pa_cons (pe_tup (pa_cons (pe_tup (pa_cons pe_int pa_nil)) (pa_cons pe_int pa_nil))) (pa_cons (pe_tup (pa_cons (pe_tup (pa_cons pe_int pa_nil)) (pa_cons pe_int pa_nil))) pa_nil))) pa_nil))) pe_non (nomark _)) (pe_one (pe_cmpR (op_eqD hr.units) (pe_fn (f__law_told T) (hr.mono (by decide)) (by rfl) pass0 (pa_cons pe_int (pa_cons (pe_op op_catT3 (pe_ix ix_tup (pv 11) pe_int (fun _ _ => rfl)) (pe_ix ix_tup (pv 11) pe_int (fun _ _ => rfl))) pa_nil))) (pe_fn (f__law_refused T) (hr.mono (by decide)) (by rfl) pass0 (pa_cons pe_str pa_nil)) (nomark _))))))))), ?_⟩
    with_reducible refine seq_k fun K_ hK_ => ?_
    walk_at "ru"
    refine ⟨a, ns, rfl, hS, hl, fun H1 t s1 T1 ht => ?_⟩
    walk_at "ru"
    subst hK_
    first | with_reducible refine seq_k fun K_ hK_ => ?_ | skip
    walk_at "ru"
    refine ⟨by decide, by decide, ?_⟩
    refine for_it (walk_range (lo := 0) (n := 3)) (iv30a K a t ns) ⟨0, none, none, none, none, none, none, none, none, none, rfl, T1, by omega⟩ (fun i σ H5 _ iv => trivial) (fun i v σ HA HB hi iv hv => ?_) (fun σ HA iv => ?_)
    · obtain ⟨c, y2, y3, y4, y5, y6, y7, y8, y9, y10, rfl, TA, hc⟩ := iv
      obtain ⟨rfl, rfl⟩ := hv
      walk_at "ru"
      with_reducible refine seq_k fun K_ hK_ => ?_
      walk_at "ru"
      intro p n_p
      generalize hG_ : upd _ p _ = H0
      obtain ⟨s0, hp0⟩ := newF n_p hG_
      clear hG_
      have hpt : p ≠ t := TA.some_ n_p
      walk_at "ru"
      subst hK_
      first | with_reducible refine seq_k fun K_ hK_ => ?_ | skip
      walk_at "ru"
      intro l1 n_l1
      generalize hG_ : upd _ l1 _ = H2
      obtain ⟨s2, hl1⟩ := newF n_l1 hG_
      clear hG_
      intro l2 n_l2
      generalize hG_ : upd _ l2 _ = H3
      obtain ⟨s3, hl2⟩ := newF n_l2 hG_
      clear hG_
      intro l3 n_l3
      generalize hG_ : upd _ l3 _ = H4
      obtain ⟨s4, hl3⟩ := newF n_l3 hG_
      clear hG_
      intro l4 n_l4
      generalize hG_ : upd _ l4 _ = H5
      obtain ⟨s5, hl4⟩ := newF n_l4 hG_
      clear hG_
      intro l5 n_l5
      generalize hG_ : upd _ l5 _ = H6
      obtain ⟨s6, hl5⟩ := newF n_l5 hG_
      clear hG_
      intro l6 n_l6
      generalize hG_ : upd _ l6 _ = H7
      obtain ⟨s7, hl6⟩ := newF n_l6 hG_
      clear hG_
      intro l7 n_l7
      generalize hG_ : upd _ l7 _ = H8
      obtain ⟨s8, hl7⟩ := newF n_l7 hG_
      clear hG_
      intro lls n_lls
      generalize hG_ : upd _ lls _ = H9
      obtain ⟨s9, hlls⟩ := newF n_lls hG_
      clear hG_
      have s28 : Same H2 H9 := s3.trans (s4.trans (s5.trans (s6.trans (s7.trans (s8.trans s9)))))
      have s08 := s0.trans (s2.trans s28)
      have T9 := TA.same s08
      have nf := fun {b : Addr} {H : Hp} (h : H b = none) (s : Same HB H) => TA.some_ (s.free h)
      refine ⟨a, t, lls, ns, c, _, rfl, T9, by omega, hlls, nf n_lls (s0.trans (s2.trans (s3.trans (s4.trans (s5.trans (s6.trans (s7.trans s8))))))), by simp, by simp, fun v H10 hv T10 b10 => ?_⟩
      obtain ⟨ls, S, rfl, hls9, hlst, hS0, hS1, hSb⟩ : ∃ (ls : Addr) (S : List Int), v = .ref ls ∧ H9 ls = some (.lst (S.map V.int)) ∧ ls ≠ t ∧ 0 < S.length ∧ S.length ≤ 100 ∧ ∀ s ∈ S, 1 ≤ s ∧ s ≤ 7 := by
        simp only [List.mem_cons, List.not_mem_nil, or_false] at hv
        rcases hv with rfl | rfl | rfl | rfl | rfl | rfl | rfl
        · exact ⟨l1, [1, 2, 3], rfl, s28 _ _ hl1, nf n_l1 s0, by decide, by decide, by decide⟩
        · exact ⟨l2, [2, 4, 6], rfl, s9 _ _ (s8 _ _ (s7 _ _ (s6 _ _ (s5 _ _ (s4 _ _ hl2))))), nf n_l2 (s0.trans s2), by decide, by decide, by decide⟩
        · exact ⟨l3, [1, 5], rfl, s9 _ _ (s8 _ _ (s7 _ _ (s6 _ _ (s5 _ _ hl3)))), nf n_l3 (s0.trans (s2.trans s3)), by decide, by decide, by decide⟩
        · exact ⟨l4, [2, 5], rfl, s9 _ _ (s8 _ _ (s7 _ _ (s6 _ _ hl4))), nf n_l4 (s0.trans (s2.trans (s3.trans s4))), by decide, by decide, by decide⟩
        · exact ⟨l5, [1, 2, 3, 4, 5, 6], rfl, s9 _ _ (s8 _ _ (s7 _ _ hl5)), nf n_l5 (s0.trans (s2.trans (s3.trans (s4.trans s5)))), by decide, by decide, by decide⟩
        · exact ⟨l6, [6, 7], rfl, s9 _ _ (s8 _ _ hl6), nf n_l6 (s0.trans (s2.trans (s3.trans (s4.trans (s5.trans s6))))), by decide, by decide, by decide⟩
        · exact ⟨l7, [3, 4], rfl, s9 _ _ hl7, nf n_l7 (s0.trans (s2.trans (s3.trans (s4.trans (s5.trans (s6.trans s7)))))), by decide, by decide, by decide⟩
      have hb9p : ls ≠ p := fun z => by rw [z, s28 _ _ (s2 _ _ hp0)] at hls9; cases S with
        | nil => simp at hS0
        | cons a b => simp at hls9
      have hls10 := b10 _ _ hls9 hlst
      have hp10 := b10 _ _ (s28 _ _ (s2 _ _ hp0)) hpt
      walk_at "ru"
      subst hK_
      first | with_reducible refine seq_k fun K_ hK_ => ?_ | skip
      walk_at "ru"
      intro l8 n_l8
      generalize hG_ : upd _ l8 _ = H11
      obtain ⟨s11, hl8⟩ := newF n_l8 hG_
      clear hG_
      refine ⟨a, t, l8, ns, _, _, rfl, T10.same s11, by omega, hl8, T10.some_ n_l8, by simp, by simp, fun v H12 hv T12 b12 => ?_⟩
      obtain ⟨bd, rfl, bd0⟩ : ∃ bd : Int, v = .int bd ∧ (bd = 2 ∨ bd = 3 ∨ bd = 4) := by
        simp only [List.mem_cons, List.not_mem_nil, or_false] at hv
        rcases hv with rfl | rfl | rfl
        · exact ⟨2, rfl, .inl rfl⟩
        · exact ⟨3, rfl, .inr (.inl rfl)⟩
        · exact ⟨4, rfl, .inr (.inr rfl)⟩
      refine ⟨a, t, ns, _, bd, rfl, T12, by omega, by omega, by omega, fun d H13 d0 d1 T13 b13 => ?_⟩
      obtain ⟨N, hN⟩ : ∃ N : Nat, (1 + d).toNat = N := ⟨_, rfl⟩
      refine ⟨d, rfl, by omega, by omega, ?_⟩
      rw [hN]
      have hls13 := b13 _ _ (b12 _ _ (s11 _ _ hls10) hlst) hlst
      have hp13 := b13 _ _ (b12 _ _ (s11 _ _ hp10) hpt) hpt
      have hNl : N ≤ 4 := by omega
      have hN1 : 1 ≤ N := by omega
      refine for_it (walk_range (lo := 0) (n := N)) (iv30b K a t p ls ns (c + 1 + 1 + 1) (0 + (i : Int)) S y7 y8 y9 y10) ⟨[], [], _, _, _, rfl, rfl, hp13, ⟨rfl, fun i x h => by simp at h⟩, by omega, T13, hls13⟩ (fun i σ H5 _ iv => trivial) (fun j v σ HA1 HB1 hj iv hv => ?_) (fun σ HA1 iv => ?_)
      · obtain ⟨xs, rus, c1, y5, y6, rfl, hxl, hpJ, hrv, hc1, TJ, hlsJ⟩ := iv
        obtain ⟨rfl, rfl⟩ := hv
        walk_at "ru"
        with_reducible refine seq_k fun K_ hK_ => ?_
        walk_at "ru"
        refine ⟨a, t, ls, ns, c1, _, rfl, TJ, by omega, hlsJ, hlst, by rw [List.length_map]; exact hS0, by rw [List.length_map]; omega, fun v G1 hv U1 w1 => ?_⟩
        obtain ⟨wh, hwS, rfl⟩ := List.mem_map.mp hv
        have hwb := hSb wh hwS
        refine ⟨a, t, ns, _, wh, rfl, U1, by omega, by omega, by omega, fun rs x2 c2 G2 hrs hsum hrl nx2 nx2t hx2 hc2 U2 w2 => ?_⟩
        have hp2 := w2 _ _ (w1 _ _ hpJ hpt) hpt
        have hls2 := w2 _ _ (w1 _ _ hlsJ hlst) hlst
        have hrv2 := rule_but U1 w2 (rule_but TJ w1 hrv)
        walk_at "ru"
        subst hK_
        first | with_reducible refine seq_k fun K_ hK_ => ?_ | skip
        walk_at "ru"
        refine ⟨tyL hp2, ?_⟩
        intro x5 n_x5
        generalize hG_ : upd _ x5 _ = G3
        obtain ⟨g3, hx5⟩ := newF n_x5 hG_
        clear hG_
        refine ⟨a, t, x5, ns, _, _, rfl, U2.same g3, by omega, hx5, U2.some_ n_x5, by simp, by simp, fun v G4 hv U4 w4 => ?_⟩
        obtain ⟨bd, rfl, bd0⟩ : ∃ bd : Int, v = .int bd ∧ (bd = 2 ∨ bd = 4 ∨ bd = 5) := by
          simp only [List.mem_cons, List.not_mem_nil, or_false] at hv
          rcases hv with rfl | rfl | rfl
          · exact ⟨2, rfl, .inl rfl⟩
          · exact ⟨4, rfl, .inr (.inl rfl)⟩
          · exact ⟨5, rfl, .inr (.inr rfl)⟩
        refine ⟨a, t, ns, _, bd, rfl, U4, by omega, by omega, by omega, fun e G5 e0 e1 U5 w5 => ?_⟩
        refine ⟨e, rfl, ?_⟩
        intro x6 n_x6
        generalize hG_ : upd _ x6 _ = G6
        obtain ⟨g6, hx6⟩ := newF n_x6 hG_
        clear hG_
        have U23 := U2.same g3
        have hx2' := g6 _ _ (U4.tup w5 (U23.tup w4 (g3 _ _ hx2)))
        have hp6 := g6 _ _ (w5 _ _ (w4 _ _ (g3 _ _ hp2) hpt) hpt)
        have hls6 := g6 _ _ (w5 _ _ (w4 _ _ (g3 _ _ hls2) hlst) hlst)
        have hrv6 := (rule_but U4 w5 (rule_but U23 w4 (hrv2.same g3))).same g6
        have hle4 : ∀ r ∈ rs, r ≤ 31 := fun r hr => by
          have hm : ∀ (l : List Int), (∀ z ∈ l, 1 ≤ z) → ∀ z ∈ l, z ≤ l.sum := by
            intro l
            induction l with
            | nil => intro _ z hz; simp at hz
            | cons y l ih =>
              intro h z hz
              have h1 := h y (by simp)
              have h2 : 0 ≤ l.sum := by
                have := sum_ge (rs := l) fun q hq => h q (by simp [hq])
                omega
              rw [List.sum_cons]
              rcases List.mem_cons.mp hz with rfl | hz
              · omega
              · have := ih (fun q hq => h q (by simp [hq])) z hz
                omega
          have := hm rs hrs.pos r hr
          omega
        have hrat : RuleAt G6 (.ref x6) (rs, 1 + e) := ⟨x6, x2, rfl, hx6, ⟨hx2', hrs, hle4, by show rs.length ≤ 12; omega⟩, by show 1 ≤ 1 + e; omega, by show 1 + e ≤ 20; omega⟩
        refine (app (K := K) hp6 (by omega) ?_).2
        have hlp : ls ≠ p := fun z => by
          have h1 := hb9p
          exact h1 z
        refine ⟨xs ++ [.ref x6], rus ++ [(rs, 1 + e)], _, _, _, rfl, by rw [List.length_append, hxl]; rfl, upd_same, (rule_upd (hrv6.snoc hrat) hp6), ?_, (U5.same g6).app TA n_p hpt, by rw [upd_ne hlp]; exact hls6⟩
        omega
      · obtain ⟨xs, rus, c1, y5, y6, rfl, hxl, hpJ, hrv, hc1, TJ, hlsJ⟩ := iv
        walk_at "ru"
        subst hK_
        first | with_reducible refine seq_k fun K_ hK_ => ?_ | skip
        walk_at "ru"
        refine ⟨_, .inl ⟨sqL hpJ, ?_⟩⟩
        intro r0 n_r0
        generalize hG_ : upd _ r0 _ = G1
        obtain ⟨g1, hr0⟩ := newF n_r0 hG_
        clear hG_
        have hrl := hrv.1
        have R1 : RulesAt G1 r0 rus := (hrv.same g1).at_ hr0 (by omega) (by omega)
        have U1 := TJ.same g1
        walk_at "ru"
        subst hK_
        first | with_reducible refine seq_k fun K_ hK_ => ?_ | skip
        walk_at "ru"
        refine ⟨by decide, by decide, ?_⟩
        refine for_it (walk_range (lo := 0) (n := 5)) (iv30c K a t p ls r0 (0 + (i : Int)) y5 y6 G1) ⟨_, _, _, rfl, Same.refl _⟩ (fun i σ H5 _ iv => trivial) (fun j v σ HA2 HB2 hj iv hv => ?_) (fun σ HA2 iv => ?_)
        · obtain ⟨y8, y9, y10, rfl, sA⟩ := iv
          obtain ⟨rfl, rfl⟩ := hv
          simp only [Int.zero_add]
          walk_at "ru"
          with_reducible refine seq_k fun K_ hK_ => ?_
          walk_at "ru"
          have RA := R1.same sA
          suffices rT : ∀ (q9 : Addr) (H2 : Hp), Same HB2 H2 → ToldK H2 q9 (j : Int) rus → K_ [some (.ref a), some (.ref t), some (.int (i : Int)), some (.ref p), some (.ref ls), y5, y6, some (.ref r0), some (.int (j : Int)), some (.ref q9), y10, none] H2 by
            refine ⟨_, _, rfl, (j : Int), r0, rus, rfl, RA, by omega, by omega, fun hd v H' s g => fun q9 H2 s2 _ h2 => rT q9 H2 (s.trans s2) (.inl ⟨hd, v, h2, g.same s2⟩), fun hn H' s => ⟨"BadRules", 3, rfl, rfl, fun dd e => (by cases e), fun q9 H2 s2 _ h2 => rT q9 H2 (s.trans s2) (.inr ⟨hn, h2⟩)⟩⟩
          intro q9 H2 s2 htk
          have RB := RA.same s2
          walk_at "ru"
          subst hK_
          first | with_reducible refine seq_k fun K_ hK_ => ?_ | skip
          walk_at "ru"
          intro l0 n_l0
          generalize hG_ : upd _ l0 _ = H3
          obtain ⟨s3, hl0⟩ := newF n_l0 hG_
          clear hG_
          have hix : [V.int 1, V.int 1, V.int 1, V.int 2, V.int 5][j]? = some (V.int (moreW (j : Int))) := by
            rcases (show j = 0 ∨ j = 1 ∨ j = 2 ∨ j = 3 ∨ j = 4 by omega) with rfl | rfl | rfl | rfl | rfl <;> rfl
          have hm1 : 1 ≤ moreW (j : Int) ∧ moreW (j : Int) ≤ 6 := by
            unfold moreW
            split
            · omega
            · split <;> omega
          refine ixL (j := j) (sqL hl0) rfl hix ?_
          refine ⟨r0, rus, moreW (j : Int), rfl, (RB.same s3).x, fun z => by have := RB.l1; rw [z] at this; simp at this, RB.l5, hm1.1, hm1.2, fun H4 b s4 hb => ?_⟩
          have s24 := s3.trans s4
          have hb2 : b = true ↔ dueW (j : Int) rus := hb.trans due_iff
          have s0 := sA.trans (s2.trans s24)
          walk_at "ru"
          subst hK_
          first | with_reducible refine seq_k fun K_ hK_ => ?_ | skip
          walk_at "ru"
          rcases htk with ⟨hd, v, hq9, hg⟩ | ⟨hd, hq9⟩
          · have eb : b = true := hb2.mpr hd
            subst eb
            have hq94 := s24 _ _ hq9
            refine ixT (j := 0) (sqT hq94) rfl rfl ⟨rfl, ?_⟩
            rw [if_neg (by simp), if_neg (by simp)]
            walk_at "ru"
            subst hK_
            first | with_reducible refine seq_k fun K_ hK_ => ?_ | skip
            walk_at "ru"
            refine ite2 (fun cj => ?_) (fun cj => ⟨_, _, _, rfl, s0⟩)
            refine ixT (j := 1) (sqT hq94) rfl rfl ?_
            rcases (hg.same s24) cj with rfl | ⟨pn, nn, rfl, hpn, hn1, hn2, hn3⟩
            · rw [if_neg (by simp)]
              exact ⟨_, _, _, rfl, s0⟩
            · rw [if_pos (by simp)]
              refine ixT (j := 1) (sqT hq94) rfl rfl ?_
              refine ⟨pn, nn, rfl, hpn, hn1, hn2, hn3, fun H5 s5 => ?_⟩
              refine ⟨_, rfl, ?_⟩
              rw [if_neg (by simp)]
              exact ⟨_, _, _, rfl, s0.trans s5⟩
          · have eb : b = false := by
              cases b with
              | false => rfl
              | true => exact absurd (hb2.mp rfl) hd
            subst eb
            have hq94 := s24 _ _ hq9
            refine ixT (j := 0) (sqT hq94) rfl rfl ⟨rfl, ?_⟩
            rw [if_neg (by decide), if_pos rfl]
            refine ⟨"rules", 3, rfl, rfl, fun r3 H5 s5 n5 hr3 => ?_⟩
            refine neD (k := 1) (m := 1) (d := .tuple [.str "refused", .int (3 : Nat)]) (e := .tuple [.str "refused", .int (3 : Nat)]) (.tup (sqT (s5 _ _ hq94)) (.cons (.str _) (.cons (.int _) .nil))) (.tup (sqT hr3) (.cons (.str _) (.cons (.int _) .nil))) (by decide +kernel) (by decide +kernel) (fun _ => ?_) (fun z => absurd rfl z)
            refine ⟨_, rfl, ?_⟩
            rw [if_neg (by simp)]
            walk_at "ru"
            subst hK_
            first | with_reducible refine seq_k fun K_ hK_ => ?_ | skip
            walk_at "ru"
            exact ite2 (fun _ => ⟨_, _, _, rfl, s0.trans s5⟩) (fun _ => ⟨_, _, _, rfl, s0.trans s5⟩)
        · obtain ⟨y8, y9, y10, rfl, sA⟩ := iv
          exact ⟨c1, _, _, _, _, _, _, _, _, _, rfl, U1.same sA, by omega⟩
    · obtain ⟨c, y2, y3, y4, y5, y6, y7, y8, y9, y10, rfl, TA, hc⟩ := iv
      walk_at "ru"
      subst hK_
      first | with_reducible refine seq_k fun K_ hK_ => ?_ | skip
      walk_at "ru"
      intro x1 n_x1
      generalize hG_ : upd _ x1 _ = H1
      obtain ⟨s1, hx1⟩ := newF n_x1 hG_
      clear hG_
      intro x2 n_x2
      generalize hG_ : upd _ x2 _ = H2
      obtain ⟨s2, hx2⟩ := newF n_x2 hG_
      clear hG_
      intro x3 n_x3
      generalize hG_ : upd _ x3 _ = H3
      obtain ⟨s3, hx3⟩ := newF n_x3 hG_
      clear hG_
      intro x4 n_x4
      generalize hG_ : upd _ x4 _ = H4
      obtain ⟨s4, hx4⟩ := newF n_x4 hG_
      clear hG_
      intro x5 n_x5
      generalize hG_ : upd _ x5 _ = H5
      obtain ⟨s5, hx5⟩ := newF n_x5 hG_
      clear hG_
      intro x6 n_x6
      generalize hG_ : upd _ x6 _ = H6
      obtain ⟨s6, hx6⟩ := newF n_x6 hG_
      clear hG_
      intro x7 n_x7
      generalize hG_ : upd _ x7 _ = H7
      obtain ⟨s7, hx7⟩ := newF n_x7 hG_
      clear hG_
      have s37 := s4.trans (s5.trans (s6.trans s7))
      have R1 : RulesAt H7 x3 [([5], 1)] := (rules_one (s3 _ _ (s2 _ _ hx1)) (s3 _ _ hx2) hx3 (by decide) (by decide) (by decide) (by decide)).same s37
      have R2 : RulesAt H7 x6 [([4], 1)] := (rules_one (s6 _ _ (s5 _ _ hx4)) (s6 _ _ hx5) hx6 (by decide) (by decide) (by decide) (by decide)).same s7
      walk_at "ru"
      subst hK_
      first | with_reducible refine seq_k fun K_ hK_ => ?_ | skip
      walk_at "ru"
      refine ixT (j := 0) (sqT hx7) rfl rfl ?_
      intro z1 n_z1
      generalize hG_ : upd _ z1 _ = J1
      obtain ⟨j1, hz1⟩ := newF n_z1 hG_
      clear hG_
      intro z2 n_z2
      generalize hG_ : upd _ z2 _ = J2
      obtain ⟨j2, hz2⟩ := newF n_z2 hG_
      clear hG_
      intro z3 n_z3
      generalize hG_ : upd _ z3 _ = J3
      obtain ⟨j3, hz3⟩ := newF n_z3 hG_
      clear hG_
      intro z4 n_z4
      generalize hG_ : upd _ z4 _ = J4
      obtain ⟨j4, hz4⟩ := newF n_z4 hG_
      clear hG_
      intro z5 n_z5
      generalize hG_ : upd _ z5 _ = J5
      obtain ⟨j5, hz5⟩ := newF n_z5 hG_
      clear hG_
      have j05 := j1.trans (j2.trans (j3.trans (j4.trans j5)))
      have r2 : RuleAt J5 (.ref z2) ([2], 1) := ⟨z2, z1, rfl, j5 _ _ (j4 _ _ (j3 _ _ hz2)), ⟨j5 _ _ (j4 _ _ (j3 _ _ (j2 _ _ hz1))), rnds1 (by decide), by decide, by decide⟩, by decide, by decide⟩
      have r1 : RuleAt J5 (.ref z4) ([1], 4) := ⟨z4, z3, rfl, j5 _ _ hz4, ⟨j5 _ _ (j4 _ _ hz3), rnds1 (by decide), by decide, by decide⟩, by decide, by decide⟩
      have hvz : RuleVs J5 [.ref z2, .ref z4] [([2], 1), ([1], 4)] := RuleVs.snoc (RuleVs.snoc (xs := []) (rus := []) ⟨rfl, fun i x h => by simp at h⟩ r2) r1
      have RZ : RulesAt J5 z5 [([2], 1), ([1], 4)] := hvz.at_ hz5 (by decide) (by decide)
      have hcov : Cov ([5], 1) [([2], 1), ([1], 4)] := cov_last rfl (by simp) (by decide)
      refine ⟨x3, z5, [([5], 1)], [([2], 1), ([1], 4)], rfl, R1.same j05, RZ, fun _ => ⟨fun J6 j6 _ => ?_, fun p ms J6 j6 np hp htold => ?_⟩, fun hn => absurd (by decide) hn⟩
      · dsimp only
        rw [if_pos rfl]
        have j06 := j05.trans j6
        refine ixT (j := 0) (sqT (j06 _ _ hx7)) rfl rfl ?_
        refine ixT (j := 1) (sqT (j06 _ _ hx7)) rfl rfl ?_
        have g3 := j06 _ _ (s37 _ _ hx3)
        have g6 := j06 _ _ (s7 _ _ hx6)
        refine ⟨x3, x6, _, _, rfl, rfl, g3, g6, by simp, fun pc J7 j7 hpc => ?_⟩
        have v5 : RuleAt J7 (.ref x2) ([5], 1) := ⟨x2, x1, rfl, j7 _ _ (j06 _ _ (s37 _ _ (s3 _ _ hx2))), ⟨j7 _ _ (j06 _ _ (s37 _ _ (s3 _ _ (s2 _ _ hx1)))), rnds1 (by decide), by decide, by decide⟩, by decide, by decide⟩
        have v4 : RuleAt J7 (.ref x5) ([4], 1) := ⟨x5, x4, rfl, j7 _ _ (j06 _ _ (s7 _ _ (s6 _ _ hx5))), ⟨j7 _ _ (j06 _ _ (s7 _ _ (s6 _ _ (s5 _ _ hx4)))), rnds1 (by decide), by decide, by decide⟩, by decide, by decide⟩
        have hvc : RuleVs J7 [.ref x2, .ref x5] [([5], 1), ([4], 1)] := RuleVs.snoc (RuleVs.snoc (xs := []) (rus := []) ⟨rfl, fun i x h => by simp at h⟩ v5) v4
        have RC : RulesAt J7 pc [([5], 1), ([4], 1)] := hvc.at_ hpc (by decide) (by decide)
        have hnd : ¬ dueW 0 [([5], 1), ([4], 1)] := by
          unfold dueW
          rw [if_pos (by decide)]
          unfold mostW
          decide
        refine ⟨_, _, rfl, 0, pc, _, rfl, RC, by decide, by decide, fun hd => absurd hd hnd, fun _ J8 j8 => ⟨"BadRules", 3, rfl, rfl, fun dd e => (by cases e), fun q9 J9 j9 _ hq9 => ?_⟩⟩
        refine ⟨"rules", 3, rfl, rfl, fun r3 J10 j10 n10 hr3 => ?_⟩
        refine eqD (k := 1) (m := 1) (d := .tuple [.str "refused", .int (3 : Nat)]) (e := .tuple [.str "refused", .int (3 : Nat)]) (.tup (sqT (j10 _ _ hq9)) (.cons (.str _) (.cons (.int _) .nil))) (.tup (sqT hr3) (.cons (.str _) (.cons (.int _) .nil))) (by decide +kernel) (by decide +kernel) (fun _ => ?_) (fun z => absurd rfl z)
        exact q _
      · obtain ⟨ru, hru, hw⟩ := htold.wit
        rw [List.mem_singleton.mp hru] at hw
        exact absurd hw (hcov ms htold.rise)
end
end Nk
namespace Nk
open PySem L2
theorem fin {P : Program} {w : World} {K : PySem.W.Frag} {mg : Str → Option Value} {fa : Addr} (hfa : mg "law" = some (.ref fa)) (T : Txt K mg) : ∃ fd : FuncData, (∀ (s : Shared) (v : Value), BindsTo s fd ⟨[v], []⟩ [("script", v)]) ∧ ∀ base : Heap, K.In base → base.Ns mainGlobals mg → FnOk P w K mg base CX0 18 fa fd ["script"] (spLaw K) :=
  law_end hfa T.d_law (fun _ _ _ _ _ _ _ => rfl) (fun base f fd F => ok_law F T)
end Nk
open PySem PySem.W PyProof.Rows
set_option maxRecDepth 100000 in
set_option maxHeartbeats 0 in
theorem PySem.Challenge.cw_nightkeep_k30_refused_weighing_holds : PySem.Challenge.rw_nightkeep_k30_refused_weighing.Holds := by
  w_on; o_law; k_head; (case hw => w_witness2)
  k_fill
  refine L2.walk_of (l := PySem.Challenge.rw_nightkeep_k30_refused_weighing) (n := 63) (k := 18) (x := "script") (CX := fun _ => L2.CX0) (sp := fun w => Nk.spLaw _) rfl (by decide) rfl ⟨rfl, by decide, by decide⟩ (fun w h Y => PySem.W.kIn_of Y) ?F (fun _ _ a ns hl _ hS => ⟨a, ns, rfl, hS, hl, fun _ => rfl⟩) (fun _ _ _ _ _ h => h)
  case F =>
    intro w mg fa h KX G hmg
    refine Nk.fin hmg ?_
    refine ⟨?d_is_number, ?d_is_rounds, ?d_number_of, ?d_is_rule, ?d_look_rules, ?d_divisor, ?d_turn_of, ?d_look_small, ?d_look_turn, ?d_stood, ?d_gone_back, ?d_copied, ?d_steps, ?d_nights_from, ?d_outdone, ?d_within, ?d_lean, ?d_best_from, ?d_most, ?d__law_town, ?d__law_draw, ?d__law_pick, ?d__law_word, ?d__law_refused, ?d__law_told, ?d__law_whole, ?d__law_wholes, ?d__law_parted, ?d__law_is_nights, ?d__law_one, ?d__law_sums, ?d__law_weighed, ?d_law, ?x_KeepError, ?x_BadRounds, ?x_BadNight, ?x_BadNumber, ?x_BadRules, ?x_BadNights, ?x_Full, ?x_NotHeld, ?x_Pinned, ?x_NotPinned, ?x_BadState, ?x_BadPart, ?x_NotFit, ?x_IsWhole, ?x_BadPlan, ?x_Unlike, ?x_BadText, ?k_err, ?e_BadRounds, ?e_BadNight, ?e_BadNumber, ?e_BadRules, ?e_BadNights, ?e_Elder, ?e_Full, ?e_NotHeld, ?e_Pinned, ?e_NotPinned, ?e_BadState, ?e_BadPart, ?e_NotFit, ?e_IsWhole, ?e_BadPlan, ?e_Unlike, ?e_BadText, ?b_RuntimeError, ?b_all, ?b_bool, ?b_enumerate, ?b_int, ?b_isinstance, ?b_len, ?b_list, ?b_max, ?b_min, ?b_range, ?b_sorted, ?b_sum, ?b_tuple, ?b_zip⟩
    case d_is_number => (refine' Nk.df_mk (st := Nk.s_is_number) KX G (fun _ _ _ _ _ _ us hl => match us, hl with | [_, _, _], _ => rfl) ?a ?l ?c ?k; (case a => k_is); (case l => k_is); (case c => k_is); (case k => k_is))
    case d_is_rounds => (refine' Nk.df_mk (st := Nk.s_is_rounds) KX G (fun _ _ _ _ _ _ us hl => match us, hl with | [_], _ => rfl) ?a ?l ?c ?k; (case a => k_is); (case l => k_is); (case c => k_is); (case k => k_is))
    case d_number_of => (refine' Nk.df_mk (st := Nk.s_number_of) KX G (fun _ _ _ _ _ _ us hl => match us, hl with | [_, _], _ => rfl) ?a ?l ?c ?k; (case a => k_is); (case l => k_is); (case c => k_is); (case k => k_is))
    case d_is_rule => (refine' Nk.df_mk (st := Nk.s_is_rule) KX G (fun _ _ _ _ _ _ us hl => match us, hl with | [_], _ => rfl) ?a ?l ?c ?k; (case a => k_is); (case l => k_is); (case c => k_is); (case k => k_is))
    case d_look_rules => (refine' Nk.df_mk (st := Nk.s_look_rules) KX G (fun _ _ _ _ _ _ us hl => match us, hl with | [_], _ => rfl) ?a ?l ?c ?k; (case a => k_is); (case l => k_is); (case c => k_is); (case k => k_is))
    case d_divisor => (refine' Nk.df_mk (st := Nk.s_divisor) KX G (fun _ _ _ _ _ _ us hl => match us, hl with | [_, _], _ => rfl) ?a ?l ?c ?k; (case a => k_is); (case l => k_is); (case c => k_is); (case k => k_is))
    case d_turn_of => (refine' Nk.df_mk (st := Nk.s_turn_of) KX G (fun _ _ _ _ _ _ us hl => match us, hl with | [_], _ => rfl) ?a ?l ?c ?k; (case a => k_is); (case l => k_is); (case c => k_is); (case k => k_is))
    case d_look_small => (refine' Nk.df_mk (st := Nk.s_look_small) KX G (fun _ _ _ _ _ _ us hl => match us, hl with | [_], _ => rfl) ?a ?l ?c ?k; (case a => k_is); (case l => k_is); (case c => k_is); (case k => k_is))
    case d_look_turn => (refine' Nk.df_mk (st := Nk.s_look_turn) KX G (fun _ _ _ _ _ _ us hl => match us, hl with | [_], _ => rfl) ?a ?l ?c ?k; (case a => k_is); (case l => k_is); (case c => k_is); (case k => k_is))
    case d_stood => (refine' Nk.df_mk (st := Nk.s_stood) KX G (fun _ _ _ _ _ _ us hl => match us, hl with | [_], _ => rfl) ?a ?l ?c ?k; (case a => k_is); (case l => k_is); (case c => k_is); (case k => k_is))
    case d_gone_back => (refine' Nk.df_mk (st := Nk.s_gone_back) KX G (fun _ _ _ _ _ _ us hl => match us, hl with | [_, _, _, _], _ => rfl) ?a ?l ?c ?k; (case a => k_is); (case l => k_is); (case c => k_is); (case k => k_is))
    case d_copied => (refine' Nk.df_mk (st := Nk.s_copied) KX G (fun _ _ _ _ _ _ us hl => match us, hl with | [_, _], _ => rfl) ?a ?l ?c ?k; (case a => k_is); (case l => k_is); (case c => k_is); (case k => k_is))
    case d_steps => (refine' Nk.df_mk (st := Nk.s_steps) KX G (fun _ _ _ _ _ _ us hl => match us, hl with | [_, _, _, _], _ => rfl) ?a ?l ?c ?k; (case a => k_is); (case l => k_is); (case c => k_is); (case k => k_is))
    case d_nights_from => (refine' Nk.df_mk (st := Nk.s_nights_from) KX G (fun _ _ _ _ _ _ us hl => match us, hl with | [_, _, _], _ => rfl) ?a ?l ?c ?k; (case a => k_is); (case l => k_is); (case c => k_is); (case k => k_is))
    case d_outdone => (refine' Nk.df_mk (st := Nk.s_outdone) KX G (fun _ _ _ _ _ _ us hl => match us, hl with | [_, _], _ => rfl) ?a ?l ?c ?k; (case a => k_is); (case l => k_is); (case c => k_is); (case k => k_is))
    case d_within => (refine' Nk.df_mk (st := Nk.s_within) KX G (fun _ _ _ _ _ _ us hl => match us, hl with | [_, _], _ => rfl) ?a ?l ?c ?k; (case a => k_is); (case l => k_is); (case c => k_is); (case k => k_is))
    case d_lean => (refine' Nk.df_mk (st := Nk.s_lean) KX G (fun _ _ _ _ _ _ us hl => match us, hl with | [_], _ => rfl) ?a ?l ?c ?k; (case a => k_is); (case l => k_is); (case c => k_is); (case k => k_is))
    case d_best_from => (refine' Nk.df_mk (st := Nk.s_best_from) KX G (fun _ _ _ _ _ _ us hl => match us, hl with | [_, _, _, _], _ => rfl) ?a ?l ?c ?k; (case a => k_is); (case l => k_is); (case c => k_is); (case k => k_is))
    case d_most => (refine' Nk.df_mk (st := Nk.s_most) KX G (fun _ _ _ _ _ _ us hl => match us, hl with | [_], _ => rfl) ?a ?l ?c ?k; (case a => k_is); (case l => k_is); (case c => k_is); (case k => k_is))
    case d__law_town => (refine' Nk.df_mk (st := Nk.s__law_town) KX G (fun _ _ _ _ _ _ us hl => match us, hl with | [_], _ => rfl) ?a ?l ?c ?k; (case a => k_is); (case l => k_is); (case c => k_is); (case k => k_is))
    case d__law_draw => (refine' Nk.df_mk (st := Nk.s__law_draw) KX G (fun _ _ _ _ _ _ us hl => match us, hl with | [_, _, _], _ => rfl) ?a ?l ?c ?k; (case a => k_is); (case l => k_is); (case c => k_is); (case k => k_is))
    case d__law_pick => (refine' Nk.df_mk (st := Nk.s__law_pick) KX G (fun _ _ _ _ _ _ us hl => match us, hl with | [_, _, _], _ => rfl) ?a ?l ?c ?k; (case a => k_is); (case l => k_is); (case c => k_is); (case k => k_is))
    case d__law_word => (refine' Nk.df_mk (st := Nk.s__law_word) KX G (fun _ _ _ _ _ _ us hl => match us, hl with | [_], _ => rfl) ?a ?l ?c ?k; (case a => k_is); (case l => k_is); (case c => k_is); (case k => k_is))
    case d__law_refused => (refine' Nk.df_mk (st := Nk.s__law_refused) KX G (fun _ _ _ _ _ _ us hl => match us, hl with | [_], _ => rfl) ?a ?l ?c ?k; (case a => k_is); (case l => k_is); (case c => k_is); (case k => k_is))
    case d__law_told => (refine' Nk.df_mk (st := Nk.s__law_told) KX G (fun _ _ _ _ _ _ us hl => match us, hl with | [_, _], _ => rfl) ?a ?l ?c ?k; (case a => k_is); (case l => k_is); (case c => k_is); (case k => k_is))
    case d__law_whole => (refine' Nk.df_mk (st := Nk.s__law_whole) KX G (fun _ _ _ _ _ _ us hl => match us, hl with | [_], _ => rfl) ?a ?l ?c ?k; (case a => k_is); (case l => k_is); (case c => k_is); (case k => k_is))
    case d__law_wholes => (refine' Nk.df_mk (st := Nk.s__law_wholes) KX G (fun _ _ _ _ _ _ us hl => match us, hl with | [_], _ => rfl) ?a ?l ?c ?k; (case a => k_is); (case l => k_is); (case c => k_is); (case k => k_is))
    case d__law_parted => (refine' Nk.df_mk (st := Nk.s__law_parted) KX G (fun _ _ _ _ _ _ us hl => match us, hl with | [_, _, _], _ => rfl) ?a ?l ?c ?k; (case a => k_is); (case l => k_is); (case c => k_is); (case k => k_is))
    case d__law_is_nights => (refine' Nk.df_mk (st := Nk.s__law_is_nights) KX G (fun _ _ _ _ _ _ us hl => match us, hl with | [_], _ => rfl) ?a ?l ?c ?k; (case a => k_is); (case l => k_is); (case c => k_is); (case k => k_is))
    case d__law_one => (refine' Nk.df_mk (st := Nk.s__law_one) KX G (fun _ _ _ _ _ _ us hl => match us, hl with | [_, _], _ => rfl) ?a ?l ?c ?k; (case a => k_is); (case l => k_is); (case c => k_is); (case k => k_is))
    case d__law_sums => (refine' Nk.df_mk (st := Nk.s__law_sums) KX G (fun _ _ _ _ _ _ us hl => match us, hl with | [_], _ => rfl) ?a ?l ?c ?k; (case a => k_is); (case l => k_is); (case c => k_is); (case k => k_is))
    case d__law_weighed => (refine' Nk.df_mk (st := Nk.s__law_weighed) KX G (fun _ _ _ _ _ _ us hl => match us, hl with | [_, _], _ => rfl) ?a ?l ?c ?k; (case a => k_is); (case l => k_is); (case c => k_is); (case k => k_is))
    case d_law => (refine' Nk.df_mk (st := Nk.s_law) KX G (fun _ _ _ _ _ _ us hl => match us, hl with | [_], _ => rfl) ?a ?l ?c ?k; (case a => k_is); (case l => k_is); (case c => k_is); (case k => k_is))
    case x_KeepError => (refine' Nk.xc_mk KX G ?a ?x ?k ?b ?t; (case a => k_is); (case x => k_exc); (case k => k_is); (case b => k_is); (case t => k_is))
    case x_BadRounds => (refine' Nk.xc_mk KX G ?a ?x ?k ?b ?t; (case a => k_is); (case x => k_exc); (case k => k_is); (case b => k_is); (case t => k_is))
    case x_BadNight => (refine' Nk.xc_mk KX G ?a ?x ?k ?b ?t; (case a => k_is); (case x => k_exc); (case k => k_is); (case b => k_is); (case t => k_is))
    case x_BadNumber => (refine' Nk.xc_mk KX G ?a ?x ?k ?b ?t; (case a => k_is); (case x => k_exc); (case k => k_is); (case b => k_is); (case t => k_is))
    case x_BadRules => (refine' Nk.xc_mk KX G ?a ?x ?k ?b ?t; (case a => k_is); (case x => k_exc); (case k => k_is); (case b => k_is); (case t => k_is))
    case x_BadNights => (refine' Nk.xc_mk KX G ?a ?x ?k ?b ?t; (case a => k_is); (case x => k_exc); (case k => k_is); (case b => k_is); (case t => k_is))
    case x_Full => (refine' Nk.xc_mk KX G ?a ?x ?k ?b ?t; (case a => k_is); (case x => k_exc); (case k => k_is); (case b => k_is); (case t => k_is))
    case x_NotHeld => (refine' Nk.xc_mk KX G ?a ?x ?k ?b ?t; (case a => k_is); (case x => k_exc); (case k => k_is); (case b => k_is); (case t => k_is))
    case x_Pinned => (refine' Nk.xc_mk KX G ?a ?x ?k ?b ?t; (case a => k_is); (case x => k_exc); (case k => k_is); (case b => k_is); (case t => k_is))
    case x_NotPinned => (refine' Nk.xc_mk KX G ?a ?x ?k ?b ?t; (case a => k_is); (case x => k_exc); (case k => k_is); (case b => k_is); (case t => k_is))
    case x_BadState => (refine' Nk.xc_mk KX G ?a ?x ?k ?b ?t; (case a => k_is); (case x => k_exc); (case k => k_is); (case b => k_is); (case t => k_is))
    case x_BadPart => (refine' Nk.xc_mk KX G ?a ?x ?k ?b ?t; (case a => k_is); (case x => k_exc); (case k => k_is); (case b => k_is); (case t => k_is))
    case x_NotFit => (refine' Nk.xc_mk KX G ?a ?x ?k ?b ?t; (case a => k_is); (case x => k_exc); (case k => k_is); (case b => k_is); (case t => k_is))
    case x_IsWhole => (refine' Nk.xc_mk KX G ?a ?x ?k ?b ?t; (case a => k_is); (case x => k_exc); (case k => k_is); (case b => k_is); (case t => k_is))
    case x_BadPlan => (refine' Nk.xc_mk KX G ?a ?x ?k ?b ?t; (case a => k_is); (case x => k_exc); (case k => k_is); (case b => k_is); (case t => k_is))
    case x_Unlike => (refine' Nk.xc_mk KX G ?a ?x ?k ?b ?t; (case a => k_is); (case x => k_exc); (case k => k_is); (case b => k_is); (case t => k_is))
    case x_BadText => (refine' Nk.xc_mk KX G ?a ?x ?k ?b ?t; (case a => k_is); (case x => k_exc); (case k => k_is); (case b => k_is); (case t => k_is))
    case k_err => (refine' Nk.kc_mk KX G ?a ?l ?t ?d; (case a => k_is); (case l => k_is); (case t => k_is); (case d => k_is))
    case e_BadRounds => (refine' Nk.ec_mk KX G ?k ?a ?l ?t ?d ?h1 ?h2 ?h3 ?h4 ?h5; (case k => k_is); (case a => k_is); (case l => k_is); (case t => k_is); (case d => k_is); (case h1 => k_is); (case h2 => k_is); (case h3 => k_is); (case h4 => k_is); (case h5 => k_is))
    case e_BadNight => (refine' Nk.ec_mk KX G ?k ?a ?l ?t ?d ?h1 ?h2 ?h3 ?h4 ?h5; (case k => k_is); (case a => k_is); (case l => k_is); (case t => k_is); (case d => k_is); (case h1 => k_is); (case h2 => k_is); (case h3 => k_is); (case h4 => k_is); (case h5 => k_is))
    case e_BadNumber => (refine' Nk.ec_mk KX G ?k ?a ?l ?t ?d ?h1 ?h2 ?h3 ?h4 ?h5; (case k => k_is); (case a => k_is); (case l => k_is); (case t => k_is); (case d => k_is); (case h1 => k_is); (case h2 => k_is); (case h3 => k_is); (case h4 => k_is); (case h5 => k_is))
    case e_BadRules => (refine' Nk.ec_mk KX G ?k ?a ?l ?t ?d ?h1 ?h2 ?h3 ?h4 ?h5; (case k => k_is); (case a => k_is); (case l => k_is); (case t => k_is); (case d => k_is); (case h1 => k_is); (case h2 => k_is); (case h3 => k_is); (case h4 => k_is); (case h5 => k_is))
    case e_BadNights => (refine' Nk.ec_mk KX G ?k ?a ?l ?t ?d ?h1 ?h2 ?h3 ?h4 ?h5; (case k => k_is); (case a => k_is); (case l => k_is); (case t => k_is); (case d => k_is); (case h1 => k_is); (case h2 => k_is); (case h3 => k_is); (case h4 => k_is); (case h5 => k_is))
    case e_Elder => (refine' Nk.ec_mk KX G ?k ?a ?l ?t ?d ?h1 ?h2 ?h3 ?h4 ?h5; (case k => k_is); (case a => k_is); (case l => k_is); (case t => k_is); (case d => k_is); (case h1 => k_is); (case h2 => k_is); (case h3 => k_is); (case h4 => k_is); (case h5 => k_is))
    case e_Full => (refine' Nk.ec_mk KX G ?k ?a ?l ?t ?d ?h1 ?h2 ?h3 ?h4 ?h5; (case k => k_is); (case a => k_is); (case l => k_is); (case t => k_is); (case d => k_is); (case h1 => k_is); (case h2 => k_is); (case h3 => k_is); (case h4 => k_is); (case h5 => k_is))
    case e_NotHeld => (refine' Nk.ec_mk KX G ?k ?a ?l ?t ?d ?h1 ?h2 ?h3 ?h4 ?h5; (case k => k_is); (case a => k_is); (case l => k_is); (case t => k_is); (case d => k_is); (case h1 => k_is); (case h2 => k_is); (case h3 => k_is); (case h4 => k_is); (case h5 => k_is))
    case e_Pinned => (refine' Nk.ec_mk KX G ?k ?a ?l ?t ?d ?h1 ?h2 ?h3 ?h4 ?h5; (case k => k_is); (case a => k_is); (case l => k_is); (case t => k_is); (case d => k_is); (case h1 => k_is); (case h2 => k_is); (case h3 => k_is); (case h4 => k_is); (case h5 => k_is))
    case e_NotPinned => (refine' Nk.ec_mk KX G ?k ?a ?l ?t ?d ?h1 ?h2 ?h3 ?h4 ?h5; (case k => k_is); (case a => k_is); (case l => k_is); (case t => k_is); (case d => k_is); (case h1 => k_is); (case h2 => k_is); (case h3 => k_is); (case h4 => k_is); (case h5 => k_is))
    case e_BadState => (refine' Nk.ec_mk KX G ?k ?a ?l ?t ?d ?h1 ?h2 ?h3 ?h4 ?h5; (case k => k_is); (case a => k_is); (case l => k_is); (case t => k_is); (case d => k_is); (case h1 => k_is); (case h2 => k_is); (case h3 => k_is); (case h4 => k_is); (case h5 => k_is))
    case e_BadPart => (refine' Nk.ec_mk KX G ?k ?a ?l ?t ?d ?h1 ?h2 ?h3 ?h4 ?h5; (case k => k_is); (case a => k_is); (case l => k_is); (case t => k_is); (case d => k_is); (case h1 => k_is); (case h2 => k_is); (case h3 => k_is); (case h4 => k_is); (case h5 => k_is))
    case e_NotFit => (refine' Nk.ec_mk KX G ?k ?a ?l ?t ?d ?h1 ?h2 ?h3 ?h4 ?h5; (case k => k_is); (case a => k_is); (case l => k_is); (case t => k_is); (case d => k_is); (case h1 => k_is); (case h2 => k_is); (case h3 => k_is); (case h4 => k_is); (case h5 => k_is))
    case e_IsWhole => (refine' Nk.ec_mk KX G ?k ?a ?l ?t ?d ?h1 ?h2 ?h3 ?h4 ?h5; (case k => k_is); (case a => k_is); (case l => k_is); (case t => k_is); (case d => k_is); (case h1 => k_is); (case h2 => k_is); (case h3 => k_is); (case h4 => k_is); (case h5 => k_is))
    case e_BadPlan => (refine' Nk.ec_mk KX G ?k ?a ?l ?t ?d ?h1 ?h2 ?h3 ?h4 ?h5; (case k => k_is); (case a => k_is); (case l => k_is); (case t => k_is); (case d => k_is); (case h1 => k_is); (case h2 => k_is); (case h3 => k_is); (case h4 => k_is); (case h5 => k_is))
    case e_Unlike => (refine' Nk.ec_mk KX G ?k ?a ?l ?t ?d ?h1 ?h2 ?h3 ?h4 ?h5; (case k => k_is); (case a => k_is); (case l => k_is); (case t => k_is); (case d => k_is); (case h1 => k_is); (case h2 => k_is); (case h3 => k_is); (case h4 => k_is); (case h5 => k_is))
    case e_BadText => (refine' Nk.ec_mk KX G ?k ?a ?l ?t ?d ?h1 ?h2 ?h3 ?h4 ?h5; (case k => k_is); (case a => k_is); (case l => k_is); (case t => k_is); (case d => k_is); (case h1 => k_is); (case h2 => k_is); (case h3 => k_is); (case h4 => k_is); (case h5 => k_is))
    case b_RuntimeError => (refine' PySem.W.mg_none_of KX G ?a; (case a => k_is))
    case b_all => (refine' PySem.W.mg_none_of KX G ?a; (case a => k_is))
    case b_bool => (refine' PySem.W.mg_none_of KX G ?a; (case a => k_is))
    case b_enumerate => (refine' PySem.W.mg_none_of KX G ?a; (case a => k_is))
    case b_int => (refine' PySem.W.mg_none_of KX G ?a; (case a => k_is))
    case b_isinstance => (refine' PySem.W.mg_none_of KX G ?a; (case a => k_is))
    case b_len => (refine' PySem.W.mg_none_of KX G ?a; (case a => k_is))
    case b_list => (refine' PySem.W.mg_none_of KX G ?a; (case a => k_is))
    case b_max => (refine' PySem.W.mg_none_of KX G ?a; (case a => k_is))
    case b_min => (refine' PySem.W.mg_none_of KX G ?a; (case a => k_is))
    case b_range => (refine' PySem.W.mg_none_of KX G ?a; (case a => k_is))
    case b_sorted => (refine' PySem.W.mg_none_of KX G ?a; (case a => k_is))
    case b_sum => (refine' PySem.W.mg_none_of KX G ?a; (case a => k_is))
    case b_tuple => (refine' PySem.W.mg_none_of KX G ?a; (case a => k_is))
    case b_zip => (refine' PySem.W.mg_none_of KX G ?a; (case a => k_is))
