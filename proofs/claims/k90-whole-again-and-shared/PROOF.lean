import PyProof.Rows.All
import Wide.All
import OpenK.AllK
import Wide.FinOn
import HandS.ForMost
import HandS.ForExc
import HandS.IsInst
import HandS.Wide
import HandS.SortInts
import HandS.Zip
import HandS.Walk
import HandS.Evl
import HandS.More
import HandS.Conv
import HandS.ExcIs
import HandS.ExcField
import HandS.ExcInit
import HandS.Sort
import HandS.SetFor
import HandS.TupMul
import HandS.Strs
import HandS.Deep
import HandS.Defaults
import HandS.MakeKw
import HandS.Style
import PyProof.Rows.SortShellAny
import HandS.DeepEq
import HandS.TupSets
import KE.KDictDisplayH
import KE.KEqNest
import KE.KDictSum
import KE.KTupSum
import KE.KExcIs
import KE.KExcInit
import HandS.SortKw
import HandS.Head2
import HandS.HeadHook2
import HandS.HeadEnd
import HandS.FStr
import HandS.RaiseMore
import PySem.Challenge.RW_nightkeep_k90_whole_again_and_shared
set_option Elab.async false
set_option linter.all false
set_option maxRecDepth 100000
set_option maxHeartbeats 4000000
/-! ### rounds: plain mathematics -/
namespace Nk
def pre (rs : List Int) (j : Nat) : Int := (rs.take j).sum
def walkR : List Int → Int → Int → Int
  | [], _, found => found
  | r :: rs, left, found => if left < r then found else walkR rs (left - r) (found + 1)
def numOf (rs : List Int) (n : Int) : Int := walkR rs (n % rs.sum) (n / rs.sum * rs.length)
def firstOf (rs : List Int) (k : Int) : Int := k / rs.length * rs.sum + pre rs (k % rs.length).toNat
/-- lengths: at least one, each at least 1 -/
structure Rnds (rs : List Int) : Prop where
  ne : rs ≠ []
  pos : ∀ r ∈ rs, 1 ≤ r
theorem pre_zero (rs : List Int) : pre rs 0 = 0 := by simp [pre]
theorem pre_cons (r : Int) (rs : List Int) (j : Nat) : pre (r :: rs) (j + 1) = r + pre rs j := by simp [pre]
theorem pre_len (rs : List Int) : pre rs rs.length = rs.sum := by simp [pre]
theorem pre_step : ∀ {rs : List Int} {j : Nat} {r : Int}, rs[j]? = some r → pre rs (j + 1) = pre rs j + r
  | [], _, _, h => by simp at h
  | a :: rs, 0, r, h => by
    have e : a = r := by simpa using h
    subst e
    rw [pre_cons, pre_zero, pre_zero]; omega
  | a :: rs, j + 1, r, h => by
    have ih := pre_step (rs := rs) (j := j) (r := r) (by simpa using h)
    rw [pre_cons, pre_cons, ih]; omega
theorem pre_mono {rs : List Int} (hp : ∀ r ∈ rs, 1 ≤ r) : ∀ {i j : Nat}, i ≤ j → j ≤ rs.length → pre rs i + ((j : Int) - (i : Int)) ≤ pre rs j := by
  intro i j hij hj
  induction j with
  | zero =>
    have : i = 0 := by omega
    subst this; simp
  | succ j ih =>
    by_cases h : i = j + 1
    · subst h; simp
    · have h1 := ih (by omega) (by omega)
      have hlt : j < rs.length := by omega
      have e := pre_step (List.getElem?_eq_getElem hlt)
      have p := hp _ (List.getElem_mem hlt)
      rw [e]
      omega
theorem pre_nonneg {rs : List Int} (hp : ∀ r ∈ rs, 1 ≤ r) {j : Nat} (hj : j ≤ rs.length) : (j : Int) ≤ pre rs j := by
  have := pre_mono hp (Nat.zero_le j) hj
  rw [pre_zero] at this
  omega
theorem sum_ge {rs : List Int} (hp : ∀ r ∈ rs, 1 ≤ r) : (rs.length : Int) ≤ rs.sum := by
  have := pre_nonneg hp (Nat.le_refl rs.length)
  rw [pre_len] at this
  exact this
theorem Rnds.len {rs : List Int} (h : Rnds rs) : 0 < rs.length := List.length_pos_iff.mpr h.ne
theorem Rnds.sum {rs : List Int} (h : Rnds rs) : 0 < rs.sum := by
  have := sum_ge h.pos
  have := h.len
  omega
theorem walkR_spec : ∀ (rs : List Int) (left found : Int), 0 ≤ left → left < rs.sum → ∃ j : Nat, j < rs.length ∧ walkR rs left found = found + j ∧ pre rs j ≤ left ∧ left < pre rs (j + 1)
  | [], left, found, h0, h1 => by simp at h1; omega
  | r :: rs, left, found, h0, h1 => by
    unfold walkR
    by_cases c : left < r
    · refine ⟨0, by simp, by simp [c], ?_, ?_⟩
      · rw [pre_zero]; exact h0
      · rw [pre_cons, pre_zero]; omega
    · rw [if_neg c]
      obtain ⟨j, hj, e, h2, h3⟩ := walkR_spec rs (left - r) (found + 1) (by omega) (by rw [List.sum_cons] at h1; omega)
      refine ⟨j + 1, by simp; omega, ?_, ?_, ?_⟩
      · rw [e]; push_cast; omega
      · rw [pre_cons]; omega
      · rw [pre_cons]; omega
theorem pre_uniq {rs : List Int} (hp : ∀ r ∈ rs, 1 ≤ r) {i j : Nat} (hi : i < rs.length) (hj : j < rs.length) {x : Int} (h1 : pre rs i ≤ x) (h2 : x < pre rs (i + 1)) (h3 : pre rs j ≤ x) (h4 : x < pre rs (j + 1)) : i = j := by
  by_cases h : i < j
  · have := pre_mono hp (i := i + 1) (j := j) (by omega) (by omega)
    omega
  · by_cases h' : j < i
    · have := pre_mono hp (i := j + 1) (j := i) (by omega) (by omega)
      omega
    · omega
theorem emod_nat {k : Int} {n : Nat} (h : 0 < n) : ∃ j : Nat, j < n ∧ k % (n : Int) = (j : Int) ∧ (j : Int) + (n : Int) * (k / (n : Int)) = k := by
  have h0 := Int.emod_nonneg k (show (n : Int) ≠ 0 by omega)
  have h1 := Int.emod_lt_of_pos k (show (0 : Int) < n by omega)
  have h2 := Int.emod_add_mul_ediv k (n : Int)
  exact ⟨(k % n).toNat, by omega, by omega, by omega⟩
/-- a round, by its place in the turn -/
theorem firstOf_at {rs : List Int} (h : Rnds rs) (q : Int) {j : Nat} (hj : j ≤ rs.length) : firstOf rs (q * rs.length + j) = q * rs.sum + pre rs j := by
  have hl := h.len
  unfold firstOf
  by_cases e : j = rs.length
  · have h1 : (q * (rs.length : Int) + (j : Int)) / (rs.length : Int) = q + 1 ∧ (q * (rs.length : Int) + (j : Int)) % (rs.length : Int) = 0 := by
      rw [Int.ediv_emod_unique (by omega)]
      refine ⟨?_, by omega, by omega⟩
      rw [e, Int.mul_add, Int.mul_comm q]; omega
    rw [h1.1, h1.2, e, pre_len]
    show (q + 1) * rs.sum + pre rs (Int.toNat 0) = _
    rw [show Int.toNat 0 = 0 from rfl, pre_zero, Int.add_mul]
    omega
  · have h1 : (q * (rs.length : Int) + (j : Int)) / (rs.length : Int) = q ∧ (q * (rs.length : Int) + (j : Int)) % (rs.length : Int) = (j : Int) := by
      rw [Int.ediv_emod_unique (by omega)]
      refine ⟨?_, by omega, by omega⟩
      rw [Int.mul_comm q]; omega
    rw [h1.1, h1.2]
    simp
theorem firstOf_step {rs : List Int} (h : Rnds rs) (k : Int) {r : Int} (hr : rs[(k % rs.length).toNat]? = some r) : firstOf rs (k + 1) = firstOf rs k + r := by
  obtain ⟨j, hj, e, f⟩ := emod_nat (k := k) h.len
  rw [e] at hr
  have hr' : rs[j]? = some r := by simpa using hr
  have e1 : k = (k / rs.length) * rs.length + j := by rw [Int.mul_comm]; omega
  have a1 := firstOf_at h (k / rs.length) (Nat.le_of_lt hj)
  have a2 := firstOf_at h (k / rs.length) (Nat.succ_le_of_lt hj)
  rw [← e1] at a1
  have e2 : k / (rs.length : Int) * (rs.length : Int) + ((Nat.succ j : Nat) : Int) = k + 1 := by push_cast; omega
  rw [e2] at a2
  rw [a1, a2]
  show _ + pre rs (j + 1) = _
  rw [pre_step hr']
  omega
theorem get_round {rs : List Int} (h : Rnds rs) (k : Int) : ∃ r, rs[(k % rs.length).toNat]? = some r ∧ 1 ≤ r ∧ r ∈ rs := by
  obtain ⟨j, hj, e, f⟩ := emod_nat (k := k) h.len
  refine ⟨rs[j], ?_, h.pos _ (List.getElem_mem hj), List.getElem_mem hj⟩
  rw [e]
  simpa using List.getElem?_eq_getElem hj
theorem firstOf_lt {rs : List Int} (h : Rnds rs) (k : Int) : firstOf rs k + 1 ≤ firstOf rs (k + 1) := by
  obtain ⟨r, h1, h2, _⟩ := get_round h k
  rw [firstOf_step h k h1]
  omega
theorem firstOf_zero {rs : List Int} (h : Rnds rs) : firstOf rs 0 = 0 := by
  have := firstOf_at h 0 (Nat.zero_le rs.length)
  simp [pre_zero] at this
  exact this
/-- a night between a round's ends lies in it -/
theorem numOf_of {rs : List Int} (h : Rnds rs) {k m : Int} (h1 : firstOf rs k ≤ m) (h2 : m < firstOf rs (k + 1)) : numOf rs m = k := by
  obtain ⟨j, hj, e, f⟩ := emod_nat (k := k) h.len
  have e1 : k = (k / rs.length) * rs.length + j := by rw [Int.mul_comm]; omega
  have a1 := firstOf_at h (k / rs.length) (Nat.le_of_lt hj)
  have a2 := firstOf_at h (k / rs.length) (Nat.succ_le_of_lt hj)
  rw [← e1] at a1
  have e2 : k / (rs.length : Int) * (rs.length : Int) + ((Nat.succ j : Nat) : Int) = k + 1 := by push_cast; omega
  rw [e2] at a2
  rw [a1] at h1
  rw [a2] at h2
  have b0 := pre_nonneg h.pos (Nat.le_of_lt hj)
  have b1 := pre_mono h.pos (i := j + 1) (j := rs.length) (by omega) (Nat.le_refl _)
  rw [pre_len] at b1
  have h2' : m < k / (rs.length : Int) * rs.sum + pre rs (j + 1) := h2
  have h3 : m / rs.sum = k / rs.length ∧ m % rs.sum = m - (k / rs.length) * rs.sum := by
    rw [Int.ediv_emod_unique h.sum]
    refine ⟨by rw [Int.mul_comm rs.sum]; omega, by omega, by omega⟩
  unfold numOf
  rw [h3.1, h3.2]
  obtain ⟨i, hi, w, p1, p2⟩ := walkR_spec rs (m - k / ↑rs.length * rs.sum) (k / ↑rs.length * ↑rs.length) (by omega) (by omega)
  rw [w]
  have : i = j := pre_uniq h.pos hi hj p1 p2 (by omega) (by omega)
  subst this
  omega
/-- each night lies between the ends of its round -/
theorem numOf_spec {rs : List Int} (h : Rnds rs) (m : Int) : firstOf rs (numOf rs m) ≤ m ∧ m < firstOf rs (numOf rs m + 1) := by
  have hs := h.sum
  obtain ⟨i, hi, w, p1, p2⟩ := walkR_spec rs (m % rs.sum) (m / rs.sum * rs.length) (Int.emod_nonneg m (by omega)) (Int.emod_lt_of_pos m hs)
  have hm := Int.emod_add_mul_ediv m rs.sum
  have e : numOf rs m = m / rs.sum * rs.length + i := w
  have a1 := firstOf_at h (m / rs.sum) (Nat.le_of_lt hi)
  have a2 := firstOf_at h (m / rs.sum) (Nat.succ_le_of_lt hi)
  have e2 : m / rs.sum * (rs.length : Int) + ((Nat.succ i : Nat) : Int) = numOf rs m + 1 := by rw [e]; push_cast; omega
  rw [← e] at a1
  rw [e2] at a2
  rw [a1, a2]
  have c := Int.mul_comm rs.sum (m / rs.sum)
  refine ⟨by omega, ?_⟩
  show m < m / rs.sum * rs.sum + pre rs (i + 1)
  omega
theorem firstOf_mono {rs : List Int} (h : Rnds rs) (i : Int) : ∀ d : Nat, firstOf rs i + d ≤ firstOf rs (i + d)
  | 0 => by simp
  | d + 1 => by
    have h1 := firstOf_mono h i d
    have h2 := firstOf_lt h (i + d)
    push_cast
    rw [Int.add_assoc i d 1] at h2
    omega
theorem firstOf_le {rs : List Int} (h : Rnds rs) {i j : Int} (hij : i ≤ j) : firstOf rs i + (j - i) ≤ firstOf rs j := by
  have := firstOf_mono h i (j - i).toNat
  rw [show i + ((j - i).toNat : Int) = j by omega] at this
  omega
theorem firstOf_pos {rs : List Int} (h : Rnds rs) {k : Int} (hk : 0 ≤ k) : k ≤ firstOf rs k := by
  have := firstOf_le h hk
  rw [firstOf_zero h] at this
  omega
theorem numOf_nonneg {rs : List Int} (h : Rnds rs) {n : Int} (hn : 0 ≤ n) : 0 ≤ numOf rs n := by
  have h2 := (numOf_spec h n).2
  by_cases c : 0 ≤ numOf rs n
  · exact c
  · have := firstOf_le h (i := numOf rs n + 1) (j := 0) (by omega)
    rw [firstOf_zero h] at this
    omega
theorem numOf_le {rs : List Int} (h : Rnds rs) {n : Int} (hn : 0 ≤ n) : numOf rs n ≤ n := by
  have h1 := (numOf_spec h n).1
  have h2 := firstOf_pos h (numOf_nonneg h hn)
  omega
/-- later nights lie in no earlier rounds -/
theorem numOf_mono {rs : List Int} (h : Rnds rs) {m n : Int} (hmn : m ≤ n) : numOf rs m ≤ numOf rs n := by
  have h1 := (numOf_spec h m).1
  have h2 := (numOf_spec h n).2
  by_cases c : numOf rs m ≤ numOf rs n
  · exact c
  · have := firstOf_le h (i := numOf rs n + 1) (j := numOf rs m) (by omega)
    omega
/-- a whole turn later -/
theorem firstOf_turn {rs : List Int} (h : Rnds rs) (k : Int) : firstOf rs (k + rs.length) = firstOf rs k + rs.sum := by
  obtain ⟨j, hj, e, f⟩ := emod_nat (k := k) h.len
  have e1 : k = (k / rs.length) * rs.length + j := by rw [Int.mul_comm]; omega
  have a1 := firstOf_at h (k / rs.length) (Nat.le_of_lt hj)
  have a2 := firstOf_at h (k / rs.length + 1) (Nat.le_of_lt hj)
  rw [← e1] at a1
  have e2 : (k / rs.length + 1) * (rs.length : Int) + (j : Int) = k + rs.length := by rw [Int.add_mul]; omega
  rw [e2] at a2
  rw [a1, a2, Int.add_mul]
  omega
theorem numOf_turn {rs : List Int} (h : Rnds rs) (n : Int) : numOf rs (n + rs.sum) = numOf rs n + rs.length := by
  obtain ⟨h1, h2⟩ := numOf_spec h n
  have a1 := firstOf_turn h (numOf rs n)
  have a2 := firstOf_turn h (numOf rs n + 1)
  refine numOf_of h (by omega) ?_
  rw [show numOf rs n + (rs.length : Int) + 1 = numOf rs n + 1 + rs.length by omega]
  omega
theorem firstOf_ge {rs : List Int} (h : Rnds rs) : ∀ k : Nat, (k : Int) ≤ firstOf rs k
  | 0 => by rw [show ((0 : Nat) : Int) = 0 from rfl, firstOf_zero h]; omega
  | k + 1 => by
    have h1 := firstOf_ge h k
    have h2 := firstOf_lt h k
    push_cast
    omega
end Nk
/-! ### what rules keep: plain mathematics -/
namespace Nk
/-- going back through nights: those whose round is another one than that of the night gone through just before -/
def endsR (rs : List Int) : Option Int → List Int → List Int
  | _, [] => []
  | ah, n :: l => if ah = some (numOf rs n) then endsR rs (some (numOf rs n)) l else n :: endsR rs (some (numOf rs n)) l
def lastN (rs : List Int) (ah : Option Int) (l : List Int) : Option Int := match l.getLast? with
  | some n => some (numOf rs n)
  | none => ah
theorem lastN_cons (rs : List Int) (ah : Option Int) (n : Int) (l : List Int) : lastN rs ah (n :: l) = lastN rs (some (numOf rs n)) l := by
  unfold lastN
  cases l with
  | nil => rfl
  | cons m r => rw [List.getLast?_cons_cons]; cases h : (m :: r).getLast? <;> simp_all
theorem endsR_snoc (rs : List Int) : ∀ (l : List Int) (ah : Option Int) (n : Int), endsR rs ah (l ++ [n]) = endsR rs ah l ++ (if lastN rs ah l = some (numOf rs n) then [] else [n])
  | [], ah, n => by
    by_cases h : ah = some (numOf rs n) <;> simp [endsR, lastN, h]
  | m :: l, ah, n => by
    rw [lastN_cons]
    simp only [List.cons_append, endsR]
    rw [endsR_snoc rs l]
    split <;> simp
theorem lastN_snoc (rs : List Int) (ah : Option Int) (l : List Int) (n : Int) : lastN rs ah (l ++ [n]) = some (numOf rs n) := by
  simp [lastN]
/-- the last nights of the rounds, rising -/
def endsF (rs : List Int) : List Int → List Int
  | [] => []
  | [n] => [n]
  | n :: m :: l => if numOf rs n = numOf rs m then endsF rs (m :: l) else n :: endsF rs (m :: l)
theorem endsF_eq (rs : List Int) : ∀ ns : List Int, endsF rs ns = (endsR rs none ns.reverse).reverse
  | [] => rfl
  | [n] => by simp [endsF, endsR]
  | n :: m :: l => by
    rw [List.reverse_cons, endsR_snoc]
    have h : lastN rs none (m :: l).reverse = some (numOf rs m) := by simp [lastN]
    rw [h, List.reverse_append, ← endsF_eq rs (m :: l)]
    simp only [endsF, Option.some.injEq]
    by_cases e : numOf rs n = numOf rs m
    · rw [if_pos e, if_pos e.symm]; rfl
    · rw [if_neg e, if_neg (fun z => e z.symm)]; rfl
/-- what one rule keeps, the last one first -/
def keptBy (ru : List Int × Int) (ns : List Int) : List Int := (endsR ru.1 none ns.reverse).take ru.2.toNat
/-- .. rising -/
def keptUp (ru : List Int × Int) (ns : List Int) : List Int := (endsF ru.1 ns).drop ((endsF ru.1 ns).length - ru.2.toNat)
theorem keptUp_eq (ru : List Int × Int) (ns : List Int) : keptUp ru ns = (keptBy ru ns).reverse := by
  unfold keptUp keptBy
  rw [endsF_eq, List.length_reverse, List.reverse_take]
theorem endsR_sub (rs : List Int) : ∀ (l : List Int) (ah : Option Int), ∀ n ∈ endsR rs ah l, n ∈ l
  | [], _, n, h => by simp [endsR] at h
  | m :: l, ah, n, h => by
    simp only [endsR] at h
    split at h
    · exact List.mem_cons_of_mem _ (endsR_sub rs l _ n h)
    · rcases List.mem_cons.mp h with e | h
      · rw [e]; exact List.mem_cons_self
      · exact List.mem_cons_of_mem _ (endsR_sub rs l _ n h)
theorem keptBy_sub {ru : List Int × Int} {ns : List Int} {n : Int} (h : n ∈ keptBy ru ns) : n ∈ ns := by
  have := endsR_sub ru.1 _ _ n (List.mem_of_mem_take h)
  simpa using this
theorem mem_keptUp {ru : List Int × Int} {ns : List Int} {n : Int} : n ∈ keptUp ru ns ↔ n ∈ keptBy ru ns := by
  rw [keptUp_eq, List.mem_reverse]
/-- what rules keep, rising -/
def keptF (rules : List (List Int × Int)) (ns : List Int) : List Int := ns.filter fun n => rules.any fun ru => decide (n ∈ keptBy ru ns)
theorem mem_keptF {rules : List (List Int × Int)} {ns : List Int} {n : Int} : n ∈ keptF rules ns ↔ ∃ ru ∈ rules, n ∈ keptBy ru ns := by
  unfold keptF
  rw [List.mem_filter, List.any_eq_true]
  constructor
  · rintro ⟨_, ru, h1, h2⟩
    exact ⟨ru, h1, of_decide_eq_true h2⟩
  · rintro ⟨ru, h1, h2⟩
    exact ⟨keptBy_sub h2, ru, h1, decide_eq_true h2⟩
theorem keptF_rise {rules : List (List Int × Int)} {ns : List Int} (h : ns.Pairwise (· < ·)) : (keptF rules ns).Pairwise (· < ·) := h.filter _
/-- two rising lists with the same members are one -/
theorem rise_ext : ∀ {l m : List Int}, l.Pairwise (· < ·) → m.Pairwise (· < ·) → (∀ x, x ∈ l ↔ x ∈ m) → l = m
  | [], [], _, _, _ => rfl
  | [], y :: m, _, _, h => absurd ((h y).mpr List.mem_cons_self) (by simp)
  | x :: l, [], _, _, h => absurd ((h x).mp List.mem_cons_self) (by simp)
  | x :: l, y :: m, hl, hm, h => by
    obtain ⟨hx, hl'⟩ := List.pairwise_cons.mp hl
    obtain ⟨hy, hm'⟩ := List.pairwise_cons.mp hm
    have e : x = y := by
      rcases List.mem_cons.mp ((h x).mp List.mem_cons_self) with e | h1
      · exact e
      · rcases List.mem_cons.mp ((h y).mpr List.mem_cons_self) with e | h2
        · exact e.symm
        · have a := hx y h2
          have b := hy x h1
          omega
    subst e
    have : l = m := rise_ext hl' hm' fun z => by
      constructor
      · intro hz
        have hxz := hx z hz
        rcases List.mem_cons.mp ((h z).mp (List.mem_cons_of_mem _ hz)) with e | h1
        · omega
        · exact h1
      · intro hz
        have hxz := hy z hz
        rcases List.mem_cons.mp ((h z).mpr (List.mem_cons_of_mem _ hz)) with e | h1
        · omega
        · exact h1
    rw [this]
theorem rise_of_le {l : List Int} (h : l.Pairwise (· ≤ ·)) (nd : l.Nodup) : l.Pairwise (· < ·) := by
  have := h.and nd
  exact this.imp fun {a b} ⟨h1, h2⟩ => by omega
theorem take_prefix {α : Type} {l : List α} {p : List α} {k : Nat} (h : ∃ t, l = p ++ t) (hp : p.length = k) : p = l.take k := by
  obtain ⟨t, rfl⟩ := h
  subst hp
  simp
theorem endsR_pre (rs : List Int) (ah : Option Int) : ∀ (t l : List Int), ∃ u, endsR rs ah (l ++ t) = endsR rs ah l ++ u
  | [], l => ⟨[], by simp⟩
  | x :: t, l => by
    obtain ⟨u, hu⟩ := endsR_pre rs ah t (l ++ [x])
    rw [List.append_assoc, List.singleton_append] at hu
    rw [hu, endsR_snoc, List.append_assoc]
    exact ⟨_, rfl⟩
end Nk
/-! ### what is left by the way: plain mathematics -/
namespace Nk
theorem endsR_filter (rs : List Int) (p : Int → Bool) : ∀ (l : List Int) (ah : Option Int) (m : Nat), (∀ x ∈ (endsR rs ah l).take m, p x = true) → (endsR rs ah (l.filter p)).take m = (endsR rs ah l).take m
  | [], _, _, _ => rfl
  | x :: l, ah, m, h => by
    by_cases c : ah = some (numOf rs x)
    · have e : endsR rs ah (x :: l) = endsR rs ah l := by simp only [endsR]; rw [if_pos c, c]
      rw [e] at h ⊢
      rw [← endsR_filter rs p l ah m h]
      by_cases px : p x = true
      · rw [List.filter_cons_of_pos px]
        have e2 : endsR rs ah (x :: l.filter p) = endsR rs ah (l.filter p) := by simp only [endsR]; rw [if_pos c, c]
        rw [e2]
      · rw [List.filter_cons_of_neg px]
    · have e : endsR rs ah (x :: l) = x :: endsR rs (some (numOf rs x)) l := by simp only [endsR]; rw [if_neg c]
      rw [e] at h ⊢
      cases m with
      | zero => simp
      | succ m =>
        rw [List.take_succ_cons] at h ⊢
        have px := h x List.mem_cons_self
        rw [List.filter_cons_of_pos px]
        have e2 : endsR rs ah (x :: l.filter p) = x :: endsR rs (some (numOf rs x)) (l.filter p) := by simp only [endsR]; rw [if_neg c]
        rw [e2, List.take_succ_cons, endsR_filter rs p l _ m fun y hy => h y (List.mem_cons_of_mem _ hy)]
theorem keptBy_filter {ru : List Int × Int} {ns : List Int} {p : Int → Bool} (h : ∀ x ∈ keptBy ru ns, p x = true) : keptBy ru (ns.filter p) = keptBy ru ns := by
  unfold keptBy at h ⊢
  rw [← List.filter_reverse]
  exact endsR_filter _ p _ _ _ h
/-- a night more, and what is kept so far -/
theorem endsR_some (rs : List Int) (a : Int) : ∀ l : List Int, endsR rs (some a) l = match l with
    | [] => []
    | x :: _ => if a = numOf rs x then (endsR rs none l).tail else endsR rs none l
  | [] => rfl
  | x :: l => by
    simp only [endsR, Option.some.injEq, reduceCtorEq, if_false, List.tail_cons]
theorem endsR_head (rs : List Int) : ∀ l : List Int, (endsR rs none l).head? = l.head?
  | [] => rfl
  | x :: l => by simp [endsR]
def addTo (rs : List Int) (m : Nat) (n : Int) (k : List Int) : List Int := (n :: (match k with
  | [] => []
  | x :: t => if numOf rs n = numOf rs x then t else x :: t)).take m
theorem keptBy_snoc {ru : List Int × Int} (h : 1 ≤ ru.2) (ns : List Int) (n : Int) : keptBy ru (ns ++ [n]) = addTo ru.1 ru.2.toNat n (keptBy ru ns) := by
  unfold keptBy addTo
  rw [List.reverse_append, List.reverse_singleton, List.singleton_append]
  have e : endsR ru.1 none (n :: ns.reverse) = n :: endsR ru.1 (some (numOf ru.1 n)) ns.reverse := by simp [endsR]
  rw [e]
  obtain ⟨m, hm⟩ : ∃ m, ru.2.toNat = m + 1 := ⟨ru.2.toNat - 1, by omega⟩
  rw [hm, List.take_succ_cons, List.take_succ_cons]
  congr 1
  rw [endsR_some]
  cases hr : ns.reverse with
  | nil => simp [endsR]
  | cons x l =>
    simp only [endsR, reduceCtorEq, if_false, List.take_succ_cons]
    split
    · rw [List.tail_cons, List.take_take, Nat.min_self]
    · cases m with
      | zero => simp
      | succ m => simp [List.take_take]
/-- the last night is kept -/
theorem keptBy_last {ru : List Int × Int} (h : 1 ≤ ru.2) (ns : List Int) (n : Int) : ∃ t, keptBy ru (ns ++ [n]) = n :: t ∧ (t.length : Int) ≤ ru.2 - 1 := by
  rw [keptBy_snoc h]
  unfold addTo
  obtain ⟨m, hm⟩ : ∃ m, ru.2.toNat = m + 1 := ⟨ru.2.toNat - 1, by omega⟩
  rw [hm, List.take_succ_cons]
  refine ⟨_, rfl, ?_⟩
  rw [List.length_take]
  omega
theorem keptF_sub {rus : List (List Int × Int)} {ns : List Int} : ∀ n ∈ keptF rus ns, n ∈ ns := fun n h => (List.mem_filter.mp h).1
theorem keptF_congr {rus : List (List Int × Int)} {ns ms : List Int} (hn : ns.Pairwise (· < ·)) (hm : ms.Pairwise (· < ·)) (h : ∀ ru ∈ rus, keptBy ru ns = keptBy ru ms) : keptF rus ns = keptF rus ms :=
  rise_ext (keptF_rise hn) (keptF_rise hm) fun x => by
    rw [mem_keptF, mem_keptF]
    constructor
    · rintro ⟨ru, h1, h2⟩
      exact ⟨ru, h1, by rw [← h ru h1]; exact h2⟩
    · rintro ⟨ru, h1, h2⟩
      exact ⟨ru, h1, by rw [h ru h1]; exact h2⟩
theorem keptF_keptF {rus : List (List Int × Int)} {ns : List Int} (hn : ns.Pairwise (· < ·)) : keptF rus (keptF rus ns) = keptF rus ns := by
  refine keptF_congr (keptF_rise hn) hn fun ru hru => ?_
  unfold keptF
  refine keptBy_filter fun x hx => ?_
  rw [List.any_eq_true]
  exact ⟨ru, hru, decide_eq_true hx⟩
theorem keptF_last {rus : List (List Int × Int)} (h : ∀ ru ∈ rus, 1 ≤ ru.2) (hne : rus ≠ []) (ns : List Int) (n : Int) : ∃ t, keptF rus (ns ++ [n]) = t ++ [n] := by
  refine ⟨(ns.filter fun x => rus.any fun ru => decide (x ∈ keptBy ru (ns ++ [n]))), ?_⟩
  obtain ⟨ru, hru⟩ := List.exists_mem_of_ne_nil rus hne
  have hp : (rus.any fun ru => decide (n ∈ keptBy ru (ns ++ [n]))) = true := by
    rw [List.any_eq_true]
    refine ⟨ru, hru, decide_eq_true ?_⟩
    obtain ⟨t, e, _⟩ := keptBy_last (h ru hru) ns n
    rw [e]
    exact List.mem_cons_self
  unfold keptF
  rw [List.filter_append]
  congr 1
  exact List.filter_eq_self.mpr fun x hx => by rw [List.mem_singleton.mp hx]; exact hp
theorem drop_last (l : List Int) (n : Int) : (l ++ [n]).drop ((l ++ [n]).length - 1) = [n] := by simp
theorem keptF_end {rus : List (List Int × Int)} (h : ∀ ru ∈ rus, 1 ≤ ru.2) (hne : rus ≠ []) (ns : List Int) : (keptF rus ns).drop ((keptF rus ns).length - 1) = ns.drop (ns.length - 1) := by
  rcases List.eq_nil_or_concat ns with rfl | ⟨l, n, rfl⟩
  · rfl
  · rw [List.concat_eq_append]
    obtain ⟨t, e⟩ := keptF_last h hne l n
    rw [e, drop_last, drop_last]
theorem nodup_len : ∀ (l m : List Int), l.Nodup → (∀ x ∈ l, x ∈ m) → l.length ≤ m.length
  | [], _, _, _ => Nat.zero_le _
  | x :: l, m, hn, hs => by
    obtain ⟨h1, h2⟩ := List.nodup_cons.mp hn
    have hx := hs x List.mem_cons_self
    have h3 := nodup_len l (m.erase x) h2 fun y hy => by
      rw [List.mem_erase_of_ne (fun e => h1 (by rw [← e]; exact hy))]
      exact hs y (List.mem_cons_of_mem _ hy)
    rw [List.length_erase_of_mem hx] at h3
    have := List.length_pos_of_mem hx
    simp only [List.length_cons]
    omega
theorem rise_nodup {l : List Int} (h : l.Pairwise (· < ·)) : l.Nodup := h.imp fun {a b} h e => by omega
/-- no more are kept than all rules tell -/
theorem keptF_count {rus : List (List Int × Int)} (h : ∀ ru ∈ rus, 1 ≤ ru.2) {ns : List Int} (hn : ns.Pairwise (· < ·)) (hne : ns ≠ []) : ((keptF rus ns).length : Int) ≤ (rus.map (·.2)).sum - ((rus.length : Int) - 1) := by
  rcases List.eq_nil_or_concat ns with rfl | ⟨l, n, rfl⟩
  · exact absurd rfl hne
  · rw [List.concat_eq_append] at *
    have h1 := nodup_len (keptF rus (l ++ [n])) (n :: rus.flatMap fun ru => (keptBy ru (l ++ [n])).tail) (rise_nodup (keptF_rise hn)) fun x hx => by
      obtain ⟨ru, h1, h2⟩ := mem_keptF.mp hx
      obtain ⟨t, e, _⟩ := keptBy_last (h ru h1) l n
      rw [e] at h2
      rcases List.mem_cons.mp h2 with rfl | h2
      · exact List.mem_cons_self
      · refine List.mem_cons_of_mem _ (List.mem_flatMap.mpr ⟨ru, h1, ?_⟩)
        rw [e]
        exact h2
    have h2 : ∀ rs : List (List Int × Int), (∀ ru ∈ rs, 1 ≤ ru.2) → ((rs.flatMap fun ru => (keptBy ru (l ++ [n])).tail).length : Int) ≤ (rs.map (·.2)).sum - (rs.length : Int) := by
      intro rs
      induction rs with
      | nil => intro _; simp
      | cons ru rs ih =>
        intro hr
        have a := ih fun r hr' => hr r (List.mem_cons_of_mem _ hr')
        obtain ⟨t, e, b⟩ := keptBy_last (hr ru List.mem_cons_self) l n
        rw [List.flatMap_cons, List.length_append, e, List.tail_cons, List.map_cons, List.sum_cons, List.length_cons]
        push_cast
        omega
    have h3 := h2 rus h
    simp only [List.length_cons] at h1
    omega
/-- moved by whole turns -/
theorem numOf_turns {rs : List Int} (h : Rnds rs) (n : Int) : ∀ k : Nat, numOf rs (n + k * rs.sum) = numOf rs n + k * rs.length
  | 0 => by simp
  | k + 1 => by
    have ih := numOf_turns h n k
    have e : n + ((k + 1 : Nat) : Int) * rs.sum = n + k * rs.sum + rs.sum := by push_cast; rw [Int.add_mul]; omega
    rw [e, numOf_turn h, ih]
    push_cast
    rw [Int.add_mul]
    omega
theorem endsR_move {rs : List Int} {d e : Int} (h : ∀ n, numOf rs (n + d) = numOf rs n + e) : ∀ (l : List Int) (ah : Option Int), endsR rs (ah.map (· + e)) (l.map (· + d)) = (endsR rs ah l).map (· + d)
  | [], _ => rfl
  | x :: l, ah => by
    have ih := endsR_move h l (some (numOf rs x))
    rw [Option.map_some] at ih
    simp only [List.map_cons, endsR, h]
    have c : (ah.map (· + e) = some (numOf rs x + e)) ↔ ah = some (numOf rs x) := by
      cases ah with
      | none => simp
      | some a => simp
    by_cases c' : ah = some (numOf rs x)
    · rw [if_pos (c.mpr c'), if_pos c', ih]
    · rw [if_neg (fun z => c' (c.mp z)), if_neg c', List.map_cons, ih]
theorem keptBy_move {ru : List Int × Int} (hr : Rnds ru.1) {far : Int} (h0 : 0 ≤ far) (hd : ru.1.sum ∣ far) (ns : List Int) : keptBy ru (ns.map (· + far)) = (keptBy ru ns).map (· + far) := by
  obtain ⟨k, rfl⟩ := hd
  have hk : 0 ≤ k := by
    by_cases c : 0 ≤ k
    · exact c
    · have := Int.mul_neg_of_pos_of_neg hr.sum (show k < 0 by omega)
      omega
  have hm : ∀ n, numOf ru.1 (n + ru.1.sum * k) = numOf ru.1 n + k * ru.1.length := fun n => by
    have := numOf_turns hr n k.toNat
    rw [show (k.toNat : Int) = k by omega] at this
    rw [Int.mul_comm ru.1.sum]
    exact this
  unfold keptBy
  have := endsR_move hm ns.reverse none
  rw [Option.map_none] at this
  rw [← List.map_reverse, this, List.map_take]
theorem mem_map_add {l : List Int} {d x : Int} : x + d ∈ l.map (· + d) ↔ x ∈ l := by
  rw [List.mem_map]
  constructor
  · rintro ⟨y, hy, e⟩
    have : y = x := by omega
    rw [← this]; exact hy
  · intro h
    exact ⟨x, h, rfl⟩
theorem keptF_move {rus : List (List Int × Int)} (hr : ∀ ru ∈ rus, Rnds ru.1) {far : Int} (h0 : 0 ≤ far) (hd : ∀ ru ∈ rus, ru.1.sum ∣ far) (ns : List Int) : keptF rus (ns.map (· + far)) = (keptF rus ns).map (· + far) := by
  unfold keptF
  rw [List.filter_map]
  congr 1
  apply List.filter_congr
  intro x _
  simp only [Function.comp]
  rw [Bool.eq_iff_iff, List.any_eq_true, List.any_eq_true]
  constructor
  · rintro ⟨ru, h1, h2⟩
    refine ⟨ru, h1, ?_⟩
    rw [decide_eq_true_eq, keptBy_move (hr ru h1) h0 (hd ru h1), mem_map_add] at h2
    exact decide_eq_true h2
  · rintro ⟨ru, h1, h2⟩
    refine ⟨ru, h1, ?_⟩
    rw [decide_eq_true_eq, keptBy_move (hr ru h1) h0 (hd ru h1), mem_map_add]
    exact of_decide_eq_true h2
/-- by the way: what is left keeps the same -/
structure Way (rus : List (List Int × Int)) (all left : List Int) : Prop where
  sub : left.Sublist all
  kep : ∀ ru ∈ rus, keptBy ru left = keptBy ru all
theorem Way.snoc {rus : List (List Int × Int)} (h : ∀ ru ∈ rus, 1 ≤ ru.2) {all left : List Int} (w : Way rus all left) (n : Int) : Way rus (all ++ [n]) (left ++ [n]) :=
  ⟨w.sub.append (List.Sublist.refl _), fun ru hru => by rw [keptBy_snoc (h ru hru), keptBy_snoc (h ru hru), w.kep ru hru]⟩
theorem Way.cut {rus : List (List Int × Int)} {all left : List Int} (w : Way rus all left) {p : Int → Bool} (h : ∀ x ∈ keptF rus left, p x = true) : Way rus all (left.filter p) :=
  ⟨(List.filter_sublist (l := left)).trans w.sub, fun ru hru => by rw [keptBy_filter fun x hx => h x (mem_keptF.mpr ⟨ru, hru, hx⟩), w.kep ru hru]⟩
theorem Way.same {rus : List (List Int × Int)} {all left : List Int} (w : Way rus all left) (ha : all.Pairwise (· < ·)) : keptF rus left = keptF rus all := keptF_congr (ha.sublist w.sub) ha w.kep
def prodS (rus : List (List Int × Int)) : Int := rus.foldl (fun f ru => f * ru.1.sum) 1
theorem prodS_dvd : ∀ (rus : List (List Int × Int)) (a : Int), a ∣ rus.foldl (fun f ru => f * ru.1.sum) a ∧ ∀ ru ∈ rus, ru.1.sum ∣ rus.foldl (fun f ru => f * ru.1.sum) a
  | [], a => ⟨Int.dvd_refl _, fun ru h => by simp at h⟩
  | r :: rus, a => by
    obtain ⟨h1, h2⟩ := prodS_dvd rus (a * r.1.sum)
    simp only [List.foldl_cons]
    refine ⟨Int.dvd_trans (Int.dvd_mul_right _ _) h1, fun ru hru => ?_⟩
    rcases List.mem_cons.mp hru with rfl | hru
    · exact Int.dvd_trans (Int.dvd_mul_left _ _) h1
    · exact h2 ru hru
theorem prodS_pos {rus : List (List Int × Int)} (h : ∀ ru ∈ rus, 0 < ru.1.sum) : ∀ a : Int, 0 < a → 0 < rus.foldl (fun f ru => f * ru.1.sum) a := by
  induction rus with
  | nil => intro a ha; exact ha
  | cons r rus ih =>
    intro a ha
    exact ih (fun ru hru => h ru (List.mem_cons_of_mem _ hru)) _ (Int.mul_pos ha (h r List.mem_cons_self))
end Nk
/-! ### each night has a copy: plain mathematics -/
namespace Nk
theorem endsF_sublist (rs : List Int) : ∀ ns : List Int, (endsF rs ns).Sublist ns
  | [] => .slnil
  | [n] => List.Sublist.refl _
  | n :: m :: l => by
    have ih := endsF_sublist rs (m :: l)
    simp only [endsF]
    split
    · exact ih.cons n
    · exact ih.cons₂ n
theorem endsF_rise {rs ns : List Int} (h : ns.Pairwise (· < ·)) : (endsF rs ns).Pairwise (· < ·) := h.sublist (endsF_sublist rs ns)
/-- the last of its round -/
theorem mem_endsF {rs : List Int} (h : Rnds rs) : ∀ ns : List Int, ns.Pairwise (· < ·) → ∀ m, m ∈ endsF rs ns ↔ m ∈ ns ∧ ∀ m' ∈ ns, m < m' → numOf rs m < numOf rs m'
  | [], _, m => by simp [endsF]
  | [n], _, m => by
    simp only [endsF, List.mem_singleton]
    constructor
    · rintro rfl
      exact ⟨rfl, fun m' e h => by omega⟩
    · exact fun z => z.1
  | n :: k :: l, hp, m => by
    obtain ⟨hn, hp'⟩ := List.pairwise_cons.mp hp
    have ih := mem_endsF h (k :: l) hp' m
    have hk : n < k := hn k List.mem_cons_self
    have hmono : ∀ x ∈ k :: l, numOf rs k ≤ numOf rs x := fun x hx => by
      rcases List.mem_cons.mp hx with rfl | hx
      · omega
      · have := (List.pairwise_cons.mp hp').1 x hx
        exact numOf_mono h (by omega)
    have hnk := numOf_mono h (show n ≤ k by omega)
    simp only [endsF]
    split
    · rename_i e
      rw [ih]
      constructor
      · rintro ⟨h1, h2⟩
        refine ⟨List.mem_cons_of_mem _ h1, fun m' hm' hlt => ?_⟩
        rcases List.mem_cons.mp hm' with rfl | hm'
        · have := hn m h1
          omega
        · exact h2 m' hm' hlt
      · rintro ⟨h1, h2⟩
        rcases List.mem_cons.mp h1 with rfl | h1
        · have := h2 k (by simp) hk
          omega
        · exact ⟨h1, fun m' hm' => h2 m' (List.mem_cons_of_mem _ hm')⟩
    · rename_i e
      rw [List.mem_cons, ih]
      constructor
      · rintro (rfl | ⟨h1, h2⟩)
        · refine ⟨List.mem_cons_self, fun m' hm' hlt => ?_⟩
          rcases List.mem_cons.mp hm' with rfl | hm'
          · omega
          · have := hmono m' hm'
            omega
        · refine ⟨List.mem_cons_of_mem _ h1, fun m' hm' hlt => ?_⟩
          rcases List.mem_cons.mp hm' with rfl | hm'
          · have := hn m h1
            omega
          · exact h2 m' hm' hlt
      · rintro ⟨h1, h2⟩
        rcases List.mem_cons.mp h1 with rfl | h1
        · exact .inl rfl
        · exact .inr ⟨h1, fun m' hm' => h2 m' (List.mem_cons_of_mem _ hm')⟩
/-- the nights from 0 to n -/
def upTo (n : Int) : List Int := (List.range (n + 1).toNat).map fun i : Nat => (i : Int)
theorem mem_upTo {n m : Int} : m ∈ upTo n ↔ 0 ≤ m ∧ m ≤ n := by
  unfold upTo
  rw [List.mem_map]
  constructor
  · rintro ⟨i, hi, rfl⟩
    have := List.mem_range.mp hi
    omega
  · intro h
    exact ⟨m.toNat, List.mem_range.mpr (by omega), by omega⟩
theorem rise_range_map (f : Nat → Int) (hf : ∀ i j, i < j → f i < f j) (n : Nat) : ((List.range n).map f).Pairwise (· < ·) := by
  rw [List.pairwise_map]
  exact (List.pairwise_lt_range (n := n)).imp fun {a b} h => hf a b h
theorem upTo_rise (n : Int) : (upTo n).Pairwise (· < ·) := rise_range_map (fun i : Nat => (i : Int)) (fun i j h => by omega) _
theorem upTo_len (n : Int) : (upTo n).length = (n + 1).toNat := by simp [upTo]
/-- the last nights of all rounds up to that of n, and n -/
def expl (rs : List Int) (n : Int) : List Int := ((List.range (numOf rs n).toNat).map fun k : Nat => firstOf rs ((k : Int) + 1) - 1) ++ [n]
theorem expl_rise {rs : List Int} (h : Rnds rs) {n : Int} (hn : 0 ≤ n) : (expl rs n).Pairwise (· < ·) := by
  have hN := numOf_nonneg h hn
  refine List.pairwise_append.mpr ⟨rise_range_map _ (fun i j hij => ?_) _, List.pairwise_singleton _ _, fun x hx y hy => ?_⟩
  · have := firstOf_le h (i := (i : Int) + 1) (j := (j : Int) + 1) (by omega)
    omega
  · rw [List.mem_singleton.mp hy]
    obtain ⟨k, hk, rfl⟩ := List.mem_map.mp hx
    have hk := List.mem_range.mp hk
    have := firstOf_le h (i := (k : Int) + 1) (j := numOf rs n) (by omega)
    have := (numOf_spec h n).1
    omega
theorem endsF_upTo {rs : List Int} (h : Rnds rs) {n : Int} (hn : 0 ≤ n) : endsF rs (upTo n) = expl rs n := by
  have hN := numOf_nonneg h hn
  obtain ⟨hf1, hf2⟩ := numOf_spec h n
  refine rise_ext (endsF_rise (upTo_rise n)) (expl_rise h hn) fun m => ?_
  rw [mem_endsF h _ (upTo_rise n)]
  unfold expl
  rw [List.mem_append, List.mem_singleton, List.mem_map]
  constructor
  · rintro ⟨h1, h2⟩
    obtain ⟨m0, m1⟩ := mem_upTo.mp h1
    by_cases c : m = n
    · exact .inr c
    · left
      have h3 := h2 (m + 1) (mem_upTo.mpr ⟨by omega, by omega⟩) (by omega)
      obtain ⟨g1, g2⟩ := numOf_spec h m
      have hm0 := numOf_nonneg h m0
      have h4 : firstOf rs (numOf rs m + 1) = m + 1 := by
        by_cases c2 : m + 1 < firstOf rs (numOf rs m + 1)
        · have := numOf_of h (k := numOf rs m) (m := m + 1) (by omega) c2
          omega
        · omega
      have h5 := numOf_mono h (show m + 1 ≤ n by omega)
      refine ⟨(numOf rs m).toNat, List.mem_range.mpr (by omega), ?_⟩
      rw [show ((numOf rs m).toNat : Int) = numOf rs m by omega, h4]
      omega
  · rintro (⟨k, hk, rfl⟩ | rfl)
    · have hk := List.mem_range.mp hk
      have a1 := firstOf_pos h (show 0 ≤ (k : Int) + 1 by omega)
      have a2 := firstOf_le h (i := (k : Int) + 1) (j := numOf rs n) (by omega)
      have a3 := firstOf_lt h (k : Int)
      have b1 : numOf rs (firstOf rs ((k : Int) + 1) - 1) = k := numOf_of h (by omega) (by omega)
      have b2 : numOf rs (firstOf rs ((k : Int) + 1)) = (k : Int) + 1 := numOf_of h (by omega) (by have := firstOf_lt h ((k : Int) + 1); omega)
      refine ⟨mem_upTo.mpr ⟨by omega, by omega⟩, fun m' _ hlt => ?_⟩
      have := numOf_mono h (show firstOf rs ((k : Int) + 1) ≤ m' by omega)
      omega
    · refine ⟨mem_upTo.mpr ⟨hn, by omega⟩, fun m' hm' hlt => ?_⟩
      have := mem_upTo.mp hm'
      omega
theorem mem_drop_range {n d k : Nat} : k ∈ (List.range n).drop d ↔ d ≤ k ∧ k < n := by
  rw [List.mem_iff_getElem?]
  constructor
  · rintro ⟨i, hi⟩
    rw [List.getElem?_drop] at hi
    obtain ⟨h1, h2⟩ := List.getElem?_eq_some_iff.mp hi
    simp at h1 h2
    omega
  · rintro ⟨h1, h2⟩
    refine ⟨k - d, ?_⟩
    rw [List.getElem?_drop, show d + (k - d) = k by omega]
    simp [h2]
/-- what stands at night n, if each night has a copy, by one rule -/
def standBy (ru : List Int × Int) (n m : Int) : Prop := m = n ∨ ∃ k : Int, 0 ≤ k ∧ numOf ru.1 n - ru.2 + 1 ≤ k ∧ k < numOf ru.1 n ∧ m = firstOf ru.1 (k + 1) - 1
theorem mem_keptUp_upTo {ru : List Int × Int} (h : Rnds ru.1) (hm : 1 ≤ ru.2) {n : Int} (hn : 0 ≤ n) (m : Int) : m ∈ keptUp ru (upTo n) ↔ standBy ru n m := by
  have hN := numOf_nonneg h hn
  unfold keptUp standBy
  rw [endsF_upTo h hn]
  have hlen : (expl ru.1 n).length = (numOf ru.1 n).toNat + 1 := by simp [expl]
  rw [hlen]
  unfold expl
  rw [List.drop_append_of_le_length (by simp; omega), List.mem_append, List.mem_singleton, ← List.map_drop, List.mem_map]
  constructor
  · rintro (⟨k, hk, rfl⟩ | rfl)
    · obtain ⟨k1, k2⟩ := mem_drop_range.mp hk
      exact .inr ⟨k, by omega, by omega, by omega, rfl⟩
    · exact .inl rfl
  · rintro (rfl | ⟨k, k0, k1, k2, rfl⟩)
    · exact .inr rfl
    · refine .inl ⟨k.toNat, mem_drop_range.mpr ⟨by omega, by omega⟩, ?_⟩
      rw [show (k.toNat : Int) = k by omega]
def standS (rus : List (List Int × Int)) (n m : Int) : Prop := m = n ∨ ∃ ru ∈ rus, ∃ k : Int, 0 ≤ k ∧ numOf ru.1 n - ru.2 + 1 ≤ k ∧ k < numOf ru.1 n ∧ m = firstOf ru.1 (k + 1) - 1
theorem mem_keptF_upTo {rus : List (List Int × Int)} (h : ∀ ru ∈ rus, Rnds ru.1 ∧ 1 ≤ ru.2) (hne : rus ≠ []) {n : Int} (hn : 0 ≤ n) (m : Int) : m ∈ keptF rus (upTo n) ↔ standS rus n m := by
  rw [mem_keptF]
  unfold standS
  constructor
  · rintro ⟨ru, h1, h2⟩
    rcases (mem_keptUp_upTo (h ru h1).1 (h ru h1).2 hn m).mp (mem_keptUp.mpr h2) with h3 | h3
    · exact .inl h3
    · exact .inr ⟨ru, h1, h3⟩
  · rintro (h1 | ⟨ru, h1, h3⟩)
    · obtain ⟨ru, hru⟩ := List.exists_mem_of_ne_nil rus hne
      exact ⟨ru, hru, mem_keptUp.mp ((mem_keptUp_upTo (h ru hru).1 (h ru hru).2 hn m).mpr (.inl h1))⟩
    · exact ⟨ru, h1, mem_keptUp.mp ((mem_keptUp_upTo (h ru h1).1 (h ru h1).2 hn m).mpr (.inr h3))⟩
/-- differences of neighbours -/
def diffsOf : List Int → List Int
  | x :: y :: r => (y - x) :: diffsOf (y :: r)
  | _ => []
theorem diffsOf_get : ∀ (l : List Int) (i : Nat) {x y : Int}, l[i]? = some x → l[i + 1]? = some y → (diffsOf l)[i]? = some (y - x)
  | [], _, _, _, h, _ => by simp at h
  | [_], 0, _, _, _, h => by simp at h
  | [_], i + 1, _, _, h, _ => by simp at h
  | a :: b :: r, 0, x, y, h, h2 => by
    have e1 : a = x := by simpa using h
    have e2 : b = y := by simpa using h2
    rw [← e1, ← e2]; rfl
  | a :: b :: r, i + 1, x, y, h, h2 => by
    have := diffsOf_get (b :: r) i (x := x) (y := y) (by simpa using h) (by simpa using h2)
    simpa [diffsOf] using this
theorem diffsOf_len : ∀ l : List Int, (diffsOf l).length = l.length - 1
  | [] => rfl
  | [_] => rfl
  | x :: y :: r => by
    have := diffsOf_len (y :: r)
    simp only [diffsOf, List.length_cons] at this ⊢
    omega
/-- the greatest of some, and 0 -/
def maxZ (l : List Int) : Int := l.foldl (fun a b => max a b) 0
theorem foldl_max_ge : ∀ (l : List Int) (a : Int), a ≤ l.foldl (fun a b => max a b) a ∧ ∀ x ∈ l, x ≤ l.foldl (fun a b => max a b) a
  | [], a => by simp
  | y :: l, a => by
    obtain ⟨h1, h2⟩ := foldl_max_ge l (max a y)
    refine ⟨?_, fun x hx => ?_⟩
    · simp only [List.foldl_cons]; omega
    · simp only [List.foldl_cons]
      rcases List.mem_cons.mp hx with rfl | hx
      · omega
      · exact h2 x hx
theorem foldl_max_mem : ∀ (l : List Int) (a : Int), l.foldl (fun a b => max a b) a = a ∨ l.foldl (fun a b => max a b) a ∈ l
  | [], a => .inl rfl
  | y :: l, a => by
    simp only [List.foldl_cons]
    rcases foldl_max_mem l (max a y) with h | h
    · rw [h]
      by_cases c : a ≤ y
      · right; rw [show max a y = y by omega]; exact List.mem_cons_self
      · left; omega
    · exact .inr (List.mem_cons_of_mem _ h)
theorem maxZ_of {l : List Int} {m : Int} (h1 : m ∈ l ∨ m = 0) (h2 : ∀ x ∈ l, x ≤ m) (h3 : 0 ≤ m) : m = maxZ l := by
  obtain ⟨g1, g2⟩ := foldl_max_ge l 0
  have g3 := foldl_max_mem l 0
  unfold maxZ
  rcases h1 with h1 | h1
  · have := g2 m h1
    rcases g3 with g | g
    · omega
    · have := h2 _ g
      omega
  · rcases g3 with g | g
    · omega
    · have := h2 _ g
      omega
end Nk
/-! ### texts in order; tables of names with numbers; parts -/
namespace Nk
open PySem
/-- texts by their signs -/
def sl (a b : Str) : Prop := a.cps.toList < b.cps.toList
instance (a b : Str) : Decidable (sl a b) := inferInstanceAs (Decidable (a.cps.toList < b.cps.toList))
theorem sl_irrefl (a : Str) : ¬ sl a a := List.lt_irrefl _
theorem sl_trans {a b c : Str} (h : sl a b) (h' : sl b c) : sl a c := List.lt_trans h h'
theorem sl_asymm {a b : Str} (h : sl a b) : ¬ sl b a := fun h' => sl_irrefl a (sl_trans h h')
theorem sl_tri {a b : Str} (h1 : ¬ sl a b) (h2 : ¬ sl b a) : a = b := by
  have e : a.cps.toList = b.cps.toList := List.le_antisymm h2 h1
  obtain ⟨⟨x⟩⟩ := a
  obtain ⟨⟨y⟩⟩ := b
  simp only at e
  rw [e]
theorem sl_ntrans {a b c : Str} (h1 : ¬ sl b a) (h2 : ¬ sl c b) : ¬ sl c a := by
  intro h
  by_cases e : sl b c
  · exact h1 (sl_trans e h)
  · have := sl_tri e h2
    subst this
    exact h1 h
theorem srt_uniq : ∀ {xs ys : List Str}, xs.Pairwise sl → ys.Pairwise sl → (∀ k, k ∈ xs ↔ k ∈ ys) → xs = ys
  | [], [], _, _, _ => rfl
  | [], y :: ys, _, _, h => absurd ((h y).mpr List.mem_cons_self) (by simp)
  | x :: xs, [], _, _, h => absurd ((h x).mp List.mem_cons_self) (by simp)
  | x :: xs, y :: ys, hx, hy, h => by
    obtain ⟨hx1, hx2⟩ := List.pairwise_cons.mp hx
    obtain ⟨hy1, hy2⟩ := List.pairwise_cons.mp hy
    have e : x = y := by
      rcases List.mem_cons.mp ((h x).mp List.mem_cons_self) with e | m
      · exact e
      · rcases List.mem_cons.mp ((h y).mpr List.mem_cons_self) with e | m'
        · exact e.symm
        · exact absurd (hy1 x m) (sl_asymm (hx1 y m'))
    subst e
    rw [srt_uniq hx2 hy2 fun k => ?_]
    constructor
    · intro m
      rcases List.mem_cons.mp ((h k).mp (List.mem_cons_of_mem _ m)) with e | m'
      · subst e; exact absurd (hx1 k m) (sl_irrefl k)
      · exact m'
    · intro m
      rcases List.mem_cons.mp ((h k).mpr (List.mem_cons_of_mem _ m)) with e | m'
      · subst e; exact absurd (hy1 k m) (sl_irrefl k)
      · exact m'
def insS (a : Str) : List Str → List Str
  | [] => [a]
  | b :: r => if sl a b then a :: b :: r else if a = b then b :: r else b :: insS a r
theorem mem_insS {a k : Str} : ∀ {l : List Str}, k ∈ insS a l ↔ k = a ∨ k ∈ l
  | [] => by simp [insS]
  | b :: r => by
    unfold insS
    by_cases h1 : sl a b
    · simp [h1]
    · by_cases h2 : a = b
      · rw [if_neg h1, if_pos h2, h2]
        simp
      · simp only [h1, h2, if_false, List.mem_cons, mem_insS (l := r)]
        constructor
        · rintro (h | h | h)
          · exact .inr (.inl h)
          · exact .inl h
          · exact .inr (.inr h)
        · rintro (h | h | h)
          · exact .inr (.inl h)
          · exact .inl h
          · exact .inr (.inr h)
theorem pw_insS {a : Str} : ∀ {l : List Str}, l.Pairwise sl → (insS a l).Pairwise sl
  | [], _ => by simp [insS]
  | b :: r, h => by
    obtain ⟨hb1, hb2⟩ := List.pairwise_cons.mp h
    unfold insS
    by_cases h1 : sl a b
    · simp only [h1, if_true]
      refine List.pairwise_cons.mpr ⟨fun k hk => ?_, h⟩
      rcases List.mem_cons.mp hk with e | m
      · subst e; exact h1
      · exact sl_trans h1 (hb1 k m)
    · by_cases h2 : a = b
      · rw [if_neg h1, if_pos h2]
        exact h
      · simp only [h1, h2, if_false]
        refine List.pairwise_cons.mpr ⟨fun k hk => ?_, pw_insS hb2⟩
        rcases mem_insS.mp hk with e | m
        · subst e
          by_cases c : sl b k
          · exact c
          · exact absurd (sl_tri h1 c) h2
        · exact hb1 k m
def srt (l : List Str) : List Str := l.foldr insS []
theorem mem_srt {k : Str} : ∀ {l : List Str}, k ∈ srt l ↔ k ∈ l
  | [] => by simp [srt]
  | a :: r => by
    show k ∈ insS a (srt r) ↔ _
    rw [mem_insS, mem_srt (l := r), List.mem_cons]
theorem pw_srt : ∀ {l : List Str}, (srt l).Pairwise sl
  | [] => by simp [srt]
  | a :: r => pw_insS (pw_srt (l := r))
theorem pw_nodup {l : List Str} (h : l.Pairwise sl) : l.Nodup := by
  refine List.Pairwise.imp (fun {a b} h => ?_) h
  intro e
  subst e
  exact sl_irrefl _ h
theorem nodup_le {α : Type} [DecidableEq α] : ∀ {l m : List α}, l.Nodup → (∀ x ∈ l, x ∈ m) → l.length ≤ m.length
  | [], _, _, _ => Nat.zero_le _
  | a :: r, m, h, s => by
    obtain ⟨h1, h2⟩ := List.nodup_cons.mp h
    have ha := s a List.mem_cons_self
    have := nodup_le (l := r) (m := m.erase a) h2 fun x hx => by
      refine (List.mem_erase_of_ne ?_).mpr (s x (List.mem_cons_of_mem _ hx))
      intro e; subst e; exact h1 hx
    rw [List.length_erase_of_mem ha] at this
    have := List.length_pos_of_mem ha
    simp only [List.length_cons]
    omega
theorem nodup_same {α : Type} [DecidableEq α] {l m : List α} (hl : l.Nodup) (hm : m.Nodup) (s : ∀ x, x ∈ l ↔ x ∈ m) : l.length = m.length :=
  Nat.le_antisymm (nodup_le hl fun x hx => (s x).mp hx) (nodup_le hm fun x hx => (s x).mpr hx)
/-! tables -/
abbrev Tb := List (Str × Int)
def lk (t : Tb) (n : Str) : Option Int := (t.find? fun p => decide (p.1 = n)).map (·.2)
def putT (t : Tb) (n : Str) (i : Int) : Tb := if (t.any fun p => decide (p.1 = n)) = true then t.map (fun p => if p.1 = n then (p.1, i) else p) else t ++ [(n, i)]
def dropT (t : Tb) (n : Str) : Tb := t.filter fun p => decide (p.1 ≠ n)
def nms (t : Tb) : List Str := t.map (·.1)
theorem lk_nil {n : Str} : lk [] n = none := rfl
theorem lk_cons {p : Str × Int} {t : Tb} {n : Str} : lk (p :: t) n = if p.1 = n then some p.2 else lk t n := by
  unfold lk
  rw [List.find?_cons]
  by_cases e : p.1 = n <;> simp [e]
theorem lk_none {n : Str} : ∀ {t : Tb}, lk t n = none ↔ n ∉ nms t
  | [] => by simp [lk_nil, nms]
  | p :: t => by
    rw [lk_cons]
    have ih := lk_none (n := n) (t := t)
    by_cases e : p.1 = n
    · simp [e, nms]
    · rw [if_neg e, ih]
      simp only [nms, List.map_cons, List.mem_cons, not_or]
      exact ⟨fun h => ⟨fun z => e z.symm, h⟩, fun h => h.2⟩
theorem lk_mem {t : Tb} {n : Str} {i : Int} (h : lk t n = some i) : (n, i) ∈ t := by
  unfold lk at h
  cases e : t.find? fun p => decide (p.1 = n) with
  | none => rw [e] at h; cases h
  | some p =>
    rw [e] at h
    have h1 := List.find?_some e
    have h2 := List.mem_of_find?_eq_some e
    simp at h h1
    obtain ⟨a, b⟩ := p
    simp only at h h1
    subst h h1
    exact h2
theorem lk_of {n : Str} {i : Int} : ∀ {t : Tb}, (nms t).Nodup → (n, i) ∈ t → lk t n = some i
  | p :: t, h, m => by
    rw [lk_cons]
    obtain ⟨h1, h2⟩ := List.nodup_cons.mp (show (p.1 :: nms t).Nodup from h)
    rcases List.mem_cons.mp m with e | m'
    · rw [← e]; simp
    · have : p.1 ≠ n := fun e => h1 (by rw [e]; exact List.mem_map.mpr ⟨_, m', rfl⟩)
      rw [if_neg this]
      exact lk_of h2 m'
theorem mem_nms {t : Tb} {n : Str} : n ∈ nms t ↔ ∃ i, lk t n = some i := by
  constructor
  · intro h
    cases e : lk t n with
    | none => exact absurd h (lk_none.mp e)
    | some i => exact ⟨i, rfl⟩
  · rintro ⟨i, e⟩
    exact List.mem_map.mpr ⟨_, lk_mem e, rfl⟩
theorem lk_app {n : Str} {i : Int} {m : Str} : ∀ {t : Tb}, n ∉ nms t → lk (t ++ [(n, i)]) m = if m = n then some i else lk t m
  | [], _ => by
    rw [List.nil_append, lk_cons, lk_nil]
    by_cases e : n = m
    · simp [e]
    · rw [if_neg e, if_neg (fun z => e z.symm)]
  | p :: t, h => by
    rw [List.cons_append, lk_cons, lk_cons]
    have h1 : ¬ n = p.1 ∧ n ∉ nms t := by simpa [nms] using h
    rw [lk_app h1.2]
    by_cases e : p.1 = m
    · simp only [e, if_true]
      rw [if_neg (fun z => h1.1 (by rw [e, z]))]
    · simp only [e, if_false]
theorem lk_map {n : Str} {i : Int} {m : Str} : ∀ {t : Tb}, lk (t.map fun p => if p.1 = n then (p.1, i) else p) m = (lk t m).map fun x => if m = n then i else x
  | [] => rfl
  | p :: t => by
    rw [List.map_cons, lk_cons, lk_cons, lk_map]
    by_cases e : p.1 = m
    · subst e
      by_cases c : p.1 = n
      · rw [if_pos c]
        simp [c]
      · rw [if_neg c]
        simp [c]
    · have e2 : ¬ (if p.1 = n then (p.1, i) else p).1 = m := by split <;> exact e
      rw [if_neg e, if_neg e2]
theorem any_nms {t : Tb} {n : Str} : (t.any fun p => decide (p.1 = n)) = decide (n ∈ nms t) := by
  rw [Bool.eq_iff_iff, List.any_eq_true, decide_eq_true_eq]
  constructor
  · rintro ⟨p, h1, h2⟩
    exact List.mem_map.mpr ⟨p, h1, by simpa using h2⟩
  · intro h
    obtain ⟨p, h1, h2⟩ := List.mem_map.mp h
    exact ⟨p, h1, by simpa using h2⟩
theorem lk_put {t : Tb} {n m : Str} {i : Int} : lk (putT t n i) m = if m = n then some i else lk t m := by
  unfold putT
  rw [any_nms]
  by_cases c : n ∈ nms t
  · rw [if_pos (by simpa using c), lk_map]
    by_cases e : m = n
    · subst e
      obtain ⟨j, hj⟩ := mem_nms.mp c
      simp [hj]
    · cases lk t m <;> simp [e]
  · rw [if_neg (by simpa using c), lk_app c]
theorem lk_drop {n m : Str} : ∀ {t : Tb}, lk (dropT t n) m = if m = n then none else lk t m
  | [] => by simp [dropT, lk_nil]
  | p :: t => by
    have ih := lk_drop (n := n) (m := m) (t := t)
    unfold dropT at ih ⊢
    rw [List.filter_cons]
    by_cases c : p.1 = n
    · rw [if_neg (by simpa using c), ih, lk_cons]
      by_cases e : m = n
      · simp [e]
      · rw [if_neg e, if_neg e, if_neg (fun z => e (by rw [← z, c]))]
    · rw [if_pos (by simpa using c), lk_cons, lk_cons, ih]
      by_cases e : m = n
      · subst e; simp [c]
      · simp [e]
theorem nms_put {t : Tb} {n : Str} {i : Int} : nms (putT t n i) = if n ∈ nms t then nms t else nms t ++ [n] := by
  unfold putT
  rw [any_nms]
  by_cases c : n ∈ nms t
  · rw [if_pos (decide_eq_true c), if_pos c]
    unfold nms
    rw [List.map_map]
    refine List.map_congr_left fun p _ => ?_
    simp only [Function.comp]
    by_cases e : p.1 = n <;> simp [e]
  · rw [if_neg (by simpa using c), if_neg c]
    simp [nms]
theorem put_len {t : Tb} {n : Str} {i : Int} : (putT t n i).length = if n ∈ nms t then t.length else t.length + 1 := by
  have e : (putT t n i).length = (nms (putT t n i)).length := (List.length_map _).symm
  rw [e, nms_put]
  by_cases c : n ∈ nms t
  · rw [if_pos c, if_pos c]; exact List.length_map _
  · rw [if_neg c, if_neg c]; simp [nms]
theorem put_nd {t : Tb} {n : Str} {i : Int} (h : (nms t).Nodup) : (nms (putT t n i)).Nodup := by
  rw [nms_put]
  split
  · exact h
  · rename_i c
    rw [List.nodup_append]
    exact ⟨h, by simp, fun a ha b hb => by rw [List.mem_singleton.mp hb]; intro e; subst e; exact c ha⟩
theorem drop_nd {t : Tb} {n : Str} (h : (nms t).Nodup) : (nms (dropT t n)).Nodup := List.Nodup.sublist (List.Sublist.map _ List.filter_sublist) h
theorem mem_put {t : Tb} {n : Str} {i : Int} {p : Str × Int} (h : p ∈ putT t n i) : p = (n, i) ∨ p ∈ t := by
  unfold putT at h
  split at h
  · obtain ⟨q, hq, e⟩ := List.mem_map.mp h
    by_cases c : q.1 = n
    · rw [if_pos c, c] at e; exact .inl e.symm
    · rw [if_neg c] at e; exact .inr (e ▸ hq)
  · rcases List.mem_append.mp h with h | h
    · exact .inr h
    · exact .inl (List.mem_singleton.mp h)
/-- a name -/
def isNm (s : Str) : Prop := 1 ≤ s.cps.toList.length ∧ s.cps.toList.length ≤ 6 ∧ ∀ c ∈ s.cps.toList, 97 ≤ c ∧ c ≤ 122
instance (s : Str) : Decidable (isNm s) := inferInstanceAs (Decidable (_ ∧ _ ∧ _))
structure OkT (t : Tb) : Prop where
  nd : (nms t).Nodup
  nm : ∀ p ∈ t, isNm p.1
  num : ∀ p ∈ t, 0 ≤ p.2 ∧ p.2 ≤ 99
theorem OkT.nil : OkT [] := ⟨by simp [nms], (fun _ h => nomatch h), (fun _ h => nomatch h)⟩
theorem OkT.put {t : Tb} (h : OkT t) {n : Str} {i : Int} (hn : isNm n) (h0 : 0 ≤ i) (h1 : i ≤ 99) : OkT (putT t n i) :=
  ⟨put_nd h.nd, fun p hp => (mem_put hp).elim (fun e => by rw [e]; exact hn) (h.nm p), fun p hp => (mem_put hp).elim (fun e => by rw [e]; exact ⟨h0, h1⟩) (h.num p)⟩
theorem OkT.drop {t : Tb} (h : OkT t) {n : Str} : OkT (dropT t n) := ⟨drop_nd h.nd, fun p hp => h.nm p (List.mem_filter.mp hp).1, fun p hp => h.num p (List.mem_filter.mp hp).1⟩
theorem OkT.same_len {a b : Tb} (ha : OkT a) (hb : OkT b) (h : ∀ n, lk a n = lk b n) : a.length = b.length := by
  have := nodup_same ha.nd hb.nd fun n => by rw [mem_nms, mem_nms, h n]
  simpa [nms] using this
theorem OkT.le_len {a b : Tb} (ha : OkT a) (h : ∀ n, lk b n = none → lk a n = none) : a.length ≤ b.length := by
  have := nodup_le ha.nd (m := nms b) fun n hn => by
    by_cases c : n ∈ nms b
    · exact c
    · exact absurd hn (lk_none.mp (h n (lk_none.mpr c)))
  simpa [nms] using this
/-! parts -/
abbrev Pt := List (Str × Option Int)
def diffN (a b : Tb) : List Str := (srt (nms a ++ nms b)).filter fun n => decide (lk a n ≠ lk b n)
def part (a b : Tb) : Pt := (diffN a b).map fun n => (n, lk b n)
theorem mem_diffN {a b : Tb} {n : Str} : n ∈ diffN a b ↔ lk a n ≠ lk b n := by
  unfold diffN
  rw [List.mem_filter, mem_srt, List.mem_append, decide_eq_true_eq]
  refine ⟨fun h => h.2, fun h => ⟨?_, h⟩⟩
  by_cases c : n ∈ nms a
  · exact .inl c
  · by_cases c' : n ∈ nms b
    · exact .inr c'
    · exact absurd ((lk_none.mpr c).trans (lk_none.mpr c').symm) h
theorem pw_diffN {a b : Tb} : (diffN a b).Pairwise sl := List.Pairwise.sublist List.filter_sublist pw_srt
theorem diffN_congr {a b a' b' : Tb} (ha : ∀ n, lk a n = lk a' n) (hb : ∀ n, lk b n = lk b' n) : diffN a b = diffN a' b' :=
  srt_uniq pw_diffN pw_diffN fun k => by rw [mem_diffN, mem_diffN, ha, hb]
theorem part_congr {a b a' b' : Tb} (ha : ∀ n, lk a n = lk a' n) (hb : ∀ n, lk b n = lk b' n) : part a b = part a' b' := by
  unfold part
  rw [diffN_congr ha hb]
  exact List.map_congr_left fun n _ => by rw [hb n]
theorem diffN_swap {a b : Tb} : diffN a b = diffN b a := srt_uniq pw_diffN pw_diffN fun k => by rw [mem_diffN, mem_diffN]; exact ne_comm
theorem part_len {a b : Tb} : (part a b).length = (diffN a b).length := List.length_map _
theorem diffN_len {a b : Tb} : (diffN a b).length ≤ a.length + b.length := by
  have := nodup_le (pw_nodup (pw_diffN (a := a) (b := b))) (m := nms a ++ nms b) fun x hx => by
    have := (List.mem_filter.mp hx).1
    rwa [mem_srt] at this
  simpa [nms] using this
theorem part_nil {a b : Tb} : part a b = [] ↔ ∀ n, lk a n = lk b n := by
  unfold part
  rw [List.map_eq_nil_iff]
  constructor
  · intro h n
    refine Decidable.byContradiction fun c => ?_
    have := mem_diffN.mpr c
    rw [h] at this
    cases this
  · intro h
    cases e : diffN a b with
    | nil => rfl
    | cons n r => exact absurd (h n) (mem_diffN.mp (by rw [e]; exact List.mem_cons_self))
structure GoodP (ps : Pt) : Prop where
  pw : (ps.map (·.1)).Pairwise sl
  nm : ∀ p ∈ ps, isNm p.1
  num : ∀ p ∈ ps, ∀ i, p.2 = some i → 0 ≤ i ∧ i ≤ 99
  len : ps.length ≤ 40
theorem part_names {a b : Tb} : (part a b).map (·.1) = diffN a b := by
  unfold part
  rw [List.map_map]
  exact List.map_id _
theorem part_good {a b : Tb} (ha : OkT a) (hb : OkT b) (la : a.length ≤ 20) (lb : b.length ≤ 20) : GoodP (part a b) := by
  refine ⟨by rw [part_names]; exact pw_diffN, fun p hp => ?_, fun p hp i e => ?_, ?_⟩
  · obtain ⟨n, hn, rfl⟩ := List.mem_map.mp hp
    have h := mem_diffN.mp hn
    cases e : lk a n with
    | some i => exact ha.nm _ (lk_mem e)
    | none =>
      cases e' : lk b n with
      | some i => exact hb.nm _ (lk_mem e')
      | none => rw [e, e'] at h; exact absurd rfl h
  · obtain ⟨n, hn, rfl⟩ := List.mem_map.mp hp
    exact hb.num _ (lk_mem e)
  · rw [part_len]
    have := diffN_len (a := a) (b := b)
    omega
def stepP (t : Tb) (n : Str) (x : Option Int) : Tb := match x with
  | none => dropT t n
  | some i => putT t n i
theorem lk_step {t : Tb} {n m : Str} {x : Option Int} : lk (stepP t n x) m = if m = n then x else lk t m := by
  cases x with
  | none => exact lk_drop
  | some i => exact lk_put
theorem OkT.step {t : Tb} (h : OkT t) {n : Str} {x : Option Int} (hn : isNm n) (hx : ∀ i, x = some i → 0 ≤ i ∧ i ≤ 99) : OkT (stepP t n x) := by
  cases x with
  | none => exact h.drop
  | some i => exact h.put hn (hx i rfl).1 (hx i rfl).2
theorem step_len {t : Tb} {n : Str} {x : Option Int} : (stepP t n x).length ≤ t.length + 1 := by
  cases x with
  | none => exact Nat.le_succ_of_le (List.length_filter_le _ _)
  | some i => show (putT t n i).length ≤ _; rw [put_len]; split <;> omega
def applyP : Tb → Pt → Option Tb
  | t, [] => some t
  | t, (n, x) :: ps => if lk t n = x then none else applyP (stepP t n x) ps
theorem applyP_some : ∀ {ps : Pt} {t : Tb}, (ps.map (·.1)).Nodup → (∀ p ∈ ps, lk t p.1 ≠ p.2) → ∃ t', applyP t ps = some t' ∧ (∀ p ∈ ps, lk t' p.1 = p.2) ∧ ∀ n, n ∉ ps.map (·.1) → lk t' n = lk t n
  | [], t, _, _ => ⟨t, rfl, (fun _ h => nomatch h), fun _ _ => rfl⟩
  | (n, x) :: ps, t, nd, h => by
    obtain ⟨h1, h2⟩ := List.nodup_cons.mp (show (n :: ps.map (·.1)).Nodup from nd)
    have hn : lk t n ≠ x := h (n, x) List.mem_cons_self
    obtain ⟨t', e1, e2, e3⟩ := applyP_some (ps := ps) (t := stepP t n x) h2 fun p hp => by
      have hne : p.1 ≠ n := fun e => h1 (by rw [← e]; exact List.mem_map.mpr ⟨p, hp, rfl⟩)
      rw [lk_step, if_neg hne]
      exact h p (List.mem_cons_of_mem _ hp)
    refine ⟨t', by unfold applyP; rw [if_neg hn]; exact e1, fun p hp => ?_, fun m hm => ?_⟩
    · rcases List.mem_cons.mp hp with e | m
      · subst e
        rw [e3 n h1, lk_step, if_pos rfl]
      · exact e2 p m
    · have hm' : ¬ m = n ∧ m ∉ ps.map (·.1) := by simpa using hm
      rw [e3 m hm'.2, lk_step, if_neg hm'.1]
theorem applyP_none : ∀ {ps : Pt} {t : Tb}, (ps.map (·.1)).Nodup → (∃ p ∈ ps, lk t p.1 = p.2) → applyP t ps = none
  | (n, x) :: ps, t, nd, h => by
    obtain ⟨h1, h2⟩ := List.nodup_cons.mp (show (n :: ps.map (·.1)).Nodup from nd)
    unfold applyP
    by_cases c : lk t n = x
    · rw [if_pos c]
    · rw [if_neg c]
      refine applyP_none h2 ?_
      obtain ⟨p, hp, e⟩ := h
      rcases List.mem_cons.mp hp with z | m
      · subst z; exact absurd e c
      · refine ⟨p, m, ?_⟩
        have hne : p.1 ≠ n := fun e => h1 (by rw [← e]; exact List.mem_map.mpr ⟨p, m, rfl⟩)
        rw [lk_step, if_neg hne]
        exact e
theorem applyP_ok : ∀ {ps : Pt} {t t' : Tb}, OkT t → (∀ p ∈ ps, isNm p.1) → (∀ p ∈ ps, ∀ i, p.2 = some i → 0 ≤ i ∧ i ≤ 99) → applyP t ps = some t' → OkT t'
  | [], t, t', h, _, _, e => by cases e; exact h
  | (n, x) :: ps, t, t', h, h1, h2, e => by
    unfold applyP at e
    by_cases c : lk t n = x
    · rw [if_pos c] at e; cases e
    · rw [if_neg c] at e
      exact applyP_ok (h.step (h1 _ List.mem_cons_self) (h2 _ List.mem_cons_self)) (fun p hp => h1 p (List.mem_cons_of_mem _ hp)) (fun p hp => h2 p (List.mem_cons_of_mem _ hp)) e
/-- the part of two tables leads from the one to the other -/
theorem apply_part {a b : Tb} : ∃ t', applyP a (part a b) = some t' ∧ ∀ n, lk t' n = lk b n := by
  obtain ⟨t', e1, e2, e3⟩ := applyP_some (ps := part a b) (t := a) (by rw [part_names]; exact pw_nodup pw_diffN) fun p hp => by
    obtain ⟨n, hn, rfl⟩ := List.mem_map.mp hp
    exact mem_diffN.mp hn
  refine ⟨t', e1, fun n => ?_⟩
  by_cases c : lk a n = lk b n
  · rw [e3 n (by rw [part_names, mem_diffN]; exact fun z => z c)]
    exact c
  · exact e2 (n, lk b n) (List.mem_map.mpr ⟨n, mem_diffN.mpr c, rfl⟩)
end Nk
/-! ### rows of a store: nights, whole or not, with tables -/
namespace Nk
structure Row where
  n : Int
  w : Bool
  t : Tb
abbrev Rows := List Row
/-- what must be read for the last one -/
def chnP (rs : Rows) : Rows := rs.foldl (fun c r => if r.w = true then [r] else c ++ [r]) []
theorem chnP_nil : chnP [] = [] := rfl
theorem chnP_snoc (rs : Rows) (r : Row) : chnP (rs ++ [r]) = if r.w = true then [r] else chnP rs ++ [r] := by
  unfold chnP; rw [List.foldl_append]; rfl
theorem snoc_ind {α : Type} {P : List α → Prop} (h0 : P []) (h1 : ∀ l a, P l → P (l ++ [a])) (l : List α) : P l := by
  rw [← List.reverse_reverse l]
  induction l.reverse with
  | nil => exact h0
  | cons a r ih => rw [List.reverse_cons]; exact h1 _ _ ih
theorem chnP_sub (rs : Rows) : ∀ r ∈ chnP rs, r ∈ rs := by
  induction rs using snoc_ind with
  | h0 => exact fun _ h => nomatch h
  | h1 l a ih =>
    rw [chnP_snoc]
    intro r hr
    split at hr
    · rw [List.mem_singleton.mp hr]; simp
    · rcases List.mem_append.mp hr with h | h
      · exact List.mem_append_left _ (ih r h)
      · exact List.mem_append_right _ h
/-- where the chain of the i-th begins -/
def fstW (ws : List Bool) : Nat → Nat
  | 0 => 0
  | i + 1 => if ws[i + 1]?.getD true = true then i + 1 else fstW ws i
theorem fstW_succ (ws : List Bool) (i : Nat) : fstW ws (i + 1) = if ws[i + 1]?.getD true = true then i + 1 else fstW ws i := rfl
theorem fstW_le (ws : List Bool) : ∀ i, fstW ws i ≤ i
  | 0 => Nat.le_refl _
  | i + 1 => by
    unfold fstW
    have := fstW_le ws i
    split <;> omega
theorem fstW_true {ws : List Bool} (h0 : ws[0]? = some true) : ∀ {i : Nat}, i < ws.length → ws[fstW ws i]? = some true
  | 0, _ => h0
  | i + 1, h => by
    unfold fstW
    split
    · next c => rw [List.getElem?_eq_getElem h] at c ⊢; simpa using c
    · exact fstW_true h0 (by omega)
theorem fstW_false {ws : List Bool} : ∀ {i j : Nat}, i < ws.length → fstW ws i < j → j ≤ i → ws[j]? = some false
  | 0, j, _, h1, h2 => by unfold fstW at h1; omega
  | i + 1, j, h, h1, h2 => by
    unfold fstW at h1
    split at h1
    · omega
    · next c =>
      by_cases e : j = i + 1
      · subst e
        rw [List.getElem?_eq_getElem h] at c ⊢
        simpa using c
      · exact fstW_false (by omega) h1 (by omega)
theorem fstW_at {ws : List Bool} {f : Nat} : ∀ {i : Nat}, i < ws.length → f ≤ i → (f = 0 ∨ ws[f]? = some true) → (∀ j, f < j → j ≤ i → ws[j]? = some false) → fstW ws i = f
  | 0, _, h1, _, _ => by unfold fstW; omega
  | i + 1, h, h1, h2, h3 => by
    unfold fstW
    by_cases e : f = i + 1
    · subst e
      rcases h2 with h2 | h2
      · omega
      · rw [h2]; rfl
    · rw [h3 (i + 1) (by omega) (by omega)]
      simp only [Option.getD_some, Bool.false_eq_true, if_false]
      exact fstW_at (by omega) (by omega) h2 fun j h4 h5 => h3 j h4 (by omega)
theorem take_succ_snoc {α : Type} {l : List α} {i : Nat} (h : i < l.length) : l.take (i + 1) = l.take i ++ [l[i]] := by
  rw [List.take_succ_eq_append_getElem h]
theorem chnP_fst {rs : Rows} (h0 : (rs.map Row.w)[0]? ≠ some false) : ∀ {i : Nat}, i < rs.length → chnP (rs.take (i + 1)) = (rs.take (i + 1)).drop (fstW (rs.map Row.w) i)
  | 0, h => by
    have e : rs.take 1 = [rs[0]] := by rw [take_succ_snoc h]; rfl
    have hw : rs[0].w = true := by
      rw [List.getElem?_map, List.getElem?_eq_getElem h] at h0
      cases c : rs[0].w with
      | true => rfl
      | false => rw [Option.map_some, c] at h0; exact absurd rfl h0
    rw [e]
    unfold fstW
    rw [← List.nil_append [rs[0]], chnP_snoc, if_pos hw]
    rfl
  | i + 1, h => by
    have ih := chnP_fst h0 (i := i) (by omega)
    rw [take_succ_snoc h, chnP_snoc, ih, fstW_succ]
    have e : (rs.map Row.w)[i + 1]?.getD true = rs[i + 1].w := by rw [List.getElem?_map, List.getElem?_eq_getElem h]; rfl
    rw [e]
    have hl : (rs.take (i + 1)).length = i + 1 := by rw [List.length_take]; omega
    split
    · rw [List.drop_append_of_le_length (by omega), List.drop_eq_nil_of_le (by omega)]; rfl
    · have := fstW_le (rs.map Row.w) i
      rw [List.drop_append_of_le_length (by omega)]
/-- the nights to be read for the i-th -/
def chn (rs : Rows) (i : Nat) : List Int := (chnP (rs.take (i + 1))).map Row.n
/-- rows as they stand: the first is whole, no chain is longer than deep -/
structure Val (deep : Nat) (rs : Rows) : Prop where
  head : (rs.map Row.w)[0]? ≠ some false
  len : ∀ i, (chnP (rs.take i)).length ≤ deep
theorem Val.nil {deep : Nat} : Val deep [] := ⟨by simp, fun i => by simp [chnP]⟩
theorem Val.head_t {deep : Nat} {rs : Rows} (h : Val deep rs) (hl : 0 < rs.length) : (rs.map Row.w)[0]? = some true := by
  have := h.head
  rw [List.getElem?_map, List.getElem?_eq_getElem hl] at this ⊢
  cases c : rs[0].w with
  | true => rw [Option.map_some, c]
  | false => rw [Option.map_some, c] at this; exact absurd rfl this
theorem Val.snoc {deep : Nat} {rs : Rows} {r : Row} (h : Val deep rs) (hd : 1 ≤ deep) (hr : r.w = false → rs ≠ [] ∧ (chnP rs).length < deep) : Val deep (rs ++ [r]) := by
  refine ⟨?_, fun i => ?_⟩
  · cases rs with
    | nil =>
      intro z
      have : r.w = false := by simpa using z
      exact (hr this).1 rfl
    | cons a l => exact h.head
  · by_cases c : i ≤ rs.length
    · rw [List.take_append_of_le_length c]; exact h.len i
    · rw [List.take_of_length_le (by simp; omega), chnP_snoc]
      split
      · exact hd
      · next c2 =>
        have := (hr (by simpa using c2)).2
        rw [List.length_append]
        simp
        omega
theorem snoc_cases {α : Type} (l : List α) : l = [] ∨ ∃ r a, l = r ++ [a] := by
  rcases List.eq_nil_or_concat l with h | ⟨r, a, h⟩
  · exact .inl h
  · exact .inr ⟨r, a, by simpa using h⟩
/-- behind letting go: what is not kept is left out, what has lost its base is whole -/
def lgoS (gone : List Int) (s : Rows × Rows) (r : Row) : Rows × Rows :=
  (if r.w = true then [r] else s.1 ++ [r], if r.n ∈ gone then s.2 else s.2 ++ [{ r with w := r.w || s.1.all fun o => decide (o.n ∈ gone) }])
def lgoP (gone : List Int) (rs : Rows) : Rows × Rows := rs.foldl (lgoS gone) ([], [])
def lgo (gone : List Int) (rs : Rows) : Rows := (lgoP gone rs).2
theorem lgoP_snoc (gone : List Int) (rs : Rows) (r : Row) : lgoP gone (rs ++ [r]) = lgoS gone (lgoP gone rs) r := by
  unfold lgoP; rw [List.foldl_append]; rfl
theorem lgoP_fst (gone : List Int) (rs : Rows) : (lgoP gone rs).1 = chnP rs := by
  induction rs using snoc_ind with
  | h0 => rfl
  | h1 l a ih => rw [lgoP_snoc, chnP_snoc, ← ih]; rfl
theorem lgo_snoc (gone : List Int) (rs : Rows) (r : Row) : lgo gone (rs ++ [r]) = if r.n ∈ gone then lgo gone rs else lgo gone rs ++ [{ r with w := r.w || (chnP rs).all fun o => decide (o.n ∈ gone) }] := by
  unfold lgo
  rw [lgoP_snoc]
  show (if r.n ∈ gone then (lgoP gone rs).2 else _) = _
  rw [lgoP_fst]
theorem lgo_ns (gone : List Int) (rs : Rows) : (lgo gone rs).map Row.n = (rs.map Row.n).filter fun n => decide (n ∉ gone) := by
  induction rs using snoc_ind with
  | h0 => rfl
  | h1 l a ih =>
    rw [lgo_snoc, List.map_append, List.filter_append, ← ih]
    by_cases c : a.n ∈ gone
    · rw [if_pos c]; simp [c]
    · rw [if_neg c]; simp [c]
theorem lgo_ts (gone : List Int) (rs : Rows) : (lgo gone rs).map (fun r => (r.n, r.t)) = (rs.map fun r => (r.n, r.t)).filter fun p => decide (p.1 ∉ gone) := by
  induction rs using snoc_ind with
  | h0 => rfl
  | h1 l a ih =>
    rw [lgo_snoc, List.map_append, List.filter_append, ← ih]
    by_cases c : a.n ∈ gone
    · rw [if_pos c]; simp [c]
    · rw [if_neg c]; simp [c]
/-- how the chain of what is left stands to the chain of all -/
theorem lgo_chn (gone : List Int) (rs : Rows) : ((chnP rs).filter fun r => decide (r.n ∉ gone)) ≠ [] → (chnP (lgo gone rs)).map Row.n = ((chnP rs).filter fun r => decide (r.n ∉ gone)).map Row.n := by
  induction rs using snoc_ind with
  | h0 => intro h; exact absurd rfl h
  | h1 l a ih =>
    intro h
    rw [lgo_snoc]
    rw [chnP_snoc] at h ⊢
    by_cases c : a.n ∈ gone
    · rw [if_pos c]
      by_cases cw : a.w = true
      · rw [if_pos cw] at h
        exact absurd (by simp [c]) h
      · rw [if_neg cw] at h ⊢
        rw [List.filter_append, show [a].filter (fun r => decide (r.n ∉ gone)) = [] by simp [c], List.append_nil] at h ⊢
        exact ih h
    · rw [if_neg c, chnP_snoc]
      by_cases cw : a.w = true
      · rw [if_pos cw, if_pos (by simp [cw])]
        simp [c]
      · rw [if_neg cw]
        have ea : [a].filter (fun r => decide (r.n ∉ gone)) = [a] := by simp [c]
        rw [List.filter_append, ea]
        by_cases ca : ((chnP l).all fun o => decide (o.n ∈ gone)) = true
        · rw [if_pos (by simp only [ca, Bool.or_true])]
          have : (chnP l).filter (fun r => decide (r.n ∉ gone)) = [] := by
            rw [List.filter_eq_nil_iff]
            intro x hx
            have := List.all_eq_true.mp ca x hx
            simpa using this
          rw [this]
          rfl
        · have cw' : a.w = false := by simpa using cw
          have ca' : ((chnP l).all fun o => decide (o.n ∈ gone)) = false := by simpa using ca
          rw [if_neg (by simp only [cw', ca', Bool.or_self]; exact Bool.false_ne_true)]
          rw [List.map_append, List.map_append, ih ?_]
          · rfl
          · intro z
            rw [List.filter_eq_nil_iff] at z
            apply ca
            rw [List.all_eq_true]
            intro x hx
            have := z x hx
            simpa using this
theorem lgo_head (gone : List Int) (rs : Rows) : (((lgo gone rs).map Row.w)[0]? ≠ some false) ∧ (lgo gone rs = [] → ∀ r ∈ rs, r.n ∈ gone) := by
  induction rs using snoc_ind with
  | h0 => exact ⟨by simp [lgo, lgoP], fun _ _ h => nomatch h⟩
  | h1 l a ih =>
    rw [lgo_snoc]
    by_cases c : a.n ∈ gone
    · rw [if_pos c]
      refine ⟨ih.1, fun e r hr => ?_⟩
      rcases List.mem_append.mp hr with h | h
      · exact ih.2 e r h
      · rw [List.mem_singleton.mp h]; exact c
    · rw [if_neg c]
      refine ⟨?_, fun e => absurd e (by simp)⟩
      cases e : lgo gone l with
      | nil =>
        have h2 := ih.2 e
        have : ((chnP l).all fun o => decide (o.n ∈ gone)) = true := by
          rw [List.all_eq_true]
          intro x hx
          exact decide_eq_true (h2 x (chnP_sub l x hx))
        simp [this]
      | cons b r =>
        have := ih.1
        rw [e] at this
        exact this
theorem lgo_pre {α : Type} {gone : List Int} (rs : Rows) (i : Nat) : ∃ j, (lgo gone rs).take i = lgo gone (rs.take j) := by
  induction rs using snoc_ind with
  | h0 => exact ⟨0, by simp [lgo, lgoP]⟩
  | h1 l a ih =>
    obtain ⟨j, hj⟩ := ih
    by_cases ci : i ≤ (lgo gone l).length
    · refine ⟨min j l.length, ?_⟩
      rw [List.take_append_of_le_length (by omega), show l.take (min j l.length) = l.take j by
        by_cases c : j ≤ l.length
        · rw [Nat.min_eq_left c]
        · rw [Nat.min_eq_right (by omega), List.take_of_length_le (Nat.le_refl _), List.take_of_length_le (by omega)], ← hj, lgo_snoc]
      split
      · rfl
      · rw [List.take_append_of_le_length ci]
    · refine ⟨l.length + 1, ?_⟩
      rw [List.take_of_length_le (l := l ++ [a]) (by simp), List.take_of_length_le]
      rw [lgo_snoc]
      split
      · omega
      · simp; omega
theorem lgo_len (gone : List Int) {deep : Nat} (rs : Rows) (h : ∀ i, (chnP (rs.take i)).length ≤ deep) (hd : 1 ≤ deep) : (chnP (lgo gone rs)).length ≤ deep := by
  induction rs using snoc_ind with
  | h0 => simp [lgo, lgoP, chnP]
  | h1 l a ih =>
    have h' : ∀ i, (chnP (l.take i)).length ≤ deep := fun i => by
      by_cases c : i ≤ l.length
      · have := h i; rw [List.take_append_of_le_length c] at this; exact this
      · have := h l.length
        rw [List.take_append_of_le_length (Nat.le_refl _), List.take_of_length_le (Nat.le_refl _)] at this
        rw [List.take_of_length_le (by omega)]
        exact this
    have ih := ih h'
    by_cases c : a.n ∈ gone
    · rw [lgo_snoc, if_pos c]; exact ih
    · by_cases hk : ((chnP (l ++ [a])).filter fun r => decide (r.n ∉ gone)) = []
      · exfalso
        rw [List.filter_eq_nil_iff] at hk
        have hm : a ∈ chnP (l ++ [a]) := by rw [chnP_snoc]; split <;> simp
        have := hk a hm
        simp [c] at this
      · have e := congrArg List.length (lgo_chn gone (l ++ [a]) hk)
        rw [List.length_map, List.length_map] at e
        rw [e]
        have h1 := List.length_filter_le (fun r : Row => decide (r.n ∉ gone)) (chnP (l ++ [a]))
        have h2 := h (l ++ [a]).length
        rw [List.take_of_length_le (Nat.le_refl _)] at h2
        omega
theorem Val.lgo {deep : Nat} {rs : Rows} (h : Val deep rs) (hd : 1 ≤ deep) (gone : List Int) : Val deep (lgo gone rs) := by
  refine ⟨(lgo_head gone rs).1, fun i => ?_⟩
  obtain ⟨j, hj⟩ := lgo_pre (α := Nat) (gone := gone) rs i
  rw [hj]
  refine lgo_len gone _ (fun i' => ?_) hd
  rw [List.take_take]
  exact h.len _
/-- the same, one behind the other: the rows that are gone stay -/
def lgoUS (gone : List Int) (s : Rows) (r : Row) : Rows := s ++ [if r.n ∈ gone then r else { r with w := r.w || (chnP s).all fun o => decide (o.n ∈ gone) }]
def lgoU (gone : List Int) (rs : Rows) : Rows := rs.foldl (lgoUS gone) []
theorem lgoU_snoc (gone : List Int) (rs : Rows) (r : Row) : lgoU gone (rs ++ [r]) = lgoU gone rs ++ [if r.n ∈ gone then r else { r with w := r.w || (chnP (lgoU gone rs)).all fun o => decide (o.n ∈ gone) }] := by
  unfold lgoU; rw [List.foldl_append]; rfl
theorem lgoU_all (gone : List Int) (rs : Rows) : ((chnP (lgoU gone rs)).all fun o => decide (o.n ∈ gone)) = (chnP rs).all fun o => decide (o.n ∈ gone) := by
  induction rs using snoc_ind with
  | h0 => rfl
  | h1 l a ih =>
    rw [lgoU_snoc, chnP_snoc, chnP_snoc]
    by_cases c : a.n ∈ gone
    · rw [if_pos c]
      split
      · rfl
      · rw [List.all_append, List.all_append, ih]
    · rw [if_neg c]
      have e : ∀ (x y : Rows) (b : Row), b.n ∉ gone → ((x ++ [b]).all fun o => decide (o.n ∈ gone)) = false := fun x y b hb => by
        rw [List.all_append]; simp [hb]
      have e1 : ([a].all fun o => decide (o.n ∈ gone)) = false := by simp [c]
      split
      · split
        · simp [c]
        · rw [e _ [] a c]; simp [c]
      · split
        · rw [e _ [] _ (by exact c)]; simp [c]
        · rw [e _ [] a c, e _ [] _ (by exact c)]
theorem lgoU_snoc' (gone : List Int) (rs : Rows) (r : Row) : lgoU gone (rs ++ [r]) = lgoU gone rs ++ [if r.n ∈ gone then r else { r with w := r.w || (chnP rs).all fun o => decide (o.n ∈ gone) }] := by
  rw [lgoU_snoc, lgoU_all]
theorem lgoU_len (gone : List Int) (rs : Rows) : (lgoU gone rs).length = rs.length := by
  induction rs using snoc_ind with
  | h0 => rfl
  | h1 l a ih => rw [lgoU_snoc, List.length_append, List.length_append, ih]; rfl
theorem lgo_of_U (gone : List Int) (rs : Rows) : (lgoU gone rs).filter (fun r => decide (r.n ∉ gone)) = lgo gone rs := by
  induction rs using snoc_ind with
  | h0 => rfl
  | h1 l a ih =>
    rw [lgoU_snoc', lgo_snoc, List.filter_append, ih]
    by_cases c : a.n ∈ gone
    · rw [if_pos c, if_pos c]; simp [c]
    · rw [if_neg c, if_neg c]; simp [c]
theorem lgoU_get (gone : List Int) : ∀ (rs : Rows) (i : Nat) (r : Row), rs[i]? = some r → (lgoU gone rs)[i]? = some (if r.n ∈ gone then r else { r with w := r.w || (chnP (rs.take i)).all fun o => decide (o.n ∈ gone) }) := by
  intro rs
  induction rs using snoc_ind with
  | h0 => intro i r h; simp at h
  | h1 l a ih =>
    intro i r h
    rw [lgoU_snoc']
    by_cases c : i < l.length
    · rw [List.getElem?_append_left c] at h
      rw [List.getElem?_append_left (by rw [lgoU_len]; exact c), List.take_append_of_le_length (by omega)]
      exact ih i r h
    · have hi : i = l.length := by
        have := (List.getElem?_eq_some_iff.mp h).1
        rw [List.length_append, List.length_singleton] at this
        omega
      subst hi
      rw [List.getElem?_append_right (Nat.le_refl _), Nat.sub_self] at h
      cases h
      rw [List.getElem?_append_right (by rw [lgoU_len]; exact Nat.le_refl _), lgoU_len, Nat.sub_self, List.take_append_of_le_length (Nat.le_refl _), List.take_of_length_le (Nat.le_refl _)]
      rfl
/-- rows of which more are whole -/
def Up (rs rs' : Rows) : Prop := rs'.length = rs.length ∧ ∀ (i : Nat) (r r' : Row), rs[i]? = some r → rs'[i]? = some r' → r'.n = r.n ∧ r'.t = r.t ∧ (r.w = true → r'.w = true)
theorem Up.refl {rs : Rows} : Up rs rs := ⟨rfl, fun i r r' h h' => by rw [h] at h'; cases h'; exact ⟨rfl, rfl, id⟩⟩
theorem Up.chn {rs rs' : Rows} (h : Up rs rs') : ∀ i, (chnP (rs'.take i)).length ≤ (chnP (rs.take i)).length
  | 0 => by simp [chnP]
  | i + 1 => by
    have ih := Up.chn h i
    by_cases c : i < rs.length
    · have c' : i < rs'.length := by rw [h.1]; exact c
      rw [take_succ_snoc c, take_succ_snoc c', chnP_snoc, chnP_snoc]
      obtain ⟨_, _, hw⟩ := h.2 i _ _ (List.getElem?_eq_getElem c) (List.getElem?_eq_getElem c')
      split
      · split
        · simp
        · rw [List.length_append]; simp
      · next c1 =>
        rw [if_neg fun z => c1 (hw z), List.length_append, List.length_append]
        simp
        exact ih
    · have e1 : rs.take (i + 1) = rs.take i := by rw [List.take_of_length_le (by omega), List.take_of_length_le (by omega)]
      have e2 : rs'.take (i + 1) = rs'.take i := by rw [List.take_of_length_le (by rw [h.1]; omega), List.take_of_length_le (by rw [h.1]; omega)]
      rw [e1, e2]
      exact ih
theorem Val.up {deep : Nat} {rs rs' : Rows} (h : Val deep rs) (u : Up rs rs') : Val deep rs' := by
  refine ⟨?_, fun i => Nat.le_trans (u.chn i) (h.len i)⟩
  by_cases c : 0 < rs.length
  · have c' : 0 < rs'.length := by rw [u.1]; exact c
    have h1 := h.head_t c
    rw [List.getElem?_map, List.getElem?_eq_getElem c, Option.map_some] at h1
    rw [List.getElem?_map, List.getElem?_eq_getElem c', Option.map_some, (u.2 0 _ _ (List.getElem?_eq_getElem c) (List.getElem?_eq_getElem c')).2.2 (Option.some.inj h1)]
    simp
  · have : rs' = [] := List.length_eq_zero_iff.mp (by rw [u.1]; omega)
    rw [this]; simp
theorem lgoU_up (gone : List Int) (rs : Rows) (i : Nat) : Up rs (lgoU gone (rs.take i) ++ rs.drop i) := by
  refine ⟨by rw [List.length_append, lgoU_len, List.length_take, List.length_drop]; omega, fun j r r' h h' => ?_⟩
  by_cases c : j < (rs.take i).length
  · rw [List.getElem?_append_left (by rw [lgoU_len]; exact c)] at h'
    have hj : (rs.take i)[j]? = some r := by
      rw [List.getElem?_take_of_lt (by rw [List.length_take] at c; omega)]; exact h
    rw [lgoU_get _ _ _ _ hj] at h'
    cases h'
    split
    · exact ⟨rfl, rfl, id⟩
    · exact ⟨rfl, rfl, fun z => by simp [z]⟩
  · rw [List.getElem?_append_right (by rw [lgoU_len]; omega), lgoU_len, List.getElem?_drop] at h'
    have : i + (j - (rs.take i).length) = j := by
      rw [List.length_take] at c ⊢
      have := (List.getElem?_eq_some_iff.mp h).1
      omega
    rw [this, h] at h'
    cases h'
    exact ⟨rfl, rfl, id⟩
/-- the i-th is made whole -/
def setW (rs : Rows) (i : Nat) (b : Bool) : Rows := match rs[i]? with
  | some r => rs.set i { r with w := b }
  | none => rs
theorem setW_up (rs : Rows) (i : Nat) : Up rs (setW rs i true) := by
  unfold setW
  cases e : rs[i]? with
  | none => exact .refl
  | some r =>
    refine ⟨List.length_set, fun j a b h h' => ?_⟩
    by_cases c : j = i
    · subst c
      rw [e] at h
      cases h
      rw [List.getElem?_set_self (List.getElem?_eq_some_iff.mp e).1] at h'
      cases h'
      exact ⟨rfl, rfl, fun _ => rfl⟩
    · rw [List.getElem?_set_ne (Ne.symm c), h] at h'
      cases h'
      exact ⟨rfl, rfl, id⟩
/-- what is left when the copy m is lost -/
def lsS (m : Int) (s : Rows × Rows) (r : Row) : Rows × Rows := (if r.w = true then [r] else s.1 ++ [r], if m ∈ (if r.w = true then [r] else s.1 ++ [r]).map Row.n then s.2 else s.2 ++ [r])
def lsP (m : Int) (rs : Rows) : Rows × Rows := rs.foldl (lsS m) ([], [])
def ls (m : Int) (rs : Rows) : Rows := (lsP m rs).2
theorem lsP_snoc (m : Int) (rs : Rows) (r : Row) : lsP m (rs ++ [r]) = lsS m (lsP m rs) r := by
  unfold lsP; rw [List.foldl_append]; rfl
theorem lsP_fst (m : Int) (rs : Rows) : (lsP m rs).1 = chnP rs := by
  induction rs using snoc_ind with
  | h0 => rfl
  | h1 l a ih => rw [lsP_snoc, chnP_snoc, ← ih]; rfl
theorem ls_snoc (m : Int) (rs : Rows) (r : Row) : ls m (rs ++ [r]) = if m ∈ (chnP (rs ++ [r])).map Row.n then ls m rs else ls m rs ++ [r] := by
  unfold ls
  rw [lsP_snoc, chnP_snoc, ← lsP_fst m rs]
  rfl
theorem ls_chn (m : Int) (rs : Rows) : m ∉ (chnP rs).map Row.n → chnP (ls m rs) = chnP rs := by
  induction rs using snoc_ind with
  | h0 => intro _; rfl
  | h1 l a ih =>
    intro h
    rw [ls_snoc, if_neg h, chnP_snoc, chnP_snoc]
    by_cases cw : a.w = true
    · rw [if_pos cw, if_pos cw]
    · rw [if_neg cw, if_neg cw]
      rw [chnP_snoc, if_neg cw, List.map_append, List.mem_append, not_or] at h
      rw [ih h.1]
theorem chnP_ne {rs : Rows} (h : rs ≠ []) : chnP rs ≠ [] := by
  rcases snoc_cases rs with e | ⟨l, a, e⟩
  · exact absurd e h
  · rw [e, chnP_snoc]
    split <;> simp
theorem ls_head (m : Int) (rs : Rows) (h : (rs.map Row.w)[0]? ≠ some false) : ((ls m rs).map Row.w)[0]? ≠ some false := by
  induction rs using snoc_ind with
  | h0 => simp [ls, lsP]
  | h1 l a ih =>
    have h' : (l.map Row.w)[0]? ≠ some false := by
      cases l with
      | nil => simp
      | cons b r => exact h
    rw [ls_snoc]
    split
    · exact ih h'
    · next c =>
      cases e : ls m l with
      | cons b r =>
        have := ih h'
        rw [e] at this
        exact this
      | nil =>
        by_cases cw : a.w = true
        · simp [cw]
        · rw [chnP_snoc, if_neg cw, List.map_append, List.mem_append, not_or] at c
          have := ls_chn m l c.1
          rw [e] at this
          by_cases cl : l = []
          · subst cl; exact h
          · exact absurd this.symm (chnP_ne cl)
theorem ls_pre {m : Int} (rs : Rows) (i : Nat) : ∃ j, (ls m rs).take i = ls m (rs.take j) := by
  induction rs using snoc_ind with
  | h0 => exact ⟨0, by simp [ls, lsP]⟩
  | h1 l a ih =>
    obtain ⟨j, hj⟩ := ih
    by_cases ci : i ≤ (ls m l).length
    · refine ⟨min j l.length, ?_⟩
      rw [List.take_append_of_le_length (by omega), show l.take (min j l.length) = l.take j by
        by_cases c : j ≤ l.length
        · rw [Nat.min_eq_left c]
        · rw [Nat.min_eq_right (by omega), List.take_of_length_le (Nat.le_refl _), List.take_of_length_le (by omega)], ← hj, ls_snoc]
      split
      · rfl
      · rw [List.take_append_of_le_length ci]
    · refine ⟨l.length + 1, ?_⟩
      rw [List.take_of_length_le (l := l ++ [a]) (by simp), List.take_of_length_le]
      rw [ls_snoc]
      split
      · omega
      · simp; omega
theorem len_pre {deep : Nat} {l : Rows} {a : Row} (h : ∀ i, (chnP ((l ++ [a]).take i)).length ≤ deep) : ∀ i, (chnP (l.take i)).length ≤ deep := fun i => by
  by_cases c : i ≤ l.length
  · have := h i; rw [List.take_append_of_le_length c] at this; exact this
  · have := h l.length
    rw [List.take_append_of_le_length (Nat.le_refl _), List.take_of_length_le (Nat.le_refl _)] at this
    rw [List.take_of_length_le (by omega)]
    exact this
theorem ls_len {m : Int} {deep : Nat} (rs : Rows) (h : ∀ i, (chnP (rs.take i)).length ≤ deep) : (chnP (ls m rs)).length ≤ deep := by
  induction rs using snoc_ind with
  | h0 => simp [ls, lsP, chnP]
  | h1 l a ih =>
    have ih := ih (len_pre h)
    by_cases c : m ∈ (chnP (l ++ [a])).map Row.n
    · rw [ls_snoc, if_pos c]; exact ih
    · rw [ls_chn m _ c]
      have := h (l ++ [a]).length
      rwa [List.take_of_length_le (Nat.le_refl _)] at this
theorem Val.ls {deep : Nat} {rs : Rows} (h : Val deep rs) (m : Int) : Val deep (ls m rs) := by
  refine ⟨ls_head m rs h.head, fun i => ?_⟩
  obtain ⟨j, hj⟩ := ls_pre (m := m) rs i
  rw [hj]
  refine ls_len _ fun i' => ?_
  rw [List.take_take]
  exact h.len _
/-- the nights that are lost with m -/
def lostN (m : Int) (rs : Rows) : List Int := ((List.range rs.length).filter fun i => decide (m ∈ chn rs i)).map fun i => (rs.map Row.n).getD i 0
theorem lost_snoc (m : Int) (l : Rows) (a : Row) : lostN m (l ++ [a]) = lostN m l ++ if m ∈ (chnP (l ++ [a])).map Row.n then [a.n] else [] := by
  unfold lostN
  rw [List.length_append, List.length_singleton, List.range_succ, List.filter_append, List.map_append]
  have e1 : (List.range l.length).filter (fun i => decide (m ∈ chn (l ++ [a]) i)) = (List.range l.length).filter fun i => decide (m ∈ chn l i) := by
    apply List.filter_congr
    intro i hi
    have hi := List.mem_range.mp hi
    unfold chn
    rw [List.take_append_of_le_length (by omega)]
  have e2 : chn (l ++ [a]) l.length = (chnP (l ++ [a])).map Row.n := by
    unfold chn
    rw [List.take_of_length_le (by simp)]
  rw [e1]
  congr 1
  · apply List.map_congr_left
    intro i hi
    have hi := List.mem_range.mp (List.mem_filter.mp hi).1
    rw [List.map_append, List.getD_eq_getElem?_getD, List.getD_eq_getElem?_getD, List.getElem?_append_left (by simpa using hi)]
  · by_cases c : m ∈ (chnP (l ++ [a])).map Row.n
    · rw [if_pos c, List.filter_cons_of_pos (by rw [e2]; exact decide_eq_true c)]
      simp
    · rw [if_neg c, List.filter_cons_of_neg (by rw [e2]; simpa using c)]
      simp
theorem lost_sub (m : Int) (rs : Rows) : ∀ x ∈ lostN m rs, x ∈ rs.map Row.n := by
  intro x hx
  obtain ⟨i, hi, e⟩ := List.mem_map.mp hx
  have hi := List.mem_range.mp (List.mem_filter.mp hi).1
  rw [← e, List.getD_eq_getElem?_getD, List.getElem?_eq_getElem (by simpa using hi)]
  exact List.getElem_mem _
theorem ls_filter (m : Int) (rs : Rows) (nd : (rs.map Row.n).Nodup) : rs.filter (fun r => decide (r.n ∉ lostN m rs)) = ls m rs := by
  induction rs using snoc_ind with
  | h0 => rfl
  | h1 l a ih =>
    rw [List.map_append, List.nodup_append] at nd
    obtain ⟨n1, n2, n3⟩ := nd
    have ih := ih n1
    have ha : a.n ∉ l.map Row.n := fun h => n3 _ h a.n (by simp) rfl
    rw [ls_snoc, lost_snoc, List.filter_append]
    have e1 : l.filter (fun r => decide (r.n ∉ lostN m l ++ if m ∈ (chnP (l ++ [a])).map Row.n then [a.n] else [])) = l.filter fun r => decide (r.n ∉ lostN m l) := by
      apply List.filter_congr
      intro r hr
      have : r.n ≠ a.n := fun e => ha (by rw [← e]; exact List.mem_map.mpr ⟨r, hr, rfl⟩)
      by_cases c : m ∈ (chnP (l ++ [a])).map Row.n
      · rw [if_pos c]; simp [this]
      · rw [if_neg c]; simp
    rw [e1, ih]
    by_cases c : m ∈ (chnP (l ++ [a])).map Row.n
    · rw [if_pos c, if_pos c]; simp
    · rw [if_neg c, if_neg c]
      have : a.n ∉ lostN m l := fun h => ha (lost_sub m l _ h)
      simp [this]
/-- the size of the i-th copy -/
def szR (rs : Rows) (i : Nat) : Nat := match rs[i]? with
  | some r => if r.w = true then r.t.length else (part ((rs[i - 1]?.map Row.t).getD []) r.t).length
  | none => 0
/-- the night on which the i-th rests -/
def onR (rs : Rows) (i : Nat) : Option Int := match rs[i]? with
  | some r => if r.w = true then none else rs[i - 1]?.map Row.n
  | none => none
end Nk
/-! ### the layer's short words for this program -/
namespace Nk
open PySem L2 PySem.Spec PyProof.Rows
/-- a def of the top keeps a promise: called by its name -/
structure Fk (P : Program) (w : World) (K : PySem.W.Frag) (mg : Str → Option Value) (base : Heap) (CX : CXT) (k : Nat) (x : Str) (ps : List Str) (sp : Sp) : Prop where
  ex : ∃ (f : Addr) (fd : FuncData), mg x = some (.ref f) ∧ PySem.W.keepIn K (.ref f) = true ∧ Binds K fd ps [] ∧ FnOk P w K mg base CX k f fd ps sp
/-- a def as it stands behind the top -/
structure Df (K : PySem.W.Frag) (mg : Str → Option Value) (x qual : Str) (st : Stmt) (ps : List Str) : Prop where
  ex : ∃ (f : Addr) (fd : FuncData), Fun K x qual st f fd ∧ mg x = some (.ref f) ∧ Binds K fd ps []
section
variable {X : Cx} {CX : CXT} {k : Nat} {ps : List Str} {sp : Sp} {x : Str} {p pos : Pos} {e : Expr} {es : List Expr} {t : TA} {E : XK}
theorem pe_fn (F : Fk X.prog X.w X.K X.mg X.base CX k x ps sp) (hr : Room k X.A) (hg : Gl X x) (hx : Passes CX X E) (ha : PA X (e :: es) t) (hdb : (x == ("__debug__" : Str)) = false := by decide)
    (he : starEach (e :: es) X.env = (false, eval e X.env) :: starEach es X.env := by rfl) (hpl : (backTo pos (starEach es X.env)).any (·.1) = false := by rfl) :
    PE X (.Call (.Name x p) (e :: es) [] pos) (tCall sp [] E t) := by
  obtain ⟨f, fd, g, kp, b, G⟩ := F.ex
  exact pe_call G hr hg g kp b .nil hx ha hdb he hpl
theorem passX {X : Cx} {E : XK} (tk : Takes X (fun cls d _ H => E cls d H)) : Passes (L2.CX X.prog X.w) X E := passes_call tk (fun _ _ _ _ h => h)
end
/-- an own exception class without own __init__, over RuntimeError -/
structure Xc (K : PySem.W.Frag) (mg : Str → Option Value) (x : Str) (C : Addr) : Prop where
  gP : mg x = some (.ref C)
  xP : PySem.W.excIn K C [.type "RuntimeError", .type "Exception", .type "BaseException", .type "object"] "RuntimeError.__new__" = true
  kP : PySem.W.keepIn K (.ref C) = true
  bP : PySem.W.subIn K (.ref C) (.type "BaseException") = some true
  tP : PySem.W.typeIn K (.ref C) = some (.type "type")
theorem Xc.rs {X : Cx} {x : Str} {C : Addr} (h : Xc X.K X.mg x C) : Raises X (.ref C) := raises_own h.bP h.tP
/-! sum of a tuple -/
def rSumT (K : PySem.W.Frag) : List V → Hp → VK → Prop := fun vs H Q => ∃ (a : Addr) (ns : List Int), vs = [V.ref a] ∧ SqT K H a (ns.map V.int) ∧ Q (.int ns.sum) H
theorem cr_sumT {X : Cx} (hc : X.calm = true) : CallR X (.builtin "sum") (rSumT X.K) := by
  intro pins s σ H vs us Q I r h
  obtain ⟨a, ns, rfl, hs, q⟩ := h
  obtain ⟨its, rv, hl, _⟩ := I.tuple hs
  rw [Vals.ref1 r]
  have hi : IntsAre its ns := rv.ints
  obtain ⟨xs, hx⟩ := hi.allInts.items
  have hn : numsOf its.toArray.toList = ns := by rw [show its.toArray.toList = its from rfl, hi.numsOf]
  rw [hx] at hl hn
  rw [nums_intItems] at hn
  refine PySem.W.ktm_sumG (I.ok.hd hc) hl fun h' tk t' hk => ?_
  rw [preSum_eq, List.take_of_length_le (by simp), hn]
  exact ⟨.int _, H, I.kept hk, ⟨_, rfl⟩, q⟩
/-! heaps -/
/-- all but t is as it was -/
def But (t : Addr) (H H' : Hp) : Prop := ∀ b o, H b = some o → b ≠ t → H' b = some o
theorem But.refl {t : Addr} {H : Hp} : But t H H := fun _ _ h _ => h
theorem But.trans {t : Addr} {H H1 H2 : Hp} (a : But t H H1) (b : But t H1 H2) : But t H H2 := fun c o h n => b c o (a c o h n) n
theorem But.of {t : Addr} {H H' : Hp} (s : Same H H') : But t H H' := fun b o h _ => s b o h
theorem But.thenS {t : Addr} {H H1 H2 : Hp} (a : But t H H1) (b : Same H1 H2) : But t H H2 := a.trans (.of b)
theorem Same.thenB {t : Addr} {H H1 H2 : Hp} (a : Same H H1) (b : But t H1 H2) : But t H H2 := (But.of a).trans b
theorem same_upd {H : Hp} {p : Addr} {o : HO} (h : H p = none) : Same H (upd H p o) := fun b x e => by
  rw [upd_ne (ne_of_none e h)]
  exact e
theorem But.upd {t : Addr} {H : Hp} {o : HO} : But t H (upd H t o) := fun b x e n => by
  rw [upd_ne n]
  exact e
theorem But.tup {K : PySem.W.Frag} {t a : Addr} {H H' : Hp} {xs : List V} {l : List V} (b : But t H H') (ht : H t = some (.lst l)) (h : SqT K H a xs) : SqT K H' a xs := by
  rcases h with (h | ⟨o, h⟩) | h
  · exact .inl (.inl (b _ _ h (ne_of h ht (by intro z; cases z))))
  · exact .inl (.inr ⟨o, b _ _ h (ne_of h ht (by intro z; cases z))⟩)
  · exact .inr h
theorem But.lst {K : PySem.W.Frag} {t a : Addr} {H H' : Hp} {xs : List V} (b : But t H H') (ha : a ≠ t) (h : SqL K H a xs) : SqL K H' a xs := by
  rcases h with (h | ⟨o, h⟩) | h
  · exact .inl (.inl (b _ _ h ha))
  · exact .inl (.inr ⟨o, b _ _ h ha⟩)
  · exact .inr h
theorem Same.tup {K : PySem.W.Frag} {a : Addr} {H H' : Hp} {xs : List V} (e : Same H H') (h : SqT K H a xs) : SqT K H' a xs := by
  rcases h with (h | ⟨o, h⟩) | h
  · exact .inl (.inl (e _ _ h))
  · exact .inl (.inr ⟨o, e _ _ h⟩)
  · exact .inr h
theorem sqL {K : PySem.W.Frag} {H : Hp} {a : Addr} {xs : List V} (h : H a = some (.lst xs)) : SqL K H a xs := Or.inl (Or.inl h)
theorem sqT {K : PySem.W.Frag} {H : Hp} {a : Addr} {xs : List V} (h : H a = some (.tup xs)) : SqT K H a xs := Or.inl (Or.inl h)
theorem sz {n : Nat} (h : n ≤ 100000) : n ≤ sizeLine := Nat.le_trans h (by decide)
theorem szl {n : Nat} (h : n < 100000) : n < sizeLine := Nat.lt_of_lt_of_le h (by decide)
/-- a list that is read and is not t -/
def SqN (K : PySem.W.Frag) (H : Hp) (a t : Addr) (xs : List V) : Prop := (Rd H a (.lst xs) ∧ a ≠ t) ∨
    ∃ (o : Obj) (its : Array Value) (n : Nat), K.lookup a = some o ∧ o.cls = .type "list" ∧ o.dict = none ∧ o.data = .seq its n ∧ its.size ≤ sizeLine ∧ Vals xs its.toList
theorem SqN.l {K : PySem.W.Frag} {H : Hp} {a t : Addr} {xs : List V} (h : SqN K H a t xs) : SqL K H a xs := by
  rcases h with ⟨h, _⟩ | h
  · exact .inl h
  · exact .inr h
theorem SqN.but {K : PySem.W.Frag} {H H' : Hp} {a t : Addr} {xs : List V} (h : SqN K H a t xs) (b : But t H H') : SqN K H' a t xs := by
  rcases h with ⟨h | ⟨o, h⟩, n⟩ | h
  · exact .inl ⟨.inl (b _ _ h n), n⟩
  · exact .inl ⟨.inr ⟨o, b _ _ h n⟩, n⟩
  · exact .inr h
theorem SqN.same {K : PySem.W.Frag} {H H' : Hp} {a t : Addr} {xs : List V} (h : SqN K H a t xs) (b : Same H H') : SqN K H' a t xs := h.but (.of b)
theorem SqN.new {K : PySem.W.Frag} {H : Hp} {a t : Addr} {xs : List V} (h : SqL K H a xs) (ht : H t = none) : SqN K H a t xs := by
  rcases h with (h | ⟨o, h⟩) | h
  · exact .inl ⟨.inl h, ne_of_none h ht⟩
  · exact .inl ⟨.inr ⟨o, h⟩, ne_of_none h ht⟩
  · exact .inr h
theorem SqN.app {K : PySem.W.Frag} {H H' : Hp} {a t p : Addr} {xs : List V} {o : HO} (h : SqN K H' a t xs) (h0 : SqN K H a t xs) (hp : H p = none) : SqN K (upd H' p o) a t xs := by
  have sN : But p H' (upd H' p o) := But.upd
  rcases h0 with ⟨h' | ⟨o', h'⟩, n'⟩ | h'
  · rcases h with ⟨h | ⟨o, h⟩, n⟩ | h
    · exact .inl ⟨.inl (sN _ _ h (ne_of_none h' hp)), n⟩
    · exact .inl ⟨.inr ⟨o, sN _ _ h (ne_of_none h' hp)⟩, n⟩
    · exact .inr h
  · rcases h with ⟨h | ⟨o, h⟩, n⟩ | h
    · exact .inl ⟨.inl (sN _ _ h (ne_of_none h' hp)), n⟩
    · exact .inl ⟨.inr ⟨o, sN _ _ h (ne_of_none h' hp)⟩, n⟩
    · exact .inr h
  · exact .inr h'
theorem szN {n : Nat} (h : n ≤ 64) : (n ≤ sizeLine) = True := eq_true (sz (by omega))
/-! things -/
/-- what may be handed in, with the name of its type -/
inductive Thing (K : PySem.W.Frag) (H : Hp) : V → String → Prop
  | non : Thing K H .non "NoneType"
  | bl (b : Bool) : Thing K H (.bl b) "bool"
  | int (i : Int) : Thing K H (.int i) "int"
  | str (x : Str) : Thing K H (.str x) "str"
  | lst {a : Addr} {xs : List V} (h : H a = some (.lst xs)) : Thing K H (.ref a) "list"
  | tup {a : Addr} {xs : List V} (h : H a = some (.tup xs)) : Thing K H (.ref a) "tuple"
  | dic {a : Addr} {kvs : List (Key × V)} (h : H a = some (.dK kvs)) : Thing K H (.ref a) "dict"
theorem Thing.ty {K : PySem.W.Frag} {H : Hp} {x : V} {n : String} (h : Thing K H x n) : TyX K H x (.type n) := by
  cases h with
  | non => exact .base .non
  | bl b => exact .base (.bl b)
  | int i => exact .base (.int i)
  | str x => exact .base (.str x)
  | lst h => exact .base (.lst h)
  | tup h => exact .base (.tup h)
  | dic h => exact .base (.dK h)
theorem Thing.same {K : PySem.W.Frag} {H H' : Hp} {x : V} {n : String} (s : Same H H') (h : Thing K H x n) : Thing K H' x n := by
  cases h with
  | non => exact .non
  | bl b => exact .bl b
  | int i => exact .int i
  | str x => exact .str x
  | lst h => exact .lst (s _ _ h)
  | tup h => exact .tup (s _ _ h)
  | dic h => exact .dic (s _ _ h)
def isA (n : String) (T : String) : Bool := n == T || (n == "bool" && T == "int")
def tyNames : List String := ["NoneType", "bool", "int", "str", "list", "tuple", "dict"]
theorem Thing.mem {K : PySem.W.Frag} {H : Hp} {x : V} {n : String} (h : Thing K H x n) : n ∈ tyNames := by
  cases h <;> simp [tyNames]
theorem kit_all : ∀ n ∈ tyNames, ∀ T ∈ tyNames, kitB n T = some (isA n T) := by decide +kernel
theorem Thing.kit {K : PySem.W.Frag} {H : Hp} {x : V} {n : String} (h : Thing K H x n) {T : String} (hT : T ∈ tyNames) : PySem.W.kitOne K (.type n) (.type T) = some (isA n T) := kit_ty (kit_all n h.mem T hT)
/-- isinstance of a thing -/
theorem isi_thing {K : PySem.W.Frag} {H : Hp} {x : V} {n : String} {T : String} {Q : VK} (h : Thing K H x n) (hT : T ∈ tyNames) (q : Q (.bl (isA n T)) H) : rIsi K [x, .ty T] H Q :=
  ⟨x, .ty T, .type n, .type T, isA n T, rfl, .ty T, h.ty, h.kit hT, q⟩
def isWholeV : V → Bool
  | .int _ => true
  | _ => false
def isNumV (x : V) (lo : Int) (y : V) : Bool := match x, y with
  | .int i, .int hi => decide (lo ≤ i) && decide (i ≤ hi)
  | _, _ => false
end Nk
namespace Nk
open PySem L2 PySem.Spec PyProof.Rows
/-- where a class of the top stands -/
def cls (mg : Str → Option Value) (x : Str) : Addr := match mg x with
  | some (.ref a) => a
  | _ => 0
theorem cls_of {mg : Str → Option Value} {x : Str} {a : Addr} (h : mg x = some (.ref a)) : cls mg x = a := by
  unfold cls; rw [h]
section
variable {X : Cx} {x : Str} {i : Int} {z : Str} {pos : Pos}
theorem pe_globI (h : ∃ t, X.mg x = some (.int i t)) (hg : Gl X x) (hd : (x == ("__debug__" : Str)) = false := by decide) : PE X (.Name x pos) (tC (.int i)) := by
  obtain ⟨t, h⟩ := h
  exact pe_glob hg h ⟨_, rfl⟩ hd
theorem pe_globS (h : ∃ t, X.mg x = some (.str z t)) (hg : Gl X x) (hd : (x == ("__debug__" : Str)) = false := by decide) : PE X (.Name x pos) (tC (.str z)) := by
  obtain ⟨t, h⟩ := h
  exact pe_glob hg h ⟨_, rfl⟩ hd
end
section
variable {K : PySem.W.Frag} {h : Heap} {mg : Str → Option Value}
theorem df_mk {x qual : Str} {st : Stmt} {ps : List Str} {f : Addr} {oc : Value} {od an : Option Addr} {osl : Array (Option Value)} {kV doc pm cdv ct : Value} (X : K.In h) (G : h.Ns mainGlobals mg)
    (hb : ∀ (kV doc pm : Value) (an : Option Addr) (cdv ct : Value) (us : List Value), us.length = ps.length → bindArgs (PySem.W.fnOf x qual (defArgs st) (defBody st) (defScope st) .none kV doc pm an cdv ct) ⟨us, []⟩ = pure (ps.zip us))
    (a : PySem.W.nsIn K mainGlobals x = some (some (.ref f)))
    (l : K.lookup f = some ⟨oc, od, .func (PySem.W.fnOf x qual (defArgs st) (defBody st) (defScope st) .none kV doc pm an cdv ct), osl⟩)
    (c : PySem.W.codeIn K cdv qual = true) (k : PySem.W.keepIn K (.ref f) = true) : Df K mg x qual st ps := by
  have F := fun_mk (st := st) l c k
  exact ⟨f, _, F, PySem.W.mg_of X G a, F.binds hb⟩
theorem xc_mk {x : Str} {C : Addr} (X : K.In h) (G : h.Ns mainGlobals mg) (a : PySem.W.nsIn K mainGlobals x = some (some (.ref C)))
    (xP : PySem.W.excIn K C [.type "RuntimeError", .type "Exception", .type "BaseException", .type "object"] "RuntimeError.__new__" = true)
    (kP : PySem.W.keepIn K (.ref C) = true) (bP : PySem.W.subIn K (.ref C) (.type "BaseException") = some true) (tP : PySem.W.typeIn K (.ref C) = some (.type "type")) : Xc K mg x (cls mg x) := by
  have g := PySem.W.mg_of X G a
  rw [cls_of g]
  exact ⟨g, xP, kP, bP, tP⟩
theorem ci_mk {x : Str} {i : Int} {t : Tok} (X : K.In h) (G : h.Ns mainGlobals mg) (a : PySem.W.nsIn K mainGlobals x = some (some (.int i t))) : ∃ t, mg x = some (.int i t) := ⟨t, PySem.W.mg_of X G a⟩
theorem cs_mk {x z : Str} {t : Tok} (X : K.In h) (G : h.Ns mainGlobals mg) (a : PySem.W.nsIn K mainGlobals x = some (some (.str z t))) : ∃ t, mg x = some (.str z t) := ⟨t, PySem.W.mg_of X G a⟩
end
/-- the law's: a list of at most 63 ints is handed in, True comes out -/
def spLaw (K : PySem.W.Frag) : Sp := fun vs H Q _ => ∃ (a : Addr) (ns : List Int), vs = [.ref a] ∧ SqL K H a (ns.map V.int) ∧ ns.length ≤ 63 ∧ ∀ H', Q (.bl true) H'
theorem law_end {P : Program} {w : World} {K : PySem.W.Frag} {mg : Str → Option Value} {st : Stmt} {fa : Addr} {k : Nat} (hfa : mg "law" = some (.ref fa)) (D : Df K mg "law" "law" st ["script"])
    (hb : ∀ (kV doc pm : Value) (an : Option Addr) (cdv ct v : Value), bindArgs (PySem.W.fnOf "law" "law" (defArgs st) (defBody st) (defScope st) .none kV doc pm an cdv ct) ⟨[v], []⟩ = pure [(("script" : Str), v)])
    (G : ∀ (base : Heap) (f : Addr) (fd : FuncData), Fun K "law" "law" st f fd → FnOk P w K mg base CX0 k f fd ["script"] (spLaw K)) :
    ∃ fd : FuncData, (∀ (s : Shared) (v : Value), BindsTo s fd ⟨[v], []⟩ [("script", v)]) ∧ ∀ base : Heap, K.In base → base.Ns mainGlobals mg → FnOk P w K mg base CX0 k fa fd ["script"] (spLaw K) := by
  obtain ⟨f, fd, F, g, b⟩ := D.ex
  have e : fa = f := by
    have := hfa.symm.trans g
    cases this
    rfl
  subst e
  refine ⟨fd, fun s v => ?_, fun base _ _ => G base fa fd F⟩
  obtain ⟨oc, od, kV, doc, pm, an, cdv, ct, osl, rfl, lk, hcd⟩ := F.ex
  exact .of_eq (hb _ _ _ _ _ _ _)
end Nk
namespace Nk
open PySem L2 PySem.Spec PyProof.Rows
theorem Same.keepN {H H' : Hp} {t : Addr} {o : HO} (s : Same H H') (n : H t = none) : Same H (upd H' t o) := fun b x e => by
  rw [upd_ne (ne_of_none e n)]
  exact s b x e
/-- within a comprehension that leaves all else: G i is the list behind i items -/
structure LcP (H1 : Hp) (D : Addr) (G : Nat → List V) (i : Nat) (H : Hp) : Prop where
  same : Same H1 H
  at_ : H D = some (.lst (G i))
theorem LcP.push {H1 H H4 : Hp} {D : Addr} {G : Nat → List V} {i : Nat} {y : V} (p : LcP H1 D G i H) (hD : H1 D = none) (hl : (G i).length ≤ 99999) (s : Same H H4) (e : G (i + 1) = G i ++ [y]) :
    ∃ acc, H4 D = some (.lst acc) ∧ acc.length < sizeLine ∧ LcP H1 D G (i + 1) (upd H4 D (.lst (acc ++ [y]))) :=
  ⟨G i, s _ _ p.at_, szl (by omega), Same.keepN (p.same.trans s) hD, by rw [upd_same, e]⟩
theorem LcP.skip {H1 H H4 : Hp} {D : Addr} {G : Nat → List V} {i : Nat} (p : LcP H1 D G i H) (s : Same H H4) (e : G (i + 1) = G i) : LcP H1 D G (i + 1) H4 :=
  ⟨p.same.trans s, by rw [e]; exact s _ _ p.at_⟩
theorem lcT {K : PySem.W.Frag} {a : Addr} {xs : List V} {g : TG} {tt : TT} {te : TE} {vs : List Nat} {σ : L2.St} {H1 : Hp} {D : Addr} {Qd : Hp → Prop} (hD : H1 D = none) (hT : SqT K H1 a xs) (G : Nat → List V) (h0 : G 0 = [])
    (hs : ∀ i x H, xs[i]? = some x → LcP H1 D G i H → g x (wipe σ vs) H fun σ2 H2 => wipe σ2 vs = wipe σ vs ∧ tt σ2 H2 fun b H3 =>
      if b = true then te σ2 H3 fun y H4 => ∃ acc, H4 D = some (.lst acc) ∧ acc.length < sizeLine ∧ LcP H1 D G (i + 1) (upd H4 D (.lst (acc ++ [y]))) else LcP H1 D G (i + 1) H3) (hd : ∀ H, Same H1 H → H D = some (.lst (G xs.length)) → Qd H) :
    ∃ W : Nat → Nat → Hp → Prop, (∃ m, W 0 m (upd H1 D (.lst []))) ∧ ∀ i m H, W i m H →
      ((Itt K a).stop i H ∧ Qd H) ∨ ((Itt K a).go i H ∧ ∃ Nx : Hp → Prop, (∀ H', Nx H' → ∃ m', m' < m ∧ W (i + 1) m' H') ∧ ∀ x H', (Itt K a).yld i H x H' → g x (wipe σ vs) H' fun σ2 H2 => wipe σ2 vs = wipe σ vs ∧ tt σ2 H2 fun b H3 =>
        if b = true then te σ2 H3 fun y H4 => ∃ acc, H4 D = some (.lst acc) ∧ acc.length < sizeLine ∧ Nx (upd H4 D (.lst (acc ++ [y]))) else Nx H3) :=
  lc_tup (K := K) (a := a) (xs := xs) (LcP H1 D G) ⟨same_upd hD, by rw [h0]; exact upd_same⟩ (fun i H _ p => Same.tup p.same hT) hs fun H p => hd H p.same p.at_
theorem lcL {K : PySem.W.Frag} {a : Addr} {xs : List V} {g : TG} {tt : TT} {te : TE} {vs : List Nat} {σ : L2.St} {H1 : Hp} {D : Addr} {Qd : Hp → Prop} (hD : H1 D = none) (hT : SqL K H1 a xs) (G : Nat → List V) (h0 : G 0 = [])
    (hs : ∀ i x H, xs[i]? = some x → LcP H1 D G i H → g x (wipe σ vs) H fun σ2 H2 => wipe σ2 vs = wipe σ vs ∧ tt σ2 H2 fun b H3 =>
      if b = true then te σ2 H3 fun y H4 => ∃ acc, H4 D = some (.lst acc) ∧ acc.length < sizeLine ∧ LcP H1 D G (i + 1) (upd H4 D (.lst (acc ++ [y]))) else LcP H1 D G (i + 1) H3) (hd : ∀ H, Same H1 H → H D = some (.lst (G xs.length)) → Qd H) :
    ∃ W : Nat → Nat → Hp → Prop, (∃ m, W 0 m (upd H1 D (.lst []))) ∧ ∀ i m H, W i m H →
      ((Itl K a).stop i H ∧ Qd H) ∨ ((Itl K a).go i H ∧ ∃ Nx : Hp → Prop, (∀ H', Nx H' → ∃ m', m' < m ∧ W (i + 1) m' H') ∧ ∀ x H', (Itl K a).yld i H x H' → g x (wipe σ vs) H' fun σ2 H2 => wipe σ2 vs = wipe σ vs ∧ tt σ2 H2 fun b H3 =>
        if b = true then te σ2 H3 fun y H4 => ∃ acc, H4 D = some (.lst acc) ∧ acc.length < sizeLine ∧ Nx (upd H4 D (.lst (acc ++ [y]))) else Nx H3) :=
  lc_list (K := K) (a := a) (xs := xs) (LcP H1 D G) ⟨same_upd hD, by rw [h0]; exact upd_same⟩ (fun i H _ p => p.same.seq hT) hs fun H p => hd H p.same p.at_
theorem lcR {lo : Int} {n : Nat} {g : TG} {tt : TT} {te : TE} {vs : List Nat} {σ : L2.St} {H1 : Hp} {D : Addr} {Qd : Hp → Prop} (hD : H1 D = none) (G : Nat → List V) (h0 : G 0 = [])
    (hs : ∀ i H, i < n → LcP H1 D G i H → g (.int (lo + i)) (wipe σ vs) H fun σ2 H2 => wipe σ2 vs = wipe σ vs ∧ tt σ2 H2 fun b H3 =>
      if b = true then te σ2 H3 fun y H4 => ∃ acc, H4 D = some (.lst acc) ∧ acc.length < sizeLine ∧ LcP H1 D G (i + 1) (upd H4 D (.lst (acc ++ [y]))) else LcP H1 D G (i + 1) H3) (hd : ∀ H, Same H1 H → H D = some (.lst (G n)) → Qd H) :
    ∃ W : Nat → Nat → Hp → Prop, (∃ m, W 0 m (upd H1 D (.lst []))) ∧ ∀ i m H, W i m H →
      ((Itr lo n).stop i H ∧ Qd H) ∨ ((Itr lo n).go i H ∧ ∃ Nx : Hp → Prop, (∀ H', Nx H' → ∃ m', m' < m ∧ W (i + 1) m' H') ∧ ∀ x H', (Itr lo n).yld i H x H' → g x (wipe σ vs) H' fun σ2 H2 => wipe σ2 vs = wipe σ vs ∧ tt σ2 H2 fun b H3 =>
        if b = true then te σ2 H3 fun y H4 => ∃ acc, H4 D = some (.lst acc) ∧ acc.length < sizeLine ∧ Nx (upd H4 D (.lst (acc ++ [y]))) else Nx H3) :=
  lc_range (LcP H1 D G) ⟨same_upd hD, by rw [h0]; exact upd_same⟩ hs fun H p => hd H p.same p.at_
theorem take_next {α : Type} {l : List α} {i : Nat} {x : α} (h : l[i]? = some x) : l.take (i + 1) = l.take i ++ [x] := by
  rw [List.take_add_one, h]; rfl
theorem map_take_next {α β : Type} {l : List α} {i : Nat} {x : α} (f : α → β) (h : l[i]? = some x) : (l.take (i + 1)).map f = (l.take i).map f ++ [f x] := by
  rw [take_next h]; simp
theorem filter_take_next {α : Type} {l : List α} {i : Nat} {x : α} (f : α → Bool) (h : l[i]? = some x) : (l.take (i + 1)).filter f = (l.take i).filter f ++ (if f x = true then [x] else []) := by
  rw [take_next h, List.filter_append]; cases e : f x <;> simp [e]
theorem filter_len {α : Type} (l : List α) (f : α → Bool) (i : Nat) : ((l.take i).filter f).length ≤ l.length :=
  Nat.le_trans (List.length_filter_le _ _) (by simp; omega)
theorem lt_of_get {α : Type} {l : List α} {i : Nat} {x : α} (h : l[i]? = some x) : i < l.length := (List.getElem?_eq_some_iff.mp h).1
theorem mem_of_get {α : Type} {l : List α} {i : Nat} {x : α} (h : l[i]? = some x) : x ∈ l := List.mem_of_getElem? h
end Nk
namespace Nk
open PySem L2
theorem seq_k {t u : TS} {D : Ends} {σ : L2.St} {H : Hp} (h : ∀ Kt : L2.St → Hp → Prop, Kt = u D → t { D with nx := Kt } σ H) : tSeq t u D σ H := h _ rfl
theorem gCons_cons {t : TG} {u : TGs} {v : V} {r : List V} {σ : L2.St} {H : Hp} {Q : L2.St → Hp → Prop} : gCons t u (v :: r) σ H Q = t v σ H fun σ' H' => u r σ' H' Q := by
  simp only [gCons, List.cons.injEq]
  refine propext ⟨?_, fun h => ⟨v, r, ⟨rfl, rfl⟩, h⟩⟩
  rintro ⟨v', r', ⟨rfl, rfl⟩, h⟩
  exact h
theorem gNil_nil {σ : L2.St} {H : Hp} {Q : L2.St → Hp → Prop} : gNil [] σ H Q = Q σ H := by
  simp only [gNil, true_and]
theorem scal_ii {a b : Int} : scal (.int a) (.int b) = true := rfl
theorem scal_ss {a b : Str} : scal (.str a) (.str b) = true := rfl
theorem scal_bb {a b : Bool} : scal (.bl a) (.bl b) = true := rfl
theorem scal_nn : scal .non .non = true := rfl
theorem scal_ni {b : Int} : scal .non (.int b) = true := rfl
theorem scal_in {b : Int} : scal (.int b) .non = true := rfl
theorem scal_ns {b : Str} : scal .non (.str b) = true := rfl
theorem scal_sn {b : Str} : scal (.str b) .non = true := rfl
theorem scal_is {a : Int} {b : Str} : scal (.int a) (.str b) = true := rfl
theorem scal_si {a : Int} {b : Str} : scal (.str b) (.int a) = true := rfl
end Nk
namespace Nk
open PySem L2
/-- what a for asks when its iterator stands -/
def ForW (J : It) (g : TG) (tb : TS) (D : Ends) (σ : L2.St) (H : Hp) : Prop := ∃ W : Nat → Nat → L2.St → Hp → Prop, (∃ m, W 0 m σ H) ∧ ∀ i m σ H, W i m σ H →
  (J.stop i H ∧ D.nx σ H) ∨ (J.go i H ∧ ∃ N : L2.St → Hp → Prop, (∀ σ' H', N σ' H' → ∃ m', m' < m ∧ W (i + 1) m' σ' H') ∧ ∀ x H', J.yld i H x H' → g x σ H' fun σ2 H2 => tb { D with nx := N, ct := N, bk := D.nx } σ2 H2)
theorem tFor_k {wi : TI} {g : TG} {tb : TS} {D : Ends} {σ : L2.St} {H : Hp} : tFor wi g tb D σ H = wi σ H fun J H1 => ForW J g tb D σ H1 := rfl
/-- what a comprehension asks when its iterator and its list stand -/
def LcW (J : It) (g : TG) (tt : TT) (te : TE) (vs : List Nat) (σ : L2.St) (H1 : Hp) (D : Addr) (Qd : Hp → Prop) : Prop := ∃ W : Nat → Nat → Hp → Prop, (∃ m, W 0 m (upd H1 D (.lst []))) ∧ ∀ i m H, W i m H →
  (J.stop i H ∧ Qd H) ∨ (J.go i H ∧ ∃ Nx : Hp → Prop, (∀ H', Nx H' → ∃ m', m' < m ∧ W (i + 1) m' H') ∧ ∀ x H', J.yld i H x H' → g x (wipe σ vs) H' fun σ2 H2 => wipe σ2 vs = wipe σ vs ∧ tt σ2 H2 fun b H3 =>
    if b = true then te σ2 H3 fun y H4 => ∃ acc, H4 D = some (.lst acc) ∧ acc.length < sizeLine ∧ Nx (upd H4 D (.lst (acc ++ [y]))) else Nx H3)
theorem tLc_k {wi : TI} {g : TG} {tt : TT} {te : TE} {vs : List Nat} {σ : L2.St} {H : Hp} {Q : VK} : tLc wi g tt te vs σ H Q = wi σ H fun J H1 => ∀ D, H1 D = none → LcW J g tt te vs σ H1 D (fun H => Q (.ref D) H) := rfl
end Nk
/-! ### data compared by == -/
namespace Nk
open PySem L2
/-- data of depth at most k, without truths and dicts -/
def gd : Nat → PyData → Bool
  | _, .none => true
  | _, .int _ => true
  | _, .str x => PyData.strOk x
  | _, .bool _ => false
  | _, .dict _ => false
  | 0, .list _ => false
  | 0, .tuple _ => false
  | k + 1, .list xs => xs.all (gd k)
  | k + 1, .tuple xs => xs.all (gd k)
theorem gd_all {k : Nat} : ∀ {xs : List PyData}, xs.all (gd k) = true → ∀ x ∈ xs, gd k x = true := fun h x hx => List.all_eq_true.mp h x hx
theorem canLayAll_of : ∀ {xs : List PyData}, (∀ x ∈ xs, x.canLay0 = true) → PyData.canLayAll0 xs = true
  | [], _ => by simp [PyData.canLayAll0]
  | x :: xs, h => by
    have h1 := h x List.mem_cons_self
    have h2 := canLayAll_of (xs := xs) fun y hy => h y (List.mem_cons_of_mem _ hy)
    simp [PyData.canLayAll0, h1, h2]
theorem depthAll_le {k : Nat} : ∀ {xs : List PyData}, (∀ x ∈ xs, x.depth ≤ k) → PyData.depthAll xs ≤ k
  | [], _ => by simp [PyData.depthAll]
  | x :: xs, h => by
    have h1 := h x List.mem_cons_self
    have h2 := depthAll_le (xs := xs) fun y hy => h y (List.mem_cons_of_mem _ hy)
    simp only [PyData.depthAll]
    omega
theorem gd_lay : ∀ (k : Nat) (d : PyData), gd k d = true → d.canLay0 = true ∧ d.depth ≤ k
  | k, .none, _ => by simp [PyData.canLay0, PyData.depth]
  | k, .int _, _ => by simp [PyData.canLay0, PyData.depth]
  | k, .str x, h => by
    have h' : PyData.strOk x = true := by cases k <;> simpa [gd] using h
    simp [PyData.canLay0, PyData.depth, h']
  | k, .bool _, h => by cases k <;> simp [gd] at h
  | k, .dict _, h => by cases k <;> simp [gd] at h
  | 0, .list _, h => by simp [gd] at h
  | 0, .tuple _, h => by simp [gd] at h
  | k + 1, .list xs, h => by
    have h' : xs.all (gd k) = true := by simpa [gd] using h
    have a := gd_all h'
    simp only [PyData.canLay0, PyData.depth]
    exact ⟨canLayAll_of fun x hx => (gd_lay k x (a x hx)).1, Nat.succ_le_succ (depthAll_le fun x hx => (gd_lay k x (a x hx)).2)⟩
  | k + 1, .tuple xs, h => by
    have h' : xs.all (gd k) = true := by simpa [gd] using h
    have a := gd_all h'
    simp only [PyData.canLay0, PyData.depth]
    exact ⟨canLayAll_of fun x hx => (gd_lay k x (a x hx)).1, Nat.succ_le_succ (depthAll_le fun x hx => (gd_lay k x (a x hx)).2)⟩
theorem gd_shaped {k : Nat} {d : PyData} (h : gd k d = true) (hk : k ≤ 64 := by decide) : SeqAt.shaped d = true := by
  obtain ⟨h1, h2⟩ := gd_lay k d h
  unfold SeqAt.shaped
  rw [h1]
  simp
  omega
theorem eqvAll_iff : ∀ (xs ys : List PyData), (∀ x ∈ xs, ∀ y ∈ ys, PyData.eqv x y = true ↔ x = y) → (PyData.eqvAll xs ys = true ↔ xs = ys)
  | [], [], _ => by simp [PyData.eqvAll]
  | [], _ :: _, _ => by simp [PyData.eqvAll]
  | _ :: _, [], _ => by simp [PyData.eqvAll]
  | x :: xs, y :: ys, h => by
    have h1 := h x List.mem_cons_self y List.mem_cons_self
    have h2 := eqvAll_iff xs ys fun a ha b hb => h a (List.mem_cons_of_mem _ ha) b (List.mem_cons_of_mem _ hb)
    simp [PyData.eqvAll, h1, h2]
theorem eqv_iff : ∀ (k m : Nat) (d e : PyData), gd k d = true → gd m e = true → (PyData.eqv d e = true ↔ d = e)
  | k, m, .bool _, e, h, _ => by cases k <;> simp [gd] at h
  | k, m, .dict _, e, h, _ => by cases k <;> simp [gd] at h
  | k, m, .none, e, _, h => by
    cases e with
    | bool _ => cases m <;> simp [gd] at h
    | dict _ => cases m <;> simp [gd] at h
    | _ => simp [PyData.eqv]
  | k, m, .int i, e, _, h => by
    cases e with
    | bool _ => cases m <;> simp [gd] at h
    | dict _ => cases m <;> simp [gd] at h
    | _ => simp [PyData.eqv]
  | k, m, .str i, e, _, h => by
    cases e with
    | bool _ => cases m <;> simp [gd] at h
    | dict _ => cases m <;> simp [gd] at h
    | _ => simp [PyData.eqv]
  | 0, m, .list _, e, h, _ => by simp [gd] at h
  | 0, m, .tuple _, e, h, _ => by simp [gd] at h
  | k + 1, m, .list xs, e, hd, h => by
    cases e with
    | bool _ => cases m <;> simp [gd] at h
    | dict _ => cases m <;> simp [gd] at h
    | list ys =>
      cases m with
      | zero => simp [gd] at h
      | succ m =>
        have a := gd_all (k := k) (xs := xs) (by simpa [gd] using hd)
        have b := gd_all (k := m) (xs := ys) (by simpa [gd] using h)
        simp only [PyData.eqv, PyData.list.injEq]
        exact eqvAll_iff xs ys fun x hx y hy => eqv_iff k m x y (a x hx) (b y hy)
    | _ => simp [PyData.eqv]
  | k + 1, m, .tuple xs, e, hd, h => by
    cases e with
    | bool _ => cases m <;> simp [gd] at h
    | dict _ => cases m <;> simp [gd] at h
    | tuple ys =>
      cases m with
      | zero => simp [gd] at h
      | succ m =>
        have a := gd_all (k := k) (xs := xs) (by simpa [gd] using hd)
        have b := gd_all (k := m) (xs := ys) (by simpa [gd] using h)
        simp only [PyData.eqv, PyData.tuple.injEq]
        exact eqvAll_iff xs ys fun x hx y hy => eqv_iff k m x y (a x hx) (b y hy)
    | _ => simp [PyData.eqv]
theorem eqv_of_eq {k : Nat} {d e : PyData} (h : gd k d = true) (e1 : d = e) : PyData.eqv d e = true := by
  subst e1
  exact (eqv_iff k k d d h h).mpr rfl
theorem eqv_of_ne {k m : Nat} {d e : PyData} (h : gd k d = true) (h' : gd m e = true) (e1 : d ≠ e) : PyData.eqv d e = false := by
  cases q : PyData.eqv d e with
  | false => rfl
  | true => exact absurd ((eqv_iff k m d e h h').mp q) e1
/-- the data of lists of ints, of tuples of ints -/
abbrev dLI (ns : List Int) : PyData := .list (ns.map .int)
abbrev dTI (ns : List Int) : PyData := .tuple (ns.map .int)
theorem gd_int_all (k : Nat) (ns : List Int) : (ns.map PyData.int).all (gd k) = true := by
  rw [List.all_eq_true]
  intro x hx
  obtain ⟨i, _, rfl⟩ := List.mem_map.mp hx
  cases k <;> rfl
theorem gd_dLI {k : Nat} (ns : List Int) : gd (k + 1) (dLI ns) = true := by simp only [dLI, gd]; exact gd_int_all k ns
theorem gd_dTI {k : Nat} (ns : List Int) : gd (k + 1) (dTI ns) = true := by simp only [dTI, gd]; exact gd_int_all k ns
theorem dpAll_ints {K : PySem.W.Frag} {H : Hp} : ∀ ns : List Int, DpAll K H (ns.map V.int) (ns.map PyData.int)
  | [] => .nil
  | n :: ns => .cons (.int n) (dpAll_ints ns)
theorem dp_LI {K : PySem.W.Frag} {H : Hp} {a : Addr} {ns : List Int} (h : SqL K H a (ns.map V.int)) : Dp K H (.ref a) (dLI ns) := .lst h (dpAll_ints ns)
theorem dp_TI {K : PySem.W.Frag} {H : Hp} {a : Addr} {ns : List Int} (h : SqT K H a (ns.map V.int)) : Dp K H (.ref a) (dTI ns) := .tup h (dpAll_ints ns)
theorem dLI_inj {ns ms : List Int} : dLI ns = dLI ms ↔ ns = ms := by
  constructor
  · intro h
    have h' : ns.map PyData.int = ms.map PyData.int := PyData.list.inj h
    exact (List.map_inj_right (fun _ _ q => PyData.int.inj q)).mp h'
  · intro h; rw [h]
theorem dTI_inj {ns ms : List Int} : dTI ns = dTI ms ↔ ns = ms := by
  constructor
  · intro h
    have h' : ns.map PyData.int = ms.map PyData.int := PyData.tuple.inj h
    exact (List.map_inj_right (fun _ _ q => PyData.int.inj q)).mp h'
  · intro h; rw [h]
/-- == of two data -/
theorem eqD {K : PySem.W.Frag} {H : Hp} {x y : V} {d e : PyData} {Q : VK} {k m : Nat} (hd : Dp K H x d) (he : Dp K H y e) (gk : gd k d = true) (gm : gd m e = true) (h1 : d = e → Q (.bl true) H) (h2 : d ≠ e → Q (.bl false) H) (hk : k ≤ 64 := by decide) (hm : m ≤ 64 := by decide) : rEqD K x y H Q := by
  refine ⟨d, e, hd, he, gd_shaped gk hk, gd_shaped gm hm, ?_⟩
  by_cases c : d = e
  · rw [eqv_of_eq gk c]; exact h1 c
  · rw [eqv_of_ne gk gm c]; exact h2 c
theorem neD {K : PySem.W.Frag} {H : Hp} {x y : V} {d e : PyData} {Q : VK} {k m : Nat} (hd : Dp K H x d) (he : Dp K H y e) (gk : gd k d = true) (gm : gd m e = true) (h1 : d = e → Q (.bl false) H) (h2 : d ≠ e → Q (.bl true) H) (hk : k ≤ 64 := by decide) (hm : m ≤ 64 := by decide) : rNeD K x y H Q := by
  refine ⟨d, e, hd, he, gd_shaped gk hk, gd_shaped gm hm, ?_⟩
  by_cases c : d = e
  · rw [eqv_of_eq gk c]; exact h1 c
  · rw [eqv_of_ne gk gm c]; exact h2 c
theorem newF {H H' : Hp} {p : Addr} {o : HO} (hp : H p = none) (e : upd H p o = H') : Same H H' ∧ H' p = some o := by
  subst e
  exact ⟨same_upd hp, upd_same⟩
/-- an item of a list, by its place -/
theorem ixL {K : PySem.W.Frag} {H : Hp} {p : Addr} {xs : List V} {i : Int} {j : Nat} {v : V} {Q : VK} (h : SqL K H p xs) (hi : i = (j : Int)) (e : xs[j]? = some v) (q : Q v H) : rIxL K (.ref p) (.int i) H Q :=
  ⟨p, xs, i, v, rfl, rfl, h, by rw [hi]; exact atI_nat e, q⟩
theorem ixT {K : PySem.W.Frag} {H : Hp} {p : Addr} {xs : List V} {i : Int} {j : Nat} {v : V} {Q : VK} (h : SqT K H p xs) (hi : i = (j : Int)) (e : xs[j]? = some v) (q : Q v H) : rIxT K (.ref p) (.int i) H Q :=
  ⟨p, xs, i, v, rfl, rfl, h, by rw [hi]; exact atI_nat e, q⟩
theorem setL {H : Hp} {p : Addr} {xs : List V} {i : Int} {j : Nat} {v : V} {Q : Hp → Prop} (h : H p = some (.lst xs)) (hi : i = (j : Int)) (e : j < xs.length) (q : Q (upd H p (.lst (xs.set j v)))) : rSetL (.ref p) (.int i) v H Q :=
  ⟨p, xs, i, j, rfl, rfl, h, by rw [hi]; unfold ixN; rw [if_pos (by omega), if_pos (by omega)]; simp, q⟩
theorem tyL {K : PySem.W.Frag} {H : Hp} {l : Addr} {xs : List V} (h : H l = some (.lst xs)) : tyV K "list" (.ref l) H := .inl ⟨rfl, _, SqL.of h⟩
theorem appR {H : Hp} {l : Addr} {xs : List V} {y : V} {Q : VK} (h : H l = some (.lst xs)) (hz : xs.length ≤ 99999) (q : Q .non (upd H l (.lst (xs ++ [y])))) : rAppend (.ref l) [y] H Q :=
  ⟨l, xs, y, rfl, rfl, h, szl (by omega), q⟩
theorem app {K : PySem.W.Frag} {H : Hp} {l : Addr} {xs : List V} {y : V} {Q : VK} (h : H l = some (.lst xs)) (hz : xs.length ≤ 99999) (q : Q .non (upd H l (.lst (xs ++ [y])))) : tyV K "list" (.ref l) H ∧ rAppend (.ref l) [y] H Q :=
  ⟨tyL h, l, xs, y, rfl, rfl, h, szl (by omega), q⟩
theorem Same.app {H H' : Hp} {p : Addr} {o : HO} (s : Same H H') (n : H p = none) : Same H (upd H' p o) := fun b x e => by
  rw [upd_ne (ne_of_none e n)]
  exact s b x e
theorem inV_ints (n : Int) (l : List Int) : inV (.int n) (l.map V.int) = decide (n ∈ l) := by
  unfold inV
  rw [List.any_map, Bool.eq_iff_iff, List.any_eq_true, decide_eq_true_eq]
  constructor
  · rintro ⟨x, hx, e⟩
    have : x = n := by simpa [eqV] using e
    rw [← this]; exact hx
  · intro h
    exact ⟨n, h, by simp [eqV]⟩
theorem flat_ints (l : List Int) : (l.map V.int).all flatV = true := by
  rw [List.all_eq_true]
  intro x hx
  obtain ⟨i, _, rfl⟩ := List.mem_map.mp hx
  rfl
end Nk
/-! ### d.keys() as a value; sorted of it -/
namespace Nk
open PySem L2 PySem.Spec PyProof.Rows
def KeysO (v d : Addr) : HO := .ext fun h => PySem.W.KdlKeysView h v d
theorem keysO_ok {P : Program} {w : World} {H : Hp} {h : Heap} {v d : Addr} (e : PySem.W.KdlKeysView h v d) : ObjOk P w H h v (KeysO v d) := by
  obtain ⟨o, ho, hc, hd⟩ := e
  exact ⟨⟨o, ho, hc, hd⟩, ⟨o, ho⟩, fun h1 h2 ⟨o', q, r⟩ k => ⟨o', k o' q, r⟩⟩
def rKeys : V → List V → Hp → VK → Prop := fun x xs H Q => ∃ (d : Addr) (kvs : List (Key × V)), x = .ref d ∧ xs = [] ∧ H d = some (.dK kvs) ∧ ∀ v, H v = none → Q (.ref v) (upd H v (KeysO v d))
section
variable {X : Cx}
theorem mt_keys : MtR X "dict.keys" rKeys := by
  intro pins s σ H x xs v us Q I rx rxs h
  obtain ⟨d, kvs, rfl, rfl, hd, q⟩ := h
  cases rx
  cases rxs
  obtain ⟨hz, hs0, vs, kv, hdo⟩ := I.hok d _ hd
  refine PySem.call_meetsIn F.slot_dict_keys hdo.typeIs F.entry_dict_keys (F.args_dict_keys_1 _) (PySem.W.kdl_meets_keys (mixKind X.prog X.w) d hs0) ⟨⟨vs, hdo⟩, ?_⟩
  refine ⟨.ref s.heap.objs.size, upd H s.heap.objs.size (KeysO s.heap.objs.size d), I.laid (t' := s.toks) (fun b ob q => Heap.get?_push_of_some _ q) (Nat.le_refl _) (keysO_ok ⟨_, Heap.get?_push_size _ rfl, rfl, rfl⟩), rfl, q _ (I.hok.fresh (Nat.le_refl _))⟩
/-- sorted(d.keys()), whole numbers, any number of them -/
def rSortedKI : List V → Hp → VK → Prop := fun xs H Q => ∃ (v d : Addr) (kvs : List (Key × V)) (ks : List Int), xs = [.ref v] ∧ H v = some (KeysO v d) ∧ H d = some (.dK kvs) ∧ kvs.map (·.1) = ks.map Sum.inl ∧
  ∀ (ys : List Int) (p : Addr), ys.Perm ks → ys.Pairwise (· ≤ ·) → H p = none → Q (.ref p) (upd H p (.lst (ys.map V.int)))
theorem cr_sortedKI (hcalm : X.calm = true) : CallR X (.builtin "sorted") rSortedKI := by
  intro pins s σ H xs us Q I r q
  obtain ⟨v, a, kvs, ks, ex, hv, hd, hks, q⟩ := q
  subst ex
  obtain ⟨u, eu, rx⟩ := vals1 r
  subst eu
  cases rx
  have hview : PySem.W.KdlKeysView s.heap v a := (I.hok v _ hv).1
  obtain ⟨z, lo, vs, rel, dd⟩ := I.hok a _ hd
  obtain ⟨ep, hat⟩ := dd.dictAt
  have hkeys : vs.map (·.1) = ks.map Sum.inl := rel.keys.symm.trans hks
  have hl : vs.length = ks.length := by
    have e := congrArg List.length hkeys
    rw [List.length_map, List.length_map] at e
    exact e
  have hl2 : kvs.length = vs.length := Paired.length rel
  have h16 : vs.length ≤ sizeLine := by omega
  refine Calls.call_function_entry PyProof.Rows.kind_sorted PyProof.Rows.plain_sorted PyProof.Rows.entry_sorted (PyProof.Rows.args_sorted1 _) ?_
  unfold Builtin.«sorted»
  refine wpAny_bind (m := checkCount "sorted" 1 1 _) (wpAny_pure ?_)
  refine wpAny_bind (PySem.W.kdu_collect (A := X.A.in1) (PySem.W.kdl_keys (knd := mixKind X.prog X.w) (r := v) (d := a) (kvs := vs) (ep := ep)) (I.ok.hd hcalm) ⟨hview, hat⟩ h16 fun h' tk acc hk hacc => ?_)
  have hal : acc.toList.length = ks.length := by rw [Array.length_toList, hacc.1, hl]
  have hS : IntsAre acc.toList ks := ints_each hal fun j v e => by
    obtain ⟨k, x, e1, e2⟩ := hacc.2 j v (by rw [← Array.getElem?_toList]; exact e)
    have e3 : (vs.map (·.1))[j]? = some k := by rw [List.getElem?_map, e1]; rfl
    rw [hkeys, List.getElem?_map] at e3
    cases e4 : ks[j]? with
    | none => rw [e4] at e3; cases e3
    | some y =>
      rw [e4] at e3
      have e5 : Sum.inl y = k := Option.some.inj e3
      subst e5
      rcases keyIs_shape (show keyIs (Sum.inl y) v = true from e2) with ⟨i, t, ek, ev⟩ | ⟨z, t, ek, ev⟩
      · cases ek
        exact ⟨y, t, rfl, ev⟩
      · cases ek
  have I1 : Inv X pins σ H { s with heap := h', toks := tk } := I.kept hk
  refine wpAny_bind (wpAny_newList ?_ (by rw [hal]; omega))
  have hoL : (h'.push (seqObj "list" acc.toList.toArray 0)).get? h'.objs.size = some (seqObj "list" acc.toList.toArray 0) := Heap.get?_push_size _ rfl
  show wpAny _ _ _ _ _ { s with heap := h'.push (seqObj "list" acc.toList.toArray 0), toks := tk }
  refine wpAny_bind (wpAny_holding (wpAny_call_entry PyProof.Rows.slot_list_sort ⟨_, hoL, rfl⟩ PyProof.Rows.entry_list_sort
    (SrtO.list_sort_ord (s := { s with heap := h'.push (seqObj "list" acc.toList.toArray 0), toks := tk }) SrtO.swo_int hoL (by rw [hal]; omega) (fun h2 => SrtO.ints_sortable hS h2) fun out g1 g2 => ⟨_, rfl, ?_⟩) (PyProof.Rows.args_list_sort _)))
  obtain ⟨k1, k2, k3⟩ := SrtO.ints_out hS g1 g2
  obtain ⟨e', he'⟩ := PyProof.Rows.sortedHeap_at (vs := acc.toList) (out := out.toArray) hoL
  have hlen : ((out.map SrtO.iv).map V.int).length ≤ sizeLine := by
    rw [List.length_map, k2.length_eq]
    omega
  refine wpAny_pure ⟨_, rfl, .ref h'.objs.size, upd H h'.objs.size (.lst ((out.map SrtO.iv).map V.int)), I1.laid (t' := tk) (fun b u e => ?_) (Nat.le_refl _)
    (show ObjOk X.prog X.w _ _ _ (.lst ((out.map SrtO.iv).map V.int)) from ⟨hlen, out, e', vals_of_ints k1, he'⟩), rfl, q _ _ k2 k3 (I1.hok.fresh (Nat.le_refl _))⟩
  have hb : b < h'.objs.size := Heap.lt_size e
  rw [PyProof.Rows.sortedHeap_old (Nat.ne_of_lt hb) (by rw [size_push']; exact Nat.lt_succ_of_lt hb)]
  exact Heap.get?_push_of_some _ e
end
end Nk
/-! ### the layer's rules with the written part named (for comprehensions, where the reading may not lean on the block) -/
namespace Nk
open PySem L2
section
variable {X : Cx} {K : PySem.W.Frag}
theorem op_inK (K : PySem.W.Frag) (h : X.K = K) : OpR X (compareOp .In) (rIn K false) := h ▸ op_in_seq
theorem op_notInK (K : PySem.W.Frag) (h : X.K = K) : OpR X (compareOp .NotIn) (rIn K true) := h ▸ op_notIn_seq
theorem ix_listK (K : PySem.W.Frag) (h : X.K = K) : IxR X (rIxL K) := h ▸ ix_list
theorem ix_tupK (K : PySem.W.Frag) (h : X.K = K) : IxR X (rIxT K) := h ▸ ix_tup
theorem sl_listK (K : PySem.W.Frag) (h : X.K = K) : SlR X (rSlL K) := h ▸ sl_list
theorem sl_tupK (K : PySem.W.Frag) (h : X.K = K) : SlR X (rSlT K) := h ▸ sl_tup
def rLenQ (K : PySem.W.Frag) : List V → Hp → VK → Prop := fun xs H Q => ∃ p ys, xs = [V.ref p] ∧ (SqL K H p ys ∨ SqT K H p ys) ∧ Q (.int ys.length) H
theorem call_lenK (K : PySem.W.Frag) (h : X.K = K) : CallR X (.builtin "len") (rLenQ K) := h ▸ call_len_seq
def rListQ (K : PySem.W.Frag) : List V → Hp → VK → Prop := fun xs H Q => ∃ p ys, xs = [V.ref p] ∧ (SqL K H p ys ∨ SqT K H p ys) ∧ ∀ l, H l = none → Q (.ref l) (upd H l (.lst ys))
theorem call_listK (K : PySem.W.Frag) (h : X.K = K) : CallR X (.type "list") (rListQ K) := h ▸ call_list_of
def rTupleQ (K : PySem.W.Frag) : List V → Hp → VK → Prop := fun xs H Q => ∃ p ys, xs = [V.ref p] ∧ ((SqL K H p ys ∧ ∀ l, H l = none → Q (.ref l) (upd H l (.tup ys))) ∨ (SqT K H p ys ∧ Q (.ref p) H))
theorem call_tupleK (K : PySem.W.Frag) (h : X.K = K) : CallR X (.type "tuple") (rTupleQ K) := h ▸ call_tuple_of
theorem cr_sumK (K : PySem.W.Frag) (h : X.K = K) (hc : X.calm = true) : CallR X (.builtin "sum") (rSum K) := h ▸ cr_sum hc
theorem cr_sumTK (K : PySem.W.Frag) (h : X.K = K) (hc : X.calm = true) : CallR X (.builtin "sum") (rSumT K) := h ▸ cr_sumT hc
theorem cr_allK (K : PySem.W.Frag) (h : X.K = K) (hc : X.calm = true) : CallR X (.builtin "all") (rAll K) := h ▸ cr_all hc
theorem cr_anyK (K : PySem.W.Frag) (h : X.K = K) (hc : X.calm = true) : CallR X (.builtin "any") (rAny K) := h ▸ cr_any hc
theorem cr_maxK (K : PySem.W.Frag) (h : X.K = K) (hc : X.calm = true) : CallR X (.builtin "max") (rMax K) := h ▸ cr_max hc
theorem cr_minK (K : PySem.W.Frag) (h : X.K = K) (hc : X.calm = true) : CallR X (.builtin "min") (rMin K) := h ▸ cr_min hc
theorem op_eqDK (K : PySem.W.Frag) (h : X.K = K) (hu : X.A.units + 64 < cLine) : OpR X (compareOp .Eq) (rEqD K) := h ▸ op_eqD hu
theorem op_neDK (K : PySem.W.Frag) (h : X.K = K) (hu : X.A.units + 64 < cLine) : OpR X (compareOp .NotEq) (rNeD K) := h ▸ op_neD hu
theorem op_catTK (K : PySem.W.Frag) (h : X.K = K) : OpR X (binaryOp .Add) (rCatT K) := h ▸ op_catT
theorem call_isiK_ (K : PySem.W.Frag) (h : X.K = K) : CallR X (.builtin "isinstance") (rIsi K) := h ▸ call_isi
theorem pi_listK {tg l : Expr} {tl : TE} (K : PySem.W.Frag) (h : X.K = K) (hl : PE X l tl) : PI X tg l (iList K tl) := h ▸ pi_list hl
theorem pi_tupK {tg l : Expr} {tl : TE} (K : PySem.W.Frag) (h : X.K = K) (hl : PE X l tl) : PI X tg l (iTup K tl) := h ▸ pi_tup hl
theorem pg_tupK {es : List Expr} {k : Nat} {t : TGs} {n : Nat} {pos : Pos} (K : PySem.W.Frag) (hK : X.K = K) (hc : X.calm = true) (h : PGs X es t)
    (hn : (assignEach es X.env).length = n := by rfl) (hst : (assignEach es X.env).findIdx? (·.1) = none := by rfl) : PG X (.Tuple es k pos) (gTup K n t) := hK ▸ pg_tup hc h hn hst
theorem pi_enumK {e : Expr} {ta : TA} {p pos tpos : Pos} {elts : List Expr} {kk : Nat} (K : PySem.W.Frag) (h : X.K = K) (hg : Gl X "enumerate") (hm : X.mg "enumerate" = none) (ha : PA X [e] ta) (hs : starEach [e] X.env = [(false, eval e X.env)] := by rfl) :
    PI X (.Tuple elts kk tpos) (.Call (.Name "enumerate" p) [e] [] pos) (iEnum K ta) := h ▸ pi_enum hg hm ha hs
theorem pi_zipK {e e2 : Expr} {ta : TA} {p pos tpos : Pos} {elts : List Expr} {kk : Nat} (K : PySem.W.Frag) (h : X.K = K) (hg : Gl X "zip") (hm : X.mg "zip" = none) (ha : PA X [e, e2] ta)
    (hs : starEach [e, e2] X.env = (false, eval e X.env) :: starEach [e2] X.env := by rfl) (hpl : (backTo pos (starEach [e2] X.env)).any (·.1) = false := by rfl) :
    PI X (.Tuple elts kk tpos) (.Call (.Name "zip" p) [e, e2] [] pos) (iZip K ta) := h ▸ pi_zip hg hm ha hs hpl
end
end Nk
/-! ### more rules: tuples put together (the left one may be empty), ranges, == of lists with [] -/
namespace Nk
open PySem L2 PySem.Spec PyProof.Rows
section
variable {X : Cx}
def rCatT3 : R2 := fun x y H Q => ∃ a b xs ys, x = .ref a ∧ y = .ref b ∧ H a = some (.tup xs) ∧ H b = some (.tup ys) ∧ xs.length + ys.length ≤ 100000 ∧ ∀ p H', Same H H' → H' p = some (.tup (xs ++ ys)) → Q (.ref p) H'
theorem op_catT3 : OpR X (binaryOp .Add) rCatT3 := by
  intro pins s σ H x y v u Q I rx ry h
  obtain ⟨a, b, xs, ys, rfl, rfl, ha, hb, hz, q⟩ := h
  by_cases hx : xs = []
  · subst hx
    cases rx
    cases ry
    obtain ⟨its, r1, p1, _⟩ := I.tuple (sqT (K := X.K) ha)
    obtain ⟨its2, r2, p2, _⟩ := I.tuple (sqT (K := X.K) hb)
    cases r1
    obtain ⟨⟨cls, dd, data, sl⟩, ho, hc, n, hd⟩ := id p1
    obtain ⟨⟨cls2, dd2, data2, sl2⟩, ho2, hc2, n2, hd2⟩ := id p2
    simp only at hc hd hc2 hd2
    subst hc hd hc2 hd2
    exact concat_meets ⟨_, ho, rfl⟩ ⟨_, ho2, rfl⟩ noFill_tuple_add seq_tuple_add PySem.F.slot_tuple_add PySem.F.entry_tuple_add (PySem.F.args_tuple_add_2 _ _)
      (tuple_addW0 a b #[] its2.toArray n n2 dd dd2 sl sl2 (by rfl)) ⟨ho, ho2, ⟨.ref b, H, I, rfl, q b H (Same.refl _) hb⟩⟩
  · refine op_catT pins s σ H (.ref a) (.ref b) v u Q I rx ry ⟨a, b, xs, ys, rfl, rfl, sqT ha, sqT hb, hx, sz hz, fun e => ?_, fun _ p hp => q p _ (same_upd hp) upd_same⟩
    subst e
    exact q a H (Same.refl _) (by rw [List.append_nil]; exact ha)
def rInR (neg : Bool) : R2 := fun x y H Q => ∃ i a lo hi, x = V.int i ∧ y = V.ref a ∧ H a = some (.rng lo hi) ∧ Q (.bl (if neg then !decide (lo ≤ i ∧ i < hi) else decide (lo ≤ i ∧ i < hi))) H
theorem op_inR : OpR X (compareOp .In) (rInR false) := op_in_rng
theorem op_notInR : OpR X (compareOp .NotIn) (rInR true) := by
  intro pins s σ H x y v u Q I rx ry h
  obtain ⟨i, a, lo, hi, rfl, rfl, ha, q⟩ := h
  obtain ⟨k, rfl⟩ := rx
  obtain rfl : u = Value.ref a := ry
  obtain ⟨t1, t2, t3, ho⟩ := I.hok a _ ha
  show wpAny _ _ (do return Value.bool (!(← contains (Value.ref a) (Value.int i k)))) _ _ s
  refine wpAny_bind (wpAny_contains_slot (T := "range") ⟨_, ho, rfl⟩ F.slot_range_contains (call_meets F.slot_range_contains ⟨_, ho, rfl⟩ F.entry_range_contains (F.args_range_contains_2 _ _) (q_contains a lo hi i t1 t2 t3 k)
    ⟨ho, wpAny_truthy_bool (wpAny_pure ⟨.bl _, H, I, rfl, ?_⟩)⟩))
  rw [place1]
  exact q
def rRange : List V → Hp → VK → Prop := fun vs H Q => ∃ i j, vs = [V.int i, V.int j] ∧ ∀ p, H p = none → Q (.ref p) (upd H p (.rng i j))
theorem cr_rangeV : CallR X (.type "range") rRange := cr_range2
end
/-- data, bools among them -/
def gb : Nat → PyData → Bool
  | _, .none => true
  | _, .int _ => true
  | _, .str x => PyData.strOk x
  | _, .bool _ => true
  | k + 1, .list xs => xs.all (gb k)
  | k + 1, .tuple xs => xs.all (gb k)
  | _, _ => false
theorem gb_lay : ∀ (k : Nat) (d : PyData), gb k d = true → d.canLay0 = true ∧ d.depth ≤ k
  | k, .none, _ => by simp [PyData.canLay0, PyData.depth]
  | k, .bool _, _ => by simp [PyData.canLay0, PyData.depth]
  | k, .int _, _ => by simp [PyData.canLay0, PyData.depth]
  | k, .str x, h => by
    have h' : PyData.strOk x = true := by simpa [gb] using h
    simp [PyData.canLay0, PyData.depth, h']
  | k, .dict _, h => by cases k <;> simp [gb] at h
  | 0, .list _, h => by simp [gb] at h
  | 0, .tuple _, h => by simp [gb] at h
  | k + 1, .list xs, h => by
    have a : ∀ x ∈ xs, gb k x = true := by simpa [gb] using h
    simp only [PyData.canLay0, PyData.depth]
    exact ⟨canLayAll_of fun x hx => (gb_lay k x (a x hx)).1, Nat.succ_le_succ (depthAll_le fun x hx => (gb_lay k x (a x hx)).2)⟩
  | k + 1, .tuple xs, h => by
    have a : ∀ x ∈ xs, gb k x = true := by simpa [gb] using h
    simp only [PyData.canLay0, PyData.depth]
    exact ⟨canLayAll_of fun x hx => (gb_lay k x (a x hx)).1, Nat.succ_le_succ (depthAll_le fun x hx => (gb_lay k x (a x hx)).2)⟩
theorem gb_shaped {k : Nat} {d : PyData} (h : gb k d = true) (hk : k ≤ 64 := by decide) : SeqAt.shaped d = true := by
  obtain ⟨h1, h2⟩ := gb_lay k d h
  unfold SeqAt.shaped
  rw [h1]
  simp
  omega
/-- a thing that may stand within another: it can be laid down as data -/
def Dat (K : PySem.W.Frag) (H : Hp) (k : Nat) (x : V) : Prop := ∃ d, Dp K H x d ∧ gb k d = true
mutual
theorem Dp.same {K : PySem.W.Frag} {H H' : Hp} (s : Same H H') : ∀ {x : V} {d : PyData}, Dp K H x d → Dp K H' x d
  | _, _, .non => .non
  | _, _, .bl b => .bl b
  | _, _, .int i => .int i
  | _, _, .str x => .str x
  | _, _, .lst h a => .lst (s.seq h) (DpAll.same s a)
  | _, _, .tup h a => .tup (Same.tup s h) (DpAll.same s a)
theorem DpAll.same {K : PySem.W.Frag} {H H' : Hp} (s : Same H H') : ∀ {xs : List V} {ds : List PyData}, DpAll K H xs ds → DpAll K H' xs ds
  | _, _, .nil => .nil
  | _, _, .cons h a => .cons (Dp.same s h) (DpAll.same s a)
end
theorem Dat.same {K : PySem.W.Frag} {H H' : Hp} {k : Nat} {x : V} (s : Same H H') (h : Dat K H k x) : Dat K H' k x := by
  obtain ⟨d, h1, h2⟩ := h
  exact ⟨d, Dp.same s h1, h2⟩
theorem dat_all {K : PySem.W.Frag} {H : Hp} {k : Nat} : ∀ {xs : List V}, (∀ x ∈ xs, Dat K H k x) → ∃ ds, DpAll K H xs ds ∧ ds.all (gb k) = true ∧ ds.length = xs.length
  | [], _ => ⟨[], .nil, rfl, rfl⟩
  | x :: xs, h => by
    obtain ⟨d, h1, h2⟩ := h x List.mem_cons_self
    obtain ⟨ds, a, b, c⟩ := dat_all (xs := xs) fun y hy => h y (List.mem_cons_of_mem _ hy)
    exact ⟨d :: ds, .cons h1 a, by rw [List.all_cons, h2, b]; rfl, by simp [c]⟩
theorem eqv_nil {ds : List PyData} (h : ds ≠ []) : PyData.eqv (.list ds) (.list []) = false := by
  cases ds with
  | nil => exact absurd rfl h
  | cons d ds => simp [PyData.eqv, PyData.eqvAll]
/-- l == [], whatever stands in l -/
theorem eqE {K : PySem.W.Frag} {H : Hp} {a b : Addr} {xs : List V} {k : Nat} {Q : VK} (ha : SqL K H a xs) (hx : ∀ x ∈ xs, Dat K H k x) (hb : SqL K H b []) (h1 : xs = [] → Q (.bl true) H) (h2 : xs ≠ [] → Q (.bl false) H) (hk : k + 1 ≤ 64 := by decide) : rEqD K (.ref a) (.ref b) H Q := by
  obtain ⟨ds, d1, d2, d3⟩ := dat_all hx
  refine ⟨.list ds, .list [], .lst ha d1, .lst hb .nil, gb_shaped (k := k + 1) (by simpa [gb] using d2) hk, by decide, ?_⟩
  by_cases c : xs = []
  · have : ds = [] := List.length_eq_zero_iff.mp (by rw [d3, c]; rfl)
    subst this
    exact h1 c
  · rw [eqv_nil (fun e => c (List.length_eq_zero_iff.mp (by rw [← d3, e]; rfl)))]
    exact h2 c
theorem neE {K : PySem.W.Frag} {H : Hp} {a b : Addr} {xs : List V} {k : Nat} {Q : VK} (ha : SqL K H a xs) (hx : ∀ x ∈ xs, Dat K H k x) (hb : SqL K H b []) (h1 : xs = [] → Q (.bl false) H) (h2 : xs ≠ [] → Q (.bl true) H) (hk : k + 1 ≤ 64 := by decide) : rNeD K (.ref a) (.ref b) H Q := by
  obtain ⟨ds, d1, d2, d3⟩ := dat_all hx
  refine ⟨.list ds, .list [], .lst ha d1, .lst hb .nil, gb_shaped (k := k + 1) (by simpa [gb] using d2) hk, by decide, ?_⟩
  by_cases c : xs = []
  · have : ds = [] := List.length_eq_zero_iff.mp (by rw [d3, c]; rfl)
    subst this
    exact h1 c
  · rw [eqv_nil (fun e => c (List.length_eq_zero_iff.mp (by rw [← d3, e]; rfl)))]
    exact h2 c
end Nk
/-! ### comprehensions that filter ints -/
namespace Nk
open PySem L2
theorem lcF {K : PySem.W.Frag} {a : Addr} {ns : List Int} {j : Nat} {tt : TT} {vs : List Nat} {σ : L2.St} {H1 : Hp} {D : Addr} {Qd : Hp → Prop} (f : Int → Bool) (hD : H1 D = none) (hT : SqL K H1 a (ns.map V.int)) (hn : ns.length ≤ 99999)
    (hj : ∀ v : V, ((wipe σ vs).set j (some v))[j]? = some (some v)) (hw : ∀ v : V, wipe ((wipe σ vs).set j (some v)) vs = wipe σ vs)
    (ht : ∀ n H, n ∈ ns → Same H1 H → ∀ Q : Bool → Hp → Prop, (∀ H', Same H H' → Q (f n) H') → tt ((wipe σ vs).set j (some (.int n))) H Q)
    (hd : ∀ H, Same H1 H → H D = some (.lst ((ns.filter f).map V.int)) → Qd H) : LcW (Itl K a) (gName j) tt (tVar j) vs σ H1 D Qd := by
  refine lcL hD hT (fun i => ((ns.take i).filter f).map V.int) (by simp) (fun i x H hx p => ?_) (fun H s hH => hd H s (by simpa using hH))
  rw [List.getElem?_map] at hx
  cases e : ns[i]? with
  | none => rw [e] at hx; cases hx
  | some n =>
  rw [e] at hx
  cases hx
  refine ⟨hw _, ht n H (mem_of_get e) p.same _ fun H' s => ?_⟩
  have hf := filter_take_next f e
  cases c : f n with
  | true =>
    rw [if_pos rfl]
    refine ⟨_, hj _, p.push hD (by rw [List.length_map]; exact Nat.le_trans (filter_len ns f i) hn) s ?_⟩
    show _ = _
    rw [hf, c]
    simp
  | false =>
    rw [if_neg Bool.false_ne_true]
    refine p.skip s ?_
    show _ = _
    rw [hf, c]
    simp
theorem cut_from (xs : List V) (j : Nat) : cutV xs (some (j : Int)) none = xs.drop j := by
  unfold cutV
  rw [HT.sIx_none, HT.sIx_nat]
  by_cases h : j ≤ xs.length
  · rw [Nat.min_eq_left h, List.take_of_length_le (by simp)]
  · rw [Nat.min_eq_right (by omega), List.drop_of_length_le (Nat.le_refl _), List.drop_of_length_le (by omega)]
    simp
theorem cut_to (xs : List V) (j : Nat) : cutV xs none (some (j : Int)) = xs.take j := by
  unfold cutV
  rw [HT.sIx_none, HT.sIx_nat, List.drop_zero, Nat.sub_zero]
  by_cases h : j ≤ xs.length
  · rw [Nat.min_eq_left h]
  · rw [Nat.min_eq_right (by omega), List.take_of_length_le (Nat.le_refl _), List.take_of_length_le (by omega)]
end Nk
/-! ### a caught error that is kept behind its clause -/
namespace Nk
open PySem L2 PySem.Spec PyProof.Rows
/-- an error of the class cl with the own dict d, that was caught -/
def ExV (cl : Value) (d : Option Addr) (a : Addr) : HO := .ext fun h => ∃ oe, h.get? a = some oe ∧ Zc cl d oe ∧ ∃ vs, oe.data = .fields vs
theorem exV_ok {P : Program} {w : World} {H : Hp} {h : Heap} {a : Addr} {cl : Value} {d : Option Addr} {oe : Obj} (e : h.get? a = some oe) (z : Zc cl d oe) (f : ∃ vs, oe.data = .fields vs) : ObjOk P w H h a (ExV cl d a) :=
  ⟨⟨oe, e, z, f⟩, ⟨oe, e⟩, fun _ _ ⟨o, q, r⟩ k => ⟨o, k o q, r⟩⟩
section
variable {X : Cx} {pins : List (Addr × Obj)} {σ : L2.St} {H : Hp} {s : Shared} {a : Addr} {o : HO} {oe : Obj}
/-- an object that was made since the entry is tracked from now on -/
theorem inv_track (I : Inv X pins σ H s) (ha : s.heap.get? a = some oe) (hf : ∃ vs, oe.data = .fields vs) (na : H a = none) (n0 : X.s_0.heap.get? a = none) (nL : a ≠ X.env.locals) (np : ∀ p ∈ X.pn ++ pins, p.1 ≠ a)
    (new : ObjOk X.prog X.w (upd H a o) s.heap a o) : Inv X pins σ (upd H a o) s := by
  have off : ∀ {b : Addr} {u : HO}, H b = some u → (upd H a o) b = some u := fun {b u} e => by rw [upd_ne (ne_of_none e na)]; exact e
  have offN : ∀ {b : Addr}, H b = none → b ≠ a → (upd H a o) b = none := fun {b} e n => by rw [upd_ne n]; exact e
  have old : ∀ {b : Addr} {u : Obj}, X.s_0.heap.get? b = some u → b ≠ a := fun {b u} e z => by rw [z, n0] at e; cases e
  obtain ⟨vs, hvs⟩ := hf
  refine { ok := I.ok, os := I.os, bare := I.bare, base := ?_, loc := I.loc, cell := I.cell, free := offN I.free (Ne.symm nL), freeC := ?_, pin := ?_, hok := ?_, len := I.len }
  · exact { keep := I.base.keep, slot := I.base.slot, free := fun b u e n hx => offN (I.base.free b u e n hx) (old e), there := I.base.there, tups := fun b xs e => off (I.base.tups b xs e), frzs := fun b u v e => off (I.base.frzs b u v e), tbls := fun b ps e => by
              obtain ⟨m, q⟩ := I.base.tbls b ps e
              exact ⟨m, off q⟩ }
  · intro x c e
    refine offN (I.freeC x c e) fun z => ?_
    obtain ⟨v, oc, hc, hd⟩ := I.cell x c e
    rw [z, ha] at hc
    cases hc
    rw [hvs] at hd
    cases hd
  · intro p hp
    obtain ⟨h1, h2, h3, h4, h5⟩ := I.pin p hp
    exact ⟨h1, offN h2 (np p hp), h3, h4, h5⟩
  · intro b u e
    by_cases hb : b = a
    · subst hb
      rw [upd_same] at e
      cases e
      exact new
    · rw [upd_ne hb] at e
      exact (I.hok b u e).stay (fun _ _ _ q => q) (fun _ q => off q) fun _ _ q => off q
end
/-- what 'except x as n: y = n' wishes of an error of the body: n in slot i, y in slot j -/
def wKept (K : PySem.W.Frag) (c : Value) (i j : Nat) (Wout : WX) (D : Ends) : WX := fun cl d σ H =>
  ∃ b, PySem.W.exmOne K cl c = some b ∧ (b = true → ∀ a, H a = none → D.nx ((σ.set i (some (.ref a))).set j (some (.ref a)) |>.set i none) (upd H a (ExV cl d a))) ∧ (b = false → Wout cl d σ H)
section
variable {X : Cx} {x n : Str} {c : Value} {i j : Nat} {body : List Stmt} {b₀ : Stmt} {np pos pos' : Pos} {tb : WX → TS} {Wout : WX}
theorem ps_try_kept (hs : X.stack = X.env :: X.outer) (hf : X.env.frame = some X.env.locals) (hex : X.ex = []) (hN : X.N.Nodup) (hi : X.N[i]? = some n) (hln : X.env.kindOf n = some .local) (hc : Names X x c) (tk : Takes X Wout)
    (hb : ∀ (W : WX) (pn : List (Addr × Obj)) (xe : Value → Shared → Prop), Takes (X.tr pn xe) W → PassesOwn (model X.prog X.w) X.A X.env xe → PSs (X.tr pn xe) body (tb W))
    (hsu : ∀ (a : Addr) (oe : Obj) (pn : List (Addr × Obj)), PSs (X.suite a ((a, oe) :: pn)) [b₀] (tAsg (tVar i) (gName j))) (hlen : i < X.N.length) :
    PS X (.Try body [.ExceptHandler (some (.Name x np)) (some n) [b₀] pos'] [] [] pos) (fun D σ H => tb (wKept X.K c i j Wout D) D σ H) := by
  refine ⟨fun pins s σ H D I h => ?_⟩
  have ok := I.ok
  have hfr : X.A.frames = some (X.env :: X.outer) := by rw [ok.frames, hs]
  refine wpAny_Try_except ?_
  refine wpAny_mono ((hb (wKept X.K c i j Wout D) (X.pn ++ pins) (fun e s₁ => wpAny (model X.prog X.w) X.A (noteFrame e X.env) (fun _ s₂ => wpAny (model X.prog X.w) X.A (setFlight e none) (fun _ s₃ =>
    wpAny (model X.prog X.w) X.A (handleBy e X.env [.ExceptHandler (some (.Name x np)) (some n) [b₀] pos']) (SP X pins D) X.xe s₃) X.xe s₂) X.xe s₁) (fun u s' xx => ?_) PassesOwn.looking).run [] s σ H D (I.toTry _) h) (fun f s1 hsp => ?_) (fun e s1 he => he)
  · obtain ⟨a, B, sI, pins', σ', H', cl, d, rfl, J', nb, up, sky, na, os, ag, b, hb1, hyes, hno⟩ := xx
    have J : Inv X pins σ' H' sI := J'.ofTry ok
    have sky' : Sky B (X.env :: X.outer) a (Zc cl d) X.env.locals s'.heap := hs ▸ sky
    show wpAny (model X.prog X.w) X.A (noteFrame (.ref a) X.env) _ _ _
    refine Sky.land Zc.steady hfr hf sky' fun h3 fl3 up3 => ?_
    have J3 : Inv X pins σ' H' { s' with heap := h3 } := J.landed nb fl3.1 (up.trans up3) os ag
    obtain ⟨oe3, vs3, he3, hz3, hd3⟩ := fl3.there
    have nfr : a ∉ frs (X.env :: X.outer) := fun hm => by
      obtain ⟨_, o', e', hnf⟩ := fl3.2.2.1.mem hm
      rw [he3] at e'
      cases e'
      exact hnf _ hd3
    have nL : a ≠ X.env.locals := fun z => nfr (List.mem_filterMap.mpr ⟨X.env, List.mem_cons_self, by rw [hf, z]⟩)
    have nF : a ∉ X.fs := fun hm => by
      obtain ⟨e, he, q⟩ := List.mem_filterMap.mp hm
      exact nfr (List.mem_filterMap.mpr ⟨e, List.mem_cons_of_mem _ he, q⟩)
    have gone : sI.heap.get? a = none := by
      cases e : sI.heap.get? a with
      | none => rfl
      | some o =>
        have := nb a o e (by rw [hs]; exact nfr)
        rw [fl3.2.1] at this
        cases this
    have n0 : X.s_0.heap.get? a = none := by
      cases e : X.s_0.heap.get? a with
      | none => rfl
      | some o =>
        obtain ⟨o', q⟩ := J.base.there a o e (by rw [hex]; exact fun z => nomatch z)
        rw [gone] at q
        cases q
    have hpn : ∀ p ∈ X.pn ++ pins, p.1 ≠ a := fun p hp z => by
      have := (J.pin p hp).1
      rw [z, gone] at this
      cases this
    have S3 := J3.suite he3 hd3 na nL nF
    refine wpAny_handleBy_cons (codeAny_handlers_test ?_) (by intro q; cases q)
    have LT : PySem.W.Looks (model X.prog X.w) h3 (typeOf (.ref a)) cl := fun A Q E s k q => wpAny_typeOf_ref (k _ _ he3) (by rw [hz3.1]; exact q)
    have LM := PySem.W.exm_one (M := model X.prog X.w) (J3.kIn) LT hb1
    have test : ∀ {Q : Value → Shared → Prop} {E : Value → Shared → Prop}, Q c { s' with heap := h3 } → wpAny (model X.prog X.w) (X.A.mark (some (.ref a))) (eval (.Name x np) X.env) Q E { s' with heap := h3 } := fun {Q E} q => by
      obtain ⟨hg, hdbg, hm | ⟨hm, hv, hnn⟩⟩ := hc
      · exact ld_glob (X := X.suite a ((a, oe3) :: (X.pn ++ pins))) S3 hg hm q hdbg
      · exact ld_blt (X := X.suite a ((a, oe3) :: (X.pn ++ pins))) S3 hg hm hv q hnn hdbg
    refine test (LM.here ?_)
    cases b with
    | true =>
      refine codeAny_handlers_suite_as ?_
      refine HandSPX.lands_againZ fl3 fun h4 fl4 up4 => ?_
      have J4 : Inv X pins σ' H' { s' with heap := h4 } := J.landed nb fl4.1 ((up.trans up3).trans up4) os ag
      obtain ⟨oe4, vs4, he4, hz4, hd4⟩ := fl4.there
      have S4 := J4.suite he4 hd4 na nL nF
      refine store_ok (X := X.suite a ((a, oe4) :: (X.pn ++ pins))) (v := .ref a) S4 hN hi (.inl hln) rfl (fun s5 S5 => ?_) (.inr hln)
      have hv : (σ'.set i (some (V.ref a)))[i]? = some (some (.ref a)) := List.getElem?_set_self (by rw [J4.len]; exact hlen)
      refine wpAny_mono ((hsu a oe4 (X.pn ++ pins)).run [] s5 _ H' { nx := fun σ6 H6 => σ6 = (σ'.set i (some (V.ref a))).set j (some (.ref a)) ∧ H6 = H', rt := fun _ _ => False, bk := fun _ _ => False, ct := fun _ _ => False } S5 ⟨_, hv, rfl, rfl⟩) (fun f s6 hsp => ?_) (fun _ _ z => False.elim z)
      cases f with
      | next =>
        obtain ⟨σ6, H6, S6, rfl, rfl⟩ := hsp
        have he6 : s6.heap.get? a = some oe4 := (S6.pin (a, oe4) (List.mem_append_left _ List.mem_cons_self)).1
        have J6 := S6.unsuite ok
        have J7 := inv_track (o := ExV cl d a) J6 he6 ⟨_, hd4⟩ na n0 nL hpn (exV_ok he6 hz4 ⟨_, hd4⟩)
        exact gone_ok J7 hN hi hln fun s8 J8 => ⟨_, _, J8, hyes rfl a na⟩
      | brk =>
        obtain ⟨_, _, _, z⟩ := hsp
        exact z.elim
      | cont =>
        obtain ⟨_, _, _, z⟩ := hsp
        exact z.elim
      | ret u =>
        obtain ⟨_, _, _, _, _, z⟩ := hsp
        exact z.elim
    | false =>
      show wpAny _ X.A (handleBy (.ref a) X.env []) _ _ _
      refine wpAny_handleBy_nil ?_
      obtain ⟨k1, k2, k3, oe, vs, T, oT, ts', he, hz, hd, h1, hr⟩ := id fl3
      unfold PySem.passOn
      refine wpAny_bind (wpAny_field he hd h1 ?_)
      rw [if_neg (show ¬ ((Value.ref T == Value.none) = true) from by simp)]
      have fin : wpAny (model X.prog X.w) X.A (setFlight (.ref a) X.env.frame) (fun _ s4 => wpAny (model X.prog X.w) X.A (throw (.ref a) : Sem Flow) (SP X pins D) X.xe s4) X.xe { s' with heap := h3 } := by
        rw [hf]
        refine HandSPX.setFlight_upZ fl3 fun h4 hh4 up4 => wpAny_throw (tk _ _ ?_)
        exact ⟨a, B, sI, pins, σ', H', cl, d, rfl, J, nb, (up.trans up3).trans up4, .inr (.inr (by rw [hs]; exact hh4)), na, os, ag, hno rfl⟩
      first
        | exact wpAny_bind (wpAny_pure (wpAny_bind fin))
        | exact wpAny_bind fin
  · cases f with
    | next =>
      obtain ⟨σ', H', J', q⟩ := hsp
      exact wpAny_execs_nil ⟨σ', H', J'.ofTry ok, q⟩
    | brk =>
      obtain ⟨σ', H', J', q⟩ := hsp
      exact ⟨σ', H', J'.ofTry ok, q⟩
    | cont =>
      obtain ⟨σ', H', J', q⟩ := hsp
      exact ⟨σ', H', J'.ofTry ok, q⟩
    | ret u =>
      obtain ⟨v, σ', H', J', r, q⟩ := hsp
      exact ⟨v, σ', H', J'.ofTry ok, r, q⟩
end
section
variable {X : Cx}
/-- isinstance of such an error -/
def rIsX (K : PySem.W.Frag) : List V → Hp → VK → Prop := fun xs H Q => ∃ (a C : Addr) (d : Option Addr) (c : V) (cv : Value) (b : Bool), xs = [.ref a, c] ∧ H a = some (ExV (.ref C) d a) ∧ ExcC K C ∧ ClsV c cv ∧ PySem.W.kitOne K (.ref C) cv = some b ∧ (∀ dd, d = some dd → ∃ fs, H dd = some (.xd fs)) ∧ Q (.bl b) H
theorem call_isX : CallR X (.builtin "isinstance") (rIsX X.K) := by
  intro pins s σ H xs us Q I r h
  obtain ⟨a, C, d, c, cv, b, rfl, ha, E, hc, e, hd, q⟩ := h
  obtain ⟨u1, u2, rfl, r1, r2⟩ := vals2 r
  cases (show u1 = Value.ref a from r1)
  have e2 := hc.eq r2
  subst e2
  obtain ⟨oe, hoe, hz, vs, hv⟩ := (I.hok a _ ha).1
  have hcl : (PySem.W.clsIn X.K C).isSome = true := by
    obtain ⟨cd, hc, _⟩ := PySem.W.any_some E.hd
    rw [hc]; rfl
  have J : ∃ od, PySem.W.InstAt s.heap a oe C od := by
    obtain ⟨oc, odi, oda, osl⟩ := oe
    obtain ⟨h1, h2⟩ := hz
    dsimp only at h1 h2 hv
    subst h1 h2 hv
    cases odi with
    | none => exact ⟨none, hoe, rfl, rfl, trivial⟩
    | some dd =>
      obtain ⟨fs, hfs⟩ := hd dd rfl
      obtain ⟨mA, ⟨od, es, ep, e1, _⟩, _⟩ := I.hok dd _ hfs
      exact ⟨some od, hoe, rfl, rfl, e1⟩
  obtain ⟨od, J⟩ := J
  exact PySem.W.kia_one (PySem.W.kitx_exc hcl E.hg E.hk E.hs E.ha E.hn E.ht E.hm) I.kIn J e (fun z => nomatch z) fun tk => ⟨.bl b, H, I.tok tk, rfl, q⟩
end
end Nk

namespace Nk
open PySem L2 PySem.Spec PyProof.Rows
theorem tk0 {X : Cx} : Takes X (fun _ _ _ _ => False) := fun _ _ x => by
  obtain ⟨_, _, _, _, _, _, _, _, _, _, _, _, _, _, _, _, w⟩ := x
  exact w.elim
section
variable {X : Cx} {CX : CXT} {k : Nat} {ps : List Str} {sp : Sp} {x : Str} {p pos : Pos} {e : Expr} {es : List Expr} {t : TA} {E : L2.St → XK}
theorem pe_fnS (F : Fk X.prog X.w X.K X.mg X.base CX k x ps sp) (hr : Room k X.A) (hg : Gl X x) (hx : ∀ σ, PassesAt CX X σ (E σ)) (ha : PA X (e :: es) t) (hdb : (x == ("__debug__" : Str)) = false := by decide)
    (he : starEach (e :: es) X.env = (false, eval e X.env) :: starEach es X.env := by rfl) (hpl : (backTo pos (starEach es X.env)).any (·.1) = false := by rfl) :
    PE X (.Call (.Name x p) (e :: es) [] pos) (tCallS sp E t) := by
  obtain ⟨f, fd, g, kp, b, G⟩ := F.ex
  exact pe_callS G hr hg g kp b hx ha hdb he hpl
end
/-! counting in a list of flat things -/
theorem count_eqU {x : V} : ∀ {xs : List V} {us : List Value}, Vals xs us → xs.all flatV = true → us.countP (eqU x) = xs.countP fun y => eqV y x
  | _, _, .nil, _ => rfl
  | y :: xs, u :: us, .cons r t, f => by
    rw [List.all_cons, Bool.and_eq_true] at f
    rw [List.countP_cons, List.countP_cons, count_eqU t f.2, eqU_of r f.1]
def rCountF (K : PySem.W.Frag) : V → List V → Hp → VK → Prop := fun x xs H Q => ∃ (p : Addr) (ys : List V) (y : V), x = .ref p ∧ xs = [y] ∧ SqL K H p ys ∧ flatV y = true ∧ ys.all flatV = true ∧ Q (.int ((ys.countP fun z => eqV z y : Nat) : Int)) H
theorem mt_countF {X : Cx} : MtR X "list.count" (rCountF X.K) := by
  intro pins s σ H x xs v us Q I rx rxs h
  obtain ⟨p, ys, y, rfl, rfl, hs, fy, fys, q⟩ := h
  cases rx
  obtain ⟨u, rfl, ru⟩ := rxs.one
  obtain ⟨its, rv, ⟨⟨cls, dd, data, sl⟩, n, ho, hc, hdn, hd⟩, hlen⟩ := I.list hs
  simp only at hc hd
  subst hc hd
  refine call_meets PySem.F.slot_list_count ⟨_, ho, rfl⟩ PySem.F.entry_list_count (PySem.F.args_list_count_2 _ _) (SeqAt.list_countAt p its.toArray n dd sl u (eqU y)) ⟨ho, fun z hz => mem_eqAt ru fy rv fys z (by simpa using hz), ?_⟩
  have ec : its.toArray.toList.countP (eqU y) = ys.countP fun z => eqV z y := by rw [show its.toArray.toList = its from rfl, count_eqU rv fys]
  refine ⟨.int (ys.countP fun z => eqV z y : Nat), H, I.tok _, ⟨s.toks, ?_⟩, q⟩
  rw [ec]
/-! the classes of this program's errors -/
def exTail : List Value := [.type "RuntimeError", .type "Exception", .type "BaseException", .type "object"]
/-- the class over all errors -/
structure Kc (K : PySem.W.Frag) (mg : Str → Option Value) : Prop where
  gP : mg "KeepError" = some (.ref (cls mg "KeepError"))
  ex : ∃ cd, PySem.W.clsIn K (cls mg "KeepError") = some cd ∧ cd.name = "KeepError" ∧ cd.mro = .ref (cls mg "KeepError") :: exTail
  tP : PySem.W.typeIn K (.ref (cls mg "KeepError")) = some (.type "type")
  hd : PySem.W.hasDictIn K (cls mg "KeepError") = true
/-- an error's class -/
structure Ec (K : PySem.W.Frag) (mg : Str → Option Value) (x : Str) : Prop where
  gP : mg x = some (.ref (cls mg x))
  ex : ∃ cd, PySem.W.clsIn K (cls mg x) = some cd ∧ cd.name = x ∧ cd.mro = .ref (cls mg x) :: .ref (cls mg "KeepError") :: exTail
  tP : PySem.W.typeIn K (.ref (cls mg x)) = some (.type "type")
  ec : ExcC K (cls mg x)
section
variable {K : PySem.W.Frag} {h : Heap} {mg : Str → Option Value} {x y : Str}
theorem cls_lookup {C : Addr} {oc : Value} {od : Option Addr} {cd : ClassData} {osl : Array (Option Value)} (l : K.lookup C = some ⟨oc, od, .cls cd, osl⟩) : PySem.W.clsIn K C = some cd := by
  unfold PySem.W.clsIn
  rw [l]
theorem kc_mk {C : Addr} {oc : Value} {od : Option Addr} {osl : Array (Option Value)} {bs : List Value} {N : Addr} {q : Str} {sn : List Str} {sub : List Value} {hd ab dl : Bool} {col : Option Bool} (X : K.In h) (G : h.Ns mainGlobals mg)
    (a : PySem.W.nsIn K mainGlobals "KeepError" = some (some (.ref C)))
    (l : K.lookup C = some ⟨oc, od, .cls { name := "KeepError", bases := bs, mro := [.ref C, .type "RuntimeError", .type "Exception", .type "BaseException", .type "object"], ns := N, qualname := q, hasDict := hd, slotNames := sn, subclasses := sub, abstract := ab, collection := col, hasDel := dl }, osl⟩)
    (tP : PySem.W.typeIn K (.ref C) = some (.type "type")) (hD : PySem.W.hasDictIn K C = true) : Kc K mg := by
  have g := PySem.W.mg_of X G a
  have e := cls_of g
  refine ⟨by rw [e]; exact g, ?_, by rw [e]; exact tP, by rw [e]; exact hD⟩
  rw [e]
  exact ⟨_, cls_lookup l, rfl, rfl⟩
theorem ec_mk {C KE : Addr} {oc : Value} {od : Option Addr} {osl : Array (Option Value)} {bs : List Value} {N : Addr} {q : Str} {sn : List Str} {sub : List Value} {hd ab dl : Bool} {col : Option Bool} (X : K.In h) (G : h.Ns mainGlobals mg)
    (k : PySem.W.nsIn K mainGlobals "KeepError" = some (some (.ref KE))) (a : PySem.W.nsIn K mainGlobals x = some (some (.ref C)))
    (l : K.lookup C = some ⟨oc, od, .cls { name := x, bases := bs, mro := [.ref C, .ref KE, .type "RuntimeError", .type "Exception", .type "BaseException", .type "object"], ns := N, qualname := q, hasDict := hd, slotNames := sn, subclasses := sub, abstract := ab, collection := col, hasDel := dl }, osl⟩)
    (tP : PySem.W.typeIn K (.ref C) = some (.type "type")) (hD : PySem.W.hasDictIn K C = true)
    (h1 : PySem.W.findIn K (.ref C) "__getattribute__" = some (some (.builtin "BaseException.__getattribute__"))) (h2 : PySem.W.findIn K (.ref C) "__getattr__" = some none)
    (h3 : PySem.W.findIn K (.ref C) "__class__" = some (some (.builtin "object.__class__"))) (h4 : PySem.W.specialIn K (.builtin "object.__class__") "__get__" = some (some (.builtin "getset_descriptor.__get__"))) (h5 : PySem.W.takesIn K (.builtin "object.__class__") = some true) : Ec K mg x := by
  have g := PySem.W.mg_of X G a
  have e := cls_of g
  have e2 := cls_of (PySem.W.mg_of X G k)
  have hc := cls_lookup l
  have hm : ∀ b, PySem.W.mroIn K C b = some ([Value.ref C, .ref KE, .type "RuntimeError", .type "Exception", .type "BaseException", .type "object"].contains b) := fun b => by
    unfold PySem.W.mroIn
    rw [hc]
    rfl
  refine ⟨by rw [e]; exact g, ?_, by rw [e]; exact tP, ?_⟩
  · rw [e, e2]
    exact ⟨_, hc, rfl, rfl⟩
  · rw [e]
    refine ⟨h1, h2, ?_, hD, h3, h4, h5, ?_⟩
    · show PySem.W.mroIn K C _ = _
      rw [hm]
      simp
    · rw [hm]
      simp
theorem Ec.mro (e : Ec K mg x) (b : Value) : PySem.W.subIn K (.ref (cls mg x)) b = some ((Value.ref (cls mg x) :: .ref (cls mg "KeepError") :: exTail).contains b) := by
  obtain ⟨cd, h1, _, h3⟩ := e.ex
  show PySem.W.mroIn K _ b = _
  unfold PySem.W.mroIn
  rw [h1, Option.bind_some, h3]
  rfl
theorem Ec.ne (e : Ec K mg x) (f : Ec K mg y) (n : x ≠ y) : cls mg x ≠ cls mg y := fun z => by
  obtain ⟨cd, h1, h2, _⟩ := e.ex
  obtain ⟨cd', h1', h2', _⟩ := f.ex
  rw [z, h1'] at h1
  cases h1
  exact n (h2.symm.trans h2')
theorem Ec.neK (e : Ec K mg x) (f : Kc K mg) (n : x ≠ "KeepError") : cls mg x ≠ cls mg "KeepError" := fun z => by
  obtain ⟨cd, h1, h2, _⟩ := e.ex
  obtain ⟨cd', h1', h2', _⟩ := f.ex
  rw [z, h1'] at h1
  cases h1
  exact n (h2.symm.trans h2')
theorem Ec.is (e : Ec K mg x) (f : Ec K mg y) (k : Kc K mg) (n : y ≠ "KeepError") : PySem.W.kitOne K (.ref (cls mg x)) (.ref (cls mg y)) = some (decide (x = y)) := by
  by_cases c : x = y
  · subst c
    unfold PySem.W.kitOne
    simp
  · have h1 := e.ne f c
    have h2 := f.neK k n
    obtain ⟨cd', h1', _⟩ := f.ex
    unfold PySem.W.kitOne
    rw [if_neg (by intro z; exact h1 (Value.ref.inj (beq_iff_eq.mp z)))]
    show (if ((PySem.W.clsIn K (cls mg y)).isSome && PySem.W.typeIn K (.ref (cls mg y)) == some (.type "type")) = true then PySem.W.subIn K (.ref (cls mg x)) (.ref (cls mg y)) else none) = _
    rw [h1', f.tP, if_pos (by rfl), e.mro]
    rw [Option.some.injEq, decide_eq_false c, List.contains_eq_any_beq]
    simp only [exTail, List.any_cons, List.any_nil, Bool.or_eq_false_iff, beq_eq_false_iff_ne]
    refine ⟨fun z => h1 (Value.ref.inj z).symm, fun z => h2 (Value.ref.inj z), ?_⟩
    simp
theorem Ec.isR (e : Ec K mg x) : PySem.W.kitOne K (.ref (cls mg x)) (.type "RuntimeError") = some true := by
  unfold PySem.W.kitOne
  rw [if_neg (by intro z; exact nomatch (beq_iff_eq.mp z))]
  show (if PySem.W.kitMeta "RuntimeError" = true then PySem.W.subIn K (.ref (cls mg x)) (.type "RuntimeError") else none) = _
  rw [if_pos (by decide +kernel), e.mro]
  simp [exTail]
theorem Ec.exm (e : Ec K mg x) (k : Kc K mg) : PySem.W.exmOne K (.ref (cls mg x)) (.ref (cls mg "KeepError")) = some true := by
  refine PySem.W.exm_ref ?_ k.hd k.tP ?_
  · obtain ⟨cd, h1, _, h3⟩ := k.ex
    show PySem.W.mroIn K _ _ = _
    unfold PySem.W.mroIn
    rw [h1, Option.bind_some, h3]
    rfl
  · rw [e.mro]
    simp
end
end Nk
/-! ### set(l) of a list of whole numbers; sorted and len of it, however many -/
namespace Nk
open PySem L2 PySem.Spec PyProof.Rows
abbrev eSet (w : World) : Obj := { cls := .type "set", dict := none, data := .set #[] 0 (.fresh 0 0 (!w.params.followText "set-order")) }
section
variable {prog : Program} {w : World} {A : Around} {E : Value → Shared → Prop} {s : Shared}
set_option maxRecDepth 100000 in
set_option maxHeartbeats 3200000 in
theorem set_of_list {l : Addr} {xs : Array Value} (ns : List Int) {Q : Value → Shared → Prop} (calm : A.handled = none) (isl : s.heap.IsList l xs) (hin : IntsAre xs.toList ns) (few : ns.length + 1 < scanBound)
    (fin : ∀ (g : Heap) (tk c : Nat), SetR w g s.heap.objs.size (fun j => decide (j ∈ ns)) c → c ≤ ns.length → (∀ b o, s.heap.get? b = some o → g.get? b = some o) → Q (.ref s.heap.objs.size) { s with heap := g, toks := tk }) :
    wpAny (model prog w) A (call (.type "set") [.ref l]) Q E s := by
  have size : xs.size = ns.length := by
    have := hin.length
    rwa [Array.length_toList] at this
  obtain ⟨m1, m2, hmro⟩ := F.called_set.mro
  have hm0 := F.called_set.made
  have hm1 := F.called_set.sub
  refine wpAny_call (codeAny_of_tree ?_)
  show wpAny _ _ (callAny (.type "set") _) _ _ _
  refine wpAny_pure ⟨Code.quiet_builtin _ (by decide +kernel), codeAny_builtin F.entry_type_call ?_⟩
  rw [Around.under_plain (weight_type_call_type "set" [.ref l] []) rfl]
  have hm2 := F.called_set.notType
  have hm3 := F.called_set.canCreate
  have hm4 := F.typeCall_set_1 (.ref l)
  repeat (any_goals (first | assumption | wp_step))
  refine codeAny_mono (code_set_led1 (.ref l) (E := E) (Q₁ := fun v s1 => v = .ref s.heap.objs.size ∧ s1 = { s with heap := s.heap.push (eSet w) }) ⟨rfl, rfl⟩) fun r s1 hr => ?_
  cases r with
  | error _ => exact hr
  | ok fl =>
    cases fl with
    | ret v =>
      obtain ⟨rfl, rfl⟩ := hr
      have at0 : (s.heap.push (eSet w)).get? s.heap.objs.size = some (eSet w) := Heap.get?_push_size _ rfl
      have ty0 : Shared.TypeIs { s with heap := s.heap.push (eSet w) } (.ref s.heap.objs.size) "set" := ⟨_, at0, rfl⟩
      have hi1 := F.called_set.init.lookup
      have hi2 := F.called_set.init.bind (.ref s.heap.objs.size)
      repeat (any_goals (first | assumption | wp_step))
      refine codeAny_mono (codeAny_call_builtin (R := wants (fun r s2 => r = .none ∧ ∃ g tk c, s2 = { s with heap := g, toks := tk } ∧ SetR w g s.heap.objs.size (fun j => decide (j ∈ ns)) c ∧ c ≤ ns.length ∧
          (∀ b o, s.heap.get? b = some o → g.get? b = some o)) E) F.called_set.init.plain F.entry_set_init (check_set_init_1 ty0 ?_)) fun r2 s2 hr2 => ?_
      · obtain ⟨ol, hol, hcl, nl, hdl⟩ := isl
        obtain ⟨k1, k2, k3, k4⟩ := ol
        simp only at hcl hdl
        subst hcl hdl
        have hol1 : (s.heap.push (eSet w)).get? l = some { cls := .type "list", dict := k2, data := .seq xs nl, slots := k4 } := Heap.get?_push_of_some _ hol
        have sub1 := F.sub_list_set
        have sub2 := F.sub_list_frozenset
        have nodict : (Value.type "list" == Value.type "dict") = false := by decide
        have isl1 : (s.heap.push (eSet w)).IsList l xs := ⟨_, hol1, rfl, nl, rfl⟩
        unfold Builtin.«set.__init__» noKeywords Builtin.Frozenset.updateFrom
        generalize hPI : pyIter = PI
        wp_walk
        subst hPI
        refine wpAny_pyIter_list isl1 ?_
        refine wpAny_bind (wpAny_runValue ?_)
        have lt0 : l < s.heap.objs.size := Heap.lt_size hol
        have calm3 : A.in1.in1.in1.handled = none := by simp [calm]
        have ne1 : l ≠ (s.heap.push (eSet w)).objs.size := by
          rw [Heap.size_push]
          exact Nat.ne_of_lt (Nat.lt_succ_of_lt lt0)
        have out1 : s.heap.objs.size ∉ [(s.heap.push (eSet w)).objs.size, l] := by
          rw [Heap.size_push]
          simp only [List.mem_cons, List.mem_singleton, List.not_mem_nil, or_false, not_or]
          exact ⟨Nat.ne_of_lt (Nat.lt_succ_self _), Nat.ne_of_gt lt0⟩
        have vals : ∀ (i : Nat) (v : Value), xs[i]? = some v → ∃ k t, ns[i]? = some k ∧ v = .int k t := fun i v hv => by
          have hi : i < ns.length := by
            rw [← size]
            exact (Array.getElem?_eq_some_iff.mp hv).1
          obtain ⟨t, e⟩ := PyProof.Rows.IntsAre.int_at hin i v (by rw [Array.getElem?_toList]; exact hv)
          refine ⟨ns[i], t, List.getElem?_eq_getElem hi, ?_⟩
          rw [e, List.getD_eq_getElem?_getD, List.getElem?_eq_getElem hi] <;> rfl
        refine set_update_ints ((Walks.list calm3 _ l ne1 xs).toS) s.heap.objs.size out1 ns size few vals (xs.size - 0) 0 _ (by omega) (Nat.zero_le _) ⟨⟨_, Heap.get?_push_size _ rfl, rfl, rfl⟩, (isl1.push _)⟩ ?one ?two
        case one =>
          have at2 : ((s.heap.push (eSet w)).push { cls := .type "list_iterator", data := .fields #[.ref l, .int 0 0] }).get? s.heap.objs.size = some (eSet w) := Heap.get?_push_of_some _ at0
          exact ⟨0, Nat.le_refl 0, setR_new_at at2⟩
        case two =>
          intro s3 c3 mv hc3 R3
          obtain ⟨h3, g3, d3, t3, o3⟩ := s3
          have eg : g3 = s.gens := mv.gens
          have ed : d3 = s.drawn := mv.drawn
          have eo : o3 = s.os := mv.os
          subst eg ed eo
          show wpAny _ _ _ _ _ _
          refine wpAny_pure ?_
          show wpAny _ _ (ret Value.none) _ _ _
          rw [size] at hc3
          refine wpAny_pure ⟨rfl, h3, t3, c3, rfl, R3, hc3, fun b o e => ?_⟩
          have lb : b < s.heap.objs.size := Heap.lt_size e
          have nb1 : b ≠ s.heap.objs.size := Nat.ne_of_lt lb
          have nb2 : b ≠ (s.heap.push (eSet w)).objs.size := by
            rw [Heap.size_push]
            exact Nat.ne_of_lt (Nat.lt_succ_of_lt lb)
          refine mv.heap b o ?_ (Heap.get?_push_of_some _ (Heap.get?_push_of_some _ e))
          simp only [List.mem_cons, List.mem_singleton, List.not_mem_nil, or_false, not_or]
          exact ⟨nb1, nb2⟩
      · cases r2 with
        | error _ => exact hr2
        | ok fl2 =>
          cases fl2 with
          | ret _ =>
            obtain ⟨rfl, g, tk, c, rfl, R2, hc2, k2⟩ := hr2
            repeat (any_goals (first | assumption | wp_step))
            exact fin _ _ _ R2 hc2 k2
          | _ => exact hr2.elim
    | _ => exact hr.elim
end
section
variable {X : Cx}
def rSetLI (K : PySem.W.Frag) (w : World) : List V → Hp → VK → Prop := fun vs H Q => ∃ (a : Addr) (ns : List Int), vs = [V.ref a] ∧ SqL K H a (ns.map V.int) ∧ ns.length ≤ 4000 ∧
  ∀ (p : Addr) (c : Nat), H p = none → c ≤ ns.length → Q (.ref p) (upd H p (SetO w p (fun j => decide (j ∈ ns)) c))
theorem cr_setLI (hc : X.calm = true) : CallR X (.type "set") (rSetLI X.K X.w) := by
  intro pins s σ H vs us Q I r h
  obtain ⟨a, ns, rfl, hs, hz, q⟩ := h
  obtain ⟨its, rv, hl, _⟩ := I.list hs
  rw [Vals.ref1 r]
  refine set_of_list ns (I.ok.hd hc) hl.isList rv.ints (by unfold scanBound; omega) fun g tk c R hc k => ?_
  exact ⟨.ref _, _, I.laid (t' := tk) (o := SetO X.w s.heap.objs.size (fun j => decide (j ∈ ns)) c) k (Nat.le_refl _) (setO_new R), rfl, q _ c (I.hok.fresh (Nat.le_refl _)) hc⟩
theorem rise_of_nodup {l : List Int} (h : l.Pairwise (· ≤ ·)) (nd : l.Nodup) : l.Pairwise (· < ·) := (h.and nd).imp fun {a b} ⟨h1, h2⟩ => by omega
/-- sorted of a set, however many -/
def rSortedSA (w : World) : List V → Hp → VK → Prop := fun vs H Q => ∃ (a : Addr) (S : Int → Bool) (n : Nat), vs = [V.ref a] ∧ H a = some (SetO w a S n) ∧ n ≤ 10000 ∧
  ∀ (ns : List Int) (p : Addr), ns.Pairwise (· < ·) → (∀ k : Int, k ∈ ns ↔ S k = true) → ns.length = n → H p = none → Q (.ref p) (upd H p (.lst (ns.map V.int)))
theorem cr_sortedSA (hcalm : X.calm = true) : CallR X (.builtin "sorted") (rSortedSA X.w) := by
  intro pins s σ H vs us Q I r h
  obtain ⟨a, S, n, rfl, ha, hn0, q⟩ := h
  rw [Vals.ref1 r]
  obtain ⟨o, es, ep, t, ho, hex, hd, g, nd, hm, hb, hf, hn, hr, hl⟩ := setO_get I ha
  refine Calls.call_function_entry PyProof.Rows.kind_sorted PyProof.Rows.plain_sorted PyProof.Rows.entry_sorted (PyProof.Rows.args_sorted1 _) ?_
  unfold Builtin.«sorted»
  refine wpAny_bind (m := checkCount "sorted" 1 1 _) (wpAny_pure ?_)
  refine wpAny_bind (collect_set (A := X.A.in1) (I.ok.hd hcalm) ⟨o, ho, hex.1, hd⟩ hf hb hr hl fun s1 us k1 hz g1 o1 pm => ?_)
  have hul : us.length = n := by
    rw [pm.length_eq, List.length_map, Array.length_toList]
    exact hn
  have hI : IntsAre us (us.map Builtin.Re.reRawOf) := ints_of us fun v hv => by
    obtain ⟨e, he, q⟩ := List.mem_map.mp (pm.mem_iff.mp hv)
    obtain ⟨k, tk, h1, _⟩ := g e he
    exact ⟨k, tk, by rw [← q]; exact h1⟩
  have pk : (us.map Builtin.Re.reRawOf).Perm (es.toList.map keyOf) := by
    have z := pm.map Builtin.Re.reRawOf
    rw [List.map_map] at z
    exact z
  have hsz : us.length ≤ sizeLine := by
    rw [hul]
    exact sz (by omega)
  refine wpAny_bind (wpAny_newList ?_ hsz)
  have hoL : (s1.heap.push (seqObj "list" us.toArray 0)).get? s1.heap.objs.size = some (seqObj "list" us.toArray 0) := Heap.get?_push_size _ rfl
  refine wpAny_bind (wpAny_holding (wpAny_call_entry PyProof.Rows.slot_list_sort ⟨_, hoL, rfl⟩ PyProof.Rows.entry_list_sort
    (SrtO.list_sort_ord SrtO.swo_int hoL hsz (fun h2 => SrtO.ints_sortable hI h2) fun out b1 b2 => ⟨_, rfl, ?_⟩) (PyProof.Rows.args_list_sort _)))
  obtain ⟨c1, c2, c3⟩ := SrtO.ints_out hI b1 b2
  obtain ⟨e', he'⟩ := PyProof.Rows.sortedHeap_at (vs := us) (out := out.toArray) hoL
  have pn : (out.map SrtO.iv).Perm (es.toList.map keyOf) := c2.trans pk
  have hlen : ((out.map SrtO.iv).map V.int).length ≤ sizeLine := by
    rw [List.length_map, c2.length_eq, List.length_map]
    exact hsz
  have hnone : H s1.heap.objs.size = none := I.hok.fresh hz
  have old : ∀ b u, s.heap.get? b = some u → (PyProof.Rows.sortedHeap (s1.heap.push (seqObj "list" us.toArray 0)) s1.heap.objs.size us out.toArray).get? b = some u := fun b u e => by
    have z := k1 b u e
    have lt := Heap.lt_size z
    rw [PyProof.Rows.sortedHeap_old (Nat.ne_of_lt lt) (by rw [size_push']; exact Nat.lt_succ_of_lt lt)]
    exact Heap.get?_push_of_some _ z
  have J : Inv X pins σ (upd H s1.heap.objs.size (.lst ((out.map SrtO.iv).map V.int))) { s with heap := PyProof.Rows.sortedHeap (s1.heap.push (seqObj "list" us.toArray 0)) s1.heap.objs.size us out.toArray, gens := s1.gens, drawn := s1.drawn, toks := s1.toks } :=
    I.call (ch := []) (Un.laid old hz hnone) (I.hok.laid old hz ⟨hlen, out, e', vals_of_ints c1, he'⟩) (by rw [g1]; exact I.bare) (fun _ z => nomatch z)
  refine wpAny_pure ⟨_, rfl, .ref s1.heap.objs.size, _, ?_, rfl, q _ _ (rise_of_nodup c3 (pn.nodup_iff.mpr nd)) (fun k => by rw [pn.mem_iff, ← hm k]) (by rw [pn.length_eq, List.length_map, Array.length_toList]; exact hn) hnone⟩
  have eo : s1.os = s.os := o1
  rw [← eo] at J
  exact J
/-- len of a set -/
def rLenS (w : World) : List V → Hp → VK → Prop := fun vs H Q => ∃ (a : Addr) (S : Int → Bool) (n : Nat), vs = [V.ref a] ∧ H a = some (SetO w a S n) ∧ Q (.int n) H
end
end Nk
/-! ### own classes: methods by their promise, len of an instance, steps of the heap -/
namespace Nk
open PySem L2 PySem.Spec PyProof.Rows
/-- a method as it stands behind the top: c's, found at the def st -/
structure Md (K : PySem.W.Frag) (mg : Str → Option Value) (c m qual : Str) (st : Stmt) (ps : List Str) : Prop where
  ex : ∃ (f : Addr) (fd : FuncData), Fun K m qual st f fd ∧ Meth K (cls mg c) m f ∧ Binds K fd ps []
/-- a class without own __new__ -/
structure Oc (K : PySem.W.Frag) (mg : Str → Option Value) (c : Str) : Prop where
  g : mg c = some (.ref (cls mg c))
  cl : Cls K (cls mg c)
  makes : PySem.W.makesIn K (cls mg c) = true
  kp : PySem.W.keepIn K (.ref (cls mg c)) = true
/-- a method keeps a promise -/
structure Mo (P : Program) (w : World) (K : PySem.W.Frag) (mg : Str → Option Value) (base : Heap) (CX : CXT) (k : Nat) (c m : Str) (ps : List Str) (sp : Sp) : Prop where
  ex : ∃ (f : Addr) (fd : FuncData), Meth K (cls mg c) m f ∧ Binds K fd ps [] ∧ FnOk P w K mg base CX k f fd ps sp
section
variable {X : Cx} {CX : CXT} {k : Nat} {ps : List Str} {sp : Sp} {c m x : Str} {p pos apos : Pos} {o e : Expr} {es : List Expr} {ta : TE} {t : TA} {E : XK}
theorem pe_me {pl : Sem Bool} (he : PE X o ta) (O : Oc X.K X.mg c) (M : Mo X.prog X.w X.K X.mg X.base CX k c m ps sp) (hr : Room k X.A) (hx : Passes CX X E) (ha : PA X (e :: es) t)
    (hst : starEach (e :: es) X.env = (false, eval e X.env) :: starEach es X.env := by rfl) (hpl : (backTo pos (starEach es X.env)).any (·.1) = false := by rfl)
    (ht : eval (.Call (.Attribute o m apos) (e :: es) [] pos) X.env = (do
      let ov ← eval o X.env
      standAt apos.atName
      let (g, first) ← holding [ov] (getMethod ov m pl)
      callWith pos g first (backTo pos (starEach (e :: es) X.env)) (backToKw pos (keywordEach [] X.env))) := by rfl) :
    PE X (.Call (.Attribute o m apos) (e :: es) [] pos) (tMeth (cls X.mg c) m sp [] E ta t) := by
  obtain ⟨f, fd, h1, h2, h3⟩ := M.ex
  exact pe_meth he O.cl h1 h3 hr h2 .nil hx ha hst hpl ht
theorem pe_me0 {pl : Sem Bool} (he : PE X o ta) (O : Oc X.K X.mg c) (M : Mo X.prog X.w X.K X.mg X.base CX k c m ps sp) (hr : Room k X.A) (hx : Passes CX X E)
    (ht : eval (.Call (.Attribute o m apos) [] [] pos) X.env = (do
      let ov ← eval o X.env
      standAt apos.atName
      let (g, first) ← holding [ov] (getMethod ov m pl)
      callWith pos g first (backTo pos (starEach [] X.env)) (backToKw pos (keywordEach [] X.env))) := by rfl) :
    PE X (.Call (.Attribute o m apos) [] [] pos) (tMeth (cls X.mg c) m sp [] E ta tNil) := by
  obtain ⟨f, fd, h1, h2, h3⟩ := M.ex
  exact pe_meth0 he O.cl h1 h3 hr h2 .nil hx ht
theorem pe_new (O : Oc X.K X.mg c) (M : Mo X.prog X.w X.K X.mg X.base CX k c "__init__" ps sp) (hr : Room (k + 1) X.A) (hg : Gl X c) (hx : Passes CX X E) (ha : PA X (e :: es) t)
    (hdb : (c == ("__debug__" : Str)) = false := by decide) (he : starEach (e :: es) X.env = (false, eval e X.env) :: starEach es X.env := by rfl) (hpl : (backTo pos (starEach es X.env)).any (·.1) = false := by rfl) :
    PE X (.Call (.Name c p) (e :: es) [] pos) (tMake (cls X.mg c) sp [] E t) := by
  obtain ⟨f, fd, h1, h2, h3⟩ := M.ex
  exact pe_make ⟨O.makes, h1.at_, h1.fn, O.kp⟩ h3 hr hg O.g h2 .nil hx ha hdb he hpl
/-- len of an instance -/
def rLenO (C : Addr) (sp : Sp) (E : XK) : List V → Hp → VK → Prop := fun xs H Q => ∃ (a dx : Addr) (fs : List (Str × V)), xs = [.ref a] ∧ H a = some (.ins C dx fs) ∧ sp [.ref a] H (fun v H' => ∃ n : Nat, v = .int n ∧ n < 2 ^ 62 ∧ Q (.int n) H') E
theorem cr_lenO (O : Oc X.K X.mg c) (M : Mo X.prog X.w X.K X.mg X.base CX k c "__len__" ps sp) (hr : Room (k + 1) X.A) (hx : Passes CX X E) : CallR X (.builtin "len") (rLenO (cls X.mg c) sp E) := by
  intro pins s σ H xs us Q I r h
  obtain ⟨a, dx, fs, rfl, ha, q⟩ := h
  rw [Vals.ref1 r]
  obtain ⟨f, fd, h1, h2, h3⟩ := M.ex
  obtain ⟨mA, ob, _⟩ := ins_get I.hok ha
  obtain ⟨od, hod, _⟩ := lookIn_ns ob.ns
  have J : PySem.W.InstAt s.heap a (PySem.W.instObj (cls X.mg c) dx) (cls X.mg c) (some od) := ⟨ob.obj, rfl, rfl, hod⟩
  obtain ⟨m0, fr⟩ := I.fr
  have r2 : Vals [V.ref a] [Value.ref a] := .cons rfl .nil
  have hl : ([Value.ref a] ++ ([] : List Value)).length = ps.length := by
    have := h3.len _ _ _ _ q
    exact this
  refine PySem.W.len_K fr I.ok.mod.kin J h1.at_ h1.fn ?_
  refine wpAny_call (codeAny_mono (h3.run _ X.stack s H ⟨[.ref a], []⟩ [.ref a] [.ref a] _ E hr.in1 I.env0.in1 (h2 s [.ref a] I.kIn hl) r2 q) fun rr s' hq => ?_)
  cases rr with
  | error e => exact hx pins σ H s e s' I hq
  | ok fl =>
    cases fl with
    | ret u =>
      obtain ⟨v, H', I2, rv, n, rfl, hn, q2⟩ := I.after hq
      obtain ⟨tk, rfl⟩ := rv
      exact ⟨⟨by omega, by omega⟩, .int n, H', I2.tok _, ⟨_, rfl⟩, q2⟩
    | next => exact False.elim hq
    | brk => exact False.elim hq
    | cont => exact False.elim hq
theorem pe_fldK {f : Str} (K : PySem.W.Frag) (hK : X.K = K) (he : PE X e ta) (hb : attributeBase e f X.env (eval e X.env) = eval e X.env) : PE X (.Attribute e f pos) (tFld K ta f) := hK ▸ pe_fld he hb
end
section
variable {K : PySem.W.Frag} {h : Heap} {mg : Str → Option Value}
theorem md_mk {c m qual : Str} {st : Stmt} {ps : List Str} {C f : Addr} {oc : Value} {od an : Option Addr} {osl : Array (Option Value)} {kV doc pm cdv ct : Value} (X : K.In h) (G : h.Ns mainGlobals mg)
    (hb : ∀ (kV doc pm : Value) (an : Option Addr) (cdv ct : Value) (us : List Value), us.length = ps.length → bindArgs (PySem.W.fnOf m qual (defArgs st) (defBody st) (defScope st) .none kV doc pm an cdv ct) ⟨us, []⟩ = pure (ps.zip us))
    (aC : PySem.W.nsIn K mainGlobals c = some (some (.ref C))) (a : PySem.W.findIn K (.ref C) m = some (some (.ref f))) (i : PySem.W.isFn K (.ref f) = true)
    (l : K.lookup f = some ⟨oc, od, .func (PySem.W.fnOf m qual (defArgs st) (defBody st) (defScope st) .none kV doc pm an cdv ct), osl⟩)
    (cc : PySem.W.codeIn K cdv qual = true) (k : PySem.W.keepIn K (.ref f) = true) : Md K mg c m qual st ps := by
  have F := fun_mk (st := st) l cc k
  have e := cls_of (PySem.W.mg_of X G aC)
  exact ⟨f, _, F, by rw [e]; exact ⟨a, i, k⟩, F.binds hb⟩
theorem oc_mk {c : Str} {C : Addr} (X : K.In h) (G : h.Ns mainGlobals mg) (aC : PySem.W.nsIn K mainGlobals c = some (some (.ref C))) (pg : PySem.W.plainGet K C Str.empty = true) (hd : PySem.W.hasDictIn K C = true) (po : PySem.W.plainOver K C = true)
    (sa : PySem.W.findIn K (.ref C) "__setattr__" = some (some (.builtin "object.__setattr__"))) (mk : PySem.W.makesIn K C = true) (kc : PySem.W.keepIn K (.ref C) = true) : Oc K mg c := by
  have g := PySem.W.mg_of X G aC
  have e := cls_of g
  exact ⟨by rw [e]; exact g, by rw [e]; exact ⟨pg, hd, po, sa⟩, by rw [e]; exact mk, by rw [e]; exact kc⟩
theorem na_mk {c f : Str} {C : Addr} (X : K.In h) (G : h.Ns mainGlobals mg) (aC : PySem.W.nsIn K mainGlobals c = some (some (.ref C))) (n : PySem.W.findIn K (.ref C) f = some none) : NoAttr K (cls mg c) f := by
  rw [cls_of (PySem.W.mg_of X G aC)]
  exact n
end
/-! steps of the heap -/
/-- only what stands in S may have changed; tuples never do -/
structure Step (S : List Addr) (H H' : Hp) : Prop where
  keep : ∀ b o, H b = some o → b ∉ S → H' b = some o
  tups : ∀ b xs, H b = some (.tup xs) → H' b = some (.tup xs)
theorem Step.refl {S : List Addr} {H : Hp} : Step S H H := ⟨fun _ _ h _ => h, fun _ _ h => h⟩
theorem Step.of {S : List Addr} {H H' : Hp} (s : Same H H') : Step S H H' := ⟨fun b o h _ => s b o h, fun b xs h => s b _ h⟩
theorem Step.same {S : List Addr} {H H1 H2 : Hp} (a : Step S H H1) (s : Same H1 H2) : Step S H H2 := ⟨fun b o h n => s _ _ (a.keep b o h n), fun b xs h => s _ _ (a.tups b xs h)⟩
theorem Same.step {S : List Addr} {H H1 H2 : Hp} (s : Same H H1) (a : Step S H1 H2) : Step S H H2 := ⟨fun b o h n => a.keep b o (s _ _ h) n, fun b xs h => a.tups b xs (s _ _ h)⟩
/-- S' is S, but for what is new -/
def Own (H : Hp) (S S' : List Addr) : Prop := ∀ b ∈ S', b ∈ S ∨ H b = none
theorem Own.refl {H : Hp} {S : List Addr} : Own H S S := fun _ h => .inl h
theorem Step.trans {S S' : List Addr} {H H1 H2 : Hp} (a : Step S H H1) (b : Step S' H1 H2) (w : Own H S S') : Step S H H2 :=
  ⟨fun c o h n => b.keep c o (a.keep c o h n) fun hm => (w c hm).elim n (fun h1 => by rw [h1] at h; cases h), fun c xs h => b.tups c xs (a.tups c xs h)⟩
theorem Step.more {S T : List Addr} {H H' : Hp} (a : Step S H H') (h : ∀ b ∈ S, b ∈ T) : Step T H H' := ⟨fun b o e n => a.keep b o e fun hm => n (h b hm), a.tups⟩
theorem Step.free {S : List Addr} {H H' : Hp} {p : Addr} (a : Step S H H') (hp : H' p = none) (n : p ∉ S) : H p = none := by
  cases e : H p with
  | none => rfl
  | some o => rw [a.keep _ _ e n] at hp; cases hp
theorem But.step {t : Addr} {H H' : Hp} {l : List V} (b : But t H H') (ht : H t = some (.lst l)) : Step [t] H H' :=
  ⟨fun c o h n => b c o h fun e => n (by rw [e]; exact List.mem_cons_self), fun c xs h => b c _ h (ne_of h ht (by intro z; cases z))⟩
theorem Step.but {t : Addr} {H H' : Hp} (a : Step [t] H H') : But t H H' := fun b o h n => a.keep b o h fun hm => n (List.mem_singleton.mp hm)
theorem step_upd {S : List Addr} {H : Hp} {p : Addr} {o u : HO} (hp : p ∈ S) (h : H p = some u) (hu : ∀ xs, u ≠ .tup xs) : Step S H (upd H p o) :=
  ⟨fun b x e n => by rw [upd_ne (fun z => n (by rw [z]; exact hp))]; exact e, fun b xs e => by rw [upd_ne (ne_of e h fun z => hu xs z.symm)]; exact e⟩
theorem putH {S : List Addr} {H0 H H' : Hp} {k : Addr} {u o : HO} (st : Step S H0 H) (hm : k ∈ S) (h : H k = some u) (hu : ∀ xs, u ≠ .tup xs) (e : upd H k o = H') : Step S H0 H' ∧ But k H H' ∧ H' k = some o := by
  subst e
  exact ⟨st.trans (step_upd hm h hu) .refl, But.upd, upd_same⟩
theorem Step.sqT {K : PySem.W.Frag} {S : List Addr} {H H' : Hp} {a : Addr} {xs : List V} (s : Step S H H') (h : H a = some (.tup xs)) : SqT K H' a xs := Nk.sqT (s.tups _ _ h)
theorem putF_lookup {f g : Str} {y : V} {fs : List (Str × V)} : (putF f y fs).lookup g = if g = f then some y else fs.lookup g := lookup_putF ..
end Nk
/-! ### an own error with its own __init__, over KeepError over RuntimeError -/
namespace Nk
open PySem L2 PySem.Spec PyProof.Rows PySem.HandSPX
open Builtin Builtin.ObjectAttr
abbrev rtTail : List Value := [.type "RuntimeError", .type "Exception", .type "BaseException", .type "object"]
theorem rt_pass (self : Value) (C B : Addr) : refuseLoop self "__setattr__" (.ref C :: .ref B :: rtTail) = pure () := by
  rw [refuseLoop_ref, refuseLoop_ref]
  exact F.store_RuntimeError.passes self
section
variable {prog : Program} {w : World} {A : Around} {E : Value → Shared → Prop} {R : Result → Shared → Prop} {hp : Heap} {g : Array GenState} {d : Drawn} {t : Nat} {os : OsState}
theorem first_fld {K : W.Frag} {nam : Str} {tk : Tok} {v : Value} {x C B : Addr} {fv : Array Value} {cd : ClassData} (X : K.In hp) (hx : hp.get? x = some { cls := .ref C, data := .fields fv }) (hcd : W.clsIn K C = some cd) (hmro : cd.mro = .ref C :: .ref B :: rtTail) (hh : cd.hasDict = true)
    (ha : W.findIn K (.ref C) nam = some none)
    (fin : ∀ h2 tk2 dx, (∀ b o, b ≠ x → hp.get? b = some o → h2.get? b = some o) → hp.objs.size ≤ dx → dx ≠ x → h2.get? x = some { cls := .ref C, dict := some dx, data := .fields fv } → h2.Ns1 dx (fun y => if y = nam then some v else none) → R (.ok (.ret .none)) ⟨h2, g, d, tk2, os⟩) :
    codeAny (model prog w) A (.call (.builtin "object.__setattr__") ⟨[.ref x, .str nam tk, v], []⟩) R ⟨hp, g, d, t, os⟩ := by
  have J : W.InstAt hp x { cls := .ref C, data := .fields fv } C none := ⟨hx, rfl, rfl, trivial⟩
  have st := F.store_object
  have nxs : x ≠ hp.objs.size := Nat.ne_of_lt (Heap.lt_size hx)
  have hob : W.mroIn K C (.type "object") = some true := by
    unfold W.mroIn
    rw [hcd, Option.bind_some, hmro]
    rfl
  have sub : W.Looks (model prog w) hp (isInstance (.ref x) (.type "object")) true := J.type.andThen (W.looks_mroIn X hob)
  refine codeAny_call_builtin st.slot.plain st.entry (@W.check_slot (model prog w) _ _ ⟨hp, g, d, t, os⟩ "object.__setattr__" "object" "__setattr__" (.ref x) [.str nam tk, v] [] _ st.kind st.split sub (st.args (.ref x) (.str nam tk) v) ?_)
  have lm : W.Looks (model prog w) hp (mroOf (.ref C)) cd.mro := (W.looks_clsIn X hcd).andThen .now
  have lt : W.Looks (model prog w) hp (storeTaker? none) none := .now
  have lc : W.Looks (model prog w) hp (classData C) cd := W.looks_clsIn X hcd
  rw [W.osa_eq, refuse_eq]
  refine wpAny_bind (wpAny_bind (J.type.at (wpAny_bind (lm.at ?_))))
  rw [hmro, rt_pass]
  refine wpAny_pure (wpAny_bind (J.type.at (wpAny_bind ((W.looks_findIn X ha).at (wpAny_bind (lt.at ?_))))))
  show wpAny _ _ (storeInOwnDict (.ref x) (.ref C) (.str nam tk) nam v false) _ _ _
  obtain ⟨k1, k2, k3, k4, k5, k6, k7, k8, k9, k10, k11⟩ := cd
  dsimp only at hh
  subst hh
  unfold storeInOwnDict ownDictForStores
  repeat (first | with_reducible refine store_in_new ?_ ?_ | with_reducible refine wpAny_loadPart_at hx ?_ | with_reducible refine lc.at ?_ | wp_step)
  · exact ⟨_, #[], _, (Heap.get?_update_ne _ _ _ _ nxs.symm).trans (Heap.get?_push_at rfl rfl), rfl, fun e he => absurd he (by simp), fun _ => rfl⟩
  · intro h2 tk2 n2 sb
    have hx1 : (hp.push { cls := .type "dict", data := .dict #[] }).get? x = some { cls := .ref C, data := .fields fv } := Heap.get?_push_of_some _ hx
    refine fin h2 tk2 hp.objs.size (fun b o hb ho => ?_) (Nat.le_refl _) nxs.symm ?_ n2
    · exact (sb.2 b (Nat.ne_of_lt (Heap.lt_size ho))).trans ((Heap.get?_update_ne _ _ _ _ hb).trans (Heap.get?_push_of_some _ ho))
    · exact (sb.2 x nxs).trans (Heap.get?_update_self _ hx1 rfl)
end
/-- what the written part says of such a class -/
structure OexR (K : PySem.W.Frag) (C : Addr) : Prop where
  cls : ∃ nm q N bs B sn sub ab col dd k0 k1 k2 k3 k5, K.lookup C = some (excClassObj nm q C N bs (.ref B :: rtTail) true sn sub ab col dd k0 k1 k2 k3 k5 "RuntimeError.__new__")
  sa : PySem.W.findIn K (.ref C) "__setattr__" = some (some (.builtin "object.__setattr__"))
  exC : PySem.W.subIn K (.ref C) (.type "BaseException") = some true
  tyC : PySem.W.typeIn K (.ref C) = some (.type "type")
  kC : PySem.W.keepIn K (.ref C) = true
section
variable {X : Cx} {pins : List (Addr × Obj)} {σ : L2.St} {H : Hp} {s : Shared} {a C : Addr} {f : Str} {y : V} {u : Value} {Q : Unit → Shared → Prop} {E : Value → Shared → Prop} {A : Around}
theorem own_first (T : OexR X.K C) (I : Inv X pins σ H s) (e : H a = some (exo a C none)) (hno : PySem.W.findIn X.K (.ref C) f = some none) (ry : RelV y u)
    (k : ∀ dx s', H dx = none → dx ≠ a → Inv X pins σ (upd (upd H dx (exd dx [(f, y)])) a (exo a C (some dx))) s' → Q () s') : wpAny (model X.prog X.w) A (setAttr (.ref a) f u) Q E s := by
  obtain ⟨nm, q, N, bs, B, sn, sub, ab, col, dd, k0, k1, k2, k3, k5, hC⟩ := T.cls
  have hcl : PySem.W.clsIn X.K C = some { name := nm, bases := bs, mro := .ref C :: .ref B :: rtTail, ns := N, qualname := q, hasDict := true, slotNames := sn, subclasses := sub, abstract := ab, collection := col, hasDel := false } := by
    unfold PySem.W.clsIn
    rw [hC] <;> rfl
  obtain ⟨t1, ho⟩ := exo_at I.hok e
  obtain ⟨hp, g, d, t, os⟩ := s
  refine PySem.W.set_plain I.kIn (ox := { cls := .ref C, dict := none, data := .fields #[.ref t1, .none, .none, .none, .bool false, .none] }) (od := none) ⟨ho, rfl, rfl, trivial⟩ T.sa ?_
  refine first_fld I.kIn ho hcl rfl rfl hno fun h2 tk2 dx kp dn dne hx hn => ?_
  have hnd : H dx = none := I.hok.fresh dn
  have nd : ∀ {b : Addr} {o : Obj}, hp.get? b = some o → b ≠ dx := fun {b o} z => Nat.ne_of_lt (Nat.lt_of_lt_of_le (Heap.lt_size z) dn)
  have na : ∀ {b : Addr}, H b = none → b ≠ a := fun {b} n z => by rw [z, e] at n; cases n
  have U : Un X.fs [] H (upd (upd H dx (exd dx [(f, y)])) a (exo a C (some dx))) hp h2 := {
    keep := fun b o z n _ _ => kp b o (na n) z
    slot := fun b o z n _ _ => ⟨o.slots, kp b o (na n) z⟩
    free := fun b o z n _ => by rw [upd_ne (na n), upd_ne (nd z)]; exact n
    there := fun b o z _ => by
      by_cases hb : b = a
      · rw [hb]; exact ⟨_, hx⟩
      · exact ⟨o, kp b o hb z⟩
    tups := fun b xs z => by rw [upd_ne (at_ne e z exo_tup), upd_ne (ne_of_none z hnd)]; exact z
    frzs := fun b o v z => by rw [upd_ne (at_ne e z exo_frz), upd_ne (ne_of_none z hnd)]; exact z
    tbls := fun b ps z => ⟨#[], by rw [upd_ne (at_ne e z exo_tbl), upd_ne (ne_of_none z hnd), z]; simp⟩ }
  refine k dx _ hnd dne (I.un (t' := tk2) U fun b o z => ?_)
  by_cases hb : b = a
  · subst hb
    rw [upd_same] at z
    cases z
    exact exo_ok hx
  · rw [upd_ne hb] at z
    by_cases hd : b = dx
    · subst hd
      rw [upd_same] at z
      cases z
      exact exd_ok hn (relO_put (fs := []) ry fun g => True.intro)
    · rw [upd_ne hd] at z
      refine (I.hok b o z).stay (fun c v hc w => kp c v ?_ w) (fun c hc => by rw [upd_ne (at_ne e hc exo_own), upd_ne (ne_of_none hc hnd)]; exact hc) (fun c xs hc => by rw [upd_ne (at_ne e hc exo_tup), upd_ne (ne_of_none hc hnd)]; exact hc)
      rcases hc with hc | hc
      · rw [hc]; exact hb
      · exact at_ne e hc exo_own
end
/-- self.f = e, the first one -/
def tOstR (K : PySem.W.Frag) (f : Str) (to te : TE) : TS := fun D σ H => te σ H fun y H1 => to σ H1 fun x H2 => ∃ a C : Addr, x = .ref a ∧ OexR K C ∧ PySem.W.findIn K (.ref C) f = some none ∧
  H2 a = some (exo a C none) ∧ ∀ dx, H2 dx = none → dx ≠ a → D.nx σ (upd (upd H2 dx (exd dx [(f, y)])) a (exo a C (some dx)))
section
variable {X : Cx} {o e : Expr} {es : List Expr} {to te : TE} {ta : TA} {f : Str} {p p' pos : Pos}
theorem ps_ostR (ho : PE X o to) (he : PE X e te) (hs : swapsWith e (some (.Attribute o f p')) pos.line X.env = pure false := by rfl) : PS X (.Assign [.Attribute o f p'] e pos) (tOstR X.K f to te) := by
  refine ⟨fun pins s σ H D I h => ?_⟩
  refine plainObj_wpAny_Assign_Attribute (thn (he.run pins s σ H _ I h) fun v s1 ⟨y, H1, I1, r1, q1⟩ => thn (ho.run pins s1 σ H1 _ I1 q1) fun u s2 ⟨x, H2, I2, r2, a, C, ex, T, hno, ea, q⟩ => ?_) hs
  subst ex
  obtain rfl : u = Value.ref a := r2
  exact own_first T I2 ea hno r1 fun dx s' n ne J => ⟨σ, _, J, q dx n ne⟩
theorem pmk_oexR {CX : CXT} {x : Str} {C fI : Addr} {k : Nat} {fd : FuncData} {ps : List Str} {sp : Sp} (T : OexR X.K C) (iC : PySem.W.findIn X.K (.ref C) "__init__" = some (some (.ref fI))) (tI : PySem.W.typeIn X.K (.ref fI) = some (.type "function"))
    (F1 : FnOk X.prog X.w X.K X.mg X.base CX k fI fd ps sp) (hr : Room (k + 1) X.A) (hb : Binds X.K fd ps []) (hx : Passes CX X (fun _ _ _ => False)) (hg : Gl X x) (hm : X.mg x = some (.ref C)) (ha : PA X (e :: es) ta)
    (hdb : (x == ("__debug__" : Str)) = false := by decide) (he : starEach (e :: es) X.env = (false, eval e X.env) :: starEach es X.env := by rfl) (hpl : (backTo pos (starEach es X.env)).any (·.1) = false := by rfl) :
    PMk X (.Call (.Name x p) (e :: es) [] pos) (tMkO C sp [] ta) := by
  intro pins s σ H Q I h
  obtain ⟨nm, q, N, bs, B, sn, sub, ab, col, dd, k0, k1, k2, k3, k5, hC⟩ := T.cls
  refine wpAny_Call_Name_kw (ld_glob I hg hm ?_ hdb)
  refine PySem.W.callWith_K (h₀ := X.base) I.ok.mod.kin T.kC (thn (ha.run pos pins s σ H _ I h) fun us s1 ⟨vs, H1, I1, r1, hz, q1⟩ => ⟨I1.kIn, ?_⟩) he hpl
  show wpAny _ _ (call (.ref C) us) _ _ _
  obtain ⟨hp, g, dr, tk, os⟩ := s1
  have up1 : hp.objs.size ≤ hp.objs.size + 1 := Nat.le_succ _
  have hn : H1 (hp.objs.size + 1) = none := I1.hok.fresh up1
  have hq := q1 (hp.objs.size + 1) hn
  have old : ∀ b o, hp.get? b = some o → ((hp.push (PySem.W.kdv_tup us)).push (excO C hp.objs.size)).get? b = some o := fun b o z => Heap.get?_push_of_some _ (Heap.get?_push_of_some _ z)
  have new : ((hp.push (PySem.W.kdv_tup us)).push (excO C hp.objs.size)).get? (hp.objs.size + 1) = some (excO C hp.objs.size) := by heap_get
  have I2 : Inv X pins σ (upd H1 (hp.objs.size + 1) (exo (hp.objs.size + 1) C none)) ⟨(hp.push (PySem.W.kdv_tup us)).push (excO C hp.objs.size), g, dr, tk, os⟩ :=
    I1.laid (t' := tk) (a := hp.objs.size + 1) (o := exo (hp.objs.size + 1) C none) (h' := (hp.push (PySem.W.kdv_tup us)).push (excO C hp.objs.size)) old up1 (exo_ok new)
  rw [List.append_nil] at hq
  have r2 : Vals (V.ref (hp.objs.size + 1) :: vs) (Value.ref (hp.objs.size + 1) :: us) := .cons rfl r1
  have hl : (Value.ref (hp.objs.size + 1) :: us ++ ([] : List Value)).length = ps.length := by
    rw [List.append_nil, ← r2.length]
    exact F1.len _ _ _ _ hq
  have hus : us.length ≤ sizeLine := by
    rw [← Paired.length r1, sizeLine_eq]
    omega
  have hbb := hb ⟨(hp.push (PySem.W.kdv_tup us)).push (excO C hp.objs.size), g, dr, tk, os⟩ (Value.ref (hp.objs.size + 1) :: us) I2.kIn hl
  rw [List.append_nil] at hbb
  refine wpAny_call (call_own F.excBase_RuntimeError (bm := .ref B :: rtTail) (fun Y => rfl) (I1.kIn _ _ hC) (PySem.W.looks_findIn I1.kIn iC) (fun self => PySem.W.bind_fn I1.kIn self tI) hus
    (codeAny_mono (F1.run _ X.stack _ _ ⟨Value.ref (hp.objs.size + 1) :: us, []⟩ (Value.ref (hp.objs.size + 1) :: us) _ _ (fun _ _ _ => False) (hr.make C us []) (I2.env0.make C us []) hbb r2 hq) fun r s' hq' => ?_))
  cases r with
  | error er => exact hx pins σ _ _ er s' I2 hq'
  | ok fl =>
    cases fl with
    | ret u =>
      obtain ⟨v, H2, os2, bare2, un2, hok2, rv, ev, d, fs, ea, ed, hd1, q2⟩ := hq'
      subst ev
      obtain ⟨h2, g2, d2, t2, os'⟩ := s'
      exact ⟨rv, mk_end (raises_own T.exC T.tyC) I1 up1 old un2 hok2 os2 bare2 ea ed hd1 q2⟩
    | next => exact False.elim hq'
    | brk => exact False.elim hq'
    | cont => exact False.elim hq'
end
end Nk
namespace Nk
open PySem L2 PySem.Spec PyProof.Rows
/-- such a class as it stands behind the top: one field, set by its __init__ -/
structure Eo (K : PySem.W.Frag) (mg : Str → Option Value) (x qual : Str) (st : Stmt) (ps : List Str) (f : Str) : Prop where
  g : mg x = some (.ref (cls mg x))
  ox : OexR K (cls mg x)
  na : PySem.W.findIn K (.ref (cls mg x)) f = some none
  ini : ∃ (fI : Addr) (fd : FuncData), Fun K "__init__" qual st fI fd ∧ PySem.W.findIn K (.ref (cls mg x)) "__init__" = some (some (.ref fI)) ∧ PySem.W.typeIn K (.ref fI) = some (.type "function") ∧ Binds K fd ps []
section
variable {K : PySem.W.Frag} {h : Heap} {mg : Str → Option Value}
theorem eo_mk {x qual : Str} {st : Stmt} {ps : List Str} {f : Str} {C fI : Addr} {oc : Value} {od an : Option Addr} {osl : Array (Option Value)} {kV doc pm cdv ct : Value}
    {nm q : Str} {N B : Addr} {bs : List Value} {sn : List Str} {sub : List Value} {ab : Bool} {col : Option Bool} {dd : Option Addr} {k0 k1 k2 k3 k5 : Option Value} (X : K.In h) (G : h.Ns mainGlobals mg)
    (hb : ∀ (kV doc pm : Value) (an : Option Addr) (cdv ct : Value) (us : List Value), us.length = ps.length → bindArgs (PySem.W.fnOf "__init__" qual (defArgs st) (defBody st) (defScope st) .none kV doc pm an cdv ct) ⟨us, []⟩ = pure (ps.zip us))
    (aC : PySem.W.nsIn K mainGlobals x = some (some (.ref C)))
    (lC : K.lookup C = some (excClassObj nm q C N bs (.ref B :: rtTail) true sn sub ab col dd k0 k1 k2 k3 k5 "RuntimeError.__new__"))
    (sa : PySem.W.findIn K (.ref C) "__setattr__" = some (some (.builtin "object.__setattr__"))) (exC : PySem.W.subIn K (.ref C) (.type "BaseException") = some true) (tyC : PySem.W.typeIn K (.ref C) = some (.type "type")) (kC : PySem.W.keepIn K (.ref C) = true)
    (na : PySem.W.findIn K (.ref C) f = some none)
    (a : PySem.W.findIn K (.ref C) "__init__" = some (some (.ref fI))) (ti : PySem.W.typeIn K (.ref fI) = some (.type "function"))
    (l : K.lookup fI = some ⟨oc, od, .func (PySem.W.fnOf "__init__" qual (defArgs st) (defBody st) (defScope st) .none kV doc pm an cdv ct), osl⟩)
    (cc : PySem.W.codeIn K cdv qual = true) (k : PySem.W.keepIn K (.ref fI) = true) : Eo K mg x qual st ps f := by
  have g := PySem.W.mg_of X G aC
  have e := cls_of g
  have F := fun_mk (st := st) l cc k
  refine ⟨by rw [e]; exact g, by rw [e]; exact ⟨⟨_, _, _, _, _, _, _, _, _, _, _, _, _, _, _, lC⟩, sa, exC, tyC, kC⟩, by rw [e]; exact na, fI, _, F, by rw [e]; exact a, ti, F.binds hb⟩
end
end Nk

namespace Nk
open PySem L2 PySem.Spec PyProof.Rows
/-- its __init__ keeps a promise -/
structure Ek (P : Program) (w : World) (K : PySem.W.Frag) (mg : Str → Option Value) (base : Heap) (CX : CXT) (k : Nat) (x : Str) (ps : List Str) (sp : Sp) : Prop where
  ex : ∃ (fI : Addr) (fd : FuncData), PySem.W.findIn K (.ref (cls mg x)) "__init__" = some (some (.ref fI)) ∧ PySem.W.typeIn K (.ref fI) = some (.type "function") ∧ Binds K fd ps [] ∧ FnOk P w K mg base CX k fI fd ps sp
section
variable {X : Cx} {CX : CXT} {k : Nat} {ps : List Str} {sp : Sp} {x qual f : Str} {st : Stmt} {p pos : Pos} {e : Expr} {es : List Expr} {ta : TA} {ps0 : List Str}
theorem pmk_el (Y : Eo X.K X.mg x qual st ps0 f) (F : Ek X.prog X.w X.K X.mg X.base CX k x ps sp) (hr : Room (k + 1) X.A) (hx : Passes CX X (fun _ _ _ => False)) (hg : Gl X x) (ha : PA X (e :: es) ta)
    (hdb : (x == ("__debug__" : Str)) = false := by decide) (he : starEach (e :: es) X.env = (false, eval e X.env) :: starEach es X.env := by rfl) (hpl : (backTo pos (starEach es X.env)).any (·.1) = false := by rfl) :
    PMk X (.Call (.Name x p) (e :: es) [] pos) (tMkO (cls X.mg x) sp [] ta) := by
  obtain ⟨fI, fd, h1, h2, h3, h4⟩ := F.ex
  exact pmk_oexR Y.ox h1 h2 h4 hr h3 hx hg Y.g ha hdb he hpl
end
end Nk
/-! ### defs of a class called by its name, an __init__ with defaults and keywords -/
namespace Nk
open PySem L2 PySem.Spec PyProof.Rows
/-- C.m is a plain def of the class -/
structure Cf (K : PySem.W.Frag) (mg : Str → Option Value) (c m : Str) : Prop where
  ex : ∃ (mc : Value) (f : Addr), PySem.W.readsIn K (cls mg c) mc = true ∧ PySem.W.specialIn K (.ref (cls mg c)) "__getattribute__" = some (some (.builtin "type.__getattribute__")) ∧ PySem.W.findCls K (.ref (cls mg c)) mc m = some (.val (.ref f)) ∧ PySem.W.findIn K (.ref (cls mg c)) m = some (some (.ref f))
/-- an __init__ with defaults -/
structure Sd (K : PySem.W.Frag) (mg : Str → Option Value) (c qual : Str) (st : Stmt) (ps : List Str) (dvs : List V) : Prop where
  ex : ∃ (f : Addr) (fd : FuncData), FunD K "__init__" qual (defArgs st) (defBody st) (defScope st) dvs [] f fd ∧ Meth K (cls mg c) "__init__" f
/-- c stands below d -/
structure Sb (K : PySem.W.Frag) (mg : Str → Option Value) (c d : Str) : Prop where
  ha : PySem.W.findIn K (.ref (cls mg c)) "__class__" = some (some (.builtin "object.__class__"))
  hn : PySem.W.specialIn K (.builtin "object.__class__") "__get__" = some (some (.builtin "getset_descriptor.__get__"))
  htk : PySem.W.takesIn K (.builtin "object.__class__") = some true
  hm : PySem.W.mroIn K (cls mg c) (.type "object") = some true
  kit : PySem.W.kitOne K (.ref (cls mg c)) (.ref (cls mg d)) = some true
theorem isi_sub {K : PySem.W.Frag} {H : Hp} {mg : Str → Option Value} {c d : Str} {a dx : Addr} {fs : List (Str × V)} {Q : VK} (O : Oc K mg c) (N : Sb K mg c d) (h : H a = some (.ins (cls mg c) dx fs)) (q : Q (.bl true) H) : rIsi K [.ref a, .ref (cls mg d)] H Q :=
  ⟨_, _, _, _, true, rfl, .own _, .base (.ins h O.cl N.ha N.hn N.htk N.hm), N.kit, q⟩
section
variable {K : PySem.W.Frag} {h : Heap} {mg : Str → Option Value}
theorem sb_mk {c d : Str} {C D : Addr} (X : K.In h) (G : h.Ns mainGlobals mg) (aC : PySem.W.nsIn K mainGlobals c = some (some (.ref C))) (aD : PySem.W.nsIn K mainGlobals d = some (some (.ref D)))
    (ha : PySem.W.findIn K (.ref C) "__class__" = some (some (.builtin "object.__class__"))) (hn : PySem.W.specialIn K (.builtin "object.__class__") "__get__" = some (some (.builtin "getset_descriptor.__get__")))
    (htk : PySem.W.takesIn K (.builtin "object.__class__") = some true) (hm : PySem.W.mroIn K C (.type "object") = some true) (sub : PySem.W.mroIn K C (.ref D) = some true) (tD : PySem.W.typeIn K (.ref D) = some (.type "type")) (hD : PySem.W.mroIn K D (.type "object") = some true) : Sb K mg c d := by
  have e := cls_of (PySem.W.mg_of X G aC)
  have e2 := cls_of (PySem.W.mg_of X G aD)
  have hs : (PySem.W.clsIn K D).isSome = true := by
    unfold PySem.W.mroIn at hD
    obtain ⟨cd, a, _⟩ := Option.bind_eq_some_iff.mp hD
    rw [a]; rfl
  have kit : PySem.W.kitOne K (.ref C) (.ref D) = some true := by
    unfold PySem.W.kitOne
    split
    · rfl
    · show (if ((PySem.W.clsIn K D).isSome && PySem.W.typeIn K (.ref D) == some (.type "type")) = true then PySem.W.subIn K (.ref C) (.ref D) else none) = _
      rw [hs, tD, if_pos (by rfl)]
      exact sub
  exact ⟨by rw [e]; exact ha, hn, htk, by rw [e]; exact hm, by rw [e, e2]; exact kit⟩
theorem cf_mk {c m : Str} {C f : Addr} {mc : Value} (X : K.In h) (G : h.Ns mainGlobals mg) (aC : PySem.W.nsIn K mainGlobals c = some (some (.ref C))) (rd : PySem.W.readsIn K C mc = true)
    (ga : PySem.W.specialIn K (.ref C) "__getattribute__" = some (some (.builtin "type.__getattribute__"))) (fc : PySem.W.findCls K (.ref C) mc m = some (.val (.ref f))) (ai : PySem.W.findIn K (.ref C) m = some (some (.ref f))) : Cf K mg c m := by
  have e := cls_of (PySem.W.mg_of X G aC)
  exact ⟨mc, f, by rw [e]; exact rd, by rw [e]; exact ga, by rw [e]; exact fc, by rw [e]; exact ai⟩
theorem sd_mk {c qual : Str} {st : Stmt} {ps : List Str} {C f Tt : Addr} {i : Int} {tk : Tok} {oc c2 : Value} {od an d2 : Option Addr} {osl sl2 : Array (Option Value)} {kV doc pm cdv ct : Value} {n : Nat} (X : K.In h) (G : h.Ns mainGlobals mg)
    (aC : PySem.W.nsIn K mainGlobals c = some (some (.ref C))) (a : PySem.W.findIn K (.ref C) "__init__" = some (some (.ref f))) (ii : PySem.W.isFn K (.ref f) = true)
    (l : K.lookup f = some ⟨oc, od, .func (PySem.W.fnOf "__init__" qual (defArgs st) (defBody st) (defScope st) (.ref Tt) kV doc pm an cdv ct), osl⟩)
    (lT : K.lookup Tt = some ⟨c2, d2, .seq #[.int i tk] n, sl2⟩)
    (cc : PySem.W.codeIn K cdv qual = true) (k : PySem.W.keepIn K (.ref f) = true) : Sd K mg c qual st ps [.int i] := by
  have e := cls_of (PySem.W.mg_of X G aC)
  exact ⟨f, _, ⟨⟨oc, od, _, kV, doc, pm, an, cdv, ct, osl, rfl, l, cc, .inr ⟨by simp, Tt, _, [.int i tk], n, rfl, lT, rfl, .cons ⟨tk, rfl⟩ .nil⟩, .inl rfl⟩, k⟩, by rw [e]; exact ⟨a, ii, k⟩⟩
end
section
variable {X : Cx} {CX : CXT} {k : Nat} {ps : List Str} {sp : Sp} {c m qual : Str} {st : Stmt} {dvs : List V} {p pos apos : Pos} {o e : Expr} {es : List Expr} {ta : TE} {t tk : TA} {E : XK} {kws : List Keyword}
def tCFn (C : Addr) (sp : Sp) (E : XK) (ta : TE) (t : TA) : TE := fun σ H Q => ta σ H fun x H1 => x = .ref C ∧ t σ H1 fun vs H2 => sp (vs ++ []) H2 Q E
theorem pe_cfn {pl : Sem Bool} (he : PE X o ta) (R : Cf X.K X.mg c m) (M : Mo X.prog X.w X.K X.mg X.base CX k c m ps sp) (hr : Room k X.A) (hx : Passes CX X E) (ha : PA X (e :: es) t)
    (hst : starEach (e :: es) X.env = (false, eval e X.env) :: starEach es X.env := by rfl) (hpl : (backTo pos (starEach es X.env)).any (·.1) = false := by rfl)
    (ht : eval (.Call (.Attribute o m apos) (e :: es) [] pos) X.env = (do
      let ov ← eval o X.env
      standAt apos.atName
      let (g, first) ← holding [ov] (getMethod ov m pl)
      callWith pos g first (backTo pos (starEach (e :: es) X.env)) (backToKw pos (keywordEach [] X.env))) := by rfl) :
    PE X (.Call (.Attribute o m apos) (e :: es) [] pos) (tCFn (cls X.mg c) sp E ta t) := by
  obtain ⟨f, fd, h1, h2, h3⟩ := M.ex
  obtain ⟨mc, f', r1, r2, r3, r4⟩ := R.ex
  have e0 : f' = f := by
    have := h1.at_
    rw [r4] at this
    cases this
    rfl
  subst e0
  refine ⟨fun pins s σ H Q I h => PySem.W.methodCall_KW (pl := pl) (thn (he.run pins s σ H _ I h) fun u s1 ⟨x, H1, I1, rx, ex, q⟩ => ?_) ht⟩
  subst ex
  obtain rfl : u = Value.ref (cls X.mg c) := rx
  refine PySem.W.method_cls I1.kIn r2 (PySem.W.cls_value I1.kIn r1 r3 rfl ?_)
  exact PySem.W.callWith_K (first := []) (h₀ := X.base) I.ok.mod.kin h1.kp (thn (ha.run pos pins _ σ H1 _ (I1.tok _) q) fun us s2 ⟨vs, H2, I2, r, q2⟩ => ⟨I2.kIn, run_fn (us := us) (vs := vs) h3 hr h2 .nil hx I2 r q2⟩) hst hpl
/-- such an __init__ keeps a promise -/
structure Mi (P : Program) (w : World) (K : PySem.W.Frag) (mg : Str → Option Value) (base : Heap) (CX : CXT) (k : Nat) (c qual : Str) (st : Stmt) (ps : List Str) (dvs : List V) (sp : Sp) : Prop where
  ex : ∃ (f : Addr) (fd : FuncData), Meth K (cls mg c) "__init__" f ∧ FunD K "__init__" qual (defArgs st) (defBody st) (defScope st) dvs [] f fd ∧ FnOk P w K mg base CX k f fd ps sp
theorem vals_app {xs ys : List V} {us vs : List Value} (h : Vals xs us) (h2 : Vals ys vs) : Vals (xs ++ ys) (us ++ vs) := by
  induction h with
  | nil => exact h2
  | cons r _ ih => exact .cons r ih
theorem pe_newK {ks : List Str} {n : Nat} (O : Oc X.K X.mg c) (M : Mi X.prog X.w X.K X.mg X.base CX k c qual st ps dvs sp) (hd : dvs ≠ []) (hr : Room (k + 1) X.A) (hg : Gl X c) (hx : Passes CX X E)
    (hb : ∀ (T : Addr) (kV doc pm : Value) (an : Option Addr) (cdv ct : Value) (us its ws : List Value), us.length = n + 1 → its.length = dvs.length → ws.length = ks.length →
      ∃ k, bindArgs (PySem.W.fnOf "__init__" qual (defArgs st) (defBody st) (defScope st) (.ref T) kV doc pm an cdv ct) ⟨us, ks.zip ws⟩ = seqItems? (.ref T) >>= k ∧ k (some its.toArray) = pure (ps.zip (us ++ ws)))
    (ha : PA X (e :: es) t) (hkw : PK X kws tk) (hall : (backToKw pos (keywordEach kws X.env)).all (·.1.isSome) = true := by rfl) (hks : (backToKw pos (keywordEach kws X.env)).filterMap (·.1) = ks := by rfl)
    (hdb : (c == ("__debug__" : Str)) = false := by decide) (he : starEach (e :: es) X.env = (false, eval e X.env) :: starEach es X.env := by rfl)
    (hpl : ((backTo pos (starEach (e :: es) X.env)).any (·.1) || (backToKw pos (keywordEach kws X.env)).any (·.1.isNone)) = false := by rfl) :
    PE X (.Call (.Name c p) (e :: es) kws pos) (tMakeN (cls X.mg c) n ks.length sp (fun vs zs => vs ++ zs) E t tk) := by
  obtain ⟨f, fd, h1, F, h3⟩ := M.ex
  obtain ⟨its, B⟩ := F.kbindsD (n + 1) ks (fun us _ ws => us ++ ws) hd (fun a _ b => vals_app a b) hb
  exact pe_makeN ⟨O.makes, h1.at_, h1.fn, O.kp⟩ h3 hr hg O.g B hx ha hkw hall hks hdb he hpl
/-- a call with less than all, the defaults behind -/
theorem pe_newD {n j : Nat} (O : Oc X.K X.mg c) (M : Mi X.prog X.w X.K X.mg X.base CX k c qual st ps dvs sp) (hd : dvs ≠ []) (hn : n + (dvs.length - j) = ps.length) (hr : Room (k + 1) X.A) (hg : Gl X c) (hx : Passes CX X E)
    (hb : ∀ (T : Addr) (kV doc pm : Value) (an : Option Addr) (cdv ct : Value) (us its : List Value), us.length = n → its.length = dvs.length →
      ∃ k, bindArgs (PySem.W.fnOf "__init__" qual (defArgs st) (defBody st) (defScope st) (.ref T) kV doc pm an cdv ct) ⟨us, []⟩ = seqItems? (.ref T) >>= k ∧ k (some its.toArray) = pure (ps.zip (us ++ its.drop j)))
    (ha : PA X (e :: es) t) (hdb : (c == ("__debug__" : Str)) = false := by decide) (he : starEach (e :: es) X.env = (false, eval e X.env) :: starEach es X.env := by rfl) (hpl : (backTo pos (starEach es X.env)).any (·.1) = false := by rfl) :
    PE X (.Call (.Name c p) (e :: es) [] pos) (tMake (cls X.mg c) sp (dvs.drop j) E t) := by
  obtain ⟨f, fd, h1, F, h3⟩ := M.ex
  obtain ⟨ds, h4, B⟩ := F.binds1 n j hd hn hb
  exact pe_make ⟨O.makes, h1.at_, h1.fn, O.kp⟩ h3 hr hg O.g B h4 hx ha hdb he hpl
end
end Nk
/-! ### set(l) of a list of texts, sorted of it -/
namespace Nk
open PySem L2 PySem.Spec PyProof.Rows
def keyS (e : Int × Value) : Str := match e.2 with
  | .str x _ => x
  | _ => Str.empty
def GoodS (w : World) (e : Int × Value) : Prop := ∃ x tk, e.2 = Value.str x tk ∧ e.1 = hashStr w x
theorem textAt : ∀ {us : List Value} {xs : List Str}, StrsAre us xs → ∀ (i : Nat) (v : Value), us[i]? = some v → ∃ k t, xs[i]? = some k ∧ v = .str k t
  | _, _, .nil, i, v, z => by simp at z
  | _, _, .cons x t r, 0, v, z => ⟨x, t, rfl, (Option.some.inj z).symm⟩
  | _, _, .cons x t r, i + 1, v, z => textAt r i v z
/-- the set of texts at a, that can be walked -/
def SetS (w : World) (h : Heap) (a : Addr) (S : Str → Bool) (n : Nat) : Prop := ∃ o es ep t, h.get? a = some o ∧ o.ExactSet ∧ o.data = .set es ep t ∧ (∀ e ∈ es.toList, GoodS w e) ∧ (es.toList.map keyS).Nodup ∧
  (∀ k, S k = true ↔ k ∈ es.toList.map keyS) ∧ es.size < scanBound ∧ t.fits es.size = true ∧ es.size = n ∧ Ris t.place.toList ∧ (w.params.followText "set-order" = true ∨ t.led = true)
section
variable {P : Program} {w : World} {h h' : Heap} {a : Addr} {S : Str → Bool} {n : Nat} {A : Around} {E : Value → Shared → Prop} {s : Shared}
theorem SetS.at (R : SetS w h a S n) (k : ∀ o, h.get? a = some o → h'.get? a = some o) : SetS w h' a S n :=
  let ⟨o, es, ep, t, ho, r⟩ := R
  ⟨o, es, ep, t, k o ho, r⟩
theorem SetS.congr {S' : Str → Bool} (R : SetS w h a S n) (e : ∀ k, S' k = S k) : SetS w h a S' n := by
  obtain ⟨o, es, ep, t, h1, h2, h3, h4, h5, h6, r⟩ := R
  exact ⟨o, es, ep, t, h1, h2, h3, h4, h5, fun k => by rw [e]; exact h6 k, r⟩
theorem isS {x y : Str} {tk : Tok} : (strKind P w).is x (.str y tk) = true ↔ x = y := by
  constructor
  · intro z
    have z2 : Value.isStrOf x (.str y tk) = true := z
    obtain ⟨u, e⟩ := Value.isStrOf_shape z2
    cases e
    rfl
  · rintro rfl
    show Value.isStrOf x (.str x tk) = true
    simp [Value.isStrOf]
theorem elemsS {l : List (Int × Value)} (g : ∀ e ∈ l, GoodS w e) : ElemsOf (strKind P w) l := fun e he => by
  obtain ⟨x, tk, e1, e2⟩ := g e he
  rw [e1]
  exact ⟨⟨x, isS.mpr rfl, e2⟩, rfl⟩
theorem memS {l : List (Int × Value)} (g : ∀ e ∈ l, GoodS w e) (k : Str) : k ∈ l.map keyS ↔ ∃ e ∈ l, (strKind P w).is k e.2 = true := by
  rw [List.mem_map]
  constructor
  · rintro ⟨e, he, rfl⟩
    obtain ⟨x, tk, e1, _⟩ := g e he
    refine ⟨e, he, ?_⟩
    unfold keyS
    rw [e1]
    exact isS.mpr rfl
  · rintro ⟨e, he, z⟩
    obtain ⟨x, tk, e1, _⟩ := g e he
    rw [e1] at z
    refine ⟨e, he, ?_⟩
    unfold keyS
    rw [e1]
    exact (isS.mp z).symm
theorem storeS {o : Obj} {es es' : Array (Int × Value)} {ep : Nat} {t t' : SetTable} (ho : h.get? a = some o) (hd : o.data = .set es ep t) : (h.update a (Obj.putSet es' t')).get? a = some { o with data := .set es' (ep + 1) t' } := store_at ho hd
/-- the tail of an add -/
theorem tailS {g : Bool → Sem Unit} (hg : ∀ (b : Bool) (s₁ : Shared) (Q' : Unit → Shared → Prop), Q' () s₁ → wpAny (model P w) A (g b) Q' E s₁) {o : Obj} {es : Array (Int × Value)} {ep : Nat} {t : SetTable} (at_ : s.heap.get? a = some o) (ex : o.ExactSet) (dat : o.data = .set es ep t)
    {es1 : Array (Int × Value)} {t2 : SetTable} {S' : Str → Bool} (good : ∀ e ∈ es1.toList, GoodS w e) (once : (es1.toList.map keyS).Nodup) (mem : ∀ k, S' k = true ↔ k ∈ es1.toList.map keyS) (few : es1.size < scanBound) (fit : t2.fits es1.size = true) (ris : Ris t2.place.toList)
    (led : w.params.followText "set-order" = true ∨ t2.led = true) {wasDummy : Bool} {R : Option Bool → Shared → Prop} (fin : ∀ h', Heap.SameBut a s.heap h' → SetS w h' a S' es1.size → R (some true) { s with heap := h' }) :
    wpAny (model P w) A (do
      storeSet a es1 t2
      if (!wasDummy && t2.tooFull) = true then do
          g (relayAll t2 es1 (SetTable.grown es1.size)).2.2
          storeSet a (relayAll t2 es1 (SetTable.grown es1.size)).1 (relayAll t2 es1 (SetTable.grown es1.size)).2.1
          pure (some true)
        else pure (some true)) R E s := by
  have new1 := storeS (es' := es1) (t' := t2) at_ dat
  have but1 := Heap.SameBut.update s.heap a (Obj.putSet es1 t2)
  refine wpAny_bind (wpAny_storeSet_of at_ dat ?_ (fits_of_scanBound few))
  split
  · have z1 := relayAll_perm t2 es1 (SetTable.grown es1.size)
    have z2 := relayAll_fits t2 es1 (SetTable.grown es1.size)
    have z3 := relayAll_ris t2 es1 (SetTable.grown es1.size)
    have z4 := relayAll_led t2 es1 (SetTable.grown es1.size)
    generalize relayAll t2 es1 (SetTable.grown es1.size) = Z at z1 z2 z3 z4 ⊢
    obtain ⟨es2, t3, gave⟩ := Z
    dsimp only at z1 z2 z3 z4 ⊢
    have same : es2.size = es1.size := by
      have := z1.length_eq
      simpa using this
    refine wpAny_bind (hg _ _ _ ?_)
    refine wpAny_bind (wpAny_storeSet_of new1 rfl ?_ (fits_of_scanBound (by omega)))
    have new2 := storeS (es' := es2) (t' := t3) new1 rfl
    have zk := z1.map keyS
    exact wpAny_pure (fin _ (but1.trans (Heap.SameBut.update _ a _)) ⟨_, es2, _, t3, new2, ex, rfl, fun e he => good e (z1.mem_iff.mp he), zk.nodup_iff.mpr once, fun k => by rw [mem k, zk.mem_iff], by omega, z2, same, z3, led.imp id fun q => by rw [z4]; exact q⟩)
  · exact wpAny_pure (fin _ but1 ⟨_, es1, _, t2, new1, ex, rfl, good, once, mem, few, fit, rfl, ris, led⟩)
theorem addS {k : Str} {tk : Tok} {Q : Bool → Shared → Prop} (R : SetS w s.heap a S n) (room : n + 1 < scanBound)
    (fin : ∀ h', Heap.SameBut a s.heap h' → SetS w h' a (fun j => S j || decide (j = k)) (if S k = true then n else n + 1) → Q (!S k) { s with heap := h' }) : wpAny (model P w) A (setAddHashed a (.str k tk) ((strKind P w).hash k)) Q E s := by
  obtain ⟨o, es, ep, t, at_, ex, dat, good, once, mem, few, fit, num, ris, led⟩ := R
  have isk : (strKind P w).is k (.str k tk) = true := isS.mpr rfl
  have scn : (Value.str k tk).scannable = true := rfl
  have els : ElemsOf (strKind P w) es.toList := elemsS good
  unfold setAddHashed setAddHashedIn
  refine wpAny_holding (wpAny_bind (wpAny_setState_of at_ dat fit ?_))
  dsimp only
  rw [byScan_of scn few els]
  simp only [↓reduceIte]
  unfold setAddByScan
  refine wpAny_bind (wpAny_bind (wpAny_rule ?_))
  refine wpAny_bind (wpAny_setScan_of isk at_ dat fit els ?_)
  cases found : List.findIdx? (fun e => (strKind P w).is k e.2) es.toList with
  | some j =>
    dsimp only
    obtain ⟨lt, hit, _⟩ := List.findIdx?_eq_some_iff_getElem.mp found
    have old : S k = true := (mem k).2 ((memS (P := P) good k).2 ⟨_, List.getElem_mem lt, hit⟩)
    have q := fin s.heap (Heap.SameBut.refl a s.heap) ⟨o, es, ep, t, at_, ex, dat, good, once, fun i => by
      rw [Bool.or_eq_true, decide_eq_true_eq, ← mem i]
      exact ⟨fun z => z.elim id fun e => by rw [e]; exact old, .inl⟩, few, fit, by rw [if_pos old]; exact num, ris, led⟩
    rw [old] at q
    exact wpAny_pure (wpAny_pure q)
  | none =>
    dsimp only
    have new : k ∉ es.toList.map keyS := fun z => by
      obtain ⟨e, he, hit⟩ := (memS (P := P) good k).1 z
      rw [List.findIdx?_eq_none_iff.mp found e he] at hit
      cases hit
    have fresh : S k = false := by
      cases q : S k with
      | false => rfl
      | true => exact absurd ((mem k).1 q) new
    have gw : ∀ (b : Bool) {s₁ : Shared} {Q' : Unit → Shared → Prop}, Q' () s₁ → wpAny (model P w) A (match b with | true => rule "set.scan.the-table-gave-way" | false => pure ()) Q' E s₁ := fun b s₁ Q' q => by
      cases b
      · exact wpAny_pure q
      · exact wpAny_rule q
    have z1 := layNew_perm t es ((strKind P w).hash k) (.str k tk)
    have z2 := layNew_fits t es ((strKind P w).hash k) (.str k tk)
    have z3 := layNew_ris t es ((strKind P w).hash k) (.str k tk) ris
    have z4 := layNew_led t es ((strKind P w).hash k) (.str k tk)
    generalize layNew t es ((strKind P w).hash k) (.str k tk) = Z at z1 z2 z3 z4 ⊢
    obtain ⟨es1, t1, wasDummy, gave⟩ := Z
    dsimp only at z1 z2 z3 z4 ⊢
    rw [Array.toList_push] at z1
    have zc : es1.toList.Perm ((hashStr w k, Value.str k tk) :: es.toList) := z1.trans (List.perm_append_singleton _ _)
    have zk : (es1.toList.map keyS).Perm (k :: es.toList.map keyS) := zc.map keyS
    have good1 : ∀ e ∈ es1.toList, GoodS w e := fun e he => by
      rcases List.mem_cons.mp (zc.mem_iff.mp he) with z | z
      · subst z
        exact ⟨k, tk, rfl, rfl⟩
      · exact good e z
    have once1 : (es1.toList.map keyS).Nodup := zk.nodup_iff.mpr (List.nodup_cons.mpr ⟨new, once⟩)
    have mem1 : ∀ i, (S i || decide (i = k)) = true ↔ i ∈ es1.toList.map keyS := fun i => by
      rw [Bool.or_eq_true, decide_eq_true_eq, mem i, zk.mem_iff, List.mem_cons, or_comm]
    have size1 : es1.size = n + 1 := by
      have := zc.length_eq
      rw [Array.length_toList, List.length_cons, Array.length_toList, num] at this
      exact this
    have few1 : es1.size < scanBound := by omega
    have led1 : w.params.followText "set-order" = true ∨ t1.led = true := led.imp id fun z => by rw [z4]; exact z
    have last : ∀ h', Heap.SameBut a s.heap h' → SetS w h' a (fun j => S j || decide (j = k)) es1.size → Q true { s with heap := h' } := fun h' sb r => by
      have q := fin h' sb
      rw [fresh, if_neg Bool.false_ne_true, ← size1] at q
      exact q r
    refine wpAny_bind (gw _ ?_)
    split
    · refine wpAny_bind ?_
      rw [hashByValue_scannable 8 scn]
      refine wpAny_pure (tailS ?_ at_ ex dat good1 once1 mem1 few1 ?_ ?_ ?_ ?_)
      · intro b s₁ Q' q
        cases b
        · exact wpAny_pure q
        · exact wpAny_rule q
      · first | (split <;> first | exact z2 | exact SetTable.fits_plain_off z2) | exact z2
      · first | (split <;> exact z3) | exact z3
      · first | (split <;> exact led1) | exact led1
      · intro h' sb r
        dsimp only
        exact wpAny_pure (last h' sb r)
    · refine wpAny_bind (wpAny_pure ?_)
      simp only [↓reduceIte]
      refine tailS ?_ at_ ex dat good1 once1 mem1 few1 z2 z3 led1 ?_
      · intro b s₁ Q' q
        cases b
        · exact wpAny_pure q
        · exact wpAny_rule q
      · intro h' sb r
        dsimp only
        exact wpAny_pure (last h' sb r)
theorem setS_new {xs : List Str} (at_ : h.get? a = some { cls := .type "set", dict := none, data := .set #[] 0 (.fresh 0 0 (!w.params.followText "set-order")) }) : SetS w h a (fun j => decide (j ∈ xs.take 0)) 0 := by
  refine ⟨_, #[], 0, _, at_, ⟨rfl, rfl, rfl⟩, rfl, fun e he => by simp at he, by simp, fun k => by simp, by decide, by rfl, rfl, List.Pairwise.nil, ?_⟩
  show _ ∨ (!w.params.followText "set-order") = true
  cases w.params.followText "set-order" with
  | true => exact .inl rfl
  | false => exact .inr rfl
theorem loopS {I : Addr} {fp wr : List Addr} {G : Array GenState → Array GenState → Prop} {n : Nat} {Pv : Nat → Value → Prop} {St : Nat → Shared → Prop} {R : Result → Shared → Prop} (W : WalksS P w A.in1 I fp wr G n Pv St) (S : Addr) (off : S ∉ fp) (xs : List Str) (len : n = xs.length)
    (few : xs.length + 1 < scanBound) (val : ∀ i v, Pv i v → ∃ k t, xs[i]? = some k ∧ v = .str k t) : ∀ (k i : Nat) (s : Shared), n - i = k → i ≤ n → St i s → (∃ c, c ≤ i ∧ SetS w s.heap S (fun j => decide (j ∈ xs.take i)) c) →
      (∀ s' c, Moved (S :: wr) G s s' → c ≤ n → SetS w s'.heap S (fun j => decide (j ∈ xs)) c → R (.ok (.ret .none)) s') → codeAny (model P w) A (.builtin "set.update.loop" ⟨[.ref S, .ref I], []⟩) R s := by
  have offw : S ∉ wr := fun z => off (W.sub _ z)
  have wider : ∀ b ∈ wr, b ∈ S :: wr := fun b z => List.mem_cons_of_mem _ z
  intro k
  induction k with
  | zero =>
    intro i s ek le st ⟨c, hc, now⟩ fin
    obtain rfl : i = n := by omega
    refine codeAny_builtin F.entry_set_update_loop ?_
    rw [Around.under_plainId F.plain_set_update_loop _]
    refine wpAny_bind (W.done s _ _ st fun s' mv => wpAny_pure (fin s' c (mv.mono wider) hc ?_))
    rw [List.take_of_length_le (by omega)] at now
    exact now.at fun o e => mv.heap S o offw e
  | succ k ih =>
    intro i s ek le st ⟨c, hc, now⟩ fin
    have lt : i < n := by omega
    refine codeAny_builtin F.entry_set_update_loop ?_
    rw [Around.under_plainId F.plain_set_update_loop _]
    refine wpAny_bind (W.item i s _ _ lt st fun v s' pv st' mv => ?_)
    obtain ⟨z, t, hz, rfl⟩ := val i v pv
    have here : SetS w s'.heap S (fun j => decide (j ∈ xs.take i)) c := now.at fun o e => mv.heap S o offw e
    show wpAny _ A.in1 (holding [Value.str z t] (setAdd S (.str z t)) >>= _) _ _ s'
    refine wpAny_bind (wpAny_holding ?_)
    unfold setAdd
    refine wpAny_holding (wpAny_bind ((PySem.strKind P w).pyHash (k := z) (isS.mpr rfl) ?_))
    refine addS (s := { s' with toks := s'.toks + 1 }) here (by omega) fun h' sb after => ?_
    have after2 : SetS w h' S (fun j => decide (j ∈ xs.take (i + 1))) (if decide (z ∈ xs.take i) = true then c else c + 1) := after.congr fun j => by
      rw [List.take_add_one, hz]
      simp [List.mem_append]
    have le2 : (if decide (z ∈ xs.take i) = true then c else c + 1) ≤ i + 1 := by split <;> omega
    refine wpAny_pure ⟨plainId_quiet F.plain_set_update_loop _, ih (i + 1) _ (by omega) lt (W.frame _ s' _ _ st' (Nat.le_succ _) fun b hb o e => ?_) ⟨_, le2, after2⟩ fun s2 c2 mv2 hc2 done => ?_⟩
    · have nb : b ≠ S := fun q => off (q ▸ hb)
      rw [sb.2 b nb]
      exact e
    · refine fin s2 c2 (Moved.trans W.gtrans ((mv.mono wider).then_heap (Nat.le_succ _) fun b o hb e => ?_) mv2) hc2 done
      have nb : b ≠ S := fun q => hb (q ▸ List.mem_cons_self)
      rw [sb.2 b nb]
      exact e
end
section
variable {prog : Program} {w : World} {A : Around} {E : Value → Shared → Prop} {s : Shared}
set_option maxRecDepth 100000 in
set_option maxHeartbeats 3200000 in
theorem set_of_texts {l : Addr} {xs : Array Value} (ns : List Str) {Q : Value → Shared → Prop} (calm : A.handled = none) (isl : s.heap.IsList l xs) (hin : StrsAre xs.toList ns) (few : ns.length + 1 < scanBound)
    (fin : ∀ (g : Heap) (tk c : Nat), SetS w g s.heap.objs.size (fun j => decide (j ∈ ns)) c → c ≤ ns.length → (∀ b o, s.heap.get? b = some o → g.get? b = some o) → Q (.ref s.heap.objs.size) { s with heap := g, toks := tk }) :
    wpAny (model prog w) A (call (.type "set") [.ref l]) Q E s := by
  have size : xs.size = ns.length := by
    have := hin.length
    rwa [Array.length_toList] at this
  obtain ⟨m1, m2, hmro⟩ := F.called_set.mro
  have hm0 := F.called_set.made
  have hm1 := F.called_set.sub
  refine wpAny_call (codeAny_of_tree ?_)
  show wpAny _ _ (callAny (.type "set") _) _ _ _
  refine wpAny_pure ⟨Code.quiet_builtin _ (by decide +kernel), codeAny_builtin F.entry_type_call ?_⟩
  rw [Around.under_plain (weight_type_call_type "set" [.ref l] []) rfl]
  have hm2 := F.called_set.notType
  have hm3 := F.called_set.canCreate
  have hm4 := F.typeCall_set_1 (.ref l)
  repeat (any_goals (first | assumption | wp_step))
  refine codeAny_mono (code_set_led1 (.ref l) (E := E) (Q₁ := fun v s1 => v = .ref s.heap.objs.size ∧ s1 = { s with heap := s.heap.push (eSet w) }) ⟨rfl, rfl⟩) fun r s1 hr => ?_
  cases r with
  | error _ => exact hr
  | ok fl =>
    cases fl with
    | ret v =>
      obtain ⟨rfl, rfl⟩ := hr
      have at0 : (s.heap.push (eSet w)).get? s.heap.objs.size = some (eSet w) := Heap.get?_push_size _ rfl
      have ty0 : Shared.TypeIs { s with heap := s.heap.push (eSet w) } (.ref s.heap.objs.size) "set" := ⟨_, at0, rfl⟩
      have hi1 := F.called_set.init.lookup
      have hi2 := F.called_set.init.bind (.ref s.heap.objs.size)
      repeat (any_goals (first | assumption | wp_step))
      refine codeAny_mono (codeAny_call_builtin (R := wants (fun r s2 => r = .none ∧ ∃ g tk c, s2 = { s with heap := g, toks := tk } ∧ SetS w g s.heap.objs.size (fun j => decide (j ∈ ns)) c ∧ c ≤ ns.length ∧
          (∀ b o, s.heap.get? b = some o → g.get? b = some o)) E) F.called_set.init.plain F.entry_set_init (check_set_init_1 ty0 ?_)) fun r2 s2 hr2 => ?_
      · obtain ⟨ol, hol, hcl, nl, hdl⟩ := isl
        obtain ⟨k1, k2, k3, k4⟩ := ol
        simp only at hcl hdl
        subst hcl hdl
        have hol1 : (s.heap.push (eSet w)).get? l = some { cls := .type "list", dict := k2, data := .seq xs nl, slots := k4 } := Heap.get?_push_of_some _ hol
        have sub1 := F.sub_list_set
        have sub2 := F.sub_list_frozenset
        have nodict : (Value.type "list" == Value.type "dict") = false := by decide
        have isl1 : (s.heap.push (eSet w)).IsList l xs := ⟨_, hol1, rfl, nl, rfl⟩
        unfold Builtin.«set.__init__» noKeywords Builtin.Frozenset.updateFrom
        generalize hPI : pyIter = PI
        wp_walk
        subst hPI
        refine wpAny_pyIter_list isl1 ?_
        refine wpAny_bind (wpAny_runValue ?_)
        have lt0 : l < s.heap.objs.size := Heap.lt_size hol
        have calm3 : A.in1.in1.in1.handled = none := by simp [calm]
        have ne1 : l ≠ (s.heap.push (eSet w)).objs.size := by
          rw [Heap.size_push]
          exact Nat.ne_of_lt (Nat.lt_succ_of_lt lt0)
        have out1 : s.heap.objs.size ∉ [(s.heap.push (eSet w)).objs.size, l] := by
          rw [Heap.size_push]
          simp only [List.mem_cons, List.mem_singleton, List.not_mem_nil, or_false, not_or]
          exact ⟨Nat.ne_of_lt (Nat.lt_succ_self _), Nat.ne_of_gt lt0⟩
        have vals : ∀ (i : Nat) (v : Value), xs[i]? = some v → ∃ k t, ns[i]? = some k ∧ v = .str k t := fun i v hv => by
          have hi : i < ns.length := by
            rw [← size]
            exact (Array.getElem?_eq_some_iff.mp hv).1
          exact textAt hin i v (by rw [Array.getElem?_toList]; exact hv)
        refine loopS ((Walks.list calm3 _ l ne1 xs).toS) s.heap.objs.size out1 ns size few vals (xs.size - 0) 0 _ (by omega) (Nat.zero_le _) ⟨⟨_, Heap.get?_push_size _ rfl, rfl, rfl⟩, (isl1.push _)⟩ ?one ?two
        case one =>
          have at2 : ((s.heap.push (eSet w)).push { cls := .type "list_iterator", data := .fields #[.ref l, .int 0 0] }).get? s.heap.objs.size = some (eSet w) := Heap.get?_push_of_some _ at0
          exact ⟨0, Nat.le_refl 0, setS_new at2⟩
        case two =>
          intro s3 c3 mv hc3 R3
          obtain ⟨h3, g3, d3, t3, o3⟩ := s3
          have eg : g3 = s.gens := mv.gens
          have ed : d3 = s.drawn := mv.drawn
          have eo : o3 = s.os := mv.os
          subst eg ed eo
          show wpAny _ _ _ _ _ _
          refine wpAny_pure ?_
          show wpAny _ _ (ret Value.none) _ _ _
          rw [size] at hc3
          refine wpAny_pure ⟨rfl, h3, t3, c3, rfl, R3, hc3, fun b o e => ?_⟩
          have lb : b < s.heap.objs.size := Heap.lt_size e
          have nb1 : b ≠ s.heap.objs.size := Nat.ne_of_lt lb
          have nb2 : b ≠ (s.heap.push (eSet w)).objs.size := by
            rw [Heap.size_push]
            exact Nat.ne_of_lt (Nat.lt_succ_of_lt lb)
          refine mv.heap b o ?_ (Heap.get?_push_of_some _ (Heap.get?_push_of_some _ e))
          simp only [List.mem_cons, List.mem_singleton, List.not_mem_nil, or_false, not_or]
          exact ⟨nb1, nb2⟩
      · cases r2 with
        | error _ => exact hr2
        | ok fl2 =>
          cases fl2 with
          | ret _ =>
            obtain ⟨rfl, g, tk, c, rfl, R2, hc2, k2⟩ := hr2
            repeat (any_goals (first | assumption | wp_step))
            exact fin _ _ _ R2 hc2 k2
          | _ => exact hr2.elim
    | _ => exact hr.elim
end
end Nk
/-! ### sets of texts as values, texts sorted, dicts compared, own == and != -/
namespace Nk
open PySem L2 PySem.Spec PyProof.Rows
theorem sortedS_pw : ∀ {l : List Str}, sortedS l = true → l.Pairwise fun a b => ¬ sl b a
  | [], _ => .nil
  | [x], _ => by simp
  | x :: y :: r, h => by
    have h' : (!ltCps y.cps.toList x.cps.toList && risingS y r) = true := h
    rw [Bool.and_eq_true] at h'
    obtain ⟨h1, h2⟩ := h'
    have ih := sortedS_pw (l := y :: r) h2
    have hxy : ¬ sl y x := by rw [ltCps_eq] at h1; simpa [sl] using h1
    refine List.pairwise_cons.mpr ⟨fun z hz => ?_, ih⟩
    rcases List.mem_cons.mp hz with e | m
    · subst e; exact hxy
    · exact sl_ntrans hxy ((List.pairwise_cons.mp ih).1 z m)
theorem pw_strict {l : List Str} (h : l.Pairwise fun a b => ¬ sl b a) (nd : l.Nodup) : l.Pairwise sl := by
  refine List.Pairwise.imp (fun {a b} h => ?_) (h.and nd)
  obtain ⟨h1, h2⟩ := h
  by_cases c : sl a b
  · exact c
  · exact absurd (sl_tri c h1) h2
theorem strs_each : ∀ {us : List Value} {ks : List Str}, us.length = ks.length → (∀ (j : Nat) (v : Value), us[j]? = some v → ∃ (x : Str) (t : Tok), ks[j]? = some x ∧ v = Value.str x t) → StrsAre us ks
  | [], [], _, _ => .nil
  | [], _ :: _, hl, _ => by simp at hl
  | _ :: _, [], hl, _ => by simp at hl
  | u :: us, k :: ks, hl, h => by
    obtain ⟨x, t, e1, e2⟩ := h 0 u rfl
    obtain rfl : k = x := Option.some.inj e1
    subst e2
    refine .cons _ _ (strs_each (by simpa using hl) fun j v e => ?_)
    obtain ⟨x, t, a, b⟩ := h (j + 1) v (by simpa using e)
    exact ⟨x, t, by simpa using a, b⟩
def SetOS (w : World) (a : Addr) (S : Str → Bool) (n : Nat) : HO := .ext fun h => SetS w h a S n
theorem setOS_new {w : World} {P : Program} {H : Hp} {h : Heap} {a : Addr} {S : Str → Bool} {n : Nat} (R : SetS w h a S n) : ObjOk P w H h a (SetOS w a S n) := by
  obtain ⟨o, es, ep, t, ho, r⟩ := R
  exact ⟨⟨o, es, ep, t, ho, r⟩, ⟨o, ho⟩, fun h1 h2 p k => SetS.at p k⟩
section
variable {X : Cx}
def rSetLS (K : PySem.W.Frag) (w : World) : List V → Hp → VK → Prop := fun vs H Q => ∃ (a : Addr) (ns : List Str), vs = [V.ref a] ∧ SqL K H a (ns.map V.str) ∧ ns.length ≤ 4000 ∧
  ∀ (p : Addr) (c : Nat), H p = none → c ≤ ns.length → Q (.ref p) (upd H p (SetOS w p (fun j => decide (j ∈ ns)) c))
theorem cr_setLS (hc : X.calm = true) : CallR X (.type "set") (rSetLS X.K X.w) := by
  intro pins s σ H vs us Q I r h
  obtain ⟨a, ns, rfl, hs, hz, q⟩ := h
  obtain ⟨its, rv, hl, _⟩ := I.list hs
  rw [Vals.ref1 r]
  refine set_of_texts ns (I.ok.hd hc) hl.isList rv.strs (by unfold scanBound; omega) fun g tk c R hc k => ?_
  exact ⟨.ref _, _, I.laid (t' := tk) (o := SetOS X.w s.heap.objs.size (fun j => decide (j ∈ ns)) c) k (Nat.le_refl _) (setOS_new R), rfl, q _ c (I.hok.fresh (Nat.le_refl _)) hc⟩
/-- sorted of a set of texts -/
def rSortedSS (w : World) : List V → Hp → VK → Prop := fun vs H Q => ∃ (a : Addr) (S : Str → Bool) (n : Nat), vs = [V.ref a] ∧ H a = some (SetOS w a S n) ∧ n ≤ 10000 ∧
  ∀ (ns : List Str) (p : Addr), ns.Pairwise sl → (∀ k : Str, k ∈ ns ↔ S k = true) → H p = none → Q (.ref p) (upd H p (.lst (ns.map V.str)))
theorem cr_sortedSS (hcalm : X.calm = true) : CallR X (.builtin "sorted") (rSortedSS X.w) := by
  intro pins s σ H vs us Q I r h
  obtain ⟨a, S, n, rfl, ha, hn0, q⟩ := h
  rw [Vals.ref1 r]
  obtain ⟨o, es, ep, t, ho, hex, hd, g, nd, hm, hb, hf, hn, hr, hl⟩ := show SetS X.w s.heap a S n from (I.hok a _ ha).1
  refine Calls.call_function_entry PyProof.Rows.kind_sorted PyProof.Rows.plain_sorted PyProof.Rows.entry_sorted (PyProof.Rows.args_sorted1 _) ?_
  unfold Builtin.«sorted»
  refine wpAny_bind (m := checkCount "sorted" 1 1 _) (wpAny_pure ?_)
  refine wpAny_bind (collect_set (A := X.A.in1) (I.ok.hd hcalm) ⟨o, ho, hex.1, hd⟩ hf hb hr hl fun s1 us k1 hz g1 o1 pm => ?_)
  have hul : us.length = n := by
    rw [pm.length_eq, List.length_map, Array.length_toList]
    exact hn
  have hS : StrsAre us (us.map strOf) := strsAre_map us fun v hv => by
    obtain ⟨e, he, q⟩ := List.mem_map.mp (pm.mem_iff.mp hv)
    obtain ⟨k, tk, h1, _⟩ := g e he
    exact ⟨k, tk, by rw [← q]; exact h1⟩
  have pk : (us.map strOf).Perm (es.toList.map keyS) := by
    have z := pm.map strOf
    rw [List.map_map] at z
    refine z.trans (List.Perm.of_eq (List.map_congr_left fun e he => ?_))
    obtain ⟨k, tk, h1, _⟩ := g e he
    simp only [Function.comp, keyS, h1]
    rfl
  have hsz : us.length ≤ sizeLine := by
    rw [hul]
    exact sz (by omega)
  refine wpAny_bind (wpAny_newList ?_ hsz)
  have hoL : (s1.heap.push (seqObj "list" us.toArray 0)).get? s1.heap.objs.size = some (seqObj "list" us.toArray 0) := Heap.get?_push_size _ rfl
  refine wpAny_bind (wpAny_holding (wpAny_call_entry PyProof.Rows.slot_list_sort ⟨_, hoL, rfl⟩ PyProof.Rows.entry_list_sort
    (list_sort_treeKAny strKind_oneLt hoL hS.keysOf (fun v₁ v₂ rest e => keyKind_strs (by rw [← e]; exact hS)) hsz fun st' hp hs => ⟨_, rfl, ?_⟩) (PyProof.Rows.args_list_sort _)))
  obtain ⟨ss, c1, c2, c3⟩ := sorted_out_str hS hp hs
  generalize hout : (arrOf st').map (·.2) = out at c1 ⊢
  obtain ⟨e', he'⟩ := PyProof.Rows.sortedHeap_at (vs := us) (out := out) hoL
  have pn : ss.Perm (es.toList.map keyS) := c2.trans pk
  have hlen : (ss.map V.str).length ≤ sizeLine := by
    rw [List.length_map, c2.length_eq, List.length_map]
    exact hsz
  have hnone : H s1.heap.objs.size = none := I.hok.fresh hz
  have old : ∀ b u, s.heap.get? b = some u → (PyProof.Rows.sortedHeap (s1.heap.push (seqObj "list" us.toArray 0)) s1.heap.objs.size us out).get? b = some u := fun b u e => by
    have z := k1 b u e
    have lt := Heap.lt_size z
    rw [PyProof.Rows.sortedHeap_old (Nat.ne_of_lt lt) (by rw [size_push']; exact Nat.lt_succ_of_lt lt)]
    exact Heap.get?_push_of_some _ z
  have J : Inv X pins σ (upd H s1.heap.objs.size (.lst (ss.map V.str))) { s with heap := PyProof.Rows.sortedHeap (s1.heap.push (seqObj "list" us.toArray 0)) s1.heap.objs.size us out, gens := s1.gens, drawn := s1.drawn, toks := s1.toks } :=
    I.call (ch := []) (Un.laid old hz hnone) (I.hok.laid old hz ⟨hlen, out.toList, e', vals_of_strs c1, he'⟩) (by rw [g1]; exact I.bare) (fun _ z => nomatch z)
  refine wpAny_pure ⟨_, rfl, .ref s1.heap.objs.size, _, ?_, rfl, q _ _ (pw_strict (sortedS_pw c3) (pn.nodup_iff.mpr nd)) (fun k => by rw [pn.mem_iff, ← hm k]) hnone⟩
  have eo : s1.os = s.os := o1
  rw [← eo] at J
  exact J
/-- sorted(d.keys()), texts -/
def rSortedKS : List V → Hp → VK → Prop := fun xs H Q => ∃ (v d : Addr) (kvs : List (Key × V)) (ks : List Str), xs = [.ref v] ∧ H v = some (KeysO v d) ∧ H d = some (.dK kvs) ∧ kvs.map (·.1) = ks.map Sum.inr ∧ ks.Nodup ∧
  ∀ (ys : List Str) (p : Addr), ys.Pairwise sl → (∀ k, k ∈ ys ↔ k ∈ ks) → H p = none → Q (.ref p) (upd H p (.lst (ys.map V.str)))
theorem cr_sortedKS (hcalm : X.calm = true) : CallR X (.builtin "sorted") rSortedKS := by
  intro pins s σ H xs us Q I r q
  obtain ⟨v, a, kvs, ks, ex, hv, hd, hks, hnd, q⟩ := q
  subst ex
  obtain ⟨u, eu, rx⟩ := vals1 r
  subst eu
  cases rx
  have hview : PySem.W.KdlKeysView s.heap v a := (I.hok v _ hv).1
  obtain ⟨z, lo, vs, rel, dd⟩ := I.hok a _ hd
  obtain ⟨ep, hat⟩ := dd.dictAt
  have hkeys : vs.map (·.1) = ks.map Sum.inr := rel.keys.symm.trans hks
  have hl : vs.length = ks.length := by
    have e := congrArg List.length hkeys
    rw [List.length_map, List.length_map] at e
    exact e
  have hl2 : kvs.length = vs.length := Paired.length rel
  have h16 : vs.length ≤ sizeLine := by omega
  refine Calls.call_function_entry PyProof.Rows.kind_sorted PyProof.Rows.plain_sorted PyProof.Rows.entry_sorted (PyProof.Rows.args_sorted1 _) ?_
  unfold Builtin.«sorted»
  refine wpAny_bind (m := checkCount "sorted" 1 1 _) (wpAny_pure ?_)
  refine wpAny_bind (PySem.W.kdu_collect (A := X.A.in1) (PySem.W.kdl_keys (knd := mixKind X.prog X.w) (r := v) (d := a) (kvs := vs) (ep := ep)) (I.ok.hd hcalm) ⟨hview, hat⟩ h16 fun h' tk acc hk hacc => ?_)
  have hal : acc.toList.length = ks.length := by rw [Array.length_toList, hacc.1, hl]
  have hS : StrsAre acc.toList ks := strs_each hal fun j v e => by
    obtain ⟨k, x, e1, e2⟩ := hacc.2 j v (by rw [← Array.getElem?_toList]; exact e)
    have e3 : (vs.map (·.1))[j]? = some k := by rw [List.getElem?_map, e1]; rfl
    rw [hkeys, List.getElem?_map] at e3
    cases e4 : ks[j]? with
    | none => rw [e4] at e3; cases e3
    | some y =>
      rw [e4] at e3
      have e5 : Sum.inr y = k := Option.some.inj e3
      subst e5
      rcases keyIs_shape (show keyIs (Sum.inr y) v = true from e2) with ⟨i, t, ek, ev⟩ | ⟨z, t, ek, ev⟩
      · cases ek
      · cases ek
        exact ⟨y, t, rfl, ev⟩
  have hsz : acc.toList.length ≤ sizeLine := by rw [hal]; omega
  have I1 : Inv X pins σ H { s with heap := h', toks := tk } := I.kept hk
  refine wpAny_bind (wpAny_newList ?_ hsz)
  have hoL : (h'.push (seqObj "list" acc.toList.toArray 0)).get? h'.objs.size = some (seqObj "list" acc.toList.toArray 0) := Heap.get?_push_size _ rfl
  show wpAny _ _ _ _ _ { s with heap := h'.push (seqObj "list" acc.toList.toArray 0), toks := tk }
  refine wpAny_bind (wpAny_holding (wpAny_call_entry PyProof.Rows.slot_list_sort ⟨_, hoL, rfl⟩ PyProof.Rows.entry_list_sort
    (list_sort_treeKAny (s := { s with heap := h'.push (seqObj "list" acc.toList.toArray 0), toks := tk }) strKind_oneLt hoL hS.keysOf (fun v₁ v₂ rest e => keyKind_strs (by rw [← e]; exact hS)) hsz fun st' hp hs => ⟨_, rfl, ?_⟩) (PyProof.Rows.args_list_sort _)))
  obtain ⟨ss, k1, k2, k3⟩ := sorted_out_str hS hp hs
  generalize hout : (arrOf st').map (·.2) = out at k1 ⊢
  obtain ⟨e', he'⟩ := PyProof.Rows.sortedHeap_at (vs := acc.toList) (out := out) hoL
  have hlen : (ss.map V.str).length ≤ sizeLine := by
    rw [List.length_map, k2.length_eq]
    omega
  refine wpAny_pure ⟨_, rfl, .ref h'.objs.size, upd H h'.objs.size (.lst (ss.map V.str)), I1.laid (t' := tk) (fun b u e => ?_) (Nat.le_refl _)
    (show ObjOk X.prog X.w _ _ _ (.lst (ss.map V.str)) from ⟨hlen, out.toList, e', vals_of_strs k1, he'⟩), rfl, q _ _ (pw_strict (sortedS_pw k3) (k2.nodup_iff.mpr hnd)) (fun k => k2.mem_iff) (I1.hok.fresh (Nat.le_refl _))⟩
  have hb : b < h'.objs.size := Heap.lt_size e
  rw [PyProof.Rows.sortedHeap_old (Nat.ne_of_lt hb) (by rw [size_push']; exact Nat.lt_succ_of_lt hb)]
  exact Heap.get?_push_of_some _ e
/-- list(d.keys()) -/
def rListKeys : List V → Hp → VK → Prop := fun xs H Q => ∃ (v a : Addr) (kvs : List (Key × V)), xs = [.ref v] ∧ H v = some (KeysO v a) ∧ H a = some (.dK kvs) ∧ ∀ p, H p = none → Q (.ref p) (upd H p (.lst (kvs.map fun kv => kV kv.1)))
theorem call_listKeys (hcalm : X.calm = true) : CallR X (.type "list") rListKeys := by
  intro pins s σ H xs us Q I r q
  obtain ⟨v, a, kvs, rfl, hv, hd, q⟩ := q
  rw [Vals.ref1 r]
  have hview : PySem.W.KdlKeysView s.heap v a := (I.hok v _ hv).1
  obtain ⟨z, lo, vs, rel, dd⟩ := I.hok a _ hd
  obtain ⟨ep, hat⟩ := dd.dictAt
  have ek : (kvs.map fun kv => kV kv.1) = vs.map fun p => kV p.1 := by
    have e := congrArg (List.map kV) rel.keys
    rw [List.map_map, List.map_map] at e
    exact e
  refine PySem.W.kdl_call (PySem.W.kdl_keys (knd := mixKind X.prog X.w) (r := v) (d := a) (kvs := vs) (ep := ep)) (I.ok.hd hcalm) ⟨hview, hat⟩ (by rw [← rel.length]; exact z) fun h' tk acc c' hk hD hacc => ?_
  have hv : Vals (vs.map fun p => kV p.1) acc.toList := keys_at (by rw [Array.length_toList]; exact hacc.1) fun j v e => hacc.2 j v (by rw [← Array.getElem?_toList]; exact e)
  exact ⟨.ref s.heap.objs.size, upd H s.heap.objs.size (.lst (kvs.map fun kv => kV kv.1)), I.laid (t' := tk) hk (Nat.le_refl _)
    (show ObjOk X.prog X.w _ _ _ (.lst (kvs.map fun kv => kV kv.1)) from ⟨by rw [List.length_map]; exact z, acc.toList, c', by rw [ek]; exact hv, by rw [Array.toArray_toList]; exact hD⟩), rfl, q _ (I.hok.fresh (Nat.le_refl _))⟩
/-! dicts compared -/
def hitB (ls : List (Key × V)) : List (Key × V) → Bool
  | [] => true
  | p :: r => match valV ls p.1 with
    | none => false
    | some u => eqV p.2 u && hitB ls r
def eqDk (ks ls : List (Key × V)) : Bool := ks.length == ls.length && hitB ls ks
def FlatK (ks : List (Key × V)) : Prop := ∀ p ∈ ks, flatV p.2 = true
theorem FlatK.val {ls : List (Key × V)} (h : FlatK ls) {k : Key} {u : V} (e : valV ls k = some u) : flatV u = true := by
  unfold valV at e
  cases e2 : ls.find? fun kv => decide (kv.1 = k) with
  | none => rw [e2] at e; cases e
  | some p =>
    rw [e2] at e
    have := h p (List.mem_of_find?_eq_some e2)
    have e3 : p.2 = u := Option.some.inj e
    rw [← e3]; exact this
theorem hits_any {A : Around} {s : Shared} {ls : List (Key × V)} {vb : List (Key × Value)} (rb : L2.KV ls vb) (fb : FlatK ls) {ks : List (Key × V)} {va : List (Key × Value)} (ra : L2.KV ks va) : FlatK ks → PySem.W.KeqHits A s vb va (hitB ls ks) := by
  unfold L2.KV at ra
  induction ra with
  | nil => intro _; exact .nil
  | @cons p q ps qs h t ih =>
    intro hp
    obtain ⟨h1, h2⟩ := h
    obtain ⟨k, v⟩ := q
    have h1' : p.1 = k := h1
    have rr := rb.val p.1
    unfold hitB
    cases e : valV ls p.1 with
    | none =>
      rw [e] at rr
      have : valueAt vb k = none := by
        rw [← h1']
        cases e2 : valueAt vb p.1 with
        | none => rfl
        | some y => rw [e2] at rr; cases rr
      exact .miss this
    | some u =>
      rw [e] at rr
      obtain ⟨y, hy, ry⟩ := rr.some_of
      rw [h1'] at hy
      exact .hit hy (eqAt_V h2 ry (hp p List.mem_cons_self) (fb.val e)) (ih fun p' hm => hp p' (List.mem_cons_of_mem _ hm))
def rEqDk (neg : Bool) : R2 := fun x y H Q => ∃ a b ks ls, x = .ref a ∧ y = .ref b ∧ H a = some (.dK ks) ∧ H b = some (.dK ls) ∧ FlatK ks ∧ FlatK ls ∧ Q (.bl (if neg then !eqDk ks ls else eqDk ks ls)) H
theorem op_eqDk (hu : X.A.units < cLine) : OpR X (compareOp .Eq) (rEqDk false) := by
  intro pins s σ H x y v u Q I rx ry h
  obtain ⟨a, b, ks, ls, rfl, rfl, ea, eb, fa, fb, q⟩ := h
  obtain rfl : v = Value.ref a := rx
  obtain rfl : u = Value.ref b := ry
  obtain ⟨_, ya, va, ra, da⟩ := (show ObjOk X.prog X.w H s.heap a (.dK ks) from I.hok a _ ea)
  obtain ⟨_, yb, vb, rb, db⟩ := (show ObjOk X.prog X.w H s.heap b (.dK ls) from I.hok b _ eb)
  have hl : (va.length == vb.length) = (ks.length == ls.length) := by rw [← ra.length, ← rb.length]
  exact PySem.W.keq_eq (knd := mixKind X.prog X.w) (r := hitB ls ks) ya yb da db hu (fun _ => hits_any rb fb ra fa) (fin_bl I q (by rw [hl]; rfl))
theorem op_neDk (hu : X.A.units < cLine) : OpR X (compareOp .NotEq) (rEqDk true) := by
  intro pins s σ H x y v u Q I rx ry h
  obtain ⟨a, b, ks, ls, rfl, rfl, ea, eb, fa, fb, q⟩ := h
  obtain rfl : v = Value.ref a := rx
  obtain rfl : u = Value.ref b := ry
  obtain ⟨_, ya, va, ra, da⟩ := (show ObjOk X.prog X.w H s.heap a (.dK ks) from I.hok a _ ea)
  obtain ⟨_, yb, vb, rb, db⟩ := (show ObjOk X.prog X.w H s.heap b (.dK ls) from I.hok b _ eb)
  have hl : (va.length == vb.length) = (ks.length == ls.length) := by rw [← ra.length, ← rb.length]
  exact PySem.W.keq_ne (knd := mixKind X.prog X.w) (r := hitB ls ks) ya yb da db hu (fun _ => hits_any rb fb ra fa) (fin_bl I q (by rw [hl]; rfl))
/-- d.update(another dict) -/
def rUpdD : V → List V → Hp → VK → Prop := fun x xs H Q => ∃ (a b : Addr) (ks ls : List (Key × V)), x = .ref a ∧ xs = [.ref b] ∧ a ≠ b ∧ H a = some (.dK ks) ∧ H b = some (.dK ls) ∧ ks.length + ls.length ≤ 100000 ∧ Q .non (upd H a (.dK (mergeK ks ls)))
theorem mergeK_len : ∀ (ls ks : List (Key × V)), (mergeK ks ls).length ≤ ks.length + ls.length
  | [], ks => Nat.le_refl _
  | p :: r, ks => by
    have h1 := mergeK_len r (putK ks p.1 p.2)
    have h2 := length_putK ks p.1 p.2
    show (mergeK (putK ks p.1 p.2) r).length ≤ _
    rw [List.length_cons]
    omega
theorem mt_updD : MtR X "dict.update" rUpdD := by
  intro pins s σ H x xs v us Q I rx rxs h
  obtain ⟨a, b, ks, ls, rfl, rfl, hab, ea, eb, hz, q⟩ := h
  cases rx
  rw [Vals.ref1 rxs]
  obtain ⟨_, ya, va, ra, da⟩ := (show ObjOk X.prog X.w H s.heap a (.dK ks) from I.hok a _ ea)
  obtain ⟨_, yb, vb, rb, db⟩ := (show ObjOk X.prog X.w H s.heap b (.dK ls) from I.hok b _ eb)
  refine call_meetsIn F.slot_dict_update da.typeIs F.entry_dict_update (F.args_dict_update_2 _ _) (meets_dict_update (mixKind X.prog X.w) a b hab yb) ⟨va, vb, da, db, by rw [← ra.length, ← rb.length]; exact sz hz, fun h' hm _ hs => ?_⟩
  have he : ∃ q, h'.get? a = some q := let ⟨q, _, _, hq, _⟩ := hm; ⟨q, hq⟩
  have hl := mergeK_len ls ks
  exact ⟨.non, _, d_write I (by rw [ea]; exact True.intro) hs he (dk_new (sz (by omega)) ya (L2.KV.merge rb ra) hm), rfl, q⟩
end
/-! own == and != -/
section
variable {X : Cx} {CX : CXT} {k : Nat} {ps : List Str} {sp : Sp} {c : Str} {E : XK}
/-- a class with an own __eq__, its != is object's -/
structure Eo2 (K : PySem.W.Frag) (mg : Str → Option Value) (c : Str) : Prop where
  ne : PySem.W.findIn K (.ref (cls mg c)) "__ne__" = some (some (.builtin "object.__ne__"))
  sub : PySem.W.subIn K (.ref (cls mg c)) (.type "object") = some true
  ha : PySem.W.findIn K (.ref (cls mg c)) "__class__" = some (some (.builtin "object.__class__"))
  hn : PySem.W.specialIn K (.builtin "object.__class__") "__get__" = some (some (.builtin "getset_descriptor.__get__"))
  htk : PySem.W.takesIn K (.builtin "object.__class__") = some true
  hm : PySem.W.mroIn K (cls mg c) (.type "object") = some true
theorem eo2_mk {K : PySem.W.Frag} {h : Heap} {mg : Str → Option Value} {c : Str} {C : Addr} (X : K.In h) (G : h.Ns mainGlobals mg) (aC : PySem.W.nsIn K mainGlobals c = some (some (.ref C)))
    (ne : PySem.W.findIn K (.ref C) "__ne__" = some (some (.builtin "object.__ne__"))) (sub : PySem.W.subIn K (.ref C) (.type "object") = some true)
    (ha : PySem.W.findIn K (.ref C) "__class__" = some (some (.builtin "object.__class__"))) (hn : PySem.W.specialIn K (.builtin "object.__class__") "__get__" = some (some (.builtin "getset_descriptor.__get__")))
    (htk : PySem.W.takesIn K (.builtin "object.__class__") = some true) (hm : PySem.W.mroIn K C (.type "object") = some true) : Eo2 K mg c := by
  have e := cls_of (PySem.W.mg_of X G aC)
  exact ⟨by rw [e]; exact ne, by rw [e]; exact sub, by rw [e]; exact ha, hn, htk, by rw [e]; exact hm⟩
/-- isinstance of an instance and its own class -/
theorem isi_own {K : PySem.W.Frag} {H : Hp} {mg : Str → Option Value} {c : Str} {a dx : Addr} {fs : List (Str × V)} {Q : VK} (O : Oc K mg c) (N : Eo2 K mg c) (h : H a = some (.ins (cls mg c) dx fs)) (q : Q (.bl true) H) : rIsi K [.ref a, .ref (cls mg c)] H Q :=
  ⟨_, _, _, _, true, rfl, .own _, .base (.ins h O.cl N.ha N.hn N.htk N.hm), by unfold PySem.W.kitOne; simp, q⟩
/-- a class that is no int -/
structure Eo3 (K : PySem.W.Frag) (mg : Str → Option Value) (c : Str) : Prop where
  tp : PySem.W.typeIn K (.ref (cls mg c)) = some (.type "type")
  ni : PySem.W.mroIn K (cls mg c) (.type "int") = some false
theorem eo3_mk {K : PySem.W.Frag} {h : Heap} {mg : Str → Option Value} {c : Str} {C : Addr} (X : K.In h) (G : h.Ns mainGlobals mg) (aC : PySem.W.nsIn K mainGlobals c = some (some (.ref C)))
    (tp : PySem.W.typeIn K (.ref C) = some (.type "type")) (ni : PySem.W.mroIn K C (.type "int") = some false) : Eo3 K mg c := by
  have e := cls_of (PySem.W.mg_of X G aC)
  exact ⟨by rw [e]; exact tp, by rw [e]; exact ni⟩
def allTy (l : List Value) : Bool := l.all fun v => match v with
  | .type _ => true
  | _ => false
theorem mro_ty : ∀ n ∈ tyNames, (PySem.fastBuiltinMro n).map allTy = some true := by decide +kernel
/-- isinstance of a thing and an own class -/
theorem isi_not {K : PySem.W.Frag} {H : Hp} {mg : Str → Option Value} {c : Str} {x : V} {n : String} {Q : VK} (N : Eo2 K mg c) (N3 : Eo3 K mg c) (h : Thing K H x n) (q : Q (.bl false) H) : rIsi K [x, .ref (cls mg c)] H Q := by
  refine ⟨_, _, .type n, .ref (cls mg c), false, rfl, .own _, h.ty, ?_, q⟩
  unfold PySem.W.kitOne
  rw [if_neg (by intro z; exact nomatch (beq_iff_eq.mp z))]
  have hs : (PySem.W.clsIn K (cls mg c)).isSome = true := by
    have := N.hm
    unfold PySem.W.mroIn at this
    obtain ⟨cd, a, _⟩ := Option.bind_eq_some_iff.mp this
    rw [a]; rfl
  show (if ((PySem.W.clsIn K (cls mg c)).isSome && PySem.W.typeIn K (.ref (cls mg c)) == some (.type "type")) = true then PySem.W.subIn K (.type n) (.ref (cls mg c)) else none) = _
  rw [hs, N3.tp, if_pos (by rfl)]
  obtain ⟨l, e1, e2⟩ := Option.map_eq_some_iff.mp (mro_ty n h.mem)
  show (PySem.fastBuiltinMro n).map (·.contains (.ref (cls mg c))) = _
  rw [e1]
  show some (l.contains (Value.ref (cls mg c))) = some false
  rw [Option.some.injEq, List.contains_eq_any_beq, List.any_eq_false]
  intro v hv z
  have := List.all_eq_true.mp e2 v hv
  rw [← beq_iff_eq.mp z] at this
  exact nomatch this
/-- isinstance of an own instance and int -/
theorem isi_ownI {K : PySem.W.Frag} {H : Hp} {mg : Str → Option Value} {c : Str} {a dx : Addr} {fs : List (Str × V)} {Q : VK} (O : Oc K mg c) (N : Eo2 K mg c) (N3 : Eo3 K mg c) (h : H a = some (.ins (cls mg c) dx fs)) (q : Q (.bl false) H) : rIsi K [.ref a, .ty "int"] H Q := by
  refine ⟨_, _, .ref (cls mg c), .type "int", false, rfl, .ty _, .base (.ins h O.cl N.ha N.hn N.htk N.hm), ?_, q⟩
  unfold PySem.W.kitOne
  rw [if_neg (by intro z; exact nomatch (beq_iff_eq.mp z))]
  show (if PySem.W.kitMeta "int" = true then PySem.W.subIn K (.ref (cls mg c)) (.type "int") else none) = _
  rw [if_pos (by decide +kernel)]
  exact N3.ni
def rEqO (C : Addr) (sp : Sp) (E : XK) (neg : Bool) : R2 := fun x y H Q => ∃ a b dx dy fs gs, x = .ref a ∧ y = .ref b ∧ H a = some (.ins C dx fs) ∧ H b = some (.ins C dy gs) ∧ sp [.ref a, .ref b] H (fun v H' => ∃ r, v = .bl r ∧ Q (.bl (if neg then !r else r)) H') E
theorem op_eqO (M : Mo X.prog X.w X.K X.mg X.base CX k c "__eq__" ps sp) (hr : Room k X.A) (hx : Passes CX X E) : OpR X (compareOp .Eq) (rEqO (cls X.mg c) sp E false) := by
  intro pins s σ H x y v u Q I rx ry h
  obtain ⟨a, b, dx, dy, fs, gs, rfl, rfl, ha, hb, q⟩ := h
  cases rx
  cases ry
  obtain ⟨f, fd, h1, h2, h3⟩ := M.ex
  obtain ⟨mA, J, _⟩ := ins_get I.hok ha
  obtain ⟨mB, J', _⟩ := ins_get I.hok hb
  obtain ⟨od, J, _⟩ := J.look
  obtain ⟨od', J', _⟩ := J'.look
  obtain ⟨m, hF⟩ := I.fr
  have hl := h3.len _ _ _ _ q
  have r2 : Vals [V.ref a, V.ref b] [Value.ref a, Value.ref b] := .cons rfl (.cons rfl .nil)
  refine PySem.W.cmp_K (op := .Eq) (tb := .ref (cls X.mg c)) hr.units0 hF I.ok.mod.kin J J'.type (by simp [PySem.W.notFirst]) h1.at_ h1.fn ?_
  refine wpAny_call (codeAny_mono (h3.run X.A X.stack s H ⟨[.ref a, .ref b], []⟩ [.ref a, .ref b] [.ref a, .ref b] _ E hr I.env0 (by
    have := h2 s [.ref a, .ref b] I.kIn (by simpa using hl)
    simpa using this) r2 q) fun r s' hq => ?_)
  cases r with
  | error e => exact hx pins σ H s e s' I hq
  | ok fl =>
    cases fl with
    | ret w =>
      obtain ⟨z, H', I', rz, r, ez, q2⟩ := I.after hq
      subst ez
      cases rz
      exact ⟨.bl r, H', I', rfl, q2⟩
    | next => exact False.elim hq
    | brk => exact False.elim hq
    | cont => exact False.elim hq
theorem ifBound_B {prog : Program} {w : World} {A : Around} {E' : Value → Shared → Prop} {s : Shared} {K : PySem.W.Frag} {a C : Addr} {ox : Obj} {od : Option Obj} {name : Str} {id : String} {args : List Value} {Q : Option Value → Shared → Prop} (X : K.In s.heap) (I : PySem.W.InstAt s.heap a ox C od)
    (hs : PySem.W.findIn K (.ref C) name = some (some (.builtin id))) (hb : ∀ self, bindSpecial (.builtin id) self = pure (.builtin id, [self])) (h : wpAny (model prog w) A (call (.builtin id) (.ref a :: args)) (fun v => Q (some v)) E' s) : wpAny (model prog w) A (callSpecialIfBound? (.ref a) name args) Q E' s := by
  simp only [callSpecialIfBound?, bindSpecialIfBound?]
  refine wpAny_holding (wpAny_bind (wpAny_bind (wpAny_bind (I.type.here ((PySem.W.looks_findIn X hs).here ?_)))))
  simp only [hb]
  have fin : wpAny (model prog w) A (call (.builtin id) ([.ref a] ++ args) >>= fun v => pure (some v)) Q E' s := wpAny_bind (wpAny_mono h (fun v s' h' => wpAny_pure h') fun _ _ h' => h')
  refine wpAny_bind (wpAny_askSetting (wpAny_ite ?_))
  split
  · exact wpAny_bind (wpAny_pure (wpAny_pure fin))
  · exact wpAny_tryCatch (wpAny_bind (wpAny_pure (wpAny_pure fin)))
theorem op_neO (N : Eo2 X.K X.mg c) (M : Mo X.prog X.w X.K X.mg X.base CX k c "__eq__" ps sp) (hr : Room (k + 1) X.A) (hx : Passes CX X E) : OpR X (compareOp .NotEq) (rEqO (cls X.mg c) sp E true) := by
  intro pins s σ H x y v u Q I rx ry h
  obtain ⟨a, b, dx, dy, fs, gs, rfl, rfl, ha, hb, q⟩ := h
  cases rx
  cases ry
  obtain ⟨f, fd, h1, h2, h3⟩ := M.ex
  obtain ⟨mA, J, _⟩ := ins_get I.hok ha
  obtain ⟨mB, J', _⟩ := ins_get I.hok hb
  obtain ⟨od, J, _⟩ := J.look
  obtain ⟨od', J', _⟩ := J'.look
  obtain ⟨m, hF⟩ := I.fr
  have hK := I.kIn
  have hl := h3.len _ _ _ _ q
  have r2 : Vals [V.ref a, V.ref b] [Value.ref a, Value.ref b] := .cons rfl (.cons rfl .nil)
  show wpAny (model X.prog X.w) X.A (richCompare .NotEq (.ref a) (.ref b)) (EP X pins σ Q) X.xe s
  have eqc : wpAny (model X.prog X.w) X.A.in1 (call (.ref f) [.ref a, .ref b]) (fun v s' => ∃ r, v = .bool r ∧ EP X pins σ Q (.bool (!r)) s') X.xe s := by
    refine wpAny_call (codeAny_mono (h3.run X.A.in1 X.stack s H ⟨[.ref a, .ref b], []⟩ [.ref a, .ref b] [.ref a, .ref b] _ E hr.in1 I.env0.in1 (by
      have := h2 s [.ref a, .ref b] I.kIn (by simpa using hl)
      simpa using this) r2 q) fun r s' hq => ?_)
    cases r with
    | error e => exact hx pins σ H s e s' I hq
    | ok fl =>
      cases fl with
      | ret w =>
        obtain ⟨z, H', I', rz, r, ez, q2⟩ := I.after hq
        subst ez
        cases rz
        exact ⟨r, rfl, .bl _, H', I', rfl, q2⟩
      | next => exact False.elim hq
      | brk => exact False.elim hq
      | cont => exact False.elim hq
  have t2 : PySem.W.Looks (model X.prog X.w) s.heap (isInstance (.ref a) (.type "object")) true := J.type.andThen (PySem.W.looks_subIn hK N.sub)
  have one : wpAny (model X.prog X.w) X.A (tryCompare (.ref a) "__ne__" (.ref b)) (fun r s' => ∃ v, r = some v ∧ EP X pins σ Q v s') X.xe s := by
    unfold tryCompare
    refine wpAny_bind (ifBound_B hK J N.ne PySem.F.slot_object_ne.bind (wpAny_call (codeAny_call_builtin PySem.F.slot_object_ne.plain PySem.F.entry_object_ne
      (@PySem.W.check_slot (model X.prog X.w) _ _ _ "object.__ne__" "object" "__ne__" (.ref a) [.ref b] [] _ (by decide +kernel) (by decide +kernel) t2 (PySem.F.args_object_ne_2 _ _) ?_))))
    unfold Builtin.«object.__ne__»
    refine wpAny_bind (wpAny_pure ?_)
    refine wpAny_bind (wpAny_cRoomFor (by have := hr.units; show X.A.units + 1 < _; omega) ?_)
    refine wpAny_bind (PySem.W.ifBound_K hK J h1.at_ h1.fn (wpAny_mono eqc (fun v s' hv => ?_) fun _ _ e => e))
    obtain ⟨r, rfl, q2⟩ := hv
    refine wpAny_bind (wpAny_truthy_bool ?_)
    exact wpAny_pure (wpAny_pure ⟨_, rfl, q2⟩)
  unfold richCompare
  simp only [oneThing_ref]
  refine wpAny_holding (wpAny_bind (wpAny_cRoomFor hr.units0 ?_))
  refine wpAny_bind (J.type.here (wpAny_bind (J'.type.here ?_)))
  rw [if_neg (by simp)]
  refine wpAny_bind (wpAny_pure ?_)
  simp only [Bool.false_eq_true, if_false]
  refine wpAny_bind (wpAny_mono one (fun r s' z => ?_) fun _ _ e => e)
  obtain ⟨v, rfl, hq⟩ := z
  exact wpAny_pure hq
/-- a list of texts of the top -/
structure Cl (K : PySem.W.Frag) (mg : Str → Option Value) (x : Str) (ss : List Str) : Prop where
  g : mg x = some (.ref (cls mg x))
  l : ∃ (o : Obj) (its : Array Value) (n : Nat), K.lookup (cls mg x) = some o ∧ o.cls = .type "list" ∧ o.dict = none ∧ o.data = .seq its n ∧ its.size ≤ sizeLine ∧ Vals (ss.map V.str) its.toList
theorem Cl.sq {K : PySem.W.Frag} {mg : Str → Option Value} {x : Str} {ss : List Str} (h : Cl K mg x ss) (H : Hp) : SqL K H (cls mg x) (ss.map V.str) := .inr h.l
theorem cl_mk {K : PySem.W.Frag} {h : Heap} {mg : Str → Option Value} {x : Str} {C : Addr} {s1 s2 s3 : Str} {t1 t2 t3 : Tok} {n : Nat} {sl : Array (Option Value)} (X : K.In h) (G : h.Ns mainGlobals mg) (a : PySem.W.nsIn K mainGlobals x = some (some (.ref C)))
    (l : K.lookup C = some ⟨.type "list", none, .seq #[.str s1 t1, .str s2 t2, .str s3 t3] n, sl⟩) : Cl K mg x [s1, s2, s3] := by
  have e := cls_of (PySem.W.mg_of X G a)
  exact ⟨by rw [e]; exact PySem.W.mg_of X G a, by rw [e]; exact ⟨_, _, _, l, rfl, rfl, rfl, by show 3 ≤ sizeLine; decide, .cons ⟨_, rfl⟩ (.cons ⟨_, rfl⟩ (.cons ⟨_, rfl⟩ .nil))⟩⟩
end
end Nk
/-! ### texts of own instances: str(x), repr(x), f"{x}" by own methods -/
namespace Nk
open PySem L2 PySem.Spec PySem.Calls PyProof.Rows PySem.W
section
variable {prog : Program} {w : World} {A : Around} {E : Value → Shared → Prop} {s : Shared} {K : PySem.W.Frag} {x C f : Addr} {ox : Obj} {od : Option Obj}
def BackS (Q : Value → Shared → Prop) (v : Value) (s' : Shared) : Prop := ∃ y t, v = .str y t ∧ Q v s'
theorem str_ownS {Q : Value → Shared → Prop} (hu : A.in1.in1.units < cLine) (X : K.In s.heap) (I : PySem.W.InstAt s.heap x ox C od) (hs : PySem.W.findIn K (.ref C) "__str__" = some (some (.ref f))) (hf : PySem.W.isFn K (.ref f) = true)
    (h : wpAny (model prog w) A.in1.in1 (call (.ref f) [.ref x]) (BackS Q) E s) : wpAny (model prog w) A (call (.type "str") [.ref x]) Q E s := by
  refine callType_codes (T := "str") (Bi := Builtin.«object.__init__») (Q₁ := fun r s₁ => ∃ y u, r = .str y u ∧ Q r s₁) PySem.F.called_str (PySem.F.typeCall_str_1 _) PySem.F.entry_object_init ?_ ?_
  · refine codeAny_of_tree ?_
    show wpAny _ A.in1.in1 (do checkBuiltinCall "str.__new__" ⟨[.type "str", .ref x], []⟩; again (.builtin "str.__new__" ⟨[.type "str", .ref x], []⟩)) _ _ s
    refine wpAny_bind (wpAny_of_eq (PySem.F.newCall_str_1 _) (wpAny_pure ⟨plainId_quiet (by decide +kernel) _, codeAny_builtin PySem.F.entry_str_new ?_⟩))
    rw [Around.under_plainId (by decide +kernel) _]
    rw [PySem.str_new_tree]
    refine wpAny_bind (wpAny_pure ?_)
    refine wpAny_bind (wpAny_of_eq isSubtype_str_str ?_)
    have key : wpAny (model prog w) A.in1.in1 (PySem.Builtin.Str.strOf (.ref x)) (fun r s₁ => ∃ y u, r = .str y u ∧ Q r s₁) E s := by
      unfold PySem.Builtin.Str.strOf
      rw [show Builtin.Str.isExactStr (.ref x) = false from rfl]
      refine wpAny_bind (m := cRoomFor _ _) (wpAny_cRoomFor hu ?_)
      refine wpAny_bind (m := callSpecial? (.ref x) (Str.ofString "__str__")) (PySem.W.special_fn X I hs (beq_iff_eq.mp hf) (wpAny_mono h (fun r s' z => ?_) fun _ _ y => y))
      obtain ⟨y, t, rfl, q⟩ := z
      exact wpAny_pure ⟨_, _, rfl, q⟩
    exact wpAny_bind (wpAny_mono key (fun r s₁ hr => wpAny_pure hr) fun _ _ y => y)
  · rintro obj s₁ ⟨y, u, rfl, hq⟩
    exact ⟨typeIs_str _ _ _, PySem.F.args_object_init_2 _ _, object_init_meets PySem.F.called_str.init.lookup PySem.F.called_str.made (by decide) prog w A.in1 _ s₁ ⟨typeIs_str _ _ _, rfl, hq⟩⟩
theorem repr_ownS {Q : Value → Shared → Prop} (hu : A.in1.units < cLine) (X : K.In s.heap) (I : PySem.W.InstAt s.heap x ox C od) (hr : PySem.W.findIn K (.ref C) "__repr__" = some (some (.ref f))) (hf : PySem.W.isFn K (.ref f) = true)
    (h : wpAny (model prog w) A.in1 (call (.ref f) [.ref x]) (BackS Q) E s) : wpAny (model prog w) A (call (.builtin "repr") [.ref x]) Q E s := by
  refine Calls.call_function_entry PySem.F.kind_repr PySem.F.plain_repr PySem.F.entry_repr (PySem.F.args_repr1 _) ?_
  unfold Builtin.«repr»
  refine wpAny_bind (m := PySem.oneArg "repr" _) (wpAny_pure ?_)
  refine wpAny_bind (m := cRoomFor _ _) (wpAny_cRoomFor hu ?_)
  refine wpAny_bind (m := specialOf _ _) (wpAny_bind (I.type.here ((PySem.W.looks_findIn X hr).here ?_)))
  refine wpAny_bind (m := callSpecialIfBound? (.ref x) (Str.ofString "__repr__")) (PySem.W.ifBound_K X I hr hf (wpAny_mono h (fun r s' z => ?_) fun _ _ y => y))
  obtain ⟨y, t, rfl, q⟩ := z
  refine wpAny_bind (wpAny_isInstance (T := "str") (b := true) (typeIs_str _ _ _) isSubtype_str_str ?_)
  exact wpAny_pure ⟨_, rfl, q⟩
end
section
variable {X : Cx} {CX : CXT} {k : Nat} {ps : List Str} {sp : Sp} {c m : Str} {E : XK}
/-- an own method of one instance is run -/
theorem run_own1 {A' : Around} {f : Addr} {fd : FuncData} {pins : List (Addr × Obj)} {σ : L2.St} {H : Hp} {s : Shared} {a : Addr} {Q : VK} (h2 : Binds X.K fd ps []) (h3 : FnOk X.prog X.w X.K X.mg X.base CX k f fd ps sp) (hr : Room k A') (e0 : Env0 X.prog X.w X.K X.mg X.base A' X.stack s H) (hx : Passes CX X E) (I : Inv X pins σ H s) (q : sp [.ref a] H Q E) :
    wpAny (model X.prog X.w) A' (call (.ref f) [.ref a]) (fun v s' => ∃ z H', Inv X pins σ H' s' ∧ RelV z v ∧ Q z H') X.xe s := by
  have hl := h3.len _ _ _ _ q
  have r2 : Vals [V.ref a] [Value.ref a] := .cons rfl .nil
  refine wpAny_call (codeAny_mono (h3.run A' X.stack s H ⟨[.ref a], []⟩ [.ref a] [.ref a] _ E hr e0 (by
    have := h2 s [.ref a] I.kIn (by simpa using hl)
    simpa using this) r2 q) fun r s' hq => ?_)
  cases r with
  | error e => exact hx pins σ H s e s' I hq
  | ok fl =>
    cases fl with
    | ret w =>
      obtain ⟨z, H', I', rz, q2⟩ := I.after hq
      exact ⟨z, H', I', rz, q2⟩
    | next => exact False.elim hq
    | brk => exact False.elim hq
    | cont => exact False.elim hq
def rStrO (C : Addr) (sp : Sp) (E : XK) : List V → Hp → VK → Prop := fun xs H Q => ∃ a dx fs, xs = [.ref a] ∧ H a = some (.ins C dx fs) ∧ sp [.ref a] H (fun v H' => ∃ y : Str, v = .str y ∧ Q (.str y) H') E
theorem cr_strO (M : Mo X.prog X.w X.K X.mg X.base CX k c "__str__" ps sp) (hr : Room (k + 2) X.A) (hx : Passes CX X E) : CallR X (.type "str") (rStrO (cls X.mg c) sp E) := by
  intro pins s σ H xs us Q I r h
  obtain ⟨a, dx, fs, rfl, ha, q⟩ := h
  obtain ⟨u, rfl, r1⟩ := vals1 r
  cases r1
  obtain ⟨f, fd, h1, h2, h3⟩ := M.ex
  obtain ⟨mA, J, _⟩ := ins_get I.hok ha
  obtain ⟨od, J, _⟩ := J.look
  have hu := hr.units
  exact str_ownS (by show X.A.units + 1 + 1 < _; omega) I.kIn J h1.at_ h1.fn (wpAny_mono (run_own1 h2 h3 (hr.mono (by omega)).in1.in1 I.env0.in1.in1 hx I q) (fun v s' z => by
    obtain ⟨z, H', I', rz, y, rfl, q2⟩ := z
    obtain ⟨t, rfl⟩ := rz
    exact ⟨y, t, rfl, .str y, H', I', ⟨t, rfl⟩, q2⟩) fun _ _ e => e)
theorem cr_reprO (M : Mo X.prog X.w X.K X.mg X.base CX k c "__repr__" ps sp) (hr : Room (k + 1) X.A) (hx : Passes CX X E) : CallR X (.builtin "repr") (rStrO (cls X.mg c) sp E) := by
  intro pins s σ H xs us Q I r h
  obtain ⟨a, dx, fs, rfl, ha, q⟩ := h
  obtain ⟨u, rfl, r1⟩ := vals1 r
  cases r1
  obtain ⟨f, fd, h1, h2, h3⟩ := M.ex
  obtain ⟨mA, J, _⟩ := ins_get I.hok ha
  obtain ⟨od, J, _⟩ := J.look
  have hu := hr.units
  exact repr_ownS (by show X.A.units + 1 < _; omega) I.kIn J h1.at_ h1.fn (wpAny_mono (run_own1 h2 h3 (hr.mono (by omega)).in1 I.env0.in1 hx I q) (fun v s' z => by
    obtain ⟨z, H', I', rz, y, rfl, q2⟩ := z
    obtain ⟨t, rfl⟩ := rz
    exact ⟨y, t, rfl, .str y, H', I', ⟨t, rfl⟩, q2⟩) fun _ _ e => e)
/-- what == asks of a class with an own __eq__ -/
structure Eo4 (K : PySem.W.Frag) (mg : Str → Option Value) (c : Str) : Prop where
  fm : PySem.W.findIn K (.ref (cls mg c)) "__format__" = some (some (.builtin "object.__format__"))
  sd : PySem.W.subIn K (.ref (cls mg c)) (.type "dict") = some false
  si : PySem.W.subIn K (.ref (cls mg c)) (.type "int") = some false
  md : PySem.W.mroIn K (cls mg c) (.type "dict") = some false
theorem eo4_mk {K : PySem.W.Frag} {h : Heap} {mg : Str → Option Value} {c : Str} {C : Addr} (X : K.In h) (G : h.Ns mainGlobals mg) (aC : PySem.W.nsIn K mainGlobals c = some (some (.ref C)))
    (fm : PySem.W.findIn K (.ref C) "__format__" = some (some (.builtin "object.__format__"))) (sd : PySem.W.subIn K (.ref C) (.type "dict") = some false) (si : PySem.W.subIn K (.ref C) (.type "int") = some false) (md : PySem.W.mroIn K C (.type "dict") = some false) : Eo4 K mg c := by
  have e := cls_of (PySem.W.mg_of X G aC)
  exact ⟨by rw [e]; exact fm, by rw [e]; exact sd, by rw [e]; exact si, by rw [e]; exact md⟩
def tFmtO (C : Addr) (sp : Sp) (E : XK) (te : TE) : TE := fun σ H Q => te σ H fun x H1 => rStrO C sp E [x] H1 Q
theorem pe_fmtO {e : Expr} {te : TE} {pos : Pos} (O : Eo4 X.K X.mg c) (N : Eo2 X.K X.mg c) (M : Mo X.prog X.w X.K X.mg X.base CX k c "__str__" ps sp) (hr : Room (k + 1) X.A) (hx : Passes CX X E) (he : PE X e te) : PE X (.FormattedValue e (-1) none pos) (tFmtO (cls X.mg c) sp E te) := by
  refine ⟨fun pins s σ H Q I h => ?_⟩
  refine wpAny_FormattedValue_plain (thn (he.run pins s σ H _ I h) fun v s1 hv => ?_)
  obtain ⟨x, H1, I1, r1, a, dx, fs, ex, ha, q⟩ := hv
  cases ex
  cases r1
  obtain ⟨f, fd, h1, h2, h3⟩ := M.ex
  obtain ⟨mA, J, _⟩ := ins_get I1.hok ha
  obtain ⟨od, J, _⟩ := J.look
  have hu := hr.units
  exact PySem.W.kfo_fieldS (by show X.A.units + 1 < _; omega) I1.kIn J O.fm N.hm h1.at_ h1.fn (wpAny_mono (run_own1 h2 h3 (hr.mono (by omega)).in1 (I1.tok _).env0.in1 hx (I1.tok _) q) (fun v s' z => by
    obtain ⟨z, H', I', rz, y, rfl, q2⟩ := z
    obtain ⟨t, rfl⟩ := rz
    exact ⟨.str y, H', I', ⟨t, rfl⟩, q2⟩) fun _ _ e => e)
end
end Nk
/-! ### == of an own instance and any thing, `in` of lists with own instances -/
namespace Nk
open PySem L2 PySem.Spec PySem.Calls PyProof.Rows PySem.W
section
variable {prog : Program} {w : World} {A : Around} {E : Value → Shared → Prop} {s : Shared} {K : PySem.W.Frag} {x C f : Addr} {ox : Obj} {od : Option Obj}
/-- a built-in thing on the left that has no answer, an own instance on the right -/
theorem rc_left {T id : String} {u : Value} {Q : Value → Shared → Prop} (hu : A.units < cLine) (X : K.In s.heap) (hT : s.TypeIs u T) (hl : Looks (model prog w) s.heap (typeOf u) (.type T)) (I : PySem.W.InstAt s.heap x ox C od)
    (hm : PySem.W.subIn K (.ref C) (.type T) = some false) (slot : Slot T "__eq__" id) (hc : ∀ Q' : Value → Shared → Prop, Q' .notImplemented s → wpAny (model prog w) A (call (.builtin id) [u, .ref x]) Q' E s)
    (hs : PySem.W.findIn K (.ref C) "__eq__" = some (some (.ref f))) (hf : PySem.W.isFn K (.ref f) = true)
    (h : wpAny (model prog w) A (call (.ref f) [.ref x, u]) (PySem.W.CmpBack Q) E s) : wpAny (model prog w) A (richCompare .Eq u (.ref x)) Q E s := by
  unfold richCompare
  rw [hT.oneThing_none]
  refine wpAny_holding (wpAny_bind (wpAny_cRoomFor hu ?_))
  refine wpAny_bind (hl.here (wpAny_bind (I.type.here ?_)))
  rw [if_pos (by rfl)]
  refine wpAny_bind ((PySem.W.looks_subIn X hm).here ?_)
  simp only [Bool.false_eq_true, if_false]
  have one : ∀ Q' : Option Value → Shared → Prop, Q' none s → wpAny (model prog w) A (tryCompare u (cmpInfo .Eq).2.1 (.ref x)) Q' E s := fun Q' q => by
    unfold tryCompare
    exact wpAny_bind (wpAny_callSpecialIfBound?_slot (name := Str.ofString "__eq__") hT slot (hc _ (wpAny_pure q)))
  refine wpAny_bind (one _ ?_)
  have two : wpAny (model prog w) A (tryCompare (.ref x) (cmpInfo .Eq).2.2 u) (fun r s' => ∃ v, r = some v ∧ Q v s') E s := by
    unfold tryCompare
    refine wpAny_bind (PySem.W.ifBound_K X I hs hf (wpAny_mono h (fun v s' hv => ?_) fun _ _ e => e))
    cases v <;> first | exact hv.elim | exact wpAny_pure ⟨_, rfl, hv⟩
  refine wpAny_bind (wpAny_mono two (fun r s' z => ?_) fun _ _ e => e)
  obtain ⟨v, rfl, hq⟩ := z
  exact wpAny_pure hq
theorem dict_eq_own {d : Addr} {Q : Value → Shared → Prop} (X : K.In s.heap) (hT : s.TypeIs (.ref d) "dict") (I : PySem.W.InstAt s.heap x ox C od) (hm : PySem.W.mroIn K C (.type "dict") = some false) (q : Q .notImplemented s) :
    wpAny (model prog w) A (call (.builtin "dict.__eq__") [.ref d, .ref x]) Q E s := by
  refine wpAny_call (codeAny_call_builtin PySem.F.slot_dict_eq.plain PySem.F.entry_dict_eq (PySem.F.slot_dict_eq.check _ _ _ _ _ _ _ _ hT (PySem.F.args_dict_eq_2 _ _) ?_))
  unfold Builtin.«dict.__eq__»
  refine wpAny_bind (m := Builtin.Dict.dictSlotArgs "__eq__" _) (wpAny_pure ?_)
  have t2 : PySem.W.Looks (model prog w) s.heap (isInstance (.ref x) (.type "dict")) false := I.type.andThen (PySem.W.looks_mroIn X hm)
  refine wpAny_bind (t2.here ?_)
  wp_walk
  exact q
theorem int_eq_own {i : Int} {t : Tok} {Q : Value → Shared → Prop} (X : K.In s.heap) {dx : Addr} (I : PySem.W.InstAt s.heap x (PySem.W.instObj C dx) C od) (q : Q .notImplemented s) :
    wpAny (model prog w) A (call (.builtin "int.__eq__") [.int i t, .ref x]) Q E s := by
  refine wpAny_call (codeAny_call_builtin PySem.F.slot_int_eq.plain PySem.F.entry_int_eq (PySem.F.slot_int_eq.check _ _ _ _ _ _ _ _ (typeIs_int _ _ _) (PySem.F.args_int_eq_2 _ _) ?_))
  unfold Builtin.«int.__eq__»
  show wpAny _ _ (Builtin.Int.intBinary "__eq__" _ false _) _ _ _
  unfold Builtin.Int.intBinary
  refine wpAny_bind (m := slotArgs "__eq__" 1 _) (wpAny_pure ?_)
  refine wpAny_bind (m := Builtin.Int.intOfSelf _) (wpAny_pure ?_)
  refine wpAny_bind (m := asInt? _) (wpAny_bind (wpAny_load I.at_ ?_))
  refine wpAny_pure ?_
  wp_walk
  exact q
end
section
variable {X : Cx} {CX : CXT} {k : Nat} {ps : List Str} {sp : Sp} {c : Str} {E : XK}
/-- an own method of an instance and a thing is run -/
theorem run_own2 {A' : Around} {f : Addr} {fd : FuncData} {pins : List (Addr × Obj)} {σ : L2.St} {H : Hp} {s : Shared} {a : Addr} {y : V} {u : Value} {Q : VK} (h2 : Binds X.K fd ps []) (h3 : FnOk X.prog X.w X.K X.mg X.base CX k f fd ps sp) (hr : Room k A') (e0 : Env0 X.prog X.w X.K X.mg X.base A' X.stack s H) (hx : Passes CX X E) (I : Inv X pins σ H s) (ry : RelV y u) (q : sp [.ref a, y] H Q E) :
    wpAny (model X.prog X.w) A' (call (.ref f) [.ref a, u]) (fun v s' => ∃ z H', Inv X pins σ H' s' ∧ RelV z v ∧ Q z H') X.xe s := by
  have hl := h3.len _ _ _ _ q
  have r2 : Vals [V.ref a, y] [Value.ref a, u] := .cons rfl (.cons ry .nil)
  refine wpAny_call (codeAny_mono (h3.run A' X.stack s H ⟨[.ref a, u], []⟩ [.ref a, u] [.ref a, y] _ E hr e0 (by
    have := h2 s [.ref a, u] I.kIn (by simpa using hl)
    simpa using this) r2 q) fun r s' hq => ?_)
  cases r with
  | error e => exact hx pins σ H s e s' I hq
  | ok fl =>
    cases fl with
    | ret w =>
      obtain ⟨z, H', I', rz, q2⟩ := I.after hq
      exact ⟨z, H', I', rz, q2⟩
    | next => exact False.elim hq
    | brk => exact False.elim hq
    | cont => exact False.elim hq
theorem sub_not {K : PySem.W.Frag} {H : Hp} {mg : Str → Option Value} {c : Str} {x : V} {n : String} (h : Thing K H x n) : PySem.W.subIn K (.type n) (.ref (cls mg c)) = some false := by
  obtain ⟨l, e1, e2⟩ := Option.map_eq_some_iff.mp (mro_ty n h.mem)
  show (PySem.fastBuiltinMro n).map (·.contains (.ref (cls mg c))) = _
  rw [e1]
  show some (l.contains (Value.ref (cls mg c))) = some false
  rw [Option.some.injEq, List.contains_eq_any_beq, List.any_eq_false]
  intro v hv z
  have := List.all_eq_true.mp e2 v hv
  rw [← beq_iff_eq.mp z] at this
  exact nomatch this
/-- a thing to be compared with an own instance -/
def Oth (K : PySem.W.Frag) (C : Addr) (H : Hp) (y : V) : Prop := (∃ b dy gs, y = .ref b ∧ H b = some (.ins C dy gs)) ∨ ∃ n, Thing K H y n
theorem oth_ty {pins : List (Addr × Obj)} {σ : L2.St} {H : Hp} {s : Shared} {y : V} {u : Value} (I : Inv X pins σ H s) (ry : RelV y u) (h : Oth X.K (cls X.mg c) H y) : ∃ tb, PySem.W.Looks (model X.prog X.w) s.heap (typeOf u) tb ∧ PySem.W.notFirst X.K (cls X.mg c) tb = true := by
  rcases h with ⟨b, dy, gs, rfl, hb⟩ | ⟨n, h⟩
  · cases ry
    obtain ⟨mB, J', _⟩ := ins_get I.hok hb
    obtain ⟨od', J', _⟩ := J'.look
    exact ⟨_, J'.type, by simp [PySem.W.notFirst]⟩
  · obtain ⟨P, Z, p, _⟩ := kit_of I ry h.ty
    exact ⟨_, Z.ty _ _ I.kIn p, by unfold PySem.W.notFirst; rw [sub_not h]; simp⟩
/-- an own instance and a thing, by its own __eq__ -/
def rEqX (K : PySem.W.Frag) (C : Addr) (sp : Sp) (E : XK) (neg : Bool) : R2 := fun x y H Q => ∃ a dx fs, x = .ref a ∧ H a = some (.ins C dx fs) ∧ Oth K C H y ∧ sp [.ref a, y] H (fun v H' => ∃ r, v = .bl r ∧ Q (.bl (if neg then !r else r)) H') E
theorem op_eqX (M : Mo X.prog X.w X.K X.mg X.base CX k c "__eq__" ps sp) (hr : Room k X.A) (hx : Passes CX X E) : OpR X (compareOp .Eq) (rEqX X.K (cls X.mg c) sp E false) := by
  intro pins s σ H x y v u Q I rx ry h
  obtain ⟨a, dx, fs, rfl, ha, hy, q⟩ := h
  cases rx
  obtain ⟨f, fd, h1, h2, h3⟩ := M.ex
  obtain ⟨mA, J, _⟩ := ins_get I.hok ha
  obtain ⟨od, J, _⟩ := J.look
  obtain ⟨m, hF⟩ := I.fr
  obtain ⟨tb, L, nf⟩ := oth_ty I ry hy
  exact PySem.W.cmp_K (op := .Eq) (tb := tb) hr.units0 hF I.ok.mod.kin J L nf h1.at_ h1.fn (wpAny_mono (run_own2 h2 h3 hr I.env0 hx I ry q) (fun v s' z => by
    obtain ⟨z, H', I', rz, r, rfl, q2⟩ := z
    cases rz
    exact ⟨.bl r, H', I', rfl, q2⟩) fun _ _ e => e)
theorem op_neX (N : Eo2 X.K X.mg c) (M : Mo X.prog X.w X.K X.mg X.base CX k c "__eq__" ps sp) (hr : Room (k + 1) X.A) (hx : Passes CX X E) : OpR X (compareOp .NotEq) (rEqX X.K (cls X.mg c) sp E true) := by
  intro pins s σ H x y v u Q I rx ry h
  obtain ⟨a, dx, fs, rfl, ha, hy, q⟩ := h
  cases rx
  obtain ⟨f, fd, h1, h2, h3⟩ := M.ex
  obtain ⟨mA, J, _⟩ := ins_get I.hok ha
  obtain ⟨od, J, _⟩ := J.look
  have hK := I.kIn
  obtain ⟨tb, L, nf⟩ := oth_ty I ry hy
  show wpAny (model X.prog X.w) X.A (richCompare .NotEq (.ref a) u) (EP X pins σ Q) X.xe s
  have t2 : PySem.W.Looks (model X.prog X.w) s.heap (isInstance (.ref a) (.type "object")) true := J.type.andThen (PySem.W.looks_subIn hK N.sub)
  have one : wpAny (model X.prog X.w) X.A (tryCompare (.ref a) "__ne__" u) (fun r s' => ∃ v, r = some v ∧ EP X pins σ Q v s') X.xe s := by
    unfold tryCompare
    refine wpAny_bind (ifBound_B hK J N.ne PySem.F.slot_object_ne.bind (wpAny_call (codeAny_call_builtin PySem.F.slot_object_ne.plain PySem.F.entry_object_ne
      (@PySem.W.check_slot (model X.prog X.w) _ _ _ "object.__ne__" "object" "__ne__" (.ref a) [u] [] _ (by decide +kernel) (by decide +kernel) t2 (PySem.F.args_object_ne_2 _ _) ?_))))
    unfold Builtin.«object.__ne__»
    refine wpAny_bind (wpAny_pure ?_)
    refine wpAny_bind (wpAny_cRoomFor (by have := hr.units; show X.A.units + 1 < _; omega) ?_)
    refine wpAny_bind (PySem.W.ifBound_K hK J h1.at_ h1.fn (wpAny_mono (run_own2 h2 h3 (hr.mono (by omega)).in1 I.env0.in1 hx I ry q) (fun v s' hv => ?_) fun _ _ e => e))
    obtain ⟨z, H', I', rz, r, rfl, q2⟩ := hv
    cases rz
    refine wpAny_bind (wpAny_truthy_bool ?_)
    exact wpAny_pure (wpAny_pure ⟨_, rfl, .bl _, H', I', rfl, q2⟩)
  unfold richCompare
  simp only [oneThing_ref]
  refine wpAny_holding (wpAny_bind (wpAny_cRoomFor hr.units0 ?_))
  refine wpAny_bind (J.type.here (wpAny_bind (L.here ?_)))
  split
  · rename_i z
    have e : PySem.W.subIn X.K tb (.ref (cls X.mg c)) = some false := by
      rcases Bool.or_eq_true_iff.mp nf with e | e
      · rw [beq_iff_eq.mp e] at z; simp at z
      · exact beq_iff_eq.mp e
    refine wpAny_bind ((PySem.W.looks_subIn hK e).here ?_)
    simp only [Bool.false_eq_true, if_false]
    refine wpAny_bind (wpAny_mono one (fun r s' z => ?_) fun _ _ e => e)
    obtain ⟨v, rfl, hq⟩ := z
    exact wpAny_pure hq
  · refine wpAny_bind (wpAny_pure ?_)
    simp only [Bool.false_eq_true, if_false]
    refine wpAny_bind (wpAny_mono one (fun r s' z => ?_) fun _ _ e => e)
    obtain ⟨v, rfl, hq⟩ := z
    exact wpAny_pure hq
/-- a dict and an own instance: the instance's own __eq__ answers -/
def rEqL (C : Addr) (sp : Sp) (E : XK) : R2 := fun x y H Q => ∃ d kvs a dx fs, x = .ref d ∧ H d = some (.dK kvs) ∧ y = .ref a ∧ H a = some (.ins C dx fs) ∧ sp [.ref a, .ref d] H (fun v H' => ∃ r, v = .bl r ∧ Q (.bl r) H') E
theorem op_eqL (N : Eo4 X.K X.mg c) (M : Mo X.prog X.w X.K X.mg X.base CX k c "__eq__" ps sp) (hr : Room k X.A) (hx : Passes CX X E) : OpR X (compareOp .Eq) (rEqL (cls X.mg c) sp E) := by
  intro pins s σ H x y v u Q I rx ry h
  obtain ⟨d, kvs, a, dx, fs, rfl, hd, rfl, ha, q⟩ := h
  cases rx
  cases ry
  obtain ⟨f, fd, h1, h2, h3⟩ := M.ex
  obtain ⟨mA, J, _⟩ := ins_get I.hok ha
  obtain ⟨od, J, _⟩ := J.look
  have hth : Thing X.K H (.ref d) "dict" := .dic hd
  obtain ⟨P, Z, p, _⟩ := kit_of I (show RelV (.ref d) (.ref d) from rfl) hth.ty
  have hT : s.TypeIs (.ref d) "dict" := by
    obtain ⟨_, _, vs, _, o, es, ep, g1, g2, _⟩ := (show ObjOk X.prog X.w H s.heap d (.dK kvs) from I.hok d _ hd)
    exact ⟨_, g1, g2.1⟩
  exact rc_left hr.units0 I.kIn hT (Z.ty _ _ I.kIn p) J N.sd PySem.F.slot_dict_eq (fun Q' q' => dict_eq_own I.kIn hT J N.md q') h1.at_ h1.fn (wpAny_mono (run_own2 h2 h3 hr I.env0 hx I (show RelV (.ref d) (.ref d) from rfl) q) (fun v s' z => by
    obtain ⟨z, H', I', rz, r, rfl, q2⟩ := z
    cases rz
    exact ⟨.bl r, H', I', rfl, q2⟩) fun _ _ e => e)
end
end Nk
namespace Nk
open PySem L2 PySem.Spec PySem.Calls PyProof.Rows PySem.W
section
variable {X : Cx} {CX : CXT} {k : Nat} {ps : List Str} {sp : Sp} {c : Str} {E : XK}
/-- an item of a list against an own instance -/
def rEqAny (C : Addr) (sp : Sp) (E : XK) (y : V) (a : Addr) (H : Hp) (Q : Bool → Hp → Prop) : Prop :=
  (∃ i, y = .int i ∧ sp [.ref a, .int i] H (fun v H' => ∃ r, v = .bl r ∧ Q r H') E) ∨ (∃ b dy gs, y = .ref b ∧ b ≠ a ∧ H b = some (.ins C dy gs) ∧ sp [.ref b, .ref a] H (fun v H' => ∃ r, v = .bl r ∧ Q r H') E) ∨
    ∃ d kvs, y = .ref d ∧ H d = some (.dK kvs) ∧ sp [.ref a, .ref d] H (fun v H' => ∃ r, v = .bl r ∧ Q r H') E
def tInO (C : Addr) (sp : Sp) (E : XK) (a : Addr) : List V → Hp → (Bool → Hp → Prop) → Prop
  | [], H, Q => Q false H
  | y :: ys, H, Q => rEqAny C sp E y a H fun b H' => Same H H' ∧ if b = true then Q true H' else tInO C sp E a ys H' Q
def rInO (C : Addr) (sp : Sp) (E : XK) (neg : Bool) : R2 := fun x y H Q => ∃ a dx fs l xs, x = .ref a ∧ y = .ref l ∧ H a = some (.ins C dx fs) ∧ H l = some (.lst xs) ∧ tInO C sp E a xs H fun b H' => Q (.bl (if neg then !b else b)) H'
theorem eqBool_rc {A : Around} {E' : Value → Shared → Prop} {s : Shared} {u : Value} {a : Addr} {Q : Bool → Shared → Prop} (hne : u ≠ .ref a) (hf : ∀ x t, u ≠ .float x t) (h : wpAny (model X.prog X.w) A (richCompare .Eq u (.ref a)) (fun v s' => ∃ r, v = .bool r ∧ Q r s') E' s) : wpAny (model X.prog X.w) A (eqBool u (.ref a)) Q E' s := by
  unfold eqBool
  refine wpAny_holding ?_
  refine wpAny_ite_split (fun hab => absurd (eq_of_beq hab) hne) (fun _ => ?_)
  have fin : wpAny (model X.prog X.w) A (richCompare .Eq u (.ref a) >>= truthOfDropped) Q E' s := by
    refine wpAny_bind (wpAny_mono h (fun v s' hv => ?_) fun _ _ x => x)
    obtain ⟨r, rfl, q⟩ := hv
    exact wpAny_truthy_bool q
  cases u with
  | float x t => exact absurd rfl (hf x t)
  | _ => exact fin
theorem eqAny_run (N : Eo4 X.K X.mg c) (M : Mo X.prog X.w X.K X.mg X.base CX k c "__eq__" ps sp) (hx : Passes CX X E) {A' : Around} (hr : Room k A') {pins : List (Addr × Obj)} {σ : L2.St} {H : Hp} {s : Shared} (e0 : Env0 X.prog X.w X.K X.mg X.base A' X.stack s H) {a dx : Addr} {fs : List (Str × V)} {y : V} {u : Value} {Q : Bool → Hp → Prop}
    (I : Inv X pins σ H s) (ry : RelV y u) (ha : H a = some (.ins (cls X.mg c) dx fs)) (h : rEqAny (cls X.mg c) sp E y a H Q) : wpAny (model X.prog X.w) A' (eqBool u (.ref a)) (fun b s' => ∃ H', Inv X pins σ H' s' ∧ Q b H') X.xe s := by
  obtain ⟨f, fd, h1, h2, h3⟩ := M.ex
  obtain ⟨mA, J, _⟩ := ins_get I.hok ha
  obtain ⟨od, J, _⟩ := J.look
  obtain ⟨m, hF⟩ := I.fr
  rcases h with ⟨i, rfl, q⟩ | ⟨b, dy, gs, rfl, hne, hb, q⟩ | ⟨d, kvs, rfl, hd, q⟩
  · obtain ⟨t, rfl⟩ := ry
    refine eqBool_rc (fun z => nomatch z) (fun _ _ z => nomatch z) ?_
    exact rc_left hr.units0 I.kIn (typeIs_int _ _ _) (PySem.W.Looks.of_pure rfl) J N.si PySem.F.slot_int_eq (fun Q' q' => int_eq_own I.kIn J q') h1.at_ h1.fn (wpAny_mono (run_own2 h2 h3 hr e0 hx I (show RelV (.int i) (.int i t) from ⟨t, rfl⟩) q) (fun v s' z => by
      obtain ⟨z, H', I', rz, r, rfl, q2⟩ := z
      cases rz
      exact ⟨r, rfl, H', I', q2⟩) fun _ _ e => e)
  · cases ry
    obtain ⟨mB, J', _⟩ := ins_get I.hok hb
    obtain ⟨od', J', _⟩ := J'.look
    refine eqBool_rc (fun z => hne (Value.ref.inj z)) (fun _ _ z => nomatch z) ?_
    exact PySem.W.cmp_K (op := .Eq) (tb := .ref (cls X.mg c)) hr.units0 hF I.ok.mod.kin J' J.type (by simp [PySem.W.notFirst]) h1.at_ h1.fn (wpAny_mono (run_own2 h2 h3 hr e0 hx I (show RelV (.ref a) (.ref a) from rfl) q) (fun v s' z => by
      obtain ⟨z, H', I', rz, r, rfl, q2⟩ := z
      cases rz
      exact ⟨r, rfl, H', I', q2⟩) fun _ _ e => e)
  · cases ry
    have hth : Thing X.K H (.ref d) "dict" := .dic hd
    obtain ⟨P, Z, p, _⟩ := kit_of I (show RelV (.ref d) (.ref d) from rfl) hth.ty
    have hT : s.TypeIs (.ref d) "dict" := by
      obtain ⟨_, _, vs, _, o, es, ep, g1, g2, _⟩ := (show ObjOk X.prog X.w H s.heap d (.dK kvs) from I.hok d _ hd)
      exact ⟨_, g1, g2.1⟩
    have hda : d ≠ a := ne_of hd ha (by intro z; cases z)
    refine eqBool_rc (fun z => hda (Value.ref.inj z)) (fun _ _ z => nomatch z) ?_
    exact rc_left hr.units0 I.kIn hT (Z.ty _ _ I.kIn p) J N.sd PySem.F.slot_dict_eq (fun Q' q' => dict_eq_own I.kIn hT J N.md q') h1.at_ h1.fn (wpAny_mono (run_own2 h2 h3 hr e0 hx I (show RelV (.ref d) (.ref d) from rfl) q) (fun v s' z => by
      obtain ⟨z, H', I', rz, r, rfl, q2⟩ := z
      cases rz
      exact ⟨r, rfl, H', I', q2⟩) fun _ _ e => e)
def FinO (prog : Program) (w : World) (A : Around) (R : Result → Shared → Prop) : Fin → Shared → Prop := fun fin s' => match fin with
  | .done f => R (.ok f) s'
  | .again c' => c'.quiet = true ∧ codeAny (model prog w) A c' R s'
theorem in_loop (N : Eo4 X.K X.mg c) (M : Mo X.prog X.w X.K X.mg X.base CX k c "__eq__" ps sp) (hx : Passes CX X E) (hr : Room (k + 1) X.A) {pins : List (Addr × Obj)} {σ : L2.St} {R : Result → Shared → Prop} {a dx l : Addr} {fs : List (Str × V)} {xs : List V} {Q : Bool → Hp → Prop}
    (hQ : ∀ b s' H', Inv X pins σ H' s' → Q b H' → R (.ok (.ret (.bool b))) s') (hE : ∀ e s', X.xe e s' → R (.error e) s') (n : Nat) : ∀ i, xs.length - i = n → ∀ s H, Inv X pins σ H s → H a = some (.ins (cls X.mg c) dx fs) → H l = some (.lst xs) → tInO (cls X.mg c) sp E a (xs.drop i) H Q →
      wpAny (model X.prog X.w) X.A.in1 (Builtin.«list.__contains__.loop» ⟨[.ref l, .ref a, rawInt i], []⟩) (FinO X.prog X.w X.A R) (fun e s' => R (.error e) s') s := by
  induction n with
  | zero =>
    intro i hi s H I ha hl h
    obtain ⟨_, its, n, rv, g⟩ := (show ObjOk X.prog X.w H s.heap l (.lst xs) from I.hok l _ hl)
    have hlen : its.length = xs.length := (Vals.length rv).symm
    have hd : xs.drop i = [] := List.drop_eq_nil_of_le (by omega)
    rw [hd] at h
    have hR := hQ false s H I h
    obtain ⟨hp, gg, d, tk, os⟩ := s
    wp_walk using AutoSeq1.wpAny_loadPart' g
    have hi2 : its.toArray[((i : Nat) : Int).toNat]? = none := by simp; omega
    rw [hi2]
    wp_walk
    exact hR
  | succ n ih =>
    intro i hi s H I ha hl h
    obtain ⟨_, its, n', rv, g⟩ := (show ObjOk X.prog X.w H s.heap l (.lst xs) from I.hok l _ hl)
    have hlen : its.length = xs.length := (Vals.length rv).symm
    have hlt : i < xs.length := by omega
    have hlt2 : i < its.length := by omega
    rw [List.drop_eq_getElem_cons hlt] at h
    have ry : RelV xs[i] its[i] := by
      obtain ⟨u, g1, g2⟩ := Vals.get rv (List.getElem?_eq_getElem hlt)
      rw [List.getElem?_eq_getElem hlt2] at g1
      cases g1
      exact g2
    have turn := eqAny_run N M hx hr.in1 I.env0.in1 I ry ha h
    obtain ⟨hp, gg, d, tk, os⟩ := s
    wp_walk using AutoSeq1.wpAny_loadPart' g
    have hi2 : its.toArray[((i : Nat) : Int).toNat]? = some its[i] := by simp [hlt2]
    rw [hi2]
    refine wpAny_bind (wpAny_mono turn (fun b s' z => ?_) fun e s' z => hE e s' z)
    obtain ⟨H', I', s2, q⟩ := z
    cases b with
    | true =>
      rw [if_pos rfl] at q
      wp_walk
      exact hQ true s' H' I' q
    | false =>
      rw [if_neg (by simp)] at q
      have hnext := ih (i + 1) (by omega) s' H' I' (s2 _ _ ha) (s2 _ _ hl) q
      wp_walk
      exact ⟨plainId_quiet MeetsSeq.plain_contains_loop _, codeAny_builtin MeetsSeq.entry_contains_loop (by
        rw [Around.under_plainId MeetsSeq.plain_contains_loop _]
        exact hnext)⟩
theorem in_run (N : Eo4 X.K X.mg c) (M : Mo X.prog X.w X.K X.mg X.base CX k c "__eq__" ps sp) (hx : Passes CX X E) (hr : Room (k + 1) X.A) {pins : List (Addr × Obj)} {σ : L2.St} {a dx l : Addr} {fs : List (Str × V)} {xs : List V} {Q : Bool → Hp → Prop} {Q' : Bool → Shared → Prop} {s : Shared} {H : Hp}
    (hQ : ∀ b s' H', Inv X pins σ H' s' → Q b H' → Q' b s') (I : Inv X pins σ H s) (ha : H a = some (.ins (cls X.mg c) dx fs)) (hl : H l = some (.lst xs)) (h : tInO (cls X.mg c) sp E a xs H Q) : wpAny (model X.prog X.w) X.A (contains (.ref l) (.ref a)) Q' X.xe s := by
  obtain ⟨_, its, n, rv, g⟩ := (show ObjOk X.prog X.w H s.heap l (.lst xs) from I.hok l _ hl)
  have hT : s.TypeIs (.ref l) "list" := ⟨_, g, rfl⟩
  refine wpAny_contains_slot hT PySem.F.slot_list_contains (wpAny_call (codeAny_call_builtin PySem.F.slot_list_contains.plain PySem.F.entry_list_contains (PySem.F.slot_list_contains.check _ _ _ _ _ _ _ _ hT (PySem.F.args_list_contains_2 _ _) ?_)))
  have lp := in_loop N M hx hr (R := fun r s' => match r with | .ok (.ret v) => wpAny (model X.prog X.w) X.A (truthy v) Q' X.xe s' | .ok _ => False | .error e => X.xe e s') (Q := Q) (fun b s' H' I' q => wpAny_truthy_bool (hQ b s' H' I' q)) (fun e s' z => z) (xs.length - 0) 0 rfl s H I ha hl h
  unfold Builtin.«list.__contains__»
  refine wpAny_bind (m := slotArgs "__contains__" 1 _) (wpAny_pure ?_)
  refine wpAny_pure ⟨plainId_quiet MeetsSeq.plain_contains_loop _, codeAny_builtin MeetsSeq.entry_contains_loop (by
    rw [Around.under_plainId MeetsSeq.plain_contains_loop _]
    exact lp)⟩
theorem op_inO (N : Eo4 X.K X.mg c) (M : Mo X.prog X.w X.K X.mg X.base CX k c "__eq__" ps sp) (hr : Room (k + 1) X.A) (hx : Passes CX X E) : OpR X (compareOp .In) (rInO (cls X.mg c) sp E false) := by
  intro pins s σ H x y v u Q I rx ry h
  obtain ⟨a, dx, fs, l, xs, rfl, rfl, ha, hl, q⟩ := h
  cases rx
  cases ry
  show wpAny _ X.A (do return Value.bool (← contains (.ref l) (.ref a))) _ X.xe s
  exact wpAny_bind (in_run N M hx hr (fun b s' H' I' q => wpAny_pure ⟨.bl b, H', I', rfl, q⟩) I ha hl q)
theorem op_notInO (N : Eo4 X.K X.mg c) (M : Mo X.prog X.w X.K X.mg X.base CX k c "__eq__" ps sp) (hr : Room (k + 1) X.A) (hx : Passes CX X E) : OpR X (compareOp .NotIn) (rInO (cls X.mg c) sp E true) := by
  intro pins s σ H x y v u Q I rx ry h
  obtain ⟨a, dx, fs, l, xs, rfl, rfl, ha, hl, q⟩ := h
  cases rx
  cases ry
  show wpAny _ X.A (do return Value.bool (!(← contains (.ref l) (.ref a)))) _ X.xe s
  exact wpAny_bind (in_run N M hx hr (fun b s' H' I' q => wpAny_pure ⟨.bl (!b), H', I', rfl, q⟩) I ha hl q)
end
end Nk
namespace Nk
open PySem L2
section
variable {X : Cx}
/-- sep.join(a list of texts) -/
def rJoin (K : PySem.W.Frag) : V → List V → Hp → VK → Prop := fun x xs H Q => ∃ a p, ∃ ys : List Str, x = .str a ∧ xs = [.ref p] ∧ SqL K H p (ys.map V.str) ∧ (ys.map (·.length)).sum + ys.length * a.length ≤ 16777216 ∧ Q (.str (Txt.join a ys)) H
theorem mt_joinT : MtR X "str.join" (rJoin X.K) := by
  intro pins s σ H x xs v us Q I rx rs h
  obtain ⟨a, p, ys, e1, e2, hp, hz, q⟩ := h
  exact mt_join pins s σ H x xs v us Q I rx rs ⟨a, p, ys, e1, e2, .inl hp, hz, q⟩
theorem mt_joinK (K : PySem.W.Frag) (h : X.K = K) : MtR X "str.join" (rJoin K) := h ▸ mt_joinT
end
end Nk
/-! ### no subclass; one reading or the other -/
namespace Nk
open PySem L2 PySem.Spec PyProof.Rows
/-- c stands not below d -/
structure Sn (K : PySem.W.Frag) (mg : Str → Option Value) (c d : Str) : Prop where
  ha : PySem.W.findIn K (.ref (cls mg c)) "__class__" = some (some (.builtin "object.__class__"))
  hn : PySem.W.specialIn K (.builtin "object.__class__") "__get__" = some (some (.builtin "getset_descriptor.__get__"))
  htk : PySem.W.takesIn K (.builtin "object.__class__") = some true
  hm : PySem.W.mroIn K (cls mg c) (.type "object") = some true
  kit : PySem.W.kitOne K (.ref (cls mg c)) (.ref (cls mg d)) = some false
theorem isi_notsub {K : PySem.W.Frag} {H : Hp} {mg : Str → Option Value} {c d : Str} {a dx : Addr} {fs : List (Str × V)} {Q : VK} (O : Oc K mg c) (N : Sn K mg c d) (h : H a = some (.ins (cls mg c) dx fs)) (q : Q (.bl false) H) : rIsi K [.ref a, .ref (cls mg d)] H Q :=
  ⟨_, _, _, _, false, rfl, .own _, .base (.ins h O.cl N.ha N.hn N.htk N.hm), N.kit, q⟩
theorem sn_mk {K : PySem.W.Frag} {h : Heap} {mg : Str → Option Value} {c d : Str} {C D : Addr} (X : K.In h) (G : h.Ns mainGlobals mg) (aC : PySem.W.nsIn K mainGlobals c = some (some (.ref C))) (aD : PySem.W.nsIn K mainGlobals d = some (some (.ref D)))
    (ha : PySem.W.findIn K (.ref C) "__class__" = some (some (.builtin "object.__class__"))) (hn : PySem.W.specialIn K (.builtin "object.__class__") "__get__" = some (some (.builtin "getset_descriptor.__get__")))
    (htk : PySem.W.takesIn K (.builtin "object.__class__") = some true) (hm : PySem.W.mroIn K C (.type "object") = some true) (sub : PySem.W.mroIn K C (.ref D) = some false) (tD : PySem.W.typeIn K (.ref D) = some (.type "type")) (hD : PySem.W.mroIn K D (.type "object") = some true) (ne : C ≠ D) : Sn K mg c d := by
  have e := cls_of (PySem.W.mg_of X G aC)
  have e2 := cls_of (PySem.W.mg_of X G aD)
  have hs : (PySem.W.clsIn K D).isSome = true := by
    unfold PySem.W.mroIn at hD
    obtain ⟨cd, a, _⟩ := Option.bind_eq_some_iff.mp hD
    rw [a]; rfl
  have kit : PySem.W.kitOne K (.ref C) (.ref D) = some false := by
    unfold PySem.W.kitOne
    rw [if_neg (by intro z; exact ne (Value.ref.inj (eq_of_beq z)))]
    show (if ((PySem.W.clsIn K D).isSome && PySem.W.typeIn K (.ref D) == some (.type "type")) = true then PySem.W.subIn K (.ref C) (.ref D) else none) = _
    rw [hs, tD, if_pos (by rfl)]
    exact sub
  exact ⟨by rw [e]; exact ha, hn, htk, by rw [e]; exact hm, by rw [e, e2]; exact kit⟩
theorem pe_orE {X : Cx} {e : Expr} {t u : TE} (a : PE X e t) (b : PE X e u) : PE X e (fun σ H Q => t σ H Q ∨ u σ H Q) :=
  ⟨fun pins s σ H Q I h => h.elim (a.run pins s σ H Q I) (b.run pins s σ H Q I)⟩
end Nk
/-! ### what the top leaves, read off its run by a Hook -/
namespace Nk
open PySem L2 PySem.Spec PyProof.Rows
/-- a fact about the top as it stands -/
inductive NFa where
  | glo (x : Str)
  | xc (x : Str)
  | oc (c : Str)
  | md (c m : Str)
  | na (c f : Str)
  | eo (x f : Str)
  | eo2 (c : Str)
  | eo3 (c : Str)
  | eo4 (c : Str)
  | sb (c d : Str)
  | sn (c d : Str)
  | cf (c m : Str)
  | kc
  | ec (x : Str)
  | ci (x : Str) (i : Int)
  | cs (x z : Str)
  | cl (x : Str) (ss : List Str)
  | free (x : Str)
def hG (K : PySem.W.Frag) (x : Str) : Bool := He.eqO (PySem.W.nsIn K mainGlobals x) (some (some (.ref (He.ga K x))))
def hF (K : PySem.W.Frag) (C : Addr) (m : Str) (v : Option Value) : Bool := He.eqO (PySem.W.findIn K (.ref C) m) (some v)
def hS (K : PySem.W.Frag) (v : Value) (m : Str) (u : Option Value) : Bool := He.eqO (PySem.W.specialIn K v m) (some u)
def hB (a : Option Bool) (b : Bool) : Bool := decide (a = some b)
def hT (a : Option Value) (b : Value) : Bool := decide (a = some b)
def hEx (K : PySem.W.Frag) (C : Addr) : Bool := match K.lookup C with
  | some ⟨.type t, _, .cls cd, sl⟩ => (match cd.mro, sl.toList with
    | [.ref C', .ref _, .type r, .type e, .type b, .type o], [_, _, _, _, some (.builtin n), _] => decide (t = "type") && (decide (C' = C) && (decide (r = "RuntimeError") && (decide (e = "Exception") && (decide (b = "BaseException") && (decide (o = "object") && (decide (n = "RuntimeError.__new__") && (cd.hasDict && !cd.hasDel)))))))
    | _, _ => false)
  | _ => false
def hM (K : PySem.W.Frag) (C : Addr) (nm : Str) (mro : List Value) : Bool := match K.lookup C with
  | some ⟨_, _, .cls cd, _⟩ => decide (cd.name = nm) && decide (cd.mro = mro)
  | _ => false
def NFa.ok (K : PySem.W.Frag) : NFa → Bool
  | .glo x => hG K x
  | .xc x => hG K x && (PySem.W.excIn K (He.ga K x) [.type "RuntimeError", .type "Exception", .type "BaseException", .type "object"] "RuntimeError.__new__" && (PySem.W.keepIn K (.ref (He.ga K x)) && (hB (PySem.W.subIn K (.ref (He.ga K x)) (.type "BaseException")) true && hT (PySem.W.typeIn K (.ref (He.ga K x))) (.type "type"))))
  | .oc c => hG K c && (PySem.W.plainGet K (He.ga K c) Str.empty && (PySem.W.hasDictIn K (He.ga K c) && (PySem.W.plainOver K (He.ga K c) && (hF K (He.ga K c) "__setattr__" (some (.builtin "object.__setattr__")) && (PySem.W.makesIn K (He.ga K c) && PySem.W.keepIn K (.ref (He.ga K c)))))))
  | .md c m => hG K c && (hF K (He.ga K c) m (some (.ref (He.ma K (He.ga K c) m))) && PySem.W.isFn K (.ref (He.ma K (He.ga K c) m)))
  | .na c f => hG K c && hF K (He.ga K c) f none
  | .eo x f => hG K x && (hEx K (He.ga K x) && (hF K (He.ga K x) "__setattr__" (some (.builtin "object.__setattr__")) && (hB (PySem.W.subIn K (.ref (He.ga K x)) (.type "BaseException")) true && (hT (PySem.W.typeIn K (.ref (He.ga K x))) (.type "type") && (PySem.W.keepIn K (.ref (He.ga K x)) &&
      (hF K (He.ga K x) f none && (hF K (He.ga K x) "__init__" (some (.ref (He.ma K (He.ga K x) "__init__"))) && hT (PySem.W.typeIn K (.ref (He.ma K (He.ga K x) "__init__"))) (.type "function"))))))))
  | .eo2 c => hG K c && (hF K (He.ga K c) "__ne__" (some (.builtin "object.__ne__")) && (hB (PySem.W.subIn K (.ref (He.ga K c)) (.type "object")) true && (hF K (He.ga K c) "__class__" (some (.builtin "object.__class__")) &&
      (hS K (.builtin "object.__class__") "__get__" (some (.builtin "getset_descriptor.__get__")) && (hB (PySem.W.takesIn K (.builtin "object.__class__")) true && hB (PySem.W.mroIn K (He.ga K c) (.type "object")) true)))))
  | .eo3 c => hG K c && (hT (PySem.W.typeIn K (.ref (He.ga K c))) (.type "type") && hB (PySem.W.mroIn K (He.ga K c) (.type "int")) false)
  | .eo4 c => hG K c && (hF K (He.ga K c) "__format__" (some (.builtin "object.__format__")) && (hB (PySem.W.subIn K (.ref (He.ga K c)) (.type "dict")) false && (hB (PySem.W.subIn K (.ref (He.ga K c)) (.type "int")) false && hB (PySem.W.mroIn K (He.ga K c) (.type "dict")) false)))
  | .sb c d => hG K c && (hG K d && (hF K (He.ga K c) "__class__" (some (.builtin "object.__class__")) && (hS K (.builtin "object.__class__") "__get__" (some (.builtin "getset_descriptor.__get__")) && (hB (PySem.W.takesIn K (.builtin "object.__class__")) true && (hB (PySem.W.mroIn K (He.ga K c) (.type "object")) true &&
      (hB (PySem.W.mroIn K (He.ga K c) (.ref (He.ga K d))) true && (hT (PySem.W.typeIn K (.ref (He.ga K d))) (.type "type") && hB (PySem.W.mroIn K (He.ga K d) (.type "object")) true)))))))
  | .sn c d => hG K c && (hG K d && (hF K (He.ga K c) "__class__" (some (.builtin "object.__class__")) && (hS K (.builtin "object.__class__") "__get__" (some (.builtin "getset_descriptor.__get__")) && (hB (PySem.W.takesIn K (.builtin "object.__class__")) true && (hB (PySem.W.mroIn K (He.ga K c) (.type "object")) true &&
      (hB (PySem.W.mroIn K (He.ga K c) (.ref (He.ga K d))) false && (hT (PySem.W.typeIn K (.ref (He.ga K d))) (.type "type") && (hB (PySem.W.mroIn K (He.ga K d) (.type "object")) true && decide (He.ga K c ≠ He.ga K d)))))))))
  | .cf c m => hG K c && (PySem.W.readsIn K (He.ga K c) (.type "type") && (hS K (.ref (He.ga K c)) "__getattribute__" (some (.builtin "type.__getattribute__")) && ((match PySem.W.findCls K (.ref (He.ga K c)) (.type "type") m with
      | some (.val (.ref a)) => decide (a = He.ma K (He.ga K c) m)
      | _ => false) && hF K (He.ga K c) m (some (.ref (He.ma K (He.ga K c) m))))))
  | .kc => hG K "KeepError" && (hM K (He.ga K "KeepError") "KeepError" [.ref (He.ga K "KeepError"), .type "RuntimeError", .type "Exception", .type "BaseException", .type "object"] && (hT (PySem.W.typeIn K (.ref (He.ga K "KeepError"))) (.type "type") && PySem.W.hasDictIn K (He.ga K "KeepError")))
  | .ec x => hG K "KeepError" && (hG K x && (hM K (He.ga K x) x [.ref (He.ga K x), .ref (He.ga K "KeepError"), .type "RuntimeError", .type "Exception", .type "BaseException", .type "object"] && (hT (PySem.W.typeIn K (.ref (He.ga K x))) (.type "type") && (PySem.W.hasDictIn K (He.ga K x) &&
      (hF K (He.ga K x) "__getattribute__" (some (.builtin "BaseException.__getattribute__")) && (hF K (He.ga K x) "__getattr__" none && (hF K (He.ga K x) "__class__" (some (.builtin "object.__class__")) && (hS K (.builtin "object.__class__") "__get__" (some (.builtin "getset_descriptor.__get__")) && hB (PySem.W.takesIn K (.builtin "object.__class__")) true))))))))
  | .ci x i => (He.Fa.int x i).ok K
  | .cs x z => (He.Fa.str x z).ok K
  | .cl x ss => hG K x && He.lstB K x (ss.map He.Dv.str)
  | .free x => He.eqO (PySem.W.nsIn K mainGlobals x) (some none)
theorem hG_ok {K : PySem.W.Frag} {x : Str} (h : hG K x = true) : PySem.W.nsIn K mainGlobals x = some (some (.ref (He.ga K x))) := He.eqO_ok h
theorem hF_ok {K : PySem.W.Frag} {C : Addr} {m : Str} {v : Option Value} (h : hF K C m v = true) : PySem.W.findIn K (.ref C) m = some v := He.eqO_ok h
theorem hS_ok {K : PySem.W.Frag} {a : Value} {m : Str} {u : Option Value} (h : hS K a m u = true) : PySem.W.specialIn K a m = some u := He.eqO_ok h
theorem hB_ok {a : Option Bool} {b : Bool} (h : hB a b = true) : a = some b := of_decide_eq_true h
theorem hT_ok {a : Option Value} {b : Value} (h : hT a b = true) : a = some b := of_decide_eq_true h
theorem hEx_ok {K : PySem.W.Frag} {C : Addr} (h : hEx K C = true) : ∃ nm q N bs B sn sub ab col dd k0 k1 k2 k3 k5, K.lookup C = some (excClassObj nm q C N bs (.ref B :: rtTail) true sn sub ab col dd k0 k1 k2 k3 k5 "RuntimeError.__new__") := by
  unfold hEx at h
  split at h
  · rename_i t dd cd sl ho
    split at h
    · rename_i C' B r e b o k0 k1 k2 k3 n k5 hm hs
      simp only [Bool.and_eq_true, decide_eq_true_eq, Bool.not_eq_true'] at h
      obtain ⟨h1, h2, h3, h4, h5, h6, h7, h8, h9⟩ := h
      subst h1 h2 h3 h4 h5 h6 h7
      obtain ⟨nm, bs, mro, N, q, hd, sn, sub, ab, col, dl⟩ := cd
      obtain ⟨sl⟩ := sl
      simp only at hm hs h8 h9
      subst hm hs h8 h9
      exact ⟨nm, q, N, bs, B, sn, sub, ab, col, dd, k0, k1, k2, k3, k5, ho⟩
    · cases h
  · cases h
theorem hM_ok {K : PySem.W.Frag} {C : Addr} {nm : Str} {mro : List Value} (h : hM K C nm mro = true) : ∃ oc od osl bs N q sn sub hd ab dl col, K.lookup C = some ⟨oc, od, .cls { name := nm, bases := bs, mro := mro, ns := N, qualname := q, hasDict := hd, slotNames := sn, subclasses := sub, abstract := ab, collection := col, hasDel := dl }, osl⟩ := by
  unfold hM at h
  split at h
  · rename_i oc od cd osl ho
    simp only [Bool.and_eq_true, decide_eq_true_eq] at h
    obtain ⟨nm', bs, mro', N, q, hd, sn, sub, ab, col, dl⟩ := cd
    obtain ⟨h1, h2⟩ := h
    simp only at h1 h2
    subst h1 h2
    exact ⟨oc, od, osl, bs, N, q, sn, sub, hd, ab, dl, col, ho⟩
  · cases h
section
variable {K : PySem.W.Frag} {h : Heap} {mg : Str → Option Value}
theorem nfa_xc {x : Str} (c : (NFa.xc x).ok K = true) (X : K.In h) (G : h.Ns mainGlobals mg) : Xc K mg x (cls mg x) := by
  obtain ⟨c1, c⟩ := He.ba c
  obtain ⟨c2, c⟩ := He.ba c
  obtain ⟨c3, c⟩ := He.ba c
  obtain ⟨c4, c5⟩ := He.ba c
  exact xc_mk X G (hG_ok c1) c2 c3 (hB_ok c4) (hT_ok c5)
theorem nfa_oc {c : Str} (z : (NFa.oc c).ok K = true) (X : K.In h) (G : h.Ns mainGlobals mg) : Oc K mg c := by
  obtain ⟨c1, z⟩ := He.ba z
  obtain ⟨c2, z⟩ := He.ba z
  obtain ⟨c3, z⟩ := He.ba z
  obtain ⟨c4, z⟩ := He.ba z
  obtain ⟨c5, z⟩ := He.ba z
  obtain ⟨c6, c7⟩ := He.ba z
  exact oc_mk X G (hG_ok c1) c2 c3 c4 (hF_ok c5) c6 c7
theorem nfa_na {c f : Str} (z : (NFa.na c f).ok K = true) (X : K.In h) (G : h.Ns mainGlobals mg) : NoAttr K (cls mg c) f := by
  obtain ⟨c1, c2⟩ := He.ba z
  exact na_mk X G (hG_ok c1) (hF_ok c2)
theorem nfa_ci {x : Str} {i : Int} (z : (NFa.ci x i).ok K = true) (X : K.In h) (G : h.Ns mainGlobals mg) : ∃ t, mg x = some (.int i t) := He.int_ok X G z
theorem nfa_cs {x y : Str} (z : (NFa.cs x y).ok K = true) (X : K.In h) (G : h.Ns mainGlobals mg) : ∃ t, mg x = some (.str y t) := He.str_ok X G z
theorem nfa_free {x : Str} (z : (NFa.free x).ok K = true) (X : K.In h) (G : h.Ns mainGlobals mg) : mg x = none := PySem.W.mg_none_of X G (He.eqO_ok z)
theorem nfa_df {x : Str} {st : Stmt} {ps : List Str} {fd : FuncData} (z : (NFa.glo x).ok K = true) (F : FunD K x x (defArgs st) (defBody st) (defScope st) [] [] (He.ga K x) fd) (X : K.In h) (G : h.Ns mainGlobals mg)
    (hb : ∀ (kV doc pm : Value) (an : Option Addr) (cdv ct : Value) (us : List Value), us.length = ps.length → bindArgs (PySem.W.fnOf x x (defArgs st) (defBody st) (defScope st) .none kV doc pm an cdv ct) ⟨us, []⟩ = pure (ps.zip us)) : Df K mg x x st ps := by
  obtain ⟨oc, od, dV, kV, doc, pm, an, cdv, ct, osl, rfl, lk, hcd, hD, _⟩ := F.ex
  rcases hD with ⟨_, rfl⟩ | ⟨e, _⟩
  · exact df_mk X G hb (hG_ok z) lk hcd F.kp
  · exact absurd rfl e
end
end Nk
namespace Nk
open PySem L2 PySem.Spec PyProof.Rows
section
variable {K : PySem.W.Frag} {h : Heap} {mg : Str → Option Value}
theorem nfa_md {c m qual : Str} {st : Stmt} {ps : List Str} {fd : FuncData} (z : (NFa.md c m).ok K = true) (F : FunD K m qual (defArgs st) (defBody st) (defScope st) [] [] (He.ma K (He.ga K c) m) fd) (X : K.In h) (G : h.Ns mainGlobals mg)
    (hb : ∀ (kV doc pm : Value) (an : Option Addr) (cdv ct : Value) (us : List Value), us.length = ps.length → bindArgs (PySem.W.fnOf m qual (defArgs st) (defBody st) (defScope st) .none kV doc pm an cdv ct) ⟨us, []⟩ = pure (ps.zip us)) : Md K mg c m qual st ps := by
  obtain ⟨c1, z⟩ := He.ba z
  obtain ⟨c2, c3⟩ := He.ba z
  obtain ⟨oc, od, dV, kV, doc, pm, an, cdv, ct, osl, rfl, lk, hcd, hD, _⟩ := F.ex
  rcases hD with ⟨_, rfl⟩ | ⟨e, _⟩
  · exact md_mk X G hb (hG_ok c1) (hF_ok c2) c3 lk hcd F.kp
  · exact absurd rfl e
theorem nfa_eo {x qual : Str} {st : Stmt} {ps : List Str} {f : Str} {fd : FuncData} (z : (NFa.eo x f).ok K = true) (F : FunD K "__init__" qual (defArgs st) (defBody st) (defScope st) [] [] (He.ma K (He.ga K x) "__init__") fd) (X : K.In h) (G : h.Ns mainGlobals mg)
    (hb : ∀ (kV doc pm : Value) (an : Option Addr) (cdv ct : Value) (us : List Value), us.length = ps.length → bindArgs (PySem.W.fnOf "__init__" qual (defArgs st) (defBody st) (defScope st) .none kV doc pm an cdv ct) ⟨us, []⟩ = pure (ps.zip us)) : Eo K mg x qual st ps f := by
  obtain ⟨c1, z⟩ := He.ba z
  obtain ⟨c2, z⟩ := He.ba z
  obtain ⟨c3, z⟩ := He.ba z
  obtain ⟨c4, z⟩ := He.ba z
  obtain ⟨c5, z⟩ := He.ba z
  obtain ⟨c6, z⟩ := He.ba z
  obtain ⟨c7, z⟩ := He.ba z
  obtain ⟨c8, c9⟩ := He.ba z
  obtain ⟨nm, q, N, bs, B, sn, sub, ab, col, dd, k0, k1, k2, k3, k5, hC⟩ := hEx_ok c2
  obtain ⟨oc, od, dV, kV, doc, pm, an, cdv, ct, osl, rfl, lk, hcd, hD, _⟩ := F.ex
  rcases hD with ⟨_, rfl⟩ | ⟨e, _⟩
  · exact eo_mk X G hb (hG_ok c1) hC (hF_ok c3) (hB_ok c4) (hT_ok c5) c6 (hF_ok c7) (hF_ok c8) (hT_ok c9) lk hcd F.kp
  · exact absurd rfl e
theorem nfa_eo2 {c : Str} (z : (NFa.eo2 c).ok K = true) (X : K.In h) (G : h.Ns mainGlobals mg) : Eo2 K mg c := by
  obtain ⟨c1, z⟩ := He.ba z
  obtain ⟨c2, z⟩ := He.ba z
  obtain ⟨c3, z⟩ := He.ba z
  obtain ⟨c4, z⟩ := He.ba z
  obtain ⟨c5, z⟩ := He.ba z
  obtain ⟨c6, c7⟩ := He.ba z
  exact eo2_mk X G (hG_ok c1) (hF_ok c2) (hB_ok c3) (hF_ok c4) (hS_ok c5) (hB_ok c6) (hB_ok c7)
theorem nfa_eo3 {c : Str} (z : (NFa.eo3 c).ok K = true) (X : K.In h) (G : h.Ns mainGlobals mg) : Eo3 K mg c := by
  obtain ⟨c1, z⟩ := He.ba z
  obtain ⟨c2, c3⟩ := He.ba z
  exact eo3_mk X G (hG_ok c1) (hT_ok c2) (hB_ok c3)
theorem nfa_sb {c d : Str} (z : (NFa.sb c d).ok K = true) (X : K.In h) (G : h.Ns mainGlobals mg) : Sb K mg c d := by
  obtain ⟨c1, z⟩ := He.ba z
  obtain ⟨c2, z⟩ := He.ba z
  obtain ⟨c3, z⟩ := He.ba z
  obtain ⟨c4, z⟩ := He.ba z
  obtain ⟨c5, z⟩ := He.ba z
  obtain ⟨c6, z⟩ := He.ba z
  obtain ⟨c7, z⟩ := He.ba z
  obtain ⟨c8, c9⟩ := He.ba z
  exact sb_mk X G (hG_ok c1) (hG_ok c2) (hF_ok c3) (hS_ok c4) (hB_ok c5) (hB_ok c6) (hB_ok c7) (hT_ok c8) (hB_ok c9)
theorem nfa_cf {c m : Str} (z : (NFa.cf c m).ok K = true) (X : K.In h) (G : h.Ns mainGlobals mg) : Cf K mg c m := by
  obtain ⟨c1, z⟩ := He.ba z
  obtain ⟨c2, z⟩ := He.ba z
  obtain ⟨c3, z⟩ := He.ba z
  obtain ⟨c4, c5⟩ := He.ba z
  refine cf_mk (mc := .type "type") (f := He.ma K (He.ga K c) m) X G (hG_ok c1) c2 (hS_ok c3) ?_ (hF_ok c5)
  split at c4
  · rename_i a e
    rw [e, of_decide_eq_true c4]
  · cases c4
theorem nfa_kc (z : NFa.kc.ok K = true) (X : K.In h) (G : h.Ns mainGlobals mg) : Kc K mg := by
  obtain ⟨c1, z⟩ := He.ba z
  obtain ⟨c2, z⟩ := He.ba z
  obtain ⟨c3, c4⟩ := He.ba z
  obtain ⟨oc, od, osl, bs, N, q, sn, sub, hd, ab, dl, col, l⟩ := hM_ok c2
  exact kc_mk X G (hG_ok c1) l (hT_ok c3) c4
theorem nfa_ec {x : Str} (z : (NFa.ec x).ok K = true) (X : K.In h) (G : h.Ns mainGlobals mg) : Ec K mg x := by
  obtain ⟨c1, z⟩ := He.ba z
  obtain ⟨c2, z⟩ := He.ba z
  obtain ⟨c3, z⟩ := He.ba z
  obtain ⟨c4, z⟩ := He.ba z
  obtain ⟨c5, z⟩ := He.ba z
  obtain ⟨c6, z⟩ := He.ba z
  obtain ⟨c7, z⟩ := He.ba z
  obtain ⟨c8, z⟩ := He.ba z
  obtain ⟨c9, c10⟩ := He.ba z
  obtain ⟨oc, od, osl, bs, N, q, sn, sub, hd, ab, dl, col, l⟩ := hM_ok c3
  exact ec_mk X G (hG_ok c1) (hG_ok c2) l (hT_ok c4) c5 (hF_ok c6) (hF_ok c7) (hF_ok c8) (hS_ok c9) (hB_ok c10)
theorem nfa_cl {x : Str} {ss : List Str} (z : (NFa.cl x ss).ok K = true) (X : K.In h) (G : h.Ns mainGlobals mg) : Cl K mg x ss := by
  obtain ⟨c1, c2⟩ := He.ba z
  have g := PySem.W.mg_of X G (hG_ok c1)
  have e := cls_of g
  have s := He.lstB_ok c2 (fun _ => none)
  refine ⟨by rw [e]; exact g, ?_⟩
  rw [e]
  rcases s with (s | ⟨_, s⟩) | ⟨o, its, n, h1, h2, h3, h4, h5, h6⟩
  · cases s
  · cases s
  · refine ⟨o, its, n, h1, h2, h3, h4, h5, ?_⟩
    rw [List.map_map] at h6
    exact h6
theorem nfa_sd {c qual : Str} {st : Stmt} {ps : List Str} {dvs : List V} {fd : FuncData} (z : (NFa.md c "__init__").ok K = true) (F : FunD K "__init__" qual (defArgs st) (defBody st) (defScope st) dvs [] (He.ma K (He.ga K c) "__init__") fd) (X : K.In h) (G : h.Ns mainGlobals mg) : Sd K mg c qual st ps dvs := by
  obtain ⟨c1, z⟩ := He.ba z
  obtain ⟨c2, c3⟩ := He.ba z
  have e := cls_of (PySem.W.mg_of X G (hG_ok c1))
  exact ⟨_, fd, F, by rw [e]; exact ⟨hF_ok c2, c3, F.kp⟩⟩
end
/-! the Hook -/
def hAs (n : Nat) : List Addr := mainGlobals :: (List.range n).reverse
def hObs (fa : List NFa) (fn : List He.DefD) (K : PySem.W.Frag) : He.AlD := ((fa.all fun f => f.ok K) && fn.all fun d => d.ok K, fn.map fun d => He.fnW K d.at_)
def hSays (fa : List NFa) (fn : List He.DefD) (K : PySem.W.Frag) : Prop := hObs fa fn K = He.valD fn
def hObsG (n : Nat) (fa : List NFa) (fn : List He.DefD) (g : Addr → Option Obj) : He.AlD := hObs fa fn (He.frG g (hAs n))
def hookN (n : Nat) (fa : List NFa) (fn : List He.DefD) : PySem.W.Hook where
  α := He.AlD
  obs := fun s => hObsG n fa fn s.heap.get?
  val := fun _ => He.valD fn
  says := fun _ h => ∃ K : PySem.W.Frag, K.In h ∧ hSays fa fn K
  of := fun _ _ e => ⟨_, He.frG_in, e⟩
  keeps := fun _ _ _ ⟨K, hK, c⟩ k => ⟨K, PySem.W.Frag.In.keeps hK k, c⟩
theorem hObsG_eq {n : Nat} {fa : List NFa} {fn : List He.DefD} {g : Addr → Option Obj} {s : Shared} (h : ∀ a, g a = s.heap.get? a) : hObsG n fa fn g = (hookN n fa fn).obs s := by
  have e : g = s.heap.get? := funext h
  rw [e] <;> rfl
theorem hSays.fact {fa : List NFa} {fn : List He.DefD} {K : PySem.W.Frag} (c : hSays fa fn K) (i : Nat) {f : NFa} (h : fa[i]? = some f := by rfl) : f.ok K = true := by
  have c1 := (He.ba (show ((fa.all fun f => f.ok K) && fn.all fun d => d.ok K) = true from congrArg (fun z : He.AlD => z.1) c)).1
  exact List.all_eq_true.mp c1 f (List.mem_of_getElem? h)
theorem hSays.def_ {fa : List NFa} {fn : List He.DefD} {K : PySem.W.Frag} (c : hSays fa fn K) (i : Nat) {d : He.DefD} (h : fn[i]? = some d := by rfl) : ∃ fd, FunD K d.name d.qual d.params d.body d.scope (d.dvs K) (d.kws K) (He.fAd K d.at_) fd := by
  have c2 := (He.ba (show ((fa.all fun f => f.ok K) && fn.all fun d => d.ok K) = true from congrArg (fun z : He.AlD => z.1) c)).2
  have e : fn.map (fun d => He.fnW K d.at_) = fn.map He.DefD.val := congrArg (fun z : He.AlD => z.2) c
  have e2 : (fn.map fun d => He.fnW K d.at_)[i]? = (fn.map He.DefD.val)[i]? := by rw [e]
  rw [List.getElem?_map, List.getElem?_map, h] at e2
  exact He.DefD.funD (Option.some.inj e2) (List.all_eq_true.mp c2 d (List.mem_of_getElem? h))
/-- the run told in two -/
theorem run_join {r : PySem.W.OpenRow} {q : Program} {H : PySem.W.Hook} {ob : PySem.W.SharedT → H.α} {M : Nat} {loose : List PySem.Str} {w : World}
    (h1 : ∀ os : OsState, (HandSHeadRun.endF (HandSHeadRun.stepQ (HandSHeadRun.denQ HandSHeadRun.tabQ) r.prog w) M r.prog w os).map (fun s => (HandSHeadRun.looksF r.prog (PySem.W.boot_heap w.params) s.abs, HandSHeadRun.seenQ q loose (importedModules r.prog.main.body) (fun s => PySem.W.xlAt q [] s && PySem.W.recOk r.toRowW.records s) s.abs)) = some (true, PySem.W.openGood q loose))
    (h2 : ∀ os : OsState, (HandSHeadRun.endF (HandSHeadRun.stepQ (HandSHeadRun.denQ HandSHeadRun.tabQ) r.prog w) M r.prog w os).map ob = some (H.val w)) : HandSHeadRun.RunEq r q H ob M loose w := by
  intro os
  obtain ⟨s, hs, e⟩ := Option.map_eq_some_iff.mp (h1 os)
  have h2 := h2 os
  rw [hs] at h2 ⊢
  have h2 : ob s = H.val w := Option.some.inj h2
  obtain ⟨e1, e2⟩ := Prod.mk.inj e
  show some (_, _, ob s) = _
  rw [e1, e2, h2]
end Nk
namespace Nk
open PySem L2
section
variable {P : Program} {w : World} {K : PySem.W.Frag} {h : Heap} {mg : Str → Option Value}
theorem nfa_eo4 {c : Str} (z : (NFa.eo4 c).ok K = true) (X : K.In h) (G : h.Ns mainGlobals mg) : Eo4 K mg c := by
  obtain ⟨c1, z⟩ := He.ba z
  obtain ⟨c2, z⟩ := He.ba z
  obtain ⟨c3, z⟩ := He.ba z
  obtain ⟨c4, c5⟩ := He.ba z
  exact eo4_mk X G (hG_ok c1) (hF_ok c2) (hB_ok c3) (hB_ok c4) (hB_ok c5)
end
end Nk
namespace Nk
open PySem L2
theorem nfa_sn {K : PySem.W.Frag} {h : Heap} {mg : Str → Option Value} {c d : Str} (z : (NFa.sn c d).ok K = true) (X : K.In h) (G : h.Ns mainGlobals mg) : Sn K mg c d := by
  obtain ⟨c1, z⟩ := He.ba z
  obtain ⟨c2, z⟩ := He.ba z
  obtain ⟨c3, z⟩ := He.ba z
  obtain ⟨c4, z⟩ := He.ba z
  obtain ⟨c5, z⟩ := He.ba z
  obtain ⟨c6, z⟩ := He.ba z
  obtain ⟨c7, z⟩ := He.ba z
  obtain ⟨c8, z⟩ := He.ba z
  obtain ⟨c9, c10⟩ := He.ba z
  exact sn_mk X G (hG_ok c1) (hG_ok c2) (hF_ok c3) (hS_ok c4) (hB_ok c5) (hB_ok c6) (hB_ok c7) (hT_ok c8) (hB_ok c9) (of_decide_eq_true c10)
end Nk
namespace Nk
open PySem L2
def top (i : Nat) : Stmt := PySem.Challenge.pw_nightkeep_k90_whole_again_and_shared.main.body.getD i (.Pass ⟨0, 0, 0, 0⟩)
abbrev s__wall : Stmt := top 0
abbrev s_Elder____init__ : Stmt := inClass (top 7) 0
abbrev s_is_number : Stmt := top 15
abbrev s_is_rounds : Stmt := top 16
abbrev s_look_night : Stmt := top 17
abbrev s_number_of : Stmt := top 18
abbrev s_first_of : Stmt := top 19
abbrev s_is_rule : Stmt := top 22
abbrev s_look_rules : Stmt := top 23
abbrev s_look_nights : Stmt := top 24
abbrev s_kept_by : Stmt := top 25
abbrev s_kept_of : Stmt := top 26
abbrev s_look_taken : Stmt := top 28
abbrev s_look_held : Stmt := top 29
abbrev s_gone_of : Stmt := top 30
abbrev s_stays_by : Stmt := top 31
abbrev s_Keep____init__ : Stmt := inClass (top 32) 0
abbrev s_Keep____len__ : Stmt := inClass (top 32) 1
abbrev s_Keep__take : Stmt := inClass (top 32) 2
abbrev s_Keep__let_go : Stmt := inClass (top 32) 3
abbrev s_Keep__pin : Stmt := inClass (top 32) 4
abbrev s_Keep__unpin : Stmt := inClass (top 32) 5
abbrev s_Keep__held : Stmt := inClass (top 32) 6
abbrev s_Keep__pins : Stmt := inClass (top 32) 7
abbrev s_Keep__stays : Stmt := inClass (top 32) 8
abbrev s_Keep__ahead : Stmt := inClass (top 32) 9
abbrev s_is_name : Stmt := top 36
abbrev s_is_state : Stmt := top 37
abbrev s_State____init__ : Stmt := inClass (top 38) 0
abbrev s_State____len__ : Stmt := inClass (top 38) 1
abbrev s_State____eq__ : Stmt := inClass (top 38) 2
abbrev s_State____str__ : Stmt := inClass (top 38) 3
abbrev s_State____repr__ : Stmt := inClass (top 38) 4
abbrev s_State__number : Stmt := inClass (top 38) 5
abbrev s_State__names : Stmt := inClass (top 38) 6
abbrev s_State__plain : Stmt := inClass (top 38) 7
abbrev s_part_of : Stmt := top 39
abbrev s_copy_of : Stmt := top 41
abbrev s_chain_of : Stmt := top 42
abbrev s_without : Stmt := top 43
abbrev s_Store____init__ : Stmt := inClass (top 44) 0
abbrev s_Store__take : Stmt := inClass (top 44) 1
abbrev s_Store__let_go : Stmt := inClass (top 44) 2
abbrev s_Store__whole : Stmt := inClass (top 44) 3
abbrev s_Store__lose : Stmt := inClass (top 44) 4
abbrev s_Store__state : Stmt := inClass (top 44) 5
abbrev s_Store__copies : Stmt := inClass (top 44) 6
abbrev s_Store__chain : Stmt := inClass (top 44) 7
abbrev s_Store__room : Stmt := inClass (top 44) 8
abbrev s_history : Stmt := top 46
abbrev s_turned : Stmt := top 47
abbrev s_nights_with : Stmt := top 48
abbrev s_falls : Stmt := top 49
abbrev s_pair_text : Stmt := top 51
abbrev s_copy_line : Stmt := top 52
abbrev s_written : Stmt := top 53
abbrev s__law_town : Stmt := top 55
abbrev s__law_draw : Stmt := top 56
abbrev s__law_pick : Stmt := top 57
abbrev s__law_name : Stmt := top 58
abbrev s__law_later : Stmt := top 59
abbrev s__law_copy : Stmt := top 60
abbrev s__law_spoil : Stmt := top 61
abbrev s__law_seen : Stmt := top 62
abbrev s_law : Stmt := top 63
/-- what the walks ask of the top as it stands when it has run -/
structure Txt (K : PySem.W.Frag) (mg : Str → Option Value) : Prop where
  d_is_number : Df K mg "is_number" "is_number" s_is_number ["thing", "least", "most"]
  d_is_rounds : Df K mg "is_rounds" "is_rounds" s_is_rounds ["thing"]
  d_look_night : Df K mg "look_night" "look_night" s_look_night ["night"]
  d_number_of : Df K mg "number_of" "number_of" s_number_of ["rounds", "night"]
  d_is_rule : Df K mg "is_rule" "is_rule" s_is_rule ["thing"]
  d_look_rules : Df K mg "look_rules" "look_rules" s_look_rules ["rules"]
  d_look_nights : Df K mg "look_nights" "look_nights" s_look_nights ["nights"]
  d_kept_by : Df K mg "kept_by" "kept_by" s_kept_by ["rule", "nights"]
  d_kept_of : Df K mg "kept_of" "kept_of" s_kept_of ["rules", "nights"]
  d_look_taken : Df K mg "look_taken" "look_taken" s_look_taken ["keep", "night"]
  d_look_held : Df K mg "look_held" "look_held" s_look_held ["keep", "night"]
  d_gone_of : Df K mg "gone_of" "gone_of" s_gone_of ["keep"]
  d_is_name : Df K mg "is_name" "is_name" s_is_name ["thing"]
  d_is_state : Df K mg "is_state" "is_state" s_is_state ["thing"]
  d_part_of : Df K mg "part_of" "part_of" s_part_of ["one", "other"]
  d_copy_of : Df K mg "copy_of" "copy_of" s_copy_of ["store", "night"]
  d_chain_of : Df K mg "chain_of" "chain_of" s_chain_of ["store", "night"]
  d_without : Df K mg "without" "without" s_without ["store", "gone"]
  d_history : Df K mg "history" "history" s_history ["store", "name"]
  d_turned : Df K mg "turned" "turned" s_turned ["store", "one", "other"]
  d_nights_with : Df K mg "nights_with" "nights_with" s_nights_with ["store", "name", "number"]
  d_falls : Df K mg "falls" "falls" s_falls ["store", "night"]
  d_pair_text : Df K mg "pair_text" "pair_text" s_pair_text ["name", "number"]
  d_copy_line : Df K mg "copy_line" "copy_line" s_copy_line ["store", "night", "ahead"]
  d_written : Df K mg "written" "written" s_written ["store"]
  d__law_town : Df K mg "_law_town" "_law_town" s__law_town ["script"]
  d__law_draw : Df K mg "_law_draw" "_law_draw" s__law_draw ["script", "town", "many"]
  d__law_pick : Df K mg "_law_pick" "_law_pick" s__law_pick ["script", "town", "some"]
  d__law_name : Df K mg "_law_name" "_law_name" s__law_name ["script", "town", "names"]
  d__law_later : Df K mg "_law_later" "_law_later" s__law_later ["script", "town", "table"]
  d__law_copy : Df K mg "_law_copy" "_law_copy" s__law_copy ["thing"]
  d__law_spoil : Df K mg "_law_spoil" "_law_spoil" s__law_spoil ["thing"]
  d__law_seen : Df K mg "_law_seen" "_law_seen" s__law_seen ["keep"]
  d_law : Df K mg "law" "law" s_law ["script"]
  x_BadNight : Xc K mg "BadNight" (cls mg "BadNight")
  x_BadNumber : Xc K mg "BadNumber" (cls mg "BadNumber")
  x_BadRules : Xc K mg "BadRules" (cls mg "BadRules")
  x_BadNights : Xc K mg "BadNights" (cls mg "BadNights")
  x_Full : Xc K mg "Full" (cls mg "Full")
  x_NotHeld : Xc K mg "NotHeld" (cls mg "NotHeld")
  x_Pinned : Xc K mg "Pinned" (cls mg "Pinned")
  x_IsWhole : Xc K mg "IsWhole" (cls mg "IsWhole")
  y_Elder : Eo K mg "Elder" "Elder.__init__" s_Elder____init__ ["self", "last"] "last"
  o_Keep : Oc K mg "Keep"
  m_Keep____init__ : Md K mg "Keep" "__init__" "Keep.__init__" s_Keep____init__ ["self", "rules"]
  m_Keep____len__ : Md K mg "Keep" "__len__" "Keep.__len__" s_Keep____len__ ["self"]
  m_Keep__take : Md K mg "Keep" "take" "Keep.take" s_Keep__take ["self", "night"]
  m_Keep__let_go : Md K mg "Keep" "let_go" "Keep.let_go" s_Keep__let_go ["self"]
  m_Keep__pin : Md K mg "Keep" "pin" "Keep.pin" s_Keep__pin ["self", "night"]
  m_Keep__held : Md K mg "Keep" "held" "Keep.held" s_Keep__held ["self"]
  m_Keep__pins : Md K mg "Keep" "pins" "Keep.pins" s_Keep__pins ["self"]
  m_Keep__ahead : Md K mg "Keep" "ahead" "Keep.ahead" s_Keep__ahead ["self", "nights"]
  n_Keep__last : NoAttr K (cls mg "Keep") "last"
  n_Keep__nights : NoAttr K (cls mg "Keep") "nights"
  n_Keep__pinned : NoAttr K (cls mg "Keep") "pinned"
  n_Keep__rules : NoAttr K (cls mg "Keep") "rules"
  o_State : Oc K mg "State"
  m_State____init__ : Md K mg "State" "__init__" "State.__init__" s_State____init__ ["self", "some"]
  m_State____len__ : Md K mg "State" "__len__" "State.__len__" s_State____len__ ["self"]
  m_State____eq__ : Md K mg "State" "__eq__" "State.__eq__" s_State____eq__ ["self", "other"]
  m_State__number : Md K mg "State" "number" "State.number" s_State__number ["self", "name"]
  m_State__names : Md K mg "State" "names" "State.names" s_State__names ["self"]
  v_State : Eo2 K mg "State"
  t_State : Eo4 K mg "State"
  n_State__table : NoAttr K (cls mg "State") "table"
  o_Store : Oc K mg "Store"
  m_Store__take : Md K mg "Store" "take" "Store.take" s_Store__take ["self", "night", "state"]
  m_Store__let_go : Md K mg "Store" "let_go" "Store.let_go" s_Store__let_go ["self"]
  m_Store__state : Md K mg "Store" "state" "Store.state" s_Store__state ["self", "night"]
  m_Store__copies : Md K mg "Store" "copies" "Store.copies" s_Store__copies ["self"]
  m_Store__chain : Md K mg "Store" "chain" "Store.chain" s_Store__chain ["self", "night"]
  m_Store__room : Md K mg "Store" "room" "Store.room" s_Store__room ["self"]
  m_Store____len__ : Md K mg "Store" "__len__" "Keep.__len__" s_Keep____len__ ["self"]
  m_Store__pin : Md K mg "Store" "pin" "Keep.pin" s_Keep__pin ["self", "night"]
  m_Store__held : Md K mg "Store" "held" "Keep.held" s_Keep__held ["self"]
  m_Store__pins : Md K mg "Store" "pins" "Keep.pins" s_Keep__pins ["self"]
  m_Store__ahead : Md K mg "Store" "ahead" "Keep.ahead" s_Keep__ahead ["self", "nights"]
  n_Store__last : NoAttr K (cls mg "Store") "last"
  n_Store__longest : NoAttr K (cls mg "Store") "longest"
  n_Store__nights : NoAttr K (cls mg "Store") "nights"
  n_Store__pinned : NoAttr K (cls mg "Store") "pinned"
  n_Store__rules : NoAttr K (cls mg "Store") "rules"
  n_Store__shelf : NoAttr K (cls mg "Store") "shelf"
  n_Store__wholes : NoAttr K (cls mg "Store") "wholes"
  g_Store_Store : Sb K mg "Store" "Store"
  h_Keep_Store : Sn K mg "Keep" "Store"
  q_Keep____init__ : Cf K mg "Keep" "__init__"
  i_Store : Sd K mg "Store" "Store.__init__" s_Store____init__ ["self", "rules", "longest"] [.int 4]
  c_MOST_NIGHT : ∃ t, mg "MOST_NIGHT" = some (.int 1000000000 t)
  c_MOST_HELD : ∃ t, mg "MOST_HELD" = some (.int 100 t)
  c_LETTERS : ∃ t, mg "LETTERS" = some (.str "abcdefghijklmnopqrstuvwxyz" t)
  c_MOST_NAMES : ∃ t, mg "MOST_NAMES" = some (.int 20 t)
  b_all : mg "all" = none
  b_bool : mg "bool" = none
  b_dict : mg "dict" = none
  b_int : mg "int" = none
  b_isinstance : mg "isinstance" = none
  b_len : mg "len" = none
  b_list : mg "list" = none
  b_max : mg "max" = none
  b_range : mg "range" = none
  b_reversed : mg "reversed" = none
  b_set : mg "set" = none
  b_sorted : mg "sorted" = none
  b_str : mg "str" = none
  b_sum : mg "sum" = none
  b_tuple : mg "tuple" = none
  b_zip : mg "zip" = none
end Nk
namespace Nk
open PySem L2 PySem.Spec PyProof.Rows
def hD_g_is_number : He.DefD := ⟨("is_number", none), "is_number", "is_number", defArgs s_is_number, defBody s_is_number, defScope s_is_number, [], []⟩
def hD_g_is_rounds : He.DefD := ⟨("is_rounds", none), "is_rounds", "is_rounds", defArgs s_is_rounds, defBody s_is_rounds, defScope s_is_rounds, [], []⟩
def hD_g_look_night : He.DefD := ⟨("look_night", none), "look_night", "look_night", defArgs s_look_night, defBody s_look_night, defScope s_look_night, [], []⟩
def hD_g_number_of : He.DefD := ⟨("number_of", none), "number_of", "number_of", defArgs s_number_of, defBody s_number_of, defScope s_number_of, [], []⟩
def hD_g_is_rule : He.DefD := ⟨("is_rule", none), "is_rule", "is_rule", defArgs s_is_rule, defBody s_is_rule, defScope s_is_rule, [], []⟩
def hD_g_look_rules : He.DefD := ⟨("look_rules", none), "look_rules", "look_rules", defArgs s_look_rules, defBody s_look_rules, defScope s_look_rules, [], []⟩
def hD_g_look_nights : He.DefD := ⟨("look_nights", none), "look_nights", "look_nights", defArgs s_look_nights, defBody s_look_nights, defScope s_look_nights, [], []⟩
def hD_g_kept_by : He.DefD := ⟨("kept_by", none), "kept_by", "kept_by", defArgs s_kept_by, defBody s_kept_by, defScope s_kept_by, [], []⟩
def hD_g_kept_of : He.DefD := ⟨("kept_of", none), "kept_of", "kept_of", defArgs s_kept_of, defBody s_kept_of, defScope s_kept_of, [], []⟩
def hD_g_look_taken : He.DefD := ⟨("look_taken", none), "look_taken", "look_taken", defArgs s_look_taken, defBody s_look_taken, defScope s_look_taken, [], []⟩
def hD_g_look_held : He.DefD := ⟨("look_held", none), "look_held", "look_held", defArgs s_look_held, defBody s_look_held, defScope s_look_held, [], []⟩
def hD_g_gone_of : He.DefD := ⟨("gone_of", none), "gone_of", "gone_of", defArgs s_gone_of, defBody s_gone_of, defScope s_gone_of, [], []⟩
def hD_g_is_name : He.DefD := ⟨("is_name", none), "is_name", "is_name", defArgs s_is_name, defBody s_is_name, defScope s_is_name, [], []⟩
def hD_g_is_state : He.DefD := ⟨("is_state", none), "is_state", "is_state", defArgs s_is_state, defBody s_is_state, defScope s_is_state, [], []⟩
def hD_g_part_of : He.DefD := ⟨("part_of", none), "part_of", "part_of", defArgs s_part_of, defBody s_part_of, defScope s_part_of, [], []⟩
def hD_g_copy_of : He.DefD := ⟨("copy_of", none), "copy_of", "copy_of", defArgs s_copy_of, defBody s_copy_of, defScope s_copy_of, [], []⟩
def hD_g_chain_of : He.DefD := ⟨("chain_of", none), "chain_of", "chain_of", defArgs s_chain_of, defBody s_chain_of, defScope s_chain_of, [], []⟩
def hD_g_without : He.DefD := ⟨("without", none), "without", "without", defArgs s_without, defBody s_without, defScope s_without, [], []⟩
def hD_g_history : He.DefD := ⟨("history", none), "history", "history", defArgs s_history, defBody s_history, defScope s_history, [], []⟩
def hD_g_turned : He.DefD := ⟨("turned", none), "turned", "turned", defArgs s_turned, defBody s_turned, defScope s_turned, [], []⟩
def hD_g_nights_with : He.DefD := ⟨("nights_with", none), "nights_with", "nights_with", defArgs s_nights_with, defBody s_nights_with, defScope s_nights_with, [], []⟩
def hD_g_falls : He.DefD := ⟨("falls", none), "falls", "falls", defArgs s_falls, defBody s_falls, defScope s_falls, [], []⟩
def hD_g_pair_text : He.DefD := ⟨("pair_text", none), "pair_text", "pair_text", defArgs s_pair_text, defBody s_pair_text, defScope s_pair_text, [], []⟩
def hD_g_copy_line : He.DefD := ⟨("copy_line", none), "copy_line", "copy_line", defArgs s_copy_line, defBody s_copy_line, defScope s_copy_line, [], []⟩
def hD_g_written : He.DefD := ⟨("written", none), "written", "written", defArgs s_written, defBody s_written, defScope s_written, [], []⟩
def hD_g__law_town : He.DefD := ⟨("_law_town", none), "_law_town", "_law_town", defArgs s__law_town, defBody s__law_town, defScope s__law_town, [], []⟩
def hD_g__law_draw : He.DefD := ⟨("_law_draw", none), "_law_draw", "_law_draw", defArgs s__law_draw, defBody s__law_draw, defScope s__law_draw, [], []⟩
def hD_g__law_pick : He.DefD := ⟨("_law_pick", none), "_law_pick", "_law_pick", defArgs s__law_pick, defBody s__law_pick, defScope s__law_pick, [], []⟩
def hD_g__law_name : He.DefD := ⟨("_law_name", none), "_law_name", "_law_name", defArgs s__law_name, defBody s__law_name, defScope s__law_name, [], []⟩
def hD_g__law_later : He.DefD := ⟨("_law_later", none), "_law_later", "_law_later", defArgs s__law_later, defBody s__law_later, defScope s__law_later, [], []⟩
def hD_g__law_copy : He.DefD := ⟨("_law_copy", none), "_law_copy", "_law_copy", defArgs s__law_copy, defBody s__law_copy, defScope s__law_copy, [], []⟩
def hD_g__law_spoil : He.DefD := ⟨("_law_spoil", none), "_law_spoil", "_law_spoil", defArgs s__law_spoil, defBody s__law_spoil, defScope s__law_spoil, [], []⟩
def hD_g__law_seen : He.DefD := ⟨("_law_seen", none), "_law_seen", "_law_seen", defArgs s__law_seen, defBody s__law_seen, defScope s__law_seen, [], []⟩
def hD_g_law : He.DefD := ⟨("law", none), "law", "law", defArgs s_law, defBody s_law, defScope s_law, [], []⟩
def hD_m_Elder____init__ : He.DefD := ⟨("Elder", some "__init__"), "__init__", "Elder.__init__", defArgs s_Elder____init__, defBody s_Elder____init__, defScope s_Elder____init__, [], []⟩
def hD_m_Keep____init__ : He.DefD := ⟨("Keep", some "__init__"), "__init__", "Keep.__init__", defArgs s_Keep____init__, defBody s_Keep____init__, defScope s_Keep____init__, [], []⟩
def hD_m_Keep____len__ : He.DefD := ⟨("Keep", some "__len__"), "__len__", "Keep.__len__", defArgs s_Keep____len__, defBody s_Keep____len__, defScope s_Keep____len__, [], []⟩
def hD_m_Keep__take : He.DefD := ⟨("Keep", some "take"), "take", "Keep.take", defArgs s_Keep__take, defBody s_Keep__take, defScope s_Keep__take, [], []⟩
def hD_m_Keep__let_go : He.DefD := ⟨("Keep", some "let_go"), "let_go", "Keep.let_go", defArgs s_Keep__let_go, defBody s_Keep__let_go, defScope s_Keep__let_go, [], []⟩
def hD_m_Keep__pin : He.DefD := ⟨("Keep", some "pin"), "pin", "Keep.pin", defArgs s_Keep__pin, defBody s_Keep__pin, defScope s_Keep__pin, [], []⟩
def hD_m_Keep__held : He.DefD := ⟨("Keep", some "held"), "held", "Keep.held", defArgs s_Keep__held, defBody s_Keep__held, defScope s_Keep__held, [], []⟩
def hD_m_Keep__pins : He.DefD := ⟨("Keep", some "pins"), "pins", "Keep.pins", defArgs s_Keep__pins, defBody s_Keep__pins, defScope s_Keep__pins, [], []⟩
def hD_m_Keep__ahead : He.DefD := ⟨("Keep", some "ahead"), "ahead", "Keep.ahead", defArgs s_Keep__ahead, defBody s_Keep__ahead, defScope s_Keep__ahead, [], []⟩
def hD_m_State____init__ : He.DefD := ⟨("State", some "__init__"), "__init__", "State.__init__", defArgs s_State____init__, defBody s_State____init__, defScope s_State____init__, [], []⟩
def hD_m_State____len__ : He.DefD := ⟨("State", some "__len__"), "__len__", "State.__len__", defArgs s_State____len__, defBody s_State____len__, defScope s_State____len__, [], []⟩
def hD_m_State____eq__ : He.DefD := ⟨("State", some "__eq__"), "__eq__", "State.__eq__", defArgs s_State____eq__, defBody s_State____eq__, defScope s_State____eq__, [], []⟩
def hD_m_State__number : He.DefD := ⟨("State", some "number"), "number", "State.number", defArgs s_State__number, defBody s_State__number, defScope s_State__number, [], []⟩
def hD_m_State__names : He.DefD := ⟨("State", some "names"), "names", "State.names", defArgs s_State__names, defBody s_State__names, defScope s_State__names, [], []⟩
def hD_m_Store__take : He.DefD := ⟨("Store", some "take"), "take", "Store.take", defArgs s_Store__take, defBody s_Store__take, defScope s_Store__take, [], []⟩
def hD_m_Store__let_go : He.DefD := ⟨("Store", some "let_go"), "let_go", "Store.let_go", defArgs s_Store__let_go, defBody s_Store__let_go, defScope s_Store__let_go, [], []⟩
def hD_m_Store__state : He.DefD := ⟨("Store", some "state"), "state", "Store.state", defArgs s_Store__state, defBody s_Store__state, defScope s_Store__state, [], []⟩
def hD_m_Store__copies : He.DefD := ⟨("Store", some "copies"), "copies", "Store.copies", defArgs s_Store__copies, defBody s_Store__copies, defScope s_Store__copies, [], []⟩
def hD_m_Store__chain : He.DefD := ⟨("Store", some "chain"), "chain", "Store.chain", defArgs s_Store__chain, defBody s_Store__chain, defScope s_Store__chain, [], []⟩
def hD_m_Store__room : He.DefD := ⟨("Store", some "room"), "room", "Store.room", defArgs s_Store__room, defBody s_Store__room, defScope s_Store__room, [], []⟩
def hD_m_Store____len__ : He.DefD := ⟨("Store", some "__len__"), "__len__", "Keep.__len__", defArgs s_Keep____len__, defBody s_Keep____len__, defScope s_Keep____len__, [], []⟩
def hD_m_Store__pin : He.DefD := ⟨("Store", some "pin"), "pin", "Keep.pin", defArgs s_Keep__pin, defBody s_Keep__pin, defScope s_Keep__pin, [], []⟩
def hD_m_Store__held : He.DefD := ⟨("Store", some "held"), "held", "Keep.held", defArgs s_Keep__held, defBody s_Keep__held, defScope s_Keep__held, [], []⟩
def hD_m_Store__pins : He.DefD := ⟨("Store", some "pins"), "pins", "Keep.pins", defArgs s_Keep__pins, defBody s_Keep__pins, defScope s_Keep__pins, [], []⟩
def hD_m_Store__ahead : He.DefD := ⟨("Store", some "ahead"), "ahead", "Keep.ahead", defArgs s_Keep__ahead, defBody s_Keep__ahead, defScope s_Keep__ahead, [], []⟩
def hD_m_Store____init__ : He.DefD := ⟨("Store", some "__init__"), "__init__", "Store.__init__", defArgs s_Store____init__, defBody s_Store____init__, defScope s_Store____init__, [.int 4], []⟩
def hFn0 : List He.DefD := [hD_g_is_number, hD_g_is_rounds, hD_g_look_night, hD_g_number_of, hD_g_is_rule, hD_g_look_rules, hD_g_look_nights, hD_g_kept_by, hD_g_kept_of, hD_g_look_taken, hD_g_look_held, hD_g_gone_of, hD_g_is_name, hD_g_is_state, hD_g_part_of, hD_g_copy_of, hD_g_chain_of, hD_g_without, hD_g_history, hD_g_turned, hD_g_nights_with, hD_g_falls, hD_g_pair_text, hD_g_copy_line, hD_g_written, hD_g__law_town, hD_g__law_draw, hD_g__law_pick, hD_g__law_name, hD_g__law_later]
def hFn1 : List He.DefD := [hD_g__law_copy, hD_g__law_spoil, hD_g__law_seen, hD_g_law, hD_m_Elder____init__, hD_m_Keep____init__, hD_m_Keep____len__, hD_m_Keep__take, hD_m_Keep__let_go, hD_m_Keep__pin, hD_m_Keep__held, hD_m_Keep__pins, hD_m_Keep__ahead, hD_m_State____init__, hD_m_State____len__, hD_m_State____eq__, hD_m_State__number, hD_m_State__names, hD_m_Store__take, hD_m_Store__let_go, hD_m_Store__state, hD_m_Store__copies, hD_m_Store__chain, hD_m_Store__room, hD_m_Store____len__, hD_m_Store__pin, hD_m_Store__held, hD_m_Store__pins, hD_m_Store__ahead, hD_m_Store____init__]
def hFn : List He.DefD := hFn0 ++ (hFn1)
def hFa0 : List NFa := [.glo "is_number", .glo "is_rounds", .glo "look_night", .glo "number_of", .glo "is_rule", .glo "look_rules", .glo "look_nights", .glo "kept_by", .glo "kept_of", .glo "look_taken", .glo "look_held", .glo "gone_of", .glo "is_name", .glo "is_state", .glo "part_of", .glo "copy_of", .glo "chain_of", .glo "without", .glo "history", .glo "turned", .glo "nights_with", .glo "falls", .glo "pair_text", .glo "copy_line", .glo "written", .glo "_law_town", .glo "_law_draw", .glo "_law_pick", .glo "_law_name", .glo "_law_later"]
def hFa1 : List NFa := [.glo "_law_copy", .glo "_law_spoil", .glo "_law_seen", .glo "law", .xc "BadNight", .xc "BadNumber", .xc "BadRules", .xc "BadNights", .xc "Full", .xc "NotHeld", .xc "Pinned", .xc "IsWhole", .eo "Elder" "last", .oc "Keep", .md "Keep" "__init__", .md "Keep" "__len__", .md "Keep" "take", .md "Keep" "let_go", .md "Keep" "pin", .md "Keep" "held", .md "Keep" "pins", .md "Keep" "ahead", .na "Keep" "last", .na "Keep" "nights", .na "Keep" "pinned", .na "Keep" "rules", .oc "State", .md "State" "__init__", .md "State" "__len__", .md "State" "__eq__"]
def hFa2 : List NFa := [.md "State" "number", .md "State" "names", .eo2 "State", .eo4 "State", .na "State" "table", .oc "Store", .md "Store" "take", .md "Store" "let_go", .md "Store" "state", .md "Store" "copies", .md "Store" "chain", .md "Store" "room", .md "Store" "__len__", .md "Store" "pin", .md "Store" "held", .md "Store" "pins", .md "Store" "ahead", .na "Store" "last", .na "Store" "longest", .na "Store" "nights", .na "Store" "pinned", .na "Store" "rules", .na "Store" "shelf", .na "Store" "wholes", .sb "Store" "Store", .sn "Keep" "Store", .cf "Keep" "__init__", .md "Store" "__init__", .ci "MOST_NIGHT" 1000000000, .ci "MOST_HELD" 100]
def hFa3 : List NFa := [.cs "LETTERS" "abcdefghijklmnopqrstuvwxyz", .ci "MOST_NAMES" 20, .free "all", .free "bool", .free "dict", .free "int", .free "isinstance", .free "len", .free "list", .free "max", .free "range", .free "reversed", .free "set", .free "sorted", .free "str", .free "sum", .free "tuple", .free "zip"]
def hFa : List NFa := hFa0 ++ (hFa1 ++ (hFa2 ++ (hFa3)))
def hNm0 : List PySem.Str := ["_wall", "KeepError", "BadNight", "BadNumber", "BadRules", "BadNights", "Elder", "Full", "NotHeld", "Pinned", "BadState", "IsWhole", "MOST_NIGHT", "is_number", "is_rounds", "look_night", "number_of", "first_of", "MOST_HELD", "is_rule", "look_rules", "look_nights", "kept_by", "kept_of", "look_taken", "look_held", "gone_of", "stays_by", "Keep", "LETTERS"]
def hNm1 : List PySem.Str := ["MOST_NAMES", "is_name", "is_state", "State", "part_of", "copy_of", "chain_of", "without", "Store", "history", "turned", "nights_with", "falls", "pair_text", "copy_line", "written", "_law_town", "_law_draw", "_law_pick", "_law_name", "_law_later", "_law_copy", "_law_spoil", "_law_seen"]
def hNm : List PySem.Str := hNm0 ++ (hNm1)
abbrev hHk : PySem.W.Hook := hookN 1600 hFa hFn
def hOb (s : PySem.W.SharedT) : He.AlD := hObsG 1600 hFa hFn (HandSHeadRun.getT s)
theorem hOb_eq (s : PySem.W.SharedT) : hOb s = hHk.obs s.abs := hObsG_eq (HandSHeadRun.getT_eq s)
set_option maxHeartbeats 0 in
theorem hRun1 (w : World) (os : OsState) : (HandSHeadRun.endF (HandSHeadRun.stepQ (HandSHeadRun.denQ HandSHeadRun.tabQ) (PySem.W.OpenLaw.row PySem.Challenge.rw_nightkeep_k90_whole_again_and_shared).prog w) 14000 (PySem.W.OpenLaw.row PySem.Challenge.rw_nightkeep_k90_whole_again_and_shared).prog w os).map (fun s => (HandSHeadRun.looksF (PySem.W.OpenLaw.row PySem.Challenge.rw_nightkeep_k90_whole_again_and_shared).prog (PySem.W.boot_heap w.params) s.abs, HandSHeadRun.seenQ (PySem.W.view (PySem.W.OpenLaw.row PySem.Challenge.rw_nightkeep_k90_whole_again_and_shared).prog [63]) hNm (importedModules (PySem.W.OpenLaw.row PySem.Challenge.rw_nightkeep_k90_whole_again_and_shared).prog.main.body) (fun s => PySem.W.xlAt (PySem.W.view (PySem.W.OpenLaw.row PySem.Challenge.rw_nightkeep_k90_whole_again_and_shared).prog [63]) [] s && PySem.W.recOk (PySem.W.OpenLaw.row PySem.Challenge.rw_nightkeep_k90_whole_again_and_shared).toRowW.records s) s.abs)) = some (true, PySem.W.openGood (PySem.W.view (PySem.W.OpenLaw.row PySem.Challenge.rw_nightkeep_k90_whole_again_and_shared).prog [63]) hNm) := by
  kernel_rfl
set_option maxHeartbeats 0 in
theorem hRun2 (w : World) (os : OsState) : (HandSHeadRun.endF (HandSHeadRun.stepQ (HandSHeadRun.denQ HandSHeadRun.tabQ) (PySem.W.OpenLaw.row PySem.Challenge.rw_nightkeep_k90_whole_again_and_shared).prog w) 14000 (PySem.W.OpenLaw.row PySem.Challenge.rw_nightkeep_k90_whole_again_and_shared).prog w os).map hOb = some (hHk.val w) := by
  kernel_rfl
theorem hRunQ (w : World) : HandSHeadRun.RunEq (PySem.W.OpenLaw.row PySem.Challenge.rw_nightkeep_k90_whole_again_and_shared) (PySem.W.view (PySem.W.OpenLaw.row PySem.Challenge.rw_nightkeep_k90_whole_again_and_shared).prog [63]) hHk hOb 14000 hNm w := run_join (hRun1 w) (hRun2 w)
end Nk
local macro_rules | `(tactic| walk_at "rd") => `(tactic| (try simp only [L2.tRet, L2.tAndV, L2.tOrV, L2.tNotV, L2.tCB, L2.tCons, L2.tNil, L2.tVar, L2.tC, L2.tChain, L2.tOp, L2.tUn, L2.rI, L2.rI0, L2.rU, L2.rEq, L2.rNe, L2.scal, L2.tTest, L2.tB, L2.tAnd, L2.tOr, L2.tNot, L2.tIf, L2.tIfS, L2.tSeq, L2.tNext, L2.tAsg, L2.gName, Nk.gCons_cons, Nk.gNil_nil, L2.gSub, L2.tDrop, L2.tRetN, L2.tCall, L2.tCallS, L2.tIsN, L2.tNotN, L2.tSl, L2.tPart, L2.tNoPart, L2.tPar, L2.tAug, L2.tBreak, L2.tCont, L2.tDisp, L2.tPairs, L2.tLstRg, L2.tRg1, L2.tRg2, Nk.rLenQ, Nk.rListQ, Nk.rTupleQ, L2.sDPut, L2.tBM, L2.tBM0, L2.tTup, L2.tLst, Nk.szN, Nat.reduceLeDiff, L2.tYes, L2.wipe, L2.start, L2.cxOf, List.map_cons, List.map_nil, List.cons_append, List.nil_append, List.append_nil, List.length_cons, List.length_nil, List.replicate, Nat.sub_self, Nat.zero_add, Nat.reduceAdd, Nat.reduceSub, List.set_cons_zero, List.set_cons_succ, List.getElem?_cons_zero, List.getElem?_cons_succ, Option.some.injEq, exists_and_left, exists_eq_left', exists_eq_left, L2.V.int.injEq, L2.V.bl.injEq, L2.V.str.injEq, L2.V.ref.injEq, true_and, and_true, decide_eq_true_eq, Bool.not_true, Bool.not_false, if_true, if_false, Bool.false_eq_true, reduceIte, List.cons.injEq, reduceCtorEq, decide_true, decide_false, decide_eq_false_iff_not, Bool.not_eq_true', Bool.not_not]))
local macro_rules | `(tactic| walk_at "rs") => `(tactic| (try simp only [L2.tRet, L2.tAndV, L2.tOrV, L2.tNotV, L2.tCB, L2.tCons, L2.tNil, L2.tVar, L2.tC, L2.tChain, L2.tOp, L2.tUn, L2.rI, L2.rI0, L2.rU, L2.rEq, L2.rNe, Nk.scal_ii, Nk.scal_ss, Nk.scal_bb, Nk.scal_nn, Nk.scal_ni, Nk.scal_in, Nk.scal_ns, Nk.scal_sn, Nk.scal_is, Nk.scal_si, L2.tTest, L2.tB, L2.tAnd, L2.tOr, L2.tNot, L2.tIf, L2.tIfS, L2.tNext, L2.tAsg, L2.gName, Nk.gCons_cons, Nk.gNil_nil, L2.gSub, L2.tDrop, L2.tRetN, L2.tCall, L2.tCallS, L2.tIsN, L2.tNotN, L2.tSl, L2.tPart, L2.tNoPart, L2.tPar, L2.tAug, L2.tBreak, L2.tCont, L2.tDisp, L2.tPairs, L2.tLstRg, L2.tRg1, L2.tRg2, Nk.rLenQ, Nk.rListQ, Nk.rTupleQ, L2.sDPut, L2.tBM, L2.tBM0, L2.tTup, L2.tLst, Nk.szN, Nat.reduceLeDiff, L2.tYes, L2.wipe, L2.start, L2.cxOf, List.map_cons, List.map_nil, List.cons_append, List.nil_append, List.append_nil, List.length_cons, List.length_nil, List.replicate, Nat.sub_self, Nat.zero_add, Nat.reduceAdd, Nat.reduceSub, List.set_cons_zero, List.set_cons_succ, List.getElem?_cons_zero, List.getElem?_cons_succ, Option.some.injEq, exists_and_left, exists_eq_left', exists_eq_left, L2.V.int.injEq, L2.V.bl.injEq, L2.V.str.injEq, L2.V.ref.injEq, true_and, and_true, decide_eq_true_eq, Bool.not_true, Bool.not_false, if_true, if_false, Bool.false_eq_true, reduceIte, List.cons.injEq, reduceCtorEq, decide_true, decide_false, decide_eq_false_iff_not, Bool.not_eq_true', Bool.not_not]))
local macro_rules | `(tactic| walk_at "rt") => `(tactic| (try simp only [L2.tRet, L2.tFld, L2.sFld, L2.tMeth, L2.tMake, L2.tMkO, L2.tAndV, L2.tOrV, L2.tNotV, L2.tCB, L2.tCons, L2.tNil, L2.tVar, L2.tC, L2.tChain, L2.tOp, L2.tUn, L2.rI, L2.rI0, L2.rU, L2.rEq, L2.rNe, Nk.scal_ii, Nk.scal_ss, Nk.scal_bb, Nk.scal_nn, Nk.scal_ni, Nk.scal_in, Nk.scal_ns, Nk.scal_sn, Nk.scal_is, Nk.scal_si, L2.tTest, L2.tB, L2.tAnd, L2.tOr, L2.tNot, L2.tIf, L2.tIfS, L2.tNext, L2.tAsg, L2.gName, Nk.gCons_cons, Nk.gNil_nil, L2.gSub, L2.tDrop, L2.tRetN, L2.tCall, L2.tCallS, L2.tIsN, L2.tNotN, L2.tSl, L2.tPart, L2.tNoPart, L2.tPar, L2.tAug, L2.tBreak, L2.tCont, and_assoc, Nk.tFor_k, Nk.tLc_k, L2.iRng1, L2.iRng2, L2.iList, L2.iTup, L2.iRev, L2.iEnum, L2.iZip, L2.tDisp, L2.tPairs, L2.tLstRg, L2.tRg1, L2.tRg2, Nk.rLenQ, Nk.rListQ, Nk.rTupleQ, L2.sDPut, L2.tBM, L2.tBM0, L2.tTup, L2.tLst, Nk.szN, Nat.reduceLeDiff, L2.tYes, L2.wipe, L2.start, L2.cxOf, List.map_cons, List.map_nil, List.cons_append, List.nil_append, List.append_nil, List.length_cons, List.length_nil, List.replicate, Nat.sub_self, Nat.zero_add, Nat.reduceAdd, Nat.reduceSub, List.set_cons_zero, List.set_cons_succ, List.getElem?_cons_zero, List.getElem?_cons_succ, Option.some.injEq, exists_and_left, exists_eq_left', exists_eq_left, L2.V.int.injEq, L2.V.bl.injEq, L2.V.str.injEq, L2.V.ref.injEq, true_and, and_true, decide_eq_true_eq, Bool.not_true, Bool.not_false, if_true, if_false, Bool.false_eq_true, reduceIte, List.cons.injEq, reduceCtorEq, decide_true, decide_false, decide_eq_false_iff_not, Bool.not_eq_true', Bool.not_not]))
local macro_rules | `(tactic| walk_at "ru") => `(tactic| (try simp only [L2.kV, L2.tRevL, L2.tDGet, L2.tDIn, L2.tDNotIn, L2.tDGet1, L2.tDGet2, L2.tDPop1, L2.iKeysM, L2.iKeys, L2.iStr, L2.tRet, L2.tFld, L2.sFld, L2.tMeth, L2.tMake, L2.tMkO, L2.tAndV, L2.tOrV, L2.tNotV, L2.tCB, L2.tCons, L2.tNil, L2.tVar, L2.tC, L2.tChain, L2.tOp, L2.tUn, L2.rI, L2.rI0, L2.rU, L2.rEq, L2.rNe, Nk.scal_ii, Nk.scal_ss, Nk.scal_bb, Nk.scal_nn, Nk.scal_ni, Nk.scal_in, Nk.scal_ns, Nk.scal_sn, Nk.scal_is, Nk.scal_si, L2.tTest, L2.tB, L2.tAnd, L2.tOr, L2.tNot, L2.tIf, L2.tIfS, L2.tNext, L2.tAsg, L2.gName, Nk.gCons_cons, Nk.gNil_nil, L2.gSub, L2.tDrop, L2.tRetN, L2.tCall, L2.tCallS, L2.tIsN, L2.tNotN, L2.tSl, L2.tPart, L2.tNoPart, L2.tPar, L2.tAug, L2.tBreak, L2.tCont, and_assoc, Nk.tFor_k, Nk.tLc_k, L2.iRng1, L2.iRng2, L2.iList, L2.iTup, L2.iRev, L2.iEnum, L2.iZip, L2.tDisp, L2.tPairs, L2.tLstRg, L2.tRg1, L2.tRg2, Nk.rLenQ, Nk.rListQ, Nk.rTupleQ, L2.sDPut, L2.tBM, L2.tBM0, L2.tTup, L2.tLst, Nk.szN, Nat.reduceLeDiff, L2.tYes, L2.wipe, L2.start, L2.cxOf, List.map_cons, List.map_nil, List.cons_append, List.nil_append, List.append_nil, List.length_cons, List.length_nil, List.replicate, Nat.sub_self, Nat.zero_add, Nat.reduceAdd, Nat.reduceSub, List.set_cons_zero, List.set_cons_succ, List.getElem?_cons_zero, List.getElem?_cons_succ, Option.some.injEq, exists_and_left, exists_eq_left', exists_eq_left, L2.V.int.injEq, L2.V.bl.injEq, L2.V.str.injEq, L2.V.ref.injEq, true_and, and_true, decide_eq_true_eq, Bool.not_true, Bool.not_false, if_true, if_false, Bool.false_eq_true, reduceIte, List.cons.injEq, reduceCtorEq, decide_true, decide_false, decide_eq_false_iff_not, Bool.not_eq_true', Bool.not_not]))
namespace Nk
open PySem L2
section
variable {P : Program} {w : World} {K : PySem.W.Frag} {mg : Str → Option Value} {base : Heap}
abbrev nm_is_number : List Str := ["thing", "least", "most"]
abbrev pm_is_number : List Str := ["thing", "least", "most"]
abbrev lv_is_number : Nat := 1
theorem sc_is_number : FnScope nm_is_number pm_is_number (defScope s_is_number) := ⟨rfl, rfl, rfl, by decide +kernel, rfl, by decide +kernel, by decide +kernel⟩
def sp_is_number (K : PySem.W.Frag) : Sp := fun vs H Q _ => ∃ (x : V) (n : String) (lo : Int) (y : V), vs = [x, .int lo, y] ∧ Thing K H x n ∧ (∀ i, x = .int i → ∃ hi, y = .int hi) ∧ Q (.bl (isNumV x lo y)) H
theorem f_is_number (T : Txt K mg) : Fk P w K mg base CX0 lv_is_number "is_number" pm_is_number (sp_is_number K) := by
  obtain ⟨f, fd, F, g, b⟩ := T.d_is_number.ex
  refine ⟨f, fd, g, F.kp, b, F.ok sc_is_number (fun vs H Q E h => ?_) (fun cdv A outer s H vs Q E hr h => ?_)⟩
  · obtain ⟨x, n, lo, y, rfl, _⟩ := h; rfl
  · obtain ⟨x, n, lo, y, rfl, hx, hy, q⟩ := h
    refine ⟨_, (pss_one (ps_ret (pe_and (pe_callB call_isi (by rfl) T.b_isinstance (by decide +kernel) (pa_cons (pv 0) (pa_cons (pe_bltn (v := .ty "int") (by rfl) T.b_int (by decide +kernel) rfl) pa_nil))) (pe_and (pe_not (pe_callB call_isi (by rfl) T.b_isinstance (by decide +kernel) (pa_cons (pv 0) (pa_cons (pe_bltn (v := .ty "bool") (by rfl) T.b_bool (by decide +kernel) rfl) pa_nil)))) (pe_one (pe_chain op_le op_le (pv 1) (pv 0) (pv 2))))))), ?_⟩
    walk_at "rd"
    refine isi_thing hx (by decide) ?_
    cases hx with
    | int i =>
      obtain ⟨hi, rfl⟩ := hy i rfl
      simp only [show isA "int" "int" = true from by decide]
      walk_at "rd"
      refine isi_thing (.int i) (by decide) ?_
      simp only [show isA "int" "bool" = false from by decide]
      walk_at "rd"
      simp only [isNumV] at q
      by_cases c : lo ≤ i
      · simpa [c] using q
      · simpa [c] using q
    | bl i =>
      simp only [show isA "bool" "int" = true from by decide]
      walk_at "rd"
      refine isi_thing (.bl i) (by decide) ?_
      simp only [show isA "bool" "bool" = true from by decide]
      walk_at "rd"
      exact q
    | _ => exact ⟨false, rfl, q⟩
/-- whether a thing is rounds -/
def isRoundsV (H : Hp) (x : V) : Bool := match x with
  | .ref a => match H a with
    | some (.tup xs) => decide (1 ≤ xs.length) && decide (xs.length ≤ 12) && xs.all fun y => isNumV y 1 (.int 31)
    | _ => false
  | _ => false
/-- a thing, and what is in it if it is a tuple -/
def Thing2 (K : PySem.W.Frag) (H : Hp) (x : V) : Prop := (∃ n, Thing K H x n) ∧ ∀ a xs, x = .ref a → H a = some (.tup xs) → xs.length ≤ 100000 ∧ ∀ y ∈ xs, ∃ m, Thing K H y m
abbrev nm_is_rounds : List Str := ["thing", "one"]
abbrev pm_is_rounds : List Str := ["thing"]
abbrev lv_is_rounds : Nat := 2
theorem sc_is_rounds : FnScope nm_is_rounds pm_is_rounds (defScope s_is_rounds) := ⟨rfl, rfl, rfl, by decide +kernel, rfl, by decide +kernel, by decide +kernel⟩
def sp_is_rounds (K : PySem.W.Frag) : Sp := fun vs H Q _ => ∃ (x : V), vs = [x] ∧ Thing2 K H x ∧ ∀ H', Same H H' → Q (.bl (isRoundsV H x)) H'
theorem f_is_rounds (T : Txt K mg) : Fk P w K mg base CX0 lv_is_rounds "is_rounds" pm_is_rounds (sp_is_rounds K) := by
  obtain ⟨f, fd, F, g, b⟩ := T.d_is_rounds.ex
  refine ⟨f, fd, g, F.kp, b, F.ok sc_is_rounds (fun vs H Q E h => ?_) (fun cdv A outer s H vs Q E hr h => ?_)⟩
  · obtain ⟨x, rfl, _⟩ := h; rfl
  · obtain ⟨x, rfl, ⟨⟨n, hx⟩, hin⟩, q⟩ := h
    refine ⟨_, (pss_cons (ps_if (PW.pt (pw_or (pt_not (pt_val (pe_callB call_isi (by rfl) T.b_isinstance (by decide +kernel) (pa_cons (pv 0) (pa_cons (pe_bltn (v := .ty "tuple") (by rfl) T.b_tuple (by decide +kernel) rfl) pa_nil))))) (pw_or1 (pt_not (pt_chain op_le op_le pe_int (pe_callB call_len_seq (by rfl) T.b_len PySem.boot_len (pa_cons (pv 0) pa_nil)) pe_int))))) (pss_one (ps_ret pe_bl)) pss_nil)
      (pss_one (ps_ret (pe_callB (cr_all rfl) (by rfl) T.b_all (by decide +kernel) (pa_cons (pe_lc (own := [("one", 1)]) (g := gName 1) (tt := tYes) (by rfl) sc_is_rounds.nd (pi_tup (pv 0)) (blkOk_by (own := [("one", 1)]) (N := nm_is_rounds) (sc := defScope s_is_rounds) (by decide +kernel)) (fun _ _ _ _ _ => (pg_name (i := 1) sc_is_rounds.nd rfl (Or.inl rfl))) (fun _ _ _ _ _ => pts_nil) (fun _ _ _ _ _ => (pe_fn (f_is_number T) (hr.mono (by decide)) (by rfl) pass0 (pa_cons (pv 1) (pa_cons pe_int (pa_cons pe_int pa_nil)))))) pa_nil))))), ?_⟩
    walk_at "rd"
    refine isi_thing hx (by decide) ?_
    cases hx with
    | @tup a xs ha =>
      obtain ⟨hz, hth⟩ := hin a xs rfl ha
      simp only [show isA "tuple" "tuple" = true from by decide]
      walk_at "rd"
      refine ⟨xs, .inr (sqT ha), ?_⟩
      have e0 : isRoundsV H (.ref a) = (decide (1 ≤ xs.length) && decide (xs.length ≤ 12) && xs.all fun y => isNumV y 1 (.int 31)) := by
        simp only [isRoundsV, ha]
      rw [e0] at q
      by_cases c1 : 1 ≤ xs.length
      · by_cases c2 : xs.length ≤ 12
        · have d1 : (1 : Int) ≤ (xs.length : Int) := by omega
          have d2 : (xs.length : Int) ≤ 12 := by omega
          simp only [d1, d2]
          walk_at "rd"
          refine ⟨_, rfl, a, rfl, ⟨xs, sqT ha⟩, fun D hD => ?_⟩
          refine lcT hD (sqT ha) (fun i => (xs.take i).map fun y => .bl (isNumV y 1 (.int 31))) rfl (fun i y H2 hy p => ?_) (fun H2 s2 hD2 => ?_)
          · walk_at "rd"
            obtain ⟨m, hm⟩ := hth y (mem_of_get hy)
            refine ⟨y, m, 1, .int 31, rfl, Thing.same p.same hm, fun _ _ => ⟨31, rfl⟩, ?_⟩
            exact p.push hD (by simp; omega) (Same.refl _) (map_take_next _ hy)
          · refine ⟨D, xs.map fun y => isNumV y 1 (.int 31), rfl, ?_, ?_⟩
            · rw [List.take_length] at hD2
              rw [List.map_map]
              exact sqL hD2
            · have := q H2 s2
              simpa [c1, c2, List.all_map, Function.comp_def] using this
        · have d1 : (1 : Int) ≤ (xs.length : Int) := by omega
          have d2 : ¬ (xs.length : Int) ≤ 12 := by omega
          simp only [d1, d2]
          walk_at "rd"
          simpa [c2] using q H (Same.refl H)
      · have d1 : ¬ (1 : Int) ≤ (xs.length : Int) := by omega
        simp only [d1]
        walk_at "rd"
        simpa [c1] using q H (Same.refl H)
    | _ => exact ⟨false, by rfl, by simpa [isRoundsV, *] using q H (Same.refl H)⟩
/-- rounds as a tuple that stands -/
structure RndsAt (H : Hp) (a : Addr) (rs : List Int) : Prop where
  at_ : H a = some (.tup (rs.map V.int))
  ok : Rnds rs
  le : ∀ r ∈ rs, r ≤ 31
  ln : rs.length ≤ 12
theorem RndsAt.same {H H' : Hp} {a : Addr} {rs : List Int} (h : RndsAt H a rs) (s : Same H H') : RndsAt H' a rs := ⟨s _ _ h.at_, h.ok, h.le, h.ln⟩
theorem RndsAt.but {H H' : Hp} {a t : Addr} {rs : List Int} {l : List V} (h : RndsAt H a rs) (s : But t H H') (ht : H t = some (.lst l)) : RndsAt H' a rs := ⟨s _ _ h.at_ (ne_of h.at_ ht (by intro z; cases z)), h.ok, h.le, h.ln⟩
theorem RndsAt.thing {H : Hp} {a : Addr} {rs : List Int} (h : RndsAt H a rs) : Thing2 K H (.ref a) := by
  refine ⟨⟨_, .tup h.at_⟩, fun b xs e hb => ?_⟩
  cases e
  rw [h.at_] at hb
  cases hb
  refine ⟨by have := h.ln; simp; omega, fun y hy => ?_⟩
  obtain ⟨i, _, rfl⟩ := List.mem_map.mp hy
  exact ⟨_, .int i⟩
theorem RndsAt.is {H : Hp} {a : Addr} {rs : List Int} (h : RndsAt H a rs) : isRoundsV H (.ref a) = true := by
  have h1 := h.ok.len
  have h2 := h.ln
  have h3 : rs.all (fun y => isNumV (V.int y) 1 (V.int 31)) = true := by
    rw [List.all_eq_true]
    intro y hy
    simp [isNumV, h.ok.pos y hy, h.le y hy]
  simp only [isRoundsV, h.at_, List.length_map, List.all_map, Function.comp_def, h3, Bool.and_true, Bool.and_eq_true, decide_eq_true_eq]
  omega
theorem sum_le31 : ∀ {rs : List Int}, (∀ r ∈ rs, r ≤ 31) → rs.sum ≤ 31 * rs.length
  | [], _ => by simp
  | r :: rs, h => by
    have h1 := h r List.mem_cons_self
    have h2 := sum_le31 (rs := rs) fun x hx => h x (List.mem_cons_of_mem _ hx)
    simp only [List.sum_cons, List.length_cons]
    push_cast
    omega
theorem RndsAt.sum_le {H : Hp} {a : Addr} {rs : List Int} (h : RndsAt H a rs) : rs.sum ≤ 372 := by
  have := sum_le31 h.le
  have := h.ln
  omega
abbrev nm_look_night : List Str := ["night"]
abbrev pm_look_night : List Str := ["night"]
abbrev lv_look_night : Nat := 2
theorem sc_look_night : FnScope nm_look_night pm_look_night (defScope s_look_night) := ⟨rfl, rfl, rfl, by decide +kernel, rfl, by decide +kernel, by decide +kernel⟩
def sp_look_night (K : PySem.W.Frag) (mg : Str → Option Value) : Sp := fun vs H Q E => ∃ (x : V) (n : String), vs = [x] ∧ Thing K H x n ∧ (isNumV x 0 (.int 1000000000) = true → Q .non H) ∧ (isNumV x 0 (.int 1000000000) = false → E (.ref (cls mg "BadNight")) none H)
theorem f_look_night (T : Txt K mg) : Fk P w K mg base (L2.CX P w) lv_look_night "look_night" pm_look_night (sp_look_night K mg) := by
  obtain ⟨f, fd, F, g, b⟩ := T.d_look_night.ex
  refine ⟨f, fd, g, F.kp, b, F.okX sc_look_night (fun vs H Q E h => ?_) (fun cdv A outer s H vs Q E hr h => ?_)⟩
  · obtain ⟨x, n, rfl, _⟩ := h; rfl
  · obtain ⟨x, n, rfl, hx, q1, q2⟩ := h
    refine ⟨_, (pss_one (ps_if (pt_not (pt_val (pe_fn (f_is_number T) (hr.mono (by decide)) (by rfl) pass0 (pa_cons (pv 0) (pa_cons pe_int (pa_cons (pe_globI T.c_MOST_NIGHT (by rfl)) pa_nil)))))) (pss_one (ps_raise rfl (takes_of rfl rfl rfl rfl) (pmk_own PySem.F.excBase_RuntimeError T.x_BadNight.xP T.x_BadNight.gP T.x_BadNight.kP T.x_BadNight.rs rfl))) pss_nil)), ?_⟩
    walk_at "rd"
    refine ⟨x, n, 0, _, rfl, hx, fun _ _ => ⟨_, rfl⟩, ?_⟩
    walk_at "rd"
    cases e : isNumV x 0 (.int 1000000000) with
    | true => exact q1 e
    | false => exact q2 e
abbrev nm_number_of : List Str := ["rounds", "night", "whole", "found", "left", "long"]
abbrev pm_number_of : List Str := ["rounds", "night"]
abbrev lv_number_of : Nat := 1
theorem sc_number_of : FnScope nm_number_of pm_number_of (defScope s_number_of) := ⟨rfl, rfl, rfl, by decide +kernel, rfl, by decide +kernel, by decide +kernel⟩
def sp_number_of : Sp := fun vs H Q _ => ∃ (a : Addr) (rs : List Int) (n : Int), vs = [.ref a, .int n] ∧ RndsAt H a rs ∧ Q (.int (numOf rs n)) H
def iv_number_of (a : Addr) (rs : List Int) (n : Int) (H : Hp) (i : Nat) (σ : L2.St) (H' : Hp) : Prop := H' = H ∧ ∃ (fo le : Int) (v : Option V), σ = [some (.ref a), some (.int n), some (.int rs.sum), some (.int fo), some (.int le), v] ∧ walkR (rs.drop i) le fo = numOf rs n
theorem f_number_of (T : Txt K mg) : Fk P w K mg base CX0 lv_number_of "number_of" pm_number_of sp_number_of := by
  obtain ⟨f, fd, F, g, b⟩ := T.d_number_of.ex
  refine ⟨f, fd, g, F.kp, b, F.ok sc_number_of (fun vs H Q E h => ?_) (fun cdv A outer s H vs Q E hr h => ?_)⟩
  · obtain ⟨a, rs, n, rfl, _⟩ := h; rfl
  · obtain ⟨a, rs, n, rfl, ha, q⟩ := h
    refine ⟨_, (pss_cons (ps_set (i := 2) sc_number_of.nd rfl (.inl rfl) (pe_callB (cr_sumT rfl) (by rfl) T.b_sum (by decide +kernel) (pa_cons (pv 0) pa_nil)))
      (pss_cons (ps_set (i := 3) sc_number_of.nd rfl (.inl rfl) (pe_op op_mul (pe_op op_fdiv (pv 1) (pv 2)) (pe_callB call_len_seq (by rfl) T.b_len PySem.boot_len (pa_cons (pv 0) pa_nil))))
      (pss_cons (ps_set (i := 4) sc_number_of.nd rfl (.inl rfl) (pe_op op_mod (pv 1) (pv 2)))
      (pss_cons (ps_for PassesOwn.never rfl (pi_tup (pv 0)) (pg_name (i := 5) sc_number_of.nd rfl (Or.inl rfl)) (pss_cons (ps_if (pt_cmpR op_lt (pv 4) (pv 5) (nomark _)) (pss_one (ps_ret (pv 3))) pss_nil)
      (pss_cons (ps_set (i := 4) sc_number_of.nd rfl (.inl rfl) (pe_op op_sub (pv 4) (pv 5)))
      (pss_one (ps_set (i := 3) sc_number_of.nd rfl (.inl rfl) (pe_op op_add (pv 3) pe_int))))))
      (pss_one (ps_ret (pv 3))))))), ?_⟩
    walk_at "rd"
    have hs := ha.ok.sum
    have hs' := ha.sum_le
    have hl := ha.ln
    refine ⟨a, rs, rfl, sqT ha.at_, ?_⟩
    walk_at "rd"
    refine ⟨⟨hs, by omega⟩, rs.map V.int, .inr (sqT ha.at_), .inr ⟨by simp; omega, by simp; omega⟩, hs, ?_⟩
    refine ⟨_, rfl, a, rfl, ⟨_, sqT ha.at_⟩, for_tup (K := K) (a := a) (xs := rs.map V.int) (iv_number_of a rs n H)
      ⟨rfl, _, _, _, rfl, by simp [numOf]⟩ (fun i σ H' _ p => by rw [p.1]; exact sqT ha.at_) ?_ ?_⟩
    · rintro i x σ H' hi ⟨rfl, fo, le, v, rfl, hw⟩
      rw [List.getElem?_map] at hi
      cases e : rs[i]? with
      | none => rw [e] at hi; cases hi
      | some r =>
        rw [e] at hi
        cases hi
        have hlt := lt_of_get e
        have ed : rs.drop i = r :: rs.drop (i + 1) := by
          rw [List.drop_eq_getElem_cons hlt]
          rw [(List.getElem?_eq_some_iff.mp e).2]
        rw [ed] at hw
        unfold walkR at hw
        walk_at "rd"
        by_cases c : le < r
        · rw [if_pos c] at hw
          rw [if_pos c, hw]
          exact q
        · rw [if_neg c] at hw
          rw [if_neg c]
          exact ⟨rfl, _, _, _, rfl, hw⟩
    · rintro σ H' ⟨rfl, fo, le, v, rfl, hw⟩
      rw [List.length_map, List.drop_length] at hw
      walk_at "rd"
      unfold walkR at hw
      rw [hw]
      exact q
theorem isNum_ok {n : Int} (h0 : 0 ≤ n) (h1 : n ≤ 1000000000) : isNumV (.int n) 0 (.int 1000000000) = true := by simp [isNumV, h0, h1]
end
end Nk
namespace Nk
open PySem L2
section
variable {P : Program} {w : World} {K : PySem.W.Frag} {mg : Str → Option Value} {base : Heap}
/-- the script at a and the town at t: c draws so far -/
structure Tn (K : PySem.W.Frag) (H : Hp) (a t : Addr) (ns : List Int) (c : Nat) : Prop where
  scr : SqN K H a t (ns.map V.int)
  len : ns.length ≤ 63
  town : ∃ ls : List Int, ls.length = ns.length ∧ H t = some (.lst (V.int c :: ls.map V.int))
theorem Tn.same {H H' : Hp} {a t : Addr} {ns : List Int} {c : Nat} (h : Tn K H a t ns c) (s : Same H H') : Tn K H' a t ns c := by
  obtain ⟨ls, e, ht⟩ := h.town
  exact ⟨h.scr.same s, h.len, ls, e, s _ _ ht⟩
theorem Tn.lst {H : Hp} {a t : Addr} {ns : List Int} {c : Nat} (h : Tn K H a t ns c) : ∃ l, H t = some (.lst l) := by
  obtain ⟨ls, e, ht⟩ := h.town
  exact ⟨_, ht⟩
theorem Tn.some_ {H : Hp} {a t : Addr} {ns : List Int} {c : Nat} (h : Tn K H a t ns c) {p : Addr} (hp : H p = none) : p ≠ t := by
  obtain ⟨l, hl⟩ := h.lst
  exact (ne_of_none hl hp).symm
/-- a tuple stays while the town changes -/
theorem Tn.tup {H H' : Hp} {a t p : Addr} {ns : List Int} {c : Nat} {xs : List V} (h : Tn K H a t ns c) (b : But t H H') (hp : H p = some (.tup xs)) : H' p = some (.tup xs) := by
  obtain ⟨l, hl⟩ := h.lst
  exact b _ _ hp (ne_of hp hl (by intro z; cases z))
/-- an object that was made since may change -/
theorem Tn.app {H H' : Hp} {a t p : Addr} {ns : List Int} {c c0 : Nat} {o : HO} (h : Tn K H' a t ns c) (h0 : Tn K H a t ns c0) (hp : H p = none) (hpt : p ≠ t) : Tn K (upd H' p o) a t ns c := by
  obtain ⟨ls, e1, e2⟩ := h.town
  exact ⟨h.scr.app h0.scr hp, h.len, ls, e1, by rw [upd_ne hpt.symm]; exact e2⟩
theorem But.app {H H' : Hp} {t p : Addr} {o : HO} (b : But t H H') (hp : H p = none) : But t H (L2.upd H' p o) := fun z x hz hzt => by
  rw [upd_ne (ne_of_none hz hp)]
  exact b _ _ hz hzt
theorem But.free {H H' : Hp} {t p : Addr} (b : But t H H') (hp : H' p = none) (hpt : p ≠ t) : H p = none := by
  cases e : H p with
  | none => rfl
  | some o => rw [b _ _ e hpt] at hp; cases hp
abbrev nm__law_town : List Str := ["script"]
abbrev pm__law_town : List Str := ["script"]
abbrev lv__law_town : Nat := 1
theorem sc__law_town : FnScope nm__law_town pm__law_town (defScope s__law_town) := ⟨rfl, rfl, rfl, by decide +kernel, rfl, by decide +kernel, by decide +kernel⟩
def sp__law_town (K : PySem.W.Frag) : Sp := fun vs H Q _ => ∃ (a : Addr) (ns : List Int), vs = [.ref a] ∧ SqL K H a (ns.map V.int) ∧ ns.length ≤ 63 ∧ ∀ H' t, Same H H' → Tn K H' a t ns 0 → H t = none → Q (.ref t) H'
theorem f__law_town (T : Txt K mg) : Fk P w K mg base CX0 lv__law_town "_law_town" pm__law_town (sp__law_town K) := by
  obtain ⟨f, fd, F, g, b⟩ := T.d__law_town.ex
  refine ⟨f, fd, g, F.kp, b, F.ok sc__law_town (fun vs H Q E h => ?_) (fun cdv A outer s H vs Q E hr h => ?_)⟩
  · obtain ⟨a, ns, rfl, _⟩ := h; rfl
  · obtain ⟨a, ns, rfl, hS, hl, q⟩ := h
    refine ⟨_, (pss_one (ps_ret (pe_op op_cat (pe_lst (pa_cons pe_int pa_nil)) (pe_callTy call_list_of (by rfl) T.b_list (by decide +kernel) (pa_cons (pv 0) pa_nil))))), ?_⟩
    walk_at "rd"
    intro p hp
    have s1 : Same H (upd H p (.lst [.int 0])) := same_upd hp
    refine ⟨ns.map V.int, .inl (s1.seq hS), fun l hl2 => ?_⟩
    have npl : p ≠ l := fun e => by rw [← e, upd_same] at hl2; cases hl2
    have s2 := s1.trans (same_upd (o := .lst (ns.map V.int)) hl2)
    refine ⟨p, l, _, _, rfl, rfl, by rw [upd_ne npl]; exact upd_same, upd_same, sz (by simp; omega), fun t ht => ?_⟩
    have hH : H t = none := s2.free ht
    exact q _ t (s2.trans (same_upd ht)) ⟨(SqN.new (s2.seq hS) ht).same (same_upd ht), hl, ns, rfl, upd_same⟩ hH
abbrev nm__law_draw : List Str := ["script", "town", "many", "at", "left", "number"]
abbrev pm__law_draw : List Str := ["script", "town", "many"]
abbrev lv__law_draw : Nat := 1
theorem sc__law_draw : FnScope nm__law_draw pm__law_draw (defScope s__law_draw) := ⟨rfl, rfl, rfl, by decide +kernel, rfl, by decide +kernel, by decide +kernel⟩
def sp__law_draw (K : PySem.W.Frag) : Sp := fun vs H Q _ => ∃ (a t : Addr) (ns : List Int) (c : Nat) (many : Int), vs = [.ref a, .ref t, .int many] ∧ Tn K H a t ns c ∧ c < 1000000000 ∧ 0 < many ∧ many < 1073741824 ∧
  ∀ (d : Int) (H' : Hp), 0 ≤ d → d < many → Tn K H' a t ns (c + 1) → But t H H' → Q (.int d) H'
theorem f__law_draw (T : Txt K mg) : Fk P w K mg base CX0 lv__law_draw "_law_draw" pm__law_draw (sp__law_draw K) := by
  obtain ⟨f, fd, F, g, b⟩ := T.d__law_draw.ex
  refine ⟨f, fd, g, F.kp, b, F.ok sc__law_draw (fun vs H Q E h => ?_) (fun cdv A outer s H vs Q E hr h => ?_)⟩
  · obtain ⟨a, t, ns, c, many, rfl, _⟩ := h; rfl
  · obtain ⟨a, t, ns, c, many, rfl, hT, hc, hm0, hm1, q⟩ := h
    refine ⟨_, (pss_cons (ps_asg (pe_op op_add (pe_ix ix_list (pv 1) pe_int (fun _ _ => rfl)) pe_int) (pg_sub (pv 1) pe_int set_list))
      (pss_cons (ps_if (pt_cmpR (op_eqD hr.units) (pv 0) (pe_lst pa_nil) (nomark _)) (pss_one (ps_ret (pe_op op_mod (pe_op op_fdiv (pe_op op_mul (pe_op op_mul (pe_ix ix_list (pv 1) pe_int (fun _ _ => rfl)) (pe_ix ix_list (pv 1) pe_int (fun _ _ => rfl))) pe_int) pe_int) (pv 2)))) pss_nil)
      (pss_cons (ps_set (i := 3) sc__law_draw.nd rfl (.inl rfl) (pe_op op_mod (pe_ix ix_list (pv 1) pe_int (fun _ _ => rfl)) (pe_callB call_len_seq (by rfl) T.b_len PySem.boot_len (pa_cons (pv 0) pa_nil))))
      (pss_cons (ps_set (i := 4) sc__law_draw.nd rfl (.inl rfl) (pe_ix ix_list (pv 1) (pe_op op_add pe_int (pv 3)) (fun _ _ => rfl)))
      (pss_cons (ps_if (PW.pt (pw_and (pt_cmpR op_ge (pe_ix ix_list (pv 0) (pv 3) (fun _ _ => rfl)) (pe_op op_pow pe_int pe_int) (nomark _)) (pw_and1 (pt_cmpR op_gt (pv 4) pe_int (nomark _))))) (pss_cons (ps_asg (pe_op op_fdiv (pv 4) (pv 2)) (pg_sub (pv 1) (pe_op op_add pe_int (pv 3)) set_list))
      (pss_one (ps_ret (pe_op op_mod (pv 4) (pv 2))))) pss_nil)
      (pss_cons (ps_set (i := 5) sc__law_draw.nd rfl (.inl rfl) (pe_op op_mod (pe_op op_add (pe_ix ix_list (pv 0) (pv 3) (fun _ _ => rfl)) (pe_op op_mul pe_int (pe_ix ix_list (pv 1) pe_int (fun _ _ => rfl)))) pe_int))
      (pss_cons (ps_set (i := 5) sc__law_draw.nd rfl (.inl rfl) (pe_op op_mod (pe_op op_pow (pv 5) pe_int) pe_int))
      (pss_one (ps_ret (pe_op op_mod (pe_op op_fdiv (pe_op op_mod (pe_op op_add (pe_op op_mul (pe_op op_fdiv (pv 5) pe_int) pe_int) (pv 5)) pe_int) pe_int) (pv 2))))))))))), ?_⟩
    walk_at "rd"
    obtain ⟨ls, el, ht⟩ := hT.town
    refine ixL (j := 0) (sqL ht) rfl rfl ?_
    walk_at "rd"
    refine setL (j := 0) ht rfl (by simp) ?_
    intro p hp
    have hpt : t ≠ p := fun e => by rw [← e, upd_same] at hp; cases hp
    have b1 : But t H (upd (upd H t (.lst ((V.int c :: ls.map V.int).set 0 (V.int (↑c + 1))))) p (.lst [])) := But.thenS But.upd (same_upd hp)
    have hN1 := hT.scr.but b1
    have hS1 := hN1.l
    have ht1 : (upd (upd H t (.lst ((V.int c :: ls.map V.int).set 0 (V.int (↑c + 1))))) p (.lst [])) t = some (.lst (V.int ((c + 1 : Nat) : Int) :: ls.map V.int)) := by
      rw [upd_ne hpt, upd_same]; rfl
    have hp1 : (upd (upd H t (.lst ((V.int c :: ls.map V.int).set 0 (V.int (↑c + 1))))) p (.lst [])) p = some (.lst (([] : List Int).map V.int)) := upd_same
    revert b1 hN1 hS1 ht1 hp1
    generalize upd (upd H t (.lst ((V.int c :: ls.map V.int).set 0 (V.int (↑c + 1))))) p (.lst []) = H1
    intro b1 hN1 hS1 ht1 hp1
    have T1 : Tn K H1 a t ns (c + 1) := ⟨hN1, hT.len, ls, el, ht1⟩
    have hC : ((c + 1 : Nat) : Int) < 2 ^ 62 := by omega
    refine eqD (dp_LI hS1) (dp_LI (sqL hp1)) (gd_dLI (k := 0) _) (gd_dLI (k := 0) _) (fun e => ?_) (fun e => ?_)
    · walk_at "rd"
      refine ixL (j := 0) (sqL ht1) rfl rfl ?_
      refine ixL (j := 0) (sqL ht1) rfl rfl ?_
      walk_at "rd"
      refine ⟨.inl ⟨by omega, by omega⟩, .inr ⟨by decide, by decide⟩, ⟨by decide, by decide⟩, hm0, ?_⟩
      exact q _ H1 (Int.emod_nonneg _ (by omega)) (Int.emod_lt_of_pos _ hm0) T1 b1
    · have hne : ns ≠ [] := fun z => e (by rw [z])
      have hn0 : 0 < ns.length := List.length_pos_iff.mpr hne
      walk_at "rd"
      refine ixL (j := 0) (sqL ht1) rfl rfl ?_
      refine ⟨ns.map V.int, .inl hS1, ?_⟩
      rw [List.length_map]
      walk_at "rd"
      obtain ⟨j, hj, ej, _⟩ := emod_nat (k := ((c + 1 : Nat) : Int)) hn0
      rw [ej]
      refine ⟨by omega, ?_⟩
      have hlj : (V.int ((c + 1 : Nat) : Int) :: ls.map V.int)[j + 1]? = some (V.int (ls[j]'(by omega))) := by
        rw [List.getElem?_cons_succ, List.getElem?_map, List.getElem?_eq_getElem (by omega)]; rfl
      have hnj : (ns.map V.int)[j]? = some (V.int (ns[j]'hj)) := by
        rw [List.getElem?_map, List.getElem?_eq_getElem hj]; rfl
      refine ixL (j := j + 1) (sqL ht1) (by push_cast; omega) hlj ?_
      refine ixL (j := j) hS1 rfl hnj ?_
      have tail : rIxL K (.ref a) (.int (j : Int)) H1 fun x H2 => rIxL K (.ref t) (.int 0) H2 fun y H3 => ∃ x_3, y = V.int x_3 ∧ CMul 104729 x_3 ∧ ∃ i, x = V.int i ∧ 0 < (4294967291 : Int) ∧ CPow ((i + 104729 * x_3) % 4294967291) 5 ∧ 0 < (4294967279 : Int) ∧
          CDiv (((i + 104729 * x_3) % 4294967291) ^ Int.toNat 5 % 4294967279) 64 ∧ CMul (((i + 104729 * x_3) % 4294967291) ^ Int.toNat 5 % 4294967279 / 64) 69621 ∧ 0 < (4294967231 : Int) ∧
          CDiv ((((i + 104729 * x_3) % 4294967291) ^ Int.toNat 5 % 4294967279 / 64 * 69621 + ((i + 104729 * x_3) % 4294967291) ^ Int.toNat 5 % 4294967279) % 4294967231) 8 ∧ 0 < many ∧
          Q (.int ((((i + 104729 * x_3) % 4294967291) ^ Int.toNat 5 % 4294967279 / 64 * 69621 + ((i + 104729 * x_3) % 4294967291) ^ Int.toNat 5 % 4294967279) % 4294967231 / 8 % many)) H3 := by
        refine ixL (j := j) hS1 rfl hnj ?_
        refine ixL (j := 0) (sqL ht1) rfl rfl ?_
        have hp := Int.emod_nonneg (ns[j] + 104729 * ((c + 1 : Nat) : Int)) (show (4294967291 : Int) ≠ 0 by decide)
        have hq := Int.emod_lt_of_pos (ns[j] + 104729 * ((c + 1 : Nat) : Int)) (show (0 : Int) < 4294967291 by decide)
        refine ⟨_, rfl, .inl ⟨by decide, by decide⟩, _, rfl, by decide, ⟨by decide, by decide, by omega⟩, by decide, ⟨by decide, by decide⟩, .inr ⟨by decide, by decide⟩, by decide, ⟨by decide, by decide⟩, hm0, ?_⟩
        exact q _ H1 (Int.emod_nonneg _ (by omega)) (Int.emod_lt_of_pos _ hm0) T1 b1
      refine ⟨⟨by decide, by decide, by decide⟩, _, rfl, ?_⟩
      refine ite2 (fun c1 => ?_) (fun c1 => ?_)
      · refine ⟨_, rfl, ite2 (fun c2 => ?_) (fun c2 => ?_)⟩
        · refine ⟨_, rfl, ⟨hm0, hm1⟩, ?_⟩
          refine setL (j := j + 1) ht1 (by push_cast; omega) (by simp; omega) ?_
          refine ⟨_, rfl, hm0, ?_⟩
          refine q _ _ (Int.emod_nonneg _ (by omega)) (Int.emod_lt_of_pos _ hm0) ⟨hN1.but But.upd, hT.len, ls.set j (ls[j] / many), by rw [List.length_set]; exact el, ?_⟩ (b1.trans But.upd)
          rw [upd_same, List.set_cons_succ, List.map_set]
        · exact tail
      · exact tail
abbrev nm__law_pick : List Str := ["script", "town", "some"]
abbrev pm__law_pick : List Str := ["script", "town", "some"]
abbrev lv__law_pick : Nat := 2
theorem sc__law_pick : FnScope nm__law_pick pm__law_pick (defScope s__law_pick) := ⟨rfl, rfl, rfl, by decide +kernel, rfl, by decide +kernel, by decide +kernel⟩
def sp__law_pick (K : PySem.W.Frag) : Sp := fun vs H Q _ => ∃ (a t l : Addr) (ns : List Int) (c : Nat) (xs : List V), vs = [.ref a, .ref t, .ref l] ∧ Tn K H a t ns c ∧ c < 1000000000 ∧ H l = some (.lst xs) ∧ l ≠ t ∧ 0 < xs.length ∧ xs.length ≤ 100000 ∧
  ∀ (v : V) (H' : Hp), v ∈ xs → Tn K H' a t ns (c + 1) → But t H H' → Q v H'
theorem f__law_pick (T : Txt K mg) : Fk P w K mg base CX0 lv__law_pick "_law_pick" pm__law_pick (sp__law_pick K) := by
  obtain ⟨f, fd, F, g, b⟩ := T.d__law_pick.ex
  refine ⟨f, fd, g, F.kp, b, F.ok sc__law_pick (fun vs H Q E h => ?_) (fun cdv A outer s H vs Q E hr h => ?_)⟩
  · obtain ⟨a, t, l, ns, c, xs, rfl, _⟩ := h; rfl
  · obtain ⟨a, t, l, ns, c, xs, rfl, hT, hc, hl, hlt, h0, h1, q⟩ := h
    refine ⟨_, (pss_one (ps_ret (pe_ix ix_list (pv 2) (pe_fn (f__law_draw T) (hr.mono (by decide)) (by rfl) pass0 (pa_cons (pv 0) (pa_cons (pv 1) (pa_cons (pe_callB call_len_seq (by rfl) T.b_len PySem.boot_len (pa_cons (pv 2) pa_nil)) pa_nil)))) (fun _ _ => rfl)))), ?_⟩
    walk_at "rd"
    refine ⟨xs, .inl (sqL hl), a, t, ns, c, xs.length, rfl, hT, hc, by omega, by omega, fun d H' d0 d1 T' b' => ?_⟩
    have hd : d.toNat < xs.length := by omega
    exact ixL (j := d.toNat) (sqL (b' _ _ hl hlt)) (by omega) (List.getElem?_eq_getElem hd) (q _ H' (List.getElem_mem hd) T' b')
theorem pickI {H : Hp} {a t : Addr} {ns : List Int} {c : Nat} {Q : VK} {E : XK} (ks : List Int) (hT : Tn K H a t ns c) (hc : c < 1000000000) (q : ∀ k ∈ ks, ∀ H', Tn K H' a t ns (c + 1) → But t H H' → Q (.int k) H') (h0 : 0 < ks.length := by decide) (h1 : ks.length ≤ 100000 := by decide) :
    ∀ p, H p = none → sp__law_pick K [.ref a, .ref t, .ref p] (L2.upd H p (.lst (ks.map V.int))) Q E := by
  intro p hp
  refine ⟨a, t, p, ns, c, ks.map V.int, rfl, hT.same (same_upd hp), hc, upd_same, hT.some_ hp, by simpa using h0, by simpa using h1, fun v H' hv T' b' => ?_⟩
  obtain ⟨k, hk, rfl⟩ := List.mem_map.mp hv
  exact q k hk H' T' (Same.thenB (same_upd hp) b')
theorem pickV {H : Hp} {a t : Addr} {ns : List Int} {c : Nat} {Q : VK} {E : XK} {xs : List V} (hT : Tn K H a t ns c) (hc : c < 1000000000) (h0 : 0 < xs.length) (h1 : xs.length ≤ 100000) (q : ∀ v ∈ xs, ∀ H', Tn K H' a t ns (c + 1) → But t H H' → Q v H') :
    ∀ p, H p = none → sp__law_pick K [.ref a, .ref t, .ref p] (L2.upd H p (.lst xs)) Q E := by
  intro p hp
  exact ⟨a, t, p, ns, c, xs, rfl, hT.same (same_upd hp), hc, upd_same, hT.some_ hp, h0, h1, fun v H' hv T' b' => q v hv H' T' (Same.thenB (same_upd hp) b')⟩
end
end Nk
namespace Nk
open PySem L2
section
variable {P : Program} {w : World} {K : PySem.W.Frag} {mg : Str → Option Value} {base : Heap}
end
end Nk
namespace Nk
open PySem L2
section
variable {P : Program} {w : World} {K : PySem.W.Frag} {mg : Str → Option Value} {base : Heap}
end
end Nk
/-! the rules of own classes with the globals named (for comprehensions) -/
namespace Nk
open PySem L2
section
variable {X : Cx} {CX : CXT} {k : Nat} {ps : List Str} {sp : Sp} {c m x : Str} {p pos apos : Pos} {o e : Expr} {es : List Expr} {ta : TE} {t : TA} {E : XK}
theorem pe_meK (mg : Str → Option Value) (hm : X.mg = mg) {pl : Sem Bool} (he : PE X o ta) (O : Oc X.K mg c) (M : Mo X.prog X.w X.K mg X.base CX k c m ps sp) (hr : Room k X.A) (hx : Passes CX X E) (ha : PA X (e :: es) t)
    (hst : starEach (e :: es) X.env = (false, eval e X.env) :: starEach es X.env := by rfl) (hpl : (backTo pos (starEach es X.env)).any (·.1) = false := by rfl)
    (ht : eval (.Call (.Attribute o m apos) (e :: es) [] pos) X.env = (do
      let ov ← eval o X.env
      standAt apos.atName
      let (g, first) ← holding [ov] (getMethod ov m pl)
      callWith pos g first (backTo pos (starEach (e :: es) X.env)) (backToKw pos (keywordEach [] X.env))) := by rfl) :
    PE X (.Call (.Attribute o m apos) (e :: es) [] pos) (tMeth (cls mg c) m sp [] E ta t) := by
  subst hm
  exact pe_me he O M hr hx ha hst hpl ht
theorem pe_me0K (mg : Str → Option Value) (hm : X.mg = mg) {pl : Sem Bool} (he : PE X o ta) (O : Oc X.K mg c) (M : Mo X.prog X.w X.K mg X.base CX k c m ps sp) (hr : Room k X.A) (hx : Passes CX X E)
    (ht : eval (.Call (.Attribute o m apos) [] [] pos) X.env = (do
      let ov ← eval o X.env
      standAt apos.atName
      let (g, first) ← holding [ov] (getMethod ov m pl)
      callWith pos g first (backTo pos (starEach [] X.env)) (backToKw pos (keywordEach [] X.env))) := by rfl) :
    PE X (.Call (.Attribute o m apos) [] [] pos) (tMeth (cls mg c) m sp [] E ta tNil) := by
  subst hm
  exact pe_me0 he O M hr hx ht
theorem pe_newM (mg : Str → Option Value) (hm : X.mg = mg) (O : Oc X.K mg c) (M : Mo X.prog X.w X.K mg X.base CX k c "__init__" ps sp) (hr : Room (k + 1) X.A) (hg : Gl X c) (hx : Passes CX X E) (ha : PA X (e :: es) t)
    (hdb : (c == ("__debug__" : Str)) = false := by decide) (he : starEach (e :: es) X.env = (false, eval e X.env) :: starEach es X.env := by rfl) (hpl : (backTo pos (starEach es X.env)).any (·.1) = false := by rfl) :
    PE X (.Call (.Name c p) (e :: es) [] pos) (tMake (cls mg c) sp [] E t) := by
  subst hm
  exact pe_new O M hr hg hx ha hdb he hpl
theorem cr_lenOK (mg : Str → Option Value) (hm : X.mg = mg) (O : Oc X.K mg c) (M : Mo X.prog X.w X.K mg X.base CX k c "__len__" ps sp) (hr : Room (k + 1) X.A) (hx : Passes CX X E) : CallR X (.builtin "len") (rLenO (cls mg c) sp E) := by
  subst hm
  exact cr_lenO O M hr hx
theorem op_eqOK (mg : Str → Option Value) (hm : X.mg = mg) (M : Mo X.prog X.w X.K mg X.base CX k c "__eq__" ps sp) (hr : Room k X.A) (hx : Passes CX X E) : OpR X (compareOp .Eq) (rEqO (cls mg c) sp E false) := by
  subst hm
  exact op_eqO M hr hx
theorem op_neOK (mg : Str → Option Value) (hm : X.mg = mg) (N : Eo2 X.K mg c) (M : Mo X.prog X.w X.K mg X.base CX k c "__eq__" ps sp) (hr : Room (k + 1) X.A) (hx : Passes CX X E) : OpR X (compareOp .NotEq) (rEqO (cls mg c) sp E true) := by
  subst hm
  exact op_neO N M hr hx
end
end Nk
namespace Nk
open PySem L2
section
variable {P : Program} {w : World} {K : PySem.W.Frag} {mg : Str → Option Value} {base : Heap}
/-! tables as they stand -/
def kvsT (t : Tb) : List (Key × V) := t.map fun p => (Sum.inr p.1, V.int p.2)
def numV : Option Int → V
  | none => .non
  | some i => .int i
theorem kvsT_val {n : Str} : ∀ {t : Tb}, valV (kvsT t) (Sum.inr n) = (lk t n).map V.int
  | [] => rfl
  | p :: t => by
    rw [lk_cons]
    by_cases e : p.1 = n
    · rw [if_pos e]
      show valV ((Sum.inr p.1, V.int p.2) :: kvsT t) _ = _
      rw [valV_pos (by rw [e])]
      rfl
    · rw [if_neg e]
      show valV ((Sum.inr p.1, V.int p.2) :: kvsT t) _ = _
      rw [valV_neg (fun z => e (Sum.inr.inj z))]
      exact kvsT_val
theorem kvsT_len {t : Tb} : (kvsT t).length = t.length := List.length_map _
theorem kvsT_keys {t : Tb} : (kvsT t).map (·.1) = (nms t).map Sum.inr := by
  unfold kvsT nms
  rw [List.map_map, List.map_map]
  rfl
theorem kvsT_keysV {t : Tb} : (kvsT t).map (fun kv => kV kv.1) = (nms t).map V.str := by
  unfold kvsT nms
  rw [List.map_map, List.map_map]
  rfl
theorem kvsT_put {t : Tb} {n : Str} {i : Int} : putK (kvsT t) (Sum.inr n) (.int i) = kvsT (putT t n i) := by
  unfold putK putT
  have e : ((kvsT t).any fun kv => decide (kv.1 = Sum.inr n)) = t.any fun p => decide (p.1 = n) := by
    unfold kvsT
    rw [List.any_map]
    congr 1
    funext p
    simp [Function.comp]
  rw [e]
  split
  · unfold kvsT
    rw [List.map_map, List.map_map]
    refine List.map_congr_left fun p _ => ?_
    simp only [Function.comp, Sum.inr.injEq]
    split <;> rfl
  · simp [kvsT]
theorem kvsT_drop {t : Tb} {n : Str} : dropK (kvsT t) (Sum.inr n) = kvsT (dropT t n) := by
  unfold dropK dropT kvsT
  rw [List.filter_map]
  congr 1
  refine List.filter_congr fun p _ => ?_
  simp [Function.comp]
theorem kvsT_flat {t : Tb} : FlatK (kvsT t) := fun p hp => by
  obtain ⟨q, _, rfl⟩ := List.mem_map.mp hp
  rfl
theorem hitB_T {b : Tb} : ∀ {a : Tb}, hitB (kvsT b) (kvsT a) = true ↔ ∀ p ∈ a, lk b p.1 = some p.2
  | [] => by simp [kvsT, hitB]
  | p :: a => by
    have ih := hitB_T (b := b) (a := a)
    show hitB (kvsT b) ((Sum.inr p.1, V.int p.2) :: kvsT a) = true ↔ _
    unfold hitB
    rw [kvsT_val]
    cases e : lk b p.1 with
    | none => simp [e]
    | some i =>
      simp only [Option.map_some, Bool.and_eq_true, ih, List.mem_cons, forall_eq_or_imp, e, Option.some.injEq]
      constructor
      · rintro ⟨h1, h2⟩
        refine ⟨?_, h2⟩
        have : p.2 = i := by simpa [eqV] using h1
        exact this.symm
      · rintro ⟨h1, h2⟩
        exact ⟨by simp [eqV, h1], h2⟩
theorem eq_T {a b : Tb} (ha : OkT a) (hb : OkT b) : eqDk (kvsT a) (kvsT b) = true ↔ ∀ n, lk a n = lk b n := by
  unfold eqDk
  rw [Bool.and_eq_true, beq_iff_eq, kvsT_len, kvsT_len, hitB_T]
  constructor
  · rintro ⟨h1, h2⟩ n
    cases e : lk a n with
    | some i => exact (h2 _ (lk_mem e)).symm
    | none =>
      cases e' : lk b n with
      | none => rfl
      | some i =>
        have hn : n ∉ nms a := lk_none.mp e
        have := nodup_le (l := n :: nms a) (m := nms b) (List.nodup_cons.mpr ⟨hn, ha.nd⟩) fun x hx => by
          rcases List.mem_cons.mp hx with z | z
          · rw [z]; exact mem_nms.mpr ⟨i, e'⟩
          · obtain ⟨j, hj⟩ := mem_nms.mp z
            exact mem_nms.mpr ⟨j, h2 _ (lk_mem hj)⟩
        simp [nms] at this
        omega
  · intro h
    exact ⟨ha.same_len hb h, fun p hp => by rw [← h]; exact lk_of ha.nd hp⟩
theorem eq_T' {a b : Tb} (ha : OkT a) (hb : OkT b) (h : ∀ n, lk a n = lk b n) : eqDk (kvsT a) (kvsT b) = true := (eq_T ha hb).mpr h
theorem ne_T {a b : Tb} (ha : OkT a) (hb : OkT b) (h : ¬ ∀ n, lk a n = lk b n) : eqDk (kvsT a) (kvsT b) = false := by
  cases e : eqDk (kvsT a) (kvsT b) with
  | false => rfl
  | true => exact absurd ((eq_T ha hb).mp e) h
/-- a state stands at p -/
structure StAt (mg : Str → Option Value) (H : Hp) (p : Addr) (t : Tb) : Prop where
  ex : ∃ dx d, H p = some (.ins (cls mg "State") dx [("table", .ref d)]) ∧ H d = some (.dK (kvsT t))
  ok : OkT t
  len : t.length ≤ 20
theorem StAt.same {H H' : Hp} {p : Addr} {t : Tb} (h : StAt mg H p t) (s : Same H H') : StAt mg H' p t := by
  obtain ⟨dx, d, h1, h2⟩ := h.ex
  exact ⟨⟨dx, d, s _ _ h1, s _ _ h2⟩, h.ok, h.len⟩
theorem StAt.but {H H' : Hp} {p a : Addr} {t : Tb} {l : List V} (h : StAt mg H p t) (s : But a H H') (ha : H a = some (.lst l)) : StAt mg H' p t := by
  obtain ⟨dx, d, h1, h2⟩ := h.ex
  exact ⟨⟨dx, d, s _ _ h1 (ne_of h1 ha (by intro z; cases z)), s _ _ h2 (ne_of h2 ha (by intro z; cases z))⟩, h.ok, h.len⟩
/-- pairs of a part -/
def PairsAt (H : Hp) : List V → Pt → Prop
  | [], [] => True
  | x :: xs, p :: ps => (∃ q, x = .ref q ∧ H q = some (.tup [.str p.1, numV p.2])) ∧ PairsAt H xs ps
  | _, _ => False
theorem PairsAt.tups {H H' : Hp} (h : ∀ b xs, H b = some (.tup xs) → H' b = some (.tup xs)) : ∀ {xs : List V} {ps : Pt}, PairsAt H xs ps → PairsAt H' xs ps
  | [], [], _ => trivial
  | x :: xs, p :: ps, ⟨⟨q, e, hq⟩, r⟩ => ⟨⟨q, e, h _ _ hq⟩, PairsAt.tups h r⟩
theorem PairsAt.same {H H' : Hp} (s : Same H H') {xs : List V} {ps : Pt} (h : PairsAt H xs ps) : PairsAt H' xs ps := h.tups fun b ys e => s _ _ e
theorem PairsAt.len {H : Hp} : ∀ {xs : List V} {ps : Pt}, PairsAt H xs ps → xs.length = ps.length
  | [], [], _ => rfl
  | x :: xs, p :: ps, ⟨_, r⟩ => by simp [PairsAt.len r]
theorem PairsAt.app {H : Hp} : ∀ {xs ys : List V} {ps qs : Pt}, PairsAt H xs ps → PairsAt H ys qs → PairsAt H (xs ++ ys) (ps ++ qs)
  | [], _, [], _, _, h => h
  | x :: xs, _, p :: ps, _, ⟨a, r⟩, h => ⟨a, PairsAt.app r h⟩
theorem PairsAt.one {H : Hp} {q : Addr} {p : Str × Option Int} (h : H q = some (.tup [.str p.1, numV p.2])) : PairsAt H [.ref q] [p] := ⟨⟨q, rfl, h⟩, trivial⟩
theorem PairsAt.get {H : Hp} : ∀ {xs : List V} {ps : Pt}, PairsAt H xs ps → ∀ {i : Nat} {x : V}, xs[i]? = some x → ∃ p q, ps[i]? = some p ∧ x = .ref q ∧ H q = some (.tup [.str p.1, numV p.2])
  | x :: xs, p :: ps, ⟨⟨q, e, hq⟩, r⟩, 0, y, hy => by
    cases hy
    exact ⟨p, q, rfl, e, hq⟩
  | x :: xs, p :: ps, ⟨_, r⟩, i + 1, y, hy => PairsAt.get r hy
  | [], [], _, i, y, hy => by simp at hy
theorem PairsAt.take {H : Hp} : ∀ {xs : List V} {ps : Pt} (n : Nat), PairsAt H xs ps → PairsAt H (xs.take n) (ps.take n)
  | [], [], n, _ => by simp [PairsAt]
  | x :: xs, p :: ps, 0, _ => by simp [PairsAt]
  | x :: xs, p :: ps, n + 1, ⟨a, r⟩ => ⟨a, PairsAt.take n r⟩
theorem PairsAt.drop {H : Hp} : ∀ {xs : List V} {ps : Pt} (n : Nat), PairsAt H xs ps → PairsAt H (xs.drop n) (ps.drop n)
  | [], [], n, _ => by simp [PairsAt]
  | x :: xs, p :: ps, 0, h => h
  | x :: xs, p :: ps, n + 1, ⟨a, r⟩ => PairsAt.drop n r
/-- a part stands at l -/
def PartAt (H : Hp) (l : Addr) (ps : Pt) : Prop := ∃ xs, H l = some (.lst xs) ∧ PairsAt H xs ps
theorem PartAt.same {H H' : Hp} (s : Same H H') {l : Addr} {ps : Pt} (h : PartAt H l ps) : PartAt H' l ps := by
  obtain ⟨xs, h1, h2⟩ := h
  exact ⟨xs, s _ _ h1, h2.same s⟩
/-- .. as data -/
def numD : Option Int → PyData
  | none => .none
  | some i => .int i
def dPt (ps : Pt) : PyData := .list (ps.map fun p => .tuple [.str p.1, numD p.2])
theorem dp_num {H : Hp} (x : Option Int) : Dp K H (numV x) (numD x) := by
  cases x with
  | none => exact .non
  | some i => exact .int i
theorem PairsAt.dp {H : Hp} : ∀ {xs : List V} {ps : Pt}, PairsAt H xs ps → DpAll K H xs (ps.map fun p => .tuple [.str p.1, numD p.2])
  | [], [], _ => .nil
  | x :: xs, p :: ps, ⟨⟨q, e, hq⟩, r⟩ => by
    subst e
    exact .cons (.tup (sqT hq) (.cons (.str _) (.cons (dp_num _) .nil))) (PairsAt.dp r)
theorem PartAt.dp {H : Hp} {l : Addr} {ps : Pt} (h : PartAt H l ps) : Dp K H (.ref l) (dPt ps) := by
  obtain ⟨xs, h1, h2⟩ := h
  exact .lst (sqL h1) h2.dp
theorem numD_inj {x y : Option Int} (h : numD x = numD y) : x = y := by
  cases x <;> cases y <;> simp [numD] at h ⊢
  exact h
theorem dPt_inj {ps qs : Pt} : dPt ps = dPt qs ↔ ps = qs := by
  constructor
  · intro h
    have h' := PyData.list.inj h
    refine (List.map_inj_right (fun a b q => ?_)).mp h'
    have q1 := PyData.tuple.inj q
    simp only [List.cons.injEq, PyData.str.injEq, and_true] at q1
    exact Prod.ext q1.1 (numD_inj q1.2)
  · intro h; rw [h]
/-- texts that may be laid down: names are such -/
theorem nm_strOk {s : Str} (h : isNm s) : PyData.strOk s = true := by
  obtain ⟨h1, h2, h3⟩ := h
  unfold PyData.strOk
  rw [← Array.all_toList, List.all_eq_true]
  intro c hc
  have := h3 c hc
  simp
  omega
theorem gd_dPt {ps : Pt} (h : ∀ p ∈ ps, isNm p.1) : gd 2 (dPt ps) = true := by
  simp only [dPt, gd]
  rw [List.all_eq_true]
  intro x hx
  obtain ⟨p, hp, rfl⟩ := List.mem_map.mp hx
  have h1 : gd 0 (.str p.1) = true := by simp only [gd]; exact nm_strOk (h p hp)
  have h2 : gd 0 (numD p.2) = true := by cases p.2 <;> rfl
  show ([PyData.str p.1, numD p.2].all (gd 0)) = true
  simp only [List.all_cons, List.all_nil, h1, h2, Bool.and_true]
end
end Nk
namespace Nk
open PySem L2
section
variable {P : Program} {w : World} {K : PySem.W.Frag} {mg : Str → Option Value} {base : Heap}
abbrev letters : Str := "abcdefghijklmnopqrstuvwxyz"
theorem letters_in (c : Nat) : c ∈ letters.cps.toList ↔ 97 ≤ c ∧ c ≤ 122 := by
  have e : letters.cps.toList = (List.range 26).map (· + 97) := by decide +kernel
  rw [e, List.mem_map]
  constructor
  · rintro ⟨k, hk, rfl⟩
    have := List.mem_range.mp hk
    omega
  · intro h
    exact ⟨c - 97, List.mem_range.mpr (by omega), by omega⟩
def isNameV : V → Bool
  | .str s => decide (isNm s)
  | _ => false
/-- texts are not too long -/
def ShortS (x : V) : Prop := ∀ s, x = .str s → s.cps.size ≤ 1000
theorem isNm_all {s : Str} (h1 : 1 ≤ s.cps.toList.length) (h2 : s.cps.toList.length ≤ 6) : decide (isNm s) = (s.cps.toList.map fun c => decide (c ∈ letters.cps.toList)).all id := by
  rw [Bool.eq_iff_iff, decide_eq_true_eq, List.all_map, List.all_eq_true]
  unfold isNm
  constructor
  · rintro ⟨_, _, h⟩ c hc
    simp only [Function.comp, id, decide_eq_true_eq]
    exact (letters_in c).mpr (h c hc)
  · intro h
    refine ⟨h1, h2, fun c hc => (letters_in c).mp ?_⟩
    have := h c hc
    simpa only [Function.comp, id, decide_eq_true_eq] using this
abbrev nm_is_name : List Str := ["thing", "sign"]
abbrev pm_is_name : List Str := ["thing"]
abbrev lv_is_name : Nat := 1
theorem sc_is_name : FnScope nm_is_name pm_is_name (defScope s_is_name) := ⟨rfl, rfl, rfl, by decide +kernel, rfl, by decide +kernel, by decide +kernel⟩
def sp_is_name (K : PySem.W.Frag) : Sp := fun vs H Q _ => ∃ (x : V) (n : String), vs = [x] ∧ Thing K H x n ∧ ShortS x ∧ ∀ H', Same H H' → Q (.bl (isNameV x)) H'
theorem f_is_name (T : Txt K mg) : Fk P w K mg base CX0 lv_is_name "is_name" pm_is_name (sp_is_name K) := by
  obtain ⟨f, fd, F, g, b⟩ := T.d_is_name.ex
  refine ⟨f, fd, g, F.kp, b, F.ok sc_is_name (fun vs H Q E h => ?_) (fun cdv A outer s H vs Q E hr h => ?_)⟩
  · obtain ⟨x, n, rfl, _⟩ := h; rfl
  · obtain ⟨x, n, rfl, hx, hs, q⟩ := h
    refine ⟨_, (pss_one (ps_ret (pe_and (pe_callB call_isi (by rfl) T.b_isinstance (by decide +kernel) (pa_cons (pv 0) (pa_cons (pe_bltn (v := .ty "str") (by rfl) T.b_str (by decide +kernel) rfl) pa_nil))) (pe_and (pe_chain op_le op_le pe_int (pe_callB call_len_str (by rfl) T.b_len PySem.boot_len (pa_cons (pv 0) pa_nil)) pe_int) (pe_one (pe_callB (cr_all rfl) (by rfl) T.b_all (by decide +kernel) (pa_cons (pe_lc (own := [("sign", 1)]) (g := gName 1) (tt := tYes) (by rfl) sc_is_name.nd (pi_str (pv 0)) (blkOk_by (own := [("sign", 1)]) (N := nm_is_name) (sc := defScope s_is_name) (by decide +kernel)) (fun _ _ _ _ _ => (pg_name (i := 1) sc_is_name.nd rfl (Or.inl rfl))) (fun _ _ _ _ _ => pts_nil) (fun _ _ _ _ _ => (pe_cmpR op_in_sign (pv 1) (pe_globS T.c_LETTERS (by rfl)) (by rfl)))) pa_nil))))))), ?_⟩
    walk_at "rd"
    refine isi_thing hx (by decide) ?_
    cases hx with
    | str s =>
      have hz := hs s rfl
      have hl : s.length = s.cps.toList.length := Array.length_toList.symm
      have hz' : s.cps.toList.length ≤ 1000 := by rw [Array.length_toList]; exact hz
      refine ⟨true, rfl, ?_⟩
      walk_at "rd"
      refine ⟨by rw [hl]; exact sz (by omega), ?_⟩
      rw [hl]
      by_cases c1 : 1 ≤ s.cps.toList.length
      · by_cases c2 : s.cps.toList.length ≤ 6
        · have d1 : (1 : Int) ≤ (s.cps.toList.length : Int) := by omega
          have d2 : (s.cps.toList.length : Int) ≤ 6 := by omega
          simp only [d1, d2]
          walk_at "ru"
          intro D hD
          refine lc_it walk_str (LcP H D fun i => (s.cps.toList.take i).map fun c => .bl (decide (c ∈ letters.cps.toList))) ⟨same_upd hD, upd_same⟩ (fun _ _ _ _ => trivial) (fun i x H2 H3 hi p hy => ?_) (fun H2 p => ?_)
          · obtain ⟨rfl, c, hc, rfl⟩ := hy
            walk_at "ru"
            have hc' : s.cps.toList[i]? = some c := by rw [Array.getElem?_toList]; exact hc
            exact ⟨c, rfl, p.push hD (by simp; omega) (Same.refl _) (map_take_next _ hc')⟩
          · refine ⟨D, s.cps.toList.map fun c => decide (c ∈ letters.cps.toList), rfl, ?_, ?_⟩
            · have := p.at_
              rw [← Array.length_toList, List.take_length] at this
              rw [List.map_map]
              exact sqL this
            · rw [← isNm_all c1 c2]
              exact q H2 p.same
        · have d1 : (1 : Int) ≤ (s.cps.toList.length : Int) := by omega
          have d2 : ¬ (s.cps.toList.length : Int) ≤ 6 := by omega
          simp only [d1, d2]
          walk_at "ru"
          have e : isNameV (.str s) = false := by
            simp only [isNameV, decide_eq_false_iff_not]
            rintro ⟨_, h, _⟩
            exact c2 h
          rw [e] at q
          exact q _ (Same.refl _)
      · have d1 : ¬ (1 : Int) ≤ (s.cps.toList.length : Int) := by omega
        simp only [d1]
        walk_at "ru"
        have e : isNameV (.str s) = false := by
          simp only [isNameV, decide_eq_false_iff_not]
          rintro ⟨h, _⟩
          exact c1 h
        rw [e] at q
        exact q _ (Same.refl _)
    | _ => exact ⟨false, rfl, q _ (Same.refl _)⟩
theorem ShortS.nm {s : Str} (h : isNm s) : ShortS (.str s) := fun s' e => by
  cases e
  have := h.2.1
  rw [Array.length_toList] at this
  omega
theorem isNameV_nm {s : Str} (h : isNm s) : isNameV (.str s) = true := by
  simp only [isNameV, decide_eq_true_eq]
  exact h
theorem tyD {H : Hp} {d : Addr} {kvs : List (Key × V)} (h : H d = some (.dK kvs)) : tyV K "dict" (.ref d) H := .inr (.inr (.inl ⟨rfl, .inl ⟨_, h⟩⟩))
/-- a locked dict is left as it was -/
theorem unlock {H H1 H2 : Hp} {d : Addr} {od : Obj} {u : HO} (hd : H d = some u) (e : upd H d (.frz od u) = H1) (s : Same H1 H2) : H2 d = some (.frz od u) ∧ Same H (upd H2 d u) := by
  subst e
  refine ⟨s _ _ upd_same, fun b o hb => ?_⟩
  by_cases c : b = d
  · subst c
    rw [hb] at hd
    cases hd
    exact upd_same
  · rw [upd_ne c]
    exact s _ _ (by rw [upd_ne c]; exact hb)
abbrev nm_is_state : List Str := ["thing", "name"]
abbrev pm_is_state : List Str := ["thing"]
abbrev lv_is_state : Nat := 2
theorem sc_is_state : FnScope nm_is_state pm_is_state (defScope s_is_state) := ⟨rfl, rfl, rfl, by decide +kernel, rfl, by decide +kernel, by decide +kernel⟩
def sp_is_state : Sp := fun vs H Q _ => ∃ (d : Addr) (t : Tb), vs = [.ref d] ∧ H d = some (.dK (kvsT t)) ∧ OkT t ∧ t.length ≤ 20 ∧ ∀ H', Same H H' → Q (.bl true) H'
theorem f_is_state (T : Txt K mg) : Fk P w K mg base CX0 lv_is_state "is_state" pm_is_state sp_is_state := by
  obtain ⟨f, fd, F, g, b⟩ := T.d_is_state.ex
  refine ⟨f, fd, g, F.kp, b, F.ok sc_is_state (fun vs H Q E h => ?_) (fun cdv A outer s H vs Q E hr h => ?_)⟩
  · obtain ⟨d, t, rfl, _⟩ := h; rfl
  · obtain ⟨d, t, rfl, hd, ok, hl, q⟩ := h
    have hu := hu_of hr
    refine ⟨_, (pss_cons (ps_if (PW.pt (pw_or (pt_not (pt_val (pe_callB call_isi (by rfl) T.b_isinstance (by decide +kernel) (pa_cons (pv 0) (pa_cons (pe_bltn (v := .ty "dict") (by rfl) T.b_dict (by decide +kernel) rfl) pa_nil))))) (pw_or1 (pt_cmpR op_gt (pe_callB call_lenD (by rfl) T.b_len PySem.boot_len (pa_cons (pv 0) pa_nil)) (pe_globI T.c_MOST_NAMES (by rfl)) (nomark _))))) (pss_one (ps_ret pe_bl)) pss_nil)
      (pss_one (ps_ret (pe_callB (cr_all rfl) (by rfl) T.b_all (by decide +kernel) (pa_cons (pe_lock (pe_lc (own := [("name", 1)]) (g := gName 1) (tt := tYes) (by rfl) sc_is_state.nd (pi_keysM (pv 0)) (blkOk_by (own := [("name", 1)]) (N := nm_is_state) (sc := defScope s_is_state) (by decide +kernel)) (fun _ _ _ _ _ => (pg_name (i := 1) sc_is_state.nd rfl (Or.inl rfl))) (fun _ _ _ _ _ => pts_nil) (fun _ _ _ _ _ => (pe_and (pe_fn (f_is_name T) (hr.mono (by decide)) (by rfl) pass0 (pa_cons (pv 1) pa_nil)) (pe_one (pe_fn (f_is_number T) (hr.mono (by decide)) (by rfl) pass0 (pa_cons (pe_dget hu (pv 0) (pv 1) (fun _ _ => rfl)) (pa_cons pe_int (pa_cons pe_int pa_nil))))))))) pa_nil))))), ?_⟩
    with_reducible refine seq_k fun K_ hK_ => ?_
    walk_at "ru"
    refine isi_thing (.dic hd) (by decide) ⟨true, rfl, ?_⟩
    walk_at "ru"
    refine ⟨_, hd, ?_⟩
    rw [kvsT_len, if_neg (by omega)]
    walk_at "ru"
    subst hK_
    first | with_reducible refine seq_k fun K_ hK_ => ?_ | skip
    walk_at "ru"
    refine ⟨d, _, hd, trivial, fun od => ?_⟩
    generalize hG : upd H d (.frz od (.dK (kvsT t))) = H1
    have hd1 : H1 d = some (.frz od (.dK (kvsT t))) := by rw [← hG]; exact upd_same
    have un := fun {H2 : Hp} (s : Same H1 H2) => unlock hd hG s
    walk_at "ru"
    refine ⟨od, _, hd1, fun D hD => ?_⟩
    refine lc_it walk_keys (LcP H1 D fun i => (t.take i).map fun _ => .bl true) ⟨same_upd hD, upd_same⟩ (fun _ _ _ p => p.same _ _ hd1) (fun i x H2 H3 hi p hy => ?_) (fun H2 p => ?_)
    · obtain ⟨rfl, k, v, hk, rfl⟩ := hy
      unfold kvsT at hk
      rw [List.getElem?_map] at hk
      cases e : t[i]? with
      | none => rw [e] at hk; cases hk
      | some pr =>
        rw [e] at hk
        cases hk
        have hm := mem_of_get e
        have hn := ok.nm _ hm
        have hn2 := ok.num _ hm
        walk_at "ru"
        refine ⟨_, _, rfl, .str pr.1, ShortS.nm hn, fun H4 s4 => ?_⟩
        rw [isNameV_nm hn]
        walk_at "ru"
        have hval : valV (kvsT t) (Sum.inr pr.1) = some (.int pr.2) := by rw [kvsT_val, lk_of ok.nd hm]; rfl
        refine ⟨_, .inl ⟨_, Sum.inr pr.1, .inr ⟨od, (p.same.trans s4) _ _ hd1⟩, rfl, hval.symm⟩, _, _, 0, _, rfl, .int _, fun _ _ => ⟨99, rfl⟩, ?_⟩
        have e2 : isNumV (.int pr.2) 0 (.int 99) = true := by simp [isNumV, hn2]
        rw [e2]
        exact p.push hD (by simp; omega) s4 (map_take_next _ e)
    · obtain ⟨hl2, s2⟩ := un p.same
      refine ⟨hl2, D, (t.take t.length).map fun _ => true, rfl, ?_, ?_⟩
      · have := p.at_
        rw [kvsT_len] at this
        rw [List.map_map]
        refine sqL ?_
        rw [upd_ne (ne_of_none hd1 hD).symm]
        exact this
      · have e : ((t.take t.length).map fun _ => true).all id = true := by simp
        rw [e]
        exact q _ s2
abbrev nm_State____init__ : List Str := ["self", "some"]
abbrev pm_State____init__ : List Str := ["self", "some"]
abbrev lv_State____init__ : Nat := 3
theorem sc_State____init__ : FnScope nm_State____init__ pm_State____init__ (defScope s_State____init__) := ⟨rfl, rfl, rfl, by decide +kernel, rfl, by decide +kernel, by decide +kernel⟩
def sp_State____init__ (mg : Str → Option Value) : Sp := fun vs H Q _ => ∃ (k dx d : Addr) (t : Tb), vs = [.ref k, .ref d] ∧ H k = some (.ins (cls mg "State") dx []) ∧ H d = some (.dK (kvsT t)) ∧ OkT t ∧ t.length ≤ 20 ∧
  ∀ H', (∀ b o, H b = some o → b ≠ k → H' b = some o) → StAt mg H' k t → (∃ dx d, H d = none ∧ H' k = some (.ins (cls mg "State") dx [("table", .ref d)]) ∧ H' d = some (.dK (kvsT t))) → Q .non H'
theorem f_State____init__ (T : Txt K mg) : Mo P w K mg base CX0 lv_State____init__ "State" "__init__" pm_State____init__ (sp_State____init__ mg) := by
  obtain ⟨f, fd, F, g, b⟩ := T.m_State____init__.ex
  refine ⟨f, fd, g, b, F.ok sc_State____init__ (fun vs H Q E h => ?_) (fun cdv A outer s H vs Q E hr h => ?_)⟩
  · obtain ⟨k, dx, d, t, rfl, _⟩ := h; rfl
  · obtain ⟨k, dx, d, t, rfl, hk, hd, ok, hl, q⟩ := h
    refine ⟨_, (pss_cons (ps_if (pt_not (pt_val (pe_fn (f_is_state T) (hr.mono (by decide)) (by rfl) pass0 (pa_cons (pv 1) pa_nil)))) (pss_one ps_never) pss_nil)
      (pss_one (ps_fld (pv 0) (pe_callTy call_dictD (by rfl) T.b_dict (by decide +kernel) (pa_cons (pv 1) pa_nil)) rfl))), ?_⟩
    with_reducible refine seq_k fun K_ hK_ => ?_
    walk_at "ru"
    refine ⟨d, t, rfl, hd, ok, hl, fun H1 s1 => ⟨true, rfl, ?_⟩⟩
    rw [if_neg (by simp)]
    walk_at "ru"
    subst hK_
    first | with_reducible refine seq_k fun K_ hK_ => ?_ | skip
    walk_at "ru"
    refine ⟨_, .inl (s1 _ _ hd), fun p hp => ?_⟩
    have hk1 := s1 _ _ hk
    have hkp : k ≠ p := ne_of_none hk1 hp
    refine ⟨_, dx, _, by rw [upd_ne hkp]; exact hk1, T.o_State.cl, T.n_State__table, (by show (0 : Nat) < 1000; decide), ?_⟩
    refine q _ (fun b o hb hbk => ?_) ⟨⟨dx, p, upd_same, by rw [upd_ne hkp.symm]; exact upd_same⟩, ok, hl⟩ ⟨dx, p, s1.free hp, upd_same, by rw [upd_ne hkp.symm]; exact upd_same⟩
    have hb1 := s1 _ _ hb
    rw [upd_ne hbk, upd_ne (ne_of_none hb1 hp)]
    exact hb1
/-- State(table) -/
theorem state_new {H : Hp} {d : Addr} {t : Tb} {Q : Addr → Hp → Prop} {E : XK} (hd : H d = some (.dK (kvsT t))) (ok : OkT t) (hl : t.length ≤ 20) (q : ∀ k H', Same H H' → H k = none → StAt mg H' k t → Q k H') :
    ∀ x dx : Addr, H x = none → H dx = none → dx ≠ x → sp_State____init__ mg [.ref x, .ref d] (upd (upd H dx (.own x)) x (.ins (cls mg "State") dx [])) (fun v H2 => v = .non ∧ Q x H2) E := by
  intro x dx hx hdx hne
  have s1 : Same H (upd (upd H dx (.own x)) x (.ins (cls mg "State") dx [])) := fun b o hb => by
    rw [upd_ne (ne_of_none hb hx), upd_ne (ne_of_none hb hdx)]
    exact hb
  exact ⟨x, dx, d, t, rfl, upd_same, s1 _ _ hd, ok, hl, fun H' st hS _ => ⟨rfl, q x H' (fun b o hb => st b o (s1 _ _ hb) (ne_of_none hb hx)) hx hS⟩⟩
/-- State(table), and where its dict stands -/
theorem state_newF {H : Hp} {d : Addr} {t : Tb} {Q : Addr → Hp → Prop} {E : XK} (hd : H d = some (.dK (kvsT t))) (ok : OkT t) (hl : t.length ≤ 20) (q : ∀ k dx e H', Same H H' → H k = none → H e = none → H' k = some (.ins (cls mg "State") dx [("table", .ref e)]) → H' e = some (.dK (kvsT t)) → Q k H') :
    ∀ x dx : Addr, H x = none → H dx = none → dx ≠ x → sp_State____init__ mg [.ref x, .ref d] (upd (upd H dx (.own x)) x (.ins (cls mg "State") dx [])) (fun v H2 => v = .non ∧ Q x H2) E := by
  intro x dx hx hdx hne
  have s1 : Same H (upd (upd H dx (.own x)) x (.ins (cls mg "State") dx [])) := fun b o hb => by
    rw [upd_ne (ne_of_none hb hx), upd_ne (ne_of_none hb hdx)]
    exact hb
  refine ⟨x, dx, d, t, rfl, upd_same, s1 _ _ hd, ok, hl, fun H' st hS hF => ⟨rfl, ?_⟩⟩
  obtain ⟨dx', e, h1, h2, h3⟩ := hF
  exact q x dx' e H' (fun b o hb => st b o (s1 _ _ hb) (ne_of_none hb hx)) hx (s1.free h1) h2 h3
abbrev nm_State____len__ : List Str := ["self"]
abbrev pm_State____len__ : List Str := ["self"]
abbrev lv_State____len__ : Nat := 1
theorem sc_State____len__ : FnScope nm_State____len__ pm_State____len__ (defScope s_State____len__) := ⟨rfl, rfl, rfl, by decide +kernel, rfl, by decide +kernel, by decide +kernel⟩
def sp_State____len__ (mg : Str → Option Value) : Sp := fun vs H Q _ => ∃ (p : Addr) (t : Tb), vs = [.ref p] ∧ StAt mg H p t ∧ Q (.int t.length) H
theorem f_State____len__ (T : Txt K mg) : Mo P w K mg base CX0 lv_State____len__ "State" "__len__" pm_State____len__ (sp_State____len__ mg) := by
  obtain ⟨f, fd, F, g, b⟩ := T.m_State____len__.ex
  refine ⟨f, fd, g, b, F.ok sc_State____len__ (fun vs H Q E h => ?_) (fun cdv A outer s H vs Q E hr h => ?_)⟩
  · obtain ⟨p, t, rfl, _⟩ := h; rfl
  · obtain ⟨p, t, rfl, hS, q⟩ := h
    refine ⟨_, (pss_one (ps_ret (pe_callB call_lenD (by rfl) T.b_len PySem.boot_len (pa_cons (pe_fld (pv 0) rfl) pa_nil)))), ?_⟩
    obtain ⟨dx, d, h1, h2⟩ := hS.ex
    walk_at "ru"
    refine ⟨_, dx, _, h1, T.o_State.cl, T.n_State__table, _, rfl, d, rfl, _, h2, ?_⟩
    rw [kvsT_len]
    exact q
abbrev nm_State____eq__ : List Str := ["self", "other"]
abbrev pm_State____eq__ : List Str := ["self", "other"]
abbrev lv_State____eq__ : Nat := 1
theorem sc_State____eq__ : FnScope nm_State____eq__ pm_State____eq__ (defScope s_State____eq__) := ⟨rfl, rfl, rfl, by decide +kernel, rfl, by decide +kernel, by decide +kernel⟩
def sp_State____eq__ (mg : Str → Option Value) : Sp := fun vs H Q _ => ∃ (p q : Addr) (t u : Tb), vs = [.ref p, .ref q] ∧ StAt mg H p t ∧ StAt mg H q u ∧ Q (.bl (eqDk (kvsT t) (kvsT u))) H
theorem f_State____eq__ (T : Txt K mg) : Mo P w K mg base CX0 lv_State____eq__ "State" "__eq__" pm_State____eq__ (sp_State____eq__ mg) := by
  obtain ⟨f, fd, F, g, b⟩ := T.m_State____eq__.ex
  refine ⟨f, fd, g, b, F.ok sc_State____eq__ (fun vs H Q E h => ?_) (fun cdv A outer s H vs Q E hr h => ?_)⟩
  · obtain ⟨p, q, t, u, rfl, _⟩ := h; rfl
  · obtain ⟨p, q, t, u, rfl, hS, hU, q0⟩ := h
    refine ⟨_, (pss_one (ps_ret (pe_and (pe_callB call_isi (by rfl) T.b_isinstance (by decide +kernel) (pa_cons (pv 1) (pa_cons (pe_glob (v := .ref (cls mg "State")) (by rfl) T.o_State.g rfl) pa_nil))) (pe_one (pe_cmpR (op_eqDk hr.units0) (pe_fld (pv 0) rfl) (pe_fld (pv 1) rfl) (nomark _)))))), ?_⟩
    obtain ⟨dx, d, h1, h2⟩ := hS.ex
    obtain ⟨dy, e, h3, h4⟩ := hU.ex
    walk_at "ru"
    refine isi_own T.o_State T.v_State h3 ⟨true, rfl, ?_⟩
    walk_at "ru"
    refine ⟨_, dx, _, h1, T.o_State.cl, T.n_State__table, _, rfl, _, dy, _, h3, T.o_State.cl, T.n_State__table, _, rfl, d, e, _, _, rfl, rfl, h2, h4, kvsT_flat, kvsT_flat, q0⟩
abbrev nm_State__number : List Str := ["self", "name"]
abbrev pm_State__number : List Str := ["self", "name"]
abbrev lv_State__number : Nat := 2
theorem sc_State__number : FnScope nm_State__number pm_State__number (defScope s_State__number) := ⟨rfl, rfl, rfl, by decide +kernel, rfl, by decide +kernel, by decide +kernel⟩
def lkV (t : Tb) : V → Option Int
  | .str s => lk t s
  | _ => none
def sp_State__number (K : PySem.W.Frag) (mg : Str → Option Value) : Sp := fun vs H Q _ => ∃ (p : Addr) (t : Tb) (x : V) (n : String), vs = [.ref p, x] ∧ StAt mg H p t ∧ Thing K H x n ∧ ShortS x ∧ ∀ H', Same H H' → Q (numV (lkV t x)) H'
theorem f_State__number (T : Txt K mg) : Mo P w K mg base CX0 lv_State__number "State" "number" pm_State__number (sp_State__number K mg) := by
  obtain ⟨f, fd, F, g, b⟩ := T.m_State__number.ex
  refine ⟨f, fd, g, b, F.ok sc_State__number (fun vs H Q E h => ?_) (fun cdv A outer s H vs Q E hr h => ?_)⟩
  · obtain ⟨p, t, x, n, rfl, _⟩ := h; rfl
  · obtain ⟨p, t, x, n, rfl, hS, hx, hs, q⟩ := h
    have hu := hu_of hr
    refine ⟨_, (pss_one (ps_ret (pe_ifExp (PW.pt (pw_and (pt_val (pe_fn (f_is_name T) (hr.mono (by decide)) (by rfl) pass0 (pa_cons (pv 1) pa_nil))) (pw_and1 (pt_cmp (pc_din hu (pv 1) (pe_fld (pv 0) rfl)))))) (pe_dget hu (pe_fld (pv 0) rfl) (pv 1) (fun _ _ => rfl)) pe_non))), ?_⟩
    obtain ⟨dx, d, h1, h2⟩ := hS.ex
    walk_at "ru"
    refine ⟨x, n, rfl, hx, hs, fun H1 s1 => ⟨_, rfl, ?_⟩⟩
    cases hnm : isNameV x with
    | false =>
      rw [if_neg Bool.false_ne_true]
      have e : lkV t x = none := by
        cases x with
        | str s =>
          simp only [lkV]
          rw [lk_none]
          intro hm
          obtain ⟨pr, hp, rfl⟩ := List.mem_map.mp hm
          rw [isNameV_nm (hS.ok.nm _ hp)] at hnm
          cases hnm
        | _ => rfl
      rw [e] at q
      walk_at "ru"
      exact q H1 s1
    | true =>
      rw [if_pos rfl]
      obtain ⟨s, rfl⟩ : ∃ s, x = .str s := by
        cases x with
        | str s => exact ⟨s, rfl⟩
        | _ => cases hnm
      walk_at "ru"
      refine ⟨_, dx, _, s1 _ _ h1, T.o_State.cl, T.n_State__table, _, rfl, d, rfl, _, DGet.k (k := Sum.inr s) (s1 _ _ h2), ?_⟩
      rw [kvsT_val]
      cases e : lk t s with
      | none =>
        rw [if_neg (by simp)]
        have := q H1 s1
        simpa only [lkV, e, numV] using this
      | some i =>
        walk_at "ru"
        refine ⟨_, dx, _, s1 _ _ h1, T.o_State.cl, T.n_State__table, _, rfl, d, rfl, .int i, ?_, ?_⟩
        · have := DGet.k (k := Sum.inr s) (s1 _ _ h2)
          rw [kvsT_val, e] at this
          exact this
        · have := q H1 s1
          simpa only [lkV, e, numV] using this
abbrev nm_State__names : List Str := ["self"]
abbrev pm_State__names : List Str := ["self"]
abbrev lv_State__names : Nat := 1
theorem sc_State__names : FnScope nm_State__names pm_State__names (defScope s_State__names) := ⟨rfl, rfl, rfl, by decide +kernel, rfl, by decide +kernel, by decide +kernel⟩
def sp_State__names (mg : Str → Option Value) : Sp := fun vs H Q _ => ∃ (p : Addr) (t : Tb), vs = [.ref p] ∧ StAt mg H p t ∧ ∀ l H', Same H H' → H l = none → H' l = some (.lst ((srt (nms t)).map V.str)) → Q (.ref l) H'
theorem f_State__names (T : Txt K mg) : Mo P w K mg base CX0 lv_State__names "State" "names" pm_State__names (sp_State__names mg) := by
  obtain ⟨f, fd, F, g, b⟩ := T.m_State__names.ex
  refine ⟨f, fd, g, b, F.ok sc_State__names (fun vs H Q E h => ?_) (fun cdv A outer s H vs Q E hr h => ?_)⟩
  · obtain ⟨p, t, rfl, _⟩ := h; rfl
  · obtain ⟨p, t, rfl, hS, q⟩ := h
    refine ⟨_, (pss_one (ps_ret (pe_callB (cr_sortedKS rfl) (by rfl) T.b_sorted (by decide +kernel) (pa_cons (pe_bm0 PySem.F.plainAttrs_dict PySem.F.slot_dict_keys PySem.F.type_dict_keys mt_keys (pe_fld (pv 0) rfl)) pa_nil)))), ?_⟩
    obtain ⟨dx, d, h1, h2⟩ := hS.ex
    walk_at "ru"
    refine ⟨_, dx, _, h1, T.o_State.cl, T.n_State__table, _, rfl, tyD h2, d, _, rfl, rfl, h2, fun v hv => ?_⟩
    generalize hG : upd H v (KeysO v d) = H1
    obtain ⟨s1, hv1⟩ := newF hv hG
    clear hG
    refine ⟨v, d, _, nms t, rfl, hv1, s1 _ _ h2, kvsT_keys, hS.ok.nd, fun ys l h3 h4 hl => ?_⟩
    have e : ys = srt (nms t) := srt_uniq h3 pw_srt fun k => by rw [h4, mem_srt]
    subst e
    exact q l _ (s1.trans (same_upd hl)) (s1.free hl) upd_same
end
end Nk
namespace Nk
open PySem L2
section
variable {P : Program} {w : World} {K : PySem.W.Frag} {mg : Str → Option Value} {base : Heap}
/-- things, down to a depth, their texts short -/
def DS (K : PySem.W.Frag) (H : Hp) : Nat → V → Prop
  | 0, x => (∃ n, Thing K H x n) ∧ ShortS x
  | k + 1, x => ((∃ n, Thing K H x n) ∧ ShortS x) ∧ ∀ a xs, x = .ref a → (H a = some (.tup xs) ∨ H a = some (.lst xs)) → xs.length ≤ 100000 ∧ ∀ y ∈ xs, DS K H k y
theorem DS.th {H : Hp} {k : Nat} {x : V} (h : DS K H k x) : (∃ n, Thing K H x n) ∧ ShortS x := by
  cases k with
  | zero => exact h
  | succ k => exact h.1
theorem DS.same {H H' : Hp} (s : Same H H') : ∀ {k : Nat} {x : V}, DS K H k x → DS K H' k x
  | 0, _, ⟨⟨n, h⟩, z⟩ => ⟨⟨n, Thing.same s h⟩, z⟩
  | k + 1, x, ⟨⟨⟨n, h⟩, z⟩, hi⟩ => by
    refine ⟨⟨⟨n, Thing.same s h⟩, z⟩, fun a xs e ha => ?_⟩
    have back : H a = some (.tup xs) ∨ H a = some (.lst xs) := by
      subst e
      cases h with
      | lst h => have := s _ _ h; rw [this] at ha; rcases ha with z | z <;> cases z; exact .inr h
      | tup h => have := s _ _ h; rw [this] at ha; rcases ha with z | z <;> cases z; exact .inl h
      | dic h => have := s _ _ h; rw [this] at ha; rcases ha with z | z <;> cases z
    obtain ⟨h1, h2⟩ := hi a xs e back
    exact ⟨h1, fun y hy => DS.same s (h2 y hy)⟩
def isNum0V (m : V) : Bool := match m with
  | .non => true
  | m => isNumV m 0 (.int 99)
def isPairV (H : Hp) (x : V) : Bool := match x with
  | .ref a => match H a with
    | some (.tup [n, m]) => isNameV n && isNum0V m
    | _ => false
  | _ => false
def nameOf (H : Hp) (x : V) : Str := match x with
  | .ref a => match H a with
    | some (.tup (.str s :: _)) => s
    | _ => Str.empty
  | _ => Str.empty
def isPartV (H : Hp) (x : V) : Bool := match x with
  | .ref a => match H a with
    | some (.lst xs) => decide (xs.length ≤ 40) && xs.all (isPairV H) && decide ((xs.map (nameOf H)).Pairwise sl)
    | _ => false
  | _ => false
theorem isPairV_same {H H' : Hp} (s : Same H H') {k : Nat} {x : V} (h0 : DS K H k x) : isPairV H' x = isPairV H x := by
  obtain ⟨⟨n, h⟩, _⟩ := h0.th
  clear h0
  cases h with
  | lst h => simp only [isPairV, h, s _ _ h]
  | tup h => simp only [isPairV, h, s _ _ h]
  | dic h => simp only [isPairV, h, s _ _ h]
  | _ => rfl
theorem nameOf_same {H H' : Hp} (s : Same H H') {k : Nat} {x : V} (h0 : DS K H k x) : nameOf H' x = nameOf H x := by
  obtain ⟨⟨n, h⟩, _⟩ := h0.th
  clear h0
  cases h with
  | lst h => simp only [nameOf, h, s _ _ h]
  | tup h => simp only [nameOf, h, s _ _ h]
  | dic h => simp only [nameOf, h, s _ _ h]
  | _ => rfl
theorem isPartV_same {H H' : Hp} (s : Same H H') {x : V} (h : DS K H 2 x) : isPartV H' x = isPartV H x := by
  obtain ⟨⟨⟨n, h⟩, _⟩, hi⟩ := h
  cases h with
  | @lst a xs h =>
    obtain ⟨_, h2⟩ := hi a xs rfl (.inr h)
    simp only [isPartV, h, s _ _ h]
    have e1 : xs.all (isPairV H') = xs.all (isPairV H) := by
      rw [Bool.eq_iff_iff, List.all_eq_true, List.all_eq_true]
      exact ⟨fun z x hx => by rw [← isPairV_same s (h2 x hx)]; exact z x hx, fun z x hx => by rw [isPairV_same s (h2 x hx)]; exact z x hx⟩
    have e2 : xs.map (nameOf H') = xs.map (nameOf H) := List.map_congr_left fun x hx => nameOf_same s (h2 x hx)
    rw [e1, e2]
  | tup h => simp only [isPartV, h, s _ _ h]
  | dic h => simp only [isPartV, h, s _ _ h]
  | _ => rfl
/-! neighbours in order -/
def adjL (l : List Str) : List Bool := (l.zip (l.drop 1)).map fun p => decide (sl p.1 p.2)
theorem adjL_get {l : List Str} {i : Nat} {x y : Str} (h1 : l[i]? = some x) (h2 : l[i + 1]? = some y) : (adjL l)[i]? = some (decide (sl x y)) := by
  unfold adjL
  have e : (l.zip (l.drop 1))[i]? = some (x, y) := List.getElem?_zip_eq_some.mpr ⟨h1, by rw [List.getElem?_drop, Nat.add_comm]; exact h2⟩
  rw [List.getElem?_map, e]
  rfl
theorem adjL_len {l : List Str} : (adjL l).length = l.length - 1 := by
  unfold adjL
  simp
theorem adjL_all : ∀ {l : List Str}, (adjL l).all id = decide (l.Pairwise sl)
  | [] => by simp [adjL]
  | [x] => by simp [adjL]
  | x :: y :: r => by
    have ih := adjL_all (l := y :: r)
    have e : adjL (x :: y :: r) = decide (sl x y) :: adjL (y :: r) := by simp [adjL]
    rw [e, List.all_cons, ih, Bool.eq_iff_iff]
    simp only [id, Bool.and_eq_true, decide_eq_true_eq]
    constructor
    · rintro ⟨h1, h2⟩
      refine List.pairwise_cons.mpr ⟨fun z hz => ?_, h2⟩
      rcases List.mem_cons.mp hz with c | c
      · rw [c]; exact h1
      · exact sl_trans h1 ((List.pairwise_cons.mp h2).1 z c)
    · intro h
      obtain ⟨h1, h2⟩ := List.pairwise_cons.mp h
      exact ⟨h1 y List.mem_cons_self, h2⟩
theorem PairsAt.ds {H : Hp} : ∀ {xs : List V} {ps : Pt}, PairsAt H xs ps → (∀ p ∈ ps, isNm p.1) → ∀ x ∈ xs, DS K H 1 x
  | x :: xs, p :: ps, ⟨⟨q, e, hq⟩, r⟩, hn, y, hy => by
    rcases List.mem_cons.mp hy with z | z
    · subst z
      subst e
      refine ⟨⟨⟨_, .tup hq⟩, fun s e => nomatch e⟩, fun a ys e ha => ?_⟩
      cases e
      rw [hq] at ha
      rcases ha with z | z <;> cases z
      refine ⟨by simp, fun y hy => ?_⟩
      simp only [List.mem_cons, List.not_mem_nil, or_false] at hy
      rcases hy with rfl | rfl
      · exact ⟨⟨_, .str _⟩, ShortS.nm (hn p List.mem_cons_self)⟩
      · cases p.2 with
        | none => exact ⟨⟨_, .non⟩, fun s e => nomatch e⟩
        | some i => exact ⟨⟨_, .int i⟩, fun s e => nomatch e⟩
    · exact PairsAt.ds r (fun p hp => hn p (List.mem_cons_of_mem _ hp)) y z
theorem PairsAt.isP {H : Hp} : ∀ {xs : List V} {ps : Pt}, PairsAt H xs ps → (∀ p ∈ ps, isNm p.1) → (∀ p ∈ ps, ∀ i, p.2 = some i → 0 ≤ i ∧ i ≤ 99) → xs.all (isPairV H) = true ∧ xs.map (nameOf H) = ps.map (·.1)
  | [], [], _, _, _ => ⟨rfl, rfl⟩
  | x :: xs, p :: ps, ⟨⟨q, e, hq⟩, r⟩, hn, hm => by
    subst e
    obtain ⟨i1, i2⟩ := PairsAt.isP r (fun p hp => hn p (List.mem_cons_of_mem _ hp)) (fun p hp => hm p (List.mem_cons_of_mem _ hp))
    have h1 := hn p List.mem_cons_self
    have h2 := hm p List.mem_cons_self
    constructor
    · rw [List.all_cons, i1, Bool.and_true]
      simp only [isPairV, hq, isNameV_nm h1, Bool.true_and]
      obtain ⟨n, m⟩ := p
      cases m with
      | none => rfl
      | some i =>
        have := h2 i rfl
        simp [numV, isNum0V, isNumV, this]
    · rw [List.map_cons, List.map_cons, i2]
      simp only [nameOf, hq]
theorem PartAt.ds {H : Hp} {l : Addr} {ps : Pt} (h : PartAt H l ps) (g : GoodP ps) : DS K H 2 (.ref l) ∧ isPartV H (.ref l) = true := by
  obtain ⟨xs, h1, h2⟩ := h
  have hl := h2.len
  have g4 := g.len
  refine ⟨⟨⟨⟨_, .lst h1⟩, fun s e => nomatch e⟩, fun a ys e ha => ?_⟩, ?_⟩
  · cases e
    rw [h1] at ha
    rcases ha with z | z <;> cases z
    exact ⟨by omega, h2.ds g.nm⟩
  · obtain ⟨i1, i2⟩ := h2.isP g.nm g.num
    simp only [isPartV, h1, i1, i2, Bool.and_true, Bool.and_eq_true, decide_eq_true_eq]
    exact ⟨by omega, g.pw⟩
theorem ds_list {H : Hp} {l : Addr} {k : Nat} {xs : List V} (h : H l = some (.lst xs)) (hz : xs.length ≤ 1000) (hx : ∀ x ∈ xs, DS K H k x) : DS K H (k + 1) (.ref l) := by
  refine ⟨⟨⟨_, .lst h⟩, fun s e => nomatch e⟩, fun a ys e ha => ?_⟩
  cases e
  rw [h] at ha
  rcases ha with z | z <;> cases z
  exact ⟨by omega, hx⟩
theorem ds0 {H : Hp} {x : V} {n : String} (h : Thing K H x n) (hs : ShortS x) : DS K H 0 x := ⟨⟨n, h⟩, hs⟩
theorem ds_tup {H : Hp} {l : Addr} {k : Nat} {xs : List V} (h : H l = some (.tup xs)) (hz : xs.length ≤ 1000) (hx : ∀ x ∈ xs, DS K H k x) : DS K H (k + 1) (.ref l) := by
  refine ⟨⟨⟨_, .tup h⟩, fun s e => nomatch e⟩, fun a ys e ha => ?_⟩
  cases e
  rw [h] at ha
  rcases ha with z | z <;> cases z
  exact ⟨by omega, hx⟩
theorem short_of {s : Str} (h : s.cps.size ≤ 1000) : ShortS (.str s) := fun s' e => by cases e; exact h
theorem ds_pair {H : Hp} {l : Addr} {s : Str} {x : V} {n : String} (h : H l = some (.tup [.str s, x])) (hs : s.cps.size ≤ 1000) (hx : Thing K H x n) (hx2 : ShortS x) : DS K H 1 (.ref l) :=
  ds_tup h (by simp) fun y hy => by
    simp only [List.mem_cons, List.not_mem_nil, or_false] at hy
    rcases hy with rfl | rfl
    · exact ds0 (.str s) (short_of hs)
    · exact ds0 hx hx2
theorem room65 {k : Nat} {A : Around} (r : Room k A) : A.units + 65 < cLine := by have := r.un; omega
end
end Nk
namespace Nk
open PySem L2
section
variable {P : Program} {w : World} {K : PySem.W.Frag} {mg : Str → Option Value} {base : Heap}
theorem applyP_cons {t : Tb} {n : Str} {x : Option Int} {ps : Pt} : applyP t ((n, x) :: ps) = if lk t n = x then none else applyP (stepP t n x) ps := rfl
theorem scal_num (a b : Option Int) : scal (numV a) (numV b) = true := by cases a <;> cases b <;> rfl
theorem numV_inj {a b : Option Int} : numV a = numV b ↔ a = b := by
  cases a <;> cases b <;> simp [numV]
/-- the number of a name in a state -/
theorem num_of {H : Hp} {p : Addr} {t : Tb} {n : Str} {Q : VK} {E : XK} (hS : StAt mg H p t) (hn : isNm n) (q : ∀ H', Same H H' → Q (numV (lk t n)) H') :
    ∃ dx fs, H p = some (.ins (cls mg "State") dx fs) ∧ fs.lookup ("number" : Str) = none ∧ sp_State__number K mg [.ref p, .str n] H Q E := by
  obtain ⟨dx, d, h1, h2⟩ := hS.ex
  exact ⟨dx, _, h1, rfl, p, t, .str n, _, rfl, hS, .str n, ShortS.nm hn, q⟩
abbrev nm_part_of : List Str := ["one", "other", "names", "name"]
abbrev pm_part_of : List Str := ["one", "other"]
abbrev lv_part_of : Nat := 3
theorem sc_part_of : FnScope nm_part_of pm_part_of (defScope s_part_of) := ⟨rfl, rfl, rfl, by decide +kernel, rfl, by decide +kernel, by decide +kernel⟩
def sp_part_of (mg : Str → Option Value) : Sp := fun vs H Q _ => ∃ (p q : Addr) (t u : Tb), vs = [.ref p, .ref q] ∧ StAt mg H p t ∧ StAt mg H q u ∧ ∀ l H', Same H H' → H l = none → PartAt H' l (part t u) → Q (.ref l) H'
def iv_part_of (H1 : Hp) (D : Addr) (t u : Tb) (i : Nat) (H : Hp) : Prop := Same H1 H ∧ ∃ ys, H D = some (.lst ys) ∧ PairsAt H ys ((((srt (nms t ++ nms u)).take i).filter fun n => decide (lk t n ≠ lk u n)).map fun n => (n, lk u n))
theorem f_part_of (T : Txt K mg) : Fk P w K mg base CX0 lv_part_of "part_of" pm_part_of (sp_part_of mg) := by
  obtain ⟨f, fd, F, g, b⟩ := T.d_part_of.ex
  refine ⟨f, fd, g, F.kp, b, F.ok sc_part_of (fun vs H Q E h => ?_) (fun cdv A outer s H vs Q E hr h => ?_)⟩
  · obtain ⟨p, q, t, u, rfl, _⟩ := h; rfl
  · obtain ⟨p, q, t, u, rfl, hS, hU, q0⟩ := h
    refine ⟨_, (pss_cons (ps_set (i := 2) sc_part_of.nd rfl (.inl rfl) (pe_callB (cr_sortedSS rfl) (by rfl) T.b_sorted (by decide +kernel) (pa_cons (pe_callTy (cr_setLS rfl) (by rfl) T.b_set (by decide +kernel) (pa_cons (pe_op op_cat (pe_me0 (pv 0) T.o_State (f_State__names T) (hr.mono (by decide)) pass0) (pe_me0 (pv 1) T.o_State (f_State__names T) (hr.mono (by decide)) pass0)) pa_nil)) pa_nil)))
      (pss_one (ps_ret (pe_lc (own := [("name", 3)]) (g := gName 3) (by rfl) sc_part_of.nd (pi_list (pv 2)) (blkOk_by (own := [("name", 3)]) (N := nm_part_of) (sc := defScope s_part_of) (by decide +kernel)) (fun _ _ _ _ _ => (pg_name (i := 3) sc_part_of.nd rfl (Or.inl rfl))) (fun _ _ _ _ _ => (pts_one (pt_cmpR op_ne (pe_meK mg rfl (pv 0) T.o_State (f_State__number T) (hr.mono (by decide)) pass0 (pa_cons (pv 3) pa_nil)) (pe_meK mg rfl (pv 1) T.o_State (f_State__number T) (hr.mono (by decide)) pass0 (pa_cons (pv 3) pa_nil)) (nomark _)))) (fun _ _ _ _ _ => (pe_tup (pa_cons (pv 3) (pa_cons (pe_meK mg rfl (pv 1) T.o_State (f_State__number T) (hr.mono (by decide)) pass0 (pa_cons (pv 3) pa_nil)) pa_nil)))))))), ?_⟩
    obtain ⟨dx, d, h1, h2⟩ := hS.ex
    obtain ⟨dy, e, h3, h4⟩ := hU.ex
    have lS := hS.len
    have lU := hU.len
    have hlen : ∀ t : Tb, t.length ≤ 20 → (srt (nms t)).length ≤ 20 := fun t h => Nat.le_trans (nodup_le (pw_nodup pw_srt) (m := nms t) fun x hx => mem_srt.mp hx) (by simpa [nms] using h)
    have l1 := hlen t lS
    have l2 := hlen u lU
    with_reducible refine seq_k fun K_ hK_ => ?_
    walk_at "ru"
    refine ⟨dx, _, h1, rfl, p, t, rfl, hS, fun a1 H1 s1 n1 hA1 => ?_⟩
    refine ⟨dy, _, s1 _ _ h3, rfl, q, u, rfl, hU.same s1, fun a2 H2 s2 n2 hA2 => ?_⟩
    refine ⟨a1, a2, _, _, rfl, rfl, s2 _ _ hA1, hA2, sz (by simp; omega), ?_⟩
    intro a3 n_a3
    generalize hG_ : upd _ a3 _ = H3
    obtain ⟨s3, hA3⟩ := newF n_a3 hG_
    clear hG_
    rw [← List.map_append] at hA3
    refine ⟨a3, _, rfl, sqL hA3, by simp; omega, fun a4 c n4 hc => ?_⟩
    generalize hG : upd H3 a4 _ = H4
    obtain ⟨s4, hA4⟩ := newF n4 hG
    clear hG
    have hc2 : c ≤ 40 := by
      rw [List.length_append] at hc
      omega
    refine ⟨a4, _, c, rfl, hA4, by omega, fun ns a5 g1 g2 n5 => ?_⟩
    have e5 : ns = srt (nms t ++ nms u) := srt_uniq g1 pw_srt fun k => by rw [g2, decide_eq_true_eq, List.mem_append, mem_srt, mem_srt, mem_srt, List.mem_append]
    subst e5
    generalize hG : upd H4 a5 _ = H5
    obtain ⟨s5, hA5⟩ := newF n5 hG
    clear hG
    have sA := ((((s1.trans s2).trans s3).trans s4).trans s5)
    have hN : (srt (nms t ++ nms u)).length ≤ 40 := Nat.le_trans (nodup_le (pw_nodup pw_srt) (m := nms t ++ nms u) fun x hx => mem_srt.mp hx) (by simp [nms]; omega)
    have hnm : ∀ n ∈ srt (nms t ++ nms u), isNm n := fun n hn => by
      rw [mem_srt, List.mem_append] at hn
      rcases hn with hn | hn
      · obtain ⟨pr, hp, rfl⟩ := List.mem_map.mp hn; exact hS.ok.nm _ hp
      · obtain ⟨pr, hp, rfl⟩ := List.mem_map.mp hn; exact hU.ok.nm _ hp
    walk_at "ru"
    subst hK_
    first | with_reducible refine seq_k fun K_ hK_ => ?_ | skip
    walk_at "ru"
    refine ⟨⟨_, sqL hA5⟩, fun D hD => ?_⟩
    refine lc_list (K := K) (a := a5) (xs := (srt (nms t ++ nms u)).map V.str) (iv_part_of H5 D t u) ⟨same_upd hD, [], upd_same, by simp [PairsAt]⟩ (fun i H2 _ p => sqL (p.1 _ _ hA5)) (fun i x H6 hx p => ?_) fun H6 p => ?_
    · obtain ⟨s6, ys, hD6, hP6⟩ := p
      rw [List.getElem?_map] at hx
      cases ex : (srt (nms t ++ nms u))[i]? with
      | none => rw [ex] at hx; cases hx
      | some n =>
        rw [ex] at hx
        cases hx
        have hn := hnm n (mem_of_get ex)
        have hi := lt_of_get ex
        have hlY := hP6.len
        rw [List.length_map] at hlY
        have hlF := filter_len (srt (nms t ++ nms u)) (fun n => decide (lk t n ≠ lk u n)) i
        have hS6 := hS.same (sA.trans s6)
        have hU6 := hU.same (sA.trans s6)
        walk_at "ru"
        refine num_of hS6 hn fun H7 s7 => ?_
        refine num_of (hU6.same s7) hn fun H8 s8 => ?_
        refine ⟨scal_num _ _, ?_⟩
        have s68 := s7.trans s8
        have hft := filter_take_next (fun n => decide (lk t n ≠ lk u n)) ex
        by_cases c : lk t n = lk u n
        · rw [if_neg (by simp [numV_inj, c])]
          rw [if_neg (by simp [c]), List.append_nil] at hft
          exact ⟨s6.trans s68, ys, s68 _ _ hD6, by rw [hft]; exact hP6.same s68⟩
        · rw [if_pos (by simp [numV_inj, c])]
          rw [if_pos (by simp [c])] at hft
          walk_at "ru"
          refine num_of ((hU6.same s7).same s8) hn fun H9 s9 => ?_
          intro a9 n_a9
          generalize hG_ : upd _ a9 _ = HA
          obtain ⟨sB, hA9⟩ := newF n_a9 hG_
          clear hG_
          have s6A := (s68.trans s9).trans sB
          refine ⟨ys, s6A _ _ hD6, szl (by omega), Same.app (s6.trans s6A) hD, ys ++ [.ref a9], upd_same, ?_⟩
          rw [hft, List.map_append]
          have kp : ∀ z zs, HA z = some (.tup zs) → (upd HA D (.lst (ys ++ [.ref a9]))) z = some (.tup zs) := fun z zs e => by rw [upd_ne (ne_of e (s6A _ _ hD6) (by intro z; cases z))]; exact e
          exact (hP6.same s6A |>.tups kp).app (PairsAt.one (p := (n, lk u n)) (kp _ _ hA9))
    · obtain ⟨s6, ys, hD6, hP6⟩ := p
      rw [List.length_map, List.take_length] at hP6
      exact q0 D H6 (sA.trans s6) (sA.free hD) ⟨ys, hD6, hP6⟩
/-- the last of a list -/
theorem ixLast {H : Hp} {p : Addr} {xs : List V} {v : V} {Q : VK} (h : SqL K H p xs) (e : xs.getLast? = some v) (q : Q v H) : rIxL K (.ref p) (.int (-1)) H Q := by
  refine ⟨p, xs, -1, v, rfl, rfl, h, ?_, q⟩
  have hne : xs ≠ [] := fun z => by rw [z] at e; cases e
  have hl := List.length_pos_iff.mpr hne
  unfold atI ixN
  rw [if_neg (by omega), if_pos (by omega)]
  show xs[(-1 + (xs.length : Int)).toNat]? = some v
  rw [List.getLast?_eq_getElem?] at e
  rw [← e]
  congr 1
  omega
end
end Nk
namespace Nk
open PySem L2
section
variable {P : Program} {w : World} {K : PySem.W.Frag} {mg : Str → Option Value} {base : Heap}
/-- things, down to a depth -/
def DT (K : PySem.W.Frag) (H : Hp) : Nat → V → Prop
  | 0, x => ∃ n, Thing K H x n
  | k + 1, x => (∃ n, Thing K H x n) ∧ ∀ a xs, x = .ref a → (H a = some (.tup xs) ∨ H a = some (.lst xs)) → xs.length ≤ 100000 ∧ ∀ y ∈ xs, DT K H k y
theorem DT.th {H : Hp} {k : Nat} {x : V} (h : DT K H k x) : ∃ n, Thing K H x n := by
  cases k with
  | zero => exact h
  | succ k => exact h.1
theorem DT.same {H H' : Hp} (s : Same H H') : ∀ {k : Nat} {x : V}, DT K H k x → DT K H' k x
  | 0, _, ⟨n, h⟩ => ⟨n, Thing.same s h⟩
  | k + 1, x, ⟨⟨n, h⟩, hi⟩ => by
    refine ⟨⟨n, Thing.same s h⟩, fun a xs e ha => ?_⟩
    have back : H a = some (.tup xs) ∨ H a = some (.lst xs) := by
      subst e
      cases h with
      | lst h => have := s _ _ h; rw [this] at ha; rcases ha with z | z <;> cases z; exact .inr h
      | tup h => have := s _ _ h; rw [this] at ha; rcases ha with z | z <;> cases z; exact .inl h
      | dic h => have := s _ _ h; rw [this] at ha; rcases ha with z | z <;> cases z
    obtain ⟨h1, h2⟩ := hi a xs e back
    exact ⟨h1, fun y hy => DT.same s (h2 y hy)⟩
theorem DT.t2 {H : Hp} {k : Nat} {x : V} (h : DT K H (k + 1) x) : Thing2 K H x :=
  ⟨h.1, fun a xs e ha => by
    obtain ⟨h1, h2⟩ := h.2 a xs e (.inl ha)
    exact ⟨h1, fun y hy => (h2 y hy).th⟩⟩
def isRuleV (H : Hp) (x : V) : Bool := match x with
  | .ref a => match H a with
    | some (.tup [r, m]) => isRoundsV H r && isNumV m 1 (.int 20)
    | _ => false
  | _ => false
def isRulesV (H : Hp) (x : V) : Bool := match x with
  | .ref a => match H a with
    | some (.tup xs) => decide (1 ≤ xs.length) && decide (xs.length ≤ 5) && xs.all (isRuleV H)
    | _ => false
  | _ => false
theorem isRoundsV_same {H H' : Hp} (s : Same H H') {x : V} {n : String} (h : Thing K H x n) : isRoundsV H' x = isRoundsV H x := by
  cases h with
  | lst h => simp only [isRoundsV, h, s _ _ h]
  | tup h => simp only [isRoundsV, h, s _ _ h]
  | dic h => simp only [isRoundsV, h, s _ _ h]
  | _ => rfl
theorem isRuleV_same {H H' : Hp} (s : Same H H') {x : V} (h : DT K H 1 x) : isRuleV H' x = isRuleV H x := by
  obtain ⟨⟨n, h⟩, hi⟩ := h
  cases h with
  | lst h => simp only [isRuleV, h, s _ _ h]
  | @tup a xs h =>
    obtain ⟨_, h2⟩ := hi a xs rfl (.inl h)
    simp only [isRuleV, h, s _ _ h]
    match xs, h2 with
    | [r, m], h2 =>
      obtain ⟨n', hr⟩ := (h2 r List.mem_cons_self).th
      simp only [isRoundsV_same s hr]
    | [], _ => rfl
    | [_], _ => rfl
    | _ :: _ :: _ :: _, _ => rfl
  | dic h => simp only [isRuleV, h, s _ _ h]
  | _ => rfl
/-- a rule that stands -/
def RuleAt (H : Hp) (x : V) (ru : List Int × Int) : Prop := ∃ (b r : Addr), x = .ref b ∧ H b = some (.tup [.ref r, .int ru.2]) ∧ RndsAt H r ru.1 ∧ 1 ≤ ru.2 ∧ ru.2 ≤ 20
theorem RuleAt.same {H H' : Hp} {x : V} {ru : List Int × Int} (h : RuleAt H x ru) (s : Same H H') : RuleAt H' x ru := by
  obtain ⟨b, r, e, hb, hr, h1, h2⟩ := h
  exact ⟨b, r, e, s _ _ hb, hr.same s, h1, h2⟩
theorem RuleAt.but {H H' : Hp} {t : Addr} {l : List V} {x : V} {ru : List Int × Int} (h : RuleAt H x ru) (s : But t H H') (ht : H t = some (.lst l)) : RuleAt H' x ru := by
  obtain ⟨b, r, e, hb, hr, h1, h2⟩ := h
  exact ⟨b, r, e, s _ _ hb (ne_of hb ht (by intro z; cases z)), hr.but s ht, h1, h2⟩
/-- rules that stand -/
structure RulesAt (H : Hp) (a : Addr) (rus : List (List Int × Int)) : Prop where
  ex : ∃ xs : List V, H a = some (.tup xs) ∧ xs.length = rus.length ∧ ∀ (i : Nat) x, xs[i]? = some x → ∃ ru, rus[i]? = some ru ∧ RuleAt H x ru
  l1 : 1 ≤ rus.length
  l5 : rus.length ≤ 5
theorem RulesAt.same {H H' : Hp} {a : Addr} {rus : List (List Int × Int)} (h : RulesAt H a rus) (s : Same H H') : RulesAt H' a rus := by
  obtain ⟨xs, ha, hl, hi⟩ := h.ex
  refine ⟨⟨xs, s _ _ ha, hl, fun i x hx => ?_⟩, h.l1, h.l5⟩
  obtain ⟨ru, e, r⟩ := hi i x hx
  exact ⟨ru, e, r.same s⟩
theorem RulesAt.but {H H' : Hp} {a t : Addr} {l : List V} {rus : List (List Int × Int)} (h : RulesAt H a rus) (s : But t H H') (ht : H t = some (.lst l)) : RulesAt H' a rus := by
  obtain ⟨xs, ha, hl, hi⟩ := h.ex
  refine ⟨⟨xs, s _ _ ha (ne_of ha ht (by intro z; cases z)), hl, fun i x hx => ?_⟩, h.l1, h.l5⟩
  obtain ⟨ru, e, r⟩ := hi i x hx
  exact ⟨ru, e, r.but s ht⟩
theorem RulesAt.rnds {H : Hp} {a : Addr} {rus : List (List Int × Int)} (h : RulesAt H a rus) : ∀ ru ∈ rus, Rnds ru.1 ∧ 1 ≤ ru.2 ∧ ru.2 ≤ 20 ∧ ru.1.length ≤ 12 ∧ ∀ r ∈ ru.1, r ≤ 31 := by
  intro ru hru
  obtain ⟨xs, ha, hl, hi⟩ := h.ex
  obtain ⟨i, hi1, e⟩ := List.mem_iff_getElem.mp hru
  have hx : xs[i]? = some (xs[i]'(by omega)) := List.getElem?_eq_getElem (by omega)
  obtain ⟨ru', e', b, r, _, _, R, h1, h2⟩ := hi i _ hx
  rw [List.getElem?_eq_getElem hi1, e] at e'
  cases e'
  exact ⟨R.ok, h1, h2, R.ln, R.le⟩
theorem RuleAt.thing {H : Hp} {x : V} {ru : List Int × Int} (h : RuleAt H x ru) : DT K H 2 x := by
  obtain ⟨b, r, rfl, hb, hr, h1, h2⟩ := h
  refine ⟨⟨_, .tup hb⟩, fun a xs e ha => ?_⟩
  cases e
  rw [hb] at ha
  rcases ha with z | z <;> cases z
  refine ⟨by simp, fun y hy => ?_⟩
  simp only [List.mem_cons, List.not_mem_nil, or_false] at hy
  rcases hy with rfl | rfl
  · refine ⟨⟨_, .tup hr.at_⟩, fun a xs e ha => ?_⟩
    cases e
    rw [hr.at_] at ha
    rcases ha with z | z <;> cases z
    refine ⟨by have := hr.ln; simp; omega, fun y hy => ?_⟩
    obtain ⟨i, _, rfl⟩ := List.mem_map.mp hy
    exact ⟨_, .int i⟩
  · exact ⟨⟨_, .int _⟩, fun a xs e ha => by cases e⟩
theorem RuleAt.is {H : Hp} {x : V} {ru : List Int × Int} (h : RuleAt H x ru) : isRuleV H x = true := by
  obtain ⟨b, r, rfl, hb, hr, h1, h2⟩ := h
  simp only [isRuleV, hb, hr.is, isNumV, h1, h2, decide_true, Bool.and_true]
theorem RulesAt.thing {H : Hp} {a : Addr} {rus : List (List Int × Int)} (h : RulesAt H a rus) : DT K H 3 (.ref a) := by
  obtain ⟨xs, ha, hl, hi⟩ := h.ex
  refine ⟨⟨_, .tup ha⟩, fun b ys e hb => ?_⟩
  cases e
  rw [ha] at hb
  rcases hb with z | z <;> cases z
  refine ⟨by have := h.l5; omega, fun y hy => ?_⟩
  obtain ⟨i, h1, e⟩ := List.mem_iff_getElem.mp hy
  obtain ⟨ru, _, r⟩ := hi i y (by rw [List.getElem?_eq_getElem h1, e])
  exact r.thing
theorem RulesAt.is {H : Hp} {a : Addr} {rus : List (List Int × Int)} (h : RulesAt H a rus) : isRulesV H (.ref a) = true := by
  obtain ⟨xs, ha, hl, hi⟩ := h.ex
  have h1 := h.l1
  have h5 := h.l5
  have h3 : xs.all (isRuleV H) = true := by
    rw [List.all_eq_true]
    intro y hy
    obtain ⟨i, h1, e⟩ := List.mem_iff_getElem.mp hy
    obtain ⟨ru, _, r⟩ := hi i y (by rw [List.getElem?_eq_getElem h1, e])
    exact r.is
  simp only [isRulesV, ha, h3, Bool.and_true, Bool.and_eq_true, decide_eq_true_eq]
  omega
abbrev nm_is_rule : List Str := ["thing"]
abbrev pm_is_rule : List Str := ["thing"]
abbrev lv_is_rule : Nat := 3
theorem sc_is_rule : FnScope nm_is_rule pm_is_rule (defScope s_is_rule) := ⟨rfl, rfl, rfl, by decide +kernel, rfl, by decide +kernel, by decide +kernel⟩
def sp_is_rule (K : PySem.W.Frag) : Sp := fun vs H Q _ => ∃ (x : V), vs = [x] ∧ DT K H 2 x ∧ ∀ H', Same H H' → Q (.bl (isRuleV H x)) H'
theorem f_is_rule (T : Txt K mg) : Fk P w K mg base CX0 lv_is_rule "is_rule" pm_is_rule (sp_is_rule K) := by
  obtain ⟨f, fd, F, g, b⟩ := T.d_is_rule.ex
  refine ⟨f, fd, g, F.kp, b, F.ok sc_is_rule (fun vs H Q E h => ?_) (fun cdv A outer s H vs Q E hr h => ?_)⟩
  · obtain ⟨x, rfl, _⟩ := h; rfl
  · obtain ⟨x, rfl, ⟨⟨n, hx⟩, hin⟩, q⟩ := h
    refine ⟨_, (pss_one (ps_ret (pe_and (pe_callB call_isi (by rfl) T.b_isinstance (by decide +kernel) (pa_cons (pv 0) (pa_cons (pe_bltn (v := .ty "tuple") (by rfl) T.b_tuple (by decide +kernel) rfl) pa_nil))) (pe_and (pe_cmpR op_eq (pe_callB call_len_seq (by rfl) T.b_len PySem.boot_len (pa_cons (pv 0) pa_nil)) pe_int (nomark _)) (pe_and (pe_fn (f_is_rounds T) (hr.mono (by decide)) (by rfl) pass0 (pa_cons (pe_ix ix_tup (pv 0) pe_int (fun _ _ => rfl)) pa_nil)) (pe_one (pe_fn (f_is_number T) (hr.mono (by decide)) (by rfl) pass0 (pa_cons (pe_ix ix_tup (pv 0) pe_int (fun _ _ => rfl)) (pa_cons pe_int (pa_cons pe_int pa_nil)))))))))), ?_⟩
    walk_at "rs"
    refine isi_thing hx (by decide) ?_
    cases hx with
    | @tup a xs ha =>
      obtain ⟨hz, hth⟩ := hin a xs rfl (.inl ha)
      refine ⟨true, rfl, ?_⟩
      walk_at "rs"
      refine ⟨xs, .inr (sqT ha), ?_⟩
      have qf := q H (Same.refl H)
      by_cases c : xs.length = 2
      · match xs, c with
        | [r, m], _ =>
          obtain ⟨mt, hm⟩ := (hth m (by simp)).th
          walk_at "rs"
          rw [if_pos (by decide)]
          refine ixT (j := 0) (sqT ha) rfl rfl ?_
          refine ⟨r, rfl, (hth r (by simp)).t2, fun H1 s1 => ?_⟩
          refine ⟨_, rfl, ?_⟩
          have q1 := q H1 s1
          simp only [isRuleV, ha] at q1
          cases e : isRoundsV H r with
          | false => rw [e] at q1; simpa using q1
          | true =>
            rw [e] at q1
            walk_at "rs"
            refine ixT (j := 1) (sqT (s1 _ _ ha)) rfl rfl ?_
            exact ⟨m, mt, 1, .int 20, rfl, Thing.same s1 hm, fun _ _ => ⟨_, rfl⟩, by simpa using q1⟩
      · rw [if_neg (by omega)]
        have e : isRuleV H (.ref a) = false := by
          simp only [isRuleV, ha]
          match xs, c with
          | [], _ => rfl
          | [_], _ => rfl
          | [_, _], c => exact absurd rfl c
          | _ :: _ :: _ :: _, _ => rfl
        rw [e] at qf
        exact qf
    | _ => exact ⟨false, by rfl, by simpa [isRuleV, *] using q H (Same.refl H)⟩
abbrev nm_look_rules : List Str := ["rules", "one"]
abbrev pm_look_rules : List Str := ["rules"]
abbrev lv_look_rules : Nat := 4
theorem sc_look_rules : FnScope nm_look_rules pm_look_rules (defScope s_look_rules) := ⟨rfl, rfl, rfl, by decide +kernel, rfl, by decide +kernel, by decide +kernel⟩
def sp_look_rules (K : PySem.W.Frag) (mg : Str → Option Value) : Sp := fun vs H Q E => ∃ (x : V), vs = [x] ∧ DT K H 3 x ∧ (isRulesV H x = true → ∀ H', Same H H' → Q .non H') ∧ (isRulesV H x = false → ∀ H', Same H H' → E (.ref (cls mg "BadRules")) none H')
theorem f_look_rules (T : Txt K mg) : Fk P w K mg base (L2.CX P w) lv_look_rules "look_rules" pm_look_rules (sp_look_rules K mg) := by
  obtain ⟨f, fd, F, g, b⟩ := T.d_look_rules.ex
  refine ⟨f, fd, g, F.kp, b, F.okX sc_look_rules (fun vs H Q E h => ?_) (fun cdv A outer s H vs Q E hr h => ?_)⟩
  · obtain ⟨x, rfl, _⟩ := h; rfl
  · obtain ⟨x, rfl, ⟨⟨n, hx⟩, hin⟩, q1, q2⟩ := h
    refine ⟨_, (pss_one (ps_if (PW.pt (pw_or (pt_not (pt_val (pe_callB call_isi (by rfl) T.b_isinstance (by decide +kernel) (pa_cons (pv 0) (pa_cons (pe_bltn (v := .ty "tuple") (by rfl) T.b_tuple (by decide +kernel) rfl) pa_nil))))) (pw_or (pt_not (pt_chain op_le op_le pe_int (pe_callB call_len_seq (by rfl) T.b_len PySem.boot_len (pa_cons (pv 0) pa_nil)) pe_int)) (pw_or1 (pt_not (pt_val (pe_callB (cr_all rfl) (by rfl) T.b_all (by decide +kernel) (pa_cons (pe_lc (own := [("one", 1)]) (g := gName 1) (tt := tYes) (by rfl) sc_look_rules.nd (pi_tup (pv 0)) (blkOk_by (own := [("one", 1)]) (N := nm_look_rules) (sc := defScope s_look_rules) (by decide +kernel)) (fun _ _ _ _ _ => (pg_name (i := 1) sc_look_rules.nd rfl (Or.inl rfl))) (fun _ _ _ _ _ => pts_nil) (fun _ _ _ _ _ => (pe_fn (f_is_rule T) (hr.mono (by decide)) (by rfl) pass0 (pa_cons (pv 1) pa_nil)))) pa_nil)))))))) (pss_one (ps_raise rfl (takes_of rfl rfl rfl rfl) (pmk_own PySem.F.excBase_RuntimeError T.x_BadRules.xP T.x_BadRules.gP T.x_BadRules.kP T.x_BadRules.rs rfl))) pss_nil)), ?_⟩
    walk_at "rs"
    refine isi_thing hx (by decide) ?_
    cases hx with
    | @tup a xs ha =>
      obtain ⟨hz, hth⟩ := hin a xs rfl (.inl ha)
      refine ⟨true, rfl, ?_⟩
      walk_at "rs"
      refine ⟨xs, .inr (sqT ha), ?_⟩
      have e0 : isRulesV H (.ref a) = (decide (1 ≤ xs.length) && decide (xs.length ≤ 5) && xs.all (isRuleV H)) := by
        simp only [isRulesV, ha]
      rw [e0] at q1 q2
      by_cases c1 : 1 ≤ xs.length
      · rw [if_pos (show (1 : Int) ≤ (xs.length : Int) by omega)]
        by_cases c2 : xs.length ≤ 5
        · rw [if_neg (show ¬ ¬ (xs.length : Int) ≤ 5 by omega)]
          refine ⟨_, rfl, a, rfl, ⟨xs, sqT ha⟩, fun D hD => ?_⟩
          refine lcT hD (sqT ha) (fun i => (xs.take i).map fun y => .bl (isRuleV H y)) rfl (fun i y H2 hy p => ?_) (fun H2 s2 hD2 => ?_)
          · have hy1 := hth y (mem_of_get hy)
            have hy2 := hy1.same p.same
            walk_at "rs"
            refine ⟨y, rfl, hy2, fun H3 s3 => ?_⟩
            rw [isRuleV_same (K := K) p.same ⟨hy1.1, fun a' xs' e' h' => by obtain ⟨w1, w2⟩ := hy1.2 a' xs' e' h'; exact ⟨w1, fun z hz => (w2 z hz).th⟩⟩]
            exact p.push hD (by simp; omega) s3 (map_take_next _ hy)
          · refine ⟨D, xs.map (isRuleV H), rfl, ?_, ?_⟩
            · rw [List.take_length] at hD2
              rw [List.map_map]
              exact sqL hD2
            · walk_at "rs"
              simp only [List.all_map, Function.comp_def, id_eq]
              cases e : xs.all (fun y => isRuleV H y) with
              | true => exact q1 (by simp [c1, c2, e]) H2 s2
              | false => exact q2 (by simp [c1, c2, e]) H2 s2
        · rw [if_pos (show ¬ (xs.length : Int) ≤ 5 by omega)]
          exact q2 (by simp [c2]) H (Same.refl H)
      · rw [if_neg (show ¬ (1 : Int) ≤ (xs.length : Int) by omega)]
        exact q2 (by simp [c1]) H (Same.refl H)
    | _ => exact ⟨false, by rfl, by simpa using q2 (by simp [isRulesV, *]) H (Same.refl H)⟩
end
end Nk
namespace Nk
open PySem L2
section
variable {P : Program} {w : World} {K : PySem.W.Frag} {mg : Str → Option Value} {base : Heap}
def riseV : List V → Bool
  | x :: y :: r => (match x, y with | .int i, .int j => decide (i < j) | _, _ => false) && riseV (y :: r)
  | _ => true
def isNightsV (H : Hp) (x : V) : Bool := match x with
  | .ref a => match H a with
    | some (.lst xs) => decide (xs.length ≤ 100) && xs.all (fun y => isNumV y 0 (.int 1000000000)) && riseV xs
    | _ => false
  | _ => false
theorem allNum {xs : List V} (h : xs.all (fun y => isNumV y 0 (.int 1000000000)) = true) : ∃ ns : List Int, xs = ns.map V.int ∧ ∀ n ∈ ns, 0 ≤ n ∧ n ≤ 1000000000 := by
  induction xs with
  | nil => exact ⟨[], rfl, by simp⟩
  | cons x xs ih =>
    simp only [List.all_cons, Bool.and_eq_true] at h
    obtain ⟨ns, e, hn⟩ := ih h.2
    cases x with
    | int i =>
      refine ⟨i :: ns, by rw [e]; rfl, fun n hn' => ?_⟩
      rcases List.mem_cons.mp hn' with rfl | hn'
      · simpa [isNumV] using h.1
      · exact hn n hn'
    | _ => simp [isNumV] at h
theorem riseV_ints : ∀ ns : List Int, riseV (ns.map V.int) = true ↔ ns.Pairwise (· < ·)
  | [] => by simp [riseV]
  | [n] => by simp [riseV]
  | n :: m :: r => by
    have ih := riseV_ints (m :: r)
    simp only [List.map_cons] at ih ⊢
    simp only [riseV, Bool.and_eq_true, decide_eq_true_eq, ih]
    constructor
    · rintro ⟨h1, h2⟩
      refine List.pairwise_cons.mpr ⟨fun x hx => ?_, h2⟩
      rcases List.mem_cons.mp hx with rfl | hx
      · exact h1
      · have := (List.pairwise_cons.mp h2).1 x hx
        omega
    · intro h
      obtain ⟨h1, h2⟩ := List.pairwise_cons.mp h
      exact ⟨h1 m List.mem_cons_self, h2⟩
theorem rise_steps {ns : List Int} (h : ∀ (i : Nat) a b, ns[i]? = some a → ns[i + 1]? = some b → a < b) : ns.Pairwise (· < ·) := by
  induction ns with
  | nil => exact .nil
  | cons n ns ih =>
    have ih' := ih fun i a b h1 h2 => h (i + 1) a b (by simpa using h1) (by simpa using h2)
    cases ns with
    | nil => exact List.pairwise_singleton _ _
    | cons m r =>
      have h0 := h 0 n m rfl rfl
      refine List.pairwise_cons.mpr ⟨fun x hx => ?_, ih'⟩
      rcases List.mem_cons.mp hx with rfl | hx
      · exact h0
      · have := (List.pairwise_cons.mp ih').1 x hx
        omega
abbrev nm_look_nights : List Str := ["nights", "one", "other"]
abbrev pm_look_nights : List Str := ["nights"]
abbrev lv_look_nights : Nat := 2
theorem sc_look_nights : FnScope nm_look_nights pm_look_nights (defScope s_look_nights) := ⟨rfl, rfl, rfl, by decide +kernel, rfl, by decide +kernel, by decide +kernel⟩
def sp_look_nights (K : PySem.W.Frag) (mg : Str → Option Value) : Sp := fun vs H Q E => ∃ (x : V), vs = [x] ∧ DT K H 1 x ∧ (isNightsV H x = true → ∀ H', Same H H' → Q .non H') ∧ (isNightsV H x = false → ∀ H', Same H H' → E (.ref (cls mg "BadNights")) none H')
def iv_look_nights (a : Addr) (ns : List Int) (H : Hp) (c : Addr) (i : Nat) (σ : L2.St) (H' : Hp) : Prop := (∃ y1 y2, σ = [some (.ref a), y1, y2]) ∧ Same H H' ∧ H' c = some (.lst ((ns.drop 1).map V.int)) ∧ ∀ (j : Nat) x y, j < i → ns[j]? = some x → ns[j + 1]? = some y → x < y
theorem f_look_nights (T : Txt K mg) : Fk P w K mg base (L2.CX P w) lv_look_nights "look_nights" pm_look_nights (sp_look_nights K mg) := by
  obtain ⟨f, fd, F, g, b⟩ := T.d_look_nights.ex
  refine ⟨f, fd, g, F.kp, b, F.okX sc_look_nights (fun vs H Q E h => ?_) (fun cdv A outer s H vs Q E hr h => ?_)⟩
  · obtain ⟨x, rfl, _⟩ := h; rfl
  · obtain ⟨x, rfl, ⟨⟨n, hx⟩, hin⟩, q1, q2⟩ := h
    refine ⟨_, (pss_cons (ps_if (PW.pt (pw_or (pt_not (pt_val (pe_callB call_isi (by rfl) T.b_isinstance (by decide +kernel) (pa_cons (pv 0) (pa_cons (pe_bltn (v := .ty "list") (by rfl) T.b_list (by decide +kernel) rfl) pa_nil))))) (pw_or1 (pt_cmpR op_gt (pe_callB call_len_seq (by rfl) T.b_len PySem.boot_len (pa_cons (pv 0) pa_nil)) (pe_globI T.c_MOST_HELD (by rfl)) (nomark _))))) (pss_one (ps_raise rfl (takes_of rfl rfl rfl rfl) (pmk_own PySem.F.excBase_RuntimeError T.x_BadNights.xP T.x_BadNights.gP T.x_BadNights.kP T.x_BadNights.rs rfl))) pss_nil)
      (pss_cons (ps_if (pt_not (pt_val (pe_callB (cr_all rfl) (by rfl) T.b_all (by decide +kernel) (pa_cons (pe_lc (own := [("one", 1)]) (g := gName 1) (tt := tYes) (by rfl) sc_look_nights.nd (pi_list (pv 0)) (blkOk_by (own := [("one", 1)]) (N := nm_look_nights) (sc := defScope s_look_nights) (by decide +kernel)) (fun _ _ _ _ _ => (pg_name (i := 1) sc_look_nights.nd rfl (Or.inl rfl))) (fun _ _ _ _ _ => pts_nil) (fun _ _ _ _ _ => (pe_fn (f_is_number T) (hr.mono (by decide)) (by rfl) pass0 (pa_cons (pv 1) (pa_cons pe_int (pa_cons (pe_globI T.c_MOST_NIGHT (by rfl)) pa_nil)))))) pa_nil)))) (pss_one (ps_raise rfl (takes_of rfl rfl rfl rfl) (pmk_own PySem.F.excBase_RuntimeError T.x_BadNights.xP T.x_BadNights.gP T.x_BadNights.kP T.x_BadNights.rs rfl))) pss_nil)
      (pss_one (ps_for (passes_of rfl) rfl (pi_zip (by rfl) T.b_zip (pa_cons (pv 0) (pa_cons (pe_slice sl_list (pv 0) (po_some pe_int) po_none) pa_nil))) (pg_tup rfl (pgs_cons (pg_name (i := 1) sc_look_nights.nd rfl (Or.inl rfl)) (pgs_cons (pg_name (i := 2) sc_look_nights.nd rfl (Or.inl rfl)) pgs_nil))) (pss_one (ps_if (pt_cmpR op_ge (pv 1) (pv 2) (nomark _)) (pss_one (ps_raise rfl (takes_of rfl rfl rfl rfl) (pmk_own PySem.F.excBase_RuntimeError T.x_BadNights.xP T.x_BadNights.gP T.x_BadNights.kP T.x_BadNights.rs rfl))) pss_nil)))))), ?_⟩
    with_reducible refine seq_k fun K_ hK_ => ?_
    walk_at "rs"
    refine isi_thing hx (by decide) ?_
    cases hx with
    | @lst a xs ha =>
      obtain ⟨hz, hth⟩ := hin a xs rfl (.inr ha)
      refine ⟨true, rfl, ?_⟩
      walk_at "rs"
      refine ⟨xs, .inl (sqL ha), ?_⟩
      have e0 : isNightsV H (.ref a) = (decide (xs.length ≤ 100) && xs.all (fun y => isNumV y 0 (.int 1000000000)) && riseV xs) := by
        simp only [isNightsV, ha]
      rw [e0] at q1 q2
      by_cases c1 : xs.length ≤ 100
      · rw [if_neg (show ¬ (100 : Int) < (xs.length : Int) by omega)]
        walk_at "rs"
        subst hK_
        first | with_reducible refine seq_k fun K_ hK_ => ?_ | skip
        walk_at "rs"
        refine ⟨_, rfl, a, rfl, ⟨xs, sqL ha⟩, fun D hD => ?_⟩
        refine lcL hD (sqL ha) (fun i => (xs.take i).map fun y => .bl (isNumV y 0 (.int 1000000000))) rfl (fun i y H2 hy p => ?_) (fun H2 s2 hD2 => ?_)
        · walk_at "rs"
          obtain ⟨m, hm⟩ := (hth y (mem_of_get hy)).th
          refine ⟨y, m, 0, .int 1000000000, rfl, Thing.same p.same hm, fun _ _ => ⟨_, rfl⟩, ?_⟩
          exact p.push hD (by simp; omega) (Same.refl _) (map_take_next _ hy)
        · refine ⟨D, xs.map fun y => isNumV y 0 (.int 1000000000), rfl, ?_, ?_⟩
          · rw [List.take_length] at hD2
            rw [List.map_map]
            exact sqL hD2
          walk_at "rs"
          simp only [List.all_map, Function.comp_def, id_eq]
          cases e : xs.all (fun y => isNumV y 0 (.int 1000000000)) with
          | false => exact q2 (by simp [e]) H2 s2
          | true =>
            obtain ⟨ns, rfl, hns⟩ := allNum e
            walk_at "rs"
            subst hK_
            first | with_reducible refine seq_k fun K_ hK_ => ?_ | skip
            walk_at "rs"
            refine ⟨_, rfl, _, rfl, 1, rfl, a, _, rfl, s2.seq (sqL ha), fun c hc => ?_⟩
            have s3 : Same H (upd H2 c (.lst (cutV (ns.map V.int) (some 1) none))) := s2.trans (same_upd hc)
            have hC : (upd H2 c (.lst (cutV (ns.map V.int) (some 1) none))) c = some (.lst ((ns.drop 1).map V.int)) := by
              rw [upd_same, show cutV (ns.map V.int) (some 1) none = (ns.map V.int).drop 1 from cut_from _ 1, List.map_drop]
            refine ⟨a, c, ns.map V.int, (ns.drop 1).map V.int, rfl, s3.seq (sqL ha), sqL hC, ?_⟩
            have hn : ns.length - 1 = min (ns.map V.int).length ((ns.drop 1).map V.int).length := by simp
            refine for_it (walk_zip hn) (iv_look_nights a ns H c) ⟨⟨none, none, rfl⟩, s3, hC, fun j _ _ hj => absurd hj (by omega)⟩ (fun i σ H5 _ p => ⟨p.2.1.seq (sqL ha), sqL p.2.2.1⟩) ?_ ?_
            · rintro i x σ H5 H6 hi ⟨⟨y1, y2, rfl⟩, s5, hc5, hr5⟩ ⟨t, u, v, rfl, ht, rfl, hu, hv⟩
              have hu : (ns.map V.int)[i]? = some u := hu
              have hv : ((ns.drop 1).map V.int)[i]? = some v := hv
              rw [List.getElem?_map] at hu hv
              rw [List.getElem?_drop, Nat.add_comm] at hv
              cases eu : ns[i]? with
              | none => rw [eu] at hu; cases hu
              | some x =>
                rw [eu] at hu
                cases hu
                cases ev : ns[i + 1]? with
                | none => rw [ev] at hv; cases hv
                | some y =>
                  rw [ev] at hv
                  cases hv
                  have s6 := s5.trans (same_upd (o := .tup [.int x, .int y]) ht)
                  refine ⟨t, [.int x, .int y], rfl, sqT upd_same, rfl, ?_⟩
                  walk_at "rs"
                  refine ite2 (fun c2 => ?_) (fun c2 => ?_)
                  · refine q2 ?_ _ s6
                    have : riseV (ns.map V.int) = false := by
                      cases e2 : riseV (ns.map V.int) with
                      | false => rfl
                      | true =>
                        have hp := (riseV_ints ns).mp e2
                        obtain ⟨h1, e1⟩ := List.getElem?_eq_some_iff.mp eu
                        obtain ⟨h2, e2⟩ := List.getElem?_eq_some_iff.mp ev
                        have := List.pairwise_iff_getElem.mp hp i (i + 1) h1 h2 (by omega)
                        omega
                    simp [this]
                  · refine ⟨⟨_, _, rfl⟩, s6, (same_upd ht) _ _ hc5, fun j a b hj h1 h2 => ?_⟩
                    by_cases ej : j = i
                    · subst ej
                      rw [eu] at h1
                      rw [ev] at h2
                      cases h1
                      cases h2
                      omega
                    · exact hr5 j a b (by omega) h1 h2
            · rintro σ H5 ⟨_, s5, _, hr5⟩
              refine q1 ?_ H5 s5
              have : riseV (ns.map V.int) = true := (riseV_ints ns).mpr (rise_steps fun i a b h1 h2 => hr5 i a b (by have := lt_of_get h2; omega) h1 h2)
              have c1' : ns.length ≤ 100 := by simpa using c1
              simp [this, e, c1']
      · rw [if_pos (show (100 : Int) < (xs.length : Int) by omega)]
        exact q2 (by simp [c1]) H (Same.refl H)
    | _ => exact ⟨false, by rfl, by simpa using q2 (by simp [isNightsV, *]) H (Same.refl H)⟩
abbrev nm_kept_by : List Str := ["rule", "nights", "found", "ahead", "night", "number"]
abbrev pm_kept_by : List Str := ["rule", "nights"]
abbrev lv_kept_by : Nat := 2
theorem sc_kept_by : FnScope nm_kept_by pm_kept_by (defScope s_kept_by) := ⟨rfl, rfl, rfl, by decide +kernel, rfl, by decide +kernel, by decide +kernel⟩
def sp_kept_by (K : PySem.W.Frag) : Sp := fun vs H Q _ => ∃ (x : V) (ru : List Int × Int) (l : Addr) (ns : List Int), vs = [x, .ref l] ∧ RuleAt H x ru ∧ SqL K H l (ns.map V.int) ∧
  ∀ p H', Same H H' → H p = none → H' p = some (.lst ((keptBy ru ns).map V.int)) → Q (.ref p) H'
def iv_kept_by (x : V) (l p : Addr) (ru : List Int × Int) (ns : List Int) (H : Hp) (i : Nat) (σ : L2.St) (H' : Hp) : Prop :=
  (∃ y4 y5, σ = [some x, some (.ref l), some (.ref p), some (match lastN ru.1 none (ns.reverse.take i) with | none => .non | some k => .int k), y4, y5]) ∧ Same H H' ∧ H' p = some (.lst ((endsR ru.1 none (ns.reverse.take i)).map V.int)) ∧ (endsR ru.1 none (ns.reverse.take i)).length < ru.2.toNat
theorem f_kept_by (T : Txt K mg) : Fk P w K mg base CX0 lv_kept_by "kept_by" pm_kept_by (sp_kept_by K) := by
  obtain ⟨f, fd, F, g, b⟩ := T.d_kept_by.ex
  refine ⟨f, fd, g, F.kp, b, F.ok sc_kept_by (fun vs H Q E h => ?_) (fun cdv A outer s H vs Q E hr h => ?_)⟩
  · obtain ⟨x, ru, l, ns, rfl, _⟩ := h; rfl
  · obtain ⟨x, ru, l, ns, rfl, hx, hl, q⟩ := h
    refine ⟨_, (pss_cons (ps_set (i := 2) sc_kept_by.nd rfl (.inl rfl) (pe_lst pa_nil))
      (pss_cons (ps_set (i := 3) sc_kept_by.nd rfl (.inl rfl) pe_non)
      (pss_cons (ps_for PassesOwn.never rfl (pi_reversed (by rfl) T.b_reversed (pa_cons (pv 1) pa_nil)) (pg_name (i := 4) sc_kept_by.nd rfl (Or.inl rfl)) (pss_cons (ps_set (i := 5) sc_kept_by.nd rfl (.inl rfl) (pe_fn (f_number_of T) (hr.mono (by decide)) (by rfl) pass0 (pa_cons (pe_ix ix_tup (pv 0) pe_int (fun _ _ => rfl)) (pa_cons (pv 4) pa_nil))))
      (pss_cons (ps_if (pt_cmpR op_ne (pv 5) (pv 3) (nomark _)) (pss_cons (ps_expr (pe_bm PySem.F.plainAttrs_list PySem.F.slot_list_append PySem.F.type_list_append mt_append (pv 2) (pa_cons (pv 4) pa_nil)))
      (pss_one (ps_set (i := 3) sc_kept_by.nd rfl (.inl rfl) (pv 5)))) pss_nil)
      (pss_one (ps_if (pt_cmpR op_eq (pe_callB call_len_seq (by rfl) T.b_len PySem.boot_len (pa_cons (pv 2) pa_nil)) (pe_ix ix_tup (pv 0) pe_int (fun _ _ => rfl)) (nomark _)) (pss_one (ps_ret (pv 2))) pss_nil)))))
      (pss_one (ps_ret (pv 2)))))), ?_⟩
    with_reducible refine seq_k fun K_ hK_ => ?_
    walk_at "rs"
    intro p hp
    walk_at "rs"
    subst hK_
    first | with_reducible refine seq_k fun K_ hK_ => ?_ | skip
    walk_at "rs"
    walk_at "rs"
    subst hK_
    first | with_reducible refine seq_k fun K_ hK_ => ?_ | skip
    walk_at "rs"
    have sP : Same H (upd H p (.lst [])) := same_upd hp
    obtain ⟨bx, rx, rfl, hbx, hrx, m1, m20⟩ := id hx
    have hM : (ns.map V.int).length = ns.length := List.length_map _
    refine ⟨_, rfl, l, ns.map V.int, rfl, sP.seq hl, for_it walk_rev (iv_kept_by (.ref bx) l p ru ns H)
      ⟨⟨none, none, by simp [lastN]⟩, sP, by rw [upd_same]; simp [endsR], by simp [endsR]; omega⟩ (fun i σ H5 _ p => p.2.1.seq hl) ?_ ?_⟩
    · rintro i v σ H5 H6 hi ⟨⟨y4, y5, rfl⟩, s5, hp5, hc5⟩ ⟨rfl, hv⟩
      rw [hM] at hi hv
      obtain ⟨n, hn, rfl⟩ : ∃ n, ns.reverse[i]? = some n ∧ v = .int n := by
        rw [List.getElem?_map] at hv
        rw [List.getElem?_reverse hi]
        cases e : ns[ns.length - 1 - i]? with
        | none => rw [e] at hv; cases hv
        | some n => rw [e] at hv; cases hv; exact ⟨n, rfl, rfl⟩
      have ht := take_next hn
      have hsn := endsR_snoc ru.1 (ns.reverse.take i) none n
      rw [← ht] at hsn
      have hln := lastN_snoc ru.1 none (ns.reverse.take i) n
      rw [← ht] at hln
      walk_at "rs"
      with_reducible refine seq_k fun K_ hK_ => ?_
      walk_at "rs"
      refine ixT (j := 0) (sqT (s5 _ _ hbx)) rfl rfl ?_
      refine ⟨rx, ru.1, n, rfl, hrx.same s5, ?_⟩
      walk_at "rs"
      subst hK_
      first | with_reducible refine seq_k fun K_ hK_ => ?_ | skip
      walk_at "rs"
      -- behind the test both ways meet
      have meet : ∀ (H7 : Hp), Same H H7 → H7 p = some (.lst ((endsR ru.1 none (ns.reverse.take (i + 1))).map V.int)) →
          K_ [some (.ref bx), some (.ref l), some (.ref p), some (.int (numOf ru.1 n)), some (.int n), some (.int (numOf ru.1 n))] H7 := by
        intro H7 s7 hp7
        walk_at "rs"
        subst hK_
        first | with_reducible refine seq_k fun K_ hK_ => ?_ | skip
        walk_at "rs"
        have hle : (endsR ru.1 none (ns.reverse.take (i + 1))).length ≤ ru.2.toNat := by
          rw [hsn, List.length_append]
          split <;> simp <;> omega
        refine ⟨_, .inl (sqL hp7), ?_⟩
        refine ixT (j := 1) (sqT (s7 _ _ hbx)) rfl rfl ?_
        walk_at "rs"
        rw [List.length_map]
        refine ite2 (fun c => ?_) (fun c => ?_)
        · refine q p H7 s7 hp ?_
          have hpre : ∃ t, endsR ru.1 none ns.reverse = endsR ru.1 none (ns.reverse.take (i + 1)) ++ t := by
            have := endsR_pre ru.1 none (ns.reverse.drop (i + 1)) (ns.reverse.take (i + 1))
            rwa [List.take_append_drop] at this
          have e := take_prefix hpre (k := ru.2.toNat) (by omega)
          unfold keptBy
          rw [← e]
          exact hp7
        · refine ⟨⟨some (.int n), some (.int (numOf ru.1 n)), ?_⟩, s7, hp7, by omega⟩
          rw [hln]
      by_cases c : lastN ru.1 none (ns.reverse.take i) = some (numOf ru.1 n)
      · rw [c]
        walk_at "rs"
        simp only [not_true_eq_false, if_false]
        rw [if_pos c, List.append_nil] at hsn
        exact meet H6 s5 (by rw [hsn]; exact hp5)
      · rw [if_neg c] at hsn
        have go : ∀ (bk ct : L2.St → Hp → Prop) (v : V), tSeq (tDrop (tBM K "list" rAppend (tVar 2) (tCons (tVar 4) tNil))) (tAsg (tVar 5) (gName 3)) { nx := K_, rt := Q, bk := bk, ct := ct }
            [some (.ref bx), some (.ref l), some (.ref p), some v, some (.int n), some (.int (numOf ru.1 n))] H6 := by
          intro bk ct v
          with_reducible refine seq_k fun K_ hK_ => ?_
          walk_at "rs"
          refine app hp5 (by simp; omega) ?_
          walk_at "rs"
          subst hK_
          first | with_reducible refine seq_k fun K_ hK_ => ?_ | skip
          walk_at "rs"
          refine meet _ (Same.app s5 hp) ?_
          rw [upd_same, hsn, List.map_append]; rfl
        cases e : lastN ru.1 none (ns.reverse.take i) with
        | none =>
          walk_at "rs"
          exact go _ _ _
        | some k =>
          walk_at "rs"
          rw [if_pos (fun z => c (by rw [e, z]))]
          exact go _ _ _
    · rintro σ H5 ⟨⟨y4, y5, rfl⟩, s5, hp5, hc5⟩
      rw [hM] at hp5 hc5
      rw [List.take_of_length_le (by simp)] at hp5 hc5
      walk_at "rs"
      subst hK_
      first | with_reducible refine seq_k fun K_ hK_ => ?_ | skip
      walk_at "rs"
      refine q p H5 s5 hp ?_
      unfold keptBy
      rw [List.take_of_length_le (by omega)]
      exact hp5
end
end Nk
namespace Nk
open PySem L2
section
variable {P : Program} {w : World} {K : PySem.W.Frag} {mg : Str → Option Value} {base : Heap}
/-- a dict whose keys are the whole numbers ks -/
structure IK (kvs : List (Key × V)) (ks : List Int) : Prop where
  keys : kvs.map (·.1) = ks.map Sum.inl
  nd : ks.Nodup
theorem IK.len {kvs : List (Key × V)} {ks : List Int} (h : IK kvs ks) : kvs.length = ks.length := by
  have := congrArg List.length h.keys
  simpa using this
theorem putK_old {kvs : List (Key × V)} {k : Key} {v : V} (h : (valV kvs k).isSome = true) : (putK kvs k v).map (·.1) = kvs.map (·.1) := by
  have ha : (kvs.any fun kv => decide (kv.1 = k)) = true := by rw [valV_any]; exact h
  unfold putK
  rw [if_pos ha, List.map_map]
  congr 1
  funext p
  simp only [Function.comp]
  split <;> rfl
theorem ik_put {kvs : List (Key × V)} {ks : List Int} (h : IK kvs ks) (n : Int) (v : V) : ∃ ks', IK (putK kvs (.inl n) v) ks' ∧ (∀ m, m ∈ ks' ↔ m ∈ ks ∨ m = n) ∧ ks'.length ≤ ks.length + 1 := by
  have memK : ∀ m : Int, (Sum.inl m : Key) ∈ kvs.map (·.1) ↔ m ∈ ks := fun m => by
    rw [h.keys, List.mem_map]
    constructor
    · rintro ⟨a, ha, e⟩
      cases e
      exact ha
    · intro hm
      exact ⟨m, hm, rfl⟩
  cases e : valV kvs (Sum.inl n : Key) with
  | some x =>
    refine ⟨ks, ⟨by rw [putK_old (by rw [e]; rfl)]; exact h.keys, h.nd⟩, fun m => ⟨.inl, fun hm => ?_⟩, by omega⟩
    rcases hm with hm | rfl
    · exact hm
    · exact (memK _).mp (valV_in e)
  | none =>
    have hn : n ∉ ks := fun z => valV_not e ((memK n).mpr z)
    refine ⟨ks ++ [n], ⟨?_, nd_snoc h.nd hn⟩, fun m => by simp, by simp⟩
    rw [putK_new _ e, List.map_append, List.map_append, h.keys]
    rfl
theorem keptBy_len {ru : List Int × Int} {ns : List Int} (h : ru.2 ≤ 20) : (keptBy ru ns).length ≤ 20 := by
  unfold keptBy
  rw [List.length_take]
  omega
abbrev nm_kept_of : List Str := ["rules", "nights", "found", "rule", "night"]
abbrev pm_kept_of : List Str := ["rules", "nights"]
abbrev lv_kept_of : Nat := 3
theorem sc_kept_of : FnScope nm_kept_of pm_kept_of (defScope s_kept_of) := ⟨rfl, rfl, rfl, by decide +kernel, rfl, by decide +kernel, by decide +kernel⟩
def sp_kept_of (K : PySem.W.Frag) : Sp := fun vs H Q _ => ∃ (a l : Addr) (rus : List (List Int × Int)) (ns : List Int), vs = [.ref a, .ref l] ∧ RulesAt H a rus ∧ SqL K H l (ns.map V.int) ∧ ns.Pairwise (· < ·) ∧
  ∀ p H', Same H H' → H p = none → H' p = some (.lst ((keptF rus ns).map V.int)) → Q (.ref p) H'
def iv_kept_of (a l d : Addr) (rus : List (List Int × Int)) (ns : List Int) (H : Hp) (i : Nat) (σ : L2.St) (H' : Hp) : Prop :=
  (∃ y3 y4, σ = [some (.ref a), some (.ref l), some (.ref d), y3, y4]) ∧ Same H H' ∧ ∃ kvs ks, H' d = some (.dK kvs) ∧ IK kvs ks ∧ ks.length ≤ 20 * i ∧ ∀ m, m ∈ ks ↔ ∃ ru ∈ rus.take i, m ∈ keptBy ru ns
def iv_kept_of2 (a l d p : Addr) (x : V) (kb : List Int) (ks0 : List Int) (H : Hp) (i : Nat) (j : Nat) (σ : L2.St) (H' : Hp) : Prop :=
  (∃ y4, σ = [some (.ref a), some (.ref l), some (.ref d), some x, y4]) ∧ Same H H' ∧ H' p = some (.lst (kb.map V.int)) ∧ ∃ kvs ks, H' d = some (.dK kvs) ∧ IK kvs ks ∧ ks.length ≤ 20 * i + j ∧ ∀ m, m ∈ ks ↔ m ∈ ks0 ∨ m ∈ kb.take j
theorem f_kept_of (T : Txt K mg) : Fk P w K mg base CX0 lv_kept_of "kept_of" pm_kept_of (sp_kept_of K) := by
  obtain ⟨f, fd, F, g, b⟩ := T.d_kept_of.ex
  refine ⟨f, fd, g, F.kp, b, F.ok sc_kept_of (fun vs H Q E h => ?_) (fun cdv A outer s H vs Q E hr h => ?_)⟩
  · obtain ⟨a, l, rus, ns, rfl, _⟩ := h; rfl
  · obtain ⟨a, l, rus, ns, rfl, hR, hl, hrise, q⟩ := h
    have hu := hu_of hr
    refine ⟨_, (pss_cons (ps_set (i := 2) sc_kept_of.nd rfl (.inl rfl) pe_dnewK)
      (pss_cons (ps_for PassesOwn.never rfl (pi_tup (pv 0)) (pg_name (i := 3) sc_kept_of.nd rfl (Or.inl rfl)) (pss_one (ps_for PassesOwn.never rfl (pi_list (pe_fn (f_kept_by T) (hr.mono (by decide)) (by rfl) pass0 (pa_cons (pv 3) (pa_cons (pv 1) pa_nil)))) (pg_name (i := 4) sc_kept_of.nd rfl (Or.inl rfl)) (pss_one (ps_dput hu (pv 2) (pv 4) pe_bl rfl)))))
      (pss_one (ps_ret (pe_callB (cr_sortedKI rfl) (by rfl) T.b_sorted (by decide +kernel) (pa_cons (pe_bm0 PySem.F.plainAttrs_dict PySem.F.slot_dict_keys PySem.F.type_dict_keys mt_keys (pv 2)) pa_nil)))))), ?_⟩
    with_reducible refine seq_k fun K_ hK_ => ?_
    walk_at "rs"
    intro d hd
    walk_at "rs"
    subst hK_
    first | with_reducible refine seq_k fun K_ hK_ => ?_ | skip
    walk_at "rs"
    have sD : Same H (upd H d (.dK [])) := same_upd hd
    obtain ⟨xs, ha, hxl, hxr⟩ := hR.ex
    have hl5 := hR.l5
    refine ⟨_, rfl, a, rfl, ⟨_, sqT (sD _ _ ha)⟩, for_tup (K := K) (a := a) (xs := xs) (iv_kept_of a l d rus ns H)
      ⟨⟨none, none, rfl⟩, sD, [], [], upd_same, ⟨rfl, List.nodup_nil⟩, by simp, fun m => by simp⟩ (fun i σ H5 _ p => sqT (p.2.1 _ _ ha)) ?_ ?_⟩
    · rintro i x σ H5 hx ⟨⟨y3, y4, rfl⟩, s5, kvs, ks, hd5, hik, hkl, hmem⟩
      obtain ⟨ru, hru, hxa⟩ := hxr i x hx
      have hi5 := lt_of_get hru
      have hru20 : ru.2 ≤ 20 := by obtain ⟨_, _, _, _, _, _, z⟩ := hxa; exact z
      walk_at "rs"
      refine ⟨_, rfl, _, rfl, x, ru, l, ns, rfl, hxa.same s5, s5.seq hl, fun p H6 s6 hp6 hP => ?_⟩
      have hpd : p ≠ d := fun e => by rw [e, hd5] at hp6; cases hp6
      have hkb := keptBy_len (ns := ns) hru20
      refine ⟨p, rfl, ⟨_, sqL hP⟩, for_list (K := K) (a := p) (xs := (keptBy ru ns).map V.int) (iv_kept_of2 a l d p x (keptBy ru ns) ks H i)
        ⟨⟨_, rfl⟩, s5.trans s6, hP, kvs, ks, s6 _ _ hd5, hik, by omega, fun m => by simp⟩ (fun j σ H7 _ p => sqL p.2.2.1) ?_ ?_⟩
      · rintro j y σ H7 hy ⟨⟨y4, rfl⟩, s7, hp7, kvs7, ks7, hd7, hik7, hkl7, hmem7⟩
        rw [List.getElem?_map] at hy
        cases e : (keptBy ru ns)[j]? with
        | none => rw [e] at hy; cases hy
        | some n =>
          rw [e] at hy
          cases hy
          have hj := lt_of_get e
          have hkl := hik7.len
          walk_at "rs"
          obtain ⟨ks8, h1, h2, h3⟩ := ik_put hik7 n (.bl true)
          refine ⟨_, DPut.k (k := Sum.inl n) hd7 (szl (by omega)), ?_⟩
          refine ⟨⟨_, rfl⟩, Same.app s7 hd, by rw [upd_ne hpd]; exact hp7, _, ks8, upd_same, h1, by omega, fun m => ?_⟩
          rw [h2, hmem7, take_next e, List.mem_append, List.mem_singleton, or_assoc]
      · rintro σ H7 ⟨⟨y4, rfl⟩, s7, hp7, kvs7, ks7, hd7, hik7, hkl7, hmem7⟩
        rw [List.length_map] at hkl7
        refine ⟨⟨_, _, rfl⟩, s7, kvs7, ks7, hd7, hik7, by omega, fun m => ?_⟩
        rw [hmem7, List.length_map, List.take_length, hmem, take_next hru]
        constructor
        · rintro (⟨r, h1, h2⟩ | h)
          · exact ⟨r, List.mem_append_left _ h1, h2⟩
          · exact ⟨ru, List.mem_append_right _ List.mem_cons_self, h⟩
        · rintro ⟨r, h1, h2⟩
          rcases List.mem_append.mp h1 with h1 | h1
          · exact .inl ⟨r, h1, h2⟩
          · rw [List.mem_singleton.mp h1] at h2
            exact .inr h2
    · rintro σ H5 ⟨⟨y3, y4, rfl⟩, s5, kvs, ks, hd5, hik, hkl, hmem⟩
      rw [hxl, List.take_length] at hmem
      walk_at "rs"
      subst hK_
      first | with_reducible refine seq_k fun K_ hK_ => ?_ | skip
      walk_at "rs"
      refine ⟨.inr (.inr (.inl ⟨rfl, .inl ⟨_, hd5⟩⟩)), ?_⟩
      refine ⟨d, kvs, rfl, rfl, hd5, fun v hv => ?_⟩
      have s6 := s5.trans (same_upd (o := KeysO v d) hv)
      refine ⟨v, d, kvs, ks, rfl, upd_same, (same_upd hv) _ _ hd5, hik.keys, fun ys p hperm hsort hp => ?_⟩
      refine q p _ (s6.trans (same_upd hp)) (s6.free hp) ?_
      rw [upd_same]
      have e : ys = keptF rus ns := rise_ext (rise_of_le hsort (hperm.nodup_iff.mpr hik.nd)) (keptF_rise hrise) fun m => by
        rw [hperm.mem_iff, hmem, mem_keptF]
      rw [e]
theorem lst_thing {H : Hp} {l : Addr} {ns : List Int} (hl : H l = some (.lst (ns.map V.int))) (hz : ns.length ≤ 100000) : DT K H 1 (.ref l) := by
  refine ⟨⟨_, .lst hl⟩, fun a xs e ha => ?_⟩
  cases e
  rw [hl] at ha
  rcases ha with z | z <;> cases z
  refine ⟨by simpa using hz, fun y hy => ?_⟩
  obtain ⟨i, _, rfl⟩ := List.mem_map.mp hy
  exact ⟨_, .int i⟩
theorem nights_is {H : Hp} {l : Addr} {ns : List Int} (hl : H l = some (.lst (ns.map V.int))) (hz : ns.length ≤ 100) (hr : ns.Pairwise (· < ·)) (hb : ∀ n ∈ ns, 0 ≤ n ∧ n ≤ 1000000000) : isNightsV H (.ref l) = true := by
  have h1 : riseV (ns.map V.int) = true := (riseV_ints ns).mpr hr
  have h2 : (ns.map V.int).all (fun y => isNumV y 0 (.int 1000000000)) = true := by
    rw [List.all_eq_true]
    intro y hy
    obtain ⟨i, hi, rfl⟩ := List.mem_map.mp hy
    have := hb i hi
    simp [isNumV, this]
  simp only [isNightsV, hl, h1, h2, List.length_map, hz, decide_true, Bool.and_true]
end
end Nk
namespace Nk
open PySem L2
section
variable {P : Program} {w : World} {K : PySem.W.Frag} {mg : Str → Option Value} {base : Heap}
/-- the errors' names, as the laws number them -/
def exNames : List Str := ["BadRounds", "BadNight", "BadNumber", "BadRules", "BadNights", "Elder", "Full", "NotHeld", "Pinned", "NotPinned", "BadState", "BadPart", "NotFit", "IsWhole", "BadPlan", "Unlike", "BadText"]
/-- an error of the j-th kind, caught, at a -/
def CaughtAt (mg : Str → Option Value) (H : Hp) (a : Addr) (j : Nat) : Prop := ∃ (x : Str) (d : Option Addr), exNames[j]? = some x ∧ H a = some (ExV (.ref (cls mg x)) d a) ∧ ∀ dd, d = some dd → ∃ fs, H dd = some (.xd fs)
theorem ex_count : ∀ j ∈ List.range 17, ((exNames.map fun y => V.bl (decide (exNames.getD j "" = y))).countP fun z => eqV z (.bl true)) = 1 := by decide +kernel
theorem ex_at : ∀ j ∈ List.range 17, ∀ m ∈ List.range 17, exNames.getD j "" = exNames.getD m "" → j = m := by decide +kernel
/-- the word of a kind -/
def exWords : List Str := ["rounds", "night", "number", "rules", "nights", "elder", "full", "held", "pinned", "not pinned", "state", "part", "fit", "whole", "plan", "unlike", "text"]
theorem wd_at : ∀ j ∈ List.range 17, ∀ m ∈ List.range 17, exWords.getD j "" = exWords.getD m "" → j = m := by decide +kernel
end
end Nk
namespace Nk
open PySem L2
section
variable {P : Program} {w : World} {K : PySem.W.Frag} {mg : Str → Option Value} {base : Heap}
/-- values and the rules that stand there -/
def RuleVs (H : Hp) (xs : List V) (rus : List (List Int × Int)) : Prop := xs.length = rus.length ∧ ∀ (i : Nat) x, xs[i]? = some x → ∃ ru, rus[i]? = some ru ∧ RuleAt H x ru
theorem RuleVs.same {H H' : Hp} {xs : List V} {rus : List (List Int × Int)} (h : RuleVs H xs rus) (s : Same H H') : RuleVs H' xs rus :=
  ⟨h.1, fun i x hx => by obtain ⟨ru, e, r⟩ := h.2 i x hx; exact ⟨ru, e, r.same s⟩⟩
theorem RuleVs.but {H H' : Hp} {t : Addr} {l : List V} {xs : List V} {rus : List (List Int × Int)} (h : RuleVs H xs rus) (s : But t H H') (ht : H t = some (.lst l)) : RuleVs H' xs rus :=
  ⟨h.1, fun i x hx => by obtain ⟨ru, e, r⟩ := h.2 i x hx; exact ⟨ru, e, r.but s ht⟩⟩
theorem RuleVs.snoc {H : Hp} {xs : List V} {rus : List (List Int × Int)} {x : V} {ru : List Int × Int} (h : RuleVs H xs rus) (r : RuleAt H x ru) : RuleVs H (xs ++ [x]) (rus ++ [ru]) := by
  refine ⟨by simp [h.1], fun i y hy => ?_⟩
  by_cases c : i < xs.length
  · rw [List.getElem?_append_left c] at hy
    obtain ⟨ru', e, r'⟩ := h.2 i y hy
    exact ⟨ru', by rw [List.getElem?_append_left (by rw [← h.1]; exact c)]; exact e, r'⟩
  · have hi : i = xs.length := by
      have := lt_of_get hy
      simp at this
      omega
    subst hi
    have e1 : (xs ++ [x])[xs.length]? = some x := by simp
    rw [e1] at hy
    cases hy
    refine ⟨ru, ?_, r⟩
    rw [h.1]
    simp
theorem RuleVs.set {H : Hp} {xs : List V} {rus : List (List Int × Int)} {x : V} {ru : List Int × Int} (h : RuleVs H xs rus) (r : RuleAt H x ru) (j : Nat) : RuleVs H (xs.set j x) (rus.set j ru) := by
  refine ⟨by simp [h.1], fun i y hy => ?_⟩
  have hl := lt_of_get hy
  rw [List.length_set] at hl
  by_cases c : i = j
  · subst c
    rw [List.getElem?_set_self hl] at hy
    cases hy
    exact ⟨ru, List.getElem?_set_self (by rw [← h.1]; exact hl), r⟩
  · rw [List.getElem?_set_ne (fun z => c z.symm)] at hy
    obtain ⟨ru', e, r'⟩ := h.2 i y hy
    exact ⟨ru', by rw [List.getElem?_set_ne (fun z => c z.symm)]; exact e, r'⟩
theorem RuleVs.at_ {H : Hp} {a : Addr} {xs : List V} {rus : List (List Int × Int)} (h : RuleVs H xs rus) (ha : H a = some (.tup xs)) (h1 : 1 ≤ rus.length) (h5 : rus.length ≤ 5) : RulesAt H a rus := ⟨⟨xs, ha, h.1, h.2⟩, h1, h5⟩
/-- how great a rule is -/
def RuleLe (long top mm : Int) (ru : List Int × Int) : Prop := (ru.1.length : Int) ≤ long ∧ (∀ r ∈ ru.1, r ≤ top) ∧ ru.2 ≤ mm
end
end Nk
namespace Nk
open PySem L2
section
variable {P : Program} {w : World} {K : PySem.W.Frag} {mg : Str → Option Value} {base : Heap}
/-- the lists of what each rule keeps, none of them at D -/
def ByLists (H : Hp) (D : Addr) (xs : List V) (rus : List (List Int × Int)) (ns : List Int) : Prop := xs.length = rus.length ∧ ∀ (i : Nat) x, xs[i]? = some x → ∃ (ru : List Int × Int) (p : Addr), rus[i]? = some ru ∧ x = .ref p ∧ H p = some (.lst ((keptUp ru ns).map V.int)) ∧ p ≠ D
theorem ByLists.same {H H' : Hp} {D : Addr} {xs : List V} {rus : List (List Int × Int)} {ns : List Int} (h : ByLists H D xs rus ns) (s : Same H H') : ByLists H' D xs rus ns :=
  ⟨h.1, fun i x hx => by obtain ⟨ru, p, e, e2, r, n⟩ := h.2 i x hx; exact ⟨ru, p, e, e2, s _ _ r, n⟩⟩
theorem ByLists.push {H : Hp} {D p : Addr} {xs : List V} {rus : List (List Int × Int)} {ns : List Int} {ru : List Int × Int} {o : HO} (h : ByLists H D xs rus ns) (hp : H p = some (.lst ((keptUp ru ns).map V.int))) (n : p ≠ D) : ByLists (upd H D o) D (xs ++ [.ref p]) (rus ++ [ru]) ns := by
  refine ⟨by simp [h.1], fun i y hy => ?_⟩
  by_cases c : i < xs.length
  · rw [List.getElem?_append_left c] at hy
    obtain ⟨ru', p', e, e2, r', n'⟩ := h.2 i y hy
    exact ⟨ru', p', by rw [List.getElem?_append_left (by rw [← h.1]; exact c)]; exact e, e2, by rw [upd_ne n']; exact r', n'⟩
  · have hi : i = xs.length := by
      have := lt_of_get hy
      simp at this
      omega
    subst hi
    have e1 : (xs ++ [V.ref p])[xs.length]? = some (.ref p) := by simp
    rw [e1] at hy
    cases hy
    refine ⟨ru, p, ?_, rfl, by rw [upd_ne n]; exact hp, n⟩
    rw [h.1]
    simp
end
end Nk
namespace Nk
open PySem L2
section
variable {P : Program} {w : World} {K : PySem.W.Frag} {mg : Str → Option Value} {base : Heap}
theorem mergeK_nd : ∀ {ks ls : List (Key × V)}, ((ls ++ ks).map (·.1)).Nodup → mergeK ls ks = ls ++ ks
  | [], ls, _ => by simp [mergeK]
  | p :: ks, ls, h => by
    have h1 : valV ls p.1 = none := by
      cases e : valV ls p.1 with
      | none => rfl
      | some v =>
        exfalso
        have hm := valV_in e
        rw [List.map_append, List.nodup_append] at h
        exact h.2.2 _ hm p.1 (by simp) rfl
    show mergeK (putK ls p.1 p.2) ks = _
    rw [putK_new _ h1, mergeK_nd (by simpa using h)]
    simp
theorem ixS {z : Str} {i : Int} {j c : Nat} {H : Hp} {Q : VK} (hz : z.cps.size ≤ 1000) (hi : i = (j : Int)) (e : z.cps.toList[j]? = some c) (q : Q (.str ⟨#[c]⟩) H) : rIxS (.str z) (.int i) H Q :=
  ⟨z, i, c, rfl, rfl, sz (by show z.cps.size ≤ _; omega), by rw [hi]; exact atI_nat e, q⟩
theorem str_add {z : Str} {c : Nat} : (z ++ (⟨#[c]⟩ : Str)).cps.toList = z.cps.toList ++ [c] := by
  show (z.cps ++ #[c]).toList = _
  simp
theorem empty_all : ∀ c ∈ (("" : Str)).cps.toList, 97 ≤ c ∧ c ≤ 122 := by
  have e : (("" : Str)).cps.toList = [] := by decide +kernel
  intro c hc
  rw [e] at hc
  cases hc
abbrev nm__law_name : List Str := ["script", "town", "names", "letters", "found", "k"]
abbrev pm__law_name : List Str := ["script", "town", "names"]
abbrev lv__law_name : Nat := 3
theorem sc__law_name : FnScope nm__law_name pm__law_name (defScope s__law_name) := ⟨rfl, rfl, rfl, by decide +kernel, rfl, by decide +kernel, by decide +kernel⟩
def sp__law_name (K : PySem.W.Frag) : Sp := fun vs H Q _ => ∃ (a t l : Addr) (ns : List Int) (c : Nat) (xs : List Str), vs = [.ref a, .ref t, .ref l] ∧ Tn K H a t ns c ∧ c < 900000000 ∧ H l = some (.lst (xs.map V.str)) ∧ l ≠ t ∧ 0 < xs.length ∧ xs.length ≤ 1000 ∧ (∀ x ∈ xs, isNm x) ∧
  ∀ (s : Str) (c' : Nat) (H' : Hp), isNm s → c' ≤ c + 8 → Tn K H' a t ns c' → But t H H' → Q (.str s) H'
def iv__law_name (K : PySem.W.Frag) (H1 : Hp) (a t l : Addr) (ns : List Int) (c : Nat) (i : Nat) (σ : L2.St) (H : Hp) : Prop :=
  ∃ (z : Str) (y : Option V), σ = [some (.ref a), some (.ref t), some (.ref l), some (.str letters), some (.str z), y] ∧ z.cps.toList.length = i ∧ (∀ c ∈ z.cps.toList, 97 ≤ c ∧ c ≤ 122) ∧ Tn K H a t ns (c + i) ∧ But t H1 H
theorem f__law_name (T : Txt K mg) : Fk P w K mg base CX0 lv__law_name "_law_name" pm__law_name (sp__law_name K) := by
  obtain ⟨f, fd, F, g, b⟩ := T.d__law_name.ex
  refine ⟨f, fd, g, F.kp, b, F.ok sc__law_name (fun vs H Q E h => ?_) (fun cdv A outer s H vs Q E hr h => ?_)⟩
  · obtain ⟨a, t, l, ns, c, xs, rfl, _⟩ := h; rfl
  · obtain ⟨a, t, l, ns, c, xs, rfl, hT, hc, hl, hlt, h0, h1, hnm, q⟩ := h
    refine ⟨_, (pss_cons (ps_if (pt_cmpR op_gt (pe_fn (f__law_draw T) (hr.mono (by decide)) (by rfl) pass0 (pa_cons (pv 0) (pa_cons (pv 1) (pa_cons pe_int pa_nil)))) pe_int (nomark _)) (pss_one (ps_ret (pe_fn (f__law_pick T) (hr.mono (by decide)) (by rfl) pass0 (pa_cons (pv 0) (pa_cons (pv 1) (pa_cons (pv 2) pa_nil)))))) pss_nil)
      (pss_cons (ps_set (i := 3) sc__law_name.nd rfl (.inl rfl) pe_str)
      (pss_cons (ps_set (i := 4) sc__law_name.nd rfl (.inl rfl) pe_str)
      (pss_cons (ps_for PassesOwn.never rfl (pi_range1 (by rfl) T.b_range (pa_cons (pe_op op_add pe_int (pe_fn (f__law_draw T) (hr.mono (by decide)) (by rfl) pass0 (pa_cons (pv 0) (pa_cons (pv 1) (pa_cons pe_int pa_nil))))) pa_nil)) (pg_name (i := 5) sc__law_name.nd rfl (Or.inl rfl)) (pss_one (ps_set (i := 4) sc__law_name.nd rfl (.inl rfl) (pe_op op_add_str (pv 4) (pe_ix ix_str (pv 3) (pe_fn (f__law_draw T) (hr.mono (by decide)) (by rfl) pass0 (pa_cons (pv 0) (pa_cons (pv 1) (pa_cons pe_int pa_nil)))) (fun _ _ => rfl))))))
      (pss_one (ps_ret (pv 4))))))), ?_⟩
    with_reducible refine seq_k fun K_ hK_ => ?_
    walk_at "ru"
    refine ⟨a, t, ns, c, 4, rfl, hT, by omega, by omega, by omega, fun d H1 d0 d1 T1 b1 => ?_⟩
    refine ⟨_, rfl, ite2 (fun c1 => ?_) (fun c1 => ?_)⟩
    · refine ⟨a, t, l, ns, c + 1, xs.map V.str, rfl, T1, by omega, b1 _ _ hl hlt, hlt, by simpa using h0, by simp; omega, fun v H2 hv T2 b2 => ?_⟩
      obtain ⟨x, hx, rfl⟩ := List.mem_map.mp hv
      exact q x (c + 2) H2 (hnm x hx) (by omega) T2 (b1.trans b2)
    · walk_at "ru"
      subst hK_
      first | with_reducible refine seq_k fun K_ hK_ => ?_ | skip
      walk_at "ru"
      walk_at "ru"
      subst hK_
      first | with_reducible refine seq_k fun K_ hK_ => ?_ | skip
      walk_at "ru"
      walk_at "ru"
      subst hK_
      first | with_reducible refine seq_k fun K_ hK_ => ?_ | skip
      walk_at "ru"
      refine ⟨a, t, ns, c + 1, 6, rfl, T1, by omega, by omega, by omega, fun e H2 e0 e1 T2 b2 => ?_⟩
      walk_at "ru"
      refine ⟨by omega, by omega, ?_⟩
      refine for_it walk_range (iv__law_name K H a t l ns (c + 2)) ⟨_, _, rfl, rfl, empty_all, T2, b1.trans b2⟩ (fun _ _ _ _ _ => trivial) (fun i x σ H3 H4 hi iv hy => ?_) (fun σ H3 iv => ?_)
      · obtain ⟨z, y, rfl, hz, hall, T3, b3⟩ := iv
        obtain ⟨rfl, rfl⟩ := hy
        walk_at "ru"
        refine ⟨a, t, ns, c + 2 + i, 26, rfl, T3, by omega, by omega, by omega, fun j H5 j0 j1 T5 b5 => ?_⟩
        have hj : letters.cps.toList[j.toNat]? = some (j.toNat + 97) := by
          have e : letters.cps.toList = (List.range 26).map (· + 97) := by decide +kernel
          rw [e, List.getElem?_map, List.getElem?_range (by omega)]
          rfl
        refine ixS (j := j.toNat) (by decide) (by omega) hj ?_
        walk_at "ru"
        have hzs : z.cps.size = i := by rw [← Array.length_toList]; exact hz
        refine ⟨sz (by show z.cps.size + 1 ≤ _; omega), _, _, rfl, by rw [str_add, List.length_append, hz]; rfl, fun c hc => ?_, T5, b3.trans b5⟩
        rw [str_add] at hc
        rcases List.mem_append.mp hc with hc | hc
        · exact hall c hc
        · rw [List.mem_singleton.mp hc]; omega
      · obtain ⟨z, y, rfl, hz, hall, T3, b3⟩ := iv
        walk_at "ru"
        subst hK_
        first | with_reducible refine seq_k fun K_ hK_ => ?_ | skip
        walk_at "ru"
        refine q z _ H3 ⟨by omega, by omega, hall⟩ ?_ T3 b3
        omega
abbrev nm__law_later : List Str := ["script", "town", "table", "found", "k", "name", "way", "one"]
abbrev pm__law_later : List Str := ["script", "town", "table"]
abbrev lv__law_later : Nat := 4
theorem sc__law_later : FnScope nm__law_later pm__law_later (defScope s__law_later) := ⟨rfl, rfl, rfl, by decide +kernel, rfl, by decide +kernel, by decide +kernel⟩
def sp__law_later (K : PySem.W.Frag) : Sp := fun vs H Q _ => ∃ (a t e : Addr) (ns : List Int) (c : Nat) (u : Tb), vs = [.ref a, .ref t, .ref e] ∧ Tn K H a t ns c ∧ c < 800000000 ∧ H e = some (.dK (kvsT u)) ∧ OkT u ∧ u.length ≤ 20 ∧
  ∀ (d : Addr) (tb : Tb) (c' : Nat) (H' : Hp), H d = none → d ≠ t → H' d = some (.dK (kvsT tb)) → OkT tb → tb.length ≤ 20 → c' ≤ c + 50 → Tn K H' a t ns c' → But t H H' → Q (.ref d) H'
def iv__law_later (K : PySem.W.Frag) (H1 : Hp) (a t e : Addr) (ns : List Int) (c : Nat) (i : Nat) (σ : L2.St) (H : Hp) : Prop :=
  ∃ (d : Addr) (y z x : Option V) (tb : Tb) (c' : Nat), σ = [some (.ref a), some (.ref t), some (.ref e), some (.ref d), y, z, x, none] ∧ H1 d = none ∧ d ≠ t ∧ H d = some (.dK (kvsT tb)) ∧ OkT tb ∧ tb.length ≤ 20 ∧ c' ≤ c + 12 * i ∧ Tn K H a t ns c' ∧ But t H1 H
/-- tuples of names and numbers -/
def RefsAt (H : Hp) : List Addr → Tb → Prop
  | [], [] => True
  | q :: qs, p :: ps => H q = some (.tup [.str p.1, .int p.2]) ∧ RefsAt H qs ps
  | _, _ => False
theorem RefsAt.tups {H H' : Hp} (h : ∀ b xs, H b = some (.tup xs) → H' b = some (.tup xs)) : ∀ {xs : List Addr} {ps : Tb}, RefsAt H xs ps → RefsAt H' xs ps
  | [], [], _ => trivial
  | q :: xs, p :: ps, ⟨hq, r⟩ => ⟨h _ _ hq, RefsAt.tups h r⟩
theorem RefsAt.same {H H' : Hp} (s : Same H H') {xs : List Addr} {ps : Tb} (h : RefsAt H xs ps) : RefsAt H' xs ps := h.tups fun b ys e => s _ _ e
theorem RefsAt.len {H : Hp} : ∀ {xs : List Addr} {ps : Tb}, RefsAt H xs ps → xs.length = ps.length
  | [], [], _ => rfl
  | x :: xs, p :: ps, ⟨_, r⟩ => by simp [RefsAt.len r]
theorem RefsAt.app {H : Hp} : ∀ {xs ys : List Addr} {ps qs : Tb}, RefsAt H xs ps → RefsAt H ys qs → RefsAt H (xs ++ ys) (ps ++ qs)
  | [], _, [], _, _, h => h
  | x :: xs, _, p :: ps, _, ⟨a, r⟩, h => ⟨a, RefsAt.app r h⟩
theorem RefsAt.paired {H : Hp} : ∀ {xs : List Addr} {ps : Tb}, RefsAt H xs ps → Paired (fun p kv => SqT K H p [kV kv.1, kv.2]) xs (kvsT ps)
  | [], [], _ => .nil
  | x :: xs, p :: ps, ⟨h, r⟩ => .cons (sqT h) (RefsAt.paired r)
def iv_later2 (H1 : Hp) (D : Addr) (tb : Tb) (nm : Str) (i : Nat) (H : Hp) : Prop := Same H1 H ∧ ∃ ps, H D = some (.lst (ps.map V.ref)) ∧ RefsAt H ps ((tb.take i).filter fun p => decide (p.1 ≠ nm))
theorem f__law_later (T : Txt K mg) : Fk P w K mg base CX0 lv__law_later "_law_later" pm__law_later (sp__law_later K) := by
  obtain ⟨f, fd, F, g, b⟩ := T.d__law_later.ex
  refine ⟨f, fd, g, F.kp, b, F.ok sc__law_later (fun vs H Q E h => ?_) (fun cdv A outer s H vs Q E hr h => ?_)⟩
  · obtain ⟨a, t, e, ns, c, u, rfl, _⟩ := h; rfl
  · obtain ⟨a, t, e, ns, c, u, rfl, hT, hc, he, oku, lu, q⟩ := h
    have hu := hu_of hr
    refine ⟨_, (pss_cons (ps_set (i := 3) sc__law_later.nd rfl (.inr rfl) (pe_callTy call_dictD (by rfl) T.b_dict (by decide +kernel) (pa_cons (pv 2) pa_nil)))
      (pss_cons (ps_for PassesOwn.never rfl (pi_range1 (by rfl) T.b_range (pa_cons (pe_fn (f__law_draw T) (hr.mono (by decide)) (by rfl) pass0 (pa_cons (pv 0) (pa_cons (pv 1) (pa_cons pe_int pa_nil)))) pa_nil)) (pg_name (i := 4) sc__law_later.nd rfl (Or.inl rfl)) (pss_cons (ps_set (i := 5) sc__law_later.nd rfl (.inr rfl) (pe_fn (f__law_name T) (hr.mono (by decide)) (by rfl) pass0 (pa_cons (pv 0) (pa_cons (pv 1) (pa_cons (pe_op op_cat (pe_callTy call_list_of (by rfl) T.b_list (by decide +kernel) (pa_cons (pe_callB (cr_sortedKS rfl) (by rfl) T.b_sorted (by decide +kernel) (pa_cons (pe_bm0 PySem.F.plainAttrs_dict PySem.F.slot_dict_keys PySem.F.type_dict_keys mt_keys (pv 3)) pa_nil)) pa_nil)) (pe_lst (pa_cons pe_str (pa_cons pe_str (pa_cons pe_str (pa_cons pe_str pa_nil)))))) pa_nil)))))
      (pss_cons (ps_set (i := 6) sc__law_later.nd rfl (.inl rfl) (pe_fn (f__law_draw T) (hr.mono (by decide)) (by rfl) pass0 (pa_cons (pv 0) (pa_cons (pv 1) (pa_cons pe_int pa_nil)))))
      (pss_one (ps_if (PW.pt (pw_and (pt_cmpR op_eq (pv 6) pe_int (nomark _)) (pw_and1 (pt_cmp (pc_din hu (pv 5) (pv 3)))))) (pss_one (ps_set (i := 3) sc__law_later.nd rfl (.inr rfl) (pe_callTy (call_dictP rfl) (by rfl) T.b_dict (by decide +kernel) (pa_cons (pe_lock (pe_lc (own := [("one", 7)]) (g := gName 7) (by rfl) sc__law_later.nd (pi_keys (pv 3)) (blkOk_by (own := [("one", 7)]) (N := nm__law_later) (sc := defScope s__law_later) (by decide +kernel)) (fun _ _ _ _ _ => (pg_name (i := 7) sc__law_later.nd rfl (Or.inl rfl))) (fun _ _ _ _ _ => (pts_one (pt_cmpR op_ne (pv 7) (pv 5) (nomark _)))) (fun _ _ _ _ _ => (pe_tup (pa_cons (pv 7) (pa_cons (pe_dget hu (pv 3) (pv 7) (fun _ _ => rfl)) pa_nil)))))) pa_nil)))) (pss_one (ps_if (PW.pt (pw_and (pt_cmpR op_gt (pv 6) pe_int (nomark _)) (pw_and1 (PW.pt (pw_or (pt_cmpR op_lt (pe_callB call_lenD (by rfl) T.b_len PySem.boot_len (pa_cons (pv 3) pa_nil)) pe_int (nomark _)) (pw_or1 (pt_cmp (pc_din hu (pv 5) (pv 3))))))))) (pss_one (ps_dput hu (pv 3) (pv 5) (pe_fn (f__law_draw T) (hr.mono (by decide)) (by rfl) pass0 (pa_cons (pv 0) (pa_cons (pv 1) (pa_cons (pe_fn (f__law_pick T) (hr.mono (by decide)) (by rfl) pass0 (pa_cons (pv 0) (pa_cons (pv 1) (pa_cons (pe_lst (pa_cons pe_int (pa_cons pe_int pa_nil))) pa_nil)))) pa_nil)))) rfl)) pss_nil)))))))
      (pss_one (ps_ret (pv 3))))), ?_⟩
    with_reducible refine seq_k fun K_ hK_ => ?_
    walk_at "ru"
    refine ⟨_, .inl he, ?_⟩
    intro d n_d
    generalize hG_ : upd _ d _ = H1
    obtain ⟨s1, hd⟩ := newF n_d hG_
    clear hG_
    have hdt : d ≠ t := hT.some_ n_d
    walk_at "ru"
    subst hK_
    first | with_reducible refine seq_k fun K_ hK_ => ?_ | skip
    walk_at "ru"
    refine ⟨a, t, ns, c, 4, rfl, hT.same s1, by omega, by omega, by omega, fun m H2 m0 m1 T2 b2 => ?_⟩
    walk_at "ru"
    refine ⟨by omega, by omega, ?_⟩
    refine for_it walk_range (iv__law_later K H a t e ns (c + 1)) ⟨d, _, _, _, u, c + 1, rfl, n_d, hdt, b2 _ _ hd hdt, oku, lu, by omega, T2, Same.thenB s1 b2⟩ (fun _ _ _ _ _ => trivial) (fun i x σ H3 H4 hi iv hy => ?_) (fun σ H3 iv => ?_)
    · obtain ⟨d, y, z, x, tb, c', rfl, nd, hdt, hd3, ok, hlen, hc', T3, b3⟩ := iv
      obtain ⟨rfl, rfl⟩ := hy
      have hi' : i < 4 := by omega
      walk_at "ru"
      with_reducible refine seq_k fun K_ hK_ => ?_
      walk_at "ru"
      refine ⟨tyD hd3, d, _, rfl, rfl, hd3, fun v hv => ?_⟩
      generalize hG : upd H4 v (KeysO v d) = H5
      obtain ⟨s5, hv5⟩ := newF hv hG
      clear hG
      refine ⟨v, d, _, nms tb, rfl, hv5, s5 _ _ hd3, kvsT_keys, ok.nd, fun ys l h3 h4 hl => ?_⟩
      generalize hG : upd H5 l _ = H6
      obtain ⟨s6, hl6⟩ := newF hl hG
      clear hG
      walk_at "ru"
      refine ⟨_, .inl (sqL hl6), ?_⟩
      intro l2 n_l2
      generalize hG_ : upd _ l2 _ = H7
      obtain ⟨s7, hl7⟩ := newF n_l2 hG_
      clear hG_
      intro l3 n_l3
      generalize hG_ : upd _ l3 _ = H8
      obtain ⟨s8, hl8⟩ := newF n_l3 hG_
      clear hG_
      have hl28 := s8 _ _ hl7
      have yl : ys.length ≤ 20 := Nat.le_trans (nodup_le (pw_nodup h3) (m := nms tb) fun x hx => (h4 x).mp hx) (by simpa [nms] using hlen)
      refine ⟨l2, l3, _, _, rfl, rfl, hl28, hl8, sz (by simp; omega), ?_⟩
      intro l4 n_l4
      generalize hG_ : upd _ l4 _ = H9
      obtain ⟨s9, hl9⟩ := newF n_l4 hG_
      clear hG_
      have s49 := ((((s5.trans s6).trans s7).trans s8).trans s9)
      have T9 := T3.same s49
      have hd9 := s49 _ _ hd3
      have e4 : ys.map V.str ++ [V.str (Str.ofString "a"), V.str (Str.ofString "b"), V.str (Str.ofString "ab"), V.str (Str.ofString "q")] = (ys ++ (["a", "b", "ab", "q"] : List Str)).map V.str := by rw [List.map_append]; rfl
      rw [e4] at hl9
      have yn : ∀ x ∈ ys ++ (["a", "b", "ab", "q"] : List Str), isNm x := fun x hx => by
        rcases List.mem_append.mp hx with hx | hx
        · obtain ⟨pr, hp, rfl⟩ := List.mem_map.mp ((h4 x).mp hx)
          exact ok.nm _ hp
        · have : ∀ x ∈ (["a", "b", "ab", "q"] : List Str), isNm x := by decide +kernel
          exact this x hx
      refine ⟨a, t, l4, ns, c', _, rfl, T9, by omega, hl9, (T3.same (((s5.trans s6).trans s7).trans s8)).some_ n_l4, by simp, by simp; omega, yn, fun nm c2 H10 hn hc2 T10 b10 => ?_⟩
      have b410 := Same.thenB s49 b10
      have hd10 := b410 _ _ hd3 hdt
      have b310 := b3.trans b410
      walk_at "ru"
      subst hK_
      first | with_reducible refine seq_k fun K_ hK_ => ?_ | skip
      walk_at "ru"
      refine ⟨a, t, ns, c2, 4, rfl, T10, by omega, by omega, by omega, fun way H11 w0 w1 T11 b11 => ?_⟩
      have hd11 := b11 _ _ hd10 hdt
      have b311 := b310.trans b11
      walk_at "ru"
      subst hK_
      first | with_reducible refine seq_k fun K_ hK_ => ?_ | skip
      walk_at "ru"
      have hdget : DGet H11 d (.str nm) (valV (kvsT tb) (Sum.inr nm)) := DGet.k (k := Sum.inr nm) hd11
      have done : iv__law_later K H a t e ns (c + 1) (i + 1) [some (V.ref a), some (V.ref t), some (V.ref e), some (V.ref d), some (V.int (0 + ↑i)), some (V.str nm), some (V.int way), none] H11 :=
        ⟨d, _, _, _, tb, c2 + 1, rfl, nd, hdt, hd11, ok, hlen, by omega, T11, b311⟩
      by_cases w : way = 0
      · rw [if_pos w]
        refine ⟨_, hdget, ?_⟩
        rw [kvsT_val]
        cases eL : lk tb nm with
        | none =>
          rw [if_neg (by simp), if_neg (by omega)]
          exact done
        | some j =>
          rw [if_pos (by simp)]
          refine ⟨d, _, hd11, trivial, fun od => ?_⟩
          generalize hG : upd H11 d (.frz od (.dK (kvsT tb))) = H12
          have hd12 : H12 d = some (.frz od (.dK (kvsT tb))) := by rw [← hG]; exact upd_same
          have un := fun {H2 : Hp} (s : Same H12 H2) => unlock hd11 hG s
          walk_at "ru"
          refine ⟨od, .inl ⟨_, hd12, fun D hD => ?_⟩⟩
          refine lc_it walk_keys (iv_later2 H12 D tb nm) ⟨same_upd hD, [], upd_same, by simp [RefsAt]⟩ (fun _ _ _ p => p.1 _ _ hd12) (fun i x H2 H3 hi p hy => ?_) (fun H2 p => ?_)
          · obtain ⟨s2, ps, hD2, hP2⟩ := p
            obtain ⟨rfl, k, v, hk, rfl⟩ := hy
            unfold kvsT at hk
            rw [List.getElem?_map] at hk
            cases ek : tb[i]? with
            | none => rw [ek] at hk; cases hk
            | some pr =>
              rw [ek] at hk
              cases hk
              have hm := mem_of_get ek
              have hft := filter_take_next (fun p : Str × Int => decide (p.1 ≠ nm)) ek
              have hpl := hP2.len
              have hfl := filter_len tb (fun p : Str × Int => decide (p.1 ≠ nm)) i
              walk_at "ru"
              by_cases cN : pr.1 = nm
              · rw [if_neg (by simp [cN])]
                rw [if_neg (by simp [cN]), List.append_nil] at hft
                exact ⟨s2, ps, hD2, by rw [hft]; exact hP2⟩
              · rw [if_pos (by simp [cN])]
                rw [if_pos (by simp [cN])] at hft
                have hval : valV (kvsT tb) (Sum.inr pr.1) = some (.int pr.2) := by rw [kvsT_val, lk_of ok.nd hm]; rfl
                refine ⟨_, .inl ⟨_, Sum.inr pr.1, .inr ⟨od, s2 _ _ hd12⟩, rfl, hval.symm⟩, ?_⟩
                intro q1 n_q1
                generalize hG_ : upd _ q1 _ = H5
                obtain ⟨s5, hq1⟩ := newF n_q1 hG_
                clear hG_
                refine ⟨_, s5 _ _ hD2, szl (by rw [List.length_map]; omega), Same.app (s2.trans s5) hD, ps ++ [q1], by rw [upd_same, List.map_append]; rfl, ?_⟩
                have kp : ∀ z zs o, H5 z = some (.tup zs) → (upd H5 D (.lst o)) z = some (.tup zs) := fun z zs o e => by rw [upd_ne (ne_of e (s5 _ _ hD2) (by intro z; cases z))]; exact e
                rw [hft]
                exact ((hP2.same s5).tups (fun b xs e => kp b xs _ e)).app ⟨kp _ _ _ hq1, trivial⟩
          · obtain ⟨s2, ps, hD2, hP2⟩ := p
            rw [kvsT_len, List.take_length] at hP2
            obtain ⟨hl2, s11⟩ := un s2
            have hDd : D ≠ d := (ne_of_none hd12 hD).symm
            have hD3 : (upd H2 d (.dK (kvsT tb))) D = some (.lst (ps.map V.ref)) := by rw [upd_ne hDd]; exact hD2
            have hP3 : RefsAt (upd H2 d (.dK (kvsT tb))) ps (dropT tb nm) := hP2.tups fun b xs e => by rw [upd_ne (ne_of e hl2 (by intro z; cases z))]; exact e
            refine ⟨hl2, ps, sqL hD3, kvsT (dropT tb nm), hP3.paired, fun p2 hp2 => ?_⟩
            have ndk : ((([] : List (Key × V)) ++ kvsT (dropT tb nm)).map (·.1)).Nodup := by
              rw [List.nil_append, kvsT_keys]
              exact List.Pairwise.map _ (fun a b h e => h (Sum.inr.inj e)) ok.drop.nd
            rw [mergeK_nd ndk, List.nil_append]
            have nH : H p2 = none := b311.free (s11.free hp2) ((T11.same s11).some_ hp2)
            refine ⟨p2, _, _, _, dropT tb nm, c2 + 1, rfl, nH, (T11.same s11).some_ hp2, upd_same, ok.drop, Nat.le_trans (List.length_filter_le _ _) hlen, by omega, (T11.same s11).same (same_upd hp2), (b311.thenS s11).thenS (same_upd hp2)⟩
      · rw [if_neg w, if_pos (by omega)]
        refine ⟨_, hd11, ?_⟩
        rw [kvsT_len]
        by_cases c20 : tb.length < 20
        · rw [if_pos (by omega)]
          refine pickI [2, 100] T11 (by omega) fun k hk H12 T12 b12 => ?_
          have hk2 : 0 < k ∧ k ≤ 100 := by
            simp only [List.mem_cons, List.not_mem_nil, or_false] at hk
            omega
          refine ⟨a, t, ns, c2 + 2, k, rfl, T12, by omega, by omega, by omega, fun m H13 m0 m1 T13 b13 => ?_⟩
          have hd13 := (b12.trans b13) _ _ hd11 hdt
          walk_at "ru"
          refine ⟨_, DPut.k (k := Sum.inr nm) hd13 (szl (by rw [kvsT_len]; omega)), ?_⟩
          have hpl : (putT tb nm m).length ≤ 20 := by
            rw [put_len]
            split <;> omega
          exact ⟨d, _, _, _, putT tb nm m, c2 + 3, rfl, nd, hdt, by rw [upd_same, kvsT_put], ok.put hn (by omega) (by omega), hpl, by omega, T13.app hT nd hdt, (b311.trans (b12.trans b13)).app nd⟩
        · rw [if_neg (by omega)]
          refine ⟨_, hdget, ?_⟩
          rw [kvsT_val]
          cases eL : lk tb nm with
          | none =>
            rw [if_neg (by simp)]
            exact done
          | some j =>
            rw [if_pos (by simp)]
            refine pickI [2, 100] T11 (by omega) fun k hk H12 T12 b12 => ?_
            have hk2 : 0 < k ∧ k ≤ 100 := by
              simp only [List.mem_cons, List.not_mem_nil, or_false] at hk
              omega
            refine ⟨a, t, ns, c2 + 2, k, rfl, T12, by omega, by omega, by omega, fun m H13 m0 m1 T13 b13 => ?_⟩
            have hd13 := (b12.trans b13) _ _ hd11 hdt
            walk_at "ru"
            refine ⟨_, DPut.k (k := Sum.inr nm) hd13 (szl (by rw [kvsT_len]; omega)), ?_⟩
            have hpl : (putT tb nm m).length ≤ 20 := by
              rw [put_len]
              rw [if_pos (mem_nms.mpr ⟨j, eL⟩)]; exact hlen
            exact ⟨d, _, _, _, putT tb nm m, c2 + 3, rfl, nd, hdt, by rw [upd_same, kvsT_put], ok.put hn (by omega) (by omega), hpl, by omega, T13.app hT nd hdt, (b311.trans (b12.trans b13)).app nd⟩
    · obtain ⟨d, y, z, x, tb, c', rfl, nd, hdt, hd3, ok, hlen, hc', T3, b3⟩ := iv
      walk_at "ru"
      subst hK_
      first | with_reducible refine seq_k fun K_ hK_ => ?_ | skip
      walk_at "ru"
      exact q d tb c' H3 nd hdt hd3 ok hlen (by omega) T3 b3
theorem ne_same {H : Hp} {p q : Addr} {t u : Tb} {Q : VK} {E : XK} (hS : StAt mg H p t) (hU : StAt mg H q u) (h : ∀ n, lk t n = lk u n) (k : Q (.bl false) H) : rEqO (cls mg "State") (sp_State____eq__ mg) E true (.ref p) (.ref q) H Q := by
  obtain ⟨dx, d, h1, h2⟩ := hS.ex
  obtain ⟨dy, e, h3, h4⟩ := hU.ex
  refine ⟨p, q, dx, dy, _, _, rfl, rfl, h1, h3, p, q, t, u, rfl, hS, hU, _, rfl, ?_⟩
  rw [eq_T' hS.ok hU.ok h]
  exact k
theorem GoodP.nil : GoodP [] := ⟨.nil, (fun _ h => nomatch h), (fun _ h => nomatch h), by simp⟩
theorem dicts_but {H H' : Hp} {t d : Addr} {l : List V} {kvs : List (Key × V)} (b : But t H H') (ht : H t = some (.lst l)) (h : H d = some (.dK kvs)) : H' d = some (.dK kvs) := b _ _ h (ne_of h ht (by intro z; cases z))
end
end Nk
namespace Nk
open PySem L2
section
variable {P : Program} {w : World} {K : PySem.W.Frag} {mg : Str → Option Value} {base : Heap}
/-- a class with a keep's fields -/
structure KC (K : PySem.W.Frag) (mg : Str → Option Value) (c : Str) : Prop where
  o : Oc K mg c
  nr : NoAttr K (cls mg c) "rules"
  nn : NoAttr K (cls mg c) "nights"
  np : NoAttr K (cls mg c) "pinned"
  nl : NoAttr K (cls mg c) "last"
/-- what a keep holds -/
structure KV where
  rus : List (List Int × Int)
  ns : List Int
  ps : List Int
  last : Option Int
def lastV : Option Int → V
  | none => .non
  | some n => .int n
/-- the fields, a keep's own ahead of others -/
def kfs (r N Pn : Addr) (l : V) (ex : List (Str × V)) : List (Str × V) := ("rules", .ref r) :: ("nights", .ref N) :: ("pinned", .ref Pn) :: ("last", l) :: ex
theorem kfs_rules {r N Pn : Addr} {l : V} {ex : List (Str × V)} : (kfs r N Pn l ex).lookup ("rules" : Str) = some (.ref r) := by rfl
theorem kfs_nights {r N Pn : Addr} {l : V} {ex : List (Str × V)} : (kfs r N Pn l ex).lookup ("nights" : Str) = some (.ref N) := by rfl
theorem kfs_pinned {r N Pn : Addr} {l : V} {ex : List (Str × V)} : (kfs r N Pn l ex).lookup ("pinned" : Str) = some (.ref Pn) := by rfl
theorem kfs_last {r N Pn : Addr} {l : V} {ex : List (Str × V)} : (kfs r N Pn l ex).lookup ("last" : Str) = some l := by rfl
theorem kfs_put_nights {r N N' Pn : Addr} {l : V} {ex : List (Str × V)} : putF "nights" (.ref N') (kfs r N Pn l ex) = kfs r N' Pn l ex := by rfl
theorem kfs_put_pinned {r N Pn Pn' : Addr} {l : V} {ex : List (Str × V)} : putF "pinned" (.ref Pn') (kfs r N Pn l ex) = kfs r N Pn' l ex := by rfl
theorem kfs_put_last {r N Pn : Addr} {l l' : V} {ex : List (Str × V)} : putF "last" l' (kfs r N Pn l ex) = kfs r N Pn l' ex := by rfl
theorem kfs_len {r N Pn : Addr} {l : V} {ex : List (Str × V)} : (kfs r N Pn l ex).length = ex.length + 4 := by rfl
/-- names that are no fields of a keep -/
def NoK (m : Str) : Prop := m ≠ "rules" ∧ m ≠ "nights" ∧ m ≠ "pinned" ∧ m ≠ "last"
theorem kfs_no {r N Pn : Addr} {l : V} {ex : List (Str × V)} {m : Str} (h : NoK m) : (kfs r N Pn l ex).lookup m = ex.lookup m := by
  obtain ⟨h1, h2, h3, h4⟩ := h
  unfold kfs
  rw [List.lookup_cons, List.lookup_cons, List.lookup_cons, List.lookup_cons, beq_eq_false_iff_ne.mpr h1, beq_eq_false_iff_ne.mpr h2, beq_eq_false_iff_ne.mpr h3, beq_eq_false_iff_ne.mpr h4]
/-- a keep of the class c stands at k; S: what may change -/
structure KeepAt (K : PySem.W.Frag) (mg : Str → Option Value) (c : Str) (ex : List (Str × V)) (H : Hp) (k : Addr) (S : List Addr) (v : KV) : Prop where
  kc : KC K mg c
  exl : ex.length ≤ 50
  at_ : ∃ (dx r N Pn : Addr), S = [k, N, Pn] ∧ N ≠ Pn ∧ H k = some (.ins (cls mg c) dx (kfs r N Pn (lastV v.last) ex)) ∧ RulesAt H r v.rus ∧ H N = some (.lst (v.ns.map V.int)) ∧ H Pn = some (.lst (v.ps.map V.int))
  rise : v.ns.Pairwise (· < ·)
  bnd : ∀ n ∈ v.ns, 0 ≤ n ∧ n ≤ 1000000000
  lst : ∀ n ∈ v.ns, ∃ l, v.last = some l ∧ n ≤ l
  lb : ∀ l, v.last = some l → 0 ≤ l ∧ l ≤ 1000000000
  n100 : v.ns.length ≤ 100
  prise : v.ps.Pairwise (· < ·)
  psub : ∀ n ∈ v.ps, n ∈ v.ns
theorem RulesAt.step {S : List Addr} {H H' : Hp} {a : Addr} {rus : List (List Int × Int)} (h : RulesAt H a rus) (s : Step S H H') : RulesAt H' a rus := by
  obtain ⟨xs, ha, hl, hi⟩ := h.ex
  refine ⟨⟨xs, s.tups _ _ ha, hl, fun i x hx => ?_⟩, h.l1, h.l5⟩
  obtain ⟨ru, e, b, r, rfl, hb, hr, m0, m1⟩ := hi i x hx
  exact ⟨ru, e, b, r, rfl, s.tups _ _ hb, ⟨s.tups _ _ hr.at_, hr.ok, hr.le, hr.ln⟩, m0, m1⟩
theorem KeepAt.plen {c : Str} {ex : List (Str × V)} {H : Hp} {k : Addr} {S : List Addr} {v : KV} (h : KeepAt K mg c ex H k S v) : v.ps.length ≤ 100 :=
  Nat.le_trans (nodup_len _ _ (rise_nodup h.prise) h.psub) h.n100
/-- what else changes leaves a keep -/
theorem KeepAt.step {c : Str} {ex : List (Str × V)} {H H' : Hp} {k : Addr} {S T : List Addr} {v : KV} (h : KeepAt K mg c ex H k S v) (s : Step T H H') (n : ∀ b ∈ S, b ∉ T) : KeepAt K mg c ex H' k S v := by
  obtain ⟨dx, r, N, Pn, rfl, hNP, hk, hR, hN, hP⟩ := h.at_
  exact ⟨h.kc, h.exl, ⟨dx, r, N, Pn, rfl, hNP, s.keep _ _ hk (n _ (by simp)), hR.step s, s.keep _ _ hN (n _ (by simp)), s.keep _ _ hP (n _ (by simp))⟩, h.rise, h.bnd, h.lst, h.lb, h.n100, h.prise, h.psub⟩
theorem KeepAt.same {c : Str} {ex : List (Str × V)} {H H' : Hp} {k : Addr} {S : List Addr} {v : KV} (h : KeepAt K mg c ex H k S v) (s : Same H H') : KeepAt K mg c ex H' k S v := h.step (T := []) (.of s) (fun _ _ => by simp)
abbrev nm_Elder____init__ : List Str := ["self", "last"]
abbrev pm_Elder____init__ : List Str := ["self", "last"]
abbrev lv_Elder____init__ : Nat := 1
theorem sc_Elder____init__ : FnScope nm_Elder____init__ pm_Elder____init__ (defScope s_Elder____init__) := ⟨rfl, rfl, rfl, by decide +kernel, rfl, by decide +kernel, by decide +kernel⟩
def sp_Elder (mg : Str → Option Value) : Sp := fun vs H Q _ => ∃ (a : Addr) (v : V), vs = [.ref a, v] ∧ H a = some (exo a (cls mg "Elder") none) ∧
  ∀ dx, H dx = none → dx ≠ a → Q .non (upd (upd H dx (exd dx [("last", v)])) a (exo a (cls mg "Elder") (some dx)))
theorem f_Elder____init__ (T : Txt K mg) : Ek P w K mg base CX0 lv_Elder____init__ "Elder" pm_Elder____init__ (sp_Elder mg) := by
  obtain ⟨fI, fd, F, h1, h2, h3⟩ := T.y_Elder.ini
  refine ⟨fI, fd, h1, h2, h3, F.ok sc_Elder____init__ (fun vs H Q E h => ?_) (fun cdv A outer s H vs Q E hr h => ?_)⟩
  · obtain ⟨a, v, rfl, _⟩ := h; rfl
  · obtain ⟨a, v, rfl, ha, q⟩ := h
    refine ⟨_, (pss_one (ps_ostR (pv 0) (pv 1))), ?_⟩
    exact ⟨_, rfl, _, rfl, a, _, rfl, T.y_Elder.ox, T.y_Elder.na, ha, q⟩
abbrev nm_look_taken : List Str := ["keep", "night"]
abbrev pm_look_taken : List Str := ["keep", "night"]
abbrev lv_look_taken : Nat := 3
theorem sc_look_taken : FnScope nm_look_taken pm_look_taken (defScope s_look_taken) := ⟨rfl, rfl, rfl, by decide +kernel, rfl, by decide +kernel, by decide +kernel⟩
def sp_look_taken (K : PySem.W.Frag) (mg : Str → Option Value) : Sp := fun vs H Q E => ∃ (c : Str) (ex : List (Str × V)) (k : Addr) (S : List Addr) (v : KV) (x : V) (n : String), vs = [.ref k, x] ∧ KeepAt K mg c ex H k S v ∧ Thing K H x n ∧
  (isNumV x 0 (.int 1000000000) = false → E (.ref (cls mg "BadNight")) none H) ∧
  (∀ m l, x = .int m → 0 ≤ m → m ≤ 1000000000 → v.last = some l → m ≤ l → ∀ d H', Same H H' → H' d = some (.xd [("last", .int l)]) → E (.ref (cls mg "Elder")) (some d) H') ∧
  (∀ m, x = .int m → 0 ≤ m → m ≤ 1000000000 → (∀ l, v.last = some l → l < m) → 100 ≤ v.ns.length → E (.ref (cls mg "Full")) none H) ∧
  (∀ m, x = .int m → 0 ≤ m → m ≤ 1000000000 → (∀ l, v.last = some l → l < m) → v.ns.length < 100 → Q .non H)
theorem f_look_taken (T : Txt K mg) : Fk P w K mg base (L2.CX P w) lv_look_taken "look_taken" pm_look_taken (sp_look_taken K mg) := by
  obtain ⟨f, fd, F, g, b⟩ := T.d_look_taken.ex
  refine ⟨f, fd, g, F.kp, b, F.okX sc_look_taken (fun vs H Q E h => ?_) (fun cdv A outer s H vs Q E hr h => ?_)⟩
  · obtain ⟨c, ex, k, S, v, x, n, rfl, _⟩ := h; rfl
  · obtain ⟨c, ex, k, S, v, x, n, rfl, hK, hx, q1, q2, q3, q4⟩ := h
    refine ⟨_, (pss_cons (ps_expr (pe_fn (f_look_night T) (hr.mono (by decide)) (by rfl) (passX (takes_of rfl rfl rfl rfl)) (pa_cons (pv 1) pa_nil)))
      (pss_cons (ps_if (PW.pt (pw_and (pt_cmpR op_notN (pe_fld (pv 0) rfl) pe_non (nomark _)) (pw_and1 (pt_cmpR op_le (pv 1) (pe_fld (pv 0) rfl) (nomark _))))) (pss_one (ps_raise rfl (takes_of rfl rfl rfl rfl) (pmk_el T.y_Elder (f_Elder____init__ T) (hr.mono (by decide)) pass0 (by rfl) (pa_cons (pe_fld (pv 0) rfl) pa_nil)))) pss_nil)
      (pss_one (ps_if (pt_cmpR op_ge (pe_callB call_len_seq (by rfl) T.b_len PySem.boot_len (pa_cons (pe_fld (pv 0) rfl) pa_nil)) (pe_globI T.c_MOST_HELD (by rfl)) (nomark _)) (pss_one (ps_raise rfl (takes_of rfl rfl rfl rfl) (pmk_own PySem.F.excBase_RuntimeError T.x_Full.xP T.x_Full.gP T.x_Full.kP T.x_Full.rs rfl))) pss_nil)))), ?_⟩
    with_reducible refine seq_k fun K_ hK_ => ?_
    walk_at "rt"
    refine ⟨x, n, rfl, hx, fun e => ?_, q1⟩
    obtain ⟨m, rfl, m0, m1⟩ : ∃ m, x = .int m ∧ 0 ≤ m ∧ m ≤ 1000000000 := by
      cases x with
      | int i => exact ⟨i, rfl, by simpa [isNumV] using e⟩
      | _ => simp [isNumV] at e
    obtain ⟨dx, r, N, Pn, rfl, hNP, hk, hR, hN, hP⟩ := hK.at_
    have kc := hK.kc
    obtain ⟨rus, ns, ps, last⟩ := v
    have hnl := hK.n100
    dsimp only at *
    have hlen : ns.length ≤ 100 := hnl
    walk_at "rt"
    subst hK_
    first | with_reducible refine seq_k fun K_ hK_ => ?_ | skip
    walk_at "rt"
    have rest : (∀ l, last = some l → l < m) → K_ [some (.ref k), some (.int m)] H := fun hl => by
      walk_at "rt"
      subst hK_
      first | with_reducible refine seq_k fun K_ hK_ => ?_ | skip
      walk_at "rt"
      refine ⟨_, dx, _, hk, kc.o.cl, kc.nn, _, kfs_nights, N, rfl, _, .inl (sqL hN), ?_⟩
      rw [List.length_map]
      exact ite2 (fun c1 => q3 m rfl m0 m1 hl (by omega)) (fun c1 => q4 m rfl m0 m1 hl (by omega))
    refine ⟨_, dx, _, hk, kc.o.cl, kc.nl, _, kfs_last, ?_⟩
    cases last with
    | none =>
      rw [if_neg (fun e => e rfl)]
      exact rest (fun l e => nomatch e)
    | some l =>
      rw [if_pos (fun e => nomatch e)]
      refine ⟨_, dx, _, hk, kc.o.cl, kc.nl, _, kfs_last, l, rfl, ?_⟩
      refine ite2 (fun c1 => ?_) (fun c1 => rest fun l' e => by cases e; omega)
      refine ⟨_, dx, _, hk, kc.o.cl, kc.nl, _, kfs_last, fun a ha => ⟨a, _, rfl, upd_same, fun d hd hda => ⟨rfl, d, upd_same, [("last", .int l)], ?_, ?_, ?_⟩⟩⟩
      · rw [upd_ne hda]; exact upd_same
      · rw [upd_ne hda] at hd; exact hd
      · refine q2 m l rfl m0 m1 rfl c1 d _ (fun b o hb => ?_) upd_same
        have h1 : b ≠ a := ne_of_none hb ha
        have h2 : b ≠ d := ne_of_none hb (by rw [upd_ne hda] at hd; exact hd)
        rw [upd_ne h2, del_ne h1, upd_ne h1, upd_ne h2, upd_ne h1]
        exact hb
abbrev nm_look_held : List Str := ["keep", "night"]
abbrev pm_look_held : List Str := ["keep", "night"]
abbrev lv_look_held : Nat := 2
theorem sc_look_held : FnScope nm_look_held pm_look_held (defScope s_look_held) := ⟨rfl, rfl, rfl, by decide +kernel, rfl, by decide +kernel, by decide +kernel⟩
def sp_look_held (K : PySem.W.Frag) (mg : Str → Option Value) : Sp := fun vs H Q E => ∃ (c : Str) (ex : List (Str × V)) (k : Addr) (S : List Addr) (v : KV) (x : V) (n : String), vs = [.ref k, x] ∧ KeepAt K mg c ex H k S v ∧ Thing K H x n ∧
  ((∀ m, x = .int m → m ∉ v.ns) → ∀ H', Same H H' → E (.ref (cls mg "NotHeld")) none H') ∧ (∀ m, x = .int m → m ∈ v.ns → ∀ H', Same H H' → Q .non H')
theorem f_look_held (T : Txt K mg) : Fk P w K mg base (L2.CX P w) lv_look_held "look_held" pm_look_held (sp_look_held K mg) := by
  obtain ⟨f, fd, F, g, b⟩ := T.d_look_held.ex
  refine ⟨f, fd, g, F.kp, b, F.okX sc_look_held (fun vs H Q E h => ?_) (fun cdv A outer s H vs Q E hr h => ?_)⟩
  · obtain ⟨c, ex, k, S, v, x, n, rfl, _⟩ := h; rfl
  · obtain ⟨c, ex, k, S, v, x, n, rfl, hK, hx, q1, q2⟩ := h
    refine ⟨_, (pss_one (ps_if (PW.pt (pw_or (pt_not (pt_val (pe_fn (f_is_number T) (hr.mono (by decide)) (by rfl) pass0 (pa_cons (pv 1) (pa_cons pe_int (pa_cons (pv 1) pa_nil)))))) (pw_or1 (pt_cmpR op_notIn_seq (pv 1) (pe_fld (pv 0) rfl) (by rfl))))) (pss_one (ps_raise rfl (takes_of rfl rfl rfl rfl) (pmk_own PySem.F.excBase_RuntimeError T.x_NotHeld.xP T.x_NotHeld.gP T.x_NotHeld.kP T.x_NotHeld.rs rfl))) pss_nil)), ?_⟩
    obtain ⟨dx, r, N, Pn, rfl, hNP, hk, hR, hN, hP⟩ := hK.at_
    have kc := hK.kc
    have hb := hK.bnd
    walk_at "rt"
    refine ⟨x, n, 0, x, rfl, hx, fun i e => ⟨i, e⟩, _, rfl, ?_⟩
    refine ite2 (fun c1 => q1 (fun m e hm => ?_) _ (Same.refl _)) (fun c1 => ?_)
    · subst e
      have := hb m hm
      simp [isNumV] at c1
      omega
    · obtain ⟨m, rfl⟩ : ∃ m, x = .int m := by
        cases x with
        | int i => exact ⟨i, rfl⟩
        | _ => simp [isNumV] at c1
      refine ⟨_, dx, _, hk, kc.o.cl, kc.nn, _, kfs_nights, N, _, rfl, .inl (sqL hN), rfl, flat_ints _, _, rfl, ?_⟩
      rw [if_pos rfl, inV_ints]
      refine ite2 (fun c2 => q1 (fun m' e hm => ?_) _ (Same.refl _)) (fun c2 => q2 m rfl ?_ _ (Same.refl _))
      · cases e
        simp [hm] at c2
      · simpa using c2
abbrev nm_gone_of : List Str := ["keep", "stay", "night"]
abbrev pm_gone_of : List Str := ["keep"]
abbrev lv_gone_of : Nat := 4
theorem sc_gone_of : FnScope nm_gone_of pm_gone_of (defScope s_gone_of) := ⟨rfl, rfl, rfl, by decide +kernel, rfl, by decide +kernel, by decide +kernel⟩
def goneK (v : KV) : List Int := v.ns.filter fun n => decide (n ∉ keptF v.rus v.ns ++ v.ps)
def leftK (v : KV) : List Int := v.ns.filter fun n => decide (n ∉ goneK v)
def sp_gone_of (K : PySem.W.Frag) (mg : Str → Option Value) : Sp := fun vs H Q _ => ∃ (c : Str) (ex : List (Str × V)) (k : Addr) (S : List Addr) (v : KV), vs = [.ref k] ∧ KeepAt K mg c ex H k S v ∧
  ∀ p H', Same H H' → H p = none → H' p = some (.lst ((goneK v).map V.int)) → Q (.ref p) H'
theorem f_gone_of (T : Txt K mg) : Fk P w K mg base CX0 lv_gone_of "gone_of" pm_gone_of (sp_gone_of K mg) := by
  obtain ⟨f, fd, F, g, b⟩ := T.d_gone_of.ex
  refine ⟨f, fd, g, F.kp, b, F.ok sc_gone_of (fun vs H Q E h => ?_) (fun cdv A outer s H vs Q E hr h => ?_)⟩
  · obtain ⟨c, ex, k, S, v, rfl, _⟩ := h; rfl
  · obtain ⟨c, ex, k, S, v, rfl, hK, q⟩ := h
    refine ⟨_, (pss_cons (ps_set (i := 1) sc_gone_of.nd rfl (.inr rfl) (pe_op op_cat (pe_fn (f_kept_of T) (hr.mono (by decide)) (by rfl) pass0 (pa_cons (pe_fld (pv 0) rfl) (pa_cons (pe_fld (pv 0) rfl) pa_nil))) (pe_fld (pv 0) rfl)))
      (pss_one (ps_ret (pe_lc (own := [("night", 2)]) (g := gName 2) (by rfl) sc_gone_of.nd (pi_list (pe_fld (pv 0) rfl)) (blkOk_by (own := [("night", 2)]) (N := nm_gone_of) (sc := defScope s_gone_of) (by decide +kernel)) (fun _ _ _ _ _ => (pg_name (i := 2) sc_gone_of.nd rfl (Or.inl rfl))) (fun _ _ _ _ _ => (pts_one (pt_cmpR (op_notInK K rfl) (pv 2) (pv 1) (by rfl)))) (fun _ _ _ _ _ => (pv 2)))))), ?_⟩
    obtain ⟨dx, r, N, Pn, rfl, hNP, hk, hR, hN, hP⟩ := hK.at_
    have kc := hK.kc
    have hn100 := hK.n100
    have hp100 := hK.plen
    with_reducible refine seq_k fun K_ hK_ => ?_
    walk_at "rt"
    refine ⟨_, dx, _, hk, kc.o.cl, kc.nr, _, kfs_rules, _, dx, _, hk, kc.o.cl, kc.nn, _, kfs_nights, ?_⟩
    refine ⟨r, N, v.rus, v.ns, rfl, hR, sqL hN, hK.rise, fun p H1 s1 hp hp1 => ?_⟩
    refine ⟨_, dx, _, s1 _ _ hk, kc.o.cl, kc.np, _, kfs_pinned, p, Pn, _, _, rfl, rfl, hp1, s1 _ _ hP, ?_, ?_⟩
    · rw [List.length_map, List.length_map]
      have := List.length_filter_le (fun n => v.rus.any fun ru => decide (n ∈ keptBy ru v.ns)) v.ns
      exact sz (by unfold keptF; omega)
    intro q1 n_q1
    generalize hG_ : upd _ q1 _ = H2
    obtain ⟨s2, hq1⟩ := newF n_q1 hG_
    clear hG_
    rw [← List.map_append] at hq1
    have s12 := s1.trans s2
    walk_at "rt"
    subst hK_
    first | with_reducible refine seq_k fun K_ hK_ => ?_ | skip
    walk_at "rt"
    refine ⟨_, dx, _, s12 _ _ hk, kc.o.cl, kc.nn, _, kfs_nights, N, rfl, ⟨_, sqL (s12 _ _ hN)⟩, fun D hD => ?_⟩
    refine lcF (fun n => decide (n ∉ keptF v.rus v.ns ++ v.ps)) hD (sqL (s12 _ _ hN)) (by omega) (fun _ => rfl) (fun _ => rfl) (fun m H3 _ s3 Q hQ => ?_) (fun H3 s3 hD3 => q D H3 (s12.trans s3) (s12.free hD) hD3)
    walk_at "rt"
    refine ⟨q1, _, rfl, .inl (sqL (s3 _ _ hq1)), rfl, flat_ints _, _, rfl, ?_⟩
    rw [if_pos rfl, inV_ints, ← decide_not]
    exact hQ H3 (Same.refl _)
end
end Nk
namespace Nk
open PySem L2
section
variable {P : Program} {w : World} {K : PySem.W.Frag} {mg : Str → Option Value} {base : Heap}
abbrev nm_Keep____len__ : List Str := ["self"]
abbrev pm_Keep____len__ : List Str := ["self"]
abbrev lv_Keep____len__ : Nat := 1
theorem sc_Keep____len__ : FnScope nm_Keep____len__ pm_Keep____len__ (defScope s_Keep____len__) := ⟨rfl, rfl, rfl, by decide +kernel, rfl, by decide +kernel, by decide +kernel⟩
def sp_Store____len__ (K : PySem.W.Frag) (mg : Str → Option Value) : Sp := fun vs H Q _ => ∃ (ex : List (Str × V)) (k : Addr) (S : List Addr) (v : KV), vs = [.ref k] ∧ KeepAt K mg "Store" ex H k S v ∧ Q (.int v.ns.length) H
theorem f_Store____len__ (T : Txt K mg) : Mo P w K mg base CX0 lv_Keep____len__ "Store" "__len__" pm_Keep____len__ (sp_Store____len__ K mg) := by
  obtain ⟨f, fd, F, g, b⟩ := T.m_Store____len__.ex
  refine ⟨f, fd, g, b, F.ok sc_Keep____len__ (fun vs H Q E h => ?_) (fun cdv A outer s H vs Q E hr h => ?_)⟩
  · obtain ⟨ex, k, S, v, rfl, _⟩ := h; rfl
  · obtain ⟨ex, k, S, v, rfl, hK, q⟩ := h
    refine ⟨_, (pss_one (ps_ret (pe_callB call_len_seq (by rfl) T.b_len PySem.boot_len (pa_cons (pe_fld (pv 0) rfl) pa_nil)))), ?_⟩
    obtain ⟨dx, r, N, Pn, rfl, hNP, hk, hR, hN, hP⟩ := hK.at_
    have kc := hK.kc
    walk_at "rt"
    refine ⟨_, dx, _, hk, kc.o.cl, kc.nn, _, kfs_nights, N, rfl, _, .inl (sqL hN), ?_⟩
    rw [List.length_map]
    exact q
abbrev nm_Keep__held : List Str := ["self"]
abbrev pm_Keep__held : List Str := ["self"]
abbrev lv_Keep__held : Nat := 1
theorem sc_Keep__held : FnScope nm_Keep__held pm_Keep__held (defScope s_Keep__held) := ⟨rfl, rfl, rfl, by decide +kernel, rfl, by decide +kernel, by decide +kernel⟩
def sp_Store__held (K : PySem.W.Frag) (mg : Str → Option Value) : Sp := fun vs H Q _ => ∃ (ex : List (Str × V)) (k : Addr) (S : List Addr) (v : KV), vs = [.ref k] ∧ KeepAt K mg "Store" ex H k S v ∧ ∀ p H', Same H H' → H p = none → H' p = some (.lst (v.ns.map V.int)) → Q (.ref p) H'
theorem f_Store__held (T : Txt K mg) : Mo P w K mg base CX0 lv_Keep__held "Store" "held" pm_Keep__held (sp_Store__held K mg) := by
  obtain ⟨f, fd, F, g, b⟩ := T.m_Store__held.ex
  refine ⟨f, fd, g, b, F.ok sc_Keep__held (fun vs H Q E h => ?_) (fun cdv A outer s H vs Q E hr h => ?_)⟩
  · obtain ⟨ex, k, S, v, rfl, _⟩ := h; rfl
  · obtain ⟨ex, k, S, v, rfl, hK, q⟩ := h
    refine ⟨_, (pss_one (ps_ret (pe_callTy call_list_of (by rfl) T.b_list (by decide +kernel) (pa_cons (pe_fld (pv 0) rfl) pa_nil)))), ?_⟩
    obtain ⟨dx, r, N, Pn, rfl, hNP, hk, hR, hN, hP⟩ := hK.at_
    have kc := hK.kc
    walk_at "rt"
    refine ⟨_, dx, _, hk, kc.o.cl, kc.nn, _, kfs_nights, N, rfl, _, .inl (sqL hN), fun l hl => q l _ (same_upd hl) hl upd_same⟩
abbrev nm_Keep__pins : List Str := ["self"]
abbrev pm_Keep__pins : List Str := ["self"]
abbrev lv_Keep__pins : Nat := 1
theorem sc_Keep__pins : FnScope nm_Keep__pins pm_Keep__pins (defScope s_Keep__pins) := ⟨rfl, rfl, rfl, by decide +kernel, rfl, by decide +kernel, by decide +kernel⟩
def sp_Store__pins (K : PySem.W.Frag) (mg : Str → Option Value) : Sp := fun vs H Q _ => ∃ (ex : List (Str × V)) (k : Addr) (S : List Addr) (v : KV), vs = [.ref k] ∧ KeepAt K mg "Store" ex H k S v ∧ ∀ p H', Same H H' → H p = none → H' p = some (.lst (v.ps.map V.int)) → Q (.ref p) H'
theorem f_Store__pins (T : Txt K mg) : Mo P w K mg base CX0 lv_Keep__pins "Store" "pins" pm_Keep__pins (sp_Store__pins K mg) := by
  obtain ⟨f, fd, F, g, b⟩ := T.m_Store__pins.ex
  refine ⟨f, fd, g, b, F.ok sc_Keep__pins (fun vs H Q E h => ?_) (fun cdv A outer s H vs Q E hr h => ?_)⟩
  · obtain ⟨ex, k, S, v, rfl, _⟩ := h; rfl
  · obtain ⟨ex, k, S, v, rfl, hK, q⟩ := h
    refine ⟨_, (pss_one (ps_ret (pe_callTy call_list_of (by rfl) T.b_list (by decide +kernel) (pa_cons (pe_fld (pv 0) rfl) pa_nil)))), ?_⟩
    obtain ⟨dx, r, N, Pn, rfl, hNP, hk, hR, hN, hP⟩ := hK.at_
    have kc := hK.kc
    walk_at "rt"
    refine ⟨_, dx, _, hk, kc.o.cl, kc.np, _, kfs_pinned, Pn, rfl, _, .inl (sqL hP), fun l hl => q l _ (same_upd hl) hl upd_same⟩
abbrev nm_Keep__pin : List Str := ["self", "night"]
abbrev pm_Keep__pin : List Str := ["self", "night"]
abbrev lv_Keep__pin : Nat := 3
theorem sc_Keep__pin : FnScope nm_Keep__pin pm_Keep__pin (defScope s_Keep__pin) := ⟨rfl, rfl, rfl, by decide +kernel, rfl, by decide +kernel, by decide +kernel⟩
def sp_Store__pin (K : PySem.W.Frag) (mg : Str → Option Value) : Sp := fun vs H Q E => ∃ (ex : List (Str × V)) (k : Addr) (S : List Addr) (v : KV) (x : V) (n : String), vs = [.ref k, x] ∧ KeepAt K mg "Store" ex H k S v ∧ Thing K H x n ∧
  ((∀ m, x = .int m → m ∉ v.ns) → ∀ H', Same H H' → E (.ref (cls mg "NotHeld")) none H') ∧
  (∀ m, x = .int m → m ∈ v.ns → m ∈ v.ps → ∀ H', Same H H' → E (.ref (cls mg "Pinned")) none H') ∧
  (∀ m, x = .int m → m ∈ v.ns → m ∉ v.ps → ∀ H' S' ps', ps'.Pairwise (· < ·) → (∀ z, z ∈ ps' ↔ z ∈ v.ps ∨ z = m) → Step S H H' → Own H S S' → KeepAt K mg "Store" ex H' k S' { v with ps := ps' } → Q .non H')
theorem f_Store__pin (T : Txt K mg) : Mo P w K mg base (L2.CX P w) lv_Keep__pin "Store" "pin" pm_Keep__pin (sp_Store__pin K mg) := by
  obtain ⟨f, fd, F, g, b⟩ := T.m_Store__pin.ex
  refine ⟨f, fd, g, b, F.okX sc_Keep__pin (fun vs H Q E h => ?_) (fun cdv A outer s H vs Q E hr h => ?_)⟩
  · obtain ⟨ex, k, S, v, x, n, rfl, _⟩ := h; rfl
  · obtain ⟨ex, k, S, v, x, n, rfl, hK, hx, q1, q2, q3⟩ := h
    refine ⟨_, (pss_cons (ps_expr (pe_fn (f_look_held T) (hr.mono (by decide)) (by rfl) (passX (takes_of rfl rfl rfl rfl)) (pa_cons (pv 0) (pa_cons (pv 1) pa_nil))))
      (pss_cons (ps_if (pt_cmpR op_in_seq (pv 1) (pe_fld (pv 0) rfl) (by rfl)) (pss_one (ps_raise rfl (takes_of rfl rfl rfl rfl) (pmk_own PySem.F.excBase_RuntimeError T.x_Pinned.xP T.x_Pinned.gP T.x_Pinned.kP T.x_Pinned.rs rfl))) pss_nil)
      (pss_one (ps_fld (pv 0) (pe_callB cr_sortedI (by rfl) T.b_sorted (by decide +kernel) (pa_cons (pe_op op_cat (pe_fld (pv 0) rfl) (pe_lst (pa_cons (pv 1) pa_nil))) pa_nil)) rfl)))), ?_⟩
    with_reducible refine seq_k fun K_ hK_ => ?_
    walk_at "rt"
    refine ⟨"Store", ex, k, S, v, x, n, rfl, hK, hx, q1, fun m e hm H1 s1 => ?_⟩
    subst e
    have hK1 := hK.same s1
    obtain ⟨dx, r, N, Pn, rfl, hNP, hk, hR, hN, hP⟩ := hK1.at_
    have kc := hK.kc
    have hp100 := hK.plen
    have hkN : N ≠ k := ne_of hN hk (by intro z; cases z)
    walk_at "rt"
    subst hK_
    first | with_reducible refine seq_k fun K_ hK_ => ?_ | skip
    walk_at "rt"
    refine ⟨_, dx, _, hk, kc.o.cl, kc.np, _, kfs_pinned, Pn, _, rfl, .inl (sqL hP), rfl, flat_ints _, _, rfl, ?_⟩
    rw [if_neg Bool.false_ne_true, inV_ints]
    refine ite2 (fun c1 => q2 m rfl hm (by simpa using c1) _ s1) (fun c1 => ?_)
    have hmp : m ∉ v.ps := by simpa using c1
    walk_at "rt"
    subst hK_
    first | with_reducible refine seq_k fun K_ hK_ => ?_ | skip
    walk_at "rt"
    refine ⟨_, dx, _, hk, kc.o.cl, kc.np, _, kfs_pinned, ?_⟩
    intro q1 n_q1
    generalize hG_ : upd _ q1 _ = H2
    obtain ⟨s2, hq1⟩ := newF n_q1 hG_
    clear hG_
    refine ⟨Pn, q1, _, _, rfl, rfl, s2 _ _ hP, hq1, sz (by simp; omega), ?_⟩
    intro q2' n_q2'
    generalize hG_ : upd _ q2' _ = H3
    obtain ⟨s3, hq2⟩ := newF n_q2' hG_
    clear hG_
    have hq2 : H3 q2' = some (.lst ((v.ps ++ [m]).map V.int)) := by rw [hq2, List.map_append]; rfl
    refine ⟨q2', _, rfl, sqL hq2, fun ns' z hperm hsort hz => ?_⟩
    generalize hG_ : upd H3 z _ = H4
    obtain ⟨s4, hz4⟩ := newF hz hG_
    clear hG_
    have s24 := s2.trans (s3.trans s4)
    have s14 := s1.trans s24
    have hk4 := s24 _ _ hk
    refine ⟨_, dx, _, hk4, kc.o.cl, kc.np, (by have := hK.exl; rw [kfs_len]; omega), ?_⟩
    have st4 : Step [k, N, Pn] H H4 := .of s14
    have T4 : Step [k] H4 H4 := .refl
    generalize hG_ : upd _ k _ = H5
    obtain ⟨T5, _, _⟩ := putH T4 (by simp) hk4 (fun _ z => nomatch z) hG_
    obtain ⟨st5, b5, hk5⟩ := putH st4 (by simp) hk4 (fun _ z => nomatch z) hG_
    clear hG_
    have nd : ns'.Nodup := by
      rw [hperm.nodup_iff, List.nodup_append]
      exact ⟨rise_nodup hK.prise, by simp, fun a ha b hb e => by rw [List.mem_singleton.mp hb] at e; rw [e] at ha; exact hmp ha⟩
    have hmem : ∀ y, y ∈ ns' ↔ y ∈ v.ps ∨ y = m := fun y => by rw [hperm.mem_iff]; simp
    have hr := rise_of_le hsort nd
    have hz2 := (s2.trans s3).free hz
    have hzN : N ≠ z := ne_of_none hN hz2
    have hzk : z ≠ k := (ne_of_none hk hz2).symm
    refine q3 m rfl hm hmp H5 [k, N, z] ns' hr hmem st5 (fun b hb => ?_) ⟨kc, hK.exl, ⟨dx, r, N, z, rfl, hzN, hk5, (hR.same s24).step (T5), b5 _ _ (s24 _ _ hN) hkN, b5 _ _ hz4 hzk⟩, hK.rise, hK.bnd, hK.lst, hK.lb, hK.n100, hr, fun y hy => ?_⟩
    · rcases List.mem_cons.mp hb with rfl | hb
      · exact .inl (by simp)
      · rcases List.mem_cons.mp hb with rfl | hb
        · exact .inl (by simp)
        · rw [List.mem_singleton.mp hb]
          exact .inr (s1.free hz2)
    · rcases (hmem y).mp hy with h | h
      · exact hK.psub y h
      · rw [h]; exact hm
abbrev nm_Keep____init__ : List Str := ["self", "rules"]
abbrev pm_Keep____init__ : List Str := ["self", "rules"]
abbrev lv_Keep____init__ : Nat := 5
theorem sc_Keep____init__ : FnScope nm_Keep____init__ pm_Keep____init__ (defScope s_Keep____init__) := ⟨rfl, rfl, rfl, by decide +kernel, rfl, by decide +kernel, by decide +kernel⟩
def sp_Keep____init__ (K : PySem.W.Frag) (mg : Str → Option Value) : Sp := fun vs H Q E => ∃ (k dx : Addr) (x : V), vs = [.ref k, x] ∧ H k = some (.ins (cls mg "Store") dx []) ∧ DT K H 3 x ∧
  (isRulesV H x = false → ∀ H', Same H H' → E (.ref (cls mg "BadRules")) none H') ∧
  (isRulesV H x = true → ∃ a rus, x = .ref a ∧ RulesAt H a rus ∧ ∀ H' N Pn, Step [k] H H' → H N = none → H Pn = none → KeepAt K mg "Store" [] H' k [k, N, Pn] ⟨rus, [], [], none⟩ → Q .non H')
theorem f_Keep____init__ (T : Txt K mg) : Mo P w K mg base (L2.CX P w) lv_Keep____init__ "Keep" "__init__" pm_Keep____init__ (sp_Keep____init__ K mg) := by
  obtain ⟨f, fd, F, g, b⟩ := T.m_Keep____init__.ex
  refine ⟨f, fd, g, b, F.okX sc_Keep____init__ (fun vs H Q E h => ?_) (fun cdv A outer s H vs Q E hr h => ?_)⟩
  · obtain ⟨k, dx, x, rfl, _⟩ := h; rfl
  · obtain ⟨k, dx, x, rfl, hk, hx, q1, q2⟩ := h
    refine ⟨_, (pss_cons (ps_expr (pe_fn (f_look_rules T) (hr.mono (by decide)) (by rfl) (passX (takes_of rfl rfl rfl rfl)) (pa_cons (pv 1) pa_nil)))
      (pss_cons (ps_fld (pv 0) (pv 1) rfl)
      (pss_cons (ps_fld (pv 0) (pe_lst pa_nil) rfl)
      (pss_cons (ps_fld (pv 0) (pe_lst pa_nil) rfl)
      (pss_one (ps_fld (pv 0) pe_non rfl)))))), ?_⟩
    with_reducible refine seq_k fun K_ hK_ => ?_
    walk_at "rt"
    refine ⟨x, rfl, hx, fun e H1 s1 => ?_, q1⟩
    obtain ⟨a, rus, rfl, hR, q⟩ := q2 e
    have hk1 := s1 _ _ hk
    have oc := T.o_Store
    walk_at "rt"
    subst hK_
    first | with_reducible refine seq_k fun K_ hK_ => ?_ | skip
    walk_at "rt"
    refine ⟨_, dx, _, hk1, oc.cl, T.n_Store__rules, by decide, ?_⟩
    have st1 : Step [k] H H1 := .of s1
    generalize hG_ : upd _ k _ = H2
    obtain ⟨st2, b2, hk2⟩ := putH st1 (by simp) hk1 (fun _ z => nomatch z) hG_
    clear hG_
    walk_at "rt"
    subst hK_
    first | with_reducible refine seq_k fun K_ hK_ => ?_ | skip
    walk_at "rt"
    intro N n_N
    generalize hG_ : upd _ N _ = H3
    obtain ⟨s3, hN3⟩ := newF n_N hG_
    clear hG_
    have hk3 := s3 _ _ hk2
    have hNk : N ≠ k := (ne_of_none hk2 n_N).symm
    have st3 := st2.same s3
    refine ⟨_, dx, _, hk3, oc.cl, T.n_Store__nights, (by show (1 : Nat) < 1000; decide), ?_⟩
    generalize hG_ : upd _ k _ = H4
    obtain ⟨st4, b4, hk4⟩ := putH st3 (by simp) hk3 (fun _ z => nomatch z) hG_
    clear hG_
    have hN4 := b4 _ _ hN3 hNk
    walk_at "rt"
    subst hK_
    first | with_reducible refine seq_k fun K_ hK_ => ?_ | skip
    walk_at "rt"
    intro Pn n_Pn
    generalize hG_ : upd _ Pn _ = H5
    obtain ⟨s5, hP5⟩ := newF n_Pn hG_
    clear hG_
    have hk5 := s5 _ _ hk4
    have hN5 := s5 _ _ hN4
    have hPk : Pn ≠ k := (ne_of_none hk4 n_Pn).symm
    have hNP : N ≠ Pn := ne_of_none hN4 n_Pn
    have st5 := st4.same s5
    refine ⟨_, dx, _, hk5, oc.cl, T.n_Store__pinned, (by show (2 : Nat) < 1000; decide), ?_⟩
    generalize hG_ : upd _ k _ = H6
    obtain ⟨st6, b6, hk6⟩ := putH st5 (by simp) hk5 (fun _ z => nomatch z) hG_
    clear hG_
    have hN6 := b6 _ _ hN5 hNk
    have hP6 := b6 _ _ hP5 hPk
    walk_at "rt"
    subst hK_
    first | with_reducible refine seq_k fun K_ hK_ => ?_ | skip
    walk_at "rt"
    refine ⟨_, dx, _, hk6, oc.cl, T.n_Store__last, (by show (3 : Nat) < 1000; decide), ?_⟩
    generalize hG_ : upd _ k _ = H7
    obtain ⟨st7, b7, hk7⟩ := putH st6 (by simp) hk6 (fun _ z => nomatch z) hG_
    clear hG_
    exact q H7 N Pn st7 (st2.free n_N (by simpa using hNk)) (st4.free n_Pn (by simpa using hPk))
      ⟨⟨oc, T.n_Store__rules, T.n_Store__nights, T.n_Store__pinned, T.n_Store__last⟩, by decide, ⟨dx, a, N, Pn, rfl, hNP, hk7, hR.step st7, b7 _ _ hN6 hNk, b7 _ _ hP6 hPk⟩, .nil, (fun _ h => nomatch h), (fun _ h => nomatch h), (fun _ h => nomatch h), Nat.zero_le _, .nil, (fun _ h => nomatch h)⟩
end
end Nk
namespace Nk
open PySem L2
section
variable {X : Cx}
/-- a list, whatever it holds, != [] -/
def rNeNil (K : PySem.W.Frag) : R2 := fun x y H Q => ∃ (a b : Addr) (xs : List V), x = .ref a ∧ y = .ref b ∧ SqL K H a xs ∧ SqL K H b [] ∧ Q (.bl (decide (0 < xs.length))) H
theorem op_neNil (K : PySem.W.Frag) (hK : X.K = K) (hu : X.A.units < cLine) : OpR X (compareOp .NotEq) (rNeNil K) := by
  subst hK
  intro pins s σ H x y v u Q I rx ry h
  obtain ⟨a, b, xs, rfl, rfl, ha, hb, q⟩ := h
  obtain rfl : v = Value.ref a := rx
  obtain rfl : u = Value.ref b := ry
  obtain ⟨its, r1, p1, _⟩ := I.list ha
  obtain ⟨its2, r2, p2, _⟩ := I.list hb
  cases r2
  have hl := r1.length
  show wpAny _ _ (richCompare .NotEq (.ref a) (.ref b)) _ _ _
  by_cases c : xs.length = 0
  · refine SeqAt.RcNeAt.lists (e := fun _ => true) p1.isList p2.isList ?_ hu ?_ _ _ _ _ ?_
    · rw [List.size_toArray, ← hl, c]; rfl
    · intro j h1 h2
      exact absurd h2 (by simp)
    · refine fin_bl I q ?_
      simp [c]
  · refine SeqAt.RcNeAt.lists_lengths p1.isList p2.isList ?_ hu _ _ _ _ ?_
    · simp; intro z; rw [z] at hl; exact c hl
    · refine fin_bl I q ?_
      simp; omega
end
end Nk
namespace Nk
open PySem L2
section
theorem pe_fn0 {X : Cx} {CX : CXT} {k : Nat} {ps : List Str} {sp : Sp} {x : Str} {p pos : Pos} {E : XK} (F : Fk X.prog X.w X.K X.mg X.base CX k x ps sp) (hr : Room k X.A) (hg : Gl X x) (hx : Passes CX X E) (hdb : (x == ("__debug__" : Str)) = false := by decide) :
    PE X (.Call (.Name x p) [] [] pos) (tCall sp [] E tNil) := by
  obtain ⟨f, fd, g, kp, b, G⟩ := F.ex
  exact pe_call0 G hr hg g kp b .nil hx hdb
variable {X : Cx} {CX : CXT} {k : Nat} {ps : List Str} {sp : Sp} {c : Str} {E : XK}
/-- len of an instance, or of a list -/
def rLenE (K : PySem.W.Frag) (C : Addr) (sp : Sp) (E : XK) : List V → Hp → VK → Prop := fun xs H Q => rLenO C sp E xs H Q ∨ rLenQ K xs H Q
theorem cr_lenE (O : Oc X.K X.mg c) (M : Mo X.prog X.w X.K X.mg X.base CX k c "__len__" ps sp) (hr : Room (k + 1) X.A) (hx : Passes CX X E) : CallR X (.builtin "len") (rLenE X.K (cls X.mg c) sp E) := by
  intro pins s σ H xs us Q I r h
  rcases h with h | h
  · exact cr_lenO O M hr hx pins s σ H xs us Q I r h
  · exact call_len_seq pins s σ H xs us Q I r h
end
end Nk
namespace Nk
open PySem L2
section
variable {P : Program} {w : World} {K : PySem.W.Frag} {mg : Str → Option Value} {base : Heap}
/-- a state at p, of what never changes -/
def StR (mg : Str → Option Value) (H : Hp) (R : List Addr) (p : Addr) (t : Tb) : Prop := (∃ dx d, p ∈ R ∧ d ∈ R ∧ H p = some (.ins (cls mg "State") dx [("table", .ref d)]) ∧ H d = some (.dK (kvsT t))) ∧ OkT t ∧ t.length ≤ 20
theorem StR.st {H : Hp} {R : List Addr} {p : Addr} {t : Tb} (h : StR mg H R p t) : StAt mg H p t := by
  obtain ⟨⟨dx, d, _, _, h1, h2⟩, h3, h4⟩ := h
  exact ⟨⟨dx, d, h1, h2⟩, h3, h4⟩
theorem StR.step {H H' : Hp} {R T : List Addr} {p : Addr} {t : Tb} (h : StR mg H R p t) (s : Step T H H') (n : ∀ b ∈ R, b ∉ T) : StR mg H' R p t := by
  obtain ⟨⟨dx, d, p1, d1, h1, h2⟩, h3, h4⟩ := h
  exact ⟨⟨dx, d, p1, d1, s.keep _ _ h1 (n _ p1), s.keep _ _ h2 (n _ d1)⟩, h3, h4⟩
theorem StR.mono {H : Hp} {R R' : List Addr} {p : Addr} {t : Tb} (h : StR mg H R p t) (n : ∀ b ∈ R, b ∈ R') : StR mg H R' p t := by
  obtain ⟨⟨dx, d, p1, d1, h1, h2⟩, h3, h4⟩ := h
  exact ⟨⟨dx, d, n _ p1, n _ d1, h1, h2⟩, h3, h4⟩
/-- a shelf: nights with states -/
def ShAt (mg : Str → Option Value) (H : Hp) (R : List Addr) : List (Key × V) → Rows → Prop
  | [], [] => True
  | kv :: kvs, r :: rs => (kv.1 = Sum.inl r.n ∧ ∃ p, kv.2 = .ref p ∧ StR mg H R p r.t) ∧ ShAt mg H R kvs rs
  | _, _ => False
theorem ShAt.map {H H' : Hp} {R R' : List Addr} (f : ∀ p t, StR mg H R p t → StR mg H' R' p t) : ∀ {kvs : List (Key × V)} {rs : Rows}, ShAt mg H R kvs rs → ShAt mg H' R' kvs rs
  | [], [], _ => trivial
  | kv :: kvs, r :: rs, ⟨⟨e, p, e2, h⟩, z⟩ => ⟨⟨e, p, e2, f _ _ h⟩, ShAt.map f z⟩
theorem ShAt.step {H H' : Hp} {R T : List Addr} {kvs : List (Key × V)} {rs : Rows} (h : ShAt mg H R kvs rs) (s : Step T H H') (n : ∀ b ∈ R, b ∉ T) : ShAt mg H' R kvs rs := h.map fun _ _ z => z.step s n
theorem ShAt.len {H : Hp} {R : List Addr} : ∀ {kvs : List (Key × V)} {rs : Rows}, ShAt mg H R kvs rs → kvs.length = rs.length
  | [], [], _ => rfl
  | kv :: kvs, r :: rs, ⟨_, z⟩ => by simp [ShAt.len z]
theorem ShAt.app {H : Hp} {R : List Addr} : ∀ {kvs ls : List (Key × V)} {rs qs : Rows}, ShAt mg H R kvs rs → ShAt mg H R ls qs → ShAt mg H R (kvs ++ ls) (rs ++ qs)
  | [], _, [], _, _, h => h
  | kv :: kvs, _, r :: rs, _, ⟨a, z⟩, h => ⟨a, ShAt.app z h⟩
theorem ShAt.keys {H : Hp} {R : List Addr} : ∀ {kvs : List (Key × V)} {rs : Rows}, ShAt mg H R kvs rs → kvs.map (·.1) = rs.map fun r => Sum.inl r.n
  | [], [], _ => rfl
  | kv :: kvs, r :: rs, ⟨⟨e, _⟩, z⟩ => by rw [List.map_cons, List.map_cons, e, ShAt.keys z]
theorem ShAt.val {H : Hp} {R : List Addr} : ∀ {kvs : List (Key × V)} {rs : Rows}, ShAt mg H R kvs rs → (rs.map Row.n).Nodup → ∀ r ∈ rs, ∃ p, valV kvs (Sum.inl r.n) = some (.ref p) ∧ StR mg H R p r.t
  | [], [], _, _, r, h => nomatch h
  | (k, v) :: kvs, r0 :: rs, ⟨⟨e, p, e2, h⟩, z⟩, nd, r, hr => by
    have e : k = Sum.inl r0.n := e
    have e2 : v = .ref p := e2
    subst e e2
    rw [List.map_cons, List.nodup_cons] at nd
    rcases List.mem_cons.mp hr with c | c
    · subst c
      exact ⟨p, valV_pos rfl, h⟩
    · have hne : ¬ (Sum.inl r0.n : Key) = Sum.inl r.n := fun z => nd.1 (by rw [Sum.inl.inj z]; exact List.mem_map.mpr ⟨r, c, rfl⟩)
      obtain ⟨p', h1, h2⟩ := ShAt.val z nd.2 r c
      exact ⟨p', by rw [valV_neg hne]; exact h1, h2⟩
theorem ShAt.valN {H : Hp} {R : List Addr} {n : Int} : ∀ {kvs : List (Key × V)} {rs : Rows}, ShAt mg H R kvs rs → n ∉ rs.map Row.n → valV kvs (Sum.inl n) = none
  | [], [], _, _ => rfl
  | (k, v) :: kvs, r0 :: rs, ⟨⟨e, _⟩, z⟩, h => by
    have e : k = Sum.inl r0.n := e
    subst e
    rw [List.map_cons, List.mem_cons, not_or] at h
    rw [valV_neg (fun z => h.1 (Sum.inl.inj z).symm)]
    exact ShAt.valN z h.2
theorem ShAt.drop {H : Hp} {R : List Addr} {n : Int} : ∀ {kvs : List (Key × V)} {rs : Rows}, ShAt mg H R kvs rs → ShAt mg H R (dropK kvs (Sum.inl n)) (rs.filter fun r => decide (r.n ≠ n))
  | [], [], _ => trivial
  | (k, v) :: kvs, r0 :: rs, ⟨⟨e, p, e2, h⟩, z⟩ => by
    have e : k = Sum.inl r0.n := e
    subst e
    by_cases c : r0.n = n
    · rw [dropK_pos (by rw [c]), List.filter_cons_of_neg (by simpa using c)]
      exact ShAt.drop z
    · rw [dropK_neg (fun z => c (Sum.inl.inj z)), List.filter_cons_of_pos (by simpa using c)]
      exact ⟨⟨rfl, p, e2, h⟩, ShAt.drop z⟩
/-- rows of which more are whole have the same shelf -/
theorem ShAt.up {H : Hp} {R : List Addr} : ∀ {kvs : List (Key × V)} {rs rs' : Rows}, ShAt mg H R kvs rs → rs'.map (fun r => (r.n, r.t)) = rs.map (fun r => (r.n, r.t)) → ShAt mg H R kvs rs'
  | [], [], [], _, _ => trivial
  | [], [], _ :: _, _, e => nomatch e
  | kv :: kvs, r :: rs, [], _, e => nomatch e
  | kv :: kvs, r :: rs, r' :: rs', ⟨⟨e, p, e2, h⟩, z⟩, eq => by
    rw [List.map_cons, List.map_cons, List.cons.injEq, Prod.mk.injEq] at eq
    exact ⟨⟨by rw [eq.1.1]; exact e, p, e2, by rw [eq.1.2]; exact h⟩, ShAt.up z eq.2⟩
/-- which are whole -/
def whK (rs : Rows) : List (Key × V) := rs.map fun r => (Sum.inl r.n, .bl r.w)
theorem whK_len {rs : Rows} : (whK rs).length = rs.length := List.length_map _
theorem whK_val : ∀ {rs : Rows}, (rs.map Row.n).Nodup → ∀ r ∈ rs, valV (whK rs) (Sum.inl r.n) = some (.bl r.w)
  | r0 :: rs, nd, r, hr => by
    rw [List.map_cons, List.nodup_cons] at nd
    rcases List.mem_cons.mp hr with c | c
    · subst c; exact valV_pos rfl
    · have hne : ¬ (Sum.inl r0.n : Key) = Sum.inl r.n := fun z => nd.1 (by rw [Sum.inl.inj z]; exact List.mem_map.mpr ⟨r, c, rfl⟩)
      exact (valV_neg hne).trans (whK_val nd.2 r c)
theorem whK_valN {n : Int} : ∀ {rs : Rows}, n ∉ rs.map Row.n → valV (whK rs) (Sum.inl n) = none
  | [], _ => rfl
  | r0 :: rs, h => by
    rw [List.map_cons, List.mem_cons, not_or] at h
    exact (valV_neg (fun z => h.1 (Sum.inl.inj z).symm)).trans (whK_valN h.2)
theorem whK_drop {n : Int} (rs : Rows) : dropK (whK rs) (Sum.inl n) = whK (rs.filter fun r => decide (r.n ≠ n)) := by
  unfold dropK whK
  rw [List.filter_map]
  congr 1
  apply List.filter_congr
  intro r _
  by_cases c : r.n = n
  · simp [c]
  · have : (Sum.inl r.n : Key) ≠ Sum.inl n := fun z => c (Sum.inl.inj z)
    simp [c, this]
theorem whK_app {rs qs : Rows} : whK (rs ++ qs) = whK rs ++ whK qs := List.map_append
theorem whK_put : ∀ {rs : Rows} {i : Nat} {r : Row} {b : Bool}, (rs.map Row.n).Nodup → rs[i]? = some r → putK (whK rs) (Sum.inl r.n) (.bl b) = whK (setW rs i b) := by
  intro rs i r b nd h
  have hm : r ∈ rs := List.mem_of_getElem? h
  unfold putK
  rw [if_pos (by rw [valV_any, whK_val nd r hm]; rfl)]
  unfold setW
  rw [h]
  unfold whK
  apply List.ext_getElem?
  intro j
  rw [List.map_map, List.getElem?_map, List.getElem?_map]
  by_cases c : j = i
  · subst c
    rw [h, List.getElem?_set_self (List.getElem?_eq_some_iff.mp h).1]
    simp
  · rw [List.getElem?_set_ne (Ne.symm c)]
    cases e : rs[j]? with
    | none => rfl
    | some q =>
      have hne : q.n ≠ r.n := fun z => by
        have h1 : (rs.map Row.n)[j]? = some q.n := by rw [List.getElem?_map, e]; rfl
        have h2 : (rs.map Row.n)[i]? = some q.n := by rw [List.getElem?_map, h, z]; rfl
        exact c ((List.getElem?_inj (List.getElem?_eq_some_iff.mp h1).1 nd).mp (h1.trans h2.symm))
      have : ¬ (Sum.inl q.n : Key) = Sum.inl r.n := fun z => hne (Sum.inl.inj z)
      simp [this]
/-- what a store holds -/
structure SV where
  rus : List (List Int × Int)
  rows : Rows
  ps : List Int
  last : Option Int
  deep : Nat
def SV.kv (v : SV) : KV := ⟨v.rus, v.rows.map Row.n, v.ps, v.last⟩
def sfs (d : Nat) (W F : Addr) : List (Str × V) := [("longest", .int d), ("wholes", .ref W), ("shelf", .ref F)]
/-- a store's own fields -/
structure SC (K : PySem.W.Frag) (mg : Str → Option Value) : Prop where
  nl : NoAttr K (cls mg "Store") "longest"
  nw : NoAttr K (cls mg "Store") "wholes"
  ns : NoAttr K (cls mg "Store") "shelf"
theorem sf_longest {r N Pn : Addr} {l : V} {d : Nat} {W F : Addr} : (kfs r N Pn l (sfs d W F)).lookup ("longest" : Str) = some (.int d) := by rfl
theorem sf_wholes {r N Pn : Addr} {l : V} {d : Nat} {W F : Addr} : (kfs r N Pn l (sfs d W F)).lookup ("wholes" : Str) = some (.ref W) := by rfl
theorem sf_shelf {r N Pn : Addr} {l : V} {d : Nat} {W F : Addr} : (kfs r N Pn l (sfs d W F)).lookup ("shelf" : Str) = some (.ref F) := by rfl
/-- a store stands at k; S: what may change, R: what never does -/
structure StoreAt (K : PySem.W.Frag) (mg : Str → Option Value) (H : Hp) (k : Addr) (S R : List Addr) (v : SV) : Prop where
  sc : SC K mg
  at_ : ∃ (W F : Addr) (S0 : List Addr) (kvs : List (Key × V)), S = W :: F :: S0 ∧ KeepAt K mg "Store" (sfs v.deep W F) H k S0 v.kv ∧ W ≠ F ∧ H W = some (.dK (whK v.rows)) ∧ H F = some (.dK kvs) ∧ ShAt mg H R kvs v.rows
  val : Val v.deep v.rows
  d1 : 1 ≤ v.deep
  d10 : v.deep ≤ 10
  ap : ∀ b ∈ S, b ∉ R
  al : ∀ b ∈ R, ∃ o, H b = some o
variable {H H' : Hp} {k : Addr} {S R T : List Addr} {v : SV}
theorem StoreAt.step (h : StoreAt K mg H k S R v) (s : Step T H H') (n : ∀ b ∈ S, b ∉ T) (n2 : ∀ b ∈ R, b ∉ T) : StoreAt K mg H' k S R v := by
  obtain ⟨W, F, S0, kvs, rfl, hK, hWF, hW, hF, hSh⟩ := h.at_
  exact ⟨h.sc, ⟨W, F, S0, kvs, rfl, hK.step s (fun b hb => n b (by simp [hb])), hWF, s.keep _ _ hW (n _ (by simp)), s.keep _ _ hF (n _ (by simp)), hSh.step s n2⟩, h.val, h.d1, h.d10, h.ap, fun b hb => let ⟨o, ho⟩ := h.al b hb; ⟨o, s.keep _ _ ho (n2 b hb)⟩⟩
theorem StoreAt.same (h : StoreAt K mg H k S R v) (s : Same H H') : StoreAt K mg H' k S R v := h.step (T := []) (.of s) (fun _ _ => by simp) (fun _ _ => by simp)
theorem StoreAt.more (h : StoreAt K mg H k S R v) {R' : List Addr} (n : ∀ b ∈ R, b ∈ R') (n2 : ∀ b ∈ S, b ∉ R') (n3 : ∀ b ∈ R', ∃ o, H b = some o) : StoreAt K mg H k S R' v := by
  obtain ⟨W, F, S0, kvs, rfl, hK, hWF, hW, hF, hSh⟩ := h.at_
  exact ⟨h.sc, ⟨W, F, S0, kvs, rfl, hK, hWF, hW, hF, hSh.map fun _ _ z => z.mono n⟩, h.val, h.d1, h.d10, n2, n3⟩
theorem StoreAt.nd (h : StoreAt K mg H k S R v) : (v.rows.map Row.n).Nodup := by
  obtain ⟨W, F, S0, kvs, rfl, hK, _⟩ := h.at_
  exact rise_nodup hK.rise
/-- the row of a held night -/
theorem StoreAt.row (h : StoreAt K mg H k S R v) {m : Int} (hm : m ∈ v.kv.ns) : ∃ (i : Nat) (r : Row), v.rows[i]? = some r ∧ r.n = m := by
  obtain ⟨r, hr, e⟩ := List.mem_map.mp hm
  obtain ⟨i, hi⟩ := List.getElem?_of_mem hr
  exact ⟨i, r, hi, e⟩
/-- the place of a night in a list of nights -/
theorem idx_row {rs : Rows} (nd : (rs.map Row.n).Nodup) {i : Nat} {r : Row} (h : rs[i]? = some r) {H : Hp} {N : Addr} {Q : VK} (hN : H N = some (.lst ((rs.map Row.n).map V.int))) (q : Q (.int i) H) : tyV K "list" (.ref N) H ∧ rIndex K (.ref N) [.int r.n] H Q := by
  refine ⟨tyL hN, N, _, .int r.n, i, .int r.n, rfl, rfl, sqL hN, rfl, flat_ints _, by rw [List.getElem?_map, List.getElem?_map, h]; rfl, by simp [eqV], fun j z hj hz => ?_, q⟩
  rw [List.getElem?_map, List.getElem?_map] at hz
  cases e : rs[j]? with
  | none => rw [e] at hz; cases hz
  | some p =>
    rw [e] at hz
    cases hz
    have hne : p.n ≠ r.n := fun z => by
      have h1 : (rs.map Row.n)[j]? = some r.n := by rw [List.getElem?_map, e, ← z]; rfl
      have h2 : (rs.map Row.n)[i]? = some r.n := by rw [List.getElem?_map, h]; rfl
      have := (List.getElem?_inj (List.getElem?_eq_some_iff.mp h1).1 nd).mp (h1.trans h2.symm)
      omega
    simpa [eqV] using hne
end
end Nk
namespace Nk
open PySem L2
section
variable {P : Program} {w : World} {K : PySem.W.Frag} {mg : Str → Option Value} {base : Heap}
theorem row_nn {rs : Rows} {i : Nat} {r : Row} (h : rs[i]? = some r) : ((rs.map Row.n).map V.int)[i]? = some (.int r.n) := by rw [List.getElem?_map, List.getElem?_map, h]; rfl
theorem row_ww {rs : Rows} {i : Nat} {r : Row} (h : rs[i]? = some r) : (rs.map Row.w)[i]? = some r.w := by rw [List.getElem?_map, h]; rfl
theorem row_lt {rs : Rows} {i : Nat} (h : i < rs.length) : ∃ r, rs[i]? = some r := ⟨rs[i], List.getElem?_eq_getElem h⟩
/-- d[night] of a dict -/
theorem dget_i {H : Hp} {a : Addr} {kvs : List (Key × V)} {n : Int} {v : V} (h : H a = some (.dK kvs)) (e : valV kvs (Sum.inl n) = some v) : DGet H a (.int n) (some v) := by
  have := DGet.k (k := Sum.inl n) h
  rw [e] at this
  exact this
theorem Val.part {deep : Nat} {rs : Rows} (h : Val deep rs) {i : Nat} {r : Row} (hr : rs[i]? = some r) (hw : r.w = false) : 1 ≤ i ∧ ∃ p, rs[i - 1]? = some p := by
  have hi := lt_of_get hr
  have : i ≠ 0 := fun e => by
    subst e
    have := h.head_t hi
    rw [row_ww hr, hw] at this
    cases this
  exact ⟨by omega, row_lt (by omega)⟩
theorem cut_mid (xs : List V) (f i : Nat) (h : f ≤ i) : cutV xs (some (f : Int)) (some ((i : Int) + 1)) = (xs.take (i + 1)).drop f := by
  unfold cutV
  rw [show ((i : Int) + 1) = ((i + 1 : Nat) : Int) by omega, HT.sIx_nat, HT.sIx_nat, List.drop_take]
  by_cases c : f ≤ xs.length
  · rw [Nat.min_eq_left c]
    by_cases c2 : i + 1 ≤ xs.length
    · rw [Nat.min_eq_left c2]
    · rw [Nat.min_eq_right (by omega), List.take_of_length_le (by simp), List.take_of_length_le (by simp; omega)]
  · rw [Nat.min_eq_right (a := f) (by omega), List.drop_of_length_le (Nat.le_refl _), List.drop_of_length_le (by omega)]
    simp
abbrev nm_copy_of : List Str := ["store", "night", "at"]
abbrev pm_copy_of : List Str := ["store", "night"]
abbrev lv_copy_of : Nat := 4
theorem sc_copy_of : FnScope nm_copy_of pm_copy_of (defScope s_copy_of) := ⟨rfl, rfl, rfl, by decide +kernel, rfl, by decide +kernel, by decide +kernel⟩
def sp_copy_of (K : PySem.W.Frag) (mg : Str → Option Value) : Sp := fun vs H Q _ => ∃ (k : Addr) (S R : List Addr) (v : SV) (i : Nat) (r : Row), vs = [.ref k, .int r.n] ∧ StoreAt K mg H k S R v ∧ v.rows[i]? = some r ∧
  (r.w = true → ∀ p, StAt mg H p r.t → Q (.ref p) H) ∧ (r.w = false → ∀ p l H', v.rows[i - 1]? = some p → Same H H' → H l = none → PartAt H' l (part p.t r.t) → Q (.ref l) H')
theorem f_copy_of (T : Txt K mg) : Fk P w K mg base CX0 lv_copy_of "copy_of" pm_copy_of (sp_copy_of K mg) := by
  obtain ⟨f, fd, F, g, b⟩ := T.d_copy_of.ex
  refine ⟨f, fd, g, F.kp, b, F.ok sc_copy_of (fun vs H Q E h => ?_) (fun cdv A outer s H vs Q E hr h => ?_)⟩
  · obtain ⟨k, S, R, v, i, r, rfl, _⟩ := h; rfl
  · obtain ⟨k, S, R, v, i, r, rfl, hSt, hri, q1, q2⟩ := h
    have hu := hu_of hr
    refine ⟨_, (pss_cons (ps_set (i := 2) sc_copy_of.nd rfl (.inl rfl) (pe_bm PySem.F.plainAttrs_list PySem.F.slot_list_index PySem.F.type_list_index mt_index (pe_fld (pv 0) rfl) (pa_cons (pv 1) pa_nil)))
      (pss_cons (ps_if (pt_val (pe_dget hu (pe_fld (pv 0) rfl) (pv 1) (fun _ _ => rfl))) (pss_one (ps_ret (pe_dget hu (pe_fld (pv 0) rfl) (pv 1) (fun _ _ => rfl)))) pss_nil)
      (pss_one (ps_ret (pe_fn (f_part_of T) (hr.mono (by decide)) (by rfl) pass0 (pa_cons (pe_dget hu (pe_fld (pv 0) rfl) (pe_ix ix_list (pe_fld (pv 0) rfl) (pe_op op_sub (pv 2) pe_int) (fun _ _ => rfl)) (fun _ _ => rfl)) (pa_cons (pe_dget hu (pe_fld (pv 0) rfl) (pv 1) (fun _ _ => rfl)) pa_nil))))))), ?_⟩
    obtain ⟨W, F, S0, kvs, rfl, hK, hWF, hW, hF, hSh⟩ := hSt.at_
    obtain ⟨dx, ra, N, Pn, rfl, hNP, hk, hR, hN, hP⟩ := hK.at_
    have kc := hK.kc
    have nd := hSt.nd
    have hrm := mem_of_get hri
    with_reducible refine seq_k fun K_ hK_ => ?_
    walk_at "ru"
    refine ⟨_, dx, _, hk, kc.o.cl, kc.nn, _, kfs_nights, idx_row nd hri hN ?_⟩
    walk_at "ru"
    subst hK_
    first | with_reducible refine seq_k fun K_ hK_ => ?_ | skip
    walk_at "ru"
    refine ⟨_, dx, _, hk, kc.o.cl, hSt.sc.nw, _, sf_wholes, W, rfl, _, dget_i hW (whK_val nd r hrm), _, rfl, ?_⟩
    obtain ⟨p, hv, hp⟩ := hSh.val nd r hrm
    refine ite2 (fun c => ?_) (fun c => ?_)
    · exact ⟨_, dx, _, hk, kc.o.cl, hSt.sc.ns, _, sf_shelf, F, rfl, _, dget_i hF hv, q1 c p hp.st⟩
    · have c : r.w = false := by simpa using c
      obtain ⟨h1, r', hr'⟩ := hSt.val.part hri c
      obtain ⟨p', hv', hp'⟩ := hSh.val nd r' (mem_of_get hr')
      walk_at "ru"
      subst hK_
      first | with_reducible refine seq_k fun K_ hK_ => ?_ | skip
      walk_at "ru"
      refine ⟨_, dx, _, hk, kc.o.cl, hSt.sc.ns, _, sf_shelf, _, dx, _, hk, kc.o.cl, kc.nn, _, kfs_nights, ?_⟩
      refine ixL (j := i - 1) (sqL hN) (by omega) (row_nn hr') ?_
      refine ⟨F, rfl, _, dget_i hF hv', _, dx, _, hk, kc.o.cl, hSt.sc.ns, _, sf_shelf, F, rfl, _, dget_i hF hv, p', p, r'.t, r.t, rfl, hp'.st, hp.st, fun l H' s' nl hl => ?_⟩
      exact q2 c r' l H' hr' s' nl hl
abbrev nm_chain_of : List Str := ["store", "night", "at", "first"]
abbrev pm_chain_of : List Str := ["store", "night"]
abbrev lv_chain_of : Nat := 1
theorem sc_chain_of : FnScope nm_chain_of pm_chain_of (defScope s_chain_of) := ⟨rfl, rfl, rfl, by decide +kernel, rfl, by decide +kernel, by decide +kernel⟩
def sp_chain_of (K : PySem.W.Frag) (mg : Str → Option Value) : Sp := fun vs H Q _ => ∃ (k : Addr) (S R : List Addr) (v : SV) (i : Nat) (r : Row), vs = [.ref k, .int r.n] ∧ StoreAt K mg H k S R v ∧ v.rows[i]? = some r ∧
  ∀ l H', Same H H' → H l = none → H' l = some (.lst ((chn v.rows i).map V.int)) → Q (.ref l) H'
def iv_chain_of (k : Addr) (m : Int) (ws : List Bool) (i : Nat) (H0 : Hp) (n : Nat) (σ : L2.St) (H : Hp) : Prop := σ = [some (.ref k), some (.int m), some (.int (i : Nat)), some (.int (n : Nat))] ∧ H = H0 ∧ fstW ws i ≤ n ∧ n ≤ i
theorem f_chain_of (T : Txt K mg) : Fk P w K mg base CX0 lv_chain_of "chain_of" pm_chain_of (sp_chain_of K mg) := by
  obtain ⟨f, fd, F, g, b⟩ := T.d_chain_of.ex
  refine ⟨f, fd, g, F.kp, b, F.ok sc_chain_of (fun vs H Q E h => ?_) (fun cdv A outer s H vs Q E hr h => ?_)⟩
  · obtain ⟨k, S, R, v, i, r, rfl, _⟩ := h; rfl
  · obtain ⟨k, S, R, v, i, r, rfl, hSt, hri, q⟩ := h
    have hu := hu_of hr
    refine ⟨_, (pss_cons (ps_set (i := 2) sc_chain_of.nd rfl (.inl rfl) (pe_bm PySem.F.plainAttrs_list PySem.F.slot_list_index PySem.F.type_list_index mt_index (pe_fld (pv 0) rfl) (pa_cons (pv 1) pa_nil)))
      (pss_cons (ps_set (i := 3) sc_chain_of.nd rfl (.inl rfl) (pv 2))
      (pss_cons (ps_while PassesOwn.never (pt_not (pt_val (pe_dget hu (pe_fld (pv 0) rfl) (pe_ix ix_list (pe_fld (pv 0) rfl) (pv 3) (fun _ _ => rfl)) (fun _ _ => rfl)))) (pss_one (ps_set (i := 3) sc_chain_of.nd rfl (.inl rfl) (pe_op op_sub (pv 3) pe_int))))
      (pss_one (ps_ret (pe_slice sl_list (pe_fld (pv 0) rfl) (po_some (pv 3)) (po_some (pe_op op_add (pv 2) pe_int)))))))), ?_⟩
    obtain ⟨W, F, S0, kvs, rfl, hK, hWF, hW, hF, hSh⟩ := hSt.at_
    obtain ⟨dx, ra, N, Pn, rfl, hNP, hk, hR, hN, hP⟩ := hK.at_
    have kc := hK.kc
    have nd := hSt.nd
    have hrm := mem_of_get hri
    have hi := lt_of_get hri
    have h0 := hSt.val.head_t (by omega)
    with_reducible refine seq_k fun K_ hK_ => ?_
    walk_at "ru"
    refine ⟨_, dx, _, hk, kc.o.cl, kc.nn, _, kfs_nights, idx_row nd hri hN ?_⟩
    walk_at "ru"
    subst hK_
    first | with_reducible refine seq_k fun K_ hK_ => ?_ | skip
    walk_at "ru"
    walk_at "ru"
    subst hK_
    first | with_reducible refine seq_k fun K_ hK_ => ?_ | skip
    walk_at "ru"
    refine ⟨iv_chain_of k r.n (v.rows.map Row.w) i H, ⟨i, rfl, rfl, fstW_le _ _, Nat.le_refl _⟩, ?_⟩
    intro n σ H' iv
    obtain ⟨rfl, rfl, hj1, hj2⟩ := id iv
    obtain ⟨rn, hrn⟩ := row_lt (rs := v.rows) (i := n) (by omega)
    walk_at "ru"
    refine ⟨_, dx, _, hk, kc.o.cl, hSt.sc.nw, _, sf_wholes, _, dx, _, hk, kc.o.cl, kc.nn, _, kfs_nights, ?_⟩
    refine ixL (j := n) (sqL hN) rfl (row_nn hrn) ?_
    refine ⟨W, rfl, _, dget_i hW (whK_val nd rn (mem_of_get hrn)), _, rfl, ?_⟩
    have hfw := fstW_true h0 (i := i) (by rw [List.length_map]; exact hi)
    refine ite2 (fun c => ?_) (fun c => ?_)
    · have hne : fstW (v.rows.map Row.w) i ≠ n := fun e => by
        rw [e, row_ww hrn, c] at hfw
        cases hfw
      refine ⟨fun σ' H'' => σ' = [some (.ref k), some (.int r.n), some (.int (i : Nat)), some (.int ((n : Int) - 1))] ∧ H'' = H', fun σ' H'' h => ?_, rfl, rfl⟩
      obtain ⟨rfl, rfl⟩ := h
      exact ⟨n - 1, by omega, by rw [show ((n - 1 : Nat) : Int) = (n : Int) - 1 by omega], rfl, by omega, by omega⟩
    · have e : fstW (v.rows.map Row.w) i = n := by
        by_cases e : fstW (v.rows.map Row.w) i = n
        · exact e
        · have := fstW_false (ws := v.rows.map Row.w) (i := i) (j := n) (by rw [List.length_map]; exact hi) (by omega) hj2
          rw [row_ww hrn] at this
          exact absurd (Option.some.inj this) c
      walk_at "ru"
      subst hK_
      first | with_reducible refine seq_k fun K_ hK_ => ?_ | skip
      walk_at "ru"
      refine ⟨_, dx, _, hk, kc.o.cl, kc.nn, _, kfs_nights, N, _, rfl, sqL hN, ?_⟩
      intro l n_l
      generalize hG_ : upd _ l _ = H1
      obtain ⟨s1, hl⟩ := newF n_l hG_
      clear hG_
      refine q l H1 s1 n_l ?_
      rw [hl, cut_mid _ n i hj2]
      congr 2
      unfold chn
      rw [chnP_fst hSt.val.head hi, e, List.map_drop, List.map_take, List.map_drop, List.map_take]
      rfl
end
end Nk
namespace Nk
open PySem L2
section
variable {P : Program} {w : World} {K : PySem.W.Frag} {mg : Str → Option Value} {base : Heap}
def outR (gone : List Int) (rs : Rows) : Rows := rs.filter fun r => decide (r.n ∉ gone)
theorem outR_next {gone : List Int} {i : Nat} {m : Int} (h : gone[i]? = some m) (rs : Rows) : (outR (gone.take i) rs).filter (fun r => decide (r.n ≠ m)) = outR (gone.take (i + 1)) rs := by
  unfold outR
  rw [List.filter_filter, take_next h]
  apply List.filter_congr
  intro r _
  by_cases c : r.n = m <;> simp [c]
theorem outR_ns {gone : List Int} {rs : Rows} : (outR gone rs).map Row.n = (rs.map Row.n).filter fun n => decide (n ∉ gone) := by
  unfold outR; rw [List.filter_map]; rfl
theorem outR_nil {rs : Rows} : outR [] rs = rs := by unfold outR; simp
abbrev nm_without : List Str := ["store", "gone", "night"]
abbrev pm_without : List Str := ["store", "gone"]
abbrev lv_without : Nat := 1
theorem sc_without : FnScope nm_without pm_without (defScope s_without) := ⟨rfl, rfl, rfl, by decide +kernel, rfl, by decide +kernel, by decide +kernel⟩
def sp_without (K : PySem.W.Frag) (mg : Str → Option Value) : Sp := fun vs H Q _ => ∃ (k : Addr) (S R : List Addr) (v : SV) (g : Addr) (gone : List Int), vs = [.ref k, .ref g] ∧ StoreAt K mg H k S R v ∧ H g = some (.lst (gone.map V.int)) ∧ g ∉ S ∧
  (∀ x ∈ gone, x ∈ v.rows.map Row.n) ∧ gone.Nodup ∧ Val v.deep (outR gone v.rows) ∧
  ∀ H' S', Step S H H' → Own H S S' → StoreAt K mg H' k S' R { v with rows := outR gone v.rows, ps := v.ps.filter fun n => decide (n ∉ gone) } → Q .non H'
def iv_without (mg : Str → Option Value) (k g W F : Addr) (R : List Addr) (rs : Rows) (gone : List Int) (H0 : Hp) (i : Nat) (σ : L2.St) (H : Hp) : Prop :=
  (∃ y, σ = [some (.ref k), some (.ref g), y]) ∧ Step [W, F] H0 H ∧ (∀ p, H p = none → H0 p = none) ∧ H W = some (.dK (whK (outR (gone.take i) rs))) ∧ ∃ kvs, H F = some (.dK kvs) ∧ ShAt mg H R kvs (outR (gone.take i) rs)
theorem f_without (T : Txt K mg) : Fk P w K mg base CX0 lv_without "without" pm_without (sp_without K mg) := by
  obtain ⟨f, fd, F, g, b⟩ := T.d_without.ex
  refine ⟨f, fd, g, F.kp, b, F.ok sc_without (fun vs H Q E h => ?_) (fun cdv A outer s H vs Q E hr h => ?_)⟩
  · obtain ⟨k, S, R, v, g, gone, rfl, _⟩ := h; rfl
  · obtain ⟨k, S, R, v, g, gone, rfl, hSt, hg, hgS, hsub, hnd, hval, q⟩ := h
    have hu := hu_of hr
    refine ⟨_, (pss_cons (ps_for PassesOwn.never rfl (pi_list (pv 1)) (pg_name (i := 2) sc_without.nd rfl (Or.inl rfl)) (pss_cons (ps_expr (pe_dpop1 (pe_fld (pv 0) rfl) (pv 2) ⟨rfl, rfl, rfl, rfl⟩))
      (pss_one (ps_expr (pe_dpop1 (pe_fld (pv 0) rfl) (pv 2) ⟨rfl, rfl, rfl, rfl⟩)))))
      (pss_cons (ps_fld (pv 0) (pe_lc (own := [("night", 2)]) (g := gName 2) (by rfl) sc_without.nd (pi_list (pe_fld (pv 0) rfl)) (blkOk_by (own := [("night", 2)]) (N := nm_without) (sc := defScope s_without) (by decide +kernel)) (fun _ _ _ _ _ => (pg_name (i := 2) sc_without.nd rfl (Or.inl rfl))) (fun _ _ _ _ _ => (pts_one (pt_cmpR (op_notInK K rfl) (pv 2) (pv 1) (by rfl)))) (fun _ _ _ _ _ => (pv 2))) rfl)
      (pss_one (ps_fld (pv 0) (pe_lc (own := [("night", 2)]) (g := gName 2) (by rfl) sc_without.nd (pi_list (pe_fld (pv 0) rfl)) (blkOk_by (own := [("night", 2)]) (N := nm_without) (sc := defScope s_without) (by decide +kernel)) (fun _ _ _ _ _ => (pg_name (i := 2) sc_without.nd rfl (Or.inl rfl))) (fun _ _ _ _ _ => (pts_one (pt_cmpR (op_notInK K rfl) (pv 2) (pv 1) (by rfl)))) (fun _ _ _ _ _ => (pv 2))) rfl)))), ?_⟩
    obtain ⟨W, F, S0, kvs, rfl, hK, hWF, hW, hF, hSh⟩ := hSt.at_
    obtain ⟨dx, ra, N, Pn, rfl, hNP, hk, hR, hN, hP⟩ := hK.at_
    have kc := hK.kc
    have sc := hSt.sc
    have nd := hSt.nd
    have ap := hSt.ap
    have hkW : k ≠ W := ne_of hk hW (by intro z; cases z)
    have hkF : k ≠ F := ne_of hk hF (by intro z; cases z)
    have hNW : N ≠ W := ne_of hN hW (by intro z; cases z)
    have hNF : N ≠ F := ne_of hN hF (by intro z; cases z)
    have hPW : Pn ≠ W := ne_of hP hW (by intro z; cases z)
    have hPF : Pn ≠ F := ne_of hP hF (by intro z; cases z)
    have hgW : g ≠ W := ne_of hg hW (by intro z; cases z)
    have hgF : g ≠ F := ne_of hg hF (by intro z; cases z)
    have apW : ∀ b ∈ R, b ∉ [W, F] := fun b hb hm => ap b (by
      rcases List.mem_cons.mp hm with e | e
      · simp [e]
      · simp [List.mem_singleton.mp e]) hb
    have keep : ∀ {H' : Hp}, Step [W, F] H H' → ∀ b o, H b = some o → b ≠ W → b ≠ F → H' b = some o := fun st b o h n1 n2 => st.keep b o h (by simp [n1, n2])
    with_reducible refine seq_k fun K_ hK_ => ?_
    walk_at "ru"
    refine ⟨⟨_, sqL hg⟩, ?_⟩
    refine for_it (walk_list (xs := gone.map V.int)) (iv_without mg k g W F R v.rows gone H) ⟨⟨_, rfl⟩, .refl, fun _ h => h, by rw [List.take_zero, outR_nil]; exact hW, kvs, hF, by rw [List.take_zero, outR_nil]; exact hSh⟩ (fun i σ H2 _ iv => sqL (keep iv.2.1 _ _ hg hgW hgF)) (fun i x σ H2 H3 hi iv hy => ?_) (fun σ H2 iv => ?_)
    · obtain ⟨⟨y, rfl⟩, st, fr, hW2, kvs2, hF2, hSh2⟩ := iv
      obtain ⟨rfl, hy⟩ := hy
      rw [List.getElem?_map] at hy
      obtain ⟨m, hm, rfl⟩ := Option.map_eq_some_iff.mp hy
      have hk2 := keep st _ _ hk hkW hkF
      obtain ⟨r, hr1, hr2⟩ := List.mem_map.mp (hsub m (mem_of_get hm))
      have hrm : r ∈ outR (gone.take i) v.rows := by
        refine List.mem_filter.mpr ⟨hr1, decide_eq_true fun hmem => ?_⟩
        rw [hr2] at hmem
        obtain ⟨j, hj⟩ := List.getElem?_of_mem hmem
        have hj2 : j < i := by have := lt_of_get hj; rw [List.length_take] at this; omega
        rw [List.getElem?_take_of_lt hj2] at hj
        have := (List.getElem?_inj (lt_of_get hj) hnd).mp (hj.trans hm.symm)
        omega
      have nd2 : ((outR (gone.take i) v.rows).map Row.n).Nodup := by rw [outR_ns]; exact nd.filter _
      have hv := whK_val nd2 r hrm
      obtain ⟨p, hv2, _⟩ := hSh2.val nd2 r hrm
      rw [hr2] at hv hv2
      walk_at "ru"
      with_reducible refine seq_k fun K_ hK_ => ?_
      walk_at "ru"
      refine ⟨_, dx, _, hk2, kc.o.cl, sc.nw, _, sf_wholes, W, rfl, .inl ⟨_, .inl hW2⟩, _, hW2, Sum.inl m, rfl, _, hv, ?_⟩
      rw [whK_drop, outR_next hm]
      generalize hG : upd H3 W _ = H4
      have b4 : But W H3 H4 := by rw [← hG]; exact But.upd
      have hW4 : H4 W = some (.dK (whK (outR (gone.take (i + 1)) v.rows))) := by rw [← hG]; exact upd_same
      have st4 : Step [W, F] H H4 := st.trans (by rw [← hG]; exact step_upd (by simp) hW2 (fun _ z => nomatch z)) .refl
      have fr4 : ∀ p, H4 p = none → H3 p = none := fun p hp => by
        cases e : H3 p with
        | none => rfl
        | some o =>
          by_cases c : p = W
          · rw [c, hW4] at hp; cases hp
          · rw [b4 _ _ e c] at hp; cases hp
      clear hG
      have hF4 := b4 _ _ hF2 hWF.symm
      walk_at "ru"
      subst hK_
      first | with_reducible refine seq_k fun K_ hK_ => ?_ | skip
      walk_at "ru"
      refine ⟨_, dx, _, b4 _ _ hk2 hkW, kc.o.cl, sc.ns, _, sf_shelf, F, rfl, .inl ⟨_, .inl hF4⟩, _, hF4, Sum.inl m, rfl, _, hv2, ?_⟩
      generalize hG : upd H4 F _ = H5
      have b5 : But F H4 H5 := by rw [← hG]; exact But.upd
      have hF5 : H5 F = some (.dK (dropK kvs2 (Sum.inl m))) := by rw [← hG]; exact upd_same
      have st5' : Step [W, F] H3 H5 := by
        refine Step.trans (H1 := H4) ⟨fun b o h n => b4 b o h (fun e => n (by simp [e])), fun b xs h => b4 b _ h (ne_of h hW2 (by intro z; cases z))⟩ (by rw [← hG]; exact step_upd (by simp) hF4 (fun _ z => nomatch z)) .refl
      have st5 : Step [W, F] H H5 := st.trans st5' .refl
      have fr5 : ∀ p, H5 p = none → H p = none := fun p hp => fr p (fr4 p (by
        cases e : H4 p with
        | none => rfl
        | some o =>
          by_cases c : p = F
          · rw [c, hF5] at hp; cases hp
          · rw [b5 _ _ e c] at hp; cases hp))
      clear hG
      refine ⟨⟨_, rfl⟩, st5, fr5, b5 _ _ hW4 hWF, _, hF5, ?_⟩
      rw [← outR_next hm]
      exact (hSh2.step st5' apW).drop
    · obtain ⟨⟨y, rfl⟩, st, fr, hW2, kvs2, hF2, hSh2⟩ := iv
      rw [List.length_map, List.take_length] at hW2 hSh2
      have hk2 := keep st _ _ hk hkW hkF
      have hN2 := keep st _ _ hN hNW hNF
      have hP2 := keep st _ _ hP hPW hPF
      have hg2 := keep st _ _ hg hgW hgF
      have hn100 : v.kv.ns.length ≤ 100 := hK.n100
      have hp100 : v.kv.ps.length ≤ 100 := hK.plen
      walk_at "ru"
      subst hK_
      first | with_reducible refine seq_k fun K_ hK_ => ?_ | skip
      walk_at "ru"
      refine ⟨_, dx, _, hk2, kc.o.cl, kc.nn, _, kfs_nights, N, rfl, ⟨_, sqL hN2⟩, fun D hD => ?_⟩
      refine lcF (fun n => decide (n ∉ gone)) hD (sqL hN2) (by omega) (fun _ => rfl) (fun _ => rfl) (fun m H3 _ s3 Q hQ => ?_) (fun H3 s3 hD3 => ?_)
      · walk_at "ru"
        refine ⟨g, _, rfl, .inl (sqL (s3 _ _ hg2)), rfl, flat_ints _, _, rfl, ?_⟩
        rw [if_pos rfl, inV_ints, ← decide_not]
        exact hQ H3 (Same.refl _)
      · have hk3 := s3 _ _ hk2
        refine ⟨_, dx, _, hk3, kc.o.cl, kc.nn, (by show (7 : Nat) < 1000; decide), ?_⟩
        have st3 : Step [W, F, k, N, Pn] H H3 := (st.more (fun b hb => by
          rcases List.mem_cons.mp hb with e | e
          · simp [e]
          · simp [List.mem_singleton.mp e])).same s3
        rw [kfs_put_nights]
        generalize hG_ : upd _ k _ = H4
        obtain ⟨st4, b4, hk4⟩ := putH st3 (by simp) hk3 (fun _ z => nomatch z) hG_
        clear hG_
        have hDk : D ≠ k := (ne_of_none hk2 hD).symm
        have hPk : Pn ≠ k := ne_of hP hk (by intro z; cases z)
        have hgk : g ≠ k := fun e => hgS (by simp [e])
        have hP4 := b4 _ _ (s3 _ _ hP2) hPk
        have hg4 := b4 _ _ (s3 _ _ hg2) hgk
        have hD4 := b4 _ _ hD3 hDk
        walk_at "ru"
        subst hK_
        first | with_reducible refine seq_k fun K_ hK_ => ?_ | skip
        walk_at "ru"
        refine ⟨_, dx, _, hk4, kc.o.cl, kc.np, _, kfs_pinned, Pn, rfl, ⟨_, sqL hP4⟩, fun E hE => ?_⟩
        refine lcF (fun n => decide (n ∉ gone)) hE (sqL hP4) (by omega) (fun _ => rfl) (fun _ => rfl) (fun m H5 _ s5 Q hQ => ?_) (fun H5 s5 hE5 => ?_)
        · walk_at "ru"
          refine ⟨g, _, rfl, .inl (sqL (s5 _ _ hg4)), rfl, flat_ints _, _, rfl, ?_⟩
          rw [if_pos rfl, inV_ints, ← decide_not]
          exact hQ H5 (Same.refl _)
        · have hk5 := s5 _ _ hk4
          refine ⟨_, dx, _, hk5, kc.o.cl, kc.np, (by show (7 : Nat) < 1000; decide), ?_⟩
          have st5 := st4.same s5
          rw [kfs_put_pinned]
          generalize hG_ : upd _ k _ = H6
          obtain ⟨st6, b6, hk6⟩ := putH st5 (by simp) hk5 (fun _ z => nomatch z) hG_
          clear hG_
          have hEk : E ≠ k := (ne_of_none hk4 hE).symm
          have hWk : W ≠ k := hkW.symm
          have hFk : F ≠ k := hkF.symm
          have hW4 := b4 _ _ (s3 _ _ hW2) hWk
          have hF4 := b4 _ _ (s3 _ _ hF2) hFk
          have hDE : D ≠ E := ne_of_none hD4 hE
          have nD : H D = none := fr _ hD
          have nE : H E = none := st4.free hE (by
            have h1 := ne_of_none hW4 hE
            have h2 := ne_of_none hF4 hE
            have h3 := ne_of_none hP4 hE
            have h4 := ne_of_none (b4 _ _ (s3 _ _ hN2) (ne_of hN hk (by intro z; cases z))) hE
            simp [Ne.symm h1, Ne.symm h2, Ne.symm h3, Ne.symm h4, hEk])
          have hap : ∀ b ∈ [W, F, k, D, E], b ∉ R := fun b hb hR' => by
            have hal : ∀ b ∈ R, b ∉ [W, F, k, N, Pn] := fun b h1 h2 => ap b h2 h1
            simp only [List.mem_cons, List.not_mem_nil, or_false] at hb
            rcases hb with rfl | rfl | rfl | rfl | rfl
            · exact ap _ (by simp) hR'
            · exact ap _ (by simp) hR'
            · exact ap _ (by simp) hR'
            · obtain ⟨o, ho⟩ := hSt.al _ hR'
              rw [nD] at ho; cases ho
            · obtain ⟨o, ho⟩ := hSt.al _ hR'
              rw [nE] at ho; cases ho
          refine q H6 [W, F, k, D, E] st6 (fun b hb => ?_) ⟨sc, ⟨W, F, [k, D, E], kvs2, rfl, ⟨kc, hK.exl, ⟨dx, ra, D, E, rfl, hDE, hk6, hR.step st6, ?_, b6 _ _ hE5 hEk⟩, ?_, ?_, ?_, hK.lb, ?_, hK.prise.filter _, fun z hz => ?_⟩, hWF, b6 _ _ (s5 _ _ hW4) hWk, b6 _ _ (s5 _ _ hF4) hFk, hSh2.step (T := [k]) ?_ ?_⟩, hval, hSt.d1, hSt.d10, hap, fun b hb => let ⟨o, ho⟩ := hSt.al b hb; ⟨o, st6.keep _ _ ho (fun h => ap b h hb)⟩⟩
          · simp only [List.mem_cons, List.not_mem_nil, or_false] at hb
            rcases hb with rfl | rfl | rfl | rfl | rfl
            · exact .inl (by simp)
            · exact .inl (by simp)
            · exact .inl (by simp)
            · exact .inr nD
            · exact .inr nE
          · show H6 D = some (.lst (((outR gone v.rows).map Row.n).map V.int))
            rw [outR_ns]
            exact b6 _ _ (s5 _ _ hD4) hDk
          · show ((outR gone v.rows).map Row.n).Pairwise (· < ·)
            rw [outR_ns]
            exact hK.rise.filter _
          · intro z hz
            rw [show (SV.kv { v with rows := outR gone v.rows, ps := v.ps.filter fun n => decide (n ∉ gone) }).ns = (outR gone v.rows).map Row.n from rfl, outR_ns] at hz
            exact hK.bnd z (List.mem_filter.mp hz).1
          · intro z hz
            rw [show (SV.kv { v with rows := outR gone v.rows, ps := v.ps.filter fun n => decide (n ∉ gone) }).ns = (outR gone v.rows).map Row.n from rfl, outR_ns] at hz
            exact hK.lst z (List.mem_filter.mp hz).1
          · show ((outR gone v.rows).map Row.n).length ≤ 100
            rw [outR_ns]
            exact Nat.le_trans (List.length_filter_le _ _) hn100
          · show z ∈ (outR gone v.rows).map Row.n
            rw [outR_ns]
            obtain ⟨h1, h2⟩ := List.mem_filter.mp hz
            exact List.mem_filter.mpr ⟨hK.psub z h1, h2⟩
          · exact ((Step.of s3).trans ⟨fun b o h n => b4 b o h (by simpa using n), fun b xs h => b4 b _ h (ne_of h hk3 (by intro z; cases z))⟩ .refl).trans ((Step.of s5).trans ⟨fun b o h n => b6 b o h (by simpa using n), fun b xs h => b6 b _ h (ne_of h hk5 (by intro z; cases z))⟩ .refl) .refl
          · intro b hb hm
            exact ap k (by simp) (by rw [← List.mem_singleton.mp hm]; exact hb)
end
end Nk
namespace Nk
open PySem L2
section
variable {P : Program} {w : World} {K : PySem.W.Frag} {mg : Str → Option Value} {base : Heap}
abbrev nm_Store____init__ : List Str := ["self", "rules", "longest"]
abbrev pm_Store____init__ : List Str := ["self", "rules", "longest"]
abbrev lv_Store____init__ : Nat := 6
theorem sc_Store____init__ : FnScope nm_Store____init__ pm_Store____init__ (defScope s_Store____init__) := ⟨rfl, rfl, rfl, by decide +kernel, rfl, by decide +kernel, by decide +kernel⟩
def sp_Store____init__ (K : PySem.W.Frag) (mg : Str → Option Value) : Sp := fun vs H Q E => ∃ (k dx : Addr) (x y : V) (n : String), vs = [.ref k, x, y] ∧ H k = some (.ins (cls mg "Store") dx []) ∧ DT K H 3 x ∧ Thing K H y n ∧
  (isRulesV H x = false → ∀ H', Same H H' → E (.ref (cls mg "BadRules")) none H') ∧
  (isRulesV H x = true → isNumV y 1 (.int 10) = false → ∀ H', Step [k] H H' → E (.ref (cls mg "BadNumber")) none H') ∧
  (isRulesV H x = true → ∃ a rus, x = .ref a ∧ RulesAt H a rus ∧ ∀ d : Nat, y = .int d → 1 ≤ d → d ≤ 10 → ∀ H' S, Step [k] H H' → (∀ b ∈ S, b = k ∨ H b = none) → StoreAt K mg H' k S [] ⟨rus, [], [], none, d⟩ → Q .non H')
theorem f_Store____init__ (T : Txt K mg) : Mi P w K mg base (L2.CX P w) lv_Store____init__ "Store" "Store.__init__" s_Store____init__ pm_Store____init__ [.int 4] (sp_Store____init__ K mg) := by
  obtain ⟨f, fd, F, g⟩ := T.i_Store.ex
  refine ⟨f, fd, g, F, F.ok (CX := L2.CX P w) sc_Store____init__ (fun vs H Q E h => ?_) (fun cdv A outer s H vs Q E hr h => ?_)⟩
  · obtain ⟨k, dx, x, y, n, rfl, _⟩ := h; rfl
  · obtain ⟨k, dx, x, y, n, rfl, hk, hx, hy, q1, q2, q3⟩ := h
    have hu := hu_of hr
    refine ⟨_, (pss_cons (ps_expr (pe_cfn (pe_glob (v := .ref (cls mg "Keep")) (by rfl) T.o_Keep.g rfl) T.q_Keep____init__ (f_Keep____init__ T) (hr.mono (by decide)) (passX (takes_of rfl rfl rfl rfl)) (pa_cons (pv 0) (pa_cons (pv 1) pa_nil))))
      (pss_cons (ps_if (pt_not (pt_val (pe_fn (f_is_number T) (hr.mono (by decide)) (by rfl) pass0 (pa_cons (pv 2) (pa_cons pe_int (pa_cons pe_int pa_nil)))))) (pss_one (ps_raise rfl (takes_of rfl rfl rfl rfl) (pmk_own PySem.F.excBase_RuntimeError T.x_BadNumber.xP T.x_BadNumber.gP T.x_BadNumber.kP T.x_BadNumber.rs rfl))) pss_nil)
      (pss_cons (ps_fld (pv 0) (pv 2) rfl)
      (pss_cons (ps_fld (pv 0) pe_dnewK rfl)
      (pss_one (ps_fld (pv 0) pe_dnewK rfl)))))), ?_⟩
    with_reducible refine seq_k fun K_ hK_ => ?_
    walk_at "ru"
    refine ⟨rfl, _, rfl, _, rfl, k, dx, x, rfl, hk, hx, q1, fun hru => ?_⟩
    obtain ⟨a, rus, rfl, hR, q⟩ := q3 hru
    refine ⟨a, rus, rfl, hR, fun H1 N Pn st1 nN nP hK => ?_⟩
    walk_at "ru"
    subst hK_
    first | with_reducible refine seq_k fun K_ hK_ => ?_ | skip
    walk_at "ru"
    obtain ⟨dx1, r1, N1, Pn1, eS, hNP, hk1, hR1, hN1, hP1⟩ := hK.at_
    cases eS
    refine ⟨y, n, 1, _, rfl, (by
      cases hy with
      | non => exact .non
      | bl b => exact .bl b
      | int i => exact .int i
      | str x => exact .str x
      | @lst a' xs h =>
        have : a' ≠ k := ne_of h hk (by intro z; cases z)
        exact .lst (st1.keep _ _ h (by simpa using this))
      | @tup a' xs h => exact .tup (st1.tups _ _ h)
      | @dic a' xs h =>
        have : a' ≠ k := ne_of h hk (by intro z; cases z)
        exact .dic (st1.keep _ _ h (by simpa using this))), fun _ _ => ⟨_, rfl⟩, ?_⟩
    cases e : isNumV y 1 (.int 10) with
    | false =>
      refine ⟨false, rfl, ?_⟩
      rw [if_pos rfl]
      exact q2 hru e H1 st1
    | true =>
      refine ⟨true, rfl, ?_⟩
      rw [if_neg (by simp)]
      obtain ⟨d, rfl, d1, d10⟩ : ∃ d : Nat, y = .int d ∧ 1 ≤ d ∧ d ≤ 10 := by
        cases y with
        | int i =>
          have : 1 ≤ i ∧ i ≤ 10 := by simpa [isNumV] using e
          exact ⟨i.toNat, by rw [show ((i.toNat : Nat) : Int) = i by omega], by omega, by omega⟩
        | _ => cases e
      have kc := hK.kc
      have hkN : N ≠ k := ne_of hN1 hk1 (by intro z; cases z)
      have hkP : Pn ≠ k := ne_of hP1 hk1 (by intro z; cases z)
      walk_at "ru"
      subst hK_
      first | with_reducible refine seq_k fun K_ hK_ => ?_ | skip
      walk_at "ru"
      refine ⟨_, dx1, _, hk1, kc.o.cl, T.n_Store__longest, (by show (4 : Nat) < 1000; decide), ?_⟩
      generalize hG_ : upd _ k _ = H2
      obtain ⟨st2, b2, hk2⟩ := putH st1 (by simp) hk1 (fun _ z => nomatch z) hG_
      clear hG_
      have hN2 := b2 _ _ hN1 hkN
      have hP2 := b2 _ _ hP1 hkP
      walk_at "ru"
      subst hK_
      first | with_reducible refine seq_k fun K_ hK_ => ?_ | skip
      walk_at "ru"
      intro W n_W
      generalize hG_ : upd _ W _ = H3
      obtain ⟨s3, hW3⟩ := newF n_W hG_
      clear hG_
      have hk3 := s3 _ _ hk2
      have st3 := st2.same s3
      have hWk : W ≠ k := (ne_of_none hk2 n_W).symm
      refine ⟨_, dx1, _, hk3, kc.o.cl, T.n_Store__wholes, (by show (5 : Nat) < 1000; decide), ?_⟩
      generalize hG_ : upd _ k _ = H4
      obtain ⟨st4, b4, hk4⟩ := putH st3 (by simp) hk3 (fun _ z => nomatch z) hG_
      clear hG_
      have hW4 := b4 _ _ hW3 hWk
      walk_at "ru"
      subst hK_
      first | with_reducible refine seq_k fun K_ hK_ => ?_ | skip
      walk_at "ru"
      intro F n_F
      generalize hG_ : upd _ F _ = H5
      obtain ⟨s5, hF5⟩ := newF n_F hG_
      clear hG_
      have hk5 := s5 _ _ hk4
      have st5 := st4.same s5
      have hFk : F ≠ k := (ne_of_none hk4 n_F).symm
      have hWF : W ≠ F := ne_of_none hW4 n_F
      refine ⟨_, dx1, _, hk5, kc.o.cl, T.n_Store__shelf, (by show (6 : Nat) < 1000; decide), ?_⟩
      generalize hG_ : upd _ k _ = H6
      obtain ⟨st6, b6, hk6⟩ := putH st5 (by simp) hk5 (fun _ z => nomatch z) hG_
      clear hG_
      have hN6 := b6 _ _ (s5 _ _ (b4 _ _ (s3 _ _ hN2) hkN)) hkN
      have hP6 := b6 _ _ (s5 _ _ (b4 _ _ (s3 _ _ hP2) hkP)) hkP
      refine q d rfl d1 d10 H6 [W, F, k, N, Pn] st6 (fun b hb => ?_) ⟨⟨T.n_Store__longest, T.n_Store__wholes, T.n_Store__shelf⟩, ⟨W, F, [k, N, Pn], [], rfl, ⟨kc, by show 3 ≤ 50; decide, ⟨dx1, r1, N, Pn, rfl, hNP, hk6, ?_, hN6, hP6⟩, .nil, (fun _ h => nomatch h), (fun _ h => nomatch h), (fun _ h => nomatch h), Nat.zero_le _, .nil, (fun _ h => nomatch h)⟩, hWF, b6 _ _ (s5 _ _ hW4) hWk, b6 _ _ hF5 hFk, trivial⟩, Val.nil, d1, d10, (fun _ _ h => nomatch h), (fun _ h => nomatch h)⟩
      · simp only [List.mem_cons, List.not_mem_nil, or_false] at hb
        rcases hb with rfl | rfl | rfl | rfl | rfl
        · exact .inr (st2.free n_W (by simpa using hWk))
        · exact .inr (st4.free n_F (by simpa using hFk))
        · exact .inl rfl
        · exact .inr nN
        · exact .inr nP
      · have t1 : ∀ b xs, H1 b = some (.tup xs) → H6 b = some (.tup xs) := fun b xs h => by
          have n : b ≠ k := ne_of h hk1 (by intro z; cases z)
          exact b6 _ _ (s5 _ _ (b4 _ _ (s3 _ _ (b2 _ _ h n)) n)) n
        exact hR1.step (S := [k]) ⟨fun b o h n => b6 _ _ (s5 _ _ (b4 _ _ (s3 _ _ (b2 _ _ h (by simpa using n))) (by simpa using n))) (by simpa using n), t1⟩
theorem len_st {H : Hp} {p : Addr} {t : Tb} {Q : VK} {E : XK} (h : StAt mg H p t) (q : Q (.int t.length) H) : rLenO (cls mg "State") (sp_State____len__ mg) E [.ref p] H Q := by
  obtain ⟨dx, d, h1, h2⟩ := h.ex
  have := h.len
  exact ⟨p, dx, _, rfl, h1, p, t, rfl, h, t.length, rfl, by omega, q⟩
def wNew (v : SV) (t : Tb) : Bool := match v.rows.getLast? with
  | none => true
  | some l => decide (t.length ≤ (part l.t t).length) || decide (v.deep ≤ (chnP v.rows).length)
def takeS (v : SV) (m : Int) (t : Tb) : SV := { v with rows := v.rows ++ [⟨m, wNew v t, t⟩], last := some m }
theorem chn_last {rs : Rows} {i : Nat} (h : i + 1 = rs.length) : chn rs i = (chnP rs).map Row.n := by unfold chn; rw [h, List.take_of_length_le (Nat.le_refl _)]
abbrev nm_Store__take : List Str := ["self", "night", "state", "whole", "ahead", "short"]
abbrev pm_Store__take : List Str := ["self", "night", "state"]
abbrev lv_Store__take : Nat := 5
theorem sc_Store__take : FnScope nm_Store__take pm_Store__take (defScope s_Store__take) := ⟨rfl, rfl, rfl, by decide +kernel, rfl, by decide +kernel, by decide +kernel⟩
def sp_Store__take (K : PySem.W.Frag) (mg : Str → Option Value) : Sp := fun vs H Q E => ∃ (k : Addr) (S R : List Addr) (v : SV) (x : V) (n : String) (p : Addr) (t : Tb), vs = [.ref k, x, .ref p] ∧ StoreAt K mg H k S R v ∧ Thing K H x n ∧ StR mg H R p t ∧
  (isNumV x 0 (.int 1000000000) = false → E (.ref (cls mg "BadNight")) none H) ∧
  (∀ m l, x = .int m → 0 ≤ m → m ≤ 1000000000 → v.last = some l → m ≤ l → ∀ d H', Same H H' → H' d = some (.xd [("last", .int l)]) → E (.ref (cls mg "Elder")) (some d) H') ∧
  (∀ m, x = .int m → 0 ≤ m → m ≤ 1000000000 → (∀ l, v.last = some l → l < m) → 100 ≤ v.rows.length → E (.ref (cls mg "Full")) none H) ∧
  (∀ m, x = .int m → 0 ≤ m → m ≤ 1000000000 → (∀ l, v.last = some l → l < m) → v.rows.length < 100 → ∀ H', Step S H H' → StoreAt K mg H' k S R (takeS v m t) → Q (.int (szR (takeS v m t).rows v.rows.length)) H')
theorem f_Store__take (T : Txt K mg) : Mo P w K mg base (L2.CX P w) lv_Store__take "Store" "take" pm_Store__take (sp_Store__take K mg) := by
  obtain ⟨f, fd, F, g, b⟩ := T.m_Store__take.ex
  refine ⟨f, fd, g, b, F.okX sc_Store__take (fun vs H Q E h => ?_) (fun cdv A outer s H vs Q E hr h => ?_)⟩
  · obtain ⟨k, S, R, v, x, n, p, t, rfl, _⟩ := h; rfl
  · obtain ⟨k, S, R, v, x, n, p, t, rfl, hSt, hx, hp, q1, q2, q3, q4⟩ := h
    have hu := hu_of hr
    refine ⟨_, (pss_cons (ps_expr (pe_fn (f_look_taken T) (hr.mono (by decide)) (by rfl) (passX (takes_of rfl rfl rfl rfl)) (pa_cons (pv 0) (pa_cons (pv 1) pa_nil))))
      (pss_cons (ps_set (i := 3) sc_Store__take.nd rfl (.inl rfl) pe_bl)
      (pss_cons (ps_if (pt_cmpR (op_neNil K rfl hr.units0) (pe_fld (pv 0) rfl) (pe_lst pa_nil) (nomark _)) (pss_cons (ps_set (i := 4) sc_Store__take.nd rfl (.inl rfl) (pe_ix ix_list (pe_fld (pv 0) rfl) (pe_un un_neg pe_int) (fun _ _ => rfl)))
      (pss_cons (ps_set (i := 5) sc_Store__take.nd rfl (.inl rfl) (pe_cmpR op_lt (pe_callB call_len_seq (by rfl) T.b_len PySem.boot_len (pa_cons (pe_fn (f_part_of T) (hr.mono (by decide)) (by rfl) pass0 (pa_cons (pe_dget hu (pe_fld (pv 0) rfl) (pv 4) (fun _ _ => rfl)) (pa_cons (pv 2) pa_nil))) pa_nil)) (pe_callB (cr_lenO T.o_State (f_State____len__ T) (hr.mono (by decide)) pass0) (by rfl) T.b_len PySem.boot_len (pa_cons (pv 2) pa_nil)) (nomark _)))
      (pss_one (ps_set (i := 3) sc_Store__take.nd rfl (.inl rfl) (pe_or (pe_not (pv 5)) (pe_one (pe_cmpR op_ge (pe_callB call_len_seq (by rfl) T.b_len PySem.boot_len (pa_cons (pe_fn (f_chain_of T) (hr.mono (by decide)) (by rfl) pass0 (pa_cons (pv 0) (pa_cons (pv 4) pa_nil))) pa_nil)) (pe_fld (pv 0) rfl) (nomark _)))))))) pss_nil)
      (pss_cons (ps_expr (pe_bm PySem.F.plainAttrs_list PySem.F.slot_list_append PySem.F.type_list_append mt_append (pe_fld (pv 0) rfl) (pa_cons (pv 1) pa_nil)))
      (pss_cons (ps_fld (pv 0) (pv 1) rfl)
      (pss_cons (ps_dput hu (pe_fld (pv 0) rfl) (pv 1) (pv 3) rfl)
      (pss_cons (ps_dput hu (pe_fld (pv 0) rfl) (pv 1) (pv 2) rfl)
      (pss_one (ps_ret (pe_callB (cr_lenE T.o_State (f_State____len__ T) (hr.mono (by decide)) pass0) (by rfl) T.b_len PySem.boot_len (pa_cons (pe_fn (f_copy_of T) (hr.mono (by decide)) (by rfl) pass0 (pa_cons (pv 0) (pa_cons (pv 1) pa_nil))) pa_nil))))))))))), ?_⟩
    obtain ⟨W, F, S0, kvs, rfl, hK, hWF, hW, hF, hSh⟩ := hSt.at_
    have hlen : v.kv.ns.length = v.rows.length := List.length_map _
    with_reducible refine seq_k fun K_ hK_ => ?_
    walk_at "ru"
    refine ⟨"Store", _, k, S0, v.kv, x, n, rfl, hK, hx, q1, q2, (fun m e m0 m1 hl h100 => q3 m e m0 m1 hl (by omega)), fun m e m0 m1 hl h100 => ?_⟩
    subst e
    have q := q4 m rfl m0 m1 hl (by omega)
    obtain ⟨dx, ra, N, Pn, rfl, hNP, hk, hR, hN, hP⟩ := hK.at_
    have kc := hK.kc
    have sc := hSt.sc
    have nd := hSt.nd
    walk_at "ru"
    subst hK_
    first | with_reducible refine seq_k fun K_ hK_ => ?_ | skip
    walk_at "ru"
    walk_at "ru"
    subst hK_
    first | with_reducible refine seq_k fun K_ hK_ => ?_ | skip
    walk_at "ru"
    suffices go : ∀ y4 y5 H1, Same H H1 → K_ [some (.ref k), some (.int m), some (.ref p), some (.bl (wNew v t)), y4, y5] H1 by
      refine ⟨_, dx, _, hk, kc.o.cl, kc.nn, _, kfs_nights, ?_⟩
      intro e0 n_e0
      generalize hG_ : upd _ e0 _ = H1
      obtain ⟨s1, he0⟩ := newF n_e0 hG_
      clear hG_
      refine ⟨N, e0, _, rfl, rfl, sqL (s1 _ _ hN), sqL he0, _, rfl, ?_⟩
      rcases snoc_cases v.rows with hnil | ⟨rs, l, hl'⟩
      · rw [if_neg (by rw [show v.kv.ns = v.rows.map Row.n from rfl, hnil]; simp)]
        have : wNew v t = true := by unfold wNew; rw [hnil]; rfl
        rw [this] at go
        exact go _ _ _ s1
      · rw [if_pos (by rw [show v.kv.ns = v.rows.map Row.n from rfl, hl']; simp)]
        have hlm : l ∈ v.rows := by rw [hl']; simp
        have hli : v.rows[rs.length]? = some l := by rw [hl']; simp
        have hll : rs.length + 1 = v.rows.length := by rw [hl']; simp
        obtain ⟨pl, hvl, hpl⟩ := hSh.val nd l hlm
        have hk1 := s1 _ _ hk
        have hN1 := s1 _ _ hN
        have hSt1 := hSt.same s1
        have hWn : wNew v t = (decide (t.length ≤ (part l.t t).length) || decide (v.deep ≤ (chnP v.rows).length)) := by
          unfold wNew
          rw [hl', List.getLast?_append]
          rfl
        with_reducible refine seq_k fun K_ hK_ => ?_
        walk_at "ru"
        refine ⟨_, dx, _, hk1, kc.o.cl, kc.nn, _, kfs_nights, N, _, -1, .int l.n, rfl, rfl, sqL hN1, ?_, ?_⟩
        · show atI ((v.rows.map Row.n).map V.int) (-1) = _
          rw [hl', List.map_append, List.map_append]
          exact atI_last _ _
        walk_at "ru"
        subst hK_
        first | with_reducible refine seq_k fun K_ hK_ => ?_ | skip
        walk_at "ru"
        refine ⟨_, dx, _, hk1, kc.o.cl, sc.ns, _, sf_shelf, F, rfl, _, dget_i (s1 _ _ hF) hvl, pl, p, l.t, t, rfl, (hpl.st.same s1), (hp.st.same s1), fun pa H2 s2 npa hpa => ?_⟩
        obtain ⟨xs, hxs, hpx⟩ := hpa
        have hp2 := (hp.st.same s1).same s2
        obtain ⟨dx', d', hpH2, _⟩ := hp2.ex
        have htl := hp2.len
        refine ⟨pa, rfl, xs, .inl (sqL hxs), ?_⟩
        rw [hpx.len]
        refine ⟨p, dx', _, rfl, hpH2, p, t, rfl, hp2, t.length, rfl, by omega, ?_⟩
        walk_at "ru"
        subst hK_
        first | with_reducible refine seq_k fun K_ hK_ => ?_ | skip
        walk_at "ru"
        refine ite2 (fun c => ?_) (fun c => ?_)
        · have : wNew v t = true := by rw [hWn, decide_eq_true (by omega)]; rfl
          rw [this] at go
          exact go _ _ _ (s1.trans s2)
        · refine ⟨k, _, R, v, rs.length, l, rfl, hSt1.same s2, hli, fun cl H3 s3 ncl hcl => ?_⟩
          refine ⟨cl, rfl, _, .inl (sqL hcl), _, dx, _, s3 _ _ (s2 _ _ hk1), kc.o.cl, sc.nl, _, sf_longest, _, rfl, ?_⟩
          have : wNew v t = decide ((v.deep : Int) ≤ ((List.map V.int (chn v.rows rs.length)).length : Nat)) := by
            rw [hWn, decide_eq_false (by omega), Bool.false_or, chn_last hll, List.length_map, List.length_map]
            rw [Bool.eq_iff_iff, decide_eq_true_eq, decide_eq_true_eq]
            omega
          rw [this] at go
          exact go _ _ _ ((s1.trans s2).trans s3)
    subst hK_
    intro y4 y5 H1 s1
    have hk1 := s1 _ _ hk
    have hN1 := s1 _ _ hN
    have hP1 := s1 _ _ hP
    have hW1 := s1 _ _ hW
    have hF1 := s1 _ _ hF
    have hkN : N ≠ k := ne_of hN hk (by intro z; cases z)
    have hkP : Pn ≠ k := ne_of hP hk (by intro z; cases z)
    have hkW : W ≠ k := ne_of hW hk (by intro z; cases z)
    have hkF : F ≠ k := ne_of hF hk (by intro z; cases z)
    have hNW : W ≠ N := ne_of hW hN (by intro z; cases z)
    have hNF : F ≠ N := ne_of hF hN (by intro z; cases z)
    have hPW : W ≠ Pn := ne_of hW hP (by intro z; cases z)
    have hPF : F ≠ Pn := ne_of hF hP (by intro z; cases z)
    have st1 : Step [W, F, k, N, Pn] H H1 := .of s1
    have hlt : ∀ z ∈ v.kv.ns, z < m := fun z hz => by
      obtain ⟨l, h1, h2⟩ := hK.lst z hz
      have := hl l h1
      omega
    have hmn : m ∉ v.rows.map Row.n := fun h => by have := hlt m h; omega
    with_reducible refine seq_k fun K_ hK_ => ?_
    walk_at "ru"
    refine ⟨_, dx, _, hk1, kc.o.cl, kc.nn, _, kfs_nights, app hN1 (by rw [List.length_map]; omega) ?_⟩
    generalize hG_ : upd _ N _ = H2
    obtain ⟨st2, b2, hN2⟩ := putH st1 (by simp) hN1 (fun _ z => nomatch z) hG_
    clear hG_
    walk_at "ru"
    subst hK_
    first | with_reducible refine seq_k fun K_ hK_ => ?_ | skip
    walk_at "ru"
    have hk2 := b2 _ _ hk1 hkN.symm
    refine ⟨_, dx, _, hk2, kc.o.cl, kc.nl, (by show (7 : Nat) < 1000; decide), ?_⟩
    rw [kfs_put_last]
    generalize hG_ : upd _ k _ = H3
    obtain ⟨st3, b3, hk3⟩ := putH st2 (by simp) hk2 (fun _ z => nomatch z) hG_
    clear hG_
    walk_at "ru"
    subst hK_
    first | with_reducible refine seq_k fun K_ hK_ => ?_ | skip
    walk_at "ru"
    have hW3 := b3 _ _ (b2 _ _ hW1 hNW) hkW
    refine ⟨_, dx, _, hk3, kc.o.cl, sc.nw, _, sf_wholes, W, rfl, _, DPut.k (k := Sum.inl m) hW3 (szl (by rw [whK_len]; omega)), ?_⟩
    rw [putK_new _ (whK_valN hmn)]
    generalize hG_ : upd _ W _ = H4
    obtain ⟨st4, b4, hW4⟩ := putH st3 (by simp) hW3 (fun _ z => nomatch z) hG_
    clear hG_
    walk_at "ru"
    subst hK_
    first | with_reducible refine seq_k fun K_ hK_ => ?_ | skip
    walk_at "ru"
    have hk4 := b4 _ _ hk3 hkW.symm
    have hF4 := b4 _ _ (b3 _ _ (b2 _ _ hF1 hNF) hkF) hWF.symm
    have hkl := hSh.len
    refine ⟨_, dx, _, hk4, kc.o.cl, sc.ns, _, sf_shelf, F, rfl, _, DPut.k (k := Sum.inl m) hF4 (szl (by omega)), ?_⟩
    rw [putK_new _ (hSh.valN hmn)]
    generalize hG_ : upd _ F _ = H5
    obtain ⟨st5, b5, hF5⟩ := putH st4 (by simp) hF4 (fun _ z => nomatch z) hG_
    clear hG_
    have hk5 := b5 _ _ hk4 hkF.symm
    have hN5 := b5 _ _ (b4 _ _ (b3 _ _ hN2 hkN) hNW.symm) hNF.symm
    have hP5 := b5 _ _ (b4 _ _ (b3 _ _ (b2 _ _ hP1 hNP.symm) hkP) hPW.symm) hPF.symm
    have hW5 := b5 _ _ hW4 hWF
    have apR : ∀ b ∈ R, b ∉ [W, F, k, N, Pn] := fun b hb hm => hSt.ap b hm hb
    have hns : (takeS v m t).rows.map Row.n = v.rows.map Row.n ++ [m] := by unfold takeS; rw [List.map_append]; rfl
    have hSt5 : StoreAt K mg H5 k [W, F, k, N, Pn] R (takeS v m t) := by
      refine ⟨sc, ⟨W, F, [k, N, Pn], _, rfl, ⟨kc, hK.exl, ⟨dx, ra, N, Pn, rfl, hNP, hk5, hR.step st5, ?_, hP5⟩, ?_, ?_, ?_, ?_, ?_, hK.prise, fun z hz => ?_⟩, hWF, ?_, hF5, ?_⟩, ?_, hSt.d1, hSt.d10, hSt.ap, fun b hb => let ⟨o, ho⟩ := hSt.al b hb; ⟨o, st5.keep _ _ ho (apR b hb)⟩⟩
      · show H5 N = some (.lst (((takeS v m t).rows.map Row.n).map V.int))
        rw [hns, List.map_append]
        exact hN5
      · show ((takeS v m t).rows.map Row.n).Pairwise (· < ·)
        rw [hns, List.pairwise_append]
        exact ⟨hK.rise, List.pairwise_singleton _ _, fun a ha b hb => by rw [List.mem_singleton.mp hb]; exact hlt a ha⟩
      · intro z hz
        rw [show (SV.kv (takeS v m t)).ns = (takeS v m t).rows.map Row.n from rfl, hns] at hz
        rcases List.mem_append.mp hz with hz | hz
        · exact hK.bnd z hz
        · rw [List.mem_singleton.mp hz]; exact ⟨m0, m1⟩
      · intro z hz
        rw [show (SV.kv (takeS v m t)).ns = (takeS v m t).rows.map Row.n from rfl, hns] at hz
        refine ⟨m, rfl, ?_⟩
        rcases List.mem_append.mp hz with hz | hz
        · exact Int.le_of_lt (hlt z hz)
        · rw [List.mem_singleton.mp hz]; exact Int.le_refl _
      · intro l e
        cases e
        exact ⟨m0, m1⟩
      · show ((takeS v m t).rows.map Row.n).length ≤ 100
        rw [hns, List.length_append, List.length_map]
        simp
        omega
      · show z ∈ (takeS v m t).rows.map Row.n
        rw [hns]
        exact List.mem_append_left _ (hK.psub z hz)
      · show H5 W = some (.dK (whK (v.rows ++ [⟨m, wNew v t, t⟩])))
        rw [whK_app]
        exact hW5
      · exact (hSh.step st5 apR).app ⟨⟨rfl, p, rfl, hp.step st5 apR⟩, trivial⟩
      · show Val v.deep (v.rows ++ [⟨m, wNew v t, t⟩])
        refine hSt.val.snoc hSt.d1 fun hw => ?_
        have hw : wNew v t = false := hw
        unfold wNew at hw
        rcases snoc_cases v.rows with hnil | ⟨rs, l, hl'⟩
        · rw [hnil] at hw; cases hw
        · refine ⟨by rw [hl']; simp, ?_⟩
          rw [hl', List.getLast?_append] at hw
          have hw : (decide (t.length ≤ (part l.t t).length) || decide (v.deep ≤ (chnP (rs ++ [l])).length)) = false := hw
          rw [Bool.or_eq_false_iff, decide_eq_false_iff_not, decide_eq_false_iff_not] at hw
          rw [hl']
          omega
    walk_at "ru"
    subst hK_
    first | with_reducible refine seq_k fun K_ hK_ => ?_ | skip
    walk_at "ru"
    have hlast : (takeS v m t).rows[v.rows.length]? = some ⟨m, wNew v t, t⟩ := by unfold takeS; simp
    have hsz : szR (takeS v m t).rows v.rows.length = if wNew v t = true then t.length else (part (((takeS v m t).rows[v.rows.length - 1]?.map Row.t).getD []) t).length := by unfold szR; rw [hlast]
    have q' := q H5 st5 hSt5
    rw [hsz] at q'
    refine ⟨k, _, R, takeS v m t, v.rows.length, ⟨m, wNew v t, t⟩, rfl, hSt5, hlast, fun hw p' hp' => .inl (len_st hp' ?_), fun hw r' l H6 hr' s6 nl hl6 => ?_⟩
    · rw [if_pos hw] at q'
      exact q'
    · obtain ⟨xs, hxs, hpx⟩ := hl6
      refine .inr ⟨l, xs, rfl, .inl (sqL hxs), ?_⟩
      rw [hpx.len]
      have q'' := q H6 (st5.same s6) (hSt5.same s6)
      rw [hsz, if_neg (by rw [show wNew v t = false from hw]; simp), hr'] at q''
      exact q''
end
end Nk
namespace Nk
open PySem L2
section
variable {P : Program} {w : World} {K : PySem.W.Frag} {mg : Str → Option Value} {base : Heap}
theorem but_free {H H' : Hp} {t p : Addr} (b : But t H H') (hp : H' p = none) (hpt : p ≠ t) : H p = none := by
  cases e : H p with
  | none => rfl
  | some o => rw [b _ _ e hpt] at hp; cases hp
theorem own_off {H : Hp} {S S' : List Addr} {p : Addr} {o : HO} (w : Own H S S') (hp : H p = some o) (n : p ∉ S) : p ∉ S' := fun hb => (w p hb).elim n fun e => by rw [hp] at e; cases e
theorem cut_init (xs : List V) (x : V) : cutV (xs ++ [x]) none (some (-1)) = xs := by
  unfold cutV
  rw [HT.sIx_none]
  have : HT.sIx (xs ++ [x]).length (xs ++ [x]).length (some (-1)) = xs.length := by
    unfold HT.sIx
    rw [List.length_append]
    simp
    omega
  rw [this]
  simp
/-- the rows behind i turns of letting go -/
def rowsI (gone : List Int) (rs : Rows) (i : Nat) : Rows := lgoU gone (rs.take i) ++ rs.drop i
theorem rowsI_get {gone : List Int} {rs : Rows} {i : Nat} {r : Row} (h : rs[i]? = some r) : (rowsI gone rs i)[i]? = some r := by
  have hi := lt_of_get h
  unfold rowsI
  have e : (lgoU gone (rs.take i)).length = i := by rw [lgoU_len, List.length_take]; omega
  rw [List.getElem?_append_right (by omega), e, Nat.sub_self, List.getElem?_drop]
  exact h
theorem rowsI_take {gone : List Int} {rs : Rows} {i : Nat} {r : Row} (h : rs[i]? = some r) : (rowsI gone rs i).take (i + 1) = lgoU gone (rs.take i) ++ [r] := by
  have hi := lt_of_get h
  have e : (lgoU gone (rs.take i)).length = i := by rw [lgoU_len, List.length_take]; omega
  unfold rowsI
  rw [List.take_append, List.take_of_length_le (by omega), e, show i + 1 - i = 1 by omega]
  congr 1
  rw [List.take_one, List.head?_drop, h]
  rfl
theorem rowsI_split {gone : List Int} {rs : Rows} {i : Nat} {r : Row} (h : rs[i]? = some r) : rowsI gone rs i = lgoU gone (rs.take i) ++ r :: rs.drop (i + 1) := by
  have hi := lt_of_get h
  unfold rowsI
  rw [List.drop_eq_getElem_cons hi, (List.getElem?_eq_some_iff.mp h).2]
theorem rowsI_next {gone : List Int} {rs : Rows} {i : Nat} {r : Row} (h : rs[i]? = some r) : rowsI gone rs (i + 1) = lgoU gone (rs.take i) ++ (if r.n ∈ gone then r else { r with w := r.w || (chnP (rs.take i)).all fun o => decide (o.n ∈ gone) }) :: rs.drop (i + 1) := by
  have hi := lt_of_get h
  unfold rowsI
  rw [take_succ_snoc hi, lgoU_snoc', (List.getElem?_eq_some_iff.mp h).2]
  simp
theorem rowsI_same {gone : List Int} {rs : Rows} {i : Nat} {r : Row} (h : rs[i]? = some r) (c : r.n ∈ gone ∨ r.w = true) : rowsI gone rs (i + 1) = rowsI gone rs i := by
  rw [rowsI_next h, rowsI_split h]
  rcases c with c | c
  · rw [if_pos c]
  · by_cases c2 : r.n ∈ gone
    · rw [if_pos c2]
    · rw [if_neg c2]
      congr 1
      obtain ⟨n, w, t⟩ := r
      have c : w = true := c
      subst c
      rfl
theorem rowsI_set {gone : List Int} {rs : Rows} {i : Nat} {r : Row} (h : rs[i]? = some r) (c : r.n ∉ gone) (cw : r.w = false) : rowsI gone rs (i + 1) = setW (rowsI gone rs i) i ((chnP (rs.take i)).all fun o => decide (o.n ∈ gone)) := by
  have hi := lt_of_get h
  have e : (lgoU gone (rs.take i)).length = i := by rw [lgoU_len, List.length_take]; omega
  unfold setW
  rw [rowsI_get h, rowsI_next h, if_neg c, rowsI_split h]
  show _ = (lgoU gone (rs.take i) ++ r :: rs.drop (i + 1)).set i _
  rw [List.set_append_right _ _ (by omega), e, Nat.sub_self, List.set_cons_zero, cw, Bool.false_or]
theorem rowsI_chn {gone : List Int} {rs : Rows} {i : Nat} {r : Row} (h : rs[i]? = some r) (cw : r.w = false) : chn (rowsI gone rs i) i = (chnP (lgoU gone (rs.take i))).map Row.n ++ [r.n] := by
  unfold chn
  rw [rowsI_take h, chnP_snoc, if_neg (by rw [cw]; simp), List.map_append]
  rfl
theorem rowsI_nt {gone : List Int} {rs : Rows} {i : Nat} : (rowsI gone rs i).map (fun r => (r.n, r.t)) = rs.map fun r => (r.n, r.t) := by
  obtain ⟨h1, h2⟩ := lgoU_up gone rs i
  apply List.ext_getElem?
  intro j
  rw [List.getElem?_map, List.getElem?_map]
  by_cases c : j < rs.length
  · have c' : j < (lgoU gone (rs.take i) ++ rs.drop i).length := by rw [h1]; exact c
    obtain ⟨e1, e2, _⟩ := h2 j _ _ (List.getElem?_eq_getElem c) (List.getElem?_eq_getElem c')
    unfold rowsI
    rw [List.getElem?_eq_getElem c, List.getElem?_eq_getElem c', Option.map_some, Option.map_some, e1, e2]
  · unfold rowsI
    rw [List.getElem?_eq_none (l := rs) (by omega), List.getElem?_eq_none (by rw [h1]; omega)]
theorem nt_n {rs rs' : Rows} (h : rs'.map (fun r => (r.n, r.t)) = rs.map fun r => (r.n, r.t)) : rs'.map Row.n = rs.map Row.n := by
  have := congrArg (List.map Prod.fst) h
  rw [List.map_map, List.map_map] at this
  exact this
/-- the wholes change, nothing else -/
theorem StoreAt.wholes {H H' : Hp} {k W F : Addr} {S0 R : List Addr} {v : SV} {rows' : Rows} (h : StoreAt K mg H k (W :: F :: S0) R v) (b : But W H H') (hW : H' W = some (.dK (whK rows'))) (e : rows'.map (fun r => (r.n, r.t)) = v.rows.map fun r => (r.n, r.t)) (hv : Val v.deep rows') : StoreAt K mg H' k (W :: F :: S0) R { v with rows := rows' } := by
  obtain ⟨W', F', S0', kvs, eS, hK, hWF, hW0, hF, hSh⟩ := h.at_
  cases eS
  have st : Step [W] H H' := ⟨fun c o h n => b c o h (by simpa using n), fun c xs h => b c _ h (ne_of h hW0 (by intro z; cases z))⟩
  have n0 : ∀ b ∈ S0, b ∉ [W] := fun c hc e => by
    obtain ⟨dx, ra, N, Pn, rfl, hNP, hk, hR, hN, hP⟩ := hK.at_
    have e := List.mem_singleton.mp e
    subst e
    simp only [List.mem_cons, List.not_mem_nil, or_false] at hc
    rcases hc with rfl | rfl | rfl
    · rw [hk] at hW0; cases hW0
    · rw [hN] at hW0; cases hW0
    · rw [hP] at hW0; cases hW0
  have nR : ∀ b ∈ R, b ∉ [W] := fun c hc e => h.ap W (by simp) (by rw [← List.mem_singleton.mp e]; exact hc)
  have hK' := hK.step st n0
  have ek : SV.kv { v with rows := rows' } = v.kv := by unfold SV.kv; rw [nt_n e]
  exact ⟨h.sc, ⟨W, F, S0, kvs, rfl, by rw [ek]; exact hK', hWF, hW, b _ _ hF hWF.symm, (hSh.step st nR).up e⟩, hv, h.d1, h.d10, h.ap, fun c hc => let ⟨o, ho⟩ := h.al c hc; ⟨o, st.keep _ _ ho (nR c hc)⟩⟩
def goS (v : SV) : SV := { v with rows := lgo (goneK v.kv) v.rows }
theorem gone_sub (v : KV) : ∀ x ∈ goneK v, x ∈ v.ns := fun x hx => (List.mem_filter.mp hx).1
theorem gone_pin (v : KV) {x : Int} (h : x ∈ v.ps) : x ∉ goneK v := fun hx => by
  have := (List.mem_filter.mp hx).2
  simp [h] at this
abbrev nm_Store__let_go : List Str := ["self", "gone", "night", "one"]
abbrev pm_Store__let_go : List Str := ["self"]
abbrev lv_Store__let_go : Nat := 5
theorem sc_Store__let_go : FnScope nm_Store__let_go pm_Store__let_go (defScope s_Store__let_go) := ⟨rfl, rfl, rfl, by decide +kernel, rfl, by decide +kernel, by decide +kernel⟩
def sp_Store__let_go (K : PySem.W.Frag) (mg : Str → Option Value) : Sp := fun vs H Q _ => ∃ (k : Addr) (S R : List Addr) (v : SV), vs = [.ref k] ∧ StoreAt K mg H k S R v ∧
  ∀ p H' S', Step S H H' → Own H S S' → H p = none → p ∉ S' → H' p = some (.lst ((goneK v.kv).map V.int)) → StoreAt K mg H' k S' R (goS v) → Q (.ref p) H'
def iv_let_go (K : PySem.W.Frag) (mg : Str → Option Value) (k g W F : Addr) (S0 R : List Addr) (v : SV) (H0 : Hp) (i : Nat) (σ : L2.St) (H : Hp) : Prop :=
  (∃ y, σ = [some (.ref k), some (.ref g), y, none]) ∧ But W H0 H ∧ H W = some (.dK (whK (rowsI (goneK v.kv) v.rows i))) ∧ StoreAt K mg H k (W :: F :: S0) R { v with rows := rowsI (goneK v.kv) v.rows i } ∧ ∀ p, H p = none → H0 p = none
theorem f_Store__let_go (T : Txt K mg) : Mo P w K mg base CX0 lv_Store__let_go "Store" "let_go" pm_Store__let_go (sp_Store__let_go K mg) := by
  obtain ⟨f, fd, F, g, b⟩ := T.m_Store__let_go.ex
  refine ⟨f, fd, g, b, F.ok sc_Store__let_go (fun vs H Q E h => ?_) (fun cdv A outer s H vs Q E hr h => ?_)⟩
  · obtain ⟨k, S, R, v, rfl, _⟩ := h; rfl
  · obtain ⟨k, S, R, v, rfl, hSt, q⟩ := h
    have hu := hu_of hr
    refine ⟨_, (pss_cons (ps_set (i := 1) sc_Store__let_go.nd rfl (.inr rfl) (pe_fn (f_gone_of T) (hr.mono (by decide)) (by rfl) pass0 (pa_cons (pv 0) pa_nil)))
      (pss_cons (ps_for PassesOwn.never rfl (pi_list (pe_fld (pv 0) rfl)) (pg_name (i := 2) sc_Store__let_go.nd rfl (Or.inl rfl)) (pss_one (ps_if (PW.pt (pw_and (pt_cmpR op_notIn_seq (pv 2) (pv 1) (by rfl)) (pw_and1 (pt_not (pt_val (pe_dget hu (pe_fld (pv 0) rfl) (pv 2) (fun _ _ => rfl))))))) (pss_one (ps_dput hu (pe_fld (pv 0) rfl) (pv 2) (pe_callB (cr_all rfl) (by rfl) T.b_all (by decide +kernel) (pa_cons (pe_lc (own := [("one", 3)]) (g := gName 3) (tt := tYes) (by rfl) sc_Store__let_go.nd (pi_list (pe_slice sl_list (pe_fn (f_chain_of T) (hr.mono (by decide)) (by rfl) pass0 (pa_cons (pv 0) (pa_cons (pv 2) pa_nil))) po_none (po_some (pe_un un_neg pe_int)))) (blkOk_by (own := [("one", 3)]) (N := nm_Store__let_go) (sc := defScope s_Store__let_go) (by decide +kernel)) (fun _ _ _ _ _ => (pg_name (i := 3) sc_Store__let_go.nd rfl (Or.inl rfl))) (fun _ _ _ _ _ => pts_nil) (fun _ _ _ _ _ => (pe_cmpR (op_inK K rfl) (pv 3) (pv 1) (by rfl)))) pa_nil)) rfl)) pss_nil)))
      (pss_cons (ps_expr (pe_fn (f_without T) (hr.mono (by decide)) (by rfl) pass0 (pa_cons (pv 0) (pa_cons (pv 1) pa_nil))))
      (pss_one (ps_ret (pv 1)))))), ?_⟩
    obtain ⟨W, F, S0, kvs, rfl, hK, hWF, hW, hF, hSh⟩ := hSt.at_
    have nd := hSt.nd
    with_reducible refine seq_k fun K_ hK_ => ?_
    walk_at "ru"
    refine ⟨"Store", _, k, S0, v.kv, rfl, hK, fun p H1 s1 np hp1 => ?_⟩
    have hSt1 := hSt.same s1
    obtain ⟨dx, ra, N, Pn, rfl, hNP, hk, hR, hN, hP⟩ := (hK.same s1).at_
    have kc := hK.kc
    have sc := hSt.sc
    have hNW : N ≠ W := ne_of hN (s1 _ _ hW) (by intro z; cases z)
    have hkW : k ≠ W := ne_of hk (s1 _ _ hW) (by intro z; cases z)
    have hpW : p ≠ W := ne_of hp1 (s1 _ _ hW) (by intro z; cases z)
    have hn100 : v.kv.ns.length ≤ 100 := hK.n100
    have hrl : v.rows.length ≤ 100 := by have : v.kv.ns.length = v.rows.length := List.length_map _; omega
    have r0 : rowsI (goneK v.kv) v.rows 0 = v.rows := by unfold rowsI; rfl
    walk_at "ru"
    subst hK_
    first | with_reducible refine seq_k fun K_ hK_ => ?_ | skip
    walk_at "ru"
    refine ⟨_, dx, _, hk, kc.o.cl, kc.nn, _, kfs_nights, N, rfl, ⟨_, sqL hN⟩, ?_⟩
    refine for_it (walk_list (xs := v.kv.ns.map V.int)) (iv_let_go K mg k p W F [k, N, Pn] R v H1) ⟨⟨_, rfl⟩, .refl, by rw [r0]; exact s1 _ _ hW, by rw [r0]; exact hSt1, fun _ h => h⟩ (fun i σ H2 _ iv => sqL (iv.2.1 _ _ hN hNW)) (fun i x σ H2 H3 hi iv hy => ?_) (fun σ H2 iv => ?_)
    · obtain ⟨⟨y, rfl⟩, b3, hW3, hSt3, fr⟩ := iv
      obtain ⟨rfl, hy⟩ := hy
      obtain ⟨r, hri⟩ := row_lt (rs := v.rows) (i := i) (by have : v.kv.ns.length = v.rows.length := List.length_map _; simp at hi; omega)
      rw [show v.kv.ns = v.rows.map Row.n from rfl, row_nn hri] at hy
      cases hy
      have hk3 := b3 _ _ hk hkW
      have hp3 := b3 _ _ hp1 hpW
      walk_at "ru"
      refine ⟨p, _, rfl, .inl (sqL hp3), rfl, flat_ints _, _, rfl, ?_⟩
      rw [if_pos rfl, inV_ints]
      have nxt : rowsI (goneK v.kv) v.rows (i + 1) = rowsI (goneK v.kv) v.rows i → iv_let_go K mg k p W F [k, N, Pn] R v H1 (i + 1) [some (V.ref k), some (V.ref p), some (V.int r.n), none] H3 := fun e => ⟨⟨_, rfl⟩, b3, by rw [e]; exact hW3, by rw [e]; exact hSt3, fr⟩
      refine ite2 (fun c1 => ?_) (fun c1 => nxt (rowsI_same hri (.inl (by simpa using c1))))
      have c1 : r.n ∉ goneK v.kv := by simpa using c1
      have hr3 := rowsI_get (gone := goneK v.kv) hri
      have nd3 := hSt3.nd
      refine ⟨_, dx, _, hk3, kc.o.cl, sc.nw, _, sf_wholes, W, rfl, _, dget_i hW3 (whK_val nd3 r (mem_of_get hr3)), _, rfl, ?_⟩
      refine ite2 (fun c2 => ?_) (fun c2 => nxt (rowsI_same hri (.inr (by simpa using c2))))
      refine ⟨k, _, R, _, i, r, rfl, hSt3, hr3, fun cl H4 s4 ncl hcl => ?_⟩
      rw [show SV.rows { v with rows := rowsI (goneK v.kv) v.rows i } = rowsI (goneK v.kv) v.rows i from rfl, rowsI_chn hri c2] at hcl
      refine ⟨cl, _, rfl, sqL hcl, ?_⟩
      intro c5 n_c5
      generalize hG_ : upd _ c5 _ = H5
      obtain ⟨s5, hc5⟩ := newF n_c5 hG_
      clear hG_
      rw [List.map_append, show List.map V.int [r.n] = [V.int r.n] from rfl, cut_init] at hc5
      generalize hos : (chnP (lgoU (goneK v.kv) (v.rows.take i))).map Row.n = os at hc5
      have hol : os.length ≤ 100 := by
        rw [← hos, List.length_map]
        have h1 := hSt3.val.len i
        have h2 := hSt.d10
        have e : (rowsI (goneK v.kv) v.rows i).take i = lgoU (goneK v.kv) (v.rows.take i) := by
          unfold rowsI
          have e : (lgoU (goneK v.kv) (v.rows.take i)).length = i := by rw [lgoU_len, List.length_take]; have := lt_of_get hri; omega
          rw [List.take_append_of_le_length (by omega), List.take_of_length_le (by omega)]
        have h1 : (chnP ((rowsI (goneK v.kv) v.rows i).take i)).length ≤ v.deep := h1
        rw [e] at h1
        omega
      have s35 := s4.trans s5
      refine ⟨c5, rfl, ⟨_, sqL hc5⟩, fun D hD => ?_⟩
      refine lcL hD (sqL hc5) (fun j => (os.take j).map fun o => V.bl (decide (o ∈ goneK v.kv))) rfl (fun j x H6 hx pv => ?_) (fun H6 s6 hD6 => ?_)
      · rw [List.getElem?_map] at hx
        obtain ⟨o, ho, rfl⟩ := Option.map_eq_some_iff.mp hx
        have := lt_of_get ho
        walk_at "ru"
        refine ⟨p, _, rfl, .inl (sqL (pv.same _ _ (s35 _ _ hp3))), rfl, flat_ints _, ?_⟩
        rw [if_neg (by simp), inV_ints]
        exact pv.push hD (by simp; omega) (Same.refl _) (map_take_next _ ho)
      · rw [List.length_map, List.take_length] at hD6
        have s36 := s35.trans s6
        have hW6 := s36 _ _ hW3
        refine ⟨D, os.map (fun o => decide (o ∈ goneK v.kv)), rfl, sqL (by rw [hD6, List.map_map]; rfl), ?_⟩
        have hall : ((os.map fun o => decide (o ∈ goneK v.kv)).all id) = (chnP (v.rows.take i)).all fun o => decide (o.n ∈ goneK v.kv) := by
          rw [← lgoU_all, ← hos, List.all_map, List.all_map]
          rfl
        rw [hall]
        refine ⟨_, dx, _, s36 _ _ hk3, kc.o.cl, sc.nw, _, sf_wholes, W, rfl, _, DPut.k (k := Sum.inl r.n) hW6 (szl (by rw [whK_len]; have : (rowsI (goneK v.kv) v.rows i).length = v.rows.length := (lgoU_up _ _ _).1; omega)), ?_⟩
        rw [whK_put nd3 hr3, ← rowsI_set hri c1 c2]
        generalize hG : upd H6 W _ = H7
        have b7 : But W H6 H7 := by rw [← hG]; exact But.upd
        have hW7 : H7 W = some (.dK (whK (rowsI (goneK v.kv) v.rows (i + 1)))) := by rw [← hG]; exact upd_same
        clear hG
        refine ⟨⟨_, rfl⟩, (b3.thenS s36).trans b7, hW7, ?_, fun z hz => fr z (s36.free (but_free b7 hz fun e => by rw [e, hW7] at hz; cases hz))⟩
        exact (hSt3.same s36).wholes b7 hW7 (by rw [rowsI_nt]; exact rowsI_nt.symm) (hSt.val.up (lgoU_up _ _ _))
    · obtain ⟨⟨y, rfl⟩, b3, hW3, hSt3, fr⟩ := iv
      have e : rowsI (goneK v.kv) v.rows (v.kv.ns.map V.int).length = lgoU (goneK v.kv) v.rows := by
        have : (v.kv.ns.map V.int).length = v.rows.length := by rw [List.length_map]; exact List.length_map _
        unfold rowsI
        rw [this, List.take_of_length_le (Nat.le_refl _), List.drop_of_length_le (Nat.le_refl _), List.append_nil]
      rw [e] at hW3 hSt3
      have hp3 := b3 _ _ hp1 hpW
      have hpS : p ∉ [W, F, k, N, Pn] := fun hm => by
        have h1 : ∀ b o, H b = some o → p ≠ b := fun b o h e => by rw [← e, np] at h; cases h
        obtain ⟨_, ra', _, _, e', _, hk', _, hN', hP'⟩ := hK.at_
        cases e'
        simp only [List.mem_cons, List.not_mem_nil, or_false] at hm
        rcases hm with e | e | e | e | e
        · exact h1 _ _ hW e
        · exact h1 _ _ hF e
        · exact h1 _ _ hk' e
        · exact h1 _ _ hN' e
        · exact h1 _ _ hP' e
      have hst : Step [W, F, k, N, Pn] H H2 := ⟨fun b o h n => b3 _ _ (s1 _ _ h) (fun e => n (by simp [e])), fun b xs h => b3 _ _ (s1 _ _ h) (ne_of h hW (by intro z; cases z))⟩
      have hmn : (lgoU (goneK v.kv) v.rows).map Row.n = v.rows.map Row.n := by
        have := nt_n (rowsI_nt (gone := goneK v.kv) (rs := v.rows) (i := v.rows.length))
        unfold rowsI at this
        rw [List.take_of_length_le (Nat.le_refl _), List.drop_of_length_le (Nat.le_refl _), List.append_nil] at this
        exact this
      walk_at "ru"
      subst hK_
      first | with_reducible refine seq_k fun K_ hK_ => ?_ | skip
      walk_at "ru"
      refine ⟨k, _, R, _, p, goneK v.kv, rfl, hSt3, hp3, hpS, fun x hx => by rw [hmn]; exact gone_sub _ x hx, nd.filter _, ?_, fun H4 S' st4 ow hSt4 => ?_⟩
      · show Val v.deep (outR (goneK v.kv) (lgoU (goneK v.kv) v.rows))
        unfold outR
        rw [lgo_of_U]
        exact hSt.val.lgo hSt.d1 _
      · walk_at "ru"
        subst hK_
        first | with_reducible refine seq_k fun K_ hK_ => ?_ | skip
        walk_at "ru"
        have hpS' : p ∉ S' := own_off ow hp3 hpS
        have ow' : Own H [W, F, k, N, Pn] S' := fun b hb => (ow b hb).imp id fun h => by
          have := fr _ h
          exact s1.free this
        refine q p H4 S' (hst.trans st4 .refl) ow' np hpS' (st4.keep _ _ hp3 hpS) ?_
        have e1 : outR (goneK v.kv) (lgoU (goneK v.kv) v.rows) = lgo (goneK v.kv) v.rows := by unfold outR; exact lgo_of_U _ _
        have e2 : v.ps.filter (fun n => decide (n ∉ goneK v.kv)) = v.ps := List.filter_eq_self.mpr fun x hx => decide_eq_true (gone_pin v.kv hx)
        have := hSt4
        unfold goS
        simp only [e1, e2] at this
        exact this
end
end Nk
namespace Nk
open PySem L2
section
variable {P : Program} {w : World} {K : PySem.W.Frag} {mg : Str → Option Value} {base : Heap}
theorem setW_nt (rs : Rows) (i : Nat) (b : Bool) : (setW rs i b).map (fun r => (r.n, r.t)) = rs.map fun r => (r.n, r.t) := by
  unfold setW
  cases e : rs[i]? with
  | none => rfl
  | some r =>
    apply List.ext_getElem?
    intro j
    rw [List.getElem?_map, List.getElem?_map]
    by_cases c : j = i
    · subst c
      show Option.map _ ((rs.set j _)[j]?) = _
      rw [e, List.getElem?_set_self (List.getElem?_eq_some_iff.mp e).1]
      rfl
    · show Option.map _ ((rs.set i _)[j]?) = _
      rw [List.getElem?_set_ne (Ne.symm c)]
theorem find_row {rs : Rows} {m : Int} (h : m ∈ rs.map Row.n) : ∃ (i : Nat) (r : Row), rs[i]? = some r ∧ r.n = m := by
  obtain ⟨r, hr, e⟩ := List.mem_map.mp h
  obtain ⟨i, hi⟩ := List.getElem?_of_mem hr
  exact ⟨i, r, hi, e⟩
def loS (v : SV) (m : Int) : SV := { v with rows := ls m v.rows, ps := v.ps.filter fun n => decide (n ∉ lostN m v.rows) }
theorem lost_nd {rs : Rows} {m : Int} (nd : (rs.map Row.n).Nodup) : (lostN m rs).Nodup := by
  induction rs using snoc_ind with
  | h0 => simp [lostN]
  | h1 l a ih =>
    rw [List.map_append, List.nodup_append] at nd
    rw [lost_snoc, List.nodup_append]
    refine ⟨ih nd.1, by split <;> simp, fun x hx y hy => ?_⟩
    split at hy
    · rw [List.mem_singleton.mp hy]
      exact nd.2.2 x (lost_sub m l x hx) a.n (by simp)
    · cases hy
abbrev nm_Store__state : List Str := ["self", "night"]
abbrev pm_Store__state : List Str := ["self", "night"]
abbrev lv_Store__state : Nat := 3
theorem sc_Store__state : FnScope nm_Store__state pm_Store__state (defScope s_Store__state) := ⟨rfl, rfl, rfl, by decide +kernel, rfl, by decide +kernel, by decide +kernel⟩
def sp_Store__state (K : PySem.W.Frag) (mg : Str → Option Value) : Sp := fun vs H Q E => ∃ (k : Addr) (S R : List Addr) (v : SV) (x : V) (n : String), vs = [.ref k, x] ∧ StoreAt K mg H k S R v ∧ Thing K H x n ∧
  ((∀ m, x = .int m → m ∉ v.kv.ns) → ∀ H', Same H H' → E (.ref (cls mg "NotHeld")) none H') ∧
  (∀ (i : Nat) (r : Row), v.rows[i]? = some r → x = .int r.n → ∀ p H', Same H H' → StR mg H' R p r.t → Q (.ref p) H')
theorem f_Store__state (T : Txt K mg) : Mo P w K mg base (L2.CX P w) lv_Store__state "Store" "state" pm_Store__state (sp_Store__state K mg) := by
  obtain ⟨f, fd, F, g, b⟩ := T.m_Store__state.ex
  refine ⟨f, fd, g, b, F.okX sc_Store__state (fun vs H Q E h => ?_) (fun cdv A outer s H vs Q E hr h => ?_)⟩
  · obtain ⟨k, S, R, v, x, n, rfl, _⟩ := h; rfl
  · obtain ⟨k, S, R, v, x, n, rfl, hSt, hx, q1, q2⟩ := h
    have hu := hu_of hr
    refine ⟨_, (pss_cons (ps_expr (pe_fn (f_look_held T) (hr.mono (by decide)) (by rfl) (passX (takes_of rfl rfl rfl rfl)) (pa_cons (pv 0) (pa_cons (pv 1) pa_nil))))
      (pss_one (ps_ret (pe_dget hu (pe_fld (pv 0) rfl) (pv 1) (fun _ _ => rfl))))), ?_⟩
    obtain ⟨W, F, S0, kvs, rfl, hK, hWF, hW, hF, hSh⟩ := hSt.at_
    with_reducible refine seq_k fun K_ hK_ => ?_
    walk_at "ru"
    refine ⟨"Store", _, k, S0, v.kv, x, n, rfl, hK, hx, q1, fun m e hm H1 s1 => ?_⟩
    subst e
    obtain ⟨i, r, hri, rfl⟩ := find_row hm
    obtain ⟨dx, ra, N, Pn, rfl, hNP, hk, hR, hN, hP⟩ := (hK.same s1).at_
    have kc := hK.kc
    have sc := hSt.sc
    have nd := hSt.nd
    obtain ⟨p, hv, hp⟩ := hSh.val nd r (mem_of_get hri)
    walk_at "ru"
    subst hK_
    first | with_reducible refine seq_k fun K_ hK_ => ?_ | skip
    walk_at "ru"
    refine ⟨_, dx, _, hk, kc.o.cl, sc.ns, _, sf_shelf, F, rfl, _, dget_i (s1 _ _ hF) hv, ?_⟩
    exact q2 i r hri rfl p H1 s1 (hp.step (T := []) (.of s1) (fun _ _ => by simp))
abbrev nm_Store__chain : List Str := ["self", "night"]
abbrev pm_Store__chain : List Str := ["self", "night"]
abbrev lv_Store__chain : Nat := 3
theorem sc_Store__chain : FnScope nm_Store__chain pm_Store__chain (defScope s_Store__chain) := ⟨rfl, rfl, rfl, by decide +kernel, rfl, by decide +kernel, by decide +kernel⟩
def sp_Store__chain (K : PySem.W.Frag) (mg : Str → Option Value) : Sp := fun vs H Q E => ∃ (k : Addr) (S R : List Addr) (v : SV) (x : V) (n : String), vs = [.ref k, x] ∧ StoreAt K mg H k S R v ∧ Thing K H x n ∧
  ((∀ m, x = .int m → m ∉ v.kv.ns) → ∀ H', Same H H' → E (.ref (cls mg "NotHeld")) none H') ∧
  (∀ (i : Nat) (r : Row), v.rows[i]? = some r → x = .int r.n → ∀ l H', Same H H' → H l = none → H' l = some (.lst ((chn v.rows i).map V.int)) → Q (.ref l) H')
theorem f_Store__chain (T : Txt K mg) : Mo P w K mg base (L2.CX P w) lv_Store__chain "Store" "chain" pm_Store__chain (sp_Store__chain K mg) := by
  obtain ⟨f, fd, F, g, b⟩ := T.m_Store__chain.ex
  refine ⟨f, fd, g, b, F.okX sc_Store__chain (fun vs H Q E h => ?_) (fun cdv A outer s H vs Q E hr h => ?_)⟩
  · obtain ⟨k, S, R, v, x, n, rfl, _⟩ := h; rfl
  · obtain ⟨k, S, R, v, x, n, rfl, hSt, hx, q1, q2⟩ := h
    have hu := hu_of hr
    refine ⟨_, (pss_cons (ps_expr (pe_fn (f_look_held T) (hr.mono (by decide)) (by rfl) (passX (takes_of rfl rfl rfl rfl)) (pa_cons (pv 0) (pa_cons (pv 1) pa_nil))))
      (pss_one (ps_ret (pe_fn (f_chain_of T) (hr.mono (by decide)) (by rfl) pass0 (pa_cons (pv 0) (pa_cons (pv 1) pa_nil)))))), ?_⟩
    obtain ⟨W, F, S0, kvs, rfl, hK, hWF, hW, hF, hSh⟩ := hSt.at_
    with_reducible refine seq_k fun K_ hK_ => ?_
    walk_at "ru"
    refine ⟨"Store", _, k, S0, v.kv, x, n, rfl, hK, hx, q1, fun m e hm H1 s1 => ?_⟩
    subst e
    obtain ⟨i, r, hri, rfl⟩ := find_row hm
    walk_at "ru"
    subst hK_
    first | with_reducible refine seq_k fun K_ hK_ => ?_ | skip
    walk_at "ru"
    exact ⟨k, _, R, v, i, r, rfl, hSt.same s1, hri, fun l H2 s2 nl hl => q2 i r hri rfl l H2 (s1.trans s2) (s1.free nl) hl⟩
def onV : Option Int → V
  | none => .non
  | some i => .int i
/-- triples of copies: behind the first i rows -/
def CpAt (H : Hp) (rs : Rows) : List V → Nat → Prop := fun xs i => xs.length = i ∧ ∀ j x, xs[j]? = some x → ∃ q r, x = .ref q ∧ rs[j]? = some r ∧ H q = some (.tup [.int r.n, onV (onR rs j), .int (szR rs j)])
theorem CpAt.tups {H H' : Hp} (h : ∀ b xs, H b = some (.tup xs) → H' b = some (.tup xs)) {rs : Rows} {xs : List V} {i : Nat} (c : CpAt H rs xs i) : CpAt H' rs xs i :=
  ⟨c.1, fun j x hx => by obtain ⟨q, r, a, b, d⟩ := c.2 j x hx; exact ⟨q, r, a, b, h _ _ d⟩⟩
theorem CpAt.same {H H' : Hp} (s : Same H H') {rs : Rows} {xs : List V} {i : Nat} (c : CpAt H rs xs i) : CpAt H' rs xs i := c.tups fun b xs h => s _ _ h
theorem CpAt.snoc {H : Hp} {rs : Rows} {xs : List V} {i : Nat} {q : Addr} {r : Row} (c : CpAt H rs xs i) (hr : rs[i]? = some r) (hq : H q = some (.tup [.int r.n, onV (onR rs i), .int (szR rs i)])) : CpAt H rs (xs ++ [.ref q]) (i + 1) := by
  refine ⟨by simp [c.1], fun j x hx => ?_⟩
  by_cases cj : j < xs.length
  · rw [List.getElem?_append_left cj] at hx
    exact c.2 j x hx
  · have := lt_of_get hx
    rw [List.length_append, List.length_singleton] at this
    have e : j = i := by have := c.1; omega
    subst e
    rw [List.getElem?_append_right (by omega), c.1, Nat.sub_self] at hx
    cases hx
    exact ⟨q, r, rfl, hr, hq⟩
abbrev nm_Store__copies : List Str := ["self", "found", "ahead", "night"]
abbrev pm_Store__copies : List Str := ["self"]
abbrev lv_Store__copies : Nat := 5
theorem sc_Store__copies : FnScope nm_Store__copies pm_Store__copies (defScope s_Store__copies) := ⟨rfl, rfl, rfl, by decide +kernel, rfl, by decide +kernel, by decide +kernel⟩
def sp_Store__copies (K : PySem.W.Frag) (mg : Str → Option Value) : Sp := fun vs H Q _ => ∃ (k : Addr) (S R : List Addr) (v : SV), vs = [.ref k] ∧ StoreAt K mg H k S R v ∧
  ∀ l xs H', Same H H' → H l = none → H' l = some (.lst xs) → CpAt H' v.rows xs v.rows.length → Q (.ref l) H'
def iv_copies (k l : Addr) (rs : Rows) (H0 : Hp) (i : Nat) (σ : L2.St) (H : Hp) : Prop :=
  (∃ y, σ = [some (.ref k), some (.ref l), some (onV (if i = 0 then none else rs[i - 1]?.map Row.n)), y]) ∧ Same H0 H ∧ ∃ xs, H l = some (.lst xs) ∧ CpAt H rs xs i
theorem f_Store__copies (T : Txt K mg) : Mo P w K mg base CX0 lv_Store__copies "Store" "copies" pm_Store__copies (sp_Store__copies K mg) := by
  obtain ⟨f, fd, F, g, b⟩ := T.m_Store__copies.ex
  refine ⟨f, fd, g, b, F.ok sc_Store__copies (fun vs H Q E h => ?_) (fun cdv A outer s H vs Q E hr h => ?_)⟩
  · obtain ⟨k, S, R, v, rfl, _⟩ := h; rfl
  · obtain ⟨k, S, R, v, rfl, hSt, q⟩ := h
    have hu := hu_of hr
    refine ⟨_, (pss_cons (ps_set (i := 1) sc_Store__copies.nd rfl (.inl rfl) (pe_lst pa_nil))
      (pss_cons (ps_set (i := 2) sc_Store__copies.nd rfl (.inl rfl) pe_non)
      (pss_cons (ps_for PassesOwn.never rfl (pi_list (pe_fld (pv 0) rfl)) (pg_name (i := 3) sc_Store__copies.nd rfl (Or.inl rfl)) (pss_cons (ps_expr (pe_bm PySem.F.plainAttrs_list PySem.F.slot_list_append PySem.F.type_list_append mt_append (pv 1) (pa_cons (pe_tup (pa_cons (pv 3) (pa_cons (pe_ifExp (pt_val (pe_dget hu (pe_fld (pv 0) rfl) (pv 3) (fun _ _ => rfl))) pe_non (pv 2)) (pa_cons (pe_callB (cr_lenE T.o_State (f_State____len__ T) (hr.mono (by decide)) pass0) (by rfl) T.b_len PySem.boot_len (pa_cons (pe_fn (f_copy_of T) (hr.mono (by decide)) (by rfl) pass0 (pa_cons (pv 0) (pa_cons (pv 3) pa_nil))) pa_nil)) pa_nil)))) pa_nil)))
      (pss_one (ps_set (i := 2) sc_Store__copies.nd rfl (.inl rfl) (pv 3)))))
      (pss_one (ps_ret (pv 1)))))), ?_⟩
    obtain ⟨W, F, S0, kvs, rfl, hK, hWF, hW, hF, hSh⟩ := hSt.at_
    obtain ⟨dx, ra, N, Pn, rfl, hNP, hk, hR, hN, hP⟩ := hK.at_
    have kc := hK.kc
    have sc := hSt.sc
    have nd := hSt.nd
    have hn100 : v.kv.ns.length ≤ 100 := hK.n100
    have hrl : v.kv.ns.length = v.rows.length := List.length_map _
    with_reducible refine seq_k fun K_ hK_ => ?_
    walk_at "ru"
    intro l n_l
    generalize hG_ : upd _ l _ = H1
    obtain ⟨s1, hl⟩ := newF n_l hG_
    clear hG_
    walk_at "ru"
    subst hK_
    first | with_reducible refine seq_k fun K_ hK_ => ?_ | skip
    walk_at "ru"
    walk_at "ru"
    subst hK_
    first | with_reducible refine seq_k fun K_ hK_ => ?_ | skip
    walk_at "ru"
    refine ⟨_, dx, _, s1 _ _ hk, kc.o.cl, kc.nn, _, kfs_nights, N, rfl, ⟨_, sqL (s1 _ _ hN)⟩, ?_⟩
    refine for_it (walk_list (xs := v.kv.ns.map V.int)) (iv_copies k l v.rows H) ⟨⟨_, rfl⟩, s1, [], hl, rfl, fun j x hx => by simp at hx⟩ (fun i σ H2 _ iv => sqL (iv.2.1 _ _ hN)) (fun i x σ H2 H3 hi iv hy => ?_) (fun σ H2 iv => ?_)
    · obtain ⟨⟨y, rfl⟩, s3, xs, hl3, hC⟩ := iv
      obtain ⟨rfl, hy⟩ := hy
      obtain ⟨r, hri⟩ := row_lt (rs := v.rows) (i := i) (by simp at hi; omega)
      rw [show v.kv.ns = v.rows.map Row.n from rfl, row_nn hri] at hy
      cases hy
      have hSt3 := hSt.same s3
      have hk3 := s3 _ _ hk
      have hxl := hC.1
      have hi' := lt_of_get hri
      walk_at "ru"
      with_reducible refine seq_k fun K_ hK_ => ?_
      walk_at "ru"
      refine ⟨tyL hl3, _, dx, _, hk3, kc.o.cl, sc.nw, _, sf_wholes, W, rfl, _, dget_i (s3 _ _ hW) (whK_val nd r (mem_of_get hri)), _, rfl, ?_⟩
      have hon : onR v.rows i = if r.w = true then none else v.rows[i - 1]?.map Row.n := by unfold onR; rw [hri]
      have hszr : szR v.rows i = if r.w = true then r.t.length else (part ((v.rows[i - 1]?.map Row.t).getD []) r.t).length := by unfold szR; rw [hri]
      have fin : ∀ (q1 : Addr) (H4 H5 : Hp), Same H3 H4 → H4 q1 = none → Same H4 H5 → H5 q1 = some (.tup [.int r.n, onV (onR v.rows i), .int (szR v.rows i)]) → rAppend (.ref l) [.ref q1] H5 fun x H1 => K_ [some (V.ref k), some (V.ref l), some (onV (if i = 0 then none else v.rows[i - 1]?.map Row.n)), some (V.int r.n)] H1 := by
        intro q1 H4 H5 s4 n1 s5 hq1
        have hl5 := (s4.trans s5) _ _ hl3
        refine appR hl5 (by omega) ?_
        generalize hG : upd H5 l _ = H6
        have b6 : But l H5 H6 := by rw [← hG]; exact But.upd
        have hl6 : H6 l = some (.lst (xs ++ [.ref q1])) := by rw [← hG]; exact upd_same
        have s06 : Same H H6 := by rw [← hG]; exact Same.app ((s3.trans s4).trans s5) n_l
        clear hG
        walk_at "ru"
        subst hK_
        first | with_reducible refine seq_k fun K_ hK_ => ?_ | skip
        walk_at "ru"
        refine ⟨⟨some (.int r.n), ?_⟩, s06, _, hl6, ?_⟩
        · rw [if_neg (by omega), Nat.add_sub_cancel, hri]
          rfl
        · exact ((hC.same (s4.trans s5)).snoc hri hq1).tups fun b ys h => b6 _ _ h (ne_of h hl5 (by intro z; cases z))
      clear hK_
      cases hw : r.w with
      | true =>
        rw [if_pos rfl]
        refine ⟨k, _, R, v, i, r, rfl, hSt3, hri, fun _ p hp => .inl (len_st hp ?_), fun z => by rw [hw] at z; cases z⟩
        intro q1 n_q1
        generalize hG_ : upd _ q1 _ = H4
        obtain ⟨s4, hq1⟩ := newF n_q1 hG_
        clear hG_
        refine fin q1 H3 H4 (Same.refl _) n_q1 s4 ?_
        rw [hon, hszr, if_pos hw, if_pos hw]
        exact hq1
      | false =>
        rw [if_neg (by simp)]
        obtain ⟨h1i, r', hr'⟩ := hSt.val.part hri hw
        refine ⟨k, _, R, v, i, r, rfl, hSt3, hri, (fun z => by rw [hw] at z; cases z), fun _ r2 pl H4 hr2 s4 npl hpl => ?_⟩
        obtain ⟨zs, hzs, hpz⟩ := hpl
        refine .inr ⟨pl, zs, rfl, .inl (sqL hzs), ?_⟩
        rw [hpz.len]
        intro q1 n_q1
        generalize hG_ : upd _ q1 _ = H5
        obtain ⟨s5, hq1⟩ := newF n_q1 hG_
        clear hG_
        refine fin q1 H4 H5 s4 n_q1 s5 ?_
        rw [hon, hszr, if_neg (by rw [hw]; simp), if_neg (by rw [hw]; simp), hr2]
        rw [if_neg (by omega), hr2] at hq1
        exact hq1
    · obtain ⟨⟨y, rfl⟩, s3, xs, hl3, hC⟩ := iv
      rw [List.length_map, hrl] at hC
      walk_at "ru"
      subst hK_
      first | with_reducible refine seq_k fun K_ hK_ => ?_ | skip
      walk_at "ru"
      exact q l xs H2 s3 n_l hl3 hC
def roomR (rs : Rows) : Int := ((List.range rs.length).map fun i => ((szR rs i : Nat) : Int)).sum
abbrev nm_Store__room : List Str := ["self", "night", "ahead", "size"]
abbrev pm_Store__room : List Str := ["self"]
abbrev lv_Store__room : Nat := 6
theorem sc_Store__room : FnScope nm_Store__room pm_Store__room (defScope s_Store__room) := ⟨rfl, rfl, rfl, by decide +kernel, rfl, by decide +kernel, by decide +kernel⟩
def sp_Store__room (K : PySem.W.Frag) (mg : Str → Option Value) : Sp := fun vs H Q _ => ∃ (k : Addr) (S R : List Addr) (v : SV), vs = [.ref k] ∧ StoreAt K mg H k S R v ∧ ∀ H', Same H H' → Q (.int (roomR v.rows)) H'
theorem f_Store__room (T : Txt K mg) : Mo P w K mg base CX0 lv_Store__room "Store" "room" pm_Store__room (sp_Store__room K mg) := by
  obtain ⟨f, fd, F, g, b⟩ := T.m_Store__room.ex
  refine ⟨f, fd, g, b, F.ok sc_Store__room (fun vs H Q E h => ?_) (fun cdv A outer s H vs Q E hr h => ?_)⟩
  · obtain ⟨k, S, R, v, rfl, _⟩ := h; rfl
  · obtain ⟨k, S, R, v, rfl, hSt, q⟩ := h
    have hu := hu_of hr
    refine ⟨_, (pss_one (ps_ret (pe_callB (cr_sum rfl) (by rfl) T.b_sum (by decide +kernel) (pa_cons (pe_lc (own := [("night", 1), ("ahead", 2), ("size", 3)]) (g := gTup K 3 (gCons (gName 1) (gCons (gName 2) (gCons (gName 3) (gNil))))) (tt := tYes) (by rfl) sc_Store__room.nd (pi_list (pe_me0 (pv 0) T.o_Store (f_Store__copies T) (hr.mono (by decide)) pass0)) (blkOk_by (own := [("night", 1), ("ahead", 2), ("size", 3)]) (N := nm_Store__room) (sc := defScope s_Store__room) (by decide +kernel)) (fun _ _ _ _ _ => (pg_tupK K rfl rfl (pgs_cons (pg_name (i := 1) sc_Store__room.nd rfl (Or.inl rfl)) (pgs_cons (pg_name (i := 2) sc_Store__room.nd rfl (Or.inl rfl)) (pgs_cons (pg_name (i := 3) sc_Store__room.nd rfl (Or.inl rfl)) pgs_nil))))) (fun _ _ _ _ _ => pts_nil) (fun _ _ _ _ _ => (pv 3))) pa_nil)))), ?_⟩
    obtain ⟨W, F, S0, kvs, rfl, hK, hWF, hW, hF, hSh⟩ := hSt.at_
    obtain ⟨dx, ra, N, Pn, rfl, hNP, hk, hR, hN, hP⟩ := hK.at_
    have hn100 : v.kv.ns.length ≤ 100 := hK.n100
    have hrl : v.kv.ns.length = v.rows.length := List.length_map _
    walk_at "ru"
    refine ⟨dx, _, hk, rfl, k, _, R, v, rfl, hSt, fun l xs H1 s1 nl hl hC => ?_⟩
    refine ⟨l, rfl, ⟨_, sqL hl⟩, fun D hD => ?_⟩
    refine lcL hD (sqL hl) (fun j => ((List.range j).map fun i => ((szR v.rows i : Nat) : Int)).map V.int) rfl (fun j x H2 hx pv => ?_) (fun H2 s2 hD2 => ?_)
    · obtain ⟨q1, r, rfl, hr1, hq1⟩ := hC.2 j x hx
      have := lt_of_get hr1
      refine ⟨q1, _, rfl, sqT (pv.same _ _ hq1), rfl, ?_⟩
      walk_at "ru"
      refine pv.push hD (by simp; omega) (Same.refl _) (by simp only [List.range_succ, List.map_append]; rfl)
    · rw [hC.1] at hD2
      exact ⟨D, _, rfl, sqL hD2, q H2 (s1.trans s2)⟩
end
end Nk
namespace Nk
open PySem L2
section
variable {P : Program} {w : World} {K : PySem.W.Frag} {mg : Str → Option Value} {base : Heap}
/-- the law's keep: held, pinned, last -/
structure MdAt (H : Hp) (M : Addr) (S : List Addr) (v : KV) : Prop where
  at_ : ∃ (A B : Addr), S = [M, A, B] ∧ A ≠ B ∧ H M = some (.lst [.ref A, .ref B, lastV v.last]) ∧ H A = some (.lst (v.ns.map V.int)) ∧ H B = some (.lst (v.ps.map V.int))
theorem MdAt.step {H H' : Hp} {M : Addr} {S T : List Addr} {v : KV} (h : MdAt H M S v) (s : Step T H H') (n : ∀ b ∈ S, b ∉ T) : MdAt H' M S v := by
  obtain ⟨A, B, rfl, hAB, hM, hA, hB⟩ := h.at_
  exact ⟨A, B, rfl, hAB, s.keep _ _ hM (n _ (by simp)), s.keep _ _ hA (n _ (by simp)), s.keep _ _ hB (n _ (by simp))⟩
theorem MdAt.same {H H' : Hp} {M : Addr} {S : List Addr} {v : KV} (h : MdAt H M S v) (s : Same H H') : MdAt H' M S v := h.step (T := []) (.of s) (fun _ _ => by simp)
theorem md_neA {A B C : Addr} {l : V} {ns : List Int} {H : Hp} {M : Addr} (hM : H M = some (.lst [.ref A, .ref B, l])) (hA : H C = some (.lst (ns.map V.int))) : C ≠ M := fun e => by
  rw [e, hM] at hA
  cases ns with
  | nil => cases hA
  | cons n ns => cases hA
theorem MdAt.out {H : Hp} {M p : Addr} {S : List Addr} {v : KV} (h : MdAt H M S v) (hp : H p = none) : p ∉ S := by
  obtain ⟨A, B, rfl, hAB, hM, hA, hB⟩ := h.at_
  have h1 := ne_of_none hM hp
  have h2 := ne_of_none hA hp
  have h3 := ne_of_none hB hp
  simp [Ne.symm h1, Ne.symm h2, Ne.symm h3]
theorem KeepAt.out {c : Str} {ex : List (Str × V)} {H : Hp} {k p : Addr} {S : List Addr} {v : KV} (h : KeepAt K mg c ex H k S v) (hp : H p = none) : p ∉ S := by
  obtain ⟨dx, r, N, Pn, rfl, hNP, hk, hR, hN, hP⟩ := h.at_
  have h1 := ne_of_none hk hp
  have h2 := ne_of_none hN hp
  have h3 := ne_of_none hP hp
  simp [Ne.symm h1, Ne.symm h2, Ne.symm h3]
/-- nothing is taken away -/
def Grow (H H' : Hp) : Prop := ∀ b, H' b = none → H b = none
/-- what a deed tells -/
inductive Rs where
  | rf (j : Nat)
  | non
  | lst (l : List Int)
  | int (i : Int)
def insP (m : Int) (ps : List Int) : List Int := ps.filter (fun z => decide (z < m)) ++ m :: ps.filter (fun z => decide (m < z))
theorem mem_insP {m z : Int} {ps : List Int} : z ∈ insP m ps ↔ z ∈ ps ∨ z = m := by
  unfold insP
  simp only [List.mem_append, List.mem_cons, List.mem_filter, decide_eq_true_eq]
  constructor
  · rintro (⟨h, _⟩ | h | ⟨h, _⟩)
    · exact .inl h
    · exact .inr h
    · exact .inl h
  · rintro (h | h)
    · by_cases c : z < m
      · exact .inl ⟨h, c⟩
      · by_cases c2 : z = m
        · exact .inr (.inl c2)
        · exact .inr (.inr ⟨h, by omega⟩)
    · exact .inr (.inl h)
theorem insP_rise {m : Int} {ps : List Int} (h : ps.Pairwise (· < ·)) : (insP m ps).Pairwise (· < ·) := by
  unfold insP
  rw [List.pairwise_append]
  refine ⟨h.filter _, List.pairwise_cons.mpr ⟨fun z hz => ?_, h.filter _⟩, fun a ha b hb => ?_⟩
  · simpa using (List.mem_filter.mp hz).2
  · have h1 : a < m := by simpa using (List.mem_filter.mp ha).2
    rcases List.mem_cons.mp hb with rfl | hb
    · exact h1
    · have h2 : m < b := by simpa using (List.mem_filter.mp hb).2
      omega
def oldD (v : KV) (m : Int) : Bool := match v.last with
  | some l => decide (m ≤ l)
  | none => false
def takeD (v : KV) (x : V) : Rs × KV := match x with
  | .int m => if 0 ≤ m ∧ m ≤ 1000000000 then (if oldD v m = true then (.rf 5, v) else if 100 ≤ v.ns.length then (.rf 6, v) else (.non, { v with ns := v.ns ++ [m], last := some m })) else (.rf 1, v)
  | _ => (.rf 1, v)
def pinD (v : KV) (x : V) : Rs × KV := match x with
  | .int m => if m ∈ v.ns then (if m ∈ v.ps then (.rf 8, v) else (.non, { v with ps := insP m v.ps })) else (.rf 7, v)
  | _ => (.rf 7, v)
def unpinD (v : KV) (x : V) : Rs × KV := match x with
  | .int m => if m ∈ v.ps then (.non, { v with ps := v.ps.filter fun z => decide (z ≠ m) }) else (.rf 9, v)
  | _ => (.rf 9, v)
theorem oldD_f {v : KV} {m : Int} (h : ∀ l, v.last = some l → l < m) : oldD v m = false := by
  unfold oldD
  cases e : v.last with
  | none => rfl
  | some l => have := h l e; simp; omega
theorem oldD_t {v : KV} {m l : Int} (h : v.last = some l) (h2 : m ≤ l) : oldD v m = true := by
  unfold oldD
  rw [h]
  simpa using h2
theorem take_bad {v : KV} {x : V} (h : isNumV x 0 (.int 1000000000) = false) : takeD v x = (.rf 1, v) := by
  cases x with
  | int m => simp only [takeD]; rw [if_neg]; simpa [isNumV] using h
  | _ => rfl
theorem take_old {v : KV} {m l : Int} (h0 : 0 ≤ m) (h1 : m ≤ 1000000000) (h : v.last = some l) (h2 : m ≤ l) : takeD v (.int m) = (.rf 5, v) := by
  simp only [takeD]; rw [if_pos ⟨h0, h1⟩, if_pos (oldD_t h h2)]
theorem take_full {v : KV} {m : Int} (h0 : 0 ≤ m) (h1 : m ≤ 1000000000) (h : ∀ l, v.last = some l → l < m) (h2 : 100 ≤ v.ns.length) : takeD v (.int m) = (.rf 6, v) := by
  simp only [takeD]; rw [if_pos ⟨h0, h1⟩, if_neg (by rw [oldD_f h]; exact Bool.false_ne_true), if_pos h2]
theorem take_ok {v : KV} {m : Int} (h0 : 0 ≤ m) (h1 : m ≤ 1000000000) (h : ∀ l, v.last = some l → l < m) (h2 : v.ns.length < 100) : takeD v (.int m) = (.non, { v with ns := v.ns ++ [m], last := some m }) := by
  simp only [takeD]; rw [if_pos ⟨h0, h1⟩, if_neg (by rw [oldD_f h]; exact Bool.false_ne_true), if_neg (by omega)]
theorem pin_bad {v : KV} {x : V} (h : ∀ m, x = .int m → m ∉ v.ns) : pinD v x = (.rf 7, v) := by
  cases x with
  | int m => simp only [pinD]; rw [if_neg (h m rfl)]
  | _ => rfl
theorem pin_old {v : KV} {m : Int} (h : m ∈ v.ns) (h2 : m ∈ v.ps) : pinD v (.int m) = (.rf 8, v) := by
  simp only [pinD]; rw [if_pos h, if_pos h2]
theorem pin_ok {v : KV} {m : Int} (h : m ∈ v.ns) (h2 : m ∉ v.ps) : pinD v (.int m) = (.non, { v with ps := insP m v.ps }) := by
  simp only [pinD]; rw [if_pos h, if_neg h2]
theorem unpin_bad {v : KV} {x : V} (h : ∀ m, x = .int m → m ∉ v.ps) : unpinD v x = (.rf 9, v) := by
  cases x with
  | int m => simp only [unpinD]; rw [if_neg (h m rfl)]
  | _ => rfl
theorem unpin_ok {v : KV} {m : Int} (h : m ∈ v.ps) : unpinD v (.int m) = (.non, { v with ps := v.ps.filter fun z => decide (z ≠ m) }) := by
  simp only [unpinD]; rw [if_pos h]
/-- take, let go, pin, unpin -/
def deed (v : KV) (kind : Int) (x : V) : Rs × KV := if kind = 0 then takeD v x else if kind = 1 then (.lst (goneK v), { v with ns := leftK v }) else if kind = 2 then pinD v x else unpinD v x
theorem deed0 {v : KV} {x : V} : deed v 0 x = takeD v x := rfl
theorem deed1 {v : KV} {x : V} : deed v 1 x = (.lst (goneK v), { v with ns := leftK v }) := rfl
theorem deed2 {v : KV} {x : V} : deed v 2 x = pinD v x := rfl
theorem deed3 {v : KV} {x : V} : deed v 3 x = unpinD v x := rfl
/-- a pair that tells r -/
def DueAt (H : Hp) (p : Addr) : Rs → Prop
  | .rf j => H p = some (.tup [.str "refused", .int j])
  | .non => H p = some (.tup [.str "found", .non])
  | .lst l => ∃ q, H p = some (.tup [.str "found", .ref q]) ∧ H q = some (.lst (l.map V.int))
  | .int i => H p = some (.tup [.str "found", .int i])
theorem DueAt.same {H H' : Hp} {p : Addr} {r : Rs} (h : DueAt H p r) (s : Same H H') : DueAt H' p r := by
  cases r with
  | rf j => exact s _ _ h
  | non => exact s _ _ h
  | lst l => obtain ⟨q, h1, h2⟩ := h; exact ⟨q, s _ _ h1, s _ _ h2⟩
  | int i => exact s _ _ h
def dueD : Rs → PyData
  | .rf j => .tuple [.str "refused", .int j]
  | .non => .tuple [.str "found", .none]
  | .lst l => .tuple [.str "found", dLI l]
  | .int i => .tuple [.str "found", .int i]
theorem due_dp {H : Hp} {p : Addr} {r : Rs} (h : DueAt H p r) : Dp K H (.ref p) (dueD r) := by
  cases r with
  | rf j => exact .tup (sqT h) (.cons (.str _) (.cons (.int _) .nil))
  | non => exact .tup (sqT h) (.cons (.str _) (.cons .non .nil))
  | lst l => obtain ⟨q, h1, h2⟩ := h; exact .tup (sqT h1) (.cons (.str _) (.cons (dp_LI (sqL h2)) .nil))
  | int i => exact .tup (sqT h) (.cons (.str _) (.cons (.int _) .nil))
theorem found_ok : PyData.strOk "found" = true := by decide +kernel
theorem refused_ok : PyData.strOk "refused" = true := by decide +kernel
theorem due_gd {r : Rs} : gd 3 (dueD r) = true := by
  cases r with
  | rf j => simp [dueD, gd, refused_ok]
  | non => simp [dueD, gd, found_ok]
  | lst l =>
    show ([PyData.str "found", dLI l].all (gd 2)) = true
    rw [List.all_cons, List.all_cons, gd_dLI (k := 1)]
    simp [gd, found_ok]
  | int i => simp [dueD, gd, found_ok]
end
end Nk
namespace Nk
open PySem L2
section
variable {P : Program} {w : World} {K : PySem.W.Frag} {mg : Str → Option Value} {base : Heap}
/-- what of a store is no heap -/
structure PV (v : SV) : Prop where
  rise : (v.rows.map Row.n).Pairwise (· < ·)
  bnd : ∀ n ∈ v.rows.map Row.n, 0 ≤ n ∧ n ≤ 1000000000
  lst : ∀ n ∈ v.rows.map Row.n, ∃ l, v.last = some l ∧ n ≤ l
  lb : ∀ l, v.last = some l → 0 ≤ l ∧ l ≤ 1000000000
  n100 : v.rows.length ≤ 100
  prise : v.ps.Pairwise (· < ·)
  psub : ∀ n ∈ v.ps, n ∈ v.rows.map Row.n
  val : Val v.deep v.rows
  d1 : 1 ≤ v.deep
  d10 : v.deep ≤ 10
theorem PV.nd {v : SV} (h : PV v) : (v.rows.map Row.n).Nodup := rise_nodup h.rise
theorem PV.p100 {v : SV} (h : PV v) : v.ps.length ≤ 100 := by
  have := nodup_len _ _ (rise_nodup h.prise) h.psub
  rw [List.length_map] at this
  have := h.n100
  omega
theorem StoreAt.pv {H : Hp} {k : Addr} {S R : List Addr} {v : SV} (h : StoreAt K mg H k S R v) : PV v := by
  obtain ⟨W, F, S0, kvs, rfl, hK, _⟩ := h.at_
  have hrl : v.kv.ns.length = v.rows.length := List.length_map _
  have := hK.n100
  exact ⟨hK.rise, hK.bnd, hK.lst, hK.lb, by omega, hK.prise, hK.psub, h.val, h.d1, h.d10⟩
/-- a dict of nights with tables that never change -/
def TbAt (H : Hp) (R : List Addr) : List (Key × V) → Rows → Prop
  | [], [] => True
  | kv :: kvs, r :: rs => (kv.1 = Sum.inl r.n ∧ ∃ d, kv.2 = .ref d ∧ d ∈ R ∧ H d = some (.dK (kvsT r.t)) ∧ OkT r.t ∧ r.t.length ≤ 20) ∧ TbAt H R kvs rs
  | _, _ => False
theorem TbAt.map {H H' : Hp} {R R' : List Addr} (f : ∀ d t, d ∈ R → H d = some (.dK (kvsT t)) → d ∈ R' ∧ H' d = some (.dK (kvsT t))) : ∀ {kvs : List (Key × V)} {rs : Rows}, TbAt H R kvs rs → TbAt H' R' kvs rs
  | [], [], _ => trivial
  | kv :: kvs, r :: rs, ⟨⟨e, p, e2, h1, h2, h3⟩, z⟩ => ⟨⟨e, p, e2, (f _ _ h1 h2).1, (f _ _ h1 h2).2, h3⟩, TbAt.map f z⟩
theorem TbAt.step {H H' : Hp} {R T : List Addr} {kvs : List (Key × V)} {rs : Rows} (h : TbAt H R kvs rs) (s : Step T H H') (n : ∀ b ∈ R, b ∉ T) : TbAt H' R kvs rs := h.map fun _ _ z h => ⟨z, s.keep _ _ h (n _ z)⟩
theorem TbAt.len {H : Hp} {R : List Addr} : ∀ {kvs : List (Key × V)} {rs : Rows}, TbAt H R kvs rs → kvs.length = rs.length
  | [], [], _ => rfl
  | kv :: kvs, r :: rs, ⟨_, z⟩ => by simp [TbAt.len z]
theorem TbAt.app {H : Hp} {R : List Addr} : ∀ {kvs ls : List (Key × V)} {rs qs : Rows}, TbAt H R kvs rs → TbAt H R ls qs → TbAt H R (kvs ++ ls) (rs ++ qs)
  | [], _, [], _, _, h => h
  | kv :: kvs, _, r :: rs, _, ⟨a, z⟩, h => ⟨a, TbAt.app z h⟩
theorem TbAt.val {H : Hp} {R : List Addr} : ∀ {kvs : List (Key × V)} {rs : Rows}, TbAt H R kvs rs → (rs.map Row.n).Nodup → ∀ r ∈ rs, ∃ d, valV kvs (Sum.inl r.n) = some (.ref d) ∧ d ∈ R ∧ H d = some (.dK (kvsT r.t)) ∧ OkT r.t ∧ r.t.length ≤ 20
  | [], [], _, _, r, h => nomatch h
  | (k, v) :: kvs, r0 :: rs, ⟨⟨e, p, e2, h⟩, z⟩, nd, r, hr => by
    have e : k = Sum.inl r0.n := e
    have e2 : v = .ref p := e2
    subst e e2
    rw [List.map_cons, List.nodup_cons] at nd
    rcases List.mem_cons.mp hr with c | c
    · subst c
      exact ⟨p, valV_pos rfl, h⟩
    · have hne : ¬ (Sum.inl r0.n : Key) = Sum.inl r.n := fun z => nd.1 (by rw [Sum.inl.inj z]; exact List.mem_map.mpr ⟨r, c, rfl⟩)
      obtain ⟨p', h1, h2⟩ := TbAt.val z nd.2 r c
      exact ⟨p', by rw [valV_neg hne]; exact h1, h2⟩
theorem TbAt.valN {H : Hp} {R : List Addr} {n : Int} : ∀ {kvs : List (Key × V)} {rs : Rows}, TbAt H R kvs rs → n ∉ rs.map Row.n → valV kvs (Sum.inl n) = none
  | [], [], _, _ => rfl
  | (k, v) :: kvs, r0 :: rs, ⟨⟨e, _⟩, z⟩, h => by
    have e : k = Sum.inl r0.n := e
    subst e
    rw [List.map_cons, List.mem_cons, not_or] at h
    rw [valV_neg (fun z => h.1 (Sum.inl.inj z).symm)]
    exact TbAt.valN z h.2
theorem TbAt.drop {H : Hp} {R : List Addr} {n : Int} : ∀ {kvs : List (Key × V)} {rs : Rows}, TbAt H R kvs rs → TbAt H R (dropK kvs (Sum.inl n)) (rs.filter fun r => decide (r.n ≠ n))
  | [], [], _ => trivial
  | (k, v) :: kvs, r0 :: rs, ⟨⟨e, p, e2, h⟩, z⟩ => by
    have e : k = Sum.inl r0.n := e
    subst e
    by_cases c : r0.n = n
    · rw [dropK_pos (by rw [c]), List.filter_cons_of_neg (by simpa using c)]
      exact TbAt.drop z
    · rw [dropK_neg (fun z => c (Sum.inl.inj z)), List.filter_cons_of_pos (by simpa using c)]
      exact ⟨⟨rfl, p, e2, h⟩, TbAt.drop z⟩
theorem TbAt.up {H : Hp} {R : List Addr} : ∀ {kvs : List (Key × V)} {rs rs' : Rows}, TbAt H R kvs rs → rs'.map (fun r => (r.n, r.t)) = rs.map (fun r => (r.n, r.t)) → TbAt H R kvs rs'
  | [], [], [], _, _ => trivial
  | [], [], _ :: _, _, e => nomatch e
  | kv :: kvs, r :: rs, [], _, e => nomatch e
  | kv :: kvs, r :: rs, r' :: rs', ⟨⟨e, p, e2, h⟩, z⟩, eq => by
    rw [List.map_cons, List.map_cons, List.cons.injEq, Prod.mk.injEq] at eq
    exact ⟨⟨by rw [eq.1.1]; exact e, p, e2, by rw [eq.1.2]; exact h⟩, TbAt.up z eq.2⟩
/-- the law's store at X -/
structure SmAt (H : Hp) (X : Addr) (S R : List Addr) (v : SV) : Prop where
  at_ : ∃ (M TD WD A B : Addr) (kvs : List (Key × V)), S = [X, TD, WD, M, A, B] ∧ H X = some (.lst [.ref M, .ref TD, .ref WD]) ∧ H M = some (.lst [.ref A, .ref B, lastV v.last]) ∧ H A = some (.lst ((v.rows.map Row.n).map V.int)) ∧ H B = some (.lst (v.ps.map V.int)) ∧ A ≠ B ∧ H TD = some (.dK kvs) ∧ TbAt H R kvs v.rows ∧ H WD = some (.dK (whK v.rows)) ∧ TD ≠ WD
  ap : ∀ b ∈ S, b ∉ R
  al : ∀ b ∈ R, ∃ o, H b = some o
theorem lastV_ref {l : Option Int} {a : Addr} : lastV l ≠ .ref a := by cases l <;> (intro z; cases z)
theorem sm_XM {H : Hp} {X M M' TD WD A B : Addr} {l : Option Int} (hX : H X = some (.lst [.ref M', .ref TD, .ref WD])) (hM : H M = some (.lst [.ref A, .ref B, lastV l])) : X ≠ M := fun e => by
  rw [e, hM] at hX
  have := HO.lst.inj (Option.some.inj hX)
  exact lastV_ref (List.cons.inj (List.cons.inj (List.cons.inj this).2).2).1
theorem sm_XA {H : Hp} {X M TD WD A : Addr} {ns : List Int} (hX : H X = some (.lst [.ref M, .ref TD, .ref WD])) (hA : H A = some (.lst (ns.map V.int))) : X ≠ A := fun e => by
  rw [e, hA] at hX
  cases ns with
  | nil => cases hX
  | cons n ns => cases hX
theorem SmAt.step {H H' : Hp} {X : Addr} {S R T : List Addr} {v : SV} (h : SmAt H X S R v) (s : Step T H H') (n : ∀ b ∈ S, b ∉ T) (n2 : ∀ b ∈ R, b ∉ T) : SmAt H' X S R v := by
  obtain ⟨M, TD, WD, A, B, kvs, rfl, hX, hM, hA, hB, hAB, hT, hTb, hW, hTW⟩ := h.at_
  exact ⟨⟨M, TD, WD, A, B, kvs, rfl, s.keep _ _ hX (n _ (by simp)), s.keep _ _ hM (n _ (by simp)), s.keep _ _ hA (n _ (by simp)), s.keep _ _ hB (n _ (by simp)), hAB, s.keep _ _ hT (n _ (by simp)), hTb.step s n2, s.keep _ _ hW (n _ (by simp)), hTW⟩, h.ap, fun b hb => let ⟨o, ho⟩ := h.al b hb; ⟨o, s.keep _ _ ho (n2 b hb)⟩⟩
theorem SmAt.same {H H' : Hp} {X : Addr} {S R : List Addr} {v : SV} (h : SmAt H X S R v) (s : Same H H') : SmAt H' X S R v := h.step (T := []) (.of s) (fun _ _ => by simp) (fun _ _ => by simp)
theorem SmAt.more {H : Hp} {X : Addr} {S R R' : List Addr} {v : SV} (h : SmAt H X S R v) (n : ∀ b ∈ R, b ∈ R') (n2 : ∀ b ∈ S, b ∉ R') (n3 : ∀ b ∈ R', ∃ o, H b = some o) : SmAt H X S R' v := by
  obtain ⟨M, TD, WD, A, B, kvs, rfl, hX, hM, hA, hB, hAB, hT, hTb, hW, hTW⟩ := h.at_
  exact ⟨⟨M, TD, WD, A, B, kvs, rfl, hX, hM, hA, hB, hAB, hT, hTb.map fun _ _ z h => ⟨n _ z, h⟩, hW, hTW⟩, n2, n3⟩
end
end Nk
/-! ### what a store's own methods do, for the law's walk -/
namespace Nk
open PySem L2
section
variable {P : Program} {w : World} {K : PySem.W.Frag} {mg : Str → Option Value} {base : Heap}
variable {H H' : Hp} {k : Addr} {S R : List Addr} {v : SV} {Q : VK} {E : XK}
theorem store_at (h : StoreAt K mg H k S R v) : ∃ dx ra N Pn l W F, H k = some (.ins (cls mg "Store") dx (kfs ra N Pn l (sfs v.deep W F))) := by
  obtain ⟨W, F, S0, kvs, rfl, hK, _⟩ := h.at_
  obtain ⟨dx, ra, N, Pn, _, _, hk, _⟩ := hK.at_
  exact ⟨dx, ra, N, Pn, _, W, F, hk⟩
theorem store_keepT {W F : Addr} {S0 S0' : List Addr} {kv : KV} (h : StoreAt K mg H k (W :: F :: S0) R v) (st : Step S0 H H') (ow : Own H S0 S0') (hK : KeepAt K mg "Store" (sfs v.deep W F) H' k S0' kv) (e1 : kv.rus = v.rus) (e2 : kv.ns = v.rows.map Row.n) (e3 : kv.last = v.last) :
    StoreAt K mg H' k (W :: F :: S0') R { v with ps := kv.ps } ∧ Step (W :: F :: S0) H H' ∧ Own H (W :: F :: S0) (W :: F :: S0') := by
  obtain ⟨W', F', S0'', kvs, eS, hK0, hWF, hW, hF, hSh⟩ := h.at_
  cases eS
  have st' : Step (W :: F :: S0) H H' := st.more fun b hb => by simp [hb]
  have ow' : Own H (W :: F :: S0) (W :: F :: S0') := fun b hb => by
    rcases List.mem_cons.mp hb with z | z
    · exact .inl (by simp [z])
    · rcases List.mem_cons.mp z with z | z
      · exact .inl (by simp [z])
      · exact (ow b z).imp (fun z => by simp [z]) id
  have nW : W ∉ S0 ∧ F ∉ S0 := by
    obtain ⟨dx, ra, N, Pn, rfl, hNP, hk, hR, hN, hP⟩ := hK0.at_
    refine ⟨?_, ?_⟩
    · simp [ne_of hW hk (by intro z; cases z), ne_of hW hN (by intro z; cases z), ne_of hW hP (by intro z; cases z)]
    · simp [ne_of hF hk (by intro z; cases z), ne_of hF hN (by intro z; cases z), ne_of hF hP (by intro z; cases z)]
  have apR : ∀ b ∈ R, b ∉ (W :: F :: S0) := fun b hb hm => h.ap b hm hb
  have ap' : ∀ b ∈ W :: F :: S0', b ∉ R := fun b hb hR => by
    rcases ow' b hb with z | z
    · exact h.ap b z hR
    · obtain ⟨o, ho⟩ := h.al b hR
      rw [z] at ho; cases ho
  have ek : SV.kv { v with ps := kv.ps } = kv := by
    obtain ⟨a, b, c, d⟩ := kv
    unfold SV.kv
    simp only at e1 e2 e3
    rw [e1, e2, e3]
  exact ⟨⟨h.sc, ⟨W, F, S0', kvs, rfl, by rw [ek]; exact hK, hWF, st.keep _ _ hW nW.1, st.keep _ _ hF nW.2, hSh.step st' apR⟩, h.val, h.d1, h.d10, ap', fun b hb => let ⟨o, ho⟩ := h.al b hb; ⟨o, st'.keep _ _ ho (apR b hb)⟩⟩, st', ow'⟩
theorem store_held (h : StoreAt K mg H k S R v) (q : ∀ p H', Same H H' → H p = none → H' p = some (.lst ((v.rows.map Row.n).map V.int)) → Q (.ref p) H') : sp_Store__held K mg [.ref k] H Q E := by
  obtain ⟨W, F, S0, kvs, rfl, hK, _⟩ := h.at_
  exact ⟨_, k, S0, v.kv, rfl, hK, q⟩
theorem store_pins (h : StoreAt K mg H k S R v) (q : ∀ p H', Same H H' → H p = none → H' p = some (.lst (v.ps.map V.int)) → Q (.ref p) H') : sp_Store__pins K mg [.ref k] H Q E := by
  obtain ⟨W, F, S0, kvs, rfl, hK, _⟩ := h.at_
  exact ⟨_, k, S0, v.kv, rfl, hK, q⟩
theorem store_pin {m : Int} (h : StoreAt K mg H k S R v) (hm : m ∈ v.rows.map Row.n) (hp : m ∉ v.ps) (q : ∀ H' S' ps', Step S H H' → Own H S S' → StoreAt K mg H' k S' R { v with ps := ps' } → (∀ z, z ∈ ps' ↔ z ∈ v.ps ∨ z = m) → Q .non H') : sp_Store__pin K mg [.ref k, .int m] H Q E := by
  obtain ⟨W, F, S0, kvs, rfl, hK, _⟩ := h.at_
  refine ⟨_, k, S0, v.kv, .int m, "int", rfl, hK, .int _, fun hb => absurd hm (hb m rfl), fun m' e _ h2 => ?_, fun m' e _ _ H' S' ps' _ hmem st ow hK' => ?_⟩
  · cases e; exact absurd h2 hp
  · cases e
    obtain ⟨a1, a2, a3⟩ := store_keepT h st ow hK' rfl rfl rfl
    exact q H' _ ps' a2 a3 a1 hmem
theorem store_takeQ {m : Int} {p : Addr} {t : Tb} (h : StoreAt K mg H k S R v) (hp : StR mg H R p t) (m0 : 0 ≤ m) (m1 : m ≤ 1000000000) (hl : ∀ l, v.last = some l → l < m) (hn : v.rows.length < 100) (q : ∀ i H', Step S H H' → StoreAt K mg H' k S R (takeS v m t) → Q (.int i) H') : sp_Store__take K mg [.ref k, .int m, .ref p] H Q E := by
  refine ⟨k, S, R, v, .int m, "int", p, t, rfl, h, .int _, hp, fun hb => ?_, fun m' l e _ _ h1 h2 => ?_, fun m' e _ _ _ h100 => ?_, fun m' e _ _ _ _ H' st hS => ?_⟩
  · simp [isNumV, m0, m1] at hb
  · cases e
    have := hl l h1
    omega
  · omega
  · cases e
    exact q _ H' st hS
theorem store_goQ (h : StoreAt K mg H k S R v) (q : ∀ p H' S', Step S H H' → Own H S S' → H p = none → H' p = some (.lst ((goneK v.kv).map V.int)) → StoreAt K mg H' k S' R (goS v) → Q (.ref p) H') : sp_Store__let_go K mg [.ref k] H Q E :=
  ⟨k, S, R, v, rfl, h, fun p H' S' st ow np _ hp hS => q p H' S' st ow np hp hS⟩
theorem store_stateQ {i : Nat} {r : Row} (h : StoreAt K mg H k S R v) (hr : v.rows[i]? = some r) (q : ∀ p H', Same H H' → StR mg H' R p r.t → Q (.ref p) H') : sp_Store__state K mg [.ref k, .int r.n] H Q E :=
  ⟨k, S, R, v, .int r.n, "int", rfl, h, .int _, fun hb => absurd (List.mem_map.mpr ⟨r, List.mem_of_getElem? hr, rfl⟩) (hb r.n rfl), fun j r' hj e p H' s hp => by
    cases e' : decide (j = i) with
    | true => rw [decide_eq_true_eq] at e'; subst e'; rw [hr] at hj; cases hj; exact q p H' s hp
    | false =>
      rw [decide_eq_false_iff_not] at e'
      exfalso
      have nd := h.nd
      have h1 : (v.rows.map Row.n)[j]? = some r'.n := by rw [List.getElem?_map, hj]; rfl
      have h2 : (v.rows.map Row.n)[i]? = some r'.n := by rw [List.getElem?_map, hr]; show some r.n = _; rw [V.int.inj e]
      exact e' ((List.getElem?_inj (List.getElem?_eq_some_iff.mp h1).1 nd).mp (h1.trans h2.symm))⟩
theorem store_chainQ {i : Nat} {r : Row} (h : StoreAt K mg H k S R v) (hr : v.rows[i]? = some r) (q : ∀ l (c : List Int) H', Same H H' → H' l = some (.lst (c.map V.int)) → c.length ≤ v.deep → Q (.ref l) H') : sp_Store__chain K mg [.ref k, .int r.n] H Q E :=
  ⟨k, S, R, v, .int r.n, "int", rfl, h, .int _, fun hb => absurd (List.mem_map.mpr ⟨r, List.mem_of_getElem? hr, rfl⟩) (hb r.n rfl), fun j r' _ _ l H' s _ hl => q l _ H' s hl (by
    show (List.map Row.n (chnP (v.rows.take (j + 1)))).length ≤ _
    rw [List.length_map]
    exact h.val.len (j + 1))⟩
end
end Nk
namespace Nk
open PySem L2
section
variable {P : Program} {w : World} {K : PySem.W.Frag} {mg : Str → Option Value} {base : Heap}
theorem RuleAt.step {S : List Addr} {H H' : Hp} {x : V} {ru : List Int × Int} (h : RuleAt H x ru) (s : Step S H H') : RuleAt H' x ru := by
  obtain ⟨b, r, rfl, hb, hr, m0, m1⟩ := h
  exact ⟨b, r, rfl, s.tups _ _ hb, ⟨s.tups _ _ hr.at_, hr.ok, hr.le, hr.ln⟩, m0, m1⟩
theorem RuleVs.step {S : List Addr} {H H' : Hp} {xs : List V} {rus : List (List Int × Int)} (h : RuleVs H xs rus) (s : Step S H H') : RuleVs H' xs rus :=
  ⟨h.1, fun i x hx => by obtain ⟨ru, h1, h2⟩ := h.2 i x hx; exact ⟨ru, h1, h2.step s⟩⟩
theorem Step.fresh {S : List Addr} {H0 H H' : Hp} (s0 : Same H0 H) (st : Step S H H') (f : ∀ b ∈ S, H0 b = none) : Same H0 H' := fun b o h => st.keep b o (s0 b o h) fun hm => by
  rw [f b hm] at h; cases h
theorem Tn.step {S : List Addr} {H0 H H' : Hp} {a t : Addr} {ns : List Int} {c : Nat} (T : Tn K H a t ns c) (hS : SqL K H0 a (ns.map V.int)) (ht : H0 t = none) (s0 : Same H0 H') (st : Step S H H') (n : t ∉ S) : Tn K H' a t ns c := by
  obtain ⟨ls, h1, h2⟩ := T.town
  exact ⟨(SqN.new hS ht).same s0, T.len, ls, h1, st.keep _ _ h2 n⟩
/-- Store(rules, longest=deep) -/
theorem store_new {H : Hp} {r : Addr} {rus : List (List Int × Int)} {d : Nat} {Q : Addr → Hp → Prop} {E : XK} (RA : RulesAt H r rus) (d1 : 1 ≤ d) (d10 : d ≤ 10) (q : ∀ k S H', Same H H' → (∀ b ∈ S, H b = none) → StoreAt K mg H' k S [] ⟨rus, [], [], none, d⟩ → Q k H') :
    ∀ x dx : Addr, H x = none → H dx = none → dx ≠ x → sp_Store____init__ K mg [.ref x, .ref r, .int d] (upd (upd H dx (.own x)) x (.ins (cls mg "Store") dx [])) (fun v H2 => v = .non ∧ Q x H2) E := by
  intro x dx hx hdx hne
  have s1 : Same H (upd (upd H dx (.own x)) x (.ins (cls mg "Store") dx [])) := fun b o hb => by
    rw [upd_ne (ne_of_none hb hx), upd_ne (ne_of_none hb hdx)]
    exact hb
  have R1 := RA.same s1
  have hnum : isNumV (.int d) 1 (.int 10) = true := by simp [isNumV]; omega
  refine ⟨x, dx, _, _, "int", rfl, upd_same, R1.thing, .int d, (fun e => by rw [R1.is] at e; cases e), (fun _ e => by rw [hnum] at e; cases e), fun _ => ⟨r, rus, rfl, R1, fun d' e _ _ H' S st hf hSt => ⟨rfl, ?_⟩⟩⟩
  have e : d' = d := by
    have := V.int.inj e
    omega
  subst e
  refine q x S H' (fun b o hb => st.keep b o (s1 _ _ hb) ?_) (fun b hb => ?_) hSt
  · intro hm
    rw [List.mem_singleton.mp hm, hx] at hb
    cases hb
  · rcases hf b hb with z | z
    · rw [z]; exact hx
    · exact s1.free z
end
end Nk
namespace Nk
open PySem L2
section
variable {P : Program} {w : World} {K : PySem.W.Frag} {mg : Str → Option Value} {base : Heap}
abbrev nm_turned : List Str := ["store", "one", "other"]
abbrev pm_turned : List Str := ["store", "one", "other"]
abbrev lv_turned : Nat := 4
theorem sc_turned : FnScope nm_turned pm_turned (defScope s_turned) := ⟨rfl, rfl, rfl, by decide +kernel, rfl, by decide +kernel, by decide +kernel⟩
def sp_turned (K : PySem.W.Frag) (mg : Str → Option Value) : Sp := fun vs H Q E => ∃ (k : Addr) (S R : List Addr) (v : SV) (x y : V) (n m : String), vs = [.ref k, x, y] ∧ StoreAt K mg H k S R v ∧ Thing K H x n ∧ Thing K H y m ∧
  (((∀ m, x = .int m → m ∉ v.rows.map Row.n) ∨ (∀ m, y = .int m → m ∉ v.rows.map Row.n)) → ∀ H', Same H H' → E (.ref (cls mg "NotHeld")) none H') ∧
  (∀ (i j : Nat) (r r' : Row), v.rows[i]? = some r → v.rows[j]? = some r' → x = .int r.n → y = .int r'.n → ∀ l H', Same H H' → H l = none → PartAt H' l (part r.t r'.t) → Q (.ref l) H')
theorem f_turned (T : Txt K mg) : Fk P w K mg base (L2.CX P w) lv_turned "turned" pm_turned (sp_turned K mg) := by
  obtain ⟨f, fd, F, g, b⟩ := T.d_turned.ex
  refine ⟨f, fd, g, F.kp, b, F.okX sc_turned (fun vs H Q E h => ?_) (fun cdv A outer s H vs Q E hr h => ?_)⟩
  · obtain ⟨k, S, R, v, x, y, n, m, rfl, _⟩ := h; rfl
  · obtain ⟨k, S, R, v, x, y, n, m, rfl, hSt, hx, hy, q1, q2⟩ := h
    have hu := hu_of hr
    refine ⟨_, (pss_cons (ps_expr (pe_fn (f_look_held T) (hr.mono (by decide)) (by rfl) (passX (takes_of rfl rfl rfl rfl)) (pa_cons (pv 0) (pa_cons (pv 1) pa_nil))))
      (pss_cons (ps_expr (pe_fn (f_look_held T) (hr.mono (by decide)) (by rfl) (passX (takes_of rfl rfl rfl rfl)) (pa_cons (pv 0) (pa_cons (pv 2) pa_nil))))
      (pss_one (ps_ret (pe_fn (f_part_of T) (hr.mono (by decide)) (by rfl) pass0 (pa_cons (pe_dget hu (pe_fld (pv 0) rfl) (pv 1) (fun _ _ => rfl)) (pa_cons (pe_dget hu (pe_fld (pv 0) rfl) (pv 2) (fun _ _ => rfl)) pa_nil))))))), ?_⟩
    obtain ⟨W, F, S0, kvs, rfl, hK, hWF, hW, hF, hSh⟩ := hSt.at_
    with_reducible refine seq_k fun K_ hK_ => ?_
    walk_at "ru"
    refine ⟨"Store", _, k, S0, v.kv, x, n, rfl, hK, hx, fun h => q1 (.inl h), fun a ea ha H1 s1 => ?_⟩
    walk_at "ru"
    subst hK_
    first | with_reducible refine seq_k fun K_ hK_ => ?_ | skip
    walk_at "ru"
    refine ⟨"Store", _, k, S0, v.kv, y, m, rfl, hK.same s1, hy.same s1, fun h H2 s2 => q1 (.inr h) H2 (s1.trans s2), fun b eb hb H2 s2 => ?_⟩
    subst ea eb
    have s12 := s1.trans s2
    obtain ⟨i, r, hri, rfl⟩ := find_row ha
    obtain ⟨j, r', hrj, rfl⟩ := find_row hb
    obtain ⟨dx, ra, N, Pn, rfl, hNP, hk, hR, hN, hP⟩ := (hK.same s12).at_
    have kc := hK.kc
    have sc := hSt.sc
    have nd := hSt.nd
    obtain ⟨p, hv, hp⟩ := hSh.val nd r (mem_of_get hri)
    obtain ⟨p', hv', hp'⟩ := hSh.val nd r' (mem_of_get hrj)
    walk_at "ru"
    subst hK_
    first | with_reducible refine seq_k fun K_ hK_ => ?_ | skip
    walk_at "ru"
    refine ⟨_, dx, _, hk, kc.o.cl, sc.ns, _, sf_shelf, F, rfl, _, dget_i (s12 _ _ hF) hv, _, dx, _, hk, kc.o.cl, sc.ns, _, sf_shelf, F, rfl, _, dget_i (s12 _ _ hF) hv', p, p', r.t, r'.t, rfl, hp.st.same s12, hp'.st.same s12, fun l H3 s3 nl hl => ?_⟩
    exact q2 i j r r' hri hrj rfl rfl l H3 (s12.trans s3) (s12.free nl) hl
abbrev nm_falls : List Str := ["store", "night", "one"]
abbrev pm_falls : List Str := ["store", "night"]
abbrev lv_falls : Nat := 3
theorem sc_falls : FnScope nm_falls pm_falls (defScope s_falls) := ⟨rfl, rfl, rfl, by decide +kernel, rfl, by decide +kernel, by decide +kernel⟩
def sp_falls (K : PySem.W.Frag) (mg : Str → Option Value) : Sp := fun vs H Q E => ∃ (k : Addr) (S R : List Addr) (v : SV) (x : V) (n : String), vs = [.ref k, x] ∧ StoreAt K mg H k S R v ∧ Thing K H x n ∧
  ((∀ m, x = .int m → m ∉ v.rows.map Row.n) → ∀ H', Same H H' → E (.ref (cls mg "NotHeld")) none H') ∧
  (∀ m, x = .int m → m ∈ v.rows.map Row.n → ∀ l H', Same H H' → H l = none → H' l = some (.lst ((lostN m v.rows).map V.int)) → Q (.ref l) H')
theorem f_falls (T : Txt K mg) : Fk P w K mg base (L2.CX P w) lv_falls "falls" pm_falls (sp_falls K mg) := by
  obtain ⟨f, fd, F, g, b⟩ := T.d_falls.ex
  refine ⟨f, fd, g, F.kp, b, F.okX sc_falls (fun vs H Q E h => ?_) (fun cdv A outer s H vs Q E hr h => ?_)⟩
  · obtain ⟨k, S, R, v, x, n, rfl, _⟩ := h; rfl
  · obtain ⟨k, S, R, v, x, n, rfl, hSt, hx, q1, q2⟩ := h
    have hu := hu_of hr
    refine ⟨_, (pss_cons (ps_expr (pe_fn (f_look_held T) (hr.mono (by decide)) (by rfl) (passX (takes_of rfl rfl rfl rfl)) (pa_cons (pv 0) (pa_cons (pv 1) pa_nil))))
      (pss_one (ps_ret (pe_lc (own := [("one", 2)]) (g := gName 2) (by rfl) sc_falls.nd (pi_list (pe_fld (pv 0) rfl)) (blkOk_by (own := [("one", 2)]) (N := nm_falls) (sc := defScope s_falls) (by decide +kernel)) (fun _ _ _ _ _ => (pg_name (i := 2) sc_falls.nd rfl (Or.inl rfl))) (fun _ _ _ _ _ => (pts_one (pt_cmpR (op_inK K rfl) (pv 1) (pe_fn (f_chain_of T) (hr.mono (by decide)) (by rfl) pass0 (pa_cons (pv 0) (pa_cons (pv 2) pa_nil))) (by rfl)))) (fun _ _ _ _ _ => (pv 2)))))), ?_⟩
    obtain ⟨W, F, S0, kvs, rfl, hK, hWF, hW, hF, hSh⟩ := hSt.at_
    with_reducible refine seq_k fun K_ hK_ => ?_
    walk_at "ru"
    refine ⟨"Store", _, k, S0, v.kv, x, n, rfl, hK, hx, q1, fun m e hm H1 s1 => ?_⟩
    subst e
    have q := q2 m rfl hm
    obtain ⟨dx, ra, N, Pn, rfl, hNP, hk, hR, hN, hP⟩ := (hK.same s1).at_
    have kc := hK.kc
    have nd := hSt.nd
    have hSt1 := hSt.same s1
    have hn100 : v.kv.ns.length ≤ 100 := hK.n100
    have hrl : v.kv.ns.length = v.rows.length := List.length_map _
    walk_at "ru"
    subst hK_
    first | with_reducible refine seq_k fun K_ hK_ => ?_ | skip
    walk_at "ru"
    refine ⟨_, dx, _, hk, kc.o.cl, kc.nn, _, kfs_nights, N, rfl, ⟨_, sqL hN⟩, fun D hD => ?_⟩
    refine lcL hD (sqL hN) (fun j => (lostN m (v.rows.take j)).map V.int) (by simp [lostN]) (fun j x H2 hx pv => ?_) (fun H2 s2 hD2 => ?_)
    · obtain ⟨r, hri⟩ := row_lt (rs := v.rows) (i := j) (by have := lt_of_get hx; rw [List.length_map] at this; omega)
      rw [show v.kv.ns = v.rows.map Row.n from rfl, row_nn hri] at hx
      cases hx
      have hj := lt_of_get hri
      have hlo := lost_snoc m (v.rows.take j) r
      rw [← take_next hri] at hlo
      walk_at "ru"
      refine ⟨k, _, R, v, j, r, rfl, hSt1.same pv.same, hri, fun cl H3 s3 ncl hcl => ?_⟩
      refine ⟨cl, _, rfl, .inl (sqL hcl), rfl, flat_ints _, _, rfl, ?_⟩
      rw [show (if false = true then !inV (V.int m) (List.map V.int (chn v.rows j)) else inV (V.int m) (List.map V.int (chn v.rows j))) = inV (V.int m) (List.map V.int (chn v.rows j)) from rfl, inV_ints]
      by_cases c : m ∈ chn v.rows j
      · rw [if_pos (decide_eq_true c)]
        rw [if_pos (show m ∈ (chnP (v.rows.take (j + 1))).map Row.n from c)] at hlo
        refine pv.push hD ?_ s3 (by simp only [hlo, List.map_append]; rfl)
        have h1 := nodup_len _ _ (lost_nd (m := m) (rs := v.rows.take j) (nd.sublist ((List.take_sublist _ _).map _))) (lost_sub m _)
        rw [List.length_map, List.length_take] at h1
        rw [List.length_map]
        omega
      · rw [if_neg (by simpa using c)]
        rw [if_neg (show ¬ m ∈ (chnP (v.rows.take (j + 1))).map Row.n from c), List.append_nil] at hlo
        exact pv.skip s3 (by simp only [hlo])
    · rw [List.length_map, hrl, List.take_length] at hD2
      exact q D H2 (s1.trans s2) (s1.free hD) hD2
end
end Nk
namespace Nk
open PySem L2
section
variable {P : Program} {w : World} {K : PySem.W.Frag} {mg : Str → Option Value} {base : Heap}
/-- nights with another number than ahead; the last number -/
def histP (nm : Str) (rs : Rows) : List (Int × Option Int) × Option Int := rs.foldl (fun s r => (if lk r.t nm ≠ s.2 then s.1 ++ [(r.n, lk r.t nm)] else s.1, lk r.t nm)) ([], none)
theorem histP_snoc (nm : Str) (rs : Rows) (r : Row) : histP nm (rs ++ [r]) = (if lk r.t nm ≠ (histP nm rs).2 then (histP nm rs).1 ++ [(r.n, lk r.t nm)] else (histP nm rs).1, lk r.t nm) := by
  unfold histP; rw [List.foldl_append]; rfl
theorem histP_len (nm : Str) (rs : Rows) : (histP nm rs).1.length ≤ rs.length := by
  induction rs using snoc_ind with
  | h0 => exact Nat.le_refl _
  | h1 l a ih =>
    rw [histP_snoc]
    show (if _ then _ else _ : List (Int × Option Int)).length ≤ _
    split
    · rw [List.length_append, List.length_append]; simp; exact ih
    · rw [List.length_append]; omega
/-- pairs of nights and numbers -/
def HsAt (H : Hp) : List V → List (Int × Option Int) → Prop
  | [], [] => True
  | x :: xs, p :: ps => (∃ q, x = .ref q ∧ H q = some (.tup [.int p.1, numV p.2])) ∧ HsAt H xs ps
  | _, _ => False
theorem HsAt.tups {H H' : Hp} (h : ∀ b xs, H b = some (.tup xs) → H' b = some (.tup xs)) : ∀ {xs : List V} {ps : List (Int × Option Int)}, HsAt H xs ps → HsAt H' xs ps
  | [], [], _ => trivial
  | x :: xs, p :: ps, ⟨⟨q, e, hq⟩, r⟩ => ⟨⟨q, e, h _ _ hq⟩, HsAt.tups h r⟩
theorem HsAt.same {H H' : Hp} (s : Same H H') {xs : List V} {ps : List (Int × Option Int)} (h : HsAt H xs ps) : HsAt H' xs ps := h.tups fun b xs e => s _ _ e
theorem HsAt.len {H : Hp} : ∀ {xs : List V} {ps : List (Int × Option Int)}, HsAt H xs ps → xs.length = ps.length
  | [], [], _ => rfl
  | x :: xs, p :: ps, ⟨_, r⟩ => by simp [HsAt.len r]
theorem HsAt.snoc {H : Hp} {q : Addr} {p : Int × Option Int} (hq : H q = some (.tup [.int p.1, numV p.2])) : ∀ {xs : List V} {ps : List (Int × Option Int)}, HsAt H xs ps → HsAt H (xs ++ [.ref q]) (ps ++ [p])
  | [], [], _ => ⟨⟨q, rfl, hq⟩, trivial⟩
  | x :: xs, p' :: ps, ⟨a, r⟩ => ⟨a, HsAt.snoc hq r⟩
def hsD (ps : List (Int × Option Int)) : PyData := .list (ps.map fun p => .tuple [.int p.1, match p.2 with | none => .none | some i => .int i])
theorem HsAt.dpAll {H : Hp} : ∀ {xs : List V} {ps : List (Int × Option Int)}, HsAt H xs ps → DpAll K H xs (ps.map fun p => .tuple [.int p.1, match p.2 with | none => .none | some i => .int i])
  | [], [], _ => .nil
  | x :: xs, p :: ps, ⟨⟨q, e, hq⟩, r⟩ => by
    subst e
    refine .cons (.tup (sqT hq) (.cons (.int _) (.cons ?_ .nil))) (HsAt.dpAll r)
    cases p.2 with
    | none => exact .non
    | some i => exact .int i
theorem gd_hsD (ps : List (Int × Option Int)) : gd 2 (hsD ps) = true := by
  unfold hsD
  simp only [gd]
  rw [List.all_eq_true]
  intro x hx
  obtain ⟨p, _, rfl⟩ := List.mem_map.mp hx
  cases p.2 <;> simp [gd]
theorem numV_ne {a b : Option Int} : (numV a = numV b) ↔ a = b := by
  cases a <;> cases b <;> simp [numV]
theorem numV_scal (a b : Option Int) : scal (numV a) (numV b) = true := by cases a <;> cases b <;> rfl
abbrev nm_history : List Str := ["store", "name", "found", "ahead", "night", "number"]
abbrev pm_history : List Str := ["store", "name"]
abbrev lv_history : Nat := 3
theorem sc_history : FnScope nm_history pm_history (defScope s_history) := ⟨rfl, rfl, rfl, by decide +kernel, rfl, by decide +kernel, by decide +kernel⟩
def sp_history (K : PySem.W.Frag) (mg : Str → Option Value) : Sp := fun vs H Q _ => ∃ (k : Addr) (S R : List Addr) (v : SV) (nm : Str), vs = [.ref k, .str nm] ∧ StoreAt K mg H k S R v ∧ isNm nm ∧
  ∀ l xs H', Same H H' → H l = none → H' l = some (.lst xs) → HsAt H' xs (histP nm v.rows).1 → Q (.ref l) H'
def iv_history (k l : Addr) (nm : Str) (rs : Rows) (H0 : Hp) (i : Nat) (σ : L2.St) (H : Hp) : Prop :=
  (∃ y z, σ = [some (.ref k), some (.str nm), some (.ref l), some (numV (histP nm (rs.take i)).2), y, z]) ∧ Same H0 H ∧ ∃ xs, H l = some (.lst xs) ∧ HsAt H xs (histP nm (rs.take i)).1
theorem f_history (T : Txt K mg) : Fk P w K mg base CX0 lv_history "history" pm_history (sp_history K mg) := by
  obtain ⟨f, fd, F, g, b⟩ := T.d_history.ex
  refine ⟨f, fd, g, F.kp, b, F.ok sc_history (fun vs H Q E h => ?_) (fun cdv A outer s H vs Q E hr h => ?_)⟩
  · obtain ⟨k, S, R, v, nm, rfl, _⟩ := h; rfl
  · obtain ⟨k, S, R, v, nm, rfl, hSt, hnm, q⟩ := h
    have hu := hu_of hr
    refine ⟨_, (pss_cons (ps_set (i := 2) sc_history.nd rfl (.inl rfl) (pe_lst pa_nil))
      (pss_cons (ps_set (i := 3) sc_history.nd rfl (.inl rfl) pe_non)
      (pss_cons (ps_for PassesOwn.never rfl (pi_list (pe_fld (pv 0) rfl)) (pg_name (i := 4) sc_history.nd rfl (Or.inl rfl)) (pss_cons (ps_set (i := 5) sc_history.nd rfl (.inl rfl) (pe_me (pe_dget hu (pe_fld (pv 0) rfl) (pv 4) (fun _ _ => rfl)) T.o_State (f_State__number T) (hr.mono (by decide)) pass0 (pa_cons (pv 1) pa_nil)))
      (pss_cons (ps_if (pt_cmpR op_ne (pv 5) (pv 3) (nomark _)) (pss_one (ps_expr (pe_bm PySem.F.plainAttrs_list PySem.F.slot_list_append PySem.F.type_list_append mt_append (pv 2) (pa_cons (pe_tup (pa_cons (pv 4) (pa_cons (pv 5) pa_nil))) pa_nil)))) pss_nil)
      (pss_one (ps_set (i := 3) sc_history.nd rfl (.inl rfl) (pv 5))))))
      (pss_one (ps_ret (pv 2)))))), ?_⟩
    obtain ⟨W, F, S0, kvs, rfl, hK, hWF, hW, hF, hSh⟩ := hSt.at_
    obtain ⟨dx, ra, N, Pn, rfl, hNP, hk, hR, hN, hP⟩ := hK.at_
    have kc := hK.kc
    have sc := hSt.sc
    have nd := hSt.nd
    have hn100 : v.kv.ns.length ≤ 100 := hK.n100
    have hrl : v.kv.ns.length = v.rows.length := List.length_map _
    with_reducible refine seq_k fun K_ hK_ => ?_
    walk_at "ru"
    intro l n_l
    generalize hG_ : upd _ l _ = H1
    obtain ⟨s1, hl⟩ := newF n_l hG_
    clear hG_
    walk_at "ru"
    subst hK_
    first | with_reducible refine seq_k fun K_ hK_ => ?_ | skip
    walk_at "ru"
    walk_at "ru"
    subst hK_
    first | with_reducible refine seq_k fun K_ hK_ => ?_ | skip
    walk_at "ru"
    refine ⟨_, dx, _, s1 _ _ hk, kc.o.cl, kc.nn, _, kfs_nights, N, rfl, ⟨_, sqL (s1 _ _ hN)⟩, ?_⟩
    refine for_it (walk_list (xs := v.kv.ns.map V.int)) (iv_history k l nm v.rows H) ⟨⟨_, _, rfl⟩, s1, [], hl, trivial⟩ (fun i σ H2 _ iv => sqL (iv.2.1 _ _ hN)) (fun i x σ H2 H3 hi iv hy => ?_) (fun σ H2 iv => ?_)
    · obtain ⟨⟨y, z, rfl⟩, s3, xs, hl3, hC⟩ := iv
      obtain ⟨rfl, hy⟩ := hy
      obtain ⟨r, hri⟩ := row_lt (rs := v.rows) (i := i) (by simp at hi; omega)
      rw [show v.kv.ns = v.rows.map Row.n from rfl, row_nn hri] at hy
      cases hy
      obtain ⟨p, hv, hp⟩ := hSh.val nd r (mem_of_get hri)
      obtain ⟨dxp, dp, gp, _⟩ := hp.st.ex
      have hsn := histP_snoc nm (v.rows.take i) r
      rw [← take_next hri] at hsn
      have hlen := hC.len
      have hhl := histP_len nm (v.rows.take i)
      rw [List.length_take] at hhl
      walk_at "ru"
      with_reducible refine seq_k fun K_ hK_ => ?_
      walk_at "ru"
      refine ⟨_, dx, _, s3 _ _ hk, kc.o.cl, sc.ns, _, sf_shelf, F, rfl, _, dget_i (s3 _ _ hF) hv, p, rfl, dxp, _, s3 _ _ gp, rfl, p, r.t, .str nm, "str", rfl, hp.st.same s3, .str _, (fun s e => by cases e; have := hnm.2.1; simp at this ⊢; omega), fun H4 s4 => ?_⟩
      have s04 := s3.trans s4
      have hl4 := s4 _ _ hl3
      walk_at "ru"
      subst hK_
      first | with_reducible refine seq_k fun K_ hK_ => ?_ | skip
      walk_at "ru"
      refine ⟨numV_scal _ _, ?_⟩
      rw [show lkV r.t (.str nm) = lk r.t nm from rfl]
      refine ite2 (fun c => ?_) (fun c => ?_)
      · have cc : lk r.t nm ≠ (histP nm (v.rows.take i)).2 := fun e => c (by rw [e])
        rw [if_pos cc] at hsn
        refine ⟨tyL hl4, ?_⟩
        intro q1 n_q1
        generalize hG_ : upd _ q1 _ = H5
        obtain ⟨s5, hq1⟩ := newF n_q1 hG_
        clear hG_
        have hl5 := s5 _ _ hl4
        refine appR hl5 (by omega) ?_
        generalize hG : upd H5 l _ = H6
        have b6 : But l H5 H6 := by rw [← hG]; exact But.upd
        have hl6 : H6 l = some (.lst (xs ++ [.ref q1])) := by rw [← hG]; exact upd_same
        have s06 : Same H H6 := by rw [← hG]; exact Same.app (s04.trans s5) n_l
        clear hG
        walk_at "ru"
        subst hK_
        first | with_reducible refine seq_k fun K_ hK_ => ?_ | skip
        walk_at "ru"
        refine ⟨⟨some (.int r.n), some (numV (lk r.t nm)), by rw [hsn]⟩, s06, _, hl6, ?_⟩
        · rw [hsn]
          exact (((hC.same (s4.trans s5)).tups fun b ys h => b6 _ _ h (ne_of h hl5 (by intro z; cases z)))).snoc (b6 _ _ hq1 (ne_of hq1 hl5 (by intro z; cases z)))
      · have cc : ¬ lk r.t nm ≠ (histP nm (v.rows.take i)).2 := fun e => c (fun h => e (numV_ne.mp h))
        rw [if_neg cc] at hsn
        walk_at "ru"
        subst hK_
        first | with_reducible refine seq_k fun K_ hK_ => ?_ | skip
        walk_at "ru"
        refine ⟨⟨some (.int r.n), some (numV (lk r.t nm)), by rw [hsn]⟩, s04, xs, hl4, ?_⟩
        · rw [hsn]
          exact hC.same s4
    · obtain ⟨⟨y, z, rfl⟩, s3, xs, hl3, hC⟩ := iv
      rw [List.length_map, hrl, List.take_length] at hC
      walk_at "ru"
      subst hK_
      first | with_reducible refine seq_k fun K_ hK_ => ?_ | skip
      walk_at "ru"
      exact q l xs H2 s3 n_l hl3 hC
abbrev nm_nights_with : List Str := ["store", "name", "number", "night"]
abbrev pm_nights_with : List Str := ["store", "name", "number"]
abbrev lv_nights_with : Nat := 3
theorem sc_nights_with : FnScope nm_nights_with pm_nights_with (defScope s_nights_with) := ⟨rfl, rfl, rfl, by decide +kernel, rfl, by decide +kernel, by decide +kernel⟩
def withR (nm : Str) (o : Option Int) (rs : Rows) : List Int := (rs.filter fun r => decide (lk r.t nm = o)).map Row.n
def sp_nights_with (K : PySem.W.Frag) (mg : Str → Option Value) : Sp := fun vs H Q _ => ∃ (k : Addr) (S R : List Addr) (v : SV) (nm : Str) (o : Option Int), vs = [.ref k, .str nm, numV o] ∧ StoreAt K mg H k S R v ∧ isNm nm ∧
  ∀ l H', Same H H' → H l = none → H' l = some (.lst ((withR nm o v.rows).map V.int)) → Q (.ref l) H'
theorem f_nights_with (T : Txt K mg) : Fk P w K mg base CX0 lv_nights_with "nights_with" pm_nights_with (sp_nights_with K mg) := by
  obtain ⟨f, fd, F, g, b⟩ := T.d_nights_with.ex
  refine ⟨f, fd, g, F.kp, b, F.ok sc_nights_with (fun vs H Q E h => ?_) (fun cdv A outer s H vs Q E hr h => ?_)⟩
  · obtain ⟨k, S, R, v, nm, o, rfl, _⟩ := h; rfl
  · obtain ⟨k, S, R, v, nm, o, rfl, hSt, hnm, q⟩ := h
    have hu := hu_of hr
    refine ⟨_, (pss_one (ps_ret (pe_lc (own := [("night", 3)]) (g := gName 3) (by rfl) sc_nights_with.nd (pi_list (pe_fld (pv 0) rfl)) (blkOk_by (own := [("night", 3)]) (N := nm_nights_with) (sc := defScope s_nights_with) (by decide +kernel)) (fun _ _ _ _ _ => (pg_name (i := 3) sc_nights_with.nd rfl (Or.inl rfl))) (fun _ _ _ _ _ => (pts_one (pt_cmpR op_eq (pe_meK mg rfl (pe_dget hu (pe_fldK K rfl (pv 0) rfl) (pv 3) (fun _ _ => rfl)) T.o_State (f_State__number T) (hr.mono (by decide)) pass0 (pa_cons (pv 1) pa_nil)) (pv 2) (nomark _)))) (fun _ _ _ _ _ => (pv 3))))), ?_⟩
    obtain ⟨W, F, S0, kvs, rfl, hK, hWF, hW, hF, hSh⟩ := hSt.at_
    obtain ⟨dx, ra, N, Pn, rfl, hNP, hk, hR, hN, hP⟩ := hK.at_
    have kc := hK.kc
    have sc := hSt.sc
    have nd := hSt.nd
    have hn100 : v.kv.ns.length ≤ 100 := hK.n100
    have hrl : v.kv.ns.length = v.rows.length := List.length_map _
    walk_at "ru"
    refine ⟨_, dx, _, hk, kc.o.cl, kc.nn, _, kfs_nights, N, rfl, ⟨_, sqL hN⟩, fun D hD => ?_⟩
    refine lcL hD (sqL hN) (fun j => (withR nm o (v.rows.take j)).map V.int) rfl (fun j x H2 hx pv => ?_) (fun H2 s2 hD2 => ?_)
    · obtain ⟨r, hri⟩ := row_lt (rs := v.rows) (i := j) (by have := lt_of_get hx; rw [List.length_map] at this; omega)
      rw [show v.kv.ns = v.rows.map Row.n from rfl, row_nn hri] at hx
      cases hx
      obtain ⟨p, hv, hp⟩ := hSh.val nd r (mem_of_get hri)
      have hj := lt_of_get hri
      have hft := filter_take_next (fun r : Row => decide (lk r.t nm = o)) hri
      have hfl := filter_len v.rows (fun r : Row => decide (lk r.t nm = o)) j
      walk_at "ru"
      obtain ⟨dxp, dp, gp, _⟩ := (hp.st.same pv.same).ex
      refine ⟨_, dx, _, pv.same _ _ hk, kc.o.cl, sc.ns, _, sf_shelf, F, rfl, _, dget_i (pv.same _ _ hF) hv, p, rfl, ?_⟩
      refine num_of (hp.st.same pv.same) hnm fun H3 s3 => ⟨numV_scal _ _, ?_⟩
      unfold withR
      refine ite2 (fun c => ?_) (fun c => ?_)
      · have cc : lk r.t nm = o := numV_ne.mp c
        rw [if_pos (by simpa using cc)] at hft
        refine pv.push hD (by unfold withR; rw [List.length_map, List.length_map]; omega) s3 ?_
        show ((_ : List Row).map Row.n).map V.int = _
        unfold withR
        rw [hft, List.map_append, List.map_append]
        rfl
      · have cc : ¬ lk r.t nm = o := fun e => c (numV_ne.mpr e)
        rw [if_neg (by simpa using cc), List.append_nil] at hft
        refine pv.skip s3 ?_
        show ((_ : List Row).map Row.n).map V.int = _
        unfold withR
        rw [hft]
    · rw [List.length_map, hrl, List.take_length] at hD2
      exact q D H2 s2 hD hD2
end
end Nk
namespace Nk
open PySem L2
section
variable {P : Program} {w : World} {K : PySem.W.Frag} {mg : Str → Option Value} {base : Heap}
abbrev nm_Keep__ahead : List Str := ["self", "nights", "some"]
abbrev pm_Keep__ahead : List Str := ["self", "nights"]
abbrev lv_Keep__ahead : Nat := 4
theorem sc_Keep__ahead : FnScope nm_Keep__ahead pm_Keep__ahead (defScope s_Keep__ahead) := ⟨rfl, rfl, rfl, by decide +kernel, rfl, by decide +kernel, by decide +kernel⟩
def sp_Store__ahead (K : PySem.W.Frag) (mg : Str → Option Value) : Sp := fun vs H Q E => ∃ (ex : List (Str × V)) (k : Addr) (S : List Addr) (v : KV) (x : V), vs = [.ref k, x] ∧ KeepAt K mg "Store" ex H k S v ∧ DT K H 1 x ∧
  (isNightsV H x = false → ∀ H', Same H H' → E (.ref (cls mg "BadNights")) none H') ∧
  (isNightsV H x = true → ∃ (l : Addr) (ms : List Int), x = .ref l ∧ H l = some (.lst (ms.map V.int)) ∧ ms.length ≤ 100 ∧ ms.Pairwise (· < ·) ∧
    ((∃ m0 l', ms.head? = some m0 ∧ v.last = some l' ∧ m0 ≤ l' ∧ ∀ d H', Same H H' → H' d = some (.xd [("last", .int l')]) → E (.ref (cls mg "Elder")) (some d) H') ∨
     ((∀ m0 l', ms.head? = some m0 → v.last = some l' → l' < m0) ∧ ∀ (p : Addr) (L : List Int) (H' : Hp), Same H H' → H p = none → L.Pairwise (· < ·) → (∀ z, z ∈ L ↔ z ∈ keptF v.rus (v.ns ++ ms) ∨ z ∈ v.ps) → H' p = some (.lst (L.map V.int)) → Q (.ref p) H')))
theorem f_Store__ahead (T : Txt K mg) : Mo P w K mg base (L2.CX P w) lv_Keep__ahead "Store" "ahead" pm_Keep__ahead (sp_Store__ahead K mg) := by
  obtain ⟨f, fd, F, g, b⟩ := T.m_Store__ahead.ex
  refine ⟨f, fd, g, b, F.okX sc_Keep__ahead (fun vs H Q E h => ?_) (fun cdv A outer s H vs Q E hr h => ?_)⟩
  · obtain ⟨ex, k, S, v, x, rfl, _⟩ := h; rfl
  · obtain ⟨ex, k, S, v, x, rfl, hK, hx, q1, q2⟩ := h
    refine ⟨_, (pss_cons (ps_expr (pe_fn (f_look_nights T) (hr.mono (by decide)) (by rfl) (passX (takes_of rfl rfl rfl rfl)) (pa_cons (pv 1) pa_nil)))
      (pss_cons (ps_if (PW.pt (pw_and (pt_cmpR (op_neD hr.units) (pv 1) (pe_lst pa_nil) (nomark _)) (pw_and (pt_cmpR op_notN (pe_fld (pv 0) rfl) pe_non (nomark _)) (pw_and1 (pt_cmpR op_le (pe_ix ix_list (pv 1) pe_int (fun _ _ => rfl)) (pe_fld (pv 0) rfl) (nomark _)))))) (pss_one (ps_raise rfl (takes_of rfl rfl rfl rfl) (pmk_el T.y_Elder (f_Elder____init__ T) (hr.mono (by decide)) pass0 (by rfl) (pa_cons (pe_fld (pv 0) rfl) pa_nil)))) pss_nil)
      (pss_cons (ps_set (i := 2) sc_Keep__ahead.nd rfl (.inl rfl) (pe_op op_cat (pe_fld (pv 0) rfl) (pv 1)))
      (pss_one (ps_ret (pe_callB (cr_sortedSA rfl) (by rfl) T.b_sorted (by decide +kernel) (pa_cons (pe_callTy (cr_setLI rfl) (by rfl) T.b_set (by decide +kernel) (pa_cons (pe_op op_cat (pe_fn (f_kept_of T) (hr.mono (by decide)) (by rfl) pass0 (pa_cons (pe_fld (pv 0) rfl) (pa_cons (pv 2) pa_nil))) (pe_fld (pv 0) rfl)) pa_nil)) pa_nil))))))), ?_⟩
    with_reducible refine seq_k fun K_ hK_ => ?_
    walk_at "rt"
    refine ⟨x, rfl, hx, fun e H1 s1 => ?_, q1⟩
    obtain ⟨l, ms, rfl, hl, hm100, hrise, q⟩ := q2 e
    have hK1 := hK.same s1
    obtain ⟨dx, r, N, Pn, rfl, hNP, hk, hR, hN, hP⟩ := hK1.at_
    have kc := hK.kc
    have hl1 := s1 _ _ hl
    walk_at "rt"
    subst hK_
    first | with_reducible refine seq_k fun K_ hK_ => ?_ | skip
    walk_at "rt"
    have rest : ∀ H2, Same H1 H2 → (∀ m0 l', ms.head? = some m0 → v.last = some l' → l' < m0) → K_ [some (.ref k), some (.ref l), none] H2 := by
      intro H2 s2 hlt
      have q' : ∀ (p : Addr) (L : List Int) (H' : Hp), Same H H' → H p = none → L.Pairwise (· < ·) → (∀ z, z ∈ L ↔ z ∈ keptF v.rus (v.ns ++ ms) ∨ z ∈ v.ps) → H' p = some (.lst (L.map V.int)) → Q (.ref p) H' := by
        rcases q with ⟨m0, l', h1, h2, h3, _⟩ | ⟨_, q⟩
        · have := hlt m0 l' h1 h2
          omega
        · exact q
      have hn100 := hK.n100
      have hp100 := hK.plen
      have hrise2 : (v.ns ++ ms).Pairwise (· < ·) := by
        rw [List.pairwise_append]
        refine ⟨hK.rise, hrise, fun a ha b hb => ?_⟩
        obtain ⟨l', h1, h2⟩ := hK.lst a ha
        cases hms : ms with
        | nil => rw [hms] at hb; cases hb
        | cons m0 t =>
          have h3 := hlt m0 l' (by rw [hms]; rfl) h1
          rw [hms] at hb hrise
          rcases List.mem_cons.mp hb with rfl | hb
          · omega
          · have := (List.pairwise_cons.mp hrise).1 b hb
            omega
      walk_at "rt"
      subst hK_
      first | with_reducible refine seq_k fun K_ hK_ => ?_ | skip
      walk_at "rt"
      refine ⟨_, dx, _, s2 _ _ hk, kc.o.cl, kc.nn, _, kfs_nights, N, l, _, _, rfl, rfl, s2 _ _ hN, s2 _ _ hl1, sz (by rw [List.length_map, List.length_map]; omega), ?_⟩
      intro z1 n_z1
      generalize hG_ : upd _ z1 _ = H3
      obtain ⟨s3, hz1⟩ := newF n_z1 hG_
      clear hG_
      rw [← List.map_append] at hz1
      have s23 := s2.trans s3
      walk_at "rt"
      subst hK_
      first | with_reducible refine seq_k fun K_ hK_ => ?_ | skip
      walk_at "rt"
      refine ⟨_, dx, _, s23 _ _ hk, kc.o.cl, kc.nr, _, kfs_rules, ?_⟩
      refine ⟨r, z1, v.rus, v.ns ++ ms, rfl, hR.same s23, sqL hz1, hrise2, fun p H4 s4 hp hp4 => ?_⟩
      have s24 := s23.trans s4
      refine ⟨_, dx, _, s24 _ _ hk, kc.o.cl, kc.np, _, kfs_pinned, p, Pn, _, _, rfl, rfl, hp4, s24 _ _ hP, ?_, ?_⟩
      · rw [List.length_map, List.length_map]
        have := List.length_filter_le (fun n => v.rus.any fun ru => decide (n ∈ keptBy ru (v.ns ++ ms))) (v.ns ++ ms)
        rw [List.length_append] at this
        exact sz (by unfold keptF; omega)
      intro z2 n_z2
      generalize hG_ : upd _ z2 _ = H5
      obtain ⟨s5, hz2⟩ := newF n_z2 hG_
      clear hG_
      rw [← List.map_append] at hz2
      have hll : (keptF v.rus (v.ns ++ ms) ++ v.ps).length ≤ 300 := by
        have := List.length_filter_le (fun n => v.rus.any fun ru => decide (n ∈ keptBy ru (v.ns ++ ms))) (v.ns ++ ms)
        rw [List.length_append] at this ⊢
        unfold keptF
        omega
      refine ⟨z2, _, rfl, sqL hz2, by omega, fun z3 c hz3 hc => ?_⟩
      generalize hG_ : upd H5 z3 _ = H6
      obtain ⟨s6, hz6⟩ := newF hz3 hG_
      clear hG_
      refine ⟨z3, _, c, rfl, hz6, by omega, fun L z4 hr4 hm4 hc4 hz4 => ?_⟩
      have sAll := s1.trans (s24.trans (s5.trans (s6.trans (same_upd (o := .lst (L.map V.int)) hz4))))
      refine q' z4 L _ sAll ?_ hr4 (fun z => ?_) upd_same
      · exact s1.free (s24.free (s5.free (s6.free hz4)))
      · rw [hm4, decide_eq_true_eq, List.mem_append]
    intro z0 n_z0
    generalize hG_ : upd _ z0 _ = H2
    obtain ⟨s2, hz0⟩ := newF n_z0 hG_
    clear hG_
    refine neD (d := dLI ms) (e := dLI []) (dp_LI (sqL (s2 _ _ hl1))) (dp_LI (sqL hz0)) (gd_dLI (k := 0) _) (gd_dLI (k := 0) _) (fun e => ⟨_, rfl, ?_⟩) (fun e => ⟨_, rfl, ?_⟩)
    · rw [if_neg Bool.false_ne_true]
      have e := dLI_inj.mp e
      exact rest H2 s2 fun m0 l' h => by rw [e] at h; cases h
    · rw [if_pos rfl]
      obtain ⟨m0, ms', hms⟩ : ∃ m0 ms', ms = m0 :: ms' := by
        cases ms with
        | nil => exact absurd rfl e
        | cons a b => exact ⟨a, b, rfl⟩
      have hm0 : ms.head? = some m0 := by rw [hms]; rfl
      refine ⟨_, dx, _, s2 _ _ hk, kc.o.cl, kc.nl, _, kfs_last, ?_⟩
      cases hla : v.last with
      | none =>
        rw [if_neg (fun e => e rfl)]
        exact rest H2 s2 fun m l' _ h => by rw [hla] at h; cases h
      | some l' =>
        rw [if_pos (fun e => nomatch e)]
        refine ixL (j := 0) (sqL (s2 _ _ hl1)) rfl (by rw [hms]; rfl) ?_
        rw [hla] at hk
        refine ⟨_, dx, _, s2 _ _ hk, kc.o.cl, kc.nl, _, kfs_last, m0, rfl, l', rfl, ?_⟩
        refine ite2 (fun c1 => ?_) (fun c1 => rest H2 s2 fun m l'' h h2 => by rw [hla] at h2; rw [hm0] at h; cases h; cases h2; omega)
        have q' : ∀ d H', Same H H' → H' d = some (.xd [("last", .int l')]) → E (.ref (cls mg "Elder")) (some d) H' := by
          rcases q with ⟨m1, l1, h1, h2, h3, q⟩ | ⟨q, _⟩
          · rw [hla] at h2; cases h2; exact q
          · have := q m0 l' hm0 hla
            omega
        have s12 := Same.trans s1 s2
        refine ⟨_, dx, _, s2 _ _ hk, kc.o.cl, kc.nl, _, kfs_last, fun a ha => ⟨a, _, rfl, upd_same, fun d hd hda => ⟨rfl, d, upd_same, [("last", .int l')], ?_, ?_, ?_⟩⟩⟩
        · rw [upd_ne hda]; exact upd_same
        · rw [upd_ne hda] at hd; exact hd
        · refine q' d _ (fun b o hb => ?_) upd_same
          have hb2 := s12 _ _ hb
          have h1 : b ≠ a := ne_of_none hb2 ha
          have h2 : b ≠ d := ne_of_none hb2 (by rw [upd_ne hda] at hd; exact hd)
          rw [upd_ne h2, del_ne h1, upd_ne h1, upd_ne h2, upd_ne h1]
          exact hb2
end
end Nk
namespace Nk
open PySem L2
section
variable {P : Program} {w : World} {K : PySem.W.Frag} {mg : Str → Option Value} {base : Heap}
section
variable {X : Cx}
def tJoined (ts : List TE) : TE := fun σ H Q => L2.tJs ts Str.empty σ H fun out H1 => Q (.str out) H1
theorem pe_joinedD {v1 v2 : Expr} {rest : List Expr} {ts : List TE} {pos : Pos} (h : PJ X (v1 :: v2 :: rest) ts) : PE X (.JoinedStr (v1 :: v2 :: rest) pos) (tJoined ts) := pe_joined h
end
theorem sapp_len (a b : Str) : (a ++ b).length = a.length + b.length := by
  show (a.cps ++ b.cps).size = _
  exact Array.size_append
theorem sempty_app (a : Str) : Str.empty ++ a = a := by
  obtain ⟨c⟩ := a
  show Str.mk (#[] ++ c) = _
  rw [Array.empty_append]
theorem num_len : ∀ k : Nat, k < 100 → (Str.ofString (toString (k : Int))).length ≤ 2 := by decide +kernel
theorem num_log : ∀ k : Nat, k < 100 → k.log2 < 1920 := by decide +kernel
theorem num99 {i : Int} (h0 : 0 ≤ i) (h1 : i ≤ 99) : (Str.ofString (toString i)).length ≤ 2 ∧ i.natAbs.log2 < 1920 := by
  obtain ⟨k, rfl⟩ := Int.eq_ofNat_of_zero_le h0
  exact ⟨num_len k (by omega), num_log k (by omega)⟩
theorem dget_s {H : Hp} {a : Addr} {kvs : List (Key × V)} {n : Str} {v : V} (h : H a = some (.dK kvs)) (e : valV kvs (Sum.inr n) = some v) : DGet H a (.str n) (some v) := by
  rw [← e]; exact DGet.k (k := Sum.inr n) h
theorem sum_lens {B : Nat} : ∀ {l : List Str}, (∀ y ∈ l, y.length ≤ B) → (l.map (·.length)).sum ≤ l.length * B
  | [], _ => by simp
  | a :: l, h => by
    have h1 := h a (by simp)
    have h2 := sum_lens (l := l) fun y hy => h y (by simp [hy])
    simp only [List.map_cons, List.sum_cons, List.length_cons]
    rw [Nat.add_mul, Nat.one_mul]
    omega
/-- names with numbers, written -/
def txtP (t : Tb) (n : Str) : Str := n ++ ("=" : Str) ++ Str.ofString (toString ((lk t n).getD 0))
def txtT (t : Tb) : Str := Txt.join " " ((srt (nms t)).map (txtP t))
theorem one_len : (("=" : Str)).length = 1 := by decide +kernel
theorem spc_len : ((" " : Str)).length = 1 := by decide +kernel
theorem txtP_len {t : Tb} (ok : OkT t) {n : Str} (h : n ∈ nms t) : ∃ i, lk t n = some i ∧ 0 ≤ i ∧ i ≤ 99 ∧ n.length ≤ 6 ∧ (txtP t n).length ≤ 9 ∧ txtP t n = n ++ ("=" : Str) ++ Str.ofString (toString i) := by
  obtain ⟨pr, hpr, hpn⟩ := List.mem_map.mp h
  have hnm := ok.nm pr hpr
  rw [hpn] at hnm
  have hlk : lk t n = some pr.2 := by rw [← hpn]; exact lk_of ok.nd hpr
  have hnum := ok.num pr hpr
  have hn6 : n.length ≤ 6 := hnm.2.1
  have eg : txtP t n = n ++ ("=" : Str) ++ Str.ofString (toString pr.2) := by unfold txtP; rw [hlk]; rfl
  refine ⟨pr.2, hlk, hnum.1, hnum.2, hn6, ?_, eg⟩
  rw [eg, sapp_len, sapp_len, one_len]
  have := (num99 hnum.1 hnum.2).1
  omega
theorem srt_len {t : Tb} (h : t.length ≤ 20) : (srt (nms t)).length ≤ 20 := Nat.le_trans (nodup_le (pw_nodup pw_srt) (m := nms t) fun x hx => mem_srt.mp hx) (by simpa [nms] using h)
theorem glue_fold (a : Str) : ∀ (l : List Str) (b : Array Nat), (l.foldl (fun acc p => acc ++ a.cps ++ p.cps) b).size = b.size + (l.map (·.length)).sum + l.length * a.length
  | [], b => by simp
  | p :: l, b => by
    rw [List.foldl_cons, glue_fold a l, Array.size_append, Array.size_append, List.map_cons, List.sum_cons, List.length_cons, Nat.add_mul, Nat.one_mul]
    show b.size + a.length + p.length + _ + _ = _
    omega
theorem join_len (a : Str) (ys : List Str) : (Txt.join a ys).length ≤ (ys.map (·.length)).sum + ys.length * a.length := by
  cases ys with
  | nil => show (0 : Nat) ≤ _; exact Nat.zero_le _
  | cons y ys =>
    show (ys.foldl (fun acc p => acc ++ a.cps ++ p.cps) y.cps).size ≤ _
    rw [glue_fold, List.map_cons, List.sum_cons, List.length_cons, Nat.add_mul, Nat.one_mul]
    show y.length + _ + _ ≤ _
    omega
theorem txt_size {t : Tb} (ok : OkT t) (h : t.length ≤ 20) : (((srt (nms t)).map (txtP t)).map (·.length)).sum + ((srt (nms t)).map (txtP t)).length * (Str.ofString " ").length ≤ 16777216 := by
  have h1 := sum_lens (B := 9) (l := (srt (nms t)).map (txtP t)) fun y hy => by
    obtain ⟨n, hn, rfl⟩ := List.mem_map.mp hy
    obtain ⟨_, _, _, _, _, h9, _⟩ := txtP_len ok (mem_srt.mp hn)
    exact h9
  have h2 := srt_len h
  have h3 : (Str.ofString " ").length = 1 := spc_len
  rw [h3]
  rw [List.length_map] at h1 ⊢
  omega
theorem txtT_len {t : Tb} (ok : OkT t) (h : t.length ≤ 20) : (txtT t).length ≤ 200 := by
  have h0 := join_len " " ((srt (nms t)).map (txtP t))
  have h1 := sum_lens (B := 9) (l := (srt (nms t)).map (txtP t)) fun y hy => by
    obtain ⟨n, hn, rfl⟩ := List.mem_map.mp hy
    obtain ⟨_, _, _, _, _, h9, _⟩ := txtP_len ok (mem_srt.mp hn)
    exact h9
  have h2 := srt_len h
  have h3 : (Str.ofString " ").length = 1 := spc_len
  rw [h3] at h0
  rw [List.length_map] at h0 h1
  show (Txt.join " " _).length ≤ _
  omega
end
end Nk
/-! ### a store's lines -/
namespace Nk
open PySem L2
section
variable {X : Cx}
/-- s.split(sign) -/
def rSplit : V → List V → Hp → VK → Prop := fun x xs H Q => ∃ a b, x = .str a ∧ xs = [.str b] ∧ (b.length == 0) = false ∧ a.length + 2 ≤ sizeLine ∧ ∀ p, H p = none → Q (.ref p) (upd H p (.lst ((Txt.split a b).map V.str)))
theorem mt_splitT : MtR X "str.split" rSplit := mt_split
/-- s.partition(sign) -/
def rPart : V → List V → Hp → VK → Prop := fun x xs H Q => ∃ a b, x = .str a ∧ xs = [.str b] ∧ (b.length == 0) = false ∧ a.length ≤ sizeLine ∧
  ∀ p, H p = none → Q (.ref p) (upd H p (.tup [.str (Txt.partition a b).1, .str (Txt.partition a b).2.1, .str (Txt.partition a b).2.2]))
theorem mt_partT : MtR X "str.partition" rPart := mt_partition
end
section
variable {P : Program} {w : World} {K : PySem.W.Frag} {mg : Str → Option Value} {base : Heap}
def numT (i : Int) : Str := Str.ofString (toString i)
theorem numT_ok {i : Int} (h0 : 0 ≤ i) (h1 : i ≤ 1000000000) : (numT i).length ≤ 11 ∧ i.natAbs.log2 < 1920 := by
  have hn : i.natAbs < 10 ^ 10 := by omega
  refine ⟨?_, ?_⟩
  · have := int_text_length_le10 (a := i) (k := 10) (by decide) hn
    show (Str.ofString (toString i)).length ≤ 11
    rw [ofString_length]
    exact this
  · by_cases h : i.natAbs = 0
    · rw [h]; decide
    · refine (Nat.log2_lt h).mpr (Nat.lt_of_lt_of_le hn ?_)
      exact Nat.le_trans (by decide : (10 ^ 10 : Nat) ≤ 2 ^ 34) (Nat.pow_le_pow_right (by decide) (by decide))
/-- a pair of a part, written -/
def txtQ : Str × Option Int → Str
  | (n, none) => n
  | (n, some i) => n ++ ("=" : Str) ++ numT i
def wordsR (rs : Rows) (i : Nat) (r : Row) : List Str :=
  if r.w = true then numT r.n :: "whole" :: (srt (nms r.t)).map fun n => txtQ (n, lk r.t n)
  else numT r.n :: "part" :: (part ((rs[i - 1]?.map Row.t).getD []) r.t).map txtQ
def lineR (rs : Rows) (i : Nat) (r : Row) : Str := Txt.join " " (wordsR rs i r)
def lineU (ru : List Int × Int) : Str := ("rule " : Str) ++ Txt.join "," (ru.1.map numT) ++ (" " : Str) ++ numT ru.2
def linesU (rus : List (List Int × Int)) : List Str := rus.map lineU
def linesL : Option Int → List Str
  | none => []
  | some l => [("last " : Str) ++ numT l]
def linesR (rs : Rows) (n : Nat) : List Str := (List.range n).map fun i => ((rs[i]?).map (lineR rs i)).getD Str.empty
def linesP (ps : List Int) : List Str := ps.map fun p => ("pin " : Str) ++ numT p
def linesH (v : SV) : List Str := [("longest " : Str) ++ numT v.deep]
def linesS (v : SV) : List Str := linesH v ++ linesU v.rus ++ linesL v.last ++ linesR v.rows v.rows.length ++ linesP v.ps
abbrev nm_pair_text : List Str := ["name", "number"]
abbrev pm_pair_text : List Str := ["name", "number"]
abbrev lv_pair_text : Nat := 1
theorem sc_pair_text : FnScope nm_pair_text pm_pair_text (defScope s_pair_text) := ⟨rfl, rfl, rfl, by decide +kernel, rfl, by decide +kernel, by decide +kernel⟩
def sp_pair_text : Sp := fun vs H Q _ => ∃ (n : Str) (o : Option Int), vs = [.str n, numV o] ∧ n.length ≤ 1000 ∧ (∀ i, o = some i → 0 ≤ i ∧ i ≤ 1000000000) ∧ Q (.str (txtQ (n, o))) H
theorem f_pair_text (T : Txt K mg) : Fk P w K mg base CX0 lv_pair_text "pair_text" pm_pair_text sp_pair_text := by
  obtain ⟨f, fd, F, g, b⟩ := T.d_pair_text.ex
  refine ⟨f, fd, g, F.kp, b, F.ok sc_pair_text (fun vs H Q E h => ?_) (fun cdv A outer s H vs Q E hr h => ?_)⟩
  · obtain ⟨n, o, rfl, _⟩ := h; rfl
  · obtain ⟨n, o, rfl, hn, ho, q⟩ := h
    refine ⟨_, (pss_one (ps_ret (pe_ifExp (pt_cmpR op_isN (pv 1) pe_non (nomark _)) (pv 0) (pe_joinedD (.cons (pe_fmt (pv 0)) (.cons pe_str (.cons (pe_fmt (pv 1)) .nil))))))), ?_⟩
    walk_at "ru"
    cases o with
    | none =>
      rw [if_pos (show numV none = V.non from rfl)]
      exact q
    | some i =>
      rw [if_neg (by simp [numV])]
      obtain ⟨h0, h1⟩ := ho i rfl
      obtain ⟨hl, hlog⟩ := numT_ok h0 h1
      simp only [tJoined, L2.tJs, L2.tFmt, numV]
      walk_at "ru"
      have hle : ∀ {m : Nat}, m ≤ 2000 → m ≤ sizeLine := fun h => sz (by omega)
      have e1 : (Str.ofString "=").length = 1 := one_len
      refine .inl ⟨hle (by omega), hle (by rw [sempty_app]; omega), hle (by rw [sempty_app, sapp_len, e1]; omega), .inr ⟨hlog, hle (by rw [sempty_app, sapp_len, sapp_len, e1]; exact Nat.le_trans (Nat.add_le_add_left hl _) (by omega)), ?_⟩⟩
      rw [sempty_app]
      exact q
abbrev nm_copy_line : List Str := ["store", "night", "ahead", "state", "some", "name", "number"]
abbrev pm_copy_line : List Str := ["store", "night", "ahead"]
abbrev lv_copy_line : Nat := 4
theorem sc_copy_line : FnScope nm_copy_line pm_copy_line (defScope s_copy_line) := ⟨rfl, rfl, rfl, by decide +kernel, rfl, by decide +kernel, by decide +kernel⟩
theorem join_ok {ws : List Str} (hl : ws.length ≤ 50) (hw : ∀ w ∈ ws, w.length ≤ 1000) : (ws.map (·.length)).sum + ws.length * (Str.ofString " ").length ≤ 16777216 := by
  have h1 := sum_lens hw
  have h3 : (Str.ofString " ").length = 1 := spc_len
  rw [h3]
  have : ws.length * 1000 ≤ 50 * 1000 := Nat.mul_le_mul_right _ hl
  omega
theorem txtQ_len {n : Str} {o : Option Int} (hn : n.length ≤ 6) (ho : ∀ i, o = some i → 0 ≤ i ∧ i ≤ 99) : (txtQ (n, o)).length ≤ 20 := by
  cases o with
  | none => show n.length ≤ 20; omega
  | some i =>
    obtain ⟨h0, h1⟩ := ho i rfl
    have := (numT_ok h0 (by omega)).1
    show (n ++ ("=" : Str) ++ numT i).length ≤ 20
    rw [sapp_len, sapp_len, one_len]
    omega
theorem nm_len {n : Str} (h : isNm n) : n.length ≤ 6 := h.2.1
def sp_copy_line (K : PySem.W.Frag) (mg : Str → Option Value) : Sp := fun vs H Q _ => ∃ (k : Addr) (S R : List Addr) (v : SV) (i : Nat) (r : Row) (ah : V), vs = [.ref k, .int r.n, ah] ∧ StoreAt K mg H k S R v ∧ v.rows[i]? = some r ∧ (r.w = false → ∃ p, v.rows[i - 1]? = some p ∧ ah = .int p.n) ∧
  ∀ H', Same H H' → Q (.str (lineR v.rows i r)) H'
theorem f_copy_line (T : Txt K mg) : Fk P w K mg base CX0 lv_copy_line "copy_line" pm_copy_line (sp_copy_line K mg) := by
  obtain ⟨f, fd, F, g, b⟩ := T.d_copy_line.ex
  refine ⟨f, fd, g, F.kp, b, F.ok sc_copy_line (fun vs H Q E h => ?_) (fun cdv A outer s H vs Q E hr h => ?_)⟩
  · obtain ⟨k, S, R, v, i, r, ah, rfl, _⟩ := h; rfl
  · obtain ⟨k, S, R, v, i, r, ah, rfl, hSt, hri, hah, q⟩ := h
    have hu := hu_of hr
    refine ⟨_, (pss_cons (ps_set (i := 3) sc_copy_line.nd rfl (.inr rfl) (pe_dget hu (pe_fld (pv 0) rfl) (pv 1) (fun _ _ => rfl)))
      (pss_cons (ps_if (pt_val (pe_dget hu (pe_fld (pv 0) rfl) (pv 1) (fun _ _ => rfl))) (pss_cons (ps_setLc (own := [("name", 5)]) (g := gName 5) (tt := tYes) (i := 4) (by rfl) sc_copy_line.nd rfl rfl (sw_true rfl rfl rfl (by decide +kernel)) (pi_list (pe_me0 (pv 3) T.o_State (f_State__names T) (hr.mono (by decide)) pass0)) (blkOk_by (own := [("name", 5)]) (N := nm_copy_line) (sc := defScope s_copy_line) (by decide +kernel)) (fun _ _ _ _ _ => (pg_name (i := 5) sc_copy_line.nd rfl (Or.inl rfl))) (fun _ _ _ _ _ => pts_nil) (fun _ _ _ _ _ => (pe_fn (f_pair_text T) (hr.mono (by decide)) (by rfl) pass0 (pa_cons (pv 5) (pa_cons (pe_meK mg rfl (pv 3) T.o_State (f_State__number T) (hr.mono (by decide)) pass0 (pa_cons (pv 5) pa_nil)) pa_nil)))))
      (pss_one (ps_ret (pe_bm PySem.F.plainAttrs_str PySem.F.slot_str_join PySem.F.type_str_join mt_joinT pe_str (pa_cons (pe_op op_cat (pe_lst (pa_cons (pe_callTy call_str_int (by rfl) T.b_str (by decide +kernel) (pa_cons (pv 1) pa_nil)) (pa_cons pe_str pa_nil))) (pv 4)) pa_nil))))) pss_nil)
      (pss_cons (ps_setLc (own := [("name", 5), ("number", 6)]) (g := gTup K 2 (gCons (gName 5) (gCons (gName 6) (gNil)))) (tt := tYes) (i := 4) (by rfl) sc_copy_line.nd rfl rfl (sw_true rfl rfl rfl (by decide +kernel)) (pi_list (pe_fn (f_part_of T) (hr.mono (by decide)) (by rfl) pass0 (pa_cons (pe_dget hu (pe_fld (pv 0) rfl) (pv 2) (fun _ _ => rfl)) (pa_cons (pv 3) pa_nil)))) (blkOk_by (own := [("name", 5), ("number", 6)]) (N := nm_copy_line) (sc := defScope s_copy_line) (by decide +kernel)) (fun _ _ _ _ _ => (pg_tupK K rfl rfl (pgs_cons (pg_name (i := 5) sc_copy_line.nd rfl (Or.inl rfl)) (pgs_cons (pg_name (i := 6) sc_copy_line.nd rfl (Or.inl rfl)) pgs_nil)))) (fun _ _ _ _ _ => pts_nil) (fun _ _ _ _ _ => (pe_fn (f_pair_text T) (hr.mono (by decide)) (by rfl) pass0 (pa_cons (pv 5) (pa_cons (pv 6) pa_nil)))))
      (pss_one (ps_ret (pe_bm PySem.F.plainAttrs_str PySem.F.slot_str_join PySem.F.type_str_join mt_joinT pe_str (pa_cons (pe_op op_cat (pe_lst (pa_cons (pe_callTy call_str_int (by rfl) T.b_str (by decide +kernel) (pa_cons (pv 1) pa_nil)) (pa_cons pe_str pa_nil))) (pv 4)) pa_nil))))))), ?_⟩
    obtain ⟨W, F, S0, kvs, rfl, hK, hWF, hW, hF, hSh⟩ := hSt.at_
    obtain ⟨dx, ra, N, Pn, rfl, hNP, hk, hR, hN, hP⟩ := hK.at_
    have kc := hK.kc
    have nd := hSt.nd
    have hrm := mem_of_get hri
    have hbn := hK.bnd r.n (List.mem_map.mpr ⟨r, hrm, rfl⟩)
    obtain ⟨p, hv, hp⟩ := hSh.val nd r hrm
    have hpS := hp.st
    obtain ⟨dxp, dp, gp1, gp2⟩ := hpS.ex
    with_reducible refine seq_k fun K_ hK_ => ?_
    walk_at "ru"
    refine ⟨_, dx, _, hk, kc.o.cl, hSt.sc.ns, _, sf_shelf, F, rfl, _, dget_i hF hv, ?_⟩
    walk_at "ru"
    subst hK_
    first | with_reducible refine seq_k fun K_ hK_ => ?_ | skip
    walk_at "ru"
    refine ⟨_, dx, _, hk, kc.o.cl, hSt.sc.nw, _, sf_wholes, W, rfl, _, dget_i hW (whK_val nd r hrm), _, rfl, ?_⟩
    refine ite2 (fun c => ?_) (fun c => ?_)
    · clear hK_
      have okr := hpS.ok
      have hlr := hpS.len
      with_reducible refine seq_k fun K_ hK_ => ?_
      walk_at "ru"
      refine ⟨dxp, _, gp1, rfl, p, r.t, rfl, hpS, fun l1 H1 s1 nl1 hl1 => ?_⟩
      have hN1 := srt_len hlr
      refine ⟨l1, rfl, ⟨_, sqL hl1⟩, fun D hD => ?_⟩
      refine lcL hD (sqL hl1) (fun i => ((srt (nms r.t)).take i).map fun n => V.str (txtQ (n, lk r.t n))) rfl (fun j x HE hx pw => ?_) (fun HE sE hDE => ?_)
      · rw [List.getElem?_map] at hx
        cases ex : (srt (nms r.t))[j]? with
        | none => rw [ex] at hx; cases hx
        | some n =>
        rw [ex] at hx
        cases hx
        obtain ⟨i', hlk, h0, h9, hn6, _, _⟩ := txtP_len okr (mem_srt.mp (mem_of_get ex))
        walk_at "ru"
        refine ⟨dxp, _, pw.same _ _ (s1 _ _ gp1), rfl, p, r.t, .str n, "str", rfl, (hpS.same s1).same pw.same, .str n, fun z e => by cases e; exact Nat.le_trans hn6 (by decide), fun HF sF => ?_⟩
        refine ⟨n, lk r.t n, rfl, by omega, fun i2 e => ?_, ?_⟩
        · rw [hlk] at e; cases e; omega
        exact pw.push hD (by rw [List.length_map, List.length_take]; omega) sF (by rw [map_take_next _ ex])
      · rw [List.length_map, List.take_length] at hDE
        walk_at "ru"
        subst hK_
        first | with_reducible refine seq_k fun K_ hK_ => ?_ | skip
        walk_at "ru"
        obtain ⟨hnl, hlog⟩ := numT_ok hbn.1 hbn.2
        refine ⟨rfl, hlog, ?_⟩
        intro q1 n_q1
        generalize hG_ : upd _ q1 _ = HF
        obtain ⟨sF, hq1⟩ := newF n_q1 hG_
        clear hG_
        refine ⟨q1, D, _, _, rfl, rfl, hq1, sF _ _ hDE, sz (by simp; omega), ?_⟩
        intro q2 n_q2
        generalize hG_ : upd _ q2 _ = HG
        obtain ⟨sG, hq2⟩ := newF n_q2 hG_
        clear hG_
        have ew : wordsR v.rows i r = numT r.n :: "whole" :: (srt (nms r.t)).map fun n => txtQ (n, lk r.t n) := by unfold wordsR; rw [if_pos c]
        refine ⟨" ", q2, wordsR v.rows i r, rfl, rfl, sqL (by rw [hq2, ew, List.map_cons, List.map_cons, List.map_map]; rfl), join_ok (by rw [ew]; simp; omega) (fun w hw => ?_), q _ (((s1.trans sE).trans sF).trans sG)⟩
        rw [ew] at hw
        simp only [List.mem_cons, List.mem_map] at hw
        rcases hw with rfl | rfl | ⟨n, hn, rfl⟩
        · omega
        · decide +kernel
        · obtain ⟨i', hlk, h0, h9, hn6, _, _⟩ := txtP_len okr (mem_srt.mp hn)
          exact Nat.le_trans (txtQ_len hn6 fun i2 e => by rw [hlk] at e; cases e; omega) (by decide)
    · have c : r.w = false := by simpa using c
      obtain ⟨r', hr', rfl⟩ := hah c
      obtain ⟨p', hv', hp'⟩ := hSh.val nd r' (mem_of_get hr')
      walk_at "ru"
      subst hK_
      first | with_reducible refine seq_k fun K_ hK_ => ?_ | skip
      walk_at "ru"
      refine ⟨_, dx, _, hk, kc.o.cl, hSt.sc.ns, _, sf_shelf, F, rfl, _, dget_i hF hv', p', p, r'.t, r.t, rfl, hp'.st, hp.st, fun l1 H1 s1 nl1 hl1 => ?_⟩
      obtain ⟨xs, hx1, hPA⟩ := hl1
      have gP := part_good hp'.st.ok hp.st.ok hp'.st.len hp.st.len
      refine ⟨l1, rfl, ⟨_, sqL hx1⟩, fun D hD => ?_⟩
      refine lcL hD (sqL hx1) (fun i => ((part r'.t r.t).take i).map fun p => V.str (txtQ p)) rfl (fun j x HE hx pw => ?_) (fun HE sE hDE => ?_)
      · obtain ⟨pr, q, hpr, rfl, hq⟩ := hPA.get hx
        have hq' := pw.same _ _ hq
        refine ⟨q, _, rfl, sqT hq', rfl, ?_⟩
        walk_at "ru"
        refine ⟨pr.1, pr.2, rfl, by have := nm_len (gP.nm pr (mem_of_get hpr)); omega, fun i2 e => by have := gP.num pr (mem_of_get hpr) i2 e; omega, ?_⟩
        exact pw.push hD (by rw [List.length_map, List.length_take]; have := gP.len; omega) (Same.refl _) (by rw [map_take_next _ hpr])
      · rw [hPA.len, List.take_length] at hDE
        have gl := gP.len
        walk_at "ru"
        subst hK_
        first | with_reducible refine seq_k fun K_ hK_ => ?_ | skip
        walk_at "ru"
        obtain ⟨hnl, hlog⟩ := numT_ok hbn.1 hbn.2
        refine ⟨rfl, hlog, ?_⟩
        intro q1 n_q1
        generalize hG_ : upd _ q1 _ = HF
        obtain ⟨sF, hq1⟩ := newF n_q1 hG_
        clear hG_
        refine ⟨q1, D, _, _, rfl, rfl, hq1, sF _ _ hDE, sz (by simp; omega), ?_⟩
        intro q2 n_q2
        generalize hG_ : upd _ q2 _ = HG
        obtain ⟨sG, hq2⟩ := newF n_q2 hG_
        clear hG_
        have ew : wordsR v.rows i r = numT r.n :: "part" :: (part r'.t r.t).map txtQ := by
          unfold wordsR
          rw [if_neg (by rw [c]; simp), hr']
          rfl
        refine ⟨" ", q2, wordsR v.rows i r, rfl, rfl, sqL (by rw [hq2, ew, List.map_cons, List.map_cons, List.map_map]; rfl), join_ok (by rw [ew]; simp; omega) (fun w hw => ?_), q _ (((s1.trans sE).trans sF).trans sG)⟩
        rw [ew] at hw
        simp only [List.mem_cons, List.mem_map] at hw
        rcases hw with rfl | rfl | ⟨pr, hpr, rfl⟩
        · omega
        · decide +kernel
        · exact Nat.le_trans (txtQ_len (nm_len (gP.nm pr hpr)) fun i2 e => gP.num pr hpr i2 e) (by decide)
abbrev nm_written : List Str := ["store", "found", "rounds", "many", "lengths", "ahead", "night", "one"]
abbrev pm_written : List Str := ["store"]
abbrev lv_written : Nat := 5
theorem sc_written : FnScope nm_written pm_written (defScope s_written) := ⟨rfl, rfl, rfl, by decide +kernel, rfl, by decide +kernel, by decide +kernel⟩
/-- the lines so far, in a list of one's own -/
structure WrAt (H0 : Hp) (p : Addr) (L : List Str) (H : Hp) : Prop where
  same : Same H0 H
  nw : H0 p = none
  at_ : H p = some (.lst (L.map V.str))
theorem WrAt.more {H0 H H' : Hp} {p : Addr} {L : List Str} (h : WrAt H0 p L H) (s : Same H H') : WrAt H0 p L H' := ⟨h.same.trans s, h.nw, s _ _ h.at_⟩
theorem WrAt.push {H0 H : Hp} {p : Addr} {L L' : List Str} {y : Str} (h : WrAt H0 p L H) (e : L' = L ++ [y]) : WrAt H0 p L' (upd H p (.lst (L.map V.str ++ [.str y]))) := by
  refine ⟨Same.keepN h.same h.nw, h.nw, ?_⟩
  rw [upd_same, e, List.map_append]
  rfl
def iv_wrR (H0 : Hp) (k p : Addr) (v : SV) (y2 y3 y4 : Option V) (i : Nat) (σ : L2.St) (H : Hp) : Prop := (∃ ah y6, σ = [some (.ref k), some (.ref p), y2, y3, y4, some ah, y6, none] ∧ (i = 0 → ah = .non) ∧ (1 ≤ i → ah = ((v.rows[i - 1]?).map fun r => V.int r.n).getD .non)) ∧ WrAt H0 p (linesH v ++ linesU v.rus ++ linesL v.last ++ linesR v.rows i) H
def iv_wrU (H0 : Hp) (k p : Addr) (v : SV) (i : Nat) (σ : L2.St) (H : Hp) : Prop := (∃ y2 y3 y4, σ = [some (.ref k), some (.ref p), y2, y3, y4, none, none, none]) ∧ WrAt H0 p (linesH v ++ linesU (v.rus.take i)) H
def sp_written (K : PySem.W.Frag) (mg : Str → Option Value) : Sp := fun vs H Q _ => ∃ (k : Addr) (S R : List Addr) (v : SV), vs = [.ref k] ∧ StoreAt K mg H k S R v ∧
  ∀ l H', Same H H' → H l = none → H' l = some (.lst ((linesS v).map V.str)) → Q (.ref l) H'
theorem f_written (T : Txt K mg) : Fk P w K mg base CX0 lv_written "written" pm_written (sp_written K mg) := by
  obtain ⟨f, fd, F, g, b⟩ := T.d_written.ex
  refine ⟨f, fd, g, F.kp, b, F.ok sc_written (fun vs H Q E h => ?_) (fun cdv A outer s H vs Q E hr h => ?_)⟩
  · obtain ⟨k, S, R, v, rfl, _⟩ := h; rfl
  · obtain ⟨k, S, R, v, rfl, hSt, q⟩ := h
    have hu := hu_of hr
    refine ⟨_, (pss_cons (ps_set (i := 1) sc_written.nd rfl (.inl rfl) (pe_lst (pa_cons (pe_joinedD (.cons pe_str (.cons (pe_fmt (pe_fld (pv 0) rfl)) .nil))) pa_nil)))
      (pss_cons (ps_for PassesOwn.never rfl (pi_tup (pe_fld (pv 0) rfl)) (pg_tup rfl (pgs_cons (pg_name (i := 2) sc_written.nd rfl (Or.inl rfl)) (pgs_cons (pg_name (i := 3) sc_written.nd rfl (Or.inl rfl)) pgs_nil))) (pss_cons (ps_set (i := 4) sc_written.nd rfl (.inl rfl) (pe_bm PySem.F.plainAttrs_str PySem.F.slot_str_join PySem.F.type_str_join mt_joinT pe_str (pa_cons (pe_lc (own := [("one", 7)]) (g := gName 7) (tt := tYes) (by rfl) sc_written.nd (pi_tup (pv 2)) (blkOk_by (own := [("one", 7)]) (N := nm_written) (sc := defScope s_written) (by decide +kernel)) (fun _ _ _ _ _ => (pg_name (i := 7) sc_written.nd rfl (Or.inl rfl))) (fun _ _ _ _ _ => pts_nil) (fun _ _ _ _ _ => (pe_callTy call_str_int (by rfl) T.b_str (by decide +kernel) (pa_cons (pv 7) pa_nil)))) pa_nil)))
      (pss_one (ps_expr (pe_bm PySem.F.plainAttrs_list PySem.F.slot_list_append PySem.F.type_list_append mt_append (pv 1) (pa_cons (pe_joinedD (.cons pe_str (.cons (pe_fmt (pv 4)) (.cons pe_str (.cons (pe_fmt (pv 3)) .nil))))) pa_nil))))))
      (pss_cons (ps_if (pt_cmpR op_notN (pe_fld (pv 0) rfl) pe_non (nomark _)) (pss_one (ps_expr (pe_bm PySem.F.plainAttrs_list PySem.F.slot_list_append PySem.F.type_list_append mt_append (pv 1) (pa_cons (pe_joinedD (.cons pe_str (.cons (pe_fmt (pe_fld (pv 0) rfl)) .nil))) pa_nil)))) pss_nil)
      (pss_cons (ps_set (i := 5) sc_written.nd rfl (.inl rfl) pe_non)
      (pss_cons (ps_for PassesOwn.never rfl (pi_list (pe_fld (pv 0) rfl)) (pg_name (i := 6) sc_written.nd rfl (Or.inl rfl)) (pss_cons (ps_expr (pe_bm PySem.F.plainAttrs_list PySem.F.slot_list_append PySem.F.type_list_append mt_append (pv 1) (pa_cons (pe_fn (f_copy_line T) (hr.mono (by decide)) (by rfl) pass0 (pa_cons (pv 0) (pa_cons (pv 6) (pa_cons (pv 5) pa_nil)))) pa_nil)))
      (pss_one (ps_set (i := 5) sc_written.nd rfl (.inl rfl) (pv 6)))))
      (pss_one (ps_ret (pe_op op_cat (pv 1) (pe_lc (own := [("night", 6)]) (g := gName 6) (tt := tYes) (by rfl) sc_written.nd (pi_list (pe_fld (pv 0) rfl)) (blkOk_by (own := [("night", 6)]) (N := nm_written) (sc := defScope s_written) (by decide +kernel)) (fun _ _ _ _ _ => (pg_name (i := 6) sc_written.nd rfl (Or.inl rfl))) (fun _ _ _ _ _ => pts_nil) (fun _ _ _ _ _ => (pe_joinedD (.cons pe_str (.cons (pe_fmt (pv 6)) .nil))))))))))))), ?_⟩
    obtain ⟨W, F, S0, kvs, rfl, hK, hWF, hW, hF, hSh⟩ := hSt.at_
    obtain ⟨dx, ra, N, Pn, rfl, hNP, hk, hR, hN, hP⟩ := hK.at_
    have kc := hK.kc
    have nd := hSt.nd
    have hd1 := hSt.d1
    have hd10 := hSt.d10
    have hle : ∀ {m : Nat}, m ≤ 2000 → m ≤ sizeLine := fun h => sz (by omega)
    obtain ⟨hdl, hdlog⟩ := numT_ok (i := (v.deep : Int)) (by omega) (by omega)
    have e8 : (Str.ofString "longest ").length = 8 := by decide +kernel
    with_reducible refine seq_k fun K_ hK_ => ?_
    walk_at "ru"
    simp only [tJoined, L2.tJs, L2.tFmt]
    walk_at "ru"
    refine ⟨hle (by rw [sempty_app]; omega), _, dx, _, hk, kc.o.cl, hSt.sc.nl, _, sf_longest, .inr ⟨_, rfl, hdlog, hle (by rw [sempty_app, sapp_len]; exact Nat.le_trans (Nat.add_le_add_left hdl _) (by omega)), ?_⟩⟩
    rw [sempty_app]
    intro p n_p
    generalize hG_ : upd _ p _ = H1
    obtain ⟨s1, hp⟩ := newF n_p hG_
    clear hG_
    have W0 : WrAt H p (linesH v) H1 := ⟨s1, n_p, hp⟩
    obtain ⟨xs, hra, hxl, hxi⟩ := hR.ex
    have hr5 : v.rus.length ≤ 5 := hR.l5
    have hrl : v.rows.length ≤ 100 := by have := hK.n100; have e : v.kv.ns.length = v.rows.length := List.length_map _; omega
    have hpl : v.ps.length ≤ 100 := hK.plen
    have hbn := hK.bnd
    have hlb := hK.lb
    walk_at "ru"
    subst hK_
    first | with_reducible refine seq_k fun K_ hK_ => ?_ | skip
    walk_at "ru"
    refine ⟨_, dx, _, W0.same _ _ hk, kc.o.cl, kc.nr, _, kfs_rules, ra, rfl, ⟨_, sqT (W0.same _ _ hra)⟩, ?_⟩
    refine for_it (walk_tup (xs := xs)) (iv_wrU H k p v) ⟨⟨_, _, _, rfl⟩, by show WrAt H p (linesH v ++ []) H1; rw [List.append_nil]; exact W0⟩ (fun j σ HH _ iv => sqT (iv.2.same _ _ hra)) (fun j x σ HA HB hj iv hy => ?_) (fun σ HA iv => ?_)
    · obtain ⟨⟨y2, y3, y4, rfl⟩, WA⟩ := iv
      obtain ⟨rfl, hy⟩ := hy
      obtain ⟨ru, hru, b, ro, rfl, hb, hro, m0, m1⟩ := hxi j x hy
      have hb' := WA.same _ _ hb
      refine ⟨b, _, rfl, sqT hb', rfl, ?_⟩
      have hro' := WA.same _ _ hro.at_
      have hll : ru.1.length ≤ 12 := hro.ln
      walk_at "ru"
      with_reducible refine seq_k fun K_ hK_ => ?_
      walk_at "ru"
      refine ⟨rfl, ⟨_, sqT hro'⟩, fun D hD => ?_⟩
      refine lcT hD (sqT hro') (fun i => (ru.1.take i).map fun n => V.str (numT n)) rfl (fun j2 x HE hx pw => ?_) (fun HE sE hDE => ?_)
      · rw [List.getElem?_map] at hx
        cases ex : ru.1[j2]? with
        | none => rw [ex] at hx; cases hx
        | some n =>
        rw [ex] at hx
        cases hx
        have h0 := hro.ok.pos n (mem_of_get ex)
        have h31 := hro.le n (mem_of_get ex)
        walk_at "ru"
        refine ⟨(numT_ok (by omega) (by omega)).2, ?_⟩
        exact pw.push hD (by rw [List.length_map, List.length_take]; omega) (Same.refl _) (by rw [map_take_next _ ex]; rfl)
      · rw [List.length_map, List.take_length] at hDE
        have hw : ∀ w ∈ ru.1.map numT, w.length ≤ 11 := fun w hw => by
          obtain ⟨n, hn, rfl⟩ := List.mem_map.mp hw
          have h0 := hro.ok.pos n hn
          have h31 := hro.le n hn
          exact (numT_ok (by omega) (by omega)).1
        have ec : (Str.ofString ",").length = 1 := by decide +kernel
        have hsum := sum_lens hw
        rw [List.length_map] at hsum
        have hjl := join_len "," (ru.1.map numT)
        rw [List.length_map, show (("," : Str)).length = 1 from ec] at hjl
        refine ⟨",", D, ru.1.map numT, rfl, rfl, sqL (by rw [hDE, List.map_map]; rfl), by rw [List.length_map, ec]; omega, ?_⟩
        walk_at "ru"
        subst hK_
        first | with_reducible refine seq_k fun K_ hK_ => ?_ | skip
        walk_at "ru"
        have WB := WA.more sE
        refine ⟨tyL WB.at_, ?_⟩
        simp only [tJoined, L2.tJs, L2.tFmt]
        walk_at "ru"
        have e5 : (Str.ofString "rule ").length = 5 := by decide +kernel
        have e1 : (Str.ofString " ").length = 1 := spc_len
        have hjl' : (Txt.join (Str.ofString ",") (ru.1.map numT)).length ≤ 200 := by
          refine Nat.le_trans hjl ?_
          omega
        obtain ⟨hml, hmlog⟩ := numT_ok (i := ru.2) (by omega) (by omega)
        refine ⟨hle (by rw [sempty_app]; omega), .inl ⟨hle (by omega), hle (by rw [sempty_app, sapp_len, e5]; omega), hle (by rw [sempty_app, sapp_len, sapp_len, e5, e1]; omega), .inr ⟨hmlog, hle (by rw [sempty_app, sapp_len, sapp_len, sapp_len, e5, e1]; exact Nat.le_trans (Nat.add_le_add_left hml _) (by omega)), ?_⟩⟩⟩
        rw [sempty_app]
        refine (app (K := K) WB.at_ (by rw [List.length_map]; simp only [linesH, linesU, List.length_append, List.length_cons, List.length_nil, List.length_map, List.length_take]; omega) ?_).2
        refine ⟨⟨_, _, _, rfl⟩, WB.push ?_⟩
        rw [take_next (show v.rus[j]? = some ru from hru)]
        unfold linesU
        rw [List.map_append, List.append_assoc]
        rfl
    · obtain ⟨⟨y2, y3, y4, rfl⟩, WA⟩ := iv
      rw [hxl, show v.kv.rus.length = v.rus.length from rfl, List.take_length] at WA
      walk_at "ru"
      subst hK_
      first | with_reducible refine seq_k fun K_ hK_ => ?_ | skip
      walk_at "ru"
      refine ⟨_, dx, _, WA.same _ _ hk, kc.o.cl, kc.nl, _, kfs_last, ?_⟩
      suffices go : ∀ HB, WrAt H p (linesH v ++ linesU v.rus ++ linesL v.last) HB → K_ [some (V.ref k), some (V.ref p), y2, y3, y4, none, none, none] HB by
        cases hla : v.last with
        | none =>
          rw [if_neg (by show ¬¬lastV v.last = V.non; rw [hla]; simp [lastV])]
          refine go HA ?_
          rw [hla]
          show WrAt H p (_ ++ []) HA
          rw [List.append_nil]
          exact WA
        | some l =>
          rw [if_pos (by show ¬lastV v.last = V.non; rw [hla]; simp [lastV])]
          refine ⟨tyL WA.at_, ?_⟩
          simp only [tJoined, L2.tJs, L2.tFmt]
          walk_at "ru"
          obtain ⟨l0, l1⟩ := hlb l hla
          obtain ⟨hml, hmlog⟩ := numT_ok l0 l1
          have e5 : (Str.ofString "last ").length = 5 := by decide +kernel
          refine ⟨hle (by rw [sempty_app]; omega), _, dx, _, WA.same _ _ hk, kc.o.cl, kc.nl, _, kfs_last, .inr ⟨l, by show lastV v.last = _; rw [hla]; rfl, hmlog, hle (by rw [sempty_app, sapp_len, e5]; exact Nat.le_trans (Nat.add_le_add_left hml _) (by omega)), ?_⟩⟩
          rw [sempty_app]
          refine (app (K := K) WA.at_ (by rw [List.length_map]; simp only [linesH, linesU, List.length_append, List.length_cons, List.length_nil, List.length_map]; omega) ?_).2
          exact go _ (WA.push (by rw [hla]; rfl))
      subst hK_
      intro HB WB
      with_reducible refine seq_k fun K_ hK_ => ?_
      walk_at "ru"
      walk_at "ru"
      subst hK_
      first | with_reducible refine seq_k fun K_ hK_ => ?_ | skip
      walk_at "ru"
      refine ⟨_, dx, _, WB.same _ _ hk, kc.o.cl, kc.nn, _, kfs_nights, N, rfl, ⟨_, sqL (WB.same _ _ hN)⟩, ?_⟩
      have hLn : (linesH v ++ linesU v.rus ++ linesL v.last).length ≤ 10 := by
        cases v.last <;> simp [linesH, linesU, linesL] <;> omega
      refine for_it (walk_list (xs := (v.rows.map Row.n).map V.int)) (iv_wrR H k p v y2 y3 y4) ⟨⟨_, _, rfl, fun _ => rfl, fun h => absurd h (by omega)⟩, by show WrAt H p (_ ++ []) HB; rw [List.append_nil]; exact WB⟩ (fun j σ HH _ iv => sqL (iv.2.same _ _ hN)) (fun j x σ HC HD hj iv hy => ?_) (fun σ HC iv => ?_)
      · obtain ⟨⟨ah, y6, rfl, ha0, ha1⟩, WC⟩ := iv
        obtain ⟨rfl, hy⟩ := hy
        rw [List.length_map, List.length_map] at hj
        obtain ⟨r, hri⟩ := row_lt (rs := v.rows) (i := j) hj
        rw [row_nn hri] at hy
        cases hy
        walk_at "ru"
        with_reducible refine seq_k fun K_ hK_ => ?_
        walk_at "ru"
        refine ⟨tyL WC.at_, ?_⟩
        refine ⟨k, _, R, v, j, r, ah, rfl, hSt.same WC.same, hri, fun hw => ?_, fun HE sE => ?_⟩
        · obtain ⟨h1, p', hp'⟩ := hSt.val.part hri hw
          refine ⟨p', hp', ?_⟩
          have := ha1 (by omega)
          rw [hp'] at this
          exact this
        have WD := WC.more sE
        refine (app (K := K) WD.at_ (by rw [List.length_map, List.length_append]; unfold linesR; rw [List.length_map, List.length_range]; omega) ?_).2
        walk_at "ru"
        subst hK_
        first | with_reducible refine seq_k fun K_ hK_ => ?_ | skip
        walk_at "ru"
        refine ⟨⟨_, _, rfl, fun h => absurd h (by omega), fun _ => by show V.int r.n = _; rw [Nat.add_sub_cancel, hri]; rfl⟩, WD.push ?_⟩
        unfold linesR
        rw [List.range_succ, List.map_append, List.map_singleton, hri, ← List.append_assoc]
        rfl
      · obtain ⟨⟨ah, y6, rfl, ha0, ha1⟩, WC⟩ := iv
        rw [List.length_map, List.length_map] at WC
        walk_at "ru"
        subst hK_
        first | with_reducible refine seq_k fun K_ hK_ => ?_ | skip
        walk_at "ru"
        refine ⟨_, dx, _, WC.same _ _ hk, kc.o.cl, kc.np, _, kfs_pinned, Pn, rfl, ⟨_, sqL (WC.same _ _ hP)⟩, fun D hD => ?_⟩
        refine lcL hD (sqL (WC.same _ _ hP)) (fun i => (v.ps.take i).map fun z => V.str (("pin " : Str) ++ numT z)) rfl (fun j x HE hx pw => ?_) (fun HE sE hDE => ?_)
        · have hx : (v.ps.map V.int)[j]? = some x := hx
          rw [List.getElem?_map] at hx
          cases ex : v.ps[j]? with
          | none => rw [ex] at hx; cases hx
          | some z =>
          rw [ex] at hx
          cases hx
          have hz := hbn z (hK.psub z (mem_of_get ex))
          obtain ⟨hml, hmlog⟩ := numT_ok hz.1 hz.2
          have e4 : (Str.ofString "pin ").length = 4 := by decide +kernel
          walk_at "ru"
          simp only [tJoined, L2.tJs, L2.tFmt]
          walk_at "ru"
          refine ⟨hle (by rw [sempty_app]; omega), .inr ⟨hmlog, hle (by rw [sempty_app, sapp_len, e4]; exact Nat.le_trans (Nat.add_le_add_left hml _) (by omega)), ?_⟩⟩
          rw [sempty_app]
          exact pw.push hD (by rw [List.length_map, List.length_take]; omega) (Same.refl _) (by rw [map_take_next _ ex]; rfl)
        · have e0 : (v.kv.ps.map V.int).length = v.ps.length := List.length_map _
          rw [e0, List.take_length] at hDE
          have WD := WC.more sE
          refine ⟨p, D, _, _, rfl, rfl, WD.at_, hDE, sz ?_, fun q2 n2 => ?_⟩
          · rw [List.length_map, List.length_map, List.length_append]
            unfold linesR
            rw [List.length_map, List.length_range]
            omega
          · refine q q2 _ (WD.same.trans (same_upd n2)) (WD.same.free n2) ?_
            rw [upd_same]
            unfold linesS linesP
            simp only [List.map_append, List.map_map]
            rfl
end
end Nk
/-! ### a store's lines, read back: numbers, rules, pairs -/
namespace Nk
open PySem L2 TL
theorem numT_nat (k : Nat) : tl (numT (k : Int)) = numL k := tl_num k
theorem numT_read {i : Int} (h0 : 0 ≤ i) (h1 : i ≤ 1000000000) : intText? (numT i) = some i ∧ (numT i).length ≤ 10 ∧ 1 ≤ (numT i).length ∧ (∀ c ∈ tl (numT i), 48 ≤ c ∧ c ≤ 57) := by
  obtain ⟨k, rfl⟩ := Int.eq_ofNat_of_zero_le h0
  have hl : (numL k).length ≤ 10 := numL_len (by decide) (by omega : k < 10 ^ 10)
  refine ⟨int_num (by omega), ?_, ?_, fun c hc => ?_⟩
  · rw [len_tl, numT_nat]; exact hl
  · rw [len_tl, numT_nat]; exact List.length_pos_iff.mpr (numL_ne k)
  · rw [numT_nat] at hc; exact numL_digits k c hc
theorem figs_mem : ∀ c : Nat, 48 ≤ c → c ≤ 57 → c ∈ tl ("0123456789" : Str) := by
  have h : ∀ d : Nat, d < 10 → 48 + d ∈ tl ("0123456789" : Str) := by decide +kernel
  intro c h0 h1
  have := h (c - 48) (by omega)
  rwa [show 48 + (c - 48) = c by omega] at this
/-- a number that begins with 0 is 0 -/
theorem numT_head {i : Int} (h0 : 0 ≤ i) (h : (tl (numT i))[0]? = some 48) : numT i = "0" := by
  obtain ⟨k, rfl⟩ := Int.eq_ofNat_of_zero_le h0
  rw [numT_nat] at h
  have : k = 0 := by
    clear h0
    induction k using Nat.strongRecOn with
    | ind k ih =>
      by_cases hk : k < 10
      · rw [numL_lt hk] at h
        simp at h
        exact h
      · rw [numL_step (by omega)] at h
        have hne := List.length_pos_iff.mpr (numL_ne (k / 10))
        rw [List.getElem?_append_left hne] at h
        have := ih (k / 10) (by omega) h
        omega
  subst this
  rfl
def srtT (t : Tb) : Tb := (srt (nms t)).map fun n => (n, (lk t n).getD 0)
theorem srtT_nms (t : Tb) : nms (srtT t) = srt (nms t) := by
  unfold srtT nms
  rw [List.map_map]
  exact List.map_id _
theorem srtT_lk {t : Tb} (ok : OkT t) (n : Str) : lk (srtT t) n = lk t n := by
  by_cases h : n ∈ nms t
  · have hm : (n, (lk t n).getD 0) ∈ srtT t := List.mem_map.mpr ⟨n, mem_srt.mpr h, rfl⟩
    rw [lk_of (by rw [srtT_nms]; exact pw_nodup pw_srt) hm]
    obtain ⟨i, hi⟩ := mem_nms.mp h
    rw [hi]; rfl
  · have h2 : n ∉ nms (srtT t) := by rw [srtT_nms, mem_srt]; exact h
    cases e : lk (srtT t) n with
    | some i => exact absurd (mem_nms.mpr ⟨i, e⟩) h2
    | none =>
      cases e2 : lk t n with
      | some i => exact absurd (mem_nms.mpr ⟨i, e2⟩) h
      | none => rfl
theorem srtT_ok {t : Tb} (ok : OkT t) : OkT (srtT t) := by
  refine ⟨by rw [srtT_nms]; exact pw_nodup pw_srt, fun p hp => ?_, fun p hp => ?_⟩
  all_goals
    obtain ⟨n, hn, rfl⟩ := List.mem_map.mp hp
    obtain ⟨pr, h1, h2⟩ := List.mem_map.mp (mem_srt.mp hn)
  · rw [← h2]; exact ok.nm pr h1
  · show 0 ≤ (lk t n).getD 0 ∧ (lk t n).getD 0 ≤ 99
    rw [← h2, lk_of ok.nd h1]
    exact ok.num pr h1
theorem srtT_len {t : Tb} (h : t.length ≤ 20) : (srtT t).length ≤ 20 := by
  unfold srtT; rw [List.length_map]; exact srt_len h
theorem srt_nm {t : Tb} (ok : OkT t) : ∀ w ∈ srt (nms t), isNm w := fun w hw => by
  obtain ⟨pr, h1, h2⟩ := List.mem_map.mp (mem_srt.mp hw)
  rw [← h2]
  exact ok.nm pr h1
section
variable {P : Program} {w : World} {K : PySem.W.Frag} {mg : Str → Option Value} {base : Heap}
/-- tuples of names and numbers -/
def RefsB (H : Hp) : List Addr → Tb → Prop
  | [], [] => True
  | q :: qs, p :: ps => H q = some (.tup [.str p.1, .int p.2]) ∧ RefsB H qs ps
  | _, _ => False
theorem RefsB.tups {H H' : Hp} (h : ∀ b xs, H b = some (.tup xs) → H' b = some (.tup xs)) : ∀ {xs : List Addr} {ps : Tb}, RefsB H xs ps → RefsB H' xs ps
  | [], [], _ => trivial
  | q :: xs, p :: ps, ⟨hq, r⟩ => ⟨h _ _ hq, RefsB.tups h r⟩
theorem RefsB.same {H H' : Hp} (s : Same H H') {xs : List Addr} {ps : Tb} (h : RefsB H xs ps) : RefsB H' xs ps := h.tups fun b ys e => s _ _ e
theorem RefsB.len {H : Hp} : ∀ {xs : List Addr} {ps : Tb}, RefsB H xs ps → xs.length = ps.length
  | [], [], _ => rfl
  | x :: xs, p :: ps, ⟨_, r⟩ => by simp [RefsB.len r]
theorem RefsB.app {H : Hp} : ∀ {xs ys : List Addr} {ps qs : Tb}, RefsB H xs ps → RefsB H ys qs → RefsB H (xs ++ ys) (ps ++ qs)
  | [], _, [], _, _, h => h
  | x :: xs, _, p :: ps, _, ⟨a, r⟩, h => ⟨a, RefsB.app r h⟩
theorem RefsB.paired {H : Hp} : ∀ {xs : List Addr} {ps : Tb}, RefsB H xs ps → Paired (fun p kv => SqT K H p [kV kv.1, kv.2]) xs (kvsT ps)
  | [], [], _ => .nil
  | x :: xs, p :: ps, ⟨h, r⟩ => .cons (sqT h) (RefsB.paired r)
theorem numL_free' {i : Int} (h0 : 0 ≤ i) (h1 : i ≤ 1000000000) {c : Nat} (hc : c < 48 ∨ 57 < c) : c ∉ tl (numT i) := fun h => by
  have := (numT_read h0 h1).2.2.2 c h
  omega
theorem nm_free {n : Str} (h : isNm n) {c : Nat} (hc : c < 97 ∨ 122 < c) : c ∉ tl n := fun hm => by
  have := h.2.2 c hm
  omega
end
end Nk
/-! ### the lines that begin with a word; a copy of its words -/
namespace Nk
open PySem L2 TL
section
variable {P : Program} {w : World} {K : PySem.W.Frag} {mg : Str → Option Value} {base : Heap}
/-- lists of texts that stand -/
def WsAt (H : Hp) : List V → List (List Str) → Prop
  | [], [] => True
  | x :: xs, ws :: wss => (∃ q, x = .ref q ∧ H q = some (.lst (ws.map V.str))) ∧ WsAt H xs wss
  | _, _ => False
theorem WsAt.keep {H H' : Hp} (N : Addr → Prop) (h : ∀ b xs, N b → H b = some (.lst xs) → H' b = some (.lst xs)) : ∀ {xs : List V} {wss : List (List Str)}, (∀ q, V.ref q ∈ xs → N q) → WsAt H xs wss → WsAt H' xs wss
  | [], [], _, _ => trivial
  | x :: xs, ws :: wss, hn, ⟨⟨q, e, hq⟩, r⟩ => ⟨⟨q, e, h _ _ (hn q (by rw [e]; simp)) hq⟩, WsAt.keep N h (fun q hq => hn q (by simp [hq])) r⟩
theorem WsAt.same {H H' : Hp} (s : Same H H') {xs : List V} {wss : List (List Str)} (h : WsAt H xs wss) : WsAt H' xs wss := h.keep (fun _ => True) (fun b ys _ e => s b _ e) (fun _ _ => trivial)
theorem WsAt.len {H : Hp} : ∀ {xs : List V} {wss : List (List Str)}, WsAt H xs wss → xs.length = wss.length
  | [], [], _ => rfl
  | x :: xs, ws :: wss, ⟨_, r⟩ => by simp [WsAt.len r]
theorem WsAt.app {H : Hp} : ∀ {xs ys : List V} {wss uss : List (List Str)}, WsAt H xs wss → WsAt H ys uss → WsAt H (xs ++ ys) (wss ++ uss)
  | [], _, [], _, _, h => h
  | x :: xs, _, ws :: wss, _, ⟨a, r⟩, h => ⟨a, WsAt.app r h⟩
theorem WsAt.get {H : Hp} : ∀ {xs : List V} {wss : List (List Str)}, WsAt H xs wss → ∀ {i : Nat} {x : V}, xs[i]? = some x → ∃ ws q, wss[i]? = some ws ∧ x = .ref q ∧ H q = some (.lst (ws.map V.str))
  | x :: xs, ws :: wss, ⟨⟨q, e, hq⟩, r⟩, 0, y, hy => by
    cases hy
    exact ⟨ws, q, rfl, e, hq⟩
  | x :: xs, ws :: wss, ⟨_, r⟩, i + 1, y, hy => WsAt.get r hy
  | [], [], _, i, y, hy => by simp at hy
/-- a line of words -/
def LineW (ws : List Str) : Prop := ws ≠ [] ∧ ∀ p ∈ ws, 32 ∉ tl p
theorem spc_tl : tl (" " : Str) = [32] := by decide +kernel
theorem split_line {ws : List Str} (h : LineW ws) : Txt.split (Txt.join " " ws) " " = ws := split_join spc_tl (by decide +kernel) h.1 h.2
/-- how many lines begin with a word -/
def begN (w : Str) : List (List Str) → Nat
  | [] => 0
  | ws :: r => if ws.head? = some w then begN w r + 1 else 0
theorem begN_le (w : Str) : ∀ l : List (List Str), begN w l ≤ l.length
  | [] => Nat.le_refl 0
  | ws :: r => by
    unfold begN
    split
    · have := begN_le w r; simp; omega
    · simp
theorem begN_lt (w : Str) : ∀ (l : List (List Str)) (i : Nat), i < begN w l → ∃ ws, l[i]? = some ws ∧ ws.head? = some w
  | ws :: r, 0, h => by
    unfold begN at h
    split at h
    · rename_i e; exact ⟨ws, rfl, e⟩
    · omega
  | ws :: r, i + 1, h => by
    unfold begN at h
    split at h
    · exact begN_lt w r i (by omega)
    · omega
  | [], i, h => by unfold begN at h; omega
theorem begN_at (w : Str) : ∀ (l : List (List Str)), ∀ ws, l[begN w l]? = some ws → ws.head? ≠ some w
  | [], ws, h => by simp at h
  | u :: r, ws, h => by
    unfold begN at h
    split at h
    · exact begN_at w r ws h
    · rename_i e
      cases h
      exact e
end
end Nk
/-! ### a copy of its words -/
namespace Nk
open PySem L2 TL
section
variable {P : Program} {w : World} {K : PySem.W.Frag} {mg : Str → Option Value} {base : Heap}
/-- rows with the same nights, wholes and tables, whatever the order of names -/
def RowEq (r r' : Row) : Prop := r'.n = r.n ∧ r'.w = r.w ∧ ∀ n, lk r'.t n = lk r.t n
theorem Val.congr {deep : Nat} {rs rs' : Rows} (h : Val deep rs) (e : rs'.map Row.w = rs.map Row.w) : Val deep rs' := by
  have hl : rs'.length = rs.length := by have := congrArg List.length e; simpa using this
  have h0 : (rs'.map Row.w)[0]? ≠ some false := by rw [e]; exact h.head
  have at1 : ∀ i, i < rs'.length → (chnP (rs'.take (i + 1))).length ≤ deep := fun i hi => by
    have h2 := h.len (i + 1)
    rw [chnP_fst h.head (by omega), List.length_drop, List.length_take] at h2
    rw [chnP_fst h0 hi, List.length_drop, List.length_take, e]
    omega
  refine ⟨h0, fun i => ?_⟩
  cases i with
  | zero =>
    have : rs'.take 0 = rs.take 0 := rfl
    rw [this]
    exact h.len 0
  | succ i =>
    by_cases hi : i < rs'.length
    · exact at1 i hi
    · rw [List.take_of_length_le (by omega)]
      by_cases hz : rs' = []
      · have : rs = [] := List.length_eq_zero_iff.mp (by rw [← hl, hz]; rfl)
        have h3 := h.len 0
        rw [hz]
        rw [this] at h3
        exact h3
      · have hp := List.length_pos_iff.mpr hz
        have := at1 (rs'.length - 1) (by omega)
        rw [List.take_of_length_le (by omega)] at this
        exact this
end
end Nk
/-! ### a store of its lines -/
namespace Nk
open PySem L2 TL
theorem begN_app (w : Str) : ∀ (A B : List (List Str)), (∀ a ∈ A, a.head? = some w) → (∀ b, B.head? = some b → b.head? ≠ some w) → begN w (A ++ B) = A.length
  | [], [], _, _ => rfl
  | [], b :: B, _, h => by
    show (if b.head? = some w then _ else 0) = 0
    rw [if_neg (h b rfl)]
  | a :: A, B, h1, h2 => by
    show (if a.head? = some w then begN w (A ++ B) + 1 else 0) = _
    rw [if_pos (h1 a (by simp)), begN_app w A B (fun x hx => h1 x (by simp [hx])) h2]
    rfl
theorem join2 (a b : Str) : Txt.join " " [a, b] = a ++ (" " : Str) ++ b := rfl
theorem join3 (a b c : Str) : Txt.join " " [a, b, c] = a ++ (" " : Str) ++ b ++ (" " : Str) ++ c := rfl
def wordsH (v : SV) : List (List Str) := [["longest", numT v.deep]]
def wordsU (rus : List (List Int × Int)) : List (List Str) := rus.map fun ru => ["rule", Txt.join "," (ru.1.map numT), numT ru.2]
def wordsL : Option Int → List (List Str)
  | none => []
  | some l => [["last", numT l]]
def wordsC (rs : Rows) (n : Nat) : List (List Str) := (List.range n).map fun i => ((rs[i]?).map (wordsR rs i)).getD [Str.empty]
def wordsP (ps : List Int) : List (List Str) := ps.map fun p => ["pin", numT p]
theorem linesH_eq (v : SV) : linesH v = (wordsH v).map (Txt.join " ") := by
  show [("longest " : Str) ++ numT v.deep] = [("longest" : Str) ++ (" " : Str) ++ numT v.deep]
  rw [show ("longest" : Str) ++ (" " : Str) = ("longest " : Str) from by decide +kernel]
theorem linesU_eq (rus : List (List Int × Int)) : linesU rus = (wordsU rus).map (Txt.join " ") := by
  unfold linesU wordsU
  rw [List.map_map]
  refine List.map_congr_left fun ru _ => ?_
  show ("rule " : Str) ++ Txt.join "," (ru.1.map numT) ++ (" " : Str) ++ numT ru.2 = ("rule" : Str) ++ (" " : Str) ++ Txt.join "," (ru.1.map numT) ++ (" " : Str) ++ numT ru.2
  rw [show ("rule" : Str) ++ (" " : Str) = ("rule " : Str) from by decide +kernel]
theorem linesL_eq (l : Option Int) : linesL l = (wordsL l).map (Txt.join " ") := by
  cases l with
  | none => rfl
  | some l =>
    show [("last " : Str) ++ numT l] = [("last" : Str) ++ (" " : Str) ++ numT l]
    rw [show ("last" : Str) ++ (" " : Str) = ("last " : Str) from by decide +kernel]
theorem linesR_eq (rs : Rows) (n : Nat) (hn : n ≤ rs.length) : linesR rs n = (wordsC rs n).map (Txt.join " ") := by
  unfold linesR wordsC
  rw [List.map_map]
  refine List.map_congr_left fun i hi => ?_
  have hi' : i < rs.length := by have := List.mem_range.mp hi; omega
  show ((rs[i]?).map (lineR rs i)).getD Str.empty = Txt.join " " (((rs[i]?).map (wordsR rs i)).getD [Str.empty])
  rw [List.getElem?_eq_getElem hi']
  rfl
theorem linesP_eq (ps : List Int) : linesP ps = (wordsP ps).map (Txt.join " ") := by
  unfold linesP wordsP
  rw [List.map_map]
  refine List.map_congr_left fun p _ => ?_
  show ("pin " : Str) ++ numT p = ("pin" : Str) ++ (" " : Str) ++ numT p
  rw [show ("pin" : Str) ++ (" " : Str) = ("pin " : Str) from by decide +kernel]
def wordsS (v : SV) : List (List Str) := wordsH v ++ (wordsU v.rus ++ (wordsL v.last ++ (wordsC v.rows v.rows.length ++ wordsP v.ps)))
theorem linesS_eq (v : SV) : linesS v = (wordsS v).map (Txt.join " ") := by
  unfold linesS wordsS
  rw [List.map_append, List.map_append, List.map_append, List.map_append, ← linesH_eq, ← linesU_eq, ← linesL_eq, ← linesR_eq _ _ (Nat.le_refl _), ← linesP_eq]
  simp only [List.append_assoc]
theorem mem_joinL {S : List Nat} {c : Nat} (hS : c ∉ S) : ∀ {parts : List (List Nat)}, (∀ p ∈ parts, c ∉ p) → c ∉ joinL S parts
  | [], _ => by simp [joinL]
  | [p], h => h p (by simp)
  | p :: q :: r, h => by
    show c ∉ p ++ (S ++ joinL S (q :: r))
    rw [List.mem_append, List.mem_append, not_or, not_or]
    exact ⟨h p (by simp), hS, mem_joinL hS fun x hx => h x (by simp [hx])⟩
theorem free_join {c : Nat} {ws : List Str} (hc : c ≠ 44) (h : ∀ w ∈ ws, c ∉ tl w) : c ∉ tl (Txt.join "," ws) := by
  rw [join_eq, tl_join]
  refine mem_joinL ?_ fun p hp => ?_
  · have : tl ("," : Str) = [44] := by decide +kernel
    rw [this]
    simpa using hc
  · obtain ⟨w, hw, rfl⟩ := List.mem_map.mp hp
    exact h w hw
theorem free_num {i : Int} (h0 : 0 ≤ i) (h1 : i ≤ 1000000000) : 32 ∉ tl (numT i) := numL_free' h0 h1 (.inl (by decide))
theorem free_Q {n : Str} {o : Option Int} (hn : isNm n) (ho : ∀ i, o = some i → 0 ≤ i ∧ i ≤ 99) : 32 ∉ tl (txtQ (n, o)) := by
  cases o with
  | none => exact nm_free hn (.inl (by decide))
  | some i =>
    obtain ⟨h0, h1⟩ := ho i rfl
    show 32 ∉ tl (n ++ ("=" : Str) ++ numT i)
    rw [tl_append, tl_append, List.mem_append, List.mem_append, not_or, not_or]
    refine ⟨⟨nm_free hn (.inl (by decide)), ?_⟩, free_num h0 (by omega)⟩
    have : tl ("=" : Str) = [61] := by decide +kernel
    rw [this]
    decide
theorem line_len {ws : List Str} (hl : ws.length ≤ 45) (hw : ∀ w ∈ ws, w.length ≤ 200) : (Txt.join " " ws).length ≤ 10000 := by
  have h1 := join_len " " ws
  have h2 := sum_lens hw
  have h3 : ((" " : Str)).length = 1 := spc_len
  rw [h3] at h1
  have : ws.length * 200 ≤ 45 * 200 := Nat.mul_le_mul_right _ hl
  omega
section
variable {K : PySem.W.Frag} {mg : Str → Option Value}
/-- a line's words are good -/
def LineOk (ws : List Str) : Prop := LineW ws ∧ (Txt.join " " ws).length ≤ 10000
theorem lineOk_of {ws : List Str} (hne : ws ≠ []) (hl : ws.length ≤ 45) (hw : ∀ w ∈ ws, 32 ∉ tl w ∧ w.length ≤ 200) : LineOk ws := ⟨⟨hne, fun p hp => (hw p hp).1⟩, line_len hl fun w h => (hw w h).2⟩
theorem num_ok {i : Int} (h0 : 0 ≤ i) (h1 : i ≤ 1000000000) : 32 ∉ tl (numT i) ∧ (numT i).length ≤ 200 := ⟨free_num h0 h1, by have := (numT_ok h0 h1).1; omega⟩
variable {H : Hp} {k : Addr} {S R : List Addr} {v : SV}
theorem rus_of (h : StoreAt K mg H k S R v) : ∀ ru ∈ v.rus, Rnds ru.1 ∧ 1 ≤ ru.2 ∧ ru.2 ≤ 20 ∧ ru.1.length ≤ 12 ∧ ∀ r ∈ ru.1, r ≤ 31 := by
  obtain ⟨W, F, S0, kvs, rfl, hK, _⟩ := h.at_
  obtain ⟨dx, ra, N, Pn, _, _, _, hR, _⟩ := hK.at_
  exact hR.rnds
theorem rus_len (h : StoreAt K mg H k S R v) : 1 ≤ v.rus.length ∧ v.rus.length ≤ 5 := by
  obtain ⟨W, F, S0, kvs, rfl, hK, _⟩ := h.at_
  obtain ⟨dx, ra, N, Pn, _, _, _, hR, _⟩ := hK.at_
  exact ⟨hR.l1, hR.l5⟩
theorem tab_of (h : StoreAt K mg H k S R v) : ∀ r ∈ v.rows, OkT r.t ∧ r.t.length ≤ 20 := fun r hr => by
  obtain ⟨W, F, S0, kvs, rfl, hK, hWF, hW, hF, hSh⟩ := h.at_
  obtain ⟨p, _, hp⟩ := hSh.val h.nd r hr
  exact ⟨hp.2.1, hp.2.2⟩
theorem okU (h : StoreAt K mg H k S R v) : ∀ ws ∈ wordsU v.rus, LineOk ws := fun ws hws => by
  obtain ⟨ru, hru, rfl⟩ := List.mem_map.mp hws
  obtain ⟨h1, h2, h3, h4, h5⟩ := rus_of h ru hru
  refine lineOk_of (by simp) (by simp) fun w hw => ?_
  simp only [List.mem_cons, List.not_mem_nil, or_false] at hw
  rcases hw with rfl | rfl | rfl
  · exact ⟨by decide +kernel, by decide +kernel⟩
  · have hp : ∀ w ∈ ru.1.map numT, 32 ∉ tl w ∧ w.length ≤ 11 := fun w hw => by
      obtain ⟨r, hr, rfl⟩ := List.mem_map.mp hw
      have := h1.pos r hr
      have := h5 r hr
      exact ⟨free_num (by omega) (by omega), (numT_ok (by omega) (by omega)).1⟩
    refine ⟨free_join (by decide) fun w hw => (hp w hw).1, ?_⟩
    have j1 := join_len "," (ru.1.map numT)
    have j2 := sum_lens fun w hw => (hp w hw).2
    have e1 : (("," : Str)).length = 1 := by decide +kernel
    rw [e1] at j1
    rw [List.length_map] at j1 j2
    omega
  · exact num_ok (by omega) (by omega)
theorem okR (h : StoreAt K mg H k S R v) {i : Nat} {r : Row} (hi : v.rows[i]? = some r) : LineOk (wordsR v.rows i r) := by
  have hb := h.pv.bnd r.n (List.mem_map.mpr ⟨r, mem_of_get hi, rfl⟩)
  obtain ⟨ok, l20⟩ := tab_of h r (mem_of_get hi)
  have hn := num_ok hb.1 hb.2
  unfold wordsR
  split
  · refine lineOk_of (by simp) (by simp; have := srt_len l20; omega) fun w hw => ?_
    simp only [List.mem_cons, List.mem_map] at hw
    rcases hw with rfl | rfl | ⟨n, hn', rfl⟩
    · exact hn
    · exact ⟨by decide +kernel, by decide +kernel⟩
    · obtain ⟨i', hlk, h0, h9, hn6, _, _⟩ := txtP_len ok (mem_srt.mp hn')
      have ho : ∀ i2, lk r.t n = some i2 → 0 ≤ i2 ∧ i2 ≤ 99 := fun i2 e => by rw [hlk] at e; cases e; exact ⟨h0, h9⟩
      exact ⟨free_Q (srt_nm ok n hn') ho, by have := txtQ_len hn6 ho; omega⟩
  · rename_i c
    obtain ⟨h1, p, hp⟩ := h.val.part hi (by simpa using c)
    obtain ⟨okp, lp⟩ := tab_of h p (mem_of_get hp)
    rw [hp]
    have gP := part_good okp ok lp l20
    have gl := gP.len
    refine lineOk_of (by simp) (by show _ + 1 + 1 ≤ 45; simp only [List.length_map]; exact Nat.le_trans (Nat.add_le_add_right (Nat.add_le_add_right gl 1) 1) (by decide)) fun w hw => ?_
    simp only [List.mem_cons, List.mem_map] at hw
    rcases hw with rfl | rfl | ⟨pr, hpr, rfl⟩
    · exact hn
    · exact ⟨by decide +kernel, by decide +kernel⟩
    · have hpr' : pr ∈ part p.t r.t := hpr
      exact ⟨free_Q (gP.nm pr hpr') (gP.num pr hpr'), Nat.le_trans (txtQ_len (nm_len (gP.nm pr hpr')) (gP.num pr hpr')) (by decide)⟩
theorem okC (h : StoreAt K mg H k S R v) : ∀ ws ∈ wordsC v.rows v.rows.length, LineOk ws := fun ws hws => by
  obtain ⟨i, hi, rfl⟩ := List.mem_map.mp hws
  have hi' := List.mem_range.mp hi
  rw [List.getElem?_eq_getElem hi']
  exact okR h (List.getElem?_eq_getElem hi')
theorem okL (h : StoreAt K mg H k S R v) : ∀ ws ∈ wordsL v.last, LineOk ws := fun ws hws => by
  cases hla : v.last with
  | none => rw [hla] at hws; exact nomatch hws
  | some l =>
    rw [hla] at hws
    rw [List.mem_singleton.mp hws]
    obtain ⟨l0, l1⟩ := h.pv.lb l hla
    refine lineOk_of (by simp) (by simp) fun w hw => ?_
    simp only [List.mem_cons, List.not_mem_nil, or_false] at hw
    rcases hw with rfl | rfl
    · exact ⟨by decide +kernel, by decide +kernel⟩
    · exact num_ok l0 l1
theorem okP (h : StoreAt K mg H k S R v) : ∀ ws ∈ wordsP v.ps, LineOk ws := fun ws hws => by
  obtain ⟨p, hp, rfl⟩ := List.mem_map.mp hws
  have hb := h.pv.bnd p (h.pv.psub p hp)
  refine lineOk_of (by simp) (by simp) fun w hw => ?_
  simp only [List.mem_cons, List.not_mem_nil, or_false] at hw
  rcases hw with rfl | rfl
  · exact ⟨by decide +kernel, by decide +kernel⟩
  · exact num_ok hb.1 hb.2
theorem okH (h : StoreAt K mg H k S R v) : ∀ ws ∈ wordsH v, LineOk ws := fun ws hws => by
  rw [List.mem_singleton.mp hws]
  have := h.d1
  have := h.d10
  refine lineOk_of (by simp) (by simp) fun w hw => ?_
  simp only [List.mem_cons, List.not_mem_nil, or_false] at hw
  rcases hw with rfl | rfl
  · exact ⟨by decide +kernel, by decide +kernel⟩
  · exact num_ok (by omega) (by omega)
end
section
open PySem.Spec PyProof.Rows
variable {X : Cx} {o e : Expr} {es : List Expr} {to : TE} {t : TA} {T id : String} {name : Str} {r : V → List V → Hp → VK → Prop} {apos cpos : Pos}
theorem pe_bmK_ (K : PySem.W.Frag) (hK : X.K = K) (pa : PlainAttrs T) (slot : Slot T name id) (hty : typeOf (.builtin id) = pure (.type "method_descriptor")) (hm : MtR X id r) (ho : PE X o to) (ha : PA X (e :: es) t)
    (hbase : attributeBase o name X.env (eval o X.env) = eval o X.env := by rfl)
    (hfew : ((backTo cpos (starEach (e :: es) X.env)).all (fun x => !x.1) && (backToKw cpos (keywordEach [] X.env)).all (fun x => x.1.isSome)
      && decide ((e :: es).length + ([] : List Keyword).length + (if ([] : List Keyword).isEmpty then 0 else 1) < 30)) = true := by rfl)
    (hline : (apos.endLine == cpos.line) = true := by rfl) (hs : starEach (e :: es) X.env = (false, eval e X.env) :: starEach es X.env := by rfl) (hplain : (backTo cpos (starEach es X.env)).any (·.1) = false := by rfl) :
    PE X (.Call (.Attribute o name apos) (e :: es) [] cpos) (tBM K T r to t) := by
  subst hK
  exact pe_bm pa slot hty hm ho ha hbase hfew hline hs hplain
end
end Nk
/-! ### lines: of small signs alone; lists of texts told apart; the same of stores alike -/
namespace Nk
open PySem L2 TL
def AscS (s : Str) : Prop := ∀ c ∈ tl s, c < 128
theorem asc_app {a b : Str} (ha : AscS a) (hb : AscS b) : AscS (a ++ b) := fun c hc => by
  rw [tl_append, List.mem_append] at hc
  exact hc.elim (ha c) (hb c)
theorem asc_joinL {S : List Nat} (hS : ∀ c ∈ S, c < 128) : ∀ {ps : List (List Nat)}, (∀ p ∈ ps, ∀ c ∈ p, c < 128) → ∀ c ∈ joinL S ps, c < 128
  | [], _ => by simp [joinL]
  | [p], h => h p (by simp)
  | p :: q :: r, h => by
    intro c hc
    have hc : c ∈ p ++ (S ++ joinL S (q :: r)) := hc
    rw [List.mem_append, List.mem_append] at hc
    rcases hc with hc | hc | hc
    · exact h p (by simp) c hc
    · exact hS c hc
    · exact asc_joinL hS (fun x hx => h x (by simp [hx])) c hc
theorem asc_join {s : Str} {ws : List Str} (hs : AscS s) (h : ∀ w ∈ ws, AscS w) : AscS (Txt.join s ws) := fun c hc => by
  rw [join_eq, tl_join] at hc
  exact asc_joinL hs (fun p hp => by obtain ⟨w, hw, rfl⟩ := List.mem_map.mp hp; exact h w hw) c hc
theorem asc_num {i : Int} (h0 : 0 ≤ i) (h1 : i ≤ 1000000000) : AscS (numT i) := fun c hc => by
  have := (numT_read h0 h1).2.2.2 c hc
  omega
theorem asc_nm {n : Str} (h : isNm n) : AscS n := fun c hc => by have := h.2.2 c hc; omega
theorem asc_ok {s : Str} (h : AscS s) : PyData.strOk s = true := by
  unfold PyData.strOk
  rw [← Array.all_toList, List.all_eq_true]
  intro c hc
  have := h c hc
  simp
  omega
theorem asc_Q {n : Str} {o : Option Int} (hn : isNm n) (ho : ∀ i, o = some i → 0 ≤ i ∧ i ≤ 99) : AscS (txtQ (n, o)) := by
  cases o with
  | none => exact asc_nm hn
  | some i =>
    obtain ⟨h0, h1⟩ := ho i rfl
    exact asc_app (asc_app (asc_nm hn) (by unfold AscS; decide +kernel)) (asc_num h0 (by omega))
section
variable {P : Program} {w : World} {K : PySem.W.Frag} {mg : Str → Option Value} {base : Heap}
abbrev dLT (ws : List Str) : PyData := .list (ws.map PyData.str)
theorem dpAll_T {H : Hp} : ∀ ws : List Str, DpAll K H (ws.map V.str) (ws.map PyData.str)
  | [] => .nil
  | x :: ws => .cons (.str x) (dpAll_T ws)
theorem dp_LT {H : Hp} {l : Addr} {ws : List Str} (h : H l = some (.lst (ws.map V.str))) : Dp K H (.ref l) (dLT ws) := .lst (sqL h) (dpAll_T ws)
theorem gd_LT {ws : List Str} (h : ∀ w ∈ ws, AscS w) : gd 1 (dLT ws) = true := by
  simp only [dLT, gd]
  rw [List.all_eq_true]
  intro x hx
  obtain ⟨w, hw, rfl⟩ := List.mem_map.mp hx
  simp only [gd]
  exact asc_ok (h w hw)
theorem dLT_inj {ws vs : List Str} : dLT ws = dLT vs ↔ ws = vs := by
  constructor
  · intro h
    exact (List.map_inj_right (fun _ _ q => PyData.str.inj q)).mp (PyData.list.inj h)
  · intro h; rw [h]
variable {H : Hp} {k : Addr} {S R : List Addr} {v : SV}
theorem ascU (h : StoreAt K mg H k S R v) : ∀ ws ∈ wordsU v.rus, ∀ w ∈ ws, AscS w := fun ws hws w hw => by
  obtain ⟨ru, hru, rfl⟩ := List.mem_map.mp hws
  obtain ⟨h1, h2, h3, h4, h5⟩ := rus_of h ru hru
  simp only [List.mem_cons, List.not_mem_nil, or_false] at hw
  rcases hw with rfl | rfl | rfl
  · unfold AscS; decide +kernel
  · refine asc_join (by unfold AscS; decide +kernel) fun w hw => ?_
    obtain ⟨r, hr, rfl⟩ := List.mem_map.mp hw
    have := h1.pos r hr
    have := h5 r hr
    exact asc_num (by omega) (by omega)
  · exact asc_num (by omega) (by omega)
theorem ascR (h : StoreAt K mg H k S R v) {i : Nat} {r : Row} (hi : v.rows[i]? = some r) : ∀ w ∈ wordsR v.rows i r, AscS w := by
  have hb := h.pv.bnd r.n (List.mem_map.mpr ⟨r, mem_of_get hi, rfl⟩)
  obtain ⟨ok, l20⟩ := tab_of h r (mem_of_get hi)
  have hn := asc_num hb.1 hb.2
  unfold wordsR
  split
  · intro w hw
    simp only [List.mem_cons, List.mem_map] at hw
    rcases hw with rfl | rfl | ⟨n, hn', rfl⟩
    · exact hn
    · unfold AscS; decide +kernel
    · obtain ⟨i', hlk, h0, h9, hn6, _, _⟩ := txtP_len ok (mem_srt.mp hn')
      exact asc_Q (srt_nm ok n hn') fun i2 e => by rw [hlk] at e; cases e; exact ⟨h0, h9⟩
  · rename_i c
    obtain ⟨h1, p, hp⟩ := h.val.part hi (by simpa using c)
    obtain ⟨okp, lp⟩ := tab_of h p (mem_of_get hp)
    rw [hp]
    have gP := part_good okp ok lp l20
    intro w hw
    simp only [List.mem_cons, List.mem_map] at hw
    rcases hw with rfl | rfl | ⟨pr, hpr, rfl⟩
    · exact hn
    · unfold AscS; decide +kernel
    · have hpr' : pr ∈ part p.t r.t := hpr
      exact asc_Q (gP.nm pr hpr') (gP.num pr hpr')
theorem ascP (h : StoreAt K mg H k S R v) : ∀ ws ∈ wordsP v.ps, ∀ w ∈ ws, AscS w := fun ws hws w hw => by
  obtain ⟨p, hp, rfl⟩ := List.mem_map.mp hws
  have hb := h.pv.bnd p (h.pv.psub p hp)
  simp only [List.mem_cons, List.not_mem_nil, or_false] at hw
  rcases hw with rfl | rfl
  · unfold AscS; decide +kernel
  · exact asc_num hb.1 hb.2
theorem linesS_len (hSt : StoreAt K mg H k S R v) : (linesS v).length ≤ 1000 := by
  rw [linesS_eq, List.length_map]
  have hpv := hSt.pv
  obtain ⟨r1, r5⟩ := rus_len hSt
  have hpl := hpv.p100
  have h100 := hpv.n100
  have : (wordsL v.last).length ≤ 1 := by cases v.last <;> simp [wordsL]
  simp only [wordsS, List.length_append, wordsH, wordsU, wordsC, wordsP, List.length_map, List.length_range, List.length_cons, List.length_nil]
  omega
theorem ascS (h : StoreAt K mg H k S R v) : ∀ l ∈ linesS v, AscS l := fun l hl => by
  rw [linesS_eq] at hl
  obtain ⟨ws, hws, rfl⟩ := List.mem_map.mp hl
  refine asc_join (by unfold AscS; decide +kernel) ?_
  unfold wordsS at hws
  simp only [List.mem_append] at hws
  rcases hws with hws | hws | hws | hws | hws
  · rw [List.mem_singleton.mp hws]
    intro w hw
    have := h.d1
    have := h.d10
    simp only [List.mem_cons, List.not_mem_nil, or_false] at hw
    rcases hw with rfl | rfl
    · unfold AscS; decide +kernel
    · exact asc_num (by omega) (by omega)
  · exact ascU h ws hws
  · cases hla : v.last with
    | none => rw [hla] at hws; exact nomatch hws
    | some l =>
      rw [hla] at hws
      rw [List.mem_singleton.mp hws]
      obtain ⟨l0, l1⟩ := h.pv.lb l hla
      intro w hw
      simp only [List.mem_cons, List.not_mem_nil, or_false] at hw
      rcases hw with rfl | rfl
      · unfold AscS; decide +kernel
      · exact asc_num l0 l1
  · obtain ⟨i, hi, rfl⟩ := List.mem_map.mp hws
    have hi' := List.mem_range.mp hi
    rw [List.getElem?_eq_getElem hi']
    exact ascR h (List.getElem?_eq_getElem hi')
  · exact ascP h ws hws
end
end Nk
namespace Nk
open PySem L2
section
variable {P : Program} {w : World} {K : PySem.W.Frag} {mg : Str → Option Value} {base : Heap}

def sp_KeepK____init__ (K : PySem.W.Frag) (mg : Str → Option Value) : Sp := fun vs H Q E => ∃ (k dx : Addr) (x : V), vs = [.ref k, x] ∧ H k = some (.ins (cls mg "Keep") dx []) ∧ DT K H 3 x ∧
  (isRulesV H x = false → ∀ H', Same H H' → E (.ref (cls mg "BadRules")) none H') ∧
  (isRulesV H x = true → ∃ a rus, x = .ref a ∧ RulesAt H a rus ∧ ∀ H' N Pn, Step [k] H H' → H N = none → H Pn = none → KeepAt K mg "Keep" [] H' k [k, N, Pn] ⟨rus, [], [], none⟩ → Q .non H')
theorem f_KeepK____init__ (T : Txt K mg) : Mo P w K mg base (L2.CX P w) lv_Keep____init__ "Keep" "__init__" pm_Keep____init__ (sp_KeepK____init__ K mg) := by
  obtain ⟨f, fd, F, g, b⟩ := T.m_Keep____init__.ex
  refine ⟨f, fd, g, b, F.okX sc_Keep____init__ (fun vs H Q E h => ?_) (fun cdv A outer s H vs Q E hr h => ?_)⟩
  · obtain ⟨k, dx, x, rfl, _⟩ := h; rfl
  · obtain ⟨k, dx, x, rfl, hk, hx, q1, q2⟩ := h
    refine ⟨_, (pss_cons (ps_expr (pe_fn (f_look_rules T) (hr.mono (by decide)) (by rfl) (passX (takes_of rfl rfl rfl rfl)) (pa_cons (pv 1) pa_nil)))
      (pss_cons (ps_fld (pv 0) (pv 1) rfl)
      (pss_cons (ps_fld (pv 0) (pe_lst pa_nil) rfl)
      (pss_cons (ps_fld (pv 0) (pe_lst pa_nil) rfl)
      (pss_one (ps_fld (pv 0) pe_non rfl)))))), ?_⟩
    with_reducible refine seq_k fun K_ hK_ => ?_
    walk_at "rt"
    refine ⟨x, rfl, hx, fun e H1 s1 => ?_, q1⟩
    obtain ⟨a, rus, rfl, hR, q⟩ := q2 e
    have hk1 := s1 _ _ hk
    have oc := T.o_Keep
    walk_at "rt"
    subst hK_
    first | with_reducible refine seq_k fun K_ hK_ => ?_ | skip
    walk_at "rt"
    refine ⟨_, dx, _, hk1, oc.cl, T.n_Keep__rules, by decide, ?_⟩
    have st1 : Step [k] H H1 := .of s1
    generalize hG_ : upd _ k _ = H2
    obtain ⟨st2, b2, hk2⟩ := putH st1 (by simp) hk1 (fun _ z => nomatch z) hG_
    clear hG_
    walk_at "rt"
    subst hK_
    first | with_reducible refine seq_k fun K_ hK_ => ?_ | skip
    walk_at "rt"
    intro N n_N
    generalize hG_ : upd _ N _ = H3
    obtain ⟨s3, hN3⟩ := newF n_N hG_
    clear hG_
    have hk3 := s3 _ _ hk2
    have hNk : N ≠ k := (ne_of_none hk2 n_N).symm
    have st3 := st2.same s3
    refine ⟨_, dx, _, hk3, oc.cl, T.n_Keep__nights, (by show (1 : Nat) < 1000; decide), ?_⟩
    generalize hG_ : upd _ k _ = H4
    obtain ⟨st4, b4, hk4⟩ := putH st3 (by simp) hk3 (fun _ z => nomatch z) hG_
    clear hG_
    have hN4 := b4 _ _ hN3 hNk
    walk_at "rt"
    subst hK_
    first | with_reducible refine seq_k fun K_ hK_ => ?_ | skip
    walk_at "rt"
    intro Pn n_Pn
    generalize hG_ : upd _ Pn _ = H5
    obtain ⟨s5, hP5⟩ := newF n_Pn hG_
    clear hG_
    have hk5 := s5 _ _ hk4
    have hN5 := s5 _ _ hN4
    have hPk : Pn ≠ k := (ne_of_none hk4 n_Pn).symm
    have hNP : N ≠ Pn := ne_of_none hN4 n_Pn
    have st5 := st4.same s5
    refine ⟨_, dx, _, hk5, oc.cl, T.n_Keep__pinned, (by show (2 : Nat) < 1000; decide), ?_⟩
    generalize hG_ : upd _ k _ = H6
    obtain ⟨st6, b6, hk6⟩ := putH st5 (by simp) hk5 (fun _ z => nomatch z) hG_
    clear hG_
    have hN6 := b6 _ _ hN5 hNk
    have hP6 := b6 _ _ hP5 hPk
    walk_at "rt"
    subst hK_
    first | with_reducible refine seq_k fun K_ hK_ => ?_ | skip
    walk_at "rt"
    refine ⟨_, dx, _, hk6, oc.cl, T.n_Keep__last, (by show (3 : Nat) < 1000; decide), ?_⟩
    generalize hG_ : upd _ k _ = H7
    obtain ⟨st7, b7, hk7⟩ := putH st6 (by simp) hk6 (fun _ z => nomatch z) hG_
    clear hG_
    exact q H7 N Pn st7 (st2.free n_N (by simpa using hNk)) (st4.free n_Pn (by simpa using hPk))
      ⟨⟨oc, T.n_Keep__rules, T.n_Keep__nights, T.n_Keep__pinned, T.n_Keep__last⟩, by decide, ⟨dx, a, N, Pn, rfl, hNP, hk7, hR.step st7, b7 _ _ hN6 hNk, b7 _ _ hP6 hPk⟩, .nil, (fun _ h => nomatch h), (fun _ h => nomatch h), (fun _ h => nomatch h), Nat.zero_le _, .nil, (fun _ h => nomatch h)⟩

def sp_KeepK____len__ (K : PySem.W.Frag) (mg : Str → Option Value) : Sp := fun vs H Q _ => ∃ (k : Addr) (S : List Addr) (v : KV), vs = [.ref k] ∧ KeepAt K mg "Keep" [] H k S v ∧ Q (.int v.ns.length) H
theorem f_KeepK____len__ (T : Txt K mg) : Mo P w K mg base CX0 lv_Keep____len__ "Keep" "__len__" pm_Keep____len__ (sp_KeepK____len__ K mg) := by
  obtain ⟨f, fd, F, g, b⟩ := T.m_Keep____len__.ex
  refine ⟨f, fd, g, b, F.ok sc_Keep____len__ (fun vs H Q E h => ?_) (fun cdv A outer s H vs Q E hr h => ?_)⟩
  · obtain ⟨k, S, v, rfl, _⟩ := h; rfl
  · obtain ⟨k, S, v, rfl, hK, q⟩ := h
    refine ⟨_, (pss_one (ps_ret (pe_callB call_len_seq (by rfl) T.b_len PySem.boot_len (pa_cons (pe_fld (pv 0) rfl) pa_nil)))), ?_⟩
    obtain ⟨dx, r, N, Pn, rfl, hNP, hk, hR, hN, hP⟩ := hK.at_
    have kc := hK.kc
    walk_at "rt"
    refine ⟨_, dx, _, hk, kc.o.cl, kc.nn, _, kfs_nights, N, rfl, _, .inl (sqL hN), ?_⟩
    rw [List.length_map]
    exact q

def sp_KeepK__held (K : PySem.W.Frag) (mg : Str → Option Value) : Sp := fun vs H Q _ => ∃ (k : Addr) (S : List Addr) (v : KV), vs = [.ref k] ∧ KeepAt K mg "Keep" [] H k S v ∧ ∀ p H', Same H H' → H p = none → H' p = some (.lst (v.ns.map V.int)) → Q (.ref p) H'
theorem f_KeepK__held (T : Txt K mg) : Mo P w K mg base CX0 lv_Keep__held "Keep" "held" pm_Keep__held (sp_KeepK__held K mg) := by
  obtain ⟨f, fd, F, g, b⟩ := T.m_Keep__held.ex
  refine ⟨f, fd, g, b, F.ok sc_Keep__held (fun vs H Q E h => ?_) (fun cdv A outer s H vs Q E hr h => ?_)⟩
  · obtain ⟨k, S, v, rfl, _⟩ := h; rfl
  · obtain ⟨k, S, v, rfl, hK, q⟩ := h
    refine ⟨_, (pss_one (ps_ret (pe_callTy call_list_of (by rfl) T.b_list (by decide +kernel) (pa_cons (pe_fld (pv 0) rfl) pa_nil)))), ?_⟩
    obtain ⟨dx, r, N, Pn, rfl, hNP, hk, hR, hN, hP⟩ := hK.at_
    have kc := hK.kc
    walk_at "rt"
    refine ⟨_, dx, _, hk, kc.o.cl, kc.nn, _, kfs_nights, N, rfl, _, .inl (sqL hN), fun l hl => q l _ (same_upd hl) hl upd_same⟩

def sp_KeepK__pins (K : PySem.W.Frag) (mg : Str → Option Value) : Sp := fun vs H Q _ => ∃ (k : Addr) (S : List Addr) (v : KV), vs = [.ref k] ∧ KeepAt K mg "Keep" [] H k S v ∧ ∀ p H', Same H H' → H p = none → H' p = some (.lst (v.ps.map V.int)) → Q (.ref p) H'
theorem f_KeepK__pins (T : Txt K mg) : Mo P w K mg base CX0 lv_Keep__pins "Keep" "pins" pm_Keep__pins (sp_KeepK__pins K mg) := by
  obtain ⟨f, fd, F, g, b⟩ := T.m_Keep__pins.ex
  refine ⟨f, fd, g, b, F.ok sc_Keep__pins (fun vs H Q E h => ?_) (fun cdv A outer s H vs Q E hr h => ?_)⟩
  · obtain ⟨k, S, v, rfl, _⟩ := h; rfl
  · obtain ⟨k, S, v, rfl, hK, q⟩ := h
    refine ⟨_, (pss_one (ps_ret (pe_callTy call_list_of (by rfl) T.b_list (by decide +kernel) (pa_cons (pe_fld (pv 0) rfl) pa_nil)))), ?_⟩
    obtain ⟨dx, r, N, Pn, rfl, hNP, hk, hR, hN, hP⟩ := hK.at_
    have kc := hK.kc
    walk_at "rt"
    refine ⟨_, dx, _, hk, kc.o.cl, kc.np, _, kfs_pinned, Pn, rfl, _, .inl (sqL hP), fun l hl => q l _ (same_upd hl) hl upd_same⟩
abbrev nm_Keep__take : List Str := ["self", "night"]
abbrev pm_Keep__take : List Str := ["self", "night"]
abbrev lv_Keep__take : Nat := 4
theorem sc_Keep__take : FnScope nm_Keep__take pm_Keep__take (defScope s_Keep__take) := ⟨rfl, rfl, rfl, by decide +kernel, rfl, by decide +kernel, by decide +kernel⟩
def sp_KeepK__take (K : PySem.W.Frag) (mg : Str → Option Value) : Sp := fun vs H Q E => ∃ (k : Addr) (S : List Addr) (v : KV) (x : V) (n : String), vs = [.ref k, x] ∧ KeepAt K mg "Keep" [] H k S v ∧ Thing K H x n ∧
  (isNumV x 0 (.int 1000000000) = false → E (.ref (cls mg "BadNight")) none H) ∧
  (∀ m l, x = .int m → 0 ≤ m → m ≤ 1000000000 → v.last = some l → m ≤ l → ∀ d H', Same H H' → H' d = some (.xd [("last", .int l)]) → E (.ref (cls mg "Elder")) (some d) H') ∧
  (∀ m, x = .int m → 0 ≤ m → m ≤ 1000000000 → (∀ l, v.last = some l → l < m) → 100 ≤ v.ns.length → E (.ref (cls mg "Full")) none H) ∧
  (∀ m, x = .int m → 0 ≤ m → m ≤ 1000000000 → (∀ l, v.last = some l → l < m) → v.ns.length < 100 → ∀ H', Step S H H' → KeepAt K mg "Keep" [] H' k S { v with ns := v.ns ++ [m], last := some m } → Q .non H')
theorem f_KeepK__take (T : Txt K mg) : Mo P w K mg base (L2.CX P w) lv_Keep__take "Keep" "take" pm_Keep__take (sp_KeepK__take K mg) := by
  obtain ⟨f, fd, F, g, b⟩ := T.m_Keep__take.ex
  refine ⟨f, fd, g, b, F.okX sc_Keep__take (fun vs H Q E h => ?_) (fun cdv A outer s H vs Q E hr h => ?_)⟩
  · obtain ⟨k, S, v, x, n, rfl, _⟩ := h; rfl
  · obtain ⟨k, S, v, x, n, rfl, hK, hx, q1, q2, q3, q4⟩ := h
    refine ⟨_, (pss_cons (ps_expr (pe_fn (f_look_taken T) (hr.mono (by decide)) (by rfl) (passX (takes_of rfl rfl rfl rfl)) (pa_cons (pv 0) (pa_cons (pv 1) pa_nil))))
      (pss_cons (ps_expr (pe_bm PySem.F.plainAttrs_list PySem.F.slot_list_append PySem.F.type_list_append mt_append (pe_fld (pv 0) rfl) (pa_cons (pv 1) pa_nil)))
      (pss_one (ps_fld (pv 0) (pv 1) rfl)))), ?_⟩
    with_reducible refine seq_k fun K_ hK_ => ?_
    walk_at "rt"
    refine ⟨"Keep", [], k, S, v, x, n, rfl, hK, hx, q1, q2, q3, fun m e m0 m1 hl h100 => ?_⟩
    subst e
    have q := q4 m rfl m0 m1 hl h100
    obtain ⟨dx, r, N, Pn, rfl, hNP, hk, hR, hN, hP⟩ := hK.at_
    have kc := hK.kc
    walk_at "rt"
    subst hK_
    first | with_reducible refine seq_k fun K_ hK_ => ?_ | skip
    walk_at "rt"
    have hkN : k ≠ N := ne_of hk hN (by intro z; cases z)
    have hkP : k ≠ Pn := ne_of hk hP (by intro z; cases z)
    have hn100 := hK.n100
    refine ⟨_, dx, _, hk, kc.o.cl, kc.nn, _, kfs_nights, app hN (by rw [List.length_map]; omega) ?_⟩
    have st0 : Step [k, N, Pn] H H := .refl
    generalize hG_ : upd _ N _ = H1
    obtain ⟨st1, b1, hN1⟩ := putH st0 (by simp) hN (fun _ z => nomatch z) hG_
    clear hG_
    have hk1 := b1 _ _ hk hkN
    walk_at "rt"
    subst hK_
    first | with_reducible refine seq_k fun K_ hK_ => ?_ | skip
    walk_at "rt"
    refine ⟨_, dx, _, hk1, kc.o.cl, kc.nl, (by show (4 : Nat) < 1000; decide), ?_⟩
    generalize hG_ : upd _ k _ = H2
    obtain ⟨st2, b2, hk2⟩ := putH st1 (by simp) hk1 (fun _ z => nomatch z) hG_
    clear hG_
    have hlt : ∀ z ∈ v.ns, z < m := fun z hz => by
      obtain ⟨l, h1, h2⟩ := hK.lst z hz
      have := hl l h1
      omega
    refine q H2 st2 ⟨kc, by decide, ⟨dx, r, N, Pn, rfl, hNP, hk2, hR.step st2, ?_, b2 _ _ (b1 _ _ hP hNP.symm) hkP.symm⟩, ?_, ?_, ?_, ?_, ?_, hK.prise, fun z hz => List.mem_append_left _ (hK.psub z hz)⟩
    · rw [b2 _ _ hN1 hkN.symm, List.map_append]
      rfl
    · rw [List.pairwise_append]
      exact ⟨hK.rise, List.pairwise_singleton _ _, fun a ha b hb => by rw [List.mem_singleton.mp hb]; exact hlt a ha⟩
    · intro z hz
      rcases List.mem_append.mp hz with hz | hz
      · exact hK.bnd z hz
      · rw [List.mem_singleton.mp hz]; exact ⟨m0, m1⟩
    · intro z hz
      refine ⟨m, rfl, ?_⟩
      rcases List.mem_append.mp hz with hz | hz
      · exact Int.le_of_lt (hlt z hz)
      · rw [List.mem_singleton.mp hz]; exact Int.le_refl _
    · intro l e
      cases e
      exact ⟨m0, m1⟩
    · rw [List.length_append]
      exact h100
abbrev nm_Keep__let_go : List Str := ["self", "gone", "night"]
abbrev pm_Keep__let_go : List Str := ["self"]
abbrev lv_Keep__let_go : Nat := 5
theorem sc_Keep__let_go : FnScope nm_Keep__let_go pm_Keep__let_go (defScope s_Keep__let_go) := ⟨rfl, rfl, rfl, by decide +kernel, rfl, by decide +kernel, by decide +kernel⟩
def sp_KeepK__let_go (K : PySem.W.Frag) (mg : Str → Option Value) : Sp := fun vs H Q _ => ∃ (k : Addr) (S : List Addr) (v : KV), vs = [.ref k] ∧ KeepAt K mg "Keep" [] H k S v ∧
  ∀ p H' S', Step S H H' → Own H S S' → H p = none → p ∉ S' → H' p = some (.lst ((goneK v).map V.int)) → KeepAt K mg "Keep" [] H' k S' { v with ns := leftK v } → Q (.ref p) H'
theorem f_KeepK__let_go (T : Txt K mg) : Mo P w K mg base CX0 lv_Keep__let_go "Keep" "let_go" pm_Keep__let_go (sp_KeepK__let_go K mg) := by
  obtain ⟨f, fd, F, g, b⟩ := T.m_Keep__let_go.ex
  refine ⟨f, fd, g, b, F.ok sc_Keep__let_go (fun vs H Q E h => ?_) (fun cdv A outer s H vs Q E hr h => ?_)⟩
  · obtain ⟨k, S, v, rfl, _⟩ := h; rfl
  · obtain ⟨k, S, v, rfl, hK, q⟩ := h
    refine ⟨_, (pss_cons (ps_set (i := 1) sc_Keep__let_go.nd rfl (.inr rfl) (pe_fn (f_gone_of T) (hr.mono (by decide)) (by rfl) pass0 (pa_cons (pv 0) pa_nil)))
      (pss_cons (ps_fld (pv 0) (pe_lc (own := [("night", 2)]) (g := gName 2) (by rfl) sc_Keep__let_go.nd (pi_list (pe_fld (pv 0) rfl)) (blkOk_by (own := [("night", 2)]) (N := nm_Keep__let_go) (sc := defScope s_Keep__let_go) (by decide +kernel)) (fun _ _ _ _ _ => (pg_name (i := 2) sc_Keep__let_go.nd rfl (Or.inl rfl))) (fun _ _ _ _ _ => (pts_one (pt_cmpR (op_notInK K rfl) (pv 2) (pv 1) (by rfl)))) (fun _ _ _ _ _ => (pv 2))) rfl)
      (pss_one (ps_ret (pv 1))))), ?_⟩
    obtain ⟨dx, r, N, Pn, rfl, hNP, hk, hR, hN, hP⟩ := hK.at_
    have kc := hK.kc
    with_reducible refine seq_k fun K_ hK_ => ?_
    walk_at "rt"
    refine ⟨"Keep", [], k, _, v, rfl, hK, fun p H1 s1 hp hp1 => ?_⟩
    have hn100 := hK.n100
    have hkP : Pn ≠ k := ne_of hP hk (by intro z; cases z)
    walk_at "rt"
    subst hK_
    first | with_reducible refine seq_k fun K_ hK_ => ?_ | skip
    walk_at "rt"
    refine ⟨_, dx, _, s1 _ _ hk, kc.o.cl, kc.nn, _, kfs_nights, N, rfl, ⟨_, sqL (s1 _ _ hN)⟩, fun D hD => ?_⟩
    refine lcF (fun n => decide (n ∉ goneK v)) hD (sqL (s1 _ _ hN)) (by omega) (fun _ => rfl) (fun _ => rfl) (fun m H3 _ s3 Q hQ => ?_) (fun H3 s3 hD3 => ?_)
    · walk_at "rt"
      refine ⟨p, _, rfl, .inl (sqL (s3 _ _ hp1)), rfl, flat_ints _, _, rfl, ?_⟩
      rw [if_pos rfl, inV_ints, ← decide_not]
      exact hQ H3 (Same.refl _)
    · have s13 := s1.trans s3
      have hk3 := s13 _ _ hk
      refine ⟨_, dx, _, hk3, kc.o.cl, kc.nn, (by show (4 : Nat) < 1000; decide), ?_⟩
      have st3 : Step [k, N, Pn] H H3 := .of s13
      generalize hG_ : upd _ k _ = H4
      obtain ⟨st4, b4, hk4⟩ := putH st3 (by simp) hk3 (fun _ z => nomatch z) hG_
      clear hG_
      have hDk : D ≠ k := (ne_of_none (s1 _ _ hk) hD).symm
      have hpD : p ≠ D := ne_of_none hp1 hD
      have hpk : p ≠ k := (ne_of_none hk hp).symm
      have hpP : p ≠ Pn := (ne_of_none hP hp).symm
      have hPD : Pn ≠ D := ne_of_none (s1 _ _ hP) hD
      have hD0 := s1.free hD
      walk_at "rt"
      subst hK_
      first | with_reducible refine seq_k fun K_ hK_ => ?_ | skip
      walk_at "rt"
      refine q p H4 [k, D, Pn] st4 (fun b hb => ?_) hp ?_ (b4 _ _ (s3 _ _ hp1) hpk) ⟨kc, by decide, ⟨dx, r, D, Pn, rfl, hPD.symm, hk4, hR.step st4, b4 _ _ hD3 hDk, b4 _ _ (s13 _ _ hP) hkP⟩, hK.rise.filter _, fun z hz => hK.bnd z (List.mem_filter.mp hz).1, fun z hz => hK.lst z (List.mem_filter.mp hz).1, hK.lb,
        Nat.le_trans (List.length_filter_le _ _) hn100, hK.prise, fun z hz => List.mem_filter.mpr ⟨hK.psub z hz, ?_⟩⟩
      · rcases List.mem_cons.mp hb with rfl | hb
        · exact .inl (by simp)
        · rcases List.mem_cons.mp hb with rfl | hb
          · exact .inr hD0
          · exact .inl (by simp at hb ⊢; exact .inr (.inr hb))
      · simp [hpD, hpk, hpP]
      · have : z ∉ goneK v := fun h => by
          have := (List.mem_filter.mp h).2
          simp [hz] at this
        simpa using this

def sp_KeepK__pin (K : PySem.W.Frag) (mg : Str → Option Value) : Sp := fun vs H Q E => ∃ (k : Addr) (S : List Addr) (v : KV) (x : V) (n : String), vs = [.ref k, x] ∧ KeepAt K mg "Keep" [] H k S v ∧ Thing K H x n ∧
  ((∀ m, x = .int m → m ∉ v.ns) → ∀ H', Same H H' → E (.ref (cls mg "NotHeld")) none H') ∧
  (∀ m, x = .int m → m ∈ v.ns → m ∈ v.ps → ∀ H', Same H H' → E (.ref (cls mg "Pinned")) none H') ∧
  (∀ m, x = .int m → m ∈ v.ns → m ∉ v.ps → ∀ H' S' ps', ps'.Pairwise (· < ·) → (∀ z, z ∈ ps' ↔ z ∈ v.ps ∨ z = m) → Step S H H' → Own H S S' → KeepAt K mg "Keep" [] H' k S' { v with ps := ps' } → Q .non H')
theorem f_KeepK__pin (T : Txt K mg) : Mo P w K mg base (L2.CX P w) lv_Keep__pin "Keep" "pin" pm_Keep__pin (sp_KeepK__pin K mg) := by
  obtain ⟨f, fd, F, g, b⟩ := T.m_Keep__pin.ex
  refine ⟨f, fd, g, b, F.okX sc_Keep__pin (fun vs H Q E h => ?_) (fun cdv A outer s H vs Q E hr h => ?_)⟩
  · obtain ⟨k, S, v, x, n, rfl, _⟩ := h; rfl
  · obtain ⟨k, S, v, x, n, rfl, hK, hx, q1, q2, q3⟩ := h
    refine ⟨_, (pss_cons (ps_expr (pe_fn (f_look_held T) (hr.mono (by decide)) (by rfl) (passX (takes_of rfl rfl rfl rfl)) (pa_cons (pv 0) (pa_cons (pv 1) pa_nil))))
      (pss_cons (ps_if (pt_cmpR op_in_seq (pv 1) (pe_fld (pv 0) rfl) (by rfl)) (pss_one (ps_raise rfl (takes_of rfl rfl rfl rfl) (pmk_own PySem.F.excBase_RuntimeError T.x_Pinned.xP T.x_Pinned.gP T.x_Pinned.kP T.x_Pinned.rs rfl))) pss_nil)
      (pss_one (ps_fld (pv 0) (pe_callB cr_sortedI (by rfl) T.b_sorted (by decide +kernel) (pa_cons (pe_op op_cat (pe_fld (pv 0) rfl) (pe_lst (pa_cons (pv 1) pa_nil))) pa_nil)) rfl)))), ?_⟩
    with_reducible refine seq_k fun K_ hK_ => ?_
    walk_at "rt"
    refine ⟨"Keep", [], k, S, v, x, n, rfl, hK, hx, q1, fun m e hm H1 s1 => ?_⟩
    subst e
    have hK1 := hK.same s1
    obtain ⟨dx, r, N, Pn, rfl, hNP, hk, hR, hN, hP⟩ := hK1.at_
    have kc := hK.kc
    have hp100 := hK.plen
    have hkN : N ≠ k := ne_of hN hk (by intro z; cases z)
    walk_at "rt"
    subst hK_
    first | with_reducible refine seq_k fun K_ hK_ => ?_ | skip
    walk_at "rt"
    refine ⟨_, dx, _, hk, kc.o.cl, kc.np, _, kfs_pinned, Pn, _, rfl, .inl (sqL hP), rfl, flat_ints _, _, rfl, ?_⟩
    rw [if_neg Bool.false_ne_true, inV_ints]
    refine ite2 (fun c1 => q2 m rfl hm (by simpa using c1) _ s1) (fun c1 => ?_)
    have hmp : m ∉ v.ps := by simpa using c1
    walk_at "rt"
    subst hK_
    first | with_reducible refine seq_k fun K_ hK_ => ?_ | skip
    walk_at "rt"
    refine ⟨_, dx, _, hk, kc.o.cl, kc.np, _, kfs_pinned, ?_⟩
    intro q1 n_q1
    generalize hG_ : upd _ q1 _ = H2
    obtain ⟨s2, hq1⟩ := newF n_q1 hG_
    clear hG_
    refine ⟨Pn, q1, _, _, rfl, rfl, s2 _ _ hP, hq1, sz (by simp; omega), ?_⟩
    intro q2' n_q2'
    generalize hG_ : upd _ q2' _ = H3
    obtain ⟨s3, hq2⟩ := newF n_q2' hG_
    clear hG_
    have hq2 : H3 q2' = some (.lst ((v.ps ++ [m]).map V.int)) := by rw [hq2, List.map_append]; rfl
    refine ⟨q2', _, rfl, sqL hq2, fun ns' z hperm hsort hz => ?_⟩
    generalize hG_ : upd H3 z _ = H4
    obtain ⟨s4, hz4⟩ := newF hz hG_
    clear hG_
    have s24 := s2.trans (s3.trans s4)
    have s14 := s1.trans s24
    have hk4 := s24 _ _ hk
    refine ⟨_, dx, _, hk4, kc.o.cl, kc.np, (by show (4 : Nat) < 1000; decide), ?_⟩
    have st4 : Step [k, N, Pn] H H4 := .of s14
    have T4 : Step [k] H4 H4 := .refl
    generalize hG_ : upd _ k _ = H5
    obtain ⟨T5, _, _⟩ := putH T4 (by simp) hk4 (fun _ z => nomatch z) hG_
    obtain ⟨st5, b5, hk5⟩ := putH st4 (by simp) hk4 (fun _ z => nomatch z) hG_
    clear hG_
    have nd : ns'.Nodup := by
      rw [hperm.nodup_iff, List.nodup_append]
      exact ⟨rise_nodup hK.prise, by simp, fun a ha b hb e => by rw [List.mem_singleton.mp hb] at e; rw [e] at ha; exact hmp ha⟩
    have hmem : ∀ y, y ∈ ns' ↔ y ∈ v.ps ∨ y = m := fun y => by rw [hperm.mem_iff]; simp
    have hr := rise_of_le hsort nd
    have hz2 := (s2.trans s3).free hz
    have hzN : N ≠ z := ne_of_none hN hz2
    have hzk : z ≠ k := (ne_of_none hk hz2).symm
    refine q3 m rfl hm hmp H5 [k, N, z] ns' hr hmem st5 (fun b hb => ?_) ⟨kc, by decide, ⟨dx, r, N, z, rfl, hzN, hk5, (hR.same s24).step (T5), b5 _ _ (s24 _ _ hN) hkN, b5 _ _ hz4 hzk⟩, hK.rise, hK.bnd, hK.lst, hK.lb, hK.n100, hr, fun y hy => ?_⟩
    · rcases List.mem_cons.mp hb with rfl | hb
      · exact .inl (by simp)
      · rcases List.mem_cons.mp hb with rfl | hb
        · exact .inl (by simp)
        · rw [List.mem_singleton.mp hb]
          exact .inr (s1.free hz2)
    · rcases (hmem y).mp hy with h | h
      · exact hK.psub y h
      · rw [h]; exact hm
end
end Nk
namespace Nk
open PySem L2
section
variable {P : Program} {w : World} {K : PySem.W.Frag} {mg : Str → Option Value} {base : Heap}

def sp_KeepK__ahead (K : PySem.W.Frag) (mg : Str → Option Value) : Sp := fun vs H Q E => ∃ (k : Addr) (S : List Addr) (v : KV) (x : V), vs = [.ref k, x] ∧ KeepAt K mg "Keep" [] H k S v ∧ DT K H 1 x ∧
  (isNightsV H x = false → ∀ H', Same H H' → E (.ref (cls mg "BadNights")) none H') ∧
  (isNightsV H x = true → ∃ (l : Addr) (ms : List Int), x = .ref l ∧ H l = some (.lst (ms.map V.int)) ∧ ms.length ≤ 100 ∧ ms.Pairwise (· < ·) ∧
    ((∃ m0 l', ms.head? = some m0 ∧ v.last = some l' ∧ m0 ≤ l' ∧ ∀ d H', Same H H' → H' d = some (.xd [("last", .int l')]) → E (.ref (cls mg "Elder")) (some d) H') ∨
     ((∀ m0 l', ms.head? = some m0 → v.last = some l' → l' < m0) ∧ ∀ (p : Addr) (L : List Int) (H' : Hp), Same H H' → H p = none → L.Pairwise (· < ·) → (∀ z, z ∈ L ↔ z ∈ keptF v.rus (v.ns ++ ms) ∨ z ∈ v.ps) → H' p = some (.lst (L.map V.int)) → Q (.ref p) H')))
theorem f_KeepK__ahead (T : Txt K mg) : Mo P w K mg base (L2.CX P w) lv_Keep__ahead "Keep" "ahead" pm_Keep__ahead (sp_KeepK__ahead K mg) := by
  obtain ⟨f, fd, F, g, b⟩ := T.m_Keep__ahead.ex
  refine ⟨f, fd, g, b, F.okX sc_Keep__ahead (fun vs H Q E h => ?_) (fun cdv A outer s H vs Q E hr h => ?_)⟩
  · obtain ⟨k, S, v, x, rfl, _⟩ := h; rfl
  · obtain ⟨k, S, v, x, rfl, hK, hx, q1, q2⟩ := h
    refine ⟨_, (pss_cons (ps_expr (pe_fn (f_look_nights T) (hr.mono (by decide)) (by rfl) (passX (takes_of rfl rfl rfl rfl)) (pa_cons (pv 1) pa_nil)))
      (pss_cons (ps_if (PW.pt (pw_and (pt_cmpR (op_neD hr.units) (pv 1) (pe_lst pa_nil) (nomark _)) (pw_and (pt_cmpR op_notN (pe_fld (pv 0) rfl) pe_non (nomark _)) (pw_and1 (pt_cmpR op_le (pe_ix ix_list (pv 1) pe_int (fun _ _ => rfl)) (pe_fld (pv 0) rfl) (nomark _)))))) (pss_one (ps_raise rfl (takes_of rfl rfl rfl rfl) (pmk_el T.y_Elder (f_Elder____init__ T) (hr.mono (by decide)) pass0 (by rfl) (pa_cons (pe_fld (pv 0) rfl) pa_nil)))) pss_nil)
      (pss_cons (ps_set (i := 2) sc_Keep__ahead.nd rfl (.inl rfl) (pe_op op_cat (pe_fld (pv 0) rfl) (pv 1)))
      (pss_one (ps_ret (pe_callB (cr_sortedSA rfl) (by rfl) T.b_sorted (by decide +kernel) (pa_cons (pe_callTy (cr_setLI rfl) (by rfl) T.b_set (by decide +kernel) (pa_cons (pe_op op_cat (pe_fn (f_kept_of T) (hr.mono (by decide)) (by rfl) pass0 (pa_cons (pe_fld (pv 0) rfl) (pa_cons (pv 2) pa_nil))) (pe_fld (pv 0) rfl)) pa_nil)) pa_nil))))))), ?_⟩
    with_reducible refine seq_k fun K_ hK_ => ?_
    walk_at "rt"
    refine ⟨x, rfl, hx, fun e H1 s1 => ?_, q1⟩
    obtain ⟨l, ms, rfl, hl, hm100, hrise, q⟩ := q2 e
    have hK1 := hK.same s1
    obtain ⟨dx, r, N, Pn, rfl, hNP, hk, hR, hN, hP⟩ := hK1.at_
    have kc := hK.kc
    have hl1 := s1 _ _ hl
    walk_at "rt"
    subst hK_
    first | with_reducible refine seq_k fun K_ hK_ => ?_ | skip
    walk_at "rt"
    have rest : ∀ H2, Same H1 H2 → (∀ m0 l', ms.head? = some m0 → v.last = some l' → l' < m0) → K_ [some (.ref k), some (.ref l), none] H2 := by
      intro H2 s2 hlt
      have q' : ∀ (p : Addr) (L : List Int) (H' : Hp), Same H H' → H p = none → L.Pairwise (· < ·) → (∀ z, z ∈ L ↔ z ∈ keptF v.rus (v.ns ++ ms) ∨ z ∈ v.ps) → H' p = some (.lst (L.map V.int)) → Q (.ref p) H' := by
        rcases q with ⟨m0, l', h1, h2, h3, _⟩ | ⟨_, q⟩
        · have := hlt m0 l' h1 h2
          omega
        · exact q
      have hn100 := hK.n100
      have hp100 := hK.plen
      have hrise2 : (v.ns ++ ms).Pairwise (· < ·) := by
        rw [List.pairwise_append]
        refine ⟨hK.rise, hrise, fun a ha b hb => ?_⟩
        obtain ⟨l', h1, h2⟩ := hK.lst a ha
        cases hms : ms with
        | nil => rw [hms] at hb; cases hb
        | cons m0 t =>
          have h3 := hlt m0 l' (by rw [hms]; rfl) h1
          rw [hms] at hb hrise
          rcases List.mem_cons.mp hb with rfl | hb
          · omega
          · have := (List.pairwise_cons.mp hrise).1 b hb
            omega
      walk_at "rt"
      subst hK_
      first | with_reducible refine seq_k fun K_ hK_ => ?_ | skip
      walk_at "rt"
      refine ⟨_, dx, _, s2 _ _ hk, kc.o.cl, kc.nn, _, kfs_nights, N, l, _, _, rfl, rfl, s2 _ _ hN, s2 _ _ hl1, sz (by rw [List.length_map, List.length_map]; omega), ?_⟩
      intro z1 n_z1
      generalize hG_ : upd _ z1 _ = H3
      obtain ⟨s3, hz1⟩ := newF n_z1 hG_
      clear hG_
      rw [← List.map_append] at hz1
      have s23 := s2.trans s3
      walk_at "rt"
      subst hK_
      first | with_reducible refine seq_k fun K_ hK_ => ?_ | skip
      walk_at "rt"
      refine ⟨_, dx, _, s23 _ _ hk, kc.o.cl, kc.nr, _, kfs_rules, ?_⟩
      refine ⟨r, z1, v.rus, v.ns ++ ms, rfl, hR.same s23, sqL hz1, hrise2, fun p H4 s4 hp hp4 => ?_⟩
      have s24 := s23.trans s4
      refine ⟨_, dx, _, s24 _ _ hk, kc.o.cl, kc.np, _, kfs_pinned, p, Pn, _, _, rfl, rfl, hp4, s24 _ _ hP, ?_, ?_⟩
      · rw [List.length_map, List.length_map]
        have := List.length_filter_le (fun n => v.rus.any fun ru => decide (n ∈ keptBy ru (v.ns ++ ms))) (v.ns ++ ms)
        rw [List.length_append] at this
        exact sz (by unfold keptF; omega)
      intro z2 n_z2
      generalize hG_ : upd _ z2 _ = H5
      obtain ⟨s5, hz2⟩ := newF n_z2 hG_
      clear hG_
      rw [← List.map_append] at hz2
      have hll : (keptF v.rus (v.ns ++ ms) ++ v.ps).length ≤ 300 := by
        have := List.length_filter_le (fun n => v.rus.any fun ru => decide (n ∈ keptBy ru (v.ns ++ ms))) (v.ns ++ ms)
        rw [List.length_append] at this ⊢
        unfold keptF
        omega
      refine ⟨z2, _, rfl, sqL hz2, by omega, fun z3 c hz3 hc => ?_⟩
      generalize hG_ : upd H5 z3 _ = H6
      obtain ⟨s6, hz6⟩ := newF hz3 hG_
      clear hG_
      refine ⟨z3, _, c, rfl, hz6, by omega, fun L z4 hr4 hm4 hc4 hz4 => ?_⟩
      have sAll := s1.trans (s24.trans (s5.trans (s6.trans (same_upd (o := .lst (L.map V.int)) hz4))))
      refine q' z4 L _ sAll ?_ hr4 (fun z => ?_) upd_same
      · exact s1.free (s24.free (s5.free (s6.free hz4)))
      · rw [hm4, decide_eq_true_eq, List.mem_append]
    intro z0 n_z0
    generalize hG_ : upd _ z0 _ = H2
    obtain ⟨s2, hz0⟩ := newF n_z0 hG_
    clear hG_
    refine neD (d := dLI ms) (e := dLI []) (dp_LI (sqL (s2 _ _ hl1))) (dp_LI (sqL hz0)) (gd_dLI (k := 0) _) (gd_dLI (k := 0) _) (fun e => ⟨_, rfl, ?_⟩) (fun e => ⟨_, rfl, ?_⟩)
    · rw [if_neg Bool.false_ne_true]
      have e := dLI_inj.mp e
      exact rest H2 s2 fun m0 l' h => by rw [e] at h; cases h
    · rw [if_pos rfl]
      obtain ⟨m0, ms', hms⟩ : ∃ m0 ms', ms = m0 :: ms' := by
        cases ms with
        | nil => exact absurd rfl e
        | cons a b => exact ⟨a, b, rfl⟩
      have hm0 : ms.head? = some m0 := by rw [hms]; rfl
      refine ⟨_, dx, _, s2 _ _ hk, kc.o.cl, kc.nl, _, kfs_last, ?_⟩
      cases hla : v.last with
      | none =>
        rw [if_neg (fun e => e rfl)]
        exact rest H2 s2 fun m l' _ h => by rw [hla] at h; cases h
      | some l' =>
        rw [if_pos (fun e => nomatch e)]
        refine ixL (j := 0) (sqL (s2 _ _ hl1)) rfl (by rw [hms]; rfl) ?_
        rw [hla] at hk
        refine ⟨_, dx, _, s2 _ _ hk, kc.o.cl, kc.nl, _, kfs_last, m0, rfl, l', rfl, ?_⟩
        refine ite2 (fun c1 => ?_) (fun c1 => rest H2 s2 fun m l'' h h2 => by rw [hla] at h2; rw [hm0] at h; cases h; cases h2; omega)
        have q' : ∀ d H', Same H H' → H' d = some (.xd [("last", .int l')]) → E (.ref (cls mg "Elder")) (some d) H' := by
          rcases q with ⟨m1, l1, h1, h2, h3, q⟩ | ⟨q, _⟩
          · rw [hla] at h2; cases h2; exact q
          · have := q m0 l' hm0 hla
            omega
        have s12 := Same.trans s1 s2
        refine ⟨_, dx, _, s2 _ _ hk, kc.o.cl, kc.nl, _, kfs_last, fun a ha => ⟨a, _, rfl, upd_same, fun d hd hda => ⟨rfl, d, upd_same, [("last", .int l')], ?_, ?_, ?_⟩⟩⟩
        · rw [upd_ne hda]; exact upd_same
        · rw [upd_ne hda] at hd; exact hd
        · refine q' d _ (fun b o hb => ?_) upd_same
          have hb2 := s12 _ _ hb
          have h1 : b ≠ a := ne_of_none hb2 ha
          have h2 : b ≠ d := ne_of_none hb2 (by rw [upd_ne hda] at hd; exact hd)
          rw [upd_ne h2, del_ne h1, upd_ne h1, upd_ne h2, upd_ne h1]
          exact hb2
end
end Nk
/-! ### k90: parts of the heap; copies, spoilt lists -/
namespace Nk
open PySem L2
/-- the part of a heap that p tells, and all tuples -/
def subH (p : Addr → Bool) (H : Hp) : Hp := fun b => match H b with
  | some (.tup xs) => some (.tup xs)
  | o => if p b = true then o else none
theorem subH_tup {p : Addr → Bool} {H : Hp} {b : Addr} {xs : List V} (h : H b = some (.tup xs)) : subH p H b = some (.tup xs) := by unfold subH; rw [h]
theorem subH_in {p : Addr → Bool} {H : Hp} {b : Addr} {o : HO} (h : H b = some o) (hp : p b = true) : subH p H b = some o := by
  unfold subH
  split
  · rename_i xs e; rw [h] at e; rw [e]
  · rw [if_pos hp, h]
theorem subH_out {p : Addr → Bool} {H : Hp} {b : Addr} {o : HO} (h : subH p H b = some o) : H b = some o ∧ ((∃ xs, o = .tup xs) ∨ p b = true) := by
  unfold subH at h
  split at h
  · rename_i xs e; cases h; exact ⟨e, .inl ⟨xs, rfl⟩⟩
  · split at h
    · rename_i hp; exact ⟨h, .inr hp⟩
    · cases h
theorem subH_le {p : Addr → Bool} {H : Hp} : Same (subH p H) H := fun _ _ h => (subH_out h).1
theorem subH_same {p q : Addr → Bool} {H H' : Hp} (ht : ∀ b xs, H b = some (.tup xs) → H' b = some (.tup xs)) (h : ∀ b o, H b = some o → p b = true → H' b = some o ∧ q b = true) : Same (subH p H) (subH q H') := fun b o e => by
  obtain ⟨e1, ⟨xs, rfl⟩ | e2⟩ := subH_out e
  · exact subH_tup (ht _ _ e1)
  · obtain ⟨h1, h2⟩ := h b o e1 e2
    exact subH_in h1 h2
/-- all but what is owned -/
def outH (S : List Addr) (H : Hp) : Hp := subH (fun b => !decide (b ∈ S)) H
/-- what is new -/
def newH (H0 H : Hp) : Hp := subH (fun b => (H0 b).isNone) H
theorem Step.out {S S' : List Addr} {H H' : Hp} (st : Step S H H') (ow : Own H S S') : Same (outH S H) (outH S' H') :=
  subH_same (fun b xs h => st.tups b xs h) fun b o h n => by
    have n : b ∉ S := by simpa using n
    refine ⟨st.keep b o h n, ?_⟩
    simp only [Bool.not_eq_true', decide_eq_false_iff_not]
    intro hm
    rcases ow b hm with z | z
    · exact n z
    · rw [z] at h; cases h
theorem outH_at {S : List Addr} {H : Hp} {b : Addr} {o : HO} (h : H b = some o) (n : b ∉ S) : outH S H b = some o := subH_in h (by simpa using n)
theorem newH_at {H0 H : Hp} {b : Addr} {o : HO} (h : H b = some o) (n : H0 b = none) : newH H0 H b = some o := subH_in h (by rw [n]; rfl)
theorem newH_same {H0 H H' : Hp} (s : Same H H') : Same (newH H0 H) (newH H0 H') := subH_same (fun b xs h => s _ _ h) fun b o h n => ⟨s _ _ h, n⟩
theorem newH_old {H0 H1 H : Hp} (s : Same H0 H1) : Same (newH H1 H) (newH H0 H) := subH_same (fun b xs h => h) fun b o h n => ⟨h, by
  have n : (H1 b).isNone = true := n
  rw [Option.isNone_iff_eq_none] at n
  show (H0 b).isNone = true
  rw [s.free n]; rfl⟩
theorem newH_out {S : List Addr} {H0 H : Hp} (al : ∀ b ∈ S, ∃ o, H0 b = some o) : Same (newH H0 H) (outH S H) := subH_same (fun b xs h => h) fun b o h n => ⟨h, by
  have n : (H0 b).isNone = true := n
  rw [Option.isNone_iff_eq_none] at n
  simp only [Bool.not_eq_true', decide_eq_false_iff_not]
  intro hm
  obtain ⟨o', ho⟩ := al b hm
  rw [n] at ho; cases ho⟩
/-! data that is none of lists, lists of such -/
inductive Sc : V → PyData → Prop
  | non : Sc .non .none
  | bl (b : Bool) : Sc (.bl b) (.bool b)
  | int (i : Int) : Sc (.int i) (.int i)
  | str (x : Str) : Sc (.str x) (.str x)
inductive ScAll : List V → List PyData → Prop
  | nil : ScAll [] []
  | cons {x : V} {d : PyData} {xs : List V} {ds : List PyData} : Sc x d → ScAll xs ds → ScAll (x :: xs) (d :: ds)
inductive FlatC (H : Hp) : V → PyData → Prop
  | sc {x : V} {d : PyData} : Sc x d → FlatC H x d
  | tup {a : Addr} {xs : List V} {ds : List PyData} : H a = some (.tup xs) → ScAll xs ds → FlatC H (.ref a) (.tuple ds)
def Ct (H : Hp) : Nat → V → PyData → Prop
  | 0, x, d => FlatC H x d
  | n + 1, x, d => FlatC H x d ∨ ∃ a xs ds, x = .ref a ∧ d = .list ds ∧ H a = some (.lst xs) ∧ xs.length ≤ 10000 ∧ xs.length = ds.length ∧ ∀ (i : Nat) y e, xs[i]? = some y → ds[i]? = some e → Ct H n y e
theorem Sc.dp {K : PySem.W.Frag} {H : Hp} {x : V} {d : PyData} (h : Sc x d) : Dp K H x d := by
  cases h with
  | non => exact .non
  | bl b => exact .bl b
  | int i => exact .int i
  | str x => exact .str x
theorem ScAll.dp {K : PySem.W.Frag} {H : Hp} {xs : List V} {ds : List PyData} (h : ScAll xs ds) : DpAll K H xs ds := by
  induction h with
  | nil => exact .nil
  | cons h _ ih => exact .cons h.dp ih
theorem FlatC.dp {K : PySem.W.Frag} {H : Hp} {x : V} {d : PyData} (h : FlatC H x d) : Dp K H x d := by
  cases h with
  | sc h => exact h.dp
  | tup h a => exact .tup (sqT h) a.dp
theorem FlatC.same {H H' : Hp} {x : V} {d : PyData} (s : Same H H') (h : FlatC H x d) : FlatC H' x d := by
  cases h with
  | sc h => exact .sc h
  | tup h a => exact .tup (s _ _ h) a
theorem FlatC.sub {p : Addr → Bool} {H : Hp} {x : V} {d : PyData} (h : FlatC H x d) : FlatC (subH p H) x d := by
  cases h with
  | sc h => exact .sc h
  | tup h a => exact .tup (subH_tup h) a
theorem FlatC.thing {K : PySem.W.Frag} {H : Hp} {x : V} {d : PyData} (h : FlatC H x d) : ∃ n, Thing K H x n ∧ n ≠ "list" := by
  cases h with
  | sc h =>
    cases h with
    | non => exact ⟨_, .non, by decide⟩
    | bl b => exact ⟨_, .bl b, by decide⟩
    | int i => exact ⟨_, .int i, by decide⟩
    | str x => exact ⟨_, .str x, by decide⟩
  | tup h _ => exact ⟨_, .tup h, by decide⟩
theorem dpAll_of {K : PySem.W.Frag} {H : Hp} : ∀ {xs : List V} {ds : List PyData}, xs.length = ds.length → (∀ (i : Nat) y e, xs[i]? = some y → ds[i]? = some e → Dp K H y e) → DpAll K H xs ds
  | [], [], _, _ => .nil
  | x :: xs, d :: ds, hl, h => .cons (h 0 x d rfl rfl) (dpAll_of (by simpa using hl) fun i y e h1 h2 => h (i + 1) y e (by simpa using h1) (by simpa using h2))
  | [], _ :: _, hl, _ => by simp at hl
  | _ :: _, [], hl, _ => by simp at hl
theorem Ct.dp {K : PySem.W.Frag} {H : Hp} : ∀ {n : Nat} {x : V} {d : PyData}, Ct H n x d → Dp K H x d
  | 0, _, _, h => FlatC.dp h
  | n + 1, _, _, .inl h => h.dp
  | n + 1, _, _, .inr ⟨a, xs, ds, e, e2, h, _, hl, hx⟩ => by
    subst e e2
    exact .lst (sqL h) (dpAll_of hl fun i y e h1 h2 => Ct.dp (hx i y e h1 h2))
theorem Ct.same {H H' : Hp} (s : Same H H') : ∀ {n : Nat} {x : V} {d : PyData}, Ct H n x d → Ct H' n x d
  | 0, _, _, h => FlatC.same s h
  | n + 1, _, _, .inl h => .inl (h.same s)
  | n + 1, _, _, .inr ⟨a, xs, ds, e, e2, h, hb, hl, hx⟩ => .inr ⟨a, xs, ds, e, e2, s _ _ h, hb, hl, fun i y e h1 h2 => Ct.same s (hx i y e h1 h2)⟩
theorem Ct.flat {H : Hp} {n : Nat} {x : V} {d : PyData} (h : FlatC H x d) : Ct H n x d := by
  cases n with
  | zero => exact h
  | succ n => exact .inl h
/-- a comprehension whose items are such data -/
structure CtL (H1 : Hp) (D : Addr) (m : Nat) (ds : List PyData) (i : Nat) (H : Hp) : Prop where
  same : Same H1 H
  at_ : ∃ ys, H D = some (.lst ys) ∧ ys.length = (ds.take i).length ∧ ∀ (j : Nat) y e, ys[j]? = some y → (ds.take i)[j]? = some e → Ct (subH (fun b => (H1 b).isNone && decide (b ≠ D)) H) m y e
theorem CtL.init {H1 : Hp} {D : Addr} {m : Nat} {ds : List PyData} (hD : H1 D = none) : CtL H1 D m ds 0 (upd H1 D (.lst [])) :=
  ⟨same_upd hD, [], upd_same, rfl, fun j y e h _ => by simp at h⟩
theorem CtL.push {H1 H H4 : Hp} {D : Addr} {m i : Nat} {ds : List PyData} {y : V} {d : PyData} (p : CtL H1 D m ds i H) (hD : H1 D = none) (hl : ds.length ≤ 10000) (e : ds[i]? = some d) (s : Same H H4) (c : Ct (newH H H4) m y d) :
    ∃ acc, H4 D = some (.lst acc) ∧ acc.length < sizeLine ∧ CtL H1 D m ds (i + 1) (upd H4 D (.lst (acc ++ [y]))) := by
  obtain ⟨ys, h1, h2, h3⟩ := p.at_
  have hD4 := s _ _ h1
  have hi := lt_of_get e
  rw [List.length_take] at h2
  have tk : ∀ b xs, H4 b = some (.tup xs) → (upd H4 D (.lst (ys ++ [y]))) b = some (.tup xs) := fun b xs h => by
    rw [upd_ne (ne_of h hD4 (by intro z; cases z))]; exact h
  have a1 : Same (newH H H4) (subH (fun b => (H1 b).isNone && decide (b ≠ D)) (upd H4 D (.lst (ys ++ [y])))) := subH_same tk fun b o h n => by
    have n : (H b).isNone = true := n
    rw [Option.isNone_iff_eq_none] at n
    have hb : b ≠ D := (ne_of_none h1 n).symm
    exact ⟨by rw [upd_ne hb]; exact h, by rw [p.same.free n]; simpa using hb⟩
  have a2 : Same (subH (fun b => (H1 b).isNone && decide (b ≠ D)) H) (subH (fun b => (H1 b).isNone && decide (b ≠ D)) (upd H4 D (.lst (ys ++ [y])))) := subH_same (fun b xs h => tk _ _ (s _ _ h)) fun b o h n => by
    have hb : b ≠ D := by
      rw [Bool.and_eq_true] at n
      exact of_decide_eq_true n.2
    exact ⟨by rw [upd_ne hb]; exact s _ _ h, n⟩
  refine ⟨ys, hD4, szl (by omega), Same.app (p.same.trans s) hD, ys ++ [y], upd_same, by rw [List.length_append, List.length_take]; simp; omega, fun j z e' hz he => ?_⟩
  rw [take_next e] at he
  have hlt : (ds.take i).length = ys.length := by rw [List.length_take, h2]
  rcases Nat.lt_or_ge j ys.length with hj | hj
  · rw [List.getElem?_append_left hj] at hz
    rw [List.getElem?_append_left (by omega)] at he
    exact (h3 j z e' hz he).same a2
  · rw [List.getElem?_append_right hj] at hz
    rw [List.getElem?_append_right (by omega), hlt] at he
    have : j - ys.length = 0 := by have := lt_of_get hz; simp at this; omega
    rw [this] at hz he
    cases hz
    cases he
    exact c.same a1
theorem CtL.fin {H1 H : Hp} {D : Addr} {m : Nat} {ds : List PyData} {n : Nat} (p : CtL H1 D m ds n H) (hD : H1 D = none) (hl : ds.length ≤ 10000) (hn : ds.length = n) : Ct (newH H1 H) (m + 1) (.ref D) (.list ds) := by
  subst hn
  obtain ⟨ys, h1, h2, h3⟩ := p.at_
  rw [List.take_length] at h2 h3
  refine .inr ⟨D, ys, ds, rfl, rfl, newH_at h1 hD, by omega, h2, fun i y e hy he => (h3 i y e hy he).same ?_⟩
  refine subH_same (fun _ _ h => h) fun b o h n => ⟨h, ?_⟩
  rw [Bool.and_eq_true] at n
  exact n.1
inductive CtA (H : Hp) (m : Nat) : List V → List PyData → Prop
  | nil : CtA H m [] []
  | cons {x : V} {d : PyData} {xs : List V} {ds : List PyData} : Ct H m x d → CtA H m xs ds → CtA H m (x :: xs) (d :: ds)
theorem CtA.len {H : Hp} {m : Nat} {xs : List V} {ds : List PyData} (h : CtA H m xs ds) : xs.length = ds.length := by
  induction h with
  | nil => rfl
  | cons _ _ ih => simp [ih]
theorem CtA.get {H : Hp} {m : Nat} {xs : List V} {ds : List PyData} (h : CtA H m xs ds) : ∀ (i : Nat) y e, xs[i]? = some y → ds[i]? = some e → Ct H m y e := by
  induction h with
  | nil => intro i y e h; simp at h
  | cons h _ ih =>
    intro i y e h1 h2
    cases i with
    | zero => cases h1; cases h2; exact h
    | succ i => exact ih i y e (by simpa using h1) (by simpa using h2)
theorem CtA.same {H H' : Hp} {m : Nat} {xs : List V} {ds : List PyData} (h : CtA H m xs ds) (s : Same H H') : CtA H' m xs ds := by
  induction h with
  | nil => exact .nil
  | cons h _ ih => exact .cons (h.same s) ih
theorem CtA.app {H : Hp} {m : Nat} {xs ys : List V} {ds es : List PyData} (h : CtA H m xs ds) (h2 : CtA H m ys es) : CtA H m (xs ++ ys) (ds ++ es) := by
  induction h with
  | nil => exact h2
  | cons h _ ih => exact .cons h ih
theorem CtA.of {H : Hp} {m : Nat} : ∀ {xs : List V} {ds : List PyData}, xs.length = ds.length → (∀ (i : Nat) y e, xs[i]? = some y → ds[i]? = some e → Ct H m y e) → CtA H m xs ds
  | [], [], _, _ => .nil
  | x :: xs, d :: ds, hl, h => .cons (h 0 x d rfl rfl) (CtA.of (by simpa using hl) fun i y e h1 h2 => h (i + 1) y e (by simpa using h1) (by simpa using h2))
  | [], _ :: _, hl, _ => by simp at hl
  | _ :: _, [], hl, _ => by simp at hl
theorem CtA.ct {H : Hp} {m : Nat} {a : Addr} {xs : List V} {ds : List PyData} (h : CtA H m xs ds) (ha : H a = some (.lst xs)) (hb : xs.length ≤ 10000) : Ct H (m + 1) (.ref a) (.list ds) :=
  .inr ⟨a, xs, ds, rfl, rfl, ha, hb, h.len, h.get⟩
theorem CtL.fin2 {H1 H : Hp} {D : Addr} {m : Nat} {ds : List PyData} {n : Nat} (p : CtL H1 D m ds n H) (hn : ds.length = n) : ∃ ys, H D = some (.lst ys) ∧ CtA (newH H1 H) m ys ds := by
  subst hn
  obtain ⟨ys, h1, h2, h3⟩ := p.at_
  rw [List.take_length] at h2 h3
  refine ⟨ys, h1, .of h2 fun i y e hy he => (h3 i y e hy he).same ?_⟩
  refine subH_same (fun _ _ h => h) fun b o h n => ⟨h, ?_⟩
  rw [Bool.and_eq_true] at n
  exact n.1
/-- a list of flat data -/
theorem ct_flat {H : Hp} {a : Addr} {xs : List V} {ds : List PyData} {m : Nat} (h : H a = some (.lst xs)) (hb : xs.length ≤ 10000) (hl : xs.length = ds.length) (hx : ∀ (i : Nat) y e, xs[i]? = some y → ds[i]? = some e → FlatC H y e) : Ct H (m + 1) (.ref a) (.list ds) :=
  .inr ⟨a, xs, ds, rfl, rfl, h, hb, hl, fun i y e h1 h2 => Ct.flat (hx i y e h1 h2)⟩
theorem ct_LI {H : Hp} {a : Addr} {ns : List Int} {m : Nat} (h : H a = some (.lst (ns.map V.int))) (hb : ns.length ≤ 10000) : Ct H (m + 1) (.ref a) (dLI ns) :=
  ct_flat h (by rw [List.length_map]; exact hb) (by simp) fun i y e h1 h2 => by
    rw [List.getElem?_map] at h1 h2
    cases hn : ns[i]? with
    | none => rw [hn] at h1; cases h1
    | some n =>
      rw [hn] at h1 h2
      cases h1
      cases h2
      exact .sc (.int n)
theorem ct_LT {H : Hp} {a : Addr} {ws : List Str} {m : Nat} (h : H a = some (.lst (ws.map V.str))) (hb : ws.length ≤ 10000) : Ct H (m + 1) (.ref a) (.list (ws.map PyData.str)) :=
  ct_flat h (by rw [List.length_map]; exact hb) (by simp) fun i y e h1 h2 => by
    rw [List.getElem?_map] at h1 h2
    cases hn : ws[i]? with
    | none => rw [hn] at h1; cases h1
    | some n =>
      rw [hn] at h1 h2
      cases h1
      cases h2
      exact .sc (.str n)
/-! lists that are spoilt -/
def NotL (K : PySem.W.Frag) (H : Hp) (x : V) : Prop := ∃ n, Thing K H x n ∧ n ≠ "list"
def SpD (K : PySem.W.Frag) (p : Addr → Prop) (H : Hp) : Nat → V → Prop
  | 0, x => NotL K H x
  | n + 1, x => NotL K H x ∨ ∃ a xs, x = .ref a ∧ p a ∧ H a = some (.lst xs) ∧ xs.length ≤ 10000 ∧ ∀ y ∈ xs, SpD K p H n y
/-- lists that p tells may have lost items -/
def Pops (p : Addr → Prop) (H H' : Hp) : Prop := ∀ b o, H b = some o → H' b = some o ∨ (p b ∧ ∃ xs ys, o = .lst xs ∧ H' b = some (.lst ys) ∧ ys.length ≤ xs.length ∧ ∀ y ∈ ys, y ∈ xs)
theorem Pops.of {p : Addr → Prop} {H H' : Hp} (s : Same H H') : Pops p H H' := fun b o h => .inl (s _ _ h)
theorem Pops.trans {p : Addr → Prop} {H H1 H2 : Hp} (a : Pops p H H1) (b : Pops p H1 H2) : Pops p H H2 := fun c o h => by
  rcases a c o h with h1 | ⟨hp, xs, ys, e, h1, h2, h3⟩
  · exact b c o h1
  · subst e
    rcases b c _ h1 with h4 | ⟨_, xs', ys', e, h4, h5, h6⟩
    · exact .inr ⟨hp, xs, ys, rfl, h4, h2, h3⟩
    · cases e
      exact .inr ⟨hp, xs, ys', rfl, h4, Nat.le_trans h5 h2, fun y hy => h3 y (h6 y hy)⟩
theorem Pops.keep {p : Addr → Prop} {H H' : Hp} (a : Pops p H H') {b : Addr} {o : HO} (h : H b = some o) (n : ¬ p b) : H' b = some o := (a b o h).resolve_right fun z => n z.1
theorem NotL.pops {K : PySem.W.Frag} {p : Addr → Prop} {H H' : Hp} {x : V} (a : Pops p H H') (h : NotL K H x) : NotL K H' x := by
  obtain ⟨n, h, hn⟩ := h
  refine ⟨n, ?_, hn⟩
  have kp : ∀ b o, H b = some o → (∀ xs, o ≠ .lst xs) → H' b = some o := fun b o h ho => (a b o h).resolve_right fun ⟨_, xs, _, e, _⟩ => ho xs e
  cases h with
  | non => exact .non
  | bl b => exact .bl b
  | int i => exact .int i
  | str x => exact .str x
  | lst h => exact absurd rfl hn
  | tup h => exact .tup (kp _ _ h fun _ z => nomatch z)
  | dic h => exact .dic (kp _ _ h fun _ z => nomatch z)
theorem SpD.pops {K : PySem.W.Frag} {p : Addr → Prop} {H H' : Hp} (a : Pops p H H') : ∀ {n : Nat} {x : V}, SpD K p H n x → SpD K p H' n x
  | 0, _, h => NotL.pops a h
  | n + 1, _, .inl h => .inl (h.pops a)
  | n + 1, _, .inr ⟨b, xs, e, hp, h, hl, hx⟩ => by
    rcases a b _ h with h1 | ⟨_, xs', ys, e2, h1, h2, h3⟩
    · exact .inr ⟨b, xs, e, hp, h1, hl, fun y hy => SpD.pops a (hx y hy)⟩
    · cases e2
      exact .inr ⟨b, ys, e, hp, h1, by omega, fun y hy => SpD.pops a (hx y (h3 y hy))⟩
/-- what is new may be spoilt -/
theorem Ct.sp {K : PySem.W.Frag} {H0 H : Hp} : ∀ {n : Nat} {x : V} {d : PyData}, Ct (newH H0 H) n x d → SpD K (fun b => H0 b = none ∧ ∃ o, H b = some o) H n x
  | 0, _, _, h => let ⟨n, h1, h2⟩ := (FlatC.thing (K := K) h); ⟨n, h1.same subH_le, h2⟩
  | n + 1, _, _, .inl h => let ⟨n, h1, h2⟩ := (FlatC.thing (K := K) h); .inl ⟨n, h1.same subH_le, h2⟩
  | n + 1, _, _, .inr ⟨a, xs, ds, e, _, h, hb, hl, hx⟩ => by
    obtain ⟨h1, ⟨ys, z⟩ | h2⟩ := subH_out h
    · cases z
    · have h2 : (H0 a).isNone = true := h2
      rw [Option.isNone_iff_eq_none] at h2
      refine .inr ⟨a, xs, e, ⟨h2, _, h1⟩, h1, hb, fun y hy => ?_⟩
      obtain ⟨i, hi⟩ := List.getElem?_of_mem hy
      have hi2 := lt_of_get hi
      exact Ct.sp (hx i y _ hi (List.getElem?_eq_getElem (by omega)))
theorem Pops.same0 {H0 H H' : Hp} (s : Same H0 H) (a : Pops (fun b => H0 b = none ∧ ∃ o, H b = some o) H H') : Same H0 H' := fun b o h => a.keep (s _ _ h) fun z => by rw [z.1] at h; cases h
section
variable {P : Program} {w : World} {K : PySem.W.Frag} {mg : Str → Option Value} {base : Heap}
abbrev nm__law_copy : List Str := ["thing", "one"]
abbrev pm__law_copy : List Str := ["thing"]
abbrev lv__law_copy : Nat := 5
theorem sc__law_copy : FnScope nm__law_copy pm__law_copy (defScope s__law_copy) := ⟨rfl, rfl, rfl, by decide +kernel, rfl, by decide +kernel, by decide +kernel⟩
def sp__law_copy (n : Nat) : Sp := fun vs H Q _ => ∃ (x : V) (d : PyData) (m : Nat), vs = [x] ∧ m < n ∧ Ct H m x d ∧ ∀ y H', Same H H' → Ct (newH H H') m y d → Q y H'
theorem f__law_copy (T : Txt K mg) : ∀ n, Fk P w K mg base CX0 (1 + n) "_law_copy" pm__law_copy (sp__law_copy n)
  | 0 => by
    obtain ⟨f, fd, F, g, b⟩ := T.d__law_copy.ex
    refine ⟨f, fd, g, F.kp, b, F.ok sc__law_copy (fun vs H Q E h => ?_) (fun cdv A outer s H vs Q E hr h => ?_)⟩
    · obtain ⟨x, d, m, rfl, _⟩ := h; rfl
    · obtain ⟨x, d, m, rfl, h, _⟩ := h
      omega
  | n + 1 => by
    have ih := f__law_copy T n
    obtain ⟨f, fd, F, g, b⟩ := T.d__law_copy.ex
    refine ⟨f, fd, g, F.kp, b, F.ok sc__law_copy (fun vs H Q E h => ?_) (fun cdv A outer s H vs Q E hr h => ?_)⟩
    · obtain ⟨x, d, m, rfl, _⟩ := h; rfl
    · obtain ⟨x, d, m, rfl, hm, hC, q⟩ := h
      refine ⟨_, (pss_cons (ps_if (pt_val (pe_callB call_isi (by rfl) T.b_isinstance (by decide +kernel) (pa_cons (pv 0) (pa_cons (pe_bltn (v := .ty "list") (by rfl) T.b_list (by decide +kernel) rfl) pa_nil)))) (pss_one (ps_ret (pe_lc (own := [("one", 1)]) (g := gName 1) (tt := tYes) (by rfl) sc__law_copy.nd (pi_list (pv 0)) (blkOk_by (own := [("one", 1)]) (N := nm__law_copy) (sc := defScope s__law_copy) (by decide +kernel)) (fun _ _ _ _ _ => (pg_name (i := 1) sc__law_copy.nd rfl (Or.inl rfl))) (fun _ _ _ _ _ => pts_nil) (fun _ _ _ _ _ => (pe_fn ih hr (by rfl) pass0 (pa_cons (pv 1) pa_nil)))))) pss_nil)
      (pss_one (ps_ret (pv 0)))), ?_⟩
      with_reducible refine seq_k fun K_ hK_ => ?_
      walk_at "ru"
      have fl : FlatC H x d → Ct (newH H H) m x d := fun h => Ct.flat h.sub
      have cs : FlatC H x d ∨ ∃ m' a xs ds, m = m' + 1 ∧ x = .ref a ∧ d = .list ds ∧ H a = some (.lst xs) ∧ xs.length ≤ 10000 ∧ xs.length = ds.length ∧ ∀ (i : Nat) y e, xs[i]? = some y → ds[i]? = some e → Ct H m' y e := by
        cases m with
        | zero => exact .inl hC
        | succ m' =>
          rcases hC with h | ⟨a, xs, ds, h⟩
          · exact .inl h
          · exact .inr ⟨m', a, xs, ds, rfl, h⟩
      rcases cs with h | ⟨m', a, xs, ds, rfl, rfl, rfl, ha, hb, hl, hx⟩
      · obtain ⟨nm, ht, hn⟩ := h.thing (K := K)
        refine isi_thing ht (by decide) ⟨_, rfl, ?_⟩
        rw [if_neg ?_]
        · walk_at "ru"
          subst hK_
          first | with_reducible refine seq_k fun K_ hK_ => ?_ | skip
          walk_at "ru"
          exact q x H (Same.refl _) (fl h)
        · have := ht.mem
          simp only [tyNames, List.mem_cons, List.not_mem_nil, or_false] at this
          rcases this with rfl | rfl | rfl | rfl | rfl | rfl | rfl
          all_goals first | exact absurd rfl hn | decide
      · refine isi_thing (.lst ha) (by decide) ⟨true, rfl, ?_⟩
        rw [if_pos rfl]
        refine ⟨a, rfl, ⟨_, sqL ha⟩, fun D hD => ?_⟩
        refine lc_list (K := K) (a := a) (xs := xs) (CtL H D m' ds) (CtL.init hD) (fun _ _ _ p => sqL (p.same _ _ ha)) (fun j y HE hy p => ?_) (fun HE p => ?_)
        · obtain ⟨e, he⟩ : ∃ e, ds[j]? = some e := ⟨_, List.getElem?_eq_getElem (by have := lt_of_get hy; omega)⟩
          walk_at "ru"
          refine ⟨y, e, m', rfl, by omega, (hx j y e hy he).same p.same, fun y2 H4 s4 c4 => ?_⟩
          exact p.push hD (by omega) he s4 c4
        · exact q (.ref D) HE p.same (p.fin hD (by omega) hl.symm)
abbrev nm__law_spoil : List Str := ["thing", "one"]
abbrev pm__law_spoil : List Str := ["thing"]
abbrev lv__law_spoil : Nat := 5
theorem sc__law_spoil : FnScope nm__law_spoil pm__law_spoil (defScope s__law_spoil) := ⟨rfl, rfl, rfl, by decide +kernel, rfl, by decide +kernel, by decide +kernel⟩
def sp__law_spoil (K : PySem.W.Frag) (n : Nat) : Sp := fun vs H Q _ => ∃ (x : V) (p : Addr → Prop) (m : Nat), vs = [x] ∧ m < n ∧ (∀ b, p b → ∃ o, H b = some o) ∧ SpD K p H m x ∧ ∀ H', Pops p H H' → Q .non H'
def iv_spoil (p : Addr → Prop) (a : Addr) (H0 H1 : Hp) (c : Addr) (xs : List V) (i : Nat) (σ : L2.St) (H : Hp) : Prop := (∃ y, σ = [some (.ref a), y]) ∧ Pops p H0 H ∧ Pops p H1 H ∧ H c = some (.lst xs)
theorem f__law_spoil (T : Txt K mg) : ∀ n, Fk P w K mg base CX0 (1 + n) "_law_spoil" pm__law_spoil (sp__law_spoil K n)
  | 0 => by
    obtain ⟨f, fd, F, g, b⟩ := T.d__law_spoil.ex
    refine ⟨f, fd, g, F.kp, b, F.ok sc__law_spoil (fun vs H Q E h => ?_) (fun cdv A outer s H vs Q E hr h => ?_)⟩
    · obtain ⟨x, p, m, rfl, _⟩ := h; rfl
    · obtain ⟨x, p, m, rfl, h, _⟩ := h
      omega
  | n + 1 => by
    have ih := f__law_spoil T n
    obtain ⟨f, fd, F, g, b⟩ := T.d__law_spoil.ex
    refine ⟨f, fd, g, F.kp, b, F.ok sc__law_spoil (fun vs H Q E h => ?_) (fun cdv A outer s H vs Q E hr h => ?_)⟩
    · obtain ⟨x, p, m, rfl, _⟩ := h; rfl
    · obtain ⟨x, p, m, rfl, hm, hp, hC, q⟩ := h
      have hu := hu_of hr
      refine ⟨_, (pss_one (ps_if (pt_val (pe_callB call_isi (by rfl) T.b_isinstance (by decide +kernel) (pa_cons (pv 0) (pa_cons (pe_bltn (v := .ty "list") (by rfl) T.b_list (by decide +kernel) rfl) pa_nil)))) (pss_cons (ps_for PassesOwn.never rfl (pi_list (pe_callTy call_list_of (by rfl) T.b_list (by decide +kernel) (pa_cons (pv 0) pa_nil))) (pg_name (i := 1) sc__law_spoil.nd rfl (Or.inl rfl)) (pss_one (ps_expr (pe_fn ih hr (by rfl) pass0 (pa_cons (pv 1) pa_nil)))))
      (pss_one (ps_if (pt_cmpR (op_neNil K rfl hr.units0) (pv 0) (pe_lst pa_nil) (nomark _)) (pss_one (ps_expr (pe_bm0 PySem.F.plainAttrs_list PySem.F.slot_list_pop PySem.F.type_list_pop mt_pop (pv 0)))) pss_nil))) pss_nil)), ?_⟩
      walk_at "ru"
      have cs : NotL K H x ∨ ∃ m' a xs, m = m' + 1 ∧ x = .ref a ∧ p a ∧ H a = some (.lst xs) ∧ xs.length ≤ 10000 ∧ ∀ y ∈ xs, SpD K p H m' y := by
        cases m with
        | zero => exact .inl hC
        | succ m' =>
          rcases hC with h | ⟨a, xs, h⟩
          · exact .inl h
          · exact .inr ⟨m', a, xs, rfl, h⟩
      rcases cs with ⟨nm, ht, hn⟩ | ⟨m', a, xs, rfl, rfl, hpa, ha, hb, hx⟩
      · refine isi_thing ht (by decide) ⟨_, rfl, ?_⟩
        rw [if_neg ?_]
        · exact q H (.of (Same.refl _))
        · have := ht.mem
          simp only [tyNames, List.mem_cons, List.not_mem_nil, or_false] at this
          rcases this with rfl | rfl | rfl | rfl | rfl | rfl | rfl
          all_goals first | exact absurd rfl hn | decide
      · refine isi_thing (.lst ha) (by decide) ⟨true, rfl, ?_⟩
        rw [if_pos rfl]
        with_reducible refine seq_k fun K_ hK_ => ?_
        walk_at "ru"
        refine ⟨xs, .inl (sqL ha), fun c hc => ⟨⟨_, sqL upd_same⟩, ?_⟩⟩
        generalize hG_ : upd H c _ = H1
        obtain ⟨s1, hc1⟩ := newF hc hG_
        clear hG_
        have hpc : ¬ p c := fun z => by obtain ⟨o, ho⟩ := hp c z; rw [hc] at ho; cases ho
        refine for_it (walk_list (xs := xs)) (iv_spoil p a H H1 c xs) ⟨⟨_, rfl⟩, .of s1, .of (Same.refl _), hc1⟩ (fun i σ H2 _ iv => sqL iv.2.2.2) (fun i y σ H2 H3 hi iv hy => ?_) (fun σ H2 iv => ?_)
        · obtain ⟨⟨y1, rfl⟩, p0, p1, hc2⟩ := iv
          obtain ⟨rfl, hy⟩ := hy
          walk_at "ru"
          refine ⟨y, p, m', rfl, by omega, fun b hb => ?_, (hx y (mem_of_get hy)).pops p0, fun H4 p4 => ?_⟩
          · obtain ⟨o, ho⟩ := hp b hb
            rcases p0 b o ho with z | ⟨_, _, _, _, z, _⟩
            · exact ⟨_, z⟩
            · exact ⟨_, z⟩
          · exact ⟨⟨_, rfl⟩, p0.trans p4, p1.trans p4, p4.keep hc2 hpc⟩
        · obtain ⟨⟨y1, rfl⟩, p0, p1, hc2⟩ := iv
          walk_at "ru"
          subst hK_
          first | with_reducible refine seq_k fun K_ hK_ => ?_ | skip
          walk_at "ru"
          obtain ⟨ys, ha2, hyl⟩ : ∃ ys, H2 a = some (.lst ys) ∧ ys.length ≤ 10000 := by
            rcases p0 a _ ha with z | ⟨_, xs', ys, e, z, z2, _⟩
            · exact ⟨_, z, hb⟩
            · cases e; exact ⟨ys, z, by omega⟩
          intro e0 n_e0
          generalize hG_ : upd _ e0 _ = H3
          obtain ⟨s3, he0⟩ := newF n_e0 hG_
          clear hG_
          refine ⟨a, e0, ys, rfl, rfl, sqL (s3 _ _ ha2), sqL he0, ?_⟩
          refine ⟨_, rfl, ?_⟩
          have ha3 := s3 _ _ ha2
          refine ite2 (fun c1 => ?_) (fun _ => q _ (p0.trans (.of s3)))
          have c1 : 0 < ys.length := of_decide_eq_true c1
          have hlast : ys[ys.length - 1]? = some (ys[ys.length - 1]'(by omega)) := List.getElem?_eq_getElem (by omega)
          refine ⟨tyL ha3, a, ys, _, rfl, rfl, ha3, hlast, q _ (p0.trans ((Pops.of s3).trans fun b o h => ?_))⟩
          by_cases e : b = a
          · subst e
            rw [ha3] at h
            cases h
            exact .inr ⟨hpa, ys, ys.dropLast, rfl, upd_same, by rw [List.length_dropLast]; omega, fun y hy => (List.dropLast_sublist ys).subset hy⟩
          · exact .inl (by rw [upd_ne e]; exact h)
end
end Nk
/-! ### k90: keeps and stores, what they tell -/
namespace Nk
open PySem L2
inductive O90
  | k (v : KV)
  | s (v : SV)
def O90.kv : O90 → KV
  | .k v => v
  | .s v => v.kv
def ahK (kv : KV) : List Int := kv.ns.filter fun n => decide (n ∈ keptF kv.rus (kv.ns ++ []) ∨ n ∈ kv.ps)
def numDt : Option Int → PyData
  | none => .none
  | some i => .int i
def partDt (ps : Pt) : PyData := .list (ps.map fun p => .tuple [.str p.1, numDt p.2])
def cpDt (rs : Rows) : PyData := .list ((List.range rs.length).map fun j => .tuple [.int ((rs.map Row.n).getD j 0), numDt (onR rs j), .int (szR rs j)])
def hsDt (ps : List (Int × Option Int)) : PyData := .list (ps.map fun p => .tuple [.int p.1, numDt p.2])
def firstL (kv : KV) : List PyData := [dLI kv.ns, dLI kv.ps, dLI (ahK kv), dLI [(kv.ns.length : Int)]]
def chD (v : SV) : List PyData := (List.range v.rows.length).map fun i => dLI (chn v.rows i)
def faD (v : SV) : List PyData := v.rows.map fun r => dLI (lostN r.n v.rows)
def naD (v : SV) : List PyData := v.rows.map fun r => .list ((srt (nms r.t)).map PyData.str)
def turnD (v : SV) : List PyData := if 1 < v.rows.length then [partDt (part ((v.rows.head?.map Row.t).getD []) ((v.rows.getLast?.map Row.t).getD []))] else []
def seen9 : O90 → PyData
  | .k v => .list (firstL v)
  | .s v => .list (firstL v.kv ++ [cpDt v.rows, dLI [(roomR v.rows : Int)], .list ((linesS v).map PyData.str), hsDt (histP "a" v.rows).1, dLI (withR "a" (some 1) v.rows)] ++ chD v ++ faD v ++ naD v ++ turnD v)
section
variable {P : Program} {w : World} {K : PySem.W.Frag} {mg : Str → Option Value} {base : Heap}
def ObjAt (K : PySem.W.Frag) (mg : Str → Option Value) (H : Hp) (k : Addr) (S R : List Addr) : O90 → Prop
  | .k v => KeepAt K mg "Keep" [] H k S v
  | .s v => StoreAt K mg H k S R v
theorem keep_atK {H : Hp} {k : Addr} {S : List Addr} {v : KV} (h : KeepAt K mg "Keep" [] H k S v) : ∃ dx ra N Pn l, H k = some (.ins (cls mg "Keep") dx (kfs ra N Pn l [])) := by
  obtain ⟨dx, ra, N, Pn, _, _, hk, _⟩ := h.at_
  exact ⟨dx, ra, N, Pn, _, hk⟩
theorem keep_aheadK {H : Hp} {k e0 : Addr} {S : List Addr} {v : KV} {Q : VK} {E : XK} (h : KeepAt K mg "Keep" [] H k S v) (he : H e0 = some (.lst [])) (q : ∀ p H', Same H H' → H p = none → H' p = some (.lst ((ahK v).map V.int)) → Q (.ref p) H') : sp_KeepK__ahead K mg [.ref k, .ref e0] H Q E := by
  have hi0 : isNightsV H (.ref e0) = true := nights_is (ns := []) he (by simp) .nil (fun _ h => nomatch h)
  refine ⟨k, S, v, .ref e0, rfl, h, lst_thing (ns := []) he (by simp), (fun z => by rw [hi0] at z; cases z), fun _ => ⟨e0, [], rfl, he, by simp, .nil, .inr ⟨(fun m0 l' z => nomatch z), fun pa L HA sA npa hrise hmem hpa => ?_⟩⟩⟩
  have eL : L = ahK v := rise_ext hrise (h.rise.filter _) fun z => by
    unfold ahK
    rw [hmem, List.mem_filter, decide_eq_true_eq]
    constructor
    · rintro (z1 | z1)
      · exact ⟨by have := keptF_sub z z1; rwa [List.append_nil] at this, .inl z1⟩
      · exact ⟨h.psub z z1, .inr z1⟩
    · exact fun z1 => z1.2
  rw [eL] at hpa
  exact q pa HA sA npa hpa
theorem store_aheadK {H : Hp} {k e0 : Addr} {S R : List Addr} {v : SV} {Q : VK} {E : XK} (h : StoreAt K mg H k S R v) (he : H e0 = some (.lst [])) (q : ∀ p H', Same H H' → H p = none → H' p = some (.lst ((ahK v.kv).map V.int)) → Q (.ref p) H') : sp_Store__ahead K mg [.ref k, .ref e0] H Q E := by
  obtain ⟨W9, F9, S09, kvs9, _, hK9, _⟩ := h.at_
  have hi0 : isNightsV H (.ref e0) = true := nights_is (ns := []) he (by simp) .nil (fun _ h => nomatch h)
  refine ⟨_, k, S09, v.kv, .ref e0, rfl, hK9, lst_thing (ns := []) he (by simp), (fun z => by rw [hi0] at z; cases z), fun _ => ⟨e0, [], rfl, he, by simp, .nil, .inr ⟨(fun m0 l' z => nomatch z), fun pa L HA sA npa hrise hmem hpa => ?_⟩⟩⟩
  have eL : L = ahK v.kv := rise_ext hrise (hK9.rise.filter _) fun z => by
    unfold ahK
    rw [hmem, List.mem_filter, decide_eq_true_eq]
    constructor
    · rintro (z1 | z1)
      · exact ⟨by have := keptF_sub z z1; rwa [List.append_nil] at this, .inl z1⟩
      · exact ⟨hK9.psub z z1, .inr z1⟩
    · exact fun z1 => z1.2
  rw [eL] at hpa
  exact q pa HA sA npa hpa
theorem ah_len (v : KV) : (ahK v).length ≤ v.ns.length := List.length_filter_le _ _
theorem ct_HS {H : Hp} {a : Addr} {xs : List V} {ps : List (Int × Option Int)} {m : Nat} (h : H a = some (.lst xs)) (hb : xs.length ≤ 10000) (hx : HsAt H xs ps) : Ct H (m + 1) (.ref a) (hsDt ps) := by
  have hl := hx.len
  have : ∀ {xs : List V} {ps : List (Int × Option Int)}, HsAt H xs ps → ∀ (i : Nat) y e, xs[i]? = some y → (ps.map fun p => PyData.tuple [.int p.1, numDt p.2])[i]? = some e → FlatC H y e := by
    intro xs
    induction xs with
    | nil => intro ps _ i y e h; simp at h
    | cons x xs ih =>
      intro ps hx i y e h1 h2
      cases ps with
      | nil => exact hx.elim
      | cons p ps =>
        obtain ⟨⟨q, e1, hq⟩, r⟩ := hx
        cases i with
        | zero =>
          cases h1
          cases h2
          subst e1
          refine .tup hq (.cons (.int _) (.cons ?_ .nil))
          cases p.2 with
          | none => exact .non
          | some i => exact .int i
        | succ i => exact ih r i y e (by simpa using h1) (by simpa using h2)
  exact ct_flat h hb (by rw [hl, List.length_map]) (this hx)
theorem ct_PT {H : Hp} {a : Addr} {ps : Pt} {m : Nat} (h : PartAt H a ps) (hb : ps.length ≤ 40) : Ct H (m + 1) (.ref a) (partDt ps) := by
  obtain ⟨xs, ha, hx⟩ := h
  have hl := hx.len
  refine ct_flat ha (by omega) (by rw [hl, List.length_map]) fun i y e h1 h2 => ?_
  obtain ⟨r, q, hr, rfl, hq⟩ := hx.get h1
  rw [List.getElem?_map, hr] at h2
  cases h2
  refine .tup hq (.cons (.str _) (.cons ?_ .nil))
  cases r.2 with
  | none => exact .non
  | some i => exact .int i
theorem ct_CP {H : Hp} {a : Addr} {rs : Rows} {xs : List V} {m : Nat} (h : H a = some (.lst xs)) (hb : xs.length ≤ 10000) (hx : CpAt H rs xs rs.length) : Ct H (m + 1) (.ref a) (cpDt rs) := by
  refine ct_flat h hb (by rw [hx.1, List.length_map, List.length_range]) fun i y e h1 h2 => ?_
  obtain ⟨q, r, rfl, hr, hq⟩ := hx.2 i y h1
  rw [List.getElem?_map, List.getElem?_range (lt_of_get hr)] at h2
  cases h2
  have en : (rs.map Row.n).getD i 0 = r.n := by rw [List.getD_eq_getElem?_getD, List.getElem?_map, hr]; rfl
  dsimp only
  rw [en]
  refine .tup hq (.cons (.int _) (.cons ?_ (.cons (.int _) .nil)))
  cases onR rs i with
  | none => exact .non
  | some i => exact .int i
theorem store_chainX9 {H : Hp} {k : Addr} {S R : List Addr} {v : SV} {i : Nat} {r : Row} {Q : VK} {E : XK} (h : StoreAt K mg H k S R v) (hr : v.rows[i]? = some r) (q : ∀ l H', Same H H' → H l = none → H' l = some (.lst ((chn v.rows i).map V.int)) → Q (.ref l) H') : sp_Store__chain K mg [.ref k, .int r.n] H Q E :=
  ⟨k, S, R, v, .int r.n, "int", rfl, h, .int _, fun hb => absurd (List.mem_map.mpr ⟨r, List.mem_of_getElem? hr, rfl⟩) (hb r.n rfl), fun j r' hj e l H' s nl hl => by
    cases e' : decide (j = i) with
    | true => rw [decide_eq_true_eq] at e'; subst e'; exact q l H' s nl hl
    | false =>
      rw [decide_eq_false_iff_not] at e'
      exfalso
      have nd := h.nd
      have h1 : (v.rows.map Row.n)[j]? = some r'.n := by rw [List.getElem?_map, hj]; rfl
      have h2 : (v.rows.map Row.n)[i]? = some r'.n := by rw [List.getElem?_map, hr]; show some r.n = _; rw [V.int.inj e]
      exact e' ((List.getElem?_inj (List.getElem?_eq_some_iff.mp h1).1 nd).mp (h1.trans h2.symm))⟩
theorem HsAt.new {H H' : Hp} {xs : List V} {ps : List (Int × Option Int)} (h : HsAt H xs ps) (t : ∀ b ys, H b = some (.tup ys) → H' b = some (.tup ys)) : HsAt H' xs ps := h.tups t
abbrev nm__law_seen : List Str := ["keep", "found", "nights", "night"]
abbrev pm__law_seen : List Str := ["keep"]
abbrev lv__law_seen : Nat := 7
theorem sc__law_seen : FnScope nm__law_seen pm__law_seen (defScope s__law_seen) := ⟨rfl, rfl, rfl, by decide +kernel, rfl, by decide +kernel, by decide +kernel⟩
def sp__law_seen (K : PySem.W.Frag) (mg : Str → Option Value) : Sp := fun vs H Q _ => ∃ (k : Addr) (S R : List Addr) (o : O90), vs = [.ref k] ∧ ObjAt K mg H k S R o ∧ ∀ l H', Same H H' → Ct (newH H H') 2 (.ref l) (seen9 o) → Q (.ref l) H'
theorem f__law_seen (T : Txt K mg) : Fk P w K mg base CX0 lv__law_seen "_law_seen" pm__law_seen (sp__law_seen K mg) := by
  obtain ⟨f, fd, F, g, b⟩ := T.d__law_seen.ex
  refine ⟨f, fd, g, F.kp, b, F.ok sc__law_seen (fun vs H Q E h => ?_) (fun cdv A outer s H vs Q E hr h => ?_)⟩
  · obtain ⟨k, S, R, o, rfl, _⟩ := h; rfl
  · obtain ⟨k, S, R, o, rfl, hO, q⟩ := h
    have hu := hu_of hr
    cases o with
    | k v =>
      have hK : KeepAt K mg "Keep" [] H k S v := hO
      refine ⟨_, (pss_cons (ps_set (i := 1) sc__law_seen.nd rfl (.inl rfl) (pe_lst (pa_cons (pe_me0 (pv 0) T.o_Keep (f_KeepK__held T) (hr.mono (by decide)) pass0) (pa_cons (pe_me0 (pv 0) T.o_Keep (f_KeepK__pins T) (hr.mono (by decide)) pass0) (pa_cons (pe_me (pv 0) T.o_Keep (f_KeepK__ahead T) (hr.mono (by decide)) passL (pa_cons (pe_lst pa_nil) pa_nil)) (pa_cons (pe_lst (pa_cons (pe_callB (cr_lenO T.o_Keep (f_KeepK____len__ T) (hr.mono (by decide)) pass0) (by rfl) T.b_len PySem.boot_len (pa_cons (pv 0) pa_nil)) pa_nil)) pa_nil))))))
      (pss_cons (ps_if (pt_val (pe_callB call_isi (by rfl) T.b_isinstance (by decide +kernel) (pa_cons (pv 0) (pa_cons (pe_glob (v := .ref (cls mg "Store")) (by rfl) T.o_Store.g rfl) pa_nil)))) pss_never pss_nil)
      (pss_one (ps_ret (pv 1))))), ?_⟩
      have hn100 := hK.n100
      have hp100 := hK.plen
      have hah := ah_len v
      with_reducible refine seq_k fun K_ hK_ => ?_
      walk_at "ru"
      obtain ⟨dx, _, _, _, _, hk⟩ := keep_atK hK
      refine ⟨dx, _, hk, rfl, k, S, v, rfl, hK, fun p1 H1 s1 np1 hp1 => ?_⟩
      have hK1 := hK.same s1
      obtain ⟨dx, _, _, _, _, hk⟩ := keep_atK hK1
      refine ⟨dx, _, hk, rfl, k, S, v, rfl, hK1, fun p2 H2 s2 np2 hp2 => ?_⟩
      have hK2 := hK1.same s2
      obtain ⟨dx, _, _, _, _, hk⟩ := keep_atK hK2
      refine ⟨dx, _, hk, rfl, ?_⟩
      intro e0 n_e0
      generalize hG_ : upd _ e0 _ = H3
      obtain ⟨s3, he0⟩ := newF n_e0 hG_
      clear hG_
      refine keep_aheadK (hK2.same s3) he0 fun p3 H4 s4 np3 hp3 => ?_
      have hK4 := (hK2.same s3).same s4
      obtain ⟨dx, _, _, _, _, hk⟩ := keep_atK hK4
      refine ⟨k, dx, _, rfl, hk, k, S, v, rfl, hK4, v.ns.length, rfl, by omega, ?_⟩
      dsimp only
      intro p4 n_p4
      generalize hG_ : upd _ p4 _ = H5
      obtain ⟨s5, hp4⟩ := newF n_p4 hG_
      clear hG_
      intro f0 n_f0
      generalize hG_ : upd _ f0 _ = H6
      obtain ⟨s6, hf0⟩ := newF n_f0 hG_
      clear hG_
      have s24 := s2.trans (s3.trans s4)
      have s14 := s1.trans s24
      have s46 := s5.trans s6
      have s06 := s14.trans s46
      have hK6 := hK4.same s46
      walk_at "ru"
      subst hK_
      first | with_reducible refine seq_k fun K_ hK_ => ?_ | skip
      walk_at "ru"
      obtain ⟨dx, _, _, _, _, hk⟩ := keep_atK hK6
      refine isi_notsub T.o_Keep T.h_Keep_Store hk ⟨_, rfl, ?_⟩
      rw [if_neg (by simp)]
      walk_at "ru"
      subst hK_
      first | with_reducible refine seq_k fun K_ hK_ => ?_ | skip
      walk_at "ru"
      refine q f0 H6 s06 (CtA.ct (m := 1) (ds := firstL v) ?_ (newH_at hf0 (s14.free (s5.free n_f0))) (by simp))
      refine .cons (ct_LI (newH_at ((s24.trans s46) _ _ hp1) np1) (by omega)) (.cons (ct_LI (newH_at (((s3.trans s4).trans s46) _ _ hp2) (s1.free np2)) (by omega)) (.cons (ct_LI (newH_at (s46 _ _ hp3) (s1.free (s2.free (s3.free np3)))) (by omega)) (.cons (ct_LI (ns := [(v.ns.length : Int)]) (newH_at (s6 _ _ hp4) (s14.free n_p4)) (by simp)) .nil)))
    | s v =>
      have hSt : StoreAt K mg H k S R v := hO
      refine ⟨_, (pss_cons (ps_set (i := 1) sc__law_seen.nd rfl (.inl rfl) (pe_lst (pa_cons (pe_me0 (pv 0) T.o_Store (f_Store__held T) (hr.mono (by decide)) pass0) (pa_cons (pe_me0 (pv 0) T.o_Store (f_Store__pins T) (hr.mono (by decide)) pass0) (pa_cons (pe_me (pv 0) T.o_Store (f_Store__ahead T) (hr.mono (by decide)) passL (pa_cons (pe_lst pa_nil) pa_nil)) (pa_cons (pe_lst (pa_cons (pe_callB (cr_lenO T.o_Store (f_Store____len__ T) (hr.mono (by decide)) pass0) (by rfl) T.b_len PySem.boot_len (pa_cons (pv 0) pa_nil)) pa_nil)) pa_nil))))))
      (pss_cons (ps_if (pt_val (pe_callB call_isi (by rfl) T.b_isinstance (by decide +kernel) (pa_cons (pv 0) (pa_cons (pe_glob (v := .ref (cls mg "Store")) (by rfl) T.o_Store.g rfl) pa_nil)))) (pss_cons (ps_set (i := 2) sc__law_seen.nd rfl (.inl rfl) (pe_me0 (pv 0) T.o_Store (f_Store__held T) (hr.mono (by decide)) pass0))
      (pss_cons (ps_set (i := 1) sc__law_seen.nd rfl (.inl rfl) (pe_op op_cat (pv 1) (pe_lst (pa_cons (pe_me0 (pv 0) T.o_Store (f_Store__copies T) (hr.mono (by decide)) pass0) (pa_cons (pe_lst (pa_cons (pe_me0 (pv 0) T.o_Store (f_Store__room T) (hr.mono (by decide)) pass0) pa_nil)) (pa_cons (pe_fn (f_written T) (hr.mono (by decide)) (by rfl) pass0 (pa_cons (pv 0) pa_nil)) (pa_cons (pe_fn (f_history T) (hr.mono (by decide)) (by rfl) pass0 (pa_cons (pv 0) (pa_cons pe_str pa_nil))) (pa_cons (pe_fn (f_nights_with T) (hr.mono (by decide)) (by rfl) pass0 (pa_cons (pv 0) (pa_cons pe_str (pa_cons pe_int pa_nil)))) pa_nil))))))))
      (pss_cons (ps_set (i := 1) sc__law_seen.nd rfl (.inl rfl) (pe_op op_cat (pe_op op_cat (pv 1) (pe_lc (own := [("night", 3)]) (g := gName 3) (tt := tYes) (by rfl) sc__law_seen.nd (pi_list (pv 2)) (blkOk_by (own := [("night", 3)]) (N := nm__law_seen) (sc := defScope s__law_seen) (by decide +kernel)) (fun _ _ _ _ _ => (pg_name (i := 3) sc__law_seen.nd rfl (Or.inl rfl))) (fun _ _ _ _ _ => pts_nil) (fun _ _ _ _ _ => (pe_meK mg rfl (pv 0) T.o_Store (f_Store__chain T) (hr.mono (by decide)) passL (pa_cons (pv 3) pa_nil))))) (pe_lc (own := [("night", 3)]) (g := gName 3) (tt := tYes) (by rfl) sc__law_seen.nd (pi_list (pv 2)) (blkOk_by (own := [("night", 3)]) (N := nm__law_seen) (sc := defScope s__law_seen) (by decide +kernel)) (fun _ _ _ _ _ => (pg_name (i := 3) sc__law_seen.nd rfl (Or.inl rfl))) (fun _ _ _ _ _ => pts_nil) (fun _ _ _ _ _ => (pe_fn (f_falls T) (hr.mono (by decide)) (by rfl) passL (pa_cons (pv 0) (pa_cons (pv 3) pa_nil)))))))
      (pss_cons (ps_set (i := 1) sc__law_seen.nd rfl (.inl rfl) (pe_op op_cat (pv 1) (pe_lc (own := [("night", 3)]) (g := gName 3) (tt := tYes) (by rfl) sc__law_seen.nd (pi_list (pv 2)) (blkOk_by (own := [("night", 3)]) (N := nm__law_seen) (sc := defScope s__law_seen) (by decide +kernel)) (fun _ _ _ _ _ => (pg_name (i := 3) sc__law_seen.nd rfl (Or.inl rfl))) (fun _ _ _ _ _ => pts_nil) (fun _ _ _ _ _ => (pe_me0K mg rfl (pe_meK mg rfl (pv 0) T.o_Store (f_Store__state T) (hr.mono (by decide)) passL (pa_cons (pv 3) pa_nil)) T.o_State (f_State__names T) (hr.mono (by decide)) pass0)))))
      (pss_one (ps_if (pt_cmpR op_gt (pe_callB call_len_seq (by rfl) T.b_len PySem.boot_len (pa_cons (pv 2) pa_nil)) pe_int (nomark _)) (pss_one (ps_expr (pe_bm PySem.F.plainAttrs_list PySem.F.slot_list_append PySem.F.type_list_append mt_append (pv 1) (pa_cons (pe_fn (f_turned T) (hr.mono (by decide)) (by rfl) passL (pa_cons (pv 0) (pa_cons (pe_ix ix_list (pv 2) pe_int (fun _ _ => rfl)) (pa_cons (pe_ix ix_list (pv 2) (pe_un un_neg pe_int) (fun _ _ => rfl)) pa_nil)))) pa_nil)))) pss_nil)))))) pss_nil)
      (pss_one (ps_ret (pv 1))))), ?_⟩
      have hpv := hSt.pv
      have hn100 : v.rows.length ≤ 100 := hpv.n100
      have hp100 := hpv.p100
      have hah := ah_len v.kv
      have hkl : v.kv.ns.length = v.rows.length := List.length_map _
      with_reducible refine seq_k fun K_ hK_ => ?_
      walk_at "ru"
      obtain ⟨dx, _, _, _, _, _, _, hk⟩ := store_at hSt
      refine ⟨dx, _, hk, rfl, store_held hSt fun p1 H1 s1 np1 hp1 => ?_⟩
      have St1 := hSt.same s1
      obtain ⟨dx, _, _, _, _, _, _, hk⟩ := store_at St1
      refine ⟨dx, _, hk, rfl, store_pins St1 fun p2 H2 s2 np2 hp2 => ?_⟩
      have St2 := St1.same s2
      obtain ⟨dx, _, _, _, _, _, _, hk⟩ := store_at St2
      refine ⟨dx, _, hk, rfl, ?_⟩
      intro e0 n_e0
      generalize hG_ : upd _ e0 _ = H3
      obtain ⟨s3, he0⟩ := newF n_e0 hG_
      clear hG_
      refine store_aheadK (St2.same s3) he0 fun p3 H4 s4 np3 hp3 => ?_
      have St4 := (St2.same s3).same s4
      obtain ⟨dx, _, _, _, _, _, _, hk⟩ := store_at St4
      obtain ⟨W4, F4, S04, kvs4, _, hK4, _⟩ := St4.at_
      refine ⟨k, dx, _, rfl, hk, _, k, S04, v.kv, rfl, hK4, v.kv.ns.length, rfl, by omega, ?_⟩
      dsimp only
      intro p4 n_p4
      generalize hG_ : upd _ p4 _ = H5
      obtain ⟨s5, hp4⟩ := newF n_p4 hG_
      clear hG_
      intro f0 n_f0
      generalize hG_ : upd _ f0 _ = H6
      obtain ⟨s6, hf0⟩ := newF n_f0 hG_
      clear hG_
      have s24 := s2.trans (s3.trans s4)
      have s14 := s1.trans s24
      have s46 := s5.trans s6
      have s06 := s14.trans s46
      have St6 := St4.same s46
      have nf0 := s14.free (s5.free n_f0)
      have cA : CtA (newH H H6) 1 [.ref p1, .ref p2, .ref p3, .ref p4] (firstL v.kv) :=
        .cons (ct_LI (newH_at ((s24.trans s46) _ _ hp1) np1) (by omega)) (.cons (ct_LI (newH_at (((s3.trans s4).trans s46) _ _ hp2) (s1.free np2)) (by show v.ps.length ≤ _; omega)) (.cons (ct_LI (newH_at (s46 _ _ hp3) (s1.free (s2.free (s3.free np3)))) (by omega)) (.cons (ct_LI (ns := [(v.kv.ns.length : Int)]) (newH_at (s6 _ _ hp4) (s14.free n_p4)) (by simp)) .nil)))
      clear hp1 hp2 hp3 hp4 he0 s1 s2 s3 s4 s5 s6 s24 s14 s46 St1 St2 St4 hK4
      walk_at "ru"
      subst hK_
      first | with_reducible refine seq_k fun K_ hK_ => ?_ | skip
      walk_at "ru"
      obtain ⟨dx, _, _, _, _, _, _, hk⟩ := store_at St6
      refine isi_sub T.o_Store T.g_Store_Store hk ⟨_, rfl, ?_⟩
      rw [if_pos rfl]
      with_reducible refine seq_k fun K_ hK_ => ?_
      walk_at "ru"
      obtain ⟨dx, _, _, _, _, _, _, hk⟩ := store_at St6
      refine ⟨dx, _, hk, rfl, store_held St6 fun pn H7 s7 npn hpn => ?_⟩
      have St7 := St6.same s7
      walk_at "ru"
      subst hK_
      first | with_reducible refine seq_k fun K_ hK_ => ?_ | skip
      walk_at "ru"
      obtain ⟨dx, _, _, _, _, _, _, hk⟩ := store_at St7
      refine ⟨dx, _, hk, rfl, k, S, R, v, rfl, St7, fun q1 xs1 A1 t1 nq1 hq1 hC1 => ?_⟩
      have SA1 := St7.same t1
      obtain ⟨dx, _, _, _, _, _, _, hk⟩ := store_at SA1
      refine ⟨dx, _, hk, rfl, k, S, R, v, rfl, SA1, fun A2 t2 => ?_⟩
      intro q2 n_q2
      generalize hG_ : upd _ q2 _ = A3
      obtain ⟨t3, hq2⟩ := newF n_q2 hG_
      clear hG_
      have SA3 := (SA1.same t2).same t3
      refine ⟨k, S, R, v, rfl, SA3, fun q3 A4 t4 nq3 hq3 => ?_⟩
      have SA4 := SA3.same t4
      refine ⟨k, S, R, v, "a", rfl, SA4, by unfold isNm; decide +kernel, fun q4 xs4 A5 t5 nq4 hq4 hC4 => ?_⟩
      have SA5 := SA4.same t5
      refine ⟨k, S, R, v, "a", some 1, rfl, SA5, by unfold isNm; decide +kernel, fun q5 A6 t6 nq5 hq5 => ?_⟩
      intro q6 n_q6
      generalize hG_ : upd _ q6 _ = A7
      obtain ⟨t7, hq6⟩ := newF n_q6 hG_
      clear hG_
      have hl4 := hC4.len
      have hl4' := histP_len "a" v.rows
      have hwl : (withR "a" (some 1) v.rows).length ≤ v.rows.length := by unfold withR; rw [List.length_map]; exact List.length_filter_le _ _
      have hll := linesS_len hSt
      have s07 := s06.trans s7
      have t47 := (t5.trans t6).trans t7
      have t17 := ((t2.trans t3).trans t4).trans t47
      have sA7 := s07.trans (t1.trans t17)
      have cB : CtA (newH H A7) 1 [.ref q1, .ref q2, .ref q3, .ref q4, .ref q5] [cpDt v.rows, dLI [(roomR v.rows : Int)], .list ((linesS v).map PyData.str), hsDt (histP "a" v.rows).1, dLI (withR "a" (some 1) v.rows)] :=
        .cons (ct_CP (newH_at (t17 _ _ hq1) (s07.free nq1)) (by rw [hC1.1]; omega) (hC1.tups fun b ys h => subH_tup (t17 _ _ h)))
          (.cons (ct_LI (ns := [(roomR v.rows : Int)]) (newH_at ((t4.trans t47) _ _ hq2) (s07.free (t1.free (t2.free n_q2)))) (by simp))
          (.cons (ct_LT (newH_at (t47 _ _ hq3) (s07.free (t1.free (t2.free (t3.free nq3))))) (by omega))
          (.cons (ct_HS (newH_at ((t6.trans t7) _ _ hq4) (s07.free (t1.free (t2.free (t3.free (t4.free nq4)))))) (by omega) (hC4.tups fun b ys h => subH_tup ((t6.trans t7) _ _ h)))
          (.cons (ct_LI (newH_at (t7 _ _ hq5) (s07.free (t1.free (t2.free (t3.free (t4.free (t5.free nq5))))))) (by omega)) .nil))))
      have cA7 := cA.same (newH_same (s7.trans (t1.trans t17)))
      have hf07 := (s7.trans (t1.trans t17)) _ _ hf0
      have hpn7 := (t1.trans t17) _ _ hpn
      refine ⟨f0, q6, _, _, rfl, rfl, hf07, hq6, sz (by simp), ?_⟩
      intro f1 n_f1
      generalize hG_ : upd _ f1 _ = A8
      obtain ⟨t8, hf1⟩ := newF n_f1 hG_
      clear hG_
      have SA8 := ((SA5.same t6).same t7).same t8
      have sA8 := sA7.trans t8
      have cC : CtA (newH H A8) 1 _ _ := (cA7.app cB).same (newH_same t8)
      have hpn8 := t8 _ _ hpn7
      clear cA cA7 cB hq1 hq2 hq3 hq4 hq5 hC1 hC4 hf0 hf07 hpn hpn7 t1 t2 t3 t4 t5 t6 t7 t8 t47 t17 SA1 SA3 SA4 SA5 St6 St7 s7 s07
      walk_at "ru"
      subst hK_
      first | with_reducible refine seq_k fun K_ hK_ => ?_ | skip
      walk_at "ru"
      refine ⟨⟨_, sqL hpn8⟩, fun D1 hD1 => ?_⟩
      refine lc_list (K := K) (a := pn) (xs := (v.rows.map Row.n).map V.int) (CtL A8 D1 1 (chD v)) (CtL.init hD1) (fun _ _ _ p => sqL (p.same _ _ hpn8)) (fun j x HE hx p => ?_) (fun HE pE => ?_)
      · have hj := lt_of_get hx
        rw [List.length_map, List.length_map] at hj
        obtain ⟨ro, hro⟩ := row_lt hj
        rw [row_nn hro] at hx
        cases hx
        have StE := SA8.same p.same
        obtain ⟨dx, _, _, _, _, _, _, hk⟩ := store_at StE
        have hch := hSt.val.len (j + 1)
        walk_at "ru"
        refine ⟨dx, _, hk, rfl, store_chainX9 StE hro fun c HF sF nc hc => ?_⟩
        refine p.push hD1 (by unfold chD; rw [List.length_map, List.length_range]; omega) (by unfold chD; rw [List.getElem?_map, List.getElem?_range hj]; rfl) sF (ct_LI (newH_at hc nc) ?_)
        have := hSt.d10
        show (List.map Row.n (chnP (v.rows.take (j + 1)))).length ≤ _
        rw [List.length_map]
        omega
      obtain ⟨ysC, hDC, cD⟩ := pE.fin2 (by unfold chD; simp)
      have SAE := SA8.same pE.same
      have sAE := sA8.trans pE.same
      have hf1E := pE.same _ _ hf1
      have lC := cC.len
      have lD := cD.len
      have lD2 : (chD v).length = v.rows.length := by unfold chD; simp
      have lC2 : ∀ z : List PyData, (firstL v.kv ++ z).length = 4 + z.length := fun z => by rw [List.length_append]; rfl
      refine ⟨f1, D1, _, _, rfl, rfl, hf1E, hDC, sz (by rw [lC, lD, lC2]; simp; omega), ?_⟩
      intro f2 n_f2
      generalize hG_ : upd _ f2 _ = B1
      obtain ⟨u1, hf2⟩ := newF n_f2 hG_
      clear hG_
      have SB1 := SAE.same u1
      have sB1 := sAE.trans u1
      have cE : CtA (newH H B1) 1 _ _ := ((cC.same (newH_same (pE.same.trans u1))).app (cD.same ((newH_old sA8).trans (newH_same u1))))
      have hpnB := u1 _ _ (pE.same _ _ hpn8)
      clear cC cD hf1 hf1E hDC pE hpn8 SA8 SAE
      refine ⟨⟨_, sqL hpnB⟩, fun D2 hD2 => ?_⟩
      refine lc_list (K := K) (a := pn) (xs := (v.rows.map Row.n).map V.int) (CtL B1 D2 1 (faD v)) (CtL.init hD2) (fun _ _ _ p => sqL (p.same _ _ hpnB)) (fun j x HE2 hx p => ?_) (fun HE2 pE => ?_)
      · have hj := lt_of_get hx
        rw [List.length_map, List.length_map] at hj
        obtain ⟨ro, hro⟩ := row_lt hj
        rw [row_nn hro] at hx
        cases hx
        have hrm := mem_of_get hro
        have StE := SB1.same p.same
        have hmn : ro.n ∈ v.rows.map Row.n := List.mem_map.mpr ⟨ro, hrm, rfl⟩
        walk_at "ru"
        refine ⟨k, S, R, v, .int ro.n, "int", rfl, StE, .int _, fun h => absurd hmn (h _ rfl), fun m e _ f HI sI nf hf => ?_⟩
        cases e
        refine p.push hD2 (by unfold faD; rw [List.length_map]; omega) (by unfold faD; rw [List.getElem?_map, hro]; rfl) sI (ct_LI (newH_at hf nf) ?_)
        have h1 := nodup_len _ _ (lost_nd (m := ro.n) (rs := v.rows) hSt.nd) (lost_sub ro.n _)
        rw [List.length_map] at h1
        omega
      obtain ⟨ysF, hDF, cF⟩ := pE.fin2 (by unfold faD; simp)
      have SB2 := SB1.same pE.same
      have sB2 := sB1.trans pE.same
      have hf2E := pE.same _ _ hf2
      have lE := cE.len
      have lF := cF.len
      have lF2 : (faD v).length = v.rows.length := by unfold faD; simp
      refine ⟨f2, D2, _, _, rfl, rfl, hf2E, hDF, sz (by rw [lE, lF, List.length_append, lC2]; simp; omega), ?_⟩
      intro f3 n_f3
      generalize hG_ : upd _ f3 _ = C1
      obtain ⟨w1, hf3⟩ := newF n_f3 hG_
      clear hG_
      have SC1 := SB2.same w1
      have sC1 := sB2.trans w1
      have cG : CtA (newH H C1) 1 _ _ := ((cE.same (newH_same (pE.same.trans w1))).app (cF.same ((newH_old sB1).trans (newH_same w1))))
      have hpnC := w1 _ _ (pE.same _ _ hpnB)
      clear cE cF hf2 hf2E hDF pE hpnB SB1 SB2
      walk_at "ru"
      subst hK_
      first | with_reducible refine seq_k fun K_ hK_ => ?_ | skip
      walk_at "ru"
      refine ⟨⟨_, sqL hpnC⟩, fun D3 hD3 => ?_⟩
      refine lc_list (K := K) (a := pn) (xs := (v.rows.map Row.n).map V.int) (CtL C1 D3 1 (naD v)) (CtL.init hD3) (fun _ _ _ p => sqL (p.same _ _ hpnC)) (fun j x HE3 hx p => ?_) (fun HE3 pE => ?_)
      · have hj := lt_of_get hx
        rw [List.length_map, List.length_map] at hj
        obtain ⟨ro, hro⟩ := row_lt hj
        rw [row_nn hro] at hx
        cases hx
        have StE := SC1.same p.same
        obtain ⟨dx, _, _, _, _, _, _, hk⟩ := store_at StE
        walk_at "ru"
        refine ⟨dx, _, hk, rfl, store_stateQ StE hro fun p2 HG sG hp2 => ?_⟩
        obtain ⟨dxp, dp, gp1, gp2⟩ := hp2.st.ex
        refine ⟨p2, rfl, dxp, _, gp1, rfl, p2, ro.t, rfl, hp2.st, fun l HI sI nl hl => ?_⟩
        refine p.push hD3 (by unfold naD; rw [List.length_map]; omega) (by unfold naD; rw [List.getElem?_map, hro]; rfl) (sG.trans sI) (ct_LT (newH_at hl (sG.free nl)) ?_)
        have := srt_len hp2.st.len
        omega
      obtain ⟨ysN, hDN, cN⟩ := pE.fin2 (by unfold naD; simp)
      have SC2 := SC1.same pE.same
      have sC2 := sC1.trans pE.same
      have hf3E := pE.same _ _ hf3
      have lG := cG.len
      have lN := cN.len
      have lN2 : (naD v).length = v.rows.length := by unfold naD; simp
      refine ⟨f3, D3, _, _, rfl, rfl, hf3E, hDN, sz (by rw [lG, lN, List.length_append, List.length_append, lC2]; simp; omega), ?_⟩
      intro f4 n_f4
      generalize hG_ : upd _ f4 _ = E1
      obtain ⟨x1, hf4⟩ := newF n_f4 hG_
      clear hG_
      have SE1 := SC2.same x1
      have sE1 := sC2.trans x1
      have cH : CtA (newH H HE3) 1 _ _ := ((cG.same (newH_same pE.same)).app (cN.same (newH_old sC1)))
      have hpnE := x1 _ _ (pE.same _ _ hpnC)
      have nf4 : H f4 = none := sC2.free n_f4
      obtain ⟨X, hf4, cH⟩ : ∃ X, E1 f4 = some (.lst X) ∧ CtA (newH H HE3) 1 X (firstL v.kv ++ [cpDt v.rows, dLI [(roomR v.rows : Int)], .list ((linesS v).map PyData.str), hsDt (histP "a" v.rows).1, dLI (withR "a" (some 1) v.rows)] ++ chD v ++ faD v ++ naD v) := ⟨_, hf4, cH⟩
      clear cG cN hf3 hf3E hDN pE hpnC SC1 SC2
      have lH := cH.len
      walk_at "ru"
      subst hK_
      first | with_reducible refine seq_k fun K_ hK_ => ?_ | skip
      walk_at "ru"
      refine ⟨_, .inl (sqL hpnE), ?_⟩
      have lAll : (firstL v.kv ++ [cpDt v.rows, dLI [(roomR v.rows : Int)], .list ((linesS v).map PyData.str), hsDt (histP "a" v.rows).1, dLI (withR "a" (some 1) v.rows)] ++ chD v ++ faD v ++ naD v).length ≤ 1000 := by
        rw [List.length_append, List.length_append, List.length_append, lC2, lD2, lF2, lN2]
        simp
        omega
      rw [← lH] at lAll
      refine ite2 (fun c => ?_) (fun c => ?_)
      · have c : 1 < v.rows.length := by
          rw [List.length_map, List.length_map] at c
          omega
        obtain ⟨r0, hr0⟩ := row_lt (rs := v.rows) (i := 0) (by omega)
        obtain ⟨r9, hr9⟩ := row_lt (rs := v.rows) (i := v.rows.length - 1) (by omega)
        have e0 : v.rows.head? = some r0 := by rw [List.head?_eq_getElem?]; exact hr0
        have e9 : v.rows.getLast? = some r9 := by rw [List.getLast?_eq_getElem?]; exact hr9
        refine ⟨tyL hf4, ixL (j := 0) (sqL hpnE) rfl (row_nn hr0) ?_⟩
        refine ixLast (sqL hpnE) (v := .int r9.n) (by rw [List.getLast?_eq_getElem?, List.length_map, List.length_map]; exact row_nn hr9) ?_
        refine ⟨k, S, R, v, .int r0.n, .int r9.n, "int", "int", rfl, SE1, .int _, .int _, fun h => ?_, fun i j r r' hi hj ei ej l F1 z1 nl hP => ?_⟩
        · rcases h with h | h
          · exact absurd (List.mem_map.mpr ⟨r0, mem_of_get hr0, rfl⟩) (h r0.n rfl)
          · exact absurd (List.mem_map.mpr ⟨r9, mem_of_get hr9, rfl⟩) (h r9.n rfl)
        have nd := hSt.nd
        have uq : ∀ {i j : Nat} {a b : Row}, v.rows[i]? = some a → v.rows[j]? = some b → V.int a.n = V.int b.n → a = b := fun {i j a b} h1 h2 e => by
          have g1 : (v.rows.map Row.n)[i]? = some a.n := by rw [List.getElem?_map, h1]; rfl
          have g2 : (v.rows.map Row.n)[j]? = some a.n := by rw [List.getElem?_map, h2]; show some b.n = _; rw [V.int.inj e]
          have := (List.getElem?_inj (List.getElem?_eq_some_iff.mp g1).1 nd).mp (g1.trans g2.symm)
          subst this
          rw [h1] at h2
          exact Option.some.inj h2
        obtain rfl := uq hr0 hi ei
        obtain rfl := uq hr9 hj ej
        have hf4' := z1 _ _ hf4
        refine appR hf4' (by omega) ?_
        generalize hG_ : upd F1 f4 _ = F2
        have bF : But f4 F1 F2 := by rw [← hG_]; exact But.upd
        have hf5 : F2 f4 = some (.lst (X ++ [.ref l])) := by rw [← hG_]; exact upd_same
        have sF : Same H F2 := by rw [← hG_]; exact Same.app (sE1.trans z1) nf4
        clear hG_
        walk_at "ru"
        subst hK_
        first | with_reducible refine seq_k fun K_ hK_ => ?_ | skip
        walk_at "ru"
        have hlf : l ≠ f4 := (ne_of_none hf4 nl).symm
        have ts : ∀ b xs, F1 b = some (.tup xs) → F2 b = some (.tup xs) := fun b xs h => bF _ _ h (ne_of h hf4' (by intro z; cases z))
        have xz := x1.trans z1
        have sN : Same (newH H HE3) (newH H F2) := subH_same (fun b xs h => ts _ _ (xz _ _ h)) fun b o h n => ⟨bF _ _ (xz _ _ h) (ne_of_none h n_f4), n⟩
        have sP : Same (newH E1 F1) (newH H F2) := subH_same ts fun b o h n => by
          have n : (E1 b).isNone = true := n
          rw [Option.isNone_iff_eq_none] at n
          have hb : b ≠ f4 := (ne_of_none hf4 n).symm
          exact ⟨bF _ _ h hb, by rw [sE1.free n]; rfl⟩
        have g1 := tab_of hSt r0 (mem_of_get hr0)
        have g9 := tab_of hSt r9 (mem_of_get hr9)
        have gP := part_good g1.1 g9.1 g1.2 g9.2
        obtain ⟨xsP, hlP, hPs⟩ := hP
        have cP : Ct (newH E1 F1) 1 (.ref l) (partDt (part r0.t r9.t)) := ct_PT ⟨xsP, newH_at hlP nl, hPs.tups fun b ys h => subH_tup h⟩ gP.len
        refine q f4 F2 sF (CtA.ct ?_ (newH_at hf5 nf4) (by rw [List.length_append]; simp; omega))
        have eT : turnD v = [partDt (part r0.t r9.t)] := by
          unfold turnD
          rw [if_pos c, e0, e9]
          rfl
        rw [eT]
        exact (cH.same sN).app (.cons (cP.same sP) .nil)
      · have c : ¬ 1 < v.rows.length := by
          rw [List.length_map, List.length_map] at c
          omega
        walk_at "ru"
        subst hK_
        first | with_reducible refine seq_k fun K_ hK_ => ?_ | skip
        walk_at "ru"
        refine q f4 E1 sE1 (CtA.ct ?_ (newH_at hf4 nf4) (by omega))
        unfold turnD
        rw [if_neg c, List.append_nil]
        exact cH.same (newH_same x1)
end
end Nk
/-! ### k90: four objects side by side -/
namespace Nk
open PySem L2
def OwnL (t : Addr) (Ss : Nat → List Addr) : List Addr := t :: (Ss 0 ++ (Ss 1 ++ (Ss 2 ++ Ss 3)))
theorem mem_OwnL {t : Addr} {Ss : Nat → List Addr} {b : Addr} : b ∈ OwnL t Ss ↔ b = t ∨ ∃ j, j < 4 ∧ b ∈ Ss j := by
  unfold OwnL
  simp only [List.mem_cons, List.mem_append]
  constructor
  · rintro (h | h | h | h | h)
    · exact .inl h
    · exact .inr ⟨0, by omega, h⟩
    · exact .inr ⟨1, by omega, h⟩
    · exact .inr ⟨2, by omega, h⟩
    · exact .inr ⟨3, by omega, h⟩
  · rintro (h | ⟨j, hj, h⟩)
    · exact .inl h
    · have : j = 0 ∨ j = 1 ∨ j = 2 ∨ j = 3 := by omega
      rcases this with rfl | rfl | rfl | rfl
      · exact .inr (.inl h)
      · exact .inr (.inr (.inl h))
      · exact .inr (.inr (.inr (.inl h)))
      · exact .inr (.inr (.inr (.inr h)))
def putJ {α : Type} (f : Nat → α) (j : Nat) (x : α) : Nat → α := fun i => if i = j then x else f i
theorem putJ_at {α : Type} {f : Nat → α} {j : Nat} {x : α} : putJ f j x j = x := by unfold putJ; rw [if_pos rfl]
theorem putJ_ne {α : Type} {f : Nat → α} {j i : Nat} {x : α} (h : i ≠ j) : putJ f j x i = f i := by unfold putJ; rw [if_neg h]
section
variable {P : Program} {w : World} {K : PySem.W.Frag} {mg : Str → Option Value} {base : Heap}
variable {H H' : Hp} {k : Addr} {S S' T R R' : List Addr} {o : O90}
theorem ObjAt.step (h : ObjAt K mg H k S R o) (s : Step T H H') (n : ∀ b ∈ S, b ∉ T) (n2 : ∀ b ∈ R, b ∉ T) : ObjAt K mg H' k S R o := by
  cases o with
  | k v => exact KeepAt.step h s n
  | s v => exact StoreAt.step h s n n2
theorem ObjAt.same (h : ObjAt K mg H k S R o) (s : Same H H') : ObjAt K mg H' k S R o := h.step (T := []) (.of s) (fun _ _ => by simp) (fun _ _ => by simp)
theorem ObjAt.more (h : ObjAt K mg H k S R o) (n : ∀ b ∈ R, b ∈ R') (n2 : ∀ b ∈ S, b ∉ R') (n3 : ∀ b ∈ R', ∃ o, H b = some o) : ObjAt K mg H k S R' o := by
  cases o with
  | k v => exact h
  | s v => exact StoreAt.more h n n2 n3
theorem StoreAt.out9 {v : SV} (h : StoreAt K mg H k S R v) {p : Addr} (hp : H p = none) : p ∉ S := by
  obtain ⟨W, F, S0, kvs, rfl, hK, hWF, hW, hF, hSh⟩ := h.at_
  have := hK.out hp
  simp [(ne_of_none hW hp).symm, (ne_of_none hF hp).symm, this]
theorem ObjAt.out (h : ObjAt K mg H k S R o) {p : Addr} (hp : H p = none) : p ∉ S := by
  cases o with
  | k v => exact KeepAt.out h hp
  | s v => exact StoreAt.out9 h hp
theorem ObjAt.al (h : ObjAt K mg H k S R o) {b : Addr} (hb : b ∈ S) : ∃ o, H b = some o := by
  cases e : H b with
  | none => exact absurd hb (h.out e)
  | some o => exact ⟨o, rfl⟩
theorem ObjAt.ins (h : ObjAt K mg H k S R o) : ∃ c dx fs, (c = "Keep" ∨ c = "Store") ∧ H k = some (.ins (cls mg c) dx fs) := by
  cases o with
  | k v =>
    obtain ⟨dx, ra, N, Pn, l, h⟩ := keep_atK h
    exact ⟨_, dx, _, .inl rfl, h⟩
  | s v =>
    obtain ⟨dx, ra, N, Pn, l, W, F, h⟩ := store_at h
    exact ⟨_, dx, _, .inr rfl, h⟩
/-- what an object holds, as the law's steps ask -/
structure Ok9 (nt : Int) (m : Nat) (o : O90) : Prop where
  ru : ∀ ru ∈ o.kv.rus, 1 ≤ ru.2
  rn : o.kv.rus ≠ []
  ln : ∀ l, o.kv.last = some l → l ≤ nt
  len : o.kv.ns.length ≤ m
def isSt9 : O90 → Bool
  | .k _ => false
  | .s _ => true
/-- the four, beside the town; H0: the heap at the law's start -/
structure Q4 (K : PySem.W.Frag) (mg : Str → Option Value) (H0 H : Hp) (a t : Addr) (ns : List Int) (c : Nat) (ks : Nat → Addr) (Ss : Nat → List Addr) (R : List Addr) (os : Nat → O90) : Prop where
  s0 : Same H0 H
  hS : SqL K H0 a (ns.map V.int)
  ht : H0 t = none
  tn : Tn K H a t ns c
  ob : ∀ j, j < 4 → ObjAt K mg H (ks j) (Ss j) R (os j)
  dj : ∀ i j, i < 4 → j < 4 → i ≠ j → ∀ b ∈ Ss i, b ∉ Ss j
  f : ∀ j, j < 4 → ∀ b ∈ Ss j, H0 b = none
  ts : ∀ j, j < 4 → t ∉ Ss j
  tR : t ∉ R
  rA : ∀ j, j < 4 → ∀ b ∈ Ss j, b ∉ R
  rl : ∀ b ∈ R, ∃ o, H b = some o
variable {H0 : Hp} {a t : Addr} {ns : List Int} {c c' : Nat} {ks : Nat → Addr} {Ss : Nat → List Addr} {os : Nat → O90} {o' : O90} {j : Nat}
theorem Q4.same (h : Q4 K mg H0 H a t ns c ks Ss R os) (s : Same H H') : Q4 K mg H0 H' a t ns c ks Ss R os :=
  ⟨h.s0.trans s, h.hS, h.ht, h.tn.same s, fun j hj => (h.ob j hj).same s, h.dj, h.f, h.ts, h.tR, h.rA, fun b hb => let ⟨o, ho⟩ := h.rl b hb; ⟨o, s _ _ ho⟩⟩
theorem Q4.town (h : Q4 K mg H0 H a t ns c ks Ss R os) (b : But t H H') (Tt : Tn K H' a t ns c') : Q4 K mg H0 H' a t ns c' ks Ss R os := by
  obtain ⟨l, hl⟩ := h.tn.lst
  have st := b.step hl
  have n1 : ∀ {T : List Addr}, t ∉ T → ∀ b ∈ T, b ∉ [t] := fun hn b hb hm => hn (by rw [← List.mem_singleton.mp hm]; exact hb)
  exact ⟨Step.fresh h.s0 st (fun b hb => by rw [List.mem_singleton.mp hb]; exact h.ht), h.hS, h.ht, Tt, fun j hj => (h.ob j hj).step st (n1 (h.ts j hj)) (n1 h.tR), h.dj, h.f, h.ts, h.tR, h.rA, fun b hb => let ⟨o, ho⟩ := h.rl b hb; ⟨o, st.keep _ _ ho (n1 h.tR b hb)⟩⟩
theorem Q4.fr_town (h : Q4 K mg H0 H a t ns c ks Ss R os) (b : But t H H') : Same (outH (OwnL t Ss) H) (outH (OwnL t Ss) H') := by
  obtain ⟨l, hl⟩ := h.tn.lst
  exact (Step.more (b.step hl) (T := OwnL t Ss) fun b hb => by rw [List.mem_singleton.mp hb]; exact mem_OwnL.mpr (.inl rfl)).out Own.refl
/-- what changes is none of them -/
theorem Q4.step (h : Q4 K mg H0 H a t ns c ks Ss R os) (st : Step T H H') (n : ∀ b ∈ T, b ∉ OwnL t Ss ∧ b ∉ R ∧ H0 b = none) : Q4 K mg H0 H' a t ns c ks Ss R os := by
  have s0' := Step.fresh h.s0 st fun b hb => (n b hb).2.2
  refine ⟨s0', h.hS, h.ht, h.tn.step h.hS h.ht s0' st (fun hm => (n t hm).1 (mem_OwnL.mpr (.inl rfl))), fun j hj => (h.ob j hj).step st (fun b hb hm => (n b hm).1 (mem_OwnL.mpr (.inr ⟨j, hj, hb⟩))) (fun b hb hm => (n b hm).2.1 hb), h.dj, h.f, h.ts, h.tR, h.rA, fun b hb => let ⟨o, ho⟩ := h.rl b hb; ⟨o, st.keep _ _ ho (fun hm => (n b hm).2.1 hb)⟩⟩
/-- more things that never change -/
theorem Q4.more (h : Q4 K mg H0 H a t ns c ks Ss R os) (hR : ∀ b ∈ R, b ∈ R') (n : ∀ b ∈ R', b ∉ OwnL t Ss) (al : ∀ b ∈ R', ∃ o, H b = some o) : Q4 K mg H0 H a t ns c ks Ss R' os :=
  ⟨h.s0, h.hS, h.ht, h.tn, fun j hj => (h.ob j hj).more hR (fun b hb hm => n b hm (mem_OwnL.mpr (.inr ⟨j, hj, hb⟩))) al, h.dj, h.f, h.ts, fun hm => n t hm (mem_OwnL.mpr (.inl rfl)), fun j hj b hb hm => n b hm (mem_OwnL.mpr (.inr ⟨j, hj, hb⟩)), al⟩
/-- one of them does a deed -/
theorem Q4.deed (h : Q4 K mg H0 H a t ns c ks Ss R os) (hj : j < 4) (st : Step (Ss j) H H') (ow : Own H (Ss j) S') (ho : ObjAt K mg H' (ks j) S' R o') : Q4 K mg H0 H' a t ns c ks (putJ Ss j S') R (putJ os j o') ∧ Same (outH (OwnL t Ss) H) (outH (OwnL t (putJ Ss j S')) H') := by
  have s0' := Step.fresh h.s0 st (h.f j hj)
  have off : ∀ {b : Addr} {x : HO}, H b = some x → b ∉ Ss j → b ∉ S' := fun hb hn hm => by
    rcases ow _ hm with z | z
    · exact hn z
    · rw [z] at hb; cases hb
  have frS : ∀ b ∈ S', H0 b = none := fun b hb => (ow b hb).elim (h.f j hj b) fun z => h.s0.free z
  have cs : ∀ i, i < 4 → ∀ b ∈ putJ Ss j S' i, (i = j ∧ b ∈ S') ∨ (i ≠ j ∧ b ∈ Ss i) := fun i hi b hb => by
    by_cases e : i = j
    · subst e; rw [putJ_at] at hb; exact .inl ⟨rfl, hb⟩
    · rw [putJ_ne e] at hb; exact .inr ⟨e, hb⟩
  have owA : Own H (OwnL t Ss) (OwnL t (putJ Ss j S')) := fun b hb => by
    rcases mem_OwnL.mp hb with z | ⟨i, hi, z⟩
    · exact .inl (mem_OwnL.mpr (.inl z))
    · rcases cs i hi b z with ⟨e, z⟩ | ⟨e, z⟩
      · rcases ow b z with z | z
        · exact .inl (mem_OwnL.mpr (.inr ⟨j, hj, z⟩))
        · exact .inr z
      · exact .inl (mem_OwnL.mpr (.inr ⟨i, hi, z⟩))
  obtain ⟨l, hl⟩ := h.tn.lst
  refine ⟨⟨s0', h.hS, h.ht, h.tn.step h.hS h.ht s0' st (h.ts j hj), fun i hi => ?_, fun i1 i2 h1 h2 hne b hb hm => ?_, fun i hi b hb => ?_, fun i hi hm => ?_, h.tR, fun i hi b hb => ?_, fun b hb => ?_⟩, (Step.more st fun b hb => mem_OwnL.mpr (.inr ⟨j, hj, hb⟩)).out owA⟩
  · by_cases e : i = j
    · subst e; rw [putJ_at, putJ_at]; exact ho
    · rw [putJ_ne e, putJ_ne e]
      exact (h.ob i hi).step st (h.dj i j hi hj e) (fun b hb hm => h.rA j hj b hm hb)
  · rcases cs i1 h1 b hb with ⟨e1, z1⟩ | ⟨e1, z1⟩ <;> rcases cs i2 h2 b hm with ⟨e2, z2⟩ | ⟨e2, z2⟩
    · exact hne (e1.trans e2.symm)
    · obtain ⟨x, hx⟩ := (h.ob i2 h2).al z2
      exact off hx (h.dj i2 j h2 hj e2 b z2) z1
    · obtain ⟨x, hx⟩ := (h.ob i1 h1).al z1
      exact off hx (h.dj i1 j h1 hj e1 b z1) z2
    · exact h.dj i1 i2 h1 h2 hne b z1 z2
  · rcases cs i hi b hb with ⟨_, z⟩ | ⟨_, z⟩
    · exact frS b z
    · exact h.f i hi b z
  · rcases cs i hi t hm with ⟨_, z⟩ | ⟨_, z⟩
    · exact off hl (h.ts j hj) z
    · exact h.ts i hi z
  · intro hm
    rcases cs i hi b hb with ⟨_, z⟩ | ⟨_, z⟩
    · obtain ⟨x, hx⟩ := h.rl b hm
      exact off hx (fun q => h.rA j hj b q hm) z
    · exact h.rA i hi b z hm
  · obtain ⟨x, hx⟩ := h.rl b hb
    exact ⟨x, st.keep _ _ hx fun q => h.rA j hj b q hb⟩
/-- a thing that is made beside them is none of theirs -/
theorem Q4.outs (h : Q4 K mg H0 H a t ns c ks Ss R os) {p : Addr} (hp : H p = none) : p ∉ OwnL t Ss ∧ p ∉ R ∧ H0 p = none := by
  refine ⟨fun hm => ?_, fun hm => ?_, h.s0.free hp⟩
  · rcases mem_OwnL.mp hm with z | ⟨j, hj, z⟩
    · exact h.tn.some_ hp z
    · exact (h.ob j hj).out hp z
  · obtain ⟨o, ho⟩ := h.rl p hm
    rw [hp] at ho; cases ho
theorem Q4.alS (h : Q4 K mg H0 H a t ns c ks Ss R os) : ∀ b ∈ OwnL t Ss, ∃ o, H b = some o := fun b hb => by
  cases e : H b with
  | none => exact absurd hb (h.outs e).1
  | some o => exact ⟨o, rfl⟩
/-- new things lie outside -/
theorem fr_new {E : List Addr} (s : Same H H') : Same (outH E H) (outH E H') := (Step.of (S := E) s).out Own.refl
theorem fr_drop {E : List Addr} {p : Addr} : Same (outH (p :: E) H) (outH E H) := subH_same (fun _ _ h => h) fun b o h n => ⟨h, by
  simp only [List.mem_cons, not_or, Bool.not_eq_true', decide_eq_false_iff_not] at n ⊢
  exact n.2⟩
theorem fr_add {E : List Addr} {p : Addr} (s : Same H H') (n : H p = none) : Same (outH E H) (outH (p :: E) H') := (Step.of (S := E) s).out fun b hb => by
  rcases List.mem_cons.mp hb with z | z
  · exact .inr (z ▸ n)
  · exact .inl z
theorem fr_cons {E E' : List Addr} {p : Addr} (s : Same (outH E H) (outH E' H')) (k : ∀ o, H p = some o → H' p = some o) : Same (outH (p :: E) H) (outH (p :: E') H') := fun b o h => by
  obtain ⟨e, z⟩ := subH_out h
  rcases z with ⟨xs, rfl⟩ | z
  · exact subH_tup (subH_out (s b _ (subH_tup e))).1
  · simp only [List.mem_cons, not_or, Bool.not_eq_true', decide_eq_false_iff_not] at z
    obtain ⟨e2, z2⟩ := subH_out (s b o (subH_in e (by simpa using z.2)))
    rcases z2 with ⟨xs, rfl⟩ | z2
    · exact subH_tup e2
    · exact subH_in e2 (by simp only [Bool.not_eq_true', decide_eq_false_iff_not, List.mem_cons, not_or] at z2 ⊢; exact ⟨z.1, z2⟩)
end
end Nk
namespace Nk
open PySem L2
theorem gd_flatL {xs : List PyData} {k : Nat} (h : ∀ x ∈ xs, gd k x = true) : gd (k + 1) (.list xs) = true := by
  simp only [gd]
  exact List.all_eq_true.mpr h
theorem gd_num {o : Option Int} {k : Nat} : gd k (numDt o) = true := by
  cases o <;> cases k <;> rfl
theorem gd_int {i : Int} {k : Nat} : gd k (.int i) = true := by cases k <;> rfl
theorem gd_str {s : Str} {k : Nat} (h : PyData.strOk s = true) : gd k (.str s) = true := by
  cases k <;> simpa only [gd] using h
theorem gd_firstL (v : KV) : ∀ x ∈ firstL v, gd 2 x = true := fun x hx => by
  simp only [firstL, List.mem_cons, List.not_mem_nil, or_false] at hx
  rcases hx with rfl | rfl | rfl | rfl
  · exact gd_dLI (k := 1) _
  · exact gd_dLI (k := 1) _
  · exact gd_dLI (k := 1) _
  · exact gd_dLI (k := 1) [(v.ns.length : Int)]
section
variable {P : Program} {w : World} {K : PySem.W.Frag} {mg : Str → Option Value} {base : Heap}
theorem gd_seen9 {H : Hp} {k : Addr} {S R : List Addr} {o : O90} (h : ObjAt K mg H k S R o) : gd 3 (seen9 o) = true := by
  cases o with
  | k v => exact gd_flatL (gd_firstL v)
  | s v =>
    have h : StoreAt K mg H k S R v := h
    refine gd_flatL fun x hx => ?_
    simp only [List.mem_append] at hx
    rcases hx with ((((hx | hx) | hx) | hx) | hx) | hx
    · exact gd_firstL _ x hx
    · simp only [List.mem_cons, List.not_mem_nil, or_false] at hx
      rcases hx with rfl | rfl | rfl | rfl | rfl
      · refine gd_flatL fun y hy => ?_
        obtain ⟨j, _, rfl⟩ := List.mem_map.mp hy
        simp only [gd, List.all_cons, List.all_nil, gd_num, Bool.and_true]
      · exact gd_dLI (k := 1) [(roomR v.rows : Int)]
      · refine gd_flatL fun y hy => ?_
        obtain ⟨w, hw, rfl⟩ := List.mem_map.mp hy
        exact gd_str (asc_ok (ascS h w hw))
      · refine gd_flatL fun y hy => ?_
        obtain ⟨p, _, rfl⟩ := List.mem_map.mp hy
        simp only [gd, List.all_cons, List.all_nil, gd_num, Bool.and_true]
      · exact gd_dLI (k := 1) _
    · obtain ⟨j, _, rfl⟩ := List.mem_map.mp hx
      exact gd_dLI (k := 1) _
    · obtain ⟨j, _, rfl⟩ := List.mem_map.mp hx
      exact gd_dLI (k := 1) _
    · obtain ⟨r, hr, rfl⟩ := List.mem_map.mp hx
      refine gd_flatL fun y hy => ?_
      obtain ⟨w, hw, rfl⟩ := List.mem_map.mp hy
      exact gd_str (asc_ok (asc_nm (srt_nm (tab_of h r hr).1 w hw)))
    · unfold turnD at hx
      split at hx
      · rename_i c
        rw [List.mem_singleton.mp hx]
        obtain ⟨r0, hr0⟩ := row_lt (rs := v.rows) (i := 0) (by omega)
        obtain ⟨r9, hr9⟩ := row_lt (rs := v.rows) (i := v.rows.length - 1) (by omega)
        have e0 : v.rows.head? = some r0 := by rw [List.head?_eq_getElem?]; exact hr0
        have e9 : v.rows.getLast? = some r9 := by rw [List.getLast?_eq_getElem?]; exact hr9
        rw [e0, e9]
        have g1 := tab_of h r0 (mem_of_get hr0)
        have g9 := tab_of h r9 (mem_of_get hr9)
        have gP := part_good g1.1 g9.1 g1.2 g9.2
        refine gd_flatL fun y hy => ?_
        obtain ⟨p, hp, rfl⟩ := List.mem_map.mp hy
        simp only [gd, List.all_cons, List.all_nil, gd_num, Bool.and_true]
        exact asc_ok (asc_nm (gP.nm p hp))
      · cases hx
theorem seen9_ns {o o' : O90} (h : seen9 o = seen9 o') : o.kv.ns = o'.kv.ns := by
  have a : ∀ o : O90, ∃ r, seen9 o = .list (dLI o.kv.ns :: r) := fun o => by
    cases o with
    | k v => exact ⟨_, rfl⟩
    | s v => exact ⟨_, rfl⟩
  obtain ⟨r, e⟩ := a o
  obtain ⟨r', e'⟩ := a o'
  rw [e, e'] at h
  exact dLI_inj.mp (List.cons.inj (PyData.list.inj h)).1
theorem rules1 {H : Hp} {r p a : Addr} {rs : List Int} {m : Int} (hr : H r = some (.tup (rs.map V.int))) (hp : H p = some (.tup [.ref r, .int m])) (ha : H a = some (.tup [.ref p])) (ok : Rnds rs) (le : ∀ r ∈ rs, r ≤ 31) (ln : rs.length ≤ 12) (m1 : 1 ≤ m) (m2 : m ≤ 20) : RulesAt H a [(rs, m)] := by
  refine ⟨⟨_, ha, rfl, fun i x hx => ?_⟩, by simp, by simp⟩
  match i, hx with
  | 0, hx => cases hx; exact ⟨_, rfl, p, r, rfl, hp, ⟨hr, ok, le, ln⟩, m1, m2⟩
  | i + 1, hx => simp at hx
theorem rules2 {H : Hp} {r p r' p' a : Addr} {rs rs' : List Int} {m m' : Int} (hr : H r = some (.tup (rs.map V.int))) (hp : H p = some (.tup [.ref r, .int m])) (ok : Rnds rs) (le : ∀ r ∈ rs, r ≤ 31) (ln : rs.length ≤ 12) (m1 : 1 ≤ m) (m2 : m ≤ 20)
    (hr' : H r' = some (.tup (rs'.map V.int))) (hp' : H p' = some (.tup [.ref r', .int m'])) (ok' : Rnds rs') (le' : ∀ r ∈ rs', r ≤ 31) (ln' : rs'.length ≤ 12) (m1' : 1 ≤ m') (m2' : m' ≤ 20) (ha : H a = some (.tup [.ref p, .ref p'])) : RulesAt H a [(rs, m), (rs', m')] := by
  refine ⟨⟨_, ha, rfl, fun i x hx => ?_⟩, by simp, by simp⟩
  match i, hx with
  | 0, hx => cases hx; exact ⟨_, rfl, p, r, rfl, hp, ⟨hr, ok, le, ln⟩, m1, m2⟩
  | 1, hx => cases hx; exact ⟨_, rfl, p', r', rfl, hp', ⟨hr', ok', le', ln'⟩, m1', m2'⟩
  | i + 2, hx => simp at hx
theorem keep_new9 {H : Hp} {r : Addr} {rus : List (List Int × Int)} {Q : Addr → Hp → Prop} {E : XK} (RA : RulesAt H r rus) (q : ∀ k S H', Same H H' → (∀ b ∈ S, H b = none) → KeepAt K mg "Keep" [] H' k S ⟨rus, [], [], none⟩ → Q k H') :
    ∀ x dx : Addr, H x = none → H dx = none → dx ≠ x → sp_KeepK____init__ K mg [.ref x, .ref r] (upd (upd H dx (.own x)) x (.ins (cls mg "Keep") dx [])) (fun v H2 => v = .non ∧ Q x H2) E := by
  intro x dx hx hdx hne
  have s1 : Same H (upd (upd H dx (.own x)) x (.ins (cls mg "Keep") dx [])) := fun b o hb => by
    rw [upd_ne (ne_of_none hb hx), upd_ne (ne_of_none hb hdx)]
    exact hb
  have R1 := RA.same s1
  refine ⟨x, dx, _, rfl, upd_same, R1.thing, (fun e => by rw [R1.is] at e; cases e), fun _ => ⟨r, rus, rfl, R1, fun H' N Pn st hN hP hK => ⟨rfl, ?_⟩⟩⟩
  refine q x [x, N, Pn] H' (fun b o hb => st.keep b o (s1 _ _ hb) ?_) (fun b hb => ?_) hK
  · intro hm
    rw [List.mem_singleton.mp hm, hx] at hb
    cases hb
  · simp only [List.mem_cons, List.not_mem_nil, or_false] at hb
    rcases hb with rfl | rfl | rfl
    · exact hx
    · exact s1.free hN
    · exact s1.free hP
def four {α : Type} (a b c d : α) : Nat → α
  | 0 => a
  | 1 => b
  | 2 => c
  | _ => d
theorem lt4 {j : Nat} (h : j < 4) : j = 0 ∨ j = 1 ∨ j = 2 ∨ j = 3 := by omega
theorem four_in {α : Type} {a b c d : α} {j : Nat} {Pr : Nat → α → Prop} (hj : j < 4) (h0 : Pr 0 a) (h1 : Pr 1 b) (h2 : Pr 2 c) (h3 : Pr 3 d) : Pr j (four a b c d j) := by
  rcases lt4 hj with rfl | rfl | rfl | rfl
  · exact h0
  · exact h1
  · exact h2
  · exact h3
def all9 (os : Nat → O90) : PyData := .list ((List.range 4).map fun j => seen9 (os j))
theorem copy9 {H0 H : Hp} {a t : Addr} {ns : List Int} {c j : Nat} {ks : Nat → Addr} {Ss : Nat → List Addr} {R : List Addr} {os : Nat → O90} {Q : VK} {E E' : XK} (h : Q4 K mg H0 H a t ns c ks Ss R os) (hj : j < 4) (q : ∀ y H4, Same H H4 → Ct (newH H H4) 2 y (seen9 (os j)) → Q y H4) :
    sp__law_seen K mg [.ref (ks j)] H (fun v H1 => sp__law_copy 4 [v] H1 Q E) E' :=
  ⟨ks j, Ss j, R, os j, rfl, h.ob j hj, fun l H1 s1 c1 => ⟨.ref l, seen9 (os j), 2, rfl, by omega, c1.same subH_le, fun y H4 s4 c4 => q y H4 (s1.trans s4) (c4.same (newH_old s1))⟩⟩
theorem spoil9 {H0 H : Hp} {a t : Addr} {ns : List Int} {c j : Nat} {ks : Nat → Addr} {Ss : Nat → List Addr} {R : List Addr} {os : Nat → O90} {Q : VK} {E E' : XK} (h : Q4 K mg H0 H a t ns c ks Ss R os) (hj : j < 4) (q : ∀ H4, Same H H4 → Q .non H4) :
    sp__law_seen K mg [.ref (ks j)] H (fun v H1 => sp__law_spoil K 4 [v] H1 Q E) E' :=
  ⟨ks j, Ss j, R, os j, rfl, h.ob j hj, fun l H1 s1 c1 => ⟨.ref l, _, 2, rfl, by omega, fun b hb => hb.2, c1.sp, fun H4 p4 => q H4 (p4.same0 s1)⟩⟩
abbrev kV (ks : Nat → Addr) : List V := [.ref (ks 0), .ref (ks 1), .ref (ks 2), .ref (ks 3)]
theorem kV_get {ks : Nat → Addr} {i : Nat} {x : V} (h : (kV ks)[i]? = some x) : i < 4 ∧ x = .ref (ks i) := by
  match i, h with
  | 0, h => cases h; exact ⟨by omega, rfl⟩
  | 1, h => cases h; exact ⟨by omega, rfl⟩
  | 2, h => cases h; exact ⟨by omega, rfl⟩
  | 3, h => cases h; exact ⟨by omega, rfl⟩
  | i + 4, h => simp at h
theorem all_get {os : Nat → O90} {i : Nat} (h : i < 4) : ((List.range 4).map fun j => seen9 (os j))[i]? = some (seen9 (os i)) := by
  rw [List.getElem?_map, List.getElem?_range h]
  rfl
def iv9 (K : PySem.W.Frag) (mg : Str → Option Value) (H0 : Hp) (a t kl : Addr) (ns : List Int) (c0 : Nat) (ks : Nat → Addr) (os0 : Nat → O90) (i : Nat) (σ : L2.St) (H : Hp) : Prop :=
  ∃ (n : Int) (td : Addr) (tb : Tb) (y5 y6 y7 y8 y9 y10 y11 : Option V) (c : Nat) (Ss : Nat → List Addr) (R : List Addr) (os : Nat → O90), σ = [some (.ref a), some (.ref t), some (.ref kl), some (.int n), some (.ref td), y5, y6, y7, y8, y9, y10, y11] ∧
    c ≤ c0 + 100 * i ∧ -1 ≤ n ∧ n ≤ 3 * i ∧ Q4 K mg H0 H a t ns c ks Ss R os ∧ (∀ j, j < 4 → Ok9 n i (os j) ∧ isSt9 (os j) = isSt9 (os0 j)) ∧ outH (OwnL t Ss) H kl = some (.lst (kV ks)) ∧ outH (OwnL t Ss) H td = some (.dK (kvsT tb)) ∧ OkT tb ∧ tb.length ≤ 20 ∧
    (0 < i → ∃ sm, y10 = some (.ref sm) ∧ Ct (outH (OwnL t Ss) H) 3 (.ref sm) (all9 os))
theorem kV_at {ks : Nat → Addr} {j : Nat} (h : j < 4) : (kV ks)[j]? = some (.ref (ks j)) := by
  rcases lt4 h with rfl | rfl | rfl | rfl <;> rfl
theorem Q4.notR {H0 H : Hp} {a t : Addr} {ns : List Int} {c : Nat} {ks : Nat → Addr} {Ss : Nat → List Addr} {R : List Addr} {os : Nat → O90} (h : Q4 K mg H0 H a t ns c ks Ss R os) : ∀ b ∈ R, b ∉ OwnL t Ss := fun b hb hm => by
  rcases mem_OwnL.mp hm with z | ⟨j, hj, z⟩
  · exact h.tR (z ▸ hb)
  · exact h.rA j hj b z hb
theorem keep_take9 {H : Hp} {k : Addr} {S : List Addr} {v : KV} {m : Int} {Q : VK} {E : XK} (hK : KeepAt K mg "Keep" [] H k S v) (m0 : 0 ≤ m) (m1 : m ≤ 1000000000) (hl : ∀ l, v.last = some l → l < m) (hn : v.ns.length < 100)
    (q : ∀ H', Step S H H' → KeepAt K mg "Keep" [] H' k S { v with ns := v.ns ++ [m], last := some m } → Q .non H') : sp_KeepK__take K mg [.ref k, .int m] H Q E := by
  refine ⟨k, S, v, .int m, _, rfl, hK, .int m, fun e => ?_, fun m' l e _ _ h1 h2 => ?_, fun m' e _ _ _ h1 => ?_, fun m' e _ _ _ _ H' st h => ?_⟩
  · simp [isNumV, m0, m1] at e
  · cases e
    have := hl l h1
    omega
  · omega
  · cases e
    exact q H' st h
theorem putJ_putJ {α : Type} {f : Nat → α} {j : Nat} {x y : α} : putJ (putJ f j x) j y = putJ f j y := by
  funext i
  unfold putJ
  split <;> rfl
theorem ObjAt.kp {H : Hp} {k : Addr} {S R : List Addr} {o : O90} (h : ObjAt K mg H k S R o) : (∀ n ∈ o.kv.ns, ∃ l, o.kv.last = some l ∧ n ≤ l) ∧ (∀ n ∈ o.kv.ps, n ∈ o.kv.ns) ∧ o.kv.ns.length ≤ 100 := by
  cases o with
  | k v =>
    have h : KeepAt K mg "Keep" [] H k S v := h
    exact ⟨h.lst, h.psub, h.n100⟩
  | s v =>
    have h : StoreAt K mg H k S R v := h
    obtain ⟨W, F, S0, kvs, rfl, hK, _⟩ := h.at_
    exact ⟨hK.lst, hK.psub, hK.n100⟩
theorem fr_skip {E E' : List Addr} {H H' : Hp} {p : Addr} (s : Same (outH E H) (outH E' H')) (n : H p = none) : Same (outH E H) (outH (p :: E') H') := fun b o h => by
  have hb : b ≠ p := fun z => by
    have := subH_le _ _ h
    rw [z, n] at this; cases this
  obtain ⟨e, ⟨xs, rfl⟩ | z⟩ := subH_out (s b o h)
  · exact subH_tup e
  · exact subH_in e (by simp only [Bool.not_eq_true', decide_eq_false_iff_not, List.mem_cons, not_or] at z ⊢; exact ⟨hb, z⟩)
theorem store_state9 {H : Hp} {k : Addr} {S R : List Addr} {v : SV} {i : Nat} {r : Row} {m : Int} {Q : VK} {E : XK} (h : StoreAt K mg H k S R v) (hr : v.rows[i]? = some r) (hn : r.n = m) (q : ∀ p H', Same H H' → StR mg H' R p r.t → Q (.ref p) H') : sp_Store__state K mg [.ref k, .int m] H Q E := by
  subst hn
  exact store_stateQ h hr q
theorem ct_list {H : Hp} {m : Nat} {a : Addr} {ds : List PyData} (h : Ct H (m + 1) (.ref a) (.list ds)) : ∃ xs, H a = some (.lst xs) ∧ xs.length = ds.length ∧ ∀ (i : Nat) y e, xs[i]? = some y → ds[i]? = some e → Ct H m y e := by
  rcases h with h | ⟨b, xs, es, e, e2, h1, _, h2, h3⟩
  · cases h with
    | sc h => cases h
  · cases e
    cases e2
    exact ⟨xs, h1, h2, h3⟩
/-- behind the j-th's taking of the night nt -/
def W9 (K : PySem.W.Frag) (mg : Str → Option Value) (H0 : Hp) (a t kl td D : Addr) (ns : List Int) (ks : Nat → Addr) (Ss : Nat → List Addr) (os : Nat → O90) (j : Nat) (nt : Int) (i : Nat) (tb : Tb) (Pl : List Int → Prop) (Pp : List Int → Prop) (c : Nat) (H : Hp) : Prop :=
  ∃ (S1 R : List Addr) (o1 : O90), Q4 K mg H0 H a t ns c ks (putJ Ss j S1) R (putJ os j o1) ∧ outH (OwnL t (putJ Ss j S1)) H kl = some (.lst (kV ks)) ∧ outH (OwnL t (putJ Ss j S1)) H td = some (.dK (kvsT tb)) ∧ Ct (outH (OwnL t (putJ Ss j S1)) H) 3 (.ref D) (all9 os) ∧
    Ok9 nt (i + 1) o1 ∧ Pl o1.kv.ns ∧ Pp o1.kv.ps ∧ isSt9 o1 = isSt9 (os j)
section
variable {H0 H H' : Hp} {a t kl td D : Addr} {ns : List Int} {ks : Nat → Addr} {Ss : Nat → List Addr} {os : Nat → O90} {j i c c' : Nat} {nt : Int} {tb : Tb} {Pl Pp Pl' Pp' : List Int → Prop}
theorem W9.same (h : W9 K mg H0 a t kl td D ns ks Ss os j nt i tb Pl Pp c H) (s : Same H H') : W9 K mg H0 a t kl td D ns ks Ss os j nt i tb Pl Pp c H' := by
  obtain ⟨S1, R, o1, q, h1, h2, h3, h4⟩ := h
  have fr := fr_new (E := OwnL t (putJ Ss j S1)) s
  exact ⟨S1, R, o1, q.same s, fr _ _ h1, fr _ _ h2, h3.same fr, h4⟩
theorem W9.town (h : W9 K mg H0 a t kl td D ns ks Ss os j nt i tb Pl Pp c H) (b : But t H H') (T : Tn K H' a t ns c') : W9 K mg H0 a t kl td D ns ks Ss os j nt i tb Pl Pp c' H' := by
  obtain ⟨S1, R, o1, q, h1, h2, h3, h4⟩ := h
  have fr := q.fr_town b
  exact ⟨S1, R, o1, q.town b T, fr _ _ h1, fr _ _ h2, h3.same fr, h4⟩
theorem W9.tn (h : W9 K mg H0 a t kl td D ns ks Ss os j nt i tb Pl Pp c H) : Tn K H a t ns c := by
  obtain ⟨S1, R, o1, q, _⟩ := h
  exact q.tn
theorem W9.atK (h : W9 K mg H0 a t kl td D ns ks Ss os j nt i tb Pl Pp c H) : SqL K H kl (kV ks) := by
  obtain ⟨S1, R, o1, q, h1, _⟩ := h
  exact sqL (subH_le _ _ h1)
theorem W9.imp (h : W9 K mg H0 a t kl td D ns ks Ss os j nt i tb Pl Pp c H) (f1 : ∀ l, Pl l → Pl' l) (f2 : ∀ l, Pp l → Pp' l) : W9 K mg H0 a t kl td D ns ks Ss os j nt i tb Pl' Pp' c H := by
  obtain ⟨S1, R, o1, q, h1, h2, h3, h4, h5, h6, h7⟩ := h
  exact ⟨S1, R, o1, q, h1, h2, h3, h4, f1 _ h5, f2 _ h6, h7⟩
theorem W9.atT (h : W9 K mg H0 a t kl td D ns ks Ss os j nt i tb Pl Pp c H) : H td = some (.dK (kvsT tb)) := by
  obtain ⟨S1, R, o1, q, _, h2, _⟩ := h
  exact subH_le _ _ h2
/-- keeps[at].pin(night), of either class -/
theorem W9.pin {Q : VK} (hj : j < 4) (h : W9 K mg H0 a t kl td D ns ks Ss os j nt i tb (fun l => ∃ X, l = X ++ [nt]) (fun l => nt ∉ l) c H) (q : ∀ H', W9 K mg H0 a t kl td D ns ks Ss os j nt i tb (fun l => ∃ X, l = X ++ [nt]) (fun _ => True) c H' → Q .non H') :
    (∃ dx fs, H (ks j) = some (.ins (cls mg "Keep") dx fs) ∧ List.lookup (Str.ofString "pin") fs = none ∧ sp_KeepK__pin K mg [.ref (ks j), .int nt] H Q E0) ∨ (∃ dx fs, H (ks j) = some (.ins (cls mg "Store") dx fs) ∧ List.lookup (Str.ofString "pin") fs = none ∧ sp_Store__pin K mg [.ref (ks j), .int nt] H Q E0) := by
  obtain ⟨S1, R, o1, qa, h1, h2, h3, h4, ⟨X, h5⟩, h6, h7⟩ := h
  have hO := qa.ob j hj
  rw [putJ_at, putJ_at] at hO
  have hm : nt ∈ o1.kv.ns := by rw [h5]; simp
  have fin : ∀ H' S' o2, Step S1 H H' → Own H S1 S' → ObjAt K mg H' (ks j) S' R o2 → o2.kv.ns = o1.kv.ns → o2.kv.rus = o1.kv.rus → o2.kv.last = o1.kv.last → isSt9 o2 = isSt9 o1 → Q .non H' := fun H' S' o2 st ow ho e1 e2 e3 e4 => by
    obtain ⟨qb, fr⟩ := qa.deed (o' := o2) hj (by rw [putJ_at]; exact st) (by rw [putJ_at]; exact ow) ho
    rw [putJ_putJ, putJ_putJ] at qb
    rw [putJ_putJ] at fr
    exact q H' ⟨S', R, o2, qb, fr _ _ h1, fr _ _ h2, h3.same fr, ⟨by rw [e2]; exact h4.ru, by rw [e2]; exact h4.rn, by rw [e3]; exact h4.ln, by rw [e1]; exact h4.len⟩, ⟨X, by rw [e1]; exact h5⟩, trivial, by rw [e4]; exact h7⟩
  cases o1 with
  | k v =>
    have hK : KeepAt K mg "Keep" [] H (ks j) S1 v := hO
    obtain ⟨dx, _, _, _, _, hk⟩ := keep_atK hK
    refine .inl ⟨dx, _, hk, rfl, ks j, S1, v, .int nt, "int", rfl, hK, .int _, fun hb => absurd hm (hb nt rfl), fun m e _ hp => ?_, fun m e _ _ H' S' ps' _ _ st ow hK' => ?_⟩
    · cases e; exact absurd hp h6
    · cases e
      exact fin H' S' (.k { v with ps := ps' }) st ow hK' rfl rfl rfl rfl
  | s v =>
    have hS : StoreAt K mg H (ks j) S1 R v := hO
    obtain ⟨dx, _, _, _, _, _, _, hk⟩ := store_at hS
    refine .inr ⟨dx, _, hk, rfl, store_pin hS hm h6 fun H' S' ps' st ow hS' _ => ?_⟩
    exact fin H' S' (.s { v with ps := ps' }) st ow hS' rfl rfl rfl rfl
/-- keeps[at].let_go(), of either class, spoilt -/
theorem W9.go {Q : VK} {E : XK} (hj : j < 4) (h : W9 K mg H0 a t kl td D ns ks Ss os j nt i tb (fun l => ∃ X, l = X ++ [nt]) (fun _ => True) c H) (q : ∀ H', W9 K mg H0 a t kl td D ns ks Ss os j nt i tb (fun l => nt ∈ l) (fun _ => True) c H' → Q .non H') :
    (∃ dx fs, H (ks j) = some (.ins (cls mg "Keep") dx fs) ∧ List.lookup (Str.ofString "let_go") fs = none ∧ sp_KeepK__let_go K mg [.ref (ks j)] H (fun v H1 => sp__law_spoil K 4 [v] H1 Q E) E0) ∨ (∃ dx fs, H (ks j) = some (.ins (cls mg "Store") dx fs) ∧ List.lookup (Str.ofString "let_go") fs = none ∧ sp_Store__let_go K mg [.ref (ks j)] H (fun v H1 => sp__law_spoil K 4 [v] H1 Q E) E0) := by
  obtain ⟨S1, R, o1, qa, h1, h2, h3, h4, ⟨X, h5⟩, h6, h7⟩ := h
  have hO := qa.ob j hj
  rw [putJ_at, putJ_at] at hO
  have hnG : nt ∉ goneK o1.kv := fun hm => by
    unfold goneK at hm
    have := (List.mem_filter.mp hm).2
    rw [decide_eq_true_eq, List.mem_append, not_or] at this
    obtain ⟨tt, e⟩ := keptF_last h4.ru h4.rn X nt
    rw [h5, e] at this
    exact this.1 (by simp)
  have hm : nt ∈ o1.kv.ns := by rw [h5]; simp
  have glen : (goneK o1.kv).length ≤ 10000 := Nat.le_trans (List.length_filter_le _ _) (by have := hO.kp.2.2; omega)
  have fin : ∀ p H' S' o2, Step S1 H H' → Own H S1 S' → H p = none → p ∉ S' → H' p = some (.lst ((goneK o1.kv).map V.int)) → ObjAt K mg H' (ks j) S' R o2 → nt ∈ o2.kv.ns → o2.kv.ns.length ≤ o1.kv.ns.length → o2.kv.rus = o1.kv.rus → o2.kv.last = o1.kv.last → isSt9 o2 = isSt9 o1 → sp__law_spoil K 4 [.ref p] H' Q E := fun p H' S' o2 st ow np nS hp ho e0 e1 e2 e3 e4 => by
    obtain ⟨qb, fr⟩ := qa.deed (o' := o2) hj (by rw [putJ_at]; exact st) (by rw [putJ_at]; exact ow) ho
    rw [putJ_putJ, putJ_putJ] at qb
    rw [putJ_putJ] at fr
    have oa := qa.outs np
    have pO : p ∉ OwnL t (putJ Ss j S') := fun hm => by
      rcases mem_OwnL.mp hm with z | ⟨i2, hi2, z⟩
      · exact oa.1 (mem_OwnL.mpr (.inl z))
      · by_cases e : i2 = j
        · subst e; rw [putJ_at] at z; exact nS z
        · rw [putJ_ne e] at z
          exact oa.1 (mem_OwnL.mpr (.inr ⟨i2, hi2, by rw [putJ_ne e]; exact z⟩))
    refine ⟨.ref p, (fun b => b = p), 1, rfl, by omega, fun b hb => ⟨_, hb ▸ hp⟩, .inr ⟨p, _, rfl, rfl, hp, by rw [List.length_map]; exact glen, fun y hy => ?_⟩, fun H2 pp => ?_⟩
    · obtain ⟨z, _, rfl⟩ := List.mem_map.mp hy
      exact ⟨"int", .int z, by decide⟩
    · have st2 : Step [p] H' H2 := ⟨fun b o h n => pp.keep h (fun z => n (by simp [z])), fun b xs h => (pp b _ h).resolve_right fun ⟨_, _, _, e, _⟩ => nomatch e⟩
      have qc := qb.step st2 fun b hb => by rw [List.mem_singleton.mp hb]; exact ⟨pO, oa.2⟩
      have fr2 : Same (outH (OwnL t (putJ Ss j S1)) H) (outH (OwnL t (putJ Ss j S')) H2) :=
        ((fr_skip fr np).trans ((Step.more st2 (T := p :: OwnL t (putJ Ss j S')) fun b hb => by rw [List.mem_singleton.mp hb]; simp).out Own.refl)).trans fr_drop
      exact q H2 ⟨S', R, o2, qc, fr2 _ _ h1, fr2 _ _ h2, h3.same fr2, ⟨by rw [e2]; exact h4.ru, by rw [e2]; exact h4.rn, by rw [e3]; exact h4.ln, Nat.le_trans e1 h4.len⟩, e0, trivial, by rw [e4]; exact h7⟩
  cases o1 with
  | k v =>
    have hK : KeepAt K mg "Keep" [] H (ks j) S1 v := hO
    obtain ⟨dx, _, _, _, _, hk⟩ := keep_atK hK
    refine .inl ⟨dx, _, hk, rfl, ks j, S1, v, rfl, hK, fun p H' S' st ow np nS hp hK' => ?_⟩
    exact fin p H' S' (.k { v with ns := leftK v }) st ow np nS hp hK' (List.mem_filter.mpr ⟨hm, decide_eq_true hnG⟩) (List.length_filter_le _ _) rfl rfl rfl
  | s v =>
    have hS : StoreAt K mg H (ks j) S1 R v := hO
    obtain ⟨dx, _, _, _, _, _, _, hk⟩ := store_at hS
    refine .inr ⟨dx, _, hk, rfl, ks j, S1, R, v, rfl, hS, fun p H' S' st ow np nS hp hS' => ?_⟩
    have e : (goS v).rows.map Row.n = (v.rows.map Row.n).filter fun n => decide (n ∉ goneK v.kv) := lgo_ns _ _
    refine fin p H' S' (.s (goS v)) st ow np nS hp hS' ?_ ?_ rfl rfl rfl
    · show nt ∈ (goS v).rows.map Row.n
      rw [e]
      exact List.mem_filter.mpr ⟨hm, decide_eq_true hnG⟩
    · show ((goS v).rows.map Row.n).length ≤ _
      rw [e]
      exact List.length_filter_le _ _
end
def iv9s (H0 : Hp) (σ0 σ1 : L2.St) (i : Nat) (σ : L2.St) (H : Hp) : Prop := (∃ y, σ = σ0 ++ [y] ++ σ1) ∧ Same H0 H
abbrev nm_law : List Str := ["script", "town", "keeps", "night", "table", "k", "at", "due", "keep", "given", "some", "j"]
abbrev pm_law : List Str := ["script"]
abbrev lv_law : Nat := 8
theorem sc_law : FnScope nm_law pm_law (defScope s_law) := ⟨rfl, rfl, rfl, by decide +kernel, rfl, by decide +kernel, by decide +kernel⟩
theorem ok_law {f : Addr} {fd : FuncData} (F : Fun K "law" "law" s_law f fd) (T : Txt K mg) : FnOk P w K mg base CX0 lv_law f fd ["script"] (spLaw K) := by
  refine F.ok sc_law (fun vs H Q E h => ?_) (fun cdv A outer s H vs Q E hr h => ?_)
  · obtain ⟨a, ns, rfl, _⟩ := h; rfl
  · obtain ⟨a, ns, rfl, hS, hl, q⟩ := h
    have hu := hu_of hr
    refine ⟨_, (pss_cons (ps_set (i := 1) sc_law.nd rfl (.inl rfl) (pe_fn (f__law_town T) (hr.mono (by decide)) (by rfl) pass0 (pa_cons (pv 0) pa_nil)))
      (pss_cons (ps_set (i := 2) sc_law.nd rfl (.inl rfl) (pe_lst (pa_cons (pe_new T.o_Keep (f_KeepK____init__ T) (hr.mono (by decide)) (by rfl) passL (pa_cons (pe_tup (pa_cons (pe_tup (pa_cons (pe_tup (pa_cons pe_int pa_nil)) (pa_cons pe_int pa_nil))) pa_nil)) pa_nil)) (pa_cons (pe_newD (n := 3) (j := 1) T.o_Store (f_Store____init__ T) (by simp) rfl (hr.mono (by decide)) (by rfl) passL (fun _ _ _ _ _ _ _ us its h1 h2 => match us, its, h1, h2 with | [_, _, _], [_], _, _ => ⟨_, rfl, rfl⟩) (pa_cons (pe_tup (pa_cons (pe_tup (pa_cons (pe_tup (pa_cons pe_int (pa_cons pe_int pa_nil))) (pa_cons pe_int pa_nil))) (pa_cons (pe_tup (pa_cons (pe_tup (pa_cons pe_int pa_nil)) (pa_cons pe_int pa_nil))) pa_nil))) (pa_cons pe_int pa_nil))) (pa_cons (pe_new T.o_Keep (f_KeepK____init__ T) (hr.mono (by decide)) (by rfl) passL (pa_cons (pe_tup (pa_cons (pe_tup (pa_cons (pe_tup (pa_cons pe_int pa_nil)) (pa_cons pe_int pa_nil))) pa_nil)) pa_nil)) (pa_cons (pe_newD (n := 2) (j := 0) T.o_Store (f_Store____init__ T) (by simp) rfl (hr.mono (by decide)) (by rfl) passL (fun _ _ _ _ _ _ _ us its h1 h2 => match us, its, h1, h2 with | [_, _], [_], _, _ => ⟨_, rfl, rfl⟩) (pa_cons (pe_tup (pa_cons (pe_tup (pa_cons (pe_tup (pa_cons pe_int pa_nil)) (pa_cons pe_int pa_nil))) pa_nil)) pa_nil)) pa_nil))))))
      (pss_cons (ps_set (i := 3) sc_law.nd rfl (.inl rfl) pe_int)
      (pss_cons (ps_set (i := 4) sc_law.nd rfl (.inl rfl) (pe_disp (pps_cons pe_str pe_int pps_nil) (by rfl) (by rfl) (fun z => by cases z) (by decide)))
      (pss_cons (ps_for PassesOwn.never rfl (pi_range1 (by rfl) T.b_range (pa_cons (pe_op op_add pe_int (pe_fn (f__law_draw T) (hr.mono (by decide)) (by rfl) pass0 (pa_cons (pv 0) (pa_cons (pv 1) (pa_cons pe_int pa_nil))))) pa_nil)) (pg_name (i := 5) sc_law.nd rfl (Or.inl rfl)) (pss_cons (ps_set (i := 6) sc_law.nd rfl (.inl rfl) (pe_fn (f__law_draw T) (hr.mono (by decide)) (by rfl) pass0 (pa_cons (pv 0) (pa_cons (pv 1) (pa_cons pe_int pa_nil)))))
      (pss_cons (ps_setLc (own := [("keep", 8)]) (g := gName 8) (tt := tYes) (i := 7) (by rfl) sc_law.nd rfl rfl (sw_true rfl rfl rfl (by decide +kernel)) (pi_list (pv 2)) (blkOk_by (own := [("keep", 8)]) (N := nm_law) (sc := defScope s_law) (by decide +kernel)) (fun _ _ _ _ _ => (pg_name (i := 8) sc_law.nd rfl (Or.inl rfl))) (fun _ _ _ _ _ => pts_nil) (fun _ _ _ _ _ => (pe_fn (f__law_copy T 4) (hr.mono (by decide)) (by rfl) pass0 (pa_cons (pe_fn (f__law_seen T) (hr.mono (by decide)) (by rfl) pass0 (pa_cons (pv 8) pa_nil)) pa_nil))))
      (pss_cons (ps_for PassesOwn.never rfl (pi_list (pv 2)) (pg_name (i := 8) sc_law.nd rfl (Or.inl rfl)) (pss_one (ps_expr (pe_fn (f__law_spoil T 4) (hr.mono (by decide)) (by rfl) pass0 (pa_cons (pe_fn (f__law_seen T) (hr.mono (by decide)) (by rfl) pass0 (pa_cons (pv 8) pa_nil)) pa_nil)))))
      (pss_cons (ps_set (i := 3) sc_law.nd rfl (.inl rfl) (pe_op op_add (pe_op op_add (pv 3) pe_int) (pe_fn (f__law_draw T) (hr.mono (by decide)) (by rfl) pass0 (pa_cons (pv 0) (pa_cons (pv 1) (pa_cons pe_int pa_nil))))))
      (pss_cons (ps_set (i := 4) sc_law.nd rfl (.inl rfl) (pe_fn (f__law_later T) (hr.mono (by decide)) (by rfl) pass0 (pa_cons (pv 0) (pa_cons (pv 1) (pa_cons (pv 4) pa_nil)))))
      (pss_cons (ps_set (i := 9) sc_law.nd rfl (.inl rfl) (pe_callTy call_dictD (by rfl) T.b_dict (by decide +kernel) (pa_cons (pv 4) pa_nil)))
      (pss_cons (ps_if (pt_cmpR op_eq (pe_op op_mod (pv 6) pe_int) pe_int (nomark _)) (pss_one (ps_expr (pe_me (pe_ix ix_list (pv 2) (pv 6) (fun _ _ => rfl)) T.o_Keep (f_KeepK__take T) (hr.mono (by decide)) passL (pa_cons (pv 3) pa_nil)))) (pss_one (ps_expr (pe_me (pe_ix ix_list (pv 2) (pv 6) (fun _ _ => rfl)) T.o_Store (f_Store__take T) (hr.mono (by decide)) passL (pa_cons (pv 3) (pa_cons (pe_new T.o_State (f_State____init__ T) (hr.mono (by decide)) (by rfl) pass0 (pa_cons (pv 9) pa_nil)) pa_nil))))))
      (pss_cons (ps_dput hu (pv 9) pe_str pe_int rfl)
      (pss_cons (ps_if (PW.pt (pw_and (pt_cmpR op_eq (pe_op op_mod (pv 6) pe_int) pe_int (nomark _)) (pw_and1 (pt_cmpR (op_neO T.v_State (f_State____eq__ T) (hr.mono (by decide)) pass0) (pe_me (pe_ix ix_list (pv 2) (pv 6) (fun _ _ => rfl)) T.o_Store (f_Store__state T) (hr.mono (by decide)) passL (pa_cons (pv 3) pa_nil)) (pe_new T.o_State (f_State____init__ T) (hr.mono (by decide)) (by rfl) pass0 (pa_cons (pv 4) pa_nil)) (nomark _))))) (pss_one (ps_ret pe_bl)) pss_nil)
      (pss_cons (ps_if (pt_cmpR op_eq (pe_fn (f__law_draw T) (hr.mono (by decide)) (by rfl) pass0 (pa_cons (pv 0) (pa_cons (pv 1) (pa_cons pe_int pa_nil)))) pe_int (nomark _)) (pss_one (ps_expr (pe_orE (pe_me (pe_ix ix_list (pv 2) (pv 6) (fun _ _ => rfl)) T.o_Keep (f_KeepK__pin T) (hr.mono (by decide)) passL (pa_cons (pv 3) pa_nil)) (pe_me (pe_ix ix_list (pv 2) (pv 6) (fun _ _ => rfl)) T.o_Store (f_Store__pin T) (hr.mono (by decide)) passL (pa_cons (pv 3) pa_nil))))) pss_nil)
      (pss_cons (ps_if (pt_cmpR op_eq (pe_fn (f__law_draw T) (hr.mono (by decide)) (by rfl) pass0 (pa_cons (pv 0) (pa_cons (pv 1) (pa_cons pe_int pa_nil)))) pe_int (nomark _)) (pss_one (ps_expr (pe_fn (f__law_spoil T 4) (hr.mono (by decide)) (by rfl) pass0 (pa_cons (pe_orE (pe_me0 (pe_ix ix_list (pv 2) (pv 6) (fun _ _ => rfl)) T.o_Keep (f_KeepK__let_go T) (hr.mono (by decide)) pass0) (pe_me0 (pe_ix ix_list (pv 2) (pv 6) (fun _ _ => rfl)) T.o_Store (f_Store__let_go T) (hr.mono (by decide)) pass0)) pa_nil)))) pss_nil)
      (pss_cons (ps_setLc (own := [("keep", 8)]) (g := gName 8) (tt := tYes) (i := 10) (by rfl) sc_law.nd rfl rfl (sw_true rfl rfl rfl (by decide +kernel)) (pi_list (pv 2)) (blkOk_by (own := [("keep", 8)]) (N := nm_law) (sc := defScope s_law) (by decide +kernel)) (fun _ _ _ _ _ => (pg_name (i := 8) sc_law.nd rfl (Or.inl rfl))) (fun _ _ _ _ _ => pts_nil) (fun _ _ _ _ _ => (pe_fn (f__law_copy T 4) (hr.mono (by decide)) (by rfl) pass0 (pa_cons (pe_fn (f__law_seen T) (hr.mono (by decide)) (by rfl) pass0 (pa_cons (pv 8) pa_nil)) pa_nil))))
      (pss_one (ps_for PassesOwn.never rfl (pi_range1 (by rfl) T.b_range (pa_cons pe_int pa_nil)) (pg_name (i := 11) sc_law.nd rfl (Or.inl rfl)) (pss_one (ps_if (pt_cmpR op_ne (pe_cmpR (op_eqD hr.units) (pe_ix ix_list (pv 10) (pv 11) (fun _ _ => rfl)) (pe_ix ix_list (pv 7) (pv 11) (fun _ _ => rfl)) (nomark _)) (pe_cmpR op_ne (pv 11) (pv 6) (nomark _)) (nomark _)) (pss_one (ps_ret pe_bl)) pss_nil)))))))))))))))))
      (pss_one (ps_ret (pe_cmpR (op_eqD hr.units) (pe_lc (own := [("keep", 8)]) (g := gName 8) (tt := tYes) (by rfl) sc_law.nd (pi_list (pv 2)) (blkOk_by (own := [("keep", 8)]) (N := nm_law) (sc := defScope s_law) (by decide +kernel)) (fun _ _ _ _ _ => (pg_name (i := 8) sc_law.nd rfl (Or.inl rfl))) (fun _ _ _ _ _ => pts_nil) (fun _ _ _ _ _ => (pe_fn (f__law_copy T 4) (hr.mono (by decide)) (by rfl) pass0 (pa_cons (pe_fn (f__law_seen T) (hr.mono (by decide)) (by rfl) pass0 (pa_cons (pv 8) pa_nil)) pa_nil)))) (pv 10) (nomark _))))))))), ?_⟩
    with_reducible refine seq_k fun K_ hK_ => ?_
    walk_at "ru"
    refine ⟨a, ns, rfl, hS, hl, fun H1 t s1 T1 ht => ?_⟩
    walk_at "ru"
    subst hK_
    first | with_reducible refine seq_k fun K_ hK_ => ?_ | skip
    walk_at "ru"
    intro r1 n_r1
    generalize hG_ : upd _ r1 _ = A1
    obtain ⟨a1, hr1⟩ := newF n_r1 hG_
    clear hG_
    intro p1 n_p1
    generalize hG_ : upd _ p1 _ = A2
    obtain ⟨a2, hp1⟩ := newF n_p1 hG_
    clear hG_
    intro t1 n_t1
    generalize hG_ : upd _ t1 _ = A3
    obtain ⟨a3, ht1⟩ := newF n_t1 hG_
    clear hG_
    have a23 := a2.trans a3
    refine keep_new9 (rules1 (rs := [3]) (a23 _ _ hr1) (a3 _ _ hp1) ht1 ⟨by decide, by decide⟩ (by decide) (by decide) (by decide) (by decide)) fun k0 S0 B0 b0 f0 O0 => ?_
    intro r2 n_r2
    generalize hG_ : upd _ r2 _ = C1
    obtain ⟨c1, hr2⟩ := newF n_r2 hG_
    clear hG_
    intro p2 n_p2
    generalize hG_ : upd _ p2 _ = C2
    obtain ⟨c2, hp2⟩ := newF n_p2 hG_
    clear hG_
    intro r3 n_r3
    generalize hG_ : upd _ r3 _ = C3
    obtain ⟨c3, hr3⟩ := newF n_r3 hG_
    clear hG_
    intro p3 n_p3
    generalize hG_ : upd _ p3 _ = C4
    obtain ⟨c4, hp3⟩ := newF n_p3 hG_
    clear hG_
    intro t2 n_t2
    generalize hG_ : upd _ t2 _ = C5
    obtain ⟨c5, ht2⟩ := newF n_t2 hG_
    clear hG_
    have c45 := c4.trans c5
    have c35 := c3.trans c45
    have c25 := c2.trans c35
    refine store_new (rules2 (rs := [2, 1]) (rs' := [7]) (c25 _ _ hr2) (c35 _ _ hp2) ⟨by decide, by decide⟩ (by decide) (by decide) (by decide) (by decide) (c45 _ _ hr3) (c5 _ _ hp3) ⟨by decide, by decide⟩ (by decide) (by decide) (by decide) (by decide) ht2) (d := 2) (by decide) (by decide) fun k1 S1 B1 b1 f1 O1 => ?_
    intro r4 n_r4
    generalize hG_ : upd _ r4 _ = D1
    obtain ⟨d1, hr4⟩ := newF n_r4 hG_
    clear hG_
    intro p4 n_p4
    generalize hG_ : upd _ p4 _ = D2
    obtain ⟨d2, hp4⟩ := newF n_p4 hG_
    clear hG_
    intro t3 n_t3
    generalize hG_ : upd _ t3 _ = D3
    obtain ⟨d3, ht3⟩ := newF n_t3 hG_
    clear hG_
    have d23 := d2.trans d3
    refine keep_new9 (rules1 (rs := [1]) (d23 _ _ hr4) (d3 _ _ hp4) ht3 ⟨by decide, by decide⟩ (by decide) (by decide) (by decide) (by decide)) fun k2 S2 B2 b2 f2 O2 => ?_
    intro r5 n_r5
    generalize hG_ : upd _ r5 _ = E1
    obtain ⟨e1, hr5⟩ := newF n_r5 hG_
    clear hG_
    intro p5 n_p5
    generalize hG_ : upd _ p5 _ = E2
    obtain ⟨e2, hp5⟩ := newF n_p5 hG_
    clear hG_
    intro t4 n_t4
    generalize hG_ : upd _ t4 _ = E3
    obtain ⟨e3, ht4⟩ := newF n_t4 hG_
    clear hG_
    have e23 := e2.trans e3
    refine store_new (rules1 (rs := [2]) (e23 _ _ hr5) (e3 _ _ hp5) ht4 ⟨by decide, by decide⟩ (by decide) (by decide) (by decide) (by decide)) (d := 4) (by decide) (by decide) fun k3 S3 B3 b3 f3 O3 => ?_
    intro kl n_kl
    generalize hG_ : upd _ kl _ = G0
    obtain ⟨g0, hkl⟩ := newF n_kl hG_
    clear hG_
    have b0' := b0.trans ((((c1.trans c2).trans c3).trans c4).trans c5)
    have b1' := b1.trans ((d1.trans d2).trans d3)
    have b2' := b2.trans ((e1.trans e2).trans e3)
    have sB0 : Same B0 G0 := ((((((c1.trans c2).trans c3).trans c4).trans c5).trans b1').trans b2').trans (b3.trans g0)
    have sB1 : Same B1 G0 := (((d1.trans d2).trans d3).trans b2').trans (b3.trans g0)
    have sB2 : Same B2 G0 := ((e1.trans e2).trans e3).trans (b3.trans g0)
    have sA : Same H1 A3 := (a1.trans a2).trans a3
    have sAll : Same H1 G0 := (sA.trans b0).trans sB0
    let os0 : Nat → O90 := four (.k ⟨[([3], 2)], [], [], none⟩) (.s ⟨[([2, 1], 3), ([7], 2)], [], [], none, 2⟩) (.k ⟨[([1], 4)], [], [], none⟩) (.s ⟨[([2], 2)], [], [], none, 4⟩)
    have al0 : ∀ b ∈ S0, ∃ o, B0 b = some o := fun b hb => ObjAt.al (R := []) (o := .k _) O0 hb
    have al1 : ∀ b ∈ S1, ∃ o, B1 b = some o := fun b hb => ObjAt.al (R := []) (o := .s _) O1 hb
    have al2 : ∀ b ∈ S2, ∃ o, B2 b = some o := fun b hb => ObjAt.al (R := []) (o := .k _) O2 hb
    have n01 : ∀ b ∈ S0, b ∉ S1 := fun b h h2 => by obtain ⟨o, ho⟩ := al0 b h; have := f1 b h2; rw [((((c1.trans c2).trans c3).trans c4).trans c5) _ _ ho] at this; cases this
    have n02 : ∀ b ∈ S0, b ∉ S2 := fun b h h2 => by obtain ⟨o, ho⟩ := al0 b h; have := f2 b h2; rw [((((((c1.trans c2).trans c3).trans c4).trans c5)).trans b1') _ _ ho] at this; cases this
    have n03 : ∀ b ∈ S0, b ∉ S3 := fun b h h2 => by obtain ⟨o, ho⟩ := al0 b h; have := f3 b h2; rw [(((((((c1.trans c2).trans c3).trans c4).trans c5)).trans b1').trans b2') _ _ ho] at this; cases this
    have n12 : ∀ b ∈ S1, b ∉ S2 := fun b h h2 => by obtain ⟨o, ho⟩ := al1 b h; have := f2 b h2; rw [((d1.trans d2).trans d3) _ _ ho] at this; cases this
    have n13 : ∀ b ∈ S1, b ∉ S3 := fun b h h2 => by obtain ⟨o, ho⟩ := al1 b h; have := f3 b h2; rw [(((d1.trans d2).trans d3).trans b2') _ _ ho] at this; cases this
    have n23 : ∀ b ∈ S2, b ∉ S3 := fun b h h2 => by obtain ⟨o, ho⟩ := al2 b h; have := f3 b h2; rw [((e1.trans e2).trans e3) _ _ ho] at this; cases this
    have F0 : ∀ b ∈ S0, H1 b = none := fun b hb => sA.free (f0 b hb)
    have F1 : ∀ b ∈ S1, H1 b = none := fun b hb => (sA.trans b0').free (f1 b hb)
    have F2 : ∀ b ∈ S2, H1 b = none := fun b hb => ((sA.trans b0').trans b1').free (f2 b hb)
    have F3 : ∀ b ∈ S3, H1 b = none := fun b hb => (((sA.trans b0').trans b1').trans b2').free (f3 b hb)
    obtain ⟨lt1, hlt1⟩ := T1.lst
    have tn : ∀ {S : List Addr}, (∀ b ∈ S, H1 b = none) → t ∉ S := fun hf hm => by rw [hf t hm] at hlt1; cases hlt1
    have q0 : Q4 K mg H G0 a t ns 0 (four k0 k1 k2 k3) (four S0 S1 S2 S3) [] os0 := by
      refine ⟨s1.trans sAll, hS, ht, T1.same sAll, fun j hj => ?_, fun i j hi hj hne b hb hm => ?_, fun j hj => ?_, fun j hj => ?_, by simp, fun _ _ _ _ => by simp, fun _ h => nomatch h⟩
      · rcases lt4 hj with rfl | rfl | rfl | rfl
        · exact KeepAt.same O0 sB0
        · exact StoreAt.same O1 sB1
        · exact KeepAt.same O2 sB2
        · exact StoreAt.same O3 g0
      · rcases lt4 hi with rfl | rfl | rfl | rfl <;> rcases lt4 hj with rfl | rfl | rfl | rfl
        · exact hne rfl
        · exact n01 b hb hm
        · exact n02 b hb hm
        · exact n03 b hb hm
        · exact n01 b hm hb
        · exact hne rfl
        · exact n12 b hb hm
        · exact n13 b hb hm
        · exact n02 b hm hb
        · exact n12 b hm hb
        · exact hne rfl
        · exact n23 b hb hm
        · exact n03 b hm hb
        · exact n13 b hm hb
        · exact n23 b hm hb
        · exact hne rfl
      · rcases lt4 hj with rfl | rfl | rfl | rfl
        · exact fun b hb => s1.free (F0 b hb)
        · exact fun b hb => s1.free (F1 b hb)
        · exact fun b hb => s1.free (F2 b hb)
        · exact fun b hb => s1.free (F3 b hb)
      · rcases lt4 hj with rfl | rfl | rfl | rfl
        · exact tn F0
        · exact tn F1
        · exact tn F2
        · exact tn F3
    have ok0 : ∀ j, j < 4 → Ok9 (-1) 0 (os0 j) ∧ isSt9 (os0 j) = isSt9 (os0 j) := fun j hj => by
      rcases lt4 hj with rfl | rfl | rfl | rfl
      all_goals exact ⟨⟨by decide, by decide, fun l h => (by cases h), Nat.le_refl _⟩, rfl⟩
    have hkl' : outH (OwnL t (four S0 S1 S2 S3)) G0 kl = some (.lst (kV (four k0 k1 k2 k3))) := by
      refine outH_at hkl fun hm => ?_
      rcases mem_OwnL.mp hm with z | ⟨j, hj, z⟩
      · obtain ⟨l, hl⟩ := q0.tn.lst
        have := T1.same ((((sA.trans b0').trans b1').trans b2').trans b3)
        exact this.some_ n_kl z
      · rcases lt4 hj with rfl | rfl | rfl | rfl
        · obtain ⟨o, ho⟩ := al0 kl z
          have := ((((((((c1.trans c2).trans c3).trans c4).trans c5)).trans b1').trans b2').trans b3) _ _ ho
          rw [n_kl] at this; cases this
        · obtain ⟨o, ho⟩ := al1 kl z
          have := ((((d1.trans d2).trans d3).trans b2').trans b3) _ _ ho
          rw [n_kl] at this; cases this
        · obtain ⟨o, ho⟩ := al2 kl z
          have := (((e1.trans e2).trans e3).trans b3) _ _ ho
          rw [n_kl] at this; cases this
        · obtain ⟨o, ho⟩ := ObjAt.al (R := []) (o := .s _) O3 z
          rw [n_kl] at ho; cases ho
    clear hr1 hp1 ht1 hr2 hp2 hr3 hp3 ht2 hr4 hp4 ht3 hr5 hp5 ht4 a1 a2 a3 c1 c2 c3 c4 c5 d1 d2 d3 e1 e2 e3 a23 c45 c35 c25 d23 e23 b0 b1 b2 b3 b0' b1' b2' sB0 sB1 sB2 al0 al1 al2 n01 n02 n03 n12 n13 n23 F0 F1 F2 F3 f0 f1 f2 f3 O0 O1 O2 O3 tn sA sAll hlt1 g0
    walk_at "ru"
    subst hK_
    first | with_reducible refine seq_k fun K_ hK_ => ?_ | skip
    walk_at "ru"
    walk_at "ru"
    subst hK_
    first | with_reducible refine seq_k fun K_ hK_ => ?_ | skip
    walk_at "ru"
    intro td ntd
    refine ⟨upd_same, kvsT [("a", 1)], rfl, by decide, ?_⟩
    generalize hG_ : upd (upd G0 td _) td _ = G1
    have g1 : Same G0 G1 := fun b o h => by rw [← hG_, upd_ne (ne_of_none h ntd), upd_ne (ne_of_none h ntd)]; exact h
    have htd : G1 td = some (.dK (kvsT [("a", 1)])) := by rw [← hG_]; exact upd_same
    clear hG_
    have q1 := q0.same g1
    have fr1 := fr_new (E := OwnL t (four S0 S1 S2 S3)) g1
    have htd' := outH_at htd (q0.outs ntd).1
    have hkl1 := fr1 _ _ hkl'
    walk_at "ru"
    subst hK_
    first | with_reducible refine seq_k fun K_ hK_ => ?_ | skip
    walk_at "ru"
    refine ⟨a, t, ns, 0, 16, rfl, q1.tn, by omega, by decide, by decide, fun dn G2 d0 d16 T2 b2 => ?_⟩
    have q2 := q1.town b2 T2
    have fr2 := q1.fr_town b2
    refine ⟨dn, rfl, by omega, by omega, ?_⟩
    refine for_it walk_range (iv9 K mg H a t kl ns 1 (four k0 k1 k2 k3) os0) ⟨0, td, [("a", 1)], _, _, _, _, _, _, _, 1, _, _, _, rfl, by omega, by omega, by omega, q2, fun j hj => ⟨?_, (ok0 j hj).2⟩, fr2 _ _ hkl1, fr2 _ _ htd', ?_, by decide, fun z => by omega⟩ (fun _ _ _ _ _ => trivial) (fun i x σ L1 L2 hi iv hy => ?_) (fun σ L1 iv => ?_)
    · have := (ok0 j hj).1
      exact ⟨this.ru, this.rn, fun l h => by have := this.ln l h; omega, this.len⟩
    · exact ⟨by decide, by decide +kernel, by decide⟩
    · obtain ⟨n, td, tb, y5, y6, y7, y8, y9, y10, y11, c, Ss, R, os, rfl, hc, hn0, hn, qA, okA, kA, tA, okt, l20, smA⟩ := iv
      obtain ⟨rfl, rfl⟩ := hy
      clear q0 q1 q2 fr1 fr2 hkl hkl1 hkl' htd htd' T1 T2 g1 b2
      have hi' : i < 19 := by omega
      walk_at "ru"
      with_reducible refine seq_k fun K_ hK_ => ?_
      walk_at "ru"
      refine ⟨a, t, ns, c, 4, rfl, qA.tn, by omega, by decide, by decide, fun at_ M1 at0 at4 TM bM => ?_⟩
      have qB := qA.town bM TM
      have frB := qA.fr_town bM
      have kB := frB _ _ kA
      have tB := frB _ _ tA
      obtain ⟨j, rfl⟩ : ∃ j : Nat, at_ = (j : Int) := ⟨at_.toNat, by omega⟩
      have hj : j < 4 := by omega
      clear qA frB kA tA smA bM TM
      walk_at "ru"
      subst hK_
      first | with_reducible refine seq_k fun K_ hK_ => ?_ | skip
      walk_at "ru"
      refine ⟨⟨_, sqL (subH_le _ _ kB)⟩, fun D hD => ?_⟩
      refine lc_list (K := K) (a := kl) (xs := kV (four k0 k1 k2 k3)) (CtL M1 D 2 ((List.range 4).map fun j => seen9 (os j))) (CtL.init hD) (fun _ _ _ p => sqL (p.same _ _ (subH_le _ _ kB))) (fun j2 x HE hx p => ?_) (fun HE pE => ?_)
      · obtain ⟨h4, rfl⟩ := kV_get hx
        walk_at "ru"
        exact copy9 (qB.same p.same) h4 fun y H4 s4 c4 => p.push hD (by simp) (all_get h4) s4 c4
      have dueC : Ct (outH (OwnL t Ss) HE) 3 (.ref D) (all9 os) := (pE.fin hD (by simp) (by simp)).same (newH_out qB.alS)
      have qC := qB.same pE.same
      have frC := fr_new (E := OwnL t Ss) pE.same
      have kC := frC _ _ kB
      have tC := frC _ _ tB
      clear qB frC kB tB pE
      walk_at "ru"
      subst hK_
      first | with_reducible refine seq_k fun K_ hK_ => ?_ | skip
      walk_at "ru"
      refine ⟨⟨_, sqL (subH_le _ _ kC)⟩, ?_⟩
      refine for_it (walk_list (xs := kV (four k0 k1 k2 k3))) (iv9s HE [some (.ref a), some (.ref t), some (.ref kl), some (.int n), some (.ref td), some (.int (0 + ↑i)), some (.int ↑j), some (.ref D)] [y9, y10, y11]) ⟨⟨y8, rfl⟩, Same.refl _⟩ (fun i2 σ HG _ iv => sqL (iv.2 _ _ (subH_le _ _ kC))) (fun i2 x σ HG HG2 hi2 iv hy => ?_) (fun σ HG iv => ?_)
      · obtain ⟨⟨y, rfl⟩, sG⟩ := iv
        obtain ⟨rfl, hy⟩ := hy
        obtain ⟨h4, rfl⟩ := kV_get hy
        walk_at "ru"
        exact spoil9 (qC.same sG) h4 fun H4 s4 => ⟨⟨_, rfl⟩, sG.trans s4⟩
      obtain ⟨⟨y8, rfl⟩, sG⟩ := iv
      have qD := qC.same sG
      have frD := fr_new (E := OwnL t Ss) sG
      have kD := frD _ _ kC
      have tD := frD _ _ tC
      have dueD := dueC.same frD
      clear qC kC tC dueC sG
      walk_at "ru"
      subst hK_
      first | with_reducible refine seq_k fun K_ hK_ => ?_ | skip
      walk_at "ru"
      refine ⟨a, t, ns, _, 3, rfl, qD.tn, by omega, by decide, by decide, fun dn2 M2 e0 e3 TM bM => ?_⟩
      obtain ⟨nt, hnt⟩ : ∃ nt : Int, nt = n + 1 + dn2 := ⟨_, rfl⟩
      refine ⟨dn2, rfl, ?_⟩
      rw [← hnt]
      have qE := qD.town bM TM
      have frE := qD.fr_town bM
      have kE := frE _ _ kD
      have tE := frE _ _ tD
      have dueE := dueD.same frE
      clear qD kD tD dueD bM TM
      walk_at "ru"
      subst hK_
      first | with_reducible refine seq_k fun K_ hK_ => ?_ | skip
      walk_at "ru"
      refine ⟨a, t, td, ns, _, tb, rfl, qE.tn, by omega, subH_le _ _ tE, okt, l20, fun td2 tb2 c3 M3 ntd2 htd2t htd2 okt2 l202 hc3 TM bM => ?_⟩
      have qF := qE.town bM TM
      have frF := qE.fr_town bM
      have kF := frF _ _ kE
      have dueF := dueE.same frF
      have tF := outH_at htd2 (S := OwnL t Ss) (qE.outs ntd2).1
      clear qE kE tE dueE bM TM htd2
      walk_at "ru"
      subst hK_
      first | with_reducible refine seq_k fun K_ hK_ => ?_ | skip
      walk_at "ru"
      refine ⟨_, .inl (subH_le _ _ tF), ?_⟩
      intro g hg
      generalize hG_ : upd M3 g _ = N0
      obtain ⟨sg, hg0⟩ := newF hg hG_
      clear hG_
      have hgo := qF.outs hg
      have qG := qF.same sg
      have frG := fr_add (E := OwnL t Ss) sg hg
      have kG := frG _ _ kF
      have tG := frG _ _ tF
      have dueG := dueF.same frG
      clear kF tF dueF qF sg
      walk_at "ru"
      subst hK_
      first | with_reducible refine seq_k fun K_ hK_ => ?_ | skip
      walk_at "ru"
      have go1 : ∀ N1 S' R' o', Q4 K mg H N1 a t ns c3 (four k0 k1 k2 k3) (putJ Ss j S') R' (putJ os j o') → Same (outH (g :: OwnL t Ss) N0) (outH (g :: OwnL t (putJ Ss j S')) N1) → Ok9 nt (i + 1) o' → o'.kv.ns = (os j).kv.ns ++ [nt] → isSt9 o' = isSt9 (os j) → o'.kv.ps = (os j).kv.ps → N1 g = some (.dK (kvsT tb2)) → g ∉ OwnL t (putJ Ss j S') ∧ g ∉ R' ∧ H g = none →
          (∀ v, o' = .s v → ∃ r : Row, v.rows[v.rows.length - 1]? = some r ∧ r.n = nt ∧ r.t = tb2) → K_ [some (.ref a), some (.ref t), some (.ref kl), some (.int nt), some (.ref td2), some (.int (0 + ↑i)), some (.int ↑j), some (.ref D), y8, some (.ref g), y10, y11] N1 := by
        intro N1 S' R' o' qH frH okH nsH isH psH hgH hgo' rowH
        have lj := (qG.ob j hj).kp
        have oj := (okA j hj).1
        have hp9 : nt ∉ o'.kv.ps := fun hm => by
          rw [psH] at hm
          obtain ⟨l, h1, h2⟩ := lj.1 nt (lj.2.1 nt hm)
          have := oj.ln l h1
          omega
        have kH := frH _ _ kG
        have tH := frH _ _ tG
        have dueH := dueG.same frH
        walk_at "ru"
        subst hK_
        first | with_reducible refine seq_k fun K_ hK_ => ?_ | skip
        walk_at "ru"
        refine ⟨_, DPut.k (k := Sum.inr "a") hgH (szl (by rw [kvsT_len]; omega)), ?_⟩
        generalize hG_ : upd N1 g _ = N2
        have bg : But g N1 N2 := by rw [← hG_]; exact But.upd
        clear hG_
        have stg : Step [g] N1 N2 := ⟨fun b o h n => bg b o h (fun e => n (by simp [e])), fun b xs h => bg b _ h (ne_of h hgH (by intro z; cases z))⟩
        have qI := qH.step stg fun b hb => by rw [List.mem_singleton.mp hb]; exact hgo'
        have frI : Same (outH (g :: OwnL t (putJ Ss j S')) N1) (outH (OwnL t (putJ Ss j S')) N2) := ((Step.more stg (T := g :: OwnL t (putJ Ss j S')) fun b hb => by rw [List.mem_singleton.mp hb]; simp).out Own.refl).trans fr_drop
        have w2 : W9 K mg H a t kl td2 D ns (four k0 k1 k2 k3) Ss os j nt i tb2 (fun l => ∃ X, l = X ++ [nt]) (fun l => nt ∉ l) c3 N2 :=
          ⟨S', R', o', qI, frI _ _ kH, frI _ _ tH, dueH.same frI, okH, ⟨_, nsH⟩, hp9, isH⟩
        clear kH tH dueH stg frI
        walk_at "ru"
        subst hK_
        first | with_reducible refine seq_k fun K_ hK_ => ?_ | skip
        walk_at "ru"
        have go2 : ∀ N3, W9 K mg H a t kl td2 D ns (four k0 k1 k2 k3) Ss os j nt i tb2 (fun l => ∃ X, l = X ++ [nt]) (fun l => nt ∉ l) c3 N3 → K_ [some (.ref a), some (.ref t), some (.ref kl), some (.int nt), some (.ref td2), some (.int (0 + ↑i)), some (.int ↑j), some (.ref D), y8, some (.ref g), y10, y11] N3 := by
          intro N3 w3
          walk_at "ru"
          subst hK_
          first | with_reducible refine seq_k fun K_ hK_ => ?_ | skip
          walk_at "ru"
          refine ⟨a, t, ns, c3, 3, rfl, w3.tn, by omega, by decide, by decide, fun d1 N4 _ _ T4 b4 => ?_⟩
          have w4 := w3.town b4 T4
          clear w2 w3 b4 T4
          have go3 : ∀ N5, W9 K mg H a t kl td2 D ns (four k0 k1 k2 k3) Ss os j nt i tb2 (fun l => ∃ X, l = X ++ [nt]) (fun _ => True) (c3 + 1) N5 → K_ [some (.ref a), some (.ref t), some (.ref kl), some (.int nt), some (.ref td2), some (.int (0 + ↑i)), some (.int ↑j), some (.ref D), y8, some (.ref g), y10, y11] N5 := by
            intro N5 w5
            walk_at "ru"
            subst hK_
            first | with_reducible refine seq_k fun K_ hK_ => ?_ | skip
            walk_at "ru"
            refine ⟨a, t, ns, c3 + 1, 3, rfl, w5.tn, by omega, by decide, by decide, fun d2 N6 _ _ T6 b6 => ?_⟩
            have w6 := w5.town b6 T6
            clear w4 w5 b6 T6
            have go4 : ∀ N7, W9 K mg H a t kl td2 D ns (four k0 k1 k2 k3) Ss os j nt i tb2 (fun l => nt ∈ l) (fun _ => True) (c3 + 1 + 1) N7 → K_ [some (.ref a), some (.ref t), some (.ref kl), some (.int nt), some (.ref td2), some (.int (0 + ↑i)), some (.int ↑j), some (.ref D), y8, some (.ref g), y10, y11] N7 := by
              intro N7 w7
              walk_at "ru"
              subst hK_
              first | with_reducible refine seq_k fun K_ hK_ => ?_ | skip
              walk_at "ru"
              have kl7 := w7.atK
              obtain ⟨S7, R7, o7, q7, k7, t7, due7, ok7, m7, _, is7⟩ := w7
              refine ⟨⟨_, kl7⟩, fun D2 hD2 => ?_⟩
              refine lc_list (K := K) (a := kl) (xs := kV (four k0 k1 k2 k3)) (CtL N7 D2 2 ((List.range 4).map fun j2 => seen9 (putJ os j o7 j2))) (CtL.init hD2) (fun _ _ _ p => sqL (p.same _ _ (subH_le _ _ k7))) (fun j2 x HE hx p => ?_) (fun HE8 pE => ?_)
              · obtain ⟨h4, rfl⟩ := kV_get hx
                walk_at "ru"
                exact copy9 (q7.same p.same) h4 fun y H4 s4 c4 => p.push hD2 (by simp) (all_get h4) s4 c4
              have fr8 := fr_new (E := OwnL t (putJ Ss j S7)) pE.same
              have some8 : Ct (outH (OwnL t (putJ Ss j S7)) HE8) 3 (.ref D2) (all9 (putJ os j o7)) := (pE.fin hD2 (by simp) (by simp)).same (newH_out q7.alS)
              have q8 := q7.same pE.same
              have k8 := fr8 _ _ k7
              have t8 := fr8 _ _ t7
              have due8 := due7.same fr8
              clear q7 k7 t7 due7 pE kl7
              walk_at "ru"
              subst hK_
              first | with_reducible refine seq_k fun K_ hK_ => ?_ | skip
              walk_at "ru"
              obtain ⟨xsD, hxD, lD, cD⟩ := ct_list due8
              obtain ⟨xsS, hxS, lS, cS⟩ := ct_list some8
              refine ⟨by decide, by decide, ?_⟩
              refine for_it walk_range (iv9s HE8 [some (.ref a), some (.ref t), some (.ref kl), some (.int nt), some (.ref td2), some (.int (0 + ↑i)), some (.int ↑j), some (.ref D), y8, some (.ref g), some (.ref D2)] []) ⟨⟨y11, rfl⟩, Same.refl _⟩ (fun _ _ _ _ _ => trivial) (fun j2 x σ L3 L4 h4 iv hy => ?_) (fun σ L3 iv => ?_)
              · obtain ⟨⟨y, rfl⟩, sL⟩ := iv
                obtain ⟨rfl, rfl⟩ := hy
                have h4 : j2 < 4 := h4
                obtain ⟨yS, hyS⟩ : ∃ y, xsS[j2]? = some y := ⟨_, List.getElem?_eq_getElem (by rw [lS]; simpa using h4)⟩
                obtain ⟨yD, hyD⟩ : ∃ y, xsD[j2]? = some y := ⟨_, List.getElem?_eq_getElem (by rw [lD]; simpa using h4)⟩
                have cS' := ((cS j2 yS _ hyS (all_get h4)).same subH_le).same sL
                have cD' := ((cD j2 yD _ hyD (all_get h4)).same subH_le).same sL
                have gS := gd_seen9 (q8.ob j2 h4)
                have gD := gd_seen9 (qG.ob j2 h4)
                walk_at "ru"
                refine ixL (j := j2) (sqL (sL _ _ (subH_le _ _ hxS))) (by omega) hyS ?_
                refine ixL (j := j2) (sqL (sL _ _ (subH_le _ _ hxD))) (by omega) hyD ?_
                refine eqD cS'.dp cD'.dp gS gD (fun e => ?_) (fun e => ?_)
                · have hne : j2 ≠ j := fun z => by
                    subst z
                    rw [putJ_at] at e
                    have e2 := seen9_ns e
                    rw [e2] at m7
                    obtain ⟨l, h1, h2⟩ := lj.1 nt m7
                    have := oj.ln l h1
                    omega
                  refine ⟨rfl, ?_⟩
                  rw [decide_eq_false (by omega), if_neg (by simp)]
                  exact ⟨⟨_, rfl⟩, sL⟩
                · have heq : j2 = j := Classical.byContradiction fun z => e (by rw [putJ_ne z])
                  refine ⟨rfl, ?_⟩
                  rw [decide_eq_true (by omega), if_neg (by simp)]
                  exact ⟨⟨_, rfl⟩, sL⟩
              · obtain ⟨⟨y, rfl⟩, sL⟩ := iv
                have frL := fr_new (E := OwnL t (putJ Ss j S7)) sL
                refine ⟨nt, td2, tb2, _, _, _, _, _, _, _, c3 + 1 + 1, _, R7, _, rfl, by omega, by omega, by omega, q8.same sL, fun j2 h4 => ?_, frL _ _ k8, frL _ _ t8, okt2, l202, fun _ => ⟨D2, rfl, some8.same frL⟩⟩
                by_cases e : j2 = j
                · subst e
                  rw [putJ_at]
                  exact ⟨ok7, by rw [is7, (okA j2 hj).2]⟩
                · rw [putJ_ne e]
                  obtain ⟨o1, o2⟩ := okA j2 h4
                  exact ⟨⟨o1.ru, o1.rn, fun l h => by have := o1.ln l h; omega, by have := o1.len; omega⟩, o2⟩
            refine ⟨rfl, ?_⟩
            refine ite2 (fun c => ?_) (fun c => go4 N6 (w6.imp (fun l h => by obtain ⟨X, rfl⟩ := h; simp) fun _ h => h))
            exact Or.imp (fun ⟨dx, fs, h1, h2, h3⟩ => ixL w6.atK rfl (kV_at hj) ⟨_, rfl, dx, fs, h1, h2, h3⟩) (fun ⟨dx, fs, h1, h2, h3⟩ => ixL w6.atK rfl (kV_at hj) ⟨_, rfl, dx, fs, h1, h2, h3⟩) (w6.go hj go4)
          refine ⟨rfl, ?_⟩
          refine ite2 (fun c => ?_) (fun c => go3 N4 (w4.imp (fun _ h => h) fun _ _ => trivial))
          exact Or.imp (fun ⟨dx, fs, h1, h2, h3⟩ => ixL w4.atK rfl (kV_at hj) ⟨_, rfl, dx, fs, h1, h2, h3⟩) (fun ⟨dx, fs, h1, h2, h3⟩ => ixL w4.atK rfl (kV_at hj) ⟨_, rfl, dx, fs, h1, h2, h3⟩) (w4.pin hj go3)
        refine ⟨by decide, ?_⟩
        refine ite2 (fun c => ?_) (fun c => go2 N2 w2)
        cases o' with
        | k v =>
          rw [(okA j hj).2] at isH
          rcases lt4 hj with rfl | rfl | rfl | rfl
          · cases c
          · cases isH
          · cases c
          · cases isH
        | s v =>
          obtain ⟨r, hr9, en, et⟩ := rowH v rfl
          have hO := qI.ob j hj
          rw [putJ_at, putJ_at] at hO
          have hS2 : StoreAt K mg N2 (four k0 k1 k2 k3 j) S' R' v := hO
          obtain ⟨dx, _, _, _, _, _, _, hk⟩ := store_at hS2
          refine ixL w2.atK rfl (kV_at hj) ⟨_, rfl, dx, _, hk, rfl, ?_⟩
          refine store_state9 hS2 hr9 en fun p1 N3 s3 hp1 => ?_
          have w3 := w2.same s3
          refine state_new w3.atT okt2 l202 fun p2 N4 s4 np2 hp2 => ?_
          refine ne_same (hp1.st.same s4) hp2 (fun _ => by rw [et]) ?_
          refine ⟨_, rfl, ?_⟩
          rw [if_neg Bool.false_ne_true]
          exact go2 N4 (w3.same s4)
      refine ⟨by decide, ?_⟩
      have okj := (okA j hj).1
      have isj : isSt9 (os j) = decide ((j : Int) % 2 ≠ 0) := by
        rw [(okA j hj).2]
        rcases lt4 hj with rfl | rfl | rfl | rfl <;> rfl
      have nt0 : 0 ≤ nt := by omega
      have nt9 : nt ≤ 1000000000 := by omega
      have nlt : n < nt := by omega
      refine ite2 (fun c => ?_) (fun c => ?_)
      · rw [decide_eq_false (by simpa using c)] at isj
        cases eo : os j with
        | s v => rw [eo] at isj; cases isj
        | k v =>
          have hO := qG.ob j hj
          rw [eo] at hO
          have hK : KeepAt K mg "Keep" [] N0 (four k0 k1 k2 k3 j) (Ss j) v := hO
          rw [eo] at okj
          obtain ⟨dx, _, _, _, _, hk⟩ := keep_atK hK
          refine ixL (sqL (subH_le _ _ kG)) rfl (kV_at hj) ⟨_, rfl, dx, _, hk, rfl, ?_⟩
          refine keep_take9 hK nt0 nt9 (fun l h => by have := okj.ln l h; omega) (by have h1 := okj.len; have h2 : v.ns.length ≤ i := h1; omega) fun N1 st hK' => ?_
          obtain ⟨qH, frH⟩ := qG.deed (o' := .k { v with ns := v.ns ++ [nt], last := some nt }) hj st Own.refl hK'
          have hgk : ∀ o, N0 g = some o → N1 g = some o := fun o h => subH_le _ _ (frH _ _ (outH_at h hgo.1))
          have gOut : g ∉ OwnL t (putJ Ss j (Ss j)) := fun hm => by
            rcases mem_OwnL.mp hm with z | ⟨i2, h2, z⟩
            · exact hgo.1 (mem_OwnL.mpr (.inl z))
            · refine hgo.1 (mem_OwnL.mpr (.inr ⟨i2, h2, ?_⟩))
              by_cases e : i2 = j
              · subst e; rw [putJ_at] at z; exact z
              · rw [putJ_ne e] at z; exact z
          refine go1 N1 (Ss j) R _ qH (fr_cons frH hgk) ⟨okj.ru, okj.rn, fun l h => ?_, ?_⟩ (by rw [eo]; rfl) (by rw [eo]; rfl) (by rw [eo]; rfl) (hgk _ hg0) ⟨gOut, hgo.2⟩ (fun v2 e => nomatch e)
          · cases h; exact Int.le_refl _
          · show (v.ns ++ [nt]).length ≤ _
            have h1 := okj.len
            have h2 : v.ns.length ≤ i := h1
            rw [List.length_append]
            simp
            omega
      · rw [decide_eq_true (by simpa using c)] at isj
        cases eo : os j with
        | k v => rw [eo] at isj; cases isj
        | s v =>
          have hO := qG.ob j hj
          rw [eo] at okj hO
          have hS1 : StoreAt K mg N0 (four k0 k1 k2 k3 j) (Ss j) R v := hO
          obtain ⟨dx, _, _, _, _, _, _, hk⟩ := store_at hS1
          refine ixL (sqL (subH_le _ _ kG)) rfl (kV_at hj) ⟨_, rfl, dx, _, hk, rfl, ?_⟩
          refine state_newF hg0 okt2 l202 fun p dxp e N1 s1' np ne hp he => ?_
          have qG1 := qG.same s1'
          have op := qG.outs np
          have oe := qG.outs ne
          have hne : ∀ b ∈ p :: e :: R, b ∉ OwnL t Ss := fun b hb => by
            rcases List.mem_cons.mp hb with z | z
            · rw [z]; exact op.1
            · rcases List.mem_cons.mp z with z | z
              · rw [z]; exact oe.1
              · exact qG.notR b z
          have hal : ∀ b ∈ p :: e :: R, ∃ o, N1 b = some o := fun b hb => by
            rcases List.mem_cons.mp hb with z | z
            · rw [z]; exact ⟨_, hp⟩
            · rcases List.mem_cons.mp z with z | z
              · rw [z]; exact ⟨_, he⟩
              · exact qG1.rl b z
          have qG2 := qG1.more (R' := p :: e :: R) (fun b hb => by simp [hb]) hne hal
          have hO2 := qG2.ob j hj
          rw [eo] at hO2
          have hS2 : StoreAt K mg N1 (four k0 k1 k2 k3 j) (Ss j) (p :: e :: R) v := hO2
          have hlen : v.rows.length ≤ i := by
            have h1 := okj.len
            have h2 : (v.rows.map Row.n).length ≤ i := h1
            rw [List.length_map] at h2
            exact h2
          refine store_takeQ hS2 (p := p) (t := tb2) ⟨⟨dxp, e, by simp, by simp, hp, he⟩, okt2, l202⟩ nt0 nt9 (fun l h => by have := okj.ln l h; omega) (by omega) fun z N2 st hS3 => ?_
          obtain ⟨qH, frH⟩ := qG2.deed (o' := .s (takeS v nt tb2)) hj st Own.refl hS3
          have gRe : g ∉ p :: e :: R := fun hm => by
            rcases List.mem_cons.mp hm with z | z
            · rw [z] at hg0; rw [np] at hg0; cases hg0
            · rcases List.mem_cons.mp z with z | z
              · rw [z] at hg0; rw [ne] at hg0; cases hg0
              · exact hgo.2.1 z
          have hgk : ∀ o, N1 g = some o → N2 g = some o := fun o h => subH_le _ _ (frH _ _ (outH_at h hgo.1))
          have gOut : g ∉ OwnL t (putJ Ss j (Ss j)) := fun hm => by
            rcases mem_OwnL.mp hm with z | ⟨i2, h2, z⟩
            · exact hgo.1 (mem_OwnL.mpr (.inl z))
            · refine hgo.1 (mem_OwnL.mpr (.inr ⟨i2, h2, ?_⟩))
              by_cases e : i2 = j
              · subst e; rw [putJ_at] at z; exact z
              · rw [putJ_ne e] at z; exact z
          refine go1 N2 (Ss j) _ _ qH ((fr_new s1').trans (fr_cons frH hgk)) ⟨okj.ru, okj.rn, fun l h => ?_, ?_⟩ ?_ (by rw [eo]; rfl) (by rw [eo]; rfl) (hgk _ (s1' _ _ hg0)) ⟨gOut, gRe, hgo.2.2⟩ (fun v2 ev => ?_)
          · have h : some nt = some l := h
            cases h; exact Int.le_refl _
          · show ((v.rows ++ [(⟨nt, wNew v tb2, tb2⟩ : Row)]).map Row.n).length ≤ _
            rw [List.length_map, List.length_append]
            simp
            omega
          · rw [eo]
            show ((v.rows ++ [(⟨nt, wNew v tb2, tb2⟩ : Row)]).map Row.n) = v.rows.map Row.n ++ [nt]
            rw [List.map_append]
            rfl
          · cases ev
            refine ⟨⟨nt, wNew v tb2, tb2⟩, ?_, rfl, rfl⟩
            show (v.rows ++ [(⟨nt, wNew v tb2, tb2⟩ : Row)])[(v.rows ++ [(⟨nt, wNew v tb2, tb2⟩ : Row)]).length - 1]? = _
            simp
    · obtain ⟨n, td, tb, y5, y6, y7, y8, y9, y10, y11, c, Ss, R, os, rfl, hc, hn0, hn, qA, okA, kA, tA, okt, l20, smA⟩ := iv
      clear q0 q1 q2 fr1 fr2 hkl hkl1 hkl' htd htd' T1 T2 g1 b2
      obtain ⟨sm, rfl, cSm⟩ := smA (by omega)
      walk_at "ru"
      subst hK_
      first | with_reducible refine seq_k fun K_ hK_ => ?_ | skip
      walk_at "ru"
      refine ⟨⟨_, sqL (subH_le _ _ kA)⟩, fun D hD => ?_⟩
      refine lc_list (K := K) (a := kl) (xs := kV (four k0 k1 k2 k3)) (CtL L1 D 2 ((List.range 4).map fun j => seen9 (os j))) (CtL.init hD) (fun _ _ _ p => sqL (p.same _ _ (subH_le _ _ kA))) (fun j2 x HE hx p => ?_) (fun HE pE => ?_)
      · obtain ⟨h4, rfl⟩ := kV_get hx
        walk_at "ru"
        exact copy9 (qA.same p.same) h4 fun y H4 s4 c4 => p.push hD (by simp) (all_get h4) s4 c4
      have dueC : Ct (outH (OwnL t Ss) HE) 3 (.ref D) (all9 os) := (pE.fin hD (by simp) (by simp)).same (newH_out qA.alS)
      have smC := cSm.same (fr_new (E := OwnL t Ss) pE.same)
      have gA : gd 4 (all9 os) = true := gd_flatL fun x hx => by
        obtain ⟨j, hj, rfl⟩ := List.mem_map.mp hx
        exact gd_seen9 (qA.ob j (List.mem_range.mp hj))
      exact eqD ((dueC.same subH_le).dp) ((smC.same subH_le).dp) gA gA (fun _ => q _) (fun z => absurd rfl z)
end
end Nk
namespace Nk
open PySem L2 PySem.Spec PyProof.Rows
theorem hTxt {K : PySem.W.Frag} {h : Heap} {mg : Str → Option Value} (X : K.In h) (G : h.Ns mainGlobals mg) (c : hSays hFa hFn K) : Txt K mg where
  d_is_number := by
    obtain ⟨fd, F⟩ := c.def_ 0 (d := hD_g_is_number) rfl
    exact nfa_df (c.fact 0) F X G (fun _ _ _ _ _ _ us hl => match us, hl with | [_, _, _], _ => rfl)
  d_is_rounds := by
    obtain ⟨fd, F⟩ := c.def_ 1 (d := hD_g_is_rounds) rfl
    exact nfa_df (c.fact 1) F X G (fun _ _ _ _ _ _ us hl => match us, hl with | [_], _ => rfl)
  d_look_night := by
    obtain ⟨fd, F⟩ := c.def_ 2 (d := hD_g_look_night) rfl
    exact nfa_df (c.fact 2) F X G (fun _ _ _ _ _ _ us hl => match us, hl with | [_], _ => rfl)
  d_number_of := by
    obtain ⟨fd, F⟩ := c.def_ 3 (d := hD_g_number_of) rfl
    exact nfa_df (c.fact 3) F X G (fun _ _ _ _ _ _ us hl => match us, hl with | [_, _], _ => rfl)
  d_is_rule := by
    obtain ⟨fd, F⟩ := c.def_ 4 (d := hD_g_is_rule) rfl
    exact nfa_df (c.fact 4) F X G (fun _ _ _ _ _ _ us hl => match us, hl with | [_], _ => rfl)
  d_look_rules := by
    obtain ⟨fd, F⟩ := c.def_ 5 (d := hD_g_look_rules) rfl
    exact nfa_df (c.fact 5) F X G (fun _ _ _ _ _ _ us hl => match us, hl with | [_], _ => rfl)
  d_look_nights := by
    obtain ⟨fd, F⟩ := c.def_ 6 (d := hD_g_look_nights) rfl
    exact nfa_df (c.fact 6) F X G (fun _ _ _ _ _ _ us hl => match us, hl with | [_], _ => rfl)
  d_kept_by := by
    obtain ⟨fd, F⟩ := c.def_ 7 (d := hD_g_kept_by) rfl
    exact nfa_df (c.fact 7) F X G (fun _ _ _ _ _ _ us hl => match us, hl with | [_, _], _ => rfl)
  d_kept_of := by
    obtain ⟨fd, F⟩ := c.def_ 8 (d := hD_g_kept_of) rfl
    exact nfa_df (c.fact 8) F X G (fun _ _ _ _ _ _ us hl => match us, hl with | [_, _], _ => rfl)
  d_look_taken := by
    obtain ⟨fd, F⟩ := c.def_ 9 (d := hD_g_look_taken) rfl
    exact nfa_df (c.fact 9) F X G (fun _ _ _ _ _ _ us hl => match us, hl with | [_, _], _ => rfl)
  d_look_held := by
    obtain ⟨fd, F⟩ := c.def_ 10 (d := hD_g_look_held) rfl
    exact nfa_df (c.fact 10) F X G (fun _ _ _ _ _ _ us hl => match us, hl with | [_, _], _ => rfl)
  d_gone_of := by
    obtain ⟨fd, F⟩ := c.def_ 11 (d := hD_g_gone_of) rfl
    exact nfa_df (c.fact 11) F X G (fun _ _ _ _ _ _ us hl => match us, hl with | [_], _ => rfl)
  d_is_name := by
    obtain ⟨fd, F⟩ := c.def_ 12 (d := hD_g_is_name) rfl
    exact nfa_df (c.fact 12) F X G (fun _ _ _ _ _ _ us hl => match us, hl with | [_], _ => rfl)
  d_is_state := by
    obtain ⟨fd, F⟩ := c.def_ 13 (d := hD_g_is_state) rfl
    exact nfa_df (c.fact 13) F X G (fun _ _ _ _ _ _ us hl => match us, hl with | [_], _ => rfl)
  d_part_of := by
    obtain ⟨fd, F⟩ := c.def_ 14 (d := hD_g_part_of) rfl
    exact nfa_df (c.fact 14) F X G (fun _ _ _ _ _ _ us hl => match us, hl with | [_, _], _ => rfl)
  d_copy_of := by
    obtain ⟨fd, F⟩ := c.def_ 15 (d := hD_g_copy_of) rfl
    exact nfa_df (c.fact 15) F X G (fun _ _ _ _ _ _ us hl => match us, hl with | [_, _], _ => rfl)
  d_chain_of := by
    obtain ⟨fd, F⟩ := c.def_ 16 (d := hD_g_chain_of) rfl
    exact nfa_df (c.fact 16) F X G (fun _ _ _ _ _ _ us hl => match us, hl with | [_, _], _ => rfl)
  d_without := by
    obtain ⟨fd, F⟩ := c.def_ 17 (d := hD_g_without) rfl
    exact nfa_df (c.fact 17) F X G (fun _ _ _ _ _ _ us hl => match us, hl with | [_, _], _ => rfl)
  d_history := by
    obtain ⟨fd, F⟩ := c.def_ 18 (d := hD_g_history) rfl
    exact nfa_df (c.fact 18) F X G (fun _ _ _ _ _ _ us hl => match us, hl with | [_, _], _ => rfl)
  d_turned := by
    obtain ⟨fd, F⟩ := c.def_ 19 (d := hD_g_turned) rfl
    exact nfa_df (c.fact 19) F X G (fun _ _ _ _ _ _ us hl => match us, hl with | [_, _, _], _ => rfl)
  d_nights_with := by
    obtain ⟨fd, F⟩ := c.def_ 20 (d := hD_g_nights_with) rfl
    exact nfa_df (c.fact 20) F X G (fun _ _ _ _ _ _ us hl => match us, hl with | [_, _, _], _ => rfl)
  d_falls := by
    obtain ⟨fd, F⟩ := c.def_ 21 (d := hD_g_falls) rfl
    exact nfa_df (c.fact 21) F X G (fun _ _ _ _ _ _ us hl => match us, hl with | [_, _], _ => rfl)
  d_pair_text := by
    obtain ⟨fd, F⟩ := c.def_ 22 (d := hD_g_pair_text) rfl
    exact nfa_df (c.fact 22) F X G (fun _ _ _ _ _ _ us hl => match us, hl with | [_, _], _ => rfl)
  d_copy_line := by
    obtain ⟨fd, F⟩ := c.def_ 23 (d := hD_g_copy_line) rfl
    exact nfa_df (c.fact 23) F X G (fun _ _ _ _ _ _ us hl => match us, hl with | [_, _, _], _ => rfl)
  d_written := by
    obtain ⟨fd, F⟩ := c.def_ 24 (d := hD_g_written) rfl
    exact nfa_df (c.fact 24) F X G (fun _ _ _ _ _ _ us hl => match us, hl with | [_], _ => rfl)
  d__law_town := by
    obtain ⟨fd, F⟩ := c.def_ 25 (d := hD_g__law_town) rfl
    exact nfa_df (c.fact 25) F X G (fun _ _ _ _ _ _ us hl => match us, hl with | [_], _ => rfl)
  d__law_draw := by
    obtain ⟨fd, F⟩ := c.def_ 26 (d := hD_g__law_draw) rfl
    exact nfa_df (c.fact 26) F X G (fun _ _ _ _ _ _ us hl => match us, hl with | [_, _, _], _ => rfl)
  d__law_pick := by
    obtain ⟨fd, F⟩ := c.def_ 27 (d := hD_g__law_pick) rfl
    exact nfa_df (c.fact 27) F X G (fun _ _ _ _ _ _ us hl => match us, hl with | [_, _, _], _ => rfl)
  d__law_name := by
    obtain ⟨fd, F⟩ := c.def_ 28 (d := hD_g__law_name) rfl
    exact nfa_df (c.fact 28) F X G (fun _ _ _ _ _ _ us hl => match us, hl with | [_, _, _], _ => rfl)
  d__law_later := by
    obtain ⟨fd, F⟩ := c.def_ 29 (d := hD_g__law_later) rfl
    exact nfa_df (c.fact 29) F X G (fun _ _ _ _ _ _ us hl => match us, hl with | [_, _, _], _ => rfl)
  d__law_copy := by
    obtain ⟨fd, F⟩ := c.def_ 30 (d := hD_g__law_copy) rfl
    exact nfa_df (c.fact 30) F X G (fun _ _ _ _ _ _ us hl => match us, hl with | [_], _ => rfl)
  d__law_spoil := by
    obtain ⟨fd, F⟩ := c.def_ 31 (d := hD_g__law_spoil) rfl
    exact nfa_df (c.fact 31) F X G (fun _ _ _ _ _ _ us hl => match us, hl with | [_], _ => rfl)
  d__law_seen := by
    obtain ⟨fd, F⟩ := c.def_ 32 (d := hD_g__law_seen) rfl
    exact nfa_df (c.fact 32) F X G (fun _ _ _ _ _ _ us hl => match us, hl with | [_], _ => rfl)
  d_law := by
    obtain ⟨fd, F⟩ := c.def_ 33 (d := hD_g_law) rfl
    exact nfa_df (c.fact 33) F X G (fun _ _ _ _ _ _ us hl => match us, hl with | [_], _ => rfl)
  x_BadNight := nfa_xc (c.fact 34) X G
  x_BadNumber := nfa_xc (c.fact 35) X G
  x_BadRules := nfa_xc (c.fact 36) X G
  x_BadNights := nfa_xc (c.fact 37) X G
  x_Full := nfa_xc (c.fact 38) X G
  x_NotHeld := nfa_xc (c.fact 39) X G
  x_Pinned := nfa_xc (c.fact 40) X G
  x_IsWhole := nfa_xc (c.fact 41) X G
  y_Elder := by
    obtain ⟨fd, F⟩ := c.def_ 34 (d := hD_m_Elder____init__) rfl
    exact nfa_eo (c.fact 42) F X G (fun _ _ _ _ _ _ us hl => match us, hl with | [_, _], _ => rfl)
  o_Keep := nfa_oc (c.fact 43) X G
  m_Keep____init__ := by
    obtain ⟨fd, F⟩ := c.def_ 35 (d := hD_m_Keep____init__) rfl
    exact nfa_md (c.fact 44) F X G (fun _ _ _ _ _ _ us hl => match us, hl with | [_, _], _ => rfl)
  m_Keep____len__ := by
    obtain ⟨fd, F⟩ := c.def_ 36 (d := hD_m_Keep____len__) rfl
    exact nfa_md (c.fact 45) F X G (fun _ _ _ _ _ _ us hl => match us, hl with | [_], _ => rfl)
  m_Keep__take := by
    obtain ⟨fd, F⟩ := c.def_ 37 (d := hD_m_Keep__take) rfl
    exact nfa_md (c.fact 46) F X G (fun _ _ _ _ _ _ us hl => match us, hl with | [_, _], _ => rfl)
  m_Keep__let_go := by
    obtain ⟨fd, F⟩ := c.def_ 38 (d := hD_m_Keep__let_go) rfl
    exact nfa_md (c.fact 47) F X G (fun _ _ _ _ _ _ us hl => match us, hl with | [_], _ => rfl)
  m_Keep__pin := by
    obtain ⟨fd, F⟩ := c.def_ 39 (d := hD_m_Keep__pin) rfl
    exact nfa_md (c.fact 48) F X G (fun _ _ _ _ _ _ us hl => match us, hl with | [_, _], _ => rfl)
  m_Keep__held := by
    obtain ⟨fd, F⟩ := c.def_ 40 (d := hD_m_Keep__held) rfl
    exact nfa_md (c.fact 49) F X G (fun _ _ _ _ _ _ us hl => match us, hl with | [_], _ => rfl)
  m_Keep__pins := by
    obtain ⟨fd, F⟩ := c.def_ 41 (d := hD_m_Keep__pins) rfl
    exact nfa_md (c.fact 50) F X G (fun _ _ _ _ _ _ us hl => match us, hl with | [_], _ => rfl)
  m_Keep__ahead := by
    obtain ⟨fd, F⟩ := c.def_ 42 (d := hD_m_Keep__ahead) rfl
    exact nfa_md (c.fact 51) F X G (fun _ _ _ _ _ _ us hl => match us, hl with | [_, _], _ => rfl)
  n_Keep__last := nfa_na (c.fact 52) X G
  n_Keep__nights := nfa_na (c.fact 53) X G
  n_Keep__pinned := nfa_na (c.fact 54) X G
  n_Keep__rules := nfa_na (c.fact 55) X G
  o_State := nfa_oc (c.fact 56) X G
  m_State____init__ := by
    obtain ⟨fd, F⟩ := c.def_ 43 (d := hD_m_State____init__) rfl
    exact nfa_md (c.fact 57) F X G (fun _ _ _ _ _ _ us hl => match us, hl with | [_, _], _ => rfl)
  m_State____len__ := by
    obtain ⟨fd, F⟩ := c.def_ 44 (d := hD_m_State____len__) rfl
    exact nfa_md (c.fact 58) F X G (fun _ _ _ _ _ _ us hl => match us, hl with | [_], _ => rfl)
  m_State____eq__ := by
    obtain ⟨fd, F⟩ := c.def_ 45 (d := hD_m_State____eq__) rfl
    exact nfa_md (c.fact 59) F X G (fun _ _ _ _ _ _ us hl => match us, hl with | [_, _], _ => rfl)
  m_State__number := by
    obtain ⟨fd, F⟩ := c.def_ 46 (d := hD_m_State__number) rfl
    exact nfa_md (c.fact 60) F X G (fun _ _ _ _ _ _ us hl => match us, hl with | [_, _], _ => rfl)
  m_State__names := by
    obtain ⟨fd, F⟩ := c.def_ 47 (d := hD_m_State__names) rfl
    exact nfa_md (c.fact 61) F X G (fun _ _ _ _ _ _ us hl => match us, hl with | [_], _ => rfl)
  v_State := nfa_eo2 (c.fact 62) X G
  t_State := nfa_eo4 (c.fact 63) X G
  n_State__table := nfa_na (c.fact 64) X G
  o_Store := nfa_oc (c.fact 65) X G
  m_Store__take := by
    obtain ⟨fd, F⟩ := c.def_ 48 (d := hD_m_Store__take) rfl
    exact nfa_md (c.fact 66) F X G (fun _ _ _ _ _ _ us hl => match us, hl with | [_, _, _], _ => rfl)
  m_Store__let_go := by
    obtain ⟨fd, F⟩ := c.def_ 49 (d := hD_m_Store__let_go) rfl
    exact nfa_md (c.fact 67) F X G (fun _ _ _ _ _ _ us hl => match us, hl with | [_], _ => rfl)
  m_Store__state := by
    obtain ⟨fd, F⟩ := c.def_ 50 (d := hD_m_Store__state) rfl
    exact nfa_md (c.fact 68) F X G (fun _ _ _ _ _ _ us hl => match us, hl with | [_, _], _ => rfl)
  m_Store__copies := by
    obtain ⟨fd, F⟩ := c.def_ 51 (d := hD_m_Store__copies) rfl
    exact nfa_md (c.fact 69) F X G (fun _ _ _ _ _ _ us hl => match us, hl with | [_], _ => rfl)
  m_Store__chain := by
    obtain ⟨fd, F⟩ := c.def_ 52 (d := hD_m_Store__chain) rfl
    exact nfa_md (c.fact 70) F X G (fun _ _ _ _ _ _ us hl => match us, hl with | [_, _], _ => rfl)
  m_Store__room := by
    obtain ⟨fd, F⟩ := c.def_ 53 (d := hD_m_Store__room) rfl
    exact nfa_md (c.fact 71) F X G (fun _ _ _ _ _ _ us hl => match us, hl with | [_], _ => rfl)
  m_Store____len__ := by
    obtain ⟨fd, F⟩ := c.def_ 54 (d := hD_m_Store____len__) rfl
    exact nfa_md (c.fact 72) F X G (fun _ _ _ _ _ _ us hl => match us, hl with | [_], _ => rfl)
  m_Store__pin := by
    obtain ⟨fd, F⟩ := c.def_ 55 (d := hD_m_Store__pin) rfl
    exact nfa_md (c.fact 73) F X G (fun _ _ _ _ _ _ us hl => match us, hl with | [_, _], _ => rfl)
  m_Store__held := by
    obtain ⟨fd, F⟩ := c.def_ 56 (d := hD_m_Store__held) rfl
    exact nfa_md (c.fact 74) F X G (fun _ _ _ _ _ _ us hl => match us, hl with | [_], _ => rfl)
  m_Store__pins := by
    obtain ⟨fd, F⟩ := c.def_ 57 (d := hD_m_Store__pins) rfl
    exact nfa_md (c.fact 75) F X G (fun _ _ _ _ _ _ us hl => match us, hl with | [_], _ => rfl)
  m_Store__ahead := by
    obtain ⟨fd, F⟩ := c.def_ 58 (d := hD_m_Store__ahead) rfl
    exact nfa_md (c.fact 76) F X G (fun _ _ _ _ _ _ us hl => match us, hl with | [_, _], _ => rfl)
  n_Store__last := nfa_na (c.fact 77) X G
  n_Store__longest := nfa_na (c.fact 78) X G
  n_Store__nights := nfa_na (c.fact 79) X G
  n_Store__pinned := nfa_na (c.fact 80) X G
  n_Store__rules := nfa_na (c.fact 81) X G
  n_Store__shelf := nfa_na (c.fact 82) X G
  n_Store__wholes := nfa_na (c.fact 83) X G
  g_Store_Store := nfa_sb (c.fact 84) X G
  h_Keep_Store := nfa_sn (c.fact 85) X G
  q_Keep____init__ := nfa_cf (c.fact 86) X G
  i_Store := by
    obtain ⟨fd, F⟩ := c.def_ 59 (d := hD_m_Store____init__) rfl
    exact nfa_sd (c.fact 87) F X G
  c_MOST_NIGHT := nfa_ci (c.fact 88) X G
  c_MOST_HELD := nfa_ci (c.fact 89) X G
  c_LETTERS := nfa_cs (c.fact 90) X G
  c_MOST_NAMES := nfa_ci (c.fact 91) X G
  b_all := nfa_free (c.fact 92) X G
  b_bool := nfa_free (c.fact 93) X G
  b_dict := nfa_free (c.fact 94) X G
  b_int := nfa_free (c.fact 95) X G
  b_isinstance := nfa_free (c.fact 96) X G
  b_len := nfa_free (c.fact 97) X G
  b_list := nfa_free (c.fact 98) X G
  b_max := nfa_free (c.fact 99) X G
  b_range := nfa_free (c.fact 100) X G
  b_reversed := nfa_free (c.fact 101) X G
  b_set := nfa_free (c.fact 102) X G
  b_sorted := nfa_free (c.fact 103) X G
  b_str := nfa_free (c.fact 104) X G
  b_sum := nfa_free (c.fact 105) X G
  b_tuple := nfa_free (c.fact 106) X G
  b_zip := nfa_free (c.fact 107) X G
theorem hFin {P : Program} {w : World} {K : PySem.W.Frag} {mg : Str → Option Value} {fa : Addr} (hfa : mg "law" = some (.ref fa)) (T : Txt K mg) : ∃ fd : FuncData, (∀ (s : Shared) (v : Value), BindsTo s fd ⟨[v], []⟩ [("script", v)]) ∧ ∀ base : Heap, K.In base → base.Ns mainGlobals mg → FnOk P w K mg base CX0 8 fa fd ["script"] (spLaw K) :=
  law_end hfa T.d_law (fun _ _ _ _ _ _ _ => rfl) (fun base f fd F => ok_law F T)
end Nk
open PySem PySem.W PySem.Calls PyProof.Rows
set_option maxHeartbeats 0 in
theorem PySem.Challenge.cw_nightkeep_k90_whole_again_and_shared_holds : PySem.Challenge.rw_nightkeep_k90_whole_again_and_shared.Holds := by
  w_on; o_law
  refine HandSHeadRun.head_any (r := (PySem.W.OpenLaw.row PySem.Challenge.rw_nightkeep_k90_whole_again_and_shared)) (q := view (PySem.W.OpenLaw.row PySem.Challenge.rw_nightkeep_k90_whole_again_and_shared).prog [63]) (H := Nk.hHk) (ob := Nk.hOb) (M := 14000) (loose := Nk.hNm) (d := HandSHeadRun.topDef (PySem.W.OpenLaw.row PySem.Challenge.rw_nightkeep_k90_whole_again_and_shared).prog 63) (kwd := []) Nk.hOb_eq (by kernel_rfl) (fun s => by kernel_rfl) Nk.hRunQ (by kernel_rfl) (by kernel_rfl) (by kernel_rfl) (by rfl) (by first | assumption | decide +kernel) (by decide +kernel) ⟨rfl, rfl, rfl, rfl, rfl, by decide +kernel⟩ ?hw ?hc
  case hw => w_witness2
  case hc =>
    refine L2.walk_ofE (l := PySem.Challenge.rw_nightkeep_k90_whole_again_and_shared) (n := 63) (k := 8) (x := "script") (CX := L2.CX0) rfl (by decide) (by kernel_rfl) ⟨rfl, by decide, by decide⟩ ?F (fun _ _ _ _ z => z)
    intro w mg fa h Y G hmg0
    obtain ⟨K, KX, c⟩ := Y
    have hmg : mg ("law" : PySem.Str) = some (.ref fa) := by
      have e : (HandSHeadRun.topDef (PySem.W.OpenLaw.row PySem.Challenge.rw_nightkeep_k90_whole_again_and_shared).prog 63).name = ("law" : PySem.Str) := by kernel_rfl
      rw [← e]
      exact hmg0
    obtain ⟨fd, hb, hF⟩ := Nk.hFin (P := (PySem.Challenge.rw_nightkeep_k90_whole_again_and_shared).prog) (w := w) hmg (Nk.hTxt KX G c)
    exact ⟨K, fd, Nk.spLaw K, KX, hb, fun H a ns hl _ hS => ⟨a, ns, rfl, hS, hl, fun _ => rfl⟩, hF⟩
