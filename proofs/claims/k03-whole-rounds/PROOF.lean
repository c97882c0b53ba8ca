import PyProof.Rows.All
import Wide.All
import OpenK.AllK
import Wide.FinOn
import HandS.ForMost
import HandS.ForExc
import HandS.IsInst
import HandS.Wide
import HandS.SortInts
import HandS.Zip
import HandS.Evl
import KE.KTupSum
import PySem.Challenge.RW_nightkeep_k03_whole_rounds
set_option Elab.async false
set_option linter.all false
set_option maxRecDepth 100000
set_option maxHeartbeats 4000000
/-! ### rounds: plain mathematics -/
namespace Nk
def pre (rs : List Int) (j : Nat) : Int := (rs.take j).sum
def walkR : List Int → Int → Int → Int
  | [], _, found => found
  | r :: rs, left, found => if left < r then found else walkR rs (left - r) (found + 1)
def numOf (rs : List Int) (n : Int) : Int := walkR rs (n % rs.sum) (n / rs.sum * rs.length)
def firstOf (rs : List Int) (k : Int) : Int := k / rs.length * rs.sum + pre rs (k % rs.length).toNat
/-- lengths: at least one, each at least 1 -/
structure Rnds (rs : List Int) : Prop where
  ne : rs ≠ []
  pos : ∀ r ∈ rs, 1 ≤ r
theorem pre_zero (rs : List Int) : pre rs 0 = 0 := by simp [pre]
theorem pre_cons (r : Int) (rs : List Int) (j : Nat) : pre (r :: rs) (j + 1) = r + pre rs j := by simp [pre]
theorem pre_len (rs : List Int) : pre rs rs.length = rs.sum := by simp [pre]
theorem pre_step : ∀ {rs : List Int} {j : Nat} {r : Int}, rs[j]? = some r → pre rs (j + 1) = pre rs j + r
  | [], _, _, h => by simp at h
  | a :: rs, 0, r, h => by
    have e : a = r := by simpa using h
    subst e
    rw [pre_cons, pre_zero, pre_zero]; omega
  | a :: rs, j + 1, r, h => by
    have ih := pre_step (rs := rs) (j := j) (r := r) (by simpa using h)
    rw [pre_cons, pre_cons, ih]; omega
theorem pre_mono {rs : List Int} (hp : ∀ r ∈ rs, 1 ≤ r) : ∀ {i j : Nat}, i ≤ j → j ≤ rs.length → pre rs i + ((j : Int) - (i : Int)) ≤ pre rs j := by
  intro i j hij hj
  induction j with
  | zero =>
    have : i = 0 := by omega
    subst this; simp
  | succ j ih =>
    by_cases h : i = j + 1
    · subst h; simp
    · have h1 := ih (by omega) (by omega)
      have hlt : j < rs.length := by omega
      have e := pre_step (List.getElem?_eq_getElem hlt)
      have p := hp _ (List.getElem_mem hlt)
      rw [e]
      omega
theorem pre_nonneg {rs : List Int} (hp : ∀ r ∈ rs, 1 ≤ r) {j : Nat} (hj : j ≤ rs.length) : (j : Int) ≤ pre rs j := by
  have := pre_mono hp (Nat.zero_le j) hj
  rw [pre_zero] at this
  omega
theorem sum_ge {rs : List Int} (hp : ∀ r ∈ rs, 1 ≤ r) : (rs.length : Int) ≤ rs.sum := by
  have := pre_nonneg hp (Nat.le_refl rs.length)
  rw [pre_len] at this
  exact this
theorem Rnds.len {rs : List Int} (h : Rnds rs) : 0 < rs.length := List.length_pos_iff.mpr h.ne
theorem Rnds.sum {rs : List Int} (h : Rnds rs) : 0 < rs.sum := by
  have := sum_ge h.pos
  have := h.len
  omega
theorem walkR_spec : ∀ (rs : List Int) (left found : Int), 0 ≤ left → left < rs.sum → ∃ j : Nat, j < rs.length ∧ walkR rs left found = found + j ∧ pre rs j ≤ left ∧ left < pre rs (j + 1)
  | [], left, found, h0, h1 => by simp at h1; omega
  | r :: rs, left, found, h0, h1 => by
    unfold walkR
    by_cases c : left < r
    · refine ⟨0, by simp, by simp [c], ?_, ?_⟩
      · rw [pre_zero]; exact h0
      · rw [pre_cons, pre_zero]; omega
    · rw [if_neg c]
      obtain ⟨j, hj, e, h2, h3⟩ := walkR_spec rs (left - r) (found + 1) (by omega) (by rw [List.sum_cons] at h1; omega)
      refine ⟨j + 1, by simp; omega, ?_, ?_, ?_⟩
      · rw [e]; push_cast; omega
      · rw [pre_cons]; omega
      · rw [pre_cons]; omega
theorem pre_uniq {rs : List Int} (hp : ∀ r ∈ rs, 1 ≤ r) {i j : Nat} (hi : i < rs.length) (hj : j < rs.length) {x : Int} (h1 : pre rs i ≤ x) (h2 : x < pre rs (i + 1)) (h3 : pre rs j ≤ x) (h4 : x < pre rs (j + 1)) : i = j := by
  by_cases h : i < j
  · have := pre_mono hp (i := i + 1) (j := j) (by omega) (by omega)
    omega
  · by_cases h' : j < i
    · have := pre_mono hp (i := j + 1) (j := i) (by omega) (by omega)
      omega
    · omega
theorem emod_nat {k : Int} {n : Nat} (h : 0 < n) : ∃ j : Nat, j < n ∧ k % (n : Int) = (j : Int) ∧ (j : Int) + (n : Int) * (k / (n : Int)) = k := by
  have h0 := Int.emod_nonneg k (show (n : Int) ≠ 0 by omega)
  have h1 := Int.emod_lt_of_pos k (show (0 : Int) < n by omega)
  have h2 := Int.emod_add_mul_ediv k (n : Int)
  exact ⟨(k % n).toNat, by omega, by omega, by omega⟩
/-- a round, by its place in the turn -/
theorem firstOf_at {rs : List Int} (h : Rnds rs) (q : Int) {j : Nat} (hj : j ≤ rs.length) : firstOf rs (q * rs.length + j) = q * rs.sum + pre rs j := by
  have hl := h.len
  unfold firstOf
  by_cases e : j = rs.length
  · have h1 : (q * (rs.length : Int) + (j : Int)) / (rs.length : Int) = q + 1 ∧ (q * (rs.length : Int) + (j : Int)) % (rs.length : Int) = 0 := by
      rw [Int.ediv_emod_unique (by omega)]
      refine ⟨?_, by omega, by omega⟩
      rw [e, Int.mul_add, Int.mul_comm q]; omega
    rw [h1.1, h1.2, e, pre_len]
    show (q + 1) * rs.sum + pre rs (Int.toNat 0) = _
    rw [show Int.toNat 0 = 0 from rfl, pre_zero, Int.add_mul]
    omega
  · have h1 : (q * (rs.length : Int) + (j : Int)) / (rs.length : Int) = q ∧ (q * (rs.length : Int) + (j : Int)) % (rs.length : Int) = (j : Int) := by
      rw [Int.ediv_emod_unique (by omega)]
      refine ⟨?_, by omega, by omega⟩
      rw [Int.mul_comm q]; omega
    rw [h1.1, h1.2]
    simp
theorem firstOf_step {rs : List Int} (h : Rnds rs) (k : Int) {r : Int} (hr : rs[(k % rs.length).toNat]? = some r) : firstOf rs (k + 1) = firstOf rs k + r := by
  obtain ⟨j, hj, e, f⟩ := emod_nat (k := k) h.len
  rw [e] at hr
  have hr' : rs[j]? = some r := by simpa using hr
  have e1 : k = (k / rs.length) * rs.length + j := by rw [Int.mul_comm]; omega
  have a1 := firstOf_at h (k / rs.length) (Nat.le_of_lt hj)
  have a2 := firstOf_at h (k / rs.length) (Nat.succ_le_of_lt hj)
  rw [← e1] at a1
  have e2 : k / (rs.length : Int) * (rs.length : Int) + ((Nat.succ j : Nat) : Int) = k + 1 := by push_cast; omega
  rw [e2] at a2
  rw [a1, a2]
  show _ + pre rs (j + 1) = _
  rw [pre_step hr']
  omega
theorem get_round {rs : List Int} (h : Rnds rs) (k : Int) : ∃ r, rs[(k % rs.length).toNat]? = some r ∧ 1 ≤ r ∧ r ∈ rs := by
  obtain ⟨j, hj, e, f⟩ := emod_nat (k := k) h.len
  refine ⟨rs[j], ?_, h.pos _ (List.getElem_mem hj), List.getElem_mem hj⟩
  rw [e]
  simpa using List.getElem?_eq_getElem hj
theorem firstOf_lt {rs : List Int} (h : Rnds rs) (k : Int) : firstOf rs k + 1 ≤ firstOf rs (k + 1) := by
  obtain ⟨r, h1, h2, _⟩ := get_round h k
  rw [firstOf_step h k h1]
  omega
theorem firstOf_zero {rs : List Int} (h : Rnds rs) : firstOf rs 0 = 0 := by
  have := firstOf_at h 0 (Nat.zero_le rs.length)
  simp [pre_zero] at this
  exact this
/-- a night between a round's ends lies in it -/
theorem numOf_of {rs : List Int} (h : Rnds rs) {k m : Int} (h1 : firstOf rs k ≤ m) (h2 : m < firstOf rs (k + 1)) : numOf rs m = k := by
  obtain ⟨j, hj, e, f⟩ := emod_nat (k := k) h.len
  have e1 : k = (k / rs.length) * rs.length + j := by rw [Int.mul_comm]; omega
  have a1 := firstOf_at h (k / rs.length) (Nat.le_of_lt hj)
  have a2 := firstOf_at h (k / rs.length) (Nat.succ_le_of_lt hj)
  rw [← e1] at a1
  have e2 : k / (rs.length : Int) * (rs.length : Int) + ((Nat.succ j : Nat) : Int) = k + 1 := by push_cast; omega
  rw [e2] at a2
  rw [a1] at h1
  rw [a2] at h2
  have b0 := pre_nonneg h.pos (Nat.le_of_lt hj)
  have b1 := pre_mono h.pos (i := j + 1) (j := rs.length) (by omega) (Nat.le_refl _)
  rw [pre_len] at b1
  have h2' : m < k / (rs.length : Int) * rs.sum + pre rs (j + 1) := h2
  have h3 : m / rs.sum = k / rs.length ∧ m % rs.sum = m - (k / rs.length) * rs.sum := by
    rw [Int.ediv_emod_unique h.sum]
    refine ⟨by rw [Int.mul_comm rs.sum]; omega, by omega, by omega⟩
  unfold numOf
  rw [h3.1, h3.2]
  obtain ⟨i, hi, w, p1, p2⟩ := walkR_spec rs (m - k / ↑rs.length * rs.sum) (k / ↑rs.length * ↑rs.length) (by omega) (by omega)
  rw [w]
  have : i = j := pre_uniq h.pos hi hj p1 p2 (by omega) (by omega)
  subst this
  omega
/-- each night lies between the ends of its round -/
theorem numOf_spec {rs : List Int} (h : Rnds rs) (m : Int) : firstOf rs (numOf rs m) ≤ m ∧ m < firstOf rs (numOf rs m + 1) := by
  have hs := h.sum
  obtain ⟨i, hi, w, p1, p2⟩ := walkR_spec rs (m % rs.sum) (m / rs.sum * rs.length) (Int.emod_nonneg m (by omega)) (Int.emod_lt_of_pos m hs)
  have hm := Int.emod_add_mul_ediv m rs.sum
  have e : numOf rs m = m / rs.sum * rs.length + i := w
  have a1 := firstOf_at h (m / rs.sum) (Nat.le_of_lt hi)
  have a2 := firstOf_at h (m / rs.sum) (Nat.succ_le_of_lt hi)
  have e2 : m / rs.sum * (rs.length : Int) + ((Nat.succ i : Nat) : Int) = numOf rs m + 1 := by rw [e]; push_cast; omega
  rw [← e] at a1
  rw [e2] at a2
  rw [a1, a2]
  have c := Int.mul_comm rs.sum (m / rs.sum)
  refine ⟨by omega, ?_⟩
  show m < m / rs.sum * rs.sum + pre rs (i + 1)
  omega
theorem firstOf_mono {rs : List Int} (h : Rnds rs) (i : Int) : ∀ d : Nat, firstOf rs i + d ≤ firstOf rs (i + d)
  | 0 => by simp
  | d + 1 => by
    have h1 := firstOf_mono h i d
    have h2 := firstOf_lt h (i + d)
    push_cast
    rw [Int.add_assoc i d 1] at h2
    omega
theorem firstOf_le {rs : List Int} (h : Rnds rs) {i j : Int} (hij : i ≤ j) : firstOf rs i + (j - i) ≤ firstOf rs j := by
  have := firstOf_mono h i (j - i).toNat
  rw [show i + ((j - i).toNat : Int) = j by omega] at this
  omega
theorem firstOf_pos {rs : List Int} (h : Rnds rs) {k : Int} (hk : 0 ≤ k) : k ≤ firstOf rs k := by
  have := firstOf_le h hk
  rw [firstOf_zero h] at this
  omega
theorem numOf_nonneg {rs : List Int} (h : Rnds rs) {n : Int} (hn : 0 ≤ n) : 0 ≤ numOf rs n := by
  have h2 := (numOf_spec h n).2
  by_cases c : 0 ≤ numOf rs n
  · exact c
  · have := firstOf_le h (i := numOf rs n + 1) (j := 0) (by omega)
    rw [firstOf_zero h] at this
    omega
theorem numOf_le {rs : List Int} (h : Rnds rs) {n : Int} (hn : 0 ≤ n) : numOf rs n ≤ n := by
  have h1 := (numOf_spec h n).1
  have h2 := firstOf_pos h (numOf_nonneg h hn)
  omega
/-- later nights lie in no earlier rounds -/
theorem numOf_mono {rs : List Int} (h : Rnds rs) {m n : Int} (hmn : m ≤ n) : numOf rs m ≤ numOf rs n := by
  have h1 := (numOf_spec h m).1
  have h2 := (numOf_spec h n).2
  by_cases c : numOf rs m ≤ numOf rs n
  · exact c
  · have := firstOf_le h (i := numOf rs n + 1) (j := numOf rs m) (by omega)
    omega
/-- a whole turn later -/
theorem firstOf_turn {rs : List Int} (h : Rnds rs) (k : Int) : firstOf rs (k + rs.length) = firstOf rs k + rs.sum := by
  obtain ⟨j, hj, e, f⟩ := emod_nat (k := k) h.len
  have e1 : k = (k / rs.length) * rs.length + j := by rw [Int.mul_comm]; omega
  have a1 := firstOf_at h (k / rs.length) (Nat.le_of_lt hj)
  have a2 := firstOf_at h (k / rs.length + 1) (Nat.le_of_lt hj)
  rw [← e1] at a1
  have e2 : (k / rs.length + 1) * (rs.length : Int) + (j : Int) = k + rs.length := by rw [Int.add_mul]; omega
  rw [e2] at a2
  rw [a1, a2, Int.add_mul]
  omega
theorem numOf_turn {rs : List Int} (h : Rnds rs) (n : Int) : numOf rs (n + rs.sum) = numOf rs n + rs.length := by
  obtain ⟨h1, h2⟩ := numOf_spec h n
  have a1 := firstOf_turn h (numOf rs n)
  have a2 := firstOf_turn h (numOf rs n + 1)
  refine numOf_of h (by omega) ?_
  rw [show numOf rs n + (rs.length : Int) + 1 = numOf rs n + 1 + rs.length by omega]
  omega
theorem firstOf_ge {rs : List Int} (h : Rnds rs) : ∀ k : Nat, (k : Int) ≤ firstOf rs k
  | 0 => by rw [show ((0 : Nat) : Int) = 0 from rfl, firstOf_zero h]; omega
  | k + 1 => by
    have h1 := firstOf_ge h k
    have h2 := firstOf_lt h k
    push_cast
    omega
end Nk
/-! ### the layer's short words for this program -/
namespace Nk
open PySem L2 PySem.Spec PyProof.Rows
/-- a def of the top keeps a promise: called by its name -/
structure Fk (P : Program) (w : World) (K : PySem.W.Frag) (mg : Str → Option Value) (base : Heap) (CX : CXT) (k : Nat) (x : Str) (ps : List Str) (sp : Sp) : Prop where
  ex : ∃ (f : Addr) (fd : FuncData), mg x = some (.ref f) ∧ PySem.W.keepIn K (.ref f) = true ∧ Binds K fd ps [] ∧ FnOk P w K mg base CX k f fd ps sp
/-- a def as it stands behind the top -/
structure Df (K : PySem.W.Frag) (mg : Str → Option Value) (x qual : Str) (st : Stmt) (ps : List Str) : Prop where
  ex : ∃ (f : Addr) (fd : FuncData), Fun K x qual st f fd ∧ mg x = some (.ref f) ∧ Binds K fd ps []
section
variable {X : Cx} {CX : CXT} {k : Nat} {ps : List Str} {sp : Sp} {x : Str} {p pos : Pos} {e : Expr} {es : List Expr} {t : TA} {E : XK}
theorem pe_fn (F : Fk X.prog X.w X.K X.mg X.base CX k x ps sp) (hr : Room k X.A) (hg : Gl X x) (hx : Passes CX X E) (ha : PA X (e :: es) t) (hdb : (x == ("__debug__" : Str)) = false := by decide)
    (he : starEach (e :: es) X.env = (false, eval e X.env) :: starEach es X.env := by rfl) (hpl : (backTo pos (starEach es X.env)).any (·.1) = false := by rfl) :
    PE X (.Call (.Name x p) (e :: es) [] pos) (tCall sp [] E t) := by
  obtain ⟨f, fd, g, kp, b, G⟩ := F.ex
  exact pe_call G hr hg g kp b .nil hx ha hdb he hpl
theorem passX {X : Cx} {E : XK} (tk : Takes X (fun cls d _ H => E cls d H)) : Passes (L2.CX X.prog X.w) X E := passes_call tk (fun _ _ _ _ h => h)
end
/-- an own exception class without own __init__, over RuntimeError -/
structure Xc (K : PySem.W.Frag) (mg : Str → Option Value) (x : Str) (C : Addr) : Prop where
  gP : mg x = some (.ref C)
  xP : PySem.W.excIn K C [.type "RuntimeError", .type "Exception", .type "BaseException", .type "object"] "RuntimeError.__new__" = true
  kP : PySem.W.keepIn K (.ref C) = true
  bP : PySem.W.subIn K (.ref C) (.type "BaseException") = some true
  tP : PySem.W.typeIn K (.ref C) = some (.type "type")
theorem Xc.rs {X : Cx} {x : Str} {C : Addr} (h : Xc X.K X.mg x C) : Raises X (.ref C) := raises_own h.bP h.tP
/-! sum of a tuple -/
def rSumT (K : PySem.W.Frag) : List V → Hp → VK → Prop := fun vs H Q => ∃ (a : Addr) (ns : List Int), vs = [V.ref a] ∧ SqT K H a (ns.map V.int) ∧ Q (.int ns.sum) H
theorem cr_sumT {X : Cx} (hc : X.calm = true) : CallR X (.builtin "sum") (rSumT X.K) := by
  intro pins s σ H vs us Q I r h
  obtain ⟨a, ns, rfl, hs, q⟩ := h
  obtain ⟨its, rv, hl, _⟩ := I.tuple hs
  rw [Vals.ref1 r]
  have hi : IntsAre its ns := rv.ints
  obtain ⟨xs, hx⟩ := hi.allInts.items
  have hn : numsOf its.toArray.toList = ns := by rw [show its.toArray.toList = its from rfl, hi.numsOf]
  rw [hx] at hl hn
  rw [nums_intItems] at hn
  refine PySem.W.ktm_sumG (I.ok.hd hc) hl fun h' tk t' hk => ?_
  rw [preSum_eq, List.take_of_length_le (by simp), hn]
  exact ⟨.int _, H, I.kept hk, ⟨_, rfl⟩, q⟩
/-! heaps -/
/-- all but t is as it was -/
def But (t : Addr) (H H' : Hp) : Prop := ∀ b o, H b = some o → b ≠ t → H' b = some o
theorem But.refl {t : Addr} {H : Hp} : But t H H := fun _ _ h _ => h
theorem But.trans {t : Addr} {H H1 H2 : Hp} (a : But t H H1) (b : But t H1 H2) : But t H H2 := fun c o h n => b c o (a c o h n) n
theorem But.of {t : Addr} {H H' : Hp} (s : Same H H') : But t H H' := fun b o h _ => s b o h
theorem But.thenS {t : Addr} {H H1 H2 : Hp} (a : But t H H1) (b : Same H1 H2) : But t H H2 := a.trans (.of b)
theorem Same.thenB {t : Addr} {H H1 H2 : Hp} (a : Same H H1) (b : But t H1 H2) : But t H H2 := (But.of a).trans b
theorem same_upd {H : Hp} {p : Addr} {o : HO} (h : H p = none) : Same H (upd H p o) := fun b x e => by
  rw [upd_ne (ne_of_none e h)]
  exact e
theorem But.upd {t : Addr} {H : Hp} {o : HO} : But t H (upd H t o) := fun b x e n => by
  rw [upd_ne n]
  exact e
theorem But.tup {K : PySem.W.Frag} {t a : Addr} {H H' : Hp} {xs : List V} {l : List V} (b : But t H H') (ht : H t = some (.lst l)) (h : SqT K H a xs) : SqT K H' a xs := by
  rcases h with (h | ⟨o, h⟩) | h
  · exact .inl (.inl (b _ _ h (ne_of h ht (by intro z; cases z))))
  · exact .inl (.inr ⟨o, b _ _ h (ne_of h ht (by intro z; cases z))⟩)
  · exact .inr h
theorem But.lst {K : PySem.W.Frag} {t a : Addr} {H H' : Hp} {xs : List V} (b : But t H H') (ha : a ≠ t) (h : SqL K H a xs) : SqL K H' a xs := by
  rcases h with (h | ⟨o, h⟩) | h
  · exact .inl (.inl (b _ _ h ha))
  · exact .inl (.inr ⟨o, b _ _ h ha⟩)
  · exact .inr h
theorem Same.tup {K : PySem.W.Frag} {a : Addr} {H H' : Hp} {xs : List V} (e : Same H H') (h : SqT K H a xs) : SqT K H' a xs := by
  rcases h with (h | ⟨o, h⟩) | h
  · exact .inl (.inl (e _ _ h))
  · exact .inl (.inr ⟨o, e _ _ h⟩)
  · exact .inr h
theorem sqL {K : PySem.W.Frag} {H : Hp} {a : Addr} {xs : List V} (h : H a = some (.lst xs)) : SqL K H a xs := Or.inl (Or.inl h)
theorem sqT {K : PySem.W.Frag} {H : Hp} {a : Addr} {xs : List V} (h : H a = some (.tup xs)) : SqT K H a xs := Or.inl (Or.inl h)
theorem sz {n : Nat} (h : n ≤ 100000) : n ≤ sizeLine := Nat.le_trans h (by decide)
theorem szl {n : Nat} (h : n < 100000) : n < sizeLine := Nat.lt_of_lt_of_le h (by decide)
/-- a list that is read and is not t -/
def SqN (K : PySem.W.Frag) (H : Hp) (a t : Addr) (xs : List V) : Prop := (Rd H a (.lst xs) ∧ a ≠ t) ∨
    ∃ (o : Obj) (its : Array Value) (n : Nat), K.lookup a = some o ∧ o.cls = .type "list" ∧ o.dict = none ∧ o.data = .seq its n ∧ its.size ≤ sizeLine ∧ Vals xs its.toList
theorem SqN.l {K : PySem.W.Frag} {H : Hp} {a t : Addr} {xs : List V} (h : SqN K H a t xs) : SqL K H a xs := by
  rcases h with ⟨h, _⟩ | h
  · exact .inl h
  · exact .inr h
theorem SqN.but {K : PySem.W.Frag} {H H' : Hp} {a t : Addr} {xs : List V} (h : SqN K H a t xs) (b : But t H H') : SqN K H' a t xs := by
  rcases h with ⟨h | ⟨o, h⟩, n⟩ | h
  · exact .inl ⟨.inl (b _ _ h n), n⟩
  · exact .inl ⟨.inr ⟨o, b _ _ h n⟩, n⟩
  · exact .inr h
theorem SqN.same {K : PySem.W.Frag} {H H' : Hp} {a t : Addr} {xs : List V} (h : SqN K H a t xs) (b : Same H H') : SqN K H' a t xs := h.but (.of b)
theorem SqN.new {K : PySem.W.Frag} {H : Hp} {a t : Addr} {xs : List V} (h : SqL K H a xs) (ht : H t = none) : SqN K H a t xs := by
  rcases h with (h | ⟨o, h⟩) | h
  · exact .inl ⟨.inl h, ne_of_none h ht⟩
  · exact .inl ⟨.inr ⟨o, h⟩, ne_of_none h ht⟩
  · exact .inr h
theorem szN {n : Nat} (h : n ≤ 64) : (n ≤ sizeLine) = True := eq_true (sz (by omega))
/-! things -/
/-- what may be handed in, with the name of its type -/
inductive Thing (K : PySem.W.Frag) (H : Hp) : V → String → Prop
  | non : Thing K H .non "NoneType"
  | bl (b : Bool) : Thing K H (.bl b) "bool"
  | int (i : Int) : Thing K H (.int i) "int"
  | str (x : Str) : Thing K H (.str x) "str"
  | lst {a : Addr} {xs : List V} (h : H a = some (.lst xs)) : Thing K H (.ref a) "list"
  | tup {a : Addr} {xs : List V} (h : H a = some (.tup xs)) : Thing K H (.ref a) "tuple"
  | dic {a : Addr} {kvs : List (Key × V)} (h : H a = some (.dK kvs)) : Thing K H (.ref a) "dict"
theorem Thing.ty {K : PySem.W.Frag} {H : Hp} {x : V} {n : String} (h : Thing K H x n) : TyX K H x (.type n) := by
  cases h with
  | non => exact .base .non
  | bl b => exact .base (.bl b)
  | int i => exact .base (.int i)
  | str x => exact .base (.str x)
  | lst h => exact .base (.lst h)
  | tup h => exact .base (.tup h)
  | dic h => exact .base (.dK h)
theorem Thing.same {K : PySem.W.Frag} {H H' : Hp} {x : V} {n : String} (s : Same H H') (h : Thing K H x n) : Thing K H' x n := by
  cases h with
  | non => exact .non
  | bl b => exact .bl b
  | int i => exact .int i
  | str x => exact .str x
  | lst h => exact .lst (s _ _ h)
  | tup h => exact .tup (s _ _ h)
  | dic h => exact .dic (s _ _ h)
def isA (n : String) (T : String) : Bool := n == T || (n == "bool" && T == "int")
def tyNames : List String := ["NoneType", "bool", "int", "str", "list", "tuple", "dict"]
theorem Thing.mem {K : PySem.W.Frag} {H : Hp} {x : V} {n : String} (h : Thing K H x n) : n ∈ tyNames := by
  cases h <;> simp [tyNames]
theorem kit_all : ∀ n ∈ tyNames, ∀ T ∈ tyNames, kitB n T = some (isA n T) := by decide +kernel
theorem Thing.kit {K : PySem.W.Frag} {H : Hp} {x : V} {n : String} (h : Thing K H x n) {T : String} (hT : T ∈ tyNames) : PySem.W.kitOne K (.type n) (.type T) = some (isA n T) := kit_ty (kit_all n h.mem T hT)
/-- isinstance of a thing -/
theorem isi_thing {K : PySem.W.Frag} {H : Hp} {x : V} {n : String} {T : String} {Q : VK} (h : Thing K H x n) (hT : T ∈ tyNames) (q : Q (.bl (isA n T)) H) : rIsi K [x, .ty T] H Q :=
  ⟨x, .ty T, .type n, .type T, isA n T, rfl, .ty T, h.ty, h.kit hT, q⟩
def isWholeV : V → Bool
  | .int _ => true
  | _ => false
def isNumV (x : V) (lo : Int) (y : V) : Bool := match x, y with
  | .int i, .int hi => decide (lo ≤ i) && decide (i ≤ hi)
  | _, _ => false
end Nk
namespace Nk
open PySem L2 PySem.Spec PyProof.Rows
/-- where a class of the top stands -/
def cls (mg : Str → Option Value) (x : Str) : Addr := match mg x with
  | some (.ref a) => a
  | _ => 0
theorem cls_of {mg : Str → Option Value} {x : Str} {a : Addr} (h : mg x = some (.ref a)) : cls mg x = a := by
  unfold cls; rw [h]
section
variable {X : Cx} {x : Str} {i : Int} {z : Str} {pos : Pos}
theorem pe_globI (h : ∃ t, X.mg x = some (.int i t)) (hg : Gl X x) (hd : (x == ("__debug__" : Str)) = false := by decide) : PE X (.Name x pos) (tC (.int i)) := by
  obtain ⟨t, h⟩ := h
  exact pe_glob hg h ⟨_, rfl⟩ hd
theorem pe_globS (h : ∃ t, X.mg x = some (.str z t)) (hg : Gl X x) (hd : (x == ("__debug__" : Str)) = false := by decide) : PE X (.Name x pos) (tC (.str z)) := by
  obtain ⟨t, h⟩ := h
  exact pe_glob hg h ⟨_, rfl⟩ hd
end
section
variable {K : PySem.W.Frag} {h : Heap} {mg : Str → Option Value}
theorem df_mk {x qual : Str} {st : Stmt} {ps : List Str} {f : Addr} {oc : Value} {od an : Option Addr} {osl : Array (Option Value)} {kV doc pm cdv ct : Value} (X : K.In h) (G : h.Ns mainGlobals mg)
    (hb : ∀ (kV doc pm : Value) (an : Option Addr) (cdv ct : Value) (us : List Value), us.length = ps.length → bindArgs (PySem.W.fnOf x qual (defArgs st) (defBody st) (defScope st) .none kV doc pm an cdv ct) ⟨us, []⟩ = pure (ps.zip us))
    (a : PySem.W.nsIn K mainGlobals x = some (some (.ref f)))
    (l : K.lookup f = some ⟨oc, od, .func (PySem.W.fnOf x qual (defArgs st) (defBody st) (defScope st) .none kV doc pm an cdv ct), osl⟩)
    (c : PySem.W.codeIn K cdv qual = true) (k : PySem.W.keepIn K (.ref f) = true) : Df K mg x qual st ps := by
  have F := fun_mk (st := st) l c k
  exact ⟨f, _, F, PySem.W.mg_of X G a, F.binds hb⟩
theorem xc_mk {x : Str} {C : Addr} (X : K.In h) (G : h.Ns mainGlobals mg) (a : PySem.W.nsIn K mainGlobals x = some (some (.ref C)))
    (xP : PySem.W.excIn K C [.type "RuntimeError", .type "Exception", .type "BaseException", .type "object"] "RuntimeError.__new__" = true)
    (kP : PySem.W.keepIn K (.ref C) = true) (bP : PySem.W.subIn K (.ref C) (.type "BaseException") = some true) (tP : PySem.W.typeIn K (.ref C) = some (.type "type")) : Xc K mg x (cls mg x) := by
  have g := PySem.W.mg_of X G a
  rw [cls_of g]
  exact ⟨g, xP, kP, bP, tP⟩
theorem ci_mk {x : Str} {i : Int} {t : Tok} (X : K.In h) (G : h.Ns mainGlobals mg) (a : PySem.W.nsIn K mainGlobals x = some (some (.int i t))) : ∃ t, mg x = some (.int i t) := ⟨t, PySem.W.mg_of X G a⟩
theorem cs_mk {x z : Str} {t : Tok} (X : K.In h) (G : h.Ns mainGlobals mg) (a : PySem.W.nsIn K mainGlobals x = some (some (.str z t))) : ∃ t, mg x = some (.str z t) := ⟨t, PySem.W.mg_of X G a⟩
end
/-- the law's: a list of at most 63 ints is handed in, True comes out -/
def spLaw (K : PySem.W.Frag) : Sp := fun vs H Q _ => ∃ (a : Addr) (ns : List Int), vs = [.ref a] ∧ SqL K H a (ns.map V.int) ∧ ns.length ≤ 63 ∧ ∀ H', Q (.bl true) H'
theorem law_end {P : Program} {w : World} {K : PySem.W.Frag} {mg : Str → Option Value} {st : Stmt} {fa : Addr} {k : Nat} (hfa : mg "law" = some (.ref fa)) (D : Df K mg "law" "law" st ["script"])
    (hb : ∀ (kV doc pm : Value) (an : Option Addr) (cdv ct v : Value), bindArgs (PySem.W.fnOf "law" "law" (defArgs st) (defBody st) (defScope st) .none kV doc pm an cdv ct) ⟨[v], []⟩ = pure [(("script" : Str), v)])
    (G : ∀ (base : Heap) (f : Addr) (fd : FuncData), Fun K "law" "law" st f fd → FnOk P w K mg base CX0 k f fd ["script"] (spLaw K)) :
    ∃ fd : FuncData, (∀ (s : Shared) (v : Value), BindsTo s fd ⟨[v], []⟩ [("script", v)]) ∧ ∀ base : Heap, K.In base → base.Ns mainGlobals mg → FnOk P w K mg base CX0 k fa fd ["script"] (spLaw K) := by
  obtain ⟨f, fd, F, g, b⟩ := D.ex
  have e : fa = f := by
    have := hfa.symm.trans g
    cases this
    rfl
  subst e
  refine ⟨fd, fun s v => ?_, fun base _ _ => G base fa fd F⟩
  obtain ⟨oc, od, kV, doc, pm, an, cdv, ct, osl, rfl, lk, hcd⟩ := F.ex
  exact .of_eq (hb _ _ _ _ _ _ _)
end Nk
namespace Nk
open PySem L2 PySem.Spec PyProof.Rows
theorem Same.keepN {H H' : Hp} {t : Addr} {o : HO} (s : Same H H') (n : H t = none) : Same H (upd H' t o) := fun b x e => by
  rw [upd_ne (ne_of_none e n)]
  exact s b x e
/-- within a comprehension that leaves all else: G i is the list behind i items -/
structure LcP (H1 : Hp) (D : Addr) (G : Nat → List V) (i : Nat) (H : Hp) : Prop where
  same : Same H1 H
  at_ : H D = some (.lst (G i))
theorem LcP.push {H1 H H4 : Hp} {D : Addr} {G : Nat → List V} {i : Nat} {y : V} (p : LcP H1 D G i H) (hD : H1 D = none) (hl : (G i).length ≤ 99999) (s : Same H H4) (e : G (i + 1) = G i ++ [y]) :
    ∃ acc, H4 D = some (.lst acc) ∧ acc.length < sizeLine ∧ LcP H1 D G (i + 1) (upd H4 D (.lst (acc ++ [y]))) :=
  ⟨G i, s _ _ p.at_, szl (by omega), Same.keepN (p.same.trans s) hD, by rw [upd_same, e]⟩
theorem LcP.skip {H1 H H4 : Hp} {D : Addr} {G : Nat → List V} {i : Nat} (p : LcP H1 D G i H) (s : Same H H4) (e : G (i + 1) = G i) : LcP H1 D G (i + 1) H4 :=
  ⟨p.same.trans s, by rw [e]; exact s _ _ p.at_⟩
theorem lcT {K : PySem.W.Frag} {a : Addr} {xs : List V} {g : TG} {tt : TT} {te : TE} {vs : List Nat} {σ : L2.St} {H1 : Hp} {D : Addr} {Qd : Hp → Prop} (hD : H1 D = none) (hT : SqT K H1 a xs) (G : Nat → List V) (h0 : G 0 = [])
    (hs : ∀ i x H, xs[i]? = some x → LcP H1 D G i H → g x (wipe σ vs) H fun σ2 H2 => wipe σ2 vs = wipe σ vs ∧ tt σ2 H2 fun b H3 =>
      if b = true then te σ2 H3 fun y H4 => ∃ acc, H4 D = some (.lst acc) ∧ acc.length < sizeLine ∧ LcP H1 D G (i + 1) (upd H4 D (.lst (acc ++ [y]))) else LcP H1 D G (i + 1) H3) (hd : ∀ H, Same H1 H → H D = some (.lst (G xs.length)) → Qd H) :
    ∃ W : Nat → Nat → Hp → Prop, (∃ m, W 0 m (upd H1 D (.lst []))) ∧ ∀ i m H, W i m H →
      ((Itt K a).stop i H ∧ Qd H) ∨ ((Itt K a).go i H ∧ ∃ Nx : Hp → Prop, (∀ H', Nx H' → ∃ m', m' < m ∧ W (i + 1) m' H') ∧ ∀ x H', (Itt K a).yld i H x H' → g x (wipe σ vs) H' fun σ2 H2 => wipe σ2 vs = wipe σ vs ∧ tt σ2 H2 fun b H3 =>
        if b = true then te σ2 H3 fun y H4 => ∃ acc, H4 D = some (.lst acc) ∧ acc.length < sizeLine ∧ Nx (upd H4 D (.lst (acc ++ [y]))) else Nx H3) :=
  lc_tup (K := K) (a := a) (xs := xs) (LcP H1 D G) ⟨same_upd hD, by rw [h0]; exact upd_same⟩ (fun i H _ p => Same.tup p.same hT) hs fun H p => hd H p.same p.at_
theorem lcL {K : PySem.W.Frag} {a : Addr} {xs : List V} {g : TG} {tt : TT} {te : TE} {vs : List Nat} {σ : L2.St} {H1 : Hp} {D : Addr} {Qd : Hp → Prop} (hD : H1 D = none) (hT : SqL K H1 a xs) (G : Nat → List V) (h0 : G 0 = [])
    (hs : ∀ i x H, xs[i]? = some x → LcP H1 D G i H → g x (wipe σ vs) H fun σ2 H2 => wipe σ2 vs = wipe σ vs ∧ tt σ2 H2 fun b H3 =>
      if b = true then te σ2 H3 fun y H4 => ∃ acc, H4 D = some (.lst acc) ∧ acc.length < sizeLine ∧ LcP H1 D G (i + 1) (upd H4 D (.lst (acc ++ [y]))) else LcP H1 D G (i + 1) H3) (hd : ∀ H, Same H1 H → H D = some (.lst (G xs.length)) → Qd H) :
    ∃ W : Nat → Nat → Hp → Prop, (∃ m, W 0 m (upd H1 D (.lst []))) ∧ ∀ i m H, W i m H →
      ((Itl K a).stop i H ∧ Qd H) ∨ ((Itl K a).go i H ∧ ∃ Nx : Hp → Prop, (∀ H', Nx H' → ∃ m', m' < m ∧ W (i + 1) m' H') ∧ ∀ x H', (Itl K a).yld i H x H' → g x (wipe σ vs) H' fun σ2 H2 => wipe σ2 vs = wipe σ vs ∧ tt σ2 H2 fun b H3 =>
        if b = true then te σ2 H3 fun y H4 => ∃ acc, H4 D = some (.lst acc) ∧ acc.length < sizeLine ∧ Nx (upd H4 D (.lst (acc ++ [y]))) else Nx H3) :=
  lc_list (K := K) (a := a) (xs := xs) (LcP H1 D G) ⟨same_upd hD, by rw [h0]; exact upd_same⟩ (fun i H _ p => p.same.seq hT) hs fun H p => hd H p.same p.at_
theorem lcR {lo : Int} {n : Nat} {g : TG} {tt : TT} {te : TE} {vs : List Nat} {σ : L2.St} {H1 : Hp} {D : Addr} {Qd : Hp → Prop} (hD : H1 D = none) (G : Nat → List V) (h0 : G 0 = [])
    (hs : ∀ i H, i < n → LcP H1 D G i H → g (.int (lo + i)) (wipe σ vs) H fun σ2 H2 => wipe σ2 vs = wipe σ vs ∧ tt σ2 H2 fun b H3 =>
      if b = true then te σ2 H3 fun y H4 => ∃ acc, H4 D = some (.lst acc) ∧ acc.length < sizeLine ∧ LcP H1 D G (i + 1) (upd H4 D (.lst (acc ++ [y]))) else LcP H1 D G (i + 1) H3) (hd : ∀ H, Same H1 H → H D = some (.lst (G n)) → Qd H) :
    ∃ W : Nat → Nat → Hp → Prop, (∃ m, W 0 m (upd H1 D (.lst []))) ∧ ∀ i m H, W i m H →
      ((Itr lo n).stop i H ∧ Qd H) ∨ ((Itr lo n).go i H ∧ ∃ Nx : Hp → Prop, (∀ H', Nx H' → ∃ m', m' < m ∧ W (i + 1) m' H') ∧ ∀ x H', (Itr lo n).yld i H x H' → g x (wipe σ vs) H' fun σ2 H2 => wipe σ2 vs = wipe σ vs ∧ tt σ2 H2 fun b H3 =>
        if b = true then te σ2 H3 fun y H4 => ∃ acc, H4 D = some (.lst acc) ∧ acc.length < sizeLine ∧ Nx (upd H4 D (.lst (acc ++ [y]))) else Nx H3) :=
  lc_range (LcP H1 D G) ⟨same_upd hD, by rw [h0]; exact upd_same⟩ hs fun H p => hd H p.same p.at_
theorem take_next {α : Type} {l : List α} {i : Nat} {x : α} (h : l[i]? = some x) : l.take (i + 1) = l.take i ++ [x] := by
  rw [List.take_add_one, h]; rfl
theorem map_take_next {α β : Type} {l : List α} {i : Nat} {x : α} (f : α → β) (h : l[i]? = some x) : (l.take (i + 1)).map f = (l.take i).map f ++ [f x] := by
  rw [take_next h]; simp
theorem filter_take_next {α : Type} {l : List α} {i : Nat} {x : α} (f : α → Bool) (h : l[i]? = some x) : (l.take (i + 1)).filter f = (l.take i).filter f ++ (if f x = true then [x] else []) := by
  rw [take_next h, List.filter_append]; cases e : f x <;> simp [e]
theorem filter_len {α : Type} (l : List α) (f : α → Bool) (i : Nat) : ((l.take i).filter f).length ≤ l.length :=
  Nat.le_trans (List.length_filter_le _ _) (by simp; omega)
theorem lt_of_get {α : Type} {l : List α} {i : Nat} {x : α} (h : l[i]? = some x) : i < l.length := (List.getElem?_eq_some_iff.mp h).1
theorem mem_of_get {α : Type} {l : List α} {i : Nat} {x : α} (h : l[i]? = some x) : x ∈ l := List.mem_of_getElem? h
end Nk
namespace Nk
open PySem L2
theorem seq_k {t u : TS} {D : Ends} {σ : L2.St} {H : Hp} (h : ∀ Kt : L2.St → Hp → Prop, Kt = u D → t { D with nx := Kt } σ H) : tSeq t u D σ H := h _ rfl
theorem scal_ii {a b : Int} : scal (.int a) (.int b) = true := rfl
theorem scal_ss {a b : Str} : scal (.str a) (.str b) = true := rfl
theorem scal_bb {a b : Bool} : scal (.bl a) (.bl b) = true := rfl
theorem scal_nn : scal .non .non = true := rfl
theorem scal_ni {b : Int} : scal .non (.int b) = true := rfl
theorem scal_in {b : Int} : scal (.int b) .non = true := rfl
theorem scal_ns {b : Str} : scal .non (.str b) = true := rfl
theorem scal_sn {b : Str} : scal (.str b) .non = true := rfl
theorem scal_is {a : Int} {b : Str} : scal (.int a) (.str b) = true := rfl
theorem scal_si {a : Int} {b : Str} : scal (.str b) (.int a) = true := rfl
end Nk
/-! ### data compared by == -/
namespace Nk
open PySem L2
/-- data of depth at most k, without truths and dicts -/
def gd : Nat → PyData → Bool
  | _, .none => true
  | _, .int _ => true
  | _, .str x => PyData.strOk x
  | _, .bool _ => false
  | _, .dict _ => false
  | 0, .list _ => false
  | 0, .tuple _ => false
  | k + 1, .list xs => xs.all (gd k)
  | k + 1, .tuple xs => xs.all (gd k)
theorem gd_all {k : Nat} : ∀ {xs : List PyData}, xs.all (gd k) = true → ∀ x ∈ xs, gd k x = true := fun h x hx => List.all_eq_true.mp h x hx
theorem canLayAll_of : ∀ {xs : List PyData}, (∀ x ∈ xs, x.canLay0 = true) → PyData.canLayAll0 xs = true
  | [], _ => by simp [PyData.canLayAll0]
  | x :: xs, h => by
    have h1 := h x List.mem_cons_self
    have h2 := canLayAll_of (xs := xs) fun y hy => h y (List.mem_cons_of_mem _ hy)
    simp [PyData.canLayAll0, h1, h2]
theorem depthAll_le {k : Nat} : ∀ {xs : List PyData}, (∀ x ∈ xs, x.depth ≤ k) → PyData.depthAll xs ≤ k
  | [], _ => by simp [PyData.depthAll]
  | x :: xs, h => by
    have h1 := h x List.mem_cons_self
    have h2 := depthAll_le (xs := xs) fun y hy => h y (List.mem_cons_of_mem _ hy)
    simp only [PyData.depthAll]
    omega
theorem gd_lay : ∀ (k : Nat) (d : PyData), gd k d = true → d.canLay0 = true ∧ d.depth ≤ k
  | k, .none, _ => by simp [PyData.canLay0, PyData.depth]
  | k, .int _, _ => by simp [PyData.canLay0, PyData.depth]
  | k, .str x, h => by
    have h' : PyData.strOk x = true := by cases k <;> simpa [gd] using h
    simp [PyData.canLay0, PyData.depth, h']
  | k, .bool _, h => by cases k <;> simp [gd] at h
  | k, .dict _, h => by cases k <;> simp [gd] at h
  | 0, .list _, h => by simp [gd] at h
  | 0, .tuple _, h => by simp [gd] at h
  | k + 1, .list xs, h => by
    have h' : xs.all (gd k) = true := by simpa [gd] using h
    have a := gd_all h'
    simp only [PyData.canLay0, PyData.depth]
    exact ⟨canLayAll_of fun x hx => (gd_lay k x (a x hx)).1, Nat.succ_le_succ (depthAll_le fun x hx => (gd_lay k x (a x hx)).2)⟩
  | k + 1, .tuple xs, h => by
    have h' : xs.all (gd k) = true := by simpa [gd] using h
    have a := gd_all h'
    simp only [PyData.canLay0, PyData.depth]
    exact ⟨canLayAll_of fun x hx => (gd_lay k x (a x hx)).1, Nat.succ_le_succ (depthAll_le fun x hx => (gd_lay k x (a x hx)).2)⟩
theorem gd_shaped {k : Nat} {d : PyData} (h : gd k d = true) (hk : k ≤ 64 := by decide) : SeqAt.shaped d = true := by
  obtain ⟨h1, h2⟩ := gd_lay k d h
  unfold SeqAt.shaped
  rw [h1]
  simp
  omega
theorem eqvAll_iff : ∀ (xs ys : List PyData), (∀ x ∈ xs, ∀ y ∈ ys, PyData.eqv x y = true ↔ x = y) → (PyData.eqvAll xs ys = true ↔ xs = ys)
  | [], [], _ => by simp [PyData.eqvAll]
  | [], _ :: _, _ => by simp [PyData.eqvAll]
  | _ :: _, [], _ => by simp [PyData.eqvAll]
  | x :: xs, y :: ys, h => by
    have h1 := h x List.mem_cons_self y List.mem_cons_self
    have h2 := eqvAll_iff xs ys fun a ha b hb => h a (List.mem_cons_of_mem _ ha) b (List.mem_cons_of_mem _ hb)
    simp [PyData.eqvAll, h1, h2]
theorem eqv_iff : ∀ (k m : Nat) (d e : PyData), gd k d = true → gd m e = true → (PyData.eqv d e = true ↔ d = e)
  | k, m, .bool _, e, h, _ => by cases k <;> simp [gd] at h
  | k, m, .dict _, e, h, _ => by cases k <;> simp [gd] at h
  | k, m, .none, e, _, h => by
    cases e with
    | bool _ => cases m <;> simp [gd] at h
    | dict _ => cases m <;> simp [gd] at h
    | _ => simp [PyData.eqv]
  | k, m, .int i, e, _, h => by
    cases e with
    | bool _ => cases m <;> simp [gd] at h
    | dict _ => cases m <;> simp [gd] at h
    | _ => simp [PyData.eqv]
  | k, m, .str i, e, _, h => by
    cases e with
    | bool _ => cases m <;> simp [gd] at h
    | dict _ => cases m <;> simp [gd] at h
    | _ => simp [PyData.eqv]
  | 0, m, .list _, e, h, _ => by simp [gd] at h
  | 0, m, .tuple _, e, h, _ => by simp [gd] at h
  | k + 1, m, .list xs, e, hd, h => by
    cases e with
    | bool _ => cases m <;> simp [gd] at h
    | dict _ => cases m <;> simp [gd] at h
    | list ys =>
      cases m with
      | zero => simp [gd] at h
      | succ m =>
        have a := gd_all (k := k) (xs := xs) (by simpa [gd] using hd)
        have b := gd_all (k := m) (xs := ys) (by simpa [gd] using h)
        simp only [PyData.eqv, PyData.list.injEq]
        exact eqvAll_iff xs ys fun x hx y hy => eqv_iff k m x y (a x hx) (b y hy)
    | _ => simp [PyData.eqv]
  | k + 1, m, .tuple xs, e, hd, h => by
    cases e with
    | bool _ => cases m <;> simp [gd] at h
    | dict _ => cases m <;> simp [gd] at h
    | tuple ys =>
      cases m with
      | zero => simp [gd] at h
      | succ m =>
        have a := gd_all (k := k) (xs := xs) (by simpa [gd] using hd)
        have b := gd_all (k := m) (xs := ys) (by simpa [gd] using h)
        simp only [PyData.eqv, PyData.tuple.injEq]
        exact eqvAll_iff xs ys fun x hx y hy => eqv_iff k m x y (a x hx) (b y hy)
    | _ => simp [PyData.eqv]
theorem eqv_of_eq {k : Nat} {d e : PyData} (h : gd k d = true) (e1 : d = e) : PyData.eqv d e = true := by
  subst e1
  exact (eqv_iff k k d d h h).mpr rfl
theorem eqv_of_ne {k m : Nat} {d e : PyData} (h : gd k d = true) (h' : gd m e = true) (e1 : d ≠ e) : PyData.eqv d e = false := by
  cases q : PyData.eqv d e with
  | false => rfl
  | true => exact absurd ((eqv_iff k m d e h h').mp q) e1
/-- the data of lists of ints, of tuples of ints -/
abbrev dLI (ns : List Int) : PyData := .list (ns.map .int)
abbrev dTI (ns : List Int) : PyData := .tuple (ns.map .int)
theorem gd_int_all (k : Nat) (ns : List Int) : (ns.map PyData.int).all (gd k) = true := by
  rw [List.all_eq_true]
  intro x hx
  obtain ⟨i, _, rfl⟩ := List.mem_map.mp hx
  cases k <;> rfl
theorem gd_dLI {k : Nat} (ns : List Int) : gd (k + 1) (dLI ns) = true := by simp only [dLI, gd]; exact gd_int_all k ns
theorem gd_dTI {k : Nat} (ns : List Int) : gd (k + 1) (dTI ns) = true := by simp only [dTI, gd]; exact gd_int_all k ns
theorem dpAll_ints {K : PySem.W.Frag} {H : Hp} : ∀ ns : List Int, DpAll K H (ns.map V.int) (ns.map PyData.int)
  | [] => .nil
  | n :: ns => .cons (.int n) (dpAll_ints ns)
theorem dp_LI {K : PySem.W.Frag} {H : Hp} {a : Addr} {ns : List Int} (h : SqL K H a (ns.map V.int)) : Dp K H (.ref a) (dLI ns) := .lst h (dpAll_ints ns)
theorem dp_TI {K : PySem.W.Frag} {H : Hp} {a : Addr} {ns : List Int} (h : SqT K H a (ns.map V.int)) : Dp K H (.ref a) (dTI ns) := .tup h (dpAll_ints ns)
theorem dLI_inj {ns ms : List Int} : dLI ns = dLI ms ↔ ns = ms := by
  constructor
  · intro h
    have h' : ns.map PyData.int = ms.map PyData.int := PyData.list.inj h
    exact (List.map_inj_right (fun _ _ q => PyData.int.inj q)).mp h'
  · intro h; rw [h]
theorem dTI_inj {ns ms : List Int} : dTI ns = dTI ms ↔ ns = ms := by
  constructor
  · intro h
    have h' : ns.map PyData.int = ms.map PyData.int := PyData.tuple.inj h
    exact (List.map_inj_right (fun _ _ q => PyData.int.inj q)).mp h'
  · intro h; rw [h]
/-- == of two data -/
theorem eqD {K : PySem.W.Frag} {H : Hp} {x y : V} {d e : PyData} {Q : VK} {k m : Nat} (hd : Dp K H x d) (he : Dp K H y e) (gk : gd k d = true) (gm : gd m e = true) (h1 : d = e → Q (.bl true) H) (h2 : d ≠ e → Q (.bl false) H) (hk : k ≤ 64 := by decide) (hm : m ≤ 64 := by decide) : rEqD K x y H Q := by
  refine ⟨d, e, hd, he, gd_shaped gk hk, gd_shaped gm hm, ?_⟩
  by_cases c : d = e
  · rw [eqv_of_eq gk c]; exact h1 c
  · rw [eqv_of_ne gk gm c]; exact h2 c
theorem neD {K : PySem.W.Frag} {H : Hp} {x y : V} {d e : PyData} {Q : VK} {k m : Nat} (hd : Dp K H x d) (he : Dp K H y e) (gk : gd k d = true) (gm : gd m e = true) (h1 : d = e → Q (.bl false) H) (h2 : d ≠ e → Q (.bl true) H) (hk : k ≤ 64 := by decide) (hm : m ≤ 64 := by decide) : rNeD K x y H Q := by
  refine ⟨d, e, hd, he, gd_shaped gk hk, gd_shaped gm hm, ?_⟩
  by_cases c : d = e
  · rw [eqv_of_eq gk c]; exact h1 c
  · rw [eqv_of_ne gk gm c]; exact h2 c
/-- an item of a list, by its place -/
theorem ixL {K : PySem.W.Frag} {H : Hp} {p : Addr} {xs : List V} {i : Int} {j : Nat} {v : V} {Q : VK} (h : SqL K H p xs) (hi : i = (j : Int)) (e : xs[j]? = some v) (q : Q v H) : rIxL K (.ref p) (.int i) H Q :=
  ⟨p, xs, i, v, rfl, rfl, h, by rw [hi]; exact atI_nat e, q⟩
theorem ixT {K : PySem.W.Frag} {H : Hp} {p : Addr} {xs : List V} {i : Int} {j : Nat} {v : V} {Q : VK} (h : SqT K H p xs) (hi : i = (j : Int)) (e : xs[j]? = some v) (q : Q v H) : rIxT K (.ref p) (.int i) H Q :=
  ⟨p, xs, i, v, rfl, rfl, h, by rw [hi]; exact atI_nat e, q⟩
theorem setL {H : Hp} {p : Addr} {xs : List V} {i : Int} {j : Nat} {v : V} {Q : Hp → Prop} (h : H p = some (.lst xs)) (hi : i = (j : Int)) (e : j < xs.length) (q : Q (upd H p (.lst (xs.set j v)))) : rSetL (.ref p) (.int i) v H Q :=
  ⟨p, xs, i, j, rfl, rfl, h, by rw [hi]; unfold ixN; rw [if_pos (by omega), if_pos (by omega)]; simp, q⟩
end Nk
namespace Nk
open PySem L2
def top (i : Nat) : Stmt := PySem.Challenge.pw_nightkeep_k03_whole_rounds.main.body.getD i (.Pass ⟨0, 0, 0, 0⟩)
abbrev s_is_number : Stmt := top 7
abbrev s_is_rounds : Stmt := top 8
abbrev s_look_rounds : Stmt := top 9
abbrev s_look_night : Stmt := top 10
abbrev s_number_of : Stmt := top 11
abbrev s_first_of : Stmt := top 12
abbrev s_round_of : Stmt := top 13
abbrev s_nights_of : Stmt := top 14
abbrev s__law_town : Stmt := top 16
abbrev s__law_draw : Stmt := top 17
abbrev s__law_pick : Stmt := top 18
abbrev s__law_wide : Stmt := top 19
abbrev s__law_rounds : Stmt := top 20
abbrev s__law_spot : Stmt := top 21
abbrev s_law : Stmt := top 22
/-- what the walks ask of the top as it stands when it has run -/
structure Txt (K : PySem.W.Frag) (mg : Str → Option Value) : Prop where
  d_is_number : Df K mg "is_number" "is_number" s_is_number ["thing", "least", "most"]
  d_is_rounds : Df K mg "is_rounds" "is_rounds" s_is_rounds ["thing"]
  d_look_rounds : Df K mg "look_rounds" "look_rounds" s_look_rounds ["rounds"]
  d_look_night : Df K mg "look_night" "look_night" s_look_night ["night"]
  d_number_of : Df K mg "number_of" "number_of" s_number_of ["rounds", "night"]
  d_first_of : Df K mg "first_of" "first_of" s_first_of ["rounds", "number"]
  d_round_of : Df K mg "round_of" "round_of" s_round_of ["rounds", "night"]
  d_nights_of : Df K mg "nights_of" "nights_of" s_nights_of ["rounds", "number"]
  d__law_town : Df K mg "_law_town" "_law_town" s__law_town ["script"]
  d__law_draw : Df K mg "_law_draw" "_law_draw" s__law_draw ["script", "town", "many"]
  d__law_pick : Df K mg "_law_pick" "_law_pick" s__law_pick ["script", "town", "some"]
  d__law_wide : Df K mg "_law_wide" "_law_wide" s__law_wide ["script", "town", "most_here"]
  d__law_rounds : Df K mg "_law_rounds" "_law_rounds" s__law_rounds ["script", "town", "long", "top"]
  d__law_spot : Df K mg "_law_spot" "_law_spot" s__law_spot ["rounds", "night"]
  d_law : Df K mg "law" "law" s_law ["script"]
  x_KeepError : Xc K mg "KeepError" (cls mg "KeepError")
  x_BadRounds : Xc K mg "BadRounds" (cls mg "BadRounds")
  x_BadNight : Xc K mg "BadNight" (cls mg "BadNight")
  x_BadNumber : Xc K mg "BadNumber" (cls mg "BadNumber")
  c_MOST_NIGHT : ∃ t, mg "MOST_NIGHT" = some (.int 1000000000 t)
  b_all : mg "all" = none
  b_bool : mg "bool" = none
  b_int : mg "int" = none
  b_isinstance : mg "isinstance" = none
  b_len : mg "len" = none
  b_list : mg "list" = none
  b_range : mg "range" = none
  b_sum : mg "sum" = none
  b_tuple : mg "tuple" = none
end Nk
local macro_rules | `(tactic| walk_at "rd") => `(tactic| (try simp only [L2.tRet, L2.tAndV, L2.tOrV, L2.tNotV, L2.tCB, L2.tCons, L2.tNil, L2.tVar, L2.tC, L2.tChain, L2.tOp, L2.tUn, L2.rI, L2.rI0, L2.rU, L2.rEq, L2.rNe, L2.scal, L2.tTest, L2.tB, L2.tAnd, L2.tOr, L2.tNot, L2.tIf, L2.tIfS, L2.tSeq, L2.tNext, L2.tAsg, L2.gName, L2.gCons, L2.gNil, L2.gSub, L2.tDrop, L2.tRetN, L2.tCall, L2.tIsN, L2.tNotN, L2.tSl, L2.tPart, L2.tNoPart, L2.tPar, L2.tAug, L2.tBreak, L2.tCont, L2.tTup, L2.tLst, Nk.szN, Nat.reduceLeDiff, L2.tYes, L2.wipe, L2.start, L2.cxOf, List.map_cons, List.map_nil, List.cons_append, List.nil_append, List.append_nil, List.length_cons, List.length_nil, List.replicate, Nat.sub_self, Nat.zero_add, Nat.reduceAdd, Nat.reduceSub, List.set_cons_zero, List.set_cons_succ, List.getElem?_cons_zero, List.getElem?_cons_succ, Option.some.injEq, exists_and_left, exists_eq_left', exists_eq_left, L2.V.int.injEq, L2.V.bl.injEq, L2.V.str.injEq, L2.V.ref.injEq, true_and, and_true, decide_eq_true_eq, Bool.not_true, Bool.not_false, if_true, if_false, Bool.false_eq_true, reduceIte, List.cons.injEq, reduceCtorEq, decide_true, decide_false, decide_eq_false_iff_not, Bool.not_eq_true', Bool.not_not]))
local macro_rules | `(tactic| walk_at "rs") => `(tactic| (try simp only [L2.tRet, L2.tAndV, L2.tOrV, L2.tNotV, L2.tCB, L2.tCons, L2.tNil, L2.tVar, L2.tC, L2.tChain, L2.tOp, L2.tUn, L2.rI, L2.rI0, L2.rU, L2.rEq, L2.rNe, Nk.scal_ii, Nk.scal_ss, Nk.scal_bb, Nk.scal_nn, Nk.scal_ni, Nk.scal_in, Nk.scal_ns, Nk.scal_sn, Nk.scal_is, Nk.scal_si, L2.tTest, L2.tB, L2.tAnd, L2.tOr, L2.tNot, L2.tIf, L2.tIfS, L2.tNext, L2.tAsg, L2.gName, L2.gCons, L2.gNil, L2.gSub, L2.tDrop, L2.tRetN, L2.tCall, L2.tIsN, L2.tNotN, L2.tSl, L2.tPart, L2.tNoPart, L2.tPar, L2.tAug, L2.tBreak, L2.tCont, L2.tTup, L2.tLst, Nk.szN, Nat.reduceLeDiff, L2.tYes, L2.wipe, L2.start, L2.cxOf, List.map_cons, List.map_nil, List.cons_append, List.nil_append, List.append_nil, List.length_cons, List.length_nil, List.replicate, Nat.sub_self, Nat.zero_add, Nat.reduceAdd, Nat.reduceSub, List.set_cons_zero, List.set_cons_succ, List.getElem?_cons_zero, List.getElem?_cons_succ, Option.some.injEq, exists_and_left, exists_eq_left', exists_eq_left, L2.V.int.injEq, L2.V.bl.injEq, L2.V.str.injEq, L2.V.ref.injEq, true_and, and_true, decide_eq_true_eq, Bool.not_true, Bool.not_false, if_true, if_false, Bool.false_eq_true, reduceIte, List.cons.injEq, reduceCtorEq, decide_true, decide_false, decide_eq_false_iff_not, Bool.not_eq_true', Bool.not_not]))
namespace Nk
open PySem L2
section
variable {P : Program} {w : World} {K : PySem.W.Frag} {mg : Str → Option Value} {base : Heap}
abbrev nm_is_number : List Str := ["thing", "least", "most"]
abbrev pm_is_number : List Str := ["thing", "least", "most"]
abbrev lv_is_number : Nat := 1
theorem sc_is_number : FnScope nm_is_number pm_is_number (defScope s_is_number) := ⟨rfl, rfl, rfl, by decide +kernel, rfl, by decide +kernel, by decide +kernel⟩
def sp_is_number (K : PySem.W.Frag) : Sp := fun vs H Q _ => ∃ (x : V) (n : String) (lo : Int) (y : V), vs = [x, .int lo, y] ∧ Thing K H x n ∧ (∀ i, x = .int i → ∃ hi, y = .int hi) ∧ Q (.bl (isNumV x lo y)) H
theorem f_is_number (T : Txt K mg) : Fk P w K mg base CX0 lv_is_number "is_number" pm_is_number (sp_is_number K) := by
  obtain ⟨f, fd, F, g, b⟩ := T.d_is_number.ex
  refine ⟨f, fd, g, F.kp, b, F.ok sc_is_number (fun vs H Q E h => ?_) (fun cdv A outer s H vs Q E hr h => ?_)⟩
  · obtain ⟨x, n, lo, y, rfl, _⟩ := h; rfl
  · obtain ⟨x, n, lo, y, rfl, hx, hy, q⟩ := h
    refine ⟨_, (pss_one (ps_ret (pe_and (pe_callB call_isi (by rfl) T.b_isinstance (by decide +kernel) (pa_cons (pv 0) (pa_cons (pe_bltn (v := .ty "int") (by rfl) T.b_int (by decide +kernel) rfl) pa_nil))) (pe_and (pe_not (pe_callB call_isi (by rfl) T.b_isinstance (by decide +kernel) (pa_cons (pv 0) (pa_cons (pe_bltn (v := .ty "bool") (by rfl) T.b_bool (by decide +kernel) rfl) pa_nil)))) (pe_one (pe_chain op_le op_le (pv 1) (pv 0) (pv 2))))))), ?_⟩
    walk_at "rd"
    refine isi_thing hx (by decide) ?_
    cases hx with
    | int i =>
      obtain ⟨hi, rfl⟩ := hy i rfl
      simp only [show isA "int" "int" = true from by decide]
      walk_at "rd"
      refine isi_thing (.int i) (by decide) ?_
      simp only [show isA "int" "bool" = false from by decide]
      walk_at "rd"
      simp only [isNumV] at q
      by_cases c : lo ≤ i
      · simpa [c] using q
      · simpa [c] using q
    | bl i =>
      simp only [show isA "bool" "int" = true from by decide]
      walk_at "rd"
      refine isi_thing (.bl i) (by decide) ?_
      simp only [show isA "bool" "bool" = true from by decide]
      walk_at "rd"
      exact q
    | _ => exact ⟨false, rfl, q⟩
/-- whether a thing is rounds -/
def isRoundsV (H : Hp) (x : V) : Bool := match x with
  | .ref a => match H a with
    | some (.tup xs) => decide (1 ≤ xs.length) && decide (xs.length ≤ 12) && xs.all fun y => isNumV y 1 (.int 31)
    | _ => false
  | _ => false
/-- a thing, and what is in it if it is a tuple -/
def Thing2 (K : PySem.W.Frag) (H : Hp) (x : V) : Prop := (∃ n, Thing K H x n) ∧ ∀ a xs, x = .ref a → H a = some (.tup xs) → xs.length ≤ 100000 ∧ ∀ y ∈ xs, ∃ m, Thing K H y m
abbrev nm_is_rounds : List Str := ["thing", "one"]
abbrev pm_is_rounds : List Str := ["thing"]
abbrev lv_is_rounds : Nat := 2
theorem sc_is_rounds : FnScope nm_is_rounds pm_is_rounds (defScope s_is_rounds) := ⟨rfl, rfl, rfl, by decide +kernel, rfl, by decide +kernel, by decide +kernel⟩
def sp_is_rounds (K : PySem.W.Frag) : Sp := fun vs H Q _ => ∃ (x : V), vs = [x] ∧ Thing2 K H x ∧ ∀ H', Same H H' → Q (.bl (isRoundsV H x)) H'
theorem f_is_rounds (T : Txt K mg) : Fk P w K mg base CX0 lv_is_rounds "is_rounds" pm_is_rounds (sp_is_rounds K) := by
  obtain ⟨f, fd, F, g, b⟩ := T.d_is_rounds.ex
  refine ⟨f, fd, g, F.kp, b, F.ok sc_is_rounds (fun vs H Q E h => ?_) (fun cdv A outer s H vs Q E hr h => ?_)⟩
  · obtain ⟨x, rfl, _⟩ := h; rfl
  · obtain ⟨x, rfl, ⟨⟨n, hx⟩, hin⟩, q⟩ := h
    refine ⟨_, (pss_cons (ps_if (PW.pt (pw_or (pt_not (pt_val (pe_callB call_isi (by rfl) T.b_isinstance (by decide +kernel) (pa_cons (pv 0) (pa_cons (pe_bltn (v := .ty "tuple") (by rfl) T.b_tuple (by decide +kernel) rfl) pa_nil))))) (pw_or1 (pt_not (pt_chain op_le op_le pe_int (pe_callB call_len_seq (by rfl) T.b_len PySem.boot_len (pa_cons (pv 0) pa_nil)) pe_int))))) (pss_one (ps_ret pe_bl)) pss_nil)
      (pss_one (ps_ret (pe_callB (cr_all rfl) (by rfl) T.b_all (by decide +kernel) (pa_cons (pe_lc (own := [("one", 1)]) (g := gName 1) (tt := tYes) (by rfl) sc_is_rounds.nd (pi_tup (pv 0)) (blkOk_by (own := [("one", 1)]) (N := nm_is_rounds) (sc := defScope s_is_rounds) (by decide +kernel)) (fun _ _ _ _ _ => (pg_name (i := 1) sc_is_rounds.nd rfl (Or.inl rfl))) (fun _ _ _ _ _ => pts_nil) (fun _ _ _ _ _ => (pe_fn (f_is_number T) (hr.mono (by decide)) (by rfl) pass0 (pa_cons (pv 1) (pa_cons pe_int (pa_cons pe_int pa_nil)))))) pa_nil))))), ?_⟩
    walk_at "rd"
    refine isi_thing hx (by decide) ?_
    cases hx with
    | @tup a xs ha =>
      obtain ⟨hz, hth⟩ := hin a xs rfl ha
      simp only [show isA "tuple" "tuple" = true from by decide]
      walk_at "rd"
      refine ⟨xs, .inr (sqT ha), ?_⟩
      have e0 : isRoundsV H (.ref a) = (decide (1 ≤ xs.length) && decide (xs.length ≤ 12) && xs.all fun y => isNumV y 1 (.int 31)) := by
        simp only [isRoundsV, ha]
      rw [e0] at q
      by_cases c1 : 1 ≤ xs.length
      · by_cases c2 : xs.length ≤ 12
        · have d1 : (1 : Int) ≤ (xs.length : Int) := by omega
          have d2 : (xs.length : Int) ≤ 12 := by omega
          simp only [d1, d2]
          walk_at "rd"
          refine ⟨_, rfl, a, rfl, ⟨xs, sqT ha⟩, fun D hD => ?_⟩
          refine lcT hD (sqT ha) (fun i => (xs.take i).map fun y => .bl (isNumV y 1 (.int 31))) rfl (fun i y H2 hy p => ?_) (fun H2 s2 hD2 => ?_)
          · walk_at "rd"
            obtain ⟨m, hm⟩ := hth y (mem_of_get hy)
            refine ⟨y, m, 1, .int 31, rfl, Thing.same p.same hm, fun _ _ => ⟨31, rfl⟩, ?_⟩
            exact p.push hD (by simp; omega) (Same.refl _) (map_take_next _ hy)
          · refine ⟨D, xs.map fun y => isNumV y 1 (.int 31), rfl, ?_, ?_⟩
            · rw [List.take_length] at hD2
              rw [List.map_map]
              exact sqL hD2
            · have := q H2 s2
              simpa [c1, c2, List.all_map, Function.comp_def] using this
        · have d1 : (1 : Int) ≤ (xs.length : Int) := by omega
          have d2 : ¬ (xs.length : Int) ≤ 12 := by omega
          simp only [d1, d2]
          walk_at "rd"
          simpa [c2] using q H (Same.refl H)
      · have d1 : ¬ (1 : Int) ≤ (xs.length : Int) := by omega
        simp only [d1]
        walk_at "rd"
        simpa [c1] using q H (Same.refl H)
    | _ => exact ⟨false, by rfl, by simpa [isRoundsV, *] using q H (Same.refl H)⟩
/-- rounds as a tuple that stands -/
structure RndsAt (H : Hp) (a : Addr) (rs : List Int) : Prop where
  at_ : H a = some (.tup (rs.map V.int))
  ok : Rnds rs
  le : ∀ r ∈ rs, r ≤ 31
  ln : rs.length ≤ 12
theorem RndsAt.same {H H' : Hp} {a : Addr} {rs : List Int} (h : RndsAt H a rs) (s : Same H H') : RndsAt H' a rs := ⟨s _ _ h.at_, h.ok, h.le, h.ln⟩
theorem RndsAt.but {H H' : Hp} {a t : Addr} {rs : List Int} {l : List V} (h : RndsAt H a rs) (s : But t H H') (ht : H t = some (.lst l)) : RndsAt H' a rs := ⟨s _ _ h.at_ (ne_of h.at_ ht (by intro z; cases z)), h.ok, h.le, h.ln⟩
theorem RndsAt.thing {H : Hp} {a : Addr} {rs : List Int} (h : RndsAt H a rs) : Thing2 K H (.ref a) := by
  refine ⟨⟨_, .tup h.at_⟩, fun b xs e hb => ?_⟩
  cases e
  rw [h.at_] at hb
  cases hb
  refine ⟨by have := h.ln; simp; omega, fun y hy => ?_⟩
  obtain ⟨i, _, rfl⟩ := List.mem_map.mp hy
  exact ⟨_, .int i⟩
theorem RndsAt.is {H : Hp} {a : Addr} {rs : List Int} (h : RndsAt H a rs) : isRoundsV H (.ref a) = true := by
  have h1 := h.ok.len
  have h2 := h.ln
  have h3 : rs.all (fun y => isNumV (V.int y) 1 (V.int 31)) = true := by
    rw [List.all_eq_true]
    intro y hy
    simp [isNumV, h.ok.pos y hy, h.le y hy]
  simp only [isRoundsV, h.at_, List.length_map, List.all_map, Function.comp_def, h3, Bool.and_true, Bool.and_eq_true, decide_eq_true_eq]
  omega
theorem sum_le31 : ∀ {rs : List Int}, (∀ r ∈ rs, r ≤ 31) → rs.sum ≤ 31 * rs.length
  | [], _ => by simp
  | r :: rs, h => by
    have h1 := h r List.mem_cons_self
    have h2 := sum_le31 (rs := rs) fun x hx => h x (List.mem_cons_of_mem _ hx)
    simp only [List.sum_cons, List.length_cons]
    push_cast
    omega
theorem RndsAt.sum_le {H : Hp} {a : Addr} {rs : List Int} (h : RndsAt H a rs) : rs.sum ≤ 372 := by
  have := sum_le31 h.le
  have := h.ln
  omega
abbrev nm_look_rounds : List Str := ["rounds"]
abbrev pm_look_rounds : List Str := ["rounds"]
abbrev lv_look_rounds : Nat := 3
theorem sc_look_rounds : FnScope nm_look_rounds pm_look_rounds (defScope s_look_rounds) := ⟨rfl, rfl, rfl, by decide +kernel, rfl, by decide +kernel, by decide +kernel⟩
/-- look_rounds: nothing, or BadRounds -/
def sp_look_rounds (K : PySem.W.Frag) (mg : Str → Option Value) : Sp := fun vs H Q E => ∃ (x : V), vs = [x] ∧ Thing2 K H x ∧ (isRoundsV H x = true → ∀ H', Same H H' → Q .non H') ∧ (isRoundsV H x = false → ∀ H', Same H H' → E (.ref (cls mg "BadRounds")) none H')
theorem f_look_rounds (T : Txt K mg) : Fk P w K mg base (L2.CX P w) lv_look_rounds "look_rounds" pm_look_rounds (sp_look_rounds K mg) := by
  obtain ⟨f, fd, F, g, b⟩ := T.d_look_rounds.ex
  refine ⟨f, fd, g, F.kp, b, F.okX sc_look_rounds (fun vs H Q E h => ?_) (fun cdv A outer s H vs Q E hr h => ?_)⟩
  · obtain ⟨x, rfl, _⟩ := h; rfl
  · obtain ⟨x, rfl, hx, q1, q2⟩ := h
    refine ⟨_, (pss_one (ps_if (pt_not (pt_val (pe_fn (f_is_rounds T) (hr.mono (by decide)) (by rfl) pass0 (pa_cons (pv 0) pa_nil)))) (pss_one (ps_raise rfl (takes_of rfl rfl rfl rfl) (pmk_own PySem.F.excBase_RuntimeError T.x_BadRounds.xP T.x_BadRounds.gP T.x_BadRounds.kP T.x_BadRounds.rs rfl))) pss_nil)), ?_⟩
    walk_at "rd"
    refine ⟨x, rfl, hx, fun H' s' => ?_⟩
    walk_at "rd"
    cases e : isRoundsV H x with
    | true => exact q1 e H' s'
    | false => exact q2 e H' s'
abbrev nm_look_night : List Str := ["night"]
abbrev pm_look_night : List Str := ["night"]
abbrev lv_look_night : Nat := 2
theorem sc_look_night : FnScope nm_look_night pm_look_night (defScope s_look_night) := ⟨rfl, rfl, rfl, by decide +kernel, rfl, by decide +kernel, by decide +kernel⟩
def sp_look_night (K : PySem.W.Frag) (mg : Str → Option Value) : Sp := fun vs H Q E => ∃ (x : V) (n : String), vs = [x] ∧ Thing K H x n ∧ (isNumV x 0 (.int 1000000000) = true → Q .non H) ∧ (isNumV x 0 (.int 1000000000) = false → E (.ref (cls mg "BadNight")) none H)
theorem f_look_night (T : Txt K mg) : Fk P w K mg base (L2.CX P w) lv_look_night "look_night" pm_look_night (sp_look_night K mg) := by
  obtain ⟨f, fd, F, g, b⟩ := T.d_look_night.ex
  refine ⟨f, fd, g, F.kp, b, F.okX sc_look_night (fun vs H Q E h => ?_) (fun cdv A outer s H vs Q E hr h => ?_)⟩
  · obtain ⟨x, n, rfl, _⟩ := h; rfl
  · obtain ⟨x, n, rfl, hx, q1, q2⟩ := h
    refine ⟨_, (pss_one (ps_if (pt_not (pt_val (pe_fn (f_is_number T) (hr.mono (by decide)) (by rfl) pass0 (pa_cons (pv 0) (pa_cons pe_int (pa_cons (pe_globI T.c_MOST_NIGHT (by rfl)) pa_nil)))))) (pss_one (ps_raise rfl (takes_of rfl rfl rfl rfl) (pmk_own PySem.F.excBase_RuntimeError T.x_BadNight.xP T.x_BadNight.gP T.x_BadNight.kP T.x_BadNight.rs rfl))) pss_nil)), ?_⟩
    walk_at "rd"
    refine ⟨x, n, 0, _, rfl, hx, fun _ _ => ⟨_, rfl⟩, ?_⟩
    walk_at "rd"
    cases e : isNumV x 0 (.int 1000000000) with
    | true => exact q1 e
    | false => exact q2 e
abbrev nm_number_of : List Str := ["rounds", "night", "whole", "found", "left", "long"]
abbrev pm_number_of : List Str := ["rounds", "night"]
abbrev lv_number_of : Nat := 1
theorem sc_number_of : FnScope nm_number_of pm_number_of (defScope s_number_of) := ⟨rfl, rfl, rfl, by decide +kernel, rfl, by decide +kernel, by decide +kernel⟩
def sp_number_of : Sp := fun vs H Q _ => ∃ (a : Addr) (rs : List Int) (n : Int), vs = [.ref a, .int n] ∧ RndsAt H a rs ∧ Q (.int (numOf rs n)) H
def iv_number_of (a : Addr) (rs : List Int) (n : Int) (H : Hp) (i : Nat) (σ : L2.St) (H' : Hp) : Prop := H' = H ∧ ∃ (fo le : Int) (v : Option V), σ = [some (.ref a), some (.int n), some (.int rs.sum), some (.int fo), some (.int le), v] ∧ walkR (rs.drop i) le fo = numOf rs n
theorem f_number_of (T : Txt K mg) : Fk P w K mg base CX0 lv_number_of "number_of" pm_number_of sp_number_of := by
  obtain ⟨f, fd, F, g, b⟩ := T.d_number_of.ex
  refine ⟨f, fd, g, F.kp, b, F.ok sc_number_of (fun vs H Q E h => ?_) (fun cdv A outer s H vs Q E hr h => ?_)⟩
  · obtain ⟨a, rs, n, rfl, _⟩ := h; rfl
  · obtain ⟨a, rs, n, rfl, ha, q⟩ := h
    refine ⟨_, (pss_cons (ps_set (i := 2) sc_number_of.nd rfl (.inl rfl) (pe_callB (cr_sumT rfl) (by rfl) T.b_sum (by decide +kernel) (pa_cons (pv 0) pa_nil)))
      (pss_cons (ps_set (i := 3) sc_number_of.nd rfl (.inl rfl) (pe_op op_mul (pe_op op_fdiv (pv 1) (pv 2)) (pe_callB call_len_seq (by rfl) T.b_len PySem.boot_len (pa_cons (pv 0) pa_nil))))
      (pss_cons (ps_set (i := 4) sc_number_of.nd rfl (.inl rfl) (pe_op op_mod (pv 1) (pv 2)))
      (pss_cons (ps_for PassesOwn.never rfl (pi_tup (pv 0)) (pg_name (i := 5) sc_number_of.nd rfl (Or.inl rfl)) (pss_cons (ps_if (pt_cmpR op_lt (pv 4) (pv 5) (nomark _)) (pss_one (ps_ret (pv 3))) pss_nil)
      (pss_cons (ps_set (i := 4) sc_number_of.nd rfl (.inl rfl) (pe_op op_sub (pv 4) (pv 5)))
      (pss_one (ps_set (i := 3) sc_number_of.nd rfl (.inl rfl) (pe_op op_add (pv 3) pe_int))))))
      (pss_one (ps_ret (pv 3))))))), ?_⟩
    walk_at "rd"
    have hs := ha.ok.sum
    have hs' := ha.sum_le
    have hl := ha.ln
    refine ⟨a, rs, rfl, sqT ha.at_, ?_⟩
    walk_at "rd"
    refine ⟨⟨hs, by omega⟩, rs.map V.int, .inr (sqT ha.at_), .inr ⟨by simp; omega, by simp; omega⟩, hs, ?_⟩
    refine ⟨_, rfl, a, rfl, ⟨_, sqT ha.at_⟩, for_tup (K := K) (a := a) (xs := rs.map V.int) (iv_number_of a rs n H)
      ⟨rfl, _, _, _, rfl, by simp [numOf]⟩ (fun i σ H' _ p => by rw [p.1]; exact sqT ha.at_) ?_ ?_⟩
    · rintro i x σ H' hi ⟨rfl, fo, le, v, rfl, hw⟩
      rw [List.getElem?_map] at hi
      cases e : rs[i]? with
      | none => rw [e] at hi; cases hi
      | some r =>
        rw [e] at hi
        cases hi
        have hlt := lt_of_get e
        have ed : rs.drop i = r :: rs.drop (i + 1) := by
          rw [List.drop_eq_getElem_cons hlt]
          rw [(List.getElem?_eq_some_iff.mp e).2]
        rw [ed] at hw
        unfold walkR at hw
        walk_at "rd"
        by_cases c : le < r
        · rw [if_pos c] at hw
          rw [if_pos c, hw]
          exact q
        · rw [if_neg c] at hw
          rw [if_neg c]
          exact ⟨rfl, _, _, _, rfl, hw⟩
    · rintro σ H' ⟨rfl, fo, le, v, rfl, hw⟩
      rw [List.length_map, List.drop_length] at hw
      walk_at "rd"
      unfold walkR at hw
      rw [hw]
      exact q
abbrev nm_first_of : List Str := ["rounds", "number"]
abbrev pm_first_of : List Str := ["rounds", "number"]
abbrev lv_first_of : Nat := 1
theorem sc_first_of : FnScope nm_first_of pm_first_of (defScope s_first_of) := ⟨rfl, rfl, rfl, by decide +kernel, rfl, by decide +kernel, by decide +kernel⟩
def sp_first_of : Sp := fun vs H Q _ => ∃ (a : Addr) (rs : List Int) (n : Int), vs = [.ref a, .int n] ∧ RndsAt H a rs ∧ ∀ H', Same H H' → Q (.int (firstOf rs n)) H'
theorem cut_pre (rs : List Int) (j : Nat) : cutV (rs.map V.int) none (some (j : Int)) = (rs.take j).map V.int := by
  unfold cutV
  rw [HT.sIx_none, HT.sIx_nat, List.drop_zero, Nat.sub_zero, List.length_map, ← List.map_take]
  congr 1
  by_cases h : j ≤ rs.length
  · rw [Nat.min_eq_left h]
  · rw [Nat.min_eq_right (by omega), List.take_length, List.take_of_length_le (by omega)]
theorem f_first_of (T : Txt K mg) : Fk P w K mg base CX0 lv_first_of "first_of" pm_first_of sp_first_of := by
  obtain ⟨f, fd, F, g, b⟩ := T.d_first_of.ex
  refine ⟨f, fd, g, F.kp, b, F.ok sc_first_of (fun vs H Q E h => ?_) (fun cdv A outer s H vs Q E hr h => ?_)⟩
  · obtain ⟨a, rs, n, rfl, _⟩ := h; rfl
  · obtain ⟨a, rs, n, rfl, ha, q⟩ := h
    refine ⟨_, (pss_one (ps_ret (pe_op op_add (pe_op op_mul (pe_op op_fdiv (pv 1) (pe_callB call_len_seq (by rfl) T.b_len PySem.boot_len (pa_cons (pv 0) pa_nil))) (pe_callB (cr_sumT rfl) (by rfl) T.b_sum (by decide +kernel) (pa_cons (pv 0) pa_nil))) (pe_callB (cr_sumT rfl) (by rfl) T.b_sum (by decide +kernel) (pa_cons (pe_slice sl_tup (pv 0) po_none (po_some (pe_op op_mod (pv 1) (pe_callB call_len_seq (by rfl) T.b_len PySem.boot_len (pa_cons (pv 0) pa_nil))))) pa_nil))))), ?_⟩
    walk_at "rd"
    have hs := ha.ok.sum
    have hs' := ha.sum_le
    have hl := ha.ln
    have hl0 := ha.ok.len
    have hM : (rs.map V.int).length = rs.length := List.length_map _
    refine ⟨rs.map V.int, .inr (sqT ha.at_), ?_, a, rs, rfl, sqT ha.at_, ?_⟩
    · rw [hM]; exact ⟨by omega, by omega⟩
    rw [hM]
    refine ⟨_, rfl, .inr ⟨by omega, by omega⟩, rs.map V.int, .inr (sqT ha.at_), by rw [hM]; omega, ?_⟩
    rw [hM]
    obtain ⟨j, hj, e, _⟩ := emod_nat (k := n) hl0
    have e1 : cutV (rs.map V.int) none (some (n % ↑rs.length)) = (rs.take j).map V.int := by rw [e]; exact cut_pre rs j
    refine ⟨a, rs.map V.int, rfl, sqT ha.at_, ?_, fun p hp => ?_⟩
    · rw [e, HT.sIx_nat, hM]
      omega
    rw [e1]
    refine ⟨p, rs.take j, rfl, sqT upd_same, _, rfl, ?_⟩
    have := q _ (same_upd (o := .tup ((rs.take j).map V.int)) hp)
    unfold firstOf pre at this
    rw [e] at this
    simpa using this
abbrev nm_round_of : List Str := ["rounds", "night"]
abbrev pm_round_of : List Str := ["rounds", "night"]
abbrev lv_round_of : Nat := 4
theorem sc_round_of : FnScope nm_round_of pm_round_of (defScope s_round_of) := ⟨rfl, rfl, rfl, by decide +kernel, rfl, by decide +kernel, by decide +kernel⟩
def sp_round_of (K : PySem.W.Frag) (mg : Str → Option Value) : Sp := fun vs H Q E => ∃ (x y : V) (n : String), vs = [x, y] ∧ Thing2 K H x ∧ Thing K H y n ∧
  (isRoundsV H x = false → ∀ H', Same H H' → E (.ref (cls mg "BadRounds")) none H') ∧
  (isRoundsV H x = true → isNumV y 0 (.int 1000000000) = false → ∀ H', Same H H' → E (.ref (cls mg "BadNight")) none H') ∧
  (isRoundsV H x = true → isNumV y 0 (.int 1000000000) = true → ∃ (a : Addr) (rs : List Int) (m : Int), x = .ref a ∧ y = .int m ∧ RndsAt H a rs ∧ ∀ H', Same H H' → Q (.int (numOf rs m)) H')
theorem f_round_of (T : Txt K mg) : Fk P w K mg base (L2.CX P w) lv_round_of "round_of" pm_round_of (sp_round_of K mg) := by
  obtain ⟨f, fd, F, g, b⟩ := T.d_round_of.ex
  refine ⟨f, fd, g, F.kp, b, F.okX sc_round_of (fun vs H Q E h => ?_) (fun cdv A outer s H vs Q E hr h => ?_)⟩
  · obtain ⟨x, y, n, rfl, _⟩ := h; rfl
  · obtain ⟨x, y, n, rfl, hx, hy, q1, q2, q3⟩ := h
    refine ⟨_, (pss_cons (ps_expr (pe_fn (f_look_rounds T) (hr.mono (by decide)) (by rfl) (passX (takes_of rfl rfl rfl rfl)) (pa_cons (pv 0) pa_nil)))
      (pss_cons (ps_expr (pe_fn (f_look_night T) (hr.mono (by decide)) (by rfl) (passX (takes_of rfl rfl rfl rfl)) (pa_cons (pv 1) pa_nil)))
      (pss_one (ps_ret (pe_fn (f_number_of T) (hr.mono (by decide)) (by rfl) pass0 (pa_cons (pv 0) (pa_cons (pv 1) pa_nil))))))), ?_⟩
    walk_at "rd"
    refine ⟨x, rfl, hx, fun e H' s' => ?_, q1⟩
    walk_at "rd"
    refine ⟨y, n, rfl, Thing.same s' hy, fun e2 => ?_, fun e2 => q2 e e2 H' s'⟩
    obtain ⟨a, rs, m, rfl, rfl, ha, q⟩ := q3 e e2
    walk_at "rd"
    exact ⟨a, rs, m, rfl, ha.same s', q H' s'⟩
abbrev nm_nights_of : List Str := ["rounds", "number"]
abbrev pm_nights_of : List Str := ["rounds", "number"]
abbrev lv_nights_of : Nat := 4
theorem sc_nights_of : FnScope nm_nights_of pm_nights_of (defScope s_nights_of) := ⟨rfl, rfl, rfl, by decide +kernel, rfl, by decide +kernel, by decide +kernel⟩
def sp_nights_of (K : PySem.W.Frag) (mg : Str → Option Value) : Sp := fun vs H Q E => ∃ (x y : V) (n : String), vs = [x, y] ∧ Thing2 K H x ∧ Thing K H y n ∧
  (isRoundsV H x = false → ∀ H', Same H H' → E (.ref (cls mg "BadRounds")) none H') ∧
  (isRoundsV H x = true → isNumV y 0 (.int 1000000000) = false → ∀ H', Same H H' → E (.ref (cls mg "BadNumber")) none H') ∧
  (isRoundsV H x = true → isNumV y 0 (.int 1000000000) = true → ∃ (a : Addr) (rs : List Int) (m : Int), x = .ref a ∧ y = .int m ∧ RndsAt H a rs ∧ ∀ H' p, Same H H' → H p = none → H' p = some (.tup [.int (firstOf rs m), .int (firstOf rs (m + 1) - 1)]) → Q (.ref p) H')
theorem f_nights_of (T : Txt K mg) : Fk P w K mg base (L2.CX P w) lv_nights_of "nights_of" pm_nights_of (sp_nights_of K mg) := by
  obtain ⟨f, fd, F, g, b⟩ := T.d_nights_of.ex
  refine ⟨f, fd, g, F.kp, b, F.okX sc_nights_of (fun vs H Q E h => ?_) (fun cdv A outer s H vs Q E hr h => ?_)⟩
  · obtain ⟨x, y, n, rfl, _⟩ := h; rfl
  · obtain ⟨x, y, n, rfl, hx, hy, q1, q2, q3⟩ := h
    refine ⟨_, (pss_cons (ps_expr (pe_fn (f_look_rounds T) (hr.mono (by decide)) (by rfl) (passX (takes_of rfl rfl rfl rfl)) (pa_cons (pv 0) pa_nil)))
      (pss_cons (ps_if (pt_not (pt_val (pe_fn (f_is_number T) (hr.mono (by decide)) (by rfl) pass0 (pa_cons (pv 1) (pa_cons pe_int (pa_cons (pe_globI T.c_MOST_NIGHT (by rfl)) pa_nil)))))) (pss_one (ps_raise rfl (takes_of rfl rfl rfl rfl) (pmk_own PySem.F.excBase_RuntimeError T.x_BadNumber.xP T.x_BadNumber.gP T.x_BadNumber.kP T.x_BadNumber.rs rfl))) pss_nil)
      (pss_one (ps_ret (pe_tup (pa_cons (pe_fn (f_first_of T) (hr.mono (by decide)) (by rfl) pass0 (pa_cons (pv 0) (pa_cons (pv 1) pa_nil))) (pa_cons (pe_op op_sub (pe_fn (f_first_of T) (hr.mono (by decide)) (by rfl) pass0 (pa_cons (pv 0) (pa_cons (pe_op op_add (pv 1) pe_int) pa_nil))) pe_int) pa_nil))))))), ?_⟩
    walk_at "rd"
    refine ⟨x, rfl, hx, fun e H' s' => ?_, q1⟩
    walk_at "rd"
    refine ⟨y, n, 0, .int 1000000000, rfl, Thing.same s' hy, fun _ _ => ⟨_, rfl⟩, ?_⟩
    walk_at "rd"
    cases e2 : isNumV y 0 (.int 1000000000) with
    | false => exact q2 e e2 H' s'
    | true =>
      obtain ⟨a, rs, m, rfl, rfl, ha, q⟩ := q3 e e2
      walk_at "rd"
      refine ⟨a, rs, m, rfl, ha.same s', fun H2 s2 => ?_⟩
      walk_at "rd"
      refine ⟨a, rs, m + 1, rfl, (ha.same s').same s2, fun H3 s3 => ?_⟩
      walk_at "rd"
      exact fun p hp => q _ p (((s'.trans s2).trans s3).trans (same_upd hp)) (((s'.trans s2).trans s3).free hp) upd_same
theorem isNum_ok {n : Int} (h0 : 0 ≤ n) (h1 : n ≤ 1000000000) : isNumV (.int n) 0 (.int 1000000000) = true := by simp [isNumV, h0, h1]
theorem round_good {H : Hp} {r : Addr} {rs : List Int} {n : Int} {Q : VK} {E : XK} (R : RndsAt H r rs) (h0 : 0 ≤ n) (h1 : n ≤ 1000000000) (q : ∀ H', Same H H' → Q (.int (numOf rs n)) H') : sp_round_of K mg [.ref r, .int n] H Q E :=
  ⟨.ref r, .int n, "int", rfl, R.thing, .int _, (fun e => by rw [R.is] at e; cases e), (fun _ e => by rw [isNum_ok h0 h1] at e; cases e), fun _ _ => ⟨r, rs, n, rfl, rfl, R, q⟩⟩
theorem nights_good {H : Hp} {r : Addr} {rs : List Int} {n : Int} {Q : VK} {E : XK} (R : RndsAt H r rs) (h0 : 0 ≤ n) (h1 : n ≤ 1000000000) (q : ∀ H' p, Same H H' → H p = none → H' p = some (.tup [.int (firstOf rs n), .int (firstOf rs (n + 1) - 1)]) → Q (.ref p) H') : sp_nights_of K mg [.ref r, .int n] H Q E :=
  ⟨.ref r, .int n, "int", rfl, R.thing, .int _, (fun e => by rw [R.is] at e; cases e), (fun _ e => by rw [isNum_ok h0 h1] at e; cases e), fun _ _ => ⟨r, rs, n, rfl, rfl, R, q⟩⟩
end
end Nk
namespace Nk
open PySem L2
section
variable {P : Program} {w : World} {K : PySem.W.Frag} {mg : Str → Option Value} {base : Heap}
/-- the script at a and the town at t: c draws so far -/
structure Tn (K : PySem.W.Frag) (H : Hp) (a t : Addr) (ns : List Int) (c : Nat) : Prop where
  scr : SqN K H a t (ns.map V.int)
  len : ns.length ≤ 63
  town : ∃ ls : List Int, ls.length = ns.length ∧ H t = some (.lst (V.int c :: ls.map V.int))
theorem Tn.same {H H' : Hp} {a t : Addr} {ns : List Int} {c : Nat} (h : Tn K H a t ns c) (s : Same H H') : Tn K H' a t ns c := by
  obtain ⟨ls, e, ht⟩ := h.town
  exact ⟨h.scr.same s, h.len, ls, e, s _ _ ht⟩
theorem Tn.lst {H : Hp} {a t : Addr} {ns : List Int} {c : Nat} (h : Tn K H a t ns c) : ∃ l, H t = some (.lst l) := by
  obtain ⟨ls, e, ht⟩ := h.town
  exact ⟨_, ht⟩
theorem Tn.some_ {H : Hp} {a t : Addr} {ns : List Int} {c : Nat} (h : Tn K H a t ns c) {p : Addr} (hp : H p = none) : p ≠ t := by
  obtain ⟨l, hl⟩ := h.lst
  exact (ne_of_none hl hp).symm
/-- a tuple stays while the town changes -/
theorem Tn.tup {H H' : Hp} {a t p : Addr} {ns : List Int} {c : Nat} {xs : List V} (h : Tn K H a t ns c) (b : But t H H') (hp : H p = some (.tup xs)) : H' p = some (.tup xs) := by
  obtain ⟨l, hl⟩ := h.lst
  exact b _ _ hp (ne_of hp hl (by intro z; cases z))
abbrev nm__law_town : List Str := ["script"]
abbrev pm__law_town : List Str := ["script"]
abbrev lv__law_town : Nat := 1
theorem sc__law_town : FnScope nm__law_town pm__law_town (defScope s__law_town) := ⟨rfl, rfl, rfl, by decide +kernel, rfl, by decide +kernel, by decide +kernel⟩
def sp__law_town (K : PySem.W.Frag) : Sp := fun vs H Q _ => ∃ (a : Addr) (ns : List Int), vs = [.ref a] ∧ SqL K H a (ns.map V.int) ∧ ns.length ≤ 63 ∧ ∀ H' t, Same H H' → Tn K H' a t ns 0 → H t = none → Q (.ref t) H'
theorem f__law_town (T : Txt K mg) : Fk P w K mg base CX0 lv__law_town "_law_town" pm__law_town (sp__law_town K) := by
  obtain ⟨f, fd, F, g, b⟩ := T.d__law_town.ex
  refine ⟨f, fd, g, F.kp, b, F.ok sc__law_town (fun vs H Q E h => ?_) (fun cdv A outer s H vs Q E hr h => ?_)⟩
  · obtain ⟨a, ns, rfl, _⟩ := h; rfl
  · obtain ⟨a, ns, rfl, hS, hl, q⟩ := h
    refine ⟨_, (pss_one (ps_ret (pe_op op_cat (pe_lst (pa_cons pe_int pa_nil)) (pe_callTy call_list_of (by rfl) T.b_list (by decide +kernel) (pa_cons (pv 0) pa_nil))))), ?_⟩
    walk_at "rd"
    intro p hp
    have s1 : Same H (upd H p (.lst [.int 0])) := same_upd hp
    refine ⟨ns.map V.int, .inl (s1.seq hS), fun l hl2 => ?_⟩
    have npl : p ≠ l := fun e => by rw [← e, upd_same] at hl2; cases hl2
    have s2 := s1.trans (same_upd (o := .lst (ns.map V.int)) hl2)
    refine ⟨p, l, _, _, rfl, rfl, by rw [upd_ne npl]; exact upd_same, upd_same, sz (by simp; omega), fun t ht => ?_⟩
    have hH : H t = none := s2.free ht
    exact q _ t (s2.trans (same_upd ht)) ⟨(SqN.new (s2.seq hS) ht).same (same_upd ht), hl, ns, rfl, upd_same⟩ hH
abbrev nm__law_draw : List Str := ["script", "town", "many", "at", "left", "number"]
abbrev pm__law_draw : List Str := ["script", "town", "many"]
abbrev lv__law_draw : Nat := 1
theorem sc__law_draw : FnScope nm__law_draw pm__law_draw (defScope s__law_draw) := ⟨rfl, rfl, rfl, by decide +kernel, rfl, by decide +kernel, by decide +kernel⟩
def sp__law_draw (K : PySem.W.Frag) : Sp := fun vs H Q _ => ∃ (a t : Addr) (ns : List Int) (c : Nat) (many : Int), vs = [.ref a, .ref t, .int many] ∧ Tn K H a t ns c ∧ c < 1000000000 ∧ 0 < many ∧ many < 1073741824 ∧
  ∀ (d : Int) (H' : Hp), 0 ≤ d → d < many → Tn K H' a t ns (c + 1) → But t H H' → Q (.int d) H'
theorem f__law_draw (T : Txt K mg) : Fk P w K mg base CX0 lv__law_draw "_law_draw" pm__law_draw (sp__law_draw K) := by
  obtain ⟨f, fd, F, g, b⟩ := T.d__law_draw.ex
  refine ⟨f, fd, g, F.kp, b, F.ok sc__law_draw (fun vs H Q E h => ?_) (fun cdv A outer s H vs Q E hr h => ?_)⟩
  · obtain ⟨a, t, ns, c, many, rfl, _⟩ := h; rfl
  · obtain ⟨a, t, ns, c, many, rfl, hT, hc, hm0, hm1, q⟩ := h
    refine ⟨_, (pss_cons (ps_asg (pe_op op_add (pe_ix ix_list (pv 1) pe_int (fun _ _ => rfl)) pe_int) (pg_sub (pv 1) pe_int set_list))
      (pss_cons (ps_if (pt_cmpR (op_eqD hr.units) (pv 0) (pe_lst pa_nil) (nomark _)) (pss_one (ps_ret (pe_op op_mod (pe_op op_fdiv (pe_op op_mul (pe_op op_mul (pe_ix ix_list (pv 1) pe_int (fun _ _ => rfl)) (pe_ix ix_list (pv 1) pe_int (fun _ _ => rfl))) pe_int) pe_int) (pv 2)))) pss_nil)
      (pss_cons (ps_set (i := 3) sc__law_draw.nd rfl (.inl rfl) (pe_op op_mod (pe_ix ix_list (pv 1) pe_int (fun _ _ => rfl)) (pe_callB call_len_seq (by rfl) T.b_len PySem.boot_len (pa_cons (pv 0) pa_nil))))
      (pss_cons (ps_set (i := 4) sc__law_draw.nd rfl (.inl rfl) (pe_ix ix_list (pv 1) (pe_op op_add pe_int (pv 3)) (fun _ _ => rfl)))
      (pss_cons (ps_if (PW.pt (pw_and (pt_cmpR op_ge (pe_ix ix_list (pv 0) (pv 3) (fun _ _ => rfl)) (pe_op op_pow pe_int pe_int) (nomark _)) (pw_and1 (pt_cmpR op_gt (pv 4) pe_int (nomark _))))) (pss_cons (ps_asg (pe_op op_fdiv (pv 4) (pv 2)) (pg_sub (pv 1) (pe_op op_add pe_int (pv 3)) set_list))
      (pss_one (ps_ret (pe_op op_mod (pv 4) (pv 2))))) pss_nil)
      (pss_cons (ps_set (i := 5) sc__law_draw.nd rfl (.inl rfl) (pe_op op_mod (pe_op op_add (pe_ix ix_list (pv 0) (pv 3) (fun _ _ => rfl)) (pe_op op_mul pe_int (pe_ix ix_list (pv 1) pe_int (fun _ _ => rfl)))) pe_int))
      (pss_cons (ps_set (i := 5) sc__law_draw.nd rfl (.inl rfl) (pe_op op_mod (pe_op op_pow (pv 5) pe_int) pe_int))
      (pss_one (ps_ret (pe_op op_mod (pe_op op_fdiv (pe_op op_mod (pe_op op_add (pe_op op_mul (pe_op op_fdiv (pv 5) pe_int) pe_int) (pv 5)) pe_int) pe_int) (pv 2))))))))))), ?_⟩
    walk_at "rd"
    obtain ⟨ls, el, ht⟩ := hT.town
    refine ixL (j := 0) (sqL ht) rfl rfl ?_
    walk_at "rd"
    refine setL (j := 0) ht rfl (by simp) ?_
    intro p hp
    have hpt : t ≠ p := fun e => by rw [← e, upd_same] at hp; cases hp
    have b1 : But t H (upd (upd H t (.lst ((V.int c :: ls.map V.int).set 0 (V.int (↑c + 1))))) p (.lst [])) := But.thenS But.upd (same_upd hp)
    have hN1 := hT.scr.but b1
    have hS1 := hN1.l
    have ht1 : (upd (upd H t (.lst ((V.int c :: ls.map V.int).set 0 (V.int (↑c + 1))))) p (.lst [])) t = some (.lst (V.int ((c + 1 : Nat) : Int) :: ls.map V.int)) := by
      rw [upd_ne hpt, upd_same]; rfl
    have hp1 : (upd (upd H t (.lst ((V.int c :: ls.map V.int).set 0 (V.int (↑c + 1))))) p (.lst [])) p = some (.lst (([] : List Int).map V.int)) := upd_same
    revert b1 hN1 hS1 ht1 hp1
    generalize upd (upd H t (.lst ((V.int c :: ls.map V.int).set 0 (V.int (↑c + 1))))) p (.lst []) = H1
    intro b1 hN1 hS1 ht1 hp1
    have T1 : Tn K H1 a t ns (c + 1) := ⟨hN1, hT.len, ls, el, ht1⟩
    have hC : ((c + 1 : Nat) : Int) < 2 ^ 62 := by omega
    refine eqD (dp_LI hS1) (dp_LI (sqL hp1)) (gd_dLI (k := 0) _) (gd_dLI (k := 0) _) (fun e => ?_) (fun e => ?_)
    · walk_at "rd"
      refine ixL (j := 0) (sqL ht1) rfl rfl ?_
      refine ixL (j := 0) (sqL ht1) rfl rfl ?_
      walk_at "rd"
      refine ⟨.inl ⟨by omega, by omega⟩, .inr ⟨by decide, by decide⟩, ⟨by decide, by decide⟩, hm0, ?_⟩
      exact q _ H1 (Int.emod_nonneg _ (by omega)) (Int.emod_lt_of_pos _ hm0) T1 b1
    · have hne : ns ≠ [] := fun z => e (by rw [z])
      have hn0 : 0 < ns.length := List.length_pos_iff.mpr hne
      walk_at "rd"
      refine ixL (j := 0) (sqL ht1) rfl rfl ?_
      refine ⟨ns.map V.int, .inl hS1, ?_⟩
      rw [List.length_map]
      walk_at "rd"
      obtain ⟨j, hj, ej, _⟩ := emod_nat (k := ((c + 1 : Nat) : Int)) hn0
      rw [ej]
      refine ⟨by omega, ?_⟩
      have hlj : (V.int ((c + 1 : Nat) : Int) :: ls.map V.int)[j + 1]? = some (V.int (ls[j]'(by omega))) := by
        rw [List.getElem?_cons_succ, List.getElem?_map, List.getElem?_eq_getElem (by omega)]; rfl
      have hnj : (ns.map V.int)[j]? = some (V.int (ns[j]'hj)) := by
        rw [List.getElem?_map, List.getElem?_eq_getElem hj]; rfl
      refine ixL (j := j + 1) (sqL ht1) (by push_cast; omega) hlj ?_
      refine ixL (j := j) hS1 rfl hnj ?_
      have tail : rIxL K (.ref a) (.int (j : Int)) H1 fun x H2 => rIxL K (.ref t) (.int 0) H2 fun y H3 => ∃ x_3, y = V.int x_3 ∧ CMul 104729 x_3 ∧ ∃ i, x = V.int i ∧ 0 < (4294967291 : Int) ∧ CPow ((i + 104729 * x_3) % 4294967291) 5 ∧ 0 < (4294967279 : Int) ∧
          CDiv (((i + 104729 * x_3) % 4294967291) ^ Int.toNat 5 % 4294967279) 64 ∧ CMul (((i + 104729 * x_3) % 4294967291) ^ Int.toNat 5 % 4294967279 / 64) 69621 ∧ 0 < (4294967231 : Int) ∧
          CDiv ((((i + 104729 * x_3) % 4294967291) ^ Int.toNat 5 % 4294967279 / 64 * 69621 + ((i + 104729 * x_3) % 4294967291) ^ Int.toNat 5 % 4294967279) % 4294967231) 8 ∧ 0 < many ∧
          Q (.int ((((i + 104729 * x_3) % 4294967291) ^ Int.toNat 5 % 4294967279 / 64 * 69621 + ((i + 104729 * x_3) % 4294967291) ^ Int.toNat 5 % 4294967279) % 4294967231 / 8 % many)) H3 := by
        refine ixL (j := j) hS1 rfl hnj ?_
        refine ixL (j := 0) (sqL ht1) rfl rfl ?_
        have hp := Int.emod_nonneg (ns[j] + 104729 * ((c + 1 : Nat) : Int)) (show (4294967291 : Int) ≠ 0 by decide)
        have hq := Int.emod_lt_of_pos (ns[j] + 104729 * ((c + 1 : Nat) : Int)) (show (0 : Int) < 4294967291 by decide)
        refine ⟨_, rfl, .inl ⟨by decide, by decide⟩, _, rfl, by decide, ⟨by decide, by decide, by omega⟩, by decide, ⟨by decide, by decide⟩, .inr ⟨by decide, by decide⟩, by decide, ⟨by decide, by decide⟩, hm0, ?_⟩
        exact q _ H1 (Int.emod_nonneg _ (by omega)) (Int.emod_lt_of_pos _ hm0) T1 b1
      refine ⟨⟨by decide, by decide, by decide⟩, _, rfl, ?_⟩
      refine ite2 (fun c1 => ?_) (fun c1 => ?_)
      · refine ⟨_, rfl, ite2 (fun c2 => ?_) (fun c2 => ?_)⟩
        · refine ⟨_, rfl, ⟨hm0, hm1⟩, ?_⟩
          refine setL (j := j + 1) ht1 (by push_cast; omega) (by simp; omega) ?_
          refine ⟨_, rfl, hm0, ?_⟩
          refine q _ _ (Int.emod_nonneg _ (by omega)) (Int.emod_lt_of_pos _ hm0) ⟨hN1.but But.upd, hT.len, ls.set j (ls[j] / many), by rw [List.length_set]; exact el, ?_⟩ (b1.trans But.upd)
          rw [upd_same, List.set_cons_succ, List.map_set]
        · exact tail
      · exact tail
abbrev nm__law_pick : List Str := ["script", "town", "some"]
abbrev pm__law_pick : List Str := ["script", "town", "some"]
abbrev lv__law_pick : Nat := 2
theorem sc__law_pick : FnScope nm__law_pick pm__law_pick (defScope s__law_pick) := ⟨rfl, rfl, rfl, by decide +kernel, rfl, by decide +kernel, by decide +kernel⟩
def sp__law_pick (K : PySem.W.Frag) : Sp := fun vs H Q _ => ∃ (a t l : Addr) (ns : List Int) (c : Nat) (xs : List V), vs = [.ref a, .ref t, .ref l] ∧ Tn K H a t ns c ∧ c < 1000000000 ∧ H l = some (.lst xs) ∧ l ≠ t ∧ 0 < xs.length ∧ xs.length ≤ 100000 ∧
  ∀ (v : V) (H' : Hp), v ∈ xs → Tn K H' a t ns (c + 1) → But t H H' → Q v H'
theorem f__law_pick (T : Txt K mg) : Fk P w K mg base CX0 lv__law_pick "_law_pick" pm__law_pick (sp__law_pick K) := by
  obtain ⟨f, fd, F, g, b⟩ := T.d__law_pick.ex
  refine ⟨f, fd, g, F.kp, b, F.ok sc__law_pick (fun vs H Q E h => ?_) (fun cdv A outer s H vs Q E hr h => ?_)⟩
  · obtain ⟨a, t, l, ns, c, xs, rfl, _⟩ := h; rfl
  · obtain ⟨a, t, l, ns, c, xs, rfl, hT, hc, hl, hlt, h0, h1, q⟩ := h
    refine ⟨_, (pss_one (ps_ret (pe_ix ix_list (pv 2) (pe_fn (f__law_draw T) (hr.mono (by decide)) (by rfl) pass0 (pa_cons (pv 0) (pa_cons (pv 1) (pa_cons (pe_callB call_len_seq (by rfl) T.b_len PySem.boot_len (pa_cons (pv 2) pa_nil)) pa_nil)))) (fun _ _ => rfl)))), ?_⟩
    walk_at "rd"
    refine ⟨xs, .inl (sqL hl), a, t, ns, c, xs.length, rfl, hT, hc, by omega, by omega, fun d H' d0 d1 T' b' => ?_⟩
    have hd : d.toNat < xs.length := by omega
    exact ixL (j := d.toNat) (sqL (b' _ _ hl hlt)) (by omega) (List.getElem?_eq_getElem hd) (q _ H' (List.getElem_mem hd) T' b')
abbrev nm__law_rounds : List Str := ["script", "town", "long", "top", "many", "k"]
abbrev pm__law_rounds : List Str := ["script", "town", "long", "top"]
abbrev lv__law_rounds : Nat := 2
theorem sc__law_rounds : FnScope nm__law_rounds pm__law_rounds (defScope s__law_rounds) := ⟨rfl, rfl, rfl, by decide +kernel, rfl, by decide +kernel, by decide +kernel⟩
def sp__law_rounds (K : PySem.W.Frag) : Sp := fun vs H Q _ => ∃ (a t : Addr) (ns : List Int) (c : Nat) (long top : Int), vs = [.ref a, .ref t, .int long, .int top] ∧ Tn K H a t ns c ∧ c + 1 + long.toNat < 1000000000 ∧ 0 < long ∧ long ≤ 1000 ∧ 0 < top ∧ top < 1073741824 ∧
  ∀ (rs : List Int) (p : Addr) (c' : Nat) (H' : Hp), 1 ≤ rs.length → (rs.length : Int) ≤ long → (∀ r ∈ rs, 1 ≤ r ∧ r ≤ top) → H p = none → H' p = some (.tup (rs.map V.int)) → c' ≤ c + 1 + long.toNat → Tn K H' a t ns c' → But t H H' → Q (.ref p) H'
def iv__law_rounds (K : PySem.W.Frag) (H1 : Hp) (a t D : Addr) (ns : List Int) (c : Nat) (top : Int) (i : Nat) (H : Hp) : Prop :=
  ∃ rs : List Int, rs.length = i ∧ (∀ r ∈ rs, 1 ≤ r ∧ r ≤ top) ∧ H D = some (.lst (rs.map V.int)) ∧ Tn K H a t ns (c + 1 + i) ∧ But t H1 H
theorem f__law_rounds (T : Txt K mg) : Fk P w K mg base CX0 lv__law_rounds "_law_rounds" pm__law_rounds (sp__law_rounds K) := by
  obtain ⟨f, fd, F, g, b⟩ := T.d__law_rounds.ex
  refine ⟨f, fd, g, F.kp, b, F.ok sc__law_rounds (fun vs H Q E h => ?_) (fun cdv A outer s H vs Q E hr h => ?_)⟩
  · obtain ⟨a, t, ns, c, long, top, rfl, _⟩ := h; rfl
  · obtain ⟨a, t, ns, c, long, top, rfl, hT, hc, hl0, hl1, ht0, ht1, q⟩ := h
    refine ⟨_, (pss_cons (ps_set (i := 4) sc__law_rounds.nd rfl (.inl rfl) (pe_op op_add pe_int (pe_fn (f__law_draw T) (hr.mono (by decide)) (by rfl) pass0 (pa_cons (pv 0) (pa_cons (pv 1) (pa_cons (pv 2) pa_nil))))))
      (pss_one (ps_ret (pe_callTy call_tuple_of (by rfl) T.b_tuple (by decide +kernel) (pa_cons (pe_lc (own := [("k", 5)]) (g := gName 5) (tt := tYes) (by rfl) sc__law_rounds.nd (pi_range1 (by rfl) T.b_range (pa_cons (pv 4) pa_nil)) (blkOk_by (own := [("k", 5)]) (N := nm__law_rounds) (sc := defScope s__law_rounds) (by decide +kernel)) (fun _ _ _ _ _ => (pg_name (i := 5) sc__law_rounds.nd rfl (Or.inl rfl))) (fun _ _ _ _ _ => pts_nil) (fun _ _ _ _ _ => (pe_op op_add pe_int (pe_fn (f__law_draw T) (hr.mono (by decide)) (by rfl) pass0 (pa_cons (pv 0) (pa_cons (pv 1) (pa_cons (pv 3) pa_nil))))))) pa_nil))))), ?_⟩
    walk_at "rd"
    refine ⟨a, t, ns, c, long, rfl, hT, by omega, hl0, by omega, fun d H1 d0 d1 T1 b1 => ?_⟩
    walk_at "rd"
    refine ⟨_, rfl, 1 + d, rfl, by omega, by omega, fun D hD => ?_⟩
    have hDt : D ≠ t := T1.some_ hD
    refine lc_range (iv__law_rounds K H1 a t D ns c top) ⟨[], rfl, fun r hr => (nomatch hr), upd_same, T1.same (same_upd hD), .of (same_upd hD)⟩ (fun i H2 hi iv => ?_) (fun H2 iv => ?_)
    · obtain ⟨rs, el, hrs, hD2, T2, b2⟩ := iv
      walk_at "rd"
      refine ⟨a, t, ns, c + 1 + i, top, rfl, T2, by omega, ht0, ht1, fun e H3 e0 e1 T3 b3 => ?_⟩
      walk_at "rd"
      refine ⟨rs.map V.int, b3 _ _ hD2 hDt, szl (by simp; omega), rs ++ [1 + e], by simp [el], ?_, ?_, ?_, ?_⟩
      · intro r hr
        rcases List.mem_append.mp hr with hr | hr
        · exact hrs r hr
        · have := List.mem_singleton.mp hr; omega
      · rw [upd_same, List.map_append]; rfl
      · have : Tn K (upd H3 D (.lst (rs.map V.int ++ [.int (1 + e)]))) a t ns (c + 1 + i + 1) := by
          obtain ⟨ls, e1, e2⟩ := T3.town
          refine ⟨?_, T3.len, ls, e1, by rw [upd_ne hDt.symm]; exact e2⟩
          have h2 := hT.scr.but (b1.trans (b2.trans b3))
          have hDD : But D H3 (upd H3 D (.lst (rs.map V.int ++ [.int (1 + e)]))) := But.upd
          have h0 := hT.scr.but b1
          rcases h0 with ⟨h | ⟨o, h⟩, n⟩ | h
          · have hne : a ≠ D := ne_of_none h hD
            rcases h2 with ⟨h' | ⟨o', h'⟩, n'⟩ | h'
            · exact .inl ⟨.inl (hDD _ _ h' hne), n'⟩
            · exact .inl ⟨.inr ⟨o', hDD _ _ h' hne⟩, n'⟩
            · exact .inr h'
          · have hne : a ≠ D := ne_of_none h hD
            rcases h2 with ⟨h' | ⟨o', h'⟩, n'⟩ | h'
            · exact .inl ⟨.inl (hDD _ _ h' hne), n'⟩
            · exact .inl ⟨.inr ⟨o', hDD _ _ h' hne⟩, n'⟩
            · exact .inr h'
          · exact .inr h
        exact this
      · intro x o hx hxt
        rw [upd_ne (ne_of_none hx hD)]
        exact b3 _ _ (b2 _ _ hx hxt) hxt
    · obtain ⟨rs, el, hrs, hD2, T2, b2⟩ := iv
      refine ⟨D, rfl, rs.map V.int, .inl ⟨sqL hD2, fun l hl => ?_⟩⟩
      have hlt : l ≠ t := T2.some_ hl
      refine q rs l _ _ (by omega) (by omega) hrs ?_ upd_same (by omega) (T2.same (same_upd hl)) ((b1.trans b2).thenS (same_upd hl))
      cases e : H l with
      | none => rfl
      | some o => rw [b2 _ _ (b1 _ _ e hlt) hlt] at hl; cases hl
end
end Nk
namespace Nk
open PySem L2
section
variable {P : Program} {w : World} {K : PySem.W.Frag} {mg : Str → Option Value} {base : Heap}
abbrev nm__law_spot : List Str := ["rounds", "night", "whole", "at", "number", "long"]
abbrev pm__law_spot : List Str := ["rounds", "night"]
abbrev lv__law_spot : Nat := 1
theorem sc__law_spot : FnScope nm__law_spot pm__law_spot (defScope s__law_spot) := ⟨rfl, rfl, rfl, by decide +kernel, rfl, by decide +kernel, by decide +kernel⟩
def sp__law_spot : Sp := fun vs H Q _ => ∃ (a : Addr) (rs : List Int) (n : Int), vs = [.ref a, .int n] ∧ RndsAt H a rs ∧
  ∀ p H', Same H H' → H p = none → H' p = some (.tup [.int (numOf rs n), .int (firstOf rs (numOf rs n))]) → Q (.ref p) H'
def iv__law_spot (a : Addr) (rs : List Int) (n : Int) (H : Hp) (i : Nat) (σ : L2.St) (H' : Hp) : Prop := H' = H ∧ n / rs.sum * rs.sum + pre rs i ≤ n ∧ ∃ (v : Option V),
  σ = [some (.ref a), some (.int n), some (.int rs.sum), some (.int (n / rs.sum * rs.sum + pre rs i)), some (.int (n / rs.sum * rs.length + i)), v]
theorem f__law_spot (T : Txt K mg) : Fk P w K mg base CX0 lv__law_spot "_law_spot" pm__law_spot sp__law_spot := by
  obtain ⟨f, fd, F, g, b⟩ := T.d__law_spot.ex
  refine ⟨f, fd, g, F.kp, b, F.ok sc__law_spot (fun vs H Q E h => ?_) (fun cdv A outer s H vs Q E hr h => ?_)⟩
  · obtain ⟨a, rs, n, rfl, _⟩ := h; rfl
  · obtain ⟨a, rs, n, rfl, ha, q⟩ := h
    refine ⟨_, (pss_cons (ps_set (i := 2) sc__law_spot.nd rfl (.inl rfl) (pe_callB (cr_sumT rfl) (by rfl) T.b_sum (by decide +kernel) (pa_cons (pv 0) pa_nil)))
      (pss_cons (ps_set (i := 3) sc__law_spot.nd rfl (.inl rfl) (pe_op op_mul (pe_op op_fdiv (pv 1) (pv 2)) (pv 2)))
      (pss_cons (ps_set (i := 4) sc__law_spot.nd rfl (.inl rfl) (pe_op op_mul (pe_op op_fdiv (pv 1) (pv 2)) (pe_callB call_len_seq (by rfl) T.b_len PySem.boot_len (pa_cons (pv 0) pa_nil))))
      (pss_cons (ps_for PassesOwn.never rfl (pi_tup (pv 0)) (pg_name (i := 5) sc__law_spot.nd rfl (Or.inl rfl)) (pss_cons (ps_if (pt_cmpR op_lt (pv 1) (pe_op op_add (pv 3) (pv 5)) (nomark _)) (pss_one (ps_ret (pe_tup (pa_cons (pv 4) (pa_cons (pv 3) pa_nil))))) pss_nil)
      (pss_cons (ps_set (i := 3) sc__law_spot.nd rfl (.inl rfl) (pe_op op_add (pv 3) (pv 5)))
      (pss_one (ps_set (i := 4) sc__law_spot.nd rfl (.inl rfl) (pe_op op_add (pv 4) pe_int))))))
      (pss_one (ps_ret pe_non)))))), ?_⟩
    have ok := ha.ok
    have hs := ha.ok.sum
    have hs' := ha.sum_le
    have hl := ha.ln
    have hM : (rs.map V.int).length = rs.length := List.length_map _
    have hmod := Int.emod_add_mul_ediv n rs.sum
    have hm0 := Int.emod_nonneg n (show rs.sum ≠ 0 by omega)
    have hm1 := Int.emod_lt_of_pos n hs
    have hcm := Int.mul_comm rs.sum (n / rs.sum)
    walk_at "rd"
    refine ⟨a, rs, rfl, sqT ha.at_, ?_⟩
    walk_at "rd"
    refine ⟨⟨hs, by omega⟩, .inr ⟨by omega, by omega⟩, ⟨hs, by omega⟩, rs.map V.int, .inr (sqT ha.at_), ?_⟩
    rw [hM]
    refine ⟨.inr ⟨by omega, by omega⟩, ?_⟩
    refine ⟨_, rfl, a, rfl, ⟨_, sqT ha.at_⟩, for_tup (K := K) (a := a) (xs := rs.map V.int) (iv__law_spot a rs n H)
      ⟨rfl, by rw [pre_zero]; omega, none, by rw [pre_zero]; simp⟩ (fun i σ H' _ p => by rw [p.1]; exact sqT ha.at_) ?_ ?_⟩
    · rintro i x σ H' hi ⟨rfl, hle, v, rfl⟩
      rw [List.getElem?_map] at hi
      cases e : rs[i]? with
      | none => rw [e] at hi; cases hi
      | some r =>
        rw [e] at hi
        cases hi
        have hlt := lt_of_get e
        have hst := pre_step e
        walk_at "rd"
        refine ite2 (fun c => ?_) (fun c => ?_)
        · have a1 := firstOf_at ok (n / rs.sum) (Nat.le_of_lt hlt)
          have a2 := firstOf_at ok (n / rs.sum) (Nat.succ_le_of_lt hlt)
          have e2 : n / rs.sum * (rs.length : Int) + ((Nat.succ i : Nat) : Int) = n / rs.sum * (rs.length : Int) + (i : Int) + 1 := by push_cast; omega
          rw [e2] at a2
          have hN : numOf rs n = n / rs.sum * rs.length + i := by
            refine numOf_of ok (by omega) ?_
            rw [a2]
            show n < n / rs.sum * rs.sum + pre rs (i + 1)
            omega
          rw [← a1, ← hN]
          exact fun p hp => q p _ (same_upd hp) hp upd_same
        · refine ⟨rfl, by omega, some (.int r), ?_⟩
          rw [hst]
          congr 4
          · congr 2
            omega
          · congr 3
            push_cast
            omega
    · rintro σ H' ⟨rfl, hle, v, rfl⟩
      rw [hM, pre_len] at hle
      omega
abbrev nm__law_wide : List Str := ["script", "town", "most_here", "way"]
abbrev pm__law_wide : List Str := ["script", "town", "most_here"]
abbrev lv__law_wide : Nat := 2
theorem sc__law_wide : FnScope nm__law_wide pm__law_wide (defScope s__law_wide) := ⟨rfl, rfl, rfl, by decide +kernel, rfl, by decide +kernel, by decide +kernel⟩
def sp__law_wide (K : PySem.W.Frag) : Sp := fun vs H Q _ => ∃ (a t : Addr) (ns : List Int) (c : Nat) (m : Int), vs = [.ref a, .ref t, .int m] ∧ Tn K H a t ns c ∧ c + 3 < 1000000000 ∧ 10 ≤ m ∧ m ≤ 1000000000 ∧
  ∀ (d : Int) (c' : Nat) (H' : Hp), 0 ≤ d → d ≤ m → c' ≤ c + 3 → Tn K H' a t ns c' → But t H H' → Q (.int d) H'
theorem f__law_wide (T : Txt K mg) : Fk P w K mg base CX0 lv__law_wide "_law_wide" pm__law_wide (sp__law_wide K) := by
  obtain ⟨f, fd, F, g, b⟩ := T.d__law_wide.ex
  refine ⟨f, fd, g, F.kp, b, F.ok sc__law_wide (fun vs H Q E h => ?_) (fun cdv A outer s H vs Q E hr h => ?_)⟩
  · obtain ⟨a, t, ns, c, m, rfl, _⟩ := h; rfl
  · obtain ⟨a, t, ns, c, m, rfl, hT, hc, hm0, hm1, q⟩ := h
    refine ⟨_, (pss_cons (ps_set (i := 3) sc__law_wide.nd rfl (.inl rfl) (pe_fn (f__law_draw T) (hr.mono (by decide)) (by rfl) pass0 (pa_cons (pv 0) (pa_cons (pv 1) (pa_cons pe_int pa_nil)))))
      (pss_cons (ps_if (pt_cmpR op_eq (pv 3) pe_int (nomark _)) (pss_one (ps_ret (pe_fn (f__law_draw T) (hr.mono (by decide)) (by rfl) pass0 (pa_cons (pv 0) (pa_cons (pv 1) (pa_cons pe_int pa_nil)))))) pss_nil)
      (pss_cons (ps_if (pt_cmpR op_eq (pv 3) pe_int (nomark _)) (pss_one (ps_ret (pe_op op_sub (pv 2) (pe_fn (f__law_draw T) (hr.mono (by decide)) (by rfl) pass0 (pa_cons (pv 0) (pa_cons (pv 1) (pa_cons pe_int pa_nil))))))) pss_nil)
      (pss_one (ps_ret (pe_op op_mod (pe_op op_add (pe_op op_mul (pe_fn (f__law_draw T) (hr.mono (by decide)) (by rfl) pass0 (pa_cons (pv 0) (pa_cons (pv 1) (pa_cons pe_int pa_nil)))) pe_int) (pe_fn (f__law_draw T) (hr.mono (by decide)) (by rfl) pass0 (pa_cons (pv 0) (pa_cons (pv 1) (pa_cons pe_int pa_nil))))) (pe_op op_add (pv 2) pe_int))))))), ?_⟩
    walk_at "rd"
    refine ⟨a, t, ns, c, 6, rfl, hT, by omega, by decide, by decide, fun d H1 d0 d1 T1 b1 => ?_⟩
    walk_at "rd"
    refine ite2 (fun c1 => ?_) (fun c1 => ?_)
    · exact ⟨a, t, ns, _, 3, rfl, T1, by omega, by decide, by decide, fun e H2 e0 e1 T2 b2 => q _ _ _ e0 (by omega) (by omega) T2 (b1.trans b2)⟩
    refine ite2 (fun c2 => ?_) (fun c2 => ?_)
    · refine ⟨a, t, ns, _, 3, rfl, T1, by omega, by decide, by decide, fun e H2 e0 e1 T2 b2 => ?_⟩
      walk_at "rd"
      exact q _ _ _ (by omega) (by omega) (by omega) T2 (b1.trans b2)
    · refine ⟨a, t, ns, _, 65536, rfl, T1, by omega, by decide, by decide, fun e H2 e0 e1 T2 b2 => ?_⟩
      walk_at "rd"
      refine ⟨.inr ⟨by decide, by decide⟩, a, t, ns, _, 65536, rfl, T2, by omega, by decide, by decide, fun e' H3 e0' e1' T3 b3 => ?_⟩
      walk_at "rd"
      exact ⟨by omega, q _ _ _ (Int.emod_nonneg _ (by omega)) (by have := Int.emod_lt_of_pos (e * 65536 + e') (show 0 < m + 1 by omega); omega) (by omega) T3 ((b1.trans b2).trans b3)⟩
end
end Nk
namespace Nk
open PySem L2
section
variable {P : Program} {w : World} {K : PySem.W.Frag} {mg : Str → Option Value} {base : Heap}
abbrev nm_law : List Str := ["script", "town", "rounds", "whole", "k", "night", "number", "ends", "ahead"]
abbrev pm_law : List Str := ["script"]
abbrev lv_law : Nat := 5
theorem sc_law : FnScope nm_law pm_law (defScope s_law) := ⟨rfl, rfl, rfl, by decide +kernel, rfl, by decide +kernel, by decide +kernel⟩
def iv3 (K : PySem.W.Frag) (a t r : Addr) (ns rs : List Int) (i : Nat) (σ : L2.St) (H : Hp) : Prop := ∃ (y4 y5 y6 y7 y8 : Option V) (c : Nat),
  σ = [some (.ref a), some (.ref t), some (.ref r), some (.int rs.sum), y4, y5, y6, y7, y8] ∧ RndsAt H r rs ∧ Tn K H a t ns c ∧ c ≤ 100 + 10 * i
theorem ok_law {f : Addr} {fd : FuncData} (F : Fun K "law" "law" s_law f fd) (T : Txt K mg) : FnOk P w K mg base CX0 lv_law f fd ["script"] (spLaw K) := by
  refine F.ok sc_law (fun vs H Q E h => ?_) (fun cdv A outer s H vs Q E hr h => ?_)
  · obtain ⟨a, ns, rfl, _⟩ := h; rfl
  · obtain ⟨a, ns, rfl, hS, hl, q⟩ := h
    refine ⟨_, (pss_cons (ps_set (i := 1) sc_law.nd rfl (.inl rfl) (pe_fn (f__law_town T) (hr.mono (by decide)) (by rfl) pass0 (pa_cons (pv 0) pa_nil)))
      (pss_cons (ps_set (i := 2) sc_law.nd rfl (.inl rfl) (pe_fn (f__law_rounds T) (hr.mono (by decide)) (by rfl) pass0 (pa_cons (pv 0) (pa_cons (pv 1) (pa_cons pe_int (pa_cons (pe_fn (f__law_pick T) (hr.mono (by decide)) (by rfl) pass0 (pa_cons (pv 0) (pa_cons (pv 1) (pa_cons (pe_lst (pa_cons pe_int (pa_cons pe_int (pa_cons pe_int pa_nil)))) pa_nil)))) pa_nil))))))
      (pss_cons (ps_set (i := 3) sc_law.nd rfl (.inl rfl) (pe_callB (cr_sumT rfl) (by rfl) T.b_sum (by decide +kernel) (pa_cons (pv 2) pa_nil)))
      (pss_cons (ps_for PassesOwn.never rfl (pi_range1 (by rfl) T.b_range (pa_cons pe_int pa_nil)) (pg_name (i := 4) sc_law.nd rfl (Or.inl rfl)) (pss_cons (ps_set (i := 5) sc_law.nd rfl (.inl rfl) (pe_fn (f__law_wide T) (hr.mono (by decide)) (by rfl) pass0 (pa_cons (pv 0) (pa_cons (pv 1) (pa_cons (pe_op op_pow pe_int pe_int) pa_nil)))))
      (pss_cons (ps_set (i := 6) sc_law.nd rfl (.inl rfl) (pe_fn (f_round_of T) (hr.mono (by decide)) (by rfl) passL (pa_cons (pv 2) (pa_cons (pv 5) pa_nil))))
      (pss_cons (ps_set (i := 7) sc_law.nd rfl (.inl rfl) (pe_ifExp (pt_cmpR op_le (pv 6) (pe_op op_pow pe_int pe_int) (nomark _)) (pe_fn (f_nights_of T) (hr.mono (by decide)) (by rfl) passL (pa_cons (pv 2) (pa_cons (pv 6) pa_nil))) (pe_tup (pa_cons (pv 5) (pa_cons (pv 5) pa_nil)))))
      (pss_cons (ps_if (PW.pt (pw_or (pt_cmpR op_gt (pv 6) (pv 5) (nomark _)) (pw_or (pt_not (pt_chain op_le op_le (pe_ix ix_tup (pv 7) pe_int (fun _ _ => rfl)) (pv 5) (pe_ix ix_tup (pv 7) pe_int (fun _ _ => rfl)))) (pw_or1 (pt_cmpR op_ne (pv 6) (pe_ix ix_tup (pe_fn (f__law_spot T) (hr.mono (by decide)) (by rfl) pass0 (pa_cons (pv 2) (pa_cons (pv 5) pa_nil))) pe_int (fun _ _ => rfl)) (nomark _)))))) (pss_one (ps_ret pe_bl)) pss_nil)
      (pss_cons (ps_if (PW.pt (pw_and (pt_cmpR op_ge (pv 5) (pv 3) (nomark _)) (pw_and1 (pt_cmpR op_ne (pe_fn (f_round_of T) (hr.mono (by decide)) (by rfl) passL (pa_cons (pv 2) (pa_cons (pe_op op_sub (pv 5) (pv 3)) pa_nil))) (pe_op op_sub (pv 6) (pe_callB call_len_seq (by rfl) T.b_len PySem.boot_len (pa_cons (pv 2) pa_nil))) (nomark _))))) (pss_one (ps_ret pe_bl)) pss_nil)
      (pss_cons (ps_set (i := 6) sc_law.nd rfl (.inl rfl) (pe_fn (f__law_wide T) (hr.mono (by decide)) (by rfl) pass0 (pa_cons (pv 0) (pa_cons (pv 1) (pa_cons (pe_op op_pow pe_int pe_int) pa_nil)))))
      (pss_cons (ps_set (i := 7) sc_law.nd rfl (.inl rfl) (pe_fn (f_nights_of T) (hr.mono (by decide)) (by rfl) passL (pa_cons (pv 2) (pa_cons (pv 6) pa_nil))))
      (pss_cons (ps_if (pt_cmpR op_ne (pe_op op_add (pe_op op_sub (pe_ix ix_tup (pv 7) pe_int (fun _ _ => rfl)) (pe_ix ix_tup (pv 7) pe_int (fun _ _ => rfl))) pe_int) (pe_ix ix_tup (pv 2) (pe_op op_mod (pv 6) (pe_callB call_len_seq (by rfl) T.b_len PySem.boot_len (pa_cons (pv 2) pa_nil))) (fun _ _ => rfl)) (nomark _)) (pss_one (ps_ret pe_bl)) pss_nil)
      (pss_cons (ps_if (PW.pt (pw_and (pt_cmpR op_gt (pv 6) pe_int (nomark _)) (pw_and1 (pt_cmpR op_ne (pe_ix ix_tup (pe_fn (f_nights_of T) (hr.mono (by decide)) (by rfl) passL (pa_cons (pv 2) (pa_cons (pe_op op_sub (pv 6) pe_int) pa_nil))) pe_int (fun _ _ => rfl)) (pe_op op_sub (pe_ix ix_tup (pv 7) pe_int (fun _ _ => rfl)) pe_int) (nomark _))))) (pss_one (ps_ret pe_bl)) pss_nil)
      (pss_cons (ps_if (PW.pt (pw_and (pt_cmpR op_eq (pv 6) pe_int (nomark _)) (pw_and1 (pt_cmpR op_ne (pe_ix ix_tup (pv 7) pe_int (fun _ _ => rfl)) pe_int (nomark _))))) (pss_one (ps_ret pe_bl)) pss_nil)
      (pss_cons (ps_set (i := 8) sc_law.nd rfl (.inl rfl) (pe_tup (pa_cons (pe_op op_sub (pe_ix ix_tup (pv 7) pe_int (fun _ _ => rfl)) (pv 3)) (pa_cons (pe_op op_sub (pe_ix ix_tup (pv 7) pe_int (fun _ _ => rfl)) (pv 3)) pa_nil))))
      (pss_cons (ps_if (PW.pt (pw_and (pt_cmpR op_ge (pv 6) (pe_callB call_len_seq (by rfl) T.b_len PySem.boot_len (pa_cons (pv 2) pa_nil)) (nomark _)) (pw_and1 (pt_cmpR (op_neD hr.units) (pe_fn (f_nights_of T) (hr.mono (by decide)) (by rfl) passL (pa_cons (pv 2) (pa_cons (pe_op op_sub (pv 6) (pe_callB call_len_seq (by rfl) T.b_len PySem.boot_len (pa_cons (pv 2) pa_nil))) pa_nil))) (pv 8) (nomark _))))) (pss_one (ps_ret pe_bl)) pss_nil)
      (pss_cons (ps_for PassesOwn.never rfl (pi_tup (pv 7)) (pg_name (i := 5) sc_law.nd rfl (Or.inl rfl)) (pss_one (ps_if (PW.pt (pw_and (pt_cmpR op_le (pv 5) (pe_op op_pow pe_int pe_int) (nomark _)) (pw_and1 (pt_cmpR op_ne (pe_fn (f_round_of T) (hr.mono (by decide)) (by rfl) passL (pa_cons (pv 2) (pa_cons (pv 5) pa_nil))) (pv 6) (nomark _))))) (pss_one (ps_ret pe_bl)) pss_nil)))
      (pss_one (ps_if (pt_cmpR (op_neD hr.units) (pe_fn (f_nights_of T) (hr.mono (by decide)) (by rfl) passL (pa_cons (pv 2) (pa_cons (pv 6) pa_nil))) (pv 7) (nomark _)) (pss_one (ps_ret pe_bl)) pss_nil))))))))))))))))
      (pss_one (ps_ret pe_bl)))))), ?_⟩
    with_reducible refine seq_k fun K_ hK_ => ?_
    walk_at "rs"
    refine ⟨a, ns, rfl, hS, hl, fun H1 t s1 T1 ht => ?_⟩
    subst hK_
    first | with_reducible refine seq_k fun K_ hK_ => ?_ | skip
    walk_at "rs"
    intro p hp
    have hpt : p ≠ t := T1.some_ hp
    refine ⟨a, t, p, ns, 0, _, rfl, T1.same (same_upd hp), by decide, upd_same, hpt, by decide, by decide, fun v H2 hv T2 b2 => ?_⟩
    obtain ⟨top, rfl, ht0, ht1⟩ : ∃ top, v = .int top ∧ 0 < top ∧ top ≤ 31 := by
      simp only [List.mem_cons, List.not_mem_nil, or_false] at hv
      rcases hv with rfl | rfl | rfl
      · exact ⟨_, rfl, by decide, by decide⟩
      · exact ⟨_, rfl, by decide, by decide⟩
      · exact ⟨_, rfl, by decide, by decide⟩
    refine ⟨a, t, ns, _, 12, top, rfl, T2, by decide, by decide, by decide, ht0, by omega, fun rs r c H3 l1 l2 hrs _ hr hc T3 b3 => ?_⟩
    have R3 : RndsAt H3 r rs := ⟨hr, ⟨List.length_pos_iff.mp (by omega), fun x hx => (hrs x hx).1⟩, fun x hx => by have := hrs x hx; omega, by omega⟩
    have ok := R3.ok
    have hsum := R3.sum_le
    have hlen := R3.ln
    have hlen0 := ok.len
    have hsum0 := ok.sum
    have hc' : c ≤ 100 := by simp at hc; omega
    subst hK_
    first | with_reducible refine seq_k fun K_ hK_ => ?_ | skip
    walk_at "rs"
    refine ⟨r, rs, rfl, sqT R3.at_, ?_⟩
    subst hK_
    first | with_reducible refine seq_k fun K_ hK_ => ?_ | skip
    walk_at "rs"
    refine ⟨3, rfl, by decide, by decide, for_range (lo := 0) (n := 3) (iv3 K a t r ns rs) ⟨_, _, _, _, _, c, rfl, R3, T3, by omega⟩ ?_ (fun σ H4 _ => ?_)⟩
    · rintro i σ H4 hi ⟨y4, y5, y6, y7, y8, c4, rfl, R4, T4, hc4⟩
      have hM : (rs.map V.int).length = rs.length := List.length_map _
      have e9 : (10 : Int) ^ Int.toNat 9 = 1000000000 := by decide
      walk_at "rs"
      with_reducible refine seq_k fun K_ hK_ => ?_
      walk_at "rs"
      refine ⟨⟨by decide, by decide, by decide⟩, a, t, ns, c4, _, rfl, T4, by omega, by decide, by decide, fun n c5 H5 n0 n1 hc5 T5 b5 => ?_⟩
      rw [e9] at n1
      obtain ⟨l4, hl4⟩ := T4.lst
      have R5 := R4.but b5 hl4
      have hN0 := numOf_nonneg ok n0
      have hN1 := numOf_le ok n0
      obtain ⟨hf1, hf2⟩ := numOf_spec ok n
      subst hK_
      first | with_reducible refine seq_k fun K_ hK_ => ?_ | skip
      walk_at "rs"
      refine round_good R5 n0 n1 fun H6 s6 => ?_
      have R6 := R5.same s6
      subst hK_
      first | with_reducible refine seq_k fun K_ hK_ => ?_ | skip
      walk_at "rs"
      refine ⟨⟨by decide, by decide, by decide⟩, ?_⟩
      rw [e9, if_pos (by omega)]
      refine nights_good R6 hN0 (by omega) fun H7 e s7 _ he => ?_
      have R7 := R6.same s7
      subst hK_
      first | with_reducible refine seq_k fun K_ hK_ => ?_ | skip
      walk_at "rs"
      rw [if_neg (by omega)]
      refine ixT (j := 0) (sqT he) rfl rfl ?_
      walk_at "rs"
      rw [if_pos hf1]
      refine ixT (j := 1) (sqT he) rfl rfl ?_
      walk_at "rs"
      rw [if_neg (by omega)]
      refine ⟨r, rs, n, rfl, R7, fun p1 H8 s8 _ hp1 => ?_⟩
      have R8 := R7.same s8
      refine ixT (j := 0) (sqT hp1) rfl rfl ?_
      walk_at "rs"
      rw [if_neg (by simp)]
      subst hK_
      first | with_reducible refine seq_k fun K_ hK_ => ?_ | skip
      walk_at "rs"
      have next : ∀ (H9 : Hp), Same H5 H9 → K_ [some (.ref a), some (.ref t), some (.ref r), some (.int rs.sum), some (.int (0 + i)), some (.int n), some (.int (numOf rs n)), some (.ref e), y8] H9 := by
        intro H9 s9
        have R9 := R5.same s9
        have T9 := T5.same s9
        subst hK_
        first | with_reducible refine seq_k fun K_ hK_ => ?_ | skip
        walk_at "rs"
        refine ⟨⟨by decide, by decide, by decide⟩, a, t, ns, c5, _, rfl, T9, by omega, by decide, by decide, fun m c10 H10 m0 m1 hc10 T10 b10 => ?_⟩
        rw [e9] at m1
        obtain ⟨l9, hl9⟩ := T9.lst
        have R10 := R9.but b10 hl9
        have hF0 := firstOf_pos ok m0
        have hFl := firstOf_lt ok m
        subst hK_
        first | with_reducible refine seq_k fun K_ hK_ => ?_ | skip
        walk_at "rs"
        refine nights_good R10 m0 m1 fun H11 e2 s11 _ he2 => ?_
        have R11 := R10.same s11
        have T11 := T10.same s11
        subst hK_
        first | with_reducible refine seq_k fun K_ hK_ => ?_ | skip
        walk_at "rs"
        obtain ⟨long, hlong, hl1, hlm⟩ := get_round ok m
        have step := firstOf_step ok m hlong
        obtain ⟨j, hj, ej, _⟩ := emod_nat (k := m) hlen0
        refine ixT (j := 1) (sqT he2) rfl rfl ?_
        refine ixT (j := 0) (sqT he2) rfl rfl ?_
        walk_at "rs"
        refine ⟨rs.map V.int, .inr (sqT R11.at_), by rw [hM]; omega, ?_⟩
        rw [hM]
        refine ixT (j := j) (sqT R11.at_) ej (v := .int long) ?_ ?_
        · rw [List.getElem?_map]
          rw [ej] at hlong
          rw [show rs[j]? = some long by simpa using hlong]; rfl
        walk_at "rs"
        rw [if_neg (by omega)]
        subst hK_
        first | with_reducible refine seq_k fun K_ hK_ => ?_ | skip
        walk_at "rs"
        have n2 : ∀ (H12 : Hp), Same H11 H12 → K_ [some (.ref a), some (.ref t), some (.ref r), some (.int rs.sum), some (.int (0 + i)), some (.int n), some (.int m), some (.ref e2), y8] H12 := by
          intro H12 s12
          have R12 := R11.same s12
          have T12 := T11.same s12
          have he12 := s12 _ _ he2
          subst hK_
          first | with_reducible refine seq_k fun K_ hK_ => ?_ | skip
          walk_at "rs"
          have z0 : m = 0 → firstOf rs m = 0 := fun z => by rw [z]; exact firstOf_zero ok
          have n3 : K_ [some (.ref a), some (.ref t), some (.ref r), some (.int rs.sum), some (.int (0 + i)), some (.int n), some (.int m), some (.ref e2), y8] H12 := by
            subst hK_
            first | with_reducible refine seq_k fun K_ hK_ => ?_ | skip
            walk_at "rs"
            refine ixT (j := 0) (sqT he12) rfl rfl ?_
            walk_at "rs"
            refine ixT (j := 1) (sqT he12) rfl rfl ?_
            walk_at "rs"
            intro ah hah
            have s13 : Same H12 (upd H12 ah (.tup [.int (firstOf rs m - rs.sum), .int (firstOf rs (m + 1) - 1 - rs.sum)])) := same_upd hah
            have R13 := R12.same s13
            have T13 := T12.same s13
            have he13 := s13 _ _ he12
            have ha13 : (upd H12 ah (.tup [.int (firstOf rs m - rs.sum), .int (firstOf rs (m + 1) - 1 - rs.sum)])) ah = some (.tup (([firstOf rs m - rs.sum, firstOf rs (m + 1) - 1 - rs.sum] : List Int).map V.int)) := upd_same
            revert s13 R13 T13 he13 ha13
            generalize upd H12 ah (.tup [.int (firstOf rs m - rs.sum), .int (firstOf rs (m + 1) - 1 - rs.sum)]) = H13
            intro s13 R13 T13 he13 ha13
            subst hK_
            first | with_reducible refine seq_k fun K_ hK_ => ?_ | skip
            walk_at "rs"
            have n4 : ∀ (H14 : Hp), Same H13 H14 → K_ [some (.ref a), some (.ref t), some (.ref r), some (.int rs.sum), some (.int (0 + i)), some (.int n), some (.int m), some (.ref e2), some (.ref ah)] H14 := by
              intro H14 s14
              have R14 := R13.same s14
              have T14 := T13.same s14
              have he14 := s14 _ _ he13
              subst hK_
              first | with_reducible refine seq_k fun K_ hK_ => ?_ | skip
              walk_at "rs"
              refine ⟨_, rfl, e2, rfl, ⟨_, sqT he14⟩, for_tup (K := K) (a := e2) (xs := [.int (firstOf rs m), .int (firstOf rs (m + 1) - 1)])
                (fun _ σ H15 => ∃ y5, σ = [some (.ref a), some (.ref t), some (.ref r), some (.int rs.sum), some (.int (0 + i)), y5, some (.int m), some (.ref e2), some (.ref ah)] ∧ Same H14 H15) ⟨_, rfl, Same.refl _⟩ (fun _ σ H15 _ p => by obtain ⟨_, _, s15⟩ := p; exact sqT (s15 _ _ he14)) ?_ ?_⟩
              · rintro i2 x σ H15 hx ⟨y5, rfl, s15⟩
                obtain ⟨z, rfl, hz1, hz2⟩ : ∃ z, x = .int z ∧ firstOf rs m ≤ z ∧ z < firstOf rs (m + 1) := by
                  have hx' := mem_of_get hx
                  simp only [List.mem_cons, List.not_mem_nil, or_false] at hx'
                  rcases hx' with rfl | rfl
                  · exact ⟨_, rfl, by omega, by omega⟩
                  · exact ⟨_, rfl, by omega, by omega⟩
                walk_at "rs"
                refine ⟨⟨by decide, by decide, by decide⟩, ?_⟩
                rw [e9]
                refine ite2 (fun c1 => ?_) (fun c1 => ?_)
                · refine round_good (R14.same s15) (by omega) c1 fun H16 s16 => ?_
                  rw [numOf_of ok hz1 hz2]
                  walk_at "rs"
                  exact s15.trans s16
                · exact s15
              · rintro σ H15 ⟨y5, rfl, s15⟩
                subst hK_
                first | with_reducible refine seq_k fun K_ hK_ => ?_ | skip
                walk_at "rs"
                have R15 := R14.same s15
                refine nights_good R15 m0 m1 fun H16 e3 s16 _ he3 => ?_
                refine neD (d := dTI [firstOf rs m, firstOf rs (m + 1) - 1]) (e := dTI [firstOf rs m, firstOf rs (m + 1) - 1]) (dp_TI (sqT he3)) (dp_TI (sqT (s16 _ _ (s15 _ _ he14)))) (gd_dTI (k := 0) _) (gd_dTI (k := 0) _) (fun _ => ?_) (fun e => absurd rfl e)
                walk_at "rs"
                exact ⟨_, _, _, _, _, c10, rfl, R15.same s16, (T14.same s15).same s16, by omega⟩
            refine ⟨rs.map V.int, .inr (sqT R13.at_), ?_⟩
            rw [hM]
            refine ite2 (fun c1 => ?_) (fun c1 => ?_)
            · refine ⟨rs.map V.int, .inr (sqT R13.at_), ?_⟩
              rw [hM]
              refine nights_good R13 (by omega) (by omega) fun H14 e3 s14 _ he3 => ?_
              have a1 := firstOf_turn ok (m - rs.length)
              have a2 := firstOf_turn ok (m - rs.length + 1)
              rw [show m - (rs.length : Int) + rs.length = m by omega] at a1
              rw [show m - (rs.length : Int) + 1 + rs.length = m + 1 by omega] at a2
              refine neD (d := dTI [firstOf rs (m - rs.length), firstOf rs (m - rs.length + 1) - 1]) (e := dTI [firstOf rs m - rs.sum, firstOf rs (m + 1) - 1 - rs.sum]) (dp_TI (sqT he3)) (dp_TI (sqT (s14 _ _ ha13))) (gd_dTI (k := 0) _) (gd_dTI (k := 0) _) (fun _ => ?_) (fun e => absurd ?_ e)
              · walk_at "rs"
                exact n4 _ s14
              · rw [dTI_inj, a1, a2]
                congr 1
                · omega
                · congr 1
                  omega
            · exact n4 _ (Same.refl _)
          refine ite2 (fun c1 => ?_) (fun c1 => ?_)
          · refine ixT (j := 0) (sqT he12) rfl rfl ?_
            walk_at "rs"
            rw [if_neg (by have := z0 c1; omega)]
            exact n3
          · exact n3
        refine ite2 (fun c1 => ?_) (fun c1 => ?_)
        · refine nights_good R11 (by omega) (by omega) fun H12 e3 s12 _ he3 => ?_
          refine ixT (j := 1) (sqT he3) rfl rfl ?_
          refine ixT (j := 0) (sqT (s12 _ _ he2)) rfl rfl ?_
          walk_at "rs"
          rw [if_neg (by rw [show m - 1 + 1 = m by omega]; omega)]
          exact n2 _ s12
        · exact n2 _ (Same.refl _)
      refine ite2 (fun c1 => ?_) (fun c1 => ?_)
      · refine round_good R8 (by omega) (by omega) fun H9 s9 => ?_
        walk_at "rs"
        refine ⟨rs.map V.int, .inr (sqT (R8.same s9).at_), ?_⟩
        rw [hM]
        have ht := numOf_turn ok (n - rs.sum)
        rw [show n - rs.sum + rs.sum = n by omega] at ht
        rw [if_neg (by omega)]
        exact next _ (((s6.trans s7).trans s8).trans s9)
      · exact next _ ((s6.trans s7).trans s8)
    · subst hK_
      first | with_reducible refine seq_k fun K_ hK_ => ?_ | skip
      walk_at "rs"
      exact q _
end
end Nk
namespace Nk
open PySem L2
theorem fin {P : Program} {w : World} {K : PySem.W.Frag} {mg : Str → Option Value} {fa : Addr} (hfa : mg "law" = some (.ref fa)) (T : Txt K mg) : ∃ fd : FuncData, (∀ (s : Shared) (v : Value), BindsTo s fd ⟨[v], []⟩ [("script", v)]) ∧ ∀ base : Heap, K.In base → base.Ns mainGlobals mg → FnOk P w K mg base CX0 5 fa fd ["script"] (spLaw K) :=
  law_end hfa T.d_law (fun _ _ _ _ _ _ _ => rfl) (fun base f fd F => ok_law F T)
end Nk
open PySem PySem.W PyProof.Rows
set_option maxRecDepth 100000 in
set_option maxHeartbeats 0 in
theorem PySem.Challenge.cw_nightkeep_k03_whole_rounds_holds : PySem.Challenge.rw_nightkeep_k03_whole_rounds.Holds := by
  w_on; o_law; k_head; (case hw => w_witness2)
  k_fill
  refine L2.walk_of (l := PySem.Challenge.rw_nightkeep_k03_whole_rounds) (n := 63) (k := 5) (x := "script") (CX := fun _ => L2.CX0) (sp := fun w => Nk.spLaw _) rfl (by decide) rfl ⟨rfl, by decide, by decide⟩ (fun w h Y => PySem.W.kIn_of Y) ?F (fun _ _ a ns hl _ hS => ⟨a, ns, rfl, hS, hl, fun _ => rfl⟩) (fun _ _ _ _ _ h => h)
  case F =>
    intro w mg fa h KX G hmg
    refine Nk.fin hmg ?_
    refine ⟨?d_is_number, ?d_is_rounds, ?d_look_rounds, ?d_look_night, ?d_number_of, ?d_first_of, ?d_round_of, ?d_nights_of, ?d__law_town, ?d__law_draw, ?d__law_pick, ?d__law_wide, ?d__law_rounds, ?d__law_spot, ?d_law, ?x_KeepError, ?x_BadRounds, ?x_BadNight, ?x_BadNumber, ?c_MOST_NIGHT, ?b_all, ?b_bool, ?b_int, ?b_isinstance, ?b_len, ?b_list, ?b_range, ?b_sum, ?b_tuple⟩
    case d_is_number => (refine' Nk.df_mk (st := Nk.s_is_number) KX G (fun _ _ _ _ _ _ us hl => match us, hl with | [_, _, _], _ => rfl) ?a ?l ?c ?k; (case a => k_is); (case l => k_is); (case c => k_is); (case k => k_is))
    case d_is_rounds => (refine' Nk.df_mk (st := Nk.s_is_rounds) KX G (fun _ _ _ _ _ _ us hl => match us, hl with | [_], _ => rfl) ?a ?l ?c ?k; (case a => k_is); (case l => k_is); (case c => k_is); (case k => k_is))
    case d_look_rounds => (refine' Nk.df_mk (st := Nk.s_look_rounds) KX G (fun _ _ _ _ _ _ us hl => match us, hl with | [_], _ => rfl) ?a ?l ?c ?k; (case a => k_is); (case l => k_is); (case c => k_is); (case k => k_is))
    case d_look_night => (refine' Nk.df_mk (st := Nk.s_look_night) KX G (fun _ _ _ _ _ _ us hl => match us, hl with | [_], _ => rfl) ?a ?l ?c ?k; (case a => k_is); (case l => k_is); (case c => k_is); (case k => k_is))
    case d_number_of => (refine' Nk.df_mk (st := Nk.s_number_of) KX G (fun _ _ _ _ _ _ us hl => match us, hl with | [_, _], _ => rfl) ?a ?l ?c ?k; (case a => k_is); (case l => k_is); (case c => k_is); (case k => k_is))
    case d_first_of => (refine' Nk.df_mk (st := Nk.s_first_of) KX G (fun _ _ _ _ _ _ us hl => match us, hl with | [_, _], _ => rfl) ?a ?l ?c ?k; (case a => k_is); (case l => k_is); (case c => k_is); (case k => k_is))
    case d_round_of => (refine' Nk.df_mk (st := Nk.s_round_of) KX G (fun _ _ _ _ _ _ us hl => match us, hl with | [_, _], _ => rfl) ?a ?l ?c ?k; (case a => k_is); (case l => k_is); (case c => k_is); (case k => k_is))
    case d_nights_of => (refine' Nk.df_mk (st := Nk.s_nights_of) KX G (fun _ _ _ _ _ _ us hl => match us, hl with | [_, _], _ => rfl) ?a ?l ?c ?k; (case a => k_is); (case l => k_is); (case c => k_is); (case k => k_is))
    case d__law_town => (refine' Nk.df_mk (st := Nk.s__law_town) KX G (fun _ _ _ _ _ _ us hl => match us, hl with | [_], _ => rfl) ?a ?l ?c ?k; (case a => k_is); (case l => k_is); (case c => k_is); (case k => k_is))
    case d__law_draw => (refine' Nk.df_mk (st := Nk.s__law_draw) KX G (fun _ _ _ _ _ _ us hl => match us, hl with | [_, _, _], _ => rfl) ?a ?l ?c ?k; (case a => k_is); (case l => k_is); (case c => k_is); (case k => k_is))
    case d__law_pick => (refine' Nk.df_mk (st := Nk.s__law_pick) KX G (fun _ _ _ _ _ _ us hl => match us, hl with | [_, _, _], _ => rfl) ?a ?l ?c ?k; (case a => k_is); (case l => k_is); (case c => k_is); (case k => k_is))
    case d__law_wide => (refine' Nk.df_mk (st := Nk.s__law_wide) KX G (fun _ _ _ _ _ _ us hl => match us, hl with | [_, _, _], _ => rfl) ?a ?l ?c ?k; (case a => k_is); (case l => k_is); (case c => k_is); (case k => k_is))
    case d__law_rounds => (refine' Nk.df_mk (st := Nk.s__law_rounds) KX G (fun _ _ _ _ _ _ us hl => match us, hl with | [_, _, _, _], _ => rfl) ?a ?l ?c ?k; (case a => k_is); (case l => k_is); (case c => k_is); (case k => k_is))
    case d__law_spot => (refine' Nk.df_mk (st := Nk.s__law_spot) KX G (fun _ _ _ _ _ _ us hl => match us, hl with | [_, _], _ => rfl) ?a ?l ?c ?k; (case a => k_is); (case l => k_is); (case c => k_is); (case k => k_is))
    case d_law => (refine' Nk.df_mk (st := Nk.s_law) KX G (fun _ _ _ _ _ _ us hl => match us, hl with | [_], _ => rfl) ?a ?l ?c ?k; (case a => k_is); (case l => k_is); (case c => k_is); (case k => k_is))
    case x_KeepError => (refine' Nk.xc_mk KX G ?a ?x ?k ?b ?t; (case a => k_is); (case x => k_exc); (case k => k_is); (case b => k_is); (case t => k_is))
    case x_BadRounds => (refine' Nk.xc_mk KX G ?a ?x ?k ?b ?t; (case a => k_is); (case x => k_exc); (case k => k_is); (case b => k_is); (case t => k_is))
    case x_BadNight => (refine' Nk.xc_mk KX G ?a ?x ?k ?b ?t; (case a => k_is); (case x => k_exc); (case k => k_is); (case b => k_is); (case t => k_is))
    case x_BadNumber => (refine' Nk.xc_mk KX G ?a ?x ?k ?b ?t; (case a => k_is); (case x => k_exc); (case k => k_is); (case b => k_is); (case t => k_is))
    case c_MOST_NIGHT => (refine' Nk.ci_mk KX G ?a; (case a => k_is))
    case b_all => (refine' PySem.W.mg_none_of KX G ?a; (case a => k_is))
    case b_bool => (refine' PySem.W.mg_none_of KX G ?a; (case a => k_is))
    case b_int => (refine' PySem.W.mg_none_of KX G ?a; (case a => k_is))
    case b_isinstance => (refine' PySem.W.mg_none_of KX G ?a; (case a => k_is))
    case b_len => (refine' PySem.W.mg_none_of KX G ?a; (case a => k_is))
    case b_list => (refine' PySem.W.mg_none_of KX G ?a; (case a => k_is))
    case b_range => (refine' PySem.W.mg_none_of KX G ?a; (case a => k_is))
    case b_sum => (refine' PySem.W.mg_none_of KX G ?a; (case a => k_is))
    case b_tuple => (refine' PySem.W.mg_none_of KX G ?a; (case a => k_is))
