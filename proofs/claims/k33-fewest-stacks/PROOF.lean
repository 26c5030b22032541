import PyProof.Rows.All
import Wide.All
import OpenK.AllK
import Wide.FinOn
import KE.KExcSuper
import HandS.ForMost
import HandS.Exc
import HandS.TryOnly
import HandS.ExcOwn
import HandS.WordsExc
import HandS.ExcInit
import HandS.ExcField
import HandS.ExcIs
import HandS.IsInst
import HandS.Style
import HandS.TupAny
import HandS.More
import HandS.DictComp
import HandS.Conv
import KE.GoesEnum
import HandS.Nested
import HandS.ExcSuper
import HandS.WordsDict
import PySem.Challenge.RW_leastshifts_k33_whole_fewest_stacks
set_option linter.all false
namespace K33
/-! ### partings: rows of stacks' numbers -/
/-- c parts n stays into the stacks below m: T j i, i < j, says that the i-th and the j-th clash -/
def Col (T : Nat → Nat → Bool) (n m : Nat) (c : List Nat) : Prop :=
  c.length = n ∧ (∀ x ∈ c, x < m) ∧ ∀ i j x, i < j → c[i]? = some x → c[j]? = some x → T j i = false
/-- what comes behind the row and the stack that is tried next -/
def Cov (row : List Nat) (s : Nat) (c : List Nat) : Prop :=
  (∃ i x y, row[i]? = some x ∧ c[i]? = some y ∧ x < y ∧ c.take i = row.take i) ∨ (c.take row.length = row ∧ ∀ y, c[row.length]? = some y → s ≤ y)
structure PInv (T : Nat → Nat → Bool) (n m : Nat) (row : List Nat) (s : Nat) : Prop where
  len : row.length ≤ n
  col : Col T row.length m row
  cov : ∀ c, Col T n m c → Cov row s c
theorem PInv.start {T : Nat → Nat → Bool} {n m : Nat} : PInv T n m [] 0 :=
  ⟨Nat.zero_le _, ⟨rfl, fun x h => by simp at h, fun i j x _ h _ => by simp at h⟩, fun c _ => .inr ⟨by simp, fun y _ => Nat.zero_le _⟩⟩
/-- whether the stack s is barred for the next stay -/
def barred (T : Nat → Nat → Bool) (row : List Nat) (s : Nat) : Bool := (List.range row.length).any fun b => decide (row[b]? = some s) && T row.length b
theorem barred_iff {T : Nat → Nat → Bool} {row : List Nat} {s : Nat} : barred T row s = true ↔ ∃ b, row[b]? = some s ∧ T row.length b = true := by
  unfold barred
  rw [List.any_eq_true]
  constructor
  · rintro ⟨b, _, h⟩
    rw [Bool.and_eq_true, decide_eq_true_eq] at h
    exact ⟨b, h⟩
  · rintro ⟨b, h1, h2⟩
    refine ⟨b, List.mem_range.mpr ?_, by rw [Bool.and_eq_true, decide_eq_true_eq]; exact ⟨h1, h2⟩⟩
    exact (List.getElem?_eq_some_iff.mp h1).1
theorem PInv.inc {T : Nat → Nat → Bool} {n m : Nat} {row : List Nat} {s : Nat} (h : PInv T n m row s) (hl : row.length < n) (hb : barred T row s = true) : PInv T n m row (s + 1) := by
  refine ⟨h.len, h.col, fun c hc => ?_⟩
  rcases h.cov c hc with q | ⟨q1, q2⟩
  · exact .inl q
  · refine .inr ⟨q1, fun y hy => ?_⟩
    have h1 := q2 y hy
    rcases Nat.lt_or_eq_of_le h1 with h2 | h2
    · exact h2
    · exfalso
      subst h2
      obtain ⟨b, hb1, hb2⟩ := barred_iff.mp hb
      have hbl : b < row.length := (List.getElem?_eq_some_iff.mp hb1).1
      have hcb : c[b]? = some s := by
        rw [← q1, List.getElem?_take_of_lt hbl] at hb1
        exact hb1
      have := hc.2.2 b row.length s hbl hcb hy
      rw [this] at hb2
      cases hb2
theorem PInv.push {T : Nat → Nat → Bool} {n m : Nat} {row : List Nat} {s : Nat} (h : PInv T n m row s) (hl : row.length < n) (hs : s < m) (hb : barred T row s = false) : PInv T n m (row ++ [s]) 0 := by
  refine ⟨by simp; omega, ⟨rfl, fun x hx => ?_, fun i j x hij hi hj => ?_⟩, fun c hc => ?_⟩
  · rcases List.mem_append.mp hx with z | z
    · exact h.col.2.1 x z
    · simp at z
      omega
  · have hjl : j < (row ++ [s]).length := (List.getElem?_eq_some_iff.mp hj).1
    simp at hjl
    have hil : i < row.length := by omega
    rw [List.getElem?_append_left hil] at hi
    by_cases hj2 : j < row.length
    · rw [List.getElem?_append_left hj2] at hj
      exact h.col.2.2 i j x hij hi hj
    · have ej : j = row.length := by omega
      subst ej
      simp at hj
      subst hj
      cases hT : T row.length i with
      | false => rfl
      | true =>
        have := barred_iff.mpr ⟨i, hi, hT⟩
        rw [hb] at this
        cases this
  · rcases h.cov c hc with ⟨i, x, y, h1, h2, h3, h4⟩ | ⟨q1, q2⟩
    · refine .inl ⟨i, x, y, ?_, h2, h3, ?_⟩
      · rw [List.getElem?_append_left (List.getElem?_eq_some_iff.mp h1).1]
        exact h1
      · rw [h4, List.take_append_of_le_length (Nat.le_of_lt (List.getElem?_eq_some_iff.mp h1).1)]
    · have hcl : row.length < c.length := by rw [hc.1]; exact hl
      have hy := q2 c[row.length] (List.getElem?_eq_getElem hcl)
      rcases Nat.lt_or_eq_of_le hy with z | z
      · exact .inl ⟨row.length, s, c[row.length], by simp, List.getElem?_eq_getElem hcl, z, by rw [q1]; simp⟩
      · refine .inr ⟨?_, fun y _ => Nat.zero_le _⟩
        rw [List.length_append, List.length_singleton, List.take_add_one, q1, List.getElem?_eq_getElem hcl, ← z]
        rfl
theorem PInv.pop {T : Nat → Nat → Bool} {n m : Nat} {r : List Nat} {x s : Nat} (h : PInv T n m (r ++ [x]) s) (hl : (r ++ [x]).length < n) (hs : ¬ s < m) : PInv T n m r (x + 1) := by
  refine ⟨by simp at hl; omega, ⟨rfl, fun y hy => h.col.2.1 y (List.mem_append_left _ hy), fun i j y hij hi hj => ?_⟩, fun c hc => ?_⟩
  · refine h.col.2.2 i j y hij ?_ ?_
    · rw [List.getElem?_append_left (List.getElem?_eq_some_iff.mp hi).1]
      exact hi
    · rw [List.getElem?_append_left (List.getElem?_eq_some_iff.mp hj).1]
      exact hj
  · rcases h.cov c hc with ⟨i, a, y, h1, h2, h3, h4⟩ | ⟨q1, q2⟩
    · have hil := (List.getElem?_eq_some_iff.mp h1).1
      simp at hil
      by_cases hi : i < r.length
      · refine .inl ⟨i, a, y, ?_, h2, h3, ?_⟩
        · rw [List.getElem?_append_left hi] at h1
          exact h1
        · rw [h4, List.take_append_of_le_length (Nat.le_of_lt hi)]
      · have ei : i = r.length := by omega
        subst ei
        refine .inr ⟨by rw [h4]; simp, fun z hz => ?_⟩
        rw [h2] at hz
        simp at h1 hz
        omega
    · exfalso
      have hcl : (r ++ [x]).length < c.length := by rw [hc.1]; exact hl
      have hy := q2 _ (List.getElem?_eq_getElem hcl)
      have := hc.2.1 _ (List.getElem_mem hcl)
      omega
theorem PInv.fail {T : Nat → Nat → Bool} {n m : Nat} {s : Nat} (h : PInv T n m [] s) (hn : 0 < n) (hs : ¬ s < m) : ∀ c, ¬ Col T n m c := fun c hc => by
  rcases h.cov c hc with ⟨i, x, y, h1, _⟩ | ⟨_, q2⟩
  · simp at h1
  · have hcl : 0 < c.length := by rw [hc.1]; exact hn
    have hy := q2 _ (List.getElem?_eq_getElem hcl)
    have := hc.2.1 _ (List.getElem_mem hcl)
    omega
theorem PInv.done {T : Nat → Nat → Bool} {n m : Nat} {row : List Nat} {s : Nat} (h : PInv T n m row s) (hl : ¬ row.length < n) : Col T n m row := by
  have e : row.length = n := by have := h.len; omega
  rw [← e]
  exact h.col
/-! the measure of the search -/
def meas (m : Nat) : List Nat → Nat → Nat → Nat
  | [], s, k => (m - s + 1) * (m + 2) ^ k
  | x :: r, s, k => (m - x) * (m + 2) ^ k + meas m r s (k - 1)
theorem meas_mono (m : Nat) : ∀ (r : List Nat) (s s' k : Nat), s ≤ s' → meas m r s' k ≤ meas m r s k
  | [], s, s', k, h => Nat.mul_le_mul_right _ (by omega)
  | x :: r, s, s', k, h => Nat.add_le_add_left (meas_mono m r s s' (k - 1) h) _
theorem meas_push (m : Nat) : ∀ (r : List Nat) (s k : Nat), s < m → r.length < k → meas m (r ++ [s]) 0 k < meas m r s k
  | [], s, k, hs, hk => by
    show (m - s) * (m + 2) ^ k + (m - 0 + 1) * (m + 2) ^ (k - 1) < (m - s + 1) * (m + 2) ^ k
    have e : (m + 2) ^ k = (m + 2) ^ (k - 1) * (m + 2) := by
      rw [← Nat.pow_succ]
      congr 1
      simp at hk
      omega
    have hp : 0 < (m + 2) ^ (k - 1) := Nat.pow_pos (by omega)
    rw [Nat.add_mul (m - s) 1, Nat.one_mul, e, Nat.sub_zero, Nat.mul_comm ((m + 2) ^ (k - 1)) (m + 2)]
    have : (m + 1) * (m + 2) ^ (k - 1) < (m + 2) * (m + 2) ^ (k - 1) := Nat.mul_lt_mul_of_pos_right (by omega) hp
    omega
  | x :: r, s, k, hs, hk => by
    simp at hk
    exact Nat.add_lt_add_left (meas_push m r s (k - 1) hs (by omega)) _
theorem meas_pop (m : Nat) : ∀ (r : List Nat) (x s k : Nat), x < m → meas m r (x + 1) k < meas m (r ++ [x]) s k
  | [], x, s, k, hx => by
    show (m - (x + 1) + 1) * (m + 2) ^ k < (m - x) * (m + 2) ^ k + (m - s + 1) * (m + 2) ^ (k - 1)
    have hp : 0 < (m - s + 1) * (m + 2) ^ (k - 1) := Nat.mul_pos (by omega) (Nat.pow_pos (by omega))
    rw [show m - (x + 1) + 1 = m - x by omega]
    omega
  | y :: r, x, s, k, hx => Nat.add_lt_add_left (meas_pop m r x s (k - 1) hx) _

/-! ### the least number of stacks -/
def Least (T : Nat → Nat → Bool) (n k : Nat) : Prop := (∃ c, Col T n k c) ∧ ∀ m, (∃ c, Col T n m c) → k ≤ m
theorem Least.uniq {T : Nat → Nat → Bool} {n k l : Nat} (a : Least T n k) (b : Least T n l) : k = l := Nat.le_antisymm (a.2 _ b.1) (b.2 _ a.1)
theorem col_id {T : Nat → Nat → Bool} {n : Nat} : Col T n n (List.range n) := by
  refine ⟨List.length_range, fun x hx => List.mem_range.mp hx, fun i j x hij hi hj => ?_⟩
  rw [List.getElem?_eq_some_iff] at hi hj
  obtain ⟨h1, e1⟩ := hi
  obtain ⟨h2, e2⟩ := hj
  simp at e1 e2
  omega
theorem Col.mono {T : Nat → Nat → Bool} {n k l : Nat} {c : List Nat} (h : Col T n k c) (hk : k ≤ l) : Col T n l c := ⟨h.1, fun x hx => Nat.lt_of_lt_of_le (h.2.1 x hx) hk, h.2.2⟩

/-! ### the law's own way: all rows of growing numbers -/
/-- one more than the greatest, 0 of none -/
def top : List Nat → Nat
  | [] => 0
  | x :: r => max (x + 1) (top r)
theorem lt_top : ∀ {r : List Nat} {x : Nat}, x ∈ r → x < top r
  | y :: r, x, h => by
    unfold top
    rcases List.mem_cons.mp h with e | e
    · omega
    · have := lt_top e
      omega
theorem top_le : ∀ {r : List Nat} {m : Nat}, (∀ x ∈ r, x < m) → top r ≤ m
  | [], _, _ => Nat.zero_le _
  | y :: r, m, h => by
    unfold top
    have h1 := h y (List.mem_cons_self ..)
    have h2 := top_le (r := r) (m := m) fun x hx => h x (List.mem_cons_of_mem _ hx)
    omega
theorem top_append (r : List Nat) (k : Nat) : top (r ++ [k]) = max (top r) (k + 1) := by
  induction r with
  | nil => simp [top]
  | cons x r ih =>
    show max (x + 1) (top (r ++ [k])) = max (max (x + 1) (top r)) (k + 1)
    rw [ih]
    omega
/-- the stacks that the law tries for the j-th stay behind a row -/
def rgsNext (T : Nat → Nat → Bool) (row : List Nat) : List (List Nat) := ((List.range (top row + 1)).filter fun k => !barred T row k).map fun k => row ++ [k]
def rgs (T : Nat → Nat → Bool) : Nat → List (List Nat)
  | 0 => [[]]
  | j + 1 => (rgs T j).flatMap (rgsNext T)
theorem rgs_col {T : Nat → Nat → Bool} : ∀ {j : Nat} {r : List Nat}, r ∈ rgs T j → Col T j (top r) r
  | 0, r, h => by
    have e : r = [] := by simpa [rgs] using h
    subst e
    exact ⟨rfl, fun x hx => by simp at hx, fun i j x _ h => by simp at h⟩
  | j + 1, r, h => by
    unfold rgs at h
    obtain ⟨q, hq, hr⟩ := List.mem_flatMap.mp h
    have ih := rgs_col hq
    unfold rgsNext at hr
    obtain ⟨k, hk, e⟩ := List.mem_map.mp hr
    obtain ⟨hk1, hk2⟩ := List.mem_filter.mp hk
    subst e
    have hk2 : barred T q k = false := by simpa using hk2
    refine ⟨by simp [ih.1], fun x hx => lt_top hx, fun a b x hab ha hb => ?_⟩
    have hbl := (List.getElem?_eq_some_iff.mp hb).1
    simp at hbl
    have hal : a < q.length := by omega
    rw [List.getElem?_append_left hal] at ha
    by_cases hb2 : b < q.length
    · rw [List.getElem?_append_left hb2] at hb
      exact ih.2.2 a b x hab ha hb
    · have eb : b = q.length := by omega
      subst eb
      simp at hb
      subst hb
      cases hT : T q.length a with
      | false => rfl
      | true =>
        have := barred_iff.mpr ⟨a, ha, hT⟩
        rw [hk2] at this
        cases this
/-- many unlike things among few -/
theorem nodup_le {α : Type} [DecidableEq α] : ∀ {l r : List α}, l.Nodup → (∀ x ∈ l, x ∈ r) → l.length ≤ r.length
  | [], _, _, _ => Nat.zero_le _
  | x :: l, r, hn, hs => by
    obtain ⟨h1, h2⟩ := List.nodup_cons.mp hn
    have hx := hs x (List.mem_cons_self ..)
    have ih := nodup_le (l := l) (r := r.erase x) h2 fun y hy => by
      refine (List.mem_erase_of_ne ?_).mpr (hs y (List.mem_cons_of_mem _ hy))
      rintro rfl
      exact h1 hy
    rw [List.length_erase_of_mem hx] at ih
    have : 0 < r.length := List.length_pos_of_mem hx
    rw [List.length_cons]
    omega
theorem rgs_has {T : Nat → Nat → Bool} {n m : Nat} {c : List Nat} (hc : Col T n m c) : ∀ j, j ≤ n → ∃ r ∈ rgs T j, ∃ ns : List Nat, ns.Nodup ∧ (∀ x ∈ ns, x < m) ∧ top r = ns.length ∧ r.length = j ∧ ∀ (i x : Nat), r[i]? = some x → c[i]? = ns[x]?
  | 0, _ => ⟨[], by simp [rgs], [], List.nodup_nil, fun x hx => by simp at hx, rfl, rfl, fun i x h => by simp at h⟩
  | j + 1, hj => by
    obtain ⟨r, hr, ns, nd, hm, ht, hl, hcn⟩ := rgs_has hc j (by omega)
    have hjc : j < c.length := by rw [hc.1]; omega
    have go : ∀ k, k ≤ ns.length → (∀ b, r[b]? = some k → c[b]? = c[j]?) → r ++ [k] ∈ rgs T (j + 1) := fun k hk hb => by
      unfold rgs
      refine List.mem_flatMap.mpr ⟨r, hr, ?_⟩
      unfold rgsNext
      refine List.mem_map.mpr ⟨k, List.mem_filter.mpr ⟨List.mem_range.mpr (by omega), ?_⟩, rfl⟩
      show (!barred T r k) = true
      cases hq : barred T r k with
      | false => rfl
      | true =>
        obtain ⟨b, h1, h2⟩ := barred_iff.mp hq
        have hbl := (List.getElem?_eq_some_iff.mp h1).1
        have e := hb b h1
        rw [List.getElem?_eq_getElem hjc] at e
        have := hc.2.2 b j _ (by omega) e (List.getElem?_eq_getElem hjc)
        rw [hl, this] at h2
        cases h2
    by_cases hin : c[j] ∈ ns
    · obtain ⟨k, hk, ek⟩ := List.getElem_of_mem hin
      have ek' : ns[k]? = some c[j] := by rw [List.getElem?_eq_getElem hk, ek]
      refine ⟨r ++ [k], go k (Nat.le_of_lt hk) fun b hb => by rw [hcn b k hb, ek', List.getElem?_eq_getElem hjc], ns, nd, hm, by rw [top_append, ht]; omega, by simp [hl], fun i x hx => ?_⟩
      have hil := (List.getElem?_eq_some_iff.mp hx).1
      simp at hil
      by_cases hi : i < r.length
      · rw [List.getElem?_append_left hi] at hx
        exact hcn i x hx
      · have ei : i = r.length := by omega
        subst ei
        simp at hx
        subst hx
        rw [hl, ek', List.getElem?_eq_getElem hjc]
    · refine ⟨r ++ [ns.length], go ns.length (Nat.le_refl _) fun b hb => ?_, ns ++ [c[j]], ?_, fun x hx => ?_, ?_, by simp [hl], fun i x hx => ?_⟩
      · exfalso
        have := lt_top (List.mem_of_getElem? hb)
        omega
      · rw [List.nodup_append]
        refine ⟨nd, by simp, fun a ha b hb => ?_⟩
        simp at hb
        subst hb
        rintro rfl
        exact hin ha
      · rcases List.mem_append.mp hx with z | z
        · exact hm x z
        · simp at z
          subst z
          exact hc.2.1 _ (List.getElem_mem hjc)
      · rw [top_append, ht]
        simp
      · have hil := (List.getElem?_eq_some_iff.mp hx).1
        simp at hil
        by_cases hi : i < r.length
        · rw [List.getElem?_append_left hi] at hx
          rw [hcn i x hx, List.getElem?_append_left]
          have := lt_top (List.mem_of_getElem? hx)
          omega
        · have ei : i = r.length := by omega
          subst ei
          simp at hx
          subst hx
          simp [hl, List.getElem?_eq_getElem hjc]
theorem rgs_least {T : Nat → Nat → Bool} {n k : Nat} (hk : ∃ r ∈ rgs T n, top r = k) (hl : ∀ r ∈ rgs T n, k ≤ top r) : Least T n k := by
  obtain ⟨r, hr, e⟩ := hk
  refine ⟨⟨r, e ▸ rgs_col hr⟩, fun m ⟨c, hc⟩ => ?_⟩
  obtain ⟨q, hq, ns, nd, hm, ht, _, _⟩ := rgs_has hc n (Nat.le_refl _)
  have h1 := hl q hq
  have h2 := nodup_le (r := List.range m) nd fun x hx => List.mem_range.mpr (hm x hx)
  rw [List.length_range] at h2
  omega
theorem rgs_ne {T : Nat → Nat → Bool} (n : Nat) : rgs T n ≠ [] := fun e => by
  obtain ⟨r, hr, _⟩ := rgs_has (T := T) (col_id (n := n)) n (Nat.le_refl _)
  rw [e] at hr
  cases hr
theorem rgs_len {T : Nat → Nat → Bool} {j : Nat} {r : List Nat} (h : r ∈ rgs T j) : r.length = j := (rgs_col h).1
theorem rgs_top {T : Nat → Nat → Bool} : ∀ {j : Nat} {r : List Nat}, r ∈ rgs T j → top r ≤ j
  | 0, r, h => by
    have e : r = [] := by simpa [rgs] using h
    subst e
    exact Nat.le_refl _
  | j + 1, r, h => by
    unfold rgs at h
    obtain ⟨q, hq, hr⟩ := List.mem_flatMap.mp h
    have ih := rgs_top hq
    unfold rgsNext at hr
    obtain ⟨k, hk, e⟩ := List.mem_map.mp hr
    obtain ⟨hk1, _⟩ := List.mem_filter.mp hk
    have := List.mem_range.mp hk1
    subst e
    rw [top_append]
    omega
theorem flatMap_le {α β : Type} (f : α → List β) (b : Nat) : ∀ (l : List α), (∀ x ∈ l, (f x).length ≤ b) → (l.flatMap f).length ≤ l.length * b
  | [], _ => by simp
  | x :: l, h => by
    rw [List.flatMap_cons, List.length_append, List.length_cons, Nat.add_mul, Nat.one_mul]
    have h1 := h x (List.mem_cons_self ..)
    have h2 := flatMap_le f b l fun y hy => h y (List.mem_cons_of_mem _ hy)
    omega
theorem rgsNext_le {T : Nat → Nat → Bool} {j : Nat} {r : List Nat} (h : r ∈ rgs T j) : (rgsNext T r).length ≤ j + 1 := by
  unfold rgsNext
  rw [List.length_map]
  have h1 := List.length_filter_le (fun k => !barred T r k) (List.range (top r + 1))
  rw [List.length_range] at h1
  have := rgs_top h
  omega
theorem rgs_size {T : Nat → Nat → Bool} : ∀ (j : Nat), j ≤ 6 → (rgs T j).length ≤ 7 ^ j
  | 0, _ => by simp [rgs]
  | j + 1, h => by
    have ih := rgs_size (T := T) j (by omega)
    have h1 := flatMap_le (rgsNext T) 7 (rgs T j) fun r hr => Nat.le_trans (rgsNext_le hr) (by omega)
    unfold rgs
    rw [Nat.pow_succ]
    exact Nat.le_trans h1 (Nat.mul_le_mul_right _ ih)

/-! ### crowds -/
def Crowd (T : Nat → Nat → Bool) (n : Nat) (l : List Nat) : Prop := l.Pairwise (fun a b => a < b ∧ T a b = true) ∧ ∀ x ∈ l, x < n
/-- where the program goes on behind a row -/
def behind (l : List Nat) : Nat := match l.getLast? with
  | some x => x + 1
  | none => 0
def crowdNext (T : Nat → Nat → Bool) (n : Nat) (row : List Nat) : List (List Nat) := ((List.range' (behind row) (n - behind row)).filter fun b => row.all fun a => T a b).map fun b => row ++ [b]
def crowds (T : Nat → Nat → Bool) (n : Nat) : Nat → List (List Nat)
  | 0 => [[]]
  | s + 1 => (crowds T n s).flatMap (crowdNext T n)
theorem pw_snoc {R : Nat → Nat → Prop} {l : List Nat} {b : Nat} : (l ++ [b]).Pairwise R ↔ l.Pairwise R ∧ ∀ a ∈ l, R a b := by
  rw [List.pairwise_append]
  constructor
  · rintro ⟨h1, _, h3⟩
    exact ⟨h1, fun a ha => h3 a ha b (List.mem_singleton.mpr rfl)⟩
  · rintro ⟨h1, h2⟩
    exact ⟨h1, List.pairwise_singleton .., fun a ha c hc => by rw [List.mem_singleton.mp hc]; exact h2 a ha⟩
theorem behind_le {T : Nat → Nat → Bool} {n : Nat} {l : List Nat} (h : Crowd T n l) {b : Nat} : behind l ≤ b ↔ ∀ a ∈ l, a < b := by
  rcases List.eq_nil_or_concat l with e | ⟨r, x, e⟩
  · subst e
    exact ⟨fun _ a ha => by simp at ha, fun _ => Nat.zero_le _⟩
  · subst e
    have hb : behind (r.concat x) = x + 1 := by simp [behind]
    rw [hb]
    rw [List.concat_eq_append] at h ⊢
    have hp := (pw_snoc.mp h.1).2
    constructor
    · intro hx a ha
      rcases List.mem_append.mp ha with z | z
      · have := (hp a z).1
        omega
      · rw [List.mem_singleton.mp z]
        omega
    · intro ha
      exact ha x (by simp)
theorem crowds_mem {T : Nat → Nat → Bool} {n : Nat} : ∀ {s : Nat} {l : List Nat}, l ∈ crowds T n s ↔ Crowd T n l ∧ l.length = s
  | 0, l => by
    simp only [crowds, List.mem_singleton]
    constructor
    · rintro rfl
      exact ⟨⟨List.Pairwise.nil, fun x hx => by simp at hx⟩, rfl⟩
    · rintro ⟨_, h⟩
      exact List.eq_nil_of_length_eq_zero h
  | s + 1, l => by
    simp only [crowds, List.mem_flatMap, crowdNext, List.mem_map, List.mem_filter, List.mem_range'_1]
    constructor
    · rintro ⟨r, hr, b, ⟨⟨h1, h2⟩, h3⟩, rfl⟩
      obtain ⟨hc, hl⟩ := crowds_mem.mp hr
      refine ⟨⟨pw_snoc.mpr ⟨hc.1, fun a ha => ⟨(behind_le hc).mp h1 a ha, List.all_eq_true.mp h3 a ha⟩⟩, fun x hx => ?_⟩, by simp [hl]⟩
      rcases List.mem_append.mp hx with z | z
      · exact hc.2 x z
      · rw [List.mem_singleton.mp z]
        omega
    · rintro ⟨hc, hl⟩
      rcases List.eq_nil_or_concat l with e | ⟨r, b, e⟩
      · subst e
        simp at hl
      · rw [List.concat_eq_append] at e
        subst e
        obtain ⟨p1, p2⟩ := pw_snoc.mp hc.1
        have hcr : Crowd T n r := ⟨p1, fun x hx => hc.2 x (List.mem_append_left _ hx)⟩
        have hb := hc.2 b (by simp)
        have h1 := (behind_le hcr (b := b)).mpr fun a ha => (p2 a ha).1
        exact ⟨r, crowds_mem.mpr ⟨hcr, by simpa using hl⟩, b, ⟨⟨h1, by omega⟩, List.all_eq_true.mpr fun a ha => (p2 a ha).2⟩, rfl⟩
theorem crowds_size {T : Nat → Nat → Bool} {n : Nat} (hn : n ≤ 6) : ∀ (s : Nat), (crowds T n s).length ≤ 6 ^ s
  | 0 => by simp [crowds]
  | s + 1 => by
    have ih := crowds_size (T := T) hn s
    have h1 := flatMap_le (crowdNext T n) 6 (crowds T n s) fun r hr => by
      unfold crowdNext
      rw [List.length_map]
      have h2 := List.length_filter_le (fun b => r.all fun a => T a b) (List.range' (behind r) (n - behind r))
      rw [List.length_range'] at h2
      omega
    unfold crowds
    rw [Nat.pow_succ]
    exact Nat.le_trans h1 (Nat.mul_le_mul_right _ ih)
/-- whether numbers are a crowd, as looked at -/
def isCrowd (T : Nat → Nat → Bool) (n : Nat) : List Nat → Bool
  | [] => true
  | a :: r => decide (a < n) && r.all (fun b => decide (a < b) && T a b) && isCrowd T n r
theorem isCrowd_iff {T : Nat → Nat → Bool} {n : Nat} : ∀ {l : List Nat}, isCrowd T n l = true ↔ Crowd T n l
  | [] => ⟨fun _ => ⟨List.Pairwise.nil, fun x hx => by simp at hx⟩, fun _ => rfl⟩
  | a :: r => by
    have ih := isCrowd_iff (T := T) (n := n) (l := r)
    simp only [isCrowd, Bool.and_eq_true, decide_eq_true_eq, List.all_eq_true, ih, Crowd, List.pairwise_cons, List.mem_cons]
    constructor
    · rintro ⟨⟨h1, h2⟩, h3, h4⟩
      refine ⟨⟨h2, h3⟩, fun x hx => ?_⟩
      rcases hx with e | e
      · rw [e]; exact h1
      · exact h4 x e
    · rintro ⟨⟨h1, h2⟩, h3⟩
      exact ⟨⟨h3 a (.inl rfl), h1⟩, h2, fun x hx => h3 x (.inr hx)⟩
/-- the law's own way -/
def foundL (T : Nat → Nat → Bool) (n k : Nat) : Nat → List (List Nat)
  | 0 => [[]]
  | j + 1 => foundL T n k j ++ ((foundL T n k j).filter fun r => decide (r.length < k) && isCrowd T n (r ++ [j])).map fun r => r ++ [j]
theorem foundL_mem {T : Nat → Nat → Bool} {n k : Nat} : ∀ {j : Nat} {l : List Nat}, j ≤ n → (l ∈ foundL T n k j ↔ Crowd T n l ∧ l.length ≤ k ∧ ∀ x ∈ l, x < j)
  | 0, l, _ => by
    simp only [foundL, List.mem_singleton]
    constructor
    · rintro rfl
      exact ⟨⟨List.Pairwise.nil, fun x hx => by simp at hx⟩, Nat.zero_le _, fun x hx => by simp at hx⟩
    · rintro ⟨_, _, h⟩
      cases l with
      | nil => rfl
      | cons a r => exact absurd (h a (List.mem_cons_self ..)) (Nat.not_lt_zero _)
  | j + 1, l, hj => by
    have ih := fun r => foundL_mem (T := T) (n := n) (k := k) (j := j) (l := r) (by omega)
    simp only [foundL, List.mem_append, List.mem_map, List.mem_filter, Bool.and_eq_true, decide_eq_true_eq, isCrowd_iff, ih]
    constructor
    · rintro (⟨h1, h2, h3⟩ | ⟨r, ⟨⟨h1, h2, h3⟩, h4, h5⟩, rfl⟩)
      · exact ⟨h1, h2, fun x hx => Nat.lt_succ_of_lt (h3 x hx)⟩
      · refine ⟨h5, by simp; omega, fun x hx => ?_⟩
        rcases List.mem_append.mp hx with z | z
        · exact Nat.lt_succ_of_lt (h3 x z)
        · rw [List.mem_singleton.mp z]
          omega
    · rintro ⟨h1, h2, h3⟩
      by_cases hl : ∀ x ∈ l, x < j
      · exact .inl ⟨h1, h2, hl⟩
      · right
        rcases List.eq_nil_or_concat l with e | ⟨r, b, e⟩
        · subst e
          exact absurd (fun x hx => by simp at hx) hl
        · rw [List.concat_eq_append] at e
          subst e
          obtain ⟨p1, p2⟩ := pw_snoc.mp h1.1
          have hb := h3 b (by simp)
          have eb : b = j := by
            rcases Nat.lt_or_ge b j with z | z
            · exfalso
              refine hl fun x hx => ?_
              rcases List.mem_append.mp hx with y | y
              · have := (p2 x y).1
                omega
              · rw [List.mem_singleton.mp y]
                exact z
            · omega
          subst eb
          refine ⟨r, ⟨⟨⟨p1, fun x hx => h1.2 x (List.mem_append_left _ hx)⟩, by simp at h2; omega, fun x hx => (p2 x hx).1⟩, by simp at h2; omega, h1⟩, rfl⟩
theorem foundL_size {T : Nat → Nat → Bool} {n k : Nat} : ∀ (j : Nat), (foundL T n k j).length ≤ 2 ^ j
  | 0 => by simp [foundL]
  | j + 1 => by
    have ih := foundL_size (T := T) (n := n) (k := k) j
    have h2 := List.length_filter_le (fun r => decide (r.length < k) && isCrowd T n (r ++ [j])) (foundL T n k j)
    simp only [foundL, List.length_append, List.length_map]
    rw [Nat.pow_succ]
    omega
theorem crowd_both {T : Nat → Nat → Bool} {n k : Nat} : (∃ l ∈ foundL T n k n, l.length = k) ↔ crowds T n k ≠ [] := by
  constructor
  · rintro ⟨l, hl, e⟩ q
    obtain ⟨h1, _, _⟩ := (foundL_mem (Nat.le_refl _)).mp hl
    have := crowds_mem.mpr ⟨h1, e⟩
    rw [q] at this
    cases this
  · intro h
    cases q : crowds T n k with
    | nil => exact absurd q h
    | cons l r =>
      obtain ⟨h1, h2⟩ := crowds_mem.mp (show l ∈ crowds T n k by rw [q]; exact List.mem_cons_self ..)
      exact ⟨l, (foundL_mem (Nat.le_refl _)).mpr ⟨h1, by omega, h1.2⟩, h2⟩
end K33

set_option linter.all false
namespace K33
open PySem
/-! ### events -/
section
variable {α : Type} [DecidableEq α]
/-- what is there behind events, none if they cannot come so -/
def run : List α → List (Bool × α) → Option (List α)
  | th, [] => some th
  | th, (true, n) :: r => if n ∈ th then none else run (th ++ [n]) r
  | th, (false, n) :: r => if n ∈ th then run (th.erase n) r else none
theorem run_T {th : List α} {n : α} {r : List (Bool × α)} : run th ((true, n) :: r) = if n ∈ th then none else run (th ++ [n]) r := rfl
theorem run_F {th : List α} {n : α} {r : List (Bool × α)} : run th ((false, n) :: r) = if n ∈ th then run (th.erase n) r else none := rfl
theorem run_append : ∀ (a b : List (Bool × α)) (th : List α), run th (a ++ b) = (run th a).bind fun t => run t b
  | [], b, th => rfl
  | (true, n) :: r, b, th => by
    rw [List.cons_append, run_T, run_T]
    by_cases h : n ∈ th
    · rw [if_pos h, if_pos h]
      rfl
    · rw [if_neg h, if_neg h]
      exact run_append r b _
  | (false, n) :: r, b, th => by
    rw [List.cons_append, run_F, run_F]
    by_cases h : n ∈ th
    · rw [if_pos h, if_pos h]
      exact run_append r b _
    · rw [if_neg h, if_neg h]
      rfl
theorem run_nodup : ∀ (a : List (Bool × α)) (th t : List α), th.Nodup → run th a = some t → t.Nodup
  | [], th, t, h, e => by
    have e' : th = t := Option.some.inj e
    rw [← e']
    exact h
  | (true, n) :: r, th, t, h, e => by
    unfold run at e
    by_cases hn : n ∈ th
    · rw [if_pos hn] at e
      cases e
    · rw [if_neg hn] at e
      refine run_nodup r _ t ?_ e
      rw [List.nodup_append]
      refine ⟨h, by simp, fun a ha b hb => ?_⟩
      simp at hb
      subst hb
      rintro rfl
      exact hn ha
  | (false, n) :: r, th, t, h, e => by
    unfold run at e
    by_cases hn : n ∈ th
    · rw [if_pos hn] at e
      exact run_nodup r _ t (h.erase n) e
    · rw [if_neg hn] at e
      cases e
/-- what is there has come or was there -/
theorem run_sub : ∀ (a : List (Bool × α)) (th t : List α), run th a = some t → ∀ x ∈ t, x ∈ th ∨ x ∈ a.map (·.2)
  | [], th, t, e, x, hx => by
    have e' : th = t := Option.some.inj e
    rw [e']
    exact .inl hx
  | (true, n) :: r, th, t, e, x, hx => by
    unfold run at e
    by_cases hn : n ∈ th
    · rw [if_pos hn] at e
      cases e
    · rw [if_neg hn] at e
      rcases run_sub r _ t e x hx with h | h
      · rcases List.mem_append.mp h with h | h
        · exact .inl h
        · exact .inr (by simp at h; simp [h])
      · exact .inr (List.mem_cons_of_mem _ h)
  | (false, n) :: r, th, t, e, x, hx => by
    unfold run at e
    by_cases hn : n ∈ th
    · rw [if_pos hn] at e
      rcases run_sub r _ t e x hx with h | h
      · exact .inl (List.mem_of_mem_erase h)
      · exact .inr (List.mem_cons_of_mem _ h)
    · rw [if_neg hn] at e
      cases e
theorem erase_map {β : Type} [DecidableEq β] (f : α → β) (hf : ∀ a b, f a = f b → a = b) (x : α) : ∀ l : List α, (l.map f).erase (f x) = (l.erase x).map f
  | [] => rfl
  | y :: l => by
    by_cases h : y = x
    · subst h
      simp
    · have h2 : ¬ f y = f x := fun e => h (hf _ _ e)
      rw [List.map_cons, List.erase_cons_tail (by simpa using h2), List.erase_cons_tail (by simpa using h), List.map_cons, erase_map f hf x l]
theorem run_map {β : Type} [DecidableEq β] (f : α → β) (hf : ∀ a b, f a = f b → a = b) : ∀ (es : List (Bool × α)) (th : List α), run (th.map f) (es.map fun e => (e.1, f e.2)) = (run th es).map (List.map f)
  | [], th => rfl
  | (b, n) :: r, th => by
    have hm : f n ∈ th.map f ↔ n ∈ th := by
      constructor
      · intro h
        obtain ⟨y, hy, e⟩ := List.mem_map.mp h
        rw [← hf _ _ e]
        exact hy
      · exact fun h => List.mem_map.mpr ⟨n, h, rfl⟩
    cases b with
    | true =>
      show run (th.map f) ((true, f n) :: (r.map fun e => (e.1, f e.2))) = (run th ((true, n) :: r)).map (List.map f)
      unfold run
      by_cases h : n ∈ th
      · rw [if_pos h, if_pos (hm.mpr h)]
        rfl
      · rw [if_neg h, if_neg (fun z => h (hm.mp z)), ← run_map f hf r, List.map_append]
        rfl
    | false =>
      show run (th.map f) ((false, f n) :: (r.map fun e => (e.1, f e.2))) = (run th ((false, n) :: r)).map (List.map f)
      unfold run
      by_cases h : n ∈ th
      · rw [if_pos h, if_pos (hm.mpr h), erase_map f hf, ← run_map f hf r]
      · rw [if_neg h, if_neg (fun z => h (hm.mp z))]
        rfl
/-- a going of what isn't there -/
theorem run_out {p q : List (Bool × α)} {s : α} (h : s ∉ p.map (·.2)) : run [] (p ++ (false, s) :: q) = none := by
  rw [run_append]
  cases e : run [] p with
  | none => rfl
  | some t =>
    show run t ((false, s) :: q) = none
    unfold run
    rw [if_neg]
    intro hs
    rcases run_sub p [] t e s hs with z | z
    · cases z
    · exact h z
/-- a coming of what is there -/
theorem run_stay : ∀ {p : List (Bool × α)} {s : α} {th t : List α}, s ∉ p.map (·.2) → s ∈ th → run th p = some t → s ∈ t
  | [], s, th, t, _, hs, e => by
    have e' : th = t := Option.some.inj e
    rw [← e']
    exact hs
  | (true, n) :: r, s, th, t, h, hs, e => by
    unfold run at e
    by_cases hn : n ∈ th
    · rw [if_pos hn] at e
      cases e
    · rw [if_neg hn] at e
      exact run_stay (fun z => h (List.mem_cons_of_mem _ z)) (List.mem_append_left _ hs) e
  | (false, n) :: r, s, th, t, h, hs, e => by
    unfold run at e
    by_cases hn : n ∈ th
    · rw [if_pos hn] at e
      refine run_stay (fun z => h (List.mem_cons_of_mem _ z)) ((List.mem_erase_of_ne ?_).mpr hs) e
      rintro rfl
      exact h (by simp)
    · rw [if_neg hn] at e
      cases e
theorem run_twice {p : List (Bool × α)} {s : α} (h : s ∉ p.map (·.2)) : run [] ((true, s) :: (p ++ [(true, s)])) = none := by
  show (if s ∈ ([] : List α) then none else run ([] ++ [s]) (p ++ [(true, s)])) = none
  rw [if_neg (by simp), run_append]
  cases e : run ([] ++ [s]) p with
  | none => rfl
  | some t =>
    show run t [(true, s)] = none
    unfold run
    rw [if_pos (run_stay h (by simp) e)]
theorem run_gone {p : List (Bool × α)} {s : α} (h : s ∉ p.map (·.2)) : run [] ((true, s) :: (false, s) :: (p ++ [(false, s)])) = none := by
  have e0 : run [] ((true, s) :: (false, s) :: (p ++ [(false, s)])) = run [] (p ++ [(false, s)]) := by
    show (if s ∈ ([] : List α) then none else run ([] ++ [s]) ((false, s) :: (p ++ [(false, s)]))) = _
    rw [if_neg (by simp)]
    show (if s ∈ ([] ++ [s] : List α) then run (([] ++ [s] : List α).erase s) (p ++ [(false, s)]) else none) = _
    rw [if_pos (by simp)]
    simp
  rw [e0]
  exact run_out h
end
abbrev Evt := Bool × Str

/-! ### the law's events -/
structure Gen where
  here : List Str
  new : List Str
  gone : List Str
  com : Int
  evs : List Evt
/-- a coming, a going -/
def Gen.comes (g : Gen) (m : Int) : Bool := (decide (m % 5 < 2) || g.here.isEmpty) && decide (0 < g.com) && decide (0 < g.new.length + g.gone.length)
def Gen.again (g : Gen) (m : Int) : Bool := decide (0 < g.gone.length) && (g.new.isEmpty || decide (m / 5 % 3 = 0))
def Gen.ix (m : Int) (l : List Str) : Nat := (m / 15 % (l.length : Int)).toNat
def Gen.inName (g : Gen) (m : Int) : Str := if g.again m then g.gone.getD (Gen.ix m g.gone) Str.empty else g.new.headD Str.empty
def Gen.outName (g : Gen) (m : Int) : Str := if 0 < m / 5 % 3 then g.here.getD (Gen.ix m g.here) Str.empty else g.here.headD Str.empty
def Gen.step (g : Gen) (m : Int) : Gen :=
  if g.comes m then
    { here := g.here ++ [g.inName m], new := if g.again m then g.new else g.new.drop 1, gone := if g.again m then g.gone.eraseIdx (Gen.ix m g.gone) else g.gone, com := g.com - 1, evs := g.evs ++ [(true, g.inName m)] }
  else if g.here.isEmpty then g
  else { here := g.here.erase (g.outName m), new := g.new, gone := g.gone ++ [g.outName m], com := g.com, evs := g.evs ++ [(false, g.outName m)] }
def Gen.start (ns : List Str) : Gen := ⟨[], ns, [], 6, []⟩
def gen (ns : List Str) (ms : List Int) : Gen := ms.foldl Gen.step (Gen.start ns)
theorem Gen.ix_lt (m : Int) {l : List Str} (h : 0 < l.length) : Gen.ix m l < l.length := by
  unfold Gen.ix
  have h1 : (0 : Int) < l.length := by omega
  have := Int.emod_lt_of_pos (m / 15) h1
  have := Int.emod_nonneg (m / 15) (b := (l.length : Int)) (by omega)
  omega
structure GenOk (ns : List Str) (g : Gen) : Prop where
  perm : (g.here ++ (g.new ++ g.gone)).Perm ns
  run : run [] g.evs = some g.here
  cnt : ((g.evs.filter (·.1)).length : Int) + g.com = 6
  pos : 0 ≤ g.com
  sub : ∀ e ∈ g.evs, e.2 ∈ ns
theorem perm_eraseIdx {α : Type} : ∀ (l : List α) (i : Nat) (h : i < l.length), (l[i] :: l.eraseIdx i).Perm l
  | [], i, h => absurd h (by simp)
  | x :: l, 0, _ => List.Perm.refl _
  | x :: l, i + 1, h => by
    show (l[i]'(by simpa using h) :: x :: l.eraseIdx i).Perm (x :: l)
    exact (List.Perm.swap x _ _).trans ((perm_eraseIdx l i (by simpa using h)).cons x)
theorem Gen.in_perm {g : Gen} {m : Int} (h : g.comes m = true) : (g.inName m :: ((if g.again m then g.new else g.new.drop 1) ++ (if g.again m then g.gone.eraseIdx (Gen.ix m g.gone) else g.gone))).Perm (g.new ++ g.gone) := by
  unfold Gen.inName
  by_cases ha : g.again m = true
  · rw [if_pos ha, if_pos ha, if_pos ha]
    have hg : 0 < g.gone.length := by
      unfold Gen.again at ha
      rw [Bool.and_eq_true, decide_eq_true_eq] at ha
      exact ha.1
    have hi := Gen.ix_lt m hg
    have e : g.gone.getD (Gen.ix m g.gone) Str.empty = g.gone[Gen.ix m g.gone] := by
      rw [List.getD_eq_getElem?_getD, List.getElem?_eq_getElem hi]
      rfl
    rw [e]
    exact (List.perm_middle.symm).trans ((perm_eraseIdx g.gone _ hi).append_left g.new)
  · rw [if_neg ha, if_neg ha, if_neg ha]
    unfold Gen.comes at h
    rw [Bool.and_eq_true, decide_eq_true_eq] at h
    have hn : g.new ≠ [] := fun e => by
      rw [e] at h
      unfold Gen.again at ha
      rw [e] at ha
      simp at ha h
      have := h.2
      rw [ha] at this
      simp at this
    cases e : g.new with
    | nil => exact absurd e hn
    | cons x r =>
      rw [List.headD_cons, List.drop_one, List.tail_cons]
      exact List.Perm.refl _
theorem Gen.out_mem {g : Gen} {m : Int} (h : g.here.isEmpty = false) : g.outName m ∈ g.here := by
  have hp : 0 < g.here.length := by
    cases e : g.here with
    | nil => rw [e] at h; cases h
    | cons x r => simp
  unfold Gen.outName
  split
  · have hi := Gen.ix_lt m hp
    rw [List.getD_eq_getElem?_getD, List.getElem?_eq_getElem hi]
    exact List.getElem_mem hi
  · cases e : g.here with
    | nil => rw [e] at h; cases h
    | cons x r => simp
theorem GenOk.start {ns : List Str} : GenOk ns (Gen.start ns) := ⟨by simp [Gen.start], rfl, rfl, by show (0 : Int) ≤ 6; decide, fun e h => by cases h⟩
theorem GenOk.step {ns : List Str} (hn : ns.Nodup) {g : Gen} (m : Int) (k : GenOk ns g) : GenOk ns (g.step m) := by
  unfold Gen.step
  by_cases hc : g.comes m = true
  · rw [if_pos hc]
    have hp := Gen.in_perm hc
    have hx : g.inName m ∈ ns := k.perm.subset (List.mem_append_right _ (hp.subset (List.mem_cons_self ..)))
    have hperm : (g.here ++ (g.inName m :: ((if g.again m then g.new else g.new.drop 1) ++ (if g.again m then g.gone.eraseIdx (Gen.ix m g.gone) else g.gone)))).Perm ns := (hp.append_left g.here).trans k.perm
    have hnot : g.inName m ∉ g.here := fun z => by
      have nd := hperm.nodup_iff.mpr hn
      rw [List.nodup_append] at nd
      exact nd.2.2 _ z _ (List.mem_cons_self ..) rfl
    refine ⟨?_, ?_, ?_, ?_, fun e he => ?_⟩
    · show ((g.here ++ [g.inName m]) ++ _).Perm ns
      rw [List.append_assoc]
      exact hperm
    · show K33.run [] (g.evs ++ [(true, g.inName m)]) = some (g.here ++ [g.inName m])
      rw [run_append, k.run]
      show K33.run g.here [(true, g.inName m)] = _
      unfold K33.run
      rw [if_neg hnot]
      rfl
    · have := k.cnt
      show (((g.evs ++ [(true, g.inName m)]).filter (·.1)).length : Int) + (g.com - 1) = 6
      rw [List.filter_append, List.length_append]
      show ((_ + 1 : Nat) : Int) + (g.com - 1) = 6
      omega
    · unfold Gen.comes at hc
      simp only [Bool.and_eq_true, decide_eq_true_eq] at hc
      show 0 ≤ g.com - 1
      omega
    · rcases List.mem_append.mp he with z | z
      · exact k.sub e z
      · rw [List.mem_singleton.mp z]
        exact hx
  · rw [if_neg hc]
    by_cases he : g.here.isEmpty = true
    · rw [if_pos he]
      exact k
    · rw [if_neg he]
      have he : g.here.isEmpty = false := by simpa using he
      have hm := Gen.out_mem (m := m) he
      refine ⟨?_, ?_, ?_, k.pos, fun e h => ?_⟩
      · show (g.here.erase (g.outName m) ++ (g.new ++ (g.gone ++ [g.outName m]))).Perm ns
        have h1 : (g.here.erase (g.outName m) ++ (g.new ++ (g.gone ++ [g.outName m]))).Perm (g.outName m :: (g.here.erase (g.outName m) ++ (g.new ++ g.gone))) := by
          rw [← List.append_assoc g.new, ← List.append_assoc]
          exact List.perm_append_singleton _ _
        refine h1.trans (List.Perm.trans ?_ k.perm)
        exact ((List.perm_cons_erase hm).symm).append_right (g.new ++ g.gone)
      · show K33.run [] (g.evs ++ [(false, g.outName m)]) = some (g.here.erase (g.outName m))
        rw [run_append, k.run]
        show K33.run g.here [(false, g.outName m)] = _
        unfold K33.run
        rw [if_pos hm]
        rfl
      · have := k.cnt
        show (((g.evs ++ [(false, g.outName m)]).filter (·.1)).length : Int) + g.com = 6
        rw [List.filter_append, List.length_append]
        show ((_ + 0 : Nat) : Int) + g.com = 6
        omega
      · rcases List.mem_append.mp h with z | z
        · exact k.sub e z
        · rw [List.mem_singleton.mp z]
          exact k.perm.subset (List.mem_append_left _ hm)
theorem gen_ok {ns : List Str} (hn : ns.Nodup) (ms : List Int) : GenOk ns (gen ns ms) := by
  have go : ∀ (ms : List Int) (g : Gen), GenOk ns g → GenOk ns (ms.foldl Gen.step g) := by
    intro ms
    induction ms with
    | nil => exact fun g h => h
    | cons m ms ih => exact fun g h => ih _ (h.step hn m)
  exact go ms _ GenOk.start
theorem Gen.step_len (g : Gen) (m : Int) : (g.step m).evs.length ≤ g.evs.length + 1 := by
  unfold Gen.step
  split
  · simp
  · split
    · omega
    · simp
theorem gen_len (ns : List Str) (ms : List Int) : (gen ns ms).evs.length ≤ ms.length := by
  have go : ∀ (ms : List Int) (g : Gen), (ms.foldl Gen.step g).evs.length ≤ g.evs.length + ms.length := by
    intro ms
    induction ms with
    | nil => exact fun g => Nat.le_refl _
    | cons m ms ih =>
      intro g
      have h1 := ih (g.step m)
      have h2 := g.step_len m
      rw [List.foldl_cons, List.length_cons]
      omega
  have := go ms (Gen.start ns)
  simpa [gen, Gen.start] using this

/-! ### the round -/
/-- five stays that clash round, over places of names -/
def round0 {α : Type} (f : Nat → α) : List (Bool × α) :=
  [(true, f 0), (true, f 4), (true, f 1), (false, f 0), (true, f 2), (false, f 1), (true, f 3), (false, f 2), (false, f 4), (false, f 3)]
def ins {α : Type} (l : List α) (k : Nat) (x : α) : List α := l.take k ++ [x] ++ l.drop k
/-- one more comes at p; it goes at q -/
def round1 {α : Type} (f : Nat → α) (p : Nat) : List (Bool × α) := ins (round0 f) p (true, f 5)
def round2 {α : Type} (f : Nat → α) (p q : Nat) : List (Bool × α) := ins (round1 f p) q (false, f 5)
theorem round0_map {α β : Type} (g : α → β) (f : Nat → α) : round0 (fun i => g (f i)) = (round0 f).map fun e => (e.1, g e.2) := rfl
theorem ins_map {α β : Type} (g : α → β) (l : List α) (k : Nat) (x : α) : ins (l.map g) k (g x) = (ins l k x).map g := by
  simp [ins, List.map_take, List.map_drop]
def fin6 (i : Nat) : Fin 6 := ⟨i % 6, Nat.mod_lt _ (by decide)⟩
/-- the names by places -/
def nth (ns : List Str) (i : Nat) : Str := ns.getD i Str.empty
def atF (ns : List Str) (i : Fin 6) : Str := nth ns i.1
theorem nth_fin (ns : List Str) {i : Nat} (h : i < 6) : atF ns (fin6 i) = nth ns i := by
  show nth ns (i % 6) = nth ns i
  rw [Nat.mod_eq_of_lt h]
theorem atF_inj {ns : List Str} (hn : ns.Nodup) (hl : ns.length = 6) (a b : Fin 6) (h : atF ns a = atF ns b) : a = b := by
  unfold atF nth at h
  have ha : a.1 < ns.length := by omega
  have hb : b.1 < ns.length := by omega
  rw [List.getD_eq_getElem?_getD, List.getD_eq_getElem?_getD, List.getElem?_eq_getElem ha, List.getElem?_eq_getElem hb] at h
  exact Fin.ext ((List.getElem_inj hn).mp h)
def roundF (k : Nat) (p q : Nat) : List (Bool × Fin 6) := match k with
  | 0 => round0 fin6
  | 1 => round1 fin6 p
  | _ => round2 fin6 p q
def roundS (ns : List Str) (k p q : Nat) : List Evt := match k with
  | 0 => round0 (nth ns)
  | 1 => round1 (nth ns) p
  | _ => round2 (nth ns) p q
theorem roundS_eq (ns : List Str) (k p q : Nat) : roundS ns k p q = (roundF k p q).map fun e => (e.1, atF ns e.2) := by
  have e0 : round0 (nth ns) = (round0 fin6).map fun e => (e.1, atF ns e.2) := rfl
  have e1 : round1 (nth ns) p = (round1 fin6 p).map fun e => (e.1, atF ns e.2) := by
    unfold round1
    rw [e0]
    exact ins_map (fun e : Bool × Fin 6 => (e.1, atF ns e.2)) (round0 fin6) p (true, fin6 5)
  match k with
  | 0 => exact e0
  | 1 => exact e1
  | k + 2 =>
    show round2 (nth ns) p q = (round2 fin6 p q).map fun e => (e.1, atF ns e.2)
    unfold round2
    rw [e1]
    exact ins_map (fun e : Bool × Fin 6 => (e.1, atF ns e.2)) (round1 fin6 p) q (false, fin6 5)
def roundOk (k p q : Nat) : Bool := (run [] (roundF k p q)).isSome && decide (((roundF k p q).filter (·.1)).length ≤ 6) && decide ((roundF k p q).length ≤ 12)
theorem rounds_ok : ∀ k < 3, ∀ p < 11, ∀ q < 12, (k = 2 → p < q) → roundOk k p q = true := by decide +kernel
/-- what is asked of events -/
structure EvOk (ns : List Str) (es : List Evt) : Prop where
  ok : (run [] es).isSome = true
  six : (es.filter (·.1)).length ≤ 6
  twelve : es.length ≤ 12
  sub : ∀ e ∈ es, e.2 ∈ ns
theorem round_ok {ns : List Str} (hn : ns.Nodup) (hl : ns.length = 6) {k p q : Nat} (hk : k < 3) (hp : p < 11) (hq : q < 12) (h2 : k = 2 → p < q) : EvOk ns (roundS ns k p q) := by
  have h := rounds_ok k hk p hp q hq h2
  unfold roundOk at h
  simp only [Bool.and_eq_true, decide_eq_true_eq] at h
  obtain ⟨⟨a, b⟩, c⟩ := h
  have hr : run ([] : List Str) (roundS ns k p q) = (run [] (roundF k p q)).map (List.map (atF ns)) := by
    rw [roundS_eq]
    exact run_map (atF ns) (atF_inj hn hl) (roundF k p q) []
  refine ⟨?_, ?_, ?_, fun e he => ?_⟩
  · rw [hr, Option.isSome_map]
    exact a
  · rw [roundS_eq, List.filter_map, List.length_map]
    exact b
  · rw [roundS_eq, List.length_map]
    exact c
  · rw [roundS_eq] at he
    obtain ⟨x, _, rfl⟩ := List.mem_map.mp he
    have hx : x.2.1 < ns.length := by omega
    show ns.getD x.2.1 Str.empty ∈ ns
    rw [List.getD_eq_getElem?_getD, List.getElem?_eq_getElem hx]
    exact List.getElem_mem hx
theorem gen_evok {ns : List Str} (hn : ns.Nodup) {ms : List Int} (hm : ms.length ≤ 12) : EvOk ns (gen ns ms).evs := by
  have k := gen_ok hn ms
  refine ⟨by rw [k.run]; rfl, ?_, Nat.le_trans (gen_len ns ms) hm, k.sub⟩
  have := k.cnt
  have := k.pos
  omega
end K33

set_option linter.all false
namespace K33
open PySem
/-! ### names -/
def S (l : List Nat) : Str := ⟨l.toArray⟩
theorem S_app (a b : List Nat) : S a ++ S b = S (a ++ b) := by
  show (⟨a.toArray ++ b.toArray⟩ : Str) = _
  rw [List.append_toArray]
  rfl
theorem S_len (a : List Nat) : (S a).length = a.length := by
  show a.toArray.size = _
  rw [List.size_toArray]
theorem S_list (a : List Nat) : (S a).cps.toList = a := rfl
theorem S_inj {a b : List Nat} (h : S a = S b) : a = b := by
  have := congrArg (fun s => s.cps.toList) h
  exact this
/-- letters: 97 .. 122 -/
def Low (l : List Nat) : Prop := ∀ c ∈ l, 97 ≤ c ∧ c < 123
def base (h t : List Nat) (a st k : Nat) : List Nat := h ++ [97 + (a + st * k) % 26] ++ t
def more (m : Nat) (x : List Nat) : List (List Nat) := [x, x ++ [m], [m] ++ x ++ [m]]
def names6 (h t : List Nat) (a st : Nat) : Option Nat → List (List Nat)
  | none => (List.range 6).map (base h t a st)
  | some m => more m (base h t a st 0) ++ more m (base h t a st 3)
theorem step_inj : ∀ st ∈ [1, 3, 5, 7, 9, 11], ∀ a < 26, ∀ j < 6, ∀ k < 6, (a + st * j) % 26 = (a + st * k) % 26 → j = k := by decide +kernel
theorem base_inj {h t : List Nat} {a st j k : Nat} (hs : st ∈ [1, 3, 5, 7, 9, 11]) (hj : j < 6) (hk : k < 6) (e : base h t a st j = base h t a st k) : j = k := by
  unfold base at e
  rw [List.append_assoc, List.append_assoc] at e
  have e1 := List.append_cancel_left e
  have e2 : 97 + (a + st * j) % 26 = 97 + (a + st * k) % 26 := by
    simp at e1
    omega
  refine step_inj st hs (a % 26) (Nat.mod_lt _ (by decide)) j hj k hk ?_
  have e3 : (a + st * j) % 26 = (a + st * k) % 26 := by omega
  omega
theorem base_len (h t : List Nat) (a st k : Nat) : (base h t a st k).length = h.length + 1 + t.length := by
  unfold base
  rw [List.length_append, List.length_append]
  rfl
theorem base_low {h t : List Nat} {a st k : Nat} (hh : Low h) (ht : Low t) : Low (base h t a st k) := fun c hc => by
  unfold base at hc
  rw [List.mem_append, List.mem_append, List.mem_singleton] at hc
  rcases hc with (hc | hc) | hc
  · exact hh c hc
  · have := Nat.mod_lt (a + st * k) (show 26 > 0 by decide)
    omega
  · exact ht c hc
theorem more_spec {m : Nat} {x y : List Nat} (hm : 97 ≤ m ∧ m < 123) (hx : Low x) (hy : y ∈ more m x) : Low y ∧ x.length ≤ y.length ∧ y.length ≤ x.length + 2 := by
  unfold more at hy
  simp at hy
  rcases hy with rfl | rfl | rfl
  · exact ⟨hx, by omega, by omega⟩
  · refine ⟨fun c hc => ?_, by simp, by simp⟩
    rcases List.mem_append.mp hc with hc | hc
    · exact hx c hc
    · rw [List.mem_singleton] at hc
      omega
  · refine ⟨fun c hc => ?_, by simp; omega, by simp⟩
    simp at hc
    rcases hc with rfl | hc | rfl
    · exact hm
    · exact hx c hc
    · exact hm
theorem names6_len (h t : List Nat) (a st : Nat) : ∀ o, (names6 h t a st o).length = 6
  | none => by unfold names6; rw [List.length_map, List.length_range]
  | some m => rfl
theorem names6_ok {h t : List Nat} {a st : Nat} {o : Option Nat} (hs : st ∈ [1, 3, 5, 7, 9, 11]) (hh : Low h) (ht : Low t) (lh : h.length ≤ 2) (lt : t.length ≤ 3) (ho : ∀ m, o = some m → 97 ≤ m ∧ m < 123) :
    (names6 h t a st o).Nodup ∧ ∀ x ∈ names6 h t a st o, Low x ∧ 1 ≤ x.length ∧ x.length ≤ 8 := by
  cases o with
  | none =>
    refine ⟨?_, fun x hx => ?_⟩
    · show ((List.range 6).map (base h t a st)).Pairwise (· ≠ ·)
      rw [List.pairwise_map]
      refine List.Pairwise.imp_of_mem (fun {j k} hj hk hne e => ?_) (List.nodup_range (n := 6))
      exact hne (base_inj hs (List.mem_range.mp hj) (List.mem_range.mp hk) e)
    · obtain ⟨k, _, rfl⟩ := List.mem_map.mp hx
      have := base_len h t a st k
      exact ⟨base_low hh ht, by omega, by omega⟩
  | some m =>
    have hm := ho m rfl
    have l0 := base_len h t a st 0
    have l3 := base_len h t a st 3
    have hne : base h t a st 0 ≠ base h t a st 3 := fun e => absurd (base_inj hs (by decide) (by decide) e) (by decide)
    refine ⟨?_, fun x hx => ?_⟩
    · show (more m (base h t a st 0) ++ more m (base h t a st 3)).Nodup
      generalize base h t a st 0 = x at *
      generalize base h t a st 3 = y at *
      have d1 : ∀ {p q : List Nat}, p.length ≠ q.length → p ≠ q := fun hl e => hl (by rw [e])
      have e1 : x ++ [m] ≠ y ++ [m] := fun e => hne (List.append_cancel_right e)
      have e2 : [m] ++ x ++ [m] ≠ [m] ++ y ++ [m] := fun e => hne (by
        have := List.append_cancel_right e
        exact List.append_cancel_left this)
      unfold more
      simp only [List.cons_append, List.nil_append, List.nodup_cons, List.mem_cons, List.not_mem_nil, or_false, not_or, List.nodup_nil, and_true, not_false_eq_true]
      refine ⟨⟨d1 ?_, d1 ?_, hne, d1 ?_, d1 ?_⟩, ⟨d1 ?_, d1 ?_, e1, d1 ?_⟩, ⟨d1 ?_, d1 ?_, ?_⟩, ⟨d1 ?_, d1 ?_⟩, d1 ?_⟩
      all_goals first | exact e2 | (simp; omega) | (simp only [List.length_append, List.length_cons, List.length_nil]; omega)
    · rcases List.mem_append.mp hx with hx | hx
      · obtain ⟨a1, a2, a3⟩ := more_spec hm (base_low hh ht) hx
        exact ⟨a1, by omega, by omega⟩
      · obtain ⟨a1, a2, a3⟩ := more_spec hm (base_low hh ht) hx
        exact ⟨a1, by omega, by omega⟩
end K33

set_option Elab.async false
set_option linter.all false
set_option maxRecDepth 100000
set_option maxHeartbeats 4000000
/-! The data layer: what a reading evaluates to, told as data (PyData), leaving all that was tracked. -/
namespace K33
open PySem PySem.Spec PyProof.Rows L2
abbrev Fg := PySem.W.Frag

/-! ### data at a value -/
mutual
inductive Is (K : Fg) (H : Hp) : V → PyData → Prop
  | non : Is K H .non .none
  | bl (b : Bool) : Is K H (.bl b) (.bool b)
  | int (i : Int) : Is K H (.int i) (.int i)
  | str (x : Str) : Is K H (.str x) (.str x)
  | lst {a : Addr} {xs : List V} {ds : List PyData} : H a = some (.lst xs) → AllIs K H xs ds → Is K H (.ref a) (.list ds)
  | tup {a : Addr} {xs : List V} {ds : List PyData} : SqT K H a xs → AllIs K H xs ds → Is K H (.ref a) (.tuple ds)
inductive AllIs (K : Fg) (H : Hp) : List V → List PyData → Prop
  | nil : AllIs K H [] []
  | cons {v : V} {vs : List V} {d : PyData} {ds : List PyData} : Is K H v d → AllIs K H vs ds → AllIs K H (v :: vs) (d :: ds)
end
theorem same_t {K : Fg} {H H' : Hp} {a : Addr} {xs : List V} (e : Same H H') (h : SqT K H a xs) : SqT K H' a xs := by
  rcases h with (h | ⟨o, h⟩) | h
  · exact .inl (.inl (e _ _ h))
  · exact .inl (.inr ⟨o, e _ _ h⟩)
  · exact .inr h
mutual
theorem Is.mono {K : Fg} {H H' : Hp} (e : Same H H') : ∀ {v : V} {d : PyData}, Is K H v d → Is K H' v d
  | _, _, .non => .non
  | _, _, .bl b => .bl b
  | _, _, .int i => .int i
  | _, _, .str x => .str x
  | _, _, .lst h a => .lst (e _ _ h) (a.mono e)
  | _, _, .tup h a => .tup (same_t e h) (a.mono e)
theorem AllIs.mono {K : Fg} {H H' : Hp} (e : Same H H') : ∀ {vs : List V} {ds : List PyData}, AllIs K H vs ds → AllIs K H' vs ds
  | _, _, .nil => .nil
  | _, _, .cons h t => .cons (h.mono e) (t.mono e)
end
mutual
theorem Is.dp {K : Fg} {H : Hp} : ∀ {v : V} {d : PyData}, Is K H v d → Dp K H v d
  | _, _, .non => .non
  | _, _, .bl b => .bl b
  | _, _, .int i => .int i
  | _, _, .str x => .str x
  | _, _, .lst h a => .lst (SqL.of h) a.dp
  | _, _, .tup h a => .tup h a.dp
theorem AllIs.dp {K : Fg} {H : Hp} : ∀ {vs : List V} {ds : List PyData}, AllIs K H vs ds → DpAll K H vs ds
  | _, _, .nil => .nil
  | _, _, .cons h t => .cons h.dp t.dp
end
theorem AllIs.len {K : Fg} {H : Hp} : ∀ {vs : List V} {ds : List PyData}, AllIs K H vs ds → vs.length = ds.length
  | _, _, .nil => rfl
  | _, _, .cons _ t => by rw [List.length_cons, List.length_cons, t.len]
theorem AllIs.get {K : Fg} {H : Hp} : ∀ {vs : List V} {ds : List PyData} {i : Nat} {d : PyData}, AllIs K H vs ds → ds[i]? = some d → ∃ v, vs[i]? = some v ∧ Is K H v d
  | _, _, _, _, .nil, e => by simp at e
  | _, _, 0, _, .cons h _, e => by
    simp at e
    subst e
    exact ⟨_, rfl, h⟩
  | _, _, i + 1, d, .cons _ t, e => by
    obtain ⟨v, h1, h2⟩ := AllIs.get (i := i) (d := d) t (by simpa using e)
    exact ⟨v, by simpa using h1, h2⟩
theorem AllIs.getV {K : Fg} {H : Hp} : ∀ {vs : List V} {ds : List PyData} {i : Nat} {v : V}, AllIs K H vs ds → vs[i]? = some v → ∃ d, ds[i]? = some d ∧ Is K H v d
  | _, _, _, _, .nil, e => by simp at e
  | _, _, 0, _, .cons h _, e => by
    simp at e
    subst e
    exact ⟨_, rfl, h⟩
  | _, _, i + 1, d, .cons _ t, e => by
    obtain ⟨v, h1, h2⟩ := AllIs.getV (i := i) (v := d) t (by simpa using e)
    exact ⟨v, by simpa using h1, h2⟩
theorem AllIs.append {K : Fg} {H : Hp} : ∀ {vs ws : List V} {ds es : List PyData}, AllIs K H vs ds → AllIs K H ws es → AllIs K H (vs ++ ws) (ds ++ es)
  | _, _, _, _, .nil, b => b
  | _, _, _, _, .cons h t, b => .cons h (t.append b)
theorem AllIs.snoc {K : Fg} {H : Hp} {vs : List V} {ds : List PyData} {v : V} {d : PyData} (a : AllIs K H vs ds) (h : Is K H v d) : AllIs K H (vs ++ [v]) (ds ++ [d]) := a.append (.cons h .nil)
theorem AllIs.take {K : Fg} {H : Hp} : ∀ {vs : List V} {ds : List PyData} (n : Nat), AllIs K H vs ds → AllIs K H (vs.take n) (ds.take n)
  | _, _, 0, _ => .nil
  | _, _, _ + 1, .nil => .nil
  | _, _, n + 1, .cons h t => .cons h (t.take n)
theorem AllIs.drop {K : Fg} {H : Hp} : ∀ {vs : List V} {ds : List PyData} (n : Nat), AllIs K H vs ds → AllIs K H (vs.drop n) (ds.drop n)
  | _, _, 0, a => a
  | _, _, _ + 1, .nil => .nil
  | _, _, n + 1, .cons _ t => t.drop n
theorem AllIs.eraseIdx {K : Fg} {H : Hp} : ∀ {vs : List V} {ds : List PyData} (n : Nat), AllIs K H vs ds → AllIs K H (vs.eraseIdx n) (ds.eraseIdx n)
  | _, _, _, .nil => .nil
  | _, _, 0, .cons _ t => t
  | _, _, n + 1, .cons h t => .cons h (t.eraseIdx n)
theorem AllIs.set {K : Fg} {H : Hp} {v : V} {d : PyData} (h : Is K H v d) : ∀ {vs : List V} {ds : List PyData} (n : Nat), AllIs K H vs ds → AllIs K H (vs.set n v) (ds.set n d)
  | _, _, _, .nil => .nil
  | _, _, 0, .cons _ t => .cons h t
  | _, _, n + 1, .cons q t => .cons q (AllIs.set h n t)
theorem AllIs.ints {K : Fg} {H : Hp} : ∀ {ns : List Int} {vs : List V}, AllIs K H vs (ns.map PyData.int) → vs = ns.map V.int
  | [], _, h => by cases h; rfl
  | n :: ns, _, h => by
    cases h with
    | cons h t =>
      cases h
      rw [List.map_cons, AllIs.ints t]
theorem AllIs.of_ints {K : Fg} {H : Hp} : ∀ (ns : List Int), AllIs K H (ns.map V.int) (ns.map PyData.int)
  | [] => .nil
  | n :: ns => .cons (.int n) (AllIs.of_ints ns)
theorem AllIs.bls {K : Fg} {H : Hp} : ∀ {ns : List Bool} {vs : List V}, AllIs K H vs (ns.map PyData.bool) → vs = ns.map V.bl
  | [], _, h => by cases h; rfl
  | n :: ns, _, h => by
    cases h with
    | cons h t =>
      cases h
      rw [List.map_cons, AllIs.bls t]
theorem AllIs.strs {K : Fg} {H : Hp} : ∀ {ns : List Str} {vs : List V}, AllIs K H vs (ns.map PyData.str) → vs = ns.map V.str
  | [], _, h => by cases h; rfl
  | n :: ns, _, h => by
    cases h with
    | cons h t =>
      cases h
      rw [List.map_cons, AllIs.strs t]
theorem AllIs.of_strs {K : Fg} {H : Hp} : ∀ (ns : List Str), AllIs K H (ns.map V.str) (ns.map PyData.str)
  | [] => .nil
  | n :: ns => .cons (.str n) (AllIs.of_strs ns)

/-! data without lists: it stands whatever list is written -/
mutual
def nl : PyData → Bool
  | .list _ => false
  | .dict _ => false
  | .tuple ds => nlAll ds
  | _ => true
def nlAll : List PyData → Bool
  | [] => true
  | d :: ds => nl d && nlAll ds
end
theorem nlAll_iff : ∀ {ds : List PyData}, nlAll ds = true ↔ ∀ d ∈ ds, nl d = true
  | [] => Iff.intro (fun _ d h => by simp at h) (fun _ => rfl)
  | d :: ds => by
    unfold nlAll
    rw [Bool.and_eq_true, nlAll_iff]
    constructor
    · rintro ⟨a, b⟩ x hx
      rcases List.mem_cons.mp hx with e | e
      · rw [e]; exact a
      · exact b x e
    · intro h
      exact ⟨h d (List.mem_cons_self ..), fun x hx => h x (List.mem_cons_of_mem _ hx)⟩
theorem nlAll_append {a b : List PyData} : nlAll (a ++ b) = (nlAll a && nlAll b) := by
  induction a with
  | nil => rfl
  | cons x a ih =>
    show (nl x && nlAll (a ++ b)) = _
    rw [ih, ← Bool.and_assoc]
    rfl
theorem nlAll_map {α : Type} {f : α → PyData} (h : ∀ x, nl (f x) = true) : ∀ l : List α, nlAll (l.map f) = true
  | [] => rfl
  | x :: l => by
    show (nl (f x) && nlAll (l.map f)) = true
    rw [h, nlAll_map h l]
    rfl
/-- tuples, frozen things stand -/
def SameT (H H' : Hp) : Prop := ∀ a, (∀ xs, H a = some (.tup xs) → H' a = some (.tup xs)) ∧ ∀ o u, H a = some (.frz o u) → H' a = some (.frz o u)
theorem SameT.of_lst {H : Hp} {a : Addr} {xs : List V} {o : HO} (h : H a = some (.lst xs)) : SameT H (upd H a o) := fun b =>
  ⟨fun ys e => by rw [upd_ne (ne_of e h (by intro z; cases z))]; exact e, fun ob u e => by rw [upd_ne (ne_of e h (by intro z; cases z))]; exact e⟩
theorem Same.t {H H' : Hp} (h : Same H H') : SameT H H' := fun a => ⟨fun _ e => h _ _ e, fun _ _ e => h _ _ e⟩
theorem SameT.trans {H H1 H2 : Hp} (a : SameT H H1) (b : SameT H1 H2) : SameT H H2 := fun c => ⟨fun xs e => (b c).1 xs ((a c).1 xs e), fun o u e => (b c).2 o u ((a c).2 o u e)⟩
theorem sameT_t {K : Fg} {H H' : Hp} {a : Addr} {xs : List V} (e : SameT H H') (h : SqT K H a xs) : SqT K H' a xs := by
  rcases h with (h | ⟨o, h⟩) | h
  · exact .inl (.inl ((e a).1 _ h))
  · exact .inl (.inr ⟨o, (e a).2 _ _ h⟩)
  · exact .inr h
mutual
theorem Is.monoT {K : Fg} {H H' : Hp} (e : SameT H H') : ∀ {v : V} {d : PyData}, nl d = true → Is K H v d → Is K H' v d
  | _, _, _, .non => .non
  | _, _, _, .bl b => .bl b
  | _, _, _, .int i => .int i
  | _, _, _, .str x => .str x
  | _, _, h, .lst _ _ => by cases h
  | _, _, h, .tup s a => .tup (sameT_t e s) (a.monoT e h)
theorem AllIs.monoT {K : Fg} {H H' : Hp} (e : SameT H H') : ∀ {vs : List V} {ds : List PyData}, nlAll ds = true → AllIs K H vs ds → AllIs K H' vs ds
  | _, _, _, .nil => .nil
  | _, _, h, .cons q t => .cons (q.monoT e (Bool.and_eq_true_iff.mp h).1) (t.monoT e (Bool.and_eq_true_iff.mp h).2)
end

/-! ### heaps -/
theorem Same.new {H : Hp} {p : Addr} {o : HO} (h : H p = none) : Same H (upd H p o) := fun b u e => by
  rw [upd_ne (ne_of_none e h)]
  exact e
/-- an object that H does not know may change -/
theorem Same.mut {H H' : Hp} {p : Addr} {o : HO} (e : Same H H') (h : H p = none) : Same H (upd H' p o) := fun b u q => by
  rw [upd_ne (ne_of_none q h)]
  exact e b u q

/-! ### what evaluates to what -/
abbrev VP := V → Hp → Prop
def IsD (K : Fg) (d : PyData) : VP := fun v H => Is K H v d
def Ev (te : TE) (σ : L2.St) (H : Hp) (P : VP) : Prop := ∀ H1, Same H H1 → ∀ Q : VK, (∀ v H2, Same H1 H2 → P v H2 → Q v H2) → te σ H1 Q
/-- a new list of such data -/
def EvL (K : Fg) (te : TE) (σ : L2.St) (H : Hp) (ds : List PyData) : Prop := ∀ H1, Same H H1 → ∀ Q : VK, (∀ p xs H2, H1 p = none → Same H1 H2 → H2 p = some (.lst xs) → AllIs K H2 xs ds → Q (.ref p) H2) → te σ H1 Q
def EvT (tt : TT) (σ : L2.St) (H : Hp) (b : Bool) : Prop := ∀ H1, Same H H1 → ∀ Q : Bool → Hp → Prop, (∀ H2, Same H1 H2 → Q b H2) → tt σ H1 Q
def EvA (K : Fg) (ta : TA) (σ : L2.St) (H : Hp) (ds : List PyData) : Prop := ∀ H1, Same H H1 → ∀ Q : List V → Hp → Prop, (∀ vs H2, Same H1 H2 → AllIs K H2 vs ds → Q vs H2) → ta σ H1 Q
def EvO (to : TO) (σ : L2.St) (H : Hp) (o : Option Int) : Prop := ∀ H1, Same H H1 → ∀ Q : Option Int → Hp → Prop, (∀ H2, Same H1 H2 → Q o H2) → to σ H1 Q
/-- an operation on data -/
def RD (K : Fg) (r : R2) (x y z : PyData) : Prop := ∀ H v u, Is K H v x → Is K H u y → ∀ Q : VK, (∀ w H', Same H H' → Is K H' w z → Q w H') → r v u H Q
def UD (K : Fg) (r : V → Hp → VK → Prop) (x z : PyData) : Prop := ∀ H v, Is K H v x → ∀ Q : VK, (∀ w H', Same H H' → Is K H' w z → Q w H') → r v H Q
/-- a call of a builtin on data -/
def CD (K : Fg) (r : List V → Hp → VK → Prop) (ds : List PyData) (z : PyData) : Prop := ∀ H vs, AllIs K H vs ds → ∀ Q : VK, (∀ w H', Same H H' → Is K H' w z → Q w H') → r vs H Q
/-- what a def promises: on such data some datum of which Post says what is to be known -/
def SpD (K : Fg) (Pre : List PyData → (PyData → Prop) → Prop) : Sp := fun vs H Q _ => ∃ ds Post, AllIs K H vs ds ∧ Pre ds Post ∧ ∀ d v H', Post d → Same H H' → Is K H' v d → Q v H'

section
variable {K : Fg} {σ : L2.St} {H H' : Hp} {ta tb te tx : TE} {t u : TT} {x y z d : PyData} {v : V} {r : R2} {P : VP}
theorem Ev.mono (e : Same H H') (h : Ev te σ H P) : Ev te σ H' P := fun H1 a Q q => h H1 (e.trans a) Q q
theorem EvT.mono {b : Bool} (e : Same H H') (h : EvT t σ H b) : EvT t σ H' b := fun H1 a Q q => h H1 (e.trans a) Q q
theorem EvA.mono {ta : TA} {ds : List PyData} (e : Same H H') (h : EvA K ta σ H ds) : EvA K ta σ H' ds := fun H1 a Q q => h H1 (e.trans a) Q q
theorem EvL.mono {ds : List PyData} (e : Same H H') (h : EvL K te σ H ds) : EvL K te σ H' ds := fun H1 a Q q => h H1 (e.trans a) Q q
theorem EvL.ev {ds : List PyData} (h : EvL K te σ H ds) : Ev te σ H (IsD K (.list ds)) := fun H1 e Q q => h H1 e Q fun p xs H2 _ s hp a => q _ _ s (.lst hp a)
theorem Ev.imp {P' : VP} (h : Ev te σ H P) (f : ∀ v H1, Same H H1 → P v H1 → P' v H1) : Ev te σ H P' := fun H1 e Q q => h H1 e Q fun v H2 s p => q v H2 s (f v H2 (e.trans s) p)
theorem ev_is (h : Ev te σ H (IsD K x)) (e : x = y) : Ev te σ H (IsD K y) := by
  rw [← e]
  exact h
theorem ev_var {i : Nat} (h : σ[i]? = some (some v)) (hv : Is K H v d) : Ev (tVar i) σ H (IsD K d) := fun H1 e Q q => ⟨v, h, q v H1 (Same.refl _) (hv.mono e)⟩
theorem ev_slot {i : Nat} (h : σ[i]? = some (some v)) : Ev (tVar i) σ H (fun w _ => w = v) := fun H1 e Q q => ⟨v, h, q v H1 (Same.refl _) rfl⟩
theorem ev_c (hv : Is K H v d) : Ev (tC v) σ H (IsD K d) := fun H1 e Q q => q v H1 (Same.refl _) (hv.mono e)
theorem ev_int {i : Int} : Ev (tC (.int i)) σ H (IsD K (.int i)) := ev_c (.int i)
theorem ev_str {x : Str} : Ev (tC (.str x)) σ H (IsD K (.str x)) := ev_c (.str x)
theorem ev_bl {b : Bool} : Ev (tC (.bl b)) σ H (IsD K (.bool b)) := ev_c (.bl b)
theorem ev_non : Ev (tC .non) σ H (IsD K .none) := ev_c .non
theorem ev_op (ha : Ev ta σ H (IsD K x)) (hb : Ev tb σ H (IsD K y)) (hr : RD K r x y z) : Ev (tOp r ta tb) σ H (IsD K z) := fun H1 e Q q =>
  ha H1 e _ fun v H2 e2 hv => hb H2 (e.trans e2) _ fun w H3 e3 hw => hr H3 v w (Is.mono e3 hv) hw Q fun s H4 e4 hs => q s H4 ((e2.trans e3).trans e4) hs
theorem ev_un {r : V → Hp → VK → Prop} (ha : Ev ta σ H (IsD K x)) (hr : UD K r x z) : Ev (tUn r ta) σ H (IsD K z) := fun H1 e Q q =>
  ha H1 e _ fun v H2 e2 hv => hr H2 v hv Q fun s H4 e4 hs => q s H4 (e2.trans e4) hs
theorem ea_nil : EvA K tNil σ H [] := fun H1 _ _ q => q [] H1 (Same.refl _) .nil
theorem ea_cons {tr : TA} {ds : List PyData} (h : Ev ta σ H (IsD K d)) (hr : EvA K tr σ H ds) : EvA K (tCons ta tr) σ H (d :: ds) := fun H1 e Q q =>
  h H1 e _ fun v H2 e2 hv => hr H2 (e.trans e2) _ fun vs H3 e3 hvs => q _ H3 (e2.trans e3) (.cons (Is.mono e3 hv) hvs)
theorem ea1 (h : Ev ta σ H (IsD K d)) : EvA K (tCons ta tNil) σ H [d] := ea_cons h ea_nil
theorem ea2 (h : Ev ta σ H (IsD K d)) (h2 : Ev tb σ H (IsD K x)) : EvA K (tCons ta (tCons tb tNil)) σ H [d, x] := ea_cons h (ea1 h2)
theorem ev_tup {ta : TA} {ds : List PyData} (h : EvA K ta σ H ds) (hl : ds.length ≤ 100000) : Ev (tTup ta) σ H (IsD K (.tuple ds)) := fun H1 e Q q =>
  h H1 e _ fun vs H2 e2 hvs => ⟨Nat.le_trans (by rw [hvs.len]; exact hl) (by decide : 100000 ≤ sizeLine), fun p hp => q _ _ (e2.trans (Same.new hp)) (.tup (SqT.of upd_same) (hvs.mono (Same.new hp)))⟩
theorem el_lst {ta : TA} {ds : List PyData} (h : EvA K ta σ H ds) (hl : ds.length ≤ 100000) : EvL K (tLst ta) σ H ds := fun H1 e Q q =>
  h H1 e _ fun vs H2 e2 hvs => ⟨Nat.le_trans (by rw [hvs.len]; exact hl) (by decide : 100000 ≤ sizeLine), fun p hp => q p vs _ (e2.free hp) (e2.trans (Same.new hp)) upd_same (hvs.mono (Same.new hp))⟩
theorem ev_lst {ta : TA} {ds : List PyData} (h : EvA K ta σ H ds) (hl : ds.length ≤ 100000) : Ev (tLst ta) σ H (IsD K (.list ds)) := (el_lst h hl).ev
theorem ev_cb {ta : TA} {r : List V → Hp → VK → Prop} {ds : List PyData} (h : EvA K ta σ H ds) (hr : CD K r ds z) : Ev (tCB r ta) σ H (IsD K z) := fun H1 e Q q =>
  h H1 e _ fun vs H2 e2 hvs => hr H2 vs hvs Q fun w H3 e3 hw => q w H3 (e2.trans e3) hw
theorem ev_call {Pre : List PyData → (PyData → Prop) → Prop} {Post : PyData → Prop} {ds : List PyData} {E : XK} {ta : TA} (h : EvA K ta σ H ds) (hs : Pre ds Post) : Ev (tCall (SpD K Pre) [] E ta) σ H (fun v H' => ∃ d, Post d ∧ Is K H' v d) := fun H1 e Q q =>
  h H1 e _ fun vs H2 e2 hvs => ⟨ds, Post, by rw [List.append_nil]; exact hvs, hs, fun d v H3 hd e3 hv => q v H3 (e2.trans e3) ⟨d, hd, hv⟩⟩
/-- a def whose answer is one datum -/
theorem ev_callF {Pre : List PyData → (PyData → Prop) → Prop} {ds : List PyData} {E : XK} {ta : TA} (h : EvA K ta σ H ds) (hs : Pre ds (fun d => d = z)) : Ev (tCall (SpD K Pre) [] E ta) σ H (IsD K z) :=
  (ev_call h hs).imp fun v H1 _ ⟨d, e, hv⟩ => by
    rw [e] at hv
    exact hv
theorem et_test {b : Bool} (h : Ev te σ H (IsD K (.bool b))) : EvT (tTest te) σ H b := fun H1 e _ q => h H1 e _ fun v H2 e2 hv => by
  cases hv
  exact ⟨b, rfl, q H2 e2⟩
theorem et_B {b : Bool} (h : Ev te σ H (IsD K (.bool b))) : EvT (tB te) σ H b := fun H1 e _ q => h H1 e _ fun v H2 e2 hv => by
  cases hv
  exact ⟨b, rfl, q H2 e2⟩
theorem et_and {a b : Bool} (h1 : EvT t σ H a) (h2 : a = true → EvT u σ H b) : EvT (tAnd t u) σ H (a && b) := fun H1 e Q q => h1 H1 e _ fun H2 e2 => by
  cases a with
  | true =>
    show u σ H2 Q
    exact h2 rfl H2 (e.trans e2) Q fun H3 e3 => q H3 (e2.trans e3)
  | false =>
    show Q false H2
    exact q H2 e2
theorem et_or {a b : Bool} (h1 : EvT t σ H a) (h2 : a = false → EvT u σ H b) : EvT (tOr t u) σ H (a || b) := fun H1 e Q q => h1 H1 e _ fun H2 e2 => by
  cases a with
  | true =>
    show Q true H2
    exact q H2 e2
  | false =>
    show u σ H2 Q
    exact h2 rfl H2 (e.trans e2) Q fun H3 e3 => q H3 (e2.trans e3)
theorem et_not {a : Bool} (h1 : EvT t σ H a) : EvT (tNot t) σ H (!a) := fun H1 e _ q => h1 H1 e _ fun H2 e2 => q H2 e2
theorem et_is {a b : Bool} (h : EvT t σ H a) (e : a = b) : EvT t σ H b := by
  rw [← e]
  exact h
theorem ev_andV {a b : Bool} (h1 : Ev ta σ H (IsD K (.bool a))) (h2 : a = true → Ev tb σ H (IsD K (.bool b))) : Ev (tAndV ta tb) σ H (IsD K (.bool (a && b))) := fun H1 e Q q => h1 H1 e _ fun v H2 e2 hv => by
  cases hv
  refine ⟨a, rfl, ?_⟩
  cases a with
  | true =>
    show tb σ H2 Q
    exact h2 rfl H2 (e.trans e2) Q fun w H3 e3 hw => q w H3 (e2.trans e3) hw
  | false =>
    show Q (.bl false) H2
    exact q _ H2 e2 (.bl false)
theorem ev_orV {a b : Bool} (h1 : Ev ta σ H (IsD K (.bool a))) (h2 : a = false → Ev tb σ H (IsD K (.bool b))) : Ev (tOrV ta tb) σ H (IsD K (.bool (a || b))) := fun H1 e Q q => h1 H1 e _ fun v H2 e2 hv => by
  cases hv
  refine ⟨a, rfl, ?_⟩
  cases a with
  | true =>
    show Q (.bl true) H2
    exact q _ H2 e2 (.bl true)
  | false =>
    show tb σ H2 Q
    exact h2 rfl H2 (e.trans e2) Q fun w H3 e3 hw => q w H3 (e2.trans e3) hw
theorem ev_notV {a : Bool} (h1 : Ev ta σ H (IsD K (.bool a))) : Ev (tNotV ta) σ H (IsD K (.bool (!a))) := fun H1 e _ q => h1 H1 e _ fun v H2 e2 hv => by
  cases hv
  exact ⟨a, rfl, q _ H2 e2 (.bl _)⟩
theorem ev_if {b : Bool} (h : EvT t σ H b) (h1 : b = true → Ev ta σ H P) (h2 : b = false → Ev tb σ H P) : Ev (tIf t ta tb) σ H P := fun H1 e Q q => h H1 e _ fun H2 e2 => by
  cases b with
  | true =>
    show ta σ H2 Q
    exact h1 rfl H2 (e.trans e2) Q fun w H3 e3 hw => q w H3 (e2.trans e3) hw
  | false =>
    show tb σ H2 Q
    exact h2 rfl H2 (e.trans e2) Q fun w H3 e3 hw => q w H3 (e2.trans e3) hw
/-- a < b < c -/
theorem ev_chain {r' : R2} {b c : Bool} (ha : Ev ta σ H (IsD K x)) (hb : Ev tb σ H (IsD K y)) (hc : b = true → Ev tx σ H (IsD K z)) (hr : RD K r x y (.bool b)) (hr' : RD K r' y z (.bool c)) : Ev (tChain r r' ta tb tx) σ H (IsD K (.bool (b && c))) := fun H1 e Q q =>
  ha H1 e _ fun v H2 e2 hv => hb H2 (e.trans e2) _ fun w H3 e3 hw => hr H3 v w (Is.mono e3 hv) hw _ fun s H4 e4 hs => by
    cases hs
    refine ⟨b, rfl, ?_⟩
    cases b with
    | true => exact hc rfl H4 (((e.trans e2).trans e3).trans e4) _ fun s H5 e5 hs => hr' H5 w s (Is.mono (e4.trans e5) hw) hs Q fun n H6 e6 hn => q n H6 ((((e2.trans e3).trans e4).trans e5).trans e6) hn
    | false => exact q _ H4 ((e2.trans e3).trans e4) (.bl false)

/-! ### statements -/
variable {D : Ends} {tu tw tz : TS} {g : TG}
theorem s_asg {i : Nat} (h : Ev te σ H P) (k : ∀ v H1, Same H H1 → P v H1 → D.nx (σ.set i (some v)) H1) : tAsg te (gName i) D σ H := h H (Same.refl H) _ fun v H1 e p => k v H1 e p
theorem q_asg {i : Nat} (h : Ev te σ H P) (k : ∀ v H1, Same H H1 → P v H1 → tz D (σ.set i (some v)) H1) : tSeq (tAsg te (gName i)) tz D σ H := s_asg (D := { D with nx := tz D }) h k
theorem s_asgL {i : Nat} {ds : List PyData} (h : EvL K te σ H ds) (k : ∀ p xs H1, H p = none → Same H H1 → H1 p = some (.lst xs) → AllIs K H1 xs ds → D.nx (σ.set i (some (.ref p))) H1) : tAsg te (gName i) D σ H := h H (Same.refl H) _ k
theorem q_asgL {i : Nat} {ds : List PyData} (h : EvL K te σ H ds) (k : ∀ p xs H1, H p = none → Same H H1 → H1 p = some (.lst xs) → AllIs K H1 xs ds → tz D (σ.set i (some (.ref p))) H1) : tSeq (tAsg te (gName i)) tz D σ H := s_asgL (D := { D with nx := tz D }) h k
theorem s_ret (h : Ev te σ H P) (k : ∀ v H1, Same H H1 → P v H1 → D.rt v H1) : tRet te D σ H := h H (Same.refl H) _ k
theorem s_if {b : Bool} (h : EvT t σ H b) (h1 : b = true → ∀ H1, Same H H1 → tu D σ H1) (h2 : b = false → ∀ H1, Same H H1 → tw D σ H1) : tIfS t tu tw D σ H := h H (Same.refl H) _ fun H1 e => by
  cases b with
  | true =>
    show tu D σ H1
    exact h1 rfl H1 e
  | false =>
    show tw D σ H1
    exact h2 rfl H1 e
theorem q_if {b : Bool} (h : EvT t σ H b) (h1 : b = true → ∀ H1, Same H H1 → tu { D with nx := tz D } σ H1) (h2 : b = false → ∀ H1, Same H H1 → tw { D with nx := tz D } σ H1) : tSeq (tIfS t tu tw) tz D σ H := s_if (D := { D with nx := tz D }) h h1 h2
theorem q_when {b : Bool} (h : EvT t σ H b) (h1 : b = true → ∀ H1, Same H H1 → tu { D with nx := tz D } σ H1) (h2 : b = false → ∀ H1, Same H H1 → tz D σ H1) : tSeq (tIfS t tu tNext) tz D σ H := s_if (D := { D with nx := tz D }) h h1 h2
theorem s_drop (h : Ev te σ H P) (k : ∀ v H1, Same H H1 → P v H1 → D.nx σ H1) : tDrop te D σ H := h H (Same.refl H) _ k
end
end K33

set_option Elab.async false
set_option linter.all false
set_option maxRecDepth 100000
set_option maxHeartbeats 4000000
/-! Rules that the hand layer lacks: enumerate over a tuple, xs.extend(tuple), a < b < c < d, xs.remove(text), text * int, f(k = e), a walk over a list or tuple. -/
namespace K33
open PySem PySem.Spec PyProof.Rows L2

/-! ### a walk over either of two kinds -/
theorem PI.or {X : Cx} {tg it : Expr} {w1 w2 : TI} (a : PI X tg it w1) (b : PI X tg it w2) : PI X tg it (fun σ H R => w1 σ H R ∨ w2 σ H R) :=
  ⟨fun pins s σ H R I h => h.elim (fun q => a.run pins s σ H R I q) fun q => b.run pins s σ H R I q⟩
def iSeq (K : Fg) (tl : TE) : TI := fun σ H R => iList K tl σ H R ∨ iTup K tl σ H R
theorem pi_seq {X : Cx} {tg l : Expr} {tl : TE} (hl : PE X l tl) : PI X tg l (iSeq X.K tl) := PI.or (pi_list hl) (pi_tup hl)

/-! ### a < b < c < d -/
def tChain3 (r r' r2 : R2) (ta tb tc td : TE) : TE := fun σ H Q => ta σ H fun x H1 => tb σ H1 fun y H2 => r x y H2 fun z H3 => ∃ k, z = .bl k ∧
  (if k = true then tc σ H3 fun w H4 => r' y w H4 fun z2 H5 => ∃ k2, z2 = .bl k2 ∧ (if k2 = true then td σ H5 fun v H6 => r2 w v H6 Q else Q (.bl false) H5) else Q (.bl false) H3)
theorem pe_chain3 {X : Cx} {a b c d : Expr} {ta tb tc td : TE} {pos : Pos} {op op' op2 : CmpOp} {r r' r2 : R2} (ho : OpR X (compareOp op) r) (ho' : OpR X (compareOp op') r') (ho2 : OpR X (compareOp op2) r2)
    (ha : PE X a ta) (hb : PE X b tb) (hc : PE X c tc) (hd : PE X d td) (hm : lastMarks [op, op', op2] [b, c, d] = false := by with_unfolding_all rfl) :
    PE X (.Compare a [op, op', op2] [b, c, d] pos) (tChain3 r r' r2 ta tb tc td) := by
  refine ⟨fun pins s σ H Q I h => ?_⟩
  refine Compare_chain (thn (ha.run pins s σ H _ I h) fun v s1 ⟨x, H1, I1, r1, q1⟩ => chain_link (thn (hb.run pins s1 σ H1 _ I1 q1) fun u s2 ⟨y, H2, I2, r2, q2⟩ =>
    thn (ho pins s2 σ H2 x y v u _ I2 r1 r2 q2) fun e s3 ⟨z, H3, I3, r3, k, ez, q3⟩ => ?_)) hm
  subst ez
  cases r3
  refine wpAny_truthy_bool ?_
  cases k with
  | false => exact ite_ff ⟨.bl false, H3, I3, rfl, q3⟩
  | true =>
    refine ite_tt (chain_link (thn (hc.run pins s3 σ H3 _ I3 q3) fun w' s4 ⟨w2, H4, I4, r4, q4⟩ => thn (ho' pins s4 σ H4 y w2 u w' _ I4 r2 r4 q4) fun e2 s5 ⟨z2, H5, I5, r5, k2, ez2, q5⟩ => ?_))
    subst ez2
    cases r5
    refine wpAny_truthy_bool ?_
    cases k2 with
    | false => exact ite_ff ⟨.bl false, H5, I5, rfl, q5⟩
    | true => exact ite_tt (chain_last (thn (hd.run pins s5 σ H5 _ I5 q5) fun w6 s6 ⟨v6, H6, I6, r6, q6⟩ => ho2 pins s6 σ H6 w2 v6 w' w6 Q I6 r4 r6 q6))

/-! ### enumerate over a tuple -/
theorem enum_newB {v : Value} {o : Obj} {H : Heap → Prop} (B : Begins v o H) :
    Meets (Builtin.«enumerate.__new__» ⟨[.type "enumerate", v], []⟩) (fun _ R s => H s.heap ∧
      R (.ok (.ret (.ref (s.heap.push o).objs.size))) { s with heap := (s.heap.push o).push { cls := .type "enumerate", data := .fields #[.none, .bool false, .ref s.heap.objs.size, rawInt 0, .none, .none] } }) :=
  .of_wp fun prog w A R s h => by
    obtain ⟨hp, g, d, tk, os⟩ := s; obtain ⟨h1, h⟩ := h
    have hsub := sub_enumerate
    have q1 : ∀ {A' : Around} {E : Value → Shared → Prop} {Q : Value → Shared → Prop}, Q (.ref hp.objs.size) ⟨hp.push o, g, d, tk, os⟩ → wpAny (model prog w) A' (pyIter v) Q E ⟨hp, g, d, tk, os⟩ :=
      fun q => B.iter prog w _ _ ⟨hp, g, d, tk, os⟩ _ h1 q
    wp_walk using q1
    refine wpAny_stack_any fun st => wpAny_pure ?_
    split
    · rename_i c _ _ _ _ _
      cases (c == Value.type "enumerate")
      · wp_walk using q1
        exact ⟨_, rfl, h⟩
      · wp_walk using q1
        exact ⟨_, rfl, h⟩
    · wp_walk using q1
      exact ⟨_, rfl, h⟩
theorem call_enumB {prog : Program} {w : World} {A : Around} {E : Value → Shared → Prop} {s : Shared} {v : Value} {o : Obj} {H : Heap → Prop} {Q : Value → Shared → Prop} (B : Begins v o H) (h1 : H s.heap)
    (h : ∀ h', IsEnum h' (s.heap.objs.size + 1) s.heap.objs.size 0 .none → h'.get? s.heap.objs.size = some o → h'.objs.size = s.heap.objs.size + 2 →
      (∀ b o, s.heap.get? b = some o → h'.get? b = some o) → Q (.ref (s.heap.objs.size + 1)) { s with heap := h' }) :
    wpAny (model prog w) A (call (.type "enumerate") [v]) Q E s := by
  refine callType_new F.called_enumerate (by decide) (F.typeCall_enumerate_1 _) (F.newCall_enumerate_1 _) (fun obj => F.args_object_init_2 obj _) F.entry_enumerate_new (enum_newB B) ⟨h1, ?_⟩
  have hz : (s.heap.push o).objs.size = s.heap.objs.size + 1 := Heap.size_push ..
  show _ ∧ _
  rw [hz]
  have he : IsEnum ((s.heap.push o).push { cls := .type "enumerate", data := .fields #[.none, .bool false, .ref s.heap.objs.size, rawInt 0, .none, .none] }) (s.heap.objs.size + 1) s.heap.objs.size 0 .none := by
    have := Heap.get?_push_size (s.heap.push o) (o := { cls := .type "enumerate", data := .fields #[.none, .bool false, .ref s.heap.objs.size, rawInt 0, .none, .none] }) rfl
    rw [hz] at this
    exact this
  refine ⟨⟨_, he, rfl⟩, h _ he (Heap.get?_push_of_some _ (Heap.get?_push_size _ B.free)) (by rw [Heap.size_push, hz]) fun b o x => Heap.get?_push_of_some _ (Heap.get?_push_of_some _ x)⟩
theorem enumT_end {prog : Program} {w : World} {A : Around} {E : Value → Shared → Prop} {s : Shared} {e it l : Addr} {i : Nat} {items : Array Value} {old : Value} {Q : Option Value → Shared → Prop} (hh : A.handled = none)
    (he : IsEnum s.heap e it i old) (hit : s.heap.IsTupleIter it l i) (hl : s.heap.IsTuple l items) (hx : items[i]? = none)
    (hQ : ∀ h', Heap.ExtBut it s.heap h' → Q none { s with heap := h' }) : wpAny (model prog w) A (pyNext (.ref e)) Q E s := by
  have hT : s.TypeIs (.ref e) "enumerate" := ⟨_, he, rfl⟩
  unfold pyNext
  refine wpAny_bind (wpAny_attempt (wpAny_callSpecial?_slot (name := Str.ofString "__next__") hT F.slot_enumerate_next
    (wpAny_call_entry F.slot_enumerate_next hT F.entry_enumerate_next ?_ (F.args_enumerate_next_1 _))))
  show wpAny _ _ (field (.ref e) 2 >>= _) _ _ _
  refine wpAny_bind (wpAny_field he rfl (x := .ref it) rfl ?_)
  refine wpAny_bind (wpAny_nextOf_tuple_end hh hit hl hx fun h' x he' hx' => ?_)
  obtain ⟨o, ho, hc⟩ := hx'
  refine wpAny_bind (wpAny_isInstance (T := "StopIteration") (b := true) ⟨o, ho, hc⟩ isSubtype_stop ?_)
  exact wpAny_pure (hQ _ he')
/-- the tuple at a, each item in a new pair -/
def IteT (K : Fg) (a : Addr) : It :=
  ⟨fun i H => ∃ (xs : List V) (x : V), SqT K H a xs ∧ xs[i]? = some x, fun i H v H' => ∃ T x, v = .ref T ∧ H T = none ∧ H' = upd H T (.tup [.int (i : Nat), x]) ∧ ∀ xs, SqT K H a xs → xs[i]? = some x, fun i H => ∃ xs : List V, SqT K H a xs ∧ xs.length ≤ i⟩
theorem turn_enumT {P : Program} {w : World} {K : Fg} {elts : List Expr} {kk : Nat} {tpos : Pos} (a e it : Addr) :
    Turn P w K (.Tuple elts kk tpos) (IteT K a) [e, it] e (fun i h => (∃ old, IsEnum h e it ((i : Nat) : Int) old) ∧ h.IsTupleIter it a i ∧ e ≠ it ∧ a ≠ it ∧ a ≠ e) where
  mem := by simp
  obj := fun i h st b hb => by
    obtain ⟨⟨old, he⟩, ⟨o, ho, hc, hd⟩, _⟩ := st
    have e' : b = e ∨ b = it := by simpa using hb
    rcases e' with z | z
    · rw [z]; exact ⟨_, he, fun v q => nomatch q⟩
    · rw [z]; exact ⟨o, ho, fun v q => by rw [hd] at q; cases q⟩
  keep := fun i h h' st k => let ⟨⟨old, he⟩, hi, hne⟩ := st; ⟨⟨old, k e (by simp) _ he⟩, hi.at fun o q => k it (by simp) o q, hne⟩
  item := by
    intro X hP hw hK hc i pins s σ H E I hf st hg
    subst hP hw hK
    obtain ⟨⟨old, he⟩, hit, hne, hai, hae⟩ := st
    obtain ⟨xs, x, hq, hx⟩ := hg
    obtain ⟨its, rv, p, hz⟩ := I.tuple hq
    obtain ⟨u, hu, ru⟩ := rv.get hx
    have hel : e < s.heap.objs.size := Heap.lt_size he
    have hil : it < s.heap.objs.size := by obtain ⟨_, q, _⟩ := hit; exact Heap.lt_size q
    have hlt : i < its.toArray.size := by
      rw [List.size_toArray]
      exact (List.getElem?_eq_some_iff.mp hu).1
    have Dr : Draws X.prog X.w X.A.in1 it [it, a] its.toArray.size (fun i v => its.toArray[i]? = some v) (fun i h => h.IsTupleIter it a i ∧ h.IsTuple a its.toArray) := Draws.tuple (A := X.A.in1) (show X.A.in1.handled = none from I.ok.hd hc) it a hai its.toArray
    refine wpAny_pyNext_enum_itemC Dr he ⟨hit, p⟩ hlt hne (by simp [hne, Ne.symm hae]) fun y h' tk hy ho hst hT hsz hk => ?_
    have ey : y = u := by
      have hu' : its.toArray[i]? = some u := by simpa using hu
      rw [hu'] at hy
      exact (Option.some.inj hy).symm
    subst ey
    refine ⟨_, rfl, wpAny_letOwnedTupleGo_enum (s := { s with heap := h', toks := tk + 1 }) ho fun h'' he' sb => ?_⟩
    have hT2 : h''.get? s.heap.objs.size = some { cls := .type "tuple", data := .seq #[.int i tk, y] } := (sb.2 _ (Nat.ne_of_gt hel)).trans hT
    have new : ObjOk X.prog X.w (upd H s.heap.objs.size (.tup [.int (i : Nat), x])) h'' s.heap.objs.size (.tup [.int (i : Nat), x]) :=
      ⟨by show 2 ≤ sizeLine; decide, [.int i tk, y], .cons ⟨_, rfl⟩ (.cons ru .nil), ⟨_, hT2, rfl, _, rfl⟩⟩
    have I1 : Inv X pins σ (upd H s.heap.objs.size (.tup [.int (i : Nat), x])) { s with heap := h'', toks := tk + 1 } :=
      I.turnedNew (ch := [e, it]) (fun b ob hb q => (sb.2 b (fun z => hb (by simp [z]))).trans (hk b ob (fun z => hb (by simp [z])) (fun z => hb (by simp [z])) q)) hf (Nat.le_refl _) new
    refine ⟨.ref s.heap.objs.size, _, I1, rfl, ⟨_, x, rfl, I.hok.fresh (Nat.le_refl _), rfl, fun ys hy => by rw [I.tuple_inj hy hq]; exact hx⟩, ⟨⟨y, ?_⟩, hst.1.at fun o q => (sb.2 it (Ne.symm hne)).trans q, hne, hai, hae⟩, fun b hb => ?_⟩
    · have e1 : ((i + 1 : Nat) : Int) = (i : Int) + 1 := by omega
      rw [e1]; exact he'
    · have hb' : b < s.heap.objs.size := by
        have e' : b = e ∨ b = it := by simpa using hb
        rcases e' with z | z
        · rw [z]; exact hel
        · rw [z]; exact hil
      rw [upd_ne (Nat.ne_of_lt hb')]
      exact (hf b hb).1
  done := by
    intro X hP hw hK hc i pins s σ H E I hf st hg
    subst hP hw hK
    obtain ⟨⟨old, he⟩, hit, hne, hai, hae⟩ := st
    obtain ⟨xs, hq, hx⟩ := hg
    obtain ⟨its, rv, p, hz⟩ := I.tuple hq
    obtain ⟨f0, f1, f2, f3, f4, f5⟩ := hf it (by simp)
    have hl := rv.length
    exact enumT_end (I.ok.hd hc) he hit (show s.heap.IsTuple a its.toArray from p) (by simp; omega) fun h' eb => ⟨rfl, I.turned (t' := s.toks) (fun b o hb q => eb b o hb q) f0 f1 f3 f4 f5⟩
  self := fun A i s Q E st h => let ⟨⟨_, he⟩, _⟩ := st; wpAny_pyIter_enum he h
def iEnumT (K : Fg) (ta : TA) : TI := fun σ H R => ta σ H fun vs H1 => ∃ a xs, vs = [.ref a] ∧ SqT K H1 a xs ∧ R (IteT K a) H1
theorem pi_enumT {X : Cx} {e : Expr} {ta : TA} {p pos tpos : Pos} {elts : List Expr} {kk : Nat} (hg : Gl X "enumerate") (hm : X.mg "enumerate" = none) (ha : PA X [e] ta) (hs : starEach [e] X.env = [(false, eval e X.env)] := by rfl) :
    PI X (.Tuple elts kk tpos) (.Call (.Name "enumerate" p) [e] [] pos) (iEnumT X.K ta) := by
  refine ⟨fun pins s σ H R I h => ?_⟩
  refine Call_ (ld_blt I hg hm boot_enumerate (PyProof.Rows.callWith_type1 (thn (ha.run pos pins s σ H _ I h) fun us s1 ⟨vs, H1, I1, r1, q1⟩ => ?_) hs rfl))
  obtain ⟨a, xs, ex, hq, q⟩ := q1
  subst ex
  cases r1 with
  | cons r rr =>
    cases rr
    cases r
    obtain ⟨its, rv, p', hz⟩ := I1.tuple hq
    have hal : a < s1.heap.objs.size := p'.lt
    refine call_enumB (begins_tuple a its.toArray) (show s1.heap.IsTuple a its.toArray from p') fun h' he hit hsz hk => wpAny_pyIter_enum he ?_
    have I2 : Inv X pins σ H1 { s1 with heap := h' } := I1.kept (t' := s1.toks) hk
    refine ⟨s1.heap.objs.size + 1, [s1.heap.objs.size + 1, s1.heap.objs.size], _, _, H1, rfl, I2, turn_enumT a (s1.heap.objs.size + 1) s1.heap.objs.size, ⟨⟨.none, he⟩, ⟨_, hit, rfl, rfl⟩, Nat.succ_ne_self _, Nat.ne_of_lt hal, Nat.ne_of_lt (Nat.lt_succ_of_lt hal)⟩, fun b hb => ?_, q⟩
    have e' : b = s1.heap.objs.size + 1 ∨ b = s1.heap.objs.size := by simpa using hb
    have hle : s1.heap.objs.size ≤ b := by
      rcases e' with z | z
      · rw [z]; exact Nat.le_add_right _ _
      · rw [z]; exact Nat.le_refl _
    exact I1.fpOk hle (I1.hok.fresh hle)

/-! ### xs.extend(tuple) -/
theorem extend_tup (l : Addr) (items : Array Value) (n : Nat) (b : Addr) (items2 : Array Value) (n2 : Nat) (dd : Option Addr) (sl : Array (Option Value)) (hs0 : ¬(!items.isEmpty && Builtin.List.listTooLong (items.size + items2.size)) = true) (hs1 : items.size ≤ sizeLine) (hs2 : items.size + items2.size ≤ sizeLine + 1) :
    Meets (Builtin.«list.extend» ⟨[.ref l, .ref b], []⟩) (fun _ R s => s.heap.get? l = some { cls := .type "list", dict := none, data := .seq items n, slots := #[] } ∧ s.heap.get? b = some { cls := .type "tuple", dict := dd, data := .seq items2 n2, slots := sl } ∧ R (.ok (.ret Value.none)) { s with heap := s.heap.update l (Obj.mapSeq fun x => x ++ items2), toks := s.toks }) :=
  .of_wp fun prog w A R s h => by
    obtain ⟨hp, g, d, tk, os⟩ := s; obtain ⟨hl, hb, h⟩ := h; have f1 := AutoSeq1.idx_int; have f2 := AutoSeq1.sub_tuple_tuple; have f3 := AutoSeq1.sub_list_list; have f4 := AutoSeq1.sub_tuple_list; have f5 := AutoSeq1.sub_list_tuple
    have hz' : (items ++ items2).size ≤ sizeLine + 1 := by rw [Array.size_append]; exact hs2
    wp_walk using (wpAny_updateSeq hl rfl (hz := hs1) (_hz' := hz')), AutoSeq1.wpAny_loadPart' hl, AutoSeq1.wpAny_loadPart' hb; exact ⟨_, rfl, h⟩
def rExtT (K : Fg) : V → List V → Hp → VK → Prop := fun x vs H Q => ∃ l b xs zs, x = .ref l ∧ vs = [.ref b] ∧ H l = some (.lst xs) ∧ SqT K H b zs ∧ xs.length + zs.length ≤ sizeLine ∧ Q .non (upd H l (.lst (xs ++ zs)))
theorem mt_extT {X : Cx} : MtR X "list.extend" (rExtT X.K) := by
  intro pins s σ H x vs v us Q I rx rv h
  obtain ⟨l, b, xs, zs, rfl, rfl, hH, hB, hz, q⟩ := h
  cases rx
  obtain ⟨u, rfl, ru⟩ := rv.one
  cases ru
  obtain ⟨z, its, n, r, hl, e⟩ := I.lstM hH
  obtain ⟨its2, r2, ⟨⟨oc, dd, dt, sl⟩, e2, hc2, n2, hd2⟩, z2⟩ := I.tuple hB
  simp only at hc2 hd2
  subst hc2 hd2
  have hl2 := r2.length
  have hsz : its.toArray.size + its2.toArray.size ≤ sizeLine := by rw [List.size_toArray, List.size_toArray]; omega
  have hlong : ¬ (!its.toArray.isEmpty && Builtin.List.listTooLong (its.toArray.size + its2.toArray.size)) = true := by
    rw [notLongL hsz, Bool.and_false]
    exact Bool.false_ne_true
  refine call_meets F.slot_list_extend ⟨_, e, rfl⟩ F.entry_list_extend (F.args_list_extend_2 _ _)
    (extend_tup l its.toArray n b its2.toArray n2 dd sl hlong (by rw [List.size_toArray]; omega) (by omega)) ⟨e, e2, ?_⟩
  refine ⟨.non, _, I.lset (its' := its ++ its2) hH e (by simp) (r.append r2) ?_, rfl, q⟩
  rw [List.length_append]
  omega

/-! ### xs.remove(text) -/
theorem first_s : ∀ {ns : List Str} {k : Str}, k ∈ ns → ∃ j, j < ns.length ∧ ns[j]? = some k ∧ (∀ i, i < j → ns[i]? ≠ some k) ∧ ns.eraseIdx j = ns.erase k
  | [], k, h => absurd h (by simp)
  | a :: r, k, h => by
    by_cases e : a = k
    · refine ⟨0, Nat.succ_pos _, by rw [e] <;> rfl, fun i hi => absurd hi (Nat.not_lt_zero _), ?_⟩
      rw [e, List.erase_cons_head] <;> rfl
    · have hr : k ∈ r := by
        rcases List.mem_cons.mp h with z | z
        · exact absurd z.symm e
        · exact z
      obtain ⟨j, h1, h2, h3, h4⟩ := first_s hr
      refine ⟨j + 1, Nat.succ_lt_succ h1, h2, fun i hi => ?_, ?_⟩
      · cases i with
        | zero =>
          intro z
          exact e (Option.some.inj z)
        | succ i => exact h3 i (Nat.lt_of_succ_lt_succ hi)
      · rw [List.erase_cons_tail (by rw [beq_iff_eq]; exact e), ← h4] <;> rfl
theorem strs_get : ∀ {ns : List Str} {us : List Value} {i : Nat} {u : Value}, Vals (ns.map V.str) us → us[i]? = some u → ∃ x t, ns[i]? = some x ∧ u = .str x t
  | [], us, i, u, r, e => by cases r; simp at e
  | n :: ns, us, i, u, r, e => by
    cases r with
    | cons q r =>
      cases i with
      | zero =>
        obtain ⟨t, rfl⟩ := q
        simp at e
        exact ⟨n, t, rfl, e.symm⟩
      | succ i => exact strs_get (i := i) r (by simpa using e)
def rRemS : V → List V → Hp → VK → Prop := fun x vs H Q => ∃ (l : Addr) (ns : List Str) (k : Str), x = .ref l ∧ vs = [.str k] ∧ H l = some (.lst (ns.map V.str)) ∧ k ∈ ns ∧ Q .non (upd H l (.lst ((ns.erase k).map V.str)))
theorem mt_remS {X : Cx} : MtR X "list.remove" rRemS := by
  intro pins s σ H x vs v us Q I rx rv h
  obtain ⟨l, ns, k, rfl, rfl, hH, hk, q⟩ := h
  cases rx
  obtain ⟨u, rfl, ru⟩ := rv.one
  obtain ⟨t, rfl⟩ := (show ∃ t, u = Value.str k t from ru)
  obtain ⟨z, its, n, r, hl, e0⟩ := I.lstM hH
  have hnl : ns.length = its.length := by rw [← hl, List.length_map]
  have hsz : its.toArray.size ≤ sizeLine := by rw [List.size_toArray, ← hl]; exact z
  obtain ⟨j, j1, j2, j3, j4⟩ := first_s hk
  have hj : j < its.length := by omega
  have at_ : ∀ (i : Nat) (hi : i < its.length), ∃ x t, ns[i]? = some x ∧ its[i] = .str x t := fun i hi => strs_get r (List.getElem?_eq_getElem hi)
  have heq : ∀ y ∈ its, MeetsSeq.EqGives y (.str k t) (Value.isStrOf k y) := fun y hy => by
    obtain ⟨i, hi, e⟩ := List.getElem_of_mem hy
    obtain ⟨x, t', _, e'⟩ := at_ i hi
    rw [← e, e']
    intro prog w A E s Q h
    refine wpAny_eqBool_str ?_
    have : Value.isStrOf k (.str x t') = decide (x = k) := by
      by_cases hx : x = k
      · subst hx
        simp [Value.isStrOf]
      · simp [Value.isStrOf, hx, Ne.symm hx]
    rw [this] at h
    exact h
  refine call_meets F.slot_list_remove ⟨_, e0, rfl⟩ F.entry_list_remove (F.args_list_remove_2 _ _)
    (MeetsSeq.list_remove l its.toArray n (.str k t) (Value.isStrOf k) (fun y hy => heq y (by simpa using hy)) j (by rw [List.size_toArray]; exact hj) ?hit (fun i hi2 hlt => ?hno) hsz) ⟨e0, ?_⟩
  case hit =>
    show Value.isStrOf k its[j] = true
    obtain ⟨x, t', hx, e'⟩ := at_ j hj
    rw [j2] at hx
    cases hx
    rw [e']
    simp [Value.isStrOf]
  case hno =>
    have hi3 : i < its.length := by rw [List.size_toArray] at hi2; exact hi2
    show Value.isStrOf k its[i] = false
    obtain ⟨x, t', hx, e'⟩ := at_ i hi3
    rw [e', Bool.eq_false_iff]
    intro w
    obtain ⟨t2, e2⟩ := Value.isStrOf_shape w
    injection e2 with e3 _
    subst e3
    exact j3 i hlt hx
  have r2 : Vals ((ns.erase k).map V.str) (its.eraseIdx j) := by
    have w := r.eraseIdx j
    have em : ∀ (ns : List Str) (j : Nat), (ns.map V.str).eraseIdx j = (ns.eraseIdx j).map V.str := by
      intro ns
      induction ns with
      | nil => intro j; rfl
      | cons a r ih =>
        intro j
        cases j with
        | zero => rfl
        | succ j =>
          show V.str a :: (r.map V.str).eraseIdx j = V.str a :: (r.eraseIdx j).map V.str
          rw [ih]
    rw [em, j4] at w
    exact w
  refine ⟨.non, _, I.lset (its' := its.eraseIdx j) hH e0 ?_ r2 ?_, rfl, q⟩
  · show its.toArray.eraseIdxIfInBounds j = (its.eraseIdx j).toArray
    rw [List.eraseIdxIfInBounds_toArray]
  · rw [List.length_map]
    have := List.length_erase_le (a := k) (l := ns)
    rw [List.length_map] at z
    omega

/-! ### text * int, a written one above 1 -/
def repS (x : Str) (n : Nat) : Str := ⟨(List.replicate n x.cps).foldl (· ++ ·) #[]⟩
def rMulS : R2 := fun x y H Q => ∃ (z : Str) (n : Int), x = .str z ∧ y = .int n ∧ 1 < n ∧ n < 100 ∧ 0 < z.length ∧ z.length ≤ 100 ∧ (repS z n.toNat).length ≤ sizeLine ∧ Q (.str (repS z n.toNat)) H
theorem op_mulS {X : Cx} : OpR X (binaryOp .Mult) rMulS := by
  intro pins s σ H x y v u Q I rx ry h
  obtain ⟨z, n, rfl, rfl, h1, h2, h3, h4, h5, q⟩ := h
  obtain ⟨t, rfl⟩ := rx
  obtain ⟨t', rfl⟩ := ry
  have hb : ((z.length : Int) > (2 ^ 63 - 1) / n) → False := fun c => by
    have : (100 : Int) ≤ (2 ^ 63 - 1) / n := (Int.le_ediv_iff_mul_le (by omega)).mpr (by omega)
    omega
  have hn : (n == 1 || z.length == 0) = false := by
    rw [Bool.or_eq_false_iff, beq_eq_false_iff_ne, beq_eq_false_iff_ne]
    exact ⟨by omega, by omega⟩
  have hlong : Builtin.Str.tooLong (z.length * n.toNat) = false := by
    have : z.length * n.toNat ≤ 100 * 100 := Nat.mul_le_mul h4 (by omega)
    unfold Builtin.Str.tooLong
    exact decide_eq_false (by rw [show sizeLine = 16777216 from sizeLine_eq]; omega)
  refine PySem.P.mul_str (by
      have e1 : ¬ n < -(2 ^ 63 : Int) := by omega
      have e2 : ¬ n ≥ 2 ^ 63 := by omega
      rw [decide_eq_false e1, decide_eq_false e2] <;> rfl) (fun _ _ => hb) (fun _ _ => hlong) ?_
  rw [if_neg (by omega), if_neg (by rw [hn]; exact Bool.false_ne_true)]
  exact ⟨h5, ⟨.str (repS z n.toNat), H, I.tok _, ⟨_, rfl⟩, q⟩⟩

/-! ### f(k = e, ..), keywords alone -/
theorem pe_callK0 {X : Cx} {CX : CXT} {k : Nat} {f : Addr} {fd : FuncData} {ps ks : List Str} {sp : Sp} {E : XK} {x : Str} {p pos : Pos} {kws : List Keyword} {tk : TA} {g : List Value → List Value → List Value} {gV : List V → List V → List V}
    (F : FnOk X.prog X.w X.K X.mg X.base CX k f fd ps sp) (hr : Room k X.A) (hg : Gl X x) (hm : X.mg x = some (.ref f)) (hk : PySem.W.keepIn X.K (.ref f) = true) (hb : KBinds X.K fd ps ks g gV) (hx : Passes CX X E)
    (hkw : PK X kws tk) (hall : (backToKw pos (keywordEach kws X.env)).all (·.1.isSome) = true := by rfl) (hks : (backToKw pos (keywordEach kws X.env)).filterMap (·.1) = ks := by rfl)
    (hdb : (x == ("__debug__" : Str)) = false := by decide) (hpl : ((backTo pos (starEach [] X.env)).any (·.1) || (backToKw pos (keywordEach kws X.env)).any (·.1.isNone)) = false := by rfl) :
    PE X (.Call (.Name x p) [] kws pos) (tCallK sp gV E tNil tk) := by
  refine ⟨fun pins s σ H Q I h => ?_⟩
  refine wpAny_Call_Name_kw (ld_glob I hg hm ?_ hdb)
  refine PySem.W.callWith_KW0 (h₀ := X.base) I.ok.mod.kin hk hall ?_ hpl
  refine thn (hkw.run pos pins s σ H _ I h) fun ws s2 ⟨zs, H2, I2, rz, q2⟩ => ⟨I2.kIn, ?_⟩
  rw [hks]
  exact run_fnk F hr hb hx I2 .nil rz q2
end K33

set_option Elab.async false
set_option linter.all false
set_option maxRecDepth 100000
set_option maxHeartbeats 4000000
/-! Operations, builtins, comprehensions and loops over data. -/
namespace K33
open PySem PySem.Spec PyProof.Rows L2

/-! ### one rule for each operation, whatever the kinds -/
def rAddS : R2 := fun x y H Q => ∃ i j, x = .str i ∧ y = .str j ∧ i.length + j.length ≤ sizeLine ∧ Q (.str (i ++ j)) H
def rAddU (K : Fg) : R2 := fun x y H Q => rI0 (fun i j => .int (i + j)) x y H Q ∨ (rAddS x y H Q ∨ (rCatA K x y H Q ∨ rCat x y H Q))
theorem op_addU {X : Cx} : OpR X (binaryOp .Add) (rAddU X.K) := op_add.or (op_add_str.or (op_catA.or op_cat))
def rMulU : R2 := fun x y H Q => rI CMul (fun i j => .int (i * j)) x y H Q ∨ rMulS x y H Q
theorem op_mulU {X : Cx} : OpR X (binaryOp .Mult) rMulU := op_mul.or op_mulS
def rSlU (K : Fg) : V → Option Int → Option Int → Hp → VK → Prop := fun x lo hi H Q => rSlL K x lo hi H Q ∨ rSlA K x lo hi H Q
theorem sl_U {X : Cx} : SlR X (rSlU X.K) := sl_list.or sl_tupA
def rInSg : R2 := fun x y H Q => ∃ (c : Nat) (z : Str), x = .str ⟨#[c]⟩ ∧ y = .str z ∧ Q (.bl (decide (c ∈ z.cps.toList))) H
theorem op_inSg {X : Cx} : OpR X (compareOp .In) rInSg := op_in_sign
def rIsNo : R2 := fun x y H Q => y = .non ∧ Q (.bl (decide (x = .non))) H
def rNotNo : R2 := fun x y H Q => y = .non ∧ Q (.bl (!decide (x = .non))) H
theorem op_isNo {X : Cx} : OpR X (compareOp .Is) rIsNo := op_isN
theorem op_notNo {X : Cx} : OpR X (compareOp .IsNot) rNotNo := op_notN
def rEqU (K : Fg) : R2 := fun x y H Q => rEq x y H Q ∨ rEqD K x y H Q
theorem op_eqU {X : Cx} (hu : X.A.units + 64 < cLine) : OpR X (compareOp .Eq) (rEqU X.K) := op_eq.or (op_eqD hu)
def rNeU (K : Fg) : R2 := fun x y H Q => rNe x y H Q ∨ rNeD K x y H Q
theorem op_neU {X : Cx} (hu : X.A.units + 64 < cLine) : OpR X (compareOp .NotEq) (rNeU X.K) := op_ne.or (op_neD hu)
def rLenU (K : Fg) : List V → Hp → VK → Prop := fun xs H Q => ∃ x n, xs = [x] ∧ LenV K x H n ∧ Q (.int n) H
theorem call_lenU {X : Cx} : CallR X (.builtin "len") (rLenU X.K) := call_len
def rInt1 : List V → Hp → VK → Prop := fun xs H Q => (∃ i, xs = [.int i] ∧ Q (.int i) H) ∨ ∃ k, xs = [.bl k] ∧ Q (.int (if k then 1 else 0)) H
theorem call_intU {X : Cx} : CallR X (.type "int") rInt1 := call_int1
def rTupOf (K : Fg) : List V → Hp → VK → Prop := fun xs H Q => ∃ p ys, xs = [.ref p] ∧ ((SqL K H p ys ∧ ∀ l, H l = none → Q (.ref l) (upd H l (.tup ys))) ∨ (SqT K H p ys ∧ Q (.ref p) H))
theorem call_tupU {X : Cx} : CallR X (.type "tuple") (rTupOf X.K) := call_tuple_of
def rLstOf (K : Fg) : List V → Hp → VK → Prop := fun xs H Q => ∃ p ys, xs = [.ref p] ∧ (SqL K H p ys ∨ SqT K H p ys) ∧ ∀ l, H l = none → Q (.ref l) (upd H l (.lst ys))
theorem call_lstU {X : Cx} : CallR X (.type "list") (rLstOf X.K) := call_list_of

section
variable {K : Fg} {σ : L2.St} {H H' : Hp} {ta tb te tx tl : TE} {t u : TT} {x y z d : PyData} {v : V} {r : R2} {P : VP}
theorem Is.seq {s : PyData} {ds : List PyData} (hs : s = .list ds ∨ s = .tuple ds) (h : Is K H v s) : ∃ p xs, v = .ref p ∧ AllIs K H xs ds ∧ ((s = .list ds ∧ H p = some (.lst xs)) ∨ (s = .tuple ds ∧ SqT K H p xs)) := by
  rcases hs with e | e
  · subst e
    cases h with
    | lst h a => exact ⟨_, _, rfl, a, .inl ⟨rfl, h⟩⟩
  · subst e
    cases h with
    | tup h a => exact ⟨_, _, rfl, a, .inr ⟨rfl, h⟩⟩
/-! ints -/
theorem rd_I0 {g : Int → Int → V} {i j : Int} (h : ∀ H, Is K H (g i j) z) : RD K (rI0 g) (.int i) (.int j) z := fun H v u hv hu Q q => by
  cases hv
  cases hu
  exact ⟨i, j, rfl, rfl, q _ H (Same.refl _) (h H)⟩
theorem rd_I {C : Int → Int → Prop} {g : Int → Int → V} {i j : Int} (hc : C i j) (h : ∀ H, Is K H (g i j) z) : RD K (rI C g) (.int i) (.int j) z := fun H v u hv hu Q q => by
  cases hv
  cases hu
  exact ⟨i, j, rfl, rfl, hc, q _ H (Same.refl _) (h H)⟩
theorem rd_sub {i j : Int} : RD K (rI0 fun i j => .int (i - j)) (.int i) (.int j) (.int (i - j)) := rd_I0 fun _ => .int _
theorem rd_lt {i j : Int} : RD K (rI0 fun i j => .bl (decide (i < j))) (.int i) (.int j) (.bool (decide (i < j))) := rd_I0 fun _ => .bl _
theorem rd_le {i j : Int} : RD K (rI0 fun i j => .bl (decide (i ≤ j))) (.int i) (.int j) (.bool (decide (i ≤ j))) := rd_I0 fun _ => .bl _
theorem rd_gt {i j : Int} : RD K (rI0 fun i j => .bl (decide (j < i))) (.int i) (.int j) (.bool (decide (j < i))) := rd_I0 fun _ => .bl _
theorem rd_ge {i j : Int} : RD K (rI0 fun i j => .bl (decide (j ≤ i))) (.int i) (.int j) (.bool (decide (j ≤ i))) := rd_I0 fun _ => .bl _
theorem rd_mul {i j : Int} (h : CMul i j) : RD K rMulU (.int i) (.int j) (.int (i * j)) := fun H v u hv hu Q q => .inl (rd_I h (fun _ => .int _) H v u hv hu Q q)
theorem rd_mod {i j : Int} (h : 0 < j) : RD K (rI (fun _ j => 0 < j) fun i j => .int (i % j)) (.int i) (.int j) (.int (i % j)) := rd_I h fun _ => .int _
theorem rd_div {i j : Int} (h : 0 < j ∧ j < 1073741824) : RD K (rI CDiv fun i j => .int (i / j)) (.int i) (.int j) (.int (i / j)) := rd_I h fun _ => .int _
theorem rd_pow {i j : Int} (h : CPow i j) : RD K (rI CPow fun i j => .int (i ^ j.toNat)) (.int i) (.int j) (.int (i ^ j.toNat)) := rd_I h fun _ => .int _
theorem ud_neg {i : Int} : UD K (rU fun i => .int (-i)) (.int i) (.int (-i)) := fun H v hv Q q => by
  cases hv
  exact ⟨i, rfl, q _ H (Same.refl _) (.int _)⟩
/-! + -/
theorem rd_addI {i j : Int} : RD K (rAddU K) (.int i) (.int j) (.int (i + j)) := fun H v u hv hu Q q => .inl (rd_I0 (fun _ => .int _) H v u hv hu Q q)
theorem big {n : Nat} (h : n ≤ 1000000) : n ≤ sizeLine := Nat.le_trans h (by rw [sizeLine_eq]; decide)
theorem rd_addS {i j : Str} (h : i.length + j.length ≤ 1000000) : RD K (rAddU K) (.str i) (.str j) (.str (i ++ j)) := fun H v u hv hu Q q => by
  cases hv
  cases hu
  exact .inr (.inl ⟨i, j, rfl, rfl, big h, q _ H (Same.refl _) (.str _)⟩)
theorem rd_addT {a b : List PyData} (h : a.length + b.length ≤ 1000000) : RD K (rAddU K) (.tuple a) (.tuple b) (.tuple (a ++ b)) := fun H v u hv hu Q q => by
  cases hv with
  | tup s1 a1 =>
    cases hu with
    | tup s2 a2 =>
      refine .inr (.inr (.inl ⟨_, _, _, _, rfl, rfl, s1, s2, by rw [a1.len, a2.len]; exact big h, fun e => ?_, fun _ e => ?_, fun _ _ p hp => ?_⟩))
      · subst e
        cases a1
        exact q _ H (Same.refl _) (.tup s2 a2)
      · subst e
        cases a2
        rw [List.append_nil] at q
        exact q _ H (Same.refl _) (.tup s1 a1)
      · exact q _ _ (Same.new hp) (.tup (SqT.of upd_same) ((a1.append a2).mono (Same.new hp)))
theorem el_addL {a b : List PyData} (ha : Ev ta σ H (IsD K (.list a))) (hb : Ev tb σ H (IsD K (.list b))) (h : a.length + b.length ≤ 1000000) : EvL K (tOp (rAddU K) ta tb) σ H (a ++ b) := fun H1 e Q q =>
  ha H1 e _ fun v H2 e2 hv => hb H2 (e.trans e2) _ fun w H3 e3 hw => by
    have hv := Is.mono e3 hv
    cases hv with
    | lst s1 a1 =>
      cases hw with
      | lst s2 a2 => exact .inr (.inr (.inr ⟨_, _, _, _, rfl, rfl, s1, s2, by rw [a1.len, a2.len]; exact big h, fun p hp => q p _ _ ((e2.trans e3).free hp) ((e2.trans e3).trans (Same.new hp)) upd_same ((a1.append a2).mono (Same.new hp))⟩))
theorem ev_addL {a b : List PyData} (ha : Ev ta σ H (IsD K (.list a))) (hb : Ev tb σ H (IsD K (.list b))) (h : a.length + b.length ≤ 1000000) : Ev (tOp (rAddU K) ta tb) σ H (IsD K (.list (a ++ b))) := (el_addL ha hb h).ev
theorem rd_mulS {s : Str} {n : Int} (h1 : 1 < n) (h2 : n < 100) (h3 : 0 < s.length) (h4 : s.length ≤ 100) (h5 : (repS s n.toNat).length ≤ 1000000) : RD K rMulU (.str s) (.int n) (.str (repS s n.toNat)) := fun H v u hv hu Q q => by
  cases hv
  cases hu
  exact .inr ⟨s, n, rfl, rfl, h1, h2, h3, h4, big h5, q _ H (Same.refl _) (.str _)⟩
/-! ==, is -/
theorem rd_eq (sx : SeqAt.shaped x = true) (sy : SeqAt.shaped y = true) : RD K (rEqU K) x y (.bool (PyData.eqv x y)) := fun H v u hv hu Q q => .inr ⟨x, y, hv.dp, hu.dp, sx, sy, q _ H (Same.refl _) (.bl _)⟩
theorem rd_ne (sx : SeqAt.shaped x = true) (sy : SeqAt.shaped y = true) : RD K (rNeU K) x y (.bool (!PyData.eqv x y)) := fun H v u hv hu Q q => .inr ⟨x, y, hv.dp, hu.dp, sx, sy, q _ H (Same.refl _) (.bl _)⟩
theorem decV {α : Type} [DecidableEq α] (f : α → V) (hf : ∀ a b, f a = f b → a = b) (i j : α) : decide (f i = f j) = decide (i = j) := by
  by_cases h : i = j
  · subst h
    simp
  · rw [decide_eq_false h, decide_eq_false (fun e => h (hf _ _ e))]
theorem rd_eqI {i j : Int} : RD K (rEqU K) (.int i) (.int j) (.bool (decide (i = j))) := fun H v u hv hu Q q => by
  cases hv
  cases hu
  refine .inl ⟨rfl, ?_⟩
  rw [decV V.int (fun _ _ e => V.int.inj e)]
  exact q _ H (Same.refl _) (.bl _)
theorem rd_neI {i j : Int} : RD K (rNeU K) (.int i) (.int j) (.bool (!decide (i = j))) := fun H v u hv hu Q q => by
  cases hv
  cases hu
  refine .inl ⟨rfl, ?_⟩
  rw [decV V.int (fun _ _ e => V.int.inj e)]
  exact q _ H (Same.refl _) (.bl _)
theorem rd_eqS {i j : Str} : RD K (rEqU K) (.str i) (.str j) (.bool (decide (i = j))) := fun H v u hv hu Q q => by
  cases hv
  cases hu
  refine .inl ⟨rfl, ?_⟩
  rw [decV V.str (fun _ _ e => V.str.inj e)]
  exact q _ H (Same.refl _) (.bl _)
theorem rd_eqB {i j : Bool} : RD K (rEqU K) (.bool i) (.bool j) (.bool (decide (i = j))) := fun H v u hv hu Q q => by
  cases hv
  cases hu
  refine .inl ⟨rfl, ?_⟩
  rw [decV V.bl (fun _ _ e => V.bl.inj e)]
  exact q _ H (Same.refl _) (.bl _)
def isNo : PyData → Bool
  | .none => true
  | _ => false
theorem Is.isNo {H : Hp} (h : Is K H v x) : decide (v = .non) = isNo x := by cases h <;> rfl
theorem rd_isNo : RD K rIsNo x .none (.bool (isNo x)) := fun H v u hv hu Q q => by
  cases hu
  refine ⟨rfl, ?_⟩
  show Q (.bl (decide (v = .non))) H
  rw [hv.isNo]
  exact q _ H (Same.refl _) (.bl _)
theorem rd_notNo : RD K rNotNo x .none (.bool (!isNo x)) := fun H v u hv hu Q q => by
  cases hu
  refine ⟨rfl, ?_⟩
  show Q (.bl (!decide (v = .non))) H
  rw [hv.isNo]
  exact q _ H (Same.refl _) (.bl _)
theorem rd_isB {a b : Bool} : RD K rIsB (.bool a) (.bool b) (.bool (decide (a = b))) := fun H v u hv hu Q q => by
  cases hv
  cases hu
  exact ⟨a, b, rfl, rfl, q _ H (Same.refl _) (.bl _)⟩
theorem rd_notB {a b : Bool} : RD K rNotB (.bool a) (.bool b) (.bool (!decide (a = b))) := fun H v u hv hu Q q => by
  cases hv
  cases hu
  exact ⟨a, b, rfl, rfl, q _ H (Same.refl _) (.bl _)⟩
/-! in -/
theorem rd_inSg {c : Nat} {s : Str} : RD K rInSg (.str ⟨#[c]⟩) (.str s) (.bool (decide (c ∈ s.cps.toList))) := fun H v u hv hu Q q => by
  cases hv
  cases hu
  exact ⟨c, s, rfl, rfl, q _ H (Same.refl _) (.bl _)⟩
theorem all_flatS : ∀ ss : List Str, (ss.map V.str).all flatV = true
  | [] => rfl
  | s :: ss => by
    rw [List.map_cons, List.all_cons, all_flatS ss] <;> rfl
theorem inV_str {s : Str} : ∀ ss : List Str, inV (.str s) (ss.map V.str) = decide (s ∈ ss)
  | [] => rfl
  | x :: ss => by
    show (eqV (.str x) (.str s) || inV (.str s) (ss.map V.str)) = _
    rw [inV_str ss]
    have e : eqV (.str x) (.str s) = decide (x = s) := by
      show (x == s) = _
      exact Bool.beq_eq_decide_eq x s
    rw [e, ← Bool.decide_or]
    congr 1
    rw [List.mem_cons, eq_comm (a := x)]
/-- a text in a tuple, a list of texts -/
theorem rd_inS {s : Str} {ss : List Str} {d : PyData} (hd : d = .list (ss.map .str) ∨ d = .tuple (ss.map .str)) : RD K (rIn K false) (.str s) d (.bool (decide (s ∈ ss))) := fun H v u hv hu Q q => by
  obtain ⟨p, xs, rfl, a, h⟩ := hu.seq hd
  have ex := AllIs.strs a
  subst ex
  cases hv
  refine ⟨p, _, rfl, h.elim (fun z => .inl (SqL.of z.2)) (fun z => .inr z.2), rfl, all_flatS ss, ?_⟩
  show Q (.bl (if false = true then !inV (.str s) (ss.map V.str) else inV (.str s) (ss.map V.str))) H
  rw [if_neg Bool.false_ne_true, inV_str]
  exact q _ H (Same.refl _) (.bl _)
theorem rd_niS {s : Str} {ss : List Str} {d : PyData} (hd : d = .list (ss.map .str) ∨ d = .tuple (ss.map .str)) : RD K (rIn K true) (.str s) d (.bool (!decide (s ∈ ss))) := fun H v u hv hu Q q => by
  obtain ⟨p, xs, rfl, a, h⟩ := hu.seq hd
  have ex := AllIs.strs a
  subst ex
  cases hv
  refine ⟨p, _, rfl, h.elim (fun z => .inl (SqL.of z.2)) (fun z => .inr z.2), rfl, all_flatS ss, ?_⟩
  show Q (.bl (if true = true then !inV (.str s) (ss.map V.str) else inV (.str s) (ss.map V.str))) H
  rw [if_pos rfl, inV_str]
  exact q _ H (Same.refl _) (.bl _)
/-! subscripts -/
theorem atI_all {xs : List V} {ds : List PyData} {i : Int} (a : AllIs K H xs ds) (h : atI ds i = some d) : ∃ w, atI xs i = some w ∧ Is K H w d := by
  unfold atI at h ⊢
  rw [a.len]
  cases e : ixN ds.length i with
  | none => rw [e] at h; cases h
  | some j =>
    rw [e] at h
    exact a.get h
theorem rd_ix {s : PyData} {ds : List PyData} {i : Int} (hs : s = .list ds ∨ s = .tuple ds) (h : atI ds i = some d) : RD K (rIx K) s (.int i) d := fun H v u hv hu Q q => by
  obtain ⟨p, xs, rfl, a, hp⟩ := hv.seq hs
  cases hu
  obtain ⟨w, hw, hd⟩ := atI_all a h
  rcases hp with ⟨_, hp⟩ | ⟨_, hp⟩
  · exact .inl ⟨p, xs, i, w, rfl, rfl, SqL.of hp, hw, q _ H (Same.refl _) hd⟩
  · exact .inr (.inl ⟨p, xs, i, w, rfl, rfl, hp, hw, q _ H (Same.refl _) hd⟩)
theorem rd_ixS {s : Str} {i : Int} {c : Nat} (hl : s.length ≤ 1000000) (h : atI s.cps.toList i = some c) : RD K (rIx K) (.str s) (.int i) (.str ⟨#[c]⟩) := fun H v u hv hu Q q => by
  cases hv
  cases hu
  exact .inr (.inr ⟨s, i, c, rfl, rfl, big hl, h, q _ H (Same.refl _) (.str _)⟩)
theorem atI_n {α : Type} {xs : List α} {j : Nat} {v : α} {i : Int} (e : i = (j : Int)) (h : xs[j]? = some v) : atI xs i = some v := by
  rw [e]
  exact atI_nat h
/-! slices -/
def cutD (xs : List PyData) (lo hi : Option Int) : List PyData := (xs.drop (HT.sIx xs.length 0 lo)).take (HT.sIx xs.length xs.length hi - HT.sIx xs.length 0 lo)
theorem AllIs.cut {xs : List V} {ds : List PyData} {lo hi : Option Int} (a : AllIs K H xs ds) : AllIs K H (cutV xs lo hi) (cutD ds lo hi) := by
  unfold cutV cutD
  rw [a.len]
  exact (a.drop _).take _
theorem eo_none : EvO tNoPart σ H none := fun H1 _ _ q => q H1 (Same.refl _)
theorem eo_some {i : Int} (h : Ev te σ H (IsD K (.int i))) : EvO (tPart te) σ H (some i) := fun H1 e Q q => h H1 e _ fun v H2 e2 hv => by
  cases hv
  exact ⟨i, rfl, q H2 e2⟩
theorem el_sl {tl th : TO} {ds : List PyData} {lo hi : Option Int} (h : Ev te σ H (IsD K (.list ds))) (h1 : EvO tl σ H lo) (h2 : EvO th σ H hi) : EvL K (tSl (rSlU K) te tl th) σ H (cutD ds lo hi) := fun H1 e Q q =>
  h H1 e _ fun v H2 e2 hv => h1 H2 (e.trans e2) _ fun H3 e3 => h2 H3 ((e.trans e2).trans e3) _ fun H4 e4 => by
    have hv := Is.mono (e3.trans e4) hv
    cases hv with
    | lst s a => exact .inl ⟨_, _, rfl, SqL.of s, fun p hp => q p _ _ (((e2.trans e3).trans e4).free hp) (((e2.trans e3).trans e4).trans (Same.new hp)) upd_same (a.cut.mono (Same.new hp))⟩
theorem ev_slT {tl th : TO} {ds : List PyData} {lo hi : Option Int} (h : Ev te σ H (IsD K (.tuple ds))) (h1 : EvO tl σ H lo) (h2 : EvO th σ H hi) : Ev (tSl (rSlU K) te tl th) σ H (IsD K (.tuple (cutD ds lo hi))) := fun H1 e Q q =>
  h H1 e _ fun v H2 e2 hv => h1 H2 (e.trans e2) _ fun H3 e3 => h2 H3 ((e.trans e2).trans e3) _ fun H4 e4 => by
    have hv := Is.mono (e3.trans e4) hv
    cases hv with
    | @tup _ xs _ s a =>
      refine .inr ⟨_, _, rfl, s, fun hw => q _ _ ((e2.trans e3).trans e4) ?_, fun _ p hp => q _ _ (((e2.trans e3).trans e4).trans (Same.new hp)) (.tup (SqT.of upd_same) (a.cut.mono (Same.new hp)))⟩
      have ew : cutD ds lo hi = ds := by
        unfold cutD
        rw [a.len] at hw
        rw [hw.1, hw.2]
        simp
      show Is K H4 _ (.tuple (cutD ds lo hi))
      rw [ew]
      exact .tup s a
/-! builtins -/
def lenD : PyData → Option Nat
  | .list ds => some ds.length
  | .tuple ds => some ds.length
  | .str s => some s.length
  | _ => none
theorem ev_lenL {ds : List PyData} (he : Ev te σ H (IsD K (.list ds))) : Ev (tCB (rLenU K) (tCons te tNil)) σ H (IsD K (.int (ds.length : Int))) := ev_cb (ea1 he) fun H vs a Q q => by
  cases a with
  | cons h0 t =>
    cases t
    cases h0 with
    | lst s a => exact ⟨_, _, rfl, .inl ⟨_, SqL.of s, a.len.symm⟩, q _ H (Same.refl _) (.int _)⟩
theorem ev_lenT {ds : List PyData} (he : Ev te σ H (IsD K (.tuple ds))) : Ev (tCB (rLenU K) (tCons te tNil)) σ H (IsD K (.int (ds.length : Int))) := ev_cb (ea1 he) fun H vs a Q q => by
  cases a with
  | cons h0 t =>
    cases t
    cases h0 with
    | tup s a => exact ⟨_, _, rfl, .inr ⟨_, s, a.len.symm⟩, q _ H (Same.refl _) (.int _)⟩
theorem ev_lenQ {s : PyData} {ds : List PyData} (hs : s = .list ds ∨ s = .tuple ds) (he : Ev te σ H (IsD K s)) : Ev (tCB (rLenU K) (tCons te tNil)) σ H (IsD K (.int (ds.length : Int))) := by
  rcases hs with e | e
  · subst e
    exact ev_lenL he
  · subst e
    exact ev_lenT he
theorem ev_lenS {s : Str} (he : Ev te σ H (IsD K (.str s))) (hn : s.length ≤ 1000000) : Ev (tCB (rLenU K) (tCons te tNil)) σ H (IsD K (.int (s.length : Int))) := ev_cb (ea1 he) fun H vs a Q q => by
  cases a with
  | cons h0 t =>
    cases t
    cases h0 with
    | str s => exact ⟨_, _, rfl, ⟨big hn, rfl⟩, q _ H (Same.refl _) (.int _)⟩
theorem ev_intI {i : Int} (he : Ev te σ H (IsD K (.int i))) : Ev (tCB rInt1 (tCons te tNil)) σ H (IsD K (.int i)) := ev_cb (ea1 he) fun H vs a Q q => by
  cases a with
  | cons h0 t =>
    cases t
    cases h0
    exact .inl ⟨i, rfl, q _ H (Same.refl _) (.int i)⟩
theorem ev_intB {b : Bool} (he : Ev te σ H (IsD K (.bool b))) : Ev (tCB rInt1 (tCons te tNil)) σ H (IsD K (.int (if b then 1 else 0))) := ev_cb (ea1 he) fun H vs a Q q => by
  cases a with
  | cons h0 t =>
    cases t
    cases h0
    exact .inr ⟨b, rfl, q _ H (Same.refl _) (.int _)⟩
theorem ev_tupOf {s : PyData} {ds : List PyData} (hs : s = .list ds ∨ s = .tuple ds) (he : Ev te σ H (IsD K s)) : Ev (tCB (rTupOf K) (tCons te tNil)) σ H (IsD K (.tuple ds)) := ev_cb (ea1 he) fun H vs a Q q => by
  cases a with
  | cons h0 t =>
    cases t
    obtain ⟨p, xs, rfl, a, hp⟩ := h0.seq hs
    rcases hp with ⟨_, hp⟩ | ⟨_, hp⟩
    · exact ⟨p, xs, rfl, .inl ⟨SqL.of hp, fun l hl => q _ _ (Same.new hl) (.tup (SqT.of upd_same) (a.mono (Same.new hl)))⟩⟩
    · exact ⟨p, xs, rfl, .inr ⟨hp, q _ H (Same.refl _) (.tup hp a)⟩⟩
theorem el_lstOf {s : PyData} {ds : List PyData} (hs : s = .list ds ∨ s = .tuple ds) (he : Ev te σ H (IsD K s)) : EvL K (tCB (rLstOf K) (tCons te tNil)) σ H ds := fun H1 e Q q => he H1 e _ fun v H2 e2 hv => by
  obtain ⟨p, xs, rfl, a, hp⟩ := Is.seq hs hv
  exact ⟨p, xs, rfl, hp.elim (fun z => .inl (SqL.of z.2)) (fun z => .inr z.2), fun l hl => q l xs _ (e2.free hl) (e2.trans (Same.new hl)) upd_same (a.mono (Same.new hl))⟩
theorem ev_all {bs : List Bool} (he : Ev te σ H (IsD K (.list (bs.map .bool)))) : Ev (tCB (rAll K) (tCons te tNil)) σ H (IsD K (.bool (bs.all id))) := ev_cb (ea1 he) fun H vs a Q q => by
  cases a with
  | cons h0 t =>
    cases t
    cases h0 with
    | lst s a =>
      have ex := AllIs.bls a
      subst ex
      exact ⟨_, bs, rfl, SqL.of s, q _ H (Same.refl _) (.bl _)⟩
theorem ev_any {bs : List Bool} (he : Ev te σ H (IsD K (.list (bs.map .bool)))) : Ev (tCB (rAny K) (tCons te tNil)) σ H (IsD K (.bool (bs.any id))) := ev_cb (ea1 he) fun H vs a Q q => by
  cases a with
  | cons h0 t =>
    cases t
    cases h0 with
    | lst s a =>
      have ex := AllIs.bls a
      subst ex
      exact ⟨_, bs, rfl, SqL.of s, q _ H (Same.refl _) (.bl _)⟩
/-- max, min of ints: the one that is known to be it -/
theorem ev_max {ns : List Int} {m : Int} (he : Ev te σ H (IsD K (.list (ns.map .int)))) (hm : m ∈ ns) (hle : ∀ y ∈ ns, y ≤ m) : Ev (tCB (rMax K) (tCons te tNil)) σ H (IsD K (.int m)) := ev_cb (ea1 he) fun H vs a Q q => by
  cases a with
  | cons h0 t =>
    cases t
    cases h0 with
    | lst s a =>
      have ex := AllIs.ints a
      subst ex
      refine ⟨_, ns, rfl, SqL.of s, List.length_pos_of_mem hm, fun k hk hk2 => ?_⟩
      have e : k = m := Int.le_antisymm (hle k hk) (hk2 m hm)
      rw [e]
      exact q _ H (Same.refl _) (.int _)
theorem ev_min {ns : List Int} {m : Int} (he : Ev te σ H (IsD K (.list (ns.map .int)))) (hm : m ∈ ns) (hle : ∀ y ∈ ns, m ≤ y) : Ev (tCB (rMin K) (tCons te tNil)) σ H (IsD K (.int m)) := ev_cb (ea1 he) fun H vs a Q q => by
  cases a with
  | cons h0 t =>
    cases t
    cases h0 with
    | lst s a =>
      have ex := AllIs.ints a
      subst ex
      refine ⟨_, ns, rfl, SqL.of s, List.length_pos_of_mem hm, fun k hk hk2 => ?_⟩
      have e : k = m := Int.le_antisymm (hk2 m hm) (hle k hk)
      rw [e]
      exact q _ H (Same.refl _) (.int _)
/-! isinstance -/
def tyOf : PyData → String
  | .none => "NoneType"
  | .bool _ => "bool"
  | .int _ => "int"
  | .str _ => "str"
  | .list _ => "list"
  | .tuple _ => "tuple"
  | .dict _ => "dict"
theorem Is.ty (h : Is K H v x) : TyX K H v (.type (tyOf x)) := by
  cases h with
  | non => exact .base .non
  | bl b => exact .base (.bl b)
  | int i => exact .base (.int i)
  | str s => exact .base (.str s)
  | lst s a => exact .base (.lst s)
  | tup s a =>
    rcases s with (s | ⟨o, s⟩) | ⟨o, its, n, hk, hc, _⟩
    · exact .base (.tup s)
    · exact .fTuple s
    · exact .kTuple hk hc
theorem ev_isi {T : String} {b : Bool} (he : Ev te σ H (IsD K x)) (h : kitB (tyOf x) T = some b) : Ev (tCB (rIsi K) (tCons te (tCons (tC (.ty T)) tNil))) σ H (IsD K (.bool b)) := fun H1 e Q q =>
  he H1 e _ fun v H2 e2 hv => ⟨v, .ty T, _, _, b, rfl, .ty T, Is.ty hv, kit_ty h, q _ H2 e2 (.bl b)⟩
def isInt : PyData → Bool
  | .int _ => true
  | .bool _ => true
  | _ => false
def isBool : PyData → Bool
  | .bool _ => true
  | _ => false
def isStr : PyData → Bool
  | .str _ => true
  | _ => false
def isTup : PyData → Bool
  | .tuple _ => true
  | _ => false
def isLst : PyData → Bool
  | .list _ => true
  | _ => false
def isDict : PyData → Bool
  | .dict _ => true
  | _ => false
theorem kit_int : ∀ x : PyData, kitB (tyOf x) "int" = some (isInt x)
  | .none => (by decide +kernel : kitB "NoneType" "int" = some false)
  | .bool _ => (by decide +kernel : kitB "bool" "int" = some true)
  | .int _ => (by decide +kernel : kitB "int" "int" = some true)
  | .str _ => (by decide +kernel : kitB "str" "int" = some false)
  | .list _ => (by decide +kernel : kitB "list" "int" = some false)
  | .tuple _ => (by decide +kernel : kitB "tuple" "int" = some false)
  | .dict _ => (by decide +kernel : kitB "dict" "int" = some false)
theorem kit_bool : ∀ x : PyData, kitB (tyOf x) "bool" = some (isBool x)
  | .none => (by decide +kernel : kitB "NoneType" "bool" = some false)
  | .bool _ => (by decide +kernel : kitB "bool" "bool" = some true)
  | .int _ => (by decide +kernel : kitB "int" "bool" = some false)
  | .str _ => (by decide +kernel : kitB "str" "bool" = some false)
  | .list _ => (by decide +kernel : kitB "list" "bool" = some false)
  | .tuple _ => (by decide +kernel : kitB "tuple" "bool" = some false)
  | .dict _ => (by decide +kernel : kitB "dict" "bool" = some false)
theorem kit_str : ∀ x : PyData, kitB (tyOf x) "str" = some (isStr x)
  | .none => (by decide +kernel : kitB "NoneType" "str" = some false)
  | .bool _ => (by decide +kernel : kitB "bool" "str" = some false)
  | .int _ => (by decide +kernel : kitB "int" "str" = some false)
  | .str _ => (by decide +kernel : kitB "str" "str" = some true)
  | .list _ => (by decide +kernel : kitB "list" "str" = some false)
  | .tuple _ => (by decide +kernel : kitB "tuple" "str" = some false)
  | .dict _ => (by decide +kernel : kitB "dict" "str" = some false)
theorem kit_tup : ∀ x : PyData, kitB (tyOf x) "tuple" = some (isTup x)
  | .none => (by decide +kernel : kitB "NoneType" "tuple" = some false)
  | .bool _ => (by decide +kernel : kitB "bool" "tuple" = some false)
  | .int _ => (by decide +kernel : kitB "int" "tuple" = some false)
  | .str _ => (by decide +kernel : kitB "str" "tuple" = some false)
  | .list _ => (by decide +kernel : kitB "list" "tuple" = some false)
  | .tuple _ => (by decide +kernel : kitB "tuple" "tuple" = some true)
  | .dict _ => (by decide +kernel : kitB "dict" "tuple" = some false)
theorem kit_lst : ∀ x : PyData, kitB (tyOf x) "list" = some (isLst x)
  | .none => (by decide +kernel : kitB "NoneType" "list" = some false)
  | .bool _ => (by decide +kernel : kitB "bool" "list" = some false)
  | .int _ => (by decide +kernel : kitB "int" "list" = some false)
  | .str _ => (by decide +kernel : kitB "str" "list" = some false)
  | .list _ => (by decide +kernel : kitB "list" "list" = some true)
  | .tuple _ => (by decide +kernel : kitB "tuple" "list" = some false)
  | .dict _ => (by decide +kernel : kitB "dict" "list" = some false)
theorem ev_isInt (he : Ev te σ H (IsD K x)) : Ev (tCB (rIsi K) (tCons te (tCons (tC (.ty "int")) tNil))) σ H (IsD K (.bool (isInt x))) := ev_isi he (kit_int x)
theorem ev_isBool (he : Ev te σ H (IsD K x)) : Ev (tCB (rIsi K) (tCons te (tCons (tC (.ty "bool")) tNil))) σ H (IsD K (.bool (isBool x))) := ev_isi he (kit_bool x)
theorem ev_isStr (he : Ev te σ H (IsD K x)) : Ev (tCB (rIsi K) (tCons te (tCons (tC (.ty "str")) tNil))) σ H (IsD K (.bool (isStr x))) := ev_isi he (kit_str x)
theorem ev_isTup (he : Ev te σ H (IsD K x)) : Ev (tCB (rIsi K) (tCons te (tCons (tC (.ty "tuple")) tNil))) σ H (IsD K (.bool (isTup x))) := ev_isi he (kit_tup x)
theorem ev_isSeq (he : Ev te σ H (IsD K x)) : Ev (tCB (rIsiT K) (tCons te (tCons (tTup (tCons (tC (.ty "list")) (tCons (tC (.ty "tuple")) tNil))) tNil))) σ H (IsD K (.bool (isLst x || isTup x))) := fun H1 e Q q =>
  he H1 e _ fun v H2 e2 hv => ⟨by show 2 ≤ sizeLine; decide, fun p hp => by
    refine ⟨v, p, [.ty "list", .ty "tuple"], _, [.type "list", .type "tuple"], isLst x || isTup x, rfl, upd_same, .cons (.ty _) (.cons (.ty _) .nil), Is.ty (Is.mono (Same.new hp) hv), ?_, q _ _ (e2.trans (Same.new hp)) (.bl _)⟩
    refine kitAny_cons (kit_ty (kit_lst x)) (fun h => ?_) (fun h => by rw [h] <;> rfl)
    rw [h]
    refine kitAny_cons (kit_ty (kit_tup x)) (fun h => ?_) (fun h => by rw [h] <;> rfl)
    rw [h]
    exact kitAny_nil⟩

theorem all1 {vs : List V} (a : AllIs K H vs [x]) : ∃ v, vs = [v] ∧ Is K H v x := by
  cases a with
  | cons h t =>
    cases t
    exact ⟨_, rfl, h⟩
theorem all2 {vs : List V} (a : AllIs K H vs [x, y]) : ∃ v u, vs = [v, u] ∧ Is K H v x ∧ Is K H u y := by
  cases a with
  | cons h t =>
    obtain ⟨u, rfl, h2⟩ := all1 t
    exact ⟨_, _, rfl, h, h2⟩
theorem all3 {vs : List V} (a : AllIs K H vs [x, y, z]) : ∃ v u w, vs = [v, u, w] ∧ Is K H v x ∧ Is K H u y ∧ Is K H w z := by
  cases a with
  | cons h t =>
    obtain ⟨u, w, rfl, h2, h3⟩ := all2 t
    exact ⟨_, _, _, rfl, h, h2, h3⟩
theorem all4 {vs : List V} {d : PyData} (a : AllIs K H vs [x, y, z, d]) : ∃ v u w t, vs = [v, u, w, t] ∧ Is K H v x ∧ Is K H u y ∧ Is K H w z ∧ Is K H t d := by
  cases a with
  | cons h t =>
    obtain ⟨u, w, t, rfl, h2, h3, h4⟩ := all3 t
    exact ⟨_, _, _, _, rfl, h, h2, h3, h4⟩
theorem Is.intV {i : Int} (h : Is K H v (.int i)) : v = .int i := by
  cases h
  rfl
theorem Is.strV {i : Str} (h : Is K H v (.str i)) : v = .str i := by
  cases h
  rfl
theorem Is.blV {i : Bool} (h : Is K H v (.bool i)) : v = .bl i := by
  cases h
  rfl
theorem Is.nonV (h : Is K H v .none) : v = .non := by
  cases h
  rfl

/-! ### comprehensions -/
def given (n : Nat) (f : Nat → Bool) (g : Nat → PyData) : List PyData := ((List.range n).filter f).map g
theorem given_yes {n : Nat} {f : Nat → Bool} {g : Nat → PyData} (h : f n = true) : given (n + 1) f g = given n f g ++ [g n] := by
  unfold given
  rw [List.range_succ, List.filter_append, List.map_append, List.filter_cons, if_pos h] <;> rfl
theorem given_no {n : Nat} {f : Nat → Bool} {g : Nat → PyData} (h : f n = false) : given (n + 1) f g = given n f g := by
  unfold given
  rw [List.range_succ, List.filter_append, List.map_append, List.filter_cons, if_neg (by rw [h]; decide)]
  show _ ++ [] = _
  rw [List.append_nil]
theorem given_len (n : Nat) (f : Nat → Bool) (g : Nat → PyData) : (given n f g).length ≤ n := by
  unfold given
  rw [List.length_map]
  have h := List.length_filter_le f (List.range n)
  rw [List.length_range] at h
  exact h
def Cw (K : Fg) (H : Hp) (f : Nat → Bool) (g : Nat → PyData) (Dl : Addr) (i : Nat) (H' : Hp) : Prop := H Dl = none ∧ Same H H' ∧ ∃ xs, H' Dl = some (.lst xs) ∧ AllIs K H' xs (given i f g) ∧ nlAll (given i f g) = true
theorem cw_start {f : Nat → Bool} {g : Nat → PyData} {Dl : Addr} (h : H Dl = none) : Cw K H f g Dl 0 (upd H Dl (.lst [])) := ⟨h, Same.new h, [], upd_same, .nil, rfl⟩
theorem cw_turn {H0 : Hp} {f : Nat → Bool} {g : Nat → PyData} {Dl : Addr} {i : Nat} {σ2 : L2.St} (p : Cw K H0 f g Dl i H) (e0 : Same H H') (hi : i < 1000000) (ht : EvT t σ2 H' (f i)) (he : f i = true → Ev te σ2 H' (IsD K (g i))) (hn : f i = true → nl (g i) = true) :
    t σ2 H' fun b H3 => if b = true then te σ2 H3 fun y H4 => ∃ acc, H4 Dl = some (.lst acc) ∧ acc.length < sizeLine ∧ Cw K H0 f g Dl (i + 1) (upd H4 Dl (.lst (acc ++ [y]))) else Cw K H0 f g Dl (i + 1) H3 := by
  obtain ⟨p1, p2, xs, p3, p4, p5⟩ := p
  refine ht H' (Same.refl _) _ fun H3 e3 => ?_
  cases hf : f i with
  | true =>
    show te σ2 H3 fun y H4 => _
    refine he hf H3 e3 _ fun y H4 e4 hy => ⟨xs, (e0.trans (e3.trans e4)) Dl _ p3, ?_, p1, Same.mut (p2.trans (e0.trans (e3.trans e4))) p1, xs ++ [y], upd_same, ?_, ?_⟩
    · rw [p4.len]
      have := given_len i f g
      rw [sizeLine_eq]
      omega
    · rw [given_yes hf]
      have hD : H4 Dl = some (.lst xs) := (e0.trans (e3.trans e4)) Dl _ p3
      exact (AllIs.monoT (SameT.of_lst hD) p5 (p4.mono (e0.trans (e3.trans e4)))).snoc (Is.monoT (SameT.of_lst hD) (hn hf) hy)
    · rw [given_yes hf, nlAll_append, p5]
      show (true && (nl (g i) && true)) = true
      rw [hn hf] <;> rfl
  | false =>
    show Cw K H0 f g Dl (i + 1) H3
    refine ⟨p1, p2.trans (e0.trans e3), xs, (e0.trans e3) Dl _ p3, ?_, ?_⟩
    · rw [given_no hf]
      exact p4.mono (e0.trans e3)
    · rw [given_no hf]
      exact p5
theorem Cw.done {H0 Hb : Hp} {f : Nat → Bool} {g : Nat → PyData} {Dl : Addr} {n : Nat} {H' : Hp} (p : Cw K H0 f g Dl n H') : H0 Dl = none ∧ Same H0 H' ∧ ∃ xs, H' Dl = some (.lst xs) ∧ AllIs K H' xs (given n f g) := let ⟨a, b, xs, c, d, _⟩ := p; ⟨a, b, xs, c, d⟩
/-- over a range from 0 -/
theorem el_lcR {ta : TA} {j : Nat} {vs : List Nat} {n : Nat} {z : Int} (f : Nat → Bool) (g : Nat → PyData) (h : EvA K ta σ H [.int z]) (hz : z.toNat = n) (hz2 : -1000000 ≤ z) (hn : n ≤ 1000000) (hw : ∀ x, wipe ((wipe σ vs).set j (some x)) vs = wipe σ vs)
    (ht : ∀ (i : Nat) H1, Same H H1 → i < n → EvT t ((wipe σ vs).set j (some (.int (i : Int)))) H1 (f i)) (he : ∀ (i : Nat) H1, Same H H1 → i < n → f i = true → Ev te ((wipe σ vs).set j (some (.int (i : Int)))) H1 (IsD K (g i))) (hnl : ∀ i, i < n → f i = true → nl (g i) = true) :
    EvL K (tLc (iRng1 ta) (gName j) t te vs) σ H (given n f g) := fun H0 e Q q => h H0 e _ fun ws H1 e1 hws => by
  cases hws with
  | cons h0 t0 =>
    cases t0
    cases h0
    refine ⟨z, rfl, by omega, by omega, fun Dl hD => ?_⟩
    refine lc_range (lo := 0) (n := z.toNat) (Cw K H1 f g Dl) (cw_start hD) (fun i H' hi p => ?_) (fun H' p => ?_)
    · have e0 : (0 : Int) + (i : Int) = (i : Int) := Int.zero_add _
      show wipe ((wipe σ vs).set j (some (.int ((0 : Int) + (i : Int))))) vs = wipe σ vs ∧ t ((wipe σ vs).set j (some (.int ((0 : Int) + (i : Int))))) H' fun b H3 => if b = true then te ((wipe σ vs).set j (some (.int ((0 : Int) + (i : Int))))) H3 fun y H4 => _ else _
      rw [e0]
      have hi' : i < n := by omega
      have e2 := (e.trans e1).trans p.2.1
      exact ⟨hw _, cw_turn p (Same.refl _) (by omega) (ht i H' e2 hi') (fun hf => he i H' e2 hi' hf) (hnl i hi')⟩
    · obtain ⟨a, b, xs, c, d⟩ := Cw.done (Hb := H1) p
      rw [hz] at d
      exact q Dl xs H' (e1.free a) (e1.trans b) c d
/-- over a list or a tuple -/
theorem el_lcS {s : PyData} {ds : List PyData} {j : Nat} {vs : List Nat} (f : PyData → Bool) (g : PyData → PyData) (hs : s = .list ds ∨ s = .tuple ds) (h : Ev tl σ H (IsD K s)) (hz : ds.length ≤ 1000000) (hw : ∀ x, wipe ((wipe σ vs).set j (some x)) vs = wipe σ vs)
    (ht : ∀ d ∈ ds, ∀ v H1, Same H H1 → Is K H1 v d → EvT t ((wipe σ vs).set j (some v)) H1 (f d)) (he : ∀ d ∈ ds, ∀ v H1, Same H H1 → Is K H1 v d → f d = true → Ev te ((wipe σ vs).set j (some v)) H1 (IsD K (g d))) (hnl : ∀ d ∈ ds, f d = true → nl (g d) = true) :
    EvL K (tLc (iSeq K tl) (gName j) t te vs) σ H ((ds.filter f).map g) := fun H0 e Q q => by
  have eg : given ds.length (fun i => f (ds.getD i .none)) (fun i => g (ds.getD i .none)) = (ds.filter f).map g := by
    have e1 : ds = (List.range ds.length).map fun i => ds.getD i .none := by
      apply List.ext_getElem?
      intro i
      rw [List.getElem?_map]
      by_cases hi : i < ds.length
      · rw [List.getElem?_range hi, List.getElem?_eq_getElem hi]
        simp [hi]
      · rw [List.getElem?_eq_none (by omega), List.getElem?_eq_none (by rw [List.length_range]; omega)]
        rfl
    conv => rhs; rw [e1, List.filter_map, List.map_map]
    rfl
  have core : ∀ (it : It) (H1 : Hp) (xs : List V), Same H0 H1 → AllIs K H1 xs ds →
      (∀ (Dl : Addr) (Qd : Hp → Prop) (Pv : Nat → Hp → Prop), Pv 0 (upd H1 Dl (.lst [])) → (∀ i H, i ≤ xs.length → Pv i H → Same H1 H) → (∀ i x H, xs[i]? = some x → Pv i H → gName j x (wipe σ vs) H fun σ2 H2 => wipe σ2 vs = wipe σ vs ∧ t σ2 H2 fun b H3 =>
        if b = true then te σ2 H3 fun y H4 => ∃ acc, H4 Dl = some (.lst acc) ∧ acc.length < sizeLine ∧ Pv (i + 1) (upd H4 Dl (.lst (acc ++ [y]))) else Pv (i + 1) H3) → (∀ H, Pv xs.length H → Qd H) →
        ∃ W : Nat → Nat → Hp → Prop, (∃ m, W 0 m (upd H1 Dl (.lst []))) ∧ ∀ i m H, W i m H → (it.stop i H ∧ Qd H) ∨ (it.go i H ∧ ∃ Nx : Hp → Prop, (∀ H', Nx H' → ∃ m', m' < m ∧ W (i + 1) m' H') ∧ ∀ x H', it.yld i H x H' → gName j x (wipe σ vs) H' fun σ2 H2 => wipe σ2 vs = wipe σ vs ∧ t σ2 H2 fun b H3 =>
          if b = true then te σ2 H3 fun y H4 => ∃ acc, H4 Dl = some (.lst acc) ∧ acc.length < sizeLine ∧ Nx (upd H4 Dl (.lst (acc ++ [y]))) else Nx H3)) →
      ∀ Dl, H1 Dl = none → ∃ W : Nat → Nat → Hp → Prop, (∃ m, W 0 m (upd H1 Dl (.lst []))) ∧ ∀ i m H, W i m H → (it.stop i H ∧ Q (.ref Dl) H) ∨ (it.go i H ∧ ∃ Nx : Hp → Prop, (∀ H', Nx H' → ∃ m', m' < m ∧ W (i + 1) m' H') ∧ ∀ x H', it.yld i H x H' → gName j x (wipe σ vs) H' fun σ2 H2 => wipe σ2 vs = wipe σ vs ∧ t σ2 H2 fun b H3 =>
          if b = true then te σ2 H3 fun y H4 => ∃ acc, H4 Dl = some (.lst acc) ∧ acc.length < sizeLine ∧ Nx (upd H4 Dl (.lst (acc ++ [y]))) else Nx H3) := by
    intro it H1 xs e1 a rule Dl hD
    refine rule Dl _ (Cw K H1 (fun i => f (ds.getD i .none)) (fun i => g (ds.getD i .none)) Dl) (cw_start hD) (fun i H _ p => p.2.1) (fun i x H' hx p => ?_) (fun H' p => ?_)
    · obtain ⟨d, hd, hxd⟩ := a.getV hx
      have hi := (List.getElem?_eq_some_iff.mp hd).1
      have hm : d ∈ ds := List.mem_of_getElem? hd
      have ed : ds.getD i .none = d := by rw [List.getD_eq_getElem?_getD, hd]; rfl
      have e2 := (e.trans e1).trans p.2.1
      have hxd' := hxd.mono p.2.1
      refine ⟨hw x, cw_turn p (Same.refl _) (by omega) ?_ ?_ ?_⟩
      · show EvT t _ H' (f (ds.getD i .none))
        rw [ed]
        exact ht d hm x H' e2 hxd'
      · show f (ds.getD i .none) = true → Ev te _ H' (IsD K (g (ds.getD i .none)))
        rw [ed]
        exact fun hf => he d hm x H' e2 hxd' hf
      · show f (ds.getD i .none) = true → nl (g (ds.getD i .none)) = true
        rw [ed]
        exact hnl d hm
    · obtain ⟨a1, b, ys, c, d⟩ := Cw.done (Hb := H1) p
      rw [a.len, eg] at d
      exact q Dl ys H' (e1.free a1) (e1.trans b) c d
  rcases hs with e' | e'
  · subst e'
    refine .inl (h H0 e _ fun v H1 e1 hv => ?_)
    cases hv with
    | @lst p xs _ s a =>
      exact ⟨p, rfl, ⟨xs, SqL.of s⟩, core (Itl K p) H1 xs e1 a fun Dl Qd Pv h0 hk hstep hd => lc_list Pv h0 (fun i H hi pv => SqL.of ((hk i H hi pv) _ _ s)) hstep hd⟩
  · subst e'
    refine .inr (h H0 e _ fun v H1 e1 hv => ?_)
    cases hv with
    | @tup p xs _ s a =>
      exact ⟨p, rfl, ⟨xs, s⟩, core (Itt K p) H1 xs e1 a fun Dl Qd Pv h0 hk hstep hd => lc_tup Pv h0 (fun i H hi pv => same_t (hk i H hi pv) s) hstep hd⟩

/-! ### loops -/
variable {D : Ends} {tu tw tz : TS} {g : TG}
theorem s_forR {ta : TA} {j : Nat} {n : Nat} (h : EvA K ta σ H [.int (n : Int)]) (hn : n ≤ 1000000) (Pv : Nat → L2.St → Hp → Prop) (h0 : ∀ H1, Same H H1 → Pv 0 σ H1)
    (hs : ∀ (i : Nat) σ' H', i < n → Pv i σ' H' → tu { D with nx := Pv (i + 1), ct := Pv (i + 1), bk := D.nx } (σ'.set j (some (.int (i : Int)))) H') (hd : ∀ σ' H', Pv n σ' H' → D.nx σ' H') : tFor (iRng1 ta) (gName j) tu D σ H :=
  h H (Same.refl H) _ fun ws H1 e hws => by
    cases hws with
    | cons h0' t0 =>
      cases t0
      cases h0'
      have en : (n : Int).toNat = n := by omega
      refine ⟨n, rfl, by omega, by omega, ?_⟩
      rw [en]
      refine for_range (lo := 0) (n := n) Pv (h0 H1 e) (fun i σ' H' hi p => ?_) hd
      have e0 : (0 : Int) + (i : Int) = (i : Int) := Int.zero_add _
      show tu { D with nx := Pv (i + 1), ct := Pv (i + 1), bk := D.nx } (σ'.set j (some (.int ((0 : Int) + (i : Int))))) H'
      rw [e0]
      exact hs i σ' H' hi p
theorem q_forR {ta : TA} {j : Nat} {n : Nat} (h : EvA K ta σ H [.int (n : Int)]) (hn : n ≤ 1000000) (Pv : Nat → L2.St → Hp → Prop) (h0 : ∀ H1, Same H H1 → Pv 0 σ H1)
    (hs : ∀ (i : Nat) σ' H', i < n → Pv i σ' H' → tu { D with nx := Pv (i + 1), ct := Pv (i + 1), bk := tz D } (σ'.set j (some (.int (i : Int)))) H') (hd : ∀ σ' H', Pv n σ' H' → tz D σ' H') : tSeq (tFor (iRng1 ta) (gName j) tu) tz D σ H :=
  s_forR (D := { D with nx := tz D }) h hn Pv h0 hs hd
/-- over a list or tuple: the turn's item told as data; Pv keeps what stood (hk) -/
theorem s_forS {s : PyData} {ds : List PyData} (hs : s = .list ds ∨ s = .tuple ds) (h : Ev tl σ H (IsD K s)) (Pv : Nat → L2.St → Hp → Prop) (Hb : Hp) (hb : Same Hb H) (h0 : ∀ H1, Same H H1 → Pv 0 σ H1)
    (hk : ∀ v, Is K H v s → True) (hl : ∀ (p : Addr) (xs : List V) H1, Same H H1 → Is K H1 (.ref p) s → (s = .list ds → H1 p = some (.lst xs)) → (s = .tuple ds → SqT K H1 p xs) → ∀ i σ' H', Pv i σ' H' → (s = .list ds → H' p = some (.lst xs)) ∧ (s = .tuple ds → SqT K H' p xs) ∧ AllIs K H' xs ds)
    (hst : ∀ (i : Nat) d v σ' H', ds[i]? = some d → Is K H' v d → Pv i σ' H' → g v σ' H' fun σ2 H2 => tu { D with nx := Pv (i + 1), ct := Pv (i + 1), bk := D.nx } σ2 H2) (hd : ∀ σ' H', Pv ds.length σ' H' → D.nx σ' H') : tFor (iSeq K tl) g tu D σ H := by
  rcases hs with e' | e'
  · subst e'
    refine .inl (h H (Same.refl _) _ fun v H1 e1 hv => ?_)
    cases hv with
    | @lst p xs _ s a =>
      have hl' := hl p xs H1 e1 (.lst s a) (fun _ => s) (fun z => by cases z)
      refine ⟨p, rfl, ⟨xs, SqL.of s⟩, for_list Pv (h0 H1 e1) (fun i σ' H' _ pv => SqL.of ((hl' i σ' H' pv).1 rfl)) (fun i x σ' H' hx pv => ?_) (fun σ' H' pv => ?_)⟩
      · obtain ⟨d, hd', hxd⟩ := (hl' i σ' H' pv).2.2.getV hx
        exact hst i d x σ' H' hd' hxd pv
      · rw [a.len] at pv
        exact hd σ' H' pv
  · subst e'
    refine .inr (h H (Same.refl _) _ fun v H1 e1 hv => ?_)
    cases hv with
    | @tup p xs _ s a =>
      have hl' := hl p xs H1 e1 (.tup s a) (fun z => by cases z) (fun _ => s)
      refine ⟨p, rfl, ⟨xs, s⟩, for_tup Pv (h0 H1 e1) (fun i σ' H' _ pv => (hl' i σ' H' pv).2.1 rfl) (fun i x σ' H' hx pv => ?_) (fun σ' H' pv => ?_)⟩
      · obtain ⟨d, hd', hxd⟩ := (hl' i σ' H' pv).2.2.getV hx
        exact hst i d x σ' H' hd' hxd pv
      · rw [a.len] at pv
        exact hd σ' H' pv
/-- the common case: Pv i keeps all that stood in H -/
theorem s_forK {s : PyData} {ds : List PyData} (hs : s = .list ds ∨ s = .tuple ds) (h : Ev tl σ H (IsD K s)) (Pv : Hp → Nat → L2.St → Hp → Prop) (h0 : ∀ H1, Same H H1 → Pv H1 0 σ H1) (hk : ∀ H1 i σ' H', Same H H1 → Pv H1 i σ' H' → Same H1 H')
    (hst : ∀ H1 (i : Nat) d v σ' H', Same H H1 → ds[i]? = some d → Is K H' v d → Pv H1 i σ' H' → g v σ' H' fun σ2 H2 => tu { D with nx := Pv H1 (i + 1), ct := Pv H1 (i + 1), bk := D.nx } σ2 H2) (hd : ∀ H1 σ' H', Same H H1 → Pv H1 ds.length σ' H' → D.nx σ' H') : tFor (iSeq K tl) g tu D σ H := by
  rcases hs with e' | e'
  · subst e'
    refine .inl (h H (Same.refl _) _ fun v H1 e1 hv => ?_)
    cases hv with
    | @lst p xs _ s a =>
      refine ⟨p, rfl, ⟨xs, SqL.of s⟩, for_list (Pv H1) (h0 H1 e1) (fun i σ' H' _ pv => SqL.of (hk H1 i σ' H' e1 pv _ _ s)) (fun i x σ' H' hx pv => ?_) (fun σ' H' pv => ?_)⟩
      · obtain ⟨d, hd', hxd⟩ := (a.mono (hk H1 i σ' H' e1 pv)).getV hx
        exact hst H1 i d x σ' H' e1 hd' hxd pv
      · rw [a.len] at pv
        exact hd H1 σ' H' e1 pv
  · subst e'
    refine .inr (h H (Same.refl _) _ fun v H1 e1 hv => ?_)
    cases hv with
    | @tup p xs _ s a =>
      refine ⟨p, rfl, ⟨xs, s⟩, for_tup (Pv H1) (h0 H1 e1) (fun i σ' H' _ pv => same_t (hk H1 i σ' H' e1 pv) s) (fun i x σ' H' hx pv => ?_) (fun σ' H' pv => ?_)⟩
      · obtain ⟨d, hd', hxd⟩ := (a.mono (hk H1 i σ' H' e1 pv)).getV hx
        exact hst H1 i d x σ' H' e1 hd' hxd pv
      · rw [a.len] at pv
        exact hd H1 σ' H' e1 pv
theorem q_forK {s : PyData} {ds : List PyData} (hs : s = .list ds ∨ s = .tuple ds) (h : Ev tl σ H (IsD K s)) (Pv : Hp → Nat → L2.St → Hp → Prop) (h0 : ∀ H1, Same H H1 → Pv H1 0 σ H1) (hk : ∀ H1 i σ' H', Same H H1 → Pv H1 i σ' H' → Same H1 H')
    (hst : ∀ H1 (i : Nat) d v σ' H', Same H H1 → ds[i]? = some d → Is K H' v d → Pv H1 i σ' H' → g v σ' H' fun σ2 H2 => tu { D with nx := Pv H1 (i + 1), ct := Pv H1 (i + 1), bk := tz D } σ2 H2) (hd : ∀ H1 σ' H', Same H H1 → Pv H1 ds.length σ' H' → tz D σ' H') : tSeq (tFor (iSeq K tl) g tu) tz D σ H :=
  s_forK (D := { D with nx := tz D }) hs h Pv h0 hk hst hd
theorem s_while (W : Nat → L2.St → Hp → Prop) (m0 : Nat) (h0 : W m0 σ H)
    (hs : ∀ m σ' H', W m σ' H' → ∃ b, EvT t σ' H' b ∧ (b = true → ∀ H1, Same H' H1 → ∃ N : L2.St → Hp → Prop, (∀ σ2 H2, N σ2 H2 → ∃ m', m' < m ∧ W m' σ2 H2) ∧ tu { D with nx := N, ct := N, bk := D.nx } σ' H1) ∧ (b = false → ∀ H1, Same H' H1 → D.nx σ' H1)) : tWhile t tu D σ H :=
  ⟨W, ⟨m0, h0⟩, fun m σ' H' hw => by
    obtain ⟨b, hb, h1, h2⟩ := hs m σ' H' hw
    refine hb H' (Same.refl H') _ fun H1 e => ?_
    cases b with
    | true => exact h1 rfl H1 e
    | false => exact h2 rfl H1 e⟩
theorem q_while (W : Nat → L2.St → Hp → Prop) (m0 : Nat) (h0 : W m0 σ H)
    (hs : ∀ m σ' H', W m σ' H' → ∃ b, EvT t σ' H' b ∧ (b = true → ∀ H1, Same H' H1 → ∃ N : L2.St → Hp → Prop, (∀ σ2 H2, N σ2 H2 → ∃ m', m' < m ∧ W m' σ2 H2) ∧ tu { D with nx := N, ct := N, bk := tz D } σ' H1) ∧ (b = false → ∀ H1, Same H' H1 → tz D σ' H1)) : tSeq (tWhile t tu) tz D σ H :=
  s_while (D := { D with nx := tz D }) W m0 h0 hs
/-- xs.append(e), the list a local one -/
theorem s_app {l : Addr} {xs : List V} (hl : H l = some (.lst xs)) (ha : Ev ta σ H (fun w _ => w = .ref l)) (h : Ev te σ H P) (hz : xs.length < 1000000) (k : ∀ v H1, Same H H1 → P v H1 → D.nx σ (upd H1 l (.lst (xs ++ [v])))) :
    tDrop (tBM K "list" rAppend ta (tCons te tNil)) D σ H := ha H (Same.refl H) _ fun w H1 e1 hw => by
  subst hw
  exact ⟨.inl ⟨rfl, xs, SqL.of (e1 l _ hl)⟩, h H1 e1 _ fun v H2 e2 hv => ⟨l, xs, v, rfl, rfl, e2 l _ (e1 l _ hl), Nat.lt_of_lt_of_le hz (big (Nat.le_refl _)), k v H2 (e1.trans e2) hv⟩⟩
theorem q_app {l : Addr} {xs : List V} (hl : H l = some (.lst xs)) (ha : Ev ta σ H (fun w _ => w = .ref l)) (h : Ev te σ H P) (hz : xs.length < 1000000) (k : ∀ v H1, Same H H1 → P v H1 → tz D σ (upd H1 l (.lst (xs ++ [v])))) :
    tSeq (tDrop (tBM K "list" rAppend ta (tCons te tNil))) tz D σ H := s_app (D := { D with nx := tz D }) hl ha h hz k
end
end K33

set_option Elab.async false
set_option linter.all false
set_option maxRecDepth 100000
set_option maxHeartbeats 4000000
/-! The text by places, what a caller needs of a def, calls. -/
namespace K33
open PySem PySem.Spec PyProof.Rows L2
def topS (i : Nat) : Stmt := PySem.Challenge.pw_leastshifts_k33_whole_fewest_stacks.main.body.getD i (.Pass ⟨0, 0, 0, 0⟩)
abbrev s_is_integer_2 : Stmt := topS 2
abbrev s_is_below : Stmt := topS 4
abbrev s_is_plain : Stmt := topS 5
abbrev s_is_kind : Stmt := topS 6
abbrev s_are_rising_below : Stmt := topS 7
abbrev s_are_places : Stmt := topS 8
abbrev s_stays_of : Stmt := topS 10
abbrev s_is_cut_by : Stmt := topS 11
abbrev s_are_apart : Stmt := topS 12
abbrev s_clashes_of : Stmt := topS 13
abbrev s_all_clash : Stmt := topS 14
abbrev s_crowd_of : Stmt := topS 15
abbrev s_parting_into : Stmt := topS 16
abbrev s_is_integer_20 : Stmt := topS 20
abbrev s_is_number : Stmt := topS 22
abbrev s_is_sequence : Stmt := topS 23
abbrev s_is_name : Stmt := topS 24
abbrev s_are_unlike : Stmt := topS 25
abbrev s_InvalidDay_init : Stmt := inClass (topS 29) 0
abbrev s_as_stacks : Stmt := topS 34
abbrev s_Yard_init : Stmt := inClass (topS 35) 0
abbrev s_boxes_of : Stmt := topS 37
abbrev s_is_event : Stmt := topS 41
abbrev s_as_events : Stmt := topS 42
abbrev s_Day_init : Stmt := inClass (topS 43) 0
abbrev s_stays_in : Stmt := topS 45
abbrev s_table_of : Stmt := topS 48
abbrev s_least_parting : Stmt := topS 49
abbrev s_fewest_stacks : Stmt := topS 50
abbrev s_fewest_claim : Stmt := topS 51
abbrev s_fewest_paper : Stmt := topS 52
abbrev s_shows_least : Stmt := topS 53
abbrev s_fewest_holds : Stmt := topS 54
abbrev s_law_cell : Stmt := topS 56
abbrev s_law_row : Stmt := topS 57
abbrev s_law_is_integer : Stmt := topS 58
abbrev s_law_names : Stmt := topS 59
abbrev s_law_boxes : Stmt := topS 60
abbrev s_law_events : Stmt := topS 61
abbrev s_law_stays : Stmt := topS 62
abbrev s_law_clash : Stmt := topS 63
abbrev s_law_least : Stmt := topS 64
abbrev s_law_is_crowd : Stmt := topS 65
abbrev s_law_has_crowd : Stmt := topS 66
abbrev s_law_fewest_paper : Stmt := topS 67
abbrev s_law_round : Stmt := topS 68
abbrev s_law_free : Stmt := topS 69
abbrev s_law_same : Stmt := topS 70
abbrev s_law_is_flat : Stmt := topS 71
abbrev s_law_says : Stmt := topS 72
abbrev s_law_no_events : Stmt := topS 73
abbrev s_law_refused : Stmt := topS 74
abbrev s_law_whole : Stmt := topS 75
abbrev s_law : Stmt := topS 76
/-! comprehensions within others, by place -/
def lcS : Expr → Scope
  | .ListComp _ _ sc _ => sc
  | _ => { kind := .function, names := [], isGenerator := false, isCoroutine := false }
def retE : List Stmt → Expr
  | .Return (some e) _ :: _ => e
  | _ => .Constant .none 0 ⟨0, 0, 0, 0⟩
def crowdE (b : List Stmt) : Expr := match b with
  | [_, .For _ _ [_, .For _ _ [_, .Expr (.Call _ [e] _ _) _] _ _, _] _ _, _] => e
  | _ => .Constant .none 0 ⟨0, 0, 0, 0⟩

/-! the rules with the written part named -/
section
variable {X : Cx} {K : Fg}
theorem op_addK (e : X.K = K) : OpR X (binaryOp .Add) (rAddU K) := by subst e; exact op_addU
theorem sl_K (e : X.K = K) : SlR X (rSlU K) := by subst e; exact sl_U
theorem op_eqK (e : X.K = K) (hu : X.A.units + 64 < cLine) : OpR X (compareOp .Eq) (rEqU K) := by subst e; exact op_eqU hu
theorem op_neK (e : X.K = K) (hu : X.A.units + 64 < cLine) : OpR X (compareOp .NotEq) (rNeU K) := by subst e; exact op_neU hu
theorem in_K (e : X.K = K) : OpR X (compareOp .In) (rIn K false) := by subst e; exact op_in_seq
theorem notIn_K (e : X.K = K) : OpR X (compareOp .NotIn) (rIn K true) := by subst e; exact op_notIn_seq
theorem ix_K (e : X.K = K) : IxR X (rIx K) := by subst e; exact ix_seq
theorem len_K (e : X.K = K) : CallR X (.builtin "len") (rLenU K) := by subst e; exact call_lenU
theorem tup_K (e : X.K = K) : CallR X (.type "tuple") (rTupOf K) := by subst e; exact call_tupU
theorem lst_K (e : X.K = K) : CallR X (.type "list") (rLstOf K) := by subst e; exact call_lstU
theorem all_K (e : X.K = K) (hc : X.calm = true) : CallR X (.builtin "all") (rAll K) := by subst e; exact cr_all hc
theorem any_K (e : X.K = K) (hc : X.calm = true) : CallR X (.builtin "any") (rAny K) := by subst e; exact cr_any hc
theorem max_K (e : X.K = K) (hc : X.calm = true) : CallR X (.builtin "max") (rMax K) := by subst e; exact cr_max hc
theorem min_K (e : X.K = K) (hc : X.calm = true) : CallR X (.builtin "min") (rMin K) := by subst e; exact cr_min hc
theorem isi_K (e : X.K = K) : CallR X (.builtin "isinstance") (rIsi K) := by subst e; exact call_isi
theorem isiT_K (e : X.K = K) : CallR X (.builtin "isinstance") (rIsiT K) := by subst e; exact call_isiT
theorem extT_K (e : X.K = K) : MtR X "list.extend" (rExtT K) := by subst e; exact mt_extT
theorem seq_K (e : X.K = K) {tg l : Expr} {tl : TE} (hl : PE X l tl) : PI X tg l (iSeq K tl) := by subst e; exact pi_seq hl
theorem enum_K (e : X.K = K) {a : Expr} {ta : TA} {p pos tpos : Pos} {elts : List Expr} {kk : Nat} (hg : Gl X "enumerate") (hm : X.mg "enumerate" = none) (ha : PA X [a] ta) (hs : starEach [a] X.env = [(false, eval a X.env)] := by rfl) :
    PI X (.Tuple elts kk tpos) (.Call (.Name "enumerate" p) [a] [] pos) (iEnum K ta) := by subst e; exact pi_enum hg hm ha hs
theorem enumT_K (e : X.K = K) {a : Expr} {ta : TA} {p pos tpos : Pos} {elts : List Expr} {kk : Nat} (hg : Gl X "enumerate") (hm : X.mg "enumerate" = none) (ha : PA X [a] ta) (hs : starEach [a] X.env = [(false, eval a X.env)] := by rfl) :
    PI X (.Tuple elts kk tpos) (.Call (.Name "enumerate" p) [a] [] pos) (iEnumT K ta) := by subst e; exact pi_enumT hg hm ha hs
theorem tupg_K (e : X.K = K) {es : List Expr} {k : Nat} {t : TGs} {n : Nat} {pos : Pos} (hc : X.calm = true) (h : PGs X es t)
    (hn : (assignEach es X.env).length = n := by rfl) (hst : (assignEach es X.env).findIdx? (·.1) = none := by rfl) : PG X (.Tuple es k pos) (gTup K n t) := by subst e; exact pg_tup hc h hn hst
def tTruK (K : Fg) (ta : TE) : TT := fun σ H Q => ta σ H fun x H' => ∃ k, TruV K x H' k ∧ Q k H'
theorem tru_K (e : X.K = K) {a : Expr} {ta : TE} (ha : PE X a ta) (he : ∀ whole, isTrue a X.env whole = (do let v ← whole; standAt a.pos; holding [v] (truthy v))) : PT X a (tTruK K ta) := by subst e; exact pt_truth ha he
theorem fld_K (e : X.K = K) {a : Expr} {f : Str} {pos : Pos} {ta : TE} (he : PE X a ta) (hb : attributeBase a f X.env (eval a X.env) = eval a X.env) : PE X (.Attribute a f pos) (tFld K ta f) := by subst e; exact pe_fld he hb
variable {o e : Expr} {es : List Expr} {to : TE} {t : TA} {name : Str} {apos cpos : Pos} {T id : String} {r : V → List V → Hp → VK → Prop}
theorem bm_K (hK : X.K = K) (pa : PlainAttrs T) (slot : Slot T name id) (hty : typeOf (.builtin id) = pure (.type "method_descriptor")) (hm : MtR X id r) (ho : PE X o to) (ha : PA X (e :: es) t)
    (hbase : attributeBase o name X.env (eval o X.env) = eval o X.env := by rfl)
    (hfew : ((backTo cpos (starEach (e :: es) X.env)).all (fun x => !x.1) && (backToKw cpos (keywordEach [] X.env)).all (fun x => x.1.isSome)
      && decide ((e :: es).length + ([] : List Keyword).length + (if ([] : List Keyword).isEmpty then 0 else 1) < 30)) = true := by rfl)
    (hline : (apos.endLine == cpos.line) = true := by rfl) (he : starEach (e :: es) X.env = (false, eval e X.env) :: starEach es X.env := by rfl) (hpl : (backTo cpos (starEach es X.env)).any (·.1) = false := by rfl) :
    PE X (.Call (.Attribute o name apos) (e :: es) [] cpos) (tBM K T r to t) := by subst hK; exact pe_bm pa slot hty hm ho ha hbase hfew hline he hpl
theorem bm0_K (hK : X.K = K) (pa : PlainAttrs T) (slot : Slot T name id) (hty : typeOf (.builtin id) = pure (.type "method_descriptor")) (hm : MtR X id r) (ho : PE X o to)
    (hbase : attributeBase o name X.env (eval o X.env) = eval o X.env := by rfl) (hline : (apos.endLine == cpos.line) = true := by rfl) :
    PE X (.Call (.Attribute o name apos) [] [] cpos) (tBM0 K T r to) := by subst hK; exact pe_bm0 pa slot hty hm ho hbase hline
end

/-- the built-ins stand -/
structure Blt (mg : Str → Option Value) : Prop where
  len : mg "len" = none
  isinstance : mg "isinstance" = none
  int : mg "int" = none
  bool : mg "bool" = none
  str : mg "str" = none
  tuple : mg "tuple" = none
  list : mg "list" = none
  all : mg "all" = none
  any : mg "any" = none
  max : mg "max" = none
  min : mg "min" = none
  range : mg "range" = none
  enumerate : mg "enumerate" = none
  ve : mg "ValueError" = none
  sup : mg "super" = none

/-- a def as its callers take it: at the module's name x -/
structure Fn (P : Program) (w : World) (K : Fg) (mg : Str → Option Value) (base : Heap) (CX : CXT) (k : Nat) (x : Str) (ps : List Str) (sp : Sp) : Prop where
  ex : ∃ f fd, FnOk P w K mg base CX k f fd ps sp ∧ mg x = some (.ref f) ∧ PySem.W.keepIn K (.ref f) = true ∧ Binds K fd ps []
theorem pe_fn {X : Cx} {CX : CXT} {k : Nat} {x : Str} {ps : List Str} {sp : Sp} {e : Expr} {es : List Expr} {t : TA} {p pos : Pos} (G : Fn X.prog X.w X.K X.mg X.base CX k x ps sp) (hr : Room k X.A) (hg : Gl X x) (hx : Passes CX X E0) (ha : PA X (e :: es) t)
    (hdb : (x == ("__debug__" : Str)) = false := by decide) (he : starEach (e :: es) X.env = (false, eval e X.env) :: starEach es X.env := by rfl) (hpl : (backTo pos (starEach es X.env)).any (·.1) = false := by rfl) :
    PE X (.Call (.Name x p) (e :: es) [] pos) (tCall sp [] E0 t) := by
  obtain ⟨f, fd, F, gf, kf, b⟩ := G.ex
  exact pe_call F hr hg gf kf b .nil hx ha hdb he hpl
/-- every parameter by its keyword: no positional value -/
def gKw {α : Type} : List α → List α → List α
  | [], ws => ws
  | _ :: _, _ => []
structure FnK (P : Program) (w : World) (K : Fg) (mg : Str → Option Value) (base : Heap) (CX : CXT) (k : Nat) (x : Str) (ps : List Str) (sp : Sp) : Prop where
  ex : ∃ f fd, FnOk P w K mg base CX k f fd ps sp ∧ mg x = some (.ref f) ∧ PySem.W.keepIn K (.ref f) = true ∧ KBinds K fd ps ps gKw gKw
theorem pe_fnK {X : Cx} {CX : CXT} {k : Nat} {x : Str} {ps : List Str} {sp : Sp} {kws : List Keyword} {t : TA} {p pos : Pos} (G : FnK X.prog X.w X.K X.mg X.base CX k x ps sp) (hr : Room k X.A) (hg : Gl X x) (hx : Passes CX X E0) (ha : PK X kws t)
    (hall : (backToKw pos (keywordEach kws X.env)).all (·.1.isSome) = true := by rfl) (hks : (backToKw pos (keywordEach kws X.env)).filterMap (·.1) = ps := by rfl)
    (hdb : (x == ("__debug__" : Str)) = false := by decide) (hpl : ((backTo pos (starEach [] X.env)).any (·.1) || (backToKw pos (keywordEach kws X.env)).any (·.1.isNone)) = false := by rfl) :
    PE X (.Call (.Name x p) [] kws pos) (tCall sp [] E0 t) := by
  obtain ⟨f, fd, F, gf, kf, b⟩ := G.ex
  have h := pe_callK0 (p := p) (pos := pos) (tk := t) (E := E0) F hr hg gf kf b hx ha hall hks hdb hpl
  refine ⟨fun pins s σ H Q I q => h.run pins s σ H Q I ?_⟩
  show t σ H fun zs H2 => sp zs H2 Q E0
  have e : (fun (vs : List V) (H1 : Hp) => sp (vs ++ []) H1 Q E0) = fun zs H2 => sp zs H2 Q E0 := by
    funext vs H1
    rw [List.append_nil]
  have q' : t σ H fun vs H1 => sp (vs ++ []) H1 Q E0 := q
  rw [e] at q'
  exact q'

/-! name = {k: v for ..} on one line -/
section
variable {X : Cx}
theorem ps_setDc {i : Nat} {y : Str} {py : Pos} {kx vx tg iter : Expr} {ifs : List Expr} {scope : Scope} {own : List (Str × Nat)} {pos spos : Pos} {wi : TI} {g : TG} {tt : TT} {tk tv : TE} (hc : X.calm = true) (hN : X.N.Nodup) (hy : X.N[i]? = some y) (hyl : X.env.scope.names.lookup y = some .local)
    (hsw : swapsWith (.DictComp kx vx [⟨tg, iter, ifs, 0⟩] scope pos) (some (.Name y py)) spos.line X.env = pure true) (hi : PI X tg iter wi) (ok : BlkOk X.N X.env.scope scope own)
    (hg : ∀ (s : Shared) (H : Hp) (C : Addr) (cl : List (Str × Addr)) (fp : List Addr), PG (X.blk s H scope (compEnvC scope cl C X.env) fp) tg g) (ht : ∀ (s : Shared) (H : Hp) (C : Addr) (cl : List (Str × Addr)) (fp : List Addr), PTs (X.blk s H scope (compEnvC scope cl C X.env) fp) ifs tt)
    (hk : ∀ (s : Shared) (H : Hp) (C : Addr) (cl : List (Str × Addr)) (fp : List Addr), PE (X.blk s H scope (compEnvC scope cl C X.env) fp) kx tk)
    (he : ∀ (s : Shared) (H : Hp) (C : Addr) (cl : List (Str × Addr)) (fp : List Addr), PE (X.blk s H scope (compEnvC scope cl C X.env) fp) vx tv) (hs : ∀ x, foldedSetIterable iter X.env x = pure x := by intro _; rfl) :
    PS X (.Assign [.Name y py] (.DictComp kx vx [⟨tg, iter, ifs, 0⟩] scope pos) spos) (tAsg (tDc wi g tt tk tv (own.map (·.2))) (gName i)) := by
  refine ⟨fun pins s σ H D I h => ?_⟩
  rw [exec_Assign_Name_used _ _ _ _ hsw]
  refine wpAny_bind (wpAny_standAt (wpAny_bind ?_))
  show wpAny _ X.A (do let _ ← comprehension (.DictComp kx vx [⟨tg, iter, ifs, 0⟩] scope pos) scope X.env (firstIterPos [⟨tg, iter, ifs, 0⟩] pos) newDict false (eval iter X.env) (some (assign (.Name y py) X.env))) _ _ s
  have h : tDc wi g tt tk tv (own.map (·.2)) σ H (fun x H1 => gName i x σ H1 D.nx) := h
  refine wpAny_bind (thn (dc_core (Qf := fun _ s' => SP X pins D .next s') hc hN I hi ok hg ht hk he hs h fun L C s' m H' I' q hn f => ?_) fun _ s' hq => wpAny_pure (wpAny_pure hq))
  show wpAny _ _ (assign (.Name y py) X.env (.ref L)) _ _ _
  refine wpAny_assign_Name (store_ok2 (v := V.ref L) I' hN hy (.inl hyl) rfl (fun s2 I2 ⟨a, sb, ha⟩ => ?_) (.inr hyl))
  obtain ⟨f0, f1, f2, f3, f4, f5⟩ := f
  have haC : C ≠ a := by
    rcases ha with z | z
    · rw [z]; exact f1
    · exact fun e => f4 y a z e.symm
  refine ⟨m, hn.sameBut sb haC, fun h3 sb3 => ?_⟩
  exact ⟨_, H', I2.turned (t' := s2.toks) (fun b o hb e => (sb3.2 b hb).trans e) f0 f1 f3 f4 f5, q⟩
theorem sw_trueD {kx vx : Expr} {gs : List Comprehension} {scope : Scope} {pos py : Pos} {y : Str} {l : Nat} {env : Env} (hk : env.scope.kind = .function) (hy : env.scope.names.lookup y = some .local) (hl : (py.line == pos.line) = true)
    (ha : (scope.names.any fun (n, k) => n == y && (k == .local || k == .cell)) = false) : swapsWith (.DictComp kx vx gs scope pos) (some (.Name y py)) l env = pure true := by
  have ky : env.kindOf y = some .local := hy
  have hb : env.blockKind = .function := by unfold Env.blockKind; rw [hk]; rfl
  unfold swapsWith
  simp only [hb, ky, ha, Expr.pos, hl]
  rfl
end
/-- the promise's arguments are as many as the parameters -/
theorem spd_len {K : Fg} {Pre : List PyData → (PyData → Prop) → Prop} {n : Nat} (h : ∀ ds Post, Pre ds Post → ds.length = n) : ∀ vs H Q E, SpD K Pre vs H Q E → vs.length = n := fun vs H Q E ⟨ds, Post, a, p, _⟩ => by
  rw [a.len]
  exact h ds Post p
end K33

set_option Elab.async false
set_option linter.all false
set_option maxRecDepth 100000
set_option maxHeartbeats 4000000
/-! More over data: tests, returns, enumerate, nested lists. -/
namespace K33
open PySem PySem.Spec PyProof.Rows L2
abbrev Pr := List PyData → (PyData → Prop) → Prop
section
variable {K : Fg} {σ : L2.St} {H : Hp} {te : TE}
theorem et_truL {l : Addr} {xs : List V} (hl : H l = some (.lst xs)) (ha : Ev te σ H (fun w _ => w = .ref l)) : EvT (tTruK K te) σ H (!xs.isEmpty) := fun H1 e Q q => ha H1 e _ fun w H2 e2 hw => by
  subst hw
  exact ⟨_, .inl ⟨xs, SqL.of ((e.trans e2) _ _ hl), rfl⟩, q H2 e2⟩
theorem et_truS {s : PyData} {ds : List PyData} (hs : s = .list ds ∨ s = .tuple ds) (ha : Ev te σ H (IsD K s)) : EvT (tTruK K te) σ H (!ds.isEmpty) := fun H1 e Q q => ha H1 e _ fun w H2 e2 hw => by
  obtain ⟨p, xs, rfl, a, hp⟩ := Is.seq hs hw
  have el : xs.isEmpty = ds.isEmpty := by
    cases a <;> rfl
  rcases hp with ⟨_, hp⟩ | ⟨_, hp⟩
  · exact ⟨_, .inl ⟨xs, SqL.of hp, by rw [el]⟩, q H2 e2⟩
  · exact ⟨_, .inr (.inl ⟨xs, hp, by rw [el]⟩), q H2 e2⟩
theorem s_one {D : Ends} {i : Nat} {P : VP} (h : Ev te σ H P) (k : ∀ v H1 l, Same H H1 → P v H1 → H1 l = none → D.nx (σ.set i (some (.ref l))) (upd H1 l (.lst [v]))) : tAsg (tLst (tCons te tNil)) (gName i) D σ H := h H (Same.refl H) _ fun v H1 e p => ⟨(by show 1 ≤ sizeLine; rw [sizeLine_eq]; decide), fun l hl => k v H1 l e p hl⟩
theorem q_one {D : Ends} {tz : TS} {i : Nat} {P : VP} (h : Ev te σ H P) (k : ∀ v H1 l, Same H H1 → P v H1 → H1 l = none → tz D (σ.set i (some (.ref l))) (upd H1 l (.lst [v]))) : tSeq (tAsg (tLst (tCons te tNil)) (gName i)) tz D σ H := s_one (D := { D with nx := tz D }) h k
theorem s_when {t : TT} {D : Ends} {tu : TS} {σ : L2.St} {b : Bool} (h : EvT t σ H b) (h1 : b = true → ∀ H1, Same H H1 → tu D σ H1) (h2 : b = false → ∀ H1, Same H H1 → D.nx σ H1) : tIfS t tu tNext D σ H := s_if h h1 h2
theorem et_eqb {tt : TT} {a b : Bool} (h : EvT tt σ H a) (e : a = b) : EvT tt σ H b := e ▸ h
theorem s_retD {D : Ends} {d d' : PyData} (h : Ev te σ H (IsD K d)) (e : d = d') (k : ∀ v H1, Same H H1 → Is K H1 v d' → D.rt v H1) : tRet te D σ H := by
  subst e
  exact s_ret h k
theorem s_retB {D : Ends} {b b' : Bool} (e : b = b') (k : ∀ v H1, Same H H1 → Is K H1 v (.bool b') → D.rt v H1) : tRet (tC (.bl b)) D σ H := s_retD ev_bl (by rw [e]) k
theorem s_retN {D : Ends} {d : PyData} (e : .none = d) (k : ∀ v H1, Same H H1 → Is K H1 v d → D.rt v H1) : tRet (tC .non) D σ H := s_retD ev_non e k
/-! all, any of a display -/
theorem et_yes : EvT tYes σ H true := fun H1 _ _ q => q H1 (Same.refl _)
variable {tl ta : TE} {tr : TA}
theorem el_mapS {s : PyData} {ds : List PyData} {j : Nat} {vs : List Nat} (g : PyData → PyData) (hs : s = .list ds ∨ s = .tuple ds) (h : Ev tl σ H (IsD K s)) (hz : ds.length ≤ 1000000) (hw : ∀ x, wipe ((wipe σ vs).set j (some x)) vs = wipe σ vs)
    (he : ∀ d ∈ ds, ∀ v H1, Same H H1 → Is K H1 v d → Ev te ((wipe σ vs).set j (some v)) H1 (IsD K (g d))) (hnl : ∀ d ∈ ds, nl (g d) = true) : EvL K (tLc (iSeq K tl) (gName j) tYes te vs) σ H (ds.map g) := by
  have e : ds.map g = (ds.filter fun _ => true).map g := by rw [List.filter_eq_self.mpr (fun _ _ => rfl)]
  rw [e]
  exact el_lcS (fun _ => true) g hs h hz hw (fun _ _ _ _ _ _ => et_yes) (fun d hd v H1 e hv _ => he d hd v H1 e hv) (fun d hd _ => hnl d hd)
theorem el_mapR {j : Nat} {vs : List Nat} {n : Nat} {z : Int} (g : Nat → PyData) (h : EvA K tr σ H [.int z]) (hz : z.toNat = n) (hz2 : -1000000 ≤ z) (hn : n ≤ 1000000) (hw : ∀ x, wipe ((wipe σ vs).set j (some x)) vs = wipe σ vs)
    (he : ∀ (i : Nat) H1, Same H H1 → i < n → Ev te ((wipe σ vs).set j (some (.int (i : Int)))) H1 (IsD K (g i))) (hnl : ∀ i, i < n → nl (g i) = true) : EvL K (tLc (iRng1 tr) (gName j) tYes te vs) σ H ((List.range n).map g) := by
  have e : (List.range n).map g = given n (fun _ => true) g := by unfold given; rw [List.filter_eq_self.mpr (fun _ _ => rfl)]
  rw [e]
  exact el_lcR (fun _ => true) g h hz hz2 hn hw (fun _ _ _ _ => et_yes) (fun i H1 e hi _ => he i H1 e hi) (fun i hi _ => hnl i hi)
theorem ev_allS {s : PyData} {ds : List PyData} {j : Nat} {vs : List Nat} (f : PyData → Bool) (hs : s = .list ds ∨ s = .tuple ds) (h : Ev tl σ H (IsD K s)) (hz : ds.length ≤ 1000000) (hw : ∀ x, wipe ((wipe σ vs).set j (some x)) vs = wipe σ vs)
    (he : ∀ d ∈ ds, ∀ v H1, Same H H1 → Is K H1 v d → Ev te ((wipe σ vs).set j (some v)) H1 (IsD K (.bool (f d)))) : Ev (tCB (rAll K) (tCons (tLc (iSeq K tl) (gName j) tYes te vs) tNil)) σ H (IsD K (.bool (ds.all f))) := by
  refine ev_is (ev_all (bs := ds.map f) (ev_is (el_mapS (fun d => .bool (f d)) hs h hz hw he (fun _ _ => rfl)).ev ?_)) ?_
  · rw [List.map_map]
    rfl
  · rw [List.all_map]
    rfl
theorem ev_anyS {s : PyData} {ds : List PyData} {j : Nat} {vs : List Nat} (f : PyData → Bool) (hs : s = .list ds ∨ s = .tuple ds) (h : Ev tl σ H (IsD K s)) (hz : ds.length ≤ 1000000) (hw : ∀ x, wipe ((wipe σ vs).set j (some x)) vs = wipe σ vs)
    (he : ∀ d ∈ ds, ∀ v H1, Same H H1 → Is K H1 v d → Ev te ((wipe σ vs).set j (some v)) H1 (IsD K (.bool (f d)))) : Ev (tCB (rAny K) (tCons (tLc (iSeq K tl) (gName j) tYes te vs) tNil)) σ H (IsD K (.bool (ds.any f))) := by
  refine ev_is (ev_any (bs := ds.map f) (ev_is (el_mapS (fun d => .bool (f d)) hs h hz hw he (fun _ _ => rfl)).ev ?_)) ?_
  · rw [List.map_map]
    rfl
  · rw [List.any_map]
    rfl
theorem ev_allR {j : Nat} {vs : List Nat} {n : Nat} {z : Int} (f : Nat → Bool) (h : EvA K tr σ H [.int z]) (hz : z.toNat = n) (hz2 : -1000000 ≤ z) (hn : n ≤ 1000000) (hw : ∀ x, wipe ((wipe σ vs).set j (some x)) vs = wipe σ vs)
    (he : ∀ (i : Nat) H1, Same H H1 → i < n → Ev te ((wipe σ vs).set j (some (.int (i : Int)))) H1 (IsD K (.bool (f i)))) : Ev (tCB (rAll K) (tCons (tLc (iRng1 tr) (gName j) tYes te vs) tNil)) σ H (IsD K (.bool ((List.range n).all f))) := by
  refine ev_is (ev_all (bs := (List.range n).map f) (ev_is (el_mapR (fun d => .bool (f d)) h hz hz2 hn hw he (fun _ _ => rfl)).ev ?_)) ?_
  · rw [List.map_map]
    rfl
  · rw [List.all_map]
    rfl
theorem ev_anyR {j : Nat} {vs : List Nat} {n : Nat} {z : Int} (f : Nat → Bool) (h : EvA K tr σ H [.int z]) (hz : z.toNat = n) (hz2 : -1000000 ≤ z) (hn : n ≤ 1000000) (hw : ∀ x, wipe ((wipe σ vs).set j (some x)) vs = wipe σ vs)
    (he : ∀ (i : Nat) H1, Same H H1 → i < n → Ev te ((wipe σ vs).set j (some (.int (i : Int)))) H1 (IsD K (.bool (f i)))) : Ev (tCB (rAny K) (tCons (tLc (iRng1 tr) (gName j) tYes te vs) tNil)) σ H (IsD K (.bool ((List.range n).any f))) := by
  refine ev_is (ev_any (bs := (List.range n).map f) (ev_is (el_mapR (fun d => .bool (f d)) h hz hz2 hn hw he (fun _ _ => rfl)).ev ?_)) ?_
  · rw [List.map_map]
    rfl
  · rw [List.any_map]
    rfl
end
end K33

set_option Elab.async false
set_option linter.all false
set_option maxRecDepth 100000
set_option maxHeartbeats 4000000
/-! Walks over data, whatever iterator gives them. -/
namespace K33
open PySem PySem.Spec PyProof.Rows L2
/-- in heaps of C the iterator gives the data ds, one after another -/
def Walk (K : Fg) (J : It) (C : Hp → Prop) (ds : List PyData) : Prop := ∀ (i : Nat) H, C H → (∀ d, ds[i]? = some d → J.go i H ∧ ∀ x H', J.yld i H x H' → Same H H' ∧ Is K H' x d) ∧ (i = ds.length → J.stop i H)
def EvW (K : Fg) (C : Hp → Hp → Prop) (wi : TI) (σ : L2.St) (H : Hp) (ds : List PyData) : Prop := ∀ H1, Same H H1 → ∀ R : It → Hp → Prop, (∀ J H2, Same H1 H2 → Walk K J (C H2) ds → R J H2) → wi σ H1 R
def enumD (ds : List PyData) : List PyData := (List.range ds.length).map fun (i : Nat) => .tuple [.int (i : Int), ds.getD i .none]
theorem enumD_get {ds : List PyData} {i : Nat} {d : PyData} (h : (enumD ds)[i]? = some d) : ∃ x, ds[i]? = some x ∧ d = .tuple [.int (i : Int), x] := by
  unfold enumD at h
  rw [List.getElem?_map] at h
  by_cases hi : i < ds.length
  · rw [List.getElem?_range hi] at h
    refine ⟨ds[i], List.getElem?_eq_getElem hi, ?_⟩
    have e : ds.getD i .none = ds[i] := by simp [hi]
    simp at h
    rw [← h, ← e]
    simp
  · rw [List.getElem?_eq_none (by rw [List.length_range]; omega)] at h
    cases h
theorem enumD_len (ds : List PyData) : (enumD ds).length = ds.length := by
  unfold enumD
  rw [List.length_map, List.length_range]
section
variable {K : Fg} {σ : L2.St} {H H' : Hp} {ta tb te tx tl : TE} {tr : TA} {t u : TT} {x y z d : PyData} {v : V} {P : VP} {C : Hp → Hp → Prop}
theorem EvW.mono {wi : TI} {ds : List PyData} (e : Same H H') (h : EvW K C wi σ H ds) : EvW K C wi σ H' ds := fun H1 a R q => h H1 (e.trans a) R q
theorem walk_rng {lo : Int} {n : Nat} {C : Hp → Prop} : Walk K (Itr lo n) C ((List.range n).map fun (i : Nat) => .int (lo + i)) := fun i H _ => by
  refine ⟨fun d hd => ?_, fun e => by
    rw [List.length_map, List.length_range] at e
    exact Nat.le_of_eq e.symm⟩
  rw [List.getElem?_map] at hd
  by_cases hi : i < n
  · rw [List.getElem?_range hi] at hd
    cases hd
    refine ⟨hi, fun x H' ⟨e, ex⟩ => ?_⟩
    subst e ex
    exact ⟨Same.refl _, .int _⟩
  · rw [List.getElem?_eq_none (by rw [List.length_range]; omega)] at hd
    cases hd
theorem walk_list {p : Addr} {xs : List V} {ds : List PyData} {C : Hp → Prop} (hC : ∀ H, C H → H p = some (.lst xs) ∧ AllIs K H xs ds) : Walk K (Itl K p) C ds := fun i H hc => by
  obtain ⟨hp, a⟩ := hC H hc
  refine ⟨fun d hd => ?_, fun e => ⟨xs, SqL.of hp, by rw [a.len, e]; exact Nat.le_refl _⟩⟩
  obtain ⟨w, hw, hwd⟩ := a.get hd
  refine ⟨⟨xs, w, SqL.of hp, hw⟩, fun x H' ⟨e, ex⟩ => ?_⟩
  subst e
  have := (ex xs (SqL.of hp)).symm.trans hw
  cases this
  exact ⟨Same.refl _, hwd⟩
theorem walk_tup {p : Addr} {xs : List V} {ds : List PyData} {C : Hp → Prop} (hC : ∀ H, C H → SqT K H p xs ∧ AllIs K H xs ds) : Walk K (Itt K p) C ds := fun i H hc => by
  obtain ⟨hp, a⟩ := hC H hc
  refine ⟨fun d hd => ?_, fun e => ⟨xs, hp, by rw [a.len, e]; exact Nat.le_refl _⟩⟩
  obtain ⟨w, hw, hwd⟩ := a.get hd
  refine ⟨⟨xs, w, hp, hw⟩, fun x H' ⟨e, ex⟩ => ?_⟩
  subst e
  have := (ex xs hp).symm.trans hw
  cases this
  exact ⟨Same.refl _, hwd⟩
theorem walk_enumL {p : Addr} {xs : List V} {ds : List PyData} {C : Hp → Prop} (hC : ∀ H, C H → H p = some (.lst xs) ∧ AllIs K H xs ds) : Walk K (Ite K p) C (enumD ds) := fun i H hc => by
  obtain ⟨hp, a⟩ := hC H hc
  refine ⟨fun d hd => ?_, fun e => ⟨xs, SqL.of hp, by rw [a.len, e, enumD_len]; exact Nat.le_refl _⟩⟩
  obtain ⟨d', hd', rfl⟩ := enumD_get hd
  obtain ⟨w, hw, hwd⟩ := a.get hd'
  refine ⟨⟨xs, w, SqL.of hp, hw⟩, fun x H' ⟨T, x', e, hT, e2, ex⟩ => ?_⟩
  subst e e2
  have := (ex xs (SqL.of hp)).symm.trans hw
  cases this
  exact ⟨Same.new hT, .tup (SqT.of upd_same) (.cons (.int _) (.cons (hwd.mono (Same.new hT)) .nil))⟩
theorem walk_enumT {p : Addr} {xs : List V} {ds : List PyData} {C : Hp → Prop} (hC : ∀ H, C H → SqT K H p xs ∧ AllIs K H xs ds) : Walk K (IteT K p) C (enumD ds) := fun i H hc => by
  obtain ⟨hp, a⟩ := hC H hc
  refine ⟨fun d hd => ?_, fun e => ⟨xs, hp, by rw [a.len, e, enumD_len]; exact Nat.le_refl _⟩⟩
  obtain ⟨d', hd', rfl⟩ := enumD_get hd
  obtain ⟨w, hw, hwd⟩ := a.get hd'
  refine ⟨⟨xs, w, hp, hw⟩, fun x H' ⟨T, x', e, hT, e2, ex⟩ => ?_⟩
  subst e e2
  have := (ex xs hp).symm.trans hw
  cases this
  exact ⟨Same.new hT, .tup (SqT.of upd_same) (.cons (.int _) (.cons (hwd.mono (Same.new hT)) .nil))⟩
theorem walk_str {s : Str} {C : Hp → Prop} : Walk K (Its s) C (s.cps.toList.map fun c => .str ⟨#[c]⟩) := fun i H _ => by
  refine ⟨fun d hd => ?_, fun e => by
    rw [List.length_map, Array.length_toList] at e
    exact Nat.le_of_eq e.symm⟩
  rw [List.getElem?_map, Array.getElem?_toList] at hd
  cases hc : s.cps[i]? with
  | none => rw [hc] at hd; cases hd
  | some c =>
    rw [hc] at hd
    cases hd
    refine ⟨(Array.getElem?_eq_some_iff.mp hc).1, fun x H' ⟨e, c', hc', ex⟩ => ?_⟩
    subst e ex
    rw [hc] at hc'
    cases hc'
    exact ⟨Same.refl _, .str _⟩
/-- what is known of a sequence where the walk stands -/
def Stands (K : Fg) (C : Hp → Prop) (p : Addr) (s : PyData) (ds : List PyData) : Prop := (s = .list ds ∧ ∃ xs, ∀ H, C H → H p = some (.lst xs) ∧ AllIs K H xs ds) ∨ (s = .tuple ds ∧ ∃ xs, ∀ H, C H → SqT K H p xs ∧ AllIs K H xs ds)
theorem stands {s : PyData} {ds : List PyData} (hs : s = .list ds ∨ s = .tuple ds) (h : Is K H v s) : ∃ p, v = .ref p ∧ Stands K (Same H) p s ds := by
  obtain ⟨p, xs, rfl, a, hp⟩ := Is.seq hs h
  refine ⟨p, rfl, hp.elim (fun ⟨e, q⟩ => .inl ⟨e, xs, fun H1 e1 => ⟨e1 _ _ q, a.mono e1⟩⟩) fun ⟨e, q⟩ => .inr ⟨e, xs, fun H1 e1 => ⟨same_t e1 q, a.mono e1⟩⟩⟩
theorem ew_of {wi : TI} {ds : List PyData} {C : Hp → Hp → Prop} (h : EvW K Same wi σ H ds) (hC : ∀ H1 H2, Same H H1 → C H1 H2 → Same H1 H2) : EvW K C wi σ H ds := fun H1 e R q => h H1 e R fun J H2 e2 w => q J H2 e2 fun i H3 c => w i H3 (hC H2 H3 (e.trans e2) c)
theorem ew_seq {s : PyData} {ds : List PyData} (hs : s = .list ds ∨ s = .tuple ds) (h : Ev tl σ H (IsD K s)) : EvW K Same (iSeq K tl) σ H ds := fun H1 e R q => by
  rcases hs with e' | e'
  · subst e'
    refine .inl (h H1 e _ fun v H2 e2 hv => ?_)
    cases hv with
    | @lst p xs _ s a => exact ⟨p, rfl, ⟨xs, SqL.of s⟩, q _ H2 e2 (walk_list (xs := xs) fun H3 e3 => ⟨e3 _ _ s, a.mono e3⟩)⟩
  · subst e'
    refine .inr (h H1 e _ fun v H2 e2 hv => ?_)
    cases hv with
    | @tup p xs _ s a => exact ⟨p, rfl, ⟨xs, s⟩, q _ H2 e2 (walk_tup (xs := xs) fun H3 e3 => ⟨same_t e3 s, a.mono e3⟩)⟩
/-- a tuple without lists: it stands whatever list is written -/
theorem ew_tupT {ds : List PyData} (hn : nlAll ds = true) (h : Ev tl σ H (IsD K (.tuple ds))) : EvW K SameT (iSeq K tl) σ H ds := fun H1 e R q => .inr (h H1 e _ fun v H2 e2 hv => by
  cases hv with
  | @tup p xs _ s a => exact ⟨p, rfl, ⟨xs, s⟩, q _ H2 e2 (walk_tup (xs := xs) fun H3 e3 => ⟨sameT_t e3 s, a.monoT e3 hn⟩)⟩)
/-- the value is known, and what it is in an earlier heap -/
theorem ew_seqB {s : PyData} {ds : List PyData} {Hb : Hp} (hs : s = .list ds ∨ s = .tuple ds) (h : Ev tl σ H (fun w _ => w = v)) (hb : Same Hb H) (hv : Is K Hb v s) : EvW K (fun _ => Same Hb) (iSeq K tl) σ H ds := fun H1 e R q => by
  rcases hs with e' | e'
  · subst e'
    refine .inl (h H1 e _ fun w H2 e2 hw => ?_)
    subst hw
    cases hv with
    | @lst p xs _ s a => exact ⟨p, rfl, ⟨xs, SqL.of (((hb.trans e).trans e2) _ _ s)⟩, q _ H2 e2 (walk_list (xs := xs) fun H3 e3 => ⟨e3 _ _ s, a.mono e3⟩)⟩
  · subst e'
    refine .inr (h H1 e _ fun w H2 e2 hw => ?_)
    subst hw
    cases hv with
    | @tup p xs _ s a => exact ⟨p, rfl, ⟨xs, same_t ((hb.trans e).trans e2) s⟩, q _ H2 e2 (walk_tup (xs := xs) fun H3 e3 => ⟨same_t e3 s, a.mono e3⟩)⟩
theorem ew_rng1 {i : Int} {n : Nat} (h : EvA K tr σ H [.int i]) (hn : i.toNat = n) (h1 : -1000000 ≤ i) (h2 : n ≤ 1000000) : EvW K C (iRng1 tr) σ H ((List.range n).map fun (i : Nat) => .int (i : Int)) := fun H1 e R q => h H1 e _ fun ws H2 e2 hws => by
  obtain ⟨w, rfl, hw⟩ := all1 hws
  cases hw
  refine ⟨i, rfl, by omega, by omega, q _ H2 e2 ?_⟩
  rw [hn]
  have e : ((List.range n).map fun (i : Nat) => PyData.int (i : Int)) = (List.range n).map fun (i : Nat) => .int (0 + (i : Int)) := List.map_congr_left fun j _ => by rw [Int.zero_add]
  rw [e]
  exact walk_rng
theorem ew_rng2 {i j : Int} {n : Nat} (h : EvA K tr σ H [.int i, .int j]) (hn : (j - i).toNat = n) (h1 : -1000000 ≤ i ∧ i ≤ 1000000) (h2 : -1000000 ≤ j ∧ j ≤ 1000000) : EvW K C (iRng2 tr) σ H ((List.range n).map fun (k : Nat) => .int (i + k)) := fun H1 e R q => h H1 e _ fun ws H2 e2 hws => by
  obtain ⟨w, w2, rfl, hw, hw2⟩ := all2 hws
  cases hw
  cases hw2
  refine ⟨i, j, rfl, by omega, q _ H2 e2 ?_⟩
  rw [hn]
  exact walk_rng
theorem ew_enumL {ds : List PyData} (h : EvA K tr σ H [.list ds]) : EvW K Same (iEnum K tr) σ H (enumD ds) := fun H1 e R q => h H1 e _ fun ws H2 e2 hws => by
  obtain ⟨w, rfl, hw⟩ := all1 hws
  cases hw with
  | @lst p xs _ s a => exact ⟨p, xs, rfl, SqL.of s, q _ H2 e2 (walk_enumL (xs := xs) fun H3 e3 => ⟨e3 _ _ s, a.mono e3⟩)⟩
theorem ew_enumT {ds : List PyData} (h : EvA K tr σ H [.tuple ds]) : EvW K Same (iEnumT K tr) σ H (enumD ds) := fun H1 e R q => h H1 e _ fun ws H2 e2 hws => by
  obtain ⟨w, rfl, hw⟩ := all1 hws
  cases hw with
  | @tup p xs _ s a => exact ⟨p, xs, rfl, s, q _ H2 e2 (walk_enumT (xs := xs) fun H3 e3 => ⟨same_t e3 s, a.mono e3⟩)⟩
theorem ew_enumTB {ds : List PyData} {Hb : Hp} (h : Ev tl σ H (fun w _ => w = v)) (hb : Same Hb H) (hv : Is K Hb v (.tuple ds)) : EvW K (fun _ => Same Hb) (iEnumT K (tCons tl tNil)) σ H (enumD ds) := fun H1 e R q => h H1 e _ fun w H2 e2 hw => by
  subst hw
  cases hv with
  | @tup p xs _ s a => exact ⟨p, xs, rfl, same_t ((hb.trans e).trans e2) s, q _ H2 e2 (walk_enumT (xs := xs) fun H3 e3 => ⟨same_t e3 s, a.mono e3⟩)⟩
theorem ew_str {s : Str} (h : Ev te σ H (IsD K (.str s))) : EvW K C (iStr te) σ H (s.cps.toList.map fun c => .str ⟨#[c]⟩) := fun H1 e R q => h H1 e _ fun v H2 e2 hv => by
  cases hv
  exact ⟨s, rfl, q _ H2 e2 walk_str⟩
/-! ### one loop -/
theorem it_loop {J : It} {C : Hp → Prop} {ds : List PyData} (w : Walk K J C ds) {H0 : Hp} (Pv : Nat → Hp → Prop) (Bd : V → Hp → (Hp → Prop) → Prop) (Qd : Hp → Prop) (h0 : Pv 0 H0) (hk : ∀ i H, i ≤ ds.length → Pv i H → C H)
    (hs : ∀ i d v H H', ds[i]? = some d → Pv i H → Same H H' → Is K H' v d → Bd v H' (Pv (i + 1))) (hd : ∀ H, Pv ds.length H → Qd H) :
    ∃ W : Nat → Nat → Hp → Prop, (∃ m, W 0 m H0) ∧ ∀ i m H, W i m H → (J.stop i H ∧ Qd H) ∨ (J.go i H ∧ ∃ Nx : Hp → Prop, (∀ H', Nx H' → ∃ m', m' < m ∧ W (i + 1) m' H') ∧ ∀ x H', J.yld i H x H' → Bd x H' Nx) := by
  refine ⟨fun i m H => m = ds.length - i ∧ i ≤ ds.length ∧ Pv i H, ⟨_, rfl, Nat.zero_le _, h0⟩, ?_⟩
  rintro i m H ⟨rfl, hi, p⟩
  by_cases hlt : i < ds.length
  · have hd' : ds[i]? = some ds[i] := List.getElem?_eq_getElem hlt
    obtain ⟨g, y⟩ := (w i H (hk i H hi p)).1 _ hd'
    refine .inr ⟨g, Pv (i + 1), fun H' p' => ⟨ds.length - (i + 1), by omega, rfl, hlt, p'⟩, fun x H' yy => ?_⟩
    obtain ⟨e, hx⟩ := y x H' yy
    exact hs i _ x H H' hd' p e hx
  · have e : i = ds.length := by omega
    subst e
    exact .inl ⟨(w _ H (hk _ H hi p)).2 rfl, hd H p⟩
/-! ### for -/
variable {D : Ends} {tu tw tz : TS} {g g1 : TG} {wi wi1 : TI}
theorem s_forW {ds : List PyData} (h : EvW K C wi σ H ds) (k : ∀ H1, Same H H1 → ∃ Pv : Nat → L2.St → Hp → Prop, Pv 0 σ H1 ∧ (∀ i σ' H', Pv i σ' H' → C H1 H') ∧
    (∀ (i : Nat) d v σ' H0 H', ds[i]? = some d → Pv i σ' H0 → Same H0 H' → Is K H' v d → g v σ' H' fun σ2 H2 => tu { D with nx := Pv (i + 1), ct := Pv (i + 1), bk := D.nx } σ2 H2) ∧ ∀ σ' H', Pv ds.length σ' H' → D.nx σ' H') : tFor wi g tu D σ H :=
  h H (Same.refl _) _ fun J H1 e w => by
    obtain ⟨Pv, h0, hk, hs, hd⟩ := k H1 e
    refine ⟨fun i m σ H => m = ds.length - i ∧ i ≤ ds.length ∧ Pv i σ H, ⟨_, rfl, Nat.zero_le _, h0⟩, ?_⟩
    rintro i m σ' H' ⟨rfl, hi, p⟩
    by_cases hlt : i < ds.length
    · have hd' : ds[i]? = some ds[i] := List.getElem?_eq_getElem hlt
      obtain ⟨gg, y⟩ := (w i H' (hk i σ' H' p)).1 _ hd'
      refine .inr ⟨gg, Pv (i + 1), fun σ' H' p' => ⟨ds.length - (i + 1), by omega, rfl, hlt, p'⟩, fun x H2 yy => ?_⟩
      obtain ⟨e, hx⟩ := y x H2 yy
      exact hs i _ x σ' H' H2 hd' p e hx
    · have e : i = ds.length := by omega
      subst e
      exact .inl ⟨(w _ H' (hk _ σ' H' p)).2 rfl, hd σ' H' p⟩
theorem q_forW {ds : List PyData} (h : EvW K C wi σ H ds) (k : ∀ H1, Same H H1 → ∃ Pv : Nat → L2.St → Hp → Prop, Pv 0 σ H1 ∧ (∀ i σ' H', Pv i σ' H' → C H1 H') ∧
    (∀ (i : Nat) d v σ' H0 H', ds[i]? = some d → Pv i σ' H0 → Same H0 H' → Is K H' v d → g v σ' H' fun σ2 H2 => tu { D with nx := Pv (i + 1), ct := Pv (i + 1), bk := tz D } σ2 H2) ∧ ∀ σ' H', Pv ds.length σ' H' → tz D σ' H') : tSeq (tFor wi g tu) tz D σ H := s_forW (D := { D with nx := tz D }) h k
/-! a tuple of targets -/
theorem g_nm {i : Nat} {R : L2.St → Hp → Prop} (k : R (σ.set i (some v)) H) : gName i v σ H R := k
theorem g_tup2 {i j : Nat} {R : L2.St → Hp → Prop} (h : Is K H v (.tuple [x, y])) (k : ∀ a b, Is K H a x → Is K H b y → R ((σ.set i (some a)).set j (some b)) H) : gTup K 2 (gCons (gName i) (gCons (gName j) gNil)) v σ H R := by
  cases h with
  | tup s a =>
    obtain ⟨p, q, rfl, hp, hq⟩ := all2 a
    exact ⟨_, _, rfl, s, rfl, _, _, rfl, _, _, rfl, rfl, k p q hp hq⟩
theorem g_tupG {i : Nat} {R : L2.St → Hp → Prop} (h : Is K H v (.tuple [x, y])) (k : ∀ a b, Is K H a x → Is K H b y → g b (σ.set i (some a)) H R) : gTup K 2 (gCons (gName i) (gCons g gNil)) v σ H R := by
  cases h with
  | tup s a =>
    obtain ⟨p, q, rfl, hp, hq⟩ := all2 a
    refine ⟨_, _, rfl, s, rfl, _, _, rfl, _, _, rfl, ?_⟩
    have e : (fun σ' H' => gNil [] σ' H' R) = R := by
      funext σ' H'
      exact propext ⟨fun h => h.2, fun h => ⟨rfl, h⟩⟩
    rw [e]
    exact k p q hp hq
/-! ### displays -/
/-- the list in the making -/
def Acc (K : Fg) (H0 : Hp) (Dl : Addr) (acc : List PyData) (H' : Hp) : Prop := H0 Dl = none ∧ Same H0 H' ∧ ∃ xs, H' Dl = some (.lst xs) ∧ AllIs K H' xs acc ∧ nlAll acc = true
theorem Acc.start {H0 : Hp} {Dl : Addr} (h : H0 Dl = none) : Acc K H0 Dl [] (upd H0 Dl (.lst [])) := ⟨h, Same.new h, [], upd_same, .nil, rfl⟩
theorem Acc.mono {H0 H1 H2 : Hp} {Dl : Addr} {acc : List PyData} (p : Acc K H0 Dl acc H1) (e : Same H1 H2) : Acc K H0 Dl acc H2 := let ⟨a, b, xs, c, d, n⟩ := p; ⟨a, b.trans e, xs, e _ _ c, d.mono e, n⟩
theorem Acc.push {H0 H1 : Hp} {Dl : Addr} {acc : List PyData} {w : V} (p : Acc K H0 Dl acc H1) (hw : Is K H1 w d) (hn : nl d = true) (hz : acc.length < 1000000) : ∃ xs, H1 Dl = some (.lst xs) ∧ xs.length < sizeLine ∧ Acc K H0 Dl (acc ++ [d]) (upd H1 Dl (.lst (xs ++ [w]))) := by
  obtain ⟨a, b, xs, c, dd, n⟩ := p
  refine ⟨xs, c, ?_, a, Same.mut b a, xs ++ [w], upd_same, (AllIs.monoT (SameT.of_lst c) n dd).snoc (Is.monoT (SameT.of_lst c) hn hw), ?_⟩
  · rw [dd.len, sizeLine_eq]
    omega
  · rw [nlAll_append, n]
    show (true && (nl d && true)) = true
    rw [hn] <;> rfl
theorem el_lcW {ds : List PyData} {vs : List Nat} (h : EvW K Same wi σ H ds) (f : PyData → Bool) (gg : PyData → PyData) (hz : ds.length ≤ 1000000)
    (hb : ∀ d ∈ ds, ∀ v H1, Same H H1 → Is K H1 v d → ∀ R : L2.St → Hp → Prop, (∀ σ2, wipe σ2 vs = wipe σ vs → EvT t σ2 H1 (f d) → (f d = true → Ev te σ2 H1 (IsD K (gg d))) → R σ2 H1) → g v (wipe σ vs) H1 R)
    (hnl : ∀ d ∈ ds, f d = true → nl (gg d) = true) : EvL K (tLc wi g t te vs) σ H ((ds.filter f).map gg) := fun H0 e Q q => h H0 e _ fun J H1 e1 w Dl hD => by
  refine it_loop w (fun i H' => Acc K H1 Dl (((ds.take i).filter f).map gg) H') (fun x H' Nx => g x (wipe σ vs) H' fun σ2 H2 => wipe σ2 vs = wipe σ vs ∧ t σ2 H2 fun b H3 => if b = true then te σ2 H3 fun y H4 => ∃ acc, H4 Dl = some (.lst acc) ∧ acc.length < sizeLine ∧ Nx (upd H4 Dl (.lst (acc ++ [y]))) else Nx H3) _ (Acc.start hD) (fun i H' _ p => p.2.1) (fun i d v H2 H3 hd p e3 hv => ?_) (fun H' p => ?_)
  · have hm : d ∈ ds := List.mem_of_getElem? hd
    have e2 : Same H H3 := ((e.trans e1).trans p.2.1).trans e3
    have et : ds.take (i + 1) = ds.take i ++ [d] := by rw [List.take_add_one, hd]; rfl
    have hl : (((ds.take i).filter f).map gg).length < 1000000 := by
      have hi := (List.getElem?_eq_some_iff.mp hd).1
      have h1 := List.length_filter_le f (ds.take i)
      rw [List.length_map]
      rw [List.length_take] at h1
      omega
    refine hb d hm v H3 e2 hv _ fun σ2 hw ht he => ⟨hw, ht H3 (Same.refl _) _ fun H4 e4 => ?_⟩
    show if f d = true then _ else _
    rw [et, List.filter_append, List.map_append, List.filter_cons]
    cases hf : f d with
    | true =>
      exact he hf H4 e4 _ fun y H5 e5 hy => (p.mono (e3.trans (e4.trans e5))).push hy (hnl d hm hf) hl
    | false =>
      show Acc K H1 Dl (_ ++ []) H4
      rw [List.append_nil]
      exact p.mono (e3.trans e4)
  · rw [List.take_length] at p
    obtain ⟨a, b, xs, c, dd, _⟩ := p
    exact q Dl xs H' (e1.free a) (e1.trans b) c dd
def flat2 (es : PyData → List PyData) (f : PyData → PyData → Bool) (gg : PyData → PyData → PyData) (ds : List PyData) : List PyData := ds.flatMap fun d => ((es d).filter (f d)).map (gg d)
theorem flat2_le {es : PyData → List PyData} {f : PyData → PyData → Bool} {gg : PyData → PyData → PyData} (b : Nat) : ∀ (ds : List PyData), (∀ d ∈ ds, (es d).length ≤ b) → (flat2 es f gg ds).length ≤ ds.length * b
  | [], _ => Nat.zero_le _
  | d :: ds, h => by
    have h1 := flat2_le (gg := gg) (f := f) b ds fun x hx => h x (List.mem_cons_of_mem _ hx)
    have h2 := h d (List.mem_cons_self ..)
    have h3 := List.length_filter_le (f d) (es d)
    show (((es d).filter (f d)).map (gg d) ++ flat2 es f gg ds).length ≤ _
    rw [List.length_append, List.length_map, List.length_cons, Nat.succ_mul]
    omega
theorem el_lc2W {ds : List PyData} {vs vs1 : List Nat} {t1 : TT} (b : Nat) (h : EvW K Same wi σ H ds) (es : PyData → List PyData) (f : PyData → PyData → Bool) (gg : PyData → PyData → PyData) (hz : ∀ d ∈ ds, (es d).length ≤ b) (hz2 : ds.length * b ≤ 900000) (hb0 : b ≤ 900000)
    (hb : ∀ d ∈ ds, ∀ v H1, Same H H1 → Is K H1 v d → ∀ R : L2.St → Hp → Prop, (∀ σ2, wipe σ2 vs = wipe σ vs → EvW K SameT wi1 σ2 H1 (es d) →
      (∀ d1 ∈ es d, ∀ v1 H2, Same H H2 → Is K H2 v1 d1 → ∀ R1 : L2.St → Hp → Prop, (∀ σ3, wipe σ3 vs1 = wipe σ2 vs1 → EvT t1 σ3 H2 (f d d1) → (f d d1 = true → Ev te σ3 H2 (IsD K (gg d d1))) → R1 σ3 H2) → g1 v1 (wipe σ2 vs1) H2 R1) → R σ2 H1) → g v (wipe σ vs) H1 R)
    (hnl : ∀ d ∈ ds, ∀ d1 ∈ es d, f d d1 = true → nl (gg d d1) = true) : EvL K (tLc2 wi g tYes wi1 g1 t1 te vs vs1) σ H (flat2 es f gg ds) := fun H0 e Q q => h H0 e _ fun J H1 e1 w Dl hD => by
  refine it_loop w (fun i H' => Acc K H1 Dl (flat2 es f gg (ds.take i)) H') (fun x H' Nx => g x (wipe σ vs) H' fun σ2 H2 => wipe σ2 vs = wipe σ vs ∧ tYes σ2 H2 fun b H3 =>
    if b = true then wi1 σ2 H3 fun J1 H4 => ∃ W1 : Nat → Nat → Hp → Prop, (∃ m, W1 0 m H4) ∧ ∀ j k H, W1 j k H →
      (J1.stop j H ∧ Nx H) ∨ (J1.go j H ∧ ∃ Nx1 : Hp → Prop, (∀ H', Nx1 H' → ∃ k', k' < k ∧ W1 (j + 1) k' H') ∧ ∀ x H', J1.yld j H x H' → g1 x (wipe σ2 vs1) H' fun σ3 H5 => wipe σ3 vs1 = wipe σ2 vs1 ∧ t1 σ3 H5 fun b H6 =>
        if b = true then te σ3 H6 fun y H7 => ∃ acc, H7 Dl = some (.lst acc) ∧ acc.length < sizeLine ∧ Nx1 (upd H7 Dl (.lst (acc ++ [y]))) else Nx1 H6)
    else Nx H3) _ (Acc.start hD) (fun i H' _ p => p.2.1) (fun i d v H2 H3 hd p e3 hv => ?_) (fun H' p => ?_)
  · have hm : d ∈ ds := List.mem_of_getElem? hd
    have hi := (List.getElem?_eq_some_iff.mp hd).1
    have e2 : Same H H3 := ((e.trans e1).trans p.2.1).trans e3
    have et : flat2 es f gg (ds.take (i + 1)) = flat2 es f gg (ds.take i) ++ ((es d).filter (f d)).map (gg d) := by
      rw [List.take_add_one, hd]
      show (ds.take i ++ [d]).flatMap _ = _
      rw [List.flatMap_append, List.flatMap_singleton]
      rfl
    have hacc : (flat2 es f gg (ds.take i)).length ≤ ds.length * b := by
      refine Nat.le_trans (flat2_le b _ fun x hx => hz x (List.mem_of_mem_take hx)) (Nat.mul_le_mul_right _ ?_)
      rw [List.length_take]
      exact Nat.min_le_right ..
    refine hb d hm v H3 e2 hv _ fun σ2 hw hi1 he => ⟨hw, ?_⟩
    show wi1 σ2 H3 _
    refine hi1 H3 (Same.refl _) _ fun J1 H4 e4 w1 => ?_
    rw [et]
    refine it_loop w1 (fun j H' => SameT H4 H' ∧ Acc K H1 Dl (flat2 es f gg (ds.take i) ++ (((es d).take j).filter (f d)).map (gg d)) H') (fun x H' Nx1 => g1 x (wipe σ2 vs1) H' fun σ3 H5 => wipe σ3 vs1 = wipe σ2 vs1 ∧ t1 σ3 H5 fun b H6 =>
        if b = true then te σ3 H6 fun y H7 => ∃ acc, H7 Dl = some (.lst acc) ∧ acc.length < sizeLine ∧ Nx1 (upd H7 Dl (.lst (acc ++ [y]))) else Nx1 H6) _ ?_ (fun j H' _ p => p.1) (fun j d1 v1 H5 H6 hd1 p1 e6 hv1 => ?_) (fun H' p1 => ?_)
    · refine ⟨fun a => ⟨fun _ h => h, fun _ _ h => h⟩, ?_⟩
      rw [List.take_zero]
      show Acc K H1 Dl (_ ++ []) H4
      rw [List.append_nil]
      exact p.mono (e3.trans e4)
    · have hm1 : d1 ∈ es d := List.mem_of_getElem? hd1
      have hj := (List.getElem?_eq_some_iff.mp hd1).1
      have et1 : (es d).take (j + 1) = (es d).take j ++ [d1] := by rw [List.take_add_one, hd1]; rfl
      have hl : (flat2 es f gg (ds.take i) ++ (((es d).take j).filter (f d)).map (gg d)).length < 1000000 := by
        -- i < ds.length turns of at most b each, and less than b here
        have h1 := List.length_filter_le (f d) ((es d).take j)
        rw [List.length_take] at h1
        have h2 := hz d hm
        have h3 : (flat2 es f gg (ds.take i)).length ≤ i * b := by
          have := flat2_le (gg := gg) (f := f) b (ds.take i) fun x hx => hz x (List.mem_of_mem_take hx)
          rw [List.length_take, Nat.min_eq_left (Nat.le_of_lt hi)] at this
          exact this
        have h4 : (i + 1) * b ≤ ds.length * b := Nat.mul_le_mul_right _ hi
        rw [Nat.succ_mul] at h4
        rw [List.length_append, List.length_map]
        omega
      refine he d1 hm1 v1 H6 (((e.trans e1).trans p1.2.2.1).trans e6) hv1 _ fun σ3 hw3 ht he1 => ⟨hw3, ht H6 (Same.refl _) _ fun H7 e7 => ?_⟩
      show if f d d1 = true then _ else _
      rw [et1, List.filter_append, List.map_append, List.filter_cons, ← List.append_assoc]
      cases hf : f d d1 with
      | true =>
        refine he1 hf H7 e7 _ fun y H8 e8 hy => ?_
        obtain ⟨xs, hx, hx2, hA⟩ := (p1.2.mono (e6.trans (e7.trans e8))).push hy (hnl d hm d1 hm1 hf) hl
        exact ⟨xs, hx, hx2, (p1.1.trans (Same.t (e6.trans (e7.trans e8)))).trans (SameT.of_lst hx), hA⟩
      | false =>
        show SameT H4 H7 ∧ Acc K H1 Dl (_ ++ []) H7
        rw [List.append_nil]
        exact ⟨p1.1.trans (Same.t (e6.trans e7)), p1.2.mono (e6.trans e7)⟩
    · rw [List.take_length] at p1
      exact p1.2
  · rw [List.take_length] at p
    obtain ⟨a, b, xs, c, dd, _⟩ := p
    exact q Dl xs H' (e1.free a) (e1.trans b) c dd
/-- a dict display over nothing -/
theorem ed_nil {tk tv : TE} {vs : List Nat} (h : EvW K Same wi σ H []) : ∀ H1, Same H H1 → ∀ Q : VK, (∀ p H2, H1 p = none → Same H1 H2 → H2 p = some (.dK []) → Q (.ref p) H2) → tDc wi g t tk tv vs σ H1 Q := fun H1 e Q q => h H1 e _ fun J H2 e2 w Dl hD => by
  exact it_loop w (fun i H' => H' = upd H2 Dl (.dK [])) (fun x H' Nx => g x (wipe σ vs) H' fun σ2 H2 => wipe σ2 vs = wipe σ vs ∧ t σ2 H2 fun b H3 =>
    if b = true then tk σ2 H3 fun y H4 => tv σ2 H4 fun z H5 => ∃ kvs k, y = kV k ∧ H5 Dl = some (.dK kvs) ∧ kvs.length < sizeLine ∧ Nx (upd H5 Dl (.dK (putK kvs k z))) else Nx H3) _ rfl (fun i H' _ p => by rw [p]; exact Same.new hD) (fun i d v H3 H4 hd => by simp at hd)
    (fun H' p => by rw [p]; exact q Dl _ (e2.free hD) (e2.trans (Same.new hD)) upd_same)
/-! an if whose branches join -/
theorem q_whenJ {b : Bool} (M : L2.St → Hp → Prop) (h : EvT t σ H b) (h1 : b = true → ∀ H1, Same H H1 → ∀ N : L2.St → Hp → Prop, (∀ σ' H', M σ' H' → N σ' H') → tu { D with nx := N } σ H1) (h2 : b = false → ∀ H1, Same H H1 → M σ H1) (k : ∀ σ' H', M σ' H' → tz D σ' H') : tSeq (tIfS t tu tNext) tz D σ H :=
  q_when h (fun hb H1 e => h1 hb H1 e _ k) (fun hb H1 e => k _ _ (h2 hb H1 e))
theorem q_ifJ {b : Bool} (M : L2.St → Hp → Prop) (h : EvT t σ H b) (h1 : b = true → ∀ H1, Same H H1 → ∀ N : L2.St → Hp → Prop, (∀ σ' H', M σ' H' → N σ' H') → tu { D with nx := N } σ H1) (h2 : b = false → ∀ H1, Same H H1 → ∀ N : L2.St → Hp → Prop, (∀ σ' H', M σ' H' → N σ' H') → tw { D with nx := N } σ H1) (k : ∀ σ' H', M σ' H' → tz D σ' H') : tSeq (tIfS t tu tw) tz D σ H :=
  q_if h (fun hb H1 e => h1 hb H1 e _ k) (fun hb H1 e => h2 hb H1 e _ k)
theorem ev_eq {w : V} : Ev (tC w) σ H (fun v _ => v = w) := fun H1 e Q q => q w H1 (Same.refl _) rfl
/-- x += e, ints -/
theorem s_aug {i : Nat} {a b : Int} (hx : σ[i]? = some (some (.int a))) (h : Ev te σ H (IsD K (.int b))) (k : ∀ H1, Same H H1 → D.nx (σ.set i (some (.int (a + b)))) H1) : tAug i te (ipI fun i j => i + j) D σ H := ⟨_, hx, h H (Same.refl _) _ fun v H1 e hv => by
  cases hv
  exact ⟨a, b, rfl, rfl, k H1 e⟩⟩
end
end K33

set_option Elab.async false
set_option linter.all false
set_option maxRecDepth 100000
set_option maxHeartbeats 4000000
/-! core_looking: what may stand in claims and papers. -/
namespace K33
open PySem PySem.Spec PyProof.Rows L2
/-! ### the mirrors -/
def isI : PyData → Bool
  | .int _ => true
  | _ => false
theorem isI_eq (x : PyData) : (isInt x && !isBool x) = isI x := by cases x <;> rfl
theorem isI_int {x : PyData} (h : isI x = true) : ∃ i, x = .int i := by cases x <;> first | exact ⟨_, rfl⟩ | cases h
def below : PyData → Int → Bool
  | .int i, m => decide (0 ≤ i) && decide (i < m)
  | _, _ => false
mutual
def plainB : PyData → Bool
  | .tuple ds => plainAll ds
  | .int _ => true
  | .str _ => true
  | _ => false
def plainAll : List PyData → Bool
  | [] => true
  | d :: ds => plainB d && plainAll ds
end
mutual
def sizeD : PyData → Nat
  | .tuple ds => 1 + sizeAll ds
  | _ => 1
def sizeAll : List PyData → Nat
  | [] => 0
  | d :: ds => sizeD d + sizeAll ds
end
theorem plainAll_append : ∀ (a b : List PyData), plainAll (a ++ b) = (plainAll a && plainAll b)
  | [], b => rfl
  | d :: a, b => by
    show (plainB d && plainAll (a ++ b)) = _
    rw [plainAll_append a b, ← Bool.and_assoc]
    rfl
theorem sizeAll_append : ∀ (a b : List PyData), sizeAll (a ++ b) = sizeAll a + sizeAll b
  | [], b => (Nat.zero_add _).symm
  | d :: a, b => by
    show sizeD d + sizeAll (a ++ b) = sizeD d + sizeAll a + sizeAll b
    rw [sizeAll_append a b, Nat.add_assoc]
theorem sizeD_pos : ∀ d : PyData, 1 ≤ sizeD d
  | .tuple ds => Nat.le_add_right 1 _
  | .none => Nat.le_refl _
  | .bool _ => Nat.le_refl _
  | .int _ => Nat.le_refl _
  | .str _ => Nat.le_refl _
  | .list _ => Nat.le_refl _
  | .dict _ => Nat.le_refl _
theorem len_sizeAll : ∀ ds : List PyData, ds.length ≤ sizeAll ds
  | [] => Nat.le_refl _
  | d :: ds => by
    have h1 := sizeD_pos d
    have h2 := len_sizeAll ds
    show ds.length + 1 ≤ sizeD d + sizeAll ds
    omega
def kindB (x : PyData) (w : Str) (m : Nat) : Bool := match x with
  | .tuple (.str s :: ds) => decide (ds.length = m) && decide (s = w)
  | _ => false
def risingI (ns : List Int) : Bool := (List.range (ns.length - 1)).all fun i => decide (ns.getD i 0 < ns.getD (i + 1) 0)
def noKind (x : PyData) (m : Nat) : Bool := match x with
  | .tuple ds => !decide ((ds.length : Int) = (m : Int) + 1)
  | _ => true
def noBelow (x : PyData) (m : Int) : Bool := match x with
  | .tuple ds => !ds.all fun d => below d m
  | _ => true
def intOf : PyData → Int
  | .int i => i
  | _ => 0
def risingB (x : PyData) (m : Int) : Bool := match x with
  | .tuple ds => ds.all (fun d => below d m) && risingI (ds.map intOf)
  | _ => false
def placesB (x : PyData) (n : Nat) (m : Int) : Bool := match x with
  | .tuple ds => decide (ds.length = n) && ds.all fun d => below d m
  | _ => false
theorem below_int {d : PyData} {m : Int} (h : below d m = true) : d = .int (intOf d) := by cases d <;> first | rfl | cases h
theorem ints_of {ds : List PyData} {m : Int} (h : ds.all (fun d => below d m) = true) : ds = (ds.map intOf).map .int := by
  rw [List.map_map]
  conv => lhs; rw [← List.map_id ds]
  apply List.map_congr_left
  intro d hd
  exact below_int (List.all_eq_true.mp h d hd)
theorem plain_no {d : PyData} (h1 : isTup d = false) (h2 : (!isI d && !isStr d) = true) : plainB d = false := by
  cases d with
  | tuple ds => exact Bool.noConfusion (show true = false from h1)
  | int i => exact Bool.noConfusion (show false = true from h2)
  | str i => exact Bool.noConfusion (show false = true from h2)
  | _ => rfl
theorem plain_yes {d : PyData} (h1 : isTup d = false) (h2 : (!isI d && !isStr d) = false) : plainB d = true := by
  cases d with
  | int i => rfl
  | str i => rfl
  | tuple ds => exact Bool.noConfusion (show true = false from h1)
  | _ => exact Bool.noConfusion (show true = false from h2)
/-! ### the promises -/
def pre_isI : Pr := fun ds Post => ∃ x, ds = [x] ∧ Post (.bool (isI x))
def pre_below : Pr := fun ds Post => ∃ x m, ds = [x, .int m] ∧ Post (.bool (below x m))
def pre_plain : Pr := fun ds Post => ∃ x, ds = [x] ∧ sizeD x ≤ 100000 ∧ Post (.bool (plainB x))
def pre_kind : Pr := fun ds Post => ∃ x w, ∃ m : Nat, ds = [x, .str w, .int m] ∧ Post (.bool (kindB x w m))
def okLen (x : PyData) : Prop := ∀ ds, x = .tuple ds → ds.length ≤ 100000
def pre_rising : Pr := fun ds Post => ∃ x m, ds = [x, .int m] ∧ okLen x ∧ Post (.bool (risingB x m))
def pre_places : Pr := fun ds Post => ∃ x, ∃ n : Nat, ∃ m, ds = [x, .int n, .int m] ∧ okLen x ∧ Post (.bool (placesB x n m))
section
variable {P : Program} {w : World} {K : Fg} {mg : Str → Option Value} {base : Heap} {f : Addr} {fd : FuncData}
/-- slots: value 0 -/
theorem sc_is_integer_2 : FnScope ["value"] ["value"] (defScope s_is_integer_2) := ⟨rfl, rfl, rfl, by decide +kernel, rfl, by decide +kernel, by decide +kernel⟩
theorem ok_is_integer_2 (F : Fun K "is_integer" "is_integer" s_is_integer_2 f fd) (B : Blt mg) : FnOk P w K mg base CX0 1 f fd ["value"] (SpD K pre_isI) := by
  refine F.ok sc_is_integer_2 (spd_len fun ds Post h => by obtain ⟨x, rfl, _⟩ := h; rfl) (fun cdv A outer s H vs Q E hr h => ?_)
  obtain ⟨ds, Post, a, ⟨x, rfl, hp⟩, q⟩ := h
  refine ⟨_, (pss_one (ps_ret (pe_and (pe_callB (isi_K (K := K) rfl) (by rfl) B.isinstance (by decide +kernel) (pa_cons (pv 0) (pa_cons (pe_bltn (v := .ty "int") (by rfl) B.int (by decide +kernel) rfl) pa_nil))) (pe_one (pe_not (pe_callB (isi_K (K := K) rfl) (by rfl) B.isinstance (by decide +kernel) (pa_cons (pv 0) (pa_cons (pe_bltn (v := .ty "bool") (by rfl) B.bool (by decide +kernel) rfl) pa_nil)))))))), ?_⟩
  obtain ⟨v, rfl, hv⟩ := all1 a
  exact s_ret (ev_is (ev_andV (ev_isInt (ev_var rfl hv)) fun _ => ev_notV (ev_isBool (ev_var rfl hv))) (by rw [isI_eq])) fun v H1 e hv => q _ v H1 hp e hv
/-- slots: value 0, most 1 -/
theorem sc_is_below : FnScope ["value", "most"] ["value", "most"] (defScope s_is_below) := ⟨rfl, rfl, rfl, by decide +kernel, rfl, by decide +kernel, by decide +kernel⟩
theorem ok_is_below (F : Fun K "is_below" "is_below" s_is_below f fd) (B : Blt mg) (G_is_integer_core_looking : Fn P w K mg base CX0 1 "is_integer_core_looking" ["value"] (SpD K pre_isI)) : FnOk P w K mg base CX0 2 f fd ["value", "most"] (SpD K pre_below) := by
  refine F.ok sc_is_below (spd_len fun ds Post h => by obtain ⟨x, m, rfl, _⟩ := h; rfl) (fun cdv A outer s H vs Q E hr h => ?_)
  obtain ⟨ds, Post, a, ⟨x, m, rfl, hp⟩, q⟩ := h
  refine ⟨_, (pss_one (ps_ret (pe_and (pe_fn G_is_integer_core_looking (hr.mono (by decide)) (by rfl) pass0 (pa_cons (pv 0) pa_nil)) (pe_one (pe_chain op_le op_lt pe_int (pv 0) (pv 1)))))), ?_⟩
  obtain ⟨v, u, rfl, hv, hu⟩ := all2 a
  refine s_ret (P := IsD K (.bool (below x m))) (ev_is (ev_andV (b := below x m) (ev_callF (ea1 (ev_var rfl hv)) ⟨x, rfl, rfl⟩) fun h => ?_) ?_) fun v H1 e hv => q _ v H1 hp e hv
  · obtain ⟨i, rfl⟩ := isI_int h
    exact ev_chain ev_int (ev_var rfl hv) (fun _ => ev_var rfl hu) rd_le rd_lt
  · cases x <;> rfl
/-- slots: value 0, todo 1, part 2 -/
theorem sc_is_plain : FnScope ["value", "todo", "part"] ["value"] (defScope s_is_plain) := ⟨rfl, rfl, rfl, by decide +kernel, rfl, by decide +kernel, by decide +kernel⟩
theorem ok_is_plain (F : Fun K "is_plain" "is_plain" s_is_plain f fd) (B : Blt mg) (G_is_integer_core_looking : Fn P w K mg base CX0 1 "is_integer_core_looking" ["value"] (SpD K pre_isI)) : FnOk P w K mg base CX0 2 f fd ["value"] (SpD K pre_plain) := by
  refine F.ok sc_is_plain (spd_len fun ds Post h => by obtain ⟨x, rfl, _⟩ := h; rfl) (fun cdv A outer s H vs Q E hr h => ?_)
  obtain ⟨ds, Post, a, ⟨x, rfl, hz, hp⟩, q⟩ := h
  refine ⟨_, (pss_cons (ps_set (i := 1) sc_is_plain.nd rfl (Or.inl rfl) (pe_lst (pa_cons (pv 0) pa_nil)))
      (pss_cons (ps_while PassesOwn.never (tru_K (K := K) rfl (pv 1) (by intro _; rfl)) (pss_cons (ps_set (i := 2) sc_is_plain.nd rfl (Or.inl rfl) (bm0_K (K := K) rfl PySem.F.plainAttrs_list PySem.F.slot_list_pop PySem.F.type_list_pop mt_pop (pv 1)))
      (pss_one (ps_if (pt_val (pe_callB (isi_K (K := K) rfl) (by rfl) B.isinstance (by decide +kernel) (pa_cons (pv 2) (pa_cons (pe_bltn (v := .ty "tuple") (by rfl) B.tuple (by decide +kernel) rfl) pa_nil)))) (pss_one (ps_expr (bm_K (K := K) rfl PySem.F.plainAttrs_list PySem.F.slot_list_extend PySem.F.type_list_extend (extT_K (K := K) rfl) (pv 1) (pa_cons (pv 2) pa_nil)))) (pss_one (ps_if (PW.pt (pw_and (pt_not (pt_val (pe_fn G_is_integer_core_looking (hr.mono (by decide)) (by rfl) pass0 (pa_cons (pv 2) pa_nil)))) (pw_and1 (pt_not (pt_val (pe_callB (isi_K (K := K) rfl) (by rfl) B.isinstance (by decide +kernel) (pa_cons (pv 2) (pa_cons (pe_bltn (v := .ty "str") (by rfl) B.str (by decide +kernel) rfl) pa_nil)))))))) (pss_one (ps_ret pe_bl)) pss_nil))))))
      (pss_one (ps_ret pe_bl)))), ?_⟩
  obtain ⟨v, rfl, hv⟩ := all1 a
  -- todo = [value]; the list at l, its items data of the heap at the entry
  refine q_one (ev_var rfl hv) fun v0 He l ee hv0 hl => ?_
  replace q := fun d v H' p e => q d v H' p (ee.trans e)
  clear hv
  refine q_while (fun m σ' H' => ∃ xs es pv, σ' = [some v, some (.ref l), pv] ∧ Same He H' ∧ H' l = some (.lst xs) ∧ AllIs K He xs es ∧ plainB x = plainAll es ∧ sizeAll es ≤ 100000 ∧ m = sizeAll es) (sizeAll [x])
    ⟨[v0], [x], none, rfl, Same.new hl, upd_same, .cons hv0 .nil, by show _ = (plainB x && true); rw [Bool.and_true], by show sizeD x + 0 ≤ 100000; omega, rfl⟩ ?_
  rintro m σ' H' ⟨xs, es, pv, rfl, e1, h1, a1, hb, hs, rfl⟩
  refine ⟨!xs.isEmpty, et_truL h1 (ev_slot rfl), fun hne H2 e2 => ?_, fun hemp H2 e2 => ?_⟩
  · -- part = todo.pop()
    rcases List.eq_nil_or_concat xs with e | ⟨xr, y, e⟩
    · rw [e] at hne
      cases hne
    rw [List.concat_eq_append] at e
    subst e
    obtain ⟨er, d, rfl⟩ : ∃ er d, es = er ++ [d] := by
      rcases List.eq_nil_or_concat es with e | ⟨er, d, e⟩
      · subst e
        have := a1.len
        simp at this
      · exact ⟨er, d, by rw [e, List.concat_eq_append]⟩
    have hlen := a1.len
    simp at hlen
    have ar : AllIs K He xr er := by
      have := a1.take xr.length
      rw [hlen] at this
      rw [List.take_left' hlen, List.take_left' rfl] at this
      exact this
    have hy : Is K He y d := by
      have h0 : (er ++ [d])[er.length]? = some d := by simp
      obtain ⟨y', h1, h2⟩ := a1.get h0
      rw [← hlen] at h1
      simp at h1
      rw [h1]
      exact h2
    rw [plainAll_append] at hb
    rw [sizeAll_append] at hs
    have hsd : sizeAll [d] = sizeD d := Nat.add_zero _
    have hpd : plainAll [d] = plainB d := Bool.and_true _
    have hd1 := sizeD_pos d
    rw [hpd] at hb
    rw [hsd] at hs
    have eN : ∀ {H3}, Same H2 H3 → Same He H3 := fun e3 => (e1.trans e2).trans e3
    refine ⟨fun σ3 H3 => ∃ m', m' < sizeAll (er ++ [d]) ∧ ∃ xs es pv, σ3 = [some v, some (.ref l), pv] ∧ Same He H3 ∧ H3 l = some (.lst xs) ∧ AllIs K He xs es ∧ plainB x = plainAll es ∧ sizeAll es ≤ 100000 ∧ m' = sizeAll es, fun σ3 H3 h => h, ?_⟩
    refine ⟨_, rfl, .inl ⟨rfl, _, SqL.of (e2 _ _ h1)⟩, l, xr ++ [y], y, rfl, rfl, e2 _ _ h1, by simp, ?_⟩
    rw [List.dropLast_concat]
    have hl3 : (upd H2 l (.lst xr)) l = some (.lst xr) := upd_same
    have e3 : Same He (upd H2 l (.lst xr)) := Same.mut (e1.trans e2) hl
    have hy3 := hy.mono e3
    refine s_if (ev_is (ev_isTup (ev_var (v := y) rfl hy3)) rfl |> fun h => et_B h) (fun ht H4 e4 => ?_) (fun hf H4 e4 => ?_)
    · -- todo.extend(part)
      cases d with
      | tuple ys =>
        cases hy with
        | @tup p zs _ sp ap =>
          refine ⟨_, rfl, .inl ⟨rfl, _, SqL.of (e4 _ _ hl3)⟩, _, rfl, l, p, xr, zs, rfl, rfl, e4 _ _ hl3, same_t (e3.trans e4) sp, ?_, ?_⟩
          · have h1 := len_sizeAll er
            have h2 := len_sizeAll ys
            have h3 : sizeD (.tuple ys) = 1 + sizeAll ys := rfl
            rw [hlen, ap.len]
            exact big (by omega)
          · have h3 : sizeD (.tuple ys) = 1 + sizeAll ys := rfl
            refine ⟨sizeAll (er ++ ys), ?_, xr ++ zs, er ++ ys, _, rfl, Same.mut (e3.trans e4) hl, upd_same, ar.append ap, ?_, ?_, rfl⟩
            · rw [sizeAll_append, sizeAll_append, hsd]
              omega
            · rw [plainAll_append]
              exact hb
            · rw [sizeAll_append]
              omega
      | _ => cases ht
    · -- neither an integer nor a text
      have hy4 := hy3.mono e4
      refine s_when (b := !isI d && !isStr d) (et_and (a := !isI d) (et_not (et_B (ev_callF (ea1 (ev_var rfl hy4)) ⟨d, rfl, rfl⟩))) fun _ => et_not (et_B (ev_isStr (ev_var rfl hy4)))) (fun h H5 e5 => ?_) (fun h H5 e5 => ?_)
      · have e0 : plainB x = false := by
          rw [hb, plain_no hf h, Bool.and_false]
        exact s_retB (K := K) e0.symm fun u H6 e6 hu => q _ u H6 hp ((e3.trans e4).trans (e5.trans e6)) hu
      · have e0 := plain_yes hf h
        refine ⟨sizeAll er, ?_, xr, er, _, rfl, (e3.trans e4).trans e5, (e4.trans e5) _ _ hl3, ar, ?_, by omega, rfl⟩
        · rw [sizeAll_append, hsd]
          omega
        · rw [hb, e0, Bool.and_true]
  · have e0 : xs = [] := by
      cases xs with
      | nil => rfl
      | cons a b => cases hemp
    subst e0
    cases a1
    exact s_retB (K := K) hb.symm fun u H3 e3 hu => q _ u H3 hp (e1.trans (e2.trans e3)) hu
/-- slots: value 0, word 1, many 2 -/
theorem sc_is_kind : FnScope ["value", "word", "many"] ["value", "word", "many"] (defScope s_is_kind) := ⟨rfl, rfl, rfl, by decide +kernel, rfl, by decide +kernel, by decide +kernel⟩
theorem ok_is_kind (F : Fun K "is_kind" "is_kind" s_is_kind f fd) (B : Blt mg) : FnOk P w K mg base CX0 1 f fd ["value", "word", "many"] (SpD K pre_kind) := by
  refine F.ok sc_is_kind (spd_len fun ds Post h => by obtain ⟨x, w, m, rfl, _⟩ := h; rfl) (fun cdv A outer s H vs Q E hr h => ?_)
  obtain ⟨ds, Post, a, ⟨x, wd, m, rfl, hp⟩, q⟩ := h
  refine ⟨_, (pss_cons (ps_if (PW.pt (pw_or (pt_not (pt_val (pe_callB (isi_K (K := K) rfl) (by rfl) B.isinstance (by decide +kernel) (pa_cons (pv 0) (pa_cons (pe_bltn (v := .ty "tuple") (by rfl) B.tuple (by decide +kernel) rfl) pa_nil))))) (pw_or1 (pt_cmpR (op_neK (K := K) rfl hr.units) (pe_callB (len_K (K := K) rfl) (by rfl) B.len PySem.boot_len (pa_cons (pv 0) pa_nil)) (pe_op (op_addK (K := K) rfl) (pv 2) pe_int) (nomark _))))) (pss_one (ps_ret pe_bl)) pss_nil)
      (pss_one (ps_ret (pe_and (pe_callB (isi_K (K := K) rfl) (by rfl) B.isinstance (by decide +kernel) (pa_cons (pe_ix (ix_K (K := K) rfl) (pv 0) pe_int (fun _ _ => rfl)) (pa_cons (pe_bltn (v := .ty "str") (by rfl) B.str (by decide +kernel) rfl) pa_nil))) (pe_one (pe_cmpR (op_eqK (K := K) rfl hr.units) (pe_ix (ix_K (K := K) rfl) (pv 0) pe_int (fun _ _ => rfl)) (pv 1) (nomark _))))))), ?_⟩
  obtain ⟨v, u, n, rfl, hv, hu, hn⟩ := all3 a
  refine q_when (b := noKind x m) (et_eqb (et_or (a := !isTup x) (b := noKind x m) (et_not (et_B (ev_isTup (ev_var rfl hv)))) fun h => ?_) ?_) (fun h H1 e1 => ?_) (fun h H1 e1 => ?_)
  · cases x with
    | tuple ds => exact et_test (ev_op (ev_lenT (ev_var rfl hv)) (ev_op (ev_var rfl hn) ev_int rd_addI) rd_neI)
    | _ => cases h
  · cases x <;> rfl
  · have e0 : kindB x wd m = false := by
      unfold kindB
      split
      · rename_i s ds
        have h : (!decide ((((PyData.str s :: ds).length : Nat) : Int) = (m : Int) + 1)) = true := h
        simp at h
        have : ¬ ds.length = m := by omega
        rw [decide_eq_false this, Bool.false_and]
      · rfl
    exact s_retB (K := K) e0.symm fun u H2 e2 hu => q _ u H2 hp (e1.trans e2) hu
  · cases x with
    | tuple ds =>
      have hl : ds.length = m + 1 := by
        have h : (!decide ((ds.length : Int) = (m : Int) + 1)) = false := h
        simp at h
        omega
      cases ds with
      | nil => cases hl
      | cons d ds =>
        have hm : ds.length = m := by simpa using hl
        have i0 : atI (d :: ds) 0 = some d := atI_nat (j := 0) rfl
        have g0 := fun (H1 : Hp) (e : Same H H1) => ev_op (K := K) (ev_var (σ := [some v, some u, some n]) (i := 0) rfl (hv.mono e)) ev_int (rd_ix (.inr rfl) i0)
        refine s_ret (P := IsD K (.bool (kindB (.tuple (d :: ds)) wd m))) (ev_is (ev_andV (b := kindB (.tuple (d :: ds)) wd m) (ev_isStr (g0 H1 e1)) fun h => ?_) ?_) fun v H2 e2 hv => q _ v H2 hp (e1.trans e2) hv
        · cases d with
          | str s =>
            refine ev_is (ev_op (g0 H1 e1) (ev_var rfl (hu.mono e1)) rd_eqS) ?_
            show _ = PyData.bool (decide (ds.length = m) && decide (s = wd))
            have e0 : decide (ds.length = m) = true := decide_eq_true hm
            rw [e0, Bool.true_and]
          | _ => cases h
        · cases d <;> rfl
    | _ => cases h
/-- slots: value 0, most 1, one 2, at 3 -/
theorem sc_are_rising_below : FnScope ["value", "most", "one", "at"] ["value", "most"] (defScope s_are_rising_below) := ⟨rfl, rfl, rfl, by decide +kernel, rfl, by decide +kernel, by decide +kernel⟩
theorem ok_are_rising_below (F : Fun K "are_rising_below" "are_rising_below" s_are_rising_below f fd) (B : Blt mg) (G_is_below : Fn P w K mg base CX0 2 "is_below" ["value", "most"] (SpD K pre_below)) : FnOk P w K mg base CX0 3 f fd ["value", "most"] (SpD K pre_rising) := by
  refine F.ok sc_are_rising_below (spd_len fun ds Post h => by obtain ⟨x, m, rfl, _⟩ := h; rfl) (fun cdv A outer s H vs Q E hr h => ?_)
  obtain ⟨ds, Post, a, ⟨x, m, rfl, hz, hp⟩, q⟩ := h
  refine ⟨_, (pss_cons (ps_if (PW.pt (pw_or (pt_not (pt_val (pe_callB (isi_K (K := K) rfl) (by rfl) B.isinstance (by decide +kernel) (pa_cons (pv 0) (pa_cons (pe_bltn (v := .ty "tuple") (by rfl) B.tuple (by decide +kernel) rfl) pa_nil))))) (pw_or1 (pt_not (pt_val (pe_callB (all_K (K := K) rfl rfl) (by rfl) B.all (by decide +kernel) (pa_cons (pe_lc (own := [("one", 2)]) rfl sc_are_rising_below.nd (seq_K (K := K) rfl (pv 0)) (blkOk_by (own := [("one", 2)]) (N := ["value", "most", "one", "at"]) (sc := (defScope s_are_rising_below)) (by decide +kernel)) (fun _ _ _ _ _ => (pg_name (i := 2) sc_are_rising_below.nd rfl (Or.inl rfl))) (fun _ _ _ _ _ => pts_nil) (fun _ _ _ _ _ => (pe_fn G_is_below (hr.mono (by decide)) (by rfl) pass0 (pa_cons (pv 2) (pa_cons (pv 1) pa_nil))))) pa_nil))))))) (pss_one (ps_ret pe_bl)) pss_nil)
      (pss_one (ps_ret (pe_callB (all_K (K := K) rfl rfl) (by rfl) B.all (by decide +kernel) (pa_cons (pe_lc (own := [("at", 3)]) rfl sc_are_rising_below.nd (pi_range1 (by rfl) B.range (pa_cons (pe_op op_sub (pe_callB (len_K (K := K) rfl) (by rfl) B.len PySem.boot_len (pa_cons (pv 0) pa_nil)) pe_int) pa_nil)) (blkOk_by (own := [("at", 3)]) (N := ["value", "most", "one", "at"]) (sc := (defScope s_are_rising_below)) (by decide +kernel)) (fun _ _ _ _ _ => (pg_name (i := 3) sc_are_rising_below.nd rfl (Or.inl rfl))) (fun _ _ _ _ _ => pts_nil) (fun _ _ _ _ _ => (pe_cmpR op_lt (pe_ix (ix_K (K := K) rfl) (pv 0) (pv 3) (fun _ _ => rfl)) (pe_ix (ix_K (K := K) rfl) (pv 0) (pe_op (op_addK (K := K) rfl) (pv 3) pe_int) (fun _ _ => rfl)) (nomark _)))) pa_nil))))), ?_⟩
  obtain ⟨v, u, rfl, hv, hu⟩ := all2 a
  refine q_when (b := noBelow x m) (et_eqb (et_or (a := !isTup x) (b := noBelow x m) (et_not (et_B (ev_isTup (ev_var rfl hv)))) fun h => ?_) ?_) (fun h H1 e1 => ?_) (fun h H1 e1 => ?_)
  · cases x with
    | tuple ds =>
      exact et_not (et_B (ev_allS (fun d => below d m) (.inr rfl) (ev_var rfl hv) (Nat.le_trans (hz ds rfl) (by decide)) (fun _ => rfl) (fun d hd y H1 e1 hy => ev_callF (ea2 (ev_var rfl hy) (ev_var rfl (hu.mono e1))) ⟨d, m, rfl, rfl⟩)))
    | _ => cases h
  · cases x <;> rfl
  · have e0 : risingB x m = false := by
      cases x with
      | tuple ds =>
        have h : (!ds.all fun d => below d m) = true := h
        have h' : ds.all (fun d => below d m) = false := by
          rw [Bool.not_eq_true'] at h
          exact h
        show (ds.all (fun d => below d m) && _) = false
        rw [h', Bool.false_and]
      | _ => rfl
    exact s_retB (K := K) e0.symm fun u H2 e2 hu => q _ u H2 hp (e1.trans e2) hu
  · cases x with
    | tuple ds =>
      have h : (!ds.all fun d => below d m) = false := h
      have h' : ds.all (fun d => below d m) = true := by
        rw [Bool.not_eq_false'] at h
        exact h
      have eds := ints_of h'
      have hlen : ds.length = (ds.map intOf).length := (List.length_map ..).symm
      have hzn := hz ds rfl
      have geti : ∀ i, i < ds.length → ds[i]? = some (.int ((ds.map intOf).getD i 0)) := fun i hi => by
        have h1 : (ds.map intOf)[i]? = some (intOf ds[i]) := by rw [List.getElem?_map, List.getElem?_eq_getElem hi]; rfl
        rw [List.getD_eq_getElem?_getD, h1]
        conv => lhs; rw [eds]
        rw [List.getElem?_map, h1]
        rfl
      refine s_retD (d' := .bool (risingB (.tuple ds) m)) (ev_allR (n := ds.length - 1) (fun i => decide ((ds.map intOf).getD i 0 < (ds.map intOf).getD (i + 1) 0)) (ea1 (ev_op (ev_lenT (ev_var rfl (hv.mono e1))) ev_int rd_sub)) (by omega) (by omega) (by omega) (fun _ => rfl)
        (fun i H2 e2 hi => ev_op (ev_op (ev_var rfl (hv.mono (e1.trans e2))) (ev_var rfl (.int _)) (rd_ix (.inr rfl) (atI_n rfl (geti i (Nat.lt_of_lt_of_le hi (Nat.sub_le _ _)))))) (ev_op (ev_var rfl (hv.mono (e1.trans e2))) (ev_op (ev_var rfl (.int _)) ev_int rd_addI) (rd_ix (.inr rfl) (atI_n (Int.natCast_succ _).symm (geti (i + 1) (by omega))))) rd_lt)) ?_
        fun v H2 e2 hv => q _ v H2 hp (e1.trans e2) hv
      show _ = PyData.bool (ds.all (fun d => below d m) && risingI (ds.map intOf))
      rw [h', Bool.true_and]
      unfold risingI
      rw [← hlen]
    | _ => cases h
/-- slots: value 0, many 1, most 2, one 3 -/
theorem sc_are_places : FnScope ["value", "many", "most", "one"] ["value", "many", "most"] (defScope s_are_places) := ⟨rfl, rfl, rfl, by decide +kernel, rfl, by decide +kernel, by decide +kernel⟩
theorem ok_are_places (F : Fun K "are_places" "are_places" s_are_places f fd) (B : Blt mg) (G_is_below : Fn P w K mg base CX0 2 "is_below" ["value", "most"] (SpD K pre_below)) : FnOk P w K mg base CX0 3 f fd ["value", "many", "most"] (SpD K pre_places) := by
  refine F.ok sc_are_places (spd_len fun ds Post h => by obtain ⟨x, n, m, rfl, _⟩ := h; rfl) (fun cdv A outer s H vs Q E hr h => ?_)
  obtain ⟨ds, Post, a, ⟨x, n, m, rfl, hz, hp⟩, q⟩ := h
  refine ⟨_, (pss_one (ps_ret (pe_and (pe_callB (isi_K (K := K) rfl) (by rfl) B.isinstance (by decide +kernel) (pa_cons (pv 0) (pa_cons (pe_bltn (v := .ty "tuple") (by rfl) B.tuple (by decide +kernel) rfl) pa_nil))) (pe_and (pe_cmpR (op_eqK (K := K) rfl hr.units) (pe_callB (len_K (K := K) rfl) (by rfl) B.len PySem.boot_len (pa_cons (pv 0) pa_nil)) (pv 1) (nomark _)) (pe_one (pe_callB (all_K (K := K) rfl rfl) (by rfl) B.all (by decide +kernel) (pa_cons (pe_lc (own := [("one", 3)]) rfl sc_are_places.nd (seq_K (K := K) rfl (pv 0)) (blkOk_by (own := [("one", 3)]) (N := ["value", "many", "most", "one"]) (sc := (defScope s_are_places)) (by decide +kernel)) (fun _ _ _ _ _ => (pg_name (i := 3) sc_are_places.nd rfl (Or.inl rfl))) (fun _ _ _ _ _ => pts_nil) (fun _ _ _ _ _ => (pe_fn G_is_below (hr.mono (by decide)) (by rfl) pass0 (pa_cons (pv 3) (pa_cons (pv 2) pa_nil))))) pa_nil))))))), ?_⟩
  obtain ⟨v, k, u, rfl, hv, hk, hu⟩ := all3 a
  refine s_ret (P := IsD K (.bool (placesB x n m))) (ev_is (ev_andV (b := placesB x n m) (ev_isTup (ev_var rfl hv)) fun h => ?_) ?_) fun v H1 e hv => q _ v H1 hp e hv
  · cases x with
    | tuple ds =>
      refine ev_is (ev_andV (a := decide (ds.length = n)) (b := ds.all fun d => below d m) (ev_is (ev_op (ev_lenT (ev_var rfl hv)) (ev_var rfl hk) rd_eqI) ?_) fun _ => ev_allS (fun d => below d m) (.inr rfl) (ev_var rfl hv) (Nat.le_trans (hz ds rfl) (by decide)) (fun _ => rfl) (fun d hd y H1 e1 hy => ev_callF (ea2 (ev_var rfl hy) (ev_var rfl (hu.mono e1))) ⟨d, m, rfl, rfl⟩)) rfl
      congr 1
      rw [decide_eq_decide]
      omega
    | _ => cases h
  · cases x <;> rfl
end
end K33

set_option Elab.async false
set_option linter.all false
set_option maxRecDepth 100000
set_option maxHeartbeats 4000000
/-! core_stays: clashes, crowds. -/
namespace K33
open PySem PySem.Spec PyProof.Rows L2
/-! ### the mirrors -/
/-- a stay: the box, its coming, its going -/
structure Stay where
  nm : Str
  b : Int
  e : Int
def stD (s : Stay) : PyData := .tuple [.str s.nm, .int s.b, .int s.e]
def cutB (a b : Stay) : Bool := decide (a.b < b.b) && (decide (b.b < a.e) && decide (a.e < b.e))
def clash (a b : Stay) : Bool := cutB a b || cutB b a
theorem clash_comm (a b : Stay) : clash a b = clash b a := Bool.or_comm ..
def natD (n : Nat) : PyData := .int (n : Int)
def noStay : Stay := ⟨Str.empty, 0, 0⟩
def clT (sts : List Stay) (i j : Nat) : Bool := clash (sts.getD i noStay) (sts.getD j noStay)
def rowT (T : Nat → Nat → Bool) (n a : Nat) : PyData := .list ((List.range n).map fun b => .bool (T a b))
def tabT (T : Nat → Nat → Bool) (n : Nat) : PyData := .list ((List.range n).map (rowT T n))
def rowD (l : List Nat) : PyData := .tuple (l.map natD)
def stOf : PyData → Stay
  | .tuple [.str n, .int b, .int e] => ⟨n, b, e⟩
  | _ => noStay
theorem range_map {α β : Type} (l : List α) (d : α) (f : α → β) : l.map f = (List.range l.length).map fun i => f (l.getD i d) := by
  apply List.ext_getElem?
  intro i
  rw [List.getElem?_map, List.getElem?_map]
  by_cases hi : i < l.length
  · rw [List.getElem?_range hi, List.getElem?_eq_getElem hi]
    simp [hi]
  · rw [List.getElem?_eq_none (by omega), List.getElem?_eq_none (by rw [List.length_range]; omega)]
    rfl
theorem tab_of (sts : List Stay) : PyData.list (sts.map fun a => .list (sts.map fun b => .bool (clash a b))) = tabT (clT sts) sts.length := by
  unfold tabT
  congr 1
  rw [range_map sts noStay]
  apply List.map_congr_left
  intro i _
  unfold rowT
  rw [range_map sts noStay]
  rfl
/-- all pairs clash -/
def allClash (T : Nat → Nat → Bool) (ns : List Nat) : Bool := (List.range ns.length).all fun i => (ns.drop (i + 1)).all fun b => T (ns.getD i 0) b
theorem allClash_iff {T : Nat → Nat → Bool} : ∀ {ns : List Nat}, allClash T ns = true ↔ ns.Pairwise fun a b => T a b = true
  | [] => Iff.intro (fun _ => .nil) fun _ => rfl
  | a :: ns => by
    have e : allClash T (a :: ns) = (ns.all (fun b => T a b) && allClash T ns) := by
      unfold allClash
      rw [List.length_cons, List.range_succ_eq_map, List.all_cons, List.all_map]
      rfl
    rw [e, Bool.and_eq_true, allClash_iff, List.pairwise_cons, List.all_eq_true]
def afterD (ns : List Nat) : PyData → List PyData
  | .tuple [.int i, _] => (ns.drop (i.toNat + 1)).map natD
  | _ => []
def hitD (T : Nat → Nat → Bool) : PyData → PyData → PyData
  | .tuple [_, .int a], .int b => .bool (T a.toNat b.toNat)
  | _, _ => .bool false
theorem enum_nat {ns : List Nat} {d : PyData} (h : d ∈ enumD (ns.map natD)) : ∃ i a : Nat, ns[i]? = some a ∧ d = .tuple [.int (i : Int), natD a] := by
  obtain ⟨i, hi⟩ := List.getElem?_of_mem h
  obtain ⟨x, hx, rfl⟩ := enumD_get hi
  rw [List.getElem?_map] at hx
  cases ha : ns[i]? with
  | none => rw [ha] at hx; cases hx
  | some a =>
    rw [ha] at hx
    cases hx
    exact ⟨i, a, ha, rfl⟩
theorem sIx_at {n d i : Nat} (h : i ≤ n) : HT.sIx n d (some (i : Int)) = i := by
  rw [HT.sIx_nat, Nat.min_eq_left h]
theorem flatMap_congr {α β : Type} {f g : α → List β} : ∀ {l : List α}, (∀ x ∈ l, f x = g x) → l.flatMap f = l.flatMap g
  | [], _ => rfl
  | a :: l, h => by rw [List.flatMap_cons, List.flatMap_cons, h a (List.mem_cons_self ..), flatMap_congr fun x hx => h x (List.mem_cons_of_mem _ hx)]
/-! ### the promises -/
def pre_cut : Pr := fun ds Post => ∃ a b, ds = [stD a, stD b] ∧ Post (.bool (cutB a b))
def pre_apart : Pr := fun ds Post => ∃ a b, ds = [stD a, stD b] ∧ Post (.bool (clash a b))
def pre_clashes : Pr := fun ds Post => ∃ sts : List Stay, ds = [.list (sts.map stD)] ∧ sts.length ≤ 1000 ∧ Post (tabT (clT sts) sts.length)
def pre_all_clash : Pr := fun ds Post => ∃ T n, ∃ ns : List Nat, ds = [tabT T n, rowD ns] ∧ (∀ x ∈ ns, x < n) ∧ n ≤ 1000 ∧ ns.length ≤ 900 ∧ Post (.bool (allClash T ns))
def crowdD : List (List Nat) → PyData
  | [] => .none
  | l :: _ => rowD l
def pre_crowd : Pr := fun ds Post => ∃ T, ∃ n k : Nat, ds = [tabT T n, .int k] ∧ n ≤ 6 ∧ k ≤ 6 ∧ Post (crowdD (crowds T n k))
section
variable {K : Fg} {σ : L2.St} {H H' : Hp} {ta tb te tx tl tc td : TE} {tr : TA} {t u : TT} {x y z d w : PyData} {v : V} {P : VP} {r r' r2 : R2} {wi : TI} {g : TG}
theorem ev_chain3 {b c e : Bool} (ha : Ev ta σ H (IsD K x)) (hb : Ev tb σ H (IsD K y)) (hc : Ev tc σ H (IsD K z)) (hd : Ev td σ H (IsD K w)) (h1 : RD K r x y (.bool b)) (h2 : RD K r' y z (.bool c)) (h3 : RD K r2 z w (.bool e)) :
    Ev (tChain3 r r' r2 ta tb tc td) σ H (IsD K (.bool (b && (c && e)))) := fun H1 e1 Q q =>
  ha H1 e1 _ fun v H2 e2 hv => hb H2 (e1.trans e2) _ fun u H3 e3 hu => h1 H3 v u (Is.mono e3 hv) hu _ fun s H4 e4 hs => by
    cases hs
    refine ⟨b, rfl, ?_⟩
    cases b with
    | false => exact q _ H4 ((e2.trans e3).trans e4) (.bl false)
    | true =>
      refine hc H4 (((e1.trans e2).trans e3).trans e4) _ fun w' H5 e5 hw' => h2 H5 u w' (Is.mono (e4.trans e5) hu) hw' _ fun s2 H6 e6 hs2 => ?_
      cases hs2
      refine ⟨c, rfl, ?_⟩
      cases c with
      | false => exact q _ H6 ((((e2.trans e3).trans e4).trans e5).trans e6) (.bl false)
      | true => exact hd H6 (((((e1.trans e2).trans e3).trans e4).trans e5).trans e6) _ fun w2 H7 e7 hw2 => h3 H7 w' w2 (Is.mono (e6.trans e7) hw') hw2 Q fun s3 H8 e8 hs3 => q s3 H8 ((((((e2.trans e3).trans e4).trans e5).trans e6).trans e7).trans e8) hs3
/-! lists of lists -/
inductive RowsIs (K : Fg) (H : Hp) (Dl : Addr) : List V → List (List PyData) → Prop
  | nil : RowsIs K H Dl [] []
  | cons {p : Addr} {ys : List V} {r : List PyData} {vs : List V} {rs : List (List PyData)} : p ≠ Dl → H p = some (.lst ys) → AllIs K H ys r → nlAll r = true → RowsIs K H Dl vs rs → RowsIs K H Dl (.ref p :: vs) (r :: rs)
theorem RowsIs.mono {Dl : Addr} (e : Same H H') : ∀ {vs : List V} {rs : List (List PyData)}, RowsIs K H Dl vs rs → RowsIs K H' Dl vs rs
  | _, _, .nil => .nil
  | _, _, .cons a b c d t => .cons a (e _ _ b) (c.mono e) d (t.mono e)
theorem RowsIs.upd {Dl : Addr} {xs ys : List V} (h : H Dl = some (.lst xs)) : ∀ {vs : List V} {rs : List (List PyData)}, RowsIs K H Dl vs rs → RowsIs K (upd H Dl (.lst ys)) Dl vs rs
  | _, _, .nil => .nil
  | _, _, .cons a b c d t => .cons a (by rw [upd_ne a]; exact b) (AllIs.monoT (SameT.of_lst h) d c) d (t.upd h)
theorem RowsIs.snoc {Dl p : Addr} {ys : List V} {r : List PyData} (a : p ≠ Dl) (b : H p = some (.lst ys)) (c : AllIs K H ys r) (d : nlAll r = true) : ∀ {vs : List V} {rs : List (List PyData)}, RowsIs K H Dl vs rs → RowsIs K H Dl (vs ++ [.ref p]) (rs ++ [r])
  | _, _, .nil => .cons a b c d .nil
  | _, _, .cons a' b' c' d' t => .cons a' b' c' d' (RowsIs.snoc a b c d t)
theorem RowsIs.all {Dl : Addr} : ∀ {vs : List V} {rs : List (List PyData)}, RowsIs K H Dl vs rs → AllIs K H vs (rs.map .list)
  | _, _, .nil => .nil
  | _, _, .cons a b c d t => .cons (.lst b c) t.all
theorem RowsIs.len {Dl : Addr} : ∀ {vs : List V} {rs : List (List PyData)}, RowsIs K H Dl vs rs → vs.length = rs.length
  | _, _, .nil => rfl
  | _, _, .cons a b c d t => by rw [List.length_cons, List.length_cons, t.len]
theorem el_rows {ds : List PyData} {vs : List Nat} (h : EvW K Same wi σ H ds) (gg : PyData → List PyData) (hz : ds.length ≤ 1000000)
    (hb : ∀ d ∈ ds, ∀ v H1, Same H H1 → Is K H1 v d → ∀ R : L2.St → Hp → Prop, (∀ σ2, wipe σ2 vs = wipe σ vs → EvL K te σ2 H1 (gg d) → R σ2 H1) → g v (wipe σ vs) H1 R)
    (hnl : ∀ d ∈ ds, nlAll (gg d) = true) : EvL K (tLc wi g tYes te vs) σ H (ds.map fun d => .list (gg d)) := fun H0 e Q q => h H0 e _ fun J H1 e1 w Dl hD => by
  refine it_loop w (fun i H' => H1 Dl = none ∧ Same H1 H' ∧ ∃ xs, H' Dl = some (.lst xs) ∧ RowsIs K H' Dl xs ((ds.take i).map gg)) (fun x H' Nx => g x (wipe σ vs) H' fun σ2 H2 => wipe σ2 vs = wipe σ vs ∧ tYes σ2 H2 fun b H3 => if b = true then te σ2 H3 fun y H4 => ∃ acc, H4 Dl = some (.lst acc) ∧ acc.length < sizeLine ∧ Nx (upd H4 Dl (.lst (acc ++ [y]))) else Nx H3) _
    ⟨hD, Same.new hD, [], upd_same, .nil⟩ (fun i H' _ p => p.2.1) (fun i d v H2 H3 hd p e3 hv => ?_) (fun H' p => ?_)
  · obtain ⟨p1, p2, xs, p3, p4⟩ := p
    have hm : d ∈ ds := List.mem_of_getElem? hd
    have e2 : Same H H3 := ((e.trans e1).trans p2).trans e3
    have et : ds.take (i + 1) = ds.take i ++ [d] := by rw [List.take_add_one, hd]; rfl
    refine hb d hm v H3 e2 hv _ fun σ2 hw he => ⟨hw, ?_⟩
    refine he H3 (Same.refl _) _ fun p ys H4 hp e4 h4 ha => ⟨xs, (e3.trans e4) _ _ p3, ?_, p1, Same.mut (p2.trans (e3.trans e4)) p1, xs ++ [.ref p], upd_same, ?_⟩
    · have hi := (List.getElem?_eq_some_iff.mp hd).1
      have hl := p4.len
      rw [List.length_map, List.length_take] at hl
      rw [sizeLine_eq]
      omega
    · have hne : p ≠ Dl := fun z => by
        rw [z, e3 _ _ p3] at hp
        cases hp
      rw [et, List.map_append]
      have hD4 := (e3.trans e4) _ _ p3
      have a4 : AllIs K (upd H4 Dl (.lst (xs ++ [.ref p]))) ys (gg d) := AllIs.monoT (SameT.of_lst hD4) (hnl d hm) ha
      exact (((p4.mono (e3.trans e4)).upd hD4).snoc hne (by rw [upd_ne hne]; exact h4) a4 (hnl d hm))
  · obtain ⟨p1, p2, xs, p3, p4⟩ := p
    rw [List.take_length] at p4
    refine q Dl xs H' (e1.free p1) (e1.trans p2) p3 ?_
    have := p4.all
    rw [List.map_map] at this
    exact this
/-- xs.extend(list) -/
theorem s_ext {D : Ends} {l : Addr} {xs : List V} {ds : List PyData} (hl : H l = some (.lst xs)) (ha : Ev ta σ H (fun w _ => w = .ref l)) (h : EvL K te σ H ds) (hz : xs.length + ds.length ≤ 1000000) (k : ∀ ys H1, Same H H1 → AllIs K H1 ys ds → D.nx σ (upd H1 l (.lst (xs ++ ys)))) :
    tDrop (tBM K "list" rExtend ta (tCons te tNil)) D σ H := ha H (Same.refl H) _ fun w H1 e1 hw => by
  subst hw
  exact ⟨.inl ⟨rfl, xs, SqL.of (e1 l _ hl)⟩, h H1 e1 _ fun p ys H2 _ e2 hp a => ⟨l, p, xs, ys, rfl, rfl, e2 l _ (e1 l _ hl), hp, by rw [a.len]; exact big hz, k ys H2 (e1.trans e2) a⟩⟩
theorem rd_tab {T : Nat → Nat → Bool} {n a : Nat} (ha : a < n) : RD K (rIx K) (tabT T n) (natD a) (rowT T n a) := rd_ix (.inl rfl) (atI_n rfl (by rw [List.getElem?_map, List.getElem?_range ha]; rfl))
theorem rd_row {T : Nat → Nat → Bool} {n a b : Nat} (hb : b < n) : RD K (rIx K) (rowT T n a) (natD b) (.bool (T a b)) := rd_ix (.inl rfl) (atI_n rfl (by rw [List.getElem?_map, List.getElem?_range hb]; rfl))
end
section
variable {P : Program} {w : World} {K : Fg} {mg : Str → Option Value} {base : Heap} {f : Addr} {fd : FuncData}
/-- slots: one 0, other 1 -/
theorem sc_is_cut_by : FnScope ["one", "other"] ["one", "other"] (defScope s_is_cut_by) := ⟨rfl, rfl, rfl, by decide +kernel, rfl, by decide +kernel, by decide +kernel⟩
theorem ok_is_cut_by (F : Fun K "is_cut_by" "is_cut_by" s_is_cut_by f fd) (B : Blt mg) : FnOk P w K mg base CX0 1 f fd ["one", "other"] (SpD K pre_cut) := by
  refine F.ok sc_is_cut_by (spd_len fun ds Post h => by obtain ⟨a, b, rfl, _⟩ := h; rfl) (fun cdv A outer s H vs Q E hr h => ?_)
  obtain ⟨ds, Post, a, ⟨x, y, rfl, hp⟩, q⟩ := h
  refine ⟨_, (pss_one (ps_ret (pe_chain3 op_lt op_lt op_lt (pe_ix (ix_K (K := K) rfl) (pv 0) pe_int (fun _ _ => rfl)) (pe_ix (ix_K (K := K) rfl) (pv 1) pe_int (fun _ _ => rfl)) (pe_ix (ix_K (K := K) rfl) (pv 0) pe_int (fun _ _ => rfl)) (pe_ix (ix_K (K := K) rfl) (pv 1) pe_int (fun _ _ => rfl))))), ?_⟩
  obtain ⟨v, u, rfl, hv, hu⟩ := all2 a
  have i1 : ∀ s : Stay, atI [PyData.str s.nm, .int s.b, .int s.e] 1 = some (.int s.b) := fun s => atI_n (j := 1) rfl rfl
  have i2 : ∀ s : Stay, atI [PyData.str s.nm, .int s.b, .int s.e] 2 = some (.int s.e) := fun s => atI_n (j := 2) rfl rfl
  exact s_retD (ev_chain3 (ev_op (ev_var rfl hv) ev_int (rd_ix (.inr rfl) (i1 x))) (ev_op (ev_var rfl hu) ev_int (rd_ix (.inr rfl) (i1 y))) (ev_op (ev_var rfl hv) ev_int (rd_ix (.inr rfl) (i2 x))) (ev_op (ev_var rfl hu) ev_int (rd_ix (.inr rfl) (i2 y))) rd_lt rd_lt rd_lt) rfl
    fun v H1 e hv => q _ v H1 hp e hv
/-- slots: one 0, other 1 -/
theorem sc_are_apart : FnScope ["one", "other"] ["one", "other"] (defScope s_are_apart) := ⟨rfl, rfl, rfl, by decide +kernel, rfl, by decide +kernel, by decide +kernel⟩
theorem ok_are_apart (F : Fun K "are_apart" "are_apart" s_are_apart f fd) (B : Blt mg) (G_is_cut_by : Fn P w K mg base CX0 1 "is_cut_by" ["one", "other"] (SpD K pre_cut)) : FnOk P w K mg base CX0 2 f fd ["one", "other"] (SpD K pre_apart) := by
  refine F.ok sc_are_apart (spd_len fun ds Post h => by obtain ⟨a, b, rfl, _⟩ := h; rfl) (fun cdv A outer s H vs Q E hr h => ?_)
  obtain ⟨ds, Post, a, ⟨x, y, rfl, hp⟩, q⟩ := h
  refine ⟨_, (pss_one (ps_ret (pe_or (pe_fn G_is_cut_by (hr.mono (by decide)) (by rfl) pass0 (pa_cons (pv 0) (pa_cons (pv 1) pa_nil))) (pe_one (pe_fn G_is_cut_by (hr.mono (by decide)) (by rfl) pass0 (pa_cons (pv 1) (pa_cons (pv 0) pa_nil))))))), ?_⟩
  obtain ⟨v, u, rfl, hv, hu⟩ := all2 a
  exact s_retD (ev_orV (ev_callF (ea2 (ev_var rfl hv) (ev_var rfl hu)) ⟨x, y, rfl, rfl⟩) fun _ => ev_callF (ea2 (ev_var rfl hu) (ev_var rfl hv)) ⟨y, x, rfl, rfl⟩) rfl fun v H1 e hv => q _ v H1 hp e hv
/-- slots: found 0, one 1, other 2 -/
theorem sc_clashes_of : FnScope ["found", "one", "other"] ["found"] (defScope s_clashes_of) := ⟨rfl, rfl, rfl, by decide +kernel, rfl, by decide +kernel, by decide +kernel⟩
theorem ok_clashes_of (F : Fun K "clashes_of" "clashes_of" s_clashes_of f fd) (B : Blt mg) (G_are_apart : Fn P w K mg base CX0 2 "are_apart" ["one", "other"] (SpD K pre_apart)) : FnOk P w K mg base CX0 3 f fd ["found"] (SpD K pre_clashes) := by
  refine F.ok sc_clashes_of (spd_len fun ds Post h => by obtain ⟨a, rfl, _⟩ := h; rfl) (fun cdv A outer s H vs Q E hr h => ?_)
  obtain ⟨ds, Post, a, ⟨sts, rfl, hz, hp⟩, q⟩ := h
  refine ⟨_, (pss_one (ps_ret (pe_lc (own := [("one", 1)]) rfl sc_clashes_of.nd (seq_K (K := K) rfl (pv 0)) (blkOk_by (own := [("one", 1)]) (N := ["found", "one", "other"]) (sc := (defScope s_clashes_of)) (by decide +kernel)) (fun _ _ _ _ _ => (pg_name (i := 1) sc_clashes_of.nd rfl (Or.inr rfl))) (fun _ _ _ _ _ => pts_nil) (fun _ _ _ _ _ => (pe_lc (own := [("other", 2)]) rfl sc_clashes_of.nd (seq_K (K := K) rfl (pv 0)) (blkOk_by (own := [("other", 2)]) (N := ["found", "one", "other"]) (sc := (relS (lcS (retE (defBody s_clashes_of))) (defScope s_clashes_of))) (by decide +kernel)) (fun _ _ _ _ _ => (pg_name (i := 2) sc_clashes_of.nd rfl (Or.inl rfl))) (fun _ _ _ _ _ => pts_nil) (fun _ _ _ _ _ => (pe_fn G_are_apart (hr.mono (by decide)) (by rfl) pass0 (pa_cons (pv 1) (pa_cons (pv 2) pa_nil))))))))), ?_⟩
  obtain ⟨v, rfl, hv⟩ := all1 a
  have hz1 : (sts.map stD).length ≤ 1000000 := by rw [List.length_map]; omega
  refine s_retD (el_rows (ew_seq (.inl rfl) (ev_var rfl hv)) (fun d => (sts.map stD).map fun d' => .bool (clash (stOf d) (stOf d'))) hz1 (fun d hd y H1 e1 hy R k => g_nm (k _ rfl (el_mapS (fun d' => .bool (clash (stOf d) (stOf d'))) (.inl rfl) (ev_var rfl (hv.mono e1)) hz1 (fun _ => rfl) (fun d' hd' y' H2 e2 hy' => ?_) (fun _ _ => rfl)))) (fun d hd => nlAll_map (fun _ => rfl) _)).ev ?_ fun v H1 e hv => q _ v H1 hp e hv
  · obtain ⟨s1, _, rfl⟩ := List.mem_map.mp hd
    obtain ⟨s2, _, rfl⟩ := List.mem_map.mp hd'
    exact ev_callF (ea2 (ev_var rfl (hy.mono e2)) (ev_var rfl hy')) ⟨s1, s2, rfl, rfl⟩
  · rw [← tab_of]
    congr 1
    rw [List.map_map]
    apply List.map_congr_left
    intro s1 _
    show PyData.list _ = _
    rw [List.map_map]
    rfl
/-- slots: table 0, numbers 1, at 2, a 3, b 4 -/
theorem sc_all_clash : FnScope ["table", "numbers", "at", "a", "b"] ["table", "numbers"] (defScope s_all_clash) := ⟨rfl, rfl, rfl, by decide +kernel, rfl, by decide +kernel, by decide +kernel⟩
theorem ok_all_clash (F : Fun K "all_clash" "all_clash" s_all_clash f fd) (B : Blt mg) : FnOk P w K mg base CX0 1 f fd ["table", "numbers"] (SpD K pre_all_clash) := by
  refine F.ok sc_all_clash (spd_len fun ds Post h => by obtain ⟨T, n, a, rfl, _⟩ := h; rfl) (fun cdv A outer s H vs Q E hr h => ?_)
  obtain ⟨ds, Post, a, ⟨T, n, ns, rfl, hlt, hn, hz, hp⟩, q⟩ := h
  refine ⟨_, (pss_one (ps_ret (pe_callB (all_K (K := K) rfl rfl) (by rfl) B.all (by decide +kernel) (pa_cons (pe_lc2 (own := [("at", 2), ("a", 3), ("b", 4)]) (vs1 := [4]) rfl sc_all_clash.nd (enumT_K (K := K) rfl (by rfl) B.enumerate (pa_cons (pv 1) pa_nil)) (blkOk_by (own := [("at", 2), ("a", 3), ("b", 4)]) (N := ["table", "numbers", "at", "a", "b"]) (sc := (defScope s_all_clash)) (by decide +kernel)) (by decide) (fun _ _ _ _ _ => (tupg_K (K := K) (n := 2) rfl rfl (pgs_cons (pg_name (i := 2) sc_all_clash.nd rfl (Or.inl rfl)) (pgs_cons (pg_name (i := 3) sc_all_clash.nd rfl (Or.inl rfl)) pgs_nil)))) (fun _ _ _ _ _ => pts_nil) (fun _ _ _ _ _ => (seq_K (K := K) rfl (pe_slice (sl_K (K := K) rfl) (pv 1) (po_some (pe_op (op_addK (K := K) rfl) (pv 2) pe_int)) po_none))) (fun _ _ _ _ _ => (pg_name (i := 4) sc_all_clash.nd rfl (Or.inl rfl))) (fun _ _ _ _ _ => pts_nil) (fun _ _ _ _ _ => (pe_ix (ix_K (K := K) rfl) (pe_ix (ix_K (K := K) rfl) (pv 0) (pv 3) (fun _ _ => rfl)) (pv 4) (fun _ _ => rfl)))) pa_nil)))), ?_⟩
  obtain ⟨v, u, rfl, hv, hu⟩ := all2 a
  refine s_retD (ev_all (bs := (List.range ns.length).flatMap fun i => (ns.drop (i + 1)).map fun b => T (ns.getD i 0) b) (ev_is (el_lc2W 900 (ew_enumT (ea1 (ev_var rfl hu))) (afterD ns) (fun _ _ => true) (hitD T) ?_ ?_ (by decide) (fun d hd y H1 e1 hy R k => ?_) (fun d hd d1 hd1 _ => ?_)).ev ?_)) ?_ fun v H1 e hv => q _ v H1 hp e hv
  · intro d hd
    obtain ⟨i, a, hi, rfl⟩ := enum_nat hd
    show ((ns.drop _).map natD).length ≤ 900
    rw [List.length_map, List.length_drop]
    omega
  · rw [enumD_len, List.length_map]
    omega
  · obtain ⟨i, a, hi, rfl⟩ := enum_nat hd
    have hil := (List.getElem?_eq_some_iff.mp hi).1
    refine g_tup2 hy fun p p2 hp hp2 => ?_
    have hv1 := hv.mono e1
    have hu1 := hu.mono e1
    refine k _ rfl ?_ fun d1 hd1 y1 H2 e2 hy1 R1 k1 => ?_
    · have e0 : afterD ns (.tuple [.int (i : Int), natD a]) = cutD (ns.map natD) (some ((i : Int) + 1)) none := by
        show (ns.drop (i + 1)).map natD = _
        unfold cutD
        have e1 : HT.sIx (ns.map natD).length 0 (some ((i : Int) + 1)) = i + 1 := by
          rw [List.length_map]
          have := sIx_at (n := ns.length) (d := 0) (i := i + 1) hil
          rw [← this]
          congr 1
        have e2 : HT.sIx (ns.map natD).length (ns.map natD).length none = (ns.map natD).length := rfl
        rw [e1, e2, ← List.map_drop, List.take_of_length_le]
        rw [List.length_map, List.length_map, List.length_drop]
        omega
      rw [e0]
      refine ew_tupT ?_ (ev_slT (ev_var rfl hu1) (eo_some (ev_op (ev_var rfl hp) ev_int rd_addI)) eo_none)
      rw [← e0]
      exact nlAll_map (fun _ => rfl) _
    · obtain ⟨b, hb, rfl⟩ := List.mem_map.mp hd1
      refine g_nm (k1 _ rfl et_yes fun _ => ?_)
      have ha : a < n := hlt a (List.mem_of_getElem? hi)
      have hbn : b < n := hlt b (List.mem_of_mem_drop hb)
      cases hp2
      exact ev_is (ev_op (ev_op (ev_var rfl (hv.mono e2)) (ev_var rfl (.int _)) (rd_tab ha)) (ev_var rfl hy1) (rd_row hbn)) rfl
  · obtain ⟨i, a, hi, rfl⟩ := enum_nat hd
    obtain ⟨b, hb, rfl⟩ := List.mem_map.mp hd1
    rfl
  · congr 1
    unfold flat2 enumD
    rw [List.flatMap_map, List.map_flatMap, List.length_map]
    apply flatMap_congr
    intro i hi
    have hi := List.mem_range.mp hi
    rw [List.filter_eq_self.mpr (fun _ _ => rfl), List.map_map]
    show ((ns.drop (i + 1)).map natD).map _ = _
    rw [List.map_map]
    apply List.map_congr_left
    intro b _
    have e : (ns.map natD).getD i .none = natD (ns.getD i 0) := by
      simp [hi]
    show hitD T (.tuple [.int i, (ns.map natD).getD i .none]) (natD b) = _
    rw [e]
    rfl
  · congr 1
    rw [List.all_flatMap]
    unfold allClash
    congr 1
    funext i
    rw [List.all_map]
    rfl
end
end K33

set_option Elab.async false
set_option linter.all false
set_option maxRecDepth 100000
set_option maxHeartbeats 4000000
/-! core_stays: crowd_of, parting_into. -/
namespace K33
open PySem PySem.Spec PyProof.Rows L2
/-- a parting or none -/
def PartD (T : Nat → Nat → Bool) (n m : Nat) (d : PyData) : Prop := (d = .none ∧ ∀ c, ¬ Col T n m c) ∨ ∃ row, d = rowD row ∧ Col T n m row
def pre_parting : Pr := fun ds Post => ∃ T, ∃ n m : Nat, ds = [tabT T n, .int m] ∧ n ≤ 1000 ∧ ∀ d, PartD T n m d → Post d
def intN : PyData → Nat
  | .int i => i.toNat
  | _ => 0
theorem atI_last {α : Type} {l : List α} {x : α} : atI (l ++ [x]) (-1) = some x := by
  have h : ixN (l ++ [x]).length (-1) = some l.length := by
    unfold ixN
    rw [List.length_append]
    simp
    omega
  unfold atI
  rw [h]
  simp
section
variable {K : Fg} {σ : L2.St} {H H' : Hp} {ta tb te tx tl tc td : TE} {tr : TA} {t u : TT} {x y z d w : PyData} {v : V} {P : VP} {r r' r2 : R2} {wi : TI} {g : TG} {D : Ends} {tz : TS}
theorem q_ext {l : Addr} {xs : List V} {ds : List PyData} (hl : H l = some (.lst xs)) (ha : Ev ta σ H (fun w _ => w = .ref l)) (h : EvL K te σ H ds) (hz : xs.length + ds.length ≤ 1000000) (k : ∀ ys H1, Same H H1 → AllIs K H1 ys ds → tz D σ (upd H1 l (.lst (xs ++ ys)))) :
    tSeq (tDrop (tBM K "list" rExtend ta (tCons te tNil))) tz D σ H := s_ext (D := { D with nx := tz D }) hl ha h hz k
theorem allNat {vs : List V} {ns : List Nat} (a : AllIs K H vs (ns.map natD)) : vs = ns.map fun (n : Nat) => V.int (n : Int) := by
  have e : ns.map natD = (ns.map fun (n : Nat) => (n : Int)).map PyData.int := by rw [List.map_map]; rfl
  rw [e] at a
  have := AllIs.ints a
  rw [List.map_map] at this
  exact this
theorem allNat' (ns : List Nat) : AllIs K H (ns.map fun (n : Nat) => V.int (n : Int)) (ns.map natD) := by
  have := AllIs.of_ints (K := K) (H := H) (ns.map fun (n : Nat) => (n : Int))
  rw [List.map_map, List.map_map] at this
  exact this
theorem Acc.ext {H0 H1 : Hp} {Dl : Addr} {acc ds : List PyData} {xs ys : List V} (p : Acc K H0 Dl acc H1) (hx : H1 Dl = some (.lst xs)) (hy : AllIs K H1 ys ds) (hn : nlAll ds = true) : Acc K H0 Dl (acc ++ ds) (upd H1 Dl (.lst (xs ++ ys))) := by
  obtain ⟨a, b, xs', c, dd, n⟩ := p
  rw [c] at hx
  cases hx
  refine ⟨a, Same.mut b a, xs ++ ys, upd_same, (AllIs.monoT (SameT.of_lst c) n dd).append (AllIs.monoT (SameT.of_lst c) hn hy), ?_⟩
  rw [nlAll_append, n, hn] <;> rfl
end
theorem nlAll_rows (l : List (List Nat)) : nlAll (l.map rowD) = true := nlAll_map (f := rowD) (fun x => nlAll_map (f := natD) (fun _ => rfl) x) l
theorem behind_last {l : List Nat} {x : Nat} : behind (l ++ [x]) = x + 1 := by
  unfold behind
  rw [List.getLast?_append]
  rfl
section
variable {P : Program} {w : World} {K : Fg} {mg : Str → Option Value} {base : Heap} {f : Addr} {fd : FuncData}
/-- slots: table 0, size 1, rows 2, _ 3, longer 4, row 5, begin 6, b 7, a 8 -/
theorem sc_crowd_of : FnScope ["table", "size", "rows", "_", "longer", "row", "begin", "b", "a"] ["table", "size"] (defScope s_crowd_of) := ⟨rfl, rfl, rfl, by decide +kernel, rfl, by decide +kernel, by decide +kernel⟩
theorem ok_crowd_of (F : Fun K "crowd_of" "crowd_of" s_crowd_of f fd) (B : Blt mg) : FnOk P w K mg base CX0 1 f fd ["table", "size"] (SpD K pre_crowd) := by
  refine F.ok sc_crowd_of (spd_len fun ds Post h => by obtain ⟨T, n, k, rfl, _⟩ := h; rfl) (fun cdv A outer s H vs Q E hr h => ?_)
  obtain ⟨ds, Post, a, ⟨T, n, k, rfl, hn, hk, hp⟩, q⟩ := h
  refine ⟨_, (pss_cons (ps_set (i := 2) sc_crowd_of.nd rfl (Or.inl rfl) (pe_lst (pa_cons (pe_tup pa_nil) pa_nil)))
      (pss_cons (ps_for PassesOwn.never rfl (pi_range1 (by rfl) B.range (pa_cons (pv 1) pa_nil)) (pg_name (i := 3) sc_crowd_of.nd rfl (Or.inl rfl)) (pss_cons (ps_set (i := 4) sc_crowd_of.nd rfl (Or.inl rfl) (pe_lst pa_nil))
      (pss_cons (ps_for PassesOwn.never rfl (seq_K (K := K) rfl (pv 2)) (pg_name (i := 5) sc_crowd_of.nd rfl (Or.inr rfl)) (pss_cons (ps_set (i := 6) sc_crowd_of.nd rfl (Or.inl rfl) (pe_ifExp (tru_K (K := K) rfl (pv 5) (by intro _; rfl)) (pe_op (op_addK (K := K) rfl) (pe_ix (ix_K (K := K) rfl) (pv 5) (pe_un un_neg pe_int) (fun _ _ => rfl)) pe_int) pe_int))
      (pss_one (ps_expr (bm_K (K := K) rfl PySem.F.plainAttrs_list PySem.F.slot_list_extend PySem.F.type_list_extend mt_extend (pv 4) (pa_cons (pe_lc (own := [("b", 7)]) rfl sc_crowd_of.nd (pi_range2 (by rfl) B.range (pa_cons (pv 6) (pa_cons (pe_callB (len_K (K := K) rfl) (by rfl) B.len PySem.boot_len (pa_cons (pv 0) pa_nil)) pa_nil))) (blkOk_by (own := [("b", 7)]) (N := ["table", "size", "rows", "_", "longer", "row", "begin", "b", "a"]) (sc := (defScope s_crowd_of)) (by decide +kernel)) (fun _ _ _ _ _ => (pg_name (i := 7) sc_crowd_of.nd rfl (Or.inr rfl))) (fun _ _ _ _ _ => (pts_one (pt_val (pe_callB (all_K (K := K) rfl rfl) (by rfl) B.all (by decide +kernel) (pa_cons (pe_lc (own := [("a", 8)]) rfl sc_crowd_of.nd (seq_K (K := K) rfl (pv 5)) (blkOk_by (own := [("a", 8)]) (N := ["table", "size", "rows", "_", "longer", "row", "begin", "b", "a"]) (sc := (relS (lcS (crowdE (defBody s_crowd_of))) (defScope s_crowd_of))) (by decide +kernel)) (fun _ _ _ _ _ => (pg_name (i := 8) sc_crowd_of.nd rfl (Or.inl rfl))) (fun _ _ _ _ _ => pts_nil) (fun _ _ _ _ _ => (pe_ix (ix_K (K := K) rfl) (pe_ix (ix_K (K := K) rfl) (pv 0) (pv 8) (fun _ _ => rfl)) (pv 7) (fun _ _ => rfl)))) pa_nil))))) (fun _ _ _ _ _ => (pe_op (op_addK (K := K) rfl) (pv 5) (pe_tup (pa_cons (pv 7) pa_nil))))) pa_nil))))))
      (pss_one (ps_set (i := 2) sc_crowd_of.nd rfl (Or.inl rfl) (pv 4))))))
      (pss_one (ps_ret (pe_ifExp (tru_K (K := K) rfl (pv 2) (by intro _; rfl)) (pe_ix (ix_K (K := K) rfl) (pv 2) pe_int (fun _ _ => rfl)) pe_non))))), ?_⟩
  obtain ⟨vt, vk, rfl, ht, hk'⟩ := all2 a
  have hne : ∀ i, i < k → (crowds T n i).length ≤ 6 ^ 6 := fun i hi => Nat.le_trans (crowds_size hn i) (Nat.pow_le_pow_right (by decide) (by omega))
  refine q_asgL (K := K) (el_lst (ea1 (ev_tup ea_nil (by decide))) (by decide)) fun l0 xs0 H0 hl0 e0 h0 a0 => ?_
  refine q_forW (C := fun _ _ => True) (ew_rng1 (n := k) (ea1 (ev_var rfl (hk'.mono e0))) (by omega) (by omega) (by omega)) fun H1 e1 => ⟨fun i σ' H' => ∃ vr x3 x4 x5 x6, σ' = [some vt, some vk, some vr, x3, x4, x5, x6, none, none] ∧ Same H H' ∧ Is K H' vr (.list ((crowds T n i).map rowD)),
    ⟨.ref l0, none, none, none, none, rfl, e0.trans e1, (Is.lst h0 a0).mono e1⟩, fun _ _ _ _ => True.intro, ?_, ?_⟩
  · rintro i d v σ' Ha Hb hd ⟨vr, x3, x4, x5, x6, rfl, ea, hr'⟩ eb hv
    have hi : i < k := by
      have := (List.getElem?_eq_some_iff.mp hd).1
      rw [List.length_map, List.length_range] at this
      exact this
    refine g_nm ?_
    refine q_asgL (K := K) (el_lst ea_nil (by decide)) fun l xs H2 hl e2 h2 a2 => ?_
    cases a2
    have hr2 := (hr'.mono eb).mono e2
    have hbase : Hb l = none := hl
    refine q_forW (ew_seqB (v := vr) (Hb := Hb) (.inl rfl) (ev_slot rfl) e2 (hr'.mono eb)) fun H3 e3 => ⟨fun j σ' H' => ∃ x5 x6, σ' = [some vt, some vk, some vr, some v, some (.ref l), x5, x6, none, none] ∧ Acc K Hb l ((((crowds T n i).take j).flatMap (crowdNext T n)).map rowD) H',
      ⟨x5, x6, rfl, hl, e2.trans e3, [], e3 _ _ h2, .nil, rfl⟩, fun j σ' H' p => by obtain ⟨_, _, _, p⟩ := p; exact p.2.1, ?_, ?_⟩
    · rintro j d y σ' Hc Hd hd ⟨y5, y6, rfl, hA⟩ ec hy
      refine g_nm ?_
      rw [List.getElem?_map] at hd
      obtain ⟨row, hrow, rfl⟩ := Option.map_eq_some_iff.mp hd
      have hmem : row ∈ crowds T n i := List.mem_of_getElem? hrow
      obtain ⟨hcr, hcl⟩ := crowds_mem.mp hmem
      have hA := hA.mono ec
      have ed : Same H Hd := (ea.trans eb).trans hA.2.1
      have hrl : row.length ≤ 6 := by omega
      -- begin
      refine q_asg (P := IsD K (.int (behind row : Int))) (ev_if (et_truS (.inr rfl) (ev_var rfl hy)) (fun hb => ?_) (fun hb => ?_)) fun vb H5 e5 hb => ?_
      · rcases List.eq_nil_or_concat row with e | ⟨rr, z, e⟩
        · rw [e] at hb
          cases hb
        · rw [List.concat_eq_append] at e
          subst e
          rw [behind_last]
          refine ev_is (ev_op (ev_op (ev_var rfl hy) (ev_un ev_int ud_neg) (rd_ix (d := natD z) (.inr rfl) ?_)) ev_int rd_addI) rfl
          rw [List.map_append]
          show atI (rr.map natD ++ [natD z]) (-1) = _
          exact atI_last
      · have e : row = [] := by
          cases row with
          | nil => rfl
          | cons a b => cases hb
        subst e
        exact ev_int
      have hbehind : behind row ≤ n := (behind_le hcr).mpr fun a ha => hcr.2 a ha
      have hA5 := hA.mono e5
      obtain ⟨_, _, xs, hx, hxa, hxn⟩ := id hA5
      have hxl : xs.length ≤ 6 ^ 6 * 6 := by
        rw [hxa.len, List.length_map]
        refine Nat.le_trans (flatMap_le _ 6 _ fun x hx => ?_) (Nat.mul_le_mul_right _ ?_)
        · unfold crowdNext
          rw [List.length_map]
          refine Nat.le_trans (List.length_filter_le _ _) ?_
          rw [List.length_range']
          omega
        · rw [List.length_take]
          exact Nat.le_trans (Nat.min_le_right _ _) (hne i hi)
      have ed5 := ed.trans e5
      refine s_ext (ds := (crowdNext T n row).map rowD) hx (ev_slot rfl) ?_ ?_ fun ys H6 e6 hys => ?_
      · have eR : (crowdNext T n row).map rowD = ((((List.range (n - behind row)).map fun (k : Nat) => PyData.int ((behind row : Int) + k))).filter fun d => row.all fun a => T a (intN d)).map fun d => .tuple (row.map natD ++ [d]) := by
          unfold crowdNext
          have e7 : List.range' (behind row) (n - behind row) = (List.range (n - behind row)).map fun k => behind row + k := by
            rw [List.range'_eq_map_range]
          rw [e7, List.filter_map, List.map_map, List.map_map, List.filter_map, List.map_map]
          refine List.map_congr_left fun k hk => ?_
          show rowD (row ++ [behind row + k]) = _
          unfold rowD
          rw [List.map_append]
          rfl
        rw [eR]
        refine el_lcW (ew_of (ew_rng2 (C := Same) (i := (behind row : Int)) (j := (n : Int)) (n := n - behind row) (ea2 (ev_var rfl hb) (ev_lenL (ev_var rfl (ht.mono ed5)) |> fun h => ev_is h (by rw [List.length_map, List.length_range]))) (by omega) (by omega) (by omega)) fun _ _ _ h => h) (fun d => row.all fun a => T a (intN d)) (fun d => .tuple (row.map natD ++ [d])) (by rw [List.length_map, List.length_range]; omega) (fun d hd u H7 e7 hu R kk => g_nm (kk _ rfl ?_ fun _ => ?_)) (fun d hd _ => ?_)
        · obtain ⟨b, hb', rfl⟩ := List.mem_map.mp hd
          have hb' := List.mem_range.mp hb'
          refine et_test (ev_is (ev_allS (fun a => T (intN a) (intN (.int ((behind row : Int) + b)))) (.inr rfl) (ev_var rfl (hy.mono (e5.trans e7))) (by rw [List.length_map]; omega) (fun _ => rfl) (fun d2 hd2 y2 H8 e8 hy2 => ?_)) ?_)
          · obtain ⟨a2, ha2, rfl⟩ := List.mem_map.mp hd2
            have ha3 : a2 < n := hcr.2 a2 ha2
            have hb3 : behind row + b < n := by omega
            have := ev_op (K := K) (ev_op (ev_var (σ := (([some vt, some vk, some vr, some v, some (.ref l), some y, some vb, some u, none] : L2.St).set 8 (some y2))) (i := 0) rfl (ht.mono ((ed5.trans e7).trans e8))) (ev_var (i := 8) rfl hy2) (rd_tab ha3)) (ev_var (i := 7) rfl (hu.mono e8)) (rd_row hb3)
            exact this
          · rw [List.all_map]
            rfl
        · exact ev_op (ev_var rfl (hy.mono (e5.trans e7))) (ev_tup (ea1 (ev_var rfl hu)) (by show 1 ≤ 100000; decide)) (rd_addT (by rw [List.length_map]; show row.length + 1 ≤ 1000000; omega))
        · obtain ⟨b, _, rfl⟩ := List.mem_map.mp hd
          show nlAll (row.map natD ++ [_]) = true
          rw [nlAll_append, nlAll_map (fun _ => rfl)]
          rfl
      · rw [List.length_map]
        have : (crowdNext T n row).length ≤ 6 := by
          unfold crowdNext
          rw [List.length_map]
          refine Nat.le_trans (List.length_filter_le _ _) ?_
          rw [List.length_range']
          omega
        omega
      · refine ⟨_, _, rfl, ?_⟩
        have et : (crowds T n i).take (j + 1) = (crowds T n i).take j ++ [row] := by rw [List.take_add_one, hrow]; rfl
        rw [et, List.flatMap_append, List.map_append, List.flatMap_singleton]
        exact (hA5.mono e6).ext (e6 _ _ hx) hys (nlAll_rows _)
    · rintro σ' H' ⟨y5, y6, rfl, hA⟩
      rw [List.length_map, List.take_length] at hA
      obtain ⟨a1, a2, xs, a3, a4, _⟩ := hA
      exact s_asg (ev_var rfl (Is.lst a3 a4)) fun vr2 H5 e5 hvr => ⟨vr2, _, _, _, _, rfl, (ea.trans eb).trans (a2.trans e5), hvr⟩
  · rintro σ' H' ⟨vr, x3, x4, x5, x6, rfl, ea, hr'⟩
    rw [List.length_map, List.length_range] at hr'
    refine s_ret (P := IsD K (crowdD (crowds T n k))) (ev_if (et_truS (.inl rfl) (ev_var rfl hr')) (fun hb => ?_) (fun hb => ?_)) fun v H5 e5 hv => q _ v H5 hp (ea.trans e5) hv
    · revert hr' hb
      generalize crowds T n k = cs
      intro hr' hb
      cases cs with
      | nil => cases hb
      | cons c cs => exact ev_op (ev_var rfl hr') ev_int (rd_ix (.inl rfl) (atI_n (j := 0) rfl rfl))
    · revert hr' hb
      generalize crowds T n k = cs
      intro hr' hb
      cases cs with
      | nil => exact ev_non
      | cons c cs => cases hb
/-- slots: table 0, many 1, row 2, stack 3, at 4, b 5 -/
theorem sc_parting_into : FnScope ["table", "many", "row", "stack", "at", "b"] ["table", "many"] (defScope s_parting_into) := ⟨rfl, rfl, rfl, by decide +kernel, rfl, by decide +kernel, by decide +kernel⟩
theorem ok_parting_into (F : Fun K "parting_into" "parting_into" s_parting_into f fd) (B : Blt mg) : FnOk P w K mg base CX0 1 f fd ["table", "many"] (SpD K pre_parting) := by
  refine F.ok sc_parting_into (spd_len fun ds Post h => by obtain ⟨T, n, k, rfl, _⟩ := h; rfl) (fun cdv A outer s H vs Q E hr h => ?_)
  obtain ⟨ds, Post, a, ⟨T, n, m, rfl, hn, hp⟩, q⟩ := h
  refine ⟨_, (pss_cons (ps_set (i := 2) sc_parting_into.nd rfl (Or.inr rfl) (pe_lst pa_nil))
      (pss_cons (ps_set (i := 3) sc_parting_into.nd rfl (Or.inr rfl) pe_int)
      (pss_cons (ps_while PassesOwn.never (pt_cmpR op_lt (pe_callB (len_K (K := K) rfl) (by rfl) B.len PySem.boot_len (pa_cons (pv 2) pa_nil)) (pe_callB (len_K (K := K) rfl) (by rfl) B.len PySem.boot_len (pa_cons (pv 0) pa_nil)) (nomark _)) (pss_cons (ps_set (i := 4) sc_parting_into.nd rfl (Or.inr rfl) (pe_callB (len_K (K := K) rfl) (by rfl) B.len PySem.boot_len (pa_cons (pv 2) pa_nil)))
      (pss_cons (ps_while PassesOwn.never (PW.pt (pw_and (pt_cmpR op_lt (pv 3) (pv 1) (nomark _)) (pw_and1 (pt_val (pe_callB (any_K (K := K) rfl rfl) (by rfl) B.any (by decide +kernel) (pa_cons (pe_lc (own := [("b", 5)]) rfl sc_parting_into.nd (pi_range1 (by rfl) B.range (pa_cons (pv 4) pa_nil)) (blkOk_by (own := [("b", 5)]) (N := ["table", "many", "row", "stack", "at", "b"]) (sc := (defScope s_parting_into)) (by decide +kernel)) (fun _ _ _ _ _ => (pg_name (i := 5) sc_parting_into.nd rfl (Or.inl rfl))) (fun _ _ _ _ _ => pts_nil) (fun _ _ _ _ _ => (pe_and (pe_cmpR (op_eqK (K := K) rfl hr.units) (pe_ix (ix_K (K := K) rfl) (pv 2) (pv 5) (fun _ _ => rfl)) (pv 3) (nomark _)) (pe_one (pe_ix (ix_K (K := K) rfl) (pe_ix (ix_K (K := K) rfl) (pv 0) (pv 4) (fun _ _ => rfl)) (pv 5) (fun _ _ => rfl)))))) pa_nil)))))) (pss_one (ps_aug (i := 3) sc_parting_into.nd rfl (Or.inr rfl) pe_int ip_add)))
      (pss_one (ps_if (pt_cmpR op_lt (pv 3) (pv 1) (nomark _)) (pss_cons (ps_expr (bm_K (K := K) rfl PySem.F.plainAttrs_list PySem.F.slot_list_append PySem.F.type_list_append mt_append (pv 2) (pa_cons (pv 3) pa_nil)))
      (pss_one (ps_set (i := 3) sc_parting_into.nd rfl (Or.inr rfl) pe_int))) (pss_one (ps_if (pt_cmpR (op_eqK (K := K) rfl hr.units) (pv 4) pe_int (nomark _)) (pss_one (ps_ret pe_non)) (pss_one (ps_set (i := 3) sc_parting_into.nd rfl (Or.inr rfl) (pe_op (op_addK (K := K) rfl) (bm0_K (K := K) rfl PySem.F.plainAttrs_list PySem.F.slot_list_pop PySem.F.type_list_pop mt_pop (pv 2)) pe_int))))))))))
      (pss_one (ps_ret (pe_callTy (tup_K (K := K) rfl) (by rfl) B.tuple (by decide +kernel) (pa_cons (pv 2) pa_nil))))))), ?_⟩
  obtain ⟨vt, vm, rfl, ht, hm⟩ := all2 a
  have := Is.intV hm
  subst this
  have elen : (((List.range n).map (rowT T n)).length : Int) = (n : Int) := by rw [List.length_map, List.length_range]
  refine q_asgL (K := K) (el_lst ea_nil (by decide)) fun l xs0 H0 hl e0 h0 a0 => ?_
  cases a0
  refine q_asg (P := fun v _ => v = .int 0) (fun H1 e Q q => q _ H1 (Same.refl _) rfl) fun v0 H1 e1 hv0 => ?_
  subst hv0
  have start : (upd H l (.lst [])) = upd H l (.lst []) := rfl
  refine q_while (fun M σ' H' => ∃ row st x4, σ' = [some vt, some (.int m), some (.ref l), some (.int (st : Nat)), x4, none] ∧ Same H H' ∧ H' l = some (.lst (row.map fun (x : Nat) => V.int (x : Int))) ∧ PInv T n m row st ∧ st ≤ m ∧ M = meas m row st n) (meas m [] 0 n)
    ⟨[], 0, none, rfl, e0.trans e1, e1 _ _ h0, .start, Nat.zero_le _, rfl⟩ ?_
  rintro M σ' H' ⟨row, st, x4, rfl, eH, hrow, inv, hst, rfl⟩
  have hrD : ∀ {H2}, Same H' H2 → Is K H2 (.ref l) (.list (row.map natD)) := fun e => .lst (e _ _ hrow) (allNat' row)
  have elr : ((row.map natD).length : Int) = (row.length : Int) := by rw [List.length_map]
  refine ⟨decide ((row.length : Int) < (n : Int)), et_test (ev_is (ev_op (ev_lenL (ev_var rfl (hrD (Same.refl _)))) (ev_lenL (ev_var rfl (ht.mono eH))) rd_lt) (by rw [elen, elr])), fun hlt H2 e2 => ?_, fun hge H2 e2 => ?_⟩
  · have hlt : row.length < n := by simpa using hlt
    refine ⟨fun σ2 H3 => ∃ M', M' < meas m row st n ∧ ∃ row st x4, σ2 = [some vt, some (.int m), some (.ref l), some (.int (st : Nat)), x4, none] ∧ Same H H3 ∧ H3 l = some (.lst (row.map fun (x : Nat) => V.int (x : Int))) ∧ PInv T n m row st ∧ st ≤ m ∧ M' = meas m row st n, fun σ2 H2 h => h, ?_⟩
    refine q_asg (ev_lenL (ev_var rfl (hrD e2))) fun vat H3 e3 hat => ?_
    have := Is.intV hat
    rw [elr] at this
    subst this
    -- the inner loop: s grows while it is barred
    refine q_while (fun M σ' Hx => ∃ s', σ' = [some vt, some (.int m), some (.ref l), some (.int (s' : Nat)), some (.int (row.length : Int)), none] ∧ st ≤ s' ∧ s' ≤ m ∧ Same H' Hx ∧ PInv T n m row s' ∧ M = m - s') (m - st) ⟨st, rfl, Nat.le_refl _, hst, e2.trans e3, inv, rfl⟩ ?_
    rintro M σ' Hx ⟨s', rfl, hs1, hs2, ex, inv', rfl⟩
    have hB : barred T row s' = (List.range row.length).any fun b => decide (row[b]? = some s') && T row.length b := rfl
    refine ⟨decide ((s' : Int) < (m : Int)) && barred T row s', et_and (et_test (K := K) (ev_op (ev_var rfl (.int _)) (ev_var rfl (.int _)) rd_lt)) (fun _ => et_test (ev_is (ev_anyR (n := row.length) (fun b => decide (row[b]? = some s') && T row.length b) (ea1 (ev_var rfl (.int _))) (by omega) (by omega) (by omega) (fun _ => rfl) (fun b Hy ey hb => ?_)) (by rw [hB]))), fun hb Hy ey => ?_, fun hb Hy ey => ?_⟩
    · have hrb : row[b]? = some row[b] := List.getElem?_eq_getElem hb
      refine ev_is (ev_andV (a := decide (row[b]? = some s')) (b := T row.length b) (ev_is (ev_op (ev_op (ev_var rfl (hrD (ex.trans ey))) (ev_var rfl (.int _)) (rd_ix (d := natD row[b]) (.inl rfl) (atI_n rfl (by rw [List.getElem?_map, hrb]; rfl)))) (ev_var rfl (.int _)) rd_eqI) ?_) fun _ => ev_op (ev_op (ev_var rfl (ht.mono ((eH.trans ex).trans ey))) (ev_var rfl (.int _)) (rd_tab hlt)) (ev_var rfl (.int _)) (rd_row (by omega))) rfl
      congr 1
      rw [hrb, decide_eq_decide]
      constructor
      · intro h
        have : row[b] = s' := by omega
        rw [this]
      · intro h
        have : row[b] = s' := Option.some.inj h
        rw [this]
    · rw [Bool.and_eq_true] at hb
      have hsm : s' < m := by simpa using hb.1
      refine ⟨_, fun σ2 H2 h => h, s_aug (K := K) rfl ev_int fun Hz ez => ?_⟩
      refine ⟨m - (s' + 1), by omega, s' + 1, rfl, by omega, by omega, (ex.trans ey).trans ez, inv'.inc hlt hb.2, rfl⟩
    · refine s_if (b := decide ((s' : Int) < (m : Int))) (et_test (K := K) (ev_op (ev_var rfl (.int _)) (ev_var rfl (.int _)) rd_lt)) (fun hs Hz ez => ?_) (fun hs Hz ez => ?_)
      · have hsm : s' < m := by simpa using hs
        have hbar : barred T row s' = false := by simpa [hsm] using hb
        have e4 := (ex.trans ey).trans ez
        refine q_app (e4 _ _ hrow) (ev_slot rfl) (ev_slot (v := .int (s' : Nat)) rfl) (by rw [List.length_map]; omega) fun u H6 e6 hu => ?_
        subst hu
        refine s_asg (P := fun v _ => v = .int 0) (fun H1 e Q q => q _ H1 (Same.refl _) rfl) fun v0 H7 e7 hv0 => ?_
        subst hv0
        refine ⟨_, Nat.lt_of_lt_of_le (meas_push m row s' n hsm hlt) (meas_mono m row st s' n hs1), row ++ [s'], 0, _, rfl, (Same.mut (eH.trans (e4.trans e6)) hl).trans e7, ?_, inv'.push hlt hsm hbar, Nat.zero_le _, rfl⟩
        rw [List.map_append]
        exact e7 _ _ upd_same
      · have hsm : ¬ s' < m := by simpa using hs
        have e4 := (ex.trans ey).trans ez
        refine s_if (b := decide ((row.length : Int) = 0)) (et_test (K := K) (ev_op (ev_var rfl (.int _)) ev_int rd_eqI)) (fun h0 Hw ew => ?_) (fun h0 Hw ew => ?_)
        · have e0' : row = [] := List.eq_nil_of_length_eq_zero (by simpa using h0)
          subst e0'
          exact s_retN (K := K) rfl fun u H6 e6 hu => q _ u H6 (hp _ (.inl ⟨rfl, inv'.fail hlt hsm⟩)) (((eH.trans e4).trans ew).trans e6) hu
        · rcases List.eq_nil_or_concat row with e | ⟨rr, x, e⟩
          · rw [e] at h0
            simp at h0
          rw [List.concat_eq_append] at e
          subst e
          have e5 := e4.trans ew
          have hx : x < m := inv'.col.2.1 x (by simp)
          -- stack = row.pop() + 1
          refine ⟨_, rfl, .inl ⟨rfl, _, SqL.of (e5 _ _ hrow)⟩, l, _, .int (x : Int), rfl, rfl, e5 _ _ hrow, ?_, ?_⟩
          · rw [List.map_append]
            show (rr.map _ ++ [V.int (x : Int)])[(rr.map _ ++ [V.int (x : Int)]).length - 1]? = _
            simp
          · refine .inl ⟨(x : Int), 1, rfl, rfl, ?_⟩
            have ed : ((rr ++ [x]).map fun (x : Nat) => V.int (x : Int)).dropLast = rr.map fun (x : Nat) => V.int (x : Int) := by
              rw [List.map_append]
              show (rr.map _ ++ [V.int (x : Int)]).dropLast = _
              rw [List.dropLast_concat]
            rw [ed]
            exact ⟨_, Nat.lt_of_lt_of_le (meas_pop m rr x s' n hx) (meas_mono m (rr ++ [x]) st s' n hs1), rr, x + 1, _, rfl, Same.mut (eH.trans e5) hl, upd_same, inv'.pop hlt hsm, hx, rfl⟩
  · have hge : ¬ row.length < n := by simpa using hge
    refine s_ret (P := IsD K (rowD row)) (ev_tupOf (.inl rfl) (ev_var rfl (hrD e2))) fun v H3 e3 hv => q _ v H3 (hp _ (.inr ⟨row, rfl, inv.done hge⟩)) (eH.trans (e2.trans e3)) hv
end
end K33

set_option Elab.async false
set_option linter.all false
set_option maxRecDepth 100000
set_option maxHeartbeats 4000000
/-! core_stays: stays_of. -/
namespace K33
open PySem PySem.Spec PyProof.Rows L2
def wordS : Bool → Str
  | true => "in"
  | false => "out"
def evD (e : Evt) : PyData := .tuple [.str (wordS e.1), .str e.2]
def evsD (es : List Evt) : PyData := .tuple (es.map evD)
def stStep (n : Nat) (found : List Stay) (i : Nat) (e : Evt) : List Stay := match e.1 with
  | true => found ++ [⟨e.2, i, n⟩]
  | false => found.map fun s => if s.nm = e.2 ∧ s.e = (n : Int) then ⟨s.nm, s.b, i⟩ else s
def staysTo (es : List Evt) : Nat → List Stay
  | 0 => []
  | i + 1 => match es[i]? with
    | some e => stStep es.length (staysTo es i) i e
    | none => staysTo es i
def staysOf (es : List Evt) : List Stay := staysTo es es.length
theorem staysTo_next {es : List Evt} {i : Nat} {e : Evt} (h : es[i]? = some e) : staysTo es (i + 1) = stStep es.length (staysTo es i) i e := by
  show (match es[i]? with | some e => stStep es.length (staysTo es i) i e | none => staysTo es i) = _
  rw [h]
theorem stStep_len {n : Nat} {found : List Stay} {i : Nat} {e : Evt} : (stStep n found i e).length = found.length + (if e.1 = true then 1 else 0) := by
  unfold stStep
  cases e.1 with
  | true => show (found ++ [_]).length = found.length + 1; rw [List.length_append]; rfl
  | false => show (found.map _).length = found.length + 0; rw [List.length_map]; rfl
theorem staysTo_len {es : List Evt} : ∀ {i : Nat}, i ≤ es.length → (staysTo es i).length = ((es.take i).filter (·.1)).length
  | 0, _ => rfl
  | i + 1, h => by
    have he : es[i]? = some es[i] := List.getElem?_eq_getElem h
    rw [staysTo_next he, stStep_len, staysTo_len (Nat.le_of_succ_le h), List.take_add_one, he, List.filter_append, List.length_append]
    congr 1
    show _ = (List.filter _ [es[i]]).length
    rw [List.filter_cons]
    cases es[i].1 <;> rfl
theorem run_pre {es : List Evt} {t : List Str} (h : run [] es = some t) (i : Nat) : ∃ th, run [] (es.take i) = some th := by
  rw [← List.take_append_drop i es, run_append] at h
  cases e : run [] (es.take i) with
  | none => rw [e] at h; cases h
  | some th => exact ⟨th, rfl⟩
theorem run_step {es : List Evt} {t th : List Str} {i : Nat} {b : Bool} {x : Str} (h : run [] es = some t) (hi : es[i]? = some (b, x)) (ht : run [] (es.take i) = some th) :
    (b = true → x ∉ th ∧ run [] (es.take (i + 1)) = some (th ++ [x])) ∧ (b = false → x ∈ th ∧ run [] (es.take (i + 1)) = some (th.erase x)) := by
  obtain ⟨th', h'⟩ := run_pre h (i + 1)
  have et : es.take (i + 1) = es.take i ++ [(b, x)] := by rw [List.take_add_one, hi]; rfl
  have h2 := h'
  rw [et, run_append, ht] at h2
  have h2 : run th [(b, x)] = some th' := h2
  rw [h']
  cases b with
  | true =>
    refine ⟨fun _ => ?_, fun z => Bool.noConfusion z⟩
    rw [run_T] at h2
    by_cases hx : x ∈ th
    · rw [if_pos hx] at h2
      cases h2
    · rw [if_neg hx] at h2
      exact ⟨hx, h2.symm⟩
  | false =>
    refine ⟨fun z => Bool.noConfusion z, fun _ => ?_⟩
    rw [run_F] at h2
    by_cases hx : x ∈ th
    · rw [if_pos hx] at h2
      exact ⟨hx, h2.symm⟩
    · rw [if_neg hx] at h2
      cases h2
/-- the program's dict leads to the stays that are open -/
structure NumOk (n i : Nat) (th : List Str) (kvs : List (Key × V)) (found : List Stay) : Prop where
  only : ∀ j s, found[j]? = some s → s.e = (n : Int) → s.nm ∈ th ∧ valV kvs (.inr s.nm) = some (.int (j : Nat))
  has : ∀ x ∈ th, ∃ j s, valV kvs (.inr x) = some (.int (j : Nat)) ∧ found[j]? = some s ∧ s.nm = x ∧ s.e = (n : Int)
theorem NumOk.come {n i : Nat} {th : List Str} {kvs : List (Key × V)} {found : List Stay} {x : Str} (h : NumOk n i th kvs found) (hx : x ∉ th) : NumOk n (i + 1) (th ++ [x]) (putK kvs (.inr x) (.int (found.length : Nat))) (stStep n found i (true, x)) := by
  show NumOk n (i + 1) (th ++ [x]) (putK kvs (.inr x) (.int (found.length : Nat))) (found ++ [⟨x, i, n⟩])
  refine ⟨fun j s hj he => ?_, fun y hy => ?_⟩
  · rw [valV_put]
    by_cases hl : j < found.length
    · rw [List.getElem?_append_left hl] at hj
      obtain ⟨h1, h2⟩ := h.only j s hj he
      have hne : s.nm ≠ x := fun z => hx (z ▸ h1)
      rw [if_neg (fun z => hne (Sum.inr.inj z))]
      exact ⟨List.mem_append_left _ h1, h2⟩
    · have hj2 := (List.getElem?_eq_some_iff.mp hj).1
      rw [List.length_append] at hj2
      have e : j = found.length := by simp at hj2; omega
      subst e
      simp at hj
      subst hj
      exact ⟨by simp, by rw [if_pos rfl]⟩
  · rw [List.mem_append, List.mem_singleton] at hy
    rw [valV_put]
    by_cases e : y = x
    · subst e
      exact ⟨found.length, _, by rw [if_pos rfl], by simp; rfl, rfl, rfl⟩
    · obtain ⟨j, s, h1, h2, h3, h4⟩ := h.has y (hy.resolve_right e)
      refine ⟨j, s, by rw [if_neg (fun z => e (Sum.inr.inj z))]; exact h1, ?_, h3, h4⟩
      rw [List.getElem?_append_left (List.getElem?_eq_some_iff.mp h2).1]
      exact h2
/-- the law closes by a map, the program at one place: the same -/
theorem NumOk.go {n i : Nat} {th : List Str} {kvs : List (Key × V)} {found : List Stay} {x : Str} (h : NumOk n i th kvs found) (hn : th.Nodup) (hi : i < n) (hx : x ∈ th) :
    ∃ j s, valV kvs (.inr x) = some (.int (j : Nat)) ∧ found[j]? = some s ∧ s.nm = x ∧ stStep n found i (false, x) = found.set j ⟨s.nm, s.b, i⟩ ∧ NumOk n (i + 1) (th.erase x) kvs (stStep n found i (false, x)) := by
  obtain ⟨j, s, h1, h2, h3, h4⟩ := h.has x hx
  have hjl := (List.getElem?_eq_some_iff.mp h2).1
  have e : stStep n found i (false, x) = found.set j ⟨s.nm, s.b, i⟩ := by
    show (found.map fun s => if s.nm = x ∧ s.e = (n : Int) then (⟨s.nm, s.b, i⟩ : Stay) else s) = _
    apply List.ext_getElem?
    intro k
    rw [List.getElem?_map, List.getElem?_set]
    by_cases hk : j = k
    · subst hk
      rw [if_pos rfl, if_pos hjl, h2]
      show some (if s.nm = x ∧ s.e = (n : Int) then _ else _) = _
      rw [if_pos ⟨h3, h4⟩]
    · rw [if_neg hk]
      cases hs : found[k]? with
      | none => rfl
      | some s' =>
        show some (if s'.nm = x ∧ s'.e = (n : Int) then _ else _) = _
        rw [if_neg]
        rintro ⟨z1, z2⟩
        have := (h.only k s' hs z2).2
        rw [z1, h1] at this
        have := V.int.inj (Option.some.inj this)
        omega
  refine ⟨j, s, h1, h2, h3, e, ?_⟩
  rw [e]
  refine ⟨fun k s' hk he => ?_, fun y hy => ?_⟩
  · rw [List.getElem?_set] at hk
    by_cases hjk : j = k
    · rw [if_pos hjk, if_pos (hjk ▸ hjl)] at hk
      have hk := Option.some.inj hk
      subst hk
      simp at he
      omega
    · rw [if_neg hjk] at hk
      obtain ⟨a, b⟩ := h.only k s' hk he
      refine ⟨?_, b⟩
      have hne : s'.nm ≠ x := fun z => by
        rw [z, h1] at b
        have := V.int.inj (Option.some.inj b)
        omega
      exact (List.mem_erase_of_ne hne).mpr a
  · obtain ⟨hne, hy'⟩ := (List.Nodup.mem_erase_iff hn).mp hy
    obtain ⟨k, s', a, b, c, d⟩ := h.has y hy'
    refine ⟨k, s', a, ?_, c, d⟩
    have hjk : j ≠ k := fun z => by
      subst z
      rw [h2] at b
      have := Option.some.inj b
      rw [← this] at c
      exact hne (c.symm.trans h3)
    rw [List.getElem?_set, if_neg hjk]
    exact b
/-! ### lists of stays in the making -/
structure Cells (Hb H : Hp) (l : Addr) (as : List Addr) (rows : List Stay) : Prop where
  fl : Hb l = none
  lst : H l = some (.lst (as.map V.ref))
  len : as.length = rows.length
  nd : as.Nodup
  nl : l ∉ as
  fr : ∀ a ∈ as, Hb a = none
  cell : ∀ (j : Nat) a s, as[j]? = some a → rows[j]? = some s → H a = some (.lst [.str s.nm, .int s.b, .int s.e])
def stL (s : Stay) : PyData := .list [.str s.nm, .int s.b, .int s.e]
section
variable {K : Fg} {Hb H H' : Hp} {l : Addr} {as : List Addr} {rows : List Stay}
theorem Cells.mono (e : Same H H') (c : Cells Hb H l as rows) : Cells Hb H' l as rows := ⟨c.fl, e _ _ c.lst, c.len, c.nd, c.nl, c.fr, fun j a s h1 h2 => e _ _ (c.cell j a s h1 h2)⟩
theorem allIs_of {xs : List V} {ds : List PyData} (hl : xs.length = ds.length) (h : ∀ (j : Nat) v d, xs[j]? = some v → ds[j]? = some d → Is K H v d) : AllIs K H xs ds := by
  induction xs generalizing ds with
  | nil =>
    cases ds with
    | nil => exact .nil
    | cons d ds => cases hl
  | cons x xs ih =>
    cases ds with
    | nil => cases hl
    | cons d ds => exact .cons (h 0 x d rfl rfl) (ih (by simpa using hl) fun j v d h1 h2 => h (j + 1) v d h1 h2)
theorem Cells.is (c : Cells Hb H l as rows) : Is K H (.ref l) (.list (rows.map stL)) := .lst c.lst (allIs_of (by rw [List.length_map, List.length_map, c.len]) fun j v d h1 h2 => by
  rw [List.getElem?_map] at h1 h2
  obtain ⟨a, ha, rfl⟩ := Option.map_eq_some_iff.mp h1
  obtain ⟨s, hs, rfl⟩ := Option.map_eq_some_iff.mp h2
  exact .lst (c.cell j a s ha hs) (.cons (.str _) (.cons (.int _) (.cons (.int _) .nil))))
theorem Cells.push {p : Addr} {s : Stay} (c : Cells Hb H l as rows) (hp : H' p = none) (e0 : Same Hb H') (eH : Same H' H) (hl : H' l ≠ none) (has : ∀ a ∈ as, H' a ≠ none) (h : H p = some (.lst [.str s.nm, .int s.b, .int s.e])) : Cells Hb (upd H l (.lst (as.map V.ref ++ [.ref p]))) l (as ++ [p]) (rows ++ [s]) := by
  have hpl : p ≠ l := fun z => hl (z ▸ hp)
  have hpa : p ∉ as := fun z => has p z hp
  refine ⟨c.fl, by rw [List.map_append]; exact upd_same, by rw [List.length_append, List.length_append, c.len]; rfl, ?_, ?_, fun a ha => ?_, fun j a s' h1 h2 => ?_⟩
  · refine List.nodup_append.mpr ⟨c.nd, by simp, fun a ha b hb => ?_⟩
    rw [List.mem_singleton] at hb
    subst hb
    exact fun z => hpa (z ▸ ha)
  · rw [List.mem_append, List.mem_singleton]
    exact fun z => z.elim c.nl fun z => hpl z.symm
  · rw [List.mem_append, List.mem_singleton] at ha
    rcases ha with ha | ha
    · exact c.fr a ha
    · rw [ha]
      exact e0.free hp
  · by_cases hj : j < as.length
    · rw [List.getElem?_append_left hj] at h1
      rw [List.getElem?_append_left (by rw [← c.len]; exact hj)] at h2
      have hne : a ≠ l := fun z => c.nl (z ▸ List.mem_of_getElem? h1)
      rw [upd_ne hne]
      exact c.cell j a s' h1 h2
    · have hj2 := (List.getElem?_eq_some_iff.mp h1).1
      rw [List.length_append] at hj2
      have e : j = as.length := by simp at hj2; omega
      subst e
      simp at h1
      rw [c.len] at h2
      simp at h2
      subst h1 h2
      rw [upd_ne hpl]
      exact h
theorem Cells.set {j : Nat} {a : Addr} {s : Stay} {i : Int} (c : Cells Hb H l as rows) (ha : as[j]? = some a) (hs : rows[j]? = some s) : Cells Hb (upd H a (.lst [.str s.nm, .int s.b, .int i])) l as (rows.set j ⟨s.nm, s.b, i⟩) := by
  have hal : l ≠ a := fun z => c.nl (z ▸ List.mem_of_getElem? ha)
  refine ⟨c.fl, by rw [upd_ne hal]; exact c.lst, by rw [List.length_set, c.len], c.nd, c.nl, c.fr, fun k b s' h1 h2 => ?_⟩
  rw [List.getElem?_set] at h2
  by_cases hjk : j = k
  · subst hjk
    have hjl := (List.getElem?_eq_some_iff.mp hs).1
    rw [if_pos rfl, if_pos hjl] at h2
    rw [ha] at h1
    cases h1
    cases h2
    exact upd_same
  · rw [if_neg hjk] at h2
    have hne : b ≠ a := fun z => by
      subst z
      have l1 := (List.getElem?_eq_some_iff.mp ha).1
      exact hjk ((List.getElem?_inj l1 c.nd).mp (ha.trans h1.symm))
    rw [upd_ne hne]
    exact c.cell k b s' h1 h2
variable {σ : L2.St} {te ta ti : TE} {D : Ends} {tz : TS} {wi : TI} {g : TG} {t : TT} {tk tv : TE} {vs : List Nat}
theorem evL_new {ds : List PyData} (h : EvL K te σ H ds) : Ev te σ H (fun v H2 => ∃ p xs, v = .ref p ∧ H p = none ∧ H2 p = some (.lst xs) ∧ AllIs K H2 xs ds) := fun H1 e Q q => h H1 e Q fun p xs H2 a b c d => q _ H2 b ⟨p, xs, rfl, e.free a, c, d⟩
theorem q_asgDnil {i : Nat} (h : EvW K Same wi σ H []) (k : ∀ p H1, H p = none → Same H H1 → H1 p = some (.dK []) → tz D (σ.set i (some (.ref p))) H1) : tSeq (tAsg (tDc wi g t tk tv vs) (gName i)) tz D σ H := ed_nil h H (Same.refl _) (fun x H1 => tz D (σ.set i (some x)) H1) k
theorem num3 {xs : List V} {a b : Int} {n : Str} (h : AllIs K H xs [.str n, .int a, .int b]) : xs = [.str n, .int a, .int b] := by
  obtain ⟨v, u, w, rfl, h1, h2, h3⟩ := all3 h
  cases h1
  cases h2
  cases h3
  rfl
end
def pre_stays : Pr := fun ds Post => ∃ es : List Evt, ds = [.tuple [], evsD es] ∧ es.length ≤ 1000 ∧ (∃ t, run [] es = some t) ∧ Post (.list ((staysOf es).map stD))
def toTup : PyData → PyData
  | .list ds => .tuple ds
  | d => d
section
variable {P : Program} {w : World} {K : Fg} {mg : Str → Option Value} {base : Heap} {f : Addr} {fd : FuncData}
/-- slots: boxes 0, events 1, found 2, number 3, e 4, word 5, name 6, at 7, one 8 -/
theorem sc_stays_of : FnScope ["boxes", "events", "found", "number", "e", "word", "name", "at", "one"] ["boxes", "events"] (defScope s_stays_of) := ⟨rfl, rfl, rfl, by decide +kernel, rfl, by decide +kernel, by decide +kernel⟩
theorem ok_stays_of (F : Fun K "stays_of" "stays_of" s_stays_of f fd) (B : Blt mg) : FnOk P w K mg base CX0 1 f fd ["boxes", "events"] (SpD K pre_stays) := by
  refine F.ok sc_stays_of (spd_len fun ds Post h => by obtain ⟨es, rfl, _⟩ := h; rfl) (fun cdv A outer s H vs Q E hr h => ?_)
  obtain ⟨ds, Post, a, ⟨es, rfl, hz, ⟨t, hrun⟩, hp⟩, q⟩ := h
  refine ⟨_, (pss_cons (ps_setLc (own := [("name", 6)]) (i := 2) rfl sc_stays_of.nd rfl rfl (sw_true rfl rfl rfl (by decide +kernel)) (seq_K (K := K) rfl (pv 0)) (blkOk_by (own := [("name", 6)]) (N := ["boxes", "events", "found", "number", "e", "word", "name", "at", "one"]) (sc := (defScope s_stays_of)) (by decide +kernel)) (fun _ _ _ _ _ => (pg_name (i := 6) sc_stays_of.nd rfl (Or.inl rfl))) (fun _ _ _ _ _ => pts_nil) (fun _ _ _ _ _ => (pe_lst (pa_cons (pv 6) (pa_cons (pe_un un_neg pe_int) (pa_cons (pe_callB (len_K (K := K) rfl) (by rfl) B.len PySem.boot_len (pa_cons (pv 1) pa_nil)) pa_nil))))))
      (pss_cons (ps_setDc (own := [("at", 7), ("name", 6)]) (i := 3) rfl sc_stays_of.nd rfl rfl (sw_trueD rfl rfl rfl (by decide +kernel)) (enumT_K (K := K) rfl (by rfl) B.enumerate (pa_cons (pv 0) pa_nil)) (blkOk_by (own := [("at", 7), ("name", 6)]) (N := ["boxes", "events", "found", "number", "e", "word", "name", "at", "one"]) (sc := (defScope s_stays_of)) (by decide +kernel)) (fun _ _ _ _ _ => (tupg_K (K := K) (n := 2) rfl rfl (pgs_cons (pg_name (i := 7) sc_stays_of.nd rfl (Or.inl rfl)) (pgs_cons (pg_name (i := 6) sc_stays_of.nd rfl (Or.inl rfl)) pgs_nil)))) (fun _ _ _ _ _ => pts_nil) (fun _ _ _ _ _ => (pv 6)) (fun _ _ _ _ _ => (pv 7)))
      (pss_cons (ps_for PassesOwn.never rfl (enumT_K (K := K) rfl (by rfl) B.enumerate (pa_cons (pv 1) pa_nil)) (tupg_K (K := K) (n := 2) rfl rfl (pgs_cons (pg_name (i := 4) sc_stays_of.nd rfl (Or.inl rfl)) (pgs_cons (tupg_K (K := K) (n := 2) rfl rfl (pgs_cons (pg_name (i := 5) sc_stays_of.nd rfl (Or.inl rfl)) (pgs_cons (pg_name (i := 6) sc_stays_of.nd rfl (Or.inl rfl)) pgs_nil))) pgs_nil))) (pss_one (ps_if (pt_cmpR (op_eqK (K := K) rfl hr.units) (pv 5) pe_str (nomark _)) (pss_cons (ps_dput (hu_of hr) (pv 3) (pv 6) (pe_callB (len_K (K := K) rfl) (by rfl) B.len PySem.boot_len (pa_cons (pv 2) pa_nil)) rfl)
      (pss_one (ps_expr (bm_K (K := K) rfl PySem.F.plainAttrs_list PySem.F.slot_list_append PySem.F.type_list_append mt_append (pv 2) (pa_cons (pe_lst (pa_cons (pv 6) (pa_cons (pv 4) (pa_cons (pe_callB (len_K (K := K) rfl) (by rfl) B.len PySem.boot_len (pa_cons (pv 1) pa_nil)) pa_nil)))) pa_nil))))) (pss_one (ps_asg (pv 4) (pg_sub (pe_ix (ix_K (K := K) rfl) (pv 2) (pe_dget (hu_of hr) (pv 3) (pv 6) (fun _ _ => rfl)) (fun _ _ => rfl)) pe_int set_list))))))
      (pss_one (ps_ret (pe_lc (own := [("one", 8)]) rfl sc_stays_of.nd (seq_K (K := K) rfl (pv 2)) (blkOk_by (own := [("one", 8)]) (N := ["boxes", "events", "found", "number", "e", "word", "name", "at", "one"]) (sc := (defScope s_stays_of)) (by decide +kernel)) (fun _ _ _ _ _ => (pg_name (i := 8) sc_stays_of.nd rfl (Or.inl rfl))) (fun _ _ _ _ _ => pts_nil) (fun _ _ _ _ _ => (pe_callTy (tup_K (K := K) rfl) (by rfl) B.tuple (by decide +kernel) (pa_cons (pv 8) pa_nil))))))))), ?_⟩
  obtain ⟨vb, ve, rfl, hvb, hve⟩ := all2 a
  have elen : ((es.map evD).length : Int) = (es.length : Int) := by rw [List.length_map]
  refine q_asgL (el_rows (ew_seq (.inr rfl) (ev_var rfl hvb)) (fun _ => []) (by decide) (fun d hd => by cases hd) (fun d hd => by cases hd)) fun l xs0 H0 hl e0 h0 a0 => ?_
  cases a0
  refine q_asgDnil (ew_enumT (ds := []) (ea1 (ev_var rfl (hvb.mono e0)))) fun p H1 hp1 e1 h1 => ?_
  have hpl : p ≠ l := fun z => by
    rw [z, h0] at hp1
    cases hp1
  refine q_forW (ew_enumTB (v := ve) (Hb := H) (ev_slot rfl) (e0.trans e1) hve) fun H2 e2 => ⟨fun i σ' H' => ∃ y4 y5 y6 as kvs th, σ' = [some vb, some ve, some (.ref l), some (.ref p), y4, y5, y6, none, none] ∧ Same H H' ∧ Cells H H' l as (staysTo es i) ∧ H p = none ∧ H' p = some (.dK kvs) ∧ p ∉ as ∧ kvs.length ≤ i ∧
    run [] (es.take i) = some th ∧ NumOk es.length i th kvs (staysTo es i), ?_, fun i σ' H' h => ?_, ?_, ?_⟩
  · refine ⟨none, none, none, [], [], [], rfl, (e0.trans e1).trans e2, ⟨hl, (e1.trans e2) _ _ h0, rfl, .nil, by simp, by simp, fun j a s h => by simp at h⟩, e0.free hp1, e2 _ _ h1, by simp, Nat.le_refl _, rfl, ⟨fun j s h => by simp [staysTo] at h, fun x h => by simp at h⟩⟩
  · obtain ⟨_, _, _, _, _, _, _, h, _⟩ := h
    exact h
  · rintro i d v σ' Ha Hb hd ⟨y4, y5, y6, as, kvs, th, rfl, eH, hc, hpn, hpk, hpa, hkl, hth, hnum⟩ eb hv
    obtain ⟨d', hd', rfl⟩ := enumD_get hd
    rw [List.getElem?_map] at hd'
    obtain ⟨⟨b, x⟩, hev, rfl⟩ := Option.map_eq_some_iff.mp hd'
    have hi := (List.getElem?_eq_some_iff.mp hev).1
    refine g_tupG hv fun vi vev hvi hvev => g_tup2 hvev fun vw vx hvw hvx => ?_
    cases hvi
    cases hvw
    cases hvx
    have hcb := hc.mono eb
    have hHb := eH.trans eb
    have hpb := eb _ _ hpk
    have hsl : (staysTo es i).length ≤ i := by
      rw [staysTo_len (Nat.le_of_lt hi)]
      refine Nat.le_trans (List.length_filter_le _ _) ?_
      rw [List.length_take]
      exact Nat.min_le_left ..
    obtain ⟨r1, r2⟩ := run_step hrun hev hth
    refine s_if (b := decide (wordS b = ("in" : Str))) (et_test (K := K) (ev_op (ev_var rfl (.str _)) ev_str rd_eqS)) (fun hb H3 e3 => ?_) (fun hb H3 e3 => ?_)
    · have hbt : b = true := by
        cases b with
        | true => rfl
        | false => exact absurd (of_decide_eq_true hb) (by decide +kernel)
      subst hbt
      obtain ⟨hx, hth'⟩ := r1 rfl
      have hc3 := hcb.mono e3
      have hp3 := e3 _ _ hpb
      -- number[name] = len(found)
      refine (ev_lenL (ev_var rfl hc3.is)) H3 (Same.refl _) _ fun vn H4 e4 hvn => ?_
      have hvn := Is.intV hvn
      rw [List.length_map] at hvn
      subst hvn
      have hp4 := e4 _ _ hp3
      refine ⟨_, rfl, _, rfl, p, _, rfl, DPut.k (k := .inr x) hp4 (by rw [sizeLine_eq]; omega), ?_⟩
      have hlp : l ≠ p := fun z => hpl z.symm
      have hc4 : Cells H (upd H4 p (.dK (putK kvs (.inr x) (.int ((staysTo es i).length : Nat))))) l as (staysTo es i) := by
        have c4 := hc3.mono e4
        refine ⟨c4.fl, by rw [upd_ne hlp]; exact c4.lst, c4.len, c4.nd, c4.nl, c4.fr, fun j a s h1 h2 => ?_⟩
        rw [upd_ne (fun z => hpa (by rw [← z]; exact List.mem_of_getElem? h1))]
        exact c4.cell j a s h1 h2
      have hS5 : Same H (upd H4 p (.dK (putK kvs (.inr x) (.int ((staysTo es i).length : Nat))))) := Same.mut ((hHb.trans e3).trans e4) hpn
      generalize hH5 : upd H4 p (.dK (putK kvs (.inr x) (.int ((staysTo es i).length : Nat)))) = H5 at hc4 hS5
      have hp5 : H5 p = some (.dK (putK kvs (.inr x) (.int ((staysTo es i).length : Nat)))) := by
        rw [← hH5]
        exact upd_same
      refine s_app (K := K) hc4.lst (ev_slot rfl) (evL_new (el_lst (ea_cons (ev_var (v := .str x) rfl (.str _)) (ea2 (ev_var (v := .int (i : Nat)) rfl (.int _)) (ev_is (ev_lenT (ev_var rfl (hve.mono hS5))) (by rw [elen])))) (by show 3 ≤ 100000; decide))) (by rw [List.length_map, hc4.len]; omega) fun u H6 e6 hu => ?_
      obtain ⟨pa, xs, rfl, hpa1, hpa2, hpa3⟩ := hu
      have := num3 hpa3
      subst this
      have hpp : pa ≠ p := fun z => by
        rw [z, hp5] at hpa1
        cases hpa1
      have hfr : H pa = none := hS5.free hpa1
      refine ⟨_, _, _, as ++ [pa], putK kvs (.inr x) (.int ((staysTo es i).length : Nat)), th ++ [x], rfl, Same.mut (hS5.trans e6) hl, ?_, hpn, ?_, ?_, ?_, hth', ?_⟩
      · rw [staysTo_next hev]
        exact (hc4.mono e6).push (s := ⟨x, i, es.length⟩) hpa1 hS5 e6 (by rw [hc4.lst]; exact fun z => nomatch z) (fun a ha z => by
          obtain ⟨j, hj⟩ := List.getElem?_of_mem ha
          obtain ⟨s, hs⟩ : ∃ s, (staysTo es i)[j]? = some s := ⟨_, List.getElem?_eq_getElem (by rw [← hc4.len]; exact (List.getElem?_eq_some_iff.mp hj).1)⟩
          rw [hc4.cell j a s hj hs] at z
          cases z) hpa2
      · rw [upd_ne hpl]
        exact e6 _ _ hp5
      · rw [List.mem_append, List.mem_singleton]
        exact fun z => z.elim hpa fun z => hpp z.symm
      · have := length_putK kvs (.inr x) (.int ((staysTo es i).length : Nat))
        omega
      · rw [staysTo_next hev]
        exact hnum.come hx
    · have hbf : b = false := by
        cases b with
        | false => rfl
        | true => exact absurd (rfl : wordS true = "in") (of_decide_eq_false hb)
      subst hbf
      obtain ⟨hx, hth'⟩ := r2 rfl
      have hnd : th.Nodup := run_nodup _ _ _ .nil hth
      obtain ⟨j, s, g1, g2, g3, g4, g5⟩ := hnum.go hnd hi hx
      have hc3 := hcb.mono e3
      have hjl := (List.getElem?_eq_some_iff.mp g2).1
      obtain ⟨aj, haj⟩ : ∃ aj, as[j]? = some aj := ⟨_, List.getElem?_eq_getElem (by rw [hc3.len]; exact hjl)⟩
      have hmj : aj ∈ as := List.mem_of_getElem? haj
      -- found[number[name]][2] = e
      refine ⟨_, rfl, _, rfl, _, rfl, _, rfl, p, .int (j : Nat), rfl, ?_, ?_⟩
      · have := DGet.k (k := .inr x) (e3 _ _ hpb)
        rw [g1] at this
        exact this
      · refine .inl ⟨l, as.map V.ref, (j : Int), .ref aj, rfl, rfl, SqL.of hc3.lst, atI_n rfl (by rw [List.getElem?_map, haj]; rfl), ?_⟩
        refine ⟨_, _, 2, 2, rfl, rfl, hc3.cell j _ s haj g2, rfl, ?_⟩
        have hne : p ≠ aj := fun z => hpa (by rw [z]; exact hmj)
        refine ⟨_, _, _, as, kvs, th.erase x, rfl, Same.mut (hHb.trans e3) (hc3.fr _ hmj), ?_, hpn, ?_, hpa, by omega, hth', ?_⟩
        · rw [staysTo_next hev, g4]
          exact hc3.set haj g2
        · rw [upd_ne hne]
          exact e3 _ _ hpb
        · rw [staysTo_next hev]
          exact g5
  · rintro σ' H' ⟨y4, y5, y6, as, kvs, th, rfl, eH, hc, _⟩
    rw [enumD_len, List.length_map] at hc
    have hsl : (staysTo es es.length).length ≤ 1000 := by
      rw [staysTo_len (Nat.le_refl _)]
      refine Nat.le_trans (List.length_filter_le _ _) ?_
      rw [List.length_take]
      omega
    refine s_retD (el_mapS toTup (.inl rfl) (ev_var rfl hc.is) (by rw [List.length_map]; omega) (fun _ => rfl) (fun d hd v H3 e3 hv => ?_) (fun d hd => ?_)).ev ?_ fun v H1 e hv => q _ v H1 hp (eH.trans e) hv
    · obtain ⟨s, _, rfl⟩ := List.mem_map.mp hd
      exact ev_tupOf (.inl rfl) (ev_var rfl hv)
    · obtain ⟨s, _, rfl⟩ := List.mem_map.mp hd
      rfl
    · rw [List.map_map]
      rfl
end
end K33

set_option Elab.async false
set_option linter.all false
set_option maxRecDepth 100000
set_option maxHeartbeats 4000000
/-! InvalidDay.__init__: super().__init__('..'), then self.value = value. The def closes over __class__. -/
namespace K33
open PySem PySem.Spec PyProof.Rows L2 PySem.W PySem.Calls
open NdefX (NScope NF ncx inv_startN startF CellsAt envF)
section
variable {prog : Program} {w : World} {A : Around} {E : Value → Shared → Prop} {h : Heap} {g : Array GenState} {d : Drawn} {t : Nat} {os : OsState}
variable {nm q : Str} {C N : Addr} {bs bm : List Value} {hdct : Bool} {sn : List Str} {sub : List Value} {ab : Bool} {col : Option Bool} {dd : Option Addr} {k0 k1 k2 k3 k5 : Option Value}
theorem mw_call {u e t0 : Addr} {rest : List Value} {Q : Value → Shared → Prop}
    (hC : h.get? C = some (excClassObj nm q C N bs bm hdct sn sub ab col dd k0 k1 k2 k3 k5 "ValueError.__new__")) (hbm : HandSPX.refsVE bm = true) (he : h.get? e = some (HandSPX.excO C t0)) (hu : h.get? u = some (kxs_mw "ValueError.__init__" e)) (hrest : rest.length ≤ sizeLine)
    (hq : ∀ h' t1, (∀ b o, b ≠ e → h.get? b = some o → h'.get? b = some o) → h'.get? e = some (HandSPX.excO C t1) → Q .none ⟨h', g, d, t, os⟩) :
    wpAny (model prog w) A (call (.ref u) rest) Q E ⟨h, g, d, t, os⟩ := by
  refine wpAny_call (codeAny_of_tree ?_)
  show wpAny _ A.in1 (callAny (.ref u) ⟨rest, []⟩) _ _ _
  simp only [callAny]
  refine wpAny_bind (wpAny_load hu ?_)
  simp only [kxs_mw, show (Value.type "method-wrapper" == Value.type "method" || Value.type "method-wrapper" == Value.type "builtin_function_or_method" || Value.type "method-wrapper" == Value.type "method-wrapper") = true by decide, if_true]
  refine W.KFB.if_so (by decide) ?_
  refine wpAny_bind (ESX.check_bound F.excBase_ValueError hC he rfl ?_)
  refine wpAny_bind (wpAny_pure (wpAny_pure ?_))
  refine ⟨Code.quiet_builtin _ (by decide +kernel), codeAny_builtin F.excBase_ValueError.initEntry ?_⟩
  rw [Around.under_plainId F.excBase_ValueError.init.plain _]
  wp_walk
  refine hq _ h.objs.size (fun b o hb ho => ?_) ?_
  · rw [Heap.get?_update_other _ _ (Ne.symm hb)]
    exact Heap.get?_push_of_some _ ho
  · rw [Heap.get?_update_self _ (Heap.get?_push_of_some _ he) rfl]
    rfl
theorem mw_callWith {M : Model} {s : Shared} {pos : Pos} {u x : Addr} {i : String} {env : Env} {e : Expr} {rest : List Expr} {Q : Value → Shared → Prop}
    (h : wpAny M A (spliced (backTo pos (starEach (e :: rest) env))) (fun vs s₁ => KxsAt i u x s₁.heap ∧ wpAny M A (call (.ref u) vs) Q E s₁) E s)
    (he : starEach (e :: rest) env = (false, eval e env) :: starEach rest env := by rfl) (hplain : (backTo pos (starEach rest env)).any (·.1) = false := by rfl) :
    wpAny M A (callWith pos (.ref u) [] (backTo pos (starEach (e :: rest) env)) []) Q E s := by
  rw [he] at h ⊢
  refine kxs_callWith (i := i) (x := x) (by show (false || (backTo pos (starEach rest env)).any (·.1)) = false; rw [hplain]; rfl) ?_
  exact evalArgs_plain h
end
/-- what the written part says of such a def -/
structure InitX (K : Fg) (P : Program) (mg : Str → Option Value) (C f : Addr) (fd : FuncData) (x qual : Str) (st : Stmt) : Prop where
  oex : OexC K C
  sup : mg "super" = none
  fn : ∃ (oc kV doc pm ct ccl cl : Value) (od an cdd cld : Option Addr) (osl ccs csl : Array (Option Value)) (cda cc : Addr) (vs : Array Value) (file : Str) (tf : Tok),
    fd = fnX x qual (defArgs st) (defBody st) (defScope st) [("__class__", cc)] .none kV doc pm an (.ref cda) ct ∧ K.lookup f = some ⟨oc, od, .func fd, osl⟩ ∧ codeIn K (.ref cda) qual = true ∧
    K.lookup cc = some ⟨cl, cld, .cell (some (.ref C)), csl⟩ ∧ K.lookup cda = some ⟨ccl, cdd, .fields vs, ccs⟩ ∧ vs[2]? = some (.str file tf) ∧ ((P.main.file : Str) == file) = true
  top : (P.main.scope.names.lookup ("super" : Str)).isSome = false
  sub : mroIn K C (.ref C) = some true
  opq : nsIn K cStatics "thirdparty.any" = some none
  init : ks_superIn K C C "__init__" = some (some (.builtin "ValueError.__init__"))
  ve : subIn K (.ref C) (.type "ValueError") = some true
  no : PySem.W.findIn K (.ref C) "value" = some none
def spInitX (C : Addr) : Sp := fun vs H Q _ => ∃ a v, vs = [.ref a, v] ∧ H a = some (exo a C none) ∧ ∀ dx, H dx = none → dx ≠ a → Q .non (upd (upd H dx (exd dx [("value", v)])) a (exo a C (some dx)))
section
variable {P : Program} {w : World} {K : Fg} {mg : Str → Option Value} {base : Heap} {f C : Addr} {fd : FuncData} {x qual : Str} {st : Stmt} {CXx : CXT}
theorem ok_initX {p0 p1 p2 p3 p4 p5 p6 p7 p8 p9 : Pos} {m : Str} {j : Nat} (I : InitX K P mg C f fd x qual st) (S : NScope ["self", "value", "__class__"] ["self", "value"] ["__class__"] (defScope st))
    (hsup : (defScope st).names.lookup ("super" : Str) = some .globalImplicit) (hargs : ((defArgs st).posonlyargs ++ (defArgs st).args).head?.map (·.arg) = some "self")
    (hbody : defBody st = [.Expr (.Call (.Attribute (.Call (.Name "super" p0) [] [] p1) "__init__" p2) [.Constant (.str m) j p3] [] p4) p5, .Assign [.Attribute (.Name "self" p6) "value" p7] (.Name "value" p8) p9])
    (hev : ∀ env : Env, ∃ pl : Sem Bool, eval (.Call (.Attribute (.Call (.Name "super" p0) [] [] p1) "__init__" p2) [.Constant (.str m) j p3] [] p4) env = (do
      let ov ← attributeBase (.Call (.Name "super" p0) [] [] p1) "__init__" env (eval (.Call (.Name "super" p0) [] [] p1) env)
      standAt p2.atName
      let (f, first) ← holding [ov] (getMethod ov "__init__" pl)
      callWith p4 f first (backTo p4 (starEach [.Constant (.str m) j p3] env)) []))
    (hint : ∀ env : Env, env.scope.kind = .function → interactive env = false) (hsw : ∀ env : Env, swapsWith (.Name "value" p8) (some (.Attribute (.Name "self" p6) "value" p7)) p9.line env = pure false) :
    FnOk P w K mg base CXx 1 f fd ["self", "value"] (spInitX C) := by
  obtain ⟨oc, kV, doc, pm, ct, ccl, cl, od, an, cdd, cld, osl, ccs, csl, cda, cc, vs0, file, tf, rfl, lk, hcd, hcell, hcode, hvs, hfile⟩ := I.fn
  refine ⟨fun vs H Q E h => by obtain ⟨a, v, rfl, _⟩ := h; rfl, fun A outer s H args us vs Q E hr e0 hb r hsp => ?_⟩
  obtain ⟨a, v, rfl, hea, hq⟩ := hsp
  have KX : K.In s.heap := e0.mod.kin.keeps fun b o e => (e0.bs b o e).1
  have lim : s.heap.NoLimit := e0.mod.nolimit.keeps fun b o e => (e0.bs b o e).1
  have hl : us.length = 2 := r.length.symm
  refine codeAny_call_function hr.depth (KX _ _ lk) rfl S.co S.gen rfl (codeRec_of KX hcd) (hb _ _ _ _ ?_)
  refine wpAny_newFunctionEnv S.nocell (fun ⟨n, _⟩ hy => S.par n (List.of_mem_zip hy).1) (fun h₁ hns hsb => ⟨lim.fresh _ hsb, ?_⟩) S.kind
  let Fn : NF := ⟨x, qual, defArgs st, defBody st, defScope st, [("__class__", cc)], cda⟩
  have kp : ∀ b o, s.heap.get? b = some o → h₁.get? b = some o := fun b o e => hsb.extBut b o (Nat.ne_of_lt (Heap.lt_size e)) (Heap.get?_push_of_some _ e)
  have hccb : base.get? cc = some ⟨cl, cld, .cell (some (.ref C)), csl⟩ := e0.mod.kin _ _ hcell
  have hccH : H cc = none := (e0.bs _ _ hccb).2
  have Cs : CellsAt Fn.cl ["__class__"] [none] s.heap H := by
    refine ⟨rfl, fun y c e => ?_, fun y z c e1 e2 => ?_, fun i y hi => ?_⟩
    · have ec : c = cc := by
        have e : (if y == ("__class__" : Str) then some cc else none) = some c := by
          have : ([(("__class__" : Str), cc)] : List (Str × Addr)).lookup y = some c := e
          simp only [List.lookup] at this
          split at this <;> simp_all
        split at e <;> simp_all
      subst ec
      exact ⟨hccH, _, _, KX _ _ hcell, rfl⟩
    · have l1 : ∀ {y : Str} {c : Addr}, ([(("__class__" : Str), cc)] : List (Str × Addr)).lookup y = some c → y = "__class__" := fun {y c} e => by
        simp only [List.lookup] at e
        split at e
        · rename_i hh
          exact eq_of_beq hh
        · cases e
      exact (l1 e1).trans (l1 e2).symm
    · cases i with
      | succ i => simp at hi
      | zero =>
        simp at hi
        subst hi
        exact ⟨cc, by simp [Fn, List.lookup], fun v hv => by simp at hv⟩
  have I0 : Inv (ncx CXx P w K mg base ["self", "value", "__class__"] Fn f A outer s H E) [] (startF ["self", "value", "__class__"] [.ref a, v] [none]) H { s with heap := h₁, toks := s.toks + ((["self", "value"] : List Str).zip us).length } :=
    inv_startN S hr.hd e0 rfl r Cs hns kp
  obtain ⟨m0, hm0, hloc⟩ := I0.loc
  generalize hs1 : ({ s with heap := h₁, toks := s.toks + ((["self", "value"] : List Str).zip us).length } : Shared) = s1 at I0 hm0 hloc ⊢
  have X1 : K.In s1.heap := I0.kIn
  refine ks_codeAny_funcAt (env := envF Fn f s.heap.objs.size) ?_
  show _root_.PySem.wpAt _ _ _ (execs (defBody st) _) _ _ _
  rw [hbody]
  obtain ⟨nm, q, N, bs, bm, sn, sub, ab, col, dd, k0, k1, k2, k3, k5, hC, hbm⟩ := I.oex.cls
  have hcl : clsIn K C = some { name := nm, bases := bs, mro := .ref C :: bm, ns := N, qualname := q, hasDict := true, slotNames := sn, subclasses := sub, abstract := ab, collection := col, hasDel := false } := by unfold clsIn; rw [hC] <;> rfl
  obtain ⟨ar, hp, har⟩ : ∃ ar, ((defArgs st).posonlyargs ++ (defArgs st).args).head? = some ar ∧ ar.arg = ("self" : Str) := by
    cases e : ((defArgs st).posonlyargs ++ (defArgs st).args).head? with
    | none => rw [e] at hargs; cases hargs
    | some ar =>
      rw [e] at hargs
      exact ⟨ar, rfl, Option.some.inj hargs⟩
  have hkc : (defScope st).names.lookup ("__class__" : Str) = some .free := S.frk _ (by simp)
  have hka : (defScope st).names.lookup ("self" : Str) = some .local := S.par _ (by simp)
  obtain ⟨us0, hus0, hlk0⟩ := hloc 0 "self" (.ref a) rfl rfl (.inl hka)
  obtain rfl : us0 = Value.ref a := hus0
  have hself : m0 "self" = some (.ref a) := by
    rcases hlk0 with ⟨_, z⟩ | ⟨z, _⟩
    · exact z
    · rcases z with z | z
      · exact absurd (hka.symm.trans z) (by decide)
      · exact absurd (hka.symm.trans z) (by decide)
  obtain ⟨pl, hpl⟩ := hev (envF Fn f s.heap.objs.size)
  refine ks_wpAt_execs_cons (ks_wpAt_Expr_any (ks_wpAt_MethodCall (pl := pl) ?_ hpl) (hint _ S.kind))
  refine ks_wpAt_super_base hsup hkc (by decide) rfl (X1 _ _ lk) rfl hp rfl (X1 _ _ hcode) rfl hvs hfile I.top ?_
  obtain ⟨mb, hmb1, hmb2⟩ := I0.mod.blt
  refine ks_loadName_global S.kind hsup (loadGlobal_builtin (env := envF Fn f s.heap.objs.size) (I0.mod.glob.keeps I0.bk) I.sup (hmb1.keeps I0.bk) ((hmb2 _ (by decide)).trans (by first | rfl | kernel_rfl)) ⟨rfl, ?_⟩)
  refine wpAny_loadName_free S.kind hkc rfl ⟨_, X1 _ _ hcell, rfl⟩ ?_
  rw [har]
  refine wpAny_loadName_local S.kind hka hm0 hself ?_
  refine ks_wpAny_isType_cls (X1 _ _ hC) rfl ⟨rfl, ?_⟩
  obtain ⟨t1, hx⟩ := exo_at I0.hok hea
  obtain ⟨hp1, g1, d1, tk1, os1⟩ := s1
  refine ks_wpAny_call_super (X1 _ _ hC) rfl hx rfl (fun c e => by cases e) (looks_mroIn X1 I.sub) (fun h2 hso k2 => ?_)
  have I2 : Inv _ [] _ H ⟨h2, g1, d1, tk1, os1⟩ := I0.kept (t' := tk1) k2
  have X2 : K.In h2 := I2.kIn
  have IA : InstAt h2 a ({ cls := .ref C, dict := none, data := .fields #[.ref t1, .none, .none, .none, .bool false, .none] } : Obj) C none := ⟨k2 _ _ hx, rfl, rfl, trivial⟩
  have hI : Looks (model P w) h2 (isInstance (.ref a) (.type "ValueError")) true := IA.type.andThen (looks_subIn X2 I.ve)
  have hm2 : alongIn K "__init__" (((Value.ref C :: bm).dropWhile (· != .ref C)).drop 1) = some (some (.builtin "ValueError.__init__")) := by
    have z := I.init
    unfold ks_superIn at z
    rw [hcl] at z
    exact z
  refine kxs_getMethod kxs_ValueError hso (looks_opaque X2 I.opq) (l₀ := .ref C :: bm) ?_ rfl X2 hm2 hI (ks_ne X2 IA hcl) (by decide) ?_
  · exact fun A Q E s k q => wpAny_bind ((looks_clsIn X2 hcl) A _ E s k (wpAny_pure q))
  have k3 : ∀ b o, h2.get? b = some o → (h2.push (kxs_mw "ValueError.__init__" a)).get? b = some o := fun b o e => Heap.get?_push_of_some _ e
  have hu3 : (h2.push (kxs_mw "ValueError.__init__" a)).get? h2.objs.size = some (kxs_mw "ValueError.__init__" a) := Heap.get?_push_at rfl rfl
  have I3 : Inv _ [] _ H ⟨h2.push (kxs_mw "ValueError.__init__" a), g1, d1, tk1 + 1, os1⟩ := I2.kept (t' := tk1 + 1) k3
  have hlt := I2.lt
  have I4 := I3.pins_of (pins' := [(h2.objs.size, kxs_mw "ValueError.__init__" a)]) fun p hp => by
    rw [List.mem_singleton] at hp
    subst hp
    exact ⟨hu3, I2.hok.fresh (Nat.le_refl _), fun z => absurd hlt (by rw [← show h2.objs.size = _ from z]; exact Nat.lt_irrefl _), I2.nofs (Nat.le_refl _), fun v z => by cases z⟩
  refine mw_callWith (i := "ValueError.__init__") (x := a) ?_
  have ha : PA (ncx CXx P w K mg base ["self", "value", "__class__"] Fn f A outer s H E) [.Constant (.str m) j p3] (tCons (tC (.str m)) tNil) := pa_cons pe_str pa_nil
  refine thn (ha.run p4 _ _ _ H (fun vs H1 => vs = [V.str m] ∧ H = H1) I4 ⟨rfl, rfl⟩) fun us5 s5 hh => ?_
  obtain ⟨vs5, H5, I5, r5, rfl, eH⟩ := hh
  subst eH
  obtain ⟨hp5, g5, d5, tk5, os5⟩ := s5
  have hu5 := (I5.pin (h2.objs.size, kxs_mw "ValueError.__init__" a) (by simp)).1
  refine ⟨hu5, ?_⟩
  obtain ⟨t5, hx5⟩ := exo_at I5.hok hea
  have l5 : us5.length ≤ sizeLine := by
    rw [← Paired.length r5, sizeLine_eq]
    show 1 ≤ 16777216
    decide
  refine mw_call (I5.kIn _ _ hC) hbm hx5 hu5 l5 fun h6 t6 k6 hx6 => ?_
  have J := I5.write (t' := tk5) (x := a) (e := a) (o := exo a C none) (by rw [hea]; exact True.intro) (.inl rfl) k6 ⟨_, hx6⟩ (exo_ok hx6)
  have eu : upd H a (exo a C none) = H := by
    funext b
    by_cases hb : b = a
    · rw [hb, upd_same, hea]
    · rw [upd_ne hb]
  rw [eu] at J
  have J := J.pins_of (pins' := []) fun p hp => by cases hp
  -- self.value = value
  refine wpAt_of_wpAny ?_
  have hv0 : (startF ["self", "value", "__class__"] [V.ref a, v] [none])[0]? = some (some (V.ref a)) := rfl
  have hv1 : (startF ["self", "value", "__class__"] [V.ref a, v] [none])[1]? = some (some v) := rfl
  have ht : PSs (ncx CXx P w K mg base ["self", "value", "__class__"] Fn f A outer s H E) [.Assign [.Attribute (.Name "self" p6) "value" p7] (.Name "value" p8) p9] (tOst K "value" (tVar 0) (tVar 1)) := pss_one (ps_ost (pv 0 rfl (.inl hka)) (pv 1 rfl (.inl (S.par _ (by simp)))) (hsw _))
  refine wpAny_mono (ht.run [] _ _ H { nx := fun _ H' => Q .non H', rt := Q } J ⟨v, hv1, _, hv0, a, C, rfl, I.oex, I.no, .inl ⟨hea, hq⟩⟩) (fun fl s' hs => ?_) fun e s' hs => hs
  have fin : ∀ {σ' : L2.St} {H' : Hp} {v : V} {u : Value}, Inv (ncx CXx P w K mg base ["self", "value", "__class__"] Fn f A outer s H E) [] σ' H' s' → L2.RelV v u → Q v H' → CE outer P w H s Q u s' :=
    fun {σ' H' v u} J rv q => ⟨v, H', J.os, J.bare, J.base, J.hok, rv, q⟩
  cases fl with
  | ret u =>
    obtain ⟨v, σ', H', J, rv, q⟩ := hs
    exact fin J rv q
  | next =>
    obtain ⟨σ', H', J, q⟩ := hs
    exact fin (v := V.non) (u := Value.none) J rfl q
  | brk =>
    obtain ⟨_, _, _, q⟩ := hs
    exact False.elim q
  | cont =>
    obtain ⟨_, _, _, q⟩ := hs
    exact False.elim q
end
end K33

set_option Elab.async false
set_option linter.all false
set_option maxRecDepth 100000
set_option maxHeartbeats 4000000
/-! core_plain, yards, days: what a value must be. -/
namespace K33
open PySem PySem.Spec PyProof.Rows L2
/-- a constant of a module -/
def Con1 (mg : Str → Option Value) (x : Str) (v : V) : Prop := ∃ u, mg x = some u ∧ RelV v u
theorem pe_con {X : Cx} {x : Str} {v : V} {pos : Pos} (h : Con1 X.mg x v) (hg : Gl X x) (hd : (x == ("__debug__" : Str)) = false := by decide) : PE X (.Name x pos) (tC v) := by
  obtain ⟨u, e, r⟩ := h
  exact pe_glob hg e r hd
theorem ps_never {X : Cx} {st : Stmt} : PS X st (fun _ _ _ => False) := ⟨fun _ _ _ _ _ _ h => h.elim⟩
def abc : Str := "abcdefghijklmnopqrstuvwxyz"
/-! small data -/
mutual
def fit : PyData → Bool
  | .str s => decide (s.length ≤ 1000)
  | .list ds => decide (ds.length ≤ 1000) && fitAll ds
  | .tuple ds => decide (ds.length ≤ 1000) && fitAll ds
  | .dict _ => false
  | _ => true
def fitAll : List PyData → Bool
  | [] => true
  | d :: ds => fit d && fitAll ds
end
theorem fitAll_iff : ∀ {ds : List PyData}, fitAll ds = true ↔ ∀ d ∈ ds, fit d = true
  | [] => Iff.intro (fun _ d h => by simp at h) (fun _ => rfl)
  | d :: ds => by
    show (fit d && fitAll ds) = true ↔ _
    rw [Bool.and_eq_true, fitAll_iff]
    constructor
    · rintro ⟨a, b⟩ x hx
      rcases List.mem_cons.mp hx with e | e
      · rw [e]; exact a
      · exact b x e
    · intro h
      exact ⟨h d (List.mem_cons_self ..), fun x hx => h x (List.mem_cons_of_mem _ hx)⟩
theorem fit_seq {d : PyData} {ds : List PyData} (h : fit d = true) (e : d = .list ds ∨ d = .tuple ds) : ds.length ≤ 1000 ∧ ∀ x ∈ ds, fit x = true := by
  rcases e with e | e
  · subst e
    have h : (decide (ds.length ≤ 1000) && fitAll ds) = true := h
    rw [Bool.and_eq_true, decide_eq_true_eq] at h
    exact ⟨h.1, fitAll_iff.mp h.2⟩
  · subst e
    have h : (decide (ds.length ≤ 1000) && fitAll ds) = true := h
    rw [Bool.and_eq_true, decide_eq_true_eq] at h
    exact ⟨h.1, fitAll_iff.mp h.2⟩
/-! the mirrors -/
def nameS (s : Str) : Bool := decide (1 ≤ (s.length : Int)) && decide ((s.length : Int) ≤ 8) && s.cps.toList.all fun c => decide (c ∈ abc.cps.toList)
def nameB : PyData → Bool
  | .str s => nameS s
  | _ => false
def strOf : PyData → Str
  | .str s => s
  | _ => Str.empty
def eventB : PyData → Bool
  | .tuple [.str w, n] => (decide (w = "in") || decide (w = "out")) && nameB n
  | _ => false
def evOf : PyData → Evt
  | .tuple [.str w, n] => (decide (w = "in"), strOf n)
  | _ => (true, Str.empty)
theorem evD_of {d : PyData} (h : eventB d = true) : evD (evOf d) = d := by
  unfold eventB at h
  split at h
  · rename_i w n
    rw [Bool.and_eq_true, Bool.or_eq_true, decide_eq_true_eq, decide_eq_true_eq] at h
    obtain ⟨h1, h2⟩ := h
    have en : n = .str (strOf n) := by cases n <;> first | rfl | cases h2
    show PyData.tuple [.str (wordS (decide (w = "in"))), .str (strOf n)] = .tuple [.str w, n]
    have ew : wordS (decide (w = "in")) = w := by
      rcases h1 with e | e
      · rw [e]; rfl
      · rw [e]
        have : decide (("out" : Str) = "in") = false := by decide +kernel
        rw [this] <;> rfl
    rw [ew, ← en]
  · cases h
def seqOf : PyData → Option (List PyData)
  | .list ds => some ds
  | .tuple ds => some ds
  | _ => none
theorem seqOf_some {d : PyData} {ds : List PyData} (h : seqOf d = some ds) : d = .list ds ∨ d = .tuple ds := by
  cases d <;> first | (cases h; exact .inl rfl) | (cases h; exact .inr rfl) | cases h
def isSeq (d : PyData) : Bool := isLst d || isTup d
theorem isSeq_eq (d : PyData) : isSeq d = (seqOf d).isSome := by cases d <;> rfl
/-- the events of such a value, if it is a day's -/
def evsOf (d : PyData) : Option (List Evt) := match seqOf d with
  | some ds => if ds.all eventB && (run [] (ds.map evOf)).isSome then some (ds.map evOf) else none
  | none => none
theorem evs_back {ds : List PyData} (h : ds.all eventB = true) : (ds.map evOf).map evD = ds := by
  rw [List.map_map]
  conv => rhs; rw [← List.map_id ds]
  apply List.map_congr_left
  intro d hd
  exact evD_of (List.all_eq_true.mp h d hd)
def asEvD (d : PyData) : PyData := match evsOf d with
  | some es => evsD es
  | none => .none
theorem run_stop {es : List Evt} {th : List Str} {i : Nat} {b : Bool} {x : Str} (hi : es[i]? = some (b, x)) (ht : run [] (es.take i) = some th) (hb : decide (x ∈ th) = b) : run [] es = none := by
  have e : es = es.take i ++ (b, x) :: es.drop (i + 1) := by
    have h1 := (List.take_append_drop i es).symm
    rw [List.drop_eq_getElem_cons (List.getElem?_eq_some_iff.mp hi).1] at h1
    have h2 : es[i]'(List.getElem?_eq_some_iff.mp hi).1 = (b, x) := (List.getElem?_eq_some_iff.mp hi).2
    rw [h2] at h1
    exact h1
  rw [e, run_append, ht]
  show run th ((b, x) :: es.drop (i + 1)) = none
  cases b with
  | true =>
    rw [run_T, if_pos (of_decide_eq_true hb)]
  | false =>
    rw [run_F, if_neg (of_decide_eq_false hb)]
theorem run_go {es : List Evt} {th : List Str} {i : Nat} {b : Bool} {x : Str} (hi : es[i]? = some (b, x)) (ht : run [] (es.take i) = some th) (hb : decide (x ∈ th) = !b) : run [] (es.take (i + 1)) = some (if b = true then th ++ [x] else th.erase x) := by
  have et : es.take (i + 1) = es.take i ++ [(b, x)] := by rw [List.take_add_one, hi]; rfl
  rw [et, run_append, ht]
  show run th [(b, x)] = _
  cases b with
  | true =>
    rw [run_T, if_neg (of_decide_eq_false hb)]
    rfl
  | false =>
    rw [run_F, if_pos (of_decide_eq_true hb)]
    rfl
theorem valV_drop {κ : Type} [DecidableEq κ] (k j : κ) : ∀ kvs : List (κ × V), valV (dropK kvs k) j = if j = k then none else valV kvs j
  | [] => by
    show none = _
    rw [valV_nil]
    split <;> rfl
  | p :: r => by
    by_cases e : p.1 = k
    · rw [dropK_pos e, valV_drop k j r]
      by_cases h : j = k
      · rw [if_pos h, if_pos h]
      · rw [if_neg h, if_neg h, valV_neg (fun z => h (z.symm.trans e))]
    · rw [dropK_neg e]
      by_cases h : p.1 = j
      · rw [valV_pos h, if_neg (fun z => e (h.trans z)), valV_pos h]
      · rw [valV_neg h, valV_drop k j r, valV_neg h]
/-! the promises -/
def pre_isI2 : Pr := pre_isI
def pre_number : Pr := fun ds Post => ∃ i : Int, ds = [.int i] ∧ Post (.bool (decide (0 ≤ i)))
def pre_seq : Pr := fun ds Post => ∃ x, ds = [x] ∧ Post (.bool (isSeq x))
def pre_name : Pr := fun ds Post => ∃ x, ds = [x] ∧ fit x = true ∧ Post (.bool (nameB x))
def pre_unlike : Pr := fun ds Post => ds = [.list []] ∧ Post (.bool true)
def pre_stacks : Pr := fun ds Post => ∃ n : Nat, ds = [.int n, .tuple [.tuple []]] ∧ Post (.tuple [.tuple []])
def pre_event : Pr := fun ds Post => ∃ x, ds = [x] ∧ fit x = true ∧ Post (.bool (eventB x))
section
variable {K : Fg} {σ : L2.St} {H H' : Hp} {ta tb te tx tl tc td : TE} {tr : TA} {t u : TT} {x y z d w : PyData} {v : V} {P : VP} {r r' r2 : R2} {wi : TI} {g : TG}
theorem ev_allW {ds : List PyData} {vs : List Nat} (h : EvW K Same wi σ H ds) (f : PyData → Bool) (hz : ds.length ≤ 1000000)
    (hb : ∀ d ∈ ds, ∀ v H1, Same H H1 → Is K H1 v d → ∀ R : L2.St → Hp → Prop, (∀ σ2, wipe σ2 vs = wipe σ vs → Ev te σ2 H1 (IsD K (.bool (f d))) → R σ2 H1) → g v (wipe σ vs) H1 R) : Ev (tCB (rAll K) (tCons (tLc wi g tYes te vs) tNil)) σ H (IsD K (.bool (ds.all f))) := by
  refine ev_is (ev_all (bs := ds.map f) (ev_is (el_lcW h (fun _ => true) (fun d => .bool (f d)) hz (fun d hd v H1 e hv R k => hb d hd v H1 e hv R fun σ2 hw he => k σ2 hw et_yes fun _ => he) (fun _ _ _ => rfl)).ev ?_)) ?_
  · rw [List.filter_eq_self.mpr (fun _ _ => rfl), List.map_map]
    rfl
  · rw [List.all_map]
    rfl
def rLenDD : List V → Hp → VK → Prop := fun xs H Q => ∃ a kvs, xs = [V.ref a] ∧ H a = some (.dK kvs) ∧ Q (.int kvs.length) H
theorem ev_lenDnil {tk tv : TE} {vs : List Nat} (h : EvW K Same wi σ H []) : Ev (tCB rLenDD (tCons (tDc wi g t tk tv vs) tNil)) σ H (IsD K (.int 0)) := fun H1 e Q q =>
  (ed_nil h) H1 e (fun v H2 => rLenDD [v] H2 Q) fun p H2 _ e2 hp => ⟨p, [], rfl, hp, q _ H2 e2 (.int _)⟩
end
section
variable {P : Program} {w : World} {K : Fg} {mg : Str → Option Value} {base : Heap} {f : Addr} {fd : FuncData}
/-- slots: value 0 -/
theorem sc_is_integer_20 : FnScope ["value"] ["value"] (defScope s_is_integer_20) := ⟨rfl, rfl, rfl, by decide +kernel, rfl, by decide +kernel, by decide +kernel⟩
theorem ok_is_integer_20 (F : Fun K "is_integer" "is_integer" s_is_integer_20 f fd) (B : Blt mg) : FnOk P w K mg base CX0 1 f fd ["value"] (SpD K pre_isI) := by
  refine F.ok sc_is_integer_20 (spd_len fun ds Post h => by obtain ⟨x, rfl, _⟩ := h; rfl) (fun cdv A outer s H vs Q E hr h => ?_)
  obtain ⟨ds, Post, a, ⟨x, rfl, hp⟩, q⟩ := h
  refine ⟨_, (pss_one (ps_ret (pe_and (pe_callB (isi_K (K := K) rfl) (by rfl) B.isinstance (by decide +kernel) (pa_cons (pv 0) (pa_cons (pe_bltn (v := .ty "int") (by rfl) B.int (by decide +kernel) rfl) pa_nil))) (pe_one (pe_not (pe_callB (isi_K (K := K) rfl) (by rfl) B.isinstance (by decide +kernel) (pa_cons (pv 0) (pa_cons (pe_bltn (v := .ty "bool") (by rfl) B.bool (by decide +kernel) rfl) pa_nil)))))))), ?_⟩
  obtain ⟨v, rfl, hv⟩ := all1 a
  exact s_retD (ev_andV (ev_isInt (ev_var rfl hv)) fun _ => ev_notV (ev_isBool (ev_var rfl hv))) (by rw [isI_eq]) fun v H1 e hv => q _ v H1 hp e hv
/-- slots: value 0 -/
theorem sc_is_number : FnScope ["value"] ["value"] (defScope s_is_number) := ⟨rfl, rfl, rfl, by decide +kernel, rfl, by decide +kernel, by decide +kernel⟩
theorem ok_is_number (F : Fun K "is_number" "is_number" s_is_number f fd) (B : Blt mg) (G_is_integer_core_plain : Fn P w K mg base CX0 1 "is_integer_core_plain" ["value"] (SpD K pre_isI)) : FnOk P w K mg base CX0 2 f fd ["value"] (SpD K pre_number) := by
  refine F.ok sc_is_number (spd_len fun ds Post h => by obtain ⟨x, rfl, _⟩ := h; rfl) (fun cdv A outer s H vs Q E hr h => ?_)
  obtain ⟨ds, Post, a, ⟨x, rfl, hp⟩, q⟩ := h
  refine ⟨_, (pss_one (ps_ret (pe_and (pe_fn G_is_integer_core_plain (hr.mono (by decide)) (by rfl) pass0 (pa_cons (pv 0) pa_nil)) (pe_one (pe_cmpR op_ge (pv 0) pe_int (nomark _)))))), ?_⟩
  obtain ⟨v, rfl, hv⟩ := all1 a
  exact s_retD (ev_andV (ev_callF (z := .bool true) (ea1 (ev_var rfl hv)) ⟨_, rfl, rfl⟩) fun _ => ev_op (ev_var rfl hv) ev_int rd_ge) rfl fun v H1 e hv => q _ v H1 hp e hv
/-- slots: value 0 -/
theorem sc_is_sequence : FnScope ["value"] ["value"] (defScope s_is_sequence) := ⟨rfl, rfl, rfl, by decide +kernel, rfl, by decide +kernel, by decide +kernel⟩
theorem ok_is_sequence (F : Fun K "is_sequence" "is_sequence" s_is_sequence f fd) (B : Blt mg) : FnOk P w K mg base CX0 1 f fd ["value"] (SpD K pre_seq) := by
  refine F.ok sc_is_sequence (spd_len fun ds Post h => by obtain ⟨x, rfl, _⟩ := h; rfl) (fun cdv A outer s H vs Q E hr h => ?_)
  obtain ⟨ds, Post, a, ⟨x, rfl, hp⟩, q⟩ := h
  refine ⟨_, (pss_one (ps_ret (pe_callB (isiT_K (K := K) rfl) (by rfl) B.isinstance (by decide +kernel) (pa_cons (pv 0) (pa_cons (pe_tup (pa_cons (pe_bltn (v := .ty "list") (by rfl) B.list (by decide +kernel) rfl) (pa_cons (pe_bltn (v := .ty "tuple") (by rfl) B.tuple (by decide +kernel) rfl) pa_nil))) pa_nil))))), ?_⟩
  obtain ⟨v, rfl, hv⟩ := all1 a
  exact s_retD (ev_isSeq (ev_var rfl hv)) rfl fun v H1 e hv => q _ v H1 hp e hv
/-- slots: value 0, sign 1 -/
theorem sc_is_name : FnScope ["value", "sign"] ["value"] (defScope s_is_name) := ⟨rfl, rfl, rfl, by decide +kernel, rfl, by decide +kernel, by decide +kernel⟩
theorem ok_is_name (F : Fun K "is_name" "is_name" s_is_name f fd) (B : Blt mg) (g_LETTERS : Con1 mg "LETTERS" (.str abc)) (g_MOST_LETTERS : Con1 mg "MOST_LETTERS" (.int 8)) : FnOk P w K mg base CX0 1 f fd ["value"] (SpD K pre_name) := by
  refine F.ok sc_is_name (spd_len fun ds Post h => by obtain ⟨x, rfl, _⟩ := h; rfl) (fun cdv A outer s H vs Q E hr h => ?_)
  obtain ⟨ds, Post, a, ⟨x, rfl, hz, hp⟩, q⟩ := h
  refine ⟨_, (pss_cons (ps_if (PW.pt (pw_or (pt_not (pt_val (pe_callB (isi_K (K := K) rfl) (by rfl) B.isinstance (by decide +kernel) (pa_cons (pv 0) (pa_cons (pe_bltn (v := .ty "str") (by rfl) B.str (by decide +kernel) rfl) pa_nil))))) (pw_or1 (pt_not (pt_chain op_le op_le pe_int (pe_callB (len_K (K := K) rfl) (by rfl) B.len PySem.boot_len (pa_cons (pv 0) pa_nil)) (pe_con g_MOST_LETTERS (by rfl))))))) (pss_one (ps_ret pe_bl)) pss_nil)
      (pss_one (ps_ret (pe_callB (all_K (K := K) rfl rfl) (by rfl) B.all (by decide +kernel) (pa_cons (pe_lc (own := [("sign", 1)]) rfl sc_is_name.nd (pi_str (pv 0)) (blkOk_by (own := [("sign", 1)]) (N := ["value", "sign"]) (sc := (defScope s_is_name)) (by decide +kernel)) (fun _ _ _ _ _ => (pg_name (i := 1) sc_is_name.nd rfl (Or.inl rfl))) (fun _ _ _ _ _ => pts_nil) (fun _ _ _ _ _ => (pe_cmpR op_inSg (pv 1) (pe_con g_LETTERS (by rfl)) rfl))) pa_nil))))), ?_⟩
  obtain ⟨v, rfl, hv⟩ := all1 a
  cases hs : isStr x with
  | false =>
    have e0 : nameB x = false := by cases x <;> first | rfl | cases hs
    refine q_when (b := true) (et_is (et_or (a := true) (b := true) (et_is (et_not (et_B (ev_isStr (ev_var rfl hv)))) (by rw [hs]; rfl)) fun h => absurd h (by decide)) rfl) (fun h H1 e1 => s_retB (K := K) e0.symm fun u H2 e2 hu => q _ u H2 hp (e1.trans e2) hu) (fun h => Bool.noConfusion h)
  | true =>
    cases x with
    | str s =>
      have hl : s.length ≤ 1000 := of_decide_eq_true hz
      refine q_when (b := !(decide (1 ≤ (s.length : Int)) && decide ((s.length : Int) ≤ 8))) (et_is (et_or (a := false) (b := !(decide (1 ≤ (s.length : Int)) && decide ((s.length : Int) ≤ 8))) (et_not (et_B (ev_isStr (ev_var rfl hv)))) fun _ => et_not (et_test (ev_chain ev_int (ev_lenS (ev_var rfl hv) (by omega)) (fun _ => ev_int) rd_le rd_le))) (by rfl)) (fun h H1 e1 => ?_) (fun h H1 e1 => ?_)
      · have e0 : nameB (.str s) = false := by
          rw [Bool.not_eq_true'] at h
          show (decide (1 ≤ (s.length : Int)) && decide ((s.length : Int) ≤ 8) && _) = false
          rw [h, Bool.false_and]
        exact s_retB (K := K) e0.symm fun u H2 e2 hu => q _ u H2 hp (e1.trans e2) hu
      · rw [Bool.not_eq_false'] at h
        refine s_retD (ev_allW (ew_str (C := Same) (ev_var rfl (hv.mono e1))) (fun d => match d with | .str s => s.cps.toList.all (fun c => decide (c ∈ abc.cps.toList)) | _ => false) (by rw [List.length_map, Array.length_toList]; exact Nat.le_trans hl (by decide)) (fun d hd y H2 e2 hy R k => g_nm (k _ rfl ?_))) ?_ fun v H2 e2 hv => q _ v H2 hp (e1.trans e2) hv
        · obtain ⟨c, _, rfl⟩ := List.mem_map.mp hd
          refine ev_is (ev_op (ev_var rfl hy) (ev_c (.str abc)) rd_inSg) ?_
          congr 1
          show _ = [c].all fun c => decide (c ∈ abc.cps.toList)
          simp
        · show PyData.bool _ = .bool (decide (1 ≤ (s.length : Int)) && decide ((s.length : Int) ≤ 8) && s.cps.toList.all fun c => decide (c ∈ abc.cps.toList))
          rw [h, Bool.true_and, List.all_map]
          congr 2
          funext c
          show [c].all (fun c => decide (c ∈ abc.cps.toList)) = _
          simp
    | _ => cases hs
/-- slots: names 0, name 1 -/
theorem sc_are_unlike : FnScope ["names", "name"] ["names"] (defScope s_are_unlike) := ⟨rfl, rfl, rfl, by decide +kernel, rfl, by decide +kernel, by decide +kernel⟩
theorem ok_are_unlike (F : Fun K "are_unlike" "are_unlike" s_are_unlike f fd) (B : Blt mg) : FnOk P w K mg base CX0 1 f fd ["names"] (SpD K pre_unlike) := by
  refine F.ok sc_are_unlike (spd_len fun ds Post h => by obtain ⟨rfl, _⟩ := h; rfl) (fun cdv A outer s H vs Q E hr h => ?_)
  obtain ⟨ds, Post, a, ⟨rfl, hp⟩, q⟩ := h
  refine ⟨_, (pss_one (ps_ret (pe_cmpR (op_eqK (K := K) rfl hr.units) (pe_callB call_lenD (by rfl) B.len PySem.boot_len (pa_cons (pe_dc (own := [("name", 1)]) rfl sc_are_unlike.nd (seq_K (K := K) rfl (pv 0)) (blkOk_by (own := [("name", 1)]) (N := ["names", "name"]) (sc := (defScope s_are_unlike)) (by decide +kernel)) (fun _ _ _ _ _ => (pg_name (i := 1) sc_are_unlike.nd rfl (Or.inl rfl))) (fun _ _ _ _ _ => pts_nil) (fun _ _ _ _ _ => (pv 1)) (fun _ _ _ _ _ => pe_bl)) pa_nil)) (pe_callB (len_K (K := K) rfl) (by rfl) B.len PySem.boot_len (pa_cons (pv 0) pa_nil)) (nomark _)))), ?_⟩
  obtain ⟨v, rfl, hv⟩ := all1 a
  exact s_retD (d' := .bool true) (ev_is (ev_op (x := .int 0) (y := .int 0) (ev_lenDnil (ew_seq (ds := []) (.inl rfl) (ev_var rfl hv))) (ev_lenL (ds := []) (ev_var rfl hv)) rd_eqI) rfl) rfl fun v H1 e hv => q _ v H1 hp e hv
/-- slots: height 0, value 1, stacks 2, names 3, stack 4, name 5 -/
theorem sc_as_stacks : FnScope ["height", "value", "stacks", "names", "stack", "name"] ["height", "value"] (defScope s_as_stacks) := ⟨rfl, rfl, rfl, by decide +kernel, rfl, by decide +kernel, by decide +kernel⟩
theorem ok_as_stacks (F : Fun K "as_stacks" "as_stacks" s_as_stacks f fd) (B : Blt mg) (G_is_sequence : Fn P w K mg base CX0 1 "is_sequence" ["value"] (SpD K pre_seq)) (G_is_name : Fn P w K mg base CX0 1 "is_name" ["value"] (SpD K pre_name))
    (G_are_unlike : Fn P w K mg base CX0 1 "are_unlike" ["names"] (SpD K pre_unlike)) : FnOk P w K mg base CX0 2 f fd ["height", "value"] (SpD K pre_stacks) := by
  refine F.ok sc_as_stacks (spd_len fun ds Post h => by obtain ⟨n, rfl, _⟩ := h; rfl) (fun cdv A outer s H vs Q E hr h => ?_)
  obtain ⟨ds, Post, a, ⟨n, rfl, hp⟩, q⟩ := h
  refine ⟨_, (pss_cons (ps_if (PW.pt (pw_or (pt_not (pt_val (pe_fn G_is_sequence (hr.mono (by decide)) (by rfl) pass0 (pa_cons (pv 1) pa_nil)))) (pw_or (pt_cmpR (op_eqK (K := K) rfl hr.units) (pe_callB (len_K (K := K) rfl) (by rfl) B.len PySem.boot_len (pa_cons (pv 1) pa_nil)) pe_int (nomark _)) (pw_or1 (pt_not (pt_val (pe_callB (all_K (K := K) rfl rfl) (by rfl) B.all (by decide +kernel) (pa_cons (pe_lc (own := [("stack", 4)]) rfl sc_as_stacks.nd (seq_K (K := K) rfl (pv 1)) (blkOk_by (own := [("stack", 4)]) (N := ["height", "value", "stacks", "names", "stack", "name"]) (sc := (defScope s_as_stacks)) (by decide +kernel)) (fun _ _ _ _ _ => (pg_name (i := 4) sc_as_stacks.nd rfl (Or.inl rfl))) (fun _ _ _ _ _ => pts_nil) (fun _ _ _ _ _ => (pe_fn G_is_sequence (hr.mono (by decide)) (by rfl) pass0 (pa_cons (pv 4) pa_nil)))) pa_nil)))))))) (pss_one (ps_ret pe_non)) pss_nil)
      (pss_cons (ps_set (i := 2) sc_as_stacks.nd rfl (Or.inl rfl) (pe_callTy (tup_K (K := K) rfl) (by rfl) B.tuple (by decide +kernel) (pa_cons (pe_lc (own := [("stack", 4)]) rfl sc_as_stacks.nd (seq_K (K := K) rfl (pv 1)) (blkOk_by (own := [("stack", 4)]) (N := ["height", "value", "stacks", "names", "stack", "name"]) (sc := (defScope s_as_stacks)) (by decide +kernel)) (fun _ _ _ _ _ => (pg_name (i := 4) sc_as_stacks.nd rfl (Or.inl rfl))) (fun _ _ _ _ _ => pts_nil) (fun _ _ _ _ _ => (pe_callTy (tup_K (K := K) rfl) (by rfl) B.tuple (by decide +kernel) (pa_cons (pv 4) pa_nil)))) pa_nil)))
      (pss_cons (ps_setLc2 (own := [("stack", 4), ("name", 5)]) (vs1 := [5]) (i := 3) rfl sc_as_stacks.nd rfl rfl (sw_true rfl rfl rfl (by decide +kernel)) (seq_K (K := K) rfl (pv 2)) (blkOk_by (own := [("stack", 4), ("name", 5)]) (N := ["height", "value", "stacks", "names", "stack", "name"]) (sc := (defScope s_as_stacks)) (by decide +kernel)) (by decide) (fun _ _ _ _ _ => (pg_name (i := 4) sc_as_stacks.nd rfl (Or.inl rfl))) (fun _ _ _ _ _ => pts_nil) (fun _ _ _ _ _ => (seq_K (K := K) rfl (pv 4))) (fun _ _ _ _ _ => (pg_name (i := 5) sc_as_stacks.nd rfl (Or.inl rfl))) (fun _ _ _ _ _ => pts_nil) (fun _ _ _ _ _ => (pv 5)))
      (pss_cons (ps_if (PW.pt (pw_or (pt_not (pt_val (pe_callB (all_K (K := K) rfl rfl) (by rfl) B.all (by decide +kernel) (pa_cons (pe_lc (own := [("name", 5)]) rfl sc_as_stacks.nd (seq_K (K := K) rfl (pv 3)) (blkOk_by (own := [("name", 5)]) (N := ["height", "value", "stacks", "names", "stack", "name"]) (sc := (defScope s_as_stacks)) (by decide +kernel)) (fun _ _ _ _ _ => (pg_name (i := 5) sc_as_stacks.nd rfl (Or.inl rfl))) (fun _ _ _ _ _ => pts_nil) (fun _ _ _ _ _ => (pe_fn G_is_name (hr.mono (by decide)) (by rfl) pass0 (pa_cons (pv 5) pa_nil)))) pa_nil)))) (pw_or1 (pt_not (pt_val (pe_fn G_are_unlike (hr.mono (by decide)) (by rfl) pass0 (pa_cons (pv 3) pa_nil))))))) (pss_one (ps_ret pe_non)) pss_nil)
      (pss_one (ps_ret (pe_ifExp (pt_val (pe_callB (all_K (K := K) rfl rfl) (by rfl) B.all (by decide +kernel) (pa_cons (pe_lc (own := [("stack", 4)]) rfl sc_as_stacks.nd (seq_K (K := K) rfl (pv 2)) (blkOk_by (own := [("stack", 4)]) (N := ["height", "value", "stacks", "names", "stack", "name"]) (sc := (defScope s_as_stacks)) (by decide +kernel)) (fun _ _ _ _ _ => (pg_name (i := 4) sc_as_stacks.nd rfl (Or.inl rfl))) (fun _ _ _ _ _ => pts_nil) (fun _ _ _ _ _ => (pe_cmpR op_le (pe_callB (len_K (K := K) rfl) (by rfl) B.len PySem.boot_len (pa_cons (pv 4) pa_nil)) (pv 0) (nomark _)))) pa_nil))) (pv 2) pe_non))))))), ?_⟩
  obtain ⟨vh, v, rfl, hh, hv⟩ := all2 a
  have one : ∀ d ∈ ([PyData.tuple []] : List PyData), d = .tuple [] := fun d hd => List.mem_singleton.mp hd
  refine q_when (b := false) (et_is (et_or (a := false) (b := false) (et_is (et_not (et_B (ev_callF (z := .bool true) (ea1 (ev_var rfl hv)) ⟨_, rfl, rfl⟩))) rfl) fun _ => et_is (et_or (a := false) (b := false) (et_is (et_test (ev_op (ev_lenT (ev_var rfl hv)) ev_int rd_eqI)) rfl) fun _ =>
    et_is (et_not (et_B (ev_allS (fun _ => true) (.inr rfl) (ev_var rfl hv) (by decide) (fun _ => rfl) (fun d hd y H1 e1 hy => by rw [one d hd] at hy; exact ev_callF (z := .bool true) (ea1 (ev_var rfl hy)) ⟨_, rfl, rfl⟩)))) rfl) rfl) rfl) (fun h => Bool.noConfusion h) (fun _ H1 e1 => ?_)
  refine q_asg (ev_is (ev_tupOf (.inl rfl) (el_mapS id (.inr rfl) (ev_var rfl (hv.mono e1)) (by decide) (fun _ => rfl) (fun d hd y H2 e2 hy => by rw [one d hd] at hy ⊢; exact ev_tupOf (.inr rfl) (ev_var rfl hy)) (fun d hd => by rw [one d hd]; rfl)).ev) (y := .tuple [.tuple []]) rfl) fun v2 H2 e2 hv2 => ?_
  refine q_asgL (el_lc2W 1 (ew_seq (.inr rfl) (ev_var rfl hv2)) (fun _ => []) (fun _ _ => true) (fun _ d => d) (fun _ _ => Nat.zero_le _) (by decide) (by decide) (fun d hd y H3 e3 hy R k => by
    rw [one d hd] at hy
    exact g_nm (k _ rfl (ew_tupT rfl (ev_var rfl hy)) fun d1 hd1 => by cases hd1)) (fun d hd d1 hd1 => by cases hd1)) fun l xs H3 hl e3 h3 a3 => ?_
  cases a3
  have hn : Is K H3 (.ref l) (.list []) := .lst h3 .nil
  refine q_when (b := false) (et_is (et_or (a := false) (b := false) (et_is (et_not (et_B (ev_allS (ds := []) (fun _ => true) (.inl rfl) (ev_var rfl hn) (by decide) (fun _ => rfl) (fun d hd => by cases hd)))) rfl) fun _ => et_is (et_not (et_B (ev_callF (z := .bool true) (ea1 (ev_var rfl hn)) ⟨rfl, rfl⟩))) rfl) rfl) (fun h => Bool.noConfusion h) (fun _ H4 e4 => ?_)
  have hv4 := (hv2.mono e3).mono e4
  have hh4 := (((hh.mono e1).mono e2).mono e3).mono e4
  refine s_ret (P := IsD K (.tuple [.tuple []])) (ev_if (b := true) (et_is (et_B (ev_allS (fun _ => true) (.inr rfl) (ev_var rfl hv4) (by decide) (fun _ => rfl) (fun d hd y H5 e5 hy => by
    rw [one d hd] at hy
    exact ev_is (ev_op (ev_lenT (ev_var rfl hy)) (ev_var rfl (hh4.mono e5)) rd_le) (by have e : decide (((([] : List PyData).length : Nat) : Int) ≤ (n : Int)) = true := decide_eq_true (Int.natCast_nonneg n); rw [e])))) rfl) (fun _ => ev_var rfl hv4) (fun h => Bool.noConfusion h)) fun u H5 e5 hu => q _ u H5 hp (((e1.trans e2).trans e3).trans (e4.trans e5)) hu
/-- slots: value 0 -/
theorem sc_is_event : FnScope ["value"] ["value"] (defScope s_is_event) := ⟨rfl, rfl, rfl, by decide +kernel, rfl, by decide +kernel, by decide +kernel⟩
theorem ok_is_event (F : Fun K "is_event" "is_event" s_is_event f fd) (B : Blt mg) (g_IN : Con1 mg "IN" (.str "in")) (g_OUT : Con1 mg "OUT" (.str "out")) (G_is_name : Fn P w K mg base CX0 1 "is_name" ["value"] (SpD K pre_name)) : FnOk P w K mg base CX0 2 f fd ["value"] (SpD K pre_event) := by
  refine F.ok sc_is_event (spd_len fun ds Post h => by obtain ⟨x, rfl, _⟩ := h; rfl) (fun cdv A outer s H vs Q E hr h => ?_)
  obtain ⟨ds, Post, a, ⟨x, rfl, hz, hp⟩, q⟩ := h
  refine ⟨_, (pss_cons (ps_if (PW.pt (pw_or (pt_not (pt_val (pe_callB (isi_K (K := K) rfl) (by rfl) B.isinstance (by decide +kernel) (pa_cons (pv 0) (pa_cons (pe_bltn (v := .ty "tuple") (by rfl) B.tuple (by decide +kernel) rfl) pa_nil))))) (pw_or (pt_cmpR (op_neK (K := K) rfl hr.units) (pe_callB (len_K (K := K) rfl) (by rfl) B.len PySem.boot_len (pa_cons (pv 0) pa_nil)) pe_int (nomark _)) (pw_or1 (pt_not (pt_val (pe_callB (isi_K (K := K) rfl) (by rfl) B.isinstance (by decide +kernel) (pa_cons (pe_ix (ix_K (K := K) rfl) (pv 0) pe_int (fun _ _ => rfl)) (pa_cons (pe_bltn (v := .ty "str") (by rfl) B.str (by decide +kernel) rfl) pa_nil))))))))) (pss_one (ps_ret pe_bl)) pss_nil)
      (pss_one (ps_ret (pe_and (pe_cmpR (in_K (K := K) rfl) (pe_ix (ix_K (K := K) rfl) (pv 0) pe_int (fun _ _ => rfl)) (pe_tup (pa_cons (pe_con g_IN (by rfl)) (pa_cons (pe_con g_OUT (by rfl)) pa_nil))) (by with_unfolding_all rfl)) (pe_one (pe_fn G_is_name (hr.mono (by decide)) (by rfl) pass0 (pa_cons (pe_ix (ix_K (K := K) rfl) (pv 0) pe_int (fun _ _ => rfl)) pa_nil))))))), ?_⟩
  obtain ⟨v, rfl, hv⟩ := all1 a
  -- what the first test asks
  have no : ∀ b : Bool, b = true → eventB x = false → _ := fun b hb e0 => hb
  cases x with
  | tuple ds =>
    by_cases hl : ds.length = 2
    · obtain ⟨w1, n1, rfl⟩ : ∃ w n, ds = [w, n] := by
        cases ds with
        | nil => cases hl
        | cons w ds =>
          cases ds with
          | nil => cases hl
          | cons n ds =>
            cases ds with
            | nil => exact ⟨w, n, rfl⟩
            | cons a b => simp at hl
      have i0 : atI [w1, n1] 0 = some w1 := atI_n (j := 0) rfl rfl
      have i1 : atI [w1, n1] 1 = some n1 := atI_n (j := 1) rfl rfl
      refine q_when (b := !isStr w1) (et_is (et_or (a := false) (b := !isStr w1) (et_is (et_not (et_B (ev_isTup (ev_var rfl hv)))) rfl) fun _ => et_is (et_or (a := false) (b := !isStr w1) (et_is (et_test (ev_op (ev_lenT (ev_var rfl hv)) ev_int rd_neI)) rfl) fun _ => et_not (et_B (ev_isStr (ev_op (ev_var rfl hv) ev_int (rd_ix (.inr rfl) i0))))) rfl) rfl) (fun h H1 e1 => ?_) (fun h H1 e1 => ?_)
      · have e0 : eventB (.tuple [w1, n1]) = false := by cases w1 <;> first | rfl | cases h
        exact s_retB (K := K) e0.symm fun u H2 e2 hu => q _ u H2 hp (e1.trans e2) hu
      · cases w1 with
        | str wd =>
          have hfit : fit n1 = true := (fit_seq hz (.inr rfl)).2 n1 (by simp)
          have hv1 := hv.mono e1
          refine s_retD (d' := .bool (eventB (.tuple [.str wd, n1]))) (ev_andV (a := decide (wd ∈ (["in", "out"] : List Str))) (b := nameB n1) (ev_op (ev_op (ev_var rfl hv1) ev_int (rd_ix (.inr rfl) i0)) (ev_tup (ea2 ev_str ev_str) (by show 2 ≤ 100000; decide)) (rd_inS (.inr rfl))) fun _ => ev_callF (ea1 (ev_op (ev_var rfl hv1) ev_int (rd_ix (.inr rfl) i1))) ⟨n1, rfl, hfit, rfl⟩) ?_ fun u H2 e2 hu => q _ u H2 hp (e1.trans e2) hu
          show PyData.bool _ = .bool ((decide (wd = "in") || decide (wd = "out")) && nameB n1)
          congr 2
          rw [← Bool.decide_or]
          congr 1
          simp
        | _ => cases h
    · have e0 : eventB (.tuple ds) = false := by
        unfold eventB
        split
        · rename_i w n e
          cases e
          exact absurd rfl hl
        · rfl
      refine q_when (b := true) (et_is (et_or (a := false) (b := true) (et_is (et_not (et_B (ev_isTup (ev_var rfl hv)))) rfl) fun _ => et_is (et_or (a := true) (b := true) (et_is (et_test (ev_op (ev_lenT (ev_var rfl hv)) ev_int rd_neI)) ?_) fun h => absurd h (by decide)) rfl) rfl) (fun h H1 e1 => s_retB (K := K) e0.symm fun u H2 e2 hu => q _ u H2 hp (e1.trans e2) hu) (fun h => Bool.noConfusion h)
      have : ¬ ((ds.length : Int) = 2) := by omega
      rw [decide_eq_false this] <;> rfl
  | _ => exact q_when (b := true) (et_is (et_or (a := true) (b := true) (et_is (et_not (et_B (ev_isTup (ev_var rfl hv)))) rfl) fun h => absurd h (by decide)) rfl) (fun h H1 e1 => s_retB (K := K) (b' := false) rfl fun u H2 e2 hu => q _ u H2 hp (e1.trans e2) hu) (fun h => Bool.noConfusion h)
end
end K33

set_option Elab.async false
set_option linter.all false
set_option maxRecDepth 100000
set_option maxHeartbeats 4000000
/-! yards, days: the instances; InvalidDay raised. -/
namespace K33
open PySem PySem.Spec PyProof.Rows L2
/-! ### what a def that may raise promises -/
abbrev PrX := List PyData → (PyData → Prop) → (PyData → Prop) → Prop
/-- an InvalidDay that holds the datum ed -/
def XDay (C : Addr) (K : Fg) (H : Hp) (ed : PyData) (cls : Value) (d : Option Addr) (H' : Hp) : Prop := cls = .ref C ∧ ∃ dx v, d = some dx ∧ H' dx = some (.xd [("value", v)]) ∧ Same H H' ∧ Is K H' v ed
def SpR (K : Fg) (C : Addr) (Pre : PrX) : Sp := fun vs H Q E => ∃ ds Post Ex, AllIs K H vs ds ∧ Pre ds Post Ex ∧ (∀ d v H', Post d → Same H H' → Is K H' v d → Q v H') ∧ ∀ ed cls d H', Ex ed → XDay C K H ed cls d H' → E cls d H'
theorem spr_len {K : Fg} {C : Addr} {Pre : PrX} {n : Nat} (h : ∀ ds Post Ex, Pre ds Post Ex → ds.length = n) : ∀ vs H Q E, SpR K C Pre vs H Q E → vs.length = n := fun vs H Q E ⟨ds, Post, Ex, a, p, _⟩ => by
  rw [a.len]
  exact h ds Post Ex p
theorem XDay.mono {C : Addr} {K : Fg} {H H1 H' : Hp} {ed : PyData} {cls : Value} {d : Option Addr} (e : Same H H1) (x : XDay C K H1 ed cls d H') : XDay C K H ed cls d H' := let ⟨a, dx, v, b, c, s, i⟩ := x; ⟨a, dx, v, b, c, e.trans s, i⟩
section
variable {K : Fg} {σ : L2.St} {H H' : Hp} {ta tb te : TE} {tr : TA} {P P1 : VP} {C : Addr} {E : XK} {sp : Sp}
theorem ev_callR {Pre : PrX} {Post Ex : PyData → Prop} {ds : List PyData} (h : EvA K tr σ H ds) (hs : Pre ds Post Ex) (hE : ∀ ed cls d H', Ex ed → XDay C K H ed cls d H' → E cls d H') : Ev (tCall (SpR K C Pre) [] E tr) σ H (fun v H' => ∃ d, Post d ∧ Is K H' v d) := fun H1 e Q q =>
  h H1 e _ fun vs H2 e2 hvs => ⟨ds, Post, Ex, by rw [List.append_nil]; exact hvs, hs, fun d v H3 hd e3 hv => q v H3 (e2.trans e3) ⟨d, hd, hv⟩, fun ed cls d H3 hx x => hE ed cls d H3 hx (x.mono (e.trans e2))⟩
theorem ev_callRF {Pre : PrX} {Ex : PyData → Prop} {ds : List PyData} {z : PyData} (h : EvA K tr σ H ds) (hs : Pre ds (fun d => d = z) Ex) (hE : ∀ ed cls d H', Ex ed → XDay C K H ed cls d H' → E cls d H') : Ev (tCall (SpR K C Pre) [] E tr) σ H (IsD K z) :=
  (ev_callR h hs hE).imp fun v H1 _ ⟨d, e, hv⟩ => by
    rw [e] at hv
    exact hv
theorem ev_raw1 (h : Ev ta σ H P1) (hs : ∀ v H1, Same H H1 → P1 v H1 → ∀ Q : VK, (∀ w H2, Same H1 H2 → P w H2 → Q w H2) → sp [v] H1 Q E) : Ev (tCall sp [] E (tCons ta tNil)) σ H P := fun H1 e Q q =>
  h H1 e _ fun v H2 e2 hv => hs v H2 (e.trans e2) hv Q fun w H3 e3 hw => q w H3 (e2.trans e3) hw
theorem ev_raw2 {P2 : VP} (h : Ev ta σ H P1) (hm : ∀ v H1 H2, Same H1 H2 → P1 v H1 → P1 v H2) (h2 : Ev tb σ H P2) (hs : ∀ v u H1, Same H H1 → P1 v H1 → P2 u H1 → ∀ Q : VK, (∀ w H2, Same H1 H2 → P w H2 → Q w H2) → sp [v, u] H1 Q E) : Ev (tCall sp [] E (tCons ta (tCons tb tNil))) σ H P := fun H1 e Q q =>
  h H1 e _ fun v H2 e2 hv => h2 H2 (e.trans e2) _ fun u H3 e3 hu => hs v u H3 ((e.trans e2).trans e3) (hm v H2 H3 e3 hv) hu Q fun w H4 e4 hw => q w H4 ((e2.trans e3).trans e4) hw
theorem ev_fld {a D dx : Addr} {fs : List (Str × V)} {f : Str} {v : V} (h : Ev te σ H (fun w _ => w = .ref a)) (ha : H a = some (.ins D dx fs)) (c : Cls K D) (n : NoAttr K D f) (l : fs.lookup f = some v) : Ev (tFld K te f) σ H (fun w _ => w = v) := fun H1 e Q q => h H1 e _ fun w H2 e2 hw => by
  subst hw
  exact ⟨a, D, dx, fs, v, rfl, (e.trans e2) _ _ ha, c, n, l, q v H2 e2 rfl⟩
theorem ev_at {v : V} {d : PyData} (h : Ev te σ H (fun w _ => w = v)) (hv : Is K H v d) : Ev te σ H (IsD K d) := h.imp fun w H1 e hw => by
  subst hw
  exact hv.mono e
/-- self.f = e -/
theorem s_fld {D : Ends} {a CC dx : Addr} {fs : List (Str × V)} {f : Str} (hv : Ev te σ H P) (ho : Ev ta σ H (fun w _ => w = .ref a)) (ha : H a = some (.ins CC dx fs)) (c : Cls K CC) (n : NoAttr K CC f) (hl : fs.length < 1000) (hm : ∀ v H1 H2, Same H1 H2 → P v H1 → P v H2)
    (k : ∀ v H1, Same H H1 → P v H1 → D.nx σ (upd H1 a (.ins CC dx (putF f v fs)))) : sFld K ta te f D σ H := hv H (Same.refl H) _ fun v H1 e hp => ho H1 e _ fun w H2 e2 hw => by
  subst hw
  exact ⟨a, CC, dx, fs, rfl, (e.trans e2) _ _ ha, c, n, hl, k v H2 (e.trans e2) (hm v H1 H2 e2 hp)⟩
theorem q_fld {D : Ends} {tz : TS} {a CC dx : Addr} {fs : List (Str × V)} {f : Str} (hv : Ev te σ H P) (ho : Ev ta σ H (fun w _ => w = .ref a)) (ha : H a = some (.ins CC dx fs)) (c : Cls K CC) (n : NoAttr K CC f) (hl : fs.length < 1000) (hm : ∀ v H1 H2, Same H1 H2 → P v H1 → P v H2)
    (k : ∀ v H1, Same H H1 → P v H1 → tz D σ (upd H1 a (.ins CC dx (putF f v fs)))) : tSeq (sFld K ta te f) tz D σ H := s_fld (D := { D with nx := tz D }) hv ho ha c n hl hm k
end
/-! ### classes as their callers take them -/
structure MkC (P : Program) (w : World) (K : Fg) (mg : Str → Option Value) (base : Heap) (CX : CXT) (k : Nat) (x : Str) (C : Addr) (ps : List Str) (sp : Sp) : Prop where
  ex : ∃ f fd, Mk K C f ∧ FnOk P w K mg base CX k f fd ps sp ∧ mg x = some (.ref C) ∧ Binds K fd ps []
theorem pe_mkc {X : Cx} {CX : CXT} {k : Nat} {x : Str} {C : Addr} {ps : List Str} {sp : Sp} {E : XK} {e : Expr} {es : List Expr} {t : TA} {p pos : Pos} (G : MkC X.prog X.w X.K X.mg X.base CX k x C ps sp) (hr : Room (k + 1) X.A) (hg : Gl X x) (hx : Passes CX X E) (ha : PA X (e :: es) t)
    (hdb : (x == ("__debug__" : Str)) = false := by decide) (he : starEach (e :: es) X.env = (false, eval e X.env) :: starEach es X.env := by rfl) (hpl : (backTo pos (starEach es X.env)).any (·.1) = false := by rfl) :
    PE X (.Call (.Name x p) (e :: es) [] pos) (tMake C sp [] E t) := by
  obtain ⟨f, fd, M, F, gf, b⟩ := G.ex
  exact pe_make M F hr hg gf b .nil hx ha hdb he hpl
theorem pe_fnE {X : Cx} {CX : CXT} {k : Nat} {x : Str} {ps : List Str} {sp : Sp} {E : XK} {e : Expr} {es : List Expr} {t : TA} {p pos : Pos} (G : Fn X.prog X.w X.K X.mg X.base CX k x ps sp) (hr : Room k X.A) (hg : Gl X x) (hx : Passes CX X E) (ha : PA X (e :: es) t)
    (hdb : (x == ("__debug__" : Str)) = false := by decide) (he : starEach (e :: es) X.env = (false, eval e X.env) :: starEach es X.env := by rfl) (hpl : (backTo pos (starEach es X.env)).any (·.1) = false := by rfl) :
    PE X (.Call (.Name x p) (e :: es) [] pos) (tCall sp [] E t) := by
  obtain ⟨f, fd, F, gf, kf, b⟩ := G.ex
  exact pe_call F hr hg gf kf b .nil hx ha hdb he hpl
theorem passX {P : Program} {w : World} {K : Fg} {mg : Str → Option Value} {base : Heap} {N : List Str} {qual : Str} {scope : Scope} {f : Addr} {cd : Value} {A : Around} {outer : List Env} {s : Shared} {H : Hp} {E : XK} :
    Passes (L2.CX P w) (cxOf (L2.CX P w) P w K mg base N qual scope f cd A outer s H E) E :=
  passes_call (X := cxOf (L2.CX P w) P w K mg base N qual scope f cd A outer s H E) (W := fun cls d _ H => E cls d H) (takes_of (X := cxOf (L2.CX P w) P w K mg base N qual scope f cd A outer s H E) rfl rfl rfl rfl) fun _ _ _ _ h => h
/-- the class InvalidDay -/
structure Dy (P : Program) (w : World) (K : Fg) (mg : Str → Option Value) (base : Heap) (C : Addr) : Prop where
  oex : OexC K C
  m : mg "InvalidDay" = some (.ref C)
  ex : ∃ f fd, PySem.W.findIn K (.ref C) "__init__" = some (some (.ref f)) ∧ PySem.W.typeIn K (.ref f) = some (.type "function") ∧ FnOk P w K mg base CX0 1 f fd ["self", "value"] (spInitX C) ∧ Binds K fd ["self", "value"] []
theorem ps_raiseD {P : Program} {w : World} {K : Fg} {mg : Str → Option Value} {base : Heap} {N : List Str} {qual : Str} {scope : Scope} {f : Addr} {cd : Value} {A : Around} {outer : List Env} {s : Shared} {H : Hp} {E : XK} {C : Addr} {e : Expr} {ta : TA} {p pos pos' : Pos}
    (D : Dy P w K mg base C) (hr : Room 2 (cxOf (L2.CX P w) P w K mg base N qual scope f cd A outer s H E).A) (hg : Gl (cxOf (L2.CX P w) P w K mg base N qual scope f cd A outer s H E) "InvalidDay") (ha : PA (cxOf (L2.CX P w) P w K mg base N qual scope f cd A outer s H E) [e] ta)
    (he : starEach [e] (cxOf (L2.CX P w) P w K mg base N qual scope f cd A outer s H E).env = (false, eval e (cxOf (L2.CX P w) P w K mg base N qual scope f cd A outer s H E).env) :: starEach [] (cxOf (L2.CX P w) P w K mg base N qual scope f cd A outer s H E).env := by rfl)
    (hpl : (backTo pos (starEach [] (cxOf (L2.CX P w) P w K mg base N qual scope f cd A outer s H E).env)).any (·.1) = false := by rfl) :
    PS (cxOf (L2.CX P w) P w K mg base N qual scope f cd A outer s H E) (.Raise (some (.Call (.Name "InvalidDay" p) [e] [] pos)) none pos') (fun _ σ H => tMkO C (spInitX C) [] ta σ H fun cls d H' => E cls d H') := by
  obtain ⟨fI, fd, h1, h2, h3, h4⟩ := D.ex
  exact ps_raise (W := fun cls d _ H => E cls d H) rfl (takes_of (X := cxOf (L2.CX P w) P w K mg base N qual scope f cd A outer s H E) rfl rfl rfl rfl) (pmk_oex D.oex h1 h2 h3 hr h4 .nil pass0 hg D.m ha (by decide) he hpl)
theorem t_raiseD {K : Fg} {σ : L2.St} {H : Hp} {C : Addr} {ta : TE} {E : XK} {ed : PyData} (h : Ev ta σ H (IsD K ed)) (k : ∀ cls d H', XDay C K H ed cls d H' → E cls d H') : tMkO C (spInitX C) [] (tCons ta tNil) σ H fun cls d H' => E cls d H' :=
  h H (Same.refl _) _ fun v H1 e hv => ⟨(by show 1 ≤ 1000; decide), fun a ha => ⟨a, v, rfl, upd_same, fun dx hdx hne => by
    rw [upd_ne hne] at hdx
    refine ⟨rfl, dx, _, upd_same, by rw [upd_ne hne]; exact upd_same, hdx, k _ _ _ ⟨rfl, dx, v, rfl, upd_same, ?_, ?_⟩⟩
    · intro b u hb
      have hb1 := e b u hb
      rw [upd_ne (ne_of_none hb1 hdx), del_ne (ne_of_none hb1 ha), upd_ne (ne_of_none hb1 ha), upd_ne (ne_of_none hb1 hdx), upd_ne (ne_of_none hb1 ha)]
      exact hb1
    · refine hv.mono fun b u hb1 => ?_
      rw [upd_ne (ne_of_none hb1 hdx), del_ne (ne_of_none hb1 ha), upd_ne (ne_of_none hb1 ha), upd_ne (ne_of_none hb1 hdx), upd_ne (ne_of_none hb1 ha)]
      exact hb1⟩⟩
end K33

set_option Elab.async false
set_option linter.all false
set_option maxRecDepth 100000
set_option maxHeartbeats 4000000
/-! yards, days: the defs. -/
namespace K33
open PySem PySem.Spec PyProof.Rows L2
/-- what the written part says of the two classes -/
structure Tx (K : Fg) (CY CD : Addr) : Prop where
  cy : Cls K CY
  cd : Cls K CD
  yh : NoAttr K CY "height"
  ys : NoAttr K CY "stacks"
  dy : NoAttr K CD "yard"
  de : NoAttr K CD "events"
def YardAt (K : Fg) (CY : Addr) (H : Hp) (v : V) : Prop := ∃ y dx fs st, v = .ref y ∧ H y = some (.ins CY dx fs) ∧ fs.lookup ("stacks" : Str) = some st ∧ Is K H st (.tuple [.tuple []])
def DayAt (K : Fg) (CY CD : Addr) (H : Hp) (v : V) (es : List Evt) : Prop := ∃ y dx fs yv ev, v = .ref y ∧ H y = some (.ins CD dx fs) ∧ fs.lookup ("yard" : Str) = some yv ∧ fs.lookup ("events" : Str) = some ev ∧ YardAt K CY H yv ∧ Is K H ev (evsD es)
theorem YardAt.mono {K : Fg} {CY : Addr} {H H' : Hp} {v : V} (e : Same H H') (h : YardAt K CY H v) : YardAt K CY H' v := let ⟨y, dx, fs, st, a, b, c, d⟩ := h; ⟨y, dx, fs, st, a, e _ _ b, c, d.mono e⟩
theorem DayAt.mono {K : Fg} {CY CD : Addr} {H H' : Hp} {v : V} {es : List Evt} (e : Same H H') (h : DayAt K CY CD H v es) : DayAt K CY CD H' v es := let ⟨y, dx, fs, yv, ev, a, b, c, d, f, g⟩ := h; ⟨y, dx, fs, yv, ev, a, e _ _ b, c, d, f.mono e, g.mono e⟩
def spBoxes (K : Fg) (CY : Addr) : Sp := fun vs H Q _ => ∃ v, vs = [v] ∧ YardAt K CY H v ∧ ∀ w H', Same H H' → Is K H' w (.tuple []) → Q w H'
def spAsEv (K : Fg) (CY : Addr) : Sp := fun vs H Q _ => ∃ y v d, vs = [y, v] ∧ YardAt K CY H y ∧ Is K H v d ∧ fit d = true ∧ ∀ w H', Same H H' → Is K H' w (asEvD d) → Q w H'
/-- the new yard at x: all that stood in Hb stands -/
def spYard (K : Fg) (CY : Addr) : Sp := fun vs H Q _ => ∃ (Hb : Hp) (x dx : Addr) (h v : V) (n : Nat), vs = [.ref x, h, v] ∧ Same Hb H ∧ Hb x = none ∧ H x = some (.ins CY dx []) ∧ Is K Hb h (.int ((n : Int) + 1)) ∧ Is K Hb v (.tuple [.tuple []]) ∧ ∀ H', Same Hb H' → YardAt K CY H' (.ref x) → Q .non H'
def spDay (K : Fg) (CY CD C : Addr) : Sp := fun vs H Q E => ∃ (Hb : Hp) (x dx : Addr) (y v : V) (d : PyData), vs = [.ref x, y, v] ∧ Same Hb H ∧ Hb x = none ∧ H x = some (.ins CD dx []) ∧ YardAt K CY Hb y ∧ Is K Hb v d ∧ fit d = true ∧
  (∀ es H', evsOf d = some es → Same Hb H' → DayAt K CY CD H' (.ref x) es → Q .non H') ∧ (evsOf d = none → ∀ cls o H', XDay C K Hb d cls o H' → E cls o H')
def okDay (es : List Evt) : Prop := es.length ≤ 1000 ∧ ∃ t, run [] es = some t
theorem evsOf_ok {d : PyData} {es : List Evt} (hf : fit d = true) (h : evsOf d = some es) : okDay es := by
  unfold evsOf at h
  cases hs : seqOf d with
  | none => rw [hs] at h; cases h
  | some ds =>
    rw [hs] at h
    have h : (if ds.all eventB && (run [] (ds.map evOf)).isSome then some (ds.map evOf) else none) = some es := h
    split at h
    · rename_i hc
      cases h
      rw [Bool.and_eq_true] at hc
      refine ⟨?_, Option.isSome_iff_exists.mp hc.2⟩
      rw [List.length_map]
      exact (fit_seq hf (seqOf_some hs)).1
    · cases h
def spStaysIn (K : Fg) (CY CD : Addr) : Sp := fun vs H Q _ => ∃ v es, vs = [v] ∧ DayAt K CY CD H v es ∧ okDay es ∧ ∀ w H', Same H H' → Is K H' w (.list ((staysOf es).map stD)) → Q w H'
def tabOf (es : List Evt) : PyData := tabT (clT (staysOf es)) (staysOf es).length
def pre_table : PrX := fun ds Post Ex => ∃ d, ds = [d] ∧ fit d = true ∧ (∀ es, evsOf d = some es → Post (tabOf es)) ∧ (evsOf d = none → Ex d)
section
variable {P : Program} {w : World} {K : Fg} {mg : Str → Option Value} {base : Heap} {f : Addr} {fd : FuncData} {CY CD C : Addr}
/-- slots: yard 0, stack 1, name 2 -/
theorem sc_boxes_of : FnScope ["yard", "stack", "name"] ["yard"] (defScope s_boxes_of) := ⟨rfl, rfl, rfl, by decide +kernel, rfl, by decide +kernel, by decide +kernel⟩
theorem ok_boxes_of (F : Fun K "boxes_of" "boxes_of" s_boxes_of f fd) (B : Blt mg) (T : Tx K CY CD) : FnOk P w K mg base CX0 1 f fd ["yard"] (spBoxes K CY) := by
  refine F.ok sc_boxes_of (fun vs H Q E h => by obtain ⟨v, rfl, _⟩ := h; rfl) (fun cdv A outer s H vs Q E hr h => ?_)
  obtain ⟨v, rfl, ⟨y, dx, fs, st, rfl, hy, hl, hst⟩, q⟩ := h
  refine ⟨_, (pss_one (ps_ret (pe_callTy (tup_K (K := K) rfl) (by rfl) B.tuple (by decide +kernel) (pa_cons (pe_lc2 (own := [("stack", 1), ("name", 2)]) (vs1 := [2]) rfl sc_boxes_of.nd (seq_K (K := K) rfl (fld_K (K := K) rfl (pv 0) rfl)) (blkOk_by (own := [("stack", 1), ("name", 2)]) (N := ["yard", "stack", "name"]) (sc := (defScope s_boxes_of)) (by decide +kernel)) (by decide) (fun _ _ _ _ _ => (pg_name (i := 1) sc_boxes_of.nd rfl (Or.inl rfl))) (fun _ _ _ _ _ => pts_nil) (fun _ _ _ _ _ => (seq_K (K := K) rfl (pv 1))) (fun _ _ _ _ _ => (pg_name (i := 2) sc_boxes_of.nd rfl (Or.inl rfl))) (fun _ _ _ _ _ => pts_nil) (fun _ _ _ _ _ => (pv 2))) pa_nil)))), ?_⟩
  refine s_ret (P := IsD K (.tuple [])) (ev_tupOf (.inl rfl) (el_lc2W 1 (ew_seq (ds := [.tuple []]) (.inr rfl) (ev_at (ev_fld (ev_slot rfl) hy T.cy T.ys hl) hst)) (fun _ => []) (fun _ _ => true) (fun _ d => d) (fun _ _ => Nat.zero_le _) (by decide) (by decide) (fun d hd y H3 e3 hy R k => by
    rw [List.mem_singleton.mp hd] at hy
    exact g_nm (k _ rfl (ew_tupT rfl (ev_var rfl hy)) fun d1 hd1 => by cases hd1)) (fun d hd d1 hd1 => by cases hd1)).ev) fun v H1 e hv => q v H1 e hv
/-- slots: self 0, height 1, stacks 2, told 3 -/
theorem sc_Yard_init : FnScope ["self", "height", "stacks", "told"] ["self", "height", "stacks"] (defScope s_Yard_init) := ⟨rfl, rfl, rfl, by decide +kernel, rfl, by decide +kernel, by decide +kernel⟩
theorem ok_Yard_init (F : Fun K "__init__" "Yard.__init__" s_Yard_init f fd) (B : Blt mg) (T : Tx K CY CD) (G_is_number : Fn P w K mg base CX0 2 "is_number" ["value"] (SpD K pre_number)) (G_as_stacks : Fn P w K mg base CX0 2 "as_stacks" ["height", "value"] (SpD K pre_stacks)) :
    FnOk P w K mg base CX0 3 f fd ["self", "height", "stacks"] (spYard K CY) := by
  refine F.ok sc_Yard_init (fun vs H Q E h => by obtain ⟨Hb, x, dx, h, v, n, rfl, _⟩ := h; rfl) (fun cdv A outer s H vs Q E hr h => ?_)
  obtain ⟨Hb, x, dx, vh, vst, n, rfl, eb, hx, hxi, hh, hst, q⟩ := h
  refine ⟨_, (pss_cons (ps_if (PW.pt (pw_or (pt_not (pt_val (pe_fn G_is_number (hr.mono (by decide)) (by rfl) pass0 (pa_cons (pv 1) pa_nil)))) (pw_or1 (pt_cmpR (op_eqK (K := K) rfl hr.units) (pv 1) pe_int (nomark _))))) (pss_one ps_never) pss_nil)
      (pss_cons (ps_set (i := 3) sc_Yard_init.nd rfl (Or.inl rfl) (pe_fn G_as_stacks (hr.mono (by decide)) (by rfl) pass0 (pa_cons (pv 1) (pa_cons (pv 2) pa_nil))))
      (pss_cons (ps_if (pt_cmpR op_isNo (pv 3) pe_non (nomark _)) (pss_one ps_never) pss_nil)
      (pss_cons (ps_fld (pv 0) (pv 1) rfl)
      (pss_one (ps_fld (pv 0) (pv 3) rfl)))))), ?_⟩
  have hh0 := hh.mono eb
  refine q_when (b := false) (et_is (et_or (a := false) (b := false) (et_is (et_not (et_B (ev_callF (z := .bool true) (ea1 (ev_var rfl hh0)) ⟨_, rfl, by rw [decide_eq_true (by omega : (0 : Int) ≤ (n : Int) + 1)]⟩))) rfl) fun _ => et_is (et_test (ev_op (ev_var rfl hh0) ev_int rd_eqI)) (decide_eq_false (by omega))) rfl) (fun h => Bool.noConfusion h) (fun _ H1 e1 => ?_)
  refine q_asg (P := IsD K (.tuple [.tuple []])) (ev_callF (ea2 (ev_var rfl (hh0.mono e1)) (ev_var rfl ((hst.mono eb).mono e1))) ⟨n + 1, rfl, rfl⟩) fun vt H2 e2 hvt => ?_
  refine q_when (b := false) (et_is (et_test (ev_op (ev_var rfl hvt) ev_non rd_isNo)) rfl) (fun h => Bool.noConfusion h) (fun _ H3 e3 => ?_)
  have hx3 := ((e1.trans e2).trans e3) _ _ hxi
  refine q_fld (ev_slot (v := vh) rfl) (ev_slot rfl) hx3 T.cy T.yh (by decide) (fun _ _ _ _ h => h) fun v4 H4 e4 hv4 => ?_
  subst hv4
  have hb4 : Same Hb (upd H4 x (.ins CY dx (putF "height" v4 []))) := Same.mut (eb.trans (((e1.trans e2).trans e3).trans e4)) hx
  have ht4 : Is K H4 vt (.tuple [.tuple []]) := (hvt.mono e3).mono e4
  have hx4 := e4 _ _ hx3
  have st4 : SameT H4 (upd H4 x (.ins CY dx (putF "height" v4 []))) := fun b => ⟨fun ys e => by rw [upd_ne (ne_of e hx4 (by intro z; cases z))]; exact e, fun ob u e => by rw [upd_ne (ne_of e hx4 (by intro z; cases z))]; exact e⟩
  have ht4' : Is K (upd H4 x (.ins CY dx (putF "height" v4 []))) vt (.tuple [.tuple []]) := Is.monoT st4 rfl ht4
  refine s_fld (P := fun w _ => w = vt) (ev_slot rfl) (ev_slot rfl) upd_same T.cy T.ys (by show 1 < 1000; decide) (fun _ _ _ _ h => h) fun v5 H5 e5 hv5 => ?_
  subst hv5
  have ht5 := ht4'.mono e5
  have hx5 := e5 _ _ (upd_same (H := H4) (a := x) (o := HO.ins CY dx (putF "height" v4 [])))
  have st5 : SameT H5 (upd H5 x (.ins CY dx (putF "stacks" v5 (putF "height" v4 [])))) := fun b => ⟨fun ys e => by rw [upd_ne (ne_of e hx5 (by intro z; cases z))]; exact e, fun ob u e => by rw [upd_ne (ne_of e hx5 (by intro z; cases z))]; exact e⟩
  exact q _ (Same.mut (hb4.trans e5) hx) ⟨x, dx, _, v5, rfl, upd_same, by rw [lookup_putF, if_pos rfl], Is.monoT st5 rfl ht5⟩
/-- slots: yard 0, value 1, there 2, word 3, name 4, event 5 -/
theorem sc_as_events : FnScope ["yard", "value", "there", "word", "name", "event"] ["yard", "value"] (defScope s_as_events) := ⟨rfl, rfl, rfl, by decide +kernel, rfl, by decide +kernel, by decide +kernel⟩
theorem ok_as_events (F : Fun K "as_events" "as_events" s_as_events f fd) (B : Blt mg) (g_IN : Con1 mg "IN" (.str "in")) (G_is_sequence : Fn P w K mg base CX0 1 "is_sequence" ["value"] (SpD K pre_seq)) (G_is_event : Fn P w K mg base CX0 2 "is_event" ["value"] (SpD K pre_event)) (G_boxes_of : Fn P w K mg base CX0 1 "boxes_of" ["yard"] (spBoxes K CY)) :
    FnOk P w K mg base CX0 3 f fd ["yard", "value"] (spAsEv K CY) := by
  refine F.ok sc_as_events (fun vs H Q E h => by obtain ⟨y, v, d, rfl, _⟩ := h; rfl) (fun cdv A outer s H vs Q E hr h => ?_)
  obtain ⟨y, v, d, rfl, hy, hv, hf, q⟩ := h
  refine ⟨_, (pss_cons (ps_if (PW.pt (pw_or (pt_not (pt_val (pe_fn G_is_sequence (hr.mono (by decide)) (by rfl) pass0 (pa_cons (pv 1) pa_nil)))) (pw_or1 (pt_not (pt_val (pe_callB (all_K (K := K) rfl rfl) (by rfl) B.all (by decide +kernel) (pa_cons (pe_lc (own := [("event", 5)]) rfl sc_as_events.nd (seq_K (K := K) rfl (pv 1)) (blkOk_by (own := [("event", 5)]) (N := ["yard", "value", "there", "word", "name", "event"]) (sc := (defScope s_as_events)) (by decide +kernel)) (fun _ _ _ _ _ => (pg_name (i := 5) sc_as_events.nd rfl (Or.inl rfl))) (fun _ _ _ _ _ => pts_nil) (fun _ _ _ _ _ => (pe_fn G_is_event (hr.mono (by decide)) (by rfl) pass0 (pa_cons (pv 5) pa_nil)))) pa_nil))))))) (pss_one (ps_ret pe_non)) pss_nil)
      (pss_cons (ps_setDc (own := [("name", 4)]) (i := 2) rfl sc_as_events.nd rfl rfl (sw_trueD rfl rfl rfl (by decide +kernel)) (seq_K (K := K) rfl (pe_fn G_boxes_of (hr.mono (by decide)) (by rfl) pass0 (pa_cons (pv 0) pa_nil))) (blkOk_by (own := [("name", 4)]) (N := ["yard", "value", "there", "word", "name", "event"]) (sc := (defScope s_as_events)) (by decide +kernel)) (fun _ _ _ _ _ => (pg_name (i := 4) sc_as_events.nd rfl (Or.inl rfl))) (fun _ _ _ _ _ => pts_nil) (fun _ _ _ _ _ => (pv 4)) (fun _ _ _ _ _ => pe_bl))
      (pss_cons (ps_for PassesOwn.never rfl (seq_K (K := K) rfl (pv 1)) (tupg_K (K := K) (n := 2) rfl rfl (pgs_cons (pg_name (i := 3) sc_as_events.nd rfl (Or.inl rfl)) (pgs_cons (pg_name (i := 4) sc_as_events.nd rfl (Or.inl rfl)) pgs_nil))) (pss_cons (ps_if (pt_cmpR (op_eqK (K := K) rfl hr.units) (pe_cmp (pc_din (hu_of hr) (pv 4) (pv 2)) rfl) (pe_cmpR (op_eqK (K := K) rfl hr.units) (pv 3) (pe_con g_IN (by rfl)) (nomark _)) (nomark _)) (pss_one (ps_ret pe_non)) pss_nil)
      (pss_one (ps_if (pt_cmpR (op_eqK (K := K) rfl hr.units) (pv 3) (pe_con g_IN (by rfl)) (nomark _)) (pss_one (ps_dput (hu_of hr) (pv 2) (pv 4) pe_bl rfl)) (pss_one (ps_ddel (pv 2) (pv 4)))))))
      (pss_one (ps_ret (pe_callTy (tup_K (K := K) rfl) (by rfl) B.tuple (by decide +kernel) (pa_cons (pv 1) pa_nil))))))), ?_⟩
  cases hs : seqOf d with
  | none =>
    have e0 : asEvD d = .none := by unfold asEvD evsOf; rw [hs]
    rw [e0] at q
    refine q_when (b := true) (et_is (et_or (a := true) (b := true) (et_is (et_not (et_B (ev_callF (z := .bool false) (ea1 (ev_var rfl hv)) ⟨d, rfl, by rw [isSeq_eq, hs]; rfl⟩))) rfl) fun h => absurd h (by decide)) rfl) (fun h H1 e1 => s_retN (K := K) rfl fun u H2 e2 hu => q u H2 (e1.trans e2) hu) (fun h => Bool.noConfusion h)
  | some ds =>
    obtain ⟨hl, hfa⟩ := fit_seq hf (seqOf_some hs)
    have eQ : evsOf d = if ds.all eventB && (run [] (ds.map evOf)).isSome then some (ds.map evOf) else none := by unfold evsOf; rw [hs]
    refine q_when (b := !ds.all eventB) (et_is (et_or (a := false) (b := !ds.all eventB) (et_is (et_not (et_B (ev_callF (z := .bool true) (ea1 (ev_var rfl hv)) ⟨d, rfl, by rw [isSeq_eq, hs]; rfl⟩))) rfl) fun _ => et_not (et_B (ev_allS eventB (seqOf_some hs) (ev_var rfl hv) (by omega) (fun _ => rfl) (fun x hx y H1 e1 hy => ev_callF (ea1 (ev_var rfl hy)) ⟨x, rfl, hfa x hx, rfl⟩)))) rfl) (fun h H1 e1 => ?_) (fun h H1 e1 => ?_)
    · rw [Bool.not_eq_true'] at h
      have e0 : asEvD d = .none := by unfold asEvD; rw [eQ, h]; rfl
      rw [e0] at q
      exact s_retN (K := K) rfl fun u H2 e2 hu => q u H2 (e1.trans e2) hu
    · rw [Bool.not_eq_false'] at h
      have eds := evs_back h
      generalize hes : ds.map evOf = es at eQ eds
      rw [h, Bool.true_and] at eQ
      subst eds
      rw [List.length_map] at hl
      have hv1 := hv.mono e1
      refine q_asgDnil (ew_seq (ds := []) (.inr rfl) (ev_raw1 (P1 := fun w _ => w = y) (ev_slot rfl) fun u H2 e2 hu Q k => by
        subst hu
        exact ⟨u, rfl, (hy.mono e1).mono e2, fun w H3 e3 hw => k w H3 e3 hw⟩)) fun p H2 hp2 e2 h2 => ?_
      refine q_forW (ew_seqB (v := v) (Hb := H1) (seqOf_some hs) (ev_slot rfl) e2 hv1) fun H3 e3 => ⟨fun i σ' H' => ∃ y3 y4 kvs th, σ' = [some y, some v, some (.ref p), y3, y4, none] ∧ Same H1 H' ∧ H' p = some (.dK kvs) ∧ kvs.length ≤ i ∧ run [] (es.take i) = some th ∧ ∀ x : Str, (valV kvs (.inr x)).isSome = decide (x ∈ th),
        ⟨none, none, [], [], rfl, e2.trans e3, e3 _ _ h2, Nat.le_refl _, rfl, fun x => rfl⟩, fun i σ' H' h => ?_, ?_, ?_⟩
      · obtain ⟨_, _, _, _, _, h, _⟩ := h
        exact h
      · rintro i d' u σ' Ha Hb hd ⟨y3, y4, kvs, th, rfl, ea, hk, hkl, hth, hkv⟩ eb hu
        rw [List.getElem?_map] at hd
        obtain ⟨⟨b, x⟩, hev, rfl⟩ := Option.map_eq_some_iff.mp hd
        refine g_tup2 hu fun vw vx hvw hvx => ?_
        cases hvw
        cases hvx
        have hkb := eb _ _ hk
        have hb : decide (wordS b = ("in" : Str)) = b := by
          cases b with
          | true => exact decide_eq_true rfl
          | false => exact decide_eq_false (by decide +kernel)
        have hil := (List.getElem?_eq_some_iff.mp hev).1
        refine q_when (b := decide (decide (x ∈ th) = b)) (et_test (ev_op (x := .bool (decide (x ∈ th))) (y := .bool b) (fun H4 e4 Q k => ?_) (ev_is (ev_op (ev_var rfl (.str _)) (ev_c (.str _)) rd_eqS) (by rw [hb])) rd_eqB)) (fun h H4 e4 => ?_) (fun h H4 e4 => ?_)
        · refine ⟨_, rfl, _, rfl, p, _, rfl, DGet.k (k := .inr x) (e4 _ _ hkb), ?_⟩
          rw [hkv x]
          exact k _ H4 (Same.refl _) (.bl _)
        · have hr0 := run_stop hev hth (of_decide_eq_true h)
          have e0 : asEvD d = .none := by unfold asEvD; rw [eQ, hr0]; rfl
          rw [e0] at q
          exact s_retN (K := K) rfl fun u H5 e5 hu => q u H5 ((e1.trans (ea.trans eb)).trans (e4.trans e5)) hu
        · have hgo := run_go hev hth (by
            have := of_decide_eq_false h
            revert this
            cases decide (x ∈ th) <;> cases b <;> simp)
          refine s_if (b := b) (et_test (ev_is (ev_op (ev_var rfl (.str _)) (ev_c (.str _)) rd_eqS) (by rw [hb]))) (fun hb1 H5 e5 => ?_) (fun hb1 H5 e5 => ?_)
          · subst hb1
            have hk5 := (e4.trans e5) _ _ hkb
            refine ⟨_, rfl, _, rfl, p, _, rfl, DPut.k (k := .inr x) hk5 (by rw [sizeLine_eq]; omega), ?_⟩
            refine ⟨_, _, putK kvs (.inr x) (.bl true), _, rfl, Same.mut ((ea.trans eb).trans (e4.trans e5)) hp2, upd_same, by have := length_putK kvs (.inr x) (.bl true); omega, hgo, fun z => ?_⟩
            rw [valV_put]
            by_cases hz : z = x
            · rw [if_pos (by rw [hz])]
              rw [hz, decide_eq_true (by simp)] <;> rfl
            · rw [if_neg (fun e => hz (Sum.inr.inj e)), hkv z]
              congr 1
              simp [hz]
          · subst hb1
            have hk5 := (e4.trans e5) _ _ hkb
            have hin : x ∈ th := by
              have := of_decide_eq_false h
              simpa using this
            refine ⟨_, rfl, _, rfl, p, kvs, .inr x, rfl, hk5, rfl, by rw [hkv x]; exact decide_eq_true hin, ?_⟩
            refine ⟨_, _, dropK kvs (.inr x), _, rfl, Same.mut ((ea.trans eb).trans (e4.trans e5)) hp2, upd_same, by have := dropK_le kvs (.inr x); omega, hgo, fun z => ?_⟩
            rw [valV_drop]
            have hnd : th.Nodup := run_nodup _ _ _ .nil hth
            by_cases hz : z = x
            · rw [if_pos (by rw [hz]), hz]
              have : x ∉ th.erase x := fun hm => (List.Nodup.mem_erase_iff hnd).mp hm |>.1 rfl
              exact (decide_eq_false this).symm
            · rw [if_neg (fun e => hz (Sum.inr.inj e)), hkv z]
              congr 1
              exact propext (List.mem_erase_of_ne hz).symm
      · rintro σ' H' ⟨y3, y4, kvs, th, rfl, ea, _, _, hth, _⟩
        rw [List.length_map, List.take_length] at hth
        have e0 : asEvD d = evsD es := by unfold asEvD; rw [eQ, hth]; rfl
        rw [e0] at q
        exact s_ret (P := IsD K (evsD es)) (ev_tupOf (seqOf_some hs) (ev_var rfl (hv1.mono ea))) fun u H4 e4 hu => q u H4 ((e1.trans ea).trans e4) hu
end
end K33

set_option Elab.async false
set_option linter.all false
set_option maxRecDepth 100000
set_option maxHeartbeats 4000000
/-! fewest: the table, the least number. -/
namespace K33
open PySem PySem.Spec PyProof.Rows L2
section
variable {K : Fg} {σ : L2.St} {H H' : Hp} {ta tb te : TE} {CY CD C : Addr} {E : XK}
theorem ev_yard {n : Nat} (h1 : Ev ta σ H (IsD K (.int ((n : Int) + 1)))) (h2 : Ev tb σ H (IsD K (.tuple [.tuple []]))) : Ev (tMake CY (spYard K CY) [] E (tCons ta (tCons tb tNil))) σ H (fun v H' => YardAt K CY H' v) := fun H1 e Q q =>
  h1 H1 e _ fun v H2 e2 hv => h2 H2 (e.trans e2) _ fun u H3 e3 hu x dx hx hdx hne => by
    refine ⟨H3, x, dx, v, u, n, rfl, ?_, hx, upd_same, Is.mono e3 hv, hu, fun H4 e4 hy => ⟨rfl, q _ H4 ((e2.trans e3).trans e4) hy⟩⟩
    exact Same.mut (Same.new hdx) hx
theorem ev_day {d : PyData} (h1 : Ev ta σ H (fun v H' => YardAt K CY H' v)) (h2 : Ev tb σ H (IsD K d)) (hf : fit d = true) (hE : evsOf d = none → ∀ cls o H', XDay C K H d cls o H' → E cls o H') :
    Ev (tMake CD (spDay K CY CD C) [] E (tCons ta (tCons tb tNil))) σ H (fun v H' => ∃ es, evsOf d = some es ∧ DayAt K CY CD H' v es) := fun H1 e Q q =>
  h1 H1 e _ fun v H2 e2 hv => h2 H2 (e.trans e2) _ fun u H3 e3 hu x dx hx hdx hne => by
    refine ⟨H3, x, dx, v, u, d, rfl, Same.mut (Same.new hdx) hx, hx, upd_same, YardAt.mono e3 hv, hu, hf, fun es H4 hes e4 hy => ⟨rfl, q _ H4 ((e2.trans e3).trans e4) ⟨es, hes, hy⟩⟩, fun hn cls o H4 x4 => hE hn cls o H4 (x4.mono ((e.trans e2).trans e3))⟩
end
theorem staysOf_len {es : List Evt} : (staysOf es).length ≤ es.length := by
  unfold staysOf
  rw [staysTo_len (Nat.le_refl _)]
  refine Nat.le_trans (List.length_filter_le _ _) ?_
  rw [List.length_take]
  exact Nat.min_le_left ..
def pre_least : Pr := fun ds Post => ∃ T n, ds = [tabT T n] ∧ n ≤ 900 ∧ ∀ k row, Least T n k → Col T n k row → Post (.tuple [natD k, rowD row])
abbrev esT (es : List Evt) : Nat → Nat → Bool := clT (staysOf es)
abbrev esN (es : List Evt) : Nat := (staysOf es).length
def pre_fs : PrX := fun ds Post Ex => ∃ d, ds = [d] ∧ fit d = true ∧ (∀ es, evsOf d = some es → esN es ≤ 900 ∧ ∀ k, Least (esT es) (esN es) k → Post (natD k)) ∧ (evsOf d = none → Ex d)
def pre_fc : PrX := fun ds Post Ex => ∃ d, ds = [d] ∧ fit d = true ∧ (∀ es, evsOf d = some es → esN es ≤ 900 ∧ ∀ k, Least (esT es) (esN es) k → Post (.tuple [.str "stacks", natD k])) ∧ (evsOf d = none → Ex d)
/-- the shapes that stand second in a paper -/
def valD (s : Str) : Option (List Nat) → PyData
  | none => .tuple [.str s]
  | some l => .tuple [.str s, rowD l]
def paperV (T : Nat → Nat → Bool) (n k : Nat) : PyData := match crowds T n k with
  | [] => valD "search" none
  | l :: _ => valD "crowd" (some l)
def pre_fp : PrX := fun ds Post Ex => ∃ d, ds = [d] ∧ fit d = true ∧ (∀ es, evsOf d = some es → esN es ≤ 6 ∧ ∀ k row, Least (esT es) (esN es) k → Col (esT es) (esN es) k row → Post (.tuple [rowD row, paperV (esT es) (esN es) k])) ∧ (evsOf d = none → Ex d)
open Classical in
noncomputable def noColB (T : Nat → Nat → Bool) (n m : Nat) : Bool := decide (∀ c, ¬ Col T n m c)
noncomputable def showsB (T : Nat → Nat → Bool) (n k : Nat) (s : Str) : Option (List Nat) → Bool
  | none => decide (s = "search") && (decide (k = 0) || noColB T n (k - 1))
  | some l => decide (s = "crowd") && (risingB (rowD l) (n : Int) && (decide (l.length = k) && allClash T l))
def pre_shows : Pr := fun ds Post => ∃ T, ∃ n k : Nat, ∃ s o, ds = [tabT T n, natD k, valD s o] ∧ n ≤ 900 ∧ (∀ l, o = some l → l.length ≤ 900) ∧ PyData.strOk s = true ∧ Post (.bool (showsB T n k s o))
theorem shaped_val {s : Str} (hs : PyData.strOk s = true) : ∀ o, SeqAt.shaped (valD s o) = true
  | none => by
    show (PyData.canLay0 (.tuple [.str s]) && decide (PyData.depth (.tuple [.str s]) ≤ 64)) = true
    simp [PyData.canLay0, PyData.canLayAll0, PyData.depth, PyData.depthAll, hs]
  | some l => by
    have h1 : ∀ l : List Nat, PyData.canLayAll0 (l.map natD) = true := fun l => by
      induction l with
      | nil => simp [PyData.canLayAll0]
      | cons a l ih => simp [PyData.canLayAll0, ih, natD, PyData.canLay0]
    have h2 : ∀ l : List Nat, PyData.depthAll (l.map natD) ≤ 1 := fun l => by
      induction l with
      | nil => simp [PyData.depthAll]
      | cons a l ih =>
        simp only [List.map_cons, PyData.depthAll]
        have : (natD a).depth ≤ 1 := by simp [natD, PyData.depth]
        omega
    show (PyData.canLay0 (.tuple [.str s, .tuple (l.map natD)]) && decide (PyData.depth (.tuple [.str s, .tuple (l.map natD)]) ≤ 64)) = true
    have := h2 l
    simp only [PyData.canLay0, PyData.canLayAll0, PyData.depth, PyData.depthAll, h1, hs, Bool.and_true, Bool.true_and, decide_eq_true_eq]
    exact decide_eq_true (by omega)
theorem eqv_val (s : Str) : ∀ o, PyData.eqv (valD s o) (valD "search" none) = (o.isNone && decide (s = "search"))
  | none => by
    show (PyData.eqv (.str s) (.str "search") && PyData.eqvAll [] []) = _
    show ((s == ("search" : Str)) && true) = (true && decide (s = "search"))
    rw [Bool.and_true, Bool.true_and]
    exact Bool.beq_eq_decide_eq ..
  | some l => by
    show (PyData.eqv (.str s) (.str "search") && PyData.eqvAll [rowD l] []) = _
    show ((s == ("search" : Str)) && false) = (false && _)
    rw [Bool.and_false, Bool.false_and]
section
variable {P : Program} {w : World} {K : Fg} {mg : Str → Option Value} {base : Heap} {f : Addr} {fd : FuncData} {CY CD C : Addr}
/-- slots: self 0, yard 1, events 2, told 3 -/
theorem sc_Day_init : FnScope ["self", "yard", "events", "told"] ["self", "yard", "events"] (defScope s_Day_init) := ⟨rfl, rfl, rfl, by decide +kernel, rfl, by decide +kernel, by decide +kernel⟩
theorem ok_Day_init (F : Fun K "__init__" "Day.__init__" s_Day_init f fd) (B : Blt mg) (T : Tx K CY CD) (D : Dy P w K mg base C) (G_as_events : Fn P w K mg base CX0 3 "as_events" ["yard", "value"] (spAsEv K CY)) :
    FnOk P w K mg base (L2.CX P w) 4 f fd ["self", "yard", "events"] (spDay K CY CD C) := by
  refine F.okX sc_Day_init (fun vs H Q E h => by obtain ⟨Hb, x, dx, y, v, d, rfl, _⟩ := h; rfl) (fun cdv A outer s H vs Q E hr h => ?_)
  obtain ⟨Hb, x, dx, vy, v, d, rfl, eb, hx, hxi, hy, hv, hf, q, qx⟩ := h
  refine ⟨_, (pss_cons (ps_set (i := 3) sc_Day_init.nd rfl (Or.inl rfl) (pe_fn G_as_events (hr.mono (by decide)) (by rfl) pass0 (pa_cons (pv 1) (pa_cons (pv 2) pa_nil))))
      (pss_cons (ps_if (pt_cmpR op_isNo (pv 3) pe_non (nomark _)) (pss_one (ps_raiseD D (hr.mono (by decide)) (by rfl) (pa_cons (pv 2) pa_nil))) pss_nil)
      (pss_cons (ps_fld (pv 0) (pv 1) rfl)
      (pss_one (ps_fld (pv 0) (pv 3) rfl))))), ?_⟩
  refine q_asg (P := IsD K (asEvD d)) (ev_raw2 (P1 := fun w _ => w = vy) (P2 := fun w _ => w = v) (ev_slot rfl) (fun _ _ _ _ h => h) (ev_slot rfl) fun a b H1 e1 ha hb Q k => by
    subst ha hb
    exact ⟨a, b, d, rfl, (hy.mono eb).mono e1, (hv.mono eb).mono e1, hf, fun w H2 e2 hw => k w H2 e2 hw⟩) fun vt H1 e1 hvt => ?_
  have ex1 : x ≠ x → False := fun h => h rfl
  cases hd : evsOf d with
  | none =>
    have e0 : asEvD d = .none := by unfold asEvD; rw [hd]
    rw [e0] at hvt
    refine q_when (b := true) (et_is (et_test (ev_op (ev_var rfl hvt) ev_non rd_isNo)) rfl) (fun _ H2 e2 => ?_) (fun h => Bool.noConfusion h)
    exact t_raiseD (ev_var rfl (((hv.mono eb).mono e1).mono e2)) fun cls o H3 x3 => qx hd cls o H3 (x3.mono ((eb.trans e1).trans e2))
  | some es =>
    have e0 : asEvD d = evsD es := by unfold asEvD; rw [hd]
    rw [e0] at hvt
    refine q_when (b := false) (et_is (et_test (ev_op (ev_var rfl hvt) ev_non rd_isNo)) rfl) (fun h => Bool.noConfusion h) (fun _ H2 e2 => ?_)
    have hx2 := (e1.trans e2) _ _ hxi
    refine q_fld (ev_slot (v := vy) rfl) (ev_slot rfl) hx2 T.cd T.dy (by decide) (fun _ _ _ _ h => h) fun v4 H4 e4 hv4 => ?_
    subst hv4
    have hb4 : Same Hb (upd H4 x (.ins CD dx (putF "yard" v4 []))) := Same.mut (eb.trans ((e1.trans e2).trans e4)) hx
    have ht4 : Is K H4 vt (evsD es) := (hvt.mono e2).mono e4
    have hx4 := e4 _ _ hx2
    have st4 : SameT H4 (upd H4 x (.ins CD dx (putF "yard" v4 []))) := fun b => ⟨fun ys e => by rw [upd_ne (ne_of e hx4 (by intro z; cases z))]; exact e, fun ob u e => by rw [upd_ne (ne_of e hx4 (by intro z; cases z))]; exact e⟩
    have hnl : nl (evsD es) = true := nlAll_map (f := evD) (fun _ => rfl) es
    have ht4' : Is K (upd H4 x (.ins CD dx (putF "yard" v4 []))) vt (evsD es) := Is.monoT st4 hnl ht4
    refine s_fld (P := fun w _ => w = vt) (ev_slot rfl) (ev_slot rfl) upd_same T.cd T.de (by show 1 < 1000; decide) (fun _ _ _ _ h => h) fun v5 H5 e5 hv5 => ?_
    subst hv5
    have ht5 := ht4'.mono e5
    have hx5 := e5 _ _ (upd_same (H := H4) (a := x) (o := HO.ins CD dx (putF "yard" v4 [])))
    have st5 : SameT H5 (upd H5 x (.ins CD dx (putF "events" v5 (putF "yard" v4 [])))) := fun b => ⟨fun ys e => by rw [upd_ne (ne_of e hx5 (by intro z; cases z))]; exact e, fun ob u e => by rw [upd_ne (ne_of e hx5 (by intro z; cases z))]; exact e⟩
    have hb5 : Same Hb (upd H5 x (.ins CD dx (putF "events" v5 (putF "yard" v4 [])))) := Same.mut (hb4.trans e5) hx
    have hne : ¬ (("yard" : Str) = "events") := by decide +kernel
    exact q es _ hd hb5 ⟨x, dx, _, v4, v5, rfl, upd_same, by rw [lookup_putF, if_neg hne, lookup_putF, if_pos rfl], by rw [lookup_putF, if_pos rfl], hy.mono hb5, Is.monoT st5 hnl ht5⟩
/-- slots: day 0 -/
theorem sc_stays_in : FnScope ["day"] ["day"] (defScope s_stays_in) := ⟨rfl, rfl, rfl, by decide +kernel, rfl, by decide +kernel, by decide +kernel⟩
theorem ok_stays_in (F : Fun K "stays_in" "stays_in" s_stays_in f fd) (B : Blt mg) (T : Tx K CY CD) (G_stays_of : Fn P w K mg base CX0 1 "stays_of" ["boxes", "events"] (SpD K pre_stays)) (G_boxes_of : Fn P w K mg base CX0 1 "boxes_of" ["yard"] (spBoxes K CY)) :
    FnOk P w K mg base CX0 2 f fd ["day"] (spStaysIn K CY CD) := by
  refine F.ok sc_stays_in (fun vs H Q E h => by obtain ⟨v, es, rfl, _⟩ := h; rfl) (fun cdv A outer s H vs Q E hr h => ?_)
  obtain ⟨v, es, rfl, ⟨y, dx, fs, yv, ev, rfl, hy, l1, l2, hyv, hev⟩, hok, q⟩ := h
  refine ⟨_, (pss_one (ps_ret (pe_fn G_stays_of (hr.mono (by decide)) (by rfl) pass0 (pa_cons (pe_fn G_boxes_of (hr.mono (by decide)) (by rfl) pass0 (pa_cons (fld_K (K := K) rfl (pv 0) rfl) pa_nil)) (pa_cons (fld_K (K := K) rfl (pv 0) rfl) pa_nil))))), ?_⟩
  exact s_ret (P := IsD K (.list ((staysOf es).map stD))) (ev_callF (ea2 (ev_raw1 (P1 := fun w _ => w = yv) (ev_fld (ev_slot rfl) hy T.cd T.dy l1) fun u H1 e1 hu Q k => by
    subst hu
    exact ⟨u, rfl, hyv.mono e1, fun w H2 e2 hw => k w H2 e2 hw⟩) (ev_at (ev_fld (ev_slot rfl) hy T.cd T.de l2) hev)) ⟨es, rfl, hok.1, hok.2, rfl⟩) fun u H1 e1 hu => q u H1 e1 hu
/-- slots: events 0 -/
theorem sc_table_of : FnScope ["events"] ["events"] (defScope s_table_of) := ⟨rfl, rfl, rfl, by decide +kernel, rfl, by decide +kernel, by decide +kernel⟩
theorem ok_table_of (F : Fun K "table_of" "table_of" s_table_of f fd) (B : Blt mg) (T : Tx K CY CD) (D : Dy P w K mg base C) (G_clashes_of : Fn P w K mg base CX0 3 "clashes_of" ["found"] (SpD K pre_clashes)) (G_stays_in : Fn P w K mg base CX0 2 "stays_in" ["day"] (spStaysIn K CY CD))
    (G_Yard : MkC P w K mg base CX0 3 "Yard" CY ["self", "height", "stacks"] (spYard K CY)) (G_Day : MkC P w K mg base (L2.CX P w) 4 "Day" CD ["self", "yard", "events"] (spDay K CY CD C)) : FnOk P w K mg base (L2.CX P w) 6 f fd ["events"] (SpR K C pre_table) := by
  refine F.okX sc_table_of (spr_len fun ds Post Ex h => by obtain ⟨d, rfl, _⟩ := h; rfl) (fun cdv A outer s H vs Q E hr h => ?_)
  obtain ⟨ds, Post, Ex, a, ⟨d, rfl, hf, hp, hx⟩, q, qx⟩ := h
  refine ⟨_, (pss_cons (ps_if (pt_not (pt_val (pe_callB (isiT_K (K := K) rfl) (by rfl) B.isinstance (by decide +kernel) (pa_cons (pv 0) (pa_cons (pe_tup (pa_cons (pe_bltn (v := .ty "list") (by rfl) B.list (by decide +kernel) rfl) (pa_cons (pe_bltn (v := .ty "tuple") (by rfl) B.tuple (by decide +kernel) rfl) pa_nil))) pa_nil))))) (pss_one (ps_raiseD D (hr.mono (by decide)) (by rfl) (pa_cons (pv 0) pa_nil))) pss_nil)
      (pss_one (ps_ret (pe_fn G_clashes_of (hr.mono (by decide)) (by rfl) pass0 (pa_cons (pe_fn G_stays_in (hr.mono (by decide)) (by rfl) pass0 (pa_cons (pe_mkc G_Day (hr.mono (by decide)) (by rfl) passX (pa_cons (pe_mkc G_Yard (hr.mono (by decide)) (by rfl) pass0 (pa_cons (pe_op (op_addK (K := K) rfl) (pe_callB (len_K (K := K) rfl) (by rfl) B.len PySem.boot_len (pa_cons (pv 0) pa_nil)) pe_int) (pa_cons (pe_tup (pa_cons (pe_tup pa_nil) pa_nil)) pa_nil))) (pa_cons (pv 0) pa_nil))) pa_nil)) pa_nil))))), ?_⟩
  obtain ⟨v, rfl, hv⟩ := all1 a
  refine q_when (b := !(isLst d || isTup d)) (et_not (et_B (ev_isSeq (ev_var rfl hv)))) (fun h H1 e1 => ?_) (fun h H1 e1 => ?_)
  · have hn : evsOf d = none := by
      unfold evsOf
      cases d <;> first | rfl | exact Bool.noConfusion (show false = true from h)
    exact t_raiseD (ev_var rfl (hv.mono e1)) fun cls o H2 x2 => qx d cls o H2 (hx hn) (x2.mono e1)
  · obtain ⟨ds, hs⟩ : ∃ ds, d = .list ds ∨ d = .tuple ds := by
      cases d with
      | list ds => exact ⟨ds, .inl rfl⟩
      | tuple ds => exact ⟨ds, .inr rfl⟩
      | _ => exact Bool.noConfusion (show true = false from h)
    have hv1 := hv.mono e1
    refine s_ret (P := fun v H' => ∃ es, evsOf d = some es ∧ Is K H' v (tabOf es)) (ev_raw1 (ev_raw1 (P := fun v H' => ∃ es, evsOf d = some es ∧ Is K H' v (.list ((staysOf es).map stD)))
        (ev_day (CY := CY) (CD := CD) (ev_yard (n := ds.length) (ev_op (ev_lenQ hs (ev_var rfl hv1)) ev_int rd_addI) (ev_tup (ea1 (ev_tup ea_nil (by decide))) (by decide))) (ev_var rfl hv1) hf (fun hn cls o H' x' => qx d cls o H' (hx hn) (x'.mono e1)))
        fun vd H3 e3 hd Q k => ?_) fun w H4 e4 hw Q k => ?_) fun u H2 e2 ⟨es, hes, hu⟩ => q _ u H2 (hp es hes) (e1.trans e2) hu
    · obtain ⟨es, hes, hd⟩ := hd
      exact ⟨vd, es, rfl, hd, evsOf_ok hf hes, fun w H4 e4 hw => k w H4 e4 ⟨es, hes, hw⟩⟩
    · obtain ⟨es, hes, hw⟩ := hw
      refine ⟨_, fun d => d = tabOf es, .cons hw .nil, ⟨staysOf es, rfl, Nat.le_trans staysOf_len (evsOf_ok hf hes).1, rfl⟩, fun d' v' H5 hd' e5 hv' => k v' H5 e5 ⟨es, hes, ?_⟩⟩
      rw [hd'] at hv'
      exact hv'
/-- slots: table 0, k 1, parting 2 -/
theorem sc_least_parting : FnScope ["table", "k", "parting"] ["table"] (defScope s_least_parting) := ⟨rfl, rfl, rfl, by decide +kernel, rfl, by decide +kernel, by decide +kernel⟩
theorem ok_least_parting (F : Fun K "least_parting" "least_parting" s_least_parting f fd) (B : Blt mg) (G_parting_into : Fn P w K mg base CX0 1 "parting_into" ["table", "many"] (SpD K pre_parting)) : FnOk P w K mg base CX0 2 f fd ["table"] (SpD K pre_least) := by
  refine F.ok sc_least_parting (spd_len fun ds Post h => by obtain ⟨T, n, rfl, _⟩ := h; rfl) (fun cdv A outer s H vs Q E hr h => ?_)
  obtain ⟨ds, Post, a, ⟨T, n, rfl, hn, hp⟩, q⟩ := h
  refine ⟨_, (pss_cons (ps_for PassesOwn.never rfl (pi_range1 (by rfl) B.range (pa_cons (pe_op (op_addK (K := K) rfl) (pe_callB (len_K (K := K) rfl) (by rfl) B.len PySem.boot_len (pa_cons (pv 0) pa_nil)) pe_int) pa_nil)) (pg_name (i := 1) sc_least_parting.nd rfl (Or.inl rfl)) (pss_cons (ps_set (i := 2) sc_least_parting.nd rfl (Or.inl rfl) (pe_fn G_parting_into (hr.mono (by decide)) (by rfl) pass0 (pa_cons (pv 0) (pa_cons (pv 1) pa_nil))))
      (pss_one (ps_if (pt_cmpR op_notNo (pv 2) pe_non (nomark _)) (pss_one (ps_ret (pe_tup (pa_cons (pv 1) (pa_cons (pv 2) pa_nil))))) pss_nil))))
      (pss_one (ps_ret (pe_tup (pa_cons pe_int (pa_cons (pe_tup pa_nil) pa_nil)))))), ?_⟩
  obtain ⟨v, rfl, hv⟩ := all1 a
  have elen : (((List.range n).map (rowT T n)).length : Int) = (n : Int) := by rw [List.length_map, List.length_range]
  refine q_forW (C := Same) (ew_rng1 (n := n + 1) (ea1 (ev_op (ev_is (ev_lenL (ev_var rfl hv)) (by rw [elen])) ev_int rd_addI)) (by omega) (by omega) (by omega)) fun H1 e1 => ⟨fun i σ' H' => ∃ x1 x2, σ' = [some v, x1, x2] ∧ Same H1 H' ∧ ∀ m, m < i → ∀ c, ¬ Col T n m c,
    ⟨none, none, rfl, Same.refl _, fun m hm => absurd hm (Nat.not_lt_zero _)⟩, fun i σ' H' h => by obtain ⟨_, _, _, h, _⟩ := h; exact h, ?_, ?_⟩
  · rintro i d u σ' Ha Hb hd ⟨x1, x2, rfl, ea, hno⟩ eb hu
    have hi : i < n + 1 := by
      have := (List.getElem?_eq_some_iff.mp hd).1
      rw [List.length_map, List.length_range] at this
      exact this
    rw [List.getElem?_map, List.getElem?_range hi] at hd
    cases hd
    refine g_nm ?_
    have hvb := ((hv.mono e1).mono ea).mono eb
    refine q_asg (ev_call (Post := PartD T n i) (ea2 (ev_var rfl hvb) (ev_var rfl hu)) ⟨T, n, i, rfl, by omega, fun d hd => hd⟩) fun vp H2 e2 hvp => ?_
    obtain ⟨d, hd, hvd⟩ := hvp
    have ebase : Same H H2 := ((e1.trans ea).trans eb).trans e2
    refine s_if (b := !isNo d) (et_test (ev_op (ev_var rfl hvd) ev_non rd_notNo)) (fun hb H3 e3 => ?_) (fun hb H3 e3 => ?_)
    · rcases hd with ⟨hd, _⟩ | ⟨row, hd, hcol⟩
      · rw [hd] at hb
        exact Bool.noConfusion hb
      · subst hd
        refine s_ret (P := IsD K (.tuple [natD i, rowD row])) (ev_tup (ea2 (ev_var rfl ((hu.mono e2).mono e3)) (ev_var rfl (hvd.mono e3))) (by show 2 ≤ 100000; decide)) fun w' H4 e4 hw => q _ w' H4 (hp i row ⟨⟨row, hcol⟩, fun m ⟨c, hc⟩ => ?_⟩ hcol) (ebase.trans (e3.trans e4)) hw
        rcases Nat.lt_or_ge m i with hm | hm
        · exact absurd hc (hno m hm c)
        · exact hm
    · rcases hd with ⟨hd, hnc⟩ | ⟨row, hd, hcol⟩
      · refine ⟨_, _, rfl, ((ea.trans eb).trans e2).trans e3, fun m hm c => ?_⟩
        rcases Nat.lt_or_ge m i with hm' | hm'
        · exact hno m hm' c
        · have : m = i := by omega
          rw [this]
          exact hnc c
      · rw [hd] at hb
        exact Bool.noConfusion hb
  · rintro σ' H' ⟨x1, x2, rfl, ea, hno⟩
    rw [List.length_map, List.length_range] at hno
    exact absurd col_id (hno n (Nat.lt_succ_self n) _)
/-- slots: events 0 -/
theorem sc_fewest_stacks : FnScope ["events"] ["events"] (defScope s_fewest_stacks) := ⟨rfl, rfl, rfl, by decide +kernel, rfl, by decide +kernel, by decide +kernel⟩
theorem ok_fewest_stacks (F : Fun K "fewest_stacks" "fewest_stacks" s_fewest_stacks f fd) (B : Blt mg) (G_table_of : Fn P w K mg base (L2.CX P w) 6 "table_of" ["events"] (SpR K C pre_table)) (G_least_parting : Fn P w K mg base CX0 2 "least_parting" ["table"] (SpD K pre_least)) :
    FnOk P w K mg base (L2.CX P w) 7 f fd ["events"] (SpR K C pre_fs) := by
  refine F.okX sc_fewest_stacks (spr_len fun ds Post Ex h => by obtain ⟨d, rfl, _⟩ := h; rfl) (fun cdv A outer s H vs Q E hr h => ?_)
  obtain ⟨ds, Post, Ex, a, ⟨d, rfl, hf, hp, hx⟩, q, qx⟩ := h
  refine ⟨_, (pss_one (ps_ret (pe_ix (ix_K (K := K) rfl) (pe_fn G_least_parting (hr.mono (by decide)) (by rfl) pass0 (pa_cons (pe_fnE G_table_of (hr.mono (by decide)) (by rfl) passX (pa_cons (pv 0) pa_nil)) pa_nil)) pe_int (fun _ _ => rfl)))), ?_⟩
  obtain ⟨v, rfl, hv⟩ := all1 a
  refine s_ret (P := fun v H' => ∃ d, Post d ∧ Is K H' v d) ?_ fun u H2 e2 ⟨d, hd, hu⟩ => q d u H2 hd e2 hu
  intro H1 e1 Q1 k1
  refine ev_callR (K := K) (Post := fun t => ∃ es, evsOf d = some es ∧ t = tabOf es) (Ex := Ex) (ea1 (ev_var rfl hv)) ⟨d, rfl, hf, fun es hes => ⟨es, hes, rfl⟩, hx⟩ qx H1 e1 _ fun vt H2 e2 ⟨t, ⟨es, hes, ht⟩, hvt⟩ => ?_
  subst ht
  obtain ⟨hn, hk⟩ := hp es hes
  refine ⟨_, fun d => ∃ k row, d = .tuple [natD k, rowD row] ∧ Post (natD k), .cons hvt .nil, ⟨_, _, rfl, hn, fun k row hl _ => ⟨k, row, rfl, hk k hl⟩⟩, fun d' v' H3 ⟨k, row, hd', hpk⟩ e3 hv' => ?_⟩
  subst hd'
  exact rd_ix (K := K) (d := natD k) (.inr rfl) (atI_n (j := 0) rfl rfl) H3 v' (.int 0) hv' (.int 0) Q1 fun u H4 e4 hu => k1 u H4 ((e2.trans e3).trans e4) ⟨_, hpk, hu⟩
/-- slots: events 0 -/
theorem sc_fewest_claim : FnScope ["events"] ["events"] (defScope s_fewest_claim) := ⟨rfl, rfl, rfl, by decide +kernel, rfl, by decide +kernel, by decide +kernel⟩
theorem ok_fewest_claim (F : Fun K "fewest_claim" "fewest_claim" s_fewest_claim f fd) (B : Blt mg) (G_fewest_stacks : Fn P w K mg base (L2.CX P w) 7 "fewest_stacks" ["events"] (SpR K C pre_fs)) : FnOk P w K mg base (L2.CX P w) 8 f fd ["events"] (SpR K C pre_fc) := by
  refine F.okX sc_fewest_claim (spr_len fun ds Post Ex h => by obtain ⟨d, rfl, _⟩ := h; rfl) (fun cdv A outer s H vs Q E hr h => ?_)
  obtain ⟨ds, Post, Ex, a, ⟨d, rfl, hf, hp, hx⟩, q, qx⟩ := h
  refine ⟨_, (pss_one (ps_ret (pe_tup (pa_cons pe_str (pa_cons (pe_fnE G_fewest_stacks (hr.mono (by decide)) (by rfl) passX (pa_cons (pv 0) pa_nil)) pa_nil))))), ?_⟩
  obtain ⟨v, rfl, hv⟩ := all1 a
  refine s_ret (P := fun v H' => ∃ d, Post d ∧ Is K H' v d) ?_ fun u H2 e2 ⟨d, hd, hu⟩ => q d u H2 hd e2 hu
  intro H1 e1 Q1 k1
  refine ev_callR (K := K) (Post := fun t => Post (.tuple [.str "stacks", t])) (Ex := Ex) (ea1 (ev_var rfl hv)) ⟨d, rfl, hf, hp, hx⟩ qx H1 e1 _ fun vt H2 e2 ⟨t, ht, hvt⟩ => ?_
  exact ⟨(by show 2 ≤ sizeLine; rw [sizeLine_eq]; decide), fun p hp => k1 _ _ (e2.trans (Same.new hp)) ⟨_, ht, .tup (SqT.of upd_same) (.cons (.str _) (.cons (hvt.mono (Same.new hp)) .nil))⟩⟩
/-- slots: events 0, table 1, k 2, parting 3, crowd 4 -/
theorem sc_fewest_paper : FnScope ["events", "table", "k", "parting", "crowd"] ["events"] (defScope s_fewest_paper) := ⟨rfl, rfl, rfl, by decide +kernel, rfl, by decide +kernel, by decide +kernel⟩
theorem ok_fewest_paper (F : Fun K "fewest_paper" "fewest_paper" s_fewest_paper f fd) (B : Blt mg) (G_table_of : Fn P w K mg base (L2.CX P w) 6 "table_of" ["events"] (SpR K C pre_table)) (G_least_parting : Fn P w K mg base CX0 2 "least_parting" ["table"] (SpD K pre_least))
    (G_crowd_of : Fn P w K mg base CX0 1 "crowd_of" ["table", "size"] (SpD K pre_crowd)) {aS : Addr} (g_SEARCH : Con1 mg "SEARCH" (.ref aS)) (hS : ∀ H, Is K H (.ref aS) (valD "search" none)) : FnOk P w K mg base (L2.CX P w) 7 f fd ["events"] (SpR K C pre_fp) := by
  refine F.okX sc_fewest_paper (spr_len fun ds Post Ex h => by obtain ⟨d, rfl, _⟩ := h; rfl) (fun cdv A outer s H vs Q E hr h => ?_)
  obtain ⟨ds, Post, Ex, a, ⟨d, rfl, hf, hp, hx⟩, q, qx⟩ := h
  refine ⟨_, (pss_cons (ps_set (i := 1) sc_fewest_paper.nd rfl (Or.inl rfl) (pe_fnE G_table_of (hr.mono (by decide)) (by rfl) passX (pa_cons (pv 0) pa_nil)))
      (pss_cons (ps_asg (pe_fn G_least_parting (hr.mono (by decide)) (by rfl) pass0 (pa_cons (pv 1) pa_nil)) (tupg_K (K := K) (n := 2) rfl rfl (pgs_cons (pg_name (i := 2) sc_fewest_paper.nd rfl (Or.inl rfl)) (pgs_cons (pg_name (i := 3) sc_fewest_paper.nd rfl (Or.inl rfl)) pgs_nil))))
      (pss_cons (ps_set (i := 4) sc_fewest_paper.nd rfl (Or.inl rfl) (pe_fn G_crowd_of (hr.mono (by decide)) (by rfl) pass0 (pa_cons (pv 1) (pa_cons (pv 2) pa_nil))))
      (pss_one (ps_ret (pe_tup (pa_cons (pv 3) (pa_cons (pe_ifExp (pt_cmpR op_isNo (pv 4) pe_non (nomark _)) (pe_con g_SEARCH (by rfl)) (pe_tup (pa_cons pe_str (pa_cons (pv 4) pa_nil)))) pa_nil)))))))), ?_⟩
  obtain ⟨v, rfl, hv⟩ := all1 a
  refine q_asg (ev_callR (K := K) (Post := fun t => ∃ es, evsOf d = some es ∧ t = tabOf es) (Ex := Ex) (ea1 (ev_var rfl hv)) ⟨d, rfl, hf, fun es hes => ⟨es, hes, rfl⟩, hx⟩ qx) fun vt H1 e1 ⟨t, ⟨es, hes, ht⟩, hvt⟩ => ?_
  subst ht
  obtain ⟨hn, hk⟩ := hp es hes
  refine ev_call (K := K) (Post := fun d => ∃ k row, d = .tuple [natD k, rowD row] ∧ Least (esT es) (esN es) k ∧ Col (esT es) (esN es) k row) (ea1 (ev_var rfl hvt)) ⟨_, _, rfl, Nat.le_trans hn (by decide), fun k row h1 h2 => ⟨k, row, rfl, h1, h2⟩⟩ H1 (Same.refl _) _ fun vl H2 e2 ⟨d2, ⟨k, row, hd2, hl, hc⟩, hvl⟩ => ?_
  subst hd2
  refine g_tup2 hvl fun vk vr hvk hvr => ?_
  have hk6 : k ≤ 6 := Nat.le_trans (hl.2 _ ⟨_, col_id⟩) hn
  refine q_asg (ev_callF (z := crowdD (crowds (esT es) (esN es) k)) (ea2 (ev_var rfl (hvt.mono e2)) (ev_var rfl hvk)) ⟨_, _, k, rfl, hn, hk6, rfl⟩) fun vc H3 e3 hvc => ?_
  refine s_ret (P := IsD K (.tuple [rowD row, paperV (esT es) (esN es) k])) (ev_tup (ea2 (ev_var rfl (hvr.mono e3)) ?_) (by show 2 ≤ 100000; decide)) fun u H4 e4 hu => q _ u H4 (hk k row hl hc) (((e1.trans e2).trans e3).trans e4) hu
  unfold paperV
  revert hvc
  generalize crowds (esT es) (esN es) k = cs
  intro hvc
  cases cs with
  | nil => exact ev_if (b := true) (et_is (et_test (ev_op (x := .none) (ev_var rfl hvc) ev_non rd_isNo)) rfl) (fun _ => ev_c (hS _)) (fun h => Bool.noConfusion h)
  | cons l ls => exact ev_if (b := false) (et_is (et_test (ev_op (x := rowD l) (ev_var rfl hvc) ev_non rd_isNo)) rfl) (fun h => Bool.noConfusion h) (fun _ => ev_tup (ea2 ev_str (ev_var rfl hvc)) (by show 2 ≤ 100000; decide))
/-- slots: table 0, k 1, value 2 -/
theorem sc_shows_least : FnScope ["table", "k", "value"] ["table", "k", "value"] (defScope s_shows_least) := ⟨rfl, rfl, rfl, by decide +kernel, rfl, by decide +kernel, by decide +kernel⟩
theorem ok_shows_least (F : Fun K "shows_least" "shows_least" s_shows_least f fd) (B : Blt mg) {aS : Addr} (g_SEARCH : Con1 mg "SEARCH" (.ref aS)) (hS : ∀ H, Is K H (.ref aS) (valD "search" none)) (G_parting_into : Fn P w K mg base CX0 1 "parting_into" ["table", "many"] (SpD K pre_parting))
    (G_is_kind : Fn P w K mg base CX0 1 "is_kind" ["value", "word", "many"] (SpD K pre_kind)) (G_are_rising_below : Fn P w K mg base CX0 3 "are_rising_below" ["value", "most"] (SpD K pre_rising)) (G_all_clash : Fn P w K mg base CX0 1 "all_clash" ["table", "numbers"] (SpD K pre_all_clash)) :
    FnOk P w K mg base CX0 4 f fd ["table", "k", "value"] (SpD K pre_shows) := by
  refine F.ok sc_shows_least (spd_len fun ds Post h => by obtain ⟨T, n, k, s, o, rfl, _⟩ := h; rfl) (fun cdv A outer s H vs Q E hr h => ?_)
  obtain ⟨ds, Post, a, ⟨T, n, k, s, o, rfl, hn, ho, hsl, hp⟩, q⟩ := h
  refine ⟨_, (pss_cons (ps_if (pt_cmpR (op_eqK (K := K) rfl hr.units) (pv 2) (pe_con g_SEARCH (by rfl)) (nomark _)) (pss_one (ps_ret (pe_or (pe_cmpR (op_eqK (K := K) rfl hr.units) (pv 1) pe_int (nomark _)) (pe_one (pe_cmpR op_isNo (pe_fn G_parting_into (hr.mono (by decide)) (by rfl) pass0 (pa_cons (pv 0) (pa_cons (pe_op op_sub (pv 1) pe_int) pa_nil))) pe_non (nomark _)))))) pss_nil)
      (pss_cons (ps_if (PW.pt (pw_or (pt_not (pt_val (pe_fn G_is_kind (hr.mono (by decide)) (by rfl) pass0 (pa_cons (pv 2) (pa_cons pe_str (pa_cons pe_int pa_nil)))))) (pw_or1 (pt_not (pt_val (pe_fn G_are_rising_below (hr.mono (by decide)) (by rfl) pass0 (pa_cons (pe_ix (ix_K (K := K) rfl) (pv 2) pe_int (fun _ _ => rfl)) (pa_cons (pe_callB (len_K (K := K) rfl) (by rfl) B.len PySem.boot_len (pa_cons (pv 0) pa_nil)) pa_nil)))))))) (pss_one (ps_ret pe_bl)) pss_nil)
      (pss_one (ps_ret (pe_and (pe_cmpR (op_eqK (K := K) rfl hr.units) (pe_callB (len_K (K := K) rfl) (by rfl) B.len PySem.boot_len (pa_cons (pe_ix (ix_K (K := K) rfl) (pv 2) pe_int (fun _ _ => rfl)) pa_nil)) (pv 1) (nomark _)) (pe_one (pe_fn G_all_clash (hr.mono (by decide)) (by rfl) pass0 (pa_cons (pv 0) (pa_cons (pe_ix (ix_K (K := K) rfl) (pv 2) pe_int (fun _ _ => rfl)) pa_nil))))))))), ?_⟩
  obtain ⟨vt, vk, vv, rfl, ht, hk, hv⟩ := all3 a
  have elen : (((List.range n).map (rowT T n)).length : Int) = (n : Int) := by rw [List.length_map, List.length_range]
  refine q_when (b := o.isNone && decide (s = "search")) (et_is (et_test (ev_op (ev_var rfl hv) (ev_c (hS _)) (rd_eq (shaped_val hsl o) (shaped_val (by decide +kernel) _)))) (eqv_val s o)) (fun hb H1 e1 => ?_) (fun hb H1 e1 => ?_)
  · rw [Bool.and_eq_true] at hb
    obtain ⟨h1, h2⟩ := hb
    have h2 := of_decide_eq_true h2
    cases o with
    | some l => cases h1
    | none =>
      refine s_retD (d' := .bool (showsB T n k s none)) (ev_orV (a := decide (k = 0)) (b := noColB T n (k - 1)) (ev_is (ev_op (ev_var rfl (hk.mono e1)) ev_int rd_eqI) (by congr 1; rw [decide_eq_decide]; omega)) fun hk0 => ?_) ?_ fun u H2 e2 hu => q _ u H2 hp (e1.trans e2) hu
      · have hk0 : ¬ k = 0 := of_decide_eq_false hk0
        intro H2 e2 Q2 k2
        refine ev_call (K := K) (Post := PartD T n (k - 1)) (ds := [tabT T n, .int ((k - 1 : Nat) : Int)]) (ea2 (ev_var rfl (ht.mono e1)) (ev_is (ev_op (ev_var rfl (hk.mono e1)) ev_int rd_sub) (by congr 1; omega))) ⟨T, n, k - 1, rfl, by omega, fun d hd => hd⟩ H2 e2 _ fun vp H3 e3 ⟨d, hd, hvp⟩ => ?_
        refine rd_isNo (K := K) H3 vp .non hvp .non Q2 fun u H4 e4 hu => k2 u H4 (e3.trans e4) ?_
        have e : isNo d = noColB T n (k - 1) := by
          unfold noColB
          rcases hd with ⟨hd, hc⟩ | ⟨row, hd, hc⟩
          · rw [hd]
            exact (@decide_eq_true _ (Classical.propDecidable _) hc).symm
          · rw [hd]
            exact (@decide_eq_false _ (Classical.propDecidable _) fun z => z row hc).symm
        rw [← e]
        exact hu
      · show PyData.bool _ = .bool (decide (s = "search") && _)
        rw [decide_eq_true h2, Bool.true_and]
  · cases o with
    | none =>
      have hs : decide (s = ("search" : Str)) = false := by simpa using hb
      have e0 : showsB T n k s none = false := by
        show (decide (s = "search") && _) = false
        rw [hs, Bool.false_and]
      refine q_when (b := true) (et_is (et_or (a := true) (b := true) (et_is (et_not (et_B (ev_callF (z := .bool false) (ea_cons (ev_var rfl (hv.mono e1)) (ea2 ev_str ev_int)) ⟨_, "crowd", 1, rfl, rfl⟩))) rfl) fun h => absurd h (by decide)) rfl) (fun _ H2 e2 => s_retB (K := K) e0.symm fun u H3 e3 hu => q _ u H3 hp (e1.trans (e2.trans e3)) hu) (fun h => Bool.noConfusion h)
    | some l =>
      have i1 : atI [PyData.str s, rowD l] 1 = some (rowD l) := atI_n (j := 1) rfl rfl
      have hl := ho l rfl
      have hv1 := hv.mono e1
      refine q_when (b := !(decide (s = "crowd") && risingB (rowD l) n)) (et_is (et_or (a := !decide (s = "crowd")) (b := !risingB (rowD l) n) (et_not (et_B (ev_callF (z := .bool (decide (s = "crowd"))) (ea_cons (ev_var rfl hv1) (ea2 ev_str ev_int)) ⟨_, "crowd", 1, rfl, ?_⟩))) fun _ => et_not (et_B (ev_callF (ea2 (ev_op (ev_var rfl hv1) ev_int (rd_ix (.inr rfl) i1)) (ev_is (ev_lenL (ev_var rfl (ht.mono e1))) (by rw [elen]))) ⟨_, _, rfl, fun ds e => by cases e; rw [List.length_map]; omega, rfl⟩))) (by cases decide (s = ("crowd" : Str)) <;> rfl)) (fun hb2 H2 e2 => ?_) (fun hb2 H2 e2 => ?_)
      · show PyData.bool (decide (([rowD l] : List PyData).length = 1) && decide (s = "crowd")) = _
        rfl
      · rw [Bool.not_eq_true'] at hb2
        have e0 : showsB T n k s (some l) = false := by
          show (decide (s = "crowd") && (risingB (rowD l) n && _)) = false
          rw [← Bool.and_assoc, hb2, Bool.false_and]
        exact s_retB (K := K) e0.symm fun u H3 e3 hu => q _ u H3 hp (e1.trans (e2.trans e3)) hu
      · rw [Bool.not_eq_false'] at hb2
        have hb3 := hb2
        rw [Bool.and_eq_true] at hb3
        have hlt : ∀ x ∈ l, x < n := fun x hx => by
          have h2 : ((l.map natD).all (fun d => below d n) && _) = true := hb3.2
          rw [Bool.and_eq_true] at h2
          have := List.all_eq_true.mp h2.1 (natD x) (List.mem_map_of_mem hx)
          have : (decide (0 ≤ (x : Int)) && decide ((x : Int) < (n : Int))) = true := this
          simp at this
          omega
        have hv2 := hv1.mono e2
        refine s_retD (d' := .bool (showsB T n k s (some l))) (ev_andV (a := decide (l.length = k)) (b := allClash T l) (ev_is (ev_op (ev_lenT (ds := l.map natD) (ev_op (ev_var rfl hv2) ev_int (rd_ix (.inr rfl) i1))) (ev_var rfl ((hk.mono e1).mono e2)) rd_eqI) (by congr 1; rw [decide_eq_decide, List.length_map]; omega)) fun _ => ev_callF (ea2 (ev_var rfl ((ht.mono e1).mono e2)) (ev_op (ev_var rfl hv2) ev_int (rd_ix (.inr rfl) i1))) ⟨T, n, l, rfl, hlt, by omega, hl, rfl⟩) ?_ fun u H3 e3 hu => q _ u H3 hp (e1.trans (e2.trans e3)) hu
        show _ = PyData.bool (decide (s = "crowd") && (risingB (rowD l) n && _))
        rw [← Bool.and_assoc, hb2, Bool.true_and]
end
end K33

set_option Elab.async false
set_option linter.all false
set_option maxRecDepth 100000
set_option maxHeartbeats 4000000
/-! fewest_holds. -/
namespace K33
open PySem PySem.Spec PyProof.Rows L2
def claimI : PyData → Option Int
  | .tuple [.str s, .int i] => if s = "stacks" then some i else none
  | _ => none
def snd2 : PyData → PyData
  | .tuple [_, x] => x
  | _ => .none
theorem claim_none (c : PyData) : (!plainB c || (!kindB c "stacks" 1 || !isI (snd2 c))) = (claimI c).isNone := by
  cases c with
  | tuple ds =>
    cases ds with
    | nil => rfl
    | cons a ds =>
      cases ds with
      | nil => cases a <;> first | rfl | (simp [kindB, plainB, plainAll, claimI])
      | cons x ds =>
        cases ds with
        | nil =>
          cases a with
          | str s =>
            have e : kindB (.tuple [.str s, x]) "stacks" 1 = decide (s = "stacks") := by
              show (decide (([x] : List PyData).length = 1) && decide (s = "stacks")) = _
              rfl
            rw [e]
            cases x with
            | int i =>
              show (!(true && (true && true)) || (!decide (s = "stacks") || !true)) = (if s = "stacks" then some i else none).isNone
              by_cases h : s = "stacks"
              · rw [if_pos h, decide_eq_true h]; rfl
              · rw [if_neg h, decide_eq_false h]; rfl
            | _ =>
              show (_ || (_ || !false)) = true
              rw [Bool.not_false, Bool.or_true, Bool.or_true]
          | _ =>
            have e : ∀ a, (∀ s, a ≠ PyData.str s) → kindB (.tuple [a, x]) "stacks" 1 = false := fun a h => by cases a <;> first | rfl | exact absurd rfl (h _)
            rw [e _ (fun s z => by cases z), Bool.not_false, Bool.true_or, Bool.or_true]
            rfl
        | cons y ds =>
          have e : kindB (.tuple (a :: x :: y :: ds)) "stacks" 1 = false := by
            cases a <;> first | rfl | (show (decide ((x :: y :: ds).length = 1) && _) = false; rw [decide_eq_false (by simp), Bool.false_and])
          rw [e, Bool.not_false, Bool.true_or, Bool.or_true]
          cases a <;> cases x <;> rfl
  | int i => rfl
  | str s => rfl
  | _ => rfl
theorem kind_some {c : PyData} {w : Str} (h : kindB c w 1 = true) : ∃ x, c = .tuple [.str w, x] := by
  cases c with
  | tuple ds =>
    cases ds with
    | nil => cases h
    | cons a ds =>
      cases a with
      | str s =>
        have h : (decide (ds.length = 1) && decide (s = w)) = true := h
        rw [Bool.and_eq_true] at h
        have h1 := of_decide_eq_true h.1
        have h2 := of_decide_eq_true h.2
        cases ds with
        | nil => simp at h1
        | cons x ds =>
          cases ds with
          | nil => exact ⟨x, by rw [h2]⟩
          | cons y ds => simp at h1
      | _ => cases h
  | _ => cases h
theorem claim_some {c : PyData} {i : Int} (h : claimI c = some i) : c = .tuple [.str "stacks", .int i] := by
  unfold claimI at h
  split at h
  · rename_i s j
    split at h
    · rename_i e
      cases h
      rw [e]
    · cases h
  · cases h
theorem size_row : ∀ l : List Nat, sizeAll (l.map natD) = l.length
  | [] => rfl
  | a :: l => by
    show 1 + sizeAll (l.map natD) = l.length + 1
    rw [size_row l]
    omega
theorem plain_row : ∀ l : List Nat, plainAll (l.map natD) = true
  | [] => rfl
  | a :: l => by
    show (true && plainAll (l.map natD)) = true
    rw [plain_row l] <;> rfl
theorem plain_val (s : Str) : ∀ o, plainB (valD s o) = true
  | none => rfl
  | some l => by
    show (true && (plainAll (l.map natD) && true)) = true
    rw [plain_row] <;> rfl
theorem size_val (s : Str) : ∀ o : Option (List Nat), (∀ l, o = some l → l.length ≤ 900) → sizeD (valD s o) ≤ 1000
  | none, _ => by show 1 + (1 + 0) ≤ 1000; omega
  | some l, h => by
    have := h l rfl
    show 1 + (1 + ((1 + sizeAll (l.map natD)) + 0)) ≤ 1000
    rw [size_row]
    omega
def pairsL (T : Nat → Nat → Bool) (n : Nat) : List (Nat × Nat) := (List.range n).flatMap fun a => ((List.range a).filter (T a)).map fun b => (a, b)
def dupB (T : Nat → Nat → Bool) (n : Nat) (row : List Nat) : Bool := (pairsL T n).any fun p => decide (row.getD p.1 0 = row.getD p.2 0)
theorem pairsL_mem {T : Nat → Nat → Bool} {n : Nat} {p : Nat × Nat} : p ∈ pairsL T n ↔ p.1 < n ∧ p.2 < p.1 ∧ T p.1 p.2 = true := by
  unfold pairsL
  rw [List.mem_flatMap]
  constructor
  · rintro ⟨a, ha, hp⟩
    obtain ⟨b, hb, rfl⟩ := List.mem_map.mp hp
    obtain ⟨h1, h2⟩ := List.mem_filter.mp hb
    exact ⟨List.mem_range.mp ha, List.mem_range.mp h1, h2⟩
  · rintro ⟨h1, h2, h3⟩
    exact ⟨p.1, List.mem_range.mpr h1, List.mem_map.mpr ⟨p.2, List.mem_filter.mpr ⟨List.mem_range.mpr h2, h3⟩, rfl⟩⟩
def pairD (p : Nat × Nat) : PyData := .tuple [natD p.1, natD p.2]
def sameAt (row : List Nat) : PyData → Bool
  | .tuple [.int a, .int b] => decide (row.getD a.toNat 0 = row.getD b.toNat 0)
  | _ => false
noncomputable def holdsB (T : Nat → Nat → Bool) (n : Nat) (c : PyData) (row : List Nat) (s : Str) (o : Option (List Nat)) : Bool := match claimI c with
  | none => false
  | some i => placesB (rowD row) n i && (!dupB T n row && (decide (0 ≤ i) && showsB T n i.toNat s o))
def pre_fh : PrX := fun ds Post Ex => ∃ d c p, ds = [d, c, p] ∧ fit d = true ∧ (evsOf d = none → Ex d) ∧ ∀ es, evsOf d = some es → esN es ≤ 900 ∧ sizeD c ≤ 100000 ∧ ∃ row s o, p = .tuple [rowD row, valD s o] ∧ row.length ≤ 900 ∧ PyData.strOk s = true ∧ (∀ l, o = some l → l.length ≤ 900) ∧
  Post (.bool (holdsB (esT es) (esN es) c row s o))
section
variable {K : Fg} {σ : L2.St} {H : Hp} {te : TE} {wi : TI} {g : TG}
theorem ev_anyW {ds : List PyData} {vs : List Nat} (h : EvW K Same wi σ H ds) (f : PyData → Bool) (hz : ds.length ≤ 1000000)
    (hb : ∀ d ∈ ds, ∀ v H1, Same H H1 → Is K H1 v d → ∀ R : L2.St → Hp → Prop, (∀ σ2, wipe σ2 vs = wipe σ vs → Ev te σ2 H1 (IsD K (.bool (f d))) → R σ2 H1) → g v (wipe σ vs) H1 R) : Ev (tCB (rAny K) (tCons (tLc wi g tYes te vs) tNil)) σ H (IsD K (.bool (ds.any f))) := by
  refine ev_is (ev_any (bs := ds.map f) (ev_is (el_lcW h (fun _ => true) (fun d => .bool (f d)) hz (fun d hd v H1 e hv R k => hb d hd v H1 e hv R fun σ2 hw he => k σ2 hw et_yes fun _ => he) (fun _ _ _ => rfl)).ev ?_)) ?_
  · rw [List.filter_eq_self.mpr (fun _ _ => rfl), List.map_map]
    rfl
  · rw [List.any_map]
    rfl
end
theorem pairs_len {T : Nat → Nat → Bool} {n : Nat} : (pairsL T n).length ≤ n * n := by
  unfold pairsL
  refine Nat.le_trans (flatMap_le _ n _ fun a ha => ?_) ?_
  · rw [List.length_map]
    refine Nat.le_trans (List.length_filter_le _ _) ?_
    rw [List.length_range]
    exact Nat.le_of_lt (List.mem_range.mp ha)
  · rw [List.length_range]
    exact Nat.le_refl _
section
variable {P : Program} {w : World} {K : Fg} {mg : Str → Option Value} {base : Heap} {f : Addr} {fd : FuncData} {C : Addr}
/-- slots: events 0, claim 1, paper 2, table 3, pairs 4, a 5, b 6 -/
theorem sc_fewest_holds : FnScope ["events", "claim", "paper", "table", "pairs", "a", "b"] ["events", "claim", "paper"] (defScope s_fewest_holds) := ⟨rfl, rfl, rfl, by decide +kernel, rfl, by decide +kernel, by decide +kernel⟩
theorem ok_fewest_holds (F : Fun K "fewest_holds" "fewest_holds" s_fewest_holds f fd) (B : Blt mg) (G_table_of : Fn P w K mg base (L2.CX P w) 6 "table_of" ["events"] (SpR K C pre_table)) (G_is_plain : Fn P w K mg base CX0 2 "is_plain" ["value"] (SpD K pre_plain))
    (G_is_kind : Fn P w K mg base CX0 1 "is_kind" ["value", "word", "many"] (SpD K pre_kind)) (G_is_integer_core_looking : Fn P w K mg base CX0 1 "is_integer_core_looking" ["value"] (SpD K pre_isI)) (G_are_places : Fn P w K mg base CX0 3 "are_places" ["value", "many", "most"] (SpD K pre_places))
    (G_shows_least : Fn P w K mg base CX0 4 "shows_least" ["table", "k", "value"] (SpD K pre_shows)) : FnOk P w K mg base (L2.CX P w) 7 f fd ["events", "claim", "paper"] (SpR K C pre_fh) := by
  refine F.okX sc_fewest_holds (spr_len fun ds Post Ex h => by obtain ⟨d, c, p, rfl, _⟩ := h; rfl) (fun cdv A outer s H vs Q E hr h => ?_)
  obtain ⟨ds, Post, Ex, a, ⟨d, c, p, rfl, hf, hx, hp⟩, q, qx⟩ := h
  refine ⟨_, (pss_cons (ps_set (i := 3) sc_fewest_holds.nd rfl (Or.inr rfl) (pe_fnE G_table_of (hr.mono (by decide)) (by rfl) passX (pa_cons (pv 0) pa_nil)))
      (pss_cons (ps_if (PW.pt (pw_or (pt_not (pt_val (pe_fn G_is_plain (hr.mono (by decide)) (by rfl) pass0 (pa_cons (pv 1) pa_nil)))) (pw_or (pt_not (pt_val (pe_fn G_is_plain (hr.mono (by decide)) (by rfl) pass0 (pa_cons (pv 2) pa_nil)))) (pw_or (pt_not (pt_val (pe_fn G_is_kind (hr.mono (by decide)) (by rfl) pass0 (pa_cons (pv 1) (pa_cons pe_str (pa_cons pe_int pa_nil)))))) (pw_or1 (pt_not (pt_val (pe_fn G_is_integer_core_looking (hr.mono (by decide)) (by rfl) pass0 (pa_cons (pe_ix (ix_K (K := K) rfl) (pv 1) pe_int (fun _ _ => rfl)) pa_nil))))))))) (pss_one (ps_ret pe_bl)) pss_nil)
      (pss_cons (ps_if (PW.pt (pw_or (pt_not (pt_val (pe_callB (isi_K (K := K) rfl) (by rfl) B.isinstance (by decide +kernel) (pa_cons (pv 2) (pa_cons (pe_bltn (v := .ty "tuple") (by rfl) B.tuple (by decide +kernel) rfl) pa_nil))))) (pw_or (pt_cmpR (op_neK (K := K) rfl hr.units) (pe_callB (len_K (K := K) rfl) (by rfl) B.len PySem.boot_len (pa_cons (pv 2) pa_nil)) pe_int (nomark _)) (pw_or1 (pt_not (pt_val (pe_fn G_are_places (hr.mono (by decide)) (by rfl) pass0 (pa_cons (pe_ix (ix_K (K := K) rfl) (pv 2) pe_int (fun _ _ => rfl)) (pa_cons (pe_callB (len_K (K := K) rfl) (by rfl) B.len PySem.boot_len (pa_cons (pv 3) pa_nil)) (pa_cons (pe_ix (ix_K (K := K) rfl) (pv 1) pe_int (fun _ _ => rfl)) pa_nil)))))))))) (pss_one (ps_ret pe_bl)) pss_nil)
      (pss_cons (ps_setLc2 (own := [("a", 5), ("b", 6)]) (vs1 := [6]) (i := 4) rfl sc_fewest_holds.nd rfl rfl (sw_true rfl rfl rfl (by decide +kernel)) (pi_range1 (by rfl) B.range (pa_cons (pe_callB (len_K (K := K) rfl) (by rfl) B.len PySem.boot_len (pa_cons (pv 3) pa_nil)) pa_nil)) (blkOk_by (own := [("a", 5), ("b", 6)]) (N := ["events", "claim", "paper", "table", "pairs", "a", "b"]) (sc := (defScope s_fewest_holds)) (by decide +kernel)) (by decide) (fun _ _ _ _ _ => (pg_name (i := 5) sc_fewest_holds.nd rfl (Or.inl rfl))) (fun _ _ _ _ _ => pts_nil) (fun _ _ _ _ _ => (pi_range1 (by rfl) B.range (pa_cons (pv 5) pa_nil))) (fun _ _ _ _ _ => (pg_name (i := 6) sc_fewest_holds.nd rfl (Or.inl rfl))) (fun _ _ _ _ _ => (pts_one (pt_val (pe_ix (ix_K (K := K) rfl) (pe_ix (ix_K (K := K) rfl) (pv 3) (pv 5) (fun _ _ => rfl)) (pv 6) (fun _ _ => rfl))))) (fun _ _ _ _ _ => (pe_tup (pa_cons (pv 5) (pa_cons (pv 6) pa_nil)))))
      (pss_cons (ps_if (pt_val (pe_callB (any_K (K := K) rfl rfl) (by rfl) B.any (by decide +kernel) (pa_cons (pe_lc (own := [("a", 5), ("b", 6)]) rfl sc_fewest_holds.nd (seq_K (K := K) rfl (pv 4)) (blkOk_by (own := [("a", 5), ("b", 6)]) (N := ["events", "claim", "paper", "table", "pairs", "a", "b"]) (sc := (defScope s_fewest_holds)) (by decide +kernel)) (fun _ _ _ _ _ => (tupg_K (K := K) (n := 2) rfl rfl (pgs_cons (pg_name (i := 5) sc_fewest_holds.nd rfl (Or.inl rfl)) (pgs_cons (pg_name (i := 6) sc_fewest_holds.nd rfl (Or.inl rfl)) pgs_nil)))) (fun _ _ _ _ _ => pts_nil) (fun _ _ _ _ _ => (pe_cmpR (op_eqK (K := K) rfl hr.units) (pe_ix (ix_K (K := K) rfl) (pe_ix (ix_K (K := K) rfl) (pv 2) pe_int (fun _ _ => rfl)) (pv 5) (fun _ _ => rfl)) (pe_ix (ix_K (K := K) rfl) (pe_ix (ix_K (K := K) rfl) (pv 2) pe_int (fun _ _ => rfl)) (pv 6) (fun _ _ => rfl)) (nomark _)))) pa_nil))) (pss_one (ps_ret pe_bl)) pss_nil)
      (pss_one (ps_ret (pe_and (pe_cmpR op_ge (pe_ix (ix_K (K := K) rfl) (pv 1) pe_int (fun _ _ => rfl)) pe_int (nomark _)) (pe_one (pe_fn G_shows_least (hr.mono (by decide)) (by rfl) pass0 (pa_cons (pv 3) (pa_cons (pe_ix (ix_K (K := K) rfl) (pv 1) pe_int (fun _ _ => rfl)) (pa_cons (pe_ix (ix_K (K := K) rfl) (pv 2) pe_int (fun _ _ => rfl)) pa_nil))))))))))))), ?_⟩
  obtain ⟨v, vc, vp, rfl, hv, hc, hpv⟩ := all3 a
  refine q_asg (ev_callR (K := K) (Post := fun t => ∃ es, evsOf d = some es ∧ t = tabOf es) (Ex := Ex) (ea1 (ev_var rfl hv)) ⟨d, rfl, hf, fun es hes => ⟨es, hes, rfl⟩, hx⟩ qx) fun vt H1 e1 ⟨t, ⟨es, hes, ht⟩, hvt⟩ => ?_
  subst ht
  obtain ⟨hn, hsc, row, s, o, rfl, hrow, hso, ho, hpost⟩ := hp es hes
  generalize hT : esT es = T at hpost
  generalize hN : esN es = n at hpost hn
  have et : tabOf es = tabT T n := by rw [← hT, ← hN]; rfl
  rw [et] at hvt
  have elen : (((List.range n).map (rowT T n)).length : Int) = (n : Int) := by rw [List.length_map, List.length_range]
  have hc1 := hc.mono e1
  have hp1 := hpv.mono e1
  have hplain : plainB (.tuple [rowD row, valD s o]) = true := by
    show (plainAll (row.map natD) && (plainB (valD s o) && true)) = true
    rw [plain_row, plain_val] <;> rfl
  have hsp : sizeD (.tuple [rowD row, valD s o]) ≤ 100000 := by
    have h1 := size_val s o ho
    show 1 + ((1 + sizeAll (row.map natD)) + (sizeD (valD s o) + 0)) ≤ 100000
    rw [size_row]
    omega
  refine q_when (b := (claimI c).isNone) (et_is (et_or (a := !plainB c) (b := !kindB c "stacks" 1 || !isI (snd2 c)) (et_not (et_B (ev_callF (ea1 (ev_var rfl hc1)) ⟨c, rfl, hsc, rfl⟩))) fun _ => et_is (et_or (a := false) (b := !kindB c "stacks" 1 || !isI (snd2 c)) (et_is (et_not (et_B (ev_callF (z := .bool true) (ea1 (ev_var rfl hp1)) ⟨_, rfl, hsp, by rw [hplain]⟩))) rfl) fun _ =>
    et_or (a := !kindB c "stacks" 1) (b := !isI (snd2 c)) (et_not (et_B (ev_callF (ea_cons (ev_var rfl hc1) (ea2 ev_str ev_int)) ⟨c, "stacks", 1, rfl, rfl⟩))) fun hk => ?_) rfl) (claim_none c)) (fun hb H2 e2 => ?_) (fun hb H2 e2 => ?_)
  · rw [Bool.not_eq_false'] at hk
    obtain ⟨x, rfl⟩ := kind_some hk
    exact et_not (et_B (ev_callF (ea1 (ev_op (ev_var rfl hc1) ev_int (rd_ix (d := x) (.inr rfl) (atI_n (j := 1) rfl rfl)))) ⟨x, rfl, rfl⟩))
  · have e0 : holdsB T n c row s o = false := by
      unfold holdsB
      cases hcl : claimI c with
      | none => rfl
      | some i => rw [hcl] at hb; cases hb
    exact s_retB (K := K) e0.symm fun u H3 e3 hu => q _ u H3 hpost (e1.trans (e2.trans e3)) hu
  · obtain ⟨i, hi⟩ : ∃ i, claimI c = some i := by
      cases hcl : claimI c with
      | none => rw [hcl] at hb; cases hb
      | some i => exact ⟨i, rfl⟩
    have ec := claim_some hi
    subst ec
    have eh : holdsB T n (.tuple [.str "stacks", .int i]) row s o = (placesB (rowD row) n i && (!dupB T n row && (decide (0 ≤ i) && showsB T n i.toNat s o))) := by
      unfold holdsB
      rw [hi]
    rw [eh] at hpost
    have gc : ∀ {H3} (e : Same H2 H3) {σ : L2.St}, σ[1]? = some (some vc) → Ev (tOp (rIx K) (tVar 1) (tC (.int 1))) σ H3 (IsD K (.int i)) := fun {H3} e {σ} hσ => ev_op (ev_var hσ ((hc1.mono e2).mono e)) ev_int (rd_ix (.inr rfl) (atI_n (j := 1) rfl rfl))
    have g0 : ∀ {H3} (e : Same H2 H3) {σ : L2.St}, σ[2]? = some (some vp) → Ev (tOp (rIx K) (tVar 2) (tC (.int 0))) σ H3 (IsD K (rowD row)) := fun {H3} e {σ} hσ => ev_op (ev_var hσ ((hp1.mono e2).mono e)) ev_int (rd_ix (.inr rfl) (atI_n (j := 0) rfl rfl))
    have g1 : ∀ {H3} (e : Same H2 H3) {σ : L2.St}, σ[2]? = some (some vp) → Ev (tOp (rIx K) (tVar 2) (tC (.int 1))) σ H3 (IsD K (valD s o)) := fun {H3} e {σ} hσ => ev_op (ev_var hσ ((hp1.mono e2).mono e)) ev_int (rd_ix (.inr rfl) (atI_n (j := 1) rfl rfl))
    have ht2 := hvt.mono e2
    refine q_when (b := !placesB (rowD row) n i) (et_is (et_or (a := false) (b := !placesB (rowD row) n i) (et_is (et_not (et_B (ev_isTup (ev_var rfl (hp1.mono e2))))) rfl) fun _ => et_is (et_or (a := false) (b := !placesB (rowD row) n i) (et_is (et_test (ev_op (ev_lenT (ev_var rfl (hp1.mono e2))) ev_int rd_neI)) rfl) fun _ =>
      et_not (et_B (ev_callF (ea_cons (g0 (Same.refl _) rfl) (ea2 (ev_is (ev_lenL (ev_var rfl ht2)) (by rw [elen])) (gc (Same.refl _) rfl))) ⟨_, n, i, rfl, fun ds e => by cases e; rw [List.length_map]; omega, rfl⟩))) rfl) rfl) (fun hb2 H3 e3 => ?_) (fun hb2 H3 e3 => ?_)
    · rw [Bool.not_eq_true'] at hb2
      rw [hb2, Bool.false_and] at hpost
      exact s_retB (K := K) rfl fun u H4 e4 hu => q _ u H4 hpost (e1.trans (e2.trans (e3.trans e4))) hu
    · rw [Bool.not_eq_false'] at hb2
      rw [hb2, Bool.true_and] at hpost
      have hrl : row.length = n := by
        have h2 : (decide ((row.map natD).length = n) && _) = true := hb2
        rw [Bool.and_eq_true] at h2
        have := of_decide_eq_true h2.1
        rw [List.length_map] at this
        exact this
      have hnn : n * 900 ≤ 900000 := by omega
      have intm : ∀ {m : Nat} {d : PyData}, d ∈ (List.range m).map (fun (j : Nat) => PyData.int (j : Int)) → ∃ j, j < m ∧ d = natD j := fun h => by
        obtain ⟨j, hj, rfl⟩ := List.mem_map.mp h
        exact ⟨j, List.mem_range.mp hj, rfl⟩
      refine q_asgL (el_lc2W 900 (ew_rng1 (C := Same) (n := n) (ea1 (ev_is (ev_lenL (ev_var rfl (ht2.mono e3))) (by rw [elen]))) (by omega) (by omega) (by omega)) (fun d => (List.range (intN d)).map fun (j : Nat) => .int (j : Int)) (fun d d1 => T (intN d) (intN d1)) (fun d d1 => .tuple [d, d1]) (fun d hd => ?_) (by rw [List.length_map, List.length_range]; exact hnn) (by decide) (fun d hd y H4 e4 hy R k => ?_) (fun d hd d1 hd1 _ => ?_)) fun l xs H4 hl e4 h4 a4 => ?_
      · obtain ⟨j, hj, rfl⟩ := intm hd
        rw [List.length_map, List.length_range]
        show ((j : Int)).toNat ≤ 900
        omega
      · obtain ⟨a, ha, rfl⟩ := intm hd
        refine g_nm (k _ rfl (ew_rng1 (n := a) (ea1 (ev_var rfl hy)) (by omega) (by omega) (by omega)) fun d1 hd1 y1 H5 e5 hy1 R1 k1 => ?_)
        obtain ⟨b, hb, rfl⟩ := intm hd1
        have hb : b < a := hb
        cases hy
        refine g_nm (k1 _ rfl (et_test (ev_op (ev_op (ev_var rfl ((ht2.mono e3).mono e5)) (ev_var rfl (.int _)) (rd_tab ha)) (ev_var rfl hy1) (rd_row (by omega)))) fun _ => ev_tup (ea2 (ev_var rfl (.int _)) (ev_var rfl hy1)) (by show 2 ≤ 100000; decide))
      · obtain ⟨a, ha, rfl⟩ := intm hd
        obtain ⟨b, hb, rfl⟩ := intm hd1
        rfl
      · have efl : flat2 (fun d => (List.range (intN d)).map fun (j : Nat) => .int (j : Int)) (fun d d1 => T (intN d) (intN d1)) (fun d d1 => .tuple [d, d1]) ((List.range n).map fun (i : Nat) => .int (i : Int)) = (pairsL T n).map pairD := by
          unfold flat2 pairsL
          rw [List.flatMap_map, List.map_flatMap]
          apply flatMap_congr
          intro a _
          show ((((List.range a).map fun (j : Nat) => PyData.int (j : Int)).filter _).map _) = _
          rw [List.filter_map, List.map_map, List.map_map]
          rfl
        rw [efl] at a4
        have hlp : ((pairsL T n).map pairD).length ≤ 1000000 := by
          rw [List.length_map]
          refine Nat.le_trans pairs_len ?_
          have : n * n ≤ 900 * 900 := Nat.mul_le_mul hn hn
          omega
        have hl4 : Is K H4 (.ref l) (.list ((pairsL T n).map pairD)) := .lst h4 a4
        refine q_when (b := dupB T n row) (et_is (et_B (ev_anyW (ew_seq (.inl rfl) (ev_var rfl hl4)) (sameAt row) hlp (fun d hd y H5 e5 hy R k => ?_))) ?_) (fun hb3 H5 e5 => ?_) (fun hb3 H5 e5 => ?_)
        · obtain ⟨⟨a, b⟩, hab, rfl⟩ := List.mem_map.mp hd
          obtain ⟨h1, h2, _⟩ := pairsL_mem.mp hab
          have h1 : a < n := h1
          have h2 : b < a := h2
          refine g_tup2 hy fun p1 p2 hp1' hp2' => k _ rfl ?_
          have ia : (row.map natD)[a]? = some (natD (row.getD a 0)) := by
            rw [List.getElem?_map, List.getElem?_eq_getElem (by omega), List.getD_eq_getElem?_getD, List.getElem?_eq_getElem (by omega)]
            rfl
          have ib : (row.map natD)[b]? = some (natD (row.getD b 0)) := by
            rw [List.getElem?_map, List.getElem?_eq_getElem (by omega), List.getD_eq_getElem?_getD, List.getElem?_eq_getElem (by omega)]
            rfl
          refine ev_is (ev_op (ev_op (g0 ((e3.trans e4).trans e5) rfl) (ev_var rfl hp1') (rd_ix (.inr rfl) (atI_n rfl ia))) (ev_op (g0 ((e3.trans e4).trans e5) rfl) (ev_var rfl hp2') (rd_ix (.inr rfl) (atI_n rfl ib))) rd_eqI) ?_
          show PyData.bool _ = .bool (decide (row.getD a 0 = row.getD b 0))
          congr 1
          rw [decide_eq_decide]
          omega
        · rw [List.any_map]
          rfl
        · rw [hb3, Bool.not_true, Bool.false_and] at hpost
          exact s_retB (K := K) rfl fun u H6 e6 hu => q _ u H6 hpost (e1.trans (e2.trans (e3.trans (e4.trans (e5.trans e6))))) hu
        · rw [hb3, Bool.not_false, Bool.true_and] at hpost
          have e5' := (e3.trans e4).trans e5
          refine s_retD (ev_andV (a := decide (0 ≤ i)) (b := showsB T n i.toNat s o) (ev_op (gc e5' rfl) ev_int rd_ge) fun h0 => ?_) rfl fun u H6 e6 hu => q _ u H6 hpost (e1.trans (e2.trans (e5'.trans e6))) hu
          have h0 := of_decide_eq_true h0
          exact ev_callF (ea_cons (ev_var rfl (ht2.mono e5')) (ea2 (ev_is (gc e5' rfl) (by show PyData.int i = .int ((i.toNat : Nat) : Int); congr 1; omega)) (g1 e5' rfl))) ⟨T, n, i.toNat, s, o, rfl, hn, ho, hso, rfl⟩
end
end K33

set_option Elab.async false
set_option linter.all false
set_option maxRecDepth 100000
set_option maxHeartbeats 4000000
/-! the law's own defs: cells, rows, names. -/
namespace K33
open PySem PySem.Spec PyProof.Rows L2
/-- the script, a list of ints -/
def Scr (K : Fg) (H : Hp) (v : V) (ns : List Int) : Prop := ∃ a, v = .ref a ∧ SqL K H a (ns.map V.int)
theorem Scr.mono {K : Fg} {H H' : Hp} {v : V} {ns : List Int} (e : Same H H') (h : Scr K H v ns) : Scr K H' v ns := let ⟨a, b, c⟩ := h; ⟨a, b, e.seq c⟩
def cellI (ns : List Int) (k : Nat) : Int := ns.getD k 0
def spCell (K : Fg) : Sp := fun vs H Q _ => ∃ v ns, ∃ k : Nat, vs = [v, .int k] ∧ Scr K H v ns ∧ ∀ w H', Same H H' → Is K H' w (.int (cellI ns k)) → Q w H'
def pre_row : Pr := fun ds Post => ∃ c : Int, ∃ m : Nat, ∃ b s : Int, ds = [.int c, .int m, .int b, .int s] ∧ m ≤ 100 ∧ 0 < b ∧ b < 1000000 ∧ ∀ ns : List Int, ns.length = m → (∀ x ∈ ns, 0 ≤ x ∧ x < b) → Post (.list (ns.map .int))
def Names (ns : List Str) : Prop := ns.length = 6 ∧ ns.Nodup ∧ ∀ s ∈ ns, nameS s = true
def pre_names : Pr := fun ds Post => ∃ c s : Int, ds = [.int c, .int s, .int 6] ∧ ∀ ns, Names ns → Post (.list (ns.map .str))
/-- of an empty tuple a new empty list -/
def spNil (K : Fg) : Sp := fun vs H Q _ => ∃ v, vs = [v] ∧ Is K H v (.tuple []) ∧ ∀ p H', H p = none → Same H H' → H' p = some (.lst []) → Q (.ref p) H'
theorem abc_get {i : Nat} (h : i < 26) : abc.cps.toList[i]? = some (97 + i) := by
  have : ∀ i < 26, abc.cps.toList[i]? = some (97 + i) := by decide +kernel
  exact this i h
theorem abc_mem {c : Nat} (h : 97 ≤ c ∧ c < 123) : c ∈ abc.cps.toList := by
  have := abc_get (i := c - 97) (by omega)
  have e : 97 + (c - 97) = c := by omega
  rw [e] at this
  exact List.mem_of_getElem? this
theorem nameS_of {l : List Nat} (h : Low l) (h1 : 1 ≤ l.length) (h2 : l.length ≤ 8) : nameS (S l) = true := by
  unfold nameS
  rw [S_len, S_list, decide_eq_true (by omega), decide_eq_true (by omega), Bool.true_and, Bool.true_and, List.all_eq_true]
  exact fun c hc => decide_eq_true (abc_mem (h c hc))
theorem names_of {h t : List Nat} {a st : Nat} {o : Option Nat} (hs : st ∈ [1, 3, 5, 7, 9, 11]) (hh : Low h) (ht : Low t) (lh : h.length ≤ 2) (lt : t.length ≤ 3) (ho : ∀ m, o = some m → 97 ≤ m ∧ m < 123) : Names ((names6 h t a st o).map S) := by
  obtain ⟨h1, h2⟩ := names6_ok (a := a) hs hh ht lh lt ho
  refine ⟨by rw [List.length_map, names6_len], ?_, fun s hs => ?_⟩
  · show ((names6 h t a st o).map S).Pairwise (· ≠ ·)
    rw [List.pairwise_map]
    exact h1.imp fun hne e => hne (S_inj e)
  · obtain ⟨x, hx, rfl⟩ := List.mem_map.mp hs
    obtain ⟨a1, a2, a3⟩ := h2 x hx
    exact nameS_of a1 a2 a3
section
variable {K : Fg} {σ : L2.St} {H : Hp} {te ta tb : TE}
/-- letters[e % 26] -/
theorem ev_let {i : Int} {z : Nat} (h1 : Ev ta σ H (IsD K (.str abc))) (h2 : Ev tb σ H (IsD K (.int i))) (hz : i = (z : Int)) : Ev (tOp (rIx K) ta (tOp (rI (fun _ j => 0 < j) fun i j => .int (i % j)) (tCB rInt1 (tCons tb tNil)) (tC (.int 26)))) σ H (IsD K (.str (S [97 + z % 26]))) := by
  subst hz
  refine ev_op h1 (ev_op (ev_intI h2) ev_int (rd_mod (by decide))) (rd_ixS (c := 97 + z % 26) (by decide +kernel) (atI_n (j := z % 26) (by omega) (abc_get (Nat.mod_lt _ (by decide)))))
end
section
variable {P : Program} {w : World} {K : Fg} {mg : Str → Option Value} {base : Heap} {f : Addr} {fd : FuncData} {C : Addr}
/-- slots: _script 0, _k 1 -/
theorem sc_law_cell : FnScope ["_law_script", "_law_k"] ["_law_script", "_law_k"] (defScope s_law_cell) := ⟨rfl, rfl, rfl, by decide +kernel, rfl, by decide +kernel, by decide +kernel⟩
theorem ok_law_cell (F : Fun K "_law_cell" "_law_cell" s_law_cell f fd) (B : Blt mg) : FnOk P w K mg base CX0 1 f fd ["_law_script", "_law_k"] (spCell K) := by
  refine F.ok sc_law_cell (fun vs H Q E h => by obtain ⟨v, ns, k, rfl, _⟩ := h; rfl) (fun cdv A outer s H vs Q E hr h => ?_)
  obtain ⟨v, ns, k, rfl, ⟨a, rfl, hs⟩, q⟩ := h
  refine ⟨_, (pss_cons (ps_if (pt_cmpR op_lt (pv 1) (pe_callB (len_K (K := K) rfl) (by rfl) B.len PySem.boot_len (pa_cons (pv 0) pa_nil)) (nomark _)) (pss_one (ps_ret (pe_ix (ix_K (K := K) rfl) (pv 0) (pv 1) (fun _ _ => rfl)))) pss_nil)
      (pss_one (ps_ret pe_int))), ?_⟩
  have hl : Ev (tCB (rLenU K) (tCons (tVar 0) tNil)) (start ["_law_script", "_law_k"] [V.ref a, .int (k : Int)]) H (IsD K (.int (ns.length : Int))) := fun H1 e Q q =>
    ⟨.ref a, rfl, .ref a, ns.length, rfl, .inl ⟨ns.map V.int, e.seq hs, (List.length_map V.int).symm⟩, q _ H1 (Same.refl _) (.int _)⟩
  refine q_when (b := decide ((k : Int) < (ns.length : Int))) (et_test (ev_op (ev_var rfl (.int _)) hl rd_lt)) (fun hb H1 e1 => ?_) (fun hb H1 e1 => ?_)
  · have hk : k < ns.length := by simpa using hb
    have hg : ns[k]? = some (cellI ns k) := by
      unfold cellI
      rw [List.getD_eq_getElem?_getD, List.getElem?_eq_getElem hk]
      rfl
    refine s_ret (P := IsD K (.int (cellI ns k))) (fun H2 e2 Q2 k2 => ⟨.ref a, rfl, .int (k : Int), rfl, .inl ⟨a, ns.map V.int, (k : Int), .int (cellI ns k), rfl, rfl, (e1.trans e2).seq hs, atI_n rfl (by rw [List.getElem?_map, hg]; rfl), k2 _ H2 (Same.refl _) (.int _)⟩⟩) fun u H2 e2 hu => q u H2 (e1.trans e2) hu
  · have e0 : cellI ns k = 0 := by
      have hk : ¬ k < ns.length := by simpa using hb
      unfold cellI
      rw [List.getD_eq_getElem?_getD, List.getElem?_eq_none (by omega)]
      rfl
    rw [e0] at q
    exact s_ret (P := IsD K (.int 0)) ev_int fun u H2 e2 hu => q u H2 (e1.trans e2) hu
/-- slots: _cell_here 0, _many 1, _base 2, _salt 3, _row_here 4, _left 5, _k 6, _first 7, _second 8 -/
theorem sc_law_row : FnScope ["_law_cell_here", "_law_many", "_law_base", "_law_salt", "_law_row_here", "_law_left", "_law_k", "_law_first", "_law_second"] ["_law_cell_here", "_law_many", "_law_base", "_law_salt"] (defScope s_law_row) := ⟨rfl, rfl, rfl, by decide +kernel, rfl, by decide +kernel, by decide +kernel⟩
theorem ok_law_row (F : Fun K "_law_row" "_law_row" s_law_row f fd) (B : Blt mg) : FnOk P w K mg base CX0 1 f fd ["_law_cell_here", "_law_many", "_law_base", "_law_salt"] (SpD K pre_row) := by
  refine F.ok sc_law_row (spd_len fun ds Post h => by obtain ⟨c, m, b, s, rfl, _⟩ := h; rfl) (fun cdv A outer s H vs Q E hr h => ?_)
  obtain ⟨ds, Post, a, ⟨c, m, b, sl, rfl, hm, hb0, hb1, hp⟩, q⟩ := h
  refine ⟨_, (pss_cons (ps_set (i := 4) sc_law_row.nd rfl (Or.inl rfl) (pe_lst pa_nil))
      (pss_cons (ps_set (i := 5) sc_law_row.nd rfl (Or.inl rfl) pe_int)
      (pss_cons (ps_if (pt_cmpR op_ge (pv 0) (pe_op op_pow pe_int pe_int) (nomark _)) (pss_one (ps_set (i := 5) sc_law_row.nd rfl (Or.inl rfl) (pv 0))) pss_nil)
      (pss_cons (ps_for PassesOwn.never rfl (pi_range1 (by rfl) B.range (pa_cons (pv 1) pa_nil)) (pg_name (i := 6) sc_law_row.nd rfl (Or.inl rfl)) (pss_one (ps_if (pt_cmpR op_gt (pv 5) pe_int (nomark _)) (pss_cons (ps_expr (bm_K (K := K) rfl PySem.F.plainAttrs_list PySem.F.slot_list_append PySem.F.type_list_append mt_append (pv 4) (pa_cons (pe_op op_mod (pe_callTy call_intU (by rfl) B.int (by decide +kernel) (pa_cons (pv 5) pa_nil)) (pv 2)) pa_nil)))
      (pss_one (ps_set (i := 5) sc_law_row.nd rfl (Or.inl rfl) (pe_op op_fdiv (pv 5) (pv 2))))) (pss_cons (ps_set (i := 7) sc_law_row.nd rfl (Or.inl rfl) (pe_op op_mod (pe_callTy call_intU (by rfl) B.int (by decide +kernel) (pa_cons (pe_op (op_addK (K := K) rfl) (pe_op (op_addK (K := K) rfl) (pe_op op_mulU (pv 0) pe_int) (pe_op op_mulU (pv 6) pe_int)) (pv 3)) pa_nil)) pe_int))
      (pss_cons (ps_set (i := 8) sc_law_row.nd rfl (Or.inl rfl) (pe_op op_mod (pe_callTy call_intU (by rfl) B.int (by decide +kernel) (pa_cons (pe_op (op_addK (K := K) rfl) (pe_op (op_addK (K := K) rfl) (pe_op op_mulU (pv 7) (pv 7)) (pv 0)) (pe_op op_mulU (pv 6) pe_int)) pa_nil)) pe_int))
      (pss_one (ps_expr (bm_K (K := K) rfl PySem.F.plainAttrs_list PySem.F.slot_list_append PySem.F.type_list_append mt_append (pv 4) (pa_cons (pe_op op_mod (pe_callTy call_intU (by rfl) B.int (by decide +kernel) (pa_cons (pe_op op_fdiv (pe_op (op_addK (K := K) rfl) (pe_op op_mulU (pv 8) pe_int) (pv 7)) pe_int) pa_nil)) (pv 2)) pa_nil)))))))))
      (pss_one (ps_ret (pv 4))))))), ?_⟩
  obtain ⟨v1, v2, v3, v4, rfl, h1, h2, h3, h4⟩ := all4 a
  cases h1
  cases h2
  cases h3
  cases h4
  refine q_asgL (K := K) (el_lst ea_nil (by decide)) fun l xs0 H0 hl e0 h0 a0 => ?_
  cases a0
  refine q_asg (P := fun v _ => v = .int 0) (fun H1 e Q q => q _ H1 (Same.refl _) rfl) fun v0 H1 e1 hv0 => ?_
  subst hv0
  have iI : ∀ {σ : L2.St} {H : Hp} {i : Nat} {n : Int}, σ[i]? = some (some (.int n)) → Ev (tVar i) σ H (IsD K (.int n)) := fun h => ev_var h (.int _)
  refine q_whenJ (fun σ' H' => ∃ z : Int, σ' = [some (.int c), some (.int m), some (.int b), some (.int sl), some (.ref l), some (.int z), none, none, none] ∧ Same H H' ∧ H' l = some (.lst []) ∧ 0 ≤ z) (b := decide ((10 : Int) ^ (18 : Int).toNat ≤ c)) (et_test (ev_op (iI rfl) (ev_op ev_int ev_int (rd_pow ⟨by decide, by decide, by decide⟩)) rd_ge)) (fun hb H2 e2 N hN => s_asg (P := fun v _ => v = .int c) (ev_slot rfl) fun v H3 e3 hv => ?_) (fun hb H2 e2 => ⟨0, rfl, (e0.trans e1).trans e2, (e1.trans e2) _ _ h0, Int.le_refl _⟩) ?_
  · subst hv
    have hb := of_decide_eq_true hb
    have : (0 : Int) ≤ 10 ^ (18 : Int).toNat := by decide
    exact hN _ _ ⟨c, rfl, ((e0.trans e1).trans e2).trans e3, ((e1.trans e2).trans e3) _ _ h0, by omega⟩
  · rintro σ' H2 ⟨z0, rfl, e2, h2, hz0⟩
    refine q_forW (C := fun _ _ => True) (ew_rng1 (n := m) (ea1 (iI rfl)) (by omega) (by omega) (by omega)) fun H3 e3 => ⟨fun i σ' H' => ∃ (z : Int) (x6 x7 x8 : Option V) (ns : List Int), σ' = [some (.int c), some (.int m), some (.int b), some (.int sl), some (.ref l), some (.int z), x6, x7, x8] ∧ 0 ≤ z ∧ Same H H' ∧ H' l = some (.lst (ns.map V.int)) ∧ ns.length = i ∧ ∀ x ∈ ns, 0 ≤ x ∧ x < b,
      ⟨z0, none, none, none, [], rfl, hz0, e2.trans e3, e3 _ _ h2, rfl, fun x hx => by cases hx⟩, fun _ _ _ _ => True.intro, ?_, ?_⟩
    · rintro i d v σ' Ha Hb hd ⟨z, x6, x7, x8, ns, rfl, hz, ea, hl', hln, hns⟩ eb hv
      have hi : i < m := by
        have := (List.getElem?_eq_some_iff.mp hd).1
        rw [List.length_map, List.length_range] at this
        exact this
      rw [List.getElem?_map, List.getElem?_range hi] at hd
      cases hd
      cases hv
      refine g_nm ?_
      have hmod : ∀ y : Int, 0 ≤ y % b ∧ y % b < b := fun y => ⟨Int.emod_nonneg _ (by omega), Int.emod_lt_of_pos _ hb0⟩
      have push : ∀ (y : Int) {H5 : Hp}, Same H H5 → H5 l = some (.lst (ns.map V.int)) → Same H (upd H5 l (.lst (ns.map V.int ++ [.int (y % b)]))) ∧ upd H5 l (.lst (ns.map V.int ++ [.int (y % b)])) l = some (.lst ((ns ++ [y % b]).map V.int)) ∧ (ns ++ [y % b]).length = i + 1 ∧ ∀ x ∈ ns ++ [y % b], 0 ≤ x ∧ x < b := fun y H5 e5 h5 => by
        refine ⟨Same.mut e5 hl, by rw [List.map_append]; exact upd_same, by rw [List.length_append, hln]; rfl, fun x hx => ?_⟩
        rcases List.mem_append.mp hx with hx | hx
        · exact hns x hx
        · rw [List.mem_singleton.mp hx]
          exact hmod y
      have hlb := eb _ _ hl'
      refine s_if (b := decide (0 < z)) (et_test (ev_op (iI rfl) ev_int rd_gt)) (fun hb H4 e4 => ?_) (fun hb H4 e4 => ?_)
      · refine q_app (e4 _ _ hlb) (ev_slot rfl) (ev_op (ev_intI (iI rfl)) (iI rfl) (rd_mod hb0)) (by rw [List.length_map]; omega) fun u H5 e5 hu => ?_
        have := Is.intV hu
        subst this
        have hp5 := push z ((ea.trans eb).trans (e4.trans e5)) ((e4.trans e5) _ _ hlb)
        refine s_asg (ev_op (iI rfl) (iI rfl) (rd_div ⟨hb0, by omega⟩)) fun u H6 e6 hu => ?_
        have := Is.intV hu
        subst this
        exact ⟨_, _, _, _, _, rfl, Int.ediv_nonneg hz (by omega), hp5.1.trans e6, e6 _ _ hp5.2.1, hp5.2.2.1, hp5.2.2.2⟩
      · refine q_asg (ev_op (ev_intI (ev_op (ev_op (ev_op (iI rfl) ev_int (rd_mul (.inr (by decide)))) (ev_op (iI rfl) ev_int (rd_mul (.inr (by decide)))) rd_addI) (iI rfl) rd_addI)) ev_int (rd_mod (by decide))) fun u H5 e5 hu => ?_
        have := Is.intV hu
        generalize hf1 : (c * 48271 + (i : Int) * 69621 + sl) % 2147483647 = f1 at this
        subst this
        have hb1' : 0 ≤ f1 ∧ f1 < 2147483647 := by rw [← hf1]; exact ⟨Int.emod_nonneg _ (by decide), Int.emod_lt_of_pos _ (by decide)⟩
        refine q_asg (ev_op (ev_intI (ev_op (ev_op (ev_op (iI rfl) (iI rfl) (rd_mul (.inr (by omega)))) (iI rfl) rd_addI) (ev_op (iI rfl) ev_int (rd_mul (.inr (by decide)))) rd_addI)) ev_int (rd_mod (by decide))) fun u H6 e6 hu => ?_
        have := Is.intV hu
        generalize (f1 * f1 + c + (i : Int) * 40692) % 2147483629 = f2 at this
        subst this
        have e46 := (e4.trans e5).trans e6
        refine s_app (e46 _ _ hlb) (ev_slot rfl) (ev_op (ev_intI (ev_op (ev_op (ev_op (iI rfl) ev_int (rd_mul (.inr (by decide)))) (iI rfl) rd_addI) ev_int (rd_div (by decide)))) (iI rfl) (rd_mod hb0)) (by rw [List.length_map]; omega) fun u H7 e7 hu => ?_
        have := Is.intV hu
        subst this
        have hp7 := push ((f2 * 2147483647 + f1) / 16) ((ea.trans eb).trans (e46.trans e7)) ((e46.trans e7) _ _ hlb)
        exact ⟨_, _, _, _, _, rfl, hz, hp7.1, hp7.2.1, hp7.2.2.1, hp7.2.2.2⟩
    · rintro σ' H' ⟨z, x6, x7, x8, ns, rfl, hz, ea, hl', hln, hns⟩
      rw [List.length_map, List.length_range] at hln
      exact s_ret (P := IsD K (.list (ns.map .int))) (ev_var rfl (.lst hl' (AllIs.of_ints ns))) fun u H4 e4 hu => q _ u H4 (hp ns hln hns) (ea.trans e4) hu
/-- slots: _value 0 -/
theorem sc_law_is_integer : FnScope ["_law_value"] ["_law_value"] (defScope s_law_is_integer) := ⟨rfl, rfl, rfl, by decide +kernel, rfl, by decide +kernel, by decide +kernel⟩
theorem ok_law_is_integer (F : Fun K "_law_is_integer" "_law_is_integer" s_law_is_integer f fd) (B : Blt mg) : FnOk P w K mg base CX0 1 f fd ["_law_value"] (SpD K pre_isI) := by
  refine F.ok sc_law_is_integer (spd_len fun ds Post h => by obtain ⟨x, rfl, _⟩ := h; rfl) (fun cdv A outer s H vs Q E hr h => ?_)
  obtain ⟨ds, Post, a, ⟨x, rfl, hp⟩, q⟩ := h
  refine ⟨_, (pss_one (ps_ret (pe_and (pe_callB (isi_K (K := K) rfl) (by rfl) B.isinstance (by decide +kernel) (pa_cons (pv 0) (pa_cons (pe_bltn (v := .ty "int") (by rfl) B.int (by decide +kernel) rfl) pa_nil))) (pe_one (pe_not (pe_callB (isi_K (K := K) rfl) (by rfl) B.isinstance (by decide +kernel) (pa_cons (pv 0) (pa_cons (pe_bltn (v := .ty "bool") (by rfl) B.bool (by decide +kernel) rfl) pa_nil)))))))), ?_⟩
  obtain ⟨v, rfl, hv⟩ := all1 a
  exact s_retD (ev_andV (ev_isInt (ev_var rfl hv)) fun _ => ev_notV (ev_isBool (ev_var rfl hv))) (by rw [isI_eq]) fun v H1 e hv => q _ v H1 hp e hv
/-- slots: _stacks 0, _found 1, _row_here 2 -/
theorem sc_law_boxes : FnScope ["_law_stacks", "_law_found", "_law_row_here"] ["_law_stacks"] (defScope s_law_boxes) := ⟨rfl, rfl, rfl, by decide +kernel, rfl, by decide +kernel, by decide +kernel⟩
theorem ok_law_boxes (F : Fun K "_law_boxes" "_law_boxes" s_law_boxes f fd) (B : Blt mg) : FnOk P w K mg base CX0 1 f fd ["_law_stacks"] (spNil K) := by
  refine F.ok sc_law_boxes (fun vs H Q E h => by obtain ⟨v, rfl, _⟩ := h; rfl) (fun cdv A outer s H vs Q E hr h => ?_)
  obtain ⟨v, rfl, hv, q⟩ := h
  refine ⟨_, (pss_cons (ps_set (i := 1) sc_law_boxes.nd rfl (Or.inl rfl) (pe_lst pa_nil))
      (pss_cons (ps_for PassesOwn.never rfl (seq_K (K := K) rfl (pv 0)) (pg_name (i := 2) sc_law_boxes.nd rfl (Or.inl rfl)) (pss_one (ps_set (i := 1) sc_law_boxes.nd rfl (Or.inl rfl) (pe_op (op_addK (K := K) rfl) (pv 1) (pe_callTy (lst_K (K := K) rfl) (by rfl) B.list (by decide +kernel) (pa_cons (pv 2) pa_nil))))))
      (pss_one (ps_ret (pv 1))))), ?_⟩
  refine q_asgL (K := K) (el_lst ea_nil (by decide)) fun l xs0 H0 hl e0 h0 a0 => ?_
  cases a0
  refine q_forW (ew_seq (ds := []) (.inr rfl) (ev_var rfl (hv.mono e0))) fun H1 e1 => ⟨fun i σ' H' => i = 0 ∧ σ' = [some v, some (.ref l), none] ∧ Same H1 H', ⟨rfl, rfl, Same.refl _⟩, fun i σ' H' h => h.2.2, fun i d u σ' Ha Hb hd => by simp at hd, ?_⟩
  rintro σ' H' ⟨_, rfl, ea⟩
  refine s_ret (P := fun v _ => v = .ref l) (ev_slot rfl) fun u H2 e2 hu => ?_
  subst hu
  exact q l H2 hl (((e0.trans e1).trans ea).trans e2) (((e1.trans ea).trans e2) _ _ h0)
end
end K33

set_option Elab.async false
set_option linter.all false
set_option maxRecDepth 100000
set_option maxHeartbeats 4000000
/-! the law's names. -/
namespace K33
open PySem PySem.Spec PyProof.Rows L2
section
variable {K : Fg} {σ : L2.St} {H : Hp} {te ta tb to ti : TE} {D : Ends} {tz : TS} {tr : TA} {P : VP}
theorem ixN_nat {n j : Nat} {z : Int} (hz : z = (j : Int)) (h : j < n) : ixN n z = some j := by
  unfold ixN
  rw [if_pos (by omega), if_pos (by omega)]
  congr 1
  omega
theorem s_setL {l : Addr} {xs : List V} {j : Nat} {z : Int} (hl : H l = some (.lst xs)) (hv : Ev te σ H P) (hm : ∀ v H1 H2, Same H1 H2 → P v H1 → P v H2) (ho : Ev to σ H (fun w _ => w = .ref l)) (hi : Ev ti σ H (IsD K (.int z))) (hz : z = (j : Int)) (hj : j < xs.length)
    (k : ∀ v H1, Same H H1 → P v H1 → D.nx σ (upd H1 l (.lst (xs.set j v)))) : tAsg te (gSub to ti rSetL) D σ H := hv H (Same.refl H) _ fun v H1 e1 hp => ho H1 e1 _ fun w H2 e2 hw => by
  subst hw
  refine hi H2 (e1.trans e2) _ fun u H3 e3 hu => ?_
  cases hu
  exact ⟨l, xs, z, j, rfl, rfl, ((e1.trans e2).trans e3) _ _ hl, ixN_nat hz hj, k v H3 ((e1.trans e2).trans e3) (hm v H1 H3 (e2.trans e3) hp)⟩
theorem q_setL {l : Addr} {xs : List V} {j : Nat} {z : Int} (hl : H l = some (.lst xs)) (hv : Ev te σ H P) (hm : ∀ v H1 H2, Same H1 H2 → P v H1 → P v H2) (ho : Ev to σ H (fun w _ => w = .ref l)) (hi : Ev ti σ H (IsD K (.int z))) (hz : z = (j : Int)) (hj : j < xs.length)
    (k : ∀ v H1, Same H H1 → P v H1 → tz D σ (upd H1 l (.lst (xs.set j v)))) : tSeq (tAsg te (gSub to ti rSetL)) tz D σ H := s_setL (D := { D with nx := tz D }) hl hv hm ho hi hz hj k
/-- range(2, 6, 3) -/
theorem ew_rng263 {C : Hp → Hp → Prop} (h : EvA K tr σ H [.int 2, .int 6, .int 3]) : EvW K C (iRng3 tr) σ H [.int 2, .int 5] := fun H1 e R q => h H1 e _ fun ws H2 e2 hws => by
  obtain ⟨v, u, w, rfl, h1, h2, h3⟩ := all3 hws
  cases h1
  cases h2
  cases h3
  refine ⟨2, 6, 3, 2, rfl, ⟨by decide, by decide, by decide +kernel, by decide +kernel⟩, q _ H2 e2 fun i H _ => ⟨fun d hd => ?_, fun e => Nat.le_of_eq e.symm⟩⟩
  match i, hd with
  | 0, hd =>
    cases hd
    refine ⟨Nat.zero_lt_two, fun x H' ⟨e, ex⟩ => ?_⟩
    subst e ex
    exact ⟨Same.refl _, .int _⟩
  | 1, hd =>
    cases hd
    refine ⟨Nat.one_lt_two, fun x H' ⟨e, ex⟩ => ?_⟩
    subst e ex
    exact ⟨Same.refl _, .int _⟩
  | i + 2, hd => simp at hd
end
theorem S_nil : ("" : Str) = S [] := by decide +kernel
def vstr (ls : List (List Nat)) : List V := ls.map fun l => V.str (S l)
theorem vstr_is {K : Fg} {H : Hp} : ∀ ls : List (List Nat), AllIs K H (vstr ls) ((ls.map S).map .str)
  | [] => .nil
  | l :: ls => .cons (.str _) (vstr_is ls)
def midN (h t : List Nat) (a st m : Nat) : Nat → List (List Nat)
  | 0 => names6 h t a st none
  | 1 => more m (base h t a st 0) ++ [base h t a st 3, base h t a st 4, base h t a st 5]
  | _ => names6 h t a st (some m)
section
variable {P : Program} {w : World} {K : Fg} {mg : Str → Option Value} {base : Heap} {f : Addr} {fd : FuncData} {C : Addr}
/-- slots: _cell_here 0, _salt 1, _many 2, _letters 3, _marks 4, _step 5, _head 6, _k 7, _tail 8, _names_here 9, _more 10 -/
theorem sc_law_names : FnScope ["_law_cell_here", "_law_salt", "_law_many", "_law_letters", "_law_marks", "_law_step", "_law_head", "_law_k", "_law_tail", "_law_names_here", "_law_more"] ["_law_cell_here", "_law_salt", "_law_many"] (defScope s_law_names) := ⟨rfl, rfl, rfl, by decide +kernel, rfl, by decide +kernel, by decide +kernel⟩
theorem ok_law_names (F : Fun K "_law_names" "_law_names" s_law_names f fd) (B : Blt mg) (G__law_row : Fn P w K mg base CX0 1 "_law_row" ["_law_cell_here", "_law_many", "_law_base", "_law_salt"] (SpD K pre_row)) : FnOk P w K mg base CX0 2 f fd ["_law_cell_here", "_law_salt", "_law_many"] (SpD K pre_names) := by
  refine F.ok sc_law_names (spd_len fun ds Post h => by obtain ⟨c, s, rfl, _⟩ := h; rfl) (fun cdv A outer s H vs Q E hr h => ?_)
  obtain ⟨ds, Post, a, ⟨c, sl, rfl, hp⟩, q⟩ := h
  refine ⟨_, (pss_cons (ps_set (i := 3) sc_law_names.nd rfl (Or.inr rfl) pe_str)
      (pss_cons (ps_set (i := 4) sc_law_names.nd rfl (Or.inr rfl) (pe_fn G__law_row (hr.mono (by decide)) (by rfl) pass0 (pa_cons (pv 0) (pa_cons pe_int (pa_cons (pe_op op_mulU pe_int pe_int) (pa_cons (pv 1) pa_nil))))))
      (pss_cons (ps_set (i := 5) sc_law_names.nd rfl (Or.inr rfl) (pe_ix (ix_K (K := K) rfl) (pe_lst (pa_cons pe_int (pa_cons pe_int (pa_cons pe_int (pa_cons pe_int (pa_cons pe_int (pa_cons pe_int pa_nil))))))) (pe_op op_mod (pe_callTy call_intU (by rfl) B.int (by decide +kernel) (pa_cons (pe_ix (ix_K (K := K) rfl) (pv 4) pe_int (fun _ _ => rfl)) pa_nil)) pe_int) (fun _ _ => rfl)))
      (pss_cons (ps_set (i := 6) sc_law_names.nd rfl (Or.inr rfl) pe_str)
      (pss_cons (ps_for PassesOwn.never rfl (pi_range1 (by rfl) B.range (pa_cons (pe_op op_mod (pe_callTy call_intU (by rfl) B.int (by decide +kernel) (pa_cons (pe_ix (ix_K (K := K) rfl) (pv 4) pe_int (fun _ _ => rfl)) pa_nil)) pe_int) pa_nil)) (pg_name (i := 7) sc_law_names.nd rfl (Or.inl rfl)) (pss_one (ps_set (i := 6) sc_law_names.nd rfl (Or.inr rfl) (pe_op (op_addK (K := K) rfl) (pv 6) (pe_ix (ix_K (K := K) rfl) (pv 3) (pe_op op_mod (pe_callTy call_intU (by rfl) B.int (by decide +kernel) (pa_cons (pe_ix (ix_K (K := K) rfl) (pv 4) (pe_op (op_addK (K := K) rfl) pe_int (pv 7)) (fun _ _ => rfl)) pa_nil)) pe_int) (fun _ _ => rfl))))))
      (pss_cons (ps_set (i := 8) sc_law_names.nd rfl (Or.inr rfl) pe_str)
      (pss_cons (ps_for PassesOwn.never rfl (pi_range1 (by rfl) B.range (pa_cons (pe_op op_mod (pe_callTy call_intU (by rfl) B.int (by decide +kernel) (pa_cons (pe_ix (ix_K (K := K) rfl) (pv 4) pe_int (fun _ _ => rfl)) pa_nil)) pe_int) pa_nil)) (pg_name (i := 7) sc_law_names.nd rfl (Or.inl rfl)) (pss_one (ps_set (i := 8) sc_law_names.nd rfl (Or.inr rfl) (pe_op (op_addK (K := K) rfl) (pv 8) (pe_ix (ix_K (K := K) rfl) (pv 3) (pe_op op_mod (pe_callTy call_intU (by rfl) B.int (by decide +kernel) (pa_cons (pe_ix (ix_K (K := K) rfl) (pv 4) (pe_op (op_addK (K := K) rfl) pe_int (pe_op op_mod (pv 7) pe_int)) (fun _ _ => rfl)) pa_nil)) pe_int) (fun _ _ => rfl))))))
      (pss_cons (ps_setLc (own := [("_law_k", 7)]) (i := 9) rfl sc_law_names.nd rfl rfl (sw_true rfl rfl rfl (by decide +kernel)) (pi_range1 (by rfl) B.range (pa_cons (pv 2) pa_nil)) (blkOk_by (own := [("_law_k", 7)]) (N := ["_law_cell_here", "_law_salt", "_law_many", "_law_letters", "_law_marks", "_law_step", "_law_head", "_law_k", "_law_tail", "_law_names_here", "_law_more"]) (sc := (defScope s_law_names)) (by decide +kernel)) (fun _ _ _ _ _ => (pg_name (i := 7) sc_law_names.nd rfl (Or.inl rfl))) (fun _ _ _ _ _ => pts_nil) (fun _ _ _ _ _ => (pe_op (op_addK (K := K) rfl) (pe_op (op_addK (K := K) rfl) (pv 6) (pe_ix (ix_K (K := K) rfl) (pv 3) (pe_op op_mod (pe_callTy call_intU (by rfl) B.int (by decide +kernel) (pa_cons (pe_op (op_addK (K := K) rfl) (pe_ix (ix_K (K := K) rfl) (pv 4) pe_int (fun _ _ => rfl)) (pe_op op_mulU (pv 5) (pv 7))) pa_nil)) pe_int) (fun _ _ => rfl))) (pv 8))))
      (pss_cons (ps_set (i := 10) sc_law_names.nd rfl (Or.inl rfl) (pe_ix (ix_K (K := K) rfl) (pv 3) (pe_op op_mod (pe_callTy call_intU (by rfl) B.int (by decide +kernel) (pa_cons (pe_ix (ix_K (K := K) rfl) (pv 4) pe_int (fun _ _ => rfl)) pa_nil)) pe_int) (fun _ _ => rfl)))
      (pss_cons (ps_if (pt_cmpR op_gt (pe_op op_mod (pe_op op_fdiv (pe_callTy call_intU (by rfl) B.int (by decide +kernel) (pa_cons (pe_ix (ix_K (K := K) rfl) (pv 4) pe_int (fun _ _ => rfl)) pa_nil)) pe_int) pe_int) pe_int (nomark _)) (pss_one (ps_for PassesOwn.never rfl (pi_range3 (by rfl) B.range (pa_cons pe_int (pa_cons (pv 2) (pa_cons pe_int pa_nil)))) (pg_name (i := 7) sc_law_names.nd rfl (Or.inl rfl)) (pss_cons (ps_asg (pe_op (op_addK (K := K) rfl) (pe_ix (ix_K (K := K) rfl) (pv 9) (pe_op op_sub (pv 7) pe_int) (fun _ _ => rfl)) (pv 10)) (pg_sub (pv 9) (pe_op op_sub (pv 7) pe_int) set_list))
      (pss_one (ps_asg (pe_op (op_addK (K := K) rfl) (pe_op (op_addK (K := K) rfl) (pv 10) (pe_ix (ix_K (K := K) rfl) (pv 9) (pe_op op_sub (pv 7) pe_int) (fun _ _ => rfl))) (pv 10)) (pg_sub (pv 9) (pv 7) set_list)))))) pss_nil)
      (pss_one (ps_ret (pv 9))))))))))))), ?_⟩
  obtain ⟨v1, v2, v3, rfl, h1, h2, h3⟩ := all3 a
  cases h1
  cases h2
  cases h3
  have iI : ∀ {σ : L2.St} {H : Hp} {i : Nat} {n : Int}, σ[i]? = some (some (.int n)) → Ev (tVar i) σ H (IsD K (.int n)) := fun h => ev_var h (.int _)
  have iS : ∀ {σ : L2.St} {H : Hp} {i : Nat} {n : Str}, σ[i]? = some (some (.str n)) → Ev (tVar i) σ H (IsD K (.str n)) := fun h => ev_var h (.str _)
  refine q_asg (P := fun v _ => v = .str abc) ev_eq fun v0 H0 e0 hv0 => ?_
  subst hv0
  refine q_asg (ev_call (K := K) (Post := fun d => ∃ ms : List Int, d = .list (ms.map .int) ∧ ms.length = 11 ∧ ∀ x ∈ ms, 0 ≤ x ∧ x < 468) (ea_cons (iI rfl) (ea_cons (ev_int (i := ((11 : Nat) : Int))) (ea2 (ev_op ev_int ev_int (rd_mul (.inr (by decide)))) (iI rfl)))) ⟨_, 11, _, _, rfl, by decide, by decide, by decide, fun ns h1 h2 => ⟨ns, rfl, h1, h2⟩⟩) fun vm H1 e1 ⟨d, ⟨ms, hd, hml, hmr⟩, hvm⟩ => ?_
  subst hd
  -- the marks
  have hmk : ∀ i, i < 11 → ∃ z : Nat, ms[i]? = some (z : Int) := fun i hi => by
    have hi' : i < ms.length := by omega
    have := hmr ms[i] (List.getElem_mem _)
    exact ⟨ms[i].toNat, by rw [List.getElem?_eq_getElem hi']; congr 1; omega⟩
  have gm : ∀ {H2 : Hp} (e : Same H1 H2) {σ : L2.St} {te : TE} {i z : Nat} {y : Int}, σ[4]? = some (some vm) → Ev te σ H2 (IsD K (.int y)) → y = (i : Int) → ms[i]? = some (z : Int) → Ev (tOp (rIx K) (tVar 4) te) σ H2 (IsD K (.int (z : Int))) := fun {H2} e {σ} {te} {i} {z} {y} hσ ht hy hz =>
    ev_op (ev_var hσ (hvm.mono e)) ht (rd_ix (.inl rfl) (atI_n hy (by rw [List.getElem?_map, hz]; rfl)))
  obtain ⟨m0, hm0⟩ := hmk 0 (by decide)
  obtain ⟨m1, hm1⟩ := hmk 1 (by decide)
  obtain ⟨m2, hm2⟩ := hmk 2 (by decide)
  obtain ⟨m3, hm3⟩ := hmk 3 (by decide)
  obtain ⟨m4, hm4⟩ := hmk 4 (by decide)
  obtain ⟨st, hst, hsi⟩ : ∃ st : Nat, st ∈ [1, 3, 5, 7, 9, 11] ∧ ([.int 1, .int 3, .int 5, .int 7, .int 9, .int 11] : List PyData)[m1 % 6]? = some (.int (st : Int)) := by
    have h6 : m1 % 6 < 6 := Nat.mod_lt _ (by decide)
    generalize m1 % 6 = j at h6
    match j, h6 with
    | 0, _ => exact ⟨1, by decide, rfl⟩
    | 1, _ => exact ⟨3, by decide, rfl⟩
    | 2, _ => exact ⟨5, by decide, rfl⟩
    | 3, _ => exact ⟨7, by decide, rfl⟩
    | 4, _ => exact ⟨9, by decide, rfl⟩
    | 5, _ => exact ⟨11, by decide, rfl⟩
  have hst12 : st ≤ 11 := by
    simp at hst
    omega
  refine q_asg (ev_op (ev_lst (ea_cons ev_int (ea_cons ev_int (ea_cons ev_int (ea_cons ev_int (ea_cons ev_int (ea1 ev_int)))))) (by decide)) (ev_op (ev_intI (gm (Same.refl _) rfl ev_int rfl hm1)) ev_int (rd_mod (by decide))) (rd_ix (.inl rfl) (atI_n (j := m1 % 6) (by omega) hsi))) fun vs H2 e2 hvs => ?_
  have := Is.intV hvs
  subst this
  refine q_asg (P := fun v _ => v = .str (S [])) (fun H3 e Q q => q _ H3 (Same.refl _) (by rw [S_nil])) fun v3 H3 e3 hv3 => ?_
  subst hv3
  have e13 := e2.trans e3
  refine q_forW (C := fun _ _ => True) (ew_rng1 (n := m2 % 3) (ea1 (ev_op (ev_intI (gm e13 rfl ev_int rfl hm2)) ev_int (rd_mod (by decide)))) (by omega) (by omega) (by omega)) fun H4 e4 => ⟨fun i σ' H' => ∃ hd x7, σ' = [some (.int c), some (.int sl), some (.int 6), some (.str abc), some vm, some (.int (st : Int)), some (.str (S hd)), x7, none, none, none] ∧ Same H1 H' ∧ hd.length = i ∧ Low hd,
    ⟨[], none, rfl, e13.trans e4, rfl, fun c h => by cases h⟩, fun _ _ _ _ => True.intro, ?_, ?_⟩
  · rintro i d v σ' Ha Hb hd' ⟨hd, x7, rfl, ea, hl, hlow⟩ eb hv
    have hi : i < m2 % 3 := by
      have := (List.getElem?_eq_some_iff.mp hd').1
      rw [List.length_map, List.length_range] at this
      exact this
    rw [List.getElem?_map, List.getElem?_range hi] at hd'
    cases hd'
    cases hv
    refine g_nm ?_
    obtain ⟨z, hz⟩ := hmk (5 + i) (by omega)
    refine s_asg (ev_op (iS rfl) (ev_let (iS rfl) (gm (ea.trans eb) rfl (ev_op ev_int (iI rfl) rd_addI) (by omega) hz) rfl) (rd_addS (by rw [S_len, S_len]; simp; omega))) fun u H5 e5 hu => ?_
    have := Is.strV hu
    subst this
    refine ⟨hd ++ [97 + z % 26], some (.int (i : Int)), ?_, (ea.trans eb).trans e5, by rw [List.length_append, hl]; rfl, fun c hc => ?_⟩
    · rw [← S_app]
      rfl
    · rcases List.mem_append.mp hc with hc | hc
      · exact hlow c hc
      · rw [List.mem_singleton] at hc
        have := Nat.mod_lt z (show 26 > 0 by decide)
        omega
  rintro σ' H5 ⟨hd, x7, rfl, e5, hhl, hhlow⟩
  rw [List.length_map, List.length_range] at hhl
  refine q_asg (P := fun v _ => v = .str (S [])) (fun H3 e Q q => q _ H3 (Same.refl _) (by rw [S_nil])) fun v6 H6 e6 hv6 => ?_
  subst hv6
  have e16 := e5.trans e6
  refine q_forW (C := fun _ _ => True) (ew_rng1 (n := m3 % 4) (ea1 (ev_op (ev_intI (gm e16 rfl ev_int rfl hm3)) ev_int (rd_mod (by decide)))) (by omega) (by omega) (by omega)) fun H7 e7 => ⟨fun i σ' H' => ∃ tl x7, σ' = [some (.int c), some (.int sl), some (.int 6), some (.str abc), some vm, some (.int (st : Int)), some (.str (S hd)), x7, some (.str (S tl)), none, none] ∧ Same H1 H' ∧ tl.length = i ∧ Low tl,
    ⟨[], x7, rfl, e16.trans e7, rfl, fun c h => by cases h⟩, fun _ _ _ _ => True.intro, ?_, ?_⟩
  · rintro i d v σ' Ha Hb hd' ⟨tl, x7, rfl, ea, hl, hlow⟩ eb hv
    have hi : i < m3 % 4 := by
      have := (List.getElem?_eq_some_iff.mp hd').1
      rw [List.length_map, List.length_range] at this
      exact this
    rw [List.getElem?_map, List.getElem?_range hi] at hd'
    cases hd'
    cases hv
    refine g_nm ?_
    obtain ⟨z, hz⟩ := hmk (8 + i % 3) (by omega)
    refine s_asg (ev_op (iS rfl) (ev_let (iS rfl) (gm (ea.trans eb) rfl (ev_op ev_int (ev_op (iI rfl) ev_int (rd_mod (by decide))) rd_addI) (by omega) hz) rfl) (rd_addS (by rw [S_len, S_len]; simp; omega))) fun u H5 e5 hu => ?_
    have := Is.strV hu
    subst this
    refine ⟨tl ++ [97 + z % 26], some (.int (i : Int)), ?_, (ea.trans eb).trans e5, by rw [List.length_append, hl]; rfl, fun c hc => ?_⟩
    · rw [← S_app]
      rfl
    · rcases List.mem_append.mp hc with hc | hc
      · exact hlow c hc
      · rw [List.mem_singleton] at hc
        have := Nat.mod_lt z (show 26 > 0 by decide)
        omega
  rintro σ' H8 ⟨tl, x7', rfl, e8, htl, htlow⟩
  rw [List.length_map, List.length_range] at htl
  have hb6 : hd.length ≤ 2 := by omega
  have ht6 : tl.length ≤ 3 := by omega
  refine q_asgL (el_mapR (n := 6) (fun k => .str (S (K33.base hd tl m0 st k))) (ea1 (iI rfl)) (by decide) (by decide) (by decide) (fun _ => rfl) (fun k H9 e9 hk => ?_) (fun _ _ => rfl)) fun l xs H9 hl e9 h9 a9 => ?_
  · have hz : (m0 : Int) + (st : Int) * (k : Int) = ((m0 + st * k : Nat) : Int) := by rw [Int.natCast_add, Int.natCast_mul]
    have := ev_op (K := K) (ev_op (ev_var (σ := ([some (.int c), some (.int sl), some (.int 6), some (.str abc), some vm, some (.int (st : Int)), some (.str (S hd)), some (.int (k : Int)), some (.str (S tl)), none, none] : L2.St)) (i := 6) (H := H9) rfl (.str _)) (ev_let (K := K) (z := m0 + st * k) (ev_var (i := 3) rfl (.str _)) (ev_op (gm (e8.trans e9) rfl ev_int rfl hm0) (ev_op (iI (i := 5) rfl) (iI (i := 7) rfl) (rd_mul (.inr (by omega)))) rd_addI) hz) (rd_addS (by rw [S_len, S_len]; simp; omega))) (ev_var (i := 8) rfl (.str _)) (rd_addS (by rw [S_app, S_len, S_len]; simp; omega))
    refine ev_is this ?_
    rw [S_app, S_app]
    rfl
  have exs : xs = vstr (names6 hd tl m0 st none) := by
    have : AllIs K H9 xs (((List.range 6).map fun k => S (K33.base hd tl m0 st k)).map .str) := by
      rw [List.map_map]
      exact a9
    have := AllIs.strs this
    rw [this]
    unfold vstr names6
    rw [List.map_map, List.map_map]
    rfl
  subst exs
  refine q_asg (ev_let (iS rfl) (gm (e8.trans e9) rfl ev_int rfl hm4) rfl) fun v10 H10 e10 hv10 => ?_
  have := Is.strV hv10
  subst this
  have hmm : 97 ≤ 97 + m4 % 26 ∧ 97 + m4 % 26 < 123 := by
    have := Nat.mod_lt m4 (show 26 > 0 by decide)
    omega
  generalize 97 + m4 % 26 = mm at hmm
  have h1to10 : Same H H10 := ((((e0.trans e1).trans e8).trans e9).trans e10)
  have hHl : H l = none := ((e0.trans e1).trans e8).free hl
  refine q_whenJ (fun σ' H' => ∃ o x7, σ' = [some (.int c), some (.int sl), some (.int 6), some (.str abc), some vm, some (.int (st : Int)), some (.str (S hd)), x7, some (.str (S tl)), some (.ref l), some (.str (S [mm]))] ∧ Same H H' ∧ H' l = some (.lst (vstr (names6 hd tl m0 st o))) ∧ ∀ m, o = some m → 97 ≤ m ∧ m < 123) (b := decide (0 < (m4 : Int) / 26 % 3))
    (et_test (ev_op (ev_op (ev_op (ev_intI (gm ((e8.trans e9).trans e10) rfl ev_int rfl hm4)) ev_int (rd_div (by decide))) ev_int (rd_mod (by decide))) ev_int rd_gt)) (fun hb H11 e11 N hN => ?_) (fun hb H11 e11 => ⟨none, _, rfl, h1to10.trans e11, (e10.trans e11) _ _ h9, fun m hm => by cases hm⟩) ?_
  · refine s_forW (C := fun _ _ => True) (ew_rng263 (ea_cons ev_int (ea2 (iI rfl) ev_int))) fun H12 e12 => ⟨fun i σ' H' => ∃ x7, σ' = [some (.int c), some (.int sl), some (.int 6), some (.str abc), some vm, some (.int (st : Int)), some (.str (S hd)), x7, some (.str (S tl)), some (.ref l), some (.str (S [mm]))] ∧ Same H H' ∧ H' l = some (.lst (vstr (midN hd tl m0 st mm i))),
      ⟨_, rfl, h1to10.trans (e11.trans e12), (e10.trans (e11.trans e12)) _ _ h9⟩, fun _ _ _ _ => True.intro, ?_, ?_⟩
    · rintro i d v σ' Ha Hb hd' ⟨x7, rfl, ea, hla⟩ eb hv
      have hlb := eb _ _ hla
      have hL : ∀ {H : Hp} {ls : List (List Nat)}, H l = some (.lst (vstr ls)) → Is K H (.ref l) (.list ((ls.map S).map .str)) := fun h => .lst h (vstr_is _)
      have sm : ∀ x H1 H2, Same H1 H2 → IsD K (PyData.str x) = IsD K (.str x) := fun _ _ _ _ => rfl
      have lenb : ∀ k, (S (K33.base hd tl m0 st k)).length ≤ 6 := fun k => by rw [S_len, base_len]; omega
      match i, hd', hlb with
      | 0, hd', hlb =>
        cases hd'
        cases hv
        refine g_nm ?_
        have a0 : (((names6 hd tl m0 st none).map S).map PyData.str)[0]? = some (.str (S (K33.base hd tl m0 st 0))) := rfl
        refine q_setL (P := IsD K (.str (S (K33.base hd tl m0 st 0 ++ [mm])))) (j := 1) hlb (ev_is (ev_op (ev_op (ev_var rfl (hL hlb)) (ev_op (iI rfl) ev_int rd_sub) (rd_ix (.inl rfl) (atI_n (j := 0) rfl a0))) (iS rfl) (rd_addS (by have := lenb 0; rw [S_len [mm]]; simp; omega))) (by rw [S_app])) (fun v H1 H2 e h => Is.mono e h) (ev_slot rfl) (ev_op (iI rfl) ev_int rd_sub) rfl (by show _ < 6; decide) fun u H13 e13 hu => ?_
        have := Is.strV hu
        subst this
        have hl2 : (upd H13 l (.lst ((vstr (midN hd tl m0 st mm 0)).set 1 (.str (S (K33.base hd tl m0 st 0 ++ [mm])))))) l = some (.lst (vstr [K33.base hd tl m0 st 0, K33.base hd tl m0 st 0 ++ [mm], K33.base hd tl m0 st 2, K33.base hd tl m0 st 3, K33.base hd tl m0 st 4, K33.base hd tl m0 st 5])) := upd_same
        have e13' := Same.mut ((ea.trans eb).trans e13) hHl (o := .lst ((vstr (midN hd tl m0 st mm 0)).set 1 (.str (S (K33.base hd tl m0 st 0 ++ [mm])))))
        generalize (upd H13 l (.lst ((vstr (midN hd tl m0 st mm 0)).set 1 (.str (S (K33.base hd tl m0 st 0 ++ [mm])))))) = H14 at hl2 e13'
        refine s_setL (P := IsD K (.str (S ([mm] ++ K33.base hd tl m0 st 0 ++ [mm])))) (j := 2) hl2 (ev_is (ev_op (ev_op (iS rfl) (ev_op (ev_var rfl (hL hl2)) (ev_op (iI rfl) ev_int rd_sub) (rd_ix (d := .str (S (K33.base hd tl m0 st 0))) (.inl rfl) (atI_n (j := 0) rfl rfl))) (rd_addS (by have := lenb 0; rw [S_len [mm]]; simp; omega))) (iS rfl) (rd_addS (by have := lenb 0; rw [S_len] at this; rw [S_app, S_len, S_len [mm]]; simp; omega))) (by rw [S_app, S_app])) (fun v H1 H2 e h => Is.mono e h) (ev_slot rfl) (iI rfl) rfl (by show 2 < 6; decide) fun u H15 e15 hu => ?_
        have := Is.strV hu
        subst this
        exact ⟨_, rfl, Same.mut (e13'.trans e15) hHl, upd_same⟩
      | 1, hd', hlb =>
        cases hd'
        cases hv
        refine g_nm ?_
        refine q_setL (P := IsD K (.str (S (K33.base hd tl m0 st 3 ++ [mm])))) (j := 4) hlb (ev_is (ev_op (ev_op (ev_var rfl (hL hlb)) (ev_op (iI rfl) ev_int rd_sub) (rd_ix (d := .str (S (K33.base hd tl m0 st 3))) (.inl rfl) (atI_n (j := 3) rfl rfl))) (iS rfl) (rd_addS (by have := lenb 3; rw [S_len [mm]]; simp; omega))) (by rw [S_app])) (fun v H1 H2 e h => Is.mono e h) (ev_slot rfl) (ev_op (iI rfl) ev_int rd_sub) rfl (by show _ < 6; decide) fun u H13 e13 hu => ?_
        have := Is.strV hu
        subst this
        have hl2 : (upd H13 l (.lst ((vstr (midN hd tl m0 st mm 1)).set 4 (.str (S (K33.base hd tl m0 st 3 ++ [mm])))))) l = some (.lst (vstr (more mm (K33.base hd tl m0 st 0) ++ [K33.base hd tl m0 st 3, K33.base hd tl m0 st 3 ++ [mm], K33.base hd tl m0 st 5]))) := upd_same
        have e13' := Same.mut ((ea.trans eb).trans e13) hHl (o := .lst ((vstr (midN hd tl m0 st mm 1)).set 4 (.str (S (K33.base hd tl m0 st 3 ++ [mm])))))
        generalize (upd H13 l (.lst ((vstr (midN hd tl m0 st mm 1)).set 4 (.str (S (K33.base hd tl m0 st 3 ++ [mm])))))) = H14 at hl2 e13'
        refine s_setL (P := IsD K (.str (S ([mm] ++ K33.base hd tl m0 st 3 ++ [mm])))) (j := 5) hl2 (ev_is (ev_op (ev_op (iS rfl) (ev_op (ev_var rfl (hL hl2)) (ev_op (iI rfl) ev_int rd_sub) (rd_ix (d := .str (S (K33.base hd tl m0 st 3))) (.inl rfl) (atI_n (j := 3) rfl rfl))) (rd_addS (by have := lenb 3; rw [S_len [mm]]; simp; omega))) (iS rfl) (rd_addS (by have := lenb 3; rw [S_len] at this; rw [S_app, S_len, S_len [mm]]; simp; omega))) (by rw [S_app, S_app])) (fun v H1 H2 e h => Is.mono e h) (ev_slot rfl) (iI rfl) rfl (by show 5 < 6; decide) fun u H15 e15 hu => ?_
        have := Is.strV hu
        subst this
        exact ⟨_, rfl, Same.mut (e13'.trans e15) hHl, upd_same⟩
      | i + 2, hd', _ => simp at hd'
    · rintro σ' H' ⟨x7, rfl, ea, hla⟩
      exact hN _ _ ⟨some mm, _, rfl, ea, hla, fun m hm => by cases hm; exact hmm⟩
  · rintro σ' H' ⟨o, x7, rfl, ea, hla, ho⟩
    exact s_ret (P := IsD K (.list (((names6 hd tl m0 st o).map S).map .str))) (ev_var rfl (.lst hla (vstr_is _))) fun u H2 e2 hu => q _ u H2 (hp _ (names_of hst hhlow htlow hb6 ht6 ho)) (ea.trans e2) hu
end
end K33

set_option Elab.async false
set_option linter.all false
set_option maxRecDepth 100000
set_option maxHeartbeats 4000000
/-! the law's events, stays. -/
namespace K33
open PySem PySem.Spec PyProof.Rows L2
section
variable {K : Fg} {σ : L2.St} {H : Hp} {te ta tb to ti : TE} {D : Ends} {tz : TS} {tr : TA} {P : VP}
theorem el_nil {v : V} (h : Ev te σ H (fun w _ => w = v)) (hv : Is K H v (.tuple [])) : EvL K (tCall (spNil K) [] E0 (tCons te tNil)) σ H [] := fun H1 e Q q => h H1 e _ fun w H2 e2 hw => by
  subst hw
  exact ⟨w, rfl, (hv.mono e).mono e2, fun p H3 hp e3 h3 => q p [] H3 (e2.free hp) (e2.trans e3) h3 .nil⟩
theorem s_popAt {l : Addr} {xs : List V} {j i : Nat} {z : Int} {y : V} (hl : H l = some (.lst xs)) (ho : Ev to σ H (fun w _ => w = .ref l)) (hi : Ev ti σ H (IsD K (.int z))) (hz : z = (j : Int)) (hj : xs[j]? = some y) (hb : xs.length ≤ 1000000)
    (k : ∀ H1, Same H H1 → D.nx (σ.set i (some y)) (upd H1 l (.lst (xs.eraseIdx j)))) : tAsg (tBM K "list" rPopAt to (tCons ti tNil)) (gName i) D σ H := ho H (Same.refl H) _ fun w H1 e1 hw => by
  subst hw
  refine ⟨.inl ⟨rfl, xs, SqL.of (e1 l _ hl)⟩, hi H1 e1 _ fun u H2 e2 hu => ?_⟩
  cases hu
  have hjl := (List.getElem?_eq_some_iff.mp hj).1
  exact ⟨l, xs, z, j, y, rfl, rfl, e2 l _ (e1 l _ hl), by omega, by omega, (ixN_seq (ixN_nat hz hjl)).1, hj, k H2 (e1.trans e2)⟩
theorem s_remS {l : Addr} {ns : List Str} {x : Str} (hl : H l = some (.lst (ns.map V.str))) (ho : Ev to σ H (fun w _ => w = .ref l)) (h : Ev te σ H (IsD K (.str x))) (hx : x ∈ ns) (k : ∀ H1, Same H H1 → D.nx σ (upd H1 l (.lst ((ns.erase x).map V.str)))) :
    tDrop (tBM K "list" rRemS to (tCons te tNil)) D σ H := ho H (Same.refl H) _ fun w H1 e1 hw => by
  subst hw
  refine ⟨.inl ⟨rfl, _, SqL.of (e1 l _ hl)⟩, h H1 e1 _ fun u H2 e2 hu => ?_⟩
  cases hu
  exact ⟨l, ns, x, rfl, rfl, e2 l _ (e1 l _ hl), hx, k H2 (e1.trans e2)⟩
theorem q_remS {l : Addr} {ns : List Str} {x : Str} (hl : H l = some (.lst (ns.map V.str))) (ho : Ev to σ H (fun w _ => w = .ref l)) (h : Ev te σ H (IsD K (.str x))) (hx : x ∈ ns) (k : ∀ H1, Same H H1 → tz D σ (upd H1 l (.lst ((ns.erase x).map V.str)))) :
    tSeq (tDrop (tBM K "list" rRemS to (tCons te tNil))) tz D σ H := s_remS (D := { D with nx := tz D }) hl ho h hx k
end
/-- the four lists of the law's events -/
structure L4 (K : Fg) (H H' : Hp) (a b c e : Addr) (h n g : List Str) (ev : List Evt) : Prop where
  sm : Same H H'
  fa : H a = none
  fb : H b = none
  fc : H c = none
  fe : H e = none
  ab : a ≠ b
  ac : a ≠ c
  ae : a ≠ e
  bc : b ≠ c
  be : b ≠ e
  ce : c ≠ e
  ha : H' a = some (.lst (h.map V.str))
  hb : H' b = some (.lst (n.map V.str))
  hc : H' c = some (.lst (g.map V.str))
  he : ∃ xs, H' e = some (.lst xs) ∧ AllIs K H' xs (ev.map evD)
theorem nl_evs (ev : List Evt) : nlAll (ev.map evD) = true := nlAll_map (f := evD) (fun _ => rfl) ev
section
variable {K : Fg} {H H' H2 : Hp} {a b c e : Addr} {h n g : List Str} {ev : List Evt}
theorem L4.mono (s : Same H' H2) (x : L4 K H H' a b c e h n g ev) : L4 K H H2 a b c e h n g ev :=
  ⟨x.sm.trans s, x.fa, x.fb, x.fc, x.fe, x.ab, x.ac, x.ae, x.bc, x.be, x.ce, s _ _ x.ha, s _ _ x.hb, s _ _ x.hc, let ⟨xs, p, q⟩ := x.he; ⟨xs, s _ _ p, q.mono s⟩⟩
theorem L4.upA (h' : List Str) (x : L4 K H H' a b c e h n g ev) : L4 K H (upd H' a (.lst (h'.map V.str))) a b c e h' n g ev :=
  ⟨Same.mut x.sm x.fa, x.fa, x.fb, x.fc, x.fe, x.ab, x.ac, x.ae, x.bc, x.be, x.ce, upd_same, by rw [upd_ne x.ab.symm]; exact x.hb, by rw [upd_ne x.ac.symm]; exact x.hc, let ⟨xs, p, q⟩ := x.he; ⟨xs, by rw [upd_ne x.ae.symm]; exact p, q.monoT (SameT.of_lst x.ha) (nl_evs ev)⟩⟩
theorem L4.upB (n' : List Str) (x : L4 K H H' a b c e h n g ev) : L4 K H (upd H' b (.lst (n'.map V.str))) a b c e h n' g ev :=
  ⟨Same.mut x.sm x.fb, x.fa, x.fb, x.fc, x.fe, x.ab, x.ac, x.ae, x.bc, x.be, x.ce, by rw [upd_ne x.ab]; exact x.ha, upd_same, by rw [upd_ne x.bc.symm]; exact x.hc, let ⟨xs, p, q⟩ := x.he; ⟨xs, by rw [upd_ne x.be.symm]; exact p, q.monoT (SameT.of_lst x.hb) (nl_evs ev)⟩⟩
theorem L4.upC (g' : List Str) (x : L4 K H H' a b c e h n g ev) : L4 K H (upd H' c (.lst (g'.map V.str))) a b c e h n g' ev :=
  ⟨Same.mut x.sm x.fc, x.fa, x.fb, x.fc, x.fe, x.ab, x.ac, x.ae, x.bc, x.be, x.ce, by rw [upd_ne x.ac]; exact x.ha, by rw [upd_ne x.bc]; exact x.hb, upd_same, let ⟨xs, p, q⟩ := x.he; ⟨xs, by rw [upd_ne x.ce.symm]; exact p, q.monoT (SameT.of_lst x.hc) (nl_evs ev)⟩⟩
theorem L4.upE {v : V} {xs : List V} {y : Evt} (x : L4 K H H' a b c e h n g ev) (hx : H' e = some (.lst xs)) (hv : Is K H' v (evD y)) : L4 K H (upd H' e (.lst (xs ++ [v]))) a b c e h n g (ev ++ [y]) :=
  ⟨Same.mut x.sm x.fe, x.fa, x.fb, x.fc, x.fe, x.ab, x.ac, x.ae, x.bc, x.be, x.ce, by rw [upd_ne x.ae]; exact x.ha, by rw [upd_ne x.be]; exact x.hb, by rw [upd_ne x.ce]; exact x.hc, by
    obtain ⟨ys, p, q⟩ := x.he
    rw [p] at hx
    cases hx
    refine ⟨_, upd_same, ?_⟩
    rw [List.map_append]
    exact (q.monoT (SameT.of_lst p) (nl_evs ev)).snoc (Is.monoT (SameT.of_lst p) rfl hv)⟩
end
def pre_levents : Pr := fun ds Post => ∃ (ms : List Int) (ns : List Str), ds = [.list (ms.map .int), .tuple [], .list (ns.map .str), .int 6] ∧ ms.length ≤ 1000 ∧ ns.Nodup ∧ ns.length ≤ 1000 ∧ Post (evsD (gen ns ms).evs)
theorem map_erase_ix : ∀ (l : List Str) (i : Nat), (l.eraseIdx i).map V.str = (l.map V.str).eraseIdx i
  | [], _ => rfl
  | a :: l, 0 => rfl
  | a :: l, i + 1 => by
    show V.str a :: (l.eraseIdx i).map V.str = V.str a :: (l.map V.str).eraseIdx i
    rw [map_erase_ix l i]
theorem gen_next {ns : List Str} {ms : List Int} {i : Nat} {m : Int} (h : ms[i]? = some m) : gen ns (ms.take (i + 1)) = (gen ns (ms.take i)).step m := by
  unfold gen
  have et : ms.take (i + 1) = ms.take i ++ [m] := by rw [List.take_add_one, h]; rfl
  rw [et, List.foldl_append]
  rfl
section
variable {P : Program} {w : World} {K : Fg} {mg : Str → Option Value} {base : Heap} {f : Addr} {fd : FuncData} {C : Addr}
/-- slots: _marks 0, _stacks 1, _fresh 2, _comings 3, _here 4, _new 5, _gone 6, _events_here 7, _mark 8, _name 9 -/
theorem sc_law_events : FnScope ["_law_marks", "_law_stacks", "_law_fresh", "_law_comings", "_law_here", "_law_new", "_law_gone", "_law_events_here", "_law_mark", "_law_name"] ["_law_marks", "_law_stacks", "_law_fresh", "_law_comings"] (defScope s_law_events) := ⟨rfl, rfl, rfl, by decide +kernel, rfl, by decide +kernel, by decide +kernel⟩
theorem ok_law_events (F : Fun K "_law_events" "_law_events" s_law_events f fd) (B : Blt mg) (G__law_boxes : Fn P w K mg base CX0 1 "_law_boxes" ["_law_stacks"] (spNil K)) : FnOk P w K mg base CX0 2 f fd ["_law_marks", "_law_stacks", "_law_fresh", "_law_comings"] (SpD K pre_levents) := by
  refine F.ok sc_law_events (spd_len fun ds Post h => by obtain ⟨ms, ns, rfl, _⟩ := h; rfl) (fun cdv A outer s H vs Q E hr h => ?_)
  obtain ⟨ds, Post, a, ⟨ms, ns, rfl, hml, hnd, hnl, hp⟩, q⟩ := h
  refine ⟨_, (pss_cons (ps_set (i := 4) sc_law_events.nd rfl (Or.inl rfl) (pe_fn G__law_boxes (hr.mono (by decide)) (by rfl) pass0 (pa_cons (pv 1) pa_nil)))
      (pss_cons (ps_set (i := 5) sc_law_events.nd rfl (Or.inl rfl) (pe_callTy (lst_K (K := K) rfl) (by rfl) B.list (by decide +kernel) (pa_cons (pv 2) pa_nil)))
      (pss_cons (ps_set (i := 6) sc_law_events.nd rfl (Or.inl rfl) (pe_lst pa_nil))
      (pss_cons (ps_set (i := 7) sc_law_events.nd rfl (Or.inl rfl) (pe_lst pa_nil))
      (pss_cons (ps_for PassesOwn.never rfl (seq_K (K := K) rfl (pv 0)) (pg_name (i := 8) sc_law_events.nd rfl (Or.inl rfl)) (pss_one (ps_if (PW.pt (pw_and (PW.pt (pw_or (pt_cmpR op_lt (pe_op op_mod (pe_callTy call_intU (by rfl) B.int (by decide +kernel) (pa_cons (pv 8) pa_nil)) pe_int) pe_int (nomark _)) (pw_or1 (pt_cmpR (op_eqK (K := K) rfl hr.units) (pe_callB (len_K (K := K) rfl) (by rfl) B.len PySem.boot_len (pa_cons (pv 4) pa_nil)) pe_int (nomark _))))) (pw_and (pt_cmpR op_gt (pv 3) pe_int (nomark _)) (pw_and1 (pt_cmpR op_gt (pe_op (op_addK (K := K) rfl) (pe_callB (len_K (K := K) rfl) (by rfl) B.len PySem.boot_len (pa_cons (pv 5) pa_nil)) (pe_callB (len_K (K := K) rfl) (by rfl) B.len PySem.boot_len (pa_cons (pv 6) pa_nil))) pe_int (nomark _)))))) (pss_cons (ps_set (i := 3) sc_law_events.nd rfl (Or.inl rfl) (pe_op op_sub (pv 3) pe_int))
      (pss_cons (ps_if (PW.pt (pw_and (pt_cmpR op_gt (pe_callB (len_K (K := K) rfl) (by rfl) B.len PySem.boot_len (pa_cons (pv 6) pa_nil)) pe_int (nomark _)) (pw_and1 (PW.pt (pw_or (pt_cmpR (op_eqK (K := K) rfl hr.units) (pe_callB (len_K (K := K) rfl) (by rfl) B.len PySem.boot_len (pa_cons (pv 5) pa_nil)) pe_int (nomark _)) (pw_or1 (pt_cmpR (op_eqK (K := K) rfl hr.units) (pe_op op_mod (pe_op op_fdiv (pe_callTy call_intU (by rfl) B.int (by decide +kernel) (pa_cons (pv 8) pa_nil)) pe_int) pe_int) pe_int (nomark _)))))))) (pss_one (ps_set (i := 9) sc_law_events.nd rfl (Or.inl rfl) (bm_K (K := K) rfl PySem.F.plainAttrs_list PySem.F.slot_list_pop PySem.F.type_list_pop mt_popAt (pv 6) (pa_cons (pe_op op_mod (pe_op op_fdiv (pe_callTy call_intU (by rfl) B.int (by decide +kernel) (pa_cons (pv 8) pa_nil)) pe_int) (pe_callB (len_K (K := K) rfl) (by rfl) B.len PySem.boot_len (pa_cons (pv 6) pa_nil))) pa_nil)))) (pss_one (ps_set (i := 9) sc_law_events.nd rfl (Or.inl rfl) (bm_K (K := K) rfl PySem.F.plainAttrs_list PySem.F.slot_list_pop PySem.F.type_list_pop mt_popAt (pv 5) (pa_cons pe_int pa_nil)))))
      (pss_cons (ps_expr (bm_K (K := K) rfl PySem.F.plainAttrs_list PySem.F.slot_list_append PySem.F.type_list_append mt_append (pv 4) (pa_cons (pv 9) pa_nil)))
      (pss_one (ps_expr (bm_K (K := K) rfl PySem.F.plainAttrs_list PySem.F.slot_list_append PySem.F.type_list_append mt_append (pv 7) (pa_cons (pe_tup (pa_cons pe_str (pa_cons (pv 9) pa_nil))) pa_nil))))))) (pss_one (ps_if (pt_cmpR op_gt (pe_callB (len_K (K := K) rfl) (by rfl) B.len PySem.boot_len (pa_cons (pv 4) pa_nil)) pe_int (nomark _)) (pss_cons (ps_set (i := 9) sc_law_events.nd rfl (Or.inl rfl) (pe_ix (ix_K (K := K) rfl) (pv 4) pe_int (fun _ _ => rfl)))
      (pss_cons (ps_if (pt_cmpR op_gt (pe_op op_mod (pe_op op_fdiv (pe_callTy call_intU (by rfl) B.int (by decide +kernel) (pa_cons (pv 8) pa_nil)) pe_int) pe_int) pe_int (nomark _)) (pss_one (ps_set (i := 9) sc_law_events.nd rfl (Or.inl rfl) (pe_ix (ix_K (K := K) rfl) (pv 4) (pe_op op_mod (pe_op op_fdiv (pe_callTy call_intU (by rfl) B.int (by decide +kernel) (pa_cons (pv 8) pa_nil)) pe_int) (pe_callB (len_K (K := K) rfl) (by rfl) B.len PySem.boot_len (pa_cons (pv 4) pa_nil))) (fun _ _ => rfl)))) pss_nil)
      (pss_cons (ps_expr (bm_K (K := K) rfl PySem.F.plainAttrs_list PySem.F.slot_list_remove PySem.F.type_list_remove mt_remS (pv 4) (pa_cons (pv 9) pa_nil)))
      (pss_cons (ps_expr (bm_K (K := K) rfl PySem.F.plainAttrs_list PySem.F.slot_list_append PySem.F.type_list_append mt_append (pv 6) (pa_cons (pv 9) pa_nil)))
      (pss_one (ps_expr (bm_K (K := K) rfl PySem.F.plainAttrs_list PySem.F.slot_list_append PySem.F.type_list_append mt_append (pv 7) (pa_cons (pe_tup (pa_cons pe_str (pa_cons (pv 9) pa_nil))) pa_nil)))))))) pss_nil)))))
      (pss_one (ps_ret (pe_callTy (tup_K (K := K) rfl) (by rfl) B.tuple (by decide +kernel) (pa_cons (pv 7) pa_nil))))))))), ?_⟩
  obtain ⟨vm, vst, vn, v6, rfl, hm, hst, hn, h6⟩ := all4 a
  cases h6
  have iI : ∀ {σ : L2.St} {H : Hp} {i : Nat} {n : Int}, σ[i]? = some (some (.int n)) → Ev (tVar i) σ H (IsD K (.int n)) := fun h => ev_var h (.int _)
  have iS : ∀ {σ : L2.St} {H : Hp} {i : Nat} {n : Str}, σ[i]? = some (some (.str n)) → Ev (tVar i) σ H (IsD K (.str n)) := fun h => ev_var h (.str _)
  refine q_asgL (el_nil (ev_slot rfl) hst) fun la xs0 H0 fa e0 h0 a0 => ?_
  cases a0
  refine q_asgL (el_lstOf (.inl rfl) (ev_var rfl (hn.mono e0))) fun lb xs1 H1 fb e1 h1 a1 => ?_
  have := AllIs.strs a1
  subst this
  refine q_asgL (K := K) (el_lst ea_nil (by decide)) fun lc xs2 H2 fc e2 h2 a2 => ?_
  cases a2
  refine q_asgL (K := K) (el_lst ea_nil (by decide)) fun le xs3 H3 fe e3 h3 a3 => ?_
  cases a3
  have ne' : ∀ {X : Hp} {p q : Addr} {o : HO}, X p = some o → X q = none → p ≠ q := fun h1 h2 z => by
    rw [z, h2] at h1
    cases h1
  have start : L4 K H H3 la lb lc le [] ns [] [] := ⟨((e0.trans e1).trans e2).trans e3, fa, e0.free fb, (e0.trans e1).free fc, ((e0.trans e1).trans e2).free fe, ne' h0 fb, ne' (e1 _ _ h0) fc, ne' ((e1.trans e2) _ _ h0) fe, ne' h1 fc, ne' (e2 _ _ h1) fe, ne' h2 fe,
    ((e1.trans e2).trans e3) _ _ h0, (e2.trans e3) _ _ h1, e3 _ _ h2, ⟨[], h3, .nil⟩⟩
  refine q_forW (ew_seqB (v := vm) (Hb := H) (.inl rfl) (ev_slot rfl) start.sm hm) fun H4 e4 => ⟨fun i σ' H' => ∃ x8 x9, σ' = [some vm, some vst, some vn, some (.int (gen ns (ms.take i)).com), some (.ref la), some (.ref lb), some (.ref lc), some (.ref le), x8, x9] ∧ L4 K H H' la lb lc le (gen ns (ms.take i)).here (gen ns (ms.take i)).new (gen ns (ms.take i)).gone (gen ns (ms.take i)).evs,
    ⟨none, none, rfl, start.mono e4⟩, fun i σ' H' h => by obtain ⟨_, _, _, h⟩ := h; exact h.sm, ?_, ?_⟩
  · rintro i d v σ' Ha Hb hd ⟨x8, x9, rfl, hL⟩ eb hv
    rw [List.getElem?_map] at hd
    obtain ⟨m, hmi, rfl⟩ := Option.map_eq_some_iff.mp hd
    cases hv
    refine g_nm ?_
    have hg := gen_ok hnd (ms.take i)
    simp only [gen_next hmi]
    have hgl := gen_len ns (ms.take i)
    rw [List.length_take] at hgl
    generalize gen ns (ms.take i) = g at hg hL hgl
    replace hL := hL.mono eb
    have hper := hg.perm.length_eq
    rw [List.length_append, List.length_append] at hper
    have hev : ∀ {H5 : Hp} {h n go : List Str} {ev : List Evt}, L4 K H H5 la lb lc le h n go ev → Is K H5 (.ref la) (.list (h.map .str)) ∧ Is K H5 (.ref lb) (.list (n.map .str)) ∧ Is K H5 (.ref lc) (.list (go.map .str)) := fun x => ⟨.lst x.ha (AllIs.of_strs _), .lst x.hb (AllIs.of_strs _), .lst x.hc (AllIs.of_strs _)⟩
    have lenI : ∀ l : List Str, ((l.map PyData.str).length : Int) = (l.length : Int) := fun l => by rw [List.length_map]
    have hdiv : ∀ k : Nat, 0 < k → k < 100 → (0 : Int) < (k : Int) ∧ (k : Int) < 1073741824 := fun k h1 h2 => by omega
    obtain ⟨iA, iB, iC⟩ := hev hL
    have emp : ∀ l : List Str, decide ((l.length : Int) = 0) = l.isEmpty := fun l => by cases l <;> simp <;> omega
    refine s_if (b := g.comes m) (et_is (et_and (a := decide (m % 5 < 2) || g.here.isEmpty) (b := decide (0 < g.com) && decide (0 < g.new.length + g.gone.length)) (et_or (et_test (ev_op (ev_op (ev_intI (iI rfl)) ev_int (rd_mod (by decide))) ev_int rd_lt)) fun _ => et_test (ev_is (ev_op (ev_lenL (ev_var rfl iA)) ev_int rd_eqI) (by rw [lenI, emp])))
      fun _ => et_and (et_test (ev_op (iI rfl) ev_int rd_gt)) fun _ => et_test (ev_is (ev_op (ev_op (ev_lenL (ev_var rfl iB)) (ev_lenL (ev_var rfl iC)) rd_addI) ev_int rd_gt) (by rw [lenI, lenI]; congr 1; rw [decide_eq_decide]; omega))) (by unfold Gen.comes; rw [Bool.and_assoc])) (fun hb H5 e5 => ?_) (fun hb H5 e5 => ?_)
    · -- one comes
      have es : g.step m = { here := g.here ++ [g.inName m], new := if g.again m then g.new else g.new.drop 1, gone := if g.again m then g.gone.eraseIdx (Gen.ix m g.gone) else g.gone, com := g.com - 1, evs := g.evs ++ [(true, g.inName m)] } := by
        unfold Gen.step
        rw [if_pos hb]
      rw [es]
      have hL5 := hL.mono e5
      refine q_asg (P := IsD K (.int (g.com - 1))) (ev_op (iI rfl) ev_int rd_sub) fun u H6 e6 hu => ?_
      have := Is.intV hu
      subst this
      have hL6 := hL5.mono e6
      obtain ⟨jA, jB, jC⟩ := hev hL6
      have hcm : 0 < g.new.length + g.gone.length := by
        unfold Gen.comes at hb
        rw [Bool.and_eq_true] at hb
        exact of_decide_eq_true hb.2
      refine q_ifJ (fun σ' H' => σ' = [some vm, some vst, some vn, some (.int (g.com - 1)), some (.ref la), some (.ref lb), some (.ref lc), some (.ref le), some (.int m), some (.str (g.inName m))] ∧ L4 K H H' la lb lc le g.here (if g.again m then g.new else g.new.drop 1) (if g.again m then g.gone.eraseIdx (Gen.ix m g.gone) else g.gone) g.evs) (b := g.again m)
        (et_and (a := decide (0 < g.gone.length)) (et_test (ev_is (ev_op (ev_lenL (ev_var rfl jC)) ev_int rd_gt) (by rw [lenI]; congr 1; rw [decide_eq_decide]; omega))) fun _ => et_or (a := g.new.isEmpty) (et_test (ev_is (ev_op (ev_lenL (ev_var rfl jB)) ev_int rd_eqI) (by rw [lenI, emp]))) fun _ => et_test (ev_op (ev_op (ev_op (ev_intI (iI rfl)) ev_int (rd_div (by decide))) ev_int (rd_mod (by decide))) ev_int rd_eqI))
        (fun ha H7 e7 N hN => ?_) (fun ha H7 e7 N hN => ?_) ?_
      · have hgl0 : 0 < g.gone.length := by
          unfold Gen.again at ha
          rw [Bool.and_eq_true] at ha
          exact of_decide_eq_true ha.1
        have hL7 := hL6.mono e7
        have hix := Gen.ix_lt m hgl0
        have hnm : g.inName m = g.gone.getD (Gen.ix m g.gone) Str.empty := by unfold Gen.inName; rw [if_pos ha]
        have hgx : g.gone[Gen.ix m g.gone]? = some (g.inName m) := by rw [hnm, List.getD_eq_getElem?_getD, List.getElem?_eq_getElem hix]; rfl
        refine s_popAt (j := Gen.ix m g.gone) (z := m / 15 % (g.gone.length : Int)) (y := .str (g.inName m)) hL7.hc (ev_slot rfl) (ev_op (ev_op (ev_intI (iI rfl)) ev_int (rd_div (by decide))) (ev_is (ev_lenL (ev_var rfl (jC.mono e7))) (by rw [lenI])) (rd_mod (by omega))) (by unfold Gen.ix; have := Int.emod_nonneg (m / 15) (b := (g.gone.length : Int)) (by omega); omega) (by rw [List.getElem?_map, hgx]; rfl) (by rw [List.length_map]; omega) fun H8 e8 => hN _ _ ⟨rfl, ?_⟩
        rw [if_pos ha, if_pos ha]
        have := (hL7.mono e8).upC (g.gone.eraseIdx (Gen.ix m g.gone))
        rw [show (g.gone.map V.str).eraseIdx (Gen.ix m g.gone) = (g.gone.eraseIdx (Gen.ix m g.gone)).map V.str from (map_erase_ix _ _).symm]
        exact this
      · have hL7 := hL6.mono e7
        have hne : g.new ≠ [] := fun z => by
          have : 0 < g.gone.length := by rw [z] at hcm; simpa using hcm
          unfold Gen.again at ha
          rw [z, decide_eq_true this] at ha
          cases ha
        obtain ⟨y, r, hyr⟩ := List.exists_cons_of_ne_nil hne
        have hnm : g.inName m = y := by unfold Gen.inName; rw [ha, hyr]; rfl
        refine s_popAt (j := 0) (z := 0) (y := .str (g.inName m)) hL7.hb (ev_slot rfl) ev_int rfl (by rw [hnm, hyr]; rfl) (by rw [List.length_map]; omega) fun H8 e8 => hN _ _ ⟨rfl, ?_⟩
        rw [ha]
        have := (hL7.mono e8).upB (g.new.drop 1)
        rw [show (g.new.map V.str).eraseIdx 0 = (g.new.drop 1).map V.str by rw [hyr]; rfl]
        exact this
      · rintro σ' H8 ⟨rfl, hL8⟩
        refine q_app (K := K) hL8.ha (ev_slot rfl) (ev_slot (v := .str (g.inName m)) rfl) (by rw [List.length_map]; omega) fun u H9 e9 hu => ?_
        subst hu
        have hL9 := (hL8.mono e9).upA (g.here ++ [g.inName m])
        rw [List.map_append] at hL9
        have hL9 : L4 K H (upd H9 la (.lst (g.here.map V.str ++ [V.str (g.inName m)]))) la lb lc le (g.here ++ [g.inName m]) _ _ g.evs := hL9
        obtain ⟨xs, hxs, hxa⟩ := hL9.he
        refine s_app (K := K) hxs (ev_slot rfl) (ev_tup (ea2 ev_str (iS rfl)) (by show 2 ≤ 100000; decide)) (by rw [hxa.len, List.length_map]; omega) fun u H10 e10 hu => ?_
        exact ⟨_, _, rfl, (hL9.mono e10).upE (y := (true, g.inName m)) (e10 _ _ hxs) hu⟩
    · -- one goes, or none
      have hL5 := hL.mono e5
      obtain ⟨jA, jB, jC⟩ := hev hL5
      refine s_if (b := !g.here.isEmpty) (et_test (ev_is (ev_op (ev_lenL (ev_var rfl jA)) ev_int rd_gt) (by rw [lenI, ← emp]; congr 1; rw [← decide_not, decide_eq_decide]; omega))) (fun hh H6 e6 => ?_) (fun hh H6 e6 => ?_)
      · have hh : g.here.isEmpty = false := by simpa using hh
        have es : g.step m = { here := g.here.erase (g.outName m), new := g.new, gone := g.gone ++ [g.outName m], com := g.com, evs := g.evs ++ [(false, g.outName m)] } := by
          unfold Gen.step
          rw [if_neg (by rw [hb]; exact Bool.false_ne_true), if_neg (by rw [hh]; exact Bool.false_ne_true)]
        rw [es]
        have hout := Gen.out_mem (g := g) (m := m) hh
        obtain ⟨y, r, hyr⟩ := List.exists_cons_of_ne_nil (l := g.here) (fun z => by rw [z] at hh; cases hh)
        have hl0 : 0 < g.here.length := by rw [hyr]; exact Nat.succ_pos _
        have hL6 := hL5.mono e6
        obtain ⟨kA, kB, kC⟩ := hev hL6
        refine q_asg (ev_op (ev_var rfl kA) ev_int (rd_ix (d := .str (g.here.headD Str.empty)) (.inl rfl) (atI_n (j := 0) rfl (by rw [hyr]; rfl)))) fun u H7 e7 hu => ?_
        have := Is.strV hu
        subst this
        have hL7 := hL6.mono e7
        have hix := Gen.ix_lt m hl0
        refine q_whenJ (fun σ' H' => σ' = [some vm, some vst, some vn, some (.int g.com), some (.ref la), some (.ref lb), some (.ref lc), some (.ref le), some (.int m), some (.str (g.outName m))] ∧ Same H7 H') (b := decide (0 < m / 5 % 3)) (et_test (ev_op (ev_op (ev_op (ev_intI (iI rfl)) ev_int (rd_div (by decide))) ev_int (rd_mod (by decide))) ev_int rd_gt)) (fun ho H8 e8 N hN => ?_) (fun ho H8 e8 => ⟨?_, e8⟩) ?_
        · have ho := of_decide_eq_true ho
          have hnm : g.outName m = g.here.getD (Gen.ix m g.here) Str.empty := by unfold Gen.outName; rw [if_pos ho]
          have hgx : g.here[Gen.ix m g.here]? = some (g.outName m) := by rw [hnm, List.getD_eq_getElem?_getD, List.getElem?_eq_getElem hix]; rfl
          refine s_asg (ev_op (ev_var rfl ((kA.mono e7).mono e8)) (ev_op (ev_op (ev_intI (iI rfl)) ev_int (rd_div (by decide))) (ev_is (ev_lenL (ev_var rfl ((kA.mono e7).mono e8))) (by rw [lenI])) (rd_mod (by omega))) (rd_ix (d := .str (g.outName m)) (.inl rfl) (atI_n (j := Gen.ix m g.here) (by unfold Gen.ix; have := Int.emod_nonneg (m / 15) (b := (g.here.length : Int)) (by omega); omega) (by rw [List.getElem?_map, hgx]; rfl)))) fun u H9 e9 hu => ?_
          have := Is.strV hu
          subst this
          exact hN _ _ ⟨rfl, e8.trans e9⟩
        · have ho := of_decide_eq_false ho
          have hnm : g.outName m = g.here.headD Str.empty := by unfold Gen.outName; rw [if_neg ho]
          rw [hnm]
          rfl
        · rintro σ' H8 ⟨rfl, e8⟩
          have hL8 := hL7.mono e8
          refine q_remS (K := K) hL8.ha (ev_slot rfl) (iS rfl) hout fun H9 e9 => ?_
          have hL9 := (hL8.mono e9).upA (g.here.erase (g.outName m))
          refine q_app (K := K) hL9.hc (ev_slot rfl) (ev_slot (v := .str (g.outName m)) rfl) (by rw [List.length_map]; omega) fun u H10 e10 hu => ?_
          subst hu
          have hL10 := (hL9.mono e10).upC (g.gone ++ [g.outName m])
          rw [List.map_append] at hL10
          have hL10 : L4 K H (upd H10 lc (.lst (g.gone.map V.str ++ [V.str (g.outName m)]))) la lb lc le (g.here.erase (g.outName m)) g.new (g.gone ++ [g.outName m]) g.evs := hL10
          obtain ⟨xs, hxs, hxa⟩ := hL10.he
          refine s_app (K := K) hxs (ev_slot rfl) (ev_tup (ea2 ev_str (iS rfl)) (by show 2 ≤ 100000; decide)) (by rw [hxa.len, List.length_map]; omega) fun u H11 e11 hu => ?_
          exact ⟨_, _, rfl, (hL10.mono e11).upE (y := (false, g.outName m)) (e11 _ _ hxs) hu⟩
      · have hh : g.here.isEmpty = true := by simpa using hh
        have es : g.step m = g := by
          unfold Gen.step
          rw [if_neg (by rw [hb]; exact Bool.false_ne_true), if_pos hh]
        rw [es]
        exact ⟨_, _, rfl, hL5.mono e6⟩
  · rintro σ' H' ⟨x8, x9, rfl, hL⟩
    rw [List.length_map, List.take_length] at hL
    obtain ⟨xs, hxs, hxa⟩ := hL.he
    exact s_ret (P := IsD K (evsD (gen ns ms).evs)) (ev_tupOf (.inl rfl) (ev_var rfl (.lst hxs hxa))) fun u H2 e2 hu => q _ u H2 hp (hL.sm.trans e2) hu
end
end K33

set_option Elab.async false
set_option linter.all false
set_option maxRecDepth 100000
set_option maxHeartbeats 4000000
/-! the law's stays. -/
namespace K33
open PySem PySem.Spec PyProof.Rows L2
def shut (n : Nat) (x : Str) (i : Nat) (s : Stay) : Stay := if s.nm = x ∧ s.e = (n : Int) then ⟨s.nm, s.b, i⟩ else s
def shutTo (n : Nat) (x : Str) (i : Nat) (found : List Stay) (j : Nat) : List Stay := (found.take j).map (shut n x i) ++ found.drop j
theorem shutTo_get {n : Nat} {x : Str} {i : Nat} {found : List Stay} {j k : Nat} : (shutTo n x i found j)[k]? = if k < j then (found[k]?).map (shut n x i) else found[k]? := by
  unfold shutTo
  by_cases h : k < j
  · rw [if_pos h]
    by_cases hk : k < found.length
    · rw [List.getElem?_append_left (by rw [List.length_map, List.length_take]; omega), List.getElem?_map, List.getElem?_take_of_lt h]
    · rw [List.getElem?_append_right (by rw [List.length_map, List.length_take]; omega), List.getElem?_drop, List.getElem?_eq_none (by rw [List.length_map, List.length_take]; omega), List.getElem?_eq_none (by omega)]
      rfl
  · rw [if_neg h]
    by_cases hj : j ≤ found.length
    · rw [List.getElem?_append_right (by rw [List.length_map, List.length_take]; omega), List.getElem?_drop, List.length_map, List.length_take]
      congr 1
      omega
    · rw [List.getElem?_eq_none (by rw [List.length_append, List.length_map, List.length_take, List.length_drop]; omega), List.getElem?_eq_none (by omega)]
theorem shutTo_next {n : Nat} {x : Str} {i : Nat} {found : List Stay} {j : Nat} {s : Stay} (h : found[j]? = some s) : shutTo n x i found (j + 1) = (shutTo n x i found j).set j (shut n x i s) := by
  apply List.ext_getElem?
  intro k
  have hjl := (List.getElem?_eq_some_iff.mp h).1
  have hlen : (shutTo n x i found j).length = found.length := by
    unfold shutTo
    rw [List.length_append, List.length_map, List.length_take, List.length_drop]
    omega
  rw [List.getElem?_set, shutTo_get, shutTo_get]
  by_cases hk : j = k
  · subst hk
    rw [if_pos (Nat.lt_succ_self _), if_pos rfl, if_pos (by omega), h]
    rfl
  · rw [if_neg hk]
    by_cases hk2 : k < j
    · rw [if_pos (by omega), if_pos hk2]
    · rw [if_neg (by omega), if_neg hk2]
theorem shutTo_same {n : Nat} {x : Str} {i : Nat} {found : List Stay} {j : Nat} {s : Stay} (h : found[j]? = some s) (hs : shut n x i s = s) : shutTo n x i found (j + 1) = shutTo n x i found j := by
  rw [shutTo_next h, hs]
  apply List.ext_getElem?
  intro k
  rw [List.getElem?_set]
  by_cases hk : j = k
  · subst hk
    rw [if_pos rfl, shutTo_get, if_neg (Nat.lt_irrefl _), h, if_pos]
    have : (shutTo n x i found j)[j]? = some s := by rw [shutTo_get, if_neg (Nat.lt_irrefl _), h]
    exact (List.getElem?_eq_some_iff.mp this).1
  · rw [if_neg hk]
theorem shutTo_all {n : Nat} {x : Str} {i : Nat} {found : List Stay} : shutTo n x i found found.length = stStep n found i (false, x) := by
  unfold shutTo
  rw [List.take_length, List.drop_length, List.append_nil]
  rfl
def pre_lstays : Pr := fun ds Post => ∃ es : List Evt, ds = [.tuple [], evsD es] ∧ es.length ≤ 1000 ∧ Post (.list ((staysOf es).map stD))
section
variable {P : Program} {w : World} {K : Fg} {mg : Str → Option Value} {base : Heap} {f : Addr} {fd : FuncData} {C : Addr}
/-- slots: _stacks 0, _events_here 1, _found 2, _e 3, _stay 4, _name 5 -/
theorem sc_law_stays : FnScope ["_law_stacks", "_law_events_here", "_law_found", "_law_e", "_law_stay", "_law_name"] ["_law_stacks", "_law_events_here"] (defScope s_law_stays) := ⟨rfl, rfl, rfl, by decide +kernel, rfl, by decide +kernel, by decide +kernel⟩
theorem ok_law_stays (F : Fun K "_law_stays" "_law_stays" s_law_stays f fd) (B : Blt mg) (G__law_boxes : Fn P w K mg base CX0 1 "_law_boxes" ["_law_stacks"] (spNil K)) : FnOk P w K mg base CX0 2 f fd ["_law_stacks", "_law_events_here"] (SpD K pre_lstays) := by
  refine F.ok sc_law_stays (spd_len fun ds Post h => by obtain ⟨es, rfl, _⟩ := h; rfl) (fun cdv A outer s H vs Q E hr h => ?_)
  obtain ⟨ds, Post, a, ⟨es, rfl, hz, hp⟩, q⟩ := h
  refine ⟨_, (pss_cons (ps_setLc (own := [("_law_name", 5)]) (i := 2) rfl sc_law_stays.nd rfl rfl (sw_true rfl rfl rfl (by decide +kernel)) (seq_K (K := K) rfl (pe_fn G__law_boxes (hr.mono (by decide)) (by rfl) pass0 (pa_cons (pv 0) pa_nil))) (blkOk_by (own := [("_law_name", 5)]) (N := ["_law_stacks", "_law_events_here", "_law_found", "_law_e", "_law_stay", "_law_name"]) (sc := (defScope s_law_stays)) (by decide +kernel)) (fun _ _ _ _ _ => (pg_name (i := 5) sc_law_stays.nd rfl (Or.inl rfl))) (fun _ _ _ _ _ => pts_nil) (fun _ _ _ _ _ => (pe_lst (pa_cons (pv 5) (pa_cons (pe_un un_neg pe_int) (pa_cons (pe_callB (len_K (K := K) rfl) (by rfl) B.len PySem.boot_len (pa_cons (pv 1) pa_nil)) pa_nil))))))
      (pss_cons (ps_for PassesOwn.never rfl (pi_range1 (by rfl) B.range (pa_cons (pe_callB (len_K (K := K) rfl) (by rfl) B.len PySem.boot_len (pa_cons (pv 1) pa_nil)) pa_nil)) (pg_name (i := 3) sc_law_stays.nd rfl (Or.inl rfl)) (pss_one (ps_if (pt_cmpR (op_eqK (K := K) rfl hr.units) (pe_ix (ix_K (K := K) rfl) (pe_ix (ix_K (K := K) rfl) (pv 1) (pv 3) (fun _ _ => rfl)) pe_int (fun _ _ => rfl)) pe_str (nomark _)) (pss_one (ps_expr (bm_K (K := K) rfl PySem.F.plainAttrs_list PySem.F.slot_list_append PySem.F.type_list_append mt_append (pv 2) (pa_cons (pe_lst (pa_cons (pe_ix (ix_K (K := K) rfl) (pe_ix (ix_K (K := K) rfl) (pv 1) (pv 3) (fun _ _ => rfl)) pe_int (fun _ _ => rfl)) (pa_cons (pv 3) (pa_cons (pe_callB (len_K (K := K) rfl) (by rfl) B.len PySem.boot_len (pa_cons (pv 1) pa_nil)) pa_nil)))) pa_nil)))) (pss_one (ps_for PassesOwn.never rfl (seq_K (K := K) rfl (pv 2)) (pg_name (i := 4) sc_law_stays.nd rfl (Or.inl rfl)) (pss_one (ps_if (PW.pt (pw_and (pt_cmpR (op_eqK (K := K) rfl hr.units) (pe_ix (ix_K (K := K) rfl) (pv 4) pe_int (fun _ _ => rfl)) (pe_ix (ix_K (K := K) rfl) (pe_ix (ix_K (K := K) rfl) (pv 1) (pv 3) (fun _ _ => rfl)) pe_int (fun _ _ => rfl)) (nomark _)) (pw_and1 (pt_cmpR (op_eqK (K := K) rfl hr.units) (pe_ix (ix_K (K := K) rfl) (pv 4) pe_int (fun _ _ => rfl)) (pe_callB (len_K (K := K) rfl) (by rfl) B.len PySem.boot_len (pa_cons (pv 1) pa_nil)) (nomark _))))) (pss_one (ps_asg (pv 3) (pg_sub (pv 4) pe_int set_list))) pss_nil)))))))
      (pss_one (ps_ret (pe_lc (own := [("_law_stay", 4)]) rfl sc_law_stays.nd (seq_K (K := K) rfl (pv 2)) (blkOk_by (own := [("_law_stay", 4)]) (N := ["_law_stacks", "_law_events_here", "_law_found", "_law_e", "_law_stay", "_law_name"]) (sc := (defScope s_law_stays)) (by decide +kernel)) (fun _ _ _ _ _ => (pg_name (i := 4) sc_law_stays.nd rfl (Or.inl rfl))) (fun _ _ _ _ _ => pts_nil) (fun _ _ _ _ _ => (pe_callTy (tup_K (K := K) rfl) (by rfl) B.tuple (by decide +kernel) (pa_cons (pv 4) pa_nil)))))))), ?_⟩
  obtain ⟨vst, ve, rfl, hst, hve⟩ := all2 a
  have iI : ∀ {σ : L2.St} {H : Hp} {i : Nat} {n : Int}, σ[i]? = some (some (.int n)) → Ev (tVar i) σ H (IsD K (.int n)) := fun h => ev_var h (.int _)
  have elen : ((es.map evD).length : Int) = (es.length : Int) := by rw [List.length_map]
  refine q_asgL (el_rows (ew_seq (ds := []) (.inl rfl) (el_nil (ev_slot rfl) hst).ev) (fun _ => []) (by decide) (fun d hd => by cases hd) (fun d hd => by cases hd)) fun l xs0 H0 hl e0 h0 a0 => ?_
  cases a0
  refine q_forW (C := fun _ _ => True) (ew_rng1 (n := es.length) (ea1 (ev_is (ev_lenT (ev_var rfl (hve.mono e0))) (by rw [elen]))) (by omega) (by omega) (by omega)) fun H1 e1 => ⟨fun i σ' H' => ∃ x3 x4 as, σ' = [some vst, some ve, some (.ref l), x3, x4, none] ∧ Same H H' ∧ Cells H H' l as (staysTo es i),
    ⟨none, none, [], rfl, e0.trans e1, hl, e1 _ _ h0, rfl, .nil, by simp, by simp, fun j a s h => by simp at h⟩, fun _ _ _ _ => True.intro, ?_, ?_⟩
  · rintro i d v σ' Ha Hb hd ⟨x3, x4, as, rfl, ea, hc⟩ eb hv
    have hi : i < es.length := by
      have := (List.getElem?_eq_some_iff.mp hd).1
      rw [List.length_map, List.length_range] at this
      exact this
    rw [List.getElem?_map, List.getElem?_range hi] at hd
    cases hd
    cases hv
    refine g_nm ?_
    obtain ⟨b, x, hev⟩ : ∃ b x, es[i]? = some (b, x) := ⟨es[i].1, es[i].2, List.getElem?_eq_getElem hi⟩
    simp only [staysTo_next hev]
    have hsl : (staysTo es i).length ≤ i := by
      rw [staysTo_len (Nat.le_of_lt hi)]
      refine Nat.le_trans (List.length_filter_le _ _) ?_
      rw [List.length_take]
      exact Nat.min_le_left ..
    generalize staysTo es i = found at hc hsl
    have hcb := hc.mono eb
    have sb := ea.trans eb
    have gE : ∀ {H2 : Hp} (e : Same H H2) {σ : L2.St}, σ[1]? = some (some ve) → σ[3]? = some (some (.int (i : Int))) → Ev (tOp (rIx K) (tVar 1) (tVar 3)) σ H2 (IsD K (evD (b, x))) := fun {H2} e {σ} h1 h3 =>
      ev_op (ev_var h1 (hve.mono e)) (ev_var h3 (.int _)) (rd_ix (.inr rfl) (atI_n rfl (by rw [List.getElem?_map, hev]; rfl)))
    have gW : ∀ {H2 : Hp} (e : Same H H2) {σ : L2.St}, σ[1]? = some (some ve) → σ[3]? = some (some (.int (i : Int))) → Ev (tOp (rIx K) (tOp (rIx K) (tVar 1) (tVar 3)) (tC (.int 0))) σ H2 (IsD K (.str (wordS b))) := fun {H2} e {σ} h1 h3 => ev_op (gE e h1 h3) ev_int (rd_ix (.inr rfl) (atI_n (j := 0) rfl rfl))
    have gX : ∀ {H2 : Hp} (e : Same H H2) {σ : L2.St}, σ[1]? = some (some ve) → σ[3]? = some (some (.int (i : Int))) → Ev (tOp (rIx K) (tOp (rIx K) (tVar 1) (tVar 3)) (tC (.int 1))) σ H2 (IsD K (.str x)) := fun {H2} e {σ} h1 h3 => ev_op (gE e h1 h3) ev_int (rd_ix (.inr rfl) (atI_n (j := 1) rfl rfl))
    refine s_if (b := decide (wordS b = ("in" : Str))) (et_test (ev_op (gW sb rfl rfl) ev_str rd_eqS)) (fun hb H3 e3 => ?_) (fun hb H3 e3 => ?_)
    · have hbt : b = true := by
        cases b with
        | true => rfl
        | false => exact absurd (of_decide_eq_true hb) (by decide +kernel)
      subst hbt
      have hc3 := hcb.mono e3
      refine s_app (K := K) hc3.lst (ev_slot rfl) (evL_new (el_lst (ea_cons (gX (sb.trans e3) rfl rfl) (ea2 (iI rfl) (ev_is (ev_lenT (ev_var rfl (hve.mono (sb.trans e3)))) (by rw [elen])))) (by show 3 ≤ 100000; decide))) (by rw [List.length_map, hc3.len]; omega) fun u H6 e6 hu => ?_
      obtain ⟨pa, xs, rfl, hpa1, hpa2, hpa3⟩ := hu
      have := num3 hpa3
      subst this
      exact ⟨_, _, as ++ [pa], rfl, Same.mut ((sb.trans e3).trans e6) hl, (hc3.mono e6).push (s := ⟨x, i, es.length⟩) hpa1 (sb.trans e3) e6 (by rw [hc3.lst]; exact fun z => nomatch z) (fun a ha z => by
          obtain ⟨j, hj⟩ := List.getElem?_of_mem ha
          obtain ⟨s, hs⟩ : ∃ s, found[j]? = some s := ⟨_, List.getElem?_eq_getElem (by rw [← hc3.len]; exact (List.getElem?_eq_some_iff.mp hj).1)⟩
          rw [hc3.cell j a s hj hs] at z
          cases z) hpa2⟩
    · have hbf : b = false := by
        cases b with
        | false => rfl
        | true => exact absurd (rfl : wordS true = "in") (of_decide_eq_false hb)
      subst hbf
      have hc3 := hcb.mono e3
      refine .inl ⟨_, rfl, l, rfl, ⟨_, SqL.of hc3.lst⟩, for_list (K := K) (a := l) (xs := as.map V.ref) (fun j σ' H' => ∃ x4, σ' = [some vst, some ve, some (.ref l), some (.int (i : Int)), x4, none] ∧ Same H H' ∧ Cells H H' l as (shutTo es.length x i found j)) ⟨x4, rfl, sb.trans e3, hc3⟩ (fun j σ' H' _ h => ?_) (fun j y σ' H' hj h => ?_) (fun σ' H' h => ?_)⟩
      · obtain ⟨_, _, _, h⟩ := h
        exact SqL.of h.lst
      · obtain ⟨x4', rfl, e4, hc4⟩ := h
        rw [List.getElem?_map] at hj
        obtain ⟨aj, haj, rfl⟩ := Option.map_eq_some_iff.mp hj
        have hjl := (List.getElem?_eq_some_iff.mp haj).1
        have hlen := hc.len
        obtain ⟨s, hs⟩ : ∃ s, found[j]? = some s := ⟨_, List.getElem?_eq_getElem (by omega)⟩
        have hs' : (shutTo es.length x i found j)[j]? = some s := by rw [shutTo_get, if_neg (Nat.lt_irrefl _), hs]
        have hcell := hc4.cell j aj s haj hs'
        have hIs : ∀ {H5 : Hp}, Same H' H5 → Is K H5 (.ref aj) (stL s) := fun e => .lst (e _ _ hcell) (.cons (.str _) (.cons (.int _) (.cons (.int _) .nil)))
        refine g_nm ?_
        refine s_when (b := decide (s.nm = x) && decide (s.e = (es.length : Int))) (et_and (et_test (ev_op (ev_op (ev_var rfl (hIs (Same.refl _))) ev_int (rd_ix (d := .str s.nm) (.inl rfl) (atI_n (j := 0) rfl rfl))) (gX e4 rfl rfl) rd_eqS)) fun _ => et_test (ev_op (ev_op (ev_var rfl (hIs (Same.refl _))) ev_int (rd_ix (d := .int s.e) (.inl rfl) (atI_n (j := 2) rfl rfl))) (ev_is (ev_lenT (ev_var rfl (hve.mono e4))) (by rw [elen])) rd_eqI)) (fun hb2 H5 e5 => ?_) (fun hb2 H5 e5 => ?_)
        · rw [Bool.and_eq_true] at hb2
          have hsh : shut es.length x i s = ⟨s.nm, s.b, i⟩ := if_pos ⟨of_decide_eq_true hb2.1, of_decide_eq_true hb2.2⟩
          refine s_setL (K := K) (P := fun v _ => v = .int (i : Int)) (j := 2) (z := 2) (e5 _ _ hcell) (ev_slot rfl) (fun _ _ _ _ h => h) (ev_slot rfl) ev_int rfl (by show 2 < 3; decide) fun u H6 e6 hu => ?_
          subst hu
          refine ⟨_, rfl, Same.mut (e4.trans (e5.trans e6)) (hc4.fr _ (List.mem_of_getElem? haj)), ?_⟩
          rw [shutTo_next hs, hsh]
          exact ((hc4.mono (e5.trans e6)).set haj hs')
        · have hsh : shut es.length x i s = s := if_neg fun z => by
            rw [decide_eq_true z.1, decide_eq_true z.2] at hb2
            cases hb2
          refine ⟨_, rfl, e4.trans e5, ?_⟩
          rw [shutTo_same hs hsh]
          exact hc4.mono e5
      · obtain ⟨x4', rfl, e4, hc4⟩ := h
        rw [List.length_map, hc.len, shutTo_all] at hc4
        exact ⟨_, _, as, rfl, e4, hc4⟩
  · rintro σ' H' ⟨x3, x4, as, rfl, ea, hc⟩
    rw [List.length_map, List.length_range] at hc
    have hsl : (staysTo es es.length).length ≤ 1000 := Nat.le_trans (staysOf_len (es := es)) hz
    refine s_retD (el_mapS toTup (.inl rfl) (ev_var rfl hc.is) (by rw [List.length_map]; omega) (fun _ => rfl) (fun d hd v H3 e3 hv => ?_) (fun d hd => ?_)).ev ?_ fun v H1 e hv => q _ v H1 hp (ea.trans e) hv
    · obtain ⟨s, _, rfl⟩ := List.mem_map.mp hd
      exact ev_tupOf (.inl rfl) (ev_var rfl hv)
    · obtain ⟨s, _, rfl⟩ := List.mem_map.mp hd
      rfl
    · rw [List.map_map]
      rfl
/-- slots: _one 0, _other 1 -/
theorem sc_law_clash : FnScope ["_law_one", "_law_other"] ["_law_one", "_law_other"] (defScope s_law_clash) := ⟨rfl, rfl, rfl, by decide +kernel, rfl, by decide +kernel, by decide +kernel⟩
theorem ok_law_clash (F : Fun K "_law_clash" "_law_clash" s_law_clash f fd) (B : Blt mg) : FnOk P w K mg base CX0 1 f fd ["_law_one", "_law_other"] (SpD K pre_apart) := by
  refine F.ok sc_law_clash (spd_len fun ds Post h => by obtain ⟨a, b, rfl, _⟩ := h; rfl) (fun cdv A outer s H vs Q E hr h => ?_)
  obtain ⟨ds, Post, a, ⟨x, y, rfl, hp⟩, q⟩ := h
  refine ⟨_, (pss_one (ps_ret (pe_or (pe_chain3 op_lt op_lt op_lt (pe_ix (ix_K (K := K) rfl) (pv 0) pe_int (fun _ _ => rfl)) (pe_ix (ix_K (K := K) rfl) (pv 1) pe_int (fun _ _ => rfl)) (pe_ix (ix_K (K := K) rfl) (pv 0) pe_int (fun _ _ => rfl)) (pe_ix (ix_K (K := K) rfl) (pv 1) pe_int (fun _ _ => rfl))) (pe_one (pe_chain3 op_lt op_lt op_lt (pe_ix (ix_K (K := K) rfl) (pv 1) pe_int (fun _ _ => rfl)) (pe_ix (ix_K (K := K) rfl) (pv 0) pe_int (fun _ _ => rfl)) (pe_ix (ix_K (K := K) rfl) (pv 1) pe_int (fun _ _ => rfl)) (pe_ix (ix_K (K := K) rfl) (pv 0) pe_int (fun _ _ => rfl))))))), ?_⟩
  obtain ⟨v, u, rfl, hv, hu⟩ := all2 a
  have i1 : ∀ s : Stay, atI [PyData.str s.nm, .int s.b, .int s.e] 1 = some (.int s.b) := fun s => atI_n (j := 1) rfl rfl
  have i2 : ∀ s : Stay, atI [PyData.str s.nm, .int s.b, .int s.e] 2 = some (.int s.e) := fun s => atI_n (j := 2) rfl rfl
  exact s_retD (ev_orV (ev_chain3 (ev_op (ev_var rfl hv) ev_int (rd_ix (.inr rfl) (i1 x))) (ev_op (ev_var rfl hu) ev_int (rd_ix (.inr rfl) (i1 y))) (ev_op (ev_var rfl hv) ev_int (rd_ix (.inr rfl) (i2 x))) (ev_op (ev_var rfl hu) ev_int (rd_ix (.inr rfl) (i2 y))) rd_lt rd_lt rd_lt) fun _ =>
    ev_chain3 (ev_op (ev_var rfl hu) ev_int (rd_ix (.inr rfl) (i1 y))) (ev_op (ev_var rfl hv) ev_int (rd_ix (.inr rfl) (i1 x))) (ev_op (ev_var rfl hu) ev_int (rd_ix (.inr rfl) (i2 y))) (ev_op (ev_var rfl hv) ev_int (rd_ix (.inr rfl) (i2 x))) rd_lt rd_lt rd_lt) rfl fun v H1 e hv => q _ v H1 hp e hv
end
end K33

set_option Elab.async false
set_option linter.all false
set_option maxRecDepth 100000
set_option maxHeartbeats 4000000
/-! the law's least number. -/
namespace K33
open PySem PySem.Spec PyProof.Rows L2
def rowL (r : List Nat) : PyData := .list (r.map natD)
theorem filt_yes {α : Type} {n : Nat} {f : Nat → Bool} {g : Nat → α} (h : f n = true) : ((List.range (n + 1)).filter f).map g = ((List.range n).filter f).map g ++ [g n] := by
  rw [List.range_succ, List.filter_append, List.map_append, List.filter_cons, if_pos h] <;> rfl
theorem filt_no {α : Type} {n : Nat} {f : Nat → Bool} {g : Nat → α} (h : f n = false) : ((List.range (n + 1)).filter f).map g = ((List.range n).filter f).map g := by
  rw [List.range_succ, List.filter_append, List.map_append, List.filter_cons, if_neg (by rw [h]; decide)]
  show _ ++ [] = _
  rw [List.append_nil]
theorem top_mem : ∀ {r : List Nat}, r ≠ [] → ∃ x ∈ r, x + 1 = top r
  | [], h => absurd rfl h
  | [x], _ => ⟨x, by simp, by simp [top]⟩
  | x :: y :: r, _ => by
    obtain ⟨z, hz, e⟩ := top_mem (r := y :: r) (by simp)
    show ∃ x_1 ∈ x :: y :: r, x_1 + 1 = max (x + 1) (top (y :: r))
    rcases Nat.le_total (x + 1) (top (y :: r)) with h | h
    · exact ⟨z, List.mem_cons_of_mem _ hz, by omega⟩
    · exact ⟨x, List.mem_cons_self .., by omega⟩
theorem exists_min {α : Type} (f : α → Nat) : ∀ {l : List α}, l ≠ [] → ∃ a ∈ l, ∀ b ∈ l, f a ≤ f b
  | [], h => absurd rfl h
  | [a], _ => ⟨a, by simp, fun b hb => by rw [List.mem_singleton.mp hb]; exact Nat.le_refl _⟩
  | a :: b :: l, _ => by
    obtain ⟨c, hc, h⟩ := exists_min f (l := b :: l) (by simp)
    rcases Nat.le_total (f a) (f c) with h2 | h2
    · refine ⟨a, List.mem_cons_self .., fun x hx => ?_⟩
      rcases List.mem_cons.mp hx with e | e
      · rw [e]; exact Nat.le_refl _
      · exact Nat.le_trans h2 (h x e)
    · refine ⟨c, List.mem_cons_of_mem _ hc, fun x hx => ?_⟩
      rcases List.mem_cons.mp hx with e | e
      · rw [e]; exact h2
      · exact h x e
def pre_lleast : Pr := fun ds Post => ∃ sts : List Stay, ds = [.list (sts.map stD)] ∧ sts.length ≤ 6 ∧ ∀ k, Least (clT sts) sts.length k → Post (natD k)
section
variable {K : Fg} {σ : L2.St} {H : Hp} {te : TE}
/-- max(row + [-1]) -/
theorem ev_top {r : List Nat} (h : Ev te σ H (IsD K (rowL r))) (hl : r.length ≤ 1000) : Ev (tCB (rMax K) (tCons (tOp (rAddU K) te (tLst (tCons (tUn (rU fun i => .int (-i)) (tC (.int 1))) tNil))) tNil)) σ H (IsD K (.int ((top r : Int) - 1))) := by
  refine ev_max (ns := r.map (fun (x : Nat) => (x : Int)) ++ [-1]) (ev_is (ev_addL h (ev_lst (ea1 (ev_un ev_int ud_neg)) (by decide)) (by rw [List.length_map]; simp; omega)) ?_) ?_ ?_
  · rw [List.map_append, List.map_map]
    rfl
  · cases r with
    | nil => simp [top]
    | cons a r =>
      obtain ⟨x, hx, e⟩ := top_mem (r := a :: r) (by simp)
      refine List.mem_append_left _ (List.mem_map.mpr ⟨x, hx, ?_⟩)
      omega
  · intro y hy
    rcases List.mem_append.mp hy with h | h
    · obtain ⟨x, hx, rfl⟩ := List.mem_map.mp h
      have := lt_top hx
      omega
    · rw [List.mem_singleton.mp h]
      omega
end
section
variable {K : Fg} {σ : L2.St} {H Hb : Hp} {tl : TE} {D : Ends} {tu tz : TS} {g : TG} {v : V}
/-- over a sequence that stood in Hb: its items as they stood there -/
theorem s_forB {s : PyData} {ds : List PyData} (hs : s = .list ds ∨ s = .tuple ds) (h : Ev tl σ H (fun w _ => w = v)) (hb : Same Hb H) (hv : Is K Hb v s) (k : ∀ H1, Same H H1 → ∃ Pv : Nat → L2.St → Hp → Prop, Pv 0 σ H1 ∧ (∀ i σ' H', Pv i σ' H' → Same Hb H') ∧
    (∀ (i : Nat) d w σ' H', ds[i]? = some d → Pv i σ' H' → Is K Hb w d → g w σ' H' fun σ2 H2 => tu { D with nx := Pv (i + 1), ct := Pv (i + 1), bk := D.nx } σ2 H2) ∧ ∀ σ' H', Pv ds.length σ' H' → D.nx σ' H') : tFor (iSeq K tl) g tu D σ H := by
  rcases hs with e' | e'
  · subst e'
    refine .inl (h H (Same.refl _) _ fun w H1 e1 hw => ?_)
    subst hw
    obtain ⟨Pv, h0, hk, hst, hd⟩ := k H1 e1
    cases hv with
    | @lst p xs _ s a =>
      refine ⟨p, rfl, ⟨xs, SqL.of ((hb.trans e1) _ _ s)⟩, for_list Pv h0 (fun i σ' H' _ pv => SqL.of (hk i σ' H' pv _ _ s)) (fun i x σ' H' hx pv => ?_) (fun σ' H' pv => ?_)⟩
      · obtain ⟨d, hd', hxd⟩ := a.getV hx
        exact hst i d x σ' H' hd' pv hxd
      · rw [a.len] at pv
        exact hd σ' H' pv
  · subst e'
    refine .inr (h H (Same.refl _) _ fun w H1 e1 hw => ?_)
    subst hw
    obtain ⟨Pv, h0, hk, hst, hd⟩ := k H1 e1
    cases hv with
    | @tup p xs _ s a =>
      refine ⟨p, rfl, ⟨xs, same_t (hb.trans e1) s⟩, for_tup Pv h0 (fun i σ' H' _ pv => same_t (hk i σ' H' pv) s) (fun i x σ' H' hx pv => ?_) (fun σ' H' pv => ?_)⟩
      · obtain ⟨d, hd', hxd⟩ := a.getV hx
        exact hst i d x σ' H' hd' pv hxd
      · rw [a.len] at pv
        exact hd σ' H' pv
theorem q_forB {s : PyData} {ds : List PyData} (hs : s = .list ds ∨ s = .tuple ds) (h : Ev tl σ H (fun w _ => w = v)) (hb : Same Hb H) (hv : Is K Hb v s) (k : ∀ H1, Same H H1 → ∃ Pv : Nat → L2.St → Hp → Prop, Pv 0 σ H1 ∧ (∀ i σ' H', Pv i σ' H' → Same Hb H') ∧
    (∀ (i : Nat) d w σ' H', ds[i]? = some d → Pv i σ' H' → Is K Hb w d → g w σ' H' fun σ2 H2 => tu { D with nx := Pv (i + 1), ct := Pv (i + 1), bk := tz D } σ2 H2) ∧ ∀ σ' H', Pv ds.length σ' H' → tz D σ' H') : tSeq (tFor (iSeq K tl) g tu) tz D σ H := s_forB (D := { D with nx := tz D }) hs h hb hv k
end
theorem rows_is {K : Fg} {H : Hp} {l Dl : Addr} {xs : List V} {acc : List (List Nat)} (hl : H l = some (.lst xs)) (h : RowsIs K H Dl xs (acc.map fun r => r.map natD)) : Is K H (.ref l) (.list (acc.map rowL)) := by
  have := h.all
  rw [List.map_map] at this
  exact .lst hl this
section
variable {P : Program} {w : World} {K : Fg} {mg : Str → Option Value} {base : Heap} {f : Addr} {fd : FuncData} {C : Addr}
/-- slots: _stays_here 0, _found 1, _one 2, _longer 3, _row_here 4, _k 5, _j 6 -/
theorem sc_law_least : FnScope ["_law_stays_here", "_law_found", "_law_one", "_law_longer", "_law_row_here", "_law_k", "_law_j"] ["_law_stays_here"] (defScope s_law_least) := ⟨rfl, rfl, rfl, by decide +kernel, rfl, by decide +kernel, by decide +kernel⟩
theorem ok_law_least (F : Fun K "_law_least" "_law_least" s_law_least f fd) (B : Blt mg) (G__law_clash : Fn P w K mg base CX0 1 "_law_clash" ["_law_one", "_law_other"] (SpD K pre_apart)) : FnOk P w K mg base CX0 2 f fd ["_law_stays_here"] (SpD K pre_lleast) := by
  refine F.ok sc_law_least (spd_len fun ds Post h => by obtain ⟨sts, rfl, _⟩ := h; rfl) (fun cdv A outer s H vs Q E hr h => ?_)
  obtain ⟨ds, Post, a, ⟨sts, rfl, hn, hp⟩, q⟩ := h
  refine ⟨_, (pss_cons (ps_set (i := 1) sc_law_least.nd rfl (Or.inl rfl) (pe_lst (pa_cons (pe_lst pa_nil) pa_nil)))
      (pss_cons (ps_for PassesOwn.never rfl (seq_K (K := K) rfl (pv 0)) (pg_name (i := 2) sc_law_least.nd rfl (Or.inr rfl)) (pss_cons (ps_set (i := 3) sc_law_least.nd rfl (Or.inl rfl) (pe_lst pa_nil))
      (pss_cons (ps_for PassesOwn.never rfl (seq_K (K := K) rfl (pv 1)) (pg_name (i := 4) sc_law_least.nd rfl (Or.inr rfl)) (pss_one (ps_for PassesOwn.never rfl (pi_range1 (by rfl) B.range (pa_cons (pe_op (op_addK (K := K) rfl) (pe_callB (max_K (K := K) rfl rfl) (by rfl) B.max (by decide +kernel) (pa_cons (pe_op (op_addK (K := K) rfl) (pv 4) (pe_lst (pa_cons (pe_un un_neg pe_int) pa_nil))) pa_nil)) pe_int) pa_nil)) (pg_name (i := 5) sc_law_least.nd rfl (Or.inr rfl)) (pss_one (ps_if (pt_cmpR (op_eqK (K := K) rfl hr.units) (pe_callB (len_K (K := K) rfl) (by rfl) B.len PySem.boot_len (pa_cons (pe_lc (own := [("_law_j", 6)]) rfl sc_law_least.nd (pi_range1 (by rfl) B.range (pa_cons (pe_callB (len_K (K := K) rfl) (by rfl) B.len PySem.boot_len (pa_cons (pv 4) pa_nil)) pa_nil)) (blkOk_by (own := [("_law_j", 6)]) (N := ["_law_stays_here", "_law_found", "_law_one", "_law_longer", "_law_row_here", "_law_k", "_law_j"]) (sc := (defScope s_law_least)) (by decide +kernel)) (fun _ _ _ _ _ => (pg_name (i := 6) sc_law_least.nd rfl (Or.inl rfl))) (fun _ _ _ _ _ => (pts_one (PW.pt (pw_and (pt_cmpR (op_eqK (K := K) rfl hr.units) (pe_ix (ix_K (K := K) rfl) (pv 4) (pv 6) (fun _ _ => rfl)) (pv 5) (nomark _)) (pw_and1 (pt_val (pe_fn G__law_clash (hr.mono (by decide)) (by rfl) pass0 (pa_cons (pe_ix (ix_K (K := K) rfl) (pv 0) (pv 6) (fun _ _ => rfl)) (pa_cons (pv 2) pa_nil))))))))) (fun _ _ _ _ _ => (pv 6))) pa_nil)) pe_int (nomark _)) (pss_one (ps_expr (bm_K (K := K) rfl PySem.F.plainAttrs_list PySem.F.slot_list_append PySem.F.type_list_append mt_append (pv 3) (pa_cons (pe_op (op_addK (K := K) rfl) (pv 4) (pe_lst (pa_cons (pv 5) pa_nil))) pa_nil)))) pss_nil)))))
      (pss_one (ps_set (i := 1) sc_law_least.nd rfl (Or.inl rfl) (pv 3))))))
      (pss_one (ps_ret (pe_callB (min_K (K := K) rfl rfl) (by rfl) B.min (by decide +kernel) (pa_cons (pe_lc (own := [("_law_row_here", 4)]) rfl sc_law_least.nd (seq_K (K := K) rfl (pv 1)) (blkOk_by (own := [("_law_row_here", 4)]) (N := ["_law_stays_here", "_law_found", "_law_one", "_law_longer", "_law_row_here", "_law_k", "_law_j"]) (sc := (defScope s_law_least)) (by decide +kernel)) (fun _ _ _ _ _ => (pg_name (i := 4) sc_law_least.nd rfl (Or.inl rfl))) (fun _ _ _ _ _ => pts_nil) (fun _ _ _ _ _ => (pe_op (op_addK (K := K) rfl) (pe_callB (max_K (K := K) rfl rfl) (by rfl) B.max (by decide +kernel) (pa_cons (pe_op (op_addK (K := K) rfl) (pv 4) (pe_lst (pa_cons (pe_un un_neg pe_int) pa_nil))) pa_nil)) pe_int))) pa_nil)))))), ?_⟩
  obtain ⟨vs0, rfl, hvs⟩ := all1 a
  have iI : ∀ {σ : L2.St} {H : Hp} {i : Nat} {n : Int}, σ[i]? = some (some (.int n)) → Ev (tVar i) σ H (IsD K (.int n)) := fun h => ev_var h (.int _)
  generalize hT : clT sts = T at hp
  have hnT : ∀ j, j ≤ sts.length → (rgs T j).length ≤ 7 ^ 6 := fun j hj => Nat.le_trans (rgs_size j (by omega)) (Nat.pow_le_pow_right (by decide) (by omega))
  refine q_one (P := IsD K (.list [])) (ev_lst ea_nil (by decide)) fun v0 H0 l0 e0 hv0 hl0 => ?_
  refine q_forW (ew_seqB (v := vs0) (Hb := H) (.inl rfl) (ev_slot rfl) (e0.trans (Same.new hl0)) hvs) fun H1 e1 => ⟨fun i σ' H' => ∃ vf x2 x3 x4 x5, σ' = [some vs0, some vf, x2, x3, x4, x5, none] ∧ Same H H' ∧ Is K H' vf (.list ((rgs T i).map rowL)),
    ⟨.ref l0, none, none, none, none, rfl, (e0.trans (Same.new hl0)).trans e1, .lst (e1 _ _ upd_same) (.cons ((Is.mono (Same.new hl0) hv0).mono e1) .nil)⟩, fun i σ' H' h => by obtain ⟨_, _, _, _, _, _, h, _⟩ := h; exact h, ?_, ?_⟩
  · rintro i d v σ' Ha Hb hd ⟨vf, x2, x3, x4, x5, rfl, ea, hvf⟩ eb hv
    rw [List.getElem?_map] at hd
    obtain ⟨one, hone, rfl⟩ := Option.map_eq_some_iff.mp hd
    have hi := (List.getElem?_eq_some_iff.mp hone).1
    refine g_nm ?_
    have hvfb := hvf.mono eb
    have sb := ea.trans eb
    refine q_asgL (K := K) (el_lst ea_nil (by decide)) fun ll xs0 H2 hll e2 h2 a2 => ?_
    cases a2
    refine q_forB (v := vf) (Hb := Hb) (.inl rfl) (ev_slot rfl) e2 hvfb fun H3 e3 => ⟨fun j σ' H' => ∃ x4 x5, σ' = [some vs0, some vf, some v, some (.ref ll), x4, x5, none] ∧ Same Hb H' ∧ ∃ xs, H' ll = some (.lst xs) ∧ RowsIs K H' ll xs ((((rgs T i).take j).flatMap (rgsNext T)).map fun r => r.map natD),
      ⟨x4, x5, rfl, e2.trans e3, [], e3 _ _ h2, .nil⟩, fun j σ' H' h => by obtain ⟨_, _, _, h, _⟩ := h; exact h, ?_, ?_⟩
    · rintro j d u σ' Hc hd2 ⟨y4, y5, rfl, ec, xs, hxs, hR⟩ hub
      rw [List.getElem?_map] at hd2
      obtain ⟨row, hrow, rfl⟩ := Option.map_eq_some_iff.mp hd2
      have hmem : row ∈ rgs T i := List.mem_of_getElem? hrow
      have hrl : row.length = i := rgs_len hmem
      have htop := rgs_top hmem
      refine g_nm ?_
      have hu := hub.mono ec
      have hpre : (((rgs T i).take j).flatMap (rgsNext T)).length ≤ j * 7 := by
        refine Nat.le_trans (flatMap_le _ 7 _ fun x hx => Nat.le_trans (rgsNext_le (List.mem_of_mem_take hx)) (by omega)) (Nat.mul_le_mul_right _ ?_)
        rw [List.length_take]
        exact Nat.min_le_left ..
      have hj7 : j < 7 ^ 6 := Nat.lt_of_lt_of_le (List.getElem?_eq_some_iff.mp hrow).1 (hnT i (Nat.le_of_lt hi))
      have eNext : ((rgs T i).take (j + 1)).flatMap (rgsNext T) = ((rgs T i).take j).flatMap (rgsNext T) ++ rgsNext T row := by
        rw [List.take_add_one, hrow, List.flatMap_append]
        congr 1
        exact List.flatMap_singleton ..
      simp only [eNext]
      generalize ((rgs T i).take j).flatMap (rgsNext T) = pre at hR hpre
      -- each stack in turn
      have sd := sb.trans ec
      refine s_forW (C := fun _ _ => True) (ew_rng1 (n := top row + 1) (ea1 (ev_op (ev_top (ev_var rfl hu) (by omega)) ev_int rd_addI)) (by omega) (by omega) (by omega)) fun H4 e4 => ⟨fun k σ' H' => ∃ x5, σ' = [some vs0, some vf, some v, some (.ref ll), some u, x5, none] ∧ Same Hb H' ∧ ∃ xs, H' ll = some (.lst xs) ∧ RowsIs K H' ll xs ((pre ++ ((List.range k).filter fun k => !barred T row k).map fun k => row ++ [k]).map fun r => r.map natD),
        ⟨y5, rfl, ec.trans e4, xs, e4 _ _ hxs, by rw [List.range_zero]; show RowsIs K _ _ _ ((pre ++ []).map _); rw [List.append_nil]; exact hR.mono e4⟩, fun _ _ _ _ => True.intro, ?_, ?_⟩
      · rintro k d3 x σ' Hx Hy hd3 ⟨x5', rfl, ex, ys, hys, hRx⟩ ey hx
        have hk : k < top row + 1 := by
          have := (List.getElem?_eq_some_iff.mp hd3).1
          rw [List.length_map, List.length_range] at this
          exact this
        rw [List.getElem?_map, List.getElem?_range hk] at hd3
        cases hd3
        cases hx
        refine g_nm ?_
        have sy := sb.trans (ex.trans ey)
        have huy := hub.mono (ex.trans ey)
        have hvy : Is K Hy v (stD one) := hv.mono (ex.trans ey)
        refine s_when (b := !barred T row k) (et_test (ev_is (ev_op (ev_lenL (el_lcR (n := row.length) (fun j => decide (row[j]? = some k) && T i j) (fun j => natD j) (ea1 (ev_lenL (ev_var rfl huy))) (by rw [List.length_map]; omega) (by omega) (by omega) (fun _ => rfl) (fun j Hz ez hj => ?_) (fun j Hz ez hj _ => ev_var rfl (.int _)) (fun _ _ _ => rfl)).ev) ev_int rd_eqI) ?_)) (fun hb Hz ez => ?_) (fun hb Hz ez => ?_)
        · have hrj : row[j]? = some row[j] := List.getElem?_eq_getElem hj
          obtain ⟨sj, hsj⟩ : ∃ sj, sts[j]? = some sj := ⟨_, List.getElem?_eq_getElem (by omega)⟩
          have eT : T i j = clash sj one := by
            rw [← hT]
            show clash (sts.getD i noStay) (sts.getD j noStay) = _
            rw [List.getD_eq_getElem?_getD, List.getD_eq_getElem?_getD, hsj, hone, clash_comm]
            rfl
          rw [eT]
          refine et_and (a := decide (row[j]? = some k)) (et_is (et_test (ev_op (ev_op (ev_var rfl (huy.mono ez)) (ev_var rfl (.int _)) (rd_ix (d := natD row[j]) (.inl rfl) (atI_n rfl (by rw [List.getElem?_map, hrj]; rfl)))) (iI rfl) rd_eqI)) ?_) fun _ => et_test (ev_callF (ea2 (ev_op (ev_var rfl (hvs.mono (sy.trans ez))) (ev_var rfl (.int _)) (rd_ix (.inl rfl) (atI_n rfl (by rw [List.getElem?_map, hsj]; rfl)))) (ev_var rfl (hvy.mono ez))) ⟨sj, one, rfl, rfl⟩)
          rw [hrj, decide_eq_decide]
          constructor
          · intro h
            congr 1
            omega
          · intro h
            have : row[j] = k := Option.some.inj h
            omega
        · unfold given barred
          rw [List.length_map, hrl]
          congr 1
          generalize (List.range i) = l
          generalize (fun (j : Nat) => decide (row[j]? = some k) && T i j) = ff
          cases hany : l.any ff with
          | true =>
            obtain ⟨x, hx1, hx2⟩ := List.any_eq_true.mp hany
            have : 0 < (l.filter ff).length := List.length_pos_of_mem (List.mem_filter.mpr ⟨hx1, hx2⟩)
            exact decide_eq_false (by omega)
          | false =>
            have : l.filter ff = [] := List.filter_eq_nil_iff.mpr fun x hx h2 => by
              have := List.any_eq_false.mp hany x hx
              exact this h2
            rw [this]
            rfl
        · simp only [filt_yes (f := fun k => !barred T row k) (g := fun k => row ++ [k]) hb, ← List.append_assoc]
          have hlen := hRx.len
          have hbound : (pre ++ ((List.range k).filter fun k => !barred T row k).map fun k => row ++ [k]).length < 1000000 := by
            rw [List.length_append, List.length_map]
            have := List.length_filter_le (fun k => !barred T row k) (List.range k)
            rw [List.length_range] at this
            have : 7 ^ 6 = 117649 := rfl
            omega
          refine s_app (K := K) ((ey.trans ez) _ _ hys) (ev_slot rfl) (evL_new (el_addL (ev_var rfl (huy.mono ez)) (ev_lst (ea1 (iI rfl)) (by show 1 ≤ 100000; decide)) (by rw [List.length_map]; simp; omega))) (by rw [hlen, List.length_map]; exact hbound) fun w' Hw ew hw => ?_
          obtain ⟨p, zs, rfl, hp1, hp2, hp3⟩ := hw
          have hys' := ((ey.trans ez).trans ew) _ _ hys
          have hne : p ≠ ll := fun z => by
            rw [z, (ey.trans ez) _ _ hys] at hp1
            cases hp1
          have hnl : nlAll (row.map natD ++ [natD k]) = true := by
            rw [nlAll_append, nlAll_map (fun _ => rfl)]
            rfl
          refine ⟨_, rfl, Same.mut (ex.trans (ey.trans (ez.trans ew))) hll, _, upd_same, ?_⟩
          · have e1' : ((pre ++ ((List.range k).filter fun k => !barred T row k).map fun k => row ++ [k]) ++ [row ++ [k]]).map (fun r => r.map natD) = ((pre ++ ((List.range k).filter fun k => !barred T row k).map fun k => row ++ [k]).map fun r => r.map natD) ++ [row.map natD ++ [natD k]] := by
              rw [List.map_append (l₂ := [row ++ [k]])]
              show _ ++ [(row ++ [k]).map natD] = _
              rw [List.map_append (l₁ := row)]
              rfl
            rw [e1']
            exact ((hRx.mono ((ey.trans ez).trans ew)).upd hys').snoc hne (by rw [upd_ne hne]; exact hp2) (hp3.monoT (SameT.of_lst hys') hnl) hnl
        · simp only [filt_no (f := fun k => !barred T row k) (g := fun k => row ++ [k]) hb]
          exact ⟨_, rfl, ex.trans (ey.trans ez), ys, (ey.trans ez) _ _ hys, hRx.mono (ey.trans ez)⟩
      · rintro σ' H' ⟨x5', rfl, ex, ys, hys, hRx⟩
        rw [List.length_map, List.length_range] at hRx
        exact ⟨_, _, rfl, ex, ys, hys, hRx⟩
    · rintro σ' H' ⟨y4, y5, rfl, ec, xs, hxs, hR⟩
      rw [List.length_map, List.take_length] at hR
      exact s_asg (ev_var rfl (rows_is hxs hR)) fun vr H5 e5 hvr => ⟨vr, _, _, _, _, rfl, (sb.trans ec).trans e5, hvr⟩
  · rintro σ' H' ⟨vf, x2, x3, x4, x5, rfl, ea, hvf⟩
    rw [List.length_map] at hvf
    obtain ⟨r0, hr0, hmin⟩ := exists_min top (rgs_ne (T := T) sts.length)
    have hL : Least T sts.length (top r0) := rgs_least ⟨r0, hr0, rfl⟩ hmin
    have hz : ((rgs T sts.length).map rowL).length ≤ 1000000 := by
      rw [List.length_map]
      exact Nat.le_trans (hnT _ (Nat.le_refl _)) (by decide)
    refine s_ret (P := IsD K (natD (top r0))) (ev_min (ns := (rgs T sts.length).map fun r => ((top r : Nat) : Int)) (ev_is (el_mapS (fun d => match d with | .list ds => .int ((top (ds.map intN) : Nat) : Int) | _ => .none) (.inl rfl) (ev_var rfl hvf) hz (fun _ => rfl) (fun d hd y H2 e2 hy => ?_) (fun d hd => ?_)).ev ?_) (List.mem_map.mpr ⟨r0, hr0, rfl⟩) (fun y hy => ?_)) fun u H2 e2 hu => q _ u H2 (hp _ hL) (ea.trans e2) hu
    · obtain ⟨r, hr, rfl⟩ := List.mem_map.mp hd
      have hrl := rgs_len hr
      refine ev_is (ev_op (ev_top (ev_var rfl hy) (by omega)) ev_int rd_addI) ?_
      show PyData.int _ = .int ((top ((r.map natD).map intN) : Nat) : Int)
      rw [List.map_map, show (intN ∘ natD) = id from rfl, List.map_id]
      congr 1
      omega
    · obtain ⟨r, hr, rfl⟩ := List.mem_map.mp hd
      rfl
    · rw [List.map_map, List.map_map]
      congr 1
      apply List.map_congr_left
      intro r _
      show PyData.int ((top ((r.map natD).map intN) : Nat) : Int) = _
      rw [List.map_map, show (intN ∘ natD) = id from rfl, List.map_id]
      rfl
    · obtain ⟨r, hr, rfl⟩ := List.mem_map.mp hy
      have := hmin r hr
      omega
end
end K33

set_option Elab.async false
set_option linter.all false
set_option maxRecDepth 100000
set_option maxHeartbeats 4000000
/-! the law's crowds and papers. -/
namespace K33
open PySem PySem.Spec PyProof.Rows L2
def crowdB (T : Nat → Nat → Bool) (n : Nat) (l : List Nat) (k : Nat) : Bool := decide (l.length = k) && isCrowd T n l
def pre_lcrowd : Pr := fun ds Post => ∃ (sts : List Stay) (l : List Nat) (k : Nat), ds = [.list (sts.map stD), rowD l, .int k] ∧ sts.length ≤ 1000 ∧ l.length ≤ 1000 ∧ Post (.bool (crowdB (clT sts) sts.length l k))
def pre_hcrowd : Pr := fun ds Post => ∃ (sts : List Stay) (k : Nat), ds = [.list (sts.map stD), .int k] ∧ sts.length ≤ 6 ∧ Post (.bool ((foundL (clT sts) sts.length k sts.length).any fun r => decide (r.length = k)))
def lawPaper (T : Nat → Nat → Bool) (n k : Nat) (s : Str) : Option (List Nat) → Bool
  | none => decide (s = "search")
  | some l => decide (s = "crowd") && crowdB T n l k
def pre_lpaper : Pr := fun ds Post => ∃ (sts : List Stay) (k : Nat) (row : List Nat) (s : Str) (o : Option (List Nat)), ds = [.list (sts.map stD), .int k, .tuple [rowD row, valD s o]] ∧ sts.length ≤ 6 ∧ Least (clT sts) sts.length k ∧ Col (clT sts) sts.length k row ∧ PyData.strOk s = true ∧ (∀ l, o = some l → l.length ≤ 900) ∧ Post (.bool (lawPaper (clT sts) sts.length k s o))
theorem clT_get {sts : List Stay} {i j : Nat} {a b : Stay} (hi : sts[i]? = some a) (hj : sts[j]? = some b) : clT sts i j = clash a b := by
  show clash (sts.getD i noStay) (sts.getD j noStay) = _
  rw [List.getD_eq_getElem?_getD, List.getD_eq_getElem?_getD, hi, hj]
  rfl
/-- a crowd, by places -/
theorem crowd_ix {T : Nat → Nat → Bool} {n : Nat} {l : List Nat} (h1 : l.Pairwise (· < ·)) (h2 : ∀ x ∈ l, x < n) (h3 : ∀ a b x y : Nat, a < b → l[a]? = some x → l[b]? = some y → T x y = true) : Crowd T n l := by
  refine ⟨?_, h2⟩
  rw [List.pairwise_iff_getElem] at h1 ⊢
  intro i j hi hj hij
  exact ⟨h1 i j hi hj hij, h3 i j _ _ hij (List.getElem?_eq_getElem hi) (List.getElem?_eq_getElem hj)⟩
theorem crowd_at {T : Nat → Nat → Bool} {n : Nat} {l : List Nat} (h : Crowd T n l) {a b x y : Nat} (hab : a < b) (ha : l[a]? = some x) (hb : l[b]? = some y) : x < y ∧ T x y = true := by
  have h1 := h.1
  rw [List.pairwise_iff_getElem] at h1
  obtain ⟨la, ea⟩ := List.getElem?_eq_some_iff.mp ha
  obtain ⟨lb, eb⟩ := List.getElem?_eq_some_iff.mp hb
  have := h1 a b la lb hab
  rw [ea, eb] at this
  exact this
section
variable {P : Program} {w : World} {K : Fg} {mg : Str → Option Value} {base : Heap} {f : Addr} {fd : FuncData} {C : Addr}
/-- slots: _stays_here 0, _numbers 1, _k 2, _ahead 3, _number 4, _b 5, _a 6 -/
theorem sc_law_is_crowd : FnScope ["_law_stays_here", "_law_numbers", "_law_k", "_law_ahead", "_law_number", "_law_b", "_law_a"] ["_law_stays_here", "_law_numbers", "_law_k"] (defScope s_law_is_crowd) := ⟨rfl, rfl, rfl, by decide +kernel, rfl, by decide +kernel, by decide +kernel⟩
theorem ok_law_is_crowd (F : Fun K "_law_is_crowd" "_law_is_crowd" s_law_is_crowd f fd) (B : Blt mg) (G__law_clash : Fn P w K mg base CX0 1 "_law_clash" ["_law_one", "_law_other"] (SpD K pre_apart)) (G__law_is_integer : Fn P w K mg base CX0 1 "_law_is_integer" ["_law_value"] (SpD K pre_isI)) :
    FnOk P w K mg base CX0 2 f fd ["_law_stays_here", "_law_numbers", "_law_k"] (SpD K pre_lcrowd) := by
  refine F.ok sc_law_is_crowd (spd_len fun ds Post h => by obtain ⟨sts, l, k, rfl, _⟩ := h; rfl) (fun cdv A outer s H vs Q E hr h => ?_)
  obtain ⟨ds, Post, a, ⟨sts, l, k, rfl, hn, hll, hp⟩, q⟩ := h
  refine ⟨_, (pss_cons (ps_if (PW.pt (pw_or (pt_not (pt_val (pe_callB (isi_K (K := K) rfl) (by rfl) B.isinstance (by decide +kernel) (pa_cons (pv 1) (pa_cons (pe_bltn (v := .ty "tuple") (by rfl) B.tuple (by decide +kernel) rfl) pa_nil))))) (pw_or1 (pt_cmpR (op_neK (K := K) rfl hr.units) (pe_callB (len_K (K := K) rfl) (by rfl) B.len PySem.boot_len (pa_cons (pv 1) pa_nil)) (pv 2) (nomark _))))) (pss_one (ps_ret pe_bl)) pss_nil)
      (pss_cons (ps_set (i := 3) sc_law_is_crowd.nd rfl (Or.inl rfl) (pe_un un_neg pe_int))
      (pss_cons (ps_for PassesOwn.never rfl (seq_K (K := K) rfl (pv 1)) (pg_name (i := 4) sc_law_is_crowd.nd rfl (Or.inl rfl)) (pss_cons (ps_if (PW.pt (pw_or (pt_not (pt_val (pe_fn G__law_is_integer (hr.mono (by decide)) (by rfl) pass0 (pa_cons (pv 4) pa_nil)))) (pw_or (pt_cmpR op_le (pv 4) (pv 3) (nomark _)) (pw_or1 (pt_cmpR op_ge (pv 4) (pe_callB (len_K (K := K) rfl) (by rfl) B.len PySem.boot_len (pa_cons (pv 0) pa_nil)) (nomark _)))))) (pss_one (ps_ret pe_bl)) pss_nil)
      (pss_one (ps_set (i := 3) sc_law_is_crowd.nd rfl (Or.inl rfl) (pv 4)))))
      (pss_cons (ps_for PassesOwn.never rfl (pi_range1 (by rfl) B.range (pa_cons (pv 2) pa_nil)) (pg_name (i := 5) sc_law_is_crowd.nd rfl (Or.inl rfl)) (pss_one (ps_for PassesOwn.never rfl (pi_range1 (by rfl) B.range (pa_cons (pv 5) pa_nil)) (pg_name (i := 6) sc_law_is_crowd.nd rfl (Or.inl rfl)) (pss_one (ps_if (pt_not (pt_val (pe_fn G__law_clash (hr.mono (by decide)) (by rfl) pass0 (pa_cons (pe_ix (ix_K (K := K) rfl) (pv 0) (pe_ix (ix_K (K := K) rfl) (pv 1) (pv 6) (fun _ _ => rfl)) (fun _ _ => rfl)) (pa_cons (pe_ix (ix_K (K := K) rfl) (pv 0) (pe_ix (ix_K (K := K) rfl) (pv 1) (pv 5) (fun _ _ => rfl)) (fun _ _ => rfl)) pa_nil))))) (pss_one (ps_ret pe_bl)) pss_nil)))))
      (pss_one (ps_ret pe_bl)))))), ?_⟩
  obtain ⟨v0, v1, v2, rfl, h0, h1, h2⟩ := all3 a
  cases h2
  have iI : ∀ {σ : L2.St} {H : Hp} {i : Nat} {n : Int}, σ[i]? = some (some (.int n)) → Ev (tVar i) σ H (IsD K (.int n)) := fun h => ev_var h (.int _)
  have elen : ((l.map natD).length : Int) = (l.length : Int) := by rw [List.length_map]
  have eslen : ((sts.map stD).length : Int) = (sts.length : Int) := by rw [List.length_map]
  generalize hT : clT sts = T at hp
  refine q_when (b := !decide (l.length = k)) (et_is (et_or (a := false) (b := !decide (l.length = k)) (et_is (et_not (et_B (ev_isTup (ev_var rfl h1)))) rfl) fun _ => et_test (ev_is (ev_op (ev_lenT (ev_var rfl h1)) (iI rfl) rd_neI) (by rw [elen]; congr 2; rw [decide_eq_decide]; omega))) rfl) (fun hb H1 e1 => ?_) (fun hb H1 e1 => ?_)
  · rw [Bool.not_eq_true'] at hb
    have e0 : crowdB T sts.length l k = false := by unfold crowdB; rw [hb, Bool.false_and]
    exact s_retB (K := K) e0.symm fun u H2 e2 hu => q _ u H2 hp (e1.trans e2) hu
  · rw [Bool.not_eq_false'] at hb
    have hk := of_decide_eq_true hb
    subst hk
    have ec : crowdB T sts.length l l.length = isCrowd T sts.length l := by unfold crowdB; rw [hb, Bool.true_and]
    rw [ec] at hp
    have no : ¬ Crowd T sts.length l → isCrowd T sts.length l = false := fun h => by
      cases e : isCrowd T sts.length l with
      | false => rfl
      | true => exact absurd (isCrowd_iff.mp e) h
    refine q_asg (ev_un (K := K) ev_int ud_neg) fun va H2 e2 hva => ?_
    have := Is.intV hva
    subst this
    have s2 := e1.trans e2
    -- rising, below
    refine q_forB (v := v1) (Hb := H) (.inr rfl) (ev_slot rfl) s2 h1 fun H3 e3 => ⟨fun i σ' H' => ∃ (z : Int) (x4 : Option V), σ' = [some v0, some v1, some (.int (l.length : Int)), some (.int z), x4, none, none] ∧ Same H H' ∧ (l.take i).Pairwise (· < ·) ∧ (∀ x ∈ l.take i, x < sts.length ∧ (x : Int) ≤ z) ∧ (z = -1 ∨ ∃ y ∈ l.take i, z = (y : Int)),
      ⟨-1, none, rfl, s2.trans e3, by rw [List.take_zero]; exact .nil, fun x hx => absurd hx (by rw [List.take_zero]; exact List.not_mem_nil), .inl rfl⟩, fun i σ' H' h => by obtain ⟨_, _, _, h, _⟩ := h; exact h, ?_, ?_⟩
    · rintro i d u σ' Ha hd ⟨z, x4, rfl, ea, hpw, hlt, hz⟩ hu
      rw [List.getElem?_map] at hd
      obtain ⟨x, hx, rfl⟩ := Option.map_eq_some_iff.mp hd
      cases hu
      refine g_nm ?_
      have et : l.take (i + 1) = l.take i ++ [x] := by rw [List.take_add_one, hx]; rfl
      refine q_when (b := decide ((x : Int) ≤ z) || decide ((sts.length : Int) ≤ (x : Int))) (et_is (et_or (a := false) (b := decide ((x : Int) ≤ z) || decide ((sts.length : Int) ≤ (x : Int))) (et_is (et_not (et_B (ev_callF (z := .bool true) (ea1 (iI rfl)) ⟨_, rfl, rfl⟩))) rfl) fun _ => et_or (et_test (ev_op (iI rfl) (iI rfl) rd_le)) fun _ => et_test (ev_is (ev_op (iI rfl) (ev_lenL (ev_var rfl (h0.mono ea))) rd_ge) (by rw [eslen]))) rfl) (fun hb H4 e4 => ?_) (fun hb H4 e4 => ?_)
      · have hno : ¬ Crowd T sts.length l := fun hc => by
          have hxl : x < sts.length := hc.2 x (List.mem_of_getElem? hx)
          have hb1 : (x : Int) ≤ z := by
            rw [Bool.or_eq_true, decide_eq_true_eq, decide_eq_true_eq] at hb
            omega
          rcases hz with hz | ⟨y, hy, hz⟩
          · omega
          · obtain ⟨j, hj⟩ := List.getElem?_of_mem hy
            have hji : j < i := by
              have := (List.getElem?_eq_some_iff.mp hj).1
              rw [List.length_take] at this
              omega
            rw [List.getElem?_take_of_lt hji] at hj
            have := (crowd_at hc hji hj hx).1
            omega
        exact s_retB (K := K) (no hno).symm fun u H5 e5 hu => q _ u H5 hp (ea.trans (e4.trans e5)) hu
      · rw [Bool.or_eq_false_iff, decide_eq_false_iff_not, decide_eq_false_iff_not] at hb
        refine s_asg (ev_slot rfl) fun u H5 e5 hu => ?_
        subst hu
        refine ⟨(x : Int), _, rfl, ea.trans (e4.trans e5), ?_, ?_, ?_⟩
        · rw [et]
          exact pw_snoc.mpr ⟨hpw, fun a ha => by have := (hlt a ha).2; omega⟩
        · rw [et]
          intro y hy
          rcases List.mem_append.mp hy with hy | hy
          · have := hlt y hy
            omega
          · rw [List.mem_singleton.mp hy]
            omega
        · rw [et]
          exact .inr ⟨x, by simp, rfl⟩
    · rintro σ' Ha ⟨z, x4, rfl, ea, hpw, hlt, hz⟩
      rw [List.length_map, List.take_length] at hpw hlt
      -- all clash
      refine q_forW (C := fun _ _ => True) (ew_rng1 (n := l.length) (ea1 (iI rfl)) (by omega) (by omega) (by omega)) fun H4 e4 => ⟨fun b σ' H' => ∃ (x5 x6 : Option V), σ' = [some v0, some v1, some (.int (l.length : Int)), some (.int z), x4, x5, x6] ∧ Same H H' ∧ ∀ p r x y, p < r → r < b → l[p]? = some x → l[r]? = some y → T x y = true,
        ⟨none, none, rfl, ea.trans e4, fun p r x y _ h => absurd h (Nat.not_lt_zero _)⟩, fun _ _ _ _ => True.intro, ?_, ?_⟩
      · rintro b d u σ' Hc Hd hd ⟨x5, x6, rfl, ec2, hT2⟩ ed hu
        have hb : b < l.length := by
          have := (List.getElem?_eq_some_iff.mp hd).1
          rw [List.length_map, List.length_range] at this
          exact this
        rw [List.getElem?_map, List.getElem?_range hb] at hd
        cases hd
        cases hu
        refine g_nm ?_
        have sd := ec2.trans ed
        refine s_forW (C := fun _ _ => True) (ew_rng1 (n := b) (ea1 (iI rfl)) (by omega) (by omega) (by omega)) fun H5 e5 => ⟨fun a σ' H' => ∃ (x6 : Option V), σ' = [some v0, some v1, some (.int (l.length : Int)), some (.int z), x4, some (.int (b : Int)), x6] ∧ Same H H' ∧ ∀ p x y, p < a → l[p]? = some x → l[b]? = some y → T x y = true,
          ⟨x6, rfl, sd.trans e5, fun p x y h => absurd h (Nat.not_lt_zero _)⟩, fun _ _ _ _ => True.intro, ?_, ?_⟩
        · rintro a d u σ' He Hf hd ⟨x6', rfl, ee, hT3⟩ ef hu
          have ha : a < b := by
            have := (List.getElem?_eq_some_iff.mp hd).1
            rw [List.length_map, List.length_range] at this
            exact this
          rw [List.getElem?_map, List.getElem?_range ha] at hd
          cases hd
          cases hu
          refine g_nm ?_
          obtain ⟨x, hx⟩ : ∃ x, l[a]? = some x := ⟨_, List.getElem?_eq_getElem (by omega)⟩
          obtain ⟨y, hy⟩ : ∃ y, l[b]? = some y := ⟨_, List.getElem?_eq_getElem hb⟩
          have hxn := (hlt x (List.mem_of_getElem? hx)).1
          have hyn := (hlt y (List.mem_of_getElem? hy)).1
          obtain ⟨sx, hsx⟩ : ∃ sx, sts[x]? = some sx := ⟨_, List.getElem?_eq_getElem hxn⟩
          obtain ⟨sy, hsy⟩ : ∃ sy, sts[y]? = some sy := ⟨_, List.getElem?_eq_getElem hyn⟩
          have sf := ee.trans ef
          have eT : T x y = clash sx sy := by rw [← hT]; exact clT_get hsx hsy
          have gl : ∀ {i : Nat} {j z : Nat} {sz : Stay} {σ : L2.St}, σ[0]? = some (some v0) → σ[1]? = some (some v1) → σ[i]? = some (some (.int (j : Int))) → l[j]? = some z → sts[z]? = some sz → Ev (tOp (rIx K) (tVar 0) (tOp (rIx K) (tVar 1) (tVar i))) σ Hf (IsD K (stD sz)) := fun {i} {j} {z} {sz} {σ} s0 s1 si hj hz =>
            ev_op (ev_var s0 (h0.mono sf)) (ev_op (ev_var s1 (h1.mono sf)) (iI si) (rd_ix (d := natD z) (.inr rfl) (atI_n rfl (by rw [List.getElem?_map, hj]; rfl)))) (rd_ix (.inl rfl) (atI_n rfl (by rw [List.getElem?_map, hz]; rfl)))
          refine s_when (b := !T x y) (et_not (et_B (ev_callF (ea2 (gl rfl rfl rfl hx hsx) (gl rfl rfl rfl hy hsy)) ⟨sx, sy, rfl, by rw [eT]⟩))) (fun hb2 H6 e6 => ?_) (fun hb2 H6 e6 => ?_)
          · rw [Bool.not_eq_true'] at hb2
            have hno : ¬ Crowd T sts.length l := fun hc => by
              have := (crowd_at hc ha hx hy).2
              rw [hb2] at this
              cases this
            exact s_retB (K := K) (no hno).symm fun u H7 e7 hu => q _ u H7 hp (sf.trans (e6.trans e7)) hu
          · rw [Bool.not_eq_false'] at hb2
            refine ⟨_, rfl, sf.trans e6, fun p x' y' hpa hp' hy' => ?_⟩
            rcases Nat.lt_or_ge p a with h | h
            · exact hT3 p x' y' h hp' hy'
            · have : p = a := by omega
              subst this
              rw [hx] at hp'
              rw [hy] at hy'
              cases hp'
              cases hy'
              exact hb2
        · rintro σ' He ⟨x6', rfl, ee, hT3⟩
          rw [List.length_map, List.length_range] at hT3
          refine ⟨_, _, rfl, ee, fun p r x y hpr hrb hp' hr' => ?_⟩
          rcases Nat.lt_or_ge r b with h | h
          · exact hT2 p r x y hpr h hp' hr'
          · have : r = b := by omega
            subst this
            exact hT3 p x y hpr hp' hr'
      · rintro σ' Hc ⟨x5, x6, rfl, ec2, hT2⟩
        rw [List.length_map, List.length_range] at hT2
        have hyes : isCrowd T sts.length l = true := isCrowd_iff.mpr (crowd_ix hpw (fun x hx => (hlt x hx).1) fun p r x y hpr hp' hr' => hT2 p r x y hpr (List.getElem?_eq_some_iff.mp hr').1 hp' hr')
        exact s_retB (K := K) hyes.symm fun u H5 e5 hu => q _ u H5 hp (ec2.trans e5) hu
/-- slots: _stays_here 0, _k 1, _found 2, _j 3, _row_here 4 -/
theorem sc_law_has_crowd : FnScope ["_law_stays_here", "_law_k", "_law_found", "_law_j", "_law_row_here"] ["_law_stays_here", "_law_k"] (defScope s_law_has_crowd) := ⟨rfl, rfl, rfl, by decide +kernel, rfl, by decide +kernel, by decide +kernel⟩
theorem ok_law_has_crowd (F : Fun K "_law_has_crowd" "_law_has_crowd" s_law_has_crowd f fd) (B : Blt mg) (G__law_is_crowd : Fn P w K mg base CX0 2 "_law_is_crowd" ["_law_stays_here", "_law_numbers", "_law_k"] (SpD K pre_lcrowd)) : FnOk P w K mg base CX0 3 f fd ["_law_stays_here", "_law_k"] (SpD K pre_hcrowd) := by
  refine F.ok sc_law_has_crowd (spd_len fun ds Post h => by obtain ⟨sts, k, rfl, _⟩ := h; rfl) (fun cdv A outer s H vs Q E hr h => ?_)
  obtain ⟨ds, Post, a, ⟨sts, k, rfl, hn, hp⟩, q⟩ := h
  refine ⟨_, (pss_cons (ps_set (i := 2) sc_law_has_crowd.nd rfl (Or.inl rfl) (pe_lst (pa_cons (pe_tup pa_nil) pa_nil)))
      (pss_cons (ps_for PassesOwn.never rfl (pi_range1 (by rfl) B.range (pa_cons (pe_callB (len_K (K := K) rfl) (by rfl) B.len PySem.boot_len (pa_cons (pv 0) pa_nil)) pa_nil)) (pg_name (i := 3) sc_law_has_crowd.nd rfl (Or.inr rfl)) (pss_one (ps_set (i := 2) sc_law_has_crowd.nd rfl (Or.inl rfl) (pe_op (op_addK (K := K) rfl) (pv 2) (pe_lc (own := [("_law_row_here", 4)]) rfl sc_law_has_crowd.nd (seq_K (K := K) rfl (pv 2)) (blkOk_by (own := [("_law_row_here", 4)]) (N := ["_law_stays_here", "_law_k", "_law_found", "_law_j", "_law_row_here"]) (sc := (defScope s_law_has_crowd)) (by decide +kernel)) (fun _ _ _ _ _ => (pg_name (i := 4) sc_law_has_crowd.nd rfl (Or.inl rfl))) (fun _ _ _ _ _ => (pts_one (PW.pt (pw_and (pt_cmpR op_lt (pe_callB (len_K (K := K) rfl) (by rfl) B.len PySem.boot_len (pa_cons (pv 4) pa_nil)) (pv 1) (nomark _)) (pw_and1 (pt_val (pe_fn G__law_is_crowd (hr.mono (by decide)) (by rfl) pass0 (pa_cons (pv 0) (pa_cons (pe_op (op_addK (K := K) rfl) (pv 4) (pe_tup (pa_cons (pv 3) pa_nil))) (pa_cons (pe_op (op_addK (K := K) rfl) (pe_callB (len_K (K := K) rfl) (by rfl) B.len PySem.boot_len (pa_cons (pv 4) pa_nil)) pe_int) pa_nil)))))))))) (fun _ _ _ _ _ => (pe_op (op_addK (K := K) rfl) (pv 4) (pe_tup (pa_cons (pv 3) pa_nil)))))))))
      (pss_one (ps_ret (pe_cmpR op_gt (pe_callB (len_K (K := K) rfl) (by rfl) B.len PySem.boot_len (pa_cons (pe_lc (own := [("_law_row_here", 4)]) rfl sc_law_has_crowd.nd (seq_K (K := K) rfl (pv 2)) (blkOk_by (own := [("_law_row_here", 4)]) (N := ["_law_stays_here", "_law_k", "_law_found", "_law_j", "_law_row_here"]) (sc := (defScope s_law_has_crowd)) (by decide +kernel)) (fun _ _ _ _ _ => (pg_name (i := 4) sc_law_has_crowd.nd rfl (Or.inl rfl))) (fun _ _ _ _ _ => (pts_one (pt_cmpR (op_eqK (K := K) rfl hr.units) (pe_callB (len_K (K := K) rfl) (by rfl) B.len PySem.boot_len (pa_cons (pv 4) pa_nil)) (pv 1) (nomark _)))) (fun _ _ _ _ _ => (pv 4))) pa_nil)) pe_int (nomark _)))))), ?_⟩
  obtain ⟨v0, v1, rfl, h0, h1⟩ := all2 a
  cases h1
  have iI : ∀ {σ : L2.St} {H : Hp} {i : Nat} {n : Int}, σ[i]? = some (some (.int n)) → Ev (tVar i) σ H (IsD K (.int n)) := fun h => ev_var h (.int _)
  have eslen : ((sts.map stD).length : Int) = (sts.length : Int) := by rw [List.length_map]
  generalize hT : clT sts = T at hp
  have hsz : ∀ j, j ≤ 6 → (foundL T sts.length k j).length ≤ 64 := fun j hj => Nat.le_trans (foundL_size j) (Nat.pow_le_pow_right (by decide) hj)
  have hlen : ∀ j r, j ≤ sts.length → r ∈ foundL T sts.length k j → r.length ≤ 6 := fun j r hj hr => by
    obtain ⟨h1, h2, h3⟩ := (foundL_mem hj).mp hr
    have hnd : r.Nodup := h1.1.imp fun h e => absurd h.1 (by rw [e]; exact Nat.lt_irrefl _)
    have := nodup_le (r := List.range sts.length) hnd fun x hx => List.mem_range.mpr (h1.2 x hx)
    rw [List.length_range] at this
    omega
  refine q_asg (ev_lst (K := K) (ea1 (ev_tup ea_nil (by decide))) (by decide)) fun vf H1 e1 hvf => ?_
  refine q_forW (C := fun _ _ => True) (ew_rng1 (n := sts.length) (ea1 (ev_is (ev_lenL (ev_var rfl (h0.mono e1))) (by rw [eslen]))) (by omega) (by omega) (by omega)) fun H2 e2 => ⟨fun j σ' H' => ∃ vf x3, σ' = [some v0, some (.int (k : Int)), some vf, x3, none] ∧ Same H H' ∧ Is K H' vf (.list ((foundL T sts.length k j).map rowD)),
    ⟨vf, none, rfl, e1.trans e2, hvf.mono e2⟩, fun _ _ _ _ => True.intro, ?_, ?_⟩
  · rintro j d u σ' Ha Hb hd ⟨vf, x3, rfl, ea, hf⟩ eb hu
    have hj : j < sts.length := by
      have := (List.getElem?_eq_some_iff.mp hd).1
      rw [List.length_map, List.length_range] at this
      exact this
    rw [List.getElem?_map, List.getElem?_range hj] at hd
    cases hd
    cases hu
    refine g_nm ?_
    have hfb := hf.mono eb
    have sb := ea.trans eb
    have hs1 := hsz j (by omega)
    have ids : ∀ r : List Nat, (r.map natD).map intN = r := fun r => by rw [List.map_map, show (intN ∘ natD) = id from rfl, List.map_id]
    have cmp : EvL K (tLc (iSeq K (tVar 2)) (gName 4) (tAnd (tTest (tOp (rI0 fun i j => .bl (decide (i < j))) (tCB (rLenU K) (tCons (tVar 4) tNil)) (tVar 1))) (tTest (tCall (SpD K pre_lcrowd) [] E0 (tCons (tVar 0) (tCons (tOp (rAddU K) (tVar 4) (tTup (tCons (tVar 3) tNil))) (tCons (tOp (rAddU K) (tCB (rLenU K) (tCons (tVar 4) tNil)) (tC (.int 1))) tNil)))))) (tOp (rAddU K) (tVar 4) (tTup (tCons (tVar 3) tNil))) [4]) [some v0, some (.int (k : Int)), some vf, some (.int (j : Int)), none] Hb
        ((((foundL T sts.length k j).map rowD).filter fun d => match d with | .tuple ds => decide ((ds.map intN).length < k) && isCrowd T sts.length (ds.map intN ++ [j]) | _ => false).map fun d => match d with | .tuple ds => .tuple (ds ++ [natD j]) | _ => .none) := by
      refine el_lcS _ _ (.inl rfl) (ev_var rfl hfb) (by rw [List.length_map]; omega) (fun _ => rfl) (fun d hd y H3 e3 hy => ?_) (fun d hd y H3 e3 hy _ => ?_) (fun d hd _ => ?_)
      · obtain ⟨r, hr, rfl⟩ := List.mem_map.mp hd
        have hrl := hlen j r (by omega) hr
        show EvT _ _ _ (decide (((r.map natD).map intN).length < k) && isCrowd T sts.length ((r.map natD).map intN ++ [j]))
        rw [ids]
        refine et_and (a := decide (r.length < k)) (et_test (ev_is (ev_op (ev_lenT (ev_var rfl hy)) (iI rfl) rd_lt) (by rw [List.length_map]; congr 1; rw [decide_eq_decide]; omega))) fun _ => et_test (ev_callF (ea_cons (ev_var rfl (h0.mono (sb.trans e3))) (ea2 (ev_op (ev_var rfl hy) (ev_tup (ea1 (iI rfl)) (by show 1 ≤ 100000; decide)) (rd_addT (by rw [List.length_map]; simp; omega))) (ev_is (ev_op (ev_lenT (ev_var rfl hy)) ev_int rd_addI) (y := .int ((r.length + 1 : Nat) : Int)) (by rw [List.length_map]; rfl)))) ⟨sts, r ++ [j], r.length + 1, ?_, by omega, by simp; omega, ?_⟩)
        · show [PyData.list (sts.map stD), .tuple (r.map natD ++ [.int (j : Int)]), .int ((r.length + 1 : Nat) : Int)] = [.list (sts.map stD), .tuple ((r ++ [j]).map natD), .int ((r.length + 1 : Nat) : Int)]
          rw [List.map_append]
          rfl
        · rw [hT]
          unfold crowdB
          rw [decide_eq_true (by simp), Bool.true_and]
      · obtain ⟨r, hr, rfl⟩ := List.mem_map.mp hd
        have hrl := hlen j r (by omega) hr
        exact ev_op (ev_var rfl hy) (ev_tup (ea1 (iI rfl)) (by show 1 ≤ 100000; decide)) (rd_addT (by rw [List.length_map]; simp; omega))
      · obtain ⟨r, hr, rfl⟩ := List.mem_map.mp hd
        show nlAll (r.map natD ++ [natD j]) = true
        rw [nlAll_append, nlAll_map (fun _ => rfl)]
        rfl
    have ecl : ((((foundL T sts.length k j).map rowD).filter fun d => match d with | .tuple ds => decide ((ds.map intN).length < k) && isCrowd T sts.length (ds.map intN ++ [j]) | _ => false).map fun d => match d with | .tuple ds => PyData.tuple (ds ++ [natD j]) | _ => .none) = (((foundL T sts.length k j).filter fun r => decide (r.length < k) && isCrowd T sts.length (r ++ [j])).map fun r => r ++ [j]).map rowD := by
      rw [List.filter_map, List.map_map, List.map_map]
      have e1 : ((fun d => match d with | PyData.tuple ds => decide ((ds.map intN).length < k) && isCrowd T sts.length (ds.map intN ++ [j]) | _ => false) ∘ rowD) = fun r => decide (r.length < k) && isCrowd T sts.length (r ++ [j]) := by
        funext r
        show (decide (((r.map natD).map intN).length < k) && isCrowd T sts.length ((r.map natD).map intN ++ [j])) = _
        rw [ids]
      rw [e1]
      apply List.map_congr_left
      intro r _
      show PyData.tuple (r.map natD ++ [natD j]) = .tuple ((r ++ [j]).map natD)
      rw [List.map_append]
      rfl
    rw [ecl] at cmp
    refine s_asg (ev_addL (ev_var rfl hfb) cmp.ev (by
      rw [List.length_map, List.length_map, List.length_map]
      have := List.length_filter_le (fun r => decide (r.length < k) && isCrowd T sts.length (r ++ [j])) (foundL T sts.length k j)
      omega)) fun u H3 e3 hu => ⟨u, _, rfl, sb.trans e3, ?_⟩
    rw [← List.map_append] at hu
    exact hu
  · rintro σ' Ha ⟨vf, x3, rfl, ea, hf⟩
    rw [List.length_map, List.length_range] at hf
    have hs1 := hsz sts.length hn
    refine s_retD (ev_op (ev_lenL (el_lcS (fun d => match d with | .tuple ds => decide (ds.length = k) | _ => false) (fun d => d) (.inl rfl) (ev_var rfl hf) (by rw [List.length_map]; omega) (fun _ => rfl) (fun d hd y H3 e3 hy => ?_) (fun d hd y H3 e3 hy _ => ev_var rfl hy) (fun d hd _ => ?_)).ev) ev_int rd_gt) ?_ fun u H2 e2 hu => q _ u H2 hp (ea.trans e2) hu
    · obtain ⟨r, hr, rfl⟩ := List.mem_map.mp hd
      exact et_test (ev_is (ev_op (ev_lenT (ev_var rfl hy)) (iI rfl) rd_eqI) (by show PyData.bool _ = .bool (decide ((r.map natD).length = k)); congr 1; rw [decide_eq_decide]; omega))
    · obtain ⟨r, hr, rfl⟩ := List.mem_map.mp hd
      exact nlAll_map (f := natD) (fun _ => rfl) r
    · congr 1
      rw [List.map_id', List.filter_map, List.length_map]
      have e1 : ((fun d => match d with | PyData.tuple ds => decide (ds.length = k) | _ => false) ∘ rowD) = fun r => decide (r.length = k) := by
        funext r
        show decide ((r.map natD).length = k) = _
        rw [List.length_map]
      rw [e1]
      generalize foundL T sts.length k sts.length = l
      cases hany : l.any fun r => decide (r.length = k) with
      | true =>
        obtain ⟨x, hx1, hx2⟩ := List.any_eq_true.mp hany
        have : 0 < (l.filter fun r => decide (r.length = k)).length := List.length_pos_of_mem (List.mem_filter.mpr ⟨hx1, hx2⟩)
        exact decide_eq_true (by omega)
      | false =>
        have : (l.filter fun r => decide (r.length = k)) = [] := List.filter_eq_nil_iff.mpr fun x hx h2 => List.any_eq_false.mp hany x hx h2
        rw [this]
        rfl
end
end K33

set_option Elab.async false
set_option linter.all false
set_option maxRecDepth 100000
set_option maxHeartbeats 4000000
/-! the law's papers; same, flat, says. -/
namespace K33
open PySem PySem.Spec PyProof.Rows L2
theorem pe_never {X : Cx} {e : Expr} : PE X e (fun _ _ _ => False) := ⟨fun _ _ _ _ _ _ h => h.elim⟩
def pre_same0 : Pr := fun ds Post => ((∃ i : Int, ds = [.int i, .int i]) ∨ ∃ s : Str, ds = [.str s, .str s]) ∧ Post (.bool true)
def pre_same : Pr := fun ds Post => ((∃ i : Int, ds = [.int i, .int i]) ∨ ∃ (s : Str) (i : Int), ds = [.tuple [.str s, .int i], .tuple [.str s, .int i]]) ∧ Post (.bool true)
def flatP : Nat → PyData → Prop
  | 0, d => (∃ i, d = .int i) ∨ ∃ s, d = .str s
  | n + 1, d => flatP n d ∨ ∃ ds, d = .tuple ds ∧ ds.length ≤ 1000 ∧ ∀ x ∈ ds, flatP n x
def pre_flat (n : Nat) : Pr := fun ds Post => ∃ d, ds = [d] ∧ flatP n d ∧ Post (.bool true)
def pre_says : Pr := fun ds Post => ∃ a b : Bool, ds = [.bool a, .bool b] ∧ Post (.bool (decide (a = b)))
section
variable {P : Program} {w : World} {K : Fg} {mg : Str → Option Value} {base : Heap} {f : Addr} {fd : FuncData} {C : Addr}
/-- slots: _answer 0, _due 1 -/
theorem sc_law_says : FnScope ["_law_answer", "_law_due"] ["_law_answer", "_law_due"] (defScope s_law_says) := ⟨rfl, rfl, rfl, by decide +kernel, rfl, by decide +kernel, by decide +kernel⟩
theorem ok_law_says (F : Fun K "_law_says" "_law_says" s_law_says f fd) (B : Blt mg) : FnOk P w K mg base CX0 1 f fd ["_law_answer", "_law_due"] (SpD K pre_says) := by
  refine F.ok sc_law_says (spd_len fun ds Post h => by obtain ⟨a, b, rfl, _⟩ := h; rfl) (fun cdv A outer s H vs Q E hr h => ?_)
  obtain ⟨ds, Post, a, ⟨x, y, rfl, hp⟩, q⟩ := h
  refine ⟨_, (pss_one (ps_ret (pe_and (pe_callB (isi_K (K := K) rfl) (by rfl) B.isinstance (by decide +kernel) (pa_cons (pv 0) (pa_cons (pe_bltn (v := .ty "bool") (by rfl) B.bool (by decide +kernel) rfl) pa_nil))) (pe_one (pe_cmpR (op_eqK (K := K) rfl hr.units) (pv 0) (pv 1) (nomark _)))))), ?_⟩
  obtain ⟨v, u, rfl, hv, hu⟩ := all2 a
  exact s_retD (ev_andV (ev_isBool (ev_var rfl hv)) fun _ => ev_op (ev_var rfl hv) (ev_var rfl hu) rd_eqB) (by rfl) fun v H1 e hv => q _ v H1 hp e hv
/-- slots: _given 0, _due 1, _k 2 -/
theorem sc_law_same : FnScope ["_law_given", "_law_due", "_law_k"] ["_law_given", "_law_due"] (defScope s_law_same) := ⟨rfl, rfl, rfl, by decide +kernel, rfl, by decide +kernel, by decide +kernel⟩
theorem ok_law_same0 (F : Fun K "_law_same" "_law_same" s_law_same f fd) (B : Blt mg) (G__law_is_integer : Fn P w K mg base CX0 1 "_law_is_integer" ["_law_value"] (SpD K pre_isI)) : FnOk P w K mg base CX0 2 f fd ["_law_given", "_law_due"] (SpD K pre_same0) := by
  refine F.ok sc_law_same (spd_len fun ds Post h => by obtain ⟨h, _⟩ := h; rcases h with ⟨i, rfl⟩ | ⟨s, rfl⟩ <;> rfl) (fun cdv A outer s H vs Q E hr h => ?_)
  obtain ⟨ds, Post, a, ⟨h, hp⟩, q⟩ := h
  refine ⟨_, (pss_cons (ps_if (pt_val (pe_callB (isi_K (K := K) rfl) (by rfl) B.isinstance (by decide +kernel) (pa_cons (pv 1) (pa_cons (pe_bltn (v := .ty "tuple") (by rfl) B.tuple (by decide +kernel) rfl) pa_nil)))) (pss_cons (ps_if (PW.pt (pw_or (pt_not (pt_val (pe_callB (isi_K (K := K) rfl) (by rfl) B.isinstance (by decide +kernel) (pa_cons (pv 0) (pa_cons (pe_bltn (v := .ty "tuple") (by rfl) B.tuple (by decide +kernel) rfl) pa_nil))))) (pw_or1 (pt_cmpR (op_neK (K := K) rfl hr.units) (pe_callB (len_K (K := K) rfl) (by rfl) B.len PySem.boot_len (pa_cons (pv 0) pa_nil)) (pe_callB (len_K (K := K) rfl) (by rfl) B.len PySem.boot_len (pa_cons (pv 1) pa_nil)) (nomark _))))) (pss_one (ps_ret pe_bl)) pss_nil)
      (pss_cons (ps_for PassesOwn.never rfl (pi_range1 (by rfl) B.range (pa_cons (pe_callB (len_K (K := K) rfl) (by rfl) B.len PySem.boot_len (pa_cons (pv 1) pa_nil)) pa_nil)) (pg_name (i := 2) sc_law_same.nd rfl (Or.inl rfl)) (pss_one (ps_if (pt_not (pt_val pe_never)) (pss_one (ps_ret pe_bl)) pss_nil)))
      (pss_one (ps_ret pe_bl)))) pss_nil)
      (pss_cons (ps_if (pt_val (pe_callB (isi_K (K := K) rfl) (by rfl) B.isinstance (by decide +kernel) (pa_cons (pv 1) (pa_cons (pe_bltn (v := .ty "int") (by rfl) B.int (by decide +kernel) rfl) pa_nil)))) (pss_one (ps_ret (pe_and (pe_fn G__law_is_integer (hr.mono (by decide)) (by rfl) pass0 (pa_cons (pv 0) pa_nil)) (pe_one (pe_cmpR (op_eqK (K := K) rfl hr.units) (pv 0) (pv 1) (nomark _)))))) pss_nil)
      (pss_one (ps_ret (pe_and (pe_callB (isi_K (K := K) rfl) (by rfl) B.isinstance (by decide +kernel) (pa_cons (pv 0) (pa_cons (pe_bltn (v := .ty "str") (by rfl) B.str (by decide +kernel) rfl) pa_nil))) (pe_one (pe_cmpR (op_eqK (K := K) rfl hr.units) (pv 0) (pv 1) (nomark _)))))))), ?_⟩
  rcases h with ⟨i, rfl⟩ | ⟨st, rfl⟩
  · obtain ⟨v, u, rfl, hv, hu⟩ := all2 a
    refine q_when (b := false) (et_is (et_B (ev_isTup (ev_var rfl hu))) rfl) (fun h => Bool.noConfusion h) (fun _ H1 e1 => ?_)
    refine q_when (b := true) (et_is (et_B (ev_isInt (ev_var rfl (hu.mono e1)))) rfl) (fun _ H2 e2 => ?_) (fun h => Bool.noConfusion h)
    exact s_retD (ev_andV (a := true) (ev_callF (ea1 (ev_var rfl (hv.mono (e1.trans e2)))) ⟨_, rfl, rfl⟩) fun _ => ev_op (ev_var rfl (hv.mono (e1.trans e2))) (ev_var rfl (hu.mono (e1.trans e2))) rd_eqI) (by rw [decide_eq_true rfl] <;> rfl) fun v H3 e3 hv => q _ v H3 hp (e1.trans (e2.trans e3)) hv
  · obtain ⟨v, u, rfl, hv, hu⟩ := all2 a
    refine q_when (b := false) (et_is (et_B (ev_isTup (ev_var rfl hu))) rfl) (fun h => Bool.noConfusion h) (fun _ H1 e1 => ?_)
    refine q_when (b := false) (et_is (et_B (ev_isInt (ev_var rfl (hu.mono e1)))) rfl) (fun h => Bool.noConfusion h) (fun _ H2 e2 => ?_)
    exact s_retD (ev_andV (a := true) (ev_isStr (ev_var rfl (hv.mono (e1.trans e2)))) fun _ => ev_op (ev_var rfl (hv.mono (e1.trans e2))) (ev_var rfl (hu.mono (e1.trans e2))) rd_eqS) (by rw [decide_eq_true rfl] <;> rfl) fun v H3 e3 hv => q _ v H3 hp (e1.trans (e2.trans e3)) hv
theorem ok_law_same (F : Fun K "_law_same" "_law_same" s_law_same f fd) (B : Blt mg) (G__law_is_integer : Fn P w K mg base CX0 1 "_law_is_integer" ["_law_value"] (SpD K pre_isI)) (G__law_same : Fn P w K mg base CX0 2 "_law_same" ["_law_given", "_law_due"] (SpD K pre_same0)) : FnOk P w K mg base CX0 3 f fd ["_law_given", "_law_due"] (SpD K pre_same) := by
  refine F.ok sc_law_same (spd_len fun ds Post h => by obtain ⟨h, _⟩ := h; rcases h with ⟨i, rfl⟩ | ⟨s, i, rfl⟩ <;> rfl) (fun cdv A outer s H vs Q E hr h => ?_)
  obtain ⟨ds, Post, a, ⟨h, hp⟩, q⟩ := h
  refine ⟨_, (pss_cons (ps_if (pt_val (pe_callB (isi_K (K := K) rfl) (by rfl) B.isinstance (by decide +kernel) (pa_cons (pv 1) (pa_cons (pe_bltn (v := .ty "tuple") (by rfl) B.tuple (by decide +kernel) rfl) pa_nil)))) (pss_cons (ps_if (PW.pt (pw_or (pt_not (pt_val (pe_callB (isi_K (K := K) rfl) (by rfl) B.isinstance (by decide +kernel) (pa_cons (pv 0) (pa_cons (pe_bltn (v := .ty "tuple") (by rfl) B.tuple (by decide +kernel) rfl) pa_nil))))) (pw_or1 (pt_cmpR (op_neK (K := K) rfl hr.units) (pe_callB (len_K (K := K) rfl) (by rfl) B.len PySem.boot_len (pa_cons (pv 0) pa_nil)) (pe_callB (len_K (K := K) rfl) (by rfl) B.len PySem.boot_len (pa_cons (pv 1) pa_nil)) (nomark _))))) (pss_one (ps_ret pe_bl)) pss_nil)
      (pss_cons (ps_for PassesOwn.never rfl (pi_range1 (by rfl) B.range (pa_cons (pe_callB (len_K (K := K) rfl) (by rfl) B.len PySem.boot_len (pa_cons (pv 1) pa_nil)) pa_nil)) (pg_name (i := 2) sc_law_same.nd rfl (Or.inl rfl)) (pss_one (ps_if (pt_not (pt_val (pe_fn G__law_same (hr.mono (by decide)) (by rfl) pass0 (pa_cons (pe_ix (ix_K (K := K) rfl) (pv 0) (pv 2) (fun _ _ => rfl)) (pa_cons (pe_ix (ix_K (K := K) rfl) (pv 1) (pv 2) (fun _ _ => rfl)) pa_nil))))) (pss_one (ps_ret pe_bl)) pss_nil)))
      (pss_one (ps_ret pe_bl)))) pss_nil)
      (pss_cons (ps_if (pt_val (pe_callB (isi_K (K := K) rfl) (by rfl) B.isinstance (by decide +kernel) (pa_cons (pv 1) (pa_cons (pe_bltn (v := .ty "int") (by rfl) B.int (by decide +kernel) rfl) pa_nil)))) (pss_one (ps_ret (pe_and (pe_fn G__law_is_integer (hr.mono (by decide)) (by rfl) pass0 (pa_cons (pv 0) pa_nil)) (pe_one (pe_cmpR (op_eqK (K := K) rfl hr.units) (pv 0) (pv 1) (nomark _)))))) pss_nil)
      (pss_one (ps_ret (pe_and (pe_callB (isi_K (K := K) rfl) (by rfl) B.isinstance (by decide +kernel) (pa_cons (pv 0) (pa_cons (pe_bltn (v := .ty "str") (by rfl) B.str (by decide +kernel) rfl) pa_nil))) (pe_one (pe_cmpR (op_eqK (K := K) rfl hr.units) (pv 0) (pv 1) (nomark _)))))))), ?_⟩
  have iI : ∀ {σ : L2.St} {H : Hp} {i : Nat} {n : Int}, σ[i]? = some (some (.int n)) → Ev (tVar i) σ H (IsD K (.int n)) := fun h => ev_var h (.int _)
  rcases h with ⟨i, rfl⟩ | ⟨st, i, rfl⟩
  · obtain ⟨v, u, rfl, hv, hu⟩ := all2 a
    refine q_when (b := false) (et_is (et_B (ev_isTup (ev_var rfl hu))) rfl) (fun h => Bool.noConfusion h) (fun _ H1 e1 => ?_)
    refine q_when (b := true) (et_is (et_B (ev_isInt (ev_var rfl (hu.mono e1)))) rfl) (fun _ H2 e2 => ?_) (fun h => Bool.noConfusion h)
    exact s_retD (ev_andV (a := true) (ev_callF (ea1 (ev_var rfl (hv.mono (e1.trans e2)))) ⟨_, rfl, rfl⟩) fun _ => ev_op (ev_var rfl (hv.mono (e1.trans e2))) (ev_var rfl (hu.mono (e1.trans e2))) rd_eqI) (by rw [decide_eq_true rfl] <;> rfl) fun v H3 e3 hv => q _ v H3 hp (e1.trans (e2.trans e3)) hv
  · obtain ⟨v, u, rfl, hv, hu⟩ := all2 a
    refine q_when (b := true) (et_is (et_B (ev_isTup (ev_var rfl hu))) rfl) (fun _ H1 e1 => ?_) (fun h => Bool.noConfusion h)
    have hv1 := hv.mono e1
    have hu1 := hu.mono e1
    refine q_when (b := false) (et_is (et_or (a := false) (b := false) (et_is (et_not (et_B (ev_isTup (ev_var rfl hv1)))) rfl) fun _ => et_is (et_test (ev_op (ev_lenT (ev_var rfl hv1)) (ev_lenT (ev_var rfl hu1)) rd_neI)) (by simp)) rfl) (fun h => Bool.noConfusion h) (fun _ H2 e2 => ?_)
    refine q_forW (C := fun _ _ => True) (ew_rng1 (n := 2) (ea1 (ev_lenT (ev_var rfl (hu1.mono e2)))) rfl (by show (-1000000 : Int) ≤ 2; decide) (by decide)) fun H3 e3 => ⟨fun i σ' H' => ∃ x2, σ' = [some v, some u, x2] ∧ Same H1 H', ⟨none, rfl, e2.trans e3⟩, fun _ _ _ _ => True.intro, ?_, ?_⟩
    · rintro j d y σ' Ha Hb hd ⟨x2, rfl, ea⟩ eb hy
      have sb := ea.trans eb
      match j, hd with
      | 0, hd =>
        cases hd
        cases hy
        refine g_nm ?_
        refine s_when (b := false) (et_is (et_not (et_B (ev_callF (z := .bool true) (ea2 (ev_op (ev_var rfl (hv1.mono sb)) (iI rfl) (rd_ix (d := .str st) (.inr rfl) (atI_n (j := 0) rfl rfl))) (ev_op (ev_var rfl (hu1.mono sb)) (iI rfl) (rd_ix (d := .str st) (.inr rfl) (atI_n (j := 0) rfl rfl)))) ⟨.inr ⟨st, rfl⟩, rfl⟩))) rfl) (fun h => Bool.noConfusion h) (fun _ H4 e4 => ⟨_, rfl, sb.trans e4⟩)
      | 1, hd =>
        cases hd
        cases hy
        refine g_nm ?_
        refine s_when (b := false) (et_is (et_not (et_B (ev_callF (z := .bool true) (ea2 (ev_op (ev_var rfl (hv1.mono sb)) (iI rfl) (rd_ix (d := .int i) (.inr rfl) (atI_n (j := 1) rfl rfl))) (ev_op (ev_var rfl (hu1.mono sb)) (iI rfl) (rd_ix (d := .int i) (.inr rfl) (atI_n (j := 1) rfl rfl)))) ⟨.inl ⟨i, rfl⟩, rfl⟩))) rfl) (fun h => Bool.noConfusion h) (fun _ H4 e4 => ⟨_, rfl, sb.trans e4⟩)
      | j + 2, hd => simp at hd
    · rintro σ' Ha ⟨x2, rfl, ea⟩
      exact s_retB (K := K) rfl fun u H4 e4 hu => q _ u H4 hp (e1.trans (ea.trans e4)) hu
/-- slots: _value 0, _part 1 -/
theorem sc_law_is_flat : FnScope ["_law_value", "_law_part"] ["_law_value"] (defScope s_law_is_flat) := ⟨rfl, rfl, rfl, by decide +kernel, rfl, by decide +kernel, by decide +kernel⟩
theorem ok_law_is_flat0 (F : Fun K "_law_is_flat" "_law_is_flat" s_law_is_flat f fd) (B : Blt mg) (G__law_is_integer : Fn P w K mg base CX0 1 "_law_is_integer" ["_law_value"] (SpD K pre_isI)) : FnOk P w K mg base CX0 2 f fd ["_law_value"] (SpD K (pre_flat 0)) := by
  refine F.ok sc_law_is_flat (spd_len fun ds Post h => by obtain ⟨d, rfl, _⟩ := h; rfl) (fun cdv A outer s H vs Q E hr h => ?_)
  obtain ⟨ds, Post, a, ⟨d, rfl, hf, hp⟩, q⟩ := h
  refine ⟨_, (pss_cons (ps_if (pt_val (pe_callB (isi_K (K := K) rfl) (by rfl) B.isinstance (by decide +kernel) (pa_cons (pv 0) (pa_cons (pe_bltn (v := .ty "tuple") (by rfl) B.tuple (by decide +kernel) rfl) pa_nil)))) (pss_cons (ps_for PassesOwn.never rfl (seq_K (K := K) rfl (pv 0)) (pg_name (i := 1) sc_law_is_flat.nd rfl (Or.inl rfl)) (pss_one (ps_if (pt_not (pt_val pe_never)) (pss_one (ps_ret pe_bl)) pss_nil)))
      (pss_one (ps_ret pe_bl))) pss_nil)
      (pss_one (ps_ret (pe_or (pe_fn G__law_is_integer (hr.mono (by decide)) (by rfl) pass0 (pa_cons (pv 0) pa_nil)) (pe_one (pe_callB (isi_K (K := K) rfl) (by rfl) B.isinstance (by decide +kernel) (pa_cons (pv 0) (pa_cons (pe_bltn (v := .ty "str") (by rfl) B.str (by decide +kernel) rfl) pa_nil)))))))), ?_⟩
  obtain ⟨v, rfl, hv⟩ := all1 a
  rcases hf with ⟨i, rfl⟩ | ⟨st, rfl⟩
  · refine q_when (b := false) (et_is (et_B (ev_isTup (ev_var rfl hv))) rfl) (fun h => Bool.noConfusion h) (fun _ H1 e1 => ?_)
    exact s_retD (ev_orV (a := true) (b := false) (ev_callF (ea1 (ev_var rfl (hv.mono e1))) ⟨_, rfl, rfl⟩) fun h => Bool.noConfusion h) rfl fun v H3 e3 hv => q _ v H3 hp (e1.trans e3) hv
  · refine q_when (b := false) (et_is (et_B (ev_isTup (ev_var rfl hv))) rfl) (fun h => Bool.noConfusion h) (fun _ H1 e1 => ?_)
    exact s_retD (ev_orV (a := false) (b := true) (ev_callF (ea1 (ev_var rfl (hv.mono e1))) ⟨_, rfl, rfl⟩) fun _ => ev_isStr (ev_var rfl (hv.mono e1))) rfl fun v H3 e3 hv => q _ v H3 hp (e1.trans e3) hv
theorem ok_law_is_flatS {n : Nat} (hn : n ≤ 10) (F : Fun K "_law_is_flat" "_law_is_flat" s_law_is_flat f fd) (B : Blt mg) (G__law_is_integer : Fn P w K mg base CX0 1 "_law_is_integer" ["_law_value"] (SpD K pre_isI)) (G0 : FnOk P w K mg base CX0 (n + 2) f fd ["_law_value"] (SpD K (pre_flat n))) (G__law_is_flat : Fn P w K mg base CX0 (n + 2) "_law_is_flat" ["_law_value"] (SpD K (pre_flat n))) :
    FnOk P w K mg base CX0 (n + 3) f fd ["_law_value"] (SpD K (fun ds Post => ∃ xs, ds = [.tuple xs] ∧ xs.length ≤ 1000 ∧ (∀ x ∈ xs, flatP n x) ∧ Post (.bool true))) := by
  refine F.ok sc_law_is_flat (spd_len fun ds Post h => by obtain ⟨d, rfl, _⟩ := h; rfl) (fun cdv A outer s H vs Q E hr h => ?_)
  obtain ⟨ds, Post, a, ⟨xs, rfl, hl, hf, hp⟩, q⟩ := h
  refine ⟨_, (pss_cons (ps_if (pt_val (pe_callB (isi_K (K := K) rfl) (by rfl) B.isinstance (by decide +kernel) (pa_cons (pv 0) (pa_cons (pe_bltn (v := .ty "tuple") (by rfl) B.tuple (by decide +kernel) rfl) pa_nil)))) (pss_cons (ps_for PassesOwn.never rfl (seq_K (K := K) rfl (pv 0)) (pg_name (i := 1) sc_law_is_flat.nd rfl (Or.inl rfl)) (pss_one (ps_if (pt_not (pt_val (pe_fn G__law_is_flat (hr.mono (by omega)) (by rfl) pass0 (pa_cons (pv 1) pa_nil)))) (pss_one (ps_ret pe_bl)) pss_nil)))
      (pss_one (ps_ret pe_bl))) pss_nil)
      (pss_one (ps_ret (pe_or (pe_fn G__law_is_integer (hr.mono (by omega)) (by rfl) pass0 (pa_cons (pv 0) pa_nil)) (pe_one (pe_callB (isi_K (K := K) rfl) (by rfl) B.isinstance (by decide +kernel) (pa_cons (pv 0) (pa_cons (pe_bltn (v := .ty "str") (by rfl) B.str (by decide +kernel) rfl) pa_nil)))))))), ?_⟩
  obtain ⟨v, rfl, hv⟩ := all1 a
  refine q_when (b := true) (et_is (et_B (ev_isTup (ev_var rfl hv))) rfl) (fun _ H1 e1 => ?_) (fun h => Bool.noConfusion h)
  refine q_forB (v := v) (Hb := H) (.inr rfl) (ev_slot rfl) e1 hv fun H3 e3 => ⟨fun i σ' H' => ∃ x2, σ' = [some v, x2] ∧ Same H H', ⟨none, rfl, e1.trans e3⟩, fun i σ' H' h => by obtain ⟨_, _, h⟩ := h; exact h, ?_, ?_⟩
  · rintro j d y σ' Ha hd ⟨x2, rfl, ea⟩ hy
    refine g_nm ?_
    exact s_when (b := false) (et_is (et_not (et_B (ev_callF (z := .bool true) (ea1 (ev_var rfl (hy.mono ea))) ⟨d, rfl, hf d (List.mem_of_getElem? hd), rfl⟩))) rfl) (fun h => Bool.noConfusion h) (fun _ H4 e4 => ⟨_, rfl, ea.trans e4⟩)
  · rintro σ' Ha ⟨x2, rfl, ea⟩
    exact s_retB (K := K) rfl fun u H4 e4 hu => q _ u H4 hp (ea.trans e4) hu
theorem fnok_or {CX : CXT} {k : Nat} {ps : List Str} {sp1 sp2 sp : Sp} (F1 : FnOk P w K mg base CX k f fd ps sp1) (F2 : FnOk P w K mg base CX k f fd ps sp2) (h : ∀ vs H Q E, sp vs H Q E → sp1 vs H Q E ∨ sp2 vs H Q E) : FnOk P w K mg base CX k f fd ps sp :=
  ⟨fun vs H Q E z => (h vs H Q E z).elim (F1.len vs H Q E) (F2.len vs H Q E), fun A outer s H args us vs Q E hr e0 hb r z => (h vs H Q E z).elim (F1.run A outer s H args us vs Q E hr e0 hb r) (F2.run A outer s H args us vs Q E hr e0 hb r)⟩
theorem ok_law_is_flat (F : Fun K "_law_is_flat" "_law_is_flat" s_law_is_flat f fd) (B : Blt mg) (G__law_is_integer : Fn P w K mg base CX0 1 "_law_is_integer" ["_law_value"] (SpD K pre_isI)) (hm : mg "_law_is_flat" = some (.ref f)) (hk : PySem.W.keepIn K (.ref f) = true) (hb : Binds K fd ["_law_value"] []) : ∀ n, n ≤ 10 → FnOk P w K mg base CX0 (n + 2) f fd ["_law_value"] (SpD K (pre_flat n))
  | 0, _ => ok_law_is_flat0 F B G__law_is_integer
  | n + 1, h => by
    have ih := ok_law_is_flat F B G__law_is_integer hm hk hb n (by omega)
    have G : Fn P w K mg base CX0 (n + 2) "_law_is_flat" ["_law_value"] (SpD K (pre_flat n)) := ⟨f, fd, ih, hm, hk, hb⟩
    refine fnok_or (ih.mono (Nat.le_succ _)) (ok_law_is_flatS (by omega) F B G__law_is_integer ih G) fun vs H Q E ⟨ds, Post, a, ⟨d, e, hf, hp⟩, q⟩ => ?_
    rcases hf with hf | ⟨xs, e2, hl, hf⟩
    · exact .inl ⟨ds, Post, a, ⟨d, e, hf, hp⟩, q⟩
    · exact .inr ⟨ds, Post, a, ⟨xs, by rw [e, e2], hl, hf, hp⟩, q⟩
/-- slots: _stays_here 0, _k 1, _paper 2, _j 3, _i 4 -/
theorem sc_law_fewest_paper : FnScope ["_law_stays_here", "_law_k", "_law_paper", "_law_j", "_law_i"] ["_law_stays_here", "_law_k", "_law_paper"] (defScope s_law_fewest_paper) := ⟨rfl, rfl, rfl, by decide +kernel, rfl, by decide +kernel, by decide +kernel⟩
theorem ok_law_fewest_paper (F : Fun K "_law_fewest_paper" "_law_fewest_paper" s_law_fewest_paper f fd) (B : Blt mg) (G__law_is_integer : Fn P w K mg base CX0 1 "_law_is_integer" ["_law_value"] (SpD K pre_isI)) (G__law_clash : Fn P w K mg base CX0 1 "_law_clash" ["_law_one", "_law_other"] (SpD K pre_apart)) (G__law_least : Fn P w K mg base CX0 2 "_law_least" ["_law_stays_here"] (SpD K pre_lleast))
    (G__law_is_crowd : Fn P w K mg base CX0 2 "_law_is_crowd" ["_law_stays_here", "_law_numbers", "_law_k"] (SpD K pre_lcrowd)) : FnOk P w K mg base CX0 3 f fd ["_law_stays_here", "_law_k", "_law_paper"] (SpD K pre_lpaper) := by
  refine F.ok sc_law_fewest_paper (spd_len fun ds Post h => by obtain ⟨sts, k, row, s, o, rfl, _⟩ := h; rfl) (fun cdv A outer s H vs Q E hr h => ?_)
  obtain ⟨ds, Post, a, ⟨sts, k, row, st, o, rfl, hn, hL, hC, hso, ho, hp⟩, q⟩ := h
  refine ⟨_, (pss_cons (ps_if (PW.pt (pw_or (pt_not (pt_val (pe_callB (isi_K (K := K) rfl) (by rfl) B.isinstance (by decide +kernel) (pa_cons (pv 2) (pa_cons (pe_bltn (v := .ty "tuple") (by rfl) B.tuple (by decide +kernel) rfl) pa_nil))))) (pw_or (pt_cmpR (op_neK (K := K) rfl hr.units) (pe_callB (len_K (K := K) rfl) (by rfl) B.len PySem.boot_len (pa_cons (pv 2) pa_nil)) pe_int (nomark _)) (pw_or1 (pt_not (pt_val (pe_callB (isi_K (K := K) rfl) (by rfl) B.isinstance (by decide +kernel) (pa_cons (pe_ix (ix_K (K := K) rfl) (pv 2) pe_int (fun _ _ => rfl)) (pa_cons (pe_bltn (v := .ty "tuple") (by rfl) B.tuple (by decide +kernel) rfl) pa_nil))))))))) (pss_one (ps_ret pe_bl)) pss_nil)
      (pss_cons (ps_if (PW.pt (pw_or (pt_not (pt_val (pe_callB (isi_K (K := K) rfl) (by rfl) B.isinstance (by decide +kernel) (pa_cons (pe_ix (ix_K (K := K) rfl) (pv 2) pe_int (fun _ _ => rfl)) (pa_cons (pe_bltn (v := .ty "tuple") (by rfl) B.tuple (by decide +kernel) rfl) pa_nil))))) (pw_or1 (pt_cmpR (op_neK (K := K) rfl hr.units) (pe_callB (len_K (K := K) rfl) (by rfl) B.len PySem.boot_len (pa_cons (pe_ix (ix_K (K := K) rfl) (pv 2) pe_int (fun _ _ => rfl)) pa_nil)) (pe_callB (len_K (K := K) rfl) (by rfl) B.len PySem.boot_len (pa_cons (pv 0) pa_nil)) (nomark _))))) (pss_one (ps_ret pe_bl)) pss_nil)
      (pss_cons (ps_for PassesOwn.never rfl (pi_range1 (by rfl) B.range (pa_cons (pe_callB (len_K (K := K) rfl) (by rfl) B.len PySem.boot_len (pa_cons (pv 0) pa_nil)) pa_nil)) (pg_name (i := 3) sc_law_fewest_paper.nd rfl (Or.inl rfl)) (pss_cons (ps_if (PW.pt (pw_or (pt_not (pt_val (pe_fn G__law_is_integer (hr.mono (by decide)) (by rfl) pass0 (pa_cons (pe_ix (ix_K (K := K) rfl) (pe_ix (ix_K (K := K) rfl) (pv 2) pe_int (fun _ _ => rfl)) (pv 3) (fun _ _ => rfl)) pa_nil)))) (pw_or (pt_cmpR op_lt (pe_ix (ix_K (K := K) rfl) (pe_ix (ix_K (K := K) rfl) (pv 2) pe_int (fun _ _ => rfl)) (pv 3) (fun _ _ => rfl)) pe_int (nomark _)) (pw_or1 (pt_cmpR op_ge (pe_ix (ix_K (K := K) rfl) (pe_ix (ix_K (K := K) rfl) (pv 2) pe_int (fun _ _ => rfl)) (pv 3) (fun _ _ => rfl)) (pv 1) (nomark _)))))) (pss_one (ps_ret pe_bl)) pss_nil)
      (pss_one (ps_for PassesOwn.never rfl (pi_range1 (by rfl) B.range (pa_cons (pv 3) pa_nil)) (pg_name (i := 4) sc_law_fewest_paper.nd rfl (Or.inl rfl)) (pss_one (ps_if (PW.pt (pw_and (pt_cmpR (op_eqK (K := K) rfl hr.units) (pe_ix (ix_K (K := K) rfl) (pe_ix (ix_K (K := K) rfl) (pv 2) pe_int (fun _ _ => rfl)) (pv 4) (fun _ _ => rfl)) (pe_ix (ix_K (K := K) rfl) (pe_ix (ix_K (K := K) rfl) (pv 2) pe_int (fun _ _ => rfl)) (pv 3) (fun _ _ => rfl)) (nomark _)) (pw_and1 (pt_val (pe_fn G__law_clash (hr.mono (by decide)) (by rfl) pass0 (pa_cons (pe_ix (ix_K (K := K) rfl) (pv 0) (pv 4) (fun _ _ => rfl)) (pa_cons (pe_ix (ix_K (K := K) rfl) (pv 0) (pv 3) (fun _ _ => rfl)) pa_nil))))))) (pss_one (ps_ret pe_bl)) pss_nil))))))
      (pss_cons (ps_if (pt_cmpR (op_eqK (K := K) rfl hr.units) (pe_ix (ix_K (K := K) rfl) (pv 2) pe_int (fun _ _ => rfl)) (pe_tup (pa_cons pe_str pa_nil)) (nomark _)) (pss_one (ps_ret (pe_cmpR (op_eqK (K := K) rfl hr.units) (pe_fn G__law_least (hr.mono (by decide)) (by rfl) pass0 (pa_cons (pv 0) pa_nil)) (pv 1) (nomark _)))) pss_nil)
      (pss_one (ps_ret (pe_and (pe_cmpR (op_eqK (K := K) rfl hr.units) (pe_callB (len_K (K := K) rfl) (by rfl) B.len PySem.boot_len (pa_cons (pe_ix (ix_K (K := K) rfl) (pv 2) pe_int (fun _ _ => rfl)) pa_nil)) pe_int (nomark _)) (pe_and (pe_cmpR (op_eqK (K := K) rfl hr.units) (pe_ix (ix_K (K := K) rfl) (pe_ix (ix_K (K := K) rfl) (pv 2) pe_int (fun _ _ => rfl)) pe_int (fun _ _ => rfl)) pe_str (nomark _)) (pe_one (pe_fn G__law_is_crowd (hr.mono (by decide)) (by rfl) pass0 (pa_cons (pv 0) (pa_cons (pe_ix (ix_K (K := K) rfl) (pe_ix (ix_K (K := K) rfl) (pv 2) pe_int (fun _ _ => rfl)) pe_int (fun _ _ => rfl)) (pa_cons (pv 1) pa_nil))))))))))))), ?_⟩
  obtain ⟨v0, v1, v2, rfl, h0, h1, h2⟩ := all3 a
  cases h1
  have iI : ∀ {σ : L2.St} {H : Hp} {i : Nat} {n : Int}, σ[i]? = some (some (.int n)) → Ev (tVar i) σ H (IsD K (.int n)) := fun h => ev_var h (.int _)
  have eslen : ((sts.map stD).length : Int) = (sts.length : Int) := by rw [List.length_map]
  generalize hT : clT sts = T at hp hL hC
  have g0 : ∀ {H3} (e : Same H H3) {σ : L2.St}, σ[2]? = some (some v2) → Ev (tOp (rIx K) (tVar 2) (tC (.int 0))) σ H3 (IsD K (rowD row)) := fun {H3} e {σ} hσ => ev_op (ev_var hσ (h2.mono e)) ev_int (rd_ix (.inr rfl) (atI_n (j := 0) rfl rfl))
  have g1 : ∀ {H3} (e : Same H H3) {σ : L2.St}, σ[2]? = some (some v2) → Ev (tOp (rIx K) (tVar 2) (tC (.int 1))) σ H3 (IsD K (valD st o)) := fun {H3} e {σ} hσ => ev_op (ev_var hσ (h2.mono e)) ev_int (rd_ix (.inr rfl) (atI_n (j := 1) rfl rfl))
  have hrl : row.length = sts.length := hC.1
  refine q_when (b := false) (et_is (et_or (a := false) (b := false) (et_is (et_not (et_B (ev_isTup (ev_var rfl h2)))) rfl) fun _ => et_is (et_or (a := false) (b := false) (et_is (et_test (ev_op (ev_lenT (ev_var rfl h2)) ev_int rd_neI)) rfl) fun _ => et_is (et_not (et_B (ev_isTup (g1 (Same.refl _) rfl)))) (by cases o <;> rfl)) rfl) rfl) (fun h => Bool.noConfusion h) (fun _ H1 e1 => ?_)
  refine q_when (b := false) (et_is (et_or (a := false) (b := false) (et_is (et_not (et_B (ev_isTup (g0 e1 rfl)))) rfl) fun _ => et_is (et_test (ev_op (ev_lenT (ds := row.map natD) (g0 e1 rfl)) (ev_lenL (ev_var rfl (h0.mono e1))) rd_neI)) (by rw [List.length_map, List.length_map, hrl]; simp)) rfl) (fun h => Bool.noConfusion h) (fun _ H2 e2 => ?_)
  have s2 := e1.trans e2
  refine q_forW (C := fun _ _ => True) (ew_rng1 (n := sts.length) (ea1 (ev_is (ev_lenL (ev_var rfl (h0.mono s2))) (by rw [eslen]))) (by omega) (by omega) (by omega)) fun H3 e3 => ⟨fun j σ' H' => ∃ x3 x4, σ' = [some v0, some (.int (k : Int)), some v2, x3, x4] ∧ Same H H', ⟨none, none, rfl, s2.trans e3⟩, fun _ _ _ _ => True.intro, ?_, ?_⟩
  · rintro j d u σ' Ha Hb hd ⟨x3, x4, rfl, ea⟩ eb hu
    have hj : j < sts.length := by
      have := (List.getElem?_eq_some_iff.mp hd).1
      rw [List.length_map, List.length_range] at this
      exact this
    rw [List.getElem?_map, List.getElem?_range hj] at hd
    cases hd
    cases hu
    refine g_nm ?_
    have sb := ea.trans eb
    have grow : ∀ {H3} (e : Same H H3) {σ : L2.St} {i : Nat} {z y : Nat}, σ[2]? = some (some v2) → σ[i]? = some (some (.int (z : Int))) → row[z]? = some y → Ev (tOp (rIx K) (tOp (rIx K) (tVar 2) (tC (.int 0))) (tVar i)) σ H3 (IsD K (natD y)) := fun {H3} e {σ} {i} {z} {y} h2' hi hy => ev_op (g0 e h2') (iI hi) (rd_ix (.inr rfl) (atI_n rfl (by rw [List.getElem?_map, hy]; rfl)))
    obtain ⟨y, hy⟩ : ∃ y, row[j]? = some y := ⟨_, List.getElem?_eq_getElem (by omega)⟩
    have hyk := hC.2.1 y (List.mem_of_getElem? hy)
    refine q_when (b := false) (et_is (et_or (a := false) (b := false) (et_is (et_not (et_B (ev_callF (z := .bool true) (ea1 (grow sb rfl rfl hy)) ⟨_, rfl, rfl⟩))) rfl) fun _ => et_is (et_or (a := false) (b := false) (et_is (et_test (ev_op (grow sb rfl rfl hy) ev_int rd_lt)) (decide_eq_false (by omega))) fun _ => et_is (et_test (ev_op (grow sb rfl rfl hy) (iI rfl) rd_ge)) (decide_eq_false (by omega))) rfl) rfl) (fun h => Bool.noConfusion h) (fun _ H4 e4 => ?_)
    refine s_forW (C := fun _ _ => True) (ew_rng1 (n := j) (ea1 (iI rfl)) (by omega) (by omega) (by omega)) fun H5 e5 => ⟨fun i σ' H' => ∃ x4, σ' = [some v0, some (.int (k : Int)), some v2, some (.int (j : Int)), x4] ∧ Same H H', ⟨x4, rfl, sb.trans (e4.trans e5)⟩, fun _ _ _ _ => True.intro, ?_, ?_⟩
    · rintro i d u σ' Hc Hd hd ⟨x4', rfl, ec⟩ ed hu
      have hi : i < j := by
        have := (List.getElem?_eq_some_iff.mp hd).1
        rw [List.length_map, List.length_range] at this
        exact this
      rw [List.getElem?_map, List.getElem?_range hi] at hd
      cases hd
      cases hu
      refine g_nm ?_
      have sd := ec.trans ed
      obtain ⟨x, hx⟩ : ∃ x, row[i]? = some x := ⟨_, List.getElem?_eq_getElem (by omega)⟩
      obtain ⟨si, hsi⟩ : ∃ s, sts[i]? = some s := ⟨_, List.getElem?_eq_getElem (by omega)⟩
      obtain ⟨sj, hsj⟩ : ∃ s, sts[j]? = some s := ⟨_, List.getElem?_eq_getElem hj⟩
      refine s_when (b := decide (x = y) && clash si sj) (et_and (et_test (ev_is (ev_op (grow sd rfl rfl hx) (grow sd rfl rfl hy) rd_eqI) (by congr 1; rw [decide_eq_decide]; omega))) fun _ => et_test (ev_callF (ea2 (ev_op (ev_var rfl (h0.mono sd)) (iI rfl) (rd_ix (.inl rfl) (atI_n rfl (by rw [List.getElem?_map, hsi]; rfl)))) (ev_op (ev_var rfl (h0.mono sd)) (iI rfl) (rd_ix (.inl rfl) (atI_n rfl (by rw [List.getElem?_map, hsj]; rfl))))) ⟨si, sj, rfl, rfl⟩)) (fun hb H6 e6 => ?_) (fun hb H6 e6 => ⟨_, rfl, sd.trans e6⟩)
      rw [Bool.and_eq_true] at hb
      have hxy := of_decide_eq_true hb.1
      subst hxy
      have := hC.2.2 i j x hi hx hy
      rw [← hT, clT_get hsj hsi, clash_comm, hb.2] at this
      cases this
    · rintro σ' Hc ⟨x4', rfl, ec⟩
      exact ⟨_, _, rfl, ec⟩
  · rintro σ' Ha ⟨x3, x4, rfl, ea⟩
    refine q_when (b := o.isNone && decide (st = "search")) (et_is (et_test (ev_op (g1 ea rfl) (ev_tup (ea1 ev_str) (by show 1 ≤ 100000; decide)) (rd_eq (shaped_val hso o) (shaped_val (s := "search") (by decide +kernel) none)))) (eqv_val st o)) (fun hb H4 e4 => ?_) (fun hb H4 e4 => ?_)
    · rw [Bool.and_eq_true] at hb
      cases o with
      | some l => cases hb.1
      | none =>
        have hs := of_decide_eq_true hb.2
        refine s_retD (ev_op (ev_callF (z := natD k) (ea1 (ev_var rfl (h0.mono (ea.trans e4)))) ⟨sts, rfl, hn, fun k' hk' => by rw [hT] at hk'; rw [hk'.uniq hL]⟩) (iI rfl) rd_eqI) ?_ fun u H5 e5 hu => q _ u H5 hp (ea.trans (e4.trans e5)) hu
        show PyData.bool (decide ((k : Int) = (k : Int))) = .bool (decide (st = "search"))
        rw [decide_eq_true rfl, hb.2]
    · have s4 := ea.trans e4
      cases o with
      | none =>
        have hs : decide (st = ("search" : Str)) = false := by simpa using hb
        refine s_retD (ev_andV (a := false) (b := true) (ev_is (ev_op (ev_lenT (ds := [.str st]) (g1 s4 rfl)) ev_int rd_eqI) rfl) fun h => Bool.noConfusion h) ?_ fun u H5 e5 hu => q _ u H5 hp (s4.trans e5) hu
        show PyData.bool false = .bool (decide (st = "search"))
        rw [hs]
      | some l =>
        have hl := ho l rfl
        refine s_retD (ev_andV (a := true) (b := decide (st = "crowd") && crowdB T sts.length l k) (ev_is (ev_op (ev_lenT (ds := [.str st, rowD l]) (g1 s4 rfl)) ev_int rd_eqI) rfl) fun _ => ev_andV (ev_op (ev_op (g1 s4 rfl) ev_int (rd_ix (d := .str st) (.inr rfl) (atI_n (j := 0) rfl rfl))) ev_str rd_eqS) fun _ => ev_callF (ea_cons (ev_var rfl (h0.mono s4)) (ea2 (ev_op (g1 s4 rfl) ev_int (rd_ix (d := rowD l) (.inr rfl) (atI_n (j := 1) rfl rfl))) (iI rfl))) ⟨sts, l, k, rfl, by omega, by omega, by rw [hT]⟩) rfl fun u H5 e5 hu => q _ u H5 hp (s4.trans e5) hu
end
end K33

set_option Elab.async false
set_option linter.all false
set_option maxRecDepth 100000
set_option maxHeartbeats 4000000
/-! the law's days. -/
namespace K33
open PySem PySem.Spec PyProof.Rows L2
def tdD (e : Bool × Nat) : PyData := .tuple [.str (wordS e.1), natD e.2]
def tls : Nat → List (Bool × Nat)
  | 0 => [(true, 0), (true, 4)]
  | i + 1 => tls i ++ [(true, i + 1), (false, i)]
def pre_round : Pr := fun ds Post => ∃ (ns : List Str) (ms : List Int), ds = [.list (ns.map .str), .list (ms.map .int)] ∧ Names ns ∧ ms.length = 3 ∧ (∀ m ∈ ms, 0 ≤ m) ∧ ∀ es, EvOk ns es → Post (evsD es)
def spFree (K : Fg) : Sp := fun vs H Q _ => ∃ v ns, vs = [v, .int 3] ∧ Scr K H v ns ∧ ∀ ms es, Names ms → EvOk ms es → ∀ w H', Same H H' → Is K H' w (evsD es) → Q w H'
theorem cut_to {l : List PyData} {p : Nat} (h : p ≤ l.length) : cutD l none (some (p : Int)) = l.take p := by
  unfold cutD
  rw [sIx_at h, HT.sIx_none]
  simp
theorem cut_from {l : List PyData} {p : Nat} (h : p ≤ l.length) : cutD l (some (p : Int)) none = l.drop p := by
  unfold cutD
  rw [sIx_at h, HT.sIx_none, List.take_of_length_le]
  rw [List.length_drop]
  omega
theorem ins_len {α : Type} {l : List α} {k : Nat} {x : α} (h : k ≤ l.length) : (ins l k x).length = l.length + 1 := by
  unfold ins
  rw [List.length_append, List.length_append, List.length_take, List.length_drop]
  simp
  omega
section
variable {K : Fg} {σ : L2.St} {H : Hp} {te ta tb to ti : TE} {D : Ends} {tz : TS} {tr : TA} {P : VP}
/-- l[:p] + [e] + l[p:] -/
theorem el_ins {l : List PyData} {p : Nat} {x : PyData} {t1 t2 : TO} (h1 : Ev ta σ H (IsD K (.list l))) (o1 : EvO t1 σ H (some (p : Int))) (hx : Ev te σ H (IsD K x)) (o2 : EvO t2 σ H (some (p : Int))) (hp : p ≤ l.length) (hl : l.length ≤ 1000) :
    EvL K (tOp (rAddU K) (tOp (rAddU K) (tSl (rSlU K) ta tNoPart t1) (tLst (tCons te tNil))) (tSl (rSlU K) ta t2 tNoPart)) σ H (ins l p x) := by
  have e : ins l p x = (cutD l none (some (p : Int)) ++ [x]) ++ cutD l (some (p : Int)) none := by
    rw [cut_to hp, cut_from hp]
    rfl
  rw [e]
  refine el_addL (ev_addL (el_sl h1 eo_none o1).ev (ev_lst (ea1 hx) (by show 1 ≤ 100000; decide)) ?_) (el_sl h1 o2 eo_none).ev ?_
  · rw [cut_to hp, List.length_take]
    simp
    omega
  · rw [List.length_append, cut_to hp, cut_from hp, List.length_take, List.length_drop]
    simp
    omega
end
section
variable {P : Program} {w : World} {K : Fg} {mg : Str → Option Value} {base : Heap} {f : Addr} {fd : FuncData} {C : Addr}
/-- slots: _names_here 0, _marks 1, _turns 2, _j 3, _events_here 4, _at 5, _place 6, _word 7, _k 8 -/
theorem sc_law_round : FnScope ["_law_names_here", "_law_marks", "_law_turns", "_law_j", "_law_events_here", "_law_at", "_law_place", "_law_word", "_law_k"] ["_law_names_here", "_law_marks"] (defScope s_law_round) := ⟨rfl, rfl, rfl, by decide +kernel, rfl, by decide +kernel, by decide +kernel⟩
theorem ok_law_round (F : Fun K "_law_round" "_law_round" s_law_round f fd) (B : Blt mg) : FnOk P w K mg base CX0 1 f fd ["_law_names_here", "_law_marks"] (SpD K pre_round) := by
  refine F.ok sc_law_round (spd_len fun ds Post h => by obtain ⟨ns, ms, rfl, _⟩ := h; rfl) (fun cdv A outer s H vs Q E hr h => ?_)
  obtain ⟨ds, Post, a, ⟨ns, ms, rfl, hN, hml, hm0, hp⟩, q⟩ := h
  refine ⟨_, (pss_cons (ps_set (i := 2) sc_law_round.nd rfl (Or.inl rfl) (pe_lst (pa_cons (pe_tup (pa_cons pe_str (pa_cons pe_int pa_nil))) (pa_cons (pe_tup (pa_cons pe_str (pa_cons pe_int pa_nil))) pa_nil))))
      (pss_cons (ps_for PassesOwn.never rfl (pi_range2 (by rfl) B.range (pa_cons pe_int (pa_cons pe_int pa_nil))) (pg_name (i := 3) sc_law_round.nd rfl (Or.inl rfl)) (pss_one (ps_set (i := 2) sc_law_round.nd rfl (Or.inl rfl) (pe_op (op_addK (K := K) rfl) (pv 2) (pe_lst (pa_cons (pe_tup (pa_cons pe_str (pa_cons (pv 3) pa_nil))) (pa_cons (pe_tup (pa_cons pe_str (pa_cons (pe_op op_sub (pv 3) pe_int) pa_nil))) pa_nil)))))))
      (pss_cons (ps_setLc (own := [("_law_word", 7), ("_law_k", 8)]) (i := 4) rfl sc_law_round.nd rfl rfl (sw_true rfl rfl rfl (by decide +kernel)) (seq_K (K := K) rfl (pe_op (op_addK (K := K) rfl) (pv 2) (pe_lst (pa_cons (pe_tup (pa_cons pe_str (pa_cons pe_int pa_nil))) (pa_cons (pe_tup (pa_cons pe_str (pa_cons pe_int pa_nil))) pa_nil))))) (blkOk_by (own := [("_law_word", 7), ("_law_k", 8)]) (N := ["_law_names_here", "_law_marks", "_law_turns", "_law_j", "_law_events_here", "_law_at", "_law_place", "_law_word", "_law_k"]) (sc := (defScope s_law_round)) (by decide +kernel)) (fun _ _ _ _ _ => (tupg_K (K := K) (n := 2) rfl rfl (pgs_cons (pg_name (i := 7) sc_law_round.nd rfl (Or.inl rfl)) (pgs_cons (pg_name (i := 8) sc_law_round.nd rfl (Or.inl rfl)) pgs_nil)))) (fun _ _ _ _ _ => pts_nil) (fun _ _ _ _ _ => (pe_tup (pa_cons (pv 7) (pa_cons (pe_ix (ix_K (K := K) rfl) (pv 0) (pv 8) (fun _ _ => rfl)) pa_nil)))))
      (pss_cons (ps_if (pt_cmpR (op_eqK (K := K) rfl hr.units) (pe_op op_mod (pe_callTy call_intU (by rfl) B.int (by decide +kernel) (pa_cons (pe_ix (ix_K (K := K) rfl) (pv 1) pe_int (fun _ _ => rfl)) pa_nil)) pe_int) pe_int (nomark _)) (pss_cons (ps_set (i := 5) sc_law_round.nd rfl (Or.inl rfl) (pe_op op_mod (pe_callTy call_intU (by rfl) B.int (by decide +kernel) (pa_cons (pe_ix (ix_K (K := K) rfl) (pv 1) pe_int (fun _ _ => rfl)) pa_nil)) pe_int))
      (pss_cons (ps_set (i := 4) sc_law_round.nd rfl (Or.inl rfl) (pe_op (op_addK (K := K) rfl) (pe_op (op_addK (K := K) rfl) (pe_slice (sl_K (K := K) rfl) (pv 4) po_none (po_some (pv 5))) (pe_lst (pa_cons (pe_tup (pa_cons pe_str (pa_cons (pe_ix (ix_K (K := K) rfl) (pv 0) pe_int (fun _ _ => rfl)) pa_nil))) pa_nil))) (pe_slice (sl_K (K := K) rfl) (pv 4) (po_some (pv 5)) po_none)))
      (pss_cons (ps_set (i := 6) sc_law_round.nd rfl (Or.inl rfl) (pe_op (op_addK (K := K) rfl) (pe_op (op_addK (K := K) rfl) (pv 5) pe_int) (pe_op op_mod (pe_callTy call_intU (by rfl) B.int (by decide +kernel) (pa_cons (pe_ix (ix_K (K := K) rfl) (pv 1) pe_int (fun _ _ => rfl)) pa_nil)) (pe_op op_sub pe_int (pv 5)))))
      (pss_one (ps_if (pt_cmpR (op_eqK (K := K) rfl hr.units) (pe_op op_mod (pe_op op_fdiv (pe_callTy call_intU (by rfl) B.int (by decide +kernel) (pa_cons (pe_ix (ix_K (K := K) rfl) (pv 1) pe_int (fun _ _ => rfl)) pa_nil)) pe_int) pe_int) pe_int (nomark _)) (pss_one (ps_set (i := 4) sc_law_round.nd rfl (Or.inl rfl) (pe_op (op_addK (K := K) rfl) (pe_op (op_addK (K := K) rfl) (pe_slice (sl_K (K := K) rfl) (pv 4) po_none (po_some (pv 6))) (pe_lst (pa_cons (pe_tup (pa_cons pe_str (pa_cons (pe_ix (ix_K (K := K) rfl) (pv 0) pe_int (fun _ _ => rfl)) pa_nil))) pa_nil))) (pe_slice (sl_K (K := K) rfl) (pv 4) (po_some (pv 6)) po_none)))) pss_nil))))) pss_nil)
      (pss_one (ps_ret (pe_callTy (tup_K (K := K) rfl) (by rfl) B.tuple (by decide +kernel) (pa_cons (pv 4) pa_nil)))))))), ?_⟩
  obtain ⟨v0, v1, rfl, h0, h1⟩ := all2 a
  have iI : ∀ {σ : L2.St} {H : Hp} {i : Nat} {n : Int}, σ[i]? = some (some (.int n)) → Ev (tVar i) σ H (IsD K (.int n)) := fun h => ev_var h (.int _)
  have hmk : ∀ i, i < 3 → ∃ z : Nat, ms[i]? = some (z : Int) := fun i hi => by
    have hi' : i < ms.length := by omega
    have := hm0 ms[i] (List.getElem_mem _)
    exact ⟨ms[i].toNat, by rw [List.getElem?_eq_getElem hi']; congr 1; omega⟩
  obtain ⟨m0, hm0'⟩ := hmk 0 (by decide)
  obtain ⟨m1, hm1⟩ := hmk 1 (by decide)
  obtain ⟨m2, hm2⟩ := hmk 2 (by decide)
  have gm : ∀ {H2 : Hp} (e : Same H H2) {σ : L2.St} {i z : Nat}, σ[1]? = some (some v1) → ms[i]? = some (z : Int) → Ev (tOp (rIx K) (tVar 1) (tC (.int (i : Int)))) σ H2 (IsD K (.int (z : Int))) := fun {H2} e {σ} {i} {z} hσ hz =>
    ev_op (ev_var hσ (h1.mono e)) ev_int (rd_ix (.inl rfl) (atI_n rfl (by rw [List.getElem?_map, hz]; rfl)))
  have gn : ∀ i, i < 6 → (ns.map PyData.str)[i]? = some (.str (nth ns i)) := fun i hi => by
    have : i < ns.length := by rw [hN.1]; exact hi
    unfold nth
    rw [List.getElem?_map, List.getD_eq_getElem?_getD, List.getElem?_eq_getElem this]
    rfl
  refine q_asg (P := IsD K (.list ((tls 0).map tdD))) (ev_lst (ea2 (ev_tup (ea2 ev_str ev_int) (by show 2 ≤ 100000; decide)) (ev_tup (ea2 ev_str ev_int) (by show 2 ≤ 100000; decide))) (by show 2 ≤ 100000; decide)) fun vt H1 e1 hvt => ?_
  refine q_forW (C := fun _ _ => True) (ew_rng2 (K := K) (i := 1) (j := 4) (n := 3) (ea2 ev_int ev_int) rfl (by decide) (by decide)) fun H2 e2 => ⟨fun i σ' H' => ∃ vt x3, σ' = [some v0, some v1, some vt, x3, none, none, none, none, none] ∧ Same H H' ∧ Is K H' vt (.list ((tls i).map tdD)),
    ⟨vt, none, rfl, e1.trans e2, Is.mono e2 hvt⟩, fun _ _ _ _ => True.intro, ?_, ?_⟩
  · rintro i d u σ' Ha Hb hd ⟨vt, x3, rfl, ea, ht⟩ eb hu
    have hi : i < 3 := by
      have := (List.getElem?_eq_some_iff.mp hd).1
      rw [List.length_map, List.length_range] at this
      exact this
    rw [List.getElem?_map, List.getElem?_range hi] at hd
    cases hd
    cases hu
    refine g_nm ?_
    have hl : ((tls i).map tdD).length ≤ 100 := by
      rw [List.length_map]
      match i, hi with
      | 0, _ => decide
      | 1, _ => decide
      | 2, _ => decide
    refine s_asg (ev_addL (b := [tdD (true, i + 1), tdD (false, i)]) (ev_var rfl (ht.mono eb)) (ev_lst (ea2 (ev_tup (ea2 ev_str (ev_is (iI rfl) (by show PyData.int (1 + (i : Int)) = .int ((i + 1 : Nat) : Int); congr 1; omega))) (by show 2 ≤ 100000; decide)) (ev_tup (ea2 ev_str (ev_is (ev_op (iI rfl) ev_int rd_sub) (by show PyData.int (1 + (i : Int) - 1) = .int (i : Int); congr 1; omega))) (by show 2 ≤ 100000; decide))) (by show 2 ≤ 100000; decide)) (by simp at hl ⊢; omega)) fun u H3 e3 hu => ⟨u, _, rfl, (ea.trans eb).trans e3, ?_⟩
    have e : (tls (i + 1)).map tdD = (tls i).map tdD ++ [tdD (true, i + 1), tdD (false, i)] := by
      show (tls i ++ [(true, i + 1), (false, i)]).map tdD = _
      rw [List.map_append]
      rfl
    rw [e]
    exact hu
  · rintro σ' Ha ⟨vt, x3, rfl, ea, ht⟩
    have ht : Is K Ha vt (.list ((tls 3).map tdD)) := ht
    refine q_asgL (el_lcW (ew_seq (ds := (tls 3 ++ [(false, 4), (false, 3)]).map tdD) (.inl rfl) (ev_is (ev_addL (b := [tdD (false, 4), tdD (false, 3)]) (ev_var rfl ht) (ev_lst (ea2 (ev_tup (ea2 ev_str ev_int) (by show 2 ≤ 100000; decide)) (ev_tup (ea2 ev_str ev_int) (by show 2 ≤ 100000; decide))) (by show 2 ≤ 100000; decide)) (by show 8 + 2 ≤ 1000000; decide)) rfl)) (fun _ => true) (fun d => match d with | .tuple [.str w, .int k] => .tuple [.str w, .str (nth ns k.toNat)] | _ => .none) (by show 10 ≤ 1000000; decide) (fun d hd y H3 e3 hy R k => ?_) (fun d hd _ => ?_)) fun l xs H3 hl e3 h3 a3 => ?_
    · obtain ⟨⟨b, j⟩, hbj, rfl⟩ := List.mem_map.mp hd
      have hj : j < 6 := by
        have : ∀ x ∈ (tls 3 ++ [(false, 4), (false, 3)]), x.2 < 6 := by decide
        exact this _ hbj
      refine g_tup2 hy fun p1 p2 hp1 hp2 => k _ rfl et_yes fun _ => ?_
      exact ev_tup (ea2 (ev_var rfl hp1) (ev_op (ev_var rfl (h0.mono (ea.trans e3))) (ev_var rfl hp2) (rd_ix (.inl rfl) (atI_n rfl (gn j hj))))) (by show 2 ≤ 100000; decide)
    · obtain ⟨⟨b, j⟩, hbj, rfl⟩ := List.mem_map.mp hd
      rfl
    · have a3 : AllIs K H3 xs ((round0 (nth ns)).map evD) := a3
      have hl0 : Is K H3 (.ref l) (.list ((round0 (nth ns)).map evD)) := .lst h3 a3
      have s3 := ea.trans e3
      have five : ∀ {H2 : Hp} (e : Same H H2) {σ : L2.St}, σ[0]? = some (some v0) → Ev (tOp (rIx K) (tVar 0) (tC (.int 5))) σ H2 (IsD K (.str (nth ns 5))) := fun {H2} e {σ} hσ => ev_op (ev_var hσ (h0.mono e)) ev_int (rd_ix (.inl rfl) (atI_n (j := 5) rfl (gn 5 (by decide))))
      have evI : ∀ (l : List Evt) (p : Nat) (x : Evt), ins (l.map evD) p (evD x) = (ins l p x).map evD := fun l p x => ins_map evD l p x
      refine q_whenJ (fun σ' H' => ∃ kk p pq x5 x6 ve, σ' = [some v0, some v1, some vt, x3, some ve, x5, x6, none, none] ∧ Same H H' ∧ Is K H' ve (.list ((roundS ns kk p pq).map evD)) ∧ kk < 3 ∧ p < 11 ∧ pq < 12 ∧ (kk = 2 → p < pq)) (b := decide ((m0 : Int) % 2 = 0)) (et_test (ev_op (ev_op (ev_intI (gm (i := 0) s3 rfl hm0')) ev_int (rd_mod (by decide))) ev_int rd_eqI)) (fun hb H4 e4 N hN => ?_) (fun hb H4 e4 => ⟨0, 0, 1, none, none, _, rfl, s3.trans e4, hl0.mono e4, by decide, by decide, by decide, fun h => by cases h⟩) ?_
      · have s4 := s3.trans e4
        refine q_asg (ev_op (ev_intI (gm (i := 1) s4 rfl hm1)) ev_int (rd_mod (by decide))) fun u H5 e5 hu => ?_
        have := Is.intV hu
        have em : (m1 : Int) % 11 = ((m1 % 11 : Nat) : Int) := by omega
        rw [em] at this
        subst this
        have hp11 : m1 % 11 < 11 := Nat.mod_lt _ (by decide)
        generalize m1 % 11 = p at hp11
        have hlen0 : ((round0 (nth ns)).map evD).length = 10 := rfl
        refine q_asg (el_ins (ev_var rfl ((hl0.mono e4).mono e5)) (eo_some (iI rfl)) (ev_tup (ea2 ev_str (five (s4.trans e5) rfl)) (by show 2 ≤ 100000; decide)) (eo_some (iI rfl)) (by rw [hlen0]; omega) (by rw [hlen0]; decide)).ev fun ve H6 e6 hve => ?_
        have hve : Is K H6 ve (.list ((round1 (nth ns) p).map evD)) := by
          have := evI (round0 (nth ns)) p (true, nth ns 5)
          unfold round1
          rw [← this]
          exact hve
        have s6 := (s4.trans e5).trans e6
        refine q_asg (ev_op (ev_op (iI rfl) ev_int rd_addI) (ev_op (ev_intI (gm (i := 2) s6 rfl hm2)) (ev_op ev_int (iI rfl) rd_sub) (rd_mod (by omega))) rd_addI) fun u H7 e7 hu => ?_
        have := Is.intV hu
        have hq1 : (m2 : Int) % (11 - (p : Int)) < 11 - (p : Int) := Int.emod_lt_of_pos _ (by omega)
        have hq0 : 0 ≤ (m2 : Int) % (11 - (p : Int)) := Int.emod_nonneg _ (by omega)
        obtain ⟨pq, hpq⟩ : ∃ pq : Nat, (p : Int) + 1 + (m2 : Int) % (11 - (p : Int)) = (pq : Int) := ⟨((p : Int) + 1 + (m2 : Int) % (11 - (p : Int))).toNat, by omega⟩
        rw [hpq] at this
        subst this
        have hpq1 : p < pq := by omega
        have hpq2 : pq < 12 := by omega
        refine s_when (b := decide ((m0 : Int) / 2 % 2 = 0)) (et_test (ev_op (ev_op (ev_op (ev_intI (gm (i := 0) (s6.trans e7) rfl hm0')) ev_int (rd_div (by decide))) ev_int (rd_mod (by decide))) ev_int rd_eqI)) (fun hb2 H8 e8 => ?_) (fun hb2 H8 e8 => hN _ _ ⟨1, p, pq, _, _, _, rfl, s6.trans (e7.trans e8), (hve.mono e7).mono e8, by decide, hp11, hpq2, fun h => by cases h⟩)
        have hlen1 : ((round1 (nth ns) p).map evD).length = 11 := by
          rw [List.length_map]
          exact ins_len (by show p ≤ 10; omega)
        refine s_asg (el_ins (ev_var rfl ((hve.mono e7).mono e8)) (eo_some (iI rfl)) (ev_tup (ea2 ev_str (five (s6.trans (e7.trans e8)) rfl)) (by show 2 ≤ 100000; decide)) (eo_some (iI rfl)) (by rw [hlen1]; omega) (by rw [hlen1]; decide)).ev fun ve2 H9 e9 hve2 => hN _ _ ⟨2, p, pq, _, _, ve2, rfl, s6.trans (e7.trans (e8.trans e9)), ?_, by decide, hp11, hpq2, fun _ => hpq1⟩
        have := evI (round1 (nth ns) p) pq (false, nth ns 5)
        show Is K H9 ve2 (.list ((round2 (nth ns) p pq).map evD))
        unfold round2
        rw [← this]
        exact hve2
      · rintro σ' H4 ⟨kk, p, pq, x5, x6, ve, rfl, s4, hve, hk, hp11, hq12, hk2⟩
        exact s_ret (P := IsD K (evsD (roundS ns kk p pq))) (ev_tupOf (.inl rfl) (ev_var rfl hve)) fun u H5 e5 hu => q _ u H5 (hp _ (round_ok hN.2.1 hN.1 hk hp11 hq12 hk2)) (s4.trans e5) hu
/-- slots: _script 0, _salt 1, _heads 2, _names_here 3, _marks 4, _k 5, _mark 6 -/
theorem sc_law_free : FnScope ["_law_script", "_law_salt", "_law_heads", "_law_names_here", "_law_marks", "_law_k", "_law_mark"] ["_law_script", "_law_salt"] (defScope s_law_free) := ⟨rfl, rfl, rfl, by decide +kernel, rfl, by decide +kernel, by decide +kernel⟩
theorem ok_law_free (F : Fun K "_law_free" "_law_free" s_law_free f fd) (B : Blt mg) (G__law_cell : Fn P w K mg base CX0 1 "_law_cell" ["_law_script", "_law_k"] (spCell K)) (G__law_row : Fn P w K mg base CX0 1 "_law_row" ["_law_cell_here", "_law_many", "_law_base", "_law_salt"] (SpD K pre_row))
    (G__law_names : Fn P w K mg base CX0 2 "_law_names" ["_law_cell_here", "_law_salt", "_law_many"] (SpD K pre_names)) (G__law_round : Fn P w K mg base CX0 1 "_law_round" ["_law_names_here", "_law_marks"] (SpD K pre_round)) (G__law_events : Fn P w K mg base CX0 2 "_law_events" ["_law_marks", "_law_stacks", "_law_fresh", "_law_comings"] (SpD K pre_levents)) :
    FnOk P w K mg base CX0 3 f fd ["_law_script", "_law_salt"] (spFree K) := by
  refine F.ok sc_law_free (fun vs H Q E h => by obtain ⟨v, ns, rfl, _⟩ := h; rfl) (fun cdv A outer s H vs Q E hr h => ?_)
  obtain ⟨v, ns, rfl, hs, q⟩ := h
  refine ⟨_, (pss_cons (ps_set (i := 2) sc_law_free.nd rfl (Or.inr rfl) (pe_fn G__law_row (hr.mono (by decide)) (by rfl) pass0 (pa_cons (pe_fn G__law_cell (hr.mono (by decide)) (by rfl) pass0 (pa_cons (pv 0) (pa_cons pe_int pa_nil))) (pa_cons pe_int (pa_cons pe_int (pa_cons (pv 1) pa_nil))))))
      (pss_cons (ps_set (i := 3) sc_law_free.nd rfl (Or.inl rfl) (pe_fn G__law_names (hr.mono (by decide)) (by rfl) pass0 (pa_cons (pe_fn G__law_cell (hr.mono (by decide)) (by rfl) pass0 (pa_cons (pv 0) (pa_cons pe_int pa_nil))) (pa_cons (pe_op (op_addK (K := K) rfl) (pv 1) pe_int) (pa_cons pe_int pa_nil)))))
      (pss_cons (ps_if (pt_cmpR (op_eqK (K := K) rfl hr.units) (pe_op op_mod (pe_callTy call_intU (by rfl) B.int (by decide +kernel) (pa_cons (pe_ix (ix_K (K := K) rfl) (pv 2) pe_int (fun _ _ => rfl)) pa_nil)) pe_int) pe_int (nomark _)) (pss_one (ps_ret (pe_fn G__law_round (hr.mono (by decide)) (by rfl) pass0 (pa_cons (pv 3) (pa_cons (pe_slice (sl_K (K := K) rfl) (pv 2) (po_some pe_int) po_none) pa_nil))))) pss_nil)
      (pss_cons (ps_set (i := 4) sc_law_free.nd rfl (Or.inl rfl) (pe_fn G__law_row (hr.mono (by decide)) (by rfl) pass0 (pa_cons (pe_fn G__law_cell (hr.mono (by decide)) (by rfl) pass0 (pa_cons (pv 0) (pa_cons pe_int pa_nil))) (pa_cons (pe_op op_mod (pe_callTy call_intU (by rfl) B.int (by decide +kernel) (pa_cons (pe_ix (ix_K (K := K) rfl) (pv 2) pe_int (fun _ _ => rfl)) pa_nil)) pe_int) (pa_cons pe_int (pa_cons (pe_op (op_addK (K := K) rfl) (pv 1) pe_int) pa_nil))))))
      (pss_cons (ps_if (pt_cmpR op_gt (pe_op op_mod (pe_callTy call_intU (by rfl) B.int (by decide +kernel) (pa_cons (pe_ix (ix_K (K := K) rfl) (pv 2) pe_int (fun _ _ => rfl)) pa_nil)) pe_int) pe_int (nomark _)) (pss_one (ps_setLc (own := [("_law_k", 5), ("_law_mark", 6)]) (i := 4) rfl sc_law_free.nd rfl rfl (sw_true rfl rfl rfl (by decide +kernel)) (enum_K (K := K) rfl (by rfl) B.enumerate (pa_cons (pv 4) pa_nil)) (blkOk_by (own := [("_law_k", 5), ("_law_mark", 6)]) (N := ["_law_script", "_law_salt", "_law_heads", "_law_names_here", "_law_marks", "_law_k", "_law_mark"]) (sc := (defScope s_law_free)) (by decide +kernel)) (fun _ _ _ _ _ => (tupg_K (K := K) (n := 2) rfl rfl (pgs_cons (pg_name (i := 5) sc_law_free.nd rfl (Or.inl rfl)) (pgs_cons (pg_name (i := 6) sc_law_free.nd rfl (Or.inl rfl)) pgs_nil)))) (fun _ _ _ _ _ => pts_nil) (fun _ _ _ _ _ => (pe_op (op_addK (K := K) rfl) (pe_op op_mulU pe_int (pe_op op_fdiv (pe_callTy call_intU (by rfl) B.int (by decide +kernel) (pa_cons (pv 6) pa_nil)) pe_int)) (pe_op op_mulU (pe_callTy call_intU (by rfl) B.int (by decide +kernel) (pa_cons (pe_cmpR op_ge (pv 5) (pe_op (op_addK (K := K) rfl) pe_int (pe_op op_mod (pe_callTy call_intU (by rfl) B.int (by decide +kernel) (pa_cons (pe_ix (ix_K (K := K) rfl) (pv 2) pe_int (fun _ _ => rfl)) pa_nil)) pe_int)) (nomark _)) pa_nil)) pe_int))))) pss_nil)
      (pss_one (ps_ret (pe_fn G__law_events (hr.mono (by decide)) (by rfl) pass0 (pa_cons (pv 4) (pa_cons (pe_tup pa_nil) (pa_cons (pv 3) (pa_cons pe_int pa_nil)))))))))))), ?_⟩
  have iI : ∀ {σ : L2.St} {H : Hp} {i : Nat} {n : Int}, σ[i]? = some (some (.int n)) → Ev (tVar i) σ H (IsD K (.int n)) := fun h => ev_var h (.int _)
  have cell : ∀ {H2 : Hp} (e : Same H H2) {σ : L2.St} (k : Nat), σ[0]? = some (some v) → Ev (tCall (spCell K) [] E0 (tCons (tVar 0) (tCons (tC (.int (k : Int))) tNil))) σ H2 (IsD K (.int (cellI ns k))) := fun {H2} e {σ} k hσ => ev_raw2 (P1 := fun w _ => w = v) (P2 := fun w _ => w = .int (k : Int)) (ev_slot hσ) (fun _ _ _ _ h => h) ev_eq fun a b H3 e3 ha hb Q kk => by
    subst ha hb
    exact ⟨a, ns, k, rfl, hs.mono (e.trans e3), fun w H4 e4 hw => kk w H4 e4 hw⟩
  refine q_asg (ev_call (K := K) (Post := fun d => ∃ ms : List Int, d = .list (ms.map .int) ∧ ms.length = 7 ∧ ∀ x ∈ ms, 0 ≤ x ∧ x < 27720) (ea_cons (cell (Same.refl _) 0 rfl) (ea_cons (ev_int (i := ((7 : Nat) : Int))) (ea2 ev_int (iI rfl)))) ⟨_, 7, _, _, rfl, by decide, by decide, by decide, fun ns h1 h2 => ⟨ns, rfl, h1, h2⟩⟩) fun vh H1 e1 ⟨d, ⟨hs', hd, hhl, hhr⟩, hvh⟩ => ?_
  subst hd
  refine q_asg (ev_call (K := K) (Post := fun d => ∃ nm : List Str, d = .list (nm.map .str) ∧ Names nm) (ea_cons (cell e1 1 rfl) (ea2 (ev_op (iI rfl) ev_int rd_addI) ev_int)) ⟨_, _, rfl, fun nm h => ⟨nm, rfl, h⟩⟩) fun vn H2 e2 ⟨d, ⟨nm, hd, hnm⟩, hvn⟩ => ?_
  subst hd
  have s2 := e1.trans e2
  have hmk : ∀ i, i < 7 → ∃ z : Nat, hs'[i]? = some (z : Int) := fun i hi => by
    have hi' : i < hs'.length := by omega
    have := hhr hs'[i] (List.getElem_mem _)
    exact ⟨hs'[i].toNat, by rw [List.getElem?_eq_getElem hi']; congr 1; omega⟩
  obtain ⟨z0, hz0⟩ := hmk 0 (by decide)
  obtain ⟨z1, hz1⟩ := hmk 1 (by decide)
  obtain ⟨z2, hz2⟩ := hmk 2 (by decide)
  obtain ⟨z3, hz3⟩ := hmk 3 (by decide)
  have gm : ∀ {H3 : Hp} (e : Same H1 H3) {σ : L2.St} {i z : Nat}, σ[2]? = some (some vh) → hs'[i]? = some (z : Int) → Ev (tOp (rIx K) (tVar 2) (tC (.int (i : Int)))) σ H3 (IsD K (.int (z : Int))) := fun {H3} e {σ} {i} {z} hσ hz =>
    ev_op (ev_var hσ (Is.mono e hvh)) ev_int (rd_ix (.inl rfl) (atI_n rfl (by rw [List.getElem?_map, hz]; rfl)))
  refine q_when (b := decide ((z3 : Int) % 5 = 0)) (et_test (ev_op (ev_op (ev_intI (gm (i := 3) e2 rfl hz3)) ev_int (rd_mod (by decide))) ev_int rd_eqI)) (fun hb H3 e3 => ?_) (fun hb H3 e3 => ?_)
  · refine s_ret (ev_call (K := K) (Post := fun d => ∃ es, d = evsD es ∧ EvOk nm es) (ds := [.list (nm.map .str), .list ((hs'.drop 4).map .int)]) (ea2 (ev_var rfl (Is.mono e3 hvn)) (ev_is (el_sl (ev_var rfl (Is.mono (e2.trans e3) hvh)) (eo_some (K := K) ev_int) eo_none).ev ?_)) ⟨nm, hs'.drop 4, rfl, hnm, by rw [List.length_drop, hhl], fun m hm => (hhr m (List.mem_of_mem_drop hm)).1, fun es h => ⟨es, rfl, h⟩⟩) fun u H4 e4 ⟨d, ⟨es, hd, hes⟩, hu⟩ => ?_
    · have := cut_from (l := hs'.map PyData.int) (p := 4) (by rw [List.length_map, hhl]; decide)
      rw [show ((4 : Nat) : Int) = 4 from rfl] at this
      rw [this, List.map_drop]
    · subst hd
      exact q nm es hnm hes u H4 (s2.trans (e3.trans e4)) hu
  · have s3 := s2.trans e3
    refine q_asg (ev_call (K := K) (Post := fun d => ∃ ms : List Int, d = .list (ms.map .int) ∧ ms.length ≤ 12) (ds := [.int (cellI ns 2), .int ((z0 % 13 : Nat) : Int), .int 27720, .int 5]) (ea_cons (cell s3 2 rfl) (ea_cons (ev_is (ev_op (ev_intI (gm (i := 0) (e2.trans e3) rfl hz0)) ev_int (rd_mod (by decide))) (by congr 1)) (ea2 ev_int (ev_op (iI rfl) ev_int rd_addI)))) ⟨_, z0 % 13, _, _, rfl, by omega, by decide, by decide, fun ms h1 h2 => ⟨ms, rfl, by omega⟩⟩) fun vm H4 e4 ⟨d, ⟨ms, hd, hml⟩, hvm⟩ => ?_
    subst hd
    have s4 := s3.trans e4
    refine q_whenJ (fun σ' H' => ∃ vm ms, σ' = [some v, some (.int 3), some vh, some vn, some vm, none, none] ∧ Same H3 H' ∧ Is K H' vm (.list (ms.map .int)) ∧ (ms : List Int).length ≤ 12) (b := decide (0 < (z1 : Int) % 3)) (et_test (ev_op (ev_op (ev_intI (gm (i := 1) ((e2.trans e3).trans e4) rfl hz1)) ev_int (rd_mod (by decide))) ev_int rd_gt)) (fun hb2 H5 e5 N hN => ?_) (fun hb2 H5 e5 => ⟨vm, ms, rfl, e4.trans e5, Is.mono e5 hvm, hml⟩) ?_
    · refine s_asgL (el_lcW (ew_enumL (ds := ms.map .int) (ea1 (ev_var rfl (Is.mono e5 hvm)))) (fun _ => true) (fun d => match d with | .tuple [.int k, .int m] => .int (5 * (m / 5) + (if decide (2 + (z2 : Int) % 5 ≤ k) then 1 else 0) * 4) | _ => .int 0) (by rw [enumD_len, List.length_map]; omega) (fun d hd y H6 e6 hy R k => ?_) (fun d hd _ => ?_)) fun l xs H6 hl e6 h6 a6 => ?_
      · obtain ⟨i, hi⟩ := List.getElem?_of_mem hd
        obtain ⟨x, hx, rfl⟩ := enumD_get hi
        rw [List.getElem?_map] at hx
        obtain ⟨m, hm, rfl⟩ := Option.map_eq_some_iff.mp hx
        refine g_tup2 hy fun p1 p2 hp1 hp2 => k _ rfl et_yes fun _ => ?_
        cases hp1
        cases hp2
        exact ev_op (ev_op ev_int (ev_op (ev_intI (iI rfl)) ev_int (rd_div (by decide))) (rd_mul (.inl (by decide)))) (ev_op (ev_intB (ev_op (iI rfl) (ev_op ev_int (ev_op (ev_intI (gm (i := 2) (((e2.trans e3).trans e4).trans (e5.trans e6)) rfl hz2)) ev_int (rd_mod (by decide))) rd_addI) rd_ge)) ev_int (rd_mul (.inr (by decide)))) rd_addI
      · obtain ⟨i, hi⟩ := List.getElem?_of_mem hd
        obtain ⟨x, hx, rfl⟩ := enumD_get hi
        rw [List.getElem?_map] at hx
        obtain ⟨m, hm, rfl⟩ := Option.map_eq_some_iff.mp hx
        rfl
      · have ea6 : ∃ ms' : List Int, ms'.length ≤ 12 ∧ AllIs K H6 xs (ms'.map .int) := by
          refine ⟨(enumD (ms.map .int)).map fun d => match d with | .tuple [.int k, .int m] => 5 * (m / 5) + (if decide (2 + (z2 : Int) % 5 ≤ k) then 1 else 0) * 4 | _ => 0, by rw [List.length_map, enumD_len, List.length_map]; exact hml, ?_⟩
          rw [List.filter_eq_self.mpr (fun _ _ => rfl)] at a6
          rw [List.map_map]
          refine (List.map_congr_left fun d hd => ?_) ▸ a6
          obtain ⟨i, hi⟩ := List.getElem?_of_mem hd
          obtain ⟨x, hx, rfl⟩ := enumD_get hi
          rw [List.getElem?_map] at hx
          obtain ⟨m, hm, rfl⟩ := Option.map_eq_some_iff.mp hx
          rfl
        obtain ⟨ms', hl', ha'⟩ := ea6
        exact hN _ _ ⟨_, ms', rfl, e4.trans (e5.trans e6), .lst h6 ha', hl'⟩
    · rintro σ' H5 ⟨vm, ms, rfl, e5, hvm, hml⟩
      refine s_ret (ev_callF (z := evsD (gen nm ms).evs) (ea_cons (ev_var rfl hvm) (ea_cons (ev_tup ea_nil (by decide)) (ea2 (ev_var rfl (Is.mono (e3.trans e5) hvn)) ev_int))) ⟨ms, nm, rfl, by omega, hnm.2.1, by rw [hnm.1]; decide, rfl⟩) fun u H6 e6 hu => q nm _ hnm (gen_evok hnm.2.1 hml) u H6 (s3.trans (e5.trans e6)) hu
end
end K33

set_option linter.all false
set_option maxRecDepth 100000
set_option maxHeartbeats 4000000
/-! what no day is: the law's own bad values. -/
namespace K33
open PySem PySem.Spec PyProof.Rows L2
/-! ### data that may be compared -/
mutual
theorem eqv_refl : ∀ d : PyData, PyData.canLay0 d = true → PyData.eqv d d = true
  | .none, _ => rfl
  | .bool b, _ => by show (b == b) = true; simp
  | .int i, _ => by show (i == i) = true; simp
  | .str s, _ => by show (s == s) = true; simp
  | .list ds, h => by
    show PyData.eqvAll ds ds = true
    exact eqvAll_refl ds (by simpa [PyData.canLay0] using h)
  | .tuple ds, h => by
    show PyData.eqvAll ds ds = true
    exact eqvAll_refl ds (by simpa [PyData.canLay0] using h)
  | .dict _, h => by simp [PyData.canLay0] at h
theorem eqvAll_refl : ∀ ds : List PyData, PyData.canLayAll0 ds = true → PyData.eqvAll ds ds = true
  | [], _ => rfl
  | d :: ds, h => by
    have h : PyData.canLay0 d = true ∧ PyData.canLayAll0 ds = true := by simpa [PyData.canLayAll0] using h
    show (PyData.eqv d d && PyData.eqvAll ds ds) = true
    rw [eqv_refl d h.1, eqvAll_refl ds h.2] <;> rfl
end
/-- small, without dicts, of texts that may be laid, at most k deep -/
def laid (k : Nat) (d : PyData) : Prop := fit d = true ∧ PyData.canLay0 d = true ∧ d.depth ≤ k
theorem laid_all {k : Nat} : ∀ {ds : List PyData}, (∀ x ∈ ds, laid k x) → fitAll ds = true ∧ PyData.canLayAll0 ds = true ∧ PyData.depthAll ds ≤ k
  | [], _ => ⟨rfl, by simp [PyData.canLayAll0], by simp [PyData.depthAll]⟩
  | d :: ds, h => by
    obtain ⟨a, b, c⟩ := h d (List.mem_cons_self ..)
    obtain ⟨a', b', c'⟩ := laid_all (ds := ds) fun x hx => h x (List.mem_cons_of_mem _ hx)
    refine ⟨by show (fit d && fitAll ds) = true; rw [a, a'] <;> rfl, by simp [PyData.canLayAll0, b, b'], ?_⟩
    simp only [PyData.depthAll]
    omega
theorem laid_tup {k : Nat} {ds : List PyData} (hl : ds.length ≤ 1000) (h : ∀ x ∈ ds, laid k x) : laid (k + 1) (.tuple ds) := by
  obtain ⟨a, b, c⟩ := laid_all h
  refine ⟨by show (decide (ds.length ≤ 1000) && fitAll ds) = true; rw [a, decide_eq_true hl] <;> rfl, by simpa [PyData.canLay0] using b, ?_⟩
  simp only [PyData.depth]
  omega
theorem laid_lst {k : Nat} {ds : List PyData} (hl : ds.length ≤ 1000) (h : ∀ x ∈ ds, laid k x) : laid (k + 1) (.list ds) := by
  obtain ⟨a, b, c⟩ := laid_all h
  refine ⟨by show (decide (ds.length ≤ 1000) && fitAll ds) = true; rw [a, decide_eq_true hl] <;> rfl, by simpa [PyData.canLay0] using b, ?_⟩
  simp only [PyData.depth]
  omega
theorem laid_str {s : Str} (h1 : s.length ≤ 1000) (h2 : PyData.strOk s = true) : laid 0 (.str s) := ⟨decide_eq_true h1, by simpa [PyData.canLay0] using h2, by simp [PyData.depth]⟩
theorem laid_int (i : Int) : laid 0 (.int i) := ⟨rfl, by simp [PyData.canLay0], by simp [PyData.depth]⟩
theorem laid_non : laid 0 .none := ⟨rfl, by simp [PyData.canLay0], by simp [PyData.depth]⟩
theorem laid_bl (b : Bool) : laid 0 (.bool b) := ⟨rfl, by simp [PyData.canLay0], by simp [PyData.depth]⟩
theorem laid_up {j k : Nat} {d : PyData} (h : laid j d) (hk : j ≤ k) : laid k d := ⟨h.1, h.2.1, Nat.le_trans h.2.2 hk⟩
/-- what the law hands in as no day -/
def BadD (d : PyData) : Prop := fit d = true ∧ evsOf d = none ∧ SeqAt.shaped d = true ∧ PyData.eqv d d = true
theorem bad_of {k : Nat} {d : PyData} (h : laid k d) (hk : k ≤ 64) (he : evsOf d = none) : BadD d :=
  ⟨h.1, he, by show (PyData.canLay0 d && decide (d.depth ≤ 64)) = true; rw [h.2.1, decide_eq_true (Nat.le_trans h.2.2 hk)] <;> rfl, eqv_refl d h.2.1⟩
theorem nameS_ok {s : Str} (h : nameS s = true) : s.length ≤ 8 ∧ PyData.strOk s = true := by
  unfold nameS at h
  rw [Bool.and_eq_true, Bool.and_eq_true, decide_eq_true_eq, decide_eq_true_eq] at h
  refine ⟨by omega, ?_⟩
  show s.cps.all (fun c => decide (c < 0x110000)) = true
  rw [Array.all_eq_true']
  intro c hc
  have h1 := of_decide_eq_true (List.all_eq_true.mp h.2 c (Array.mem_toList_iff.mpr hc))
  have h2 : ∀ c ∈ abc.cps.toList, c < 0x110000 := by decide +kernel
  exact decide_eq_true (h2 c h1)
theorem laid_ev {e : Evt} (h : nameS e.2 = true) : laid 1 (evD e) := by
  obtain ⟨h1, h2⟩ := nameS_ok h
  refine laid_tup (by show 2 ≤ 1000; decide) fun x hx => ?_
  rcases List.mem_cons.mp hx with rfl | hx
  · cases e.1
    · exact laid_str (by decide +kernel) (by decide +kernel)
    · exact laid_str (by decide +kernel) (by decide +kernel)
  · rw [List.mem_singleton.mp hx]
    exact laid_str (by omega) h2
theorem evOf_evD (e : Evt) : evOf (evD e) = e := by
  obtain ⟨b, x⟩ := e
  show (decide (wordS b = "in"), x) = (b, x)
  cases b with
  | true => rfl
  | false => rw [show decide (wordS false = ("in" : Str)) = false by decide +kernel]
theorem evB_evD {e : Evt} (h : nameS e.2 = true) : eventB (evD e) = true := by
  obtain ⟨b, x⟩ := e
  show ((decide (wordS b = "in") || decide (wordS b = "out")) && nameS x) = true
  have h : nameS x = true := h
  rw [h]
  cases b <;> decide +kernel
theorem evsOf_not {ds : List PyData} {s : PyData} (hs : seqOf s = some ds) {d : PyData} (hd : d ∈ ds) (h : eventB d = false) : evsOf s = none := by
  unfold evsOf
  rw [hs]
  have : ds.all eventB = false := by
    rw [List.all_eq_false]
    exact ⟨d, hd, by rw [h]; decide⟩
  show (if ds.all eventB && _ then _ else _) = none
  rw [this]
  rfl
theorem evsOf_run {s : PyData} {es : List Evt} (hs : seqOf s = some (es.map evD)) (h : run [] es = none) : evsOf s = none := by
  unfold evsOf
  rw [hs]
  have e : (es.map evD).map evOf = es := by
    rw [List.map_map]
    conv => rhs; rw [← List.map_id es]
    exact List.map_congr_left fun e _ => evOf_evD e
  show (if (es.map evD).all eventB && (run [] ((es.map evD).map evOf)).isSome then _ else _) = none
  rw [e, h, Option.isSome_none, Bool.and_false]
  rfl
theorem evsOf_yes {s : PyData} {es : List Evt} (hs : s = .list (es.map evD) ∨ s = .tuple (es.map evD)) (hn : ∀ e ∈ es, nameS e.2 = true) (h : (run [] es).isSome = true) : evsOf s = some es := by
  have hs' : seqOf s = some (es.map evD) := by rcases hs with e | e <;> (subst e; rfl)
  unfold evsOf
  rw [hs']
  have e : (es.map evD).map evOf = es := by
    rw [List.map_map]
    conv => rhs; rw [← List.map_id es]
    exact List.map_congr_left fun e _ => evOf_evD e
  have ha : (es.map evD).all eventB = true := List.all_eq_true.mpr fun d hd => by
    obtain ⟨x, hx, rfl⟩ := List.mem_map.mp hd
    exact evB_evD (hn x hx)
  show (if (es.map evD).all eventB && (run [] ((es.map evD).map evOf)).isSome then some ((es.map evD).map evOf) else none) = _
  rw [e, h, ha]
  rfl
def o13 (s : Str) : List PyData := [.tuple [.str "in", .str "A"], .tuple [.str "in", .str ""], .tuple [.str "in", .str "abcdefghi"], .list [.str "in", .str "a"], .tuple [.str "in"], .tuple [.str "in", .str "a", .int 1], .tuple [.str "go", .str "a"], .tuple [.str "in", .int 1],
  .str "in", .none, .tuple [.str "out", .str s], .tuple [.tuple [.str "in", .str s]], .tuple [.str "out", .none]]
def wrapD (E : List PyData) (at_ : Nat) (d : PyData) : PyData := .tuple ((E.take at_ ++ [d]) ++ E.drop at_)
def oA : PyData := evD (true, "a")
def oddAll (E : List PyData) (at_ : Nat) (s : Str) : List PyData := (((o13 s).map (wrapD E at_) ++ [.int 5, .none, .bool true, .tuple [.str "in", .str "a"], .list [oA, oA]]) ++ [.list [oA, evD (false, "b")], .tuple (([evD (true, s)] ++ E) ++ [evD (true, s)])]) ++ [.tuple (([evD (true, s), evD (false, s)] ++ E) ++ [evD (false, s)])]
theorem o13_laid {s : Str} (hs : nameS s = true) : ∀ d ∈ o13 s, laid 2 d := by
  obtain ⟨h1, h2⟩ := nameS_ok hs
  have ls : laid 0 (.str s) := laid_str (by omega) h2
  have c : ∀ x : Str, x.length ≤ 1000 → PyData.strOk x = true → laid 0 (.str x) := fun x => laid_str
  intro d hd
  unfold o13 at hd
  simp only [List.mem_cons, List.not_mem_nil, or_false] at hd
  have one : ∀ {a : PyData} {k : Nat}, laid k a → ∀ x ∈ [a], laid k x := fun h x hx => by rw [List.mem_singleton.mp hx]; exact h
  have two : ∀ {a b : PyData} {k : Nat}, laid k a → laid k b → ∀ x ∈ [a, b], laid k x := fun h1 h2 x hx => by
    rcases List.mem_cons.mp hx with rfl | hx
    · exact h1
    · rw [List.mem_singleton.mp hx]; exact h2
  have w1 : laid 0 (.str "in") := c _ (by decide +kernel) (by decide +kernel)
  have w2 : laid 0 (.str "out") := c _ (by decide +kernel) (by decide +kernel)
  rcases hd with rfl | rfl | rfl | rfl | rfl | rfl | rfl | rfl | rfl | rfl | rfl | rfl | rfl
  · exact laid_up (laid_tup (by decide) (two w1 (c _ (by decide +kernel) (by decide +kernel)))) (by decide)
  · exact laid_up (laid_tup (by decide) (two w1 (c _ (by decide +kernel) (by decide +kernel)))) (by decide)
  · exact laid_up (laid_tup (by decide) (two w1 (c _ (by decide +kernel) (by decide +kernel)))) (by decide)
  · exact laid_up (laid_lst (by decide) (two w1 (c _ (by decide +kernel) (by decide +kernel)))) (by decide)
  · exact laid_up (laid_tup (by decide) (one w1)) (by decide)
  · refine laid_up (laid_tup (k := 0) (by decide) fun x hx => ?_) (by decide)
    simp only [List.mem_cons, List.not_mem_nil, or_false] at hx
    rcases hx with rfl | rfl | rfl
    · exact w1
    · exact c _ (by decide +kernel) (by decide +kernel)
    · exact laid_int 1
  · exact laid_up (laid_tup (by decide) (two (c _ (by decide +kernel) (by decide +kernel)) (c _ (by decide +kernel) (by decide +kernel)))) (by decide)
  · exact laid_up (laid_tup (by decide) (two w1 (laid_int 1))) (by decide)
  · exact laid_up w1 (by decide)
  · exact laid_up laid_non (by decide)
  · exact laid_up (laid_tup (by show 2 ≤ 1000; decide) (two w2 ls)) (by decide)
  · exact laid_tup (by show 1 ≤ 1000; decide) (one (laid_tup (by show 2 ≤ 1000; decide) (two w1 ls)))
  · exact laid_up (laid_tup (by decide) (two w2 laid_non)) (by decide)
theorem o13_bad {s : Str} : ∀ d ∈ o13 s, eventB d = false ∨ d = evD (false, s) := by
  intro d hd
  unfold o13 at hd
  simp only [List.mem_cons, List.not_mem_nil, or_false] at hd
  have nm : ∀ (w : Str) (n : PyData), nameB n = false → eventB (.tuple [.str w, n]) = false := fun w n h => by
    show ((decide (w = "in") || decide (w = "out")) && nameB n) = false
    rw [h, Bool.and_false]
  rcases hd with rfl | rfl | rfl | rfl | rfl | rfl | rfl | rfl | rfl | rfl | rfl | rfl | rfl
  · exact .inl (nm _ _ (by decide +kernel))
  · exact .inl (nm _ _ (by decide +kernel))
  · exact .inl (nm _ _ (by decide +kernel))
  · exact .inl rfl
  · exact .inl rfl
  · exact .inl rfl
  · refine .inl ?_
    show ((decide (("go" : Str) = "in") || decide (("go" : Str) = "out")) && nameB (.str "a")) = false
    rw [show decide (("go" : Str) = "in") = false by decide +kernel, show decide (("go" : Str) = "out") = false by decide +kernel]
    rfl
  · exact .inl (nm _ _ rfl)
  · exact .inl rfl
  · exact .inl rfl
  · exact .inr rfl
  · exact .inl rfl
  · exact .inl (nm _ _ rfl)
theorem odd_bad {es : List Evt} {at_ : Nat} {s : Str} (hes : ∀ e ∈ es, nameS e.2 = true) (hl : es.length ≤ 12) (hs : nameS s = true) (hns : s ∉ es.map (·.2)) : ∀ d ∈ oddAll (es.map evD) at_ s, BadD d := by
  have lE : ∀ x ∈ es.map evD, laid 2 x := fun x hx => by
    obtain ⟨e, he, rfl⟩ := List.mem_map.mp hx
    exact laid_up (laid_ev (hes e he)) (by decide)
  have lS : ∀ b, laid 2 (evD (b, s)) := fun b => laid_up (laid_ev hs) (by decide)
  have lc : ∀ (b : Bool) (x : Str), nameS x = true → laid 2 (evD (b, x)) := fun b x h => laid_up (laid_ev h) (by decide)
  intro d hd
  unfold oddAll at hd
  rw [List.mem_append, List.mem_append, List.mem_append] at hd
  rcases hd with ((hd | hd) | hd) | hd
  · obtain ⟨o, ho, rfl⟩ := List.mem_map.mp hd
    have hlen : (((es.map evD).take at_ ++ [o]) ++ (es.map evD).drop at_).length ≤ 1000 := by
      rw [List.length_append, List.length_append, List.length_take, List.length_drop, List.length_map]
      simp
      omega
    have hla : laid 3 (wrapD (es.map evD) at_ o) := laid_tup hlen fun x hx => by
      rw [List.mem_append, List.mem_append, List.mem_singleton] at hx
      rcases hx with (hx | hx) | hx
      · exact lE x (List.mem_of_mem_take hx)
      · rw [hx]; exact o13_laid hs o ho
      · exact lE x (List.mem_of_mem_drop hx)
    refine bad_of hla (by decide) ?_
    rcases o13_bad o ho with h | h
    · exact evsOf_not (s := wrapD (es.map evD) at_ o) rfl (d := o) (by simp) h
    · subst h
      refine evsOf_run (es := es.take at_ ++ (false, s) :: es.drop at_) ?_ (run_out fun hm => hns ?_)
      · show some (((es.map evD).take at_ ++ [evD (false, s)]) ++ (es.map evD).drop at_) = _
        rw [List.map_append, List.map_cons, List.map_take, List.map_drop, List.append_assoc]
        rfl
      · obtain ⟨e, he, hee⟩ := List.mem_map.mp hm
        exact List.mem_map.mpr ⟨e, List.mem_of_mem_take he, hee⟩
  · simp only [List.mem_cons, List.not_mem_nil, or_false] at hd
    have hA : nameS "a" = true := by decide +kernel
    rcases hd with rfl | rfl | rfl | rfl | rfl
    · exact bad_of (laid_int 5) (by decide) rfl
    · exact bad_of laid_non (by decide) rfl
    · exact bad_of (laid_bl true) (by decide) rfl
    · exact bad_of (laid_ev (e := (true, "a")) hA) (by decide) (evsOf_not (s := .tuple [.str "in", .str "a"]) rfl (d := .str "a") (by simp) rfl)
    · refine bad_of (laid_lst (k := 2) (by decide) fun x hx => ?_) (by decide) (evsOf_run (s := .list [oA, oA]) (es := [(true, "a"), (true, "a")]) rfl (by decide +kernel))
      simp only [List.mem_cons, List.not_mem_nil, or_false, or_self] at hx
      rw [hx]
      exact lc true "a" hA
  · simp only [List.mem_cons, List.not_mem_nil, or_false] at hd
    rcases hd with rfl | rfl
    · refine bad_of (laid_lst (k := 2) (by decide) fun x hx => ?_) (by decide) (evsOf_run (s := .list [oA, evD (false, "b")]) (es := [(true, "a"), (false, "b")]) rfl (by decide +kernel))
      simp only [List.mem_cons, List.not_mem_nil, or_false] at hx
      rcases hx with rfl | rfl
      · exact lc true "a" (by decide +kernel)
      · exact lc false "b" (by decide +kernel)
    · refine bad_of (laid_tup (k := 2) (by rw [List.length_append, List.length_append, List.length_map]; simp; omega) fun x hx => ?_) (by decide) (evsOf_run (es := (true, s) :: (es ++ [(true, s)])) ?_ (run_twice hns))
      · rw [List.mem_append, List.mem_append, List.mem_singleton] at hx
        rcases hx with (hx | hx) | hx
        · rw [hx]; exact lS true
        · exact lE x hx
        · rw [hx]; exact lS true
      · show some (([evD (true, s)] ++ es.map evD) ++ [evD (true, s)]) = _
        rw [List.map_cons, List.map_append]
        rfl
  · rw [List.mem_singleton] at hd
    subst hd
    refine bad_of (laid_tup (k := 2) (by rw [List.length_append, List.length_append, List.length_map]; simp; omega) fun x hx => ?_) (by decide) (evsOf_run (es := (true, s) :: (false, s) :: (es ++ [(false, s)])) ?_ (run_gone hns))
    · rw [List.mem_append, List.mem_append, List.mem_singleton] at hx
      rcases hx with (hx | hx) | hx
      · rcases List.mem_cons.mp hx with hx | hx
        · rw [hx]; exact lS true
        · rw [List.mem_singleton.mp hx]; exact lS false
      · exact lE x hx
      · rw [hx]; exact lS false
    · show some (([evD (true, s), evD (false, s)] ++ es.map evD) ++ [evD (false, s)]) = _
      rw [List.map_cons, List.map_cons, List.map_append]
      rfl
end K33

set_option Elab.async false
set_option linter.all false
set_option maxRecDepth 100000
set_option maxHeartbeats 4000000
/-! what no day is: the law's own list. -/
namespace K33
open PySem PySem.Spec PyProof.Rows L2
/-- a tuple of these values -/
def TV (K : Fg) (xs : List V) : VP := fun w H => ∃ p, w = .ref p ∧ SqT K H p xs
section
variable {K : Fg} {σ : L2.St} {H : Hp} {te ta tb tl : TE} {t1 t2 : TO} {xs ys : List V} {v : V}
theorem TV.mono {H' : Hp} {w : V} (e : Same H H') (h : TV K xs w H) : TV K xs w H' := let ⟨p, a, b⟩ := h; ⟨p, a, same_t e b⟩
theorem ev_tup1V (h : Ev te σ H (fun w _ => w = v)) : Ev (tTup (tCons te tNil)) σ H (TV K [v]) := fun H1 e Q q => h H1 e _ fun w H2 e2 hw => by
  subst hw
  exact ⟨(by show 1 ≤ sizeLine; rw [sizeLine_eq]; decide), fun p hp => q _ _ (e2.trans (Same.new hp)) ⟨p, rfl, SqT.of upd_same⟩⟩
theorem ev_slTV {lo hi : Option Int} (h : Ev te σ H (TV K xs)) (h1 : EvO t1 σ H lo) (h2 : EvO t2 σ H hi) : Ev (tSl (rSlU K) te t1 t2) σ H (TV K (cutV xs lo hi)) := fun H1 e Q q =>
  h H1 e _ fun w H2 e2 hw => h1 H2 (e.trans e2) _ fun H3 e3 => h2 H3 ((e.trans e2).trans e3) _ fun H4 e4 => by
    obtain ⟨p, rfl, s⟩ := hw.mono (e3.trans e4)
    refine .inr ⟨_, _, rfl, s, fun hw => q _ _ ((e2.trans e3).trans e4) ⟨p, rfl, ?_⟩, fun _ p hp => q _ _ (((e2.trans e3).trans e4).trans (Same.new hp)) ⟨p, rfl, SqT.of upd_same⟩⟩
    have ew : cutV xs lo hi = xs := by
      unfold cutV
      rw [hw.1, hw.2]
      simp
    rw [ew]
    exact s
theorem ev_addTV (ha : Ev ta σ H (TV K xs)) (hb : Ev tb σ H (TV K ys)) (hl : xs.length + ys.length ≤ 1000000) : Ev (tOp (rAddU K) ta tb) σ H (TV K (xs ++ ys)) := fun H1 e Q q =>
  ha H1 e _ fun w H2 e2 hw => hb H2 (e.trans e2) _ fun u H3 e3 hu => by
    obtain ⟨p, rfl, s1⟩ := hw.mono e3
    obtain ⟨r, rfl, s2⟩ := hu
    refine .inr (.inr (.inl ⟨_, _, _, _, rfl, rfl, s1, s2, big hl, fun e => ?_, fun _ e => ?_, fun _ _ p hp => ?_⟩))
    · subst e
      exact q _ H3 (e2.trans e3) ⟨r, rfl, s2⟩
    · subst e
      rw [List.append_nil] at q
      exact q _ H3 (e2.trans e3) ⟨p, rfl, s1⟩
    · exact q _ _ ((e2.trans e3).trans (Same.new hp)) ⟨p, rfl, SqT.of upd_same⟩
theorem el_lcX {ds : List PyData} {j : Nat} {vs : List Nat} (g : PyData → PyData) (h : Ev tl σ H (IsD K (.list ds))) (hz : ds.length ≤ 1000000) (hw : ∀ x, wipe ((wipe σ vs).set j (some x)) vs = wipe σ vs)
    (he : ∀ H1, Same H H1 → ∀ d v, d ∈ ds → Is K H1 v d → ∀ H2, Same H1 H2 → Ev te ((wipe σ vs).set j (some v)) H2 (fun y H3 => ∀ H4, Same H1 H4 → SameT H3 H4 → Is K H4 y (g d))) : EvL K (tLc (iSeq K tl) (gName j) tYes te vs) σ H (ds.map g) := fun H0 e Q q => .inl (h H0 e _ fun v H1 e1 hv => by
  cases hv with
  | @lst p xs _ s a =>
    refine ⟨p, rfl, ⟨xs, SqL.of s⟩, fun Dl hD => ?_⟩
    refine lc_list (K := K) (a := p) (xs := xs) (fun i H' => H1 Dl = none ∧ Same H1 H' ∧ ∃ ys, H' Dl = some (.lst ys) ∧ ys.length = i ∧ ∀ (j : Nat) y d, ys[j]? = some y → ds[j]? = some d → ∀ H4, Same H1 H4 → SameT H' H4 → Is K H4 y (g d)) ⟨hD, Same.new hD, [], upd_same, rfl, fun j y d hj => by simp at hj⟩ (fun i H' _ pv => SqL.of (pv.2.1 _ _ s)) (fun i x H' hx pv => ?_) (fun H' pv => ?_)
    · obtain ⟨p1, p2, ys, p3, p4, p5⟩ := pv
      obtain ⟨d, hd, hxd⟩ := a.getV hx
      have hm : d ∈ ds := List.mem_of_getElem? hd
      refine ⟨hw x, ?_⟩
      show te _ H' _
      refine he H1 (e.trans e1) d x hm hxd H' p2 H' (Same.refl _) _ fun y H3 e3 hy => ?_
      have hD3 := e3 _ _ p3
      have hi := (List.getElem?_eq_some_iff.mp hd).1
      refine ⟨ys, hD3, by rw [sizeLine_eq]; omega, p1, Same.mut (p2.trans e3) p1, ys ++ [y], upd_same, by rw [List.length_append, p4]; rfl, fun j y' d' hj hd' H4 s4 t4 => ?_⟩
      have t3 : SameT H3 H4 := (SameT.of_lst hD3).trans t4
      by_cases hjl : j < ys.length
      · rw [List.getElem?_append_left hjl] at hj
        exact p5 j y' d' hj hd' H4 s4 ((Same.t e3).trans t3)
      · have hj2 := (List.getElem?_eq_some_iff.mp hj).1
        rw [List.length_append] at hj2
        have ej : j = ys.length := by simp at hj2; omega
        subst ej
        simp at hj
        subst hj
        rw [p4, hd] at hd'
        cases hd'
        exact hy H4 s4 t3
    · obtain ⟨p1, p2, ys, p3, p4, p5⟩ := pv
      refine q Dl ys H' (e1.free p1) (e1.trans p2) p3 (allIs_of (by rw [p4, List.length_map, a.len]) fun j y d' hj hd' => ?_)
      rw [List.getElem?_map] at hd'
      obtain ⟨d, hd, rfl⟩ := Option.map_eq_some_iff.mp hd'
      exact p5 j y d hj hd H' p2 (fun a => ⟨fun _ h => h, fun _ _ h => h⟩))
theorem ev_isTV {ds : List PyData} (h : σ[0]? = some (some v)) {xs : List V} {p : Addr} (hv : v = .ref p) (s : SqT K H p xs) : Ev (tVar 0) σ H (TV K xs) := fun H1 e Q q => ⟨v, h, q v H1 (Same.refl _) ⟨p, hv, same_t e s⟩⟩
end
def ch (c : Nat) : Str := ⟨#[c]⟩
theorem rep8 (c : Nat) : repS (ch c) 8 = S (List.replicate 8 c) := by
  show (⟨_⟩ : Str) = ⟨_⟩
  rfl
def pre_noev : Pr := fun ds Post => ∃ (es : List Evt) (ns : List Str) (m : Nat), ds = [evsD es, .int m] ∧ Names ns ∧ EvOk ns es ∧ ∀ d, BadD d → Post d
section
variable {P : Program} {w : World} {K : Fg} {mg : Str → Option Value} {base : Heap} {f : Addr} {fd : FuncData} {C : Addr}
/-- slots: _events_here 0, _mark 1, _at 2, _used 3, _strange 4, _odd 5, _event 6, _letter 7, _bad 8 -/
theorem sc_law_no_events : FnScope ["_law_events_here", "_law_mark", "_law_at", "_law_used", "_law_strange", "_law_odd", "_law_event", "_law_letter", "_law_bad"] ["_law_events_here", "_law_mark"] (defScope s_law_no_events) := ⟨rfl, rfl, rfl, by decide +kernel, rfl, by decide +kernel, by decide +kernel⟩
theorem ok_law_no_events (F : Fun K "_law_no_events" "_law_no_events" s_law_no_events f fd) (B : Blt mg) : FnOk P w K mg base CX0 1 f fd ["_law_events_here", "_law_mark"] (SpD K pre_noev) := by
  refine F.ok sc_law_no_events (spd_len fun ds Post h => by obtain ⟨es, ns, m, rfl, _⟩ := h; rfl) (fun cdv A outer s H vs Q E hr h => ?_)
  obtain ⟨ds, Post, a, ⟨es, ns, m, rfl, hN, hE, hp⟩, q⟩ := h
  refine ⟨_, (pss_cons (ps_set (i := 2) sc_law_no_events.nd rfl (Or.inr rfl) (pe_op op_mod (pe_op op_fdiv (pe_callTy call_intU (by rfl) B.int (by decide +kernel) (pa_cons (pv 1) pa_nil)) pe_int) (pe_op (op_addK (K := K) rfl) (pe_callB (len_K (K := K) rfl) (by rfl) B.len PySem.boot_len (pa_cons (pv 0) pa_nil)) pe_int)))
      (pss_cons (ps_set (i := 3) sc_law_no_events.nd rfl (Or.inr rfl) (pe_lc (own := [("_law_event", 6)]) rfl sc_law_no_events.nd (seq_K (K := K) rfl (pv 0)) (blkOk_by (own := [("_law_event", 6)]) (N := ["_law_events_here", "_law_mark", "_law_at", "_law_used", "_law_strange", "_law_odd", "_law_event", "_law_letter", "_law_bad"]) (sc := (defScope s_law_no_events)) (by decide +kernel)) (fun _ _ _ _ _ => (pg_name (i := 6) sc_law_no_events.nd rfl (Or.inl rfl))) (fun _ _ _ _ _ => pts_nil) (fun _ _ _ _ _ => (pe_ix (ix_K (K := K) rfl) (pv 6) pe_int (fun _ _ => rfl)))))
      (pss_cons (ps_setLc (own := [("_law_letter", 7)]) (i := 4) rfl sc_law_no_events.nd rfl rfl (sw_true rfl rfl rfl (by decide +kernel)) (pi_str pe_str) (blkOk_by (own := [("_law_letter", 7)]) (N := ["_law_events_here", "_law_mark", "_law_at", "_law_used", "_law_strange", "_law_odd", "_law_event", "_law_letter", "_law_bad"]) (sc := (defScope s_law_no_events)) (by decide +kernel)) (fun _ _ _ _ _ => (pg_name (i := 7) sc_law_no_events.nd rfl (Or.inl rfl))) (fun _ _ _ _ _ => (pts_one (pt_cmpR (notIn_K (K := K) rfl) (pe_op op_mulU (pv 7) pe_int) (pv 3) (by with_unfolding_all rfl)))) (fun _ _ _ _ _ => (pe_op op_mulU (pv 7) pe_int)))
      (pss_cons (ps_set (i := 5) sc_law_no_events.nd rfl (Or.inl rfl) (pe_lst (pa_cons (pe_tup (pa_cons pe_str (pa_cons pe_str pa_nil))) (pa_cons (pe_tup (pa_cons pe_str (pa_cons pe_str pa_nil))) (pa_cons (pe_tup (pa_cons pe_str (pa_cons pe_str pa_nil))) (pa_cons (pe_lst (pa_cons pe_str (pa_cons pe_str pa_nil))) (pa_cons (pe_tup (pa_cons pe_str pa_nil)) (pa_cons (pe_tup (pa_cons pe_str (pa_cons pe_str (pa_cons pe_int pa_nil)))) (pa_cons (pe_tup (pa_cons pe_str (pa_cons pe_str pa_nil))) (pa_cons (pe_tup (pa_cons pe_str (pa_cons pe_int pa_nil))) pa_nil))))))))))
      (pss_cons (ps_set (i := 5) sc_law_no_events.nd rfl (Or.inl rfl) (pe_op (op_addK (K := K) rfl) (pv 5) (pe_lst (pa_cons pe_str (pa_cons pe_non (pa_cons (pe_tup (pa_cons pe_str (pa_cons (pe_ix (ix_K (K := K) rfl) (pv 4) pe_int (fun _ _ => rfl)) pa_nil))) (pa_cons (pe_tup (pa_cons (pe_tup (pa_cons pe_str (pa_cons (pe_ix (ix_K (K := K) rfl) (pv 4) pe_int (fun _ _ => rfl)) pa_nil))) pa_nil)) (pa_cons (pe_tup (pa_cons pe_str (pa_cons pe_non pa_nil))) pa_nil))))))))
      (pss_cons (ps_set (i := 5) sc_law_no_events.nd rfl (Or.inl rfl) (pe_op (op_addK (K := K) rfl) (pe_lc (own := [("_law_bad", 8)]) rfl sc_law_no_events.nd (seq_K (K := K) rfl (pv 5)) (blkOk_by (own := [("_law_bad", 8)]) (N := ["_law_events_here", "_law_mark", "_law_at", "_law_used", "_law_strange", "_law_odd", "_law_event", "_law_letter", "_law_bad"]) (sc := (defScope s_law_no_events)) (by decide +kernel)) (fun _ _ _ _ _ => (pg_name (i := 8) sc_law_no_events.nd rfl (Or.inl rfl))) (fun _ _ _ _ _ => pts_nil) (fun _ _ _ _ _ => (pe_op (op_addK (K := K) rfl) (pe_op (op_addK (K := K) rfl) (pe_slice (sl_K (K := K) rfl) (pv 0) po_none (po_some (pv 2))) (pe_tup (pa_cons (pv 8) pa_nil))) (pe_slice (sl_K (K := K) rfl) (pv 0) (po_some (pv 2)) po_none)))) (pe_lst (pa_cons pe_int (pa_cons pe_non (pa_cons pe_bl (pa_cons (pe_tup (pa_cons pe_str (pa_cons pe_str pa_nil))) (pa_cons (pe_lst (pa_cons (pe_tup (pa_cons pe_str (pa_cons pe_str pa_nil))) (pa_cons (pe_tup (pa_cons pe_str (pa_cons pe_str pa_nil))) pa_nil))) pa_nil))))))))
      (pss_cons (ps_set (i := 5) sc_law_no_events.nd rfl (Or.inl rfl) (pe_op (op_addK (K := K) rfl) (pv 5) (pe_lst (pa_cons (pe_lst (pa_cons (pe_tup (pa_cons pe_str (pa_cons pe_str pa_nil))) (pa_cons (pe_tup (pa_cons pe_str (pa_cons pe_str pa_nil))) pa_nil))) (pa_cons (pe_op (op_addK (K := K) rfl) (pe_op (op_addK (K := K) rfl) (pe_tup (pa_cons (pe_tup (pa_cons pe_str (pa_cons (pe_ix (ix_K (K := K) rfl) (pv 4) pe_int (fun _ _ => rfl)) pa_nil))) pa_nil)) (pv 0)) (pe_tup (pa_cons (pe_tup (pa_cons pe_str (pa_cons (pe_ix (ix_K (K := K) rfl) (pv 4) pe_int (fun _ _ => rfl)) pa_nil))) pa_nil))) pa_nil)))))
      (pss_cons (ps_set (i := 5) sc_law_no_events.nd rfl (Or.inl rfl) (pe_op (op_addK (K := K) rfl) (pv 5) (pe_lst (pa_cons (pe_op (op_addK (K := K) rfl) (pe_op (op_addK (K := K) rfl) (pe_tup (pa_cons (pe_tup (pa_cons pe_str (pa_cons (pe_ix (ix_K (K := K) rfl) (pv 4) pe_int (fun _ _ => rfl)) pa_nil))) (pa_cons (pe_tup (pa_cons pe_str (pa_cons (pe_ix (ix_K (K := K) rfl) (pv 4) pe_int (fun _ _ => rfl)) pa_nil))) pa_nil))) (pv 0)) (pe_tup (pa_cons (pe_tup (pa_cons pe_str (pa_cons (pe_ix (ix_K (K := K) rfl) (pv 4) pe_int (fun _ _ => rfl)) pa_nil))) pa_nil))) pa_nil))))
      (pss_one (ps_ret (pe_ix (ix_K (K := K) rfl) (pv 5) (pe_op op_mod (pe_callTy call_intU (by rfl) B.int (by decide +kernel) (pa_cons (pv 1) pa_nil)) (pe_callB (len_K (K := K) rfl) (by rfl) B.len PySem.boot_len (pa_cons (pv 5) pa_nil))) (fun _ _ => rfl)))))))))))), ?_⟩
  obtain ⟨v0, v1, rfl, h0, h1⟩ := all2 a
  cases h1
  have iI : ∀ {σ : L2.St} {H : Hp} {i : Nat} {n : Int}, σ[i]? = some (some (.int n)) → Ev (tVar i) σ H (IsD K (.int n)) := fun h => ev_var h (.int _)
  have elen : ((es.map evD).length : Int) = (es.length : Int) := by rw [List.length_map]
  have hnm : ∀ e ∈ es, nameS e.2 = true := fun e he => hN.2.2 _ (hE.sub e he)
  have h12 := hE.twelve
  obtain ⟨at_, hat, hatl⟩ : ∃ a : Nat, (m : Int) / 24 % ((es.length : Int) + 1) = (a : Int) ∧ a ≤ es.length := by
    have h1 := Int.emod_nonneg ((m : Int) / 24) (b := (es.length : Int) + 1) (by omega)
    have h2 := Int.emod_lt_of_pos ((m : Int) / 24) (b := (es.length : Int) + 1) (by omega)
    exact ⟨((m : Int) / 24 % ((es.length : Int) + 1)).toNat, by omega, by omega⟩
  refine q_asg (ev_is (ev_op (ev_op (ev_intI (iI rfl)) ev_int (rd_div (by decide))) (ev_op (ev_is (ev_lenT (ev_var rfl h0)) (by rw [elen])) ev_int rd_addI) (rd_mod (by omega))) (y := .int (at_ : Int)) (by rw [hat])) fun u H1 e1 hu => ?_
  have := Is.intV hu
  subst this
  refine q_asg (el_mapS (fun d => match d with | .tuple [_, n] => n | _ => .none) (.inr rfl) (ev_var rfl (h0.mono e1)) (by rw [List.length_map]; omega) (fun _ => rfl) (fun d hd y H2 e2 hy => ?_) (fun d hd => ?_)).ev fun vu H2 e2 hvu => ?_
  · obtain ⟨e, he, rfl⟩ := List.mem_map.mp hd
    exact ev_op (ev_var rfl hy) ev_int (rd_ix (d := .str e.2) (.inr rfl) (atI_n (j := 1) rfl rfl))
  · obtain ⟨e, he, rfl⟩ := List.mem_map.mp hd
    rfl
  have hvu : Is K H2 vu (.list ((es.map (·.2)).map .str)) := by
    have e0 : (es.map evD).map (fun d => match d with | .tuple [_, n] => n | _ => .none) = (es.map (·.2)).map .str := by
      rw [List.map_map, List.map_map]
      rfl
    rw [← e0]
    exact hvu
  -- a name that no event has
  have cs : ("abcdefgh" : Str).cps.toList = [97, 98, 99, 100, 101, 102, 103, 104] := by decide +kernel
  refine q_asgL (el_lcW (ew_str (K := K) (C := Same) ev_str) (fun d => match d with | .str s => !decide (repS s 8 ∈ es.map (·.2)) | _ => false) (fun d => match d with | .str s => .str (repS s 8) | _ => .none) (by rw [List.length_map, cs]; decide) (fun d hd y H3 e3 hy R k => g_nm (k _ rfl ?_ fun _ => ?_)) (fun d hd _ => ?_)) fun l xs H3 hl e3 h3 a3 => ?_
  · obtain ⟨c, hc, rfl⟩ := List.mem_map.mp hd
    exact et_test (ev_op (ev_op (ev_var rfl hy) ev_int (rd_mulS (s := ch c) (n := 8) (by decide) (by decide) (by show 0 < 1; decide) (by show 1 ≤ 100; decide) (by rw [show (8 : Int).toNat = 8 from rfl, rep8, S_len]; simp))) (ev_var rfl (Is.mono e3 hvu)) (rd_niS (.inl rfl)))
  · obtain ⟨c, hc, rfl⟩ := List.mem_map.mp hd
    exact ev_op (ev_var rfl hy) ev_int (rd_mulS (s := ch c) (n := 8) (by decide) (by decide) (by show 0 < 1; decide) (by show 1 ≤ 100; decide) (by rw [show (8 : Int).toNat = 8 from rfl, rep8, S_len]; simp))
  · obtain ⟨c, hc, rfl⟩ := List.mem_map.mp hd
    rfl
  rw [List.filter_map, List.map_map] at a3
  obtain ⟨c, cr, hcs⟩ : ∃ c cr, (("abcdefgh" : Str).cps.toList.filter fun c => !decide (repS (ch c) 8 ∈ es.map (·.2))) = c :: cr := by
    cases hf : ("abcdefgh" : Str).cps.toList.filter fun c => !decide (repS (ch c) 8 ∈ es.map (·.2)) with
    | cons c cr => exact ⟨c, cr, rfl⟩
    | nil =>
      exfalso
      rw [List.filter_eq_nil_iff] at hf
      have hall : ∀ x ∈ [97, 98, 99, 100, 101, 102, 103, 104].map fun c => S (List.replicate 8 c), x ∈ ns := fun x hx => by
        obtain ⟨c, hc, rfl⟩ := List.mem_map.mp hx
        rw [← cs] at hc
        have := hf c hc
        rw [Bool.not_eq_true', decide_eq_false_iff_not, Classical.not_not, rep8] at this
        obtain ⟨e, he, hee⟩ := List.mem_map.mp this
        rw [← hee]
        exact hE.sub e he
      have := nodup_le (by decide +kernel) hall
      rw [hN.1] at this
      simp at this
  have hcm : c ∈ ("abcdefgh" : Str).cps.toList.filter fun c => !decide (repS (ch c) 8 ∈ es.map (·.2)) := by rw [hcs]; exact List.mem_cons_self ..
  obtain ⟨hc1, hc2⟩ := List.mem_filter.mp hcm
  rw [Bool.not_eq_true', decide_eq_false_iff_not] at hc2
  rw [cs] at hc1
  have hs0 : nameS (repS (ch c) 8) = true := by
    rw [rep8]
    refine nameS_of (fun x hx => ?_) (by simp) (by simp)
    have := List.eq_of_mem_replicate hx
    subst this
    simp at hc1
    omega
  have a3 : AllIs K H3 xs ((c :: cr).map fun c => .str (repS (ch c) 8)) := by
    rw [← hcs]
    exact a3
  generalize hs : repS (ch c) 8 = s0 at a3 hc2 hs0
  have a3 : AllIs K H3 xs (.str s0 :: cr.map fun c => .str (repS (ch c) 8)) := by
    rw [← hs]
    exact a3
  have hst : Is K H3 (.ref l) (.list (.str s0 :: cr.map fun c => .str (repS (ch c) 8))) := .lst h3 a3
  have gS : ∀ {H4 : Hp} (e : Same H3 H4) {σ : L2.St}, σ[4]? = some (some (.ref l)) → Ev (tOp (rIx K) (tVar 4) (tC (.int 0))) σ H4 (IsD K (.str s0)) := fun {H4} e {σ} hσ => ev_op (ev_var hσ (hst.mono e)) ev_int (rd_ix (.inl rfl) (atI_n (j := 0) rfl rfl))
  have two : (2 : Nat) ≤ 100000 := by decide
  have tt : ∀ {σ : L2.St} {H4 : Hp} {ta tb : TE} {x y : PyData}, Ev ta σ H4 (IsD K x) → Ev tb σ H4 (IsD K y) → Ev (tTup (tCons ta (tCons tb tNil))) σ H4 (IsD K (.tuple [x, y])) := fun h1 h2 => ev_tup (ea2 h1 h2) (by show 2 ≤ 100000; decide)
  refine q_asg (ev_lst (K := K) (ds := [.tuple [.str "in", .str "A"], .tuple [.str "in", .str ""], .tuple [.str "in", .str "abcdefghi"], .list [.str "in", .str "a"], .tuple [.str "in"], .tuple [.str "in", .str "a", .int 1], .tuple [.str "go", .str "a"], .tuple [.str "in", .int 1]]) (ea_cons (tt ev_str ev_str) (ea_cons (tt ev_str ev_str) (ea_cons (tt ev_str ev_str) (ea_cons (ev_lst (ea2 ev_str ev_str) (by decide)) (ea_cons (ev_tup (ea1 ev_str) (by decide)) (ea_cons (ev_tup (ea_cons ev_str (ea2 ev_str ev_int)) (by decide)) (ea2 (tt ev_str ev_str) (tt ev_str ev_int)))))))) (by decide)) fun vo H4 e4 hvo => ?_
  refine q_asg (ev_addL (b := [.str "in", .none, .tuple [.str "out", .str s0], .tuple [.tuple [.str "in", .str s0]], .tuple [.str "out", .none]]) (ev_var rfl hvo) (ev_lst (ea_cons ev_str (ea_cons ev_non (ea_cons (tt ev_str (gS e4 rfl)) (ea2 (ev_tup (ea1 (tt ev_str (gS e4 rfl))) (by show 1 ≤ 100000; decide)) (tt ev_str ev_non))))) (by show 5 ≤ 100000; decide)) (by show 8 + 5 ≤ 1000000; decide)) fun vo2 H5 e5 hvo2 => ?_
  have hvo2 : Is K H5 vo2 (.list (o13 s0)) := hvo2
  have s5 : Same H H5 := (((e1.trans e2).trans e3).trans e4).trans e5
  -- each among the events
  have hwrap : EvL K (tLc (iSeq K (tVar 5)) (gName 8) tYes (tOp (rAddU K) (tOp (rAddU K) (tSl (rSlU K) (tVar 0) tNoPart (tPart (tVar 2))) (tTup (tCons (tVar 8) tNil))) (tSl (rSlU K) (tVar 0) (tPart (tVar 2)) tNoPart)) [8]) [some v0, some (.int (m : Int)), some (.int (at_ : Int)), some vu, some (.ref l), some vo2, none, none, none] H5 ((o13 s0).map (wrapD (es.map evD) at_)) := by
    refine el_lcX (wrapD (es.map evD) at_) (ev_var rfl hvo2) (by show 13 ≤ 1000000; decide) (fun _ => rfl) fun H6 e6 d v hd hv H7 e7 => ?_
    have h07 := h0.mono (s5.trans (e6.trans e7))
    cases h07 with
    | @tup p zs _ s a =>
      have hz := a.len
      rw [List.length_map] at hz
      have hcut : ∀ lo hi, (cutV zs lo hi).length ≤ zs.length := fun lo hi => by
        unfold cutV
        rw [List.length_take, List.length_drop]
        omega
      refine (ev_addTV (ev_addTV (ev_slTV (ev_isTV (ds := []) rfl rfl s) eo_none (eo_some (iI rfl))) (ev_tup1V (v := v) (ev_slot rfl)) (by have := hcut none (some (at_ : Int)); simp; omega)) (ev_slTV (ev_isTV (ds := []) rfl rfl s) (eo_some (iI rfl)) eo_none) (by rw [List.length_append]; have := hcut none (some (at_ : Int)); have := hcut (some (at_ : Int)) none; simp; omega)).imp fun y H8 e8 hy H9 s9 t9 => ?_
      obtain ⟨r, rfl, sr⟩ := hy
      have hE8 := a.mono e8
      have ec1 : cutD (es.map evD) none (some (at_ : Int)) = (es.map evD).take at_ := cut_to (by rw [List.length_map]; exact hatl)
      have ec2 : cutD (es.map evD) (some (at_ : Int)) none = (es.map evD).drop at_ := cut_from (by rw [List.length_map]; exact hatl)
      have a1 := hE8.cut (lo := none) (hi := some (at_ : Int))
      have a2 := hE8.cut (lo := some (at_ : Int)) (hi := none)
      rw [ec1] at a1
      rw [ec2] at a2
      have n1 : nlAll ((es.map evD).take at_) = true := by rw [← List.map_take]; exact nl_evs _
      have n2 : nlAll ((es.map evD).drop at_) = true := by rw [← List.map_drop]; exact nl_evs _
      exact .tup (sameT_t t9 sr) (((a1.monoT t9 n1).append (.cons (hv.mono s9) .nil)).append (a2.monoT t9 n2))
  refine q_asg (ev_addL (b := [.int 5, .none, .bool true, .tuple [.str "in", .str "a"], .list [oA, oA]]) hwrap.ev (ev_lst (ea_cons ev_int (ea_cons ev_non (ea_cons ev_bl (ea2 (tt ev_str ev_str) (ev_lst (ea2 (tt ev_str ev_str) (tt ev_str ev_str)) (by show 2 ≤ 100000; decide)))))) (by show 5 ≤ 100000; decide)) (by show 13 + 5 ≤ 1000000; decide)) fun vo3 H6 e6 hvo3 => ?_
  have s36 : Same H3 H6 := (e4.trans e5).trans e6
  have h06 := h0.mono (s5.trans e6)
  refine q_asg (ev_addL (b := [.list [oA, evD (false, "b")], .tuple (([evD (true, s0)] ++ es.map evD) ++ [evD (true, s0)])]) (ev_var rfl hvo3) (ev_lst (ea2 (ev_lst (ea2 (tt ev_str ev_str) (tt ev_str ev_str)) (by show 2 ≤ 100000; decide)) (ev_op (ev_op (ev_tup (ea1 (tt ev_str (gS s36 rfl))) (by show 1 ≤ 100000; decide)) (ev_var rfl h06) (rd_addT (by rw [List.length_map]; simp; omega))) (ev_tup (ea1 (tt ev_str (gS s36 rfl))) (by show 1 ≤ 100000; decide)) (rd_addT (by rw [List.length_append, List.length_map]; simp; omega)))) (by show 2 ≤ 100000; decide)) (by show 18 + 2 ≤ 1000000; decide)) fun vo4 H7 e7 hvo4 => ?_
  refine q_asg (ev_addL (b := [.tuple (([evD (true, s0), evD (false, s0)] ++ es.map evD) ++ [evD (false, s0)])]) (ev_var rfl hvo4) (ev_lst (ea1 (ev_op (ev_op (ev_tup (ea2 (tt ev_str (gS (s36.trans e7) rfl)) (tt ev_str (gS (s36.trans e7) rfl))) (by show 2 ≤ 100000; decide)) (ev_var rfl (h06.mono e7)) (rd_addT (by rw [List.length_map]; simp; omega))) (ev_tup (ea1 (tt ev_str (gS (s36.trans e7) rfl))) (by show 1 ≤ 100000; decide)) (rd_addT (by rw [List.length_append, List.length_map]; simp; omega)))) (by show 1 ≤ 100000; decide)) (by show 20 + 1 ≤ 1000000; decide)) fun vo5 H8 e8 hvo5 => ?_
  have hvo5 : Is K H8 vo5 (.list (oddAll (es.map evD) at_ s0)) := hvo5
  have hbad := odd_bad (at_ := at_) hnm h12 hs0 hc2
  have hol : (oddAll (es.map evD) at_ s0).length = 21 := rfl
  obtain ⟨d, hd⟩ : ∃ d, (oddAll (es.map evD) at_ s0)[m % 21]? = some d := ⟨_, List.getElem?_eq_getElem (by rw [hol]; exact Nat.mod_lt _ (by decide))⟩
  refine s_ret (P := IsD K d) (ev_op (ev_var rfl hvo5) (ev_op (ev_intI (iI rfl)) (ev_lenL (ev_var rfl hvo5)) (rd_mod (by rw [hol]; decide))) (rd_ix (.inl rfl) (atI_n (j := m % 21) (by rw [hol]; omega) hd))) fun u H9 e9 hu => q d u H9 (hp d (hbad d (List.mem_of_getElem? hd))) (s5.trans (e6.trans (e7.trans (e8.trans e9)))) hu
end
end K33

set_option Elab.async false
set_option linter.all false
set_option maxRecDepth 100000
set_option maxHeartbeats 4000000
/-! the law's refused: try, except InvalidDay as e. -/
namespace K33
open PySem PySem.Spec PyProof.Rows L2
/-! ### isinstance of a caught error that has a dict -/
section
open PySem.W PySem.Calls
variable {prog : Program} {w : World} {A : Around} {E : Value → Shared → Prop} {K : Frag} {x D : Addr} {ox od : Obj} {hp : Heap} {gs : Array GenState} {dn : Drawn} {t : Nat} {os : OsState}
theorem cls_of_exc {Q : Option Value → Shared → Prop} (C : ExcC K D) (X : K.In hp) (I : InstAt hp x ox D (some od)) (k : Q (some (.ref D)) ⟨hp, gs, dn, t + 1, os⟩) : wpAny (model prog w) A (getAttr? (.ref x) "__class__") Q E ⟨hp, gs, dn, t, os⟩ := by
  have ic : isClsIn K D = true := by
    obtain ⟨cd, hc, _⟩ := any_some C.hd
    unfold isClsIn
    rw [hc] <;> rfl
  have hf : findObj K D (some od) "__class__" = some (.bind (.builtin "getset_descriptor.__get__") (.builtin "object.__class__")) := findObj_data ic C.ha C.hn C.ht
  have T0 := I.type (M := model prog w)
  have T1 := looks_findIn (M := model prog w) X C.hg
  have T2 := looks_findIn (M := model prog w) X C.hk
  have T3 := looks_find (M := model prog w) X I hf
  have sub : Looks (model prog w) hp (isInstance (.ref x) (.type "BaseException")) true := T0.andThen (looks_subIn X C.hs)
  unfold getAttr? getAttrBy? getAttrBy
  refine wpAny_bind (wpAny_mkText (wpAny_bind (wpAny_attempt (wpAny_holding (wpAny_bind (T0.at (wpAny_bind (T1.at ?_))))))))
  have n1 : (onTheHeap (Value.ref D) && Value.builtin "BaseException.__getattribute__" == Value.builtin "object.__getattribute__") = false := by
    rw [show (Value.builtin "BaseException.__getattribute__" == Value.builtin "object.__getattribute__") = false by decide +kernel, Bool.and_false]
  show wpAny _ _ (if (onTheHeap (Value.ref D) && Value.builtin "BaseException.__getattribute__" == Value.builtin "object.__getattribute__") = true then _ else _) _ _ _
  rw [n1, if_neg Bool.false_ne_true]
  unfold getAttrByItsOwn hookBefore
  refine wpAny_bind ?_
  rw [if_pos (show onTheHeap (Value.ref D) = true from rfl)]
  refine T2.at (wpAny_bind (wpAny_attempt (wpAny_holding ?_)))
  unfold callGetattribute
  rw [show (false && onTheHeap (Value.builtin "BaseException.__getattribute__")) = false from rfl, if_neg Bool.false_ne_true]
  unfold boundAndCalled
  rw [PySem.F.excAttr_ValueError.ga.bind (.ref x)]
  refine wpAny_bind (wpAny_pure ?_)
  show wpAny _ _ (call (.builtin "BaseException.__getattribute__") [.ref x, .str "__class__" t]) _ _ _
  refine wpAny_call (codeAny_call_builtin PySem.F.excAttr_ValueError.ga.plain PySem.F.entry_bexc_ga (@check_slot (model prog w) _ _ ⟨hp, gs, dn, t + 1, os⟩ "BaseException.__getattribute__" "BaseException" "__getattribute__" (.ref x) [.str "__class__" t] [] _ (by decide +kernel) (by decide +kernel) sub (PySem.F.args_bexc_ga (.ref x) (.str "__class__" t)) ?_))
  unfold Builtin.«object.__getattribute__»
  refine wpAny_bind (wpAny_of_eq (a := ((Value.ref x : Value), [Value.str "__class__" t])) (by first | rfl | (simp only [slotArgs]; rfl)) (wpAny_bind (wpAny_pure (wpAny_bind (T0.at (wpAny_bind (T3.at ?_)))))))
  show wpAny _ _ (holding [Value.builtin "object.__class__"] (call (.builtin "getset_descriptor.__get__") [.builtin "object.__class__", .ref x, .ref D]) >>= ret) _ _ _
  refine wpAny_bind (wpAny_holding (wpAny_call (class_get (s := ⟨hp, gs, dn, t + 1, os⟩) (ox := ox) (od := some od) X I C.hm (wpAny_pure ?_))))
  show wpAny _ _ (handedOut (.ref D)) _ _ _
  rw [handedOut_of (v := .ref D) rfl]
  first
    | exact wpAny_pure (wpAny_pure k)
    | exact wpAny_pure k
    | exact wpAny_pure (wpAny_bind (wpAny_pure (wpAny_pure k)))
theorem kit_of_exc (C : ExcC K D) : KitX K (.ref x) (.ref D) (fun h => InstAt h x ox D (some od)) where
  ty := fun _ _ _ I => I.type
  it := fun M h X _ => by
    obtain ⟨cd, hc, _⟩ := any_some C.hd
    obtain ⟨o, ho⟩ : ∃ o : Obj, h.get? D = some o ∧ o.data = .cls cd := by
      unfold clsIn at hc
      split at hc
      · rename_i lk
        cases hc
        exact ⟨_, X _ _ lk, rfl⟩
      · cases hc
    obtain ⟨oc, od', oda, osl⟩ := o
    obtain ⟨ho, rfl⟩ := ho
    intro A' Q' E' s' k q
    unfold isType loadHead
    exact wpAny_bind (wpAny_loadPart (k _ _ ho) (wpAny_pure q))
  ne := fun h tp dd its n sl X htp => (handS_kitx_exc (x := x) (ox := ox) C.hg C.hk C.hs C.hd C.ha C.hn C.ht C.hm).ne h tp dd its n sl X htp
  ca := fun {prog} {w} {A} {E} {Q} {s} X I k => by
    obtain ⟨hp, gs, dn, t, os⟩ := s
    exact cls_of_exc C X I k
end
/-- isinstance(e, c), e the error that the suite holds -/
def rIsX (K : Fg) (a : Addr) (cls : Value) (d : Option Addr) (C : Addr) : List V → Hp → VK → Prop := fun xs H Q => ∃ (c : V) (cv : Value) (b : Bool) (dd : Addr) (fs : List (Str × V)), xs = [.ref a, c] ∧ cls = .ref C ∧ d = some dd ∧ H dd = some (.xd fs) ∧ (∀ u, RelV c u → u = cv) ∧ PySem.W.kitOne K (.ref C) cv = some b ∧ Q (.bl b) H
theorem call_isX {X : Cx} {a C : Addr} {oe : Obj} {cls : Value} {d : Option Addr} {pn : List (Addr × Obj)} (Ec : ExcC X.K C) (hz : Zc cls d oe) (hf : ∃ vs, oe.data = .fields vs) : CallR (X.suite a ((a, oe) :: pn)) (.builtin "isinstance") (rIsX X.K a cls d C) := by
  intro pins s σ H xs us Q I r ⟨c, cv, b, dd, fs, hxs, hcl, hd, hdd, hcv, hk, q⟩
  subst hxs hcl hd
  cases r with
  | cons rx rr =>
    cases rr with
    | cons rt rr =>
      cases rr
      cases rx
      obtain rfl := hcv _ rt
      obtain ⟨hget, _⟩ := I.pin (a, oe) (List.mem_append.mpr (.inl List.mem_cons_self))
      have hx : ObjOk X.prog X.w H s.heap dd (.xd fs) := I.hok dd _ hdd
      obtain ⟨mA, hns, _⟩ := hx
      obtain ⟨od, ho, _⟩ := lookIn_ns hns
      obtain ⟨vs, hv⟩ := hf
      have J : PySem.W.InstAt s.heap a oe C (some od) := ⟨hget, hz.1, by unfold PySem.W.notCls; rw [hv] <;> rfl, by rw [hz.2]; exact ho⟩
      exact PySem.W.kia_one (kit_of_exc Ec) I.kIn J hk (fun z => nomatch z) fun tk => ⟨.bl b, H, I.kept (t' := tk) fun _ _ z => z, rfl, q⟩
/-! ### calls within the try -/
theorem pe_fnS {X : Cx} {k : Nat} {x : Str} {ps : List Str} {sp : Sp} {W : WX} {e : Expr} {es : List Expr} {t : TA} {p pos : Pos} (G : Fn X.prog X.w X.K X.mg X.base (L2.CX X.prog X.w) k x ps sp) (hr : Room k X.A) (hg : Gl X x) (tk : Takes X W) (ha : PA X (e :: es) t)
    (hdb : (x == ("__debug__" : Str)) = false := by decide) (he : starEach (e :: es) X.env = (false, eval e X.env) :: starEach es X.env := by rfl) (hpl : (backTo pos (starEach es X.env)).any (·.1) = false := by rfl) :
    PE X (.Call (.Name x p) (e :: es) [] pos) (tCallS sp (WE W) t) := by
  obtain ⟨f, fd, F, gf, kf, b⟩ := G.ex
  exact pe_callS F hr hg gf kf b (fun σ => passAt tk σ) ha hdb he hpl
section
variable {K : Fg} {σ : L2.St} {H : Hp} {te ta tb : TE} {C : Addr}
/-- a call that lets out the error -/
theorem s_dropS {Pre : PrX} {D : Ends} {W : WX} {ta : TA} {ds : List PyData} {d : PyData} (h : EvA K ta σ H ds) (hs : Pre ds (fun _ => False) (fun ed => ed = d)) (hW : ∀ cls o H', XDay C K H d cls o H' → W cls o σ H') : tDrop (tCallS (SpR K C Pre) (WE W) ta) D σ H :=
  h H (Same.refl H) _ fun vs H1 e1 hvs => ⟨ds, _, _, hvs, hs, fun _ _ _ z => z.elim, fun ed cls o H2 he x => by
    subst he
    exact hW cls o H2 (x.mono e1)⟩
theorem ev_isX {a : Addr} {cls : Value} {dx : Addr} {fs : List (Str × V)} {c : V} {cv : Value} (h1 : Ev ta σ H (fun w _ => w = .ref a)) (h2 : Ev tb σ H (fun w _ => w = c)) (hcl : cls = .ref C) (hd : H dx = some (.xd fs)) (hcv : ∀ u, RelV c u → u = cv) (hk : PySem.W.kitOne K (.ref C) cv = some true) :
    Ev (tCB (rIsX K a cls (some dx) C) (tCons ta (tCons tb tNil))) σ H (IsD K (.bool true)) := fun H1 e Q q => h1 H1 e _ fun w H2 e2 hw => h2 H2 (e.trans e2) _ fun u H3 e3 hu => by
  subst hw hu
  exact ⟨u, cv, true, dx, fs, rfl, hcl, rfl, ((e.trans e2).trans e3) _ _ hd, hcv, hk, q _ H3 (e2.trans e3) (.bl true)⟩
theorem ev_xf {a : Addr} {cls : Value} {dx : Addr} {v : V} {d : PyData} (h1 : Ev ta σ H (fun w _ => w = .ref a)) (hcl : cls = .ref C) (hd : H dx = some (.xd [("value", v)])) (hv : Is K H v d) : Ev (tXf a cls (some dx) C "value" ta) σ H (IsD K d) := fun H1 e Q q => h1 H1 e _ fun w H2 e2 hw => by
  subst hw
  exact ⟨rfl, hcl, dx, [("value", v)], v, rfl, (e.trans e2) _ _ hd, by simp [List.lookup], q v H2 e2 (hv.mono (e.trans e2))⟩
end
/-- what the law's refused wants of the classes -/
structure Rf (K : Fg) (C CY : Addr) (mg : Str → Option Value) : Prop where
  xf : XfC K C
  ec : ExcC K C
  no : PySem.W.findIn K (.ref C) "value" = some none
  m : mg "InvalidDay" = some (.ref C)
  my : mg "YardError" = some (.ref CY)
  ve : mg "ValueError" = none
  ex : PySem.W.exmOne K (.ref C) (.ref C) = some true
  k1 : PySem.W.kitOne K (.ref C) (.ref CY) = some true
  k2 : PySem.W.kitOne K (.ref C) (.type "ValueError") = some true
/-- what the law's except clause reads -/
def tsR (K : Fg) (C CE : Addr) : Addr → Value → Option Addr → TS := fun a cls d => tRet (tAndV (tCB (rIsX K a cls d C) (tCons (tVar 2) (tCons (tC (.ref CE)) tNil))) (tAndV (tCB (rIsX K a cls d C) (tCons (tVar 2) (tCons (tC (.ty "ValueError")) tNil))) (tOp (rEqU K) (tXf a cls d C "value" (tVar 2)) (tVar 0))))
def pre_refused : Pr := fun ds Post => ∃ (d : PyData) (n : Nat), ds = [d, .int n] ∧ BadD d ∧ Post (.bool true)
section
variable {P : Program} {w : World} {K : Fg} {mg : Str → Option Value} {base : Heap} {f : Addr} {fd : FuncData} {C CE : Addr}
/-- slots: _value 0, _way 1, _e 2 -/
theorem sc_law_refused : FnScope ["_law_value", "_law_way", "_law_e"] ["_law_value", "_law_way"] (defScope s_law_refused) := ⟨rfl, rfl, rfl, by decide +kernel, rfl, by decide +kernel, by decide +kernel⟩
theorem ok_law_refused (F : Fun K "_law_refused" "_law_refused" s_law_refused f fd) (B : Blt mg) (R : Rf K C CE mg) (G_fewest_stacks : Fn P w K mg base (L2.CX P w) 7 "fewest_stacks" ["events"] (SpR K C pre_fs)) (G_fewest_claim : Fn P w K mg base (L2.CX P w) 8 "fewest_claim" ["events"] (SpR K C pre_fc))
    (G_fewest_paper : Fn P w K mg base (L2.CX P w) 7 "fewest_paper" ["events"] (SpR K C pre_fp)) (G_fewest_holds : Fn P w K mg base (L2.CX P w) 7 "fewest_holds" ["events", "claim", "paper"] (SpR K C pre_fh)) : FnOk P w K mg base (L2.CX P w) 9 f fd ["_law_value", "_law_way"] (SpD K pre_refused) := by
  refine F.okX sc_law_refused (spd_len fun ds Post h => by obtain ⟨d, n, rfl, _⟩ := h; rfl) (fun cdv A outer s H vs Q E hr h => ?_)
  obtain ⟨ds, Post, a, ⟨d, n, rfl, hbad, hp⟩, q⟩ := h
  refine ⟨_, (pss_cons (ps_try_as (i := 2) rfl rfl sc_law_refused.nd rfl rfl ⟨by rfl, by decide, .inl R.m⟩ (takes_of rfl rfl rfl rfl)
      (fun W pn xe tk po => (pss_one (ps_if (pt_cmpR (op_eqK (K := K) rfl hr.units) (pv 1) pe_int (nomark _)) (pss_one (ps_expr (pe_fnS G_fewest_stacks (hr.mono (by decide)) (by rfl) tk (pa_cons (pv 0) pa_nil))))
          (pss_one (ps_if (pt_cmpR (op_eqK (K := K) rfl hr.units) (pv 1) pe_int (nomark _)) (pss_one (ps_expr (pe_fnS G_fewest_claim (hr.mono (by decide)) (by rfl) tk (pa_cons (pv 0) pa_nil))))
          (pss_one (ps_if (pt_cmpR (op_eqK (K := K) rfl hr.units) (pv 1) pe_int (nomark _)) (pss_one (ps_expr (pe_fnS G_fewest_paper (hr.mono (by decide)) (by rfl) tk (pa_cons (pv 0) pa_nil))))
          (pss_one (ps_expr (pe_fnS G_fewest_holds (hr.mono (by decide)) (by rfl) tk (pa_cons (pv 0) (pa_cons pe_non (pa_cons pe_int pa_nil)))))))))))))
      (fun a oe cls d pn hz hf => (pss_one (ps_ret (pe_and (pe_callB (call_isX R.ec hz hf) (by rfl) B.isinstance (by decide +kernel) (pa_cons (pv 2) (pa_cons (pe_glob (v := .ref CE) (by rfl) R.my rfl) pa_nil)))
          (pe_and (pe_callB (call_isX R.ec hz hf) (by rfl) B.isinstance (by decide +kernel) (pa_cons (pv 2) (pa_cons (pe_bltn (v := .ty "ValueError") (by rfl) B.ve (by decide +kernel) rfl) pa_nil)))
          (pe_one (pe_cmpR (op_eqK (K := K) rfl hr.units) (pe_xf R.xf R.no hz hf (pv 2)) (pv 0) (nomark _)))))))))
      (pss_one (ps_ret pe_bl))), ?_⟩
  obtain ⟨v0, v1, rfl, h0, h1⟩ := all2 a
  cases h1
  obtain ⟨hf, hev, hsh, heq⟩ := hbad
  have iI : ∀ {σ : L2.St} {H : Hp} {i : Nat} {n : Int}, σ[i]? = some (some (.int n)) → Ev (tVar i) σ H (IsD K (.int n)) := fun h => ev_var h (.int _)
  have catch_ : ∀ (D : Ends), D.rt = Q → ∀ (cls : Value) (o : Option Addr) (H2 : Hp), XDay C K H d cls o H2 → wAs K (.ref C) 2 (tsR K C CE) (fun cls d _ H => E cls d H) D cls o [some v0, some (.int (n : Int)), none] H2 := by
    intro D hD cls o H2 x2
    subst hD
    obtain ⟨hcl, dx, v, rfl, hdx, s2, hv⟩ := x2
    subst hcl
    refine ⟨true, R.ex, fun _ a ha => ?_, fun z => Bool.noConfusion z⟩
    refine s_retD (K := K) (d' := .bool true) (ev_andV (a := true) (b := true) (ev_isX (ev_slot rfl) ev_eq rfl hdx (fun u r => r) R.k1) fun _ => ev_andV (a := true) (b := true) (ev_isX (ev_slot rfl) ev_eq rfl hdx (fun u r => r) R.k2) fun _ => ev_is (ev_op (ev_xf (ev_slot rfl) rfl hdx hv) (ev_var rfl (h0.mono s2)) (rd_eq hsh hsh)) (by rw [heq])) rfl fun u H3 e3 hu => q _ u H3 hp (s2.trans e3) hu
  show tIfS _ _ _ _ _ _
  refine s_if (b := decide ((n : Int) = 0)) (et_test (ev_op (iI rfl) ev_int rd_eqI)) (fun _ H1 e1 => ?_) (fun _ H1 e1 => ?_)
  · refine s_dropS (d := d) (ea1 (ev_var rfl (h0.mono e1))) ⟨d, rfl, hf, fun es he => absurd (hev.symm.trans he) (fun z => nomatch z), fun _ => rfl⟩ fun cls o H2 x2 => ?_
    exact catch_ _ rfl cls o H2 (x2.mono e1)
  · refine s_if (b := decide ((n : Int) = 1)) (et_test (ev_op (iI rfl) ev_int rd_eqI)) (fun _ H2 e2 => ?_) (fun _ H2 e2 => ?_)
    · refine s_dropS (d := d) (ea1 (ev_var rfl ((h0.mono e1).mono e2))) ⟨d, rfl, hf, fun es he => absurd (hev.symm.trans he) (fun z => nomatch z), fun _ => rfl⟩ fun cls o H3 x3 => ?_
      exact catch_ _ rfl cls o H3 (x3.mono (e1.trans e2))
    · refine s_if (b := decide ((n : Int) = 2)) (et_test (ev_op (iI rfl) ev_int rd_eqI)) (fun _ H3 e3 => ?_) (fun _ H3 e3 => ?_)
      · refine s_dropS (d := d) (ea1 (ev_var rfl (((h0.mono e1).mono e2).mono e3))) ⟨d, rfl, hf, fun es he => absurd (hev.symm.trans he) (fun z => nomatch z), fun _ => rfl⟩ fun cls o H4 x4 => ?_
        exact catch_ _ rfl cls o H4 (x4.mono ((e1.trans e2).trans e3))
      · refine s_dropS (d := d) (ea_cons (ev_var rfl (((h0.mono e1).mono e2).mono e3)) (ea2 ev_non ev_int)) ⟨d, _, _, rfl, hf, fun _ => rfl, fun es he => absurd (hev.symm.trans he) (fun z => nomatch z)⟩ fun cls o H4 x4 => ?_
        exact catch_ _ rfl cls o H4 (x4.mono ((e1.trans e2).trans e3))
end
end K33

set_option Elab.async false
set_option linter.all false
set_option maxRecDepth 100000
set_option maxHeartbeats 4000000
/-! the law. -/
namespace K33
open PySem PySem.Spec PyProof.Rows L2
/-! ### what the answers are -/
theorem dupB_iff {T : Nat → Nat → Bool} {n : Nat} {row : List Nat} (hl : row.length = n) : dupB T n row = false ↔ ∀ i j x, i < j → row[i]? = some x → row[j]? = some x → T j i = false := by
  unfold dupB
  rw [List.any_eq_false]
  constructor
  · intro h i j x hij hi hj
    cases hT : T j i with
    | false => rfl
    | true =>
      have hjl := (List.getElem?_eq_some_iff.mp hj).1
      have := h (j, i) (pairsL_mem.mpr ⟨by show j < n; omega, hij, hT⟩)
      exfalso
      apply this
      show decide (row.getD j 0 = row.getD i 0) = true
      rw [List.getD_eq_getElem?_getD, List.getD_eq_getElem?_getD, hi, hj]
      exact decide_eq_true rfl
  · intro h p hp hd
    obtain ⟨h1, h2, h3⟩ := pairsL_mem.mp hp
    have hd := of_decide_eq_true hd
    have hi : row[p.2]? = some (row.getD p.2 0) := by rw [List.getD_eq_getElem?_getD, List.getElem?_eq_getElem (by omega)]; rfl
    have hj : row[p.1]? = some (row.getD p.1 0) := by rw [List.getD_eq_getElem?_getD, List.getElem?_eq_getElem (by omega)]; rfl
    rw [hd] at hj
    have := h p.2 p.1 _ h2 hi hj
    rw [h3] at this
    cases this
theorem places_iff {n : Nat} {i : Int} {row : List Nat} : placesB (rowD row) n i = true ↔ row.length = n ∧ ∀ x ∈ row, (x : Int) < i := by
  show (decide ((row.map natD).length = n) && (row.map natD).all fun d => below d i) = true ↔ _
  rw [Bool.and_eq_true, decide_eq_true_eq, List.length_map, List.all_eq_true]
  constructor
  · rintro ⟨h1, h2⟩
    refine ⟨h1, fun x hx => ?_⟩
    have := h2 (natD x) (List.mem_map_of_mem hx)
    have : (decide (0 ≤ (x : Int)) && decide ((x : Int) < i)) = true := this
    rw [Bool.and_eq_true, decide_eq_true_eq, decide_eq_true_eq] at this
    exact this.2
  · rintro ⟨h1, h2⟩
    refine ⟨h1, fun d hd => ?_⟩
    obtain ⟨x, hx, rfl⟩ := List.mem_map.mp hd
    show (decide (0 ≤ (x : Int)) && decide ((x : Int) < i)) = true
    rw [decide_eq_true (by omega : (0 : Int) ≤ (x : Int)), decide_eq_true (h2 x hx)] <;> rfl
theorem rising_iff {n : Nat} {l : List Nat} : risingB (rowD l) (n : Int) = true ↔ l.Pairwise (· < ·) ∧ ∀ x ∈ l, x < n := by
  show (((l.map natD).all fun d => below d n) && risingI ((l.map natD).map intOf)) = true ↔ _
  have e1 : (l.map natD).map intOf = l.map fun (x : Nat) => (x : Int) := by rw [List.map_map]; rfl
  rw [e1, Bool.and_eq_true, List.all_eq_true]
  have h1 : (∀ d ∈ l.map natD, below d n = true) ↔ ∀ x ∈ l, x < n := by
    constructor
    · intro h x hx
      have : (decide (0 ≤ (x : Int)) && decide ((x : Int) < (n : Int))) = true := h (natD x) (List.mem_map_of_mem hx)
      rw [Bool.and_eq_true, decide_eq_true_eq, decide_eq_true_eq] at this
      omega
    · intro h d hd
      obtain ⟨x, hx, rfl⟩ := List.mem_map.mp hd
      have := h x hx
      show (decide (0 ≤ (x : Int)) && decide ((x : Int) < (n : Int))) = true
      rw [decide_eq_true (by omega : (0 : Int) ≤ (x : Int)), decide_eq_true (by omega : (x : Int) < (n : Int))] <;> rfl
  rw [h1]
  have h2 : risingI (l.map fun (x : Nat) => (x : Int)) = true ↔ l.Pairwise (· < ·) := by
    unfold risingI
    rw [List.all_eq_true, List.length_map]
    have g : ∀ i, (hi : i < l.length) → (l.map fun (x : Nat) => (x : Int)).getD i 0 = (l[i] : Int) := fun i hi => by
      rw [List.getD_eq_getElem?_getD, List.getElem?_map, List.getElem?_eq_getElem hi]
      rfl
    constructor
    · intro h
      have step : ∀ i, (hi : i + 1 < l.length) → l[i] < l[i + 1] := fun i hi => by
        have := of_decide_eq_true (h i (List.mem_range.mpr (by omega)))
        rw [g i (by omega), g (i + 1) hi] at this
        omega
      rw [List.pairwise_iff_getElem]
      intro i j hi hj hij
      induction j with
      | zero => omega
      | succ j ih =>
        have s := step j hj
        rcases Nat.lt_or_ge i j with h2 | h2
        · have := ih (by omega) h2
          omega
        · have : i = j := by omega
          subst this
          exact s
    · intro h i hi
      have hi := List.mem_range.mp hi
      rw [g i (by omega), g (i + 1) (by omega)]
      have := List.pairwise_iff_getElem.mp h i (i + 1) (by omega) (by omega) (Nat.lt_succ_self i)
      exact decide_eq_true (by omega)
  rw [h2, And.comm]
theorem crowd_same {T : Nat → Nat → Bool} {n : Nat} {l : List Nat} : isCrowd T n l = (risingB (rowD l) (n : Int) && allClash T l) := by
  have h : isCrowd T n l = true ↔ (risingB (rowD l) (n : Int) && allClash T l) = true := by
    rw [isCrowd_iff, Bool.and_eq_true, rising_iff, allClash_iff]
    unfold Crowd
    constructor
    · rintro ⟨h1, h2⟩
      exact ⟨⟨h1.imp fun h => h.1, h2⟩, h1.imp fun h => h.2⟩
    · rintro ⟨⟨h1, h2⟩, h3⟩
      exact ⟨h1.and h3 |>.imp fun h => h, h2⟩
  cases e1 : isCrowd T n l with
  | true => exact (h.mp e1).symm
  | false =>
    cases e2 : (risingB (rowD l) (n : Int) && allClash T l) with
    | false => rfl
    | true => rw [h.mpr e2] at e1; cases e1
theorem noCol_yes {T : Nat → Nat → Bool} {n m : Nat} (h : ∀ c, ¬ Col T n m c) : noColB T n m = true := @decide_eq_true _ (Classical.propDecidable _) h
theorem noCol_no {T : Nat → Nat → Bool} {n m : Nat} {c : List Nat} (h : Col T n m c) : noColB T n m = false := @decide_eq_false _ (Classical.propDecidable _) fun z => z c h
/-- the two agree of a paper whose row is right -/
theorem shows_law {T : Nat → Nat → Bool} {n k : Nat} (hL : Least T n k) (hk : 0 < k) (s : Str) : ∀ o, showsB T n k s o = lawPaper T n k s o
  | none => by
    show (decide (s = "search") && (decide (k = 0) || noColB T n (k - 1))) = decide (s = "search")
    have : noColB T n (k - 1) = true := noCol_yes fun c hc => by
      have := hL.2 (k - 1) ⟨c, hc⟩
      omega
    rw [this, Bool.or_true, Bool.and_true]
  | some l => by
    show (decide (s = "crowd") && (risingB (rowD l) (n : Int) && (decide (l.length = k) && allClash T l))) = (decide (s = "crowd") && (decide (l.length = k) && isCrowd T n l))
    rw [crowd_same]
    generalize risingB (rowD l) (n : Int) = a
    generalize allClash T l = b
    generalize decide (l.length = k) = c
    cases a <;> cases b <;> cases c <;> rfl
def clD (i : Int) : PyData := .tuple [.str "stacks", .int i]
theorem claim_cl (i : Int) : claimI (clD i) = some i := by
  show (if ("stacks" : Str) = "stacks" then some i else none) = some i
  rw [if_pos rfl]
theorem holds_at {T : Nat → Nat → Bool} {n k : Nat} {row : List Nat} (hC : Col T n k row) {i : Nat} (hi : k ≤ i) (s : Str) (o : Option (List Nat)) : holdsB T n (clD i) row s o = showsB T n i s o := by
  unfold holdsB
  rw [claim_cl]
  show (placesB (rowD row) n i && (!dupB T n row && (decide (0 ≤ (i : Int)) && showsB T n ((i : Int).toNat) s o))) = _
  have h1 : placesB (rowD row) n i = true := places_iff.mpr ⟨hC.1, fun x hx => by have := hC.2.1 x hx; omega⟩
  have h2 : dupB T n row = false := (dupB_iff hC.1).mpr hC.2.2
  rw [h1, h2, decide_eq_true (by omega : (0 : Int) ≤ (i : Int)), Int.toNat_natCast]
  rfl
/-- a claim of one less does not hold -/
theorem holds_less {T : Nat → Nat → Bool} {n k : Nat} {row : List Nat} (hL : Least T n k) (hC : Col T n k row) (s : Str) (o : Option (List Nat)) : holdsB T n (clD ((k : Int) - 1)) row s o = false := by
  unfold holdsB
  rw [claim_cl]
  show (placesB (rowD row) n ((k : Int) - 1) && (!dupB T n row && (decide (0 ≤ (k : Int) - 1) && showsB T n ((k : Int) - 1).toNat s o))) = false
  by_cases hk : k = 0
  · rw [decide_eq_false (by omega : ¬ (0 : Int) ≤ (k : Int) - 1), Bool.false_and, Bool.and_false, Bool.and_false]
  · have h1 : placesB (rowD row) n ((k : Int) - 1) = false := by
      cases e : placesB (rowD row) n ((k : Int) - 1) with
      | false => rfl
      | true =>
        obtain ⟨a, b⟩ := places_iff.mp e
        have := hL.2 (k - 1) ⟨row, a, fun x hx => by have := b x hx; omega, hC.2.2⟩
        omega
    rw [h1, Bool.false_and]
theorem holds_none {T : Nat → Nat → Bool} {n : Nat} {c : PyData} (h : claimI c = none) (row : List Nat) (s : Str) (o : Option (List Nat)) : holdsB T n c row s o = false := by
  unfold holdsB
  rw [h]
/-- the paper that is made: of a search where there is no crowd, else of one -/
structure Made (T : Nat → Nat → Bool) (n k : Nat) (s : Str) (o : Option (List Nat)) : Prop where
  ok : PyData.strOk s = true
  len : ∀ l, o = some l → l.length ≤ 900
  kind : (s = "search" ∧ o = none ∧ crowds T n k = []) ∨ (s = "crowd" ∧ ∃ l, o = some l ∧ l ∈ crowds T n k)
theorem paper_made {T : Nat → Nat → Bool} {n k : Nat} (hk : k ≤ 6) : ∃ s o, paperV T n k = valD s o ∧ Made T n k s o := by
  unfold paperV
  cases h : crowds T n k with
  | nil => exact ⟨"search", none, rfl, by decide +kernel, fun l e => (by cases e), .inl ⟨rfl, rfl, h⟩⟩
  | cons l ls =>
    have hm : l ∈ crowds T n k := by rw [h]; exact List.mem_cons_self ..
    have := (crowds_mem.mp hm).2
    exact ⟨"crowd", some l, rfl, by decide +kernel, fun l' e => (by cases e; omega), .inr ⟨rfl, l, rfl, hm⟩⟩
section
variable {T : Nat → Nat → Bool} {n k : Nat} {s : Str} {o : Option (List Nat)}
theorem Made.law (m : Made T n k s o) : lawPaper T n k s o = true := by
  rcases m.kind with ⟨rfl, rfl, _⟩ | ⟨rfl, l, rfl, hm⟩
  · show decide (("search" : Str) = "search") = true
    exact decide_eq_true rfl
  · obtain ⟨h1, h2⟩ := crowds_mem.mp hm
    show (decide (("crowd" : Str) = "crowd") && (decide (l.length = k) && isCrowd T n l)) = true
    rw [decide_eq_true rfl, decide_eq_true h2, isCrowd_iff.mpr h1]
    rfl
theorem Made.shows (m : Made T n k s o) (hL : Least T n k) : showsB T n k s o = true := by
  rcases Nat.eq_zero_or_pos k with hk | hk
  · subst hk
    rcases m.kind with ⟨rfl, rfl, _⟩ | ⟨rfl, l, rfl, hm⟩
    · show (decide (("search" : Str) = "search") && (decide (0 = 0) || noColB T n (0 - 1))) = true
      rfl
    · obtain ⟨h1, h2⟩ := crowds_mem.mp hm
      show (decide (("crowd" : Str) = "crowd") && (risingB (rowD l) (n : Int) && (decide (l.length = 0) && allClash T l))) = true
      have := isCrowd_iff.mpr h1
      rw [crowd_same, Bool.and_eq_true] at this
      rw [this.1, this.2, decide_eq_true h2]
      rfl
  · rw [shows_law hL hk, m.law]
theorem Made.more (m : Made T n k s o) {row : List Nat} (hC : Col T n k row) : showsB T n (k + 1) s o = false := by
  rcases m.kind with ⟨rfl, rfl, _⟩ | ⟨rfl, l, rfl, hm⟩
  · show (decide (("search" : Str) = "search") && (decide (k + 1 = 0) || noColB T n (k + 1 - 1))) = false
    rw [Nat.add_sub_cancel, noCol_no hC]
    rfl
  · obtain ⟨h1, h2⟩ := crowds_mem.mp hm
    show (decide (("crowd" : Str) = "crowd") && (risingB (rowD l) (n : Int) && (decide (l.length = k + 1) && allClash T l))) = false
    rw [decide_eq_false (by omega : ¬ l.length = k + 1), Bool.false_and, Bool.and_false, Bool.and_false]
theorem Made.other (m : Made T n k s o) : (o.isNone && decide (s = "search")) ≠ (foundL T n k n).any fun r => decide (r.length = k) := by
  have hb := crowd_both (T := T) (n := n) (k := k)
  rcases m.kind with ⟨rfl, rfl, hc⟩ | ⟨rfl, l, rfl, hm⟩
  · have : ((foundL T n k n).any fun r => decide (r.length = k)) = false := by
      rw [List.any_eq_false]
      intro r hr hd
      exact hb.mp ⟨r, hr, of_decide_eq_true hd⟩ hc
    rw [this]
    decide +kernel
  · have : ((foundL T n k n).any fun r => decide (r.length = k)) = true := by
      obtain ⟨r, hr, hl⟩ := hb.mpr (fun z => by rw [z] at hm; cases hm)
      exact List.any_eq_true.mpr ⟨r, hr, decide_eq_true hl⟩
    rw [this]
    show (false && _) ≠ true
    rw [Bool.false_and]
    decide
end
theorem flat_row (l : List Nat) (h : l.length ≤ 900) : flatP 1 (rowD l) := .inr ⟨l.map natD, rfl, by rw [List.length_map]; omega, fun x hx => by
  obtain ⟨n, _, rfl⟩ := List.mem_map.mp hx
  exact .inl ⟨_, rfl⟩⟩
theorem flat_up : ∀ {n : Nat} {d : PyData}, flatP n d → flatP (n + 1) d := fun h => .inl h
theorem flat_paper {row : List Nat} {s : Str} {o : Option (List Nat)} (hr : row.length ≤ 900) (ho : ∀ l, o = some l → l.length ≤ 900) : flatP 3 (.tuple [rowD row, valD s o]) := .inr ⟨_, rfl, by show 2 ≤ 1000; decide, fun x hx => by
  rcases List.mem_cons.mp hx with rfl | hx
  · exact flat_up (flat_row row hr)
  · rw [List.mem_singleton.mp hx]
    have hs : flatP 1 (.str s) := flat_up (.inr ⟨s, rfl⟩)
    cases o with
    | none => exact .inr ⟨[.str s], rfl, by show 1 ≤ 1000; decide, fun y hy => by rw [List.mem_singleton.mp hy]; exact hs⟩
    | some l =>
      refine .inr ⟨[.str s, rowD l], rfl, by show 2 ≤ 1000; decide, fun y hy => ?_⟩
      rcases List.mem_cons.mp hy with rfl | hy
      · exact hs
      · rw [List.mem_singleton.mp hy]
        exact flat_row l (ho l rfl)⟩
end K33

set_option Elab.async false
set_option linter.all false
set_option maxRecDepth 100000
set_option maxHeartbeats 4000000
/-! the law, walked. -/
namespace K33
open PySem PySem.Spec PyProof.Rows L2
section
variable {K : Fg} {σ : L2.St} {H : Hp} {te ta : TE}
theorem ev_rngT {n : Nat} (h : Ev ta σ H (IsD K (.int (n : Int)))) (hn : n ≤ 1000) : Ev (tTupRg (tRg1 ta)) σ H (IsD K (rowD (List.range n))) := fun H1 e Q q => h H1 e _ fun v H2 e2 hv => by
  cases hv
  refine ⟨(n : Int), rfl, RgOk.of_le (by omega) (by omega) (by omega) (by omega), fun p hp => q _ _ (e2.trans (Same.new hp)) ?_⟩
  have ev : rgV 0 (n : Int) = (List.range n).map fun (i : Nat) => V.int (i : Int) := by
    unfold rgV
    rw [show ((n : Int) - 0).toNat = n by omega]
    exact List.map_congr_left fun i _ => by rw [Int.zero_add]
  rw [ev]
  exact .tup (SqT.of upd_same) (allNat' _)
end
theorem laid_evs {es : List Evt} (h : ∀ e ∈ es, nameS e.2 = true) (hl : es.length ≤ 12) : laid 2 (.list (es.map evD)) ∧ laid 2 (.tuple (es.map evD)) := by
  have a : ∀ x ∈ es.map evD, laid 1 x := fun x hx => by
    obtain ⟨e, he, rfl⟩ := List.mem_map.mp hx
    exact laid_ev (h e he)
  have b : (es.map evD).length ≤ 1000 := by rw [List.length_map]; omega
  exact ⟨laid_lst b a, laid_tup b a⟩
def spWhole (K : Fg) : Sp := fun vs H Q _ => ∃ v ns, vs = [v] ∧ Scr K H v ns ∧ ∀ w H', Same H H' → Is K H' w (.bool true) → Q w H'
def spLaw (K : Fg) : Sp := fun vs H Q _ => ∃ (a : Addr) (ns : List Int), vs = [.ref a] ∧ SqL K H a (ns.map V.int) ∧ ∀ H', Q (.bl true) H'
section
variable {P : Program} {w : World} {K : Fg} {mg : Str → Option Value} {base : Heap} {f : Addr} {fd : FuncData} {C : Addr}
/-- all that the law calls -/
structure Gs (P : Program) (w : World) (K : Fg) (mg : Str → Option Value) (base : Heap) (C : Addr) : Prop where
  free : Fn P w K mg base CX0 3 "_law_free" ["_law_script", "_law_salt"] (spFree K)
  cell : Fn P w K mg base CX0 1 "_law_cell" ["_law_script", "_law_k"] (spCell K)
  row : Fn P w K mg base CX0 1 "_law_row" ["_law_cell_here", "_law_many", "_law_base", "_law_salt"] (SpD K pre_row)
  stays : Fn P w K mg base CX0 2 "_law_stays" ["_law_stacks", "_law_events_here"] (SpD K pre_lstays)
  least : Fn P w K mg base CX0 2 "_law_least" ["_law_stays_here"] (SpD K pre_lleast)
  same : Fn P w K mg base CX0 3 "_law_same" ["_law_given", "_law_due"] (SpD K pre_same)
  flat : Fn P w K mg base CX0 5 "_law_is_flat" ["_law_value"] (SpD K (pre_flat 3))
  paper : Fn P w K mg base CX0 3 "_law_fewest_paper" ["_law_stays_here", "_law_k", "_law_paper"] (SpD K pre_lpaper)
  has : Fn P w K mg base CX0 3 "_law_has_crowd" ["_law_stays_here", "_law_k"] (SpD K pre_hcrowd)
  says : Fn P w K mg base CX0 1 "_law_says" ["_law_answer", "_law_due"] (SpD K pre_says)
  noev : Fn P w K mg base CX0 1 "_law_no_events" ["_law_events_here", "_law_mark"] (SpD K pre_noev)
  refused : Fn P w K mg base (L2.CX P w) 9 "_law_refused" ["_law_value", "_law_way"] (SpD K pre_refused)
  fs : Fn P w K mg base (L2.CX P w) 7 "fewest_stacks" ["events"] (SpR K C pre_fs)
  fsk : FnK P w K mg base (L2.CX P w) 7 "fewest_stacks" ["events"] (SpR K C pre_fs)
  fc : Fn P w K mg base (L2.CX P w) 8 "fewest_claim" ["events"] (SpR K C pre_fc)
  fp : Fn P w K mg base (L2.CX P w) 7 "fewest_paper" ["events"] (SpR K C pre_fp)
  fh : Fn P w K mg base (L2.CX P w) 7 "fewest_holds" ["events", "claim", "paper"] (SpR K C pre_fh)
  fhk : FnK P w K mg base (L2.CX P w) 7 "fewest_holds" ["events", "claim", "paper"] (SpR K C pre_fh)
/-- slots: _script 0, _events_here 1, _marks 2, _given 3, _stays_here 4, _k 5, _number 6, _paper 7, _claim 8, _crowd 9, _due 10 -/
theorem sc_law_whole : FnScope ["_law_script", "_law_events_here", "_law_marks", "_law_given", "_law_stays_here", "_law_k", "_law_number", "_law_paper", "_law_claim", "_law_crowd", "_law_due"] ["_law_script"] (defScope s_law_whole) := ⟨rfl, rfl, rfl, by decide +kernel, rfl, by decide +kernel, by decide +kernel⟩
theorem ok_law_whole (F : Fun K "_law_whole" "_law_whole" s_law_whole f fd) (B : Blt mg) (G : Gs P w K mg base C) : FnOk P w K mg base (L2.CX P w) 10 f fd ["_law_script"] (spWhole K) := by
  obtain ⟨G__law_free, G__law_cell, G__law_row, G__law_stays, G__law_least, G__law_same, G__law_is_flat, G__law_fewest_paper, G__law_has_crowd, G__law_says, G__law_no_events, G__law_refused, G_fewest_stacks, Gk_fewest_stacks, G_fewest_claim, G_fewest_paper, G_fewest_holds, Gk_fewest_holds⟩ := G
  refine F.okX sc_law_whole (fun vs H Q E h => by obtain ⟨v, ns, rfl, _⟩ := h; rfl) (fun cdv A outer s H vs Q E hr h => ?_)
  obtain ⟨v, ns, rfl, hs, q⟩ := h
  refine ⟨_, (pss_cons (ps_set (i := 1) sc_law_whole.nd rfl (Or.inl rfl) (pe_fn G__law_free (hr.mono (by decide)) (by rfl) pass0 (pa_cons (pv 0) (pa_cons pe_int pa_nil))))
      (pss_cons (ps_set (i := 2) sc_law_whole.nd rfl (Or.inl rfl) (pe_fn G__law_row (hr.mono (by decide)) (by rfl) pass0 (pa_cons (pe_fn G__law_cell (hr.mono (by decide)) (by rfl) pass0 (pa_cons (pv 0) (pa_cons pe_int pa_nil))) (pa_cons pe_int (pa_cons pe_int (pa_cons pe_int pa_nil))))))
      (pss_cons (ps_set (i := 3) sc_law_whole.nd rfl (Or.inl rfl) (pe_ix (ix_K (K := K) rfl) (pe_lst (pa_cons (pv 1) (pa_cons (pe_callTy (lst_K (K := K) rfl) (by rfl) B.list (by decide +kernel) (pa_cons (pv 1) pa_nil)) pa_nil))) (pe_op op_mod (pe_callTy call_intU (by rfl) B.int (by decide +kernel) (pa_cons (pe_ix (ix_K (K := K) rfl) (pv 2) pe_int (fun _ _ => rfl)) pa_nil)) pe_int) (fun _ _ => rfl)))
      (pss_cons (ps_set (i := 4) sc_law_whole.nd rfl (Or.inl rfl) (pe_fn G__law_stays (hr.mono (by decide)) (by rfl) pass0 (pa_cons (pe_tup pa_nil) (pa_cons (pv 1) pa_nil))))
      (pss_cons (ps_set (i := 5) sc_law_whole.nd rfl (Or.inl rfl) (pe_fn G__law_least (hr.mono (by decide)) (by rfl) pass0 (pa_cons (pv 4) pa_nil)))
      (pss_cons (ps_set (i := 6) sc_law_whole.nd rfl (Or.inl rfl) (pe_fn G_fewest_stacks (hr.mono (by decide)) (by rfl) passL (pa_cons (pv 3) pa_nil)))
      (pss_cons (ps_if (PW.pt (pw_or (pt_not (pt_val (pe_fn G__law_same (hr.mono (by decide)) (by rfl) pass0 (pa_cons (pv 6) (pa_cons (pv 5) pa_nil))))) (pw_or1 (pt_not (pt_val (pe_fn G__law_same (hr.mono (by decide)) (by rfl) pass0 (pa_cons (pe_fn G_fewest_claim (hr.mono (by decide)) (by rfl) passL (pa_cons (pv 3) pa_nil)) (pa_cons (pe_tup (pa_cons pe_str (pa_cons (pv 5) pa_nil))) pa_nil)))))))) (pss_one (ps_ret pe_bl)) pss_nil)
      (pss_cons (ps_set (i := 7) sc_law_whole.nd rfl (Or.inl rfl) (pe_fn G_fewest_paper (hr.mono (by decide)) (by rfl) passL (pa_cons (pv 3) pa_nil)))
      (pss_cons (ps_if (PW.pt (pw_or (pt_not (pt_val (pe_fn G__law_is_flat (hr.mono (by decide)) (by rfl) pass0 (pa_cons (pv 7) pa_nil)))) (pw_or1 (pt_not (pt_val (pe_fn G__law_fewest_paper (hr.mono (by decide)) (by rfl) pass0 (pa_cons (pv 4) (pa_cons (pv 5) (pa_cons (pv 7) pa_nil))))))))) (pss_one (ps_ret pe_bl)) pss_nil)
      (pss_cons (ps_if (PW.pt (pw_and (pt_cmpR op_gt (pv 5) pe_int (nomark _)) (pw_and1 (pt_cmpR (op_eqK (K := K) rfl hr.units) (pe_cmpR (op_eqK (K := K) rfl hr.units) (pe_ix (ix_K (K := K) rfl) (pv 7) pe_int (fun _ _ => rfl)) (pe_tup (pa_cons pe_str pa_nil)) (nomark _)) (pe_fn G__law_has_crowd (hr.mono (by decide)) (by rfl) pass0 (pa_cons (pv 4) (pa_cons (pv 5) pa_nil))) (nomark _))))) (pss_one (ps_ret pe_bl)) pss_nil)
      (pss_cons (ps_if (pt_cmpR op_notBl (pe_fn G_fewest_holds (hr.mono (by decide)) (by rfl) passL (pa_cons (pv 3) (pa_cons (pe_tup (pa_cons pe_str (pa_cons (pv 5) pa_nil))) (pa_cons (pv 7) pa_nil)))) pe_bl (nomark _)) (pss_one (ps_ret pe_bl)) pss_nil)
      (pss_cons (ps_for (passes_of rfl) rfl (seq_K (K := K) rfl (pe_tup (pa_cons (pe_tup (pa_cons pe_str (pa_cons (pe_op (op_addK (K := K) rfl) (pv 5) pe_int) pa_nil))) (pa_cons (pe_tup (pa_cons pe_str (pa_cons (pe_op op_sub (pv 5) pe_int) pa_nil))) (pa_cons (pe_tup (pa_cons pe_str pa_nil)) (pa_cons (pe_tup (pa_cons pe_str pa_nil)) (pa_cons (pe_lst (pa_cons pe_str (pa_cons (pv 5) pa_nil))) (pa_cons (pe_tup (pa_cons pe_str (pa_cons (pv 5) (pa_cons pe_int pa_nil)))) (pa_cons pe_non pa_nil))))))))) (pg_name (i := 8) sc_law_whole.nd rfl (Or.inl rfl)) (pss_one (ps_if (pt_cmpR op_notBl (pe_fn G_fewest_holds (hr.mono (by decide)) (by rfl) passL (pa_cons (pv 3) (pa_cons (pv 8) (pa_cons (pv 7) pa_nil)))) pe_bl (nomark _)) (pss_one (ps_ret pe_bl)) pss_nil)))
      (pss_cons (ps_if (pt_cmpR op_notBl (pe_fn G_fewest_holds (hr.mono (by decide)) (by rfl) passL (pa_cons (pv 3) (pa_cons (pe_tup (pa_cons pe_str (pa_cons pe_bl pa_nil))) (pa_cons (pv 7) pa_nil)))) pe_bl (nomark _)) (pss_one (ps_ret pe_bl)) pss_nil)
      (pss_cons (ps_if (pt_cmpR op_gt (pv 5) pe_int (nomark _)) (pss_cons (ps_if (pt_cmpR op_notBl (pe_fn G_fewest_holds (hr.mono (by decide)) (by rfl) passL (pa_cons (pv 3) (pa_cons (pe_tup (pa_cons pe_str (pa_cons (pe_op (op_addK (K := K) rfl) (pv 5) pe_int) pa_nil))) (pa_cons (pe_tup (pa_cons (pe_ix (ix_K (K := K) rfl) (pv 7) pe_int (fun _ _ => rfl)) (pa_cons (pe_tup (pa_cons pe_str pa_nil)) pa_nil))) pa_nil)))) pe_bl (nomark _)) (pss_one (ps_ret pe_bl)) pss_nil)
      (pss_one (ps_for (passes_of rfl) rfl (seq_K (K := K) rfl (pe_tup (pa_cons (pe_tup (pa_cons pe_str pa_nil)) (pa_cons (pe_tup (pa_cons pe_str (pa_cons (pe_tup pa_nil) pa_nil))) (pa_cons (pe_tup (pa_cons pe_str (pa_cons (pe_tupRg rfl (by rfl) B.tuple (prg_1 (by rfl) B.range (pe_callB (len_K (K := K) rfl) (by rfl) B.len PySem.boot_len (pa_cons (pv 4) pa_nil)))) pa_nil))) (pa_cons (pe_tup (pa_cons pe_str pa_nil)) pa_nil)))))) (pg_name (i := 9) sc_law_whole.nd rfl (Or.inl rfl)) (pss_cons (ps_set (i := 10) sc_law_whole.nd rfl (Or.inl rfl) (pe_fn G__law_fewest_paper (hr.mono (by decide)) (by rfl) pass0 (pa_cons (pv 4) (pa_cons (pv 5) (pa_cons (pe_tup (pa_cons (pe_ix (ix_K (K := K) rfl) (pv 7) pe_int (fun _ _ => rfl)) (pa_cons (pv 9) pa_nil))) pa_nil)))))
      (pss_one (ps_if (pt_not (pt_val (pe_fn G__law_says (hr.mono (by decide)) (by rfl) pass0 (pa_cons (pe_fnK Gk_fewest_holds (hr.mono (by decide)) (by rfl) passL (pk_cons (pv 3) (pk_cons (pe_tup (pa_cons pe_str (pa_cons (pv 5) pa_nil))) (pk_cons (pe_tup (pa_cons (pe_ix (ix_K (K := K) rfl) (pv 7) pe_int (fun _ _ => rfl)) (pa_cons (pv 9) pa_nil))) pk_nil)))) (pa_cons (pv 10) pa_nil))))) (pss_one (ps_ret pe_bl)) pss_nil)))))) pss_nil)
      (pss_cons (ps_if (pt_not (pt_val (pe_fn G__law_refused (hr.mono (by decide)) (by rfl) passL (pa_cons (pe_fn G__law_no_events (hr.mono (by decide)) (by rfl) pass0 (pa_cons (pv 1) (pa_cons (pe_ix (ix_K (K := K) rfl) (pv 2) pe_int (fun _ _ => rfl)) pa_nil))) (pa_cons (pe_op op_mod (pe_callTy call_intU (by rfl) B.int (by decide +kernel) (pa_cons (pe_ix (ix_K (K := K) rfl) (pv 2) pe_int (fun _ _ => rfl)) pa_nil)) pe_int) pa_nil))))) (pss_one (ps_ret pe_bl)) pss_nil)
      (pss_one (ps_ret (pe_and (pe_cmpR (op_eqK (K := K) rfl hr.units) (pe_callTy (lst_K (K := K) rfl) (by rfl) B.list (by decide +kernel) (pa_cons (pv 3) pa_nil)) (pe_callTy (lst_K (K := K) rfl) (by rfl) B.list (by decide +kernel) (pa_cons (pv 1) pa_nil)) (nomark _)) (pe_one (pe_fn G__law_same (hr.mono (by decide)) (by rfl) pass0 (pa_cons (pe_fnK Gk_fewest_stacks (hr.mono (by decide)) (by rfl) passL (pk_cons (pv 1) pk_nil)) (pa_cons (pv 5) pa_nil)))))))))))))))))))))), ?_⟩
  have iI : ∀ {σ : L2.St} {H : Hp} {i : Nat} {n : Int}, σ[i]? = some (some (.int n)) → Ev (tVar i) σ H (IsD K (.int n)) := fun h => ev_var h (.int _)
  -- the day
  refine q_asg (ev_raw2 (P := fun v H' => ∃ ms es, Names ms ∧ EvOk ms es ∧ Is K H' v (evsD es)) (P1 := fun w _ => w = v) (P2 := fun w _ => w = .int 3) (ev_slot rfl) (fun _ _ _ _ h => h) ev_eq fun a b H1 e1 ha hb Q kk => by
    subst ha hb
    exact ⟨a, ns, rfl, hs.mono e1, fun ms es h1 h2 w H2 e2 hw => kk w H2 e2 ⟨ms, es, h1, h2, hw⟩⟩) fun ve H1 e1 ⟨nm, es, hN, hE, hve⟩ => ?_
  have hnm : ∀ e ∈ es, nameS e.2 = true := fun e he => hN.2.2 _ (hE.sub e he)
  have h12 := hE.twelve
  have elen : ((es.map evD).length : Int) = (es.length : Int) := by rw [List.length_map]
  refine q_asg (ev_call (K := K) (Post := fun d => ∃ ms : List Int, d = .list (ms.map .int) ∧ ms.length = 3 ∧ ∀ x ∈ ms, 0 ≤ x ∧ x < 27720) (ea_cons (ev_raw2 (P := IsD K (.int (cellI ns 3))) (P1 := fun w _ => w = v) (P2 := fun w _ => w = .int (3 : Nat)) (ev_slot rfl) (fun _ _ _ _ h => h) ev_eq fun a b H2 e2 ha hb Q kk => by
    subst ha hb
    exact ⟨a, ns, 3, rfl, hs.mono (e1.trans e2), fun w H3 e3 hw => kk w H3 e3 hw⟩) (ea_cons (ev_int (i := ((3 : Nat) : Int))) (ea2 ev_int ev_int))) ⟨_, 3, _, _, rfl, by decide, by decide, by decide, fun ms h1 h2 => ⟨ms, rfl, h1, h2⟩⟩) fun vm H2 e2 ⟨d, ⟨ms, hd, hml, hmr⟩, hvm⟩ => ?_
  subst hd
  have hmk : ∀ i, i < 3 → ∃ z : Nat, ms[i]? = some (z : Int) := fun i hi => by
    have hi' : i < ms.length := by omega
    have := hmr ms[i] (List.getElem_mem _)
    exact ⟨ms[i].toNat, by rw [List.getElem?_eq_getElem hi']; congr 1; omega⟩
  obtain ⟨m0, hm0⟩ := hmk 0 (by decide)
  obtain ⟨m1, hm1⟩ := hmk 1 (by decide)
  obtain ⟨m2, hm2⟩ := hmk 2 (by decide)
  have gm : ∀ {H3 : Hp} (e : Same H2 H3) {σ : L2.St} {i z : Nat}, σ[2]? = some (some vm) → ms[i]? = some (z : Int) → Ev (tOp (rIx K) (tVar 2) (tC (.int (i : Int)))) σ H3 (IsD K (.int (z : Int))) := fun {H3} e {σ} {i} {z} hσ hz =>
    ev_op (ev_var hσ (Is.mono e hvm)) ev_int (rd_ix (.inl rfl) (atI_n rfl (by rw [List.getElem?_map, hz]; rfl)))
  -- as a tuple or as a list
  obtain ⟨dG, hdG, hgs⟩ : ∃ dG, ([evsD es, .list (es.map evD)] : List PyData)[m0 % 2]? = some dG ∧ (dG = .list (es.map evD) ∨ dG = .tuple (es.map evD)) := by
    have h2 : m0 % 2 < 2 := Nat.mod_lt _ (by decide)
    generalize m0 % 2 = j at h2
    match j, h2 with
    | 0, _ => exact ⟨_, rfl, .inr rfl⟩
    | 1, _ => exact ⟨_, rfl, .inl rfl⟩
  refine q_asg (ev_op (ev_lst (ea2 (ev_var rfl (Is.mono e2 hve)) (el_lstOf (.inr rfl) (ev_var rfl (Is.mono e2 hve))).ev) (by show 2 ≤ 100000; decide)) (ev_op (ev_intI (gm (i := 0) (Same.refl _) rfl hm0)) ev_int (rd_mod (by decide))) (rd_ix (.inl rfl) (atI_n (j := m0 % 2) (by omega) hdG))) fun vg H3 e3 hvg => ?_
  obtain ⟨la, lb⟩ := laid_evs hnm h12
  have hfit : fit dG = true := by rcases hgs with e | e <;> (subst e; first | exact la.1 | exact lb.1)
  have hev : evsOf dG = some es := evsOf_yes hgs hnm hE.ok
  have hn6 : (staysOf es).length ≤ 6 := by
    unfold staysOf
    rw [staysTo_len (Nat.le_refl _), List.take_length]
    exact hE.six
  refine q_asg (ev_callF (z := .list ((staysOf es).map stD)) (ea2 (ev_tup ea_nil (by decide)) (ev_var rfl (Is.mono (e2.trans e3) hve))) ⟨es, rfl, by omega, rfl⟩) fun vs H4 e4 hvs => ?_
  refine q_asg (ev_call (K := K) (Post := fun d => ∃ k, d = natD k ∧ Least (clT (staysOf es)) (staysOf es).length k) (ea1 (ev_var rfl hvs)) ⟨staysOf es, rfl, hn6, fun k hk => ⟨k, rfl, hk⟩⟩) fun vk H5 e5 ⟨d, ⟨k, hd, hL⟩, hvk⟩ => ?_
  subst hd
  cases hvk
  have hk6 : k ≤ 6 := Nat.le_trans (hL.2 _ ⟨_, col_id⟩) hn6
  have toes : ∀ {es'}, evsOf dG = some es' → es' = es := fun h => (Option.some.inj (hev.symm.trans h)).symm
  have never : evsOf dG = none → (fun _ : PyData => False) dG := fun h => by rw [hev] at h; cases h
  have numF : ∀ {H0 : Hp} {σ : L2.St} {ta : TA} {d : PyData}, (d = .list (es.map evD) ∨ d = .tuple (es.map evD)) → EvA K ta σ H0 [d] → Ev (tCall (SpR K C pre_fs) [] E0 ta) σ H0 (IsD K (natD k)) := fun {H0} {σ} {ta} {d} hd ha =>
    ev_callRF (Ex := fun _ => False) ha ⟨d, rfl, by rcases hd with e | e <;> (subst e; first | exact la.1 | exact lb.1), fun es' he => by
      have := (Option.some.inj ((evsOf_yes hd hnm hE.ok).symm.trans he))
      subst this
      exact ⟨Nat.le_trans hn6 (by decide), fun k' hk' => by rw [hk'.uniq hL]⟩, fun h => by rw [evsOf_yes hd hnm hE.ok] at h; cases h⟩ fun _ _ _ _ h => h.elim
  refine q_asg (numF hgs (ea1 (ev_var rfl (Is.mono (e4.trans e5) hvg)))) fun vn H6 e6 hvn => ?_
  cases hvn
  have s36 := (e4.trans e5).trans e6
  refine q_when (b := false) (et_is (et_or (a := false) (b := false) (et_is (et_not (et_B (ev_callF (z := .bool true) (ea2 (iI rfl) (iI rfl)) ⟨.inl ⟨_, rfl⟩, rfl⟩))) rfl) fun _ => et_is (et_not (et_B (ev_callF (z := .bool true) (ea2 (ev_callRF (z := .tuple [.str "stacks", natD k]) (Ex := fun _ => False) (ea1 (ev_var rfl (Is.mono s36 hvg))) ⟨dG, rfl, hfit, fun es' he => by
      have := toes he
      subst this
      exact ⟨Nat.le_trans hn6 (by decide), fun k' hk' => by rw [hk'.uniq hL]⟩, never⟩ fun _ _ _ _ h => h.elim) (ev_tup (ea2 ev_str (iI rfl)) (by show 2 ≤ 100000; decide))) ⟨.inr ⟨_, _, rfl⟩, rfl⟩))) rfl) rfl) (fun h => Bool.noConfusion h) (fun _ H7 e7 => ?_)
  -- the paper
  refine q_asg (ev_callR (K := K) (Post := fun d => ∃ row, d = .tuple [rowD row, paperV (esT es) (esN es) k] ∧ Col (esT es) (esN es) k row) (Ex := fun _ => False) (ea1 (ev_var rfl (Is.mono (s36.trans e7) hvg))) ⟨dG, rfl, hfit, fun es' he => by
    have := toes he
    subst this
    exact ⟨hn6, fun k' row hL' hC => by
      have := hL'.uniq hL
      subst this
      exact ⟨row, rfl, hC⟩⟩, never⟩ fun _ _ _ _ h => h.elim) fun vp H8 e8 ⟨d, ⟨row, hd, hC⟩, hvp⟩ => ?_
  subst hd
  obtain ⟨st, o, hpv, hM⟩ := paper_made (T := esT es) (n := esN es) hk6
  rw [hpv] at hvp
  have hrow : row.length ≤ 900 := by
    rw [hC.1]
    exact Nat.le_trans hn6 (by decide)
  have s48 := e5.trans (e6.trans (e7.trans e8))
  refine q_when (b := false) (et_is (et_or (a := false) (b := false) (et_is (et_not (et_B (ev_callF (z := .bool true) (ea1 (ev_var rfl hvp)) ⟨_, rfl, flat_paper hrow hM.len, rfl⟩))) rfl) fun _ => et_is (et_not (et_B (ev_callF (z := .bool true) (ea_cons (ev_var rfl (Is.mono s48 hvs)) (ea2 (iI rfl) (ev_var rfl hvp))) ⟨staysOf es, k, row, st, o, rfl, hn6, hL, hC, hM.ok, hM.len, congrArg PyData.bool hM.law⟩))) rfl) rfl) (fun h => Bool.noConfusion h) (fun _ H9 e9 => ?_)
  have hvp9 := Is.mono e9 hvp
  have hvs9 := Is.mono (s48.trans e9) hvs
  refine q_when (b := false) (et_is (et_and (a := decide (0 < (k : Int))) (b := false) (et_test (ev_op (iI rfl) ev_int rd_gt)) fun _ => et_is (et_test (ev_op (ev_is (ev_op (ev_op (ev_var rfl hvp9) ev_int (rd_ix (d := valD st o) (.inr rfl) (atI_n (j := 1) rfl rfl))) (ev_tup (ea1 ev_str) (by show 1 ≤ 100000; decide)) (rd_eq (shaped_val hM.ok o) (shaped_val (s := "search") (by decide +kernel) none))) (congrArg PyData.bool (eqv_val st o)))
    (ev_callF (ea2 (ev_var rfl hvs9) (iI rfl)) ⟨staysOf es, k, rfl, hn6, rfl⟩) rd_eqB)) (decide_eq_false hM.other)) (Bool.and_false _)) (fun h => Bool.noConfusion h) (fun _ H10 e10 => ?_)
  have hvg10 := Is.mono (s36.trans (e7.trans (e8.trans (e9.trans e10)))) hvg
  have hvp10 := Is.mono e10 hvp9
  have hvs10 := Is.mono e10 hvs9
  have two : ∀ {σ : L2.St} {H4 : Hp} {ta tb : TE} {x y : PyData}, Ev ta σ H4 (IsD K x) → Ev tb σ H4 (IsD K y) → Ev (tTup (tCons ta (tCons tb tNil))) σ H4 (IsD K (.tuple [x, y])) := fun h1 h2 => ev_tup (ea2 h1 h2) (by show 2 ≤ 100000; decide)
  have hold : ∀ {Hx : Hp} (e : Same H10 Hx) {σ : L2.St} {tc tp : TE} {c : PyData} {s' : Str} {o' : Option (List Nat)}, σ[3]? = some (some vg) → Ev tc σ Hx (IsD K c) → Ev tp σ Hx (IsD K (.tuple [rowD row, valD s' o'])) → sizeD c ≤ 100000 → PyData.strOk s' = true → (∀ l, o' = some l → l.length ≤ 900) →
      Ev (tCall (SpR K C pre_fh) [] E0 (tCons (tVar 3) (tCons tc (tCons tp tNil)))) σ Hx (IsD K (.bool (holdsB (esT es) (esN es) c row s' o'))) := fun {Hx} e {σ} {tc} {tp} {c} {s'} {o'} h3 hc hp' hsz hso ho =>
    ev_callRF (Ex := fun _ => False) (ea_cons (ev_var h3 (Is.mono e hvg10)) (ea2 hc hp')) ⟨dG, c, _, rfl, hfit, never, fun es' he => by
      have := toes he
      subst this
      exact ⟨Nat.le_trans hn6 (by decide), hsz, row, s', o', rfl, hrow, hso, ho, rfl⟩⟩ fun _ _ _ _ h => h.elim
  have p0 : ∀ {Hx : Hp} (e : Same H10 Hx) {σ : L2.St}, σ[7]? = some (some vp) → Ev (tOp (rIx K) (tVar 7) (tC (.int 0))) σ Hx (IsD K (rowD row)) := fun {Hx} e {σ} h7 => ev_op (ev_var h7 (Is.mono e hvp10)) ev_int (rd_ix (.inr rfl) (atI_n (j := 0) rfl rfl))
  have csz : ∀ i : Int, sizeD (clD i) ≤ 100000 := fun i => by show 1 + (1 + (1 + 0)) ≤ 100000; decide
  -- it holds; what is not claimed so does not
  refine q_when (b := false) (et_is (et_test (ev_op (hold (c := clD (k : Int)) (Same.refl _) rfl (two ev_str (iI rfl)) (ev_var rfl hvp10) (csz _) hM.ok hM.len) ev_bl rd_notB)) (by rw [holds_at hC (Nat.le_refl k), hM.shows hL]; rfl)) (fun h => Bool.noConfusion h) (fun _ H11 e11 => ?_)
  have hcl : ∀ d ∈ ([clD ((k : Int) + 1), clD ((k : Int) - 1), .tuple [.str "stacks"], .tuple [.str "still"], .list [.str "stacks", natD k], .tuple [.str "stacks", natD k, .int 0], .none] : List PyData), holdsB (esT es) (esN es) d row st o = false ∧ sizeD d ≤ 100000 := fun d hd => by
    simp only [List.mem_cons, List.not_mem_nil, or_false] at hd
    rcases hd with rfl | rfl | rfl | rfl | rfl | rfl | rfl
    · exact ⟨(holds_at (i := k + 1) hC (Nat.le_succ k) st o).trans (hM.more hC), csz _⟩
    · exact ⟨holds_less hL hC st o, csz _⟩
    · exact ⟨holds_none rfl row st o, by show 1 + (1 + 0) ≤ 100000; decide⟩
    · exact ⟨holds_none rfl row st o, by show 1 + (1 + 0) ≤ 100000; decide⟩
    · exact ⟨holds_none rfl row st o, by show 1 ≤ 100000; decide⟩
    · exact ⟨holds_none rfl row st o, by show 1 + (1 + (1 + (1 + 0))) ≤ 100000; decide⟩
    · exact ⟨holds_none rfl row st o, by show 1 ≤ 100000; decide⟩
  refine q_forW (ew_seq (ds := [clD ((k : Int) + 1), clD ((k : Int) - 1), .tuple [.str "stacks"], .tuple [.str "still"], .list [.str "stacks", natD k], .tuple [.str "stacks", natD k, .int 0], .none]) (.inr rfl) (ev_tup (ea_cons (two ev_str (ev_op (iI rfl) ev_int rd_addI)) (ea_cons (two ev_str (ev_op (iI rfl) ev_int rd_sub)) (ea_cons (ev_tup (ea1 ev_str) (by show 1 ≤ 100000; decide)) (ea_cons (ev_tup (ea1 ev_str) (by show 1 ≤ 100000; decide)) (ea_cons (ev_lst (ea2 ev_str (iI rfl)) (by show 2 ≤ 100000; decide)) (ea2 (ev_tup (ea_cons ev_str (ea2 (iI rfl) ev_int)) (by show 3 ≤ 100000; decide)) ev_non)))))) (by show 7 ≤ 100000; decide))) fun H12 e12 =>
    ⟨fun i σ' H' => ∃ x8, σ' = [some v, some ve, some vm, some vg, some vs, some (.int (k : Int)), some (.int (k : Int)), some vp, x8, none, none] ∧ Same H12 H', ⟨none, rfl, Same.refl _⟩, fun i σ' H' h => by obtain ⟨_, _, h⟩ := h; exact h, ?_, ?_⟩
  · rintro i d u σ' Ha Hb hd ⟨x8, rfl, ea⟩ eb hu
    have hdm : d ∈ _ := List.mem_of_getElem? hd
    obtain ⟨h1, h2⟩ := hcl d hdm
    refine g_nm ?_
    have sb := e11.trans (e12.trans (ea.trans eb))
    exact s_when (b := false) (et_is (et_test (ev_op (hold sb rfl (ev_var rfl hu) (ev_var rfl (Is.mono sb hvp10)) h2 hM.ok hM.len) ev_bl rd_notB)) (by rw [h1]; rfl)) (fun h => Bool.noConfusion h) (fun _ H13 e13 => ⟨_, rfl, (ea.trans eb).trans e13⟩)
  · rintro σ' Ha ⟨x8, rfl, ea⟩
    have sa := e11.trans (e12.trans ea)
    refine q_when (b := false) (et_is (et_test (ev_op (hold (c := .tuple [.str "stacks", .bool true]) sa rfl (two ev_str ev_bl) (ev_var rfl (Is.mono sa hvp10)) (by show 1 + (1 + (1 + 0)) ≤ 100000; decide) hM.ok hM.len) ev_bl rd_notB)) (by rw [holds_none rfl]; rfl)) (fun h => Bool.noConfusion h) (fun _ H13 e13 => ?_)
    have s13 := sa.trans e13
    -- other papers
    refine q_whenJ (fun σ' H' => ∃ x9 x10, σ' = [some v, some ve, some vm, some vg, some vs, some (.int (k : Int)), some (.int (k : Int)), some vp, x8, x9, x10] ∧ Same H10 H') (b := decide (0 < (k : Int))) (et_test (ev_op (iI rfl) ev_int rd_gt)) (fun hk0 H14 e14 N hNx => ?_) (fun hk0 H14 e14 => ⟨none, none, rfl, s13.trans e14⟩) ?_
    · have hk0 : 0 < k := by
        have := of_decide_eq_true hk0
        omega
      have s14 := s13.trans e14
      have sSe : PyData.strOk "search" = true := by decide +kernel
      refine q_when (b := false) (et_is (et_test (ev_op (hold (c := clD ((k : Int) + 1)) (s' := "search") (o' := none) s14 rfl (two ev_str (ev_op (iI rfl) ev_int rd_addI)) (two (p0 s14 rfl) (ev_tup (ea1 ev_str) (by show 1 ≤ 100000; decide))) (csz _) sSe (fun l e => by cases e)) ev_bl rd_notB)) (by
        have h1 : holdsB (esT es) (esN es) (clD ((k : Int) + 1)) row "search" none = false := (holds_at (i := k + 1) hC (Nat.le_succ k) _ _).trans (by
          show (decide (("search" : Str) = "search") && (decide (k + 1 = 0) || noColB (esT es) (esN es) (k + 1 - 1))) = false
          rw [Nat.add_sub_cancel, noCol_no hC]
          rfl)
        rw [h1]
        rfl)) (fun h => Bool.noConfusion h) (fun _ H15 e15 => ?_)
      have s15 := s14.trans e15
      have hcr : ∀ d ∈ ([valD "search" none, valD "crowd" (some []), valD "crowd" (some (List.range (esN es))), valD "none" none] : List PyData), ∃ s' o', d = valD s' o' ∧ PyData.strOk s' = true ∧ ∀ l, o' = some l → l.length ≤ 900 := fun d hd => by
        simp only [List.mem_cons, List.not_mem_nil, or_false] at hd
        rcases hd with rfl | rfl | rfl | rfl
        · exact ⟨_, _, rfl, sSe, fun l e => by cases e⟩
        · exact ⟨_, _, rfl, by decide +kernel, fun l e => by cases e; decide⟩
        · exact ⟨_, _, rfl, by decide +kernel, fun l e => by cases e; rw [List.length_range]; exact Nat.le_trans hn6 (by decide)⟩
        · exact ⟨_, _, rfl, by decide +kernel, fun l e => by cases e⟩
      have eslen : (((staysOf es).map stD).length : Int) = ((esN es : Nat) : Int) := by rw [List.length_map]
      refine s_forW (ew_seq (ds := [valD "search" none, valD "crowd" (some []), valD "crowd" (some (List.range (esN es))), valD "none" none]) (.inr rfl) (ev_tup (ea_cons (ev_tup (ea1 ev_str) (by show 1 ≤ 100000; decide)) (ea_cons (two ev_str (ev_tup ea_nil (by decide))) (ea2 (two ev_str (ev_rngT (ev_is (ev_lenL (ev_var rfl (Is.mono s15 hvs10))) (by rw [eslen])) (Nat.le_trans hn6 (by decide)))) (ev_tup (ea1 ev_str) (by show 1 ≤ 100000; decide))))) (by show 4 ≤ 100000; decide))) fun H16 e16 =>
        ⟨fun i σ' H' => ∃ x9 x10, σ' = [some v, some ve, some vm, some vg, some vs, some (.int (k : Int)), some (.int (k : Int)), some vp, x8, x9, x10] ∧ Same H16 H', ⟨none, none, rfl, Same.refl _⟩, fun i σ' H' h => by obtain ⟨_, _, _, h⟩ := h; exact h, ?_, ?_⟩
      · rintro i d u σ' Hc Hd hd ⟨x9, x10, rfl, ec⟩ ed hu
        obtain ⟨s', o', rfl, hso, ho⟩ := hcr d (List.mem_of_getElem? hd)
        refine g_nm ?_
        have sd := s15.trans (e16.trans (ec.trans ed))
        refine q_asg (ev_callF (z := .bool (lawPaper (esT es) (esN es) k s' o')) (ea_cons (ev_var rfl (Is.mono sd hvs10)) (ea2 (iI rfl) (two (p0 sd rfl) (ev_var rfl hu)))) ⟨staysOf es, k, row, s', o', rfl, hn6, hL, hC, hso, ho, rfl⟩) fun vd H17 e17 hvd => ?_
        have hvd := Is.blV hvd
        subst hvd
        have s17 := sd.trans e17
        exact s_when (b := false) (et_is (et_not (et_B (ev_callF (z := .bool true) (ea2 (hold (c := clD (k : Int)) s17 rfl (two ev_str (iI rfl)) (two (p0 s17 rfl) (ev_var rfl (hu.mono e17))) (csz _) hso ho) (ev_var rfl (.bl _))) ⟨_, _, rfl, by rw [holds_at hC (Nat.le_refl k), shows_law hL hk0, decide_eq_true rfl]⟩))) rfl) (fun h => Bool.noConfusion h) (fun _ H18 e18 => ⟨_, _, rfl, ((ec.trans ed).trans e17).trans e18⟩)
      · rintro σ' Hc ⟨x9, x10, rfl, ec⟩
        exact hNx _ _ ⟨_, _, rfl, s15.trans (e16.trans ec)⟩
    · rintro σ' H14 ⟨x9, x10, rfl, s14⟩
      have s2_10 : Same H2 H10 := e3.trans (s36.trans (e7.trans (e8.trans (e9.trans e10))))
      have hve14 := Is.mono (e2.trans (s2_10.trans s14)) hve
      -- no days
      refine q_when (b := false) (et_is (et_not (et_B (ev_raw2 (P1 := fun v H' => ∃ d, BadD d ∧ Is K H' v d) (P2 := IsD K (.int ((m2 % 4 : Nat) : Int))) (P := IsD K (.bool true)) (ev_call (Post := BadD) (ea2 (ev_var rfl hve14) (gm (i := 1) (s2_10.trans s14) rfl hm1)) ⟨es, nm, m1, rfl, hN, hE, fun d hd => hd⟩) (fun v Ha Hb e ⟨d, h1, h2⟩ => ⟨d, h1, h2.mono e⟩) (ev_is (ev_op (ev_intI (gm (i := 2) (s2_10.trans s14) rfl hm2)) ev_int (rd_mod (by decide))) (by congr 1)) fun a b Hx ex ⟨d, hbd, ha⟩ hb Q kk =>
        ⟨_, fun d => d = .bool true, .cons ha (.cons hb .nil), ⟨d, m2 % 4, rfl, hbd, rfl⟩, fun d' v' H' hd' e' hv' => kk v' H' e' (by rw [hd'] at hv'; exact hv')⟩))) rfl) (fun h => Bool.noConfusion h) (fun _ H15 e15 => ?_)
      have hve15 := hve14.mono e15
      have hvg15 := Is.mono (s14.trans e15) hvg10
      have hsh : SeqAt.shaped (.list (es.map evD)) = true := by
        show (PyData.canLay0 _ && decide (PyData.depth _ ≤ 64)) = true
        rw [la.2.1, decide_eq_true (Nat.le_trans la.2.2 (by decide))]
        rfl
      refine s_ret (P := IsD K (.bool true)) (ev_andV (a := true) (b := true) (ev_is (ev_op (el_lstOf hgs (ev_var rfl hvg15)).ev (el_lstOf (.inr rfl) (ev_var rfl hve15)).ev (rd_eq hsh hsh)) (by rw [eqv_refl _ la.2.1])) fun _ => ev_callF (ea2 (numF (.inr rfl) (ea1 (ev_var rfl hve15))) (iI rfl)) ⟨.inl ⟨_, rfl⟩, rfl⟩) fun u H16 e16 hu => q u H16 (e1.trans (e2.trans (s2_10.trans (s14.trans (e15.trans e16))))) hu
/-- slots: _script 0 -/
theorem sc_law : FnScope ["_law_script"] ["_law_script"] (defScope s_law) := ⟨rfl, rfl, rfl, by decide +kernel, rfl, by decide +kernel, by decide +kernel⟩
theorem ok_law (F : Fun K "law" "law" s_law f fd) (B : Blt mg) (G__law_whole : Fn P w K mg base (L2.CX P w) 10 "_law_whole" ["_law_script"] (spWhole K)) : FnOk P w K mg base CX0 11 f fd ["_law_script"] (spLaw K) := by
  refine F.ok sc_law (fun vs H Q E h => by obtain ⟨a, ns, rfl, _⟩ := h; rfl) (fun cdv A outer s H vs Q E hr h => ?_)
  obtain ⟨a, ns, rfl, hs, q⟩ := h
  refine ⟨_, pss_one (ps_try_thru0 (pss_one (ps_ret (pe_fn G__law_whole (hr.mono (by decide)) (by rfl) passL (pa_cons (pv 0) pa_nil))))), ?_⟩
  refine s_ret (P := IsD K (.bool true)) (ev_raw1 (P1 := fun w _ => w = .ref a) (ev_slot rfl) fun b H1 e1 hb Q kk => ?_) fun u H2 e2 hu => ?_
  · subst hb
    exact ⟨_, ns, rfl, ⟨a, rfl, e1.seq hs⟩, fun w H2 e2 hw => kk w H2 e2 hw⟩
  · have := Is.blV hu
    subst this
    exact q H2
end
end K33

set_option Elab.async false
set_option linter.all false
set_option maxRecDepth 100000
set_option maxHeartbeats 4000000
/-! what the top has written, as the walks take it; the parts joined. -/
namespace K33
open PySem PySem.Spec PyProof.Rows L2 PySem.W PySem.Calls
abbrev Pg : Program := PySem.Challenge.rw_leastshifts_k33_whole_fewest_stacks.prog
/-- a def of the module where the top has put it -/
structure DefK (K : Fg) (x nm : Str) (st : Stmt) : Prop where
  ex : ∃ f fd, PySem.W.nsIn K mainGlobals x = some (some (.ref f)) ∧ Fun K nm nm st f fd
theorem dk_mk {K : Fg} {x nm : Str} {st : Stmt} {f : Addr} {oc kV doc pm cdv ct : Value} {od an : Option Addr} {osl : Array (Option Value)} (a : PySem.W.nsIn K mainGlobals x = some (some (.ref f)))
    (l : K.lookup f = some ⟨oc, od, .func (PySem.W.fnOf nm nm (defArgs st) (defBody st) (defScope st) .none kV doc pm an cdv ct), osl⟩) (c : PySem.W.codeIn K cdv nm = true) (k : PySem.W.keepIn K (.ref f) = true) : DefK K x nm st := ⟨f, _, a, fun_mk l c k⟩
section
variable {P : Program} {w : World} {K : Fg} {h : Heap} {mg : Str → Option Value} {base : Heap} {CX : CXT} {k : Nat} {x nm : Str} {st : Stmt} {ps : List Str} {sp : Sp}
theorem dk_fn (D : DefK K x nm st) (X : K.In h) (G : h.Ns mainGlobals mg) (hb : ∀ (kV doc pm : Value) (an : Option Addr) (cdv ct : Value) (us : List Value), us.length = ps.length → bindArgs (PySem.W.fnOf nm nm (defArgs st) (defBody st) (defScope st) .none kV doc pm an cdv ct) ⟨us, []⟩ = pure (ps.zip us))
    (ok : ∀ f fd, Fun K nm nm st f fd → mg x = some (.ref f) → Binds K fd ps [] → FnOk P w K mg base CX k f fd ps sp) : Fn P w K mg base CX k x ps sp := by
  obtain ⟨f, fd, a, F⟩ := D.ex
  exact ⟨f, fd, ok f fd F (PySem.W.mg_of X G a) (F.binds hb), PySem.W.mg_of X G a, F.kp, F.binds hb⟩
theorem vals_kw {vs : List V} {us : List Value} {zs : List V} {ws : List Value} (r : Vals vs us) (rz : Vals zs ws) : Vals (gKw vs zs) (gKw us ws) := by
  cases r with
  | nil => exact rz
  | cons _ _ => exact .nil
theorem dk_fnK {p0 : Str} {pr : List Str} (D : DefK K x nm st) (X : K.In h) (G : h.Ns mainGlobals mg) (hb : ∀ (kV doc pm : Value) (an : Option Addr) (cdv ct : Value) (ws : List Value), ws.length = (p0 :: pr).length → bindArgs (PySem.W.fnOf nm nm (defArgs st) (defBody st) (defScope st) .none kV doc pm an cdv ct) ⟨[], (p0 :: pr).zip ws⟩ = pure ((p0 :: pr).zip ws))
    (ok : ∀ f fd, Fun K nm nm st f fd → FnOk P w K mg base CX k f fd (p0 :: pr) sp) : FnK P w K mg base CX k x (p0 :: pr) sp := by
  obtain ⟨f, fd, a, F⟩ := D.ex
  refine ⟨f, fd, ok f fd F, PySem.W.mg_of X G a, F.kp, ⟨fun s us ws _ hl => ?_, vals_kw⟩⟩
  obtain ⟨oc, od, kV, doc, pm, an, cdv, ct, osl, rfl, lk, hcd⟩ := F.ex
  cases us with
  | nil => exact .of_eq (hb kV doc pm an cdv ct ws hl)
  | cons u us => cases hl
end
/-- the parts joined -/
theorem all_mk {w : World} {K : Fg} {h : Heap} {mg : Str → Option Value} {fa CY CD C CE aS fY fD fI cc cda : Addr} (X : K.In h) (G : h.Ns mainGlobals mg) (hfa : mg "law" = some (.ref fa))
    (d_is_integer_core_looking : DefK K "is_integer_core_looking" "is_integer" s_is_integer_2)
    (d_is_below : DefK K "is_below" "is_below" s_is_below)
    (d_is_plain : DefK K "is_plain" "is_plain" s_is_plain)
    (d_is_kind : DefK K "is_kind" "is_kind" s_is_kind)
    (d_are_rising_below : DefK K "are_rising_below" "are_rising_below" s_are_rising_below)
    (d_are_places : DefK K "are_places" "are_places" s_are_places)
    (d_is_cut_by : DefK K "is_cut_by" "is_cut_by" s_is_cut_by)
    (d_are_apart : DefK K "are_apart" "are_apart" s_are_apart)
    (d_clashes_of : DefK K "clashes_of" "clashes_of" s_clashes_of)
    (d_all_clash : DefK K "all_clash" "all_clash" s_all_clash)
    (d_crowd_of : DefK K "crowd_of" "crowd_of" s_crowd_of)
    (d_parting_into : DefK K "parting_into" "parting_into" s_parting_into)
    (d_stays_of : DefK K "stays_of" "stays_of" s_stays_of)
    (d_is_integer_core_plain : DefK K "is_integer_core_plain" "is_integer" s_is_integer_20)
    (d_is_number : DefK K "is_number" "is_number" s_is_number)
    (d_is_sequence : DefK K "is_sequence" "is_sequence" s_is_sequence)
    (d_is_name : DefK K "is_name" "is_name" s_is_name)
    (d_are_unlike : DefK K "are_unlike" "are_unlike" s_are_unlike)
    (d_as_stacks : DefK K "as_stacks" "as_stacks" s_as_stacks)
    (d_is_event : DefK K "is_event" "is_event" s_is_event)
    (d_boxes_of : DefK K "boxes_of" "boxes_of" s_boxes_of)
    (d_as_events : DefK K "as_events" "as_events" s_as_events)
    (d_stays_in : DefK K "stays_in" "stays_in" s_stays_in)
    (d_table_of : DefK K "table_of" "table_of" s_table_of)
    (d_least_parting : DefK K "least_parting" "least_parting" s_least_parting)
    (d_fewest_stacks : DefK K "fewest_stacks" "fewest_stacks" s_fewest_stacks)
    (d_fewest_claim : DefK K "fewest_claim" "fewest_claim" s_fewest_claim)
    (d_fewest_paper : DefK K "fewest_paper" "fewest_paper" s_fewest_paper)
    (d_shows_least : DefK K "shows_least" "shows_least" s_shows_least)
    (d_fewest_holds : DefK K "fewest_holds" "fewest_holds" s_fewest_holds)
    (d__law_cell : DefK K "_law_cell" "_law_cell" s_law_cell)
    (d__law_row : DefK K "_law_row" "_law_row" s_law_row)
    (d__law_is_integer : DefK K "_law_is_integer" "_law_is_integer" s_law_is_integer)
    (d__law_boxes : DefK K "_law_boxes" "_law_boxes" s_law_boxes)
    (d__law_names : DefK K "_law_names" "_law_names" s_law_names)
    (d__law_events : DefK K "_law_events" "_law_events" s_law_events)
    (d__law_stays : DefK K "_law_stays" "_law_stays" s_law_stays)
    (d__law_clash : DefK K "_law_clash" "_law_clash" s_law_clash)
    (d__law_least : DefK K "_law_least" "_law_least" s_law_least)
    (d__law_is_crowd : DefK K "_law_is_crowd" "_law_is_crowd" s_law_is_crowd)
    (d__law_has_crowd : DefK K "_law_has_crowd" "_law_has_crowd" s_law_has_crowd)
    (d__law_says : DefK K "_law_says" "_law_says" s_law_says)
    (d__law_same : DefK K "_law_same" "_law_same" s_law_same)
    (d__law_is_flat : DefK K "_law_is_flat" "_law_is_flat" s_law_is_flat)
    (d__law_fewest_paper : DefK K "_law_fewest_paper" "_law_fewest_paper" s_law_fewest_paper)
    (d__law_round : DefK K "_law_round" "_law_round" s_law_round)
    (d__law_free : DefK K "_law_free" "_law_free" s_law_free)
    (d__law_no_events : DefK K "_law_no_events" "_law_no_events" s_law_no_events)
    (d__law_refused : DefK K "_law_refused" "_law_refused" s_law_refused)
    (d__law_whole : DefK K "_law_whole" "_law_whole" s_law_whole)
    (d_law : DefK K "law" "law" s_law)
    (z_len : PySem.W.nsIn K mainGlobals "len" = some none)
    (z_isinstance : PySem.W.nsIn K mainGlobals "isinstance" = some none)
    (z_int : PySem.W.nsIn K mainGlobals "int" = some none)
    (z_bool : PySem.W.nsIn K mainGlobals "bool" = some none)
    (z_str : PySem.W.nsIn K mainGlobals "str" = some none)
    (z_tuple : PySem.W.nsIn K mainGlobals "tuple" = some none)
    (z_list : PySem.W.nsIn K mainGlobals "list" = some none)
    (z_all : PySem.W.nsIn K mainGlobals "all" = some none)
    (z_any : PySem.W.nsIn K mainGlobals "any" = some none)
    (z_max : PySem.W.nsIn K mainGlobals "max" = some none)
    (z_min : PySem.W.nsIn K mainGlobals "min" = some none)
    (z_range : PySem.W.nsIn K mainGlobals "range" = some none)
    (z_enumerate : PySem.W.nsIn K mainGlobals "enumerate" = some none)
    (z_ValueError : PySem.W.nsIn K mainGlobals "ValueError" = some none)
    (z_super : PySem.W.nsIn K mainGlobals "super" = some none)
    {tL : Tok} {tM : Tok} {tI : Tok} {tO : Tok} {tS : Tok} {odS : Option Addr} {slS : Array (Option Value)} {nS : Nat} {ocY kVY dcY pmY cdY ctY : Value} {odY anY : Option Addr} {slY : Array (Option Value)} {ocD kVD dcD pmD cdD ctD : Value} {odD anD : Option Addr} {slD : Array (Option Value)} {nmX qX : Str} {NX : Addr} {bsX bmX : List Value} {snX : List Str} {subX : List Value} {abX : Bool} {colX : Option Bool} {ddX : Option Addr} {k0X k1X k2X k3X k5X : Option Value} {ocX kVX dcX pmX ctX ccl cl : Value} {odX anX cddX cldX : Option Addr} {slX ccs csl : Array (Option Value)} {vsX : Array Value} {file : Str} {tfl : Tok}
    (aCY : PySem.W.nsIn K mainGlobals "Yard" = some (some (.ref CY)))
    (aCD : PySem.W.nsIn K mainGlobals "Day" = some (some (.ref CD)))
    (aC : PySem.W.nsIn K mainGlobals "InvalidDay" = some (some (.ref C)))
    (aCE : PySem.W.nsIn K mainGlobals "YardError" = some (some (.ref CE)))
    (aS_ : PySem.W.nsIn K mainGlobals "SEARCH" = some (some (.ref aS)))
    (aL : PySem.W.nsIn K mainGlobals "LETTERS" = some (some (.str abc tL)))
    (aM : PySem.W.nsIn K mainGlobals "MOST_LETTERS" = some (some (.int 8 tM)))
    (aI : PySem.W.nsIn K mainGlobals "IN" = some (some (.str "in" tI)))
    (aO : PySem.W.nsIn K mainGlobals "OUT" = some (some (.str "out" tO)))
    (lS : K.lookup aS = some ⟨.type "tuple", odS, .seq #[.str "search" tS] nS, slS⟩)
    (pgY : PySem.W.plainGet K CY Str.empty = true)
    (hdY : PySem.W.hasDictIn K CY = true)
    (poY : PySem.W.plainOver K CY = true)
    (saY : PySem.W.findIn K (.ref CY) "__setattr__" = some (some (.builtin "object.__setattr__")))
    (mkY : PySem.W.makesIn K CY = true)
    (inY : PySem.W.findIn K (.ref CY) "__init__" = some (some (.ref fY)))
    (ifY : PySem.W.isFn K (.ref fY) = true)
    (kpY : PySem.W.keepIn K (.ref CY) = true)
    (lY : K.lookup fY = some ⟨ocY, odY, .func (PySem.W.fnOf "__init__" "Yard.__init__" (defArgs s_Yard_init) (defBody s_Yard_init) (defScope s_Yard_init) .none kVY dcY pmY anY cdY ctY), slY⟩)
    (cY : PySem.W.codeIn K cdY "Yard.__init__" = true)
    (kfY : PySem.W.keepIn K (.ref fY) = true)
    (pgD : PySem.W.plainGet K CD Str.empty = true)
    (hdD : PySem.W.hasDictIn K CD = true)
    (poD : PySem.W.plainOver K CD = true)
    (saD : PySem.W.findIn K (.ref CD) "__setattr__" = some (some (.builtin "object.__setattr__")))
    (mkD : PySem.W.makesIn K CD = true)
    (inD : PySem.W.findIn K (.ref CD) "__init__" = some (some (.ref fD)))
    (ifD : PySem.W.isFn K (.ref fD) = true)
    (kpD : PySem.W.keepIn K (.ref CD) = true)
    (lD : K.lookup fD = some ⟨ocD, odD, .func (PySem.W.fnOf "__init__" "Day.__init__" (defArgs s_Day_init) (defBody s_Day_init) (defScope s_Day_init) .none kVD dcD pmD anD cdD ctD), slD⟩)
    (cD : PySem.W.codeIn K cdD "Day.__init__" = true)
    (kfD : PySem.W.keepIn K (.ref fD) = true)
    (nYh : PySem.W.findIn K (.ref CY) "height" = some none)
    (nYs : PySem.W.findIn K (.ref CY) "stacks" = some none)
    (nDy : PySem.W.findIn K (.ref CD) "yard" = some none)
    (nDe : PySem.W.findIn K (.ref CD) "events" = some none)
    (xL : K.lookup C = some (excClassObj nmX qX C NX bsX bmX true snX subX abX colX ddX k0X k1X k2X k3X k5X "ValueError.__new__"))
    (xR : PySem.HandSPX.refsVE bmX = true)
    (saX : PySem.W.findIn K (.ref C) "__setattr__" = some (some (.builtin "object.__setattr__")))
    (beX : PySem.W.subIn K (.ref C) (.type "BaseException") = some true)
    (tyX : PySem.W.typeIn K (.ref C) = some (.type "type"))
    (kpX : PySem.W.keepIn K (.ref C) = true)
    (hdX : PySem.W.hasDictIn K C = true)
    (gaX : PySem.W.findIn K (.ref C) "__getattribute__" = some (some (.builtin "BaseException.__getattribute__")))
    (ggX : PySem.W.findIn K (.ref C) "__getattr__" = some none)
    (clX : PySem.W.findIn K (.ref C) "__class__" = some (some (.builtin "object.__class__")))
    (hnX : PySem.W.specialIn K (.builtin "object.__class__") "__get__" = some (some (.builtin "getset_descriptor.__get__")))
    (htX : PySem.W.takesIn K (.builtin "object.__class__") = some true)
    (moX : PySem.W.mroIn K C (.type "object") = some true)
    (msX : PySem.W.mroIn K C (.ref C) = some true)
    (noX : PySem.W.findIn K (.ref C) "value" = some none)
    (ssX : PySem.W.subIn K (.ref C) (.ref C) = some true)
    (veX : PySem.W.subIn K (.ref C) (.type "ValueError") = some true)
    (suX : PySem.W.ks_superIn K C C "__init__" = some (some (.builtin "ValueError.__init__")))
    (opX : PySem.W.nsIn K cStatics "thirdparty.any" = some none)
    (k1X : PySem.W.kitOne K (.ref C) (.ref CE) = some true)
    (k2X : PySem.W.kitOne K (.ref C) (.type "ValueError") = some true)
    (inX : PySem.W.findIn K (.ref C) "__init__" = some (some (.ref fI)))
    (tfX : PySem.W.typeIn K (.ref fI) = some (.type "function"))
    (lX : K.lookup fI = some ⟨ocX, odX, .func (PySem.W.fnX "__init__" "InvalidDay.__init__" (defArgs s_InvalidDay_init) (defBody s_InvalidDay_init) (defScope s_InvalidDay_init) [("__class__", cc)] .none kVX dcX pmX anX (.ref cda) ctX), slX⟩)
    (cX : PySem.W.codeIn K (.ref cda) "InvalidDay.__init__" = true)
    (ceX : K.lookup cc = some ⟨cl, cldX, .cell (some (.ref C)), csl⟩)
    (coX : K.lookup cda = some ⟨ccl, cddX, .fields vsX, ccs⟩)
    (cvX : vsX[2]? = some (.str file tfl))
    (cfX : ((Pg.main.file : Str) == file) = true)
    : ∃ fd : FuncData, (∀ (s : Shared) (v : Value), BindsTo s fd ⟨[v], []⟩ [("_law_script", v)]) ∧ ∀ base : Heap, K.In base → base.Ns mainGlobals mg → FnOk Pg w K mg base CX0 11 fa fd ["_law_script"] (spLaw K) := by
  obtain ⟨fl, fdl, al, Fl⟩ := d_law.ex
  have e := hfa.symm.trans (PySem.W.mg_of X G al)
  cases e
  refine ⟨fdl, fun s v => ?_, fun base _ _ => ?_⟩
  · obtain ⟨oc, od, kV, doc, pm, an, cdv, ct, osl, rfl, lk, hcd⟩ := Fl.ex
    exact .of_eq rfl
  have B : Blt mg := ⟨PySem.W.mg_none_of X G z_len, PySem.W.mg_none_of X G z_isinstance, PySem.W.mg_none_of X G z_int, PySem.W.mg_none_of X G z_bool, PySem.W.mg_none_of X G z_str, PySem.W.mg_none_of X G z_tuple, PySem.W.mg_none_of X G z_list, PySem.W.mg_none_of X G z_all, PySem.W.mg_none_of X G z_any, PySem.W.mg_none_of X G z_max, PySem.W.mg_none_of X G z_min, PySem.W.mg_none_of X G z_range, PySem.W.mg_none_of X G z_enumerate, PySem.W.mg_none_of X G z_ValueError, PySem.W.mg_none_of X G z_super⟩
  have cL : Con1 mg "LETTERS" (.str abc) := ⟨_, PySem.W.mg_of X G aL, ⟨_, rfl⟩⟩
  have cM : Con1 mg "MOST_LETTERS" (.int 8) := ⟨_, PySem.W.mg_of X G aM, ⟨_, rfl⟩⟩
  have cI : Con1 mg "IN" (.str "in") := ⟨_, PySem.W.mg_of X G aI, ⟨_, rfl⟩⟩
  have cO : Con1 mg "OUT" (.str "out") := ⟨_, PySem.W.mg_of X G aO, ⟨_, rfl⟩⟩
  have cS : Con1 mg "SEARCH" (.ref aS) := ⟨_, PySem.W.mg_of X G aS_, rfl⟩
  have hS : ∀ H, Is K H (.ref aS) (valD "search" none) := fun H => .tup (xs := [.str "search"]) (.inr ⟨_, _, _, lS, rfl, rfl, (by show 1 ≤ _; decide), .cons ⟨_, rfl⟩ .nil⟩) (.cons (.str _) .nil)
  have T : Tx K CY CD := ⟨⟨pgY, hdY, poY, saY⟩, ⟨pgD, hdD, poD, saD⟩, nYh, nYs, nDy, nDe⟩
  have Ox : OexC K C := ⟨⟨_, _, _, _, _, _, _, _, _, _, _, _, _, _, _, xL, xR⟩, saX, beX, tyX, kpX⟩
  have mC := PySem.W.mg_of X G aC
  have fokI : FnOk Pg w K mg base CX0 1 fI _ ["self", "value"] (spInitX C) := ok_initX (st := s_InvalidDay_init) (x := "__init__") (qual := "InvalidDay.__init__") ⟨Ox, B.sup, ⟨_, _, _, _, _, _, _, _, _, _, _, _, _, _, _, _, _, _, _, rfl, lX, cX, ceX, coX, cvX, cfX⟩, (by decide +kernel), msX, opX, suX, veX, noX⟩ (NdefX.nscope_by (by decide +kernel)) rfl rfl rfl (fun env => ⟨_, rfl⟩) (fun env h => by unfold interactive; rw [h]; rfl) (fun env => rfl)
  have Dn : Dy Pg w K mg base C := ⟨Ox, mC, fI, _, inX, tfX, fokI, .all fun us hl => match us, hl with | [_, _], _ => rfl⟩
  have R : Rf K C CE mg := ⟨⟨gaX, ggX, beX, hdX⟩, ⟨gaX, ggX, beX, hdX, clX, hnX, htX, moX⟩, noX, mC, PySem.W.mg_of X G aCE, B.ve, PySem.W.exm_ref beX hdX tyX ssX, k1X, k2X⟩
  have g_is_integer_core_looking : Fn Pg w K mg base CX0 1 "is_integer_core_looking" ["value"] (SpD K pre_isI) := dk_fn d_is_integer_core_looking X G (fun _ _ _ _ _ _ us hl => match us, hl with | [_], _ => rfl) fun f fd F _ _ => ok_is_integer_2 F B
  have g_is_below : Fn Pg w K mg base CX0 2 "is_below" ["value", "most"] (SpD K pre_below) := dk_fn d_is_below X G (fun _ _ _ _ _ _ us hl => match us, hl with | [_, _], _ => rfl) fun f fd F _ _ => ok_is_below F B g_is_integer_core_looking
  have g_is_plain : Fn Pg w K mg base CX0 2 "is_plain" ["value"] (SpD K pre_plain) := dk_fn d_is_plain X G (fun _ _ _ _ _ _ us hl => match us, hl with | [_], _ => rfl) fun f fd F _ _ => ok_is_plain F B g_is_integer_core_looking
  have g_is_kind : Fn Pg w K mg base CX0 1 "is_kind" ["value", "word", "many"] (SpD K pre_kind) := dk_fn d_is_kind X G (fun _ _ _ _ _ _ us hl => match us, hl with | [_, _, _], _ => rfl) fun f fd F _ _ => ok_is_kind F B
  have g_are_rising_below : Fn Pg w K mg base CX0 3 "are_rising_below" ["value", "most"] (SpD K pre_rising) := dk_fn d_are_rising_below X G (fun _ _ _ _ _ _ us hl => match us, hl with | [_, _], _ => rfl) fun f fd F _ _ => ok_are_rising_below F B g_is_below
  have g_are_places : Fn Pg w K mg base CX0 3 "are_places" ["value", "many", "most"] (SpD K pre_places) := dk_fn d_are_places X G (fun _ _ _ _ _ _ us hl => match us, hl with | [_, _, _], _ => rfl) fun f fd F _ _ => ok_are_places F B g_is_below
  have g_is_cut_by : Fn Pg w K mg base CX0 1 "is_cut_by" ["one", "other"] (SpD K pre_cut) := dk_fn d_is_cut_by X G (fun _ _ _ _ _ _ us hl => match us, hl with | [_, _], _ => rfl) fun f fd F _ _ => ok_is_cut_by F B
  have g_are_apart : Fn Pg w K mg base CX0 2 "are_apart" ["one", "other"] (SpD K pre_apart) := dk_fn d_are_apart X G (fun _ _ _ _ _ _ us hl => match us, hl with | [_, _], _ => rfl) fun f fd F _ _ => ok_are_apart F B g_is_cut_by
  have g_clashes_of : Fn Pg w K mg base CX0 3 "clashes_of" ["found"] (SpD K pre_clashes) := dk_fn d_clashes_of X G (fun _ _ _ _ _ _ us hl => match us, hl with | [_], _ => rfl) fun f fd F _ _ => ok_clashes_of F B g_are_apart
  have g_all_clash : Fn Pg w K mg base CX0 1 "all_clash" ["table", "numbers"] (SpD K pre_all_clash) := dk_fn d_all_clash X G (fun _ _ _ _ _ _ us hl => match us, hl with | [_, _], _ => rfl) fun f fd F _ _ => ok_all_clash F B
  have g_crowd_of : Fn Pg w K mg base CX0 1 "crowd_of" ["table", "size"] (SpD K pre_crowd) := dk_fn d_crowd_of X G (fun _ _ _ _ _ _ us hl => match us, hl with | [_, _], _ => rfl) fun f fd F _ _ => ok_crowd_of F B
  have g_parting_into : Fn Pg w K mg base CX0 1 "parting_into" ["table", "many"] (SpD K pre_parting) := dk_fn d_parting_into X G (fun _ _ _ _ _ _ us hl => match us, hl with | [_, _], _ => rfl) fun f fd F _ _ => ok_parting_into F B
  have g_stays_of : Fn Pg w K mg base CX0 1 "stays_of" ["boxes", "events"] (SpD K pre_stays) := dk_fn d_stays_of X G (fun _ _ _ _ _ _ us hl => match us, hl with | [_, _], _ => rfl) fun f fd F _ _ => ok_stays_of F B
  have g_is_integer_core_plain : Fn Pg w K mg base CX0 1 "is_integer_core_plain" ["value"] (SpD K pre_isI) := dk_fn d_is_integer_core_plain X G (fun _ _ _ _ _ _ us hl => match us, hl with | [_], _ => rfl) fun f fd F _ _ => ok_is_integer_20 F B
  have g_is_number : Fn Pg w K mg base CX0 2 "is_number" ["value"] (SpD K pre_number) := dk_fn d_is_number X G (fun _ _ _ _ _ _ us hl => match us, hl with | [_], _ => rfl) fun f fd F _ _ => ok_is_number F B g_is_integer_core_plain
  have g_is_sequence : Fn Pg w K mg base CX0 1 "is_sequence" ["value"] (SpD K pre_seq) := dk_fn d_is_sequence X G (fun _ _ _ _ _ _ us hl => match us, hl with | [_], _ => rfl) fun f fd F _ _ => ok_is_sequence F B
  have g_is_name : Fn Pg w K mg base CX0 1 "is_name" ["value"] (SpD K pre_name) := dk_fn d_is_name X G (fun _ _ _ _ _ _ us hl => match us, hl with | [_], _ => rfl) fun f fd F _ _ => ok_is_name F B cL cM
  have g_are_unlike : Fn Pg w K mg base CX0 1 "are_unlike" ["names"] (SpD K pre_unlike) := dk_fn d_are_unlike X G (fun _ _ _ _ _ _ us hl => match us, hl with | [_], _ => rfl) fun f fd F _ _ => ok_are_unlike F B
  have g_as_stacks : Fn Pg w K mg base CX0 2 "as_stacks" ["height", "value"] (SpD K pre_stacks) := dk_fn d_as_stacks X G (fun _ _ _ _ _ _ us hl => match us, hl with | [_, _], _ => rfl) fun f fd F _ _ => ok_as_stacks F B g_is_sequence g_is_name g_are_unlike
  have g_is_event : Fn Pg w K mg base CX0 2 "is_event" ["value"] (SpD K pre_event) := dk_fn d_is_event X G (fun _ _ _ _ _ _ us hl => match us, hl with | [_], _ => rfl) fun f fd F _ _ => ok_is_event F B cI cO g_is_name
  have g_boxes_of : Fn Pg w K mg base CX0 1 "boxes_of" ["yard"] (spBoxes K CY) := dk_fn d_boxes_of X G (fun _ _ _ _ _ _ us hl => match us, hl with | [_], _ => rfl) fun f fd F _ _ => ok_boxes_of F B T
  have g_as_events : Fn Pg w K mg base CX0 3 "as_events" ["yard", "value"] (spAsEv K CY) := dk_fn d_as_events X G (fun _ _ _ _ _ _ us hl => match us, hl with | [_, _], _ => rfl) fun f fd F _ _ => ok_as_events F B cI g_is_sequence g_is_event g_boxes_of
  have g_stays_in : Fn Pg w K mg base CX0 2 "stays_in" ["day"] (spStaysIn K CY CD) := dk_fn d_stays_in X G (fun _ _ _ _ _ _ us hl => match us, hl with | [_], _ => rfl) fun f fd F _ _ => ok_stays_in F B T g_stays_of g_boxes_of
  have FY := fun_mk (st := s_Yard_init) lY cY kfY
  have FD := fun_mk (st := s_Day_init) lD cD kfD
  have mkY : MkC Pg w K mg base CX0 3 "Yard" CY ["self", "height", "stacks"] (spYard K CY) := ⟨_, _, ⟨mkY, inY, ifY, kpY⟩, ok_Yard_init FY B T g_is_number g_as_stacks, PySem.W.mg_of X G aCY, FY.binds fun _ _ _ _ _ _ us hl => match us, hl with | [_, _, _], _ => rfl⟩
  have mkD : MkC Pg w K mg base (L2.CX Pg w) 4 "Day" CD ["self", "yard", "events"] (spDay K CY CD C) := ⟨_, _, ⟨mkD, inD, ifD, kpD⟩, ok_Day_init FD B T Dn g_as_events, PySem.W.mg_of X G aCD, FD.binds fun _ _ _ _ _ _ us hl => match us, hl with | [_, _, _], _ => rfl⟩
  have g_table_of : Fn Pg w K mg base (L2.CX Pg w) 6 "table_of" ["events"] (SpR K C pre_table) := dk_fn d_table_of X G (fun _ _ _ _ _ _ us hl => match us, hl with | [_], _ => rfl) fun f fd F _ _ => ok_table_of F B T Dn g_clashes_of g_stays_in mkY mkD
  have g_least_parting : Fn Pg w K mg base CX0 2 "least_parting" ["table"] (SpD K pre_least) := dk_fn d_least_parting X G (fun _ _ _ _ _ _ us hl => match us, hl with | [_], _ => rfl) fun f fd F _ _ => ok_least_parting F B g_parting_into
  have g_fewest_stacks : Fn Pg w K mg base (L2.CX Pg w) 7 "fewest_stacks" ["events"] (SpR K C pre_fs) := dk_fn d_fewest_stacks X G (fun _ _ _ _ _ _ us hl => match us, hl with | [_], _ => rfl) fun f fd F _ _ => ok_fewest_stacks F B g_table_of g_least_parting
  have g_fewest_claim : Fn Pg w K mg base (L2.CX Pg w) 8 "fewest_claim" ["events"] (SpR K C pre_fc) := dk_fn d_fewest_claim X G (fun _ _ _ _ _ _ us hl => match us, hl with | [_], _ => rfl) fun f fd F _ _ => ok_fewest_claim F B g_fewest_stacks
  have g_fewest_paper : Fn Pg w K mg base (L2.CX Pg w) 7 "fewest_paper" ["events"] (SpR K C pre_fp) := dk_fn d_fewest_paper X G (fun _ _ _ _ _ _ us hl => match us, hl with | [_], _ => rfl) fun f fd F _ _ => ok_fewest_paper F B g_table_of g_least_parting g_crowd_of cS hS
  have g_shows_least : Fn Pg w K mg base CX0 4 "shows_least" ["table", "k", "value"] (SpD K pre_shows) := dk_fn d_shows_least X G (fun _ _ _ _ _ _ us hl => match us, hl with | [_, _, _], _ => rfl) fun f fd F _ _ => ok_shows_least F B cS hS g_parting_into g_is_kind g_are_rising_below g_all_clash
  have g_fewest_holds : Fn Pg w K mg base (L2.CX Pg w) 7 "fewest_holds" ["events", "claim", "paper"] (SpR K C pre_fh) := dk_fn d_fewest_holds X G (fun _ _ _ _ _ _ us hl => match us, hl with | [_, _, _], _ => rfl) fun f fd F _ _ => ok_fewest_holds F B g_table_of g_is_plain g_is_kind g_is_integer_core_looking g_are_places g_shows_least
  have g__law_cell : Fn Pg w K mg base CX0 1 "_law_cell" ["_law_script", "_law_k"] (spCell K) := dk_fn d__law_cell X G (fun _ _ _ _ _ _ us hl => match us, hl with | [_, _], _ => rfl) fun f fd F _ _ => ok_law_cell F B
  have g__law_row : Fn Pg w K mg base CX0 1 "_law_row" ["_law_cell_here", "_law_many", "_law_base", "_law_salt"] (SpD K pre_row) := dk_fn d__law_row X G (fun _ _ _ _ _ _ us hl => match us, hl with | [_, _, _, _], _ => rfl) fun f fd F _ _ => ok_law_row F B
  have g__law_is_integer : Fn Pg w K mg base CX0 1 "_law_is_integer" ["_law_value"] (SpD K pre_isI) := dk_fn d__law_is_integer X G (fun _ _ _ _ _ _ us hl => match us, hl with | [_], _ => rfl) fun f fd F _ _ => ok_law_is_integer F B
  have g__law_boxes : Fn Pg w K mg base CX0 1 "_law_boxes" ["_law_stacks"] (spNil K) := dk_fn d__law_boxes X G (fun _ _ _ _ _ _ us hl => match us, hl with | [_], _ => rfl) fun f fd F _ _ => ok_law_boxes F B
  have g__law_names : Fn Pg w K mg base CX0 2 "_law_names" ["_law_cell_here", "_law_salt", "_law_many"] (SpD K pre_names) := dk_fn d__law_names X G (fun _ _ _ _ _ _ us hl => match us, hl with | [_, _, _], _ => rfl) fun f fd F _ _ => ok_law_names F B g__law_row
  have g__law_events : Fn Pg w K mg base CX0 2 "_law_events" ["_law_marks", "_law_stacks", "_law_fresh", "_law_comings"] (SpD K pre_levents) := dk_fn d__law_events X G (fun _ _ _ _ _ _ us hl => match us, hl with | [_, _, _, _], _ => rfl) fun f fd F _ _ => ok_law_events F B g__law_boxes
  have g__law_stays : Fn Pg w K mg base CX0 2 "_law_stays" ["_law_stacks", "_law_events_here"] (SpD K pre_lstays) := dk_fn d__law_stays X G (fun _ _ _ _ _ _ us hl => match us, hl with | [_, _], _ => rfl) fun f fd F _ _ => ok_law_stays F B g__law_boxes
  have g__law_clash : Fn Pg w K mg base CX0 1 "_law_clash" ["_law_one", "_law_other"] (SpD K pre_apart) := dk_fn d__law_clash X G (fun _ _ _ _ _ _ us hl => match us, hl with | [_, _], _ => rfl) fun f fd F _ _ => ok_law_clash F B
  have g__law_least : Fn Pg w K mg base CX0 2 "_law_least" ["_law_stays_here"] (SpD K pre_lleast) := dk_fn d__law_least X G (fun _ _ _ _ _ _ us hl => match us, hl with | [_], _ => rfl) fun f fd F _ _ => ok_law_least F B g__law_clash
  have g__law_is_crowd : Fn Pg w K mg base CX0 2 "_law_is_crowd" ["_law_stays_here", "_law_numbers", "_law_k"] (SpD K pre_lcrowd) := dk_fn d__law_is_crowd X G (fun _ _ _ _ _ _ us hl => match us, hl with | [_, _, _], _ => rfl) fun f fd F _ _ => ok_law_is_crowd F B g__law_clash g__law_is_integer
  have g__law_has_crowd : Fn Pg w K mg base CX0 3 "_law_has_crowd" ["_law_stays_here", "_law_k"] (SpD K pre_hcrowd) := dk_fn d__law_has_crowd X G (fun _ _ _ _ _ _ us hl => match us, hl with | [_, _], _ => rfl) fun f fd F _ _ => ok_law_has_crowd F B g__law_is_crowd
  have g__law_says : Fn Pg w K mg base CX0 1 "_law_says" ["_law_answer", "_law_due"] (SpD K pre_says) := dk_fn d__law_says X G (fun _ _ _ _ _ _ us hl => match us, hl with | [_, _], _ => rfl) fun f fd F _ _ => ok_law_says F B
  have same0 : Fn Pg w K mg base CX0 2 "_law_same" ["_law_given", "_law_due"] (SpD K pre_same0) := dk_fn d__law_same X G (fun _ _ _ _ _ _ us hl => match us, hl with | [_, _], _ => rfl) fun f fd F _ _ => ok_law_same0 F B g__law_is_integer
  have g__law_same : Fn Pg w K mg base CX0 3 "_law_same" ["_law_given", "_law_due"] (SpD K pre_same) := dk_fn d__law_same X G (fun _ _ _ _ _ _ us hl => match us, hl with | [_, _], _ => rfl) fun f fd F _ _ => ok_law_same F B g__law_is_integer same0
  have g__law_is_flat : Fn Pg w K mg base CX0 5 "_law_is_flat" ["_law_value"] (SpD K (pre_flat 3)) := dk_fn d__law_is_flat X G (fun _ _ _ _ _ _ us hl => match us, hl with | [_], _ => rfl) fun f fd F hm hb => ok_law_is_flat F B g__law_is_integer hm F.kp hb 3 (by decide)
  have g__law_fewest_paper : Fn Pg w K mg base CX0 3 "_law_fewest_paper" ["_law_stays_here", "_law_k", "_law_paper"] (SpD K pre_lpaper) := dk_fn d__law_fewest_paper X G (fun _ _ _ _ _ _ us hl => match us, hl with | [_, _, _], _ => rfl) fun f fd F _ _ => ok_law_fewest_paper F B g__law_is_integer g__law_clash g__law_least g__law_is_crowd
  have g__law_round : Fn Pg w K mg base CX0 1 "_law_round" ["_law_names_here", "_law_marks"] (SpD K pre_round) := dk_fn d__law_round X G (fun _ _ _ _ _ _ us hl => match us, hl with | [_, _], _ => rfl) fun f fd F _ _ => ok_law_round F B
  have g__law_free : Fn Pg w K mg base CX0 3 "_law_free" ["_law_script", "_law_salt"] (spFree K) := dk_fn d__law_free X G (fun _ _ _ _ _ _ us hl => match us, hl with | [_, _], _ => rfl) fun f fd F _ _ => ok_law_free F B g__law_cell g__law_row g__law_names g__law_round g__law_events
  have g__law_no_events : Fn Pg w K mg base CX0 1 "_law_no_events" ["_law_events_here", "_law_mark"] (SpD K pre_noev) := dk_fn d__law_no_events X G (fun _ _ _ _ _ _ us hl => match us, hl with | [_, _], _ => rfl) fun f fd F _ _ => ok_law_no_events F B
  have g__law_refused : Fn Pg w K mg base (L2.CX Pg w) 9 "_law_refused" ["_law_value", "_law_way"] (SpD K pre_refused) := dk_fn d__law_refused X G (fun _ _ _ _ _ _ us hl => match us, hl with | [_, _], _ => rfl) fun f fd F _ _ => ok_law_refused F B R g_fewest_stacks g_fewest_claim g_fewest_paper g_fewest_holds
  have gk_fewest_stacks : FnK Pg w K mg base (L2.CX Pg w) 7 "fewest_stacks" ["events"] (SpR K C pre_fs) := dk_fnK d_fewest_stacks X G (fun _ _ _ _ _ _ us hl => match us, hl with | [_], _ => rfl) fun f fd F => ok_fewest_stacks F B g_table_of g_least_parting
  have gk_fewest_holds : FnK Pg w K mg base (L2.CX Pg w) 7 "fewest_holds" ["events", "claim", "paper"] (SpR K C pre_fh) := dk_fnK d_fewest_holds X G (fun _ _ _ _ _ _ us hl => match us, hl with | [_, _, _], _ => rfl) fun f fd F => ok_fewest_holds F B g_table_of g_is_plain g_is_kind g_is_integer_core_looking g_are_places g_shows_least
  have Gs : Gs Pg w K mg base C := ⟨g__law_free, g__law_cell, g__law_row, g__law_stays, g__law_least, g__law_same, g__law_is_flat, g__law_fewest_paper, g__law_has_crowd, g__law_says, g__law_no_events, g__law_refused, g_fewest_stacks, gk_fewest_stacks, g_fewest_claim, g_fewest_paper, g_fewest_holds, gk_fewest_holds⟩
  have g__law_whole : Fn Pg w K mg base (L2.CX Pg w) 10 "_law_whole" ["_law_script"] (spWhole K) := dk_fn d__law_whole X G (fun _ _ _ _ _ _ us hl => match us, hl with | [_], _ => rfl) fun f fd F _ _ => ok_law_whole F B Gs
  exact ok_law Fl B g__law_whole
end K33
open PySem PySem.W PyProof.Rows in
set_option maxRecDepth 100000 in
set_option maxHeartbeats 0 in
theorem PySem.Challenge.cw_leastshifts_k33_whole_fewest_stacks_holds : PySem.Challenge.rw_leastshifts_k33_whole_fewest_stacks.Holds := by
  w_on; o_law; k_head; (case hw => w_witness2)
  k_fill
  refine L2.walk_of (l := PySem.Challenge.rw_leastshifts_k33_whole_fewest_stacks) (n := 63) (k := 11) (x := "_law_script") (CX := fun _ => L2.CX0) (sp := fun w => K33.spLaw _) rfl (by decide) rfl ⟨rfl, by decide, by decide⟩ (fun w h Y => PySem.W.kIn_of Y) ?F (fun _ _ a ns hl _ hS => ⟨a, ns, rfl, hS, fun _ => rfl⟩) fun _ _ _ _ _ z => z
  case F =>
    intro w mg fa h KX G hmg
    refine' K33.all_mk KX G hmg ?d_is_integer_core_looking ?d_is_below ?d_is_plain ?d_is_kind ?d_are_rising_below ?d_are_places ?d_is_cut_by ?d_are_apart ?d_clashes_of ?d_all_clash ?d_crowd_of ?d_parting_into ?d_stays_of ?d_is_integer_core_plain ?d_is_number ?d_is_sequence ?d_is_name ?d_are_unlike ?d_as_stacks ?d_is_event ?d_boxes_of ?d_as_events ?d_stays_in ?d_table_of ?d_least_parting ?d_fewest_stacks ?d_fewest_claim ?d_fewest_paper ?d_shows_least ?d_fewest_holds ?d__law_cell ?d__law_row ?d__law_is_integer ?d__law_boxes ?d__law_names ?d__law_events ?d__law_stays ?d__law_clash ?d__law_least ?d__law_is_crowd ?d__law_has_crowd ?d__law_says ?d__law_same ?d__law_is_flat ?d__law_fewest_paper ?d__law_round ?d__law_free ?d__law_no_events ?d__law_refused ?d__law_whole ?d_law ?z_len ?z_isinstance ?z_int ?z_bool ?z_str ?z_tuple ?z_list ?z_all ?z_any ?z_max ?z_min ?z_range ?z_enumerate ?z_ValueError ?z_super ?aCY ?aCD ?aC ?aCE ?aS_ ?aL ?aM ?aI ?aO ?lS ?pgY ?hdY ?poY ?saY ?mkY ?inY ?ifY ?kpY ?lY ?cY ?kfY ?pgD ?hdD ?poD ?saD ?mkD ?inD ?ifD ?kpD ?lD ?cD ?kfD ?nYh ?nYs ?nDy ?nDe ?xL ?xR ?saX ?beX ?tyX ?kpX ?hdX ?gaX ?ggX ?clX ?hnX ?htX ?moX ?msX ?noX ?ssX ?veX ?suX ?opX ?k1X ?k2X ?inX ?tfX ?lX ?cX ?ceX ?coX ?cvX ?cfX
    (case d_is_integer_core_looking => (refine' K33.dk_mk ?a ?l ?c ?k; (case a => k_is); (case l => k_is); (case c => k_is); (case k => k_is)))
    (case d_is_below => (refine' K33.dk_mk ?a ?l ?c ?k; (case a => k_is); (case l => k_is); (case c => k_is); (case k => k_is)))
    (case d_is_plain => (refine' K33.dk_mk ?a ?l ?c ?k; (case a => k_is); (case l => k_is); (case c => k_is); (case k => k_is)))
    (case d_is_kind => (refine' K33.dk_mk ?a ?l ?c ?k; (case a => k_is); (case l => k_is); (case c => k_is); (case k => k_is)))
    (case d_are_rising_below => (refine' K33.dk_mk ?a ?l ?c ?k; (case a => k_is); (case l => k_is); (case c => k_is); (case k => k_is)))
    (case d_are_places => (refine' K33.dk_mk ?a ?l ?c ?k; (case a => k_is); (case l => k_is); (case c => k_is); (case k => k_is)))
    (case d_is_cut_by => (refine' K33.dk_mk ?a ?l ?c ?k; (case a => k_is); (case l => k_is); (case c => k_is); (case k => k_is)))
    (case d_are_apart => (refine' K33.dk_mk ?a ?l ?c ?k; (case a => k_is); (case l => k_is); (case c => k_is); (case k => k_is)))
    (case d_clashes_of => (refine' K33.dk_mk ?a ?l ?c ?k; (case a => k_is); (case l => k_is); (case c => k_is); (case k => k_is)))
    (case d_all_clash => (refine' K33.dk_mk ?a ?l ?c ?k; (case a => k_is); (case l => k_is); (case c => k_is); (case k => k_is)))
    (case d_crowd_of => (refine' K33.dk_mk ?a ?l ?c ?k; (case a => k_is); (case l => k_is); (case c => k_is); (case k => k_is)))
    (case d_parting_into => (refine' K33.dk_mk ?a ?l ?c ?k; (case a => k_is); (case l => k_is); (case c => k_is); (case k => k_is)))
    (case d_stays_of => (refine' K33.dk_mk ?a ?l ?c ?k; (case a => k_is); (case l => k_is); (case c => k_is); (case k => k_is)))
    (case d_is_integer_core_plain => (refine' K33.dk_mk ?a ?l ?c ?k; (case a => k_is); (case l => k_is); (case c => k_is); (case k => k_is)))
    (case d_is_number => (refine' K33.dk_mk ?a ?l ?c ?k; (case a => k_is); (case l => k_is); (case c => k_is); (case k => k_is)))
    (case d_is_sequence => (refine' K33.dk_mk ?a ?l ?c ?k; (case a => k_is); (case l => k_is); (case c => k_is); (case k => k_is)))
    (case d_is_name => (refine' K33.dk_mk ?a ?l ?c ?k; (case a => k_is); (case l => k_is); (case c => k_is); (case k => k_is)))
    (case d_are_unlike => (refine' K33.dk_mk ?a ?l ?c ?k; (case a => k_is); (case l => k_is); (case c => k_is); (case k => k_is)))
    (case d_as_stacks => (refine' K33.dk_mk ?a ?l ?c ?k; (case a => k_is); (case l => k_is); (case c => k_is); (case k => k_is)))
    (case d_is_event => (refine' K33.dk_mk ?a ?l ?c ?k; (case a => k_is); (case l => k_is); (case c => k_is); (case k => k_is)))
    (case d_boxes_of => (refine' K33.dk_mk ?a ?l ?c ?k; (case a => k_is); (case l => k_is); (case c => k_is); (case k => k_is)))
    (case d_as_events => (refine' K33.dk_mk ?a ?l ?c ?k; (case a => k_is); (case l => k_is); (case c => k_is); (case k => k_is)))
    (case d_stays_in => (refine' K33.dk_mk ?a ?l ?c ?k; (case a => k_is); (case l => k_is); (case c => k_is); (case k => k_is)))
    (case d_table_of => (refine' K33.dk_mk ?a ?l ?c ?k; (case a => k_is); (case l => k_is); (case c => k_is); (case k => k_is)))
    (case d_least_parting => (refine' K33.dk_mk ?a ?l ?c ?k; (case a => k_is); (case l => k_is); (case c => k_is); (case k => k_is)))
    (case d_fewest_stacks => (refine' K33.dk_mk ?a ?l ?c ?k; (case a => k_is); (case l => k_is); (case c => k_is); (case k => k_is)))
    (case d_fewest_claim => (refine' K33.dk_mk ?a ?l ?c ?k; (case a => k_is); (case l => k_is); (case c => k_is); (case k => k_is)))
    (case d_fewest_paper => (refine' K33.dk_mk ?a ?l ?c ?k; (case a => k_is); (case l => k_is); (case c => k_is); (case k => k_is)))
    (case d_shows_least => (refine' K33.dk_mk ?a ?l ?c ?k; (case a => k_is); (case l => k_is); (case c => k_is); (case k => k_is)))
    (case d_fewest_holds => (refine' K33.dk_mk ?a ?l ?c ?k; (case a => k_is); (case l => k_is); (case c => k_is); (case k => k_is)))
    (case d__law_cell => (refine' K33.dk_mk ?a ?l ?c ?k; (case a => k_is); (case l => k_is); (case c => k_is); (case k => k_is)))
    (case d__law_row => (refine' K33.dk_mk ?a ?l ?c ?k; (case a => k_is); (case l => k_is); (case c => k_is); (case k => k_is)))
    (case d__law_is_integer => (refine' K33.dk_mk ?a ?l ?c ?k; (case a => k_is); (case l => k_is); (case c => k_is); (case k => k_is)))
    (case d__law_boxes => (refine' K33.dk_mk ?a ?l ?c ?k; (case a => k_is); (case l => k_is); (case c => k_is); (case k => k_is)))
    (case d__law_names => (refine' K33.dk_mk ?a ?l ?c ?k; (case a => k_is); (case l => k_is); (case c => k_is); (case k => k_is)))
    (case d__law_events => (refine' K33.dk_mk ?a ?l ?c ?k; (case a => k_is); (case l => k_is); (case c => k_is); (case k => k_is)))
    (case d__law_stays => (refine' K33.dk_mk ?a ?l ?c ?k; (case a => k_is); (case l => k_is); (case c => k_is); (case k => k_is)))
    (case d__law_clash => (refine' K33.dk_mk ?a ?l ?c ?k; (case a => k_is); (case l => k_is); (case c => k_is); (case k => k_is)))
    (case d__law_least => (refine' K33.dk_mk ?a ?l ?c ?k; (case a => k_is); (case l => k_is); (case c => k_is); (case k => k_is)))
    (case d__law_is_crowd => (refine' K33.dk_mk ?a ?l ?c ?k; (case a => k_is); (case l => k_is); (case c => k_is); (case k => k_is)))
    (case d__law_has_crowd => (refine' K33.dk_mk ?a ?l ?c ?k; (case a => k_is); (case l => k_is); (case c => k_is); (case k => k_is)))
    (case d__law_says => (refine' K33.dk_mk ?a ?l ?c ?k; (case a => k_is); (case l => k_is); (case c => k_is); (case k => k_is)))
    (case d__law_same => (refine' K33.dk_mk ?a ?l ?c ?k; (case a => k_is); (case l => k_is); (case c => k_is); (case k => k_is)))
    (case d__law_is_flat => (refine' K33.dk_mk ?a ?l ?c ?k; (case a => k_is); (case l => k_is); (case c => k_is); (case k => k_is)))
    (case d__law_fewest_paper => (refine' K33.dk_mk ?a ?l ?c ?k; (case a => k_is); (case l => k_is); (case c => k_is); (case k => k_is)))
    (case d__law_round => (refine' K33.dk_mk ?a ?l ?c ?k; (case a => k_is); (case l => k_is); (case c => k_is); (case k => k_is)))
    (case d__law_free => (refine' K33.dk_mk ?a ?l ?c ?k; (case a => k_is); (case l => k_is); (case c => k_is); (case k => k_is)))
    (case d__law_no_events => (refine' K33.dk_mk ?a ?l ?c ?k; (case a => k_is); (case l => k_is); (case c => k_is); (case k => k_is)))
    (case d__law_refused => (refine' K33.dk_mk ?a ?l ?c ?k; (case a => k_is); (case l => k_is); (case c => k_is); (case k => k_is)))
    (case d__law_whole => (refine' K33.dk_mk ?a ?l ?c ?k; (case a => k_is); (case l => k_is); (case c => k_is); (case k => k_is)))
    (case d_law => (refine' K33.dk_mk ?a ?l ?c ?k; (case a => k_is); (case l => k_is); (case c => k_is); (case k => k_is)))
    (case z_len => k_is)
    (case z_isinstance => k_is)
    (case z_int => k_is)
    (case z_bool => k_is)
    (case z_str => k_is)
    (case z_tuple => k_is)
    (case z_list => k_is)
    (case z_all => k_is)
    (case z_any => k_is)
    (case z_max => k_is)
    (case z_min => k_is)
    (case z_range => k_is)
    (case z_enumerate => k_is)
    (case z_ValueError => k_is)
    (case z_super => k_is)
    (case aCY => k_is)
    (case aCD => k_is)
    (case aC => k_is)
    (case aCE => k_is)
    (case aS_ => k_is)
    (case aL => k_is)
    (case aM => k_is)
    (case aI => k_is)
    (case aO => k_is)
    (case lS => k_is)
    (case pgY => k_is)
    (case hdY => k_is)
    (case poY => k_is)
    (case saY => k_is)
    (case mkY => k_is)
    (case inY => k_is)
    (case ifY => k_is)
    (case kpY => k_is)
    (case lY => k_is)
    (case cY => k_is)
    (case kfY => k_is)
    (case pgD => k_is)
    (case hdD => k_is)
    (case poD => k_is)
    (case saD => k_is)
    (case mkD => k_is)
    (case inD => k_is)
    (case ifD => k_is)
    (case kpD => k_is)
    (case lD => k_is)
    (case cD => k_is)
    (case kfD => k_is)
    (case nYh => k_is)
    (case nYs => k_is)
    (case nDy => k_is)
    (case nDe => k_is)
    (case xL => k_is)
    (case xR => decide +kernel)
    (case saX => k_is)
    (case beX => k_is)
    (case tyX => k_is)
    (case kpX => k_is)
    (case hdX => k_is)
    (case gaX => k_is)
    (case ggX => k_is)
    (case clX => k_is)
    (case hnX => k_is)
    (case htX => k_is)
    (case moX => k_is)
    (case msX => k_is)
    (case noX => k_is)
    (case ssX => first | rfl | k_is)
    (case veX => k_is)
    (case suX => kernel_rfl)
    (case opX => k_is)
    (case k1X => first | kit_is | kernel_rfl)
    (case k2X => first | kit_is | kernel_rfl)
    (case inX => k_is)
    (case tfX => k_is)
    (case lX => k_is)
    (case cX => k_is)
    (case ceX => k_is)
    (case coX => k_is)
    (case cvX => rfl)
    (case cfX => first | rfl | decide +kernel)


