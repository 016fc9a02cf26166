import PyProof.Rows.All
import Wide.All
import OpenK.AllK
import Wide.FinOn
import HandS.ForMost
import HandS.Zip0
import HandS.Zip
import HandS.ForExc
import HandS.TupMul
import HandS.TupAny
import HandS.Small
import HandS.Walk
import HandS.IsInst
import HandS.Flow
import HandS.Evl
import PySem.Challenge.RW_unwound_k02_whole_words_and_their_roots
set_option Elab.async false
set_option linter.all false
set_option maxRecDepth 100000
set_option maxHeartbeats 8000000
/-! plain mathematics of words: no program here -/
namespace KW

/-- many copies, one behind the other -/
def rep {α : Type} (m : Nat) (xs : List α) : List α := (List.replicate m xs).flatten
theorem rep_zero {α : Type} (xs : List α) : rep 0 xs = [] := rfl
theorem rep_succ {α : Type} (m : Nat) (xs : List α) : rep (m + 1) xs = xs ++ rep m xs := rfl
theorem rep_one {α : Type} (xs : List α) : rep 1 xs = xs := by rw [rep_succ, rep_zero, List.append_nil]
theorem rep_nil {α : Type} (m : Nat) : rep m ([] : List α) = [] := by
  induction m with
  | zero => rfl
  | succ m ih => rw [rep_succ, ih]; rfl
theorem rep_len {α : Type} (xs : List α) (m : Nat) : (rep m xs).length = m * xs.length := by
  induction m with
  | zero => rw [rep_zero, Nat.zero_mul]; rfl
  | succ m ih => rw [rep_succ, List.length_append, ih, Nat.succ_mul, Nat.add_comm]
theorem rep_get {α : Type} (xs : List α) (m k : Nat) (h : k < m * xs.length) : (rep m xs)[k]? = xs[k % xs.length]? := by
  induction m generalizing k with
  | zero => rw [Nat.zero_mul] at h; omega
  | succ m ih =>
    rw [rep_succ]
    by_cases hk : k < xs.length
    · rw [List.getElem?_append_left hk, Nat.mod_eq_of_lt hk]
    · have hk' : xs.length ≤ k := Nat.le_of_not_lt hk
      rw [List.getElem?_append_right hk', ih (k - xs.length) (by rw [Nat.succ_mul] at h; omega), ← Nat.mod_eq_sub_mod hk']
theorem map_rep {α β : Type} (f : α → β) (m : Nat) (xs : List α) : (rep m xs).map f = rep m (xs.map f) := by
  induction m with
  | zero => rfl
  | succ m ih => rw [rep_succ, rep_succ, List.map_append, ih]

/-- the endless row of a word -/
def per (u : List Int) (k : Nat) : Int := u.getD (k % u.length) 0
theorem per_get (u : List Int) (k : Nat) (h : 0 < u.length) : u[k % u.length]? = some (per u k) := by
  unfold per
  rw [List.getD_eq_getElem?_getD, List.getElem?_eq_getElem (Nat.mod_lt k h)]
  rfl
theorem per_lt (u : List Int) (k : Nat) (h : k < u.length) : u[k]? = some (per u k) := by
  have e := per_get u k (by omega)
  rw [Nat.mod_eq_of_lt h] at e
  exact e
theorem per_mod (u : List Int) (k : Nat) : per u (k % u.length) = per u k := by
  unfold per
  rw [Nat.mod_mod]
theorem per_add (u : List Int) (k : Nat) : per u (k + u.length) = per u k := by
  unfold per
  rw [Nat.add_mod_right]
theorem per_sub (u : List Int) (k : Nat) (h : u.length ≤ k) : per u (k - u.length) = per u k := by
  have e := per_add u (k - u.length)
  rw [Nat.sub_add_cancel h] at e
  exact e.symm

/-! ### words commute exactly if their rows are one -/
theorem row_of_comm {u v : List Int} (h : u ++ v = v ++ u) (hu : 0 < u.length) : ∀ n k, k < n → k < u.length + v.length → (u ++ v)[k]? = some (per u k)
  | 0, k, hk, _ => by omega
  | n + 1, k, hk, hN => by
    by_cases h1 : k < u.length
    · rw [List.getElem?_append_left h1]
      exact per_lt u k h1
    · have h2 : u.length ≤ k := Nat.le_of_not_lt h1
      have e1 : (u ++ v)[k]? = v[k - u.length]? := List.getElem?_append_right h2
      have e2 : (v ++ u)[k - u.length]? = v[k - u.length]? := List.getElem?_append_left (by omega)
      have ih := row_of_comm h hu n (k - u.length) (by omega) (by omega)
      rw [e1, ← e2, ← h, ih, per_sub u k h2]
theorem rows_first {u v : List Int} (h : u ++ v = v ++ u) (hu : 0 < u.length) (hv : 0 < v.length) (k : Nat) (hk : k < u.length + v.length) : per u k = per v k := by
  have a := row_of_comm h hu (k + 1) k (Nat.lt_succ_self k) hk
  have b := row_of_comm h.symm hv (k + 1) k (Nat.lt_succ_self k) (by omega)
  rw [h, b] at a
  exact (Option.some.inj a).symm
theorem rows_all {u v : List Int} (h : ∀ k, k < u.length + v.length → per u k = per v k) : ∀ n k, k < n → per u k = per v k
  | 0, k, hk => by omega
  | n + 1, k, hk => by
    by_cases hN : k < u.length + v.length
    · exact h k hN
    · by_cases hu : u.length = 0
      · by_cases hv : v.length = 0
        · have e1 : u = [] := List.eq_nil_of_length_eq_zero hu
          have e2 : v = [] := List.eq_nil_of_length_eq_zero hv
          rw [e1, e2]
        · have e1 : u = [] := List.eq_nil_of_length_eq_zero hu
          have ih := rows_all h n (k - v.length) (by omega)
          rw [per_sub v k (by omega)] at ih
          rw [← ih, e1]
          rfl
      · by_cases hv : v.length = 0
        · have e2 : v = [] := List.eq_nil_of_length_eq_zero hv
          have ih := rows_all h n (k - u.length) (by omega)
          rw [per_sub u k (by omega)] at ih
          rw [ih, e2]
          rfl
        · have i1 := rows_all h n (k - u.length) (by omega)
          have i2 := rows_all h n (k - u.length - v.length) (by omega)
          have i3 := rows_all h n (k - v.length) (by omega)
          rw [per_sub u k (by omega)] at i1
          rw [per_sub v k (by omega)] at i3
          rw [per_sub v (k - u.length) (by omega)] at i2
          rw [show k - u.length - v.length = k - v.length - u.length by omega, per_sub u (k - v.length) (by omega)] at i2
          rw [i1, ← i2, i3]
theorem comm_of_rows {u v : List Int} (hu : 0 < u.length) (hv : 0 < v.length) (h : ∀ k, k < u.length + v.length → per u k = per v k) : u ++ v = v ++ u := by
  apply List.ext_getElem?
  intro k
  by_cases hk : k < u.length + v.length
  · have a : (u ++ v)[k]? = some (per u k) := by
      by_cases h1 : k < u.length
      · rw [List.getElem?_append_left h1]
        exact per_lt u k h1
      · have h2 : u.length ≤ k := Nat.le_of_not_lt h1
        rw [List.getElem?_append_right h2, per_lt v _ (by omega), ← h _ (by omega), per_sub u k h2]
    have b : (v ++ u)[k]? = some (per v k) := by
      by_cases h1 : k < v.length
      · rw [List.getElem?_append_left h1]
        exact per_lt v k h1
      · have h2 : v.length ≤ k := Nat.le_of_not_lt h1
        rw [List.getElem?_append_right h2, per_lt u _ (by omega), h _ (by omega), per_sub v k h2]
    rw [a, b, h k hk]
  · rw [List.getElem?_eq_none (by rw [List.length_append]; omega), List.getElem?_eq_none (by rw [List.length_append]; omega)]
theorem comm_iff_first {u v : List Int} (hu : 0 < u.length) (hv : 0 < v.length) : u ++ v = v ++ u ↔ ∀ k, k < u.length + v.length → per u k = per v k :=
  ⟨fun h k hk => rows_first h hu hv k hk, comm_of_rows hu hv⟩
theorem comm_iff_rows {u v : List Int} (hu : 0 < u.length) (hv : 0 < v.length) : u ++ v = v ++ u ↔ ∀ k, per u k = per v k :=
  ⟨fun h k => rows_all (rows_first h hu hv) (k + 1) k (Nat.lt_succ_self k), fun h => comm_of_rows hu hv fun k _ => h k⟩

/-! ### roots -/
/-- the test of the law -/
def testB (w : List Int) (d : Nat) : Bool := decide (w.length % d = 0) && (List.range w.length).all fun k => decide (w.getD k 0 = w.getD (k % d) 0)
def firstFrom (p : Nat → Bool) : Nat → Nat → Nat
  | 0, i => i
  | f + 1, i => if p i = true then i else firstFrom p f (i + 1)
def rootSize (w : List Int) : Nat := firstFrom (testB w) (w.length - 1) 1
def root (w : List Int) : List Int := w.take (rootSize w)
def rtimes (w : List Int) : Nat := w.length / rootSize w

theorem first_spec (p : Nat → Bool) : ∀ (f i : Nat), p (i + f) = true → i ≤ firstFrom p f i ∧ firstFrom p f i ≤ i + f ∧ p (firstFrom p f i) = true ∧ ∀ j, i ≤ j → j < firstFrom p f i → p j = false
  | 0, i, h => ⟨Nat.le_refl i, Nat.le_refl _, h, fun j h1 h2 => by
      have h2 : j < i := h2
      omega⟩
  | f + 1, i, h => by
    unfold firstFrom
    by_cases hp : p i = true
    · rw [if_pos hp]
      exact ⟨Nat.le_refl i, by omega, hp, fun j h1 h2 => by omega⟩
    · rw [if_neg hp]
      have ih := first_spec p f (i + 1) (by rw [show i + 1 + f = i + (f + 1) by omega]; exact h)
      refine ⟨by omega, by omega, ih.2.2.1, fun j h1 h2 => ?_⟩
      by_cases e : j = i
      · rw [e]
        exact Bool.eq_false_iff.mpr hp
      · exact ih.2.2.2 j (by omega) h2
theorem testB_iff {w : List Int} {d : Nat} : testB w d = true ↔ w.length % d = 0 ∧ ∀ k, k < w.length → w.getD k 0 = w.getD (k % d) 0 := by
  unfold testB
  rw [Bool.and_eq_true, decide_eq_true_eq, List.all_eq_true]
  constructor
  · intro h
    exact ⟨h.1, fun k hk => of_decide_eq_true (h.2 k (List.mem_range.mpr hk))⟩
  · intro h
    exact ⟨h.1, fun k hk => decide_eq_true (h.2 k (List.mem_range.mp hk))⟩
theorem testB_len (w : List Int) : testB w w.length = true := testB_iff.mpr ⟨Nat.mod_self _, fun k hk => by rw [Nat.mod_eq_of_lt hk]⟩
theorem rootSize_spec {w : List Int} (h : 0 < w.length) : 1 ≤ rootSize w ∧ rootSize w ≤ w.length ∧ testB w (rootSize w) = true ∧ ∀ j, 1 ≤ j → j < rootSize w → testB w j = false := by
  have s := first_spec (testB w) (w.length - 1) 1 (by rw [show 1 + (w.length - 1) = w.length by omega]; exact testB_len w)
  exact ⟨s.1, by have := s.2.1; unfold rootSize; omega, s.2.2.1, s.2.2.2⟩
theorem rootSize_is {w : List Int} {d : Nat} (h : 0 < w.length) (h1 : 1 ≤ d) (ht : testB w d = true) (hl : ∀ j, 1 ≤ j → j < d → testB w j = false) : d = rootSize w := by
  obtain ⟨a, b, c, e⟩ := rootSize_spec h
  rcases Nat.lt_trichotomy d (rootSize w) with q | q | q
  · have := e d h1 q
    rw [ht] at this
    cases this
  · exact q
  · have := hl _ a q
    rw [c] at this
    cases this
theorem div_mod_zero {n d : Nat} (h : n % d = 0) : n / d * d = n := Nat.div_mul_cancel (Nat.dvd_of_mod_eq_zero h)
/-- the test of the program -/
theorem rep_take_iff {w : List Int} {d : Nat} (h1 : 1 ≤ d) (h2 : d ≤ w.length) : rep (w.length / d) (w.take d) = w ↔ testB w d = true := by
  have hl : (w.take d).length = d := by rw [List.length_take]; omega
  rw [testB_iff]
  constructor
  · intro h
    have el := congrArg List.length h
    rw [rep_len, hl] at el
    refine ⟨Nat.mod_eq_zero_of_dvd ⟨w.length / d, by rw [Nat.mul_comm]; exact el.symm⟩, fun k hk => ?_⟩
    have e : w[k]? = (w.take d)[k % d]? := by
      have g := rep_get (w.take d) (w.length / d) k (by rw [hl, el]; exact hk)
      rw [h, hl] at g
      exact g
    have hm : k % d < d := Nat.mod_lt k h1
    rw [List.getElem?_take_of_lt hm] at e
    rw [List.getD_eq_getElem?_getD, List.getD_eq_getElem?_getD, e]
  · intro ⟨hm, hk⟩
    have el := div_mod_zero hm
    apply List.ext_getElem?
    intro k
    by_cases hkn : k < w.length
    · have g := rep_get (w.take d) (w.length / d) k (by rw [hl, el]; exact hkn)
      have hm' : k % d < d := Nat.mod_lt k h1
      rw [g, hl, List.getElem?_take_of_lt hm']
      have e := hk k hkn
      rw [List.getD_eq_getElem?_getD, List.getD_eq_getElem?_getD, List.getElem?_eq_getElem hkn, List.getElem?_eq_getElem (show k % d < w.length by omega)] at e
      rw [List.getElem?_eq_getElem hkn, List.getElem?_eq_getElem (show k % d < w.length by omega)]
      exact congrArg some e.symm
    · rw [List.getElem?_eq_none (by rw [rep_len, hl, el]; omega), List.getElem?_eq_none (by omega)]
/-- a word is the power of its root -/
theorem root_pow {w : List Int} (h : 0 < w.length) : rep (rtimes w) (root w) = w := by
  obtain ⟨a, b, c, _⟩ := rootSize_spec h
  exact (rep_take_iff a b).mpr c
theorem root_len {w : List Int} (h : 0 < w.length) : (root w).length = rootSize w := by
  obtain ⟨a, b, _⟩ := rootSize_spec h
  unfold root
  rw [List.length_take]
  omega

/-! ### roots are one exactly if the rows are -/
def Pd (f : Nat → Int) (d : Nat) : Prop := ∀ k, f (k + d) = f k
theorem Pd.mul {f : Nat → Int} {d : Nat} (h : Pd f d) : ∀ m k, f (k + m * d) = f k
  | 0, k => by rw [Nat.zero_mul, Nat.add_zero]
  | m + 1, k => by
    rw [Nat.succ_mul, ← Nat.add_assoc, h, Pd.mul h m k]
theorem Pd.mod {f : Nat → Int} {d : Nat} (h : Pd f d) (k : Nat) : f (k % d) = f k := by
  have e := Pd.mul h (k / d) (k % d)
  rw [Nat.mul_comm, Nat.mod_add_div] at e
  exact e.symm
theorem Pd.gcd {f : Nat → Int} : ∀ (n d e : Nat), d + e < n → 0 < d → 0 < e → Pd f d → Pd f e → Pd f (Nat.gcd d e)
  | 0, d, e, h, _, _, _, _ => by omega
  | n + 1, d, e, h, hd, he, pd, pe => by
    rcases Nat.lt_trichotomy d e with q | q | q
    · have p : Pd f (e - d) := fun k => by
        have a := pd (k + (e - d))
        rw [Nat.add_assoc, Nat.sub_add_cancel (Nat.le_of_lt q), pe] at a
        exact a.symm
      have g := Pd.gcd n d (e - d) (by omega) hd (by omega) pd p
      rw [Nat.gcd_sub_self_right (Nat.le_of_lt q)] at g
      exact g
    · rw [q, Nat.gcd_self]
      exact pe
    · have p : Pd f (d - e) := fun k => by
        have a := pe (k + (d - e))
        rw [Nat.add_assoc, Nat.sub_add_cancel (Nat.le_of_lt q), pd] at a
        exact a.symm
      have g := Pd.gcd n (d - e) e (by omega) (by omega) he p pe
      rw [Nat.gcd_sub_self_left (Nat.le_of_lt q)] at g
      exact g
theorem getD_per {w : List Int} {k : Nat} (h : k < w.length) : w.getD k 0 = per w k := by
  unfold per
  rw [Nat.mod_eq_of_lt h]
theorem test_pd {w : List Int} {d : Nat} (h : 0 < w.length) (h1 : 1 ≤ d) (ht : testB w d = true) : Pd (per w) d := by
  obtain ⟨hm, hk⟩ := testB_iff.mp ht
  have hd : d ≤ w.length := Nat.le_of_dvd h (Nat.dvd_of_mod_eq_zero hm)
  have key : ∀ k, per w k = per w (k % d) := fun k => by
    have a := hk (k % w.length) (Nat.mod_lt k h)
    rw [Nat.mod_mod_of_dvd k (Nat.dvd_of_mod_eq_zero hm)] at a
    have h3 : k % d < w.length := Nat.lt_of_lt_of_le (Nat.mod_lt k h1) hd
    rw [getD_per h3] at a
    exact a
  intro k
  rw [key (k + d), Nat.add_mod_right, ← key k]
theorem pd_test {w : List Int} {d : Nat} (h : 0 < w.length) (h1 : 1 ≤ d) (hm : d ∣ w.length) (p : Pd (per w) d) : testB w d = true := by
  refine testB_iff.mpr ⟨Nat.mod_eq_zero_of_dvd hm, fun k hk => ?_⟩
  have hd : d ≤ w.length := Nat.le_of_dvd h hm
  rw [getD_per hk, getD_per (Nat.lt_of_lt_of_le (Nat.mod_lt k h1) hd), Pd.mod p]
theorem pd_len (w : List Int) : Pd (per w) w.length := per_add w
theorem rootSize_dvd {w : List Int} (h : 0 < w.length) : rootSize w ∣ w.length := Nat.dvd_of_mod_eq_zero (testB_iff.mp (rootSize_spec h).2.2.1).1
theorem rootSize_le {w : List Int} {d : Nat} (h : 0 < w.length) (h1 : 1 ≤ d) (hm : d ∣ w.length) (p : Pd (per w) d) : rootSize w ≤ d := by
  obtain ⟨_, _, _, e⟩ := rootSize_spec h
  rcases Nat.lt_or_ge d (rootSize w) with q | q
  · have := e d h1 q
    rw [pd_test h h1 hm p] at this
    cases this
  · exact q
theorem rootSize_eq {u v : List Int} (hu : 0 < u.length) (hv : 0 < v.length) (h : ∀ k, per u k = per v k) : rootSize u ≤ rootSize v := by
  have f : per u = per v := funext h
  obtain ⟨a1, _, c1, _⟩ := rootSize_spec hu
  obtain ⟨a2, _, c2, _⟩ := rootSize_spec hv
  have p1 := test_pd hu a1 c1
  have p2 := test_pd hv a2 c2
  rw [← f] at p2
  have g := Pd.gcd (rootSize u + rootSize v + 1) _ _ (Nat.lt_succ_self _) a1 a2 p1 p2
  have l := rootSize_le hu (Nat.gcd_pos_of_pos_left _ a1) (Nat.dvd_trans (Nat.gcd_dvd_left _ _) (rootSize_dvd hu)) g
  exact Nat.le_trans l (Nat.le_of_dvd a2 (Nat.gcd_dvd_right _ _))
theorem root_get {w : List Int} (h : 0 < w.length) {k : Nat} (hk : k < rootSize w) : (root w)[k]? = some (per w k) := by
  unfold root
  rw [List.getElem?_take_of_lt hk]
  exact per_lt w k (Nat.lt_of_lt_of_le hk (rootSize_spec h).2.1)
theorem root_of_rows {u v : List Int} (hu : 0 < u.length) (hv : 0 < v.length) (h : ∀ k, per u k = per v k) : root u = root v := by
  have e : rootSize u = rootSize v := Nat.le_antisymm (rootSize_eq hu hv h) (rootSize_eq hv hu fun k => (h k).symm)
  apply List.ext_getElem?
  intro k
  by_cases hk : k < rootSize u
  · rw [root_get hu hk, root_get hv (by omega), h k]
  · rw [List.getElem?_eq_none (by rw [root_len hu]; omega), List.getElem?_eq_none (by rw [root_len hv]; omega)]
theorem per_root {w : List Int} (h : 0 < w.length) (k : Nat) : per (root w) k = per w k := by
  obtain ⟨a, b, c, _⟩ := rootSize_spec h
  have p := test_pd h a c
  have hm : k % rootSize w < rootSize w := Nat.mod_lt k a
  have e := root_get h hm
  have e2 := per_get (root w) k (by rw [root_len h]; exact a)
  rw [root_len h, e] at e2
  rw [← Option.some.inj e2, Pd.mod p]
theorem root_eq_iff {u v : List Int} (hu : 0 < u.length) (hv : 0 < v.length) : root u = root v ↔ ∀ k, per u k = per v k :=
  ⟨fun h k => by rw [← per_root hu, h, per_root hv], root_of_rows hu hv⟩
/-- the law: words commute exactly if their roots are one -/
theorem comm_iff_root {u v : List Int} (hu : 0 < u.length) : u ++ v = v ++ u ↔ v = [] ∨ root v = root u := by
  cases v with
  | nil => exact ⟨fun _ => .inl rfl, fun _ => by rw [List.append_nil, List.nil_append]⟩
  | cons x r =>
    have hv : 0 < (x :: r).length := Nat.zero_lt_succ _
    rw [comm_iff_rows hu hv]
    constructor
    · intro h
      exact .inr (root_of_rows hv hu fun k => (h k).symm)
    · intro h
      rcases h with h | h
      · cases h
      · intro k
        exact ((root_eq_iff hv hu).mp h k).symm
theorem comm_iff_far {u v : List Int} (hu : 0 < u.length) : u ++ v = v ++ u ↔ v = [] ∨ ∀ k, k < u.length + v.length → per u k = per v k := by
  cases v with
  | nil => exact ⟨fun _ => .inl rfl, fun _ => by rw [List.append_nil, List.nil_append]⟩
  | cons x r =>
    have hv : 0 < (x :: r).length := Nat.zero_lt_succ _
    rw [comm_iff_first hu hv]
    constructor
    · exact fun h => .inr h
    · intro h
      rcases h with h | h
      · cases h
      · exact h

/-! ### turning -/
def turn1 (w : List Int) : List Int := w.drop 1 ++ w.take 1
def turns : Nat → List Int → List Int
  | 0, w => w
  | n + 1, w => turns n (turn1 w)
theorem turn1_len (w : List Int) : (turn1 w).length = w.length := by
  unfold turn1
  rw [List.length_append, List.length_drop, List.length_take]
  omega
theorem turns_len : ∀ n w, (turns n w).length = w.length
  | 0, _ => rfl
  | n + 1, w => by
    show (turns n (turn1 w)).length = _
    rw [turns_len n, turn1_len]
theorem turns_succ : ∀ n w, turns (n + 1) w = turn1 (turns n w)
  | 0, _ => rfl
  | n + 1, w => by
    show turns (n + 1) (turn1 w) = turn1 (turns n (turn1 w))
    exact turns_succ n (turn1 w)
theorem turn1_get {w : List Int} (k : Nat) (hk : k < w.length) : (turn1 w)[k]? = w[(k + 1) % w.length]? := by
  unfold turn1
  by_cases h : k + 1 < w.length
  · rw [List.getElem?_append_left (by rw [List.length_drop]; omega), List.getElem?_drop, Nat.add_comm 1 k, Nat.mod_eq_of_lt h]
  · have e : k + 1 = w.length := by omega
    rw [List.getElem?_append_right (by rw [List.length_drop]; omega), List.length_drop, e, Nat.mod_self, show k - (w.length - 1) = 0 by omega, List.getElem?_take_of_lt (Nat.lt_succ_self 0)]
theorem turns_get : ∀ (n : Nat) (w : List Int) (k : Nat), k < w.length → (turns n w)[k]? = w[(k + n) % w.length]?
  | 0, w, k, hk => by
    rw [Nat.add_zero, Nat.mod_eq_of_lt hk]
    rfl
  | n + 1, w, k, hk => by
    rw [turns_succ, turn1_get k (by rw [turns_len]; exact hk), turns_len, turns_get n w _ (Nat.mod_lt _ (by omega))]
    congr 1
    rw [Nat.mod_add_mod]
    congr 1
    omega
/-- what the program makes of it -/
def rot (w : List Int) (p : Nat) : List Int := w.drop p ++ w.take p
theorem rot_turns {w : List Int} (h : 0 < w.length) (n : Nat) : rot w (n % w.length) = turns n w := by
  have hp : n % w.length < w.length := Nat.mod_lt n h
  apply List.ext_getElem?
  intro k
  by_cases hk : k < w.length
  · rw [turns_get n w k hk, ← Nat.add_mod_mod k n w.length]
    generalize n % w.length = p at hp
    unfold rot
    by_cases h1 : k + p < w.length
    · rw [List.getElem?_append_left (by rw [List.length_drop]; omega), List.getElem?_drop, Nat.add_comm p k, Nat.mod_eq_of_lt h1]
    · rw [List.getElem?_append_right (by rw [List.length_drop]; omega), List.length_drop, List.getElem?_take_of_lt (by omega)]
      rw [Nat.mod_eq_sub_mod (by omega), Nat.mod_eq_of_lt (by omega)]
      congr 1
      omega
  · rw [List.getElem?_eq_none (by unfold rot; rw [List.length_append, List.length_drop, List.length_take]; omega), List.getElem?_eq_none (by rw [turns_len]; omega)]

/-! ### pieces -/
def piece (row : List Int) (start many : Nat) : List Int := (List.range many).map fun k => per row (start + k)
theorem piece_far (row : List Int) (start many m : Nat) : piece row (start + row.length * m) many = piece row start many := by
  unfold piece
  refine List.map_congr_left fun k _ => ?_
  unfold per
  rw [show start + row.length * m + k = start + k + row.length * m by omega, Nat.add_mul_mod_self_left]

/-! ### the first place apart -/
def spots (u v : List Int) : List Nat := (List.range (min u.length v.length)).filter fun k => decide (u.getD k 0 ≠ v.getD k 0)
theorem spots_symm (u v : List Int) : spots u v = spots v u := by
  unfold spots
  rw [Nat.min_comm]
  refine List.filter_congr fun k _ => ?_
  exact decide_eq_decide.mpr ⟨fun h e => h e.symm, fun h e => h e.symm⟩
def firstApart (u v : List Int) : Option Nat := (spots u v).head?
theorem head_filter {p : Nat → Bool} : ∀ (n i : Nat), i < n → p i = true → (∀ j, j < i → p j = false) → ((List.range n).filter p).head? = some i
  | 0, i, h, _, _ => by omega
  | n + 1, i, h, hp, hl => by
    rw [List.range_succ, List.filter_append, List.head?_append]
    by_cases e : i < n
    · rw [head_filter n i e hp hl]
      rfl
    · have ei : i = n := by omega
      subst ei
      have e0 : (List.range i).filter p = [] := List.filter_eq_nil_iff.mpr fun j hj => by
        rw [hl j (List.mem_range.mp hj)]
        exact Bool.false_ne_true
      rw [e0, List.filter_cons_of_pos hp]
      rfl
theorem firstApart_some {u v : List Int} {i : Nat} (h : i < min u.length v.length) (e : u.getD i 0 ≠ v.getD i 0) (hl : ∀ j, j < i → u.getD j 0 = v.getD j 0) : firstApart u v = some i :=
  head_filter _ i h (decide_eq_true e) fun j hj => decide_eq_false fun z => z (hl j hj)
theorem firstApart_none {u v : List Int} (hl : ∀ j, j < min u.length v.length → u.getD j 0 = v.getD j 0) : firstApart u v = none := by
  unfold firstApart spots
  rw [List.filter_eq_nil_iff.mpr fun j hj => by
    rw [decide_eq_false fun z => z (hl j (List.mem_range.mp hj))]
    exact Bool.false_ne_true]
  rfl

/-! ### common roots -/
def full (us : List (List Int)) : List (List Int) := us.filter fun u => decide (0 < u.length)
def commonRoot (us : List (List Int)) : Option (List Int) := match full us with
  | [] => some []
  | u :: r => if (u :: r).all (fun v => decide (root v = root u)) = true then some (root u) else none
theorem full_append (us vs : List (List Int)) : full (us ++ vs) = full us ++ full vs := List.filter_append ..
theorem commonRoot_nil {us : List (List Int)} (h : full us = []) : commonRoot us = some [] := by
  unfold commonRoot
  rw [h]
theorem commonRoot_yes {us r : List (List Int)} {u : List Int} (h : full us = u :: r) (e : ∀ v ∈ u :: r, root v = root u) : commonRoot us = some (root u) := by
  unfold commonRoot
  rw [h]
  exact if_pos (List.all_eq_true.mpr fun v hv => decide_eq_true (e v hv))
theorem commonRoot_no {us r : List (List Int)} {u v : List Int} (h : full us = u :: r) (hv : v ∈ u :: r) (e : root v ≠ root u) : commonRoot us = none := by
  unfold commonRoot
  rw [h]
  exact if_neg fun z => e (of_decide_eq_true (List.all_eq_true.mp z v hv))
theorem mem_full {us : List (List Int)} {u : List Int} (h : u ∈ us) (h0 : 0 < u.length) : u ∈ full us := List.mem_filter.mpr ⟨h, decide_eq_true h0⟩
/-- a common root, told from one of the words -/
theorem common_told {us : List (List Int)} {one : List Int} (h : one ∈ us) (h0 : 0 < one.length) : commonRoot us = if (∀ v ∈ full us, root v = root one) then some (root one) else none := by
  have m := mem_full h h0
  cases hF : full us with
  | nil =>
    rw [hF] at m
    cases m
  | cons u r =>
    rw [hF] at m
    by_cases ha : ∀ v ∈ u :: r, root v = root one
    · rw [if_pos ha]
      have e : root u = root one := ha u (List.mem_cons_self ..)
      rw [commonRoot_yes hF fun v hv => (ha v hv).trans e.symm, e]
    · rw [if_neg ha]
      by_cases hu : root one = root u
      · have ⟨v, hv⟩ := Classical.not_forall.mp ha
        have ⟨hm, hn⟩ := Classical.not_imp.mp hv
        exact commonRoot_no hF hm fun z => hn (z.trans hu.symm)
      · exact commonRoot_no hF m hu
theorem piece_get {row : List Int} {st m k : Nat} (h : k < m) : (piece row st m)[k]? = some (per row (st + k)) := by
  unfold piece
  rw [List.getElem?_map, List.getElem?_range h]
  rfl
theorem piece_len (u : List Int) (st m : Nat) : (piece u st m).length = m := by
  unfold piece
  rw [List.length_map, List.length_range]
theorem piece_eq_iff {row v : List Int} {st : Nat} : piece row st v.length = v ↔ ∀ k, k < v.length → per row (st + k) = v.getD k 0 := by
  constructor
  · intro h k hk
    have e := piece_get (row := row) (st := st) hk
    rw [h] at e
    rw [List.getD_eq_getElem?_getD, e]
    rfl
  · intro h
    apply List.ext_getElem?
    intro k
    by_cases hk : k < v.length
    · rw [piece_get hk, h k hk, List.getD_eq_getElem?_getD, List.getElem?_eq_getElem hk]
      rfl
    · rw [List.getElem?_eq_none (by rw [piece_len]; omega), List.getElem?_eq_none (by omega)]
theorem rot_far {w : List Int} (h : 0 < w.length) (n m : Nat) : rot w ((n + w.length * m) % w.length) = turns n w := by
  rw [Nat.add_mul_mod_self_left]
  exact rot_turns h n
theorem rep_at {w : List Int} {m k : Nat} (h0 : 0 < w.length) (h : k < m * w.length) : (rep m w)[k]? = some (per w k) := by
  rw [rep_get w m k h]
  exact per_get w k h0
end KW


namespace G3
open PySem PySem.Spec PyProof.Rows L2 RZ
open PySem.Builtin.SmallTypes (nextOf ownedTupleIsFree ownedTupleHandOut)

def zO (f0 f1 : Value) (TI TO : Addr) : Obj := { cls := .type "zip", dict := none, data := .fields #[f0, f1, .bool false, .ref TI, .ref TO], slots := #[] }
def Own (f0 : Value) : Prop := f0 = Value.none ∨ ∃ a : Int, f0 = rawInt a
/-- a zip's record, whatever is told of its own pair -/
def IsZ (h : Heap) (z TI TO : Addr) : Prop := ∃ f0 f1, Own f0 ∧ h.get? z = some (zO f0 f1 TI TO)
section
variable {prog : Program} {w : World} {A : Around} {E : Value → Shared → Prop} {s : Shared}
theorem alive_ok {M : Model} {a : Addr} {Q : Option Obj → Shared → Prop} (h : Q (s.heap.get? a) s) : wpAny M A (loadIfAlive a) Q E s := fun Γ p hΓ => by
  unfold loadIfAlive
  rw [Sem.wp_loadIfAlive]
  exact wpAny_pure h Γ p hΓ
/-- is its own pair free? either answer -/
theorem free_ok {z TI TO : Addr} {f0 f1 : Value} {Q : Bool → Shared → Prop} (ho : Own f0) (hz : s.heap.get? z = some (zO f0 f1 TI TO)) (h1 : Q true s)
    (h2 : ∀ h' f1', h'.get? z = some (zO f0 f1' TI TO) → Heap.SameBut z s.heap h' → Q false { s with heap := h' }) :
    wpAny (model prog w) A (ownedTupleIsFree (.ref z)) Q E s := by
  unfold ownedTupleIsFree
  rcases ho with rfl | ⟨a, rfl⟩
  · exact wpAny_bind (wpAny_field hz rfl (x := .none) rfl (wpAny_pure h1))
  · refine wpAny_bind (wpAny_field hz rfl (x := rawInt a) rfl ?_)
    show wpAny _ _ (loadIfAlive a.toNat >>= _) _ _ _
    refine wpAny_bind (alive_ok ?_)
    cases hg : s.heap.get? a.toNat with
    | none =>
      exact wpAny_pure h1
    | some o =>
      simp only [Option.isNone_some, Bool.false_eq_true, if_false]
      refine wpAny_bind (wpAny_field hz rfl (x := f1) rfl ?_)
      by_cases hb : (f1 != Value.bool true) = true
      · rw [if_pos hb]
        refine wpAny_bind (wpAny_setField_rec hz (by simp) fun h' hz' hs => wpAny_pure ?_)
        exact h2 h' (.bool true) hz' hs
      · rw [if_neg hb]
        refine wpAny_pure ?_
        exact h2 s.heap f1 hz (Heap.SameBut.refl _ _)
/-- next of a zip of two tuples -/
theorem zn_item {z TI TO i1 i2 l1 l2 : Addr} {k1 k2 : Nat} {xs ys : Array Value} {x y a b : Value} {Q : Value → Shared → Prop} (D : ZipApart z TI TO i1 i2 l1 l2)
    (hz : IsZ s.heap z TI TO) (hTI : IsPair s.heap TI (.ref i1) (.ref i2)) (hTO : IsPair s.heap TO a b)
    (h1 : s.heap.IsTupleIter i1 l1 k1) (h2 : s.heap.IsTupleIter i2 l2 k2) (hl1 : s.heap.IsTuple l1 xs) (hl2 : s.heap.IsTuple l2 ys) (hx : xs[k1]? = some x) (hy : ys[k2]? = some y)
    (hQ : ∀ h', IsZ h' z TI TO → (∃ c d, IsPair h' TO c d) → h'.IsTupleIter i1 l1 (k1 + 1) → h'.IsTupleIter i2 l2 (k2 + 1) → IsPair h' s.heap.objs.size x y → h'.objs.size = s.heap.objs.size + 1 →
      (∀ c o, c ≠ z → c ≠ TO → c ≠ i1 → c ≠ i2 → s.heap.get? c = some o → h'.get? c = some o) → Q (.ref s.heap.objs.size) { s with heap := h' }) :
    wpAny (model prog w) A (nextOf (.ref z)) Q E s := by
  obtain ⟨f0, f1, ho, hz⟩ := hz
  have hT : s.TypeIs (.ref z) "zip" := ⟨_, hz, rfl⟩
  unfold nextOf
  refine wpAny_bind (wpAny_callSpecial?_slot (name := Str.ofString "__next__") hT F.slot_zip_next (wpAny_call_entry F.slot_zip_next hT F.entry_zip_next ?_ (F.args_zip_next_1 _)))
  show wpAny _ _ (field (.ref z) 2 >>= _) _ _ _
  refine wpAny_bind (wpAny_field hz rfl (x := .bool false) rfl ?_)
  show wpAny _ _ (field (.ref z) 3 >>= _) _ _ _
  refine wpAny_bind (wpAny_field hz rfl (x := .ref TI) rfl ?_)
  refine wpAny_bind (wpAny_seqItems hTI rfl ?_)
  show wpAny _ _ (ownedTupleIsFree (.ref z) >>= _) _ _ _
  refine wpAny_bind (free_ok ho hz ?_ fun h' f1' hz' hs => ?_)
  · simp only [if_true]
    refine wpAny_bind (wpAny_rule (wpAny_bind (wpAny_field hz rfl (x := .ref TO) rfl ?_)))
    refine wpAny_bind (wpAny_setField_rec hz (by simp) fun g1 z1 s1 => ?_)
    replace z1 : g1.get? z = some (zO .ellipsis f1 TI TO) := z1
    refine wpAny_bind ?_
    simp only [List.zipIdx_cons, List.zipIdx_nil, List.forIn_cons, List.forIn_nil]
    -- the first
    refine wpAny_bind (wpAny_bind (wpAny_onRaise ?_))
    show wpAny _ _ (nextOf (.ref i1) >>= fun v => pure (some v)) _ _ _
    refine wpAny_bind (nextOf_tuple_item (h1.extBut s1.extBut D.i1z) (hl1.extBut s1.extBut D.l1z) hx fun g2 j1 s2 => wpAny_pure ?_)
    have t2 : IsPair g2 TO a b := s2.extBut _ _ D.TOi1 (s1.extBut _ _ D.TOz hTO)
    refine wpAny_bind (wpAny_seqItems t2 rfl (wpAny_bind (wpAny_updateSeq_pair t2 fun g3 t3 s3 => wpAny_bind (wpAny_letGo (wpAny_pure ?_)))))
    replace t3 : IsPair g3 TO x b := t3
    -- the second
    refine wpAny_bind (wpAny_bind (wpAny_onRaise ?_))
    show wpAny _ _ (nextOf (.ref i2) >>= fun v => pure (some v)) _ _ _
    have k2' : g3.IsTupleIter i2 l2 k2 := ((h2.extBut s1.extBut D.i2z).extBut s2.extBut D.i12.symm).extBut s3.extBut D.TOi2.symm
    have q2' : g3.IsTuple l2 ys := ((hl2.extBut s1.extBut D.l2z).extBut s2.extBut D.l2i1).extBut s3.extBut D.l2TO
    refine wpAny_bind (nextOf_tuple_item k2' q2' hy fun g4 j2 s4 => wpAny_pure ?_)
    have t4 : IsPair g4 TO x b := s4.extBut _ _ D.TOi2 t3
    refine wpAny_bind (wpAny_seqItems t4 rfl (wpAny_bind (wpAny_updateSeq_pair t4 fun g5 t5 s5 => wpAny_bind (wpAny_letGo (wpAny_pure (wpAny_pure ?_))))))
    replace t5 : IsPair g5 TO x y := t5
    -- the pair handed out
    refine wpAny_bind (wpAny_seqItems t5 rfl (wpAny_bind (wpAny_newTuple ?_)))
    have z5 : g5.get? z = some (zO .ellipsis f1 TI TO) := s5.extBut _ _ D.TOz.symm (s4.extBut _ _ D.i2z.symm (s3.extBut _ _ D.TOz.symm (s2.extBut _ _ D.i1z.symm z1)))
    have e5 : g5.objs.size = s.heap.objs.size := by rw [s5.1, s4.1, s3.1, s2.1, s1.1]
    have k5 : ∀ c o, c ≠ z → c ≠ TO → c ≠ i1 → c ≠ i2 → s.heap.get? c = some o → g5.get? c = some o := fun c o c1 c2 c3 c4 e =>
      s5.extBut _ _ c2 (s4.extBut _ _ c4 (s3.extBut _ _ c2 (s2.extBut _ _ c3 (s1.extBut _ _ c1 e))))
    have a5 : g5.IsTupleIter i1 l1 (k1 + 1) := ((j1.extBut s3.extBut D.TOi1.symm).extBut s4.extBut D.i12).extBut s5.extBut D.TOi1.symm
    have b5 : g5.IsTupleIter i2 l2 (k2 + 1) := j2.extBut s5.extBut D.TOi2.symm
    show wpAny _ _ (ownedTupleHandOut (.ref z) (.ref g5.objs.size) >>= _) _ _ _
    refine wpAny_bind ?_
    unfold ownedTupleHandOut
    have z6 : (g5.push { cls := .type "tuple", data := .seq #[x, y] }).get? z = some (zO .ellipsis f1 TI TO) := Heap.get?_push_of_some _ z5
    refine wpAny_bind (wpAny_setField_rec z6 (by simp) fun g7 z7 s7 => ?_)
    replace z7 : g7.get? z = some (zO (rawInt g5.objs.size) f1 TI TO) := z7
    refine wpAny_setField_rec z7 (by simp) fun g8 z8 s8 => wpAny_pure ⟨_, rfl, wpAny_pure ?_⟩
    replace z8 : g8.get? z = some (zO (rawInt g5.objs.size) (.bool false) TI TO) := z8
    have up : ∀ c o, c ≠ z → g5.get? c = some o → g8.get? c = some o := fun c o c1 e => s8.extBut _ _ c1 (s7.extBut _ _ c1 (Heap.get?_push_of_some _ e))
    have zl : z < g5.objs.size := Heap.lt_size z5
    have t8 : IsPair g8 g5.objs.size x y := s8.extBut _ _ (Nat.ne_of_gt zl) (s7.extBut _ _ (Nat.ne_of_gt zl) (Heap.get?_push_size _ rfl))
    have e8 : g8.objs.size = g5.objs.size + 1 := by rw [s8.1, s7.1, Heap.size_push]
    rw [e5] at t8 e8
    show Q (.ref g5.objs.size) _
    rw [e5]
    exact hQ g8 ⟨_, _, .inr ⟨_, rfl⟩, z8⟩ ⟨x, y, up _ _ D.TOz t5⟩ (a5.at fun o e => up _ o D.i1z e) (b5.at fun o e => up _ o D.i2z e) t8 e8 fun c o c1 c2 c3 c4 e => up c o c1 (k5 c o c1 c2 c3 c4 e)
  · simp only [Bool.false_eq_true, if_false]
    refine wpAny_bind ?_
    rw [show (#[Value.ref i1, Value.ref i2] : Array Value) = [Value.ref i1, Value.ref i2].toArray from rfl]
    simp only [List.forIn_toArray, List.forIn_cons, List.forIn_nil]
    refine wpAny_bind (wpAny_bind (wpAny_holding ?_))
    show wpAny _ _ (nextOf (.ref i1) >>= fun v => pure (some v)) _ _ _
    refine wpAny_bind (nextOf_tuple_item (h1.extBut hs.extBut D.i1z) (hl1.extBut hs.extBut D.l1z) hx fun g2 j1 s2 => wpAny_pure (wpAny_pure ?_))
    refine wpAny_bind (wpAny_bind (wpAny_holding ?_))
    show wpAny _ _ (nextOf (.ref i2) >>= fun v => pure (some v)) _ _ _
    have k2' : g2.IsTupleIter i2 l2 k2 := (h2.extBut hs.extBut D.i2z).extBut s2.extBut D.i12.symm
    have q2' : g2.IsTuple l2 ys := (hl2.extBut hs.extBut D.l2z).extBut s2.extBut D.l2i1
    refine wpAny_bind (nextOf_tuple_item k2' q2' hy fun g4 j2 s4 => wpAny_pure (wpAny_pure (wpAny_pure ?_)))
    refine wpAny_bind (wpAny_newTuple ?_ (by show 2 ≤ sizeLine; decide))
    refine wpAny_pure ⟨_, rfl, wpAny_pure ?_⟩
    have e4 : g4.objs.size = s.heap.objs.size := by rw [s4.1, s2.1, hs.1]
    have z4 : g4.get? z = some (zO f0 f1' TI TO) := s4.extBut _ _ D.i2z.symm (s2.extBut _ _ D.i1z.symm hz')
    have up : ∀ c o, g4.get? c = some o → (g4.push { cls := .type "tuple", data := .seq #[x, y] }).get? c = some o := fun c o e => Heap.get?_push_of_some _ e
    have t8 : IsPair (g4.push { cls := .type "tuple", data := .seq #[x, y] }) g4.objs.size x y := Heap.get?_push_size _ rfl
    have e8 : (g4.push { cls := .type "tuple", data := .seq #[x, y] }).objs.size = g4.objs.size + 1 := Heap.size_push ..
    rw [e4] at t8 e8
    show Q (.ref g4.objs.size) _
    rw [e4]
    exact hQ _ ⟨_, _, ho, up _ _ z4⟩ ⟨a, b, up _ _ (s4.extBut _ _ D.TOi2 (s2.extBut _ _ D.TOi1 (hs.extBut _ _ D.TOz hTO)))⟩ ((j1.extBut s4.extBut D.i12).at fun o e => up _ o e) (j2.at fun o e => up _ o e) t8 e8
      fun c o c1 c2 c3 c4 e => up c o (s4.extBut _ _ c4 (s2.extBut _ _ c3 (hs.extBut _ _ c1 e)))
/-- .. at its end -/
theorem zn_end {z TI TO i1 i2 l1 l2 : Addr} {k1 k2 : Nat} {xs ys : Array Value} {a b : Value} {Q : Value → Shared → Prop} (hh : A.handled = none) (D : ZipApart z TI TO i1 i2 l1 l2)
    (hz : IsZ s.heap z TI TO) (hTI : IsPair s.heap TI (.ref i1) (.ref i2)) (hTO : IsPair s.heap TO a b)
    (h1 : s.heap.IsTupleIter i1 l1 k1) (h2 : s.heap.IsTupleIter i2 l2 k2) (hl1 : s.heap.IsTuple l1 xs) (hl2 : s.heap.IsTuple l2 ys) (hend : xs[k1]? = none ∨ ys[k2]? = none)
    (hE : ∀ h' e, (∀ c o, c ≠ z → c ≠ TO → c ≠ i1 → c ≠ i2 → s.heap.get? c = some o → h'.get? c = some o) → (∃ o, h'.get? e = some o ∧ o.cls = .type "StopIteration") → E (.ref e) { s with heap := h' }) :
    wpAny (model prog w) A (nextOf (.ref z)) Q E s := by
  obtain ⟨f0, f1, ho, hz⟩ := hz
  have hT : s.TypeIs (.ref z) "zip" := ⟨_, hz, rfl⟩
  unfold nextOf
  refine wpAny_bind (wpAny_callSpecial?_slot (name := Str.ofString "__next__") hT F.slot_zip_next (wpAny_call_entry F.slot_zip_next hT F.entry_zip_next ?_ (F.args_zip_next_1 _)))
  show wpAny _ _ (field (.ref z) 2 >>= _) _ _ _
  refine wpAny_bind (wpAny_field hz rfl (x := .bool false) rfl ?_)
  show wpAny _ _ (field (.ref z) 3 >>= _) _ _ _
  refine wpAny_bind (wpAny_field hz rfl (x := .ref TI) rfl ?_)
  refine wpAny_bind (wpAny_seqItems hTI rfl ?_)
  show wpAny _ _ (ownedTupleIsFree (.ref z) >>= _) _ _ _
  refine wpAny_bind (free_ok ho hz ?_ fun h' f1' hz' hs => ?_)
  · simp only [if_true]
    refine wpAny_bind (wpAny_rule (wpAny_bind (wpAny_field hz rfl (x := .ref TO) rfl ?_)))
    refine wpAny_bind (wpAny_setField_rec hz (by simp) fun g1 z1 s1 => ?_)
    replace z1 : g1.get? z = some (zO .ellipsis f1 TI TO) := z1
    refine wpAny_bind ?_
    simp only [List.zipIdx_cons, List.zipIdx_nil, List.forIn_cons, List.forIn_nil]
    refine wpAny_bind (wpAny_bind (wpAny_onRaise ?_))
    show wpAny _ _ (nextOf (.ref i1) >>= fun v => pure (some v)) _ _ _
    cases hx : xs[k1]? with
    | none =>
      refine wpAny_bind (nextOf_tuple_end hh (h1.extBut s1.extBut D.i1z) (hl1.extBut s1.extBut D.l1z) hx fun g2 e s2 he => ?_)
      obtain ⟨oe, oh, oc⟩ := he
      have z2 : g2.get? z = some (zO .ellipsis f1 TI TO) := s2 _ _ D.i1z.symm z1
      have ne : e ≠ z := fun q => by
        rw [q, z2] at oh
        cases oh
        simp [zO] at oc
      exact wpAny_setField_rec z2 (by simp) fun g3 _ s3 => hE g3 e (fun c o c1 _ c3 _ q => s3.extBut _ _ c1 (s2 _ _ c3 (s1.extBut _ _ c1 q))) ⟨oe, s3.extBut _ _ ne oh, oc⟩
    | some x =>
      have hy : ys[k2]? = none := by
        rcases hend with q | q
        · rw [hx] at q
          cases q
        · exact q
      refine wpAny_bind (nextOf_tuple_item (h1.extBut s1.extBut D.i1z) (hl1.extBut s1.extBut D.l1z) hx fun g2 j1 s2 => wpAny_pure ?_)
      have t2 : IsPair g2 TO a b := s2.extBut _ _ D.TOi1 (s1.extBut _ _ D.TOz hTO)
      refine wpAny_bind (wpAny_seqItems t2 rfl (wpAny_bind (wpAny_updateSeq_pair t2 fun g3 t3 s3 => wpAny_bind (wpAny_letGo (wpAny_pure ?_)))))
      refine wpAny_bind (wpAny_bind (wpAny_onRaise ?_))
      show wpAny _ _ (nextOf (.ref i2) >>= fun v => pure (some v)) _ _ _
      have k2' : g3.IsTupleIter i2 l2 k2 := ((h2.extBut s1.extBut D.i2z).extBut s2.extBut D.i12.symm).extBut s3.extBut D.TOi2.symm
      have q2' : g3.IsTuple l2 ys := ((hl2.extBut s1.extBut D.l2z).extBut s2.extBut D.l2i1).extBut s3.extBut D.l2TO
      refine wpAny_bind (nextOf_tuple_end hh k2' q2' hy fun g4 e s4 he => ?_)
      obtain ⟨oe, oh, oc⟩ := he
      have z4 : g4.get? z = some (zO .ellipsis f1 TI TO) := s4 _ _ D.i2z.symm (s3.extBut _ _ D.TOz.symm (s2.extBut _ _ D.i1z.symm z1))
      have ne : e ≠ z := fun q => by
        rw [q, z4] at oh
        cases oh
        simp [zO] at oc
      exact wpAny_setField_rec z4 (by simp) fun g5 _ s5 => hE g5 e (fun c o c1 c2 c3 c4 q => s5.extBut _ _ c1 (s4 _ _ c4 (s3.extBut _ _ c2 (s2.extBut _ _ c3 (s1.extBut _ _ c1 q))))) ⟨oe, s5.extBut _ _ ne oh, oc⟩
  · simp only [Bool.false_eq_true, if_false]
    refine wpAny_bind ?_
    rw [show (#[Value.ref i1, Value.ref i2] : Array Value) = [Value.ref i1, Value.ref i2].toArray from rfl]
    simp only [List.forIn_toArray, List.forIn_cons, List.forIn_nil]
    refine wpAny_bind (wpAny_bind (wpAny_holding ?_))
    show wpAny _ _ (nextOf (.ref i1) >>= fun v => pure (some v)) _ _ _
    cases hx : xs[k1]? with
    | none =>
      exact wpAny_bind (nextOf_tuple_end hh (h1.extBut hs.extBut D.i1z) (hl1.extBut hs.extBut D.l1z) hx fun g2 e s2 he => hE g2 e (fun c o c1 _ c3 _ q => s2 _ _ c3 (hs.extBut _ _ c1 q)) he)
    | some x =>
      have hy : ys[k2]? = none := by
        rcases hend with q | q
        · rw [hx] at q
          cases q
        · exact q
      refine wpAny_bind (nextOf_tuple_item (h1.extBut hs.extBut D.i1z) (hl1.extBut hs.extBut D.l1z) hx fun g2 j1 s2 => wpAny_pure (wpAny_pure ?_))
      refine wpAny_bind (wpAny_bind (wpAny_holding ?_))
      show wpAny _ _ (nextOf (.ref i2) >>= fun v => pure (some v)) _ _ _
      have k2' : g2.IsTupleIter i2 l2 k2 := (h2.extBut hs.extBut D.i2z).extBut s2.extBut D.i12.symm
      have q2' : g2.IsTuple l2 ys := (hl2.extBut hs.extBut D.l2z).extBut s2.extBut D.l2i1
      exact wpAny_bind (nextOf_tuple_end hh k2' q2' hy fun g4 e s4 he => hE g4 e (fun c o c1 _ c3 c4 q => s4 _ _ c4 (s2.extBut _ _ c3 (hs.extBut _ _ c1 q))) he)
/-- next of an enumerate over such a zip -/
theorem ez_item {e z TI TO i1 i2 l1 l2 : Addr} {k : Nat} {xs ys : Array Value} {x y a b old : Value} {Q : Option Value → Shared → Prop} (D : ZipApart z TI TO i1 i2 l1 l2) (ez : e ≠ z) (eT : e ≠ TO) (e1 : e ≠ i1) (e2 : e ≠ i2)
    (he : IsEnum s.heap e z k old) (hz : IsZ s.heap z TI TO) (hTI : IsPair s.heap TI (.ref i1) (.ref i2)) (hTO : IsPair s.heap TO a b)
    (h1 : s.heap.IsTupleIter i1 l1 k) (h2 : s.heap.IsTupleIter i2 l2 k) (hl1 : s.heap.IsTuple l1 xs) (hl2 : s.heap.IsTuple l2 ys) (hx : xs[k]? = some x) (hy : ys[k]? = some y)
    (hQ : ∀ g h', IsZ g z TI TO → (∃ c d, IsPair g TO c d) → g.IsTupleIter i1 l1 (k + 1) → g.IsTupleIter i2 l2 (k + 1) → IsPair g s.heap.objs.size x y → g.objs.size = s.heap.objs.size + 1 →
      (∀ c o, c ≠ z → c ≠ TO → c ≠ i1 → c ≠ i2 → s.heap.get? c = some o → g.get? c = some o) →
      IsEnumOut h' e z ((k : Int) + 1) (.ref s.heap.objs.size) g.objs.size → IsPair h' g.objs.size (.int k s.toks) (.ref s.heap.objs.size) → (∀ c o, c ≠ e → g.get? c = some o → h'.get? c = some o) →
      Q (some (.ref g.objs.size)) { s with heap := h', toks := s.toks + 1 }) :
    wpAny (model prog w) A (pyNext (.ref e)) Q E s := by
  have hT : s.TypeIs (.ref e) "enumerate" := ⟨_, he, rfl⟩
  unfold pyNext
  refine wpAny_bind (wpAny_attempt (wpAny_callSpecial?_slot (name := Str.ofString "__next__") hT F.slot_enumerate_next (wpAny_call_entry F.slot_enumerate_next hT F.entry_enumerate_next ?_ (F.args_enumerate_next_1 _))))
  show wpAny _ _ (field (.ref e) 2 >>= _) _ _ _
  refine wpAny_bind (wpAny_field he rfl (x := .ref z) rfl ?_)
  refine wpAny_bind (zn_item D hz hTI hTO h1 h2 hl1 hl2 hx hy fun g gz gT g1 g2 gp gs gk => ?_)
  generalize hP : s.heap.objs.size = P at gp gs hQ
  have m1 : IsEnum g e z k old := gk _ _ ez eT e1 e2 he
  show wpAny _ _ (field (.ref e) 3 >>= _) _ _ _
  refine wpAny_bind (wpAny_field m1 rfl (x := rawInt k) rfl ?_)
  show wpAny _ _ (field (.ref e) 4 >>= _) _ _ _
  refine wpAny_bind (wpAny_field m1 rfl (x := .none) rfl ?_)
  show wpAny _ _ (mkInt k >>= _) _ _ _
  refine wpAny_bind (wpAny_mkInt ?_)
  show wpAny _ _ (setField (.ref e) 3 (rawInt ((k : Int) + 1)) >>= _) _ _ _
  refine wpAny_bind (wpAny_setField_rec m1 (by simp) fun h3 m3 s3 => ?_)
  replace m3 : IsEnum h3 e z ((k : Int) + 1) old := m3
  show wpAny _ _ (setField (.ref e) 4 .none >>= _) _ _ _
  refine wpAny_bind (wpAny_setField_rec m3 (by simp) fun h4 m4 s4 => ?_)
  replace m4 : IsEnum h4 e z ((k : Int) + 1) old := m4
  have z4 : h4.objs.size = g.objs.size := by rw [s4.1, s3.1]
  show wpAny _ _ (newTuple [.int k s.toks, .ref P] >>= _) _ _ _
  refine wpAny_bind (wpAny_newTuple ?_)
  have m5 : IsEnum (h4.push { cls := .type "tuple", data := .seq #[.int k s.toks, .ref P] }) e z ((k : Int) + 1) old := Heap.get?_push_of_some _ m4
  have p5 : IsPair (h4.push { cls := .type "tuple", data := .seq #[.int k s.toks, .ref P] }) h4.objs.size (.int k s.toks) (.ref P) := Heap.get?_push_size _ rfl
  have up5 : ∀ c o, c ≠ e → g.get? c = some o → (h4.push { cls := .type "tuple", data := .seq #[.int k s.toks, .ref P] }).get? c = some o := fun c o ne q => Heap.get?_push_of_some _ (s4.extBut _ _ ne (s3.extBut _ _ ne q))
  have el : e < g.objs.size := Heap.lt_size m1
  show wpAny _ _ (ownedTupleIsFree (.ref e) >>= _) _ _ ⟨h4.push { cls := .type "tuple", data := .seq #[.int k s.toks, .ref P] }, s.gens, s.drawn, s.toks + 1, s.os⟩
  rw [z4] at p5
  show wpAny _ _ _ _ _ _
  generalize h4.push { cls := .type "tuple", data := .seq #[.int k s.toks, .ref P] } = h5 at m5 p5 up5
  refine wpAny_bind ?_
  unfold ownedTupleIsFree
  refine wpAny_bind (wpAny_field m5 rfl (x := .none) rfl (wpAny_pure ?_))
  simp only [if_true]
  refine wpAny_bind (wpAny_rule (wpAny_bind (wpAny_field m5 rfl (x := old) rfl ?_)))
  refine wpAny_bind (wpAny_setField_rec m5 (by simp) fun h6 m6 s6 => ?_)
  replace m6 : IsEnum h6 e z ((k : Int) + 1) (.ref P) := m6
  show wpAny _ _ (ownedTupleHandOut (.ref e) (.ref h4.objs.size) >>= _) _ _ _
  rw [z4]
  refine wpAny_bind ?_
  unfold ownedTupleHandOut
  refine wpAny_bind (wpAny_setField_rec m6 (by simp) fun h7 m7 s7 => ?_)
  replace m7 : IsEnumOut h7 e z ((k : Int) + 1) (.ref P) g.objs.size := m7
  refine wpAny_setField_rec m7 (by simp) fun h8 m8 s8 => wpAny_bind (wpAny_letGo (wpAny_pure ⟨_, rfl, ?_⟩))
  replace m8 : IsEnumOut h8 e z ((k : Int) + 1) (.ref P) g.objs.size := m8
  have up : ∀ c o, c ≠ e → h5.get? c = some o → h8.get? c = some o := fun c o ne q => s8.extBut _ _ ne (s7.extBut _ _ ne (s6.extBut _ _ ne q))
  exact wpAny_pure (hQ g h8 gz gT g1 g2 gp gs gk m8 (up _ _ (Nat.ne_of_gt el) p5) fun c o ne q => up c o ne (up5 c o ne q))
theorem ez_end {e z TI TO i1 i2 l1 l2 : Addr} {k : Nat} {xs ys : Array Value} {a b old : Value} {Q : Option Value → Shared → Prop} (hh : A.handled = none) (D : ZipApart z TI TO i1 i2 l1 l2)
    (he : IsEnum s.heap e z k old) (hz : IsZ s.heap z TI TO) (hTI : IsPair s.heap TI (.ref i1) (.ref i2)) (hTO : IsPair s.heap TO a b)
    (h1 : s.heap.IsTupleIter i1 l1 k) (h2 : s.heap.IsTupleIter i2 l2 k) (hl1 : s.heap.IsTuple l1 xs) (hl2 : s.heap.IsTuple l2 ys) (hend : xs[k]? = none ∨ ys[k]? = none)
    (hQ : ∀ h', (∀ c o, c ≠ z → c ≠ TO → c ≠ i1 → c ≠ i2 → s.heap.get? c = some o → h'.get? c = some o) → Q none { s with heap := h' }) :
    wpAny (model prog w) A (pyNext (.ref e)) Q E s := by
  have hT : s.TypeIs (.ref e) "enumerate" := ⟨_, he, rfl⟩
  unfold pyNext
  refine wpAny_bind (wpAny_attempt (wpAny_callSpecial?_slot (name := Str.ofString "__next__") hT F.slot_enumerate_next (wpAny_call_entry F.slot_enumerate_next hT F.entry_enumerate_next ?_ (F.args_enumerate_next_1 _))))
  show wpAny _ _ (field (.ref e) 2 >>= _) _ _ _
  refine wpAny_bind (wpAny_field he rfl (x := .ref z) rfl ?_)
  refine wpAny_bind (zn_end hh D hz hTI hTO h1 h2 hl1 hl2 hend fun h' x hk hx => ?_)
  obtain ⟨o, ho, hc⟩ := hx
  exact wpAny_bind (wpAny_isInstance (T := "StopIteration") (b := true) ⟨o, ho, hc⟩ isSubtype_stop (wpAny_pure (hQ _ hk)))
/-- enumerate(a zip) made -/
theorem ez_new (z TI TO : Addr) :
    Meets (Builtin.«enumerate.__new__» ⟨[.type "enumerate", .ref z], []⟩) (fun _ R s => IsZip s.heap z TI TO .none ∧
      R (.ok (.ret (.ref s.heap.objs.size))) { s with heap := s.heap.push { cls := .type "enumerate", data := .fields #[.none, .bool false, .ref z, rawInt 0, .none, .none] } }) :=
  .of_wp fun prog w A R s h => by
    obtain ⟨hp, g, d, tk, os⟩ := s
    obtain ⟨hz, h⟩ := h
    have hsub := sub_enumerate
    wp_walk using wpAny_pyIter_zip hz
    refine wpAny_stack_any fun st => wpAny_pure ?_
    split
    · rename_i c _ _ _ _ _
      cases (c == Value.type "enumerate")
      · wp_walk using wpAny_pyIter_zip hz
        exact ⟨_, rfl, h⟩
      · wp_walk using wpAny_pyIter_zip hz
        exact ⟨_, rfl, h⟩
    · wp_walk using wpAny_pyIter_zip hz
      exact ⟨_, rfl, h⟩
theorem ez_call {z TI TO : Addr} {Q : Value → Shared → Prop} (hz : IsZip s.heap z TI TO .none)
    (h : ∀ h', IsEnum h' s.heap.objs.size z 0 .none → (∀ c o, s.heap.get? c = some o → h'.get? c = some o) → Q (.ref s.heap.objs.size) { s with heap := h' }) :
    wpAny (model prog w) A (call (.type "enumerate") [.ref z]) Q E s := by
  refine callType_new F.called_enumerate (by decide) (F.typeCall_enumerate_1 _) (F.newCall_enumerate_1 _) (fun obj => F.args_object_init_2 obj _) F.entry_enumerate_new (ez_new z TI TO) ⟨hz, ?_⟩
  have hE : IsEnum (s.heap.push { cls := .type "enumerate", data := .fields #[.none, .bool false, .ref z, rawInt 0, .none, .none] }) s.heap.objs.size z 0 .none := Heap.get?_push_size _ rfl
  exact ⟨⟨_, hE, rfl⟩, h _ hE fun c o q => Heap.get?_push_of_some _ q⟩
end
/-- the tuples at a and b as they stand at each turn: the place, the items in a new pair, both in a new pair -/
def Itez (K : PySem.W.Frag) (a b : Addr) : It :=
  ⟨fun i H => ∃ (xs ys : List V) (x y : V), SqT K H a xs ∧ SqT K H b ys ∧ xs[i]? = some x ∧ ys[i]? = some y,
    fun i H v H' => ∃ T T2 x y, v = .ref T2 ∧ H T = none ∧ H T2 = none ∧ T ≠ T2 ∧ H' = upd (upd H T (.tup [x, y])) T2 (.tup [.int (i : Nat), .ref T]) ∧ (∀ xs, SqT K H a xs → xs[i]? = some x) ∧ ∀ ys, SqT K H b ys → ys[i]? = some y,
    fun i H => ∃ xs ys : List V, SqT K H a xs ∧ SqT K H b ys ∧ (xs.length ≤ i ∨ ys.length ≤ i)⟩
theorem turn_ez {P : Program} {w : World} {K : PySem.W.Frag} {elts : List Expr} {kk : Nat} {tpos : Pos} {a b e z TI TO i1 i2 : Addr} (D : ZipApart z TI TO i1 i2 a b) (ez : e ≠ z) (eTI : e ≠ TI) (eT : e ≠ TO) (e1 : e ≠ i1) (e2 : e ≠ i2) :
    Turn P w K (.Tuple elts kk tpos) (Itez K a b) [e, z, TI, TO, i1, i2] e (fun i h => (∃ old, IsEnum h e z ((i : Nat) : Int) old) ∧ IsZ h z TI TO ∧ IsPair h TI (.ref i1) (.ref i2) ∧ (∃ x y, IsPair h TO x y) ∧ h.IsTupleIter i1 a i ∧ h.IsTupleIter i2 b i) where
  mem := by simp
  obj := fun i h st c hc => by
    obtain ⟨⟨old, he⟩, ⟨f0, f1, _, hz⟩, hTI, ⟨x, y, hTO⟩, ⟨o1, p1, _, d1⟩, ⟨o2, p2, _, d2⟩⟩ := st
    have e' : c = e ∨ c = z ∨ c = TI ∨ c = TO ∨ c = i1 ∨ c = i2 := by simpa using hc
    rcases e' with q | q | q | q | q | q
    · rw [q]; exact ⟨_, he, fun v q => nomatch q⟩
    · rw [q]; exact ⟨_, hz, fun v q => nomatch q⟩
    · rw [q]; exact ⟨_, hTI, fun v q => nomatch q⟩
    · rw [q]; exact ⟨_, hTO, fun v q => nomatch q⟩
    · rw [q]; exact ⟨o1, p1, fun v q => by rw [d1] at q; cases q⟩
    · rw [q]; exact ⟨o2, p2, fun v q => by rw [d2] at q; cases q⟩
  keep := fun i h h' st k => by
    obtain ⟨⟨old, he⟩, ⟨f0, f1, ow, hz⟩, hTI, ⟨x, y, hTO⟩, h1, h2⟩ := st
    exact ⟨⟨old, k e (by simp) _ he⟩, ⟨f0, f1, ow, k z (by simp) _ hz⟩, k TI (by simp) _ hTI, ⟨x, y, k TO (by simp) _ hTO⟩, h1.at fun o q => k i1 (by simp) o q, h2.at fun o q => k i2 (by simp) o q⟩
  item := by
    intro X hP hw hK hc i pins s σ H E I hf st hg
    subst hP hw hK
    obtain ⟨⟨old, he⟩, hz, hTI, ⟨x0, y0, hTO⟩, h1, h2⟩ := st
    obtain ⟨xs, ys, x, y, hqx, hqy, hx, hy⟩ := hg
    obtain ⟨its, rv, p, _⟩ := I.tuple hqx
    obtain ⟨its2, rv2, p2, _⟩ := I.tuple hqy
    obtain ⟨u, hu, ru⟩ := rv.get hx
    obtain ⟨u2, hu2, ru2⟩ := rv2.get hy
    have el : e < s.heap.objs.size := Heap.lt_size he
    have hlt : ∀ c ∈ [e, z, TI, TO, i1, i2], c < s.heap.objs.size := fun c hcm => by
      have e' : c = e ∨ c = z ∨ c = TI ∨ c = TO ∨ c = i1 ∨ c = i2 := by simpa using hcm
      rcases e' with q | q | q | q | q | q
      · rw [q]; exact el
      · rw [q]; obtain ⟨_, _, _, q⟩ := hz; exact Heap.lt_size q
      · rw [q]; exact Heap.lt_size hTI
      · rw [q]; exact Heap.lt_size hTO
      · rw [q]; obtain ⟨_, q, _⟩ := h1; exact Heap.lt_size q
      · rw [q]; obtain ⟨_, q, _⟩ := h2; exact Heap.lt_size q
    refine ez_item D ez eT e1 e2 he hz hTI hTO h1 h2 p p2 (x := u) (y := u2) (by simpa using hu) (by simpa using hu2) fun g h' gz gT g1 g2 gp gs gk m8 p8 up => ?_
    refine ⟨_, rfl, wpAny_letOwnedTupleGo_enum (s := { s with heap := h', toks := s.toks + 1 }) m8 fun h'' m9 sb => ?_⟩
    have hn : H s.heap.objs.size = none := I.hok.fresh (Nat.le_refl _)
    have new1 : ObjOk X.prog X.w (upd H s.heap.objs.size (.tup [x, y])) g s.heap.objs.size (.tup [x, y]) := ⟨by show 2 ≤ sizeLine; decide, [u, u2], .cons ru (.cons ru2 .nil), ⟨_, gp, rfl, _, rfl⟩⟩
    have I1 : Inv X pins σ (upd H s.heap.objs.size (.tup [x, y])) { s with heap := g } :=
      I.turnedNew (t' := s.toks) (ch := [e, z, TI, TO, i1, i2]) (fun c o hb q => gk c o (fun r => hb (by simp [r])) (fun r => hb (by simp [r])) (fun r => hb (by simp [r])) (fun r => hb (by simp [r])) q) hf (Nat.le_refl _) new1
    have hn2 : upd H s.heap.objs.size (.tup [x, y]) g.objs.size = none := I1.hok.fresh (Nat.le_refl _)
    have keep2 : ∀ c o, c ≠ e → g.get? c = some o → h''.get? c = some o := fun c o ne q => (sb.2 c ne).trans (up c o ne q)
    have gne : g.objs.size ≠ e := Nat.ne_of_gt (Nat.lt_of_lt_of_le el (by rw [gs]; exact Nat.le_succ _))
    have hp9 : IsPair h'' g.objs.size (.int i s.toks) (.ref s.heap.objs.size) := (sb.2 _ gne).trans p8
    have new2 : ObjOk X.prog X.w (upd (upd H s.heap.objs.size (.tup [x, y])) g.objs.size (.tup [.int (i : Nat), .ref s.heap.objs.size])) h'' g.objs.size (.tup [.int (i : Nat), .ref s.heap.objs.size]) :=
      ⟨by show 2 ≤ sizeLine; decide, [.int i s.toks, .ref s.heap.objs.size], .cons ⟨_, rfl⟩ (.cons rfl .nil), ⟨_, hp9, rfl, _, rfl⟩⟩
    have hf1 : ∀ c ∈ [e], FpOk X pins (upd H s.heap.objs.size (.tup [x, y])) c := fun c hcm => by
      have q : c = e := by simpa using hcm
      subst q
      have f := hf c (by simp)
      refine ⟨?_, f.2⟩
      rw [upd_ne (Nat.ne_of_lt el)]
      exact f.1
    have I2 := I1.turnedNew (h' := h'') (t' := s.toks + 1) (ch := [e]) (fun c o hb q => keep2 c o (fun r => hb (by simp [r])) q) hf1 (Nat.le_refl _) new2
    refine ⟨.ref g.objs.size, _, I2, rfl, ⟨_, _, x, y, rfl, hn, ?_, ?_, rfl, fun l hl => by rw [I.tuple_inj hl hqx]; exact hx, fun l hl => by rw [I.tuple_inj hl hqy]; exact hy⟩, ⟨⟨.ref s.heap.objs.size, ?_⟩, ?_, ?_, ?_, ?_, ?_⟩, fun c hcm => ?_⟩
    · rw [upd_ne (show g.objs.size ≠ s.heap.objs.size from Nat.ne_of_gt (by rw [gs]; exact Nat.lt_succ_self _))] at hn2
      exact hn2
    · exact Nat.ne_of_lt (by rw [gs]; exact Nat.lt_succ_self _)
    · have q : ((i + 1 : Nat) : Int) = (i : Int) + 1 := by omega
      rw [q]
      exact m9
    · obtain ⟨f0, f1, ow, q⟩ := gz
      exact ⟨f0, f1, ow, keep2 _ _ ez.symm q⟩
    · exact keep2 _ _ eTI.symm (gk _ _ D.TIz D.TITO D.TIi1 D.TIi2 hTI)
    · obtain ⟨c, d, q⟩ := gT
      exact ⟨c, d, keep2 _ _ eT.symm q⟩
    · exact g1.at fun o q => keep2 _ o e1.symm q
    · exact g2.at fun o q => keep2 _ o e2.symm q
    · have l := hlt c hcm
      rw [upd_ne (show c ≠ g.objs.size from Nat.ne_of_lt (Nat.lt_of_lt_of_le l (by rw [gs]; exact Nat.le_succ _))), upd_ne (Nat.ne_of_lt l)]
      exact (hf c hcm).1
  done := by
    intro X hP hw hK hc i pins s σ H E I hf st hg
    subst hP hw hK
    obtain ⟨⟨old, he⟩, hz, hTI, ⟨x0, y0, hTO⟩, h1, h2⟩ := st
    obtain ⟨xs, ys, hqx, hqy, hend⟩ := hg
    obtain ⟨its, rv, p, _⟩ := I.tuple hqx
    obtain ⟨its2, rv2, p2, _⟩ := I.tuple hqy
    have l1 := rv.length
    have l2 := rv2.length
    have hq : its.toArray[i]? = none ∨ its2.toArray[i]? = none := by
      rcases hend with q | q
      · exact .inl (by simp; omega)
      · exact .inr (by simp; omega)
    exact ez_end (I.ok.hd hc) D he hz hTI hTO h1 h2 p p2 hq fun h' hk => ⟨rfl, I.turnedL (t' := s.toks) (ch := [e, z, TI, TO, i1, i2]) (fun c o hb q =>
      hk c o (fun r => hb (by simp [r])) (fun r => hb (by simp [r])) (fun r => hb (by simp [r])) (fun r => hb (by simp [r])) q) hf⟩
  self := fun A i s Q E st h => by
    obtain ⟨⟨_, he⟩, _⟩ := st
    exact wpAny_pyIter_enum he h
def iEz (K : PySem.W.Frag) (ta : TA) : TI := fun σ H R => ta σ H fun vs H1 => ∃ a b xs ys, vs = [.ref a, .ref b] ∧ SqT K H1 a xs ∧ SqT K H1 b ys ∧ R (Itez K a b) H1
/-- for .., .. in enumerate(zip(t, u)), t and u tuples -/
theorem pi_enumzip {X : Cx} {e e2 : Expr} {ta : TA} {p p2 pos pos2 tpos : Pos} {elts : List Expr} {kk : Nat} (hg : Gl X "enumerate") (hm : X.mg "enumerate" = none) (hg2 : Gl X "zip") (hm2 : X.mg "zip" = none) (ha : PA X [e, e2] ta)
    (hs : starEach [e, e2] X.env = (false, eval e X.env) :: starEach [e2] X.env := by rfl) (hpl : (backTo pos2 (starEach [e2] X.env)).any (·.1) = false := by rfl) :
    PI X (.Tuple elts kk tpos) (.Call (.Name "enumerate" p) [.Call (.Name "zip" p2) [e, e2] [] pos2] [] pos) (iEz X.K ta) := by
  refine ⟨fun pins s σ H R I h => ?_⟩
  refine Call_ (ld_blt I hg hm boot_enumerate (callWith_type1 ?_ rfl rfl))
  refine Calls.spliced_cons ?_
  refine Call_ (ld_blt I hg2 hm2 boot_zip (callWith_type1 (thn (ha.run pos2 pins s σ H _ I h) fun us s1 ⟨vs, H1, I1, r1, q1⟩ => ?_) hs hpl))
  obtain ⟨a, b, xs, ys, ex, hqx, hqy, q⟩ := q1
  subst ex
  cases r1 with
  | cons r rr =>
    cases rr with
    | cons r' rr =>
      cases rr
      cases r
      cases r'
      obtain ⟨its, rv, p1, _⟩ := I1.tuple hqx
      obtain ⟨its2, rv2, p2, _⟩ := I1.tuple hqy
      obtain ⟨o1, ho1, _⟩ := id p1
      obtain ⟨o2, ho2, _⟩ := id p2
      refine call_zipT (show s1.heap.IsTuple a its.toArray from p1) (show s1.heap.IsTuple b its2.toArray from p2) fun h' hz hTI hTO h1 h2 hsz hk => ?_
      refine Calls.spliced_nil ?_
      refine ez_call hz fun h2' hE hk2 => wpAny_pyIter_enum hE ?_
      have I2 : Inv X pins σ H1 { s1 with heap := h2' } := I1.kept (t' := s1.toks) fun c o q => hk2 c o (hk c o q)
      have far : ∀ n : Nat, n < 5 → h'.objs.size ≠ s1.heap.objs.size + n := fun n hn => Nat.ne_of_gt (by rw [hsz]; exact Nat.add_lt_add_left hn _)
      have D := PySem.W.ktu_apart s1.heap.objs.size a b (Heap.lt_size ho1) (Heap.lt_size ho2)
      refine ⟨h'.objs.size, [h'.objs.size, s1.heap.objs.size + 4, s1.heap.objs.size + 2, s1.heap.objs.size + 3, s1.heap.objs.size, s1.heap.objs.size + 1], _, _, H1, rfl, I2,
        turn_ez D (far 4 (by decide)) (far 2 (by decide)) (far 3 (by decide)) (far 0 (by decide)) (far 1 (by decide)), ⟨⟨.none, hE⟩, ⟨.none, .bool false, .inl rfl, hk2 _ _ hz⟩, hk2 _ _ hTI, ⟨_, _, hk2 _ _ hTO⟩, h1.at fun o q => hk2 _ o q, h2.at fun o q => hk2 _ o q⟩, fun c hcm => ?_, q⟩
      have hle : s1.heap.objs.size ≤ c := by
        have e' : c = h'.objs.size ∨ c = s1.heap.objs.size + 4 ∨ c = s1.heap.objs.size + 2 ∨ c = s1.heap.objs.size + 3 ∨ c = s1.heap.objs.size ∨ c = s1.heap.objs.size + 1 := by simpa using hcm
        rcases e' with z | z | z | z | z | z
        · rw [z, hsz]; exact Nat.le_add_right _ _
        · rw [z]; exact Nat.le_add_right _ _
        · rw [z]; exact Nat.le_add_right _ _
        · rw [z]; exact Nat.le_add_right _ _
        · rw [z]; exact Nat.le_refl _
        · rw [z]; exact Nat.le_add_right _ _
      exact I1.fpOk hle (I1.hok.fresh hle)
end G3


namespace G2
open PySem PySem.Spec PyProof.Rows L2
theorem tuple_mulS (l : Addr) (items : Array Value) (n : Nat) (dd : Option Addr) (sl : Array (Option Value)) (x : Int) (u : Tok) (c0 : (decide (x < -(2 ^ 63)) || decide (x ≥ 2 ^ 63)) = false) (c1 : (items.isEmpty || x == 1) = true) :
    Meets (Builtin.«tuple.__mul__» ⟨[.ref l, .int x u], []⟩) (fun _ R s => s.heap.get? l = some { cls := .type "tuple", dict := dd, data := .seq items n, slots := sl } ∧
      R (.ok (.ret (Value.ref l))) s) :=
  .of_wp fun prog w A R s h => by
    obtain ⟨hp, g, d, tk, os⟩ := s
    obtain ⟨hl, h⟩ := h
    have f1 := AutoSeq1.idx_int
    wp_walk using wpAny_loadPart' hl
    repeat (first
      | (refine wpAny_ite_false (decide_eq_false (by rw [c0]; exact Bool.false_ne_true)) ?_; wp_walk using wpAny_loadPart' hl)
      | (refine wpAny_ite_true (decide_eq_true c1) ?_; wp_walk using wpAny_loadPart' hl))
    exact ⟨_, rfl, h⟩
theorem tuple_mul0 (l : Addr) (items : Array Value) (n : Nat) (dd : Option Addr) (sl : Array (Option Value)) (x : Int) (u : Tok) (c0 : (decide (x < -(2 ^ 63)) || decide (x ≥ 2 ^ 63)) = false) (c1 : (items.isEmpty || x == 1) = false) (c2 : (decide (x ≤ 0) || items.isEmpty) = true) :
    Meets (Builtin.«tuple.__mul__» ⟨[.ref l, .int x u], []⟩) (fun _ R s => s.heap.get? l = some { cls := .type "tuple", dict := dd, data := .seq items n, slots := sl } ∧
      R (.ok (.ret (Value.ref s.heap.objs.size))) { s with heap := s.heap.push { cls := Value.type "tuple", data := Data.seq #[] }, toks := s.toks }) :=
  .of_wp fun prog w A R s h => by
    obtain ⟨hp, g, d, tk, os⟩ := s
    obtain ⟨hl, h⟩ := h
    have f1 := AutoSeq1.idx_int
    wp_walk using wpAny_loadPart' hl
    repeat (first
      | (refine wpAny_ite_false (decide_eq_false (by rw [c0]; exact Bool.false_ne_true)) ?_; wp_walk using wpAny_loadPart' hl)
      | (refine wpAny_ite_false (decide_eq_false (by rw [c1]; exact Bool.false_ne_true)) ?_; wp_walk using wpAny_loadPart' hl)
      | (refine wpAny_ite_true (decide_eq_true c2) ?_; wp_walk using wpAny_loadPart' hl))
    exact ⟨_, rfl, h⟩
section
variable {X : Cx} {C : Addr} {bmB : List Value} {B newId initId : String}
/-- X(), X an own exception class without own __init__ -/
theorem pmk_own0 {x : Str} {p pos : Pos} (F : ExcBaseFacts B newId initId bmB) (q : PySem.W.excIn X.K C bmB newId = true) (gC : X.mg x = some (.ref C)) (kC : PySem.W.keepIn X.K (.ref C) = true) (r : Raises X (.ref C)) (hg : Gl X x)
    (hdb : (x == ("__debug__" : Str)) = false := by decide) : PMk X (.Call (.Name x p) [] [] pos) (fun _ H Q => Q (.ref C) none H) := by
  intro pins s σ H Q I h
  refine wpAny_Call_Name_kw (ld_glob I hg gC ?_ hdb)
  refine PySem.W.callWith_K0 I.kIn kC ?_
  show wpAny _ _ (call (.ref C) []) _ _ _
  obtain ⟨bm, N, nm, qn, bs, hdct, sn, sub, ab, col, dd, k0, k1, k2, k3, k5, mN, hC, hN, hni, T⟩ := exc_obj I.kIn q
  refine wpAny_call_exc_subT F T hC hN hni (fun h' e hm => ?_) (by show 0 ≤ sizeLine; exact Nat.zero_le _)
  exact mk_of I hm r h (I.hok.gone hm.new)
end
/-- tuple * int, whatever the int from 0 to 1000 and the tuple (short) -/
def rRepA : R2 := fun x y H Q => ∃ (l : Addr) (k : Int) (xs : List V), x = .ref l ∧ y = .int k ∧ H l = some (.tup xs) ∧ 0 ≤ k ∧ k ≤ 1000 ∧ xs.length ≤ 1000 ∧
  ∀ p H', Same H H' → H' p = some (.tup (KW.rep k.toNat xs)) → Q (.ref p) H'
theorem same_new {H : Hp} {p : Addr} {o : HO} (h : H p = none) : Same H (upd H p o) := fun b x e => by
  rw [upd_ne (ne_of_none e h)]
  exact e
section
variable {X : Cx}
theorem op_repA : OpR X (binaryOp .Mult) rRepA := by
  intro pins s σ H x y v u Q I rx ry h
  obtain ⟨l, k, xs, rfl, rfl, hT, h0, h1, hz, q⟩ := h
  by_cases h2 : xs ≠ [] ∧ 2 ≤ k
  · exact op_repT pins s σ H _ _ v u Q I rx ry ⟨l, k, xs, rfl, rfl, SqT.of hT, h2.1, h2.2, h1, hz, fun p np => q p _ (same_new np) upd_same⟩
  · cases rx
    obtain ⟨t, rfl⟩ := ry
    obtain ⟨its, r, ⟨⟨cls, dd, data, sl⟩, ho, hc, n, hd⟩, hs⟩ := I.tuple (SqT.of hT)
    simp only at hc hd
    subst hc hd
    have c0 : (decide (k < -(2 ^ 63)) || decide (k ≥ 2 ^ 63)) = false := by
      rw [decide_eq_false (by omega), decide_eq_false (by omega)] <;> rfl
    have hem : its.toArray.isEmpty = xs.isEmpty := by
      have e := isEmpty_of r
      simpa using e
    by_cases c1 : (its.toArray.isEmpty || k == 1) = true
    · refine wpAny_binaryOp_repeat_ref (T := "tuple") (U := "int") (by decide) ⟨_, ho, rfl⟩ (fun s' => typeIs_int s' k t) noFill_tuple_mul F.fills_int_mul F.slot_int_rmul repeat_tuple F.slot_int_index.lookup
        (call_meets F.slot_int_rmul (typeIs_int s k t) F.entry_int_rmul (F.args_int_rmul_2 _ _) (int_rmul_tuple k t l its.toArray n dd sl)
          ⟨ho, rfl, ⟨_, ho, rfl⟩, call_meets F.slot_tuple_mul ⟨_, ho, rfl⟩ F.entry_tuple_mul (F.args_tuple_mul_2 _ _) (tuple_mulS l its.toArray n dd sl k t c0 c1) ⟨ho, ?_⟩⟩)
      refine ⟨.ref l, H, I, rfl, q l H (Same.refl H) ?_⟩
      rw [hT]
      rw [hem, Bool.or_eq_true] at c1
      rcases c1 with e | e
      · have e' : xs = [] := List.isEmpty_iff.mp e
        rw [e', KW.rep_nil]
      · have e' : k = 1 := by simpa using e
        rw [e']
        show _ = some (HO.tup (KW.rep 1 xs))
        rw [KW.rep_one]
    · have c1' := Bool.eq_false_iff.mpr c1
      have hk : k ≤ 0 := by
        rw [hem, Bool.or_eq_false_iff] at c1'
        have a1 : xs ≠ [] := fun z => by
          rw [z] at c1'
          exact absurd c1'.1 (by decide)
        have a2 : ¬ 2 ≤ k := fun z => h2 ⟨a1, z⟩
        have a3 : k ≠ 1 := by simpa using c1'.2
        omega
      have c2 : (decide (k ≤ 0) || its.toArray.isEmpty) = true := by
        rw [decide_eq_true hk]
        rfl
      refine wpAny_binaryOp_repeat_ref (T := "tuple") (U := "int") (by decide) ⟨_, ho, rfl⟩ (fun s' => typeIs_int s' k t) noFill_tuple_mul F.fills_int_mul F.slot_int_rmul repeat_tuple F.slot_int_index.lookup
        (call_meets F.slot_int_rmul (typeIs_int s k t) F.entry_int_rmul (F.args_int_rmul_2 _ _) (int_rmul_tuple k t l its.toArray n dd sl)
          ⟨ho, rfl, ⟨_, ho, rfl⟩, call_meets F.slot_tuple_mul ⟨_, ho, rfl⟩ F.entry_tuple_mul (F.args_tuple_mul_2 _ _) (tuple_mul0 l its.toArray n dd sl k t c0 c1' c2) ⟨ho, ?_⟩⟩)
      have np := I.hok.fresh (Nat.le_refl s.heap.objs.size)
      refine ⟨.ref s.heap.objs.size, _, I.laid (t' := s.toks) (o := .tup []) (fun b ob q => Heap.get?_push_of_some _ q) (Nat.le_refl _) ⟨Nat.zero_le _, [], .nil, IsTup.new _ _⟩, rfl, q _ _ (same_new np) ?_⟩
      rw [upd_same, show k.toNat = 0 by omega, KW.rep_zero]
end
/-! ### walks of two tuples -/
section
variable {K : PySem.W.Frag} {a b : Addr} {xs ys : List V}
theorem walk_zipT {n : Nat} (hn : n = min xs.length ys.length) : Walk (RZ.ItzT K a b) n (fun H => SqT K H a xs ∧ SqT K H b ys) (YPair (fun i => xs[i]?) (fun i => ys[i]?)) := by
  subst hn
  refine ⟨fun i _ hi q => ?_, fun _ q => ⟨xs, ys, q.1, q.2, by omega⟩, fun i H v H' _ q y => ?_⟩
  · have h1 : i < xs.length := by omega
    have h2 : i < ys.length := by omega
    exact ⟨xs, ys, xs[i], ys[i], q.1, q.2, by simp [h1], by simp [h2]⟩
  · obtain ⟨T, x, z, e1, e2, e3, e4, e5⟩ := y
    exact ⟨T, x, z, e1, e2, e3, e4 xs q.1, e5 ys q.2⟩
def YEz (xs ys : List V) : Nat → Hp → V → Hp → Prop := fun i H v H' => ∃ T T2 x y, v = .ref T2 ∧ H T = none ∧ H T2 = none ∧ T ≠ T2 ∧ H' = upd (upd H T (.tup [x, y])) T2 (.tup [.int (i : Nat), .ref T]) ∧ xs[i]? = some x ∧ ys[i]? = some y
theorem walk_ez {n : Nat} (hn : n = min xs.length ys.length) : Walk (G3.Itez K a b) n (fun H => SqT K H a xs ∧ SqT K H b ys) (YEz xs ys) := by
  subst hn
  refine ⟨fun i _ hi q => ?_, fun _ q => ⟨xs, ys, q.1, q.2, by omega⟩, fun i H v H' _ q y => ?_⟩
  · have h1 : i < xs.length := by omega
    have h2 : i < ys.length := by omega
    exact ⟨xs, ys, xs[i], ys[i], q.1, q.2, by simp [h1], by simp [h2]⟩
  · obtain ⟨T, T2, x, z, e1, e2, e3, e4, e5, e6, e7⟩ := y
    exact ⟨T, T2, x, z, e1, e2, e3, e4, e5, e6 xs q.1, e7 ys q.2⟩
end
/-! ### the rules whose reading names the written part: that part as a letter (a comprehension's block wants it so) -/
section
variable {X : Cx} {K : PySem.W.Frag}
def rLenK (K : PySem.W.Frag) : List V → Hp → VK → Prop := fun xs H Q => ∃ p ys, xs = [.ref p] ∧ (SqL K H p ys ∨ SqT K H p ys) ∧ Q (.int ys.length) H
theorem len_k (h : X.K = K) : CallR X (.builtin "len") (rLenK K) := by
  subst h
  exact call_len_seq
def rTupK (K : PySem.W.Frag) : List V → Hp → VK → Prop := fun xs H Q => ∃ p ys, xs = [.ref p] ∧ ((SqL K H p ys ∧ ∀ l, H l = none → Q (.ref l) (upd H l (.tup ys))) ∨ (SqT K H p ys ∧ Q (.ref p) H))
theorem tup_k (h : X.K = K) : CallR X (.type "tuple") (rTupK K) := by
  subst h
  exact call_tuple_of
def rListK (K : PySem.W.Frag) : List V → Hp → VK → Prop := fun xs H Q => ∃ p ys, xs = [.ref p] ∧ (SqL K H p ys ∨ SqT K H p ys) ∧ ∀ l, H l = none → Q (.ref l) (upd H l (.lst ys))
theorem list_k (h : X.K = K) : CallR X (.type "list") (rListK K) := by
  subst h
  exact call_list_of
theorem all_k (h : X.K = K) (hc : X.calm = true) : CallR X (.builtin "all") (rAll K) := by
  subst h
  exact cr_all hc
theorem isi_k (h : X.K = K) : CallR X (.builtin "isinstance") (rIsi K) := by
  subst h
  exact call_isi
theorem isiT_k (h : X.K = K) : CallR X (.builtin "isinstance") (rIsiT K) := by
  subst h
  exact call_isiT
theorem ixT_k (h : X.K = K) : IxR X (rIxT K) := by
  subst h
  exact ix_tup
theorem ixL_k (h : X.K = K) : IxR X (rIxL K) := by
  subst h
  exact ix_list
theorem slT_k (h : X.K = K) : SlR X (rSlA K) := by
  subst h
  exact sl_tupA
theorem slL_k (h : X.K = K) : SlR X (rSlL K) := by
  subst h
  exact sl_list
theorem cat_k (h : X.K = K) : OpR X (binaryOp .Add) (rCatA K) := by
  subst h
  exact op_catA
theorem eqD_k (h : X.K = K) (hu : X.A.units + 64 < cLine) : OpR X (compareOp .Eq) (rEqD K) := by
  subst h
  exact op_eqD hu
theorem neD_k (h : X.K = K) (hu : X.A.units + 64 < cLine) : OpR X (compareOp .NotEq) (rNeD K) := by
  subst h
  exact op_neD hu
theorem pgTup_k {es : List Expr} {k : Nat} {t : TGs} {n : Nat} {pos : Pos} (h : X.K = K) (hc : X.calm = true) (ht : PGs X es t)
    (hn : (assignEach es X.env).length = n := by rfl) (hst : (assignEach es X.env).findIdx? (·.1) = none := by rfl) : PG X (.Tuple es k pos) (gTup K n t) := by
  subst h
  exact pg_tup hc ht hn hst
end
end G2


namespace K2
open PySem PySem.Spec PyProof.Rows L2 G2 G3 KW RZ
def topS (i : Nat) : Stmt := PySem.Challenge.pw_unwound_k02_whole_words_and_their_roots.main.body.getD i (.Pass ⟨0, 0, 0, 0⟩)
/-- a def of the top, as it stands -/
structure At (K : PySem.W.Frag) (mg : Str → Option Value) (x : Str) (st : Stmt) (ps : List Str) where
  f : Addr
  fd : FuncData
  F : Fun K x x st f fd
  b : Binds K fd ps []
  mg : mg x = some (.ref f)
abbrev s_word_power : Stmt := topS 4
theorem sc_word_power : FnScope ["word", "many"] ["word", "many"] (defScope s_word_power) := ⟨rfl, rfl, rfl, by decide +kernel, rfl, by decide +kernel, by decide +kernel⟩
-- slots: 0 word, 1 many
abbrev s_root_of : Stmt := topS 5
theorem sc_root_of : FnScope ["word", "length", "times"] ["word"] (defScope s_root_of) := ⟨rfl, rfl, rfl, by decide +kernel, rfl, by decide +kernel, by decide +kernel⟩
-- slots: 0 word, 1 length, 2 times
abbrev s_commute : Stmt := topS 6
theorem sc_commute : FnScope ["word", "other"] ["word", "other"] (defScope s_commute) := ⟨rfl, rfl, rfl, by decide +kernel, rfl, by decide +kernel, by decide +kernel⟩
-- slots: 0 word, 1 other
abbrev s_common_root : Stmt := topS 7
theorem sc_common_root : FnScope ["words", "word", "left", "root"] ["words"] (defScope s_common_root) := ⟨rfl, rfl, rfl, by decide +kernel, rfl, by decide +kernel, by decide +kernel⟩
-- slots: 0 words, 1 word, 2 left, 3 root
abbrev s_turned : Stmt := topS 8
theorem sc_turned : FnScope ["word", "many", "place"] ["word", "many"] (defScope s_turned) := ⟨rfl, rfl, rfl, by decide +kernel, rfl, by decide +kernel, by decide +kernel⟩
-- slots: 0 word, 1 many, 2 place
abbrev s_piece_of : Stmt := topS 9
theorem sc_piece_of : FnScope ["row", "start", "many", "k"] ["row", "start", "many"] (defScope s_piece_of) := ⟨rfl, rfl, rfl, by decide +kernel, rfl, by decide +kernel, by decide +kernel⟩
-- slots: 0 row, 1 start, 2 many, 3 k
abbrev s_is_piece : Stmt := topS 10
theorem sc_is_piece : FnScope ["row", "start", "word"] ["row", "start", "word"] (defScope s_is_piece) := ⟨rfl, rfl, rfl, by decide +kernel, rfl, by decide +kernel, by decide +kernel⟩
-- slots: 0 row, 1 start, 2 word
abbrev s_first_apart : Stmt := topS 11
theorem sc_first_apart : FnScope ["word", "other", "place", "pair"] ["word", "other"] (defScope s_first_apart) := ⟨rfl, rfl, rfl, by decide +kernel, rfl, by decide +kernel, by decide +kernel⟩
-- slots: 0 word, 1 other, 2 place, 3 pair
abbrev s_law_box : Stmt := topS 13
theorem sc_law_box : FnScope ["_law_script", "_law_k", "_law_cell"] ["_law_script", "_law_k"] (defScope s_law_box) := ⟨rfl, rfl, rfl, by decide +kernel, rfl, by decide +kernel, by decide +kernel⟩
-- slots: 0 _law_script, 1 _law_k, 2 _law_cell
abbrev s_law_take : Stmt := topS 14
theorem sc_law_take : FnScope ["_law_urn", "_law_low_so", "_law_drawn", "_law_once", "_law_far", "_law_twice"] ["_law_urn", "_law_low_so"] (defScope s_law_take) := ⟨rfl, rfl, rfl, by decide +kernel, rfl, by decide +kernel, by decide +kernel⟩
-- slots: 0 _law_urn, 1 _law_low_so, 2 _law_drawn, 3 _law_once, 4 _law_far, 5 _law_twice
abbrev s_law_cells : Stmt := topS 15
theorem sc_law_cells : FnScope ["_law_script", "_law_top", "_law_cells_here", "_law_k", "_law_cell", "_law_at_so"] ["_law_script", "_law_top"] (defScope s_law_cells) := ⟨rfl, rfl, rfl, by decide +kernel, rfl, by decide +kernel, by decide +kernel⟩
-- slots: 0 _law_script, 1 _law_top, 2 _law_cells_here, 3 _law_k, 4 _law_cell, 5 _law_at_so
abbrev s_law_same : Stmt := topS 16
theorem sc_law_same : FnScope ["_law_got", "_law_goal", "_law_mine_so", "_law_own"] ["_law_got", "_law_goal"] (defScope s_law_same) := ⟨rfl, rfl, rfl, by decide +kernel, rfl, by decide +kernel, by decide +kernel⟩
-- slots: 0 _law_got, 1 _law_goal, 2 _law_mine_so, 3 _law_own
abbrev s_law_word : Stmt := topS 17
theorem sc_law_word : FnScope ["_law_urn", "_law_most", "_law_kinds_so", "_law_k"] ["_law_urn", "_law_most", "_law_kinds_so"] (defScope s_law_word) := ⟨rfl, rfl, rfl, by decide +kernel, rfl, by decide +kernel, by decide +kernel⟩
-- slots: 0 _law_urn, 1 _law_most, 2 _law_kinds_so, 3 _law_k
abbrev s_law_root : Stmt := topS 18
theorem sc_law_root : FnScope ["_law_word_here", "_law_size", "_law_k"] ["_law_word_here"] (defScope s_law_root) := ⟨rfl, rfl, rfl, by decide +kernel, rfl, by decide +kernel, by decide +kernel⟩
-- slots: 0 _law_word_here, 1 _law_size, 2 _law_k
abbrev s_law_common : Stmt := topS 19
theorem sc_law_common : FnScope ["_law_words_so"] ["_law_words_so"] (defScope s_law_common) := ⟨rfl, rfl, rfl, by decide +kernel, rfl, by decide +kernel, by decide +kernel⟩
-- slots: 0 _law_words_so
abbrev s_law_right : Stmt := topS 20
theorem sc_law_right : FnScope ["_law_urn", "_law_base", "_law_one", "_law_other", "_law_third", "_law_root_here", "_law_many", "_law_heard", "_law_due", "_law_own", "_law_like", "_law_far", "_law_k", "_law_rows_so", "_law_spot", "_law_full", "_law_alike", "_law_start", "_law_turn", "_law_piece"] ["_law_urn"] (defScope s_law_right) := ⟨rfl, rfl, rfl, by decide +kernel, rfl, by decide +kernel, by decide +kernel⟩
-- slots: 0 _law_urn, 1 _law_base, 2 _law_one, 3 _law_other, 4 _law_third, 5 _law_root_here, 6 _law_many, 7 _law_heard, 8 _law_due, 9 _law_own, 10 _law_like, 11 _law_far, 12 _law_k, 13 _law_rows_so, 14 _law_spot, 15 _law_full, 16 _law_alike, 17 _law_start, 18 _law_turn, 19 _law_piece
abbrev s_law_by_hand_right : Stmt := topS 21
theorem sc_law_by_hand_right : FnScope ["_law_heard"] [] (defScope s_law_by_hand_right) := ⟨rfl, rfl, rfl, by decide +kernel, rfl, by decide +kernel, by decide +kernel⟩
-- slots: 0 _law_heard
abbrev s_law : Stmt := topS 22
theorem sc_law : FnScope ["_law_script", "_law_cells_so", "_law_k"] ["_law_script"] (defScope s_law) := ⟨rfl, rfl, rfl, by decide +kernel, rfl, by decide +kernel, by decide +kernel⟩
-- slots: 0 _law_script, 1 _law_cells_so, 2 _law_k
/-- what the top has left -/
structure Top (K : PySem.W.Frag) (mg : Str → Option Value) where
  m_tuple : mg "tuple" = none
  m_len : mg "len" = none
  m_range : mg "range" = none
  m_enumerate : mg "enumerate" = none
  m_zip : mg "zip" = none
  m_abs : mg "abs" = none
  m_int : mg "int" = none
  m_list : mg "list" = none
  m_isinstance : mg "isinstance" = none
  m_all : mg "all" = none
  m_bool : mg "bool" = none
  m_str : mg "str" = none
  m_min : mg "min" = none
  d_word_power : At K mg "word_power" s_word_power ["word", "many"]
  d_root_of : At K mg "root_of" s_root_of ["word"]
  d_commute : At K mg "commute" s_commute ["word", "other"]
  d_common_root : At K mg "common_root" s_common_root ["words"]
  d_turned : At K mg "turned" s_turned ["word", "many"]
  d_piece_of : At K mg "piece_of" s_piece_of ["row", "start", "many"]
  d_is_piece : At K mg "is_piece" s_is_piece ["row", "start", "word"]
  d_first_apart : At K mg "first_apart" s_first_apart ["word", "other"]
  d_law_box : At K mg "_law_box" s_law_box ["_law_script", "_law_k"]
  d_law_take : At K mg "_law_take" s_law_take ["_law_urn", "_law_low_so"]
  d_law_cells : At K mg "_law_cells" s_law_cells ["_law_script", "_law_top"]
  d_law_same : At K mg "_law_same" s_law_same ["_law_got", "_law_goal"]
  d_law_word : At K mg "_law_word" s_law_word ["_law_urn", "_law_most", "_law_kinds_so"]
  d_law_root : At K mg "_law_root" s_law_root ["_law_word_here"]
  d_law_common : At K mg "_law_common" s_law_common ["_law_words_so"]
  d_law_right : At K mg "_law_right" s_law_right ["_law_urn"]
  d_law_by_hand_right : At K mg "_law_by_hand_right" s_law_by_hand_right []

/-! ### the error's own facts -/
structure Err (K : PySem.W.Frag) (mg : Str → Option Value) where
  C : Addr
  gC : mg "CanNot" = some (.ref C)
  xC : PySem.W.excIn K C [.type "ValueError", .type "Exception", .type "BaseException", .type "object"] "ValueError.__new__" = true
  kC : PySem.W.keepIn K (.ref C) = true
  bC : PySem.W.subIn K (.ref C) (.type "BaseException") = some true
  tC : PySem.W.typeIn K (.ref C) = some (.type "type")
  eC : PySem.W.exmOne K (.ref C) (.ref C) = some true
/-! ### words in the heap -/
abbrev W (ws : List Int) : HO := .tup (ws.map V.int)
theorem hu64 {k : Nat} {A : Around} (hr : Room k A) : A.units + 64 < cLine := hr.units
theorem small {n : Nat} (h : n ≤ 1000) : n ≤ sizeLine := Nat.le_of_lt (small1000 h)
def dW (ws : List Int) : PyData := .tuple (ws.map PyData.int)
section
variable {K : PySem.W.Frag} {H : Hp} {a b : Addr} {u v ws : List Int} {Q : VK}
theorem dp_ints : ∀ ws : List Int, DpAll K H (ws.map V.int) (ws.map PyData.int)
  | [] => .nil
  | x :: r => .cons (.int x) (dp_ints r)
theorem dp_word (h : H a = some (W ws)) : Dp K H (.ref a) (dW ws) := .tup (SqT.of h) (dp_ints ws)
theorem lay_ints : ∀ ws : List Int, PyData.canLayAll0 (ws.map PyData.int) = true
  | [] => by simp [PyData.canLayAll0]
  | x :: r => by simp [PyData.canLayAll0, PyData.canLay0, lay_ints r]
theorem deep_ints : ∀ ws : List Int, PyData.depthAll (ws.map PyData.int) = 0
  | [] => by simp [PyData.depthAll]
  | x :: r => by simp [PyData.depthAll, PyData.depth, deep_ints r]
theorem shaped_word (ws : List Int) : SeqAt.shaped (dW ws) = true := by
  unfold SeqAt.shaped dW
  rw [PyData.canLay0, lay_ints, PyData.depth, deep_ints]
  rfl
theorem eqv_ints : ∀ u v : List Int, PyData.eqvAll (u.map PyData.int) (v.map PyData.int) = decide (u = v)
  | [], [] => by simp [PyData.eqvAll]
  | [], _ :: _ => by simp [PyData.eqvAll]
  | _ :: _, [] => by simp [PyData.eqvAll]
  | x :: r, y :: q => by
    rw [List.map_cons, List.map_cons, PyData.eqvAll, PyData.eqv, eqv_ints r q]
    by_cases e : x = y
    · subst e
      by_cases e2 : r = q
      · subst e2
        simp
      · simp [e2]
    · simp [e]
theorem eqv_word (u v : List Int) : PyData.eqv (dW u) (dW v) = decide (u = v) := by
  unfold dW
  rw [PyData.eqv, eqv_ints]
/-- two words compared -/
theorem r_eq (ha : H a = some (W u)) (hb : H b = some (W v)) (q : Q (.bl (decide (u = v))) H) : rEqD K (.ref a) (.ref b) H Q :=
  ⟨dW u, dW v, dp_word ha, dp_word hb, shaped_word u, shaped_word v, by rw [eqv_word]; exact q⟩
theorem r_ne (ha : H a = some (W u)) (hb : H b = some (W v)) (q : Q (.bl (!decide (u = v))) H) : rNeD K (.ref a) (.ref b) H Q :=
  ⟨dW u, dW v, dp_word ha, dp_word hb, shaped_word u, shaped_word v, by rw [eqv_word]; exact q⟩
/-- u + v -/
theorem r_cat (ha : H a = some (W u)) (hb : H b = some (W v)) (hu : u.length ≤ 500) (hv : v.length ≤ 500) (q : ∀ p H', Same H H' → H' p = some (W (u ++ v)) → Q (.ref p) H') : rCatA K (.ref a) (.ref b) H Q := by
  refine ⟨a, b, u.map V.int, v.map V.int, rfl, rfl, SqT.of ha, SqT.of hb, small (by rw [List.length_map, List.length_map]; omega), fun e => q b H (Same.refl H) ?_, fun _ e => q a H (Same.refl H) ?_, fun _ _ p np => q p _ (same_new np) ?_⟩
  · have e' : u = [] := List.map_eq_nil_iff.mp e
    rw [e']
    exact hb
  · have e' : v = [] := List.map_eq_nil_iff.mp e
    rw [e', List.append_nil]
    exact ha
  · rw [upd_same, ← List.map_append]
/-- u * k -/
theorem r_rep {k : Int} (ha : H a = some (W u)) (h0 : 0 ≤ k) (h1 : k ≤ 1000) (hu : u.length ≤ 1000) (q : ∀ p H', Same H H' → H' p = some (W (rep k.toNat u)) → Q (.ref p) H') : rRepA (.ref a) (.int k) H Q :=
  ⟨a, k, u.map V.int, rfl, rfl, ha, h0, h1, by rw [List.length_map]; exact hu, fun p H' s e => q p H' s (by rw [e, ← map_rep])⟩
/-- u[:k] -/
theorem r_take {k : Nat} (ha : H a = some (W u)) (q : ∀ p H', Same H H' → H' p = some (W (u.take k)) → Q (.ref p) H') : rSlA K (.ref a) none (some (k : Int)) H Q := by
  have e : cutV (u.map V.int) none (some (k : Int)) = (u.take k).map V.int := by
    unfold cutV
    rw [HT.sIx_none, HT.sIx_nat, List.drop_zero, Nat.sub_zero, List.length_map, List.map_take]
    by_cases h : k ≤ u.length
    · rw [Nat.min_eq_left h]
    · rw [Nat.min_eq_right (by omega), List.take_of_length_le (by rw [List.length_map]; omega), List.take_of_length_le (by rw [List.length_map]; omega)]
  refine ⟨a, u.map V.int, rfl, SqT.of ha, fun hw => q a H (Same.refl H) ?_, fun _ p np => q p _ (same_new np) (by rw [upd_same, e])⟩
  rw [HT.sIx_nat, List.length_map] at hw
  rw [List.take_of_length_le (by omega)]
  exact ha
/-- u[k:] -/
theorem r_drop {k : Nat} (ha : H a = some (W u)) (q : ∀ p H', Same H H' → H' p = some (W (u.drop k)) → Q (.ref p) H') : rSlA K (.ref a) (some (k : Int)) none H Q := by
  have e : cutV (u.map V.int) (some (k : Int)) none = (u.drop k).map V.int := by
    unfold cutV
    rw [HT.sIx_none, HT.sIx_nat, List.length_map, List.map_drop]
    by_cases h : k ≤ u.length
    · rw [Nat.min_eq_left h, List.take_of_length_le (by rw [List.length_drop, List.length_map]; omega)]
    · rw [Nat.min_eq_right (by omega), Nat.sub_self, List.take_zero, List.drop_of_length_le (by rw [List.length_map]; omega)]
  refine ⟨a, u.map V.int, rfl, SqT.of ha, fun hw => q a H (Same.refl H) ?_, fun _ p np => q p _ (same_new np) (by rw [upd_same, e])⟩
  rw [HT.sIx_nat, List.length_map] at hw
  have hk : k = 0 ∨ u.length = 0 := by omega
  rcases hk with hk | hk
  · rw [hk, List.drop_zero]
    exact ha
  · have e' : u = [] := List.eq_nil_of_length_eq_zero hk
    rw [e', List.drop_nil]
    rw [e'] at ha
    exact ha
/-- u[k] -/
theorem r_ix {k : Nat} {x : Int} (ha : H a = some (W u)) (hx : u[k]? = some x) (q : Q (.int x) H) : rIxT K (.ref a) (.int (k : Int)) H Q :=
  ⟨a, u.map V.int, (k : Int), .int x, rfl, rfl, SqT.of ha, atI_nat (by rw [List.getElem?_map, hx]; rfl), q⟩
end
theorem r_I {C : Int → Int → Prop} {g : Int → Int → V} {i j : Int} {H : Hp} {Q : VK} (z : V) (e : g i j = z) (c : C i j) (q : Q z H) : rI C g (.int i) (.int j) H Q := ⟨i, j, rfl, rfl, c, by rw [e]; exact q⟩
theorem r_I0 {g : Int → Int → V} {i j : Int} {H : Hp} {Q : VK} (z : V) (e : g i j = z) (q : Q z H) : rI0 g (.int i) (.int j) H Q := ⟨i, j, rfl, rfl, by rw [e]; exact q⟩
theorem same_mut {H H' : Hp} {D : Addr} {o : HO} (s : Same H H') (h : H D = none) : Same H (upd H' D o) := fun b x e => by
  rw [upd_ne (ne_of_none e h)]
  exact s b x e
theorem room {n : Nat} (h : n ≤ 1000) : n < sizeLine := small1000 h
theorem yes_ {σ : L2.St} {H : Hp} {Q : Bool → Hp → Prop} (h : Q true H) : tYes σ H Q := h
theorem cst {v : V} {σ : L2.St} {H : Hp} {Q : VK} (h : Q v H) : tC v σ H Q := h
theorem noPart {σ : L2.St} {H : Hp} {Q : Option Int → Hp → Prop} (h : Q none H) : tNoPart σ H Q := h
theorem len_word (u : List Int) : ((u.map V.int).length : Int) = (u.length : Int) := by rw [List.length_map]

section
variable {P : Program} {w : World} {K : PySem.W.Frag} {mg : Str → Option Value} {base : Heap}
/-! ### word_power -/
def sp_word_power : Sp := fun vs H Q _ => ∃ (a : Addr) (k : Int) (u : List Int), vs = [.ref a, .int k] ∧ H a = some (W u) ∧ 0 ≤ k ∧ k ≤ 1000 ∧ u.length ≤ 1000 ∧ ∀ p H', Same H H' → H' p = some (W (rep k.toNat u)) → Q (.ref p) H'
theorem ok_word_power (T : Top K mg) : FnOk P w K mg base CX0 1 T.d_word_power.f T.d_word_power.fd ["word", "many"] sp_word_power := by
  refine T.d_word_power.F.ok sc_word_power (fun vs H Q E h => ?_) (fun cdv A outer s H vs Q E hr h => ?_)
  · obtain ⟨a, k, u, rfl, _⟩ := h
    rfl
  · obtain ⟨a, k, u, rfl, ha, h0, h1, hu, q⟩ := h
    refine ⟨_, (pss_one 
      (ps_ret (pe_op (op_repA) (pe_callTy (tup_k (K := K) rfl) (by rfl) T.m_tuple (by decide +kernel) (pa_cons (pv 0) pa_nil)) (pv 1)))), ?_⟩
    refine ⟨.ref a, rfl, a, _, rfl, .inr ⟨SqT.of ha, .int k, rfl, ?_⟩⟩
    exact r_rep ha h0 h1 hu q
/-! ### commute -/
def sp_commute : Sp := fun vs H Q _ => ∃ (a b : Addr) (u v : List Int), vs = [.ref a, .ref b] ∧ H a = some (W u) ∧ H b = some (W v) ∧ u.length ≤ 500 ∧ v.length ≤ 500 ∧ ∀ H', Same H H' → Q (.bl (decide (u ++ v = v ++ u))) H'
theorem ok_commute (T : Top K mg) : FnOk P w K mg base CX0 1 T.d_commute.f T.d_commute.fd ["word", "other"] sp_commute := by
  refine T.d_commute.F.ok sc_commute (fun vs H Q E h => ?_) (fun cdv A outer s H vs Q E hr h => ?_)
  · obtain ⟨a, b, u, v, rfl, _⟩ := h
    rfl
  · obtain ⟨a, b, u, v, rfl, ha, hb, hu, hv, q⟩ := h
    refine ⟨_, (pss_cons 
      (ps_par (i := 0) (j := 1) rfl sc_commute.nd rfl rfl (by decide) rfl rfl (pa_cons (pe_callTy (tup_k (K := K) rfl) (by rfl) T.m_tuple (by decide +kernel) (pa_cons (pv 0) pa_nil)) (pa_cons (pe_callTy (tup_k (K := K) rfl) (by rfl) T.m_tuple (by decide +kernel) (pa_cons (pv 1) pa_nil)) pa_nil)) (by rfl)) (pss_one 
      (ps_ret (pe_cmpR (eqD_k (K := K) rfl (hu64 hr)) (pe_op (cat_k (K := K) rfl) (pv 0) (pv 1)) (pe_op (cat_k (K := K) rfl) (pv 1) (pv 0)) (nomark _))))), ?_⟩
    refine ⟨.ref a, rfl, a, _, rfl, .inr ⟨SqT.of ha, ?_⟩⟩
    refine ⟨.ref b, rfl, b, _, rfl, .inr ⟨SqT.of hb, ?_⟩⟩
    refine ⟨_, _, rfl, ?_⟩
    refine ⟨.ref a, rfl, .ref b, rfl, r_cat ha hb hu hv fun p H1 s1 hp => ?_⟩
    refine ⟨.ref b, rfl, .ref a, rfl, r_cat (s1 _ _ hb) (s1 _ _ ha) hv hu fun p2 H2 s2 hp2 => ?_⟩
    exact r_eq (s2 _ _ hp) hp2 (q H2 (s1.trans s2))
/-! ### turned -/
def sp_turned : Sp := fun vs H Q _ => ∃ (a : Addr) (k : Nat) (u : List Int), vs = [.ref a, .int (k : Int)] ∧ H a = some (W u) ∧ 0 < u.length ∧ u.length ≤ 500 ∧ ∀ p H', Same H H' → H' p = some (W (rot u (k % u.length))) → Q (.ref p) H'
theorem ok_turned (T : Top K mg) : FnOk P w K mg base CX0 1 T.d_turned.f T.d_turned.fd ["word", "many"] sp_turned := by
  refine T.d_turned.F.ok sc_turned (fun vs H Q E h => ?_) (fun cdv A outer s H vs Q E hr h => ?_)
  · obtain ⟨a, k, u, rfl, _⟩ := h
    rfl
  · obtain ⟨a, k, u, rfl, ha, hn, hu, q⟩ := h
    refine ⟨_, (pss_cons 
      (ps_set (i := 0) sc_turned.nd rfl (.inl rfl) (pe_callTy (tup_k (K := K) rfl) (by rfl) T.m_tuple (by decide +kernel) (pa_cons (pv 0) pa_nil))) (pss_cons 
      (ps_if (pt_cmpR op_eq (pe_callB (len_k (K := K) rfl) (by rfl) T.m_len PySem.boot_len (pa_cons (pv 0) pa_nil)) pe_int (nomark _)) (pss_one 
        (ps_ret (pe_tup pa_nil))) pss_nil) (pss_cons 
      (ps_set (i := 2) sc_turned.nd rfl (.inl rfl) (pe_op op_mod (pv 1) (pe_callB (len_k (K := K) rfl) (by rfl) T.m_len PySem.boot_len (pa_cons (pv 0) pa_nil)))) (pss_one 
      (ps_ret (pe_op (cat_k (K := K) rfl) (pe_slice (slT_k (K := K) rfl) (pv 0) (po_some (pv 2)) po_none) (pe_slice (slT_k (K := K) rfl) (pv 0) po_none (po_some (pv 2))))))))), ?_⟩
    refine ⟨.ref a, rfl, a, _, rfl, .inr ⟨SqT.of ha, ?_⟩⟩
    refine ⟨.ref a, rfl, a, _, rfl, .inr (SqT.of ha), rfl, _, rfl, ite2 (fun e => ?_) (fun _ => ?_)⟩
    · have e0 := V.int.inj (of_decide_eq_true e)
      rw [List.length_map] at e0
      omega
    refine ⟨.int (k : Int), rfl, .ref a, rfl, a, _, rfl, .inr (SqT.of ha), ?_⟩
    refine r_I (.int ((k % u.length : Nat) : Int)) (by rw [len_word]; rfl) (by rw [len_word]; omega) ?_
    have hp := Nat.mod_lt k hn
    generalize k % u.length = p at hp q
    refine ⟨.ref a, rfl, .int (p : Int), rfl, (p : Int), rfl, noPart (r_drop ha fun p1 H1 s1 h1 => ?_)⟩
    refine ⟨.ref a, rfl, .int (p : Int), rfl, (p : Int), rfl, r_take (s1 _ _ ha) fun p2 H2 s2 h2 => ?_⟩
    exact r_cat (s2 _ _ h1) h2 (by rw [List.length_drop]; omega) (by rw [List.length_take]; omega) fun p3 H3 s3 h3 => q p3 H3 ((s1.trans s2).trans s3) h3
/-! ### root_of -/
def sp_root_of : Sp := fun vs H Q _ => ∃ (a : Addr) (u : List Int), vs = [.ref a] ∧ H a = some (W u) ∧ 0 < u.length ∧ u.length ≤ 500 ∧
  ∀ p r H', Same H H' → H' p = some (.tup [.ref r, .int (rtimes u : Nat)]) → H' r = some (W (root u)) → Q (.ref p) H'
theorem ok_root_of (T : Top K mg) : FnOk P w K mg base CX0 1 T.d_root_of.f T.d_root_of.fd ["word"] sp_root_of := by
  refine T.d_root_of.F.ok sc_root_of (fun vs H Q E h => ?_) (fun cdv A outer s H vs Q E hr h => ?_)
  · obtain ⟨a, u, rfl, _⟩ := h
    rfl
  · obtain ⟨a, u, rfl, ha, hn, hu, q⟩ := h
    refine ⟨_, (pss_cons 
      (ps_set (i := 0) sc_root_of.nd rfl (.inl rfl) (pe_callTy (tup_k (K := K) rfl) (by rfl) T.m_tuple (by decide +kernel) (pa_cons (pv 0) pa_nil))) (pss_cons 
      (ps_if (pt_cmpR op_eq (pe_callB (len_k (K := K) rfl) (by rfl) T.m_len PySem.boot_len (pa_cons (pv 0) pa_nil)) pe_int (nomark _)) (pss_one 
        ps_never) pss_nil) (pss_cons 
      (ps_for PassesOwn.never rfl (pi_range2 (by rfl) T.m_range (pa_cons pe_int (pa_cons (pe_op op_add (pe_callB (len_k (K := K) rfl) (by rfl) T.m_len PySem.boot_len (pa_cons (pv 0) pa_nil)) pe_int) pa_nil))) (pg_name (i := 1) sc_root_of.nd rfl (.inl rfl)) (pss_cons 
        (ps_set (i := 2) sc_root_of.nd rfl (.inl rfl) (pe_op op_fdiv (pe_callB (len_k (K := K) rfl) (by rfl) T.m_len PySem.boot_len (pa_cons (pv 0) pa_nil)) (pv 1))) (pss_one 
        (ps_if (pt_cmpR (eqD_k (K := K) rfl (hu64 hr)) (pe_op (op_repA) (pe_slice (slT_k (K := K) rfl) (pv 0) po_none (po_some (pv 1))) (pv 2)) (pv 0) (nomark _)) (pss_one 
          (ps_ret (pe_tup (pa_cons (pe_slice (slT_k (K := K) rfl) (pv 0) po_none (po_some (pv 1))) (pa_cons (pv 2) pa_nil))))) pss_nil)))) (pss_one 
      ps_never)))), ?_⟩
    refine ⟨.ref a, rfl, a, _, rfl, .inr ⟨SqT.of ha, ?_⟩⟩
    refine ⟨.ref a, rfl, a, _, rfl, .inr (SqT.of ha), rfl, _, rfl, ite2 (fun e => ?_) (fun _ => ?_)⟩
    · have e0 := V.int.inj (of_decide_eq_true e)
      rw [List.length_map] at e0
      omega
    refine ⟨.ref a, rfl, a, _, rfl, .inr (SqT.of ha), cst (r_I0 (.int ((u.length : Int) + 1)) (by rw [len_word]) ?_)⟩
    refine ⟨1, (u.length : Int) + 1, rfl, by omega, ?_⟩
    have en : ((u.length : Int) + 1 - 1).toNat = u.length := by omega
    rw [en]
    refine for_range (lo := 1) (n := u.length) (fun i σ H' => ∃ y1 y2, σ = [some (.ref a), y1, y2] ∧ Same H H' ∧ i ≤ u.length ∧ ∀ j, 1 ≤ j → j ≤ i → testB u j = false) ⟨none, none, rfl, Same.refl H, Nat.zero_le _, fun j h1 h2 => by omega⟩ (fun i σ H' hi hp => ?_) (fun σ H' hp => ?_)
    · obtain ⟨y1, y2, rfl, s1, _, hl⟩ := hp
      have ha1 := s1 _ _ ha
      have ed : (1 : Int) + (i : Int) = ((i + 1 : Nat) : Int) := by omega
      rw [ed]
      generalize hd : i + 1 = d
      have d1 : 1 ≤ d := by omega
      have d2 : d ≤ u.length := by omega
      refine ⟨.ref a, rfl, a, _, rfl, .inr (SqT.of ha1), .int (d : Int), rfl, ?_⟩
      refine r_I (.int ((u.length / d : Nat) : Int)) (by rw [len_word]; rfl) ⟨by omega, by omega⟩ ?_
      refine ⟨.ref a, rfl, .int (d : Int), rfl, (d : Int), rfl, r_take ha1 fun p2 H2 s2 h2 => ?_⟩
      have hq : u.length / d ≤ u.length := Nat.div_le_self _ _
      refine ⟨.int ((u.length / d : Nat) : Int), rfl, r_rep h2 (Int.natCast_nonneg _) (Int.le_trans (Int.ofNat_le.mpr hq) (by omega)) (by rw [List.length_take]; omega) fun p3 H3 s3 h3 => ?_⟩
      rw [Int.toNat_natCast] at h3
      have ha3 := s3 _ _ (s2 _ _ ha1)
      refine ⟨.ref a, rfl, r_eq h3 ha3 ⟨_, rfl, ?_⟩⟩
      by_cases ht : testB u d = true
      · rw [decide_eq_true ((rep_take_iff d1 d2).mpr ht)]
        refine iteT ?_
        have er : d = rootSize u := rootSize_is hn d1 ht fun j j1 j2 => hl j j1 (by omega)
        refine ⟨.ref a, rfl, .int (d : Int), rfl, (d : Int), rfl, r_take ha3 fun p4 H4 s4 h4 => ?_⟩
        refine ⟨.int ((u.length / d : Nat) : Int), rfl, small (by show 2 ≤ 1000; decide), fun p5 n5 => ?_⟩
        have s5 := same_new (o := .tup [.ref p4, .int ((u.length / d : Nat) : Int)]) n5
        refine q p5 p4 _ ((((s1.trans s2).trans s3).trans s4).trans s5) ?_ ?_
        · rw [upd_same, er]
          rfl
        · rw [s5 _ _ h4, er]
          rfl
      · rw [decide_eq_false fun e => ht ((rep_take_iff d1 d2).mp e)]
        refine iteF ⟨_, _, rfl, (s1.trans s2).trans s3, by omega, fun j j1 j2 => ?_⟩
        by_cases e : j = d
        · rw [e]
          exact Bool.eq_false_iff.mpr ht
        · exact hl j j1 (by omega)
    · obtain ⟨y1, y2, rfl, s1, _, hl⟩ := hp
      have := hl u.length hn (Nat.le_refl _)
      rw [testB_len] at this
      cases this
/-! ### piece_of -/
theorem piece_succ (u : List Int) (st m : Nat) : piece u st (m + 1) = piece u st m ++ [per u (st + m)] := by
  unfold piece
  rw [List.range_succ, List.map_append]
  rfl
def sp_piece_of : Sp := fun vs H Q _ => ∃ (a : Addr) (st m : Nat) (u : List Int), vs = [.ref a, .int (st : Int), .int (m : Int)] ∧ H a = some (W u) ∧ 0 < u.length ∧ u.length ≤ 500 ∧ m ≤ 900 ∧
  ∀ p H', Same H H' → H' p = some (W (piece u st m)) → Q (.ref p) H'
theorem ok_piece_of (T : Top K mg) : FnOk P w K mg base CX0 1 T.d_piece_of.f T.d_piece_of.fd ["row", "start", "many"] sp_piece_of := by
  refine T.d_piece_of.F.ok sc_piece_of (fun vs H Q E h => ?_) (fun cdv A outer s H vs Q E hr h => ?_)
  · obtain ⟨a, st, m, u, rfl, _⟩ := h
    rfl
  · obtain ⟨a, st, m, u, rfl, ha, hn, hu, hm, q⟩ := h
    refine ⟨_, (pss_cons 
      (ps_set (i := 0) sc_piece_of.nd rfl (.inr rfl) (pe_callTy (tup_k (K := K) rfl) (by rfl) T.m_tuple (by decide +kernel) (pa_cons (pv 0) pa_nil))) (pss_cons 
      (ps_if (pt_cmpR op_eq (pe_callB (len_k (K := K) rfl) (by rfl) T.m_len PySem.boot_len (pa_cons (pv 0) pa_nil)) pe_int (nomark _)) (pss_one 
        ps_never) pss_nil) (pss_one 
      (ps_ret (pe_callTy (tup_k (K := K) rfl) (by rfl) T.m_tuple (by decide +kernel) (pa_cons (pe_lc (own := [("k", 3)]) rfl sc_piece_of.nd (pi_range1 (by rfl) T.m_range (pa_cons (pv 2) pa_nil)) (blkOk_by (N := ["row", "start", "many", "k"]) (sc := defScope s_piece_of) (by decide +kernel)) (fun _ _ _ _ _ => pg_name (i := 3) sc_piece_of.nd rfl (.inl rfl)) (fun _ _ _ _ _ => pts_nil) (fun _ _ _ _ _ => (pe_ix (ixT_k (K := K) rfl) (pv 0) (pe_op op_mod (pe_op op_add (pv 1) (pv 3)) (pe_callB (len_k (K := K) rfl) (by rfl) T.m_len PySem.boot_len (pa_cons (pv 0) pa_nil))) (fun _ _ => rfl)))) pa_nil)))))), ?_⟩
    refine ⟨.ref a, rfl, a, _, rfl, .inr ⟨SqT.of ha, ?_⟩⟩
    refine ⟨.ref a, rfl, a, _, rfl, .inr (SqT.of ha), rfl, _, rfl, ite2 (fun e => ?_) (fun _ => ?_)⟩
    · have e0 := V.int.inj (of_decide_eq_true e)
      rw [List.length_map] at e0
      omega
    refine ⟨.int (m : Int), rfl, (m : Int), rfl, by omega, by omega, fun D nD => ?_⟩
    rw [Int.toNat_natCast]
    refine lc_range (lo := 0) (n := m) (fun i H' => Same H H' ∧ H' D = some (.lst ((piece u st i).map V.int))) ⟨same_new nD, upd_same⟩ (fun i H' hi hp => ?_) (fun H' hp => ?_)
    · obtain ⟨s1, hD⟩ := hp
      have ha1 := s1 _ _ ha
      rw [show (0 : Int) + (i : Int) = (i : Int) from Int.zero_add _]
      refine ⟨rfl, yes_ (iteT ?_)⟩
      refine ⟨.ref a, rfl, .int (st : Int), rfl, .int (i : Int), rfl, r_I0 (.int ((st + i : Nat) : Int)) rfl ?_⟩
      refine ⟨.ref a, rfl, a, _, rfl, .inr (SqT.of ha1), ?_⟩
      refine r_I (.int (((st + i) % u.length : Nat) : Int)) (by rw [len_word]; rfl) (by rw [len_word]; omega) ?_
      refine r_ix ha1 (per_get u (st + i) hn) ?_
      refine ⟨_, hD, room (by rw [List.length_map, piece_len]; omega), same_mut s1 nD, ?_⟩
      rw [upd_same, piece_succ, List.map_append]
      rfl
    · obtain ⟨s1, hD⟩ := hp
      refine ⟨D, _, rfl, .inl ⟨SqL.of hD, fun p np => q p _ (s1.trans (same_new np)) upd_same⟩⟩
/-! ### is_piece -/
def sp_is_piece : Sp := fun vs H Q _ => ∃ (a b : Addr) (st : Nat) (u v : List Int), vs = [.ref a, .int (st : Int), .ref b] ∧ H a = some (W u) ∧ H b = some (W v) ∧ 0 < u.length ∧ u.length ≤ 500 ∧ v.length ≤ 500 ∧
  ∀ H', Same H H' → Q (.bl (decide (piece u st v.length = v))) H'
theorem ok_is_piece (T : Top K mg) : FnOk P w K mg base CX0 2 T.d_is_piece.f T.d_is_piece.fd ["row", "start", "word"] sp_is_piece := by
  have G_piece_of : FnOk P w K mg base CX0 1 T.d_piece_of.f T.d_piece_of.fd ["row", "start", "many"] sp_piece_of := ok_piece_of T
  refine T.d_is_piece.F.ok sc_is_piece (fun vs H Q E h => ?_) (fun cdv A outer s H vs Q E hr h => ?_)
  · obtain ⟨a, b, st, u, v, rfl, _⟩ := h
    rfl
  · obtain ⟨a, b, st, u, v, rfl, ha, hb, hn, hu, hv, q⟩ := h
    refine ⟨_, (pss_one 
      (ps_ret (pe_cmpR (eqD_k (K := K) rfl (hu64 hr)) (pe_call G_piece_of (hr.mono (by decide)) (by rfl) T.d_piece_of.mg T.d_piece_of.F.kp T.d_piece_of.b .nil pass0 (pa_cons (pv 0) (pa_cons (pv 1) (pa_cons (pe_callB (len_k (K := K) rfl) (by rfl) T.m_len PySem.boot_len (pa_cons (pv 2) pa_nil)) pa_nil)))) (pe_callTy (tup_k (K := K) rfl) (by rfl) T.m_tuple (by decide +kernel) (pa_cons (pv 2) pa_nil)) (nomark _)))), ?_⟩
    refine ⟨.ref a, rfl, .int (st : Int), rfl, .ref b, rfl, b, _, rfl, .inr (SqT.of hb), ?_⟩
    rw [len_word]
    refine ⟨a, st, v.length, u, rfl, ha, hn, hu, by omega, fun p H1 s1 hp => ?_⟩
    refine ⟨.ref b, rfl, b, _, rfl, .inr ⟨SqT.of (s1 _ _ hb), ?_⟩⟩
    exact r_eq hp (s1 _ _ hb) (q H1 s1)
/-! ### first_apart -/
def vOpt : Option Nat → V
  | none => .non
  | some k => .int (k : Int)
def sp_first_apart : Sp := fun vs H Q _ => ∃ (a b : Addr) (u v : List Int), vs = [.ref a, .ref b] ∧ H a = some (W u) ∧ H b = some (W v) ∧ u.length ≤ 500 ∧ v.length ≤ 500 ∧ ∀ H', Same H H' → Q (vOpt (firstApart u v)) H'
theorem ok_first_apart (T : Top K mg) : FnOk P w K mg base CX0 1 T.d_first_apart.f T.d_first_apart.fd ["word", "other"] sp_first_apart := by
  refine T.d_first_apart.F.ok sc_first_apart (fun vs H Q E h => ?_) (fun cdv A outer s H vs Q E hr h => ?_)
  · obtain ⟨a, b, u, v, rfl, _⟩ := h
    rfl
  · obtain ⟨a, b, u, v, rfl, ha, hb, hu, hv, q⟩ := h
    refine ⟨_, (pss_cons 
      (ps_for PassesOwn.never rfl (pi_enumzip (by rfl) T.m_enumerate (by rfl) T.m_zip (pa_cons (pv 0) (pa_cons (pv 1) pa_nil))) (pgTup_k (K := K) (n := 2) rfl rfl (pgs_cons (pg_name (i := 2) sc_first_apart.nd rfl (.inl rfl)) (pgs_cons (pg_name (i := 3) sc_first_apart.nd rfl (.inl rfl)) pgs_nil))) (pss_one 
        (ps_if (pt_cmpR op_ne (pe_ix (ixT_k (K := K) rfl) (pv 3) pe_int (fun _ _ => rfl)) (pe_ix (ixT_k (K := K) rfl) (pv 3) pe_int (fun _ _ => rfl)) (nomark _)) (pss_one 
          (ps_ret (pv 2))) pss_nil))) (pss_one 
      (ps_ret pe_non))), ?_⟩
    refine ⟨.ref a, rfl, .ref b, rfl, a, b, _, _, rfl, SqT.of ha, SqT.of hb, ?_⟩
    have hn : min u.length v.length = min (u.map V.int).length (v.map V.int).length := by rw [List.length_map, List.length_map]
    refine for_it (walk_ez hn) (fun i σ H' => ∃ y2 y3, σ = [some (.ref a), some (.ref b), y2, y3] ∧ Same H H' ∧ i ≤ min u.length v.length ∧ ∀ j, j < i → u.getD j 0 = v.getD j 0) ⟨none, none, rfl, Same.refl H, Nat.zero_le _, fun j h => by omega⟩
      (fun i σ H' _ hp => ?_) (fun i x σ H' H2 hi hp hy => ?_) (fun σ H' hp => ?_)
    · obtain ⟨_, _, _, s1, _⟩ := hp
      exact ⟨SqT.of (s1 _ _ ha), SqT.of (s1 _ _ hb)⟩
    · obtain ⟨y2, y3, rfl, s1, _, hl⟩ := hp
      obtain ⟨p1, p2, x1, x2, rfl, n1, n2, ne, rfl, hx1, hx2⟩ := hy
      have s2 : Same H' (upd (upd H' p1 (.tup [x1, x2])) p2 (.tup [.int (i : Int), .ref p1])) := (same_new n1).trans (same_new (by rw [upd_ne ne.symm]; exact n2))
      have h2 : upd (upd H' p1 (.tup [x1, x2])) p2 (.tup [.int (i : Int), .ref p1]) p2 = some (.tup [.int (i : Int), .ref p1]) := upd_same
      have h1 : upd (upd H' p1 (.tup [x1, x2])) p2 (.tup [.int (i : Int), .ref p1]) p1 = some (.tup [x1, x2]) := by
        rw [upd_ne ne, upd_same]
      generalize upd (upd H' p1 (.tup [x1, x2])) p2 (.tup [.int (i : Int), .ref p1]) = H3 at s2 h1 h2
      have hiu : i < u.length := by omega
      have hiv : i < v.length := by omega
      have e1 : x1 = .int (u.getD i 0) := by
        rw [List.getElem?_map, List.getElem?_eq_getElem hiu] at hx1
        rw [List.getD_eq_getElem?_getD, List.getElem?_eq_getElem hiu]
        exact (Option.some.inj hx1).symm
      have e2 : x2 = .int (v.getD i 0) := by
        rw [List.getElem?_map, List.getElem?_eq_getElem hiv] at hx2
        rw [List.getD_eq_getElem?_getD, List.getElem?_eq_getElem hiv]
        exact (Option.some.inj hx2).symm
      rw [e1, e2] at h1
      refine ⟨p2, _, rfl, SqT.of h2, rfl, _, _, rfl, _, _, rfl, rfl, ?_⟩
      refine ⟨.ref p1, rfl, p1, _, 0, .int (u.getD i 0), rfl, rfl, SqT.of h1, atI_nat (j := 0) rfl, .ref p1, rfl, p1, _, 1, .int (v.getD i 0), rfl, rfl, SqT.of h1, atI_nat (j := 1) rfl, rfl, _, rfl, ?_⟩
      by_cases e : u.getD i 0 = v.getD i 0
      · rw [decide_eq_true (congrArg V.int e)]
        refine iteF ⟨_, _, rfl, s1.trans s2, by omega, fun j hj => ?_⟩
        by_cases ej : j = i
        · rw [ej]
          exact e
        · exact hl j (by omega)
      · rw [decide_eq_false fun z => e (V.int.inj z)]
        refine iteT ⟨.int (i : Int), rfl, ?_⟩
        have ef : firstApart u v = some i := firstApart_some (by omega) e hl
        have g := q H3 (s1.trans s2)
        rw [ef] at g
        exact g
    · obtain ⟨_, _, _, s1, _, hl⟩ := hp
      have ef : firstApart u v = none := firstApart_none hl
      have g := q H' s1
      rw [ef] at g
      exact g
end
end K2


namespace K2
open PySem PySem.Spec PyProof.Rows L2 G2 G3 KW RZ
/-! ### the source of draws -/
/-- all but u as it was -/
def But (u : Addr) (H H' : Hp) : Prop := ∀ b o, b ≠ u → H b = some o → H' b = some o
theorem But.refl (u : Addr) (H : Hp) : But u H H := fun _ _ _ h => h
theorem But.trans {u : Addr} {H H1 H2 : Hp} (a : But u H H1) (b : But u H1 H2) : But u H H2 := fun c o n h => b c o n (a c o n h)
theorem Same.but {H H' : Hp} (s : Same H H') (u : Addr) : But u H H' := fun b o _ h => s b o h
theorem But.wd {u a : Addr} {H H' : Hp} {xs : List V} {ys : List V} (b : But u H H') (hu : H u = some (.lst ys)) (h : H a = some (.tup xs)) : H' a = some (.tup xs) := b a _ (ne_of h hu (fun z => nomatch z)) h
theorem But.upd (u : Addr) (H : Hp) (o : HO) : But u H (upd H u o) := fun b x n h => by
  rw [upd_ne n]
  exact h
/-- the urn: three numbers -/
def Urn (H : Hp) (u : Addr) (n : Nat) : Prop := ∃ x y c : Int, H u = some (.lst [.int x, .int y, .int c]) ∧ 0 ≤ x ∧ 0 ≤ y ∧ y ≤ 2 ^ 62 ∧ 0 ≤ c ∧ c ≤ n
theorem Urn.mono {H : Hp} {u : Addr} {n m : Nat} (h : Urn H u n) (hm : n ≤ m) : Urn H u m := by
  obtain ⟨x, y, c, e, h0, h1, h2, h3, h4⟩ := h
  exact ⟨x, y, c, e, h0, h1, h2, h3, by omega⟩
theorem Urn.same {H H' : Hp} {u : Addr} {n : Nat} (h : Urn H u n) (s : Same H H') : Urn H' u n := by
  obtain ⟨x, y, c, e, r⟩ := h
  exact ⟨x, y, c, s _ _ e, r⟩
theorem Urn.keep {H H' : Hp} {u a : Addr} {n : Nat} {xs : List V} (h : Urn H u n) (b : But u H H') (ha : H a = some (.tup xs)) : H' a = some (.tup xs) := by
  obtain ⟨x, y, c, e, r⟩ := h
  exact b.wd e ha
theorem Urn.new {H : Hp} {u p : Addr} {n : Nat} (h : Urn H u n) (np : H p = none) : p ≠ u := by
  obtain ⟨x, y, c, e, r⟩ := h
  exact (ne_of_none e np).symm
section
variable {K : PySem.W.Frag} {H : Hp} {u : Addr} {x y c : Int} {Q : VK} {σ : L2.St}
theorem u0 (h : H u = some (.lst [.int x, .int y, .int c])) (q : Q (.int x) H) : tC (.int 0) σ H (fun i H2 => rIxL K (.ref u) i H2 Q) := ⟨u, _, 0, _, rfl, rfl, SqL.of h, atI_nat (j := 0) rfl, q⟩
theorem u1 (h : H u = some (.lst [.int x, .int y, .int c])) (q : Q (.int y) H) : tC (.int 1) σ H (fun i H2 => rIxL K (.ref u) i H2 Q) := ⟨u, _, 1, _, rfl, rfl, SqL.of h, atI_nat (j := 1) rfl, q⟩
theorem u2 (h : H u = some (.lst [.int x, .int y, .int c])) (q : Q (.int c) H) : tC (.int 2) σ H (fun i H2 => rIxL K (.ref u) i H2 Q) := ⟨u, _, 2, _, rfl, rfl, SqL.of h, atI_nat (j := 2) rfl, q⟩
end
section
variable {P : Program} {w : World} {K : PySem.W.Frag} {mg : Str → Option Value} {base : Heap}
/-! ### _law_take -/
def sp_law_take : Sp := fun vs H Q _ => ∃ (u : Addr) (low n : Nat), vs = [.ref u, .int (low : Int)] ∧ Urn H u n ∧ n ≤ 1000 ∧ 0 < low ∧ low ≤ 1000 ∧
  ∀ (r : Nat) H', r < low → But u H H' → Urn H' u (n + 1) → Q (.int (r : Int)) H'
theorem ok_law_take (T : Top K mg) : FnOk P w K mg base CX0 1 T.d_law_take.f T.d_law_take.fd ["_law_urn", "_law_low_so"] sp_law_take := by
  refine T.d_law_take.F.ok sc_law_take (fun vs H Q E h => ?_) (fun cdv A outer s H vs Q E hr h => ?_)
  · obtain ⟨u, low, n, rfl, _⟩ := h
    rfl
  · obtain ⟨u, low, n, rfl, ⟨x, y, c, hU, x0, y0, y1, c0, c1⟩, hn, l0, l1, q⟩ := h
    refine ⟨_, (pss_cons 
      (ps_if (pt_cmpR op_gt (pe_ix (ixL_k (K := K) rfl) (pv 0) pe_int (fun _ _ => rfl)) pe_int (nomark _)) (pss_cons 
        (ps_set (i := 2) sc_law_take.nd rfl (.inl rfl) (pe_op op_mod (pe_callTy call_int1 (by rfl) T.m_int (by decide +kernel) (pa_cons (pe_ix (ixL_k (K := K) rfl) (pv 0) pe_int (fun _ _ => rfl)) pa_nil)) (pv 1))) (pss_cons 
        (ps_asg (pe_op op_fdiv (pe_ix (ixL_k (K := K) rfl) (pv 0) pe_int (fun _ _ => rfl)) (pv 1)) (pg_sub (pv 0) pe_int set_list)) (pss_one 
        (ps_ret (pv 2))))) pss_nil) (pss_cons 
      (ps_asg (pe_op op_add (pe_ix (ixL_k (K := K) rfl) (pv 0) pe_int (fun _ _ => rfl)) pe_int) (pg_sub (pv 0) pe_int set_list)) (pss_cons 
      (ps_set (i := 3) sc_law_take.nd rfl (.inl rfl) (pe_op op_mod (pe_callTy call_int1 (by rfl) T.m_int (by decide +kernel) (pa_cons (pe_op op_mul (pe_op op_add (pe_ix (ixL_k (K := K) rfl) (pv 0) pe_int (fun _ _ => rfl)) (pe_op op_mul pe_int (pe_ix (ixL_k (K := K) rfl) (pv 0) pe_int (fun _ _ => rfl)))) (pe_op op_add pe_int (pe_ix (ixL_k (K := K) rfl) (pv 0) pe_int (fun _ _ => rfl)))) pa_nil)) pe_int)) (pss_cons 
      (ps_set (i := 4) sc_law_take.nd rfl (.inl rfl) (pe_op op_add (pe_op op_mod (pe_callTy call_int1 (by rfl) T.m_int (by decide +kernel) (pa_cons (pv 3) pa_nil)) pe_int) pe_int)) (pss_cons 
      (ps_set (i := 5) sc_law_take.nd rfl (.inl rfl) (pe_op op_mod (pe_callTy call_int1 (by rfl) T.m_int (by decide +kernel) (pa_cons (pe_op op_mul (pe_op op_add (pe_op op_add (pv 3) (pe_ix (ixL_k (K := K) rfl) (pv 0) pe_int (fun _ _ => rfl))) (pe_op op_fdiv (pe_ix (ixL_k (K := K) rfl) (pv 0) pe_int (fun _ _ => rfl)) pe_int)) (pv 4)) pa_nil)) pe_int)) (pss_one 
      (ps_ret (pe_op op_mod (pe_callTy call_int1 (by rfl) T.m_int (by decide +kernel) (pa_cons (pe_op op_fdiv (pe_op op_mod (pe_callTy call_int1 (by rfl) T.m_int (by decide +kernel) (pa_cons (pe_op op_add (pe_op op_mul (pv 5) pe_int) (pv 3)) pa_nil)) pe_int) pe_int) pa_nil)) (pv 1))))))))), ?_⟩
    have fin : ∀ (z : Int) H', But u H H' → Urn H' u (n + 1) → Q (.int (z % (low : Int))) H' := fun z H' b hu => by
      have e1 : 0 ≤ z % (low : Int) := Int.emod_nonneg _ (by omega)
      have e2 : z % (low : Int) < low := Int.emod_lt_of_pos _ (by omega)
      have g := q (z % (low : Int)).toNat H' (by omega) b hu
      rw [Int.toNat_of_nonneg e1] at g
      exact g
    refine ⟨.ref u, rfl, u0 hU (cst (r_I0 (.bl (decide (0 < x))) rfl ⟨_, rfl, ite2 (fun e => ?_) (fun e => ?_)⟩))⟩
    · -- the digits of a great number
      refine ⟨.ref u, rfl, u0 hU (.inl ⟨x, rfl, .int (low : Int), rfl, r_I _ rfl (by omega) ?_⟩)⟩
      refine ⟨.ref u, rfl, u0 hU ⟨.int (low : Int), rfl, r_I _ rfl ⟨by omega, by omega⟩ ?_⟩⟩
      refine ⟨.ref u, rfl, u, _, 0, 0, rfl, rfl, hU, rfl, ?_⟩
      refine ⟨_, rfl, ?_⟩
      refine fin x _ (But.upd _ _ _) ⟨x / (low : Int), y, c, upd_same, Int.ediv_nonneg x0 (by omega), y0, y1, c0, by omega⟩
    · -- mixed numbers
      refine ⟨.ref u, rfl, u2 hU (cst (r_I0 (.int (c + 1)) rfl ?_))⟩
      refine ⟨.ref u, rfl, u, _, 2, 2, rfl, rfl, hU, rfl, ?_⟩
      have hU1 : upd H u (.lst ([V.int x, .int y, .int c].set 2 (.int (c + 1)))) u = some (.lst [.int x, .int y, .int (c + 1)]) := upd_same
      have b1 : But u H (upd H u (.lst ([V.int x, .int y, .int c].set 2 (.int (c + 1))))) := But.upd _ _ _
      generalize upd H u (.lst ([V.int x, .int y, .int c].set 2 (.int (c + 1)))) = H1 at hU1 b1
      have hUrn : Urn H1 u (n + 1) := ⟨x, y, c + 1, hU1, x0, y0, y1, by omega, by omega⟩
      -- once
      refine ⟨.ref u, rfl, u1 hU1 (cst ⟨.ref u, rfl, u2 hU1 (r_I (.int (48271 * (c + 1))) rfl (.inl (by omega)) (r_I0 (.int (y + 48271 * (c + 1))) rfl ?_))⟩)⟩
      refine cst ⟨.ref u, rfl, u2 hU1 (r_I0 (.int (39373 + (c + 1))) rfl (r_I (.int ((y + 48271 * (c + 1)) * (39373 + (c + 1)))) rfl (.inr (by omega)) ?_))⟩
      refine .inl ⟨_, rfl, cst (r_I (.int ((y + 48271 * (c + 1)) * (39373 + (c + 1)) % 2147483647)) rfl (by omega) ?_)⟩
      generalize (y + 48271 * (c + 1)) * (39373 + (c + 1)) = m1
      have a1 : 0 ≤ m1 % 2147483647 := Int.emod_nonneg _ (by omega)
      have a2 : m1 % 2147483647 < 2147483647 := Int.emod_lt_of_pos _ (by omega)
      generalize m1 % 2147483647 = once at a1 a2
      -- far
      refine ⟨.int once, rfl, .inl ⟨once, rfl, cst (r_I (.int (once % 40009)) rfl (by omega) (cst (r_I0 (.int (once % 40009 + 7)) rfl ?_)))⟩⟩
      have f1 : 0 ≤ once % 40009 := Int.emod_nonneg _ (by omega)
      have f2 : once % 40009 < 40009 := Int.emod_lt_of_pos _ (by omega)
      generalize once % 40009 = far0 at f1 f2
      -- twice
      refine ⟨.int once, rfl, .ref u, rfl, u2 hU1 (r_I0 (.int (once + (c + 1))) rfl ?_)⟩
      refine ⟨.ref u, rfl, u1 hU1 (cst (r_I (.int (y / 1000003)) rfl ⟨by omega, by omega⟩ (r_I0 (.int (once + (c + 1) + y / 1000003)) rfl ?_)))⟩
      refine ⟨.int (far0 + 7), rfl, r_I (.int ((once + (c + 1) + y / 1000003) * (far0 + 7))) rfl (.inr (by omega)) ?_⟩
      refine .inl ⟨_, rfl, cst (r_I (.int ((once + (c + 1) + y / 1000003) * (far0 + 7) % 2147483629)) rfl (by omega) ?_)⟩
      generalize (once + (c + 1) + y / 1000003) * (far0 + 7) = m2
      have t1 : 0 ≤ m2 % 2147483629 := Int.emod_nonneg _ (by omega)
      have t2 : m2 % 2147483629 < 2147483629 := Int.emod_lt_of_pos _ (by omega)
      generalize m2 % 2147483629 = twice at t1 t2
      -- the draw
      refine ⟨.int twice, rfl, cst (r_I (.int (twice * 48271)) rfl (.inl (by omega)) ⟨.int once, rfl, r_I0 (.int (twice * 48271 + once)) rfl ?_⟩)⟩
      refine .inl ⟨_, rfl, cst (r_I (.int ((twice * 48271 + once) % 2147483587)) rfl (by omega) (cst (r_I (.int ((twice * 48271 + once) % 2147483587 / 64)) rfl ⟨by omega, by omega⟩ ?_)))⟩
      refine .inl ⟨_, rfl, .int (low : Int), rfl, r_I _ rfl (by omega) ?_⟩
      exact fin _ _ b1 hUrn
/-! ### _law_box -/
def sp_law_box (K : PySem.W.Frag) : Sp := fun vs H Q _ => ∃ (a : Addr) (k : Nat) (ns : List Int), vs = [.ref a, .int (k : Int)] ∧ SqL K H a (ns.map V.int) ∧ k ≤ 10 ∧
  ∀ p H', Same H H' → H p = none → Urn H' p 0 → Q (.ref p) H'
theorem ok_law_box (T : Top K mg) : FnOk P w K mg base CX0 1 T.d_law_box.f T.d_law_box.fd ["_law_script", "_law_k"] (sp_law_box K) := by
  refine T.d_law_box.F.ok sc_law_box (fun vs H Q E h => ?_) (fun cdv A outer s H vs Q E hr h => ?_)
  · obtain ⟨a, k, ns, rfl, _⟩ := h
    rfl
  · obtain ⟨a, k, ns, rfl, ha, hk, q⟩ := h
    refine ⟨_, (Evl.pss_cut 
      (ps_set (i := 2) sc_law_box.nd rfl (.inl rfl) (pe_ifExp (pt_cmpR op_lt (pv 1) (pe_callB (len_k (K := K) rfl) (by rfl) T.m_len PySem.boot_len (pa_cons (pv 0) pa_nil)) (nomark _)) (pe_ix (ixL_k (K := K) rfl) (pv 0) (pv 1) (fun _ _ => rfl)) pe_int)) (pss_one 
      (ps_ret (pe_lst (pa_cons (pe_op op_mul (pe_callB call_abs (by rfl) T.m_abs (by decide +kernel) (pa_cons (pv 2) pa_nil)) (pe_callTy call_int1 (by rfl) T.m_int (by decide +kernel) (pa_cons (pe_cmpR op_ge (pe_callB call_abs (by rfl) T.m_abs (by decide +kernel) (pa_cons (pv 2) pa_nil)) (pe_op op_pow pe_int pe_int) (nomark _)) pa_nil))) (pa_cons (pe_op op_add (pe_op op_add (pe_op op_mod (pe_callTy call_int1 (by rfl) T.m_int (by decide +kernel) (pa_cons (pv 2) pa_nil)) pe_int) (pe_op op_mul pe_int (pv 1))) pe_int) (pa_cons pe_int pa_nil))))))), ?_⟩
    refine ⟨fun σ' H' => ∃ z : Int, σ' = [some (.ref a), some (.int (k : Int)), some (.int z)] ∧ H' = H, ⟨.int (k : Int), rfl, .ref a, rfl, a, _, rfl, .inl ha, r_I0 (.bl (decide (k < ns.length))) (by
      rw [len_word]
      exact congrArg V.bl (decide_eq_decide.mpr Int.ofNat_lt)) ⟨_, rfl, ite2 (fun e => ?_) (fun _ => ?_)⟩⟩, fun σ' H' hM => ?_⟩
    · have hk := of_decide_eq_true e
      exact ⟨.ref a, rfl, .int (k : Int), rfl, a, _, _, .int ns[k], rfl, rfl, ha, atI_nat (by rw [List.getElem?_map, List.getElem?_eq_getElem hk]; rfl), ns[k], rfl, rfl⟩
    · exact ⟨0, rfl, rfl⟩
    · obtain ⟨z, rfl, rfl⟩ := hM
      have m0 : 0 ≤ (if z < 0 then -z else z) := by split <;> omega
      refine ⟨.int z, rfl, z, rfl, ?_⟩
      refine ⟨.int z, rfl, z, rfl, ?_⟩
      generalize (if z < 0 then -z else z) = m at m0
      refine cst (cst (r_I (.int 1000000000000000000) (by rfl) ⟨by omega, by omega, by decide⟩ (r_I0 (.bl (decide (1000000000000000000 ≤ m))) rfl ?_)))
      refine .inr ⟨_, rfl, r_I _ rfl (.inr ?_) ?_⟩
      · split <;> omega
      refine ⟨.int z, rfl, .inl ⟨z, rfl, cst (r_I (.int (z % 2305843009213693951)) rfl (by omega) ?_)⟩⟩
      have a1 : 0 ≤ z % 2305843009213693951 := Int.emod_nonneg _ (by omega)
      have a2 : z % 2305843009213693951 < 2305843009213693951 := Int.emod_lt_of_pos _ (by omega)
      generalize z % 2305843009213693951 = y at a1 a2
      refine cst ⟨.int (k : Int), rfl, r_I (.int (39373 * (k : Int))) rfl (.inl (by omega)) (r_I0 (.int (y + 39373 * (k : Int))) rfl (cst (r_I0 (.int (y + 39373 * (k : Int) + 96812)) rfl ?_)))⟩
      refine cst ⟨small (by show 3 ≤ 1000; decide), fun p np => ?_⟩
      refine q p _ (same_new np) np ⟨_, _, _, upd_same, ?_, by omega, by omega, by omega, by omega⟩
      refine Int.mul_nonneg m0 ?_
      split <;> omega
/-! ### _law_cells -/
def sp_law_cells (K : PySem.W.Frag) : Sp := fun vs H Q _ => ∃ (a : Addr) (ns : List Int), vs = [.ref a, .int 2] ∧ SqL K H a (ns.map V.int) ∧ ns.length ≤ 63 ∧
  ∀ p (ms : List Int) H', Same H H' → H' p = some (.lst (ms.map V.int)) → ms.length ≤ 2 → Q (.ref p) H'
theorem cut_list (ns : List Int) (lo hi : Option Int) : cutV (ns.map V.int) lo hi = ((ns.drop (HT.sIx ns.length 0 lo)).take (HT.sIx ns.length ns.length hi - HT.sIx ns.length 0 lo)).map V.int := by
  unfold cutV
  rw [List.length_map, List.map_take, List.map_drop]
theorem ok_law_cells (T : Top K mg) : FnOk P w K mg base CX0 1 T.d_law_cells.f T.d_law_cells.fd ["_law_script", "_law_top"] (sp_law_cells K) := by
  refine T.d_law_cells.F.ok sc_law_cells (fun vs H Q E h => ?_) (fun cdv A outer s H vs Q E hr h => ?_)
  · obtain ⟨a, ns, rfl, _⟩ := h
    rfl
  · obtain ⟨a, ns, rfl, ha, hn, q⟩ := h
    refine ⟨_, (Evl.pss_cut 
      (ps_set (i := 2) sc_law_cells.nd rfl (.inl rfl) (pe_orT (pe_callTy (list_k (K := K) rfl) (by rfl) T.m_list (by decide +kernel) (pa_cons (pe_slice (slL_k (K := K) rfl) (pv 0) po_none (po_some (pv 1))) pa_nil)) (pe_one (pe_lst (pa_cons pe_int pa_nil))))) (pss_cons 
      (ps_for PassesOwn.never rfl (pi_enum (by rfl) T.m_enumerate (pa_cons (pe_slice (slL_k (K := K) rfl) (pv 0) (po_some (pv 1)) (po_some pe_int)) pa_nil)) (pgTup_k (K := K) (n := 2) rfl rfl (pgs_cons (pg_name (i := 3) sc_law_cells.nd rfl (.inl rfl)) (pgs_cons (pg_name (i := 4) sc_law_cells.nd rfl (.inl rfl)) pgs_nil))) (pss_cons 
        (ps_set (i := 5) sc_law_cells.nd rfl (.inl rfl) (pe_op op_mod (pe_callTy call_int1 (by rfl) T.m_int (by decide +kernel) (pa_cons (pv 3) pa_nil)) (pv 1))) (pss_one 
        (ps_asg (pe_op op_add (pe_ix (ixL_k (K := K) rfl) (pv 2) (pv 5) (fun _ _ => rfl)) (pe_op op_mul (pv 4) (pe_op op_add (pv 3) pe_int))) (pg_sub (pv 2) (pv 5) set_list))))) (pss_one 
      (ps_ret (pv 2))))), ?_⟩
    refine ⟨fun σ' H' => ∃ (l : Addr) (ms : List Int), σ' = [some (.ref a), some (.int 2), some (.ref l), none, none, none] ∧ Same H H' ∧ H l = none ∧ H' l = some (.lst (ms.map V.int)) ∧ ms.length ≤ 2 ∧ (2 < ns.length → ms.length = 2), ?_, fun σ' H' hM => ?_⟩
    · refine ⟨.ref a, rfl, noPart ⟨.int 2, rfl, 2, rfl, a, _, rfl, ha, fun c nc => ?_⟩⟩
      rw [cut_list]
      have hml : ((ns.drop (HT.sIx ns.length 0 none)).take (HT.sIx ns.length ns.length (some 2) - HT.sIx ns.length 0 none)).length = min 2 ns.length := by
        rw [List.length_take, List.length_drop, HT.sIx_none, show HT.sIx ns.length ns.length (some 2) = min 2 ns.length from HT.sIx_nat ns.length ns.length 2]
        omega
      generalize (ns.drop (HT.sIx ns.length 0 none)).take (HT.sIx ns.length ns.length (some 2) - HT.sIx ns.length 0 none) = ms at hml
      have s1 := same_new (o := .lst (ms.map V.int)) nc
      refine ⟨c, _, rfl, .inl (SqL.of upd_same), fun l nl => ?_⟩
      have nl0 : H l = none := s1.free nl
      have s2 := s1.trans (same_new (o := .lst (ms.map V.int)) nl)
      refine ⟨!(ms.map V.int).isEmpty, .inl ⟨_, SqL.of upd_same, rfl⟩, ?_⟩
      cases ms with
      | nil =>
        exact iteF ⟨small (by show 1 ≤ 1000; decide), fun l2 nl2 => ⟨l2, [0], rfl, s2.trans (same_new nl2), s2.free nl2, upd_same, by decide, fun h => by
          have h1 : 0 = min 2 ns.length := hml
          omega⟩⟩
      | cons z r =>
        exact iteT ⟨l, z :: r, rfl, s2, nl0, upd_same, by rw [hml]; omega, fun h => by rw [hml]; omega⟩
    · obtain ⟨l, ms, rfl, s1, nl, hl, m2, m3⟩ := hM
      refine ⟨.ref a, rfl, .int 2, rfl, 2, rfl, cst ⟨63, rfl, a, _, rfl, s1.seq ha, fun c nc => ?_⟩⟩
      rw [cut_list]
      have hl1 : ((ns.drop (HT.sIx ns.length 0 (some 2))).take (HT.sIx ns.length ns.length (some 63) - HT.sIx ns.length 0 (some 2))).length ≤ 63 := by
        rw [List.length_take, List.length_drop]
        omega
      have hl2 : 0 < ((ns.drop (HT.sIx ns.length 0 (some 2))).take (HT.sIx ns.length ns.length (some 63) - HT.sIx ns.length 0 (some 2))).length → ms.length = 2 := fun h => by
        rw [List.length_take, List.length_drop, show HT.sIx ns.length 0 (some 2) = min 2 ns.length from HT.sIx_nat ns.length 0 2] at h
        exact m3 (by omega)
      generalize (ns.drop (HT.sIx ns.length 0 (some 2))).take (HT.sIx ns.length ns.length (some 63) - HT.sIx ns.length 0 (some 2)) = rs at hl1 hl2
      have ncl : c ≠ l := (ne_of_none hl nc).symm
      have s2 := same_new (o := .lst (rs.map V.int)) nc
      have nc0 := s1.free nc
      refine ⟨c, _, rfl, SqL.of upd_same, ?_⟩
      refine for_it (n := rs.length) (walk_enum (xs := rs.map V.int) |> fun w => by rw [List.length_map] at w; exact w) (fun i σ H2 => ∃ y3 y4 y5 ks, σ = [some (.ref a), some (.int 2), some (.ref l), y3, y4, y5] ∧ Same H H2 ∧ H2 c = some (.lst (rs.map V.int)) ∧ H2 l = some (.lst (ks.map V.int)) ∧ ks.length = ms.length)
        ⟨none, none, none, ms, rfl, s1.trans s2, upd_same, s2 _ _ hl, rfl⟩ (fun i σ H2 _ hp => ?_) (fun i x σ H2 H3 hi hp hy => ?_) (fun σ H2 hp => ?_)
      · obtain ⟨_, _, _, _, _, _, hc, _⟩ := hp
        exact SqL.of hc
      · obtain ⟨y3, y4, y5, ks, rfl, t1, hc, hk, kl⟩ := hp
        obtain ⟨T, x1, x2, rfl, nT, rfl, e1, e2⟩ := hy
        have ex1 : x1 = .int (i : Int) := (Option.some.inj e1).symm
        have ex2 : x2 = .int rs[i] := by
          have e3 : (rs.map V.int)[i]? = some x2 := e2
          rw [List.getElem?_map, List.getElem?_eq_getElem hi] at e3
          exact (Option.some.inj e3).symm
        subst ex1 ex2
        have t2 := same_new (o := .tup [.int (i : Int), .int rs[i]]) nT
        have hk3 := t2 _ _ hk
        have hT : upd H2 T (.tup [.int (i : Int), .int rs[i]]) T = some (.tup [.int (i : Int), .int rs[i]]) := upd_same
        have hc3 := t2 _ _ hc
        generalize upd H2 T (.tup [.int (i : Int), .int rs[i]]) = H3 at t2 hk3 hT hc3
        have kl2 : ks.length = 2 := by rw [kl]; exact hl2 (by omega)
        have hj : i % 2 < ks.length := by omega
        refine ⟨T, _, rfl, SqT.of hT, rfl, _, _, rfl, _, _, rfl, rfl, ?_⟩
        refine ⟨.int (i : Int), rfl, .inl ⟨(i : Int), rfl, .int 2, rfl, r_I (.int ((i % 2 : Nat) : Int)) rfl (by omega) ?_⟩⟩
        refine ⟨.ref l, rfl, .int ((i % 2 : Nat) : Int), rfl, l, _, _, .int ks[i % 2], rfl, rfl, SqL.of hk3, atI_nat (by rw [List.getElem?_map, List.getElem?_eq_getElem hj]; rfl), ?_⟩
        refine ⟨.int rs[i], rfl, .int (i : Int), rfl, cst (r_I0 (.int ((i : Int) + 2)) rfl (r_I (.int (rs[i] * ((i : Int) + 2))) rfl (.inr (by omega)) (r_I0 (.int (ks[i % 2] + rs[i] * ((i : Int) + 2))) rfl ?_)))⟩
        refine ⟨.ref l, rfl, .int ((i % 2 : Nat) : Int), rfl, l, _, _, i % 2, rfl, rfl, hk3, ?_, ?_⟩
        · unfold ixN
          rw [if_pos (Int.natCast_nonneg _), if_pos (by rw [List.length_map]; omega), Int.toNat_natCast]
        · refine ⟨_, _, _, ks.set (i % 2) (ks[i % 2] + rs[i] * ((i : Int) + 2)), rfl, same_mut (t1.trans t2) nl, ?_, ?_, ?_⟩
          · rw [upd_ne ncl]
            exact hc3
          · rw [upd_same, List.map_set]
          · rw [List.length_set, kl]
      · obtain ⟨y3, y4, y5, ks, rfl, t1, hc, hk, kl⟩ := hp
        exact ⟨.ref l, rfl, q l ks H2 t1 hk (by omega)⟩
/-! ### _law_word -/
def sp_law_word : Sp := fun vs H Q _ => ∃ (u : Addr) (most kinds n : Nat), vs = [.ref u, .int (most : Int), .int (kinds : Int)] ∧ Urn H u n ∧ n ≤ 900 ∧ most ≤ 20 ∧ 0 < kinds ∧ kinds ≤ 1000 ∧
  ∀ p (ws : List Int) H', But u H H' → Urn H' u (n + most + 1) → H' p = some (W ws) → ws.length ≤ most → Q (.ref p) H'
theorem ok_law_word (T : Top K mg) : FnOk P w K mg base CX0 2 T.d_law_word.f T.d_law_word.fd ["_law_urn", "_law_most", "_law_kinds_so"] sp_law_word := by
  have G_law_take : FnOk P w K mg base CX0 1 T.d_law_take.f T.d_law_take.fd ["_law_urn", "_law_low_so"] sp_law_take := ok_law_take T
  refine T.d_law_word.F.ok sc_law_word (fun vs H Q E h => ?_) (fun cdv A outer s H vs Q E hr h => ?_)
  · obtain ⟨u, most, kinds, n, rfl, _⟩ := h
    rfl
  · obtain ⟨u, most, kinds, n, rfl, hU, hn, hm, k0, k1, q⟩ := h
    refine ⟨_, (pss_one 
      (ps_ret (pe_callTy (tup_k (K := K) rfl) (by rfl) T.m_tuple (by decide +kernel) (pa_cons (pe_lc (own := [("_law_k", 3)]) rfl sc_law_word.nd (pi_range1 (by rfl) T.m_range (pa_cons (pe_call G_law_take (hr.mono (by decide)) (by rfl) T.d_law_take.mg T.d_law_take.F.kp T.d_law_take.b .nil pass0 (pa_cons (pv 0) (pa_cons (pe_op op_add (pv 1) pe_int) pa_nil))) pa_nil)) (blkOk_by (N := ["_law_urn", "_law_most", "_law_kinds_so", "_law_k"]) (sc := defScope s_law_word) (by decide +kernel)) (fun _ _ _ _ _ => pg_name (i := 3) sc_law_word.nd rfl (.inl rfl)) (fun _ _ _ _ _ => pts_nil) (fun _ _ _ _ _ => (pe_call G_law_take (hr.mono (by decide)) (by rfl) T.d_law_take.mg T.d_law_take.F.kp T.d_law_take.b .nil pass0 (pa_cons (pv 0) (pa_cons (pv 2) pa_nil))))) pa_nil)))), ?_⟩
    refine ⟨.ref u, rfl, .int (most : Int), rfl, cst (r_I0 (.int ((most + 1 : Nat) : Int)) rfl ?_)⟩
    refine ⟨u, most + 1, n, rfl, hU, by omega, by omega, by omega, fun r H1 hr1 b1 hU1 => ?_⟩
    refine ⟨(r : Int), rfl, by omega, by omega, fun D nD => ?_⟩
    rw [Int.toNat_natCast]
    have nDu : D ≠ u := hU1.new nD
    have eD : ∀ b o, H b = some o → b ≠ u → b ≠ D := fun b o h nb => ne_of_none (b1 b o nb h) nD
    refine lc_range (lo := 0) (n := r) (fun i H' => ∃ ws : List Int, But u H H' ∧ Urn H' u (n + 1 + i) ∧ H' D = some (.lst (ws.map V.int)) ∧ ws.length = i) ⟨[], ?_, ?_, upd_same, rfl⟩ (fun i H' hi hp => ?_) (fun H' hp => ?_)
    · exact b1.trans (Same.but (same_new nD) u)
    · exact hU1.same (same_new nD)
    · obtain ⟨ws, b2, hU2, hD, hl⟩ := hp
      refine ⟨rfl, yes_ (iteT ?_)⟩
      refine ⟨.ref u, rfl, .int (kinds : Int), rfl, u, kinds, n + 1 + i, rfl, hU2, by omega, k0, k1, fun z H2 hz b3 hU3 => ?_⟩
      have hD2 := b3 D _ nDu hD
      refine ⟨_, hD2, room (by rw [List.length_map]; omega), ws ++ [(z : Int)], fun b o nb h => ?_, ?_, ?_, ?_⟩
      · rw [upd_ne (eD b o h nb)]
        exact b3 b o nb (b2 b o nb h)
      · obtain ⟨x, y, c, e, rest⟩ := hU3
        refine ⟨x, y, c, ?_, ?_⟩
        · rw [upd_ne nDu.symm]
          exact e
        · have e1 : ((n + 1 + (i + 1) : Nat) : Int) = ((n + 1 + i + 1 : Nat) : Int) := by omega
          rw [e1]
          exact rest
      · rw [upd_same, List.map_append]
        rfl
      · rw [List.length_append, hl]
        rfl
    · obtain ⟨ws, b2, hU2, hD, hl⟩ := hp
      refine ⟨D, _, rfl, .inl ⟨SqL.of hD, fun p np => ?_⟩⟩
      exact q p ws _ (b2.trans (Same.but (same_new np) u)) ((hU2.same (same_new np)).mono (by omega)) upd_same (by omega)
/-! ### _law_root -/
theorem getD_get {u : List Int} {k : Nat} (h : k < u.length) : u[k]? = some (u.getD k 0) := by
  rw [List.getD_eq_getElem?_getD, List.getElem?_eq_getElem h]
  rfl
theorem all_test (u : List Int) (d : Nat) : ((List.range u.length).map fun k => decide (u.getD k 0 = u.getD (k % d) 0)).all id = (List.range u.length).all fun k => decide (u.getD k 0 = u.getD (k % d) 0) := by
  rw [List.all_map]
  rfl
theorem ok_law_root (T : Top K mg) : FnOk P w K mg base CX0 1 T.d_law_root.f T.d_law_root.fd ["_law_word_here"] sp_root_of := by
  refine T.d_law_root.F.ok sc_law_root (fun vs H Q E h => ?_) (fun cdv A outer s H vs Q E hr h => ?_)
  · obtain ⟨a, u, rfl, _⟩ := h
    rfl
  · obtain ⟨a, u, rfl, ha, hn, hu, q⟩ := h
    refine ⟨_, (pss_cons 
      (ps_for PassesOwn.never rfl (pi_range2 (by rfl) T.m_range (pa_cons pe_int (pa_cons (pe_op op_add (pe_callB (len_k (K := K) rfl) (by rfl) T.m_len PySem.boot_len (pa_cons (pv 0) pa_nil)) pe_int) pa_nil))) (pg_name (i := 1) sc_law_root.nd rfl (.inr rfl)) (pss_one 
        (ps_if (PW.pt (pw_and (pt_cmpR op_eq (pe_op op_mod (pe_callB (len_k (K := K) rfl) (by rfl) T.m_len PySem.boot_len (pa_cons (pv 0) pa_nil)) (pv 1)) pe_int (nomark _)) (pw_and1 (pt_val (pe_callB (all_k (K := K) rfl rfl) (by rfl) T.m_all (by decide +kernel) (pa_cons (pe_lc (own := [("_law_k", 2)]) rfl sc_law_root.nd (pi_range1 (by rfl) T.m_range (pa_cons (pe_callB (len_k (K := K) rfl) (by rfl) T.m_len PySem.boot_len (pa_cons (pv 0) pa_nil)) pa_nil)) (blkOk_by (N := ["_law_word_here", "_law_size", "_law_k"]) (sc := defScope s_law_root) (by decide +kernel)) (fun _ _ _ _ _ => pg_name (i := 2) sc_law_root.nd rfl (.inl rfl)) (fun _ _ _ _ _ => pts_nil) (fun _ _ _ _ _ => (pe_cmpR op_eq (pe_ix (ixT_k (K := K) rfl) (pv 0) (pv 2) (fun _ _ => rfl)) (pe_ix (ixT_k (K := K) rfl) (pv 0) (pe_op op_mod (pv 2) (pv 1)) (fun _ _ => rfl)) (nomark _)))) pa_nil)))))) (pss_one 
          (ps_ret (pe_tup (pa_cons (pe_slice (slT_k (K := K) rfl) (pv 0) po_none (po_some (pv 1))) (pa_cons (pe_op op_fdiv (pe_callB (len_k (K := K) rfl) (by rfl) T.m_len PySem.boot_len (pa_cons (pv 0) pa_nil)) (pv 1)) pa_nil))))) pss_nil))) (pss_one 
      (ps_ret pe_non))), ?_⟩
    refine ⟨.ref a, rfl, a, _, rfl, .inr (SqT.of ha), cst (r_I0 (.int ((u.length : Int) + 1)) (by rw [len_word]) ?_)⟩
    refine ⟨1, (u.length : Int) + 1, rfl, by omega, ?_⟩
    have en : ((u.length : Int) + 1 - 1).toNat = u.length := by omega
    rw [en]
    refine for_range (lo := 1) (n := u.length) (fun i σ H' => ∃ y1, σ = [some (.ref a), y1, none] ∧ Same H H' ∧ i ≤ u.length ∧ ∀ j, 1 ≤ j → j ≤ i → testB u j = false) ⟨none, rfl, Same.refl H, Nat.zero_le _, fun j h1 h2 => by omega⟩ (fun i σ H' hi hp => ?_) (fun σ H' hp => ?_)
    · obtain ⟨y1, rfl, s1, _, hl⟩ := hp
      have ha1 := s1 _ _ ha
      have ed : (1 : Int) + (i : Int) = ((i + 1 : Nat) : Int) := by omega
      rw [ed]
      generalize hd : i + 1 = d
      have d1 : 1 ≤ d := by omega
      have d2 : d ≤ u.length := by omega
      have no : ∀ H2, Same H' H2 → testB u d = false → ∃ y1, [some (V.ref a), some (.int (d : Int)), none] = [some (V.ref a), y1, none] ∧ Same H H2 ∧ d ≤ u.length ∧ ∀ j, 1 ≤ j → j ≤ d → testB u j = false := fun H2 s2 ht => by
        refine ⟨_, rfl, s1.trans s2, d2, fun j j1 j2 => ?_⟩
        by_cases e : j = d
        · rw [e]
          exact ht
        · exact hl j j1 (by omega)
      refine ⟨.ref a, rfl, a, _, rfl, .inr (SqT.of ha1), .int (d : Int), rfl, r_I (.int ((u.length % d : Nat) : Int)) (by rw [len_word]; rfl) (by omega) (cst ⟨rfl, _, rfl, ?_⟩)⟩
      by_cases hm : u.length % d = 0
      · rw [decide_eq_true (show V.int ((u.length % d : Nat) : Int) = V.int 0 by rw [hm]; rfl)]
        refine iteT ?_
        refine ⟨.ref a, rfl, a, _, rfl, .inr (SqT.of ha1), ?_⟩
        refine ⟨((u.map V.int).length : Int), rfl, by omega, by rw [len_word]; omega, fun D nD => ?_⟩
        rw [len_word, Int.toNat_natCast]
        refine lc_range (lo := 0) (n := u.length) (fun k H2 => Same H' H2 ∧ H2 D = some (.lst (((List.range k).map fun k => decide (u.getD k 0 = u.getD (k % d) 0)).map V.bl))) ⟨same_new nD, upd_same⟩ (fun k H2 hk hp => ?_) (fun H2 hp => ?_)
        · obtain ⟨s2, hD⟩ := hp
          have ha2 := s2 _ _ ha1
          rw [show (0 : Int) + (k : Int) = (k : Int) from Int.zero_add _]
          refine ⟨rfl, yes_ (iteT ?_)⟩
          refine ⟨.ref a, rfl, .int (k : Int), rfl, r_ix ha2 (getD_get hk) ?_⟩
          refine ⟨.ref a, rfl, .int (k : Int), rfl, .int (d : Int), rfl, r_I (.int ((k % d : Nat) : Int)) rfl (by omega) ?_⟩
          have hkd : k % d < u.length := Nat.lt_of_lt_of_le (Nat.mod_lt k d1) d2
          refine r_ix ha2 (getD_get hkd) ⟨rfl, ?_⟩
          refine ⟨_, hD, room (by rw [List.length_map, List.length_map, List.length_range]; omega), same_mut s2 nD, ?_⟩
          rw [upd_same, List.range_succ, List.map_append, List.map_append]
          have e : decide (V.int (u.getD k 0) = V.int (u.getD (k % d) 0)) = decide (u.getD k 0 = u.getD (k % d) 0) := decide_eq_decide.mpr ⟨fun z => V.int.inj z, fun z => congrArg V.int z⟩
          rw [e]
          rfl
        · obtain ⟨s2, hD⟩ := hp
          refine ⟨D, _, rfl, SqL.of hD, _, rfl, ?_⟩
          rw [all_test]
          have et : testB u d = (List.range u.length).all fun k => decide (u.getD k 0 = u.getD (k % d) 0) := by
            unfold testB
            rw [decide_eq_true hm, Bool.true_and]
          rw [← et]
          have ha2 := s2 _ _ ha1
          by_cases ht : testB u d = true
          · rw [ht]
            have er : d = rootSize u := rootSize_is hn d1 ht fun j j1 j2 => hl j j1 (by omega)
            refine iteT ⟨.ref a, rfl, noPart ⟨.int (d : Int), rfl, (d : Int), rfl, r_take ha2 fun p4 H4 s4 h4 => ?_⟩⟩
            refine ⟨.ref a, rfl, a, _, rfl, .inr (SqT.of (s4 _ _ ha2)), .int (d : Int), rfl, r_I (.int ((u.length / d : Nat) : Int)) (by rw [len_word]; rfl) ⟨by omega, by omega⟩ ?_⟩
            refine ⟨small (by show 2 ≤ 1000; decide), fun p5 n5 => ?_⟩
            have s5 := same_new (o := .tup [.ref p4, .int ((u.length / d : Nat) : Int)]) n5
            refine q p5 p4 _ (((s1.trans s2).trans s4).trans s5) ?_ ?_
            · rw [upd_same, er]
              rfl
            · rw [s5 _ _ h4, er]
              rfl
          · have ht' := Bool.eq_false_iff.mpr ht
            rw [ht']
            exact iteF (no H2 s2 ht')
      · have ht' : testB u d = false := Bool.eq_false_iff.mpr fun z => hm (testB_iff.mp z).1
        rw [decide_eq_false (fun z => hm (by have := V.int.inj z; omega))]
        refine iteF ?_
        exact no H' (Same.refl H') ht'
    · obtain ⟨y1, rfl, s1, _, hl⟩ := hp
      have := hl u.length hn (Nat.le_refl _)
      rw [testB_len] at this
      cases this
end
end K2


namespace K2
open PySem PySem.Spec PyProof.Rows L2 G2 G3 KW RZ
/-- the words us stand at the addresses as -/
inductive Wds (H : Hp) : List Addr → List (List Int) → Prop
  | nil : Wds H [] []
  | cons {a : Addr} {u : List Int} {as : List Addr} {us : List (List Int)} : H a = some (W u) → Wds H as us → Wds H (a :: as) (u :: us)
theorem Wds.len {H : Hp} : ∀ {as : List Addr} {us : List (List Int)}, Wds H as us → as.length = us.length
  | _, _, .nil => rfl
  | _, _, .cons _ t => congrArg (· + 1) t.len
theorem Wds.same {H H' : Hp} (s : Same H H') : ∀ {as : List Addr} {us : List (List Int)}, Wds H as us → Wds H' as us
  | _, _, .nil => .nil
  | _, _, .cons h t => .cons (s _ _ h) (t.same s)
theorem Wds.append {H : Hp} : ∀ {as bs : List Addr} {us vs : List (List Int)}, Wds H as us → Wds H bs vs → Wds H (as ++ bs) (us ++ vs)
  | _, _, _, _, .nil, t => t
  | _, _, _, _, .cons h r, t => .cons h (r.append t)
theorem Wds.get {H : Hp} : ∀ {as : List Addr} {us : List (List Int)} {i : Nat} {a : Addr}, Wds H as us → as[i]? = some a → ∃ u, us[i]? = some u ∧ H a = some (W u)
  | _, _, _, _, .nil, e => by simp at e
  | _, _, 0, _, .cons h _, e => by
    have e' := Option.some.inj e
    subst e'
    exact ⟨_, rfl, h⟩
  | _, _, i + 1, _, .cons _ t, e => t.get (i := i) e
section
variable {P : Program} {w : World} {K : PySem.W.Frag} {mg : Str → Option Value} {base : Heap}
/-! ### common_root -/
def sp_common_root (C : Addr) : Sp := fun vs H Q E => ∃ (t : Addr) (as : List Addr) (us : List (List Int)), vs = [.ref t] ∧ H t = some (.tup (as.map V.ref)) ∧ Wds H as us ∧ us.length ≤ 100 ∧ (∀ u ∈ us, u.length ≤ 500) ∧
  ∀ H', Same H H' → match commonRoot us with
    | some r => ∀ p, H' p = some (W r) → Q (.ref p) H'
    | none => E (.ref C) none H'
theorem take_succ {α : Type} {l : List α} {i : Nat} {x : α} (h : l[i]? = some x) : l.take (i + 1) = l.take i ++ [x] := by
  rw [List.take_add_one, h]
  rfl
theorem full_one (u : List Int) : full [u] = if 0 < u.length then [u] else [] := by
  unfold full
  by_cases h : 0 < u.length
  · rw [if_pos h, List.filter_cons_of_pos (by exact decide_eq_true h)]
    rfl
  · rw [if_neg h, List.filter_cons_of_neg (by
      rw [decide_eq_false h]
      exact Bool.false_ne_true)]
    rfl
theorem full_mem {us : List (List Int)} {u : List Int} (h : u ∈ full us) : u ∈ us ∧ 0 < u.length := by
  obtain ⟨h1, h2⟩ := List.mem_filter.mp h
  exact ⟨h1, of_decide_eq_true h2⟩
theorem ok_common_root (T : Top K mg) (Z : Err K mg) : FnOk P w K mg base (L2.CX P w) 2 T.d_common_root.f T.d_common_root.fd ["words"] (sp_common_root Z.C) := by
  have G_root_of : FnOk P w K mg base CX0 1 T.d_root_of.f T.d_root_of.fd ["word"] sp_root_of := ok_root_of T
  refine T.d_common_root.F.okX sc_common_root (fun vs H Q E h => ?_) (fun cdv A outer s H vs Q E hr h => ?_)
  · obtain ⟨t, as, us, rfl, _⟩ := h
    rfl
  · obtain ⟨t, as, us, rfl, ht, hw, hl, hb, q⟩ := h
    refine ⟨_, (pss_cons 
      (ps_setLc (own := [("word", 1)]) (i := 2) rfl sc_common_root.nd rfl rfl (sw_true rfl rfl rfl (by decide +kernel)) (pi_tup (pv 0)) (blkOk_by (N := ["words", "word", "left", "root"]) (sc := defScope s_common_root) (by decide +kernel)) (fun _ _ _ _ _ => pg_name (i := 1) sc_common_root.nd rfl (.inl rfl)) (fun _ _ _ _ _ => (pts_one (pt_cmpR op_gt (pe_callB (len_k (K := K) rfl) (by rfl) T.m_len PySem.boot_len (pa_cons (pv 1) pa_nil)) pe_int (nomark _)))) (fun _ _ _ _ _ => (pe_callTy (tup_k (K := K) rfl) (by rfl) T.m_tuple (by decide +kernel) (pa_cons (pv 1) pa_nil)))) (pss_cons 
      (ps_if (pt_cmpR op_eq (pe_callB (len_k (K := K) rfl) (by rfl) T.m_len PySem.boot_len (pa_cons (pv 2) pa_nil)) pe_int (nomark _)) (pss_one 
        (ps_ret (pe_tup pa_nil))) pss_nil) (pss_cons 
      (ps_set (i := 3) sc_common_root.nd rfl (.inl rfl) (pe_ix (ixT_k (K := K) rfl) (pe_call G_root_of (hr.mono (by decide)) (by rfl) T.d_root_of.mg T.d_root_of.F.kp T.d_root_of.b .nil pass0 (pa_cons (pe_ix (ixL_k (K := K) rfl) (pv 2) pe_int (fun _ _ => rfl)) pa_nil)) pe_int (fun _ _ => rfl))) (pss_cons 
      (ps_for (passes_of rfl) rfl (pi_list (pv 2)) (pg_name (i := 1) sc_common_root.nd rfl (.inl rfl)) (pss_one 
        (ps_if (pt_cmpR (neD_k (K := K) rfl (hu64 hr)) (pe_ix (ixT_k (K := K) rfl) (pe_call G_root_of (hr.mono (by decide)) (by rfl) T.d_root_of.mg T.d_root_of.F.kp T.d_root_of.b .nil pass0 (pa_cons (pv 1) pa_nil)) pe_int (fun _ _ => rfl)) (pv 3) (nomark _)) (pss_one 
          (ps_raise rfl (takes_of rfl rfl rfl rfl) (pmk_own0 PySem.F.excBase_ValueError Z.xC Z.gC Z.kC (raises_own Z.bC Z.tC) rfl))) pss_nil))) (pss_one 
      (ps_ret (pv 3))))))), ?_⟩
    refine ⟨.ref t, rfl, t, rfl, ⟨_, SqT.of ht⟩, fun D nD => ?_⟩
    have nm : (as.map V.ref).length = us.length := by rw [List.length_map, hw.len]
    refine lc_tup (xs := as.map V.ref) (fun i H' => Same H H' ∧ ∃ bs, H' D = some (.lst (bs.map V.ref)) ∧ Wds H bs (full (us.take i)) ∧ bs.length ≤ i) ⟨same_new nD, [], upd_same, .nil, Nat.le_refl _⟩ (fun i H' _ hp => SqT.of (hp.1 _ _ ht)) (fun i x H' hx hp => ?_) (fun H' hp => ?_)
    · obtain ⟨s1, bs, hD, hbs, bl⟩ := hp
      rw [List.getElem?_map] at hx
      cases ha : as[i]? with
      | none =>
        rw [ha] at hx
        cases hx
      | some a =>
        rw [ha] at hx
        have ex : x = .ref a := (Option.some.inj hx).symm
        subst ex
        obtain ⟨u, hu, hau⟩ := hw.get ha
        have ha1 := s1 _ _ hau
        have hi : i < us.length := (List.getElem?_eq_some_iff.mp hu).1
        refine ⟨rfl, .ref a, rfl, a, _, rfl, .inr (SqT.of ha1), cst (r_I0 (.bl (decide (0 < u.length))) (by
          rw [len_word]
          exact congrArg V.bl (decide_eq_decide.mpr (by omega))) ⟨_, rfl, ?_⟩)⟩
        rw [take_succ hu, full_append, full_one]
        by_cases h0 : 0 < u.length
        · rw [decide_eq_true h0, if_pos h0]
          refine iteT ⟨.ref a, rfl, a, _, rfl, .inr ⟨SqT.of ha1, ?_⟩⟩
          refine ⟨_, hD, room (by rw [List.length_map]; omega), same_mut s1 nD, bs ++ [a], ?_, hbs.append (.cons hau .nil), by rw [List.length_append]; exact Nat.succ_le_succ bl⟩
          rw [upd_same, List.map_append]
          rfl
        · rw [decide_eq_false h0, if_neg h0, List.append_nil]
          exact iteF ⟨s1, bs, hD, hbs, Nat.le_succ_of_le bl⟩
    · obtain ⟨s1, bs, hD, hbs, bl⟩ := hp
      rw [nm, List.take_length] at hbs
      refine ⟨.ref D, rfl, D, _, rfl, .inl (SqL.of hD), cst ⟨rfl, _, rfl, ?_⟩⟩
      cases bs with
      | nil =>
        generalize hF : full us = F at hbs
        cases hbs
        rw [decide_eq_true (by rfl)]
        refine iteT ⟨Nat.zero_le _, fun p np => ?_⟩
        have g := q _ (s1.trans (same_new (o := .tup []) np))
        rw [commonRoot_nil hF] at g
        exact g p upd_same
      | cons b0 br =>
        generalize hF : full us = F at hbs
        cases hbs with
        | cons h0 hr0 =>
          rename_i u0 ur
          have hmem : ∀ v ∈ u0 :: ur, 0 < v.length ∧ v.length ≤ 500 := fun v hv => by
            have m := full_mem (us := us) (u := v) (by rw [hF]; exact hv)
            exact ⟨m.2, hb v m.1⟩
          have m0 := hmem u0 (List.mem_cons_self ..)
          rw [decide_eq_false (fun z => by
            have := V.int.inj z
            rw [List.length_map, List.length_cons] at this
            omega)]
          refine iteF ?_
          refine ⟨.ref D, rfl, cst ⟨D, _, 0, .ref b0, rfl, rfl, SqL.of hD, atI_nat (j := 0) rfl, ?_⟩⟩
          refine ⟨b0, u0, rfl, s1 _ _ h0, m0.1, m0.2, fun p r H2 s2 hp hr2 => ?_⟩
          refine cst ⟨p, _, 0, .ref r, rfl, rfl, SqT.of hp, atI_nat (j := 0) rfl, ?_⟩
          -- the loop
          have hD2 := s2 _ _ hD
          refine ⟨.ref D, rfl, D, rfl, ⟨_, SqL.of hD2⟩, ?_⟩
          have hall : Wds H (b0 :: br) (u0 :: ur) := .cons h0 hr0
          refine for_list (xs := (b0 :: br).map V.ref) (fun i σ H' => ∃ y1, σ = [some (.ref t), y1, some (.ref D), some (.ref r)] ∧ Same H H' ∧ H' D = some (.lst ((b0 :: br).map V.ref)) ∧ H' r = some (W (root u0)) ∧ ∀ v ∈ (u0 :: ur).take i, root v = root u0)
            ⟨none, rfl, s1.trans s2, hD2, hr2, fun v hv => by simp at hv⟩ (fun i σ H' _ hp => ?_) (fun i x σ H' hx hp => ?_) (fun σ H' hp => ?_)
          · obtain ⟨_, _, _, hd, _⟩ := hp
            exact SqL.of hd
          · obtain ⟨y1, rfl, t1, hd, hrr, hal⟩ := hp
            rw [List.getElem?_map] at hx
            cases ha : (b0 :: br)[i]? with
            | none =>
              rw [ha] at hx
              cases hx
            | some a =>
              rw [ha] at hx
              have ex : x = .ref a := (Option.some.inj hx).symm
              subst ex
              obtain ⟨v, hv, hav⟩ := hall.get ha
              have hvm : v ∈ u0 :: ur := List.mem_of_getElem? hv
              have mv := hmem v hvm
              refine ⟨.ref a, rfl, a, v, rfl, t1 _ _ hav, mv.1, mv.2, fun p2 r2 H3 s3 hp2 hr3 => ?_⟩
              refine cst ⟨p2, _, 0, .ref r2, rfl, rfl, SqT.of hp2, atI_nat (j := 0) rfl, ?_⟩
              refine ⟨.ref r, rfl, r_ne hr3 (s3 _ _ hrr) ⟨_, rfl, ?_⟩⟩
              by_cases he : root v = root u0
              · rw [decide_eq_true he]
                refine iteF ⟨_, rfl, t1.trans s3, s3 _ _ hd, s3 _ _ hrr, fun z hz => ?_⟩
                rw [take_succ hv] at hz
                rcases List.mem_append.mp hz with hz | hz
                · exact hal z hz
                · rw [List.mem_singleton.mp hz]
                  exact he
              · rw [decide_eq_false he]
                refine iteT ?_
                have g := q H3 (t1.trans s3)
                rw [commonRoot_no hF hvm he] at g
                exact g
          · obtain ⟨y1, rfl, t1, hd, hrr, hal⟩ := hp
            have g := q H' t1
            rw [commonRoot_yes hF fun v hv => hal v (by
              rw [show ((b0 :: br).map V.ref).length = (u0 :: ur).length by rw [List.length_map]; exact hall.len, List.take_length]
              exact hv)] at g
            exact ⟨.ref r, rfl, g r hrr⟩
/-! ### _law_common -/
def sp_law_common : Sp := fun vs H Q _ => ∃ (t : Addr) (as : List Addr) (us : List (List Int)), vs = [.ref t] ∧ H t = some (.tup (as.map V.ref)) ∧ Wds H as us ∧ us.length ≤ 100 ∧ (∀ u ∈ us, u.length ≤ 500) ∧
  ∀ p H', Same H H' → (match commonRoot us with
    | some r => H' p = some (W r)
    | none => H' p = some (.lst [.str "none"])) → Q (.ref p) H'
theorem ok_law_common (T : Top K mg) (Z : Err K mg) : FnOk P w K mg base CX0 3 T.d_law_common.f T.d_law_common.fd ["_law_words_so"] sp_law_common := by
  have G_common_root : FnOk P w K mg base (L2.CX P w) 2 T.d_common_root.f T.d_common_root.fd ["words"] (sp_common_root Z.C) := ok_common_root T Z
  refine T.d_law_common.F.ok sc_law_common (fun vs H Q E h => ?_) (fun cdv A outer s H vs Q E hr h => ?_)
  · obtain ⟨t, as, us, rfl, _⟩ := h
    rfl
  · obtain ⟨t, as, us, rfl, ht, hw, hl, hb, q⟩ := h
    refine ⟨_, (pss_one 
      (ps_try_only (tb := fun W => tRet (tCallS (sp_common_root Z.C) (WE W) (tCons (tVar 0) tNil))) (ts := fun _ _ _ => tRet (tLst (tCons (tC (.str "none")) tNil))) (Wout := fun _ _ _ _ => False) rfl rfl ⟨rfl, by decide, Or.inl Z.gC⟩ takes0
        (fun W pn xe tk _ => pss_one (ps_ret (pe_callS G_common_root (hr.mono (by decide)) (by rfl) T.d_common_root.mg T.d_common_root.F.kp T.d_common_root.b (fun σ => passAt tk σ) (pa_cons (pv 0) pa_nil))))
        (fun a oe cls d pn _ _ => pss_one (ps_ret (pe_lst (pa_cons pe_str pa_nil)))))), ?_⟩
    refine ⟨.ref t, rfl, t, as, us, rfl, ht, hw, hl, hb, fun H1 s1 => ?_⟩
    cases hc : commonRoot us with
    | some r =>
      intro p hp
      refine q p H1 s1 ?_
      rw [hc]
      exact hp
    | none =>
      refine ⟨true, Z.eC, fun _ a ha => ?_, fun z => nomatch z⟩
      refine ⟨small (by show 1 ≤ 1000; decide), fun p np => ?_⟩
      refine q p _ (s1.trans (same_new np)) ?_
      rw [hc]
      exact upd_same
end
end K2


namespace K2
open PySem PySem.Spec PyProof.Rows L2 G2 G3 KW RZ
/-! ### plain data in the heap -/
inductive Dt where
  | non | bl (b : Bool) | int (i : Int) | str (x : Str) | lst (ds : List Dt) | tup (ds : List Dt)
mutual
inductive Has (H : Hp) : V → Dt → Prop
  | non : Has H .non .non
  | bl (b : Bool) : Has H (.bl b) (.bl b)
  | int (i : Int) : Has H (.int i) (.int i)
  | str (x : Str) : Has H (.str x) (.str x)
  | lst {a : Addr} {xs : List V} {ds : List Dt} : H a = some (.lst xs) → HasAll H xs ds → Has H (.ref a) (.lst ds)
  | tup {a : Addr} {xs : List V} {ds : List Dt} : H a = some (.tup xs) → HasAll H xs ds → Has H (.ref a) (.tup ds)
inductive HasAll (H : Hp) : List V → List Dt → Prop
  | nil : HasAll H [] []
  | cons {v : V} {vs : List V} {d : Dt} {ds : List Dt} : Has H v d → HasAll H vs ds → HasAll H (v :: vs) (d :: ds)
end
mutual
theorem Has.same {H H' : Hp} (s : Same H H') : ∀ {v : V} {d : Dt}, Has H v d → Has H' v d
  | _, _, .non => .non
  | _, _, .bl b => .bl b
  | _, _, .int i => .int i
  | _, _, .str x => .str x
  | _, _, .lst h t => .lst (s _ _ h) (t.same s)
  | _, _, .tup h t => .tup (s _ _ h) (t.same s)
theorem HasAll.same {H H' : Hp} (s : Same H H') : ∀ {vs : List V} {ds : List Dt}, HasAll H vs ds → HasAll H' vs ds
  | _, _, .nil => .nil
  | _, _, .cons h t => .cons (h.same s) (t.same s)
end
theorem HasAll.len {H : Hp} : ∀ {vs : List V} {ds : List Dt}, HasAll H vs ds → vs.length = ds.length
  | _, _, .nil => rfl
  | _, _, .cons _ t => congrArg (· + 1) t.len
theorem HasAll.get {H : Hp} : ∀ {vs : List V} {ds : List Dt} {i : Nat} {v : V}, HasAll H vs ds → vs[i]? = some v → ∃ d, ds[i]? = some d ∧ Has H v d
  | _, _, _, _, .nil, e => by simp at e
  | _, _, 0, _, .cons h _, e => by
    have e' := Option.some.inj e
    subst e'
    exact ⟨_, rfl, h⟩
  | _, _, i + 1, _, .cons _ t, e => t.get (i := i) e
theorem HasAll.append {H : Hp} : ∀ {vs ws : List V} {ds es : List Dt}, HasAll H vs ds → HasAll H ws es → HasAll H (vs ++ ws) (ds ++ es)
  | _, _, _, _, .nil, t => t
  | _, _, _, _, .cons h r, t => .cons h (r.append t)
def Dt.ty : Dt → String
  | .non => "NoneType"
  | .bl _ => "bool"
  | .int _ => "int"
  | .str _ => "str"
  | .lst _ => "list"
  | .tup _ => "tuple"
theorem Has.ty {K : PySem.W.Frag} {H : Hp} {v : V} {d : Dt} (h : Has H v d) : TyX K H v (.type d.ty) := by
  cases h with
  | non => exact .base .non
  | bl b => exact .base (.bl b)
  | int i => exact .base (.int i)
  | str x => exact .base (.str x)
  | lst h t => exact .base (.lst h)
  | tup h t => exact .base (.tup h)
/-- n levels are enough -/
def fits : Nat → Dt → Prop
  | 0, _ => False
  | n + 1, .lst ds => ds.length ≤ 100 ∧ ∀ d ∈ ds, fits n d
  | n + 1, .tup ds => ds.length ≤ 100 ∧ ∀ d ∈ ds, fits n d
  | _ + 1, _ => True
section
variable {K : PySem.W.Frag} {H : Hp} {v : V} {d : Dt} {Q : VK}
theorem nil_ {σ : L2.St} {H : Hp} {Q : List V → Hp → Prop} (h : Q [] H) : tNil σ H Q := h
theorem r_isi {c : String} (t : String) (b : Bool) (h : Has H v d) (et : d.ty = t) (e : kitB t c = some b) (q : Q (.bl b) H) : rIsi K [v, .ty c] H Q := ⟨v, .ty c, _, _, b, rfl, .ty c, h.ty, kit_ty (by rw [et]; exact e), q⟩
theorem r_isiT {c1 c2 : String} {tp : Addr} (t : String) (b b1 b2 : Bool) (ht : H tp = some (.tup [.ty c1, .ty c2])) (h : Has H v d) (et : d.ty = t) (e1 : kitB t c1 = some b1) (e2 : kitB t c2 = some b2) (eb : (b1 || b2) = b) (q : Q (.bl b) H) : rIsiT K [v, .ref tp] H Q := by
  refine ⟨v, tp, _, _, [.type c1, .type c2], b, rfl, ht, .cons (.ty c1) (.cons (.ty c2) .nil), h.ty, ?_, q⟩
  subst et
  subst eb
  refine kitAny_cons (kit_ty e1) (fun z => kitAny_cons (kit_ty e2) (fun z2 => ?_) (fun z2 => ?_)) (fun z => ?_)
  · rw [z, z2]
    rfl
  · rw [z, z2]
    rfl
  · rw [z]
    rfl
end
section
variable {P : Program} {w : World} {K : PySem.W.Frag} {mg : Str → Option Value} {base : Heap}
/-! ### _law_same -/
def sp_law_same (n : Nat) : Sp := fun vs H Q _ => ∃ (x y : V) (d : Dt), vs = [x, y] ∧ Has H x d ∧ Has H y d ∧ fits n d ∧ ∀ H', Same H H' → Q (.bl true) H'
theorem ok_law_same (T : Top K mg) : ∀ n : Nat, FnOk P w K mg base CX0 n T.d_law_same.f T.d_law_same.fd ["_law_got", "_law_goal"] (sp_law_same n)
  | 0 => ⟨fun vs H Q E h => by
      obtain ⟨x, y, d, rfl, _⟩ := h
      rfl, fun A outer s H args us vs Q E _ _ _ _ h => by
      obtain ⟨x, y, d, rfl, _, _, f, _⟩ := h
      exact f.elim⟩
  | n + 1 => by
    have G_law_same : FnOk P w K mg base CX0 n T.d_law_same.f T.d_law_same.fd ["_law_got", "_law_goal"] (sp_law_same n) := ok_law_same T n
    refine T.d_law_same.F.ok sc_law_same (fun vs H Q E h => ?_) (fun cdv A outer s H vs Q E hr h => ?_)
    · obtain ⟨x, y, d, rfl, _⟩ := h
      rfl
    · obtain ⟨x, y, d, rfl, hx, hy, hf, q⟩ := h
      refine ⟨_, (pss_cons 
      (ps_if (pt_val (pe_callB (isiT_k (K := K) rfl) (by rfl) T.m_isinstance (by decide +kernel) (pa_cons (pv 1) (pa_cons (pe_tup (pa_cons (pe_bltn (v := .ty "list") (by rfl) T.m_list (by decide +kernel) rfl) (pa_cons (pe_bltn (v := .ty "tuple") (by rfl) T.m_tuple (by decide +kernel) rfl) pa_nil))) pa_nil)))) (pss_cons 
        (ps_if (PW.pt (pw_or (pt_cmpR op_ne (pe_callB (isi_k (K := K) rfl) (by rfl) T.m_isinstance (by decide +kernel) (pa_cons (pv 0) (pa_cons (pe_bltn (v := .ty "list") (by rfl) T.m_list (by decide +kernel) rfl) pa_nil))) (pe_callB (isi_k (K := K) rfl) (by rfl) T.m_isinstance (by decide +kernel) (pa_cons (pv 1) (pa_cons (pe_bltn (v := .ty "list") (by rfl) T.m_list (by decide +kernel) rfl) pa_nil))) (nomark _)) (pw_or1 (pt_cmpR op_ne (pe_callB (isi_k (K := K) rfl) (by rfl) T.m_isinstance (by decide +kernel) (pa_cons (pv 0) (pa_cons (pe_bltn (v := .ty "tuple") (by rfl) T.m_tuple (by decide +kernel) rfl) pa_nil))) (pe_callB (isi_k (K := K) rfl) (by rfl) T.m_isinstance (by decide +kernel) (pa_cons (pv 1) (pa_cons (pe_bltn (v := .ty "tuple") (by rfl) T.m_tuple (by decide +kernel) rfl) pa_nil))) (nomark _))))) (pss_one 
          (ps_ret pe_bl)) pss_nil) (pss_one 
        (ps_ret (pe_and (pe_cmpR op_eq (pe_callB (len_k (K := K) rfl) (by rfl) T.m_len PySem.boot_len (pa_cons (pv 0) pa_nil)) (pe_callB (len_k (K := K) rfl) (by rfl) T.m_len PySem.boot_len (pa_cons (pv 1) pa_nil)) (nomark _)) (pe_one (pe_callB (all_k (K := K) rfl rfl) (by rfl) T.m_all (by decide +kernel) (pa_cons (pe_lc (own := [("_law_mine_so", 2), ("_law_own", 3)]) rfl sc_law_same.nd (pi_zipA (by rfl) T.m_zip (pa_cons (pv 0) (pa_cons (pv 1) pa_nil))) (blkOk_by (N := ["_law_got", "_law_goal", "_law_mine_so", "_law_own"]) (sc := defScope s_law_same) (by decide +kernel)) (fun _ _ _ _ _ => (pgTup_k (K := K) (n := 2) rfl rfl (pgs_cons (pg_name (i := 2) sc_law_same.nd rfl (.inl rfl)) (pgs_cons (pg_name (i := 3) sc_law_same.nd rfl (.inl rfl)) pgs_nil)))) (fun _ _ _ _ _ => pts_nil) (fun _ _ _ _ _ => (pe_call G_law_same hr (by rfl) T.d_law_same.mg T.d_law_same.F.kp T.d_law_same.b .nil pass0 (pa_cons (pv 2) (pa_cons (pv 3) pa_nil))))) pa_nil))))))) pss_nil) (pss_cons 
      (ps_if (PW.pt (pw_or (pt_cmpR op_isN (pv 1) pe_non (nomark _)) (pw_or1 (pt_val (pe_callB (isiT_k (K := K) rfl) (by rfl) T.m_isinstance (by decide +kernel) (pa_cons (pv 1) (pa_cons (pe_tup (pa_cons (pe_bltn (v := .ty "bool") (by rfl) T.m_bool (by decide +kernel) rfl) (pa_cons (pe_bltn (v := .ty "str") (by rfl) T.m_str (by decide +kernel) rfl) pa_nil))) pa_nil))))))) (pss_one 
        (ps_ret (pe_and (pe_cmpR op_eq (pv 0) (pv 1) (nomark _)) (pe_and (pe_cmpR op_eq (pe_callB (isi_k (K := K) rfl) (by rfl) T.m_isinstance (by decide +kernel) (pa_cons (pv 0) (pa_cons (pe_bltn (v := .ty "bool") (by rfl) T.m_bool (by decide +kernel) rfl) pa_nil))) (pe_callB (isi_k (K := K) rfl) (by rfl) T.m_isinstance (by decide +kernel) (pa_cons (pv 1) (pa_cons (pe_bltn (v := .ty "bool") (by rfl) T.m_bool (by decide +kernel) rfl) pa_nil))) (nomark _)) (pe_one (pe_cmpR op_eq (pe_cmpR op_isN (pv 0) pe_non (nomark _)) (pe_cmpR op_isN (pv 1) pe_non (nomark _)) (nomark _))))))) pss_nil) (pss_one 
      (ps_ret (pe_and (pe_callB (isi_k (K := K) rfl) (by rfl) T.m_isinstance (by decide +kernel) (pa_cons (pv 0) (pa_cons (pe_bltn (v := .ty "int") (by rfl) T.m_int (by decide +kernel) rfl) pa_nil))) (pe_and (pe_not (pe_callB (isi_k (K := K) rfl) (by rfl) T.m_isinstance (by decide +kernel) (pa_cons (pv 0) (pa_cons (pe_bltn (v := .ty "bool") (by rfl) T.m_bool (by decide +kernel) rfl) pa_nil)))) (pe_one (pe_cmpR op_eq (pv 0) (pv 1) (nomark _))))))))), ?_⟩
      refine ⟨y, rfl, small (by show 2 ≤ 1000; decide), fun tp ntp => ?_⟩
      have s0 := same_new (o := .tup [.ty "list", .ty "tuple"]) ntp
      have h0 : upd H tp (.tup [.ty "list", .ty "tuple"]) tp = some (.tup [.ty "list", .ty "tuple"]) := upd_same
      replace hx := hx.same s0
      replace hy := hy.same s0
      replace q : ∀ H', Same (upd H tp (.tup [.ty "list", .ty "tuple"])) H' → Q (.bl true) H' := fun H' s' => q H' (s0.trans s')
      generalize upd H tp (.tup [.ty "list", .ty "tuple"]) = H1 at h0 hx hy q
      cases d with
      | int i =>
        refine nil_ (r_isiT "int" false false false h0 hy rfl (by decide +kernel) (by decide +kernel) rfl ⟨_, rfl, iteF ?_⟩)
        cases hx
        cases hy
        refine ⟨.int i, rfl, cst ⟨rfl, false, rfl, iteF ⟨.int i, rfl, small (by show 2 ≤ 1000; decide), fun t2 nt2 => ?_⟩⟩⟩
        have s2 := same_new (o := .tup [.ty "bool", .ty "str"]) nt2
        refine nil_ (r_isiT "int" false false false upd_same (Has.int i) rfl (by decide +kernel) (by decide +kernel) rfl ⟨_, rfl, iteF ?_⟩)
        refine ⟨.int i, rfl, cst (nil_ (r_isi "int" true (Has.int i) rfl (by decide +kernel) ⟨_, rfl, iteT ?_⟩))⟩
        refine ⟨.int i, rfl, cst (nil_ (r_isi "int" false (Has.int i) rfl (by decide +kernel) ⟨_, rfl, _, rfl, iteT ?_⟩))⟩
        refine ⟨.int i, rfl, .int i, rfl, rfl, ?_⟩
        rw [decide_eq_true rfl]
        exact q _ s2
      | non =>
        refine nil_ (r_isiT "NoneType" false false false h0 hy rfl (by decide +kernel) (by decide +kernel) rfl ⟨_, rfl, iteF ?_⟩)
        cases hx
        cases hy
        refine ⟨.non, rfl, cst ⟨rfl, true, rfl, iteT (iteT ?_)⟩⟩
        refine ⟨.non, rfl, .non, rfl, rfl, ?_⟩
        rw [decide_eq_true rfl]
        refine ⟨_, rfl, iteT ?_⟩
        refine ⟨.non, rfl, cst (nil_ (r_isi "NoneType" false Has.non rfl (by decide +kernel) ?_))⟩
        refine ⟨.non, rfl, cst (nil_ (r_isi "NoneType" false Has.non rfl (by decide +kernel) ⟨rfl, ?_⟩))⟩
        rw [decide_eq_true rfl]
        refine ⟨_, rfl, iteT ?_⟩
        refine ⟨.non, rfl, cst ⟨rfl, ?_⟩⟩
        refine ⟨.non, rfl, cst ⟨rfl, ⟨rfl, ?_⟩⟩⟩
        rw [decide_eq_true rfl]
        exact q _ (Same.refl _)
      | bl z =>
        refine nil_ (r_isiT "bool" false false false h0 hy rfl (by decide +kernel) (by decide +kernel) rfl ⟨_, rfl, iteF ?_⟩)
        cases hx
        cases hy
        refine ⟨.bl z, rfl, cst ⟨rfl, false, rfl, iteF ⟨.bl z, rfl, small (by show 2 ≤ 1000; decide), fun t2 nt2 => ?_⟩⟩⟩
        have s2 := same_new (o := .tup [.ty "bool", .ty "str"]) nt2
        refine nil_ (r_isiT "bool" true true false upd_same (Has.bl z) rfl (by decide +kernel) (by decide +kernel) rfl ⟨_, rfl, iteT ?_⟩)
        refine ⟨.bl z, rfl, .bl z, rfl, rfl, ?_⟩
        rw [decide_eq_true rfl]
        refine ⟨_, rfl, iteT ?_⟩
        refine ⟨.bl z, rfl, cst (nil_ (r_isi "bool" true (Has.bl z) rfl (by decide +kernel) ?_))⟩
        refine ⟨.bl z, rfl, cst (nil_ (r_isi "bool" true (Has.bl z) rfl (by decide +kernel) ⟨rfl, ?_⟩))⟩
        rw [decide_eq_true rfl]
        refine ⟨_, rfl, iteT ?_⟩
        refine ⟨.bl z, rfl, cst ⟨rfl, ?_⟩⟩
        refine ⟨.bl z, rfl, cst ⟨rfl, ⟨rfl, ?_⟩⟩⟩
        rw [decide_eq_true rfl]
        exact q _ s2
      | str z =>
        refine nil_ (r_isiT "str" false false false h0 hy rfl (by decide +kernel) (by decide +kernel) rfl ⟨_, rfl, iteF ?_⟩)
        cases hx
        cases hy
        refine ⟨.str z, rfl, cst ⟨rfl, false, rfl, iteF ⟨.str z, rfl, small (by show 2 ≤ 1000; decide), fun t2 nt2 => ?_⟩⟩⟩
        have s2 := same_new (o := .tup [.ty "bool", .ty "str"]) nt2
        refine nil_ (r_isiT "str" true false true upd_same (Has.str z) rfl (by decide +kernel) (by decide +kernel) rfl ⟨_, rfl, iteT ?_⟩)
        refine ⟨.str z, rfl, .str z, rfl, rfl, ?_⟩
        rw [decide_eq_true rfl]
        refine ⟨_, rfl, iteT ?_⟩
        refine ⟨.str z, rfl, cst (nil_ (r_isi "str" false (Has.str z) rfl (by decide +kernel) ?_))⟩
        refine ⟨.str z, rfl, cst (nil_ (r_isi "str" false (Has.str z) rfl (by decide +kernel) ⟨rfl, ?_⟩))⟩
        rw [decide_eq_true rfl]
        refine ⟨_, rfl, iteT ?_⟩
        refine ⟨.str z, rfl, cst ⟨rfl, ?_⟩⟩
        refine ⟨.str z, rfl, cst ⟨rfl, ⟨rfl, ?_⟩⟩⟩
        rw [decide_eq_true rfl]
        exact q _ s2
      | lst ds =>
        refine nil_ (r_isiT "list" true true false h0 hy rfl (by decide +kernel) (by decide +kernel) rfl ⟨_, rfl, iteT ?_⟩)
        refine ⟨x, rfl, cst (nil_ (r_isi "list" true hx rfl (by decide +kernel) ?_))⟩
        refine ⟨y, rfl, cst (nil_ (r_isi "list" true hy rfl (by decide +kernel) ⟨rfl, ?_⟩))⟩
        rw [decide_eq_true rfl]
        refine ⟨_, rfl, iteF ?_⟩
        refine ⟨x, rfl, cst (nil_ (r_isi "list" false hx rfl (by decide +kernel) ?_))⟩
        refine ⟨y, rfl, cst (nil_ (r_isi "list" false hy rfl (by decide +kernel) ⟨rfl, ?_⟩))⟩
        rw [decide_eq_true rfl]
        refine ⟨_, rfl, iteF ?_⟩
        cases hx with
        | lst gx tx =>
          cases hy with
          | lst gy ty =>
            rename_i a xs b ys
            obtain ⟨f1, f2⟩ : ds.length ≤ 100 ∧ ∀ d ∈ ds, fits n d := hf
            have lx := tx.len
            have ly := ty.len
            refine ⟨.ref a, rfl, a, xs, rfl, .inl (SqL.of gx), .ref b, rfl, b, ys, rfl, .inl (SqL.of gy), rfl, ?_⟩
            rw [lx, ly, decide_eq_true rfl]
            refine ⟨_, rfl, iteT ?_⟩
            refine ⟨.ref a, rfl, .ref b, rfl, a, b, xs, ys, rfl, .inl ⟨SqL.of gx, SqL.of gy, fun D nD => ?_⟩⟩
            refine lc_it (walk_zip (n := ds.length) (xs := xs) (ys := ys) (by rw [lx, ly, Nat.min_self])) (fun i H' => Same H1 H' ∧ H' D = some (.lst ((List.replicate i true).map V.bl))) ⟨same_new nD, upd_same⟩ (fun i H' _ hp => ⟨SqL.of (hp.1 _ _ gx), SqL.of (hp.1 _ _ gy)⟩) (fun i x H2 H3 hi hp hY => ?_) (fun H' hp => ?_)
            · obtain ⟨s1, hD⟩ := hp
              obtain ⟨tp2, u1, u2, rfl, nt, rfl, e1, e2⟩ := hY
              have s2 := same_new (o := .tup [u1, u2]) nt
              have ht : upd H2 tp2 (.tup [u1, u2]) tp2 = some (.tup [u1, u2]) := upd_same
              have hD3 := s2 _ _ hD
              generalize upd H2 tp2 (.tup [u1, u2]) = H3 at s2 ht hD3
              obtain ⟨d1, hd1, g1⟩ := tx.get e1
              obtain ⟨d2, hd2, g2⟩ := ty.get e2
              rw [hd1] at hd2
              have ed : d1 = d2 := Option.some.inj hd2
              subst ed
              have s3 := s1.trans s2
              refine ⟨tp2, _, rfl, SqT.of ht, rfl, u1, _, rfl, u2, _, rfl, rfl, rfl, yes_ (iteT ?_)⟩
              refine ⟨u1, rfl, u2, rfl, u1, u2, d1, rfl, g1.same s3, g2.same s3, f2 d1 (List.mem_of_getElem? hd1), fun H4 s4 => ?_⟩
              refine ⟨_, s4 _ _ hD3, room (by rw [List.length_map, List.length_replicate]; omega), same_mut (s3.trans s4) nD, ?_⟩
              rw [upd_same, List.replicate_succ', List.map_append]
              rfl
            · obtain ⟨s1, hD⟩ := hp
              refine ⟨D, _, rfl, SqL.of hD, ?_⟩
              rw [show (List.replicate ds.length true).all id = true from List.all_eq_true.mpr fun z hz => by
                rw [List.eq_of_mem_replicate hz]
                rfl]
              exact q H' s1
      | tup ds =>
        refine nil_ (r_isiT "tuple" true false true h0 hy rfl (by decide +kernel) (by decide +kernel) rfl ⟨_, rfl, iteT ?_⟩)
        refine ⟨x, rfl, cst (nil_ (r_isi "tuple" false hx rfl (by decide +kernel) ?_))⟩
        refine ⟨y, rfl, cst (nil_ (r_isi "tuple" false hy rfl (by decide +kernel) ⟨rfl, ?_⟩))⟩
        rw [decide_eq_true rfl]
        refine ⟨_, rfl, iteF ?_⟩
        refine ⟨x, rfl, cst (nil_ (r_isi "tuple" true hx rfl (by decide +kernel) ?_))⟩
        refine ⟨y, rfl, cst (nil_ (r_isi "tuple" true hy rfl (by decide +kernel) ⟨rfl, ?_⟩))⟩
        rw [decide_eq_true rfl]
        refine ⟨_, rfl, iteF ?_⟩
        cases hx with
        | tup gx tx =>
          cases hy with
          | tup gy ty =>
            rename_i a xs b ys
            obtain ⟨f1, f2⟩ : ds.length ≤ 100 ∧ ∀ d ∈ ds, fits n d := hf
            have lx := tx.len
            have ly := ty.len
            refine ⟨.ref a, rfl, a, xs, rfl, .inr (SqT.of gx), .ref b, rfl, b, ys, rfl, .inr (SqT.of gy), rfl, ?_⟩
            rw [lx, ly, decide_eq_true rfl]
            refine ⟨_, rfl, iteT ?_⟩
            refine ⟨.ref a, rfl, .ref b, rfl, a, b, xs, ys, rfl, .inr ⟨SqT.of gx, SqT.of gy, fun D nD => ?_⟩⟩
            refine lc_it (walk_zipT (n := ds.length) (xs := xs) (ys := ys) (by rw [lx, ly, Nat.min_self])) (fun i H' => Same H1 H' ∧ H' D = some (.lst ((List.replicate i true).map V.bl))) ⟨same_new nD, upd_same⟩ (fun i H' _ hp => ⟨SqT.of (hp.1 _ _ gx), SqT.of (hp.1 _ _ gy)⟩) (fun i x H2 H3 hi hp hY => ?_) (fun H' hp => ?_)
            · obtain ⟨s1, hD⟩ := hp
              obtain ⟨tp2, u1, u2, rfl, nt, rfl, e1, e2⟩ := hY
              have s2 := same_new (o := .tup [u1, u2]) nt
              have ht : upd H2 tp2 (.tup [u1, u2]) tp2 = some (.tup [u1, u2]) := upd_same
              have hD3 := s2 _ _ hD
              generalize upd H2 tp2 (.tup [u1, u2]) = H3 at s2 ht hD3
              obtain ⟨d1, hd1, g1⟩ := tx.get e1
              obtain ⟨d2, hd2, g2⟩ := ty.get e2
              rw [hd1] at hd2
              have ed : d1 = d2 := Option.some.inj hd2
              subst ed
              have s3 := s1.trans s2
              refine ⟨tp2, _, rfl, SqT.of ht, rfl, u1, _, rfl, u2, _, rfl, rfl, rfl, yes_ (iteT ?_)⟩
              refine ⟨u1, rfl, u2, rfl, u1, u2, d1, rfl, g1.same s3, g2.same s3, f2 d1 (List.mem_of_getElem? hd1), fun H4 s4 => ?_⟩
              refine ⟨_, s4 _ _ hD3, room (by rw [List.length_map, List.length_replicate]; omega), same_mut (s3.trans s4) nD, ?_⟩
              rw [upd_same, List.replicate_succ', List.map_append]
              rfl
            · obtain ⟨s1, hD⟩ := hp
              refine ⟨D, _, rfl, SqL.of hD, ?_⟩
              rw [show (List.replicate ds.length true).all id = true from List.all_eq_true.mpr fun z hz => by
                rw [List.eq_of_mem_replicate hz]
                rfl]
              exact q H' s1
end
end K2


namespace K2
open PySem PySem.Spec PyProof.Rows L2 G2 G3 KW RZ
/-- the heap without the urn -/
def off (u : Addr) (H : Hp) : Hp := fun b => if b = u then none else H b
theorem off_get {u p : Addr} {H : Hp} {o : HO} (h : H p = some o) (ne : p ≠ u) : off u H p = some o := by
  unfold off
  rw [if_neg ne]
  exact h
theorem off_but {u : Addr} {H H' : Hp} (b : But u H H') : Same (off u H) (off u H') := fun c o h => by
  unfold off at h ⊢
  by_cases e : c = u
  · rw [if_pos e] at h
    cases h
  · rw [if_neg e] at h ⊢
    exact b c o e h
theorem off_same {u : Addr} {H : Hp} : Same (off u H) H := fun c o h => by
  unfold off at h
  by_cases e : c = u
  · rw [if_pos e] at h
    cases h
  · rw [if_neg e] at h
    exact h
def dw (ws : List Int) : Dt := .tup (ws.map Dt.int)
theorem has_ints {H : Hp} : ∀ ws : List Int, HasAll H (ws.map V.int) (ws.map Dt.int)
  | [] => .nil
  | x :: r => .cons (.int x) (has_ints r)
theorem fits_word (n : Nat) (ws : List Int) (h : ws.length ≤ 100) : fits (n + 2) (dw ws) := ⟨by rw [List.length_map]; exact h, fun d hd => by
  obtain ⟨i, _, rfl⟩ := List.mem_map.mp hd
  trivial⟩
theorem Urn.ne {H : Hp} {u p : Addr} {n : Nat} {xs : List V} (h : Urn H u n) (hp : H p = some (.tup xs)) : p ≠ u := by
  obtain ⟨x, y, c, e, r⟩ := h
  exact ne_of hp e (fun z => nomatch z)
theorem has_word {H : Hp} {u p : Addr} {n : Nat} {ws : List Int} (hU : Urn H u n) (h : H p = some (W ws)) : Has (off u H) (.ref p) (dw ws) := .tup (off_get h (hU.ne h)) (has_ints ws)
/-- a list of such data, apart from the urn -/
def One (u l : Addr) (ds : List Dt) (H : Hp) : Prop := ∃ xs, H l = some (.lst xs) ∧ l ≠ u ∧ HasAll (off u H) xs ds
theorem One.but {u l : Addr} {ds : List Dt} {H H' : Hp} (h : One u l ds H) (b : But u H H') : One u l ds H' := by
  obtain ⟨xs, e, ne, t⟩ := h
  exact ⟨xs, b l _ ne e, ne, t.same (off_but b)⟩
theorem One.same {u l : Addr} {ds : List Dt} {H H' : Hp} (h : One u l ds H) (s : Same H H') : One u l ds H' := h.but (Same.but s u)
theorem One.new {u l : Addr} {ds : List Dt} {H : Hp} {n : Nat} {xs : List V} (hU : Urn H u n) (nl : H l = none) (t : HasAll (off u H) xs ds) : One u l ds (upd H l (.lst xs)) :=
  ⟨xs, upd_same, hU.new nl, t.same (off_but (Same.but (same_new nl) u))⟩
/-- what stands behind the draws -/
structure Core (u o1 o2 o3 rt rr : Addr) (one other third : List Int) (H : Hp) : Prop where
  urn : ∃ n, n ≤ 300 ∧ Urn H u n
  w1 : H o1 = some (W one)
  w2 : H o2 = some (W other)
  w3 : H o3 = some (W third)
  wt : H rt = some (.tup [.ref rr, .int (rtimes one : Nat)])
  wr : H rr = some (W (root one))
  n1 : 0 < one.length
  m1 : one.length ≤ 16
  m2 : other.length ≤ 12
  m3 : third.length ≤ 12
theorem Core.same {u o1 o2 o3 rt rr : Addr} {one other third : List Int} {H H' : Hp} (c : Core u o1 o2 o3 rt rr one other third H) (s : Same H H') : Core u o1 o2 o3 rt rr one other third H' := by
  obtain ⟨⟨n, hn, hU⟩, w1, w2, w3, wt, wr, n1, m1, m2, m3⟩ := c
  exact ⟨⟨n, hn, hU.same s⟩, s _ _ w1, s _ _ w2, s _ _ w3, s _ _ wt, s _ _ wr, n1, m1, m2, m3⟩
section
variable {P : Program} {w : World} {K : PySem.W.Frag} {mg : Str → Option Value} {base : Heap}
abbrev bodyR : List Stmt := defBody s_law_right
abbrev NR : List Str := ["_law_urn", "_law_base", "_law_one", "_law_other", "_law_third", "_law_root_here", "_law_many", "_law_heard", "_law_due", "_law_own", "_law_like", "_law_far", "_law_k", "_law_rows_so", "_law_spot", "_law_full", "_law_alike", "_law_start", "_law_turn", "_law_piece"]
abbrev XR (P : Program) (w : World) (K : PySem.W.Frag) (mg : Str → Option Value) (base : Heap) (f : Addr) (cdv : Value) (A : Around) (outer : List Env) (s : Shared) (H : Hp) (E : XK) : Cx := (cxOf CX0 P w K mg base NR "_law_right" (defScope s_law_right) f cdv A outer s H E).nox
/-! ### _law_right: the draws -/
theorem right_A (T : Top K mg) {f : Addr} {cdv : Value} {A : Around} {outer : List Env} {s : Shared} {H0 : Hp} {E : XK} (hr : Room 6 (A.deeper (envOfC "_law_right" (defScope s_law_right) s.heap.objs.size f cdv))) {tr : TS}
    (hrest : PSs (XR P w K mg base f cdv A outer s H0 E) (bodyR.drop 5) tr) :
    ∃ t, PSs (XR P w K mg base f cdv A outer s H0 E) bodyR t ∧ ∀ (D : Ends) (u : Addr) (H : Hp), Urn H u 0 →
      (∀ (b o1 o2 o3 rt rr : Addr) (one other third : List Int) (many : Nat) (H' : Hp), many ≤ 6 → But u H H' → Core u o1 o2 o3 rt rr one other third H' →
        tr D [some (.ref u), some (.ref b), some (.ref o1), some (.ref o2), some (.ref o3), some (.ref rt), some (.int (many : Int)), none, none, none, none, none, none, none, none, none, none, none, none, none] H') →
      t D (L2.start NR [.ref u]) H := by
  have G_law_take : FnOk P w K mg base CX0 1 T.d_law_take.f T.d_law_take.fd ["_law_urn", "_law_low_so"] sp_law_take := ok_law_take T
  have G_law_word : FnOk P w K mg base CX0 2 T.d_law_word.f T.d_law_word.fd ["_law_urn", "_law_most", "_law_kinds_so"] sp_law_word := ok_law_word T
  have G_law_root : FnOk P w K mg base CX0 1 T.d_law_root.f T.d_law_root.fd ["_law_word_here"] sp_root_of := ok_law_root T
  refine ⟨_, (pss_cons 
      (ps_set (i := 1) sc_law_right.nd rfl (.inl rfl) (pe_op (cat_k (K := K) rfl) (pe_call G_law_word (hr.mono (by decide)) (by rfl) T.d_law_word.mg T.d_law_word.F.kp T.d_law_word.b .nil pass0 (pa_cons (pv 0) (pa_cons pe_int (pa_cons pe_int pa_nil)))) (pe_tup (pa_cons (pe_call G_law_take (hr.mono (by decide)) (by rfl) T.d_law_take.mg T.d_law_take.F.kp T.d_law_take.b .nil pass0 (pa_cons (pv 0) (pa_cons pe_int pa_nil))) pa_nil)))) (pss_cons 
      (ps_set (i := 2) sc_law_right.nd rfl (.inr rfl) (pe_op (op_repA) (pv 1) (pe_op op_add pe_int (pe_call G_law_take (hr.mono (by decide)) (by rfl) T.d_law_take.mg T.d_law_take.F.kp T.d_law_take.b .nil pass0 (pa_cons (pv 0) (pa_cons pe_int pa_nil)))))) (Evl.pss_cut 
      (ps_set (i := 3) sc_law_right.nd rfl (.inr rfl) (pe_ifExp (pt_cmpR op_eq (pe_call G_law_take (hr.mono (by decide)) (by rfl) T.d_law_take.mg T.d_law_take.F.kp T.d_law_take.b .nil pass0 (pa_cons (pv 0) (pa_cons pe_int pa_nil))) pe_int (nomark _)) (pe_op (op_repA) (pv 1) (pe_call G_law_take (hr.mono (by decide)) (by rfl) T.d_law_take.mg T.d_law_take.F.kp T.d_law_take.b .nil pass0 (pa_cons (pv 0) (pa_cons pe_int pa_nil)))) (pe_call G_law_word (hr.mono (by decide)) (by rfl) T.d_law_word.mg T.d_law_word.F.kp T.d_law_word.b .nil pass0 (pa_cons (pv 0) (pa_cons pe_int (pa_cons pe_int pa_nil)))))) (Evl.pss_cut 
      (ps_set (i := 4) sc_law_right.nd rfl (.inl rfl) (pe_ifExp (pt_cmpR op_eq (pe_call G_law_take (hr.mono (by decide)) (by rfl) T.d_law_take.mg T.d_law_take.F.kp T.d_law_take.b .nil pass0 (pa_cons (pv 0) (pa_cons pe_int pa_nil))) pe_int (nomark _)) (pe_call G_law_word (hr.mono (by decide)) (by rfl) T.d_law_word.mg T.d_law_word.F.kp T.d_law_word.b .nil pass0 (pa_cons (pv 0) (pa_cons pe_int (pa_cons pe_int pa_nil)))) (pe_op (op_repA) (pv 1) (pe_call G_law_take (hr.mono (by decide)) (by rfl) T.d_law_take.mg T.d_law_take.F.kp T.d_law_take.b .nil pass0 (pa_cons (pv 0) (pa_cons pe_int pa_nil)))))) (pss_cons 
      (ps_asg (pe_tup (pa_cons (pe_call G_law_root (hr.mono (by decide)) (by rfl) T.d_law_root.mg T.d_law_root.F.kp T.d_law_root.b .nil pass0 (pa_cons (pv 2) pa_nil)) (pa_cons (pe_call G_law_take (hr.mono (by decide)) (by rfl) T.d_law_take.mg T.d_law_take.F.kp T.d_law_take.b .nil pass0 (pa_cons (pv 0) (pa_cons pe_int pa_nil))) pa_nil))) (pgTup_k (K := K) (n := 2) rfl rfl (pgs_cons (pg_name (i := 5) sc_law_right.nd rfl (.inr rfl)) (pgs_cons (pg_name (i := 6) sc_law_right.nd rfl (.inl rfl)) pgs_nil)))) hrest))))), fun D u H hU k => ?_⟩
  -- the base
  refine ⟨.ref u, rfl, u, 3, 2, 0, rfl, hU, by decide, by decide, by decide, by decide, fun p0 ws H1 b1 hU1 hp0 hl0 => ?_⟩
  refine ⟨.ref u, rfl, u, 2, 4, rfl, hU1, by decide, by decide, by decide, fun r0 H2 hr0 b2 hU2 => ?_⟩
  refine ⟨small (by show 1 ≤ 1000; decide), fun p1 np1 => ?_⟩
  have s3 := same_new (o := W [(r0 : Int)]) np1
  have hw1 := s3 _ _ (hU1.keep b2 hp0)
  refine r_cat (u := ws) (v := [(r0 : Int)]) hw1 upd_same (by omega) (by show 1 ≤ 500; decide) fun pb H4 s4 hpb => ?_
  have b4 : But u H H4 := (b1.trans b2).trans (Same.but (s3.trans s4) u)
  have hU4 : Urn H4 u 5 := (hU2.same s3).same s4
  have hbl : (ws ++ [(r0 : Int)]).length ≤ 4 ∧ 0 < (ws ++ [(r0 : Int)]).length := by
    rw [List.length_append]
    show ws.length + 1 ≤ 4 ∧ 0 < ws.length + 1
    omega
  generalize ws ++ [(r0 : Int)] = bs at hpb hbl
  obtain ⟨hb4, hb0⟩ := hbl
  -- one
  refine ⟨.ref pb, rfl, .ref u, rfl, u, 4, 5, rfl, hU4, by decide, by decide, by decide, fun r1 H5 hr1 b5 hU5 => ?_⟩
  refine r_I0 (.int ((1 + r1 : Nat) : Int)) (by rfl) ?_
  have hpb5 := hU4.keep b5 hpb
  refine r_rep hpb5 (by omega) (by omega) (by omega) fun o1 H6 s6 ho1 => ?_
  rw [Int.toNat_natCast] at ho1
  have hone : 0 < (rep (1 + r1) bs).length ∧ (rep (1 + r1) bs).length ≤ 16 := by
    rw [rep_len]
    refine ⟨Nat.mul_pos (by omega) hb0, ?_⟩
    calc (1 + r1) * bs.length ≤ 4 * 4 := Nat.mul_le_mul (by omega) hb4
      _ = 16 := rfl
  generalize rep (1 + r1) bs = one at ho1 hone
  have hpb6 := s6 _ _ hpb5
  have b6 : But u H H6 := (b4.trans b5).trans (Same.but s6 u)
  have hU6 : Urn H6 u 6 := hU5.same s6
  -- other
  refine ⟨fun σ' H' => ∃ (o2 : Addr) (other : List Int) (n : Nat), σ' = [some (.ref u), some (.ref pb), some (.ref o1), some (.ref o2), none, none, none, none, none, none, none, none, none, none, none, none, none, none, none, none] ∧ But u H6 H' ∧ Urn H' u n ∧ n ≤ 50 ∧ H' o2 = some (W other) ∧ other.length ≤ 12, ?_, fun σ' H' hM => ?_⟩
  · refine ⟨.ref u, rfl, u, 2, 6, rfl, hU6, by decide, by decide, by decide, fun r2 H7 hr2 b7 hU7 => ?_⟩
    refine cst ⟨rfl, _, rfl, ite2 (fun _ => ?_) (fun _ => ?_)⟩
    · refine ⟨.ref pb, rfl, .ref u, rfl, u, 4, 7, rfl, hU7, by decide, by decide, by decide, fun r3 H8 hr3 b8 hU8 => ?_⟩
      refine r_rep (hU7.keep b8 (hU6.keep b7 hpb6)) (by omega) (by omega) (by omega) fun o2 H9 s9 ho2 => ?_
      rw [Int.toNat_natCast] at ho2
      refine ⟨o2, _, 8, rfl, (b7.trans b8).trans (Same.but s9 u), hU8.same s9, by decide, ho2, ?_⟩
      rw [rep_len]
      calc r3 * bs.length ≤ 3 * 4 := Nat.mul_le_mul (by omega) hb4
        _ = 12 := rfl
    · refine ⟨.ref u, rfl, u, 6, 2, 7, rfl, hU7, by decide, by decide, by decide, by decide, fun o2 ws2 H8 b8 hU8 ho2 hl2 => ?_⟩
      exact ⟨o2, ws2, 14, rfl, b7.trans b8, hU8, by decide, ho2, by omega⟩
  obtain ⟨o2, other, n7, rfl, b7, hU7, hn7, ho2, hl2⟩ := hM
  have hpb7 := hU6.keep b7 hpb6
  have ho17 := hU6.keep b7 ho1
  -- third
  refine ⟨fun σ'' H'' => ∃ (o3 : Addr) (third : List Int) (n : Nat), σ'' = [some (.ref u), some (.ref pb), some (.ref o1), some (.ref o2), some (.ref o3), none, none, none, none, none, none, none, none, none, none, none, none, none, none, none] ∧ But u H' H'' ∧ Urn H'' u n ∧ n ≤ 100 ∧ H'' o3 = some (W third) ∧ third.length ≤ 12, ?_, fun σ'' H'' hM => ?_⟩
  · refine ⟨.ref u, rfl, u, 3, n7, rfl, hU7, by omega, by decide, by decide, fun r2 H8 hr2 b8 hU8 => ?_⟩
    refine cst ⟨rfl, _, rfl, ite2 (fun _ => ?_) (fun _ => ?_)⟩
    · refine ⟨.ref u, rfl, u, 4, 2, n7 + 1, rfl, hU8, by omega, by decide, by decide, by decide, fun o3 ws3 H9 b9 hU9 ho3 hl3 => ?_⟩
      exact ⟨o3, ws3, n7 + 1 + 4 + 1, rfl, b8.trans b9, hU9, by omega, ho3, by omega⟩
    · refine ⟨.ref pb, rfl, .ref u, rfl, u, 3, n7 + 1, rfl, hU8, by omega, by decide, by decide, fun r3 H9 hr3 b9 hU9 => ?_⟩
      refine r_rep (hU8.keep b9 (hU7.keep b8 hpb7)) (by omega) (by omega) (by omega) fun o3 H10 s10 ho3 => ?_
      rw [Int.toNat_natCast] at ho3
      refine ⟨o3, _, n7 + 2, rfl, (b8.trans b9).trans (Same.but s10 u), hU9.same s10, by omega, ho3, ?_⟩
      rw [rep_len]
      have : r3 * bs.length ≤ 3 * 4 := Nat.mul_le_mul (by omega) hb4
      omega
  obtain ⟨o3, third, n8, rfl, b8, hU8, hn8, ho3, hl3⟩ := hM
  have ho18 := hU7.keep b8 ho17
  have ho28 := hU7.keep b8 ho2
  -- the root, many
  refine ⟨.ref o1, rfl, o1, one, rfl, ho18, hone.1, by omega, fun rt rr H9 s9 hrt hrr => ?_⟩
  have hU9 := hU8.same s9
  refine ⟨.ref u, rfl, u, 7, n8, rfl, hU9, by omega, by decide, by decide, fun many H10 hm b10 hU10 => ?_⟩
  refine ⟨small (by show 2 ≤ 1000; decide), fun p2 np2 => ?_⟩
  have s11 := same_new (o := .tup [.ref rt, .int (many : Int)]) np2
  refine ⟨p2, _, rfl, SqT.of upd_same, rfl, .ref rt, _, rfl, .int (many : Int), _, rfl, rfl, ?_⟩
  refine k pb o1 o2 o3 rt rr one other third many _ (by omega) ?_ ⟨⟨n8 + 1, by omega, hU10.same s11⟩, s11 _ _ (hU9.keep b10 (s9 _ _ ho18)), s11 _ _ (hU9.keep b10 (s9 _ _ ho28)), s11 _ _ (hU9.keep b10 (s9 _ _ ho3)), s11 _ _ (hU9.keep b10 hrt), s11 _ _ (hU9.keep b10 hrr), hone.1, hone.2, hl2, hl3⟩
  exact ((((b6.trans b7).trans b8).trans (Same.but s9 u)).trans b10).trans (Same.but s11 u)
end
end K2


namespace K2
open PySem PySem.Spec PyProof.Rows L2 G2 G3 KW RZ
def loopBody : Stmt → List Stmt
  | .For _ _ b _ _ => b
  | _ => []
abbrev bodyF : List Stmt := loopBody (bodyR.getD 6 (.Pass ⟨0, 0, 0, 0⟩))
abbrev sg (u b o1 o2 o3 rt : Addr) (many : Nat) (y7 y8 y9 y10 y11 y13 y14 : Option V) : L2.St :=
  [some (.ref u), some (.ref b), some (.ref o1), some (.ref o2), some (.ref o3), some (.ref rt), some (.int (many : Int)), y7, y8, y9, y10, y11, none, y13, y14, none, none, none, none, none]
def dOpt : Option Nat → Dt
  | none => .non
  | some k => .int (k : Int)
theorem has_opt {H : Hp} : ∀ o : Option Nat, Has H (vOpt o) (dOpt o)
  | none => .non
  | some k => .int (k : Int)
theorem fits_opt (n : Nat) : ∀ o : Option Nat, fits (n + 1) (dOpt o)
  | none => trivial
  | some _ => trivial
/-- what a turn adds -/
def esF (one v : List Int) : List Dt := [.bl (decide (one ++ v = v ++ one)), .bl (decide (one ++ v = v ++ one)), .bl (decide (one ++ v = v ++ one)), dOpt (firstApart one v), dOpt (firstApart one v)]
/-- xs + ys where both are such lists -/
theorem r_one {u h b : Addr} {ds es : List Dt} {zs : List V} {H : Hp} {n : Nat} {Q : VK} (hU : Urn H u n) (h1 : One u h ds H) (hb : H b = some (.lst zs)) (hz : HasAll (off u H) zs es) (l1 : ds.length ≤ 400) (l2 : es.length ≤ 400)
    (q : ∀ p H', Same H H' → One u p (ds ++ es) H' → Q (.ref p) H') : rCat (.ref h) (.ref b) H Q := by
  obtain ⟨xs, ex, ne, hx⟩ := h1
  refine ⟨h, b, xs, zs, rfl, rfl, ex, hb, small (by rw [hx.len, hz.len]; omega), fun p np => ?_⟩
  exact q p _ (same_new np) (One.new hU np (hx.append hz))
theorem spots_succ {one v : List Int} {k : Nat} : ((List.range (k + 1)).filter fun k => decide (one.getD k 0 ≠ v.getD k 0)) = ((List.range k).filter fun k => decide (one.getD k 0 ≠ v.getD k 0)) ++ (if one.getD k 0 ≠ v.getD k 0 then [k] else []) := by
  rw [List.range_succ, List.filter_append]
  by_cases h : one.getD k 0 ≠ v.getD k 0
  · rw [if_pos h, List.filter_cons_of_pos (by exact decide_eq_true h)]
    rfl
  · rw [if_neg h, List.filter_cons_of_neg (by
      rw [decide_eq_false h]
      exact Bool.false_ne_true)]
    rfl
section
variable {P : Program} {w : World} {K : PySem.W.Frag} {mg : Str → Option Value} {base : Heap}
/-! ### _law_right: a turn of its loop -/
theorem right_F (T : Top K mg) {f : Addr} {cdv : Value} {A : Around} {outer : List Env} {s : Shared} {H0 : Hp} {E : XK} (hr : Room 6 (A.deeper (envOfC "_law_right" (defScope s_law_right) s.heap.objs.size f cdv))) :
    ∃ t, PSs (XR P w K mg base f cdv A outer s H0 E) bodyF t ∧ ∀ (D : Ends) (u b o1 o2 o3 rt rr ov h d : Addr) (one other third v : List Int) (many : Nat) (ds : List Dt) (y10 y11 y13 y14 : Option V) (H : Hp),
      Core u o1 o2 o3 rt rr one other third H → H ov = some (W v) → v.length ≤ 12 → One u h ds H → One u d ds H → ds.length ≤ 50 →
      (∀ (h' d' : Addr) (z10 z11 z13 z14 : Option V) (H' : Hp), Same H H' → One u h' (ds ++ esF one v) H' → One u d' (ds ++ esF one v) H' →
        D.nx (sg u b o1 o2 o3 rt many (some (.ref h')) (some (.ref d')) (some (.ref ov)) z10 z11 z13 z14) H') →
      t D (sg u b o1 o2 o3 rt many (some (.ref h)) (some (.ref d)) (some (.ref ov)) y10 y11 y13 y14) H := by
  have G_law_root : FnOk P w K mg base CX0 1 T.d_law_root.f T.d_law_root.fd ["_law_word_here"] sp_root_of := ok_law_root T
  have G_commute : FnOk P w K mg base CX0 1 T.d_commute.f T.d_commute.fd ["word", "other"] sp_commute := ok_commute T
  have G_first_apart : FnOk P w K mg base CX0 1 T.d_first_apart.f T.d_first_apart.fd ["word", "other"] sp_first_apart := ok_first_apart T
  refine ⟨_, (Evl.pss_cut 
      (ps_set (i := 10) sc_law_right.nd rfl (.inl rfl) (pe_or (pe_cmpR (eqD_k (K := K) rfl (hu64 hr)) (pv 9) (pe_tup pa_nil) (nomark _)) (pe_one (pe_cmpR (eqD_k (K := K) rfl (hu64 hr)) (pe_ix (ixT_k (K := K) rfl) (pe_call G_law_root (hr.mono (by decide)) (by rfl) T.d_law_root.mg T.d_law_root.F.kp T.d_law_root.b .nil pass0 (pa_cons (pv 9) pa_nil)) pe_int (fun _ _ => rfl)) (pe_ix (ixT_k (K := K) rfl) (pv 5) pe_int (fun _ _ => rfl)) (nomark _))))) (pss_cons 
      (ps_set (i := 11) sc_law_right.nd rfl (.inl rfl) (pe_op op_add (pe_callB (len_k (K := K) rfl) (by rfl) T.m_len PySem.boot_len (pa_cons (pv 2) pa_nil)) (pe_callB (len_k (K := K) rfl) (by rfl) T.m_len PySem.boot_len (pa_cons (pv 9) pa_nil)))) (Evl.pss_cut 
      (ps_set (i := 13) sc_law_right.nd rfl (.inl rfl) (pe_and (pe_cmpR (neD_k (K := K) rfl (hu64 hr)) (pv 9) (pe_tup pa_nil) (nomark _)) (pe_one (pe_callB (all_k (K := K) rfl rfl) (by rfl) T.m_all (by decide +kernel) (pa_cons (pe_lc (own := [("_law_k", 12)]) rfl sc_law_right.nd (pi_range1 (by rfl) T.m_range (pa_cons (pv 11) pa_nil)) (blkOk_by (N := ["_law_urn", "_law_base", "_law_one", "_law_other", "_law_third", "_law_root_here", "_law_many", "_law_heard", "_law_due", "_law_own", "_law_like", "_law_far", "_law_k", "_law_rows_so", "_law_spot", "_law_full", "_law_alike", "_law_start", "_law_turn", "_law_piece"]) (sc := defScope s_law_right) (by decide +kernel)) (fun _ _ _ _ _ => pg_name (i := 12) sc_law_right.nd rfl (.inl rfl)) (fun _ _ _ _ _ => pts_nil) (fun _ _ _ _ _ => (pe_cmpR op_eq (pe_ix (ixT_k (K := K) rfl) (pv 2) (pe_op op_mod (pv 12) (pe_callB (len_k (K := K) rfl) (by rfl) T.m_len PySem.boot_len (pa_cons (pv 2) pa_nil))) (fun _ _ => rfl)) (pe_ix (ixT_k (K := K) rfl) (pv 9) (pe_op op_mod (pv 12) (pe_callB (len_k (K := K) rfl) (by rfl) T.m_len PySem.boot_len (pa_cons (pv 9) pa_nil))) (fun _ _ => rfl)) (nomark _)))) pa_nil))))) (pss_cons 
      (ps_set (i := 7) sc_law_right.nd rfl (.inl rfl) (pe_op op_cat (pv 7) (pe_lst (pa_cons (pe_call G_commute (hr.mono (by decide)) (by rfl) T.d_commute.mg T.d_commute.F.kp T.d_commute.b .nil pass0 (pa_cons (pv 2) (pa_cons (pv 9) pa_nil))) (pa_cons (pe_call G_commute (hr.mono (by decide)) (by rfl) T.d_commute.mg T.d_commute.F.kp T.d_commute.b .nil pass0 (pa_cons (pv 9) (pa_cons (pv 2) pa_nil))) (pa_cons (pe_call G_commute (hr.mono (by decide)) (by rfl) T.d_commute.mg T.d_commute.F.kp T.d_commute.b .nil pass0 (pa_cons (pv 2) (pa_cons (pv 9) pa_nil))) pa_nil)))))) (Evl.pss_cut 
      (ps_set (i := 8) sc_law_right.nd rfl (.inl rfl) (pe_op op_cat (pv 8) (pe_lst (pa_cons (pv 10) (pa_cons (pv 10) (pa_cons (pe_or (pe_cmpR (eqD_k (K := K) rfl (hu64 hr)) (pv 9) (pe_tup pa_nil) (nomark _)) (pe_one (pv 13))) pa_nil)))))) (pss_cons 
      (ps_setLc (own := [("_law_k", 12)]) (i := 14) rfl sc_law_right.nd rfl rfl (sw_true rfl rfl rfl (by decide +kernel)) (pi_range1 (by rfl) T.m_range (pa_cons (pe_callB (call_min2 rfl) (by rfl) T.m_min (by decide +kernel) (pa_cons (pe_callB (len_k (K := K) rfl) (by rfl) T.m_len PySem.boot_len (pa_cons (pv 2) pa_nil)) (pa_cons (pe_callB (len_k (K := K) rfl) (by rfl) T.m_len PySem.boot_len (pa_cons (pv 9) pa_nil)) pa_nil))) pa_nil)) (blkOk_by (N := ["_law_urn", "_law_base", "_law_one", "_law_other", "_law_third", "_law_root_here", "_law_many", "_law_heard", "_law_due", "_law_own", "_law_like", "_law_far", "_law_k", "_law_rows_so", "_law_spot", "_law_full", "_law_alike", "_law_start", "_law_turn", "_law_piece"]) (sc := defScope s_law_right) (by decide +kernel)) (fun _ _ _ _ _ => pg_name (i := 12) sc_law_right.nd rfl (.inl rfl)) (fun _ _ _ _ _ => (pts_one (pt_cmpR op_ne (pe_ix (ixT_k (K := K) rfl) (pv 2) (pv 12) (fun _ _ => rfl)) (pe_ix (ixT_k (K := K) rfl) (pv 9) (pv 12) (fun _ _ => rfl)) (nomark _)))) (fun _ _ _ _ _ => (pv 12))) (pss_cons 
      (ps_set (i := 7) sc_law_right.nd rfl (.inl rfl) (pe_op op_cat (pv 7) (pe_lst (pa_cons (pe_call G_first_apart (hr.mono (by decide)) (by rfl) T.d_first_apart.mg T.d_first_apart.F.kp T.d_first_apart.b .nil pass0 (pa_cons (pv 2) (pa_cons (pv 9) pa_nil))) (pa_cons (pe_call G_first_apart (hr.mono (by decide)) (by rfl) T.d_first_apart.mg T.d_first_apart.F.kp T.d_first_apart.b .nil pass0 (pa_cons (pv 9) (pa_cons (pv 2) pa_nil))) pa_nil))))) (pss_one 
      (ps_set (i := 8) sc_law_right.nd rfl (.inl rfl) (pe_op op_cat (pv 8) (pe_op op_rep (pe_lst (pa_cons (pe_ifExp (pt_cmpR op_gt (pe_callB (len_k (K := K) rfl) (by rfl) T.m_len PySem.boot_len (pa_cons (pv 14) pa_nil)) pe_int (nomark _)) (pe_ix (ixL_k (K := K) rfl) (pv 14) pe_int (fun _ _ => rfl)) pe_non) pa_nil)) pe_int))))))))))), fun D u b o1 o2 o3 rt rr ov h d one other third v many ds y10 y11 y13 y14 H hC hov hv hh hd hds k => ?_⟩
  have n1 := hC.n1
  have m1 := hC.m1
  generalize hc : decide (one ++ v = v ++ one) = c
  -- like
  refine ⟨fun σ' H' => σ' = sg u b o1 o2 o3 rt many (some (.ref h)) (some (.ref d)) (some (.ref ov)) (some (.bl c)) y11 y13 y14 ∧ Same H H', ?_, fun σ' H' hM => ?_⟩
  · refine ⟨.ref ov, rfl, Nat.zero_le _, fun p np => ?_⟩
    have s1 := same_new (o := .tup []) np
    refine r_eq (u := v) (v := []) (s1 _ _ hov) upd_same ⟨_, rfl, ?_⟩
    by_cases e : v = []
    · rw [decide_eq_true e]
      have ec : c = true := by
        rw [← hc]
        exact decide_eq_true ((comm_iff_root n1).mpr (.inl e))
      rw [ec]
      exact iteT ⟨rfl, s1⟩
    · rw [decide_eq_false e]
      have v0 : 0 < v.length := List.length_pos_iff.mpr e
      refine iteF ⟨.ref ov, rfl, ov, v, rfl, s1 _ _ hov, v0, by omega, fun p2 r2 H2 s2 hp2 hr2 => ?_⟩
      refine cst ⟨p2, _, 0, .ref r2, rfl, rfl, SqT.of hp2, atI_nat (j := 0) rfl, ?_⟩
      refine ⟨.ref rt, rfl, rt, _, 0, .ref rr, rfl, rfl, SqT.of (s2 _ _ (s1 _ _ hC.wt)), atI_nat (j := 0) rfl, ?_⟩
      refine r_eq hr2 (s2 _ _ (s1 _ _ hC.wr)) ?_
      have ec : decide (root v = root one) = c := by
        rw [← hc]
        exact decide_eq_decide.mpr ⟨fun z => (comm_iff_root n1).mpr (.inr z), fun z => ((comm_iff_root n1).mp z).resolve_left e⟩
      rw [ec]
      exact ⟨rfl, s1.trans s2⟩
  obtain ⟨rfl, s1⟩ := hM
  replace hC := hC.same s1
  replace hov := s1 _ _ hov
  replace hh := hh.same s1
  replace hd := hd.same s1
  -- far
  refine ⟨.ref o1, rfl, o1, _, rfl, .inr (SqT.of hC.w1), .ref ov, rfl, ov, _, rfl, .inr (SqT.of hov), r_I0 (.int ((one.length + v.length : Nat) : Int)) (by rw [len_word, len_word]; rfl) ?_⟩
  -- rows_so
  refine ⟨fun σ' H2 => ∃ r : Bool, σ' = sg u b o1 o2 o3 rt many (some (.ref h)) (some (.ref d)) (some (.ref ov)) (some (.bl c)) (some (.int ((one.length + v.length : Nat) : Int))) (some (.bl r)) y14 ∧ Same H' H2 ∧ (v ≠ [] → r = c), ?_, fun σ' H2 hM => ?_⟩
  · refine ⟨.ref ov, rfl, Nat.zero_le _, fun p np => ?_⟩
    have s2 := same_new (o := .tup []) np
    refine r_ne (u := v) (v := []) (s2 _ _ hov) upd_same ⟨_, rfl, ?_⟩
    by_cases e : v = []
    · rw [decide_eq_true e]
      exact iteF ⟨false, rfl, s2, fun z => absurd e z⟩
    · rw [decide_eq_false e]
      have v0 : 0 < v.length := List.length_pos_iff.mpr e
      refine iteT ⟨_, rfl, ((one.length + v.length : Nat) : Int), rfl, by omega, by omega, fun Dl nD => ?_⟩
      rw [Int.toNat_natCast]
      have hC2 := hC.same s2
      have hov2 := s2 _ _ hov
      refine lc_range (lo := 0) (n := one.length + v.length) (fun i H3 => Same (upd H' p (.tup [])) H3 ∧ H3 Dl = some (.lst (((List.range i).map fun j => decide (per one j = per v j)).map V.bl))) ⟨same_new nD, upd_same⟩ (fun i H3 hi hp => ?_) (fun H3 hp => ?_)
      · obtain ⟨s3, hD⟩ := hp
        rw [show (0 : Int) + (i : Int) = (i : Int) from Int.zero_add _]
        have w1 := s3 _ _ hC2.w1
        have wv := s3 _ _ hov2
        refine ⟨rfl, yes_ (iteT ?_)⟩
        refine ⟨.ref o1, rfl, .int (i : Int), rfl, .ref o1, rfl, o1, _, rfl, .inr (SqT.of w1), r_I (.int ((i % one.length : Nat) : Int)) (by rw [len_word]; rfl) (by rw [len_word]; omega) ?_⟩
        refine r_ix w1 (per_get one i n1) ?_
        refine ⟨.ref ov, rfl, .int (i : Int), rfl, .ref ov, rfl, ov, _, rfl, .inr (SqT.of wv), r_I (.int ((i % v.length : Nat) : Int)) (by rw [len_word]; rfl) (by rw [len_word]; omega) ?_⟩
        refine r_ix wv (per_get v i v0) ⟨rfl, ?_⟩
        refine ⟨_, hD, room (by rw [List.length_map, List.length_map, List.length_range]; omega), same_mut s3 nD, ?_⟩
        rw [upd_same, List.range_succ, List.map_append, List.map_append]
        have e2 : decide (V.int (per one i) = V.int (per v i)) = decide (per one i = per v i) := decide_eq_decide.mpr ⟨fun z => V.int.inj z, fun z => congrArg V.int z⟩
        rw [e2]
        rfl
      · obtain ⟨s3, hD⟩ := hp
        refine ⟨Dl, _, rfl, SqL.of hD, ?_⟩
        refine ⟨_, rfl, s2.trans s3, fun _ => ?_⟩
        rw [List.all_map, ← hc]
        have far := comm_iff_far (u := one) (v := v) n1
        by_cases e2 : one ++ v = v ++ one
        · rw [decide_eq_true e2]
          refine List.all_eq_true.mpr fun j hj => decide_eq_true ?_
          exact (far.mp e2).resolve_left e j (List.mem_range.mp hj)
        · rw [decide_eq_false e2]
          refine Bool.eq_false_iff.mpr fun z => e2 (far.mpr (.inr fun j hj => ?_))
          exact of_decide_eq_true (List.all_eq_true.mp z j (List.mem_range.mpr hj))
  obtain ⟨r, rfl, s2, hrc⟩ := hM
  replace hC := hC.same s2
  replace hov := s2 _ _ hov
  replace hh := hh.same s2
  replace hd := hd.same s2
  -- heard: the three
  obtain ⟨nu, hnu, hU⟩ := hC.urn
  refine ⟨.ref h, rfl, .ref o1, rfl, .ref ov, rfl, o1, ov, one, v, rfl, hC.w1, hov, by omega, by omega, fun H3 s3 => ?_⟩
  refine ⟨.ref ov, rfl, .ref o1, rfl, ov, o1, v, one, rfl, s3 _ _ hov, s3 _ _ hC.w1, by omega, by omega, fun H4 s4 => ?_⟩
  have s34 := s3.trans s4
  refine ⟨.ref o1, rfl, .ref ov, rfl, o1, ov, one, v, rfl, s34 _ _ hC.w1, s34 _ _ hov, by omega, by omega, fun H5 s5 => ?_⟩
  have s35 := s34.trans s5
  refine ⟨small (by show 3 ≤ 1000; decide), fun p6 np6 => ?_⟩
  have ec2 : decide (v ++ one = one ++ v) = c := by
    rw [← hc]
    exact decide_eq_decide.mpr ⟨fun z => z.symm, fun z => z.symm⟩
  rw [ec2, hc]
  have s6 := s35.trans (same_new (o := .lst [.bl c, .bl c, .bl c]) np6)
  refine r_one (es := [.bl c, .bl c, .bl c]) (hU.same s6) (hh.same s6) upd_same (.cons (.bl c) (.cons (.bl c) (.cons (.bl c) .nil))) (by omega) (by show 3 ≤ 400; decide) fun h2 H7 s7 hh2 => ?_
  have s27 := s6.trans s7
  replace hC := hC.same s27
  replace hov := s27 _ _ hov
  replace hd := hd.same s27
  replace hU := hU.same s27
  -- due: the three
  refine ⟨fun σ' H8 => ∃ d2, σ' = sg u b o1 o2 o3 rt many (some (.ref h2)) (some (.ref d2)) (some (.ref ov)) (some (.bl c)) (some (.int ((one.length + v.length : Nat) : Int))) (some (.bl r)) y14 ∧ Same H7 H8 ∧ One u d2 (ds ++ [.bl c, .bl c, .bl c]) H8, ?_, fun σ' H8 hM => ?_⟩
  · refine ⟨.ref d, rfl, .bl c, rfl, .bl c, rfl, ?_⟩
    refine ⟨.ref ov, rfl, Nat.zero_le _, fun p np => ?_⟩
    have t1 := same_new (o := .tup []) np
    refine r_eq (u := v) (v := []) (t1 _ _ hov) upd_same ⟨_, rfl, ?_⟩
    have fin : ∀ p2, upd H7 p (.tup []) p2 = none → rCat (.ref d) (.ref p2) (upd (upd H7 p (.tup [])) p2 (.lst [.bl c, .bl c, .bl c])) (fun x H8 => ∃ d2, (sg u b o1 o2 o3 rt many (some (.ref h2)) (some (.ref d)) (some (.ref ov)) (some (.bl c)) (some (.int ((one.length + v.length : Nat) : Int))) (some (.bl r)) y14).set 8 (some x) = sg u b o1 o2 o3 rt many (some (.ref h2)) (some (.ref d2)) (some (.ref ov)) (some (.bl c)) (some (.int ((one.length + v.length : Nat) : Int))) (some (.bl r)) y14 ∧ Same H7 H8 ∧ One u d2 (ds ++ [.bl c, .bl c, .bl c]) H8) := fun p2 np2 => by
      have t2 := t1.trans (same_new (o := .lst [.bl c, .bl c, .bl c]) np2)
      exact r_one (es := [.bl c, .bl c, .bl c]) (hU.same t2) (hd.same t2) upd_same (.cons (.bl c) (.cons (.bl c) (.cons (.bl c) .nil))) (by omega) (by show 3 ≤ 400; decide) fun d2 H9 t3 hd2 => ⟨d2, rfl, t2.trans t3, hd2⟩
    by_cases e : v = []
    · rw [decide_eq_true e]
      have ec : c = true := by
        rw [← hc]
        exact decide_eq_true ((comm_iff_root n1).mpr (.inl e))
      refine iteT ⟨small (by show 3 ≤ 1000; decide), fun p2 np2 => ?_⟩
      have g := fin p2 np2
      rw [ec] at g ⊢
      exact g
    · rw [decide_eq_false e]
      refine iteF ⟨.bl r, rfl, small (by show 3 ≤ 1000; decide), fun p2 np2 => ?_⟩
      have er := hrc e
      have g := fin p2 np2
      rw [← er] at g ⊢
      exact g
  obtain ⟨d2, rfl, s8, hd2⟩ := hM
  replace hC := hC.same s8
  replace hov := s8 _ _ hov
  replace hh2 := hh2.same s8
  replace hU := hU.same s8
  -- spot
  refine ⟨.ref o1, rfl, o1, _, rfl, .inr (SqT.of hC.w1), .ref ov, rfl, ov, _, rfl, .inr (SqT.of hov), _, _, rfl, ?_⟩
  have emin : (if ((v.map V.int).length : Int) < ((one.map V.int).length : Int) then ((v.map V.int).length : Int) else ((one.map V.int).length : Int)) = ((min one.length v.length : Nat) : Int) := by
    rw [len_word, len_word]
    split <;> omega
  rw [emin]
  refine ⟨((min one.length v.length : Nat) : Int), rfl, by omega, by omega, fun Dl nD => ?_⟩
  rw [Int.toNat_natCast]
  refine lc_range (lo := 0) (n := min one.length v.length) (fun i H9 => Same H8 H9 ∧ H9 Dl = some (.lst ((((List.range i).filter fun j => decide (one.getD j 0 ≠ v.getD j 0)).map fun j : Nat => V.int (j : Int))))) ⟨same_new nD, upd_same⟩ (fun i H9 hi hp => ?_) (fun H9 hp => ?_)
  · obtain ⟨s9, hD⟩ := hp
    rw [show (0 : Int) + (i : Int) = (i : Int) from Int.zero_add _]
    have w1 := s9 _ _ hC.w1
    have wv := s9 _ _ hov
    refine ⟨rfl, .ref o1, rfl, .int (i : Int), rfl, r_ix w1 (getD_get (show i < one.length by omega)) ?_⟩
    refine ⟨.ref ov, rfl, .int (i : Int), rfl, r_ix wv (getD_get (show i < v.length by omega)) ⟨rfl, _, rfl, ?_⟩⟩
    rw [spots_succ]
    by_cases e : one.getD i 0 = v.getD i 0
    · rw [decide_eq_true (congrArg V.int e), if_neg (fun z => z e), List.append_nil]
      exact iteF ⟨s9, hD⟩
    · rw [decide_eq_false (fun z => e (V.int.inj z)), if_pos e]
      refine iteT ⟨.int (i : Int), rfl, _, hD, room ?_, same_mut s9 nD, ?_⟩
      · rw [List.length_map]
        have l := List.length_filter_le (fun j => decide (one.getD j 0 ≠ v.getD j 0)) (List.range i)
        rw [List.length_range] at l
        omega
      · rw [upd_same, List.map_append]
        rfl
  obtain ⟨s9, hD⟩ := hp
  replace hC := hC.same s9
  replace hov := s9 _ _ hov
  replace hh2 := hh2.same s9
  replace hd2 := hd2.same s9
  replace hU := hU.same s9
  -- heard: the two
  refine ⟨.ref h2, rfl, .ref o1, rfl, .ref ov, rfl, o1, ov, one, v, rfl, hC.w1, hov, by omega, by omega, fun H10 s10 => ?_⟩
  refine ⟨.ref ov, rfl, .ref o1, rfl, ov, o1, v, one, rfl, s10 _ _ hov, s10 _ _ hC.w1, by omega, by omega, fun H11 s11 => ?_⟩
  have s1011 := s10.trans s11
  have efa : firstApart v one = firstApart one v := by
    unfold firstApart
    rw [spots_symm]
  rw [efa]
  refine ⟨small (by show 2 ≤ 1000; decide), fun p12 np12 => ?_⟩
  have s12 := s1011.trans (same_new (o := .lst [vOpt (firstApart one v), vOpt (firstApart one v)]) np12)
  have ho := has_opt (H := off u H9) (firstApart one v)
  refine r_one (es := [dOpt (firstApart one v), dOpt (firstApart one v)]) (hU.same s12) (hh2.same s12) upd_same (.cons (has_opt _) (.cons (has_opt _) .nil)) (by rw [List.length_append]; show ds.length + 3 ≤ 400; omega) (by show 2 ≤ 400; decide) fun h3 H13 s13 hh3 => ?_
  have s1213 := s12.trans s13
  replace hC := hC.same s1213
  replace hov := s1213 _ _ hov
  replace hd2 := hd2.same s1213
  replace hU := hU.same s1213
  have hD13 := s1213 _ _ hD
  have sall : Same H H13 := (((s1.trans s2).trans s27).trans ((s8.trans s9).trans s1213))
  rw [List.append_assoc] at hh3
  have ees : [Dt.bl c, .bl c, .bl c] ++ [dOpt (firstApart one v), dOpt (firstApart one v)] = esF one v := by
    unfold esF
    rw [hc]
    rfl
  rw [ees] at hh3
  have fin : ∀ x, x = vOpt (firstApart one v) → ∀ p, H13 p = none → (fun H14 (Q : VK) => rRep (.ref p) (.int 2) H14 Q) (upd H13 p (.lst [x])) (fun y H15 => rCat (.ref d2) y H15 fun z H16 => D.nx ((sg u b o1 o2 o3 rt many (some (.ref h3)) (some (.ref d2)) (some (.ref ov)) (some (.bl c)) (some (.int ((one.length + v.length : Nat) : Int))) (some (.bl r)) (some (.ref Dl))).set 8 (some z)) H16) := fun x ex p np => by
    subst ex
    have t1 := same_new (o := .lst [vOpt (firstApart one v)]) np
    refine ⟨p, 2, _, rfl, rfl, upd_same, by decide, by decide, small (by show 1 * 2 ≤ 1000; decide), fun p2 np2 => ?_⟩
    have t2 := t1.trans (same_new (o := .lst (List.replicate (Int.toNat 2) [vOpt (firstApart one v)]).flatten) np2)
    refine r_one (es := [dOpt (firstApart one v), dOpt (firstApart one v)]) (hU.same t2) (hd2.same t2) upd_same (.cons (has_opt _) (.cons (has_opt _) .nil)) (by rw [List.length_append]; show ds.length + 3 ≤ 400; omega) (by show 2 ≤ 400; decide) fun d3 H16 t3 hd3 => ?_
    rw [List.append_assoc, ees] at hd3
    have t := t2.trans t3
    exact k h3 d3 _ _ _ _ H16 (sall.trans t) (hh3.same t) hd3
  -- due: the two
  refine ⟨.ref d2, rfl, .ref Dl, rfl, Dl, _, rfl, .inl (SqL.of hD13), cst (r_I0 (.bl (decide (0 < (spots one v).length))) (by
    rw [List.length_map]
    exact congrArg V.bl (decide_eq_decide.mpr (by
      show (0 : Int) < ((spots one v).length : Int) ↔ _
      omega))) ⟨_, rfl, ite2 (fun e => ?_) (fun e => ?_)⟩)⟩
  · have e0 := of_decide_eq_true e
    obtain ⟨j, r0, ej⟩ : ∃ j r0, spots one v = j :: r0 := by
      cases hsp : spots one v with
      | nil =>
        rw [hsp] at e0
        exact absurd e0 (by decide)
      | cons j r0 => exact ⟨j, r0, rfl⟩
    have hD14 : H13 Dl = some (.lst ((spots one v).map fun j : Nat => V.int (j : Int))) := hD13
    rw [ej] at hD14
    refine ⟨.ref Dl, rfl, Dl, _, 0, .int (j : Int), rfl, rfl, SqL.of hD14, atI_nat (j := 0) rfl, small (by show 1 ≤ 1000; decide), fun p np => ?_⟩
    exact fin (.int (j : Int)) (by unfold firstApart; rw [ej]; rfl) p np
  · have e0 : spots one v = [] := by
      cases hsp : spots one v with
      | nil => rfl
      | cons j r0 =>
        exfalso
        apply e
        rw [hsp]
        exact decide_eq_true (Nat.zero_lt_succ _)
    refine ⟨small (by show 1 ≤ 1000; decide), fun p np => ?_⟩
    exact fin .non (by unfold firstApart; rw [e0]; rfl) p np
end
end K2


namespace K2
open PySem PySem.Spec PyProof.Rows L2 G2 G3 KW RZ
theorem fits_esF (one v : List Int) : ∀ x ∈ esF one v, fits 4 x := fun x hx => by
  unfold esF at hx
  simp only [List.mem_cons, List.not_mem_nil, or_false] at hx
  rcases hx with rfl | rfl | rfl | rfl | rfl
  · trivial
  · trivial
  · trivial
  · exact fits_opt 3 _
  · exact fits_opt 3 _
def dPair (w : List Int) (k : Nat) : Dt := .tup [dw w, .int (k : Int)]
theorem fits_pair (w : List Int) (k : Nat) (h : w.length ≤ 100) : fits 4 (dPair w k) := ⟨by show 2 ≤ 100; decide, fun d hd => by
  simp only [List.mem_cons, List.not_mem_nil, or_false] at hd
  rcases hd with rfl | rfl
  · exact fits_word 1 w h
  · trivial⟩
section
variable {P : Program} {w : World} {K : PySem.W.Frag} {mg : Str → Option Value} {base : Heap}
/-! ### _law_right: the first rows and the loop -/
theorem right_B (T : Top K mg) {f : Addr} {cdv : Value} {A : Around} {outer : List Env} {s : Shared} {H0 : Hp} {E : XK} (hr : Room 6 (A.deeper (envOfC "_law_right" (defScope s_law_right) s.heap.objs.size f cdv))) {tr : TS}
    (hrest : PSs (XR P w K mg base f cdv A outer s H0 E) (bodyR.drop 7) tr) :
    ∃ t, PSs (XR P w K mg base f cdv A outer s H0 E) (bodyR.drop 5) t ∧ ∀ (D : Ends) (u b o1 o2 o3 rt rr : Addr) (one other third : List Int) (many : Nat) (H : Hp),
      Core u o1 o2 o3 rt rr one other third H → many ≤ 6 →
      (∀ (h d : Addr) (ds : List Dt) (y9 y10 y11 y13 y14 : Option V) (H' : Hp), Same H H' → One u h ds H' → One u d ds H' → ds.length ≤ 13 → (∀ x ∈ ds, fits 4 x) →
        tr D (sg u b o1 o2 o3 rt many (some (.ref h)) (some (.ref d)) y9 y10 y11 y13 y14) H') →
      t D (sg u b o1 o2 o3 rt many none none none none none none none) H := by
  have G_root_of : FnOk P w K mg base CX0 1 T.d_root_of.f T.d_root_of.fd ["word"] sp_root_of := ok_root_of T
  have G_word_power : FnOk P w K mg base CX0 1 T.d_word_power.f T.d_word_power.fd ["word", "many"] sp_word_power := ok_word_power T
  obtain ⟨tF, hF, qF⟩ := right_F (P := P) (w := w) (base := base) (outer := outer) (H0 := H0) (E := E) T hr
  refine ⟨_, (pss_cons 
      (ps_par (i := 7) (j := 8) rfl sc_law_right.nd rfl rfl (by decide) rfl rfl (pa_cons (pe_lst (pa_cons (pe_call G_root_of (hr.mono (by decide)) (by rfl) T.d_root_of.mg T.d_root_of.F.kp T.d_root_of.b .nil pass0 (pa_cons (pv 2) pa_nil)) (pa_cons (pe_call G_word_power (hr.mono (by decide)) (by rfl) T.d_word_power.mg T.d_word_power.F.kp T.d_word_power.b .nil pass0 (pa_cons (pe_ix (ixT_k (K := K) rfl) (pv 5) pe_int (fun _ _ => rfl)) (pa_cons (pe_ix (ixT_k (K := K) rfl) (pv 5) pe_int (fun _ _ => rfl)) pa_nil))) (pa_cons (pe_call G_word_power (hr.mono (by decide)) (by rfl) T.d_word_power.mg T.d_word_power.F.kp T.d_word_power.b .nil pass0 (pa_cons (pv 3) (pa_cons (pv 6) pa_nil))) pa_nil)))) (pa_cons (pe_lst (pa_cons (pv 5) (pa_cons (pv 2) (pa_cons (pe_op (op_repA) (pv 3) (pv 6)) pa_nil)))) pa_nil)) (by rfl)) (pss_cons (ps_for PassesOwn.never rfl (pi_tup (pe_tup (pa_cons (pv 3) (pa_cons (pv 4) pa_nil)))) (pg_name (i := 9) sc_law_right.nd rfl (.inr rfl)) hF) hrest)), fun D u b o1 o2 o3 rt rr one other third many H hC hm k => ?_⟩
  obtain ⟨nu, hnu, hU⟩ := hC.urn
  have n1 := hC.n1
  have m1 := hC.m1
  have m2 := hC.m2
  have m3 := hC.m3
  -- the first list
  refine ⟨.ref o1, rfl, o1, one, rfl, hC.w1, n1, by omega, fun p1 q1 H1 s1 hp1 hq1 => ?_⟩
  replace hC := hC.same s1
  have hti : rtimes one ≤ one.length := Nat.div_le_self _ _
  have hrl : (root one).length ≤ one.length := by
    unfold root
    rw [List.length_take]
    exact Nat.min_le_right _ _
  refine ⟨.ref rt, rfl, rt, _, 0, .ref rr, rfl, rfl, SqT.of hC.wt, atI_nat (j := 0) rfl, .ref rt, rfl, rt, _, 1, .int (rtimes one : Nat), rfl, rfl, SqT.of hC.wt, atI_nat (j := 1) rfl, ?_⟩
  refine ⟨rr, _, root one, rfl, hC.wr, Int.natCast_nonneg _, Int.le_trans (Int.ofNat_le.mpr hti) (by omega), by omega, fun p2 H2 s2 hp2 => ?_⟩
  rw [Int.toNat_natCast, root_pow n1] at hp2
  replace hC := hC.same s2
  refine ⟨.ref o2, rfl, .int (many : Int), rfl, o2, _, other, rfl, hC.w2, by omega, by omega, by omega, fun p3 H3 s3 hp3 => ?_⟩
  rw [Int.toNat_natCast] at hp3
  replace hC := hC.same s3
  refine ⟨small (by show 3 ≤ 1000; decide), fun h np => ?_⟩
  have s4 := same_new (o := .lst [.ref p1, .ref p2, .ref p3]) np
  have hU3 : Urn H3 u nu := ((hU.same s1).same s2).same s3
  have s23 := s2.trans s3
  have hq1' := s23 _ _ hq1
  have hp1' := s23 _ _ hp1
  have hp2' := s3 _ _ hp2
  have hh : One u h [dPair (root one) (rtimes one), dw one, dw (rep many other)] (upd H3 h (.lst [.ref p1, .ref p2, .ref p3])) := One.new hU3 np
    (.cons (.tup (off_get hp1' (hU3.ne hp1')) (.cons (has_word hU3 hq1') (.cons (.int _) .nil))) (.cons (has_word hU3 hp2') (.cons (has_word hU3 hp3) .nil)))
  replace hC := hC.same s4
  have hU4 := hU3.same s4
  generalize upd H3 h (.lst [.ref p1, .ref p2, .ref p3]) = H4 at s4 hh hC hU4
  -- the second list
  refine ⟨.ref rt, rfl, .ref o1, rfl, .ref o2, rfl, .int (many : Int), rfl, r_rep hC.w2 (by omega) (by omega) (by omega) fun p5 H5 s5 hp5 => ?_⟩
  rw [Int.toNat_natCast] at hp5
  replace hC := hC.same s5
  have hU5 := hU4.same s5
  refine ⟨small (by show 3 ≤ 1000; decide), fun d np5 => ?_⟩
  have s6 := same_new (o := .lst [.ref rt, .ref o1, .ref p5]) np5
  have hd : One u d [dPair (root one) (rtimes one), dw one, dw (rep many other)] (upd H5 d (.lst [.ref rt, .ref o1, .ref p5])) := One.new hU5 np5
    (.cons (.tup (off_get hC.wt (hU5.ne hC.wt)) (.cons (has_word hU5 hC.wr) (.cons (.int _) .nil))) (.cons (has_word hU5 hC.w1) (.cons (has_word hU5 hp5) .nil)))
  replace hC := hC.same s6
  replace hh := (hh.same s5).same s6
  have hU6 := hU5.same s6
  generalize upd H5 d (.lst [.ref rt, .ref o1, .ref p5]) = H6 at s6 hh hd hC hU6
  have hrep : (rep many other).length ≤ 100 := by
    rw [rep_len]
    calc many * other.length ≤ 6 * 12 := Nat.mul_le_mul hm m2
      _ ≤ 100 := by decide
  have sall : Same H H6 := (((s1.trans s2).trans s3).trans (s4.trans s5)).trans s6
  refine ⟨.ref h, .ref d, rfl, ?_⟩
  -- the loop
  refine ⟨.ref o2, rfl, .ref o3, rfl, small (by show 2 ≤ 1000; decide), fun pt npt => ?_⟩
  have s7 := same_new (o := .tup [.ref o2, .ref o3]) npt
  refine ⟨pt, rfl, ⟨_, SqT.of upd_same⟩, ?_⟩
  refine for_tup (xs := [.ref o2, .ref o3]) (fun i σ H' => ∃ (h d : Addr) (ds : List Dt) (y9 y10 y11 y13 y14 : Option V), σ = sg u b o1 o2 o3 rt many (some (.ref h)) (some (.ref d)) y9 y10 y11 y13 y14 ∧ Same H6 H' ∧ H' pt = some (.tup [.ref o2, .ref o3]) ∧ One u h ds H' ∧ One u d ds H' ∧ ds.length = 3 + 5 * i ∧ ∀ x ∈ ds, fits 4 x)
    ⟨h, d, _, none, none, none, none, none, rfl, s7, upd_same, hh.same s7, hd.same s7, rfl, fun x hx => ?_⟩ (fun i σ H' _ hp => ?_) (fun i x σ H' hx hp => ?_) (fun σ H' hp => ?_)
  · simp only [List.mem_cons, List.not_mem_nil, or_false] at hx
    rcases hx with rfl | rfl | rfl
    · exact fits_pair _ _ (by omega)
    · exact fits_word 2 _ (by omega)
    · exact fits_word 2 _ hrep
  · obtain ⟨_, _, _, _, _, _, _, _, _, _, e, _⟩ := hp
    exact SqT.of e
  · obtain ⟨h1, d1, ds, y9, y10, y11, y13, y14, rfl, t1, ept, g1, g2, dl, df⟩ := hp
    have hC1 := hC.same t1
    have turn : ∀ (ov : Addr) (v : List Int), H' ov = some (W v) → v.length ≤ 12 → i < 2 → x = .ref ov → tF { nx := fun σ H' => ∃ (h d : Addr) (ds : List Dt) (y9 y10 y11 y13 y14 : Option V), σ = sg u b o1 o2 o3 rt many (some (.ref h)) (some (.ref d)) y9 y10 y11 y13 y14 ∧ Same H6 H' ∧ H' pt = some (.tup [.ref o2, .ref o3]) ∧ One u h ds H' ∧ One u d ds H' ∧ ds.length = 3 + 5 * (i + 1) ∧ ∀ x ∈ ds, fits 4 x, rt := D.rt, bk := tr D, ct := fun σ H' => ∃ (h d : Addr) (ds : List Dt) (y9 y10 y11 y13 y14 : Option V), σ = sg u b o1 o2 o3 rt many (some (.ref h)) (some (.ref d)) y9 y10 y11 y13 y14 ∧ Same H6 H' ∧ H' pt = some (.tup [.ref o2, .ref o3]) ∧ One u h ds H' ∧ One u d ds H' ∧ ds.length = 3 + 5 * (i + 1) ∧ ∀ x ∈ ds, fits 4 x }
        (sg u b o1 o2 o3 rt many (some (.ref h1)) (some (.ref d1)) (some x) y10 y11 y13 y14) H' := fun ov v hov hv hi ex => by
      subst ex
      refine qF _ u b o1 o2 o3 rt rr ov h1 d1 one other third v many ds y10 y11 y13 y14 H' hC1 hov hv g1 g2 (by omega) fun h' d' z10 z11 z13 z14 H'' s'' k1 k2 => ?_
      refine ⟨h', d', _, _, z10, z11, z13, z14, rfl, t1.trans s'', s'' _ _ ept, k1, k2, ?_, fun z hz => ?_⟩
      · rw [List.length_append, dl]
        show 3 + 5 * i + 5 = 3 + 5 * (i + 1)
        omega
      · rcases List.mem_append.mp hz with hz | hz
        · exact df z hz
        · exact fits_esF one v z hz
    match i, hx with
    | 0, hx => exact turn o2 other hC1.w2 m2 (by decide) (Option.some.inj hx).symm
    | 1, hx => exact turn o3 third hC1.w3 m3 (by decide) (Option.some.inj hx).symm
    | i + 2, hx => simp at hx
  · obtain ⟨h1, d1, ds, y9, y10, y11, y13, y14, rfl, t1, ept, g1, g2, dl, df⟩ := hp
    exact k h1 d1 ds y9 y10 y11 y13 y14 H' (sall.trans t1) g1 g2 (by rw [dl]; show 3 + 5 * 2 ≤ 13; decide) df
end
end K2


namespace K2
open PySem PySem.Spec PyProof.Rows L2 G2 G3 KW RZ
abbrev sg2 (u b o1 o2 o3 rt : Addr) (many : Nat) (y7 y8 y9 y10 y11 y13 y14 y15 y16 : Option V) : L2.St :=
  [some (.ref u), some (.ref b), some (.ref o1), some (.ref o2), some (.ref o3), some (.ref rt), some (.int (many : Int)), y7, y8, y9, y10, y11, none, y13, y14, y15, y16, none, none, none]
/-- the common root as data -/
def dCom (a : Bool) (w : List Int) : Dt := if a = true then dw w else .lst [.str "none"]
theorem fits_com (a : Bool) (w : List Int) (h : w.length ≤ 100) : fits 4 (dCom a w) := by
  unfold dCom
  cases a with
  | true => exact fits_word 2 w h
  | false => exact ⟨by show 1 ≤ 100; decide, fun d hd => by
      have e : d = .str "none" := List.mem_singleton.mp hd
      subst e
      trivial⟩
section
variable {P : Program} {w : World} {K : PySem.W.Frag} {mg : Str → Option Value} {base : Heap}
/-! ### _law_right: common roots -/
theorem right_C (T : Top K mg) (Z : Err K mg) {f : Addr} {cdv : Value} {A : Around} {outer : List Env} {s : Shared} {H0 : Hp} {E : XK} (hr : Room 6 (A.deeper (envOfC "_law_right" (defScope s_law_right) s.heap.objs.size f cdv))) {tr : TS}
    (hrest : PSs (XR P w K mg base f cdv A outer s H0 E) (bodyR.drop 11) tr) :
    ∃ t, PSs (XR P w K mg base f cdv A outer s H0 E) (bodyR.drop 7) t ∧ ∀ (D : Ends) (u b o1 o2 o3 rt rr h d : Addr) (one other third : List Int) (many : Nat) (ds : List Dt) (y9 y10 y11 y13 y14 : Option V) (H : Hp),
      Core u o1 o2 o3 rt rr one other third H → One u h ds H → One u d ds H → ds.length ≤ 13 → (∀ x ∈ ds, fits 4 x) →
      (∀ (h d : Addr) (ds : List Dt) (y9 y15 y16 : Option V) (H' : Hp), Same H H' → One u h ds H' → One u d ds H' → ds.length ≤ 15 → (∀ x ∈ ds, fits 4 x) →
        tr D (sg2 u b o1 o2 o3 rt many (some (.ref h)) (some (.ref d)) y9 y10 y11 y13 y14 y15 y16) H') →
      t D (sg u b o1 o2 o3 rt many (some (.ref h)) (some (.ref d)) y9 y10 y11 y13 y14) H := by
  have G_law_root : FnOk P w K mg base CX0 1 T.d_law_root.f T.d_law_root.fd ["_law_word_here"] sp_root_of := ok_law_root T
  have G_law_common : FnOk P w K mg base CX0 3 T.d_law_common.f T.d_law_common.fd ["_law_words_so"] sp_law_common := ok_law_common T Z
  refine ⟨_, (pss_cons 
      (ps_setLc (own := [("_law_own", 9)]) (i := 15) rfl sc_law_right.nd rfl rfl (sw_true rfl rfl rfl (by decide +kernel)) (pi_tup (pe_tup (pa_cons (pv 2) (pa_cons (pv 3) (pa_cons (pv 4) pa_nil))))) (blkOk_by (N := ["_law_urn", "_law_base", "_law_one", "_law_other", "_law_third", "_law_root_here", "_law_many", "_law_heard", "_law_due", "_law_own", "_law_like", "_law_far", "_law_k", "_law_rows_so", "_law_spot", "_law_full", "_law_alike", "_law_start", "_law_turn", "_law_piece"]) (sc := defScope s_law_right) (by decide +kernel)) (fun _ _ _ _ _ => pg_name (i := 9) sc_law_right.nd rfl (.inl rfl)) (fun _ _ _ _ _ => (pts_one (pt_cmpR (neD_k (K := K) rfl (hu64 hr)) (pv 9) (pe_tup pa_nil) (nomark _)))) (fun _ _ _ _ _ => (pv 9))) (pss_cons 
      (ps_set (i := 16) sc_law_right.nd rfl (.inl rfl) (pe_callB (all_k (K := K) rfl rfl) (by rfl) T.m_all (by decide +kernel) (pa_cons (pe_lc (own := [("_law_own", 9)]) rfl sc_law_right.nd (pi_list (pv 15)) (blkOk_by (N := ["_law_urn", "_law_base", "_law_one", "_law_other", "_law_third", "_law_root_here", "_law_many", "_law_heard", "_law_due", "_law_own", "_law_like", "_law_far", "_law_k", "_law_rows_so", "_law_spot", "_law_full", "_law_alike", "_law_start", "_law_turn", "_law_piece"]) (sc := defScope s_law_right) (by decide +kernel)) (fun _ _ _ _ _ => pg_name (i := 9) sc_law_right.nd rfl (.inl rfl)) (fun _ _ _ _ _ => pts_nil) (fun _ _ _ _ _ => (pe_cmpR (eqD_k (K := K) rfl (hu64 hr)) (pe_ix (ixT_k (K := K) rfl) (pe_call G_law_root (hr.mono (by decide)) (by rfl) T.d_law_root.mg T.d_law_root.F.kp T.d_law_root.b .nil pass0 (pa_cons (pv 9) pa_nil)) pe_int (fun _ _ => rfl)) (pe_ix (ixT_k (K := K) rfl) (pv 5) pe_int (fun _ _ => rfl)) (nomark _)))) pa_nil))) (pss_cons 
      (ps_set (i := 7) sc_law_right.nd rfl (.inl rfl) (pe_op op_cat (pv 7) (pe_lst (pa_cons (pe_call G_law_common (hr.mono (by decide)) (by rfl) T.d_law_common.mg T.d_law_common.F.kp T.d_law_common.b .nil pass0 (pa_cons (pe_tup (pa_cons (pv 2) (pa_cons (pv 3) (pa_cons (pv 4) pa_nil)))) pa_nil)) (pa_cons (pe_call G_law_common (hr.mono (by decide)) (by rfl) T.d_law_common.mg T.d_law_common.F.kp T.d_law_common.b .nil pass0 (pa_cons (pe_tup (pa_cons (pv 4) (pa_cons (pv 3) (pa_cons (pv 2) pa_nil)))) pa_nil)) pa_nil))))) (pss_cons 
      (ps_set (i := 8) sc_law_right.nd rfl (.inl rfl) (pe_op op_cat (pv 8) (pe_op op_rep (pe_lst (pa_cons (pe_ifExp (pt_val (pv 16)) (pe_ix (ixT_k (K := K) rfl) (pv 5) pe_int (fun _ _ => rfl)) (pe_lst (pa_cons pe_str pa_nil))) pa_nil)) pe_int))) hrest)))), fun D u b o1 o2 o3 rt rr h d one other third many ds y9 y10 y11 y13 y14 H hC hh hd hdl hdf k => ?_⟩
  have n1 := hC.n1
  have m1 := hC.m1
  have m2 := hC.m2
  have m3 := hC.m3
  -- full
  refine ⟨.ref o1, rfl, .ref o2, rfl, .ref o3, rfl, small (by show 3 ≤ 1000; decide), fun pt npt => ?_⟩
  have s1 := same_new (o := .tup [.ref o1, .ref o2, .ref o3]) npt
  have ept : upd H pt (.tup [.ref o1, .ref o2, .ref o3]) pt = some (.tup [.ref o1, .ref o2, .ref o3]) := upd_same
  replace hC := hC.same s1
  replace hh := hh.same s1
  replace hd := hd.same s1
  generalize upd H pt (.tup [.ref o1, .ref o2, .ref o3]) = H1 at s1 ept hC hh hd
  have hw : Wds H1 [o1, o2, o3] [one, other, third] := .cons hC.w1 (.cons hC.w2 (.cons hC.w3 .nil))
  have hml : ∀ v ∈ [one, other, third], v.length ≤ 16 := fun v hv => by
    simp only [List.mem_cons, List.not_mem_nil, or_false] at hv
    rcases hv with rfl | rfl | rfl <;> omega
  refine ⟨pt, rfl, ⟨_, SqT.of ept⟩, fun Dl nD => ?_⟩
  refine lc_tup (xs := [o1, o2, o3].map V.ref) (fun i H' => Same H1 H' ∧ ∃ bs, H' Dl = some (.lst (bs.map V.ref)) ∧ Wds H1 bs (full ([one, other, third].take i)) ∧ bs.length ≤ i) ⟨same_new nD, [], upd_same, .nil, Nat.le_refl _⟩ (fun i H' _ hp => SqT.of (hp.1 _ _ ept)) (fun i x H' hx hp => ?_) (fun H' hp => ?_)
  · obtain ⟨s2, bs, hD, hbs, bl⟩ := hp
    rw [List.getElem?_map] at hx
    cases ha : [o1, o2, o3][i]? with
    | none =>
      rw [ha] at hx
      cases hx
    | some a =>
      rw [ha] at hx
      have ex : x = .ref a := (Option.some.inj hx).symm
      subst ex
      obtain ⟨v, hv, hav⟩ := hw.get ha
      have ha1 := s2 _ _ hav
      have hi : i < 3 := (List.getElem?_eq_some_iff.mp hv).1
      refine ⟨rfl, .ref a, rfl, Nat.zero_le _, fun p np => ?_⟩
      have s3 := same_new (o := .tup []) np
      refine r_ne (u := v) (v := []) (s3 _ _ ha1) upd_same ⟨_, rfl, ?_⟩
      rw [take_succ hv, full_append, full_one]
      by_cases e : v = []
      · rw [decide_eq_true e, if_neg (by rw [e]; decide), List.append_nil]
        exact iteF ⟨s2.trans s3, bs, s3 _ _ hD, hbs, Nat.le_succ_of_le bl⟩
      · rw [decide_eq_false e, if_pos (List.length_pos_iff.mpr e)]
        refine iteT ⟨.ref a, rfl, _, s3 _ _ hD, room (by rw [List.length_map]; omega), same_mut (s2.trans s3) nD, bs ++ [a], ?_, hbs.append (.cons hav .nil), by rw [List.length_append]; exact Nat.succ_le_succ bl⟩
        rw [upd_same, List.map_append]
        rfl
  obtain ⟨s2, bs, hD, hbs, bl⟩ := hp
  have hbs' : Wds H1 bs (full [one, other, third]) := hbs
  replace hC := hC.same s2
  replace hh := hh.same s2
  replace hd := hd.same s2
  have hwf := hbs'.same s2
  clear hbs hbs'
  have bl3 : bs.length ≤ 3 := bl
  -- alike
  refine ⟨.ref Dl, rfl, Dl, rfl, ⟨_, SqL.of hD⟩, fun D2 nD2 => ?_⟩
  refine lc_list (xs := bs.map V.ref) (fun i H2 => Same H' H2 ∧ H2 D2 = some (.lst ((((full [one, other, third]).take i).map fun v => decide (root v = root one)).map V.bl))) ⟨same_new nD2, by rw [upd_same]; rfl⟩ (fun i H2 _ hp => SqL.of (hp.1 _ _ hD)) (fun i x H2 hx hp => ?_) (fun H2 hp => ?_)
  · obtain ⟨s3, hD2⟩ := hp
    rw [List.getElem?_map] at hx
    cases ha : bs[i]? with
    | none =>
      rw [ha] at hx
      cases hx
    | some a =>
      rw [ha] at hx
      have ex : x = .ref a := (Option.some.inj hx).symm
      subst ex
      obtain ⟨v, hv, hav⟩ := hwf.get ha
      have hvm := full_mem (List.mem_of_getElem? hv)
      have hvl := hml v hvm.1
      have hi : i < bs.length := (List.getElem?_eq_some_iff.mp ha).1
      refine ⟨rfl, yes_ (iteT ?_)⟩
      refine ⟨.ref a, rfl, a, v, rfl, s3 _ _ hav, hvm.2, by omega, fun p2 r2 H3 s4 hp2 hr2 => ?_⟩
      refine cst ⟨p2, _, 0, .ref r2, rfl, rfl, SqT.of hp2, atI_nat (j := 0) rfl, ?_⟩
      have s34 := s3.trans s4
      refine ⟨.ref rt, rfl, rt, _, 0, .ref rr, rfl, rfl, SqT.of (s34 _ _ hC.wt), atI_nat (j := 0) rfl, ?_⟩
      refine r_eq hr2 (s34 _ _ hC.wr) ?_
      refine ⟨_, s4 _ _ hD2, room (by rw [List.length_map, List.length_map, List.length_take]; omega), same_mut s34 nD2, ?_⟩
      rw [upd_same, take_succ hv, List.map_append, List.map_append]
      rfl
  obtain ⟨s3, hD2⟩ := hp
  have hlen : (bs.map V.ref).length = (full [one, other, third]).length := by rw [List.length_map, hwf.len]
  rw [hlen, List.take_length] at hD2
  refine ⟨D2, _, rfl, SqL.of hD2, ?_⟩
  generalize hal : ((full [one, other, third]).map fun v => decide (root v = root one)).all id = al
  have hall : (∀ v ∈ full [one, other, third], root v = root one) ↔ al = true := by
    rw [← hal, List.all_map]
    exact ⟨fun z => List.all_eq_true.mpr fun v hv => decide_eq_true (z v hv), fun z v hv => of_decide_eq_true (List.all_eq_true.mp z v hv)⟩
  have hall2 : (∀ v ∈ full [third, other, one], root v = root one) ↔ al = true := by
    rw [← hall]
    have hm : ∀ v, v ∈ full [third, other, one] ↔ v ∈ full [one, other, third] := fun v => by
      unfold full
      rw [List.mem_filter, List.mem_filter]
      have e : v ∈ [third, other, one] ↔ v ∈ [one, other, third] := by
        simp only [List.mem_cons, List.not_mem_nil, or_false]
        exact ⟨fun z => by rcases z with z | z | z <;> simp [z], fun z => by rcases z with z | z | z <;> simp [z]⟩
      rw [e]
    exact ⟨fun z v hv => z v ((hm v).mpr hv), fun z v hv => z v ((hm v).mp hv)⟩
  have c1 : commonRoot [one, other, third] = if al = true then some (root one) else none := by
    rw [common_told (List.mem_cons_self ..) n1]
    by_cases e : al = true
    · rw [if_pos e, if_pos (hall.mpr e)]
    · rw [if_neg e, if_neg fun z => e (hall.mp z)]
  have c2 : commonRoot [third, other, one] = if al = true then some (root one) else none := by
    rw [common_told (one := one) (by simp) n1]
    by_cases e : al = true
    · rw [if_pos e, if_pos (hall2.mpr e)]
    · rw [if_neg e, if_neg fun z => e (hall2.mp z)]
  replace hC := hC.same s3
  replace hh := hh.same s3
  replace hd := hd.same s3
  have s123 := (s1.trans s2).trans s3
  clear hwf hD hD2 hw
  -- heard: the two
  have hrl : (root one).length ≤ 16 := by
    unfold root
    rw [List.length_take]
    omega
  obtain ⟨nu, hnu, hU⟩ := hC.urn
  have com : ∀ (p : Addr) (H3 : Hp), Urn H3 u nu → (match (if al = true then some (root one) else none : Option (List Int)) with
      | some r => H3 p = some (W r)
      | none => H3 p = some (.lst [.str "none"])) → Has (off u H3) (.ref p) (dCom al (root one)) := fun p H3 hU3 hm => by
    unfold dCom
    by_cases e : al = true
    · rw [if_pos e] at hm ⊢
      exact has_word hU3 hm
    · rw [if_neg e] at hm ⊢
      have hm' : H3 p = some (.lst [.str "none"]) := hm
      refine .lst (off_get hm' ?_) (.cons (.str _) .nil)
      obtain ⟨x, y, c, eu, _⟩ := hU3
      exact ne_of hm' eu (fun z => nomatch z)
  refine ⟨.ref h, rfl, .ref o1, rfl, .ref o2, rfl, .ref o3, rfl, small (by show 3 ≤ 1000; decide), fun q1 nq1 => ?_⟩
  have s4 := same_new (o := .tup [.ref o1, .ref o2, .ref o3]) nq1
  have hC4 := hC.same s4
  refine ⟨q1, [o1, o2, o3], [one, other, third], rfl, upd_same, .cons hC4.w1 (.cons hC4.w2 (.cons hC4.w3 .nil)), by show 3 ≤ 100; decide, fun v hv => by have := hml v hv; omega, fun p1 H5 s5 hm1 => ?_⟩
  rw [c1] at hm1
  have s45 := s4.trans s5
  have hC5 := hC.same s45
  refine ⟨.ref o3, rfl, .ref o2, rfl, .ref o1, rfl, small (by show 3 ≤ 1000; decide), fun q2 nq2 => ?_⟩
  have s6 := same_new (o := .tup [.ref o3, .ref o2, .ref o1]) nq2
  have hC6 := hC5.same s6
  have hml2 : ∀ v ∈ [third, other, one], v.length ≤ 500 := fun v hv => by
    have : v.length ≤ 16 := hml v (by
      simp only [List.mem_cons, List.not_mem_nil, or_false] at hv ⊢
      rcases hv with z | z | z <;> simp [z])
    omega
  refine ⟨q2, [o3, o2, o1], [third, other, one], rfl, upd_same, .cons hC6.w3 (.cons hC6.w2 (.cons hC6.w1 .nil)), by show 3 ≤ 100; decide, hml2, fun p2 H7 s7 hm2 => ?_⟩
  rw [c2] at hm2
  have s67 := s6.trans s7
  have hU7 := (hU.same s45).same s67
  have g1 := com p1 H5 (hU.same s45) hm1
  have g2 := com p2 H7 hU7 hm2
  refine ⟨small (by show 2 ≤ 1000; decide), fun q3 nq3 => ?_⟩
  have s8 := same_new (o := .lst [.ref p1, .ref p2]) nq3
  have s48 := (s45.trans s67).trans s8
  refine r_one (es := [dCom al (root one), dCom al (root one)]) (hU.same s48) (hh.same s48) upd_same (.cons (g1.same (off_but (Same.but (s67.trans s8) u))) (.cons (g2.same (off_but (Same.but s8 u))) .nil)) (by omega) (by show 2 ≤ 400; decide) fun h3 H9 s9 hh3 => ?_
  have s49 := s48.trans s9
  replace hC := hC.same s49
  replace hd := hd.same s49
  replace hU := hU.same s49
  have sall : Same H H9 := s123.trans s49
  -- due: the two
  have fin : ∀ x H10, Same H9 H10 → Has (off u H10) x (dCom al (root one)) → ∀ p, H10 p = none → (fun H14 (Q : VK) => rRep (.ref p) (.int 2) H14 Q) (upd H10 p (.lst [x])) (fun y H15 => rCat (.ref d) y H15 fun z H16 => tr D ((sg2 u b o1 o2 o3 rt many (some (.ref h3)) (some (.ref d)) y9 y10 y11 y13 y14 (some (.ref Dl)) (some (.bl al))).set 8 (some z)) H16) := fun x H10 t0 hx p np => by
    have t1 := t0.trans (same_new (o := .lst [x]) np)
    refine ⟨p, 2, _, rfl, rfl, upd_same, by decide, by decide, small (by show 1 * 2 ≤ 1000; decide), fun p2 np2 => ?_⟩
    have t2 := t1.trans (same_new (o := .lst (List.replicate (Int.toNat 2) [x]).flatten) np2)
    have hx2 : Has (off u (upd (upd H10 p (.lst [x])) p2 (.lst (List.replicate (Int.toNat 2) [x]).flatten))) x (dCom al (root one)) := hx.same (off_but (Same.but (Same.trans (same_new (o := .lst [x]) np) (same_new (o := .lst (List.replicate (Int.toNat 2) [x]).flatten) np2)) u))
    refine r_one (es := [dCom al (root one), dCom al (root one)]) (hU.same t2) (hd.same t2) upd_same (.cons hx2 (.cons hx2 .nil)) (by omega) (by show 2 ≤ 400; decide) fun d3 H16 t3 hd3 => ?_
    have t := t2.trans t3
    refine k h3 d3 _ _ _ _ H16 (sall.trans t) (hh3.same t) hd3 (by rw [List.length_append]; show ds.length + 2 ≤ 15; omega) fun z hz => ?_
    rcases List.mem_append.mp hz with hz | hz
    · exact hdf z hz
    · simp only [List.mem_cons, List.not_mem_nil, or_false, or_self] at hz
      rw [hz]
      exact fits_com al _ (by omega)
  refine ⟨.ref d, rfl, .bl al, rfl, al, rfl, ?_⟩
  cases al with
  | true =>
    refine iteT ⟨.ref rt, rfl, rt, _, 0, .ref rr, rfl, rfl, SqT.of hC.wt, atI_nat (j := 0) rfl, small (by show 1 ≤ 1000; decide), fun p np => ?_⟩
    exact fin (.ref rr) H9 (Same.refl _) (has_word hU hC.wr) p np
  | false =>
    refine iteF ⟨small (by show 1 ≤ 1000; decide), fun p0 np0 => ⟨small (by show 1 ≤ 1000; decide), fun p np => ?_⟩⟩
    exact fin (.ref p0) _ (same_new np0) (.lst (off_get upd_same (hU.new np0)) (.cons (.str _) .nil)) p np
end
end K2


namespace K2
open PySem PySem.Spec PyProof.Rows L2 G2 G3 KW RZ
theorem Core.but {u o1 o2 o3 rt rr : Addr} {one other third : List Int} {H H' : Hp} {n : Nat} (c : Core u o1 o2 o3 rt rr one other third H) (b : But u H H') (hU : Urn H' u n) (hn : n ≤ 300) : Core u o1 o2 o3 rt rr one other third H' := by
  obtain ⟨⟨n0, _, hU0⟩, w1, w2, w3, wt, wr, n1, m1, m2, m3⟩ := c
  exact ⟨⟨n, hn, hU⟩, hU0.keep b w1, hU0.keep b w2, hU0.keep b w3, hU0.keep b wt, hU0.keep b wr, n1, m1, m2, m3⟩
abbrev sg3 (u b o1 o2 o3 rt : Addr) (many : Nat) (y7 y8 y9 y10 y11 y12 y13 y14 y15 y16 y17 y18 y19 : Option V) : L2.St :=
  [some (.ref u), some (.ref b), some (.ref o1), some (.ref o2), some (.ref o3), some (.ref rt), some (.int (many : Int)), y7, y8, y9, y10, y11, y12, y13, y14, y15, y16, y17, y18, y19]
section
variable {P : Program} {w : World} {K : PySem.W.Frag} {mg : Str → Option Value} {base : Heap}
/-! ### _law_right: turning, pieces, the end -/
theorem right_D (T : Top K mg) {f : Addr} {cdv : Value} {A : Around} {outer : List Env} {s : Shared} {H0 : Hp} {E : XK} (hr : Room 6 (A.deeper (envOfC "_law_right" (defScope s_law_right) s.heap.objs.size f cdv))) :
    ∃ t, PSs (XR P w K mg base f cdv A outer s H0 E) (bodyR.drop 11) t ∧ ∀ (D : Ends) (u b o1 o2 o3 rt rr h d : Addr) (one other third : List Int) (many : Nat) (ds : List Dt) (y9 y10 y11 y13 y14 y15 y16 : Option V) (H : Hp),
      Core u o1 o2 o3 rt rr one other third H → One u h ds H → One u d ds H → ds.length ≤ 15 → (∀ x ∈ ds, fits 4 x) → many ≤ 6 →
      (∀ H', But u H H' → D.rt (.bl true) H') →
      t D (sg2 u b o1 o2 o3 rt many (some (.ref h)) (some (.ref d)) y9 y10 y11 y13 y14 y15 y16) H := by
  have G_law_take : FnOk P w K mg base CX0 1 T.d_law_take.f T.d_law_take.fd ["_law_urn", "_law_low_so"] sp_law_take := ok_law_take T
  have G_turned : FnOk P w K mg base CX0 1 T.d_turned.f T.d_turned.fd ["word", "many"] sp_turned := ok_turned T
  have G_piece_of : FnOk P w K mg base CX0 1 T.d_piece_of.f T.d_piece_of.fd ["row", "start", "many"] sp_piece_of := ok_piece_of T
  have G_is_piece : FnOk P w K mg base CX0 2 T.d_is_piece.f T.d_is_piece.fd ["row", "start", "word"] sp_is_piece := ok_is_piece T
  have G_law_same : FnOk P w K mg base CX0 5 T.d_law_same.f T.d_law_same.fd ["_law_got", "_law_goal"] (sp_law_same 5) := ok_law_same T 5
  refine ⟨_, (pss_cons 
      (ps_set (i := 17) sc_law_right.nd rfl (.inr rfl) (pe_call G_law_take (hr.mono (by decide)) (by rfl) T.d_law_take.mg T.d_law_take.F.kp T.d_law_take.b .nil pass0 (pa_cons (pv 0) (pa_cons pe_int pa_nil)))) (pss_cons 
      (ps_set (i := 18) sc_law_right.nd rfl (.inl rfl) (pv 2)) (pss_cons 
      (ps_for PassesOwn.never rfl (pi_range1 (by rfl) T.m_range (pa_cons (pv 17) pa_nil)) (pg_name (i := 12) sc_law_right.nd rfl (.inl rfl)) (pss_one 
        (ps_set (i := 18) sc_law_right.nd rfl (.inl rfl) (pe_op (cat_k (K := K) rfl) (pe_slice (slT_k (K := K) rfl) (pv 18) (po_some pe_int) po_none) (pe_slice (slT_k (K := K) rfl) (pv 18) po_none (po_some pe_int)))))) (pss_cons 
      (ps_set (i := 7) sc_law_right.nd rfl (.inl rfl) (pe_op op_cat (pv 7) (pe_lst (pa_cons (pe_call G_turned (hr.mono (by decide)) (by rfl) T.d_turned.mg T.d_turned.F.kp T.d_turned.b .nil pass0 (pa_cons (pv 2) (pa_cons (pv 17) pa_nil))) (pa_cons (pe_call G_turned (hr.mono (by decide)) (by rfl) T.d_turned.mg T.d_turned.F.kp T.d_turned.b .nil pass0 (pa_cons (pv 2) (pa_cons (pe_op op_add (pv 17) (pe_op op_mul (pe_callB (len_k (K := K) rfl) (by rfl) T.m_len PySem.boot_len (pa_cons (pv 2) pa_nil)) (pe_op op_pow pe_int pe_int))) pa_nil))) (pa_cons (pe_call G_piece_of (hr.mono (by decide)) (by rfl) T.d_piece_of.mg T.d_piece_of.F.kp T.d_piece_of.b .nil pass0 (pa_cons (pv 2) (pa_cons (pv 17) (pa_cons (pv 6) pa_nil)))) (pa_cons (pe_call G_is_piece (hr.mono (by decide)) (by rfl) T.d_is_piece.mg T.d_is_piece.F.kp T.d_is_piece.b .nil pass0 (pa_cons (pv 2) (pa_cons (pv 17) (pa_cons (pv 3) pa_nil)))) (pa_cons (pe_call G_piece_of (hr.mono (by decide)) (by rfl) T.d_piece_of.mg T.d_piece_of.F.kp T.d_piece_of.b .nil pass0 (pa_cons (pv 2) (pa_cons (pe_op op_add (pv 17) (pe_op op_mul (pe_callB (len_k (K := K) rfl) (by rfl) T.m_len PySem.boot_len (pa_cons (pv 2) pa_nil)) (pe_op op_pow pe_int pe_int))) (pa_cons (pv 6) pa_nil)))) pa_nil)))))))) (pss_cons 
      (ps_set (i := 19) sc_law_right.nd rfl (.inl rfl) (pe_callTy (tup_k (K := K) rfl) (by rfl) T.m_tuple (by decide +kernel) (pa_cons (pe_lc (own := [("_law_k", 12)]) rfl sc_law_right.nd (pi_range1 (by rfl) T.m_range (pa_cons (pv 6) pa_nil)) (blkOk_by (N := ["_law_urn", "_law_base", "_law_one", "_law_other", "_law_third", "_law_root_here", "_law_many", "_law_heard", "_law_due", "_law_own", "_law_like", "_law_far", "_law_k", "_law_rows_so", "_law_spot", "_law_full", "_law_alike", "_law_start", "_law_turn", "_law_piece"]) (sc := defScope s_law_right) (by decide +kernel)) (fun _ _ _ _ _ => pg_name (i := 12) sc_law_right.nd rfl (.inl rfl)) (fun _ _ _ _ _ => pts_nil) (fun _ _ _ _ _ => (pe_ix (ixT_k (K := K) rfl) (pe_op (op_repA) (pv 2) pe_int) (pe_op op_add (pv 17) (pv 12)) (fun _ _ => rfl)))) pa_nil))) (pss_cons 
      (ps_set (i := 8) sc_law_right.nd rfl (.inl rfl) (pe_op op_cat (pv 8) (pe_lst (pa_cons (pv 18) (pa_cons (pv 18) (pa_cons (pv 19) (pa_cons (pe_callB (all_k (K := K) rfl rfl) (by rfl) T.m_all (by decide +kernel) (pa_cons (pe_lc (own := [("_law_k", 12)]) rfl sc_law_right.nd (pi_range1 (by rfl) T.m_range (pa_cons (pe_callB (len_k (K := K) rfl) (by rfl) T.m_len PySem.boot_len (pa_cons (pv 3) pa_nil)) pa_nil)) (blkOk_by (N := ["_law_urn", "_law_base", "_law_one", "_law_other", "_law_third", "_law_root_here", "_law_many", "_law_heard", "_law_due", "_law_own", "_law_like", "_law_far", "_law_k", "_law_rows_so", "_law_spot", "_law_full", "_law_alike", "_law_start", "_law_turn", "_law_piece"]) (sc := defScope s_law_right) (by decide +kernel)) (fun _ _ _ _ _ => pg_name (i := 12) sc_law_right.nd rfl (.inl rfl)) (fun _ _ _ _ _ => pts_nil) (fun _ _ _ _ _ => (pe_cmpR op_eq (pe_ix (ixT_k (K := K) rfl) (pe_op (op_repA) (pv 2) pe_int) (pe_op op_add (pv 17) (pv 12)) (fun _ _ => rfl)) (pe_ix (ixT_k (K := K) rfl) (pv 3) (pv 12) (fun _ _ => rfl)) (nomark _)))) pa_nil)) (pa_cons (pv 19) pa_nil)))))))) (pss_one 
      (ps_ret (pe_call G_law_same (hr.mono (by decide)) (by rfl) T.d_law_same.mg T.d_law_same.F.kp T.d_law_same.b .nil pass0 (pa_cons (pv 7) (pa_cons (pv 8) pa_nil))))))))))), fun D u b o1 o2 o3 rt rr h d one other third many ds y9 y10 y11 y13 y14 y15 y16 H hC hh hd hdl hdf hm k => ?_⟩
  obtain ⟨nu, hnu, hU⟩ := id hC.urn
  have n1 := hC.n1
  have m1 := hC.m1
  have m2 := hC.m2
  -- start
  refine ⟨.ref u, rfl, u, 9, nu, rfl, hU, by omega, by decide, by decide, fun st H1 hst b1 hU1 => ?_⟩
  have hw1 := hU.keep b1 hC.w1
  have hw2 := hU.keep b1 hC.w2
  replace hh := hh.but b1
  replace hd := hd.but b1
  -- turn
  refine ⟨.ref o1, rfl, ?_⟩
  refine ⟨.int (st : Int), rfl, (st : Int), rfl, by omega, by omega, ?_⟩
  rw [Int.toNat_natCast]
  refine for_range (lo := 0) (n := st) (fun i σ H' => ∃ y12 tp, σ = sg3 u b o1 o2 o3 rt many (some (.ref h)) (some (.ref d)) y9 y10 y11 y12 y13 y14 y15 y16 (some (.int (st : Int))) (some (.ref tp)) none ∧ Same H1 H' ∧ H' tp = some (W (turns i one)))
    ⟨none, o1, rfl, Same.refl _, hw1⟩ (fun i σ H' hi hp => ?_) (fun σ H' hp => ?_)
  · obtain ⟨y12, tp, rfl, s2, htp⟩ := hp
    refine ⟨.ref tp, rfl, 1, rfl, noPart (r_drop (k := 1) htp fun p1 H2 s3 h1 => ?_)⟩
    refine ⟨.ref tp, rfl, 1, rfl, r_take (k := 1) (s3 _ _ htp) fun p2 H3 s4 h2 => ?_⟩
    refine r_cat (s4 _ _ h1) h2 (by rw [List.length_drop, turns_len]; omega) (by rw [List.length_take]; omega) fun p3 H4 s5 h3 => ?_
    refine ⟨_, p3, rfl, ((s2.trans s3).trans s4).trans s5, ?_⟩
    rw [h3, turns_succ]
    rfl
  obtain ⟨y12, tp, rfl, s2, htp⟩ := hp
  replace hw1 := s2 _ _ hw1
  replace hw2 := s2 _ _ hw2
  replace hh := hh.same s2
  replace hd := hd.same s2
  have hU2 := hU1.same s2
  -- heard
  have efar : ∀ {Q : VK} {H3 : Hp}, Q (.int ((st + one.length * 1000000000 : Nat) : Int)) H3 → H3 o1 = some (W one) → (fun (x : V) (H4 : Hp) => rI0 (fun i j => V.int (i + j)) (.int (st : Int)) x H4 Q) (.int ((one.length * 1000000000 : Nat) : Int)) H3 := fun {Q H3} q _ => r_I0 (.int ((st + one.length * 1000000000 : Nat) : Int)) (by rfl) q
  refine ⟨.ref h, rfl, .ref o1, rfl, .int (st : Int), rfl, o1, st, one, rfl, hw1, n1, by omega, fun p1 H3 s3 hp1 => ?_⟩
  rw [rot_turns n1] at hp1
  have w13 := s3 _ _ hw1
  refine ⟨.ref o1, rfl, .int (st : Int), rfl, .ref o1, rfl, o1, _, rfl, .inr (SqT.of w13), cst (cst (r_I (.int 1000000000) (by rfl) ⟨by decide, by decide, by decide⟩ (r_I (.int ((one.length * 1000000000 : Nat) : Int)) (by rw [len_word]; rfl) (.inr ⟨by decide, by decide⟩) (r_I0 (.int ((st + one.length * 1000000000 : Nat) : Int)) (by rfl) ?_))))⟩
  refine ⟨o1, st + one.length * 1000000000, one, rfl, w13, n1, by omega, fun p2 H4 s4 hp2 => ?_⟩
  rw [rot_far n1] at hp2
  have w14 := s4 _ _ w13
  refine ⟨.ref o1, rfl, .int (st : Int), rfl, .int (many : Int), rfl, o1, st, many, one, rfl, w14, n1, by omega, by omega, fun p3 H5 s5 hp3 => ?_⟩
  have w15 := s5 _ _ w14
  have s35 := (s3.trans s4).trans s5
  refine ⟨.ref o1, rfl, .int (st : Int), rfl, .ref o2, rfl, o1, o2, st, one, other, rfl, w15, s35 _ _ hw2, n1, by omega, by omega, fun H6 s6 => ?_⟩
  have w16 := s6 _ _ w15
  refine ⟨.ref o1, rfl, .int (st : Int), rfl, .ref o1, rfl, o1, _, rfl, .inr (SqT.of w16), cst (cst (r_I (.int 1000000000) (by rfl) ⟨by decide, by decide, by decide⟩ (r_I (.int ((one.length * 1000000000 : Nat) : Int)) (by rw [len_word]; rfl) (.inr ⟨by decide, by decide⟩) (r_I0 (.int ((st + one.length * 1000000000 : Nat) : Int)) (by rfl) ?_))))⟩
  refine ⟨.int (many : Int), rfl, o1, st + one.length * 1000000000, many, one, rfl, w16, n1, by omega, by omega, fun p5 H7 s7 hp5 => ?_⟩
  rw [piece_far] at hp5
  refine ⟨small (by show 5 ≤ 1000; decide), fun p8 np8 => ?_⟩
  generalize hip : decide (piece one st other.length = other) = ip
  have s8 := same_new (o := .lst [.ref p1, .ref p2, .ref p3, .bl ip, .ref p5]) np8
  have s37 := (s35.trans s6).trans s7
  have s38 := s37.trans s8
  have hU8 := hU2.same s38
  have a1 := ((((s4.trans s5).trans s6).trans s7).trans s8) _ _ hp1
  have a2 := (((s5.trans s6).trans s7).trans s8) _ _ hp2
  have a3 := ((s6.trans s7).trans s8) _ _ hp3
  have a5 := s8 _ _ hp5
  refine r_one (es := [dw (turns st one), dw (turns st one), dw (piece one st many), .bl ip, dw (piece one st many)]) hU8 (hh.same s38) upd_same
    (.cons (has_word hU8 a1) (.cons (has_word hU8 a2) (.cons (has_word hU8 a3) (.cons (.bl ip) (.cons (has_word hU8 a5) .nil))))) (by omega) (by show 5 ≤ 400; decide) fun h3 H9 s9 hh3 => ?_
  have s39 := s38.trans s9
  replace hw1 := s39 _ _ hw1
  replace hw2 := s39 _ _ hw2
  replace hd := hd.same s39
  replace htp := s39 _ _ htp
  have hU9 := hU2.same s39
  have hlen20 : ∀ i, i < 12 → st + i < 20 * one.length := fun i hi => by omega
  -- piece
  refine ⟨.int (many : Int), rfl, (many : Int), rfl, by omega, by omega, fun Dl nD => ?_⟩
  rw [Int.toNat_natCast]
  refine lc_range (lo := 0) (n := many) (fun i H' => Same H9 H' ∧ H' Dl = some (.lst ((piece one st i).map V.int))) ⟨same_new nD, upd_same⟩ (fun i H' hi hp => ?_) (fun H' hp => ?_)
  · obtain ⟨t1, hD⟩ := hp
    rw [show (0 : Int) + (i : Int) = (i : Int) from Int.zero_add _]
    refine ⟨rfl, yes_ (iteT ?_)⟩
    refine ⟨.ref o1, rfl, cst (r_rep (k := 20) (t1 _ _ hw1) (by decide) (by decide) (by omega) fun p H2 t2 hp2 => ?_)⟩
    refine ⟨.int (st : Int), rfl, .int (i : Int), rfl, r_I0 (.int ((st + i : Nat) : Int)) rfl ?_⟩
    refine r_ix hp2 (rep_at n1 (hlen20 i (by omega))) ?_
    refine ⟨_, t2 _ _ hD, room (by rw [List.length_map, piece_len]; omega), same_mut (t1.trans t2) nD, ?_⟩
    rw [upd_same, piece_succ, List.map_append]
    rfl
  obtain ⟨t1, hD⟩ := hp
  refine ⟨Dl, _, rfl, .inl ⟨SqL.of hD, fun pc npc => ?_⟩⟩
  have t2 := t1.trans (same_new (o := W (piece one st many)) npc)
  have hpc : upd H' pc (W (piece one st many)) pc = some (W (piece one st many)) := upd_same
  replace hw1 := t2 _ _ hw1
  replace hw2 := t2 _ _ hw2
  replace hd := hd.same t2
  replace hh3 := hh3.same t2
  replace htp := t2 _ _ htp
  have hU10 := hU9.same t2
  have sA := ((s2.trans s39).trans t2)
  generalize upd H' pc (W (piece one st many)) = H10 at t2 hpc hw1 hw2 hd hh3 htp hU10 sA
  -- due
  refine ⟨.ref d, rfl, .ref tp, rfl, .ref tp, rfl, .ref pc, rfl, .ref o2, rfl, o2, _, rfl, .inr (SqT.of hw2), ?_⟩
  refine ⟨((other.map V.int).length : Int), rfl, by omega, by rw [len_word]; omega, fun D2 nD2 => ?_⟩
  rw [len_word, Int.toNat_natCast]
  refine lc_range (lo := 0) (n := other.length) (fun i H' => Same H10 H' ∧ H' D2 = some (.lst (((List.range i).map fun j => decide (per one (st + j) = other.getD j 0)).map V.bl))) ⟨same_new nD2, upd_same⟩ (fun i H' hi hp => ?_) (fun H' hp => ?_)
  · obtain ⟨t3, hD2⟩ := hp
    rw [show (0 : Int) + (i : Int) = (i : Int) from Int.zero_add _]
    refine ⟨rfl, yes_ (iteT ?_)⟩
    refine ⟨.ref o1, rfl, cst (r_rep (k := 20) (t3 _ _ hw1) (by decide) (by decide) (by omega) fun p H2 t4 hp2 => ?_)⟩
    refine ⟨.int (st : Int), rfl, .int (i : Int), rfl, r_I0 (.int ((st + i : Nat) : Int)) rfl ?_⟩
    refine r_ix hp2 (rep_at n1 (hlen20 i (by omega))) ?_
    have t34 := t3.trans t4
    refine ⟨.ref o2, rfl, .int (i : Int), rfl, r_ix (t34 _ _ hw2) (getD_get hi) ⟨rfl, ?_⟩⟩
    refine ⟨_, t4 _ _ hD2, room (by rw [List.length_map, List.length_map, List.length_range]; omega), same_mut t34 nD2, ?_⟩
    rw [upd_same, List.range_succ, List.map_append, List.map_append]
    have e2 : decide (V.int (per one (st + i)) = V.int (other.getD i 0)) = decide (per one (st + i) = other.getD i 0) := decide_eq_decide.mpr ⟨fun z => V.int.inj z, fun z => congrArg V.int z⟩
    rw [e2]
    rfl
  obtain ⟨t3, hD2⟩ := hp
  refine ⟨D2, _, rfl, SqL.of hD2, ?_⟩
  have eal : ((List.range other.length).map fun j => decide (per one (st + j) = other.getD j 0)).all id = ip := by
    rw [List.all_map, ← hip]
    by_cases e : piece one st other.length = other
    · rw [decide_eq_true e]
      exact List.all_eq_true.mpr fun j hj => decide_eq_true (piece_eq_iff.mp e j (List.mem_range.mp hj))
    · rw [decide_eq_false e]
      exact Bool.eq_false_iff.mpr fun z => e (piece_eq_iff.mpr fun j hj => of_decide_eq_true (List.all_eq_true.mp z j (List.mem_range.mpr hj)))
  rw [eal]
  refine ⟨.ref pc, rfl, small (by show 5 ≤ 1000; decide), fun p11 np11 => ?_⟩
  have t5 := t3.trans (same_new (o := .lst [.ref tp, .ref tp, .ref pc, .bl ip, .ref pc]) np11)
  have hU11 := hU10.same t5
  refine r_one (es := [dw (turns st one), dw (turns st one), dw (piece one st many), .bl ip, dw (piece one st many)]) hU11 (hd.same t5) upd_same
    (.cons (has_word hU11 (t5 _ _ htp)) (.cons (has_word hU11 (t5 _ _ htp)) (.cons (has_word hU11 (t5 _ _ hpc)) (.cons (.bl ip) (.cons (has_word hU11 (t5 _ _ hpc)) .nil))))) (by omega) (by show 5 ≤ 400; decide) fun d3 H12 t6 hd3 => ?_
  have t56 := t5.trans t6
  have hh4 := hh3.same t56
  obtain ⟨xs, ex, _, hxs⟩ := hh4
  obtain ⟨ys, ey, _, hys⟩ := hd3
  -- the two lists compared
  have hf : fits 5 (.lst (ds ++ [dw (turns st one), dw (turns st one), dw (piece one st many), .bl ip, dw (piece one st many)])) := by
    refine ⟨by rw [List.length_append]; show ds.length + 5 ≤ 100; omega, fun z hz => ?_⟩
    have ft := fits_word 2 (turns st one) (by rw [turns_len]; omega)
    have fp := fits_word 2 (piece one st many) (by rw [piece_len]; omega)
    rcases List.mem_append.mp hz with hz | hz
    · exact hdf z hz
    · simp only [List.mem_cons, List.not_mem_nil, or_false] at hz
      rcases hz with rfl | rfl | rfl | rfl | rfl
      · exact ft
      · exact ft
      · exact fp
      · trivial
      · exact fp
  refine ⟨.ref h3, rfl, .ref d3, rfl, .ref h3, .ref d3, _, rfl, .lst ex (hxs.same off_same), .lst ey (hys.same off_same), hf, fun H13 t7 => ?_⟩
  exact k H13 (b1.trans (Same.but ((sA.trans t56).trans t7) u))
end
end K2


namespace K2
open PySem PySem.Spec PyProof.Rows L2 G2 G3 KW RZ
section
variable {P : Program} {w : World} {K : PySem.W.Frag} {mg : Str → Option Value} {base : Heap}
/-! ### _law_right -/
def sp_law_right : Sp := fun vs H Q _ => ∃ u : Addr, vs = [.ref u] ∧ Urn H u 0 ∧ ∀ H', But u H H' → Q (.bl true) H'
theorem ok_law_right (T : Top K mg) (Z : Err K mg) : FnOk P w K mg base CX0 7 T.d_law_right.f T.d_law_right.fd ["_law_urn"] sp_law_right := by
  refine T.d_law_right.F.ok sc_law_right (fun vs H Q E h => ?_) (fun cdv A outer s H vs Q E hr h => ?_)
  · obtain ⟨u, rfl, _⟩ := h
    rfl
  · obtain ⟨u, rfl, hU, q⟩ := h
    obtain ⟨tD, hD, qD⟩ := right_D (P := P) (w := w) (base := base) (outer := outer) (H0 := H) (E := E) T hr
    obtain ⟨tC, hC, qC⟩ := right_C (P := P) (w := w) (base := base) (outer := outer) (H0 := H) (E := E) T Z hr hD
    obtain ⟨tB, hB, qB⟩ := right_B (P := P) (w := w) (base := base) (outer := outer) (H0 := H) (E := E) T hr hC
    obtain ⟨tA, hA, qA⟩ := right_A (P := P) (w := w) (base := base) (outer := outer) (H0 := H) (E := E) T hr hB
    refine ⟨tA, hA, qA _ u H hU fun b o1 o2 o3 rt rr one other third many H1 hm b1 c1 => ?_⟩
    refine qB _ u b o1 o2 o3 rt rr one other third many H1 c1 hm fun h d ds y9 y10 y11 y13 y14 H2 s2 hh hd hl hf => ?_
    refine qC _ u b o1 o2 o3 rt rr h d one other third many ds y9 y10 y11 y13 y14 H2 (c1.same s2) hh hd hl hf fun h' d' ds' z9 z15 z16 H3 s3 hh' hd' hl' hf' => ?_
    exact qD _ u b o1 o2 o3 rt rr h' d' one other third many ds' z9 y10 y11 y13 y14 z15 z16 H3 ((c1.same s2).same s3) hh' hd' hl' hf' hm fun H4 b4 => q H4 ((b1.trans (Same.but (s2.trans s3) u)).trans b4)
/-! ### _law_by_hand_right -/
theorem has_w {H : Hp} {p : Addr} {ws : List Int} (h : H p = some (W ws)) : Has H (.ref p) (dw ws) := .tup h (has_ints ws)
def sp_by_hand : Sp := fun vs H Q _ => vs = [] ∧ ∀ H', Same H H' → Q (.bl true) H'
theorem ok_by_hand (T : Top K mg) (Z : Err K mg) : FnOk P w K mg base CX0 7 T.d_law_by_hand_right.f T.d_law_by_hand_right.fd [] sp_by_hand := by
  have G_root_of : FnOk P w K mg base CX0 1 T.d_root_of.f T.d_root_of.fd ["word"] sp_root_of := ok_root_of T
  have G_common_root : FnOk P w K mg base (L2.CX P w) 2 T.d_common_root.f T.d_common_root.fd ["words"] (sp_common_root Z.C) := ok_common_root T Z
  have G_commute : FnOk P w K mg base CX0 1 T.d_commute.f T.d_commute.fd ["word", "other"] sp_commute := ok_commute T
  have G_turned : FnOk P w K mg base CX0 1 T.d_turned.f T.d_turned.fd ["word", "many"] sp_turned := ok_turned T
  have G_piece_of : FnOk P w K mg base CX0 1 T.d_piece_of.f T.d_piece_of.fd ["row", "start", "many"] sp_piece_of := ok_piece_of T
  have G_first_apart : FnOk P w K mg base CX0 1 T.d_first_apart.f T.d_first_apart.fd ["word", "other"] sp_first_apart := ok_first_apart T
  have G_law_common : FnOk P w K mg base CX0 3 T.d_law_common.f T.d_law_common.fd ["_law_words_so"] sp_law_common := ok_law_common T Z
  have G_law_same : FnOk P w K mg base CX0 5 T.d_law_same.f T.d_law_same.fd ["_law_got", "_law_goal"] (sp_law_same 5) := ok_law_same T 5
  refine T.d_law_by_hand_right.F.ok sc_law_by_hand_right (fun vs H Q E h => ?_) (fun cdv A outer s H vs Q E hr h => ?_)
  · obtain ⟨rfl, _⟩ := h
    rfl
  · obtain ⟨rfl, q⟩ := h
    refine ⟨_, (pss_cons 
      (ps_set (i := 0) sc_law_by_hand_right.nd rfl (.inl rfl) (pe_lst (pa_cons (pe_call G_root_of (hr.mono (by decide)) (by rfl) T.d_root_of.mg T.d_root_of.F.kp T.d_root_of.b .nil pass0 (pa_cons (pe_tup (pa_cons pe_int (pa_cons pe_int (pa_cons pe_int (pa_cons pe_int pa_nil))))) pa_nil)) (pa_cons (pe_call G_common_root (hr.mono (by decide)) (by rfl) T.d_common_root.mg T.d_common_root.F.kp T.d_common_root.b .nil passL (pa_cons (pe_tup (pa_cons (pe_tup (pa_cons pe_int (pa_cons pe_int pa_nil))) (pa_cons (pe_tup (pa_cons pe_int pa_nil)) pa_nil))) pa_nil)) (pa_cons (pe_call G_commute (hr.mono (by decide)) (by rfl) T.d_commute.mg T.d_commute.F.kp T.d_commute.b .nil pass0 (pa_cons (pe_tup (pa_cons pe_int (pa_cons pe_int pa_nil))) (pa_cons (pe_tup (pa_cons pe_int (pa_cons pe_int pa_nil))) pa_nil))) (pa_cons (pe_call G_turned (hr.mono (by decide)) (by rfl) T.d_turned.mg T.d_turned.F.kp T.d_turned.b .nil pass0 (pa_cons (pe_tup (pa_cons pe_int (pa_cons pe_int (pa_cons pe_int pa_nil)))) (pa_cons pe_int pa_nil))) pa_nil)))))) (pss_cons 
      (ps_set (i := 0) sc_law_by_hand_right.nd rfl (.inl rfl) (pe_op op_cat (pv 0) (pe_lst (pa_cons (pe_call G_piece_of (hr.mono (by decide)) (by rfl) T.d_piece_of.mg T.d_piece_of.F.kp T.d_piece_of.b .nil pass0 (pa_cons (pe_tup (pa_cons pe_int (pa_cons pe_int (pa_cons pe_int pa_nil)))) (pa_cons pe_int (pa_cons pe_int pa_nil)))) (pa_cons (pe_call G_first_apart (hr.mono (by decide)) (by rfl) T.d_first_apart.mg T.d_first_apart.F.kp T.d_first_apart.b .nil pass0 (pa_cons (pe_tup (pa_cons pe_int (pa_cons pe_int pa_nil))) (pa_cons (pe_tup (pa_cons pe_int (pa_cons pe_int pa_nil))) pa_nil))) (pa_cons (pe_call G_law_common (hr.mono (by decide)) (by rfl) T.d_law_common.mg T.d_law_common.F.kp T.d_law_common.b .nil pass0 (pa_cons (pe_tup (pa_cons (pe_tup (pa_cons pe_int (pa_cons pe_int pa_nil))) (pa_cons (pe_tup (pa_cons pe_int (pa_cons pe_int pa_nil))) pa_nil))) pa_nil)) pa_nil)))))) (pss_one 
      (ps_ret (pe_call G_law_same (hr.mono (by decide)) (by rfl) T.d_law_same.mg T.d_law_same.F.kp T.d_law_same.b .nil pass0 (pa_cons (pv 0) (pa_cons (pe_lst (pa_cons (pe_tup (pa_cons (pe_tup (pa_cons pe_int (pa_cons pe_int pa_nil))) (pa_cons pe_int pa_nil))) (pa_cons (pe_tup (pa_cons pe_int pa_nil)) (pa_cons pe_bl (pa_cons (pe_tup (pa_cons pe_int (pa_cons pe_int (pa_cons pe_int pa_nil)))) (pa_cons (pe_tup (pa_cons pe_int (pa_cons pe_int pa_nil))) (pa_cons pe_int (pa_cons (pe_lst (pa_cons pe_str pa_nil)) pa_nil)))))))) pa_nil))))))), ?_⟩
    have z9 : ∀ {n : Nat}, n ≤ 9 → n ≤ sizeLine := fun h => small (by omega)
    -- root_of
    refine ⟨z9 (Nat.le_of_ble_eq_true rfl), fun a1 n1 => ⟨a1, [0, 1, 0, 1], rfl, upd_same, by decide, by decide, fun p1 r1 H1 s1 hp1 hr1 => ?_⟩⟩
    have t1 := Same.trans (same_new (o := W [0, 1, 0, 1]) n1) s1
    rw [show root [0, 1, 0, 1] = [0, 1] by decide] at hr1
    rw [show rtimes [0, 1, 0, 1] = 2 by decide] at hp1
    -- common_root
    refine ⟨z9 (Nat.le_of_ble_eq_true rfl), fun a2 n2 => ⟨z9 (Nat.le_of_ble_eq_true rfl), fun a3 n3 => ⟨z9 (Nat.le_of_ble_eq_true rfl), fun a4 n4 => ?_⟩⟩⟩
    have s2 := same_new (o := W [0, 0]) n2
    have s3 := same_new (o := W [0]) n3
    have s4 := same_new (o := .tup [.ref a2, .ref a3]) n4
    refine ⟨a4, [a2, a3], [[0, 0], [0]], rfl, upd_same, .cons ((s3.trans s4) _ _ upd_same) (.cons (s4 _ _ upd_same) .nil), by decide, by decide, fun H2 s5 => ?_⟩
    rw [show commonRoot [[0, 0], [0]] = some [0] by decide]
    intro p2 hp2
    have t2 := ((s2.trans s3).trans s4).trans s5
    -- commute
    refine ⟨z9 (Nat.le_of_ble_eq_true rfl), fun a5 n5 => ⟨z9 (Nat.le_of_ble_eq_true rfl), fun a6 n6 => ?_⟩⟩
    have s6 := same_new (o := W [0, 1]) n5
    have s7 := same_new (o := W [1, 0]) n6
    refine ⟨a5, a6, [0, 1], [1, 0], rfl, s7 _ _ upd_same, upd_same, by decide, by decide, fun H3 s8 => ?_⟩
    rw [show decide (([0, 1] : List Int) ++ [1, 0] = [1, 0] ++ [0, 1]) = false by decide]
    have t3 := (s6.trans s7).trans s8
    -- turned
    refine ⟨z9 (Nat.le_of_ble_eq_true rfl), fun a7 n7 => ⟨a7, 4, [0, 1, 2], rfl, upd_same, by decide, by decide, fun p4 H4 s9 hp4 => ?_⟩⟩
    rw [show rot [0, 1, 2] (4 % ([0, 1, 2] : List Int).length) = [1, 2, 0] by decide] at hp4
    have t4 := Same.trans (same_new (o := W [0, 1, 2]) n7) s9
    refine ⟨z9 (Nat.le_of_ble_eq_true rfl), fun h nh => ?_⟩
    have s10 := same_new (o := .lst [.ref p1, .ref p2, .bl false, .ref p4]) nh
    have eh : upd H4 h (.lst [.ref p1, .ref p2, .bl false, .ref p4]) h = some (.lst [.ref p1, .ref p2, .bl false, .ref p4]) := upd_same
    have h1 : HasAll (upd H4 h (.lst [.ref p1, .ref p2, .bl false, .ref p4])) [.ref p1, .ref p2, .bl false, .ref p4] [dPair [0, 1] 2, dw [0], .bl false, dw [1, 2, 0]] :=
      .cons (.tup ((((t2.trans t3).trans t4).trans s10) _ _ hp1) (.cons (has_w ((((t2.trans t3).trans t4).trans s10) _ _ hr1)) (.cons (.int 2) .nil)))
        (.cons (has_w (((t3.trans t4).trans s10) _ _ hp2)) (.cons (.bl false) (.cons (has_w (s10 _ _ hp4)) .nil)))
    have tA := (((t1.trans t2).trans t3).trans t4).trans s10
    generalize upd H4 h (.lst [.ref p1, .ref p2, .bl false, .ref p4]) = H5 at eh h1 tA
    clear s10 t1 t2 t3 t4 hp1 hr1 hp2 hp4
    -- piece_of
    refine ⟨.ref h, rfl, z9 (Nat.le_of_ble_eq_true rfl), fun a8 n8 => ⟨a8, 10, 2, [0, 1, 2], rfl, upd_same, by decide, by decide, by decide, fun p5 H6 s11 hp5 => ?_⟩⟩
    rw [show piece [0, 1, 2] 10 2 = [1, 2] by decide] at hp5
    have t5 := Same.trans (same_new (o := W [0, 1, 2]) n8) s11
    -- first_apart
    refine ⟨z9 (Nat.le_of_ble_eq_true rfl), fun a9 n9 => ⟨z9 (Nat.le_of_ble_eq_true rfl), fun a10 n10 => ?_⟩⟩
    have s12 := same_new (o := W [0, 1]) n9
    have s13 := same_new (o := W [0, 0]) n10
    refine ⟨a9, a10, [0, 1], [0, 0], rfl, s13 _ _ upd_same, upd_same, by decide, by decide, fun H7 s14 => ?_⟩
    rw [show firstApart [0, 1] [0, 0] = some 1 by decide]
    have t6 := (s12.trans s13).trans s14
    -- _law_common
    refine ⟨z9 (Nat.le_of_ble_eq_true rfl), fun a11 n11 => ⟨z9 (Nat.le_of_ble_eq_true rfl), fun a12 n12 => ⟨z9 (Nat.le_of_ble_eq_true rfl), fun a13 n13 => ?_⟩⟩⟩
    have s15 := same_new (o := W [0, 1]) n11
    have s16 := same_new (o := W [1, 0]) n12
    have s17 := same_new (o := .tup [.ref a11, .ref a12]) n13
    refine ⟨a13, [a11, a12], [[0, 1], [1, 0]], rfl, upd_same, .cons ((s16.trans s17) _ _ upd_same) (.cons (s17 _ _ upd_same) .nil), by decide, by decide, fun p7 H8 s18 hm => ?_⟩
    rw [show commonRoot [[0, 1], [1, 0]] = none by decide] at hm
    have hp7 : H8 p7 = some (.lst [.str "none"]) := hm
    have t7 := ((s15.trans s16).trans s17).trans s18
    refine ⟨z9 (Nat.le_of_ble_eq_true rfl), fun h2 nh2 => ?_⟩
    have s19 := same_new (o := .lst [.ref p5, .int 1, .ref p7]) nh2
    have tB := ((t5.trans t6).trans t7).trans s19
    refine ⟨h, h2, _, _, rfl, rfl, tB _ _ eh, upd_same, z9 (Nat.le_of_ble_eq_true rfl), fun h3 nh3 => ?_⟩
    have s20 := same_new (o := .lst ([.ref p1, .ref p2, .bl false, .ref p4] ++ [.ref p5, vOpt (some 1), .ref p7])) nh3
    have tC := tB.trans s20
    have hx : Has (upd (upd H8 h2 (.lst [.ref p5, vOpt (some 1), .ref p7])) h3 (.lst ([.ref p1, .ref p2, .bl false, .ref p4] ++ [.ref p5, vOpt (some 1), .ref p7]))) (.ref h3) (.lst [dPair [0, 1] 2, dw [0], .bl false, dw [1, 2, 0], dw [1, 2], .int 1, .lst [.str "none"]]) :=
      .lst upd_same ((h1.same tC).append (.cons (has_w (((t6.trans t7).trans (s19.trans s20)) _ _ hp5)) (.cons (.int 1) (.cons (.lst ((s19.trans s20) _ _ hp7) (.cons (.str _) .nil)) .nil))))
    have tD := tA.trans tC
    generalize upd (upd H8 h2 (.lst [.ref p5, vOpt (some 1), .ref p7])) h3 (.lst ([.ref p1, .ref p2, .bl false, .ref p4] ++ [.ref p5, vOpt (some 1), .ref p7])) = H9 at hx tD
    -- the due list
    refine ⟨.ref h3, rfl, z9 (Nat.le_of_ble_eq_true rfl), fun b1 m1 => ⟨z9 (Nat.le_of_ble_eq_true rfl), fun b2 m2 => ⟨z9 (Nat.le_of_ble_eq_true rfl), fun b3 m3 => ⟨z9 (Nat.le_of_ble_eq_true rfl), fun b4 m4 => ⟨z9 (Nat.le_of_ble_eq_true rfl), fun b5 m5 => ⟨z9 (Nat.le_of_ble_eq_true rfl), fun b6 m6 => ⟨z9 (Nat.le_of_ble_eq_true rfl), fun b7 m7 => ?_⟩⟩⟩⟩⟩⟩⟩
    have u1 := same_new (o := W [0, 1]) m1
    have u2 := same_new (o := .tup [.ref b1, .int 2]) m2
    have u3 := same_new (o := W [0]) m3
    have u4 := same_new (o := W [1, 2, 0]) m4
    have u5 := same_new (o := W [1, 2]) m5
    have u6 := same_new (o := .lst [.str "none"]) m6
    have u7 := same_new (o := .lst [.ref b2, .ref b3, .bl false, .ref b4, .ref b5, .int 1, .ref b6]) m7
    have v6 := u6.trans u7
    have v5 := u5.trans v6
    have v4 := u4.trans v5
    have v3 := u3.trans v4
    have v2 := u2.trans v3
    have v1 := u1.trans v2
    refine ⟨.ref h3, .ref b7, .lst [dPair [0, 1] 2, dw [0], .bl false, dw [1, 2, 0], dw [1, 2], .int 1, .lst [.str "none"]], rfl, hx.same v1, .lst upd_same ?_, ?_, fun H10 s21 => q H10 ((tD.trans v1).trans s21)⟩
    · exact .cons (.tup (v3 _ _ upd_same) (.cons (has_w (v2 _ _ upd_same)) (.cons (.int 2) .nil))) (.cons (has_w (v4 _ _ upd_same)) (.cons (.bl false) (.cons (has_w (v5 _ _ upd_same)) (.cons (has_w (v6 _ _ upd_same)) (.cons (.int 1) (.cons (.lst (u7 _ _ upd_same) (.cons (.str _) .nil)) .nil))))))
    · refine ⟨by show 7 ≤ 100; decide, fun z hz => ?_⟩
      simp only [List.mem_cons, List.not_mem_nil, or_false] at hz
      rcases hz with rfl | rfl | rfl | rfl | rfl | rfl | rfl
      · exact fits_pair _ _ (by decide)
      · exact fits_word 2 _ (by decide)
      · trivial
      · exact fits_word 2 _ (by decide)
      · exact fits_word 2 _ (by decide)
      · trivial
      · exact ⟨by show 1 ≤ 100; decide, fun z hz => by
          rw [List.mem_singleton.mp hz]
          trivial⟩
/-! ### the law -/
def sp_law (K : PySem.W.Frag) : Sp := fun vs H Q _ => ∃ (a : Addr) (ns : List Int), vs = [.ref a] ∧ SqL K H a (ns.map V.int) ∧ ns.length ≤ 63 ∧ ∀ H', Q (.bl true) H'
theorem ok_law (T : Top K mg) (Z : Err K mg) (L : At K mg "law" s_law ["_law_script"]) : FnOk P w K mg base CX0 8 L.f L.fd ["_law_script"] (sp_law K) := by
  have G_law_by_hand_right : FnOk P w K mg base CX0 7 T.d_law_by_hand_right.f T.d_law_by_hand_right.fd [] sp_by_hand := ok_by_hand T Z
  have G_law_cells : FnOk P w K mg base CX0 1 T.d_law_cells.f T.d_law_cells.fd ["_law_script", "_law_top"] (sp_law_cells K) := ok_law_cells T
  have G_law_box : FnOk P w K mg base CX0 1 T.d_law_box.f T.d_law_box.fd ["_law_script", "_law_k"] (sp_law_box K) := ok_law_box T
  have G_law_right : FnOk P w K mg base CX0 7 T.d_law_right.f T.d_law_right.fd ["_law_urn"] sp_law_right := ok_law_right T Z
  refine L.F.ok sc_law (fun vs H Q E h => ?_) (fun cdv A outer s H vs Q E hr h => ?_)
  · obtain ⟨a, ns, rfl, _⟩ := h
    rfl
  · obtain ⟨a, ns, rfl, ha, hn, q⟩ := h
    refine ⟨_, (pss_cons 
      (ps_if (pt_not (pt_val (pe_call0 G_law_by_hand_right (hr.mono (by decide)) (by rfl) T.d_law_by_hand_right.mg T.d_law_by_hand_right.F.kp T.d_law_by_hand_right.b .nil pass0))) (pss_one 
        (ps_ret pe_bl)) pss_nil) (pss_cons 
      (ps_set (i := 1) sc_law.nd rfl (.inr rfl) (pe_call G_law_cells (hr.mono (by decide)) (by rfl) T.d_law_cells.mg T.d_law_cells.F.kp T.d_law_cells.b .nil pass0 (pa_cons (pv 0) (pa_cons pe_int pa_nil)))) (pss_one 
      (ps_ret (pe_callB (all_k (K := K) rfl rfl) (by rfl) T.m_all (by decide +kernel) (pa_cons (pe_lc (own := [("_law_k", 2)]) rfl sc_law.nd (pi_range1 (by rfl) T.m_range (pa_cons (pe_callB (len_k (K := K) rfl) (by rfl) T.m_len PySem.boot_len (pa_cons (pv 1) pa_nil)) pa_nil)) (blkOk_by (N := ["_law_script", "_law_cells_so", "_law_k"]) (sc := defScope s_law) (by decide +kernel)) (fun _ _ _ _ _ => pg_name (i := 2) sc_law.nd rfl (.inl rfl)) (fun _ _ _ _ _ => pts_nil) (fun _ _ _ _ _ => (pe_call G_law_right (hr.mono (by decide)) (by rfl) T.d_law_right.mg T.d_law_right.F.kp T.d_law_right.b .nil pass0 (pa_cons (pe_call G_law_box (hr.mono (by decide)) (by rfl) T.d_law_box.mg T.d_law_box.F.kp T.d_law_box.b .nil pass0 (pa_cons (pv 1) (pa_cons (pv 2) pa_nil))) pa_nil)))) pa_nil)))))), ?_⟩
    refine ⟨rfl, fun H1 s1 => ⟨true, rfl, iteF ?_⟩⟩
    refine ⟨.ref a, rfl, a, ns, rfl, s1.seq ha, hn, fun l ms H2 s2 hl ml => ?_⟩
    refine ⟨.ref l, rfl, l, _, rfl, .inl (SqL.of hl), ?_⟩
    refine ⟨((ms.map V.int).length : Int), rfl, by omega, by rw [len_word]; omega, fun D nD => ?_⟩
    rw [len_word, Int.toNat_natCast]
    refine lc_range (lo := 0) (n := ms.length) (fun i H' => Same H2 H' ∧ H' D = some (.lst ((List.replicate i true).map V.bl))) ⟨same_new nD, upd_same⟩ (fun i H' hi hp => ?_) (fun H' hp => ?_)
    · obtain ⟨s3, hD⟩ := hp
      rw [show (0 : Int) + (i : Int) = (i : Int) from Int.zero_add _]
      refine ⟨rfl, yes_ (iteT ?_)⟩
      refine ⟨.ref l, rfl, .int (i : Int), rfl, l, i, ms, rfl, SqL.of (s3 _ _ hl), by omega, fun p H3 s4 np hU => ?_⟩
      refine ⟨p, rfl, hU, fun H4 b5 => ?_⟩
      have kp : ∀ b o, H' b = some o → H4 b = some o := fun b o e => b5 b o (ne_of_none e np) (s4 b o e)
      refine ⟨_, kp _ _ hD, room (by rw [List.length_map, List.length_replicate]; omega), same_mut (s3.trans kp) nD, ?_⟩
      rw [upd_same, List.replicate_succ', List.map_append]
      rfl
    · obtain ⟨s3, hD⟩ := hp
      refine ⟨D, _, rfl, SqL.of hD, ?_⟩
      rw [show (List.replicate ms.length true).all id = true from List.all_eq_true.mpr fun z hz => by
        rw [List.eq_of_mem_replicate hz]
        rfl]
      exact q H'
end
end K2


namespace K2
open PySem PySem.Spec PyProof.Rows L2 G2 G3 KW RZ
/-- «except S» meets an error of S -/
theorem err_self {K : PySem.W.Frag} {S : Addr} (b : PySem.W.subIn K (.ref S) (.type "BaseException") = some true) (i : PySem.W.isClsIn K S = true) (t : PySem.W.typeIn K (.ref S) = some (.type "type")) (s : PySem.W.subIn K (.ref S) (.ref S) = some true) :
    PySem.W.exmOne K (.ref S) (.ref S) = some true := by
  have i' : (PySem.W.clsIn K S).isSome = true := i
  have e1 : (PySem.W.subIn K (.ref S) (.type "BaseException") == some true) = true := by
    rw [b]
    rfl
  have e2 : ((PySem.W.clsIn K S).isSome && PySem.W.typeIn K (.ref S) == some (.type "type")) = true := by
    rw [i', t]
    rfl
  unfold PySem.W.exmOne
  rw [if_pos e1]
  unfold PySem.W.kitCls
  rw [← s]
  exact if_pos e2
/-- one def of the top -/
def atMk {K : PySem.W.Frag} {h : Heap} {mg : Str → Option Value} {x : Str} {st : Stmt} {ps : List Str} {f : Addr} {oc kV dc pm cd ct : Value} {od an : Option Addr} {sl : Array (Option Value)} (X : K.In h) (G : h.Ns mainGlobals mg)
    (a : PySem.W.nsIn K mainGlobals x = some (some (.ref f))) (l : K.lookup f = some ⟨oc, od, .func (PySem.W.fnOf x x (defArgs st) (defBody st) (defScope st) .none kV dc pm an cd ct), sl⟩) (c : PySem.W.codeIn K cd x = true) (k : PySem.W.keepIn K (.ref f) = true)
    (hb : ∀ (kV doc pm : Value) (an : Option Addr) (cdv ct : Value) (us : List Value), us.length = ps.length → bindArgs (PySem.W.fnOf x x (defArgs st) (defBody st) (defScope st) .none kV doc pm an cdv ct) ⟨us, []⟩ = pure (ps.zip us)) : At K mg x st ps :=
  ⟨f, PySem.W.fnOf x x (defArgs st) (defBody st) (defScope st) .none kV dc pm an cd ct, fun_mk l c k, (fun_mk l c k).binds hb, PySem.W.mg_of X G a⟩
theorem all_mk {l : PySem.W.OpenLaw} {w : World} {K : PySem.W.Frag} {h : Heap} {mg : Str → Option Value} {fa C f1 f2 f3 f4 f5 f6 f7 f8 f9 f10 f11 f12 f13 f14 f15 f16 f17 f18 : Addr} (X : K.In h) (G : h.Ns mainGlobals mg) (hfa : mg "law" = some (.ref fa))
    {od1 an1 od2 an2 od3 an3 od4 an4 od5 an5 od6 an6 od7 an7 od8 an8 od9 an9 od10 an10 od11 an11 od12 an12 od13 an13 od14 an14 od15 an15 od16 an16 od17 an17 od18 an18 : Option Addr} {sl1 sl2 sl3 sl4 sl5 sl6 sl7 sl8 sl9 sl10 sl11 sl12 sl13 sl14 sl15 sl16 sl17 sl18 : Array (Option Value)} {oc1 kV1 dc1 pm1 cd1 ct1 oc2 kV2 dc2 pm2 cd2 ct2 oc3 kV3 dc3 pm3 cd3 ct3 oc4 kV4 dc4 pm4 cd4 ct4 oc5 kV5 dc5 pm5 cd5 ct5 oc6 kV6 dc6 pm6 cd6 ct6 oc7 kV7 dc7 pm7 cd7 ct7 oc8 kV8 dc8 pm8 cd8 ct8 oc9 kV9 dc9 pm9 cd9 ct9 oc10 kV10 dc10 pm10 cd10 ct10 oc11 kV11 dc11 pm11 cd11 ct11 oc12 kV12 dc12 pm12 cd12 ct12 oc13 kV13 dc13 pm13 cd13 ct13 oc14 kV14 dc14 pm14 cd14 ct14 oc15 kV15 dc15 pm15 cd15 ct15 oc16 kV16 dc16 pm16 cd16 ct16 oc17 kV17 dc17 pm17 cd17 ct17 oc18 kV18 dc18 pm18 cd18 ct18 : Value}
    (a1 : PySem.W.nsIn K mainGlobals "word_power" = some (some (.ref f1))) (l1 : K.lookup f1 = some ⟨oc1, od1, .func (PySem.W.fnOf "word_power" "word_power" (defArgs s_word_power) (defBody s_word_power) (defScope s_word_power) .none kV1 dc1 pm1 an1 cd1 ct1), sl1⟩) (c1 : PySem.W.codeIn K cd1 "word_power" = true) (k1 : PySem.W.keepIn K (.ref f1) = true)
    (a2 : PySem.W.nsIn K mainGlobals "root_of" = some (some (.ref f2))) (l2 : K.lookup f2 = some ⟨oc2, od2, .func (PySem.W.fnOf "root_of" "root_of" (defArgs s_root_of) (defBody s_root_of) (defScope s_root_of) .none kV2 dc2 pm2 an2 cd2 ct2), sl2⟩) (c2 : PySem.W.codeIn K cd2 "root_of" = true) (k2 : PySem.W.keepIn K (.ref f2) = true)
    (a3 : PySem.W.nsIn K mainGlobals "commute" = some (some (.ref f3))) (l3 : K.lookup f3 = some ⟨oc3, od3, .func (PySem.W.fnOf "commute" "commute" (defArgs s_commute) (defBody s_commute) (defScope s_commute) .none kV3 dc3 pm3 an3 cd3 ct3), sl3⟩) (c3 : PySem.W.codeIn K cd3 "commute" = true) (k3 : PySem.W.keepIn K (.ref f3) = true)
    (a4 : PySem.W.nsIn K mainGlobals "common_root" = some (some (.ref f4))) (l4 : K.lookup f4 = some ⟨oc4, od4, .func (PySem.W.fnOf "common_root" "common_root" (defArgs s_common_root) (defBody s_common_root) (defScope s_common_root) .none kV4 dc4 pm4 an4 cd4 ct4), sl4⟩) (c4 : PySem.W.codeIn K cd4 "common_root" = true) (k4 : PySem.W.keepIn K (.ref f4) = true)
    (a5 : PySem.W.nsIn K mainGlobals "turned" = some (some (.ref f5))) (l5 : K.lookup f5 = some ⟨oc5, od5, .func (PySem.W.fnOf "turned" "turned" (defArgs s_turned) (defBody s_turned) (defScope s_turned) .none kV5 dc5 pm5 an5 cd5 ct5), sl5⟩) (c5 : PySem.W.codeIn K cd5 "turned" = true) (k5 : PySem.W.keepIn K (.ref f5) = true)
    (a6 : PySem.W.nsIn K mainGlobals "piece_of" = some (some (.ref f6))) (l6 : K.lookup f6 = some ⟨oc6, od6, .func (PySem.W.fnOf "piece_of" "piece_of" (defArgs s_piece_of) (defBody s_piece_of) (defScope s_piece_of) .none kV6 dc6 pm6 an6 cd6 ct6), sl6⟩) (c6 : PySem.W.codeIn K cd6 "piece_of" = true) (k6 : PySem.W.keepIn K (.ref f6) = true)
    (a7 : PySem.W.nsIn K mainGlobals "is_piece" = some (some (.ref f7))) (l7 : K.lookup f7 = some ⟨oc7, od7, .func (PySem.W.fnOf "is_piece" "is_piece" (defArgs s_is_piece) (defBody s_is_piece) (defScope s_is_piece) .none kV7 dc7 pm7 an7 cd7 ct7), sl7⟩) (c7 : PySem.W.codeIn K cd7 "is_piece" = true) (k7 : PySem.W.keepIn K (.ref f7) = true)
    (a8 : PySem.W.nsIn K mainGlobals "first_apart" = some (some (.ref f8))) (l8 : K.lookup f8 = some ⟨oc8, od8, .func (PySem.W.fnOf "first_apart" "first_apart" (defArgs s_first_apart) (defBody s_first_apart) (defScope s_first_apart) .none kV8 dc8 pm8 an8 cd8 ct8), sl8⟩) (c8 : PySem.W.codeIn K cd8 "first_apart" = true) (k8 : PySem.W.keepIn K (.ref f8) = true)
    (a9 : PySem.W.nsIn K mainGlobals "_law_box" = some (some (.ref f9))) (l9 : K.lookup f9 = some ⟨oc9, od9, .func (PySem.W.fnOf "_law_box" "_law_box" (defArgs s_law_box) (defBody s_law_box) (defScope s_law_box) .none kV9 dc9 pm9 an9 cd9 ct9), sl9⟩) (c9 : PySem.W.codeIn K cd9 "_law_box" = true) (k9 : PySem.W.keepIn K (.ref f9) = true)
    (a10 : PySem.W.nsIn K mainGlobals "_law_take" = some (some (.ref f10))) (l10 : K.lookup f10 = some ⟨oc10, od10, .func (PySem.W.fnOf "_law_take" "_law_take" (defArgs s_law_take) (defBody s_law_take) (defScope s_law_take) .none kV10 dc10 pm10 an10 cd10 ct10), sl10⟩) (c10 : PySem.W.codeIn K cd10 "_law_take" = true) (k10 : PySem.W.keepIn K (.ref f10) = true)
    (a11 : PySem.W.nsIn K mainGlobals "_law_cells" = some (some (.ref f11))) (l11 : K.lookup f11 = some ⟨oc11, od11, .func (PySem.W.fnOf "_law_cells" "_law_cells" (defArgs s_law_cells) (defBody s_law_cells) (defScope s_law_cells) .none kV11 dc11 pm11 an11 cd11 ct11), sl11⟩) (c11 : PySem.W.codeIn K cd11 "_law_cells" = true) (k11 : PySem.W.keepIn K (.ref f11) = true)
    (a12 : PySem.W.nsIn K mainGlobals "_law_same" = some (some (.ref f12))) (l12 : K.lookup f12 = some ⟨oc12, od12, .func (PySem.W.fnOf "_law_same" "_law_same" (defArgs s_law_same) (defBody s_law_same) (defScope s_law_same) .none kV12 dc12 pm12 an12 cd12 ct12), sl12⟩) (c12 : PySem.W.codeIn K cd12 "_law_same" = true) (k12 : PySem.W.keepIn K (.ref f12) = true)
    (a13 : PySem.W.nsIn K mainGlobals "_law_word" = some (some (.ref f13))) (l13 : K.lookup f13 = some ⟨oc13, od13, .func (PySem.W.fnOf "_law_word" "_law_word" (defArgs s_law_word) (defBody s_law_word) (defScope s_law_word) .none kV13 dc13 pm13 an13 cd13 ct13), sl13⟩) (c13 : PySem.W.codeIn K cd13 "_law_word" = true) (k13 : PySem.W.keepIn K (.ref f13) = true)
    (a14 : PySem.W.nsIn K mainGlobals "_law_root" = some (some (.ref f14))) (l14 : K.lookup f14 = some ⟨oc14, od14, .func (PySem.W.fnOf "_law_root" "_law_root" (defArgs s_law_root) (defBody s_law_root) (defScope s_law_root) .none kV14 dc14 pm14 an14 cd14 ct14), sl14⟩) (c14 : PySem.W.codeIn K cd14 "_law_root" = true) (k14 : PySem.W.keepIn K (.ref f14) = true)
    (a15 : PySem.W.nsIn K mainGlobals "_law_common" = some (some (.ref f15))) (l15 : K.lookup f15 = some ⟨oc15, od15, .func (PySem.W.fnOf "_law_common" "_law_common" (defArgs s_law_common) (defBody s_law_common) (defScope s_law_common) .none kV15 dc15 pm15 an15 cd15 ct15), sl15⟩) (c15 : PySem.W.codeIn K cd15 "_law_common" = true) (k15 : PySem.W.keepIn K (.ref f15) = true)
    (a16 : PySem.W.nsIn K mainGlobals "_law_right" = some (some (.ref f16))) (l16 : K.lookup f16 = some ⟨oc16, od16, .func (PySem.W.fnOf "_law_right" "_law_right" (defArgs s_law_right) (defBody s_law_right) (defScope s_law_right) .none kV16 dc16 pm16 an16 cd16 ct16), sl16⟩) (c16 : PySem.W.codeIn K cd16 "_law_right" = true) (k16 : PySem.W.keepIn K (.ref f16) = true)
    (a17 : PySem.W.nsIn K mainGlobals "_law_by_hand_right" = some (some (.ref f17))) (l17 : K.lookup f17 = some ⟨oc17, od17, .func (PySem.W.fnOf "_law_by_hand_right" "_law_by_hand_right" (defArgs s_law_by_hand_right) (defBody s_law_by_hand_right) (defScope s_law_by_hand_right) .none kV17 dc17 pm17 an17 cd17 ct17), sl17⟩) (c17 : PySem.W.codeIn K cd17 "_law_by_hand_right" = true) (k17 : PySem.W.keepIn K (.ref f17) = true)
    (a18 : PySem.W.nsIn K mainGlobals "law" = some (some (.ref f18))) (l18 : K.lookup f18 = some ⟨oc18, od18, .func (PySem.W.fnOf "law" "law" (defArgs s_law) (defBody s_law) (defScope s_law) .none kV18 dc18 pm18 an18 cd18 ct18), sl18⟩) (c18 : PySem.W.codeIn K cd18 "law" = true) (k18 : PySem.W.keepIn K (.ref f18) = true)
    (z1 : PySem.W.nsIn K mainGlobals "tuple" = some none) (z2 : PySem.W.nsIn K mainGlobals "len" = some none) (z3 : PySem.W.nsIn K mainGlobals "range" = some none) (z4 : PySem.W.nsIn K mainGlobals "enumerate" = some none) (z5 : PySem.W.nsIn K mainGlobals "zip" = some none) (z6 : PySem.W.nsIn K mainGlobals "abs" = some none) (z7 : PySem.W.nsIn K mainGlobals "int" = some none) (z8 : PySem.W.nsIn K mainGlobals "list" = some none) (z9 : PySem.W.nsIn K mainGlobals "isinstance" = some none) (z10 : PySem.W.nsIn K mainGlobals "all" = some none) (z11 : PySem.W.nsIn K mainGlobals "bool" = some none) (z12 : PySem.W.nsIn K mainGlobals "str" = some none) (z13 : PySem.W.nsIn K mainGlobals "min" = some none)
    (aC : PySem.W.nsIn K mainGlobals "CanNot" = some (some (.ref C))) (xC : PySem.W.excIn K C [.type "ValueError", .type "Exception", .type "BaseException", .type "object"] "ValueError.__new__" = true) (kC : PySem.W.keepIn K (.ref C) = true)
    (bC : PySem.W.subIn K (.ref C) (.type "BaseException") = some true) (tC : PySem.W.typeIn K (.ref C) = some (.type "type")) (iC : PySem.W.isClsIn K C = true) (sC : PySem.W.subIn K (.ref C) (.ref C) = some true) :
    ∃ fd : FuncData, (∀ (s : Shared) (v : Value), BindsTo s fd ⟨[v], []⟩ [("_law_script", v)]) ∧ ∀ base : Heap, K.In base → base.Ns mainGlobals mg → FnOk l.prog w K mg base CX0 8 fa fd ["_law_script"] (sp_law K) := by
  have e := hfa.symm.trans (PySem.W.mg_of X G a18)
  cases e
  have Z : Err K mg := ⟨C, PySem.W.mg_of X G aC, xC, kC, bC, tC, err_self bC iC tC sC⟩
  have T : Top K mg := ⟨PySem.W.mg_none_of X G z1, PySem.W.mg_none_of X G z2, PySem.W.mg_none_of X G z3, PySem.W.mg_none_of X G z4, PySem.W.mg_none_of X G z5, PySem.W.mg_none_of X G z6, PySem.W.mg_none_of X G z7, PySem.W.mg_none_of X G z8, PySem.W.mg_none_of X G z9, PySem.W.mg_none_of X G z10, PySem.W.mg_none_of X G z11, PySem.W.mg_none_of X G z12, PySem.W.mg_none_of X G z13,
    atMk X G a1 l1 c1 k1 (fun _ _ _ _ _ _ us hl => match us, hl with | [_, _], _ => rfl),
    atMk X G a2 l2 c2 k2 (fun _ _ _ _ _ _ us hl => match us, hl with | [_], _ => rfl),
    atMk X G a3 l3 c3 k3 (fun _ _ _ _ _ _ us hl => match us, hl with | [_, _], _ => rfl),
    atMk X G a4 l4 c4 k4 (fun _ _ _ _ _ _ us hl => match us, hl with | [_], _ => rfl),
    atMk X G a5 l5 c5 k5 (fun _ _ _ _ _ _ us hl => match us, hl with | [_, _], _ => rfl),
    atMk X G a6 l6 c6 k6 (fun _ _ _ _ _ _ us hl => match us, hl with | [_, _, _], _ => rfl),
    atMk X G a7 l7 c7 k7 (fun _ _ _ _ _ _ us hl => match us, hl with | [_, _, _], _ => rfl),
    atMk X G a8 l8 c8 k8 (fun _ _ _ _ _ _ us hl => match us, hl with | [_, _], _ => rfl),
    atMk X G a9 l9 c9 k9 (fun _ _ _ _ _ _ us hl => match us, hl with | [_, _], _ => rfl),
    atMk X G a10 l10 c10 k10 (fun _ _ _ _ _ _ us hl => match us, hl with | [_, _], _ => rfl),
    atMk X G a11 l11 c11 k11 (fun _ _ _ _ _ _ us hl => match us, hl with | [_, _], _ => rfl),
    atMk X G a12 l12 c12 k12 (fun _ _ _ _ _ _ us hl => match us, hl with | [_, _], _ => rfl),
    atMk X G a13 l13 c13 k13 (fun _ _ _ _ _ _ us hl => match us, hl with | [_, _, _], _ => rfl),
    atMk X G a14 l14 c14 k14 (fun _ _ _ _ _ _ us hl => match us, hl with | [_], _ => rfl),
    atMk X G a15 l15 c15 k15 (fun _ _ _ _ _ _ us hl => match us, hl with | [_], _ => rfl),
    atMk X G a16 l16 c16 k16 (fun _ _ _ _ _ _ us hl => match us, hl with | [_], _ => rfl),
    atMk X G a17 l17 c17 k17 (fun _ _ _ _ _ _ us hl => match us, hl with | [], _ => rfl)⟩
  exact ⟨_, fun s v => .of_eq rfl, fun base _ _ => ok_law T Z (atMk X G a18 l18 c18 k18 (fun _ _ _ _ _ _ us hl => match us, hl with | [_], _ => rfl))⟩
end K2
open PySem PySem.W PyProof.Rows
set_option maxHeartbeats 0 in
theorem PySem.Challenge.cw_unwound_k02_whole_words_and_their_roots_holds : PySem.Challenge.rw_unwound_k02_whole_words_and_their_roots.Holds := by
  w_on; o_law; k_head; (case hw => w_witness2)
  k_fill
  refine L2.walk_of (l := PySem.Challenge.rw_unwound_k02_whole_words_and_their_roots) (n := 63) (k := 8) (x := "_law_script") (CX := fun _ => L2.CX0) (sp := fun w => K2.sp_law _) rfl (by decide) rfl ⟨rfl, by decide, by decide⟩ (fun w h Y => PySem.W.kIn_of Y) ?F (fun _ _ a ns hl _ hS => ⟨a, ns, rfl, hS, hl, fun _ => rfl⟩) (fun _ _ _ _ _ h => h)
  case F =>
    intro w mg fa h KX G hmg
    refine' K2.all_mk KX G hmg ?a1 ?l1 ?c1 ?k1 ?a2 ?l2 ?c2 ?k2 ?a3 ?l3 ?c3 ?k3 ?a4 ?l4 ?c4 ?k4 ?a5 ?l5 ?c5 ?k5 ?a6 ?l6 ?c6 ?k6 ?a7 ?l7 ?c7 ?k7 ?a8 ?l8 ?c8 ?k8 ?a9 ?l9 ?c9 ?k9 ?a10 ?l10 ?c10 ?k10 ?a11 ?l11 ?c11 ?k11 ?a12 ?l12 ?c12 ?k12 ?a13 ?l13 ?c13 ?k13 ?a14 ?l14 ?c14 ?k14 ?a15 ?l15 ?c15 ?k15 ?a16 ?l16 ?c16 ?k16 ?a17 ?l17 ?c17 ?k17 ?a18 ?l18 ?c18 ?k18 ?z1 ?z2 ?z3 ?z4 ?z5 ?z6 ?z7 ?z8 ?z9 ?z10 ?z11 ?z12 ?z13 ?aC ?xC ?kC ?bC ?tC ?iC ?sC
    (case a1 => k_is)
    (case l1 => k_is)
    (case c1 => k_is)
    (case k1 => k_is)
    (case a2 => k_is)
    (case l2 => k_is)
    (case c2 => k_is)
    (case k2 => k_is)
    (case a3 => k_is)
    (case l3 => k_is)
    (case c3 => k_is)
    (case k3 => k_is)
    (case a4 => k_is)
    (case l4 => k_is)
    (case c4 => k_is)
    (case k4 => k_is)
    (case a5 => k_is)
    (case l5 => k_is)
    (case c5 => k_is)
    (case k5 => k_is)
    (case a6 => k_is)
    (case l6 => k_is)
    (case c6 => k_is)
    (case k6 => k_is)
    (case a7 => k_is)
    (case l7 => k_is)
    (case c7 => k_is)
    (case k7 => k_is)
    (case a8 => k_is)
    (case l8 => k_is)
    (case c8 => k_is)
    (case k8 => k_is)
    (case a9 => k_is)
    (case l9 => k_is)
    (case c9 => k_is)
    (case k9 => k_is)
    (case a10 => k_is)
    (case l10 => k_is)
    (case c10 => k_is)
    (case k10 => k_is)
    (case a11 => k_is)
    (case l11 => k_is)
    (case c11 => k_is)
    (case k11 => k_is)
    (case a12 => k_is)
    (case l12 => k_is)
    (case c12 => k_is)
    (case k12 => k_is)
    (case a13 => k_is)
    (case l13 => k_is)
    (case c13 => k_is)
    (case k13 => k_is)
    (case a14 => k_is)
    (case l14 => k_is)
    (case c14 => k_is)
    (case k14 => k_is)
    (case a15 => k_is)
    (case l15 => k_is)
    (case c15 => k_is)
    (case k15 => k_is)
    (case a16 => k_is)
    (case l16 => k_is)
    (case c16 => k_is)
    (case k16 => k_is)
    (case a17 => k_is)
    (case l17 => k_is)
    (case c17 => k_is)
    (case k17 => k_is)
    (case a18 => k_is)
    (case l18 => k_is)
    (case c18 => k_is)
    (case k18 => k_is)
    (case z1 => k_is)
    (case z2 => k_is)
    (case z3 => k_is)
    (case z4 => k_is)
    (case z5 => k_is)
    (case z6 => k_is)
    (case z7 => k_is)
    (case z8 => k_is)
    (case z9 => k_is)
    (case z10 => k_is)
    (case z11 => k_is)
    (case z12 => k_is)
    (case z13 => k_is)
    (case aC => k_is)
    (case xC => k_exc)
    (case kC => k_is)
    (case bC => k_is)
    (case tC => k_is)
    (case iC => k_is)
    (case sC => first | rfl | k_is)
