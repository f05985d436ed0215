import PyProof.Rows.All
import Wide.All
import OpenK.AllK
import Wide.FinOn
import HandS.ForMost
import HandS.EndBits
import HandS.Wide
import HandS.IsInst
import HandS.Gcd
import HandS.SortInts
import HandS.Style
import PySem.Challenge.RW_rootward_k96_whole_lags_of_all_histories
import PyProof.WalkLemmas
import HandS.More

set_option Elab.async false
set_option linter.all false
set_option maxRecDepth 100000
set_option maxHeartbeats 4000000

/-! K96M: the plain mathematics of law k96 (seconds): histories, lags, simulated successes, walks, reachable successes. Core Lean alone. -/
namespace K96M
variable {α : Type}

/-! ### histories -/
/-- the row in force at a moment -/
def InF (rows : List (Int × α)) (m : Int) (p : Int × α) : Prop :=
  ∃ i : Nat, rows[i]? = some p ∧ p.1 ≤ m ∧ ∀ (j : Nat) (p' : Int × α), i < j → rows[j]? = some p' → m < p'.1
/-- rows ascend, the first begins at 0 -/
structure HOk (rows : List (Int × α)) : Prop where
  z : ∃ v, rows[0]? = some (0, v)
  asc : ∀ (i j : Nat) p p', i < j → rows[i]? = some p → rows[j]? = some p' → p.1 < p'.1
theorem InF.uniq {rows : List (Int × α)} {m : Int} {p p' : Int × α} (h : InF rows m p) (h' : InF rows m p') : p = p' := by
  obtain ⟨i, e, l, f⟩ := h
  obtain ⟨j, e', l', f'⟩ := h'
  rcases Nat.lt_trichotomy i j with c | c | c
  · have := f j p' c e'; omega
  · subst c; rw [e] at e'; exact Option.some.inj e'
  · have := f' i p c e; omega
theorem InF.ex {rows : List (Int × α)} (ok : HOk rows) {m : Int} (hm : 0 ≤ m) : ∃ p, InF rows m p := by
  have key : ∀ n : Nat, 0 < n → n ≤ rows.length → ∃ (i : Nat) (p : Int × α), i < n ∧ rows[i]? = some p ∧ p.1 ≤ m ∧ ∀ (j : Nat) (p' : Int × α), i < j → j < n → rows[j]? = some p' → m < p'.1 := by
    intro n
    induction n with
    | zero => intro h; omega
    | succ n ih =>
      intro _ hn
      by_cases h0 : n = 0
      · subst h0
        obtain ⟨v, e⟩ := ok.z
        exact ⟨0, _, by omega, e, hm, fun j p' a b => by omega⟩
      · obtain ⟨i, p, hi, e, l, f⟩ := ih (by omega) (by omega)
        have hlt : n < rows.length := by omega
        by_cases c : rows[n].1 ≤ m
        · exact ⟨n, rows[n], by omega, List.getElem?_eq_getElem hlt, c, fun j p' a b => by omega⟩
        · refine ⟨i, p, by omega, e, l, fun j p' a b q => ?_⟩
          by_cases hj : j = n
          · subst hj
            rw [List.getElem?_eq_getElem hlt] at q
            cases q
            omega
          · exact f j p' a (by omega) q
  obtain ⟨v, e⟩ := ok.z
  have hl : 0 < rows.length := (List.getElem?_eq_some_iff.mp e).1
  obtain ⟨i, p, hi, e, l, f⟩ := key rows.length hl (Nat.le_refl _)
  exact ⟨p, i, e, l, fun j p' a q => f j p' a (List.getElem?_eq_some_iff.mp q).1 q⟩
/-- nothing changes between two moments -/
theorem InF.stay {rows : List (Int × α)} {m c : Int} {p : Int × α} (h : InF rows m p) (hc : m ≤ c) (no : ∀ x ∈ rows, ¬ (m < x.1 ∧ x.1 ≤ c)) : InF rows c p := by
  obtain ⟨i, e, l, f⟩ := h
  refine ⟨i, e, by omega, fun j p' a q => ?_⟩
  have h1 := f j p' a q
  have h2 := no p' (List.mem_of_getElem? q)
  omega
def Val (rows : List (Int × α)) (m : Int) (v : α) : Prop := ∃ p, InF rows m p ∧ p.2 = v
theorem Val.of {rows : List (Int × α)} {m : Int} {p : Int × α} (h : InF rows m p) : Val rows m p.2 := ⟨p, h, rfl⟩
/-- the staleness of a value at a moment -/
def IsLag (rows : List (Int × α)) (m : Int) (v : α) (L : Int) : Prop := 0 ≤ L ∧ L ≤ m ∧ Val rows (m - L) v ∧ ∀ u, m - L < u → u ≤ m → ¬ Val rows u v
theorem IsLag.uniq {rows : List (Int × α)} {m : Int} {v : α} {L L' : Int} (h : IsLag rows m v L) (h' : IsLag rows m v L') : L = L' := by
  obtain ⟨a, b, c, d⟩ := h
  obtain ⟨a', b', c', d'⟩ := h'
  by_cases e : L < L'
  · exact absurd c (d' _ (by omega) (by omega))
  · by_cases e2 : L' < L
    · exact absurd c' (d _ (by omega) (by omega))
    · omega
theorem IsLag.le {rows : List (Int × α)} {m s : Int} {v : α} {L : Int} (h : IsLag rows m v L) (hs : Val rows s v) (h2 : s ≤ m) : L ≤ m - s := by
  obtain ⟨a, b, c, d⟩ := h
  by_cases e : m - L < s
  · exact absurd hs (d s e h2)
  · omega
theorem IsLag.ex {rows : List (Int × α)} {s : Int} {v : α} (hs0 : 0 ≤ s) (hs : Val rows s v) : ∀ n : Nat, ∃ L, IsLag rows (s + n) v L := by
  intro n
  induction n with
  | zero => exact ⟨0, by omega, by omega, by simpa using hs, fun u a b => by omega⟩
  | succ n ih =>
    obtain ⟨L, a, b, c, d⟩ := ih
    by_cases hv : Val rows (s + (n + 1 : Nat)) v
    · exact ⟨0, by omega, by omega, by simpa using hv, fun u a b => by omega⟩
    · refine ⟨L + 1, by omega, by omega, ?_, fun u x y => ?_⟩
      · have e : s + ((n + 1 : Nat) : Int) - (L + 1) = s + n - L := by omega
        rw [e]; exact c
      · by_cases q : u = s + ((n + 1 : Nat) : Int)
        · subst q; exact hv
        · exact d u (by omega) (by omega)
theorem IsLag.ex' {rows : List (Int × α)} {s m : Int} {v : α} (hs0 : 0 ≤ s) (hs : Val rows s v) (h : s ≤ m) : ∃ L, IsLag rows m v L := by
  obtain ⟨L, q⟩ := IsLag.ex hs0 hs (m - s).toNat
  have e : s + ((m - s).toNat : Int) = m := by omega
  rw [e] at q
  exact ⟨L, q⟩
/-- lags grow where nothing changes -/
theorem IsLag.grow {rows : List (Int × α)} (ok : HOk rows) {m c : Int} {v : α} {L M : Int} (h : IsLag rows m v L) (h' : IsLag rows c v M) (hm : 0 ≤ m) (hc : m ≤ c) (no : ∀ x ∈ rows, ¬ (m < x.1 ∧ x.1 ≤ c)) : L ≤ M := by
  obtain ⟨a, b, e, d⟩ := h
  obtain ⟨a', b', e', d'⟩ := h'
  by_cases h0 : L = 0
  · omega
  · have hno : ¬ Val rows m v := d m (by omega) (by omega)
    obtain ⟨p, hp⟩ := InF.ex ok hm
    have hv : ∀ u, m ≤ u → u ≤ c → ¬ Val rows u v := fun u x y ⟨p', hp', ev⟩ => by
      have := InF.stay (c := u) hp x (fun z hz q => no z hz ⟨q.1, by omega⟩)
      have e2 := this.uniq hp'
      subst e2
      exact hno ⟨p, hp, ev⟩
    by_cases q : m ≤ c - M
    · exact absurd e' (hv _ q (by omega))
    · by_cases q2 : m - L < c - M
      · exact absurd e' (d _ q2 (by omega))
      · omega

/-! ### the staleness by the rows' places -/
def Match (rows : List (Int × α)) (m : Int) (v : α) (i : Nat) : Prop := ∃ p, rows[i]? = some p ∧ p.2 = v ∧ p.1 ≤ m
def LastM (rows : List (Int × α)) (m : Int) (v : α) (n i : Nat) : Prop := i < n ∧ Match rows m v i ∧ ∀ j, i < j → j < n → ¬ Match rows m v j
def lastIn (rows : List (Int × α)) (m : Int) (i : Nat) : Int := match rows[i + 1]? with
  | none => m
  | some r => min m (r.1 - 1)
theorem LastM.lag {rows : List (Int × α)} (ok : HOk rows) {m : Int} {v : α} {i : Nat} (h : LastM rows m v rows.length i) : IsLag rows m v (m - lastIn rows m i) := by
  obtain ⟨hi, ⟨p, e, ev, hp⟩, no⟩ := h
  have p0 : 0 ≤ p.1 := by
    obtain ⟨v0, z⟩ := ok.z
    by_cases h0 : i = 0
    · subst h0; rw [z] at e; cases e; exact Int.le_refl _
    · have := ok.asc 0 i _ _ (by omega) z e
      exact Int.le_of_lt this
  have hlow : p.1 ≤ lastIn rows m i ∧ lastIn rows m i ≤ m := by
    unfold lastIn
    split
    · omega
    · rename_i r er
      have := ok.asc i (i + 1) _ _ (by omega) e er
      omega
  have em : m - (m - lastIn rows m i) = lastIn rows m i := by omega
  refine ⟨by omega, by omega, ?_, fun u hu hu2 => ?_⟩
  · rw [em]
    refine ⟨p, ⟨i, e, hlow.1, fun j p' hj ej => ?_⟩, ev⟩
    have hlt : i + 1 < rows.length := by have := (List.getElem?_eq_some_iff.mp ej).1; omega
    have er : rows[i + 1]? = some rows[i + 1] := List.getElem?_eq_getElem hlt
    have h1 : lastIn rows m i ≤ rows[i + 1].1 - 1 := by
      unfold lastIn; rw [er]; simp only; omega
    by_cases hj1 : j = i + 1
    · subst hj1; rw [er] at ej; cases ej; omega
    · have := ok.asc (i + 1) j _ _ (by omega) er ej; omega
  · rw [em] at hu
    rintro ⟨p', ⟨k, ek, hk, fk⟩, ev'⟩
    have hkl : k < rows.length := (List.getElem?_eq_some_iff.mp ek).1
    have hki : k ≤ i := by
      by_cases c : k ≤ i
      · exact c
      · exact absurd ⟨p', ek, ev', by omega⟩ (no k (by omega) hkl)
    unfold lastIn at hu
    split at hu
    · omega
    · rename_i r er
      have := fk (i + 1) r (by omega) er
      omega
theorem IsLag.match {rows : List (Int × α)} {m L : Int} {v : α} (h : IsLag rows m v L) : ∃ i, i < rows.length ∧ Match rows m v i := by
  obtain ⟨a, b, ⟨p, ⟨i, e, l, _⟩, ev⟩, _⟩ := h
  exact ⟨i, (List.getElem?_eq_some_iff.mp e).1, p, e, ev, by omega⟩

/-! ### the simulated second: success, next asking -/
def simN (lost : List Int) (r q m : Int) (s a : Int) : Int :=
  if h : a ≤ m ∧ 0 < r ∧ 0 < q then (if a ∈ lost then simN lost r q m s (a + q) else simN lost r q m a (a + r)) else s
termination_by (m + 1 - a).toNat
decreasing_by all_goals omega
def asks (lost : List Int) (r q m : Int) (a : Int) : List Int :=
  if h : a ≤ m ∧ 0 < r ∧ 0 < q then (if a ∈ lost then a :: asks lost r q m (a + q) else a :: asks lost r q m (a + r)) else []
termination_by (m + 1 - a).toNat
decreasing_by all_goals omega
section
variable {lost : List Int} {r q m s a : Int}
theorem simN_end (h : m < a) : simN lost r q m s a = s := by
  rw [simN, dif_neg (by omega)]
theorem simN_lost (hr : 0 < r) (hq : 0 < q) (h : a ≤ m) (hl : a ∈ lost) : simN lost r q m s a = simN lost r q m s (a + q) := by
  rw [simN, dif_pos ⟨h, hr, hq⟩, if_pos hl]
theorem simN_win (hr : 0 < r) (hq : 0 < q) (h : a ≤ m) (hl : a ∉ lost) : simN lost r q m s a = simN lost r q m a (a + r) := by
  rw [simN, dif_pos ⟨h, hr, hq⟩, if_neg hl]
theorem asks_end (h : m < a) : asks lost r q m a = [] := by
  rw [asks, dif_neg (by omega)]
theorem asks_lost (hr : 0 < r) (hq : 0 < q) (h : a ≤ m) (hl : a ∈ lost) : asks lost r q m a = a :: asks lost r q m (a + q) := by
  rw [asks, dif_pos ⟨h, hr, hq⟩, if_pos hl]
theorem asks_win (hr : 0 < r) (hq : 0 < q) (h : a ≤ m) (hl : a ∉ lost) : asks lost r q m a = a :: asks lost r q m (a + r) := by
  rw [asks, dif_pos ⟨h, hr, hq⟩, if_neg hl]
/-- a row of successes at once -/
theorem simN_row (hr : 0 < r) (hq : 0 < q) : ∀ (k : Nat) (s a : Int), a + k * r ≤ m → (∀ x ∈ lost, a ≤ x → a + k * r < x) → simN lost r q m s a = simN lost r q m (a + k * r) (a + k * r + r) := by
  intro k
  induction k with
  | zero =>
    intro s a h no
    have e : a + ((0 : Nat) : Int) * r = a := by simp
    rw [e] at h no ⊢
    exact simN_win hr hq h fun z => by have := no a z (by omega); omega
  | succ k ih =>
    intro s a h no
    have e : a + ((k + 1 : Nat) : Int) * r = (a + r) + (k : Int) * r := by
      rw [Int.natCast_add, Int.add_mul]; simp; omega
    have hk : 0 ≤ (k : Int) * r := Int.mul_nonneg (by omega) (by omega)
    rw [e] at h no ⊢
    rw [simN_win hr hq (by omega) fun z => by have := no a z (by omega); omega]
    exact ih a (a + r) h fun x hx hl => no x hx (by omega)
theorem simN_range (hr : 0 < r) (hq : 0 < q) : ∀ (n : Nat) (s a : Int), (m + 1 - a).toNat ≤ n → s ≤ m → s ≤ a → s ≤ simN lost r q m s a ∧ simN lost r q m s a ≤ m := by
  intro n
  induction n with
  | zero =>
    intro s a h h1 h2
    rw [simN_end (by omega)]; omega
  | succ n ih =>
    intro s a h h1 h2
    by_cases c : a ≤ m
    · by_cases hl : a ∈ lost
      · rw [simN_lost hr hq c hl]
        have := ih s (a + q) (by omega) h1 (by omega)
        omega
      · rw [simN_win hr hq c hl]
        have := ih a (a + r) (by omega) c (by omega)
        omega
    · rw [simN_end (by omega)]; omega
/-- only what is lost from here on counts -/
theorem simN_congr {lost' : List Int} (hr : 0 < r) (hq : 0 < q) : ∀ (n : Nat) (s a : Int), (m + 1 - a).toNat ≤ n → (∀ x, a ≤ x → x ≤ m → (x ∈ lost ↔ x ∈ lost')) → simN lost r q m s a = simN lost' r q m s a := by
  intro n
  induction n with
  | zero =>
    intro s a h h1
    rw [simN_end (by omega), simN_end (by omega)]
  | succ n ih =>
    intro s a h h1
    by_cases c : a ≤ m
    · have hx := h1 a (by omega) c
      by_cases hl : a ∈ lost
      · rw [simN_lost hr hq c hl, simN_lost hr hq c (hx.mp hl)]
        exact ih s (a + q) (by omega) fun x y z => h1 x (by omega) z
      · rw [simN_win hr hq c hl, simN_win hr hq c fun z => hl (hx.mpr z)]
        exact ih a (a + r) (by omega) fun x y z => h1 x (by omega) z
    · rw [simN_end (by omega), simN_end (by omega)]
/-- losses in a row -/
theorem simN_losses (hr : 0 < r) (hq : 0 < q) : ∀ (k : Nat) (s a : Int), (∀ j : Nat, j < k → a + j * q ∈ lost) → simN lost r q m s a = simN lost r q m s (a + k * q) ∨ ∃ j : Nat, j < k ∧ m < a + j * q ∧ simN lost r q m s a = s := by
  intro k
  induction k with
  | zero => intro s a _; left; simp
  | succ k ih =>
    intro s a h
    by_cases c : a ≤ m
    · have h0 : a ∈ lost := by have := h 0 (by omega); simpa using this
      rw [simN_lost hr hq c h0]
      have e : ∀ j : Nat, a + q + (j : Int) * q = a + ((j + 1 : Nat) : Int) * q := fun j => by
        rw [Int.natCast_add, Int.add_mul]; simp; omega
      rcases ih s (a + q) (fun j hj => by rw [e]; exact h (j + 1) (by omega)) with z | ⟨j, h1, h2, h3⟩
      · left; rw [z, e]
      · right; exact ⟨j + 1, by omega, by rw [← e]; exact h2, h3⟩
    · right; exact ⟨0, by omega, by simp; omega, simN_end (by omega)⟩
end

/-! ### the successes that may be -/
inductive Reach (r q : Int) (losses : Option Int) (u : Int) : Int → Prop
  | zero : Reach r q losses u 0
  | step {s k : Int} : Reach r q losses u s → 0 ≤ k → (∀ l, losses = some l → k ≤ l) → s + r + k * q ≤ u → Reach r q losses u (s + r + k * q)
def NextOf (r q : Int) (losses : Option Int) (u s x : Int) : Prop := ∃ k, 0 ≤ k ∧ (∀ l, losses = some l → k ≤ l) ∧ x = s + r + k * q ∧ x ≤ u
theorem Reach.next {r q : Int} {losses : Option Int} {u s x : Int} (h : Reach r q losses u s) (n : NextOf r q losses u s x) : Reach r q losses u x := by
  obtain ⟨k, a, b, c, d⟩ := n
  subst c
  exact .step h a b d
theorem Reach.sub {r q : Int} {losses : Option Int} {u : Int} {S : Int → Prop} (h0 : S 0) (hs : ∀ s, S s → ∀ x, NextOf r q losses u s x → S x) {x : Int} (h : Reach r q losses u x) : S x := by
  induction h with
  | zero => exact h0
  | step h1 h2 h3 h4 ih => exact hs _ ih _ ⟨_, h2, h3, rfl, h4⟩
theorem few_of {u : Nat} : ∀ {l : List Int}, l.Nodup → (∀ x ∈ l, 0 ≤ x ∧ x < (u : Int)) → l.length ≤ u := by
  induction u with
  | zero =>
    intro l _ h
    cases l with
    | nil => exact Nat.le_refl _
    | cons x l => have := h x List.mem_cons_self; omega
  | succ u ih =>
    intro l nd h
    by_cases hu : (u : Int) ∈ l
    · have h1 := ih (nd.erase (u : Int)) fun x hx => by
        have := (nd.mem_erase_iff).mp hx
        have := h x this.2
        omega
      have h2 := List.length_erase_of_mem hu
      omega
    · have := ih nd fun x hx => by
        have h1 := h x hx
        by_cases e : x = u
        · subst e; exact absurd hx hu
        · omega
      omega
def endOf (r q e : Int) (losses : Option Int) (u s : Int) : Int := match losses with
  | none => min (s + e - 1) u
  | some l => min (min (s + e - 1) u) (s + r + l * q - 1)
/-- a bound of the losses is no less than another one -/
def LosLe : Option Int → Option Int → Prop
  | _, none => True
  | none, some _ => False
  | some a, some b => a ≤ b
theorem Reach.mono {r q : Int} {l l' : Option Int} {u u' s : Int} (h : Reach r q l u s) (hl : LosLe l l') (hu : u ≤ u') : Reach r q l' u' s := by
  induction h with
  | zero => exact .zero
  | step h1 h2 h3 h4 ih =>
    refine .step ih h2 (fun b hb => ?_) (by omega)
    subst hb
    cases l with
    | none => exact hl.elim
    | some a => have := h3 a rfl; have : a ≤ b := hl; omega
theorem endOf_mono {r q e : Int} {l l' : Option Int} {u u' s : Int} (hq : 0 ≤ q) (hl : LosLe l l') (hu : u ≤ u') : endOf r q e l u s ≤ endOf r q e l' u' s := by
  cases l with
  | none =>
    cases l' with
    | none => simp only [endOf]; omega
    | some b => exact hl.elim
  | some a =>
    cases l' with
    | none => simp only [endOf]; omega
    | some b =>
      have hab : a ≤ b := hl
      have : a * q ≤ b * q := Int.mul_le_mul_of_nonneg_right hab hq
      simp only [endOf]; omega
theorem Reach.range {r q : Int} {l : Option Int} {u s : Int} (h : Reach r q l u s) (hr : 0 < r) (hq : 0 < q) (hu : 0 ≤ u) : 0 ≤ s ∧ s ≤ u := by
  induction h with
  | zero => omega
  | @step s k h1 h2 h3 h4 ih =>
    have : 0 ≤ k * q := Int.mul_nonneg h2 (by omega)
    omega
/-- the greatest lag, reached at s and m -/
structure Great (rows : List (Int × α)) (r q e : Int) (losses : Option Int) (u L s m : Int) : Prop where
  reach : Reach r q losses u s
  lo : s ≤ m
  hi : m ≤ endOf r q e losses u s
  lag : ∃ p, InF rows s p ∧ IsLag rows m p.2 L
  max : ∀ s' m' p L', Reach r q losses u s' → s' ≤ m' → m' ≤ endOf r q e losses u s' → InF rows s' p → IsLag rows m' p.2 L' → L' ≤ L
theorem Great.mono {rows : List (Int × α)} {r q e : Int} {l l' : Option Int} {u u' L s m L' s' m' : Int} (h : Great rows r q e l u L s m) (h' : Great rows r q e l' u' L' s' m') (hq : 0 ≤ q) (hl : LosLe l l') (hu : u ≤ u') : L ≤ L' := by
  obtain ⟨p, h1, h2⟩ := h.lag
  exact h'.max s m p L (h.reach.mono hl hu) h.lo (Int.le_trans h.hi (endOf_mono hq hl hu)) h1 h2
theorem Great.uniq {rows : List (Int × α)} {r q e : Int} {l : Option Int} {u L s m L' s' m' : Int} (h : Great rows r q e l u L s m) (h' : Great rows r q e l u L' s' m') (hq : 0 ≤ q) : L = L' := by
  have hl : LosLe l l := by cases l <;> simp [LosLe]
  exact Int.le_antisymm (h.mono h' hq hl (Int.le_refl _)) (h'.mono h hq hl (Int.le_refl _))
def llag (r q e : Int) : Option Int → Int
  | none => e - 1
  | some l => min (r + l * q) e - 1
theorem Great.le {rows : List (Int × α)} {r q e : Int} {l : Option Int} {u L s m : Int} (h : Great rows r q e l u L s m) : 0 ≤ L ∧ L ≤ llag r q e l := by
  obtain ⟨p, h1, h2⟩ := h.lag
  have h3 := h2.le (.of h1) h.lo
  have h4 := h.hi
  refine ⟨h2.1, ?_⟩
  cases l with
  | none => simp only [endOf, llag] at *; omega
  | some l => simp only [endOf, llag] at *; omega
/-- what the two loops of greatest_lag look at is enough -/
theorem Great.of {rows : List (Int × α)} (ok : HOk rows) {r q e : Int} {losses : Option Int} {u L s m : Int} (hr : 0 < r) (hq : 0 < q) (hu : 0 ≤ u)
    (h1 : Reach r q losses u s) (h2 : s ≤ m) (h3 : m ≤ endOf r q e losses u s) (h4 : ∃ p, InF rows s p ∧ IsLag rows m p.2 L)
    (h5 : ∀ s' p, Reach r q losses u s' → InF rows s' p → ∀ c M, (c = endOf r q e losses u s' ∨ ∃ x ∈ rows, s' < x.1 ∧ x.1 ≤ endOf r q e losses u s' ∧ c = x.1 - 1) → IsLag rows c p.2 M → M ≤ L) :
    Great rows r q e losses u L s m := by
  refine ⟨h1, h2, h3, h4, fun s' m' p L' a b c d f => ?_⟩
  have hs := a.range hr hq hu
  -- is there a change in (m', end]? take the first one
  have first : ∀ (l : List (Int × α)), (∀ x ∈ l, ¬ (m' < x.1 ∧ x.1 ≤ endOf r q e losses u s')) ∨ ∃ x ∈ l, (m' < x.1 ∧ x.1 ≤ endOf r q e losses u s') ∧ ∀ y ∈ l, m' < y.1 → x.1 ≤ y.1 := by
    intro l
    induction l with
    | nil => left; intro x hx; cases hx
    | cons z l ih =>
      rcases ih with ih | ⟨x, hx, h, hm⟩
      · by_cases hz : m' < z.1 ∧ z.1 ≤ endOf r q e losses u s'
        · right
          refine ⟨z, List.mem_cons_self, hz, fun y hy hl => ?_⟩
          rcases List.mem_cons.mp hy with rfl | hy
          · omega
          · have := ih y hy; omega
        · left; intro x hx
          rcases List.mem_cons.mp hx with rfl | hx
          · exact hz
          · exact ih x hx
      · right
        by_cases hz : m' < z.1 ∧ z.1 < x.1
        · refine ⟨z, List.mem_cons_self, by omega, fun y hy hl => ?_⟩
          rcases List.mem_cons.mp hy with rfl | hy
          · omega
          · have := hm y hy hl; omega
        · refine ⟨x, List.mem_cons_of_mem _ hx, h, fun y hy hl => ?_⟩
          rcases List.mem_cons.mp hy with rfl | hy
          · omega
          · exact hm y hy hl
  rcases first rows with no | ⟨x, hx, ⟨g1, g2⟩, hm⟩
  · obtain ⟨M, hM⟩ := IsLag.ex' (m := endOf r q e losses u s') hs.1 (.of d) (by omega)
    have := h5 s' p a d _ M (.inl rfl) hM
    have := f.grow ok hM (by omega) c no
    omega
  · obtain ⟨M, hM⟩ := IsLag.ex' (m := x.1 - 1) hs.1 (.of d) (by omega)
    have := h5 s' p a d _ M (.inr ⟨x, hx, by omega, g2, rfl⟩) hM
    have := f.grow ok hM (by omega) (by omega) (fun y hy z => by have := hm y hy z.1; omega)
    omega

/-! ### a row of losses behind a success -/
theorem simN_from {lost : List Int} {r q b many m : Int} (hr : 0 < r) (hq : 0 < q) (hk : 0 ≤ many) (hl : ∀ x, x ∈ lost ↔ ∃ k, 0 ≤ k ∧ k < many ∧ x = b + r + k * q) :
    (m < b + r + many * q → simN lost r q m b (b + r) = b) ∧ (b + r + many * q ≤ m → b + r + many * q ≤ simN lost r q m b (b + r)) := by
  have step := simN_losses (lost := lost) (m := m) hr hq many.toNat b (b + r) fun j hj => (hl _).mpr ⟨(j : Int), by omega, by omega, rfl⟩
  have ek : b + r + (many.toNat : Int) * q = b + r + many * q := by rw [Int.toNat_of_nonneg hk]
  rw [ek] at step
  have hno : b + r + many * q ∉ lost := fun h => by
    obtain ⟨k, k0, k1, e⟩ := (hl _).mp h
    have : k * q < many * q := Int.mul_lt_mul_of_pos_right k1 hq
    omega
  refine ⟨fun h => ?_, fun h => ?_⟩
  · rcases step with z | ⟨j, _, _, z⟩
    · rw [z, simN_end h]
    · exact z
  · rcases step with z | ⟨j, hj, h2, _⟩
    · rw [z, simN_win hr hq h hno]
      exact (simN_range hr hq _ _ _ (Nat.le_refl _) h (by omega)).1
    · have : (j : Int) * q ≤ many * q := Int.mul_le_mul_of_nonneg_right (by omega) (by omega)
      omega
theorem simN_two {lost : List Int} {r q m : Int} (hr : 0 < r) (hq : 0 < q) (hl : ∀ x ∈ lost, r * 2 < x) (hm : r * 2 ≤ m) : simN lost r q m 0 r = simN lost r q m (r * 2) (r * 2 + r) := by
  rw [simN_win hr hq (by omega) fun h => by have := hl r h; omega]
  have e : r + r = r * 2 := by omega
  rw [e, simN_win hr hq hm fun h => by have := hl _ h; omega]
theorem asks_from {lost : List Int} {r q m : Int} (hr : 0 < r) (hq : 0 < q) : ∀ (k : Nat) (a : Int), (∀ j : Nat, j < k → a + j * q ∈ lost) → a + k * q ∉ lost → a + k * q = m → asks lost r q m a = (List.range k).map (fun (j : Nat) => a + (j : Int) * q) ++ [m] := by
  intro k
  induction k with
  | zero =>
    intro a _ hn e
    have e0 : a = m := by simpa using e
    subst e0
    rw [asks_win hr hq (Int.le_refl a) (by simpa using hn), asks_end (by omega)]
    rfl
  | succ k ih =>
    intro a hl hn e
    have es : ∀ j : Nat, a + q + (j : Int) * q = a + ((j + 1 : Nat) : Int) * q := fun j => by
      rw [Int.natCast_add, Int.add_mul]; simp; omega
    have hkq : 0 ≤ (k : Int) * q := Int.mul_nonneg (by omega) (by omega)
    have e2 := es k
    have h0 : a ∈ lost := by have := hl 0 (by omega); simpa using this
    rw [asks_lost hr hq (by omega) h0, ih (a + q) (fun j hj => by rw [es]; exact hl (j + 1) (by omega)) (by rw [es]; exact hn) (by rw [es]; exact e)]
    rw [List.range_succ_eq_map, List.map_cons, List.map_map]
    have e3 : (List.range k).map (fun (j : Nat) => a + q + (j : Int) * q) = (List.range k).map ((fun j : Nat => a + (j : Int) * q) ∘ Nat.succ) := List.map_congr_left fun j _ => es j
    rw [e3]
    simp

/-! ### the plan -/
def Between (r q s en : Int) (ns : List Int) : Prop := (∀ x, x ∈ ns ↔ ∃ k, 0 ≤ k ∧ x = s + r + k * q ∧ x < en) ∧ ns.Pairwise (· < ·)
structure Plan (r q m s c : Int) (L : List Int) : Prop where
  gt : ∀ x ∈ L, c < x ∧ x ≤ m
  asc : L.Pairwise (· < ·)
  sim : ∀ P : List Int, (∀ x ∈ P, x ≤ c) → simN (P ++ L) r q m c (c + r) = s
theorem Plan.start {r q m s : Int} {L : List Int} (hr : 0 < r) (hq : 0 < q) (h : Between r q s (m + 1) L) : Plan r q m s s L := by
  refine ⟨fun x hx => ?_, h.2, fun P _ => ?_⟩
  · obtain ⟨k, k0, e, l⟩ := (h.1 x).mp hx
    have : 0 ≤ k * q := Int.mul_nonneg k0 (by omega)
    omega
  · have key : ∀ (n : Nat) (k : Int), 0 ≤ k → (m + 1 - (s + r + k * q)).toNat ≤ n → simN (P ++ L) r q m s (s + r + k * q) = s := by
      intro n
      induction n with
      | zero => intro k k0 hn; exact simN_end (by omega)
      | succ n ih =>
        intro k k0 hn
        by_cases c : s + r + k * q ≤ m
        · rw [simN_lost hr hq c (List.mem_append_right _ ((h.1 _).mpr ⟨k, k0, rfl, by omega⟩))]
          have e : s + r + k * q + q = s + r + (k + 1) * q := by rw [Int.add_mul, Int.one_mul]; omega
          rw [e]
          exact ih (k + 1) (by omega) (by rw [← e]; omega)
        · exact simN_end (by omega)
    have := key _ 0 (by omega) (Nat.le_refl _)
    simpa using this
theorem Plan.step {r q m s c p k : Int} {L B : List Int} (hr : 0 < r) (hq : 0 < q) (h : Plan r q m s c L) (hB : Between r q p c B) (k0 : 0 ≤ k) (e : c = p + r + k * q) (hc : c ≤ m) : Plan r q m s p (B ++ L) := by
  have hkq : 0 ≤ k * q := Int.mul_nonneg k0 (by omega)
  have hBr : ∀ x ∈ B, p < x ∧ x < c := fun x hx => by
    obtain ⟨j, j0, ej, l⟩ := (hB.1 x).mp hx
    have : 0 ≤ j * q := Int.mul_nonneg j0 (by omega)
    omega
  refine ⟨fun x hx => ?_, List.pairwise_append.mpr ⟨hB.2, h.asc, fun x hx y hy => ?_⟩, fun P hP => ?_⟩
  · rcases List.mem_append.mp hx with hx | hx
    · have := hBr x hx; omega
    · have := h.gt x hx; omega
  · have := hBr x hx; have := h.gt y hy; omega
  · have step := simN_losses (lost := P ++ (B ++ L)) (m := m) hr hq k.toNat p (p + r) fun j hj => by
      have hjk : (j : Int) * q < k * q := Int.mul_lt_mul_of_pos_right (by omega) hq
      exact List.mem_append_right _ (List.mem_append_left _ ((hB.1 _).mpr ⟨(j : Int), by omega, rfl, by omega⟩))
    have ek : p + r + (k.toNat : Int) * q = c := by rw [Int.toNat_of_nonneg k0, e]
    rcases step with z | ⟨j, hj, h2, _⟩
    · rw [z, ek, simN_win hr hq hc fun hm => ?_]
      · have := h.sim (P ++ B) fun x hx => by
          rcases List.mem_append.mp hx with hx | hx
          · have := hP x hx; omega
          · have := hBr x hx; omega
        rwa [List.append_assoc] at this
      · rcases List.mem_append.mp hm with hm | hm
        · have := hP c hm; omega
        · rcases List.mem_append.mp hm with hm | hm
          · have := hBr c hm; omega
          · have := h.gt c hm; omega
    · have hjk : (j : Int) * q < k * q := Int.mul_lt_mul_of_pos_right (by omega) hq
      omega
theorem Plan.few {r q m s c : Int} {L : List Int} (h : Plan r q m s c L) (hc : 0 ≤ c) (hm : 0 ≤ m) : (L.length : Int) ≤ m + 1 := by
  have := few_of (u := (m + 1).toNat) (l := L) (h.asc.imp fun {a b} (x : a < b) => by omega) fun x hx => by
    have := h.gt x hx; omega
  omega
theorem Between.few {r q s en : Int} {ns : List Int} (hr : 0 < r) (hq : 0 < q) (hs : 0 ≤ s) (he : 0 ≤ en) (h : Between r q s en ns) : (ns.length : Int) ≤ en := by
  have := few_of (u := en.toNat) (l := ns) (h.2.imp fun {a b} (x : a < b) => by omega) fun x hx => by
    obtain ⟨k, k0, e, l⟩ := (h.1 x).mp hx
    have : 0 ≤ k * q := Int.mul_nonneg k0 (by omega)
    omega
  omega

/-! ### the law's own walk, with notices or without -/
/-- the last success of the rows up to a moment -/
def lastOf (R : List (Int × Int)) (m : Int) : Int := ((0 : Int) :: (R.filter fun p => decide (p.1 ≤ m)).map (·.2)).getLast (by simp)
theorem lastOf_nil (m : Int) : lastOf [] m = 0 := rfl
theorem lastOf_snoc_le (R : List (Int × Int)) (a s m : Int) (h : a ≤ m) : lastOf (R ++ [(a, s)]) m = s := by
  simp [lastOf, List.filter_append, h, List.getLast_cons]
theorem lastOf_snoc_gt (R : List (Int × Int)) (a s m : Int) (h : m < a) : lastOf (R ++ [(a, s)]) m = lastOf R m := by
  have : ¬ a ≤ m := by omega
  simp [lastOf, List.filter_append, this]
/-- the moment asked at: the planned one, or the first notice behind the last one -/
def IsAsk (nt : List Int) (z a x : Int) : Prop := (x = a ∨ x ∈ nt ∧ z < x) ∧ x ≤ a ∧ ∀ n ∈ nt, z < n → x ≤ n
/-- lost, rows, losses in a row, success, planned asking, last asking -/
inductive Walk (nt : List Int) (r q : Int) (losses : Option Int) (u : Int) : List Int → List (Int × Int) → Int → Int → Int → Int → Prop
  | nil : Walk nt r q losses u [] [] 0 0 r 0
  | lose {L R k s a z x} : Walk nt r q losses u L R k s a z → IsAsk nt z a x → x ≤ u → (∀ l, losses = some l → k < l) → Walk nt r q losses u (L ++ [x]) (R ++ [(x, s)]) (k + 1) s (x + q) x
  | win {L R k s a z x} : Walk nt r q losses u L R k s a z → IsAsk nt z a x → x ≤ u → Walk nt r q losses u L (R ++ [(x, x)]) 0 x (x + r) x
section
variable {nt : List Int} {r q : Int} {losses : Option Int} {u : Int} {L : List Int} {R : List (Int × Int)} {k s a z : Int}
theorem IsAsk.plain {a x : Int} (h : IsAsk [] z a x) : x = a := by
  rcases h.1 with e | e
  · exact e
  · simp at e
structure WalkBase (r q : Int) (losses : Option Int) (u : Int) (L : List Int) (R : List (Int × Int)) (k s a z : Int) : Prop where
  k0 : 0 ≤ k
  kl : ∀ l, losses = some l → 0 ≤ l → k ≤ l
  s0 : 0 ≤ s
  sz : s ≤ z
  za : z < a
  zu : z ≤ u ∨ z = 0
  Lz : ∀ x ∈ L, 0 < x ∧ x ≤ z
  Rz : ∀ p ∈ R, 0 < p.1 ∧ p.1 ≤ z ∧ 0 ≤ p.2 ∧ p.2 ≤ p.1
  last : ∀ m, z ≤ m → lastOf R m = s
  Lasc : L.Pairwise (· < ·)
theorem Walk.base (h : Walk nt r q losses u L R k s a z) (hr : 0 < r) (hq : 0 < q) : WalkBase r q losses u L R k s a z := by
  induction h with
  | nil => exact ⟨by omega, fun l _ h => h, by omega, by omega, by omega, .inr rfl, (fun x hx => nomatch hx), (fun x hx => nomatch hx), fun m _ => rfl, List.Pairwise.nil⟩
  | @lose L R k s a z x w ask hu hk ih =>
    have hx : z < x := by
      rcases ask.1 with e | e
      · have := ih.za; omega
      · exact e.2
    refine ⟨by have := ih.k0; omega, fun l e h0 => by have := hk l e; omega, ih.s0, by have := ih.sz; omega, by omega, .inl hu, fun y hy => ?_, fun y hy => ?_, fun m hm => lastOf_snoc_le _ _ _ _ hm, ?_⟩
    · rcases List.mem_append.mp hy with hy | hy
      · have := ih.Lz y hy; omega
      · have := List.mem_singleton.mp hy; subst this; have := ih.s0; have := ih.sz; omega
    · rcases List.mem_append.mp hy with hy | hy
      · have := ih.Rz y hy; omega
      · have := List.mem_singleton.mp hy; subst this; have := ih.s0; have := ih.sz; exact ⟨by omega, by omega, by omega, by show s ≤ x; omega⟩
    · refine List.pairwise_append.mpr ⟨ih.Lasc, List.pairwise_singleton _ _, fun y hy w hw => ?_⟩
      have := List.mem_singleton.mp hw; subst this
      have := ih.Lz y hy; omega
  | @win L R k s a z x w ask hu ih =>
    have hx : z < x := by
      rcases ask.1 with e | e
      · have := ih.za; omega
      · exact e.2
    have := ih.s0; have := ih.sz
    refine ⟨by omega, fun l _ h => h, by omega, by omega, by omega, .inl hu, fun y hy => ?_, fun y hy => ?_, fun m hm => lastOf_snoc_le _ _ _ _ hm, ih.Lasc⟩
    · have := ih.Lz y hy; omega
    · rcases List.mem_append.mp hy with hy | hy
      · have := ih.Rz y hy; omega
      · have := List.mem_singleton.mp hy; subst this; exact ⟨by omega, by omega, by omega, by show x ≤ x; omega⟩
theorem Walk.lastR (h : Walk nt r q losses u L R k s a z) : (R = [] ∧ z = 0) ∨ ∃ s', R.getLast? = some (z, s') := by
  cases h with
  | nil => exact .inl ⟨rfl, rfl⟩
  | lose w ask hu hk => exact .inr ⟨s, by simp⟩
  | win w ask hu => exact .inr ⟨_, by simp; rfl⟩
/-- without notices: the planned asking, the simulation -/
structure WalkSim (r q : Int) (losses : Option Int) (u : Int) (L : List Int) (R : List (Int × Int)) (k s a : Int) : Prop where
  a_eq : a = s + r + k * q
  sim : ∀ (lost : List Int) (m : Int), (∀ x, x < a → (x ∈ lost ↔ x ∈ L)) → (m < a → simN lost r q m 0 r = lastOf R m) ∧ (a ≤ m → simN lost r q m 0 r = simN lost r q m s a)
  asks : ∀ (lost : List Int), (∀ x, x < a → (x ∈ lost ↔ x ∈ L)) → asks lost r q u r = R.map (·.1) ++ asks lost r q u a
  reach : Reach r q losses u s
  reachR : ∀ p ∈ R, Reach r q losses u p.2
  next : ∀ m, 0 ≤ m → m < a → Reach r q losses u (lastOf R m) ∧ lastOf R m ≤ m ∧ ∀ l, losses = some l → 0 ≤ l → m < lastOf R m + r + l * q
theorem Walk.sim (h : Walk [] r q losses u L R k s a z) (hr : 0 < r) (hq : 0 < q) (hl0 : ∀ l, losses = some l → 0 ≤ l) : WalkSim r q losses u L R k s a := by
  induction h with
  | nil =>
    refine ⟨by omega, fun lost m _ => ⟨fun h => simN_end h, fun _ => rfl⟩, fun lost _ => rfl, .zero, (fun p hp => nomatch hp), fun m h0 h => ?_⟩
    rw [lastOf_nil]
    refine ⟨.zero, by omega, fun l _ hl => ?_⟩
    have : 0 ≤ l * q := Int.mul_nonneg hl (by omega)
    omega
  | @lose L R k s a z x w ask hu hk ih =>
    have ex : x = a := ask.plain
    subst ex
    have B := w.base hr hq
    have hL : ∀ (lost : List Int), (∀ y, y < x + q → (y ∈ lost ↔ y ∈ L ++ [x])) → (∀ y, y < x → (y ∈ lost ↔ y ∈ L)) ∧ x ∈ lost := fun lost h => by
      refine ⟨fun y hy => (h y (by omega)).trans ?_, (h x (by omega)).mpr (by simp)⟩
      rw [List.mem_append, List.mem_singleton]
      exact ⟨fun z => z.elim id fun e => by omega, .inl⟩
    refine ⟨?_, fun lost m h => ?_, fun lost h => ?_, ih.reach, fun p hp => ?_, fun m h0 hm => ?_⟩
    · have := ih.a_eq
      rw [Int.add_mul, Int.one_mul]; omega
    · obtain ⟨h1, h2⟩ := hL lost h
      have := ih.sim lost m h1
      by_cases c : m < x
      · refine ⟨fun _ => ?_, fun _ => by omega⟩
        rw [lastOf_snoc_gt _ _ _ _ c]; exact this.1 c
      · rw [this.2 (by omega), simN_lost hr hq (by omega) h2]
        refine ⟨fun c2 => ?_, fun _ => rfl⟩
        rw [simN_end c2, lastOf_snoc_le _ _ _ _ (by omega)]
    · obtain ⟨h1, h2⟩ := hL lost h
      rw [ih.asks lost h1, asks_lost hr hq hu h2]
      simp
    · rcases List.mem_append.mp hp with hp | hp
      · exact ih.reachR p hp
      · have := List.mem_singleton.mp hp; subst this; exact ih.reach
    · by_cases c : m < x
      · rw [lastOf_snoc_gt _ _ _ _ c]; exact ih.next m h0 c
      · rw [lastOf_snoc_le _ _ _ _ (by omega)]
        refine ⟨ih.reach, by have := B.sz; have := B.za; omega, fun l e hl => ?_⟩
        have h1 := hk l e
        have h2 := ih.a_eq
        have h3 : (k + 1) * q ≤ l * q := Int.mul_le_mul_of_nonneg_right (by omega) (by omega)
        rw [Int.add_mul, Int.one_mul] at h3
        omega
  | @win L R k s a z x w ask hu ih =>
    have ex : x = a := ask.plain
    subst ex
    have B := w.base hr hq
    have hR : Reach r q losses u x := by
      have := ih.a_eq
      rw [this]
      have h2 := hu
      rw [this] at h2
      exact .step ih.reach B.k0 (fun l e => B.kl l e (hl0 l e)) h2
    have hL : ∀ (lost : List Int), (∀ y, y < x + r → (y ∈ lost ↔ y ∈ L)) → (∀ y, y < x → (y ∈ lost ↔ y ∈ L)) ∧ x ∉ lost := fun lost h => by
      refine ⟨fun y hy => h y (by omega), fun z => ?_⟩
      have := B.Lz x ((h x (by omega)).mp z)
      have := B.za
      omega
    refine ⟨by omega, fun lost m h => ?_, fun lost h => ?_, hR, fun p hp => ?_, fun m h0 hm => ?_⟩
    · obtain ⟨h1, h2⟩ := hL lost h
      have := ih.sim lost m h1
      by_cases c : m < x
      · refine ⟨fun _ => ?_, fun _ => by omega⟩
        rw [lastOf_snoc_gt _ _ _ _ c]; exact this.1 c
      · rw [this.2 (by omega), simN_win hr hq (by omega) h2]
        refine ⟨fun c2 => ?_, fun _ => rfl⟩
        rw [simN_end c2, lastOf_snoc_le _ _ _ _ (by omega)]
    · obtain ⟨h1, h2⟩ := hL lost h
      rw [ih.asks lost h1, asks_win hr hq hu h2]
      simp
    · rcases List.mem_append.mp hp with hp | hp
      · exact ih.reachR p hp
      · have := List.mem_singleton.mp hp; subst this; exact hR
    · by_cases c : m < x
      · rw [lastOf_snoc_gt _ _ _ _ c]; exact ih.next m h0 c
      · rw [lastOf_snoc_le _ _ _ _ (by omega)]
        refine ⟨hR, by omega, fun l e hl => ?_⟩
        have h3 : 0 ≤ l * q := Int.mul_nonneg hl (by omega)
        omega
/-- the walk is over: the next asking lies behind the end -/
structure WalkEnd (r q : Int) (losses : Option Int) (u : Int) (L : List Int) (R : List (Int × Int)) : Prop where
  Lasc : L.Pairwise (· < ·)
  L0 : ∀ x ∈ L, 0 < x
  asks : asks L r q u r = R.map (·.1)
  sim : ∀ m, m ≤ u → simN L r q m 0 r = lastOf R m
  reachR : ∀ p ∈ R, Reach r q losses u p.2
  next : ∀ m, 0 ≤ m → m ≤ u → Reach r q losses u (lastOf R m) ∧ lastOf R m ≤ m ∧ ∀ l, losses = some l → m < lastOf R m + r + l * q
  keep : ∀ m, 0 < m → lastOf R m = m ∨ lastOf R m = lastOf R (m - 1)
theorem Walk.keep (h : Walk nt r q losses u L R k s a z) (hr : 0 < r) (hq : 0 < q) : ∀ m, 0 < m → lastOf R m = m ∨ lastOf R m = lastOf R (m - 1) := by
  induction h with
  | nil => intro m _; exact .inr rfl
  | @lose L R k s a z x w ask hu hk ih =>
    have B := w.base hr hq
    have hx : z < x := by
      rcases ask.1 with e | e
      · have := B.za; omega
      · exact e.2
    intro m hm
    by_cases c : m < x
    · rw [lastOf_snoc_gt _ _ _ _ c, lastOf_snoc_gt _ _ _ _ (by omega)]
      exact ih m hm
    · right
      rw [lastOf_snoc_le _ _ _ _ (by omega)]
      by_cases c2 : m - 1 < x
      · rw [lastOf_snoc_gt _ _ _ _ c2, B.last (m - 1) (by omega)]
      · rw [lastOf_snoc_le _ _ _ _ (by omega)]
  | @win L R k s a z x w ask hu ih =>
    intro m hm
    by_cases c : m < x
    · rw [lastOf_snoc_gt _ _ _ _ c, lastOf_snoc_gt _ _ _ _ (by omega)]
      exact ih m hm
    · rw [lastOf_snoc_le _ _ _ _ (by omega)]
      by_cases c2 : m - 1 < x
      · left; omega
      · right; rw [lastOf_snoc_le _ _ _ _ (by omega)]
theorem Walk.fin (h : Walk [] r q losses u L R k s a z) (hr : 0 < r) (hq : 0 < q) (hl0 : ∀ l, losses = some l → 0 ≤ l) (ha : u < a) : WalkEnd r q losses u L R := by
  have B := h.base hr hq
  have S := h.sim hr hq hl0
  refine ⟨B.Lasc, fun x hx => (B.Lz x hx).1, ?_, fun m hm => (S.sim L m fun x _ => Iff.rfl).1 (by omega), S.reachR, fun m h0 hm => ?_, h.keep hr hq⟩
  · rw [S.asks L fun x _ => Iff.rfl, asks_end ha, List.append_nil]
  · obtain ⟨a1, a2, a3⟩ := S.next m h0 (by omega)
    exact ⟨a1, a2, fun l e => a3 l e (hl0 l e)⟩

theorem WalkEnd.le (W : WalkEnd r q losses u L R) {e m : Int} (h0 : 0 ≤ m) (hm : m ≤ u) (hme : m < lastOf R m + e) : lastOf R m ≤ m ∧ m ≤ endOf r q e losses u (lastOf R m) := by
  obtain ⟨_, h2, h3⟩ := W.next m h0 hm
  refine ⟨h2, ?_⟩
  cases losses with
  | none => simp only [endOf]; omega
  | some l => have := h3 l rfl; simp only [endOf]; omega
/-- with notices: behind a change the next asking is near -/
structure WalkNote (nt : List Int) (r q : Int) (losses : Option Int) (u : Int) (R : List (Int × Int)) (k s a z : Int) : Prop where
  note : ∀ n ∈ nt, s < n → n ≤ z → a ≤ n + k * q
  past : ∀ m, 0 ≤ m → m < z → lastOf R m ≤ m ∧ 0 ≤ lastOf R m ∧ ∀ l, losses = some l → ∀ n ∈ nt, lastOf R m < n → n ≤ m → m < n + l * q
theorem Walk.note (h : Walk nt r q losses u L R k s a z) (hr : 0 < r) (hq : 0 < q) (hl0 : ∀ l, losses = some l → 0 ≤ l) : WalkNote nt r q losses u R k s a z := by
  induction h with
  | nil => exact ⟨fun n _ h1 h2 => by omega, fun m h0 h1 => by omega⟩
  | @lose L R k s a z x w ask hu hk ih =>
    have B := w.base hr hq
    have hx : z < x := by
      rcases ask.1 with e | e
      · have := B.za; omega
      · exact e.2
    have hkq : 0 ≤ k * q := Int.mul_nonneg B.k0 (by omega)
    have ek : (k + 1) * q = k * q + q := by rw [Int.add_mul, Int.one_mul]
    refine ⟨fun n hn h1 h2 => ?_, fun m h0 h1 => ?_⟩
    · rw [ek]
      by_cases c : n ≤ z
      · have := ih.note n hn h1 c
        have := ask.2.1
        omega
      · have := ask.2.2 n hn (by omega)
        omega
    · rw [lastOf_snoc_gt _ _ _ _ h1]
      by_cases c : m < z
      · exact ih.past m h0 c
      · rw [B.last m (by omega)]
        refine ⟨by have := B.sz; omega, B.s0, fun l e n hn h2 h3 => ?_⟩
        have h4 : n ≤ z := by
          by_cases c2 : n ≤ z
          · exact c2
          · have := ask.2.2 n hn (by omega); omega
        have h5 := ih.note n hn h2 h4
        have h6 := ask.2.1
        have h7 := hk l e
        have : k * q ≤ l * q := Int.mul_le_mul_of_nonneg_right (by omega) (by omega)
        omega
  | @win L R k s a z x w ask hu ih =>
    have B := w.base hr hq
    have hx : z < x := by
      rcases ask.1 with e | e
      · have := B.za; omega
      · exact e.2
    refine ⟨fun n hn h1 h2 => by omega, fun m h0 h1 => ?_⟩
    rw [lastOf_snoc_gt _ _ _ _ h1]
    by_cases c : m < z
    · exact ih.past m h0 c
    · rw [B.last m (by omega)]
      refine ⟨by have := B.sz; omega, B.s0, fun l e n hn h2 h3 => ?_⟩
      have h4 : n ≤ z := by
        by_cases c2 : n ≤ z
        · exact c2
        · have := ask.2.2 n hn (by omega); omega
      have h5 := ih.note n hn h2 h4
      have h6 := ask.2.1
      have h7 := B.kl l e (hl0 l e)
      have : k * q ≤ l * q := Int.mul_le_mul_of_nonneg_right h7 (by omega)
      omega
structure NoteEnd (nt : List Int) (r q : Int) (losses : Option Int) (u : Int) (R : List (Int × Int)) : Prop where
  all : ∀ m, 0 ≤ m → m ≤ u → lastOf R m ≤ m ∧ 0 ≤ lastOf R m ∧ ∀ l, losses = some l → ∀ n ∈ nt, lastOf R m < n → n ≤ m → m < n + l * q
theorem Walk.noteFin {x : Int} (h : Walk nt r q losses u L R k s a z) (hr : 0 < r) (hq : 0 < q) (hl0 : ∀ l, losses = some l → 0 ≤ l) (ask : IsAsk nt z a x) (hx : u < x) : NoteEnd nt r q losses u R := by
  have B := h.base hr hq
  have N := h.note hr hq hl0
  refine ⟨fun m h0 h1 => ?_⟩
  by_cases c : m < z
  · exact N.past m h0 c
  · rw [B.last m (by omega)]
    refine ⟨by have := B.sz; omega, B.s0, fun l e n hn h2 h3 => ?_⟩
    have h4 : n ≤ z := by
      by_cases c2 : n ≤ z
      · exact c2
      · have := ask.2.2 n hn (by omega); omega
    have h5 := N.note n hn h2 h4
    have h6 := ask.2.1
    have h7 := B.kl l e (hl0 l e)
    have : k * q ≤ l * q := Int.mul_le_mul_of_nonneg_right h7 (by omega)
    omega
def nlag (q e : Int) : Option Int → Int
  | none => e - 1
  | some l => min (l * q) (e - 1)
/-- no lag with notices is greater -/
theorem NoteEnd.lag {rows : List (Int × α)} (ok : HOk rows) {e m L : Int} {p : Int × α} (N : NoteEnd ((rows.drop 1).map (·.1)) r q losses u R) (h0 : 0 ≤ m) (h1 : m ≤ u) (hq : 0 < q) (hl0 : ∀ l, losses = some l → 0 ≤ l) (hp : InF rows (lastOf R m) p)
    (hm : m < lastOf R m + e) (hL : IsLag rows m p.2 L) : L ≤ nlag q e losses := by
  obtain ⟨n1, n2, n3⟩ := N.all m h0 h1
  have h2 := hL.le (.of hp) n1
  cases losses with
  | none => simp only [nlag]; omega
  | some l =>
    have hlq : 0 ≤ l * q := Int.mul_nonneg (hl0 l rfl) (by omega)
    simp only [nlag]
    -- the first change behind the success
    have first : ∀ (l : List (Int × α)), (∀ x ∈ l, ¬ (lastOf R m < x.1 ∧ x.1 ≤ m)) ∨ ∃ x ∈ l, (lastOf R m < x.1 ∧ x.1 ≤ m) ∧ ∀ y ∈ l, lastOf R m < y.1 → x.1 ≤ y.1 := by
      intro l
      induction l with
      | nil => left; intro x hx; cases hx
      | cons z l ih =>
        rcases ih with ih | ⟨x, hx, h, hm⟩
        · by_cases hz : lastOf R m < z.1 ∧ z.1 ≤ m
          · right
            refine ⟨z, List.mem_cons_self, hz, fun y hy hl => ?_⟩
            rcases List.mem_cons.mp hy with rfl | hy
            · omega
            · have := ih y hy; omega
          · left; intro x hx
            rcases List.mem_cons.mp hx with rfl | hx
            · exact hz
            · exact ih x hx
        · right
          by_cases hz : lastOf R m < z.1 ∧ z.1 < x.1
          · refine ⟨z, List.mem_cons_self, by omega, fun y hy hl => ?_⟩
            rcases List.mem_cons.mp hy with rfl | hy
            · omega
            · have := hm y hy hl; omega
          · refine ⟨x, List.mem_cons_of_mem _ hx, h, fun y hy hl => ?_⟩
            rcases List.mem_cons.mp hy with rfl | hy
            · omega
            · exact hm y hy hl
    rcases first rows with no | ⟨x, hx, ⟨g1, g2⟩, hm2⟩
    · have : Val rows m p.2 := .of (hp.stay n1 no)
      have := hL.le this (Int.le_refl _)
      omega
    · have hv : Val rows (x.1 - 1) p.2 := .of (hp.stay (by omega) fun y hy z => by have := hm2 y hy z.1; omega)
      have h4 := hL.le hv (by omega)
      have hn : x.1 ∈ (rows.drop 1).map (·.1) := by
        obtain ⟨i, hi⟩ := List.getElem?_of_mem hx
        obtain ⟨v, hz⟩ := ok.z
        have hi0 : i ≠ 0 := by
          intro e
          subst e
          rw [hz] at hi
          cases hi
          have g3 : lastOf R m < 0 := g1
          omega
        refine List.mem_map.mpr ⟨x, List.mem_of_getElem? (i := i - 1) ?_, rfl⟩
        rw [List.getElem?_drop]
        have : 1 + (i - 1) = i := by omega
        rw [this]; exact hi
      have := n3 l rfl _ hn g1 g2
      omega
end
end K96M

/-! K96B: places of the text, what the top gives, small words for readings. -/
namespace K96
open PySem PySem.Spec PyProof.Rows L2
def top (i : Nat) : Stmt := PySem.Challenge.pw_rootward_k96_whole_lags_of_all_histories.main.body.getD i (.Pass ⟨0, 0, 0, 0⟩)
abbrev s_anew : Stmt := top 10
theorem sc_anew : FnScope ["value", "part"] ["value"] (defScope s_anew) := ⟨rfl, rfl, rfl, by decide +kernel, rfl, by decide +kernel, by decide +kernel⟩
abbrev s_is_integer : Stmt := top 11
theorem sc_is_integer : FnScope ["value"] ["value"] (defScope s_is_integer) := ⟨rfl, rfl, rfl, by decide +kernel, rfl, by decide +kernel, by decide +kernel⟩
abbrev s_is_count : Stmt := top 12
theorem sc_is_count : FnScope ["value"] ["value"] (defScope s_is_count) := ⟨rfl, rfl, rfl, by decide +kernel, rfl, by decide +kernel, by decide +kernel⟩
abbrev s_is_node : Stmt := top 13
theorem sc_is_node : FnScope ["value", "sign"] ["value"] (defScope s_is_node) := ⟨rfl, rfl, rfl, by decide +kernel, rfl, by decide +kernel, by decide +kernel⟩
abbrev s_is_schedule : Stmt := top 14
theorem sc_is_schedule : FnScope ["value", "moment", "at"] ["value"] (defScope s_is_schedule) := ⟨rfl, rfl, rfl, by decide +kernel, rfl, by decide +kernel, by decide +kernel⟩
abbrev s_is_timers : Stmt := top 15
theorem sc_is_timers : FnScope ["value", "part"] ["value"] (defScope s_is_timers) := ⟨rfl, rfl, rfl, by decide +kernel, rfl, by decide +kernel, by decide +kernel⟩
abbrev s_need_moment : Stmt := top 16
theorem sc_need_moment : FnScope ["value"] ["value"] (defScope s_need_moment) := ⟨rfl, rfl, rfl, by decide +kernel, rfl, by decide +kernel, by decide +kernel⟩
abbrev s_need_losses : Stmt := top 17
theorem sc_need_losses : FnScope ["value"] ["value"] (defScope s_need_losses) := ⟨rfl, rfl, rfl, by decide +kernel, rfl, by decide +kernel, by decide +kernel⟩
abbrev s_need_schedule : Stmt := top 18
theorem sc_need_schedule : FnScope ["moments"] ["moments"] (defScope s_need_schedule) := ⟨rfl, rfl, rfl, by decide +kernel, rfl, by decide +kernel, by decide +kernel⟩
abbrev s_need_timers : Stmt := top 19
theorem sc_need_timers : FnScope ["timers"] ["timers"] (defScope s_need_timers) := ⟨rfl, rfl, rfl, by decide +kernel, rfl, by decide +kernel, by decide +kernel⟩
abbrev s_is_version : Stmt := top 21
theorem sc_is_version : FnScope ["value"] ["value"] (defScope s_is_version) := ⟨rfl, rfl, rfl, by decide +kernel, rfl, by decide +kernel, by decide +kernel⟩
abbrev s_is_history : Stmt := top 22
theorem sc_is_history : FnScope ["value", "version", "at"] ["value"] (defScope s_is_history) := ⟨rfl, rfl, rfl, by decide +kernel, rfl, by decide +kernel, by decide +kernel⟩
abbrev s_need_history : Stmt := top 23
theorem sc_need_history : FnScope ["history"] ["history"] (defScope s_need_history) := ⟨rfl, rfl, rfl, by decide +kernel, rfl, by decide +kernel, by decide +kernel⟩
abbrev s_version_at : Stmt := top 24
theorem sc_version_at : FnScope ["history", "moment", "found", "version"] ["history", "moment"] (defScope s_version_at) := ⟨rfl, rfl, rfl, by decide +kernel, rfl, by decide +kernel, by decide +kernel⟩
abbrev s_lag_at : Stmt := top 25
theorem sc_lag_at : FnScope ["history", "moment", "value", "found", "at", "last"] ["history", "moment", "value"] (defScope s_lag_at) := ⟨rfl, rfl, rfl, by decide +kernel, rfl, by decide +kernel, by decide +kernel⟩
abbrev s_last_in_row : Stmt := top 26
theorem sc_last_in_row : FnScope ["history", "lost", "success", "moment", "refresh", "events", "version", "end", "event"] ["history", "lost", "success", "moment"] (defScope s_last_in_row) := ⟨rfl, rfl, rfl, by decide +kernel, rfl, by decide +kernel, by decide +kernel⟩
abbrev s_last_success : Stmt := top 27
theorem sc_last_success : FnScope ["history", "lost", "moment", "success", "asked"] ["history", "lost", "moment"] (defScope s_last_success) := ⟨rfl, rfl, rfl, by decide +kernel, rfl, by decide +kernel, by decide +kernel⟩
abbrev s_told_second : Stmt := top 28
theorem sc_told_second : FnScope ["history", "lost", "moment", "success", "version"] ["history", "lost", "moment"] (defScope s_told_second) := ⟨rfl, rfl, rfl, by decide +kernel, rfl, by decide +kernel, by decide +kernel⟩
abbrev s_askings : Stmt := top 29
theorem sc_askings : FnScope ["history", "lost", "until", "found", "timers", "asked"] ["history", "lost", "until"] (defScope s_askings) := ⟨rfl, rfl, rfl, by decide +kernel, rfl, by decide +kernel, by decide +kernel⟩
abbrev s_longest_lag : Stmt := top 30
theorem sc_longest_lag : FnScope ["timers", "losses", "refresh", "retry", "expire"] ["timers", "losses"] (defScope s_longest_lag) := ⟨rfl, rfl, rfl, by decide +kernel, rfl, by decide +kernel, by decide +kernel⟩
abbrev s_longest_silence : Stmt := top 31
theorem sc_longest_silence : FnScope ["timers", "losses", "refresh", "retry", "expire"] ["timers", "losses"] (defScope s_longest_silence) := ⟨rfl, rfl, rfl, by decide +kernel, rfl, by decide +kernel, by decide +kernel⟩
abbrev s_longest_lag_noticed : Stmt := top 32
theorem sc_longest_lag_noticed : FnScope ["timers", "losses", "expire"] ["timers", "losses"] (defScope s_longest_lag_noticed) := ⟨rfl, rfl, rfl, by decide +kernel, rfl, by decide +kernel, by decide +kernel⟩
abbrev s_next_successes : Stmt := top 33
theorem sc_next_successes : FnScope ["timers", "success", "losses", "until", "begin", "most", "turn"] ["timers", "success", "losses", "until"] (defScope s_next_successes) := ⟨rfl, rfl, rfl, by decide +kernel, rfl, by decide +kernel, by decide +kernel⟩
abbrev s_success_roads : Stmt := top 34
theorem sc_success_roads : FnScope ["history", "losses", "until", "roads", "waiting", "success", "timers", "moment"] ["history", "losses", "until"] (defScope s_success_roads) := ⟨rfl, rfl, rfl, by decide +kernel, rfl, by decide +kernel, by decide +kernel⟩
abbrev s_success_moments : Stmt := top 35
theorem sc_success_moments : FnScope ["history", "losses", "until"] ["history", "losses", "until"] (defScope s_success_moments) := ⟨rfl, rfl, rfl, by decide +kernel, rfl, by decide +kernel, by decide +kernel⟩
abbrev s_last_told : Stmt := top 36
theorem sc_last_told : FnScope ["timers", "success", "losses", "until", "end"] ["timers", "success", "losses", "until"] (defScope s_last_told) := ⟨rfl, rfl, rfl, by decide +kernel, rfl, by decide +kernel, by decide +kernel⟩
abbrev s_greatest_lag : Stmt := top 37
theorem sc_greatest_lag : FnScope ["history", "losses", "until", "best", "success", "version", "end", "ends", "entry", "moment", "lag"] ["history", "losses", "until"] (defScope s_greatest_lag) := ⟨rfl, rfl, rfl, by decide +kernel, rfl, by decide +kernel, by decide +kernel⟩
abbrev s_longest_lag_in : Stmt := top 38
theorem sc_longest_lag_in : FnScope ["history", "losses", "until"] ["history", "losses", "until"] (defScope s_longest_lag_in) := ⟨rfl, rfl, rfl, by decide +kernel, rfl, by decide +kernel, by decide +kernel⟩
abbrev s_lost_between : Stmt := top 39
theorem sc_lost_between : FnScope ["timers", "success", "end", "begin", "turn"] ["timers", "success", "end"] (defScope s_lost_between) := ⟨rfl, rfl, rfl, by decide +kernel, rfl, by decide +kernel, by decide +kernel⟩
abbrev s_lag_plan : Stmt := top 40
theorem sc_lag_plan : FnScope ["history", "losses", "until", "lag", "success", "moment", "roads", "lost", "earlier"] ["history", "losses", "until"] (defScope s_lag_plan) := ⟨rfl, rfl, rfl, by decide +kernel, rfl, by decide +kernel, by decide +kernel⟩
abbrev s_law_draws : Stmt := top 42
theorem sc_law_draws : FnScope ["_law_script", "_law_k", "_law_cell", "_law_rest"] ["_law_script", "_law_k"] (defScope s_law_draws) := ⟨rfl, rfl, rfl, by decide +kernel, rfl, by decide +kernel, by decide +kernel⟩
abbrev s_law_draw : Stmt := top 43
theorem sc_law_draw : FnScope ["_law_draws_here", "_law_many", "_law_found", "_law_mark"] ["_law_draws_here", "_law_many"] (defScope s_law_draw) := ⟨rfl, rfl, rfl, by decide +kernel, rfl, by decide +kernel, by decide +kernel⟩
abbrev s_law_pick : Stmt := top 44
theorem sc_law_pick : FnScope ["_law_draws_here", "_law_things"] ["_law_draws_here", "_law_things"] (defScope s_law_pick) := ⟨rfl, rfl, rfl, by decide +kernel, rfl, by decide +kernel, by decide +kernel⟩
abbrev s_law_history : Stmt := top 45
theorem sc_law_history : FnScope ["_law_draws_here", "_law_timers", "_law_rows", "_law_moment", "_law_turn"] ["_law_draws_here", "_law_timers"] (defScope s_law_history) := ⟨rfl, rfl, rfl, by decide +kernel, rfl, by decide +kernel, by decide +kernel⟩
abbrev s_law_force : Stmt := top 46
theorem sc_law_force : FnScope ["_law_history_here", "_law_moment", "_law_row"] ["_law_history_here", "_law_moment"] (defScope s_law_force) := ⟨rfl, rfl, rfl, by decide +kernel, rfl, by decide +kernel, by decide +kernel⟩
abbrev s_law_lag : Stmt := top 47
theorem sc_law_lag : FnScope ["_law_history_here", "_law_moment", "_law_value", "_law_back"] ["_law_history_here", "_law_moment", "_law_value"] (defScope s_law_lag) := ⟨rfl, rfl, rfl, by decide +kernel, rfl, by decide +kernel, by decide +kernel⟩
abbrev s_law_walk : Stmt := top 48
theorem sc_law_walk : FnScope ["_law_draws_here", "_law_history_here", "_law_losses", "_law_until", "_law_noticed", "_law_refresh", "_law_retry", "_law_expire", "_law_lost", "_law_rows", "_law_row", "_law_success", "_law_asked", "_law_notices", "_law_part", "_law_often", "_law_turn", "_law_one"] ["_law_draws_here", "_law_history_here", "_law_losses", "_law_until", "_law_noticed"] (defScope s_law_walk) := ⟨rfl, rfl, rfl, by decide +kernel, rfl, by decide +kernel, by decide +kernel⟩
abbrev s_law_copy : Stmt := top 49
theorem sc_law_copy : FnScope ["_law_history_here", "_law_rows", "_law_moment", "_law_last", "_law_asked", "_law_success"] ["_law_history_here", "_law_rows", "_law_moment"] (defScope s_law_copy) := ⟨rfl, rfl, rfl, by decide +kernel, rfl, by decide +kernel, by decide +kernel⟩
abbrev s_law_tellings_right : Stmt := top 50
theorem sc_law_tellings_right : FnScope ["_law_history_here", "_law_rows", "_law_lost", "_law_until", "_law_most", "_law_silence", "_law_empty", "_law_moment", "_law_told", "_law_last", "_law_copy_here"] ["_law_history_here", "_law_rows", "_law_lost", "_law_until", "_law_most", "_law_silence"] (defScope s_law_tellings_right) := ⟨rfl, rfl, rfl, by decide +kernel, rfl, by decide +kernel, by decide +kernel⟩
abbrev s_law_reached : Stmt := top 51
theorem sc_law_reached : FnScope ["_law_timers", "_law_losses", "_law_refresh", "_law_retry", "_law_expire", "_law_many", "_law_begin", "_law_history_here", "_law_lost", "_law_k", "_law_best", "_law_end", "_law_told", "_law_moment"] ["_law_timers", "_law_losses"] (defScope s_law_reached) := ⟨rfl, rfl, rfl, by decide +kernel, rfl, by decide +kernel, by decide +kernel⟩
abbrev s_law_noticed_right : Stmt := top 52
theorem sc_law_noticed_right : FnScope ["_law_draws_here", "_law_history_here", "_law_timers", "_law_losses", "_law_refresh", "_law_retry", "_law_expire", "_law_best", "_law_until", "_law_lost", "_law_rows", "_law_moment", "_law_last", "_law_copy_here", "_law_many", "_law_worst", "_law_end"] ["_law_draws_here", "_law_history_here", "_law_timers", "_law_losses"] (defScope s_law_noticed_right) := ⟨rfl, rfl, rfl, by decide +kernel, rfl, by decide +kernel, by decide +kernel⟩
abbrev s_law_more_right : Stmt := top 53
theorem sc_law_more_right : FnScope ["_law_history_here", "_law_losses", "_law_until", "_law_lag_here", "_law_more"] ["_law_history_here", "_law_losses", "_law_until", "_law_lag_here"] (defScope s_law_more_right) := ⟨rfl, rfl, rfl, by decide +kernel, rfl, by decide +kernel, by decide +kernel⟩
abbrev s_law_plan_right : Stmt := top 54
theorem sc_law_plan_right : FnScope ["_law_history_here", "_law_losses", "_law_until", "_law_lag_here", "_law_lost", "_law_moment", "_law_told"] ["_law_history_here", "_law_losses", "_law_until", "_law_lag_here"] (defScope s_law_plan_right) := ⟨rfl, rfl, rfl, by decide +kernel, rfl, by decide +kernel, by decide +kernel⟩
abbrev s_law : Stmt := top 55
theorem sc_law : FnScope ["_law_script", "_law_k", "_law_draws_here", "_law_timers", "_law_losses", "_law_until", "_law_history_here", "_law_lost", "_law_rows", "_law_lag_here", "_law_most", "_law_asked", "_law_success", "_law_moments"] ["_law_script"] (defScope s_law) := ⟨rfl, rfl, rfl, by decide +kernel, rfl, by decide +kernel, by decide +kernel⟩
/-! ### what the top gives -/
structure Txt (K : PySem.W.Frag) (mg : Str → Option Value) : Prop where
  len : mg "len" = none
  range : mg "range" = none
  all : mg "all" = none
  isinstance : mg "isinstance" = none
  min : mg "min" = none
  max : mg "max" = none
  sorted : mg "sorted" = none
  int : mg "int" = none
  bool : mg "bool" = none
  str : mg "str" = none
  list : mg "list" = none
  tuple : mg "tuple" = none
  heappop : mg "heappop" = some (.builtin "_heapq.heappop")
  heappush : mg "heappush" = some (.builtin "_heapq.heappush")
  LETTERS : ∃ t, mg "LETTERS" = some (.str "abcdefghijklmnopqrstuvwxyz" t)
/-- a def that stands, with its promise -/
structure Has (P : Program) (w : World) (K : PySem.W.Frag) (mg : Str → Option Value) (base : Heap) (x : Str) (k : Nat) (ps : List Str) (sp : Sp) where
  f : Addr
  fd : FuncData
  G : FnOk P w K mg base CX0 k f fd ps sp
  m : mg x = some (.ref f)
  kp : PySem.W.keepIn K (.ref f) = true
  b : Binds K fd ps []
/-! ### heaps -/
theorem same_upd {H : Hp} {p : Addr} {o : HO} (h : H p = none) : Same H (upd H p o) := fun b x e => by
  rw [upd_ne (ne_of_none e h)]
  exact e
theorem same_upd2 {H H' : Hp} {p : Addr} {o : HO} (h : H p = none) (s : Same H H') : Same H (upd H' p o) := fun b x e => by
  rw [upd_ne (ne_of_none e h)]
  exact s _ _ e
theorem Same.tup {K : PySem.W.Frag} {H H' : Hp} {a : Addr} {xs : List V} (e : Same H H') (h : SqT K H a xs) : SqT K H' a xs := by
  rcases h with (h | ⟨o, h⟩) | h
  · exact .inl (.inl (e _ _ h))
  · exact .inl (.inr ⟨o, e _ _ h⟩)
  · exact .inr h
/-! ### readings in short -/
theorem ifD {c A B : Prop} [Decidable c] (h1 : c → A) (h2 : ¬ c → B) : if decide c = true then A else B := by
  by_cases h : c
  · rw [if_pos (decide_eq_true h)]; exact h1 h
  · rw [if_neg (by rw [decide_eq_false h]; exact Bool.false_ne_true)]; exact h2 h
theorem ifN {c A B : Prop} [Decidable c] (h1 : ¬ c → A) (h2 : c → B) : if (!decide c) = true then A else B := by
  by_cases h : c
  · rw [decide_eq_true h]; exact iteF (h2 h)
  · rw [decide_eq_false h]; exact iteT (h1 h)
abbrev rAdd : R2 := rI0 fun i j => .int (i + j)
abbrev rSub : R2 := rI0 fun i j => .int (i - j)
abbrev rMul : R2 := rI CMul fun i j => .int (i * j)
abbrev rFdiv : R2 := rI CDiv fun i j => .int (i / j)
abbrev rMod : R2 := rI (fun _ j => 0 < j) fun i j => .int (i % j)
abbrev rLt : R2 := rI0 fun i j => .bl (decide (i < j))
abbrev rLe : R2 := rI0 fun i j => .bl (decide (i ≤ j))
abbrev rGt : R2 := rI0 fun i j => .bl (decide (j < i))
abbrev rGe : R2 := rI0 fun i j => .bl (decide (j ≤ i))
def letters : Str := "abcdefghijklmnopqrstuvwxyz"
abbrev op_in_signR : R2 := fun x y H Q => ∃ (c : Nat) (z : Str), x = .str ⟨#[c]⟩ ∧ y = .str z ∧ Q (.bl (decide (c ∈ z.cps.toList))) H
/-- a comprehension over the signs of a text -/
theorem lc_signs {x : Str} {g : TG} {tt : TT} {te : TE} {vs : List Nat} {σ : L2.St} {H1 : Hp} {D : Addr} {Qd : Hp → Prop} (Pv : Nat → Hp → Prop) (h0 : Pv 0 (upd H1 D (.lst [])))
    (hs : ∀ i c H, x.cps.toList[i]? = some c → Pv i H → g (.str ⟨#[c]⟩) (wipe σ vs) H fun σ2 H2 => wipe σ2 vs = wipe σ vs ∧ tt σ2 H2 fun b H3 =>
      if b = true then te σ2 H3 fun y H4 => ∃ acc, H4 D = some (.lst acc) ∧ acc.length < sizeLine ∧ Pv (i + 1) (upd H4 D (.lst (acc ++ [y]))) else Pv (i + 1) H3) (hd : ∀ H, Pv x.cps.toList.length H → Qd H) :
    ∃ W : Nat → Nat → Hp → Prop, (∃ m, W 0 m (upd H1 D (.lst []))) ∧ ∀ i m H, W i m H →
      ((Its x).stop i H ∧ Qd H) ∨ ((Its x).go i H ∧ ∃ Nx : Hp → Prop, (∀ H', Nx H' → ∃ m', m' < m ∧ W (i + 1) m' H') ∧ ∀ y H', (Its x).yld i H y H' → g y (wipe σ vs) H' fun σ2 H2 => wipe σ2 vs = wipe σ vs ∧ tt σ2 H2 fun b H3 =>
        if b = true then te σ2 H3 fun y H4 => ∃ acc, H4 D = some (.lst acc) ∧ acc.length < sizeLine ∧ Nx (upd H4 D (.lst (acc ++ [y]))) else Nx H3) := by
  have ez : x.cps.toList.length = x.cps.size := Array.length_toList
  refine ⟨fun i m H => i + m = x.cps.size ∧ Pv i H, ⟨x.cps.size, Nat.zero_add _, h0⟩, fun i m H hW => ?_⟩
  obtain ⟨hi, p⟩ := hW
  by_cases hlt : i < x.cps.size
  · right
    refine ⟨hlt, Pv (i + 1), fun H' p' => ⟨m - 1, by omega, by omega, p'⟩, fun y H' hy => ?_⟩
    obtain ⟨e1, c, e2, e3⟩ := hy
    rw [e1, e3]
    exact hs i c H (by rw [Array.getElem?_toList]; exact e2) p
  · left
    have e : i = x.cps.toList.length := by omega
    rw [e] at p
    exact ⟨by show x.cps.size ≤ i; omega, hd H p⟩
/-! ### comprehensions: the list made so far is the filtered map of what was gone through -/
section
variable {β : Type}
structure LcP (H1 : Hp) (D : Addr) (l : List β) (t : β → Bool) (g : β → V) (i : Nat) (H : Hp) : Prop where
  sm : Same H1 H
  ac : H D = some (.lst (((l.take i).filter t).map g))
theorem lc_start {H1 : Hp} {D : Addr} {l : List β} {t : β → Bool} {g : β → V} (hD : H1 D = none) : LcP H1 D l t g 0 (upd H1 D (.lst [])) := ⟨same_upd hD, upd_same⟩
theorem take_snoc {l : List β} {i : Nat} {x : β} (h : l[i]? = some x) : l.take (i + 1) = l.take i ++ [x] := by
  rw [List.take_add_one, h]; rfl
theorem lc_keep {H1 H H4 : Hp} {D : Addr} {l : List β} {t : β → Bool} {g : β → V} {i : Nat} {x : β} {y : V} (hD : H1 D = none) (p : LcP H1 D l t g i H) (sm : Same H H4) (hx : l[i]? = some x) (ht : t x = true) (hy : y = g x) (hl : l.length ≤ 1000000) :
    ∃ acc, H4 D = some (.lst acc) ∧ acc.length < sizeLine ∧ LcP H1 D l t g (i + 1) (upd H4 D (.lst (acc ++ [y]))) := by
  refine ⟨_, sm _ _ p.ac, ?_, same_upd2 hD (p.sm.trans sm), ?_⟩
  · rw [List.length_map]
    have a1 : ((l.take i).filter t).length ≤ (l.take i).length := List.length_filter_le _ _
    have a2 : (l.take i).length ≤ l.length := by rw [List.length_take]; omega
    have a3 : sizeLine = 16777216 := sizeLine_eq
    omega
  · rw [upd_same, take_snoc hx, List.filter_append, List.map_append, hy]
    simp [List.filter, ht]
theorem lc_skip {H1 H H4 : Hp} {D : Addr} {l : List β} {t : β → Bool} {g : β → V} {i : Nat} {x : β} (p : LcP H1 D l t g i H) (sm : Same H H4) (hx : l[i]? = some x) (ht : t x = false) : LcP H1 D l t g (i + 1) H4 := by
  refine ⟨p.sm.trans sm, ?_⟩
  rw [sm _ _ p.ac, take_snoc hx, List.filter_append]
  simp [List.filter, ht]
theorem lc_end {H1 H : Hp} {D : Addr} {l : List β} {t : β → Bool} {g : β → V} (p : LcP H1 D l t g l.length H) : H D = some (.lst ((l.filter t).map g)) := by
  have := p.ac
  rwa [List.take_length] at this
end
theorem map_at {β : Type} {l : List β} {f : β → V} {i : Nat} {v : V} (h : (l.map f)[i]? = some v) : ∃ x, l[i]? = some x ∧ v = f x := by
  rw [List.getElem?_map] at h
  cases e : l[i]? with
  | none => rw [e] at h; cases h
  | some x => rw [e] at h; exact ⟨x, rfl, (Option.some.inj h).symm⟩
theorem at_map {β : Type} {l : List β} {f : β → V} {i : Nat} {x : β} (h : l[i]? = some x) : (l.map f)[i]? = some (f x) := by
  rw [List.getElem?_map, h]; rfl
theorem range_at {n i : Nat} (h : i < n) : (List.range n)[i]? = some i := by
  rw [List.getElem?_range h]
theorem rep_bl {β : Type} {l : List β} : (l.filter fun _ => true).map (fun _ => V.bl true) = (List.replicate l.length true).map V.bl := by
  induction l with
  | nil => rfl
  | cons x l ih =>
    simp only [List.filter, List.map, List.length_cons, List.replicate_succ] at ih ⊢
    rw [ih]
theorem rep_all {n : Nat} : (List.replicate n true).all id = true := by simp
theorem lc_all {β : Type} {H1 H : Hp} {D : Addr} {l : List β} (p : LcP H1 D l (fun _ => true) (fun _ => V.bl true) l.length H) : H D = some (.lst ((List.replicate l.length true).map V.bl)) := by
  rw [lc_end p, rep_bl]
theorem atN {xs : List V} {i : Nat} {z : Int} {v : V} (h : xs[i]? = some v) (e : z = (i : Int)) : atI xs z = some v := by
  rw [e]; exact atI_nat h
/-- short moves -/
theorem flat_ints (ns : List Int) : (ns.map V.int).all flatV = true := by
  rw [List.all_map]; simp [flatV]
theorem inV_ints (x : Int) (ns : List Int) : inV (.int x) (ns.map V.int) = decide (x ∈ ns) := by
  induction ns with
  | nil => rfl
  | cons n ns ih =>
    unfold inV at ih ⊢
    rw [List.map_cons, List.any_cons, ih]
    have e : eqV (.int n) (.int x) = decide (n = x) := by
      show (n == x) = decide (n = x)
      exact Bool.beq_eq_decide_eq ..
    rw [e]
    by_cases h : n = x
    · subst h; simp
    · have h2 : ¬ x = n := fun z => h z.symm
      simp [h, h2]
/-! ### the data of this law -/
structure Tms where
  r : Int
  q : Int
  e : Int
structure Tms.Ok (T : Tms) : Prop where
  r1 : 1 ≤ T.r
  r2 : T.r ≤ 30
  q1 : 2 ≤ T.q
  q2 : T.q ≤ 10
  e1 : 1 ≤ T.e
  e2 : T.e ≤ 60
abbrev TmAt (H : Hp) (t : Addr) (T : Tms) : Prop := H t = some (.tup [.int T.r, .int T.q, .int T.e])
abbrev Rows := List (Int × Str)
def RowV (H : Hp) (t : Addr) (p : Int × Str) (v : V) : Prop := ∃ b, v = .ref b ∧ H b = some (.tup [.int p.1, .ref t, .str p.2])
theorem RowV.same {H H' : Hp} {t : Addr} {p : Int × Str} {v : V} (s : Same H H') : RowV H t p v → RowV H' t p v := fun ⟨b, e, h⟩ => ⟨b, e, s _ _ h⟩
structure HisAt (H : Hp) (a t : Addr) (rows : Rows) : Prop where
  ls : ∃ xs, H a = some (.lst xs) ∧ xs.length = rows.length ∧ ∀ (i : Nat) p v, rows[i]? = some p → xs[i]? = some v → RowV H t p v
theorem HisAt.same {H H' : Hp} {a t : Addr} {rows : Rows} (s : Same H H') (h : HisAt H a t rows) : HisAt H' a t rows := by
  obtain ⟨xs, h1, h2, h3⟩ := h.ls
  exact ⟨xs, s _ _ h1, h2, fun i p v e e' => (h3 i p v e e').same s⟩
def four : List Str := ["a", "b", "old", "new"]
structure RowsOk (rows : Rows) : Prop where
  ok : K96M.HOk rows
  val : ∀ p ∈ rows, p.2 ∈ four
  few : rows.length ≤ 8
  lim : ∀ p ∈ rows, 0 ≤ p.1 ∧ p.1 ≤ 1000
/-- a history stands at a, with one tuple of timers at t -/
structure His (H : Hp) (a t : Addr) (z : Tms) (rows : Rows) : Prop where
  st : HisAt H a t rows
  tm : TmAt H t z
  ok : z.Ok
  ro : RowsOk rows
theorem His.same {H H' : Hp} {a t : Addr} {z : Tms} {rows : Rows} (s : Same H H') (h : His H a t z rows) : His H' a t z rows := ⟨h.st.same s, s _ _ h.tm, h.ok, h.ro⟩
theorem row_at {H : Hp} {t : Addr} {rows : Rows} {xs : List V} (hl : xs.length = rows.length) (h : ∀ (i : Nat) p v, rows[i]? = some p → xs[i]? = some v → RowV H t p v) {i : Nat} {v : V} (e : xs[i]? = some v) : ∃ p, rows[i]? = some p ∧ RowV H t p v := by
  have hi : i < xs.length := (List.getElem?_eq_some_iff.mp e).1
  have e2 : rows[i]? = some rows[i] := List.getElem?_eq_getElem (by omega)
  exact ⟨_, e2, h i _ v e2 e⟩
theorem row_of {H : Hp} {t : Addr} {rows : Rows} {xs : List V} (hl : xs.length = rows.length) (h : ∀ (i : Nat) p v, rows[i]? = some p → xs[i]? = some v → RowV H t p v) {i : Nat} {p : Int × Str} (e : rows[i]? = some p) : ∃ b, xs[i]? = some (.ref b) ∧ H b = some (.tup [.int p.1, .ref t, .str p.2]) := by
  have hi : i < rows.length := (List.getElem?_eq_some_iff.mp e).1
  have e2 : xs[i]? = some xs[i] := List.getElem?_eq_getElem (by omega)
  obtain ⟨b, e3, e4⟩ := h i p _ e e2
  exact ⟨b, by rw [e2, e3], e4⟩
def losV : Option Int → V
  | none => .non
  | some l => .int l
def LosOk (l : Option Int) : Prop := ∀ x, l = some x → 0 ≤ x ∧ x ≤ 100
end K96

namespace K96
open PySem PySem.Spec PyProof.Rows L2
/-! K96D1: checks. -/
section
variable {P : Program} {w : World} {K : PySem.W.Frag} {mg : Str → Option Value} {base : Heap}
def sp_is_integer (K : PySem.W.Frag) : Sp := fun vs H Q _ => ∃ i : Int, vs = [.int i] ∧ Q (.bl true) H
-- slots [(0, 'value')]
theorem ok_is_integer {f : Addr} {fd : FuncData} (F : Fun K "is_integer" "is_integer" s_is_integer f fd) (T : Txt K mg)  : FnOk P w K mg base CX0 1 f fd ["value"] (sp_is_integer K) := by
  refine F.ok sc_is_integer (fun vs H Q E h => ?_) (fun cdv A outer s H vs Q E hr h => ?_)
  · obtain ⟨i, rfl, q⟩ := h
    rfl
  · obtain ⟨i, rfl, q⟩ := h
    have hu := hu_of hr
    refine ⟨_, (pss_one (ps_ret (pe_and (pe_callB call_isi (by rfl) T.isinstance (by decide +kernel) (pa_cons (pv 0) (pa_cons (pe_bltn (v := .ty "int") (u := .type "int") (by rfl) T.int (by decide +kernel) rfl) pa_nil))) (pe_one (pe_not (pe_callB call_isi (by rfl) T.isinstance (by decide +kernel) (pa_cons (pv 0) (pa_cons (pe_bltn (v := .ty "bool") (u := .type "bool") (by rfl) T.bool (by decide +kernel) rfl) pa_nil)))))))), ?_⟩
    refine ⟨_, rfl, _, _, _, _, true, rfl, .ty _, .base (.int _), kit_ty (by decide +kernel), true, rfl, iteT ?_⟩
    exact ⟨_, rfl, _, _, _, _, false, rfl, .ty _, .base (.int _), kit_ty (by decide +kernel), false, rfl, q⟩
def sp_is_count (K : PySem.W.Frag) : Sp := fun vs H Q _ => ∃ i : Int, vs = [.int i] ∧ Q (.bl (decide (0 ≤ i))) H
-- slots [(0, 'value')]
theorem ok_is_count {f : Addr} {fd : FuncData} (F : Fun K "is_count" "is_count" s_is_count f fd) (T : Txt K mg) (h_is_integer : Has P w K mg base "is_integer" 1 ["value"] (sp_is_integer K)) : FnOk P w K mg base CX0 2 f fd ["value"] (sp_is_count K) := by
  refine F.ok sc_is_count (fun vs H Q E h => ?_) (fun cdv A outer s H vs Q E hr h => ?_)
  · obtain ⟨i, rfl, q⟩ := h
    rfl
  · obtain ⟨i, rfl, q⟩ := h
    have hu := hu_of hr
    refine ⟨_, (pss_one (ps_ret (pe_and (pe_call h_is_integer.G (hr.mono (by decide)) rfl h_is_integer.m h_is_integer.kp h_is_integer.b .nil pass0 (pa_cons (pv 0) pa_nil)) (pe_one (pe_cmpR op_ge (pv 0) pe_int (nomark _)))))), ?_⟩
    exact ⟨_, rfl, i, rfl, true, rfl, iteT ⟨_, rfl, _, _, rfl, rfl, q⟩⟩
def sp_need_moment (K : PySem.W.Frag) : Sp := fun vs H Q _ => ∃ i : Int, vs = [.int i] ∧ 0 ≤ i ∧ Q .non H
-- slots [(0, 'value')]
theorem ok_need_moment {f : Addr} {fd : FuncData} (F : Fun K "need_moment" "need_moment" s_need_moment f fd) (T : Txt K mg) (h_is_count : Has P w K mg base "is_count" 2 ["value"] (sp_is_count K)) : FnOk P w K mg base CX0 3 f fd ["value"] (sp_need_moment K) := by
  refine F.ok sc_need_moment (fun vs H Q E h => ?_) (fun cdv A outer s H vs Q E hr h => ?_)
  · obtain ⟨i, rfl, h0, q⟩ := h
    rfl
  · obtain ⟨i, rfl, h0, q⟩ := h
    have hu := hu_of hr
    refine ⟨_, (pss_one (ps_if (pt_not (pt_val (pe_call h_is_count.G (hr.mono (by decide)) rfl h_is_count.m h_is_count.kp h_is_count.b .nil pass0 (pa_cons (pv 0) pa_nil))))
  pss_never
  pss_nil)), ?_⟩
    refine ⟨_, rfl, i, rfl, _, rfl, ?_⟩
    rw [decide_eq_true h0]
    exact iteF q
def sp_need_losses (K : PySem.W.Frag) : Sp := fun vs H Q _ => ∃ l : Option Int, vs = [losV l] ∧ LosOk l ∧ Q .non H
-- slots [(0, 'value')]
theorem ok_need_losses {f : Addr} {fd : FuncData} (F : Fun K "need_losses" "need_losses" s_need_losses f fd) (T : Txt K mg) (h_is_count : Has P w K mg base "is_count" 2 ["value"] (sp_is_count K)) : FnOk P w K mg base CX0 3 f fd ["value"] (sp_need_losses K) := by
  refine F.ok sc_need_losses (fun vs H Q E h => ?_) (fun cdv A outer s H vs Q E hr h => ?_)
  · obtain ⟨l, rfl, h0, q⟩ := h
    rfl
  · obtain ⟨l, rfl, h0, q⟩ := h
    have hu := hu_of hr
    refine ⟨_, (pss_one (ps_if (PW.pt (pw_and (pt_cmp (pc_notN (pv 0))) (pw_and1 (pt_not (pt_val (pe_call h_is_count.G (hr.mono (by decide)) rfl h_is_count.m h_is_count.kp h_is_count.b .nil pass0 (pa_cons (pv 0) pa_nil)))))))
  pss_never
  pss_nil)), ?_⟩
    cases l with
    | none => exact ⟨_, rfl, _, rfl, iteF q⟩
    | some x =>
      refine ⟨_, rfl, _, rfl, iteT ⟨_, rfl, x, rfl, _, rfl, ?_⟩⟩
      rw [decide_eq_true (h0 x rfl).1]
      exact iteF q
def sp_is_schedule (K : PySem.W.Frag) : Sp := fun vs H Q _ => ∃ (a : Addr) (ns : List Int), vs = [.ref a] ∧ H a = some (.lst (ns.map V.int)) ∧ (∀ x ∈ ns, 0 ≤ x) ∧ ns.Pairwise (· ≤ ·) ∧ ns.length ≤ 1000 ∧ ∀ H', Same H H' → Q (.bl true) H'
-- slots [(0, 'value'), (1, 'moment'), (2, 'at')]
theorem ok_is_schedule {f : Addr} {fd : FuncData} (F : Fun K "is_schedule" "is_schedule" s_is_schedule f fd) (T : Txt K mg) (h_is_count : Has P w K mg base "is_count" 2 ["value"] (sp_is_count K)) : FnOk P w K mg base CX0 3 f fd ["value"] (sp_is_schedule K) := by
  refine F.ok sc_is_schedule (fun vs H Q E h => ?_) (fun cdv A outer s H vs Q E hr h => ?_)
  · obtain ⟨a, ns, rfl, hl, h0, ha, hn, q⟩ := h
    rfl
  · obtain ⟨a, ns, rfl, hl, h0, ha, hn, q⟩ := h
    have hu := hu_of hr
    refine ⟨_, (pss_cons (ps_if (PW.pt (pw_or (pt_not (pt_val (pe_callB call_isi (by rfl) T.isinstance (by decide +kernel) (pa_cons (pv 0) (pa_cons (pe_bltn (v := .ty "list") (u := .type "list") (by rfl) T.list (by decide +kernel) rfl) pa_nil))))) (pw_or1 (pt_not (pt_val (pe_callB (cr_all rfl) (by rfl) T.all (by decide +kernel) (pa_cons (pe_lc (own := [("moment", 1)]) (g := (gName 1)) (tt := tYes) (te := (tCall (sp_is_count K) [] E0 (tCons (tVar 1) tNil))) rfl sc_is_schedule.nd (pi_list (pv 0)) (blkOk_by (N := ["value", "moment", "at"]) (sc := defScope s_is_schedule) (by decide +kernel)) (fun _ _ _ _ _ => (pg_name (i := 1) sc_is_schedule.nd rfl (Or.inl rfl))) (fun _ _ _ _ _ => pts_nil) (fun _ _ _ _ _ => (pe_call h_is_count.G (hr.mono (by decide)) rfl h_is_count.m h_is_count.kp h_is_count.b .nil pass0 (pa_cons (pv 1) pa_nil)))) pa_nil)))))))
  (pss_one (ps_ret pe_bl))
  pss_nil)
 (pss_one (ps_ret (pe_callB (cr_all rfl) (by rfl) T.all (by decide +kernel) (pa_cons (pe_lc (own := [("at", 2)]) (g := (gName 2)) (tt := tYes) (te := (tOp rLe (tOp (rIx K) (tVar 0) (tVar 2)) (tOp (rIx K) (tVar 0) (tOp rAdd (tVar 2) (tC (.int 1)))))) rfl sc_is_schedule.nd (pi_range1 (by rfl) T.range (pa_cons (pe_op op_sub (pe_callB call_len_seq (by rfl) T.len (by decide +kernel) (pa_cons (pv 0) pa_nil)) pe_int) pa_nil)) (blkOk_by (N := ["value", "moment", "at"]) (sc := defScope s_is_schedule) (by decide +kernel)) (fun _ _ _ _ _ => (pg_name (i := 2) sc_is_schedule.nd rfl (Or.inl rfl))) (fun _ _ _ _ _ => pts_nil) (fun _ _ _ _ _ => (pe_cmpR op_le (pe_ix ix_seq (pv 0) (pv 2) (fun _ _ => rfl)) (pe_ix ix_seq (pv 0) (pe_op op_add (pv 2) pe_int) (fun _ _ => rfl)) (nomark _)))) pa_nil))))), ?_⟩
    refine ⟨_, rfl, _, _, _, _, true, rfl, .ty _, .base (.lst hl), kit_ty (by decide +kernel), true, rfl, iteF ?_⟩
    refine ⟨_, rfl, a, rfl, ⟨_, .of hl⟩, fun D hD => lc_list (K := K) (a := a) (xs := ns.map V.int) (LcP H D ns (fun _ => true) (fun _ => V.bl true)) (lc_start hD) (fun i H1 _ p => .of (p.sm _ _ hl)) (fun i x H1 hx p => ?_) (fun H1 p => ?_)⟩
    · obtain ⟨n, hn1, rfl⟩ := map_at hx
      refine ⟨rfl, _, rfl, n, rfl, lc_keep hD p (.refl _) hn1 rfl ?_ (by omega)⟩
      rw [decide_eq_true (h0 n (List.mem_of_getElem? hn1))]
    · rw [List.length_map] at p
      refine ⟨D, _, rfl, .of (lc_all p), ?_⟩
      rw [rep_all]
      refine ⟨true, rfl, iteF ?_⟩
      have s1 := p.sm
      have hl1 := s1 _ _ hl
      refine ⟨_, rfl, a, _, rfl, .inl (.of hl1), _, _, rfl, rfl, ?_⟩
      refine ⟨_, rfl, ?_, ?_, fun E hE => ?_⟩
      · rw [List.length_map]; omega
      · rw [List.length_map]; omega
      have en : (((ns.map V.int).length : Int) - 1).toNat = ns.length - 1 := by rw [List.length_map]; omega
      rw [en]
      refine lc_range (LcP H1 E (List.range (ns.length - 1)) (fun _ => true) (fun _ => V.bl true)) (lc_start hE) (fun i H2 hi p2 => ?_) (fun H2 p2 => ?_)
      · have hl2 := p2.sm _ _ hl1
        have g1 : i < ns.length := by omega
        have g2 : i + 1 < ns.length := by omega
        have e1 : atI (ns.map V.int) (0 + (i : Int)) = some (.int ns[i]) := atN (at_map (List.getElem?_eq_getElem g1)) (by omega)
        have e2 : atI (ns.map V.int) (0 + (i : Int) + 1) = some (.int ns[i + 1]) := atN (at_map (List.getElem?_eq_getElem g2)) (by omega)
        refine ⟨rfl, _, rfl, _, rfl, .inl ⟨_, _, _, _, rfl, rfl, .of hl2, e1, ?_⟩⟩
        refine ⟨_, rfl, _, rfl, _, _, rfl, rfl, .inl ⟨_, _, _, _, rfl, rfl, .of hl2, e2, ?_⟩⟩
        refine ⟨_, _, rfl, rfl, lc_keep hE p2 (.refl _) (range_at hi) rfl ?_ (by rw [List.length_range]; omega)⟩
        have := List.pairwise_iff_getElem.mp ha i (i + 1) g1 g2 (by omega)
        exact congrArg V.bl (decide_eq_true this)
      · have p3 := lc_all (l := List.range (ns.length - 1)) (by rw [List.length_range]; exact p2)
        refine ⟨E, _, rfl, .of p3, ?_⟩
        rw [rep_all]
        exact q H2 (s1.trans p2.sm)
def sp_is_timers (K : PySem.W.Frag) : Sp := fun vs H Q _ => ∃ (t : Addr) (z : Tms), vs = [.ref t] ∧ TmAt H t z ∧ z.Ok ∧ ∀ H', Same H H' → Q (.bl true) H'
theorem lc_tups {K : PySem.W.Frag} {H1 : Hp} {a : Addr} {xs : List V} (h : H1 a = some (.tup xs)) {H : Hp} (s : Same H1 H) : SqT K H a xs := .of (s _ _ h)
-- slots [(0, 'value'), (1, 'part')]
theorem ok_is_timers {f : Addr} {fd : FuncData} (F : Fun K "is_timers" "is_timers" s_is_timers f fd) (T : Txt K mg) (h_is_integer : Has P w K mg base "is_integer" 1 ["value"] (sp_is_integer K)) : FnOk P w K mg base CX0 2 f fd ["value"] (sp_is_timers K) := by
  refine F.ok sc_is_timers (fun vs H Q E h => ?_) (fun cdv A outer s H vs Q E hr h => ?_)
  · obtain ⟨t, z, rfl, ht, ok, q⟩ := h
    rfl
  · obtain ⟨t, z, rfl, ht, ok, q⟩ := h
    have hu := hu_of hr
    refine ⟨_, (pss_cons (ps_if (PW.pt (pw_or (pt_not (pt_val (pe_callB call_isi (by rfl) T.isinstance (by decide +kernel) (pa_cons (pv 0) (pa_cons (pe_bltn (v := .ty "tuple") (u := .type "tuple") (by rfl) T.tuple (by decide +kernel) rfl) pa_nil))))) (pw_or1 (pt_cmpR op_ne (pe_callB call_len_seq (by rfl) T.len (by decide +kernel) (pa_cons (pv 0) pa_nil)) pe_int (nomark _)))))
  (pss_one (ps_ret pe_bl))
  pss_nil)
 (pss_one (ps_ret (pe_callB (cr_all rfl) (by rfl) T.all (by decide +kernel) (pa_cons (pe_lc (own := [("part", 1)]) (g := (gName 1)) (tt := tYes) (te := (tAndV (tCall (sp_is_integer K) [] E0 (tCons (tVar 1) tNil)) (tOp rGe (tVar 1) (tC (.int 1))))) rfl sc_is_timers.nd (pi_tup (pv 0)) (blkOk_by (N := ["value", "part"]) (sc := defScope s_is_timers) (by decide +kernel)) (fun _ _ _ _ _ => (pg_name (i := 1) sc_is_timers.nd rfl (Or.inl rfl))) (fun _ _ _ _ _ => pts_nil) (fun _ _ _ _ _ => (pe_and (pe_call h_is_integer.G (hr.mono (by decide)) rfl h_is_integer.m h_is_integer.kp h_is_integer.b .nil pass0 (pa_cons (pv 1) pa_nil)) (pe_one (pe_cmpR op_ge (pv 1) pe_int (nomark _)))))) pa_nil))))), ?_⟩
    refine ⟨_, rfl, _, _, _, _, true, rfl, .ty _, .base (.tup ht), kit_ty (by decide +kernel), true, rfl, iteF ?_⟩
    refine ⟨_, rfl, t, _, rfl, .inr (.of ht), rfl, _, rfl, iteNS rfl ?_⟩
    refine ⟨_, rfl, t, rfl, ⟨_, .of ht⟩, fun D hD => lc_tup (K := K) (a := t) (xs := [.int z.r, .int z.q, .int z.e]) (LcP H D [z.r, z.q, z.e] (fun _ => true) (fun _ => V.bl true)) (lc_start hD) (fun i H1 _ p => lc_tups ht p.sm) (fun i x H1 hx p => ?_) (fun H1 p => ?_)⟩
    · obtain ⟨n, hn1, rfl⟩ := map_at (l := [z.r, z.q, z.e]) (f := V.int) hx
      refine ⟨rfl, _, rfl, n, rfl, true, rfl, iteT ⟨_, rfl, _, _, rfl, rfl, lc_keep hD p (.refl _) hn1 rfl ?_ (by show 3 ≤ 1000000; decide)⟩⟩
      have hm := List.mem_of_getElem? hn1
      have h1 : 1 ≤ n := by
        have := ok.r1; have := ok.q1; have := ok.e1
        rcases List.mem_cons.mp hm with rfl | hm
        · assumption
        · rcases List.mem_cons.mp hm with rfl | hm
          · omega
          · have := List.mem_singleton.mp hm
            subst this; assumption
      exact congrArg V.bl (decide_eq_true h1)
    · refine ⟨D, _, rfl, .of (lc_all (l := [z.r, z.q, z.e]) p), ?_⟩
      rw [rep_all]
      exact q H1 p.sm
def sp_need_timers (K : PySem.W.Frag) : Sp := fun vs H Q _ => ∃ (t : Addr) (z : Tms), vs = [.ref t] ∧ TmAt H t z ∧ z.Ok ∧ ∀ H', Same H H' → Q .non H'
-- slots [(0, 'timers')]
theorem ok_need_timers {f : Addr} {fd : FuncData} (F : Fun K "need_timers" "need_timers" s_need_timers f fd) (T : Txt K mg) (h_is_timers : Has P w K mg base "is_timers" 2 ["value"] (sp_is_timers K)) : FnOk P w K mg base CX0 3 f fd ["timers"] (sp_need_timers K) := by
  refine F.ok sc_need_timers (fun vs H Q E h => ?_) (fun cdv A outer s H vs Q E hr h => ?_)
  · obtain ⟨t, z, rfl, ht, ok, q⟩ := h
    rfl
  · obtain ⟨t, z, rfl, ht, ok, q⟩ := h
    have hu := hu_of hr
    refine ⟨_, (pss_one (ps_if (pt_not (pt_val (pe_call h_is_timers.G (hr.mono (by decide)) rfl h_is_timers.m h_is_timers.kp h_is_timers.b .nil pass0 (pa_cons (pv 0) pa_nil))))
  pss_never
  pss_nil)), ?_⟩
    exact ⟨_, rfl, t, z, rfl, ht, ok, fun H' s1 => ⟨_, rfl, iteF (q H' s1)⟩⟩
def sp_need_schedule (K : PySem.W.Frag) : Sp := fun vs H Q _ => ∃ (a : Addr) (ns : List Int), vs = [.ref a] ∧ H a = some (.lst (ns.map V.int)) ∧ (∀ x ∈ ns, 0 ≤ x) ∧ ns.Pairwise (· ≤ ·) ∧ ns.length ≤ 1000 ∧ ∀ H', Same H H' → Q .non H'
-- slots [(0, 'moments')]
theorem ok_need_schedule {f : Addr} {fd : FuncData} (F : Fun K "need_schedule" "need_schedule" s_need_schedule f fd) (T : Txt K mg) (h_is_schedule : Has P w K mg base "is_schedule" 3 ["value"] (sp_is_schedule K)) : FnOk P w K mg base CX0 4 f fd ["moments"] (sp_need_schedule K) := by
  refine F.ok sc_need_schedule (fun vs H Q E h => ?_) (fun cdv A outer s H vs Q E hr h => ?_)
  · obtain ⟨a, ns, rfl, hl, h0, ha, hn, q⟩ := h
    rfl
  · obtain ⟨a, ns, rfl, hl, h0, ha, hn, q⟩ := h
    have hu := hu_of hr
    refine ⟨_, (pss_one (ps_if (pt_not (pt_val (pe_call h_is_schedule.G (hr.mono (by decide)) rfl h_is_schedule.m h_is_schedule.kp h_is_schedule.b .nil pass0 (pa_cons (pv 0) pa_nil))))
  pss_never
  pss_nil)), ?_⟩
    exact ⟨_, rfl, a, ns, rfl, hl, h0, ha, hn, fun H' s1 => ⟨_, rfl, iteF (q H' s1)⟩⟩
def sp_is_node (K : PySem.W.Frag) : Sp := fun vs H Q _ => ∃ z : Str, vs = [.str z] ∧ z ∈ four ∧ ∀ H', Same H H' → Q (.bl true) H'
theorem four_ok : ∀ z ∈ four, 1 ≤ z.length ∧ z.length ≤ 8 ∧ ∀ c ∈ z.cps.toList, c ∈ letters.cps.toList := by decide +kernel
-- slots [(0, 'value'), (1, 'sign')]
theorem ok_is_node {f : Addr} {fd : FuncData} (F : Fun K "is_node" "is_node" s_is_node f fd) (T : Txt K mg)  : FnOk P w K mg base CX0 1 f fd ["value"] (sp_is_node K) := by
  refine F.ok sc_is_node (fun vs H Q E h => ?_) (fun cdv A outer s H vs Q E hr h => ?_)
  · obtain ⟨z, rfl, hz, q⟩ := h
    rfl
  · obtain ⟨z, rfl, hz, q⟩ := h
    have hu := hu_of hr
    refine ⟨_, (pss_cons (ps_if (PW.pt (pw_or (pt_not (pt_val (pe_callB call_isi (by rfl) T.isinstance (by decide +kernel) (pa_cons (pv 0) (pa_cons (pe_bltn (v := .ty "str") (u := .type "str") (by rfl) T.str (by decide +kernel) rfl) pa_nil))))) (pw_or1 (pt_not (pt_chain op_le op_le pe_int (pe_callB call_len_str (by rfl) T.len (by decide +kernel) (pa_cons (pv 0) pa_nil)) pe_int)))))
  (pss_one (ps_ret pe_bl))
  pss_nil)
 (pss_one (ps_ret (pe_callB (cr_all rfl) (by rfl) T.all (by decide +kernel) (pa_cons (pe_lc (own := [("sign", 1)]) (g := (gName 1)) (tt := tYes) (te := (tOp op_in_signR (tVar 1) (tC (.str letters)))) rfl sc_is_node.nd (pi_str (pv 0)) (blkOk_by (N := ["value", "sign"]) (sc := defScope s_is_node) (by decide +kernel)) (fun _ _ _ _ _ => (pg_name (i := 1) sc_is_node.nd rfl (Or.inl rfl))) (fun _ _ _ _ _ => pts_nil) (fun _ _ _ _ _ => (pe_cmpR op_in_sign (pv 1) (pe_glob (v := .str letters) rfl T.LETTERS.choose_spec ⟨_, rfl⟩) (by rfl)))) pa_nil))))), ?_⟩
    obtain ⟨z1, z2, z3⟩ := four_ok z hz
    refine ⟨_, rfl, _, _, _, _, true, rfl, .ty _, .base (.str _), kit_ty (by decide +kernel), true, rfl, iteF ?_⟩
    have zl : z.length ≤ sizeLine := Nat.le_trans z2 (by decide)
    have d1 : decide ((1 : Int) ≤ (z.length : Int)) = true := decide_eq_true (by omega)
    have d2 : decide ((z.length : Int) ≤ 8) = true := decide_eq_true (by omega)
    refine ⟨_, rfl, z, rfl, zl, _, _, rfl, rfl, _, rfl, ?_⟩
    rw [d1]
    refine iteT ⟨_, _, rfl, rfl, _, rfl, ?_⟩
    rw [d2]
    refine iteF ⟨_, rfl, z, rfl, fun D hD => ?_⟩
    refine lc_signs (LcP H D z.cps.toList (fun _ => true) (fun _ => V.bl true)) (lc_start hD) (fun i c H1 hc p => ?_) (fun H1 p => ?_)
    · refine ⟨rfl, _, rfl, c, letters, rfl, rfl, lc_keep hD p (.refl _) hc rfl ?_ ?_⟩
      · exact congrArg V.bl (decide_eq_true (z3 c (List.mem_of_getElem? hc)))
      · rw [Array.length_toList]; exact Nat.le_trans z2 (by decide)
    · refine ⟨D, _, rfl, .of (lc_all p), ?_⟩
      rw [rep_all]
      exact q H1 p.sm
end
end K96

namespace K96
open PySem PySem.Spec PyProof.Rows L2
/-! K96D2: histories are looked at; the row in force; a value's staleness. -/
section
variable {P : Program} {w : World} {K : PySem.W.Frag} {mg : Str → Option Value} {base : Heap}
def sp_is_version (K : PySem.W.Frag) : Sp := fun vs H Q _ => ∃ (b t : Addr) (z : Tms) (p : Int × Str), vs = [.ref b] ∧ H b = some (.tup [.int p.1, .ref t, .str p.2]) ∧ TmAt H t z ∧ z.Ok ∧ 0 ≤ p.1 ∧ p.2 ∈ four ∧ ∀ H', Same H H' → Q (.bl true) H'
-- slots [(0, 'value')]
theorem ok_is_version {f : Addr} {fd : FuncData} (F : Fun K "is_version" "is_version" s_is_version f fd) (T : Txt K mg) (h_is_count : Has P w K mg base "is_count" 2 ["value"] (sp_is_count K)) (h_is_timers : Has P w K mg base "is_timers" 2 ["value"] (sp_is_timers K)) (h_is_node : Has P w K mg base "is_node" 1 ["value"] (sp_is_node K)) : FnOk P w K mg base CX0 3 f fd ["value"] (sp_is_version K) := by
  refine F.ok sc_is_version (fun vs H Q E h => ?_) (fun cdv A outer s H vs Q E hr h => ?_)
  · obtain ⟨b, t, z, p, rfl, hb, ht, ok, h0, h4, q⟩ := h
    rfl
  · obtain ⟨b, t, z, p, rfl, hb, ht, ok, h0, h4, q⟩ := h
    have hu := hu_of hr
    refine ⟨_, (pss_cons (ps_if (PW.pt (pw_or (pt_not (pt_val (pe_callB call_isi (by rfl) T.isinstance (by decide +kernel) (pa_cons (pv 0) (pa_cons (pe_bltn (v := .ty "tuple") (u := .type "tuple") (by rfl) T.tuple (by decide +kernel) rfl) pa_nil))))) (pw_or1 (pt_cmpR op_ne (pe_callB call_len_seq (by rfl) T.len (by decide +kernel) (pa_cons (pv 0) pa_nil)) pe_int (nomark _)))))
  (pss_one (ps_ret pe_bl))
  pss_nil)
 (pss_one (ps_ret (pe_and (pe_call h_is_count.G (hr.mono (by decide)) rfl h_is_count.m h_is_count.kp h_is_count.b .nil pass0 (pa_cons (pe_ix ix_seq (pv 0) pe_int (fun _ _ => rfl)) pa_nil)) (pe_and (pe_call h_is_timers.G (hr.mono (by decide)) rfl h_is_timers.m h_is_timers.kp h_is_timers.b .nil pass0 (pa_cons (pe_ix ix_seq (pv 0) pe_int (fun _ _ => rfl)) pa_nil)) (pe_one (pe_call h_is_node.G (hr.mono (by decide)) rfl h_is_node.m h_is_node.kp h_is_node.b .nil pass0 (pa_cons (pe_ix ix_seq (pv 0) pe_int (fun _ _ => rfl)) pa_nil)))))))), ?_⟩
    refine ⟨_, rfl, _, _, _, _, true, rfl, .ty _, .base (.tup hb), kit_ty (by decide +kernel), true, rfl, iteF ?_⟩
    refine ⟨_, rfl, b, _, rfl, .inr (.of hb), rfl, _, rfl, iteNS rfl ?_⟩
    refine ⟨_, rfl, .inr (.inl ⟨_, _, _, _, rfl, rfl, .of hb, rfl, ?_⟩)⟩
    refine ⟨p.1, rfl, _, rfl, ?_⟩
    rw [decide_eq_true h0]
    refine iteT ⟨_, rfl, .inr (.inl ⟨_, _, _, _, rfl, rfl, .of hb, rfl, ?_⟩)⟩
    refine ⟨t, z, rfl, ht, ok, fun H1 s1 => ⟨true, rfl, iteT ?_⟩⟩
    refine ⟨_, rfl, .inr (.inl ⟨_, _, _, _, rfl, rfl, .of (s1 _ _ hb), rfl, ?_⟩)⟩
    exact ⟨p.2, rfl, h4, fun H2 s2 => q H2 (s1.trans s2)⟩
def sp_is_history (K : PySem.W.Frag) : Sp := fun vs H Q _ => ∃ (a t : Addr) (z : Tms) (rows : Rows), vs = [.ref a] ∧ His H a t z rows ∧ ∀ H', Same H H' → Q (.bl true) H'
-- slots [(0, 'value'), (1, 'version'), (2, 'at')]
theorem ok_is_history {f : Addr} {fd : FuncData} (F : Fun K "is_history" "is_history" s_is_history f fd) (T : Txt K mg) (h_is_version : Has P w K mg base "is_version" 3 ["value"] (sp_is_version K)) : FnOk P w K mg base CX0 4 f fd ["value"] (sp_is_history K) := by
  refine F.ok sc_is_history (fun vs H Q E h => ?_) (fun cdv A outer s H vs Q E hr h => ?_)
  · obtain ⟨a, t, z, rows, rfl, hh, q⟩ := h
    rfl
  · obtain ⟨a, t, z, rows, rfl, hh, q⟩ := h
    have hu := hu_of hr
    refine ⟨_, (pss_cons (ps_if (PW.pt (pw_or (pt_not (pt_val (pe_callB call_isi (by rfl) T.isinstance (by decide +kernel) (pa_cons (pv 0) (pa_cons (pe_bltn (v := .ty "list") (u := .type "list") (by rfl) T.list (by decide +kernel) rfl) pa_nil))))) (pw_or1 (pt_cmpR op_eq (pe_callB call_len_seq (by rfl) T.len (by decide +kernel) (pa_cons (pv 0) pa_nil)) pe_int (nomark _)))))
  (pss_one (ps_ret pe_bl))
  pss_nil)
 (pss_cons (ps_if (pt_not (pt_val (pe_callB (cr_all rfl) (by rfl) T.all (by decide +kernel) (pa_cons (pe_lc (own := [("version", 1)]) (g := (gName 1)) (tt := tYes) (te := (tCall (sp_is_version K) [] E0 (tCons (tVar 1) tNil))) rfl sc_is_history.nd (pi_list (pv 0)) (blkOk_by (N := ["value", "version", "at"]) (sc := defScope s_is_history) (by decide +kernel)) (fun _ _ _ _ _ => (pg_name (i := 1) sc_is_history.nd rfl (Or.inl rfl))) (fun _ _ _ _ _ => pts_nil) (fun _ _ _ _ _ => (pe_call h_is_version.G (hr.mono (by decide)) rfl h_is_version.m h_is_version.kp h_is_version.b .nil pass0 (pa_cons (pv 1) pa_nil)))) pa_nil))))
  (pss_one (ps_ret pe_bl))
  pss_nil)
 (pss_cons (ps_if (pt_cmpR op_ne (pe_ix ix_seq (pe_ix ix_seq (pv 0) pe_int (fun _ _ => rfl)) pe_int (fun _ _ => rfl)) pe_int (nomark _))
  (pss_one (ps_ret pe_bl))
  pss_nil)
 (pss_one (ps_ret (pe_callB (cr_all rfl) (by rfl) T.all (by decide +kernel) (pa_cons (pe_lc (own := [("at", 2)]) (g := (gName 2)) (tt := tYes) (te := (tOp rLt (tOp (rIx K) (tOp (rIx K) (tVar 0) (tVar 2)) (tC (.int 0))) (tOp (rIx K) (tOp (rIx K) (tVar 0) (tOp rAdd (tVar 2) (tC (.int 1)))) (tC (.int 0))))) rfl sc_is_history.nd (pi_range1 (by rfl) T.range (pa_cons (pe_op op_sub (pe_callB call_len_seq (by rfl) T.len (by decide +kernel) (pa_cons (pv 0) pa_nil)) pe_int) pa_nil)) (blkOk_by (N := ["value", "version", "at"]) (sc := defScope s_is_history) (by decide +kernel)) (fun _ _ _ _ _ => (pg_name (i := 2) sc_is_history.nd rfl (Or.inl rfl))) (fun _ _ _ _ _ => pts_nil) (fun _ _ _ _ _ => (pe_cmpR op_lt (pe_ix ix_seq (pe_ix ix_seq (pv 0) (pv 2) (fun _ _ => rfl)) pe_int (fun _ _ => rfl)) (pe_ix ix_seq (pe_ix ix_seq (pv 0) (pe_op op_add (pv 2) pe_int) (fun _ _ => rfl)) pe_int (fun _ _ => rfl)) (nomark _)))) pa_nil))))))), ?_⟩
    obtain ⟨⟨xs, hl, hxl, hrow⟩, ht, ok, ro⟩ := id hh
    obtain ⟨v0, hv0⟩ := ro.ok.z
    have hlen : 0 < rows.length := (List.getElem?_eq_some_iff.mp hv0).1
    refine ⟨_, rfl, _, _, _, _, true, rfl, .ty _, .base (.lst hl), kit_ty (by decide +kernel), true, rfl, iteF ?_⟩
    refine ⟨_, rfl, a, _, rfl, .inl (.of hl), rfl, _, rfl, ?_⟩
    have dn : decide (V.int (xs.length : Int) = V.int 0) = false := by
      rw [dec_int]; exact beq_eq_false_iff_ne.mpr (by omega)
    rw [dn]
    refine iteF ⟨_, rfl, a, rfl, ⟨_, .of hl⟩, fun D hD => lc_list (K := K) (a := a) (xs := xs) (LcP H D rows (fun _ => true) (fun _ => V.bl true)) (lc_start hD) (fun i H1 _ p => .of (p.sm _ _ hl)) (fun i x H1 hx p => ?_) (fun H1 p => ?_)⟩
    · obtain ⟨r, hr1, b, rfl, hb⟩ := row_at hxl hrow hx
      have hm := List.mem_of_getElem? hr1
      refine ⟨rfl, _, rfl, b, t, z, r, rfl, p.sm _ _ hb, p.sm _ _ ht, ok, (ro.lim r hm).1, ro.val r hm, fun H2 s2 => lc_keep hD p s2 hr1 rfl rfl ?_⟩
      have := ro.few; omega
    · rw [hxl] at p
      refine ⟨D, _, rfl, .of (lc_all p), ?_⟩
      rw [rep_all]
      refine ⟨true, rfl, iteF ?_⟩
      have s1 := p.sm
      obtain ⟨b0, hx0, hb0⟩ := row_of hxl hrow hv0
      refine ⟨_, rfl, .inl ⟨_, _, _, _, rfl, rfl, .of (s1 _ _ hl), atN hx0 rfl, ?_⟩⟩
      refine .inr (.inl ⟨_, _, _, _, rfl, rfl, .of (s1 _ _ hb0), rfl, ?_⟩)
      refine ⟨rfl, _, rfl, iteNS rfl ?_⟩
      refine ⟨_, rfl, a, _, rfl, .inl (.of (s1 _ _ hl)), _, _, rfl, rfl, ?_⟩
      have few := ro.few
      have en : ((xs.length : Int) - 1).toNat = rows.length - 1 := by omega
      refine ⟨_, rfl, ?_, ?_, fun E hE => ?_⟩
      · omega
      · omega
      rw [en]
      refine lc_range (LcP H1 E (List.range (rows.length - 1)) (fun _ => true) (fun _ => V.bl true)) (lc_start hE) (fun i H2 hi p2 => ?_) (fun H2 p2 => ?_)
      · have s2 := s1.trans p2.sm
        have g1 : i < rows.length := by omega
        have g2 : i + 1 < rows.length := by omega
        obtain ⟨b1, hx1, hb1⟩ := row_of hxl hrow (List.getElem?_eq_getElem g1)
        obtain ⟨b2, hx2, hb2⟩ := row_of hxl hrow (List.getElem?_eq_getElem g2)
        refine ⟨rfl, _, rfl, _, rfl, .inl ⟨_, _, _, _, rfl, rfl, .of (s2 _ _ hl), atN hx1 (by omega), ?_⟩⟩
        refine .inr (.inl ⟨_, _, _, _, rfl, rfl, .of (s2 _ _ hb1), rfl, ?_⟩)
        refine ⟨_, rfl, _, rfl, _, _, rfl, rfl, .inl ⟨_, _, _, _, rfl, rfl, .of (s2 _ _ hl), atN hx2 (by omega), ?_⟩⟩
        refine .inr (.inl ⟨_, _, _, _, rfl, rfl, .of (s2 _ _ hb2), rfl, ?_⟩)
        refine ⟨_, _, rfl, rfl, lc_keep hE p2 (.refl _) (range_at hi) rfl ?_ (by rw [List.length_range]; omega)⟩
        have := ro.ok.asc i (i + 1) _ _ (by omega) (List.getElem?_eq_getElem g1) (List.getElem?_eq_getElem g2)
        exact congrArg V.bl (decide_eq_true this)
      · have p3 := lc_all (l := List.range (rows.length - 1)) (by rw [List.length_range]; exact p2)
        refine ⟨E, _, rfl, .of p3, ?_⟩
        rw [rep_all]
        exact q H2 (s1.trans p2.sm)
def sp_need_history (K : PySem.W.Frag) : Sp := fun vs H Q _ => ∃ (a t : Addr) (z : Tms) (rows : Rows), vs = [.ref a] ∧ His H a t z rows ∧ ∀ H', Same H H' → Q .non H'
-- slots [(0, 'history')]
theorem ok_need_history {f : Addr} {fd : FuncData} (F : Fun K "need_history" "need_history" s_need_history f fd) (T : Txt K mg) (h_is_history : Has P w K mg base "is_history" 4 ["value"] (sp_is_history K)) : FnOk P w K mg base CX0 5 f fd ["history"] (sp_need_history K) := by
  refine F.ok sc_need_history (fun vs H Q E h => ?_) (fun cdv A outer s H vs Q E hr h => ?_)
  · obtain ⟨a, t, z, rows, rfl, hh, q⟩ := h
    rfl
  · obtain ⟨a, t, z, rows, rfl, hh, q⟩ := h
    have hu := hu_of hr
    refine ⟨_, (pss_one (ps_if (pt_not (pt_val (pe_call h_is_history.G (hr.mono (by decide)) rfl h_is_history.m h_is_history.kp h_is_history.b .nil pass0 (pa_cons (pv 0) pa_nil))))
  pss_never
  pss_nil)), ?_⟩
    exact ⟨_, rfl, a, t, z, rows, rfl, hh, fun H' s1 => ⟨_, rfl, iteF (q H' s1)⟩⟩
/-- hands back the row in force -/
def sp_version_at (K : PySem.W.Frag) : Sp := fun vs H Q _ => ∃ (a t : Addr) (z : Tms) (rows : Rows) (m : Int), vs = [.ref a, .int m] ∧ His H a t z rows ∧ 0 ≤ m ∧
  ∀ b p, K96M.InF rows m p → H b = some (.tup [.int p.1, .ref t, .str p.2]) → Q (.ref b) H
/-- the last row among the first n that begins by m -/
def Upto (rows : Rows) (m : Int) (n : Nat) (i : Nat) (p : Int × Str) : Prop := rows[i]? = some p ∧ p.1 ≤ m ∧ ∀ (j : Nat) p', i < j → j < n → rows[j]? = some p' → m < p'.1
theorem Upto.step {rows : Rows} {m : Int} {n i : Nat} {p r : Int × Str} (h : Upto rows m n i p) (e : rows[n]? = some r) (hr : ¬ r.1 ≤ m) : Upto rows m (n + 1) i p := by
  refine ⟨h.1, h.2.1, fun j p' a b c => ?_⟩
  by_cases hj : j = n
  · subst hj; rw [e] at c; cases c; omega
  · exact h.2.2 j p' a (by omega) c
theorem Upto.here {rows : Rows} {m : Int} {n : Nat} {r : Int × Str} (e : rows[n]? = some r) (hr : r.1 ≤ m) : Upto rows m (n + 1) n r := ⟨e, hr, fun j p' a b c => by omega⟩
theorem Upto.fin {rows : Rows} {m : Int} {i : Nat} {p : Int × Str} (h : Upto rows m rows.length i p) : K96M.InF rows m p := ⟨i, h.1, h.2.1, fun j p' a c => h.2.2 j p' a (List.getElem?_eq_some_iff.mp c).1 c⟩
-- slots [(0, 'history'), (1, 'moment'), (2, 'found'), (3, 'version')]
theorem ok_version_at {f : Addr} {fd : FuncData} (F : Fun K "version_at" "version_at" s_version_at f fd) (T : Txt K mg)  : FnOk P w K mg base CX0 1 f fd ["history", "moment"] (sp_version_at K) := by
  refine F.ok sc_version_at (fun vs H Q E h => ?_) (fun cdv A outer s H vs Q E hr h => ?_)
  · obtain ⟨a, t, z, rows, m, rfl, hh, hm, q⟩ := h
    rfl
  · obtain ⟨a, t, z, rows, m, rfl, hh, hm, q⟩ := h
    have hu := hu_of hr
    refine ⟨_, (pss_cons (ps_set (i := 2) sc_version_at.nd rfl (Or.inl rfl) (pe_ix ix_seq (pv 0) pe_int (fun _ _ => rfl)))
 (pss_cons (ps_for PassesOwn.never rfl (pi_list (pv 0)) (pg_name (i := 3) sc_version_at.nd rfl (Or.inl rfl))
  (pss_one (ps_if (pt_cmpR op_le (pe_ix ix_seq (pv 3) pe_int (fun _ _ => rfl)) (pv 1) (nomark _))
  (pss_one (ps_set (i := 2) sc_version_at.nd rfl (Or.inl rfl) (pv 3)))
  pss_nil)))
 (pss_one (ps_ret (pv 2))))), ?_⟩
    obtain ⟨⟨xs, hl, hxl, hrow⟩, ht, ok, ro⟩ := id hh
    obtain ⟨v0, hv0⟩ := ro.ok.z
    obtain ⟨b0, hx0, hb0⟩ := row_of hxl hrow hv0
    refine ⟨_, rfl, .inl ⟨_, _, _, _, rfl, rfl, .of hl, atN hx0 rfl, ?_⟩⟩
    refine ⟨_, rfl, a, rfl, ⟨_, .of hl⟩, for_list (K := K) (a := a) (xs := xs) (fun n σ H1 => H1 = H ∧ ∃ b i p y, σ = [some (.ref a), some (.int m), some (.ref b), y] ∧ H b = some (.tup [.int p.1, .ref t, .str p.2]) ∧ Upto rows m n i p)
      ⟨rfl, b0, 0, _, none, rfl, hb0, hv0, hm, fun j p' a b c => by omega⟩ (fun i σ H1 _ w => by rw [w.1]; exact .of hl) (fun n x σ H1 hx hw => ?_) (fun σ H1 hw => ?_)⟩
    · obtain ⟨rfl, b, i, p, y, rfl, hb, up⟩ := hw
      obtain ⟨r, hr1, c, rfl, hc⟩ := row_at hxl hrow hx
      refine ⟨_, rfl, .inr (.inl ⟨_, _, _, _, rfl, rfl, .of hc, rfl, ?_⟩)⟩
      refine ⟨_, rfl, _, _, rfl, rfl, _, rfl, ifD (fun hle => ?_) (fun hgt => ?_)⟩
      · exact ⟨_, rfl, rfl, c, n, r, _, rfl, hc, .here hr1 hle⟩
      · exact ⟨rfl, b, i, p, _, rfl, hb, up.step hr1 hgt⟩
    · obtain ⟨rfl, b, i, p, y, rfl, hb, up⟩ := hw
      rw [hxl] at up
      exact ⟨_, rfl, q b p up.fin hb⟩
end
end K96

namespace K96
open PySem PySem.Spec PyProof.Rows L2
/-! K96D3: staleness by places, a row of successes, the last success, what is told, the askings. -/
section
variable {P : Program} {w : World} {K : PySem.W.Frag} {mg : Str → Option Value} {base : Heap}
def sp_lag_at (K : PySem.W.Frag) : Sp := fun vs H Q _ => ∃ (a t : Addr) (z : Tms) (rows : Rows) (m : Int) (v : Str) (L : Int), vs = [.ref a, .int m, .str v] ∧ His H a t z rows ∧ K96M.IsLag rows m v L ∧ Q (.int L) H
-- slots [(0, 'history'), (1, 'moment'), (2, 'value'), (3, 'found'), (4, 'at'), (5, 'last')]
theorem ok_lag_at {f : Addr} {fd : FuncData} (F : Fun K "lag_at" "lag_at" s_lag_at f fd) (T : Txt K mg)  : FnOk P w K mg base CX0 1 f fd ["history", "moment", "value"] (sp_lag_at K) := by
  refine F.ok sc_lag_at (fun vs H Q E h => ?_) (fun cdv A outer s H vs Q E hr h => ?_)
  · obtain ⟨a, t, z, rows, m, v, L, rfl, hh, hL, q⟩ := h
    rfl
  · obtain ⟨a, t, z, rows, m, v, L, rfl, hh, hL, q⟩ := h
    have hu := hu_of hr
    refine ⟨_, (pss_cons (ps_set (i := 3) sc_lag_at.nd rfl (Or.inl rfl) pe_int)
 (pss_cons (ps_for PassesOwn.never rfl (pi_range1 (by rfl) T.range (pa_cons (pe_callB call_len_seq (by rfl) T.len (by decide +kernel) (pa_cons (pv 0) pa_nil)) pa_nil)) (pg_name (i := 4) sc_lag_at.nd rfl (Or.inl rfl))
  (pss_one (ps_if (PW.pt (pw_and (pt_cmpR op_eq (pe_ix ix_seq (pe_ix ix_seq (pv 0) (pv 4) (fun _ _ => rfl)) pe_int (fun _ _ => rfl)) (pv 2) (nomark _)) (pw_and1 (pt_cmpR op_le (pe_ix ix_seq (pe_ix ix_seq (pv 0) (pv 4) (fun _ _ => rfl)) pe_int (fun _ _ => rfl)) (pv 1) (nomark _)))))
  (pss_cons (ps_set (i := 5) sc_lag_at.nd rfl (Or.inl rfl) (pv 1))
 (pss_cons (ps_if (pt_cmpR op_lt (pe_op op_add (pv 4) pe_int) (pe_callB call_len_seq (by rfl) T.len (by decide +kernel) (pa_cons (pv 0) pa_nil)) (nomark _))
  (pss_one (ps_set (i := 5) sc_lag_at.nd rfl (Or.inl rfl) (pe_callB (call_min2 rfl) (by rfl) T.min (by decide +kernel) (pa_cons (pv 1) (pa_cons (pe_op op_sub (pe_ix ix_seq (pe_ix ix_seq (pv 0) (pe_op op_add (pv 4) pe_int) (fun _ _ => rfl)) pe_int (fun _ _ => rfl)) pe_int) pa_nil)))))
  pss_nil)
 (pss_one (ps_set (i := 3) sc_lag_at.nd rfl (Or.inl rfl) (pe_op op_sub (pv 1) (pv 5))))))
  pss_nil)))
 (pss_one (ps_ret (pv 3))))), ?_⟩
    obtain ⟨⟨xs, hl, hxl, hrow⟩, ht, ok, ro⟩ := id hh
    have few := ro.few
    refine ⟨_, rfl, a, _, rfl, .inl (.of hl), ?_⟩
    refine ⟨_, rfl, by omega, by omega, ?_⟩
    have en : ((xs.length : Int)).toNat = rows.length := by omega
    rw [en]
    refine for_range (fun n σ H1 => H1 = H ∧ ∃ F y4 y5, σ = [some (.ref a), some (.int m), some (.str v), some (.int F), y4, y5] ∧ ((∀ j, j < n → ¬ K96M.Match rows m v j) ∨ ∃ i, K96M.LastM rows m v n i ∧ F = m - K96M.lastIn rows m i))
      ⟨rfl, 0, none, none, rfl, .inl fun j hj => by omega⟩ (fun n σ H1 hn hw => ?_) (fun σ H1 hw => ?_)
    · obtain ⟨rfl, F, y4, y5, rfl, hF⟩ := hw
      obtain ⟨b, hx, hb⟩ := row_of hxl hrow (List.getElem?_eq_getElem hn)
      have skip : ¬ K96M.Match rows m v n → ((∀ j, j < n + 1 → ¬ K96M.Match rows m v j) ∨ ∃ i, K96M.LastM rows m v (n + 1) i ∧ F = m - K96M.lastIn rows m i) := fun no => by
        rcases hF with h | ⟨i, ⟨h1, h2, h3⟩, h4⟩
        · left; intro j hj
          by_cases e : j = n
          · subst e; exact no
          · exact h j (by omega)
        · right; refine ⟨i, ⟨by omega, h2, fun j a b => ?_⟩, h4⟩
          by_cases e : j = n
          · subst e; exact no
          · exact h3 j a (by omega)
      refine ⟨_, rfl, _, rfl, .inl ⟨_, _, _, _, rfl, rfl, .of hl, atN hx (by omega), ?_⟩⟩
      refine .inr (.inl ⟨_, _, _, _, rfl, rfl, .of hb, rfl, ?_⟩)
      refine ⟨_, rfl, rfl, _, rfl, ifD (fun hv => ?_) (fun hv => ?_)⟩
      · refine ⟨_, rfl, _, rfl, .inl ⟨_, _, _, _, rfl, rfl, .of hl, atN hx (by omega), ?_⟩⟩
        refine .inr (.inl ⟨_, _, _, _, rfl, rfl, .of hb, rfl, ?_⟩)
        refine ⟨_, rfl, _, _, rfl, rfl, _, rfl, ifD (fun hm => ?_) (fun hm => ?_)⟩
        · have hmt : K96M.Match rows m v n := ⟨_, List.getElem?_eq_getElem hn, V.str.inj hv, hm⟩
          have done : ∀ X y4' , X = K96M.lastIn rows m n → H1 = H1 ∧ ∃ F y4 y5, ([some (.ref a), some (.int m), some (.str v), some (.int (m - X)), y4', some (.int X)] : List (Option V)) = [some (.ref a), some (.int m), some (.str v), some (.int F), y4, y5] ∧ ((∀ j, j < n + 1 → ¬ K96M.Match rows m v j) ∨ ∃ i, K96M.LastM rows m v (n + 1) i ∧ F = m - K96M.lastIn rows m i) := fun X y4' e => by
            subst e
            exact ⟨rfl, _, _, _, rfl, .inr ⟨n, ⟨by omega, hmt, fun j a b => by omega⟩, rfl⟩⟩
          refine ⟨_, rfl, _, rfl, _, _, rfl, rfl, _, rfl, a, _, rfl, .inl (.of hl), ?_⟩
          refine ⟨_, _, rfl, rfl, _, rfl, ifD (fun hlt => ?_) (fun hge => ?_)⟩
          · have g2 : n + 1 < rows.length := by omega
            obtain ⟨b2, hx2, hb2⟩ := row_of hxl hrow (List.getElem?_eq_getElem g2)
            refine ⟨_, rfl, _, rfl, _, rfl, _, _, rfl, rfl, .inl ⟨_, _, _, _, rfl, rfl, .of hl, atN hx2 (by omega), ?_⟩⟩
            refine .inr (.inl ⟨_, _, _, _, rfl, rfl, .of hb2, rfl, ?_⟩)
            refine ⟨_, _, rfl, rfl, _, _, rfl, ?_⟩
            refine ⟨_, rfl, _, rfl, _, _, rfl, rfl, done _ _ ?_⟩
            unfold K96M.lastIn
            rw [List.getElem?_eq_getElem g2]
            simp only
            split <;> omega
          · refine ⟨_, rfl, _, rfl, _, _, rfl, rfl, done _ _ ?_⟩
            unfold K96M.lastIn
            rw [List.getElem?_eq_none (by omega)]
        · exact ⟨rfl, _, _, _, rfl, skip fun ⟨p, e, _, l⟩ => by rw [List.getElem?_eq_getElem hn] at e; cases e; exact hm l⟩
      · exact ⟨rfl, _, _, _, rfl, skip fun ⟨p, e, ev, _⟩ => by rw [List.getElem?_eq_getElem hn] at e; cases e; exact hv (by rw [ev])⟩
    · obtain ⟨rfl, F, y4, y5, rfl, hF⟩ := hw
      refine ⟨_, rfl, ?_⟩
      rcases hF with h | ⟨i, h1, h2⟩
      · obtain ⟨i, hi, hmt⟩ := hL.match
        exact absurd hmt (h i hi)
      · have e := (h1.lag ro.ok).uniq hL
        have e2 : F = L := by omega
        rw [e2]; exact q
/-- a list of ints stands at l -/
abbrev IntsAt (H : Hp) (l : Addr) (ns : List Int) : Prop := H l = some (.lst (ns.map V.int))
theorem line_le {n : Nat} (h : n ≤ 1000000) : n ≤ sizeLine := by
  have : sizeLine = 16777216 := sizeLine_eq
  omega
theorem ediv_le {x r : Int} (hx : 0 ≤ x) (hr : 0 < r) : 0 ≤ x / r ∧ x / r * r ≤ x := by
  have h1 := Int.emod_nonneg x (show r ≠ 0 by omega)
  have h2 := Int.mul_ediv_add_emod x r
  have h3 : r * (x / r) = x / r * r := Int.mul_comm _ _
  exact ⟨Int.ediv_nonneg hx (by omega), by omega⟩
def sp_last_in_row (K : PySem.W.Frag) : Sp := fun vs H Q _ => ∃ (a t l : Addr) (z : Tms) (rows : Rows) (lost : List Int) (s m : Int), vs = [.ref a, .ref l, .int s, .int m] ∧ His H a t z rows ∧ IntsAt H l lost ∧ lost.length ≤ 1000 ∧ 0 ≤ s ∧ s ≤ m ∧
  ∀ (k : Nat) (H' : Hp), Same H H' → s + k * z.r ≤ m → (∀ x ∈ lost, s < x → s + k * z.r < x) → Q (.int (s + k * z.r)) H'
-- slots [(0, 'history'), (1, 'lost'), (2, 'success'), (3, 'moment'), (4, 'refresh'), (5, 'events'), (6, 'version'), (7, 'end'), (8, 'event')]
theorem ok_last_in_row {f : Addr} {fd : FuncData} (F : Fun K "last_in_row" "last_in_row" s_last_in_row f fd) (T : Txt K mg) (h_version_at : Has P w K mg base "version_at" 1 ["history", "moment"] (sp_version_at K)) : FnOk P w K mg base CX0 2 f fd ["history", "lost", "success", "moment"] (sp_last_in_row K) := by
  refine F.ok sc_last_in_row (fun vs H Q E h => ?_) (fun cdv A outer s H vs Q E hr h => ?_)
  · obtain ⟨a, t, l, z, rows, lost, s, m, rfl, hh, hlo, hn, hs, hm, q⟩ := h
    rfl
  · obtain ⟨a, t, l, z, rows, lost, s, m, rfl, hh, hlo, hn, hs, hm, q⟩ := h
    have hu := hu_of hr
    refine ⟨_, (pss_cons (ps_set (i := 4) sc_last_in_row.nd rfl (Or.inl rfl) (pe_ix ix_seq (pe_ix ix_seq (pe_call h_version_at.G (hr.mono (by decide)) rfl h_version_at.m h_version_at.kp h_version_at.b .nil pass0 (pa_cons (pv 0) (pa_cons (pv 2) pa_nil))) pe_int (fun _ _ => rfl)) pe_int (fun _ _ => rfl)))
 (pss_cons (ps_set (i := 5) sc_last_in_row.nd rfl (Or.inl rfl) (pe_op op_cat (pe_op op_cat (pe_lc (own := [("version", 6)]) (g := (gName 6)) (tt := tYes) (te := (tOp (rIx K) (tVar 6) (tC (.int 0)))) rfl sc_last_in_row.nd (pi_list (pv 0)) (blkOk_by (N := ["history", "lost", "success", "moment", "refresh", "events", "version", "end", "event"]) (sc := defScope s_last_in_row) (by decide +kernel)) (fun _ _ _ _ _ => (pg_name (i := 6) sc_last_in_row.nd rfl (Or.inl rfl))) (fun _ _ _ _ _ => pts_nil) (fun _ _ _ _ _ => (pe_ix ix_seq (pv 6) pe_int (fun _ _ => rfl)))) (pv 1)) (pe_lst (pa_cons (pe_op op_add (pv 3) pe_int) pa_nil))))
 (pss_cons (ps_set (i := 7) sc_last_in_row.nd rfl (Or.inl rfl) (pe_callB (cr_min rfl) (by rfl) T.min (by decide +kernel) (pa_cons (pe_lc (own := [("event", 8)]) (g := (gName 8)) (tt := (tTest (tOp rGt (tVar 8) (tVar 2)))) (te := (tVar 8)) rfl sc_last_in_row.nd (pi_list (pv 5)) (blkOk_by (N := ["history", "lost", "success", "moment", "refresh", "events", "version", "end", "event"]) (sc := defScope s_last_in_row) (by decide +kernel)) (fun _ _ _ _ _ => (pg_name (i := 8) sc_last_in_row.nd rfl (Or.inl rfl))) (fun _ _ _ _ _ => (pts_one (pt_cmpR op_gt (pv 8) (pv 2) (nomark _)))) (fun _ _ _ _ _ => (pv 8))) pa_nil)))
 (pss_one (ps_ret (pe_op op_add (pv 2) (pe_op op_mul (pe_op op_fdiv (pe_op op_sub (pe_op op_sub (pv 7) pe_int) (pv 2)) (pv 4)) (pv 4)))))))), ?_⟩
    obtain ⟨⟨xs, hl, hxl, hrow⟩, ht, ok, ro⟩ := id hh
    have few := ro.few
    refine ⟨_, rfl, _, rfl, a, t, z, rows, s, rfl, hh, hs, fun b p _ hb => ?_⟩
    refine .inr (.inl ⟨_, _, _, _, rfl, rfl, .of hb, rfl, ?_⟩)
    refine .inr (.inl ⟨_, _, _, _, rfl, rfl, .of ht, rfl, ?_⟩)
    refine ⟨_, rfl, a, rfl, ⟨_, .of hl⟩, fun D hD => lc_list (K := K) (a := a) (xs := xs) (LcP H D rows (fun _ => true) (fun p => V.int p.1)) (lc_start hD) (fun i H1 _ p => .of (p.sm _ _ hl)) (fun i x H1 hx p => ?_) (fun H1 p => ?_)⟩
    · obtain ⟨r, hr1, b, rfl, hb⟩ := row_at hxl hrow hx
      refine ⟨rfl, _, rfl, .inr (.inl ⟨_, _, _, _, rfl, rfl, .of (p.sm _ _ hb), rfl, lc_keep hD p (.refl _) hr1 rfl rfl (by omega)⟩)⟩
    rw [hxl] at p
    have s1 := p.sm
    have hd1 := lc_end p
    have hf : (rows.filter fun _ => true) = rows := by simp
    rw [hf] at hd1
    refine ⟨_, rfl, D, l, _, _, rfl, rfl, hd1, s1 _ _ hlo, line_le (by rw [List.length_map, List.length_map]; omega), fun E hE => ?_⟩
    have s2 := same_upd2 (o := .lst (rows.map (fun p => V.int p.1) ++ lost.map V.int)) (s1.free hE) s1
    refine ⟨_, rfl, _, _, rfl, rfl, line_le (by show 1 ≤ 1000000; decide), fun G hG => ?_⟩
    have s3 := same_upd2 (o := .lst [.int (m + 1)]) (s2.free hG) s2
    have nEG : E ≠ G := ne_of_none upd_same hG
    refine ⟨E, G, _, _, rfl, rfl, by rw [upd_ne nEG, upd_same], upd_same, line_le (by simp only [List.length_append, List.length_map, List.length_cons, List.length_nil]; omega), fun J hJ => ?_⟩
    have s4 := same_upd2 (o := .lst (rows.map (fun p => V.int p.1) ++ lost.map V.int ++ [.int (m + 1)])) (s3.free hJ) s3
    have ev : (rows.map (fun p => V.int p.1) ++ lost.map V.int ++ [.int (m + 1)]) = (rows.map (·.1) ++ lost ++ [m + 1]).map V.int := by simp
    rw [ev] at s4 ⊢
    have elen : (rows.map (·.1) ++ lost ++ [m + 1]).length ≤ 1100 := by
      simp only [List.length_append, List.length_map, List.length_cons, List.length_nil]; omega
    have eml : m + 1 ∈ rows.map (·.1) ++ lost ++ [m + 1] := by simp
    have elo : ∀ x ∈ lost, x ∈ rows.map (·.1) ++ lost ++ [m + 1] := fun x hx => by simp [hx]
    generalize hevs : rows.map (·.1) ++ lost ++ [m + 1] = evs at *
    refine ⟨_, rfl, J, rfl, ⟨_, .of upd_same⟩, fun W hW => lc_list (K := K) (a := J) (xs := evs.map V.int) (LcP _ W evs (fun x => decide (s < x)) V.int) (lc_start hW) (fun i H5 _ p => .of (p.sm _ _ upd_same)) (fun i x H5 hx p => ?_) (fun H5 p => ?_)⟩
    · obtain ⟨n, hn1, rfl⟩ := map_at hx
      refine ⟨rfl, _, rfl, _, rfl, _, _, rfl, rfl, _, rfl, ifD (fun hlt => ?_) (fun hge => ?_)⟩
      · exact ⟨_, rfl, lc_keep hW p (.refl _) hn1 (decide_eq_true hlt) rfl (by omega)⟩
      · exact lc_skip p (.refl _) hn1 (decide_eq_false hge)
    rw [List.length_map] at p
    have s5 := s4.trans p.sm
    have hpos : m + 1 ∈ evs.filter fun x => decide (s < x) := List.mem_filter.mpr ⟨eml, decide_eq_true (by omega)⟩
    refine ⟨W, _, rfl, .of (lc_end p), List.length_pos_iff.mpr (List.ne_nil_of_mem hpos), fun en hen hmin => ?_⟩
    have h1 : s < en := of_decide_eq_true (List.mem_filter.mp hen).2
    have h2 := hmin _ hpos
    have r1 := ok.r1
    have r2 := ok.r2
    refine ⟨_, rfl, _, rfl, _, _, rfl, rfl, _, rfl, _, _, rfl, rfl, _, rfl, _, _, rfl, rfl, ⟨by omega, by omega⟩, _, rfl, _, _, rfl, rfl, .inr ⟨by omega, by omega⟩, _, _, rfl, rfl, ?_⟩
    obtain ⟨k1, k2⟩ := ediv_le (x := en - 1 - s) (r := z.r) (by omega) (by omega)
    have ek : (en - 1 - s) / z.r * z.r = (((en - 1 - s) / z.r).toNat : Int) * z.r := by rw [Int.toNat_of_nonneg k1]
    rw [ek] at k2
    show Q (.int (s + (en - 1 - s) / z.r * z.r)) H5
    rw [ek]
    refine q _ H5 s5 (by omega) fun x hx hsx => ?_
    have := hmin x (List.mem_filter.mpr ⟨elo x hx, decide_eq_true hsx⟩)
    omega
def sp_last_success (K : PySem.W.Frag) : Sp := fun vs H Q _ => ∃ (a t l : Addr) (z : Tms) (rows : Rows) (lost : List Int) (m : Int), vs = [.ref a, .ref l, .int m] ∧ His H a t z rows ∧ IntsAt H l lost ∧ lost.length ≤ 1000 ∧ 0 ≤ m ∧
  ∀ (H' : Hp), Same H H' → Q (.int (K96M.simN lost z.r z.q m 0 z.r)) H'
-- slots [(0, 'history'), (1, 'lost'), (2, 'moment'), (3, 'success'), (4, 'asked')]
theorem ok_last_success {f : Addr} {fd : FuncData} (F : Fun K "last_success" "last_success" s_last_success f fd) (T : Txt K mg) (h_last_in_row : Has P w K mg base "last_in_row" 2 ["history", "lost", "success", "moment"] (sp_last_in_row K)) (h_version_at : Has P w K mg base "version_at" 1 ["history", "moment"] (sp_version_at K)) : FnOk P w K mg base CX0 3 f fd ["history", "lost", "moment"] (sp_last_success K) := by
  refine F.ok sc_last_success (fun vs H Q E h => ?_) (fun cdv A outer s H vs Q E hr h => ?_)
  · obtain ⟨a, t, l, z, rows, lost, m, rfl, hh, hlo, hn, hm, q⟩ := h
    rfl
  · obtain ⟨a, t, l, z, rows, lost, m, rfl, hh, hlo, hn, hm, q⟩ := h
    have hu := hu_of hr
    refine ⟨_, (pss_cons (ps_set (i := 3) sc_last_success.nd rfl (Or.inl rfl) pe_int)
 (pss_cons (ps_set (i := 4) sc_last_success.nd rfl (Or.inl rfl) (pe_ix ix_seq (pe_ix ix_seq (pe_ix ix_seq (pv 0) pe_int (fun _ _ => rfl)) pe_int (fun _ _ => rfl)) pe_int (fun _ _ => rfl)))
 (pss_cons (ps_while PassesOwn.never (pt_cmpR op_le (pv 4) (pv 2) (nomark _))
  (pss_one (ps_if (pt_cmpR op_in_seq (pv 4) (pv 1) (by rfl))
  (pss_one (ps_set (i := 4) sc_last_success.nd rfl (Or.inl rfl) (pe_op op_add (pv 4) (pe_ix ix_seq (pe_ix ix_seq (pe_call h_version_at.G (hr.mono (by decide)) rfl h_version_at.m h_version_at.kp h_version_at.b .nil pass0 (pa_cons (pv 0) (pa_cons (pv 3) pa_nil))) pe_int (fun _ _ => rfl)) pe_int (fun _ _ => rfl)))))
  (pss_cons (ps_set (i := 3) sc_last_success.nd rfl (Or.inl rfl) (pe_call h_last_in_row.G (hr.mono (by decide)) rfl h_last_in_row.m h_last_in_row.kp h_last_in_row.b .nil pass0 (pa_cons (pv 0) (pa_cons (pv 1) (pa_cons (pv 4) (pa_cons (pv 2) pa_nil))))))
 (pss_one (ps_set (i := 4) sc_last_success.nd rfl (Or.inl rfl) (pe_op op_add (pv 3) (pe_ix ix_seq (pe_ix ix_seq (pe_call h_version_at.G (hr.mono (by decide)) rfl h_version_at.m h_version_at.kp h_version_at.b .nil pass0 (pa_cons (pv 0) (pa_cons (pv 3) pa_nil))) pe_int (fun _ _ => rfl)) pe_int (fun _ _ => rfl)))))))))
 (pss_one (ps_ret (pv 3)))))), ?_⟩
    obtain ⟨⟨xs, hl, hxl, hrow⟩, ht, ok, ro⟩ := id hh
    obtain ⟨v0, hv0⟩ := ro.ok.z
    obtain ⟨b0, hx0, hb0⟩ := row_of hxl hrow hv0
    have r1 := ok.r1
    have q1 := ok.q1
    refine ⟨_, rfl, .inl ⟨_, _, _, _, rfl, rfl, .of hl, atN hx0 rfl, ?_⟩⟩
    refine .inr (.inl ⟨_, _, _, _, rfl, rfl, .of hb0, rfl, ?_⟩)
    refine .inr (.inl ⟨_, _, _, _, rfl, rfl, .of ht, rfl, ?_⟩)
    refine ⟨fun n σ H1 => ∃ s x, σ = [some (.ref a), some (.ref l), some (.int m), some (.int s), some (.int x)] ∧ Same H H1 ∧ n = (m + 1 - x).toNat ∧ 0 ≤ s ∧ s ≤ x ∧ K96M.simN lost z.r z.q m s x = K96M.simN lost z.r z.q m 0 z.r,
      ⟨_, 0, z.r, rfl, .refl _, rfl, by omega, by omega, rfl⟩, fun n σ H1 hw => ?_⟩
    obtain ⟨s, x, rfl, s1, hn', h0, hsx, he⟩ := hw
    have hh1 := hh.same s1
    refine ⟨_, rfl, _, rfl, _, _, rfl, rfl, _, rfl, ifD (fun hle => ?_) (fun hgt => ?_)⟩
    · refine ⟨fun σ' H' => ∃ n', n' < n ∧ ∃ s x, σ' = [some (.ref a), some (.ref l), some (.int m), some (.int s), some (.int x)] ∧ Same H H' ∧ n' = (m + 1 - x).toNat ∧ 0 ≤ s ∧ s ≤ x ∧ K96M.simN lost z.r z.q m s x = K96M.simN lost z.r z.q m 0 z.r, fun _ _ h => h, ?_⟩
      refine ⟨_, rfl, _, rfl, l, _, rfl, .inl (.of (s1 _ _ hlo)), rfl, flat_ints _, ?_⟩
      show ∃ c, V.bl (inV (.int x) (lost.map V.int)) = V.bl c ∧ _
      rw [inV_ints]
      refine ⟨_, rfl, ifD (fun hin => ?_) (fun hout => ?_)⟩
      · refine ⟨_, rfl, _, rfl, _, rfl, a, t, z, rows, s, rfl, hh1, h0, fun b p _ hb => ?_⟩
        refine .inr (.inl ⟨_, _, _, _, rfl, rfl, .of hb, rfl, ?_⟩)
        refine .inr (.inl ⟨_, _, _, _, rfl, rfl, .of hh1.tm, rfl, ?_⟩)
        refine ⟨_, _, rfl, rfl, _, ?_, s, x + z.q, rfl, s1, rfl, h0, by omega, ?_⟩
        · omega
        · rw [← he, K96M.simN_lost (by omega) (by omega) hle hin]
      · refine ⟨_, rfl, _, rfl, _, rfl, _, rfl, a, t, l, z, rows, lost, x, m, rfl, hh1, s1 _ _ hlo, hn, by omega, hle, fun k H2 s2 g1 g2 => ?_⟩
        have hk : 0 ≤ (k : Int) * z.r := Int.mul_nonneg (by omega) (by omega)
        have hh2 := hh1.same s2
        refine ⟨_, rfl, _, rfl, _, rfl, a, t, z, rows, _, rfl, hh2, by omega, fun b p _ hb => ?_⟩
        refine .inr (.inl ⟨_, _, _, _, rfl, rfl, .of hb, rfl, ?_⟩)
        refine .inr (.inl ⟨_, _, _, _, rfl, rfl, .of hh2.tm, rfl, ?_⟩)
        refine ⟨_, _, rfl, rfl, _, ?_, x + k * z.r, x + k * z.r + z.r, rfl, s1.trans s2, rfl, by omega, by omega, ?_⟩
        · omega
        · rw [← he, K96M.simN_row (by omega) (by omega) k s x g1 fun y hy hle' => ?_]
          by_cases e : y = x
          · subst e; exact absurd hy hout
          · exact g2 y hy (by omega)
    · refine ⟨_, rfl, ?_⟩
      rw [K96M.simN_end (by omega)] at he
      rw [he]
      exact q H1 s1
end
end K96

namespace K96
open PySem PySem.Spec PyProof.Rows L2
/-! K96D4: what a second tells, its askings, the closed forms. -/
section
variable {P : Program} {w : World} {K : PySem.W.Frag} {mg : Str → Option Value} {base : Heap}
structure LostOk (lost : List Int) : Prop where
  nn : ∀ x ∈ lost, 0 ≤ x
  asc : lost.Pairwise (· ≤ ·)
  few : lost.length ≤ 1000
def sp_told_second (K : PySem.W.Frag) : Sp := fun vs H Q _ => ∃ (a t l : Addr) (z : Tms) (rows : Rows) (lost : List Int) (m : Int), vs = [.ref a, .ref l, .int m] ∧ His H a t z rows ∧ IntsAt H l lost ∧ LostOk lost ∧ 0 ≤ m ∧
  ∀ (H' : Hp) p, Same H H' → K96M.InF rows (K96M.simN lost z.r z.q m 0 z.r) p → Q (if m < K96M.simN lost z.r z.q m 0 z.r + z.e then .str p.2 else .non) H'
-- slots [(0, 'history'), (1, 'lost'), (2, 'moment'), (3, 'success'), (4, 'version')]
theorem ok_told_second {f : Addr} {fd : FuncData} (F : Fun K "told_second" "told_second" s_told_second f fd) (T : Txt K mg) (h_need_history : Has P w K mg base "need_history" 5 ["history"] (sp_need_history K)) (h_need_schedule : Has P w K mg base "need_schedule" 4 ["moments"] (sp_need_schedule K)) (h_need_moment : Has P w K mg base "need_moment" 3 ["value"] (sp_need_moment K)) (h_last_success : Has P w K mg base "last_success" 3 ["history", "lost", "moment"] (sp_last_success K)) (h_version_at : Has P w K mg base "version_at" 1 ["history", "moment"] (sp_version_at K)) : FnOk P w K mg base CX0 6 f fd ["history", "lost", "moment"] (sp_told_second K) := by
  refine F.ok sc_told_second (fun vs H Q E h => ?_) (fun cdv A outer s H vs Q E hr h => ?_)
  · obtain ⟨a, t, l, z, rows, lost, m, rfl, hh, hlo, ok2, hm, q⟩ := h
    rfl
  · obtain ⟨a, t, l, z, rows, lost, m, rfl, hh, hlo, ok2, hm, q⟩ := h
    have hu := hu_of hr
    refine ⟨_, (pss_cons (ps_expr (pe_call h_need_history.G (hr.mono (by decide)) rfl h_need_history.m h_need_history.kp h_need_history.b .nil pass0 (pa_cons (pv 0) pa_nil)))
 (pss_cons (ps_expr (pe_call h_need_schedule.G (hr.mono (by decide)) rfl h_need_schedule.m h_need_schedule.kp h_need_schedule.b .nil pass0 (pa_cons (pv 1) pa_nil)))
 (pss_cons (ps_expr (pe_call h_need_moment.G (hr.mono (by decide)) rfl h_need_moment.m h_need_moment.kp h_need_moment.b .nil pass0 (pa_cons (pv 2) pa_nil)))
 (pss_cons (ps_set (i := 3) sc_told_second.nd rfl (Or.inl rfl) (pe_call h_last_success.G (hr.mono (by decide)) rfl h_last_success.m h_last_success.kp h_last_success.b .nil pass0 (pa_cons (pv 0) (pa_cons (pv 1) (pa_cons (pv 2) pa_nil)))))
 (pss_cons (ps_set (i := 4) sc_told_second.nd rfl (Or.inl rfl) (pe_call h_version_at.G (hr.mono (by decide)) rfl h_version_at.m h_version_at.kp h_version_at.b .nil pass0 (pa_cons (pv 0) (pa_cons (pv 3) pa_nil))))
 (pss_cons (ps_if (pt_cmpR op_lt (pv 2) (pe_op op_add (pv 3) (pe_ix ix_seq (pe_ix ix_seq (pv 4) pe_int (fun _ _ => rfl)) pe_int (fun _ _ => rfl))) (nomark _))
  (pss_one (ps_ret (pe_ix ix_seq (pv 4) pe_int (fun _ _ => rfl))))
  pss_nil)
 (pss_one (ps_ret pe_non)))))))), ?_⟩
    have ok := hh.ok
    have r1 := ok.r1
    have q1 := ok.q1
    obtain ⟨g1, g2⟩ := K96M.simN_range (lost := lost) (r := z.r) (q := z.q) (m := m) (by omega) (by omega) _ 0 z.r (Nat.le_refl _) hm (by omega)
    obtain ⟨p, hp⟩ := K96M.InF.ex hh.ro.ok g1
    refine ⟨_, rfl, a, t, z, rows, rfl, hh, fun H1 s1 => ?_⟩
    refine ⟨_, rfl, l, lost, rfl, s1 _ _ hlo, ok2.nn, ok2.asc, ok2.few, fun H2 s2 => ?_⟩
    refine ⟨_, rfl, m, rfl, hm, ?_⟩
    have s3 := s1.trans s2
    refine ⟨_, rfl, _, rfl, _, rfl, a, t, l, z, rows, lost, m, rfl, hh.same s3, s3 _ _ hlo, ok2.few, hm, fun H4 s4 => ?_⟩
    have s5 := s3.trans s4
    refine ⟨_, rfl, _, rfl, a, t, z, rows, _, rfl, hh.same s5, g1, fun b p hp hb => ?_⟩
    refine ⟨_, rfl, _, rfl, _, rfl, .inr (.inl ⟨_, _, _, _, rfl, rfl, .of hb, rfl, ?_⟩)⟩
    refine .inr (.inl ⟨_, _, _, _, rfl, rfl, .of (s5 _ _ hh.tm), rfl, ?_⟩)
    have fin := q H4 p s5 hp
    refine ⟨_, _, rfl, rfl, _, _, rfl, rfl, _, rfl, ifD (fun hlt => ?_) (fun hge => ?_)⟩
    · rw [if_pos hlt] at fin
      exact ⟨_, rfl, .inr (.inl ⟨_, _, _, _, rfl, rfl, .of hb, rfl, fin⟩)⟩
    · rw [if_neg hge] at fin
      exact fin
def sp_askings (K : PySem.W.Frag) : Sp := fun vs H Q _ => ∃ (a t l : Addr) (z : Tms) (rows : Rows) (lost : List Int) (m : Int), vs = [.ref a, .ref l, .int m] ∧ His H a t z rows ∧ IntsAt H l lost ∧ LostOk lost ∧ 0 ≤ m ∧ m ≤ 100000 ∧
  ∀ (H' : Hp) D, Same H H' → H D = none → IntsAt H' D (K96M.asks lost z.r z.q m z.r) → Q (.ref D) H'
-- slots [(0, 'history'), (1, 'lost'), (2, 'until'), (3, 'found'), (4, 'timers'), (5, 'asked')]
theorem ok_askings {f : Addr} {fd : FuncData} (F : Fun K "askings" "askings" s_askings f fd) (T : Txt K mg) (h_need_history : Has P w K mg base "need_history" 5 ["history"] (sp_need_history K)) (h_need_schedule : Has P w K mg base "need_schedule" 4 ["moments"] (sp_need_schedule K)) (h_need_moment : Has P w K mg base "need_moment" 3 ["value"] (sp_need_moment K)) (h_version_at : Has P w K mg base "version_at" 1 ["history", "moment"] (sp_version_at K)) : FnOk P w K mg base CX0 6 f fd ["history", "lost", "until"] (sp_askings K) := by
  refine F.ok sc_askings (fun vs H Q E h => ?_) (fun cdv A outer s H vs Q E hr h => ?_)
  · obtain ⟨a, t, l, z, rows, lost, m, rfl, hh, hlo, ok2, hm, hmx, q⟩ := h
    rfl
  · obtain ⟨a, t, l, z, rows, lost, m, rfl, hh, hlo, ok2, hm, hmx, q⟩ := h
    have hu := hu_of hr
    refine ⟨_, (pss_cons (ps_expr (pe_call h_need_history.G (hr.mono (by decide)) rfl h_need_history.m h_need_history.kp h_need_history.b .nil pass0 (pa_cons (pv 0) pa_nil)))
 (pss_cons (ps_expr (pe_call h_need_schedule.G (hr.mono (by decide)) rfl h_need_schedule.m h_need_schedule.kp h_need_schedule.b .nil pass0 (pa_cons (pv 1) pa_nil)))
 (pss_cons (ps_expr (pe_call h_need_moment.G (hr.mono (by decide)) rfl h_need_moment.m h_need_moment.kp h_need_moment.b .nil pass0 (pa_cons (pv 2) pa_nil)))
 (pss_cons (ps_set (i := 3) sc_askings.nd rfl (Or.inl rfl) (pe_lst pa_nil))
 (pss_cons (ps_set (i := 4) sc_askings.nd rfl (Or.inl rfl) (pe_ix ix_seq (pe_ix ix_seq (pv 0) pe_int (fun _ _ => rfl)) pe_int (fun _ _ => rfl)))
 (pss_cons (ps_set (i := 5) sc_askings.nd rfl (Or.inl rfl) (pe_ix ix_seq (pv 4) pe_int (fun _ _ => rfl)))
 (pss_cons (ps_while PassesOwn.never (pt_cmpR op_le (pv 5) (pv 2) (nomark _))
  (pss_cons (ps_expr (pe_bm PySem.F.plainAttrs_list PySem.F.slot_list_append PySem.F.type_list_append mt_append (pv 3) (pa_cons (pv 5) pa_nil)))
 (pss_one (ps_if (pt_cmpR op_in_seq (pv 5) (pv 1) (by rfl))
  (pss_one (ps_set (i := 5) sc_askings.nd rfl (Or.inl rfl) (pe_op op_add (pv 5) (pe_ix ix_seq (pv 4) pe_int (fun _ _ => rfl)))))
  (pss_cons (ps_set (i := 4) sc_askings.nd rfl (Or.inl rfl) (pe_ix ix_seq (pe_call h_version_at.G (hr.mono (by decide)) rfl h_version_at.m h_version_at.kp h_version_at.b .nil pass0 (pa_cons (pv 0) (pa_cons (pv 5) pa_nil))) pe_int (fun _ _ => rfl)))
 (pss_one (ps_set (i := 5) sc_askings.nd rfl (Or.inl rfl) (pe_op op_add (pv 5) (pe_ix ix_seq (pv 4) pe_int (fun _ _ => rfl))))))))))
 (pss_one (ps_ret (pv 3)))))))))), ?_⟩
    have ok := hh.ok
    have r1 := ok.r1
    have q1 := ok.q1
    refine ⟨_, rfl, a, t, z, rows, rfl, hh, fun H1 s1 => ?_⟩
    refine ⟨_, rfl, l, lost, rfl, s1 _ _ hlo, ok2.nn, ok2.asc, ok2.few, fun H2 s2 => ?_⟩
    refine ⟨_, rfl, m, rfl, hm, ?_⟩
    have s3 := s1.trans s2
    refine ⟨line_le (by show 0 ≤ 1000000; decide), fun D hD => ?_⟩
    have hD0 := s3.free hD
    have s4 := same_upd2 (o := .lst []) hD0 s3
    have h4 := hh.same s4
    obtain ⟨xs, hl, hxl, hrow⟩ := h4.st
    obtain ⟨v0, hv0⟩ := hh.ro.ok.z
    obtain ⟨b0, hx0, hb0⟩ := row_of hxl hrow hv0
    refine ⟨_, rfl, .inl ⟨_, _, _, _, rfl, rfl, .of hl, atN hx0 rfl, ?_⟩⟩
    refine .inr (.inl ⟨_, _, _, _, rfl, rfl, .of hb0, rfl, ?_⟩)
    refine ⟨_, rfl, .inr (.inl ⟨_, _, _, _, rfl, rfl, .of h4.tm, rfl, ?_⟩)⟩
    refine ⟨fun n σ H5 => ∃ x acc, σ = [some (.ref a), some (.ref l), some (.int m), some (.ref D), some (.ref t), some (.int x)] ∧ Same H H5 ∧ IntsAt H5 D acc ∧ n = (m + 1 - x).toNat ∧ (acc.length : Int) ≤ x ∧ K96M.asks lost z.r z.q m z.r = acc ++ K96M.asks lost z.r z.q m x,
      ⟨_, z.r, [], rfl, s4, upd_same, rfl, by show (0 : Int) ≤ z.r; omega, rfl⟩, fun n σ H5 hw => ?_⟩
    obtain ⟨x, acc, rfl, s5, hf, hn', hlen, he⟩ := hw
    have h5 := hh.same s5
    refine ⟨_, rfl, _, rfl, _, _, rfl, rfl, _, rfl, ifD (fun hle => ?_) (fun hgt => ?_)⟩
    · refine ⟨fun σ' H' => ∃ n', n' < n ∧ ∃ x acc, σ' = [some (.ref a), some (.ref l), some (.int m), some (.ref D), some (.ref t), some (.int x)] ∧ Same H H' ∧ IntsAt H' D acc ∧ n' = (m + 1 - x).toNat ∧ (acc.length : Int) ≤ x ∧ K96M.asks lost z.r z.q m z.r = acc ++ K96M.asks lost z.r z.q m x, fun _ _ h => h, ?_⟩
      refine ⟨_, rfl, .inl ⟨rfl, _, .of hf⟩, _, rfl, D, _, _, rfl, rfl, hf, ?_, ?_⟩
      · rw [List.length_map]
        have : sizeLine = 16777216 := sizeLine_eq
        omega
      have s6 : Same H (upd H5 D (.lst (acc.map V.int ++ [.int x]))) := same_upd2 hD0 s5
      have f6 : IntsAt (upd H5 D (.lst (acc.map V.int ++ [.int x]))) D (acc ++ [x]) := by
        rw [IntsAt, upd_same]; simp
      have h6 := hh.same s6
      generalize upd H5 D (.lst (acc.map V.int ++ [.int x])) = H6 at *
      refine ⟨_, rfl, _, rfl, l, _, rfl, .inl (.of (s6 _ _ hlo)), rfl, flat_ints _, ?_⟩
      show ∃ c, V.bl (inV (.int x) (lost.map V.int)) = V.bl c ∧ _
      rw [inV_ints]
      refine ⟨_, rfl, ifD (fun hin => ?_) (fun hout => ?_)⟩
      · refine ⟨_, rfl, _, rfl, .inr (.inl ⟨_, _, _, _, rfl, rfl, .of h6.tm, rfl, ?_⟩)⟩
        refine ⟨_, _, rfl, rfl, _, ?_, x + z.q, acc ++ [x], rfl, s6, f6, rfl, ?_, ?_⟩
        · omega
        · rw [List.length_append]; simp only [List.length_cons, List.length_nil]; omega
        · rw [he, K96M.asks_lost (by omega) (by omega) hle hin]; simp
      · refine ⟨_, rfl, _, rfl, a, t, z, rows, x, rfl, h6, by omega, fun b p _ hb => ?_⟩
        refine .inr (.inl ⟨_, _, _, _, rfl, rfl, .of hb, rfl, ?_⟩)
        refine ⟨_, rfl, _, rfl, .inr (.inl ⟨_, _, _, _, rfl, rfl, .of h6.tm, rfl, ?_⟩)⟩
        refine ⟨_, _, rfl, rfl, _, ?_, x + z.r, acc ++ [x], rfl, s6, f6, rfl, ?_, ?_⟩
        · omega
        · rw [List.length_append]; simp only [List.length_cons, List.length_nil]; omega
        · rw [he, K96M.asks_win (by omega) (by omega) hle hout]; simp
    · refine ⟨_, rfl, q H5 D s5 hD0 ?_⟩
      rw [he, K96M.asks_end (by omega), List.append_nil]
      exact hf
def sp_longest_lag (K : PySem.W.Frag) : Sp := fun vs H Q _ => ∃ (t : Addr) (z : Tms) (lo : Option Int), vs = [.ref t, losV lo] ∧ TmAt H t z ∧ z.Ok ∧ LosOk lo ∧ ∀ H', Same H H' → Q (.int (K96M.llag z.r z.q z.e lo)) H'
-- slots [(0, 'timers'), (1, 'losses'), (2, 'refresh'), (3, 'retry'), (4, 'expire')]
theorem ok_longest_lag {f : Addr} {fd : FuncData} (F : Fun K "longest_lag" "longest_lag" s_longest_lag f fd) (T : Txt K mg) (h_need_timers : Has P w K mg base "need_timers" 3 ["timers"] (sp_need_timers K)) (h_need_losses : Has P w K mg base "need_losses" 3 ["value"] (sp_need_losses K)) : FnOk P w K mg base CX0 4 f fd ["timers", "losses"] (sp_longest_lag K) := by
  refine F.ok sc_longest_lag (fun vs H Q E h => ?_) (fun cdv A outer s H vs Q E hr h => ?_)
  · obtain ⟨t, z, lo, rfl, ht, ok, hlo, q⟩ := h
    rfl
  · obtain ⟨t, z, lo, rfl, ht, ok, hlo, q⟩ := h
    have hu := hu_of hr
    refine ⟨_, (pss_cons (ps_expr (pe_call h_need_timers.G (hr.mono (by decide)) rfl h_need_timers.m h_need_timers.kp h_need_timers.b .nil pass0 (pa_cons (pv 0) pa_nil)))
 (pss_cons (ps_expr (pe_call h_need_losses.G (hr.mono (by decide)) rfl h_need_losses.m h_need_losses.kp h_need_losses.b .nil pass0 (pa_cons (pv 1) pa_nil)))
 (pss_cons (ps_asg (pv 0) (pg_tup rfl (pgs_cons (pg_name (i := 2) sc_longest_lag.nd rfl (Or.inl rfl)) (pgs_cons (pg_name (i := 3) sc_longest_lag.nd rfl (Or.inl rfl)) (pgs_cons (pg_name (i := 4) sc_longest_lag.nd rfl (Or.inl rfl)) pgs_nil)))))
 (pss_cons (ps_if (pt_cmp (pc_isN (pv 1)))
  (pss_one (ps_ret (pe_op op_sub (pv 4) pe_int)))
  pss_nil)
 (pss_one (ps_ret (pe_op op_sub (pe_callB (call_min2 rfl) (by rfl) T.min (by decide +kernel) (pa_cons (pe_op op_add (pv 2) (pe_op op_mul (pv 1) (pv 3))) (pa_cons (pv 4) pa_nil))) pe_int))))))), ?_⟩
    have r1 := ok.r1; have r2 := ok.r2; have q1 := ok.q1; have q2 := ok.q2
    refine ⟨_, rfl, t, z, rfl, ht, ok, fun H1 s1 => ?_⟩
    refine ⟨_, rfl, lo, rfl, hlo, ?_⟩
    refine ⟨_, rfl, t, _, rfl, .of (s1 _ _ ht), rfl, _, _, rfl, _, _, rfl, _, _, rfl, rfl, ?_⟩
    cases lo with
    | none => exact ⟨_, rfl, _, rfl, iteT ⟨_, rfl, _, _, rfl, rfl, q H1 s1⟩⟩
    | some x =>
      obtain ⟨x0, x1⟩ := hlo x rfl
      refine ⟨_, rfl, _, rfl, iteF ⟨_, rfl, _, rfl, _, rfl, _, _, rfl, rfl, .inl ⟨by omega, by omega⟩, _, _, rfl, rfl, _, rfl, _, _, rfl, _, _, rfl, rfl, ?_⟩⟩
      have fin := q H1 s1
      have e : (if z.e < z.r + x * z.q then z.e else z.r + x * z.q) - 1 = K96M.llag z.r z.q z.e (some x) := by
        simp only [K96M.llag]; split <;> omega
      show Q (.int ((if z.e < z.r + x * z.q then z.e else z.r + x * z.q) - 1)) H1
      rw [e]; exact fin
def silV (z : Tms) : Option Int → V
  | none => .non
  | some l => .int (max 0 (z.r + l * z.q - z.e))
def sp_longest_silence (K : PySem.W.Frag) : Sp := fun vs H Q _ => ∃ (t : Addr) (z : Tms) (lo : Option Int), vs = [.ref t, losV lo] ∧ TmAt H t z ∧ z.Ok ∧ LosOk lo ∧ ∀ H', Same H H' → Q (silV z lo) H'
-- slots [(0, 'timers'), (1, 'losses'), (2, 'refresh'), (3, 'retry'), (4, 'expire')]
theorem ok_longest_silence {f : Addr} {fd : FuncData} (F : Fun K "longest_silence" "longest_silence" s_longest_silence f fd) (T : Txt K mg) (h_need_timers : Has P w K mg base "need_timers" 3 ["timers"] (sp_need_timers K)) (h_need_losses : Has P w K mg base "need_losses" 3 ["value"] (sp_need_losses K)) : FnOk P w K mg base CX0 4 f fd ["timers", "losses"] (sp_longest_silence K) := by
  refine F.ok sc_longest_silence (fun vs H Q E h => ?_) (fun cdv A outer s H vs Q E hr h => ?_)
  · obtain ⟨t, z, lo, rfl, ht, ok, hlo, q⟩ := h
    rfl
  · obtain ⟨t, z, lo, rfl, ht, ok, hlo, q⟩ := h
    have hu := hu_of hr
    refine ⟨_, (pss_cons (ps_expr (pe_call h_need_timers.G (hr.mono (by decide)) rfl h_need_timers.m h_need_timers.kp h_need_timers.b .nil pass0 (pa_cons (pv 0) pa_nil)))
 (pss_cons (ps_expr (pe_call h_need_losses.G (hr.mono (by decide)) rfl h_need_losses.m h_need_losses.kp h_need_losses.b .nil pass0 (pa_cons (pv 1) pa_nil)))
 (pss_cons (ps_asg (pv 0) (pg_tup rfl (pgs_cons (pg_name (i := 2) sc_longest_silence.nd rfl (Or.inl rfl)) (pgs_cons (pg_name (i := 3) sc_longest_silence.nd rfl (Or.inl rfl)) (pgs_cons (pg_name (i := 4) sc_longest_silence.nd rfl (Or.inl rfl)) pgs_nil)))))
 (pss_cons (ps_if (pt_cmp (pc_isN (pv 1)))
  (pss_one (ps_ret pe_non))
  pss_nil)
 (pss_one (ps_ret (pe_callB (call_max2 rfl) (by rfl) T.max (by decide +kernel) (pa_cons pe_int (pa_cons (pe_op op_sub (pe_op op_add (pv 2) (pe_op op_mul (pv 1) (pv 3))) (pv 4)) pa_nil))))))))), ?_⟩
    have r1 := ok.r1; have r2 := ok.r2; have q1 := ok.q1; have q2 := ok.q2
    refine ⟨_, rfl, t, z, rfl, ht, ok, fun H1 s1 => ?_⟩
    refine ⟨_, rfl, lo, rfl, hlo, ?_⟩
    refine ⟨_, rfl, t, _, rfl, .of (s1 _ _ ht), rfl, _, _, rfl, _, _, rfl, _, _, rfl, rfl, ?_⟩
    cases lo with
    | none => exact ⟨_, rfl, _, rfl, iteT (q H1 s1)⟩
    | some x =>
      obtain ⟨x0, x1⟩ := hlo x rfl
      refine ⟨_, rfl, _, rfl, iteF ⟨_, rfl, _, rfl, _, rfl, _, _, rfl, rfl, .inl ⟨by omega, by omega⟩, _, _, rfl, rfl, _, rfl, _, _, rfl, rfl, _, _, rfl, ?_⟩⟩
      have fin := q H1 s1
      have e : V.int (if z.r + x * z.q - z.e > 0 then z.r + x * z.q - z.e else 0) = silV z (some x) := by
        simp only [silV]; congr 1; split <;> omega
      show Q (.int (if z.r + x * z.q - z.e > 0 then z.r + x * z.q - z.e else 0)) H1
      rw [e]; exact fin
def sp_longest_lag_noticed (K : PySem.W.Frag) : Sp := fun vs H Q _ => ∃ (t : Addr) (z : Tms) (lo : Option Int), vs = [.ref t, losV lo] ∧ TmAt H t z ∧ z.Ok ∧ LosOk lo ∧ ∀ H', Same H H' → Q (.int (K96M.nlag z.q z.e lo)) H'
-- slots [(0, 'timers'), (1, 'losses'), (2, 'expire')]
theorem ok_longest_lag_noticed {f : Addr} {fd : FuncData} (F : Fun K "longest_lag_noticed" "longest_lag_noticed" s_longest_lag_noticed f fd) (T : Txt K mg) (h_need_timers : Has P w K mg base "need_timers" 3 ["timers"] (sp_need_timers K)) (h_need_losses : Has P w K mg base "need_losses" 3 ["value"] (sp_need_losses K)) : FnOk P w K mg base CX0 4 f fd ["timers", "losses"] (sp_longest_lag_noticed K) := by
  refine F.ok sc_longest_lag_noticed (fun vs H Q E h => ?_) (fun cdv A outer s H vs Q E hr h => ?_)
  · obtain ⟨t, z, lo, rfl, ht, ok, hlo, q⟩ := h
    rfl
  · obtain ⟨t, z, lo, rfl, ht, ok, hlo, q⟩ := h
    have hu := hu_of hr
    refine ⟨_, (pss_cons (ps_expr (pe_call h_need_timers.G (hr.mono (by decide)) rfl h_need_timers.m h_need_timers.kp h_need_timers.b .nil pass0 (pa_cons (pv 0) pa_nil)))
 (pss_cons (ps_expr (pe_call h_need_losses.G (hr.mono (by decide)) rfl h_need_losses.m h_need_losses.kp h_need_losses.b .nil pass0 (pa_cons (pv 1) pa_nil)))
 (pss_cons (ps_set (i := 2) sc_longest_lag_noticed.nd rfl (Or.inl rfl) (pe_ix ix_seq (pv 0) pe_int (fun _ _ => rfl)))
 (pss_cons (ps_if (pt_cmp (pc_isN (pv 1)))
  (pss_one (ps_ret (pe_op op_sub (pv 2) pe_int)))
  pss_nil)
 (pss_one (ps_ret (pe_callB (call_min2 rfl) (by rfl) T.min (by decide +kernel) (pa_cons (pe_op op_mul (pv 1) (pe_ix ix_seq (pv 0) pe_int (fun _ _ => rfl))) (pa_cons (pe_op op_sub (pv 2) pe_int) pa_nil))))))))), ?_⟩
    have r1 := ok.r1; have r2 := ok.r2; have q1 := ok.q1; have q2 := ok.q2
    refine ⟨_, rfl, t, z, rfl, ht, ok, fun H1 s1 => ?_⟩
    refine ⟨_, rfl, lo, rfl, hlo, ?_⟩
    refine ⟨_, rfl, .inr (.inl ⟨_, _, _, _, rfl, rfl, .of (s1 _ _ ht), rfl, ?_⟩)⟩
    cases lo with
    | none => exact ⟨_, rfl, _, rfl, iteT ⟨_, rfl, _, _, rfl, rfl, q H1 s1⟩⟩
    | some x =>
      obtain ⟨x0, x1⟩ := hlo x rfl
      refine ⟨_, rfl, _, rfl, iteF ⟨_, rfl, _, rfl, .inr (.inl ⟨_, _, _, _, rfl, rfl, .of (s1 _ _ ht), rfl, ?_⟩)⟩⟩
      refine ⟨_, _, rfl, rfl, .inl ⟨by omega, by omega⟩, _, rfl, _, _, rfl, rfl, _, _, rfl, ?_⟩
      have fin := q H1 s1
      have e : (if z.e - 1 < x * z.q then z.e - 1 else x * z.q) = K96M.nlag z.q z.e (some x) := by
        simp only [K96M.nlag]; split <;> omega
      show Q (.int (if z.e - 1 < x * z.q then z.e - 1 else x * z.q)) H1
      rw [e]; exact fin
end
end K96

namespace K96
open PySem PySem.Spec PyProof.Rows L2
/-! K96H: heappush, heappop of ints: what they leave is a rearrangement. -/
namespace HQ
theorem entry_sift : entryFor table "_heapq.heapify.sift" = some Builtin.«_heapq.heapify.sift» := entryFor_of_fast (by kernel_rfl)
theorem plain_sift : plainId "_heapq.heapify.sift" = true := by decide +kernel
theorem entry_push : entryFor table "_heapq.heappush" = some Builtin.«_heapq.heappush» := entryFor_of_fast (by kernel_rfl)
theorem plain_push : plainId "_heapq.heappush" = true := by decide +kernel
theorem kind_push : builtinKind "_heapq.heappush" = none := by decide +kernel
theorem args_push (a b : Value) : argsOk "_heapq.heappush" ⟨[a, b], []⟩ := by unfold argsOk; kernel_rfl
theorem entry_pop : entryFor table "_heapq.heappop" = some Builtin.«_heapq.heappop» := entryFor_of_fast (by kernel_rfl)
theorem plain_pop : plainId "_heapq.heappop" = true := by decide +kernel
theorem kind_pop : builtinKind "_heapq.heappop" = none := by decide +kernel
theorem args_pop (a : Value) : argsOk "_heapq.heappop" ⟨[a], []⟩ := by unfold argsOk; kernel_rfl
theorem line_le1 {n : Nat} (h : n ≤ 1000000) : n ≤ sizeLine := by
  have : sizeLine = 16777216 := sizeLine_eq
  omega
theorem swap_list (its : List Value) (i j : Nat) (hi : i < its.length) (hj : j < its.length) :
    (its.toArray.setIfInBounds i its[j]).setIfInBounds j its[i] = ((its.set i its[j]).set j its[i]).toArray ∧ ((its.set i its[j]).set j its[i]).Perm its := by
  refine ⟨by simp, ?_⟩
  exact List.set_set_perm hi hj
theorem ints_perm {its its' : List Value} {ns : List Int} (h : IntsAre its ns) (p : its'.Perm its) : IntsAre its' (its'.map SrtO.iv) := SrtO.ints_iv fun v hv => SrtO.ints_mem h v (p.mem_iff.mp hv)
theorem upd_other {h : Heap} {a b : Addr} {f : Obj → Obj} (hb : b ≠ a) : (h.update a f).get? b = h.get? b := (Heap.SameBut.update ..).2 b hb
section
variable {prog : Program} {w : World} {A : Around} {R : Result → Shared → Prop} {a : Addr} {result : Value}
theorem sift : ∀ (m : Nat) (down : Bool) (pos : Nat) (s : Shared) (its : List Value) (ns : List Int) (n : Nat), (if down then 3 * its.length - pos else pos) < m →
    s.heap.get? a = some (seqObj "list" its.toArray n) → IntsAre its ns → pos < its.length → its.length ≤ 1000000 →
    (∀ (its' : List Value) (n' : Nat) (h' : Heap), its'.Perm its → h'.get? a = some (seqObj "list" its'.toArray n') → (∀ b o, b ≠ a → s.heap.get? b = some o → h'.get? b = some o) → R (.ok (.ret result)) { s with heap := h' }) →
    codeAny (model prog w) A (.builtin "_heapq.heapify.sift" ⟨[.ref a, .bool false, .bool down, .int (pos : Nat) 0, .int 0 0, result, .int (-1) 0], []⟩) R s := by
  intro m
  induction m with
  | zero => intro down pos s its ns n h; omega
  | succ m ih =>
    intro down pos s its ns n hm ho hI hpos hlen hR
    refine codeAny_builtin entry_sift ?_
    rw [Around.under_plainId plain_sift _]
    unfold Builtin.«_heapq.heapify.sift»
    obtain ⟨hp, g, d, tk, os⟩ := s
    have ho : hp.get? a = some (seqObj "list" its.toArray n) := ho
    wp_walk
    have hres : R (.ok (.ret result)) ⟨hp, g, d, tk, os⟩ := hR its n hp (.refl _) ho fun b o _ e => e
    have z0 : Int.toNat (0 : Int) = 0 := rfl
    have zp : ((pos : Nat) : Int).toNat = pos := Int.toNat_natCast pos
    simp only [z0, zp]
    cases down with
    | false =>
      refine wpAny_ite_false (by simp) ?_
      by_cases hp0 : pos > 0
      · refine wpAny_ite_true (decide_eq_true hp0) ?_
        have h1 : (pos - 1) / 2 < its.length := by omega
        have ex : its.toArray[pos]? = some its[pos] := by simp [hpos]
        have ep : its.toArray[(pos - 1) / 2]? = some its[(pos - 1) / 2] := by simp [h1]
        wp_walk
        rw [ex]
        refine wpAny_pure ?_
        wp_walk
        rw [ep]
        refine wpAny_pure ?_
        refine wpAny_ite_false rfl ?_
        refine wpAny_bind ?_
        wp_delta
        obtain ⟨i1, t1, e1⟩ := SrtO.ints_mem hI its[pos] (List.getElem_mem hpos)
        obtain ⟨i2, t2, e2⟩ := SrtO.ints_mem hI its[(pos - 1) / 2] (List.getElem_mem h1)
        rw [e1, e2]
        refine wpAny_bind (wpAny_holding (wpAny_bind (wpAny_lt_int ?_)))
        wp_walk
        by_cases c : i1 < i2
        · refine wpAny_ite_true (by simp only [decide_eq_true_eq]; exact c) ?_
          wp_walk
          rw [ep]
          refine wpAny_pure ?_
          wp_walk
          rw [ex]
          refine wpAny_pure ?_
          refine wpAny_updateSeq ho rfl ?_ (by simp only [List.size_toArray]; exact line_le1 hlen) (by simp only [Array.size_setIfInBounds, List.size_toArray]; exact Nat.le_succ_of_le (line_le1 hlen))
          wp_walk
          have hq := get?_update_seq ho (fun xs => (xs.setIfInBounds ((pos - 1) / 2) its[pos]).setIfInBounds pos its[(pos - 1) / 2])
          obtain ⟨g1, g2⟩ := swap_list its ((pos - 1) / 2) pos h1 hpos
          refine ⟨plainId_quiet plain_sift _, ih false ((pos - 1) / 2) _ ((its.set ((pos - 1) / 2) its[pos]).set pos its[(pos - 1) / 2]) _ _ ?_ (by rw [← g1]; exact hq) (ints_perm hI g2) ?_ ?_ fun its' n' h' p' e' k' => ?_⟩
          · simp only [Bool.false_eq_true, if_false] at hm ⊢; omega
          · simp only [List.length_set]; exact h1
          · simp only [List.length_set]; exact hlen
          · exact hR its' n' h' (p'.trans g2) e' fun b o hb e => k' b o hb (by rw [upd_other hb]; exact e)
        · refine wpAny_ite_false (by simp only [decide_eq_false_iff_not, decide_eq_true_eq]; exact c) ?_
          refine wpAny_ite_true (by decide) ?_
          exact wpAny_pure hres
      · refine wpAny_ite_false (decide_eq_false hp0) ?_
        refine wpAny_ite_true (by decide) ?_
        exact wpAny_pure hres
    | true =>
      refine wpAny_ite_true (by simp) ?_
      have up : codeAny (model prog w) A (.builtin "_heapq.heapify.sift" ⟨[.ref a, .bool false, .bool false, .int (pos : Nat) 0, .int 0 0, result, .int (-1) 0], []⟩) R ⟨hp, g, d, tk, os⟩ :=
        ih false pos _ its ns n (by simp only [Bool.false_eq_true, if_false, if_true] at hm ⊢; omega) ho hI hpos hlen hR
      have down1 : ∀ child, pos < child → (hc : child < its.length) → ∀ h', h' = hp.update a (Obj.mapSeq fun xs => (xs.setIfInBounds child its[pos]).setIfInBounds pos its[child]) →
          codeAny (model prog w) A (.builtin "_heapq.heapify.sift" ⟨[.ref a, .bool false, .bool true, .int (child : Nat) 0, .int 0 0, result, .int (-1) 0], []⟩) R ⟨h', g, d, tk, os⟩ := fun child hgt hc h' eh => by
        subst eh
        have hq := get?_update_seq ho (fun xs => (xs.setIfInBounds child its[pos]).setIfInBounds pos its[child])
        obtain ⟨g1, g2⟩ := swap_list its child pos hc hpos
        refine ih true child _ ((its.set child its[pos]).set pos its[child]) _ _ ?_ (by rw [← g1]; exact hq) (ints_perm hI g2) ?_ ?_ fun its' n' h' p' e' k' => ?_
        · simp only [List.length_set, if_true] at hm ⊢; omega
        · simp only [List.length_set]; exact hc
        · simp only [List.length_set]; exact hlen
        · exact hR its' n' h' (p'.trans g2) e' fun b o hb e => k' b o hb (by rw [upd_other hb]; exact e)
      have swap1 : ∀ child, pos < child → (hc : child < its.length) → ∀ (k : Sem PySem.Fin), k = again (.builtin "_heapq.heapify.sift" ⟨[.ref a, .bool false, .bool true, .int (child : Nat) 0, .int 0 0, result, .int (-1) 0], []⟩) →
          wpAny (model prog w) A.in1 (updateSeq a fun xs => (xs.setIfInBounds child its[pos]).setIfInBounds pos its[child]) (fun _ s' => wpAny (model prog w) A.in1 k (fun fin s' => match fin with
            | Fin.done f => R (Except.ok f) s'
            | Fin.again c' => c'.quiet = true ∧ codeAny (model prog w) A c' R s') (fun e s' => R (Except.error e) s') s') (fun e s' => R (Except.error e) s') ⟨hp, g, d, tk, os⟩ := fun child hgt hc k ek => by
        subst ek
        refine wpAny_updateSeq ho rfl ?_ (by simp only [List.size_toArray]; exact line_le1 hlen) (by simp only [Array.size_setIfInBounds, List.size_toArray]; exact Nat.le_succ_of_le (line_le1 hlen))
        exact wpAny_pure ⟨plainId_quiet plain_sift _, down1 child hgt hc _ rfl⟩
      have epos : its.toArray[pos]? = some its[pos] := by simp [hpos]
      by_cases hd : pos < its.toArray.size / 2
      · refine wpAny_ite_true (by simp only [decide_eq_true_eq]; exact hd) ?_
        rw [List.size_toArray] at hd
        have hc1 : 2 * pos + 1 < its.length := by omega
        have e1 : its.toArray[2 * pos + 1]? = some its[2 * pos + 1] := by simp [hc1]
        by_cases h2 : 2 * pos + 1 + 1 < its.toArray.size
        · refine wpAny_ite_true (by simp only [decide_eq_true_eq]; exact h2) ?_
          rw [List.size_toArray] at h2
          have e2 : its.toArray[2 * pos + 1 + 1]? = some its[2 * pos + 1 + 1] := by simp [h2]
          obtain ⟨i1, t1, f1⟩ := SrtO.ints_mem hI its[2 * pos + 1] (List.getElem_mem hc1)
          obtain ⟨i2, t2, f2⟩ := SrtO.ints_mem hI its[2 * pos + 1 + 1] (List.getElem_mem h2)
          wp_walk
          rw [e1]
          refine wpAny_pure ?_
          wp_walk
          rw [e2]
          refine wpAny_pure ?_
          refine wpAny_ite_false rfl ?_
          refine wpAny_bind ?_
          wp_delta
          rw [f1, f2]
          refine wpAny_bind (wpAny_holding (wpAny_bind (wpAny_lt_int ?_)))
          wp_walk
          by_cases c : i1 < i2
          · refine wpAny_ite_false (by simp [c]) ?_
            wp_walk
            rw [e1]
            refine wpAny_pure ?_
            wp_walk
            rw [epos]
            refine wpAny_pure ?_
            exact swap1 (2 * pos + 1) (by omega) hc1 _ rfl
          · refine wpAny_ite_true (by simp [c]) ?_
            wp_walk
            rw [e2]
            refine wpAny_pure ?_
            wp_walk
            rw [epos]
            refine wpAny_pure ?_
            exact swap1 (2 * pos + 1 + 1) (by omega) h2 _ rfl
        · refine wpAny_ite_false (by simp only [decide_eq_false_iff_not]; exact h2) ?_
          wp_walk
          rw [e1]
          refine wpAny_pure ?_
          wp_walk
          rw [epos]
          refine wpAny_pure ?_
          exact swap1 (2 * pos + 1) (by omega) hc1 _ rfl
      · refine wpAny_ite_false (by simp only [decide_eq_false_iff_not]; exact hd) ?_
        exact wpAny_pure ⟨plainId_quiet plain_sift _, up⟩
end
end HQ
end K96

namespace K96
open PySem PySem.Spec PyProof.Rows L2
/-! K96H2: the rules of heappush and heappop. -/
namespace HQ
section
variable {prog : Program} {w : World} {A : Around} {R : Result → Shared → Prop} {a : Addr} {result : Value}
/-- a built-in function that goes on as another one -/
theorem call_more {id : String} {b : Builtin} {args : List Value} {Q : Value → Shared → Prop} {E : Value → Shared → Prop} {s : Shared} (hk : builtinKind id = none) (hp : plainId id = true) (hb : entryFor table id = some b) (ha : argsOk id ⟨args, []⟩)
    (hc : wpAny (model prog w) A.in1 (b ⟨args, []⟩) (fun fin s' => match fin with
      | Fin.done f => (match (Except.ok f : Result) with | .ok (.ret v) => Q v s' | .ok _ => False | .error e => E e s')
      | Fin.again c' => c'.quiet = true ∧ codeAny (model prog w) A c' (fun r s' => match r with | .ok (.ret v) => Q v s' | .ok _ => False | .error e => E e s') s') E s) :
    wpAny (model prog w) A (call (.builtin id) args) Q E s := by
  refine wpAny_call (codeAny_call_builtin hp hb ?_)
  have fin := hc
  have hsg : ∀ o, Manifest.signature? id = o → wpAny (model prog w) A.in1 (checkBuiltinCall id ⟨args, []⟩) (fun _ s1 => s1 = s) (fun _ _ => False) s := fun o eo => by
    unfold argsOk at ha
    simp only [checkBuiltinCall, hk]
    cases o with
    | none => rw [eo]; exact wpAny_pure rfl
    | some sig =>
      rw [eo] at ha ⊢
      exact wpAny_of_eq ha rfl
  exact wpAny_mono (hsg _ rfl) (fun _ s1 e1 => by rw [e1]; exact fin) fun _ _ z => z.elim
end
section
variable {X : Cx}
theorem vals_of_perm {its : List Value} (h : ∀ v ∈ its, ∃ i t, v = Value.int i t) : Vals ((its.map SrtO.iv).map V.int) its := vals_of_ints (SrtO.ints_iv h)
def rPush : List V → Hp → VK → Prop := fun vs H Q => ∃ (l : Addr) (ns : List Int) (x : Int), vs = [.ref l, .int x] ∧ H l = some (.lst (ns.map V.int)) ∧ ns.length ≤ 100000 ∧ ∀ ns' : List Int, ns'.Perm (x :: ns) → Q .non (upd H l (.lst (ns'.map V.int)))
theorem cr_heappush : CallR X (.builtin "_heapq.heappush") rPush := by
  intro pins s σ H vs us Q I r h
  obtain ⟨l, ns, x, rfl, hH, hlen, q⟩ := h
  obtain ⟨u1, u2, rfl, ru1, ⟨t, rfl⟩⟩ := vals2 r
  cases ru1
  obtain ⟨z, its, n, rv, el, ho⟩ := I.lstM hH
  have hI := rv.ints
  have elen : its.length = ns.length := by rw [← el, List.length_map]
  refine call_more kind_push plain_push entry_push (args_push _ _) ?_
  unfold Builtin.«_heapq.heappush»
  obtain ⟨hp, g, d, tk, os⟩ := s
  have ho : hp.get? l = some { cls := .type "list", data := .seq its.toArray n } := ho
  have hsub : isSubtype (.type "list") (.type "list") = pure true := by rw [isSubtype_type]; kernel_rfl
  have hT : Shared.TypeIs ⟨hp, g, d, tk, os⟩ (.ref l) "list" := ⟨_, ho, rfl⟩
  have hz1 : its.toArray.size ≤ sizeLine := by rw [List.size_toArray]; exact line_le1 (by omega)
  have hz2 : (its.toArray.push (.int x t)).size ≤ sizeLine + 1 := by rw [Array.size_push, List.size_toArray]; exact Nat.succ_le_succ (line_le1 (by omega))
  have U : ∀ {Q : Unit → Shared → Prop}, Q () ⟨hp.update l (Obj.mapSeq (·.push (.int x t))), g, d, tk, os⟩ → wpAny (model X.prog X.w) X.A.in1 (updateSeq l (·.push (.int x t))) Q X.xe ⟨hp, g, d, tk, os⟩ := fun h => wpAny_updateSeq ho rfl h hz1 hz2
  have hq := get?_update_seq ho (·.push (.int x t))
  have ep : its.toArray.push (.int x t) = (its ++ [Value.int x t]).toArray := by simp
  rw [ep] at hq
  wp_walk using U
  have hI2 : IntsAre (its ++ [Value.int x t]) ((its ++ [Value.int x t]).map SrtO.iv) := SrtO.ints_iv fun v hv => by
    rcases List.mem_append.mp hv with hv | hv
    · exact SrtO.ints_mem hI v hv
    · exact ⟨x, t, List.mem_singleton.mp hv⟩
  refine ⟨plainId_quiet plain_sift _, ?_⟩
  have es : (its ++ [Value.int x t]).toArray.size - 1 = its.length := by simp
  rw [es]
  refine sift _ false its.length _ (its ++ [Value.int x t]) _ _ (Nat.lt_succ_self _) hq hI2 (by simp) (by simp; omega) fun its' n' h' p' e' k' => ?_
  have pm : (its'.map SrtO.iv).Perm (x :: ns) := by
    have h1 := p'.map SrtO.iv
    rw [List.map_append, SrtO.iv_ints hI] at h1
    refine h1.trans ?_
    exact List.perm_append_comm.trans (.refl _)
  have hv' : ∀ v ∈ its', ∃ i t, v = Value.int i t := fun v hv => SrtO.ints_mem hI2 v (p'.mem_iff.mp hv)
  have hl' : its'.length = ns.length + 1 := by rw [p'.length_eq]; simp [elen]
  refine ⟨.non, upd H l (.lst ((its'.map SrtO.iv).map V.int)), I.write (e := l) (t' := tk) (by rw [hH]; trivial) (.inl rfl) (fun b o hb e => k' b o hb (by rw [upd_other hb]; exact e)) ⟨_, e'⟩ ⟨by rw [List.length_map, List.length_map, hl']; exact line_le1 (by omega), its', n', vals_of_perm hv', e'⟩, rfl, q _ pm⟩
def rPop : List V → Hp → VK → Prop := fun vs H Q => ∃ (l : Addr) (ns : List Int), vs = [.ref l] ∧ H l = some (.lst (ns.map V.int)) ∧ ns ≠ [] ∧ ns.length ≤ 100000 ∧ ∀ (x : Int) (ns' : List Int), (x :: ns').Perm ns → Q (.int x) (upd H l (.lst (ns'.map V.int)))
theorem cr_heappop : CallR X (.builtin "_heapq.heappop") rPop := by
  intro pins s σ H vs us Q I r h
  obtain ⟨l, ns, rfl, hH, hne, hlen, q⟩ := h
  rw [Vals.ref1 r]
  obtain ⟨z, its, n, rv, el, ho⟩ := I.lstM hH
  have hI := rv.ints
  have elen : its.length = ns.length := by rw [← el, List.length_map]
  have hpos : 0 < its.length := by rw [elen]; exact List.length_pos_iff.mpr hne
  refine call_more kind_pop plain_pop entry_pop (args_pop _) ?_
  unfold Builtin.«_heapq.heappop»
  obtain ⟨pre, lst, rfl⟩ : ∃ pre lst, its = pre ++ [lst] := ⟨its.dropLast, its.getLast (List.ne_nil_of_length_pos hpos), (List.dropLast_concat_getLast _).symm⟩
  obtain ⟨hp, g, d, tk, os⟩ := s
  have ho : hp.get? l = some { cls := .type "list", data := .seq (pre ++ [lst]).toArray n } := ho
  have hsub : isSubtype (.type "list") (.type "list") = pure true := by rw [isSubtype_type]; kernel_rfl
  have hT : Shared.TypeIs ⟨hp, g, d, tk, os⟩ (.ref l) "list" := ⟨_, ho, rfl⟩
  have eb : (pre ++ [lst]).toArray.back? = some lst := by simp
  have epop : (pre ++ [lst]).toArray.pop = pre.toArray := by simp
  have hmem := SrtO.ints_mem hI
  obtain ⟨x0, t0, e0⟩ := hmem lst (by simp)
  have hlen2 : pre.length + 1 = ns.length := by rw [← elen]; simp
  have hz1 : (pre ++ [lst]).toArray.size ≤ sizeLine := by rw [List.size_toArray, elen]; exact line_le1 (by omega)
  have hz2 : ((pre ++ [lst]).toArray.pop).size ≤ sizeLine + 1 := by rw [epop, List.size_toArray]; exact Nat.le_succ_of_le (line_le1 (by omega))
  have hq := get?_update_seq ho (·.pop)
  rw [epop] at hq
  have U : ∀ {Q : Unit → Shared → Prop}, Q () ⟨hp.update l (Obj.mapSeq (·.pop)), g, d, tk, os⟩ → wpAny (model X.prog X.w) X.A.in1 (updateSeq l (·.pop)) Q X.xe ⟨hp, g, d, tk, os⟩ := fun h => wpAny_updateSeq ho rfl h hz1 hz2
  wp_walk
  rw [eb]
  wp_walk using U
  have ens : (pre ++ [lst]).map SrtO.iv = ns := SrtO.iv_ints hI
  by_cases h1 : pre = []
  · subst h1
    refine wpAny_ite_true rfl ?_
    refine wpAny_pure ?_
    rw [e0] at ens ⊢
    refine ⟨.int x0, upd H l (.lst (([] : List Int).map V.int)), I.write (e := l) (t' := tk) (by rw [hH]; trivial) (.inl rfl) (fun b o hb e => by rw [upd_other hb]; exact e) ⟨_, hq⟩ ⟨Nat.zero_le _, [], _, .nil, hq⟩, ⟨t0, rfl⟩, q x0 [] ?_⟩
    rw [← ens]
    exact .refl _
  · obtain ⟨fst, tl, rfl⟩ := List.exists_cons_of_ne_nil h1
    refine wpAny_ite_false (by simp) ?_
    have hz3 : (fst :: tl).toArray.size ≤ sizeLine := by rw [List.size_toArray]; exact line_le1 (by omega)
    have es : (fst :: tl).toArray.setIfInBounds 0 lst = (lst :: tl).toArray := by simp
    have hz4 : ((fst :: tl).toArray.setIfInBounds 0 lst).size ≤ sizeLine + 1 := by rw [Array.size_setIfInBounds]; exact Nat.le_succ_of_le hz3
    have hq2 := get?_update_seq hq (·.setIfInBounds 0 lst)
    rw [es] at hq2
    have U2 : ∀ {Q : Unit → Shared → Prop}, Q () ⟨(hp.update l (Obj.mapSeq (·.pop))).update l (Obj.mapSeq (·.setIfInBounds 0 lst)), g, d, tk, os⟩ → wpAny (model X.prog X.w) X.A.in1 (updateSeq l (·.setIfInBounds 0 lst)) Q X.xe ⟨hp.update l (Obj.mapSeq (·.pop)), g, d, tk, os⟩ := fun h => wpAny_updateSeq hq rfl h hz3 hz4
    wp_walk using U2
    have hI2 : IntsAre (lst :: tl) ((lst :: tl).map SrtO.iv) := SrtO.ints_iv fun v hv => hmem v (by
      rcases List.mem_cons.mp hv with hv | hv
      · simp [hv]
      · simp [hv])
    obtain ⟨x1, t1, e1⟩ := hmem fst (by simp)
    refine ⟨plainId_quiet plain_sift _, ?_⟩
    show codeAny _ _ (.builtin "_heapq.heapify.sift" ⟨[.ref l, .bool false, .bool true, .int ((0 : Nat) : Int) 0, .int 0 0, fst, .int (-1) 0], []⟩) _ _
    rw [List.length_cons] at hlen2
    refine sift _ true 0 _ (lst :: tl) _ _ (Nat.lt_succ_self _) hq2 hI2 (by simp) (by rw [List.length_cons]; omega) fun its' n' h' p' e' k' => ?_
    have pm : (x1 :: its'.map SrtO.iv).Perm ns := by
      rw [← ens]
      have h2 := (p'.map SrtO.iv).cons x1
      refine h2.trans ?_
      rw [e1]
      show (x1 :: SrtO.iv lst :: tl.map SrtO.iv).Perm (x1 :: (tl ++ [lst]).map SrtO.iv)
      rw [List.map_append]
      exact List.Perm.cons _ (List.perm_append_comm (l₁ := [SrtO.iv lst]))
    have hv' : ∀ v ∈ its', ∃ i t, v = Value.int i t := fun v hv => SrtO.ints_mem hI2 v (p'.mem_iff.mp hv)
    have hl' : its'.length ≤ 100000 := by rw [p'.length_eq, List.length_cons]; omega
    refine ⟨.int x1, upd H l (.lst ((its'.map SrtO.iv).map V.int)), I.write (e := l) (t' := tk) (by rw [hH]; trivial) (.inl rfl) (fun b o hb e => k' b o hb (by rw [upd_other hb, upd_other hb]; exact e)) ⟨_, e'⟩ ⟨by rw [List.length_map, List.length_map]; exact line_le1 (by omega), its', n', vals_of_perm hv', e'⟩, ⟨t1, e1⟩, q x1 _ pm⟩
end
end HQ
end K96

namespace K96
open PySem PySem.Spec PyProof.Rows L2
/-! K96S: sorted(d) of a dict with int keys, any number of them. -/
section
variable {X : Cx}
def rSortedDict : List V → Hp → VK → Prop := fun xs H Q => ∃ (a : Addr) (kvs : List (Key × V)) (ks : List Int), xs = [.ref a] ∧ H a = some (.dK kvs) ∧ kvs.map (·.1) = ks.map Sum.inl ∧ ks.length ≤ 100000 ∧
  ∀ (ys : List Int) (p : Addr), ys.Perm ks → ys.Pairwise (· ≤ ·) → H p = none → Q (.ref p) (upd H p (.lst (ys.map V.int)))
theorem cr_sortedDict (hcalm : X.calm = true) : CallR X (.builtin "sorted") rSortedDict := by
  intro pins s σ H xs us Q I r q
  obtain ⟨a, kvs, ks, rfl, hd, hks, hlen, q⟩ := q
  rw [Vals.ref1 r]
  obtain ⟨_, lo, vs, rel, dd⟩ := dk_rd I.hok (Rd.of hd)
  obtain ⟨ep, hat⟩ := dd.dictAt
  have keys : vs.map (·.1) = ks.map Sum.inl := rel.keys.symm.trans hks
  have lenv : vs.length = ks.length := by simpa using congrArg List.length keys
  have big : vs.length ≤ sizeLine := by
    have : sizeLine = 16777216 := sizeLine_eq
    omega
  refine Calls.call_function_entry PyProof.Rows.kind_sorted PyProof.Rows.plain_sorted
    PyProof.Rows.entry_sorted (PyProof.Rows.args_sorted1 _) ?_
  unfold Builtin.«sorted»
  refine wpAny_bind (wpAny_pure (a := ()) ?_)
  refine wpAny_bind (PySem.W.kdu_collect (A := X.A.in1)
    (PySem.W.kdl_dict (knd := mixKind X.prog X.w) (kvs := vs) (ep := ep) lo) (I.ok.hd hcalm) hat big fun h1 tk acc kept hacc => ?_)
  have lena : acc.toList.length = ks.length := by rw [Array.length_toList, hacc.1, lenv]
  have hI : IntsAre acc.toList ks := ints_each lena fun j v e => by
    rw [Array.getElem?_toList] at e
    obtain ⟨k, x, e1, e2⟩ := hacc.2 j v e
    have e3 : (vs.map (·.1))[j]? = some k := by simp [e1]
    rw [keys, List.getElem?_map] at e3
    cases e4 : ks[j]? with
    | none => simp [e4] at e3
    | some y =>
      rw [e4] at e3
      cases (Option.some.inj e3 : Sum.inl y = k)
      have e5 : keyIs (Sum.inl y) v = true := e2
      rcases keyIs_shape e5 with ⟨i, t, ek, ev⟩ | ⟨_, _, ek, _⟩
      · cases ek
        exact ⟨y, t, rfl, ev⟩
      · cases ek
  have I1 : Inv X pins σ H { s with heap := h1, toks := tk } := I.kept kept
  refine wpAny_bind (wpAny_newList ?_ (by rw [lena]; omega))
  have obj : (h1.push (seqObj "list" acc.toList.toArray 0)).get? h1.objs.size = some (seqObj "list" acc.toList.toArray 0) :=
    Heap.get?_push_size _ rfl
  show wpAny _ _ _ _ _ { s with toks := tk, heap := h1.push (seqObj "list" acc.toList.toArray 0) }
  refine wpAny_bind (wpAny_holding (wpAny_call_entry PyProof.Rows.slot_list_sort ⟨_, obj, rfl⟩
    PyProof.Rows.entry_list_sort (SrtO.list_sort_ord SrtO.swo_int obj (by rw [lena]; omega)
      (fun h2 => SrtO.ints_sortable hI h2) fun out g1 g2 => ⟨.none, rfl, ?_⟩) (PyProof.Rows.args_list_sort _)))
  obtain ⟨k1, k2, k3⟩ := SrtO.ints_out hI g1 g2
  obtain ⟨ep', at'⟩ := PyProof.Rows.sortedHeap_at (vs := acc.toList) (out := out.toArray) obj
  have small : ((out.map SrtO.iv).map V.int).length ≤ sizeLine := by
    rw [List.length_map, k2.length_eq]; omega
  refine wpAny_pure ⟨_, rfl, .ref h1.objs.size, upd H h1.objs.size (.lst ((out.map SrtO.iv).map V.int)),
    I1.laid (t' := tk) (fun b u e => ?_) (Nat.le_refl _) ⟨small, out, ep', vals_of_ints k1, at'⟩, rfl, q _ _ k2 k3 (I1.hok.fresh (Nat.le_refl _))⟩
  have hb : b < h1.objs.size := Heap.lt_size e
  rw [PyProof.Rows.sortedHeap_old (Nat.ne_of_lt hb) (Nat.lt_of_lt_of_le hb (by simp))]
  exact Heap.get?_push_of_some _ e
end
end K96

namespace K96
open PySem PySem.Spec PyProof.Rows L2
/-! K96D5: the successes that may be. -/
section
variable {P : Program} {w : World} {K : PySem.W.Frag} {mg : Str → Option Value} {base : Heap}
open HQ
theorem rangeInts (n : Nat) (f : Nat → Int) (D : Addr) (H : Hp) (h : H D = some (.lst (((List.range n).filter fun _ => true).map fun i => V.int (f i)))) : IntsAt H D ((List.range n).map f) := by
  have e : ((List.range n).filter fun _ => true) = List.range n := by simp
  rw [e] at h
  rw [IntsAt, h, List.map_map]
  rfl
/-- i turns by q: up to most -/
theorem turns_mem {b q most x : Int} {f : Nat → Int} (hf : ∀ i : Nat, f i = b + (0 + (i : Int)) * q) : x ∈ (List.range (most + 1).toNat).map f ↔ ∃ k, 0 ≤ k ∧ k ≤ most ∧ x = b + k * q := by
  rw [List.mem_map]
  refine ⟨fun ⟨i, hi, e⟩ => ?_, fun ⟨k, h0, h1, e⟩ => ?_⟩
  · have := List.mem_range.mp hi
    refine ⟨(i : Int), by omega, by omega, ?_⟩
    rw [← e, hf, Int.zero_add]
  · refine ⟨k.toNat, List.mem_range.mpr (by omega), ?_⟩
    rw [hf, Int.zero_add, Int.toNat_of_nonneg h0, e]
def sp_next_successes (K : PySem.W.Frag) : Sp := fun vs H Q _ => ∃ (t : Addr) (z : Tms) (s : Int) (lo : Option Int) (u : Int), vs = [.ref t, .int s, losV lo, .int u] ∧ TmAt H t z ∧ z.Ok ∧ LosOk lo ∧ 0 ≤ s ∧ u ≤ 100000 ∧
  ∀ (H' : Hp) D ns, Same H H' → H D = none → IntsAt H' D ns → (∀ x, x ∈ ns ↔ K96M.NextOf z.r z.q lo u s x) → Q (.ref D) H'
-- slots [(0, 'timers'), (1, 'success'), (2, 'losses'), (3, 'until'), (4, 'begin'), (5, 'most'), (6, 'turn')]
theorem ok_next_successes {f : Addr} {fd : FuncData} (F : Fun K "next_successes" "next_successes" s_next_successes f fd) (T : Txt K mg)  : FnOk P w K mg base CX0 1 f fd ["timers", "success", "losses", "until"] (sp_next_successes K) := by
  refine F.ok sc_next_successes (fun vs H Q E h => ?_) (fun cdv A outer s H vs Q E hr h => ?_)
  · obtain ⟨t, z, s, lo, u, rfl, ht, ok, hlo, hs, hu9, q⟩ := h
    rfl
  · obtain ⟨t, z, s, lo, u, rfl, ht, ok, hlo, hs, hu9, q⟩ := h
    have hu := hu_of hr
    refine ⟨_, (pss_cons (ps_set (i := 4) sc_next_successes.nd rfl (Or.inr rfl) (pe_op op_add (pv 1) (pe_ix ix_seq (pv 0) pe_int (fun _ _ => rfl))))
 (pss_cons (ps_if (pt_cmpR op_gt (pv 4) (pv 3) (nomark _))
  (pss_one (ps_ret (pe_lst pa_nil)))
  pss_nil)
 (pss_cons (ps_set (i := 5) sc_next_successes.nd rfl (Or.inl rfl) (pe_op op_fdiv (pe_op op_sub (pv 3) (pv 4)) (pe_ix ix_seq (pv 0) pe_int (fun _ _ => rfl))))
 (pss_cons (ps_if (pt_cmp (pc_notN (pv 2)))
  (pss_one (ps_set (i := 5) sc_next_successes.nd rfl (Or.inl rfl) (pe_callB (call_min2 rfl) (by rfl) T.min (by decide +kernel) (pa_cons (pv 5) (pa_cons (pv 2) pa_nil)))))
  pss_nil)
 (pss_one (ps_ret (pe_lc (own := [("turn", 6)]) (g := (gName 6)) (tt := tYes) (te := (tOp rAdd (tVar 4) (tOp rMul (tVar 6) (tOp (rIx K) (tVar 0) (tC (.int 1)))))) rfl sc_next_successes.nd (pi_range1 (by rfl) T.range (pa_cons (pe_op op_add (pv 5) pe_int) pa_nil)) (blkOk_by (N := ["timers", "success", "losses", "until", "begin", "most", "turn"]) (sc := defScope s_next_successes) (by decide +kernel)) (fun _ _ _ _ _ => (pg_name (i := 6) sc_next_successes.nd rfl (Or.inl rfl))) (fun _ _ _ _ _ => pts_nil) (fun _ _ _ _ _ => (pe_op op_add (pv 4) (pe_op op_mul (pv 6) (pe_ix ix_seq (pv 0) pe_int (fun _ _ => rfl)))))))))))), ?_⟩
    have r1 := ok.r1; have r2 := ok.r2; have q1 := ok.q1; have q2 := ok.q2
    refine ⟨_, rfl, _, rfl, .inr (.inl ⟨_, _, _, _, rfl, rfl, .of ht, rfl, ?_⟩)⟩
    refine ⟨_, _, rfl, rfl, _, rfl, _, rfl, _, _, rfl, rfl, _, rfl, ifD (fun hgt => ?_) (fun hle => ?_)⟩
    · refine ⟨Nat.zero_le _, fun D hD => q _ D [] (same_upd hD) hD upd_same fun x => ⟨(fun h => nomatch h), fun ⟨k, k0, _, e, l⟩ => ?_⟩⟩
      have : 0 ≤ k * z.q := Int.mul_nonneg k0 (by omega)
      omega
    have fin : ∀ most, 0 ≤ most → most ≤ 500000 → (∀ k, 0 ≤ k → (k ≤ most ↔ (∀ l, lo = some l → k ≤ l) ∧ s + z.r + k * z.q ≤ u)) → tRet (tLc (iRng1 (tCons (tOp rAdd (tVar 5) (tC (.int 1))) tNil)) (gName 6) tYes (tOp rAdd (tVar 4) (tOp rMul (tVar 6) (tOp (rIx K) (tVar 0) (tC (.int 1))))) [6])
        { nx := fun _ H' => Q .non H', rt := Q } [some (.ref t), some (.int s), some (losV lo), some (.int u), some (.int (s + z.r)), some (.int most), none] H := fun most m0 m9 hm => by
      refine ⟨_, rfl, _, _, rfl, rfl, most + 1, rfl, by omega, by omega, fun D hD => ?_⟩
      refine lc_range (LcP H D (List.range (most + 1).toNat) (fun _ => true) (fun i => V.int (s + z.r + (0 + (i : Int)) * z.q))) (lc_start hD) (fun i H1 hi p => ?_) (fun H1 p => ?_)
      · refine ⟨rfl, _, rfl, _, rfl, _, rfl, .inr (.inl ⟨_, _, _, _, rfl, rfl, .of (p.sm _ _ ht), rfl, ?_⟩)⟩
        exact ⟨_, _, rfl, rfl, .inr ⟨by omega, by omega⟩, _, _, rfl, rfl, lc_keep hD p (.refl _) (range_at hi) rfl rfl (by rw [List.length_range]; omega)⟩
      · have p3 := lc_end (l := List.range (most + 1).toNat) (by rw [List.length_range]; exact p)
        refine q H1 D _ p.sm hD (rangeInts _ _ D H1 p3) fun x => ?_
        rw [turns_mem (b := s + z.r) (q := z.q) fun i => rfl]
        refine ⟨fun ⟨k, k0, k1, e⟩ => ?_, fun ⟨k, k0, k1, e, l⟩ => ⟨k, k0, (hm k k0).mpr ⟨k1, by omega⟩, e⟩⟩
        have := (hm k k0).mp k1
        exact ⟨k, k0, this.1, e, by omega⟩
    have d0 : 0 ≤ (u - (s + z.r)) / z.q := Int.ediv_nonneg (by omega) (by omega)
    have d1 : (u - (s + z.r)) / z.q ≤ 100000 := Int.le_trans (Int.ediv_le_self _ (by omega)) (by omega)
    have d2 : ∀ k, k ≤ (u - (s + z.r)) / z.q ↔ s + z.r + k * z.q ≤ u := fun k => by
      rw [Int.le_ediv_iff_mul_le (by omega)]; omega
    refine ⟨_, rfl, _, rfl, _, _, rfl, rfl, _, rfl, .inr (.inl ⟨_, _, _, _, rfl, rfl, .of ht, rfl, ?_⟩)⟩
    refine ⟨_, _, rfl, rfl, ⟨by omega, by omega⟩, ?_⟩
    cases lo with
    | none =>
      refine ⟨_, rfl, _, rfl, iteF ?_⟩
      exact fin _ d0 (by omega) fun k k0 => (d2 k).trans ⟨fun h => ⟨(fun l e => nomatch e), h⟩, fun h => h.2⟩
    | some l =>
      obtain ⟨l0, l1⟩ := hlo l rfl
      refine ⟨_, rfl, _, rfl, iteT ⟨_, rfl, _, rfl, _, _, rfl, ?_⟩⟩
      refine fin (if l < (u - (s + z.r)) / z.q then l else (u - (s + z.r)) / z.q) (by split <;> omega) (by split <;> omega) fun k k0 => ?_
      have := d2 k
      refine ⟨fun h => ⟨fun l' e => ?_, ?_⟩, fun ⟨h1, h2⟩ => ?_⟩
      · cases e; split at h <;> omega
      · refine this.mp ?_
        split at h <;> omega
      · have h3 := h1 l rfl
        have h4 := this.mpr h2
        split <;> omega
def sp_last_told (K : PySem.W.Frag) : Sp := fun vs H Q _ => ∃ (t : Addr) (z : Tms) (s : Int) (lo : Option Int) (u : Int), vs = [.ref t, .int s, losV lo, .int u] ∧ TmAt H t z ∧ z.Ok ∧ LosOk lo ∧ Q (.int (K96M.endOf z.r z.q z.e lo u s)) H
-- slots [(0, 'timers'), (1, 'success'), (2, 'losses'), (3, 'until'), (4, 'end')]
theorem ok_last_told {f : Addr} {fd : FuncData} (F : Fun K "last_told" "last_told" s_last_told f fd) (T : Txt K mg)  : FnOk P w K mg base CX0 1 f fd ["timers", "success", "losses", "until"] (sp_last_told K) := by
  refine F.ok sc_last_told (fun vs H Q E h => ?_) (fun cdv A outer s H vs Q E hr h => ?_)
  · obtain ⟨t, z, s, lo, u, rfl, ht, ok, hlo, q⟩ := h
    rfl
  · obtain ⟨t, z, s, lo, u, rfl, ht, ok, hlo, q⟩ := h
    have hu := hu_of hr
    refine ⟨_, (pss_cons (ps_set (i := 4) sc_last_told.nd rfl (Or.inl rfl) (pe_callB (call_min2 rfl) (by rfl) T.min (by decide +kernel) (pa_cons (pe_op op_sub (pe_op op_add (pv 1) (pe_ix ix_seq (pv 0) pe_int (fun _ _ => rfl))) pe_int) (pa_cons (pv 3) pa_nil))))
 (pss_cons (ps_if (pt_cmp (pc_notN (pv 2)))
  (pss_one (ps_set (i := 4) sc_last_told.nd rfl (Or.inl rfl) (pe_callB (call_min2 rfl) (by rfl) T.min (by decide +kernel) (pa_cons (pv 4) (pa_cons (pe_op op_sub (pe_op op_add (pe_op op_add (pv 1) (pe_ix ix_seq (pv 0) pe_int (fun _ _ => rfl))) (pe_op op_mul (pv 2) (pe_ix ix_seq (pv 0) pe_int (fun _ _ => rfl)))) pe_int) pa_nil)))))
  pss_nil)
 (pss_one (ps_ret (pv 4))))), ?_⟩
    have r1 := ok.r1; have r2 := ok.r2; have q1 := ok.q1; have q2 := ok.q2
    refine ⟨_, rfl, _, rfl, .inr (.inl ⟨_, _, _, _, rfl, rfl, .of ht, rfl, ?_⟩)⟩
    refine ⟨_, _, rfl, rfl, _, _, rfl, rfl, _, rfl, _, _, rfl, ?_⟩
    cases lo with
    | none =>
      refine ⟨_, rfl, _, rfl, iteF ⟨_, rfl, ?_⟩⟩
      have e : (if u < s + z.e - 1 then u else s + z.e - 1) = K96M.endOf z.r z.q z.e none u s := by simp only [K96M.endOf]; split <;> omega
      show Q (.int (if u < s + z.e - 1 then u else s + z.e - 1)) H
      rw [e]; exact q
    | some l =>
      obtain ⟨l0, l1⟩ := hlo l rfl
      refine ⟨_, rfl, _, rfl, iteT ⟨_, rfl, _, rfl, _, rfl, .inr (.inl ⟨_, _, _, _, rfl, rfl, .of ht, rfl, ?_⟩)⟩⟩
      refine ⟨_, _, rfl, rfl, _, rfl, _, rfl, .inr (.inl ⟨_, _, _, _, rfl, rfl, .of ht, rfl, ?_⟩)⟩
      refine ⟨_, _, rfl, rfl, .inl ⟨by omega, by omega⟩, _, _, rfl, rfl, _, _, rfl, rfl, _, _, rfl, ?_⟩
      refine ⟨_, rfl, ?_⟩
      have e : (if s + z.r + l * z.q - 1 < (if u < s + z.e - 1 then u else s + z.e - 1) then s + z.r + l * z.q - 1 else (if u < s + z.e - 1 then u else s + z.e - 1)) = K96M.endOf z.r z.q z.e (some l) u s := by
        simp only [K96M.endOf]; split <;> split <;> omega
      show Q (.int (if s + z.r + l * z.q - 1 < (if u < s + z.e - 1 then u else s + z.e - 1) then s + z.r + l * z.q - 1 else (if u < s + z.e - 1 then u else s + z.e - 1))) H
      rw [e]; exact q
structure Roads (kvs : List (Key × V)) (ds : List Int) (r q : Int) (lo : Option Int) (u : Int) : Prop where
  ks : kvs.map (·.1) = ds.map Sum.inl
  nd : ds.Nodup
  reach : ∀ d ∈ ds, K96M.Reach r q lo u d
  zero : valV kvs (.inl 0) = some .non
  back : ∀ d ∈ ds, d ≠ 0 → ∃ s, valV kvs (.inl d) = some (.int s) ∧ K96M.Reach r q lo u s ∧ K96M.NextOf r q lo u s d
theorem Roads.has {kvs : List (Key × V)} {ds : List Int} {r q : Int} {lo : Option Int} {u x : Int} (R : Roads kvs ds r q lo u) : (valV kvs (.inl x)).isSome = decide (x ∈ ds) := by
  have hm : (Sum.inl x : Key) ∈ kvs.map (·.1) ↔ x ∈ ds := by
    rw [R.ks]
    refine ⟨fun h => ?_, fun h => List.mem_map.mpr ⟨x, h, rfl⟩⟩
    obtain ⟨y, hy, e⟩ := List.mem_map.mp h
    cases e; exact hy
  cases e : valV kvs (.inl x) with
  | none => 
    have : ¬ x ∈ ds := fun h => valV_not e (hm.mpr h)
    simp [this]
  | some v =>
    have := hm.mp (valV_in e)
    simp [this]
theorem Roads.put {kvs : List (Key × V)} {ds : List Int} {r q : Int} {lo : Option Int} {u x s : Int} (R : Roads kvs ds r q lo u) (hx : x ∉ ds) (hs : s ∈ ds) (n : K96M.NextOf r q lo u s x) : Roads (putK kvs (.inl x) (.int s)) (ds ++ [x]) r q lo u := by
  have hn : valV kvs (.inl x) = none := by
    have := R.has (x := x)
    rw [decide_eq_false hx] at this
    exact Option.not_isSome_iff_eq_none.mp (by rw [this]; exact Bool.false_ne_true)
  have h0 : (0 : Int) ∈ ds := by
    have := R.has (x := 0)
    rw [R.zero] at this
    exact of_decide_eq_true this.symm
  have hx0 : (0 : Int) ≠ x := fun e => hx (e ▸ h0)
  refine ⟨?_, ?_, fun d hd => ?_, ?_, fun d hd h => ?_⟩
  · rw [putK_new _ hn, List.map_append, R.ks, List.map_append]; rfl
  · refine List.nodup_append.mpr ⟨R.nd, by simp, fun a ha b hb e => ?_⟩
    have := List.mem_singleton.mp hb
    subst this; subst e
    exact hx ha
  · rcases List.mem_append.mp hd with hd | hd
    · exact R.reach d hd
    · have := List.mem_singleton.mp hd; subst this
      exact (R.reach s hs).next n
  · rw [valV_put, if_neg fun e => hx0 (Sum.inl.inj e)]
    exact R.zero
  · rcases List.mem_append.mp hd with hd | hd
    · obtain ⟨p, e1, e2, e3⟩ := R.back d hd h
      refine ⟨p, ?_, e2, e3⟩
      rw [valV_put, if_neg fun e => hx ((Sum.inl.inj e : d = x) ▸ hd)]
      exact e1
    · have := List.mem_singleton.mp hd; subst this
      exact ⟨s, by rw [valV_put, if_pos rfl], R.reach s hs, n⟩
theorem Roads.few {kvs : List (Key × V)} {ds : List Int} {r q : Int} {lo : Option Int} {u : Int} (R : Roads kvs ds r q lo u) (hr : 0 < r) (hq : 0 < q) (hu : 0 ≤ u) : (ds.length : Int) ≤ u + 1 := by
  have := K96M.few_of (u := (u + 1).toNat) R.nd fun x hx => by
    have := (R.reach x hx).range hr hq hu
    omega
  omega
theorem lt_line {n : Nat} (h : n ≤ 100000) : n < sizeLine := by
  have : sizeLine = 16777216 := sizeLine_eq
  omega
/-- the loop's word -/
structure RoadW (z : Tms) (lo : Option Int) (u : Int) (H : Hp) (D W : Addr) (H1 : Hp) (ds wt : List Int) : Prop where
  sm : Same H H1
  d : ∃ kvs, H1 D = some (.dK kvs) ∧ Roads kvs ds z.r z.q lo u
  w : IntsAt H1 W wt
  sub : ∀ x ∈ wt, x ∈ ds
def sp_success_roads (K : PySem.W.Frag) : Sp := fun vs H Q _ => ∃ (a t : Addr) (z : Tms) (rows : Rows) (lo : Option Int) (u : Int), vs = [.ref a, losV lo, .int u] ∧ His H a t z rows ∧ LosOk lo ∧ 0 ≤ u ∧ u ≤ 1000 ∧
  ∀ (H' : Hp) D kvs ds, Same H H' → H D = none → H' D = some (.dK kvs) → Roads kvs ds z.r z.q lo u → (∀ x, K96M.Reach z.r z.q lo u x → x ∈ ds) → Q (.ref D) H'
-- slots [(0, 'history'), (1, 'losses'), (2, 'until'), (3, 'roads'), (4, 'waiting'), (5, 'success'), (6, 'timers'), (7, 'moment')]
theorem ok_success_roads {f : Addr} {fd : FuncData} (F : Fun K "success_roads" "success_roads" s_success_roads f fd) (T : Txt K mg) (h_next_successes : Has P w K mg base "next_successes" 1 ["timers", "success", "losses", "until"] (sp_next_successes K)) (h_version_at : Has P w K mg base "version_at" 1 ["history", "moment"] (sp_version_at K)) : FnOk P w K mg base CX0 2 f fd ["history", "losses", "until"] (sp_success_roads K) := by
  refine F.ok sc_success_roads (fun vs H Q E h => ?_) (fun cdv A outer s H vs Q E hr h => ?_)
  · obtain ⟨a, t, z, rows, lo, u, rfl, hh, hlo, hu0, hu9, q⟩ := h
    rfl
  · obtain ⟨a, t, z, rows, lo, u, rfl, hh, hlo, hu0, hu9, q⟩ := h
    have hu := hu_of hr
    refine ⟨_, (pss_cons (ps_set (i := 3) sc_success_roads.nd rfl (Or.inl rfl) (pe_disp (pps_cons pe_int pe_non pps_nil) (by rfl) (by rfl) (fun z => by cases z) (by decide)))
 (pss_cons (ps_set (i := 4) sc_success_roads.nd rfl (Or.inl rfl) (pe_lst (pa_cons pe_int pa_nil)))
 (pss_cons (ps_while PassesOwn.never (pt_cmpR op_gt (pe_callB call_len_seq (by rfl) T.len (by decide +kernel) (pa_cons (pv 4) pa_nil)) pe_int (nomark _))
  (pss_cons (ps_set (i := 5) sc_success_roads.nd rfl (Or.inl rfl) (pe_callBfun cr_heappop rfl T.heappop (pa_cons (pv 4) pa_nil)))
 (pss_cons (ps_set (i := 6) sc_success_roads.nd rfl (Or.inl rfl) (pe_ix ix_seq (pe_call h_version_at.G (hr.mono (by decide)) rfl h_version_at.m h_version_at.kp h_version_at.b .nil pass0 (pa_cons (pv 0) (pa_cons (pv 5) pa_nil))) pe_int (fun _ _ => rfl)))
 (pss_one (ps_for PassesOwn.never rfl (pi_list (pe_call h_next_successes.G (hr.mono (by decide)) rfl h_next_successes.m h_next_successes.kp h_next_successes.b .nil pass0 (pa_cons (pv 6) (pa_cons (pv 5) (pa_cons (pv 1) (pa_cons (pv 2) pa_nil)))))) (pg_name (i := 7) sc_success_roads.nd rfl (Or.inl rfl))
  (pss_one (ps_if (pt_cmp (pc_dnotin hu (pv 7) (pv 3)))
  (pss_cons (ps_dput hu (pv 3) (pv 7) (pv 5) rfl)
 (pss_one (ps_expr (pe_callBfun cr_heappush rfl T.heappush (pa_cons (pv 4) (pa_cons (pv 7) pa_nil))))))
  pss_nil)))))))
 (pss_one (ps_ret (pv 3)))))), ?_⟩
    have r1 := hh.ok.r1; have r2 := hh.ok.r2; have q1 := hh.ok.q1; have q2 := hh.ok.q2
    intro D hD
    refine ⟨upd_same, [(Sum.inl 0, .non)], rfl, by show 1 ≤ 15; decide, ?_⟩
    rw [upd_upd]
    have s1 : Same H (upd H D (.dK (mergeK [] [((Sum.inl 0 : Key), V.non)]))) := same_upd hD
    have d1 : upd H D (.dK (mergeK [] [((Sum.inl 0 : Key), V.non)])) D = some (.dK [((Sum.inl 0 : Key), V.non)]) := upd_same
    generalize upd H D (.dK (mergeK [] [((Sum.inl 0 : Key), V.non)])) = H1 at *
    refine ⟨line_le (by show 1 ≤ 1000000; decide), fun W hW => ?_⟩
    have hW0 := s1.free hW
    have nDW : D ≠ W := ne_of_none d1 hW
    have s2 : Same H (upd H1 W (.lst [.int 0])) := same_upd2 hW0 s1
    have R0 : Roads [((Sum.inl 0 : Key), V.non)] [0] z.r z.q lo u := ⟨rfl, by simp, fun d hd => by have := List.mem_singleton.mp hd; subst this; exact .zero, rfl, fun d hd h => absurd (List.mem_singleton.mp hd) h⟩
    refine ⟨fun n σ H2 => ∃ ds wt y5 y6 y7, σ = [some (.ref a), some (losV lo), some (.int u), some (.ref D), some (.ref W), y5, y6, y7] ∧ RoadW z lo u H D W H2 ds wt ∧ (∀ d ∈ ds, d ∉ wt → ∀ x, K96M.NextOf z.r z.q lo u d x → x ∈ ds) ∧ n = 2 * (u + 1 - ds.length).toNat + wt.length ∧ n ≤ 2001,
      ⟨_, [0], [0], none, none, none, rfl, ⟨s2, ⟨_, by rw [upd_ne nDW]; exact d1, R0⟩, upd_same, fun x h => h⟩, fun d hd hn => absurd hd hn, rfl, by simp only [List.length_cons, List.length_nil]; omega⟩, fun n σ H2 hw => ?_⟩
    obtain ⟨ds, wt, y5, y6, y7, rfl, ⟨sm, ⟨kvs, hd, R⟩, hwt, sub⟩, clo, hn, hn9⟩ := hw
    have fewds := R.few (by omega) (by omega) hu0
    refine ⟨_, rfl, W, _, rfl, .inl (.of hwt), _, _, rfl, rfl, _, rfl, ifD (fun hlt => ?_) (fun hge => ?_)⟩
    · rw [List.length_map] at hlt
      have hwl : wt.length ≤ 100000 := by omega
      refine ⟨fun σ' H' => ∃ n', n' < n ∧ ∃ ds wt y5 y6 y7, σ' = [some (.ref a), some (losV lo), some (.int u), some (.ref D), some (.ref W), y5, y6, y7] ∧ RoadW z lo u H D W H' ds wt ∧ (∀ d ∈ ds, d ∉ wt → ∀ x, K96M.NextOf z.r z.q lo u d x → x ∈ ds) ∧ n' = 2 * (u + 1 - ds.length).toNat + wt.length ∧ n' ≤ 2001, fun _ _ h => h, ?_⟩
      refine ⟨_, rfl, W, wt, rfl, hwt, List.ne_nil_of_length_pos (by omega), hwl, fun s wt1 pm => ?_⟩
      have hsw : s ∈ wt := pm.mem_iff.mp List.mem_cons_self
      have hsd := sub s hsw
      have hs0 := (R.reach s hsd).range (by omega) (by omega) hu0
      have lw1 : wt1.length + 1 = wt.length := by rw [← pm.length_eq]; rfl
      have s3 : Same H (upd H2 W (.lst (wt1.map V.int))) := same_upd2 hW0 sm
      have d3 : upd H2 W (.lst (wt1.map V.int)) D = some (.dK kvs) := by rw [upd_ne nDW]; exact hd
      have w3 : IntsAt (upd H2 W (.lst (wt1.map V.int))) W wt1 := upd_same
      generalize upd H2 W (.lst (wt1.map V.int)) = H3 at *
      have hh3 := hh.same s3
      refine ⟨_, rfl, _, rfl, a, t, z, rows, s, rfl, hh3, hs0.1, fun b p _ hb => .inr (.inl ⟨_, _, _, _, rfl, rfl, .of hb, rfl, ?_⟩)⟩
      refine ⟨_, rfl, _, rfl, _, rfl, _, rfl, t, z, s, lo, u, rfl, hh3.tm, hh.ok, hlo, hs0.1, by omega, fun H4 E ns s4 hE hns hmem => ?_⟩
      have nDE : D ≠ E := ne_of_none d3 hE
      have nWE : W ≠ E := ne_of_none w3 hE
      refine ⟨E, rfl, ⟨_, .of hns⟩, for_list (K := K) (a := E) (xs := ns.map V.int) (fun i σ H5 => ∃ ds wt y7, σ = [some (.ref a), some (losV lo), some (.int u), some (.ref D), some (.ref W), some (.int s), some (.ref t), y7] ∧ RoadW z lo u H D W H5 ds wt ∧ IntsAt H5 E ns ∧ s ∈ ds ∧
        (∀ d ∈ ds, d ≠ s → d ∉ wt → ∀ x, K96M.NextOf z.r z.q lo u d x → x ∈ ds) ∧ (∀ x ∈ ns.take i, x ∈ ds) ∧ 2 * (u + 1 - ds.length).toNat + wt.length < n)
        ⟨ds, wt1, _, rfl, ⟨s3.trans s4, ⟨kvs, s4 _ _ d3, R⟩, s4 _ _ w3, fun x hx => sub x (pm.mem_iff.mp (List.mem_cons_of_mem _ hx))⟩, hns, hsd, fun d hd2 hne hnw => clo d hd2 fun h => hnw ?_, (fun x hx => nomatch hx), by omega⟩
        (fun i σ H5 _ w => by obtain ⟨_, _, _, _, _, h, _⟩ := w; exact .of h) (fun i x σ H5 hx hw => ?_) (fun σ H5 hw => ?_)⟩
      · rcases List.mem_cons.mp (pm.mem_iff.mpr h) with e | e
        · exact absurd e hne
        · exact e
      · obtain ⟨m, hm, rfl⟩ := map_at hx
        obtain ⟨ds, wt, y7, rfl, ⟨sm5, ⟨kv5, hd5, R5⟩, hw5, sub5⟩, hE5, hs5, clo5, tk5, hn5⟩ := hw
        have few5 := R5.few (by omega) (by omega) hu0
        have nx : K96M.NextOf z.r z.q lo u s m := (hmem m).mp (List.mem_of_getElem? hm)
        refine ⟨_, rfl, _, rfl, D, _, rfl, DGet.k (k := Sum.inl m) hd5, ?_⟩
        rw [R5.has]
        refine ⟨_, rfl, ifN (fun hout => ?_) (fun hin => ?_)⟩
        · have kl : kv5.length = ds.length := by
            have := congrArg List.length R5.ks
            simpa using this
          refine ⟨_, rfl, _, rfl, _, rfl, D, _, rfl, DPut.k (k := Sum.inl m) hd5 (lt_line (by omega)), ?_⟩
          have R6 := R5.put hout hs5 nx
          have s6 : Same H (upd H5 D (.dK (putK kv5 (Sum.inl m) (.int s)))) := same_upd2 hD sm5
          have w6 : IntsAt (upd H5 D (.dK (putK kv5 (Sum.inl m) (.int s)))) W wt := by rw [IntsAt, upd_ne nDW.symm]; exact hw5
          have e6 : IntsAt (upd H5 D (.dK (putK kv5 (Sum.inl m) (.int s)))) E ns := by rw [IntsAt, upd_ne nDE.symm]; exact hE5
          have d6 : upd H5 D (.dK (putK kv5 (Sum.inl m) (.int s))) D = some (.dK (putK kv5 (Sum.inl m) (.int s))) := upd_same
          generalize upd H5 D (.dK (putK kv5 (Sum.inl m) (.int s))) = H6 at *
          refine ⟨_, rfl, _, rfl, W, wt, m, rfl, w6, by omega, fun wt2 pm2 => ?_⟩
          have few6 := R6.few (by omega) (by omega) hu0
          rw [List.length_append, List.length_singleton] at few6
          have l2 : wt2.length = wt.length + 1 := by rw [pm2.length_eq]; rfl
          refine ⟨ds ++ [m], wt2, _, rfl, ⟨same_upd2 hW0 s6, ⟨_, by rw [upd_ne nDW]; exact d6, R6⟩, upd_same, fun x hx => ?_⟩, by rw [IntsAt, upd_ne nWE.symm]; exact e6, List.mem_append_left _ hs5, fun d hd2 hne hnw x hx => ?_, fun x hx => ?_, ?_⟩
          · rcases List.mem_cons.mp (pm2.mem_iff.mp hx) with e | e
            · subst e; exact List.mem_append_right _ (List.mem_singleton.mpr rfl)
            · exact List.mem_append_left _ (sub5 x e)
          · have hdm : d ≠ m := fun e => hnw (pm2.mem_iff.mpr (e ▸ List.mem_cons_self))
            have hd3 : d ∈ ds := by
              rcases List.mem_append.mp hd2 with h | h
              · exact h
              · exact absurd (List.mem_singleton.mp h) hdm
            exact List.mem_append_left _ (clo5 d hd3 hne (fun h => hnw (pm2.mem_iff.mpr (List.mem_cons_of_mem _ h))) x hx)
          · rw [take_snoc hm] at hx
            rcases List.mem_append.mp hx with hx | hx
            · exact List.mem_append_left _ (tk5 x hx)
            · exact List.mem_append_right _ hx
          · rw [List.length_append, List.length_singleton, l2]
            omega
        · refine ⟨ds, wt, _, rfl, ⟨sm5, ⟨kv5, hd5, R5⟩, hw5, sub5⟩, hE5, hs5, clo5, fun x hx => ?_, hn5⟩
          rw [take_snoc hm] at hx
          rcases List.mem_append.mp hx with hx | hx
          · exact tk5 x hx
          · have := List.mem_singleton.mp hx; subst this; exact hin
      · obtain ⟨ds, wt, y7, rfl, W5, hE5, hs5, clo5, tk5, hn5⟩ := hw
        rw [List.length_map, List.take_length] at tk5
        refine ⟨_, hn5, ds, wt, _, _, _, rfl, W5, fun d hd2 hnw x hx => ?_, rfl, by omega⟩
        by_cases e : d = s
        · subst e
          exact tk5 x ((hmem x).mpr hx)
        · exact clo5 d hd2 e hnw x hx
    · rw [List.length_map] at hge
      have e : wt = [] := List.eq_nil_of_length_eq_zero (by omega)
      subst e
      refine ⟨_, rfl, q H2 D kvs ds sm hD hd R fun x hx => ?_⟩
      refine hx.sub ?_ fun s hs y hy => clo s hs (by simp) y hy
      have := R.has (x := 0)
      rw [R.zero] at this
      exact of_decide_eq_true this.symm
end
end K96

namespace K96
open PySem PySem.Spec PyProof.Rows L2
/-! K96D6: the moments of success, the greatest lag, a plan. -/
section
variable {P : Program} {w : World} {K : PySem.W.Frag} {mg : Str → Option Value} {base : Heap}
open HQ
def sp_success_moments (K : PySem.W.Frag) : Sp := fun vs H Q _ => ∃ (a t : Addr) (z : Tms) (rows : Rows) (lo : Option Int) (u : Int), vs = [.ref a, losV lo, .int u] ∧ His H a t z rows ∧ LosOk lo ∧ 0 ≤ u ∧ u ≤ 1000 ∧
  ∀ (H' : Hp) D ns, Same H H' → H D = none → IntsAt H' D ns → ns.Pairwise (· ≤ ·) → ns.length ≤ 10000 → (∀ x, x ∈ ns ↔ K96M.Reach z.r z.q lo u x) → Q (.ref D) H'
-- slots [(0, 'history'), (1, 'losses'), (2, 'until')]
theorem ok_success_moments {f : Addr} {fd : FuncData} (F : Fun K "success_moments" "success_moments" s_success_moments f fd) (T : Txt K mg) (h_need_history : Has P w K mg base "need_history" 5 ["history"] (sp_need_history K)) (h_need_losses : Has P w K mg base "need_losses" 3 ["value"] (sp_need_losses K)) (h_need_moment : Has P w K mg base "need_moment" 3 ["value"] (sp_need_moment K)) (h_success_roads : Has P w K mg base "success_roads" 2 ["history", "losses", "until"] (sp_success_roads K)) : FnOk P w K mg base CX0 6 f fd ["history", "losses", "until"] (sp_success_moments K) := by
  refine F.ok sc_success_moments (fun vs H Q E h => ?_) (fun cdv A outer s H vs Q E hr h => ?_)
  · obtain ⟨a, t, z, rows, lo, u, rfl, hh, hlo, hu0, hu9, q⟩ := h
    rfl
  · obtain ⟨a, t, z, rows, lo, u, rfl, hh, hlo, hu0, hu9, q⟩ := h
    have hu := hu_of hr
    refine ⟨_, (pss_cons (ps_expr (pe_call h_need_history.G (hr.mono (by decide)) rfl h_need_history.m h_need_history.kp h_need_history.b .nil pass0 (pa_cons (pv 0) pa_nil)))
 (pss_cons (ps_expr (pe_call h_need_losses.G (hr.mono (by decide)) rfl h_need_losses.m h_need_losses.kp h_need_losses.b .nil pass0 (pa_cons (pv 1) pa_nil)))
 (pss_cons (ps_expr (pe_call h_need_moment.G (hr.mono (by decide)) rfl h_need_moment.m h_need_moment.kp h_need_moment.b .nil pass0 (pa_cons (pv 2) pa_nil)))
 (pss_one (ps_ret (pe_callB (cr_sortedDict rfl) (by rfl) T.sorted (by decide +kernel) (pa_cons (pe_call h_success_roads.G (hr.mono (by decide)) rfl h_success_roads.m h_success_roads.kp h_success_roads.b .nil pass0 (pa_cons (pv 0) (pa_cons (pv 1) (pa_cons (pv 2) pa_nil)))) pa_nil))))))), ?_⟩
    have r1 := hh.ok.r1; have q1 := hh.ok.q1
    refine ⟨_, rfl, a, t, z, rows, rfl, hh, fun H1 s1 => ?_⟩
    refine ⟨_, rfl, lo, rfl, hlo, ?_⟩
    refine ⟨_, rfl, u, rfl, hu0, ?_⟩
    refine ⟨_, rfl, _, rfl, _, rfl, a, t, z, rows, lo, u, rfl, hh.same s1, hlo, hu0, hu9, fun H2 D kvs ds s2 hD hd R all => ?_⟩
    have few := R.few (by omega) (by omega) hu0
    refine ⟨D, kvs, ds, rfl, hd, R.ks, by omega, fun ys E pm rise hE => ?_⟩
    refine q _ E ys (same_upd2 ((s1.trans s2).free hE) (s1.trans s2)) ((s1.trans s2).free hE) upd_same rise (by rw [pm.length_eq]; omega) fun x => ?_
    rw [pm.mem_iff]
    exact ⟨R.reach x, all x⟩
def sp_lost_between (K : PySem.W.Frag) : Sp := fun vs H Q _ => ∃ (t : Addr) (z : Tms) (s en : Int), vs = [.ref t, .int s, .int en] ∧ TmAt H t z ∧ z.Ok ∧ 0 ≤ s ∧ en ≤ 100000 ∧
  ∀ (H' : Hp) D ns, Same H H' → H D = none → IntsAt H' D ns → K96M.Between z.r z.q s en ns → Q (.ref D) H'
theorem turns_asc {b q : Int} (hq : 0 < q) {f : Nat → Int} (hf : ∀ i : Nat, f i = b + (0 + (i : Int)) * q) (n : Nat) : ((List.range n).map f).Pairwise (· < ·) := by
  rw [List.pairwise_map]
  refine List.pairwise_lt_range.imp fun {i j} h => ?_
  rw [hf, hf]
  have : (0 + (i : Int)) * q < (0 + (j : Int)) * q := Int.mul_lt_mul_of_pos_right (by omega) hq
  omega
-- slots [(0, 'timers'), (1, 'success'), (2, 'end'), (3, 'begin'), (4, 'turn')]
theorem ok_lost_between {f : Addr} {fd : FuncData} (F : Fun K "lost_between" "lost_between" s_lost_between f fd) (T : Txt K mg)  : FnOk P w K mg base CX0 1 f fd ["timers", "success", "end"] (sp_lost_between K) := by
  refine F.ok sc_lost_between (fun vs H Q E h => ?_) (fun cdv A outer s H vs Q E hr h => ?_)
  · obtain ⟨t, z, s, en, rfl, ht, ok, hs, he9, q⟩ := h
    rfl
  · obtain ⟨t, z, s, en, rfl, ht, ok, hs, he9, q⟩ := h
    have hu := hu_of hr
    refine ⟨_, (pss_cons (ps_set (i := 3) sc_lost_between.nd rfl (Or.inr rfl) (pe_op op_add (pv 1) (pe_ix ix_seq (pv 0) pe_int (fun _ _ => rfl))))
 (pss_cons (ps_if (pt_cmpR op_ge (pv 3) (pv 2) (nomark _))
  (pss_one (ps_ret (pe_lst pa_nil)))
  pss_nil)
 (pss_one (ps_ret (pe_lc (own := [("turn", 4)]) (g := (gName 4)) (tt := tYes) (te := (tOp rAdd (tVar 3) (tOp rMul (tVar 4) (tOp (rIx K) (tVar 0) (tC (.int 1)))))) rfl sc_lost_between.nd (pi_range1 (by rfl) T.range (pa_cons (pe_op op_add (pe_op op_fdiv (pe_op op_sub (pe_op op_sub (pv 2) pe_int) (pv 3)) (pe_ix ix_seq (pv 0) pe_int (fun _ _ => rfl))) pe_int) pa_nil)) (blkOk_by (N := ["timers", "success", "end", "begin", "turn"]) (sc := defScope s_lost_between) (by decide +kernel)) (fun _ _ _ _ _ => (pg_name (i := 4) sc_lost_between.nd rfl (Or.inl rfl))) (fun _ _ _ _ _ => pts_nil) (fun _ _ _ _ _ => (pe_op op_add (pv 3) (pe_op op_mul (pv 4) (pe_ix ix_seq (pv 0) pe_int (fun _ _ => rfl)))))))))), ?_⟩
    have r1 := ok.r1; have r2 := ok.r2; have q1 := ok.q1; have q2 := ok.q2
    refine ⟨_, rfl, _, rfl, .inr (.inl ⟨_, _, _, _, rfl, rfl, .of ht, rfl, ?_⟩)⟩
    refine ⟨_, _, rfl, rfl, _, rfl, _, rfl, _, _, rfl, rfl, _, rfl, ifD (fun hge => ?_) (fun hlt => ?_)⟩
    · refine ⟨Nat.zero_le _, fun D hD => q _ D [] (same_upd hD) hD upd_same ⟨fun x => ⟨(fun h => nomatch h), fun ⟨k, k0, e, l⟩ => ?_⟩, List.Pairwise.nil⟩⟩
      have : 0 ≤ k * z.q := Int.mul_nonneg k0 (by omega)
      omega
    have d0 : 0 ≤ (en - 1 - (s + z.r)) / z.q := Int.ediv_nonneg (by omega) (by omega)
    have d1 : (en - 1 - (s + z.r)) / z.q ≤ 100000 := Int.le_trans (Int.ediv_le_self _ (by omega)) (by omega)
    refine ⟨_, rfl, _, _, rfl, rfl, _, rfl, _, _, rfl, rfl, _, rfl, .inr (.inl ⟨_, _, _, _, rfl, rfl, .of ht, rfl, ?_⟩)⟩
    refine ⟨_, _, rfl, rfl, ⟨by omega, by omega⟩, _, _, rfl, rfl, _, rfl, by omega, by omega, fun D hD => ?_⟩
    have d2 : ∀ k, k ≤ (en - 1 - (s + z.r)) / z.q ↔ s + z.r + k * z.q < en := fun k => by
      rw [Int.le_ediv_iff_mul_le (by omega)]; omega
    generalize (en - 1 - (s + z.r)) / z.q = most at *
    refine lc_range (LcP H D (List.range (most + 1).toNat) (fun _ => true) (fun i => V.int (s + z.r + (0 + (i : Int)) * z.q))) (lc_start hD) (fun i H1 hi p => ?_) (fun H1 p => ?_)
    · refine ⟨rfl, _, rfl, _, rfl, _, rfl, .inr (.inl ⟨_, _, _, _, rfl, rfl, .of (p.sm _ _ ht), rfl, ?_⟩)⟩
      exact ⟨_, _, rfl, rfl, .inr ⟨by omega, by omega⟩, _, _, rfl, rfl, lc_keep hD p (.refl _) (range_at hi) rfl rfl (by rw [List.length_range]; omega)⟩
    · have p3 := lc_end (l := List.range (most + 1).toNat) (by rw [List.length_range]; exact p)
      refine q H1 D _ p.sm hD (rangeInts _ _ D H1 p3) ⟨fun x => ?_, turns_asc (b := s + z.r) (q := z.q) (by omega) (fun i => rfl) _⟩
      rw [turns_mem (b := s + z.r) (q := z.q) fun i => rfl]
      refine ⟨fun ⟨k, k0, k1, e⟩ => ?_, fun ⟨k, k0, e, l⟩ => ⟨k, k0, (d2 k).mpr (by omega), e⟩⟩
      have := (d2 k).mp k1
      exact ⟨k, k0, e, by omega⟩
/-- what is looked at behind a success -/
def Cand (rows : Rows) (s en c : Int) : Prop := c = en ∨ ∃ x ∈ rows, s < x.1 ∧ x.1 ≤ en ∧ c = x.1 - 1
def candL (rows : Rows) (s en : Int) : List Int := (List.filter (fun (r : Int × Str) => decide (s < r.1) && decide (r.1 ≤ en)) rows).map (fun (r : Int × Str) => r.1 - 1) ++ [en]
theorem candL_map {rows : Rows} {s en : Int} : List.map (fun (r : Int × Str) => V.int (r.1 - 1)) (List.filter (fun (r : Int × Str) => decide (s < r.1) && decide (r.1 ≤ en)) rows) ++ [V.int en] = (candL rows s en).map V.int := by
  unfold candL
  rw [List.map_append, List.map_map]
  rfl
theorem candL_mem {rows : Rows} {s en c : Int} : c ∈ candL rows s en ↔ Cand rows s en c := by
  unfold candL
  rw [List.mem_append, List.mem_singleton, List.mem_map]
  refine ⟨fun h => ?_, fun h => ?_⟩
  · rcases h with ⟨r, hr1, e⟩ | e
    · have := List.mem_filter.mp hr1
      rw [Bool.and_eq_true] at this
      exact .inr ⟨r, this.1, of_decide_eq_true this.2.1, of_decide_eq_true this.2.2, e.symm⟩
    · exact .inl e
  · rcases h with e | ⟨r, h1, h2, h3, e⟩
    · exact .inr e
    · exact .inl ⟨r, List.mem_filter.mpr ⟨h1, by simp [h2, h3]⟩, e.symm⟩
structure BestW (z : Tms) (rows : Rows) (lo : Option Int) (u L s m : Int) : Prop where
  reach : K96M.Reach z.r z.q lo u s
  ge : s ≤ m
  hi : m ≤ K96M.endOf z.r z.q z.e lo u s
  lag : ∃ p, K96M.InF rows s p ∧ K96M.IsLag rows m p.2 L
theorem endOf_ge {z : Tms} (ok : z.Ok) {lo : Option Int} (hlo : LosOk lo) {u s : Int} (h : s ≤ u) : s ≤ K96M.endOf z.r z.q z.e lo u s := by
  have r1 := ok.r1; have q1 := ok.q1; have e1 := ok.e1
  cases lo with
  | none => simp only [K96M.endOf]; omega
  | some l =>
    have : 0 ≤ l * z.q := Int.mul_nonneg (hlo l rfl).1 (by omega)
    simp only [K96M.endOf]; omega
theorem BestW.zero {z : Tms} {rows : Rows} {lo : Option Int} {u : Int} (ok : z.Ok) (ro : RowsOk rows) (hlo : LosOk lo) (hu : 0 ≤ u) : BestW z rows lo u 0 0 0 := by
  obtain ⟨p, hp⟩ := K96M.InF.ex ro.ok (m := 0) (Int.le_refl 0)
  exact ⟨.zero, Int.le_refl 0, endOf_ge ok hlo hu, p, hp, Int.le_refl 0, Int.le_refl 0, ⟨p, hp, rfl⟩, fun x a b => by omega⟩
def sp_greatest_lag (K : PySem.W.Frag) : Sp := fun vs H Q _ => ∃ (a t : Addr) (z : Tms) (rows : Rows) (lo : Option Int) (u : Int), vs = [.ref a, losV lo, .int u] ∧ His H a t z rows ∧ LosOk lo ∧ 0 ≤ u ∧ u ≤ 1000 ∧
  ∀ (H' : Hp) B L s m, Same H H' → H' B = some (.tup [.int L, .int s, .int m]) → K96M.Great rows z.r z.q z.e lo u L s m → Q (.ref B) H'
-- slots [(0, 'history'), (1, 'losses'), (2, 'until'), (3, 'best'), (4, 'success'), (5, 'version'), (6, 'end'), (7, 'ends'), (8, 'entry'), (9, 'moment'), (10, 'lag')]
theorem ok_greatest_lag {f : Addr} {fd : FuncData} (F : Fun K "greatest_lag" "greatest_lag" s_greatest_lag f fd) (T : Txt K mg) (h_success_roads : Has P w K mg base "success_roads" 2 ["history", "losses", "until"] (sp_success_roads K)) (h_version_at : Has P w K mg base "version_at" 1 ["history", "moment"] (sp_version_at K)) (h_last_told : Has P w K mg base "last_told" 1 ["timers", "success", "losses", "until"] (sp_last_told K)) (h_lag_at : Has P w K mg base "lag_at" 1 ["history", "moment", "value"] (sp_lag_at K)) : FnOk P w K mg base CX0 3 f fd ["history", "losses", "until"] (sp_greatest_lag K) := by
  refine F.ok sc_greatest_lag (fun vs H Q E h => ?_) (fun cdv A outer s H vs Q E hr h => ?_)
  · obtain ⟨a, t, z, rows, lo, u, rfl, hh, hlo, hu0, hu9, q⟩ := h
    rfl
  · obtain ⟨a, t, z, rows, lo, u, rfl, hh, hlo, hu0, hu9, q⟩ := h
    have hu := hu_of hr
    refine ⟨_, (pss_cons (ps_set (i := 3) sc_greatest_lag.nd rfl (Or.inl rfl) (pe_tup (pa_cons pe_int (pa_cons pe_int (pa_cons pe_int pa_nil)))))
 (pss_cons (ps_for PassesOwn.never rfl (pi_list (pe_callB (cr_sortedDict rfl) (by rfl) T.sorted (by decide +kernel) (pa_cons (pe_call h_success_roads.G (hr.mono (by decide)) rfl h_success_roads.m h_success_roads.kp h_success_roads.b .nil pass0 (pa_cons (pv 0) (pa_cons (pv 1) (pa_cons (pv 2) pa_nil)))) pa_nil))) (pg_name (i := 4) sc_greatest_lag.nd rfl (Or.inr rfl))
  (pss_cons (ps_set (i := 5) sc_greatest_lag.nd rfl (Or.inl rfl) (pe_call h_version_at.G (hr.mono (by decide)) rfl h_version_at.m h_version_at.kp h_version_at.b .nil pass0 (pa_cons (pv 0) (pa_cons (pv 4) pa_nil))))
 (pss_cons (ps_set (i := 6) sc_greatest_lag.nd rfl (Or.inr rfl) (pe_call h_last_told.G (hr.mono (by decide)) rfl h_last_told.m h_last_told.kp h_last_told.b .nil pass0 (pa_cons (pe_ix ix_seq (pv 5) pe_int (fun _ _ => rfl)) (pa_cons (pv 4) (pa_cons (pv 1) (pa_cons (pv 2) pa_nil))))))
 (pss_cons (ps_setLc (i := 7) (own := [("entry", 8)]) (g := (gName 8)) (tt := (tTest (tChain rLt rLe (tVar 4) (tOp (rIx K) (tVar 8) (tC (.int 0))) (tVar 6)))) (te := (tOp rSub (tOp (rIx K) (tVar 8) (tC (.int 0))) (tC (.int 1)))) rfl sc_greatest_lag.nd rfl rfl (sw_true rfl rfl rfl (by decide +kernel)) (pi_list (pv 0)) (blkOk_by (N := ["history", "losses", "until", "best", "success", "version", "end", "ends", "entry", "moment", "lag"]) (sc := defScope s_greatest_lag) (by decide +kernel)) (fun _ _ _ _ _ => (pg_name (i := 8) sc_greatest_lag.nd rfl (Or.inl rfl))) (fun _ _ _ _ _ => (pts_one (pt_chain op_lt op_le (pv 4) (pe_ix ix_seq (pv 8) pe_int (fun _ _ => rfl)) (pv 6)))) (fun _ _ _ _ _ => (pe_op op_sub (pe_ix ix_seq (pv 8) pe_int (fun _ _ => rfl)) pe_int)))
 (pss_one (ps_for PassesOwn.never rfl (pi_list (pe_op op_cat (pv 7) (pe_lst (pa_cons (pv 6) pa_nil)))) (pg_name (i := 9) sc_greatest_lag.nd rfl (Or.inl rfl))
  (pss_cons (ps_set (i := 10) sc_greatest_lag.nd rfl (Or.inl rfl) (pe_call h_lag_at.G (hr.mono (by decide)) rfl h_lag_at.m h_lag_at.kp h_lag_at.b .nil pass0 (pa_cons (pv 0) (pa_cons (pv 9) (pa_cons (pe_ix ix_seq (pv 5) pe_int (fun _ _ => rfl)) pa_nil)))))
 (pss_one (ps_if (pt_cmpR op_gt (pv 10) (pe_ix ix_seq (pv 3) pe_int (fun _ _ => rfl)) (nomark _))
  (pss_one (ps_set (i := 3) sc_greatest_lag.nd rfl (Or.inl rfl) (pe_tup (pa_cons (pv 10) (pa_cons (pv 4) (pa_cons (pv 9) pa_nil))))))
  pss_nil)))))))))
 (pss_one (ps_ret (pv 3))))), ?_⟩
    have r1 := hh.ok.r1; have q1 := hh.ok.q1
    refine ⟨line_le (by show 3 ≤ 1000000; decide), fun B0 hB0 => ?_⟩
    have s1 : Same H (upd H B0 (.tup [.int 0, .int 0, .int 0])) := same_upd hB0
    have b1 : upd H B0 (.tup [.int 0, .int 0, .int 0]) B0 = some (.tup [.int 0, .int 0, .int 0]) := upd_same
    generalize upd H B0 (.tup [.int 0, .int 0, .int 0]) = H1 at *
    refine ⟨_, rfl, _, rfl, _, rfl, a, t, z, rows, lo, u, rfl, hh.same s1, hlo, hu0, hu9, fun H2 D kvs ds s2 hD hd R all => ?_⟩
    have few := R.few (by omega) (by omega) hu0
    refine ⟨D, kvs, ds, rfl, hd, R.ks, by omega, fun ys E pm rise hE => ?_⟩
    have s3 := s1.trans s2
    refine ⟨E, rfl, ⟨_, .of upd_same⟩, for_list (K := K) (a := E) (xs := ys.map V.int) (fun i σ H4 => ∃ B L s m y4 y5 y6 y7 y8 y9 y10, σ = [some (.ref a), some (losV lo), some (.int u), some (.ref B), y4, y5, y6, y7, y8, y9, y10] ∧ Same H H4 ∧ IntsAt H4 E ys ∧ H4 B = some (.tup [.int L, .int s, .int m]) ∧ BestW z rows lo u L s m ∧
        ∀ s' ∈ ys.take i, ∀ p, K96M.InF rows s' p → ∀ c M, Cand rows s' (K96M.endOf z.r z.q z.e lo u s') c → K96M.IsLag rows c p.2 M → M ≤ L)
      ⟨B0, 0, 0, 0, none, none, none, none, none, none, none, rfl, same_upd2 (s3.free hE) s3, upd_same, by rw [upd_ne (ne_of_none (s2 _ _ b1) hE)]; exact s2 _ _ b1, .zero hh.ok hh.ro hlo hu0, (fun s' h => nomatch h)⟩
      (fun i σ H4 _ w => by obtain ⟨_, _, _, _, _, _, _, _, _, _, _, _, _, h, _⟩ := w; exact .of h) (fun i x σ H4 hx hw => ?_) (fun σ H4 hw => ?_)⟩
    · obtain ⟨s', hs', rfl⟩ := map_at hx
      obtain ⟨B, L, s, m, y4, y5, y6, y7, y8, y9, y10, rfl, s4, hE4, hB, bw, done⟩ := hw
      have rs : K96M.Reach z.r z.q lo u s' := R.reach s' (pm.mem_iff.mp (List.mem_of_getElem? hs'))
      have rg := rs.range (by omega) (by omega) hu0
      have hen := endOf_ge hh.ok hlo rg.2
      have hh4 := hh.same s4
      refine ⟨_, rfl, _, rfl, a, t, z, rows, s', rfl, hh4, rg.1, fun b p hp hb => ?_⟩
      refine ⟨_, rfl, .inr (.inl ⟨_, _, _, _, rfl, rfl, .of hb, rfl, ?_⟩)⟩
      refine ⟨_, rfl, _, rfl, _, rfl, t, z, s', lo, u, rfl, hh4.tm, hh.ok, hlo, ?_⟩
      obtain ⟨⟨xs, hl, hxl, hrow⟩, ht, ok, ro⟩ := id hh4
      have fewr := ro.few
      generalize hend : K96M.endOf z.r z.q z.e lo u s' = en at *
      refine ⟨_, rfl, a, rfl, ⟨_, .of hl⟩, fun F hF => lc_list (K := K) (a := a) (xs := xs) (LcP H4 F rows (fun r => decide (s' < r.1) && decide (r.1 ≤ en)) (fun r => V.int (r.1 - 1))) (lc_start hF) (fun j H5 _ p5 => .of (p5.sm _ _ hl)) (fun j x H5 hx5 p5 => ?_) (fun H5 p5 => ?_)⟩
      · obtain ⟨r, hr1, b2, rfl, hb2⟩ := row_at hxl hrow hx5
        have hb3 := p5.sm _ _ hb2
        refine ⟨rfl, _, rfl, _, rfl, .inr (.inl ⟨_, _, _, _, rfl, rfl, .of hb3, rfl, ?_⟩)⟩
        refine ⟨_, _, rfl, rfl, _, rfl, ?_⟩
        refine ifD (fun h1 => ?_) (fun h1 => ?_)
        · refine ⟨_, rfl, _, _, rfl, rfl, _, rfl, ifD (fun h2 => ?_) (fun h2 => ?_)⟩
          · refine ⟨_, rfl, .inr (.inl ⟨_, _, _, _, rfl, rfl, .of hb3, rfl, ?_⟩)⟩
            exact ⟨_, _, rfl, rfl, lc_keep hF p5 (.refl _) hr1 (by simp [h1, h2]) rfl (by omega)⟩
          · exact lc_skip p5 (.refl _) hr1 (by simp [h2])
        · exact ⟨_, rfl, iteF (lc_skip p5 (.refl _) hr1 (by simp [h1]))⟩
      rw [hxl] at p5
      have f5 := lc_end p5
      have s5 := p5.sm
      have hE5 := s5 _ _ hE4
      have hB5 := s5 _ _ hB
      have hb5 := s5 _ _ hb
      have s45 := s4.trans s5
      have flen : (rows.filter fun r => decide (s' < r.1) && decide (r.1 ≤ en)).length ≤ 8 := Nat.le_trans (List.length_filter_le _ _) fewr
      refine ⟨_, rfl, _, rfl, line_le (by show 1 ≤ 1000000; decide), fun G hG => ?_⟩
      have s6 : Same H5 (upd H5 G (.lst [.int en])) := same_upd hG
      refine ⟨F, G, _, _, rfl, rfl, s6 _ _ f5, upd_same, line_le (by rw [List.length_map, List.length_singleton]; omega), fun J hJ => ?_⟩
      rw [candL_map]
      have hcs := fun c => candL_mem (rows := rows) (s := s') (en := en) (c := c)
      generalize candL rows s' en = cs at *
      have s7 : Same H5 (upd (upd H5 G (.lst [.int en])) J (.lst (cs.map V.int))) := same_upd2 (s6.free hJ) s6
      have j7 : IntsAt (upd (upd H5 G (.lst [.int en])) J (.lst (cs.map V.int))) J cs := upd_same
      generalize upd (upd H5 G (.lst [.int en])) J (.lst (cs.map V.int)) = H7 at *
      refine ⟨J, rfl, ⟨_, .of j7⟩, for_list (K := K) (a := J) (xs := cs.map V.int) (fun j σ H8 => ∃ B L s m y9 y10, σ = [some (.ref a), some (losV lo), some (.int u), some (.ref B), some (.int s'), some (.ref b), some (.int en), some (.ref F), y8, y9, y10] ∧ Same H7 H8 ∧ H8 B = some (.tup [.int L, .int s, .int m]) ∧ BestW z rows lo u L s m ∧
          (∀ s' ∈ ys.take i, ∀ p, K96M.InF rows s' p → ∀ c M, Cand rows s' (K96M.endOf z.r z.q z.e lo u s') c → K96M.IsLag rows c p.2 M → M ≤ L) ∧ ∀ c ∈ cs.take j, ∀ M, K96M.IsLag rows c p.2 M → M ≤ L)
        ⟨B, L, s, m, _, _, rfl, .refl _, s7 _ _ hB5, bw, done, (fun c h => nomatch h)⟩
        (fun j σ H8 _ w => by obtain ⟨_, _, _, _, _, _, _, h, _⟩ := w; exact .of (h _ _ j7)) (fun j x σ H8 hx8 hw8 => ?_) (fun σ H8 hw8 => ?_)⟩
      · obtain ⟨c, hc, rfl⟩ := map_at hx8
        obtain ⟨B, L, s, m, y9, y10, rfl, s8, hB8, bw8, done8, here8⟩ := hw8
        have s58 := s7.trans s8
        have hh8 := hh.same (s45.trans s58)
        have hb8 := s58 _ _ hb5
        have hcand := (hcs c).mp (List.mem_of_getElem? hc)
        have hge : s' ≤ c ∧ c ≤ en := by
          rcases hcand with e | ⟨r, _, h2, h3, e⟩ <;> omega
        obtain ⟨M, hM⟩ := K96M.IsLag.ex' rg.1 (K96M.Val.of hp) hge.1
        refine ⟨_, rfl, _, rfl, _, rfl, .inr (.inl ⟨_, _, _, _, rfl, rfl, .of hb8, rfl, ?_⟩)⟩
        refine ⟨a, t, z, rows, c, p.2, M, rfl, hh8, hM, ?_⟩
        refine ⟨_, rfl, _, rfl, .inr (.inl ⟨_, _, _, _, rfl, rfl, .of hB8, rfl, ?_⟩)⟩
        have more : ∀ L', L ≤ L' → M ≤ L' → ∀ c' ∈ cs.take (j + 1), ∀ M', K96M.IsLag rows c' p.2 M' → M' ≤ L' := fun L' h1 h2 c' hc' M' hM' => by
          rw [take_snoc hc] at hc'
          rcases List.mem_append.mp hc' with h | h
          · exact Int.le_trans (here8 c' h M' hM') h1
          · have := List.mem_singleton.mp h
            subst this
            have := hM'.uniq hM
            omega
        refine ⟨_, _, rfl, rfl, _, rfl, ifD (fun hlt => ?_) (fun hge2 => ?_)⟩
        · refine ⟨_, rfl, _, rfl, _, rfl, line_le (by show 3 ≤ 1000000; decide), fun B' hB' => ?_⟩
          refine ⟨B', M, s', c, _, _, rfl, same_upd2 (s8.free hB') s8, upd_same, ⟨rs, hge.1, by rw [hend]; exact hge.2, p, hp, hM⟩, fun s2 h2 p2 h3 c2 M2 h4 h5 => ?_, more M (by omega) (Int.le_refl M)⟩
          have := done8 s2 h2 p2 h3 c2 M2 h4 h5
          omega
        · exact ⟨B, L, s, m, _, _, rfl, s8, hB8, bw8, done8, more L (Int.le_refl L) (by omega)⟩
      · obtain ⟨B, L, s, m, y9, y10, rfl, s8, hB8, bw8, done8, here8⟩ := hw8
        rw [List.length_map, List.take_length] at here8
        have s58 := s7.trans s8
        refine ⟨B, L, s, m, _, _, _, _, _, _, _, rfl, s45.trans s58, s58 _ _ hE5, hB8, bw8, fun s2 h2 p2 h3 c2 M2 h4 h5 => ?_⟩
        rw [take_snoc hs'] at h2
        rcases List.mem_append.mp h2 with h | h
        · exact done8 s2 h p2 h3 c2 M2 h4 h5
        · have := List.mem_singleton.mp h
          subst this
          have := h3.uniq hp
          subst this
          rw [hend] at h4
          exact here8 c2 ((hcs c2).mpr h4) M2 h5
    · obtain ⟨B, L, s, m, y4, y5, y6, y7, y8, y9, y10, rfl, s4, hE4, hB, bw, done⟩ := hw
      rw [List.length_map, List.take_length] at done
      refine ⟨_, rfl, q H4 B L s m s4 hB (.of hh.ro.ok (by omega) (by omega) hu0 bw.reach bw.ge bw.hi bw.lag fun s' p a1 a2 c M a3 a4 => ?_)⟩
      exact done s' (pm.mem_iff.mpr (all s' a1)) p a2 c M a3 a4
def sp_longest_lag_in (K : PySem.W.Frag) : Sp := fun vs H Q _ => ∃ (a t : Addr) (z : Tms) (rows : Rows) (lo : Option Int) (u : Int), vs = [.ref a, losV lo, .int u] ∧ His H a t z rows ∧ LosOk lo ∧ 0 ≤ u ∧ u ≤ 1000 ∧
  ∀ (H' : Hp) L s m, Same H H' → K96M.Great rows z.r z.q z.e lo u L s m → Q (.int L) H'
-- slots [(0, 'history'), (1, 'losses'), (2, 'until')]
theorem ok_longest_lag_in {f : Addr} {fd : FuncData} (F : Fun K "longest_lag_in" "longest_lag_in" s_longest_lag_in f fd) (T : Txt K mg) (h_need_history : Has P w K mg base "need_history" 5 ["history"] (sp_need_history K)) (h_need_losses : Has P w K mg base "need_losses" 3 ["value"] (sp_need_losses K)) (h_need_moment : Has P w K mg base "need_moment" 3 ["value"] (sp_need_moment K)) (h_greatest_lag : Has P w K mg base "greatest_lag" 3 ["history", "losses", "until"] (sp_greatest_lag K)) : FnOk P w K mg base CX0 6 f fd ["history", "losses", "until"] (sp_longest_lag_in K) := by
  refine F.ok sc_longest_lag_in (fun vs H Q E h => ?_) (fun cdv A outer s H vs Q E hr h => ?_)
  · obtain ⟨a, t, z, rows, lo, u, rfl, hh, hlo, hu0, hu9, q⟩ := h
    rfl
  · obtain ⟨a, t, z, rows, lo, u, rfl, hh, hlo, hu0, hu9, q⟩ := h
    have hu := hu_of hr
    refine ⟨_, (pss_cons (ps_expr (pe_call h_need_history.G (hr.mono (by decide)) rfl h_need_history.m h_need_history.kp h_need_history.b .nil pass0 (pa_cons (pv 0) pa_nil)))
 (pss_cons (ps_expr (pe_call h_need_losses.G (hr.mono (by decide)) rfl h_need_losses.m h_need_losses.kp h_need_losses.b .nil pass0 (pa_cons (pv 1) pa_nil)))
 (pss_cons (ps_expr (pe_call h_need_moment.G (hr.mono (by decide)) rfl h_need_moment.m h_need_moment.kp h_need_moment.b .nil pass0 (pa_cons (pv 2) pa_nil)))
 (pss_one (ps_ret (pe_ix ix_seq (pe_call h_greatest_lag.G (hr.mono (by decide)) rfl h_greatest_lag.m h_greatest_lag.kp h_greatest_lag.b .nil pass0 (pa_cons (pv 0) (pa_cons (pv 1) (pa_cons (pv 2) pa_nil)))) pe_int (fun _ _ => rfl))))))), ?_⟩
    refine ⟨_, rfl, a, t, z, rows, rfl, hh, fun H1 s1 => ?_⟩
    refine ⟨_, rfl, lo, rfl, hlo, ?_⟩
    refine ⟨_, rfl, u, rfl, hu0, ?_⟩
    refine ⟨_, rfl, _, rfl, _, rfl, a, t, z, rows, lo, u, rfl, hh.same s1, hlo, hu0, hu9, fun H2 B L s m s2 hB g => ?_⟩
    exact .inr (.inl ⟨_, _, _, _, rfl, rfl, .of hB, rfl, q H2 L s m (s1.trans s2) g⟩)
def sp_lag_plan (K : PySem.W.Frag) : Sp := fun vs H Q _ => ∃ (a t : Addr) (z : Tms) (rows : Rows) (lo : Option Int) (u : Int), vs = [.ref a, losV lo, .int u] ∧ His H a t z rows ∧ LosOk lo ∧ 0 ≤ u ∧ u ≤ 900 ∧
  ∀ (H' : Hp) D l lost m L s, Same H H' → H' D = some (.tup [.ref l, .int m]) → IntsAt H' l lost → K96M.Great rows z.r z.q z.e lo u L s m → K96M.Plan z.r z.q m s 0 lost → Q (.ref D) H'
-- slots [(0, 'history'), (1, 'losses'), (2, 'until'), (3, 'lag'), (4, 'success'), (5, 'moment'), (6, 'roads'), (7, 'lost'), (8, 'earlier')]
theorem ok_lag_plan {f : Addr} {fd : FuncData} (F : Fun K "lag_plan" "lag_plan" s_lag_plan f fd) (T : Txt K mg) (h_need_history : Has P w K mg base "need_history" 5 ["history"] (sp_need_history K)) (h_need_losses : Has P w K mg base "need_losses" 3 ["value"] (sp_need_losses K)) (h_need_moment : Has P w K mg base "need_moment" 3 ["value"] (sp_need_moment K)) (h_greatest_lag : Has P w K mg base "greatest_lag" 3 ["history", "losses", "until"] (sp_greatest_lag K)) (h_success_roads : Has P w K mg base "success_roads" 2 ["history", "losses", "until"] (sp_success_roads K)) (h_lost_between : Has P w K mg base "lost_between" 1 ["timers", "success", "end"] (sp_lost_between K)) (h_version_at : Has P w K mg base "version_at" 1 ["history", "moment"] (sp_version_at K)) : FnOk P w K mg base CX0 6 f fd ["history", "losses", "until"] (sp_lag_plan K) := by
  refine F.ok sc_lag_plan (fun vs H Q E h => ?_) (fun cdv A outer s H vs Q E hr h => ?_)
  · obtain ⟨a, t, z, rows, lo, u, rfl, hh, hlo, hu0, hu9, q⟩ := h
    rfl
  · obtain ⟨a, t, z, rows, lo, u, rfl, hh, hlo, hu0, hu9, q⟩ := h
    have hu := hu_of hr
    refine ⟨_, (pss_cons (ps_expr (pe_call h_need_history.G (hr.mono (by decide)) rfl h_need_history.m h_need_history.kp h_need_history.b .nil pass0 (pa_cons (pv 0) pa_nil)))
 (pss_cons (ps_expr (pe_call h_need_losses.G (hr.mono (by decide)) rfl h_need_losses.m h_need_losses.kp h_need_losses.b .nil pass0 (pa_cons (pv 1) pa_nil)))
 (pss_cons (ps_expr (pe_call h_need_moment.G (hr.mono (by decide)) rfl h_need_moment.m h_need_moment.kp h_need_moment.b .nil pass0 (pa_cons (pv 2) pa_nil)))
 (pss_cons (ps_asg (pe_call h_greatest_lag.G (hr.mono (by decide)) rfl h_greatest_lag.m h_greatest_lag.kp h_greatest_lag.b .nil pass0 (pa_cons (pv 0) (pa_cons (pv 1) (pa_cons (pv 2) pa_nil)))) (pg_tup rfl (pgs_cons (pg_name (i := 3) sc_lag_plan.nd rfl (Or.inl rfl)) (pgs_cons (pg_name (i := 4) sc_lag_plan.nd rfl (Or.inl rfl)) (pgs_cons (pg_name (i := 5) sc_lag_plan.nd rfl (Or.inl rfl)) pgs_nil)))))
 (pss_cons (ps_set (i := 6) sc_lag_plan.nd rfl (Or.inl rfl) (pe_call h_success_roads.G (hr.mono (by decide)) rfl h_success_roads.m h_success_roads.kp h_success_roads.b .nil pass0 (pa_cons (pv 0) (pa_cons (pv 1) (pa_cons (pv 2) pa_nil)))))
 (pss_cons (ps_set (i := 7) sc_lag_plan.nd rfl (Or.inl rfl) (pe_call h_lost_between.G (hr.mono (by decide)) rfl h_lost_between.m h_lost_between.kp h_lost_between.b .nil pass0 (pa_cons (pe_ix ix_seq (pe_call h_version_at.G (hr.mono (by decide)) rfl h_version_at.m h_version_at.kp h_version_at.b .nil pass0 (pa_cons (pv 0) (pa_cons (pv 4) pa_nil))) pe_int (fun _ _ => rfl)) (pa_cons (pv 4) (pa_cons (pe_op op_add (pv 5) pe_int) pa_nil)))))
 (pss_cons (ps_while PassesOwn.never (pt_cmp (pc_notN (pe_dget hu (pv 6) (pv 4) (fun _ _ => rfl))))
  (pss_cons (ps_set (i := 8) sc_lag_plan.nd rfl (Or.inl rfl) (pe_dget hu (pv 6) (pv 4) (fun _ _ => rfl)))
 (pss_cons (ps_set (i := 7) sc_lag_plan.nd rfl (Or.inl rfl) (pe_op op_cat (pe_call h_lost_between.G (hr.mono (by decide)) rfl h_lost_between.m h_lost_between.kp h_lost_between.b .nil pass0 (pa_cons (pe_ix ix_seq (pe_call h_version_at.G (hr.mono (by decide)) rfl h_version_at.m h_version_at.kp h_version_at.b .nil pass0 (pa_cons (pv 0) (pa_cons (pv 8) pa_nil))) pe_int (fun _ _ => rfl)) (pa_cons (pv 8) (pa_cons (pv 4) pa_nil)))) (pv 7)))
 (pss_one (ps_set (i := 4) sc_lag_plan.nd rfl (Or.inl rfl) (pv 8))))))
 (pss_one (ps_ret (pe_tup (pa_cons (pv 7) (pa_cons (pv 5) pa_nil)))))))))))), ?_⟩
    have r1 := hh.ok.r1; have q1 := hh.ok.q1
    refine ⟨_, rfl, a, t, z, rows, rfl, hh, fun H1 s1 => ?_⟩
    refine ⟨_, rfl, lo, rfl, hlo, ?_⟩
    refine ⟨_, rfl, u, rfl, hu0, ?_⟩
    refine ⟨_, rfl, _, rfl, _, rfl, a, t, z, rows, lo, u, rfl, hh.same s1, hlo, hu0, by omega, fun H2 B L s m s2 hB g => ?_⟩
    refine ⟨B, _, rfl, .of hB, rfl, _, _, rfl, _, _, rfl, _, _, rfl, rfl, ?_⟩
    have s12 := s1.trans s2
    refine ⟨_, rfl, _, rfl, _, rfl, a, t, z, rows, lo, u, rfl, hh.same s12, hlo, hu0, by omega, fun H3 D kvs ds s3 hD hd R all => ?_⟩
    have s13 := s12.trans s3
    have hh3 := hh.same s13
    have rg := g.reach.range (by omega) (by omega) hu0
    have hm9 : m ≤ u := by
      have h1 := g.hi
      cases lo with
      | none => simp only [K96M.endOf] at h1; omega
      | some l => simp only [K96M.endOf] at h1; omega
    have hge := g.lo
    refine ⟨_, rfl, _, rfl, a, t, z, rows, s, rfl, hh3, rg.1, fun b p _ hb => ?_⟩
    refine .inr (.inl ⟨_, _, _, _, rfl, rfl, .of hb, rfl, ?_⟩)
    refine ⟨_, rfl, _, rfl, _, _, rfl, rfl, t, z, s, m + 1, rfl, hh3.tm, hh.ok, rg.1, by omega, fun H4 W ns s4 hW hw bt => ?_⟩
    have s14 := s13.trans s4
    refine ⟨fun n σ H5 => ∃ c W L0 y8, σ = [some (.ref a), some (losV lo), some (.int u), some (.int L), some (.int c), some (.int m), some (.ref D), some (.ref W), y8] ∧ Same H H5 ∧ H5 D = some (.dK kvs) ∧ IntsAt H5 W L0 ∧ K96M.Plan z.r z.q m s c L0 ∧ K96M.Reach z.r z.q lo u c ∧ c ≤ m ∧ n = c.toNat,
      ⟨_, s, W, ns, none, rfl, s14, s4 _ _ hd, hw, .start (by omega) (by omega) bt, g.reach, hge, rfl⟩, fun n σ H5 hw5 => ?_⟩
    obtain ⟨c, W, L0, y8, rfl, s5, hd5, hw5, pl, rc, hcm, hn⟩ := hw5
    have rgc := rc.range (by omega) (by omega) hu0
    by_cases h0 : c = 0
    · subst h0
      have g0 : DGet H5 D (.int 0) (some .non) := by
        have h := DGet.k (k := (Sum.inl 0 : Key)) hd5
        rw [R.zero] at h
        exact h
      refine ⟨_, rfl, _, rfl, D, _, rfl, g0, _, rfl, iteF ?_⟩
      have pf := pl.few (Int.le_refl 0) (by omega)
      refine ⟨_, rfl, _, rfl, line_le (by show 2 ≤ 1000000; decide), fun G hG => ?_⟩
      have s6 : Same H5 (upd H5 G (.tup [.ref W, .int m])) := same_upd hG
      exact q _ G W L0 m L s (s5.trans s6) upd_same (s6 _ _ hw5) g pl
    · obtain ⟨p, e1, e2, k, k0, k1, ek, kl⟩ := R.back c (all c rc) h0
      have g1 : DGet H5 D (.int c) (some (.int p)) := by
        have h := DGet.k (k := (Sum.inl c : Key)) hd5
        rw [e1] at h
        exact h
      have rgp := e2.range (by omega) (by omega) hu0
      have hkq : 0 ≤ k * z.q := Int.mul_nonneg k0 (by omega)
      have hh5 := hh.same s5
      refine ⟨_, rfl, _, rfl, D, _, rfl, g1, _, rfl, iteT ?_⟩
      refine ⟨fun σ' H' => ∃ n', n' < n ∧ ∃ c W L0 y8, σ' = [some (.ref a), some (losV lo), some (.int u), some (.int L), some (.int c), some (.int m), some (.ref D), some (.ref W), y8] ∧ Same H H' ∧ H' D = some (.dK kvs) ∧ IntsAt H' W L0 ∧ K96M.Plan z.r z.q m s c L0 ∧ K96M.Reach z.r z.q lo u c ∧ c ≤ m ∧ n' = c.toNat, fun _ _ h => h, ?_⟩
      refine ⟨_, rfl, _, rfl, D, _, rfl, g1, ?_⟩
      refine ⟨_, rfl, _, rfl, a, t, z, rows, p, rfl, hh5, rgp.1, fun b pr _ hb => ?_⟩
      refine .inr (.inl ⟨_, _, _, _, rfl, rfl, .of hb, rfl, ?_⟩)
      refine ⟨_, rfl, _, rfl, t, z, p, c, rfl, hh5.tm, hh.ok, rgp.1, by omega, fun H6 W2 ns s6 hW2 hw6 bt => ?_⟩
      have bf := bt.few (by omega) (by omega) rgp.1 rgc.1
      have pf := pl.few rgc.1 (by omega)
      refine ⟨_, rfl, W2, W, _, _, rfl, rfl, hw6, s6 _ _ hw5, line_le (by rw [List.length_map, List.length_map]; omega), fun W3 hW3 => ?_⟩
      have s7 : Same H6 (upd H6 W3 (.lst (ns.map V.int ++ L0.map V.int))) := same_upd hW3
      have s57 := s6.trans s7
      refine ⟨_, rfl, _, ?_, p, W3, ns ++ L0, _, rfl, s5.trans s57, s57 _ _ hd5, ?_, pl.step (by omega) (by omega) bt k0 ek hcm, e2, by omega, rfl⟩
      · omega
      · rw [IntsAt, upd_same, List.map_append]
end
end K96

namespace K96
open PySem PySem.Spec PyProof.Rows L2
/-! K96L1: the law's draws, its histories, the row in force, the staleness. -/
section
variable {P : Program} {w : World} {K : PySem.W.Frag} {mg : Str → Option Value} {base : Heap}
/-- all but dicts is as it was; dicts stay dicts -/
def SameL (H H' : Hp) : Prop := ∀ b o, H b = some o → H' b = some o ∨ (∃ kvs, o = .dK kvs) ∧ ∃ kvs, H' b = some (.dK kvs)
theorem SameL.of {H H' : Hp} (s : Same H H') : SameL H H' := fun b o e => .inl (s b o e)
theorem SameL.refl (H : Hp) : SameL H H := fun _ _ e => .inl e
theorem SameL.trans {H H1 H2 : Hp} (a : SameL H H1) (b : SameL H1 H2) : SameL H H2 := fun c o e => by
  rcases a c o e with h | ⟨h1, kvs, h2⟩
  · exact b c o h
  · rcases b c _ h2 with h | ⟨_, k2, h3⟩
    · exact .inr ⟨h1, kvs, h⟩
    · exact .inr ⟨h1, k2, h3⟩
theorem SameL.l {H H' : Hp} {a : Addr} {xs : List V} (s : SameL H H') (h : H a = some (.lst xs)) : H' a = some (.lst xs) := by
  rcases s a _ h with h | ⟨⟨_, e⟩, _⟩
  · exact h
  · cases e
theorem SameL.t {H H' : Hp} {a : Addr} {xs : List V} (s : SameL H H') (h : H a = some (.tup xs)) : H' a = some (.tup xs) := by
  rcases s a _ h with h | ⟨⟨_, e⟩, _⟩
  · exact h
  · cases e
theorem SameL.free {H H' : Hp} {a : Addr} (s : SameL H H') (h : H' a = none) : H a = none := by
  cases e : H a with
  | none => rfl
  | some o =>
    rcases s a o e with h2 | ⟨_, _, h2⟩
    · rw [h] at h2; cases h2
    · rw [h] at h2; cases h2
theorem SameL.upd {H H' : Hp} {p : Addr} {o : HO} (h : H p = none) (s : SameL H H') : SameL H (upd H' p o) := fun b x e => by
  rw [upd_ne (ne_of_none e h)]
  exact s b x e
theorem SameL.dict {H H' : Hp} {d : Addr} {kvs kv2 : List (Key × V)} (h : H d = some (.dK kvs)) (s : SameL H H') : SameL H (L2.upd H' d (.dK kv2)) := fun b x e => by
  by_cases hb : b = d
  · subst hb
    rw [h] at e
    cases e
    exact .inr ⟨⟨_, rfl⟩, _, upd_same⟩
  · rw [upd_ne hb]
    exact s b x e
theorem HisAt.sameL {H H' : Hp} {a t : Addr} {rows : Rows} (s : SameL H H') (h : HisAt H a t rows) : HisAt H' a t rows := by
  obtain ⟨xs, h1, h2, h3⟩ := h.ls
  refine ⟨xs, s.l h1, h2, fun i p v e e' => ?_⟩
  obtain ⟨b, e1, e2⟩ := h3 i p v e e'
  exact ⟨b, e1, s.t e2⟩
theorem His.sameL {H H' : Hp} {a t : Addr} {z : Tms} {rows : Rows} (s : SameL H H') (h : His H a t z rows) : His H' a t z rows := ⟨h.st.sameL s, s.t h.tm, h.ok, h.ro⟩
/-- the law's draws -/
abbrev drK (rest seed turn place : Int) : List (Key × V) := [(.inr "rest", .int rest), (.inr "seed", .int seed), (.inr "turn", .int turn), (.inr "place", .int place)]
def DrAt (H : Hp) (d : Addr) (n : Nat) : Prop := ∃ rest seed turn place : Int, H d = some (.dK (drK rest seed turn place)) ∧ 0 ≤ seed ∧ seed < 10 ^ 39 + 3 ∧ 0 ≤ turn ∧ turn ≤ (n : Int) ∧ 0 ≤ place ∧ place ≤ 1000
theorem DrAt.same {H H' : Hp} {d : Addr} {n : Nat} (s : Same H H') (h : DrAt H d n) : DrAt H' d n := by
  obtain ⟨a, b, c, e, h, r⟩ := h
  exact ⟨a, b, c, e, s _ _ h, r⟩
theorem DrAt.more {H : Hp} {d : Addr} {n m : Nat} (h : DrAt H d n) (l : n ≤ m) : DrAt H d m := by
  obtain ⟨a, b, c, e, h, h1, h2, h3, h4, h5, h6⟩ := h
  exact ⟨a, b, c, e, h, h1, h2, h3, by omega, h5, h6⟩
theorem DrAt.dict {H H' : Hp} {d : Addr} {n : Nat} {kv2 : List (Key × V)} (h : DrAt H d n) (s : SameL H H') : SameL H (L2.upd H' d (.dK kv2)) := by
  obtain ⟨a, b, c, e, h, _⟩ := h
  exact s.dict h
theorem DrAt.ne {H : Hp} {d b : Addr} {n : Nat} {o : HO} (h : DrAt H d n) (e : H b = some o) (ho : ∀ kvs, o ≠ .dK kvs) : b ≠ d := by
  obtain ⟨_, _, _, _, h, _⟩ := h
  exact ne_of e h (ho _)
theorem DrAt.upd {H : Hp} {d p : Addr} {n : Nat} {o : HO} (h : DrAt H d n) (hp : d ≠ p) : DrAt (L2.upd H p o) d n := by
  obtain ⟨a, b, c, e, h, r⟩ := h
  exact ⟨a, b, c, e, by rw [upd_ne hp]; exact h, r⟩
theorem dr_get {rest seed turn place : Int} : valV (drK rest seed turn place) (.inr "rest") = some (.int rest) ∧ valV (drK rest seed turn place) (.inr "seed") = some (.int seed) ∧ valV (drK rest seed turn place) (.inr "turn") = some (.int turn) ∧ valV (drK rest seed turn place) (.inr "place") = some (.int place) := by
  have a : ∀ (x y : Str), (decide ((Sum.inr x : Key) = Sum.inr y)) = decide (x = y) := key_rr
  refine ⟨rfl, ?_, ?_, ?_⟩
  all_goals
    simp only [valV, drK, List.find?_cons, a]
    rfl
theorem dr_put {rest seed turn place x : Int} : putK (drK rest seed turn place) (.inr "rest") (.int x) = drK x seed turn place ∧ putK (drK rest seed turn place) (.inr "turn") (.int x) = drK rest seed x place := by
  refine ⟨?_, ?_⟩ <;> rfl
def sp_law_draws (K : PySem.W.Frag) : Sp := fun vs H Q _ => ∃ (a : Addr) (ns : List Int) (k : Int), vs = [.ref a, .int k] ∧ SqL K H a (ns.map V.int) ∧ 0 ≤ k ∧ k ≤ 100 ∧ ∀ (H' : Hp) d, Same H H' → H d = none → DrAt H' d 0 → Q (.ref d) H'
theorem p39 : ((10 : Int) ^ (39 : Int).toNat + 3) = 10 ^ 39 + 3 := rfl
-- slots [(0, '_law_script'), (1, '_law_k'), (2, '_law_cell'), (3, '_law_rest')]
theorem ok_law_draws {f : Addr} {fd : FuncData} (F : Fun K "_law_draws" "_law_draws" s_law_draws f fd) (T : Txt K mg)  : FnOk P w K mg base CX0 1 f fd ["_law_script", "_law_k"] (sp_law_draws K) := by
  refine F.ok sc_law_draws (fun vs H Q E h => ?_) (fun cdv A outer s H vs Q E hr h => ?_)
  · obtain ⟨a, ns, k, rfl, hs, k0, k9, q⟩ := h
    rfl
  · obtain ⟨a, ns, k, rfl, hs, k0, k9, q⟩ := h
    have hu := hu_of hr
    refine ⟨_, (pss_cons (ps_set (i := 2) sc_law_draws.nd rfl (Or.inl rfl) (pe_op op_add (pe_op op_mul pe_int (pv 1)) pe_int))
 (pss_cons (ps_if (pt_cmpR op_lt (pv 1) (pe_callB call_len_seq (by rfl) T.len (by decide +kernel) (pa_cons (pv 0) pa_nil)) (nomark _))
  (pss_one (ps_set (i := 2) sc_law_draws.nd rfl (Or.inl rfl) (pe_ix ix_seq (pv 0) (pv 1) (fun _ _ => rfl))))
  pss_nil)
 (pss_cons (ps_set (i := 3) sc_law_draws.nd rfl (Or.inl rfl) (pe_callB (call_max2 rfl) (by rfl) T.max (by decide +kernel) (pa_cons pe_int (pa_cons (pe_op op_sub (pv 2) (pe_op op_pow pe_int pe_int)) pa_nil))))
 (pss_one (ps_ret (pe_disp (pps_cons pe_str (pv 3) (pps_cons pe_str (pe_op op_mod (pe_callTy call_int1 (by rfl) T.int (by decide +kernel) (pa_cons (pv 2) pa_nil)) (pe_op op_add (pe_op op_pow pe_int pe_int) pe_int)) (pps_cons pe_str pe_int (pps_cons pe_str (pv 1) pps_nil)))) (by rfl) (by rfl) (fun z => by cases z) (by decide))))))), ?_⟩
    refine ⟨_, rfl, _, _, rfl, rfl, .inl ⟨by decide, by decide⟩, _, _, rfl, rfl, ?_⟩
    refine ⟨_, rfl, _, rfl, a, _, rfl, .inl hs, _, _, rfl, rfl, _, rfl, ?_⟩
    refine ifD (fun hlt => ?_) (fun hge => ?_)
    · rw [List.length_map] at hlt
      have hk : k.toNat < ns.length := by omega
      refine ⟨_, rfl, _, rfl, .inl ⟨_, _, _, _, rfl, rfl, hs, atN (at_map (List.getElem?_eq_getElem hk)) (by omega), ?_⟩⟩
      generalize ns[k.toNat] = cell
      refine ⟨_, rfl, _, _, rfl, rfl, ⟨by decide, by decide, by decide⟩, _, _, rfl, rfl, _, _, rfl, ?_⟩
      dsimp only
      generalize (if cell - (10 : Int) ^ (18 : Int).toNat > 0 then cell - (10 : Int) ^ (18 : Int).toNat else 0) = rest
      intro p hp
      refine ⟨_, rfl, _, rfl, .inl ⟨_, rfl, _, _, rfl, rfl, ⟨by decide, by decide, by decide⟩, _, _, rfl, rfl, _, _, rfl, rfl, (by show (0 : Int) < 10 ^ (39 : Int).toNat + 3; decide), _, rfl, ?_⟩⟩
      refine ⟨upd_same, drK rest (cell % (10 ^ (39 : Int).toNat + 3)) 0 k, rfl, by show 4 ≤ 15; decide, ?_⟩
      have em : mergeK [] (drK rest (cell % (10 ^ (39 : Int).toNat + 3)) 0 k) = drK rest (cell % (10 ^ (39 : Int).toNat + 3)) 0 k := rfl
      rw [em, upd_upd]
      exact q _ p (same_upd hp) hp ⟨_, _, _, _, upd_same, Int.emod_nonneg _ (by decide), Int.emod_lt_of_pos _ (by decide), by omega, by omega, by omega, by omega⟩
    · dsimp only
      generalize 7 * k + 3 = cell
      refine ⟨_, rfl, _, _, rfl, rfl, ⟨by decide, by decide, by decide⟩, _, _, rfl, rfl, _, _, rfl, ?_⟩
      dsimp only
      generalize (if cell - (10 : Int) ^ (18 : Int).toNat > 0 then cell - (10 : Int) ^ (18 : Int).toNat else 0) = rest
      intro p hp
      refine ⟨_, rfl, _, rfl, .inl ⟨_, rfl, _, _, rfl, rfl, ⟨by decide, by decide, by decide⟩, _, _, rfl, rfl, _, _, rfl, rfl, (by show (0 : Int) < 10 ^ (39 : Int).toNat + 3; decide), _, rfl, ?_⟩⟩
      refine ⟨upd_same, drK rest (cell % (10 ^ (39 : Int).toNat + 3)) 0 k, rfl, by show 4 ≤ 15; decide, ?_⟩
      have em : mergeK [] (drK rest (cell % (10 ^ (39 : Int).toNat + 3)) 0 k) = drK rest (cell % (10 ^ (39 : Int).toNat + 3)) 0 k := rfl
      rw [em, upd_upd]
      exact q _ p (same_upd hp) hp ⟨_, _, _, _, upd_same, Int.emod_nonneg _ (by decide), Int.emod_lt_of_pos _ (by decide), by omega, by omega, by omega, by omega⟩
def sp_law_draw (K : PySem.W.Frag) : Sp := fun vs H Q _ => ∃ (d : Addr) (n : Nat) (many : Int), vs = [.ref d, .int many] ∧ DrAt H d n ∧ n ≤ 1000000 ∧ 0 < many ∧ many < 1000000 ∧ ∀ (H' : Hp) (x : Int), SameL H H' → (∀ b, b ≠ d → H' b = H b) → DrAt H' d (n + 1) → 0 ≤ x → x < many → Q (.int x) H'
theorem w39 : ∀ x : Int, 0 ≤ x → x < 10 ^ 39 + 3 → x.natAbs < 2 ^ 140 := fun x h0 h1 => by
  have : (10 : Int) ^ 39 + 3 < 2 ^ 140 := by decide
  omega
-- slots [(0, '_law_draws_here'), (1, '_law_many'), (2, '_law_found'), (3, '_law_mark')]
theorem ok_law_draw {f : Addr} {fd : FuncData} (F : Fun K "_law_draw" "_law_draw" s_law_draw f fd) (T : Txt K mg)  : FnOk P w K mg base CX0 1 f fd ["_law_draws_here", "_law_many"] (sp_law_draw K) := by
  refine F.ok sc_law_draw (fun vs H Q E h => ?_) (fun cdv A outer s H vs Q E hr h => ?_)
  · obtain ⟨d, n, many, rfl, hd, hn, hm0, hm9, q⟩ := h
    rfl
  · obtain ⟨d, n, many, rfl, hd, hn, hm0, hm9, q⟩ := h
    have hu := hu_of hr
    refine ⟨_, (pss_cons (ps_if (pt_cmpR op_gt (pe_dget hu (pv 0) pe_str (fun _ _ => rfl)) pe_int (nomark _))
  (pss_cons (ps_set (i := 2) sc_law_draw.nd rfl (Or.inl rfl) (pe_op op_mod (pe_callTy call_int1 (by rfl) T.int (by decide +kernel) (pa_cons (pe_dget hu (pv 0) pe_str (fun _ _ => rfl)) pa_nil)) (pv 1)))
 (pss_cons (ps_dput hu (pv 0) pe_str (pe_op op_fdivW (pe_dget hu (pv 0) pe_str (fun _ _ => rfl)) (pv 1)) rfl)
 (pss_one (ps_ret (pv 2)))))
  pss_nil)
 (pss_cons (ps_dput hu (pv 0) pe_str (pe_op op_add (pe_dget hu (pv 0) pe_str (fun _ _ => rfl)) pe_int) rfl)
 (pss_cons (ps_set (i := 3) sc_law_draw.nd rfl (Or.inl rfl) (pe_op op_add (pe_op op_add (pe_op op_add (pe_dget hu (pv 0) pe_str (fun _ _ => rfl)) (pe_op op_mul pe_int (pe_dget hu (pv 0) pe_str (fun _ _ => rfl)))) (pe_op op_mul pe_int (pe_dget hu (pv 0) pe_str (fun _ _ => rfl)))) pe_int))
 (pss_cons (ps_set (i := 3) sc_law_draw.nd rfl (Or.inl rfl) (pe_op op_mod (pe_callTy call_int1 (by rfl) T.int (by decide +kernel) (pa_cons (pe_op op_mulW (pe_op op_mulW (pv 3) (pv 3)) (pv 3)) pa_nil)) (pe_op op_add (pe_op op_pow pe_int pe_int) pe_int)))
 (pss_cons (ps_set (i := 3) sc_law_draw.nd rfl (Or.inl rfl) (pe_op op_mod (pe_callTy call_int1 (by rfl) T.int (by decide +kernel) (pa_cons (pe_op op_mulW (pv 3) (pe_op op_add (pv 3) pe_int)) pa_nil)) (pe_op op_add (pe_op op_pow pe_int pe_int) pe_int)))
 (pss_one (ps_ret (pe_op op_mod (pe_callTy call_int1 (by rfl) T.int (by decide +kernel) (pa_cons (pe_op op_fdivW (pv 3) pe_int) pa_nil)) (pv 1))))))))), ?_⟩
    obtain ⟨rest, seed, turn, place, h, s0, s1, t0, t1, p0, p1⟩ := id hd
    obtain ⟨g1, g2, g3, g4⟩ := dr_get (rest := rest) (seed := seed) (turn := turn) (place := place)
    have G : ∀ {H : Hp} {rest seed turn place : Int}, H d = some (.dK (drK rest seed turn place)) → DGet H d (.str "rest") (some (.int rest)) ∧ DGet H d (.str "seed") (some (.int seed)) ∧ DGet H d (.str "turn") (some (.int turn)) ∧ DGet H d (.str "place") (some (.int place)) := fun {H rest seed turn place} h => by
      obtain ⟨g1, g2, g3, g4⟩ := dr_get (rest := rest) (seed := seed) (turn := turn) (place := place)
      refine ⟨?_, ?_, ?_, ?_⟩
      · rw [← g1]; exact DGet.k (k := (Sum.inr "rest" : Key)) h
      · rw [← g2]; exact DGet.k (k := (Sum.inr "seed" : Key)) h
      · rw [← g3]; exact DGet.k (k := (Sum.inr "turn" : Key)) h
      · rw [← g4]; exact DGet.k (k := (Sum.inr "place" : Key)) h
    refine ⟨_, rfl, d, _, rfl, (G h).1, _, _, rfl, rfl, _, rfl, ifD (fun hgt => ?_) (fun hle => ?_)⟩
    · refine ⟨_, rfl, d, _, rfl, (G h).1, .inl ⟨_, rfl, _, rfl, _, _, rfl, rfl, hm0, ?_⟩⟩
      refine ⟨_, rfl, d, _, rfl, (G h).1, _, rfl, _, _, rfl, rfl, wide_div (b := 20) hm0 (by omega) (by decide) (by decide), _, rfl, d, _, rfl, DPut.k (k := (Sum.inr "rest" : Key)) h (lt_line (by show 4 ≤ 100000; decide)), ?_⟩
      rw [dr_put.1]
      exact ⟨_, rfl, q _ _ (hd.dict (.refl _)) (fun b hb => upd_ne hb) ⟨_, _, _, _, upd_same, s0, s1, t0, by omega, p0, p1⟩ (Int.emod_nonneg _ (by omega)) (Int.emod_lt_of_pos _ hm0)⟩
    · refine ⟨_, rfl, d, _, rfl, (G h).2.2.1, _, _, rfl, rfl, _, rfl, d, _, rfl, DPut.k (k := (Sum.inr "turn" : Key)) h (lt_line (by show 4 ≤ 100000; decide)), ?_⟩
      rw [dr_put.2]
      have h2 : L2.upd H d (.dK (drK rest seed (turn + 1) place)) d = some (.dK (drK rest seed (turn + 1) place)) := upd_same
      have fin := fun x => q (L2.upd H d (.dK (drK rest seed (turn + 1) place))) x (hd.dict (.refl _)) (fun b hb => upd_ne hb) ⟨_, _, _, _, upd_same, s0, s1, by omega, by omega, p0, p1⟩
      generalize L2.upd H d (.dK (drK rest seed (turn + 1) place)) = H2 at *
      refine ⟨_, rfl, d, _, rfl, (G h2).2.1, _, rfl, d, _, rfl, (G h2).2.2.1, _, _, rfl, rfl, .inl ⟨by decide, by decide⟩, _, _, rfl, rfl, _, rfl, d, _, rfl, (G h2).2.2.2, _, _, rfl, rfl, .inl ⟨by decide, by decide⟩, _, _, rfl, rfl, _, _, rfl, rfl, ?_⟩
      have hmk : 0 ≤ seed + 86028121 * (turn + 1) + 15485863 * place + 1 ∧ seed + 86028121 * (turn + 1) + 15485863 * place + 1 < 2 ^ 141 := by
        have : (10 : Int) ^ 39 + 3 < 2 ^ 140 := by decide
        omega
      dsimp only
      generalize seed + 86028121 * (turn + 1) + 15485863 * place + 1 = mk at *
      have b1 : mk.natAbs < 2 ^ 141 := by omega
      have b2 : (mk * mk).natAbs < 2 ^ (141 + 141) := wide_lt b1 b1
      refine ⟨_, rfl, _, rfl, _, _, rfl, rfl, wide_mul b1 b1 (by decide) (by decide) (by decide), _, rfl, _, _, rfl, rfl, wide_mul b2 b1 (by decide) (by decide) (by decide), .inl ⟨_, rfl, ?_⟩⟩
      refine ⟨_, _, rfl, rfl, ⟨by decide, by decide, by decide⟩, _, _, rfl, rfl, _, _, rfl, rfl, (by show (0 : Int) < 10 ^ (37 : Int).toNat + 43; decide), ?_⟩
      have c0 : 0 ≤ mk * mk * mk % (10 ^ (37 : Int).toNat + 43) := Int.emod_nonneg _ (by decide)
      have c1 : mk * mk * mk % (10 ^ (37 : Int).toNat + 43) < 10 ^ (37 : Int).toNat + 43 := Int.emod_lt_of_pos _ (by decide)
      dsimp only
      generalize mk * mk * mk % (10 ^ (37 : Int).toNat + 43) = m2 at *
      have e37 : (10 : Int) ^ (37 : Int).toNat + 43 < 2 ^ 140 := by decide
      have b3 : m2.natAbs < 2 ^ 140 := by omega
      have b4 : (m2 + 611953).natAbs < 2 ^ 141 := by omega
      refine ⟨_, rfl, _, rfl, _, _, rfl, rfl, _, _, rfl, rfl, wide_mul b3 b4 (by decide) (by decide) (by decide), .inl ⟨_, rfl, ?_⟩⟩
      refine ⟨_, _, rfl, rfl, ⟨by decide, by decide, by decide⟩, _, _, rfl, rfl, _, _, rfl, rfl, (by show (0 : Int) < 10 ^ (36 : Int).toNat + 67; decide), ?_⟩
      dsimp only
      generalize m2 * (m2 + 611953) % (10 ^ (36 : Int).toNat + 67) = m3 at *
      refine ⟨_, rfl, _, _, rfl, rfl, wide_div (b := 20) (by decide) (by decide) (by decide) (by decide), .inl ⟨_, rfl, _, rfl, _, _, rfl, rfl, hm0, ?_⟩⟩
      exact fin _ (Int.emod_nonneg _ (by omega)) (Int.emod_lt_of_pos _ hm0)
def sp_law_pick (K : PySem.W.Frag) : Sp := fun vs H Q _ => ∃ (d l : Addr) (n : Nat) (xs : List V), vs = [.ref d, .ref l] ∧ DrAt H d n ∧ n < 1000000 ∧ H l = some (.lst xs) ∧ 0 < xs.length ∧ xs.length ≤ 1000 ∧ ∀ (H' : Hp) (v : V), SameL H H' → (∀ b, b ≠ d → H' b = H b) → DrAt H' d (n + 1) → v ∈ xs → Q v H'
-- slots [(0, '_law_draws_here'), (1, '_law_things')]
theorem ok_law_pick {f : Addr} {fd : FuncData} (F : Fun K "_law_pick" "_law_pick" s_law_pick f fd) (T : Txt K mg) (h_law_draw : Has P w K mg base "_law_draw" 1 ["_law_draws_here", "_law_many"] (sp_law_draw K)) : FnOk P w K mg base CX0 2 f fd ["_law_draws_here", "_law_things"] (sp_law_pick K) := by
  refine F.ok sc_law_pick (fun vs H Q E h => ?_) (fun cdv A outer s H vs Q E hr h => ?_)
  · obtain ⟨d, l, n, xs, rfl, hd, hn, hl, hx0, hx9, q⟩ := h
    rfl
  · obtain ⟨d, l, n, xs, rfl, hd, hn, hl, hx0, hx9, q⟩ := h
    have hu := hu_of hr
    refine ⟨_, (pss_one (ps_ret (pe_ix ix_seq (pv 1) (pe_call h_law_draw.G (hr.mono (by decide)) rfl h_law_draw.m h_law_draw.kp h_law_draw.b .nil pass0 (pa_cons (pv 0) (pa_cons (pe_callB call_len_seq (by rfl) T.len (by decide +kernel) (pa_cons (pv 1) pa_nil)) pa_nil))) (fun _ _ => rfl)))), ?_⟩
    refine ⟨_, rfl, _, rfl, _, rfl, l, _, rfl, .inl (.of hl), d, n, _, rfl, hd, by omega, by omega, by omega, fun H1 x s1 k1 hd1 x0 x1 => ?_⟩
    have hi : x.toNat < xs.length := by omega
    exact .inl ⟨_, _, _, _, rfl, rfl, .of (s1.l hl), atN (List.getElem?_eq_getElem hi) (by omega), q H1 _ s1 k1 hd1 (List.getElem_mem hi)⟩
def sp_law_history (K : PySem.W.Frag) : Sp := fun vs H Q _ => ∃ (d t : Addr) (n : Nat) (z : Tms), vs = [.ref d, .ref t] ∧ DrAt H d n ∧ n ≤ 100000 ∧ TmAt H t z ∧ z.Ok ∧ ∀ (H' : Hp) (a : Addr) (rows : Rows), SameL H H' → DrAt H' d (n + 100) → His H' a t z rows → Q (.ref a) H'
structure RowsW (rs : Rows) (i : Nat) (m : Int) : Prop where
  len : rs.length = i
  z0 : i = 0 → m = 0
  z : 0 < i → ∃ v, rs[0]? = some (0, v)
  asc : ∀ (i j : Nat) p p', i < j → rs[i]? = some p → rs[j]? = some p' → p.1 < p'.1
  lt : ∀ p ∈ rs, 0 ≤ p.1 ∧ p.1 < m
  m0 : 0 ≤ m
  m9 : m ≤ 41 * i
  val : ∀ p ∈ rs, p.2 ∈ four
theorem RowsW.add {rs : Rows} {i : Nat} {m m' : Int} {v : Str} (h : RowsW rs i m) (hv : v ∈ four) (h1 : m < m') (h2 : m' ≤ m + 41) : RowsW (rs ++ [(m, v)]) (i + 1) m' := by
  have hm := h.m0
  have h9 := h.m9
  refine ⟨by rw [List.length_append, h.len]; rfl, (fun e => nomatch e), fun _ => ?_, fun a b p p' hab ea eb => ?_, fun p hp => ?_, by omega, by omega, fun p hp => ?_⟩
  · by_cases h0 : i = 0
    · have e := List.eq_nil_of_length_eq_zero (h.len.trans h0)
      subst e
      rw [h.z0 h0]
      exact ⟨v, rfl⟩
    · obtain ⟨w, hw⟩ := h.z (by omega)
      exact ⟨w, by rw [List.getElem?_append_left (by rw [h.len]; omega)]; exact hw⟩
  · have hb : b < rs.length + 1 := by
      have := (List.getElem?_eq_some_iff.mp eb).1
      simpa using this
    rw [List.getElem?_append_left (by omega)] at ea
    by_cases hb2 : b < rs.length
    · rw [List.getElem?_append_left hb2] at eb
      exact h.asc a b p p' hab ea eb
    · have e : b = rs.length := by omega
      subst e
      rw [List.getElem?_append_right (Nat.le_refl _), Nat.sub_self] at eb
      cases eb
      exact (h.lt p (List.mem_of_getElem? ea)).2
  · rcases List.mem_append.mp hp with hp | hp
    · have := h.lt p hp; omega
    · have := List.mem_singleton.mp hp; subst this; show 0 ≤ m ∧ m < m'; omega
  · rcases List.mem_append.mp hp with hp | hp
    · exact h.val p hp
    · have := List.mem_singleton.mp hp; subst this; exact hv
theorem RowsW.ok {rs : Rows} {i : Nat} {m : Int} (h : RowsW rs i m) (h0 : 0 < i) (h8 : i ≤ 8) : RowsOk rs := by
  have := h.m9
  exact ⟨⟨h.z h0, h.asc⟩, h.val, by rw [h.len]; exact h8, fun p hp => by have := h.lt p hp; omega⟩
theorem HisAt.add {H : Hp} {a t b : Addr} {rows : Rows} {xs : List V} {m : Int} {v : Str} (hl : xs.length = rows.length) (h : ∀ (i : Nat) p v, rows[i]? = some p → xs[i]? = some v → RowV H t p v) (hb : H b = some (.tup [.int m, .ref t, .str v])) (ha : H a = some (.lst (xs ++ [.ref b]))) :
    HisAt H a t (rows ++ [(m, v)]) := by
  refine ⟨xs ++ [.ref b], ha, by simp [hl], fun i p w ep ew => ?_⟩
  by_cases hi : i < rows.length
  · rw [List.getElem?_append_left hi] at ep
    rw [List.getElem?_append_left (by omega)] at ew
    exact h i p w ep ew
  · rw [List.getElem?_append_right (by omega)] at ep
    rw [List.getElem?_append_right (by omega)] at ew
    have e : i - rows.length = 0 := by
      have := (List.getElem?_eq_some_iff.mp ep).1
      simp only [List.length_singleton] at this
      omega
    rw [hl, e] at ew
    rw [e] at ep
    cases ep
    cases ew
    exact ⟨b, rfl, hb⟩
-- slots [(0, '_law_draws_here'), (1, '_law_timers'), (2, '_law_rows'), (3, '_law_moment'), (4, '_law_turn')]
theorem ok_law_history {f : Addr} {fd : FuncData} (F : Fun K "_law_history" "_law_history" s_law_history f fd) (T : Txt K mg) (h_law_draw : Has P w K mg base "_law_draw" 1 ["_law_draws_here", "_law_many"] (sp_law_draw K)) (h_law_pick : Has P w K mg base "_law_pick" 2 ["_law_draws_here", "_law_things"] (sp_law_pick K)) : FnOk P w K mg base CX0 3 f fd ["_law_draws_here", "_law_timers"] (sp_law_history K) := by
  refine F.ok sc_law_history (fun vs H Q E h => ?_) (fun cdv A outer s H vs Q E hr h => ?_)
  · obtain ⟨d, t, n, z, rfl, hd, hn, ht, ok, q⟩ := h
    rfl
  · obtain ⟨d, t, n, z, rfl, hd, hn, ht, ok, q⟩ := h
    have hu := hu_of hr
    refine ⟨_, (pss_cons (ps_par (i := 2) (j := 3) (by rfl) sc_law_history.nd rfl rfl (by decide) rfl rfl (pa_cons (pe_lst pa_nil) (pa_cons pe_int pa_nil)) (by rfl))
 (pss_cons (ps_for PassesOwn.never rfl (pi_range1 (by rfl) T.range (pa_cons (pe_op op_add pe_int (pe_call h_law_draw.G (hr.mono (by decide)) rfl h_law_draw.m h_law_draw.kp h_law_draw.b .nil pass0 (pa_cons (pv 0) (pa_cons pe_int pa_nil)))) pa_nil)) (pg_name (i := 4) sc_law_history.nd rfl (Or.inl rfl))
  (pss_cons (ps_expr (pe_bm PySem.F.plainAttrs_list PySem.F.slot_list_append PySem.F.type_list_append mt_append (pv 2) (pa_cons (pe_tup (pa_cons (pv 3) (pa_cons (pv 1) (pa_cons (pe_call h_law_pick.G (hr.mono (by decide)) rfl h_law_pick.m h_law_pick.kp h_law_pick.b .nil pass0 (pa_cons (pv 0) (pa_cons (pe_lst (pa_cons pe_str (pa_cons pe_str (pa_cons pe_str (pa_cons pe_str pa_nil))))) pa_nil))) pa_nil)))) pa_nil)))
 (pss_one (ps_set (i := 3) sc_law_history.nd rfl (Or.inl rfl) (pe_op op_add (pe_op op_add (pv 3) pe_int) (pe_call h_law_draw.G (hr.mono (by decide)) rfl h_law_draw.m h_law_draw.kp h_law_draw.b .nil pass0 (pa_cons (pv 0) (pa_cons (pe_ix ix_seq (pe_lst (pa_cons pe_int (pa_cons pe_int (pa_cons pe_int pa_nil)))) (pe_call h_law_draw.G (hr.mono (by decide)) rfl h_law_draw.m h_law_draw.kp h_law_draw.b .nil pass0 (pa_cons (pv 0) (pa_cons pe_int pa_nil))) (fun _ _ => rfl)) pa_nil))))))))
 (pss_one (ps_ret (pv 2))))), ?_⟩
    refine ⟨Nat.zero_le _, fun A hA => ⟨_, _, rfl, ?_⟩⟩
    have nA : d ≠ A := by
      obtain ⟨_, _, _, _, e, _⟩ := id hd
      exact ne_of_none e hA
    have d1 : DrAt (upd H A (.lst [])) d n := hd.upd nA
    have s1 : SameL H (upd H A (.lst [])) := SameL.upd hA (.refl _)
    refine ⟨_, rfl, d, n, 8, rfl, d1, by omega, by decide, by decide, fun H2 x s2 k2 hd2 x0 x1 => ?_⟩
    refine ⟨_, _, rfl, rfl, _, rfl, by omega, by omega, ?_⟩
    have en : (1 + x).toNat = x.toNat + 1 := by omega
    rw [en]
    refine for_range (fun i σ H3 => ∃ m rs y4, σ = [some (.ref d), some (.ref t), some (.ref A), some (.int m), y4] ∧ SameL H H3 ∧ DrAt H3 d (n + 1 + 3 * i) ∧ HisAt H3 A t rs ∧ RowsW rs i m)
      ⟨0, [], none, rfl, s1.trans s2, hd2, ⟨[], s2.l upd_same, rfl, fun i p v e => by simp at e⟩, ⟨rfl, fun _ => rfl, fun h => absurd h (Nat.lt_irrefl _), fun i j p p' _ e => by simp at e, (fun p h => nomatch h), Int.le_refl 0, Int.le_refl 0, (fun p h => nomatch h)⟩⟩
      (fun i σ H3 hi hw => ?_) (fun σ H3 hw => ?_)
    · obtain ⟨m, rs, y4, rfl, s3, hd3, ⟨xs, hxs, hxl, hrow⟩, W⟩ := hw
      refine ⟨_, rfl, .inl ⟨rfl, _, .of hxs⟩, _, rfl, _, rfl, _, rfl, line_le (by show 4 ≤ 1000000; decide), fun B1 hB1 => ?_⟩
      have nB1 : d ≠ B1 := by
        obtain ⟨_, _, _, _, e, _⟩ := id hd3
        exact ne_of_none e hB1
      have s4 : SameL H3 (upd H3 B1 (.lst [.str "a", .str "b", .str "old", .str "new"])) := SameL.upd hB1 (.refl _)
      have d4 := hd3.upd (o := .lst [.str "a", .str "b", .str "old", .str "new"]) nB1
      refine ⟨d, B1, _, _, rfl, d4, by omega, upd_same, by decide, by show 4 ≤ 1000; decide, fun H5 v s5 k5 hd5 hv => ?_⟩
      obtain ⟨v, rfl, hv4⟩ : ∃ w, v = .str w ∧ w ∈ four := by
        have : v ∈ four.map V.str := hv
        obtain ⟨w, hw, e⟩ := List.mem_map.mp this
        exact ⟨w, e.symm, hw⟩
      refine ⟨line_le (by show 3 ≤ 1000000; decide), fun B hB => ?_⟩
      have s35 := s4.trans s5
      have nB : d ≠ B := by
        obtain ⟨_, _, _, _, e, _⟩ := id hd5
        exact ne_of_none e hB
      have s6 : SameL H3 (upd H5 B (.tup [.int m, .ref t, .str v])) := SameL.upd (s35.free hB) s35
      have b6 : upd H5 B (.tup [.int m, .ref t, .str v]) B = some (.tup [.int m, .ref t, .str v]) := upd_same
      have d6 := hd5.upd (o := .tup [.int m, .ref t, .str v]) nB
      generalize upd H5 B (.tup [.int m, .ref t, .str v]) = H6 at *
      have xs6 := s6.l hxs
      have fewx : xs.length ≤ 8 := by rw [hxl, W.len]; omega
      refine ⟨A, _, _, rfl, rfl, xs6, lt_line (by omega), ?_⟩
      have nBA : B ≠ A := ne_of b6 xs6 fun e => nomatch e
      have s7 : SameL H (upd H6 A (.lst (xs ++ [.ref B]))) := SameL.upd hA (s3.trans s6)
      have d7 := d6.upd (o := .lst (xs ++ [.ref B])) nA
      have h7 : HisAt (upd H6 A (.lst (xs ++ [.ref B]))) A t (rs ++ [(m, v)]) := by
        refine HisAt.add hxl (fun i p w ep ew => ?_) (by rw [upd_ne nBA]; exact b6) upd_same
        obtain ⟨c, ec, hc⟩ := hrow i p w ep ew
        have hc6 := s6.t hc
        exact ⟨c, ec, by rw [upd_ne (ne_of hc6 xs6 fun e => nomatch e)]; exact hc6⟩
      generalize upd H6 A (.lst (xs ++ [.ref B])) = H7 at *
      refine ⟨_, rfl, _, _, rfl, rfl, _, rfl, line_le (by show 3 ≤ 1000000; decide), fun C hC => ?_⟩
      have nC : d ≠ C := by
        obtain ⟨_, _, _, _, e, _⟩ := id d7
        exact ne_of_none e hC
      have s8 : SameL H7 (upd H7 C (.lst [.int 2, .int 12, .int 40])) := SameL.upd hC (.refl _)
      have d8 := d7.upd (o := .lst [.int 2, .int 12, .int 40]) nC
      refine ⟨_, rfl, d, _, 3, rfl, d8, by omega, by decide, by decide, fun H9 k s9 k9 hd9 k0 k1 => ?_⟩
      obtain ⟨many, hat, m0, m9⟩ : ∃ many, atI [V.int 2, V.int 12, V.int 40] k = some (.int many) ∧ 0 < many ∧ many ≤ 40 := by
        have : k = 0 ∨ k = 1 ∨ k = 2 := by omega
        rcases this with rfl | rfl | rfl
        · exact ⟨2, rfl, by decide, by decide⟩
        · exact ⟨12, rfl, by decide, by decide⟩
        · exact ⟨40, rfl, by decide, by decide⟩
      refine .inl ⟨_, _, _, _, rfl, rfl, .of (s9.l upd_same), hat, ?_⟩
      refine ⟨d, _, many, rfl, hd9, by omega, m0, by omega, fun H10 x s10 k10 hd10 x0 x1 => ?_⟩
      have s710 := (s8.trans s9).trans s10
      exact ⟨_, _, rfl, rfl, _, rs ++ [(m, v)], _, rfl, s7.trans s710, hd10.more (by omega), h7.sameL s710, W.add hv4 (by omega) (by omega)⟩
    · obtain ⟨m, rs, y4, rfl, s3, hd3, h3, W⟩ := hw
      exact ⟨_, rfl, q H3 A rs s3 (hd3.more (by omega)) ⟨h3, s3.t ht, ok, W.ok (by omega) (by omega)⟩⟩
end
end K96

namespace K96
open PySem PySem.Spec PyProof.Rows L2
/-! K96L2: the row in force and the staleness once more, the law's walk, its copy. -/
section
variable {P : Program} {w : World} {K : PySem.W.Frag} {mg : Str → Option Value} {base : Heap}
theorem atI_end {α : Type} {xs : List α} {v : α} (h : xs.getLast? = some v) : atI xs (-1) = some v := by
  obtain ⟨ys, rfl⟩ := List.getLast?_eq_some_iff.mp h
  exact atI_last ys v
def sp_law_force (K : PySem.W.Frag) : Sp := fun vs H Q _ => ∃ (a t : Addr) (z : Tms) (rows : Rows) (m : Int), vs = [.ref a, .int m] ∧ His H a t z rows ∧ 0 ≤ m ∧
  ∀ (H' : Hp) b p, Same H H' → K96M.InF rows m p → H' b = some (.tup [.int p.1, .ref t, .str p.2]) → Q (.ref b) H'
-- slots [(0, '_law_history_here'), (1, '_law_moment'), (2, '_law_row')]
theorem ok_law_force {f : Addr} {fd : FuncData} (F : Fun K "_law_force" "_law_force" s_law_force f fd) (T : Txt K mg)  : FnOk P w K mg base CX0 1 f fd ["_law_history_here", "_law_moment"] (sp_law_force K) := by
  refine F.ok sc_law_force (fun vs H Q E h => ?_) (fun cdv A outer s H vs Q E hr h => ?_)
  · obtain ⟨a, t, z, rows, m, rfl, hh, hm, q⟩ := h
    rfl
  · obtain ⟨a, t, z, rows, m, rfl, hh, hm, q⟩ := h
    have hu := hu_of hr
    refine ⟨_, (pss_one (ps_ret (pe_ix ix_seq (pe_lc (own := [("_law_row", 2)]) (g := (gName 2)) (tt := (tTest (tOp rLe (tOp (rIx K) (tVar 2) (tC (.int 0))) (tVar 1)))) (te := (tVar 2)) rfl sc_law_force.nd (pi_list (pv 0)) (blkOk_by (N := ["_law_history_here", "_law_moment", "_law_row"]) (sc := defScope s_law_force) (by decide +kernel)) (fun _ _ _ _ _ => (pg_name (i := 2) sc_law_force.nd rfl (Or.inl rfl))) (fun _ _ _ _ _ => (pts_one (pt_cmpR op_le (pe_ix ix_seq (pv 2) pe_int (fun _ _ => rfl)) (pv 1) (nomark _)))) (fun _ _ _ _ _ => (pv 2))) (pe_un un_neg pe_int) (fun _ _ => rfl)))), ?_⟩
    obtain ⟨⟨xs, hl, hxl, hrow⟩, ht, ok, ro⟩ := id hh
    have few := ro.few
    obtain ⟨v0, hv0⟩ := ro.ok.z
    refine ⟨_, rfl, a, rfl, ⟨_, .of hl⟩, fun D hD => lc_list (K := K) (a := a) (xs := xs) (fun n H1 => Same H H1 ∧ ∃ acc, H1 D = some (.lst acc) ∧ acc.length ≤ n ∧ (n = 0 ∨ ∃ b i p, acc.getLast? = some (.ref b) ∧ H b = some (.tup [.int p.1, .ref t, .str p.2]) ∧ Upto rows m n i p))
      ⟨same_upd hD, [], upd_same, Nat.le_refl _, .inl rfl⟩ (fun i H1 _ w => .of (w.1 _ _ hl)) (fun n x H1 hx w => ?_) (fun H1 w => ?_)⟩
    · obtain ⟨s1, acc, hacc, hlen, hor⟩ := w
      obtain ⟨r, hr1, b, rfl, hb⟩ := row_at hxl hrow hx
      have hn : n < xs.length := (List.getElem?_eq_some_iff.mp hx).1
      refine ⟨rfl, _, rfl, .inr (.inl ⟨_, _, _, _, rfl, rfl, .of (s1 _ _ hb), rfl, ?_⟩)⟩
      refine ⟨_, rfl, _, _, rfl, rfl, _, rfl, ifD (fun hle => ?_) (fun hgt => ?_)⟩
      · refine ⟨_, rfl, acc, hacc, lt_line (by omega), same_upd2 hD s1, _, upd_same, by rw [List.length_append, List.length_singleton]; omega, .inr ⟨b, n, r, by simp, hb, .here hr1 hle⟩⟩
      · refine ⟨s1, acc, hacc, by omega, ?_⟩
        rcases hor with e | ⟨b2, i, p, h1, h2, h3⟩
        · subst e
          rw [hv0] at hr1
          cases hr1
          exact absurd hm hgt
        · exact .inr ⟨b2, i, p, h1, h2, h3.step hr1 hgt⟩
    · obtain ⟨s1, acc, hacc, hlen, hor⟩ := w
      rcases hor with e | ⟨b, i, p, h1, h2, h3⟩
      · have := (List.getElem?_eq_some_iff.mp hv0).1
        omega
      · rw [hxl] at h3
        exact ⟨_, rfl, .inl ⟨_, _, _, _, rfl, rfl, .of hacc, atI_end h1, q H1 b p s1 h3.fin (s1 _ _ h2)⟩⟩
def sp_law_lag (K : PySem.W.Frag) : Sp := fun vs H Q _ => ∃ (a t : Addr) (z : Tms) (rows : Rows) (m : Int) (v : Str) (L : Int), vs = [.ref a, .int m, .str v] ∧ His H a t z rows ∧ m ≤ 100000 ∧ K96M.IsLag rows m v L ∧ ∀ H', Same H H' → Q (.int L) H'
-- slots [(0, '_law_history_here'), (1, '_law_moment'), (2, '_law_value'), (3, '_law_back')]
theorem ok_law_lag {f : Addr} {fd : FuncData} (F : Fun K "_law_lag" "_law_lag" s_law_lag f fd) (T : Txt K mg) (h_law_force : Has P w K mg base "_law_force" 1 ["_law_history_here", "_law_moment"] (sp_law_force K)) : FnOk P w K mg base CX0 2 f fd ["_law_history_here", "_law_moment", "_law_value"] (sp_law_lag K) := by
  refine F.ok sc_law_lag (fun vs H Q E h => ?_) (fun cdv A outer s H vs Q E hr h => ?_)
  · obtain ⟨a, t, z, rows, m, v, L, rfl, hh, hm9, hL, q⟩ := h
    rfl
  · obtain ⟨a, t, z, rows, m, v, L, rfl, hh, hm9, hL, q⟩ := h
    have hu := hu_of hr
    refine ⟨_, (pss_cons (ps_for PassesOwn.never rfl (pi_range1 (by rfl) T.range (pa_cons (pe_op op_add (pv 1) pe_int) pa_nil)) (pg_name (i := 3) sc_law_lag.nd rfl (Or.inl rfl))
  (pss_one (ps_if (pt_cmpR op_eq (pe_ix ix_seq (pe_call h_law_force.G (hr.mono (by decide)) rfl h_law_force.m h_law_force.kp h_law_force.b .nil pass0 (pa_cons (pv 0) (pa_cons (pe_op op_sub (pv 1) (pv 3)) pa_nil))) pe_int (fun _ _ => rfl)) (pv 2) (nomark _))
  (pss_one (ps_ret (pv 3)))
  pss_nil)))
 (pss_one (ps_ret (pe_op op_add (pv 1) pe_int)))), ?_⟩
    obtain ⟨L0, L1, L2', L3⟩ := id hL
    refine ⟨_, rfl, _, _, rfl, rfl, _, rfl, by omega, by omega, ?_⟩
    refine for_range (fun i σ H1 => ∃ y3, σ = [some (.ref a), some (.int m), some (.str v), y3] ∧ Same H H1 ∧ ∀ j : Nat, j < i → ¬ K96M.Val rows (m - j) v)
      ⟨none, rfl, .refl _, fun j h => absurd h (Nat.not_lt_zero _)⟩ (fun i σ H1 hi hw => ?_) (fun σ H1 hw => ?_)
    · obtain ⟨y3, rfl, s1, no⟩ := hw
      have hh1 := hh.same s1
      refine ⟨_, rfl, _, rfl, _, rfl, _, _, rfl, rfl, a, t, z, rows, _, rfl, hh1, by omega, fun H2 b p s2 hp hb => ?_⟩
      refine .inr (.inl ⟨_, _, _, _, rfl, rfl, .of hb, rfl, ?_⟩)
      have e0 : m - (0 + (i : Int)) = m - i := by omega
      rw [e0] at hp
      refine ⟨_, rfl, rfl, _, rfl, ifD (fun hv => ?_) (fun hv => ?_)⟩
      · have hv2 := V.str.inj hv
        have hlag : K96M.IsLag rows m v i := ⟨by omega, by omega, ⟨p, hp, hv2⟩, fun u h1 h2 => by
          have := no (m - u).toNat (by omega)
          have e : m - ((m - u).toNat : Int) = u := by omega
          rwa [e] at this⟩
        have := hlag.uniq hL
        refine ⟨_, rfl, ?_⟩
        have e : (0 : Int) + (i : Int) = L := by omega
        rw [e]
        exact q H2 (s1.trans s2)
      · refine ⟨_, rfl, s1.trans s2, fun j hj => ?_⟩
        by_cases e : j = i
        · subst e
          rintro ⟨p', hp', ev⟩
          have := hp'.uniq hp
          subst this
          exact hv (by rw [ev])
        · exact no j (by omega)
    · obtain ⟨y3, rfl, s1, no⟩ := hw
      refine absurd L2' ?_
      have := no L.toNat (by omega)
      have e : m - (L.toNat : Int) = m - L := by omega
      rwa [e] at this
/-- rows of two ints stand at l -/
def PairV (H : Hp) (p : Int × Int) (v : V) : Prop := ∃ b, v = .ref b ∧ H b = some (.tup [.int p.1, .int p.2])
structure PairsAt (H : Hp) (l : Addr) (R : List (Int × Int)) : Prop where
  ls : ∃ xs, H l = some (.lst xs) ∧ xs.length = R.length ∧ ∀ (i : Nat) p v, R[i]? = some p → xs[i]? = some v → PairV H p v
theorem PairsAt.sameL {H H' : Hp} {l : Addr} {R : List (Int × Int)} (s : SameL H H') (h : PairsAt H l R) : PairsAt H' l R := by
  obtain ⟨xs, h1, h2, h3⟩ := h.ls
  refine ⟨xs, s.l h1, h2, fun i p v e e' => ?_⟩
  obtain ⟨b, e1, e2⟩ := h3 i p v e e'
  exact ⟨b, e1, s.t e2⟩
theorem PairsAt.same {H H' : Hp} {l : Addr} {R : List (Int × Int)} (s : Same H H') (h : PairsAt H l R) : PairsAt H' l R := h.sameL (.of s)
theorem PairsAt.add {H : Hp} {l b : Addr} {R : List (Int × Int)} {xs : List V} {p : Int × Int} (hl : xs.length = R.length) (h : ∀ (i : Nat) p v, R[i]? = some p → xs[i]? = some v → PairV H p v) (hb : H b = some (.tup [.int p.1, .int p.2])) (ha : H l = some (.lst (xs ++ [.ref b]))) :
    PairsAt H l (R ++ [p]) := by
  refine ⟨xs ++ [.ref b], ha, by simp [hl], fun i p' w ep ew => ?_⟩
  by_cases hi : i < R.length
  · rw [List.getElem?_append_left hi] at ep
    rw [List.getElem?_append_left (by omega)] at ew
    exact h i p' w ep ew
  · rw [List.getElem?_append_right (by omega)] at ep
    rw [List.getElem?_append_right (by omega)] at ew
    have e : i - R.length = 0 := by
      have := (List.getElem?_eq_some_iff.mp ep).1
      simp only [List.length_singleton] at this
      omega
    rw [hl, e] at ew
    rw [e] at ep
    cases ep
    cases ew
    exact ⟨b, rfl, hb⟩
theorem pair_at {H : Hp} {R : List (Int × Int)} {xs : List V} (hl : xs.length = R.length) (h : ∀ (i : Nat) p v, R[i]? = some p → xs[i]? = some v → PairV H p v) {i : Nat} {v : V} (e : xs[i]? = some v) : ∃ p, R[i]? = some p ∧ PairV H p v := by
  have hi : i < xs.length := (List.getElem?_eq_some_iff.mp e).1
  have e2 : R[i]? = some R[i] := List.getElem?_eq_getElem (by omega)
  exact ⟨_, e2, h i _ v e2 e⟩
def sp_law_copy (K : PySem.W.Frag) : Sp := fun vs H Q _ => ∃ (a t rw : Addr) (z : Tms) (rows : Rows) (R : List (Int × Int)) (m : Int), vs = [.ref a, .ref rw, .int m] ∧ His H a t z rows ∧ PairsAt H rw R ∧ R.length ≤ 1000 ∧ 0 ≤ K96M.lastOf R m ∧
  ∀ (H' : Hp) D b p, Same H H' → H' D = some (.tup [.int (K96M.lastOf R m), .ref b]) → K96M.InF rows (K96M.lastOf R m) p → H' b = some (.tup [.int p.1, .ref t, .str p.2]) → Q (.ref D) H'
-- slots [(0, '_law_history_here'), (1, '_law_rows'), (2, '_law_moment'), (3, '_law_last'), (4, '_law_asked'), (5, '_law_success')]
theorem ok_law_copy {f : Addr} {fd : FuncData} (F : Fun K "_law_copy" "_law_copy" s_law_copy f fd) (T : Txt K mg) (h_law_force : Has P w K mg base "_law_force" 1 ["_law_history_here", "_law_moment"] (sp_law_force K)) : FnOk P w K mg base CX0 2 f fd ["_law_history_here", "_law_rows", "_law_moment"] (sp_law_copy K) := by
  refine F.ok sc_law_copy (fun vs H Q E h => ?_) (fun cdv A outer s H vs Q E hr h => ?_)
  · obtain ⟨a, t, rw, z, rows, R, m, rfl, hh, hR, hn, h0, q⟩ := h
    rfl
  · obtain ⟨a, t, rw, z, rows, R, m, rfl, hh, hR, hn, h0, q⟩ := h
    have hu := hu_of hr
    refine ⟨_, (pss_cons (ps_set (i := 3) sc_law_copy.nd rfl (Or.inl rfl) (pe_ix ix_seq (pe_op op_cat (pe_lst (pa_cons pe_int pa_nil)) (pe_lc (own := [("_law_asked", 4), ("_law_success", 5)]) (g := (gTup K 2 (gCons (gName 4) (gCons (gName 5) gNil)))) (tt := (tTest (tOp rLe (tVar 4) (tVar 2)))) (te := (tVar 5)) rfl sc_law_copy.nd (pi_list (pv 1)) (blkOk_by (N := ["_law_history_here", "_law_rows", "_law_moment", "_law_last", "_law_asked", "_law_success"]) (sc := defScope s_law_copy) (by decide +kernel)) (fun _ _ _ _ _ => (pg_tup rfl (pgs_cons (pg_name (i := 4) sc_law_copy.nd rfl (Or.inl rfl)) (pgs_cons (pg_name (i := 5) sc_law_copy.nd rfl (Or.inl rfl)) pgs_nil)))) (fun _ _ _ _ _ => (pts_one (pt_cmpR op_le (pv 4) (pv 2) (nomark _)))) (fun _ _ _ _ _ => (pv 5)))) (pe_un un_neg pe_int) (fun _ _ => rfl)))
 (pss_one (ps_ret (pe_tup (pa_cons (pv 3) (pa_cons (pe_call h_law_force.G (hr.mono (by decide)) rfl h_law_force.m h_law_force.kp h_law_force.b .nil pass0 (pa_cons (pv 0) (pa_cons (pv 3) pa_nil))) pa_nil)))))), ?_⟩
    obtain ⟨xs, hl, hxl, hrow⟩ := id hR
    refine ⟨line_le (by show 1 ≤ 1000000; decide), fun A hA => ?_⟩
    have s1 : Same H (upd H A (.lst [.int 0])) := same_upd hA
    have a1 : upd H A (.lst [.int 0]) A = some (.lst [.int 0]) := upd_same
    generalize upd H A (.lst [.int 0]) = H1 at *
    refine ⟨_, rfl, rw, rfl, ⟨_, .of (s1 _ _ hl)⟩, fun D hD => lc_list (K := K) (a := rw) (xs := xs) (LcP H1 D R (fun p => decide (p.1 ≤ m)) (fun p => V.int p.2)) (lc_start hD) (fun i H2 _ p => .of (p.sm _ _ (s1 _ _ hl))) (fun i x H2 hx p => ?_) (fun H2 p => ?_)⟩
    · obtain ⟨r, hr1, b, rfl, hb⟩ := pair_at hxl hrow hx
      refine ⟨b, _, rfl, .of (p.sm _ _ (s1 _ _ hb)), rfl, _, _, rfl, _, _, rfl, rfl, rfl, ?_⟩
      refine ⟨_, rfl, _, rfl, _, _, rfl, rfl, _, rfl, ifD (fun hle => ?_) (fun hgt => ?_)⟩
      · exact ⟨_, rfl, lc_keep hD p (.refl _) hr1 (decide_eq_true hle) rfl (by omega)⟩
      · exact lc_skip p (.refl _) hr1 (decide_eq_false hgt)
    rw [hxl] at p
    have d2 := lc_end p
    have s2 := p.sm
    have flen : (R.filter fun p => decide (p.1 ≤ m)).length ≤ R.length := List.length_filter_le _ _
    refine ⟨A, D, _, _, rfl, rfl, s2 _ _ a1, d2, line_le (by rw [List.length_map, List.length_singleton]; omega), fun E hE => ?_⟩
    have s3 : Same H2 (upd H2 E (.lst ([.int 0] ++ (R.filter fun p => decide (p.1 ≤ m)).map fun p => V.int p.2))) := same_upd hE
    have e3 : upd H2 E (.lst ([.int 0] ++ (R.filter fun p => decide (p.1 ≤ m)).map fun p => V.int p.2)) E = some (.lst ([.int 0] ++ (R.filter fun p => decide (p.1 ≤ m)).map fun p => V.int p.2)) := upd_same
    have el : ([V.int 0] ++ (R.filter fun p => decide (p.1 ≤ m)).map fun p => V.int p.2).getLast? = some (.int (K96M.lastOf R m)) := by
      have : ([V.int 0] ++ (R.filter fun p => decide (p.1 ≤ m)).map fun p => V.int p.2) = (((0 : Int) :: (R.filter fun p => decide (p.1 ≤ m)).map (·.2))).map V.int := by simp
      rw [this, List.getLast?_map, List.getLast?_eq_some_getLast (by simp)]
      rfl
    generalize upd H2 E (.lst ([.int 0] ++ (R.filter fun p => decide (p.1 ≤ m)).map fun p => V.int p.2)) = H3 at *
    refine ⟨_, rfl, .inl ⟨_, _, _, _, rfl, rfl, .of e3, atI_end el, ?_⟩⟩
    have s13 := (s1.trans s2).trans s3
    refine ⟨_, rfl, _, rfl, _, rfl, a, t, z, rows, _, rfl, hh.same s13, h0, fun H4 b p s4 hp hb => ?_⟩
    refine ⟨line_le (by show 2 ≤ 1000000; decide), fun G hG => ?_⟩
    have s5 := s13.trans s4
    exact q _ G b p (same_upd2 (s5.free hG) s5) upd_same hp (by rw [upd_ne (ne_of_none hb hG)]; exact hb)
end
end K96

namespace K96
open PySem PySem.Spec PyProof.Rows L2
/-! K96L3: the law's walk. -/
section
variable {P : Program} {w : World} {K : PySem.W.Frag} {mg : Str → Option Value} {base : Heap}
/-- the scope of the comprehension in the loop's first row -/
abbrev partScope : Scope := ⟨.function, [(".0", .local), ("_law_part", .local), ("max", .globalImplicit), ("_law_rows", .cell)], false, false, []⟩
theorem cut_tail (xs : List V) : cutV xs (some 1) none = xs.drop 1 := by
  have e : HT.sIx xs.length 0 (some 1) = min 1 xs.length := HT.sIx_nat xs.length 0 1
  unfold cutV
  rw [e, HT.sIx_none]
  by_cases h : xs = []
  · subst h; rfl
  · have h1 : min 1 xs.length = 1 := by have := List.length_pos_iff.mpr h; omega
    rw [h1, List.take_of_length_le (by rw [List.length_drop]; omega)]
theorem cut_last_nil : cutV ([] : List V) (some (-1)) none = [] := rfl
theorem cut_last (xs : List V) (v : V) : cutV (xs ++ [v]) (some (-1)) none = [v] := by
  have hl : (xs ++ [v]).length = xs.length + 1 := by simp
  have e : HT.sIx (xs ++ [v]).length 0 (some (-1)) = xs.length := by
    show (if (-1 : Int) < 0 then ((-1 : Int) + ((xs ++ [v]).length : Int)).toNat else min (-1 : Int).toNat (xs ++ [v]).length) = xs.length
    rw [if_pos (by decide), hl]
    omega
  unfold cutV
  rw [e, HT.sIx_none, hl]
  simp
theorem cut_pairs {H : Hp} {R : List (Int × Int)} {xs : List V} (hl : xs.length = R.length) (h : ∀ (i : Nat) p v, R[i]? = some p → xs[i]? = some v → PairV H p v) :
    (cutV xs (some (-1)) none).length = R.getLast?.toList.length ∧ ∀ (i : Nat) p v, R.getLast?.toList[i]? = some p → (cutV xs (some (-1)) none)[i]? = some v → PairV H p v := by
  by_cases h0 : R = []
  · subst h0
    have e : xs = [] := List.eq_nil_of_length_eq_zero hl
    subst e
    exact ⟨rfl, fun i p v e => by simp at e⟩
  · have hx : xs ≠ [] := fun e => h0 (List.eq_nil_of_length_eq_zero (by rw [← hl, e]; rfl))
    obtain ⟨Ri, r, rfl⟩ : ∃ Ri r, R = Ri ++ [r] := ⟨R.dropLast, R.getLast h0, (List.dropLast_concat_getLast _).symm⟩
    obtain ⟨xi, x, rfl⟩ : ∃ xi x, xs = xi ++ [x] := ⟨xs.dropLast, xs.getLast hx, (List.dropLast_concat_getLast _).symm⟩
    have hl2 : xi.length = Ri.length := by simpa using hl
    rw [cut_last]
    have hg : (Ri ++ [r]).getLast?.toList = [r] := by simp
    rw [hg]
    refine ⟨rfl, fun i p v ep ev => ?_⟩
    have h1 := (List.getElem?_eq_some_iff.mp ep).1
    simp only [List.length_singleton] at h1
    have hi : i = 0 := by omega
    subst hi
    cases ep
    cases ev
    exact h Ri.length r x (by simp) (by rw [← hl2]; simp)
theorem last_max {nt : List Int} {r q : Int} {lo : Option Int} {u : Int} {L : List Int} {R : List (Int × Int)} {k s p g m : Int} (wk : K96M.Walk nt r q lo u L R k s p g) (g0 : 0 ≤ g) (hm : m ∈ (0 : Int) :: R.getLast?.toList.map (·.1)) (hle : ∀ y ∈ (0 : Int) :: R.getLast?.toList.map (·.1), y ≤ m) : m = g := by
  rcases wk.lastR with ⟨e, eg⟩ | ⟨s', e⟩
  · subst e
    have : m = 0 := by simpa using hm
    omega
  · rw [e] at hm hle
    have h1 : m = 0 ∨ m = g := by simpa using hm
    have h2 := hle g (by simp)
    omega
abbrev rLenSeq (K : PySem.W.Frag) : List V → Hp → VK → Prop := fun xs H Q => ∃ p ys, xs = [.ref p] ∧ (SqL K H p ys ∨ SqT K H p ys) ∧ Q (.int ys.length) H
/-- the test of an asking that is lost -/
theorem walk_test {K : PySem.W.Frag} {H : Hp} {σ : L2.St} {d A : Addr} {n : Nat} {lo : Option Int} {k often : Int} {L : List Int} {P : Bool → Hp → Prop} (h0 : σ[0]? = some (some (.ref d))) (h2 : σ[2]? = some (some (losV lo))) (h10 : σ[10]? = some (some (.int k)))
    (h8 : σ[8]? = some (some (.ref A))) (h15 : σ[15]? = some (some (.int often))) (hA : IntsAt H A L) (hd : DrAt H d n) (hn : n < 1000000)
    (hP : ∀ b H', SameL H H' → DrAt H' d (n + 1) → (b = true → (∀ l, lo = some l → k < l) ∧ L.length < 35) → P b H') :
    tAnd (tOr (tB (tIsN (tVar 2))) (tTest (tOp rLt (tVar 10) (tVar 2)))) (tAnd (tTest (tOp rLt (tCB (rLenSeq K) (tCons (tVar 8) tNil)) (tC (.int 35)))) (tTest (tOp rLt (tCall (sp_law_draw K) [] E0 (tCons (tVar 0) (tCons (tC (.int 4)) tNil))) (tVar 15)))) σ H P := by
  have no : P false H := hP false H (.refl _) (hd.more (by omega)) fun e => nomatch e
  have rest : (∀ l, lo = some l → k < l) → tAnd (tTest (tOp rLt (tCB (rLenSeq K) (tCons (tVar 8) tNil)) (tC (.int 35)))) (tTest (tOp rLt (tCall (sp_law_draw K) [] E0 (tCons (tVar 0) (tCons (tC (.int 4)) tNil))) (tVar 15))) σ H P := fun hk => by
    refine ⟨_, h8, A, _, rfl, .inl (.of hA), _, _, rfl, rfl, _, rfl, ifD (fun hlt => ?_) (fun hge => no)⟩
    rw [List.length_map] at hlt
    refine ⟨_, h0, d, n, 4, rfl, hd, by omega, by decide, by decide, fun H1 x s1 k1 hd1 x0 x1 => ?_⟩
    refine ⟨_, h15, _, _, rfl, rfl, _, rfl, ?_⟩
    exact hP _ H1 s1 hd1 fun _ => ⟨hk, by omega⟩
  cases lo with
  | none => exact ⟨_, h2, _, rfl, iteT (iteT (rest fun l e => nomatch e))⟩
  | some l =>
    refine ⟨_, h2, _, rfl, iteF ⟨_, h10, _, h2, _, _, rfl, rfl, _, rfl, ifD (fun hlt => ?_) (fun hge => no)⟩⟩
    exact rest fun l' e => by cases e; exact hlt
def ntOf (rows : Rows) (nb : Bool) : List Int := if nb then (rows.drop 1).map (·.1) else []
theorem nt_one (nb : Bool) : -(2 ^ 63) ≤ (if nb = true then (1 : Int) else 0) ∧ (if nb = true then (1 : Int) else 0) < 2 ^ 63 ∧ (if nb = true then (1 : Int) else 0).toNat ≤ 1 := by cases nb <;> decide
theorem nt_flat {rows : Rows} {nb : Bool} : (List.replicate (if nb = true then (1 : Int) else 0).toNat ((rows.drop 1).map fun p => V.int p.1)).flatten = (ntOf rows nb).map V.int := by
  cases nb with
  | true => 
    show ([(rows.drop 1).map fun p => V.int p.1] : List (List V)).flatten = ((rows.drop 1).map (·.1)).map V.int
    simp
    rfl
  | false => rfl
theorem nt_len {rows : Rows} {nb : Bool} (few : rows.length ≤ 8) : (ntOf rows nb).length ≤ 8 := by
  cases nb with
  | true => show ((rows.drop 1).map (·.1)).length ≤ 8; rw [List.length_map, List.length_drop]; omega
  | false => show 0 ≤ 8; decide
def sp_law_walk (K : PySem.W.Frag) : Sp := fun vs H Q _ => ∃ (d a t : Addr) (n : Nat) (z : Tms) (rows : Rows) (lo : Option Int) (u : Int) (nb : Bool), vs = [.ref d, .ref a, losV lo, .int u, .bl nb] ∧ DrAt H d n ∧ n ≤ 100000 ∧ His H a t z rows ∧ LosOk lo ∧ 0 ≤ u ∧ u ≤ 200 ∧
  ∀ (H' : Hp) (D l rw : Addr) lost R k s p g x, SameL H H' → DrAt H' d (n + 400) → H' D = some (.tup [.ref l, .ref rw]) → IntsAt H' l lost → PairsAt H' rw R → K96M.Walk (ntOf rows nb) z.r z.q lo u lost R k s p g → K96M.IsAsk (ntOf rows nb) g p x → u < x → lost.length ≤ 35 → R.length ≤ 300 → Q (.ref D) H'
-- slots [(0, '_law_draws_here'), (1, '_law_history_here'), (2, '_law_losses'), (3, '_law_until'), (4, '_law_noticed'), (5, '_law_refresh'), (6, '_law_retry'), (7, '_law_expire'), (8, '_law_lost'), (9, '_law_rows'), (10, '_law_row'), (11, '_law_success'), (12, '_law_asked'), (13, '_law_notices'), (14, '_law_part'), (15, '_law_often'), (16, '_law_turn'), (17, '_law_one')]
theorem ok_law_walk {f : Addr} {fd : FuncData} (F : Fun K "_law_walk" "_law_walk" s_law_walk f fd) (T : Txt K mg) (h_law_draw : Has P w K mg base "_law_draw" 1 ["_law_draws_here", "_law_many"] (sp_law_draw K)) : FnOk P w K mg base CX0 2 f fd ["_law_draws_here", "_law_history_here", "_law_losses", "_law_until", "_law_noticed"] (sp_law_walk K) := by
  refine F.ok sc_law_walk (fun vs H Q E h => ?_) (fun cdv A outer s H vs Q E hr h => ?_)
  · obtain ⟨d, a, t, n, z, rows, lo, u, nb, rfl, hd, hn, hh, hlo, hu0, hu9, q⟩ := h
    rfl
  · obtain ⟨d, a, t, n, z, rows, lo, u, nb, rfl, hd, hn, hh, hlo, hu0, hu9, q⟩ := h
    have hu := hu_of hr
    refine ⟨_, (pss_cons (ps_asg (pe_ix ix_seq (pe_ix ix_seq (pv 1) pe_int (fun _ _ => rfl)) pe_int (fun _ _ => rfl)) (pg_tup rfl (pgs_cons (pg_name (i := 5) sc_law_walk.nd rfl (Or.inl rfl)) (pgs_cons (pg_name (i := 6) sc_law_walk.nd rfl (Or.inl rfl)) (pgs_cons (pg_name (i := 7) sc_law_walk.nd rfl (Or.inl rfl)) pgs_nil)))))
 (pss_cons (ps_asg (pe_tup (pa_cons (pe_lst pa_nil) (pa_cons (pe_lst pa_nil) (pa_cons pe_int (pa_cons pe_int (pa_cons (pv 5) pa_nil)))))) (pg_tup rfl (pgs_cons (pg_name (i := 8) sc_law_walk.nd rfl (Or.inl rfl)) (pgs_cons (pg_name (i := 9) sc_law_walk.nd rfl (Or.inr rfl)) (pgs_cons (pg_name (i := 10) sc_law_walk.nd rfl (Or.inl rfl)) (pgs_cons (pg_name (i := 11) sc_law_walk.nd rfl (Or.inl rfl)) (pgs_cons (pg_name (i := 12) sc_law_walk.nd rfl (Or.inl rfl)) pgs_nil)))))))
 (pss_cons (ps_set (i := 13) sc_law_walk.nd rfl (Or.inl rfl) (pe_op op_rep (pe_lc (own := [("_law_part", 14)]) (g := (gName 14)) (tt := tYes) (te := (tOp (rIx K) (tVar 14) (tC (.int 0)))) rfl sc_law_walk.nd (pi_list (pe_slice sl_list (pv 1) (po_some pe_int) po_none)) (blkOk_by (N := ["_law_draws_here", "_law_history_here", "_law_losses", "_law_until", "_law_noticed", "_law_refresh", "_law_retry", "_law_expire", "_law_lost", "_law_rows", "_law_row", "_law_success", "_law_asked", "_law_notices", "_law_part", "_law_often", "_law_turn", "_law_one"]) (sc := defScope s_law_walk) (by decide +kernel)) (fun _ _ _ _ _ => (pg_name (i := 14) sc_law_walk.nd rfl (Or.inl rfl))) (fun _ _ _ _ _ => pts_nil) (fun _ _ _ _ _ => (pe_ix ix_seq (pv 14) pe_int (fun _ _ => rfl)))) (pe_callTy call_int1 (by rfl) T.int (by decide +kernel) (pa_cons (pv 4) pa_nil))))
 (pss_cons (ps_set (i := 15) sc_law_walk.nd rfl (Or.inl rfl) (pe_ix ix_seq (pe_lst (pa_cons pe_int (pa_cons pe_int (pa_cons pe_int pa_nil)))) (pe_call h_law_draw.G (hr.mono (by decide)) rfl h_law_draw.m h_law_draw.kp h_law_draw.b .nil pass0 (pa_cons (pv 0) (pa_cons pe_int pa_nil))) (fun _ _ => rfl)))
 (pss_cons (ps_for PassesOwn.never rfl (pi_range1 (by rfl) T.range (pa_cons pe_int pa_nil)) (pg_name (i := 16) sc_law_walk.nd rfl (Or.inl rfl))
  (pss_cons (ps_set (i := 12) sc_law_walk.nd rfl (Or.inl rfl) (pe_callB (cr_min rfl) (by rfl) T.min (by decide +kernel) (pa_cons (pe_op op_cat (pe_lst (pa_cons (pv 12) pa_nil)) (pe_lc (own := [("_law_part", 14)]) (g := (gName 14)) (tt := (tTest (tOp rGt (tVar 14) (tCB (rMax K) (tCons (tOp rCat (tLst (tCons (tC (.int 0)) tNil)) (tLc (iList K (tSl (rSlL K) (tVar 9) (tPart (tUn (rU fun i => .int (-i)) (tC (.int 1)))) tNoPart)) (gName 17) tYes (tOp (rIx K) (tVar 17) (tC (.int 0))) [17])) tNil))))) (te := (tVar 14)) rfl sc_law_walk.nd (pi_list (pv 13)) (blkOk_by (N := ["_law_draws_here", "_law_history_here", "_law_losses", "_law_until", "_law_noticed", "_law_refresh", "_law_retry", "_law_expire", "_law_lost", "_law_rows", "_law_row", "_law_success", "_law_asked", "_law_notices", "_law_part", "_law_often", "_law_turn", "_law_one"]) (sc := defScope s_law_walk) (by decide +kernel)) (fun _ _ _ _ _ => (pg_name (i := 14) sc_law_walk.nd rfl (Or.inl rfl))) (fun _ _ _ _ _ => (pts_one (pt_cmpR op_gt (pv 14) (pe_callB (cr_max rfl) (by rfl) T.max (by decide +kernel) (pa_cons (pe_op op_cat (pe_lst (pa_cons pe_int pa_nil)) (pe_lc (own := [("_law_one", 17)]) (g := (gName 17)) (tt := tYes) (te := (tOp (rIx K) (tVar 17) (tC (.int 0)))) rfl sc_law_walk.nd (pi_list (pe_slice sl_list (pv 9) (po_some (pe_un un_neg pe_int)) po_none)) (blkOk_by (N := ["_law_draws_here", "_law_history_here", "_law_losses", "_law_until", "_law_noticed", "_law_refresh", "_law_retry", "_law_expire", "_law_lost", "_law_rows", "_law_row", "_law_success", "_law_asked", "_law_notices", "_law_part", "_law_often", "_law_turn", "_law_one"]) (sc := partScope) (by decide +kernel)) (fun _ _ _ _ _ => (pg_name (i := 17) sc_law_walk.nd rfl (Or.inl rfl))) (fun _ _ _ _ _ => pts_nil) (fun _ _ _ _ _ => (pe_ix ix_seq (pv 17) pe_int (fun _ _ => rfl))))) pa_nil)) (nomark _)))) (fun _ _ _ _ _ => (pv 14)))) pa_nil)))
 (pss_cons (ps_if (pt_cmpR op_gt (pv 12) (pv 3) (nomark _))
  (pss_one ps_break)
  pss_nil)
 (pss_one (ps_if (PW.pt (pw_and (PW.pt (pw_or (pt_cmp (pc_isN (pv 2))) (pw_or1 (pt_cmpR op_lt (pv 10) (pv 2) (nomark _))))) (pw_and (pt_cmpR op_lt (pe_callB call_len_seq (by rfl) T.len (by decide +kernel) (pa_cons (pv 8) pa_nil)) pe_int (nomark _)) (pw_and1 (pt_cmpR op_lt (pe_call h_law_draw.G (hr.mono (by decide)) rfl h_law_draw.m h_law_draw.kp h_law_draw.b .nil pass0 (pa_cons (pv 0) (pa_cons pe_int pa_nil))) (pv 15) (nomark _))))))
  (pss_cons (ps_expr (pe_bm PySem.F.plainAttrs_list PySem.F.slot_list_append PySem.F.type_list_append mt_append (pv 8) (pa_cons (pv 12) pa_nil)))
 (pss_cons (ps_expr (pe_bm PySem.F.plainAttrs_list PySem.F.slot_list_append PySem.F.type_list_append mt_append (pv 9) (pa_cons (pe_tup (pa_cons (pv 12) (pa_cons (pv 11) pa_nil))) pa_nil)))
 (pss_one (ps_par (i := 10) (j := 12) (by rfl) sc_law_walk.nd rfl rfl (by decide) rfl rfl (pa_cons (pe_op op_add (pv 10) pe_int) (pa_cons (pe_op op_add (pv 12) (pv 6)) pa_nil)) (by rfl)))))
  (pss_cons (ps_par (i := 11) (j := 10) (by rfl) sc_law_walk.nd rfl rfl (by decide) rfl rfl (pa_cons (pv 12) (pa_cons pe_int pa_nil)) (by rfl))
 (pss_cons (ps_expr (pe_bm PySem.F.plainAttrs_list PySem.F.slot_list_append PySem.F.type_list_append mt_append (pv 9) (pa_cons (pe_tup (pa_cons (pv 12) (pa_cons (pv 11) pa_nil))) pa_nil)))
 (pss_one (ps_set (i := 12) sc_law_walk.nd rfl (Or.inl rfl) (pe_op op_add (pv 12) (pv 5)))))))))))
 (pss_one (ps_ret (pe_tup (pa_cons (pv 8) (pa_cons (pv 9) pa_nil)))))))))), ?_⟩
    have r1 := hh.ok.r1; have q1 := hh.ok.q1
    obtain ⟨⟨xs, hl, hxl, hrow⟩, ht, ok, ro⟩ := id hh
    have few := ro.few
    obtain ⟨v0, hv0⟩ := ro.ok.z
    obtain ⟨b0, hx0, hb0⟩ := row_of hxl hrow hv0
    refine ⟨_, rfl, .inl ⟨_, _, _, _, rfl, rfl, .of hl, atN hx0 rfl, ?_⟩⟩
    refine .inr (.inl ⟨_, _, _, _, rfl, rfl, .of hb0, rfl, ?_⟩)
    refine ⟨t, _, rfl, .of ht, rfl, _, _, rfl, _, _, rfl, _, _, rfl, rfl, ?_⟩
    refine ⟨Nat.zero_le _, fun A hA => ⟨Nat.zero_le _, fun B hB => ⟨_, rfl, line_le (by show 5 ≤ 1000000; decide), fun C hC => ?_⟩⟩⟩
    have nAB : A ≠ B := ne_of_none upd_same hB
    have nAC : A ≠ C := ne_of_none (by rw [upd_ne nAB]; exact upd_same) hC
    have nBC : B ≠ C := ne_of_none upd_same hC
    have s1 : Same H (upd (upd (upd H A (.lst [])) B (.lst [])) C (.tup [.ref A, .ref B, .int 0, .int 0, .int z.r])) := by
      have x1 : Same H (upd H A (.lst [])) := same_upd hA
      have x2 : Same H (upd (upd H A (.lst [])) B (.lst [])) := same_upd2 (x1.free hB) x1
      exact same_upd2 (x2.free hC) x2
    have hB0 : H B = none := by
      have x1 : Same H (upd H A (.lst [])) := same_upd hA
      exact x1.free hB
    have a1 : upd (upd (upd H A (.lst [])) B (.lst [])) C (.tup [.ref A, .ref B, .int 0, .int 0, .int z.r]) A = some (.lst []) := by rw [upd_ne nAC, upd_ne nAB, upd_same]
    have b1 : upd (upd (upd H A (.lst [])) B (.lst [])) C (.tup [.ref A, .ref B, .int 0, .int 0, .int z.r]) B = some (.lst []) := by rw [upd_ne nBC, upd_same]
    have c1 : upd (upd (upd H A (.lst [])) B (.lst [])) C (.tup [.ref A, .ref B, .int 0, .int 0, .int z.r]) C = some (.tup [.ref A, .ref B, .int 0, .int 0, .int z.r]) := upd_same
    generalize upd (upd (upd H A (.lst [])) B (.lst [])) C (.tup [.ref A, .ref B, .int 0, .int 0, .int z.r]) = H1 at *
    refine ⟨C, _, rfl, .of c1, rfl, _, _, rfl, _, _, rfl, _, _, rfl, _, _, rfl, _, _, rfl, rfl, ?_⟩
    -- the notices
    refine ⟨_, rfl, 1, rfl, a, _, rfl, .of (s1 _ _ hl), fun S hS => ?_⟩
    have s2 : Same H1 (upd H1 S (.lst (cutV xs (some 1) none))) := same_upd hS
    have e2 : upd H1 S (.lst (cutV xs (some 1) none)) S = some (.lst (xs.drop 1)) := by rw [upd_same, cut_tail]
    generalize upd H1 S (.lst (cutV xs (some 1) none)) = H2 at *
    have s12 := s1.trans s2
    refine ⟨S, rfl, ⟨_, .of e2⟩, fun D hD => lc_list (K := K) (a := S) (xs := xs.drop 1) (LcP H2 D (rows.drop 1) (fun _ => true) (fun p => V.int p.1)) (lc_start hD) (fun i H3 _ p => .of (p.sm _ _ e2)) (fun i x H3 hx p => ?_) (fun H3 p => ?_)⟩
    · rw [List.getElem?_drop] at hx
      obtain ⟨r, hr1, b, rfl, hb⟩ := row_at hxl hrow hx
      have hb3 := p.sm _ _ (s12 _ _ hb)
      have hr2 : (rows.drop 1)[i]? = some r := by rw [List.getElem?_drop]; exact hr1
      have hl2 : (rows.drop 1).length ≤ 1000000 := by rw [List.length_drop]; omega
      exact ⟨rfl, _, rfl, .inr (.inl ⟨_, _, _, _, rfl, rfl, .of hb3, rfl, lc_keep hD p (.refl _) hr2 rfl rfl hl2⟩)⟩
    have el : (xs.drop 1).length = (rows.drop 1).length := by rw [List.length_drop, List.length_drop, hxl]
    rw [el] at p
    have d3 := lc_end p
    have hf : ((rows.drop 1).filter fun _ => true) = rows.drop 1 := by simp
    rw [hf] at d3
    have s3 := s12.trans p.sm
    have s13 := s2.trans p.sm
    refine ⟨_, rfl, .inr ⟨nb, rfl, ?_⟩⟩
    refine ⟨D, _, _, rfl, rfl, d3, ?_, ?_, ?_, fun E hE => ?_⟩
    · exact (nt_one nb).1
    · exact (nt_one nb).2.1
    · rw [List.length_map, List.length_drop]
      exact line_le (Nat.le_trans (Nat.mul_le_mul_left _ (nt_one nb).2.2) (by omega))
    rw [nt_flat]
    have ntlen := nt_len (nb := nb) few
    generalize hnt : ntOf rows nb = nt at *
    have s4 : Same H (upd H3 E (.lst (nt.map V.int))) := same_upd2 (s3.free hE) s3
    have s14 : Same H1 (upd H3 E (.lst (nt.map V.int))) := same_upd2 (s13.free hE) s13
    have e4 : IntsAt (upd H3 E (.lst (nt.map V.int))) E nt := upd_same
    generalize upd H3 E (.lst (nt.map V.int)) = H4 at *
    have a4 := s14 _ _ a1
    have b4 := s14 _ _ b1
    have d4 : DrAt H4 d n := hd.same s4
    have nAE : A ≠ E := ne_of_none (s13 _ _ a1) hE
    have nBE : B ≠ E := ne_of_none (s13 _ _ b1) hE
    have ndA : d ≠ A := by
      obtain ⟨_, _, _, _, e, _⟩ := id hd
      exact ne_of_none e hA
    have ndB : d ≠ B := by
      obtain ⟨_, _, _, _, e, _⟩ := id hd
      exact ne_of_none e hB0
    -- how often
    refine ⟨line_le (by show 3 ≤ 1000000; decide), fun O hO => ?_⟩
    have s5 : SameL H4 (upd H4 O (.lst [.int 1, .int 2, .int 4])) := SameL.upd hO (.refl _)
    have nO : d ≠ O := by
      obtain ⟨_, _, _, _, e, _⟩ := id d4
      exact ne_of_none e hO
    refine ⟨_, rfl, d, n, 3, rfl, d4.upd nO, by omega, by decide, by decide, fun H6 k s6 k6 d6 k0 k1 => ?_⟩
    obtain ⟨often, hat⟩ : ∃ often, atI [V.int 1, V.int 2, V.int 4] k = some (.int often) := by
      have : k = 0 ∨ k = 1 ∨ k = 2 := by omega
      rcases this with rfl | rfl | rfl
      · exact ⟨1, rfl⟩
      · exact ⟨2, rfl⟩
      · exact ⟨4, rfl⟩
    refine .inl ⟨_, _, _, _, rfl, rfl, .of (s6.l upd_same), hat, ?_⟩
    have s46 := s5.trans s6
    have s06 : SameL H H6 := (SameL.of s4).trans s46
    have a6 := s46.l a4
    have b6 := s46.l b4
    have e6 := s46.l e4
    refine ⟨300, rfl, by decide, by decide, ?_⟩
    have last : ∀ (H9 : Hp) (x : Int) L R k s p g, SameL H H9 → DrAt H9 d (n + 400) → IntsAt H9 A L → PairsAt H9 B R → K96M.Walk nt z.r z.q lo u L R k s p g → K96M.IsAsk nt g p x → u < x → L.length ≤ 35 → R.length ≤ 300 → ∀ y14 y16 y17 y12 y10 y11,
        tRet (tTup (tCons (tVar 8) (tCons (tVar 9) tNil))) { nx := fun _ H' => Q .non H', rt := Q } [some (.ref d), some (.ref a), some (losV lo), some (.int u), some (.bl nb), some (.int z.r), some (.int z.q), some (.int z.e), some (.ref A), some (.ref B), y10, y11, y12, some (.ref E), y14, some (.int often), y16, y17] H9 := fun H9 x L R k s p g s9 d9 a9 b9 wk ask hx l35 r300 y14 y16 y17 y12 y10 y11 => by
      refine ⟨_, rfl, _, rfl, line_le (by show 2 ≤ 1000000; decide), fun G hG => ?_⟩
      have sG : SameL H9 (upd H9 G (.tup [.ref A, .ref B])) := SameL.upd hG (.refl _)
      have nG : d ≠ G := by
        obtain ⟨_, _, _, _, e, _⟩ := id d9
        exact ne_of_none e hG
      exact q _ G A B L R k s p g x (s9.trans sG) (d9.upd nG) upd_same (sG.l a9) (b9.sameL sG) wk ask hx l35 r300
    refine for_range (fun i σ H9 => ∃ k s p g y14 y16 y17 L R, σ = [some (.ref d), some (.ref a), some (losV lo), some (.int u), some (.bl nb), some (.int z.r), some (.int z.q), some (.int z.e), some (.ref A), some (.ref B), some (.int k), some (.int s), some (.int p), some (.ref E), y14, some (.int often), y16, y17] ∧
        SameL H H9 ∧ DrAt H9 d (n + 1 + i) ∧ IntsAt H9 A L ∧ PairsAt H9 B R ∧ IntsAt H9 E nt ∧ K96M.Walk nt z.r z.q lo u L R k s p g ∧ (i : Int) ≤ g ∧ L.length ≤ 35 ∧ R.length = i)
      ⟨0, 0, z.r, 0, _, _, _, [], [], rfl, s06, d6, a6, ⟨[], b6, rfl, fun i p v e => by simp at e⟩, e6, .nil, by omega, by decide, rfl⟩
      (fun i σ H9 hi hw => ?_) (fun σ H9 hw => ?_)
    · obtain ⟨k, s, p, g, y14, y16, y17, L, R, rfl, s9, d9, a9, b9, e9, wk, hg, l35, rlen⟩ := hw
      have base := wk.base (by omega) (by omega)
      have g0 : 0 ≤ g := by omega
      refine ⟨_, rfl, line_le (by show 1 ≤ 1000000; decide), fun G hG => ?_⟩
      have sG : Same H9 (upd H9 G (.lst [.int p])) := same_upd hG
      have hGl : upd H9 G (.lst [.int p]) G = some (.lst [.int p]) := upd_same
      generalize upd H9 G (.lst [.int p]) = HG at *
      refine ⟨_, rfl, E, rfl, ⟨_, .of (sG _ _ e9)⟩, fun D2 hD2 => lc_list (K := K) (a := E) (xs := nt.map V.int) (LcP HG D2 nt (fun x => decide (g < x)) V.int) (lc_start hD2) (fun j H10 _ w => .of (w.sm _ _ (sG _ _ e9))) (fun j x H10 hx w => ?_) (fun H10 w => ?_)⟩
      · obtain ⟨n1, hn1, rfl⟩ := map_at hx
        have s10 := sG.trans w.sm
        obtain ⟨xs2, hx2, hxl2, hrow2⟩ := b9
        have hx210 := s10 _ _ hx2
        refine ⟨rfl, _, rfl, line_le (by show 1 ≤ 1000000; decide), fun M hM => ?_⟩
        have sM : Same H10 (upd H10 M (.lst [.int 0])) := same_upd hM
        have hMl : upd H10 M (.lst [.int 0]) M = some (.lst [.int 0]) := upd_same
        generalize upd H10 M (.lst [.int 0]) = HM at *
        refine ⟨_, rfl, 1, rfl, _, rfl, B, _, rfl, .of (sM _ _ hx210), fun S2 hS2 => ?_⟩
        obtain ⟨cl, cp⟩ := cut_pairs hxl2 hrow2
        have sS : Same HM (upd HM S2 (.lst (cutV xs2 (some (-1)) none))) := same_upd hS2
        have hSl : upd HM S2 (.lst (cutV xs2 (some (-1)) none)) S2 = some (.lst (cutV xs2 (some (-1)) none)) := upd_same
        generalize upd HM S2 (.lst (cutV xs2 (some (-1)) none)) = HS at *
        have rl : R.getLast?.toList.length ≤ 1 := by cases R.getLast? <;> simp
        refine ⟨S2, rfl, ⟨_, .of hSl⟩, fun T2 hT2 => lc_list (K := K) (a := S2) (xs := cutV xs2 (some (-1)) none) (LcP HS T2 R.getLast?.toList (fun _ => true) (fun p => V.int p.1)) (lc_start hT2) (fun j H11 _ w2 => .of (w2.sm _ _ hSl)) (fun j x H11 hx2 w2 => ?_) (fun H11 w2 => ?_)⟩
        · obtain ⟨pr, hp1, b2, rfl, hb2⟩ := pair_at cl cp hx2
          have hb3 := w2.sm _ _ (sS _ _ (sM _ _ (s10 _ _ hb2)))
          exact ⟨rfl, _, rfl, .inr (.inl ⟨_, _, _, _, rfl, rfl, .of hb3, rfl, lc_keep hT2 w2 (.refl _) hp1 rfl rfl (by omega)⟩)⟩
        rw [cl] at w2
        have t11 := lc_end w2
        have hf2 : (R.getLast?.toList.filter fun _ => true) = R.getLast?.toList := by simp
        rw [hf2] at t11
        refine ⟨M, T2, _, _, rfl, rfl, w2.sm _ _ (sS _ _ hMl), t11, line_le (by rw [List.length_map, List.length_singleton]; omega), fun U hU => ?_⟩
        have emx : [V.int 0] ++ R.getLast?.toList.map (fun p => V.int p.1) = ((0 : Int) :: R.getLast?.toList.map (·.1)).map V.int := by simp
        rw [emx]
        refine ⟨U, _, rfl, .of upd_same, by simp, fun m hm hle => ?_⟩
        have emg := last_max wk g0 hm hle
        subst emg
        have sU : Same H10 (upd H11 U (.lst (((0 : Int) :: R.getLast?.toList.map (·.1)).map V.int))) := same_upd2 (((sM.trans sS).trans w2.sm).free hU) ((sM.trans sS).trans w2.sm)
        refine ⟨_, _, rfl, rfl, _, rfl, ifD (fun hlt => ?_) (fun hge => ?_)⟩
        · exact ⟨_, rfl, lc_keep hD2 w sU hn1 (decide_eq_true hlt) rfl (by omega)⟩
        · exact lc_skip w sU hn1 (decide_eq_false hge)
      rw [List.length_map] at w
      have d10 := lc_end w
      have s10 := sG.trans w.sm
      have fl : (nt.filter fun x => decide (g < x)).length ≤ nt.length := List.length_filter_le _ _
      refine ⟨G, D2, _, _, rfl, rfl, w.sm _ _ hGl, d10, line_le (by rw [List.length_map, List.length_singleton]; omega), fun J hJ => ?_⟩
      have emn : [V.int p] ++ (nt.filter fun x => decide (g < x)).map V.int = (p :: nt.filter fun x => decide (g < x)).map V.int := rfl
      rw [emn]
      have s11 : Same H9 (upd H10 J (.lst ((p :: nt.filter fun x => decide (g < x)).map V.int))) := same_upd2 (s10.free hJ) s10
      have j11 : upd H10 J (.lst ((p :: nt.filter fun x => decide (g < x)).map V.int)) J = some (.lst ((p :: nt.filter fun x => decide (g < x)).map V.int)) := upd_same
      generalize upd H10 J (.lst ((p :: nt.filter fun x => decide (g < x)).map V.int)) = H11 at *
      refine ⟨J, _, rfl, .of j11, Nat.succ_pos _, fun x hx hmin => ?_⟩
      have ask : K96M.IsAsk nt g p x := by
        refine ⟨?_, hmin p List.mem_cons_self, fun n1 h1 h2 => hmin n1 (List.mem_cons_of_mem _ (List.mem_filter.mpr ⟨h1, decide_eq_true h2⟩))⟩
        rcases List.mem_cons.mp hx with e | e
        · exact .inl e
        · have := List.mem_filter.mp e
          exact .inr ⟨this.1, of_decide_eq_true this.2⟩
      have gx : g < x := by
        rcases ask.1 with e | e
        · have := base.za; omega
        · exact e.2
      have sl11 : SameL H H11 := s9.trans (.of s11)
      have d11 : DrAt H11 d (n + 1 + i) := d9.same s11
      have a11 := s11 _ _ a9
      have b11 := b9.same s11
      have e11 := s11 _ _ e9
      refine ⟨_, rfl, _, rfl, _, _, rfl, rfl, _, rfl, ifD (fun hgt => ?_) (fun hle => ?_)⟩
      · exact last H11 x L R k s p g sl11 (d11.more (by omega)) a11 b11 wk ask hgt l35 (by omega) _ _ _ _ _ _
      refine walk_test (K := K) (d := d) (A := A) (n := n + 1 + i) (lo := lo) (k := k) (often := often) (L := L) rfl rfl rfl rfl rfl a11 d11 (by omega) fun b H12 s12' d12 hb => ?_
      have sl12 := sl11.trans s12'
      have a12 := s12'.l a11
      have b12 := b11.sameL s12'
      have e12 := s12'.l e11
      cases b with
      | true =>
        obtain ⟨hk, h35⟩ := hb rfl
        refine iteT ?_
        have sP0 : SameL H (upd H12 A (.lst (L.map V.int ++ [.int x]))) := SameL.upd hA sl12
        refine ⟨_, rfl, .inl ⟨rfl, _, .of a12⟩, _, rfl, A, _, _, rfl, rfl, a12, lt_line (by rw [List.length_map]; omega), ?_⟩
        have aP0 : IntsAt (upd H12 A (.lst (L.map V.int ++ [.int x]))) A (L ++ [x]) := by rw [IntsAt, upd_same]; simp
        have eP0 : IntsAt (upd H12 A (.lst (L.map V.int ++ [.int x]))) E nt := (upd_ne nAE.symm).trans e12
        have dP0 := d12.upd (o := .lst (L.map V.int ++ [.int x])) ndA
        have bP0 : PairsAt (upd H12 A (.lst (L.map V.int ++ [.int x]))) B R := by
          obtain ⟨xsB, hxB, hxlB, hrowB⟩ := b12
          refine ⟨xsB, (upd_ne nAB.symm).trans hxB, hxlB, fun i p w ep ew => ?_⟩
          obtain ⟨c, ec, hc⟩ := hrowB i p w ep ew
          exact ⟨c, ec, by rw [upd_ne (ne_of hc a12 fun e => nomatch e)]; exact hc⟩
        generalize upd H12 A (.lst (L.map V.int ++ [.int x])) = HP at *
        have slP := sP0; have aP := aP0; have eP := eP0; have dP := dP0
        obtain ⟨xsB, hxB, hxlB, hrowB⟩ := bP0
        refine ⟨_, rfl, .inl ⟨rfl, _, .of hxB⟩, _, rfl, _, rfl, line_le (by show 2 ≤ 1000000; decide), fun C2 hC2 => ?_⟩
        have nC : d ≠ C2 := by
          obtain ⟨_, _, _, _, e, _⟩ := id dP
          exact ne_of_none e hC2
        have sQ : SameL HP (upd HP C2 (.tup [.int x, .int s])) := SameL.upd hC2 (.refl _)
        have cQ : upd HP C2 (.tup [.int x, .int s]) C2 = some (.tup [.int x, .int s]) := upd_same
        have dQ := dP.upd (o := .tup [.int x, .int s]) nC
        generalize upd HP C2 (.tup [.int x, .int s]) = HQ at *
        have xsQ := sQ.l hxB
        have aQ := sQ.l aP
        have eQ := sQ.l eP
        have slQ := slP.trans sQ
        refine ⟨B, _, _, rfl, rfl, xsQ, lt_line (by omega), ?_⟩
        have nCB : C2 ≠ B := ne_of cQ xsQ fun e => nomatch e
        have slR : SameL H (upd HQ B (.lst (xsB ++ [.ref C2]))) := SameL.upd hB0 slQ
        have dR := dQ.upd (o := .lst (xsB ++ [.ref C2])) ndB
        have aR : upd HQ B (.lst (xsB ++ [.ref C2])) A = _ := (upd_ne nAB).trans aQ
        have eR : upd HQ B (.lst (xsB ++ [.ref C2])) E = _ := (upd_ne nBE.symm).trans eQ
        have bR : PairsAt (upd HQ B (.lst (xsB ++ [.ref C2]))) B (R ++ [(x, s)]) := by
          refine PairsAt.add hxlB (fun i p w ep ew => ?_) (by rw [upd_ne nCB]; exact cQ) upd_same
          obtain ⟨c, ec, hc⟩ := hrowB i p w ep ew
          have hcQ := sQ.t hc
          exact ⟨c, ec, by rw [upd_ne (ne_of hcQ xsQ fun e => nomatch e)]; exact hcQ⟩
        generalize upd HQ B (.lst (xsB ++ [.ref C2])) = HR at *
        exact ⟨_, rfl, _, _, rfl, rfl, _, rfl, _, rfl, _, _, rfl, rfl, _, _, rfl, k + 1, s, x + z.q, x, _, _, _, L ++ [x], R ++ [(x, s)], rfl, slR, dR.more (by omega), aR, bR, eR, .lose wk ask (by omega) hk, by omega, by rw [List.length_append, List.length_singleton]; omega, by rw [List.length_append, rlen]; rfl⟩
      | false =>
        refine iteF ?_
        have slP := sl12; have aP := a12; have eP := e12; have dP := d12
        obtain ⟨xsB, hxB, hxlB, hrowB⟩ := b12
        refine ⟨_, rfl, _, _, rfl, ?_⟩
        refine ⟨_, rfl, .inl ⟨rfl, _, .of hxB⟩, _, rfl, _, rfl, line_le (by show 2 ≤ 1000000; decide), fun C2 hC2 => ?_⟩
        have nC : d ≠ C2 := by
          obtain ⟨_, _, _, _, e, _⟩ := id dP
          exact ne_of_none e hC2
        have sQ : SameL H12 (upd H12 C2 (.tup [.int x, .int x])) := SameL.upd hC2 (.refl _)
        have cQ : upd H12 C2 (.tup [.int x, .int x]) C2 = some (.tup [.int x, .int x]) := upd_same
        have dQ := dP.upd (o := .tup [.int x, .int x]) nC
        generalize upd H12 C2 (.tup [.int x, .int x]) = HQ at *
        have xsQ := sQ.l hxB
        have aQ := sQ.l aP
        have eQ := sQ.l eP
        have slQ := slP.trans sQ
        refine ⟨B, _, _, rfl, rfl, xsQ, lt_line (by omega), ?_⟩
        have nCB : C2 ≠ B := ne_of cQ xsQ fun e => nomatch e
        have slR : SameL H (upd HQ B (.lst (xsB ++ [.ref C2]))) := SameL.upd hB0 slQ
        have dR := dQ.upd (o := .lst (xsB ++ [.ref C2])) ndB
        have aR : upd HQ B (.lst (xsB ++ [.ref C2])) A = _ := (upd_ne nAB).trans aQ
        have eR : upd HQ B (.lst (xsB ++ [.ref C2])) E = _ := (upd_ne nBE.symm).trans eQ
        have bR : PairsAt (upd HQ B (.lst (xsB ++ [.ref C2]))) B (R ++ [(x, x)]) := by
          refine PairsAt.add hxlB (fun i p w ep ew => ?_) (by rw [upd_ne nCB]; exact cQ) upd_same
          obtain ⟨c, ec, hc⟩ := hrowB i p w ep ew
          have hcQ := sQ.t hc
          exact ⟨c, ec, by rw [upd_ne (ne_of hcQ xsQ fun e => nomatch e)]; exact hcQ⟩
        generalize upd HQ B (.lst (xsB ++ [.ref C2])) = HR at *
        exact ⟨_, rfl, _, rfl, _, _, rfl, rfl, 0, x, x + z.r, x, _, _, _, L, R ++ [(x, x)], rfl, slR, dR.more (by omega), aR, bR, eR, .win wk ask (by omega), by omega, l35, by rw [List.length_append, rlen]; rfl⟩
    · obtain ⟨k, s, p, g, y14, y16, y17, L, R, rfl, s9, d9, a9, b9, e9, wk, hg, l35, rlen⟩ := hw
      have base := wk.base (by omega) (by omega)
      have := base.zu
      omega
end
end K96

namespace K96
open PySem PySem.Spec PyProof.Rows L2
/-! K96L4: the law's own tests: tellings, more, plan, notices. -/
section
variable {P : Program} {w : World} {K : PySem.W.Frag} {mg : Str → Option Value} {base : Heap}
def sp_law_tellings_right (K : PySem.W.Frag) : Sp := fun vs H Q _ => ∃ (a t rw l : Addr) (z : Tms) (rows : Rows) (lo : Option Int) (u most s m : Int) (lost : List Int) (R : List (Int × Int)), vs = [.ref a, .ref rw, .ref l, .int u, .int most, silV z lo] ∧
  His H a t z rows ∧ PairsAt H rw R ∧ IntsAt H l lost ∧ LostOk lost ∧ LosOk lo ∧ 0 ≤ u ∧ u ≤ 200 ∧ R.length ≤ 300 ∧ K96M.WalkEnd z.r z.q lo u lost R ∧ K96M.Great rows z.r z.q z.e lo u most s m ∧ ∀ H', Same H H' → Q (.bl true) H'
-- slots [(0, '_law_history_here'), (1, '_law_rows'), (2, '_law_lost'), (3, '_law_until'), (4, '_law_most'), (5, '_law_silence'), (6, '_law_empty'), (7, '_law_moment'), (8, '_law_told'), (9, '_law_last'), (10, '_law_copy_here')]
theorem ok_law_tellings_right {f : Addr} {fd : FuncData} (F : Fun K "_law_tellings_right" "_law_tellings_right" s_law_tellings_right f fd) (T : Txt K mg) (h_told_second : Has P w K mg base "told_second" 6 ["history", "lost", "moment"] (sp_told_second K)) (h_law_copy : Has P w K mg base "_law_copy" 2 ["_law_history_here", "_law_rows", "_law_moment"] (sp_law_copy K)) (h_law_lag : Has P w K mg base "_law_lag" 2 ["_law_history_here", "_law_moment", "_law_value"] (sp_law_lag K)) : FnOk P w K mg base CX0 7 f fd ["_law_history_here", "_law_rows", "_law_lost", "_law_until", "_law_most", "_law_silence"] (sp_law_tellings_right K) := by
  refine F.ok sc_law_tellings_right (fun vs H Q E h => ?_) (fun cdv A outer s H vs Q E hr h => ?_)
  · obtain ⟨a, t, rw, l, z, rows, lo, u, most, s, m, lost, R, rfl, hh, hR, hl, lok, hlo, hu0, hu9, hr300, W, g, q⟩ := h
    rfl
  · obtain ⟨a, t, rw, l, z, rows, lo, u, most, s, m, lost, R, rfl, hh, hR, hl, lok, hlo, hu0, hu9, hr300, W, g, q⟩ := h
    have hu := hu_of hr
    refine ⟨_, (pss_cons (ps_set (i := 6) sc_law_tellings_right.nd rfl (Or.inl rfl) pe_int)
 (pss_cons (ps_for PassesOwn.never rfl (pi_range1 (by rfl) T.range (pa_cons (pe_op op_add (pv 3) pe_int) pa_nil)) (pg_name (i := 7) sc_law_tellings_right.nd rfl (Or.inl rfl))
  (pss_cons (ps_set (i := 8) sc_law_tellings_right.nd rfl (Or.inl rfl) (pe_call h_told_second.G (hr.mono (by decide)) rfl h_told_second.m h_told_second.kp h_told_second.b .nil pass0 (pa_cons (pv 0) (pa_cons (pv 2) (pa_cons (pv 7) pa_nil)))))
 (pss_cons (ps_asg (pe_call h_law_copy.G (hr.mono (by decide)) rfl h_law_copy.m h_law_copy.kp h_law_copy.b .nil pass0 (pa_cons (pv 0) (pa_cons (pv 1) (pa_cons (pv 7) pa_nil)))) (pg_tup rfl (pgs_cons (pg_name (i := 9) sc_law_tellings_right.nd rfl (Or.inl rfl)) (pgs_cons (pg_name (i := 10) sc_law_tellings_right.nd rfl (Or.inl rfl)) pgs_nil))))
 (pss_one (ps_if (pt_cmp (pc_isN (pv 8)))
  (pss_cons (ps_set (i := 6) sc_law_tellings_right.nd rfl (Or.inl rfl) (pe_op op_add (pv 6) pe_int))
 (pss_one (ps_if (PW.pt (pw_or (pt_cmpR op_lt (pv 7) (pe_op op_add (pv 9) (pe_ix ix_seq (pe_ix ix_seq (pv 10) pe_int (fun _ _ => rfl)) pe_int (fun _ _ => rfl))) (nomark _)) (pw_or1 (PW.pt (pw_and (pt_cmp (pc_notN (pv 5))) (pw_and1 (pt_cmpR op_gt (pv 6) (pv 5) (nomark _))))))))
  (pss_one (ps_ret pe_bl))
  pss_nil)))
  (pss_cons (ps_set (i := 6) sc_law_tellings_right.nd rfl (Or.inl rfl) pe_int)
 (pss_one (ps_if (PW.pt (pw_or (pt_cmpR op_ne (pv 8) (pe_ix ix_seq (pv 10) pe_int (fun _ _ => rfl)) (nomark _)) (pw_or (pt_cmpR op_ge (pv 7) (pe_op op_add (pv 9) (pe_ix ix_seq (pe_ix ix_seq (pv 10) pe_int (fun _ _ => rfl)) pe_int (fun _ _ => rfl))) (nomark _)) (pw_or1 (pt_cmpR op_gt (pe_call h_law_lag.G (hr.mono (by decide)) rfl h_law_lag.m h_law_lag.kp h_law_lag.b .nil pass0 (pa_cons (pv 0) (pa_cons (pv 7) (pa_cons (pv 8) pa_nil)))) (pv 4) (nomark _))))))
  (pss_one (ps_ret pe_bl))
  pss_nil))))))))
 (pss_one (ps_ret pe_bl)))), ?_⟩
    have r1 := hh.ok.r1; have q1 := hh.ok.q1; have e1 := hh.ok.e1
    refine ⟨_, rfl, _, _, rfl, rfl, _, rfl, by omega, by omega, ?_⟩
    refine for_range (fun i σ H1 => ∃ em y7 y8 y9 y10, σ = [some (.ref a), some (.ref rw), some (.ref l), some (.int u), some (.int most), some (silV z lo), some (.int em), y7, y8, y9, y10] ∧ Same H H1 ∧ 0 ≤ em ∧ (i = 0 → em = 0) ∧ (0 < i → em = max 0 (i - K96M.lastOf R ((i : Int) - 1) - z.e)))
      ⟨0, none, none, none, none, rfl, .refl _, Int.le_refl 0, fun _ => rfl, fun h => absurd h (Nat.lt_irrefl _)⟩ (fun i σ H1 hi hw => ?_) (fun σ H1 hw => ?_)
    · obtain ⟨em, y7, y8, y9, y10, rfl, s1, em0, ez, ep⟩ := hw
      have ei : (0 : Int) + (i : Int) = i := Int.zero_add _
      have hm0 : (0 : Int) ≤ i := by omega
      have hmu : (i : Int) ≤ u := by omega
      have hh1 := hh.same s1
      obtain ⟨n1, n2, n3⟩ := W.next i hm0 hmu
      have rg := n1.range (by omega) (by omega) hu0
      have sim := W.sim i hmu
      refine ⟨_, rfl, _, rfl, _, rfl, a, t, l, z, rows, lost, (i : Int), by rw [ei]; rfl, hh1, s1 _ _ hl, lok, hm0, fun H2 p s2 hp => ?_⟩
      rw [sim] at hp ⊢
      have s12 := s1.trans s2
      have hh2 := hh.same s12
      refine ⟨_, rfl, _, rfl, _, rfl, a, t, rw, z, rows, R, (i : Int), by rw [ei]; rfl, hh2, hR.same s12, by omega, rg.1, fun H3 D b p2 s3 hD hp2 hb => ?_⟩
      have ep2 := hp2.uniq hp
      subst ep2
      refine ⟨D, _, rfl, .of hD, rfl, _, _, rfl, _, _, rfl, rfl, ?_⟩
      have s13 := s12.trans s3
      have hh3 := hh.same s13
      by_cases c : (i : Int) < K96M.lastOf R i + z.e
      · rw [if_pos c]
        obtain ⟨c1, c2⟩ := W.le hm0 hmu c
        obtain ⟨L, hL⟩ := K96M.IsLag.ex' rg.1 (K96M.Val.of hp) c1
        have hle := g.max _ _ p2 L n1 c1 c2 hp hL
        refine ⟨_, rfl, _, rfl, iteF ?_⟩
        refine ⟨_, rfl, _, rfl, .inr (.inl ⟨_, _, _, _, rfl, rfl, .of hb, rfl, ?_⟩)⟩
        refine ⟨rfl, _, rfl, ?_⟩
        rw [decide_eq_true (rfl : V.str p2.2 = V.str p2.2)]
        refine iteF ⟨_, rfl, _, rfl, _, rfl, .inr (.inl ⟨_, _, _, _, rfl, rfl, .of hb, rfl, ?_⟩)⟩
        refine .inr (.inl ⟨_, _, _, _, rfl, rfl, .of hh3.tm, rfl, ?_⟩)
        refine ⟨_, _, rfl, rfl, _, _, rfl, rfl, _, rfl, ifD (fun hge => by omega) (fun _ => ?_)⟩
        refine ⟨_, rfl, _, rfl, _, rfl, a, t, z, rows, (i : Int), p2.2, L, by rw [ei]; rfl, hh3, by omega, hL, fun H4 s4 => ?_⟩
        refine ⟨_, rfl, _, _, rfl, rfl, _, rfl, ifD (fun hgt => by omega) (fun _ => ?_)⟩
        refine ⟨0, _, _, _, _, rfl, s13.trans s4, Int.le_refl 0, fun e => rfl, fun _ => ?_⟩
        have e3 : ((i + 1 : Nat) : Int) - 1 = i := by omega
        rw [e3]
        omega
      · rw [if_neg c]
        refine ⟨_, rfl, _, rfl, iteT ?_⟩
        refine ⟨_, rfl, _, _, rfl, rfl, ?_⟩
        refine ⟨_, rfl, _, rfl, _, rfl, .inr (.inl ⟨_, _, _, _, rfl, rfl, .of hb, rfl, ?_⟩)⟩
        refine .inr (.inl ⟨_, _, _, _, rfl, rfl, .of hh3.tm, rfl, ?_⟩)
        have ipos : 0 < i := by
          have := rg.1
          omega
        have hkeep : K96M.lastOf R ((i : Int) - 1) = K96M.lastOf R i := by
          rcases W.keep i (by omega) with e | e
          · omega
          · exact e.symm
        have hem := ep ipos
        rw [hkeep] at hem
        have fin : ∀ y7 y8 y9 y10, ∃ em' y7' y8' y9' y10', ([some (.ref a), some (.ref rw), some (.ref l), some (.int u), some (.int most), some (silV z lo), some (.int (em + 1)), y7, y8, y9, y10] : List (Option V)) = [some (.ref a), some (.ref rw), some (.ref l), some (.int u), some (.int most), some (silV z lo), some (.int em'), y7', y8', y9', y10'] ∧ Same H H3 ∧ 0 ≤ em' ∧ (i + 1 = 0 → em' = 0) ∧ (0 < i + 1 → em' = max 0 (((i + 1 : Nat) : Int) - K96M.lastOf R (((i + 1 : Nat) : Int) - 1) - z.e)) := fun y7 y8 y9 y10 => by
          refine ⟨em + 1, _, _, _, _, rfl, s13, by omega, fun e => by omega, fun _ => ?_⟩
          have e3 : ((i + 1 : Nat) : Int) - 1 = i := by omega
          rw [e3]
          omega
        refine ⟨_, _, rfl, rfl, _, _, rfl, rfl, _, rfl, ifD (fun hlt => by omega) (fun _ => ?_)⟩
        cases lo with
        | none => exact ⟨_, rfl, _, rfl, iteF (iteF (fin _ _ _ _))⟩
        | some l1 =>
          have h3 := n3 l1 rfl
          refine ⟨_, rfl, _, rfl, iteT ⟨_, rfl, _, rfl, _, _, rfl, rfl, _, rfl, ifD (fun hgt => ?_) (fun _ => fin _ _ _ _)⟩⟩
          omega
    · obtain ⟨em, y7, y8, y9, y10, rfl, s1, _⟩ := hw
      exact q H1 s1
def sp_law_more_right (K : PySem.W.Frag) : Sp := fun vs H Q _ => ∃ (a t : Addr) (z : Tms) (rows : Rows) (lo : Option Int) (u L s m : Int), vs = [.ref a, losV lo, .int u, .int L] ∧ His H a t z rows ∧ (∀ x, lo = some x → 0 ≤ x ∧ x ≤ 90) ∧ 0 ≤ u ∧ u ≤ 200 ∧ K96M.Great rows z.r z.q z.e lo u L s m ∧ ∀ H', Same H H' → Q (.bl true) H'
-- slots [(0, '_law_history_here'), (1, '_law_losses'), (2, '_law_until'), (3, '_law_lag_here'), (4, '_law_more')]
theorem ok_law_more_right {f : Addr} {fd : FuncData} (F : Fun K "_law_more_right" "_law_more_right" s_law_more_right f fd) (T : Txt K mg) (h_longest_lag_in : Has P w K mg base "longest_lag_in" 6 ["history", "losses", "until"] (sp_longest_lag_in K)) : FnOk P w K mg base CX0 7 f fd ["_law_history_here", "_law_losses", "_law_until", "_law_lag_here"] (sp_law_more_right K) := by
  refine F.ok sc_law_more_right (fun vs H Q E h => ?_) (fun cdv A outer s H vs Q E hr h => ?_)
  · obtain ⟨a, t, z, rows, lo, u, L, s, m, rfl, hh, hlo, hu0, hu9, g, q⟩ := h
    rfl
  · obtain ⟨a, t, z, rows, lo, u, L, s, m, rfl, hh, hlo, hu0, hu9, g, q⟩ := h
    have hu := hu_of hr
    refine ⟨_, (pss_cons (ps_set (i := 4) sc_law_more_right.nd rfl (Or.inl rfl) pe_non)
 (pss_cons (ps_if (pt_cmp (pc_notN (pv 1)))
  (pss_one (ps_set (i := 4) sc_law_more_right.nd rfl (Or.inl rfl) (pe_op op_add (pv 1) pe_int)))
  pss_nil)
 (pss_cons (ps_if (PW.pt (pw_or (pt_cmpR op_lt (pe_call h_longest_lag_in.G (hr.mono (by decide)) rfl h_longest_lag_in.m h_longest_lag_in.kp h_longest_lag_in.b .nil pass0 (pa_cons (pv 0) (pa_cons (pv 4) (pa_cons (pv 2) pa_nil)))) (pv 3) (nomark _)) (pw_or1 (pt_cmpR op_lt (pe_call h_longest_lag_in.G (hr.mono (by decide)) rfl h_longest_lag_in.m h_longest_lag_in.kp h_longest_lag_in.b .nil pass0 (pa_cons (pv 0) (pa_cons pe_non (pa_cons (pv 2) pa_nil)))) (pv 3) (nomark _)))))
  (pss_one (ps_ret pe_bl))
  pss_nil)
 (pss_one (ps_ret (pe_cmpR op_ge (pe_call h_longest_lag_in.G (hr.mono (by decide)) rfl h_longest_lag_in.m h_longest_lag_in.kp h_longest_lag_in.b .nil pass0 (pa_cons (pv 0) (pa_cons (pv 1) (pa_cons (pe_op op_add (pv 2) pe_int) pa_nil)))) (pv 3) (nomark _))))))), ?_⟩
    have r1 := hh.ok.r1; have q1 := hh.ok.q1
    have ok : LosOk lo := fun x e => by have := hlo x e; omega
    have key : ∀ (more : Option Int), LosOk more → K96M.LosLe lo more → ∀ y4, y4 = some (losV more) →
        tSeq (tIfS (tOr (tTest (tOp rLt (tCall (sp_longest_lag_in K) [] E0 (tCons (tVar 0) (tCons (tVar 4) (tCons (tVar 2) tNil)))) (tVar 3))) (tTest (tOp rLt (tCall (sp_longest_lag_in K) [] E0 (tCons (tVar 0) (tCons (tC .non) (tCons (tVar 2) tNil)))) (tVar 3)))) (tRet (tC (.bl false))) tNext)
          (tRet (tOp rGe (tCall (sp_longest_lag_in K) [] E0 (tCons (tVar 0) (tCons (tVar 1) (tCons (tOp rAdd (tVar 2) (tC (.int 1))) tNil)))) (tVar 3)))
          { nx := fun _ H' => Q .non H', rt := Q } [some (.ref a), some (losV lo), some (.int u), some (.int L), y4] H := fun more mok hle y4 e4 => by
      subst e4
      refine ⟨_, rfl, _, rfl, _, rfl, a, t, z, rows, more, u, rfl, hh, mok, hu0, by omega, fun H1 L1 s1' m1 s1 g1 => ?_⟩
      have h1 := g.mono g1 (by omega) hle (Int.le_refl u)
      refine ⟨_, rfl, _, _, rfl, rfl, _, rfl, ifD (fun hlt => by omega) (fun _ => ?_)⟩
      refine ⟨_, rfl, _, rfl, a, t, z, rows, none, u, rfl, hh.same s1, (fun x e => nomatch e), hu0, by omega, fun H2 L2 s2' m2 s2 g2 => ?_⟩
      have h2 := g.mono g2 (by omega) (by cases lo <;> trivial) (Int.le_refl u)
      refine ⟨_, rfl, _, _, rfl, rfl, _, rfl, ifD (fun hlt => by omega) (fun _ => ?_)⟩
      have s12 := s1.trans s2
      refine ⟨_, rfl, _, rfl, _, rfl, _, _, rfl, rfl, a, t, z, rows, lo, u + 1, rfl, hh.same s12, ok, by omega, by omega, fun H3 L3 s3' m3 s3 g3 => ?_⟩
      have h3 := g.mono g3 (by omega) (by cases lo <;> simp [K96M.LosLe]) (by omega)
      refine ⟨_, rfl, _, _, rfl, rfl, ?_⟩
      have e : decide (L ≤ L3) = true := decide_eq_true h3
      show Q (.bl (decide (L ≤ L3))) H3
      rw [e]
      exact q H3 (s12.trans s3)
    cases lo with
    | none => exact ⟨_, rfl, _, rfl, iteF (key none (fun x e => nomatch e) trivial _ rfl)⟩
    | some l =>
      have := hlo l rfl
      refine ⟨_, rfl, _, rfl, iteT ⟨_, rfl, _, _, rfl, rfl, key (some (l + 1)) (fun x e => ?_) ?_ _ rfl⟩⟩
      · cases e; omega
      · show l ≤ l + 1; omega
def sp_law_plan_right (K : PySem.W.Frag) : Sp := fun vs H Q _ => ∃ (a t : Addr) (z : Tms) (rows : Rows) (lo : Option Int) (u L s m : Int), vs = [.ref a, losV lo, .int u, .int L] ∧ His H a t z rows ∧ LosOk lo ∧ 0 ≤ u ∧ u ≤ 200 ∧ K96M.Great rows z.r z.q z.e lo u L s m ∧ ∀ H', Same H H' → Q (.bl true) H'
-- slots [(0, '_law_history_here'), (1, '_law_losses'), (2, '_law_until'), (3, '_law_lag_here'), (4, '_law_lost'), (5, '_law_moment'), (6, '_law_told')]
theorem ok_law_plan_right {f : Addr} {fd : FuncData} (F : Fun K "_law_plan_right" "_law_plan_right" s_law_plan_right f fd) (T : Txt K mg) (h_lag_plan : Has P w K mg base "lag_plan" 6 ["history", "losses", "until"] (sp_lag_plan K)) (h_told_second : Has P w K mg base "told_second" 6 ["history", "lost", "moment"] (sp_told_second K)) (h_law_lag : Has P w K mg base "_law_lag" 2 ["_law_history_here", "_law_moment", "_law_value"] (sp_law_lag K)) : FnOk P w K mg base CX0 7 f fd ["_law_history_here", "_law_losses", "_law_until", "_law_lag_here"] (sp_law_plan_right K) := by
  refine F.ok sc_law_plan_right (fun vs H Q E h => ?_) (fun cdv A outer s H vs Q E hr h => ?_)
  · obtain ⟨a, t, z, rows, lo, u, L, s, m, rfl, hh, hlo, hu0, hu9, g, q⟩ := h
    rfl
  · obtain ⟨a, t, z, rows, lo, u, L, s, m, rfl, hh, hlo, hu0, hu9, g, q⟩ := h
    have hu := hu_of hr
    refine ⟨_, (pss_cons (ps_asg (pe_call h_lag_plan.G (hr.mono (by decide)) rfl h_lag_plan.m h_lag_plan.kp h_lag_plan.b .nil pass0 (pa_cons (pv 0) (pa_cons (pv 1) (pa_cons (pv 2) pa_nil)))) (pg_tup rfl (pgs_cons (pg_name (i := 4) sc_law_plan_right.nd rfl (Or.inl rfl)) (pgs_cons (pg_name (i := 5) sc_law_plan_right.nd rfl (Or.inl rfl)) pgs_nil))))
 (pss_cons (ps_if (pt_cmpR op_gt (pe_callB call_len_seq (by rfl) T.len (by decide +kernel) (pa_cons (pv 4) pa_nil)) pe_int (nomark _))
  (pss_one (ps_ret pe_bl))
  pss_nil)
 (pss_cons (ps_set (i := 6) sc_law_plan_right.nd rfl (Or.inl rfl) (pe_call h_told_second.G (hr.mono (by decide)) rfl h_told_second.m h_told_second.kp h_told_second.b .nil pass0 (pa_cons (pv 0) (pa_cons (pv 4) (pa_cons (pv 5) pa_nil)))))
 (pss_one (ps_ret (pe_and (pe_cmp (pc_notN (pv 6))) (pe_and (pe_chain op_le op_le pe_int (pv 5) (pv 2)) (pe_one (pe_cmpR op_eq (pe_call h_law_lag.G (hr.mono (by decide)) rfl h_law_lag.m h_law_lag.kp h_law_lag.b .nil pass0 (pa_cons (pv 0) (pa_cons (pv 5) (pa_cons (pv 6) pa_nil)))) (pv 3) (nomark _)))))))))), ?_⟩
    have r1 := hh.ok.r1; have q1 := hh.ok.q1
    refine ⟨_, rfl, _, rfl, _, rfl, a, t, z, rows, lo, u, rfl, hh, hlo, hu0, by omega, fun H1 D l lost m1 L1 s1' s1 hD hl g1 pl => ?_⟩
    refine ⟨D, _, rfl, .of hD, rfl, _, _, rfl, _, _, rfl, rfl, ?_⟩
    have eL := g1.uniq g (by omega)
    have rg := g1.reach.range (by omega) (by omega) hu0
    have lo1 := g1.lo
    have hi1 := g1.hi
    have mu : m1 ≤ u ∧ m1 < s1' + z.e := by
      cases lo with
      | none => simp only [K96M.endOf] at hi1; omega
      | some l => simp only [K96M.endOf] at hi1; omega
    have few := pl.few (Int.le_refl 0) (by omega)
    refine ⟨_, rfl, l, _, rfl, .inl (.of hl), _, _, rfl, rfl, _, rfl, ifD (fun hgt => q H1 s1) (fun _ => ?_)⟩
    have lok : LostOk lost := ⟨fun x hx => by have := pl.gt x hx; omega, pl.asc.imp fun {x y} h => by omega, by omega⟩
    have sim : K96M.simN lost z.r z.q m1 0 z.r = s1' := by
      have := pl.sim [] fun x hx => nomatch hx
      simpa using this
    refine ⟨_, rfl, _, rfl, _, rfl, a, t, l, z, rows, lost, m1, rfl, hh.same s1, hl, lok, by omega, fun H2 p s2 hp => ?_⟩
    rw [sim] at hp ⊢
    rw [if_pos mu.2]
    have s12 := s1.trans s2
    obtain ⟨p', hp', hlag⟩ := g1.lag
    have ep := hp'.uniq hp
    subst ep
    have t1 : decide ((0 : Int) ≤ m1) = true := decide_eq_true (by omega)
    have t2 : decide (m1 ≤ u) = true := decide_eq_true mu.1
    refine ⟨_, rfl, _, rfl, iteT ?_⟩
    refine ⟨_, rfl, _, _, rfl, rfl, _, rfl, ?_⟩
    rw [t1]
    refine iteT ⟨_, rfl, _, _, rfl, rfl, _, rfl, ?_⟩
    rw [t2]
    refine iteT ⟨_, rfl, _, rfl, _, rfl, a, t, z, rows, m1, p'.2, L1, rfl, hh.same s12, by omega, hlag, fun H3 s3 => ?_⟩
    refine ⟨_, rfl, rfl, ?_⟩
    rw [eL]
    have e : decide (V.int L = V.int L) = true := decide_eq_true rfl
    rw [e]
    exact q H3 (s12.trans s3)
end
end K96

namespace K96
open PySem PySem.Spec PyProof.Rows L2
/-! K96L5: the law's tests with notices, and what is reached. -/
section
variable {P : Program} {w : World} {K : PySem.W.Frag} {mg : Str → Option Value} {base : Heap}
/-- two rows, or one, made anew -/
def twoRows (c : Int) : Rows := [(0, "old"), (c, "new")]
theorem old_new : ("old" : Str) ≠ "new" := by decide +kernel
theorem two_ok {c : Int} (h0 : 0 < c) (h9 : c ≤ 1000) : RowsOk (twoRows c) := by
  refine ⟨⟨⟨"old", rfl⟩, fun i j p p' hij ei ej => ?_⟩, fun p hp => ?_, by show 2 ≤ 8; decide, fun p hp => ?_⟩
  · have hj := (List.getElem?_eq_some_iff.mp ej).1
    have hj2 : j < 2 := hj
    have e1 : i = 0 := by omega
    have e2 : j = 1 := by omega
    subst e1; subst e2
    cases ei; cases ej
    exact h0
  · rcases List.mem_cons.mp hp with e | hp
    · subst e; show ("old" : Str) ∈ four; decide +kernel
    · have e := List.mem_singleton.mp hp
      subst e; show ("new" : Str) ∈ four; decide +kernel
  · rcases List.mem_cons.mp hp with e | hp
    · subst e; exact ⟨Int.le_refl 0, by show (0 : Int) ≤ 1000; decide⟩
    · have e := List.mem_singleton.mp hp
      subst e; exact ⟨by show 0 ≤ c; omega, h9⟩
theorem two_in {c m : Int} {p : Int × Str} (h : K96M.InF (twoRows c) m p) : (m < c ∧ p.2 = "old") ∨ (c ≤ m ∧ p.2 = "new") := by
  obtain ⟨i, e, l, f⟩ := h
  have hi : i < 2 := (List.getElem?_eq_some_iff.mp e).1
  by_cases h0 : i = 0
  · subst h0
    cases e
    have := f 1 (c, "new") (by omega) rfl
    exact .inl ⟨this, rfl⟩
  · have h1 : i = 1 := by omega
    subst h1
    cases e
    exact .inr ⟨l, rfl⟩
theorem two_old {c m : Int} (h0 : 0 ≤ m) (h : m < c) : K96M.InF (twoRows c) m (0, "old") := by
  refine ⟨0, rfl, h0, fun j p' hj e => ?_⟩
  have hj2 : j < 2 := (List.getElem?_eq_some_iff.mp e).1
  have h1 : j = 1 := by omega
  subst h1
  cases e
  exact h
theorem his_two {H : Hp} {a t b1 b2 : Addr} {z : Tms} {c : Int} (ht : TmAt H t z) (ok : z.Ok) (h0 : 0 < c) (h9 : c ≤ 1000) (e1 : H b1 = some (.tup [.int 0, .ref t, .str "old"])) (e2 : H b2 = some (.tup [.int c, .ref t, .str "new"])) (ha : H a = some (.lst [.ref b1, .ref b2])) :
    His H a t z (twoRows c) := by
  refine ⟨⟨_, ha, rfl, fun i p v ep ev => ?_⟩, ht, ok, two_ok h0 h9⟩
  have hi : i < 2 := (List.getElem?_eq_some_iff.mp ep).1
  by_cases h0 : i = 0
  · subst h0; cases ep; cases ev; exact ⟨b1, rfl, e1⟩
  · have h1 : i = 1 := by omega
    subst h1; cases ep; cases ev; exact ⟨b2, rfl, e2⟩
def oneRow : Rows := [(0, "old")]
theorem one_ok : RowsOk oneRow := by
  refine ⟨⟨⟨"old", rfl⟩, fun i j p p' hij ei ej => ?_⟩, fun p hp => ?_, by show 1 ≤ 8; decide, fun p hp => ?_⟩
  · have hj : j < 1 := (List.getElem?_eq_some_iff.mp ej).1
    omega
  · have e := List.mem_singleton.mp hp
    subst e; show ("old" : Str) ∈ four; decide +kernel
  · have e := List.mem_singleton.mp hp
    subst e; exact ⟨Int.le_refl 0, by show (0 : Int) ≤ 1000; decide⟩
theorem one_in {m : Int} {p : Int × Str} (h : K96M.InF oneRow m p) : p.2 = "old" := by
  obtain ⟨i, e, l, f⟩ := h
  have hi : i < 1 := (List.getElem?_eq_some_iff.mp e).1
  have h0 : i = 0 := by omega
  subst h0
  cases e
  rfl
theorem his_one {H : Hp} {a t b1 : Addr} {z : Tms} (ht : TmAt H t z) (ok : z.Ok) (e1 : H b1 = some (.tup [.int 0, .ref t, .str "old"])) (ha : H a = some (.lst [.ref b1])) : His H a t z oneRow := by
  refine ⟨⟨_, ha, rfl, fun i p v ep ev => ?_⟩, ht, ok, one_ok⟩
  have hi : i < 1 := (List.getElem?_eq_some_iff.mp ep).1
  have h0 : i = 0 := by omega
  subst h0; cases ep; cases ev; exact ⟨b1, rfl, e1⟩
theorem many_ge {e q : Int} (he : 1 ≤ e) (hq : 2 ≤ q) : 0 ≤ e / q ∧ e / q ≤ e ∧ e < (1 + e / q) * q := by
  have h1 := Int.emod_nonneg e (show q ≠ 0 by omega)
  have h2 := Int.mul_ediv_add_emod e q
  have h3 := Int.emod_lt_of_pos e (show 0 < q by omega)
  have h4 : q * (e / q) = e / q * q := Int.mul_comm _ _
  refine ⟨Int.ediv_nonneg (by omega) (by omega), Int.ediv_le_self _ (by omega), ?_⟩
  rw [Int.add_mul, Int.one_mul]
  omega
def sp_law_noticed_right (K : PySem.W.Frag) : Sp := fun vs H Q _ => ∃ (d a t : Addr) (n : Nat) (z : Tms) (rows : Rows) (lo : Option Int), vs = [.ref d, .ref a, .ref t, losV lo] ∧ DrAt H d n ∧ n ≤ 10000 ∧ His H a t z rows ∧ LosOk lo ∧ ∀ H', SameL H H' → DrAt H' d (n + 400) → Q (.bl true) H'
-- slots [(0, '_law_draws_here'), (1, '_law_history_here'), (2, '_law_timers'), (3, '_law_losses'), (4, '_law_refresh'), (5, '_law_retry'), (6, '_law_expire'), (7, '_law_best'), (8, '_law_until'), (9, '_law_lost'), (10, '_law_rows'), (11, '_law_moment'), (12, '_law_last'), (13, '_law_copy_here'), (14, '_law_many'), (15, '_law_worst'), (16, '_law_end')]
theorem ok_law_noticed_right {f : Addr} {fd : FuncData} (F : Fun K "_law_noticed_right" "_law_noticed_right" s_law_noticed_right f fd) (T : Txt K mg) (h_law_walk : Has P w K mg base "_law_walk" 2 ["_law_draws_here", "_law_history_here", "_law_losses", "_law_until", "_law_noticed"] (sp_law_walk K)) (h_longest_lag_noticed : Has P w K mg base "longest_lag_noticed" 4 ["timers", "losses"] (sp_longest_lag_noticed K)) (h_law_copy : Has P w K mg base "_law_copy" 2 ["_law_history_here", "_law_rows", "_law_moment"] (sp_law_copy K)) (h_law_lag : Has P w K mg base "_law_lag" 2 ["_law_history_here", "_law_moment", "_law_value"] (sp_law_lag K)) : FnOk P w K mg base CX0 5 f fd ["_law_draws_here", "_law_history_here", "_law_timers", "_law_losses"] (sp_law_noticed_right K) := by
  refine F.ok sc_law_noticed_right (fun vs H Q E h => ?_) (fun cdv A outer s H vs Q E hr h => ?_)
  · obtain ⟨d, a, t, n, z, rows, lo, rfl, hd, hn, hh, hlo, q⟩ := h
    rfl
  · obtain ⟨d, a, t, n, z, rows, lo, rfl, hd, hn, hh, hlo, q⟩ := h
    have hu := hu_of hr
    refine ⟨_, (pss_cons (ps_asg (pv 2) (pg_tup rfl (pgs_cons (pg_name (i := 4) sc_law_noticed_right.nd rfl (Or.inl rfl)) (pgs_cons (pg_name (i := 5) sc_law_noticed_right.nd rfl (Or.inl rfl)) (pgs_cons (pg_name (i := 6) sc_law_noticed_right.nd rfl (Or.inl rfl)) pgs_nil)))))
 (pss_cons (ps_par (i := 7) (j := 8) (by rfl) sc_law_noticed_right.nd rfl rfl (by decide) rfl rfl (pa_cons (pe_call h_longest_lag_noticed.G (hr.mono (by decide)) rfl h_longest_lag_noticed.m h_longest_lag_noticed.kp h_longest_lag_noticed.b .nil pass0 (pa_cons (pv 2) (pa_cons (pv 3) pa_nil))) (pa_cons pe_int pa_nil)) (by rfl))
 (pss_cons (ps_asg (pe_call h_law_walk.G (hr.mono (by decide)) rfl h_law_walk.m h_law_walk.kp h_law_walk.b .nil pass0 (pa_cons (pv 0) (pa_cons (pv 1) (pa_cons (pv 3) (pa_cons (pv 8) (pa_cons pe_bl pa_nil)))))) (pg_tup rfl (pgs_cons (pg_name (i := 9) sc_law_noticed_right.nd rfl (Or.inl rfl)) (pgs_cons (pg_name (i := 10) sc_law_noticed_right.nd rfl (Or.inl rfl)) pgs_nil))))
 (pss_cons (ps_for PassesOwn.never rfl (pi_range1 (by rfl) T.range (pa_cons (pe_op op_add (pv 8) pe_int) pa_nil)) (pg_name (i := 11) sc_law_noticed_right.nd rfl (Or.inl rfl))
  (pss_cons (ps_asg (pe_call h_law_copy.G (hr.mono (by decide)) rfl h_law_copy.m h_law_copy.kp h_law_copy.b .nil pass0 (pa_cons (pv 1) (pa_cons (pv 10) (pa_cons (pv 11) pa_nil)))) (pg_tup rfl (pgs_cons (pg_name (i := 12) sc_law_noticed_right.nd rfl (Or.inl rfl)) (pgs_cons (pg_name (i := 13) sc_law_noticed_right.nd rfl (Or.inl rfl)) pgs_nil))))
 (pss_one (ps_if (PW.pt (pw_and (pt_cmpR op_lt (pv 11) (pe_op op_add (pv 12) (pv 6)) (nomark _)) (pw_and1 (pt_cmpR op_gt (pe_call h_law_lag.G (hr.mono (by decide)) rfl h_law_lag.m h_law_lag.kp h_law_lag.b .nil pass0 (pa_cons (pv 1) (pa_cons (pv 11) (pa_cons (pe_ix ix_seq (pv 13) pe_int (fun _ _ => rfl)) pa_nil)))) (pv 7) (nomark _)))))
  (pss_one (ps_ret pe_bl))
  pss_nil))))
 (pss_cons (ps_set (i := 14) sc_law_noticed_right.nd rfl (Or.inl rfl) (pv 3))
 (pss_cons (ps_if (pt_cmp (pc_isN (pv 3)))
  (pss_one (ps_set (i := 14) sc_law_noticed_right.nd rfl (Or.inl rfl) (pe_op op_add pe_int (pe_op op_fdiv (pv 6) (pv 5)))))
  pss_nil)
 (pss_cons (ps_set (i := 15) sc_law_noticed_right.nd rfl (Or.inl rfl) (pe_lst (pa_cons (pe_tup (pa_cons pe_int (pa_cons (pv 2) (pa_cons pe_str pa_nil)))) (pa_cons (pe_tup (pa_cons (pe_op op_add (pv 4) pe_int) (pa_cons (pv 2) (pa_cons pe_str pa_nil)))) pa_nil))))
 (pss_cons (ps_set (i := 16) sc_law_noticed_right.nd rfl (Or.inl rfl) (pe_op op_sub (pe_callB (call_min2 rfl) (by rfl) T.min (by decide +kernel) (pa_cons (pe_op op_add (pe_op op_add (pv 4) pe_int) (pe_op op_mul (pv 14) (pv 5))) (pa_cons (pe_op op_add (pv 4) (pv 6)) pa_nil))) pe_int))
 (pss_one (ps_ret (pe_cmpR op_eq (pe_call h_law_lag.G (hr.mono (by decide)) rfl h_law_lag.m h_law_lag.kp h_law_lag.b .nil pass0 (pa_cons (pv 15) (pa_cons (pv 16) (pa_cons pe_str pa_nil)))) (pv 7) (nomark _)))))))))))), ?_⟩
    have r1 := hh.ok.r1; have r2 := hh.ok.r2; have q1 := hh.ok.q1; have q2 := hh.ok.q2; have e1 := hh.ok.e1; have e2 := hh.ok.e2
    refine ⟨_, rfl, t, _, rfl, .of hh.tm, rfl, _, _, rfl, _, _, rfl, _, _, rfl, rfl, ?_⟩
    refine ⟨_, rfl, _, rfl, t, z, lo, rfl, hh.tm, hh.ok, hlo, fun H1 s1 => ⟨_, _, rfl, ?_⟩⟩
    refine ⟨_, rfl, _, rfl, _, rfl, _, rfl, d, a, t, n, z, rows, lo, 100, true, rfl, hd.same s1, by omega, hh.same s1, hlo, by decide, by decide, fun H2 D l rw lost R k s p g x s2 d2 hD hl hR wk ask hx l35 r300 => ?_⟩
    refine ⟨D, _, rfl, .of hD, rfl, _, _, rfl, _, _, rfl, rfl, ?_⟩
    have s12 : SameL H H2 := (SameL.of s1).trans s2
    have N := wk.noteFin (by omega) (by omega) (fun l e => (hlo l e).1) ask hx
    refine ⟨_, rfl, _, _, rfl, rfl, _, rfl, by decide, by decide, ?_⟩
    refine for_range (fun i σ H3 => ∃ y11 y12 y13, σ = [some (.ref d), some (.ref a), some (.ref t), some (losV lo), some (.int z.r), some (.int z.q), some (.int z.e), some (.int (K96M.nlag z.q z.e lo)), some (.int 100), some (.ref l), some (.ref rw), y11, y12, y13, none, none, none] ∧ Same H2 H3)
      ⟨none, none, none, rfl, .refl _⟩ (fun i σ H3 hi hw => ?_) (fun σ H3 hw => ?_)
    · obtain ⟨y11, y12, y13, rfl, s3⟩ := hw
      have hi2 : i < 101 := hi
      have ei : (0 : Int) + (i : Int) = i := Int.zero_add _
      have hm0 : (0 : Int) ≤ i := by omega
      have hh3 := (hh.sameL s12).same s3
      obtain ⟨n1, n2, n3⟩ := N.all i hm0 (by omega)
      refine ⟨_, rfl, _, rfl, _, rfl, a, t, rw, z, rows, R, (i : Int), by rw [ei]; rfl, hh3, hR.same s3, by omega, n2, fun H4 D2 b p2 s4 hD2 hp2 hb => ?_⟩
      refine ⟨D2, _, rfl, .of hD2, rfl, _, _, rfl, _, _, rfl, rfl, ?_⟩
      have s34 := s3.trans s4
      refine ⟨_, rfl, _, rfl, _, rfl, _, _, rfl, rfl, _, _, rfl, rfl, _, rfl, ifD (fun hlt => ?_) (fun _ => ⟨_, _, _, rfl, s34⟩)⟩
      obtain ⟨L, hL⟩ := K96M.IsLag.ex' n2 (K96M.Val.of hp2) n1
      have hle := N.lag hh.ro.ok hm0 (by omega) (by omega) (fun l e => (hlo l e).1) hp2 (e := z.e) (by omega) hL
      refine ⟨_, rfl, _, rfl, _, rfl, .inr (.inl ⟨_, _, _, _, rfl, rfl, .of hb, rfl, ?_⟩)⟩
      refine ⟨a, t, z, rows, (i : Int), p2.2, L, by rw [ei]; rfl, hh3.same s4, by omega, hL, fun H5 s5 => ?_⟩
      exact ⟨_, rfl, _, _, rfl, rfl, _, rfl, ifD (fun hgt => by omega) (fun _ => ⟨_, _, _, rfl, s34.trans s5⟩)⟩
    · obtain ⟨y11, y12, y13, rfl, s3⟩ := hw
      have s13 : SameL H H3 := s12.trans (.of s3)
      have d3 := d2.same s3
      have hh3 := hh.sameL s13
      have fin : ∀ many, 0 ≤ many → many ≤ 1000 → (min (z.r + 1 + many * z.q) (z.r + z.e) - 1 - z.r = K96M.nlag z.q z.e lo) →
          tSeq (tAsg (tLst (tCons (tTup (tCons (tC (.int 0)) (tCons (tVar 2) (tCons (tC (.str "old")) tNil)))) (tCons (tTup (tCons (tOp rAdd (tVar 4) (tC (.int 1))) (tCons (tVar 2) (tCons (tC (.str "new")) tNil)))) tNil))) (gName 15))
            (tSeq (tAsg (tOp rSub (tCB (fun xs H Q => ∃ i j, xs = [.int i, .int j] ∧ Q (.int (if j < i then j else i)) H) (tCons (tOp rAdd (tOp rAdd (tVar 4) (tC (.int 1))) (tOp rMul (tVar 14) (tVar 5))) (tCons (tOp rAdd (tVar 4) (tVar 6)) tNil))) (tC (.int 1))) (gName 16))
              (tRet (tOp rEq (tCall (sp_law_lag K) [] E0 (tCons (tVar 15) (tCons (tVar 16) (tCons (tC (.str "old")) tNil)))) (tVar 7))))
            { nx := fun _ H' => Q .non H', rt := Q } [some (.ref d), some (.ref a), some (.ref t), some (losV lo), some (.int z.r), some (.int z.q), some (.int z.e), some (.int (K96M.nlag z.q z.e lo)), some (.int 100), some (.ref l), some (.ref rw), y11, y12, y13, some (.int many), none, none] H3 := fun many m0 m9 em => by
        have hmq : 0 ≤ many * z.q := Int.mul_nonneg m0 (by omega)
        refine ⟨_, rfl, line_le (by show 3 ≤ 1000000; decide), fun b1 hb1 => ?_⟩
        have t1 : Same H3 (upd H3 b1 (.tup [.int 0, .ref t, .str "old"])) := same_upd hb1
        have f1 : upd H3 b1 (.tup [.int 0, .ref t, .str "old"]) b1 = some (.tup [.int 0, .ref t, .str "old"]) := upd_same
        generalize upd H3 b1 (.tup [.int 0, .ref t, .str "old"]) = H4 at *
        refine ⟨_, rfl, _, _, rfl, rfl, _, rfl, line_le (by show 3 ≤ 1000000; decide), fun b2 hb2 => ?_⟩
        have t2 : Same H4 (upd H4 b2 (.tup [.int (z.r + 1), .ref t, .str "new"])) := same_upd hb2
        have f2 : upd H4 b2 (.tup [.int (z.r + 1), .ref t, .str "new"]) b2 = some (.tup [.int (z.r + 1), .ref t, .str "new"]) := upd_same
        refine ⟨line_le (by show 2 ≤ 1000000; decide), fun c hc => ?_⟩
        have t3 : Same (upd H4 b2 (.tup [.int (z.r + 1), .ref t, .str "new"])) (upd (upd H4 b2 (.tup [.int (z.r + 1), .ref t, .str "new"])) c (.lst [.ref b1, .ref b2])) := same_upd hc
        have f3 : upd (upd H4 b2 (.tup [.int (z.r + 1), .ref t, .str "new"])) c (.lst [.ref b1, .ref b2]) c = some (.lst [.ref b1, .ref b2]) := upd_same
        have g2 := t3 _ _ f2
        have g1 := t3 _ _ (t2 _ _ f1)
        have t13 := (t1.trans t2).trans t3
        have hw := his_two (t13 _ _ hh3.tm) hh.ok (by omega) (by omega) g1 g2 f3
        show tSeq _ _ _ _ (upd (upd H4 b2 (.tup [.int (z.r + 1), .ref t, .str "new"])) c (.lst [.ref b1, .ref b2]))
        generalize upd (upd H4 b2 (.tup [.int (z.r + 1), .ref t, .str "new"])) c (.lst [.ref b1, .ref b2]) = H5 at *
        refine ⟨_, rfl, _, _, rfl, rfl, _, rfl, _, rfl, _, _, rfl, rfl, .inr ⟨by omega, by omega⟩, _, _, rfl, rfl, _, rfl, _, rfl, _, _, rfl, rfl, _, _, rfl, _, _, rfl, rfl, ?_⟩
        have emin : (if z.r + z.e < z.r + 1 + many * z.q then z.r + z.e else z.r + 1 + many * z.q) - 1 = z.r + K96M.nlag z.q z.e lo := by
          split <;> omega
        dsimp only
        rw [emin]
        have hn0 : 0 ≤ K96M.nlag z.q z.e lo := by omega
        have hlag : K96M.IsLag (twoRows (z.r + 1)) (z.r + K96M.nlag z.q z.e lo) "old" (K96M.nlag z.q z.e lo) := by
          refine ⟨hn0, by omega, ⟨(0, "old"), two_old (by omega) (by omega), rfl⟩, fun x h1 h2 hv => ?_⟩
          obtain ⟨pp, hpp, ev⟩ := hv
          rcases two_in hpp with ⟨h3, _⟩ | ⟨_, h3⟩
          · omega
          · rw [h3] at ev; exact old_new ev.symm
        refine ⟨_, rfl, _, rfl, c, t, z, twoRows (z.r + 1), _, "old", _, rfl, hw, ?_, hlag, fun H6 s6 => ?_⟩
        · omega
        refine ⟨_, rfl, rfl, ?_⟩
        have e : decide (V.int (K96M.nlag z.q z.e lo) = V.int (K96M.nlag z.q z.e lo)) = true := decide_eq_true rfl
        rw [e]
        exact q H6 (s13.trans (.of (t13.trans s6))) (d3.same (t13.trans s6))
      refine ⟨_, rfl, ?_⟩
      cases lo with
      | none =>
        obtain ⟨m1, m2, m3⟩ := many_ge e1 q1
        refine ⟨_, rfl, _, rfl, iteT ⟨_, rfl, _, rfl, _, _, rfl, rfl, ⟨by omega, by omega⟩, _, _, rfl, rfl, ?_⟩⟩
        exact fin (1 + z.e / z.q) (by omega) (by omega) (by simp only [K96M.nlag]; omega)
      | some x =>
        obtain ⟨x0, x1⟩ := hlo x rfl
        refine ⟨_, rfl, _, rfl, iteF ?_⟩
        exact fin x x0 (by omega) (by simp only [K96M.nlag]; omega)
end
end K96

namespace K96
open PySem PySem.Spec PyProof.Rows L2
/-! K96L6: what is reached. -/
section
variable {P : Program} {w : World} {K : PySem.W.Frag} {mg : Str → Option Value} {base : Heap}
/-! flat data -/
def toD : V → PyData
  | .bl b => .bool b
  | .int i => .int i
  | .str x => .str x
  | _ => .none
def isFlat : V → Bool
  | .non => true
  | .bl _ => true
  | .int _ => true
  | .str x => (PyData.str x).canLay0
  | _ => false
theorem dp_flat {H : Hp} : ∀ {xs : List V}, (∀ x ∈ xs, isFlat x = true) → DpAll K H xs (xs.map toD)
  | [], _ => .nil
  | x :: xs, h => by
    have h1 := h x List.mem_cons_self
    refine .cons ?_ (dp_flat fun y hy => h y (List.mem_cons_of_mem _ hy))
    cases x with
    | non => exact .non
    | bl b => exact .bl b
    | int i => exact .int i
    | str z => exact .str z
    | _ => cases h1
theorem lay_flat : ∀ xs : List V, (∀ x ∈ xs, isFlat x = true) → PyData.canLayAll0 (xs.map toD) = true ∧ PyData.depthAll (xs.map toD) = 0
  | [], _ => ⟨rfl, rfl⟩
  | x :: xs, h => by
    obtain ⟨h1, h2⟩ := lay_flat xs fun y hy => h y (List.mem_cons_of_mem _ hy)
    have hx := h x List.mem_cons_self
    rw [List.map_cons]
    unfold PyData.canLayAll0 PyData.depthAll
    rw [h1, h2]
    cases x with
    | str z =>
      have e : (toD (.str z)).canLay0 = true := hx
      rw [e]
      exact ⟨rfl, rfl⟩
    | _ => exact ⟨rfl, rfl⟩
theorem shaped_flat {xs : List V} (h : ∀ x ∈ xs, isFlat x = true) : SeqAt.shaped (.list (xs.map toD)) = true := by
  obtain ⟨h1, h2⟩ := lay_flat xs h
  unfold SeqAt.shaped
  have e1 : PyData.canLay0 (.list (xs.map toD)) = true := by unfold PyData.canLay0; exact h1
  have e2 : PyData.depth (.list (xs.map toD)) = 1 := by unfold PyData.depth; rw [h2]
  rw [e1, e2]
  rfl
theorem flat_eqv {xs : List V} (h : ∀ x ∈ xs, isFlat x = true) : PyData.eqv (.list (xs.map toD)) (.list (xs.map toD)) = true := SeqAt.eqv_refl _ (SeqAt.canLay_of_shaped (shaped_flat h))
theorem old_lay : (PyData.str "old").canLay0 = true := by decide +kernel
theorem ints_flat (ns : List Int) : ∀ x ∈ ns.map V.int, isFlat x = true := fun x hx => by
  obtain ⟨n, _, e⟩ := List.mem_map.mp hx
  subst e; rfl
/-- two lists of the same flat things are alike -/
theorem ne_same {H : Hp} {a b : Addr} {xs : List V} (h : ∀ x ∈ xs, isFlat x = true) (ha : H a = some (.lst xs)) (hb : H b = some (.lst xs)) : ∃ d e, Dp K H (.ref a) d ∧ Dp K H (.ref b) e ∧ SeqAt.shaped d = true ∧ SeqAt.shaped e = true ∧ PyData.eqv d e = true :=
  ⟨_, _, .lst (.of ha) (dp_flat h), .lst (.of hb) (dp_flat h), shaped_flat h, shaped_flat h, flat_eqv h⟩
/-- what is told at a moment of a row of losses -/
def tv (e en : Int) (i : Nat) : V := if (i : Int) < en then (if (i : Int) < e then .str "old" else .non) else .str "old"
theorem tv_row {e en : Int} (h0 : 0 ≤ en) (he : 1 ≤ e) : (List.range (en + 1).toNat).map (tv e en) = (List.replicate (if en < e then en else e).toNat [V.str "old"]).flatten ++ (List.replicate (max 0 (en - e)).toNat [V.non]).flatten ++ [V.str "old"] := by
  have fl : ∀ (n : Nat) (v : V), (List.replicate n [v]).flatten = List.replicate n v := fun n v => by
    induction n with
    | zero => rfl
    | succ n ih => rw [List.replicate_succ, List.flatten_cons, ih, List.replicate_succ]; rfl
  rw [fl, fl]
  refine List.ext_getElem ?_ fun i h1 h2 => ?_
  · simp only [List.length_map, List.length_range, List.length_append, List.length_replicate, List.length_singleton]
    split <;> omega
  · rw [List.length_map, List.length_range] at h1
    rw [List.getElem_map, List.getElem_range]
    unfold tv
    by_cases c1 : i < (if en < e then en else e).toNat
    · rw [List.getElem_append_left (by simp only [List.length_append, List.length_replicate]; omega), List.getElem_append_left (by simp only [List.length_replicate]; exact c1), List.getElem_replicate]
      rw [if_pos (by split at c1 <;> omega), if_pos (by split at c1 <;> omega)]
    · by_cases c2 : (i : Int) < en
      · rw [List.getElem_append_left (by simp only [List.length_append, List.length_replicate]; split <;> omega), List.getElem_append_right (by simp only [List.length_replicate]; omega), List.getElem_replicate]
        rw [if_pos c2, if_neg (by split at c1 <;> omega)]
      · rw [List.getElem_append_right (by simp only [List.length_append, List.length_replicate]; split <;> omega), List.getElem_singleton]
        rw [if_neg c2]
theorem tv_flat (e en : Int) (n : Nat) : ∀ x ∈ (List.range n).map (tv e en), isFlat x = true := fun x hx => by
  obtain ⟨i, _, h⟩ := List.mem_map.mp hx
  subst h
  unfold tv
  split
  · split
    · exact old_lay
    · rfl
  · exact old_lay
/-- how many are lost at most, and the greatest lag -/
structure ManyOk (z : Tms) (lo : Option Int) (many : Int) : Prop where
  m0 : 0 ≤ many
  m9 : many ≤ 35
  l0 : 0 ≤ K96M.llag z.r z.q z.e lo
  l1 : K96M.llag z.r z.q z.e lo < z.r + many * z.q
  l2 : K96M.llag z.r z.q z.e lo < z.e
  l3 : K96M.llag z.r z.q z.e lo + 1 = z.e ∨ K96M.llag z.r z.q z.e lo + 1 = z.r + many * z.q
theorem many_test {K : PySem.W.Frag} {H : Hp} {z : Tms} (ok : z.Ok) {lo : Option Int} (hlo : ∀ x, lo = some x → 0 ≤ x ∧ x ≤ 10) {t : Addr} {y6 y7 y8 y9 y10 y11 y12 y13 : Option V} {D : Ends}
    (h : ∀ many, ManyOk z lo many → D.nx [some (.ref t), some (losV lo), some (.int z.r), some (.int z.q), some (.int z.e), some (.int many), y6, y7, y8, y9, y10, y11, y12, y13] H) :
    tIfS (tB (tIsN (tVar 1))) (tAsg (tOp rAdd (tC (.int 1)) (tOp rFdiv (tVar 4) (tVar 3))) (gName 5)) tNext D [some (.ref t), some (losV lo), some (.int z.r), some (.int z.q), some (.int z.e), some (losV lo), y6, y7, y8, y9, y10, y11, y12, y13] H := by
  have r1 := ok.r1; have r2 := ok.r2; have q1 := ok.q1; have q2 := ok.q2; have e1 := ok.e1; have e2 := ok.e2
  cases lo with
  | none =>
    obtain ⟨m1, m2, m3⟩ := many_ge e1 q1
    have m4 : z.e / z.q ≤ 30 := by
      have := Int.ediv_le_ediv (c := z.q) (by omega) e2
      have h2 : (60 : Int) / z.q ≤ 30 := by
        have h3 := Int.ediv_mul_le (60 : Int) (show z.q ≠ 0 by omega)
        have h4 : (60 : Int) / z.q * 2 ≤ (60 : Int) / z.q * z.q := Int.mul_le_mul_of_nonneg_left q1 (Int.ediv_nonneg (by decide) (by omega))
        omega
      omega
    refine ⟨_, rfl, _, rfl, iteT ⟨_, rfl, _, rfl, _, _, rfl, rfl, ⟨by omega, by omega⟩, _, _, rfl, rfl, h _ ⟨by omega, by omega, ?_, ?_, ?_, ?_⟩⟩⟩
    all_goals simp only [K96M.llag]; omega
  | some x =>
    obtain ⟨x0, x1⟩ := hlo x rfl
    have : 0 ≤ x * z.q := Int.mul_nonneg x0 (by omega)
    refine ⟨_, rfl, _, rfl, iteF (h x ⟨x0, by omega, ?_, ?_, ?_, ?_⟩)⟩
    all_goals simp only [K96M.llag]; omega
def sp_law_reached (K : PySem.W.Frag) : Sp := fun vs H Q _ => ∃ (t : Addr) (z : Tms) (lo : Option Int), vs = [.ref t, losV lo] ∧ TmAt H t z ∧ z.Ok ∧ (∀ x, lo = some x → 0 ≤ x ∧ x ≤ 10) ∧ ∀ H', Same H H' → Q (.bl true) H'
-- slots [(0, '_law_timers'), (1, '_law_losses'), (2, '_law_refresh'), (3, '_law_retry'), (4, '_law_expire'), (5, '_law_many'), (6, '_law_begin'), (7, '_law_history_here'), (8, '_law_lost'), (9, '_law_k'), (10, '_law_best'), (11, '_law_end'), (12, '_law_told'), (13, '_law_moment')]
theorem ok_law_reached {f : Addr} {fd : FuncData} (F : Fun K "_law_reached" "_law_reached" s_law_reached f fd) (T : Txt K mg) (h_longest_lag : Has P w K mg base "longest_lag" 4 ["timers", "losses"] (sp_longest_lag K)) (h_told_second : Has P w K mg base "told_second" 6 ["history", "lost", "moment"] (sp_told_second K)) (h_askings : Has P w K mg base "askings" 6 ["history", "lost", "until"] (sp_askings K)) (h_longest_silence : Has P w K mg base "longest_silence" 4 ["timers", "losses"] (sp_longest_silence K)) : FnOk P w K mg base CX0 7 f fd ["_law_timers", "_law_losses"] (sp_law_reached K) := by
  refine F.ok sc_law_reached (fun vs H Q E h => ?_) (fun cdv A outer s H vs Q E hr h => ?_)
  · obtain ⟨t, z, lo, rfl, ht, ok, hlo, q⟩ := h
    rfl
  · obtain ⟨t, z, lo, rfl, ht, ok, hlo, q⟩ := h
    have hu := hu_of hr
    refine ⟨_, (pss_cons (ps_asg (pv 0) (pg_tup rfl (pgs_cons (pg_name (i := 2) sc_law_reached.nd rfl (Or.inr rfl)) (pgs_cons (pg_name (i := 3) sc_law_reached.nd rfl (Or.inr rfl)) (pgs_cons (pg_name (i := 4) sc_law_reached.nd rfl (Or.inl rfl)) pgs_nil)))))
 (pss_cons (ps_set (i := 5) sc_law_reached.nd rfl (Or.inl rfl) (pv 1))
 (pss_cons (ps_if (pt_cmp (pc_isN (pv 1)))
  (pss_one (ps_set (i := 5) sc_law_reached.nd rfl (Or.inl rfl) (pe_op op_add pe_int (pe_op op_fdiv (pv 4) (pv 3)))))
  pss_nil)
 (pss_cons (ps_set (i := 6) sc_law_reached.nd rfl (Or.inr rfl) (pe_op op_mul (pv 2) pe_int))
 (pss_cons (ps_set (i := 7) sc_law_reached.nd rfl (Or.inr rfl) (pe_lst (pa_cons (pe_tup (pa_cons pe_int (pa_cons (pv 0) (pa_cons pe_str pa_nil)))) (pa_cons (pe_tup (pa_cons (pe_op op_add (pv 6) pe_int) (pa_cons (pv 0) (pa_cons pe_str pa_nil)))) pa_nil))))
 (pss_cons (ps_set (i := 8) sc_law_reached.nd rfl (Or.inr rfl) (pe_lc (own := [("_law_k", 9)]) (g := (gName 9)) (tt := tYes) (te := (tOp rAdd (tOp rAdd (tVar 6) (tVar 2)) (tOp rMul (tVar 9) (tVar 3)))) rfl sc_law_reached.nd (pi_range1 (by rfl) T.range (pa_cons (pe_callB (call_min2 rfl) (by rfl) T.min (by decide +kernel) (pa_cons (pv 5) (pa_cons pe_int pa_nil))) pa_nil)) (blkOk_by (N := ["_law_timers", "_law_losses", "_law_refresh", "_law_retry", "_law_expire", "_law_many", "_law_begin", "_law_history_here", "_law_lost", "_law_k", "_law_best", "_law_end", "_law_told", "_law_moment"]) (sc := defScope s_law_reached) (by decide +kernel)) (fun _ _ _ _ _ => (pg_name (i := 9) sc_law_reached.nd rfl (Or.inl rfl))) (fun _ _ _ _ _ => pts_nil) (fun _ _ _ _ _ => (pe_op op_add (pe_op op_add (pv 6) (pv 2)) (pe_op op_mul (pv 9) (pv 3))))))
 (pss_cons (ps_set (i := 10) sc_law_reached.nd rfl (Or.inl rfl) (pe_call h_longest_lag.G (hr.mono (by decide)) rfl h_longest_lag.m h_longest_lag.kp h_longest_lag.b .nil pass0 (pa_cons (pv 0) (pa_cons (pv 1) pa_nil))))
 (pss_cons (ps_if (PW.pt (pw_or (pt_cmpR op_ne (pe_call h_told_second.G (hr.mono (by decide)) rfl h_told_second.m h_told_second.kp h_told_second.b .nil pass0 (pa_cons (pv 7) (pa_cons (pv 8) (pa_cons (pe_op op_add (pv 6) (pv 10)) pa_nil)))) pe_str (nomark _)) (pw_or1 (pt_cmpR op_eq (pe_call h_told_second.G (hr.mono (by decide)) rfl h_told_second.m h_told_second.kp h_told_second.b .nil pass0 (pa_cons (pv 7) (pa_cons (pv 8) (pa_cons (pe_op op_add (pe_op op_add (pv 6) (pv 10)) pe_int) pa_nil)))) pe_str (nomark _)))))
  (pss_one (ps_ret pe_bl))
  pss_nil)
 (pss_cons (ps_if (pt_cmp (pc_isN (pv 1)))
  (pss_one (ps_ret (pe_cmp (pc_isN (pe_call h_longest_silence.G (hr.mono (by decide)) rfl h_longest_silence.m h_longest_silence.kp h_longest_silence.b .nil pass0 (pa_cons (pv 0) (pa_cons pe_non pa_nil)))))))
  pss_nil)
 (pss_cons (ps_asg (pe_tup (pa_cons (pe_op op_add (pv 2) (pe_op op_mul (pv 1) (pv 3))) (pa_cons (pe_lc (own := [("_law_k", 9)]) (g := (gName 9)) (tt := tYes) (te := (tOp rAdd (tVar 2) (tOp rMul (tVar 9) (tVar 3)))) rfl sc_law_reached.nd (pi_range1 (by rfl) T.range (pa_cons (pv 1) pa_nil)) (blkOk_by (N := ["_law_timers", "_law_losses", "_law_refresh", "_law_retry", "_law_expire", "_law_many", "_law_begin", "_law_history_here", "_law_lost", "_law_k", "_law_best", "_law_end", "_law_told", "_law_moment"]) (sc := defScope s_law_reached) (by decide +kernel)) (fun _ _ _ _ _ => (pg_name (i := 9) sc_law_reached.nd rfl (Or.inl rfl))) (fun _ _ _ _ _ => pts_nil) (fun _ _ _ _ _ => (pe_op op_add (pv 2) (pe_op op_mul (pv 9) (pv 3))))) pa_nil))) (pg_tup rfl (pgs_cons (pg_name (i := 11) sc_law_reached.nd rfl (Or.inl rfl)) (pgs_cons (pg_name (i := 8) sc_law_reached.nd rfl (Or.inr rfl)) pgs_nil))))
 (pss_cons (ps_setLc (i := 12) (own := [("_law_moment", 13)]) (g := (gName 13)) (tt := tYes) (te := (tCall (sp_told_second K) [] E0 (tCons (tSl (rSlL K) (tVar 7) tNoPart (tPart (tC (.int 1)))) (tCons (tVar 8) (tCons (tVar 13) tNil))))) rfl sc_law_reached.nd rfl rfl (sw_true rfl rfl rfl (by decide +kernel)) (pi_range1 (by rfl) T.range (pa_cons (pe_op op_add (pv 11) pe_int) pa_nil)) (blkOk_by (N := ["_law_timers", "_law_losses", "_law_refresh", "_law_retry", "_law_expire", "_law_many", "_law_begin", "_law_history_here", "_law_lost", "_law_k", "_law_best", "_law_end", "_law_told", "_law_moment"]) (sc := defScope s_law_reached) (by decide +kernel)) (fun _ _ _ _ _ => (pg_name (i := 13) sc_law_reached.nd rfl (Or.inl rfl))) (fun _ _ _ _ _ => pts_nil) (fun _ _ _ _ _ => (pe_call h_told_second.G (hr.mono (by decide)) rfl h_told_second.m h_told_second.kp h_told_second.b .nil pass0 (pa_cons (pe_slice sl_list (pv 7) po_none (po_some pe_int)) (pa_cons (pv 8) (pa_cons (pv 13) pa_nil))))))
 (pss_cons (ps_if (pt_cmpR (op_neD hr.units) (pv 12) (pe_op op_cat (pe_op op_cat (pe_op op_rep (pe_lst (pa_cons pe_str pa_nil)) (pe_callB (call_min2 rfl) (by rfl) T.min (by decide +kernel) (pa_cons (pv 4) (pa_cons (pv 11) pa_nil)))) (pe_op op_rep (pe_lst (pa_cons pe_non pa_nil)) (pe_call h_longest_silence.G (hr.mono (by decide)) rfl h_longest_silence.m h_longest_silence.kp h_longest_silence.b .nil pass0 (pa_cons (pv 0) (pa_cons (pv 1) pa_nil))))) (pe_lst (pa_cons pe_str pa_nil))) (nomark _))
  (pss_one (ps_ret pe_bl))
  pss_nil)
 (pss_one (ps_ret (pe_cmpR (op_eqD hr.units) (pe_call h_askings.G (hr.mono (by decide)) rfl h_askings.m h_askings.kp h_askings.b .nil pass0 (pa_cons (pe_lst (pa_cons (pe_tup (pa_cons pe_int (pa_cons (pv 0) (pa_cons pe_str pa_nil)))) pa_nil)) (pa_cons (pv 8) (pa_cons (pv 11) pa_nil)))) (pe_op op_cat (pv 8) (pe_lst (pa_cons (pv 11) pa_nil))) (nomark _)))))))))))))))), ?_⟩
    have r1 := ok.r1; have r2 := ok.r2; have q1 := ok.q1; have q2 := ok.q2; have e1 := ok.e1; have e2 := ok.e2
    have lok : LosOk lo := fun x e => by have := hlo x e; omega
    refine ⟨_, rfl, t, _, rfl, .of ht, rfl, _, _, rfl, _, _, rfl, _, _, rfl, rfl, ?_⟩
    refine ⟨_, rfl, many_test (K := K) ok hlo fun many M => ?_⟩
    obtain ⟨m0, m9, l0, l1, l2, l3⟩ := M
    have hmq : 0 ≤ many * z.q := Int.mul_nonneg m0 (by omega)
    refine ⟨_, rfl, _, _, rfl, rfl, .inr ⟨by decide, by decide⟩, ?_⟩
    -- the history
    refine ⟨_, rfl, line_le (by show 3 ≤ 1000000; decide), fun b1 hb1 => ?_⟩
    have t1 : Same H (upd H b1 (.tup [.int 0, .ref t, .str "old"])) := same_upd hb1
    have f1 : upd H b1 (.tup [.int 0, .ref t, .str "old"]) b1 = some (.tup [.int 0, .ref t, .str "old"]) := upd_same
    refine ⟨_, rfl, _, _, rfl, rfl, _, rfl, line_le (by show 3 ≤ 1000000; decide), fun b2 hb2 => ?_⟩
    have t2 : Same (upd H b1 (.tup [.int 0, .ref t, .str "old"])) (upd (upd H b1 (.tup [.int 0, .ref t, .str "old"])) b2 (.tup [.int (z.r * 2 + 1), .ref t, .str "new"])) := same_upd hb2
    have f2 : upd (upd H b1 (.tup [.int 0, .ref t, .str "old"])) b2 (.tup [.int (z.r * 2 + 1), .ref t, .str "new"]) b2 = some (.tup [.int (z.r * 2 + 1), .ref t, .str "new"]) := upd_same
    have g1 := t2 _ _ f1
    refine ⟨line_le (by show 2 ≤ 1000000; decide), fun c hc => ?_⟩
    have t3 : Same (upd (upd H b1 (.tup [.int 0, .ref t, .str "old"])) b2 (.tup [.int (z.r * 2 + 1), .ref t, .str "new"])) (upd (upd (upd H b1 (.tup [.int 0, .ref t, .str "old"])) b2 (.tup [.int (z.r * 2 + 1), .ref t, .str "new"])) c (.lst [.ref b1, .ref b2])) := same_upd hc
    have f3 : upd (upd (upd H b1 (.tup [.int 0, .ref t, .str "old"])) b2 (.tup [.int (z.r * 2 + 1), .ref t, .str "new"])) c (.lst [.ref b1, .ref b2]) c = some (.lst [.ref b1, .ref b2]) := upd_same
    have u1 := t3 _ _ g1
    have u2 := t3 _ _ f2
    have t13 := (t1.trans t2).trans t3
    have hw := his_two (t13 _ _ ht) ok (by omega) (by omega) u1 u2 f3
    show tSeq _ _ _ _ (upd (upd (upd H b1 (.tup [.int 0, .ref t, .str "old"])) b2 (.tup [.int (z.r * 2 + 1), .ref t, .str "new"])) c (.lst [.ref b1, .ref b2]))
    generalize upd (upd (upd H b1 (.tup [.int 0, .ref t, .str "old"])) b2 (.tup [.int (z.r * 2 + 1), .ref t, .str "new"])) c (.lst [.ref b1, .ref b2]) = H3 at *
    -- the lost ones
    have em : (if (35 : Int) < many then 35 else many) = many := if_neg (by omega)
    refine ⟨_, rfl, _, _, rfl, ?_⟩
    rw [em]
    refine ⟨many, rfl, by omega, by omega, fun D hD => ?_⟩
    refine lc_range (LcP H3 D (List.range many.toNat) (fun _ => true) (fun i => V.int (z.r * 2 + z.r + (0 + (i : Int)) * z.q))) (lc_start hD) (fun i H4 hi p => ?_) (fun H4 p => ?_)
    · refine ⟨rfl, _, rfl, _, rfl, _, _, rfl, rfl, _, rfl, _, rfl, _, _, rfl, rfl, .inr ⟨by omega, by omega⟩, _, _, rfl, rfl, lc_keep hD p (.refl _) (range_at hi) rfl rfl (by rw [List.length_range]; omega)⟩
    have d4 := rangeInts many.toNat (fun (i : Nat) => z.r * 2 + z.r + (0 + (i : Int)) * z.q) D H4 (lc_end (l := List.range many.toNat) (by rw [List.length_range]; exact p))
    have emany : many.toNat = (many - 1 + 1).toNat := by omega
    have hlm : ∀ x, x ∈ (List.range many.toNat).map (fun (i : Nat) => z.r * 2 + z.r + (0 + (i : Int)) * z.q) ↔ ∃ k, 0 ≤ k ∧ k < many ∧ x = z.r * 2 + z.r + k * z.q := fun x => by
      rw [emany, turns_mem (b := z.r * 2 + z.r) (q := z.q) fun i => rfl]
      exact ⟨fun ⟨k, k0, k1, e⟩ => ⟨k, k0, by omega, e⟩, fun ⟨k, k0, k1, e⟩ => ⟨k, k0, by omega, e⟩⟩
    have hlasc := turns_asc (b := z.r * 2 + z.r) (q := z.q) (by omega) (f := fun i => z.r * 2 + z.r + (0 + (i : Int)) * z.q) (fun i => rfl) many.toNat
    have hllen : ((List.range many.toNat).map (fun (i : Nat) => z.r * 2 + z.r + (0 + (i : Int)) * z.q)).length ≤ 100 := by rw [List.length_map, List.length_range]; omega
    generalize (List.range many.toNat).map (fun (i : Nat) => z.r * 2 + z.r + (0 + (i : Int)) * z.q) = lost at *
    have hgt : ∀ x ∈ lost, z.r * 2 < x := fun x hx => by
      obtain ⟨k, k0, k1, e⟩ := (hlm x).mp hx
      have : 0 ≤ k * z.q := Int.mul_nonneg k0 (by omega)
      omega
    have lokl : LostOk lost := ⟨fun x hx => by have := hgt x hx; omega, hlasc.imp fun {x y} h => by omega, by omega⟩
    have s34 := p.sm
    have s4 := t13.trans s34
    -- the greatest lag
    refine ⟨_, rfl, _, rfl, t, z, lo, rfl, s4 _ _ ht, ok, lok, fun H5 s5 => ?_⟩
    have s45 := s34.trans s5
    generalize hbest : K96M.llag z.r z.q z.e lo = best at *
    have sim : ∀ m, z.r * 2 ≤ m → K96M.simN lost z.r z.q m 0 z.r = K96M.simN lost z.r z.q m (z.r * 2) (z.r * 2 + z.r) := fun m hm => K96M.simN_two (by omega) (by omega) hgt hm
    have from' := fun m => K96M.simN_from (lost := lost) (r := z.r) (q := z.q) (b := z.r * 2) (many := many) (m := m) (by omega) (by omega) m0 hlm
    refine ⟨_, rfl, _, rfl, _, rfl, _, rfl, _, _, rfl, rfl, c, t, D, z, twoRows (z.r * 2 + 1), lost, z.r * 2 + best, rfl, hw.same s45, s5 _ _ d4, lokl, by omega, fun H6 p6 s6 hp6 => ?_⟩
    rw [sim _ (by omega), (from' _).1 (by omega)] at hp6 ⊢
    rw [if_pos (by omega)]
    have ep6 : p6.2 = "old" := by
      rcases two_in hp6 with ⟨_, h⟩ | ⟨h, _⟩
      · exact h
      · omega
    rw [ep6]
    refine ⟨rfl, _, rfl, ?_⟩
    rw [decide_eq_true (rfl : V.str "old" = V.str "old")]
    refine iteF ?_
    have s46 := s45.trans s6
    refine ⟨_, rfl, _, rfl, _, rfl, _, rfl, _, _, rfl, rfl, _, _, rfl, rfl, c, t, D, z, twoRows (z.r * 2 + 1), lost, z.r * 2 + best + 1, rfl, hw.same s46, s6 _ _ (s5 _ _ d4), lokl, by omega, fun H7 p7 s7 hp7 => ?_⟩
    have v7 : (if z.r * 2 + best + 1 < K96M.simN lost z.r z.q (z.r * 2 + best + 1) 0 z.r + z.e then V.str p7.2 else .non) = .non ∨ (if z.r * 2 + best + 1 < K96M.simN lost z.r z.q (z.r * 2 + best + 1) 0 z.r + z.e then V.str p7.2 else .non) = .str "new" := by
      rw [sim _ (by omega)] at hp7 ⊢
      by_cases hc : z.r * 2 + best + 1 < z.r * 2 + z.r + many * z.q
      · rw [(from' _).1 hc]
        left
        rw [if_neg (by omega)]
      · have h8 := (from' (z.r * 2 + best + 1)).2 (by omega)
        have ep7 : p7.2 = "new" := by
          rcases two_in hp7 with ⟨h, _⟩ | ⟨_, h⟩
          · omega
          · exact h
        rw [ep7]
        split
        · right; rfl
        · left; rfl
    generalize (if z.r * 2 + best + 1 < K96M.simN lost z.r z.q (z.r * 2 + best + 1) 0 z.r + z.e then V.str p7.2 else .non) = v at *
    have hv : scal v (.str "old") = true ∧ decide (v = V.str "old") = false := by
      rcases v7 with rfl | rfl
      · exact ⟨rfl, rfl⟩
      · exact ⟨rfl, decide_eq_false fun e => old_new (V.str.inj e).symm⟩
    refine ⟨hv.1, _, rfl, ?_⟩
    rw [hv.2]
    refine iteF ?_
    have s7' := (s4.trans s5).trans (s6.trans s7)
    have s47 := s46.trans s7
    have hw7 := hw.same s47
    have u17 := s47 _ _ u1
    have f37 := s47 _ _ f3
    cases lo with
    | none =>
      refine ⟨_, rfl, _, rfl, iteT ⟨_, rfl, t, z, none, rfl, s7' _ _ ht, ok, lok, fun H8 s8 => ?_⟩⟩
      exact q H8 (s7'.trans s8)
    | some x =>
      refine ⟨_, rfl, _, rfl, iteF ?_⟩
      obtain ⟨x0, x1⟩ := hlo x rfl
      have hxq : 0 ≤ x * z.q := Int.mul_nonneg x0 (by omega)
      have hxq9 : x * z.q ≤ 100 := by
        have h1 : x * z.q ≤ 10 * z.q := Int.mul_le_mul_of_nonneg_right x1 (by omega)
        omega
      refine ⟨_, rfl, _, rfl, _, rfl, _, _, rfl, rfl, .inl ⟨by omega, by omega⟩, _, _, rfl, rfl, ?_⟩
      generalize hen : z.r + x * z.q = en at *
      have en0 : 0 ≤ en := by omega
      have en9 : en ≤ 200 := by omega
      refine ⟨_, rfl, x, rfl, by omega, by omega, fun D2 hD2 => ?_⟩
      refine lc_range (LcP H7 D2 (List.range x.toNat) (fun _ => true) (fun i => V.int (z.r + (0 + (i : Int)) * z.q))) (lc_start hD2) (fun i H8 hi p => ?_) (fun H8 p => ?_)
      · refine ⟨rfl, _, rfl, _, rfl, _, rfl, _, _, rfl, rfl, .inr ⟨by omega, by omega⟩, _, _, rfl, rfl, lc_keep hD2 p (.refl _) (range_at hi) rfl rfl (by rw [List.length_range]; omega)⟩
      have d8 := rangeInts x.toNat (fun (i : Nat) => z.r + (0 + (i : Int)) * z.q) D2 H8 (lc_end (l := List.range x.toNat) (by rw [List.length_range]; exact p))
      have ex : x.toNat = (x - 1 + 1).toNat := by omega
      have hm2 : ∀ y, y ∈ (List.range x.toNat).map (fun (i : Nat) => z.r + (0 + (i : Int)) * z.q) ↔ ∃ k, 0 ≤ k ∧ k < x ∧ y = 0 + z.r + k * z.q := fun y => by
        rw [ex, turns_mem (b := z.r) (q := z.q) fun i => rfl]
        exact ⟨fun ⟨k, k0, k1, e⟩ => ⟨k, k0, by omega, by omega⟩, fun ⟨k, k0, k1, e⟩ => ⟨k, k0, by omega, by omega⟩⟩
      have asc2 := turns_asc (b := z.r) (q := z.q) (by omega) (f := fun (i : Nat) => z.r + (0 + (i : Int)) * z.q) (fun i => rfl) x.toNat
      have len2 : ((List.range x.toNat).map (fun (i : Nat) => z.r + (0 + (i : Int)) * z.q)).length ≤ 100 := by rw [List.length_map, List.length_range]; omega
      have asks2 : (∀ y, y ∈ (List.range x.toNat).map (fun (i : Nat) => z.r + (0 + (i : Int)) * z.q) ↔ ∃ k, 0 ≤ k ∧ k < x ∧ y = 0 + z.r + k * z.q) → K96M.asks ((List.range x.toNat).map (fun (i : Nat) => z.r + (0 + (i : Int)) * z.q)) z.r z.q en z.r = (List.range x.toNat).map (fun (i : Nat) => z.r + (0 + (i : Int)) * z.q) ++ [en] := fun hm => by
        have h1 := K96M.asks_from (lost := (List.range x.toNat).map (fun (i : Nat) => z.r + (0 + (i : Int)) * z.q)) (r := z.r) (q := z.q) (m := en) (by omega) (by omega) x.toNat z.r (fun j hj => (hm _).mpr ⟨(j : Int), by omega, by omega, by omega⟩) (fun h => ?_) (by rw [Int.toNat_of_nonneg x0]; exact hen)
        · rw [h1]
          have e3 : (List.range x.toNat).map (fun (j : Nat) => z.r + (j : Int) * z.q) = (List.range x.toNat).map (fun (i : Nat) => z.r + (0 + (i : Int)) * z.q) := List.map_congr_left fun i _ => by rw [Int.zero_add]
          rw [e3]
        · obtain ⟨k, k0, k1, e⟩ := (hm _).mp h
          rw [Int.toNat_of_nonneg x0] at e
          have : k * z.q < x * z.q := Int.mul_lt_mul_of_pos_right k1 (by omega)
          omega
      have asks3 := asks2 hm2
      generalize (List.range x.toNat).map (fun (i : Nat) => z.r + (0 + (i : Int)) * z.q) = lost2 at *
      have gt2 : ∀ y ∈ lost2, 0 < y := fun y hy => by
        obtain ⟨k, k0, k1, e⟩ := (hm2 y).mp hy
        have : 0 ≤ k * z.q := Int.mul_nonneg k0 (by omega)
        omega
      have lok2 : LostOk lost2 := ⟨fun y hy => by have := gt2 y hy; omega, asc2.imp fun {a b} h => by omega, by omega⟩
      have from2 := fun m => K96M.simN_from (lost := lost2) (r := z.r) (q := z.q) (b := 0) (many := x) (m := m) (by omega) (by omega) x0 hm2
      have s78 := p.sm
      have s8' := s7'.trans s78
      refine ⟨line_le (by show 2 ≤ 1000000; decide), fun C hC => ?_⟩
      have s9 : Same H8 (upd H8 C (.tup [.int en, .ref D2])) := same_upd hC
      have c9 : upd H8 C (.tup [.int en, .ref D2]) C = some (.tup [.int en, .ref D2]) := upd_same
      have s79 := s78.trans s9
      refine ⟨C, [.int en, .ref D2], rfl, .of ?_, rfl, _, _, rfl, _, _, rfl, rfl, ?_⟩
      · show upd H8 C (.tup [.int (z.r + x * z.q), .ref D2]) C = _
        rw [hen]
        exact c9
      show tSeq _ _ _ _ (upd H8 C (.tup [.int (z.r + x * z.q), .ref D2]))
      rw [hen]
      generalize upd H8 C (.tup [.int en, .ref D2]) = H9 at *
      have s9' := s8'.trans s9
      have s39 := s47.trans s79
      have hist9 := s79 _ _ f37
      have u19 := s79 _ _ u17
      have d9 : IntsAt H9 D2 lost2 := s9 _ _ d8
      have ht9 : TmAt H9 t z := s9' _ _ ht
      have ecut : cutV [V.ref b1, V.ref b2] none (some 1) = [V.ref b1] := rfl
      refine ⟨_, rfl, _, _, rfl, rfl, _, rfl, by omega, by omega, fun T2 hT2 => ?_⟩
      refine lc_range (LcP H9 T2 (List.range (en + 1).toNat) (fun _ => true) (tv z.e en)) (lc_start hT2) (fun i H10 hi p10 => ?_) (fun H10 p10 => ?_)
      · have s10 := p10.sm
        refine ⟨rfl, _, rfl, 1, rfl, c, _, rfl, .of (s10 _ _ hist9), fun S hS => ?_⟩
        rw [ecut]
        have sS : Same H10 (upd H10 S (.lst [.ref b1])) := same_upd hS
        have hSl : upd H10 S (.lst [.ref b1]) S = some (.lst [.ref b1]) := upd_same
        generalize upd H10 S (.lst [.ref b1]) = H11 at *
        have s11 := s10.trans sS
        have ei : (0 : Int) + (i : Int) = i := Int.zero_add _
        refine ⟨_, rfl, _, rfl, S, t, D2, z, oneRow, lost2, (i : Int), by rw [ei]; rfl, his_one (s11 _ _ ht9) ok (s11 _ _ u19) hSl, s11 _ _ d9, lok2, by omega, fun H12 p12 s12 hp12 => ?_⟩
        refine lc_keep hT2 p10 (sS.trans s12) (range_at hi) rfl ?_ (by rw [List.length_range]; omega)
        rw [one_in hp12]
        have f2 := from2 i
        simp only [Int.zero_add] at f2
        unfold tv
        by_cases hc2 : (i : Int) < en
        · rw [f2.1 (by omega), if_pos hc2, Int.zero_add]
        · have h8 := f2.2 (by omega)
          rw [if_neg hc2, if_pos (by omega)]
      have t10 := lc_end (l := List.range (en + 1).toNat) (by rw [List.length_range]; exact p10)
      have hf10 : ((List.range (en + 1).toNat).filter fun _ => true) = List.range (en + 1).toNat := by simp
      rw [hf10] at t10
      have s10 := p10.sm
      have s10' := s9'.trans s10
      -- the list that is asked
      refine ⟨_, rfl, line_le (by show 1 ≤ 1000000; decide), fun A1 hA1 => ?_⟩
      have w1 : Same H10 (upd H10 A1 (.lst [.str "old"])) := same_upd hA1
      have k1 : upd H10 A1 (.lst [.str "old"]) A1 = some (.lst [.str "old"]) := upd_same
      generalize upd H10 A1 (.lst [.str "old"]) = G1 at *
      refine ⟨_, rfl, _, rfl, _, _, rfl, ?_⟩
      have mn : 0 ≤ (if en < z.e then en else z.e) ∧ (if en < z.e then en else z.e) ≤ 200 := by split <;> omega
      refine ⟨A1, _, _, rfl, rfl, k1, by omega, by omega, line_le (by simp only [List.length_singleton]; omega), fun A2 hA2 => ?_⟩
      have w2 : Same G1 (upd G1 A2 (.lst (List.replicate (if en < z.e then en else z.e).toNat [V.str "old"]).flatten)) := same_upd hA2
      have k2 : upd G1 A2 (.lst (List.replicate (if en < z.e then en else z.e).toNat [V.str "old"]).flatten) A2 = some (.lst (List.replicate (if en < z.e then en else z.e).toNat [V.str "old"]).flatten) := upd_same
      generalize upd G1 A2 (.lst (List.replicate (if en < z.e then en else z.e).toNat [V.str "old"]).flatten) = G2 at *
      refine ⟨line_le (by show 1 ≤ 1000000; decide), fun A3 hA3 => ?_⟩
      have w3 : Same G2 (upd G2 A3 (.lst [.non])) := same_upd hA3
      have k3 : upd G2 A3 (.lst [.non]) A3 = some (.lst [.non]) := upd_same
      generalize upd G2 A3 (.lst [.non]) = G3 at *
      have w13 := (w1.trans w2).trans w3
      refine ⟨_, rfl, _, rfl, t, z, some x, rfl, w13 _ _ (s10' _ _ ht), ok, lok, fun G4 w4 => ?_⟩
      have esil : silV z (some x) = .int (max 0 (en - z.e)) := by simp only [silV]; rw [hen]
      rw [esil]
      have mx : 0 ≤ max 0 (en - z.e) ∧ max 0 (en - z.e) ≤ 200 := by omega
      refine ⟨A3, _, _, rfl, rfl, w4 _ _ k3, by omega, by omega, line_le (by simp only [List.length_singleton]; omega), fun A5 hA5 => ?_⟩
      have w5 : Same G4 (upd G4 A5 (.lst (List.replicate (max 0 (en - z.e)).toNat [V.non]).flatten)) := same_upd hA5
      have k5 : upd G4 A5 (.lst (List.replicate (max 0 (en - z.e)).toNat [V.non]).flatten) A5 = some (.lst (List.replicate (max 0 (en - z.e)).toNat [V.non]).flatten) := upd_same
      generalize upd G4 A5 (.lst (List.replicate (max 0 (en - z.e)).toNat [V.non]).flatten) = G5 at *
      have w25 := (w3.trans w4).trans w5
      refine ⟨A2, A5, _, _, rfl, rfl, w25 _ _ k2, k5, line_le (by simp only [List.length_flatten, List.map_replicate, List.length_singleton, List.sum_replicate_nat]; omega), fun A6 hA6 => ?_⟩
      have w6 : Same G5 (upd G5 A6 (.lst ((List.replicate (if en < z.e then en else z.e).toNat [V.str "old"]).flatten ++ (List.replicate (max 0 (en - z.e)).toNat [V.non]).flatten))) := same_upd hA6
      have k6 : upd G5 A6 (.lst ((List.replicate (if en < z.e then en else z.e).toNat [V.str "old"]).flatten ++ (List.replicate (max 0 (en - z.e)).toNat [V.non]).flatten)) A6 = some (.lst ((List.replicate (if en < z.e then en else z.e).toNat [V.str "old"]).flatten ++ (List.replicate (max 0 (en - z.e)).toNat [V.non]).flatten)) := upd_same
      generalize upd G5 A6 (.lst ((List.replicate (if en < z.e then en else z.e).toNat [V.str "old"]).flatten ++ (List.replicate (max 0 (en - z.e)).toNat [V.non]).flatten)) = G6 at *
      refine ⟨line_le (by show 1 ≤ 1000000; decide), fun A7 hA7 => ?_⟩
      have w7 : Same G6 (upd G6 A7 (.lst [.str "old"])) := same_upd hA7
      have k7 : upd G6 A7 (.lst [.str "old"]) A7 = some (.lst [.str "old"]) := upd_same
      generalize upd G6 A7 (.lst [.str "old"]) = G7 at *
      refine ⟨A6, A7, _, _, rfl, rfl, w7 _ _ k6, k7, line_le (by simp only [List.length_append, List.length_flatten, List.map_replicate, List.length_singleton, List.sum_replicate_nat]; omega), fun A8 hA8 => ?_⟩
      rw [← tv_row en0 e1]
      have w8 : Same G7 (upd G7 A8 (.lst ((List.range (en + 1).toNat).map (tv z.e en)))) := same_upd hA8
      have k8 : upd G7 A8 (.lst ((List.range (en + 1).toNat).map (tv z.e en))) A8 = some (.lst ((List.range (en + 1).toNat).map (tv z.e en))) := upd_same
      generalize upd G7 A8 (.lst ((List.range (en + 1).toNat).map (tv z.e en))) = G8 at *
      have w18 := ((((w1.trans w2).trans w25).trans w6).trans w7).trans w8
      obtain ⟨dd, ee, h1, h2, h3, h4, h5⟩ := ne_same (K := K) (tv_flat z.e en _) (w18 _ _ t10) k8
      refine ⟨dd, ee, h1, h2, h3, h4, _, rfl, ?_⟩
      rw [h5]
      refine iteF ?_
      have s18 := s10.trans w18
      have s18' := s10'.trans w18
      refine ⟨_, rfl, line_le (by show 3 ≤ 1000000; decide), fun B1 hB1 => ?_⟩
      have x1' : Same G8 (upd G8 B1 (.tup [.int 0, .ref t, .str "old"])) := same_upd hB1
      have j1 : upd G8 B1 (.tup [.int 0, .ref t, .str "old"]) B1 = some (.tup [.int 0, .ref t, .str "old"]) := upd_same
      generalize upd G8 B1 (.tup [.int 0, .ref t, .str "old"]) = J1 at *
      refine ⟨line_le (by show 1 ≤ 1000000; decide), fun B2 hB2 => ?_⟩
      have x2' : Same J1 (upd J1 B2 (.lst [.ref B1])) := same_upd hB2
      have j2 : upd J1 B2 (.lst [.ref B1]) B2 = some (.lst [.ref B1]) := upd_same
      generalize upd J1 B2 (.lst [.ref B1]) = J2 at *
      have x12 := x1'.trans x2'
      have y12 := s18'.trans x12
      have z12 := s18.trans x12
      refine ⟨_, rfl, _, rfl, B2, t, D2, z, oneRow, lost2, en, rfl, his_one (y12 _ _ ht) ok (x2' _ _ j1) j2, z12 _ _ d9, lok2, en0, by omega, fun J3 E x3 hE hints => ?_⟩
      rw [asks3] at hints
      refine ⟨_, rfl, _, rfl, line_le (by show 1 ≤ 1000000; decide), fun B3 hB3 => ?_⟩
      have x4 : Same J3 (upd J3 B3 (.lst [.int en])) := same_upd hB3
      have j4 : upd J3 B3 (.lst [.int en]) B3 = some (.lst [.int en]) := upd_same
      generalize upd J3 B3 (.lst [.int en]) = J4 at *
      have z14 := (z12.trans x3).trans x4
      refine ⟨D2, B3, _, _, rfl, rfl, z14 _ _ d9, j4, line_le (by rw [List.length_map, List.length_singleton]; omega), fun B5 hB5 => ?_⟩
      have ecat : lost2.map V.int ++ [.int en] = (lost2 ++ [en]).map V.int := by simp
      rw [ecat]
      have x5 : Same J4 (upd J4 B5 (.lst ((lost2 ++ [en]).map V.int))) := same_upd hB5
      have j5 : upd J4 B5 (.lst ((lost2 ++ [en]).map V.int)) B5 = some (.lst ((lost2 ++ [en]).map V.int)) := upd_same
      generalize upd J4 B5 (.lst ((lost2 ++ [en]).map V.int)) = J5 at *
      obtain ⟨dd, ee, h1, h2, h3, h4, h5⟩ := ne_same (K := K) (ints_flat _) (x5 _ _ (x4 _ _ hints)) j5
      refine ⟨dd, ee, h1, h2, h3, h4, ?_⟩
      rw [h5]
      exact q J5 (((y12.trans x3).trans x4).trans x5)
end
end K96

namespace K96
open PySem PySem.Spec PyProof.Rows L2
/-! K96L7: the law. -/
section
variable {P : Program} {w : World} {K : PySem.W.Frag} {mg : Str → Option Value} {base : Heap}
theorem SameL.seq {K : PySem.W.Frag} {H H' : Hp} {a : Addr} {xs : List V} (s : SameL H H') (h : SqL K H a xs) : SqL K H' a xs := by
  rcases h with (h | ⟨o, h⟩) | h
  · exact .inl (.inl (s.l h))
  · rcases s _ _ h with h2 | ⟨⟨_, e⟩, _⟩
    · exact .inl (.inr ⟨o, h2⟩)
    · cases e
  · exact .inr h
theorem perm_same : ∀ {xs ys : List Int}, xs.Perm ys → xs.Pairwise (· ≤ ·) → ys.Pairwise (· ≤ ·) → xs = ys
  | [], ys, p, _, _ => p.nil_eq
  | x :: xs, [], p, _, _ => nomatch p.eq_nil
  | x :: xs, y :: ys, p, hx, hy => by
    have h1 := (List.pairwise_cons.mp hx).1
    have h2 := (List.pairwise_cons.mp hy).1
    have e : x = y := by
      have m1 : x ∈ y :: ys := p.mem_iff.mp List.mem_cons_self
      have m2 : y ∈ x :: xs := p.mem_iff.mpr List.mem_cons_self
      have a1 : y ≤ x := by
        rcases List.mem_cons.mp m1 with e | m
        · omega
        · exact h2 x m
      have a2 : x ≤ y := by
        rcases List.mem_cons.mp m2 with e | m
        · omega
        · exact h1 y m
      omega
    subst e
    rw [perm_same p.cons_inv (List.pairwise_cons.mp hx).2 (List.pairwise_cons.mp hy).2]
theorem cut_one {ms : List Int} (h0 : (0 : Int) ∈ ms) (hp : ms.Pairwise (· ≤ ·)) (hn : ∀ x ∈ ms, 0 ≤ x) : cutV (ms.map V.int) none (some 1) = [0].map V.int := by
  cases ms with
  | nil => cases h0
  | cons x xs =>
    have x0 := hn x List.mem_cons_self
    have e : x = 0 := by
      rcases List.mem_cons.mp h0 with e | m
      · exact e.symm
      · have := (List.pairwise_cons.mp hp).1 0 m; omega
    subst e
    have e2 : HT.sIx ((0 :: xs).map V.int).length ((0 :: xs).map V.int).length (some 1) = min 1 ((0 :: xs).map V.int).length := HT.sIx_nat _ _ 1
    unfold cutV
    rw [HT.sIx_none, e2]
    simp
def sp_law (K : PySem.W.Frag) : Sp := fun vs H Q _ => ∃ (a : Addr) (ns : List Int), vs = [.ref a] ∧ SqL K H a (ns.map V.int) ∧ ns.length ≤ 63 ∧ ∀ H', Q (.bl true) H'
-- slots [(0, '_law_script'), (1, '_law_k'), (2, '_law_draws_here'), (3, '_law_timers'), (4, '_law_losses'), (5, '_law_until'), (6, '_law_history_here'), (7, '_law_lost'), (8, '_law_rows'), (9, '_law_lag_here'), (10, '_law_most'), (11, '_law_asked'), (12, '_law_success'), (13, '_law_moments')]
theorem ok_law {f : Addr} {fd : FuncData} (F : Fun K "law" "law" s_law f fd) (T : Txt K mg) (h_law_draws : Has P w K mg base "_law_draws" 1 ["_law_script", "_law_k"] (sp_law_draws K)) (h_law_history : Has P w K mg base "_law_history" 3 ["_law_draws_here", "_law_timers"] (sp_law_history K)) (h_law_walk : Has P w K mg base "_law_walk" 2 ["_law_draws_here", "_law_history_here", "_law_losses", "_law_until", "_law_noticed"] (sp_law_walk K)) (h_success_moments : Has P w K mg base "success_moments" 6 ["history", "losses", "until"] (sp_success_moments K)) (h_longest_lag_in : Has P w K mg base "longest_lag_in" 6 ["history", "losses", "until"] (sp_longest_lag_in K)) (h_longest_lag : Has P w K mg base "longest_lag" 4 ["timers", "losses"] (sp_longest_lag K)) (h_law_tellings_right : Has P w K mg base "_law_tellings_right" 7 ["_law_history_here", "_law_rows", "_law_lost", "_law_until", "_law_most", "_law_silence"] (sp_law_tellings_right K)) (h_law_draw : Has P w K mg base "_law_draw" 1 ["_law_draws_here", "_law_many"] (sp_law_draw K)) (h_askings : Has P w K mg base "askings" 6 ["history", "lost", "until"] (sp_askings K)) (h_longest_silence : Has P w K mg base "longest_silence" 4 ["timers", "losses"] (sp_longest_silence K)) (h_law_reached : Has P w K mg base "_law_reached" 7 ["_law_timers", "_law_losses"] (sp_law_reached K)) (h_law_noticed_right : Has P w K mg base "_law_noticed_right" 5 ["_law_draws_here", "_law_history_here", "_law_timers", "_law_losses"] (sp_law_noticed_right K)) (h_law_more_right : Has P w K mg base "_law_more_right" 7 ["_law_history_here", "_law_losses", "_law_until", "_law_lag_here"] (sp_law_more_right K)) (h_law_plan_right : Has P w K mg base "_law_plan_right" 7 ["_law_history_here", "_law_losses", "_law_until", "_law_lag_here"] (sp_law_plan_right K)) : FnOk P w K mg base CX0 8 f fd ["_law_script"] (sp_law K) := by
  refine F.ok sc_law (fun vs H Q E h => ?_) (fun cdv A outer s H vs Q E hr h => ?_)
  · obtain ⟨a, ns, rfl, hs, h63, q⟩ := h
    rfl
  · obtain ⟨a, ns, rfl, hs, h63, q⟩ := h
    have hu := hu_of hr
    refine ⟨_, (pss_cons (ps_for PassesOwn.never rfl (pi_range1 (by rfl) T.range (pa_cons (pe_callB (call_max2 rfl) (by rfl) T.max (by decide +kernel) (pa_cons pe_int (pa_cons (pe_callB (call_min2 rfl) (by rfl) T.min (by decide +kernel) (pa_cons pe_int (pa_cons (pe_callB call_len_seq (by rfl) T.len (by decide +kernel) (pa_cons (pv 0) pa_nil)) pa_nil))) pa_nil))) pa_nil)) (pg_name (i := 1) sc_law.nd rfl (Or.inl rfl))
  (pss_cons (ps_set (i := 2) sc_law.nd rfl (Or.inl rfl) (pe_call h_law_draws.G (hr.mono (by decide)) rfl h_law_draws.m h_law_draws.kp h_law_draws.b .nil pass0 (pa_cons (pv 0) (pa_cons (pv 1) pa_nil))))
 (pss_cons (ps_set (i := 3) sc_law.nd rfl (Or.inl rfl) (pe_tup (pa_cons (pe_op op_add pe_int (pe_call h_law_draw.G (hr.mono (by decide)) rfl h_law_draw.m h_law_draw.kp h_law_draw.b .nil pass0 (pa_cons (pv 2) (pa_cons pe_int pa_nil)))) (pa_cons (pe_op op_add pe_int (pe_call h_law_draw.G (hr.mono (by decide)) rfl h_law_draw.m h_law_draw.kp h_law_draw.b .nil pass0 (pa_cons (pv 2) (pa_cons pe_int pa_nil)))) (pa_cons (pe_op op_add pe_int (pe_call h_law_draw.G (hr.mono (by decide)) rfl h_law_draw.m h_law_draw.kp h_law_draw.b .nil pass0 (pa_cons (pv 2) (pa_cons pe_int pa_nil)))) pa_nil)))))
 (pss_cons (ps_par (i := 4) (j := 5) (by rfl) sc_law.nd rfl rfl (by decide) rfl rfl (pa_cons (pe_ix ix_seq (pe_lst (pa_cons pe_int (pa_cons pe_int (pa_cons pe_int (pa_cons pe_int (pa_cons pe_non pa_nil)))))) (pe_call h_law_draw.G (hr.mono (by decide)) rfl h_law_draw.m h_law_draw.kp h_law_draw.b .nil pass0 (pa_cons (pv 2) (pa_cons pe_int pa_nil))) (fun _ _ => rfl)) (pa_cons pe_int pa_nil)) (by rfl))
 (pss_cons (ps_set (i := 6) sc_law.nd rfl (Or.inl rfl) (pe_call h_law_history.G (hr.mono (by decide)) rfl h_law_history.m h_law_history.kp h_law_history.b .nil pass0 (pa_cons (pv 2) (pa_cons (pv 3) pa_nil))))
 (pss_cons (ps_asg (pe_call h_law_walk.G (hr.mono (by decide)) rfl h_law_walk.m h_law_walk.kp h_law_walk.b .nil pass0 (pa_cons (pv 2) (pa_cons (pv 6) (pa_cons (pv 4) (pa_cons (pv 5) (pa_cons pe_bl pa_nil)))))) (pg_tup rfl (pgs_cons (pg_name (i := 7) sc_law.nd rfl (Or.inl rfl)) (pgs_cons (pg_name (i := 8) sc_law.nd rfl (Or.inl rfl)) pgs_nil))))
 (pss_cons (ps_par (i := 9) (j := 10) (by rfl) sc_law.nd rfl rfl (by decide) rfl rfl (pa_cons (pe_call h_longest_lag_in.G (hr.mono (by decide)) rfl h_longest_lag_in.m h_longest_lag_in.kp h_longest_lag_in.b .nil pass0 (pa_cons (pv 6) (pa_cons (pv 4) (pa_cons (pv 5) pa_nil)))) (pa_cons (pe_call h_longest_lag.G (hr.mono (by decide)) rfl h_longest_lag.m h_longest_lag.kp h_longest_lag.b .nil pass0 (pa_cons (pv 3) (pa_cons (pv 4) pa_nil))) pa_nil)) (by rfl))
 (pss_cons (ps_if (PW.pt (pw_or (pt_not (pt_chain op_le op_le pe_int (pv 9) (pv 10))) (pw_or1 (pt_cmpR (op_neD hr.units) (pe_call h_askings.G (hr.mono (by decide)) rfl h_askings.m h_askings.kp h_askings.b .nil pass0 (pa_cons (pv 6) (pa_cons (pv 7) (pa_cons (pv 5) pa_nil)))) (pe_lc (own := [("_law_asked", 11), ("_law_success", 12)]) (g := (gTup K 2 (gCons (gName 11) (gCons (gName 12) gNil)))) (tt := tYes) (te := (tVar 11)) rfl sc_law.nd (pi_list (pv 8)) (blkOk_by (N := ["_law_script", "_law_k", "_law_draws_here", "_law_timers", "_law_losses", "_law_until", "_law_history_here", "_law_lost", "_law_rows", "_law_lag_here", "_law_most", "_law_asked", "_law_success", "_law_moments"]) (sc := defScope s_law) (by decide +kernel)) (fun _ _ _ _ _ => (pg_tup rfl (pgs_cons (pg_name (i := 11) sc_law.nd rfl (Or.inl rfl)) (pgs_cons (pg_name (i := 12) sc_law.nd rfl (Or.inl rfl)) pgs_nil)))) (fun _ _ _ _ _ => pts_nil) (fun _ _ _ _ _ => (pv 11))) (nomark _)))))
  (pss_one (ps_ret pe_bl))
  pss_nil)
 (pss_cons (ps_if (pt_not (pt_val (pe_call h_law_tellings_right.G (hr.mono (by decide)) rfl h_law_tellings_right.m h_law_tellings_right.kp h_law_tellings_right.b .nil pass0 (pa_cons (pv 6) (pa_cons (pv 8) (pa_cons (pv 7) (pa_cons (pv 5) (pa_cons (pv 9) (pa_cons (pe_call h_longest_silence.G (hr.mono (by decide)) rfl h_longest_silence.m h_longest_silence.kp h_longest_silence.b .nil pass0 (pa_cons (pv 3) (pa_cons (pv 4) pa_nil))) pa_nil)))))))))
  (pss_one (ps_ret pe_bl))
  pss_nil)
 (pss_cons (ps_set (i := 13) sc_law.nd rfl (Or.inr rfl) (pe_call h_success_moments.G (hr.mono (by decide)) rfl h_success_moments.m h_success_moments.kp h_success_moments.b .nil pass0 (pa_cons (pv 6) (pa_cons (pv 4) (pa_cons (pv 5) pa_nil)))))
 (pss_cons (ps_if (PW.pt (pw_or (pt_not (pt_val (pe_callB (cr_all rfl) (by rfl) T.all (by decide +kernel) (pa_cons (pe_lc (own := [("_law_asked", 11), ("_law_success", 12)]) (g := (gTup K 2 (gCons (gName 11) (gCons (gName 12) gNil)))) (tt := tYes) (te := (tOp (rIn K false) (tVar 12) (tVar 13))) rfl sc_law.nd (pi_list (pv 8)) (blkOk_by (N := ["_law_script", "_law_k", "_law_draws_here", "_law_timers", "_law_losses", "_law_until", "_law_history_here", "_law_lost", "_law_rows", "_law_lag_here", "_law_most", "_law_asked", "_law_success", "_law_moments"]) (sc := defScope s_law) (by decide +kernel)) (fun _ _ _ _ _ => (pg_tup rfl (pgs_cons (pg_name (i := 11) sc_law.nd rfl (Or.inl rfl)) (pgs_cons (pg_name (i := 12) sc_law.nd rfl (Or.inl rfl)) pgs_nil)))) (fun _ _ _ _ _ => pts_nil) (fun _ _ _ _ _ => (pe_cmpR op_in_seq (pv 12) (pv 13) (by rfl)))) pa_nil)))) (pw_or (pt_cmpR (op_neD hr.units) (pv 13) (pe_callB cr_sortedI (by rfl) T.sorted (by decide +kernel) (pa_cons (pv 13) pa_nil)) (nomark _)) (pw_or1 (pt_cmpR (op_neD hr.units) (pe_slice sl_list (pv 13) po_none (po_some pe_int)) (pe_lst (pa_cons pe_int pa_nil)) (nomark _))))))
  (pss_one (ps_ret pe_bl))
  pss_nil)
 (pss_cons (ps_if (PW.pt (pw_or (pt_not (pt_val (pe_call h_law_reached.G (hr.mono (by decide)) rfl h_law_reached.m h_law_reached.kp h_law_reached.b .nil pass0 (pa_cons (pv 3) (pa_cons (pv 4) pa_nil))))) (pw_or1 (pt_not (pt_val (pe_call h_law_noticed_right.G (hr.mono (by decide)) rfl h_law_noticed_right.m h_law_noticed_right.kp h_law_noticed_right.b .nil pass0 (pa_cons (pv 2) (pa_cons (pv 6) (pa_cons (pv 3) (pa_cons (pv 4) pa_nil))))))))))
  (pss_one (ps_ret pe_bl))
  pss_nil)
 (pss_one (ps_if (PW.pt (pw_or (pt_not (pt_val (pe_call h_law_more_right.G (hr.mono (by decide)) rfl h_law_more_right.m h_law_more_right.kp h_law_more_right.b .nil pass0 (pa_cons (pv 6) (pa_cons (pv 4) (pa_cons (pv 5) (pa_cons (pv 9) pa_nil))))))) (pw_or1 (pt_not (pt_val (pe_call h_law_plan_right.G (hr.mono (by decide)) rfl h_law_plan_right.m h_law_plan_right.kp h_law_plan_right.b .nil pass0 (pa_cons (pv 6) (pa_cons (pv 4) (pa_cons (pv 5) (pa_cons (pv 9) pa_nil))))))))))
  (pss_one (ps_ret pe_bl))
  pss_nil))))))))))))))
 (pss_one (ps_ret pe_bl))), ?_⟩
    refine ⟨_, rfl, a, _, rfl, .inl hs, _, _, rfl, _, _, rfl, ?_⟩
    have hn : ∀ x : Int, x = (if (ns.map V.int).length < (4 : Int) then ((ns.map V.int).length : Int) else 4) → 2 ≤ (if x > 2 then x else 2) ∧ (if x > 2 then x else 2) ≤ 4 := fun x e => by
      split at e <;> split <;> omega
    obtain ⟨hn1, hn2⟩ := hn _ rfl
    generalize (if (if (ns.map V.int).length < (4 : Int) then ((ns.map V.int).length : Int) else 4) > 2 then (if (ns.map V.int).length < (4 : Int) then ((ns.map V.int).length : Int) else 4) else 2) = many at *
    refine ⟨many, rfl, by omega, by omega, ?_⟩
    refine for_range (fun i σ H1 => ∃ y1 y2 y3 y4 y5 y6 y7 y8 y9 y10 y11 y12 y13, σ = [some (.ref a), y1, y2, y3, y4, y5, y6, y7, y8, y9, y10, y11, y12, y13] ∧ SqL K H1 a (ns.map V.int))
      ⟨none, none, none, none, none, none, none, none, none, none, none, none, none, rfl, hs⟩ (fun i σ H1 hi hw => ?_) (fun σ H1 hw => q H1)
    obtain ⟨y1, y2, y3, y4, y5, y6, y7, y8, y9, y10, y11, y12, y13, rfl, hs1⟩ := hw
    refine ⟨_, rfl, _, rfl, a, ns, _, rfl, hs1, by omega, by omega, fun H2 d s2 hd0 hd2 => ?_⟩
    -- the timers
    refine ⟨_, rfl, d, 0, 30, rfl, hd2, by decide, by decide, by decide, fun H3 x s3 k3 hd3 x0 x1 => ?_⟩
    refine ⟨_, _, rfl, rfl, _, rfl, d, 1, 9, rfl, hd3, by decide, by decide, by decide, fun H4 y s4 k4 hd4 yy0 yy1 => ?_⟩
    refine ⟨_, _, rfl, rfl, _, rfl, d, 2, 60, rfl, hd4, by decide, by decide, by decide, fun H5 w s5 k5 hd5 w0 w1 => ?_⟩
    refine ⟨_, _, rfl, rfl, line_le (by show 3 ≤ 1000000; decide), fun t ht => ?_⟩
    obtain ⟨z, ez⟩ : ∃ z : Tms, z = ⟨1 + x, 2 + y, 1 + w⟩ := ⟨_, rfl⟩
    have ok : z.Ok := by
      subst ez
      exact ⟨by show 1 ≤ 1 + x; omega, by show 1 + x ≤ 30; omega, by show 2 ≤ 2 + y; omega, by show 2 + y ≤ 10; omega, by show 1 ≤ 1 + w; omega, by show 1 + w ≤ 60; omega⟩
    have e6 : upd H5 t (.tup [.int (1 + x), .int (2 + y), .int (1 + w)]) = upd H5 t (.tup [.int z.r, .int z.q, .int z.e]) := by subst ez; rfl
    have ntd : d ≠ t := by
      obtain ⟨_, _, _, _, e, _⟩ := id hd5
      exact ne_of_none e ht
    show tSeq _ _ _ _ (upd H5 t (.tup [.int (1 + x), .int (2 + y), .int (1 + w)]))
    rw [e6]
    have s6 : SameL H5 (upd H5 t (.tup [.int z.r, .int z.q, .int z.e])) := SameL.upd ht (.refl _)
    have t6 : TmAt (upd H5 t (.tup [.int z.r, .int z.q, .int z.e])) t z := upd_same
    have d6 := hd5.upd (o := .tup [.int z.r, .int z.q, .int z.e]) ntd
    have s16 : SameL H1 (upd H5 t (.tup [.int z.r, .int z.q, .int z.e])) := ((((SameL.of s2).trans s3).trans s4).trans s5).trans s6
    generalize upd H5 t (.tup [.int z.r, .int z.q, .int z.e]) = H6 at *
    clear e6 s6 ez
    -- the losses
    refine ⟨line_le (by show 5 ≤ 1000000; decide), fun l hl => ?_⟩
    have s7 : SameL H1 (upd H6 l (.lst [.int 0, .int 1, .int 2, .int 4, .non])) := SameL.upd (s16.free hl) s16
    have l7 : upd H6 l (.lst [.int 0, .int 1, .int 2, .int 4, .non]) l = some (.lst [.int 0, .int 1, .int 2, .int 4, .non]) := upd_same
    have t7 : TmAt (upd H6 l (.lst [.int 0, .int 1, .int 2, .int 4, .non])) t z := by
      show upd H6 l _ t = _
      rw [upd_ne (ne_of_none t6 hl)]; exact t6
    have nld : d ≠ l := by
      obtain ⟨_, _, _, _, e, _⟩ := id d6
      exact ne_of_none e hl
    have d7 := d6.upd (o := .lst [.int 0, .int 1, .int 2, .int 4, .non]) nld
    generalize upd H6 l (.lst [.int 0, .int 1, .int 2, .int 4, .non]) = H7 at *
    refine ⟨_, rfl, d, _, 5, rfl, d7, by decide, by decide, by decide, fun H8 v s8 k8 d8 v0 v1 => ?_⟩
    have s18 := s7.trans s8
    have t8 : TmAt H8 t z := s8.t t7
    obtain ⟨lo, elo, hlo⟩ : ∃ lo, atI [.int 0, .int 1, .int 2, .int 4, .non] v = some (losV lo) ∧ ∀ x, lo = some x → 0 ≤ x ∧ x ≤ 4 := by
      have : v = 0 ∨ v = 1 ∨ v = 2 ∨ v = 3 ∨ v = 4 := by omega
      rcases this with rfl | rfl | rfl | rfl | rfl
      · exact ⟨some 0, rfl, fun x e => by cases e; omega⟩
      · exact ⟨some 1, rfl, fun x e => by cases e; omega⟩
      · exact ⟨some 2, rfl, fun x e => by cases e; omega⟩
      · exact ⟨some 4, rfl, fun x e => by cases e; omega⟩
      · exact ⟨none, rfl, fun x e => nomatch e⟩
    have lok : LosOk lo := fun x e => by have := hlo x e; omega
    refine .inl ⟨_, _, _, _, rfl, rfl, .of (s8.l l7), elo, ?_⟩
    refine ⟨_, _, rfl, ?_⟩
    -- the history
    refine ⟨_, rfl, _, rfl, d, t, _, z, rfl, d8, by decide, t8, ok, fun H9 a9 rows s9 d9 hh => ?_⟩
    -- the walk
    refine ⟨_, rfl, _, rfl, _, rfl, _, rfl, d, a9, t, _, z, rows, lo, 100, false, rfl, d9, by decide, hh, lok, by decide, by decide, fun H10 D l1 rw1 lost R k s p g x s10 d10 hD hl1 hR wk ask hx l35 r300 => ?_⟩
    refine ⟨D, _, rfl, .of hD, rfl, _, _, rfl, _, _, rfl, rfl, ?_⟩
    have hh10 := hh.sameL s10
    have r1 := ok.r1; have q1 := ok.q1
    have xp : x = p := ask.plain
    subst xp
    have W := wk.fin (by omega) (by omega) (fun l e => (lok l e).1) hx
    have lostOk : LostOk lost := ⟨fun y hy => by have := W.L0 y hy; omega, W.Lasc.imp fun {a b} h => by omega, by omega⟩
    have s110 := (s18.trans s9).trans s10
    -- the lags
    refine ⟨_, rfl, _, rfl, _, rfl, a9, t, z, rows, lo, 100, rfl, hh10, lok, by decide, by decide, fun H11 Lg sg mo s11 g => ?_⟩
    refine ⟨_, rfl, _, rfl, t, z, lo, rfl, s11 _ _ hh10.tm, ok, lok, fun H12 s12 => ⟨_, _, rfl, ?_⟩⟩
    have s1012 := s11.trans s12
    have hh12 := hh10.same s1012
    have hR12 := hR.same s1012
    have Lg0 : 0 ≤ Lg := by obtain ⟨_, _, h⟩ := g.lag; exact h.1
    have Lg1 : Lg ≤ K96M.llag z.r z.q z.e lo := g.le.2
    refine ⟨_, rfl, _, _, rfl, rfl, _, rfl, ?_⟩
    rw [decide_eq_true Lg0]
    refine iteT ⟨_, rfl, _, _, rfl, rfl, _, rfl, ?_⟩
    rw [decide_eq_true Lg1]
    refine iteF ?_
    -- the askings
    refine ⟨_, rfl, _, rfl, _, rfl, a9, t, l1, z, rows, lost, 100, rfl, hh12, s1012 _ _ hl1, lostOk, by decide, by decide, fun H13 E s13 hE he => ?_⟩
    rw [W.asks] at he
    obtain ⟨ys, hy, hyl, hyr⟩ := id (hR12.same s13)
    refine ⟨_, rfl, rw1, rfl, ⟨_, .of hy⟩, fun D2 hD2 => lc_list (K := K) (a := rw1) (xs := ys) (LcP H13 D2 R (fun _ => true) (fun p => V.int p.1)) (lc_start hD2) (fun i H14 _ p => .of (p.sm _ _ hy)) (fun i v H14 hv p => ?_) (fun H14 p => ?_)⟩
    · obtain ⟨r, hr1, b, rfl, hb⟩ := pair_at hyl hyr hv
      refine ⟨b, _, rfl, .of (p.sm _ _ hb), rfl, _, _, rfl, _, _, rfl, rfl, rfl, ?_⟩
      exact ⟨_, rfl, lc_keep hD2 p (.refl _) hr1 rfl rfl (by omega)⟩
    rw [hyl] at p
    have d14 := lc_end p
    have hf : (R.filter fun _ => true).map (fun p : Int × Int => V.int p.1) = (R.map (·.1)).map V.int := by rw [List.filter_eq_self.mpr (fun _ _ => rfl), List.map_map]; rfl
    rw [hf] at d14
    obtain ⟨dd, ee, h1, h2, h3, h4, h5⟩ := ne_same (K := K) (ints_flat _) (p.sm _ _ he) d14
    refine ⟨dd, ee, h1, h2, h3, h4, _, rfl, ?_⟩
    rw [h5]
    refine iteF ?_
    have s1014 := (s1012.trans s13).trans p.sm
    have hh14 := hh10.same s1014
    have hR14 := hR.same s1014
    -- the tellings
    refine ⟨_, rfl, _, rfl, _, rfl, _, rfl, _, rfl, _, rfl, _, rfl, t, z, lo, rfl, hh14.tm, ok, lok, fun H15 s15 => ?_⟩
    have s1015 := s1014.trans s15
    refine ⟨a9, t, rw1, l1, z, rows, lo, 100, Lg, sg, mo, lost, R, rfl, hh14.same s15, hR14.same s15, s1015 _ _ hl1, lostOk, lok, by decide, by decide, r300, W, g, fun H16 s16' => ?_⟩
    refine ⟨_, rfl, iteF ?_⟩
    have s1016 := s1015.trans s16'
    have hh16 := hh10.same s1016
    have hR16 := hR.same s1016
    -- the moments of success
    show tSeq _ _ _ [some (.ref a), some (.int (0 + (i : Int))), some (.ref d), some (.ref t), some (losV lo), some (.int 100), some (.ref a9), some (.ref l1), some (.ref rw1), some (.int Lg), some (.int (K96M.llag z.r z.q z.e lo)), _, _, _] H16
    clear h1 h2 h3 h4 h5 p hf he hE hy hyr hyl hx ask wk hl1 hD d8 d7 t8 t7 l7 k8 nld elo v0 v1 s8 s7 t6 d6 s16 ntd ht hn1 hn2
    refine ⟨_, rfl, _, rfl, _, rfl, a9, t, z, rows, lo, 100, rfl, hh16, lok, by decide, by decide, fun H17 Dm ms s17 hDm hm rise m9 mem => ?_⟩
    have s1017 := s1016.trans s17
    obtain ⟨ys2, hy2, hyl2, hyr2⟩ := id (hR16.same s17)
    refine ⟨_, rfl, rw1, rfl, ⟨_, .of hy2⟩, fun D3 hD3 => lc_list (K := K) (a := rw1) (xs := ys2) (LcP H17 D3 R (fun _ => true) (fun _ => V.bl true)) (lc_start hD3) (fun i H18 _ p => .of (p.sm _ _ hy2)) (fun i v H18 hv p => ?_) (fun H18 p => ?_)⟩
    · obtain ⟨r, hr1, b, rfl, hb⟩ := pair_at hyl2 hyr2 hv
      refine ⟨b, _, rfl, .of (p.sm _ _ hb), rfl, _, _, rfl, _, _, rfl, rfl, rfl, ?_⟩
      refine ⟨_, rfl, _, rfl, Dm, _, rfl, .inl (.of (p.sm _ _ hm)), rfl, flat_ints ms, lc_keep hD3 p (.refl _) hr1 rfl ?_ (by omega)⟩
      show V.bl (inV (.int r.2) (ms.map V.int)) = V.bl true
      rw [inV_ints, decide_eq_true ((mem _).mpr (W.reachR r (List.mem_of_getElem? hr1)))]
    rw [hyl2] at p
    refine ⟨D3, _, rfl, .of (lc_all p), ?_⟩
    rw [rep_all]
    refine ⟨_, rfl, iteF ?_⟩
    have s1018 := s1017.trans p.sm
    have m18 := p.sm _ _ hm
    refine ⟨_, rfl, _, rfl, Dm, ms, rfl, .of m18, fun ms2 E3 perm rise2 hE3 => ?_⟩
    have ems : ms2 = ms := perm_same perm rise2 rise
    subst ems
    have s19 : Same H18 (upd H18 E3 (.lst (ms2.map V.int))) := same_upd hE3
    have e19 : upd H18 E3 (.lst (ms2.map V.int)) E3 = some (.lst (ms2.map V.int)) := upd_same
    generalize upd H18 E3 (.lst (ms2.map V.int)) = H19 at *
    obtain ⟨dd, ee, h1, h2, h3, h4, h5⟩ := ne_same (K := K) (ints_flat ms2) (s19 _ _ m18) e19
    refine ⟨dd, ee, h1, h2, h3, h4, _, rfl, ?_⟩
    rw [h5]
    refine iteF ?_
    clear h1 h2 h3 h4 h5
    refine ⟨_, rfl, 1, rfl, Dm, _, rfl, .of (s19 _ _ m18), fun S hS => ?_⟩
    have h0 : (0 : Int) ∈ ms2 := (mem 0).mpr .zero
    have ecut : cutV (ms2.map V.int) none (some 1) = [0].map V.int := cut_one h0 rise fun x hx => (((mem x).mp hx).range (by omega) (by omega) (by decide)).1
    rw [ecut]
    have s20 : Same H19 (upd H19 S (.lst ([0].map V.int))) := same_upd hS
    have e20 : upd H19 S (.lst ([0].map V.int)) S = some (.lst ([0].map V.int)) := upd_same
    generalize upd H19 S (.lst ([0].map V.int)) = H20 at *
    refine ⟨line_le (by show 1 ≤ 1000000; decide), fun Z hZ => ?_⟩
    have s21 : Same H20 (upd H20 Z (.lst [.int 0])) := same_upd hZ
    have e21 : upd H20 Z (.lst [.int 0]) Z = some (.lst [.int 0]) := upd_same
    generalize upd H20 Z (.lst [.int 0]) = H21 at *
    obtain ⟨dd, ee, h1, h2, h3, h4, h5⟩ := ne_same (K := K) (ints_flat [0]) (s21 _ _ e20) e21
    refine ⟨dd, ee, h1, h2, h3, h4, _, rfl, ?_⟩
    rw [h5]
    refine iteF ?_
    clear h1 h2 h3 h4 h5
    have s1021 := ((s1018.trans s19).trans s20).trans s21
    have hh21 := hh10.same s1021
    have d21 := d10.same s1021
    clear e21 e20 e19 m18 ecut h0 mem rise rise2 perm m9 hm hDm hy2 hyl2 hyr2 p s19 s20 s21
    show tSeq _ _ _ [some (.ref a), some (.int (0 + (i : Int))), some (.ref d), some (.ref t), some (losV lo), some (.int 100), some (.ref a9), some (.ref l1), some (.ref rw1), some (.int Lg), some (.int (K96M.llag z.r z.q z.e lo)), _, _, _] H21
    refine ⟨_, rfl, _, rfl, t, z, lo, rfl, hh21.tm, ok, fun x e => by have := hlo x e; omega, fun H22 s22 => ?_⟩
    refine ⟨_, rfl, iteF ?_⟩
    refine ⟨_, rfl, _, rfl, _, rfl, _, rfl, d, a9, t, _, z, rows, lo, rfl, d21.same s22, by decide, hh21.same s22, lok, fun H23 s23 d23 => ?_⟩
    refine ⟨_, rfl, iteF ?_⟩
    have hh23 := (hh21.same s22).sameL s23
    refine ⟨_, rfl, _, rfl, _, rfl, _, rfl, a9, t, z, rows, lo, 100, Lg, sg, mo, rfl, hh23, fun x e => by have := hlo x e; omega, by decide, by decide, g, fun H24 s24 => ?_⟩
    refine ⟨_, rfl, iteF ?_⟩
    refine ⟨_, rfl, _, rfl, _, rfl, _, rfl, a9, t, z, rows, lo, 100, Lg, sg, mo, rfl, hh23.same s24, lok, by decide, by decide, g, fun H25 s25 => ?_⟩
    refine ⟨_, rfl, iteF ?_⟩
    exact ⟨_, _, _, _, _, _, _, _, _, _, _, _, _, rfl, SameL.seq ((((((s110.trans (.of s1021)).trans (.of s22)).trans s23).trans (.of s24)).trans (.of s25))) hs1⟩
end
end K96

/-! what the top has written; the law's own head -/
namespace K96
open PySem PySem.Spec PyProof.Rows L2
def has_of {P : Program} {w : World} {K : PySem.W.Frag} {h : Heap} {mg : Str → Option Value} {base : Heap} (X : K.In h) (G : h.Ns mainGlobals mg) {x : Str} {k : Nat} {ps : List Str} {sp : Sp} {st : Stmt} {f : Addr} {fd : FuncData} (F : Fun K x x st f fd) (a : PySem.W.nsIn K mainGlobals x = some (some (.ref f)))
    (b : Binds K fd ps []) (g : FnOk P w K mg base CX0 k f fd ps sp) : Has P w K mg base x k ps sp := ⟨f, fd, g, PySem.W.mg_of X G a, F.kp, b⟩
theorem all_mk {l : PySem.W.OpenLaw} {w : World} {K : PySem.W.Frag} {h : Heap} {mg : Str → Option Value} {fa f1 f2 f3 f4 f5 f6 f7 f8 f9 f10 f11 f12 f13 f14 f15 f16 f17 f18 f19 f20 f21 f22 f23 f24 f25 f26 f27 f28 f29 f30 f31 f32 f33 f34 f35 f36 f37 f38 f39 f40 f41 f42 f43 : Addr} (X : K.In h) (G : h.Ns mainGlobals mg) (hfa : mg "law" = some (.ref fa))
    {od1 an1 od2 an2 od3 an3 od4 an4 od5 an5 od6 an6 od7 an7 od8 an8 od9 an9 od10 an10 od11 an11 od12 an12 od13 an13 od14 an14 od15 an15 od16 an16 od17 an17 od18 an18 od19 an19 od20 an20 od21 an21 od22 an22 od23 an23 od24 an24 od25 an25 od26 an26 od27 an27 od28 an28 od29 an29 od30 an30 od31 an31 od32 an32 od33 an33 od34 an34 od35 an35 od36 an36 od37 an37 od38 an38 od39 an39 od40 an40 od41 an41 od42 an42 od43 an43 : Option Addr} {sl1 sl2 sl3 sl4 sl5 sl6 sl7 sl8 sl9 sl10 sl11 sl12 sl13 sl14 sl15 sl16 sl17 sl18 sl19 sl20 sl21 sl22 sl23 sl24 sl25 sl26 sl27 sl28 sl29 sl30 sl31 sl32 sl33 sl34 sl35 sl36 sl37 sl38 sl39 sl40 sl41 sl42 sl43 : Array (Option Value)} {oc1 kV1 dc1 pm1 cd1 ct1 oc2 kV2 dc2 pm2 cd2 ct2 oc3 kV3 dc3 pm3 cd3 ct3 oc4 kV4 dc4 pm4 cd4 ct4 oc5 kV5 dc5 pm5 cd5 ct5 oc6 kV6 dc6 pm6 cd6 ct6 oc7 kV7 dc7 pm7 cd7 ct7 oc8 kV8 dc8 pm8 cd8 ct8 oc9 kV9 dc9 pm9 cd9 ct9 oc10 kV10 dc10 pm10 cd10 ct10 oc11 kV11 dc11 pm11 cd11 ct11 oc12 kV12 dc12 pm12 cd12 ct12 oc13 kV13 dc13 pm13 cd13 ct13 oc14 kV14 dc14 pm14 cd14 ct14 oc15 kV15 dc15 pm15 cd15 ct15 oc16 kV16 dc16 pm16 cd16 ct16 oc17 kV17 dc17 pm17 cd17 ct17 oc18 kV18 dc18 pm18 cd18 ct18 oc19 kV19 dc19 pm19 cd19 ct19 oc20 kV20 dc20 pm20 cd20 ct20 oc21 kV21 dc21 pm21 cd21 ct21 oc22 kV22 dc22 pm22 cd22 ct22 oc23 kV23 dc23 pm23 cd23 ct23 oc24 kV24 dc24 pm24 cd24 ct24 oc25 kV25 dc25 pm25 cd25 ct25 oc26 kV26 dc26 pm26 cd26 ct26 oc27 kV27 dc27 pm27 cd27 ct27 oc28 kV28 dc28 pm28 cd28 ct28 oc29 kV29 dc29 pm29 cd29 ct29 oc30 kV30 dc30 pm30 cd30 ct30 oc31 kV31 dc31 pm31 cd31 ct31 oc32 kV32 dc32 pm32 cd32 ct32 oc33 kV33 dc33 pm33 cd33 ct33 oc34 kV34 dc34 pm34 cd34 ct34 oc35 kV35 dc35 pm35 cd35 ct35 oc36 kV36 dc36 pm36 cd36 ct36 oc37 kV37 dc37 pm37 cd37 ct37 oc38 kV38 dc38 pm38 cd38 ct38 oc39 kV39 dc39 pm39 cd39 ct39 oc40 kV40 dc40 pm40 cd40 ct40 oc41 kV41 dc41 pm41 cd41 ct41 oc42 kV42 dc42 pm42 cd42 ct42 oc43 kV43 dc43 pm43 cd43 ct43 : Value}
    (a1 : PySem.W.nsIn K mainGlobals "is_integer" = some (some (.ref f1))) (l1 : K.lookup f1 = some ⟨oc1, od1, .func (PySem.W.fnOf "is_integer" "is_integer" (defArgs s_is_integer) (defBody s_is_integer) (defScope s_is_integer) .none kV1 dc1 pm1 an1 cd1 ct1), sl1⟩) (c1 : PySem.W.codeIn K cd1 "is_integer" = true) (k1 : PySem.W.keepIn K (.ref f1) = true)
    (a2 : PySem.W.nsIn K mainGlobals "is_count" = some (some (.ref f2))) (l2 : K.lookup f2 = some ⟨oc2, od2, .func (PySem.W.fnOf "is_count" "is_count" (defArgs s_is_count) (defBody s_is_count) (defScope s_is_count) .none kV2 dc2 pm2 an2 cd2 ct2), sl2⟩) (c2 : PySem.W.codeIn K cd2 "is_count" = true) (k2 : PySem.W.keepIn K (.ref f2) = true)
    (a3 : PySem.W.nsIn K mainGlobals "need_moment" = some (some (.ref f3))) (l3 : K.lookup f3 = some ⟨oc3, od3, .func (PySem.W.fnOf "need_moment" "need_moment" (defArgs s_need_moment) (defBody s_need_moment) (defScope s_need_moment) .none kV3 dc3 pm3 an3 cd3 ct3), sl3⟩) (c3 : PySem.W.codeIn K cd3 "need_moment" = true) (k3 : PySem.W.keepIn K (.ref f3) = true)
    (a4 : PySem.W.nsIn K mainGlobals "need_losses" = some (some (.ref f4))) (l4 : K.lookup f4 = some ⟨oc4, od4, .func (PySem.W.fnOf "need_losses" "need_losses" (defArgs s_need_losses) (defBody s_need_losses) (defScope s_need_losses) .none kV4 dc4 pm4 an4 cd4 ct4), sl4⟩) (c4 : PySem.W.codeIn K cd4 "need_losses" = true) (k4 : PySem.W.keepIn K (.ref f4) = true)
    (a5 : PySem.W.nsIn K mainGlobals "is_schedule" = some (some (.ref f5))) (l5 : K.lookup f5 = some ⟨oc5, od5, .func (PySem.W.fnOf "is_schedule" "is_schedule" (defArgs s_is_schedule) (defBody s_is_schedule) (defScope s_is_schedule) .none kV5 dc5 pm5 an5 cd5 ct5), sl5⟩) (c5 : PySem.W.codeIn K cd5 "is_schedule" = true) (k5 : PySem.W.keepIn K (.ref f5) = true)
    (a6 : PySem.W.nsIn K mainGlobals "is_timers" = some (some (.ref f6))) (l6 : K.lookup f6 = some ⟨oc6, od6, .func (PySem.W.fnOf "is_timers" "is_timers" (defArgs s_is_timers) (defBody s_is_timers) (defScope s_is_timers) .none kV6 dc6 pm6 an6 cd6 ct6), sl6⟩) (c6 : PySem.W.codeIn K cd6 "is_timers" = true) (k6 : PySem.W.keepIn K (.ref f6) = true)
    (a7 : PySem.W.nsIn K mainGlobals "need_timers" = some (some (.ref f7))) (l7 : K.lookup f7 = some ⟨oc7, od7, .func (PySem.W.fnOf "need_timers" "need_timers" (defArgs s_need_timers) (defBody s_need_timers) (defScope s_need_timers) .none kV7 dc7 pm7 an7 cd7 ct7), sl7⟩) (c7 : PySem.W.codeIn K cd7 "need_timers" = true) (k7 : PySem.W.keepIn K (.ref f7) = true)
    (a8 : PySem.W.nsIn K mainGlobals "need_schedule" = some (some (.ref f8))) (l8 : K.lookup f8 = some ⟨oc8, od8, .func (PySem.W.fnOf "need_schedule" "need_schedule" (defArgs s_need_schedule) (defBody s_need_schedule) (defScope s_need_schedule) .none kV8 dc8 pm8 an8 cd8 ct8), sl8⟩) (c8 : PySem.W.codeIn K cd8 "need_schedule" = true) (k8 : PySem.W.keepIn K (.ref f8) = true)
    (a9 : PySem.W.nsIn K mainGlobals "is_node" = some (some (.ref f9))) (l9 : K.lookup f9 = some ⟨oc9, od9, .func (PySem.W.fnOf "is_node" "is_node" (defArgs s_is_node) (defBody s_is_node) (defScope s_is_node) .none kV9 dc9 pm9 an9 cd9 ct9), sl9⟩) (c9 : PySem.W.codeIn K cd9 "is_node" = true) (k9 : PySem.W.keepIn K (.ref f9) = true)
    (a10 : PySem.W.nsIn K mainGlobals "is_version" = some (some (.ref f10))) (l10 : K.lookup f10 = some ⟨oc10, od10, .func (PySem.W.fnOf "is_version" "is_version" (defArgs s_is_version) (defBody s_is_version) (defScope s_is_version) .none kV10 dc10 pm10 an10 cd10 ct10), sl10⟩) (c10 : PySem.W.codeIn K cd10 "is_version" = true) (k10 : PySem.W.keepIn K (.ref f10) = true)
    (a11 : PySem.W.nsIn K mainGlobals "is_history" = some (some (.ref f11))) (l11 : K.lookup f11 = some ⟨oc11, od11, .func (PySem.W.fnOf "is_history" "is_history" (defArgs s_is_history) (defBody s_is_history) (defScope s_is_history) .none kV11 dc11 pm11 an11 cd11 ct11), sl11⟩) (c11 : PySem.W.codeIn K cd11 "is_history" = true) (k11 : PySem.W.keepIn K (.ref f11) = true)
    (a12 : PySem.W.nsIn K mainGlobals "need_history" = some (some (.ref f12))) (l12 : K.lookup f12 = some ⟨oc12, od12, .func (PySem.W.fnOf "need_history" "need_history" (defArgs s_need_history) (defBody s_need_history) (defScope s_need_history) .none kV12 dc12 pm12 an12 cd12 ct12), sl12⟩) (c12 : PySem.W.codeIn K cd12 "need_history" = true) (k12 : PySem.W.keepIn K (.ref f12) = true)
    (a13 : PySem.W.nsIn K mainGlobals "version_at" = some (some (.ref f13))) (l13 : K.lookup f13 = some ⟨oc13, od13, .func (PySem.W.fnOf "version_at" "version_at" (defArgs s_version_at) (defBody s_version_at) (defScope s_version_at) .none kV13 dc13 pm13 an13 cd13 ct13), sl13⟩) (c13 : PySem.W.codeIn K cd13 "version_at" = true) (k13 : PySem.W.keepIn K (.ref f13) = true)
    (a14 : PySem.W.nsIn K mainGlobals "lag_at" = some (some (.ref f14))) (l14 : K.lookup f14 = some ⟨oc14, od14, .func (PySem.W.fnOf "lag_at" "lag_at" (defArgs s_lag_at) (defBody s_lag_at) (defScope s_lag_at) .none kV14 dc14 pm14 an14 cd14 ct14), sl14⟩) (c14 : PySem.W.codeIn K cd14 "lag_at" = true) (k14 : PySem.W.keepIn K (.ref f14) = true)
    (a15 : PySem.W.nsIn K mainGlobals "last_in_row" = some (some (.ref f15))) (l15 : K.lookup f15 = some ⟨oc15, od15, .func (PySem.W.fnOf "last_in_row" "last_in_row" (defArgs s_last_in_row) (defBody s_last_in_row) (defScope s_last_in_row) .none kV15 dc15 pm15 an15 cd15 ct15), sl15⟩) (c15 : PySem.W.codeIn K cd15 "last_in_row" = true) (k15 : PySem.W.keepIn K (.ref f15) = true)
    (a16 : PySem.W.nsIn K mainGlobals "last_success" = some (some (.ref f16))) (l16 : K.lookup f16 = some ⟨oc16, od16, .func (PySem.W.fnOf "last_success" "last_success" (defArgs s_last_success) (defBody s_last_success) (defScope s_last_success) .none kV16 dc16 pm16 an16 cd16 ct16), sl16⟩) (c16 : PySem.W.codeIn K cd16 "last_success" = true) (k16 : PySem.W.keepIn K (.ref f16) = true)
    (a17 : PySem.W.nsIn K mainGlobals "told_second" = some (some (.ref f17))) (l17 : K.lookup f17 = some ⟨oc17, od17, .func (PySem.W.fnOf "told_second" "told_second" (defArgs s_told_second) (defBody s_told_second) (defScope s_told_second) .none kV17 dc17 pm17 an17 cd17 ct17), sl17⟩) (c17 : PySem.W.codeIn K cd17 "told_second" = true) (k17 : PySem.W.keepIn K (.ref f17) = true)
    (a18 : PySem.W.nsIn K mainGlobals "askings" = some (some (.ref f18))) (l18 : K.lookup f18 = some ⟨oc18, od18, .func (PySem.W.fnOf "askings" "askings" (defArgs s_askings) (defBody s_askings) (defScope s_askings) .none kV18 dc18 pm18 an18 cd18 ct18), sl18⟩) (c18 : PySem.W.codeIn K cd18 "askings" = true) (k18 : PySem.W.keepIn K (.ref f18) = true)
    (a19 : PySem.W.nsIn K mainGlobals "longest_lag" = some (some (.ref f19))) (l19 : K.lookup f19 = some ⟨oc19, od19, .func (PySem.W.fnOf "longest_lag" "longest_lag" (defArgs s_longest_lag) (defBody s_longest_lag) (defScope s_longest_lag) .none kV19 dc19 pm19 an19 cd19 ct19), sl19⟩) (c19 : PySem.W.codeIn K cd19 "longest_lag" = true) (k19 : PySem.W.keepIn K (.ref f19) = true)
    (a20 : PySem.W.nsIn K mainGlobals "longest_silence" = some (some (.ref f20))) (l20 : K.lookup f20 = some ⟨oc20, od20, .func (PySem.W.fnOf "longest_silence" "longest_silence" (defArgs s_longest_silence) (defBody s_longest_silence) (defScope s_longest_silence) .none kV20 dc20 pm20 an20 cd20 ct20), sl20⟩) (c20 : PySem.W.codeIn K cd20 "longest_silence" = true) (k20 : PySem.W.keepIn K (.ref f20) = true)
    (a21 : PySem.W.nsIn K mainGlobals "longest_lag_noticed" = some (some (.ref f21))) (l21 : K.lookup f21 = some ⟨oc21, od21, .func (PySem.W.fnOf "longest_lag_noticed" "longest_lag_noticed" (defArgs s_longest_lag_noticed) (defBody s_longest_lag_noticed) (defScope s_longest_lag_noticed) .none kV21 dc21 pm21 an21 cd21 ct21), sl21⟩) (c21 : PySem.W.codeIn K cd21 "longest_lag_noticed" = true) (k21 : PySem.W.keepIn K (.ref f21) = true)
    (a22 : PySem.W.nsIn K mainGlobals "next_successes" = some (some (.ref f22))) (l22 : K.lookup f22 = some ⟨oc22, od22, .func (PySem.W.fnOf "next_successes" "next_successes" (defArgs s_next_successes) (defBody s_next_successes) (defScope s_next_successes) .none kV22 dc22 pm22 an22 cd22 ct22), sl22⟩) (c22 : PySem.W.codeIn K cd22 "next_successes" = true) (k22 : PySem.W.keepIn K (.ref f22) = true)
    (a23 : PySem.W.nsIn K mainGlobals "last_told" = some (some (.ref f23))) (l23 : K.lookup f23 = some ⟨oc23, od23, .func (PySem.W.fnOf "last_told" "last_told" (defArgs s_last_told) (defBody s_last_told) (defScope s_last_told) .none kV23 dc23 pm23 an23 cd23 ct23), sl23⟩) (c23 : PySem.W.codeIn K cd23 "last_told" = true) (k23 : PySem.W.keepIn K (.ref f23) = true)
    (a24 : PySem.W.nsIn K mainGlobals "success_roads" = some (some (.ref f24))) (l24 : K.lookup f24 = some ⟨oc24, od24, .func (PySem.W.fnOf "success_roads" "success_roads" (defArgs s_success_roads) (defBody s_success_roads) (defScope s_success_roads) .none kV24 dc24 pm24 an24 cd24 ct24), sl24⟩) (c24 : PySem.W.codeIn K cd24 "success_roads" = true) (k24 : PySem.W.keepIn K (.ref f24) = true)
    (a25 : PySem.W.nsIn K mainGlobals "success_moments" = some (some (.ref f25))) (l25 : K.lookup f25 = some ⟨oc25, od25, .func (PySem.W.fnOf "success_moments" "success_moments" (defArgs s_success_moments) (defBody s_success_moments) (defScope s_success_moments) .none kV25 dc25 pm25 an25 cd25 ct25), sl25⟩) (c25 : PySem.W.codeIn K cd25 "success_moments" = true) (k25 : PySem.W.keepIn K (.ref f25) = true)
    (a26 : PySem.W.nsIn K mainGlobals "lost_between" = some (some (.ref f26))) (l26 : K.lookup f26 = some ⟨oc26, od26, .func (PySem.W.fnOf "lost_between" "lost_between" (defArgs s_lost_between) (defBody s_lost_between) (defScope s_lost_between) .none kV26 dc26 pm26 an26 cd26 ct26), sl26⟩) (c26 : PySem.W.codeIn K cd26 "lost_between" = true) (k26 : PySem.W.keepIn K (.ref f26) = true)
    (a27 : PySem.W.nsIn K mainGlobals "greatest_lag" = some (some (.ref f27))) (l27 : K.lookup f27 = some ⟨oc27, od27, .func (PySem.W.fnOf "greatest_lag" "greatest_lag" (defArgs s_greatest_lag) (defBody s_greatest_lag) (defScope s_greatest_lag) .none kV27 dc27 pm27 an27 cd27 ct27), sl27⟩) (c27 : PySem.W.codeIn K cd27 "greatest_lag" = true) (k27 : PySem.W.keepIn K (.ref f27) = true)
    (a28 : PySem.W.nsIn K mainGlobals "longest_lag_in" = some (some (.ref f28))) (l28 : K.lookup f28 = some ⟨oc28, od28, .func (PySem.W.fnOf "longest_lag_in" "longest_lag_in" (defArgs s_longest_lag_in) (defBody s_longest_lag_in) (defScope s_longest_lag_in) .none kV28 dc28 pm28 an28 cd28 ct28), sl28⟩) (c28 : PySem.W.codeIn K cd28 "longest_lag_in" = true) (k28 : PySem.W.keepIn K (.ref f28) = true)
    (a29 : PySem.W.nsIn K mainGlobals "lag_plan" = some (some (.ref f29))) (l29 : K.lookup f29 = some ⟨oc29, od29, .func (PySem.W.fnOf "lag_plan" "lag_plan" (defArgs s_lag_plan) (defBody s_lag_plan) (defScope s_lag_plan) .none kV29 dc29 pm29 an29 cd29 ct29), sl29⟩) (c29 : PySem.W.codeIn K cd29 "lag_plan" = true) (k29 : PySem.W.keepIn K (.ref f29) = true)
    (a30 : PySem.W.nsIn K mainGlobals "_law_draws" = some (some (.ref f30))) (l30 : K.lookup f30 = some ⟨oc30, od30, .func (PySem.W.fnOf "_law_draws" "_law_draws" (defArgs s_law_draws) (defBody s_law_draws) (defScope s_law_draws) .none kV30 dc30 pm30 an30 cd30 ct30), sl30⟩) (c30 : PySem.W.codeIn K cd30 "_law_draws" = true) (k30 : PySem.W.keepIn K (.ref f30) = true)
    (a31 : PySem.W.nsIn K mainGlobals "_law_draw" = some (some (.ref f31))) (l31 : K.lookup f31 = some ⟨oc31, od31, .func (PySem.W.fnOf "_law_draw" "_law_draw" (defArgs s_law_draw) (defBody s_law_draw) (defScope s_law_draw) .none kV31 dc31 pm31 an31 cd31 ct31), sl31⟩) (c31 : PySem.W.codeIn K cd31 "_law_draw" = true) (k31 : PySem.W.keepIn K (.ref f31) = true)
    (a32 : PySem.W.nsIn K mainGlobals "_law_pick" = some (some (.ref f32))) (l32 : K.lookup f32 = some ⟨oc32, od32, .func (PySem.W.fnOf "_law_pick" "_law_pick" (defArgs s_law_pick) (defBody s_law_pick) (defScope s_law_pick) .none kV32 dc32 pm32 an32 cd32 ct32), sl32⟩) (c32 : PySem.W.codeIn K cd32 "_law_pick" = true) (k32 : PySem.W.keepIn K (.ref f32) = true)
    (a33 : PySem.W.nsIn K mainGlobals "_law_history" = some (some (.ref f33))) (l33 : K.lookup f33 = some ⟨oc33, od33, .func (PySem.W.fnOf "_law_history" "_law_history" (defArgs s_law_history) (defBody s_law_history) (defScope s_law_history) .none kV33 dc33 pm33 an33 cd33 ct33), sl33⟩) (c33 : PySem.W.codeIn K cd33 "_law_history" = true) (k33 : PySem.W.keepIn K (.ref f33) = true)
    (a34 : PySem.W.nsIn K mainGlobals "_law_force" = some (some (.ref f34))) (l34 : K.lookup f34 = some ⟨oc34, od34, .func (PySem.W.fnOf "_law_force" "_law_force" (defArgs s_law_force) (defBody s_law_force) (defScope s_law_force) .none kV34 dc34 pm34 an34 cd34 ct34), sl34⟩) (c34 : PySem.W.codeIn K cd34 "_law_force" = true) (k34 : PySem.W.keepIn K (.ref f34) = true)
    (a35 : PySem.W.nsIn K mainGlobals "_law_lag" = some (some (.ref f35))) (l35 : K.lookup f35 = some ⟨oc35, od35, .func (PySem.W.fnOf "_law_lag" "_law_lag" (defArgs s_law_lag) (defBody s_law_lag) (defScope s_law_lag) .none kV35 dc35 pm35 an35 cd35 ct35), sl35⟩) (c35 : PySem.W.codeIn K cd35 "_law_lag" = true) (k35 : PySem.W.keepIn K (.ref f35) = true)
    (a36 : PySem.W.nsIn K mainGlobals "_law_copy" = some (some (.ref f36))) (l36 : K.lookup f36 = some ⟨oc36, od36, .func (PySem.W.fnOf "_law_copy" "_law_copy" (defArgs s_law_copy) (defBody s_law_copy) (defScope s_law_copy) .none kV36 dc36 pm36 an36 cd36 ct36), sl36⟩) (c36 : PySem.W.codeIn K cd36 "_law_copy" = true) (k36 : PySem.W.keepIn K (.ref f36) = true)
    (a37 : PySem.W.nsIn K mainGlobals "_law_walk" = some (some (.ref f37))) (l37 : K.lookup f37 = some ⟨oc37, od37, .func (PySem.W.fnOf "_law_walk" "_law_walk" (defArgs s_law_walk) (defBody s_law_walk) (defScope s_law_walk) .none kV37 dc37 pm37 an37 cd37 ct37), sl37⟩) (c37 : PySem.W.codeIn K cd37 "_law_walk" = true) (k37 : PySem.W.keepIn K (.ref f37) = true)
    (a38 : PySem.W.nsIn K mainGlobals "_law_tellings_right" = some (some (.ref f38))) (l38 : K.lookup f38 = some ⟨oc38, od38, .func (PySem.W.fnOf "_law_tellings_right" "_law_tellings_right" (defArgs s_law_tellings_right) (defBody s_law_tellings_right) (defScope s_law_tellings_right) .none kV38 dc38 pm38 an38 cd38 ct38), sl38⟩) (c38 : PySem.W.codeIn K cd38 "_law_tellings_right" = true) (k38 : PySem.W.keepIn K (.ref f38) = true)
    (a39 : PySem.W.nsIn K mainGlobals "_law_more_right" = some (some (.ref f39))) (l39 : K.lookup f39 = some ⟨oc39, od39, .func (PySem.W.fnOf "_law_more_right" "_law_more_right" (defArgs s_law_more_right) (defBody s_law_more_right) (defScope s_law_more_right) .none kV39 dc39 pm39 an39 cd39 ct39), sl39⟩) (c39 : PySem.W.codeIn K cd39 "_law_more_right" = true) (k39 : PySem.W.keepIn K (.ref f39) = true)
    (a40 : PySem.W.nsIn K mainGlobals "_law_plan_right" = some (some (.ref f40))) (l40 : K.lookup f40 = some ⟨oc40, od40, .func (PySem.W.fnOf "_law_plan_right" "_law_plan_right" (defArgs s_law_plan_right) (defBody s_law_plan_right) (defScope s_law_plan_right) .none kV40 dc40 pm40 an40 cd40 ct40), sl40⟩) (c40 : PySem.W.codeIn K cd40 "_law_plan_right" = true) (k40 : PySem.W.keepIn K (.ref f40) = true)
    (a41 : PySem.W.nsIn K mainGlobals "_law_noticed_right" = some (some (.ref f41))) (l41 : K.lookup f41 = some ⟨oc41, od41, .func (PySem.W.fnOf "_law_noticed_right" "_law_noticed_right" (defArgs s_law_noticed_right) (defBody s_law_noticed_right) (defScope s_law_noticed_right) .none kV41 dc41 pm41 an41 cd41 ct41), sl41⟩) (c41 : PySem.W.codeIn K cd41 "_law_noticed_right" = true) (k41 : PySem.W.keepIn K (.ref f41) = true)
    (a42 : PySem.W.nsIn K mainGlobals "_law_reached" = some (some (.ref f42))) (l42 : K.lookup f42 = some ⟨oc42, od42, .func (PySem.W.fnOf "_law_reached" "_law_reached" (defArgs s_law_reached) (defBody s_law_reached) (defScope s_law_reached) .none kV42 dc42 pm42 an42 cd42 ct42), sl42⟩) (c42 : PySem.W.codeIn K cd42 "_law_reached" = true) (k42 : PySem.W.keepIn K (.ref f42) = true)
    (a43 : PySem.W.nsIn K mainGlobals "law" = some (some (.ref f43))) (l43 : K.lookup f43 = some ⟨oc43, od43, .func (PySem.W.fnOf "law" "law" (defArgs s_law) (defBody s_law) (defScope s_law) .none kV43 dc43 pm43 an43 cd43 ct43), sl43⟩) (c43 : PySem.W.codeIn K cd43 "law" = true) (k43 : PySem.W.keepIn K (.ref f43) = true)
    (z_len : PySem.W.nsIn K mainGlobals "len" = some none)
    (z_range : PySem.W.nsIn K mainGlobals "range" = some none)
    (z_all : PySem.W.nsIn K mainGlobals "all" = some none)
    (z_isinstance : PySem.W.nsIn K mainGlobals "isinstance" = some none)
    (z_min : PySem.W.nsIn K mainGlobals "min" = some none)
    (z_max : PySem.W.nsIn K mainGlobals "max" = some none)
    (z_sorted : PySem.W.nsIn K mainGlobals "sorted" = some none)
    (z_int : PySem.W.nsIn K mainGlobals "int" = some none)
    (z_bool : PySem.W.nsIn K mainGlobals "bool" = some none)
    (z_str : PySem.W.nsIn K mainGlobals "str" = some none)
    (z_list : PySem.W.nsIn K mainGlobals "list" = some none)
    (z_tuple : PySem.W.nsIn K mainGlobals "tuple" = some none)
    (y_pop : PySem.W.nsIn K mainGlobals "heappop" = some (some (.builtin "_heapq.heappop"))) (y_push : PySem.W.nsIn K mainGlobals "heappush" = some (some (.builtin "_heapq.heappush"))) {tl : Nat} (y_let : PySem.W.nsIn K mainGlobals "LETTERS" = some (some (.str "abcdefghijklmnopqrstuvwxyz" tl))) :
    ∃ fd : FuncData, (∀ (s : Shared) (v : Value), BindsTo s fd ⟨[v], []⟩ [("_law_script", v)]) ∧ ∀ base : Heap, K.In base → base.Ns mainGlobals mg → FnOk l.prog w K mg base CX0 8 fa fd ["_law_script"] (sp_law K) := by
  have e := hfa.symm.trans (PySem.W.mg_of X G a43)
  cases e
  have T : Txt K mg := ⟨PySem.W.mg_none_of X G z_len, PySem.W.mg_none_of X G z_range, PySem.W.mg_none_of X G z_all, PySem.W.mg_none_of X G z_isinstance, PySem.W.mg_none_of X G z_min, PySem.W.mg_none_of X G z_max, PySem.W.mg_none_of X G z_sorted, PySem.W.mg_none_of X G z_int, PySem.W.mg_none_of X G z_bool, PySem.W.mg_none_of X G z_str, PySem.W.mg_none_of X G z_list, PySem.W.mg_none_of X G z_tuple, PySem.W.mg_of X G y_pop, PySem.W.mg_of X G y_push, ⟨_, PySem.W.mg_of X G y_let⟩⟩
  refine ⟨PySem.W.fnOf "law" "law" (defArgs s_law) (defBody s_law) (defScope s_law) .none kV43 dc43 pm43 an43 cd43 ct43, fun s v => .of_eq rfl, fun base _ _ => ?_⟩
  have F1 := fun_mk (st := s_is_integer) l1 c1 k1
  have b1 := F1.binds (ps := ["value"]) fun _ _ _ _ _ _ us hl => match us, hl with | [_], _ => rfl
  have H1 := has_of (P := l.prog) (w := w) (base := base) X G F1 a1 b1 (ok_is_integer F1 T)
  have F2 := fun_mk (st := s_is_count) l2 c2 k2
  have b2 := F2.binds (ps := ["value"]) fun _ _ _ _ _ _ us hl => match us, hl with | [_], _ => rfl
  have H2 := has_of (P := l.prog) (w := w) (base := base) X G F2 a2 b2 (ok_is_count F2 T H1)
  have F3 := fun_mk (st := s_need_moment) l3 c3 k3
  have b3 := F3.binds (ps := ["value"]) fun _ _ _ _ _ _ us hl => match us, hl with | [_], _ => rfl
  have H3 := has_of (P := l.prog) (w := w) (base := base) X G F3 a3 b3 (ok_need_moment F3 T H2)
  have F4 := fun_mk (st := s_need_losses) l4 c4 k4
  have b4 := F4.binds (ps := ["value"]) fun _ _ _ _ _ _ us hl => match us, hl with | [_], _ => rfl
  have H4 := has_of (P := l.prog) (w := w) (base := base) X G F4 a4 b4 (ok_need_losses F4 T H2)
  have F5 := fun_mk (st := s_is_schedule) l5 c5 k5
  have b5 := F5.binds (ps := ["value"]) fun _ _ _ _ _ _ us hl => match us, hl with | [_], _ => rfl
  have H5 := has_of (P := l.prog) (w := w) (base := base) X G F5 a5 b5 (ok_is_schedule F5 T H2)
  have F6 := fun_mk (st := s_is_timers) l6 c6 k6
  have b6 := F6.binds (ps := ["value"]) fun _ _ _ _ _ _ us hl => match us, hl with | [_], _ => rfl
  have H6 := has_of (P := l.prog) (w := w) (base := base) X G F6 a6 b6 (ok_is_timers F6 T H1)
  have F7 := fun_mk (st := s_need_timers) l7 c7 k7
  have b7 := F7.binds (ps := ["timers"]) fun _ _ _ _ _ _ us hl => match us, hl with | [_], _ => rfl
  have H7 := has_of (P := l.prog) (w := w) (base := base) X G F7 a7 b7 (ok_need_timers F7 T H6)
  have F8 := fun_mk (st := s_need_schedule) l8 c8 k8
  have b8 := F8.binds (ps := ["moments"]) fun _ _ _ _ _ _ us hl => match us, hl with | [_], _ => rfl
  have H8 := has_of (P := l.prog) (w := w) (base := base) X G F8 a8 b8 (ok_need_schedule F8 T H5)
  have F9 := fun_mk (st := s_is_node) l9 c9 k9
  have b9 := F9.binds (ps := ["value"]) fun _ _ _ _ _ _ us hl => match us, hl with | [_], _ => rfl
  have H9 := has_of (P := l.prog) (w := w) (base := base) X G F9 a9 b9 (ok_is_node F9 T)
  have F10 := fun_mk (st := s_is_version) l10 c10 k10
  have b10 := F10.binds (ps := ["value"]) fun _ _ _ _ _ _ us hl => match us, hl with | [_], _ => rfl
  have H10 := has_of (P := l.prog) (w := w) (base := base) X G F10 a10 b10 (ok_is_version F10 T H2 H6 H9)
  have F11 := fun_mk (st := s_is_history) l11 c11 k11
  have b11 := F11.binds (ps := ["value"]) fun _ _ _ _ _ _ us hl => match us, hl with | [_], _ => rfl
  have H11 := has_of (P := l.prog) (w := w) (base := base) X G F11 a11 b11 (ok_is_history F11 T H10)
  have F12 := fun_mk (st := s_need_history) l12 c12 k12
  have b12 := F12.binds (ps := ["history"]) fun _ _ _ _ _ _ us hl => match us, hl with | [_], _ => rfl
  have H12 := has_of (P := l.prog) (w := w) (base := base) X G F12 a12 b12 (ok_need_history F12 T H11)
  have F13 := fun_mk (st := s_version_at) l13 c13 k13
  have b13 := F13.binds (ps := ["history", "moment"]) fun _ _ _ _ _ _ us hl => match us, hl with | [_, _], _ => rfl
  have H13 := has_of (P := l.prog) (w := w) (base := base) X G F13 a13 b13 (ok_version_at F13 T)
  have F14 := fun_mk (st := s_lag_at) l14 c14 k14
  have b14 := F14.binds (ps := ["history", "moment", "value"]) fun _ _ _ _ _ _ us hl => match us, hl with | [_, _, _], _ => rfl
  have H14 := has_of (P := l.prog) (w := w) (base := base) X G F14 a14 b14 (ok_lag_at F14 T)
  have F15 := fun_mk (st := s_last_in_row) l15 c15 k15
  have b15 := F15.binds (ps := ["history", "lost", "success", "moment"]) fun _ _ _ _ _ _ us hl => match us, hl with | [_, _, _, _], _ => rfl
  have H15 := has_of (P := l.prog) (w := w) (base := base) X G F15 a15 b15 (ok_last_in_row F15 T H13)
  have F16 := fun_mk (st := s_last_success) l16 c16 k16
  have b16 := F16.binds (ps := ["history", "lost", "moment"]) fun _ _ _ _ _ _ us hl => match us, hl with | [_, _, _], _ => rfl
  have H16 := has_of (P := l.prog) (w := w) (base := base) X G F16 a16 b16 (ok_last_success F16 T H15 H13)
  have F17 := fun_mk (st := s_told_second) l17 c17 k17
  have b17 := F17.binds (ps := ["history", "lost", "moment"]) fun _ _ _ _ _ _ us hl => match us, hl with | [_, _, _], _ => rfl
  have H17 := has_of (P := l.prog) (w := w) (base := base) X G F17 a17 b17 (ok_told_second F17 T H12 H8 H3 H16 H13)
  have F18 := fun_mk (st := s_askings) l18 c18 k18
  have b18 := F18.binds (ps := ["history", "lost", "until"]) fun _ _ _ _ _ _ us hl => match us, hl with | [_, _, _], _ => rfl
  have H18 := has_of (P := l.prog) (w := w) (base := base) X G F18 a18 b18 (ok_askings F18 T H12 H8 H3 H13)
  have F19 := fun_mk (st := s_longest_lag) l19 c19 k19
  have b19 := F19.binds (ps := ["timers", "losses"]) fun _ _ _ _ _ _ us hl => match us, hl with | [_, _], _ => rfl
  have H19 := has_of (P := l.prog) (w := w) (base := base) X G F19 a19 b19 (ok_longest_lag F19 T H7 H4)
  have F20 := fun_mk (st := s_longest_silence) l20 c20 k20
  have b20 := F20.binds (ps := ["timers", "losses"]) fun _ _ _ _ _ _ us hl => match us, hl with | [_, _], _ => rfl
  have H20 := has_of (P := l.prog) (w := w) (base := base) X G F20 a20 b20 (ok_longest_silence F20 T H7 H4)
  have F21 := fun_mk (st := s_longest_lag_noticed) l21 c21 k21
  have b21 := F21.binds (ps := ["timers", "losses"]) fun _ _ _ _ _ _ us hl => match us, hl with | [_, _], _ => rfl
  have H21 := has_of (P := l.prog) (w := w) (base := base) X G F21 a21 b21 (ok_longest_lag_noticed F21 T H7 H4)
  have F22 := fun_mk (st := s_next_successes) l22 c22 k22
  have b22 := F22.binds (ps := ["timers", "success", "losses", "until"]) fun _ _ _ _ _ _ us hl => match us, hl with | [_, _, _, _], _ => rfl
  have H22 := has_of (P := l.prog) (w := w) (base := base) X G F22 a22 b22 (ok_next_successes F22 T)
  have F23 := fun_mk (st := s_last_told) l23 c23 k23
  have b23 := F23.binds (ps := ["timers", "success", "losses", "until"]) fun _ _ _ _ _ _ us hl => match us, hl with | [_, _, _, _], _ => rfl
  have H23 := has_of (P := l.prog) (w := w) (base := base) X G F23 a23 b23 (ok_last_told F23 T)
  have F24 := fun_mk (st := s_success_roads) l24 c24 k24
  have b24 := F24.binds (ps := ["history", "losses", "until"]) fun _ _ _ _ _ _ us hl => match us, hl with | [_, _, _], _ => rfl
  have H24 := has_of (P := l.prog) (w := w) (base := base) X G F24 a24 b24 (ok_success_roads F24 T H22 H13)
  have F25 := fun_mk (st := s_success_moments) l25 c25 k25
  have b25 := F25.binds (ps := ["history", "losses", "until"]) fun _ _ _ _ _ _ us hl => match us, hl with | [_, _, _], _ => rfl
  have H25 := has_of (P := l.prog) (w := w) (base := base) X G F25 a25 b25 (ok_success_moments F25 T H12 H4 H3 H24)
  have F26 := fun_mk (st := s_lost_between) l26 c26 k26
  have b26 := F26.binds (ps := ["timers", "success", "end"]) fun _ _ _ _ _ _ us hl => match us, hl with | [_, _, _], _ => rfl
  have H26 := has_of (P := l.prog) (w := w) (base := base) X G F26 a26 b26 (ok_lost_between F26 T)
  have F27 := fun_mk (st := s_greatest_lag) l27 c27 k27
  have b27 := F27.binds (ps := ["history", "losses", "until"]) fun _ _ _ _ _ _ us hl => match us, hl with | [_, _, _], _ => rfl
  have H27 := has_of (P := l.prog) (w := w) (base := base) X G F27 a27 b27 (ok_greatest_lag F27 T H24 H13 H23 H14)
  have F28 := fun_mk (st := s_longest_lag_in) l28 c28 k28
  have b28 := F28.binds (ps := ["history", "losses", "until"]) fun _ _ _ _ _ _ us hl => match us, hl with | [_, _, _], _ => rfl
  have H28 := has_of (P := l.prog) (w := w) (base := base) X G F28 a28 b28 (ok_longest_lag_in F28 T H12 H4 H3 H27)
  have F29 := fun_mk (st := s_lag_plan) l29 c29 k29
  have b29 := F29.binds (ps := ["history", "losses", "until"]) fun _ _ _ _ _ _ us hl => match us, hl with | [_, _, _], _ => rfl
  have H29 := has_of (P := l.prog) (w := w) (base := base) X G F29 a29 b29 (ok_lag_plan F29 T H12 H4 H3 H27 H24 H26 H13)
  have F30 := fun_mk (st := s_law_draws) l30 c30 k30
  have b30 := F30.binds (ps := ["_law_script", "_law_k"]) fun _ _ _ _ _ _ us hl => match us, hl with | [_, _], _ => rfl
  have H30 := has_of (P := l.prog) (w := w) (base := base) X G F30 a30 b30 (ok_law_draws F30 T)
  have F31 := fun_mk (st := s_law_draw) l31 c31 k31
  have b31 := F31.binds (ps := ["_law_draws_here", "_law_many"]) fun _ _ _ _ _ _ us hl => match us, hl with | [_, _], _ => rfl
  have H31 := has_of (P := l.prog) (w := w) (base := base) X G F31 a31 b31 (ok_law_draw F31 T)
  have F32 := fun_mk (st := s_law_pick) l32 c32 k32
  have b32 := F32.binds (ps := ["_law_draws_here", "_law_things"]) fun _ _ _ _ _ _ us hl => match us, hl with | [_, _], _ => rfl
  have H32 := has_of (P := l.prog) (w := w) (base := base) X G F32 a32 b32 (ok_law_pick F32 T H31)
  have F33 := fun_mk (st := s_law_history) l33 c33 k33
  have b33 := F33.binds (ps := ["_law_draws_here", "_law_timers"]) fun _ _ _ _ _ _ us hl => match us, hl with | [_, _], _ => rfl
  have H33 := has_of (P := l.prog) (w := w) (base := base) X G F33 a33 b33 (ok_law_history F33 T H31 H32)
  have F34 := fun_mk (st := s_law_force) l34 c34 k34
  have b34 := F34.binds (ps := ["_law_history_here", "_law_moment"]) fun _ _ _ _ _ _ us hl => match us, hl with | [_, _], _ => rfl
  have H34 := has_of (P := l.prog) (w := w) (base := base) X G F34 a34 b34 (ok_law_force F34 T)
  have F35 := fun_mk (st := s_law_lag) l35 c35 k35
  have b35 := F35.binds (ps := ["_law_history_here", "_law_moment", "_law_value"]) fun _ _ _ _ _ _ us hl => match us, hl with | [_, _, _], _ => rfl
  have H35 := has_of (P := l.prog) (w := w) (base := base) X G F35 a35 b35 (ok_law_lag F35 T H34)
  have F36 := fun_mk (st := s_law_copy) l36 c36 k36
  have b36 := F36.binds (ps := ["_law_history_here", "_law_rows", "_law_moment"]) fun _ _ _ _ _ _ us hl => match us, hl with | [_, _, _], _ => rfl
  have H36 := has_of (P := l.prog) (w := w) (base := base) X G F36 a36 b36 (ok_law_copy F36 T H34)
  have F37 := fun_mk (st := s_law_walk) l37 c37 k37
  have b37 := F37.binds (ps := ["_law_draws_here", "_law_history_here", "_law_losses", "_law_until", "_law_noticed"]) fun _ _ _ _ _ _ us hl => match us, hl with | [_, _, _, _, _], _ => rfl
  have H37 := has_of (P := l.prog) (w := w) (base := base) X G F37 a37 b37 (ok_law_walk F37 T H31)
  have F38 := fun_mk (st := s_law_tellings_right) l38 c38 k38
  have b38 := F38.binds (ps := ["_law_history_here", "_law_rows", "_law_lost", "_law_until", "_law_most", "_law_silence"]) fun _ _ _ _ _ _ us hl => match us, hl with | [_, _, _, _, _, _], _ => rfl
  have H38 := has_of (P := l.prog) (w := w) (base := base) X G F38 a38 b38 (ok_law_tellings_right F38 T H17 H36 H35)
  have F39 := fun_mk (st := s_law_more_right) l39 c39 k39
  have b39 := F39.binds (ps := ["_law_history_here", "_law_losses", "_law_until", "_law_lag_here"]) fun _ _ _ _ _ _ us hl => match us, hl with | [_, _, _, _], _ => rfl
  have H39 := has_of (P := l.prog) (w := w) (base := base) X G F39 a39 b39 (ok_law_more_right F39 T H28)
  have F40 := fun_mk (st := s_law_plan_right) l40 c40 k40
  have b40 := F40.binds (ps := ["_law_history_here", "_law_losses", "_law_until", "_law_lag_here"]) fun _ _ _ _ _ _ us hl => match us, hl with | [_, _, _, _], _ => rfl
  have H40 := has_of (P := l.prog) (w := w) (base := base) X G F40 a40 b40 (ok_law_plan_right F40 T H29 H17 H35)
  have F41 := fun_mk (st := s_law_noticed_right) l41 c41 k41
  have b41 := F41.binds (ps := ["_law_draws_here", "_law_history_here", "_law_timers", "_law_losses"]) fun _ _ _ _ _ _ us hl => match us, hl with | [_, _, _, _], _ => rfl
  have H41 := has_of (P := l.prog) (w := w) (base := base) X G F41 a41 b41 (ok_law_noticed_right F41 T H37 H21 H36 H35)
  have F42 := fun_mk (st := s_law_reached) l42 c42 k42
  have b42 := F42.binds (ps := ["_law_timers", "_law_losses"]) fun _ _ _ _ _ _ us hl => match us, hl with | [_, _], _ => rfl
  have H42 := has_of (P := l.prog) (w := w) (base := base) X G F42 a42 b42 (ok_law_reached F42 T H19 H17 H18 H20)
  have F43 := fun_mk (st := s_law) l43 c43 k43
  exact ok_law F43 T H30 H33 H37 H25 H28 H19 H38 H31 H18 H20 H42 H41 H39 H40
theorem walk {l : PySem.W.OpenLaw} {q : Program} {loose : List Str} {XP : (Str → Option Value) → Heap → Prop} {YP : World → Heap → Prop} {d : DefRec} {K : Params → PySem.W.Frag} (hn : l.most = some 63) (hdf : d.params.defaults = [])
    (hY : ∀ (w : World) (h : Heap), YP w h → (K w.params).In h)
    (F : ∀ (w : World) (mg : Str → Option Value) (fa : Addr) (h : Heap), (K w.params).In h → h.Ns mainGlobals mg → mg d.name = some (.ref fa) →
      ∃ fd : FuncData, (∀ (s : Shared) (u : Value), BindsTo s fd ⟨[u], []⟩ [("_law_script", u)]) ∧ ∀ base : Heap, (K w.params).In base → base.Ns mainGlobals mg → FnOk l.prog w (K w.params) mg base CX0 8 fa fd ["_law_script"] (sp_law (K w.params))) :
    PySem.W.WalkO q loose XP YP l.row.toRowW d [] (fun f vs => PySem.call f vs) :=
  L2.walk_of (n := 63) (k := 8) (x := "_law_script") (CX := fun _ => CX0) (sp := fun w => sp_law (K w.params)) hn (by decide) hdf ⟨rfl, by decide, by decide⟩ hY F (fun _ _ a ns hl _ hS => ⟨a, ns, rfl, hS, hl, fun _ => rfl⟩) fun _ _ _ _ _ z => z
end K96
open PySem PySem.W PyProof.Rows
set_option maxRecDepth 100000 in
set_option maxHeartbeats 0 in
theorem PySem.Challenge.cw_rootward_k96_whole_lags_of_all_histories_holds : PySem.Challenge.rw_rootward_k96_whole_lags_of_all_histories.Holds := by
  w_on; o_law; k_head; (case hw => w_witness2)
  k_fill
  refine K96.walk (l := PySem.Challenge.rw_rootward_k96_whole_lags_of_all_histories) rfl rfl (fun w h Y => PySem.W.kIn_of Y) ?F
  case F =>
    intro w mg fa h KX G hmg
    refine' K96.all_mk KX G hmg ?a1 ?l1 ?c1 ?k1 ?a2 ?l2 ?c2 ?k2 ?a3 ?l3 ?c3 ?k3 ?a4 ?l4 ?c4 ?k4 ?a5 ?l5 ?c5 ?k5 ?a6 ?l6 ?c6 ?k6 ?a7 ?l7 ?c7 ?k7 ?a8 ?l8 ?c8 ?k8 ?a9 ?l9 ?c9 ?k9 ?a10 ?l10 ?c10 ?k10 ?a11 ?l11 ?c11 ?k11 ?a12 ?l12 ?c12 ?k12 ?a13 ?l13 ?c13 ?k13 ?a14 ?l14 ?c14 ?k14 ?a15 ?l15 ?c15 ?k15 ?a16 ?l16 ?c16 ?k16 ?a17 ?l17 ?c17 ?k17 ?a18 ?l18 ?c18 ?k18 ?a19 ?l19 ?c19 ?k19 ?a20 ?l20 ?c20 ?k20 ?a21 ?l21 ?c21 ?k21 ?a22 ?l22 ?c22 ?k22 ?a23 ?l23 ?c23 ?k23 ?a24 ?l24 ?c24 ?k24 ?a25 ?l25 ?c25 ?k25 ?a26 ?l26 ?c26 ?k26 ?a27 ?l27 ?c27 ?k27 ?a28 ?l28 ?c28 ?k28 ?a29 ?l29 ?c29 ?k29 ?a30 ?l30 ?c30 ?k30 ?a31 ?l31 ?c31 ?k31 ?a32 ?l32 ?c32 ?k32 ?a33 ?l33 ?c33 ?k33 ?a34 ?l34 ?c34 ?k34 ?a35 ?l35 ?c35 ?k35 ?a36 ?l36 ?c36 ?k36 ?a37 ?l37 ?c37 ?k37 ?a38 ?l38 ?c38 ?k38 ?a39 ?l39 ?c39 ?k39 ?a40 ?l40 ?c40 ?k40 ?a41 ?l41 ?c41 ?k41 ?a42 ?l42 ?c42 ?k42 ?a43 ?l43 ?c43 ?k43 ?z_len ?z_range ?z_all ?z_isinstance ?z_min ?z_max ?z_sorted ?z_int ?z_bool ?z_str ?z_list ?z_tuple ?y_pop ?y_push ?y_let
    (case a1 => k_is); (case l1 => k_is); (case c1 => k_is); (case k1 => k_is)
    (case a2 => k_is); (case l2 => k_is); (case c2 => k_is); (case k2 => k_is)
    (case a3 => k_is); (case l3 => k_is); (case c3 => k_is); (case k3 => k_is)
    (case a4 => k_is); (case l4 => k_is); (case c4 => k_is); (case k4 => k_is)
    (case a5 => k_is); (case l5 => k_is); (case c5 => k_is); (case k5 => k_is)
    (case a6 => k_is); (case l6 => k_is); (case c6 => k_is); (case k6 => k_is)
    (case a7 => k_is); (case l7 => k_is); (case c7 => k_is); (case k7 => k_is)
    (case a8 => k_is); (case l8 => k_is); (case c8 => k_is); (case k8 => k_is)
    (case a9 => k_is); (case l9 => k_is); (case c9 => k_is); (case k9 => k_is)
    (case a10 => k_is); (case l10 => k_is); (case c10 => k_is); (case k10 => k_is)
    (case a11 => k_is); (case l11 => k_is); (case c11 => k_is); (case k11 => k_is)
    (case a12 => k_is); (case l12 => k_is); (case c12 => k_is); (case k12 => k_is)
    (case a13 => k_is); (case l13 => k_is); (case c13 => k_is); (case k13 => k_is)
    (case a14 => k_is); (case l14 => k_is); (case c14 => k_is); (case k14 => k_is)
    (case a15 => k_is); (case l15 => k_is); (case c15 => k_is); (case k15 => k_is)
    (case a16 => k_is); (case l16 => k_is); (case c16 => k_is); (case k16 => k_is)
    (case a17 => k_is); (case l17 => k_is); (case c17 => k_is); (case k17 => k_is)
    (case a18 => k_is); (case l18 => k_is); (case c18 => k_is); (case k18 => k_is)
    (case a19 => k_is); (case l19 => k_is); (case c19 => k_is); (case k19 => k_is)
    (case a20 => k_is); (case l20 => k_is); (case c20 => k_is); (case k20 => k_is)
    (case a21 => k_is); (case l21 => k_is); (case c21 => k_is); (case k21 => k_is)
    (case a22 => k_is); (case l22 => k_is); (case c22 => k_is); (case k22 => k_is)
    (case a23 => k_is); (case l23 => k_is); (case c23 => k_is); (case k23 => k_is)
    (case a24 => k_is); (case l24 => k_is); (case c24 => k_is); (case k24 => k_is)
    (case a25 => k_is); (case l25 => k_is); (case c25 => k_is); (case k25 => k_is)
    (case a26 => k_is); (case l26 => k_is); (case c26 => k_is); (case k26 => k_is)
    (case a27 => k_is); (case l27 => k_is); (case c27 => k_is); (case k27 => k_is)
    (case a28 => k_is); (case l28 => k_is); (case c28 => k_is); (case k28 => k_is)
    (case a29 => k_is); (case l29 => k_is); (case c29 => k_is); (case k29 => k_is)
    (case a30 => k_is); (case l30 => k_is); (case c30 => k_is); (case k30 => k_is)
    (case a31 => k_is); (case l31 => k_is); (case c31 => k_is); (case k31 => k_is)
    (case a32 => k_is); (case l32 => k_is); (case c32 => k_is); (case k32 => k_is)
    (case a33 => k_is); (case l33 => k_is); (case c33 => k_is); (case k33 => k_is)
    (case a34 => k_is); (case l34 => k_is); (case c34 => k_is); (case k34 => k_is)
    (case a35 => k_is); (case l35 => k_is); (case c35 => k_is); (case k35 => k_is)
    (case a36 => k_is); (case l36 => k_is); (case c36 => k_is); (case k36 => k_is)
    (case a37 => k_is); (case l37 => k_is); (case c37 => k_is); (case k37 => k_is)
    (case a38 => k_is); (case l38 => k_is); (case c38 => k_is); (case k38 => k_is)
    (case a39 => k_is); (case l39 => k_is); (case c39 => k_is); (case k39 => k_is)
    (case a40 => k_is); (case l40 => k_is); (case c40 => k_is); (case k40 => k_is)
    (case a41 => k_is); (case l41 => k_is); (case c41 => k_is); (case k41 => k_is)
    (case a42 => k_is); (case l42 => k_is); (case c42 => k_is); (case k42 => k_is)
    (case a43 => k_is); (case l43 => k_is); (case c43 => k_is); (case k43 => k_is)
    (case z_len => k_is); (case z_range => k_is); (case z_all => k_is); (case z_isinstance => k_is)
    (case z_min => k_is); (case z_max => k_is); (case z_sorted => k_is); (case z_int => k_is)
    (case z_bool => k_is); (case z_str => k_is); (case z_list => k_is); (case z_tuple => k_is)
    (case y_pop => k_is); (case y_push => k_is); (case y_let => k_is)
