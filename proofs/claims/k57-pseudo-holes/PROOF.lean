import PyProof.Rows.All
import Wide.All
import OpenK.AllK
import Wide.FinOn
import KE.KExcSuper
import HandS.ForMost
import HandS.ForExc
import HandS.Nested
import HandS.ExcInit
import HandS.HotCalls
import HandS.HeadWalk
import KE.KExcIs
import HandS.Evl
import HandS.Defaults
import HandS.ExcIs
import HandS.ExcField
import HandS.Gcd
import HandS.SortInts
import HandS.TupAny
import HandS.IsInst
import HandS.Wide
import HandS.ExcOwn
import HandS.ExcCtx
import PyProof.WalkInts
import HandS.HeadHook1
import HandS.HeadHook2
import PySem.Challenge.RW_coinholes_k57_pseudo_holes
import HandS.SetFor
import HandS.Strs
import HandS.Head0
import HandS.Head1
import HandS.Head2
import HandS.HeadEnd
import HandS.Head3
import Lean
import KE.KStateDown
set_option Elab.async false
set_option linter.all false
set_option maxRecDepth 100000
set_option maxHeartbeats 0
namespace CH
/-! ### tables of a lot -/
def ent (t : List (Option Int)) (i : Nat) : Option Int := (t[i]?).join
theorem ent_lt {t : List (Option Int)} {i : Nat} {e : Int} (h : ent t i = some e) : i < t.length := by
  unfold ent at h
  by_cases hi : i < t.length
  · exact hi
  · rw [List.getElem?_eq_none (Nat.le_of_not_lt hi)] at h
    cases h
theorem ent_set {t : List (Option Int)} {i j : Nat} {v : Option Int} (hj : j < t.length) : ent (t.set j v) i = if i = j then v else ent t i := by
  unfold ent
  rw [List.getElem?_set]
  by_cases h : j = i
  · subst h
    rw [if_pos rfl, if_pos hj, if_pos rfl]
    rfl
  · rw [if_neg h, if_neg (fun z => h z.symm)]
def relax (c : Int) (t : List (Option Int)) (i j : Nat) : List (Option Int) :=
  match ent t i with
  | none => t
  | some h => match ent t j with
    | none => t.set j (some (h + c))
    | some x => if h + c < x then t.set j (some (h + c)) else t
theorem relax_len (c : Int) (t : List (Option Int)) (i j : Nat) : (relax c t i j).length = t.length := by
  unfold relax
  split
  · rfl
  · split
    · rw [List.length_set]
    · split
      · rw [List.length_set]
      · rfl
/-- values only fall -/
def Fall (t t' : List (Option Int)) : Prop := ∀ r e, ent t r = some e → ∃ e', ent t' r = some e' ∧ e' ≤ e
theorem Fall.refl (t : List (Option Int)) : Fall t t := fun _ e h => ⟨e, h, Int.le_refl _⟩
theorem Fall.trans {a b c : List (Option Int)} (h1 : Fall a b) (h2 : Fall b c) : Fall a c := fun r e h => by
  obtain ⟨e1, p1, q1⟩ := h1 r e h
  obtain ⟨e2, p2, q2⟩ := h2 r e1 p1
  exact ⟨e2, p2, Int.le_trans q2 q1⟩
theorem relax_fall (c : Int) (t : List (Option Int)) (i j : Nat) : Fall t (relax c t i j) := by
  intro r e h
  unfold relax
  split
  · exact ⟨e, h, Int.le_refl _⟩
  · rename_i x hx
    split
    · rename_i hj
      by_cases hl : j < t.length
      · by_cases hr : r = j
        · subst hr
          rw [hj] at h
          cases h
        · exact ⟨e, by rw [ent_set hl, if_neg hr]; exact h, Int.le_refl _⟩
      · rw [List.set_eq_of_length_le (Nat.le_of_not_lt hl)]
        exact ⟨e, h, Int.le_refl _⟩
    · rename_i y hy
      split
      · have hl := ent_lt hy
        by_cases hr : r = j
        · subst hr
          rw [hy] at h
          cases h
          exact ⟨x + c, by rw [ent_set hl, if_pos rfl], by omega⟩
        · exact ⟨e, by rw [ent_set hl, if_neg hr]; exact h, Int.le_refl _⟩
      · exact ⟨e, h, Int.le_refl _⟩
theorem relax_goes {c : Int} {t : List (Option Int)} {i j : Nat} {h : Int} (hi : ent t i = some h) (hj : j < t.length) : ∃ e, ent (relax c t i j) j = some e ∧ e ≤ h + c := by
  unfold relax
  rw [hi]
  dsimp only
  split
  · exact ⟨h + c, by rw [ent_set hj, if_pos rfl], Int.le_refl _⟩
  · rename_i x hx
    split
    · exact ⟨h + c, by rw [ent_set hj, if_pos rfl], Int.le_refl _⟩
    · exact ⟨x, hx, by omega⟩
theorem relax_from {c : Int} {t : List (Option Int)} {i j r : Nat} {e : Int} (h : ent (relax c t i j) r = some e) : ent t r = some e ∨ (r = j ∧ ∃ x, ent t i = some x ∧ e = x + c) := by
  unfold relax at h
  split at h
  · exact .inl h
  · rename_i x hx
    split at h
    · rename_i hj
      by_cases hl : j < t.length
      · rw [ent_set hl] at h
        split at h
        · rename_i hr
          cases h
          exact .inr ⟨hr, x, hx, rfl⟩
        · exact .inl h
      · rw [List.set_eq_of_length_le (Nat.le_of_not_lt hl)] at h
        exact .inl h
    · rename_i y hy
      split at h
      · rw [ent_set (ent_lt hy)] at h
        split at h
        · rename_i hr
          cases h
          exact .inr ⟨hr, x, hx, rfl⟩
        · exact .inl h
      · exact .inl h
/-! ### one ring -/
def ringStep (m c : Nat) (s : Nat × List (Option Int)) : Nat × List (Option Int) := ((s.1 + c) % m, relax c s.2 s.1 ((s.1 + c) % m))
def ringRun (m c : Nat) : Nat → Nat × List (Option Int) → Nat × List (Option Int)
  | 0, s => s
  | n + 1, s => ringStep m c (ringRun m c n s)
/-- from r' by k coins c to r -/
def Goes (m c r' k r : Nat) : Prop := (r' + k * c) % m = r
def Att (m c : Nat) (t0 t : List (Option Int)) : Prop := ∀ (r : Nat) (e : Int), ent t r = some e → ∃ (r' k : Nat) (e0 : Int), ent t0 r' = some e0 ∧ e = e0 + (k : Int) * c ∧ Goes m c r' k r
def Opt (m c : Nat) (t0 t : List (Option Int)) (r : Nat) : Prop := ∀ (r' k : Nat) (e0 : Int), ent t0 r' = some e0 → Goes m c r' k r → ∃ e, ent t r = some e ∧ e ≤ e0 + (k : Int) * c
theorem Att.refl {m c : Nat} {t : List (Option Int)} (h : t.length = m) : Att m c t t := fun r e he => ⟨r, 0, e, he, by simp, by
  have := ent_lt he
  unfold Goes
  rw [Nat.zero_mul, Nat.add_zero, Nat.mod_eq_of_lt (by omega)]⟩
theorem goes_step {m c r' k r : Nat} (h : Goes m c r' k r) : Goes m c r' (k + 1) ((r + c) % m) := by
  unfold Goes at h ⊢
  rw [← h, Nat.mod_add_mod, Nat.add_assoc, Nat.succ_mul]
theorem relax_att {m c : Nat} {t0 t : List (Option Int)} {i : Nat} (h : Att m c t0 t) : Att m c t0 (relax c t i ((i + c) % m)) := fun r e he => by
  rcases relax_from he with q | ⟨rfl, x, hx, rfl⟩
  · exact h r e q
  · obtain ⟨r', k, e0, h1, rfl, h3⟩ := h i x hx
    exact ⟨r', k + 1, e0, h1, by rw [Int.natCast_succ, Int.add_mul, Int.one_mul, Int.add_assoc], goes_step h3⟩
theorem Opt.fall {m c r : Nat} {t0 t t' : List (Option Int)} (h : Opt m c t0 t r) (f : Fall t t') : Opt m c t0 t' r := fun r' k e0 h0 hg => by
  obtain ⟨e, h1, h2⟩ := h r' k e0 h0 hg
  obtain ⟨e', h3, h4⟩ := f r e h1
  exact ⟨e', h3, Int.le_trans h4 h2⟩
theorem Opt.back {m c r : Nat} {t0 t1 t : List (Option Int)} (f : Fall t0 t1) (h : Opt m c t1 t r) : Opt m c t0 t r := fun r' k e0 h0 hg => by
  obtain ⟨e1, h1, h2⟩ := f r' e0 h0
  obtain ⟨e, h3, h4⟩ := h r' k e1 h1 hg
  exact ⟨e, h3, by omega⟩
theorem run_fst {m c : Nat} {t : List (Option Int)} {s : Nat} (hs : s < m) : ∀ n, (ringRun m c n (s, t)).1 = (s + n * c) % m
  | 0 => by
    show s = (s + 0 * c) % m
    rw [Nat.zero_mul, Nat.add_zero, Nat.mod_eq_of_lt hs]
  | n + 1 => by
    show ((ringRun m c n (s, t)).1 + c) % m = _
    rw [run_fst hs n, Nat.mod_add_mod, Nat.add_assoc, Nat.succ_mul]
theorem run_len {m c : Nat} {st : Nat × List (Option Int)} : ∀ n, (ringRun m c n st).2.length = st.2.length
  | 0 => rfl
  | n + 1 => by
    show (relax _ _ _ _).length = _
    rw [relax_len, run_len n]
theorem run_fall1 {m c n : Nat} {st : Nat × List (Option Int)} : Fall (ringRun m c n st).2 (ringRun m c (n + 1) st).2 := relax_fall _ _ _ _
theorem run_falls {m c n : Nat} {st : Nat × List (Option Int)} : ∀ d, Fall (ringRun m c n st).2 (ringRun m c (n + d) st).2
  | 0 => Fall.refl _
  | d + 1 => (run_falls d).trans run_fall1
theorem run_att {m c : Nat} {t0 : List (Option Int)} {st : Nat × List (Option Int)} (h : Att m c t0 st.2) : ∀ n, Att m c t0 (ringRun m c n st).2
  | 0 => h
  | n + 1 => relax_att (run_att h n)
/-- the least of finitely many -/
theorem least_of (f : Nat → Option Int) : ∀ n, (∀ i, i < n → f i = none) ∨ ∃ p v, p < n ∧ f p = some v ∧ ∀ i x, i < n → f i = some x → v ≤ x
  | 0 => .inl fun i h => absurd h (Nat.not_lt_zero _)
  | n + 1 => by
    rcases least_of f n with h | ⟨p, v, hp, hv, hl⟩
    · cases e : f n with
      | none =>
        refine .inl fun i hi => ?_
        by_cases z : i = n
        · rw [z]; exact e
        · exact h i (by omega)
      | some v =>
        refine .inr ⟨n, v, by omega, e, fun i x hi hx => ?_⟩
        by_cases z : i = n
        · rw [z, e] at hx
          cases hx
          exact Int.le_refl _
        · rw [h i (by omega)] at hx
          cases hx
    · cases e : f n with
      | none =>
        refine .inr ⟨p, v, by omega, hv, fun i x hi hx => ?_⟩
        by_cases z : i = n
        · rw [z, e] at hx
          cases hx
        · exact hl i x (by omega) hx
      | some w =>
        by_cases hw : w < v
        · refine .inr ⟨n, w, by omega, e, fun i x hi hx => ?_⟩
          by_cases z : i = n
          · rw [z, e] at hx
            cases hx
            exact Int.le_refl _
          · have := hl i x (by omega) hx
            omega
        · refine .inr ⟨p, v, by omega, hv, fun i x hi hx => ?_⟩
          by_cases z : i = n
          · rw [z, e] at hx
            cases hx
            omega
          · exact hl i x (by omega) hx
theorem mod_cancel {m a b x : Nat} (h : (a + x) % m = (b + x) % m) : a % m = b % m := by
  have h1 : ((a + x : Nat) : Int) % (m : Int) = ((b + x : Nat) : Int) % (m : Int) := by
    rw [← Int.natCast_emod, ← Int.natCast_emod, h]
  have h2 : ((a : Int) + x - x) % m = ((b : Int) + x - x) % m := by
    rw [Int.sub_emod, Int.sub_emod ((b : Int) + x)]
    have h3 : ((a : Int) + x) % m = ((b : Int) + x) % m := by
      rw [← Int.natCast_add, ← Int.natCast_add]
      exact h1
    rw [h3]
  rw [Int.add_sub_cancel, Int.add_sub_cancel, ← Int.natCast_emod, ← Int.natCast_emod] at h2
  omega
theorem ring_ok {m c n s N : Nat} {t : List (Option Int)} (ht : t.length = m) (hs : s < m) (hn : 0 < n) (hc : n * c % m = 0) (hN : 2 * n ≤ N) :
    ∀ i, Opt m c t (ringRun m c N (s, t)).2 ((s + i * c) % m) := by
  have hm : 0 < m := by omega
  have per : ∀ a q, (s + (a + n * q) * c) % m = (s + a * c) % m := fun a q => by
    have e : (n * q) * c = n * c * q := by rw [Nat.mul_assoc, Nat.mul_comm q c, ← Nat.mul_assoc]
    have e2 : (n * c * q) % m = 0 := by rw [Nat.mul_mod, hc, Nat.zero_mul, Nat.zero_mod]
    rw [Nat.add_mul, e, ← Nat.add_assoc, Nat.add_mod, e2, Nat.add_zero, Nat.mod_mod]
  -- what leads to a place of the ring stands in the ring
  have inring : ∀ i r' k e0, ent t r' = some e0 → Goes m c r' k ((s + i * c) % m) → ∃ j, j < n ∧ r' = (s + j * c) % m := fun i r' k e0 h0 hg => by
    have hr := ent_lt h0
    refine ⟨(i + (n - 1) * k) % n, Nat.mod_lt _ hn, ?_⟩
    have e1 : (s + (i + (n - 1) * k) % n * c) % m = (s + (i + (n - 1) * k) * c) % m := by
      have := per ((i + (n - 1) * k) % n) ((i + (n - 1) * k) / n)
      rw [Nat.mod_add_div] at this
      exact this.symm
    rw [e1]
    have e2 : (r' + k * c) % m = (s + (i + (n - 1) * k) * c + k * c) % m := by
      unfold Goes at hg
      have e3 : s + (i + (n - 1) * k) * c + k * c = s + (i + n * k) * c := by
        have : n = (n - 1) + 1 := by omega
        have e4 : n * k = (n - 1) * k + k := by rw [← Nat.succ_mul]; congr 1
        rw [e4, ← Nat.add_assoc i, Nat.add_mul _ k, Nat.add_assoc]
      rw [hg, e3, per]
    have e3 := mod_cancel e2
    rw [Nat.mod_eq_of_lt (by omega)] at e3
    exact e3
  intro i
  rcases least_of (fun j => ent t ((s + j * c) % m)) n with hnone | ⟨p, v, hp, hv, hl⟩
  · intro r' k e0 h0 hg
    obtain ⟨j, hj, rfl⟩ := inring i r' k e0 h0 hg
    have := hnone j hj
    rw [this] at h0
    cases h0
  · have f0 : ∀ n, Fall t (ringRun m c n (s, t)).2 := fun n => by
      have := run_falls (m := m) (c := c) (n := 0) (st := (s, t)) n
      rw [Nat.zero_add] at this
      exact this
    have key : ∀ d k, k ≤ d → ∀ e0, ent t ((s + (p + d - k) * c) % m) = some e0 → ∃ e, ent (ringRun m c (p + d) (s, t)).2 ((s + (p + d) * c) % m) = some e ∧ e ≤ e0 + (k : Int) * c := by
      intro d
      induction d with
      | zero =>
        intro k hk e0 h0
        have : k = 0 := by omega
        subst this
        obtain ⟨e, h1, h2⟩ := f0 (p + 0) _ e0 h0
        refine ⟨e, h1, ?_⟩
        have e9 : ((0 : Nat) : Int) * (c : Int) = 0 := by simp
        rw [e9]
        omega
      | succ d ih =>
        intro k hk e0 h0
        cases k with
        | zero =>
          obtain ⟨e, h1, h2⟩ := f0 (p + (d + 1)) _ e0 h0
          refine ⟨e, h1, ?_⟩
          have e9 : ((0 : Nat) : Int) * (c : Int) = 0 := by simp
          rw [e9]
          omega
        | succ k =>
          have hh : p + (d + 1) - (k + 1) = p + d - k := by omega
          rw [hh] at h0
          obtain ⟨e, h1, h2⟩ := ih k (by omega) e0 h0
          have r1 : (ringRun m c (p + d) (s, t)).1 = (s + (p + d) * c) % m := run_fst hs _
          have r2 : (ringRun m c (p + (d + 1)) (s, t)).2 = relax c (ringRun m c (p + d) (s, t)).2 ((s + (p + d) * c) % m) ((s + (p + (d + 1)) * c) % m) := by
            show relax c (ringRun m c (p + d) (s, t)).2 (ringRun m c (p + d) (s, t)).1 (((ringRun m c (p + d) (s, t)).1 + c) % m) = _
            rw [r1, Nat.mod_add_mod, Nat.add_assoc s, ← Nat.succ_mul]
            rfl
          rw [r2]
          obtain ⟨e', h3, h4⟩ := relax_goes (c := (c : Int)) h1 (j := (s + (p + (d + 1)) * c) % m) (by rw [run_len, ht]; exact Nat.mod_lt _ hm)
          refine ⟨e', h3, ?_⟩
          rw [Int.natCast_succ, Int.add_mul, Int.one_mul]
          omega
    -- the place i of the ring as p + d with d < n
    obtain ⟨d, hd, hpos⟩ : ∃ d, d < n ∧ (s + (p + d) * c) % m = (s + i * c) % m := by
      refine ⟨(i + (n - p)) % n, Nat.mod_lt _ hn, ?_⟩
      have h1 := Nat.mod_add_div (i + (n - p)) n
      have h2 : p + (i + (n - p)) % n + n * ((i + (n - p)) / n) = i + n * 1 := by omega
      rw [← per (p + (i + (n - p)) % n) ((i + (n - p)) / n), h2, per]
    rw [← hpos]
    have hfin : Fall (ringRun m c (p + d) (s, t)).2 (ringRun m c N (s, t)).2 := by
      have := run_falls (m := m) (c := c) (n := p + d) (st := (s, t)) (N - (p + d))
      have e : p + d + (N - (p + d)) = N := by omega
      rw [e] at this
      exact this
    intro r' k e0 h0 hg
    by_cases hk : k ≤ d
    · have er : r' = (s + (p + d - k) * c) % m := by
        have e1 : (r' + k * c) % m = (s + (p + d - k) * c + k * c) % m := by
          have e2 : s + (p + d - k) * c + k * c = s + (p + d) * c := by
            rw [Nat.add_assoc, ← Nat.add_mul]
            congr 2
            omega
          rw [e2]
          exact hg
        have := mod_cancel e1
        rw [Nat.mod_eq_of_lt (by have := ent_lt h0; omega)] at this
        exact this
      rw [er] at h0
      obtain ⟨e, h1, h2⟩ := key d k hk e0 h0
      obtain ⟨e', h3, h4⟩ := hfin _ e h1
      exact ⟨e', h3, Int.le_trans h4 h2⟩
    · obtain ⟨j, hj, hr'⟩ := inring (p + d) r' k e0 h0 hg
      have hv0 : v ≤ e0 := by
        rw [hr'] at h0
        exact hl j e0 hj h0
      obtain ⟨e, h1, h2⟩ := key d d (Nat.le_refl _) v (by rw [Nat.add_sub_cancel]; exact hv)
      obtain ⟨e', h3, h4⟩ := hfin _ e h1
      refine ⟨e', h3, ?_⟩
      have : (d : Int) * c ≤ (k : Int) * c := Int.mul_le_mul_of_nonneg_right (by omega) (by omega)
      omega
theorem bezout (m c : Nat) : ∃ a b : Int, (Nat.gcd m c : Int) = a * m + b * c := by
  induction m, c using Nat.gcd.induction with
  | H0 n => exact ⟨0, 1, by simp⟩
  | H1 m n hm ih =>
    obtain ⟨a, b, h⟩ := ih
    refine ⟨b - a * (n / m : Nat), a, ?_⟩
    rw [Nat.gcd_rec, h]
    have e : (n : Int) = m * (n / m : Nat) + (n % m : Nat) := by
      have := Nat.div_add_mod n m
      omega
    have e2 : ((n % m : Nat) : Int) = n - m * (n / m : Nat) := by omega
    rw [e2, Int.sub_mul, Int.mul_sub]
    have e3 : a * ((m : Int) * ((n / m : Nat) : Int)) = a * ((n / m : Nat) : Int) * (m : Int) := by rw [Int.mul_assoc, Int.mul_comm (m : Int)]
    omega
theorem bezout_nat {m c : Nat} (hm : 0 < m) : ∃ x : Nat, (x * c) % m = Nat.gcd m c % m := by
  obtain ⟨a, b, h⟩ := bezout m c
  refine ⟨(b % m).toNat, ?_⟩
  have h1 : (((b % m).toNat * c : Nat) : Int) % m = (Nat.gcd m c : Int) % m := by
    rw [Int.natCast_mul, Int.toNat_of_nonneg (Int.emod_nonneg _ (by omega)), h]
    rw [Int.mul_emod, Int.emod_emod_of_dvd _ (Int.dvd_refl _), ← Int.mul_emod]
    rw [Int.add_emod, Int.mul_emod_left, Int.zero_add, Int.emod_emod_of_dvd _ (Int.dvd_refl _)]
  rw [← Int.natCast_emod, ← Int.natCast_emod] at h1
  omega
def starts (m c N : Nat) : Nat → List (Option Int) → List (Option Int)
  | 0, t => t
  | k + 1, t => (ringRun m c N (k, starts m c N k t)).2
def putCoin (t : List (Option Int)) (c : Nat) : List (Option Int) := starts t.length c (2 * t.length / Nat.gcd t.length c) (Nat.gcd t.length c) t
theorem starts_len {m c N : Nat} {t : List (Option Int)} : ∀ k, (starts m c N k t).length = t.length
  | 0 => rfl
  | k + 1 => by
    show (ringRun m c N (k, starts m c N k t)).2.length = _
    rw [run_len]
    exact starts_len k
theorem starts_fall1 {m c N k : Nat} {t : List (Option Int)} : Fall (starts m c N k t) (starts m c N (k + 1) t) := by
  have := run_falls (m := m) (c := c) (n := 0) (st := (k, starts m c N k t)) N
  rw [Nat.zero_add] at this
  exact this
theorem starts_falls {m c N k : Nat} {t : List (Option Int)} : ∀ d, Fall (starts m c N k t) (starts m c N (k + d) t)
  | 0 => Fall.refl _
  | d + 1 => (starts_falls d).trans starts_fall1
theorem starts_att {m c N : Nat} {t : List (Option Int)} (h : t.length = m) : ∀ k, Att m c t (starts m c N k t)
  | 0 => Att.refl h
  | k + 1 => run_att (starts_att h k) N
theorem put_len (t : List (Option Int)) (c : Nat) : (putCoin t c).length = t.length := starts_len _
theorem put_fall (t : List (Option Int)) (c : Nat) : Fall t (putCoin t c) := by
  have := starts_falls (m := t.length) (c := c) (N := 2 * t.length / Nat.gcd t.length c) (k := 0) (t := t) (Nat.gcd t.length c)
  rw [Nat.zero_add] at this
  exact this
theorem put_att (t : List (Option Int)) (c : Nat) : Att t.length c t (putCoin t c) := starts_att rfl _
theorem put_opt {t : List (Option Int)} {c : Nat} (hm : 0 < t.length) {r : Nat} (hr : r < t.length) : Opt t.length c t (putCoin t c) r := by
  generalize hgm : t.length = m at *
  have hg : 0 < Nat.gcd m c := Nat.gcd_pos_of_pos_left _ hm
  obtain ⟨x, hx⟩ := bezout_nat (c := c) hm
  obtain ⟨u, hu⟩ := Nat.gcd_dvd_left m c
  obtain ⟨w, hw⟩ := Nat.gcd_dvd_right m c
  have gle : Nat.gcd m c ≤ m := Nat.le_of_dvd hm (Nat.gcd_dvd_left m c)
  -- r lies in the ring of r % g
  have hcov : (r % Nat.gcd m c + (r / Nat.gcd m c * x) * c) % m = r := by
    have e1 : (r / Nat.gcd m c * x) * c % m = (r / Nat.gcd m c * Nat.gcd m c) % m := by
      rw [Nat.mul_assoc, Nat.mul_mod, hx, ← Nat.mul_mod]
    have e2 := Nat.mod_add_div r (Nat.gcd m c)
    rw [Nat.add_mod, e1, ← Nat.add_mod, Nat.mul_comm (r / Nat.gcd m c), e2, Nat.mod_eq_of_lt hr]
  have hN : 2 * m / Nat.gcd m c = 2 * u := by
    have : 2 * m = (2 * u) * Nat.gcd m c := by
      conv => lhs; rw [hu]
      rw [Nat.mul_comm (Nat.gcd m c), Nat.mul_assoc]
    rw [this, Nat.mul_div_cancel _ hg]
  have hu0 : 0 < u := by
    rcases Nat.eq_zero_or_pos u with z | z
    · rw [z, Nat.mul_zero] at hu
      omega
    · exact z
  have huc : u * c % m = 0 := by
    have : u * c = m * w := by
      conv => lhs; rw [hw]
      conv => rhs; rw [hu]
      rw [← Nat.mul_assoc, Nat.mul_comm u]
    rw [this, Nat.mul_mod_right]
  have hk : r % Nat.gcd m c < Nat.gcd m c := Nat.mod_lt _ hg
  have ring := ring_ok (m := m) (c := c) (n := u) (s := r % Nat.gcd m c) (N := 2 * m / Nat.gcd m c) (t := starts m c (2 * m / Nat.gcd m c) (r % Nat.gcd m c) t)
    (by rw [starts_len]; exact hgm) (by omega) hu0 huc (by rw [hN]; omega) (r / Nat.gcd m c * x)
  rw [hcov] at ring
  have f1 : Fall t (starts m c (2 * m / Nat.gcd m c) (r % Nat.gcd m c) t) := by
    have := starts_falls (m := m) (c := c) (N := 2 * m / Nat.gcd m c) (k := 0) (t := t) (r % Nat.gcd m c)
    rw [Nat.zero_add] at this
    exact this
  have f2 : Fall (starts m c (2 * m / Nat.gcd m c) (r % Nat.gcd m c + 1) t) (putCoin t c) := by
    have := starts_falls (m := m) (c := c) (N := 2 * m / Nat.gcd m c) (k := r % Nat.gcd m c + 1) (t := t) (Nat.gcd m c - (r % Nat.gcd m c + 1))
    have e : r % Nat.gcd m c + 1 + (Nat.gcd m c - (r % Nat.gcd m c + 1)) = Nat.gcd m c := by omega
    rw [e] at this
    unfold putCoin
    rw [hgm]
    exact this
  exact (ring.back f1).fall f2
end CH

namespace CH
/-! ### made numbers -/
inductive Made (cs : List Int) : Int → Prop
  | zero : Made cs 0
  | step {n c : Int} : Made cs n → c ∈ cs → Made cs (n + c)
theorem Made.coin {cs : List Int} {c : Int} (h : c ∈ cs) : Made cs c := by
  have := Made.step Made.zero h
  rwa [Int.zero_add] at this
theorem Made.add {cs : List Int} {a b : Int} (ha : Made cs a) (hb : Made cs b) : Made cs (a + b) := by
  induction hb with
  | zero => rwa [Int.add_zero]
  | step _ hc ih =>
    rw [← Int.add_assoc]
    exact ih.step hc
theorem Made.mono {cs ds : List Int} {n : Int} (h : ∀ c ∈ cs, c ∈ ds) (x : Made cs n) : Made ds n := by
  induction x with
  | zero => exact .zero
  | step _ hc ih => exact ih.step (h _ hc)
theorem Made.nonneg {cs : List Int} {n : Int} (hp : ∀ c ∈ cs, 0 < c) (x : Made cs n) : 0 ≤ n := by
  induction x with
  | zero => exact Int.le_refl _
  | step _ hc ih =>
    have := hp _ hc
    omega
theorem Made.times {cs : List Int} {a : Int} (ha : Made cs a) : ∀ k : Nat, Made cs ((k : Int) * a)
  | 0 => by
    have e : ((0 : Nat) : Int) * a = 0 := by simp
    rw [e]
    exact .zero
  | k + 1 => by
    rw [Int.natCast_succ, Int.add_mul, Int.one_mul]
    exact (Made.times ha k).add ha
/-- a made number that is not 0 is another one and a coin -/
theorem Made.last {cs : List Int} {n : Int} (x : Made cs n) : n = 0 ∨ ∃ k c, Made cs k ∧ c ∈ cs ∧ n = k + c := by
  cases x with
  | zero => exact .inl rfl
  | step h hc => exact .inr ⟨_, _, h, hc, rfl⟩
theorem made_snoc {cs : List Int} {c n : Int} (x : Made (cs ++ [c]) n) : ∃ (k : Nat) (n0 : Int), Made cs n0 ∧ n = n0 + (k : Int) * c := by
  induction x with
  | zero => exact ⟨0, 0, .zero, by simp⟩
  | @step n d _ hc ih =>
    obtain ⟨k, n0, h0, rfl⟩ := ih
    rcases List.mem_append.mp hc with h | h
    · exact ⟨k, _, h0.step h, by omega⟩
    · have : d = c := by simpa using h
      subst this
      exact ⟨k + 1, n0, h0, by rw [Int.natCast_succ, Int.add_mul, Int.one_mul]; omega⟩
/-! ### the table of a lot -/
structure IsTab (cs : List Int) (t : List (Option Int)) : Prop where
  pos : 0 < t.length
  at_ : ∀ r e, ent t r = some e → Made cs e ∧ e % (t.length : Int) = (r : Int)
  low : ∀ n, Made cs n → ∃ e, ent t (n % (t.length : Int)).toNat = some e ∧ e ≤ n
def tab0 (m : Nat) : List (Option Int) := some 0 :: List.replicate (m - 1) none
theorem tab0_len {m : Nat} (h : 0 < m) : (tab0 m).length = m := by
  unfold tab0
  rw [List.length_cons, List.length_replicate]
  omega
theorem tab0_ent (m r : Nat) : ent (tab0 m) r = if r = 0 then some 0 else none := by
  unfold tab0 ent
  cases r with
  | zero => rfl
  | succ r =>
    rw [if_neg (Nat.succ_ne_zero r), List.getElem?_cons_succ, List.getElem?_replicate]
    split <;> rfl
theorem tab0_ok {m : Nat} (h : 0 < m) : IsTab [] (tab0 m) where
  pos := by rw [tab0_len h]; exact h
  at_ := fun r e he => by
    rw [tab0_ent] at he
    split at he
    · rename_i hr
      cases he
      exact ⟨.zero, by rw [hr]; simp⟩
    · cases he
  low := fun n hn => by
    cases hn with
    | zero => exact ⟨0, by rw [tab0_ent]; simp, Int.le_refl _⟩
    | step _ hc => cases hc
theorem put_tab {cs : List Int} {t : List (Option Int)} {c : Int} (hc : 0 < c) (h : IsTab cs t) : IsTab (cs ++ [c]) (putCoin t c.toNat) where
  pos := by rw [put_len]; exact h.pos
  at_ := fun r e he => by
    obtain ⟨r', k, e0, h0, rfl, hg⟩ := put_att t c.toNat r e he
    obtain ⟨m0, q0⟩ := h.at_ r' e0 h0
    have ec : ((c.toNat : Nat) : Int) = c := Int.toNat_of_nonneg (Int.le_of_lt hc)
    rw [put_len]
    refine ⟨?_, ?_⟩
    · rw [ec]
      exact (m0.mono fun _ z => List.mem_append_left _ z).add ((Made.coin (List.mem_append_right _ (List.mem_singleton.mpr rfl))).times k)
    · unfold Goes at hg
      rw [← hg, Int.natCast_emod, Int.natCast_add, Int.natCast_mul, ← q0, Int.emod_add_emod]
  low := fun n hn => by
    obtain ⟨k, n0, h0, rfl⟩ := made_snoc hn
    have ec : ((c.toNat : Nat) : Int) = c := Int.toNat_of_nonneg (Int.le_of_lt hc)
    obtain ⟨e0, he0, hl⟩ := h.low n0 h0
    have hp : (0 : Int) < t.length := by have := h.pos; omega
    rw [put_len]
    have hr : ((n0 + (k : Int) * c) % (t.length : Int)).toNat < t.length := by
      have h1 := Int.emod_lt_of_pos (n0 + (k : Int) * c) hp
      have h2 := Int.emod_nonneg (n0 + (k : Int) * c) (Int.ne_of_gt hp)
      omega
    obtain ⟨e, he, hle⟩ := put_opt (c := c.toNat) h.pos hr _ k e0 he0 (by
      unfold Goes
      have h1 := Int.emod_nonneg n0 (Int.ne_of_gt hp)
      have h2 := Int.emod_nonneg (n0 + (k : Int) * c) (Int.ne_of_gt hp)
      have e1 : (((n0 % (t.length : Int)).toNat + k * c.toNat) % t.length : Nat) = ((n0 + (k : Int) * c) % (t.length : Int)) := by
        rw [Int.natCast_emod, Int.natCast_add, Int.natCast_mul, ec, Int.toNat_of_nonneg h1, Int.emod_add_emod]
      omega)
    exact ⟨e, he, by rw [ec] at hle; omega⟩
def tableOf (cs : List Int) (m : Nat) : List (Option Int) := cs.foldl (fun t c => putCoin t c.toNat) (tab0 m)
theorem fold_tab {pre : List Int} {t : List (Option Int)} (h : IsTab pre t) : ∀ cs : List Int, (∀ c ∈ cs, 0 < c) → IsTab (pre ++ cs) (cs.foldl (fun t c => putCoin t c.toNat) t) := by
  intro cs
  induction cs generalizing pre t with
  | nil => intro _; rwa [List.append_nil]
  | cons c cs ih =>
    intro hp
    have := ih (put_tab (hp c (List.mem_cons_self ..)) h) fun d hd => hp d (List.mem_cons_of_mem _ hd)
    rwa [List.append_assoc, List.singleton_append] at this
theorem table_ok {cs : List Int} {m : Nat} (hm : 0 < m) (hp : ∀ c ∈ cs, 0 < c) : IsTab cs (tableOf cs m) := by
  have := fold_tab (tab0_ok hm) cs hp
  rwa [List.nil_append] at this
theorem fold_len (cs : List Int) : ∀ t : List (Option Int), (cs.foldl (fun t c => putCoin t c.toNat) t).length = t.length := by
  induction cs with
  | nil => intro _; rfl
  | cons c cs ih =>
    intro t
    rw [List.foldl_cons, ih, put_len]
theorem table_len {cs : List Int} {m : Nat} (hm : 0 < m) : (tableOf cs m).length = m := by
  unfold tableOf
  rw [fold_len, tab0_len hm]
/-! ### the greatest common divisor -/
def gcdOf (cs : List Int) : Int := cs.foldl (fun g c => ((Nat.gcd g.natAbs c.natAbs : Nat) : Int)) 0
theorem gcd_fold_dvd (cs : List Int) : ∀ g : Int, (cs.foldl (fun g c => ((Nat.gcd g.natAbs c.natAbs : Nat) : Int)) g) ∣ g ∧ ∀ c ∈ cs, (cs.foldl (fun g c => ((Nat.gcd g.natAbs c.natAbs : Nat) : Int)) g) ∣ c := by
  induction cs with
  | nil => intro g; exact ⟨Int.dvd_refl _, fun _ h => nomatch h⟩
  | cons c cs ih =>
    intro g
    obtain ⟨h1, h2⟩ := ih ((Nat.gcd g.natAbs c.natAbs : Nat) : Int)
    rw [List.foldl_cons]
    refine ⟨Int.dvd_trans h1 ?_, fun d hd => ?_⟩
    · rw [Int.ofNat_dvd_left]
      exact Nat.gcd_dvd_left _ _
    · rcases List.mem_cons.mp hd with rfl | hd
      · refine Int.dvd_trans h1 ?_
        rw [Int.ofNat_dvd_left]
        exact Nat.gcd_dvd_right _ _
      · exact h2 d hd
theorem gcdOf_dvd {cs : List Int} {c : Int} (h : c ∈ cs) : gcdOf cs ∣ c := (gcd_fold_dvd cs 0).2 c h
theorem gcd_fold_nonneg (cs : List Int) : ∀ g : Int, 0 ≤ g → 0 ≤ cs.foldl (fun g c => ((Nat.gcd g.natAbs c.natAbs : Nat) : Int)) g := by
  induction cs with
  | nil => intro g h; exact h
  | cons c cs ih => intro g _; rw [List.foldl_cons]; exact ih _ (by omega)
theorem gcdOf_nonneg (cs : List Int) : 0 ≤ gcdOf cs := gcd_fold_nonneg cs 0 (Int.le_refl _)
/-- some made number leaves the remainder of the divisor -/
theorem gcd_fold_made {all : List Int} {m : Int} (hm : 0 < m) (cs : List Int) (hs : ∀ c ∈ cs, c ∈ all) (hp : ∀ c ∈ cs, 0 < c) : ∀ g : Int, 0 ≤ g → (∃ n, Made all n ∧ n % m = g % m) →
    ∃ n, Made all n ∧ n % m = (cs.foldl (fun g c => ((Nat.gcd g.natAbs c.natAbs : Nat) : Int)) g) % m := by
  induction cs with
  | nil => intro g _ h; exact h
  | cons c cs ih =>
    intro g hg ⟨n, hn, e⟩
    rw [List.foldl_cons]
    refine ih (fun d hd => hs d (List.mem_cons_of_mem _ hd)) (fun d hd => hp d (List.mem_cons_of_mem _ hd)) _ (by omega) ?_
    obtain ⟨a, b, h⟩ := bezout g.natAbs c.natAbs
    have hc := hp c (List.mem_cons_self ..)
    have eg : ((g.natAbs : Nat) : Int) = g := by omega
    have ec : ((c.natAbs : Nat) : Int) = c := by omega
    rw [eg, ec] at h
    have ha := Int.emod_nonneg a (Int.ne_of_gt hm)
    have hb := Int.emod_nonneg b (Int.ne_of_gt hm)
    refine ⟨((a % m).toNat : Int) * n + ((b % m).toNat : Int) * c, (hn.times _).add ((Made.coin (hs c (List.mem_cons_self ..))).times _), ?_⟩
    rw [Int.toNat_of_nonneg ha, Int.toNat_of_nonneg hb, h, Int.add_emod, Int.mul_emod, Int.emod_emod_of_dvd _ (Int.dvd_refl _), e, ← Int.mul_emod, Int.mul_emod (b % m), Int.emod_emod_of_dvd _ (Int.dvd_refl _), ← Int.mul_emod, ← Int.add_emod]
theorem made_of_rest {cs : List Int} {m : Int} (hm : 0 < m) (hp : ∀ c ∈ cs, 0 < c) (h1 : gcdOf cs = 1) (r : Int) (hr : 0 ≤ r) : ∃ n, Made cs n ∧ n % m = r % m := by
  obtain ⟨n, hn, e⟩ := gcd_fold_made hm cs (fun _ h => h) hp 0 (Int.le_refl _) ⟨0, .zero, rfl⟩
  rw [show cs.foldl (fun g c => ((Nat.gcd g.natAbs c.natAbs : Nat) : Int)) 0 = 1 from h1] at e
  refine ⟨(r.toNat : Int) * n, hn.times _, ?_⟩
  rw [Int.toNat_of_nonneg hr, Int.mul_emod, e, ← Int.mul_emod, Int.mul_one]
/-- coins without a common divisor -/
def Apart (cs : List Int) : Prop := ∀ d : Int, 1 ≤ d → (∀ c ∈ cs, d ∣ c) → d = 1
theorem gcdOf_apart {cs : List Int} (h : Apart cs) {c : Int} (hc : c ∈ cs) (hp : 0 < c) : gcdOf cs = 1 := by
  have h0 := gcdOf_nonneg cs
  have hd := gcdOf_dvd hc
  refine h _ ?_ fun c hc => gcdOf_dvd hc
  rcases Int.lt_or_eq_of_le h0 with z | z
  · exact z
  · rw [← z] at hd
    have := Int.zero_dvd.mp hd
    omega
/-! ### whole lots -/
def nth (T : List Int) (i : Nat) : Int := T.getD i 0
structure WT (cs : List Int) (T : List Int) : Prop where
  pos : 0 < T.length
  mem : (T.length : Int) ∈ cs
  cpos : ∀ c ∈ cs, 0 < c
  made : ∀ r, r < T.length → Made cs (nth T r)
  rest : ∀ r, r < T.length → nth T r % (T.length : Int) = (r : Int)
  low : ∀ n, Made cs n → nth T (n % (T.length : Int)).toNat ≤ n
def inT (T : List Int) (n : Int) : Bool := decide (nth T (n % (T.length : Int)).toNat ≤ n)
def ents (T : List Int) : List (Option Int) := T.map some
theorem ent_ents (T : List Int) (r : Nat) : ent (ents T) r = T[r]? := by
  unfold ent ents
  rw [List.getElem?_map]
  cases T[r]? <;> rfl
/-- the table of a lot with the grain 1 has no gaps -/
theorem whole_ok {cs : List Int} {t : List (Option Int)} (h : IsTab cs t) (hp : ∀ c ∈ cs, 0 < c) (h1 : gcdOf cs = 1) (hm : (t.length : Int) ∈ cs) : ∃ T, t = ents T ∧ WT cs T := by
  have hl : (0 : Int) < t.length := by have := h.pos; omega
  have full : ∀ r, r < t.length → ∃ e, ent t r = some e := fun r hr => by
    obtain ⟨n, hn, e⟩ := made_of_rest hl hp h1 (r : Int) (by omega)
    obtain ⟨e', he, _⟩ := h.low n hn
    rw [e, Int.emod_eq_of_lt (by omega) (by omega), Int.toNat_natCast] at he
    exact ⟨e', he⟩
  have et : t = ents (t.map fun x => x.getD 0) := by
    refine List.ext_getElem? fun i => ?_
    unfold ents
    rw [List.getElem?_map, List.getElem?_map]
    by_cases hi : i < t.length
    · obtain ⟨e, he⟩ := full i hi
      unfold ent at he
      rw [List.getElem?_eq_getElem hi] at he ⊢
      have he' : t[i] = some e := he
      rw [he']
      rfl
    · rw [List.getElem?_eq_none (Nat.le_of_not_lt hi)]
      rfl
  refine ⟨t.map fun x => x.getD 0, et, ?_⟩
  have len : (t.map fun x => x.getD 0).length = t.length := List.length_map ..
  have nt : ∀ r e, ent t r = some e → nth (t.map fun x => x.getD 0) r = e := fun r e he => by
    unfold nth
    unfold ent at he
    rw [List.getD_eq_getElem?_getD, List.getElem?_map]
    cases q : t[r]? with
    | none => rw [q] at he; cases he
    | some x =>
      rw [q] at he
      have : x = some e := he
      rw [this]
      rfl
  refine ⟨by rw [len]; exact h.pos, by rw [len]; exact hm, hp, fun r hr => ?_, fun r hr => ?_, fun n hn => ?_⟩
  · rw [len] at hr
    obtain ⟨e, he⟩ := full r hr
    rw [nt r e he]
    exact (h.at_ r e he).1
  · rw [len] at hr ⊢
    obtain ⟨e, he⟩ := full r hr
    rw [nt r e he]
    exact (h.at_ r e he).2
  · rw [len]
    obtain ⟨e, he, hle⟩ := h.low n hn
    rw [nt _ e he]
    exact hle
section
variable {cs T : List Int}
theorem WT.len (W : WT cs T) : (0 : Int) < T.length := by have := W.pos; omega
theorem WT.idx (W : WT cs T) (n : Int) : (n % (T.length : Int)).toNat < T.length := by
  have h1 := Int.emod_lt_of_pos n W.len
  have h2 := Int.emod_nonneg n (Int.ne_of_gt W.len)
  omega
theorem WT.idx_eq (W : WT cs T) (n : Int) : (((n % (T.length : Int)).toNat : Nat) : Int) = n % (T.length : Int) := Int.toNat_of_nonneg (Int.emod_nonneg n (Int.ne_of_gt W.len))
theorem up_made {cs : List Int} {m a n : Int} (hm : m ∈ cs) (h0 : 0 < m) (h : Made cs a) (hl : a ≤ n) (he : a % m = n % m) : Made cs n := by
  obtain ⟨k, hk⟩ : ∃ k, n - a = m * k := by
    have := Int.emod_emod_of_dvd n (Int.dvd_refl m)
    exact Int.dvd_of_emod_eq_zero (by rw [Int.sub_emod, he, Int.sub_self, Int.zero_emod])
  have hk0 : 0 ≤ k := by
    rcases Int.lt_or_le k 0 with z | z
    · have := Int.mul_neg_of_pos_of_neg h0 z
      omega
    · exact z
  have e : n = a + ((k.toNat : Nat) : Int) * m := by rw [Int.toNat_of_nonneg hk0, Int.mul_comm]; omega
  rw [e]
  exact h.add ((Made.coin hm).times _)
theorem WT.inT_iff (W : WT cs T) (n : Int) : inT T n = true ↔ Made cs n := by
  unfold inT
  rw [decide_eq_true_iff]
  refine ⟨fun h => up_made W.mem W.len (W.made _ (W.idx n)) h ?_, W.low n⟩
  rw [W.rest _ (W.idx n), W.idx_eq]
theorem WT.nth_le (W : WT cs T) {r : Nat} {n : Int} (hn : Made cs n) (e : n % (T.length : Int) = r) : nth T r ≤ n := by
  have := W.low n hn
  rw [e, Int.toNat_natCast] at this
  exact this
end
end CH

namespace CH
/-! ### sorted, min, max -/
def ins (x : Int) : List Int → List Int
  | [] => [x]
  | y :: r => if x ≤ y then x :: y :: r else y :: ins x r
def isort : List Int → List Int
  | [] => []
  | x :: r => ins x (isort r)
theorem ins_perm (x : Int) : ∀ l, (ins x l).Perm (x :: l)
  | [] => .refl _
  | y :: r => by
    unfold ins
    split
    · exact .refl _
    · exact ((ins_perm x r).cons y).trans (.swap x y r)
theorem isort_perm : ∀ l, (isort l).Perm l
  | [] => .refl _
  | x :: r => (ins_perm x _).trans ((isort_perm r).cons x)
theorem ins_sorted {x : Int} : ∀ {l : List Int}, l.Pairwise (· ≤ ·) → (ins x l).Pairwise (· ≤ ·)
  | [], _ => List.pairwise_singleton _ _
  | y :: r, h => by
    obtain ⟨h1, h2⟩ := List.pairwise_cons.mp h
    unfold ins
    split
    · rename_i hxy
      refine List.pairwise_cons.mpr ⟨fun z hz => ?_, h⟩
      rcases List.mem_cons.mp hz with rfl | hz
      · exact hxy
      · exact Int.le_trans hxy (h1 z hz)
    · rename_i hxy
      refine List.pairwise_cons.mpr ⟨fun z hz => ?_, ins_sorted h2⟩
      rcases List.mem_cons.mp ((ins_perm x r).mem_iff.mp hz) with rfl | hz
      · omega
      · exact h1 z hz
theorem isort_sorted : ∀ l, (isort l).Pairwise (· ≤ ·)
  | [] => .nil
  | _ :: r => ins_sorted (isort_sorted r)
/-- two sorted lists with the same entries are one -/
theorem sorted_eq : ∀ {a b : List Int}, a.Perm b → a.Pairwise (· ≤ ·) → b.Pairwise (· ≤ ·) → a = b
  | [], b, p, _, _ => (List.nil_perm.mp p).symm
  | x :: a, [], p, _, _ => (List.perm_nil.mp p)
  | x :: a, y :: b, p, ha, hb => by
    obtain ⟨a1, a2⟩ := List.pairwise_cons.mp ha
    obtain ⟨b1, b2⟩ := List.pairwise_cons.mp hb
    have e : x = y := by
      have hx : x ∈ y :: b := p.mem_iff.mp (List.mem_cons_self ..)
      have hy : y ∈ x :: a := p.mem_iff.mpr (List.mem_cons_self ..)
      rcases List.mem_cons.mp hx with z | hx
      · exact z
      · rcases List.mem_cons.mp hy with z | hy
        · exact z.symm
        · have := b1 x hx
          have := a1 y hy
          omega
    subst e
    rw [sorted_eq (p.cons_inv) a2 b2]
theorem isort_eq {a b : List Int} (p : a.Perm b) (h : a.Pairwise (· ≤ ·)) : a = isort b := sorted_eq (p.trans (isort_perm b).symm) h (isort_sorted b)
/-- two ascending lists with the same members are one -/
theorem asc_eq : ∀ {a b : List Int}, a.Pairwise (· < ·) → b.Pairwise (· < ·) → (∀ x, x ∈ a ↔ x ∈ b) → a = b
  | [], [], _, _, _ => rfl
  | [], y :: b, _, _, h => absurd ((h y).mpr (List.mem_cons_self ..)) (List.not_mem_nil)
  | x :: a, [], _, _, h => absurd ((h x).mp (List.mem_cons_self ..)) (List.not_mem_nil)
  | x :: a, y :: b, ha, hb, h => by
    obtain ⟨a1, a2⟩ := List.pairwise_cons.mp ha
    obtain ⟨b1, b2⟩ := List.pairwise_cons.mp hb
    have e : x = y := by
      rcases List.mem_cons.mp ((h x).mp (List.mem_cons_self ..)) with z | hx
      · exact z
      · rcases List.mem_cons.mp ((h y).mpr (List.mem_cons_self ..)) with z | hy
        · exact z.symm
        · have := b1 x hx
          have := a1 y hy
          omega
    subst e
    rw [asc_eq a2 b2 fun z => ?_]
    have hz := h z
    rw [List.mem_cons, List.mem_cons] at hz
    constructor
    · intro q
      rcases hz.mp (.inr q) with r | r
      · have := a1 z q
        omega
      · exact r
    · intro q
      rcases hz.mpr (.inr q) with r | r
      · have := b1 z q
        omega
      · exact r
theorem asc_of {l : List Int} (h : l.Pairwise (· ≤ ·)) (n : l.Nodup) : l.Pairwise (· < ·) := by
  induction l with
  | nil => exact .nil
  | cons x r ih =>
    obtain ⟨h1, h2⟩ := List.pairwise_cons.mp h
    obtain ⟨n1, n2⟩ := List.nodup_cons.mp n
    refine List.pairwise_cons.mpr ⟨fun y hy => ?_, ih h2 n2⟩
    have := h1 y hy
    have : x ≠ y := fun z => n1 (z ▸ hy)
    omega
theorem isort_asc {l : List Int} (n : l.Nodup) : (isort l).Pairwise (· < ·) := asc_of (isort_sorted l) ((isort_perm l).nodup_iff.mpr n)
theorem mem_isort {l : List Int} {x : Int} : x ∈ isort l ↔ x ∈ l := (isort_perm l).mem_iff
def maxOf : List Int → Int
  | [] => 0
  | [x] => x
  | x :: y :: r => max x (maxOf (y :: r))
def minOf : List Int → Int
  | [] => 0
  | [x] => x
  | x :: y :: r => min x (minOf (y :: r))
theorem maxOf_mem : ∀ {l : List Int}, l ≠ [] → maxOf l ∈ l
  | [], h => absurd rfl h
  | [x], _ => List.mem_singleton.mpr rfl
  | x :: y :: r, _ => by
    have ih := maxOf_mem (l := y :: r) (fun h => nomatch h)
    unfold maxOf
    rcases Int.le_total x (maxOf (y :: r)) with h | h
    · rw [Int.max_eq_right h]; exact List.mem_cons_of_mem _ ih
    · rw [Int.max_eq_left h]; exact List.mem_cons_self ..
theorem le_maxOf : ∀ {l : List Int} {x : Int}, x ∈ l → x ≤ maxOf l
  | [], _, h => nomatch h
  | [y], x, h => by
    rw [List.mem_singleton.mp h]
    exact Int.le_refl _
  | y :: z :: r, x, h => by
    unfold maxOf
    rcases List.mem_cons.mp h with rfl | h
    · exact Int.le_max_left _ _
    · exact Int.le_trans (le_maxOf h) (Int.le_max_right _ _)
theorem minOf_mem : ∀ {l : List Int}, l ≠ [] → minOf l ∈ l
  | [], h => absurd rfl h
  | [x], _ => List.mem_singleton.mpr rfl
  | x :: y :: r, _ => by
    have ih := minOf_mem (l := y :: r) (fun h => nomatch h)
    unfold minOf
    rcases Int.le_total x (minOf (y :: r)) with h | h
    · rw [Int.min_eq_left h]; exact List.mem_cons_self ..
    · rw [Int.min_eq_right h]; exact List.mem_cons_of_mem _ ih
theorem minOf_le : ∀ {l : List Int} {x : Int}, x ∈ l → minOf l ≤ x
  | [], _, h => nomatch h
  | [y], x, h => by
    rw [List.mem_singleton.mp h]
    exact Int.le_refl _
  | y :: z :: r, x, h => by
    unfold minOf
    rcases List.mem_cons.mp h with rfl | h
    · exact Int.min_le_left _ _
    · exact Int.le_trans (Int.min_le_right _ _) (minOf_le h)
theorem maxOf_eq {l : List Int} {m : Int} (h1 : m ∈ l) (h2 : ∀ y, y ∈ l → y ≤ m) : m = maxOf l := by
  have h3 := le_maxOf h1
  have h4 := h2 _ (maxOf_mem (List.ne_nil_of_mem h1))
  omega
theorem minOf_eq {l : List Int} {m : Int} (h1 : m ∈ l) (h2 : ∀ y, y ∈ l → m ≤ y) : m = minOf l := by
  have h3 := minOf_le h1
  have h4 := h2 _ (minOf_mem (List.ne_nil_of_mem h1))
  omega
/-! ### pseudo-holes -/
theorem mem_nth {T : List Int} {x : Int} (h : x ∈ T) : ∃ r, r < T.length ∧ nth T r = x := by
  obtain ⟨r, hr, e⟩ := List.getElem_of_mem h
  refine ⟨r, hr, ?_⟩
  unfold nth
  rw [List.getD_eq_getElem?_getD, List.getElem?_eq_getElem hr, e]
  rfl
theorem nth_mem {T : List Int} {r : Nat} (h : r < T.length) : nth T r ∈ T := by
  unfold nth
  rw [List.getD_eq_getElem?_getD, List.getElem?_eq_getElem h]
  exact List.getElem_mem h
def lastOf (T : List Int) : Int := maxOf T - T.length
def pseudoOf (cs T : List Int) : List Int := (isort (T.map fun e => e - T.length)).filter fun h => cs.all fun c => inT T (h + c)
section
variable {cs T : List Int}
theorem WT.nodup (W : WT cs T) : T.Nodup := by
  refine List.pairwise_iff_getElem.mpr fun i j hi hj hij e => ?_
  have h1 := W.rest i hi
  have h2 := W.rest j hj
  unfold nth at h1 h2
  rw [List.getD_eq_getElem?_getD, List.getElem?_eq_getElem hi] at h1
  rw [List.getD_eq_getElem?_getD, List.getElem?_eq_getElem hj] at h2
  have h1' : T[i] % (T.length : Int) = (i : Int) := h1
  have h2' : T[j] % (T.length : Int) = (j : Int) := h2
  rw [e, h2'] at h1'
  omega
theorem WT.nth_rest (W : WT cs T) (n : Int) : nth T (n % (T.length : Int)).toNat % (T.length : Int) = n % (T.length : Int) := by
  rw [W.rest _ (W.idx n), W.idx_eq]
theorem WT.above (W : WT cs T) {n : Int} (h : lastOf T < n) : Made cs n := by
  rw [← W.inT_iff]
  unfold inT
  rw [decide_eq_true_iff]
  unfold lastOf at h
  have h1 := le_maxOf (nth_mem (W.idx n))
  have h2 := W.nth_rest n
  have hl := W.len
  -- congruent and less than n + m
  rcases Int.lt_or_le n (nth T (n % (T.length : Int)).toNat) with z | z
  · have h3 : (nth T (n % (T.length : Int)).toNat - n) % (T.length : Int) = 0 := by
      rw [Int.sub_emod, h2, Int.sub_self, Int.zero_emod]
    rw [Int.emod_eq_of_lt (by omega) (by omega)] at h3
    omega
  · exact z
theorem WT.last_not (W : WT cs T) : ¬ Made cs (lastOf T) := fun h => by
  obtain ⟨r, hr, e⟩ := mem_nth (maxOf_mem (List.ne_nil_of_length_pos W.pos))
  have hl := W.len
  have h1 := W.low _ h
  have h2 := W.rest r hr
  rw [e] at h2
  unfold lastOf at h1
  have h3 : (maxOf T - T.length) % (T.length : Int) = r := by
    rw [← h2, Int.sub_emod, Int.emod_self, Int.sub_zero, Int.emod_emod_of_dvd _ (Int.dvd_refl _)]
  rw [h3, Int.toNat_natCast, e] at h1
  omega
theorem WT.last_ge (W : WT cs T) : -1 ≤ lastOf T := by
  rcases Int.lt_or_le (lastOf T) (-1) with z | z
  · have := (W.above z).nonneg W.cpos
    omega
  · exact z
/-- what is not made, but with the least coin more is: directly below an entry -/
theorem WT.below (W : WT cs T) {z : Int} (h1 : ¬ Made cs z) (h2 : Made cs (z + T.length)) : z = nth T (z % (T.length : Int)).toNat - T.length := by
  have hl := W.len
  have h3 := W.low _ h2
  rw [Int.add_emod_right] at h3
  have h4 : ¬ inT T z = true := fun q => h1 ((W.inT_iff z).mp q)
  unfold inT at h4
  rw [decide_eq_true_iff] at h4
  have h5 := W.nth_rest z
  have h6 : (z + T.length - nth T (z % (T.length : Int)).toNat) % (T.length : Int) = 0 := by
    rw [Int.sub_emod, h5, Int.add_emod_right, Int.sub_self, Int.zero_emod]
  rw [Int.emod_eq_of_lt (by omega) (by omega)] at h6
  omega
theorem WT.entry_not (W : WT cs T) {r : Nat} (hr : r < T.length) : ¬ Made cs (nth T r - T.length) := fun h => by
  have hl := W.len
  have h1 := W.low _ h
  have h2 := W.rest r hr
  have h3 : (nth T r - T.length) % (T.length : Int) = r := by
    rw [Int.sub_emod, Int.emod_self, Int.sub_zero, h2, Int.emod_eq_of_lt (by omega) (by omega)]
  rw [h3, Int.toNat_natCast] at h1
  omega
/-- the meaning -/
def IsPseudo (cs : List Int) (z : Int) : Prop := ¬ Made cs z ∧ ∀ c ∈ cs, Made cs (z + c)
theorem mem_pseudo (W : WT cs T) {z : Int} : z ∈ pseudoOf cs T ↔ IsPseudo cs z := by
  unfold pseudoOf IsPseudo
  rw [List.mem_filter, mem_isort, List.mem_map, List.all_eq_true]
  constructor
  · rintro ⟨⟨e, he, rfl⟩, h⟩
    obtain ⟨r, hr, rfl⟩ := mem_nth he
    exact ⟨W.entry_not hr, fun c hc => (W.inT_iff _).mp (h c hc)⟩
  · rintro ⟨h1, h2⟩
    refine ⟨⟨_, nth_mem (W.idx z), (W.below h1 (h2 _ W.mem)).symm⟩, fun c hc => (W.inT_iff _).mpr (h2 c hc)⟩
theorem IsPseudo.sums {z n : Int} (h : IsPseudo cs z) (hn : Made cs n) (h0 : 0 < n) : Made cs (z + n) := by
  rcases hn.last with e | ⟨k, c, hk, hc, rfl⟩
  · omega
  · have := (h.2 c hc).add hk
    have e : z + c + k = z + (k + c) := by omega
    rwa [e] at this
theorem pseudo_asc (W : WT cs T) : (pseudoOf cs T).Pairwise (· < ·) := by
  unfold pseudoOf
  refine List.Pairwise.filter _ (isort_asc ?_)
  refine List.pairwise_map.mpr (W.nodup.imp fun {a b} h => ?_)
  omega
theorem IsPseudo.le (W : WT cs T) {z : Int} (h : IsPseudo cs z) : z ≤ lastOf T := by
  rcases Int.lt_or_le (lastOf T) z with q | q
  · exact absurd (W.above q) h.1
  · exact q
theorem IsPseudo.ge (W : WT cs T) {z : Int} (h : IsPseudo cs z) : -(T.length : Int) ≤ z := by
  have := (h.2 _ W.mem).nonneg W.cpos
  omega
theorem last_pseudo (W : WT cs T) : IsPseudo cs (lastOf T) := ⟨W.last_not, fun c hc => W.above (by have := W.cpos c hc; omega)⟩
/-- each hole is below a pseudo-hole -/
theorem hole_below (W : WT cs T) : ∀ (k : Nat) (h : Int), lastOf T - h < k → ¬ Made cs h → ∃ z, IsPseudo cs z ∧ h ≤ z ∧ Made cs (z - h)
  | 0, h, hk, hn => by
    exact absurd (W.above (by omega)) hn
  | k + 1, h, hk, hn => by
    by_cases q : ∀ c ∈ cs, Made cs (h + c)
    · exact ⟨h, ⟨hn, q⟩, Int.le_refl _, by rw [Int.sub_self]; exact .zero⟩
    · have q' : ∃ c, c ∈ cs ∧ ¬ Made cs (h + c) := by
        refine Classical.byContradiction fun z => q fun c hc => Classical.byContradiction fun y => z ⟨c, hc, y⟩
      obtain ⟨c, hc, hm⟩ := q'
      have h0 := W.cpos c hc
      obtain ⟨z, hz, hl, hd⟩ := hole_below W k (h + c) (by omega) hm
      refine ⟨z, hz, by omega, ?_⟩
      have := hd.step hc
      have e : z - (h + c) + c = z - h := by omega
      rwa [e] at this
end
/-! ### ideals -/
def mirrorOf (T : List Int) (F : Int) : List Int := (List.range T.length).map fun (r : Nat) => F + T.length - nth T ((F - (r : Int)) % (T.length : Int)).toNat
def membersOf (K cs : List Int) : List Int := isort (K.filter fun e => !(cs.any fun c => inT K (e - c)))
def startsOf (T ss : List Int) : List Int := (List.range T.length).map fun (r : Nat) => minOf (ss.map fun s => s + nth T (((r : Int) - s) % (T.length : Int)).toNat)
theorem nth_range_map {n : Nat} {f : Nat → Int} {r : Nat} (h : r < n) : nth ((List.range n).map f) r = f r := by
  unfold nth
  rw [List.getD_eq_getElem?_getD, List.getElem?_map, List.getElem?_range h]
  rfl
/-- the table of an ideal: K has one entry for each remainder, and coins may be added -/
structure IT (cs T K : List Int) : Prop where
  W : WT cs T
  len : K.length = T.length
  rest : ∀ r, r < T.length → nth K r % (T.length : Int) = (r : Int)
  up : ∀ n c, c ∈ cs → inT K n = true → inT K (n + c) = true
section
variable {cs T K : List Int}
theorem IT.idx (I : IT cs T K) (n : Int) : (n % (K.length : Int)).toNat < T.length := by
  rw [I.len]
  exact I.W.idx n
theorem IT.inT_iff (I : IT cs T K) (n : Int) : inT K n = true ↔ nth K (n % (T.length : Int)).toNat ≤ n := by
  unfold inT
  rw [decide_eq_true_iff, I.len]
theorem IT.entry (I : IT cs T K) {r : Nat} (hr : r < T.length) : inT K (nth K r) = true := by
  rw [I.inT_iff, I.rest r hr, Int.toNat_natCast]
  exact Int.le_refl _
theorem IT.ups (I : IT cs T K) {n k : Int} (h : inT K n = true) (hk : Made cs k) : inT K (n + k) = true := by
  induction hk with
  | zero => rwa [Int.add_zero]
  | step _ hc ih =>
    rw [← Int.add_assoc]
    exact I.up _ _ hc ih
theorem IT.nodup (I : IT cs T K) : K.Nodup := by
  refine List.pairwise_iff_getElem.mpr fun i j hi hj hij e => ?_
  have h1 := I.rest i (by have := I.len; omega)
  have h2 := I.rest j (by have := I.len; omega)
  unfold nth at h1 h2
  rw [List.getD_eq_getElem?_getD, List.getElem?_eq_getElem hi] at h1
  rw [List.getD_eq_getElem?_getD, List.getElem?_eq_getElem hj] at h2
  have h1' : K[i] % (T.length : Int) = (i : Int) := h1
  have h2' : K[j] % (T.length : Int) = (j : Int) := h2
  rw [e, h2'] at h1'
  omega
/-- a needed member -/
def Needed (K cs : List Int) (e : Int) : Prop := inT K e = true ∧ ∀ c ∈ cs, ¬ inT K (e - c) = true
theorem IT.needed (I : IT cs T K) {e : Int} : e ∈ membersOf K cs ↔ Needed K cs e := by
  unfold membersOf Needed
  rw [mem_isort, List.mem_filter]
  constructor
  · rintro ⟨he, h⟩
    obtain ⟨r, hr, rfl⟩ := mem_nth he
    rw [Bool.not_eq_true', List.any_eq_false] at h
    exact ⟨I.entry (by have := I.len; omega), fun c hc => h c hc⟩
  · rintro ⟨h1, h2⟩
    have hl := I.W.len
    have h3 := h2 _ I.W.mem
    rw [I.inT_iff] at h1 h3
    have e1 : (e - (T.length : Int)) % (T.length : Int) = e % (T.length : Int) := Int.sub_emod_right ..
    rw [e1] at h3
    have h5 := I.rest _ (I.W.idx e)
    rw [I.W.idx_eq] at h5
    have h6 : (e - nth K (e % (T.length : Int)).toNat) % (T.length : Int) = 0 := by rw [Int.sub_emod, h5, Int.sub_self, Int.zero_emod]
    rw [Int.emod_eq_of_lt (by omega) (by omega)] at h6
    have h7 : e = nth K (e % (T.length : Int)).toNat := by omega
    refine ⟨by rw [h7]; exact nth_mem (by rw [I.len]; exact I.W.idx e), ?_⟩
    rw [Bool.not_eq_true', List.any_eq_false]
    exact fun c hc => h2 c hc
theorem members_asc (I : IT cs T K) : (membersOf K cs).Pairwise (· < ·) := isort_asc (I.nodup.sublist List.filter_sublist)
theorem members_len (I : IT cs T K) : (membersOf K cs).length ≤ T.length := by
  unfold membersOf
  rw [(isort_perm _).length_eq, ← I.len]
  exact List.length_filter_le ..
/-- everything comes from a needed member -/
theorem IT.from (I : IT cs T K) {lo : Int} (hlo : ∀ n, inT K n = true → lo ≤ n) : ∀ (k : Nat) (n : Int), n - lo < k → inT K n = true → ∃ e j, Needed K cs e ∧ Made cs j ∧ n = e + j
  | 0, n, hk, h => by
    have := hlo n h
    omega
  | k + 1, n, hk, h => by
    by_cases q : ∀ c ∈ cs, ¬ inT K (n - c) = true
    · exact ⟨n, 0, ⟨h, q⟩, .zero, (Int.add_zero n).symm⟩
    · have q' : ∃ c, c ∈ cs ∧ inT K (n - c) = true := by
        refine Classical.byContradiction fun z => q fun c hc y => z ⟨c, hc, y⟩
      obtain ⟨c, hc, hm⟩ := q'
      have h0 := I.W.cpos c hc
      obtain ⟨e, j, he, hj, eq⟩ := I.from hlo k (n - c) (by omega) hm
      exact ⟨e, j + c, he, hj.step hc, by omega⟩
theorem IT.low (I : IT cs T K) : ∃ lo, ∀ n, inT K n = true → lo ≤ n := ⟨minOf K, fun n h => by
  rw [I.inT_iff] at h
  exact Int.le_trans (minOf_le (nth_mem (by rw [I.len]; exact I.W.idx n))) h⟩
theorem IT.exists_needed (I : IT cs T K) : ∃ e, Needed K cs e := by
  obtain ⟨lo, hlo⟩ := I.low
  obtain ⟨e, _, he, _⟩ := I.from hlo ((nth K 0 - lo).toNat + 1) (nth K 0) (by omega) (I.entry I.W.pos)
  exact ⟨e, he⟩
theorem members_ne (I : IT cs T K) : membersOf K cs ≠ [] := fun h => by
  obtain ⟨e, he⟩ := I.exists_needed
  have := I.needed.mpr he
  rw [h] at this
  cases this
/-- the ideal with the needed members as starts is the ideal -/
theorem starts_members (I : IT cs T K) : startsOf T (membersOf K cs) = K := by
  have hl := I.W.len
  refine List.ext_getElem? fun r => ?_
  unfold startsOf
  by_cases hr : r < T.length
  · rw [List.getElem?_map, List.getElem?_range hr, List.getElem?_eq_getElem (by rw [I.len]; exact hr)]
    have eK : K[r]'(by rw [I.len]; exact hr) = nth K r := by
      unfold nth
      rw [List.getD_eq_getElem?_getD, List.getElem?_eq_getElem (by rw [I.len]; exact hr)]
      rfl
    rw [eK]
    show some _ = some _
    congr 1
    refine (minOf_eq ?_ ?_).symm
    · obtain ⟨lo, hlo⟩ := I.low
      obtain ⟨e, j, he, hj, eq⟩ := I.from hlo ((nth K r - lo).toNat + 1) (nth K r) (by omega) (I.entry hr)
      refine List.mem_map.mpr ⟨e, I.needed.mpr he, ?_⟩
      -- j is the entry of its remainder: else the entry of K would be less
      have h1 : ((r : Int) - e) % (T.length : Int) = j % (T.length : Int) := by
        have := I.rest r hr
        rw [← this, eq, Int.emod_sub_emod, show e + j - e = j by omega]
      rw [h1]
      have h2 := I.W.low j hj
      have h3 : inT K (e + nth T (j % (T.length : Int)).toNat) = true := I.ups he.1 (I.W.made _ (I.W.idx j))
      rw [I.inT_iff] at h3
      have h4 : (e + nth T (j % (T.length : Int)).toNat) % (T.length : Int) = r := by
        rw [Int.add_emod, I.W.nth_rest, ← Int.add_emod, ← eq, I.rest r hr]
      rw [h4, Int.toNat_natCast] at h3
      omega
    · intro y hy
      obtain ⟨s, hs, rfl⟩ := List.mem_map.mp hy
      have hn := I.needed.mp hs
      have h3 : inT K (s + nth T (((r : Int) - s) % (T.length : Int)).toNat) = true := I.ups hn.1 (I.W.made _ (I.W.idx _))
      rw [I.inT_iff] at h3
      have h4 : (s + nth T (((r : Int) - s) % (T.length : Int)).toNat) % (T.length : Int) = r := by
        rw [Int.add_emod, I.W.nth_rest, Int.add_emod_emod, Int.emod_add_emod, show s + ((r : Int) - s) = r by omega]
        exact Int.emod_eq_of_lt (by omega) (by omega)
      rw [h4, Int.toNat_natCast] at h3
      exact h3
  · rw [List.getElem?_eq_none (by rw [List.length_map, List.length_range]; omega), List.getElem?_eq_none (by rw [I.len]; omega)]
end
end CH

namespace CH
section
variable {cs T : List Int}
/-! ### the canonical ideal -/
theorem nth_mirror {F : Int} {r : Nat} (hr : r < T.length) : nth (mirrorOf T F) r = F + T.length - nth T ((F - (r : Int)) % (T.length : Int)).toNat := nth_range_map hr
theorem mirror_len {F : Int} : (mirrorOf T F).length = T.length := by
  unfold mirrorOf
  rw [List.length_map, List.length_range]
theorem mirror_in (W : WT cs T) {F n : Int} : inT (mirrorOf T F) n = true ↔ ¬ Made cs (F - n) := by
  have hl := W.len
  unfold inT
  rw [decide_eq_true_iff, mirror_len, nth_mirror (W.idx n), W.idx_eq, Int.sub_emod_emod, ← W.inT_iff]
  unfold inT
  rw [decide_eq_true_iff]
  have h2 := W.nth_rest (F - n)
  constructor
  · intro h q
    omega
  · intro h
    have h3 : (nth T ((F - n) % (T.length : Int)).toNat - (F - n)) % (T.length : Int) = 0 := by
      rw [Int.sub_emod, h2, Int.sub_self, Int.zero_emod]
    rcases Int.lt_or_le (nth T ((F - n) % (T.length : Int)).toNat) (F - n + T.length) with z | z
    · rw [Int.emod_eq_of_lt (by omega) (by omega)] at h3
      omega
    · omega
theorem mirror_ok (W : WT cs T) (F : Int) : IT cs T (mirrorOf T F) where
  W := W
  len := mirror_len
  rest := fun r hr => by
    have hl := W.len
    rw [nth_mirror hr, Int.sub_emod, Int.add_emod_right, W.nth_rest, ← Int.sub_emod]
    have e : F - (F - (r : Int)) = r := by omega
    rw [e]
    exact Int.emod_eq_of_lt (by omega) (by omega)
  up := fun n c hc h => by
    rw [mirror_in W] at h ⊢
    intro q
    refine h ?_
    have := q.step hc
    have e : F - (n + c) + c = F - n := by omega
    rwa [e] at this
theorem mirror_needed (W : WT cs T) {F e : Int} : Needed (mirrorOf T F) cs e ↔ IsPseudo cs (F - e) := by
  unfold Needed IsPseudo
  rw [mirror_in W]
  refine and_congr Iff.rfl (forall_congr' fun c => forall_congr' fun hc => ?_)
  rw [mirror_in W, Classical.not_not]
  have e1 : F - (e - c) = F - e + c := by omega
  rw [e1]
def canonOf (T : List Int) : List Int := mirrorOf T (lastOf T)
theorem canon_members (W : WT cs T) : membersOf (canonOf T) cs = isort ((pseudoOf cs T).map fun z => lastOf T - z) := by
  refine asc_eq (members_asc (mirror_ok W _)) (isort_asc ?_) fun x => ?_
  · refine List.pairwise_map.mpr ((pseudo_asc W).imp fun {a b} h => ?_)
    omega
  · rw [mem_isort, List.mem_map]
    unfold canonOf
    rw [(mirror_ok W _).needed, mirror_needed W, ← mem_pseudo W]
    constructor
    · intro h
      exact ⟨_, h, by omega⟩
    · rintro ⟨z, hz, rfl⟩
      have e : lastOf T - (lastOf T - z) = z := by omega
      rwa [e]
theorem canon_nonneg (W : WT cs T) {x : Int} (h : x ∈ membersOf (canonOf T) cs) : 0 ≤ x := by
  rw [canon_members W, mem_isort, List.mem_map] at h
  obtain ⟨z, hz, rfl⟩ := h
  have := ((mem_pseudo W).mp hz).le W
  omega
/-! ### how great the entries are -/
theorem countP_lt {l : List Int} {v w : Int} (hv : v ∈ l) (h : v < w) : l.countP (fun x => decide (x < v)) + 1 ≤ l.countP (fun x => decide (x < w)) := by
  induction l with
  | nil => cases hv
  | cons x l ih =>
    have mono : ∀ l : List Int, l.countP (fun x => decide (x < v)) ≤ l.countP (fun x => decide (x < w)) := fun l => by
      refine List.countP_mono_left fun y _ hy => ?_
      have := of_decide_eq_true hy
      exact decide_eq_true (by omega)
    rw [List.countP_cons, List.countP_cons]
    rcases List.mem_cons.mp hv with rfl | hv
    · have := mono l
      have e1 : decide (v < v) = false := decide_eq_false (by omega)
      have e2 : decide (v < w) = true := decide_eq_true h
      rw [e1, e2]
      simp only [Bool.false_eq_true, if_false, if_true]
      omega
    · have := ih hv
      by_cases hx : x < v
      · have e1 : decide (x < v) = true := decide_eq_true hx
        have e2 : decide (x < w) = true := decide_eq_true (by omega)
        rw [e1, e2]
        simp only [if_true]
        omega
      · have e1 : decide (x < v) = false := decide_eq_false hx
        rw [e1]
        simp only [Bool.false_eq_true, if_false]
        omega
theorem countP_self {l : List Int} {v : Int} (hv : v ∈ l) : l.countP (fun x => decide (x < v)) + 1 ≤ l.length := by
  have h := countP_lt hv (w := v + 1) (by omega)
  exact Nat.le_trans h List.countP_le_length
theorem entry_bound (W : WT cs T) {b : Int} (hb : ∀ c ∈ cs, c ≤ b) : ∀ (k : Nat) (r : Nat), r < T.length → nth T r ≤ k → nth T r ≤ (T.countP (fun x => decide (x < nth T r)) : Int) * b
  | k, r, hr, hk => by
    have hl := W.len
    have b0 : 0 < b := by
      have h1 := hb _ W.mem
      omega
    have hm := W.made r hr
    rcases hm.last with e | ⟨n, c, hn, hc, e⟩
    · rw [e]
      exact Int.mul_nonneg (by omega) (by omega)
    · -- n is an entry itself: else the entry of r would be less
      have hcp := W.cpos c hc
      have h0 := hn.nonneg W.cpos
      cases k with
      | zero => omega
      | succ k =>
        have h1 := W.low n hn
        have h2 : nth T r ≤ nth T (n % (T.length : Int)).toNat + c := by
          refine W.nth_le ((W.made _ (W.idx n)).step hc) ?_
          rw [Int.add_emod, W.nth_rest, ← Int.add_emod, ← e, W.rest r hr]
        have h3 : n = nth T (n % (T.length : Int)).toNat := by omega
        have ih := entry_bound W hb k (n % (T.length : Int)).toNat (W.idx n) (by omega)
        have h4 := countP_lt (nth_mem (W.idx n)) (w := nth T r) (by omega)
        have h5 := hb c hc
        have h6 : ((T.countP (fun x => decide (x < nth T (n % (T.length : Int)).toNat)) : Nat) + 1 : Int) * b ≤ (T.countP (fun x => decide (x < nth T r)) : Int) * b :=
          Int.mul_le_mul_of_nonneg_right (by omega) (by omega)
        rw [Int.add_mul, Int.one_mul] at h6
        omega
theorem last_bound (W : WT cs T) {b : Int} (hb : ∀ c ∈ cs, c ≤ b) : lastOf T ≤ ((T.length : Int) - 1) * b - T.length := by
  obtain ⟨r, hr, e⟩ := mem_nth (maxOf_mem (List.ne_nil_of_length_pos W.pos))
  have hl := W.len
  have h0 := (W.made r hr).nonneg W.cpos
  have h1 := entry_bound W hb (nth T r).toNat r hr (by omega)
  have h2 := countP_self (nth_mem hr)
  have b0 : 0 < b := by
    have h1 := hb _ W.mem
    omega
  have h3 : (T.countP (fun x => decide (x < nth T r)) : Int) * b ≤ ((T.length : Int) - 1) * b := Int.mul_le_mul_of_nonneg_right (by omega) (by omega)
  unfold lastOf
  omega
end
/-! ### the law's own list of made numbers -/
def bget (m : List Bool) (i : Nat) : Bool := m.getD i false
theorem bget_set {m : List Bool} {i j : Nat} {b : Bool} (hj : j < m.length) : bget (m.set j b) i = if i = j then b else bget m i := by
  unfold bget
  rw [List.getD_eq_getElem?_getD, List.getD_eq_getElem?_getD, List.getElem?_set]
  by_cases h : j = i
  · subst h
    rw [if_pos rfl, if_pos hj, if_pos rfl]
    rfl
  · rw [if_neg h, if_neg (fun z => h z.symm)]
def lmIn (n : Int) (m : List Bool) (c : Int) : List Bool := if c ≤ n ∧ bget m (n - c).toNat = true then m.set n.toNat true else m
def lmOut (cs : List Int) (m : List Bool) (n : Int) : List Bool := cs.foldl (lmIn n) m
def lmRun (cs : List Int) (top : Nat) : Nat → List Bool
  | 0 => true :: List.replicate top false
  | k + 1 => lmOut cs (lmRun cs top k) (1 + (k : Int))
theorem lmOut_len (n : Int) : ∀ (cs : List Int) (m : List Bool), (lmOut cs m n).length = m.length := by
  intro cs
  induction cs with
  | nil => intro _; rfl
  | cons c cs ih =>
    intro m
    show (lmOut cs (lmIn n m c) n).length = _
    rw [ih]
    unfold lmIn
    split
    · rw [List.length_set]
    · rfl
theorem lmRun_len {cs : List Int} {top : Nat} : ∀ k, (lmRun cs top k).length = top + 1
  | 0 => by
    show (true :: List.replicate top false).length = _
    rw [List.length_cons, List.length_replicate]
  | k + 1 => by
    show (lmOut _ _ _).length = _
    rw [lmOut_len, lmRun_len k]
theorem lmOut_ok {all : List Int} {n : Int} (hn : 1 ≤ n) : ∀ (cs : List Int) (m : List Bool), (∀ c ∈ cs, c ∈ all) → (∀ c ∈ all, 0 < c) → n < m.length →
    (∀ i : Nat, (i : Int) < n → (bget m i = true ↔ Made all i)) → (bget m n.toNat = true → Made all n) →
    (∀ i : Nat, (i : Int) ≠ n → bget (lmOut cs m n) i = bget m i) ∧ (bget (lmOut cs m n) n.toNat = true → Made all n) ∧ ((bget m n.toNat = true ∨ ∃ c ∈ cs, Made all (n - c)) → bget (lmOut cs m n) n.toNat = true) := by
  intro cs
  induction cs with
  | nil =>
    intro m _ _ _ _ h
    refine ⟨fun _ _ => rfl, h, fun q => ?_⟩
    rcases q with q | ⟨c, hc, _⟩
    · exact q
    · cases hc
  | cons c cs ih =>
    intro m hs hp hl hlow hat
    have hc := hs c (List.mem_cons_self ..)
    have c0 := hp c hc
    have hset : lmIn n m c = m ∨ (lmIn n m c = m.set n.toNat true ∧ Made all n) := by
      unfold lmIn
      split
      · rename_i q
        refine .inr ⟨rfl, ?_⟩
        have h1 := (hlow (n - c).toNat (by omega)).mp q.2
        rw [Int.toNat_of_nonneg (by omega)] at h1
        have := h1.step hc
        have e : n - c + c = n := by omega
        rwa [e] at this
      · exact .inl rfl
    have key : (∀ i : Nat, (i : Int) ≠ n → bget (lmIn n m c) i = bget m i) ∧ (lmIn n m c).length = m.length ∧ (bget (lmIn n m c) n.toNat = true → Made all n) := by
      rcases hset with e | ⟨e, hm⟩
      · rw [e]; exact ⟨fun _ _ => rfl, rfl, hat⟩
      · rw [e]
        refine ⟨fun i hi => ?_, List.length_set, fun _ => hm⟩
        rw [bget_set (by omega), if_neg (by omega)]
    obtain ⟨k1, k2, k3⟩ := key
    obtain ⟨r1, r2, r3⟩ := ih (lmIn n m c) (fun d hd => hs d (List.mem_cons_of_mem _ hd)) hp (by rw [k2]; exact hl) (fun i hi => by rw [k1 i (by omega)]; exact hlow i hi) k3
    refine ⟨fun i hi => (r1 i hi).trans (k1 i hi), r2, fun q => r3 ?_⟩
    have stay : bget m n.toNat = true → bget (lmIn n m c) n.toNat = true := fun h => by
      rcases hset with e | ⟨e, _⟩
      · rw [e]; exact h
      · rw [e, bget_set (by omega), if_pos rfl]
    rcases q with q | ⟨d, hd, q⟩
    · exact .inl (stay q)
    · rcases List.mem_cons.mp hd with rfl | hd
      · refine .inl ?_
        have h0 := q.nonneg hp
        have h1 : bget m (n - d).toNat = true := (hlow (n - d).toNat (by omega)).mpr (by rw [Int.toNat_of_nonneg h0]; exact q)
        unfold lmIn
        rw [if_pos ⟨by omega, h1⟩, bget_set (by omega), if_pos rfl]
      · exact .inr ⟨d, hd, q⟩
theorem lmRun_ok {cs : List Int} {top : Nat} (hp : ∀ c ∈ cs, 0 < c) : ∀ k, k ≤ top → (∀ i : Nat, i ≤ k → (bget (lmRun cs top k) i = true ↔ Made cs i)) ∧ ∀ i : Nat, k < i → bget (lmRun cs top k) i = false
  | 0, _ => by
    refine ⟨fun i hi => ?_, fun i hi => ?_⟩
    · have : i = 0 := by omega
      subst this
      exact ⟨fun _ => .zero, fun _ => rfl⟩
    · show bget (true :: List.replicate top false) i = false
      unfold bget
      cases i with
      | zero => omega
      | succ i =>
        rw [List.getD_eq_getElem?_getD, List.getElem?_cons_succ, List.getElem?_replicate]
        split <;> rfl
  | k + 1, hk => by
    obtain ⟨h1, h2⟩ := lmRun_ok (top := top) hp k (by omega)
    have e1 : (1 + (k : Int)).toNat = k + 1 := by omega
    obtain ⟨r1, r2, r3⟩ := lmOut_ok (all := cs) (n := 1 + (k : Int)) (by omega) cs (lmRun cs top k) (fun _ h => h) hp (by rw [lmRun_len]; omega) (fun i hi => h1 i (by omega)) (fun q => by
      rw [e1, h2 (k + 1) (by omega)] at q
      cases q)
    have es : lmRun cs top (k + 1) = lmOut cs (lmRun cs top k) (1 + (k : Int)) := rfl
    refine ⟨fun i hi => ?_, fun i hi => ?_⟩
    · by_cases q : i = k + 1
      · rw [es, q]
        have e2 : ((k + 1 : Nat) : Int) = 1 + (k : Int) := by omega
        rw [e2]
        rw [e1] at r2 r3
        refine ⟨r2, fun hm => r3 (.inr ?_)⟩
        rcases hm.last with z | ⟨n, c, hn, hc, z⟩
        · omega
        · exact ⟨c, hc, by rw [z]; have e : n + c - c = n := by omega
                           rw [e]; exact hn⟩
      · rw [es, r1 i (by omega)]
        exact h1 i (by omega)
    · rw [es, r1 i (by omega)]
      exact h2 i (by omega)
def listMade (cs : List Int) (top : Nat) : List Bool := lmRun cs top top
theorem listMade_ok {cs : List Int} {top : Nat} (hp : ∀ c ∈ cs, 0 < c) {i : Nat} (hi : i ≤ top) : bget (listMade cs top) i = true ↔ Made cs i := (lmRun_ok hp top (Nat.le_refl _)).1 i hi
theorem listMade_len {cs : List Int} {top : Nat} : (listMade cs top).length = top + 1 := lmRun_len top
/-! ### the last hole -/
def lastHole (m : List Bool) : Nat → Int
  | 0 => -1
  | k + 1 => if bget m k = true then lastHole m k else (k : Int)
theorem lastHole_ok (m : List Bool) : ∀ k, (-1 ≤ lastHole m k ∧ lastHole m k < k) ∧ (∀ i : Nat, i < k → lastHole m k < i → bget m i = true) ∧ (lastHole m k ≠ -1 → bget m (lastHole m k).toNat = false)
  | 0 => ⟨⟨Int.le_refl _, by show (-1 : Int) < 0; decide⟩, fun i h => absurd h (Nat.not_lt_zero _), fun h => absurd rfl h⟩
  | k + 1 => by
    obtain ⟨h1, h2, h3⟩ := lastHole_ok m k
    unfold lastHole
    split
    · rename_i q
      refine ⟨⟨h1.1, by omega⟩, fun i hi hl => ?_, h3⟩
      by_cases e : i = k
      · rw [e]; exact q
      · exact h2 i (by omega) hl
    · rename_i q
      refine ⟨⟨by omega, by omega⟩, fun i hi hl => by omega, fun _ => ?_⟩
      rw [Int.toNat_natCast]
      exact Bool.eq_false_iff.mpr q
theorem lastHole_eq {cs T : List Int} (W : WT cs T) {m : List Bool} {top : Nat} (hm : m.length = top + 1) (ok : ∀ i : Nat, i ≤ top → (bget m i = true ↔ Made cs i)) (ht : lastOf T ≤ top) : lastHole m m.length = lastOf T := by
  obtain ⟨⟨h1, h4⟩, h2, h3⟩ := lastHole_ok m m.length
  have g1 := W.last_ge
  rcases Int.lt_trichotomy (lastHole m m.length) (lastOf T) with q | q | q
  · exfalso
    have h5 := h2 (lastOf T).toNat (by omega) (by omega)
    have h6 := (ok (lastOf T).toNat (by omega)).mp h5
    rw [Int.toNat_of_nonneg (by omega)] at h6
    exact W.last_not h6
  · exact q
  · exfalso
    have h5 := h3 (by omega)
    have h6 := (ok (lastHole m m.length).toNat (by omega)).mpr (by rw [Int.toNat_of_nonneg (by omega)]; exact W.above q)
    rw [h5] at h6
    cases h6
/-! ### the law's own pseudo-holes -/
def zrange (lo hi : Int) : List Int := (List.range (hi - lo).toNat).map fun (i : Nat) => lo + i
theorem mem_zrange {lo hi z : Int} : z ∈ zrange lo hi ↔ lo ≤ z ∧ z < hi := by
  unfold zrange
  rw [List.mem_map]
  constructor
  · rintro ⟨i, hi, rfl⟩
    have := List.mem_range.mp hi
    omega
  · rintro ⟨h1, h2⟩
    exact ⟨(z - lo).toNat, List.mem_range.mpr (by omega), by omega⟩
theorem zrange_asc {lo hi : Int} : (zrange lo hi).Pairwise (· < ·) := by
  unfold zrange
  refine List.pairwise_map.mpr (List.pairwise_lt_range.imp fun {a b} h => ?_)
  omega
def dueB (m : List Bool) (last z : Int) : Bool := (decide (z < 0) || !bget m z.toNat) && ((zrange 1 (last - z + 1)).filter fun n => bget m n.toNat).all fun n => decide (z + n ≥ 0) && bget m (z + n).toNat
def duePseudo (m : List Bool) (least last : Int) : List Int := (zrange (0 - least - 2) (last + 1)).filter (dueB m last)
theorem duePseudo_eq {cs T : List Int} (W : WT cs T) {m : List Bool} {top : Nat} (ok : ∀ i : Nat, i ≤ top → (bget m i = true ↔ Made cs i)) (ht : lastOf T + T.length + 2 ≤ top) : duePseudo m T.length (lastOf T) = pseudoOf cs T := by
  have hl := W.len
  have bm : ∀ n : Int, 0 ≤ n → n ≤ top → (bget m n.toNat = true ↔ Made cs n) := fun n h0 h1 => by
    rw [ok n.toNat (by omega), Int.toNat_of_nonneg h0]
  refine asc_eq (List.Pairwise.filter _ zrange_asc) (pseudo_asc W) fun z => ?_
  unfold duePseudo
  rw [mem_pseudo W, List.mem_filter, mem_zrange]
  unfold dueB
  rw [Bool.and_eq_true, Bool.or_eq_true, decide_eq_true_iff, Bool.not_eq_true', List.all_eq_true]
  constructor
  · rintro ⟨⟨z1, z2⟩, h1, h2⟩
    have hz : ¬ Made cs z := fun q => by
      rcases h1 with h1 | h1
      · have := q.nonneg W.cpos
        omega
      · have := q.nonneg W.cpos
        rw [(bm z (by omega) (by omega)).mpr q] at h1
        cases h1
    have all : ∀ n, Made cs n → 0 < n → Made cs (z + n) := fun n hn h0 => by
      rcases Int.lt_or_le (lastOf T) (z + n) with q | q
      · exact W.above q
      · have := h2 n (List.mem_filter.mpr ⟨mem_zrange.mpr ⟨by omega, by omega⟩, (bm n (by omega) (by omega)).mpr hn⟩)
        rw [Bool.and_eq_true, decide_eq_true_iff] at this
        exact (bm _ this.1 (by omega)).mp this.2
    exact ⟨hz, fun c hc => all c (.coin hc) (W.cpos c hc)⟩
  · intro h
    have g1 := h.ge W
    have g2 := h.le W
    refine ⟨⟨by omega, by omega⟩, ?_, fun n hn => ?_⟩
    · by_cases q : z < 0
      · exact .inl q
      · refine .inr ?_
        cases e : bget m z.toNat with
        | false => rfl
        | true => exact absurd ((bm z (by omega) (by omega)).mp e) h.1
    · obtain ⟨hr, hb⟩ := List.mem_filter.mp hn
      rw [mem_zrange] at hr
      have hm := (bm n (by omega) (by omega)).mp hb
      have hs := h.sums hm (by omega)
      have h0 := hs.nonneg W.cpos
      rw [Bool.and_eq_true, decide_eq_true_iff]
      exact ⟨h0, (bm _ h0 (by omega)).mpr hs⟩
end CH

namespace CH
/-! ### sorted(set(xs)) -/
def dedup : List Int → List Int
  | [] => []
  | x :: l => if x ∈ dedup l then dedup l else x :: dedup l
theorem mem_dedup : ∀ {l : List Int} {x : Int}, x ∈ dedup l ↔ x ∈ l
  | [], x => by simp [dedup]
  | y :: l, x => by
    unfold dedup
    split
    · rename_i h
      rw [mem_dedup, List.mem_cons]
      have hy : y ∈ l := mem_dedup.mp h
      constructor
      · exact .inr
      · rintro (rfl | h2)
        · exact hy
        · exact h2
    · rw [List.mem_cons, List.mem_cons, mem_dedup]
theorem nodup_dedup : ∀ {l : List Int}, (dedup l).Nodup
  | [] => by simp [dedup]
  | y :: l => by
    unfold dedup
    split
    · exact nodup_dedup
    · rename_i h
      exact List.nodup_cons.mpr ⟨h, nodup_dedup⟩
theorem dedup_len : ∀ {l : List Int}, (dedup l).length ≤ l.length
  | [] => by simp [dedup]
  | y :: l => by
    unfold dedup
    have := dedup_len (l := l)
    split
    · rw [List.length_cons]; omega
    · rw [List.length_cons, List.length_cons]; omega
def uniq (l : List Int) : List Int := isort (dedup l)
theorem mem_uniq {l : List Int} {x : Int} : x ∈ uniq l ↔ x ∈ l := mem_isort.trans mem_dedup
theorem uniq_asc (l : List Int) : (uniq l).Pairwise (· < ·) := isort_asc nodup_dedup
theorem uniq_eq {a l : List Int} (h : a.Pairwise (· < ·)) (m : ∀ x, x ∈ a ↔ x ∈ l) : a = uniq l := asc_eq h (uniq_asc l) fun x => (m x).trans mem_uniq.symm
theorem uniq_len {l : List Int} : (uniq l).length ≤ l.length := by
  unfold uniq
  rw [(isort_perm _).length_eq]
  exact dedup_len
theorem uniq_ne {l : List Int} (h : l ≠ []) : uniq l ≠ [] := by
  obtain ⟨x, hx⟩ := List.exists_mem_of_ne_nil l h
  exact List.ne_nil_of_mem (mem_uniq.mpr hx)
theorem uniq_congr {a b : List Int} (h : ∀ x, x ∈ a ↔ x ∈ b) : uniq a = uniq b := uniq_eq (uniq_asc a) fun x => mem_uniq.trans (h x)
theorem uniq_self {a : List Int} (h : a.Pairwise (· < ·)) : uniq a = a := (uniq_eq h fun _ => Iff.rfl).symm
/-- the first, the last of a list -/
def fst (l : List Int) : Int := l.headD 0
def lst (l : List Int) : Int := l.getLastD 0
theorem fst_min {l : List Int} (h : l.Pairwise (· < ·)) (n : l ≠ []) : fst l ∈ l ∧ ∀ x ∈ l, fst l ≤ x := by
  cases l with
  | nil => exact absurd rfl n
  | cons y l =>
    refine ⟨List.mem_cons_self, fun x hx => ?_⟩
    rcases List.mem_cons.mp hx with rfl | hx
    · exact Int.le_refl _
    · exact Int.le_of_lt ((List.pairwise_cons.mp h).1 x hx)
theorem lst_max {l : List Int} (h : l.Pairwise (· < ·)) (n : l ≠ []) : lst l ∈ l ∧ ∀ x ∈ l, x ≤ lst l := by
  have e : lst l = l.getLast n := by
    unfold lst
    rw [List.getLastD_eq_getLast?, List.getLast?_eq_some_getLast n] <;> rfl
  rw [e]
  refine ⟨List.getLast_mem n, fun x hx => ?_⟩
  have hd := List.dropLast_concat_getLast n
  rw [← hd] at hx
  rcases List.mem_append.mp hx with hx | hx
  · have h2 := h
    rw [← hd] at h2
    have := (List.pairwise_append.mp h2).2.2 x hx (l.getLast n) (List.mem_singleton.mpr rfl)
    omega
  · rw [List.mem_singleton.mp hx] <;> exact Int.le_refl _
/-! ### the lot of coins -/
def leastOf (cs : List Int) : Int := fst (uniq cs)
/-- a lot that is told without error -/
structure LotOk (cs : List Int) : Prop where
  ne : cs ≠ []
  len : cs.length ≤ 64
  pos : ∀ c ∈ cs, 1 ≤ c
  le : ∀ c ∈ cs, c ≤ 10 ^ 12
  least : fst (uniq cs) ≤ 64
theorem LotOk.mpos {cs : List Int} (h : LotOk cs) : 1 ≤ fst (uniq cs) := h.pos _ (mem_uniq.mp (fst_min (uniq_asc cs) (uniq_ne h.ne)).1)
def tabOf (cs : List Int) : List (Option Int) := tableOf (uniq cs) (fst (uniq cs)).toNat
end CH

namespace CH
/-! ### the law's own lists -/
def grainStep (cs : List Int) (g : Int) (i : Nat) : Int := if (cs.all fun c => decide (c % (1 + (i : Int)) = 0)) = true then 1 + (i : Int) else g
def grainOf (cs : List Int) : Int := (List.range (minOf cs).toNat).foldl (grainStep cs) 1
theorem grain_run (cs : List Int) : ∀ n : Nat, 1 ≤ (List.range n).foldl (grainStep cs) 1 ∧ ((List.range n).foldl (grainStep cs) 1 ≤ max 1 (n : Int)) ∧ ∀ d : Int, 1 ≤ d → d ≤ n → (∀ c ∈ cs, c % d = 0) → d ≤ (List.range n).foldl (grainStep cs) 1
  | 0 => ⟨Int.le_refl _, Int.le_max_left _ _, fun d h1 h2 _ => by have : d ≤ 0 := h2; omega⟩
  | n + 1 => by
    obtain ⟨h1, h0, h2⟩ := grain_run cs n
    rw [List.range_succ, List.foldl_append]
    show 1 ≤ grainStep cs _ n ∧ grainStep cs _ n ≤ _ ∧ ∀ d : Int, 1 ≤ d → d ≤ _ → _ → d ≤ grainStep cs _ n
    generalize (List.range n).foldl (grainStep cs) 1 = g at *
    unfold grainStep
    split
    · exact ⟨by omega, by omega, fun d _ h _ => by omega⟩
    · rename_i q
      refine ⟨h1, by omega, fun d a b c => ?_⟩
      by_cases e : d = 1 + (n : Int)
      · exfalso
        apply q
        rw [List.all_eq_true]
        intro x hx
        rw [← e]
        exact decide_eq_true (c x hx)
      · exact h2 d a (by omega) c
theorem grain_apart {cs : List Int} (ne : cs ≠ []) (hp : ∀ c ∈ cs, 0 < c) (h : ¬ grainOf cs > 1) : Apart cs := fun d h1 hd => by
  have hm := minOf_mem ne
  have hle : d ≤ minOf cs := Int.le_of_dvd (hp _ hm) (hd _ hm)
  have := (grain_run cs (minOf cs).toNat).2.2 d h1 (by have := hp _ hm; omega) fun c hc => Int.emod_eq_zero_of_dvd (hd c hc)
  unfold grainOf at h
  omega
theorem apart_next {cs : List Int} {m : Int} (hm : m ∈ cs) : Apart (cs ++ [m + 1]) := fun d h1 hd => by
  have a := hd m (List.mem_append_left _ hm)
  have b := hd (m + 1) (List.mem_append_right _ (List.mem_singleton.mpr rfl))
  have c := Int.dvd_sub b a
  have e : m + 1 - m = 1 := by omega
  rw [e] at c
  have := Int.le_of_dvd (by decide) c
  omega
theorem apart_prev {cs : List Int} {m : Int} (hm : m ∈ cs) : Apart (cs ++ [m - 1]) := fun d h1 hd => by
  have a := hd m (List.mem_append_left _ hm)
  have b := hd (m - 1) (List.mem_append_right _ (List.mem_singleton.mpr rfl))
  have c := Int.dvd_sub a b
  have e : m - (m - 1) = 1 := by omega
  rw [e] at c
  have := Int.le_of_dvd (by decide) c
  omega
theorem apart_congr {a b : List Int} (h : ∀ x, x ∈ a ↔ x ∈ b) (A : Apart a) : Apart b := fun d h1 hd => A d h1 fun c hc => hd c ((h c).mp hc)
theorem apart_more {a b : List Int} (h : ∀ x ∈ a, x ∈ b) (A : Apart a) : Apart b := fun d h1 hd => A d h1 fun c hc => hd c (h c hc)
/-! ### drawn coins -/
def drawCell (ns : List Int) (at_ k : Nat) : Int := 2 + (nth ns (at_ + 1 + k) + 2 + 3 * (k : Int)) % 15
def drawMany (ns : List Int) (at_ : Nat) : Int := 2 + nth ns at_ % 4
def draw0 (ns : List Int) (at_ : Nat) : List Int := (List.range (drawMany ns at_).toNat).map (drawCell ns at_)
def draw1 (ns : List Int) (at_ : Nat) : List Int := if nth ns at_ / 4 % 7 = 3 then draw0 ns at_ ++ [1] else draw0 ns at_
def apartUp (cs : List Int) : List Int := if grainOf cs > 1 then cs ++ [maxOf cs + 1] else cs
def apartDn (cs : List Int) : List Int := if grainOf cs > 1 then cs ++ [maxOf cs - 1] else cs
def drawCoins (ns : List Int) (at_ : Nat) : List Int := apartUp (draw1 ns at_)
def farCoin (cell least : Int) : Int := if cell % 3 = 0 then 10 ^ 12 - cell / 3 % 1000 else if cell % 3 = 1 then least + 1 + cell / 3 % 1000 else least + 1 + cell / 3 % (10 ^ 12 - least)
def farLeast (ns : List Int) (at_ : Nat) : Int := 2 + (nth ns at_ + 5) % 63
def farKind (ns : List Int) (at_ : Nat) : Int := nth ns at_ / 63 % 4
def farStep (ns : List Int) (at_ : Nat) : Int := farLeast ns at_ * (nth ns (at_ + 1) % 10 ^ 8) + 1
def far64 (ns : List Int) (at_ : Nat) : List Int := (List.range 64).map fun (k : Nat) => farLeast ns at_ + (k : Int) * farStep ns at_
def far0 (ns : List Int) (at_ : Nat) : List Int := ((List.range (1 + farKind ns at_).toNat).map fun k => farCoin (nth ns (at_ + 1 + k)) (farLeast ns at_)) ++ [farLeast ns at_]
def drawFar (ns : List Int) (at_ : Nat) : List Int := if farKind ns at_ = 3 then far64 ns at_ else apartDn (far0 ns at_)
/-! ### the nearest road -/
def nearStep (base : List Int) (done : List Bool) (h : Int) (i : Nat) : Int := if 0 ≤ nth base i ∧ bget done i = false then (if h < 0 ∨ nth base i < nth base h.toNat then (i : Int) else h) else h
def nearest (base : List Int) (done : List Bool) : Int := (List.range base.length).foldl (nearStep base done) (-1)
def rel1 (here : Nat) (base : List Int) (c : Int) : List Int :=
  if nth base ((((here : Int) + c) % (base.length : Int)).toNat) < 0 ∨ nth base here + c < nth base ((((here : Int) + c) % (base.length : Int)).toNat) then base.set (((here : Int) + c) % (base.length : Int)).toNat (nth base here + c) else base
def dijStep (cs : List Int) (s : List Int × List Bool) : List Int × List Bool :=
  if 0 ≤ nearest s.1 s.2 then (cs.foldl (rel1 (nearest s.1 s.2).toNat) s.1, s.2.set (nearest s.1 s.2).toNat true) else s
def dijRun (cs : List Int) (m : Nat) : Nat → List Int × List Bool
  | 0 => (0 :: List.replicate (m - 1) (-1), List.replicate m false)
  | k + 1 => dijStep cs (dijRun cs m k)
def baseOf (cs : List Int) : List Int := (dijRun cs (minOf cs).toNat (minOf cs).toNat).1
def farPseudo (base cs : List Int) : List Int := isort ((base.filter fun e => cs.all fun c => !decide (nth base ((e - base.length + c) % (base.length : Int)).toNat > e - base.length + c)).map fun e => e - base.length)
/-! ### holes below pseudo-holes -/
def belowB (m : List Bool) (due : List Int) (last : Int) : Bool := (zrange 1 (last + 1)).all fun h => bget m h.toNat || due.any fun z => decide (h ≤ z) && bget m (z - h).toNat
end CH

namespace CH
/-! ### the nearest road finds the table -/
theorem nth_set {B : List Int} {i j : Nat} {v : Int} (hj : j < B.length) : nth (B.set j v) i = if i = j then v else nth B i := by
  unfold nth
  rw [List.getD_eq_getElem?_getD, List.getD_eq_getElem?_getD, List.getElem?_set]
  by_cases h : j = i
  · subst h
    rw [if_pos rfl, if_pos rfl, if_pos hj] <;> rfl
  · rw [if_neg h, if_neg (fun z => h z.symm)]
/-- what nearest tells -/
theorem near_ok (B : List Int) (Dn : List Bool) : ∀ n : Nat, ((List.range n).foldl (nearStep B Dn) (-1) = -1 ∧ ∀ i : Nat, i < n → ¬ (0 ≤ nth B i ∧ bget Dn i = false)) ∨
    ∃ h : Nat, (List.range n).foldl (nearStep B Dn) (-1) = (h : Int) ∧ h < n ∧ 0 ≤ nth B h ∧ bget Dn h = false ∧ ∀ i : Nat, i < n → 0 ≤ nth B i → bget Dn i = false → nth B h ≤ nth B i
  | 0 => .inl ⟨rfl, fun i h => absurd h (Nat.not_lt_zero _)⟩
  | n + 1 => by
    have ih := near_ok B Dn n
    rw [List.range_succ, List.foldl_append]
    show (nearStep B Dn _ n = -1 ∧ _) ∨ ∃ h : Nat, nearStep B Dn _ n = (h : Int) ∧ _
    generalize (List.range n).foldl (nearStep B Dn) (-1) = g at *
    unfold nearStep
    by_cases hc : 0 ≤ nth B n ∧ bget Dn n = false
    · rw [if_pos hc]
      rcases ih with ⟨rfl, no⟩ | ⟨h, rfl, h1, h2, h3, h4⟩
      · right
        refine ⟨n, if_pos (.inl (by decide)), by omega, hc.1, hc.2, fun i hi b1 b2 => ?_⟩
        by_cases e : i = n
        · rw [e] <;> exact Int.le_refl _
        · exact absurd ⟨b1, b2⟩ (no i (by omega))
      · right
        by_cases lt : nth B n < nth B h
        · refine ⟨n, if_pos (.inr (by rw [Int.toNat_natCast]; exact lt)), by omega, hc.1, hc.2, fun i hi b1 b2 => ?_⟩
          by_cases e : i = n
          · rw [e] <;> exact Int.le_refl _
          · have := h4 i (by omega) b1 b2
            omega
        · refine ⟨h, if_neg (by rw [Int.toNat_natCast]; omega), by omega, h2, h3, fun i hi b1 b2 => ?_⟩
          by_cases e : i = n
          · rw [e] <;> omega
          · exact h4 i (by omega) b1 b2
    · rw [if_neg hc]
      rcases ih with ⟨rfl, no⟩ | ⟨h, rfl, h1, h2, h3, h4⟩
      · left
        refine ⟨rfl, fun i hi => ?_⟩
        by_cases e : i = n
        · rw [e]; exact hc
        · exact no i (by omega)
      · right
        refine ⟨h, rfl, by omega, h2, h3, fun i hi b1 b2 => ?_⟩
        by_cases e : i = n
        · rw [e] at b1 b2
          exact absurd ⟨b1, b2⟩ hc
        · exact h4 i (by omega) b1 b2
/-- a base whose entries are made -/
structure GoodB (cs : List Int) (m : Nat) (B : List Int) : Prop where
  len : B.length = m
  ok : ∀ r, r < m → nth B r = -1 ∨ (Made cs (nth B r) ∧ nth B r % (m : Int) = r)
structure LeB (m : Nat) (B' B : List Int) : Prop where
  le : ∀ r, r < m → 0 ≤ nth B r → 0 ≤ nth B' r ∧ nth B' r ≤ nth B r
theorem LeB.refl (m : Nat) (B : List Int) : LeB m B B := ⟨fun r _ h => ⟨h, Int.le_refl _⟩⟩
theorem LeB.trans {m : Nat} {a b c : List Int} (h1 : LeB m a b) (h2 : LeB m b c) : LeB m a c := ⟨fun r hr h => by
  obtain ⟨x1, x2⟩ := h2.le r hr h
  obtain ⟨y1, y2⟩ := h1.le r hr x1
  exact ⟨y1, by omega⟩⟩
section
variable {cs T : List Int}
theorem GoodB.low (W : WT cs T) {B : List Int} (g : GoodB cs T.length B) {r : Nat} (hr : r < T.length) (h : 0 ≤ nth B r) : nth T r ≤ nth B r := by
  rcases g.ok r hr with e | ⟨e, e2⟩
  · omega
  · exact W.nth_le e e2
theorem rel1_ok (W : WT cs T) {B : List Int} (g : GoodB cs T.length B) {here : Nat} (hh : here < T.length) (h0 : nth B here = nth T here) {c : Int} (hc : c ∈ cs) :
    GoodB cs T.length (rel1 here B c) ∧ LeB T.length (rel1 here B c) B ∧ (0 ≤ nth (rel1 here B c) (((here : Int) + c) % (T.length : Int)).toNat ∧ nth (rel1 here B c) (((here : Int) + c) % (T.length : Int)).toNat ≤ nth T here + c) := by
  have cp := W.cpos c hc
  have i1 := W.idx ((here : Int) + c)
  have e1 := W.idx_eq ((here : Int) + c)
  have mt := W.made here hh
  have mr := W.rest here hh
  unfold rel1
  rw [g.len, h0]
  generalize (((here : Int) + c) % (T.length : Int)).toNat = th at *
  have pos : 0 ≤ nth T here := mt.nonneg W.cpos
  split
  · rename_i q
    refine ⟨⟨by rw [List.length_set]; exact g.len, fun r hr => ?_⟩, ⟨fun r hr h => ?_⟩, ?_⟩
    · rw [nth_set (by rw [g.len]; exact i1)]
      split
      · rename_i e
        right
        refine ⟨mt.add (Made.coin hc), ?_⟩
        rw [e, e1, Int.add_emod (nth T here) c, mr, Int.add_emod (here : Int) c, Int.emod_eq_of_lt (a := (here : Int)) (by omega) (by omega)]
      · exact g.ok r hr
    · rw [nth_set (by rw [g.len]; exact i1)]
      split
      · rename_i e
        subst e
        omega
      · exact ⟨h, Int.le_refl _⟩
    · rw [nth_set (by rw [g.len]; exact i1), if_pos rfl]
      omega
  · rename_i q
    exact ⟨g, LeB.refl _ _, by omega⟩
theorem rels_ok (W : WT cs T) {here : Nat} (hh : here < T.length) : ∀ (xs : List Int) (B : List Int), (∀ c ∈ xs, c ∈ cs) → GoodB cs T.length B → nth B here = nth T here →
    GoodB cs T.length (xs.foldl (rel1 here) B) ∧ LeB T.length (xs.foldl (rel1 here) B) B ∧ nth (xs.foldl (rel1 here) B) here = nth T here ∧
      ∀ c ∈ xs, 0 ≤ nth (xs.foldl (rel1 here) B) (((here : Int) + c) % (T.length : Int)).toNat ∧ nth (xs.foldl (rel1 here) B) (((here : Int) + c) % (T.length : Int)).toNat ≤ nth T here + c
  | [], B, _, g, h0 => ⟨g, LeB.refl _ _, h0, fun c hc => by cases hc⟩
  | x :: xs, B, hs, g, h0 => by
    obtain ⟨g1, l1, v1⟩ := rel1_ok W g hh h0 (hs x List.mem_cons_self)
    have pos : 0 ≤ nth B here := by rw [h0]; exact (W.made here hh).nonneg W.cpos
    have h1 : nth (rel1 here B x) here = nth T here := by
      obtain ⟨a, b⟩ := l1.le here hh pos
      have := g1.low W hh a
      omega
    obtain ⟨g2, l2, h2, v2⟩ := rels_ok W hh xs (rel1 here B x) (fun c hc => hs c (List.mem_cons_of_mem _ hc)) g1 h1
    refine ⟨g2, l2.trans l1, h2, fun c hc => ?_⟩
    rcases List.mem_cons.mp hc with rfl | hc
    · obtain ⟨a, b⟩ := l2.le _ (W.idx _) v1.1
      have := v1.2
      exact ⟨a, Int.le_trans b this⟩
    · exact v2 c hc
/-- what holds after k turns -/
structure DijI (cs T : List Int) (k : Nat) (B : List Int) (Dn : List Bool) : Prop where
  good : GoodB cs T.length B
  zero : 0 ≤ nth B 0 ∧ nth B 0 ≤ 0
  dl : Dn.length = T.length
  fin : ∀ r, r < T.length → bget Dn r = true → nth B r = nth T r
  edge : ∀ r, r < T.length → bget Dn r = true → ∀ c ∈ cs, 0 ≤ nth B (((r : Int) + c) % (T.length : Int)).toNat ∧ nth B (((r : Int) + c) % (T.length : Int)).toNat ≤ nth T r + c
  cnt : Dn.count true = k
theorem DijI.reach (W : WT cs T) {k : Nat} {B : List Int} {Dn : List Bool} (I : DijI cs T k B Dn) {n : Int} (hn : Made cs n) :
    bget Dn (n % (T.length : Int)).toNat = true ∨ ∃ u, u < T.length ∧ bget Dn u = false ∧ 0 ≤ nth B u ∧ nth B u ≤ n := by
  induction hn with
  | zero =>
    have e : ((0 : Int) % (T.length : Int)).toNat = 0 := by rw [Int.zero_emod] <;> rfl
    rw [e]
    cases h : bget Dn 0 with
    | true => exact .inl rfl
    | false => exact .inr ⟨0, W.pos, h, I.zero.1, I.zero.2⟩
  | @step n c hn hc ih =>
    have cp := W.cpos c hc
    rcases ih with h | ⟨u, h1, h2, h3, h4⟩
    · have hi := W.idx n
      obtain ⟨a, b⟩ := I.edge _ hi h c hc
      have low := W.low n hn
      have e : ((((n % (T.length : Int)).toNat : Nat) : Int) + c) % (T.length : Int) = (n + c) % (T.length : Int) := by
        rw [W.idx_eq, Int.add_emod, Int.emod_emod_of_dvd _ (Int.dvd_refl _), ← Int.add_emod]
      rw [e] at a b
      cases h5 : bget Dn ((n + c) % (T.length : Int)).toNat with
      | true => exact .inl rfl
      | false => exact .inr ⟨_, W.idx _, h5, a, by omega⟩
    · exact .inr ⟨u, h1, h2, h3, by omega⟩
theorem count_set {Dn : List Bool} : ∀ {l : List Bool} {h : Nat}, h < l.length → bget l h = false → (l.set h true).count true = l.count true + 1
  | [], _, hh, _ => absurd hh (Nat.not_lt_zero _)
  | x :: l, 0, _, hb => by
    have : x = false := hb
    subst this
    simp
  | x :: l, h + 1, hh, hb => by
    have ih := count_set (Dn := Dn) (l := l) (h := h) (Nat.lt_of_succ_lt_succ hh) hb
    rw [List.set_cons_succ, List.count_cons, List.count_cons, ih]
    omega
theorem dij_ok (W : WT cs T) : ∀ k, k ≤ T.length → DijI cs T k (dijRun cs T.length k).1 (dijRun cs T.length k).2
  | 0, _ => by
    have hp := W.pos
    have e0 : ∀ r, nth (0 :: List.replicate (T.length - 1) (-1)) r = if r = 0 then 0 else if r < T.length then -1 else 0 := fun r => by
      unfold nth
      cases r with
      | zero => rfl
      | succ r =>
        rw [List.getD_cons_succ, List.getD_eq_getElem?_getD, List.getElem?_replicate, if_neg (Nat.succ_ne_zero r)]
        by_cases h : r < T.length - 1
        · rw [if_pos h, if_pos (by omega)] <;> rfl
        · rw [if_neg h, if_neg (by omega)] <;> rfl
    have d0 : ∀ r, bget (List.replicate T.length false) r = false := fun r => by
      unfold bget
      rw [List.getD_eq_getElem?_getD, List.getElem?_replicate]
      split <;> rfl
    refine ⟨⟨by show (0 :: List.replicate (T.length - 1) (-1 : Int)).length = _; rw [List.length_cons, List.length_replicate]; omega, fun r hr => ?_⟩, ⟨Int.le_refl _, Int.le_refl _⟩, by show (List.replicate T.length false).length = _; rw [List.length_replicate], fun r hr h => ?_, fun r hr h => ?_, ?_⟩
    · show nth (0 :: List.replicate (T.length - 1) (-1)) r = -1 ∨ (Made cs (nth (0 :: List.replicate (T.length - 1) (-1)) r) ∧ nth (0 :: List.replicate (T.length - 1) (-1)) r % _ = _)
      rw [e0]
      by_cases h : r = 0
      · rw [if_pos h, h]
        exact .inr ⟨.zero, Int.zero_emod _⟩
      · rw [if_neg h, if_pos hr]
        exact .inl rfl
    · have h : bget (List.replicate T.length false) r = true := h
      rw [d0] at h
      cases h
    · have h : bget (List.replicate T.length false) r = true := h
      rw [d0] at h
      cases h
    · show (List.replicate T.length false).count true = 0
      rw [List.count_replicate] <;> rfl
  | k + 1, hk => by
    have I := dij_ok W k (by omega)
    have es : dijRun cs T.length (k + 1) = dijStep cs (dijRun cs T.length k) := rfl
    rw [es]
    generalize dijRun cs T.length k = S at *
    obtain ⟨B, Dn⟩ := S
    simp only at I
    unfold dijStep
    simp only
    have near := near_ok B Dn B.length
    have eq : nearest B Dn = (List.range B.length).foldl (nearStep B Dn) (-1) := rfl
    rw [← eq] at near
    have bl := I.good.len
    rcases near with ⟨n1, no⟩ | ⟨h, n1, hh, b0, d0, mn⟩
    · exfalso
      obtain ⟨r, hr, hd⟩ : ∃ r, r < T.length ∧ bget Dn r = false := by
        refine Classical.byContradiction fun z => ?_
        have all : ∀ b ∈ Dn, true = b := fun b hb => by
          obtain ⟨i, hi, e⟩ := List.getElem_of_mem hb
          cases hbv : b with
          | true => rfl
          | false =>
            exfalso
            apply z
            refine ⟨i, by rw [← I.dl]; exact hi, ?_⟩
            unfold bget
            rw [List.getD_eq_getElem?_getD, List.getElem?_eq_getElem hi, e, hbv] <;> rfl
        have := List.count_eq_length.mpr all
        rw [I.cnt, I.dl] at this
        omega
      have hm := W.made r hr
      have er : (nth T r % (T.length : Int)).toNat = r := by rw [W.rest r hr, Int.toNat_natCast]
      rcases I.reach W hm with q | ⟨u, h1, h2, h3, h4⟩
      · rw [er, hd] at q
        cases q
      · exact no u (by omega) ⟨h3, h2⟩
    · have hT : h < T.length := by omega
      have hm := W.made h hT
      have er : (nth T h % (T.length : Int)).toNat = h := by rw [W.rest h hT, Int.toNat_natCast]
      have hv : nth B h = nth T h := by
        have l1 := I.good.low W hT b0
        rcases I.reach W hm with q | ⟨u, h1, h2, h3, h4⟩
        · rw [er, d0] at q
          cases q
        · have := mn u (by omega) h3 h2
          omega
      obtain ⟨g2, l2, h2, v2⟩ := rels_ok W hT cs B (fun _ h => h) I.good hv
      have dset : ∀ r, bget (Dn.set h true) r = if r = h then true else bget Dn r := fun r => bget_set (by rw [I.dl]; exact hT)
      rw [if_pos (by rw [n1]; omega), n1, Int.toNat_natCast]
      refine ⟨g2, ?_, by show (Dn.set h true).length = _; rw [List.length_set]; exact I.dl, fun r hr hd => ?_, fun r hr hd c hc => ?_, ?_⟩
      · obtain ⟨a, b⟩ := l2.le 0 W.pos I.zero.1
        exact ⟨a, Int.le_trans b I.zero.2⟩
      · have hd : bget (Dn.set h true) r = true := hd
        rw [dset] at hd
        by_cases e : r = h
        · rw [e]; exact h2
        · rw [if_neg e] at hd
          have f := I.fin r hr hd
          have pos : 0 ≤ nth B r := by rw [f]; exact (W.made r hr).nonneg W.cpos
          obtain ⟨a, b⟩ := l2.le r hr pos
          have := g2.low W hr a
          show nth (cs.foldl (rel1 h) B) r = _
          omega
      · have hd : bget (Dn.set h true) r = true := hd
        rw [dset] at hd
        by_cases e : r = h
        · rw [e]; exact v2 c hc
        · rw [if_neg e] at hd
          obtain ⟨a, b⟩ := I.edge r hr hd c hc
          obtain ⟨a2, b2⟩ := l2.le _ (W.idx _) a
          exact ⟨a2, by show nth (cs.foldl (rel1 h) B) _ ≤ _; omega⟩
      · show (Dn.set h true).count true = k + 1
        rw [count_set (Dn := Dn) (by rw [I.dl]; exact hT) d0, I.cnt]
theorem base_eq (W : WT cs T) (hm : minOf cs = T.length) : baseOf cs = T := by
  have I := dij_ok W T.length (Nat.le_refl _)
  unfold baseOf
  rw [hm, Int.toNat_natCast]
  refine List.ext_getElem? fun i => ?_
  by_cases hi : i < T.length
  · have d : bget (dijRun cs T.length T.length).2 i = true := by
      have all := List.count_eq_length.mp (I.cnt.trans I.dl.symm)
      have hd : i < (dijRun cs T.length T.length).2.length := by rw [I.dl]; exact hi
      have := all _ (List.getElem_mem hd)
      unfold bget
      rw [List.getD_eq_getElem?_getD, List.getElem?_eq_getElem hd, ← this] <;> rfl
    have f := I.fin i hi d
    have hb : i < (dijRun cs T.length T.length).1.length := by rw [I.good.len]; exact hi
    unfold nth at f
    rw [List.getD_eq_getElem?_getD, List.getD_eq_getElem?_getD, List.getElem?_eq_getElem hb, List.getElem?_eq_getElem hi] at f
    rw [List.getElem?_eq_getElem hb, List.getElem?_eq_getElem hi]
    exact congrArg some f
  · rw [List.getElem?_eq_none (by rw [I.good.len]; omega), List.getElem?_eq_none (by omega)]
theorem isort_filter (l : List Int) (p : Int → Bool) : isort (l.filter p) = (isort l).filter p := (isort_eq ((isort_perm l).filter p) ((isort_sorted l).filter p)).symm
theorem far_eq (W : WT cs T) : isort ((T.map fun e => e - (T.length : Int)).filter fun z => cs.all fun c => !decide (nth T ((z + c) % (T.length : Int)).toNat > z + c)) = pseudoOf cs T := by
  rw [isort_filter]
  unfold pseudoOf
  congr 1
  funext z
  congr 1
  funext c
  unfold inT
  by_cases h : nth T ((z + c) % (T.length : Int)).toNat ≤ z + c
  · rw [decide_eq_true h, decide_eq_false (by omega)] <;> rfl
  · rw [decide_eq_false h, decide_eq_true (by omega)] <;> rfl
end
end CH

namespace CH
/-! ### lots of coins without a common divisor -/
theorem lot_whole {cs : List Int} (L : LotOk cs) (A : Apart cs) : ∃ T, tabOf cs = ents T ∧ WT (uniq cs) T ∧ fst (uniq cs) = T.length ∧ gcdOf (uniq cs) = 1 := by
  have hm := L.mpos
  have une := uniq_ne L.ne
  have hf := (fst_min (uniq_asc cs) une).1
  have hp : ∀ c ∈ uniq cs, 0 < c := fun c hc => by have := L.pos c (mem_uniq.mp hc); omega
  have A2 : Apart (uniq cs) := apart_congr (fun x => mem_uniq.symm) A
  have g1 := gcdOf_apart A2 hf (hp _ hf)
  have hlen : (tabOf cs).length = (fst (uniq cs)).toNat := table_len (by omega)
  have hcast : ((tabOf cs).length : Int) = fst (uniq cs) := by rw [hlen, Int.toNat_of_nonneg (by omega)]
  obtain ⟨T, e, W⟩ := whole_ok (t := tabOf cs) (table_ok (by omega) hp) hp g1 (by rw [hcast]; exact hf)
  refine ⟨T, e, W, ?_, g1⟩
  have : (ents T).length = T.length := List.length_map ..
  rw [← hcast, e, this]
theorem fst_minOf {l : List Int} (h : l.Pairwise (· < ·)) (n : l ≠ []) : minOf l = fst l := by
  obtain ⟨a, b⟩ := fst_min h n
  exact (minOf_eq a b).symm
theorem lst_maxOf {l : List Int} (h : l.Pairwise (· < ·)) (n : l ≠ []) : maxOf l = lst l := by
  obtain ⟨a, b⟩ := lst_max h n
  exact (maxOf_eq a b).symm
theorem nth_ext {S T : List Int} (hl : S.length = T.length) (h : ∀ r, r < T.length → nth S r = nth T r) : S = T := by
  refine List.ext_getElem? fun i => ?_
  by_cases hi : i < T.length
  · have f := h i hi
    have hs : i < S.length := by omega
    unfold nth at f
    rw [List.getD_eq_getElem?_getD, List.getD_eq_getElem?_getD, List.getElem?_eq_getElem hs, List.getElem?_eq_getElem hi] at f
    rw [List.getElem?_eq_getElem hs, List.getElem?_eq_getElem hi]
    exact congrArg some f
  · rw [List.getElem?_eq_none (by omega), List.getElem?_eq_none (by omega)]
/-- the table depends on the made numbers alone -/
theorem wt_congr {a b S T : List Int} (h : ∀ n, Made a n ↔ Made b n) (WS : WT a S) (WT' : WT b T) (hl : S.length = T.length) : S = T := by
  refine nth_ext hl fun r hr => ?_
  have m1 := (h _).mp (WS.made r (by omega))
  have m2 := (h _).mpr (WT'.made r hr)
  have r1 := WS.rest r (by omega)
  have r2 := WT'.rest r hr
  have l1 := WT'.nth_le m1 (by rw [← hl]; exact r1)
  have l2 := WS.nth_le m2 (by rw [hl]; exact r2)
  omega
theorem pseudo_congr {a b T : List Int} (h : ∀ n, Made a n ↔ Made b n) (hab : ∀ c ∈ a, c ∈ b) (pa : ∀ c ∈ b, 0 < c) (Wa : WT a T) (Wb : WT b T) : pseudoOf a T = pseudoOf b T := by
  refine asc_eq (pseudo_asc Wa) (pseudo_asc Wb) fun z => ?_
  rw [mem_pseudo Wa, mem_pseudo Wb]
  constructor
  · intro P
    refine ⟨fun m => P.1 ((h z).mpr m), fun c hc => (h _).mp (P.sums ((h c).mpr (Made.coin hc)) (pa c hc))⟩
  · intro P
    exact ⟨fun m => P.1 ((h z).mp m), fun c hc => (h _).mpr (P.2 c (hab c hc))⟩
/-! ### the lot with a needless coin more -/
def moreOf (u : List Int) : List Int := u ++ [fst u + lst u]
theorem more_asc {u : List Int} (h : u.Pairwise (· < ·)) (n : u ≠ []) (p : ∀ c ∈ u, 0 < c) : (moreOf u).Pairwise (· < ·) := by
  have f := (fst_min h n).1
  have l := (lst_max h n).2
  refine List.pairwise_append.mpr ⟨h, List.pairwise_singleton _ _, fun x hx y hy => ?_⟩
  rw [List.mem_singleton.mp hy]
  have := l x hx
  have := p _ f
  omega
theorem more_made {u : List Int} (h : u.Pairwise (· < ·)) (n : u ≠ []) (k : Int) : Made (moreOf u) k ↔ Made u k := by
  constructor
  · intro m
    induction m with
    | zero => exact .zero
    | step _ hc ih =>
      rcases List.mem_append.mp hc with hc | hc
      · exact ih.step hc
      · rw [List.mem_singleton.mp hc]
        exact ih.add ((Made.coin (fst_min h n).1).add (Made.coin (lst_max h n).1))
  · exact Made.mono fun c hc => List.mem_append_left _ hc
theorem fst_more {u : List Int} (n : u ≠ []) : fst (moreOf u) = fst u := by
  cases u with
  | nil => exact absurd rfl n
  | cons x u => rfl
/-! ### a lot with a grain -/
theorem dvd_gcd_fold (cs : List Int) {d : Int} : ∀ g : Int, d ∣ g → (∀ c ∈ cs, d ∣ c) → d ∣ cs.foldl (fun g c => ((Nat.gcd g.natAbs c.natAbs : Nat) : Int)) g := by
  induction cs with
  | nil => exact fun g h _ => h
  | cons x cs ih =>
    intro g hg hc
    refine ih _ ?_ fun c h => hc c (List.mem_cons_of_mem _ h)
    have h1 := Int.natAbs_dvd_natAbs.mpr hg
    have h2 := Int.natAbs_dvd_natAbs.mpr (hc x List.mem_cons_self)
    exact Int.natAbs_dvd.mp (Int.natCast_dvd_natCast.mpr (Nat.dvd_gcd h1 h2))
theorem grain_mul {cs : List Int} {g : Int} (A : Apart cs) (hg : 0 < g) (ne : cs ≠ []) (hp : ∀ c ∈ cs, 0 < c) : gcdOf (uniq (cs.map fun c => g * c)) = g := by
  have d1 : g ∣ gcdOf (uniq (cs.map fun c => g * c)) := dvd_gcd_fold _ 0 (Int.dvd_zero _) fun c hc => by
    obtain ⟨x, _, rfl⟩ := List.mem_map.mp (mem_uniq.mp hc)
    exact Int.dvd_mul_right _ _
  obtain ⟨k, hk⟩ := d1
  have kd : ∀ c ∈ cs, k ∣ c := fun c hc => by
    have := gcdOf_dvd (mem_uniq.mpr (List.mem_map.mpr ⟨c, hc, rfl⟩) : g * c ∈ uniq (cs.map fun c => g * c))
    rw [hk] at this
    exact Int.dvd_of_mul_dvd_mul_left (by omega) this
  have k0 : 0 ≤ g * k := by rw [← hk]; exact gcdOf_nonneg _
  have k1 : 1 ≤ k := by
    obtain ⟨x, hx⟩ := List.exists_mem_of_ne_nil _ ne
    rcases Int.lt_trichotomy k 0 with z | z | z
    · have := Int.mul_neg_of_pos_of_neg hg z
      omega
    · rw [z] at kd
      have := hp x hx
      have e := Int.zero_dvd.mp (kd x hx)
      omega
    · omega
  rw [hk, A k k1 kd, Int.mul_one]
/-! ### the drawn coins make such lots -/
theorem apart_up {cs : List Int} (ne : cs ≠ []) (hp : ∀ c ∈ cs, 0 < c) : Apart (apartUp cs) := by
  unfold apartUp
  split
  · exact apart_next (maxOf_mem ne)
  · rename_i h
    exact grain_apart ne hp h
theorem apart_dn {cs : List Int} (ne : cs ≠ []) (hp : ∀ c ∈ cs, 0 < c) : Apart (apartDn cs) := by
  unfold apartDn
  split
  · exact apart_prev (maxOf_mem ne)
  · rename_i h
    exact grain_apart ne hp h
theorem lotok_of {cs : List Int} (ne : cs ≠ []) (len : cs.length ≤ 64) (pos : ∀ c ∈ cs, 1 ≤ c ∧ c ≤ 10 ^ 12) (h : ∃ c ∈ cs, c ≤ 64) : LotOk cs := by
  refine ⟨ne, len, fun c hc => (pos c hc).1, fun c hc => (pos c hc).2, ?_⟩
  obtain ⟨c, hc, h64⟩ := h
  have := (fst_min (uniq_asc cs) (uniq_ne ne)).2 c (mem_uniq.mpr hc)
  omega
theorem up_in {cs : List Int} {b : Int} (h : ∀ c ∈ cs, 1 ≤ c ∧ c ≤ b) (ne : cs ≠ []) {c : Int} (hc : c ∈ apartUp cs) : 1 ≤ c ∧ c ≤ b + 1 := by
  unfold apartUp at hc
  split at hc
  · rcases List.mem_append.mp hc with hc | hc
    · have := h c hc
      omega
    · rw [List.mem_singleton.mp hc]
      have := h _ (maxOf_mem ne)
      omega
  · have := h c hc
    omega
theorem up_ne {cs : List Int} (ne : cs ≠ []) : apartUp cs ≠ [] ∧ (apartUp cs).length ≤ cs.length + 1 ∧ ∀ c ∈ cs, c ∈ apartUp cs := by
  unfold apartUp
  split
  · exact ⟨by simp, by simp, fun c hc => List.mem_append_left _ hc⟩
  · exact ⟨ne, Nat.le_succ _, fun c hc => hc⟩
theorem dn_ne {cs : List Int} (ne : cs ≠ []) : apartDn cs ≠ [] ∧ (apartDn cs).length ≤ cs.length + 1 ∧ ∀ c ∈ cs, c ∈ apartDn cs := by
  unfold apartDn
  split
  · exact ⟨by simp, by simp, fun c hc => List.mem_append_left _ hc⟩
  · exact ⟨ne, Nat.le_succ _, fun c hc => hc⟩
theorem dn_in {cs : List Int} {l b : Int} (h : ∀ c ∈ cs, l ≤ c ∧ c ≤ b) (hl : 2 ≤ l) (ne : cs ≠ []) {c : Int} (hc : c ∈ apartDn cs) : 1 ≤ c ∧ c ≤ b := by
  unfold apartDn at hc
  split at hc
  · rcases List.mem_append.mp hc with hc | hc
    · have := h c hc
      omega
    · rw [List.mem_singleton.mp hc]
      have := h _ (maxOf_mem ne)
      omega
  · have := h c hc
    omega
/-! ### small lots: the law's own lists -/
theorem small_top {cs T : List Int} (W : WT cs T) {b : Int} (hb : ∀ c ∈ cs, c ≤ b) (h2 : 2 ≤ b) : lastOf T + T.length + 2 ≤ T.length * b := by
  have := last_bound W hb
  have e : ((T.length : Int) - 1) * b = T.length * b - b := by rw [Int.sub_mul, Int.one_mul]
  omega
theorem below_true {cs T : List Int} (W : WT cs T) {m : List Bool} {top : Nat} (ok : ∀ i : Nat, i ≤ top → (bget m i = true ↔ Made cs i)) (ht : lastOf T ≤ top) : belowB m (pseudoOf cs T) (lastOf T) = true := by
  unfold belowB
  rw [List.all_eq_true]
  intro h hh
  have hr := mem_zrange.mp hh
  have key : ∀ i : Int, 0 ≤ i → i ≤ top → (bget m i.toNat = true ↔ Made cs i) := fun i h0 h1 => by
    have := ok i.toNat (by omega)
    rw [Int.toNat_of_nonneg h0] at this
    exact this
  cases hb : bget m h.toNat with
  | true => rfl
  | false =>
    have nm : ¬ Made cs h := fun z => by
      have := (key h (by omega) (by omega)).mpr z
      rw [hb] at this
      cases this
    obtain ⟨z, P, hz, mz⟩ := hole_below W ((lastOf T - h).toNat + 1) h (by omega) nm
    have zl := P.le W
    rw [Bool.false_or, List.any_eq_true]
    refine ⟨z, (mem_pseudo W).mpr P, ?_⟩
    rw [decide_eq_true hz, (key (z - h) (by omega) (by omega)).mpr mz] <;> rfl
end CH

namespace CHX
open PySem PySem.Spec PyProof.Rows L2
/-! ### an own exception whose __init__ says super().__init__(text); self.f = f -/
def eArgs (fl : Str) (p1 p2 : Pos) : Arguments := { posonlyargs := [], args := [{ arg := "self", annotation := none, pos := p1 }, { arg := fl, annotation := none, pos := p2 }], vararg := none, kwonlyargs := [], kw_defaults := [], kwarg := none, defaults := [] }
def eCall (txt : Str) (q0 q1 q2 q3 q4 : Pos) : Expr := .Call (.Attribute (.Call (.Name "super" q0) [] [] q1) "__init__" q2) [.Constant (.str txt) 0 q3] [] q4
def eBody (fl txt : Str) (q0 q1 q2 q3 q4 q5 r1 r2 r3 r4 : Pos) : List Stmt :=
  [.Expr (eCall txt q0 q1 q2 q3 q4) q5, .Assign [.Attribute (.Name "self" r1) fl r2] (.Name fl r3) r4]
def eScope (fl : Str) : Scope := { kind := .function, names := [(PySem.Str.ofString "self", .local), (fl, .local), (PySem.Str.ofString "__class__", .free), (PySem.Str.ofString "super", .globalImplicit)], isGenerator := false, isCoroutine := false, more := [] }
/-- what the written part says of such a class, at C, of its __init__, at fI, of the cell of __class__, at cc, of the code object, at cda -/
structure SupTxt (prog : Program) (K : PySem.W.Frag) (mg : Str → Option Value) (nm fl : Str) (C fI cc cda : Addr) : Prop where
  gC : mg nm = some (.ref C)
  oex : OexC K C
  noF : PySem.W.findIn K (.ref C) fl = some none
  iC : PySem.W.findIn K (.ref C) "__init__" = some (some (.ref fI))
  tI : PySem.W.typeIn K (.ref fI) = some (.type "function")
  sup : PySem.W.ks_superIn K C C "__init__" = some (some (.builtin "ValueError.__init__"))
  veC : PySem.W.subIn K (.ref C) (.type "ValueError") = some true
  seC : PySem.W.mroIn K C (.ref C) = some true
  cell : ∃ a b d, K.lookup cc = some ⟨a, b, .cell (some (.ref C)), d⟩
  code : ∃ a b vs d file tf, K.lookup cda = some ⟨a, b, .fields vs, d⟩ ∧ vs[2]? = some (.str file tf) ∧ ((prog.main.file : Str) == file) = true
  gS : mg "super" = none
  top : (prog.main.scope.names.lookup ("super" : Str)).isSome = false
  opq : PySem.W.nsIn K PySem.cStatics "thirdparty.any" = some none
  fn : ∃ (q : Str) (kV doc pm ct oc : Value) (an od : Option Addr) (osl : Array (Option Value)) (p1 p2 q0 q1 q2 q3 q4 q5 r1 r2 r3 r4 : Pos) (txt : Str),
    K.lookup fI = some ⟨oc, od, .func (PySem.W.ksFn "__init__" q (eArgs fl p1 p2) (eBody fl txt q0 q1 q2 q3 q4 q5 r1 r2 r3 r4) (eScope fl) .none kV doc pm an (.ref cda) ct cc), osl⟩ ∧ PySem.W.codeIn K (.ref cda) q = true ∧ (q2.endLine == q4.line) = true
/-- the field's name is none of the scope's other names -/
structure FlOk (fl : Str) : Prop where
  a : fl ≠ "self"
  b : fl ≠ "__class__"
  c : fl ≠ "super"
  d : (fl == ("__debug__" : Str)) = false
  e : (fl == ("__classdict__" : Str)) = false
  bd : ∀ (q : Str) (p1 p2 : Pos) (body : List Stmt) (kV doc pm : Value) (an : Option Addr) (cdv ct : Value) (cc : Addr) (x y : Value), bindArgs (PySem.W.ksFn "__init__" q (eArgs fl p1 p2) body (eScope fl) .none kV doc pm an cdv ct cc) ⟨[x, y], []⟩ = pure ((["self", fl] : List Str).zip [x, y])
section
variable {fl : Str}
theorem lk_self : (eScope fl).names.lookup ("self" : Str) = some NameKind.local := rfl
theorem lk_fl (F : FlOk fl) : (eScope fl).names.lookup fl = some .local := by
  have h1 : (fl == PySem.Str.ofString "self") = false := by simpa using F.a
  simp [eScope, List.lookup, h1]
theorem lk_cls (F : FlOk fl) : (eScope fl).names.lookup ("__class__" : Str) = some NameKind.free := by
  have h0 : ((PySem.Str.ofString "__class__") == PySem.Str.ofString "self") = false := by decide +kernel
  have h1 : ((PySem.Str.ofString "__class__") == fl) = false := by simpa using Ne.symm F.b
  simp [eScope, List.lookup, h0, h1]
theorem lk_sup (F : FlOk fl) : (eScope fl).names.lookup ("super" : Str) = some NameKind.globalImplicit := by
  have h0 : ((PySem.Str.ofString "super") == PySem.Str.ofString "self") = false := by decide +kernel
  have h1 : ((PySem.Str.ofString "super") == fl) = false := by simpa using Ne.symm F.c
  have h2 : ((PySem.Str.ofString "super") == PySem.Str.ofString "__class__") = false := by decide +kernel
  simp [eScope, List.lookup, h0, h1, h2]
theorem e_scope (F : FlOk fl) : NdefX.NScope ["self", fl, "__class__"] ["self", fl] ["__class__"] (eScope fl) where
  kind := rfl
  co := rfl
  gen := rfl
  nd := by
    have h1 := F.a
    have h2 := F.b
    have h3 : ¬ (("self" : Str) = "__class__") := by decide +kernel
    simp only [List.nodup_cons, List.mem_cons, List.not_mem_nil, or_false, not_or, List.nodup_nil, and_true, not_false_eq_true]
    exact ⟨⟨fun z => h1 z.symm, h3⟩, h2⟩
  pre := rfl
  par := fun x hx => by
    rcases List.mem_cons.mp hx with rfl | hx
    · exact lk_self
    · rw [List.mem_singleton.mp hx]
      exact lk_fl F
  nocell := fun y hy => by
    simp only [eScope, List.mem_cons, List.not_mem_nil, or_false] at hy
    rcases hy with rfl | rfl | rfl | rfl <;> (intro z; cases z)
  free := fun y hy h => by
    simp only [eScope, List.mem_cons, List.not_mem_nil, or_false] at hy
    rcases hy with rfl | rfl | rfl | rfl
    · cases h
    · cases h
    · exact List.mem_singleton.mpr rfl
    · cases h
  frk := fun x hx => by
    rw [List.mem_singleton.mp hx]
    exact lk_cls F
end
/-- the promise of such an __init__ -/
def spExc (C : Addr) (fl : Str) : Sp := fun vs H Q _ => ∃ (a : Addr) (v : V), vs = [.ref a, v] ∧ H a = some (exo a C none) ∧ ∀ dx, H dx = none → dx ≠ a → Q .non (upd (upd H dx (exd dx [(fl, v)])) a (exo a C (some dx)))
theorem upd_id {H : Hp} {a : Addr} {o : HO} (h : H a = some o) : upd H a o = H := by
  funext b
  unfold upd
  split
  · rename_i e
    rw [e, h]
  · rfl
/-- super().__init__(text), called: the exception at e is as it was but for its args -/
theorem call_wrap {prog : Program} {w : World} {A : Around} {E : Value → Shared → Prop} {h : Heap} {g : Array GenState} {d : Drawn} {t : Nat} {os : OsState} {nm q : Str} {C N : Addr} {bs bm : List Value} {hdct : Bool} {sn : List Str} {sub : List Value} {ab : Bool} {col : Option Bool}
    {dd : Option Addr} {k0 k1 k2 k3 k5 : Option Value} {u e t0 : Addr} {rest : List Value} {Q : Value → Shared → Prop}
    (oC : h.get? C = some (excClassObj nm q C N bs bm hdct sn sub ab col dd k0 k1 k2 k3 k5 "ValueError.__new__")) (oe : h.get? e = some (PySem.W.excRec (.ref C) t0 none .none .none (.bool false))) (ou : h.get? u = some (PySem.W.kxs_mw "ValueError.__init__" e)) (few : rest.length ≤ sizeLine)
    (go : ∀ (h' : Heap) (t1 : Addr), (∀ b o, b ≠ e → h.get? b = some o → h'.get? b = some o) → h'.get? e = some (PySem.W.excRec (.ref C) t1 none .none .none (.bool false)) → Q .none ⟨h', g, d, t, os⟩) :
    wpAny (model prog w) A (call (.ref u) rest) Q E ⟨h, g, d, t, os⟩ := by
  refine wpAny_call (codeAny_of_tree ?_)
  show wpAny _ A.in1 (callAny (.ref u) ⟨rest, []⟩) _ _ _
  simp only [callAny]
  refine wpAny_bind (wpAny_load ou ?_)
  simp only [PySem.W.kxs_mw, show (Value.type "method-wrapper" == Value.type "method" || Value.type "method-wrapper" == Value.type "builtin_function_or_method" || Value.type "method-wrapper" == Value.type "method-wrapper") = true by decide, if_true]
  refine PySem.W.KFB.if_so (by decide) ?_
  refine wpAny_bind (PySem.W.check_bound_init PySem.F.excBase_ValueError.toExcCallFacts oC oe rfl ?_)
  refine wpAny_bind (wpAny_pure (wpAny_pure ?_))
  refine ⟨plainId_quiet PySem.F.excBase_ValueError.init.plain _, codeAny_builtin PySem.F.excBase_ValueError.initEntry ?_⟩
  exact PySem.W.exc_init_tree oe few fun h' k1 k2 _ => go h' h.objs.size k1 k2
/-- super().__init__(text), in such a body -/
theorem sup_stmt {X : Cx} {pins : List (Addr × Obj)} {σ : L2.St} {H : Hp} {s : Shared} {body : List Stmt} {nm fl txt : Str} {C fI cc cda a : Addr} {q0 q1 q2 q3 q4 : Pos} {fd : FuncData} {oc : Value} {od : Option Addr} {osl : Array (Option Value)} {ar : Arg} {Q : Value → Shared → Prop}
    (I : Inv X pins σ H s) (ks : X.env.kindOf "super" = some .globalImplicit) (kc : X.env.kindOf "__class__" = some .free) (kf : X.env.kindOf "self" = some .local) (hN : X.N[0]? = some ("self" : Str)) (hσ : σ[0]? = some (some (.ref a)))
    (hcc : X.env.cells.lookup ("__class__" : Str) = some cc) (hfu : X.env.func = some fI) (hco : X.env.code = .ref cda) (T : SupTxt X.prog X.K X.mg nm fl C fI cc cda) (lk : X.K.lookup fI = some ⟨oc, od, .func fd, osl⟩) (hp : (fd.params.posonlyargs ++ fd.params.args).head? = some ar) (har : ar.arg = "self")
    (ha : H a = some (exo a C none)) (hln : (q2.endLine == q4.line) = true) (hst : starEach [.Constant (.str txt) 0 q3] X.env = (false, eval (.Constant (.str txt) 0 q3) X.env) :: starEach [] X.env) (go : ∀ s', Inv X pins σ H s' → Q .none s') :
    _root_.PySem.wpAt (model X.prog X.w) X.A (.func body X.env) (eval (eCall txt q0 q1 q2 q3 q4) X.env) Q X.xe s := by
  obtain ⟨nmC, qC, NC, bsC, bmC, snC, subC, abC, colC, ddC, k0, k1, k2, k3, k5, hC, hbm⟩ := T.oex.cls
  have hcl : PySem.W.clsIn X.K C = some { name := nmC, bases := bsC, mro := .ref C :: bmC, ns := NC, qualname := qC, hasDict := true, slotNames := snC, subclasses := subC, abstract := abC, collection := colC, hasDel := false } := by unfold PySem.W.clsIn; rw [hC] <;> rfl
  obtain ⟨ca, cb, cd, lcc⟩ := T.cell
  obtain ⟨da, db, vs, dd, file, tf, lcd, hvs, hfile⟩ := T.code
  have heq : eval (eCall txt q0 q1 q2 q3 q4) X.env = (do
        let ov ← attributeBase (.Call (.Name "super" q0) [] [] q1) "__init__" X.env (eval (.Call (.Name "super" q0) [] [] q1) X.env)
        standAt q2.atName
        let (f, first) ← holding [ov] (getMethod ov "__init__" (plainOf (.Call (.Name "super" q0) [] [] q1) X.env))
        callWith q4 f first (backTo q4 (starEach [.Constant (.str txt) 0 q3] X.env)) []) := by
    unfold eCall
    rw [arm_eval_Call]
    refine congrArg _ (funext fun ov => congrArg _ (funext fun _ => ?_))
    exact mcall_line (by rw [hst]; rfl) hln
  obtain ⟨t0, hx⟩ := exo_at I.hok ha
  obtain ⟨m, hns, hloc⟩ := I.loc
  obtain ⟨u, ru, hlook⟩ := hloc 0 "self" _ hN hσ (.inl kf)
  have eu : u = Value.ref a := ru
  subst eu
  have hself : m "self" = some (.ref a) := by
    rcases hlook with h | ⟨h, _⟩
    · exact h.2
    · rcases h with h | h <;> (rw [kf] at h; cases h)
  obtain ⟨mb, b1, b2⟩ := I.mod.blt
  refine PySem.ks_wpAt_MethodCall (pl := plainOf (.Call (.Name "super" q0) [] [] q1) X.env) ?_ heq
  refine PySem.ks_wpAt_super_base ks kc (by decide +kernel) hfu (I.kIn _ _ lk) rfl hp hco (I.kIn _ _ lcd) rfl hvs hfile T.top ?_
  refine PySem.W.ks_loadName_global I.ok.kind ks (Calls.loadGlobal_builtin (by rw [I.ok.glob]; exact I.mod.glob.keeps I.bk) T.gS (by rw [I.ok.blt]; exact b1.keeps I.bk) ((b2 "super" (by decide +kernel)).trans (by decide +kernel)) ⟨rfl, ?_⟩)
  refine wpAny_loadName_free I.ok.kind kc hcc ⟨_, I.kIn _ _ lcc, rfl⟩ ?_
  rw [har]
  refine wpAny_loadName_local I.ok.kind kf hns hself ?_
  obtain ⟨hp0, g, dw, t, os⟩ := s
  refine PySem.ks_wpAny_isType_cls (I.kIn _ _ hC) rfl ⟨rfl, ?_⟩
  refine PySem.ks_wpAny_call_super (I.kIn _ _ hC) rfl hx rfl (fun c e => by cases e) (PySem.W.looks_mroIn I.kIn T.seC) fun h' hso hk => ?_
  have I1 : Inv X pins σ H ⟨h', g, dw, t, os⟩ := I.kept (t' := t) hk
  have hx1 := hk _ _ hx
  have inst : PySem.W.InstAt h' a { cls := .ref C, data := .fields #[.ref t0, .none, .none, .none, .bool false, .none] } C none := ⟨hx1, rfl, rfl, trivial⟩
  have hsup : PySem.W.alongIn X.K "__init__" (((Value.ref C :: bmC).dropWhile (· != .ref C)).drop 1) = some (some (.builtin "ValueError.__init__")) := by
    have := T.sup
    unfold PySem.W.ks_superIn at this
    rw [hcl] at this
    exact this
  refine PySem.W.kxs_getMethod PySem.W.kxs_ValueError hso (PySem.W.looks_opaque I1.kIn T.opq) (l₀ := Value.ref C :: bmC) (fun A Q E s k q => wpAny_bind ((PySem.W.looks_clsIn I1.kIn hcl) A _ E s k (wpAny_pure q))) rfl I1.kIn hsup (inst.type.andThen (PySem.W.looks_subIn I1.kIn T.veC)) (PySem.W.ks_ne I1.kIn inst hcl) (by decide +kernel) ?_
  have hu : (h'.push (PySem.W.kxs_mw "ValueError.__init__" a)).get? h'.objs.size = some (PySem.W.kxs_mw "ValueError.__init__" a) := Heap.get?_push_size _ rfl
  have I2 : Inv X pins σ H ⟨h'.push (PySem.W.kxs_mw "ValueError.__init__" a), g, dw, t + 1, os⟩ := I1.kept (t' := t + 1) fun b o e => Heap.get?_push_of_some _ e
  rw [hst]
  refine PySem.W.kxs_callWith (i := "ValueError.__init__") (x := a) rfl (Calls.evalArgs_plain ?_)
  refine Calls.spliced_cons (Calls.Constant_str (k := 0) (pos := q3) (Calls.spliced_nil ⟨hu, ?_⟩))
  show wpAny _ _ (call (.ref h'.objs.size) [Value.str txt (t + 1)] []) _ _ _
  have I3 : Inv X pins σ H ⟨h'.push (PySem.W.kxs_mw "ValueError.__init__" a), g, dw, t + 1 + 1, os⟩ := I2.tok _
  refine call_wrap (t0 := t0) (I3.kIn _ _ hC) (Heap.get?_push_of_some _ hx1) hu (by show 1 ≤ sizeLine; decide) fun h2 t1 k2 hx2 => ?_
  have I4 := I3.write (x := a) (e := a) (o := exo a C none) (h' := h2) (t' := t + 1 + 1) (by rw [ha]; trivial) (.inl rfl) k2 ⟨_, hx2⟩ (exo_ok hx2)
  rw [upd_id ha] at I4
  exact go _ I4
section
variable {P : Program} {w : World} {K : PySem.W.Frag} {mg : Str → Option Value} {base : Heap} {CX : CXT} {nm fl : Str} {C fI cc cda : Addr}
theorem sup_init (T : SupTxt P K mg nm fl C fI cc cda) (F : FlOk fl) : ∃ fd, FnOk P w K mg base CX 2 fI fd ["self", fl] (spExc C fl) ∧ Binds K fd ["self", fl] [] := by
  obtain ⟨q, kV, doc, pm, ct, oc, an, od, osl, p1, p2, q0, q1, q2, q3, q4, q5, r1, r2, r3, r4, txt, lk, hcd, hln⟩ := T.fn
  have bindE : ∀ us : List Value, us.length = 2 → bindArgs (PySem.W.ksFn "__init__" q (eArgs fl p1 p2) (eBody fl txt q0 q1 q2 q3 q4 q5 r1 r2 r3 r4) (eScope fl) .none kV doc pm an (.ref cda) ct cc) ⟨us, []⟩ = pure ((["self", fl] : List Str).zip us) := fun us hl => by
    match us, hl with
    | [x, y], _ => exact F.bd q p1 p2 _ kV doc pm an _ ct cc x y
  refine ⟨_, ⟨fun vs H Q E h => ?_, fun A outer s H args us vs Q E hr e0 hb r hsp => ?_⟩, .all bindE⟩
  · obtain ⟨a, v, rfl, _⟩ := h
    rfl
  · have hl : vs.length = (["self", fl] : List Str).length := by
      obtain ⟨a, v, rfl, _⟩ := hsp
      rfl
    have KX : K.In s.heap := e0.mod.kin.keeps fun b o e => (e0.bs b o e).1
    have lim : s.heap.NoLimit := e0.mod.nolimit.keeps fun b o e => (e0.bs b o e).1
    have S := e_scope F
    refine ks_codeAny_call_defAt (binds := (["self", fl] : List Str).zip us) hr.depth (KX _ _ lk) rfl lim (PySem.W.codeRec_of KX hcd) rfl hb S.nocell (fun ⟨n, _⟩ hy => S.par n (List.of_mem_zip hy).1) (fun h₁ hns hk => ?_)
    obtain ⟨a, v, rfl, ha, hQ⟩ := id hsp
    obtain ⟨ca, cb, cd, lcc⟩ := T.cell
    -- the context of the body
    have cells : NdefX.CellsAt [(("__class__" : Str), cc)] ["__class__"] [some (.ref C)] s.heap H := by
      have hcc : base.get? cc = some ⟨ca, cb, .cell (some (.ref C)), cd⟩ := e0.mod.kin _ _ lcc
      have look : ∀ y c, ([(("__class__" : Str), cc)] : List (Str × Addr)).lookup y = some c → y = "__class__" ∧ c = cc := fun y c e => by
        have := PySem.mem_of_lookup e
        simpa using this
      refine ⟨rfl, fun y c e => ?_, fun x y c e1 e2 => (look x c e1).1.trans (look y c e2).1.symm, fun i y hy => ?_⟩
      · rw [(look y c e).2]
        exact ⟨(e0.bs _ _ hcc).2, _, _, (e0.bs _ _ hcc).1, rfl⟩
      · match i, hy with
        | 0, hy =>
          have ey : ("__class__" : Str) = y := Option.some.inj hy
          subst ey
          refine ⟨cc, rfl, fun v e => ?_⟩
          have ev : V.ref C = v := Option.some.inj (Option.some.inj e)
          subst ev
          exact ⟨_, rfl, _, (e0.bs _ _ hcc).1, rfl⟩
        | i + 1, hy => cases hy
    have I0 : Inv (NdefX.ncx CX P w K mg base ["self", fl, "__class__"] ⟨"__init__", q, eArgs fl p1 p2, eBody fl txt q0 q1 q2 q3 q4 q5 r1 r2 r3 r4, eScope fl, [("__class__", cc)], cda⟩ fI A outer s H E) [] (NdefX.startF ["self", fl, "__class__"] [.ref a, v] [some (.ref C)]) H { s with heap := h₁, toks := s.toks + ((["self", fl] : List Str).zip us).length } :=
      NdefX.inv_startN S hr.hd e0 rfl r cells hns hk
    obtain ⟨nmC, qC, NC, bsC, bmC, snC, subC, abC, colC, ddC, k0, k1, k2, k3, k5, hC, hbm⟩ := T.oex.cls
    have hcl : PySem.W.clsIn K C = some { name := nmC, bases := bsC, mro := .ref C :: bmC, ns := NC, qualname := qC, hasDict := true, slotNames := snC, subclasses := subC, abstract := abC, collection := colC, hasDel := false } := by unfold PySem.W.clsIn; rw [hC] <;> rfl
    obtain ⟨da, db, vs, dd, file, tf, lcd, hvs, hfile⟩ := T.code
    obtain ⟨t0, hx⟩ := exo_at I0.hok ha
    have kk : ∀ b o, K.lookup b = some o → h₁.get? b = some o := fun b o e => I0.kIn b o e
    let F0 : NdefX.NF := ⟨"__init__", q, eArgs fl p1 p2, eBody fl txt q0 q1 q2 q3 q4 q5 r1 r2 r3 r4, eScope fl, [("__class__", cc)], cda⟩
    refine PySem.ks_wpAt_execs_cons (PySem.ks_wpAt_Expr_any (PySem.ks_wpAt_mono (sup_stmt (X := NdefX.ncx CX P w K mg base ["self", fl, "__class__"] F0 fI A outer s H E) (fl := fl) (nm := nm) (Q := fun vv s' => vv = .none ∧ L2.Inv (NdefX.ncx CX P w K mg base ["self", fl, "__class__"] F0 fI A outer s H E) [] (NdefX.startF ["self", fl, "__class__"] [.ref a, v] [some (.ref C)]) H s') I0 (lk_sup F) (lk_cls F) lk_self rfl rfl rfl rfl rfl T lk rfl rfl ha hln rfl fun s' J => ⟨rfl, J⟩) (fun v' s' hv => ?_) fun _ _ z => z))
    obtain ⟨_, J⟩ := hv
    have body2 : PSs (NdefX.ncx CX P w K mg base ["self", fl, "__class__"] F0 fI A outer s H E) [.Assign [.Attribute (.Name "self" r1) fl r2] (.Name fl r3) r4] (tOst K fl (tVar 0) (tVar 1)) :=
      pss_one (ps_ost (pe_var rfl (.inl lk_self) (by decide +kernel) (by decide +kernel)) (pe_var rfl (.inl (lk_fl F)) F.d F.e))
    refine PySem.wpAt_of_wpAny (wpAny_mono (body2.run [] s' _ H { nx := fun _ H' => Q .non H', rt := Q } J ⟨v, rfl, .ref a, rfl, a, C, rfl, T.oex, T.noF, .inl ⟨ha, fun dx h1 h2 => hQ dx h1 h2⟩⟩) (fun f s2 hs => ?_) fun _ _ z => z)
    cases f with
    | next =>
      obtain ⟨σ2, H2, J2, q2⟩ := hs
      exact ⟨V.non, H2, J2.os, J2.bare, J2.base, J2.hok, rfl, q2⟩
    | ret u =>
      obtain ⟨v2, σ2, H2, J2, rv, q2⟩ := hs
      exact ⟨v2, H2, J2.os, J2.bare, J2.base, J2.hok, rv, q2⟩
    | brk =>
      obtain ⟨_, _, _, q2⟩ := hs
      exact False.elim q2
    | cont =>
      obtain ⟨_, _, _, q2⟩ := hs
      exact False.elim q2
end
/-! ### raise C(e) -/
def tSup (C : Addr) (fl : Str) (te : TE) : L2.St → Hp → XK → Prop := fun σ H Q => te σ H fun v H1 => ∀ d, H1 d = none → Q (.ref C) (some d) (upd H1 d (.xd [(fl, v)]))
section
variable {X : Cx}
theorem pmk_sup {nm fl : Str} {C fI cc cda : Addr} {e : Expr} {te : TE} {p pos : Pos} (T : SupTxt X.prog X.K X.mg nm fl C fI cc cda) (F : FlOk fl) (hr : Room 3 X.A) (hg : Gl X nm) (he : PE X e te) (hdb : (nm == ("__debug__" : Str)) = false := by decide)
    (hs : starEach [e] X.env = (false, eval e X.env) :: starEach [] X.env := by rfl) : L2N.PMk X (.Call (.Name nm p) [e] [] pos) (tSup C fl te) := by
  intro pins s σ H Q I h
  obtain ⟨fd, FI, bI⟩ := sup_init (w := X.w) (base := X.base) (CX := CX0) T F
  obtain ⟨nmC, qC, NC, bsC, bmC, snC, subC, abC, colC, ddC, k0, k1, k2, k3, k5, hC, hbm⟩ := T.oex.cls
  have pa : PA X [e] (tCons te tNil) := pa_cons (hs := hs) he pa_nil
  refine wpAny_Call_Name_kw (ld_glob I hg T.gC ?_ hdb)
  refine PySem.W.callWith_K (h₀ := X.base) I.ok.mod.kin T.oex.kC (thn (pa.run pos pins s σ H (fun vs H1 => match vs with
    | [v] => ∀ d, H1 d = none → Q (.ref C) (some d) (upd H1 d (.xd [(fl, v)]))
    | _ => False) I h) fun us s1 hh => ?_) hs rfl
  obtain ⟨vs, H1, I1, rv, q1⟩ := hh
  cases rv with
  | nil => exact False.elim q1
  | cons r0 rr =>
    cases rr with
    | cons _ _ => exact False.elim q1
    | nil =>
      rename_i v u
      refine ⟨I1.kIn, ?_⟩
      show wpAny _ _ (call (.ref C) [u]) _ _ _
      obtain ⟨hp, g, dr, tk, os⟩ := s1
      have le1 : hp.objs.size ≤ hp.objs.size + 1 := Nat.le_succ _
      have fresh : H1 (hp.objs.size + 1) = none := I1.hok.fresh le1
      have grown : ∀ b o, hp.get? b = some o → ((hp.push (PySem.W.kdv_tup [u])).push (PySem.HandSPX.excO C hp.objs.size)).get? b = some o := fun b o z => Heap.get?_push_of_some _ (Heap.get?_push_of_some _ z)
      have made : ((hp.push (PySem.W.kdv_tup [u])).push (PySem.HandSPX.excO C hp.objs.size)).get? (hp.objs.size + 1) = some (PySem.HandSPX.excO C hp.objs.size) := by heap_get
      have I2 : Inv X pins σ (upd H1 (hp.objs.size + 1) (exo (hp.objs.size + 1) C none)) ⟨(hp.push (PySem.W.kdv_tup [u])).push (PySem.HandSPX.excO C hp.objs.size), g, dr, tk, os⟩ :=
        I1.laid (h' := (hp.push (PySem.W.kdv_tup [u])).push (PySem.HandSPX.excO C hp.objs.size)) grown le1 (exo_ok made)
      have pr : spExc C fl [.ref (hp.objs.size + 1), v] (upd H1 (hp.objs.size + 1) (exo (hp.objs.size + 1) C none))
          (fun v0 H2 => v0 = .non ∧ ∃ d, H1 d = none ∧ d ≠ hp.objs.size + 1 ∧ H2 = upd (upd (upd H1 (hp.objs.size + 1) (exo (hp.objs.size + 1) C none)) d (exd d [(fl, v)])) (hp.objs.size + 1) (exo (hp.objs.size + 1) C (some d))) (fun _ _ _ => False) :=
        ⟨_, v, rfl, upd_same, fun dx n1 n2 => ⟨rfl, dx, by rw [upd_ne n2] at n1; exact n1, n2, rfl⟩⟩
      refine wpAny_call (PySem.HandSPX.call_own PySem.F.excBase_ValueError (fun Y => PySem.HandSPX.refsVE_contains Y bmC hbm) (I1.kIn _ _ hC) (PySem.W.looks_findIn I1.kIn T.iC) (fun self => PySem.W.bind_fn I1.kIn self T.tI) (by show 1 ≤ sizeLine; decide)
        (codeAny_mono (FI.run _ X.stack _ _ ⟨[Value.ref (hp.objs.size + 1), u], []⟩ [Value.ref (hp.objs.size + 1), u] _ _ (fun _ _ _ => False) (hr.make C [u] []) (I2.env0.make C [u] []) (bI _ [Value.ref (hp.objs.size + 1), u] I2.kIn rfl) (show Vals [V.ref (hp.objs.size + 1), v] [Value.ref (hp.objs.size + 1), u] from .cons rfl (.cons r0 .nil)) pr) fun r s' hq' => ?_))
      cases r with
      | error er => exact hq'.elim
      | ok f2 =>
        cases f2 with
        | ret u2 =>
          obtain ⟨v2, H2, os2, bare2, un2, hok2, rv2, ev2, d, hd1, hda, eH⟩ := hq'
          subst ev2
          obtain ⟨h2, g2, d2, t2, os'⟩ := s'
          have ea : H2 (hp.objs.size + 1) = some (exo (hp.objs.size + 1) C (some d)) := by rw [eH, upd_same]
          have ed : H2 d = some (exd d [(fl, v)]) := by rw [eH, upd_ne hda, upd_same]
          obtain ⟨t0, G, J, kG, ge, hoe, na⟩ := mk_end0 (d2 := d2) (t2 := t2) I1 le1 grown un2 hok2 os2 bare2 ea ed hd1
          have eq2 : upd (del H2 (hp.objs.size + 1)) d (.xd [(fl, v)]) = upd H1 d (.xd [(fl, v)]) := by
            funext b
            by_cases hb : b = d
            · rw [hb, upd_same, upd_same]
            · rw [upd_ne hb, upd_ne hb]
              by_cases hb2 : b = hp.objs.size + 1
              · rw [hb2, del_same, fresh]
              · rw [del_ne hb2, eH, upd_ne hb2, upd_ne hb, upd_ne hb2]
          rw [eq2] at J na
          exact ⟨rv2, hp.objs.size + 1, _, _, ⟨G, g2, d2, t2, os'⟩, _, .ref C, some d, rfl, J, kG, ge, hoe, ⟨rfl, rfl, fun ws z => by cases z; rfl⟩, rfl, rfl, na, rfl, bare2, raises_own T.oex.exC T.oex.tyC, q1 d hd1⟩
        | next => exact False.elim hq'
        | brk => exact False.elim hq'
        | cont => exact False.elim hq'
end
end CHX

namespace CHX
open PySem PySem.Spec PyProof.Rows L2 L2H
/-! ### defs that are handed the exception that is being handled: it is pinned, p -/
structure FnE (P : Program) (w : World) (K : PySem.W.Frag) (mg : Str → Option Value) (base : Heap) (CX : CXT) (k : Nat) (f : Addr) (fd : FuncData) (ps : List Str) (sp : Addr × Obj → Sp) : Prop where
  len : ∀ p vs H Q E, sp p vs H Q E → vs.length = ps.length
  run : ∀ (A : Around) (outer : List Env) (s : Shared) (H : Hp) (args : Args) (us : List Value) (vs : List V) (Q : VK) (E : XK) (p : Addr × Obj), RoomH k A → Hot1 A p → PinOk outer H s p → Env0 P w K mg base A outer s H → BindsTo s fd args (ps.zip us) → Vals vs us →
    sp p vs H Q E → codeAny (model P w) A (.call (.ref f) args) (CR CX outer P w H s Q E) s
theorem fnE_of {CX : CXT} {P : Program} {w : World} {K : PySem.W.Frag} {mg : Str → Option Value} {base : Heap} {k : Nat} {f : Addr} {name qual : Str} {params : Arguments} {body : List Stmt} {scope : Scope} {fd : FuncData} {N ps : List Str} {sp : Addr × Obj → Sp}
    (F : FunD K name qual params body scope [] [] f fd) (S : FnScope N ps scope) (len : ∀ p vs H Q E, sp p vs H Q E → vs.length = ps.length)
    (hbody : ∀ (cdv : Value) (A : Around) (outer : List Env) (s : Shared) (H : Hp) (vs : List V) (Q : VK) (E : XK) (p : Addr × Obj), Hot1 A p → RoomH k (A.deeper (envOfC qual scope s.heap.objs.size f cdv)) → sp p vs H Q E →
      ∃ t, PSs (cxH CX P w K mg base N qual scope f cdv A outer s H E p) body t ∧ t { nx := fun _ H' => Q .non H', rt := Q } (L2.start N vs) H) : FnE P w K mg base CX (k + 1) f fd ps sp := by
  obtain ⟨oc, od, dV, kV, doc, pm, an, cdv, ct, osl, rfl, lk, hcd, _, _⟩ := F.ex
  refine ⟨len, fun A outer s H args us vs Q E p room hot pin e0 bind rel pr => ?_⟩
  have many := len _ _ _ _ _ pr
  have there := e0.mod.kin.keeps fun b o z => (e0.bs b o z).1
  have kinds : ∀ y ∈ ps.zip us, scope.names.lookup y.1 = some .local ∨ (scope.names.lookup y.1 = some .cell ∧ ((cellsFrom (s.heap.objs.size + 1) scope.names []).lookup y.1).isSome = true) := by
    rintro ⟨n, v⟩ hy
    exact (S.par n (List.of_mem_zip hy).1).imp id fun q => ⟨q, PySem.W.cellsFrom_some _ _ _ (.inl q)⟩
  refine codeAny_call_function room.depth (there _ _ lk) rfl S.co S.gen rfl (PySem.W.codeRec_of there hcd) (bind _ _ _ _ (wpAny_newFunctionEnv_cells S.kind kinds fun env he s1 x => ?_))
  subst he
  obtain ⟨t, ht, q0⟩ := hbody cdv A outer s H vs Q E p hot (room.deeper _) pr
  refine ⟨(e0.mod.nolimit.keeps fun b o z => (e0.bs b o z).1).keeps x.toInCall.keep, codeAny_func (wpAny_mono (ht.run [] s1 (L2.start N vs) H _ (inv_startH S pin e0 many rel x) q0) (fun fl s' hs => ?_) fun _ _ z => z)⟩
  cases fl with
  | ret u =>
    obtain ⟨v, _, H', J, rv, q⟩ := hs
    exact ⟨v, H', J.os, J.bare, J.base, J.hok, rv, q⟩
  | next =>
    obtain ⟨_, H', J, q⟩ := hs
    exact ⟨.non, H', J.os, J.bare, J.base, J.hok, rfl, q⟩
  | brk =>
    obtain ⟨_, _, _, z⟩ := hs
    exact z.elim
  | cont =>
    obtain ⟨_, _, _, z⟩ := hs
    exact z.elim
/-- such a def called by its name -/
structure CalE (P : Program) (w : World) (K : PySem.W.Frag) (mg : Str → Option Value) (base : Heap) (CX : CXT) (k : Nat) (x : Str) (sp : Addr × Obj → Sp) : Prop where
  ex : ∃ (f : Addr) (fd : FuncData) (ps : List Str), FnE P w K mg base CX k f fd ps sp ∧ mg x = some (.ref f) ∧ PySem.W.keepIn K (.ref f) = true ∧ Binds K fd ps []
theorem pe_calE {X : Cx} {CX : CXT} {k j : Nat} {sp : Addr × Obj → Sp} {E : L2.St → XK} {x : Str} {q pos : Pos} {e : Expr} {es : List Expr} {t : TA} {p : Addr × Obj} (c : CalE X.prog X.w X.K X.mg X.base CX k x sp) (hr : RoomH j X.A) (hk : k ≤ j) (hot : Hot1 X.A p) (hp : p ∈ X.pn) (hg : Gl X x)
    (hx : ∀ σ, PassesAt CX X σ (E σ)) (ha : PA X (e :: es) t) (hdb : (x == ("__debug__" : Str)) = false := by decide) (he : starEach (e :: es) X.env = (false, eval e X.env) :: starEach es X.env := by rfl) (hpl : (backTo pos (starEach es X.env)).any (·.1) = false := by rfl) :
    PE X (.Call (.Name x q) (e :: es) [] pos) (tCallS (sp p) E t) := by
  obtain ⟨f, fd, ps, F, hm, kp, hb⟩ := c.ex
  refine ⟨fun pins s σ H Q I h => wpAny_Call_Name_kw (ld_glob I hg hm ?_ hdb)⟩
  refine PySem.W.callWith_K (h₀ := X.base) I.ok.mod.kin kp (thn (ha.run pos pins s σ H _ I h) fun us s1 ⟨vs, H1, J, r, pr⟩ => ⟨J.kIn, ?_⟩) he hpl
  have many : us.length = ps.length := by rw [← r.length]; exact F.len _ _ _ _ _ pr
  have bind := hb s1 us J.kIn (by rw [List.append_nil]; exact many)
  rw [List.append_nil] at bind
  obtain ⟨g1, g2, g3, g4, g5⟩ := J.pin p (List.mem_append_left _ hp)
  refine wpAny_call (codeAny_mono (F.run X.A X.stack s1 H1 ⟨us, []⟩ us vs Q (E σ) p (hr.mono hk) hot ⟨g1, g2, fun hm => (List.mem_cons.mp (J.stkSub p.1 hm)).elim g3 g4, g5⟩ J.env0 bind r pr) fun z s' hq => ?_)
  cases z with
  | error u => exact hx σ pins H1 s1 u s' J hq
  | ok fl =>
    cases fl with
    | ret u => exact J.after hq
    | next => exact hq.elim
    | brk => exact hq.elim
    | cont => exact hq.elim
/-! ### what such a def does with the exception -/
/-- the pinned exception: its class D, its own dict dd -/
structure PinIs (p : Addr × Obj) (D dd : Addr) : Prop where
  cls : p.2.cls = .ref D
  dict : p.2.dict = some dd
  data : ∃ vs, p.2.data = .fields vs
theorem pin_inst {X : Cx} {pins : List (Addr × Obj)} {σ : L2.St} {H : Hp} {s : Shared} {p : Addr × Obj} {D dd : Addr} {fs : List (Str × V)} (I : Inv X pins σ H s) (hp : p ∈ X.pn) (pi : PinIs p D dd) (hd : H dd = some (.xd fs)) :
    ∃ (mA : Str → Option Value) (od : Obj), PySem.W.InstAt s.heap p.1 p.2 D (some od) ∧ (∀ f, RelO (fs.lookup f) (mA f)) ∧ ∀ n, PySem.W.lookIn n od = some (mA n) := by
  obtain ⟨g1, _⟩ := I.pin p (List.mem_append_left _ hp)
  have hx : ObjOk X.prog X.w H s.heap dd (.xd fs) := I.hok dd _ hd
  obtain ⟨mA, hns, hr⟩ := hx
  obtain ⟨od, ho, hl⟩ := lookIn_ns hns
  obtain ⟨vs, hv⟩ := pi.data
  exact ⟨mA, od, ⟨g1, pi.cls, by unfold PySem.W.notCls; rw [hv] <;> rfl, by rw [pi.dict]; exact ho⟩, hr, hl⟩
/-- isinstance(e, c) -/
def rIsP (K : PySem.W.Frag) (p : Addr × Obj) (D dd : Addr) : List V → Hp → VK → Prop := fun xs H Q => ∃ (c : V) (cv : Value) (b : Bool) (fs : List (Str × V)), xs = [.ref p.1, c] ∧ H dd = some (.xd fs) ∧ (∀ u, RelV c u → u = cv) ∧ PySem.W.kitOne K (.ref D) cv = some b ∧ Q (.bl b) H
theorem call_isP {X : Cx} {p : Addr × Obj} {D dd : Addr} (hp : p ∈ X.pn) (pi : PinIs p D dd) (C : L2.ExcC X.K D) : CallR X (.builtin "isinstance") (rIsP X.K p D dd) := by
  intro pins s σ H xs us Q I r h
  obtain ⟨c, cv, b, fs, rfl, hd, hcv, e, q⟩ := h
  cases r with
  | cons rx rr =>
    cases rr with
    | cons rt rr =>
      cases rr
      cases rx
      have ec := hcv _ rt
      subst ec
      obtain ⟨mA, od, J, _, _⟩ := pin_inst I hp pi hd
      exact PySem.W.kia_one (PySem.W.kitx_exc (by obtain ⟨cdD, hcD, _⟩ := PySem.W.any_some C.hd; rw [hcD] <;> rfl) C.hg C.hk C.hs C.ha C.hn C.ht C.hm) I.kIn J e (fun z => nomatch z) fun tk => ⟨.bl b, H, I.kept (t' := tk) fun _ _ z => z, rfl, q⟩
/-- e.f -/
def tXp (p : Addr × Obj) (dd : Addr) (f : Str) (te : TE) : TE := fun σ H Q => te σ H fun x H1 => x = .ref p.1 ∧ ∃ (fs : List (Str × V)) (v : V), H1 dd = some (.xd fs) ∧ fs.lookup f = some v ∧ Q v H1
theorem pe_xp {X : Cx} {p : Addr × Obj} {D dd : Addr} {e : Expr} {te : TE} {pos : Pos} {n : Str} (hp : p ∈ X.pn) (pi : PinIs p D dd) (T : XfC X.K D) (hno : PySem.W.findIn X.K (.ref D) n = some none) (he : PE X e te) (hb : attributeBase e n X.env (eval e X.env) = eval e X.env := by rfl) :
    PE X (.Attribute e n pos) (tXp p dd n te) := by
  refine ⟨fun pins s σ H Q I h => attr_of hb (thn (he.run pins s σ H _ I h) fun u s1 hh => ?_)⟩
  obtain ⟨x, H1, J, rx, ex, fs, v, hd, l, q⟩ := hh
  subst ex
  obtain rfl : u = Value.ref p.1 := rx
  obtain ⟨mA, od, inst, hr, hl⟩ := pin_inst J hp pi hd
  obtain ⟨u, hu, ru⟩ := RelO.some_of (v := v) (o := mA n) (by rw [← l]; exact hr n)
  exact HandSPX.exc_get J.kIn inst T.ga T.gg T.exC (PySem.W.findObj_own T.hdC hno rfl (by rw [hl, hu])) (handed_of ru) ⟨v, H1, J.tok _, ru, q⟩
end CHX

namespace CHX
open PySem PySem.Spec PyProof.Rows L2 L2H
/-! ### a comprehension over a range, where an exception is being handled -/
abbrev blkH (X : Cx) (s : Shared) (H : Hp) (scope : Scope) (cenv : Env) (fp : List Addr) : Cx := { X.blk s H scope cenv fp with pn := X.pn }
theorem blkH_start {X : Cx} {pins : List (Addr × Obj)} {σ : L2.St} {H : Hp} {s s4 : Shared} {scope : Scope} {cenv : Env} {fp : List Addr} {σ' : L2.St} (I : Inv X pins σ H s) (J : Inv (X.blk s H scope cenv fp) [] σ' H s4) (hc : cenv.locals = s.heap.objs.size) (k : ∀ b o, s.heap.get? b = some o → s4.heap.get? b = some o) :
    Inv (blkH X s H scope cenv fp) [] σ' H s4 := by
  refine ⟨⟨J.ok.mod, J.ok.kind, J.ok.glob, J.ok.blt, J.ok.above, J.ok.inj, J.ok.has, J.ok.cab, J.ok.hd, J.ok.frames, J.ok.stk, J.ok.exf, J.ok.bs, J.ok.bsz, J.ok.noex, J.ok.exfs, J.ok.funs, J.ok.frf⟩, J.os, J.bare, J.base, J.loc, J.cell, J.free, J.freeC, fun p hp => ?_, J.hok, J.len⟩
  have hp2 : p ∈ X.pn := by simpa using (show p ∈ X.pn ++ ([] : List (Addr × Obj)) from hp)
  obtain ⟨g1, g2, g3, g4, g5⟩ := I.pin p (List.mem_append_left _ hp2)
  refine ⟨k _ _ g1, g2, ?_, fun hm => (List.mem_cons.mp (I.stkSub p.1 hm)).elim g3 g4, g5⟩
  show p.1 ≠ cenv.locals
  rw [hc]
  exact Nat.ne_of_lt (Heap.lt_size g1)
theorem lcH_core {X : Cx} {pins : List (Addr × Obj)} {s : Shared} {σ : L2.St} {H : Hp} {Q : VK} {elt tg iter : Expr} {ifs : List Expr} {scope : Scope} {own : List (Str × Nat)} {pos pos' : Pos} {wi : TI} {g : TG} {tt : TT} {te : TE} {Qf : Value → Shared → Prop}
    (hc : HotC X) (hN : X.N.Nodup) (I : Inv X pins σ H s) (hi : PIH X tg iter wi) (ok : BlkOk X.N X.env.scope scope own)
    (hg : ∀ (s : Shared) (H : Hp) (C : Addr) (cl : List (Str × Addr)) (fp : List Addr), PG (blkH X s H scope (compEnvC scope cl C X.env) fp) tg g) (ht : ∀ (s : Shared) (H : Hp) (C : Addr) (cl : List (Str × Addr)) (fp : List Addr), PTs (blkH X s H scope (compEnvC scope cl C X.env) fp) ifs tt)
    (he : ∀ (s : Shared) (H : Hp) (C : Addr) (cl : List (Str × Addr)) (fp : List Addr), PE (blkH X s H scope (compEnvC scope cl C X.env) fp) elt te) (hs : ∀ x, foldedSetIterable iter X.env x = pure x)
    (h : tLc wi g tt te (own.map (·.2)) σ H Q)
    (fin : ∀ D C s' m H', Inv X pins σ H' s' → Q (.ref D) H' → s'.heap.Ns C m → FpOk X pins H' C → compPost (model X.prog X.w) X.A X.xe none Qf (.ref D) C (.ok .next) s') :
    wpAny (model X.prog X.w) X.A (comprehension (.ListComp elt [⟨tg, iter, ifs, 0⟩] scope pos) scope X.env pos' (newList []) false (eval iter X.env) none) Qf X.xe s := by
  have frees : ∀ y ∈ scope.names, y.2 = .free → ∃ c, X.env.cells.lookup y.1 = some c := fun y hy e => (ok.free y hy e).elim (fun z => I.ok.has _ (.inl z)) fun z => I.ok.has _ (.inr z)
  refine wpAny_comprehension_free (use := none) rfl hs (closure_ok frees) ok.kind (fun y hy e => by rw [ok.uniq y hy, e]) (thn (hi.run pins s σ H _ I h) fun xv s1 hx => thn hx fun itv s2 h2 => ?_)
  obtain ⟨it, fp, tn, J, H2, eit, I2, T, st2, f2, q⟩ := h2
  subst eit
  refine wpAny_newObj_type (newEnv_comp ?_) (by show 0 ≤ sizeLine; decide)
  generalize hD : s2.heap.objs.size = D
  have freeD : H2 D = none := I2.hok.fresh (Nat.le_of_eq hD)
  obtain ⟨W, ⟨m0, w0⟩, turn⟩ := q D freeD
  generalize hs3 : ({ s2 with heap := s2.heap.push { cls := .type "list", data := .seq ([] : List Value).toArray } } : Shared) = s3
  have heap3 : s3.heap = s2.heap.push { cls := .type "list", data := .seq ([] : List Value).toArray } := by rw [← hs3]
  have I3 : Inv X pins σ (upd H2 D (.lst [])) s3 := by
    rw [← hs3]
    exact I2.laid (t' := s2.toks) (fun b o e => Heap.get?_push_of_some _ e) (Nat.le_of_eq hD) ⟨Nat.zero_le _, [], 0, .nil, by rw [← hD]; exact Heap.get?_push_size _ rfl⟩
  have small : ∀ b ∈ fp, b < s2.heap.objs.size := fun b hb => let ⟨_, e, _⟩ := T.obj _ _ st2 b hb; Heap.lt_size e
  have f3 : ∀ b ∈ fp, FpOk X pins (upd H2 D (.lst [])) b ∧ b < s3.heap.objs.size := fun b hb => by
    have lt := small b hb
    exact ⟨⟨by rw [upd_ne (by rw [← hD]; exact Nat.ne_of_lt lt)]; exact (f2 b hb).1, (f2 b hb).2⟩, by rw [heap3, Heap.size_push]; exact Nat.lt_succ_of_lt lt⟩
  have st3 : tn 0 s3.heap := T.keep _ _ _ st2 fun b _ o e => by rw [heap3]; exact Heap.get?_push_of_some _ e
  have I4 := blkH_start I3 (block_start I3 ok hN f3) rfl fun b o e => pushCells_keeps _ _ _ _ (Heap.get?_push_of_some _ e)
  have pg := hg s3 (upd H2 D (.lst [])) s3.heap.objs.size (cellsFrom (s3.heap.objs.size + 1) scope.names (cloFrom X.env.cells scope.names [])) fp
  have pt := ht s3 (upd H2 D (.lst [])) s3.heap.objs.size (cellsFrom (s3.heap.objs.size + 1) scope.names (cloFrom X.env.cells scope.names [])) fp
  have pe := he s3 (upd H2 D (.lst [])) s3.heap.objs.size (cellsFrom (s3.heap.objs.size + 1) scope.names (cloFrom X.env.cells scope.names [])) fp
  show codeAny _ _ (.compStart (.ListComp elt [⟨tg, iter, ifs, 0⟩] scope pos) 0 (.ref it) (.ref D) (compEnvC scope (cellsFrom (s3.heap.objs.size + 1) scope.names (cloFrom X.env.cells scope.names [])) s3.heap.objs.size X.env)) (compPost (model X.prog X.w) X.A X.xe none Qf (.ref D) s3.heap.objs.size) { s3 with heap := pushCells (s3.heap.push { cls := .type "dict", data := .dict #[] }) scope.names }
  have free3 : ∀ b ∈ fp, (upd H2 D (.lst [])) b = none := fun b hb => (f3 b hb).1.1
  generalize hce : compEnvC scope (cellsFrom (s3.heap.objs.size + 1) scope.names (cloFrom X.env.cells scope.names [])) s3.heap.objs.size X.env = ce at I4 pg pt pe ⊢
  have locs : ce.locals = s3.heap.objs.size := by subst hce; rfl
  generalize hH3 : upd H2 D (.lst []) = H3 at I3 I4 pg pt pe w0 free3 f3
  generalize hs4 : ({ s3 with heap := pushCells (s3.heap.push { cls := .type "dict", data := .dict #[] }) scope.names } : Shared) = s4 at I4 ⊢
  have st4 : tn 0 s4.heap := T.keep _ _ _ st3 fun b _ o e => by rw [← hs4]; exact pushCells_keeps _ _ _ _ (Heap.get?_push_of_some _ e)
  have hotB : HotC (blkH X s3 H3 scope ce fp) := hc
  have pins0 : ∀ {b : Addr}, b ∈ fp → ∀ p ∈ X.pn, p.1 ≠ b := fun {b} hb p hp => (f3 b hb).1.2.2.2.2.2 p (List.mem_append_left _ hp)
  have still : ∀ {σ' : L2.St} {H' : Hp} {s' : Shared}, Inv (blkH X s3 H3 scope ce fp) [] σ' H' s' → (∀ b ∈ fp, H' b = none) → ∀ b ∈ fp, FpOk (blkH X s3 H3 scope ce fp) [] H' b := fun {σ' H' s'} I' hn b hb =>
    ⟨hn b hb, (I'.ok.exf b hb).1, I'.ok.exfs b hb, .inl hb, fun x c e => (I'.ok.exf b hb).2 x c e, fun p hp => pins0 hb p (by simpa using (show p ∈ X.pn ++ ([] : List (Addr × Obj)) from hp))⟩
  suffices loop : codeAny (model X.prog X.w) X.A (.compLoop (.ListComp elt [⟨tg, iter, ifs, 0⟩] scope pos) 0 (.ref it) (.ref D) ce) (compPost (model X.prog X.w) X.A X.xe none Qf (.ref D) s3.heap.objs.size) s4 from codeAny_compStart_list loop (T.self X.A 0 _ _ _ st4 loop)
  refine compLoop_any (fun n s' => ∃ i H', Inv (blkH X s3 H3 scope ce fp) [] (wipe σ (own.map (·.2))) H' s' ∧ tn i s'.heap ∧ (∀ b ∈ fp, H' b = none) ∧ W i n H') ?_ m0 ⟨0, H3, I4, st4, free3, w0⟩
  rintro n s5 ⟨i, H5, I5, st5, n5, w5⟩
  rcases turn i n H5 w5 with ⟨stop, qq⟩ | ⟨go, Nx, hNx, step⟩
  · refine thnF (T.done (blkH X s3 H3 scope ce fp) rfl rfl rfl hotB i [] s5 _ H5 (fun _ _ => False) I5 (still I5 n5) st5 stop) fun r s6 ⟨hr, I6⟩ => ?_
    subst hr
    have I7 : Inv X pins σ H5 s6 := I3.call' (ch := fp) I6.os I6.base I6.hok I6.bare fun b hb => ⟨(f3 b hb).1.2.2.2.1, (f3 b hb).1.2.1, (f3 b hb).1.2.2.2.2.1, (f3 b hb).1.2.2.2.2.2⟩
    have noC : H5 s3.heap.objs.size = none := by
      have z : H5 ce.locals = none := I6.free
      rwa [locs] at z
    obtain ⟨m, hn, _⟩ := I6.loc
    have hn : s6.heap.Ns ce.locals m := hn
    rw [locs] at hn
    exact fin D s3.heap.objs.size s6 m H5 I7 qq hn (I3.fpOk (Nat.le_refl _) noC)
  · refine thnF (T.item (blkH X s3 H3 scope ce fp) rfl rfl rfl hotB i [] s5 _ H5 (fun _ _ => False) I5 (still I5 n5) st5 go) fun r s6 ⟨u, hr, h6⟩ => ?_
    subst hr
    refine thnF h6 fun _ s7 ⟨x, H7, I7, r7, y7, st7, n7⟩ => ?_
    have P7 := I7.pinned (still I7 n7) (T.obj _ _ st7)
    refine thnF (pg.run _ s7 _ H7 x u _ P7 r7 (step x H7 y7)) fun _ s8 ⟨σ8, H8, I8, hw8, q8⟩ => thnF (pt.run _ s8 σ8 H8 _ I8 q8) fun b s9 ⟨H9, I9, q9⟩ => ?_
    have next : ∀ {s' : Shared} {H' : Hp}, Inv (blkH X s3 H3 scope ce fp) ([] ++ pinsAt fp s7.heap) σ8 H' s' → Nx H' → ∃ m, m < n ∧ ∃ i H', Inv (blkH X s3 H3 scope ce fp) [] (wipe σ (own.map (·.2))) H' s' ∧ tn i s'.heap ∧ (∀ b ∈ fp, H' b = none) ∧ W i m H' := fun {s' H'} I' nx => by
      obtain ⟨m', hm, w'⟩ := hNx H' nx
      have held : ∀ b ∈ fp, ∀ o, s7.heap.get? b = some o → s'.heap.get? b = some o ∧ H' b = none := fun b hb o e => ((I'.pin (b, o) (List.mem_append_right _ (List.mem_append_right _ (mem_pinsAt hb e)))).imp id And.left)
      refine ⟨m', hm, i + 1, H', (I'.unpinned (pins := [])).weak (by rw [← hw8, wipe_length]) (fun j v e => ?_), T.keep _ _ _ st7 fun b hb o e => (held b hb o e).1, fun b hb => ?_, w'⟩
      · rw [← hw8] at e
        exact (wipe_some e).1
      · obtain ⟨o, e, _⟩ := T.obj _ _ st7 b hb
        exact (held b hb o e).2
    cases b with
    | false =>
      simp only [Bool.false_eq_true, if_false] at q9 ⊢
      exact next I9 q9
    | true =>
      simp only [if_true] at q9 ⊢
      refine thnF (pe.run _ s9 σ8 H9 _ I9 q9) fun z s10 ⟨yv, H10, I10, r10, acc, hD10, hz10, nx⟩ => ?_
      exact app_ok (X := blkH X s3 H3 scope ce fp) I10 hD10 hz10 r10 fun s11 I11 => next I11 nx
theorem pe_lcH {X : Cx} {elt tg iter : Expr} {ifs : List Expr} {scope : Scope} {own : List (Str × Nat)} {pos : Pos} {wi : TI} {g : TG} {tt : TT} {te : TE} (hc : HotC X) (hN : X.N.Nodup) (hi : PIH X tg iter wi) (ok : BlkOk X.N X.env.scope scope own)
    (hg : ∀ (s : Shared) (H : Hp) (C : Addr) (cl : List (Str × Addr)) (fp : List Addr), PG (blkH X s H scope (compEnvC scope cl C X.env) fp) tg g) (ht : ∀ (s : Shared) (H : Hp) (C : Addr) (cl : List (Str × Addr)) (fp : List Addr), PTs (blkH X s H scope (compEnvC scope cl C X.env) fp) ifs tt)
    (he : ∀ (s : Shared) (H : Hp) (C : Addr) (cl : List (Str × Addr)) (fp : List Addr), PE (blkH X s H scope (compEnvC scope cl C X.env) fp) elt te) (hs : ∀ x, foldedSetIterable iter X.env x = pure x := by intro _; rfl) :
    PE X (.ListComp elt [⟨tg, iter, ifs, 0⟩] scope pos) (tLc wi g tt te (own.map (·.2))) := by
  refine ⟨fun pins s σ H Q I h => ?_⟩
  rw [eval_ListComp]
  refine lcH_core hc hN I hi ok hg ht he hs h fun D C s' m H' J q hn ⟨f0, f1, _, f3, f4, f5⟩ => ⟨m, hn, fun h'' sb => ⟨.ref D, H', J.turned (t' := s'.toks) (fun b o hb e => (sb.2 b hb).trans e) f0 f1 f3 f4 f5, rfl, q⟩⟩
end CHX

namespace CHX
open PySem PySem.Spec PyProof.Rows L2 Evl
/-! ### calls by name -/
structure Cal (P : Program) (w : World) (K : PySem.W.Frag) (mg : Str → Option Value) (base : Heap) (k : Nat) (x : Str) (sp : Sp) : Prop where
  ex : ∃ (f : Addr) (fd : FuncData) (ps : List Str), FnOk P w K mg base (L2N.CX P w) k f fd ps sp ∧ mg x = some (.ref f) ∧ PySem.W.keepIn K (.ref f) = true ∧ Binds K fd ps []
structure Mak (P : Program) (w : World) (K : PySem.W.Frag) (mg : Str → Option Value) (base : Heap) (k : Nat) (x : Str) (C : Addr) (sp : Sp) : Prop where
  ex : ∃ (f : Addr) (fd : FuncData) (ps : List Str), Mk K C f ∧ FnOk P w K mg base (L2N.CX P w) k f fd ps sp ∧ mg x = some (.ref C) ∧ Binds K fd ps []
structure Met (P : Program) (w : World) (K : PySem.W.Frag) (mg : Str → Option Value) (base : Heap) (k : Nat) (C : Addr) (m : Str) (sp : Sp) : Prop where
  ex : ∃ (f : Addr) (fd : FuncData) (ps : List Str), Cls K C ∧ Meth K C m f ∧ FnOk P w K mg base (L2N.CX P w) k f fd ps sp ∧ Binds K fd ps []
section
variable {X : Cx} {W : WX} {k j : Nat} {sp : Sp} {x m : Str} {q pos apos : Pos} {e o : Expr} {es : List Expr} {t : TA} {ta : TE} {C : Addr}
theorem pe_cal (c : Cal X.prog X.w X.K X.mg X.base k x sp) (hr : Room j X.A) (hk : k ≤ j) (tk : L2N.Takes X W) (hg : Gl X x) (ha : PA X (e :: es) t) (hdb : (x == ("__debug__" : Str)) = false := by decide)
    (he : starEach (e :: es) X.env = (false, eval e X.env) :: starEach es X.env := by rfl) (hpl : (backTo pos (starEach es X.env)).any (·.1) = false := by rfl) : PE X (.Call (.Name x q) (e :: es) [] pos) (tCallS sp (WE W) t) := by
  obtain ⟨f, fd, ps, F, hm, kp, b⟩ := c.ex
  exact pe_callS F (hr.mono hk) hg hm kp b (fun σ => L2N.passAt tk σ) ha hdb he hpl
theorem pass0N {X : Cx} (σ : L2.St) : PassesAt (L2N.CX X.prog X.w) X σ (fun _ _ _ => False) := fun _ _ _ _ _ _ h => by
  obtain ⟨_, _, _, _, _, _, _, _, _, _, _, _, z⟩ := h
  exact z.elim
theorem passes0N {X : Cx} : Passes (L2N.CX X.prog X.w) X (fun _ _ _ => False) := fun _ _ _ _ _ _ _ h => by
  obtain ⟨_, _, _, _, _, _, _, _, _, _, _, _, z⟩ := h
  exact z.elim
/-- nothing is let out -/
theorem pe_cal0 (c : Cal X.prog X.w X.K X.mg X.base k x sp) (hr : Room j X.A) (hk : k ≤ j) (hg : Gl X x) (ha : PA X (e :: es) t) (hdb : (x == ("__debug__" : Str)) = false := by decide)
    (he : starEach (e :: es) X.env = (false, eval e X.env) :: starEach es X.env := by rfl) (hpl : (backTo pos (starEach es X.env)).any (·.1) = false := by rfl) : PE X (.Call (.Name x q) (e :: es) [] pos) (tCallS sp (fun _ _ _ _ => False) t) := by
  obtain ⟨f, fd, ps, F, hm, kp, b⟩ := c.ex
  exact pe_callS F (hr.mono hk) hg hm kp b (fun σ => pass0N σ) ha hdb he hpl
theorem pe_mak0 (c : Mak X.prog X.w X.K X.mg X.base k x C sp) (hr : Room j X.A) (hk : k + 1 ≤ j) (hg : Gl X x) (ha : PA X (e :: es) t) (hdb : (x == ("__debug__" : Str)) = false := by decide)
    (he : starEach (e :: es) X.env = (false, eval e X.env) :: starEach es X.env := by rfl) (hpl : (backTo pos (starEach es X.env)).any (·.1) = false := by rfl) : PE X (.Call (.Name x q) (e :: es) [] pos) (tMake C sp [] (fun _ _ _ => False) t) := by
  obtain ⟨f, fd, ps, M, F, hm, b⟩ := c.ex
  exact pe_make M F (hr.mono hk) hg hm b .nil passes0N ha hdb he hpl
theorem pe_metZ0 {pl : Sem Bool} (c : Met X.prog X.w X.K X.mg X.base k C m sp) (hr : Room j X.A) (hk : k ≤ j) (he : PE X o ta)
    (ht : eval (.Call (.Attribute o m apos) [] [] pos) X.env = (do
      let ov ← eval o X.env
      standAt apos.atName
      let (f, first) ← holding [ov] (getMethod ov m pl)
      callWith pos f first (backTo pos (starEach [] X.env)) (backToKw pos (keywordEach [] X.env))) := by rfl) :
    PE X (.Call (.Attribute o m apos) [] [] pos) (tMeth C m sp [] (fun _ _ _ => False) ta tNil) := by
  obtain ⟨f, fd, ps, c1, c2, F, b⟩ := c.ex
  exact pe_meth0 he c1 c2 F (hr.mono hk) b .nil passes0N ht
theorem pe_mak (c : Mak X.prog X.w X.K X.mg X.base k x C sp) (hr : Room j X.A) (hk : k + 1 ≤ j) {E : XK} (tk : L2N.Takes X W) (hW : ∀ cls d σ H, E cls d H → W cls d σ H) (hg : Gl X x) (ha : PA X (e :: es) t) (hdb : (x == ("__debug__" : Str)) = false := by decide)
    (he : starEach (e :: es) X.env = (false, eval e X.env) :: starEach es X.env := by rfl) (hpl : (backTo pos (starEach es X.env)).any (·.1) = false := by rfl) : PE X (.Call (.Name x q) (e :: es) [] pos) (tMake C sp [] E t) := by
  obtain ⟨f, fd, ps, M, F, hm, b⟩ := c.ex
  exact pe_make M F (hr.mono hk) hg hm b .nil (L2N.passes_call tk hW) ha hdb he hpl
theorem pe_met0 {pl : Sem Bool} {E : XK} (c : Met X.prog X.w X.K X.mg X.base k C m sp) (hr : Room j X.A) (hk : k ≤ j) (tk : L2N.Takes X W) (hW : ∀ cls d σ H, E cls d H → W cls d σ H) (he : PE X o ta)
    (ht : eval (.Call (.Attribute o m apos) [] [] pos) X.env = (do
      let ov ← eval o X.env
      standAt apos.atName
      let (f, first) ← holding [ov] (getMethod ov m pl)
      callWith pos f first (backTo pos (starEach [] X.env)) (backToKw pos (keywordEach [] X.env))) := by rfl) :
    PE X (.Call (.Attribute o m apos) [] [] pos) (tMeth C m sp [] E ta tNil) := by
  obtain ⟨f, fd, ps, c1, c2, F, b⟩ := c.ex
  exact pe_meth0 he c1 c2 F (hr.mono hk) b .nil (L2N.passes_call tk hW) ht
theorem pe_met {pl : Sem Bool} {E : XK} (c : Met X.prog X.w X.K X.mg X.base k C m sp) (hr : Room j X.A) (hk : k ≤ j) (tk : L2N.Takes X W) (hW : ∀ cls d σ H, E cls d H → W cls d σ H) (he : PE X o ta) (ha : PA X (e :: es) t)
    (hst : starEach (e :: es) X.env = (false, eval e X.env) :: starEach es X.env := by rfl) (hpl : (backTo pos (starEach es X.env)).any (·.1) = false := by rfl)
    (ht : eval (.Call (.Attribute o m apos) (e :: es) [] pos) X.env = (do
      let ov ← eval o X.env
      standAt apos.atName
      let (f, first) ← holding [ov] (getMethod ov m pl)
      callWith pos f first (backTo pos (starEach (e :: es) X.env)) (backToKw pos (keywordEach [] X.env))) := by rfl) :
    PE X (.Call (.Attribute o m apos) (e :: es) [] pos) (tMeth C m sp [] E ta t) := by
  obtain ⟨f, fd, ps, c1, c2, F, b⟩ := c.ex
  exact pe_meth he c1 c2 F (hr.mono hk) b .nil (L2N.passes_call tk hW) ha hst hpl ht
end
/-! ### a list or a tuple -/
def Sq (K : PySem.W.Frag) (H : Hp) (a : Addr) (xs : List V) : Prop := SqL K H a xs ∨ SqT K H a xs
theorem ex_s {K : PySem.W.Frag} {H H' : Hp} {a : Addr} {xs : List V} (e : Ex H H') (h : Sq K H a xs) : Sq K H' a xs := h.imp (ex_l e) (ex_t e)
def iSeq (K : PySem.W.Frag) (tl : TE) : TI := fun σ H R => tl σ H fun x H1 => ∃ a, x = .ref a ∧ (((∃ xs, SqL K H1 a xs) ∧ R (Itl K a) H1) ∨ ((∃ xs, SqT K H1 a xs) ∧ R (Itt K a) H1))
section
variable {X : Cx} {tg : Expr}
theorem pi_seq {l : Expr} {tl : TE} (hl : PE X l tl) : PI X tg l (iSeq X.K tl) := by
  refine ⟨fun pins s σ H R I h => ?_⟩
  refine thn (hl.run pins s σ H _ I h) fun v s1 ⟨x, H1, I1, r1, q1⟩ => ?_
  obtain ⟨a, e, q⟩ := q1
  subst e
  cases r1
  rcases q with ⟨⟨xs, hq⟩, q⟩ | ⟨⟨xs, hq⟩, q⟩
  · obtain ⟨its, rv, p, hz⟩ := I1.list hq
    refine wpAny_pyIter_list p.isList ?_
    refine ⟨s1.heap.objs.size, [s1.heap.objs.size], _, _, H1, rfl, I1.kept (t' := s1.toks) fun b o e => Heap.get?_push_of_some _ e, turn_list a _, ⟨_, Heap.get?_push_size _ rfl, rfl, rfl⟩, fun b hb => ?_, q⟩
    have e : b = s1.heap.objs.size := by simpa using hb
    subst e
    exact I1.fpOk (Nat.le_refl _) (I1.hok.fresh (Nat.le_refl _))
  · obtain ⟨its, rv, p, hz⟩ := I1.tuple hq
    refine wpAny_pyIter_tuple (show s1.heap.IsTuple a its.toArray from p) ?_
    refine ⟨s1.heap.objs.size, [s1.heap.objs.size], _, _, H1, rfl, I1.kept (t' := s1.toks) fun b o e => Heap.get?_push_of_some _ e, turn_tuple a _, ⟨_, Heap.get?_push_size _ rfl, rfl, rfl⟩, fun b hb => ?_, q⟩
    have e : b = s1.heap.objs.size := by simpa using hb
    subst e
    exact I1.fpOk (Nat.le_refl _) (I1.hok.fresh (Nat.le_refl _))
def rIxQ (K : PySem.W.Frag) : R2 := fun x y H Q => rIxL K x y H Q ∨ rIxT K x y H Q
theorem ix_q : IxR X (rIxQ X.K) := ix_list.or ix_tup
/-- min of a tuple of ints -/
def rMinT (K : PySem.W.Frag) : List V → Hp → VK → Prop := fun vs H Q => ∃ (a : Addr) (ns : List Int), vs = [V.ref a] ∧ SqT K H a (ns.map V.int) ∧ 0 < ns.length ∧ ∀ m, m ∈ ns → (∀ y, y ∈ ns → m ≤ y) → Q (.int m) H
theorem iter_intTup {prog : Program} {w : World} {A : Around} {E : Value → Shared → Prop} {s : Shared} {l : Addr} {xs : Array (Int × Tok)} {Q : Value → Shared → Prop} (hl : s.heap.IsTuple l (intItems xs))
    (h : ∀ s₂ : Shared, s₂ = { s with heap := s.heap.push { cls := .type "tuple_iterator", data := .fields #[.ref l, .int 0 0] } } →
      (s₂.heap.IsTupleIter s.heap.objs.size l 0 ∧ s₂.heap.IsTuple l (intItems xs)) → (∀ b ∈ [s.heap.objs.size, l], b < s₂.heap.objs.size) → l ≠ s.heap.objs.size → Q (.ref s.heap.objs.size) s₂) :
    wpAny (model prog w) A (pyIter (.ref l)) Q E s := by
  have hlt : l < s.heap.objs.size := by obtain ⟨_, e, _⟩ := hl; exact Heap.lt_size e
  refine wpAny_pyIter_tuple hl (h _ rfl ⟨⟨_, Heap.get?_push_size _ rfl, rfl, rfl⟩, hl.push _⟩ (fun b hb => ?_) (Nat.ne_of_lt hlt))
  show b < (s.heap.push _).objs.size
  rw [Heap.size_push]
  rcases List.mem_cons.mp hb with rfl | hb
  · exact Nat.lt_succ_self _
  · rcases List.mem_cons.mp hb with rfl | hb
    · exact Nat.lt_succ_of_lt hlt
    · cases hb
theorem min_intTup {prog : Program} {w : World} {A : Around} {E : Value → Shared → Prop} {s : Shared} {l : Addr} {xs : Array (Int × Tok)} {Q : Value → Shared → Prop} (hh : A.handled = none) (hl : s.heap.IsTuple l (intItems xs)) (hne : 0 < xs.size)
    (h : ∀ v h' tk, (intItems xs)[argBest (fun i j => decide (numAt xs i < numAt xs j)) (xs.size - 1)]? = some v → (∀ b o, s.heap.get? b = some o → h'.get? b = some o) → Q v { s with heap := h', toks := tk }) :
    wpAny (model prog w) A (call (.builtin "min") [.ref l]) Q E s := by
  refine call_min_walk (iter_intTup hl fun s₂ e st hfp hlI => ?_)
  subst e
  refine ⟨_, _, _, _, _, _, _, rfl, Walks.tuple (A := A.in1) hh _ l hlI (intItems xs), st, hfp, by simpa [intItems] using hne, CmpOf.ints_lt (numAt xs) (fun _ _ => intItems_at), fun v h' tk hP hk => ?_⟩
  refine h v h' tk (by simpa [intItems] using hP) fun b o e => hk b o (fun hm => ?_) (Heap.get?_push_of_some _ e)
  rcases List.mem_cons.mp hm with e1 | hm
  · exact absurd (e1 ▸ Heap.lt_size e) (Nat.lt_irrefl _)
  · cases hm
theorem cr_minT (hc : X.calm = true) : CallR X (.builtin "min") (rMinT X.K) := by
  intro pins s σ H vs us Q I r h
  obtain ⟨a, ns, rfl, hs, hne, q⟩ := h
  obtain ⟨its, rv, hl, _⟩ := I.tuple hs
  rw [Vals.ref1 r]
  have hi := rv.ints
  obtain ⟨xs, e⟩ := hi.allInts.items
  have hn : numsOf (intItems xs).toList = ns := by rw [← e]; exact hi.numsOf
  rw [nums_intItems] at hn
  subst hn
  rw [e] at hl
  have hsz : 0 < xs.size := by simpa using hne
  refine min_intTup (I.ok.hd hc) hl hsz fun v h' tk hv hk => ?_
  obtain ⟨t, rfl⟩ := intItems_at hv
  obtain ⟨h1, h2⟩ := argBest_lt (numAt xs) (xs.size - 1)
  refine ⟨.int _, H, I.kept hk, ⟨_, rfl⟩, q _ ?_ fun a ha => ?_⟩
  · rw [numAt_eq]; exact PySem.getD_mem (by rw [List.length_map, Array.length_toList]; omega)
  · obtain ⟨j, hj, rfl⟩ := mem_getD ha
    rw [List.length_map, Array.length_toList] at hj
    rw [← numAt_eq]; exact h2 j (by omega)
end
/-! ### what evaluates to what: more -/
section
variable {K : PySem.W.Frag} {σ : L2.St} {H H' : Hp} {ta tb te tx tl : TE} {t u : TT} {x y z v : V} {r : R2} {a : Addr} {xs ys : List V}
def RetU (xs : List V) (H : Hp) (Q : VK) : Prop := ∀ p H2, H p = none → Ex H H2 → H2 p = some (.tup xs) → Q (.ref p) H2
theorem RetU.go {xs : List V} {Q : VK} (k : RetU xs H Q) (e : Ex H H') {p : Addr} {H2 : Hp} (hp : H' p = none) (e2 : Ex H' H2) (h : H2 p = some (.tup xs)) : Q (.ref p) H2 := k p H2 (fresh_back e hp) (e.trans e2) h
theorem EvU.mono (e : Ex H H') (h : EvU te σ H xs) : EvU te σ H' xs := fun H1 a Q q => h H1 (e.trans a) Q q
theorem ev_callS {sp : Sp} {E : L2.St → XK} {tg : TA} {vs : List V} (h : EvA tg σ H vs) (hs : ∀ H1, Ex H H1 → ∀ Q, RetV v H1 Q → sp vs H1 Q (E σ)) : Ev (tCallS sp E tg) σ H v := fun H1 e Q q =>
  h H1 e _ fun H2 e2 => hs H2 (e.trans e2) Q fun H3 e3 => q H3 (e2.trans e3)
theorem el_callS {sp : Sp} {E : L2.St → XK} {tg : TA} {vs : List V} (h : EvA tg σ H vs) (hs : ∀ H1, Ex H H1 → ∀ Q, RetL xs H1 Q → sp vs H1 Q (E σ)) : EvL (tCallS sp E tg) σ H xs := fun H1 e Q q =>
  h H1 e _ fun H2 e2 => hs H2 (e.trans e2) Q fun p H3 n e3 hp => q p H3 (fresh_back e2 n) (e2.trans e3) hp
theorem eu_callS {sp : Sp} {E : L2.St → XK} {tg : TA} {vs : List V} (h : EvA tg σ H vs) (hs : ∀ H1, Ex H H1 → ∀ Q, RetU xs H1 Q → sp vs H1 Q (E σ)) : EvU (tCallS sp E tg) σ H xs := fun H1 e Q q =>
  h H1 e _ fun H2 e2 => hs H2 (e.trans e2) Q fun p H3 n e3 hp => q p H3 (fresh_back e2 n) (e2.trans e3) hp
/-- arguments, of whatever is known of them afterwards -/
def EvB (ta : TA) (σ : L2.St) (H : Hp) (P : List V → Hp → Prop) : Prop := ∀ H1, Ex H H1 → ∀ Q : List V → Hp → Prop, (∀ vs H2, Ex H1 H2 → P vs H2 → Q vs H2) → ta σ H1 Q
theorem eb_nil : EvB tNil σ H fun vs _ => vs = [] := fun H1 _ Q q => q [] H1 (Ex.refl H1) rfl
theorem eb_v {tr : TA} {P : List V → Hp → Prop} (h : Ev te σ H v) (hr : ∀ H1, Ex H H1 → EvB tr σ H1 P) : EvB (tCons te tr) σ H fun vs H2 => ∃ ws, vs = v :: ws ∧ P ws H2 := fun H1 e Q q =>
  h H1 e _ fun H2 e2 => hr H2 (e.trans e2) H2 (Ex.refl H2) _ fun ws H3 e3 hp => q _ H3 (e2.trans e3) ⟨ws, rfl, hp⟩
theorem eb_l {tr : TA} {P : List V → Hp → Prop} (h : EvL te σ H xs) (hr : ∀ H1, Ex H H1 → EvB tr σ H1 P) : EvB (tCons te tr) σ H fun vs H2 => ∃ p ws, vs = .ref p :: ws ∧ H p = none ∧ H2 p = some (.lst xs) ∧ P ws H2 := fun H1 e Q q =>
  h H1 e _ fun p H2 n e2 hp => hr H2 (e.trans e2) H2 (Ex.refl H2) _ fun ws H3 e3 hP => q _ H3 (e2.trans e3) ⟨p, ws, rfl, fresh_back e n, e3 p _ hp, hP⟩
theorem eb_u {tr : TA} {P : List V → Hp → Prop} (h : EvU te σ H xs) (hr : ∀ H1, Ex H H1 → EvB tr σ H1 P) : EvB (tCons te tr) σ H fun vs H2 => ∃ p ws, vs = .ref p :: ws ∧ H p = none ∧ H2 p = some (.tup xs) ∧ P ws H2 := fun H1 e Q q =>
  h H1 e _ fun p H2 n e2 hp => hr H2 (e.trans e2) H2 (Ex.refl H2) _ fun ws H3 e3 hP => q _ H3 (e2.trans e3) ⟨p, ws, rfl, fresh_back e n, e3 p _ hp, hP⟩
theorem ev_callB {sp : Sp} {E : L2.St → XK} {tg : TA} {P : List V → Hp → Prop} (h : EvB tg σ H P) (hs : ∀ vs H1, Ex H H1 → P vs H1 → ∀ Q, RetV v H1 Q → sp vs H1 Q (E σ)) : Ev (tCallS sp E tg) σ H v := fun H1 e Q q =>
  h H1 e _ fun vs H2 e2 hP => hs vs H2 (e.trans e2) hP Q fun H3 e3 => q H3 (e2.trans e3)
theorem el_callB {sp : Sp} {E : L2.St → XK} {tg : TA} {P : List V → Hp → Prop} (h : EvB tg σ H P) (hs : ∀ vs H1, Ex H H1 → P vs H1 → ∀ Q, RetL xs H1 Q → sp vs H1 Q (E σ)) : EvL (tCallS sp E tg) σ H xs := fun H1 e Q q =>
  h H1 e _ fun vs H2 e2 hP => hs vs H2 (e.trans e2) hP Q fun p H3 n e3 hp => q p H3 (fresh_back e2 n) (e2.trans e3) hp
theorem eu_callB {sp : Sp} {E : L2.St → XK} {tg : TA} {P : List V → Hp → Prop} (h : EvB tg σ H P) (hs : ∀ vs H1, Ex H H1 → P vs H1 → ∀ Q, RetU xs H1 Q → sp vs H1 Q (E σ)) : EvU (tCallS sp E tg) σ H xs := fun H1 e Q q =>
  h H1 e _ fun vs H2 e2 hP => hs vs H2 (e.trans e2) hP Q fun p H3 n e3 hp => q p H3 (fresh_back e2 n) (e2.trans e3) hp
/-! built-ins -/
theorem ev_lenQ (ha : Ev ta σ H (.ref a)) (h : Sq K H a xs) : Ev (tCB (rLenS K) (tCons ta tNil)) σ H (.int (xs.length : Int)) := fun H1 e Q q =>
  ha H1 e _ fun H2 e2 => ⟨a, xs, rfl, ex_s (e.trans e2) h, q H2 e2⟩
theorem el_listQ (ha : Ev ta σ H (.ref a)) (h : Sq K H a xs) : EvL (tCB (rListS K) (tCons ta tNil)) σ H xs := fun H1 e Q q =>
  ha H1 e _ fun H2 e2 => ⟨a, xs, rfl, ex_s (e.trans e2) h, fun l hl => q l _ (fresh_back e2 hl) (e2.trans (Ex.new hl)) upd_same⟩
def rTupS (K : PySem.W.Frag) : List V → Hp → VK → Prop := fun xs H Q => ∃ p ys, xs = [.ref p] ∧ ((SqL K H p ys ∧ ∀ l, H l = none → Q (.ref l) (upd H l (.tup ys))) ∨ (SqT K H p ys ∧ Q (.ref p) H))
theorem eu_tupN (ha : EvL ta σ H xs) : EvU (tCB (rTupS K) (tCons ta tNil)) σ H xs := fun H1 e Q q =>
  ha H1 e _ fun p H2 n e2 hp => ⟨p, xs, rfl, .inl ⟨sq_of hp, fun l hl => q l _ (fresh_back e2 hl) (e2.trans (Ex.new hl)) upd_same⟩⟩
theorem eu_tupL (ha : Ev ta σ H (.ref a)) (h : SqL K H a xs) : EvU (tCB (rTupS K) (tCons ta tNil)) σ H xs := fun H1 e Q q =>
  ha H1 e _ fun H2 e2 => ⟨a, xs, rfl, .inl ⟨ex_l (e.trans e2) h, fun l hl => q l _ (fresh_back e2 hl) (e2.trans (Ex.new hl)) upd_same⟩⟩
theorem ev_tupT (ha : Ev ta σ H (.ref a)) (h : SqT K H a xs) : Ev (tCB (rTupS K) (tCons ta tNil)) σ H (.ref a) := fun H1 e Q q =>
  ha H1 e _ fun H2 e2 => ⟨a, xs, rfl, .inr ⟨ex_t (e.trans e2) h, q H2 e2⟩⟩
theorem ev_ixQ {i : Int} (ha : Ev ta σ H (.ref a)) (hb : Ev tb σ H (.int i)) (h : Sq K H a xs) (hi : atI xs i = some v) : Ev (tOp (rIxQ K) ta tb) σ H v := fun H1 e Q q =>
  ha H1 e _ fun H2 e2 => hb H2 (e.trans e2) _ fun H3 e3 => (ex_s ((e.trans e2).trans e3) h).elim (fun g => .inl ⟨a, xs, i, v, rfl, rfl, g, hi, q H3 (e2.trans e3)⟩) fun g => .inr ⟨a, xs, i, v, rfl, rfl, g, hi, q H3 (e2.trans e3)⟩
theorem ev_ixL {i : Int} (ha : Ev ta σ H (.ref a)) (hb : Ev tb σ H (.int i)) (h : SqL K H a xs) (hi : atI xs i = some v) : Ev (tOp (rIxL K) ta tb) σ H v := ev_op ha hb (rv_ixL h hi)
theorem ev_ixT {i : Int} (ha : Ev ta σ H (.ref a)) (hb : Ev tb σ H (.int i)) (h : SqT K H a xs) (hi : atI xs i = some v) : Ev (tOp (rIxT K) ta tb) σ H v := ev_op ha hb (rv_ixT h hi)
theorem ev_all {bs : List Bool} (ha : EvL ta σ H (bs.map V.bl)) : Ev (tCB (rAll K) (tCons ta tNil)) σ H (.bl (bs.all id)) := fun H1 e Q q => ha H1 e _ fun p H2 _ e2 hp => ⟨p, bs, rfl, sq_of hp, q H2 e2⟩
theorem ev_any {bs : List Bool} (ha : EvL ta σ H (bs.map V.bl)) : Ev (tCB (rAny K) (tCons ta tNil)) σ H (.bl (bs.any id)) := fun H1 e Q q => ha H1 e _ fun p H2 _ e2 hp => ⟨p, bs, rfl, sq_of hp, q H2 e2⟩
theorem ev_minN {ns : List Int} (ha : EvL ta σ H (ns.map V.int)) (h0 : ns ≠ []) : Ev (tCB (rMin K) (tCons ta tNil)) σ H (.int (CH.minOf ns)) := fun H1 e Q q =>
  ha H1 e _ fun p H2 _ e2 hp => ⟨p, ns, rfl, sq_of hp, List.length_pos_iff.mpr h0, fun m h1 h2 => by rw [CH.minOf_eq h1 h2]; exact q H2 e2⟩
theorem ev_maxN {ns : List Int} (ha : EvL ta σ H (ns.map V.int)) (h0 : ns ≠ []) : Ev (tCB (rMax K) (tCons ta tNil)) σ H (.int (CH.maxOf ns)) := fun H1 e Q q =>
  ha H1 e _ fun p H2 _ e2 hp => ⟨p, ns, rfl, sq_of hp, List.length_pos_iff.mpr h0, fun m h1 h2 => by rw [CH.maxOf_eq h1 h2]; exact q H2 e2⟩
theorem ev_minL {ns : List Int} (ha : Ev ta σ H (.ref a)) (h : SqL K H a (ns.map V.int)) (h0 : ns ≠ []) : Ev (tCB (rMin K) (tCons ta tNil)) σ H (.int (CH.minOf ns)) := fun H1 e Q q =>
  ha H1 e _ fun H2 e2 => ⟨a, ns, rfl, ex_l (e.trans e2) h, List.length_pos_iff.mpr h0, fun m h1 h2 => by rw [CH.minOf_eq h1 h2]; exact q H2 e2⟩
theorem ev_maxL {ns : List Int} (ha : Ev ta σ H (.ref a)) (h : SqL K H a (ns.map V.int)) (h0 : ns ≠ []) : Ev (tCB (rMax K) (tCons ta tNil)) σ H (.int (CH.maxOf ns)) := fun H1 e Q q =>
  ha H1 e _ fun H2 e2 => ⟨a, ns, rfl, ex_l (e.trans e2) h, List.length_pos_iff.mpr h0, fun m h1 h2 => by rw [CH.maxOf_eq h1 h2]; exact q H2 e2⟩
theorem ev_minT {ns : List Int} (ha : Ev ta σ H (.ref a)) (h : SqT K H a (ns.map V.int)) (h0 : ns ≠ []) : Ev (tCB (rMinT K) (tCons ta tNil)) σ H (.int (CH.minOf ns)) := fun H1 e Q q =>
  ha H1 e _ fun H2 e2 => ⟨a, ns, rfl, ex_t (e.trans e2) h, List.length_pos_iff.mpr h0, fun m h1 h2 => by rw [CH.minOf_eq h1 h2]; exact q H2 e2⟩
theorem ev_sumN {ns : List Int} (ha : EvL ta σ H (ns.map V.int)) : Ev (tCB (rSum K) (tCons ta tNil)) σ H (.int ns.sum) := fun H1 e Q q => ha H1 e _ fun p H2 _ e2 hp => ⟨p, ns, rfl, sq_of hp, q H2 e2⟩
theorem el_sortN {ns : List Int} (ha : EvL ta σ H (ns.map V.int)) : EvL (tCB (rSortedI K) (tCons ta tNil)) σ H ((CH.isort ns).map V.int) := fun H1 e Q q =>
  ha H1 e _ fun p H2 n e2 hp => ⟨p, ns, rfl, sq_of hp, fun ns' b h1 h2 hb => by rw [CH.isort_eq h1 h2]; exact q b _ (fresh_back e2 hb) (e2.trans (Ex.new hb)) upd_same⟩
theorem el_sortL {ns : List Int} (ha : Ev ta σ H (.ref a)) (h : SqL K H a (ns.map V.int)) : EvL (tCB (rSortedI K) (tCons ta tNil)) σ H ((CH.isort ns).map V.int) := fun H1 e Q q =>
  ha H1 e _ fun H2 e2 => ⟨a, ns, rfl, ex_l (e.trans e2) h, fun ns' b h1 h2 hb => by rw [CH.isort_eq h1 h2]; exact q b _ (fresh_back e2 hb) (e2.trans (Ex.new hb)) upd_same⟩
theorem el_cat (ha : EvL ta σ H xs) (hb : EvL tb σ H ys) (hl : xs.length + ys.length ≤ 100000) : EvL (tOp rCat ta tb) σ H (xs ++ ys) := fun H1 e Q q =>
  ha H1 e _ fun p H2 n2 e2 hp => hb H2 (e.trans e2) _ fun r H3 n3 e3 hr => ⟨p, r, xs, ys, rfl, rfl, e3 p _ hp, hr, sz_of hl, fun b hb => q b _ (fresh_back (e2.trans e3) hb) ((e2.trans e3).trans (Ex.new hb)) upd_same⟩
/-- the left one a list that stands -/
theorem el_catV {a : Addr} (ha : Ev ta σ H (.ref a)) (hx : H a = some (.lst xs)) (hb : EvL tb σ H ys) (hl : xs.length + ys.length ≤ 100000) : EvL (tOp rCat ta tb) σ H (xs ++ ys) := fun H1 e Q q =>
  ha H1 e _ fun H2 e2 => hb H2 (e.trans e2) _ fun r H3 n3 e3 hr => ⟨a, r, xs, ys, rfl, rfl, ((e.trans e2).trans e3) a _ hx, hr, sz_of hl, fun b hb => q b _ (fresh_back (e2.trans e3) hb) ((e2.trans e3).trans (Ex.new hb)) upd_same⟩
theorem flat_one (x : V) : ∀ n : Nat, (List.replicate n [x]).flatten = List.replicate n x
  | 0 => rfl
  | n + 1 => by rw [List.replicate_succ, List.flatten_cons, flat_one x n, List.replicate_succ] <;> rfl
theorem el_rep {k : Int} (ha : EvL ta σ H [x]) (hb : Ev tb σ H (.int k)) (hk : -100000 ≤ k ∧ k ≤ 100000) : EvL (tOp rRep ta tb) σ H (List.replicate k.toNat x) := fun H1 e Q q =>
  ha H1 e _ fun p H2 n2 e2 hp => hb H2 (e.trans e2) _ fun H3 e3 => ⟨p, k, [x], rfl, rfl, e3 p _ hp, by omega, by omega, by
    show 1 * k.toNat ≤ _
    rw [Nat.one_mul]
    exact sz_of (by omega), fun b hb => by
    rw [flat_one]
    exact q b _ (fresh_back (e2.trans e3) hb) ((e2.trans e3).trans (Ex.new hb)) upd_same⟩
theorem ev_gcd {i j : Int} (ha : Ev ta σ H (.int i)) (hb : Ev tb σ H (.int j)) : Ev (tCB rGcd (tCons ta (tCons tb tNil))) σ H (.int ((Nat.gcd i.natAbs j.natAbs : Nat) : Int)) := fun H1 e Q q =>
  ha H1 e _ fun H2 e2 => hb H2 (e.trans e2) _ fun H3 e3 => ⟨i, j, rfl, q H3 (e2.trans e3)⟩
def rInt1 : List V → Hp → VK → Prop := fun xs H Q => (∃ i, xs = [.int i] ∧ Q (.int i) H) ∨ ∃ k, xs = [.bl k] ∧ Q (.int (if k then 1 else 0)) H
theorem ev_int {i : Int} (ha : Ev ta σ H (.int i)) : Ev (tCB rInt1 (tCons ta tNil)) σ H (.int i) := fun H1 e Q q => ha H1 e _ fun H2 e2 => .inl ⟨i, rfl, q H2 e2⟩
/-! ### comprehensions over data -/
theorem given_map {α : Type} (xs : List α) (f : α → Bool) (v : α → V) (d : V) : given xs.length (fun i => (xs[i]?.map f).getD false) (fun i => (xs[i]?.map v).getD d) = (xs.filter f).map v := by
  have key : ∀ n, n ≤ xs.length → given n (fun i => (xs[i]?.map f).getD false) (fun i => (xs[i]?.map v).getD d) = ((xs.take n).filter f).map v := by
    intro n
    induction n with
    | zero => intro _; rfl
    | succ n ih =>
      intro hn
      have hx : xs[n]? = some (xs[n]'(by omega)) := List.getElem?_eq_getElem (by omega)
      have ht : xs.take (n + 1) = xs.take n ++ [xs[n]'(by omega)] := by rw [List.take_succ, hx] <;> rfl
      cases hf : f (xs[n]'(by omega)) with
      | true =>
        rw [given_yes (by rw [hx]; exact hf), ih (by omega), ht, List.filter_append, List.map_append, hx]
        simp [hf]
      | false =>
        rw [given_no (by rw [hx]; exact hf), ih (by omega), ht, List.filter_append, List.map_append]
        simp [hf]
  rw [key xs.length (Nat.le_refl _), List.take_length]
section
variable {α : Type} {j : Nat} {vs : List Nat}
theorem el_lcD (xs : List α) (emb : α → V) (f : α → Bool) (v : α → V) (h : Ev tl σ H (.ref a)) (hx : Sq K H a (xs.map emb)) (hz : xs.length ≤ 40000) (hw : ∀ x, wipe ((wipe σ vs).set j (some x)) vs = wipe σ vs)
    (ht : ∀ x ∈ xs, ∀ H1, Ex H H1 → EvT t ((wipe σ vs).set j (some (emb x))) H1 (f x)) (he : ∀ x ∈ xs, ∀ H1, Ex H H1 → f x = true → Ev te ((wipe σ vs).set j (some (emb x))) H1 (v x)) :
    EvL (tLc (iSeq K tl) (gName j) t te vs) σ H ((xs.filter f).map v) := fun H0 e Q q => h H0 e _ fun H1 e1 => by
  have turn : ∀ (Dl : Addr) (i : Nat) (y : V) (H' : Hp), (xs.map emb)[i]? = some y → Cw H1 (fun i => (xs[i]?.map f).getD false) (fun i => (xs[i]?.map v).getD .non) Dl i H' →
      wipe ((wipe σ vs).set j (some y)) vs = wipe σ vs ∧ t ((wipe σ vs).set j (some y)) H' fun b H3 => if b = true then te ((wipe σ vs).set j (some y)) H3 fun z H4 => ∃ acc, H4 Dl = some (.lst acc) ∧ acc.length < sizeLine ∧ Cw H1 (fun i => (xs[i]?.map f).getD false) (fun i => (xs[i]?.map v).getD .non) Dl (i + 1) (upd H4 Dl (.lst (acc ++ [z]))) else Cw H1 (fun i => (xs[i]?.map f).getD false) (fun i => (xs[i]?.map v).getD .non) Dl (i + 1) H3 := by
    intro Dl i y H' hi p
    rw [List.getElem?_map] at hi
    cases hxi : xs[i]? with
    | none => rw [hxi] at hi; cases hi
    | some x =>
      rw [hxi] at hi
      obtain rfl : emb x = y := Option.some.inj hi
      have lt := (List.getElem?_eq_some_iff.mp hxi).1
      have mem : x ∈ xs := List.mem_of_getElem? hxi
      refine ⟨hw _, cw_turn p (by omega) ?_ fun hf => ?_⟩
      · show EvT t _ H1 ((xs[i]?.map f).getD false)
        rw [hxi]
        exact ht x mem H1 (e.trans e1)
      · have hf : f x = true := by
          have : ((xs[i]?.map f).getD false) = true := hf
          rw [hxi] at this
          exact this
        show Ev te _ H1 ((xs[i]?.map v).getD .non)
        rw [hxi]
        exact he x mem H1 (e.trans e1) hf
  have done : ∀ (Dl : Addr) (H' : Hp), Cw H1 (fun i => (xs[i]?.map f).getD false) (fun i => (xs[i]?.map v).getD .non) Dl (xs.map emb).length H' → Q (.ref Dl) H' := by
    intro Dl H' p
    obtain ⟨p1, p2, p3⟩ := p
    rw [List.length_map, given_map] at p3
    exact q Dl H' (fresh_back e1 p1) (e1.trans p2) p3
  refine ⟨a, rfl, ?_⟩
  rcases ex_s (e.trans e1) hx with g | g
  · exact .inl ⟨⟨_, g⟩, fun Dl hD => lc_list (xs := xs.map emb) (Cw H1 _ _ Dl) ⟨hD, Ex.new hD, upd_same⟩ (fun i H' _ p => ex_l p.2.1 g) (fun i x H' hi p => turn Dl i x H' hi p) (fun H' p => done Dl H' p)⟩
  · exact .inr ⟨⟨_, g⟩, fun Dl hD => lc_tup (xs := xs.map emb) (Cw H1 _ _ Dl) ⟨hD, Ex.new hD, upd_same⟩ (fun i H' _ p => ex_t p.2.1 g) (fun i x H' hi p => turn Dl i x H' hi p) (fun H' p => done Dl H' p)⟩
theorem filter_true (xs : List α) : xs.filter (fun _ => true) = xs := by simp
theorem et_yes : EvT tYes σ H true := fun H1 _ Q q => q H1 (Ex.refl H1)
theorem el_lcM (xs : List α) (emb : α → V) (v : α → V) (h : Ev tl σ H (.ref a)) (hx : Sq K H a (xs.map emb)) (hz : xs.length ≤ 40000) (hw : ∀ x, wipe ((wipe σ vs).set j (some x)) vs = wipe σ vs)
    (he : ∀ x ∈ xs, ∀ H1, Ex H H1 → Ev te ((wipe σ vs).set j (some (emb x))) H1 (v x)) : EvL (tLc (iSeq K tl) (gName j) tYes te vs) σ H (xs.map v) := by
  have := el_lcD xs emb (fun _ => true) v h hx hz hw (fun x _ H1 _ => et_yes) (fun x m H1 e _ => he x m H1 e)
  rw [filter_true] at this
  exact this
/-- over a range -/
theorem el_lcR {ta : TA} {n : Int} (f : Nat → Bool) (v : Nat → V) (h : EvA ta σ H [.int n]) (hn : 0 ≤ n ∧ n ≤ 40000) (hw : ∀ x, wipe ((wipe σ vs).set j (some x)) vs = wipe σ vs)
    (ht : ∀ (i : Nat) H1, Ex H H1 → (i : Int) < n → EvT t ((wipe σ vs).set j (some (.int (i : Int)))) H1 (f i)) (he : ∀ (i : Nat) H1, Ex H H1 → (i : Int) < n → f i = true → Ev te ((wipe σ vs).set j (some (.int (i : Int)))) H1 (v i)) :
    EvL (tLc (iRng1 ta) (gName j) t te vs) σ H (((List.range n.toNat).filter f).map v) := el_lcR1 f v h hn hw ht he
theorem el_lcRM {ta : TA} {n : Int} (v : Nat → V) (h : EvA ta σ H [.int n]) (hn : 0 ≤ n ∧ n ≤ 40000) (hw : ∀ x, wipe ((wipe σ vs).set j (some x)) vs = wipe σ vs)
    (he : ∀ (i : Nat) H1, Ex H H1 → (i : Int) < n → Ev te ((wipe σ vs).set j (some (.int (i : Int)))) H1 (v i)) : EvL (tLc (iRng1 ta) (gName j) tYes te vs) σ H ((List.range n.toNat).map v) := by
  have := el_lcR1 (t := tYes) (fun _ => true) v h hn hw (fun _ _ _ _ => et_yes) (fun i H1 e hi _ => he i H1 e hi)
  unfold given at this
  rw [filter_true] at this
  exact this
/-- over a range from lo -/
theorem el_lcR2 {ta : TA} {lo n : Int} (f : Int → Bool) (v : Int → V) (h : EvA ta σ H [.int lo, .int n]) (hn : -40000 ≤ lo ∧ lo ≤ 40000 ∧ -40000 ≤ n ∧ n ≤ 40000 ∧ n - lo ≤ 40000) (hw : ∀ x, wipe ((wipe σ vs).set j (some x)) vs = wipe σ vs)
    (ht : ∀ (z : Int) H1, Ex H H1 → lo ≤ z → z < n → EvT t ((wipe σ vs).set j (some (.int z))) H1 (f z)) (he : ∀ (z : Int) H1, Ex H H1 → lo ≤ z → z < n → f z = true → Ev te ((wipe σ vs).set j (some (.int z))) H1 (v z)) :
    EvL (tLc (iRng2 ta) (gName j) t te vs) σ H (((CH.zrange lo n).filter f).map v) := fun H0 e Q q => h H0 e _ fun H1 e1 => ⟨lo, n, rfl, ⟨by omega, by omega, by omega, by omega⟩, fun Dl hD =>
  lc_range (lo := lo) (n := (n - lo).toNat) (Cw H1 (fun i => f (lo + i)) (fun i => v (lo + i)) Dl) ⟨hD, Ex.new hD, upd_same⟩ (fun i H' hi p => ⟨hw _, cw_turn p (by omega) (ht _ H1 (e.trans e1) (by omega) (by omega)) (fun hf => he _ H1 (e.trans e1) (by omega) (by omega) hf)⟩) (fun H' p => by
    obtain ⟨p1, p2, p3⟩ := p
    refine q Dl H' (fresh_back e1 p1) (e1.trans p2) ?_
    rw [p3]
    unfold given CH.zrange
    rw [List.filter_map, List.map_map] <;> rfl)⟩
end
/-! ### isinstance of an int, of a bool, of a tuple -/
end
/-! ### the rules, K named -/
section
variable {X : Cx} (K : PySem.W.Frag)
theorem call_lenK (hK : X.K = K := by rfl) : CallR X (.builtin "len") (rLenS K) := by subst hK; exact call_len_seq
theorem call_listK (hK : X.K = K := by rfl) : CallR X (.type "list") (rListS K) := by subst hK; exact call_list_of
theorem call_tupK (hK : X.K = K := by rfl) : CallR X (.type "tuple") (rTupS K) := by subst hK; exact call_tuple_of
theorem cr_allK (hc : X.calm = true) (hK : X.K = K := by rfl) : CallR X (.builtin "all") (rAll K) := by subst hK; exact cr_all hc
theorem cr_anyK (hc : X.calm = true) (hK : X.K = K := by rfl) : CallR X (.builtin "any") (rAny K) := by subst hK; exact cr_any hc
theorem cr_sumK (hc : X.calm = true) (hK : X.K = K := by rfl) : CallR X (.builtin "sum") (rSum K) := by subst hK; exact cr_sum hc
theorem cr_maxK (hc : X.calm = true) (hK : X.K = K := by rfl) : CallR X (.builtin "max") (rMax K) := by subst hK; exact cr_max hc
theorem cr_minK (hc : X.calm = true) (hK : X.K = K := by rfl) : CallR X (.builtin "min") (rMin K) := by subst hK; exact cr_min hc
theorem cr_minTK (hc : X.calm = true) (hK : X.K = K := by rfl) : CallR X (.builtin "min") (rMinT K) := by subst hK; exact cr_minT hc
theorem cr_sortedK (hK : X.K = K := by rfl) : CallR X (.builtin "sorted") (rSortedI K) := by subst hK; exact cr_sortedI
theorem call_isiK (hK : X.K = K := by rfl) : CallR X (.builtin "isinstance") (rIsi K) := by subst hK; exact call_isi
theorem ix_listK (hK : X.K = K := by rfl) : IxR X (rIxL K) := by subst hK; exact ix_list
theorem ix_tupK (hK : X.K = K := by rfl) : IxR X (rIxT K) := by subst hK; exact ix_tup
theorem ix_qK (hK : X.K = K := by rfl) : IxR X (rIxQ K) := by subst hK; exact ix_q
theorem sl_listK (hK : X.K = K := by rfl) : SlR X (rSlL K) := by subst hK; exact sl_list
theorem op_catAK (hK : X.K = K := by rfl) : OpR X (binaryOp .Add) (rCatA K) := by subst hK; exact op_catA
theorem pi_seqK {tg l : Expr} {tl : TE} (hl : PE X l tl) (hK : X.K = K := by rfl) : PI X tg l (iSeq K tl) := by subst hK; exact pi_seq hl
theorem pe_fldK {e : Expr} {f : PySem.Str} {pos : Pos} {ta : TE} (he : PE X e ta) (hb : attributeBase e f X.env (eval e X.env) = eval e X.env) (hK : X.K = K := by rfl) : PE X (.Attribute e f pos) (tFld K ta f) := by subst hK; exact pe_fld he hb
end
end CHX

namespace CHX
open PySem PySem.Spec PyProof.Rows L2 Evl
/-! ### the law's text -/
def topS (i : Nat) : Stmt := PySem.Challenge.pw_coinholes_k57_pseudo_holes.main.body.getD i (.Pass ⟨0, 0, 0, 0⟩)
def inC (s : Stmt) (i : Nat) : Stmt := (match s with
  | .ClassDef (body := b) .. => b
  | _ => []).getD i (.Pass ⟨0, 0, 0, 0⟩)
abbrev s_in_table : Stmt := topS 3
theorem sc_in_table : FnScope ["table", "number", "entry"] ["table", "number"] (defScope s_in_table) := ⟨rfl, rfl, rfl, by decide +kernel, rfl, by decide +kernel, by decide +kernel⟩
abbrev s_put_coin : Stmt := topS 4
theorem sc_put_coin : FnScope ["table", "coin", "modulus", "told", "rings", "start", "here", "_", "there"] ["table", "coin"] (defScope s_put_coin) := ⟨rfl, rfl, rfl, by decide +kernel, rfl, by decide +kernel, by decide +kernel⟩
abbrev s_table_of : Stmt := topS 5
theorem sc_table_of : FnScope ["coins", "modulus", "table", "coin"] ["coins", "modulus"] (defScope s_table_of) := ⟨rfl, rfl, rfl, by decide +kernel, rfl, by decide +kernel, by decide +kernel⟩
abbrev s_look_number : Stmt := topS 32
theorem sc_look_number : FnScope ["number", "low", "high"] ["number", "low", "high"] (defScope s_look_number) := ⟨rfl, rfl, rfl, by decide +kernel, rfl, by decide +kernel, by decide +kernel⟩
abbrev s_look_far : Stmt := topS 33
theorem sc_look_far : FnScope ["number"] ["number"] (defScope s_look_far) := ⟨rfl, rfl, rfl, by decide +kernel, rfl, by decide +kernel, by decide +kernel⟩
abbrev s_look_list : Stmt := topS 34
theorem sc_look_list : FnScope ["entries", "least", "most", "kept"] ["entries", "least", "most"] (defScope s_look_list) := ⟨rfl, rfl, rfl, by decide +kernel, rfl, by decide +kernel, by decide +kernel⟩
abbrev s_look_numbers : Stmt := topS 35
theorem sc_look_numbers : FnScope ["entries", "least", "most", "low", "high", "kept", "number"] ["entries", "least", "most", "low", "high"] (defScope s_look_numbers) := ⟨rfl, rfl, rfl, by decide +kernel, rfl, by decide +kernel, by decide +kernel⟩
abbrev s_look_whole : Stmt := topS 36
theorem sc_look_whole : FnScope ["lot"] ["lot"] (defScope s_look_whole) := ⟨rfl, rfl, rfl, by decide +kernel, rfl, by decide +kernel, by decide +kernel⟩
abbrev s_pseudo_holes : Stmt := topS 38
theorem sc_pseudo_holes : FnScope ["lot", "table", "below", "entry", "hole", "coin"] ["lot"] (defScope s_pseudo_holes) := ⟨rfl, rfl, rfl, by decide +kernel, rfl, by decide +kernel, by decide +kernel⟩
abbrev s_breadth : Stmt := topS 39
theorem sc_breadth : FnScope ["lot"] ["lot"] (defScope s_breadth) := ⟨rfl, rfl, rfl, by decide +kernel, rfl, by decide +kernel, by decide +kernel⟩
abbrev s_greatest_hole : Stmt := topS 41
theorem sc_greatest_hole : FnScope ["lot", "entry"] ["lot"] (defScope s_greatest_hole) := ⟨rfl, rfl, rfl, by decide +kernel, rfl, by decide +kernel, by decide +kernel⟩
abbrev s_starts_table : Stmt := topS 43
theorem sc_starts_table : FnScope ["lot_table", "starts", "modulus", "table", "remainder", "start"] ["lot_table", "starts"] (defScope s_starts_table) := ⟨rfl, rfl, rfl, by decide +kernel, rfl, by decide +kernel, by decide +kernel⟩
abbrev s_members_of : Stmt := topS 48
theorem sc_members_of : FnScope ["table", "coins", "needed", "entry", "coin"] ["table", "coins"] (defScope s_members_of) := ⟨rfl, rfl, rfl, by decide +kernel, rfl, by decide +kernel, by decide +kernel⟩
abbrev s_mirror_table : Stmt := topS 49
theorem sc_mirror_table : FnScope ["table", "hole", "modulus", "remainder"] ["table", "hole"] (defScope s_mirror_table) := ⟨rfl, rfl, rfl, by decide +kernel, rfl, by decide +kernel, by decide +kernel⟩
abbrev s_Ideal_init : Stmt := inC (topS 52) 0
theorem sc_Ideal_init : FnScope ["self", "lot", "starts", "kept"] ["self", "lot", "starts"] (defScope s_Ideal_init) := ⟨rfl, rfl, rfl, by decide +kernel, rfl, by decide +kernel, by decide +kernel⟩
abbrev s_Ideal_needed_members : Stmt := inC (topS 52) 2
theorem sc_Ideal_needed_members : FnScope ["self"] ["self"] (defScope s_Ideal_needed_members) := ⟨rfl, rfl, rfl, by decide +kernel, rfl, by decide +kernel, by decide +kernel⟩
abbrev s_ideal_of_table : Stmt := topS 53
theorem sc_ideal_of_table : FnScope ["lot", "table"] ["lot", "table"] (defScope s_ideal_of_table) := ⟨rfl, rfl, rfl, by decide +kernel, rfl, by decide +kernel, by decide +kernel⟩
abbrev s_canonical_table : Stmt := topS 55
theorem sc_canonical_table : FnScope ["lot"] ["lot"] (defScope s_canonical_table) := ⟨rfl, rfl, rfl, by decide +kernel, rfl, by decide +kernel, by decide +kernel⟩
abbrev s_canonical : Stmt := topS 56
theorem sc_canonical : FnScope ["lot"] ["lot"] (defScope s_canonical) := ⟨rfl, rfl, rfl, by decide +kernel, rfl, by decide +kernel, by decide +kernel⟩
abbrev s_gcd_of : Stmt := topS 60
theorem sc_gcd_of : FnScope ["numbers", "found", "number"] ["numbers"] (defScope s_gcd_of) := ⟨rfl, rfl, rfl, by decide +kernel, rfl, by decide +kernel, by decide +kernel⟩
abbrev s_Lot_init : Stmt := inC (topS 62) 0
theorem sc_Lot_init : FnScope ["self", "coins", "unlike"] ["self", "coins"] (defScope s_Lot_init) := ⟨rfl, rfl, rfl, by decide +kernel, rfl, by decide +kernel, by decide +kernel⟩
abbrev s__law_is_integer : Stmt := topS 64
theorem sc__law_is_integer : FnScope ["actual"] ["actual"] (defScope s__law_is_integer) := ⟨rfl, rfl, rfl, by decide +kernel, rfl, by decide +kernel, by decide +kernel⟩
abbrev s__law_is_number : Stmt := topS 65
theorem sc__law_is_number : FnScope ["actual", "due"] ["actual", "due"] (defScope s__law_is_number) := ⟨rfl, rfl, rfl, by decide +kernel, rfl, by decide +kernel, by decide +kernel⟩
abbrev s__law_is_tuple : Stmt := topS 66
theorem sc__law_is_tuple : FnScope ["actual", "due", "k"] ["actual", "due"] (defScope s__law_is_tuple) := ⟨rfl, rfl, rfl, by decide +kernel, rfl, by decide +kernel, by decide +kernel⟩
abbrev s__law_cell : Stmt := topS 67
theorem sc__law_cell : FnScope ["script", "at"] ["script", "at"] (defScope s__law_cell) := ⟨rfl, rfl, rfl, by decide +kernel, rfl, by decide +kernel, by decide +kernel⟩
abbrev s__law_classes : Stmt := topS 68
theorem sc__law_classes : FnScope ["e", "flags", "words", "k"] ["e"] (defScope s__law_classes) := ⟨rfl, rfl, rfl, by decide +kernel, rfl, by decide +kernel, by decide +kernel⟩
abbrev s__law_refusal : Stmt := topS 69
theorem sc__law_refusal : FnScope ["e", "words"] ["e"] (defScope s__law_refusal) := ⟨rfl, rfl, rfl, by decide +kernel, rfl, by decide +kernel, by decide +kernel⟩
abbrev s__law_ask : Stmt := topS 80
theorem sc__law_ask : FnScope ["lot", "which", "told", "e"] ["lot", "which"] (defScope s__law_ask) := ⟨rfl, rfl, rfl, by decide +kernel, rfl, by decide +kernel, by decide +kernel⟩
abbrev s__law_refused : Stmt := topS 70
theorem sc__law_refused : FnScope ["answer", "word", "number"] ["answer", "word", "number"] (defScope s__law_refused) := ⟨rfl, rfl, rfl, by decide +kernel, rfl, by decide +kernel, by decide +kernel⟩
abbrev s__law_grain_of : Stmt := topS 71
theorem sc__law_grain_of : FnScope ["coins", "found", "divisor", "coin"] ["coins"] (defScope s__law_grain_of) := ⟨rfl, rfl, rfl, by decide +kernel, rfl, by decide +kernel, by decide +kernel⟩
abbrev s__law_draw_coins : Stmt := topS 72
theorem sc__law_draw_coins : FnScope ["script", "at", "many", "cells", "coins", "k"] ["script", "at"] (defScope s__law_draw_coins) := ⟨rfl, rfl, rfl, by decide +kernel, rfl, by decide +kernel, by decide +kernel⟩
abbrev s__law_list_made : Stmt := topS 73
theorem sc__law_list_made : FnScope ["coins", "top", "made", "number", "coin"] ["coins", "top"] (defScope s__law_list_made) := ⟨rfl, rfl, rfl, by decide +kernel, rfl, by decide +kernel, by decide +kernel⟩
abbrev s__law_last_hole : Stmt := topS 74
theorem sc__law_last_hole : FnScope ["made", "last", "number"] ["made"] (defScope s__law_last_hole) := ⟨rfl, rfl, rfl, by decide +kernel, rfl, by decide +kernel, by decide +kernel⟩
abbrev s__law_far_coin : Stmt := topS 75
theorem sc__law_far_coin : FnScope ["cell", "least", "rest"] ["cell", "least"] (defScope s__law_far_coin) := ⟨rfl, rfl, rfl, by decide +kernel, rfl, by decide +kernel, by decide +kernel⟩
abbrev s__law_draw_far : Stmt := topS 76
theorem sc__law_draw_far : FnScope ["script", "at", "least", "kind", "step", "cells", "coins", "k", "cell"] ["script", "at"] (defScope s__law_draw_far) := ⟨rfl, rfl, rfl, by decide +kernel, rfl, by decide +kernel, by decide +kernel⟩
abbrev s__law_nearest : Stmt := topS 77
theorem sc__law_nearest : FnScope ["base", "done", "here", "place"] ["base", "done"] (defScope s__law_nearest) := ⟨rfl, rfl, rfl, by decide +kernel, rfl, by decide +kernel, by decide +kernel⟩
abbrev s__law_base_of : Stmt := topS 78
theorem sc__law_base_of : FnScope ["coins", "least", "base", "done", "turn", "here", "coin", "there"] ["coins"] (defScope s__law_base_of) := ⟨rfl, rfl, rfl, by decide +kernel, rfl, by decide +kernel, by decide +kernel⟩
abbrev s__law_due_pseudo : Stmt := topS 79
theorem sc__law_due_pseudo : FnScope ["made", "least", "last", "found", "z", "sums", "n", "total"] ["made", "least", "last"] (defScope s__law_due_pseudo) := ⟨rfl, rfl, rfl, by decide +kernel, rfl, by decide +kernel, by decide +kernel⟩
abbrev s__law_lot_right : Stmt := topS 81
theorem sc__law_lot_right : FnScope ["lot", "due", "last", "needed", "out", "answer", "z", "n"] ["lot", "due", "last"] (defScope s__law_lot_right) := ⟨rfl, rfl, rfl, by decide +kernel, rfl, by decide +kernel, by decide +kernel⟩
abbrev s__law_below : Stmt := topS 82
theorem sc__law_below : FnScope ["made", "due", "last", "h", "above", "z"] ["made", "due", "last"] (defScope s__law_below) := ⟨rfl, rfl, rfl, by decide +kernel, rfl, by decide +kernel, by decide +kernel⟩
abbrev s__law_grained : Stmt := topS 83
theorem sc__law_grained : FnScope ["coins", "cell", "grain", "rough", "great", "which", "coin"] ["coins", "cell"] (defScope s__law_grained) := ⟨rfl, rfl, rfl, by decide +kernel, rfl, by decide +kernel, by decide +kernel⟩
abbrev s__law_small : Stmt := topS 84
theorem sc__law_small : FnScope ["script", "coins", "own", "made", "last", "due", "lot", "again", "told"] ["script"] (defScope s__law_small) := ⟨rfl, rfl, rfl, by decide +kernel, rfl, by decide +kernel, by decide +kernel⟩
abbrev s__law_far_pseudo : Stmt := topS 85
theorem sc__law_far_pseudo : FnScope ["base", "coins", "least", "found", "entry", "z", "good", "coin"] ["base", "coins"] (defScope s__law_far_pseudo) := ⟨rfl, rfl, rfl, by decide +kernel, rfl, by decide +kernel, by decide +kernel⟩
abbrev s__law_far : Stmt := topS 86
theorem sc__law_far : FnScope ["coins", "own", "base", "due"] ["coins"] (defScope s__law_far) := ⟨rfl, rfl, rfl, by decide +kernel, rfl, by decide +kernel, by decide +kernel⟩
abbrev s_law : Stmt := topS 87
theorem sc_law : FnScope ["script", "cells"] ["script"] (defScope s_law) := ⟨rfl, rfl, rfl, by decide +kernel, rfl, by decide +kernel, by decide +kernel⟩
def DefAt (K : PySem.W.Frag) (mg : Str → Option Value) (x : Str) (st : Stmt) : Prop := ∃ (f : Addr) (fd : FuncData), FunD K x x (defArgs st) (defBody st) (defScope st) [] [] f fd ∧ mg x = some (.ref f)
def MethAt (K : PySem.W.Frag) (C : Addr) (m qual : Str) (st : Stmt) : Prop := ∃ (f : Addr) (fd : FuncData), FunD K m qual (defArgs st) (defBody st) (defScope st) [] [] f fd ∧ Meth K C m f
def MakAt (K : PySem.W.Frag) (mg : Str → Option Value) (x : Str) (C : Addr) (qual : Str) (st : Stmt) : Prop := ∃ (f : Addr) (fd : FuncData), FunD K "__init__" qual (defArgs st) (defBody st) (defScope st) [] [] f fd ∧ mg x = some (.ref C) ∧ Mk K C f
/-! the classes of exceptions, as _law_classes asks them -/
def clNames : List PySem.Str := (["SizeError", "NumberError", "WideError", "TooMany", "FewCoins", "GrainError", "RowError", "NotMade", "NoCoin", "CoprimeError", "PlaceError"] : List PySem.Str) ++ (["TradeError", "HoleError", "PointError", "TextError", "FlatError", "CrossError", "WayError", "OtherLot", "EditError", "HistoryError"] : List PySem.Str)
def wdNames : List PySem.Str := (["size", "number", "wide", "many", "few", "grain", "row", "made", "coin", "coprime", "place"] : List PySem.Str) ++ (["trade", "hole", "point", "text", "flat", "cross", "way", "other", "edit", "history"] : List PySem.Str)
def xTab : List (PySem.Str × PySem.Str × PySem.Str) := [("SizeError", "count", "size"), ("NumberError", "number", "number"), ("WideError", "number", "wide"), ("GrainError", "grain", "grain")]
def xFlds : List PySem.Str := ["count", "number", "limit", "grain"]
structure ExD (K : PySem.W.Frag) (D : PySem.Str) : Prop where
  kc : L2.ExcC K (He.ga K D)
  kf : XfC K (He.ga K D)
  fld : ∀ n ∈ xFlds, PySem.W.findIn K (.ref (He.ga K D)) n = some none
  ve : PySem.W.kitOne K (.ref (He.ga K D)) (.type "ValueError") = some true
  ce : PySem.W.exmOne K (.ref (He.ga K D)) (.ref (He.ga K "CoinError")) = some true
  kit : ∀ x ∈ clNames, PySem.W.kitOne K (.ref (He.ga K D)) (.ref (He.ga K x)) = some (decide (D = x))
/-- what stands behind the top -/
structure Tx (P : Program) (K : PySem.W.Frag) (mg : Str → Option Value) : Prop where
  len : mg "len" = none
  list : mg "list" = none
  tuple : mg "tuple" = none
  range : mg "range" = none
  min : mg "min" = none
  max : mg "max" = none
  sorted : mg "sorted" = none
  set : mg "set" = none
  all : mg "all" = none
  any : mg "any" = none
  int : mg "int" = none
  bool : mg "bool" = none
  isinstance : mg "isinstance" = none
  sum : mg "sum" = none
  m_gcd : mg "gcd" = some (.builtin "math.gcd")
  m_COIN : ∃ t, mg "COIN" = some (.int (10 ^ 12) t)
  x_GrainError : ∃ fI cc cda, SupTxt P K mg "GrainError" "grain" (He.ga K "GrainError") fI cc cda
  x_SizeError : ∃ fI cc cda, SupTxt P K mg "SizeError" "count" (He.ga K "SizeError") fI cc cda
  x_WideError : ∃ fI cc cda, SupTxt P K mg "WideError" "number" (He.ga K "WideError") fI cc cda
  x_NumberError : ∃ fI cc cda, SupTxt P K mg "NumberError" "number" (He.ga K "NumberError") fI cc cda
  d_in_table : DefAt K mg "in_table" s_in_table
  d_put_coin : DefAt K mg "put_coin" s_put_coin
  d_table_of : DefAt K mg "table_of" s_table_of
  d_look_number : DefAt K mg "look_number" s_look_number
  d_look_far : DefAt K mg "look_far" s_look_far
  d_look_list : DefAt K mg "look_list" s_look_list
  d_look_numbers : DefAt K mg "look_numbers" s_look_numbers
  d_look_whole : DefAt K mg "look_whole" s_look_whole
  d_pseudo_holes : DefAt K mg "pseudo_holes" s_pseudo_holes
  d_breadth : DefAt K mg "breadth" s_breadth
  d_greatest_hole : DefAt K mg "greatest_hole" s_greatest_hole
  d_starts_table : DefAt K mg "starts_table" s_starts_table
  d_members_of : DefAt K mg "members_of" s_members_of
  d_mirror_table : DefAt K mg "mirror_table" s_mirror_table
  d_Ideal_init : MakAt K mg "Ideal" (He.ga K "Ideal") "Ideal.__init__" s_Ideal_init
  d_Ideal_needed_members : MethAt K (He.ga K "Ideal") "needed_members" "Ideal.needed_members" s_Ideal_needed_members
  d_ideal_of_table : DefAt K mg "ideal_of_table" s_ideal_of_table
  d_canonical_table : DefAt K mg "canonical_table" s_canonical_table
  d_canonical : DefAt K mg "canonical" s_canonical
  d_gcd_of : DefAt K mg "gcd_of" s_gcd_of
  d_Lot_init : MakAt K mg "Lot" (He.ga K "Lot") "Lot.__init__" s_Lot_init
  d__law_is_integer : DefAt K mg "_law_is_integer" s__law_is_integer
  d__law_is_number : DefAt K mg "_law_is_number" s__law_is_number
  d__law_is_tuple : DefAt K mg "_law_is_tuple" s__law_is_tuple
  d__law_cell : DefAt K mg "_law_cell" s__law_cell
  d__law_refused : DefAt K mg "_law_refused" s__law_refused
  d__law_grain_of : DefAt K mg "_law_grain_of" s__law_grain_of
  d__law_draw_coins : DefAt K mg "_law_draw_coins" s__law_draw_coins
  d__law_list_made : DefAt K mg "_law_list_made" s__law_list_made
  d__law_last_hole : DefAt K mg "_law_last_hole" s__law_last_hole
  d__law_far_coin : DefAt K mg "_law_far_coin" s__law_far_coin
  d__law_draw_far : DefAt K mg "_law_draw_far" s__law_draw_far
  d__law_nearest : DefAt K mg "_law_nearest" s__law_nearest
  d__law_base_of : DefAt K mg "_law_base_of" s__law_base_of
  d__law_due_pseudo : DefAt K mg "_law_due_pseudo" s__law_due_pseudo
  d__law_lot_right : DefAt K mg "_law_lot_right" s__law_lot_right
  d__law_below : DefAt K mg "_law_below" s__law_below
  d__law_grained : DefAt K mg "_law_grained" s__law_grained
  d__law_small : DefAt K mg "_law_small" s__law_small
  d__law_far_pseudo : DefAt K mg "_law_far_pseudo" s__law_far_pseudo
  d__law_far : DefAt K mg "_law_far" s__law_far
  d_law : DefAt K mg "law" s_law
  ValueError : mg "ValueError" = none
  ex_D : ∀ t ∈ xTab, ExD K t.1
  g_x : ∀ x ∈ clNames, mg x = some (.ref (He.ga K x))
  g_CoinError : mg "CoinError" = some (.ref (He.ga K "CoinError"))
  d__law_classes : DefAt K mg "_law_classes" s__law_classes
  d__law_refusal : DefAt K mg "_law_refusal" s__law_refusal
  d__law_ask : DefAt K mg "_law_ask" s__law_ask
  c_Lot : Cls K (He.ga K "Lot")
  c_Ideal : Cls K (He.ga K "Ideal")
  n_Lot_coins : NoAttr K (He.ga K "Lot") "coins"
  n_Lot_size : NoAttr K (He.ga K "Lot") "size"
  n_Lot_grain : NoAttr K (He.ga K "Lot") "grain"
  n_Lot_least : NoAttr K (He.ga K "Lot") "least"
  n_Lot_greatest : NoAttr K (He.ga K "Lot") "greatest"
  n_Lot_table : NoAttr K (He.ga K "Lot") "_table"
  n_Ideal_lot : NoAttr K (He.ga K "Ideal") "lot"
  n_Ideal_made : NoAttr K (He.ga K "Ideal") "_made"
  n_Ideal_table : NoAttr K (He.ga K "Ideal") "table"
  n_Ideal_lowest : NoAttr K (He.ga K "Ideal") "lowest"
theorem pe_gi {X : Cx} {x : Str} {i : Int} {p : Pos} (hg : Gl X x) (h : ∃ t, X.mg x = some (.int i t)) (hdb : (x == ("__debug__" : Str)) = false := by decide) : PE X (.Name x p) (tC (.int i)) := by
  obtain ⟨t, h⟩ := h
  exact pe_glob hg h ⟨t, rfl⟩ hdb
theorem flok_grain : FlOk "grain" := ⟨by decide +kernel, by decide +kernel, by decide +kernel, by decide +kernel, by decide +kernel, fun _ _ _ _ _ _ _ _ _ _ _ _ _ => rfl⟩
theorem flok_count : FlOk "count" := ⟨by decide +kernel, by decide +kernel, by decide +kernel, by decide +kernel, by decide +kernel, fun _ _ _ _ _ _ _ _ _ _ _ _ _ => rfl⟩
theorem flok_number : FlOk "number" := ⟨by decide +kernel, by decide +kernel, by decide +kernel, by decide +kernel, by decide +kernel, fun _ _ _ _ _ _ _ _ _ _ _ _ _ => rfl⟩
theorem pmk_supE {X : Cx} {nm fl : Str} {C : Addr} {e : Expr} {te : TE} {p pos : Pos} (T : ∃ fI cc cda, SupTxt X.prog X.K X.mg nm fl C fI cc cda) (F : FlOk fl) (hr : Room 3 X.A) (hg : Gl X nm) (he : PE X e te) (hdb : (nm == ("__debug__" : Str)) = false := by decide)
    (hs : starEach [e] X.env = (false, eval e X.env) :: starEach [] X.env := by rfl) : L2N.PMk X (.Call (.Name nm p) [e] [] pos) (tSup C fl te) := by
  obtain ⟨fI, cc, cda, T⟩ := T
  exact pmk_sup T F hr hg he hdb hs
end CHX

namespace CHX
open PySem PySem.Spec PyProof.Rows L2 Evl
section
variable {K : PySem.W.Frag} {σ : L2.St} {H H' : Hp} {ta tb te tx tl : TE} {t u : TT} {x y z v : V} {r : R2} {a : Addr} {xs ys : List V} {i j : Int}
def entV : Option Int → V
  | none => .non
  | some i => .int i
theorem ent_at {t : List (Option Int)} {i : Nat} (h : i < t.length) : (t.map entV)[i]? = some (entV (CH.ent t i)) := by
  rw [List.getElem?_map]
  unfold CH.ent
  rw [List.getElem?_eq_getElem h] <;> rfl
theorem atI_z {α : Type} {xs : List α} {i : Int} {v : α} (h0 : 0 ≤ i) (h : xs[i.toNat]? = some v) : atI xs i = some v := by
  have e := atI_nat h
  rw [Int.toNat_of_nonneg h0] at e
  exact e
theorem rv_isN : RV (fun x y H Q => y = .non ∧ Q (.bl (decide (x = .non))) H) x .non H (.bl (decide (x = .non))) := fun H1 _ _ q => ⟨rfl, q H1 (Ex.refl H1)⟩
theorem rv_notN : RV (fun x y H Q => y = .non ∧ Q (.bl (!decide (x = .non))) H) x .non H (.bl (!decide (x = .non))) := fun H1 _ _ q => ⟨rfl, q H1 (Ex.refl H1)⟩
theorem ev_bin {g : Int → Int → V} (ha : Ev ta σ H (.int i)) (hb : Ev tb σ H (.int j)) : Ev (tOp (rI0 g) ta tb) σ H (g i j) := ev_op ha hb rv_I0
theorem ev_binC {C : Int → Int → Prop} {g : Int → Int → V} (ha : Ev ta σ H (.int i)) (hb : Ev tb σ H (.int j)) (hc : C i j) : Ev (tOp (rI C g) ta tb) σ H (g i j) := ev_op ha hb (rv_I hc)
theorem mulS (hi : i.natAbs < 2 ^ 64) (hj : j.natAbs < 2 ^ 64) : CMulW i j := wide_mul hi hj (by decide) (by decide) (by decide)
theorem divS (h : 0 < j) (hj : j < 2 ^ 64) : CDivW i j := wide_div h (b := 64) (by omega) (by decide) (by decide)
theorem ev_eqI (ha : Ev ta σ H (.int i)) (hb : Ev tb σ H (.int j)) : Ev (tOp rEq ta tb) σ H (.bl (decide (i = j))) := by
  have h := ev_op ha hb (rv_eq rfl)
  have e : decide (V.int i = V.int j) = decide (i = j) := by simp
  rw [e] at h
  exact h
theorem ev_neI (ha : Ev ta σ H (.int i)) (hb : Ev tb σ H (.int j)) : Ev (tOp rNe ta tb) σ H (.bl (!decide (i = j))) := by
  have h := ev_op ha hb (rv_ne rfl)
  have e : decide (V.int i = V.int j) = decide (i = j) := by simp
  rw [e] at h
  exact h
theorem ev_eqS {a b : PySem.Str} (ha : Ev ta σ H (.str a)) (hb : Ev tb σ H (.str b)) : Ev (tOp rEq ta tb) σ H (.bl (decide (a = b))) := by
  have h := ev_op ha hb (rv_eq rfl)
  have e : decide (V.str a = V.str b) = decide (a = b) := by simp
  rw [e] at h
  exact h
theorem at_map {α : Type} {f : α → V} {xs : List α} {i : Nat} {v : V} (h : (xs.map f)[i]? = some v) : ∃ x, xs[i]? = some x ∧ v = f x := by
  rw [List.getElem?_map] at h
  cases hx : xs[i]? with
  | none => rw [hx] at h; cases h
  | some x =>
    rw [hx] at h
    exact ⟨x, rfl, (Option.some.inj h).symm⟩
theorem take_snoc {α : Type} {xs : List α} {i : Nat} {x : α} (h : xs[i]? = some x) : xs.take (i + 1) = xs.take i ++ [x] := by rw [List.take_succ, h] <;> rfl
variable {D : Ends} {tu tz : TS}
theorem s_forSn {H0 : Hp} {j : Nat} (h : Ev tl σ H (.ref a)) (hx : Sq K H0 a xs) (eb : Ex H0 H) (Pv : Nat → L2.St → Hp → Prop) (h0 : ∀ H1, Ex H H1 → Pv 0 σ H1) (hl : ∀ i σ' H', Pv i σ' H' → Ex H0 H')
    (hs : ∀ i x σ' H', xs[i]? = some x → Pv i σ' H' → tu { D with nx := Pv (i + 1), ct := Pv (i + 1), bk := D.nx } (σ'.set j (some x)) H') (hd : ∀ σ' H', Pv xs.length σ' H' → D.nx σ' H') : tFor (iSeq K tl) (gName j) tu D σ H :=
  h H (Ex.refl H) _ fun H1 e => by
    refine ⟨a, rfl, ?_⟩
    rcases hx with g | g
    · exact .inl ⟨⟨xs, ex_l (eb.trans e) g⟩, for_list (K := K) (a := a) (xs := xs) Pv (h0 H1 e) (fun i σ' H' _ p => ex_l (hl i σ' H' p) g) hs hd⟩
    · exact .inr ⟨⟨xs, ex_t (eb.trans e) g⟩, for_tup (K := K) (a := a) (xs := xs) Pv (h0 H1 e) (fun i σ' H' _ p => ex_t (hl i σ' H' p) g) hs hd⟩
theorem q_forSn {H0 : Hp} {j : Nat} (h : Ev tl σ H (.ref a)) (hx : Sq K H0 a xs) (eb : Ex H0 H) (Pv : Nat → L2.St → Hp → Prop) (h0 : ∀ H1, Ex H H1 → Pv 0 σ H1) (hl : ∀ i σ' H', Pv i σ' H' → Ex H0 H')
    (hs : ∀ i x σ' H', xs[i]? = some x → Pv i σ' H' → tu { D with nx := Pv (i + 1), ct := Pv (i + 1), bk := tz D } (σ'.set j (some x)) H') (hd : ∀ σ' H', Pv xs.length σ' H' → tz D σ' H') : tSeq (tFor (iSeq K tl) (gName j) tu) tz D σ H :=
  s_forSn (D := { D with nx := tz D }) h hx eb Pv h0 hl hs hd
end
end CHX

namespace CHX
open PySem PySem.Spec PyProof.Rows L2 Evl
variable {P : Program} {w : World} {K : PySem.W.Frag} {mg : Str → Option Value} {base : Heap}
/-! ### in_table -/
def inO (t : List (Option Int)) (n : Int) : Bool := match CH.ent t (n % (t.length : Int)).toNat with
  | some e => decide (e ≤ n)
  | none => false
def spInTable (K : PySem.W.Frag) : Sp := fun vs H Q _ => ∃ (a : Addr) (t : List (Option Int)) (n : Int), vs = [.ref a, .int n] ∧ Sq K H a (t.map entV) ∧ 0 < t.length ∧ RetV (.bl (inO t n)) H Q
theorem cal_in_table (T : Tx P K mg) : Cal P w K mg base 1 "in_table" (spInTable K) := by
  obtain ⟨f, fd, F, hm⟩ := T.d_in_table
  refine ⟨f, fd, ["table", "number"], F.ok sc_in_table (fun vs H Q E h => ?_) (fun cdv A outer s H vs Q E hr h => ?_), hm, F.kp, F.bindsN fun _ _ _ _ _ _ us hl => match us, hl with | [_, _], _ => rfl⟩
  · obtain ⟨a, t, n, rfl, -⟩ := h
    rfl
  · refine ⟨_, ((pss_cons (ps_set (i := 2) sc_in_table.nd rfl (by first | exact Or.inl rfl | exact Or.inr rfl) (pe_ix (ix_qK K) (pv 0) (pe_op op_mod (pv 1) (pe_callB (call_lenK K) (by rfl) T.len boot_len (pa_cons (pv 0) pa_nil))) (fun _ _ => rfl)))
  (pss_one (ps_ret (pe_and (pe_cmpR op_notN (pv 2) pe_non (nomark _)) (pe_one (pe_cmpR op_le (pv 2) (pv 1) (nomark _)))))))), ?_⟩
    obtain ⟨a, t, n, rfl, hs, h0, q⟩ := h
    have hp : (0 : Int) < ((t.map entV).length : Int) := by rw [List.length_map]; omega
    have i0 := Int.emod_nonneg n (Int.ne_of_gt hp)
    have i1 := Int.emod_lt_of_pos n hp
    rw [List.length_map] at i0 i1
    have hi : (n % (t.length : Int)).toNat < t.length := by omega
    refine q_asg (ev_ixQ (ev_var rfl) (ev_binC (ev_var rfl) (ev_lenQ (ev_var rfl) hs) hp) hs (atI_z (by rw [List.length_map]; exact i0) (by rw [List.length_map]; exact ent_at hi))) fun H1 e1 => ?_
    refine s_ret (v := .bl (inO t n)) ?_ fun H2 e2 => q H2 (e1.trans e2)
    unfold inO
    cases hx : CH.ent t (n % (t.length : Int)).toNat with
    | none => exact ev_andV (a := false) (b := false) (ev_op (ev_var rfl) ev_c rv_notN) (fun z => nomatch z)
    | some e => exact ev_andV (a := true) (ev_op (ev_var rfl) ev_c rv_notN) (fun _ => ev_bin (ev_var rfl) (ev_var rfl))
/-! ### put_coin -/
def condB : Option Int → Option Int → Int → Bool
  | none, _, _ => false
  | some _, none, _ => true
  | some h, some x, c => decide (h + c < x)
theorem relax_cond (c : Int) (t : List (Option Int)) (i j : Nat) : CH.relax c t i j = if condB (CH.ent t i) (CH.ent t j) c = true then t.set j (some ((CH.ent t i).getD 0 + c)) else t := by
  unfold CH.relax condB
  cases CH.ent t i with
  | none => rfl
  | some h =>
    cases CH.ent t j with
    | none => rfl
    | some x => simp
def spPutCoin (K : PySem.W.Frag) : Sp := fun vs H Q _ => ∃ (a : Addr) (t : List (Option Int)) (c : Nat), vs = [.ref a, .int (c : Int)] ∧ SqL K H a (t.map entV) ∧ 0 < t.length ∧ t.length ≤ 10000 ∧ 0 < c ∧ RetL ((CH.putCoin t c).map entV) H Q
theorem cal_put_coin (T : Tx P K mg) : Cal P w K mg base 1 "put_coin" (spPutCoin K) := by
  obtain ⟨f, fd, F, hm⟩ := T.d_put_coin
  refine ⟨f, fd, ["table", "coin"], F.ok sc_put_coin (fun vs H Q E h => ?_) (fun cdv A outer s H vs Q E hr h => ?_), hm, F.kp, F.bindsN fun _ _ _ _ _ _ us hl => match us, hl with | [_, _], _ => rfl⟩
  · obtain ⟨a, t, c, rfl, -⟩ := h
    rfl
  · refine ⟨_, ((pss_cons (ps_set (i := 2) sc_put_coin.nd rfl (by first | exact Or.inl rfl | exact Or.inr rfl) (pe_callB (call_lenK K) (by rfl) T.len boot_len (pa_cons (pv 0) pa_nil)))
  (pss_cons (ps_set (i := 3) sc_put_coin.nd rfl (by first | exact Or.inl rfl | exact Or.inr rfl) (pe_callTy (call_listK K) (by rfl) T.list (by decide +kernel) (pa_cons (pv 0) pa_nil)))
  (pss_cons (ps_set (i := 4) sc_put_coin.nd rfl (by first | exact Or.inl rfl | exact Or.inr rfl) (pe_callBfun cr_gcd (by rfl) T.m_gcd (pa_cons (pv 2) (pa_cons (pv 1) pa_nil))))
  (pss_cons (ps_for PassesOwn.leaving rfl (pi_range1 (by rfl) T.range (pa_cons (pv 4) pa_nil)) (pg_name (i := 5) sc_put_coin.nd rfl (by first | exact Or.inl rfl | exact Or.inr rfl))
    (pss_cons (ps_set (i := 6) sc_put_coin.nd rfl (by first | exact Or.inl rfl | exact Or.inr rfl) (pv 5))
    (pss_one (ps_for PassesOwn.leaving rfl (pi_range1 (by rfl) T.range (pa_cons (pe_op op_fdivW (pe_op op_mulW pe_int (pv 2)) (pv 4)) pa_nil)) (pg_name (i := 7) sc_put_coin.nd rfl (by first | exact Or.inl rfl | exact Or.inr rfl))
      (pss_cons (ps_set (i := 8) sc_put_coin.nd rfl (by first | exact Or.inl rfl | exact Or.inr rfl) (pe_op op_mod (pe_op op_add (pv 6) (pv 1)) (pv 2)))
      (pss_cons (ps_if (PW.pt (pw_and (pt_cmpR op_notN (pe_ix (ix_listK K) (pv 3) (pv 6) (fun _ _ => rfl)) pe_non (nomark _)) (pw_and1 (PW.pt (pw_or (pt_cmpR op_isN (pe_ix (ix_listK K) (pv 3) (pv 8) (fun _ _ => rfl)) pe_non (nomark _)) (pw_or1 (pt_cmpR op_gt (pe_ix (ix_listK K) (pv 3) (pv 8) (fun _ _ => rfl)) (pe_op op_add (pe_ix (ix_listK K) (pv 3) (pv 6) (fun _ _ => rfl)) (pv 1)) (nomark _))))))))
        (pss_one (ps_asg (pe_op op_add (pe_ix (ix_listK K) (pv 3) (pv 6) (fun _ _ => rfl)) (pv 1)) (pg_sub (pv 3) (pv 8) set_list))) pss_nil)
      (pss_one (ps_set (i := 6) sc_put_coin.nd rfl (by first | exact Or.inl rfl | exact Or.inr rfl) (pv 8)))))))))
  (pss_one (ps_ret (pv 3)))))))), ?_⟩
    obtain ⟨a, t, c, rfl, hs, h0, hz, hc, q⟩ := h
    refine q_asg (ev_lenQ (ev_var rfl) (.inl hs)) fun H1 e1 => ?_
    rw [List.length_map]
    refine q_asgL (el_listQ (ev_var rfl) (.inl (ex_l e1 hs))) fun p H2 n2 e2 hp => ?_
    have np : H p = none := fresh_back e1 n2
    have gp : 0 < Nat.gcd t.length c := Nat.gcd_pos_of_pos_left c h0
    have gle : Nat.gcd t.length c ≤ t.length := Nat.gcd_le_left c h0
    refine q_asg (ev_gcd (ev_var rfl) (ev_var rfl)) fun H3 e3 => ?_
    have eN : (2 * t.length / Nat.gcd t.length c : Nat) = ((2 * (t.length : Int)) / ((Nat.gcd t.length c : Nat) : Int)) := by
      rw [Int.natCast_ediv] <;> rfl
    have nle : 2 * t.length / Nat.gcd t.length c ≤ 100000 := Nat.le_trans (Nat.div_le_self _ _) (by omega)
    generalize hN : 2 * t.length / Nat.gcd t.length c = N at eN nle
    generalize hG : Nat.gcd t.length c = G at *
    have eg : (Nat.gcd (t.length : Int).natAbs (c : Int).natAbs : Nat) = G := hG
    rw [eg]
    refine q_forR1 (n := (G : Int)) (ea_cons (ev_var rfl) ea_nil) ⟨by omega, by omega⟩
      (fun k σ' H' => ∃ x5 x6 x7 x8, σ' = [some (.ref a), some (.int (c : Int)), some (.int (t.length : Int)), some (.ref p), some (.int (G : Int)), x5, x6, x7, x8] ∧ Ex H H' ∧ H' p = some (.lst ((CH.starts t.length c N k t).map entV)))
      (fun H4 e4 => ⟨_, _, _, _, rfl, (e1.trans e2).trans (e3.trans e4), e4 p _ (e3 p _ hp)⟩) (fun k σ' H' hk P1 => ?_) fun σ' H' P1 => ?_
    · obtain ⟨x5, x6, x7, x8, rfl, ex, hq⟩ := P1
      refine q_asg (ev_var rfl) fun H4 e4 => ?_
      refine s_forR1 (n := (N : Int)) (ea_cons (ev_is (ev_binC (ev_binC ev_c (ev_var rfl) (mulS (by decide) (by omega))) (ev_var rfl) (divS (by omega) (by omega))) (by rw [eN])) ea_nil) ⟨by omega, by omega⟩
        (fun i σ' H' => ∃ x7 x8, σ' = [some (.ref a), some (.int (c : Int)), some (.int (t.length : Int)), some (.ref p), some (.int (G : Int)), some (.int (k : Int)), some (.int (((CH.ringRun t.length c i (k, CH.starts t.length c N k t)).1 : Nat) : Int)), x7, x8] ∧ Ex H H' ∧ H' p = some (.lst ((CH.ringRun t.length c i (k, CH.starts t.length c N k t)).2.map entV)))
        (fun H5 e5 => ⟨_, _, rfl, ex.trans (e4.trans e5), e5 p _ (e4 p _ hq)⟩) (fun i σ' H' hi P2 => ?_) fun σ' H' P2 => ?_
      · obtain ⟨x7, x8, rfl, ex2, hr⟩ := P2
        have hlen : (CH.ringRun t.length c i (k, CH.starts t.length c N k t)).2.length = t.length := by rw [CH.run_len]; exact CH.starts_len k
        have hfst : (CH.ringRun t.length c i (k, CH.starts t.length c N k t)).1 < t.length := by
          rw [CH.run_fst (by omega)]
          exact Nat.mod_lt _ h0
        have hsucc : CH.ringRun t.length c (i + 1) (k, CH.starts t.length c N k t) = CH.ringStep t.length c (CH.ringRun t.length c i (k, CH.starts t.length c N k t)) := rfl
        rw [hsucc]
        generalize CH.ringRun t.length c i (k, CH.starts t.length c N k t) = S at *
        obtain ⟨here, cur⟩ := S
        unfold CH.ringStep
        simp only at hlen hfst hr ⊢
        have th : (here + c) % t.length < t.length := Nat.mod_lt _ h0
        have eT : (((here + c) % t.length : Nat) : Int) = ((here : Int) + (c : Int)) % (t.length : Int) := by rw [Int.natCast_emod] <;> rfl
        refine q_asg (ev_is (ev_binC (ev_bin (ev_var rfl) (ev_var rfl)) (ev_var rfl) (by omega)) (by rw [← eT])) fun H5 e5 => ?_
        generalize (here + c) % t.length = there at th
        have lh : (cur.map entV)[here]? = some (entV (CH.ent cur here)) := ent_at (by omega)
        have lt : (cur.map entV)[there]? = some (entV (CH.ent cur there)) := ent_at (by omega)
        rw [relax_cond]
        have hr5 := e5 p _ hr
        refine q_when (b := condB (CH.ent cur here) (CH.ent cur there) c) ?_ (fun hb H6 e6 => ?_) (fun hb H6 e6 => ?_)
        · cases eh : CH.ent cur here with
          | none =>
            rw [eh] at lh
            exact et_and (a := false) (b := false) (et_test (ev_op (ev_ixL (ev_var rfl) (ev_var rfl) (sq_of hr5) (atI_nat lh)) ev_c rv_notN)) (fun z => nomatch z)
          | some h =>
            rw [eh] at lh
            refine et_and (a := true) (et_test (ev_op (ev_ixL (ev_var rfl) (ev_var rfl) (sq_of hr5) (atI_nat lh)) ev_c rv_notN)) (fun _ => ?_)
            cases et : CH.ent cur there with
            | none =>
              rw [et] at lt
              exact et_or (a := true) (b := true) (et_test (ev_op (ev_ixL (ev_var rfl) (ev_var rfl) (sq_of hr5) (atI_nat lt)) ev_c rv_isN)) (fun z => nomatch z)
            | some x =>
              rw [et] at lt
              exact et_or (a := false) (et_test (ev_op (ev_ixL (ev_var rfl) (ev_var rfl) (sq_of hr5) (atI_nat lt)) ev_c rv_isN)) (fun _ => et_test (ev_bin (ev_ixL (ev_var rfl) (ev_var rfl) (sq_of hr5) (atI_nat lt)) (ev_bin (ev_ixL (ev_var rfl) (ev_var rfl) (sq_of hr5) (atI_nat lh)) (ev_var rfl))))
        · rw [if_pos hb]
          cases eh : CH.ent cur here with
          | none => rw [eh] at hb; cases hb
          | some h =>
            rw [eh] at lh
            have hr6 := e6 p _ hr5
            refine s_setL (j := there) hr6 (ev_bin (ev_ixL (ev_var rfl) (ev_var rfl) (sq_of hr6) (atI_nat lh)) (ev_var rfl)) (ev_var rfl) (ev_var rfl) (by rw [List.length_map]; omega) fun H7 e7 => ?_
            refine s_asg (ev_var rfl) fun H8 e8 => ?_
            refine ⟨_, _, rfl, (Ex.mut (ex2.trans (e5.trans (e6.trans e7))) np).trans e8, e8 p _ ?_⟩
            rw [upd_same, List.map_set] <;> rfl
        · rw [hb, if_neg (by decide)]
          refine s_asg (ev_var rfl) fun H8 e8 => ?_
          exact ⟨_, _, rfl, ex2.trans (e5.trans (e6.trans e8)), e8 p _ (e6 p _ hr5)⟩
      · obtain ⟨x7, x8, rfl, ex2, hr⟩ := P2
        exact ⟨_, _, _, _, rfl, ex2, hr⟩
    · obtain ⟨x5, x6, x7, x8, rfl, ex, hq⟩ := P1
      refine s_ret (v := .ref p) (ev_var rfl) fun H4 e4 => q p H4 np (ex.trans e4) ?_
      have hc0 : CH.starts t.length c N G t = CH.putCoin t c := by
        unfold CH.putCoin
        rw [hG, hN]
      have hq2 := e4 p _ hq
      rw [Int.toNat_natCast, hc0] at hq2
      exact hq2
/-! ### table_of -/
def spTableOf (K : PySem.W.Frag) : Sp := fun vs H Q _ => ∃ (a : Addr) (cs : List Int) (m : Nat), vs = [.ref a, .int (m : Int)] ∧ Sq K H a (cs.map V.int) ∧ (∀ c ∈ cs, 0 < c) ∧ 0 < m ∧ m ≤ 10000 ∧ RetL ((CH.tableOf cs m).map entV) H Q
theorem tab0_entV {m : Nat} (h : 0 < m) : (CH.tab0 m).map entV = [V.int 0] ++ List.replicate ((m : Int) - 1).toNat V.non := by
  unfold CH.tab0
  rw [List.map_cons, List.map_replicate, show ((m : Int) - 1).toNat = m - 1 by omega] <;> rfl
theorem cal_table_of (T : Tx P K mg) : Cal P w K mg base 2 "table_of" (spTableOf K) := by
  obtain ⟨f, fd, F, hm⟩ := T.d_table_of
  refine ⟨f, fd, ["coins", "modulus"], F.ok sc_table_of (fun vs H Q E h => ?_) (fun cdv A outer s H vs Q E hr h => ?_), hm, F.kp, F.bindsN fun _ _ _ _ _ _ us hl => match us, hl with | [_, _], _ => rfl⟩
  · obtain ⟨a, cs, m, rfl, -⟩ := h
    rfl
  · refine ⟨_, ((pss_cons (ps_set (i := 2) sc_table_of.nd rfl (by first | exact Or.inl rfl | exact Or.inr rfl) (pe_op op_cat (pe_lst (pa_cons pe_int pa_nil)) (pe_op op_rep (pe_lst (pa_cons pe_non pa_nil)) (pe_op op_sub (pv 1) pe_int))))
  (pss_cons (ps_for PassesOwn.leaving rfl (pi_seqK K (pv 0)) (pg_name (i := 3) sc_table_of.nd rfl (by first | exact Or.inl rfl | exact Or.inr rfl))
    (pss_one (ps_set (i := 2) sc_table_of.nd rfl (by first | exact Or.inl rfl | exact Or.inr rfl) (pe_cal0 (cal_put_coin T) hr (by decide) (by rfl) (pa_cons (pv 2) (pa_cons (pv 3) pa_nil))))))
  (pss_one (ps_ret (pv 2)))))), ?_⟩
    obtain ⟨a, cs, m, rfl, hs, hp, h0, hz, q⟩ := h
    refine q_asgL (el_cat (el_lst (ea_cons ev_c ea_nil) (by decide)) (el_rep (el_lst (ea_cons ev_c ea_nil) (by decide)) (ev_bin (ev_var rfl) ev_c) ⟨by omega, by omega⟩) ?_) fun p H1 n1 e1 h1 => ?_
    · rw [List.length_replicate]
      show 1 + _ ≤ _
      omega
    rw [← tab0_entV h0] at h1
    refine q_forSn (ev_var rfl) hs e1 (fun i σ' H' => ∃ r x3, σ' = [some (.ref a), some (.int (m : Int)), some (.ref r), x3] ∧ Ex H H' ∧ H r = none ∧ H' r = some (.lst (((cs.take i).foldl (fun t c => CH.putCoin t c.toNat) (CH.tab0 m)).map entV)))
      (fun H2 e2 => ⟨p, _, rfl, e1.trans e2, n1, e2 p _ h1⟩) (fun i σ' H' P1 => ?_) (fun i x σ' H' hx P1 => ?_) (fun σ' H' P1 => ?_)
    · obtain ⟨r, x3, rfl, ex, nr, hr⟩ := P1
      exact ex
    · obtain ⟨r, x3, rfl, ex, nr, hr⟩ := P1
      obtain ⟨c, hc, rfl⟩ := at_map hx
      have cp := hp c (List.mem_of_getElem? hc)
      have clen : ((cs.take i).foldl (fun t c => CH.putCoin t c.toNat) (CH.tab0 m)).length = m := by rw [CH.fold_len]; exact CH.tab0_len h0
      refine s_asgL (el_callS (ea_cons (ev_var rfl) (ea_cons (ev_var rfl) ea_nil)) fun H2 e2 Q2 q2 => ⟨r, _, c.toNat, by rw [Int.toNat_of_nonneg (Int.le_of_lt cp)], sq_of (e2 r _ hr), by omega, by omega, by omega, q2⟩) fun p2 H2 n2 e2 h2 => ?_
      refine ⟨p2, _, rfl, ex.trans e2, fresh_back ex n2, ?_⟩
      rw [take_snoc hc, List.foldl_append]
      exact h2
    · obtain ⟨r, x3, rfl, ex, nr, hr⟩ := P1
      rw [List.length_map, List.take_length] at hr
      exact s_ret (v := .ref r) (ev_var rfl) fun H2 e2 => q r H2 nr (ex.trans e2) (e2 r _ hr)
end CHX

namespace CHX
open PySem PySem.Spec PyProof.Rows L2
/-! ### set(xs), xs a list of ints -/
abbrev fresh0 (w : World) : Obj := { cls := .type "set", dict := none, data := .set #[] 0 (.fresh 0 0 (!w.params.followText "set-order")) }
section
variable {P : Program} {w : World} {A : Around} {E : Value → Shared → Prop} {s : Shared}
theorem call_set_listI {l : Addr} {items : Array Value} (ns : List Int) {Q : Value → Shared → Prop} (quiet : A.handled = none) (hl : s.heap.IsList l items) (hit : IntsAre items.toList ns) (hb : ns.length + 1 < scanBound)
    (go : ∀ (h' : Heap) (tk c : Nat), SetR w h' s.heap.objs.size (fun j => decide (j ∈ ns)) c → c ≤ ns.length → (∀ b o, s.heap.get? b = some o → h'.get? b = some o) → Q (.ref s.heap.objs.size) { s with heap := h', toks := tk }) :
    wpAny (model P w) A (call (.type "set") [.ref l]) Q E s := by
  have many : items.size = ns.length := (Array.length_toList (xs := items)).symm.trans (IntsAre.length hit)
  have ⟨hmro, hmade, hsub⟩ := (⟨F.called_set.mro, F.called_set.made, F.called_set.sub⟩ : _ ∧ _ ∧ _)
  obtain ⟨c, tl, hmro⟩ := hmro
  refine wpAny_call (codeAny_of_tree ?_)
  show wpAny _ _ (callAny (.type "set") _) _ _ _
  refine wpAny_pure ⟨Code.quiet_builtin _ (by decide +kernel), codeAny_builtin F.entry_type_call ?_⟩
  rw [Around.under_plain (weight_type_call_type "set" [.ref l] []) rfl]
  have ⟨h1, h2, hct⟩ := (⟨F.called_set.notType, F.called_set.canCreate, F.typeCall_set_1 (.ref l)⟩ : _ ∧ _ ∧ _)
  repeat (any_goals (first | assumption | wp_step))
  refine codeAny_mono (code_set_led1 (.ref l) (E := E) (Q₁ := fun obj s₁ => obj = .ref s.heap.objs.size ∧ s₁ = { s with heap := s.heap.push (fresh0 w) }) ⟨rfl, rfl⟩) fun r s₁ hr => ?_
  cases r with
  | error e => exact hr
  | ok fl =>
    cases fl with
    | ret obj =>
      obtain ⟨rfl, rfl⟩ := hr
      have there : (s.heap.push (fresh0 w)).get? s.heap.objs.size = some (fresh0 w) := Heap.get?_push_size _ rfl
      have hT : Shared.TypeIs { s with heap := s.heap.push (fresh0 w) } (.ref s.heap.objs.size) "set" := ⟨_, there, rfl⟩
      have ⟨hli, hbi⟩ := (⟨F.called_set.init.lookup, F.called_set.init.bind (.ref s.heap.objs.size)⟩ : _ ∧ _)
      repeat (any_goals (first | assumption | wp_step))
      refine codeAny_mono (codeAny_call_builtin (R := wants (fun r s₂ => r = .none ∧ ∃ h' tk c, s₂ = { s with heap := h', toks := tk } ∧ SetR w h' s.heap.objs.size (fun j => decide (j ∈ ns)) c ∧ c ≤ ns.length ∧ (∀ b o, s.heap.get? b = some o → h'.get? b = some o)) E)
        F.called_set.init.plain F.entry_set_init (check_set_init_1 hT ?_)) fun r₂ s₂ hr₂ => ?_
      · obtain ⟨⟨ocls, odict, odata, oslots⟩, hol, hcl, nl, hdl⟩ := hl
        simp only at hcl hdl
        subst hcl hdl
        have hol2 : (s.heap.push (fresh0 w)).get? l = some { cls := .type "list", dict := odict, data := .seq items nl, slots := oslots } := Heap.get?_push_of_some _ hol
        have ⟨s1, s2, s3⟩ := (⟨PySem.F.sub_list_set, PySem.F.sub_list_frozenset, by decide⟩ : _ ∧ _ ∧ (Value.type "list" == Value.type "dict") = false)
        have isl : (s.heap.push (fresh0 w)).IsList l items := ⟨_, hol2, rfl, nl, rfl⟩
        unfold Builtin.«set.__init__» noKeywords Builtin.Frozenset.updateFrom
        generalize hPI : pyIter = PI
        wp_walk
        subst hPI
        refine wpAny_pyIter_list isl (wpAny_bind (wpAny_runValue ?_))
        have lS : l < s.heap.objs.size := Heap.lt_size hol
        have quiet3 : A.in1.in1.in1.handled = none := by simp [quiet]
        have grown : (s.heap.push (fresh0 w)).objs.size = s.heap.objs.size + 1 := Heap.size_push ..
        have lI : l ≠ (s.heap.push (fresh0 w)).objs.size := by rw [grown]; exact Nat.ne_of_lt (Nat.lt_succ_of_lt lS)
        have apart : s.heap.objs.size ∉ [(s.heap.push (fresh0 w)).objs.size, l] := by
          rw [grown]
          simp only [List.mem_cons, List.mem_singleton, List.not_mem_nil, or_false, not_or]
          exact ⟨Nat.ne_of_lt (Nat.lt_succ_self _), Nat.ne_of_gt lS⟩
        have each : ∀ (i : Nat) (v : Value), items[i]? = some v → ∃ k t, ns[i]? = some k ∧ v = .int k t := fun i v hv => by
          have hi : i < ns.length := by rw [← many]; exact (Array.getElem?_eq_some_iff.mp hv).1
          obtain ⟨t, e⟩ := PyProof.Rows.IntsAre.int_at hit i v (by rw [Array.getElem?_toList]; exact hv)
          exact ⟨ns[i], t, List.getElem?_eq_getElem hi, by rw [e, List.getD_eq_getElem?_getD, List.getElem?_eq_getElem hi] <;> rfl⟩
        refine set_update_ints ((Walks.list quiet3 _ l lI items).toS) s.heap.objs.size apart ns many hb each (items.size - 0) 0 _ (by omega) (Nat.zero_le _) ⟨⟨_, Heap.get?_push_size _ rfl, rfl, rfl⟩, (isl.push _)⟩ ?_ ?_
        · exact ⟨0, Nat.le_refl 0, setR_new_at (Heap.get?_push_of_some _ there)⟩
        · intro s' c' hm hc' hS'
          obtain ⟨h', g2, d', tk', os'⟩ := s'
          obtain ⟨rfl, rfl, rfl⟩ : g2 = s.gens ∧ d' = s.drawn ∧ os' = s.os := ⟨hm.gens, hm.drawn, hm.os⟩
          show wpAny _ _ _ _ _ _
          refine wpAny_pure ?_
          show wpAny _ _ (ret Value.none) _ _ _
          rw [many] at hc'
          refine wpAny_pure ⟨rfl, h', tk', c', rfl, hS', hc', fun b o e => ?_⟩
          have hb0 : b < s.heap.objs.size := Heap.lt_size e
          refine hm.heap b o ?_ (Heap.get?_push_of_some _ (Heap.get?_push_of_some _ e))
          simp only [List.mem_cons, List.mem_singleton, List.not_mem_nil, or_false, not_or, grown]
          exact ⟨Nat.ne_of_lt hb0, Nat.ne_of_lt (Nat.lt_succ_of_lt hb0)⟩
      · cases r₂ with
        | error e => exact hr₂
        | ok fl₂ =>
          cases fl₂ with
          | ret r =>
            obtain ⟨rfl, h', tk, c', rfl, hS', hc', hk'⟩ := hr₂
            repeat (any_goals (first | assumption | wp_step))
            exact go _ _ _ hS' hc' hk'
          | _ => exact hr₂.elim
    | _ => exact hr.elim
end
section
variable {X : Cx}
def rSetL (K : PySem.W.Frag) (w : World) : List V → Hp → VK → Prop := fun vs H Q => ∃ (a : Addr) (ns : List Int), vs = [V.ref a] ∧ SqL K H a (ns.map V.int) ∧ ns.length + 1 < scanBound ∧ ∀ (p : Addr) (c : Nat), H p = none → c ≤ ns.length → Q (.ref p) (upd H p (SetO w p (fun j => decide (j ∈ ns)) c))
theorem cr_setL (hc : X.calm = true) : CallR X (.type "set") (rSetL X.K X.w) := by
  intro pins s σ H vs us Q I r h
  obtain ⟨a, ns, rfl, hs, hb, q⟩ := h
  obtain ⟨its, rv, hl, hz⟩ := I.list hs
  rw [Vals.ref1 r]
  refine call_set_listI ns (I.ok.hd hc) hl.isList (by simpa using rv.ints) hb fun h' tk c R hcn k => ?_
  exact ⟨.ref _, _, I.laid (t' := tk) k (Nat.le_refl _) (setO_new R), rfl, q _ c (I.hok.fresh (Nat.le_refl _)) hcn⟩
/-! ### sorted(a set of ints), of any size -/
def rSortedS2 (w : World) : List V → Hp → VK → Prop := fun vs H Q => ∃ (a : Addr) (S : Int → Bool) (n : Nat), vs = [V.ref a] ∧ H a = some (SetO w a S n) ∧ n ≤ 100000 ∧
  ∀ (ns : List Int) (p : Addr), ns.Pairwise (· < ·) → (∀ k : Int, k ∈ ns ↔ S k = true) → H p = none → Q (.ref p) (upd H p (.lst (ns.map V.int)))
theorem sorted_set2 {P : Program} {w : World} {A : Around} {E : Value → Shared → Prop} {s : Shared} {a : Addr} {S : Int → Bool} {n : Nat} {Q : Value → Shared → Prop} (R : SetR w s.heap a S n) (hh : A.handled = none) (h64 : n ≤ 100000)
    (hQ : ∀ s' p (out : Array Value) (c : Nat) (ns : List Int), (∀ b o, s.heap.get? b = some o → s'.heap.get? b = some o) → s'.gens = s.gens → s'.os = s.os → s.heap.objs.size ≤ p →
      s'.heap.get? p = some (seqObj "list" out c) → IntsAre out.toList ns → ns.Pairwise (· < ·) → (∀ k, k ∈ ns ↔ S k = true) → ns.length = n → Q (.ref p) s') :
    wpAny (model P w) A (call (.builtin "sorted") [.ref a]) Q E s := by
  obtain ⟨o, es, ep, t, ho, hex, hd, g, nd, hm, hb, hf, hn, hr, hl⟩ := R
  refine Calls.call_function_entry kind_sorted plain_sorted entry_sorted (args_sorted1 _) ?_
  unfold Builtin.«sorted»
  refine wpAny_bind (m := checkCount "sorted" 1 1 _) (wpAny_pure ?_)
  refine wpAny_bind (collect_set (A := A.in1) hh ⟨o, ho, hex.1, hd⟩ hf hb hr hl fun s1 vs k1 hz g1 o1 pm => ?_)
  have hvl : vs.length = n := by rw [pm.length_eq, List.length_map, Array.length_toList]; exact hn
  have hlz : vs.length ≤ sizeLine := by rw [hvl]; exact Nat.le_trans h64 (by decide)
  have hI : IntsAre vs (vs.map Builtin.Re.reRawOf) := ints_of vs fun v hv => by
    obtain ⟨e, he, q⟩ := List.mem_map.mp (pm.mem_iff.mp hv)
    obtain ⟨k, tk, h1, _⟩ := g e he
    exact ⟨k, tk, by rw [← q]; exact h1⟩
  have pk : (vs.map Builtin.Re.reRawOf).Perm (es.toList.map keyOf) := by
    have q := pm.map Builtin.Re.reRawOf
    rw [List.map_map] at q
    exact q
  refine wpAny_bind (wpAny_newList ?_ hlz)
  have hoL : (s1.heap.push (seqObj "list" vs.toArray 0)).get? s1.heap.objs.size = some (seqObj "list" vs.toArray 0) := Heap.get?_push_size _ rfl
  refine wpAny_bind (wpAny_holding (wpAny_call_entry slot_list_sort ⟨_, hoL, rfl⟩ entry_list_sort (SrtO.list_sort_ord SrtO.swo_int hoL hlz (fun h2 => SrtO.ints_sortable hI h2) fun out a1 a2 => ⟨_, rfl, ?_⟩) (args_list_sort _)))
  obtain ⟨b1, b2, b3⟩ := SrtO.ints_out hI a1 a2
  obtain ⟨c, hc⟩ := sortedHeap_at (vs := vs) (out := out.toArray) hoL
  have pn : (out.map SrtO.iv).Perm (es.toList.map keyOf) := b2.trans pk
  refine wpAny_pure ⟨_, rfl, hQ _ s1.heap.objs.size out.toArray c (out.map SrtO.iv) (fun b u e => ?_) g1 o1 hz hc b1 (lt_of_le_nodup _ b3 (pn.nodup_iff.mpr nd)) (fun k => by rw [pn.mem_iff, ← hm k]) ?_⟩
  · have q := k1 b u e
    have hlt := Heap.lt_size q
    show (sortedHeap (s1.heap.push (seqObj "list" vs.toArray 0)) s1.heap.objs.size vs out.toArray).get? b = some u
    rw [sortedHeap_old (Nat.ne_of_lt hlt) (by rw [size_push']; exact Nat.lt_succ_of_lt hlt)]
    exact Heap.get?_push_of_some _ q
  · rw [pn.length_eq, List.length_map, Array.length_toList]; exact hn
end
section
variable {X : Cx}
theorem cr_sortedSet2 (hc : X.calm = true) : CallR X (.builtin "sorted") (rSortedS2 X.w) := by
  intro pins s σ H vs us Q I r h
  obtain ⟨a, S, n, rfl, ha, h64, q⟩ := h
  have R := setO_get I ha
  rw [Vals.ref1 r]
  refine sorted_set2 R (I.ok.hd hc) h64 fun s' p out c ns k g o hp hg hi hs hm hl => ?_
  have hlen : (ns.map V.int).length ≤ sizeLine := by rw [List.length_map, hl]; exact Nat.le_trans h64 (by decide)
  have hn : H p = none := I.hok.fresh hp
  have J : Inv X pins σ (upd H p (.lst (ns.map V.int))) { s with heap := s'.heap, gens := s'.gens, drawn := s'.drawn, toks := s'.toks } :=
    I.call (ch := []) (Un.laid k hp hn) (I.hok.laid k hp ⟨hlen, out.toList, c, vals_of_ints hi, hg⟩) (by rw [g]; exact I.bare) (fun _ z => nomatch z)
  have e : s' = { s with heap := s'.heap, gens := s'.gens, drawn := s'.drawn, toks := s'.toks } := by
    cases s'
    cases s
    cases o
    rfl
  rw [e]
  exact ⟨.ref p, _, J, rfl, q ns p hs hm hn⟩
end
end CHX

namespace CHX
open PySem PySem.Spec PyProof.Rows L2 Evl
variable {P : Program} {w : World} {K : PySem.W.Frag} {mg : Str → Option Value} {base : Heap}
/-! ### readings of sets, of fields -/
section
variable {σ : L2.St} {H H' : Hp} {ta tb te tv : TE} {v : V} {D : Ends} {tz : TS} {p C dx : Addr} {fs : List (Str × V)} {f : Str}
theorem el_sortSet {ns : List Int} (ha : EvL ta σ H (ns.map V.int)) (hz : ns.length ≤ 1000) : EvL (tCB (rSortedS2 w) (tCons (tCB (rSetL K w) (tCons ta tNil)) tNil)) σ H ((CH.uniq ns).map V.int) := fun H1 e Q q =>
  ha H1 e _ fun p H2 n2 e2 hp => ⟨p, ns, rfl, sq_of hp, by have : (1001 : Nat) < scanBound := by decide
                                                           omega, fun s c ns0 cn => ⟨s, _, c, rfl, upd_same, by omega, fun ns' b h1 h2 nb => by
    have hb : H2 b = none := by
      by_cases eb : b = s
      · rw [eb, upd_same] at nb
        cases nb
      · rw [upd_ne eb] at nb
        exact nb
    rw [CH.uniq_eq h1 fun x => (h2 x).trans decide_eq_true_iff]
    exact q b _ (fresh_back e2 hb) ((e2.trans (Ex.new ns0)).trans (Ex.new nb)) upd_same⟩⟩
theorem el_sortSetL {a : Addr} {ns : List Int} (ha : Ev ta σ H (.ref a)) (hs : SqL K H a (ns.map V.int)) (hz : ns.length ≤ 1000) : EvL (tCB (rSortedS2 w) (tCons (tCB (rSetL K w) (tCons ta tNil)) tNil)) σ H ((CH.uniq ns).map V.int) := fun H1 e Q q =>
  ha H1 e _ fun H2 e2 => ⟨a, ns, rfl, ex_l (e.trans e2) hs, by have : (1001 : Nat) < scanBound := by decide
                                                               omega, fun s c ns0 cn => ⟨s, _, c, rfl, upd_same, by omega, fun ns' b h1 h2 nb => by
    have hb : H2 b = none := by
      by_cases eb : b = s
      · rw [eb, upd_same] at nb
        cases nb
      · rw [upd_ne eb] at nb
        exact nb
    rw [CH.uniq_eq h1 fun x => (h2 x).trans decide_eq_true_iff]
    exact q b _ (fresh_back e2 hb) ((e2.trans (Ex.new ns0)).trans (Ex.new nb)) upd_same⟩⟩
theorem ev_fld (ho : Ev ta σ H (.ref p)) (hp : H p = some (.ins C dx fs)) (c : Cls K C) (n : NoAttr K C f) (l : fs.lookup f = some v) : Ev (tFld K ta f) σ H v := fun H1 e Q q =>
  ho H1 e _ fun H2 e2 => ⟨p, C, dx, fs, v, rfl, e2 p _ (e p _ hp), c, n, l, q H2 e2⟩
theorem q_fld (hv : Ev tv σ H v) (ho : Ev ta σ H (.ref p)) (hp : H p = some (.ins C dx fs)) (c : Cls K C) (n : NoAttr K C f) (hl : fs.length < 1000) (k : ∀ H1, Ex H H1 → tz D σ (upd H1 p (.ins C dx (putF f v fs)))) : tSeq (sFld K ta tv f) tz D σ H :=
  hv H (Ex.refl H) _ fun H1 e1 => ho H1 e1 _ fun H2 e2 => ⟨p, C, dx, fs, rfl, e2 p _ (e1 p _ hp), c, n, hl, k H2 (e1.trans e2)⟩
theorem s_fld (hv : Ev tv σ H v) (ho : Ev ta σ H (.ref p)) (hp : H p = some (.ins C dx fs)) (c : Cls K C) (n : NoAttr K C f) (hl : fs.length < 1000) (k : ∀ H1, Ex H H1 → D.nx σ (upd H1 p (.ins C dx (putF f v fs)))) : sFld K ta tv f D σ H :=
  hv H (Ex.refl H) _ fun H1 e1 => ho H1 e1 _ fun H2 e2 => ⟨p, C, dx, fs, rfl, e2 p _ (e1 p _ hp), c, n, hl, k H2 (e1.trans e2)⟩
theorem q_fldU {xs : List V} (hv : EvU tv σ H xs) (ho : Ev ta σ H (.ref p)) (hp : H p = some (.ins C dx fs)) (c : Cls K C) (n : NoAttr K C f) (hl : fs.length < 1000) (k : ∀ t H1, H t = none → Ex H H1 → H1 t = some (.tup xs) → tz D σ (upd H1 p (.ins C dx (putF f (.ref t) fs)))) : tSeq (sFld K ta tv f) tz D σ H :=
  hv H (Ex.refl H) _ fun t H1 n1 e1 h1 => ho H1 e1 _ fun H2 e2 => ⟨p, C, dx, fs, rfl, e2 p _ (e1 p _ hp), c, n, hl, k t H2 n1 (e1.trans e2) (e2 t _ h1)⟩
theorem s_fldU {xs : List V} (hv : EvU tv σ H xs) (ho : Ev ta σ H (.ref p)) (hp : H p = some (.ins C dx fs)) (c : Cls K C) (n : NoAttr K C f) (hl : fs.length < 1000) (k : ∀ t H1, H t = none → Ex H H1 → H1 t = some (.tup xs) → D.nx σ (upd H1 p (.ins C dx (putF f (.ref t) fs)))) : sFld K ta tv f D σ H :=
  hv H (Ex.refl H) _ fun t H1 n1 e1 h1 => ho H1 e1 _ fun H2 e2 => ⟨p, C, dx, fs, rfl, e2 p _ (e1 p _ hp), c, n, hl, k t H2 n1 (e1.trans e2) (e2 t _ h1)⟩
end
/-! ### look_number, look_list, look_numbers -/
/-- an exception of the class at C with the field fl leaves -/
def RaiseX (C : Addr) (fl : Str) (v : V) (H : Hp) (E : XK) : Prop := ∀ d H2, Ex H H2 → H d = none → H2 d = some (.xd [(fl, v)]) → E (.ref C) (some d) H2
theorem RaiseX.go {C : Addr} {fl : Str} {v : V} {H H1 : Hp} {E : XK} (r : RaiseX C fl v H E) (e : Ex H H1) : RaiseX C fl v H1 E := fun d H2 e2 n h => r d H2 (e.trans e2) (fresh_back e n) h
theorem rx_sup {C : Addr} {fl : Str} {te : TE} {σ : L2.St} {H : Hp} {v : V} {E : XK} (h : Ev te σ H v) (r : RaiseX C fl v H E) : tSup C fl te σ H E := h H (Ex.refl H) _ fun H1 e1 d nd => r d _ (e1.trans (Ex.new nd)) (fresh_back e1 nd) upd_same
def spLookNumber (K : PySem.W.Frag) : Sp := fun vs H Q E => ∃ n lo hi : Int, vs = [.int n, .int lo, .int hi] ∧ (lo ≤ n ∧ n ≤ hi → RetV (.int n) H Q) ∧ (¬ (lo ≤ n ∧ n ≤ hi) → RaiseX (He.ga K "NumberError") "number" (.int n) H E)
theorem cal_look_number (T : Tx P K mg) : Cal P w K mg base 4 "look_number" (spLookNumber K) := by
  obtain ⟨f, fd, F, hm⟩ := T.d_look_number
  refine ⟨f, fd, ["number", "low", "high"], F.ok sc_look_number (fun vs H Q E h => ?_) (fun cdv A outer s H vs Q E hr h => ?_), hm, F.kp, F.bindsN fun _ _ _ _ _ _ us hl => match us, hl with | [_, _, _], _ => rfl⟩
  · obtain ⟨n, lo, hi, rfl, -⟩ := h
    rfl
  · refine ⟨_, ((pss_cons (ps_if (PW.pt (pw_or (pt_cmpR op_lt (pv 0) (pv 1) (nomark _)) (pw_or1 (pt_cmpR op_gt (pv 0) (pv 2) (nomark _)))))
    (pss_one (L2N.ps_raise rfl (L2N.takes_of rfl rfl rfl rfl) (pmk_supE T.x_NumberError flok_number (hr.mono (by decide)) (by rfl) (pv 0)))) pss_nil)
  (pss_one (ps_ret (pv 0))))), ?_⟩
    obtain ⟨n, lo, hi, rfl, q, r⟩ := h
    refine q_when (et_or (et_test (ev_bin (ev_var rfl) (ev_var rfl))) (fun _ => et_test (ev_bin (ev_var rfl) (ev_var rfl)))) (fun hb H1 e1 => ?_) (fun hb H1 e1 => ?_)
    · refine rx_sup (ev_var rfl) ((r ?_).go e1)
      simp only [Bool.or_eq_true, decide_eq_true_eq] at hb
      omega
    · simp only [Bool.or_eq_false_iff, decide_eq_false_iff_not] at hb
      exact s_ret (ev_var rfl) fun H2 e2 => q (by omega) H2 (e1.trans e2)
def spLookList (K : PySem.W.Frag) : Sp := fun vs H Q E => ∃ (a : Addr) (xs : List V) (lo hi : Int), vs = [.ref a, .int lo, .int hi] ∧ Sq K H a xs ∧ (lo ≤ xs.length ∧ xs.length ≤ hi → RetL xs H Q) ∧ (¬ (lo ≤ xs.length ∧ (xs.length : Int) ≤ hi) → RaiseX (He.ga K "SizeError") "count" (.int xs.length) H E)
theorem cal_look_list (T : Tx P K mg) : Cal P w K mg base 4 "look_list" (spLookList K) := by
  obtain ⟨f, fd, F, hm⟩ := T.d_look_list
  refine ⟨f, fd, ["entries", "least", "most"], F.ok sc_look_list (fun vs H Q E h => ?_) (fun cdv A outer s H vs Q E hr h => ?_), hm, F.kp, F.bindsN fun _ _ _ _ _ _ us hl => match us, hl with | [_, _, _], _ => rfl⟩
  · obtain ⟨a, xs, lo, hi, rfl, -⟩ := h
    rfl
  · refine ⟨_, ((pss_cons (ps_set (i := 3) sc_look_list.nd rfl (by first | exact Or.inl rfl | exact Or.inr rfl) (pe_callTy (call_listK K) (by rfl) T.list (by decide +kernel) (pa_cons (pv 0) pa_nil)))
  (pss_cons (ps_if (PW.pt (pw_or (pt_cmpR op_lt (pe_callB (call_lenK K) (by rfl) T.len boot_len (pa_cons (pv 3) pa_nil)) (pv 1) (nomark _)) (pw_or1 (pt_cmpR op_gt (pe_callB (call_lenK K) (by rfl) T.len boot_len (pa_cons (pv 3) pa_nil)) (pv 2) (nomark _)))))
    (pss_one (L2N.ps_raise rfl (L2N.takes_of rfl rfl rfl rfl) (pmk_supE T.x_SizeError flok_count (hr.mono (by decide)) (by rfl) (pe_callB (call_lenK K) (by rfl) T.len boot_len (pa_cons (pv 3) pa_nil))))) pss_nil)
  (pss_one (ps_ret (pv 3)))))), ?_⟩
    obtain ⟨a, xs, lo, hi, rfl, hs, q, r⟩ := h
    refine q_asgL (el_listQ (ev_var rfl) hs) fun p H1 n1 e1 h1 => ?_
    refine q_when (et_or (et_test (ev_bin (ev_lenQ (ev_var rfl) (.inl (sq_of h1))) (ev_var rfl))) (fun _ => et_test (ev_bin (ev_lenQ (ev_var rfl) (.inl (sq_of h1))) (ev_var rfl)))) (fun hb H2 e2 => ?_) (fun hb H2 e2 => ?_)
    · refine rx_sup (ev_lenQ (ev_var rfl) (.inl (sq_of (e2 p _ h1)))) ((r ?_).go (e1.trans e2))
      simp only [Bool.or_eq_true, decide_eq_true_eq] at hb
      omega
    · simp only [Bool.or_eq_false_iff, decide_eq_false_iff_not] at hb
      exact s_ret (v := .ref p) (ev_var rfl) fun H3 e3 => q (by omega) p H3 n1 ((e1.trans e2).trans e3) (e3 p _ (e2 p _ h1))
/-- the first entry out of bounds -/
def badOf (lo hi : Int) (ns : List Int) : Option Int := ns.find? fun n => !(decide (lo ≤ n) && decide (n ≤ hi))
def spLookNumbers (K : PySem.W.Frag) : Sp := fun vs H Q E => ∃ (a : Addr) (ns : List Int) (l m lo hi : Int), vs = [.ref a, .int l, .int m, .int lo, .int hi] ∧ Sq K H a (ns.map V.int) ∧ (¬ (l ≤ ns.length ∧ (ns.length : Int) ≤ m) → RaiseX (He.ga K "SizeError") "count" (.int ns.length) H E) ∧
  (l ≤ ns.length ∧ (ns.length : Int) ≤ m → match badOf lo hi ns with
    | some n => RaiseX (He.ga K "NumberError") "number" (.int n) H E
    | none => RetL (ns.map V.int) H Q)
theorem bad_none {lo hi : Int} {ns : List Int} (h : ∀ n ∈ ns, lo ≤ n ∧ n ≤ hi) : badOf lo hi ns = none := by
  unfold badOf
  rw [List.find?_eq_none]
  intro n hn
  have := h n hn
  simp [this.1, this.2]
theorem cal_look_numbers (T : Tx P K mg) : Cal P w K mg base 5 "look_numbers" (spLookNumbers K) := by
  obtain ⟨f, fd, F, hm⟩ := T.d_look_numbers
  refine ⟨f, fd, ["entries", "least", "most", "low", "high"], F.ok sc_look_numbers (fun vs H Q E h => ?_) (fun cdv A outer s H vs Q E hr h => ?_), hm, F.kp, F.bindsN fun _ _ _ _ _ _ us hl => match us, hl with | [_, _, _, _, _], _ => rfl⟩
  · obtain ⟨a, ns, l, m, lo, hi, rfl, -⟩ := h
    rfl
  · refine ⟨_, ((pss_cons (ps_set (i := 5) sc_look_numbers.nd rfl (by first | exact Or.inl rfl | exact Or.inr rfl) (pe_cal (cal_look_list T) hr (by decide) (L2N.takes_of rfl rfl rfl rfl) (by rfl) (pa_cons (pv 0) (pa_cons (pv 1) (pa_cons (pv 2) pa_nil)))))
  (pss_cons (ps_for PassesOwn.leaving rfl (pi_seqK K (pv 5)) (pg_name (i := 6) sc_look_numbers.nd rfl (by first | exact Or.inl rfl | exact Or.inr rfl))
    (pss_one (ps_expr (pe_cal (cal_look_number T) hr (by decide) (L2N.takes_of rfl rfl rfl rfl) (by rfl) (pa_cons (pv 6) (pa_cons (pv 3) (pa_cons (pv 4) pa_nil)))))))
  (pss_one (ps_ret (pv 5)))))), ?_⟩
    obtain ⟨a, ns, l, m, lo, hi, rfl, hs, r, q⟩ := h
    -- kept = look_list(..)
    refine ⟨_, rfl, _, rfl, _, rfl, a, ns.map V.int, l, m, rfl, hs, fun h0 p H1 n1 e1 h1 => ?_, fun h0 => ?_⟩
    · rw [List.length_map] at h0
      have q := q h0
      show tSeq (tFor (iSeq K (tVar 5)) (gName 6) _) _ _ [some (.ref a), some (.int l), some (.int m), some (.int lo), some (.int hi), some (.ref p), none] H1
      have bad : ∀ {i : Nat} {n : Int}, ns[i]? = some n → badOf lo hi (ns.take i) = none → ¬ (lo ≤ n ∧ n ≤ hi) → badOf lo hi ns = some n := fun {i n} hn hb hx => by
        have hlt : i < ns.length := (List.getElem?_eq_some_iff.mp hn).1
        have e : ns = ns.take i ++ (n :: ns.drop (i + 1)) := by
          have e2 := List.drop_eq_getElem_cons hlt
          rw [(List.getElem?_eq_some_iff.mp hn).2] at e2
          rw [← e2, List.take_append_drop]
        unfold badOf at hb ⊢
        rw [e, List.find?_append, hb]
        have : (!(decide (lo ≤ n) && decide (n ≤ hi))) = true := by
          simp only [Bool.not_eq_true', Bool.and_eq_false_iff, decide_eq_false_iff_not]
          omega
        rw [List.find?_cons, this] <;> rfl
      refine q_forSn (H0 := H1) (ev_var rfl) (.inl (sq_of h1)) (Ex.refl H1) (fun i σ' H' => ∃ x6, σ' = [some (.ref a), some (.int l), some (.int m), some (.int lo), some (.int hi), some (.ref p), x6] ∧ Ex H1 H' ∧ badOf lo hi (ns.take i) = none)
        (fun H2 e2 => ⟨_, rfl, e2, rfl⟩) (fun i σ' H' P1 => P1.choose_spec.2.1) (fun i x σ' H' hx P1 => ?_) (fun σ' H' P1 => ?_)
      · obtain ⟨x6, rfl, ex, hb⟩ := P1
        obtain ⟨n, hn, rfl⟩ := at_map hx
        refine ⟨_, rfl, _, rfl, _, rfl, n, lo, hi, rfl, fun ok H2 e2 => ⟨_, rfl, ex.trans e2, ?_⟩, fun no => ?_⟩
        · rw [take_snoc hn]
          unfold badOf at hb ⊢
          rw [List.find?_append, hb]
          simp [List.find?_cons, ok.1, ok.2]
        · rw [bad hn hb no] at q
          exact q.go (e1.trans ex)
      · obtain ⟨x6, rfl, ex, hb⟩ := P1
        rw [List.length_map, List.take_length] at hb
        rw [hb] at q
        exact s_ret (v := .ref p) (ev_var rfl) fun H3 e3 => q p H3 n1 ((e1.trans ex).trans e3) (e3 p _ (ex p _ h1))
    · rw [List.length_map] at h0 ⊢
      exact r h0
/-! ### lots -/
/-- the lot at p -/
structure LotF (K : PySem.W.Frag) (H : Hp) (p dx tc tt : Addr) (cs : List Int) (t : List (Option Int)) : Prop where
  ins : H p = some (.ins (He.ga K "Lot") dx [("coins", .ref tc), ("size", .int cs.length), ("grain", .int (CH.gcdOf cs)), ("least", .int (CH.fst cs)), ("greatest", .int (CH.lst cs)), ("_table", .ref tt)])
  coins : H tc = some (.tup (cs.map V.int))
  table : H tt = some (.tup (t.map entV))
def LotAt (K : PySem.W.Frag) (H : Hp) (p : Addr) (cs : List Int) (t : List (Option Int)) : Prop := ∃ dx tc tt, LotF K H p dx tc tt cs t
theorem ex_lot {H H' : Hp} {p : Addr} {cs : List Int} {t : List (Option Int)} (e : Ex H H') (h : LotAt K H p cs t) : LotAt K H' p cs t := by
  obtain ⟨dx, tc, tt, h⟩ := h
  exact ⟨dx, tc, tt, e _ _ h.ins, e _ _ h.coins, e _ _ h.table⟩
/-! ### gcd_of -/
def spGcdOf (K : PySem.W.Frag) : Sp := fun vs H Q _ => ∃ (a : Addr) (ns : List Int), vs = [.ref a] ∧ Sq K H a (ns.map V.int) ∧ RetV (.int (CH.gcdOf ns)) H Q
theorem cal_gcd_of (T : Tx P K mg) : Cal P w K mg base 1 "gcd_of" (spGcdOf K) := by
  obtain ⟨f, fd, F, hm⟩ := T.d_gcd_of
  refine ⟨f, fd, ["numbers"], F.ok sc_gcd_of (fun vs H Q E h => ?_) (fun cdv A outer s H vs Q E hr h => ?_), hm, F.kp, F.bindsN fun _ _ _ _ _ _ us hl => match us, hl with | [_], _ => rfl⟩
  · obtain ⟨a, ns, rfl, -⟩ := h
    rfl
  · refine ⟨_, ((pss_cons (ps_set (i := 1) sc_gcd_of.nd rfl (by first | exact Or.inl rfl | exact Or.inr rfl) pe_int)
  (pss_cons (ps_for PassesOwn.leaving rfl (pi_seqK K (pv 0)) (pg_name (i := 2) sc_gcd_of.nd rfl (by first | exact Or.inl rfl | exact Or.inr rfl))
    (pss_one (ps_set (i := 1) sc_gcd_of.nd rfl (by first | exact Or.inl rfl | exact Or.inr rfl) (pe_callBfun cr_gcd (by rfl) T.m_gcd (pa_cons (pv 1) (pa_cons (pv 2) pa_nil))))))
  (pss_one (ps_ret (pv 1)))))), ?_⟩
    obtain ⟨a, ns, rfl, hs, q⟩ := h
    refine q_asg ev_c fun H1 e1 => ?_
    refine q_forSn (ev_var rfl) hs e1 (fun i σ' H' => ∃ x2, σ' = [some (.ref a), some (.int (CH.gcdOf (ns.take i))), x2] ∧ Ex H H') (fun H2 e2 => ⟨_, rfl, e1.trans e2⟩) (fun i σ' H' P1 => P1.choose_spec.2) (fun i x σ' H' hx P1 => ?_) (fun σ' H' P1 => ?_)
    · obtain ⟨x2, rfl, ex⟩ := P1
      obtain ⟨n, hn, rfl⟩ := at_map hx
      refine s_asg (ev_gcd (ev_var rfl) (ev_var rfl)) fun H2 e2 => ⟨some (.int n), ?_, ex.trans e2⟩
      rw [take_snoc hn]
      unfold CH.gcdOf
      rw [List.foldl_append] <;> rfl
    · obtain ⟨x2, rfl, ex⟩ := P1
      rw [List.length_map, List.take_length]
      exact s_ret (ev_var rfl) fun H2 e2 => q H2 (ex.trans e2)
end CHX

namespace CHX
open PySem PySem.Spec PyProof.Rows L2 Evl
variable {P : Program} {w : World} {K : PySem.W.Frag} {mg : Str → Option Value} {base : Heap}
theorem at_fst {l : List Int} (n : l ≠ []) : atI (l.map V.int) 0 = some (.int (CH.fst l)) := by
  cases l with
  | nil => exact absurd rfl n
  | cons x l => exact atI_nat (j := 0) rfl
theorem at_lst {l : List Int} (n : l ≠ []) : atI (l.map V.int) (-1) = some (.int (CH.lst l)) := by
  have e : l = l.dropLast ++ [CH.lst l] := by
    unfold CH.lst
    rw [List.getLastD_eq_getLast?, List.getLast?_eq_some_getLast n]
    exact (List.dropLast_concat_getLast n).symm
  have e2 : l.map V.int = l.dropLast.map V.int ++ [V.int (CH.lst l)] := by
    rw [← List.map_singleton, ← List.map_append, ← e]
  rw [e2]
  exact atI_last _ _
/-! ### Lot.__init__ -/
/-- what a lot of coins raises: the class's name, the field, its number -/
def lotErr (cs : List Int) : Option (PySem.Str × PySem.Str × Int) :=
  if 1 ≤ (cs.length : Int) ∧ (cs.length : Int) ≤ 64 then
    match badOf 1 (10 ^ 12) cs with
    | some n => some ("NumberError", "number", n)
    | none => if 64 < CH.fst (CH.uniq cs) then some ("WideError", "number", CH.fst (CH.uniq cs)) else none
  else some ("SizeError", "count", cs.length)
def RaiseN (K : PySem.W.Frag) (e : PySem.Str × PySem.Str × Int) (H : Hp) (E : XK) : Prop := RaiseX (He.ga K e.1) e.2.1 (.int e.2.2) H E
def spLotInit (K : PySem.W.Frag) : Sp := fun vs H Q E => ∃ (H0 : Hp) (p dx a : Addr) (cs : List Int), vs = [.ref p, .ref a] ∧ H = upd (upd H0 dx (.own p)) p (.ins (He.ga K "Lot") dx []) ∧ H0 p = none ∧ H0 dx = none ∧ dx ≠ p ∧ Sq K H0 a (cs.map V.int) ∧
  (lotErr cs = none → ∀ H2, Ex H0 H2 → LotAt K H2 p (CH.uniq cs) (CH.tabOf cs) → Q .non H2) ∧ (∀ e, lotErr cs = some e → RaiseN K e H0 E)
theorem ex_made {H0 : Hp} {p dx : Addr} {o1 o2 : HO} (n1 : H0 p = none) (n2 : H0 dx = none) : Ex H0 (upd (upd H0 dx o1) p o2) := Ex.mut (Ex.new n2) n1
theorem kU {H H' : Hp} {u p : Addr} {o o' : HO} (h : H u = some o) (e : Ex H H') (n : u ≠ p) : upd H' p o' u = some o := by
  rw [upd_ne n]
  exact e u _ h
theorem mak_Lot (T : Tx P K mg) : Mak P w K mg base 6 "Lot" (He.ga K "Lot") (spLotInit K) := by
  obtain ⟨f, fd, F, hm, hM⟩ := T.d_Lot_init
  refine ⟨f, fd, ["self", "coins"], hM, F.ok sc_Lot_init (fun vs H Q E h => ?_) (fun cdv A outer s H vs Q E hr h => ?_), hm, F.bindsN fun _ _ _ _ _ _ us hl => match us, hl with | [_, _], _ => rfl⟩
  · obtain ⟨H0, p, dx, a, cs, rfl, -⟩ := h
    rfl
  · refine ⟨_, ((pss_cons (ps_set (i := 2) sc_Lot_init.nd rfl (by first | exact Or.inl rfl | exact Or.inr rfl) (pe_callB (cr_sortedSet2 rfl) (by rfl) T.sorted (by decide +kernel) (pa_cons (pe_callTy (cr_setL rfl) (by rfl) T.set (by decide +kernel) (pa_cons (pe_cal (cal_look_numbers T) hr (by decide) (L2N.takes_of rfl rfl rfl rfl) (by rfl) (pa_cons (pv 1) (pa_cons pe_int (pa_cons pe_int (pa_cons pe_int (pa_cons (pe_gi rfl T.m_COIN) pa_nil)))))) pa_nil)) pa_nil)))
  (pss_cons (ps_if (pt_cmpR op_gt (pe_ix (ix_listK K) (pv 2) pe_int (fun _ _ => rfl)) pe_int (nomark _))
    (pss_one (L2N.ps_raise rfl (L2N.takes_of rfl rfl rfl rfl) (pmk_supE T.x_WideError flok_number (hr.mono (by decide)) (by rfl) (pe_ix (ix_listK K) (pv 2) pe_int (fun _ _ => rfl))))) pss_nil)
  (pss_cons (ps_fld (pv 0) (pe_callTy (call_tupK K) (by rfl) T.tuple (by decide +kernel) (pa_cons (pv 2) pa_nil)) rfl)
  (pss_cons (ps_fld (pv 0) (pe_callB (call_lenK K) (by rfl) T.len boot_len (pa_cons (pv 2) pa_nil)) rfl)
  (pss_cons (ps_fld (pv 0) (pe_cal0 (cal_gcd_of T) hr (by decide) (by rfl) (pa_cons (pv 2) pa_nil)) rfl)
  (pss_cons (ps_fld (pv 0) (pe_ix (ix_listK K) (pv 2) pe_int (fun _ _ => rfl)) rfl)
  (pss_cons (ps_fld (pv 0) (pe_ix (ix_listK K) (pv 2) (pe_un un_neg pe_int) (fun _ _ => rfl)) rfl)
  (pss_one (ps_fld (pv 0) (pe_callTy (call_tupK K) (by rfl) T.tuple (by decide +kernel) (pa_cons (pe_cal0 (cal_table_of T) hr (by decide) (by rfl) (pa_cons (pv 2) (pa_cons (pe_ix (ix_listK K) (pv 2) pe_int (fun _ _ => rfl)) pa_nil))) pa_nil)) rfl)))))))))), ?_⟩
    obtain ⟨H0, p, dx, a, cs, rfl, eH, np, nd, ne, hs, q, r⟩ := h
    have e0 : Ex H0 H := by rw [eH]; exact ex_made np nd
    have hp : H p = some (.ins (He.ga K "Lot") dx []) := by rw [eH]; exact upd_same
    by_cases hz : 1 ≤ (cs.length : Int) ∧ (cs.length : Int) ≤ 64
    · cases hbad : badOf 1 (10 ^ 12) cs with
      | some n =>
        refine ⟨_, rfl, a, cs, 1, 64, 1, 10 ^ 12, rfl, ex_s e0 hs, fun h => absurd hz h, fun _ => ?_⟩
        rw [hbad]
        refine (r ("NumberError", "number", n) ?_).go e0
        unfold lotErr
        rw [if_pos hz, hbad] <;> rfl
      | none =>
        have hne : cs ≠ [] := by
          intro h
          rw [h] at hz
          exact absurd hz.1 (by decide)
        have pos : ∀ c ∈ cs, 0 < c := fun c hc => by
          have h2 := List.find?_eq_none.mp hbad c hc
          simp only [Bool.not_eq_true', Bool.not_eq_true, Bool.not_eq_false', Bool.and_eq_true, decide_eq_true_eq] at h2
          have := h2
          simp at this
          omega
        have une := CH.uniq_ne hne
        have fpos : 0 < CH.fst (CH.uniq cs) := pos _ (CH.mem_uniq.mp (CH.fst_min (CH.uniq_asc cs) une).1)
        have hll : (CH.uniq cs).length ≤ cs.length := CH.uniq_len
        refine q_asgL (el_sortSet (K := K) (ns := cs) (el_callS (xs := cs.map V.int) (ea_cons (ev_var rfl) (ea_cons ev_c (ea_cons ev_c (ea_cons ev_c (ea_cons ev_c ea_nil))))) fun H1 e1 Q1 q1 => ⟨a, cs, 1, 64, 1, 10 ^ 12, rfl, ex_s (e0.trans e1) hs, fun h => absurd hz h, fun _ => ?_⟩) (by omega)) fun u H1 n1 e1 h1 => ?_
        · rw [hbad]
          exact q1
        have hu : ∀ {H2}, Ex H1 H2 → SqL K H2 u ((CH.uniq cs).map V.int) := fun e => sq_of (e u _ h1)
        refine q_when (et_test (ev_bin (ev_ixL (ev_var rfl) ev_c (hu (Ex.refl _)) (at_fst une)) ev_c)) (fun hb H2 e2 => ?_) (fun hb H2 e2 => ?_)
        · refine rx_sup (ev_ixL (ev_var rfl) ev_c (hu e2) (at_fst une)) ((r ("WideError", "number", CH.fst (CH.uniq cs)) ?_).go ((e0.trans e1).trans e2))
          unfold lotErr
          rw [if_pos hz, hbad]
          exact if_pos (of_decide_eq_true hb)
        · have hb := of_decide_eq_false hb
          have hup : u ≠ p := fun z => by
            rw [z, hp] at n1
            cases n1
          have hp := e2 p _ (e1 p _ hp)
          have hu := e2 u _ h1
          have ex := (e0.trans e1).trans e2
          have unat : ((CH.fst (CH.uniq cs)).toNat : Int) = CH.fst (CH.uniq cs) := Int.toNat_of_nonneg (Int.le_of_lt fpos)
          clear e0 e1 e2 h1
          refine q_fldU (eu_tupL (ev_var rfl) (sq_of hu)) (ev_var rfl) hp T.c_Lot T.n_Lot_coins (by decide) fun tc H3 n3 e3 h3 => ?_
          have htp : tc ≠ p := fun z => by
            rw [z, hp] at n3
            cases n3
          have htc := kU (o' := .ins (He.ga K "Lot") dx (putF "coins" (.ref tc) [])) h3 (Ex.refl _) htp
          have hu := kU (o' := .ins (He.ga K "Lot") dx (putF "coins" (.ref tc) [])) hu e3 hup
          have ex := Ex.mut (o := .ins (He.ga K "Lot") dx (putF "coins" (.ref tc) [])) (ex.trans e3) np
          refine q_fld (ev_lenQ (ev_var rfl) (.inl (sq_of hu))) (ev_var rfl) upd_same T.c_Lot T.n_Lot_size (show (1 : Nat) < 1000 by decide) fun H4 e4 => ?_
          rw [List.length_map]
          have htc := kU (o' := .ins (He.ga K "Lot") dx (putF "size" (.int (CH.uniq cs).length) (putF "coins" (.ref tc) []))) htc e4 htp
          have hu := kU (o' := .ins (He.ga K "Lot") dx (putF "size" (.int (CH.uniq cs).length) (putF "coins" (.ref tc) []))) hu e4 hup
          have ex := Ex.mut (o := .ins (He.ga K "Lot") dx (putF "size" (.int (CH.uniq cs).length) (putF "coins" (.ref tc) []))) (ex.trans e4) np
          refine q_fld (ev_callS (ea_cons (ev_var rfl) ea_nil) fun H e Q q => ⟨u, _, rfl, .inl (sq_of (e u _ hu)), q⟩) (ev_var rfl) upd_same T.c_Lot T.n_Lot_grain (show (2 : Nat) < 1000 by decide) fun H5 e5 => ?_
          have htc := kU (o' := .ins (He.ga K "Lot") dx (putF "grain" (.int (CH.gcdOf (CH.uniq cs))) (putF "size" (.int (CH.uniq cs).length) (putF "coins" (.ref tc) [])))) htc e5 htp
          have hu := kU (o' := .ins (He.ga K "Lot") dx (putF "grain" (.int (CH.gcdOf (CH.uniq cs))) (putF "size" (.int (CH.uniq cs).length) (putF "coins" (.ref tc) [])))) hu e5 hup
          have ex := Ex.mut (o := .ins (He.ga K "Lot") dx (putF "grain" (.int (CH.gcdOf (CH.uniq cs))) (putF "size" (.int (CH.uniq cs).length) (putF "coins" (.ref tc) [])))) (ex.trans e5) np
          refine q_fld (ev_ixL (ev_var rfl) ev_c (sq_of hu) (at_fst une)) (ev_var rfl) upd_same T.c_Lot T.n_Lot_least (show (3 : Nat) < 1000 by decide) fun H6 e6 => ?_
          have htc := kU (o' := .ins (He.ga K "Lot") dx (putF "least" (.int (CH.fst (CH.uniq cs))) (putF "grain" (.int (CH.gcdOf (CH.uniq cs))) (putF "size" (.int (CH.uniq cs).length) (putF "coins" (.ref tc) []))))) htc e6 htp
          have hu := kU (o' := .ins (He.ga K "Lot") dx (putF "least" (.int (CH.fst (CH.uniq cs))) (putF "grain" (.int (CH.gcdOf (CH.uniq cs))) (putF "size" (.int (CH.uniq cs).length) (putF "coins" (.ref tc) []))))) hu e6 hup
          have ex := Ex.mut (o := .ins (He.ga K "Lot") dx (putF "least" (.int (CH.fst (CH.uniq cs))) (putF "grain" (.int (CH.gcdOf (CH.uniq cs))) (putF "size" (.int (CH.uniq cs).length) (putF "coins" (.ref tc) []))))) (ex.trans e6) np
          refine q_fld (ev_ixL (ev_var rfl) (ev_un ev_c ru_neg) (sq_of hu) (at_lst une)) (ev_var rfl) upd_same T.c_Lot T.n_Lot_greatest (show (4 : Nat) < 1000 by decide) fun H7 e7 => ?_
          have htc := kU (o' := .ins (He.ga K "Lot") dx (putF "greatest" (.int (CH.lst (CH.uniq cs))) (putF "least" (.int (CH.fst (CH.uniq cs))) (putF "grain" (.int (CH.gcdOf (CH.uniq cs))) (putF "size" (.int (CH.uniq cs).length) (putF "coins" (.ref tc) [])))))) htc e7 htp
          have hu := kU (o' := .ins (He.ga K "Lot") dx (putF "greatest" (.int (CH.lst (CH.uniq cs))) (putF "least" (.int (CH.fst (CH.uniq cs))) (putF "grain" (.int (CH.gcdOf (CH.uniq cs))) (putF "size" (.int (CH.uniq cs).length) (putF "coins" (.ref tc) [])))))) hu e7 hup
          have ex := Ex.mut (o := .ins (He.ga K "Lot") dx (putF "greatest" (.int (CH.lst (CH.uniq cs))) (putF "least" (.int (CH.fst (CH.uniq cs))) (putF "grain" (.int (CH.gcdOf (CH.uniq cs))) (putF "size" (.int (CH.uniq cs).length) (putF "coins" (.ref tc) [])))))) (ex.trans e7) np
          refine s_fldU (eu_tupN (el_callS (xs := (CH.tabOf cs).map entV) (ea_cons (ev_var rfl) (ea_cons (ev_ixL (ev_var rfl) ev_c (sq_of hu) (at_fst une)) ea_nil)) fun H e Q q => ⟨u, CH.uniq cs, (CH.fst (CH.uniq cs)).toNat, by rw [unat], .inl (sq_of (e u _ hu)), fun c hc => pos c (CH.mem_uniq.mp hc), by omega, by omega, q⟩)) (ev_var rfl) upd_same T.c_Lot T.n_Lot_table (show (5 : Nat) < 1000 by decide) fun tt H8 n8 e8 h8 => ?_
          have nttp : tt ≠ p := fun z => by
            rw [z, upd_same] at n8
            cases n8
          refine q ?_ _ (Ex.mut (ex.trans e8) np) ⟨dx, tc, tt, upd_same, kU htc e8 htp, kU h8 (Ex.refl _) nttp⟩
          unfold lotErr
          rw [if_pos hz, hbad]
          exact if_neg hb
    · refine ⟨_, rfl, a, cs, 1, 64, 1, 10 ^ 12, rfl, ex_s e0 hs, fun h => (r ("SizeError", "count", cs.length) ?_).go e0, fun h => absurd h hz⟩
      unfold lotErr
      rw [if_neg hz] <;> rfl
end CHX

namespace CHX
open PySem PySem.Spec PyProof.Rows L2 Evl
variable {P : Program} {w : World} {K : PySem.W.Frag} {mg : Str → Option Value} {base : Heap}
theorem ents_V (T : List Int) : (CH.ents T).map entV = T.map V.int := by
  unfold CH.ents
  rw [List.map_map] <;> rfl
theorem ents_len (T : List Int) : (CH.ents T).length = T.length := List.length_map ..
theorem inO_ents {T : List Int} (h : 0 < T.length) (n : Int) : inO (CH.ents T) n = CH.inT T n := by
  unfold inO CH.inT CH.nth
  rw [ents_len, CH.ent_ents]
  have hp : (0 : Int) < (T.length : Int) := by omega
  have i0 := Int.emod_nonneg n (Int.ne_of_gt hp)
  have i1 := Int.emod_lt_of_pos n hp
  have hi : (n % (T.length : Int)).toNat < T.length := by omega
  rw [List.getD_eq_getElem?_getD, List.getElem?_eq_getElem hi] <;> rfl
/-- a lot without gaps in its grain -/
structure LotW (cs T : List Int) : Prop where
  wt : CH.WT cs T
  fst : CH.fst cs = T.length
  one : CH.gcdOf cs = 1
  cl : cs.length ≤ 64
  tl : T.length ≤ 64
/-! ### look_whole -/
def spLookWhole (K : PySem.W.Frag) : Sp := fun vs H Q E => ∃ (p : Addr) (cs : List Int) (t : List (Option Int)), vs = [.ref p] ∧ LotAt K H p cs t ∧ (CH.gcdOf cs = 1 → RetV (.ref p) H Q) ∧ (CH.gcdOf cs ≠ 1 → RaiseX (He.ga K "GrainError") "grain" (.int (CH.gcdOf cs)) H E)
theorem cal_look_whole (T : Tx P K mg) : Cal P w K mg base 4 "look_whole" (spLookWhole K) := by
  obtain ⟨f, fd, F, hm⟩ := T.d_look_whole
  refine ⟨f, fd, ["lot"], F.ok sc_look_whole (fun vs H Q E h => ?_) (fun cdv A outer s H vs Q E hr h => ?_), hm, F.kp, F.bindsN fun _ _ _ _ _ _ us hl => match us, hl with | [_], _ => rfl⟩
  · obtain ⟨p, cs, t, rfl, -⟩ := h
    rfl
  · refine ⟨_, ((pss_cons (ps_if (pt_cmpR op_ne (pe_fldK K (pv 0) rfl) pe_int (nomark _))
    (pss_one (L2N.ps_raise rfl (L2N.takes_of rfl rfl rfl rfl) (pmk_supE T.x_GrainError flok_grain (hr.mono (by decide)) (by rfl) (pe_fldK K (pv 0) rfl)))) pss_nil)
  (pss_one (ps_ret (pv 0))))), ?_⟩
    obtain ⟨p, cs, t, rfl, ⟨dx, tc, tt, L⟩, q, r⟩ := h
    refine q_when (et_test (ev_neI (ev_fld (ev_var rfl) L.ins T.c_Lot T.n_Lot_grain rfl) ev_c)) (fun hb H1 e1 => ?_) (fun hb H1 e1 => ?_)
    · refine rx_sup (ev_fld (ev_var rfl) (e1 _ _ L.ins) T.c_Lot T.n_Lot_grain rfl) ((r ?_).go e1)
      intro h
      rw [h] at hb
      cases hb
    · refine s_ret (ev_var rfl) fun H2 e2 => q ?_ H2 (e1.trans e2)
      have h2 : decide (CH.gcdOf cs = 1) = true := by
        cases h : decide (CH.gcdOf cs = 1) with
        | true => rfl
        | false => rw [h] at hb; cases hb
      exact of_decide_eq_true h2
/-! ### pseudo_holes, breadth -/
def spPseudo (K : PySem.W.Frag) : Sp := fun vs H Q E => ∃ (p : Addr) (cs : List Int) (t : List (Option Int)), vs = [.ref p] ∧ LotAt K H p cs t ∧ (∀ T, t = CH.ents T → LotW cs T → RetU ((CH.pseudoOf cs T).map V.int) H Q) ∧
  (CH.gcdOf cs ≠ 1 → RaiseX (He.ga K "GrainError") "grain" (.int (CH.gcdOf cs)) H E) ∧ (CH.gcdOf cs = 1 → ∃ T, t = CH.ents T ∧ LotW cs T)
theorem cal_pseudo_holes (T : Tx P K mg) : Cal P w K mg base 5 "pseudo_holes" (spPseudo K) := by
  obtain ⟨f, fd, F, hm⟩ := T.d_pseudo_holes
  refine ⟨f, fd, ["lot"], F.ok sc_pseudo_holes (fun vs H Q E h => ?_) (fun cdv A outer s H vs Q E hr h => ?_), hm, F.kp, F.bindsN fun _ _ _ _ _ _ us hl => match us, hl with | [_], _ => rfl⟩
  · obtain ⟨p, cs, t, rfl, -⟩ := h
    rfl
  · refine ⟨_, ((pss_cons (ps_expr (pe_cal (cal_look_whole T) hr (by decide) (L2N.takes_of rfl rfl rfl rfl) (by rfl) (pa_cons (pv 0) pa_nil)))
  (pss_cons (ps_set (i := 1) sc_pseudo_holes.nd rfl (by first | exact Or.inl rfl | exact Or.inr rfl) (pe_fldK K (pv 0) rfl))
  (pss_cons (ps_set (i := 2) sc_pseudo_holes.nd rfl (by first | exact Or.inl rfl | exact Or.inr rfl) (pe_callB (cr_sortedK K) (by rfl) T.sorted (by decide +kernel) (pa_cons (pe_lc (own := [("entry", 3)]) (g := gName 3) (tt := tYes) rfl sc_pseudo_holes.nd (pi_seqK K (pv 1)) (blkOk_by (own := [("entry", 3)]) (by kernel_rfl)) (fun _ _ _ _ _ => pg_name (i := 3) sc_pseudo_holes.nd rfl (by first | exact Or.inl rfl | exact Or.inr rfl)) (fun _ _ _ _ _ => pts_nil) (fun _ _ _ _ _ => pe_op op_sub (pv 3) (pe_fldK K (pv 0) rfl))) pa_nil)))
  (pss_one (ps_ret (pe_callTy (call_tupK K) (by rfl) T.tuple (by decide +kernel) (pa_cons (pe_lc (own := [("hole", 4)]) (g := gName 4) (tt := _) rfl sc_pseudo_holes.nd (pi_seqK K (pv 2)) (blkOk_by (own := [("hole", 4)]) (by kernel_rfl)) (fun _ _ _ _ _ => pg_name (i := 4) sc_pseudo_holes.nd rfl (by first | exact Or.inl rfl | exact Or.inr rfl)) (fun _ _ _ _ _ => pts_one (pt_val (pe_callB (cr_allK K rfl) (by rfl) T.all (by decide +kernel) (pa_cons (pe_lc (own := [("coin", 5)]) (g := gName 5) (tt := tYes) rfl sc_pseudo_holes.nd (pi_seqK K (pe_fldK K (pv 0) rfl)) (blkOk_by (own := [("coin", 5)]) (by kernel_rfl)) (fun _ _ _ _ _ => pg_name (i := 5) sc_pseudo_holes.nd rfl (by first | exact Or.inl rfl | exact Or.inr rfl)) (fun _ _ _ _ _ => pts_nil) (fun _ _ _ _ _ => pe_cal0 (cal_in_table T) hr (by decide) (by rfl) (pa_cons (pv 1) (pa_cons (pe_op op_add (pv 4) (pv 5)) pa_nil)))) pa_nil)))) (fun _ _ _ _ _ => pv 4)) pa_nil)))))))), ?_⟩
    obtain ⟨p, cs, t, rfl, L0, q, r, g⟩ := h
    refine ⟨_, rfl, p, cs, t, rfl, L0, fun h1 H1 e1 => ?_, fun h1 => r h1⟩
    obtain ⟨T0, rfl, W⟩ := g h1
    obtain ⟨dx, tc, tt, L⟩ := L0
    have hT : 0 < T0.length := by have := W.wt.len; omega
    refine q_asg (ev_fld (ev_var rfl) (e1 _ _ L.ins) T.c_Lot T.n_Lot_table rfl) fun H2 e2 => ?_
    have lt : Sq K H2 tt (T0.map V.int) := .inr (st_of (e2 _ _ (e1 _ _ (by rw [← ents_V]; exact L.table))))
    have ltE : Sq K H2 tt ((CH.ents T0).map entV) := by rw [ents_V]; exact lt
    have li := e2 _ _ (e1 _ _ L.ins)
    refine q_asgL (el_sortN (ns := T0.map fun e => e - T0.length) ?_) fun b H3 n3 e3 h3 => ?_
    · rw [List.map_map]
      exact el_lcM T0 V.int _ (ev_var rfl) lt (by have := W.tl; omega) (fun _ => rfl) fun x hx H4 e4 => ev_is (ev_bin (ev_var rfl) (ev_fld (ev_var rfl) (e4 _ _ li) T.c_Lot T.n_Lot_least rfl)) (by rw [W.fst] <;> rfl)
    refine s_retU (xs := (CH.pseudoOf cs T0).map V.int) (eu_tupN ?_) fun u H4 n4 e4 h4 => q T0 rfl W u H4 (fresh_back ((e1.trans e2).trans e3) n4) (((e1.trans e2).trans e3).trans e4) h4
    unfold CH.pseudoOf
    refine el_lcD _ V.int _ V.int (ev_var rfl) (.inl (sq_of h3)) ?_ (fun _ => rfl) (fun x hx H4 e4 => ?_) (fun x hx H4 e4 _ => ev_var rfl)
    · rw [(CH.isort_perm _).length_eq, List.length_map]
      have := W.tl
      omega
    · refine et_is (et_B (ev_all (bs := cs.map fun c => CH.inT T0 (x + c)) ?_)) (by rw [List.all_map] <;> rfl)
      rw [List.map_map]
      refine el_lcM cs V.int _ (ev_fld (ev_var rfl) (e4 _ _ (e3 _ _ li)) T.c_Lot T.n_Lot_coins rfl) (.inr (st_of (e4 _ _ (e3 _ _ (e2 _ _ (e1 _ _ L.coins)))))) (by have := W.cl; omega) (fun _ => rfl) fun c hc H5 e5 => ?_
      refine ev_callS (ea_cons (ev_var rfl) (ea_cons (ev_bin (ev_var rfl) (ev_var rfl)) ea_nil)) fun H6 e6 Q6 q6 => ⟨tt, CH.ents T0, x + c, rfl, ex_s (((e3.trans e4).trans e5).trans e6) ltE, by rw [ents_len]; exact hT, ?_⟩
      rw [inO_ents hT]
      exact q6
def spBreadth (K : PySem.W.Frag) : Sp := fun vs H Q E => ∃ (p : Addr) (cs : List Int) (t : List (Option Int)), vs = [.ref p] ∧ LotAt K H p cs t ∧ (∀ T, t = CH.ents T → LotW cs T → RetV (.int (CH.pseudoOf cs T).length) H Q) ∧
  (CH.gcdOf cs ≠ 1 → RaiseX (He.ga K "GrainError") "grain" (.int (CH.gcdOf cs)) H E) ∧ (CH.gcdOf cs = 1 → ∃ T, t = CH.ents T ∧ LotW cs T)
theorem cal_breadth (T : Tx P K mg) : Cal P w K mg base 6 "breadth" (spBreadth K) := by
  obtain ⟨f, fd, F, hm⟩ := T.d_breadth
  refine ⟨f, fd, ["lot"], F.ok sc_breadth (fun vs H Q E h => ?_) (fun cdv A outer s H vs Q E hr h => ?_), hm, F.kp, F.bindsN fun _ _ _ _ _ _ us hl => match us, hl with | [_], _ => rfl⟩
  · obtain ⟨p, cs, t, rfl, -⟩ := h
    rfl
  · refine ⟨_, ((pss_cons (ps_expr (pe_cal (cal_look_whole T) hr (by decide) (L2N.takes_of rfl rfl rfl rfl) (by rfl) (pa_cons (pv 0) pa_nil)))
  (pss_one (ps_ret (pe_callB (call_lenK K) (by rfl) T.len boot_len (pa_cons (pe_cal (cal_pseudo_holes T) hr (by decide) (L2N.takes_of rfl rfl rfl rfl) (by rfl) (pa_cons (pv 0) pa_nil)) pa_nil)))))), ?_⟩
    obtain ⟨p, cs, t, rfl, L0, q, r, g⟩ := h
    refine ⟨_, rfl, p, cs, t, rfl, L0, fun h1 H1 e1 => ?_, fun h1 => r h1⟩
    refine ⟨_, rfl, p, cs, t, rfl, ex_lot e1 L0, fun T0 eT W u H2 n2 e2 h2 => ⟨u, _, rfl, .inr (st_of h2), ?_⟩, fun h1 => (r h1).go e1, g⟩
    rw [List.length_map]
    exact q T0 eT W H2 (e1.trans e2)
/-! ### greatest_hole -/
def spGreatest (K : PySem.W.Frag) : Sp := fun vs H Q E => ∃ (p : Addr) (cs T : List Int), vs = [.ref p] ∧ LotAt K H p cs (CH.ents T) ∧ LotW cs T ∧ RetV (.int (CH.lastOf T)) H Q
theorem cal_greatest_hole (T : Tx P K mg) : Cal P w K mg base 1 "greatest_hole" (spGreatest K) := by
  obtain ⟨f, fd, F, hm⟩ := T.d_greatest_hole
  refine ⟨f, fd, ["lot"], F.ok sc_greatest_hole (fun vs H Q E h => ?_) (fun cdv A outer s H vs Q E hr h => ?_), hm, F.kp, F.bindsN fun _ _ _ _ _ _ us hl => match us, hl with | [_], _ => rfl⟩
  · obtain ⟨p, cs, t, rfl, -⟩ := h
    rfl
  · refine ⟨_, ((pss_one (ps_ret (pe_op op_sub (pe_callB (cr_maxK K rfl) (by rfl) T.max (by decide +kernel) (pa_cons (pe_lc (own := [("entry", 1)]) (g := gName 1) (tt := _) rfl sc_greatest_hole.nd (pi_seqK K (pe_fldK K (pv 0) rfl)) (blkOk_by (own := [("entry", 1)]) (by kernel_rfl)) (fun _ _ _ _ _ => pg_name (i := 1) sc_greatest_hole.nd rfl (by first | exact Or.inl rfl | exact Or.inr rfl)) (fun _ _ _ _ _ => pts_one (pt_cmpR op_notN (pv 1) pe_non (nomark _))) (fun _ _ _ _ _ => pv 1)) pa_nil)) (pe_fldK K (pv 0) rfl))))), ?_⟩
    obtain ⟨p, cs, T0, rfl, ⟨dx, tc, tt, L⟩, W, q⟩ := h
    have hT : T0 ≠ [] := by
      intro h
      have := W.wt.len
      rw [h] at this
      exact absurd this (by decide)
    have lt : Sq K H tt (T0.map V.int) := .inr (st_of (by rw [← ents_V]; exact L.table))
    refine s_ret (v := .int (CH.lastOf T0)) (ev_is (ev_bin (ev_maxN (ns := T0) ?_ hT) (ev_fld (ev_var rfl) L.ins T.c_Lot T.n_Lot_least rfl)) (by rw [W.fst] <;> rfl)) fun H1 e1 => q H1 e1
    have h := el_lcD (t := tTest (tOp (fun x y H Q => y = .non ∧ Q (.bl (!decide (x = .non))) H) (tVar 1) (tC .non))) (te := tVar 1) (tl := tFld K (tVar 0) "_table") (j := 1) (vs := [1]) (σ := [some (.ref p), none]) (K := K) T0 V.int (fun _ => true) V.int
      (ev_fld (ev_var rfl) L.ins T.c_Lot T.n_Lot_table rfl) lt (by have := W.tl; omega) (fun _ => rfl) (fun x hx H4 e4 => et_test (ev_op (ev_var rfl) ev_c rv_notN)) (fun x hx H4 e4 _ => ev_var rfl)
    rw [filter_true] at h
    exact h
end CHX

namespace CHX
open PySem PySem.Spec PyProof.Rows L2 Evl
variable {P : Program} {w : World} {K : PySem.W.Frag} {mg : Str → Option Value} {base : Heap}
theorem at_nth {T : List Int} {n : Int} (h0 : 0 ≤ n) (h1 : n < T.length) : atI (T.map V.int) n = some (.int (CH.nth T n.toNat)) := by
  refine atI_z h0 ?_
  have hi : n.toNat < T.length := by omega
  unfold CH.nth
  rw [List.getElem?_map, List.getD_eq_getElem?_getD, List.getElem?_eq_getElem hi] <;> rfl
theorem at_mod {T : List Int} (n : Int) (h : 0 < T.length) : atI (T.map V.int) (n % (T.length : Int)) = some (.int (CH.nth T (n % (T.length : Int)).toNat)) := by
  have hp : (0 : Int) < (T.length : Int) := by omega
  exact at_nth (Int.emod_nonneg n (Int.ne_of_gt hp)) (Int.emod_lt_of_pos n hp)
theorem len_map (T : List Int) : (T.map V.int).length = T.length := List.length_map ..
theorem tm_of {C : Addr} {sp : Sp} {E : XK} {t : TA} {σ : L2.St} {H : Hp} {Q : VK} {Pr : List V → Hp → Prop} (h : EvB t σ H Pr)
    (k : ∀ vs H1, Ex H H1 → Pr vs H1 → ∀ x dx, H1 x = none → H1 dx = none → dx ≠ x → sp (.ref x :: (vs ++ [])) (upd (upd H1 dx (.own x)) x (.ins C dx [])) (fun v H2 => v = .non ∧ Q (.ref x) H2) E) : tMake C sp [] E t σ H Q := h H (Ex.refl H) _ k
theorem tc_of {sp : Sp} {E : L2.St → XK} {t : TA} {σ : L2.St} {H : Hp} {Q : VK} {Pr : List V → Hp → Prop} (h : EvB t σ H Pr) (k : ∀ vs H1, Ex H H1 → Pr vs H1 → sp vs H1 Q (E σ)) : tCallS sp E t σ H Q := h H (Ex.refl H) _ k
/-! ### starts_table -/
def spStarts (K : PySem.W.Frag) : Sp := fun vs H Q _ => ∃ (a b : Addr) (T ss : List Int), vs = [.ref a, .ref b] ∧ SqT K H a (T.map V.int) ∧ Sq K H b (ss.map V.int) ∧ 0 < T.length ∧ T.length ≤ 1000 ∧ ss ≠ [] ∧ ss.length ≤ 1000 ∧ RetL ((CH.startsOf T ss).map V.int) H Q
theorem cal_starts_table (T : Tx P K mg) : Cal P w K mg base 1 "starts_table" (spStarts K) := by
  obtain ⟨f, fd, F, hm⟩ := T.d_starts_table
  refine ⟨f, fd, ["lot_table", "starts"], F.ok sc_starts_table (fun vs H Q E h => ?_) (fun cdv A outer s H vs Q E hr h => ?_), hm, F.kp, F.bindsN fun _ _ _ _ _ _ us hl => match us, hl with | [_, _], _ => rfl⟩
  · obtain ⟨a, b, T, ss, rfl, -⟩ := h
    rfl
  · refine ⟨_, ((pss_cons (ps_set (i := 2) sc_starts_table.nd rfl (by first | exact Or.inl rfl | exact Or.inr rfl) (pe_callB (call_lenK K) (by rfl) T.len boot_len (pa_cons (pv 0) pa_nil)))
  (pss_cons (ps_set (i := 3) sc_starts_table.nd rfl (by first | exact Or.inl rfl | exact Or.inr rfl) (pe_lst pa_nil))
  (pss_cons (ps_for PassesOwn.leaving rfl (pi_range1 (by rfl) T.range (pa_cons (pv 2) pa_nil)) (pg_name (i := 4) sc_starts_table.nd rfl (by first | exact Or.inl rfl | exact Or.inr rfl))
    (pss_one (ps_expr (pe_bm PySem.F.plainAttrs_list PySem.F.slot_list_append PySem.F.type_list_append (mt_append) (pv 3) (pa_cons (pe_callB (cr_minK K rfl) (by rfl) T.min (by decide +kernel) (pa_cons (pe_lc (own := [("start", 5)]) (g := gName 5) (tt := tYes) rfl sc_starts_table.nd (pi_seqK K (pv 1)) (blkOk_by (own := [("start", 5)]) (by kernel_rfl)) (fun _ _ _ _ _ => pg_name (i := 5) sc_starts_table.nd rfl (by first | exact Or.inl rfl | exact Or.inr rfl)) (fun _ _ _ _ _ => pts_nil) (fun _ _ _ _ _ => pe_op op_add (pv 5) (pe_ix (ix_tupK K) (pv 0) (pe_op op_mod (pe_op op_sub (pv 4) (pv 5)) (pv 2)) (fun _ _ => rfl)))) pa_nil)) pa_nil)))))
  (pss_one (ps_ret (pv 3))))))), ?_⟩
    obtain ⟨a, b, T0, ss, rfl, ha, hb, h0, hz, ne, hy, q⟩ := h
    refine q_asg (ev_lenQ (ev_var rfl) (.inr ha)) fun H1 e1 => ?_
    rw [len_map]
    refine q_asgL (el_lst ea_nil (by decide)) fun p H2 n2 e2 h2 => ?_
    have np := fresh_back e1 n2
    refine q_forR1 (n := (T0.length : Int)) (ea_cons (ev_var rfl) ea_nil) ⟨by omega, by omega⟩
      (fun k σ' H' => ∃ x4 x5, σ' = [some (.ref a), some (.ref b), some (.int (T0.length : Int)), some (.ref p), x4, x5] ∧ Ex H H' ∧ H' p = some (.lst (((List.range k).map fun (r : Nat) => CH.minOf (ss.map fun s => s + CH.nth T0 (((r : Int) - s) % (T0.length : Int)).toNat)).map V.int)))
      (fun H3 e3 => ⟨_, _, rfl, (e1.trans e2).trans e3, e3 p _ h2⟩) (fun k σ' H' hk P1 => ?_) fun σ' H' P1 => ?_
    · obtain ⟨x4, x5, rfl, ex, hp⟩ := P1
      refine s_app hp (ev_var rfl) (ev_minN (ns := ss.map fun s => s + CH.nth T0 (((k : Int) - s) % (T0.length : Int)).toNat) ?_ (by simpa using ne)) (by rw [List.length_map, List.length_map, List.length_range]; omega) fun H3 e3 => ?_
      · rw [List.map_map]
        exact el_lcM ss V.int _ (ev_var rfl) (ex_s ex hb) (by omega) (fun _ => rfl) fun s hs H4 e4 => ev_bin (ev_var rfl) (ev_ixT (ev_var rfl) (ev_binC (ev_bin (ev_var rfl) (ev_var rfl)) (ev_var rfl) (by omega)) (ex_t (ex.trans e4) ha) (at_mod _ h0))
      · refine ⟨_, _, rfl, Ex.mut (ex.trans e3) np, ?_⟩
        rw [upd_same, List.range_succ, List.map_append, List.map_append] <;> rfl
    · obtain ⟨x4, x5, rfl, ex, hp⟩ := P1
      exact s_ret (v := .ref p) (ev_var rfl) fun H3 e3 => q p H3 np (ex.trans e3) (e3 p _ hp)
/-! ### members_of, mirror_table -/
def spMembers (K : PySem.W.Frag) : Sp := fun vs H Q _ => ∃ (a b : Addr) (Kt cs : List Int), vs = [.ref a, .ref b] ∧ Sq K H a (Kt.map V.int) ∧ Sq K H b (cs.map V.int) ∧ 0 < Kt.length ∧ Kt.length ≤ 1000 ∧ cs.length ≤ 1000 ∧ RetU ((CH.membersOf Kt cs).map V.int) H Q
theorem cal_members_of (T : Tx P K mg) : Cal P w K mg base 2 "members_of" (spMembers K) := by
  obtain ⟨f, fd, F, hm⟩ := T.d_members_of
  refine ⟨f, fd, ["table", "coins"], F.ok sc_members_of (fun vs H Q E h => ?_) (fun cdv A outer s H vs Q E hr h => ?_), hm, F.kp, F.bindsN fun _ _ _ _ _ _ us hl => match us, hl with | [_, _], _ => rfl⟩
  · obtain ⟨a, b, Kt, cs, rfl, -⟩ := h
    rfl
  · refine ⟨_, ((pss_cons (ps_setLc (i := 2) (own := [("entry", 3)]) (g := gName 3) (tt := _) rfl sc_members_of.nd rfl rfl (sw_true rfl rfl rfl (by decide +kernel)) (pi_seqK K (pv 0)) (blkOk_by (own := [("entry", 3)]) (by kernel_rfl)) (fun _ _ _ _ _ => pg_name (i := 3) sc_members_of.nd rfl (by first | exact Or.inl rfl | exact Or.inr rfl)) (fun _ _ _ _ _ => pts_one (pt_not (pt_val (pe_callB (cr_anyK K rfl) (by rfl) T.any (by decide +kernel) (pa_cons (pe_lc (own := [("coin", 4)]) (g := gName 4) (tt := tYes) rfl sc_members_of.nd (pi_seqK K (pv 1)) (blkOk_by (own := [("coin", 4)]) (by kernel_rfl)) (fun _ _ _ _ _ => pg_name (i := 4) sc_members_of.nd rfl (by first | exact Or.inl rfl | exact Or.inr rfl)) (fun _ _ _ _ _ => pts_nil) (fun _ _ _ _ _ => pe_cal0 (cal_in_table T) hr (by decide) (by rfl) (pa_cons (pv 0) (pa_cons (pe_op op_sub (pv 3) (pv 4)) pa_nil)))) pa_nil))))) (fun _ _ _ _ _ => pv 3))
  (pss_one (ps_ret (pe_callTy (call_tupK K) (by rfl) T.tuple (by decide +kernel) (pa_cons (pe_callB (cr_sortedK K) (by rfl) T.sorted (by decide +kernel) (pa_cons (pv 2) pa_nil)) pa_nil)))))), ?_⟩
    obtain ⟨a, b, Kt, cs, rfl, ha, hb, h0, hz, hy, q⟩ := h
    refine q_asgL (xs := (Kt.filter fun e => !(cs.any fun c => CH.inT Kt (e - c))).map V.int) ?_ fun p H1 n1 e1 h1 => ?_
    · refine el_lcD Kt V.int _ V.int (ev_var rfl) ha (by omega) (fun _ => rfl) (fun x hx H4 e4 => ?_) (fun x hx H4 e4 _ => ev_var rfl)
      refine et_not (et_is (et_B (ev_any (bs := cs.map fun c => CH.inT Kt (x - c)) ?_)) (by rw [List.any_map] <;> rfl))
      rw [List.map_map]
      refine el_lcM cs V.int _ (ev_var rfl) (ex_s e4 hb) (by omega) (fun _ => rfl) fun c hc H5 e5 => ?_
      refine ev_callS (ea_cons (ev_var rfl) (ea_cons (ev_bin (ev_var rfl) (ev_var rfl)) ea_nil)) fun H6 e6 Q6 q6 => ⟨a, CH.ents Kt, x - c, rfl, by rw [ents_V]; exact ex_s ((e4.trans e5).trans e6) ha, by rw [ents_len]; exact h0, ?_⟩
      rw [inO_ents h0]
      exact q6
    · exact s_retU (eu_tupN (el_sortL (ev_var rfl) (sq_of h1))) fun u H2 n2 e2 h2 => q u H2 (fresh_back e1 n2) (e1.trans e2) h2
def spMirror (K : PySem.W.Frag) : Sp := fun vs H Q _ => ∃ (a : Addr) (T : List Int) (F : Int), vs = [.ref a, .int F] ∧ SqT K H a (T.map V.int) ∧ 0 < T.length ∧ T.length ≤ 1000 ∧ RetL ((CH.mirrorOf T F).map V.int) H Q
theorem cal_mirror_table (T : Tx P K mg) : Cal P w K mg base 1 "mirror_table" (spMirror K) := by
  obtain ⟨f, fd, F, hm⟩ := T.d_mirror_table
  refine ⟨f, fd, ["table", "hole"], F.ok sc_mirror_table (fun vs H Q E h => ?_) (fun cdv A outer s H vs Q E hr h => ?_), hm, F.kp, F.bindsN fun _ _ _ _ _ _ us hl => match us, hl with | [_, _], _ => rfl⟩
  · obtain ⟨a, T, F, rfl, -⟩ := h
    rfl
  · refine ⟨_, ((pss_cons (ps_set (i := 2) sc_mirror_table.nd rfl (by first | exact Or.inl rfl | exact Or.inr rfl) (pe_callB (call_lenK K) (by rfl) T.len boot_len (pa_cons (pv 0) pa_nil)))
  (pss_one (ps_ret (pe_lc (own := [("remainder", 3)]) (g := gName 3) (tt := tYes) rfl sc_mirror_table.nd (pi_range1 (by rfl) T.range (pa_cons (pv 2) pa_nil)) (blkOk_by (own := [("remainder", 3)]) (by kernel_rfl)) (fun _ _ _ _ _ => pg_name (i := 3) sc_mirror_table.nd rfl (by first | exact Or.inl rfl | exact Or.inr rfl)) (fun _ _ _ _ _ => pts_nil) (fun _ _ _ _ _ => pe_op op_sub (pe_op op_add (pv 1) (pv 2)) (pe_ix (ix_tupK K) (pv 0) (pe_op op_mod (pe_op op_sub (pv 1) (pv 3)) (pv 2)) (fun _ _ => rfl)))))))), ?_⟩
    obtain ⟨a, T0, F, rfl, ha, h0, hz, q⟩ := h
    refine q_asg (ev_lenQ (ev_var rfl) (.inr ha)) fun H1 e1 => ?_
    rw [len_map]
    refine s_retL (xs := (CH.mirrorOf T0 F).map V.int) ?_ fun u H2 n2 e2 h2 => q u H2 (fresh_back e1 n2) (e1.trans e2) h2
    have e : (CH.mirrorOf T0 F).map V.int = (List.range ((T0.length : Int)).toNat).map fun (r : Nat) => V.int (F + T0.length - CH.nth T0 ((F - (r : Int)) % (T0.length : Int)).toNat) := by
      unfold CH.mirrorOf
      rw [List.map_map] <;> rfl
    rw [e]
    exact el_lcRM _ (ea_cons (ev_var rfl) ea_nil) ⟨by omega, by omega⟩ (fun _ => rfl) fun i H3 e3 hi => ev_bin (ev_bin (ev_var rfl) (ev_var rfl)) (ev_ixT (ev_var rfl) (ev_binC (ev_bin (ev_var rfl) (ev_var rfl)) (ev_var rfl) (by omega)) (ex_t (e1.trans e3) ha) (at_mod _ h0))
/-! ### Ideal -/
structure IdealF (K : PySem.W.Frag) (H : Hp) (p dx l tm tt : Addr) (T Kt : List Int) : Prop where
  ins : H p = some (.ins (He.ga K "Ideal") dx [("lot", .ref l), ("_made", .ref tm), ("table", .ref tt), ("lowest", .int (CH.minOf Kt))])
  made : H tm = some (.tup (T.map V.int))
  table : H tt = some (.tup (Kt.map V.int))
def IdealAt (K : PySem.W.Frag) (H : Hp) (p l : Addr) (T Kt : List Int) : Prop := ∃ dx tm tt, IdealF K H p dx l tm tt T Kt
theorem ex_ideal {H H' : Hp} {p l : Addr} {T Kt : List Int} (e : Ex H H') (h : IdealAt K H p l T Kt) : IdealAt K H' p l T Kt := by
  obtain ⟨dx, tm, tt, h⟩ := h
  exact ⟨dx, tm, tt, e _ _ h.ins, e _ _ h.made, e _ _ h.table⟩
def startsErr (ss : List Int) : Option (PySem.Str × PySem.Str × Int) :=
  if 1 ≤ (ss.length : Int) ∧ (ss.length : Int) ≤ 64 then
    match badOf (-10 ^ 12) (10 ^ 12) ss with
    | some n => some ("NumberError", "number", n)
    | none => none
  else some ("SizeError", "count", ss.length)
def idealErr (cs ss : List Int) : Option (PySem.Str × PySem.Str × Int) := if CH.gcdOf cs = 1 then startsErr ss else some ("GrainError", "grain", CH.gcdOf cs)
def spIdealInit (K : PySem.W.Frag) : Sp := fun vs H Q E => ∃ (H0 : Hp) (p dx l a : Addr) (cs : List Int) (t : List (Option Int)) (ss : List Int), vs = [.ref p, .ref l, .ref a] ∧ H = upd (upd H0 dx (.own p)) p (.ins (He.ga K "Ideal") dx []) ∧ H0 p = none ∧ H0 dx = none ∧ dx ≠ p ∧
  LotAt K H0 l cs t ∧ Sq K H0 a (ss.map V.int) ∧ (CH.gcdOf cs = 1 → ∃ T, t = CH.ents T ∧ LotW cs T) ∧
  (idealErr cs ss = none → ∀ T H2, t = CH.ents T → LotW cs T → Ex H0 H2 → IdealAt K H2 p l T (CH.startsOf T ss) → Q .non H2) ∧ (∀ e, idealErr cs ss = some e → RaiseN K e H0 E)
theorem mak_Ideal (T : Tx P K mg) : Mak P w K mg base 6 "Ideal" (He.ga K "Ideal") (spIdealInit K) := by
  obtain ⟨f, fd, F, hm, hM⟩ := T.d_Ideal_init
  refine ⟨f, fd, ["self", "lot", "starts"], hM, F.ok sc_Ideal_init (fun vs H Q E h => ?_) (fun cdv A outer s H vs Q E hr h => ?_), hm, F.bindsN fun _ _ _ _ _ _ us hl => match us, hl with | [_, _, _], _ => rfl⟩
  · obtain ⟨H0, p, dx, l, a, cs, t, ss, rfl, -⟩ := h
    rfl
  · refine ⟨_, ((pss_cons (ps_expr (pe_cal (cal_look_whole T) hr (by decide) (L2N.takes_of rfl rfl rfl rfl) (by rfl) (pa_cons (pv 1) pa_nil)))
  (pss_cons (ps_set (i := 3) sc_Ideal_init.nd rfl (by first | exact Or.inl rfl | exact Or.inr rfl) (pe_cal (cal_look_numbers T) hr (by decide) (L2N.takes_of rfl rfl rfl rfl) (by rfl) (pa_cons (pv 2) (pa_cons pe_int (pa_cons pe_int (pa_cons (pe_un un_neg (pe_gi rfl T.m_COIN)) (pa_cons (pe_gi rfl T.m_COIN) pa_nil)))))))
  (pss_cons (ps_fld (pv 0) (pv 1) rfl)
  (pss_cons (ps_fld (pv 0) (pe_callTy (call_tupK K) (by rfl) T.tuple (by decide +kernel) (pa_cons (pe_fldK K (pv 1) rfl) pa_nil)) rfl)
  (pss_cons (ps_fld (pv 0) (pe_callTy (call_tupK K) (by rfl) T.tuple (by decide +kernel) (pa_cons (pe_cal0 (cal_starts_table T) hr (by decide) (by rfl) (pa_cons (pe_fldK K (pv 1) rfl) (pa_cons (pv 3) pa_nil))) pa_nil)) rfl)
  (pss_one (ps_fld (pv 0) (pe_callB (cr_minTK K rfl) (by rfl) T.min (by decide +kernel) (pa_cons (pe_fldK K (pv 0) rfl) pa_nil)) rfl)))))))), ?_⟩
    obtain ⟨H0, p, dx, l, a, cs, t, ss, rfl, eH, np, nd, ne, L0, hs, g, q, r⟩ := h
    have e0 : Ex H0 H := by rw [eH]; exact ex_made np nd
    have hp : H p = some (.ins (He.ga K "Ideal") dx []) := by rw [eH]; exact upd_same
    clear eH
    refine ⟨_, rfl, l, cs, t, rfl, ex_lot e0 L0, fun h1 H1 e1 => ?_, fun h1 => (r ("GrainError", "grain", CH.gcdOf cs) (if_neg h1)).go e0⟩
    obtain ⟨T0, rfl, W⟩ := g h1
    obtain ⟨dl, tc, tt, L⟩ := L0
    have hT : 0 < T0.length := by have := W.wt.len; omega
    have ie : idealErr cs ss = startsErr ss := if_pos h1
    rw [ie] at q r
    refine ⟨_, rfl, _, rfl, a, ss, 1, 64, -10 ^ 12, 10 ^ 12, rfl, ex_s (e0.trans e1) hs, fun h => (r ("SizeError", "count", ss.length) (if_neg h)).go (e0.trans e1), fun h => ?_⟩
    have se : startsErr ss = match badOf (-10 ^ 12) (10 ^ 12) ss with
      | some n => some ("NumberError", "number", n)
      | none => none := if_pos h
    rw [se] at q r
    cases hbad : badOf (-10 ^ 12) (10 ^ 12) ss with
    | some n =>
      rw [hbad] at r
      exact (r _ rfl).go (e0.trans e1)
    | none =>
      intro u H2 n2 e2 h2
      rw [hbad] at q
      have q := q rfl
      have hup : u ≠ p := fun z => by
        rw [z, e1 _ _ hp] at n2
        cases n2
      have ssne : ss ≠ [] := by
        intro z
        rw [z] at h
        exact absurd h.1 (by decide)
      have hp := e2 _ _ (e1 _ _ hp)
      have ex := (e0.trans e1).trans e2
      have li := fun {H} (e : Ex H0 H) => e _ _ L.ins
      have lt := fun {H} (e : Ex H0 H) => (show SqT K H tt (T0.map V.int) from st_of (e _ _ (by rw [← ents_V]; exact L.table)))
      refine q_fld (ev_var rfl) (ev_var rfl) hp T.c_Ideal T.n_Ideal_lot (by decide) fun H3 e3 => ?_
      have hu := kU (o' := .ins (He.ga K "Ideal") dx (putF "lot" (.ref l) [])) h2 e3 hup
      have ex := Ex.mut (o := .ins (He.ga K "Ideal") dx (putF "lot" (.ref l) [])) (ex.trans e3) np
      refine q_fld (ev_tupT (ev_fld (ev_var rfl) (li ex) T.c_Lot T.n_Lot_table rfl) (lt ex)) (ev_var rfl) upd_same T.c_Ideal T.n_Ideal_made (show (1 : Nat) < 1000 by decide) fun H4 e4 => ?_
      have hu := kU (o' := .ins (He.ga K "Ideal") dx (putF "_made" (.ref tt) (putF "lot" (.ref l) []))) hu e4 hup
      have ex := Ex.mut (o := .ins (He.ga K "Ideal") dx (putF "_made" (.ref tt) (putF "lot" (.ref l) []))) (ex.trans e4) np
      refine q_fldU (eu_tupN (el_callS (xs := (CH.startsOf T0 ss).map V.int) (ea_cons (ev_fld (ev_var rfl) (li ex) T.c_Lot T.n_Lot_table rfl) (ea_cons (ev_var rfl) ea_nil)) fun H e Q q => ⟨tt, u, T0, ss, rfl, lt (ex.trans e), .inl (sq_of (e u _ hu)), hT, by have := W.tl; omega, ssne, by omega, q⟩)) (ev_var rfl) upd_same T.c_Ideal T.n_Ideal_table (show (2 : Nat) < 1000 by decide) fun ti H5 n5 e5 h5 => ?_
      have htp : ti ≠ p := fun z => by
        rw [z, upd_same] at n5
        cases n5
      have hti := kU (o' := .ins (He.ga K "Ideal") dx (putF "table" (.ref ti) (putF "_made" (.ref tt) (putF "lot" (.ref l) [])))) h5 (Ex.refl _) htp
      have ex := Ex.mut (o := .ins (He.ga K "Ideal") dx (putF "table" (.ref ti) (putF "_made" (.ref tt) (putF "lot" (.ref l) [])))) (ex.trans e5) np
      have sne : CH.startsOf T0 ss ≠ [] := by
        intro z
        have := congrArg List.length z
        unfold CH.startsOf at this
        rw [List.length_map, List.length_range] at this
        rw [this] at hT
        exact absurd hT (by decide)
      refine s_fld (ev_minT (ev_fld (ev_var rfl) upd_same T.c_Ideal T.n_Ideal_table rfl) (st_of hti) sne) (ev_var rfl) upd_same T.c_Ideal T.n_Ideal_lowest (show (3 : Nat) < 1000 by decide) fun H6 e6 => ?_
      have ex6 := Ex.mut (o := .ins (He.ga K "Ideal") dx (putF "lowest" (.int (CH.minOf (CH.startsOf T0 ss))) (putF "table" (.ref ti) (putF "_made" (.ref tt) (putF "lot" (.ref l) []))))) (ex.trans e6) np
      have ttp : tt ≠ p := fun z => by
        have := L.table
        rw [z, np] at this
        cases this
      refine q T0 _ rfl W ex6 ⟨dx, tt, ti, upd_same, ?_, kU hti e6 htp⟩
      exact kU (ex _ _ (by rw [← ents_V]; exact L.table)) e6 ttp
/-! ### needed_members, ideal_of_table, canonical -/
def spNeeded (K : PySem.W.Frag) : Sp := fun vs H Q _ => ∃ (p l : Addr) (cs : List Int) (t : List (Option Int)) (T Kt : List Int), vs = [.ref p] ∧ IdealAt K H p l T Kt ∧ LotAt K H l cs t ∧ 0 < Kt.length ∧ Kt.length ≤ 1000 ∧ cs.length ≤ 1000 ∧ RetU ((CH.membersOf Kt cs).map V.int) H Q
theorem met_Ideal_needed_members (T : Tx P K mg) : Met P w K mg base 3 (He.ga K "Ideal") "needed_members" (spNeeded K) := by
  obtain ⟨f, fd, F, hm⟩ := T.d_Ideal_needed_members
  refine ⟨f, fd, ["self"], T.c_Ideal, hm, F.ok sc_Ideal_needed_members (fun vs H Q E h => ?_) (fun cdv A outer s H vs Q E hr h => ?_), F.bindsN fun _ _ _ _ _ _ us hl => match us, hl with | [_], _ => rfl⟩
  · obtain ⟨p, l, cs, t, T0, Kt, rfl, -⟩ := h
    rfl
  · refine ⟨_, ((pss_one (ps_ret (pe_cal0 (cal_members_of T) hr (by decide) (by rfl) (pa_cons (pe_fldK K (pv 0) rfl) (pa_cons (pe_fldK K (pe_fldK K (pv 0) rfl) rfl) pa_nil)))))), ?_⟩
    obtain ⟨p, l, cs, t, T0, Kt, rfl, ⟨dx, tm, tt, J⟩, ⟨dl, tc, tl, L⟩, h0, hz, hy, q⟩ := h
    exact s_retU (eu_callS (ea_cons (ev_fld (ev_var rfl) J.ins T.c_Ideal T.n_Ideal_table rfl) (ea_cons (ev_fld (ev_fld (ev_var rfl) J.ins T.c_Ideal T.n_Ideal_lot rfl) L.ins T.c_Lot T.n_Lot_coins rfl) ea_nil)) fun H1 e1 Q1 q1 => ⟨tt, tc, Kt, cs, rfl, .inr (st_of (e1 _ _ J.table)), .inr (st_of (e1 _ _ L.coins)), h0, hz, hy, q1⟩) fun u H2 n2 e2 h2 => q u H2 n2 e2 h2
/-- an ideal's making -/
def RetI (K : PySem.W.Frag) (l : Addr) (T Kt : List Int) (H : Hp) (Q : VK) : Prop := ∀ p H2, H p = none → Ex H H2 → IdealAt K H2 p l T Kt → Q (.ref p) H2
theorem RetI.go {l : Addr} {T Kt : List Int} {H H' : Hp} {Q : VK} (k : RetI K l T Kt H Q) (e : Ex H H') : RetI K l T Kt H' Q := fun p H2 n e2 h => k p H2 (fresh_back e n) (e.trans e2) h
def spIdealOf (K : PySem.W.Frag) : Sp := fun vs H Q E => ∃ (l a : Addr) (cs T Kt : List Int), vs = [.ref l, .ref a] ∧ LotAt K H l cs (CH.ents T) ∧ LotW cs T ∧ Sq K H a (Kt.map V.int) ∧ Kt.length = T.length ∧ (match startsErr (CH.membersOf Kt cs) with
  | none => RetI K l T (CH.startsOf T (CH.membersOf Kt cs)) H Q
  | some e => RaiseN K e H E)
theorem ents_inj {S T : List Int} (h : CH.ents S = CH.ents T) : S = T := by
  have := congrArg (List.map fun x : Option Int => x.getD 0) h
  unfold CH.ents at this
  rw [List.map_map, List.map_map] at this
  have e : (fun x : Option Int => x.getD 0) ∘ some = id := rfl
  rw [e, List.map_id, List.map_id] at this
  exact this
theorem cal_ideal_of_table (T : Tx P K mg) : Cal P w K mg base 8 "ideal_of_table" (spIdealOf K) := by
  obtain ⟨f, fd, F, hm⟩ := T.d_ideal_of_table
  refine ⟨f, fd, ["lot", "table"], F.ok sc_ideal_of_table (fun vs H Q E h => ?_) (fun cdv A outer s H vs Q E hr h => ?_), hm, F.kp, F.bindsN fun _ _ _ _ _ _ us hl => match us, hl with | [_, _], _ => rfl⟩
  · obtain ⟨l, a, cs, T0, Kt, rfl, -⟩ := h
    rfl
  · refine ⟨_, ((pss_one (ps_ret (pe_mak (mak_Ideal T) hr (by decide) (L2N.takes_of rfl rfl rfl rfl) (fun _ _ _ _ h => h) (by rfl) (pa_cons (pv 0) (pa_cons (pe_cal0 (cal_members_of T) hr (by decide) (by rfl) (pa_cons (pv 1) (pa_cons (pe_fldK K (pv 0) rfl) pa_nil))) pa_nil)))))), ?_⟩
    obtain ⟨l, a, cs, T0, Kt, rfl, ⟨dl, tc, tl, L⟩, W, hs, hl, q⟩ := h
    have hT : 0 < T0.length := by have := W.wt.len; omega
    have args : EvB (tCons (tVar 0) (tCons (tCallS (spMembers K) (fun _ _ _ _ => False) (tCons (tVar 1) (tCons (tFld K (tVar 0) "coins") tNil))) tNil)) [some (.ref l), some (.ref a)] H fun vs H2 => ∃ ws, vs = .ref l :: ws ∧ ∃ p ws', ws = .ref p :: ws' ∧ H p = none ∧ H2 p = some (.tup ((CH.membersOf Kt cs).map V.int)) ∧ ws' = [] :=
      eb_v (ev_var rfl) fun H1 e1 => fun H2 e2 Q2 q2 => (eb_u (H := H) (eu_callS (ea_cons (ev_var rfl) (ea_cons (ev_fld (ev_var rfl) L.ins T.c_Lot T.n_Lot_coins rfl) ea_nil)) fun H3 e3 Q3 q3 => ⟨a, tc, Kt, cs, rfl, ex_s e3 hs, .inr (st_of (e3 _ _ L.coins)), by omega, by have := W.tl; omega, by have := W.cl; omega, q3⟩) fun H4 e4 => eb_nil) H2 (e1.trans e2) Q2 q2
    refine tm_of args fun vs H1 e1 hv => ?_
    obtain ⟨ws, rfl, b, ws', rfl, nb, hb, rfl⟩ := hv
    intro x dx nx ndx ne
    have ie : idealErr cs (CH.membersOf Kt cs) = startsErr (CH.membersOf Kt cs) := if_pos W.one
    refine ⟨H1, x, dx, l, b, cs, CH.ents T0, CH.membersOf Kt cs, rfl, rfl, nx, ndx, ne, ex_lot e1 ⟨dl, tc, tl, L⟩, .inr (st_of hb), fun _ => ⟨T0, rfl, W⟩, fun h T1 H2 eT W1 e2 h2 => ⟨rfl, ?_⟩, fun e h => ?_⟩
    · rw [← ie, h] at q
      obtain rfl := ents_inj eT
      exact q x H2 (fresh_back e1 nx) (e1.trans e2) h2
    · rw [← ie, h] at q
      exact q.go e1
def spCanonTable (K : PySem.W.Frag) : Sp := fun vs H Q _ => ∃ (p : Addr) (cs T : List Int), vs = [.ref p] ∧ LotAt K H p cs (CH.ents T) ∧ LotW cs T ∧ RetL ((CH.canonOf T).map V.int) H Q
theorem cal_canonical_table (T : Tx P K mg) : Cal P w K mg base 2 "canonical_table" (spCanonTable K) := by
  obtain ⟨f, fd, F, hm⟩ := T.d_canonical_table
  refine ⟨f, fd, ["lot"], F.ok sc_canonical_table (fun vs H Q E h => ?_) (fun cdv A outer s H vs Q E hr h => ?_), hm, F.kp, F.bindsN fun _ _ _ _ _ _ us hl => match us, hl with | [_], _ => rfl⟩
  · obtain ⟨p, cs, T0, rfl, -⟩ := h
    rfl
  · refine ⟨_, ((pss_one (ps_ret (pe_cal0 (cal_mirror_table T) hr (by decide) (by rfl) (pa_cons (pe_fldK K (pv 0) rfl) (pa_cons (pe_cal0 (cal_greatest_hole T) hr (by decide) (by rfl) (pa_cons (pv 0) pa_nil)) pa_nil)))))), ?_⟩
    obtain ⟨p, cs, T0, rfl, L0, W, q⟩ := h
    obtain ⟨dl, tc, tl, L⟩ := id L0
    have hT : 0 < T0.length := by have := W.wt.len; omega
    exact s_retL (el_callS (ea_cons (ev_fld (ev_var rfl) L.ins T.c_Lot T.n_Lot_table rfl) (ea_cons (ev_callS (v := .int (CH.lastOf T0)) (ea_cons (ev_var rfl) ea_nil) fun H1 e1 Q1 q1 => ⟨p, cs, T0, rfl, ex_lot e1 L0, W, q1⟩) ea_nil)) fun H1 e1 Q1 q1 => ⟨tl, T0, CH.lastOf T0, rfl, st_of (e1 _ _ (by rw [← ents_V]; exact L.table)), hT, by have := W.tl; omega, q1⟩) fun u H2 n2 e2 h2 => q u H2 n2 e2 h2
def spCanonical (K : PySem.W.Frag) : Sp := fun vs H Q E => ∃ (p : Addr) (cs : List Int) (t : List (Option Int)), vs = [.ref p] ∧ LotAt K H p cs t ∧ (∀ T, t = CH.ents T → LotW cs T → match startsErr (CH.membersOf (CH.canonOf T) cs) with
    | none => RetI K p T (CH.canonOf T) H Q
    | some e => RaiseN K e H E) ∧
  (CH.gcdOf cs ≠ 1 → RaiseX (He.ga K "GrainError") "grain" (.int (CH.gcdOf cs)) H E) ∧ (CH.gcdOf cs = 1 → ∃ T, t = CH.ents T ∧ LotW cs T)
theorem cal_canonical (T : Tx P K mg) : Cal P w K mg base 9 "canonical" (spCanonical K) := by
  obtain ⟨f, fd, F, hm⟩ := T.d_canonical
  refine ⟨f, fd, ["lot"], F.ok sc_canonical (fun vs H Q E h => ?_) (fun cdv A outer s H vs Q E hr h => ?_), hm, F.kp, F.bindsN fun _ _ _ _ _ _ us hl => match us, hl with | [_], _ => rfl⟩
  · obtain ⟨p, cs, t, rfl, -⟩ := h
    rfl
  · refine ⟨_, ((pss_cons (ps_expr (pe_cal (cal_look_whole T) hr (by decide) (L2N.takes_of rfl rfl rfl rfl) (by rfl) (pa_cons (pv 0) pa_nil)))
  (pss_one (ps_ret (pe_cal (cal_ideal_of_table T) hr (by decide) (L2N.takes_of rfl rfl rfl rfl) (by rfl) (pa_cons (pv 0) (pa_cons (pe_cal0 (cal_canonical_table T) hr (by decide) (by rfl) (pa_cons (pv 0) pa_nil)) pa_nil))))))), ?_⟩
    obtain ⟨p, cs, t, rfl, L0, q, r, g⟩ := h
    refine ⟨_, rfl, p, cs, t, rfl, L0, fun h1 H1 e1 => ?_, fun h1 => r h1⟩
    obtain ⟨T0, rfl, W⟩ := g h1
    have q := q T0 rfl W
    have IT := CH.mirror_ok W.wt (CH.lastOf T0)
    have args : EvB (tCons (tVar 0) (tCons (tCallS (spCanonTable K) (fun _ _ _ _ => False) (tCons (tVar 0) tNil)) tNil)) [some (.ref p)] H1 fun vs H2 => ∃ ws, vs = .ref p :: ws ∧ ∃ b ws', ws = .ref b :: ws' ∧ H1 b = none ∧ H2 b = some (.lst ((CH.canonOf T0).map V.int)) ∧ ws' = [] :=
      eb_v (ev_var rfl) fun H2 e2 => fun H3 e3 Q3 q3 => (eb_l (H := H1) (el_callS (ea_cons (ev_var rfl) ea_nil) fun H4 e4 Q4 q4 => ⟨p, cs, T0, rfl, ex_lot (e1.trans e4) L0, W, q4⟩) fun H4 e4 => eb_nil) H3 (e2.trans e3) Q3 q3
    refine tc_of args fun vs H2 e2 hv => ?_
    obtain ⟨ws, rfl, b, ws', rfl, nb, hb, rfl⟩ := hv
    refine ⟨p, b, cs, T0, CH.canonOf T0, rfl, ex_lot (e1.trans e2) L0, W, .inl (sq_of hb), CH.mirror_len, ?_⟩
    cases he : startsErr (CH.membersOf (CH.canonOf T0) cs) with
    | none =>
      rw [he] at q
      have := CH.starts_members IT
      show RetI K p T0 (CH.startsOf T0 (CH.membersOf (CH.mirrorOf T0 (CH.lastOf T0)) cs)) H2 Q
      rw [this]
      exact q.go (e1.trans e2)
    | some e =>
      rw [he] at q
      exact q.go (e1.trans e2)
end CHX

namespace CHX
open PySem PySem.Spec PyProof.Rows L2 Evl
variable {P : Program} {w : World} {K : PySem.W.Frag} {mg : Str → Option Value} {base : Heap}
section
variable {σ : L2.St} {H : Hp} {ta tb : TE} {i : Int} {a : Addr} {xs : List V} {b : Bool}
theorem ev_isi {x : V} {t : Value} {n : String} (ha : Ev ta σ H x) (ty : ∀ {H1}, Ex H H1 → TyX K H1 x t) (h : PySem.W.kitOne K t (.type n) = some b) : Ev (tCB (rIsi K) (tCons ta (tCons (tC (.ty n)) tNil))) σ H (.bl b) := fun H1 e Q q =>
  ha H1 e _ fun H2 e2 => ⟨x, .ty n, t, .type n, b, rfl, .ty n, ty (e.trans e2), h, q H2 e2⟩
theorem ev_isiInt (ha : Ev ta σ H (.int i)) : Ev (tCB (rIsi K) (tCons ta (tCons (tC (.ty "int")) tNil))) σ H (.bl true) := ev_isi ha (fun _ => .base (.int i)) (kit_ty (by decide +kernel))
theorem ev_isiBoolI (ha : Ev ta σ H (.int i)) : Ev (tCB (rIsi K) (tCons ta (tCons (tC (.ty "bool")) tNil))) σ H (.bl false) := ev_isi ha (fun _ => .base (.int i)) (kit_ty (by decide +kernel))
theorem ev_isiTup (ha : Ev ta σ H (.ref a)) (h : H a = some (.tup xs)) : Ev (tCB (rIsi K) (tCons ta (tCons (tC (.ty "tuple")) tNil))) σ H (.bl true) := ev_isi ha (fun e => .base (.tup (e _ _ h))) (kit_ty (by decide +kernel))
end
/-! ### _law_is_integer, _law_is_number, _law_is_tuple -/
def spIsInt : Sp := fun vs H Q _ => ∃ i : Int, vs = [.int i] ∧ RetV (.bl true) H Q
theorem cal__law_is_integer (T : Tx P K mg) : Cal P w K mg base 1 "_law_is_integer" spIsInt := by
  obtain ⟨f, fd, F, hm⟩ := T.d__law_is_integer
  refine ⟨f, fd, ["actual"], F.ok sc__law_is_integer (fun vs H Q E h => ?_) (fun cdv A outer s H vs Q E hr h => ?_), hm, F.kp, F.bindsN fun _ _ _ _ _ _ us hl => match us, hl with | [_], _ => rfl⟩
  · obtain ⟨i, rfl, -⟩ := h
    rfl
  · refine ⟨_, ((pss_one (ps_ret (pe_and (pe_callB (call_isiK K) (by rfl) T.isinstance (by decide +kernel) (pa_cons (pv 0) (pa_cons (pe_bltn (v := .ty "int") (u := .type "int") (by rfl) T.int (by decide +kernel) (by rfl)) pa_nil))) (pe_one (pe_not (pe_callB (call_isiK K) (by rfl) T.isinstance (by decide +kernel) (pa_cons (pv 0) (pa_cons (pe_bltn (v := .ty "bool") (u := .type "bool") (by rfl) T.bool (by decide +kernel) (by rfl)) pa_nil))))))))), ?_⟩
    obtain ⟨i, rfl, q⟩ := h
    exact s_ret (ev_andV (a := true) (b := true) (ev_isiInt (ev_var rfl)) fun _ => ev_notV (a := false) (ev_isiBoolI (ev_var rfl))) fun H1 e1 => q H1 e1
def spIsNum : Sp := fun vs H Q _ => ∃ i j : Int, vs = [.int i, .int j] ∧ RetV (.bl (decide (i = j))) H Q
theorem cal__law_is_number (T : Tx P K mg) : Cal P w K mg base 2 "_law_is_number" spIsNum := by
  obtain ⟨f, fd, F, hm⟩ := T.d__law_is_number
  refine ⟨f, fd, ["actual", "due"], F.ok sc__law_is_number (fun vs H Q E h => ?_) (fun cdv A outer s H vs Q E hr h => ?_), hm, F.kp, F.bindsN fun _ _ _ _ _ _ us hl => match us, hl with | [_, _], _ => rfl⟩
  · obtain ⟨i, j, rfl, -⟩ := h
    rfl
  · refine ⟨_, ((pss_one (ps_ret (pe_and (pe_cal0 (cal__law_is_integer T) hr (by decide) (by rfl) (pa_cons (pv 0) pa_nil)) (pe_one (pe_cmpR op_eq (pv 0) (pv 1) (nomark _))))))), ?_⟩
    obtain ⟨i, j, rfl, q⟩ := h
    exact s_ret (ev_andV (a := true) (ev_callS (ea_cons (ev_var rfl) ea_nil) fun H1 e1 Q1 q1 => ⟨i, rfl, q1⟩) fun _ => ev_eqI (ev_var rfl) (ev_var rfl)) fun H1 e1 => q H1 e1
def spIsTup (K : PySem.W.Frag) : Sp := fun vs H Q _ => ∃ (a b : Addr) (xs ys : List Int), vs = [.ref a, .ref b] ∧ H a = some (.tup (xs.map V.int)) ∧ SqL K H b (ys.map V.int) ∧ ys.length ≤ 40000 ∧ RetV (.bl (decide (xs = ys))) H Q
theorem all_at {xs ys : List Int} (h : xs.length = ys.length) : (((List.range ys.length).map fun k => decide (CH.nth xs k = CH.nth ys k)).all id) = decide (xs = ys) := by
  rw [Bool.eq_iff_iff, List.all_map, List.all_eq_true, decide_eq_true_iff]
  constructor
  · intro h1
    refine List.ext_getElem? fun i => ?_
    by_cases hi : i < ys.length
    · have h2 := h1 i (List.mem_range.mpr hi)
      have h3 : CH.nth xs i = CH.nth ys i := of_decide_eq_true h2
      unfold CH.nth at h3
      rw [List.getD_eq_getElem?_getD, List.getD_eq_getElem?_getD, List.getElem?_eq_getElem hi, List.getElem?_eq_getElem (h ▸ hi)] at h3
      rw [List.getElem?_eq_getElem hi, List.getElem?_eq_getElem (h ▸ hi)]
      exact congrArg some h3
    · rw [List.getElem?_eq_none (by omega), List.getElem?_eq_none (by omega)]
  · rintro rfl x _
    exact decide_eq_true rfl
theorem cal__law_is_tuple (T : Tx P K mg) : Cal P w K mg base 3 "_law_is_tuple" (spIsTup K) := by
  obtain ⟨f, fd, F, hm⟩ := T.d__law_is_tuple
  refine ⟨f, fd, ["actual", "due"], F.ok sc__law_is_tuple (fun vs H Q E h => ?_) (fun cdv A outer s H vs Q E hr h => ?_), hm, F.kp, F.bindsN fun _ _ _ _ _ _ us hl => match us, hl with | [_, _], _ => rfl⟩
  · obtain ⟨a, b, xs, ys, rfl, -⟩ := h
    rfl
  · refine ⟨_, ((pss_cons (ps_if (PW.pt (pw_or (pt_not (pt_val (pe_callB (call_isiK K) (by rfl) T.isinstance (by decide +kernel) (pa_cons (pv 0) (pa_cons (pe_bltn (v := .ty "tuple") (u := .type "tuple") (by rfl) T.tuple (by decide +kernel) (by rfl)) pa_nil))))) (pw_or1 (pt_cmpR op_ne (pe_callB (call_lenK K) (by rfl) T.len boot_len (pa_cons (pv 0) pa_nil)) (pe_callB (call_lenK K) (by rfl) T.len boot_len (pa_cons (pv 1) pa_nil)) (nomark _)))))
    (pss_one (ps_ret pe_bl)) pss_nil)
  (pss_one (ps_ret (pe_callB (cr_allK K rfl) (by rfl) T.all (by decide +kernel) (pa_cons (pe_lc (own := [("k", 2)]) (g := gName 2) (tt := tYes) rfl sc__law_is_tuple.nd (pi_range1 (by rfl) T.range (pa_cons (pe_callB (call_lenK K) (by rfl) T.len boot_len (pa_cons (pv 1) pa_nil)) pa_nil)) (blkOk_by (own := [("k", 2)]) (by kernel_rfl)) (fun _ _ _ _ _ => pg_name (i := 2) sc__law_is_tuple.nd rfl (by first | exact Or.inl rfl | exact Or.inr rfl)) (fun _ _ _ _ _ => pts_nil) (fun _ _ _ _ _ => pe_cal0 (cal__law_is_number T) hr (by decide) (by rfl) (pa_cons (pe_ix (ix_tupK K) (pv 0) (pv 2) (fun _ _ => rfl)) (pa_cons (pe_ix (ix_listK K) (pv 1) (pv 2) (fun _ _ => rfl)) pa_nil)))) pa_nil)))))), ?_⟩
    obtain ⟨a, b, xs, ys, rfl, ha, hb, hz, q⟩ := h
    refine q_when (b := false || !decide ((xs.length : Int) = ys.length)) (et_or (et_not (a := true) (et_B (ev_isiTup (ev_var rfl) ha))) fun _ => et_test (ev_neI (by rw [← len_map]; exact ev_lenQ (ev_var rfl) (.inr (st_of ha))) (by rw [← len_map]; exact ev_lenQ (ev_var rfl) (.inl hb)))) (fun hc H1 e1 => ?_) (fun hc H1 e1 => ?_)
    · have hn : xs ≠ ys := by
        rintro rfl
        simp at hc
      refine s_ret (ev_is ev_c ?_) fun H2 e2 => q H2 (e1.trans e2)
      rw [decide_eq_false hn]
    · have hl : xs.length = ys.length := by
        simp at hc
        omega
      refine s_ret (ev_is (ev_all (bs := (List.range ys.length).map fun k => decide (CH.nth xs k = CH.nth ys k)) ?_) (by rw [all_at hl])) fun H2 e2 => q H2 (e1.trans e2)
      rw [List.map_map]
      have := el_lcRM (ta := tCons (tCB (rLenS K) (tCons (tVar 1) tNil)) tNil) (σ := [some (.ref a), some (.ref b), none]) (H := H1) (j := 2) (vs := [2]) (n := (ys.length : Int)) (te := tCallS spIsNum (fun _ _ _ _ => False) (tCons (tOp (rIxT K) (tVar 0) (tVar 2)) (tCons (tOp (rIxL K) (tVar 1) (tVar 2)) tNil)))
        (fun k => V.bl (decide (CH.nth xs k = CH.nth ys k))) (by rw [← len_map]; exact ea_cons (ev_lenQ (ev_var rfl) (.inl (ex_l e1 hb))) ea_nil) ⟨by omega, by omega⟩ (fun _ => rfl) fun i H2 e2 hi => ev_callS (ea_cons (ev_ixT (ev_var rfl) (ev_var rfl) (st_of (e2 _ _ (e1 _ _ ha))) (at_nth (by omega) (by omega))) (ea_cons (ev_ixL (ev_var rfl) (ev_var rfl) (ex_l (e1.trans e2) hb) (at_nth (by omega) (by omega))) ea_nil)) fun H3 e3 Q3 q3 => ⟨_, _, rfl, q3⟩
      rw [Int.toNat_natCast] at this
      exact this
/-! ### _law_cell, _law_refused -/
def spCell (K : PySem.W.Frag) : Sp := fun vs H Q _ => ∃ (a : Addr) (ns : List Int) (k : Nat), vs = [.ref a, .int (k : Int)] ∧ SqL K H a (ns.map V.int) ∧ RetV (.int (CH.nth ns k)) H Q
theorem cal__law_cell (T : Tx P K mg) : Cal P w K mg base 1 "_law_cell" (spCell K) := by
  obtain ⟨f, fd, F, hm⟩ := T.d__law_cell
  refine ⟨f, fd, ["script", "at"], F.ok sc__law_cell (fun vs H Q E h => ?_) (fun cdv A outer s H vs Q E hr h => ?_), hm, F.kp, F.bindsN fun _ _ _ _ _ _ us hl => match us, hl with | [_, _], _ => rfl⟩
  · obtain ⟨a, ns, k, rfl, -⟩ := h
    rfl
  · refine ⟨_, ((pss_cons (ps_if (pt_cmpR op_lt (pv 1) (pe_callB (call_lenK K) (by rfl) T.len boot_len (pa_cons (pv 0) pa_nil)) (nomark _))
    (pss_one (ps_ret (pe_callTy call_int1 (by rfl) T.int (by decide +kernel) (pa_cons (pe_ix (ix_listK K) (pv 0) (pv 1) (fun _ _ => rfl)) pa_nil)))) pss_nil)
  (pss_one (ps_ret pe_int)))), ?_⟩
    obtain ⟨a, ns, k, rfl, ha, q⟩ := h
    refine q_when (b := decide ((k : Int) < ns.length)) (et_test (ev_bin (ev_var rfl) (by rw [← len_map]; exact ev_lenQ (ev_var rfl) (.inl ha)))) (fun hc H1 e1 => ?_) (fun hc H1 e1 => ?_)
    · have hc := of_decide_eq_true hc
      exact s_ret (ev_int (ev_ixL (ev_var rfl) (ev_var rfl) (ex_l e1 ha) (at_nth (by omega) hc))) fun H2 e2 => q H2 (e1.trans e2)
    · have hc := of_decide_eq_false hc
      refine s_ret (ev_is ev_c ?_) fun H2 e2 => q H2 (e1.trans e2)
      unfold CH.nth
      rw [List.getD_eq_getElem?_getD, List.getElem?_eq_none (by omega)] <;> rfl
/-- what _law_refused says of an answer (w0, v) -/
def refB (w0 : PySem.Str) (v : V) (word : PySem.Str) (n : Int) : Bool := decide (w0 = word) && (match v with
  | .int m => decide (m = n)
  | _ => false)
def spRefused (K : PySem.W.Frag) : Sp := fun vs H Q _ => ∃ (a : Addr) (w0 word : PySem.Str) (v : V) (n : Int), vs = [.ref a, .str word, .int n] ∧ SqT K H a [.str w0, v] ∧ (w0 = word → ∃ m, v = .int m) ∧ RetV (.bl (refB w0 v word n)) H Q
theorem cal__law_refused (T : Tx P K mg) : Cal P w K mg base 3 "_law_refused" (spRefused K) := by
  obtain ⟨f, fd, F, hm⟩ := T.d__law_refused
  refine ⟨f, fd, ["answer", "word", "number"], F.ok sc__law_refused (fun vs H Q E h => ?_) (fun cdv A outer s H vs Q E hr h => ?_), hm, F.kp, F.bindsN fun _ _ _ _ _ _ us hl => match us, hl with | [_, _, _], _ => rfl⟩
  · obtain ⟨a, w0, word, v, n, rfl, -⟩ := h
    rfl
  · refine ⟨_, ((pss_one (ps_ret (pe_and (pe_cmpR op_eq (pe_ix (ix_tupK K) (pv 0) pe_int (fun _ _ => rfl)) (pv 1) (nomark _)) (pe_one (pe_cal0 (cal__law_is_number T) hr (by decide) (by rfl) (pa_cons (pe_ix (ix_tupK K) (pv 0) pe_int (fun _ _ => rfl)) (pa_cons (pv 2) pa_nil)))))))), ?_⟩
    obtain ⟨a, w0, word, v, n, rfl, ha, hv, q⟩ := h
    refine s_ret (ev_andV (ev_eqS (ev_ixT (ev_var rfl) ev_c ha (atI_nat (j := 0) rfl)) (ev_var rfl)) fun hw => ?_) fun H1 e1 => q H1 e1
    obtain ⟨m, rfl⟩ := hv (of_decide_eq_true hw)
    exact ev_callS (ea_cons (ev_ixT (ev_var rfl) ev_c ha (atI_nat (j := 1) rfl)) (ea_cons (ev_var rfl) ea_nil)) fun H1 e1 Q1 q1 => ⟨m, n, rfl, q1⟩
end CHX

namespace CHX
open PySem PySem.Spec PyProof.Rows L2 Evl
variable {P : Program} {w : World} {K : PySem.W.Frag} {mg : Str → Option Value} {base : Heap}
section
variable {σ : L2.St} {H : Hp} {D : Ends} {tu tz : TS}
theorem s_forR2z {ta : TA} {j : Nat} {lo n : Int} (h : EvA ta σ H [.int lo, .int n]) (hn : -100000 ≤ lo ∧ lo ≤ 100000 ∧ -100000 ≤ n ∧ n ≤ 100000) (Pv : Nat → L2.St → Hp → Prop) (h0 : ∀ H1, Ex H H1 → Pv 0 σ H1)
    (hs : ∀ (i : Nat) σ' H', lo + (i : Int) < n → Pv i σ' H' → tu { D with nx := Pv (i + 1), ct := Pv (i + 1), bk := D.nx } (σ'.set j (some (.int (lo + (i : Int))))) H') (hd : ∀ σ' H', Pv (n - lo).toNat σ' H' → D.nx σ' H') : tFor (iRng2 ta) (gName j) tu D σ H :=
  h H (Ex.refl H) _ fun H1 e => ⟨lo, n, rfl, ⟨by omega, by omega, by omega, by omega⟩, for_range (lo := lo) (n := (n - lo).toNat) Pv (h0 H1 e) (fun i σ' H' hi p => hs i σ' H' (by omega) p) hd⟩
theorem q_forR2z {ta : TA} {j : Nat} {lo n : Int} (h : EvA ta σ H [.int lo, .int n]) (hn : -100000 ≤ lo ∧ lo ≤ 100000 ∧ -100000 ≤ n ∧ n ≤ 100000) (Pv : Nat → L2.St → Hp → Prop) (h0 : ∀ H1, Ex H H1 → Pv 0 σ H1)
    (hs : ∀ (i : Nat) σ' H', lo + (i : Int) < n → Pv i σ' H' → tu { D with nx := Pv (i + 1), ct := Pv (i + 1), bk := tz D } (σ'.set j (some (.int (lo + (i : Int))))) H') (hd : ∀ σ' H', Pv (n - lo).toNat σ' H' → tz D σ' H') : tSeq (tFor (iRng2 ta) (gName j) tu) tz D σ H :=
  s_forR2z (D := { D with nx := tz D }) h hn Pv h0 hs hd
theorem atB {m : List Bool} {i : Nat} (h : i < m.length) : (m.map V.bl)[i]? = some (.bl (CH.bget m i)) := by
  rw [List.getElem?_map]
  unfold CH.bget
  rw [List.getD_eq_getElem?_getD, List.getElem?_eq_getElem h] <;> rfl
theorem at_b {m : List Bool} {i : Int} (h0 : 0 ≤ i) (h : i < m.length) : atI (m.map V.bl) i = some (.bl (CH.bget m i.toNat)) := atI_z h0 (atB (by omega))
theorem len_mapB (m : List Bool) : (m.map V.bl).length = m.length := List.length_map ..
end
/-! ### _law_grain_of -/
def spGrain (K : PySem.W.Frag) : Sp := fun vs H Q _ => ∃ (a : Addr) (cs : List Int), vs = [.ref a] ∧ SqL K H a (cs.map V.int) ∧ cs ≠ [] ∧ cs.length ≤ 1000 ∧ 0 < CH.minOf cs ∧ CH.minOf cs ≤ 1000 ∧ RetV (.int (CH.grainOf cs)) H Q
theorem cal__law_grain_of (T : Tx P K mg) : Cal P w K mg base 1 "_law_grain_of" (spGrain K) := by
  obtain ⟨f, fd, F, hm⟩ := T.d__law_grain_of
  refine ⟨f, fd, ["coins"], F.ok sc__law_grain_of (fun vs H Q E h => ?_) (fun cdv A outer s H vs Q E hr h => ?_), hm, F.kp, F.bindsN fun _ _ _ _ _ _ us hl => match us, hl with | [_], _ => rfl⟩
  · obtain ⟨a, cs, rfl, -⟩ := h
    rfl
  · refine ⟨_, ((pss_cons (ps_set (i := 1) sc__law_grain_of.nd rfl (by first | exact Or.inl rfl | exact Or.inr rfl) pe_int)
  (pss_cons (ps_for PassesOwn.leaving rfl (pi_range2 (by rfl) T.range (pa_cons pe_int (pa_cons (pe_op op_add (pe_callB (cr_minK K rfl) (by rfl) T.min (by decide +kernel) (pa_cons (pv 0) pa_nil)) pe_int) pa_nil))) (pg_name (i := 2) sc__law_grain_of.nd rfl (by first | exact Or.inl rfl | exact Or.inr rfl))
    (pss_one (ps_if (pt_val (pe_callB (cr_allK K rfl) (by rfl) T.all (by decide +kernel) (pa_cons (pe_lc (own := [("coin", 3)]) (g := gName 3) (tt := tYes) rfl sc__law_grain_of.nd (pi_seqK K (pv 0)) (blkOk_by (own := [("coin", 3)]) (by kernel_rfl)) (fun _ _ _ _ _ => pg_name (i := 3) sc__law_grain_of.nd rfl (by first | exact Or.inl rfl | exact Or.inr rfl)) (fun _ _ _ _ _ => pts_nil) (fun _ _ _ _ _ => pe_cmpR op_eq (pe_op op_mod (pe_callTy call_int1 (by rfl) T.int (by decide +kernel) (pa_cons (pv 3) pa_nil)) (pv 2)) pe_int (nomark _))) pa_nil)))
      (pss_one (ps_set (i := 1) sc__law_grain_of.nd rfl (by first | exact Or.inl rfl | exact Or.inr rfl) (pv 2))) pss_nil)))
  (pss_one (ps_ret (pv 1)))))), ?_⟩
    obtain ⟨a, cs, rfl, ha, ne, hz, m0, m1, q⟩ := h
    refine q_asg ev_c fun H1 e1 => ?_
    refine q_forR2 (lo := 1) (n := CH.minOf cs + 1) (ea_cons ev_c (ea_cons (ev_bin (ev_minL (ev_var rfl) (ex_l e1 ha) ne) ev_c) ea_nil)) ⟨by omega, by omega, by omega, by omega⟩
      (fun i σ' H' => ∃ x2 x3, σ' = [some (.ref a), some (.int ((List.range i).foldl (CH.grainStep cs) 1)), x2, x3] ∧ Ex H H') (fun H2 e2 => ⟨_, _, rfl, e1.trans e2⟩) (fun i σ' H' hi P1 => ?_) (fun σ' H' P1 => ?_)
    · obtain ⟨x2, x3, rfl, ex⟩ := P1
      refine s_when (b := (cs.all fun c => decide (c % (1 + (i : Int)) = 0))) (et_B (ev_is (ev_all (bs := cs.map fun c => decide (c % (1 + (i : Int)) = 0)) ?_) (by rw [List.all_map] <;> rfl))) (fun hb H2 e2 => ?_) (fun hb H2 e2 => ?_)
      · rw [List.map_map]
        exact el_lcM cs V.int _ (ev_var rfl) (.inl (ex_l ex ha)) (by omega) (fun _ => rfl) fun c hc H3 e3 => ev_eqI (ev_binC (ev_int (ev_var rfl)) (ev_var rfl) (by omega)) ev_c
      · refine s_asg (ev_var rfl) fun H3 e3 => ⟨some (.int (1 + (i : Int))), x3, ?_, ex.trans (e2.trans e3)⟩
        rw [List.range_succ, List.foldl_append]
        show _ = [_, some (V.int (CH.grainStep cs _ i)), _, _]
        unfold CH.grainStep
        rw [if_pos hb] <;> rfl
      · refine ⟨some (.int (1 + (i : Int))), x3, ?_, ex.trans e2⟩
        rw [List.range_succ, List.foldl_append]
        show _ = [_, some (V.int (CH.grainStep cs _ i)), _, _]
        unfold CH.grainStep
        rw [if_neg (by rw [hb]; decide)] <;> rfl
    · obtain ⟨x2, x3, rfl, ex⟩ := P1
      have e : (CH.minOf cs + 1 - 1).toNat = (CH.minOf cs).toNat := by omega
      rw [e]
      exact s_ret (ev_var rfl) fun H2 e2 => q H2 (ex.trans e2)
/-! ### _law_list_made, _law_last_hole -/
def spListMade (K : PySem.W.Frag) : Sp := fun vs H Q _ => ∃ (a : Addr) (cs : List Int) (top : Nat), vs = [.ref a, .int (top : Int)] ∧ SqL K H a (cs.map V.int) ∧ (∀ c ∈ cs, 0 < c) ∧ top ≤ 30000 ∧ RetL ((CH.listMade cs top).map V.bl) H Q
theorem cal__law_list_made (T : Tx P K mg) : Cal P w K mg base 1 "_law_list_made" (spListMade K) := by
  obtain ⟨f, fd, F, hm⟩ := T.d__law_list_made
  refine ⟨f, fd, ["coins", "top"], F.ok sc__law_list_made (fun vs H Q E h => ?_) (fun cdv A outer s H vs Q E hr h => ?_), hm, F.kp, F.bindsN fun _ _ _ _ _ _ us hl => match us, hl with | [_, _], _ => rfl⟩
  · obtain ⟨a, cs, top, rfl, -⟩ := h
    rfl
  · refine ⟨_, ((pss_cons (ps_set (i := 2) sc__law_list_made.nd rfl (by first | exact Or.inl rfl | exact Or.inr rfl) (pe_op op_cat (pe_lst (pa_cons pe_bl pa_nil)) (pe_op op_rep (pe_lst (pa_cons pe_bl pa_nil)) (pv 1))))
  (pss_cons (ps_for PassesOwn.leaving rfl (pi_range2 (by rfl) T.range (pa_cons pe_int (pa_cons (pe_op op_add (pv 1) pe_int) pa_nil))) (pg_name (i := 3) sc__law_list_made.nd rfl (by first | exact Or.inl rfl | exact Or.inr rfl))
    (pss_one (ps_for PassesOwn.leaving rfl (pi_seqK K (pv 0)) (pg_name (i := 4) sc__law_list_made.nd rfl (by first | exact Or.inl rfl | exact Or.inr rfl))
      (pss_one (ps_if (PW.pt (pw_and (pt_cmpR op_le (pv 4) (pv 3) (nomark _)) (pw_and1 (pt_val (pe_ix (ix_listK K) (pv 2) (pe_op op_sub (pv 3) (pv 4)) (fun _ _ => rfl))))))
        (pss_one (ps_asg pe_bl (pg_sub (pv 2) (pv 3) set_list))) pss_nil)))))
  (pss_one (ps_ret (pv 2)))))), ?_⟩
    obtain ⟨a, cs, top, rfl, ha, hp, hz, q⟩ := h
    refine q_asgL (el_cat (el_lst (ea_cons ev_c ea_nil) (by decide)) (el_rep (el_lst (ea_cons ev_c ea_nil) (by decide)) (ev_var rfl) ⟨by omega, by omega⟩) (by rw [List.length_replicate]; show 1 + _ ≤ _; omega)) fun p H1 n1 e1 h1 => ?_
    have h1 : H1 p = some (.lst ((CH.lmRun cs top 0).map V.bl)) := by
      rw [h1]
      unfold CH.lmRun
      rw [List.map_cons, List.map_replicate, Int.toNat_natCast] <;> rfl
    refine q_forR2 (lo := 1) (n := (top : Int) + 1) (ea_cons ev_c (ea_cons (ev_bin (ev_var rfl) ev_c) ea_nil)) ⟨by omega, by omega, by omega, by omega⟩
      (fun i σ' H' => ∃ x3 x4, σ' = [some (.ref a), some (.int (top : Int)), some (.ref p), x3, x4] ∧ Ex H H' ∧ H' p = some (.lst ((CH.lmRun cs top i).map V.bl))) (fun H2 e2 => ⟨_, _, rfl, e1.trans e2, e2 p _ h1⟩) (fun i σ' H' hi P1 => ?_) (fun σ' H' P1 => ?_)
    · obtain ⟨x3, x4, rfl, ex, hm⟩ := P1
      have hl := CH.lmRun_len (cs := cs) (top := top) i
      have es : CH.lmRun cs top (i + 1) = CH.lmOut cs (CH.lmRun cs top i) (1 + (i : Int)) := rfl
      rw [es]
      generalize CH.lmRun cs top i = m0 at *
      refine s_forSn (H0 := H) (ev_var rfl) (.inl ha) ex (fun k σ' H' => ∃ x4, σ' = [some (.ref a), some (.int (top : Int)), some (.ref p), some (.int (1 + (i : Int))), x4] ∧ Ex H H' ∧ H' p = some (.lst ((CH.lmOut (cs.take k) m0 (1 + (i : Int))).map V.bl)))
        (fun H2 e2 => ⟨_, rfl, ex.trans e2, e2 p _ hm⟩) (fun k σ' H' P2 => P2.choose_spec.2.1) (fun k x σ' H' hx P2 => ?_) (fun σ' H' P2 => ?_)
      · obtain ⟨x4, rfl, ex2, hm2⟩ := P2
        obtain ⟨c, hc, rfl⟩ := at_map hx
        have cp := hp c (List.mem_of_getElem? hc)
        have hl2 := CH.lmOut_len (1 + (i : Int)) (cs.take k) m0
        have es2 : CH.lmOut (cs.take (k + 1)) m0 (1 + (i : Int)) = CH.lmIn (1 + (i : Int)) (CH.lmOut (cs.take k) m0 (1 + (i : Int))) c := by
          unfold CH.lmOut
          rw [take_snoc hc, List.foldl_append] <;> rfl
        rw [es2]
        generalize CH.lmOut (cs.take k) m0 (1 + (i : Int)) = m at *
        refine s_when (b := decide (c ≤ 1 + (i : Int)) && CH.bget m (1 + (i : Int) - c).toNat) (et_and (et_test (ev_bin (ev_var rfl) (ev_var rfl))) fun hd => ?_) (fun hb H2 e2 => ?_) (fun hb H2 e2 => ?_)
        · have hd := of_decide_eq_true hd
          exact et_B (ev_ixL (ev_var rfl) (ev_bin (ev_var rfl) (ev_var rfl)) (sq_of hm2) (at_b (by omega) (by omega)))
        · rw [Bool.and_eq_true, decide_eq_true_iff] at hb
          refine s_setL (j := 1 + i) (e2 p _ hm2) ev_c (ev_var rfl) (ev_is (ev_var rfl) (by rw [Int.natCast_add] <;> rfl)) (by rw [len_mapB]; omega) fun H3 e3 => ?_
          refine ⟨some (.int c), rfl, Ex.mut (ex2.trans (e2.trans e3)) n1, ?_⟩
          rw [upd_same]
          unfold CH.lmIn
          rw [if_pos hb, List.map_set, show (1 + (i : Int)).toNat = 1 + i by omega] <;> rfl
        · refine ⟨some (.int c), rfl, ex2.trans e2, ?_⟩
          unfold CH.lmIn
          rw [if_neg (fun z => by rw [Bool.and_eq_false_iff] at hb; rcases hb with hb | hb; exact absurd z.1 (of_decide_eq_false hb); rw [hb] at z; cases z.2)]
          exact e2 p _ hm2
      · obtain ⟨x4, rfl, ex2, hm2⟩ := P2
        rw [len_map, List.take_length] at hm2
        exact ⟨_, _, rfl, ex2, hm2⟩
    · obtain ⟨x3, x4, rfl, ex, hm⟩ := P1
      have e : ((top : Int) + 1 - 1).toNat = top := by omega
      rw [e] at hm
      exact s_ret (v := .ref p) (ev_var rfl) fun H2 e2 => q p H2 n1 (ex.trans e2) (e2 p _ hm)
def spLastHole (K : PySem.W.Frag) : Sp := fun vs H Q _ => ∃ (a : Addr) (m : List Bool), vs = [.ref a] ∧ SqL K H a (m.map V.bl) ∧ m.length ≤ 40000 ∧ RetV (.int (CH.lastHole m m.length)) H Q
theorem cal__law_last_hole (T : Tx P K mg) : Cal P w K mg base 1 "_law_last_hole" (spLastHole K) := by
  obtain ⟨f, fd, F, hm⟩ := T.d__law_last_hole
  refine ⟨f, fd, ["made"], F.ok sc__law_last_hole (fun vs H Q E h => ?_) (fun cdv A outer s H vs Q E hr h => ?_), hm, F.kp, F.bindsN fun _ _ _ _ _ _ us hl => match us, hl with | [_], _ => rfl⟩
  · obtain ⟨a, m, rfl, -⟩ := h
    rfl
  · refine ⟨_, ((pss_cons (ps_set (i := 1) sc__law_last_hole.nd rfl (by first | exact Or.inl rfl | exact Or.inr rfl) (pe_un un_neg pe_int))
  (pss_cons (ps_for PassesOwn.leaving rfl (pi_range1 (by rfl) T.range (pa_cons (pe_callB (call_lenK K) (by rfl) T.len boot_len (pa_cons (pv 0) pa_nil)) pa_nil)) (pg_name (i := 2) sc__law_last_hole.nd rfl (by first | exact Or.inl rfl | exact Or.inr rfl))
    (pss_one (ps_if (pt_not (pt_val (pe_ix (ix_listK K) (pv 0) (pv 2) (fun _ _ => rfl))))
      (pss_one (ps_set (i := 1) sc__law_last_hole.nd rfl (by first | exact Or.inl rfl | exact Or.inr rfl) (pv 2))) pss_nil)))
  (pss_one (ps_ret (pv 1)))))), ?_⟩
    obtain ⟨a, m, rfl, ha, hz, q⟩ := h
    refine q_asg (ev_un ev_c ru_neg) fun H1 e1 => ?_
    refine q_forR1 (n := (m.length : Int)) (by rw [← len_mapB]; exact ea_cons (ev_lenQ (ev_var rfl) (.inl (ex_l e1 ha))) ea_nil) ⟨by omega, by omega⟩
      (fun i σ' H' => ∃ x2, σ' = [some (.ref a), some (.int (CH.lastHole m i)), x2] ∧ Ex H H') (fun H2 e2 => ⟨_, rfl, e1.trans e2⟩) (fun i σ' H' hi P1 => ?_) (fun σ' H' P1 => ?_)
    · obtain ⟨x2, rfl, ex⟩ := P1
      refine s_when (b := !CH.bget m i) (et_not (et_B (ev_ixL (ev_var rfl) (ev_var rfl) (ex_l ex ha) (atI_nat (atB (by omega)))))) (fun hb H2 e2 => ?_) (fun hb H2 e2 => ?_)
      · have hb : CH.bget m i = false := by simpa using hb
        refine s_asg (ev_var rfl) fun H3 e3 => ⟨some (.int (i : Int)), ?_, ex.trans (e2.trans e3)⟩
        show _ = [_, some (V.int (CH.lastHole m (i + 1))), _]
        unfold CH.lastHole
        rw [if_neg (by rw [hb]; decide)] <;> rfl
      · have hb : CH.bget m i = true := by simpa using hb
        refine ⟨some (.int (i : Int)), ?_, ex.trans e2⟩
        show _ = [_, some (V.int (CH.lastHole m (i + 1))), _]
        rw [CH.lastHole, if_pos hb] <;> rfl
    · obtain ⟨x2, rfl, ex⟩ := P1
      exact s_ret (ev_var rfl) fun H2 e2 => q H2 (ex.trans e2)
/-! ### drawn coins -/
def spDraw (K : PySem.W.Frag) : Sp := fun vs H Q _ => ∃ (a : Addr) (ns : List Int) (k : Nat), vs = [.ref a, .int (k : Int)] ∧ SqL K H a (ns.map V.int) ∧ RetL ((CH.drawCoins ns k).map V.int) H Q
theorem draw_pos {ns : List Int} {k i : Nat} : 2 ≤ CH.drawCell ns k i ∧ CH.drawCell ns k i ≤ 16 := by
  unfold CH.drawCell
  omega
theorem many_pos {ns : List Int} {k : Nat} : 2 ≤ CH.drawMany ns k ∧ CH.drawMany ns k ≤ 5 := by
  unfold CH.drawMany
  omega
theorem draw0_len {ns : List Int} {k : Nat} : (CH.draw0 ns k).length = (CH.drawMany ns k).toNat := by
  unfold CH.draw0
  rw [List.length_map, List.length_range]
theorem draw1_in {ns : List Int} {k : Nat} {c : Int} (h : c ∈ CH.draw1 ns k) : 1 ≤ c ∧ c ≤ 16 := by
  have h0 : ∀ c ∈ CH.draw0 ns k, 1 ≤ c ∧ c ≤ 16 := fun c hc => by
    unfold CH.draw0 at hc
    obtain ⟨i, _, rfl⟩ := List.mem_map.mp hc
    have := draw_pos (ns := ns) (k := k) (i := i)
    omega
  unfold CH.draw1 at h
  split at h
  · rcases List.mem_append.mp h with h | h
    · exact h0 c h
    · rw [List.mem_singleton.mp h] <;> decide
  · exact h0 c h
theorem draw1_ne {ns : List Int} {k : Nat} : CH.draw1 ns k ≠ [] ∧ (CH.draw1 ns k).length ≤ 6 := by
  have l0 := draw0_len (ns := ns) (k := k)
  have m0 := many_pos (ns := ns) (k := k)
  unfold CH.draw1
  split
  · exact ⟨by simp, by rw [List.length_append, l0]; show _ + 1 ≤ 6; omega⟩
  · refine ⟨fun h => ?_, by omega⟩
    rw [h] at l0
    have : ([] : List Int).length = 0 := rfl
    omega
theorem cal__law_draw_coins (T : Tx P K mg) : Cal P w K mg base 2 "_law_draw_coins" (spDraw K) := by
  obtain ⟨f, fd, F, hm⟩ := T.d__law_draw_coins
  refine ⟨f, fd, ["script", "at"], F.ok sc__law_draw_coins (fun vs H Q E h => ?_) (fun cdv A outer s H vs Q E hr h => ?_), hm, F.kp, F.bindsN fun _ _ _ _ _ _ us hl => match us, hl with | [_, _], _ => rfl⟩
  · obtain ⟨a, ns, k, rfl, -⟩ := h
    rfl
  · refine ⟨_, ((pss_cons (ps_set (i := 2) sc__law_draw_coins.nd rfl (by first | exact Or.inl rfl | exact Or.inr rfl) (pe_op op_add pe_int (pe_op op_mod (pe_cal0 (cal__law_cell T) hr (by decide) (by rfl) (pa_cons (pv 0) (pa_cons (pv 1) pa_nil))) pe_int)))
  (pss_cons (ps_set (i := 3) sc__law_draw_coins.nd rfl (by first | exact Or.inl rfl | exact Or.inr rfl) (pe_lc (own := [("k", 5)]) (g := gName 5) (tt := tYes) rfl sc__law_draw_coins.nd (pi_range1 (by rfl) T.range (pa_cons (pv 2) pa_nil)) (blkOk_by (own := [("k", 5)]) (by kernel_rfl)) (fun _ _ _ _ _ => pg_name (i := 5) sc__law_draw_coins.nd rfl (by first | exact Or.inl rfl | exact Or.inr rfl)) (fun _ _ _ _ _ => pts_nil) (fun _ _ _ _ _ => pe_cal0 (cal__law_cell T) hr (by decide) (by rfl) (pa_cons (pv 0) (pa_cons (pe_op op_add (pe_op op_add (pv 1) pe_int) (pv 5)) pa_nil)))))
  (pss_cons (ps_setLc (i := 4) (own := [("k", 5)]) (g := gName 5) (tt := tYes) rfl sc__law_draw_coins.nd rfl rfl (sw_true rfl rfl rfl (by decide +kernel)) (pi_range1 (by rfl) T.range (pa_cons (pv 2) pa_nil)) (blkOk_by (own := [("k", 5)]) (by kernel_rfl)) (fun _ _ _ _ _ => pg_name (i := 5) sc__law_draw_coins.nd rfl (by first | exact Or.inl rfl | exact Or.inr rfl)) (fun _ _ _ _ _ => pts_nil) (fun _ _ _ _ _ => pe_op op_add pe_int (pe_op op_mod (pe_op op_add (pe_op op_add (pe_ix (ix_listK K) (pv 3) (pv 5) (fun _ _ => rfl)) pe_int) (pe_op op_mulW pe_int (pv 5))) pe_int)))
  (pss_cons (ps_if (pt_cmpR op_eq (pe_op op_mod (pe_op op_fdiv (pe_cal0 (cal__law_cell T) hr (by decide) (by rfl) (pa_cons (pv 0) (pa_cons (pv 1) pa_nil))) pe_int) pe_int) pe_int (nomark _))
    (pss_one (ps_expr (pe_bm PySem.F.plainAttrs_list PySem.F.slot_list_append PySem.F.type_list_append (mt_append) (pv 4) (pa_cons pe_int pa_nil)))) pss_nil)
  (pss_cons (ps_if (pt_cmpR op_gt (pe_cal0 (cal__law_grain_of T) hr (by decide) (by rfl) (pa_cons (pv 4) pa_nil)) pe_int (nomark _))
    (pss_one (ps_expr (pe_bm PySem.F.plainAttrs_list PySem.F.slot_list_append PySem.F.type_list_append (mt_append) (pv 4) (pa_cons (pe_op op_add (pe_callB (cr_maxK K rfl) (by rfl) T.max (by decide +kernel) (pa_cons (pv 4) pa_nil)) pe_int) pa_nil)))) pss_nil)
  (pss_one (ps_ret (pv 4))))))))), ?_⟩
    obtain ⟨a, ns, k, rfl, ha, q⟩ := h
    have cell : ∀ {σ : L2.St} {ta tb : TE} {H1 : Hp} {i : Nat}, Ex H H1 → Ev ta σ H1 (.ref a) → Ev tb σ H1 (.int (i : Int)) → Ev (tCallS (spCell K) (fun _ _ _ _ => False) (tCons ta (tCons tb tNil))) σ H1 (.int (CH.nth ns i)) := fun e h1 h2 =>
      ev_callS (ea_cons h1 (ea_cons h2 ea_nil)) fun H2 e2 Q2 q2 => ⟨a, ns, _, rfl, ex_l (e.trans e2) ha, q2⟩
    have hm := many_pos (ns := ns) (k := k)
    refine q_asg (v := .int (CH.drawMany ns k)) (ev_bin ev_c (ev_binC (cell (Ex.refl H) (ev_var rfl) (ev_var rfl)) ev_c (by decide))) fun H1 e1 => ?_
    refine q_asgL (xs := ((List.range (CH.drawMany ns k).toNat).map fun i => CH.nth ns (k + 1 + i)).map V.int) ?_ fun p H2 n2 e2 h2 => ?_
    · rw [List.map_map]
      exact el_lcRM _ (ea_cons (ev_var rfl) ea_nil) ⟨by omega, by omega⟩ (fun _ => rfl) fun i H3 e3 hi => cell (e1.trans e3) (ev_var rfl) (ev_is (ev_bin (ev_bin (ev_var rfl) ev_c) (ev_var rfl)) (by rw [Int.natCast_add, Int.natCast_add] <;> rfl))
    refine q_asgL (xs := (CH.draw0 ns k).map V.int) ?_ fun c H3 n3 e3 h3 => ?_
    · unfold CH.draw0
      rw [List.map_map]
      refine el_lcRM _ (ea_cons (ev_var rfl) ea_nil) ⟨by omega, by omega⟩ (fun _ => rfl) fun i H3 e3 hi => ?_
      have hl : ((List.range (CH.drawMany ns k).toNat).map fun i => CH.nth ns (k + 1 + i)).length = (CH.drawMany ns k).toNat := by rw [List.length_map, List.length_range]
      have hv : CH.nth ((List.range (CH.drawMany ns k).toNat).map fun i => CH.nth ns (k + 1 + i)) i = CH.nth ns (k + 1 + i) := CH.nth_range_map (by omega)
      refine ev_bin ev_c (ev_binC (ev_bin (ev_bin (ev_ixL (ev_var rfl) (ev_var rfl) (sq_of (e3 p _ h2)) (by rw [at_nth (by omega) (by omega), Int.toNat_natCast, hv])) ev_c) (ev_binC ev_c (ev_var rfl) (mulS (by decide) (by omega)))) ev_c (by decide))
    have nc : H c = none := fresh_back (e1.trans e2) n3
    have l0 := draw0_len (ns := ns) (k := k)
    have key : ∀ H4, Ex H H4 → H4 c = some (.lst ((CH.draw1 ns k).map V.int)) → (tSeq (tIfS (tTest (tOp (rI0 fun i j => .bl (decide (j < i))) (tCallS (spGrain K) (fun _ _ _ _ => False) (tCons (tVar 4) tNil)) (tC (.int 1)))) (tDrop (tBM K "list" rAppend (tVar 4) (tCons (tOp (rI0 fun i j => .int (i + j)) (tCB (rMax K) (tCons (tVar 4) tNil)) (tC (.int 1))) tNil))) tNext) (tRet (tVar 4)) { nx := fun _ H' => Q .non H', rt := Q } [some (.ref a), some (.int (k : Int)), some (.int (CH.drawMany ns k)), some (.ref p), some (.ref c), none] H4) := by
      intro H4 ex hc
      have ne := draw1_ne (ns := ns) (k := k)
      have mi := draw1_in (CH.minOf_mem ne.1)
      refine q_when (b := decide (1 < CH.grainOf (CH.draw1 ns k))) (et_test (ev_bin (ev_callS (ea_cons (ev_var rfl) ea_nil) fun H5 e5 Q5 q5 => ⟨c, _, rfl, sq_of (e5 c _ hc), ne.1, by omega, by omega, by omega, q5⟩) ev_c)) (fun hb H5 e5 => ?_) (fun hb H5 e5 => ?_)
      · have hb := of_decide_eq_true hb
        refine s_app (e5 c _ hc) (ev_var rfl) (ev_bin (ev_maxL (ev_var rfl) (sq_of (e5 c _ hc)) ne.1) ev_c) (by rw [List.length_map]; omega) fun H6 e6 => ?_
        refine s_ret (v := .ref c) (ev_var rfl) fun H7 e7 => q c H7 nc ((Ex.mut (ex.trans (e5.trans e6)) nc).trans e7) (e7 c _ ?_)
        rw [upd_same]
        unfold CH.drawCoins CH.apartUp
        rw [if_pos hb, List.map_append] <;> rfl
      · have hb := of_decide_eq_false hb
        refine s_ret (v := .ref c) (ev_var rfl) fun H7 e7 => q c H7 nc (ex.trans (e5.trans e7)) (e7 c _ (e5 c _ ?_))
        rw [hc]
        unfold CH.drawCoins CH.apartUp
        rw [if_neg hb]
    refine q_when (b := decide (CH.nth ns k / 4 % 7 = 3)) (et_test (ev_eqI (ev_binC (ev_binC (cell ((e1.trans e2).trans e3) (ev_var rfl) (ev_var rfl)) ev_c ⟨by decide, by decide⟩) ev_c (by decide)) ev_c)) (fun hb H4 e4 => ?_) (fun hb H4 e4 => ?_)
    · have hb := of_decide_eq_true hb
      refine s_app (e4 c _ h3) (ev_var rfl) ev_c (by rw [List.length_map]; omega) fun H5 e5 => ?_
      refine key _ (Ex.mut ((e1.trans e2).trans (e3.trans (e4.trans e5))) nc) ?_
      rw [upd_same]
      unfold CH.draw1
      rw [if_pos hb, List.map_append] <;> rfl
    · have hb := of_decide_eq_false hb
      refine key _ ((e1.trans e2).trans (e3.trans e4)) (e4 c _ ?_)
      unfold CH.draw1
      rw [if_neg hb]
      exact h3
end CHX

namespace CHX
open PySem PySem.Spec PyProof.Rows L2 Evl
variable {P : Program} {w : World} {K : PySem.W.Frag} {mg : Str → Option Value} {base : Heap}
/-! ### coins drawn far -/
theorem far_pos {cell least : Int} (h1 : 2 ≤ least) (h2 : least ≤ 64) : least < CH.farCoin cell least ∧ CH.farCoin cell least ≤ 10 ^ 12 := by
  unfold CH.farCoin
  split
  · omega
  · split
    · omega
    · have a := Int.emod_nonneg (cell / 3) (b := 10 ^ 12 - least) (by omega)
      have b := Int.emod_lt_of_pos (cell / 3) (b := 10 ^ 12 - least) (by omega)
      omega
theorem least_pos {ns : List Int} {k : Nat} : 2 ≤ CH.farLeast ns k ∧ CH.farLeast ns k ≤ 64 := by
  unfold CH.farLeast
  omega
theorem kind_pos {ns : List Int} {k : Nat} : 0 ≤ CH.farKind ns k ∧ CH.farKind ns k ≤ 3 := by
  unfold CH.farKind
  omega
theorem far0_ne {ns : List Int} {k : Nat} : CH.far0 ns k ≠ [] := by
  unfold CH.far0
  simp
theorem far0_len {ns : List Int} {k : Nat} : (CH.far0 ns k).length ≤ 5 := by
  unfold CH.far0
  have := kind_pos (ns := ns) (k := k)
  rw [List.length_append, List.length_map, List.length_range]
  show _ + 1 ≤ 5
  omega
theorem far0_in {ns : List Int} {k : Nat} {c : Int} (h : c ∈ CH.far0 ns k) : CH.farLeast ns k ≤ c ∧ c ≤ 10 ^ 12 := by
  have hl := least_pos (ns := ns) (k := k)
  unfold CH.far0 at h
  rcases List.mem_append.mp h with h | h
  · obtain ⟨i, _, rfl⟩ := List.mem_map.mp h
    have := far_pos (cell := CH.nth ns (k + 1 + i)) hl.1 hl.2
    omega
  · rw [List.mem_singleton.mp h]
    omega
theorem far0_min {ns : List Int} {k : Nat} : CH.minOf (CH.far0 ns k) = CH.farLeast ns k := by
  have h1 := far0_in (CH.minOf_mem (far0_ne (ns := ns) (k := k)))
  have h2 : CH.minOf (CH.far0 ns k) ≤ CH.farLeast ns k := CH.minOf_le (by unfold CH.far0; simp)
  omega
def spFarCoin : Sp := fun vs H Q _ => ∃ cell least : Int, vs = [.int cell, .int least] ∧ 2 ≤ least ∧ least ≤ 64 ∧ RetV (.int (CH.farCoin cell least)) H Q
theorem cal__law_far_coin (T : Tx P K mg) : Cal P w K mg base 1 "_law_far_coin" spFarCoin := by
  obtain ⟨f, fd, F, hm⟩ := T.d__law_far_coin
  refine ⟨f, fd, ["cell", "least"], F.ok sc__law_far_coin (fun vs H Q E h => ?_) (fun cdv A outer s H vs Q E hr h => ?_), hm, F.kp, F.bindsN fun _ _ _ _ _ _ us hl => match us, hl with | [_, _], _ => rfl⟩
  · obtain ⟨cell, least, rfl, -⟩ := h
    rfl
  · refine ⟨_, ((pss_cons (ps_set (i := 2) sc__law_far_coin.nd rfl (by first | exact Or.inl rfl | exact Or.inr rfl) (pe_op op_fdivW (pv 0) pe_int))
  (pss_cons (ps_if (pt_cmpR op_eq (pe_op op_mod (pv 0) pe_int) pe_int (nomark _))
    (pss_one (ps_ret (pe_op op_sub (pe_op op_pow pe_int pe_int) (pe_op op_mod (pv 2) pe_int)))) pss_nil)
  (pss_cons (ps_if (pt_cmpR op_eq (pe_op op_mod (pv 0) pe_int) pe_int (nomark _))
    (pss_one (ps_ret (pe_op op_add (pe_op op_add (pv 1) pe_int) (pe_op op_mod (pv 2) pe_int)))) pss_nil)
  (pss_one (ps_ret (pe_op op_add (pe_op op_add (pv 1) pe_int) (pe_op op_mod (pv 2) (pe_op op_sub (pe_op op_pow pe_int pe_int) (pv 1)))))))))), ?_⟩
    obtain ⟨cell, least, rfl, h1, h2, q⟩ := h
    refine q_asg (ev_binC (ev_var rfl) ev_c (divS (by decide) (by decide))) fun H1 e1 => ?_
    unfold CH.farCoin at q
    have p12 : CPow 10 12 := ⟨by decide, by decide, by decide⟩
    refine q_when (et_test (ev_eqI (ev_binC (ev_var rfl) ev_c (by decide)) ev_c)) (fun hb H2 e2 => ?_) (fun hb H2 e2 => ?_)
    · rw [if_pos (of_decide_eq_true hb)] at q
      exact s_ret (ev_bin (ev_binC ev_c ev_c p12) (ev_binC (ev_var rfl) ev_c (by decide))) fun H3 e3 => q H3 (e1.trans (e2.trans e3))
    · rw [if_neg (of_decide_eq_false hb)] at q
      refine q_when (et_test (ev_eqI (ev_binC (ev_var rfl) ev_c (by decide)) ev_c)) (fun hb H3 e3 => ?_) (fun hb H3 e3 => ?_)
      · rw [if_pos (of_decide_eq_true hb)] at q
        exact s_ret (ev_bin (ev_bin (ev_var rfl) ev_c) (ev_binC (ev_var rfl) ev_c (by decide))) fun H4 e4 => q H4 (e1.trans (e2.trans (e3.trans e4)))
      · rw [if_neg (of_decide_eq_false hb)] at q
        refine s_ret (ev_bin (ev_bin (ev_var rfl) ev_c) (ev_binC (ev_var rfl) (ev_bin (ev_binC ev_c ev_c p12) (ev_var rfl)) ?_)) fun H4 e4 => q H4 (e1.trans (e2.trans (e3.trans e4)))
        show (0 : Int) < 10 ^ 12 - least
        omega
def spDrawFar (K : PySem.W.Frag) : Sp := fun vs H Q _ => ∃ (a : Addr) (ns : List Int) (k : Nat), vs = [.ref a, .int (k : Int)] ∧ SqL K H a (ns.map V.int) ∧ RetL ((CH.drawFar ns k).map V.int) H Q
theorem cal__law_draw_far (T : Tx P K mg) : Cal P w K mg base 2 "_law_draw_far" (spDrawFar K) := by
  obtain ⟨f, fd, F, hm⟩ := T.d__law_draw_far
  refine ⟨f, fd, ["script", "at"], F.ok sc__law_draw_far (fun vs H Q E h => ?_) (fun cdv A outer s H vs Q E hr h => ?_), hm, F.kp, F.bindsN fun _ _ _ _ _ _ us hl => match us, hl with | [_, _], _ => rfl⟩
  · obtain ⟨a, ns, k, rfl, -⟩ := h
    rfl
  · refine ⟨_, ((pss_cons (ps_set (i := 2) sc__law_draw_far.nd rfl (by first | exact Or.inl rfl | exact Or.inr rfl) (pe_op op_add pe_int (pe_op op_mod (pe_op op_add (pe_cal0 (cal__law_cell T) hr (by decide) (by rfl) (pa_cons (pv 0) (pa_cons (pv 1) pa_nil))) pe_int) pe_int)))
  (pss_cons (ps_set (i := 3) sc__law_draw_far.nd rfl (by first | exact Or.inl rfl | exact Or.inr rfl) (pe_op op_mod (pe_op op_fdiv (pe_cal0 (cal__law_cell T) hr (by decide) (by rfl) (pa_cons (pv 0) (pa_cons (pv 1) pa_nil))) pe_int) pe_int))
  (pss_cons (ps_if (pt_cmpR op_eq (pv 3) pe_int (nomark _))
    (pss_cons (ps_set (i := 4) sc__law_draw_far.nd rfl (by first | exact Or.inl rfl | exact Or.inr rfl) (pe_op op_add (pe_op op_mulW (pv 2) (pe_op op_mod (pe_cal0 (cal__law_cell T) hr (by decide) (by rfl) (pa_cons (pv 0) (pa_cons (pe_op op_add (pv 1) pe_int) pa_nil))) (pe_op op_pow pe_int pe_int))) pe_int))
    (pss_one (ps_ret (pe_lc (own := [("k", 7)]) (g := gName 7) (tt := tYes) rfl sc__law_draw_far.nd (pi_range1 (by rfl) T.range (pa_cons pe_int pa_nil)) (blkOk_by (own := [("k", 7)]) (by kernel_rfl)) (fun _ _ _ _ _ => pg_name (i := 7) sc__law_draw_far.nd rfl (by first | exact Or.inl rfl | exact Or.inr rfl)) (fun _ _ _ _ _ => pts_nil) (fun _ _ _ _ _ => pe_op op_add (pv 2) (pe_op op_mulW (pv 7) (pv 4))))))) pss_nil)
  (pss_cons (ps_setLc (i := 5) (own := [("k", 7)]) (g := gName 7) (tt := tYes) rfl sc__law_draw_far.nd rfl rfl (sw_true rfl rfl rfl (by decide +kernel)) (pi_range1 (by rfl) T.range (pa_cons (pe_op op_add pe_int (pv 3)) pa_nil)) (blkOk_by (own := [("k", 7)]) (by kernel_rfl)) (fun _ _ _ _ _ => pg_name (i := 7) sc__law_draw_far.nd rfl (by first | exact Or.inl rfl | exact Or.inr rfl)) (fun _ _ _ _ _ => pts_nil) (fun _ _ _ _ _ => pe_cal0 (cal__law_cell T) hr (by decide) (by rfl) (pa_cons (pv 0) (pa_cons (pe_op op_add (pe_op op_add (pv 1) pe_int) (pv 7)) pa_nil))))
  (pss_cons (ps_setLc (i := 6) (own := [("cell", 8)]) (g := gName 8) (tt := tYes) rfl sc__law_draw_far.nd rfl rfl (sw_true rfl rfl rfl (by decide +kernel)) (pi_seqK K (pv 5)) (blkOk_by (own := [("cell", 8)]) (by kernel_rfl)) (fun _ _ _ _ _ => pg_name (i := 8) sc__law_draw_far.nd rfl (by first | exact Or.inl rfl | exact Or.inr rfl)) (fun _ _ _ _ _ => pts_nil) (fun _ _ _ _ _ => pe_cal0 (cal__law_far_coin T) hr (by decide) (by rfl) (pa_cons (pv 8) (pa_cons (pv 2) pa_nil))))
  (pss_cons (ps_expr (pe_bm PySem.F.plainAttrs_list PySem.F.slot_list_append PySem.F.type_list_append (mt_append) (pv 6) (pa_cons (pv 2) pa_nil)))
  (pss_cons (ps_if (pt_cmpR op_gt (pe_cal0 (cal__law_grain_of T) hr (by decide) (by rfl) (pa_cons (pv 6) pa_nil)) pe_int (nomark _))
    (pss_one (ps_expr (pe_bm PySem.F.plainAttrs_list PySem.F.slot_list_append PySem.F.type_list_append (mt_append) (pv 6) (pa_cons (pe_op op_sub (pe_callB (cr_maxK K rfl) (by rfl) T.max (by decide +kernel) (pa_cons (pv 6) pa_nil)) pe_int) pa_nil)))) pss_nil)
  (pss_one (ps_ret (pv 6))))))))))), ?_⟩
    obtain ⟨a, ns, k, rfl, ha, q⟩ := h
    have cell : ∀ {σ : L2.St} {ta tb : TE} {H1 : Hp} {i : Nat}, Ex H H1 → Ev ta σ H1 (.ref a) → Ev tb σ H1 (.int (i : Int)) → Ev (tCallS (spCell K) (fun _ _ _ _ => False) (tCons ta (tCons tb tNil))) σ H1 (.int (CH.nth ns i)) := fun e h1 h2 =>
      ev_callS (ea_cons h1 (ea_cons h2 ea_nil)) fun H2 e2 Q2 q2 => ⟨a, ns, _, rfl, ex_l (e.trans e2) ha, q2⟩
    have hl := least_pos (ns := ns) (k := k)
    have hk := kind_pos (ns := ns) (k := k)
    refine q_asg (v := .int (CH.farLeast ns k)) (ev_bin ev_c (ev_binC (ev_bin (cell (Ex.refl H) (ev_var rfl) (ev_var rfl)) ev_c) ev_c (by decide))) fun H1 e1 => ?_
    refine q_asg (v := .int (CH.farKind ns k)) (ev_binC (ev_binC (cell e1 (ev_var rfl) (ev_var rfl)) ev_c ⟨by decide, by decide⟩) ev_c (by decide)) fun H2 e2 => ?_
    have ex2 := e1.trans e2
    refine q_when (et_test (ev_eqI (ev_var rfl) ev_c)) (fun hb H3 e3 => ?_) (fun hb H3 e3 => ?_)
    · have hb := of_decide_eq_true hb
      have hs : 0 < CH.farStep ns k ∧ CH.farStep ns k < 2 ^ 34 := by
        unfold CH.farStep
        have a1 := Int.emod_nonneg (CH.nth ns (k + 1)) (b := 10 ^ 8) (by decide)
        have a2 := Int.emod_lt_of_pos (CH.nth ns (k + 1)) (b := 10 ^ 8) (by decide)
        generalize CH.nth ns (k + 1) % 10 ^ 8 = r at *
        generalize CH.farLeast ns k = l at *
        have a3 : l * r ≤ 64 * 10 ^ 8 := Int.mul_le_mul hl.2 (by omega) a1 (by decide)
        have a4 : 0 ≤ l * r := Int.mul_nonneg (by omega) a1
        omega
      refine q_asg (v := .int (CH.farStep ns k)) (ev_bin (ev_binC (ev_var rfl) (ev_binC (cell (ex2.trans e3) (ev_var rfl) (ev_is (ev_bin (ev_var rfl) ev_c) (by rw [Int.natCast_add] <;> rfl))) (ev_binC ev_c ev_c ⟨by decide, by decide, by decide⟩) (by decide)) (mulS ?_ ?_)) ev_c) fun H4 e4 => ?_
      · omega
      · have a1 := Int.emod_nonneg (CH.nth ns (k + 1)) (b := 10 ^ 8) (by decide)
        have a2 := Int.emod_lt_of_pos (CH.nth ns (k + 1)) (b := 10 ^ 8) (by decide)
        show (CH.nth ns (k + 1) % 10 ^ 8).natAbs < _
        omega
      · refine s_retL (xs := (CH.drawFar ns k).map V.int) ?_ fun p H5 n5 e5 h5 => q p H5 (fresh_back (ex2.trans (e3.trans e4)) n5) ((ex2.trans (e3.trans e4)).trans e5) h5
        have e : (CH.drawFar ns k).map V.int = (List.range (64 : Int).toNat).map fun (i : Nat) => V.int (CH.farLeast ns k + (i : Int) * CH.farStep ns k) := by
          unfold CH.drawFar CH.far64
          rw [if_pos hb, List.map_map] <;> rfl
        rw [e]
        exact el_lcRM _ (ea_cons ev_c ea_nil) ⟨by decide, by decide⟩ (fun _ => rfl) fun i H5 e5 hi => ev_bin (ev_var rfl) (ev_binC (ev_var rfl) (ev_var rfl) (mulS (by omega) (by omega)))
    · have hb := of_decide_eq_false hb
      refine q_asgL (xs := ((List.range (1 + CH.farKind ns k).toNat).map fun i => CH.nth ns (k + 1 + i)).map V.int) ?_ fun p H4 n4 e4 h4 => ?_
      · rw [List.map_map]
        exact el_lcRM _ (ea_cons (ev_bin ev_c (ev_var rfl)) ea_nil) ⟨by omega, by omega⟩ (fun _ => rfl) fun i H4 e4 hi => cell (ex2.trans (e3.trans e4)) (ev_var rfl) (ev_is (ev_bin (ev_bin (ev_var rfl) ev_c) (ev_var rfl)) (by rw [Int.natCast_add, Int.natCast_add] <;> rfl))
      refine q_asgL (xs := ((List.range (1 + CH.farKind ns k).toNat).map fun i => CH.farCoin (CH.nth ns (k + 1 + i)) (CH.farLeast ns k)).map V.int) ?_ fun c H5 n5 e5 h5 => ?_
      · have e : ((List.range (1 + CH.farKind ns k).toNat).map fun i => CH.farCoin (CH.nth ns (k + 1 + i)) (CH.farLeast ns k)).map V.int = ((List.range (1 + CH.farKind ns k).toNat).map fun i => CH.nth ns (k + 1 + i)).map fun x => V.int (CH.farCoin x (CH.farLeast ns k)) := by
          rw [List.map_map, List.map_map] <;> rfl
        rw [e]
        exact el_lcM _ V.int _ (ev_var rfl) (.inl (sq_of h4)) (by rw [List.length_map, List.length_range]; omega) (fun _ => rfl) fun x hx H5 e5 => ev_callS (ea_cons (ev_var rfl) (ea_cons (ev_var rfl) ea_nil)) fun H6 e6 Q6 q6 => ⟨_, _, rfl, hl.1, hl.2, q6⟩
      have ex5 := ex2.trans (e3.trans (e4.trans e5))
      have nc : H c = none := fresh_back (ex2.trans (e3.trans e4)) n5
      refine q_app h5 (ev_var rfl) (ev_var rfl) (by rw [List.length_map, List.length_map, List.length_range]; omega) fun H6 e6 => ?_
      have h6 : (upd H6 c (.lst (((List.range (1 + CH.farKind ns k).toNat).map fun i => CH.farCoin (CH.nth ns (k + 1 + i)) (CH.farLeast ns k)).map V.int ++ [V.int (CH.farLeast ns k)]))) c = some (.lst ((CH.far0 ns k).map V.int)) := by
        rw [upd_same]
        unfold CH.far0
        rw [List.map_append] <;> rfl
      have ex6 := Ex.mut (o := .lst (((List.range (1 + CH.farKind ns k).toNat).map fun i => CH.farCoin (CH.nth ns (k + 1 + i)) (CH.farLeast ns k)).map V.int ++ [V.int (CH.farLeast ns k)])) (ex5.trans e6) nc
      generalize upd H6 c _ = H7 at h6 ex6 ⊢
      have ed : CH.drawFar ns k = CH.apartDn (CH.far0 ns k) := if_neg hb
      have lf := far0_len (ns := ns) (k := k)
      refine q_when (b := decide (1 < CH.grainOf (CH.far0 ns k))) (et_test (ev_bin (ev_callS (ea_cons (ev_var rfl) ea_nil) fun H8 e8 Q8 q8 => ⟨c, _, rfl, sq_of (e8 c _ h6), far0_ne, by omega, by rw [far0_min]; omega, by rw [far0_min]; omega, q8⟩) ev_c)) (fun hb H8 e8 => ?_) (fun hb H8 e8 => ?_)
      · have hb := of_decide_eq_true hb
        refine s_app (e8 c _ h6) (ev_var rfl) (ev_bin (ev_maxL (ev_var rfl) (sq_of (e8 c _ h6)) far0_ne) ev_c) (by rw [List.length_map]; omega) fun H9 e9 => ?_
        refine s_ret (v := .ref c) (ev_var rfl) fun H10 e10 => q c H10 nc ((Ex.mut (ex6.trans (e8.trans e9)) nc).trans e10) (e10 c _ ?_)
        rw [upd_same, ed]
        unfold CH.apartDn
        rw [if_pos hb, List.map_append] <;> rfl
      · have hb := of_decide_eq_false hb
        refine s_ret (v := .ref c) (ev_var rfl) fun H10 e10 => q c H10 nc (ex6.trans (e8.trans e10)) (e10 c _ (e8 c _ ?_))
        rw [h6, ed]
        unfold CH.apartDn
        rw [if_neg hb]
end CHX

namespace CHX
open PySem PySem.Spec PyProof.Rows L2 Evl
variable {P : Program} {w : World} {K : PySem.W.Frag} {mg : Str → Option Value} {base : Heap}
/-! ### a list of ints against [] -/
section
variable {σ : L2.St} {H : Hp} {ta : TE} {a : Addr}
theorem dpAll {H : Hp} : ∀ ns : List Int, DpAll K H (ns.map V.int) (ns.map PyData.int)
  | [] => .nil
  | n :: ns => .cons (.int n) (dpAll ns)
theorem canInts : ∀ ns : List Int, PyData.canLayAll0 (ns.map PyData.int) = true
  | [] => by simp [PyData.canLayAll0]
  | n :: ns => by simp [PyData.canLayAll0, PyData.canLay0, canInts ns]
theorem depInts : ∀ ns : List Int, PyData.depthAll (ns.map PyData.int) ≤ 63
  | [] => by simp [PyData.depthAll]
  | n :: ns => by
    have h := depInts ns
    have e : PyData.depthAll ((n :: ns).map PyData.int) = max (PyData.depth (.int n)) (PyData.depthAll (ns.map PyData.int)) := by simp [PyData.depthAll]
    have e2 : PyData.depth (.int n) = 0 := by simp [PyData.depth]
    rw [e, e2]
    exact Nat.max_le.mpr ⟨Nat.zero_le _, h⟩
theorem shapedInts (ns : List Int) : SeqAt.shaped (.list (ns.map PyData.int)) = true := by
  have h1 := canInts ns
  have h2 := depInts ns
  have e1 : PyData.canLay0 (.list (ns.map PyData.int)) = true := by simp [PyData.canLay0, h1]
  have e2 : PyData.depth (.list (ns.map PyData.int)) = PyData.depthAll (ns.map PyData.int) + 1 := by simp [PyData.depth]
  unfold SeqAt.shaped
  rw [e1, e2, Bool.true_and]
  exact decide_eq_true (Nat.succ_le_succ h2)
theorem eqvNil : ∀ ns : List Int, PyData.eqv (.list (ns.map PyData.int)) (.list []) = decide (ns = [])
  | [] => by simp [PyData.eqv, PyData.eqvAll]
  | n :: ns => by simp [PyData.eqv, PyData.eqvAll]
theorem ev_eqNil {ns : List Int} (ha : Ev ta σ H (.ref a)) (h : SqL K H a (ns.map V.int)) : Ev (tOp (rEqD K) ta (tLst tNil)) σ H (.bl (decide (ns = []))) := fun H1 e Q q =>
  ha H1 e _ fun H2 e2 => ⟨by decide, fun p np => ⟨.list (ns.map PyData.int), .list [], .lst (ex_l ((e.trans e2).trans (Ex.new np)) h) (dpAll ns), .lst (sq_of upd_same) .nil, shapedInts ns, shapedInts [], by
    rw [eqvNil]
    exact q _ (e2.trans (Ex.new np))⟩⟩
theorem ev_neNil {ns : List Int} (ha : Ev ta σ H (.ref a)) (h : SqL K H a (ns.map V.int)) : Ev (tOp (rNeD K) ta (tLst tNil)) σ H (.bl (!decide (ns = []))) := fun H1 e Q q =>
  ha H1 e _ fun H2 e2 => ⟨by decide, fun p np => ⟨.list (ns.map PyData.int), .list [], .lst (ex_l ((e.trans e2).trans (Ex.new np)) h) (dpAll ns), .lst (sq_of upd_same) .nil, shapedInts ns, shapedInts [], by
    rw [eqvNil]
    exact q _ (e2.trans (Ex.new np))⟩⟩
end
/-! ### _law_nearest, _law_base_of -/
theorem near_bounds (base : List Int) (done : List Bool) : ∀ n : Nat, -1 ≤ (List.range n).foldl (CH.nearStep base done) (-1) ∧ (List.range n).foldl (CH.nearStep base done) (-1) < n
  | 0 => ⟨Int.le_refl _, by show (-1 : Int) < 0; decide⟩
  | n + 1 => by
    obtain ⟨h1, h2⟩ := near_bounds base done n
    rw [List.range_succ, List.foldl_append]
    show -1 ≤ CH.nearStep base done _ n ∧ CH.nearStep base done _ n < _
    generalize (List.range n).foldl (CH.nearStep base done) (-1) = g at *
    unfold CH.nearStep
    split
    · split <;> omega
    · omega
def spNearest (K : PySem.W.Frag) : Sp := fun vs H Q _ => ∃ (a b : Addr) (bs : List Int) (done : List Bool), vs = [.ref a, .ref b] ∧ SqL K H a (bs.map V.int) ∧ SqL K H b (done.map V.bl) ∧ done.length = bs.length ∧ bs.length ≤ 1000 ∧ RetV (.int (CH.nearest bs done)) H Q
theorem cal__law_nearest (T : Tx P K mg) : Cal P w K mg base 1 "_law_nearest" (spNearest K) := by
  obtain ⟨f, fd, F, hm⟩ := T.d__law_nearest
  refine ⟨f, fd, ["base", "done"], F.ok sc__law_nearest (fun vs H Q E h => ?_) (fun cdv A outer s H vs Q E hr h => ?_), hm, F.kp, F.bindsN fun _ _ _ _ _ _ us hl => match us, hl with | [_, _], _ => rfl⟩
  · obtain ⟨a, b, bs, done, rfl, -⟩ := h
    rfl
  · refine ⟨_, ((pss_cons (ps_set (i := 2) sc__law_nearest.nd rfl (by first | exact Or.inl rfl | exact Or.inr rfl) (pe_un un_neg pe_int))
  (pss_cons (ps_for PassesOwn.leaving rfl (pi_range1 (by rfl) T.range (pa_cons (pe_callB (call_lenK K) (by rfl) T.len boot_len (pa_cons (pv 0) pa_nil)) pa_nil)) (pg_name (i := 3) sc__law_nearest.nd rfl (by first | exact Or.inl rfl | exact Or.inr rfl))
    (pss_one (ps_if (PW.pt (pw_and (pt_cmpR op_ge (pe_ix (ix_listK K) (pv 0) (pv 3) (fun _ _ => rfl)) pe_int (nomark _)) (pw_and1 (pt_not (pt_val (pe_ix (ix_listK K) (pv 1) (pv 3) (fun _ _ => rfl)))))))
      (pss_one (ps_if (PW.pt (pw_or (pt_cmpR op_lt (pv 2) pe_int (nomark _)) (pw_or1 (pt_cmpR op_lt (pe_ix (ix_listK K) (pv 0) (pv 3) (fun _ _ => rfl)) (pe_ix (ix_listK K) (pv 0) (pv 2) (fun _ _ => rfl)) (nomark _)))))
        (pss_one (ps_set (i := 2) sc__law_nearest.nd rfl (by first | exact Or.inl rfl | exact Or.inr rfl) (pv 3))) pss_nil)) pss_nil)))
  (pss_one (ps_ret (pv 2)))))), ?_⟩
    obtain ⟨a, b, bs, done, rfl, ha, hb, hl, hz, q⟩ := h
    refine q_asg (ev_un ev_c ru_neg) fun H1 e1 => ?_
    refine q_forR1 (n := (bs.length : Int)) (by rw [← len_map]; exact ea_cons (ev_lenQ (ev_var rfl) (.inl (ex_l e1 ha))) ea_nil) ⟨by omega, by omega⟩
      (fun i σ' H' => ∃ x3, σ' = [some (.ref a), some (.ref b), some (.int ((List.range i).foldl (CH.nearStep bs done) (-1))), x3] ∧ Ex H H') (fun H2 e2 => ⟨_, rfl, e1.trans e2⟩) (fun i σ' H' hi P1 => ?_) (fun σ' H' P1 => ?_)
    · obtain ⟨x3, rfl, ex⟩ := P1
      obtain ⟨g1, g2⟩ := near_bounds bs done i
      have es : (List.range (i + 1)).foldl (CH.nearStep bs done) (-1) = CH.nearStep bs done ((List.range i).foldl (CH.nearStep bs done) (-1)) i := by rw [List.range_succ, List.foldl_append] <;> rfl
      rw [es]
      generalize (List.range i).foldl (CH.nearStep bs done) (-1) = g at *
      have hi : i < bs.length := by omega
      refine s_when (b := decide (0 ≤ CH.nth bs i) && !CH.bget done i) (et_and (et_test (ev_bin (ev_ixL (ev_var rfl) (ev_var rfl) (ex_l ex ha) (at_nth (by omega) (by omega))) ev_c)) fun _ => et_not (et_B (ev_ixL (ev_var rfl) (ev_var rfl) (ex_l ex hb) (atI_nat (atB (by omega)))))) (fun h1 H2 e2 => ?_) (fun h1 H2 e2 => ?_)
      · have h1 : 0 ≤ CH.nth bs i ∧ CH.bget done i = false := by simpa using h1
        refine s_when (b := decide (g < 0) || decide (CH.nth bs i < CH.nth bs g.toNat)) (et_or (et_test (ev_bin (ev_var rfl) ev_c)) fun h2 => ?_) (fun h2 H3 e3 => ?_) (fun h2 H3 e3 => ?_)
        · have h2 := of_decide_eq_false h2
          exact et_test (ev_bin (ev_ixL (ev_var rfl) (ev_var rfl) (ex_l (ex.trans e2) ha) (at_nth (by omega) (by omega))) (ev_ixL (ev_var rfl) (ev_var rfl) (ex_l (ex.trans e2) ha) (at_nth (by omega) (by omega))))
        · have h2 : g < 0 ∨ CH.nth bs i < CH.nth bs g.toNat := by simpa using h2
          refine s_asg (ev_var rfl) fun H4 e4 => ⟨some (.int (i : Int)), ?_, ex.trans (e2.trans (e3.trans e4))⟩
          unfold CH.nearStep
          rw [if_pos h1, if_pos h2] <;> rfl
        · have h2 : ¬ (g < 0 ∨ CH.nth bs i < CH.nth bs g.toNat) := by
            intro z
            have : (decide (g < 0) || decide (CH.nth bs i < CH.nth bs g.toNat)) = true := by simpa using z
            rw [h2] at this
            cases this
          refine ⟨some (.int (i : Int)), ?_, ex.trans (e2.trans e3)⟩
          unfold CH.nearStep
          rw [if_pos h1, if_neg h2] <;> rfl
      · have h1 : ¬ (0 ≤ CH.nth bs i ∧ CH.bget done i = false) := by
          intro z
          have : (decide (0 ≤ CH.nth bs i) && !CH.bget done i) = true := by simpa using z
          rw [h1] at this
          cases this
        refine ⟨some (.int (i : Int)), ?_, ex.trans e2⟩
        unfold CH.nearStep
        rw [if_neg h1] <;> rfl
    · obtain ⟨x3, rfl, ex⟩ := P1
      exact s_ret (ev_var rfl) fun H2 e2 => q H2 (ex.trans e2)
theorem rel1_len (here : Nat) (base : List Int) (c : Int) : (CH.rel1 here base c).length = base.length := by
  unfold CH.rel1
  split
  · rw [List.length_set]
  · rfl
theorem rels_len (here : Nat) : ∀ (cs base : List Int), (cs.foldl (CH.rel1 here) base).length = base.length
  | [], _ => rfl
  | c :: cs, base => (rels_len here cs _).trans (rel1_len here base c)
theorem dij_len (cs : List Int) (m : Nat) (hm : 0 < m) : ∀ k, (CH.dijRun cs m k).1.length = m ∧ (CH.dijRun cs m k).2.length = m
  | 0 => ⟨by show (0 :: List.replicate (m - 1) (-1 : Int)).length = m; rw [List.length_cons, List.length_replicate]; omega, by show (List.replicate m false).length = m; rw [List.length_replicate]⟩
  | k + 1 => by
    obtain ⟨h1, h2⟩ := dij_len cs m hm k
    show (CH.dijStep cs (CH.dijRun cs m k)).1.length = m ∧ (CH.dijStep cs (CH.dijRun cs m k)).2.length = m
    unfold CH.dijStep
    split
    · exact ⟨by rw [rels_len]; exact h1, by rw [List.length_set]; exact h2⟩
    · exact ⟨h1, h2⟩
def spBase (K : PySem.W.Frag) : Sp := fun vs H Q _ => ∃ (a : Addr) (cs : List Int), vs = [.ref a] ∧ SqL K H a (cs.map V.int) ∧ cs ≠ [] ∧ (∀ c ∈ cs, 0 < c) ∧ CH.minOf cs ≤ 1000 ∧ RetL ((CH.baseOf cs).map V.int) H Q
theorem cal__law_base_of (T : Tx P K mg) : Cal P w K mg base 2 "_law_base_of" (spBase K) := by
  obtain ⟨f, fd, F, hm⟩ := T.d__law_base_of
  refine ⟨f, fd, ["coins"], F.ok sc__law_base_of (fun vs H Q E h => ?_) (fun cdv A outer s H vs Q E hr h => ?_), hm, F.kp, F.bindsN fun _ _ _ _ _ _ us hl => match us, hl with | [_], _ => rfl⟩
  · obtain ⟨a, cs, rfl, -⟩ := h
    rfl
  · refine ⟨_, ((pss_cons (ps_set (i := 1) sc__law_base_of.nd rfl (by first | exact Or.inl rfl | exact Or.inr rfl) (pe_callB (cr_minK K rfl) (by rfl) T.min (by decide +kernel) (pa_cons (pv 0) pa_nil)))
  (pss_cons (ps_set (i := 2) sc__law_base_of.nd rfl (by first | exact Or.inl rfl | exact Or.inr rfl) (pe_op op_cat (pe_lst (pa_cons pe_int pa_nil)) (pe_op op_rep (pe_lst (pa_cons (pe_un un_neg pe_int) pa_nil)) (pe_op op_sub (pv 1) pe_int))))
  (pss_cons (ps_set (i := 3) sc__law_base_of.nd rfl (by first | exact Or.inl rfl | exact Or.inr rfl) (pe_op op_rep (pe_lst (pa_cons pe_bl pa_nil)) (pv 1)))
  (pss_cons (ps_for PassesOwn.leaving rfl (pi_range1 (by rfl) T.range (pa_cons (pv 1) pa_nil)) (pg_name (i := 4) sc__law_base_of.nd rfl (by first | exact Or.inl rfl | exact Or.inr rfl))
    (pss_cons (ps_set (i := 5) sc__law_base_of.nd rfl (by first | exact Or.inl rfl | exact Or.inr rfl) (pe_cal0 (cal__law_nearest T) hr (by decide) (by rfl) (pa_cons (pv 2) (pa_cons (pv 3) pa_nil))))
    (pss_one (ps_if (pt_cmpR op_ge (pv 5) pe_int (nomark _))
      (pss_cons (ps_asg pe_bl (pg_sub (pv 3) (pv 5) set_list))
      (pss_one (ps_for PassesOwn.leaving rfl (pi_seqK K (pv 0)) (pg_name (i := 6) sc__law_base_of.nd rfl (by first | exact Or.inl rfl | exact Or.inr rfl))
        (pss_cons (ps_set (i := 7) sc__law_base_of.nd rfl (by first | exact Or.inl rfl | exact Or.inr rfl) (pe_op op_mod (pe_op op_add (pv 5) (pv 6)) (pv 1)))
        (pss_one (ps_if (PW.pt (pw_or (pt_cmpR op_lt (pe_ix (ix_listK K) (pv 2) (pv 7) (fun _ _ => rfl)) pe_int (nomark _)) (pw_or1 (pt_cmpR op_gt (pe_ix (ix_listK K) (pv 2) (pv 7) (fun _ _ => rfl)) (pe_op op_add (pe_ix (ix_listK K) (pv 2) (pv 5) (fun _ _ => rfl)) (pv 6)) (nomark _)))))
          (pss_one (ps_asg (pe_op op_add (pe_ix (ix_listK K) (pv 2) (pv 5) (fun _ _ => rfl)) (pv 6)) (pg_sub (pv 2) (pv 7) set_list))) pss_nil)))))) pss_nil))))
  (pss_one (ps_ret (pv 2)))))))), ?_⟩
    obtain ⟨a, cs, rfl, ha, ne, hp, hz, q⟩ := h
    have mp := hp _ (CH.minOf_mem ne)
    obtain ⟨m, hm⟩ : ∃ m : Nat, CH.minOf cs = (m : Int) := ⟨(CH.minOf cs).toNat, by omega⟩
    have hb0 : CH.baseOf cs = (CH.dijRun cs m m).1 := by
      unfold CH.baseOf
      rw [hm, Int.toNat_natCast]
    rw [hb0] at q
    refine q_asg (ev_minL (ev_var rfl) ha ne) fun H1 e1 => ?_
    rw [hm] at mp hz ⊢
    have m0 : 0 < m := by omega
    refine q_asgL (el_cat (el_lst (ea_cons ev_c ea_nil) (by decide)) (el_rep (el_lst (ea_cons (ev_un ev_c ru_neg) ea_nil) (by decide)) (ev_bin (ev_var rfl) ev_c) ⟨by omega, by omega⟩) (by rw [List.length_replicate]; show 1 + _ ≤ _; omega)) fun p H2 n2 e2 h2 => ?_
    have h2 : H2 p = some (.lst ((CH.dijRun cs m 0).1.map V.int)) := by
      rw [h2]
      unfold CH.dijRun
      rw [List.map_cons, List.map_replicate, show ((m : Int) - 1).toNat = m - 1 by omega] <;> rfl
    refine q_asgL (el_rep (el_lst (ea_cons ev_c ea_nil) (by decide)) (ev_var rfl) ⟨by omega, by omega⟩) fun d H3 n3 e3 h3 => ?_
    have h3 : H3 d = some (.lst ((CH.dijRun cs m 0).2.map V.bl)) := by
      rw [h3]
      unfold CH.dijRun
      rw [List.map_replicate, Int.toNat_natCast]
    have np : H p = none := fresh_back e1 n2
    have nd : H d = none := fresh_back (e1.trans e2) n3
    have npd : p ≠ d := fun z => by
      rw [← z, h2] at n3
      cases n3
    refine q_forR1 (n := (m : Int)) (ea_cons (ev_var rfl) ea_nil) ⟨by omega, by omega⟩
      (fun i σ' H' => ∃ x4 x5 x6 x7, σ' = [some (.ref a), some (.int (m : Int)), some (.ref p), some (.ref d), x4, x5, x6, x7] ∧ Ex H H' ∧ H' p = some (.lst ((CH.dijRun cs m i).1.map V.int)) ∧ H' d = some (.lst ((CH.dijRun cs m i).2.map V.bl)))
      (fun H4 e4 => ⟨_, _, _, _, rfl, (e1.trans e2).trans (e3.trans e4), e4 _ _ (e3 _ _ h2), e4 _ _ h3⟩) (fun i σ' H' hi P1 => ?_) (fun σ' H' P1 => ?_)
    · obtain ⟨x4, x5, x6, x7, rfl, ex, hq, hd⟩ := P1
      obtain ⟨l1, l2⟩ := dij_len cs m m0 i
      have es : CH.dijRun cs m (i + 1) = CH.dijStep cs (CH.dijRun cs m i) := rfl
      rw [es]
      generalize CH.dijRun cs m i = S at *
      obtain ⟨B, Dn⟩ := S
      simp only at l1 l2 hq hd
      unfold CH.dijStep
      simp only
      obtain ⟨g1, g2⟩ := near_bounds B Dn B.length
      refine q_asg (v := .int (CH.nearest B Dn)) (ev_callS (ea_cons (ev_var rfl) (ea_cons (ev_var rfl) ea_nil)) fun H4 e4 Q4 q4 => ⟨p, d, B, Dn, rfl, sq_of (e4 _ _ hq), sq_of (e4 _ _ hd), by omega, by omega, q4⟩) fun H4 e4 => ?_
      have gg : CH.nearest B Dn = (List.range B.length).foldl (CH.nearStep B Dn) (-1) := rfl
      rw [← gg] at g1 g2
      generalize CH.nearest B Dn = h at *
      refine s_when (b := decide (0 ≤ h)) (et_test (ev_bin (ev_var rfl) ev_c)) (fun hb H5 e5 => ?_) (fun hb H5 e5 => ?_)
      · have hb := of_decide_eq_true hb
        rw [if_pos hb]
        obtain ⟨k, rfl⟩ : ∃ k : Nat, h = (k : Int) := ⟨h.toNat, by omega⟩
        rw [Int.toNat_natCast]
        have hq5 := e5 _ _ (e4 _ _ hq)
        have hd5 := e5 _ _ (e4 _ _ hd)
        refine q_setL (j := k) hd5 ev_c (ev_var rfl) (ev_var rfl) (by rw [len_mapB]; omega) fun H6 e6 => ?_
        have hq6 : (upd H6 d (.lst ((Dn.map V.bl).set k (.bl true)))) p = some (.lst (B.map V.int)) := by
          rw [upd_ne npd]
          exact e6 _ _ hq5
        have hd6 : (upd H6 d (.lst ((Dn.map V.bl).set k (.bl true)))) d = some (.lst ((Dn.set k true).map V.bl)) := by
          rw [upd_same, List.map_set]
        have ex6 := Ex.mut (o := .lst ((Dn.map V.bl).set k (.bl true))) (ex.trans (e4.trans (e5.trans e6))) nd
        generalize upd H6 d _ = H7 at hq6 hd6 ex6 ⊢
        refine s_forSn (H0 := H) (ev_var rfl) (.inl ha) ex6 (fun j σ' H' => ∃ x6 x7, σ' = [some (.ref a), some (.int (m : Int)), some (.ref p), some (.ref d), some (.int (i : Int)), some (.int (k : Int)), x6, x7] ∧ Ex H H' ∧ H' p = some (.lst (((cs.take j).foldl (CH.rel1 k) B).map V.int)) ∧ H' d = some (.lst ((Dn.set k true).map V.bl)))
          (fun H8 e8 => ⟨_, _, rfl, ex6.trans e8, e8 _ _ hq6, e8 _ _ hd6⟩) (fun j σ' H' P2 => P2.choose_spec.choose_spec.2.1) (fun j x σ' H' hx P2 => ?_) (fun σ' H' P2 => ?_)
        · obtain ⟨x6, x7, rfl, ex2, hq2, hd2⟩ := P2
          obtain ⟨c, hc, rfl⟩ := at_map hx
          have hl2 := rels_len k (cs.take j) B
          have es2 : (cs.take (j + 1)).foldl (CH.rel1 k) B = CH.rel1 k ((cs.take j).foldl (CH.rel1 k) B) c := by rw [take_snoc hc, List.foldl_append] <;> rfl
          rw [es2]
          generalize (cs.take j).foldl (CH.rel1 k) B = B2 at *
          have i0 := Int.emod_nonneg ((k : Int) + c) (b := (m : Int)) (by omega)
          have i1 := Int.emod_lt_of_pos ((k : Int) + c) (b := (m : Int)) (by omega)
          unfold CH.rel1
          rw [show (B2.length : Int) = (m : Int) by omega]
          refine q_asg (ev_binC (ev_bin (ev_var rfl) (ev_var rfl)) (ev_var rfl) (by omega)) fun H9 e9 => ?_
          have hq9 := e9 _ _ hq2
          have hd9 := e9 _ _ hd2
          generalize ((k : Int) + c) % (m : Int) = th at *
          have vth : ∀ {H}, Ex H9 H → Ev (tOp (rIxL K) (tVar 2) (tVar 7)) [some (.ref a), some (.int (m : Int)), some (.ref p), some (.ref d), some (.int (i : Int)), some (.int (k : Int)), some (.int c), some (.int th)] H (.int (CH.nth B2 th.toNat)) := fun e => ev_ixL (ev_var rfl) (ev_var rfl) (sq_of (e _ _ hq9)) (at_nth (by omega) (by omega))
          have vhe : ∀ {H}, Ex H9 H → Ev (tOp (rIxL K) (tVar 2) (tVar 5)) [some (.ref a), some (.int (m : Int)), some (.ref p), some (.ref d), some (.int (i : Int)), some (.int (k : Int)), some (.int c), some (.int th)] H (.int (CH.nth B2 k)) := fun e => ev_is (ev_ixL (ev_var rfl) (ev_var rfl) (sq_of (e _ _ hq9)) (at_nth (by omega) (by omega))) (by rw [Int.toNat_natCast])
          refine s_when (b := decide (CH.nth B2 th.toNat < 0) || decide (CH.nth B2 k + c < CH.nth B2 th.toNat)) (et_or (et_test (ev_bin (vth (Ex.refl _)) ev_c)) fun _ => et_test (ev_bin (vth (Ex.refl _)) (ev_bin (vhe (Ex.refl _)) (ev_var rfl)))) (fun hc1 H10 e10 => ?_) (fun hc1 H10 e10 => ?_)
          · have hc1 : CH.nth B2 th.toNat < 0 ∨ CH.nth B2 k + c < CH.nth B2 th.toNat := by simpa using hc1
            rw [if_pos hc1]
            refine s_setL (j := th.toNat) (e10 _ _ hq9) (ev_bin (vhe e10) (ev_var rfl)) (ev_var rfl) (ev_is (ev_var rfl) (by rw [Int.toNat_of_nonneg i0])) (by rw [len_map]; omega) fun H11 e11 => ?_
            refine ⟨some (.int c), some (.int th), rfl, Ex.mut (ex2.trans (e9.trans (e10.trans e11))) np, ?_, ?_⟩
            · rw [upd_same, List.map_set]
            · rw [upd_ne (Ne.symm npd)]
              exact e11 _ _ (e10 _ _ hd9)
          · have hc1 : ¬ (CH.nth B2 th.toNat < 0 ∨ CH.nth B2 k + c < CH.nth B2 th.toNat) := by
              intro z
              have : (decide (CH.nth B2 th.toNat < 0) || decide (CH.nth B2 k + c < CH.nth B2 th.toNat)) = true := by simpa using z
              rw [hc1] at this
              cases this
            rw [if_neg hc1]
            exact ⟨some (.int c), some (.int th), rfl, ex2.trans (e9.trans e10), e10 _ _ hq9, e10 _ _ hd9⟩
        · obtain ⟨x6, x7, rfl, ex2, hq2, hd2⟩ := P2
          rw [len_map, List.take_length] at hq2
          exact ⟨_, _, _, _, rfl, ex2, hq2, hd2⟩
      · have hb := of_decide_eq_false hb
        rw [if_neg hb]
        exact ⟨_, _, _, _, rfl, ex.trans (e4.trans e5), e5 _ _ (e4 _ _ hq), e5 _ _ (e4 _ _ hd)⟩
    · obtain ⟨x4, x5, x6, x7, rfl, ex, hq, hd⟩ := P1
      rw [Int.toNat_natCast] at hq
      exact s_ret (v := .ref p) (ev_var rfl) fun H4 e4 => q p H4 np (ex.trans e4) (e4 _ _ hq)
end CHX

namespace CHX
open PySem PySem.Spec PyProof.Rows L2 Evl
variable {P : Program} {w : World} {K : PySem.W.Frag} {mg : Str → Option Value} {base : Heap}
theorem range_snoc {α : Type} (f : Nat → α) (g : α → Bool) (i : Nat) : (((List.range (i + 1)).map f).filter g) = ((List.range i).map f).filter g ++ (if g (f i) = true then [f i] else []) := by
  rw [List.range_succ, List.map_append, List.filter_append, List.map_singleton]
  congr 1
  cases h : g (f i) <;> simp [h]
/-! ### _law_due_pseudo -/
def spDue (K : PySem.W.Frag) : Sp := fun vs H Q _ => ∃ (a : Addr) (m : List Bool) (least last : Int), vs = [.ref a, .int least, .int last] ∧ SqL K H a (m.map V.bl) ∧ 1 ≤ least ∧ -1 ≤ last ∧ last + least + 2 < m.length ∧ m.length ≤ 30000 ∧ RetL ((CH.duePseudo m least last).map V.int) H Q
theorem cal__law_due_pseudo (T : Tx P K mg) : Cal P w K mg base 1 "_law_due_pseudo" (spDue K) := by
  obtain ⟨f, fd, F, hm⟩ := T.d__law_due_pseudo
  refine ⟨f, fd, ["made", "least", "last"], F.ok sc__law_due_pseudo (fun vs H Q E h => ?_) (fun cdv A outer s H vs Q E hr h => ?_), hm, F.kp, F.bindsN fun _ _ _ _ _ _ us hl => match us, hl with | [_, _, _], _ => rfl⟩
  · obtain ⟨a, m, least, last, rfl, -⟩ := h
    rfl
  · refine ⟨_, ((pss_cons (ps_set (i := 3) sc__law_due_pseudo.nd rfl (by first | exact Or.inl rfl | exact Or.inr rfl) (pe_lst pa_nil))
  (pss_cons (ps_for PassesOwn.leaving rfl (pi_range2 (by rfl) T.range (pa_cons (pe_op op_sub (pe_op op_sub pe_int (pv 1)) pe_int) (pa_cons (pe_op op_add (pv 2) pe_int) pa_nil))) (pg_name (i := 4) sc__law_due_pseudo.nd rfl (by first | exact Or.inl rfl | exact Or.inr rfl))
    (pss_one (ps_if (PW.pt (pw_or (pt_cmpR op_lt (pv 4) pe_int (nomark _)) (pw_or1 (pt_not (pt_val (pe_ix (ix_listK K) (pv 0) (pv 4) (fun _ _ => rfl)))))))
      (pss_cons (ps_setLc (i := 5) (own := [("n", 6)]) (g := gName 6) (tt := _) rfl sc__law_due_pseudo.nd rfl rfl (sw_true rfl rfl rfl (by decide +kernel)) (pi_range2 (by rfl) T.range (pa_cons pe_int (pa_cons (pe_op op_add (pe_op op_sub (pv 2) (pv 4)) pe_int) pa_nil))) (blkOk_by (own := [("n", 6)]) (by kernel_rfl)) (fun _ _ _ _ _ => pg_name (i := 6) sc__law_due_pseudo.nd rfl (by first | exact Or.inl rfl | exact Or.inr rfl)) (fun _ _ _ _ _ => pts_one (pt_val (pe_ix (ix_listK K) (pv 0) (pv 6) (fun _ _ => rfl)))) (fun _ _ _ _ _ => pe_op op_add (pv 4) (pv 6)))
      (pss_one (ps_if (pt_val (pe_callB (cr_allK K rfl) (by rfl) T.all (by decide +kernel) (pa_cons (pe_lc (own := [("total", 7)]) (g := gName 7) (tt := tYes) rfl sc__law_due_pseudo.nd (pi_seqK K (pv 5)) (blkOk_by (own := [("total", 7)]) (by kernel_rfl)) (fun _ _ _ _ _ => pg_name (i := 7) sc__law_due_pseudo.nd rfl (by first | exact Or.inl rfl | exact Or.inr rfl)) (fun _ _ _ _ _ => pts_nil) (fun _ _ _ _ _ => pe_and (pe_cmpR op_ge (pv 7) pe_int (nomark _)) (pe_one (pe_ix (ix_listK K) (pv 0) (pv 7) (fun _ _ => rfl))))) pa_nil)))
        (pss_one (ps_expr (pe_bm PySem.F.plainAttrs_list PySem.F.slot_list_append PySem.F.type_list_append (mt_append) (pv 3) (pa_cons (pv 4) pa_nil)))) pss_nil))) pss_nil)))
  (pss_one (ps_ret (pv 3)))))), ?_⟩
    obtain ⟨a, m, least, last, rfl, ha, h1, h2, h3, h4, q⟩ := h
    refine q_asgL (el_lst ea_nil (by decide)) fun p H1 n1 e1 hp => ?_
    refine q_forR2z (lo := 0 - least - 2) (n := last + 1) (ea_cons (ev_bin (ev_bin ev_c (ev_var rfl)) ev_c) (ea_cons (ev_bin (ev_var rfl) ev_c) ea_nil)) ⟨by omega, by omega, by omega, by omega⟩
      (fun i σ' H' => ∃ x4 x5 x6 x7, σ' = [some (.ref a), some (.int least), some (.int last), some (.ref p), x4, x5, x6, x7] ∧ Ex H H' ∧ H' p = some (.lst ((((List.range i).map fun (k : Nat) => 0 - least - 2 + (k : Int)).filter (CH.dueB m last)).map V.int)))
      (fun H2 e2 => ⟨_, _, _, _, rfl, e1.trans e2, e2 p _ hp⟩) (fun i σ' H' hi P1 => ?_) (fun σ' H' P1 => ?_)
    · obtain ⟨x4, x5, x6, x7, rfl, ex, hq⟩ := P1
      have flen : (((List.range i).map fun (k : Nat) => 0 - least - 2 + (k : Int)).filter (CH.dueB m last)).length ≤ 40000 := by
        refine Nat.le_trans (List.length_filter_le _ _) ?_
        rw [List.length_map, List.length_range]
        omega
      rw [range_snoc]
      generalize ((List.range i).map fun (k : Nat) => 0 - least - 2 + (k : Int)).filter (CH.dueB m last) = fs at *
      have hz : 0 - least - 2 + (i : Int) ≤ last := by omega
      have hz0 : 0 - least - 2 ≤ 0 - least - 2 + (i : Int) := by omega
      generalize 0 - least - 2 + (i : Int) = z at *
      refine s_when (b := decide (z < 0) || !CH.bget m z.toNat) (et_or (et_test (ev_bin (ev_var rfl) ev_c)) fun hn => ?_) (fun hb H2 e2 => ?_) (fun hb H2 e2 => ?_)
      · have hn := of_decide_eq_false hn
        exact et_not (et_B (ev_ixL (ev_var rfl) (ev_var rfl) (ex_l ex ha) (at_b (by omega) (by omega))))
      · have ex2 := ex.trans e2
        refine q_asgL (xs := (((CH.zrange 1 (last - z + 1)).filter fun n => CH.bget m n.toNat).map fun n => z + n).map V.int) ?_ fun u H3 n3 e3 h3' => ?_
        · rw [List.map_map]
          refine el_lcR2 _ _ (ea_cons ev_c (ea_cons (ev_bin (ev_bin (ev_var rfl) (ev_var rfl)) ev_c) ea_nil)) ⟨by omega, by omega, by omega, by omega, by omega⟩ (fun _ => rfl) (fun n H3 e3 l1 l2 => ?_) (fun n H3 e3 l1 l2 _ => ev_bin (ev_var rfl) (ev_var rfl))
          exact et_B (ev_ixL (ev_var rfl) (ev_var rfl) (ex_l (ex2.trans e3) ha) (at_b (by omega) (by omega)))
        · have ex3 := ex2.trans e3
          have slen : (((CH.zrange 1 (last - z + 1)).filter fun n => CH.bget m n.toNat).map fun n => z + n).length ≤ 40000 := by
            rw [List.length_map]
            refine Nat.le_trans (List.length_filter_le _ _) ?_
            unfold CH.zrange
            rw [List.length_map, List.length_range]
            omega
          have sin : ∀ x ∈ ((CH.zrange 1 (last - z + 1)).filter fun n => CH.bget m n.toNat).map (fun n => z + n), x ≤ last := fun x hx => by
            obtain ⟨n, hn, rfl⟩ := List.mem_map.mp hx
            have := CH.mem_zrange.mp (List.mem_filter.mp hn).1
            omega
          have eD : CH.dueB m last z = (((CH.zrange 1 (last - z + 1)).filter fun n => CH.bget m n.toNat).map fun n => z + n).all fun t => decide (0 ≤ t) && CH.bget m t.toNat := by
            unfold CH.dueB
            rw [hb, Bool.true_and, List.all_map] <;> rfl
          rw [eD]
          generalize ((CH.zrange 1 (last - z + 1)).filter fun n => CH.bget m n.toNat).map (fun n => z + n) = ts at *
          refine s_when (b := ts.all fun t => decide (0 ≤ t) && CH.bget m t.toNat) (et_B (ev_is (ev_all (bs := ts.map fun t => decide (0 ≤ t) && CH.bget m t.toNat) ?_) (by rw [List.all_map] <;> rfl))) (fun hc H4 e4 => ?_) (fun hc H4 e4 => ?_)
          · rw [List.map_map]
            refine el_lcM ts V.int _ (ev_var rfl) (.inl (sq_of h3')) slen (fun _ => rfl) fun t ht H5 e5 => ev_andV (ev_bin (ev_var rfl) ev_c) fun hd => ?_
            have hd := of_decide_eq_true hd
            have := sin t ht
            exact ev_ixL (ev_var rfl) (ev_var rfl) (ex_l (ex3.trans e5) ha) (at_b hd (by omega))
          · refine s_app (e4 _ _ (e3 _ _ (e2 _ _ hq))) (ev_var rfl) (ev_var rfl) (by rw [List.length_map]; omega) fun H5 e5 => ?_
            refine ⟨_, _, _, _, rfl, Ex.mut (ex3.trans (e4.trans e5)) n1, ?_⟩
            rw [upd_same, if_pos hc, List.map_append] <;> rfl
          · refine ⟨_, _, _, _, rfl, ex3.trans e4, ?_⟩
            rw [if_neg (by rw [hc]; decide), List.append_nil]
            exact e4 _ _ (e3 _ _ (e2 _ _ hq))
      · refine ⟨_, _, _, _, rfl, ex.trans e2, ?_⟩
        have eD : CH.dueB m last z = false := by
          unfold CH.dueB
          rw [hb, Bool.false_and]
        rw [eD, if_neg (by decide), List.append_nil]
        exact e2 _ _ hq
    · obtain ⟨x4, x5, x6, x7, rfl, ex, hq⟩ := P1
      exact s_ret (v := .ref p) (ev_var rfl) fun H2 e2 => q p H2 n1 (ex.trans e2) (e2 p _ hq)
/-! ### _law_far_pseudo -/
def fpB (base cs : List Int) (z : Int) : Bool := cs.all fun c => !decide (CH.nth base ((z + c) % (base.length : Int)).toNat > z + c)
theorem farPseudo_eq (base cs : List Int) : CH.farPseudo base cs = CH.isort ((base.map fun e => e - (base.length : Int)).filter (fpB base cs)) := by
  unfold CH.farPseudo
  rw [List.filter_map] <;> rfl
theorem filter_snoc {xs : List Int} {i : Nat} {x : Int} (h : xs[i]? = some x) (f : Int → Int) (g : Int → Bool) : (((xs.take (i + 1)).map f).filter g) = ((xs.take i).map f).filter g ++ (if g (f x) = true then [f x] else []) := by
  rw [take_snoc h, List.map_append, List.filter_append, List.map_singleton]
  congr 1
  cases h : g (f x) <;> simp [h]
def spFarPseudo (K : PySem.W.Frag) : Sp := fun vs H Q _ => ∃ (a b : Addr) (bs cs : List Int), vs = [.ref a, .ref b] ∧ SqL K H a (bs.map V.int) ∧ SqL K H b (cs.map V.int) ∧ 0 < bs.length ∧ bs.length ≤ 1000 ∧ RetL ((CH.farPseudo bs cs).map V.int) H Q
theorem cal__law_far_pseudo (T : Tx P K mg) : Cal P w K mg base 1 "_law_far_pseudo" (spFarPseudo K) := by
  obtain ⟨f, fd, F, hm⟩ := T.d__law_far_pseudo
  refine ⟨f, fd, ["base", "coins"], F.ok sc__law_far_pseudo (fun vs H Q E h => ?_) (fun cdv A outer s H vs Q E hr h => ?_), hm, F.kp, F.bindsN fun _ _ _ _ _ _ us hl => match us, hl with | [_, _], _ => rfl⟩
  · obtain ⟨a, b, bs, cs, rfl, -⟩ := h
    rfl
  · refine ⟨_, ((pss_cons (ps_set (i := 2) sc__law_far_pseudo.nd rfl (by first | exact Or.inl rfl | exact Or.inr rfl) (pe_callB (call_lenK K) (by rfl) T.len boot_len (pa_cons (pv 0) pa_nil)))
  (pss_cons (ps_set (i := 3) sc__law_far_pseudo.nd rfl (by first | exact Or.inl rfl | exact Or.inr rfl) (pe_lst pa_nil))
  (pss_cons (ps_for PassesOwn.leaving rfl (pi_seqK K (pv 0)) (pg_name (i := 4) sc__law_far_pseudo.nd rfl (by first | exact Or.inl rfl | exact Or.inr rfl))
    (pss_cons (ps_set (i := 5) sc__law_far_pseudo.nd rfl (by first | exact Or.inl rfl | exact Or.inr rfl) (pe_op op_sub (pv 4) (pv 2)))
    (pss_cons (ps_set (i := 6) sc__law_far_pseudo.nd rfl (by first | exact Or.inl rfl | exact Or.inr rfl) pe_bl)
    (pss_cons (ps_for PassesOwn.leaving rfl (pi_seqK K (pv 1)) (pg_name (i := 7) sc__law_far_pseudo.nd rfl (by first | exact Or.inl rfl | exact Or.inr rfl))
      (pss_one (ps_if (pt_cmpR op_gt (pe_ix (ix_listK K) (pv 0) (pe_op op_mod (pe_callTy call_int1 (by rfl) T.int (by decide +kernel) (pa_cons (pe_op op_add (pv 5) (pv 7)) pa_nil)) (pv 2)) (fun _ _ => rfl)) (pe_op op_add (pv 5) (pv 7)) (nomark _))
        (pss_one (ps_set (i := 6) sc__law_far_pseudo.nd rfl (by first | exact Or.inl rfl | exact Or.inr rfl) pe_bl)) pss_nil)))
    (pss_one (ps_if (pt_val (pv 6))
      (pss_one (ps_expr (pe_bm PySem.F.plainAttrs_list PySem.F.slot_list_append PySem.F.type_list_append (mt_append) (pv 3) (pa_cons (pv 5) pa_nil)))) pss_nil))))))
  (pss_one (ps_ret (pe_callB (cr_sortedK K) (by rfl) T.sorted (by decide +kernel) (pa_cons (pv 3) pa_nil)))))))), ?_⟩
    obtain ⟨a, b, bs, cs, rfl, ha, hb, h0, hz, q⟩ := h
    rw [farPseudo_eq] at q
    refine q_asg (ev_lenQ (ev_var rfl) (.inl ha)) fun H1 e1 => ?_
    rw [len_map]
    refine q_asgL (el_lst ea_nil (by decide)) fun p H2 n2 e2 hp => ?_
    have np : H p = none := fresh_back e1 n2
    refine q_forSn (H0 := H) (ev_var rfl) (.inl ha) (e1.trans e2) (fun i σ' H' => ∃ x4 x5 x6 x7, σ' = [some (.ref a), some (.ref b), some (.int (bs.length : Int)), some (.ref p), x4, x5, x6, x7] ∧ Ex H H' ∧ H' p = some (.lst ((((bs.take i).map fun e => e - (bs.length : Int)).filter (fpB bs cs)).map V.int)))
      (fun H3 e3 => ⟨_, _, _, _, rfl, (e1.trans e2).trans e3, e3 p _ hp⟩) (fun i σ' H' P1 => P1.choose_spec.choose_spec.choose_spec.choose_spec.2.1) (fun i x σ' H' hx P1 => ?_) (fun σ' H' P1 => ?_)
    · obtain ⟨x4, x5, x6, x7, rfl, ex, hq⟩ := P1
      have hi : i < bs.length := by
        have := (List.getElem?_eq_some_iff.mp hx).1
        rw [len_map] at this
        exact this
      obtain ⟨e, he, rfl⟩ := at_map hx
      have flen : (((bs.take i).map fun e => e - (bs.length : Int)).filter (fpB bs cs)).length ≤ 1000 := by
        refine Nat.le_trans (List.length_filter_le _ _) ?_
        rw [List.length_map, List.length_take]
        omega
      rw [filter_snoc he]
      generalize ((bs.take i).map fun e => e - (bs.length : Int)).filter (fpB bs cs) = fs at *
      refine q_asg (ev_bin (ev_var rfl) (ev_var rfl)) fun H3 e3 => ?_
      refine q_asg ev_c fun H4 e4 => ?_
      generalize e - (bs.length : Int) = z at *
      refine q_forSn (H0 := H) (ev_var rfl) (.inl hb) (ex.trans (e3.trans e4)) (fun k σ' H' => ∃ x7, σ' = [some (.ref a), some (.ref b), some (.int (bs.length : Int)), some (.ref p), some (.int e), some (.int z), some (.bl (fpB bs (cs.take k) z)), x7] ∧ Ex H H' ∧ H' p = some (.lst (fs.map V.int)))
        (fun H5 e5 => ⟨_, rfl, (ex.trans (e3.trans e4)).trans e5, e5 _ _ (e4 _ _ (e3 _ _ hq))⟩) (fun k σ' H' P2 => P2.choose_spec.2.1) (fun k x σ' H' hx P2 => ?_) (fun σ' H' P2 => ?_)
      · obtain ⟨x7, rfl, ex2, hq2⟩ := P2
        obtain ⟨c, hc, rfl⟩ := at_map hx
        have es : fpB bs (cs.take (k + 1)) z = (fpB bs (cs.take k) z && !decide (CH.nth bs ((z + c) % (bs.length : Int)).toNat > z + c)) := by
          unfold fpB
          rw [take_snoc hc, List.all_append, List.all_cons, List.all_nil, Bool.and_true]
        rw [es]
        have hp0 : (0 : Int) < (bs.length : Int) := by omega
        refine s_when (b := decide (z + c < CH.nth bs ((z + c) % (bs.length : Int)).toNat)) (et_test (ev_bin (ev_ixL (ev_var rfl) (ev_binC (ev_int (ev_bin (ev_var rfl) (ev_var rfl))) (ev_var rfl) hp0) (ex_l ex2 ha) (at_mod _ h0)) (ev_bin (ev_var rfl) (ev_var rfl)))) (fun hc1 H5 e5 => ?_) (fun hc1 H5 e5 => ?_)
        · refine s_asg ev_c fun H6 e6 => ⟨some (.int c), ?_, ex2.trans (e5.trans e6), e6 _ _ (e5 _ _ hq2)⟩
          have h' : decide (CH.nth bs ((z + c) % (bs.length : Int)).toNat > z + c) = true := hc1
          rw [h', Bool.not_true, Bool.and_false] <;> rfl
        · refine ⟨some (.int c), ?_, ex2.trans e5, e5 _ _ hq2⟩
          have h' : decide (CH.nth bs ((z + c) % (bs.length : Int)).toNat > z + c) = false := hc1
          rw [h', Bool.not_false, Bool.and_true] <;> rfl
      · obtain ⟨x7, rfl, ex2, hq2⟩ := P2
        rw [len_map, List.take_length]
        refine s_when (b := fpB bs cs z) (et_B (ev_var rfl)) (fun hc1 H5 e5 => ?_) (fun hc1 H5 e5 => ?_)
        · refine s_app (e5 _ _ hq2) (ev_var rfl) (ev_var rfl) (by rw [List.length_map]; omega) fun H6 e6 => ?_
          refine ⟨_, _, _, _, rfl, Ex.mut (ex2.trans (e5.trans e6)) np, ?_⟩
          rw [upd_same, if_pos hc1, List.map_append] <;> rfl
        · refine ⟨_, _, _, _, rfl, ex2.trans e5, ?_⟩
          rw [if_neg (by rw [hc1]; decide), List.append_nil]
          exact e5 _ _ hq2
    · obtain ⟨x4, x5, x6, x7, rfl, ex, hq⟩ := P1
      rw [len_map, List.take_length] at hq
      exact s_retL (el_sortL (ev_var rfl) (sq_of hq)) fun u H3 n3 e3 h3 => q u H3 (fresh_back ex n3) (ex.trans e3) h3
/-! ### _law_below -/
def spBelow (K : PySem.W.Frag) : Sp := fun vs H Q _ => ∃ (a b : Addr) (m : List Bool) (due : List Int) (last : Int), vs = [.ref a, .ref b, .int last] ∧ SqL K H a (m.map V.bl) ∧ SqL K H b (due.map V.int) ∧ (∀ z ∈ due, z ≤ last) ∧ due.length ≤ 1000 ∧ -1 ≤ last ∧ last < m.length ∧ m.length ≤ 30000 ∧ RetV (.bl (CH.belowB m due last)) H Q
theorem below_at {m : List Bool} {due : List Int} {last : Int} : CH.belowB m due last = (List.range (last + 1 - 1).toNat).all fun (i : Nat) => CH.bget m (1 + (i : Int)).toNat || due.any fun z => decide (1 + (i : Int) ≤ z) && CH.bget m (z - (1 + (i : Int))).toNat := by
  unfold CH.belowB CH.zrange
  rw [List.all_map] <;> rfl
theorem cal__law_below (T : Tx P K mg) : Cal P w K mg base 1 "_law_below" (spBelow K) := by
  obtain ⟨f, fd, F, hm⟩ := T.d__law_below
  refine ⟨f, fd, ["made", "due", "last"], F.ok sc__law_below (fun vs H Q E h => ?_) (fun cdv A outer s H vs Q E hr h => ?_), hm, F.kp, F.bindsN fun _ _ _ _ _ _ us hl => match us, hl with | [_, _, _], _ => rfl⟩
  · obtain ⟨a, b, m, due, last, rfl, -⟩ := h
    rfl
  · refine ⟨_, ((pss_cons (ps_for PassesOwn.leaving rfl (pi_range2 (by rfl) T.range (pa_cons pe_int (pa_cons (pe_op op_add (pv 2) pe_int) pa_nil))) (pg_name (i := 3) sc__law_below.nd rfl (by first | exact Or.inl rfl | exact Or.inr rfl))
    (pss_one (ps_if (pt_not (pt_val (pe_ix (ix_listK K) (pv 0) (pv 3) (fun _ _ => rfl))))
      (pss_cons (ps_setLc (i := 4) (own := [("z", 5)]) (g := gName 5) (tt := _) rfl sc__law_below.nd rfl rfl (sw_true rfl rfl rfl (by decide +kernel)) (pi_seqK K (pv 1)) (blkOk_by (own := [("z", 5)]) (by kernel_rfl)) (fun _ _ _ _ _ => pg_name (i := 5) sc__law_below.nd rfl (by first | exact Or.inl rfl | exact Or.inr rfl)) (fun _ _ _ _ _ => pts_one (PW.pt (pw_and (pt_cmpR op_ge (pv 5) (pv 3) (nomark _)) (pw_and1 (pt_val (pe_ix (ix_listK K) (pv 0) (pe_op op_sub (pv 5) (pv 3)) (fun _ _ => rfl))))))) (fun _ _ _ _ _ => pv 5))
      (pss_one (ps_if (pt_cmpR (op_eqD hr.units) (pv 4) (pe_lst pa_nil) (nomark _))
        (pss_one (ps_ret pe_bl)) pss_nil))) pss_nil)))
  (pss_one (ps_ret pe_bl)))), ?_⟩
    obtain ⟨a, b, m, due, last, rfl, ha, hb, hd, hz, l1, l2, l3, q⟩ := h
    rw [below_at] at q
    refine q_forR2z (lo := 1) (n := last + 1) (ea_cons ev_c (ea_cons (ev_bin (ev_var rfl) ev_c) ea_nil)) ⟨by omega, by omega, by omega, by omega⟩
      (fun i σ' H' => ∃ x3 x4 x5, σ' = [some (.ref a), some (.ref b), some (.int last), x3, x4, x5] ∧ Ex H H' ∧ ((List.range i).all fun (i : Nat) => CH.bget m (1 + (i : Int)).toNat || due.any fun z => decide (1 + (i : Int) ≤ z) && CH.bget m (z - (1 + (i : Int))).toNat) = true)
      (fun H2 e2 => ⟨_, _, _, rfl, e2, rfl⟩) (fun i σ' H' hi P1 => ?_) (fun σ' H' P1 => ?_)
    · obtain ⟨x3, x4, x5, rfl, ex, hq⟩ := P1
      refine s_when (b := !CH.bget m (1 + (i : Int)).toNat) (et_not (et_B (ev_ixL (ev_var rfl) (ev_var rfl) (ex_l ex ha) (at_b (by omega) (by omega))))) (fun hb1 H2 e2 => ?_) (fun hb1 H2 e2 => ?_)
      · refine q_asgL (xs := (due.filter fun z => decide (1 + (i : Int) ≤ z) && CH.bget m (z - (1 + (i : Int))).toNat).map V.int) ?_ fun u H3 n3 e3 h3 => ?_
        · refine el_lcD due V.int _ V.int (ev_var rfl) (.inl (ex_l (ex.trans e2) hb)) (by omega) (fun _ => rfl) (fun z hz1 H3 e3 => et_and (et_test (ev_bin (ev_var rfl) (ev_var rfl))) fun h1 => ?_) (fun z hz1 H3 e3 _ => ev_var rfl)
          have h1 := of_decide_eq_true h1
          have := hd z hz1
          exact et_B (ev_ixL (ev_var rfl) (ev_bin (ev_var rfl) (ev_var rfl)) (ex_l ((ex.trans e2).trans e3) ha) (at_b (by omega) (by omega)))
        · have ex3 := (ex.trans e2).trans e3
          have nb : CH.bget m (1 + (i : Int)).toNat = false := by simpa using hb1
          refine s_when (b := decide ((due.filter fun z => decide (1 + (i : Int) ≤ z) && CH.bget m (z - (1 + (i : Int))).toNat) = [])) (et_test (ev_eqNil (ev_var rfl) (sq_of h3))) (fun hc H4 e4 => ?_) (fun hc H4 e4 => ?_)
          · have hc := of_decide_eq_true hc
            refine s_ret (ev_is ev_c ?_) fun H5 e5 => q H5 (ex3.trans (e4.trans e5))
            congr 1
            symm
            rw [List.all_eq_false]
            refine ⟨i, List.mem_range.mpr (by omega), ?_⟩
            rw [nb, Bool.false_or]
            intro z
            obtain ⟨y, hy, h2⟩ := List.any_eq_true.mp z
            have : y ∈ due.filter fun z => decide (1 + (i : Int) ≤ z) && CH.bget m (z - (1 + (i : Int))).toNat := List.mem_filter.mpr ⟨hy, h2⟩
            rw [hc] at this
            cases this
          · have hc := of_decide_eq_false hc
            refine ⟨_, _, _, rfl, ex3.trans e4, ?_⟩
            rw [List.range_succ, List.all_append, hq, Bool.true_and, List.all_cons, List.all_nil, Bool.and_true, nb, Bool.false_or]
            obtain ⟨y, hy⟩ := List.exists_mem_of_ne_nil _ hc
            exact List.any_eq_true.mpr ⟨y, (List.mem_filter.mp hy).1, (List.mem_filter.mp hy).2⟩
      · have nb : CH.bget m (1 + (i : Int)).toNat = true := by simpa using hb1
        refine ⟨_, _, _, rfl, ex.trans e2, ?_⟩
        rw [List.range_succ, List.all_append, hq, Bool.true_and, List.all_cons, List.all_nil, Bool.and_true, nb, Bool.true_or]
    · obtain ⟨x3, x4, x5, rfl, ex, hq⟩ := P1
      rw [hq] at q
      exact s_ret ev_c fun H3 e3 => q H3 (ex.trans e3)
end CHX

namespace CHX
open PySem PySem.Spec PyProof.Rows L2 L2H Evl
variable {P : Program} {w : World} {K : PySem.W.Frag} {mg : Str → Option Value} {base : Heap}
theorem call_isPK {X : Cx} {p : Addr × Obj} {D dd : Addr} (K : PySem.W.Frag) (hp : p ∈ X.pn) (pi : PinIs p D dd) (C : L2.ExcC K D) (hK : X.K = K := by rfl) : CallR X (.builtin "isinstance") (rIsP K p D dd) := by subst hK; exact call_isP hp pi C
theorem ev_isP {σ : L2.St} {H : Hp} {ta : TE} {p : Addr × Obj} {D dd c : Addr} {fs : List (Str × V)} {b : Bool} (ha : Ev ta σ H (.ref p.1)) (hd : H dd = some (.xd fs)) (hk : PySem.W.kitOne K (.ref D) (.ref c) = some b) :
    Ev (tCB (rIsP K p D dd) (tCons ta (tCons (tC (.ref c)) tNil))) σ H (.bl b) := fun H1 e Q q => ha H1 e _ fun H2 e2 => ⟨.ref c, .ref c, b, fs, rfl, e2 _ _ (e _ _ hd), fun u h => h, hk, q H2 e2⟩
theorem ev_isVE {σ : L2.St} {H : Hp} {ta : TE} {p : Addr × Obj} {D dd : Addr} {fs : List (Str × V)} {b : Bool} (ha : Ev ta σ H (.ref p.1)) (hd : H dd = some (.xd fs)) (hk : PySem.W.kitOne K (.ref D) (.type "ValueError") = some b) :
    Ev (tCB (rIsP K p D dd) (tCons ta (tCons (tC (.ty "ValueError")) tNil))) σ H (.bl b) := fun H1 e Q q => ha H1 e _ fun H2 e2 => ⟨.ty "ValueError", .type "ValueError", b, fs, rfl, e2 _ _ (e _ _ hd), fun u h => h, hk, q H2 e2⟩
theorem ev_xp {σ : L2.St} {H : Hp} {ta : TE} {p : Addr × Obj} {dd : Addr} {f : Str} {fs : List (Str × V)} {v : V} (ha : Ev ta σ H (.ref p.1)) (hd : H dd = some (.xd fs)) (hl : fs.lookup f = some v) : Ev (tXp p dd f ta) σ H v := fun H1 e Q q =>
  ha H1 e _ fun H2 e2 => ⟨rfl, fs, v, e2 _ _ (e _ _ hd), hl, q H2 e2⟩
/-! ### _law_classes -/
def spClasses (K : PySem.W.Frag) : Addr × Obj → Sp := fun p vs H Q _ => ∃ (t : PySem.Str × PySem.Str × PySem.Str) (dd : Addr) (fs : List (Str × V)), vs = [.ref p.1] ∧ t ∈ xTab ∧ PinIs p (He.ga K t.1) dd ∧ H dd = some (.xd fs) ∧ RetL [.str t.2.2] H Q
theorem words_of {t : PySem.Str × PySem.Str × PySem.Str} (h : t ∈ xTab) : ((List.range 21).filter fun k => decide (t.1 = clNames.getD k "")).map (fun k => V.str (wdNames.getD k "")) = [V.str t.2.2] := by
  unfold xTab at h
  simp only [List.mem_cons, List.not_mem_nil, or_false] at h
  rcases h with rfl | rfl | rfl | rfl <;> rfl
theorem cal__law_classes (T : Tx P K mg) : CalE P w K mg base (L2N.CX P w) 1 "_law_classes" (spClasses K) := by
  obtain ⟨f, fd, F, hm⟩ := T.d__law_classes
  refine ⟨f, fd, ["e"], fnE_of F sc__law_classes (fun p vs H Q E h => ?_) (fun cdv A outer s H vs Q E p hot hr h => ?_), hm, F.kp, F.bindsN fun _ _ _ _ _ _ us hl => match us, hl with | [_], _ => rfl⟩
  · obtain ⟨t, dd, fs, rfl, -⟩ := h
    rfl
  · obtain ⟨t, dd, fs, rfl, ht, pi, hd, q⟩ := h
    refine ⟨_, (pss_cons (ps_set (i := 1) sc__law_classes.nd rfl (by first | exact Or.inl rfl | exact Or.inr rfl) (pe_lst (pa_cons (pe_callB (call_isPK K (List.mem_singleton.mpr rfl) pi (T.ex_D _ ht).kc) (by rfl) T.isinstance (by decide +kernel) (pa_cons (pv 0) (pa_cons (pe_glob (v := .ref (He.ga K "SizeError")) rfl (T.g_x "SizeError" (by decide +kernel)) rfl) pa_nil))) (pa_cons (pe_callB (call_isPK K (List.mem_singleton.mpr rfl) pi (T.ex_D _ ht).kc) (by rfl) T.isinstance (by decide +kernel) (pa_cons (pv 0) (pa_cons (pe_glob (v := .ref (He.ga K "NumberError")) rfl (T.g_x "NumberError" (by decide +kernel)) rfl) pa_nil))) (pa_cons (pe_callB (call_isPK K (List.mem_singleton.mpr rfl) pi (T.ex_D _ ht).kc) (by rfl) T.isinstance (by decide +kernel) (pa_cons (pv 0) (pa_cons (pe_glob (v := .ref (He.ga K "WideError")) rfl (T.g_x "WideError" (by decide +kernel)) rfl) pa_nil))) pa_nil)))))
      (pss_cons (ps_expr (pe_bm PySem.F.plainAttrs_list PySem.F.slot_list_append PySem.F.type_list_append (mt_append) (pv 1) (pa_cons (pe_callB (call_isPK K (List.mem_singleton.mpr rfl) pi (T.ex_D _ ht).kc) (by rfl) T.isinstance (by decide +kernel) (pa_cons (pv 0) (pa_cons (pe_glob (v := .ref (He.ga K "TooMany")) rfl (T.g_x "TooMany" (by decide +kernel)) rfl) pa_nil))) pa_nil)))
      (pss_cons (ps_expr (pe_bm PySem.F.plainAttrs_list PySem.F.slot_list_append PySem.F.type_list_append (mt_append) (pv 1) (pa_cons (pe_callB (call_isPK K (List.mem_singleton.mpr rfl) pi (T.ex_D _ ht).kc) (by rfl) T.isinstance (by decide +kernel) (pa_cons (pv 0) (pa_cons (pe_glob (v := .ref (He.ga K "FewCoins")) rfl (T.g_x "FewCoins" (by decide +kernel)) rfl) pa_nil))) pa_nil)))
      (pss_cons (ps_expr (pe_bm PySem.F.plainAttrs_list PySem.F.slot_list_append PySem.F.type_list_append (mt_append) (pv 1) (pa_cons (pe_callB (call_isPK K (List.mem_singleton.mpr rfl) pi (T.ex_D _ ht).kc) (by rfl) T.isinstance (by decide +kernel) (pa_cons (pv 0) (pa_cons (pe_glob (v := .ref (He.ga K "GrainError")) rfl (T.g_x "GrainError" (by decide +kernel)) rfl) pa_nil))) pa_nil)))
      (pss_cons (ps_expr (pe_bm PySem.F.plainAttrs_list PySem.F.slot_list_append PySem.F.type_list_append (mt_append) (pv 1) (pa_cons (pe_callB (call_isPK K (List.mem_singleton.mpr rfl) pi (T.ex_D _ ht).kc) (by rfl) T.isinstance (by decide +kernel) (pa_cons (pv 0) (pa_cons (pe_glob (v := .ref (He.ga K "RowError")) rfl (T.g_x "RowError" (by decide +kernel)) rfl) pa_nil))) pa_nil)))
      (pss_cons (ps_expr (pe_bm PySem.F.plainAttrs_list PySem.F.slot_list_append PySem.F.type_list_append (mt_append) (pv 1) (pa_cons (pe_callB (call_isPK K (List.mem_singleton.mpr rfl) pi (T.ex_D _ ht).kc) (by rfl) T.isinstance (by decide +kernel) (pa_cons (pv 0) (pa_cons (pe_glob (v := .ref (He.ga K "NotMade")) rfl (T.g_x "NotMade" (by decide +kernel)) rfl) pa_nil))) pa_nil)))
      (pss_cons (ps_expr (pe_bm PySem.F.plainAttrs_list PySem.F.slot_list_append PySem.F.type_list_append (mt_append) (pv 1) (pa_cons (pe_callB (call_isPK K (List.mem_singleton.mpr rfl) pi (T.ex_D _ ht).kc) (by rfl) T.isinstance (by decide +kernel) (pa_cons (pv 0) (pa_cons (pe_glob (v := .ref (He.ga K "NoCoin")) rfl (T.g_x "NoCoin" (by decide +kernel)) rfl) pa_nil))) pa_nil)))
      (pss_cons (ps_expr (pe_bm PySem.F.plainAttrs_list PySem.F.slot_list_append PySem.F.type_list_append (mt_append) (pv 1) (pa_cons (pe_callB (call_isPK K (List.mem_singleton.mpr rfl) pi (T.ex_D _ ht).kc) (by rfl) T.isinstance (by decide +kernel) (pa_cons (pv 0) (pa_cons (pe_glob (v := .ref (He.ga K "CoprimeError")) rfl (T.g_x "CoprimeError" (by decide +kernel)) rfl) pa_nil))) pa_nil)))
      (pss_cons (ps_expr (pe_bm PySem.F.plainAttrs_list PySem.F.slot_list_append PySem.F.type_list_append (mt_append) (pv 1) (pa_cons (pe_callB (call_isPK K (List.mem_singleton.mpr rfl) pi (T.ex_D _ ht).kc) (by rfl) T.isinstance (by decide +kernel) (pa_cons (pv 0) (pa_cons (pe_glob (v := .ref (He.ga K "PlaceError")) rfl (T.g_x "PlaceError" (by decide +kernel)) rfl) pa_nil))) pa_nil)))
      (pss_cons (ps_expr (pe_bm PySem.F.plainAttrs_list PySem.F.slot_list_append PySem.F.type_list_append (mt_append) (pv 1) (pa_cons (pe_callB (call_isPK K (List.mem_singleton.mpr rfl) pi (T.ex_D _ ht).kc) (by rfl) T.isinstance (by decide +kernel) (pa_cons (pv 0) (pa_cons (pe_glob (v := .ref (He.ga K "TradeError")) rfl (T.g_x "TradeError" (by decide +kernel)) rfl) pa_nil))) pa_nil)))
      (pss_cons (ps_expr (pe_bm PySem.F.plainAttrs_list PySem.F.slot_list_append PySem.F.type_list_append (mt_append) (pv 1) (pa_cons (pe_callB (call_isPK K (List.mem_singleton.mpr rfl) pi (T.ex_D _ ht).kc) (by rfl) T.isinstance (by decide +kernel) (pa_cons (pv 0) (pa_cons (pe_glob (v := .ref (He.ga K "HoleError")) rfl (T.g_x "HoleError" (by decide +kernel)) rfl) pa_nil))) pa_nil)))
      (pss_cons (ps_expr (pe_bm PySem.F.plainAttrs_list PySem.F.slot_list_append PySem.F.type_list_append (mt_append) (pv 1) (pa_cons (pe_callB (call_isPK K (List.mem_singleton.mpr rfl) pi (T.ex_D _ ht).kc) (by rfl) T.isinstance (by decide +kernel) (pa_cons (pv 0) (pa_cons (pe_glob (v := .ref (He.ga K "PointError")) rfl (T.g_x "PointError" (by decide +kernel)) rfl) pa_nil))) pa_nil)))
      (pss_cons (ps_expr (pe_bm PySem.F.plainAttrs_list PySem.F.slot_list_append PySem.F.type_list_append (mt_append) (pv 1) (pa_cons (pe_callB (call_isPK K (List.mem_singleton.mpr rfl) pi (T.ex_D _ ht).kc) (by rfl) T.isinstance (by decide +kernel) (pa_cons (pv 0) (pa_cons (pe_glob (v := .ref (He.ga K "TextError")) rfl (T.g_x "TextError" (by decide +kernel)) rfl) pa_nil))) pa_nil)))
      (pss_cons (ps_expr (pe_bm PySem.F.plainAttrs_list PySem.F.slot_list_append PySem.F.type_list_append (mt_append) (pv 1) (pa_cons (pe_callB (call_isPK K (List.mem_singleton.mpr rfl) pi (T.ex_D _ ht).kc) (by rfl) T.isinstance (by decide +kernel) (pa_cons (pv 0) (pa_cons (pe_glob (v := .ref (He.ga K "FlatError")) rfl (T.g_x "FlatError" (by decide +kernel)) rfl) pa_nil))) pa_nil)))
      (pss_cons (ps_expr (pe_bm PySem.F.plainAttrs_list PySem.F.slot_list_append PySem.F.type_list_append (mt_append) (pv 1) (pa_cons (pe_callB (call_isPK K (List.mem_singleton.mpr rfl) pi (T.ex_D _ ht).kc) (by rfl) T.isinstance (by decide +kernel) (pa_cons (pv 0) (pa_cons (pe_glob (v := .ref (He.ga K "CrossError")) rfl (T.g_x "CrossError" (by decide +kernel)) rfl) pa_nil))) pa_nil)))
      (pss_cons (ps_expr (pe_bm PySem.F.plainAttrs_list PySem.F.slot_list_append PySem.F.type_list_append (mt_append) (pv 1) (pa_cons (pe_callB (call_isPK K (List.mem_singleton.mpr rfl) pi (T.ex_D _ ht).kc) (by rfl) T.isinstance (by decide +kernel) (pa_cons (pv 0) (pa_cons (pe_glob (v := .ref (He.ga K "WayError")) rfl (T.g_x "WayError" (by decide +kernel)) rfl) pa_nil))) pa_nil)))
      (pss_cons (ps_expr (pe_bm PySem.F.plainAttrs_list PySem.F.slot_list_append PySem.F.type_list_append (mt_append) (pv 1) (pa_cons (pe_callB (call_isPK K (List.mem_singleton.mpr rfl) pi (T.ex_D _ ht).kc) (by rfl) T.isinstance (by decide +kernel) (pa_cons (pv 0) (pa_cons (pe_glob (v := .ref (He.ga K "OtherLot")) rfl (T.g_x "OtherLot" (by decide +kernel)) rfl) pa_nil))) pa_nil)))
      (pss_cons (ps_expr (pe_bm PySem.F.plainAttrs_list PySem.F.slot_list_append PySem.F.type_list_append (mt_append) (pv 1) (pa_cons (pe_callB (call_isPK K (List.mem_singleton.mpr rfl) pi (T.ex_D _ ht).kc) (by rfl) T.isinstance (by decide +kernel) (pa_cons (pv 0) (pa_cons (pe_glob (v := .ref (He.ga K "EditError")) rfl (T.g_x "EditError" (by decide +kernel)) rfl) pa_nil))) pa_nil)))
      (pss_cons (ps_expr (pe_bm PySem.F.plainAttrs_list PySem.F.slot_list_append PySem.F.type_list_append (mt_append) (pv 1) (pa_cons (pe_callB (call_isPK K (List.mem_singleton.mpr rfl) pi (T.ex_D _ ht).kc) (by rfl) T.isinstance (by decide +kernel) (pa_cons (pv 0) (pa_cons (pe_glob (v := .ref (He.ga K "HistoryError")) rfl (T.g_x "HistoryError" (by decide +kernel)) rfl) pa_nil))) pa_nil)))
      (pss_cons (ps_set (i := 2) sc__law_classes.nd rfl (by first | exact Or.inl rfl | exact Or.inr rfl) (pe_lst (pa_cons pe_str (pa_cons pe_str (pa_cons pe_str (pa_cons pe_str (pa_cons pe_str (pa_cons pe_str (pa_cons pe_str (pa_cons pe_str (pa_cons pe_str (pa_cons pe_str pa_nil))))))))))))
      (pss_cons (ps_set (i := 2) sc__law_classes.nd rfl (by first | exact Or.inl rfl | exact Or.inr rfl) (pe_op op_cat (pv 2) (pe_lst (pa_cons pe_str (pa_cons pe_str (pa_cons pe_str (pa_cons pe_str (pa_cons pe_str (pa_cons pe_str (pa_cons pe_str (pa_cons pe_str (pa_cons pe_str pa_nil))))))))))))
      (pss_cons (ps_set (i := 2) sc__law_classes.nd rfl (by first | exact Or.inl rfl | exact Or.inr rfl) (pe_op op_cat (pv 2) (pe_lst (pa_cons pe_str (pa_cons pe_str pa_nil)))))
      (pss_one (ps_ret (pe_lcH (own := [("k", 3)]) (g := gName 3) (tt := _) ⟨p, hot, List.mem_singleton.mpr rfl⟩ sc__law_classes.nd (pi_range1H (by rfl) T.range (pa_cons pe_int pa_nil)) (blkOk_by (own := [("k", 3)]) (by kernel_rfl)) (fun _ _ _ _ _ => pg_name (i := 3) sc__law_classes.nd rfl (by first | exact Or.inl rfl | exact Or.inr rfl)) (fun _ _ _ _ _ => pts_one (pt_val (pe_ix (ix_listK K) (pv 1) (pv 3) (fun _ _ => rfl)))) (fun _ _ _ _ _ => pe_ix (ix_listK K) (pv 2) (pv 3) (fun _ _ => rfl))))))))))))))))))))))))))), ?_⟩
    refine q_asgL (el_lst (ea_cons (ev_isP (ev_var rfl) hd ((T.ex_D _ ht).kit "SizeError" (by decide +kernel))) (ea_cons (ev_isP (ev_var rfl) hd ((T.ex_D _ ht).kit "NumberError" (by decide +kernel))) (ea_cons (ev_isP (ev_var rfl) hd ((T.ex_D _ ht).kit "WideError" (by decide +kernel))) ea_nil))) (show (3 : Nat) ≤ 100000 by decide)) fun u H1 n1 e1 h1 => ?_
    have hd1 := e1 _ _ hd
    have nu : dd ≠ u := fun z => by
      rw [z, n1] at hd
      cases hd
    have ex1 := e1
    obtain ⟨L1, eL1, lL1⟩ : ∃ L : List V, L = [V.bl (decide (t.1 = "SizeError")), V.bl (decide (t.1 = "NumberError")), V.bl (decide (t.1 = "WideError"))] ∧ L.length = 3 := ⟨_, rfl, rfl⟩
    rw [← eL1] at h1
    refine q_app h1 (ev_var rfl) (ev_isP (ev_var rfl) hd1 ((T.ex_D _ ht).kit "TooMany" (by decide +kernel))) (by omega) fun G2 g2 => ?_
    obtain ⟨L2, eL2, lL2⟩ : ∃ L : List V, L = L1 ++ [V.bl (decide (t.1 = "TooMany"))] ∧ L.length = 4 := ⟨_, rfl, by rw [List.length_append, lL1] <;> rfl⟩
    rw [← eL2]
    have hd2 := kU (o' := .lst L2) hd1 g2 nu
    have ex2 := Ex.mut (o := .lst L2) (ex1.trans g2) n1
    have h2 : (upd G2 u (.lst L2)) u = some (.lst L2) := upd_same
    generalize upd G2 u _ = H2 at hd2 ex2 h2 ⊢
    refine q_app h2 (ev_var rfl) (ev_isP (ev_var rfl) hd2 ((T.ex_D _ ht).kit "FewCoins" (by decide +kernel))) (by omega) fun G3 g3 => ?_
    obtain ⟨L3, eL3, lL3⟩ : ∃ L : List V, L = L2 ++ [V.bl (decide (t.1 = "FewCoins"))] ∧ L.length = 5 := ⟨_, rfl, by rw [List.length_append, lL2] <;> rfl⟩
    rw [← eL3]
    have hd3 := kU (o' := .lst L3) hd2 g3 nu
    have ex3 := Ex.mut (o := .lst L3) (ex2.trans g3) n1
    have h3 : (upd G3 u (.lst L3)) u = some (.lst L3) := upd_same
    generalize upd G3 u _ = H3 at hd3 ex3 h3 ⊢
    refine q_app h3 (ev_var rfl) (ev_isP (ev_var rfl) hd3 ((T.ex_D _ ht).kit "GrainError" (by decide +kernel))) (by omega) fun G4 g4 => ?_
    obtain ⟨L4, eL4, lL4⟩ : ∃ L : List V, L = L3 ++ [V.bl (decide (t.1 = "GrainError"))] ∧ L.length = 6 := ⟨_, rfl, by rw [List.length_append, lL3] <;> rfl⟩
    rw [← eL4]
    have hd4 := kU (o' := .lst L4) hd3 g4 nu
    have ex4 := Ex.mut (o := .lst L4) (ex3.trans g4) n1
    have h4 : (upd G4 u (.lst L4)) u = some (.lst L4) := upd_same
    generalize upd G4 u _ = H4 at hd4 ex4 h4 ⊢
    refine q_app h4 (ev_var rfl) (ev_isP (ev_var rfl) hd4 ((T.ex_D _ ht).kit "RowError" (by decide +kernel))) (by omega) fun G5 g5 => ?_
    obtain ⟨L5, eL5, lL5⟩ : ∃ L : List V, L = L4 ++ [V.bl (decide (t.1 = "RowError"))] ∧ L.length = 7 := ⟨_, rfl, by rw [List.length_append, lL4] <;> rfl⟩
    rw [← eL5]
    have hd5 := kU (o' := .lst L5) hd4 g5 nu
    have ex5 := Ex.mut (o := .lst L5) (ex4.trans g5) n1
    have h5 : (upd G5 u (.lst L5)) u = some (.lst L5) := upd_same
    generalize upd G5 u _ = H5 at hd5 ex5 h5 ⊢
    refine q_app h5 (ev_var rfl) (ev_isP (ev_var rfl) hd5 ((T.ex_D _ ht).kit "NotMade" (by decide +kernel))) (by omega) fun G6 g6 => ?_
    obtain ⟨L6, eL6, lL6⟩ : ∃ L : List V, L = L5 ++ [V.bl (decide (t.1 = "NotMade"))] ∧ L.length = 8 := ⟨_, rfl, by rw [List.length_append, lL5] <;> rfl⟩
    rw [← eL6]
    have hd6 := kU (o' := .lst L6) hd5 g6 nu
    have ex6 := Ex.mut (o := .lst L6) (ex5.trans g6) n1
    have h6 : (upd G6 u (.lst L6)) u = some (.lst L6) := upd_same
    generalize upd G6 u _ = H6 at hd6 ex6 h6 ⊢
    refine q_app h6 (ev_var rfl) (ev_isP (ev_var rfl) hd6 ((T.ex_D _ ht).kit "NoCoin" (by decide +kernel))) (by omega) fun G7 g7 => ?_
    obtain ⟨L7, eL7, lL7⟩ : ∃ L : List V, L = L6 ++ [V.bl (decide (t.1 = "NoCoin"))] ∧ L.length = 9 := ⟨_, rfl, by rw [List.length_append, lL6] <;> rfl⟩
    rw [← eL7]
    have hd7 := kU (o' := .lst L7) hd6 g7 nu
    have ex7 := Ex.mut (o := .lst L7) (ex6.trans g7) n1
    have h7 : (upd G7 u (.lst L7)) u = some (.lst L7) := upd_same
    generalize upd G7 u _ = H7 at hd7 ex7 h7 ⊢
    refine q_app h7 (ev_var rfl) (ev_isP (ev_var rfl) hd7 ((T.ex_D _ ht).kit "CoprimeError" (by decide +kernel))) (by omega) fun G8 g8 => ?_
    obtain ⟨L8, eL8, lL8⟩ : ∃ L : List V, L = L7 ++ [V.bl (decide (t.1 = "CoprimeError"))] ∧ L.length = 10 := ⟨_, rfl, by rw [List.length_append, lL7] <;> rfl⟩
    rw [← eL8]
    have hd8 := kU (o' := .lst L8) hd7 g8 nu
    have ex8 := Ex.mut (o := .lst L8) (ex7.trans g8) n1
    have h8 : (upd G8 u (.lst L8)) u = some (.lst L8) := upd_same
    generalize upd G8 u _ = H8 at hd8 ex8 h8 ⊢
    refine q_app h8 (ev_var rfl) (ev_isP (ev_var rfl) hd8 ((T.ex_D _ ht).kit "PlaceError" (by decide +kernel))) (by omega) fun G9 g9 => ?_
    obtain ⟨L9, eL9, lL9⟩ : ∃ L : List V, L = L8 ++ [V.bl (decide (t.1 = "PlaceError"))] ∧ L.length = 11 := ⟨_, rfl, by rw [List.length_append, lL8] <;> rfl⟩
    rw [← eL9]
    have hd9 := kU (o' := .lst L9) hd8 g9 nu
    have ex9 := Ex.mut (o := .lst L9) (ex8.trans g9) n1
    have h9 : (upd G9 u (.lst L9)) u = some (.lst L9) := upd_same
    generalize upd G9 u _ = H9 at hd9 ex9 h9 ⊢
    refine q_app h9 (ev_var rfl) (ev_isP (ev_var rfl) hd9 ((T.ex_D _ ht).kit "TradeError" (by decide +kernel))) (by omega) fun G10 g10 => ?_
    obtain ⟨L10, eL10, lL10⟩ : ∃ L : List V, L = L9 ++ [V.bl (decide (t.1 = "TradeError"))] ∧ L.length = 12 := ⟨_, rfl, by rw [List.length_append, lL9] <;> rfl⟩
    rw [← eL10]
    have hd10 := kU (o' := .lst L10) hd9 g10 nu
    have ex10 := Ex.mut (o := .lst L10) (ex9.trans g10) n1
    have h10 : (upd G10 u (.lst L10)) u = some (.lst L10) := upd_same
    generalize upd G10 u _ = H10 at hd10 ex10 h10 ⊢
    refine q_app h10 (ev_var rfl) (ev_isP (ev_var rfl) hd10 ((T.ex_D _ ht).kit "HoleError" (by decide +kernel))) (by omega) fun G11 g11 => ?_
    obtain ⟨L11, eL11, lL11⟩ : ∃ L : List V, L = L10 ++ [V.bl (decide (t.1 = "HoleError"))] ∧ L.length = 13 := ⟨_, rfl, by rw [List.length_append, lL10] <;> rfl⟩
    rw [← eL11]
    have hd11 := kU (o' := .lst L11) hd10 g11 nu
    have ex11 := Ex.mut (o := .lst L11) (ex10.trans g11) n1
    have h11 : (upd G11 u (.lst L11)) u = some (.lst L11) := upd_same
    generalize upd G11 u _ = H11 at hd11 ex11 h11 ⊢
    refine q_app h11 (ev_var rfl) (ev_isP (ev_var rfl) hd11 ((T.ex_D _ ht).kit "PointError" (by decide +kernel))) (by omega) fun G12 g12 => ?_
    obtain ⟨L12, eL12, lL12⟩ : ∃ L : List V, L = L11 ++ [V.bl (decide (t.1 = "PointError"))] ∧ L.length = 14 := ⟨_, rfl, by rw [List.length_append, lL11] <;> rfl⟩
    rw [← eL12]
    have hd12 := kU (o' := .lst L12) hd11 g12 nu
    have ex12 := Ex.mut (o := .lst L12) (ex11.trans g12) n1
    have h12 : (upd G12 u (.lst L12)) u = some (.lst L12) := upd_same
    generalize upd G12 u _ = H12 at hd12 ex12 h12 ⊢
    refine q_app h12 (ev_var rfl) (ev_isP (ev_var rfl) hd12 ((T.ex_D _ ht).kit "TextError" (by decide +kernel))) (by omega) fun G13 g13 => ?_
    obtain ⟨L13, eL13, lL13⟩ : ∃ L : List V, L = L12 ++ [V.bl (decide (t.1 = "TextError"))] ∧ L.length = 15 := ⟨_, rfl, by rw [List.length_append, lL12] <;> rfl⟩
    rw [← eL13]
    have hd13 := kU (o' := .lst L13) hd12 g13 nu
    have ex13 := Ex.mut (o := .lst L13) (ex12.trans g13) n1
    have h13 : (upd G13 u (.lst L13)) u = some (.lst L13) := upd_same
    generalize upd G13 u _ = H13 at hd13 ex13 h13 ⊢
    refine q_app h13 (ev_var rfl) (ev_isP (ev_var rfl) hd13 ((T.ex_D _ ht).kit "FlatError" (by decide +kernel))) (by omega) fun G14 g14 => ?_
    obtain ⟨L14, eL14, lL14⟩ : ∃ L : List V, L = L13 ++ [V.bl (decide (t.1 = "FlatError"))] ∧ L.length = 16 := ⟨_, rfl, by rw [List.length_append, lL13] <;> rfl⟩
    rw [← eL14]
    have hd14 := kU (o' := .lst L14) hd13 g14 nu
    have ex14 := Ex.mut (o := .lst L14) (ex13.trans g14) n1
    have h14 : (upd G14 u (.lst L14)) u = some (.lst L14) := upd_same
    generalize upd G14 u _ = H14 at hd14 ex14 h14 ⊢
    refine q_app h14 (ev_var rfl) (ev_isP (ev_var rfl) hd14 ((T.ex_D _ ht).kit "CrossError" (by decide +kernel))) (by omega) fun G15 g15 => ?_
    obtain ⟨L15, eL15, lL15⟩ : ∃ L : List V, L = L14 ++ [V.bl (decide (t.1 = "CrossError"))] ∧ L.length = 17 := ⟨_, rfl, by rw [List.length_append, lL14] <;> rfl⟩
    rw [← eL15]
    have hd15 := kU (o' := .lst L15) hd14 g15 nu
    have ex15 := Ex.mut (o := .lst L15) (ex14.trans g15) n1
    have h15 : (upd G15 u (.lst L15)) u = some (.lst L15) := upd_same
    generalize upd G15 u _ = H15 at hd15 ex15 h15 ⊢
    refine q_app h15 (ev_var rfl) (ev_isP (ev_var rfl) hd15 ((T.ex_D _ ht).kit "WayError" (by decide +kernel))) (by omega) fun G16 g16 => ?_
    obtain ⟨L16, eL16, lL16⟩ : ∃ L : List V, L = L15 ++ [V.bl (decide (t.1 = "WayError"))] ∧ L.length = 18 := ⟨_, rfl, by rw [List.length_append, lL15] <;> rfl⟩
    rw [← eL16]
    have hd16 := kU (o' := .lst L16) hd15 g16 nu
    have ex16 := Ex.mut (o := .lst L16) (ex15.trans g16) n1
    have h16 : (upd G16 u (.lst L16)) u = some (.lst L16) := upd_same
    generalize upd G16 u _ = H16 at hd16 ex16 h16 ⊢
    refine q_app h16 (ev_var rfl) (ev_isP (ev_var rfl) hd16 ((T.ex_D _ ht).kit "OtherLot" (by decide +kernel))) (by omega) fun G17 g17 => ?_
    obtain ⟨L17, eL17, lL17⟩ : ∃ L : List V, L = L16 ++ [V.bl (decide (t.1 = "OtherLot"))] ∧ L.length = 19 := ⟨_, rfl, by rw [List.length_append, lL16] <;> rfl⟩
    rw [← eL17]
    have hd17 := kU (o' := .lst L17) hd16 g17 nu
    have ex17 := Ex.mut (o := .lst L17) (ex16.trans g17) n1
    have h17 : (upd G17 u (.lst L17)) u = some (.lst L17) := upd_same
    generalize upd G17 u _ = H17 at hd17 ex17 h17 ⊢
    refine q_app h17 (ev_var rfl) (ev_isP (ev_var rfl) hd17 ((T.ex_D _ ht).kit "EditError" (by decide +kernel))) (by omega) fun G18 g18 => ?_
    obtain ⟨L18, eL18, lL18⟩ : ∃ L : List V, L = L17 ++ [V.bl (decide (t.1 = "EditError"))] ∧ L.length = 20 := ⟨_, rfl, by rw [List.length_append, lL17] <;> rfl⟩
    rw [← eL18]
    have hd18 := kU (o' := .lst L18) hd17 g18 nu
    have ex18 := Ex.mut (o := .lst L18) (ex17.trans g18) n1
    have h18 : (upd G18 u (.lst L18)) u = some (.lst L18) := upd_same
    generalize upd G18 u _ = H18 at hd18 ex18 h18 ⊢
    refine q_app h18 (ev_var rfl) (ev_isP (ev_var rfl) hd18 ((T.ex_D _ ht).kit "HistoryError" (by decide +kernel))) (by omega) fun G19 g19 => ?_
    obtain ⟨L19, eL19, lL19⟩ : ∃ L : List V, L = L18 ++ [V.bl (decide (t.1 = "HistoryError"))] ∧ L.length = 21 := ⟨_, rfl, by rw [List.length_append, lL18] <;> rfl⟩
    rw [← eL19]
    have hd19 := kU (o' := .lst L19) hd18 g19 nu
    have ex19 := Ex.mut (o := .lst L19) (ex18.trans g19) n1
    have h19 : (upd G19 u (.lst L19)) u = some (.lst L19) := upd_same
    generalize upd G19 u _ = H19 at hd19 ex19 h19 ⊢
    have hf : H19 u = some (.lst (clNames.map fun x => V.bl (decide (t.1 = x)))) := by
      rw [h19, eL19, eL18, eL17, eL16, eL15, eL14, eL13, eL12, eL11, eL10, eL9, eL8, eL7, eL6, eL5, eL4, eL3, eL2, eL1]
      unfold clNames
      simp only [List.map_append, List.map_cons, List.map_nil, List.cons_append, List.nil_append]
    refine q_asgL (el_lst (ea_cons ev_c (ea_cons ev_c (ea_cons ev_c (ea_cons ev_c (ea_cons ev_c (ea_cons ev_c (ea_cons ev_c (ea_cons ev_c (ea_cons ev_c (ea_cons ev_c ea_nil)))))))))) (by decide)) fun w1 I1 m1 i1 k1 => ?_
    refine q_asgL (el_catV (ev_var rfl) k1 (el_lst (ea_cons ev_c (ea_cons ev_c (ea_cons ev_c (ea_cons ev_c (ea_cons ev_c (ea_cons ev_c (ea_cons ev_c (ea_cons ev_c (ea_cons ev_c ea_nil))))))))) (by decide)) (by decide)) fun w2 I2 m2 i2 k2 => ?_
    refine q_asgL (el_catV (ev_var rfl) k2 (el_lst (ea_cons ev_c (ea_cons ev_c ea_nil)) (by decide)) (by decide)) fun w3 I3 m3 i3 k3 => ?_
    have hw : I3 w3 = some (.lst (wdNames.map V.str)) := by
      rw [k3]
      unfold wdNames
      simp only [List.map_append, List.map_cons, List.map_nil, List.cons_append, List.nil_append]
    have hf3 := i3 _ _ (i2 _ _ (i1 _ _ hf))
    refine s_retL (xs := [V.str t.2.2]) ?_ fun z J n j hz => q z J (fresh_back (ex19.trans (i1.trans (i2.trans i3))) n) ((ex19.trans (i1.trans (i2.trans i3))).trans j) hz
    rw [← words_of ht]
    have fl : ∀ i : Nat, i < 21 → (clNames.map fun x => V.bl (decide (t.1 = x)))[i]? = some (V.bl (decide (t.1 = clNames.getD i ""))) := fun i hi => by
      have hc : i < clNames.length := hi
      rw [List.getElem?_map, List.getD_eq_getElem?_getD, List.getElem?_eq_getElem hc] <;> rfl
    have wl : ∀ i : Nat, i < 21 → (wdNames.map V.str)[i]? = some (V.str (wdNames.getD i "")) := fun i hi => by
      have hc : i < wdNames.length := hi
      rw [List.getElem?_map, List.getD_eq_getElem?_getD, List.getElem?_eq_getElem hc] <;> rfl
    exact el_lcR (n := 21) _ _ (ea_cons ev_c ea_nil) ⟨by decide, by decide⟩ (fun _ => rfl) (fun i J j hi => et_B (ev_ixL (ev_var rfl) (ev_var rfl) (sq_of (j _ _ hf3)) (atI_nat (fl i (by omega))))) (fun i J j hi _ => ev_ixL (ev_var rfl) (ev_var rfl) (sq_of (j _ _ hw)) (atI_nat (wl i (by omega))))
end CHX

namespace CHX
open PySem PySem.Spec PyProof.Rows L2 L2H Evl
variable {P : Program} {w : World} {K : PySem.W.Frag} {mg : Str → Option Value} {base : Heap}
/-! ### _law_refusal -/
def spRefusal (K : PySem.W.Frag) : Addr × Obj → Sp := fun p vs H Q _ => ∃ (t : PySem.Str × PySem.Str × PySem.Str) (dd : Addr) (n : Int), vs = [.ref p.1] ∧ t ∈ xTab ∧ PinIs p (He.ga K t.1) dd ∧ H dd = some (.xd [(t.2.1, .int n)]) ∧ RetU [.str t.2.2, .int n] H Q
theorem cal__law_refusal (T : Tx P K mg) : CalE P w K mg base (L2N.CX P w) 2 "_law_refusal" (spRefusal K) := by
  obtain ⟨f, fd, F, hm⟩ := T.d__law_refusal
  refine ⟨f, fd, ["e"], fnE_of F sc__law_refusal (fun p vs H Q E h => ?_) (fun cdv A outer s H vs Q E p hot hr h => ?_), hm, F.kp, F.bindsN fun _ _ _ _ _ _ us hl => match us, hl with | [_], _ => rfl⟩
  · obtain ⟨t, dd, n, rfl, -⟩ := h
    rfl
  · obtain ⟨t, dd, n, rfl, ht, pi, hd, q⟩ := h
    have hot2 : Hot1 (A.deeper (envOfC "_law_refusal" (defScope s__law_refusal) s.heap.objs.size f cdv)) p := hot
    refine ⟨_, (pss_cons (ps_set (i := 1) sc__law_refusal.nd rfl (by first | exact Or.inl rfl | exact Or.inr rfl) (pe_calE (cal__law_classes T) hr (by decide) hot2 (List.mem_singleton.mpr rfl) (by rfl) (fun σ => pass0N σ) (pa_cons (pv 0) pa_nil)))
      (pss_cons (ps_if (PW.pt (pw_or (pt_cmpR op_ne (pe_callB (call_lenK K) (by rfl) T.len boot_len (pa_cons (pv 1) pa_nil)) pe_int (nomark _)) (pw_or1 (pt_not (pt_val (pe_callB (call_isPK K (List.mem_singleton.mpr rfl) pi (T.ex_D _ ht).kc) (by rfl) T.isinstance (by decide +kernel) (pa_cons (pv 0) (pa_cons (pe_bltn (v := .ty "ValueError") (u := .type "ValueError") (by rfl) T.ValueError (by decide +kernel) (by rfl)) pa_nil)))))))) (pss_one (ps_ret (pe_tup (pa_cons pe_str (pa_cons pe_int pa_nil))))) pss_nil)
      (pss_cons (ps_if (pt_cmpR op_eq (pe_ix (ix_listK K) (pv 1) pe_int (fun _ _ => rfl)) pe_str (nomark _)) (pss_one (ps_ret (pe_tup (pa_cons pe_str (pa_cons (pe_xp (List.mem_singleton.mpr rfl) pi (T.ex_D _ ht).kf ((T.ex_D _ ht).fld "count" (by decide +kernel)) (pv 0)) pa_nil))))) pss_nil)
      (pss_cons (ps_if (pt_cmpR op_eq (pe_ix (ix_listK K) (pv 1) pe_int (fun _ _ => rfl)) pe_str (nomark _)) (pss_one (ps_ret (pe_tup (pa_cons pe_str (pa_cons (pe_xp (List.mem_singleton.mpr rfl) pi (T.ex_D _ ht).kf ((T.ex_D _ ht).fld "number" (by decide +kernel)) (pv 0)) pa_nil))))) pss_nil)
      (pss_cons (ps_if (pt_cmpR op_eq (pe_ix (ix_listK K) (pv 1) pe_int (fun _ _ => rfl)) pe_str (nomark _)) (pss_one (ps_ret (pe_tup (pa_cons pe_str (pa_cons (pe_xp (List.mem_singleton.mpr rfl) pi (T.ex_D _ ht).kf ((T.ex_D _ ht).fld "number" (by decide +kernel)) (pv 0)) pa_nil))))) pss_nil)
      (pss_cons (ps_if (pt_cmpR op_eq (pe_ix (ix_listK K) (pv 1) pe_int (fun _ _ => rfl)) pe_str (nomark _)) (pss_one (ps_ret (pe_tup (pa_cons pe_str (pa_cons (pe_xp (List.mem_singleton.mpr rfl) pi (T.ex_D _ ht).kf ((T.ex_D _ ht).fld "limit" (by decide +kernel)) (pv 0)) pa_nil))))) pss_nil)
      (pss_cons (ps_if (pt_cmpR op_eq (pe_ix (ix_listK K) (pv 1) pe_int (fun _ _ => rfl)) pe_str (nomark _)) (pss_one (ps_ret (pe_tup (pa_cons pe_str (pa_cons (pe_xp (List.mem_singleton.mpr rfl) pi (T.ex_D _ ht).kf ((T.ex_D _ ht).fld "grain" (by decide +kernel)) (pv 0)) pa_nil))))) pss_nil)
      (pss_cons (ps_if (pt_cmpR op_eq (pe_ix (ix_listK K) (pv 1) pe_int (fun _ _ => rfl)) pe_str (nomark _)) (pss_one (ps_ret (pe_tup (pa_cons pe_str (pa_cons (pe_xp (List.mem_singleton.mpr rfl) pi (T.ex_D _ ht).kf ((T.ex_D _ ht).fld "number" (by decide +kernel)) (pv 0)) pa_nil))))) pss_nil)
      (pss_cons (ps_if (pt_cmpR op_eq (pe_ix (ix_listK K) (pv 1) pe_int (fun _ _ => rfl)) pe_str (nomark _)) (pss_one (ps_ret (pe_tup (pa_cons pe_str (pa_cons (pe_xp (List.mem_singleton.mpr rfl) pi (T.ex_D _ ht).kf ((T.ex_D _ ht).fld "number" (by decide +kernel)) (pv 0)) pa_nil))))) pss_nil)
      (pss_one (ps_ret (pe_tup (pa_cons (pe_ix (ix_listK K) (pv 1) pe_int (fun _ _ => rfl)) (pa_cons pe_int pa_nil)))))))))))))), ?_⟩
    refine q_asgL (xs := [.str t.2.2]) (el_callS (ea_cons (ev_var rfl) ea_nil) fun H1 e1 Q1 q1 => ⟨t, dd, _, rfl, ht, pi, e1 _ _ hd, q1⟩) fun u H1 n1 e1 h1 => ?_
    refine q_when (b := !decide ((([V.str t.2.2] : List V).length : Int) = 1) || !true) (et_or (et_test (ev_neI (ev_lenQ (ev_var rfl) (.inl (sq_of h1))) ev_c)) fun _ => et_not (et_B (ev_isVE (ev_var rfl) (e1 _ _ hd) (T.ex_D _ ht).ve))) (fun hb H2 e2 => absurd hb (by simp)) (fun hb H2 e2 => ?_)
    have hd2 := e2 _ _ (e1 _ _ hd)
    have h2 := e2 _ _ h1
    have ex2 := e1.trans e2
    clear hb e1 e2 h1 hd n1
    have ht0 := ht
    unfold xTab at ht
    simp only [List.mem_cons, List.not_mem_nil, or_false] at ht
    rcases ht with rfl | rfl | rfl | rfl
    · refine q_when (b := true) (et_is (et_test (ev_eqS (ev_ixL (ev_var rfl) ev_c (sq_of h2) (atI_nat (j := 0) rfl)) ev_c)) (by decide +kernel)) (fun hb H3 e3 => ?_) (fun hb => nomatch hb)
      exact s_retU (eu_tup (ea_cons ev_c (ea_cons (ev_xp (ev_var rfl) (e3 _ _ hd2) rfl) ea_nil)) (show (2 : Nat) ≤ 100000 by decide)) fun z J nz ez hz => q z J (fresh_back (ex2.trans e3) nz) ((ex2.trans e3).trans ez) hz
    · refine q_when (b := false) (et_is (et_test (ev_eqS (ev_ixL (ev_var rfl) ev_c (sq_of h2) (atI_nat (j := 0) rfl)) ev_c)) (by decide +kernel)) (fun hb => nomatch hb) (fun hb H3 e3 => ?_)
      have hd3 := e3 _ _ hd2
      have h3 := e3 _ _ h2
      have ex3 := ex2.trans e3
      refine q_when (b := true) (et_is (et_test (ev_eqS (ev_ixL (ev_var rfl) ev_c (sq_of h3) (atI_nat (j := 0) rfl)) ev_c)) (by decide +kernel)) (fun hb H4 e4 => ?_) (fun hb => nomatch hb)
      exact s_retU (eu_tup (ea_cons ev_c (ea_cons (ev_xp (ev_var rfl) (e4 _ _ hd3) rfl) ea_nil)) (show (2 : Nat) ≤ 100000 by decide)) fun z J nz ez hz => q z J (fresh_back (ex3.trans e4) nz) ((ex3.trans e4).trans ez) hz
    · refine q_when (b := false) (et_is (et_test (ev_eqS (ev_ixL (ev_var rfl) ev_c (sq_of h2) (atI_nat (j := 0) rfl)) ev_c)) (by decide +kernel)) (fun hb => nomatch hb) (fun hb H3 e3 => ?_)
      have hd3 := e3 _ _ hd2
      have h3 := e3 _ _ h2
      have ex3 := ex2.trans e3
      refine q_when (b := false) (et_is (et_test (ev_eqS (ev_ixL (ev_var rfl) ev_c (sq_of h3) (atI_nat (j := 0) rfl)) ev_c)) (by decide +kernel)) (fun hb => nomatch hb) (fun hb H4 e4 => ?_)
      have hd4 := e4 _ _ hd3
      have h4 := e4 _ _ h3
      have ex4 := ex3.trans e4
      refine q_when (b := true) (et_is (et_test (ev_eqS (ev_ixL (ev_var rfl) ev_c (sq_of h4) (atI_nat (j := 0) rfl)) ev_c)) (by decide +kernel)) (fun hb H5 e5 => ?_) (fun hb => nomatch hb)
      exact s_retU (eu_tup (ea_cons ev_c (ea_cons (ev_xp (ev_var rfl) (e5 _ _ hd4) rfl) ea_nil)) (show (2 : Nat) ≤ 100000 by decide)) fun z J nz ez hz => q z J (fresh_back (ex4.trans e5) nz) ((ex4.trans e5).trans ez) hz
    · refine q_when (b := false) (et_is (et_test (ev_eqS (ev_ixL (ev_var rfl) ev_c (sq_of h2) (atI_nat (j := 0) rfl)) ev_c)) (by decide +kernel)) (fun hb => nomatch hb) (fun hb H3 e3 => ?_)
      have hd3 := e3 _ _ hd2
      have h3 := e3 _ _ h2
      have ex3 := ex2.trans e3
      refine q_when (b := false) (et_is (et_test (ev_eqS (ev_ixL (ev_var rfl) ev_c (sq_of h3) (atI_nat (j := 0) rfl)) ev_c)) (by decide +kernel)) (fun hb => nomatch hb) (fun hb H4 e4 => ?_)
      have hd4 := e4 _ _ hd3
      have h4 := e4 _ _ h3
      have ex4 := ex3.trans e4
      refine q_when (b := false) (et_is (et_test (ev_eqS (ev_ixL (ev_var rfl) ev_c (sq_of h4) (atI_nat (j := 0) rfl)) ev_c)) (by decide +kernel)) (fun hb => nomatch hb) (fun hb H5 e5 => ?_)
      have hd5 := e5 _ _ hd4
      have h5 := e5 _ _ h4
      have ex5 := ex4.trans e5
      refine q_when (b := false) (et_is (et_test (ev_eqS (ev_ixL (ev_var rfl) ev_c (sq_of h5) (atI_nat (j := 0) rfl)) ev_c)) (by decide +kernel)) (fun hb => nomatch hb) (fun hb H6 e6 => ?_)
      have hd6 := e6 _ _ hd5
      have h6 := e6 _ _ h5
      have ex6 := ex5.trans e6
      refine q_when (b := true) (et_is (et_test (ev_eqS (ev_ixL (ev_var rfl) ev_c (sq_of h6) (atI_nat (j := 0) rfl)) ev_c)) (by decide +kernel)) (fun hb H7 e7 => ?_) (fun hb => nomatch hb)
      exact s_retU (eu_tup (ea_cons ev_c (ea_cons (ev_xp (ev_var rfl) (e7 _ _ hd6) rfl) ea_nil)) (show (2 : Nat) ≤ 100000 by decide)) fun z J nz ez hz => q z J (fresh_back (ex6.trans e7) nz) ((ex6.trans e7).trans ez) hz
/-! ### _law_ask -/
theorem pss_imp {X : Cx} {body : List Stmt} {t t' : TS} (h : PSs X body t) (i : ∀ D σ H, t' D σ H → t D σ H) : PSs X body t' := ⟨fun pins s σ H D I q => h.run pins s σ H D I (i _ _ _ q)⟩
/-- the suite of _law_ask, whatever the exception's object is -/
def tsAsk (K : PySem.W.Frag) (i : Nat) : Addr → Value → Option Addr → TS := fun a cls d D σ H => ∀ oe : Obj, L2N.Zn cls d oe → (∃ vs, oe.data = .fields vs) → tRet (tCallS (spRefusal K (a, oe)) (fun _ _ _ _ => False) (tCons (tVar i) tNil)) D σ H
def spAsk (K : PySem.W.Frag) : Sp := fun vs H Q _ => ∃ (p : Addr) (cs : List Int) (t : List (Option Int)) (which : Int), vs = [.ref p, .int which] ∧ LotAt K H p cs t ∧ (CH.gcdOf cs = 1 → ∃ T, t = CH.ents T ∧ LotW cs T) ∧ (CH.gcdOf cs ≠ 1 → RetU [.str "grain", .int (CH.gcdOf cs)] H Q) ∧
  (∀ T, t = CH.ents T → LotW cs T → which = 2 ∧ match startsErr (CH.membersOf (CH.canonOf T) cs) with
    | none => ∀ u i H2, H u = none → Ex H H2 → H2 u = some (.tup [.str "told", .ref i]) → IdealAt K H2 i p T (CH.canonOf T) → Q (.ref u) H2
    | some e => ∀ t ∈ xTab, t.1 = e.1 → t.2.1 = e.2.1 → RetU [.str t.2.2, .int e.2.2] H Q)
theorem starts_tab {ss : List Int} {e : PySem.Str × PySem.Str × Int} (h : startsErr ss = some e) : ∃ t ∈ xTab, t.1 = e.1 ∧ t.2.1 = e.2.1 := by
  unfold startsErr at h
  split at h
  · split at h
    · obtain rfl := Option.some.inj h
      exact ⟨("NumberError", "number", "number"), by decide +kernel, rfl, rfl⟩
    · cases h
  · obtain rfl := Option.some.inj h
    exact ⟨("SizeError", "count", "size"), by decide +kernel, rfl, rfl⟩
theorem cal__law_ask (T : Tx P K mg) : Cal P w K mg base 10 "_law_ask" (spAsk K) := by
  obtain ⟨f, fd, F, hm⟩ := T.d__law_ask
  refine ⟨f, fd, ["lot", "which"], F.ok sc__law_ask (fun vs H Q E h => ?_) (fun cdv A outer s H vs Q E hr h => ?_), hm, F.kp, F.bindsN fun _ _ _ _ _ _ us hl => match us, hl with | [_, _], _ => rfl⟩
  · obtain ⟨p, cs, t, which, rfl, -⟩ := h
    rfl
  · refine ⟨_, (pss_cons (L2N.ps_try_as (i := 3) (ts := tsAsk K 3) rfl rfl sc__law_ask.nd rfl rfl ⟨rfl, by decide, .inl T.g_CoinError⟩ (L2N.takes_of rfl rfl rfl rfl) (fun W pn xe tk po =>
        (pss_one (ps_if (pt_cmpR op_eq (pv 1) pe_int (nomark _)) (pss_one (ps_set (i := 2) sc__law_ask.nd rfl (Or.inl rfl) (pe_cal (cal_pseudo_holes T) hr (by decide) tk (by rfl) (pa_cons (pv 0) pa_nil))))
          (pss_one (ps_if (pt_cmpR op_eq (pv 1) pe_int (nomark _)) (pss_one (ps_set (i := 2) sc__law_ask.nd rfl (Or.inl rfl) (pe_cal (cal_breadth T) hr (by decide) tk (by rfl) (pa_cons (pv 0) pa_nil))))
            (pss_one (ps_set (i := 2) sc__law_ask.nd rfl (Or.inl rfl) (pe_cal (cal_canonical T) hr (by decide) tk (by rfl) (pa_cons (pv 0) pa_nil)))))))))
        (fun a oe cls d pn hz hf => pss_imp (pss_one (ps_ret (pe_calE (j := 9) (p := (a, oe)) (cal__law_refusal T) ⟨hr.dp, hr.un⟩ (by decide) ⟨rfl, by obtain ⟨vs, hv⟩ := hf; exact ⟨vs, hv, hz.2.2 vs hv⟩⟩ (List.mem_cons_self ..) (by rfl) (fun σ => pass0N σ) (pa_cons (pv 3) pa_nil)))) fun D σ H q => q oe hz hf))
      (pss_one (ps_ret (pe_tup (pa_cons pe_str (pa_cons (pv 2) pa_nil)))))), ?_⟩
    obtain ⟨p, cs, t, which, rfl, L0, g, qA, qB⟩ := h
    have raise : ∀ (D : Ends) (Wout : WX), D.rt = Q → ∀ t ∈ xTab, ∀ (n : Int) H1, Ex H H1 → RetU [.str t.2.2, .int n] H Q → RaiseX (He.ga K t.1) t.2.1 (.int n) H1 (WE (wAs K (.ref (He.ga K "CoinError")) 3 (tsAsk K 3) Wout D) [some (.ref p), some (.int which), none, none]) := by
      intro D Wout eD t ht n H1 e1 q d H2 e2 nd hd
      refine ⟨true, (T.ex_D _ ht).ce, fun _ a na oe hz hf => ?_, fun z => nomatch z⟩
      refine s_retU (eu_callS (ea_cons (ev_var rfl) ea_nil) fun H3 e3 Q3 q3 => ⟨t, d, n, rfl, ht, ⟨hz.1, hz.2.1, hf⟩, e3 _ _ hd, q3⟩) fun z J nz ez hz => ?_
      show D.rt _ _
      rw [eD]
      exact q z J (fresh_back (e1.trans e2) nz) ((e1.trans e2).trans ez) hz
    by_cases h1 : CH.gcdOf cs = 1
    · obtain ⟨T0, rfl, W⟩ := g h1
      obtain ⟨rfl, qC⟩ := qB T0 rfl W
      refine q_if (b := false) (et_is (et_test (ev_eqI (ev_var rfl) ev_c)) (by decide)) (fun z => nomatch z) (fun _ H1 e1 => ?_)
      refine s_if (b := false) (et_is (et_test (ev_eqI (ev_var rfl) ev_c)) (by decide)) (fun z => nomatch z) (fun _ H2 e2 => ?_)
      refine ⟨_, rfl, p, cs, CH.ents T0, rfl, ex_lot (e1.trans e2) L0, fun T1 eT W1 => ?_, fun z => absurd h1 z, fun _ => ⟨T0, rfl, W⟩⟩
      obtain rfl := ents_inj eT
      cases he : startsErr (CH.membersOf (CH.canonOf T0) cs) with
      | none =>
        rw [he] at qC
        intro i H3 ni e3 hi
        exact s_retU (eu_tup (ea_cons ev_c (ea_cons (ev_var rfl) ea_nil)) (show (2 : Nat) ≤ 100000 by decide)) fun u J nu eu hu => qC u i J (fresh_back ((e1.trans e2).trans e3) nu) (((e1.trans e2).trans e3).trans eu) hu (ex_ideal eu hi)
      | some e =>
        rw [he] at qC
        obtain ⟨t, ht, e1', e2'⟩ := starts_tab he
        have qq := qC t ht e1' e2'
        show RaiseX (He.ga K e.1) e.2.1 (.int e.2.2) H2 _
        rw [← e1', ← e2']
        exact raise _ _ rfl t ht e.2.2 H2 (e1.trans e2) qq
    · have q := qA h1
      refine q_if (b := decide (which = 0)) (et_test (ev_eqI (ev_var rfl) ev_c)) (fun _ H1 e1 => ?_) (fun _ H1 e1 => ?_)
      · exact ⟨_, rfl, p, cs, t, rfl, ex_lot e1 L0, fun T0 _ W => absurd W.one h1, fun _ => raise _ _ rfl ("GrainError", "grain", "grain") (by decide +kernel) _ H1 e1 q, fun z => absurd z h1⟩
      · refine s_if (b := decide (which = 1)) (et_test (ev_eqI (ev_var rfl) ev_c)) (fun _ H2 e2 => ?_) (fun _ H2 e2 => ?_)
        · exact ⟨_, rfl, p, cs, t, rfl, ex_lot (e1.trans e2) L0, fun T0 _ W => absurd W.one h1, fun _ => raise _ _ rfl ("GrainError", "grain", "grain") (by decide +kernel) _ H2 (e1.trans e2) q, fun z => absurd z h1⟩
        · exact ⟨_, rfl, p, cs, t, rfl, ex_lot (e1.trans e2) L0, fun T0 _ W => absurd W.one h1, fun _ => raise _ _ rfl ("GrainError", "grain", "grain") (by decide +kernel) _ H2 (e1.trans e2) q, fun z => absurd z h1⟩
end CHX

namespace CHX
open PySem PySem.Spec PyProof.Rows L2 Evl
variable {P : Program} {w : World} {K : PySem.W.Frag} {mg : Str → Option Value} {base : Heap}
/-! ### a lot's making, a method -/
section
variable {σ : L2.St} {H H' : Hp} {ta tb te : TE} {E : XK} {cs : List Int} {C : Addr}
def EvX (te : TE) (σ : L2.St) (H : Hp) (P0 : V → Hp → Prop) : Prop := ∀ H1, Ex H H1 → ∀ Q : VK, (∀ v H2, Ex H1 H2 → P0 v H2 → Q v H2) → te σ H1 Q
theorem eb_x {tr : TA} {P0 : V → Hp → Prop} {Pr : List V → Hp → Prop} (h : EvX te σ H P0) (m : ∀ v H1 H2, Ex H1 H2 → P0 v H1 → P0 v H2) (hr : ∀ H1, Ex H H1 → EvB tr σ H1 Pr) : EvB (tCons te tr) σ H fun vs H2 => ∃ v ws, vs = v :: ws ∧ P0 v H2 ∧ Pr ws H2 := fun H1 e Q q =>
  h H1 e _ fun v H2 e2 hp => hr H2 (e.trans e2) H2 (Ex.refl H2) _ fun ws H3 e3 hP => q _ H3 (e2.trans e3) ⟨v, ws, rfl, m v H2 H3 e3 hp, hP⟩
def IsLot (K : PySem.W.Frag) (cs : List Int) : V → Hp → Prop := fun v H => ∃ p, v = .ref p ∧ LotAt K H p (CH.uniq cs) (CH.tabOf cs)
theorem isLot_mono (v : V) (H1 H2 : Hp) (e : Ex H1 H2) (h : IsLot K cs v H1) : IsLot K cs v H2 := by
  obtain ⟨p, rfl, L⟩ := h
  exact ⟨p, rfl, ex_lot e L⟩
theorem evLot_L (h : EvL ta σ H (cs.map V.int)) (ok : lotErr cs = none) : EvX (tMake (He.ga K "Lot") (spLotInit K) [] E (tCons ta tNil)) σ H (IsLot K cs) := fun H1 e Q q =>
  h H1 e _ fun a H2 n2 e2 ha x dx nx ndx ne => ⟨H2, x, dx, a, cs, rfl, rfl, nx, ndx, ne, .inl (sq_of ha), fun _ H3 e3 L => ⟨rfl, q (.ref x) H3 (e2.trans e3) ⟨x, rfl, L⟩⟩, fun er he => by
    rw [ok] at he
    cases he⟩
theorem evLot_U (h : EvU ta σ H (cs.map V.int)) (ok : lotErr cs = none) : EvX (tMake (He.ga K "Lot") (spLotInit K) [] E (tCons ta tNil)) σ H (IsLot K cs) := fun H1 e Q q =>
  h H1 e _ fun a H2 n2 e2 ha x dx nx ndx ne => ⟨H2, x, dx, a, cs, rfl, rfl, nx, ndx, ne, .inr (st_of ha), fun _ H3 e3 L => ⟨rfl, q (.ref x) H3 (e2.trans e3) ⟨x, rfl, L⟩⟩, fun er he => by
    rw [ok] at he
    cases he⟩
theorem q_asgX {D : Ends} {tz : TS} {i : Nat} {P0 : V → Hp → Prop} (h : EvX te σ H P0) (k : ∀ v H1, Ex H H1 → P0 v H1 → tz D (σ.set i (some v)) H1) : tSeq (tAsg te (gName i)) tz D σ H := h H (Ex.refl H) _ k
theorem eu_cat {xs ys : List V} (ha : EvU ta σ H xs) (hb : EvU tb σ H ys) (hx : xs ≠ []) (hy : ys ≠ []) (hl : xs.length + ys.length ≤ 100000) : EvU (tOp (rCatA K) ta tb) σ H (xs ++ ys) := fun H1 e Q q =>
  ha H1 e _ fun p H2 n2 e2 hp => hb H2 (e.trans e2) _ fun r H3 n3 e3 hr => ⟨p, r, xs, ys, rfl, rfl, st_of (e3 p _ hp), st_of hr, sz_of hl, fun z => absurd z hx, fun _ z => absurd z hy, fun _ _ b hb => q b _ (fresh_back (e2.trans e3) hb) ((e2.trans e3).trans (Ex.new hb)) upd_same⟩
theorem eu_met0 {m : PySem.Str} {sp : Sp} {p dx : Addr} {fs : List (Str × V)} {xs : List V} (ho : Ev ta σ H (.ref p)) (hp : H p = some (.ins C dx fs)) (hl : fs.lookup m = none) (hs : ∀ H1, Ex H H1 → ∀ Q, RetU xs H1 Q → sp [.ref p] H1 Q E) : EvU (tMeth C m sp [] E ta tNil) σ H xs := fun H1 e Q q =>
  ho H1 e _ fun H2 e2 => ⟨p, dx, fs, rfl, e2 _ _ (e _ _ hp), hl, hs H2 (e.trans e2) Q fun u H3 n3 e3 h3 => q u H3 (fresh_back e2 n3) (e2.trans e3) h3⟩
end
theorem lotErr_none {cs : List Int} (L : CH.LotOk cs) : lotErr cs = none := by
  have hz : 1 ≤ (cs.length : Int) ∧ (cs.length : Int) ≤ 64 := by
    have := List.length_pos_iff.mpr L.ne
    have := L.len
    omega
  unfold lotErr
  rw [if_pos hz, bad_none (fun n hn => ⟨L.pos n hn, L.le n hn⟩)]
  exact if_neg (by have := L.least; omega)
theorem lotW_of {cs : List Int} (L : CH.LotOk cs) (A : CH.Apart cs) : ∃ T, CH.tabOf cs = CH.ents T ∧ LotW (CH.uniq cs) T := by
  obtain ⟨T, e, W, h1, h2⟩ := CH.lot_whole L A
  have := L.least
  have := L.len
  have := CH.uniq_len (l := cs)
  exact ⟨T, e, W, h1, h2, by omega, by omega⟩
/-! ### _law_lot_right -/
theorem bad_canon {ss : List Int} (h : ∀ x ∈ ss, 0 ≤ x) : badOf (-10 ^ 12) (10 ^ 12) ss = (ss.filter fun n => decide ((10 : Int) ^ 12 < n)).head? := by
  unfold badOf
  rw [List.head?_filter]
  induction ss with
  | nil => rfl
  | cons x ss ih =>
    have hx := h x List.mem_cons_self
    have e : (!(decide (-10 ^ 12 ≤ x) && decide (x ≤ 10 ^ 12))) = decide ((10 : Int) ^ 12 < x) := by
      rw [decide_eq_true (show (-10 ^ 12 : Int) ≤ x by omega), Bool.true_and]
      by_cases q : x ≤ 10 ^ 12
      · rw [decide_eq_true q, decide_eq_false (by omega)] <;> rfl
      · rw [decide_eq_false q, decide_eq_true (by omega)] <;> rfl
    rw [List.find?_cons, List.find?_cons, e, ih fun y hy => h y (List.mem_cons_of_mem _ hy)]
def spLotRight (K : PySem.W.Frag) : Sp := fun vs H Q _ => ∃ (p d : Addr) (cs T : List Int), vs = [.ref p, .ref d, .int (CH.lastOf T)] ∧ LotAt K H p cs (CH.ents T) ∧ LotW cs T ∧ SqL K H d ((CH.pseudoOf cs T).map V.int) ∧ RetV (.bl true) H Q
theorem cal__law_lot_right (T : Tx P K mg) : Cal P w K mg base 11 "_law_lot_right" (spLotRight K) := by
  obtain ⟨f, fd, F, hm⟩ := T.d__law_lot_right
  refine ⟨f, fd, ["lot", "due", "last"], F.ok sc__law_lot_right (fun vs H Q E h => ?_) (fun cdv A outer s H vs Q E hr h => ?_), hm, F.kp, F.bindsN fun _ _ _ _ _ _ us hl => match us, hl with | [_, _, _], _ => rfl⟩
  · obtain ⟨p, d, cs, T0, rfl, -⟩ := h
    rfl
  · refine ⟨_, ((pss_cons (ps_if (pt_not (pt_val (pe_cal0 (cal__law_is_tuple T) hr (by decide) (by rfl) (pa_cons (pe_cal0 (cal_pseudo_holes T) hr (by decide) (by rfl) (pa_cons (pv 0) pa_nil)) (pa_cons (pv 1) pa_nil)))))
    (pss_one (ps_ret pe_bl)) pss_nil)
  (pss_cons (ps_if (pt_not (pt_val (pe_cal0 (cal__law_is_number T) hr (by decide) (by rfl) (pa_cons (pe_cal0 (cal_breadth T) hr (by decide) (by rfl) (pa_cons (pv 0) pa_nil)) (pa_cons (pe_callB (call_lenK K) (by rfl) T.len boot_len (pa_cons (pv 1) pa_nil)) pa_nil)))))
    (pss_one (ps_ret pe_bl)) pss_nil)
  (pss_cons (ps_set (i := 3) sc__law_lot_right.nd rfl (by first | exact Or.inl rfl | exact Or.inr rfl) (pe_callB (cr_sortedK K) (by rfl) T.sorted (by decide +kernel) (pa_cons (pe_lc (own := [("z", 6)]) (g := gName 6) (tt := tYes) rfl sc__law_lot_right.nd (pi_seqK K (pv 1)) (blkOk_by (own := [("z", 6)]) (by kernel_rfl)) (fun _ _ _ _ _ => pg_name (i := 6) sc__law_lot_right.nd rfl (by first | exact Or.inl rfl | exact Or.inr rfl)) (fun _ _ _ _ _ => pts_nil) (fun _ _ _ _ _ => pe_op op_sub (pv 2) (pv 6))) pa_nil)))
  (pss_cons (ps_setLc (i := 4) (own := [("n", 7)]) (g := gName 7) (tt := _) rfl sc__law_lot_right.nd rfl rfl (sw_true rfl rfl rfl (by decide +kernel)) (pi_seqK K (pv 3)) (blkOk_by (own := [("n", 7)]) (by kernel_rfl)) (fun _ _ _ _ _ => pg_name (i := 7) sc__law_lot_right.nd rfl (by first | exact Or.inl rfl | exact Or.inr rfl)) (fun _ _ _ _ _ => pts_one (pt_cmpR op_gt (pv 7) (pe_op op_pow pe_int pe_int) (nomark _))) (fun _ _ _ _ _ => pv 7))
  (pss_cons (ps_set (i := 5) sc__law_lot_right.nd rfl (by first | exact Or.inl rfl | exact Or.inr rfl) (pe_cal0 (cal__law_ask T) hr (by decide) (by rfl) (pa_cons (pv 0) (pa_cons pe_int pa_nil))))
  (pss_cons (ps_if (pt_cmpR (op_neD hr.units) (pv 4) (pe_lst pa_nil) (nomark _))
    (pss_one (ps_ret (pe_cal0 (cal__law_refused T) hr (by decide) (by rfl) (pa_cons (pv 5) (pa_cons pe_str (pa_cons (pe_ix (ix_listK K) (pv 4) pe_int (fun _ _ => rfl)) pa_nil)))))) pss_nil)
  (pss_one (ps_ret (pe_and (pe_cmpR op_eq (pe_ix (ix_tupK K) (pv 5) pe_int (fun _ _ => rfl)) pe_str (nomark _)) (pe_one (pe_cal0 (cal__law_is_tuple T) hr (by decide) (by rfl) (pa_cons (pe_metZ0 (met_Ideal_needed_members T) hr (by decide) (pe_ix (ix_tupK K) (pv 5) pe_int (fun _ _ => rfl))) (pa_cons (pv 3) pa_nil)))))))))))))), ?_⟩
    obtain ⟨p, d, cs, T0, rfl, L0, W, hd, q⟩ := h
    have hT : 0 < T0.length := by have := W.wt.len; omega
    have pl : (CH.pseudoOf cs T0).length ≤ 64 := by
      unfold CH.pseudoOf
      refine Nat.le_trans (List.length_filter_le _ _) ?_
      rw [(CH.isort_perm _).length_eq, List.length_map]
      exact W.tl
    have ph : ∀ {σ : L2.St} {H1 : Hp} {ta : TE}, Ex H H1 → Ev ta σ H1 (.ref p) → EvU (tCallS (spPseudo K) (fun _ _ _ _ => False) (tCons ta tNil)) σ H1 ((CH.pseudoOf cs T0).map V.int) := fun e h => eu_callS (ea_cons h ea_nil) fun H2 e2 Q2 q2 =>
      ⟨p, cs, CH.ents T0, rfl, ex_lot (e.trans e2) L0, fun T1 eT _ => by obtain rfl := ents_inj eT; exact q2, fun z => absurd W.one z, fun _ => ⟨T0, rfl, W⟩⟩
    refine q_when (b := !true) (et_not (et_B (ev_callB (eb_u (ph (Ex.refl H) (ev_var rfl)) fun H1 e1 => eb_v (ev_var rfl) fun H2 e2 => eb_nil) fun vs H1 e1 hv Q1 q1 => ?_))) (fun z => nomatch z) (fun _ H1 e1 => ?_)
    · obtain ⟨u, ws, rfl, nu, hu, ws2, rfl, rfl⟩ := hv
      refine ⟨u, d, _, _, rfl, hu, ex_l e1 hd, by omega, ?_⟩
      rw [decide_eq_true rfl]
      exact q1
    refine q_when (b := !true) (et_not (et_B (ev_callS (vs := [.int (CH.pseudoOf cs T0).length, .int (CH.pseudoOf cs T0).length]) (ea_cons (ev_callS (ea_cons (ev_var rfl) ea_nil) fun H2 e2 Q2 q2 => ⟨p, cs, CH.ents T0, rfl, ex_lot (e1.trans e2) L0, fun T1 eT _ => by obtain rfl := ents_inj eT; exact q2, fun z => absurd W.one z, fun _ => ⟨T0, rfl, W⟩⟩) (ea_cons (by rw [← len_map]; exact ev_lenQ (ev_var rfl) (.inl (ex_l e1 hd))) ea_nil)) fun H2 e2 Q2 q2 => ⟨_, _, rfl, by rw [decide_eq_true rfl]; exact q2⟩))) (fun z => nomatch z) (fun _ H2 e2 => ?_)
    have ex2 := e1.trans e2
    have cm := CH.canon_members W.wt
    refine q_asgL (xs := (CH.membersOf (CH.canonOf T0) cs).map V.int) ?_ fun nd H3 n3 e3 h3 => ?_
    · rw [cm]
      refine el_sortN ?_
      rw [List.map_map]
      exact el_lcM _ V.int _ (ev_var rfl) (.inl (ex_l ex2 hd)) (by omega) (fun _ => rfl) fun z hz H4 e4 => ev_bin (ev_var rfl) (ev_var rfl)
    have IT := CH.mirror_ok W.wt (CH.lastOf T0)
    have nn : ∀ x ∈ CH.membersOf (CH.canonOf T0) cs, 0 ≤ x := fun x hx => CH.canon_nonneg W.wt hx
    have ml : (CH.membersOf (CH.canonOf T0) cs).length ≤ T0.length := CH.members_len IT
    have mne : CH.membersOf (CH.canonOf T0) cs ≠ [] := CH.members_ne IT
    have se : startsErr (CH.membersOf (CH.canonOf T0) cs) = (match ((CH.membersOf (CH.canonOf T0) cs).filter fun n => decide ((10 : Int) ^ 12 < n)).head? with
      | some n => (some ("NumberError", "number", n) : Option (PySem.Str × PySem.Str × Int))
      | none => none) := by
      unfold startsErr
      rw [if_pos ⟨by have := List.length_pos_iff.mpr mne; omega, by have := W.tl; omega⟩, bad_canon nn] <;> rfl
    have cl : 0 < (CH.canonOf T0).length ∧ (CH.canonOf T0).length ≤ 1000 := by
      have : (CH.canonOf T0).length = T0.length := CH.mirror_len
      have := W.tl
      omega
    generalize hN : CH.membersOf (CH.canonOf T0) cs = N at *
    have ex3 := ex2.trans e3
    refine q_asgL (xs := (N.filter fun n => decide ((10 : Int) ^ 12 < n)).map V.int) ?_ fun o H4 n4 e4 h4 => ?_
    · exact el_lcD N V.int _ V.int (ev_var rfl) (.inl (sq_of h3)) (by have := W.tl; omega) (fun _ => rfl) (fun x hx H4 e4 => et_test (ev_bin (ev_var rfl) (ev_binC ev_c ev_c ⟨by decide, by decide, by decide⟩))) (fun x hx H4 e4 _ => ev_var rfl)
    have ex4 := ex3.trans e4
    generalize hO : (N.filter fun n => decide ((10 : Int) ^ 12 < n)) = O at *
    -- the answer
    refine ⟨_, rfl, p, cs, CH.ents T0, 2, rfl, ex_lot ex4 L0, fun _ => ⟨T0, rfl, W⟩, fun z => absurd W.one z, fun T1 eT _ => ⟨rfl, ?_⟩⟩
    obtain rfl := ents_inj eT
    cases O with
    | nil =>
      have se : startsErr N = none := se
      rw [hN, se]
      intro u i H5 nu e5 hu hi
      have ex5 := ex4.trans e5
      refine q_when (b := !decide (([] : List Int) = [])) (et_test (ev_neNil (ev_var rfl) (sq_of (e5 _ _ h4)))) (fun hb => absurd hb (by decide)) (fun _ H6 e6 => ?_)
      obtain ⟨dx, tm, tt, J⟩ := ex_ideal e6 hi
      have hu6 := e6 _ _ hu
      refine s_ret (v := .bl true) (ev_andV (a := true) (b := true) (ev_is (ev_eqS (ev_ixT (ev_var rfl) ev_c (st_of hu6) (atI_nat (j := 0) rfl)) ev_c) (by decide)) fun _ => ev_callB (eb_u (xs := N.map V.int) (eu_met0 (ev_ixT (ev_var rfl) ev_c (st_of hu6) (atI_nat (j := 1) rfl)) J.ins rfl fun H7 e7 Q7 q7 => ⟨i, p, cs, CH.ents T0, T0, CH.canonOf T0, rfl, ex_ideal e7 ⟨dx, tm, tt, J⟩, ex_lot ((ex5.trans e6).trans e7) L0, cl.1, cl.2, by have := W.cl; omega, by rw [hN]; exact q7⟩) fun H7 e7 => eb_v (ev_var rfl) fun H8 e8 => eb_nil) fun vs H7 e7 hv Q7 q7 => ?_) fun H7 e7 => q H7 ((ex5.trans e6).trans e7)
      obtain ⟨z, ws, rfl, nz, hz, ws2, rfl, rfl⟩ := hv
      refine ⟨z, nd, N, N, rfl, hz, sq_of (e7 _ _ (e6 _ _ (e5 _ _ (e4 _ _ h3)))), by have := W.tl; omega, ?_⟩
      rw [decide_eq_true rfl]
      exact q7
    | cons n O' =>
      have se : startsErr N = some (("NumberError", "number", n) : PySem.Str × PySem.Str × Int) := se
      rw [hN, se]
      intro t ht h1 h2 u H5 nu e5 hu
      have hw : t.2.2 = "number" := by
        unfold xTab at ht
        simp only [List.mem_cons, List.not_mem_nil, or_false] at ht
        rcases ht with rfl | rfl | rfl | rfl
        · exact absurd (show ("SizeError" : PySem.Str) = "NumberError" from h1) (by decide +kernel)
        · rfl
        · exact absurd (show ("WideError" : PySem.Str) = "NumberError" from h1) (by decide +kernel)
        · exact absurd (show ("GrainError" : PySem.Str) = "NumberError" from h1) (by decide +kernel)
      rw [hw] at hu
      have ex5 := ex4.trans e5
      refine q_when (b := !decide ((n :: O') = [])) (et_test (ev_neNil (ev_var rfl) (sq_of (e5 _ _ h4)))) (fun _ H6 e6 => ?_) (fun hb => absurd hb (by simp))
      refine s_ret (v := .bl true) (ev_callS (ea_cons (ev_var rfl) (ea_cons ev_c (ea_cons (ev_ixL (ev_var rfl) ev_c (sq_of (e6 _ _ (e5 _ _ h4))) (atI_nat (j := 0) rfl)) ea_nil))) fun H7 e7 Q7 q7 => ⟨u, "number", "number", .int n, n, rfl, st_of (e7 _ _ (e6 _ _ hu)), fun _ => ⟨n, rfl⟩, ?_⟩) fun H7 e7 => q H7 ((ex5.trans e6).trans e7)
      have e : refB "number" (.int n) "number" n = true := by
        unfold refB
        simp
      rw [e]
      exact q7
/-! ### _law_grained -/
theorem lotok_rough {cs : List Int} {g : Int} (ne : cs ≠ []) (len : cs.length ≤ 20) (pos : ∀ c ∈ cs, 1 ≤ c ∧ c ≤ 20) (hg : 2 ≤ g ∧ g ≤ 3) : CH.LotOk (cs.map fun c => g * c) := by
  have in_ : ∀ x ∈ cs.map (fun c => g * c), 1 ≤ x ∧ x ≤ 60 := fun x hx => by
    obtain ⟨c, hc, rfl⟩ := List.mem_map.mp hx
    have h1 := pos c hc
    have h2 : g * c ≤ 3 * 20 := Int.mul_le_mul hg.2 h1.2 (by omega) (by decide)
    have h3 : 1 * 1 ≤ g * c := Int.mul_le_mul (by omega) h1.1 (by decide) (by omega)
    omega
  obtain ⟨c, hc⟩ := List.exists_mem_of_ne_nil _ ne
  have hm : g * c ∈ cs.map fun c => g * c := List.mem_map.mpr ⟨c, hc, rfl⟩
  exact CH.lotok_of (by simpa using ne) (by rw [List.length_map]; omega) (fun x hx => ⟨(in_ x hx).1, by have := (in_ x hx).2; omega⟩) ⟨_, hm, by have := (in_ _ hm).2; omega⟩
theorem great_ok : lotErr [64, 10 ^ 12] = none := by decide +kernel
theorem great_gcd : CH.gcdOf (CH.uniq [64, 10 ^ 12]) = 64 := by decide +kernel
def spGrained (K : PySem.W.Frag) : Sp := fun vs H Q _ => ∃ (a : Addr) (cs : List Int) (cell : Int), vs = [.ref a, .int cell] ∧ SqL K H a (cs.map V.int) ∧ cs ≠ [] ∧ cs.length ≤ 20 ∧ (∀ c ∈ cs, 1 ≤ c ∧ c ≤ 20) ∧ CH.Apart cs ∧ RetV (.bl true) H Q
theorem cal__law_grained (T : Tx P K mg) : Cal P w K mg base 11 "_law_grained" (spGrained K) := by
  obtain ⟨f, fd, F, hm⟩ := T.d__law_grained
  refine ⟨f, fd, ["coins", "cell"], F.ok sc__law_grained (fun vs H Q E h => ?_) (fun cdv A outer s H vs Q E hr h => ?_), hm, F.kp, F.bindsN fun _ _ _ _ _ _ us hl => match us, hl with | [_, _], _ => rfl⟩
  · obtain ⟨a, cs, cell, rfl, -⟩ := h
    rfl
  · refine ⟨_, ((pss_cons (ps_set (i := 2) sc__law_grained.nd rfl (by first | exact Or.inl rfl | exact Or.inr rfl) (pe_op op_add pe_int (pe_op op_mod (pv 1) pe_int)))
  (pss_cons (ps_set (i := 3) sc__law_grained.nd rfl (by first | exact Or.inl rfl | exact Or.inr rfl) (pe_mak0 (mak_Lot T) hr (by decide) (by rfl) (pa_cons (pe_lc (own := [("coin", 6)]) (g := gName 6) (tt := tYes) rfl sc__law_grained.nd (pi_seqK K (pv 0)) (blkOk_by (own := [("coin", 6)]) (by kernel_rfl)) (fun _ _ _ _ _ => pg_name (i := 6) sc__law_grained.nd rfl (by first | exact Or.inl rfl | exact Or.inr rfl)) (fun _ _ _ _ _ => pts_nil) (fun _ _ _ _ _ => pe_op op_mulW (pv 2) (pv 6))) pa_nil)))
  (pss_cons (ps_set (i := 4) sc__law_grained.nd rfl (by first | exact Or.inl rfl | exact Or.inr rfl) (pe_mak0 (mak_Lot T) hr (by decide) (by rfl) (pa_cons (pe_lst (pa_cons pe_int (pa_cons (pe_op op_pow pe_int pe_int) pa_nil))) pa_nil)))
  (pss_cons (ps_for PassesOwn.leaving rfl (pi_range1 (by rfl) T.range (pa_cons pe_int pa_nil)) (pg_name (i := 5) sc__law_grained.nd rfl (by first | exact Or.inl rfl | exact Or.inr rfl))
    (pss_cons (ps_if (pt_not (pt_val (pe_cal0 (cal__law_refused T) hr (by decide) (by rfl) (pa_cons (pe_cal0 (cal__law_ask T) hr (by decide) (by rfl) (pa_cons (pv 3) (pa_cons (pv 5) pa_nil))) (pa_cons pe_str (pa_cons (pv 2) pa_nil))))))
      (pss_one (ps_ret pe_bl)) pss_nil)
    (pss_one (ps_if (pt_not (pt_val (pe_cal0 (cal__law_refused T) hr (by decide) (by rfl) (pa_cons (pe_cal0 (cal__law_ask T) hr (by decide) (by rfl) (pa_cons (pv 4) (pa_cons (pv 5) pa_nil))) (pa_cons pe_str (pa_cons pe_int pa_nil))))))
      (pss_one (ps_ret pe_bl)) pss_nil))))
  (pss_one (ps_ret pe_bl))))))), ?_⟩
    obtain ⟨a, cs, cell, rfl, ha, ne, len, pos, A, q⟩ := h
    refine q_asg (v := .int (2 + cell % 2)) (ev_bin ev_c (ev_binC (ev_var rfl) ev_c (by decide))) fun H1 e1 => ?_
    have hg : 2 ≤ 2 + cell % 2 ∧ 2 + cell % 2 ≤ 3 := by omega
    generalize 2 + cell % 2 = g at *
    have gm : CH.gcdOf (CH.uniq (cs.map fun c => g * c)) = g := CH.grain_mul A (by omega) ne fun c hc => by have := pos c hc; omega
    refine q_asgX (evLot_L (cs := cs.map fun c => g * c) ?_ (lotErr_none (lotok_rough ne len pos hg))) fun v H2 e2 hv => ?_
    · rw [List.map_map]
      exact el_lcM cs V.int _ (ev_var rfl) (.inl (ex_l e1 ha)) (by omega) (fun _ => rfl) fun c hc H3 e3 => ev_binC (ev_var rfl) (ev_var rfl) (mulS (by omega) (by have := pos c hc; omega))
    obtain ⟨p, rfl, Lp⟩ := hv
    refine q_asgX (evLot_L (cs := [64, 10 ^ 12]) (el_lst (ea_cons ev_c (ea_cons (ev_binC ev_c ev_c ⟨by decide, by decide, by decide⟩) ea_nil)) (by decide)) great_ok) fun v H3 e3 hv => ?_
    obtain ⟨r, rfl, Lr⟩ := hv
    have Lp := ex_lot e3 Lp
    have ex3 := e1.trans (e2.trans e3)
    have ask : ∀ {σ : L2.St} {H4 : Hp} {ta tb tc td : TE} {x : Addr} {us : List Int} {t : List (Option Int)} {k n : Int}, LotAt K H4 x us t → CH.gcdOf us = n → n ≠ 1 → Ev ta σ H4 (.ref x) → Ev tb σ H4 (.int k) → Ev td σ H4 (.int n) → EvT (tNot (tB (tCallS (spRefused K) (fun _ _ _ _ => False) (tCons (tCallS (spAsk K) (fun _ _ _ _ => False) (tCons ta (tCons tb tNil))) (tCons (tC (.str "grain")) (tCons td tNil)))))) σ H4 (!true) := by
      intro σ H4 ta tb tc td x us t k n L hn h1 ha hb hd
      refine et_not (et_B (ev_callB (eb_u (xs := [.str "grain", .int n]) (eu_callS (ea_cons ha (ea_cons hb ea_nil)) fun H5 e5 Q5 q5 => ⟨x, us, t, k, rfl, ex_lot e5 L, fun z => absurd (hn.symm.trans z) h1, fun _ => by rw [hn]; exact q5, fun T1 _ W => absurd (hn.symm.trans W.one) h1⟩) fun H5 e5 => eb_v ev_c fun H6 e6 => eb_v (hd.mono (e5.trans e6)) fun H7 e7 => eb_nil) fun vs H5 e5 hv Q5 q5 => ?_))
      obtain ⟨u, ws, rfl, nu, hu, ws2, rfl, ws3, rfl, rfl⟩ := hv
      refine ⟨u, "grain", "grain", .int n, n, rfl, st_of hu, fun _ => ⟨n, rfl⟩, ?_⟩
      have e : refB "grain" (.int n) "grain" n = true := by
        unfold refB
        simp
      rw [e]
      exact q5
    refine q_forR1 (n := 3) (ea_cons ev_c ea_nil) ⟨by decide, by decide⟩
      (fun i σ' H' => ∃ x5, σ' = [some (.ref a), some (.int cell), some (.int g), some (.ref p), some (.ref r), x5, none] ∧ Ex H3 H') (fun H4 e4 => ⟨_, rfl, e4⟩) (fun i σ' H' hi P1 => ?_) (fun σ' H' P1 => ?_)
    · obtain ⟨x5, rfl, ex⟩ := P1
      refine q_when (ask (tc := tC .non) (ex_lot ex Lp) gm (by omega) (ev_var rfl) (ev_var rfl) (ev_var rfl)) (fun z => nomatch z) (fun _ H4 e4 => ?_)
      refine s_when (ask (tc := tC .non) (ex_lot (ex.trans e4) Lr) great_gcd (by decide) (ev_var rfl) (ev_var rfl) ev_c) (fun z => nomatch z) (fun _ H5 e5 => ?_)
      exact ⟨_, rfl, ex.trans (e4.trans e5)⟩
    · obtain ⟨x5, rfl, ex⟩ := P1
      exact s_ret ev_c fun H4 e4 => q H4 (ex3.trans (ex.trans e4))
/-! ### _law_far -/
def spFar (K : PySem.W.Frag) : Sp := fun vs H Q _ => ∃ (a : Addr) (cs : List Int), vs = [.ref a] ∧ SqL K H a (cs.map V.int) ∧ CH.LotOk cs ∧ CH.Apart cs ∧ RetV (.bl true) H Q
theorem cal__law_far (T : Tx P K mg) : Cal P w K mg base 12 "_law_far" (spFar K) := by
  obtain ⟨f, fd, F, hm⟩ := T.d__law_far
  refine ⟨f, fd, ["coins"], F.ok sc__law_far (fun vs H Q E h => ?_) (fun cdv A outer s H vs Q E hr h => ?_), hm, F.kp, F.bindsN fun _ _ _ _ _ _ us hl => match us, hl with | [_], _ => rfl⟩
  · obtain ⟨a, cs, rfl, -⟩ := h
    rfl
  · refine ⟨_, ((pss_cons (ps_set (i := 1) sc__law_far.nd rfl (by first | exact Or.inl rfl | exact Or.inr rfl) (pe_callB (cr_sortedSet2 rfl) (by rfl) T.sorted (by decide +kernel) (pa_cons (pe_callTy (cr_setL rfl) (by rfl) T.set (by decide +kernel) (pa_cons (pv 0) pa_nil)) pa_nil)))
  (pss_cons (ps_set (i := 2) sc__law_far.nd rfl (by first | exact Or.inl rfl | exact Or.inr rfl) (pe_cal0 (cal__law_base_of T) hr (by decide) (by rfl) (pa_cons (pv 1) pa_nil)))
  (pss_cons (ps_set (i := 3) sc__law_far.nd rfl (by first | exact Or.inl rfl | exact Or.inr rfl) (pe_cal0 (cal__law_far_pseudo T) hr (by decide) (by rfl) (pa_cons (pv 2) (pa_cons (pv 1) pa_nil))))
  (pss_one (ps_ret (pe_cal0 (cal__law_lot_right T) hr (by decide) (by rfl) (pa_cons (pe_mak0 (mak_Lot T) hr (by decide) (by rfl) (pa_cons (pe_callTy (call_tupK K) (by rfl) T.tuple (by decide +kernel) (pa_cons (pv 0) pa_nil)) pa_nil)) (pa_cons (pv 3) (pa_cons (pe_op op_sub (pe_callB (cr_maxK K rfl) (by rfl) T.max (by decide +kernel) (pa_cons (pv 2) pa_nil)) (pe_ix (ix_listK K) (pv 1) pe_int (fun _ _ => rfl))) pa_nil)))))))))), ?_⟩
    obtain ⟨a, cs, rfl, ha, L, A, q⟩ := h
    obtain ⟨T0, eT, W⟩ := lotW_of L A
    have une := CH.uniq_ne L.ne
    have hm : CH.minOf (CH.uniq cs) = T0.length := (CH.fst_minOf (CH.uniq_asc cs) une).trans W.fst
    have hb : CH.baseOf (CH.uniq cs) = T0 := CH.base_eq W.wt hm
    have hT : 0 < T0.length := by have := W.wt.len; omega
    have hfp : CH.farPseudo T0 (CH.uniq cs) = CH.pseudoOf (CH.uniq cs) T0 := by rw [farPseudo_eq]; exact CH.far_eq W.wt
    have hne : T0 ≠ [] := by
      intro z
      rw [z] at hT
      exact absurd hT (by decide)
    refine q_asgL (el_sortSetL (ev_var rfl) ha (by have := L.len; omega)) fun u H1 n1 e1 h1 => ?_
    refine q_asgL (xs := T0.map V.int) (el_callS (ea_cons (ev_var rfl) ea_nil) fun H2 e2 Q2 q2 => ⟨u, CH.uniq cs, rfl, sq_of (e2 _ _ h1), une, W.wt.cpos, by rw [hm]; have := W.tl; omega, by rw [hb]; exact q2⟩) fun b H2 n2 e2 h2 => ?_
    refine q_asgL (xs := (CH.pseudoOf (CH.uniq cs) T0).map V.int) (el_callS (ea_cons (ev_var rfl) (ea_cons (ev_var rfl) ea_nil)) fun H3 e3 Q3 q3 => ⟨b, u, T0, CH.uniq cs, rfl, sq_of (e3 _ _ h2), sq_of (e3 _ _ (e2 _ _ h1)), hT, by have := W.tl; omega, by rw [hfp]; exact q3⟩) fun d H3 n3 e3 h3 => ?_
    have ex3 := e1.trans (e2.trans e3)
    refine s_ret (ev_callB (eb_x (P0 := IsLot K cs) (evLot_U (eu_tupL (ev_var rfl) (ex_l ex3 ha)) (lotErr_none L)) isLot_mono fun H4 e4 => eb_v (ev_var rfl) fun H5 e5 => eb_v (ev_bin (ev_maxL (ev_var rfl) (sq_of (e5 _ _ (e4 _ _ (e3 _ _ h2)))) hne) (ev_ixL (ev_var rfl) ev_c (sq_of (e5 _ _ (e4 _ _ (e3 _ _ (e2 _ _ h1))))) (at_fst une))) fun H6 e6 => eb_nil) fun vs H4 e4 hv Q4 q4 => ?_) fun H4 e4 => q H4 (ex3.trans e4)
    obtain ⟨v, ws, rfl, ⟨p, rfl, Lp⟩, ws2, rfl, ws3, rfl, rfl⟩ := hv
    rw [eT] at Lp
    exact ⟨p, d, CH.uniq cs, T0, by rw [W.fst] <;> rfl, Lp, W, sq_of (e4 _ _ h3), q4⟩
end CHX

namespace CHX
open PySem PySem.Spec PyProof.Rows L2 Evl
variable {P : Program} {w : World} {K : PySem.W.Frag} {mg : Str → Option Value} {base : Heap}
theorem eb_ln {σ : L2.St} {H : Hp} {te : TE} {tr : TA} {xs : List V} {P : List V → Hp → Prop} (h : EvL te σ H xs) (hr : ∀ H1, Ex H H1 → EvB tr σ H1 P) : EvB (tCons te tr) σ H fun vs H2 => ∃ p ws, vs = .ref p :: ws ∧ H2 p = some (.lst xs) ∧ P ws H2 := fun H1 e Q q =>
  h H1 e _ fun p H2 n e2 hp => hr H2 (e.trans e2) H2 (Ex.refl H2) _ fun ws H3 e3 hP => q _ H3 (e2.trans e3) ⟨p, ws, rfl, e3 p _ hp, hP⟩
/-! ### _law_small -/
theorem coins_in {ns : List Int} {k : Nat} {c : Int} (h : c ∈ CH.drawCoins ns k) : 1 ≤ c ∧ c ≤ 17 := CH.up_in (fun _ h => draw1_in h) draw1_ne.1 h
theorem coins_ok (ns : List Int) (k : Nat) : CH.LotOk (CH.drawCoins ns k) ∧ CH.Apart (CH.drawCoins ns k) ∧ (CH.drawCoins ns k).length ≤ 7 ∧ ∃ c ∈ CH.drawCoins ns k, 2 ≤ c := by
  have h1 := draw1_ne (ns := ns) (k := k)
  obtain ⟨a1, a2, a3⟩ := CH.up_ne h1.1
  have len : (CH.drawCoins ns k).length ≤ 7 := by
    unfold CH.drawCoins
    omega
  obtain ⟨c, hc⟩ := List.exists_mem_of_ne_nil _ a1
  refine ⟨CH.lotok_of a1 (by omega) (fun c hc => by have := coins_in hc; omega) ⟨c, hc, by have := coins_in hc; omega⟩, CH.apart_up h1.1 fun c hc => by have := draw1_in hc; omega, len, ?_⟩
  have l0 := draw0_len (ns := ns) (k := k)
  have m0 := many_pos (ns := ns) (k := k)
  have ne0 : CH.draw0 ns k ≠ [] := by
    intro z
    rw [z] at l0
    have : ([] : List Int).length = 0 := rfl
    omega
  obtain ⟨x, hx⟩ := List.exists_mem_of_ne_nil _ ne0
  have hx1 : x ∈ CH.draw1 ns k := by
    unfold CH.draw1
    split
    · exact List.mem_append_left _ hx
    · exact hx
  refine ⟨x, a3 x hx1, ?_⟩
  unfold CH.draw0 at hx
  obtain ⟨i, _, rfl⟩ := List.mem_map.mp hx
  exact (draw_pos (ns := ns) (k := k) (i := i)).1
def spSmall (K : PySem.W.Frag) : Sp := fun vs H Q _ => ∃ (a : Addr) (ns : List Int), vs = [.ref a] ∧ SqL K H a (ns.map V.int) ∧ RetV (.bl true) H Q
theorem cal__law_small (T : Tx P K mg) : Cal P w K mg base 12 "_law_small" (spSmall K) := by
  obtain ⟨f, fd, F, hm⟩ := T.d__law_small
  refine ⟨f, fd, ["script"], F.ok sc__law_small (fun vs H Q E h => ?_) (fun cdv A outer s H vs Q E hr h => ?_), hm, F.kp, F.bindsN fun _ _ _ _ _ _ us hl => match us, hl with | [_], _ => rfl⟩
  · obtain ⟨a, ns, rfl, -⟩ := h
    rfl
  · refine ⟨_, ((pss_cons (ps_set (i := 1) sc__law_small.nd rfl (by first | exact Or.inl rfl | exact Or.inr rfl) (pe_cal0 (cal__law_draw_coins T) hr (by decide) (by rfl) (pa_cons (pv 0) (pa_cons pe_int pa_nil))))
  (pss_cons (ps_set (i := 2) sc__law_small.nd rfl (by first | exact Or.inl rfl | exact Or.inr rfl) (pe_callB (cr_sortedSet2 rfl) (by rfl) T.sorted (by decide +kernel) (pa_cons (pe_callTy (cr_setL rfl) (by rfl) T.set (by decide +kernel) (pa_cons (pv 1) pa_nil)) pa_nil)))
  (pss_cons (ps_set (i := 3) sc__law_small.nd rfl (by first | exact Or.inl rfl | exact Or.inr rfl) (pe_cal0 (cal__law_list_made T) hr (by decide) (by rfl) (pa_cons (pv 2) (pa_cons (pe_op op_mulW (pe_ix (ix_listK K) (pv 2) pe_int (fun _ _ => rfl)) (pe_ix (ix_listK K) (pv 2) (pe_un un_neg pe_int) (fun _ _ => rfl))) pa_nil))))
  (pss_cons (ps_set (i := 4) sc__law_small.nd rfl (by first | exact Or.inl rfl | exact Or.inr rfl) (pe_cal0 (cal__law_last_hole T) hr (by decide) (by rfl) (pa_cons (pv 3) pa_nil)))
  (pss_cons (ps_set (i := 5) sc__law_small.nd rfl (by first | exact Or.inl rfl | exact Or.inr rfl) (pe_cal0 (cal__law_due_pseudo T) hr (by decide) (by rfl) (pa_cons (pv 3) (pa_cons (pe_ix (ix_listK K) (pv 2) pe_int (fun _ _ => rfl)) (pa_cons (pv 4) pa_nil)))))
  (pss_cons (ps_set (i := 6) sc__law_small.nd rfl (by first | exact Or.inl rfl | exact Or.inr rfl) (pe_mak0 (mak_Lot T) hr (by decide) (by rfl) (pa_cons (pe_callTy (call_listK K) (by rfl) T.list (by decide +kernel) (pa_cons (pv 1) pa_nil)) pa_nil)))
  (pss_cons (ps_set (i := 7) sc__law_small.nd rfl (by first | exact Or.inl rfl | exact Or.inr rfl) (pe_mak0 (mak_Lot T) hr (by decide) (by rfl) (pa_cons (pe_op (op_catAK K) (pe_callTy (call_tupK K) (by rfl) T.tuple (by decide +kernel) (pa_cons (pv 2) pa_nil)) (pe_tup (pa_cons (pe_op op_add (pe_ix (ix_listK K) (pv 2) pe_int (fun _ _ => rfl)) (pe_ix (ix_listK K) (pv 2) (pe_un un_neg pe_int) (fun _ _ => rfl))) pa_nil))) pa_nil)))
  (pss_cons (ps_if (PW.pt (pw_or (pt_not (pt_val (pe_cal0 (cal__law_lot_right T) hr (by decide) (by rfl) (pa_cons (pv 6) (pa_cons (pv 5) (pa_cons (pv 4) pa_nil)))))) (pw_or1 (pt_not (pt_val (pe_cal0 (cal__law_lot_right T) hr (by decide) (by rfl) (pa_cons (pv 7) (pa_cons (pv 5) (pa_cons (pv 4) pa_nil)))))))))
    (pss_one (ps_ret pe_bl)) pss_nil)
  (pss_cons (ps_set (i := 8) sc__law_small.nd rfl (by first | exact Or.inl rfl | exact Or.inr rfl) (pe_cal0 (cal_pseudo_holes T) hr (by decide) (by rfl) (pa_cons (pv 6) pa_nil)))
  (pss_cons (ps_if (pt_not (pt_val (pe_cal0 (cal__law_below T) hr (by decide) (by rfl) (pa_cons (pv 3) (pa_cons (pe_callTy (call_listK K) (by rfl) T.list (by decide +kernel) (pa_cons (pv 8) pa_nil)) (pa_cons (pv 4) pa_nil))))))
    (pss_one (ps_ret pe_bl)) pss_nil)
  (pss_cons (ps_if (pt_not (pt_val (pe_cal0 (cal__law_grained T) hr (by decide) (by rfl) (pa_cons (pv 2) (pa_cons (pe_cal0 (cal__law_cell T) hr (by decide) (by rfl) (pa_cons (pv 0) (pa_cons pe_int pa_nil))) pa_nil)))))
    (pss_one (ps_ret pe_bl)) pss_nil)
  (pss_one (ps_ret (pe_cal0 (cal__law_is_tuple T) hr (by decide) (by rfl) (pa_cons (pe_cal0 (cal_pseudo_holes T) hr (by decide) (by rfl) (pa_cons (pv 6) pa_nil)) (pa_cons (pv 5) pa_nil))))))))))))))))), ?_⟩
    obtain ⟨a, ns, rfl, ha, q⟩ := h
    obtain ⟨L, A, clen, c2, hc2, h2⟩ := coins_ok ns 1
    have cin : ∀ c ∈ CH.drawCoins ns 1, 1 ≤ c ∧ c ≤ 17 := fun c hc => coins_in hc
    refine q_asgL (xs := (CH.drawCoins ns 1).map V.int) (el_callS (ea_cons (ev_var rfl) (ea_cons ev_c ea_nil)) fun H1 e1 Q1 q1 => ⟨a, ns, 1, rfl, ex_l e1 ha, q1⟩) fun pc H1 n1 e1 h1 => ?_
    generalize CH.drawCoins ns 1 = cs at *
    obtain ⟨T0, eT, W⟩ := lotW_of L A
    have une := CH.uniq_ne L.ne
    have uasc := CH.uniq_asc cs
    have uin : ∀ c ∈ CH.uniq cs, 1 ≤ c ∧ c ≤ 17 := fun c hc => cin c (CH.mem_uniq.mp hc)
    have fm := CH.fst_min uasc une
    have lm := CH.lst_max uasc une
    have hf := uin _ fm.1
    have hl := uin _ lm.1
    have hl2 : 2 ≤ CH.lst (CH.uniq cs) := by have := lm.2 c2 (CH.mem_uniq.mpr hc2); omega
    have hT : 0 < T0.length := by have := W.wt.len; omega
    have ulen : (CH.uniq cs).length ≤ 7 := Nat.le_trans CH.uniq_len clen
    have upos : ∀ c ∈ CH.uniq cs, 0 < c := fun c hc => by have := uin c hc; omega
    have uap : CH.Apart (CH.uniq cs) := CH.apart_congr (fun x => CH.mem_uniq.symm) A
    refine q_asgL (el_sortSetL (ev_var rfl) (sq_of h1) (by omega)) fun pu H2 n2 e2 h2' => ?_
    -- made
    obtain ⟨top, htop⟩ : ∃ top : Nat, (top : Int) = CH.fst (CH.uniq cs) * CH.lst (CH.uniq cs) := ⟨(CH.fst (CH.uniq cs) * CH.lst (CH.uniq cs)).toNat, Int.toNat_of_nonneg (Int.mul_nonneg (by omega) (by omega))⟩
    have htl : top ≤ 300 := by
      have : CH.fst (CH.uniq cs) * CH.lst (CH.uniq cs) ≤ 17 * 17 := Int.mul_le_mul hf.2 hl.2 (by omega) (by decide)
      omega
    have hst := CH.small_top W.wt lm.2 hl2
    rw [← W.fst, ← htop] at hst
    have ok : ∀ i : Nat, i ≤ top → (CH.bget (CH.listMade (CH.uniq cs) top) i = true ↔ CH.Made (CH.uniq cs) i) := fun i hi => CH.listMade_ok upos hi
    have mlen : (CH.listMade (CH.uniq cs) top).length = top + 1 := CH.listMade_len
    have l0 := W.wt.last_ge
    have elast : CH.lastHole (CH.listMade (CH.uniq cs) top) (CH.listMade (CH.uniq cs) top).length = CH.lastOf T0 := CH.lastHole_eq W.wt mlen ok (by omega)
    have edue : CH.duePseudo (CH.listMade (CH.uniq cs) top) (CH.fst (CH.uniq cs)) (CH.lastOf T0) = CH.pseudoOf (CH.uniq cs) T0 := by
      rw [W.fst]
      exact CH.duePseudo_eq W.wt ok (by rw [← W.fst]; omega)
    have ebel : CH.belowB (CH.listMade (CH.uniq cs) top) (CH.pseudoOf (CH.uniq cs) T0) (CH.lastOf T0) = true := CH.below_true W.wt ok (by omega)
    have pl : (CH.pseudoOf (CH.uniq cs) T0).length ≤ 64 := by
      unfold CH.pseudoOf
      refine Nat.le_trans (List.length_filter_le _ _) ?_
      rw [(CH.isort_perm _).length_eq, List.length_map]
      exact W.tl
    have zle : ∀ z ∈ CH.pseudoOf (CH.uniq cs) T0, z ≤ CH.lastOf T0 := fun z hz => ((CH.mem_pseudo W.wt).mp hz).le W.wt
    have hu := fun {H} (e : Ex H2 H) => (sq_of (e _ _ h2') : SqL K H pu ((CH.uniq cs).map V.int))
    refine q_asgL (xs := (CH.listMade (CH.uniq cs) top).map V.bl) (el_callS (vs := [.ref pu, .int (top : Int)]) (ea_cons (ev_var rfl) (ea_cons (by rw [htop]; exact ev_binC (ev_ixL (ev_var rfl) ev_c (hu (Ex.refl _)) (at_fst une)) (ev_ixL (ev_var rfl) (ev_un ev_c ru_neg) (hu (Ex.refl _)) (at_lst une)) (mulS (by omega) (by omega))) ea_nil)) fun H3 e3 Q3 q3 => ⟨pu, CH.uniq cs, top, rfl, hu e3, upos, by omega, q3⟩) fun pm H3 n3 e3 h3 => ?_
    generalize CH.listMade (CH.uniq cs) top = m at *
    refine q_asg (v := .int (CH.lastOf T0)) (ev_callS (ea_cons (ev_var rfl) ea_nil) fun H4 e4 Q4 q4 => ⟨pm, m, rfl, sq_of (e4 _ _ h3), by omega, by rw [elast]; exact q4⟩) fun H4 e4 => ?_
    have hm := fun {H} (e : Ex H4 H) => (sq_of (e _ _ (e4 _ _ h3)) : SqL K H pm (m.map V.bl))
    refine q_asgL (xs := (CH.pseudoOf (CH.uniq cs) T0).map V.int) (el_callS (ea_cons (ev_var rfl) (ea_cons (ev_ixL (ev_var rfl) ev_c (hu (e3.trans e4)) (at_fst une)) (ea_cons (ev_var rfl) ea_nil))) fun H5 e5 Q5 q5 => ⟨pm, m, _, _, rfl, hm e5, by omega, l0, by rw [mlen]; omega, by omega, by rw [edue]; exact q5⟩) fun pd H5 n5 e5 h5 => ?_
    refine q_asgX (evLot_L (cs := cs) (el_listQ (ev_var rfl) (.inl (sq_of (e5 _ _ (e4 _ _ (e3 _ _ (e2 _ _ h1))))))) (lotErr_none L)) fun v H6 e6 hv => ?_
    obtain ⟨p, rfl, Lp⟩ := hv
    rw [eT] at Lp
    -- the lot with a coin more
    have masc := CH.more_asc uasc une upos
    have mq : CH.uniq (CH.moreOf (CH.uniq cs)) = CH.moreOf (CH.uniq cs) := CH.uniq_self masc
    have min_ : ∀ c ∈ CH.moreOf (CH.uniq cs), 1 ≤ c ∧ c ≤ 34 := fun c hc => by
      rcases List.mem_append.mp hc with hc | hc
      · have := uin c hc
        omega
      · rw [List.mem_singleton.mp hc]
        omega
    have Lm : CH.LotOk (CH.moreOf (CH.uniq cs)) := CH.lotok_of (by unfold CH.moreOf; simp) (by unfold CH.moreOf; rw [List.length_append]; show _ + 1 ≤ 64; omega) (fun c hc => by have := min_ c hc; omega) ⟨_, List.mem_append_left _ fm.1, by omega⟩
    have Am : CH.Apart (CH.moreOf (CH.uniq cs)) := CH.apart_more (fun x hx => List.mem_append_left _ hx) uap
    obtain ⟨T1, eT1, W1⟩ := lotW_of Lm Am
    rw [mq] at W1
    have hmade := CH.more_made uasc une
    have el : T1.length = T0.length := by
      have x1 := W1.fst
      rw [CH.fst_more une, W.fst] at x1
      omega
    obtain rfl : T1 = T0 := CH.wt_congr hmade W1.wt W.wt el
    have ep : CH.pseudoOf (CH.uniq cs) T1 = CH.pseudoOf (CH.moreOf (CH.uniq cs)) T1 := CH.pseudo_congr (fun n => (hmade n).symm) (fun c hc => List.mem_append_left _ hc) (fun c hc => by have := min_ c hc; omega) W.wt W1.wt
    have hu6 := hu (e3.trans (e4.trans (e5.trans e6)))
    refine q_asgX (evLot_U (cs := CH.moreOf (CH.uniq cs)) ?_ (lotErr_none Lm)) fun v H7 e7 hv => ?_
    · unfold CH.moreOf
      rw [List.map_append]
      exact eu_cat (eu_tupL (ev_var rfl) hu6) (eu_tup (ea_cons (ev_bin (ev_ixL (ev_var rfl) ev_c hu6 (at_fst une)) (ev_ixL (ev_var rfl) (ev_un ev_c ru_neg) hu6 (at_lst une))) ea_nil) (show (1 : Nat) ≤ 100000 by decide)) (by simpa using une) (by simp) (by rw [List.length_map, List.length_map]; show _ + 1 ≤ _; omega)
    obtain ⟨r, rfl, Lr⟩ := hv
    rw [eT1, mq] at Lr
    have Lp := ex_lot e7 Lp
    have hd := fun {H} (e : Ex H7 H) => (sq_of (e _ _ (e7 _ _ (e6 _ _ h5))) : SqL K H pd ((CH.pseudoOf (CH.uniq cs) T1).map V.int))
    have ex7 := e1.trans (e2.trans (e3.trans (e4.trans (e5.trans (e6.trans e7)))))
    refine q_when (b := !true || !true) (et_or (et_not (et_B (ev_callS (ea_cons (ev_var rfl) (ea_cons (ev_var rfl) (ea_cons (ev_var rfl) ea_nil))) fun H8 e8 Q8 q8 => ⟨p, pd, _, T1, rfl, ex_lot e8 Lp, W, hd e8, q8⟩)))
      fun _ => et_not (et_B (ev_callS (ea_cons (ev_var rfl) (ea_cons (ev_var rfl) (ea_cons (ev_var rfl) ea_nil))) fun H8 e8 Q8 q8 => ⟨r, pd, _, T1, rfl, ex_lot e8 Lr, W1, by rw [← ep]; exact hd e8, q8⟩))) (fun z => nomatch z) (fun _ H8 e8 => ?_)
    have ph : ∀ {σ : L2.St} {H9 : Hp} {ta : TE}, Ex H8 H9 → Ev ta σ H9 (.ref p) → EvU (tCallS (spPseudo K) (fun _ _ _ _ => False) (tCons ta tNil)) σ H9 ((CH.pseudoOf (CH.uniq cs) T1).map V.int) := fun e h => eu_callS (ea_cons h ea_nil) fun H9 e9 Q9 q9 =>
      ⟨p, CH.uniq cs, CH.ents T1, rfl, ex_lot (e8.trans (e.trans e9)) Lp, fun T2 eT _ => by obtain rfl := ents_inj eT; exact q9, fun z => absurd W.one z, fun _ => ⟨T1, rfl, W⟩⟩
    refine q_asgU (ph (Ex.refl _) (ev_var rfl)) fun pt H9 n9 e9 h9 => ?_
    have e48 : Ex H4 H9 := e5.trans (e6.trans (e7.trans (e8.trans e9)))
    refine q_when (b := !true) (et_not (et_B (ev_callB (eb_v (ev_var rfl) fun H10 e10 => eb_ln (el_listQ (ev_var rfl) (.inr (st_of (e10 _ _ h9)))) fun H11 e11 => eb_v (ev_var rfl) fun H12 e12 => eb_nil) fun vs H10 e10 hv Q10 q10 => ?_))) (fun z => nomatch z) (fun _ H10 e10 => ?_)
    · obtain ⟨ws, rfl, z, ws2, rfl, hz, ws3, rfl, rfl⟩ := hv
      refine ⟨pm, z, m, CH.pseudoOf (CH.uniq cs) T1, CH.lastOf T1, rfl, hm (e48.trans e10), sq_of hz, zle, by omega, l0, by rw [mlen]; omega, by omega, ?_⟩
      rw [ebel]
      exact q10
    have e2_10 : Ex H2 H10 := e3.trans (e4.trans (e48.trans e10))
    refine q_when (b := !true) (et_not (et_B (ev_callS (ea_cons (ev_var rfl) (ea_cons (ev_callS (v := .int (CH.nth ns 7)) (ea_cons (ev_var rfl) (ea_cons ev_c ea_nil)) fun H11 e11 Q11 q11 => ⟨a, ns, 7, rfl, ex_l (e1.trans (e2.trans (e2_10.trans e11))) ha, q11⟩) ea_nil)) fun H11 e11 Q11 q11 => ⟨pu, CH.uniq cs, _, rfl, hu (e2_10.trans e11), une, by omega, fun c hc => by have := uin c hc; omega, uap, q11⟩))) (fun z => nomatch z) (fun _ H11 e11 => ?_)
    refine s_ret (ev_callB (eb_u (ph (e9.trans (e10.trans e11)) (ev_var rfl)) fun H12 e12 => eb_v (ev_var rfl) fun H13 e13 => eb_nil) fun vs H12 e12 hv Q12 q12 => ?_) fun H12 e12 => q H12 (ex7.trans (e8.trans (e9.trans (e10.trans (e11.trans e12)))))
    obtain ⟨z, ws, rfl, nz, hz, ws2, rfl, rfl⟩ := hv
    refine ⟨z, pd, _, _, rfl, hz, hd (e8.trans (e9.trans (e10.trans (e11.trans e12)))), by omega, ?_⟩
    rw [decide_eq_true rfl]
    exact q12
/-! ### law -/
theorem cut_map (ns : List Int) (lo hi : Option Int) : ∃ ms : List Int, cutV (ns.map V.int) lo hi = ms.map V.int := ⟨(ns.drop (HT.sIx (ns.map V.int).length 0 lo)).take (HT.sIx (ns.map V.int).length (ns.map V.int).length hi - HT.sIx (ns.map V.int).length 0 lo), by
  unfold cutV
  rw [List.map_take, List.map_drop]⟩
theorem lot1 : CH.LotOk [1] ∧ CH.Apart [1] ∧ CH.tabOf [1] = CH.ents [0] ∧ CH.uniq [1] = [1] := by
  refine ⟨CH.lotok_of (by decide) (by decide) (by decide) ⟨1, by decide, by decide⟩, fun d h1 hd => ?_, by decide +kernel, by decide +kernel⟩
  have := Int.le_of_dvd (by decide) (hd 1 (by decide))
  omega
theorem lot513 : CH.LotOk [5, 1, 3] ∧ CH.Apart [5, 1, 3] ∧ CH.tabOf [5, 1, 3] = CH.ents [0] ∧ CH.uniq [5, 1, 3] = [1, 3, 5] := by
  refine ⟨CH.lotok_of (by decide) (by decide) (by decide) ⟨1, by decide, by decide⟩, fun d h1 hd => ?_, by decide +kernel, by decide +kernel⟩
  have := Int.le_of_dvd (by decide) (hd 1 (by decide))
  omega
theorem pseudo1 : CH.pseudoOf [1] [0] = [-1] ∧ CH.pseudoOf [1, 3, 5] [0] = [-1] ∧ CH.lastOf [0] = -1 := by decide +kernel
theorem lotNear : CH.LotOk [9, 10 ^ 12 - 9, 10 ^ 12 - 6] ∧ CH.Apart [9, 10 ^ 12 - 9, 10 ^ 12 - 6] := by
  refine ⟨CH.lotok_of (by decide) (by decide) (by decide +kernel) ⟨9, by decide, by decide⟩, fun d h1 hd => ?_⟩
  have a := hd 9 (by decide)
  have b := hd (10 ^ 12 - 9) (by decide)
  have c : d ∣ 9 * 111111111110 := Int.dvd_mul_of_dvd_left a
  have e := Int.dvd_sub b c
  have e1 : (10 ^ 12 - 9 - 9 * 111111111110 : Int) = 1 := by decide
  rw [e1] at e
  have := Int.le_of_dvd (by decide) e
  omega
theorem far_lot (ns : List Int) (k : Nat) : CH.LotOk (CH.drawFar ns k) ∧ CH.Apart (CH.drawFar ns k) := by
  have hl := least_pos (ns := ns) (k := k)
  by_cases h : CH.farKind ns k = 3
  · have e : CH.drawFar ns k = CH.far64 ns k := if_pos h
    rw [e]
    have hs : 1 ≤ CH.farStep ns k ∧ CH.farStep ns k ≤ 64 * 10 ^ 8 + 1 ∧ ∃ r, CH.farStep ns k = CH.farLeast ns k * r + 1 := by
      unfold CH.farStep
      have a1 := Int.emod_nonneg (CH.nth ns (k + 1)) (b := 10 ^ 8) (by decide)
      have a2 := Int.emod_lt_of_pos (CH.nth ns (k + 1)) (b := 10 ^ 8) (by decide)
      generalize CH.nth ns (k + 1) % 10 ^ 8 = r at *
      have a3 : CH.farLeast ns k * r ≤ 64 * 10 ^ 8 := Int.mul_le_mul hl.2 (by omega) a1 (by decide)
      have a4 : 0 ≤ CH.farLeast ns k * r := Int.mul_nonneg (by omega) a1
      exact ⟨by omega, by omega, r, rfl⟩
    have mem : ∀ i : Nat, i < 64 → CH.farLeast ns k + (i : Int) * CH.farStep ns k ∈ CH.far64 ns k := fun i hi => List.mem_map.mpr ⟨i, List.mem_range.mpr hi, rfl⟩
    have len : (CH.far64 ns k).length = 64 := by
      unfold CH.far64
      rw [List.length_map, List.length_range]
    have m0 := mem 0 (by decide)
    have m1 := mem 1 (by decide)
    rw [show ((0 : Nat) : Int) = 0 from rfl, Int.zero_mul, Int.add_zero] at m0
    rw [show ((1 : Nat) : Int) = 1 from rfl, Int.one_mul] at m1
    refine ⟨CH.lotok_of (List.ne_nil_of_mem m0) (by omega) (fun c hc => ?_) ⟨_, m0, hl.2⟩, fun d h1 hd => ?_⟩
    · unfold CH.far64 at hc
      obtain ⟨i, hi, rfl⟩ := List.mem_map.mp hc
      have hi := List.mem_range.mp hi
      have h3 : (i : Int) * CH.farStep ns k ≤ 63 * (64 * 10 ^ 8 + 1) := Int.mul_le_mul (by omega) hs.2.1 (by omega) (by decide)
      have h4 : 0 ≤ (i : Int) * CH.farStep ns k := Int.mul_nonneg (by omega) (by omega)
      omega
    · have a := hd _ m0
      have b := hd _ m1
      obtain ⟨r, hr⟩ := hs.2.2
      have c := Int.dvd_sub b a
      have e1 : CH.farLeast ns k + CH.farStep ns k - CH.farLeast ns k = CH.farStep ns k := by omega
      rw [e1, hr] at c
      have c2 := Int.dvd_sub c (Int.dvd_mul_of_dvd_left a : d ∣ CH.farLeast ns k * r)
      have e2 : CH.farLeast ns k * r + 1 - CH.farLeast ns k * r = 1 := by omega
      rw [e2] at c2
      have := Int.le_of_dvd (by decide) c2
      omega
  · have e : CH.drawFar ns k = CH.apartDn (CH.far0 ns k) := if_neg h
    rw [e]
    obtain ⟨a1, a2, a3⟩ := CH.dn_ne (far0_ne (ns := ns) (k := k))
    have lf := far0_len (ns := ns) (k := k)
    have hm : CH.farLeast ns k ∈ CH.far0 ns k := by unfold CH.far0; simp
    exact ⟨CH.lotok_of a1 (by omega) (fun c hc => CH.dn_in (fun c hc => far0_in hc) hl.1 far0_ne hc) ⟨_, a3 _ hm, hl.2⟩, CH.apart_dn far0_ne fun c hc => by have := far0_in hc; omega⟩
def spLaw (K : PySem.W.Frag) : Sp := fun vs H Q _ => ∃ (a : Addr) (ns : List Int), vs = [.ref a] ∧ SqL K H a (ns.map V.int) ∧ RetV (.bl true) H Q
theorem fn_law (T : Tx P K mg) {f : Addr} {fd : FuncData} (F : FunD K "law" "law" (defArgs s_law) (defBody s_law) (defScope s_law) [] [] f fd) : FnOk P w K mg base (L2N.CX P w) 13 f fd ["script"] (spLaw K) := by
  refine F.ok sc_law (fun vs H Q E h => ?_) (fun cdv A outer s H vs Q E hr h => ?_)
  · obtain ⟨a, ns, rfl, -⟩ := h
    rfl
  · refine ⟨_, ((pss_cons (ps_set (i := 1) sc_law.nd rfl (by first | exact Or.inl rfl | exact Or.inr rfl) (pe_slice (sl_listK K) (pv 0) po_none (po_some pe_int)))
  (pss_cons (ps_if (PW.pt (pw_or (pt_not (pt_val (pe_cal0 (cal__law_lot_right T) hr (by decide) (by rfl) (pa_cons (pe_mak0 (mak_Lot T) hr (by decide) (by rfl) (pa_cons (pe_lst (pa_cons pe_int pa_nil)) pa_nil)) (pa_cons (pe_lst (pa_cons (pe_un un_neg pe_int) pa_nil)) (pa_cons (pe_un un_neg pe_int) pa_nil)))))) (pw_or1 (pt_not (pt_val (pe_cal0 (cal__law_lot_right T) hr (by decide) (by rfl) (pa_cons (pe_mak0 (mak_Lot T) hr (by decide) (by rfl) (pa_cons (pe_tup (pa_cons pe_int (pa_cons pe_int (pa_cons pe_int pa_nil)))) pa_nil)) (pa_cons (pe_lst (pa_cons (pe_un un_neg pe_int) pa_nil)) (pa_cons (pe_un un_neg pe_int) pa_nil)))))))))
    (pss_one (ps_ret pe_bl)) pss_nil)
  (pss_cons (ps_if (pt_not (pt_val (pe_cal0 (cal__law_far T) hr (by decide) (by rfl) (pa_cons (pe_lst (pa_cons pe_int (pa_cons (pe_op op_sub (pe_op op_pow pe_int pe_int) pe_int) (pa_cons (pe_op op_sub (pe_op op_pow pe_int pe_int) pe_int) pa_nil)))) pa_nil))))
    (pss_one (ps_ret pe_bl)) pss_nil)
  (pss_cons (ps_if (pt_cmpR op_eq (pe_op op_mod (pe_cal0 (cal__law_cell T) hr (by decide) (by rfl) (pa_cons (pv 1) (pa_cons pe_int pa_nil))) pe_int) pe_int (nomark _))
    (pss_one (ps_ret (pe_cal0 (cal__law_far T) hr (by decide) (by rfl) (pa_cons (pe_cal0 (cal__law_draw_far T) hr (by decide) (by rfl) (pa_cons (pv 1) (pa_cons pe_int pa_nil))) pa_nil)))) pss_nil)
  (pss_one (ps_ret (pe_cal0 (cal__law_small T) hr (by decide) (by rfl) (pa_cons (pv 1) pa_nil))))))))), ?_⟩
    obtain ⟨a, ns, rfl, ha, q⟩ := h
    obtain ⟨ms, hms⟩ := cut_map ns none (some 63)
    refine q_asgL (xs := ms.map V.int) (by rw [← hms]; exact el_sl (ev_var rfl) eo_none (eo_some ev_c) ha) fun c H1 n1 e1 h1 => ?_
    have right : ∀ {σ : L2.St} {H2 : Hp} {ta : TE} {cs us : List Int}, EvX ta σ H2 (IsLot K cs) → CH.LotOk cs → CH.Apart cs → CH.tabOf cs = CH.ents [0] → CH.uniq cs = us → CH.pseudoOf us [0] = [-1] → EvT (tNot (tB (tCallS (spLotRight K) (fun _ _ _ _ => False) (tCons ta (tCons (tLst (tCons (tUn (rU fun i => .int (-i)) (tC (.int 1))) tNil)) (tCons (tUn (rU fun i => .int (-i)) (tC (.int 1))) tNil)))))) σ H2 (!true) := by
      intro σ H2 ta cs us hl L A et hu hp
      refine et_not (et_B (ev_callB (eb_x hl isLot_mono fun H3 e3 => eb_ln (xs := [V.int (-1)]) (el_lst (ea_cons (ev_un ev_c ru_neg) ea_nil) (by decide)) fun H4 e4 => eb_v (v := .int (-1)) (ev_un ev_c ru_neg) fun H5 e5 => eb_nil) fun vs H3 e3 hv Q3 q3 => ?_))
      obtain ⟨v, ws, rfl, ⟨p, rfl, Lp⟩, d, ws2, rfl, hd, ws3, rfl, rfl⟩ := hv
      obtain ⟨T0, e0, W⟩ := lotW_of L A
      obtain rfl : [0] = T0 := ents_inj (et.symm.trans e0)
      rw [et] at Lp
      rw [hu] at Lp W
      refine ⟨p, d, us, [0], by rw [pseudo1.2.2], Lp, W, ?_, q3⟩
      rw [hp]
      exact sq_of hd
    refine q_when (b := !true || !true) (et_or (right (evLot_L (cs := [1]) (el_lst (ea_cons ev_c ea_nil) (by decide)) (lotErr_none lot1.1)) lot1.1 lot1.2.1 lot1.2.2.1 lot1.2.2.2 pseudo1.1)
      fun _ => right (evLot_U (cs := [5, 1, 3]) (eu_tup (ea_cons ev_c (ea_cons ev_c (ea_cons ev_c ea_nil))) (by decide)) (lotErr_none lot513.1)) lot513.1 lot513.2.1 lot513.2.2.1 lot513.2.2.2 pseudo1.2.1) (fun z => nomatch z) (fun _ H2 e2 => ?_)
    have p12 : CPow 10 12 := ⟨by decide, by decide, by decide⟩
    refine q_when (b := !true) (et_not (et_B (ev_callB (eb_ln (xs := ([9, 10 ^ 12 - 9, 10 ^ 12 - 6] : List Int).map V.int) (el_lst (ea_cons ev_c (ea_cons (ev_bin (ev_binC ev_c ev_c p12) ev_c) (ea_cons (ev_bin (ev_binC ev_c ev_c p12) ev_c) ea_nil))) (by decide)) fun H3 e3 => eb_nil) fun vs H3 e3 hv Q3 q3 => ?_))) (fun z => nomatch z) (fun _ H3 e3 => ?_)
    · obtain ⟨d, ws, rfl, hd, rfl⟩ := hv
      exact ⟨d, [9, 10 ^ 12 - 9, 10 ^ 12 - 6], rfl, sq_of hd, lotNear.1, lotNear.2, q3⟩
    have ex := e1.trans (e2.trans e3)
    have hc := fun {H} (e : Ex H3 H) => (sq_of (e _ _ (e3 _ _ (e2 _ _ h1))) : SqL K H c (ms.map V.int))
    refine q_when (b := decide (CH.nth ms 0 % 8 = 1)) (et_test (ev_eqI (ev_binC (ev_callS (ea_cons (ev_var rfl) (ea_cons ev_c ea_nil)) fun H4 e4 Q4 q4 => ⟨c, ms, 0, rfl, hc e4, q4⟩) ev_c (by decide)) ev_c)) (fun _ H4 e4 => ?_) (fun _ H4 e4 => ?_)
    · refine s_ret (ev_callB (eb_ln (xs := (CH.drawFar ms 1).map V.int) (el_callS (ea_cons (ev_var rfl) (ea_cons ev_c ea_nil)) fun H5 e5 Q5 q5 => ⟨c, ms, 1, rfl, hc (e4.trans e5), q5⟩) fun H5 e5 => eb_nil) fun vs H5 e5 hv Q5 q5 => ?_) fun H5 e5 => q H5 (ex.trans (e4.trans e5))
      obtain ⟨d, ws, rfl, hd, rfl⟩ := hv
      obtain ⟨f1, f2⟩ := far_lot ms 1
      exact ⟨d, _, rfl, sq_of hd, f1, f2, q5⟩
    · exact s_ret (ev_callS (ea_cons (ev_var rfl) ea_nil) fun H5 e5 Q5 q5 => ⟨c, ms, rfl, hc (e4.trans e5), q5⟩) fun H5 e5 => q H5 (ex.trans (e4.trans e5))
end CHX

namespace CHX
open PySem PySem.Spec PyProof.Rows L2 He
/-! ### the head's facts: a hook that looks at exceptions' classes, too -/
structure EnD where
  nm : PySem.Str
  fl : PySem.Str
  qual : PySem.Str
  st : Stmt
def fnWE (K : PySem.W.Frag) (nm : PySem.Str) : FnW := match K.lookup (ma K (ga K nm) "__init__") with
  | some ⟨_, _, .func fd, _⟩ => some (fd.name, fd.qualname, fd.params, fd.body, fd.scope, fd.globals, fd.closure.map fun q => (q.1, 0), fd.builtins)
  | _ => none
def EnD.val (d : EnD) : FnW := some ("__init__", d.qual, defArgs d.st, .stmts (defBody d.st), defScope d.st, mainGlobals, [("__class__", 0)], builtinsNs)
def oexB (K : PySem.W.Frag) (C : Addr) : Bool := match K.lookup C with
  | some ⟨.type t, _, .cls cd, sl⟩ => (match cd.mro, sl.toList with
    | .ref C' :: bm, [_, _, _, _, some (.builtin n), _] => decide (t = "type") && (decide (C' = C) && (decide (n = "ValueError.__new__") && (!cd.hasDel && (cd.hasDict && PySem.HandSPX.refsVE bm))))
    | _, _ => false)
  | _ => false
def inB (K : PySem.W.Frag) (C fI : Addr) (file : PySem.Str) : Bool := match K.lookup fI with
  | some ⟨_, _, .func fd, _⟩ => (match fd.closure, fd.code with
    | [(_, cc)], .ref cda => (match K.lookup cc with
        | some ⟨_, _, .cell (some (.ref C')), _⟩ => decide (C' = C)
        | _ => false) && ((match K.lookup cda with
        | some ⟨_, _, .fields vs, _⟩ => (match vs[2]? with
          | some (Value.str f _) => file == f
          | _ => false)
        | _ => false) && (PySem.W.codeIn K (.ref cda) fd.qualname && decide (fd.defaults = .none)))
    | _, _ => false)
  | _ => false
def supB (K : PySem.W.Frag) (file : PySem.Str) (d : EnD) : Bool :=
  eqO (PySem.W.nsIn K mainGlobals d.nm) (some (some (.ref (ga K d.nm)))) && (oexB K (ga K d.nm) && (eqO (PySem.W.findIn K (.ref (ga K d.nm)) "__setattr__") (some (some (.builtin "object.__setattr__"))) &&
  (decide (PySem.W.subIn K (.ref (ga K d.nm)) (.type "BaseException") = some true) && (decide (PySem.W.typeIn K (.ref (ga K d.nm)) = some (.type "type")) && (PySem.W.keepIn K (.ref (ga K d.nm)) &&
  (eqO (PySem.W.findIn K (.ref (ga K d.nm)) d.fl) (some none) && (eqO (PySem.W.findIn K (.ref (ga K d.nm)) "__init__") (some (some (.ref (ma K (ga K d.nm) "__init__")))) && (decide (PySem.W.typeIn K (.ref (ma K (ga K d.nm) "__init__")) = some (.type "function")) &&
  (eqO (PySem.W.ks_superIn K (ga K d.nm) (ga K d.nm) "__init__") (some (some (.builtin "ValueError.__init__"))) && (decide (PySem.W.subIn K (.ref (ga K d.nm)) (.type "ValueError") = some true) && (decide (PySem.W.mroIn K (ga K d.nm) (.ref (ga K d.nm)) = some true) &&
  (inB K (ga K d.nm) (ma K (ga K d.nm) "__init__") file && eqO (PySem.W.nsIn K PySem.cStatics "thirdparty.any") (some none)))))))))))))
def exdB (K : PySem.W.Frag) (D : PySem.Str) : Bool :=
  eqO (PySem.W.findIn K (.ref (ga K D)) "__getattribute__") (some (some (.builtin "BaseException.__getattribute__"))) && (eqO (PySem.W.findIn K (.ref (ga K D)) "__getattr__") (some none) && (decide (PySem.W.subIn K (.ref (ga K D)) (.type "BaseException") = some true) &&
  (PySem.W.hasDictIn K (ga K D) && (eqO (PySem.W.findIn K (.ref (ga K D)) "__class__") (some (some (.builtin "object.__class__"))) && (eqO (PySem.W.specialIn K (.builtin "object.__class__") "__get__") (some (some (.builtin "getset_descriptor.__get__"))) &&
  (decide (PySem.W.takesIn K (.builtin "object.__class__") = some true) && (decide (PySem.W.mroIn K (ga K D) (.type "object") = some true) && ((xFlds.all fun n => eqO (PySem.W.findIn K (.ref (ga K D)) n) (some none)) &&
  (decide (PySem.W.kitOne K (.ref (ga K D)) (.type "ValueError") = some true) && (decide (PySem.W.exmOne K (.ref (ga K D)) (.ref (ga K "CoinError")) = some true) && (clNames.all fun x => decide (PySem.W.kitOne K (.ref (ga K D)) (.ref (ga K x)) = some (decide (D = x))))))))))))))
/-- all that a law's head is asked -/
structure Ask where
  fa : List Fa
  fn : List DefD
  en : List EnD
  ex : List PySem.Str
  file : PySem.Str
  ms : List PySem.Str
def Ask.b (q : Ask) (K : PySem.W.Frag) : Bool := (q.fa.all fun f => f.ok K) && ((q.fn.all fun d => d.ok K) && ((q.en.all fun d => supB K q.file d) && ((q.ex.all fun D => exdB K D) && eqO (PySem.W.nsIn K mainGlobals "gcd") (some (some (.builtin "math.gcd"))))))
def Ask.obs (q : Ask) (K : PySem.W.Frag) : AlD := (q.b K, (q.fn.map fun d => fnW K d.at_) ++ q.en.map fun d => fnWE K d.nm)
def Ask.val (q : Ask) : AlD := (true, q.fn.map DefD.val ++ q.en.map EnD.val)
def refsN (ms : List PySem.Str) (o : Obj) : List Addr := match o.data with
  | .dict es _ => es.toList.flatMap fun e => (match e.key with
    | .str x _ => (match ms.isEmpty || ms.contains x with
      | true => refV e.val
      | false => [])
    | _ => [])
  | _ => []
def refsF (o : Obj) : List Addr := match o.data with
  | .func fd => refV fd.code ++ (refV fd.defaults ++ fd.closure.map (·.2))
  | .cls cd => [cd.ns]
  | _ => []
def atX (g : Addr → Option Obj) (f : Obj → List Addr) (as : List Addr) : List Addr := as.flatMap fun a => match g a with
  | some o => f o
  | none => []
def as1 (g : Addr → Option Obj) : List Addr := atX g (refsN []) [mainGlobals]
def as2 (g : Addr → Option Obj) : List Addr := atX g refsF (as1 g)
def as3 (ms : List PySem.Str) (g : Addr → Option Obj) : List Addr := atX g (refsN ms) (as2 g)
def as4 (ms : List PySem.Str) (g : Addr → Option Obj) : List Addr := atX g refsF (as3 ms g)
/-- the objects that the law's facts speak of -/
def asX (ms : List PySem.Str) (g : Addr → Option Obj) : List Addr := mainGlobals :: PySem.cStatics :: (as1 g ++ (as2 g ++ (as3 ms g ++ as4 ms g)))
def Ask.obsG (q : Ask) (n : Nat) (g : Addr → Option Obj) : AlD := q.obs (frG g (asX q.ms g))
def Ask.hook (q : Ask) (n : Nat) : PySem.W.Hook where
  α := AlD
  obs := fun s => q.obsG n s.heap.get?
  val := fun _ => q.val
  says := fun _ h => ∃ K : PySem.W.Frag, K.In h ∧ q.obs K = q.val
  of := fun _ _ e => ⟨_, frG_in, e⟩
  keeps := fun _ _ _ ⟨K, hK, c⟩ k => ⟨K, PySem.W.Frag.In.keeps hK k, c⟩
theorem Ask.obsG_eq {q : Ask} {n : Nat} {g : Addr → Option Obj} {s : Shared} (h : ∀ a, g a = s.heap.get? a) : q.obsG n g = (q.hook n).obs s := by
  have e : g = s.heap.get? := funext h
  rw [e] <;> rfl
section
variable {q : Ask} {K : PySem.W.Frag} {h : Heap} {mg : Str → Option Value}
theorem Ask.all (c : q.obs K = q.val) : q.b K = true := congrArg (fun z : AlD => z.1) c
theorem Ask.fact (c : q.obs K = q.val) (i : Nat) {f : Fa} (h : q.fa[i]? = some f := by rfl) : f.ok K = true := List.all_eq_true.mp (ba (Ask.all c)).1 f (List.mem_of_getElem? h)
theorem Ask.facts (c : q.obs K = q.val) {f : Fa} (h : f ∈ q.fa) : f.ok K = true := List.all_eq_true.mp (ba (Ask.all c)).1 f h
theorem Ask.def_ (c : q.obs K = q.val) (i : Nat) {d : DefD} (h : q.fn[i]? = some d := by rfl) : ∃ fd, FunD K d.name d.qual d.params d.body d.scope (d.dvs K) (d.kws K) (fAd K d.at_) fd := by
  have c2 := (ba (ba (Ask.all c)).2).1
  have e : (q.fn.map fun d => fnW K d.at_) ++ (q.en.map fun d => fnWE K d.nm) = q.fn.map DefD.val ++ q.en.map EnD.val := congrArg (fun z : AlD => z.2) c
  have e1 := (List.append_inj e (by rw [List.length_map, List.length_map])).1
  have e2 : (q.fn.map fun d => fnW K d.at_)[i]? = (q.fn.map DefD.val)[i]? := by rw [e1]
  rw [List.getElem?_map, List.getElem?_map, h] at e2
  exact DefD.funD (Option.some.inj e2) (List.all_eq_true.mp c2 d (List.mem_of_getElem? h))
theorem Ask.gcd (X : K.In h) (G : h.Ns mainGlobals mg) (c : q.obs K = q.val) : mg "gcd" = some (.builtin "math.gcd") := PySem.W.mg_of X G (eqO_ok (ba (ba (ba (ba (Ask.all c)).2).2).2).2)
theorem Ask.exd (c : q.obs K = q.val) {D : PySem.Str} (hD : D ∈ q.ex) : ExD K D := by
  have c1 := List.all_eq_true.mp (ba (ba (ba (ba (Ask.all c)).2).2).2).1 D hD
  unfold exdB at c1
  obtain ⟨a1, c1⟩ := ba c1
  obtain ⟨a2, c1⟩ := ba c1
  obtain ⟨a3, c1⟩ := ba c1
  obtain ⟨a4, c1⟩ := ba c1
  obtain ⟨a5, c1⟩ := ba c1
  obtain ⟨a6, c1⟩ := ba c1
  obtain ⟨a7, c1⟩ := ba c1
  obtain ⟨a8, c1⟩ := ba c1
  obtain ⟨a9, c1⟩ := ba c1
  obtain ⟨a10, c1⟩ := ba c1
  obtain ⟨a11, a12⟩ := ba c1
  have b1 := eqO_ok a1
  have b2 := eqO_ok a2
  have b3 := of_decide_eq_true a3
  exact ⟨⟨b1, b2, b3, a4, eqO_ok a5, eqO_ok a6, of_decide_eq_true a7, of_decide_eq_true a8⟩, ⟨b1, b2, b3, a4⟩, fun n hn => eqO_ok (List.all_eq_true.mp a9 n hn), of_decide_eq_true a10, of_decide_eq_true a11, fun x hx => of_decide_eq_true (List.all_eq_true.mp a12 x hx)⟩
theorem oexB_ok {C : Addr} (h : oexB K C = true) (sa : PySem.W.findIn K (.ref C) "__setattr__" = some (some (.builtin "object.__setattr__"))) (exC : PySem.W.subIn K (.ref C) (.type "BaseException") = some true) (tyC : PySem.W.typeIn K (.ref C) = some (.type "type")) (kC : PySem.W.keepIn K (.ref C) = true) : OexC K C := by
  refine ⟨?_, sa, exC, tyC, kC⟩
  unfold oexB at h
  split at h
  · rename_i t dd cd sl e
    split at h
    · rename_i C' bm k0 k1 k2 k3 n k5 em es
      obtain ⟨a1, h⟩ := ba h
      obtain ⟨a2, h⟩ := ba h
      obtain ⟨a3, h⟩ := ba h
      obtain ⟨a4, h⟩ := ba h
      obtain ⟨a5, a6⟩ := ba h
      have t1 := of_decide_eq_true a1
      have t2 := of_decide_eq_true a2
      have t3 := of_decide_eq_true a3
      subst t1 t2 t3
      obtain ⟨c1, c2, c3, c4, c5, c6, c7, c8, c9, c10, c11⟩ := cd
      simp only at em a4 a5
      have hd : c11 = false := by simpa using a4
      subst em hd a5
      have esl : sl = #[k0, k1, k2, k3, some (.builtin "ValueError.__new__"), k5] := by rw [← es, Array.toArray_toList]
      subst esl
      exact ⟨_, _, _, _, bm, _, _, _, _, _, _, _, _, _, _, e, a6⟩
    · cases h
  · cases h
/-- the form of such an __init__ -/
def EForm (d : EnD) : Prop := ∃ (p1 p2 q0 q1 q2 q3 q4 q5 r1 r2 r3 r4 : Pos) (txt : Str), defArgs d.st = eArgs d.fl p1 p2 ∧ defBody d.st = eBody d.fl txt q0 q1 q2 q3 q4 q5 r1 r2 r3 r4 ∧ defScope d.st = eScope d.fl ∧ (q2.endLine == q4.line) = true
theorem Ask.sup {P : Program} (X : K.In h) (G : h.Ns mainGlobals mg) (c : q.obs K = q.val) (i : Nat) {d : EnD} (hd : q.en[i]? = some d) (ef : EForm d) (hf : q.file = P.main.file) (gS : mg "super" = none) (top : (P.main.scope.names.lookup ("super" : Str)).isSome = false) :
    ∃ fI cc cda, SupTxt P K mg d.nm d.fl (ga K d.nm) fI cc cda := by
  have e : (q.fn.map fun d => fnW K d.at_) ++ (q.en.map fun d => fnWE K d.nm) = q.fn.map DefD.val ++ q.en.map EnD.val := congrArg (fun z : AlD => z.2) c
  have e1 := (List.append_inj e (by rw [List.length_map, List.length_map])).2
  have e2 : (q.en.map fun d => fnWE K d.nm)[i]? = (q.en.map EnD.val)[i]? := by rw [e1]
  rw [List.getElem?_map, List.getElem?_map, hd] at e2
  have ev : fnWE K d.nm = d.val := Option.some.inj e2
  have s1 := List.all_eq_true.mp (ba (ba (ba (Ask.all c)).2).2).1 d (List.mem_of_getElem? hd)
  unfold supB at s1
  obtain ⟨a1, s1⟩ := ba s1
  obtain ⟨a2, s1⟩ := ba s1
  obtain ⟨a3, s1⟩ := ba s1
  obtain ⟨a4, s1⟩ := ba s1
  obtain ⟨a5, s1⟩ := ba s1
  obtain ⟨a6, s1⟩ := ba s1
  obtain ⟨a7, s1⟩ := ba s1
  obtain ⟨a8, s1⟩ := ba s1
  obtain ⟨a9, s1⟩ := ba s1
  obtain ⟨a10, s1⟩ := ba s1
  obtain ⟨a11, s1⟩ := ba s1
  obtain ⟨a12, s1⟩ := ba s1
  obtain ⟨a13, a14⟩ := ba s1
  rw [hf] at a13
  generalize hI : ma K (ga K d.nm) "__init__" = fI at *
  unfold fnWE at ev
  rw [hI] at ev
  unfold inB at a13
  split at a13
  · rename_i oc od fd osl lk
    rw [lk] at ev
    split at a13
    · rename_i y cc cda ecl eco
      obtain ⟨b1, b2⟩ := ba a13
      obtain ⟨b3, b4⟩ := ba b2
      obtain ⟨b5, b6⟩ := ba b4
      have b7 := of_decide_eq_true b6
      clear b6
      obtain ⟨n1, n2, n3, n4, n5, n6, n7, n8, n9, n10, n11, n12, n13, n14, n15⟩ := fd
      simp only at ecl eco b5 b7
      subst ecl eco b7
      have ev2 : (some (n1, n2, n3, n4, n5, n6, [(y, 0)], n15) : FnW) = (some (("__init__" : Str), d.qual, defArgs d.st, FuncBody.stmts (defBody d.st), defScope d.st, mainGlobals, [(("__class__" : Str), 0)], builtinsNs) : FnW) := ev
      simp only [Option.some.injEq, Prod.mk.injEq, List.cons.injEq, and_true] at ev2
      obtain ⟨h1, h2, h3, h4, h5, h6, h7, h8⟩ := ev2
      obtain ⟨p1, p2, q0, q1, q2, q3, q4, q5, r1, r2, r3, r4, txt, f1, f2, f3, f4⟩ := ef
      rw [f1] at h3
      rw [f2] at h4
      rw [f3] at h5
      subst h1 h2 h3 h4 h5 h6 h7 h8
      have cell : ∃ a b dd, K.lookup cc = some ⟨a, b, .cell (some (.ref (ga K d.nm))), dd⟩ := by
        split at b1
        · rename_i oc2 od2 C' sl2 lc
          have := of_decide_eq_true b1
          subst this
          exact ⟨_, _, _, lc⟩
        · cases b1
      have code : ∃ a b vs dd file tf, K.lookup cda = some ⟨a, b, .fields vs, dd⟩ ∧ vs[2]? = some (.str file tf) ∧ ((P.main.file : Str) == file) = true := by
        split at b3
        · rename_i oc3 od3 vs sl3 lc
          split at b3
          · rename_i ff tf hv
            exact ⟨_, _, vs, _, ff, tf, lc, hv, b3⟩
          · cases b3
        · cases b3
      have a4' := of_decide_eq_true a4
      exact ⟨fI, cc, cda, PySem.W.mg_of X G (eqO_ok a1), oexB_ok a2 (eqO_ok a3) a4' (of_decide_eq_true a5) a6, eqO_ok a7, eqO_ok a8, of_decide_eq_true a9, eqO_ok a10, of_decide_eq_true a11, of_decide_eq_true a12, cell, code, gS, top, eqO_ok a14, ⟨_, _, _, _, _, _, _, _, _, p1, p2, q0, q1, q2, q3, q4, q5, r1, r2, r3, r4, txt, lk, b5, f4⟩⟩
    · cases a13
  · cases a13
end
end CHX

namespace CHX
open PySem PySem.Spec PyProof.Rows L2 He
/-! ### the head: its facts by names, the run, the end -/
def aFa0 : List Fa := [.free "len", .free "list", .free "tuple", .free "range", .free "min", .free "max", .free "sorted", .free "set", .free "all", .free "any", .free "int", .free "bool"]
def aFa1 : List Fa := [.free "isinstance", .free "sum", .free "ValueError", .free "super", .int "COIN" (10 ^ 12), .glo "in_table", .glo "put_coin", .glo "table_of", .glo "look_number", .glo "look_far", .glo "look_list", .glo "look_numbers"]
def aFa2 : List Fa := [.glo "look_whole", .glo "pseudo_holes", .glo "breadth", .glo "greatest_hole", .glo "starts_table", .glo "members_of", .glo "mirror_table", .glo "Ideal", .mkr "Ideal", .meth "Ideal" "needed_members", .glo "ideal_of_table", .glo "canonical_table"]
def aFa3 : List Fa := [.glo "canonical", .glo "gcd_of", .glo "Lot", .mkr "Lot", .glo "_law_is_integer", .glo "_law_is_number", .glo "_law_is_tuple", .glo "_law_cell", .glo "_law_classes", .glo "_law_refusal", .glo "_law_refused", .glo "_law_grain_of"]
def aFa4 : List Fa := [.glo "_law_draw_coins", .glo "_law_list_made", .glo "_law_last_hole", .glo "_law_far_coin", .glo "_law_draw_far", .glo "_law_nearest", .glo "_law_base_of", .glo "_law_due_pseudo", .glo "_law_ask", .glo "_law_lot_right", .glo "_law_below", .glo "_law_grained"]
def aFa5 : List Fa := [.glo "_law_small", .glo "_law_far_pseudo", .glo "_law_far", .glo "law", .glo "SizeError", .glo "NumberError", .glo "WideError", .glo "TooMany", .glo "FewCoins", .glo "GrainError", .glo "RowError", .glo "NotMade"]
def aFa6 : List Fa := [.glo "NoCoin", .glo "CoprimeError", .glo "PlaceError", .glo "TradeError", .glo "HoleError", .glo "PointError", .glo "TextError", .glo "FlatError", .glo "CrossError", .glo "WayError", .glo "OtherLot", .glo "EditError"]
def aFa7 : List Fa := [.glo "HistoryError", .glo "CoinError", .cls "Lot", .noat "Lot" "coins", .noat "Lot" "size", .noat "Lot" "grain", .noat "Lot" "least", .noat "Lot" "greatest", .noat "Lot" "_table", .cls "Ideal", .noat "Ideal" "lot", .noat "Ideal" "_made"]
def aFa8 : List Fa := [.noat "Ideal" "table", .noat "Ideal" "lowest"]
def aFa : List Fa := aFa0 ++ (aFa1 ++ (aFa2 ++ (aFa3 ++ (aFa4 ++ (aFa5 ++ (aFa6 ++ (aFa7 ++ (aFa8))))))))
def aFn0 : List DefD := [⟨("in_table", none), "in_table", "in_table", defArgs s_in_table, defBody s_in_table, defScope s_in_table, [], []⟩, ⟨("put_coin", none), "put_coin", "put_coin", defArgs s_put_coin, defBody s_put_coin, defScope s_put_coin, [], []⟩, ⟨("table_of", none), "table_of", "table_of", defArgs s_table_of, defBody s_table_of, defScope s_table_of, [], []⟩, ⟨("look_number", none), "look_number", "look_number", defArgs s_look_number, defBody s_look_number, defScope s_look_number, [], []⟩, ⟨("look_far", none), "look_far", "look_far", defArgs s_look_far, defBody s_look_far, defScope s_look_far, [], []⟩, ⟨("look_list", none), "look_list", "look_list", defArgs s_look_list, defBody s_look_list, defScope s_look_list, [], []⟩, ⟨("look_numbers", none), "look_numbers", "look_numbers", defArgs s_look_numbers, defBody s_look_numbers, defScope s_look_numbers, [], []⟩, ⟨("look_whole", none), "look_whole", "look_whole", defArgs s_look_whole, defBody s_look_whole, defScope s_look_whole, [], []⟩, ⟨("pseudo_holes", none), "pseudo_holes", "pseudo_holes", defArgs s_pseudo_holes, defBody s_pseudo_holes, defScope s_pseudo_holes, [], []⟩, ⟨("breadth", none), "breadth", "breadth", defArgs s_breadth, defBody s_breadth, defScope s_breadth, [], []⟩, ⟨("greatest_hole", none), "greatest_hole", "greatest_hole", defArgs s_greatest_hole, defBody s_greatest_hole, defScope s_greatest_hole, [], []⟩, ⟨("starts_table", none), "starts_table", "starts_table", defArgs s_starts_table, defBody s_starts_table, defScope s_starts_table, [], []⟩]
def aFn1 : List DefD := [⟨("members_of", none), "members_of", "members_of", defArgs s_members_of, defBody s_members_of, defScope s_members_of, [], []⟩, ⟨("mirror_table", none), "mirror_table", "mirror_table", defArgs s_mirror_table, defBody s_mirror_table, defScope s_mirror_table, [], []⟩, ⟨("Ideal", some "__init__"), "__init__", "Ideal.__init__", defArgs s_Ideal_init, defBody s_Ideal_init, defScope s_Ideal_init, [], []⟩, ⟨("Ideal", some "needed_members"), "needed_members", "Ideal.needed_members", defArgs s_Ideal_needed_members, defBody s_Ideal_needed_members, defScope s_Ideal_needed_members, [], []⟩, ⟨("ideal_of_table", none), "ideal_of_table", "ideal_of_table", defArgs s_ideal_of_table, defBody s_ideal_of_table, defScope s_ideal_of_table, [], []⟩, ⟨("canonical_table", none), "canonical_table", "canonical_table", defArgs s_canonical_table, defBody s_canonical_table, defScope s_canonical_table, [], []⟩, ⟨("canonical", none), "canonical", "canonical", defArgs s_canonical, defBody s_canonical, defScope s_canonical, [], []⟩, ⟨("gcd_of", none), "gcd_of", "gcd_of", defArgs s_gcd_of, defBody s_gcd_of, defScope s_gcd_of, [], []⟩, ⟨("Lot", some "__init__"), "__init__", "Lot.__init__", defArgs s_Lot_init, defBody s_Lot_init, defScope s_Lot_init, [], []⟩, ⟨("_law_is_integer", none), "_law_is_integer", "_law_is_integer", defArgs s__law_is_integer, defBody s__law_is_integer, defScope s__law_is_integer, [], []⟩, ⟨("_law_is_number", none), "_law_is_number", "_law_is_number", defArgs s__law_is_number, defBody s__law_is_number, defScope s__law_is_number, [], []⟩, ⟨("_law_is_tuple", none), "_law_is_tuple", "_law_is_tuple", defArgs s__law_is_tuple, defBody s__law_is_tuple, defScope s__law_is_tuple, [], []⟩]
def aFn2 : List DefD := [⟨("_law_cell", none), "_law_cell", "_law_cell", defArgs s__law_cell, defBody s__law_cell, defScope s__law_cell, [], []⟩, ⟨("_law_classes", none), "_law_classes", "_law_classes", defArgs s__law_classes, defBody s__law_classes, defScope s__law_classes, [], []⟩, ⟨("_law_refusal", none), "_law_refusal", "_law_refusal", defArgs s__law_refusal, defBody s__law_refusal, defScope s__law_refusal, [], []⟩, ⟨("_law_refused", none), "_law_refused", "_law_refused", defArgs s__law_refused, defBody s__law_refused, defScope s__law_refused, [], []⟩, ⟨("_law_grain_of", none), "_law_grain_of", "_law_grain_of", defArgs s__law_grain_of, defBody s__law_grain_of, defScope s__law_grain_of, [], []⟩, ⟨("_law_draw_coins", none), "_law_draw_coins", "_law_draw_coins", defArgs s__law_draw_coins, defBody s__law_draw_coins, defScope s__law_draw_coins, [], []⟩, ⟨("_law_list_made", none), "_law_list_made", "_law_list_made", defArgs s__law_list_made, defBody s__law_list_made, defScope s__law_list_made, [], []⟩, ⟨("_law_last_hole", none), "_law_last_hole", "_law_last_hole", defArgs s__law_last_hole, defBody s__law_last_hole, defScope s__law_last_hole, [], []⟩, ⟨("_law_far_coin", none), "_law_far_coin", "_law_far_coin", defArgs s__law_far_coin, defBody s__law_far_coin, defScope s__law_far_coin, [], []⟩, ⟨("_law_draw_far", none), "_law_draw_far", "_law_draw_far", defArgs s__law_draw_far, defBody s__law_draw_far, defScope s__law_draw_far, [], []⟩, ⟨("_law_nearest", none), "_law_nearest", "_law_nearest", defArgs s__law_nearest, defBody s__law_nearest, defScope s__law_nearest, [], []⟩, ⟨("_law_base_of", none), "_law_base_of", "_law_base_of", defArgs s__law_base_of, defBody s__law_base_of, defScope s__law_base_of, [], []⟩]
def aFn3 : List DefD := [⟨("_law_due_pseudo", none), "_law_due_pseudo", "_law_due_pseudo", defArgs s__law_due_pseudo, defBody s__law_due_pseudo, defScope s__law_due_pseudo, [], []⟩, ⟨("_law_ask", none), "_law_ask", "_law_ask", defArgs s__law_ask, defBody s__law_ask, defScope s__law_ask, [], []⟩, ⟨("_law_lot_right", none), "_law_lot_right", "_law_lot_right", defArgs s__law_lot_right, defBody s__law_lot_right, defScope s__law_lot_right, [], []⟩, ⟨("_law_below", none), "_law_below", "_law_below", defArgs s__law_below, defBody s__law_below, defScope s__law_below, [], []⟩, ⟨("_law_grained", none), "_law_grained", "_law_grained", defArgs s__law_grained, defBody s__law_grained, defScope s__law_grained, [], []⟩, ⟨("_law_small", none), "_law_small", "_law_small", defArgs s__law_small, defBody s__law_small, defScope s__law_small, [], []⟩, ⟨("_law_far_pseudo", none), "_law_far_pseudo", "_law_far_pseudo", defArgs s__law_far_pseudo, defBody s__law_far_pseudo, defScope s__law_far_pseudo, [], []⟩, ⟨("_law_far", none), "_law_far", "_law_far", defArgs s__law_far, defBody s__law_far, defScope s__law_far, [], []⟩, ⟨("law", none), "law", "law", defArgs s_law, defBody s_law, defScope s_law, [], []⟩]
def aFn : List DefD := aFn0 ++ (aFn1 ++ (aFn2 ++ (aFn3)))
def aEn : List EnD := [⟨"SizeError", "count", "SizeError.__init__", inC (topS 8) 0⟩, ⟨"NumberError", "number", "NumberError.__init__", inC (topS 9) 0⟩, ⟨"WideError", "number", "WideError.__init__", inC (topS 10) 0⟩, ⟨"GrainError", "grain", "GrainError.__init__", inC (topS 13) 0⟩]
def aNames0 : List PySem.Str := [("gcd" : PySem.Str), ("_wall" : PySem.Str), ("in_table" : PySem.Str), ("put_coin" : PySem.Str), ("table_of" : PySem.Str), ("CoinError" : PySem.Str), ("SizeError" : PySem.Str), ("NumberError" : PySem.Str), ("WideError" : PySem.Str), ("TooMany" : PySem.Str), ("FewCoins" : PySem.Str), ("GrainError" : PySem.Str)]
def aNames1 : List PySem.Str := [("FlatError" : PySem.Str), ("CrossError" : PySem.Str), ("RowError" : PySem.Str), ("NotMade" : PySem.Str), ("NoCoin" : PySem.Str), ("CoprimeError" : PySem.Str), ("PlaceError" : PySem.Str), ("WayError" : PySem.Str), ("TradeError" : PySem.Str), ("OtherLot" : PySem.Str), ("HoleError" : PySem.Str), ("PointError" : PySem.Str)]
def aNames2 : List PySem.Str := [("TextError" : PySem.Str), ("EditError" : PySem.Str), ("HistoryError" : PySem.Str), ("FAR" : PySem.Str), ("COIN" : PySem.Str), ("look_number" : PySem.Str), ("look_far" : PySem.Str), ("look_list" : PySem.Str), ("look_numbers" : PySem.Str), ("look_whole" : PySem.Str), ("pseudo_holes" : PySem.Str), ("breadth" : PySem.Str)]
def aNames3 : List PySem.Str := [("greatest_hole" : PySem.Str), ("starts_table" : PySem.Str), ("joined_table" : PySem.Str), ("met_table" : PySem.Str), ("added_table" : PySem.Str), ("apart_table" : PySem.Str), ("members_of" : PySem.Str), ("mirror_table" : PySem.Str), ("look_same" : PySem.Str), ("Ideal" : PySem.Str), ("ideal_of_table" : PySem.Str), ("canonical_table" : PySem.Str)]
def aNames4 : List PySem.Str := [("canonical" : PySem.Str), ("Makers" : PySem.Str), ("gcd_of" : PySem.Str), ("Lot" : PySem.Str), ("_law_is_integer" : PySem.Str), ("_law_is_number" : PySem.Str), ("_law_is_tuple" : PySem.Str), ("_law_cell" : PySem.Str), ("_law_classes" : PySem.Str), ("_law_refusal" : PySem.Str), ("_law_refused" : PySem.Str), ("_law_grain_of" : PySem.Str)]
def aNames5 : List PySem.Str := [("_law_draw_coins" : PySem.Str), ("_law_list_made" : PySem.Str), ("_law_last_hole" : PySem.Str), ("_law_far_coin" : PySem.Str), ("_law_draw_far" : PySem.Str), ("_law_nearest" : PySem.Str), ("_law_base_of" : PySem.Str), ("_law_due_pseudo" : PySem.Str), ("_law_ask" : PySem.Str), ("_law_lot_right" : PySem.Str), ("_law_below" : PySem.Str), ("_law_grained" : PySem.Str)]
def aNames6 : List PySem.Str := [("_law_small" : PySem.Str), ("_law_far_pseudo" : PySem.Str), ("_law_far" : PySem.Str)]
def aNames : List PySem.Str := aNames0 ++ (aNames1 ++ (aNames2 ++ (aNames3 ++ (aNames4 ++ (aNames5 ++ (aNames6))))))
abbrev R : PySem.W.OpenRow := PySem.W.OpenLaw.row PySem.Challenge.rw_coinholes_k57_pseudo_holes
def aQ : Ask := { fa := aFa, fn := aFn, en := aEn, ex := ["SizeError", "NumberError", "WideError", "GrainError"], file := R.prog.main.file, ms := ["__init__", "needed_members"] }
abbrev aHk : PySem.W.Hook := aQ.hook 4
def aOb (s : PySem.W.SharedT) : AlD := aQ.obsG 4 (HandSHeadRun.getT s)
theorem aOb_eq (s : PySem.W.SharedT) : aOb s = aHk.obs s.abs := Ask.obsG_eq (HandSHeadRun.getT_eq s)
theorem aRun (w : World) : HandSHeadRun.RunEqI R (PySem.W.view R.prog [0, 87]) aHk aOb 10000 aNames w := by
  unfold HandSHeadRun.RunEqI
  kernel_rfl
theorem aTx {K : PySem.W.Frag} {h : Heap} {mg : Str → Option Value} (X : K.In h) (G : h.Ns mainGlobals mg) (c : aQ.obs K = aQ.val) : Tx R.prog K mg where
  len := free_ok X G (Ask.fact c 0 (f := .free "len") rfl)
  list := free_ok X G (Ask.fact c 1 (f := .free "list") rfl)
  tuple := free_ok X G (Ask.fact c 2 (f := .free "tuple") rfl)
  range := free_ok X G (Ask.fact c 3 (f := .free "range") rfl)
  min := free_ok X G (Ask.fact c 4 (f := .free "min") rfl)
  max := free_ok X G (Ask.fact c 5 (f := .free "max") rfl)
  sorted := free_ok X G (Ask.fact c 6 (f := .free "sorted") rfl)
  set := free_ok X G (Ask.fact c 7 (f := .free "set") rfl)
  all := free_ok X G (Ask.fact c 8 (f := .free "all") rfl)
  any := free_ok X G (Ask.fact c 9 (f := .free "any") rfl)
  int := free_ok X G (Ask.fact c 10 (f := .free "int") rfl)
  bool := free_ok X G (Ask.fact c 11 (f := .free "bool") rfl)
  isinstance := free_ok X G (Ask.fact c 12 (f := .free "isinstance") rfl)
  sum := free_ok X G (Ask.fact c 13 (f := .free "sum") rfl)
  ValueError := free_ok X G (Ask.fact c 14 (f := .free "ValueError") rfl)
  m_gcd := Ask.gcd X G c
  m_COIN := int_ok X G (Ask.fact c 16 (f := .int "COIN" (10 ^ 12)) rfl)
  x_SizeError := Ask.sup X G c 0 (d := ⟨"SizeError", "count", "SizeError.__init__", inC (topS 8) 0⟩) rfl ⟨_, _, _, _, _, _, _, _, _, _, _, _, _, rfl, rfl, rfl, rfl⟩ rfl (free_ok X G (Ask.fact c 15 (f := .free "super") rfl)) (by decide +kernel)
  x_NumberError := Ask.sup X G c 1 (d := ⟨"NumberError", "number", "NumberError.__init__", inC (topS 9) 0⟩) rfl ⟨_, _, _, _, _, _, _, _, _, _, _, _, _, rfl, rfl, rfl, rfl⟩ rfl (free_ok X G (Ask.fact c 15 (f := .free "super") rfl)) (by decide +kernel)
  x_WideError := Ask.sup X G c 2 (d := ⟨"WideError", "number", "WideError.__init__", inC (topS 10) 0⟩) rfl ⟨_, _, _, _, _, _, _, _, _, _, _, _, _, rfl, rfl, rfl, rfl⟩ rfl (free_ok X G (Ask.fact c 15 (f := .free "super") rfl)) (by decide +kernel)
  x_GrainError := Ask.sup X G c 3 (d := ⟨"GrainError", "grain", "GrainError.__init__", inC (topS 13) 0⟩) rfl ⟨_, _, _, _, _, _, _, _, _, _, _, _, _, rfl, rfl, rfl, rfl⟩ rfl (free_ok X G (Ask.fact c 15 (f := .free "super") rfl)) (by decide +kernel)
  d_in_table := (by
    obtain ⟨fd, F⟩ := Ask.def_ c 0 (d := _) rfl
    exact ⟨_, fd, F, glo_ok X G (Ask.fact c 17 (f := .glo "in_table") rfl)⟩)
  d_put_coin := (by
    obtain ⟨fd, F⟩ := Ask.def_ c 1 (d := _) rfl
    exact ⟨_, fd, F, glo_ok X G (Ask.fact c 18 (f := .glo "put_coin") rfl)⟩)
  d_table_of := (by
    obtain ⟨fd, F⟩ := Ask.def_ c 2 (d := _) rfl
    exact ⟨_, fd, F, glo_ok X G (Ask.fact c 19 (f := .glo "table_of") rfl)⟩)
  d_look_number := (by
    obtain ⟨fd, F⟩ := Ask.def_ c 3 (d := _) rfl
    exact ⟨_, fd, F, glo_ok X G (Ask.fact c 20 (f := .glo "look_number") rfl)⟩)
  d_look_far := (by
    obtain ⟨fd, F⟩ := Ask.def_ c 4 (d := _) rfl
    exact ⟨_, fd, F, glo_ok X G (Ask.fact c 21 (f := .glo "look_far") rfl)⟩)
  d_look_list := (by
    obtain ⟨fd, F⟩ := Ask.def_ c 5 (d := _) rfl
    exact ⟨_, fd, F, glo_ok X G (Ask.fact c 22 (f := .glo "look_list") rfl)⟩)
  d_look_numbers := (by
    obtain ⟨fd, F⟩ := Ask.def_ c 6 (d := _) rfl
    exact ⟨_, fd, F, glo_ok X G (Ask.fact c 23 (f := .glo "look_numbers") rfl)⟩)
  d_look_whole := (by
    obtain ⟨fd, F⟩ := Ask.def_ c 7 (d := _) rfl
    exact ⟨_, fd, F, glo_ok X G (Ask.fact c 24 (f := .glo "look_whole") rfl)⟩)
  d_pseudo_holes := (by
    obtain ⟨fd, F⟩ := Ask.def_ c 8 (d := _) rfl
    exact ⟨_, fd, F, glo_ok X G (Ask.fact c 25 (f := .glo "pseudo_holes") rfl)⟩)
  d_breadth := (by
    obtain ⟨fd, F⟩ := Ask.def_ c 9 (d := _) rfl
    exact ⟨_, fd, F, glo_ok X G (Ask.fact c 26 (f := .glo "breadth") rfl)⟩)
  d_greatest_hole := (by
    obtain ⟨fd, F⟩ := Ask.def_ c 10 (d := _) rfl
    exact ⟨_, fd, F, glo_ok X G (Ask.fact c 27 (f := .glo "greatest_hole") rfl)⟩)
  d_starts_table := (by
    obtain ⟨fd, F⟩ := Ask.def_ c 11 (d := _) rfl
    exact ⟨_, fd, F, glo_ok X G (Ask.fact c 28 (f := .glo "starts_table") rfl)⟩)
  d_members_of := (by
    obtain ⟨fd, F⟩ := Ask.def_ c 12 (d := _) rfl
    exact ⟨_, fd, F, glo_ok X G (Ask.fact c 29 (f := .glo "members_of") rfl)⟩)
  d_mirror_table := (by
    obtain ⟨fd, F⟩ := Ask.def_ c 13 (d := _) rfl
    exact ⟨_, fd, F, glo_ok X G (Ask.fact c 30 (f := .glo "mirror_table") rfl)⟩)
  d_Ideal_init := (by
    obtain ⟨fd, F⟩ := Ask.def_ c 14 (d := _) rfl
    exact ⟨_, fd, F, glo_ok X G (Ask.fact c 31 (f := .glo "Ideal") rfl), mkr_ok (Ask.fact c 32 (f := .mkr "Ideal") rfl)⟩)
  d_Ideal_needed_members := (by
    obtain ⟨fd, F⟩ := Ask.def_ c 15 (d := _) rfl
    exact ⟨_, fd, F, meth_ok (Ask.fact c 33 (f := .meth "Ideal" "needed_members") rfl)⟩)
  d_ideal_of_table := (by
    obtain ⟨fd, F⟩ := Ask.def_ c 16 (d := _) rfl
    exact ⟨_, fd, F, glo_ok X G (Ask.fact c 34 (f := .glo "ideal_of_table") rfl)⟩)
  d_canonical_table := (by
    obtain ⟨fd, F⟩ := Ask.def_ c 17 (d := _) rfl
    exact ⟨_, fd, F, glo_ok X G (Ask.fact c 35 (f := .glo "canonical_table") rfl)⟩)
  d_canonical := (by
    obtain ⟨fd, F⟩ := Ask.def_ c 18 (d := _) rfl
    exact ⟨_, fd, F, glo_ok X G (Ask.fact c 36 (f := .glo "canonical") rfl)⟩)
  d_gcd_of := (by
    obtain ⟨fd, F⟩ := Ask.def_ c 19 (d := _) rfl
    exact ⟨_, fd, F, glo_ok X G (Ask.fact c 37 (f := .glo "gcd_of") rfl)⟩)
  d_Lot_init := (by
    obtain ⟨fd, F⟩ := Ask.def_ c 20 (d := _) rfl
    exact ⟨_, fd, F, glo_ok X G (Ask.fact c 38 (f := .glo "Lot") rfl), mkr_ok (Ask.fact c 39 (f := .mkr "Lot") rfl)⟩)
  d__law_is_integer := (by
    obtain ⟨fd, F⟩ := Ask.def_ c 21 (d := _) rfl
    exact ⟨_, fd, F, glo_ok X G (Ask.fact c 40 (f := .glo "_law_is_integer") rfl)⟩)
  d__law_is_number := (by
    obtain ⟨fd, F⟩ := Ask.def_ c 22 (d := _) rfl
    exact ⟨_, fd, F, glo_ok X G (Ask.fact c 41 (f := .glo "_law_is_number") rfl)⟩)
  d__law_is_tuple := (by
    obtain ⟨fd, F⟩ := Ask.def_ c 23 (d := _) rfl
    exact ⟨_, fd, F, glo_ok X G (Ask.fact c 42 (f := .glo "_law_is_tuple") rfl)⟩)
  d__law_cell := (by
    obtain ⟨fd, F⟩ := Ask.def_ c 24 (d := _) rfl
    exact ⟨_, fd, F, glo_ok X G (Ask.fact c 43 (f := .glo "_law_cell") rfl)⟩)
  d__law_classes := (by
    obtain ⟨fd, F⟩ := Ask.def_ c 25 (d := _) rfl
    exact ⟨_, fd, F, glo_ok X G (Ask.fact c 44 (f := .glo "_law_classes") rfl)⟩)
  d__law_refusal := (by
    obtain ⟨fd, F⟩ := Ask.def_ c 26 (d := _) rfl
    exact ⟨_, fd, F, glo_ok X G (Ask.fact c 45 (f := .glo "_law_refusal") rfl)⟩)
  d__law_refused := (by
    obtain ⟨fd, F⟩ := Ask.def_ c 27 (d := _) rfl
    exact ⟨_, fd, F, glo_ok X G (Ask.fact c 46 (f := .glo "_law_refused") rfl)⟩)
  d__law_grain_of := (by
    obtain ⟨fd, F⟩ := Ask.def_ c 28 (d := _) rfl
    exact ⟨_, fd, F, glo_ok X G (Ask.fact c 47 (f := .glo "_law_grain_of") rfl)⟩)
  d__law_draw_coins := (by
    obtain ⟨fd, F⟩ := Ask.def_ c 29 (d := _) rfl
    exact ⟨_, fd, F, glo_ok X G (Ask.fact c 48 (f := .glo "_law_draw_coins") rfl)⟩)
  d__law_list_made := (by
    obtain ⟨fd, F⟩ := Ask.def_ c 30 (d := _) rfl
    exact ⟨_, fd, F, glo_ok X G (Ask.fact c 49 (f := .glo "_law_list_made") rfl)⟩)
  d__law_last_hole := (by
    obtain ⟨fd, F⟩ := Ask.def_ c 31 (d := _) rfl
    exact ⟨_, fd, F, glo_ok X G (Ask.fact c 50 (f := .glo "_law_last_hole") rfl)⟩)
  d__law_far_coin := (by
    obtain ⟨fd, F⟩ := Ask.def_ c 32 (d := _) rfl
    exact ⟨_, fd, F, glo_ok X G (Ask.fact c 51 (f := .glo "_law_far_coin") rfl)⟩)
  d__law_draw_far := (by
    obtain ⟨fd, F⟩ := Ask.def_ c 33 (d := _) rfl
    exact ⟨_, fd, F, glo_ok X G (Ask.fact c 52 (f := .glo "_law_draw_far") rfl)⟩)
  d__law_nearest := (by
    obtain ⟨fd, F⟩ := Ask.def_ c 34 (d := _) rfl
    exact ⟨_, fd, F, glo_ok X G (Ask.fact c 53 (f := .glo "_law_nearest") rfl)⟩)
  d__law_base_of := (by
    obtain ⟨fd, F⟩ := Ask.def_ c 35 (d := _) rfl
    exact ⟨_, fd, F, glo_ok X G (Ask.fact c 54 (f := .glo "_law_base_of") rfl)⟩)
  d__law_due_pseudo := (by
    obtain ⟨fd, F⟩ := Ask.def_ c 36 (d := _) rfl
    exact ⟨_, fd, F, glo_ok X G (Ask.fact c 55 (f := .glo "_law_due_pseudo") rfl)⟩)
  d__law_ask := (by
    obtain ⟨fd, F⟩ := Ask.def_ c 37 (d := _) rfl
    exact ⟨_, fd, F, glo_ok X G (Ask.fact c 56 (f := .glo "_law_ask") rfl)⟩)
  d__law_lot_right := (by
    obtain ⟨fd, F⟩ := Ask.def_ c 38 (d := _) rfl
    exact ⟨_, fd, F, glo_ok X G (Ask.fact c 57 (f := .glo "_law_lot_right") rfl)⟩)
  d__law_below := (by
    obtain ⟨fd, F⟩ := Ask.def_ c 39 (d := _) rfl
    exact ⟨_, fd, F, glo_ok X G (Ask.fact c 58 (f := .glo "_law_below") rfl)⟩)
  d__law_grained := (by
    obtain ⟨fd, F⟩ := Ask.def_ c 40 (d := _) rfl
    exact ⟨_, fd, F, glo_ok X G (Ask.fact c 59 (f := .glo "_law_grained") rfl)⟩)
  d__law_small := (by
    obtain ⟨fd, F⟩ := Ask.def_ c 41 (d := _) rfl
    exact ⟨_, fd, F, glo_ok X G (Ask.fact c 60 (f := .glo "_law_small") rfl)⟩)
  d__law_far_pseudo := (by
    obtain ⟨fd, F⟩ := Ask.def_ c 42 (d := _) rfl
    exact ⟨_, fd, F, glo_ok X G (Ask.fact c 61 (f := .glo "_law_far_pseudo") rfl)⟩)
  d__law_far := (by
    obtain ⟨fd, F⟩ := Ask.def_ c 43 (d := _) rfl
    exact ⟨_, fd, F, glo_ok X G (Ask.fact c 62 (f := .glo "_law_far") rfl)⟩)
  d_law := (by
    obtain ⟨fd, F⟩ := Ask.def_ c 44 (d := _) rfl
    exact ⟨_, fd, F, glo_ok X G (Ask.fact c 63 (f := .glo "law") rfl)⟩)
  ex_D := fun t ht => Ask.exd c (D := t.1) (by
    unfold xTab at ht
    simp only [List.mem_cons, List.not_mem_nil, or_false] at ht
    rcases ht with rfl | rfl | rfl | rfl <;> decide +kernel)
  g_x := fun x hx => glo_ok X G (Ask.facts c (f := .glo x) (by
    unfold clNames at hx
    simp only [List.mem_append, List.mem_cons, List.not_mem_nil, or_false] at hx
    rcases hx with (rfl | rfl | rfl | rfl | rfl | rfl | rfl | rfl | rfl | rfl | rfl) | (rfl | rfl | rfl | rfl | rfl | rfl | rfl | rfl | rfl | rfl)
    · exact List.mem_of_getElem? (i := 64) rfl
    · exact List.mem_of_getElem? (i := 65) rfl
    · exact List.mem_of_getElem? (i := 66) rfl
    · exact List.mem_of_getElem? (i := 67) rfl
    · exact List.mem_of_getElem? (i := 68) rfl
    · exact List.mem_of_getElem? (i := 69) rfl
    · exact List.mem_of_getElem? (i := 70) rfl
    · exact List.mem_of_getElem? (i := 71) rfl
    · exact List.mem_of_getElem? (i := 72) rfl
    · exact List.mem_of_getElem? (i := 73) rfl
    · exact List.mem_of_getElem? (i := 74) rfl
    · exact List.mem_of_getElem? (i := 75) rfl
    · exact List.mem_of_getElem? (i := 76) rfl
    · exact List.mem_of_getElem? (i := 77) rfl
    · exact List.mem_of_getElem? (i := 78) rfl
    · exact List.mem_of_getElem? (i := 79) rfl
    · exact List.mem_of_getElem? (i := 80) rfl
    · exact List.mem_of_getElem? (i := 81) rfl
    · exact List.mem_of_getElem? (i := 82) rfl
    · exact List.mem_of_getElem? (i := 83) rfl
    · exact List.mem_of_getElem? (i := 84) rfl))
  g_CoinError := glo_ok X G (Ask.fact c 85 (f := .glo "CoinError") rfl)
  c_Lot := cls_ok (Ask.fact c 86 (f := .cls "Lot") rfl)
  n_Lot_coins := noat_ok (Ask.fact c 87 (f := .noat "Lot" "coins") rfl)
  n_Lot_size := noat_ok (Ask.fact c 88 (f := .noat "Lot" "size") rfl)
  n_Lot_grain := noat_ok (Ask.fact c 89 (f := .noat "Lot" "grain") rfl)
  n_Lot_least := noat_ok (Ask.fact c 90 (f := .noat "Lot" "least") rfl)
  n_Lot_greatest := noat_ok (Ask.fact c 91 (f := .noat "Lot" "greatest") rfl)
  n_Lot_table := noat_ok (Ask.fact c 92 (f := .noat "Lot" "_table") rfl)
  c_Ideal := cls_ok (Ask.fact c 93 (f := .cls "Ideal") rfl)
  n_Ideal_lot := noat_ok (Ask.fact c 94 (f := .noat "Ideal" "lot") rfl)
  n_Ideal_made := noat_ok (Ask.fact c 95 (f := .noat "Ideal" "_made") rfl)
  n_Ideal_table := noat_ok (Ask.fact c 96 (f := .noat "Ideal" "table") rfl)
  n_Ideal_lowest := noat_ok (Ask.fact c 97 (f := .noat "Ideal" "lowest") rfl)
theorem noneN {P : Program} {w : World} (H : Hp) (s : Shared) (e : Value) (s' : Shared) : L2N.CX P w [] H s (fun _ _ _ => False) e s' → False := fun h => by
  obtain ⟨_, _, _, _, _, _, _, _, _, _, _, _, z⟩ := h
  exact z
theorem walk_ofN {l : PySem.W.OpenLaw} {n k : Nat} {q : Program} {loose : List Str} {XP : (Str → Option Value) → Heap → Prop} {YP : World → Heap → Prop} {d : DefRec} {x : Str} (hn : l.most = some n) (hn2 : n ≤ sizeLine) (hdf : d.params.defaults = []) (hr : Room k callerA)
    (F : ∀ (w : World) (mg : Str → Option Value) (fa : Addr) (h : Heap), YP w h → h.Ns mainGlobals mg → mg d.name = some (.ref fa) →
      ∃ (K : PySem.W.Frag) (fd : FuncData) (sp : Sp), K.In h ∧ (∀ (s : Shared) (u : Value), BindsTo s fd ⟨[u], []⟩ [(x, u)]) ∧
        (∀ (H : Hp) (a : Addr) (ns : List Int), ns.length ≤ n → Only H → SqL K H a (ns.map V.int) → sp [.ref a] H (fun v _ => v = .bl true) fun _ _ _ => False) ∧
        ∀ base : Heap, K.In base → base.Ns mainGlobals mg → FnOk l.prog w K mg base (L2N.CX l.prog w) k fa fd [x] sp) :
    PySem.W.WalkO q loose XP YP l.row.toRowW d [] (fun f vs => PySem.call f vs) := by
  refine Att.attach_call hn hdf fun w s₀ s₁ mg mb fa o pm cd doc a vs ns G Y ho hd hcd hmg hobj hints hlen hg => ?_
  obtain ⟨K, fd, sp, KX, hb, hsp, hF⟩ := F w mg fa _ Y G.T.g hmg
  exact law_call KX G.T.g G.T.b G.T.builtins G.T.nolimit hg hobj hints (Nat.le_trans hlen hn2) hr hF hb (fun H hO hS => hsp H a ns hlen hO hS) fun H e s' => noneN H s₁ e s'
end CHX
open PySem PySem.W PySem.Calls PyProof.Rows
theorem PySem.Challenge.cw_coinholes_k57_pseudo_holes_holds : PySem.Challenge.rw_coinholes_k57_pseudo_holes.Holds := by
  w_on; o_law
  refine HandSHeadRun.head_imp (r := OpenLaw.row PySem.Challenge.rw_coinholes_k57_pseudo_holes) (q := view (OpenLaw.row PySem.Challenge.rw_coinholes_k57_pseudo_holes).prog [0, 87]) (H := CHX.aHk) (ob := CHX.aOb) (M := 10000) (loose := CHX.aNames) (d := HandSHeadRun.topDef (OpenLaw.row PySem.Challenge.rw_coinholes_k57_pseudo_holes).prog 87) (kwd := []) CHX.aOb_eq
    CHX.aRun (by kernel_rfl) (by kernel_rfl) (by kernel_rfl) (by rfl) (by first | assumption | decide +kernel) (by decide +kernel) ⟨rfl, rfl, rfl, rfl, rfl, by decide +kernel⟩ ?hw ?hc
  case hw => w_witness2
  case hc =>
    refine CHX.walk_ofN (l := PySem.Challenge.rw_coinholes_k57_pseudo_holes) (n := 63) (k := 13) (x := "script") rfl (by decide) (by kernel_rfl) ⟨rfl, by decide, by decide⟩ ?F
    intro w mg fa h Y G hmg0
    obtain ⟨K, KX, c⟩ := Y
    have hmg : mg ("law" : PySem.Str) = some (.ref fa) := by
      have e : (HandSHeadRun.topDef (OpenLaw.row PySem.Challenge.rw_coinholes_k57_pseudo_holes).prog 87).name = ("law" : PySem.Str) := by kernel_rfl
      rw [← e]
      exact hmg0
    have T := CHX.aTx KX G c
    obtain ⟨f, fd, F, hm⟩ := T.d_law
    have hf : f = fa := by
      rw [hm] at hmg
      exact Value.ref.inj (Option.some.inj hmg)
    subst hf
    have b := L2.FunD.bindsA (ps := ["script"]) F fun _ _ _ _ _ _ us hl => match us, hl with | [_], _ => rfl
    refine ⟨K, fd, CHX.spLaw K, KX, fun s v => b s [v] rfl, fun H a ns hl _ hS => ⟨a, ns, rfl, hS, fun H2 _ => rfl⟩, fun base _ _ => ?_⟩
    exact CHX.fn_law T F

