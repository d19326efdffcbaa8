import PyProof.Rows.All
import Wide.All
import OpenK.AllK
import Wide.FinOn
import HandS.ForMost
import HandS.IsInst
import HandS.Conv
import HandS.TupSets
import HandS.DictTup
import HandS.TupLe
import HandS.Walk
import HandS.StrMore
import HandS.Replace
import HandS.Wide
import HandS.Deep
import KE.DataCmp
import PySem.Challenge.RW_beatruns_k30_whole_texts_without
set_option Elab.async false
set_option linter.all false
set_option maxRecDepth 100000
set_option maxHeartbeats 4000000
/-! Beats, doubles, runs: the mathematics over a text read as a function of its places. -/
namespace BR

/-- from f up to, without, e: the letter k is the letter k + p -/
def Per (w : Nat → Nat) (f e p : Nat) : Prop := ∀ k, f ≤ k → k + p < e → w k = w (k + p)
structure Least (w : Nat → Nat) (f e p : Nat) : Prop where
  one : 1 ≤ p
  per : Per w f e p
  least : ∀ q, 1 ≤ q → q < p → ¬ Per w f e q
structure Run (n : Nat) (w : Nat → Nat) (f e p : Nat) : Prop where
  ls : Least w f e p
  len : f + 2 * p ≤ e
  le : e ≤ n
  left : f = 0 ∨ w (f - 1) ≠ w (f - 1 + p)
  right : e = n ∨ w e ≠ w (e - p)

theorem Per.mono {w : Nat → Nat} {f e p f' e' : Nat} (h : Per w f e p) (hf : f ≤ f') (he : e' ≤ e) : Per w f' e' p :=
  fun k hk hl => h k (by omega) (by omega)
theorem Per.sub {w : Nat → Nat} {f e p q : Nat} (hp : Per w f e p) (hq : Per w f e q) (h : p < q) (hl : f + (p + q) ≤ e) : Per w f e (q - p) := by
  intro k hk he
  by_cases c : f + p ≤ k
  · have h1 := hp (k - p) (by omega) (by omega)
    have h2 := hq (k - p) (by omega) (by omega)
    rw [show k - p + p = k by omega] at h1
    rw [show k - p + q = k + (q - p) by omega] at h2
    rw [← h1, h2]
  · have h1 := hq k hk (by omega)
    have h2 := hp (k + (q - p)) (by omega) (by omega)
    rw [show k + (q - p) + p = k + q by omega] at h2
    rw [h1, h2]
theorem Least.dvd {w : Nat → Nat} {f e p : Nat} (h : Least w f e p) : ∀ q, 1 ≤ q → Per w f e q → f + (p + q) ≤ e → p ∣ q := by
  intro q
  induction q using Nat.strongRecOn with
  | _ q ih =>
    intro hq per hl
    rcases Nat.lt_trichotomy q p with c | c | c
    · exact absurd per (h.least q hq c)
    · exact ⟨1, by omega⟩
    · have h1 := ih (q - p) (by have := h.one; omega) (by omega) (h.per.sub per c hl) (by omega)
      obtain ⟨m, hm⟩ := h1
      exact ⟨m + 1, by rw [Nat.mul_add, Nat.mul_one]; omega⟩
theorem Per.mul {w : Nat → Nat} {f e p : Nat} (h : Per w f e p) : ∀ m x, f ≤ x → x + m * p < e → w x = w (x + m * p)
  | 0, x, _, _ => by rw [Nat.zero_mul, Nat.add_zero]
  | m + 1, x, hx, he => by
    rw [Nat.add_mul, Nat.one_mul] at he ⊢
    rw [h.mul m x hx (by omega), h (x + m * p) (by omega) (by omega), Nat.add_assoc]
theorem mod_step {p x y : Nat} (h : x % p = y % p) (hl : x ≤ y) : ∃ m, y = x + m * p := by
  refine ⟨y / p - x / p, ?_⟩
  have e1 := Nat.div_add_mod x p
  have e2 := Nat.div_add_mod y p
  have h1 : x / p ≤ y / p := Nat.div_le_div_right hl
  rw [Nat.sub_mul]
  have h3 : x / p * p ≤ y / p * p := Nat.mul_le_mul_right p h1
  rw [Nat.mul_comm p] at e1 e2
  omega
theorem Per.mod {w : Nat → Nat} {f e p : Nat} (h : Per w f e p) {x y : Nat} (hx : f ≤ x) (hx2 : x < e) (hy : f ≤ y) (hy2 : y < e) (hm : x % p = y % p) : w x = w y := by
  rcases Nat.le_total x y with c | c
  · obtain ⟨m, rfl⟩ := mod_step hm c
    exact h.mul m x hx hy2
  · obtain ⟨m, rfl⟩ := mod_step hm.symm c
    exact (h.mul m y hy hx2).symm
/-- a place alike x by p among the p places from a on -/
theorem rep {p : Nat} (hp : 1 ≤ p) (a x : Nat) : ∃ y, a ≤ y ∧ y < a + p ∧ y % p = x % p := by
  have h1 := Nat.mod_lt a hp
  have h2 := Nat.mod_lt x hp
  have e1 := Nat.div_add_mod a p
  by_cases c : a % p ≤ x % p
  · refine ⟨p * (a / p) + x % p, by omega, by omega, ?_⟩
    rw [Nat.mul_add_mod, Nat.mod_mod]
  · refine ⟨p * (a / p) + (p + x % p), by omega, by omega, ?_⟩
    rw [Nat.mul_add_mod, Nat.add_mod_left, Nat.mod_mod]
theorem Per.widen {w : Nat → Nat} {f e p a d : Nat} (h : Per w f e p) (hp : 1 ≤ p) (hd : Per w a (a + p) d) (hdp : d ∣ p) (hf : f ≤ a) (he : a + p ≤ e) : Per w f e d := by
  intro k hk hl
  obtain ⟨x, x1, x2, x3⟩ := rep hp a k
  obtain ⟨y, y1, y2, y3⟩ := rep hp a (k + d)
  have e1 : w k = w x := h.mod hk (by omega) (by omega) (by omega) x3.symm
  have e2 : w (k + d) = w y := h.mod (by omega) (by omega) (by omega) (by omega) y3.symm
  rw [e1, e2]
  refine hd.mod x1 x2 y1 y2 ?_
  have f1 : x % d = k % d := by
    rw [← Nat.mod_mod_of_dvd x hdp, x3, Nat.mod_mod_of_dvd k hdp]
  have f2 : y % d = (k + d) % d := by
    rw [← Nat.mod_mod_of_dvd y hdp, y3, Nat.mod_mod_of_dvd (k + d) hdp]
  rw [f1, f2, Nat.add_mod_right]

/-- two runs with one beat that share as many letters as the beat are one -/
theorem Run.same {n : Nat} {w : Nat → Nat} {f e p f' e' a : Nat} (r : Run n w f e p) (r' : Run n w f' e' p) (h1 : f ≤ a) (h2 : a + p ≤ e) (h3 : f' ≤ a) (h4 : a + p ≤ e') : f = f' ∧ e = e' := by
  have one := r.ls.one
  constructor
  · rcases Nat.lt_trichotomy f f' with c | c | c
    · have := r'.left
      have q := r.ls.per (f' - 1) (by omega) (by omega)
      omega
    · exact c
    · have := r.left
      have q := r'.ls.per (f - 1) (by omega) (by omega)
      omega
  · rcases Nat.lt_trichotomy e e' with c | c | c
    · have := r.right
      have q := r'.ls.per (e - p) (by omega) (by omega)
      rw [show e - p + p = e by omega] at q
      have := r'.le
      have := q.symm
      omega
    · exact c
    · have := r'.right
      have q := r.ls.per (e' - p) (by omega) (by omega)
      rw [show e' - p + p = e' by omega] at q
      have := r.le
      have := q.symm
      omega

/-! ### widening -/
def wl (w : Nat → Nat) (p : Nat) : Nat → Nat
  | 0 => 0
  | f + 1 => if w f = w (f + p) then wl w p f else f + 1
/-- m letters lie behind the end n - m -/
def wr (w : Nat → Nat) (n p : Nat) : Nat → Nat
  | 0 => n
  | m + 1 => if w (n - (m + 1)) = w (n - (m + 1) - p) then wr w n p m else n - (m + 1)
theorem wl_le (w : Nat → Nat) (p : Nat) : ∀ f, wl w p f ≤ f
  | 0 => Nat.le_refl 0
  | f + 1 => by
    unfold wl
    split
    · exact Nat.le_succ_of_le (wl_le w p f)
    · exact Nat.le_refl _
theorem wl_all (w : Nat → Nat) (p : Nat) : ∀ f k, wl w p f ≤ k → k < f → w k = w (k + p)
  | 0, k, _, h => by omega
  | f + 1, k, h1, h2 => by
    unfold wl at h1
    split at h1
    · rename_i c
      by_cases hk : k = f
      · rw [hk]; exact c
      · exact wl_all w p f k h1 (by omega)
    · omega
theorem wl_end (w : Nat → Nat) (p : Nat) : ∀ f, wl w p f = 0 ∨ w (wl w p f - 1) ≠ w (wl w p f - 1 + p)
  | 0 => .inl rfl
  | f + 1 => by
    unfold wl
    split
    · exact wl_end w p f
    · rename_i c
      exact .inr c
theorem wr_ge (w : Nat → Nat) (n p : Nat) : ∀ m, n - m ≤ wr w n p m
  | 0 => Nat.le_refl _
  | m + 1 => by
    unfold wr
    have := wr_ge w n p m
    split <;> omega
theorem wr_le (w : Nat → Nat) (n p : Nat) : ∀ m, wr w n p m ≤ n
  | 0 => Nat.le_refl _
  | m + 1 => by
    unfold wr
    have := wr_le w n p m
    split <;> omega
theorem wr_all (w : Nat → Nat) (n p : Nat) : ∀ m k, m ≤ n → n - m ≤ k → k < wr w n p m → w k = w (k - p)
  | 0, k, _, h1, h2 => by
    have : wr w n p 0 = n := rfl
    omega
  | m + 1, k, hm, h1, h2 => by
    unfold wr at h2
    split at h2
    · rename_i c
      by_cases hk : k = n - (m + 1)
      · rw [hk]; exact c
      · exact wr_all w n p m k (by omega) (by omega) h2
    · omega
theorem wr_end (w : Nat → Nat) (n p : Nat) : ∀ m, wr w n p m = n ∨ w (wr w n p m) ≠ w (wr w n p m - p)
  | 0 => .inl rfl
  | m + 1 => by
    unfold wr
    split
    · exact wr_end w n p m
    · rename_i c
      exact .inr c

/-- the double at a, of the half h: stands in full -/
def Dbl (n : Nat) (w : Nat → Nat) (a h : Nat) : Prop := 1 ≤ h ∧ a + 2 * h ≤ n ∧ Per w a (a + 2 * h) h

theorem least_half {w : Nat → Nat} {a h p : Nat} (l : Least w a (a + 2 * h) p) (h1 : 1 ≤ h) (d : Per w a (a + 2 * h) h) : p ≤ h ∧ p ∣ h := by
  have h2 : p ≤ h := by
    rcases Nat.lt_or_ge h p with c | c
    · exact absurd d (l.least h h1 c)
    · exact c
  exact ⟨h2, l.dvd h h1 d (by omega)⟩

theorem run_of {n : Nat} {w : Nat → Nat} {a h p : Nat} (d : Dbl n w a h) (l : Least w a (a + 2 * h) p) :
    Run n w (wl w p a) (wr w n p (n - (a + 2 * h))) p := by
  obtain ⟨h1, h2, h3⟩ := d
  obtain ⟨hp, hdv⟩ := least_half l h1 h3
  have a1 := wl_le w p a
  have a2 := wr_ge w n p (n - (a + 2 * h))
  have a3 := wr_le w n p (n - (a + 2 * h))
  have one := l.one
  have per : Per w (wl w p a) (wr w n p (n - (a + 2 * h))) p := by
    intro k k1 k2
    by_cases c1 : k < a
    · exact wl_all w p a k k1 c1
    · by_cases c2 : k + p < a + 2 * h
      · exact l.per k (by omega) c2
      · have q := wr_all w n p (n - (a + 2 * h)) (k + p) (by omega) (by omega) k2
        rw [q, Nat.add_sub_cancel]
  refine ⟨⟨one, per, fun q q1 q2 hq => l.least q q1 q2 (hq.mono a1 (by omega))⟩, by omega, a3, wl_end w p a, wr_end w n p _⟩

/-- where a run has its double: at its first place, its beat's half -/
theorem Run.dbl {n : Nat} {w : Nat → Nat} {f e p : Nat} (r : Run n w f e p) : Dbl n w f p :=
  ⟨r.ls.one, by have := r.len; have := r.le; omega, r.ls.per.mono (Nat.le_refl _) r.len⟩
theorem Run.head {n : Nat} {w : Nat → Nat} {f e p : Nat} (r : Run n w f e p) : Least w f (f + 2 * p) p := by
  have one := r.ls.one
  refine ⟨one, r.ls.per.mono (Nat.le_refl _) r.len, fun q q1 q2 hq => ?_⟩
  -- q and p are beats of 2p letters: so a divisor of p is a beat of all
  -- the least beat of these
  have ex : ∃ d, Least w f (f + 2 * p) d ∧ d ≤ q := by
    have : ∀ m, m ≤ q → 1 ≤ m → Per w f (f + 2 * p) m → ∃ d, Least w f (f + 2 * p) d ∧ d ≤ q := by
      intro m
      induction m using Nat.strongRecOn with
      | _ m ih =>
        intro m1 m2 m3
        by_cases c : ∃ j, 1 ≤ j ∧ j < m ∧ Per w f (f + 2 * p) j
        · obtain ⟨j, j1, j2, j3⟩ := c
          exact ih j j2 (by omega) j1 j3
        · exact ⟨m, ⟨m2, m3, fun j j1 j2 j3 => c ⟨j, j1, j2, j3⟩⟩, m1⟩
    exact this q (Nat.le_refl _) q1 hq
  obtain ⟨d, hd, hdq⟩ := ex
  have dv : d ∣ p := hd.dvd p one (r.ls.per.mono (Nat.le_refl _) r.len) (by omega)
  exact r.ls.least d hd.one (by omega) (r.ls.per.widen one (hd.per.mono (Nat.le_refl _) (by omega)) dv (Nat.le_refl _) (by have := r.len; omega))
theorem Run.is_of {n : Nat} {w : Nat → Nat} {f e p : Nat} (r : Run n w f e p) : wl w p f = f ∧ wr w n p (n - (f + 2 * p)) = e := by
  have r' := run_of r.dbl r.head
  have a1 := wl_le w p f
  have a2 := wr_ge w n p (n - (f + 2 * p))
  have a3 := r.len
  have a4 := r.le
  have s := r.same r' (a := f) (Nat.le_refl _) (by omega) (by omega) (by omega)
  exact ⟨s.1.symm, s.2.symm⟩

/-- the run in which a double lies, by a beat that goes into its half -/
theorem Run.of_dbl {n : Nat} {w : Nat → Nat} {f e p a h q : Nat} (r : Run n w f e p) (d : Dbl n w a h) (l : Least w a (a + 2 * h) q) (hf : f ≤ a) (he : a + 2 * h ≤ e) (hp : p ∣ h) :
    p = q ∧ f = wl w q a ∧ e = wr w n q (n - (a + 2 * h)) := by
  obtain ⟨h1, h2, h3⟩ := d
  have one := r.ls.one
  obtain ⟨q1, q2⟩ := least_half l h1 h3
  have ple : p ≤ h := Nat.le_of_dvd h1 hp
  have qp : q ∣ p := l.dvd p one (r.ls.per.mono hf he) (by omega)
  have e1 : p = q := by
    have qle : q ≤ p := Nat.le_of_dvd one qp
    rcases Nat.lt_or_ge q p with c | c
    · exact absurd (r.ls.per.widen one (l.per.mono (Nat.le_refl _) (by omega)) qp hf (by omega)) (r.ls.least q l.one c)
    · omega
  subst e1
  have r' := run_of ⟨h1, h2, h3⟩ l
  have a1 := wl_le w p a
  have a2 := wr_ge w n p (n - (a + 2 * h))
  have s := r.same r' (a := a) hf (by omega) (by omega) (by omega)
  exact ⟨rfl, s.1, s.2⟩
end BR

/-! Own places: the runs theorem. -/
namespace BR

/-- the first p letters of a come ahead of those of b -/
def Lt (p : Nat) (a b : Nat → Nat) : Prop := ∃ m, m < p ∧ (∀ j, j < m → a j = b j) ∧ a m < b m
theorem Lt.trans {p : Nat} {a b c : Nat → Nat} (h : Lt p a b) (h' : Lt p b c) : Lt p a c := by
  obtain ⟨m, m1, m2, m3⟩ := h
  obtain ⟨k, k1, k2, k3⟩ := h'
  rcases Nat.lt_trichotomy m k with q | q | q
  · exact ⟨m, m1, fun j hj => (m2 j hj).trans (k2 j (by omega)), by rw [← k2 m q]; exact m3⟩
  · subst q
    exact ⟨m, m1, fun j hj => (m2 j hj).trans (k2 j hj), by omega⟩
  · exact ⟨k, k1, fun j hj => (m2 j (by omega)).trans (k2 j hj), by rw [m2 k q]; exact k3⟩
theorem Lt.irr {p : Nat} {a : Nat → Nat} (h : Lt p a a) : False := by
  obtain ⟨m, _, _, h⟩ := h
  exact Nat.lt_irrefl _ h
theorem Lt.tri (p : Nat) (a b : Nat → Nat) : Lt p a b ∨ Lt p b a ∨ ∀ j, j < p → a j = b j := by
  induction p with
  | zero => exact .inr (.inr fun j h => by omega)
  | succ p ih =>
    rcases ih with ⟨m, m1, m2, m3⟩ | ⟨m, m1, m2, m3⟩ | h
    · exact .inl ⟨m, by omega, m2, m3⟩
    · exact .inr (.inl ⟨m, by omega, m2, m3⟩)
    · rcases Nat.lt_trichotomy (a p) (b p) with q | q | q
      · exact .inl ⟨p, by omega, h, q⟩
      · refine .inr (.inr fun j hj => ?_)
        by_cases c : j = p
        · rw [c]; exact q
        · exact h j (by omega)
      · exact .inr (.inl ⟨p, by omega, fun j hj => (h j hj).symm, q⟩)

/-- the p letters from s on come ahead of all that comes of them by turning -/
def Lyn (v : Nat → Nat) (s p : Nat) : Prop := ∀ d, 0 < d → d < p → Lt p (fun j => v (s + j)) (fun j => v (s + (j + d) % p))

theorem Lyn.le_head {v : Nat → Nat} {s p : Nat} (h : Lyn v s p) {k : Nat} (hk : k < p) : v s ≤ v (s + k) := by
  rcases Nat.eq_zero_or_pos k with c | c
  · rw [c]; exact Nat.le_refl _
  · obtain ⟨m, m1, m2, m3⟩ := h k c hk
    rcases Nat.eq_zero_or_pos m with q | q
    · subst q
      simp only [Nat.zero_add, Nat.add_zero, Nat.mod_eq_of_lt hk] at m3
      omega
    · have := m2 0 q
      simp only [Nat.zero_add, Nat.add_zero, Nat.mod_eq_of_lt hk] at this
      omega
/-- it has no beat shorter than itself -/
theorem Lyn.no_beat {v : Nat → Nat} {s p d : Nat} (h : Lyn v s p) (d0 : 0 < d) (dp : d < p) (per : Per v s (s + p) d) : False := by
  -- turned by d, and by p - d
  obtain ⟨m, m1, m2, m3⟩ := h d d0 dp
  obtain ⟨k, k1, k2, k3⟩ := h (p - d) (by omega) (by omega)
  -- the first p - d letters agree with those behind d
  have c1 : p - d ≤ m := by
    rcases Nat.lt_or_ge m (p - d) with c | c
    · have e := per (s + m) (by omega) (by omega)
      simp only [Nat.mod_eq_of_lt (show m + d < p by omega)] at m3
      rw [show s + m + d = s + (m + d) by omega] at e
      omega
    · exact c
  -- so the last d letters come ahead of the first d ones
  have e1 : ∀ j, j < p - (p - d) → ∀ i, i = j + (p - d) → (i + d) % p = j := by
    intro j hj i hi
    rw [show i + d = j + p by omega, Nat.add_mod_right, Nat.mod_eq_of_lt (by omega)]
  have c3 : v (s + m) < v (s + (m - (p - d))) := by
    have := m3
    simp only [e1 (m - (p - d)) (by omega) m (by omega)] at this
    exact this
  have c2 : ∀ j, j < m - (p - d) → v (s + (j + (p - d))) = v (s + j) := by
    intro j hj
    have := m2 (j + (p - d)) (by omega)
    simp only [e1 j (by omega) _ rfl] at this
    exact this
  -- turned by p - d these stand first
  rcases Nat.lt_trichotomy k (m - (p - d)) with q | q | q
  · have := c2 k q
    simp only [Nat.mod_eq_of_lt (show k + (p - d) < p by omega)] at k3
    omega
  · simp only [Nat.mod_eq_of_lt (show k + (p - d) < p by omega)] at k3
    rw [q, show m - (p - d) + (p - d) = m by omega] at k3
    omega
  · have := k2 (m - (p - d)) q
    simp only [Nat.mod_eq_of_lt (show m - (p - d) + (p - d) < p by omega)] at this
    rw [show m - (p - d) + (p - d) = m by omega] at this
    omega
/-- no stretch within, not at its head, comes ahead by an earlier unlike letter -/
theorem Lyn.no_drop {v : Nat → Nat} {s p d m : Nat} (h : Lyn v s p) (d0 : 0 < d) (hm : d + m < p) (e : ∀ j, j < m → v (s + d + j) = v (s + j)) (l : v (s + d + m) < v (s + m)) : False := by
  obtain ⟨k, k1, k2, k3⟩ := h d d0 (by omega)
  have f : ∀ j, j ≤ m → s + (j + d) % p = s + d + j := fun j hj => by
    rw [Nat.mod_eq_of_lt (by omega)]; omega
  rcases Nat.lt_trichotomy k m with q | q | q
  · have := e k q
    simp only [f k (by omega)] at k3
    omega
  · subst q
    simp only [f k (by omega)] at k3
    omega
  · have := k2 m q
    simp only [f m (by omega)] at this
    omega

/-! ### the places of a run -/
/-- letters turned about: the greatest comes first -/
def flip (w : Nat → Nat) : Nat → Nat := fun k => 219 - w k
/-- whether a run takes the letters in their contrary order -/
def Con (n : Nat) (w : Nat → Nat) (e p : Nat) : Prop := e < n ∧ w (e - p) < w e
instance (n w e p) : Decidable (Con n w e p) := inferInstanceAs (Decidable (_ ∧ _))
def vw (n : Nat) (w : Nat → Nat) (e p : Nat) : Nat → Nat := if Con n w e p then flip w else w
def Own (n : Nat) (w : Nat → Nat) (f e p s : Prop → Prop) : Prop := True
/-- s is an own place of the run -/
structure OwnP (n : Nat) (w : Nat → Nat) (f e p s : Nat) : Prop where
  lo : f < s
  hi : s + p ≤ e
  lyn : Lyn (vw n w e p) s p

theorem vw_per {n : Nat} {w : Nat → Nat} {f e p a b c : Nat} (h : Per w f e p) : Per (vw n w a b) f e p := by
  intro k k1 k2
  unfold vw
  split
  · show 219 - w k = 219 - w (k + p)
    rw [h k k1 k2]
  · exact h k k1 k2
/-- behind the end stands a letter that comes ahead -/
theorem vw_drop {n : Nat} {w : Nat → Nat} (hw : ∀ k, k < n → w k ≤ 219) {f e p : Nat} (r : Run n w f e p) (h : e < n) : vw n w e p e < vw n w e p (e - p) := by
  have hr := r.right
  have one := r.ls.one
  unfold vw
  split
  · rename_i c
    show 219 - w e < 219 - w (e - p)
    have h1 := hw e h
    have h2 := c.2
    omega
  · rename_i c
    have : ¬ w (e - p) < w e := fun q => c ⟨h, q⟩
    omega

theorem own_same {n : Nat} {w v : Nat → Nat} {f e p f' e' p' s : Nat} (r : Run n w f e p) (r' : Run n w f' e' p') (pe : Per v f e p) (dr : e < n → v e < v (e - p))
    (lo : f < s) (hi : s + p ≤ e) (hi' : s + p' ≤ e') (ly' : Lyn v s p') (h : p < p') : False := by
  have one := r.ls.one
  by_cases c : s + p' ≤ e
  · exact ly'.no_beat one h (pe.mono (by omega) c)
  · have le' := r'.le
    have d := dr (by omega)
    refine ly'.no_drop (d := p) (m := e - p - s) one (by omega) (fun j hj => ?_) ?_
    · have q := pe (s + j) (by omega) (by omega)
      rw [show s + p + j = s + j + p by omega]
      exact q.symm
    · rw [show s + p + (e - p - s) = e by omega, show s + (e - p - s) = e - p by omega]
      exact d
theorem own_other {n : Nat} {w : Nat → Nat} (hw : ∀ k, k < n → w k ≤ 219) {f e p f' e' p' s : Nat} (r : Run n w f e p) (r' : Run n w f' e' p') (h : p < p')
    (lo : f < s) (hi : s + p ≤ e) (lo' : f' < s) (hi' : s + p' ≤ e') (ly : Lyn w s p) (ly' : Lyn (flip w) s p') : False := by
  have one := r.ls.one
  have le := r.le
  have le' := r'.le
  have same : ∀ k, k < p → w (s + k) = w s := by
    intro k hk
    have h1 := ly.le_head hk
    have h2 := ly'.le_head (k := k) (by omega)
    have h2' : 219 - w s ≤ 219 - w (s + k) := h2
    have h3 := hw (s + k) (by omega)
    have h4 := hw s (by omega)
    omega
  by_cases c : p = 1
  · subst c
    have q := r.ls.per (s - 1) (by omega) (by omega)
    have q' := r'.ls.per (s - 1) (by omega) (by omega)
    rw [show s - 1 + 1 = s by omega] at q
    refine ly'.no_beat (d := p' - 1) (by omega) (by omega) (fun k k1 k2 => ?_)
    have ek : k = s := by omega
    subst ek
    show 219 - w k = 219 - w (k + (p' - 1))
    rw [← q, q', show k - 1 + p' = k + (p' - 1) by omega]
  · refine ly.no_beat (d := p - 1) (by omega) (by omega) (fun k k1 k2 => ?_)
    have ek : k = s := by omega
    subst ek
    exact (same (p - 1) (by omega)).symm
theorem own_other' {n : Nat} {w : Nat → Nat} (hw : ∀ k, k < n → w k ≤ 219) {f e p f' e' p' s : Nat} (r : Run n w f e p) (r' : Run n w f' e' p') (h : p < p')
    (lo : f < s) (hi : s + p ≤ e) (lo' : f' < s) (hi' : s + p' ≤ e') (ly : Lyn (flip w) s p) (ly' : Lyn w s p') : False := by
  have one := r.ls.one
  have le := r.le
  have le' := r'.le
  have same : ∀ k, k < p → w (s + k) = w s := by
    intro k hk
    have h1 := ly'.le_head (k := k) (by omega)
    have h2 := ly.le_head hk
    have h2' : 219 - w s ≤ 219 - w (s + k) := h2
    have h3 := hw (s + k) (by omega)
    have h4 := hw s (by omega)
    omega
  by_cases c : p = 1
  · subst c
    have q := r.ls.per (s - 1) (by omega) (by omega)
    have q' := r'.ls.per (s - 1) (by omega) (by omega)
    rw [show s - 1 + 1 = s by omega] at q
    refine ly'.no_beat (d := p' - 1) (by omega) (by omega) (fun k k1 k2 => ?_)
    have ek : k = s := by omega
    subst ek
    rw [← q, q', show k - 1 + p' = k + (p' - 1) by omega]
  · refine ly.no_beat (d := p - 1) (by omega) (by omega) (fun k k1 k2 => ?_)
    have ek : k = s := by omega
    subst ek
    show 219 - w k = 219 - w (k + (p - 1))
    rw [same (p - 1) (by omega)]
theorem own_lt {n : Nat} {w : Nat → Nat} (hw : ∀ k, k < n → w k ≤ 219) {f e p f' e' p' s : Nat} (r : Run n w f e p) (r' : Run n w f' e' p') (o : OwnP n w f e p s) (o' : OwnP n w f' e' p' s) (h : p < p') : False := by
  have lo := o.lo
  have hi := o.hi
  have lo' := o'.lo
  have hi' := o'.hi
  have ly := o.lyn
  have ly' := o'.lyn
  have dr := vw_drop hw r
  have pe := vw_per (n := n) (a := e) (b := p) (c := 0) r.ls.per
  unfold vw at ly ly' dr pe
  by_cases c : Con n w e p
  · by_cases c' : Con n w e' p'
    · simp only [if_pos c] at dr pe
      rw [if_pos c'] at ly'
      exact own_same r r' pe dr lo hi hi' ly' h
    · rw [if_pos c] at ly
      rw [if_neg c'] at ly'
      exact own_other' hw r r' h lo hi lo' hi' ly ly'
  · by_cases c' : Con n w e' p'
    · rw [if_neg c] at ly
      rw [if_pos c'] at ly'
      exact own_other hw r r' h lo hi lo' hi' ly ly'
    · simp only [if_neg c] at dr pe
      rw [if_neg c'] at ly'
      exact own_same r r' pe dr lo hi hi' ly' h
/-- no two runs share an own place -/
theorem own_one {n : Nat} {w : Nat → Nat} (hw : ∀ k, k < n → w k ≤ 219) {f e p f' e' p' s : Nat} (r : Run n w f e p) (r' : Run n w f' e' p') (o : OwnP n w f e p s) (o' : OwnP n w f' e' p' s) : f = f' ∧ e = e' ∧ p = p' := by
  rcases Nat.lt_trichotomy p p' with c | c | c
  · exact (own_lt hw r r' o o' c).elim
  · subst c
    have l1 := o.lo
    have l2 := o'.lo
    have s := r.same r' (a := s) (by omega) o.hi (by omega) o'.hi
    exact ⟨s.1, s.2, rfl⟩
  · exact (own_lt hw r' r o' o c).elim

/-! ### there are many -/
/-- one of the turnings is the least -/
theorem least_turn (p : Nat) (g : Nat → Nat → Nat) : ∀ n, 0 < n → ∃ d, d < n ∧ ∀ e, e < n → Lt p (g d) (g e) ∨ ∀ j, j < p → g d j = g e j := by
  intro n
  induction n with
  | zero => intro h; omega
  | succ n ih =>
    intro _
    rcases Nat.eq_zero_or_pos n with c | c
    · subst c
      exact ⟨0, by omega, fun e he => .inr fun j _ => by rw [show e = 0 by omega]⟩
    · obtain ⟨d, d1, d2⟩ := ih c
      rcases Lt.tri p (g d) (g n) with q | q | q
      · refine ⟨d, by omega, fun e he => ?_⟩
        by_cases c : e = n
        · rw [c]; exact .inl q
        · exact d2 e (by omega)
      · refine ⟨n, by omega, fun e he => ?_⟩
        by_cases c : e = n
        · rw [c]; exact .inr fun _ _ => rfl
        · rcases d2 e (by omega) with x | x
          · exact .inl (q.trans x)
          · obtain ⟨m, m1, m2, m3⟩ := q
            exact .inl ⟨m, m1, fun j hj => (m2 j hj).trans (x j (by omega)), by rw [← x m m1]; exact m3⟩
      · refine ⟨d, by omega, fun e he => ?_⟩
        by_cases c : e = n
        · rw [c]; exact .inr q
        · exact d2 e (by omega)
theorem Lt.congr {p : Nat} {a b c d : Nat → Nat} (h : Lt p a b) (h1 : ∀ j, j < p → a j = c j) (h2 : ∀ j, j < p → b j = d j) : Lt p c d := by
  obtain ⟨m, m1, m2, m3⟩ := h
  exact ⟨m, m1, fun j hj => by rw [← h1 j (by omega), ← h2 j (by omega)]; exact m2 j hj, by rw [← h1 m m1, ← h2 m m1]; exact m3⟩
/-- among the beat's places one rest: from each place of it, within the run, the letters are least -/
theorem Run.lyn {n : Nat} {w v : Nat → Nat} {f e p : Nat} (r : Run n w f e p) (hv : Per v f e p) (inj : ∀ a b, f ≤ a → a < e → f ≤ b → b < e → v a = v b → w a = w b) :
    ∃ c, c < p ∧ ∀ s, f ≤ s → s + p ≤ e → (s - f) % p = c → Lyn v s p := by
  have one := r.ls.one
  have len := r.len
  -- g d j: the j-th letter of the turning that begins at the place f + d
  obtain ⟨c, c1, c2⟩ := least_turn p (fun d j => v (f + (d + j) % p)) p one
  refine ⟨c, c1, fun s s1 s2 s3 d d0 dp => ?_⟩
  have at1 : ∀ j, j < p → v (f + (c + j) % p) = v (s + j) := by
    intro j hj
    have hb := Nat.mod_lt (c + j) one
    have h1 : (c + j) % p = (s + j - f) % p := by
      rw [← s3, show s + j - f = (s - f) + j by omega]
      simp only [Nat.mod_add_mod]
    obtain ⟨m, hm⟩ := mod_step (p := p) (x := (c + j) % p) (y := s + j - f) (by rw [Nat.mod_mod, h1]) (by rw [h1]; exact Nat.mod_le _ _)
    have := hv.mul m (f + (c + j) % p) (by omega) (by omega)
    rw [this]
    congr 1
    omega
  have at2 : ∀ j, j < p → v (f + ((c + d) % p + j) % p) = v (s + (j + d) % p) := by
    intro j hj
    have hb := Nat.mod_lt (j + d) one
    rw [← at1 _ hb]
    congr 2
    simp only [Nat.mod_add_mod, Nat.add_mod_mod]
    rw [show c + d + j = c + (j + d) by omega]
  rcases c2 ((c + d) % p) (Nat.mod_lt _ one) with h | h
  · exact h.congr at1 at2
  · -- they can't be alike: the beat is the least
    refine absurd ?_ (r.ls.least d d0 dp)
    have alike : ∀ j, j < p → v (s + j) = v (s + (j + d) % p) := fun j hj => by
      rw [← at1 j hj, ← at2 j hj]
      exact h j hj
    intro k k1 k2
    apply inj k (k + d) k1 (by omega) (by omega) (by omega)
    -- bring k, k + d among the p places from s on
    obtain ⟨x, x1, x2, x3⟩ := rep one s k
    have q1 : v k = v x := hv.mod k1 (by omega) (by omega) (by omega) x3.symm
    have hb := Nat.mod_lt (x - s + d) one
    have q2 : v (k + d) = v (s + (x - s + d) % p) := by
      refine hv.mod (by omega) (by omega) (by omega) (by omega) ?_
      simp only [Nat.add_mod_mod]
      rw [show s + (x - s + d) = x + d by omega, Nat.add_mod, ← x3, ← Nat.add_mod]
    rw [q1, q2]
    have := alike (x - s) (by omega)
    rw [show s + (x - s) = x by omega] at this
    exact this
theorem vw_inj {n : Nat} {w : Nat → Nat} (hw : ∀ k, k < n → w k ≤ 219) {a b x y : Nat} (hx : x < n) (hy : y < n) (h : vw n w a b x = vw n w a b y) : w x = w y := by
  unfold vw at h
  split at h
  · have h' : 219 - w x = 219 - w y := h
    have := hw x hx
    have := hw y hy
    omega
  · exact h
theorem Run.own {n : Nat} {w : Nat → Nat} (hw : ∀ k, k < n → w k ≤ 219) {f e p : Nat} (r : Run n w f e p) :
    ∃ c, c < p ∧ ∀ s, f < s → s + p ≤ e → (s - f) % p = c → OwnP n w f e p s := by
  have le := r.le
  obtain ⟨c, c1, c2⟩ := r.lyn (vw_per (n := n) (a := e) (b := p) (c := 0) r.ls.per) (fun a b a1 a2 b1 b2 h => vw_inj hw (by omega) (by omega) h)
  exact ⟨c, c1, fun s s1 s2 s3 => ⟨s1, s2, c2 s (by omega) s2 s3⟩⟩

/-! ### counting -/
theorem nodup_le : ∀ (n : Nat) (l : List Nat), l.Nodup → (∀ x ∈ l, x < n) → l.length ≤ n
  | 0, l, _, h => by
    cases l with
    | nil => exact Nat.le_refl _
    | cons a l => exact absurd (h a (List.mem_cons_self)) (Nat.not_lt_zero _)
  | n + 1, l, hn, h => by
    have h1 : (l.filter (fun x => decide (x ≠ n))).length ≤ n := by
      refine nodup_le n _ (hn.filter _) fun x hx => ?_
      have hx' := List.mem_filter.mp hx
      have := h x hx'.1
      have := of_decide_eq_true hx'.2
      omega
    have h2 : l.length ≤ (l.filter (fun x => decide (x ≠ n))).length + 1 := by
      clear h1 h
      induction l with
      | nil => simp
      | cons a l ih =>
        have hn' := List.nodup_cons.mp hn
        by_cases c : a = n
        · subst c
          have e : l.filter (fun x => decide (x ≠ a)) = l := by
            rw [List.filter_eq_self]
            intro x hx
            exact decide_eq_true (fun q => hn'.1 (by rw [← q]; exact hx))
          rw [List.filter_cons, if_neg (by simp), e]
          simp
        · have := ih hn'.2
          rw [List.filter_cons, if_pos (by simpa using c)]
          simp only [List.length_cons]
          omega
    omega
/-- of c, c + p, c + 2p .. at least q lie among q p places -/
theorem many {p c : Nat} (hp : c < p) (P : Nat → Bool) (a : Nat) : ∀ q m, (∀ s, a ≤ s → s < a + m → s % p = c → P s = true) → q * p ≤ m → q ≤ ((List.range' a m).filter P).length
  | 0, m, _, _ => Nat.zero_le _
  | q + 1, m, h, hm => by
    rw [Nat.add_mul, Nat.one_mul] at hm
    have ih := many hp P a q (m - p) (fun s s1 s2 s3 => h s s1 (by omega) s3) (by omega)
    obtain ⟨y, y1, y2, y3⟩ := rep (p := p) (by omega) (a + (m - p)) c
    have hy : P y = true := h y (by omega) (by omega) (by rw [y3]; exact Nat.mod_eq_of_lt hp)
    have e : List.range' a m = List.range' a (m - p) ++ List.range' (a + (m - p)) p := by
      rw [List.range'_append_1]
      congr 1
      omega
    rw [e, List.filter_append, List.length_append]
    have : 0 < ((List.range' (a + (m - p)) p).filter P).length := by
      apply List.length_pos_of_mem (a := y)
      rw [List.mem_filter, List.mem_range'_1]
      exact ⟨⟨by omega, by omega⟩, hy⟩
    omega
end BR

/-! The mirror: what the defs reckon, over texts as lists of codes. -/
namespace BR

def cut (l : List Nat) (a b : Nat) : List Nat := (l.drop a).take (b - a)
/-- the k-th letter -/
def wOf (t : List Nat) (k : Nat) : Nat := t.getD k 0
theorem wOf_eq {t : List Nat} {k : Nat} (h : k < t.length) : t[k]? = some (wOf t k) := by
  unfold wOf
  rw [List.getElem?_eq_getElem h, List.getD_eq_getElem?_getD, List.getElem?_eq_getElem h]
  rfl
theorem ext_w {a b : List Nat} (hl : a.length = b.length) (h : ∀ k, k < a.length → wOf a k = wOf b k) : a = b := by
  apply List.ext_getElem?
  intro k
  by_cases c : k < a.length
  · rw [wOf_eq c, wOf_eq (by omega), h k c]
  · rw [List.getElem?_eq_none (by omega), List.getElem?_eq_none (by omega)]
theorem w_drop (t : List Nat) (a k : Nat) : wOf (t.drop a) k = wOf t (a + k) := by
  unfold wOf
  rw [List.getD_eq_getElem?_getD, List.getD_eq_getElem?_getD, List.getElem?_drop]
theorem w_take {t : List Nat} {n k : Nat} (h : k < n) : wOf (t.take n) k = wOf t k := by
  unfold wOf
  rw [List.getD_eq_getElem?_getD, List.getD_eq_getElem?_getD, List.getElem?_take_of_lt h]
theorem w_cut {t : List Nat} {a b k : Nat} (h : a + k < b) : wOf (cut t a b) k = wOf t (a + k) := by
  unfold cut
  rw [w_take (by omega), w_drop]
theorem cut_len (t : List Nat) (a b : Nat) : (cut t a b).length = min (b - a) (t.length - a) := by
  unfold cut
  rw [List.length_take, List.length_drop]
theorem cut_len' {t : List Nat} {a b : Nat} (h : b ≤ t.length) : (cut t a b).length = b - a := by
  rw [cut_len]
  omega

/-! ### beats -/
def hb (t : List Nat) (b : Nat) : Bool := decide (t.drop b = t.take (t.length - b))
theorem hb_iff {t : List Nat} {b : Nat} (hl : b ≤ t.length) : hb t b = true ↔ Per (wOf t) 0 t.length b := by
  unfold hb
  rw [decide_eq_true_eq]
  constructor
  · intro h k _ hk
    have e := congrArg (fun x => wOf x k) h
    simp only [w_drop] at e
    rw [w_take (by omega)] at e
    rw [← e, Nat.add_comm]
  · intro h
    refine ext_w (by rw [List.length_drop, List.length_take]; omega) fun k hk => ?_
    rw [List.length_drop] at hk
    rw [w_drop, w_take (by omega), h k (Nat.zero_le _) (by omega), Nat.add_comm]
/-- the least beat; 0 of the empty text -/
def lb (t : List Nat) : Nat := ((List.range' 1 t.length).find? (hb t)).getD 0
theorem find_range {P : Nat → Bool} : ∀ (n a b : Nat), (List.range' a n).find? P = some b → a ≤ b ∧ b < a + n ∧ P b = true ∧ ∀ j, a ≤ j → j < b → P j = false
  | 0, a, b, h => by simp at h
  | n + 1, a, b, h => by
    rw [List.range'_succ, List.find?_cons] at h
    cases e : P a with
    | true =>
      rw [e] at h
      have : a = b := by simpa using h
      subst this
      exact ⟨Nat.le_refl _, by omega, e, fun j h1 h2 => by omega⟩
    | false =>
      rw [e] at h
      obtain ⟨h1, h2, h3, h4⟩ := find_range n (a + 1) b (by simpa using h)
      refine ⟨by omega, by omega, h3, fun j j1 j2 => ?_⟩
      by_cases c : j = a
      · rw [c]; exact e
      · exact h4 j (by omega) j2
theorem find_some {P : Nat → Bool} {n a x : Nat} (h1 : a ≤ x) (h2 : x < a + n) (h3 : P x = true) : ∃ b, (List.range' a n).find? P = some b := by
  cases e : (List.range' a n).find? P with
  | some b => exact ⟨b, rfl⟩
  | none =>
    rw [List.find?_eq_none] at e
    exact absurd h3 (e x (List.mem_range'_1.mpr ⟨h1, h2⟩))
theorem hb_len (t : List Nat) : hb t t.length = true := by
  unfold hb
  rw [decide_eq_true_eq, List.drop_length, Nat.sub_self, List.take_zero]
theorem lb_find {t : List Nat} (h : t ≠ []) : (List.range' 1 t.length).find? (hb t) = some (lb t) := by
  have hp : 0 < t.length := List.length_pos_iff.mpr h
  obtain ⟨b, e⟩ := find_some (P := hb t) (n := t.length) (a := 1) (x := t.length) hp (by omega) (hb_len t)
  unfold lb
  rw [e]
  rfl
theorem lb_le {t : List Nat} (h : t ≠ []) : 1 ≤ lb t ∧ lb t ≤ t.length ∧ hb t (lb t) = true ∧ ∀ j, 1 ≤ j → j < lb t → hb t j = false := by
  obtain ⟨h1, h2, h3, h4⟩ := find_range _ _ _ (lb_find h)
  exact ⟨h1, by omega, h3, h4⟩
theorem lb_least {t : List Nat} (h : t ≠ []) : Least (wOf t) 0 t.length (lb t) := by
  obtain ⟨h1, h2, h3, h4⟩ := lb_le h
  refine ⟨h1, (hb_iff h2).mp h3, fun q q1 q2 hq => ?_⟩
  have := h4 q q1 q2
  rw [(hb_iff (by omega)).mpr hq] at this
  cases this
theorem per_shift {w v : Nat → Nat} {f e p : Nat} (h : ∀ k, f + k < e → v k = w (f + k)) : Per v 0 (e - f) p ↔ Per w f e p := by
  constructor
  · intro hp k hk he
    have := hp (k - f) (Nat.zero_le _) (by omega)
    rw [h _ (by omega), h _ (by omega)] at this
    rw [show f + (k - f) = k by omega, show f + (k - f + p) = k + p by omega] at this
    exact this
  · intro hp k _ he
    rw [h _ (by omega), h _ (by omega), show f + (k + p) = f + k + p by omega]
    exact hp (f + k) (by omega) (by omega)
theorem lb_cut {t : List Nat} {f e : Nat} (h1 : f < e) (h2 : e ≤ t.length) : Least (wOf t) f e (lb (cut t f e)) ∧ lb (cut t f e) ≤ e - f := by
  have hl := cut_len' (a := f) h2
  have hne : cut t f e ≠ [] := fun z => by
    rw [z] at hl
    simp at hl
    omega
  have l := lb_least hne
  have l2 := lb_le hne
  rw [hl] at l l2
  refine ⟨⟨l.one, (per_shift (fun k hk => w_cut hk)).mp l.per, fun q q1 q2 hq => l.least q q1 q2 ((per_shift (fun k hk => w_cut hk)).mpr hq)⟩, l2.2.1⟩
theorem Least.eq {w : Nat → Nat} {f e p q : Nat} (h : Least w f e p) (h' : Least w f e q) : p = q := by
  rcases Nat.lt_trichotomy p q with c | c | c
  · exact absurd h.per (h'.least p h.one c)
  · exact c
  · exact absurd h'.per (h.least q h'.one c)
theorem lb_cut_eq {t : List Nat} {f e p : Nat} (h1 : f < e) (h2 : e ≤ t.length) (l : Least (wOf t) f e p) : lb (cut t f e) = p := (lb_cut h1 h2).1.eq l

/-! ### doubles -/
def dblB (t : List Nat) (a h : Nat) : Bool := decide (cut t a (a + h) = cut t (a + h) (a + 2 * h))
theorem dblB_iff {t : List Nat} {a h : Nat} (hl : a + 2 * h ≤ t.length) : dblB t a h = true ↔ Per (wOf t) a (a + 2 * h) h := by
  unfold dblB
  rw [decide_eq_true_eq]
  have l1 := cut_len' (t := t) (a := a) (b := a + h) (by omega)
  have l2 := cut_len' (t := t) (a := a + h) (b := a + 2 * h) hl
  constructor
  · intro e k hk he
    have : wOf (cut t a (a + h)) (k - a) = wOf (cut t (a + h) (a + 2 * h)) (k - a) := congrArg (fun x => wOf x (k - a)) e
    rw [w_cut (by omega), w_cut (by omega), show a + (k - a) = k by omega, show a + h + (k - a) = k + h by omega] at this
    exact this
  · intro p
    refine ext_w (by omega) fun k hk => ?_
    rw [w_cut (by omega), w_cut (by omega), show a + h + k = a + k + h by omega]
    exact p (a + k) (by omega) (by omega)
/-- a law's own look at a double -/
def dblL (t : List Nat) (a h : Nat) : Bool := decide ((cut t a (a + h)).length = h) && decide (cut t (a + h) (a + 2 * h) = cut t a (a + h))
def dbls (t : List Nat) : List (Nat × Nat) := (List.range' 0 t.length).flatMap fun a => ((List.range' 1 ((t.length - a) / 2)).filter (dblB t a)).map fun h => (a, h)
def dblsL (t : List Nat) : List (Nat × Nat) := (List.range' 0 t.length).flatMap fun a => ((List.range' 1 (t.length - 1)).filter (dblL t a)).map fun h => (a, h)
theorem filter_longer {P Q : Nat → Bool} {s m n : Nat} (h1 : m ≤ n) (h2 : ∀ k, s ≤ k → k < s + m → P k = Q k) (h3 : ∀ k, s + m ≤ k → k < s + n → Q k = false) : (List.range' s n).filter Q = (List.range' s m).filter P := by
  have e : List.range' s n = List.range' s m ++ List.range' (s + m) (n - m) := by
    rw [List.range'_append_1]
    congr 1
    omega
  rw [e, List.filter_append]
  have e2 : (List.range' (s + m) (n - m)).filter Q = [] := by
    rw [List.filter_eq_nil_iff]
    intro k hk
    rw [List.mem_range'_1] at hk
    rw [h3 k hk.1 (by omega)]
    exact Bool.false_ne_true
  rw [e2, List.append_nil]
  refine List.filter_congr fun k hk => ?_
  rw [List.mem_range'_1] at hk
  exact (h2 k hk.1 hk.2).symm
theorem dblsL_eq (t : List Nat) : dblsL t = dbls t := by
  unfold dblsL dbls
  refine congrArg List.flatten (List.map_congr_left fun a ha => ?_)
  rw [List.mem_range'_1] at ha
  refine congrArg (List.map fun h => (a, h)) (filter_longer (by omega) (fun h h1 h2 => ?_) (fun h h1 h2 => ?_))
  · unfold dblB dblL
    rw [decide_eq_true (show (cut t a (a + h)).length = h by rw [cut_len]; omega), Bool.true_and]
    rw [Bool.eq_iff_iff, decide_eq_true_eq, decide_eq_true_eq]
    exact eq_comm
  · unfold dblL
    rw [Bool.and_eq_false_iff]
    by_cases c : (cut t a (a + h)).length = h
    · right
      rw [decide_eq_false_iff_not]
      intro e
      have := congrArg List.length e
      rw [c, cut_len] at this
      omega
    · left
      exact decide_eq_false c
theorem mem_dbls {t : List Nat} {a h : Nat} : (a, h) ∈ dbls t ↔ Dbl t.length (wOf t) a h := by
  unfold dbls
  rw [List.mem_flatMap]
  constructor
  · rintro ⟨b, hb, hm⟩
    rw [List.mem_map] at hm
    obtain ⟨k, hk, e⟩ := hm
    cases e
    rw [List.mem_filter, List.mem_range'_1] at hk
    rw [List.mem_range'_1] at hb
    have hl : a + 2 * h ≤ t.length := by omega
    exact ⟨hk.1.1, hl, (dblB_iff hl).mp hk.2⟩
  · rintro ⟨h1, h2, h3⟩
    refine ⟨a, List.mem_range'_1.mpr ⟨Nat.zero_le _, by omega⟩, List.mem_map.mpr ⟨h, ?_, rfl⟩⟩
    rw [List.mem_filter, List.mem_range'_1]
    exact ⟨⟨h1, by omega⟩, (dblB_iff h2).mpr h3⟩

/-! ### runs -/
def isRunB (t : List Nat) (f e p : Nat) : Bool :=
  decide (f < e) && decide (e ≤ t.length) && decide (1 ≤ p) && decide (2 * p ≤ e - f) && decide (lb (cut t f e) = p) &&
    !(decide (0 < f) && decide (wOf t (f - 1) = wOf t (f - 1 + p))) && (decide (e = t.length) || !decide (wOf t e = wOf t (e - p)))
theorem isRunB_iff {t : List Nat} {f e p : Nat} : isRunB t f e p = true ↔ Run t.length (wOf t) f e p := by
  unfold isRunB
  simp only [Bool.and_eq_true, Bool.or_eq_true, Bool.not_eq_true', Bool.and_eq_false_iff, decide_eq_true_eq, decide_eq_false_iff_not]
  constructor
  · rintro ⟨⟨⟨⟨⟨⟨h1, h2⟩, h3⟩, h4⟩, h5⟩, h6⟩, h7⟩
    have l := (lb_cut h1 h2).1
    rw [h5] at l
    refine ⟨l, by omega, h2, ?_, ?_⟩
    · rcases h6 with h | h
      · exact .inl (by omega)
      · exact .inr h
    · exact h7
  · intro r
    have h1 := r.ls.one
    have h2 := r.len
    have h3 := r.le
    refine ⟨⟨⟨⟨⟨⟨by omega, h3⟩, h1⟩, by omega⟩, lb_cut_eq (by omega) h3 r.ls⟩, ?_⟩, r.right⟩
    rcases r.left with h | h
    · exact .inl (by omega)
    · exact .inr h
/-- the run of a double -/
def runOf (t : List Nat) (a h : Nat) : Nat × Nat × Nat :=
  (wl (wOf t) (lb (cut t a (a + 2 * h))) a, wr (wOf t) t.length (lb (cut t a (a + 2 * h))) (t.length - (a + 2 * h)), lb (cut t a (a + 2 * h)))
theorem runOf_run {t : List Nat} {a h : Nat} (d : Dbl t.length (wOf t) a h) : Run t.length (wOf t) (runOf t a h).1 (runOf t a h).2.1 (runOf t a h).2.2 :=
  run_of d (lb_cut (by have := d.1; omega) d.2.1).1
theorem runOf_all {t : List Nat} {f e p : Nat} (r : Run t.length (wOf t) f e p) : runOf t f p = (f, e, p) := by
  have q := r.is_of
  have d := r.dbl
  have l : lb (cut t f (f + 2 * p)) = p := lb_cut_eq (by have := d.1; omega) d.2.1 r.head
  unfold runOf
  rw [l, q.1, q.2]
theorem runOf_dvd {t : List Nat} {a h : Nat} (d : Dbl t.length (wOf t) a h) : (runOf t a h).1 ≤ a ∧ a + 2 * h ≤ (runOf t a h).2.1 ∧ (runOf t a h).2.2 ∣ h := by
  have l := (lb_cut (t := t) (f := a) (e := a + 2 * h) (by have := d.1; omega) d.2.1).1
  refine ⟨wl_le _ _ _, ?_, (least_half l d.1 d.2.2).2⟩
  have := wr_ge (wOf t) t.length (lb (cut t a (a + 2 * h))) (t.length - (a + 2 * h))
  have := d.2.1
  show a + 2 * h ≤ wr _ _ _ _
  omega
theorem runOf_only {t : List Nat} {a h f e p : Nat} (d : Dbl t.length (wOf t) a h) (r : Run t.length (wOf t) f e p) (h1 : f ≤ a) (h2 : a + 2 * h ≤ e) (h3 : p ∣ h) : (f, e, p) = runOf t a h := by
  have q := r.of_dbl d (lb_cut (by have := d.1; omega) d.2.1).1 h1 h2 h3
  unfold runOf
  rw [← q.1]
  rw [← q.1] at q
  rw [← q.2.1, ← q.2.2]
/-- all runs, in their order -/
def runsL (t : List Nat) : List (Nat × Nat × Nat) := (List.range' 0 t.length).flatMap fun f =>
  ((List.range' (f + 2) (t.length + 1 - (f + 2))).filter fun e => decide (2 * lb (cut t f e) ≤ e - f) && isRunB t f e (lb (cut t f e))).map fun e => (f, e, lb (cut t f e))
theorem mem_runsL {t : List Nat} {f e p : Nat} : (f, e, p) ∈ runsL t ↔ Run t.length (wOf t) f e p := by
  unfold runsL
  rw [List.mem_flatMap]
  constructor
  · rintro ⟨b, hb, hm⟩
    rw [List.mem_map] at hm
    obtain ⟨k, hk, e⟩ := hm
    cases e
    rw [List.mem_filter, Bool.and_eq_true] at hk
    exact isRunB_iff.mp hk.2.2
  · intro r
    have h1 := r.ls.one
    have h2 := r.len
    have h3 := r.le
    have l : lb (cut t f e) = p := lb_cut_eq (by omega) h3 r.ls
    refine ⟨f, List.mem_range'_1.mpr ⟨Nat.zero_le _, by omega⟩, List.mem_map.mpr ⟨e, ?_, by rw [l]⟩⟩
    rw [List.mem_filter, List.mem_range'_1, l, Bool.and_eq_true]
    exact ⟨⟨by omega, by omega⟩, decide_eq_true (by omega), isRunB_iff.mpr r⟩
/-- a run as one number: the order of triples below 64 -/
def code3 (r : Nat × Nat × Nat) : Nat := r.1 * 4096 + r.2.1 * 64 + r.2.2
theorem pw_flatMap {α β : Type} {R : β → β → Prop} {g : α → List β} : ∀ {l : List α}, (∀ a ∈ l, (g a).Pairwise R) → l.Pairwise (fun a b => ∀ x ∈ g a, ∀ y ∈ g b, R x y) → (l.flatMap g).Pairwise R
  | [], _, _ => by simp
  | a :: l, h1, h2 => by
    rw [List.flatMap_cons, List.pairwise_append]
    have h2' := List.pairwise_cons.mp h2
    refine ⟨h1 a List.mem_cons_self, pw_flatMap (fun b hb => h1 b (List.mem_cons_of_mem _ hb)) h2'.2, fun x hx y hy => ?_⟩
    obtain ⟨b, hb, hy⟩ := List.mem_flatMap.mp hy
    exact h2'.1 b hb x hx y hy
theorem runsL_sorted {t : List Nat} (hn : t.length < 64) : (runsL t).Pairwise fun a b => code3 a < code3 b := by
  unfold runsL
  refine pw_flatMap (fun f hf => ?_) ?_
  · rw [List.pairwise_map]
    refine List.Pairwise.filter _ ?_
    refine List.Pairwise.imp_of_mem (fun {a b} ha hb hab => ?_) (List.pairwise_lt_range' (s := f + 2) (n := t.length + 1 - (f + 2)) 1 (by decide))
    rw [List.mem_range'_1] at ha hb
    have l1 := (lb_cut (t := t) (f := f) (e := a) (by omega) (by omega)).2
    have l2 := (lb_cut (t := t) (f := f) (e := b) (by omega) (by omega)).2
    show f * 4096 + a * 64 + lb (cut t f a) < f * 4096 + b * 64 + lb (cut t f b)
    omega
  · refine List.Pairwise.imp_of_mem (fun {a b} ha hb hab => ?_) (List.pairwise_lt_range' (s := 0) (n := t.length) 1 (by decide))
    intro x hx y hy
    obtain ⟨x1, x2, x3⟩ := x
    obtain ⟨y1, y2, y3⟩ := y
    have hx' := mem_runsL.mp (List.mem_flatMap.mpr ⟨a, ha, hx⟩)
    have hy' := mem_runsL.mp (List.mem_flatMap.mpr ⟨b, hb, hy⟩)
    obtain ⟨_, _, ex⟩ := List.mem_map.mp hx
    obtain ⟨_, _, ey⟩ := List.mem_map.mp hy
    cases ex
    cases ey
    have l1 := hx'.len
    have l2 := hx'.le
    have l3 := hy'.len
    have l4 := hy'.le
    show a * 4096 + x2 * 64 + lb (cut t a x2) < b * 4096 + y2 * 64 + lb (cut t b y2)
    omega
/-- two rising lists of the same members are one -/
theorem rising_ext {α : Type} {c : α → Nat} : ∀ {l m : List α}, l.Pairwise (fun a b => c a < c b) → m.Pairwise (fun a b => c a < c b) → (∀ x, x ∈ l ↔ x ∈ m) → l = m
  | [], [], _, _, _ => rfl
  | [], b :: m, _, _, h => absurd ((h b).mpr List.mem_cons_self) (by simp)
  | a :: l, [], _, _, h => absurd ((h a).mp List.mem_cons_self) (by simp)
  | a :: l, b :: m, hl, hm, h => by
    have hl' := List.pairwise_cons.mp hl
    have hm' := List.pairwise_cons.mp hm
    have e : a = b := by
      rcases List.mem_cons.mp ((h a).mp List.mem_cons_self) with e | e
      · exact e
      · rcases List.mem_cons.mp ((h b).mpr List.mem_cons_self) with e' | e'
        · exact e'.symm
        · have := hl'.1 b e'
          have := hm'.1 a e
          omega
    subst e
    refine congrArg (a :: ·) (rising_ext hl'.2 hm'.2 fun x => ⟨fun hx => ?_, fun hx => ?_⟩)
    · rcases List.mem_cons.mp ((h x).mp (List.mem_cons_of_mem _ hx)) with e | e
      · subst e
        exact absurd (hl'.1 x hx) (Nat.lt_irrefl _)
      · exact e
    · rcases List.mem_cons.mp ((h x).mpr (List.mem_cons_of_mem _ hx)) with e | e
      · subst e
        exact absurd (hm'.1 x hx) (Nat.lt_irrefl _)
      · exact e
theorem runsL_of {t : List Nat} (hn : t.length < 64) {l : List (Nat × Nat × Nat)} (h1 : l.Pairwise fun a b => code3 a < code3 b) (h2 : ∀ x, x ∈ l ↔ ∃ d ∈ dbls t, runOf t d.1 d.2 = x) : l = runsL t := by
  refine rising_ext h1 (runsL_sorted hn) fun x => ?_
  obtain ⟨f, e, p⟩ := x
  rw [h2, mem_runsL]
  constructor
  · rintro ⟨⟨a, h⟩, hd, ex⟩
    have r := runOf_run (mem_dbls.mp hd)
    rw [show runOf t a h = (f, e, p) from ex] at r
    exact r
  · intro r
    exact ⟨(f, p), mem_dbls.mpr r.dbl, runOf_all r⟩
end BR

/-! Own places and the runs theorem over texts as lists of codes. -/
namespace BR

theorem lt_iff : ∀ {a b : List Nat}, a.length = b.length → (a < b ↔ Lt a.length (wOf a) (wOf b))
  | [], [], _ => by
    constructor
    · intro h
      exact absurd h (List.lt_irrefl _)
    · rintro ⟨m, h, _⟩
      exact absurd h (Nat.not_lt_zero _)
  | [], _ :: _, h => by simp at h
  | _ :: _, [], h => by simp at h
  | x :: a, y :: b, h => by
    have hl : a.length = b.length := by simpa using h
    rw [List.cons_lt_cons_iff, lt_iff hl]
    constructor
    · rintro (h | ⟨rfl, m, m1, m2, m3⟩)
      · exact ⟨0, by simp, fun j hj => absurd hj (Nat.not_lt_zero _), h⟩
      · refine ⟨m + 1, by simpa using m1, fun j hj => ?_, m3⟩
        cases j with
        | zero => rfl
        | succ j => exact m2 j (by omega)
    · rintro ⟨m, m1, m2, m3⟩
      cases m with
      | zero => exact .inl m3
      | succ m =>
        refine .inr ⟨m2 0 (by omega), m, by simpa using m1, fun j hj => m2 (j + 1) (by omega), m3⟩
/-- whether letters come ahead of all that comes of them by turning -/
def lynB (l : List Nat) : Bool := (List.range' 1 (l.length - 1)).all fun d => decide (l < l.drop d ++ l.take d)
theorem w_turn {l : List Nat} {d j : Nat} (hd : d < l.length) (hj : j < l.length) : wOf (l.drop d ++ l.take d) j = wOf l ((j + d) % l.length) := by
  unfold wOf
  rw [List.getD_eq_getElem?_getD, List.getD_eq_getElem?_getD]
  by_cases c : j < l.length - d
  · rw [List.getElem?_append_left (by rw [List.length_drop]; exact c), List.getElem?_drop, Nat.mod_eq_of_lt (by omega), Nat.add_comm]
  · rw [List.getElem?_append_right (by rw [List.length_drop]; omega), List.length_drop]
    rw [show j + d = (j - (l.length - d)) + l.length by omega, Nat.add_mod_right, Nat.mod_eq_of_lt (by omega)]
    rw [List.getElem?_take_of_lt (by omega)]
theorem lynB_iff {v : Nat → Nat} {l : List Nat} {s : Nat} (h : ∀ j, j < l.length → wOf l j = v (s + j)) : lynB l = true ↔ Lyn v s l.length := by
  unfold lynB
  rw [List.all_eq_true]
  have key : ∀ d, 0 < d → d < l.length → (l < l.drop d ++ l.take d ↔ Lt l.length (fun j => v (s + j)) fun j => v (s + (j + d) % l.length)) := by
    intro d d0 dl
    rw [lt_iff (by rw [List.length_append, List.length_drop, List.length_take]; omega)]
    constructor
    · intro q
      exact q.congr (fun j hj => h j hj) (fun j hj => by rw [w_turn dl hj, h _ (Nat.mod_lt _ (by omega))])
    · intro q
      exact q.congr (fun j hj => (h j hj).symm) (fun j hj => by rw [w_turn dl hj, h _ (Nat.mod_lt _ (by omega))])
  constructor
  · intro q d d0 dl
    exact (key d d0 dl).mp (of_decide_eq_true (q d (List.mem_range'_1.mpr ⟨d0, by omega⟩)))
  · intro q d hd
    rw [List.mem_range'_1] at hd
    exact decide_eq_true ((key d (by omega) (by omega)).mpr (q d (by omega) (by omega)))

/-- the letters in their contrary order -/
def turnedT (t : List Nat) : List Nat := t.map fun c => 219 - c
/-- the text by a run's order -/
def hereT (t : List Nat) (e p : Nat) : List Nat := if e < t.length ∧ wOf t (e - p) < wOf t e then turnedT t else t
def ownL (t : List Nat) (r : Nat × Nat × Nat) : List Nat := (List.range' (r.1 + 1) (r.2.1 - r.2.2 + 1 - (r.1 + 1))).filter fun s => lynB (cut (hereT t r.2.1 r.2.2) s (s + r.2.2))
theorem w_turned {t : List Nat} {k : Nat} (h : k < t.length) : wOf (turnedT t) k = 219 - wOf t k := by
  have h1 := wOf_eq (t := turnedT t) (k := k) (by unfold turnedT; rw [List.length_map]; exact h)
  unfold turnedT at h1
  rw [List.getElem?_map, wOf_eq h] at h1
  exact (Option.some.inj h1).symm
theorem hereT_len (t : List Nat) (e p : Nat) : (hereT t e p).length = t.length := by
  unfold hereT turnedT
  split
  · rw [List.length_map]
  · rfl
theorem w_here {t : List Nat} {e p k : Nat} (h : k < t.length) : wOf (hereT t e p) k = vw t.length (wOf t) e p k := by
  unfold hereT vw
  by_cases c : e < t.length ∧ wOf t (e - p) < wOf t e
  · rw [if_pos c, if_pos (show Con t.length (wOf t) e p from c), w_turned h]
    rfl
  · rw [if_neg c, if_neg (show ¬ Con t.length (wOf t) e p from c)]
theorem mem_ownL {t : List Nat} {f e p s : Nat} (r : Run t.length (wOf t) f e p) : s ∈ ownL t (f, e, p) ↔ OwnP t.length (wOf t) f e p s := by
  have one := r.ls.one
  have len := r.len
  have le := r.le
  unfold ownL
  rw [List.mem_filter, List.mem_range'_1]
  have hl : ∀ s, s + p ≤ e → (cut (hereT t e p) s (s + p)).length = p := fun s hs => by
    rw [cut_len' (by rw [hereT_len]; omega)]
    omega
  have key : ∀ s, s + p ≤ e → (lynB (cut (hereT t e p) s (s + p)) = true ↔ Lyn (vw t.length (wOf t) e p) s p) := fun s hs => by
    have := lynB_iff (v := vw t.length (wOf t) e p) (l := cut (hereT t e p) s (s + p)) (s := s) (fun j hj => by
      rw [hl s hs] at hj
      rw [w_cut (by omega), w_here (by omega)])
    rw [hl s hs] at this
    exact this
  constructor
  · rintro ⟨⟨h1, h2⟩, h3⟩
    have h1' : f + 1 ≤ s := h1
    have h2' : s < f + 1 + (e - p + 1 - (f + 1)) := h2
    exact ⟨by omega, by omega, (key s (by omega)).mp h3⟩
  · intro o
    have h1 := o.lo
    have h2 := o.hi
    exact ⟨⟨by show f + 1 ≤ s; omega, by show s < f + 1 + (e - p + 1 - (f + 1)); omega⟩, (key s h2).mpr o.lyn⟩

/-! ### counting -/
theorem low_w {t : List Nat} (h : ∀ c ∈ t, c ≤ 219) : ∀ k, k < t.length → wOf t k ≤ 219 := fun k hk => h _ (List.mem_of_getElem? (wOf_eq hk))
theorem mod_inj {p f x c : Nat} (hx : x < p) (hc : c < p) (h : (f + x) % p = (f + c) % p) : x = c := by
  rcases Nat.le_total x c with l | l
  · obtain ⟨m, hm⟩ := mod_step h (by omega)
    rcases Nat.eq_zero_or_pos m with z | z
    · subst z
      omega
    · have : p ≤ m * p := Nat.le_mul_of_pos_left p z
      omega
  · obtain ⟨m, hm⟩ := mod_step h.symm (by omega)
    rcases Nat.eq_zero_or_pos m with z | z
    · subst z
      omega
    · have : p ≤ m * p := Nat.le_mul_of_pos_left p z
      omega
theorem own_many {t : List Nat} (hw : ∀ c ∈ t, c ≤ 219) {f e p : Nat} (r : Run t.length (wOf t) f e p) : (e - p - f) / p ≤ (ownL t (f, e, p)).length := by
  have one := r.ls.one
  have len := r.len
  obtain ⟨c, c1, c2⟩ := r.own (low_w hw)
  unfold ownL
  have hb := Nat.mod_lt (f + c) one
  refine many (p := p) (c := (f + c) % p) hb _ _ _ _ (fun s s1 s2 s3 => ?_) ?_
  · have s1' : f + 1 ≤ s := s1
    have s2' : s < f + 1 + (e - p + 1 - (f + 1)) := s2
    have hm : (s - f) % p = c := by
      refine mod_inj (f := f) (Nat.mod_lt _ one) c1 ?_
      rw [Nat.add_mod_mod, show f + (s - f) = s by omega]
      exact s3
    have o := (mem_ownL r).mpr (c2 s (by omega) (by omega) hm)
    unfold ownL at o
    exact (List.mem_filter.mp o).2
  · show (e - p - f) / p * p ≤ e - p + 1 - (f + 1)
    have := Nat.div_mul_le_self (e - p - f) p
    omega
theorem own_pos {t : List Nat} (hw : ∀ c ∈ t, c ≤ 219) {f e p : Nat} (r : Run t.length (wOf t) f e p) : 1 ≤ (ownL t (f, e, p)).length := by
  have one := r.ls.one
  have len := r.len
  refine Nat.le_trans ?_ (own_many hw r)
  rw [Nat.le_div_iff_mul_le one]
  omega
/-- a run's letters against its own places -/
theorem own_wide {t : List Nat} (hw : ∀ c ∈ t, c ≤ 219) {f e p : Nat} (r : Run t.length (wOf t) f e p) : e - f ≤ ((ownL t (f, e, p)).length + 2) * p := by
  have one := r.ls.one
  have len := r.len
  have h := own_many hw r
  have h2 : e - p - f < ((e - p - f) / p + 1) * p := by
    have := Nat.lt_div_mul_add (a := e - p - f) one
    rw [Nat.add_mul, Nat.one_mul]
    omega
  have h3 : ((e - p - f) / p + 1) * p ≤ ((ownL t (f, e, p)).length + 1) * p := Nat.mul_le_mul_right p (by omega)
  have h4 : ((ownL t (f, e, p)).length + 2) * p = ((ownL t (f, e, p)).length + 1) * p + p := by
    rw [show (ownL t (f, e, p)).length + 2 = (ownL t (f, e, p)).length + 1 + 1 by omega, Nat.add_mul _ 1 p, Nat.one_mul]
  omega
theorem own_apart {t : List Nat} (hw : ∀ c ∈ t, c ≤ 219) {r r' : Nat × Nat × Nat} (h : r ∈ runsL t) (h' : r' ∈ runsL t) {s : Nat} (hs : s ∈ ownL t r) (hs' : s ∈ ownL t r') : r = r' := by
  obtain ⟨f, e, p⟩ := r
  obtain ⟨f', e', p'⟩ := r'
  have R := mem_runsL.mp h
  have R' := mem_runsL.mp h'
  have q := own_one (low_w hw) R R' ((mem_ownL R).mp hs) ((mem_ownL R').mp hs')
  rw [q.1, q.2.1, q.2.2]
theorem own_in {t : List Nat} {r : Nat × Nat × Nat} (h : r ∈ runsL t) {s : Nat} (hs : s ∈ ownL t r) : 1 ≤ s ∧ s < t.length := by
  obtain ⟨f, e, p⟩ := r
  have R := mem_runsL.mp h
  have o := (mem_ownL R).mp hs
  have h1 := o.lo
  have h2 := o.hi
  have h3 := R.le
  have h4 := R.ls.one
  omega
theorem ownL_nodup (t : List Nat) (r : Nat × Nat × Nat) : (ownL t r).Nodup := List.Pairwise.filter _ (List.nodup_range' (s := r.1 + 1) (n := r.2.1 - r.2.2 + 1 - (r.1 + 1)) (step := 1))
theorem runsL_nodup {t : List Nat} (hn : t.length < 64) : (runsL t).Nodup := (runsL_sorted hn).imp fun h e => by
  rw [e] at h
  exact Nat.lt_irrefl _ h
theorem owns_le {t : List Nat} (hn : t.length < 64) (hw : ∀ c ∈ t, c ≤ 219) : ((runsL t).map fun r => (ownL t r).length).sum + 1 ≤ max 1 t.length := by
  rw [← List.length_flatMap]
  have nd : ((runsL t).flatMap (ownL t)).Nodup := by
    refine pw_flatMap (fun r _ => ownL_nodup t r) ?_
    refine List.Pairwise.imp_of_mem (fun {a b} ha hb hab x hx y hy e => ?_) (runsL_nodup hn)
    subst e
    exact hab (own_apart hw ha hb hx hy)
  have h0 : (0 :: (runsL t).flatMap (ownL t)).Nodup := by
    rw [List.nodup_cons]
    refine ⟨fun h => ?_, nd⟩
    obtain ⟨r, hr, hs⟩ := List.mem_flatMap.mp h
    have := (own_in hr hs).1
    omega
  have := nodup_le (max 1 t.length) _ h0 (fun x hx => by
    rcases List.mem_cons.mp hx with e | hx
    · subst e
      omega
    · obtain ⟨r, hr, hs⟩ := List.mem_flatMap.mp hx
      have := (own_in hr hs).2
      omega)
  simpa using this
theorem sum_ge {α : Type} {g h : α → Nat} : ∀ (l : List α), (∀ x ∈ l, g x ≤ h x) → (l.map g).sum ≤ (l.map h).sum
  | [], _ => Nat.le_refl _
  | a :: l, hh => by
    rw [List.map_cons, List.map_cons, List.sum_cons, List.sum_cons]
    have := hh a List.mem_cons_self
    have := sum_ge l fun x hx => hh x (List.mem_cons_of_mem _ hx)
    omega
theorem sum_one {α : Type} : ∀ (l : List α), (l.map fun _ => 1).sum = l.length
  | [] => rfl
  | a :: l => by
    rw [List.map_cons, List.sum_cons, sum_one l, List.length_cons]
    omega
/-- runs are fewer than letters -/
theorem runs_few {t : List Nat} (hn : t.length < 64) (hw : ∀ c ∈ t, c ≤ 219) : (runsL t).length + 1 ≤ max 1 t.length := by
  have h1 := owns_le hn hw
  have h2 := sum_ge (g := fun _ => 1) (h := fun r => (ownL t r).length) (runsL t) fun r hr => by
    obtain ⟨f, e, p⟩ := r
    exact own_pos hw (mem_runsL.mp hr)
  rw [sum_one] at h2
  omega
/-- how often each comes again, added, is at most three times the letters -/
theorem runs_sum {t : List Nat} (hn : t.length < 64) (hw : ∀ c ∈ t, c ≤ 219) (W : Nat) : ((runsL t).map fun r => (r.2.1 - r.1) * (W / r.2.2)).sum ≤ 3 * t.length * W := by
  have h1 := owns_le hn hw
  have h2 := runs_few hn hw
  have h3 := sum_ge (g := fun r => (r.2.1 - r.1) * (W / r.2.2)) (h := fun r => ((ownL t r).length + 2) * W) (runsL t) fun r hr => by
    obtain ⟨f, e, p⟩ := r
    have q := own_wide hw (mem_runsL.mp hr)
    show (e - f) * (W / p) ≤ ((ownL t (f, e, p)).length + 2) * W
    refine Nat.le_trans (Nat.mul_le_mul_right _ q) ?_
    rw [Nat.mul_assoc]
    exact Nat.mul_le_mul_left _ (Nat.mul_div_le W p)
  have h4 : ∀ l : List (Nat × Nat × Nat), (l.map fun r => ((ownL t r).length + 2) * W).sum = ((l.map fun r => (ownL t r).length).sum + 2 * l.length) * W := by
    intro l
    induction l with
    | nil => simp
    | cons a l ih =>
      rw [List.map_cons, List.sum_cons, ih, List.map_cons, List.sum_cons, List.length_cons, ← Nat.add_mul]
      congr 1
      omega
  rw [h4] at h3
  refine Nat.le_trans h3 (Nat.mul_le_mul_right W ?_)
  omega
theorem runs_bound {t : List Nat} {r : Nat × Nat × Nat} (h : r ∈ runsL t) : r.1 < r.2.1 ∧ r.2.1 ≤ t.length ∧ 1 ≤ r.2.2 ∧ r.2.2 ≤ t.length := by
  obtain ⟨f, e, p⟩ := r
  have R := mem_runsL.mp h
  have h1 := R.ls.one
  have h2 := R.len
  have h3 := R.le
  exact ⟨by show f < e; omega, h3, h1, by show p ≤ _; omega⟩
end BR

/-! Rules over the hand layer: a def called by its name (Cl), texts as lists of codes. -/
namespace BR
open PySem PySem.Spec PyProof.Rows L2
abbrev S (l : List Nat) : Str := ⟨l.toArray⟩
theorem S_len (l : List Nat) : (S l).length = l.length := by simp [Str.length]
theorem S_inj {a b : List Nat} (e : S a = S b) : a = b := by
  have := congrArg (fun z : Str => z.cps.toList) e
  exact this
theorem S_cat (a b : List Nat) : S a ++ S b = S (a ++ b) := _root_.TL.ext_tl (_root_.TL.tl_append (S a) (S b))
theorem lz {n : Nat} (h : n ≤ 100000) : n ≤ sizeLine := Nat.le_trans h (by decide)
def abcL : List Nat := List.range' 97 26
theorem S_abc : Str.ofString "abcdefghijklmnopqrstuvwxyz" = S abcL := by decide +kernel

theorem same_new {H : Hp} {p : Addr} (new : H p = none) (o : HO) : Same H (upd H p o) := by
  intro b u e
  rw [upd_ne (ne_of_none e new)]
  exact e
theorem atI_twoS (b : Bool) (x y : List Nat) : atI [V.str (S x), V.str (S y)] (if b = true then 1 else 0) = some (.str (S (if b = true then y else x))) := by
  cases b <;> rfl
/-! ### lists and tuples of tuples of ints -/
abbrev refs (ks : List (Addr × List Int)) : List V := ks.map fun k => V.ref k.1
def TI (H : Hp) (ks : List (Addr × List Int)) : Prop := ∀ k ∈ ks, H k.1 = some (.tup (k.2.map V.int))
theorem TI.nil {H : Hp} : TI H [] := fun k hk => absurd hk (by simp)
theorem TI.same {H H' : Hp} {ks : List (Addr × List Int)} (h : TI H ks) (s : Same H H') : TI H' ks := fun k hk => s _ _ (h k hk)
theorem TI.updL {H : Hp} {ks : List (Addr × List Int)} {L : Addr} {xs : List V} {o : HO} (h : TI H ks) (hL : H L = some (.lst xs)) : TI (upd H L o) ks := fun k hk => by
  rw [upd_ne (ne_of (h k hk) hL (by intro z; cases z))]
  exact h k hk
theorem TI.updD {H : Hp} {ks : List (Addr × List Int)} {L : Addr} {kvs : List (List L2.Key × V)} {o : HO} (h : TI H ks) (hL : H L = some (.dT kvs)) : TI (upd H L o) ks := fun k hk => by
  rw [upd_ne (ne_of (h k hk) hL (by intro z; cases z))]
  exact h k hk
theorem TI.app {H : Hp} {ks : List (Addr × List Int)} {p : Addr} {ns : List Int} (h : TI H ks) (hp : H p = some (.tup (ns.map V.int))) : TI H (ks ++ [(p, ns)]) := fun k hk => by
  rcases List.mem_append.mp hk with q | q
  · exact h k q
  · rw [List.mem_singleton] at q
    rw [q]
    exact hp
theorem TI.sq {K : PySem.W.Frag} {H : Hp} {ks : List (Addr × List Int)} (h : TI H ks) : ∀ p ∈ ks, SqT K H p.1 (p.2.map V.int) := fun p hp => SqT.of (h p hp)
theorem refs_app (ks : List (Addr × List Int)) (p : Addr) (ns : List Int) : refs (ks ++ [(p, ns)]) = refs ks ++ [V.ref p] := by simp [refs]
theorem same_upd {H H' : Hp} {L : Addr} {o : HO} (s : Same H H') (hL : H L = none) : Same H (upd H' L o) := fun b u e => by
  rw [upd_ne (ne_of_none e hL)]
  exact s b u e
def pI (d : Nat × Nat) : List Int := [(d.1 : Int), (d.2 : Int)]
def rI3 (r : Nat × Nat × Nat) : List Int := [(r.1 : Int), (r.2.1 : Int), (r.2.2 : Int)]
/-- a tuple of tuples of ints -/
def TT (H : Hp) (p : Addr) (ns : List (List Int)) : Prop := ∃ ks, H p = some (.tup (refs ks)) ∧ TI H ks ∧ ks.map (·.2) = ns
theorem TT.same {H H' : Hp} {p : Addr} {ns : List (List Int)} (h : TT H p ns) (s : Same H H') : TT H' p ns := by
  obtain ⟨ks, h1, h2, h3⟩ := h
  exact ⟨ks, s _ _ h1, h2.same s, h3⟩
def TL (H : Hp) (p : Addr) (ns : List (List Int)) : Prop := ∃ ks, H p = some (.lst (refs ks)) ∧ TI H ks ∧ ks.map (·.2) = ns
theorem TL.same {H H' : Hp} {p : Addr} {ns : List (List Int)} (h : TL H p ns) (s : Same H H') : TL H' p ns := by
  obtain ⟨ks, h1, h2, h3⟩ := h
  exact ⟨ks, s _ _ h1, h2.same s, h3⟩
theorem dec_one (x y : Nat) : decide ([x] = [y]) = decide (x = y) := by
  rw [Bool.eq_iff_iff, decide_eq_true_eq, decide_eq_true_eq]
  exact ⟨fun h => by injection h, fun h => by rw [h]⟩
theorem refs_at {ks : List (Addr × List Int)} {i : Nat} {x : V} (h : (refs ks)[i]? = some x) : ∃ k, ks[i]? = some k ∧ x = .ref k.1 := by
  rw [List.getElem?_map] at h
  cases e : ks[i]? with
  | none => rw [e] at h; cases h
  | some k => rw [e] at h; exact ⟨k, rfl, (Option.some.inj h).symm⟩
theorem of_map {α β γ : Type} {f : α → γ} {g : β → γ} {l : List α} {m : List β} (h : l.map f = m.map g) {i : Nat} {a : α} (ha : l[i]? = some a) : ∃ b, m[i]? = some b ∧ f a = g b := by
  have := congrArg (fun z => z[i]?) h
  simp only [List.getElem?_map, ha] at this
  cases e : m[i]? with
  | none => rw [e] at this; cases this
  | some b => rw [e] at this; exact ⟨b, rfl, Option.some.inj this⟩
theorem take_next {α : Type} {l : List α} {i : Nat} {a : α} (h : l[i]? = some a) : l.take (i + 1) = l.take i ++ [a] := by
  rw [List.take_add_one, h]
  rfl
theorem nodup_sub {α : Type} [DecidableEq α] : ∀ {l m : List α}, l.Nodup → (∀ x ∈ l, x ∈ m) → l.length ≤ m.length
  | [], _, _, _ => Nat.zero_le _
  | a :: l, m, hn, h => by
    have hn' := List.nodup_cons.mp hn
    have ih := nodup_sub (m := m.erase a) hn'.2 fun x hx => (List.mem_erase_of_ne (fun e => hn'.1 (by rw [← e]; exact hx))).mpr (h x (List.mem_cons_of_mem _ hx))
    have := List.length_erase_of_mem (h a List.mem_cons_self)
    have : 0 < m.length := List.length_pos_of_mem (h a List.mem_cons_self)
    rw [List.length_cons]
    omega
theorem iteNot {A B : Prop} (b : Bool) (h1 : b = false → A) (h2 : b = true → B) : if (!b) = true then A else B := by
  cases b
  · exact h1 rfl
  · exact h2 rfl

theorem u65 {k : Nat} {A : Around} (r : Room k A) : A.units + 65 < cLine := by have := r.un; omega
/-! ### a def by its name -/
structure Cl (P : Program) (w : World) (K : PySem.W.Frag) (mg : Str → Option Value) (base : Heap) (k : Nat) (x : Str) (ps : List Str) (sp : Sp) : Prop where
  ex : ∃ f fd, FnOk P w K mg base CX0 k f fd ps sp ∧ mg x = some (.ref f) ∧ PySem.W.keepIn K (.ref f) = true ∧ Binds K fd ps []
section
variable {X : Cx}
theorem pe_cl {k : Nat} {x : Str} {ps : List Str} {sp : Sp} {p pos : Pos} {e : Expr} {es : List Expr} {t : TA} (c : Cl X.prog X.w X.K X.mg X.base k x ps sp) (hr : Room k X.A) (hg : Gl X x) (ha : PA X (e :: es) t)
    (hdb : (x == ("__debug__" : Str)) = false := by decide)
    (he : starEach (e :: es) X.env = (false, eval e X.env) :: starEach es X.env := by rfl)
    (hpl : (backTo pos (starEach es X.env)).any (·.1) = false := by rfl) :
    PE X (.Call (.Name x p) (e :: es) [] pos) (tCall sp [] E0 t) := by
  obtain ⟨f, fd, F, m, kp, b⟩ := c.ex
  exact pe_call F hr hg m kp b .nil pass0 ha hdb he hpl

theorem ix_tupK {K : PySem.W.Frag} (h : X.K = K) : IxR X (rIxT K) := by
  subst h
  exact ix_tup
theorem ix_listK {K : PySem.W.Frag} (h : X.K = K) : IxR X (rIxL K) := by
  subst h
  exact ix_list
/-! ### texts -/
theorem pe_strS {x : Str} {l : List Nat} {j pos} (h : x = S l) : PE X (.Constant (.str x) j pos) (tC (.str (S l))) := by
  subst h
  exact pe_str
def slN (l : List Nat) : Option Int → Option Int → List Nat
  | some a, some b => cut l a.toNat b.toNat
  | some a, none => l.drop a.toNat
  | none, some b => l.take b.toNat
  | none, none => l
def nn : Option Int → Prop
  | some a => 0 ≤ a
  | none => True
theorem take_min (l : List Nat) (k : Nat) : l.take (min k l.length) = l.take k := by
  rcases Nat.le_total k l.length with h | h
  · rw [Nat.min_eq_left h]
  · rw [Nat.min_eq_right h, List.take_length, List.take_of_length_le h]
theorem drop_min (l : List Nat) (k : Nat) : l.drop (min k l.length) = l.drop k := by
  rcases Nat.le_total k l.length with h | h
  · rw [Nat.min_eq_left h]
  · rw [Nat.min_eq_right h, List.drop_length, List.drop_eq_nil_of_le h]
theorem cut_min (l : List Nat) (a b : Nat) : (l.drop (min a l.length)).take (min b l.length - min a l.length) = cut l a b := by
  unfold cut
  rw [drop_min]
  rcases Nat.le_total a l.length with h | h
  · rw [Nat.min_eq_left h]
    rcases Nat.le_total b l.length with h2 | h2
    · rw [Nat.min_eq_left h2]
    · rw [Nat.min_eq_right h2, List.take_of_length_le (by rw [List.length_drop] <;> omega), List.take_of_length_le (by rw [List.length_drop] <;> omega)]
  · rw [List.drop_eq_nil_of_le h, List.take_nil, List.take_nil]
theorem cutS_S (l : List Nat) (lo hi : Option Int) (h0 : nn lo) (h1 : nn hi) : cutS (S l) lo hi = S (slN l lo hi) := by
  unfold cutS
  rw [S_len]
  refine congrArg S ?_
  show (l.drop _).take _ = _
  cases lo with
  | none =>
    rw [HT.sIx_none]
    cases hi with
    | none =>
      rw [HT.sIx_none]
      show (l.drop 0).take (l.length - 0) = l
      rw [List.drop_zero, Nat.sub_zero, List.take_length]
    | some b =>
      obtain ⟨b, rfl⟩ := Int.eq_ofNat_of_zero_le (show 0 ≤ b from h1)
      rw [HT.sIx_nat]
      show (l.drop 0).take (min b l.length - 0) = l.take b
      rw [List.drop_zero, Nat.sub_zero, take_min]
  | some a =>
    obtain ⟨a, rfl⟩ := Int.eq_ofNat_of_zero_le (show 0 ≤ a from h0)
    rw [HT.sIx_nat]
    cases hi with
    | none =>
      rw [HT.sIx_none]
      show (l.drop (min a l.length)).take (l.length - min a l.length) = l.drop a
      rw [drop_min, List.take_of_length_le]
      rw [List.length_drop]
      omega
    | some b =>
      obtain ⟨b, rfl⟩ := Int.eq_ofNat_of_zero_le (show 0 ≤ b from h1)
      rw [HT.sIx_nat]
      exact cut_min l a b
theorem sl_S : SlR X (fun x lo hi H Q => ∃ l, x = .str (S l) ∧ l.length ≤ 100000 ∧ nn lo ∧ nn hi ∧ Q (.str (S (slN l lo hi))) H) := by
  intro pins s σ H x v vl vu lo hi sl Q I rx hs pl pu h
  obtain ⟨l, rfl, hz, h0, h1, q⟩ := h
  exact sl_str pins s σ H _ v vl vu lo hi sl Q I rx hs pl pu ⟨_, rfl, by rw [S_len]; exact lz hz, by rw [cutS_S l lo hi h0 h1]; exact q⟩
theorem call_len_S : CallR X (.builtin "len") (fun xs H Q => ∃ l, xs = [.str (S l)] ∧ l.length ≤ 100000 ∧ Q (.int l.length) H) := by
  intro pins s σ H xs us Q I r h
  obtain ⟨l, rfl, hz, q⟩ := h
  exact call_len_str pins s σ H _ us Q I r ⟨S l, rfl, by rw [S_len]; exact lz hz, by rw [S_len]; exact q⟩
theorem dec_S (a b : List Nat) : decide (V.str (S a) = V.str (S b)) = decide (a = b) := by
  rw [Bool.eq_iff_iff, decide_eq_true_eq, decide_eq_true_eq]
  exact ⟨fun h => S_inj (V.str.inj h), fun h => by rw [h]⟩
theorem op_eqS : OpR X (compareOp .Eq) (fun x y H Q => ∃ a b, x = .str (S a) ∧ y = .str (S b) ∧ Q (.bl (decide (a = b))) H) := by
  intro pins s σ H x y v u Q I rx ry h
  obtain ⟨a, b, rfl, rfl, q⟩ := h
  exact op_eq pins s σ H _ _ v u Q I rx ry ⟨rfl, by rw [dec_S]; exact q⟩
theorem op_neS : OpR X (compareOp .NotEq) (fun x y H Q => ∃ a b, x = .str (S a) ∧ y = .str (S b) ∧ Q (.bl (!decide (a = b))) H) := by
  intro pins s σ H x y v u Q I rx ry h
  obtain ⟨a, b, rfl, rfl, q⟩ := h
  exact op_ne pins s σ H _ _ v u Q I rx ry ⟨rfl, by rw [dec_S]; exact q⟩
theorem op_eqI : OpR X (compareOp .Eq) (fun x y H Q => ∃ a b, x = .int a ∧ y = .int b ∧ Q (.bl (decide (a = b))) H) := by
  intro pins s σ H x y v u Q I rx ry h
  obtain ⟨a, b, rfl, rfl, q⟩ := h
  refine op_eq pins s σ H _ _ v u Q I rx ry ⟨rfl, ?_⟩
  rw [show decide (V.int a = V.int b) = decide (a = b) by rw [Bool.eq_iff_iff]; simp]
  exact q
theorem op_neI : OpR X (compareOp .NotEq) (fun x y H Q => ∃ a b, x = .int a ∧ y = .int b ∧ Q (.bl (!decide (a = b))) H) := by
  intro pins s σ H x y v u Q I rx ry h
  obtain ⟨a, b, rfl, rfl, q⟩ := h
  refine op_ne pins s σ H _ _ v u Q I rx ry ⟨rfl, ?_⟩
  rw [show decide (V.int a = V.int b) = decide (a = b) by rw [Bool.eq_iff_iff]; simp]
  exact q
theorem op_eqB : OpR X (compareOp .Eq) (fun x y H Q => ∃ a b : Bool, x = .bl a ∧ y = .bl b ∧ Q (.bl (decide (a = b))) H) := by
  intro pins s σ H x y v u Q I rx ry h
  obtain ⟨a, b, rfl, rfl, q⟩ := h
  refine op_eq pins s σ H _ _ v u Q I rx ry ⟨rfl, ?_⟩
  rw [show decide (V.bl a = V.bl b) = decide (a = b) by rw [Bool.eq_iff_iff]; simp]
  exact q
theorem op_neB : OpR X (compareOp .NotEq) (fun x y H Q => ∃ a b : Bool, x = .bl a ∧ y = .bl b ∧ Q (.bl (!decide (a = b))) H) := by
  intro pins s σ H x y v u Q I rx ry h
  obtain ⟨a, b, rfl, rfl, q⟩ := h
  refine op_ne pins s σ H _ _ v u Q I rx ry ⟨rfl, ?_⟩
  rw [show decide (V.bl a = V.bl b) = decide (a = b) by rw [Bool.eq_iff_iff]; simp]
  exact q
theorem ix_S : IxR X (fun x y H Q => ∃ l i, x = .str (S l) ∧ y = .int i ∧ l.length ≤ 100000 ∧ 0 ≤ i ∧ i.toNat < l.length ∧ Q (.str (S [l.getD i.toNat 0])) H) := by
  intro value slice pins s σ H x y v u Q I rx ry h hs
  obtain ⟨l, i, rfl, rfl, hz, h0, h1, q⟩ := h
  refine ix_str value slice pins s σ H _ _ v u Q I rx ry ⟨S l, i, l.getD i.toNat 0, rfl, rfl, by rw [S_len]; exact lz hz, ?_, q⟩ hs
  obtain ⟨k, rfl⟩ := Int.eq_ofNat_of_zero_le h0
  have h2 : k < l.length := h1
  refine atI_nat ?_
  show l[k]? = some (l.getD k 0)
  rw [List.getElem?_eq_getElem h2, List.getD_eq_getElem?_getD, List.getElem?_eq_getElem h2]
  rfl
theorem op_addS : OpR X (binaryOp .Add) (fun x y H Q => ∃ a b, x = .str (S a) ∧ y = .str (S b) ∧ a.length + b.length ≤ 100000 ∧ Q (.str (S (a ++ b))) H) := by
  intro pins s σ H x y v u Q I rx ry h
  obtain ⟨a, b, rfl, rfl, hz, q⟩ := h
  exact op_add_str pins s σ H _ _ v u Q I rx ry ⟨S a, S b, rfl, rfl, by rw [S_len, S_len]; exact lz hz, by rw [S_cat]; exact q⟩
theorem op_ltS : OpR X (compareOp .Lt) (fun x y H Q => ∃ a b, x = .str (S a) ∧ y = .str (S b) ∧ Q (.bl (decide (a < b))) H) := by
  intro pins s σ H x y v u Q I rx ry h
  obtain ⟨a, b, rfl, rfl, q⟩ := h
  exact op_lt_str pins s σ H _ _ v u Q I rx ry ⟨S a, S b, rfl, rfl, q⟩
theorem op_inS : OpR X (compareOp .In) (fun x y H Q => ∃ (c : Nat) (l : List Nat), x = .str (S [c]) ∧ y = .str (S l) ∧ Q (.bl (decide (c ∈ l))) H) := by
  intro pins s σ H x y v u Q I rx ry h
  obtain ⟨c, l, rfl, rfl, q⟩ := h
  exact op_in_sign pins s σ H _ _ v u Q I rx ry ⟨c, S l, rfl, rfl, q⟩
theorem op_notInS : OpR X (compareOp .NotIn) (fun x y H Q => ∃ (c : Nat) (l : List Nat), x = .str (S [c]) ∧ y = .str (S l) ∧ Q (.bl (!decide (c ∈ l))) H) := by
  intro pins s σ H x y v u Q I rx ry h
  obtain ⟨c, l, rfl, rfl, q⟩ := h
  exact op_notIn_sign pins s σ H _ _ v u Q I rx ry ⟨c, S l, rfl, rfl, q⟩
def rptN (l : List Nat) (n : Nat) : List Nat := (List.replicate n l).flatten
theorem rpt_len (l : List Nat) (n : Nat) : (rptN l n).length = l.length * n := by simp [rptN, Nat.mul_comm]
/-- the letters a to z alone -/
def Low (l : List Nat) : Prop := ∀ c ∈ l, 97 ≤ c ∧ c ≤ 122
theorem Low.take {l : List Nat} (h : Low l) (n : Nat) : Low (l.take n) := fun c hc => h c (List.mem_of_mem_take hc)
theorem Low.drop {l : List Nat} (h : Low l) (n : Nat) : Low (l.drop n) := fun c hc => h c (List.mem_of_mem_drop hc)
theorem Low.rpt {l : List Nat} (h : Low l) (n : Nat) : Low (rptN l n) := fun c hc => by
  unfold rptN at hc
  obtain ⟨x, hx, hc⟩ := List.mem_flatten.mp hc
  rw [List.eq_of_mem_replicate hx] at hc
  exact h c hc
theorem Low.app {a b : List Nat} (ha : Low a) (hb : Low b) : Low (a ++ b) := fun c hc => by
  rcases List.mem_append.mp hc with h | h
  · exact ha c h
  · exact hb c h
theorem Low.nil : Low [] := fun c hc => absurd hc (by simp)
theorem Low.getD {l : List Nat} (h : Low l) {i : Nat} (hi : i < l.length) : Low [l.getD i 0] := fun c hc => by
  rw [List.mem_singleton] at hc
  rw [hc, List.getD_eq_getElem?_getD, List.getElem?_eq_getElem hi]
  exact h _ (List.getElem_mem hi)
theorem foldl_rep (l acc : List Nat) : ∀ n, ((List.replicate n l.toArray).foldl (· ++ ·) acc.toArray) = (acc ++ rptN l n).toArray
  | 0 => by simp [rptN]
  | n + 1 => by
    rw [List.replicate_succ, List.foldl_cons]
    have := foldl_rep l (acc ++ l) n
    rw [show acc.toArray ++ l.toArray = (acc ++ l).toArray by simp, this]
    simp [rptN, List.replicate_succ]
theorem op_mulS : OpR X (binaryOp .Mult) (fun x y H Q => ∃ l n, x = .str (S l) ∧ y = .int n ∧ 0 ≤ n ∧ n ≤ 1000 ∧ l.length ≤ 1000 ∧ Q (.str (S (rptN l n.toNat))) H) := by
  intro pins s σ H x y v u Q I rx ry h
  obtain ⟨l, n, rfl, rfl, h0, h1, hz, q⟩ := h
  obtain ⟨t, rfl⟩ := rx
  obtain ⟨t', rfl⟩ := ry
  have hl : (S l).length = l.length := S_len l
  have hlen : (S l).length * n.toNat ≤ 1000000 := by
    rw [hl]
    exact Nat.le_trans (Nat.mul_le_mul hz (show n.toNat ≤ 1000 by omega)) (by decide)
  refine PySem.P.mul_str ?_ (fun a b => ?_) (fun a b => ?_) ?_
  · rw [decide_eq_false (by omega), decide_eq_false (by omega)]; rfl
  · have e : (1000000000 : Int) ≤ (2 ^ 63 - 1) / n := by
      refine Int.le_ediv_of_mul_le (by omega) ?_
      omega
    rw [hl]
    omega
  · refine decide_eq_false ?_
    rw [sizeLine_eq]
    omega
  · by_cases c : n < 1
    · rw [if_pos c]
      have e : n = 0 := by omega
      subst e
      exact ⟨by decide, .str (S []), H, I.tok _, ⟨_, rfl⟩, q⟩
    · rw [if_neg c]
      by_cases d : (n == 1 || (S l).length == 0) = true
      · rw [if_pos d]
        have e : rptN l n.toNat = l := by
          rw [hl, Bool.or_eq_true, beq_iff_eq, beq_iff_eq] at d
          rcases d with d | d
          · subst d
            simp [rptN]
          · rw [List.length_eq_zero_iff] at d
            subst d
            simp [rptN]
        rw [e] at q
        exact ⟨.str (S l), H, I, ⟨_, rfl⟩, q⟩
      · rw [if_neg d]
        have e := foldl_rep l [] n.toNat
        rw [List.nil_append] at e
        have e' : (⟨(List.replicate n.toNat (S l).cps).foldl (· ++ ·) #[]⟩ : Str) = S (rptN l n.toNat) := congrArg Str.mk e
        refine ⟨?_, .str (S (rptN l n.toNat)), H, I.tok _, ⟨_, congrArg (fun z => Value.str z s.toks) e'⟩, q⟩
        show ((List.replicate n.toNat l.toArray).foldl (· ++ ·) #[]).size ≤ sizeLine
        rw [show (#[] : Array Nat) = ([] : List Nat).toArray from rfl, e, List.size_toArray, sizeLine_eq]
        have : (rptN l n.toNat).length = l.length * n.toNat := by
          simp [rptN, Nat.mul_comm]
        rw [this, ← hl]
        omega
end
end BR

/-! sorted of a dict whose keys are tuples of ints; set of a tuple of such. -/
namespace BR
open PySem PySem.Spec PyProof.Rows L2
theorem perm_map_inv {α β : Type} {f : α → β} {l k : List β} (h : l.Perm k) : ∀ m : List α, k = m.map f → ∃ m' : List α, m'.Perm m ∧ l = m'.map f := by
  induction h with
  | nil =>
    intro m e
    have : m = [] := List.map_eq_nil_iff.mp e.symm
    subst this
    exact ⟨[], .nil, rfl⟩
  | cons x _ ih =>
    intro m e
    cases m with
    | nil => cases e
    | cons a m =>
      rw [List.map_cons] at e
      injection e with e1 e2
      obtain ⟨m', p, e'⟩ := ih m e2
      exact ⟨a :: m', p.cons a, by rw [List.map_cons, ← e1, ← e']⟩
  | swap x y l =>
    intro m e
    cases m with
    | nil => cases e
    | cons a m =>
      cases m with
      | nil =>
        rw [List.map_cons] at e
        injection e with _ e
        cases e
      | cons b m =>
        rw [List.map_cons, List.map_cons] at e
        injection e with e1 e
        injection e with e2 e3
        exact ⟨b :: a :: m, .swap a b m, by rw [List.map_cons, List.map_cons, ← e1, ← e2, ← e3]⟩
  | trans _ _ ih1 ih2 =>
    intro m e
    obtain ⟨m2, p2, e2⟩ := ih2 m e
    obtain ⟨m1, p1, e1⟩ := ih1 m2 e2
    exact ⟨m1, p1.trans p2, e1⟩
theorem keys_of {H : Hp} : ∀ {kvs : List (List L2.Key × V)} {xs : List (List L2.Key × Addr × Value)}, KT H kvs xs → ∀ {ns : List (List Int)}, kvs.map (·.1) = ns.map (fun k => k.map Sum.inl) →
    ∃ ks : List (Addr × List Int), ks.map (·.1) = xs.map (·.2.1) ∧ ks.map (·.2) = ns ∧ TI H ks
  | [], [], .nil, ns, e => by
    have : ns = [] := List.map_eq_nil_iff.mp e.symm
    subst this
    exact ⟨[], rfl, rfl, TI.nil⟩
  | p :: kvs, x :: xs, .cons h t, ns, e => by
    cases ns with
    | nil => cases e
    | cons n ns =>
      rw [List.map_cons, List.map_cons] at e
      injection e with e1 e2
      obtain ⟨ks, h1, h2, h3⟩ := keys_of t e2
      refine ⟨(x.2.1, n) :: ks, by rw [List.map_cons, List.map_cons, h1], by rw [List.map_cons, h2], fun k hk => ?_⟩
      rcases List.mem_cons.mp hk with q | q
      · rw [q]
        have := h.2.1
        rw [e1, List.map_map] at this
        exact this
      · exact h3 k q
section
variable {X : Cx}
theorem cr_sortedDT (hc : X.calm = true) : CallR X (.builtin "sorted") (fun vs H Q => ∃ (a : Addr) (kvs : List (List L2.Key × V)) (ns : List (List Int)) (d : Nat) (B : Int), vs = [.ref a] ∧ H a = some (.dT kvs) ∧ kvs.map (·.1) = ns.map (fun k => k.map Sum.inl) ∧ ns.length < 64 ∧ 1 ≤ d ∧
    (∀ n ∈ ns, n.length = d ∧ TS.Bd B n) ∧ ∀ (ks : List (Addr × List Int)) (p : Addr), TI H ks → (ks.map (·.2)).Perm ns → ks.Pairwise (fun q r => TS.code B q.2 ≤ TS.code B r.2) → H p = none → Q (.ref p) (upd H p (.lst (refs ks)))) := by
  intro pins s τ G vs us R J rv ask
  obtain ⟨D, kvs, ns, d, B, rfl, hD, keys, few, d1, bound, after⟩ := ask
  rw [Vals.ref1 rv]
  obtain ⟨_, hs, xs, pairs, o, es, ep, look, hx, table, ents, _⟩ := (show ObjOk X.prog X.w G s.heap D (.dT kvs) from J.hok D _ hD)
  have n1 : es.size = xs.length := size_of_entries ents
  obtain ⟨ks0, k1, k2, k3⟩ := keys_of pairs keys
  have n2 : ks0.length = xs.length := by simpa using congrArg List.length k1
  have n3 : ks0.length = ns.length := by simpa using congrArg List.length k2
  -- the call: the keys are gathered into a list, the list is sorted
  refine Calls.call_function_entry kind_sorted plain_sorted entry_sorted (args_sorted1 (.ref D)) ?_
  unfold Builtin.«sorted»
  refine wpAny_bind (m := checkCount "sorted" 1 1 _) (wpAny_pure (wpAny_bind (PySem.W.kdu_collect (A := X.A.in1) (kdl_raw hs hx table) (J.ok.hd hc) look (by rw [n1, ← n2, n3]; exact Nat.le_trans (Nat.le_of_lt few) (by decide)) fun g tk acc kept got => ?_)))
  have order : acc.toList = ks0.map fun k => Value.ref k.1 := by
    have back := congrArg (List.map Value.ref) k1
    rw [List.map_map, List.map_map] at back
    refine Eq.trans (List.ext_getElem (by rw [Array.length_toList, List.length_map, got.1, n1]) fun j b1 b2 => ?_) back.symm
    have here : acc.toList[j]? = some acc.toList[j] := List.getElem?_eq_getElem b1
    obtain ⟨en, e1, e2⟩ := got.2 j _ (by rw [← Array.getElem?_toList]; exact here)
    have jx : j < xs.length := by simpa using b2
    have row := entry_at ents j
    rw [e1, List.getElem?_eq_getElem jx] at row
    rw [e2, show en = entryOfKey (tupleKind (mixKind X.prog X.w)) xs[j] from Option.some.inj row, List.getElem_map]
    rfl
  have few' : acc.toList.length < 64 := by rw [order, List.length_map]; omega
  refine wpAny_bind (wpAny_newList ?_ (Nat.le_trans (Nat.le_of_lt few') (by decide)))
  -- the state with the new list
  let g1 := g.push (seqObj "list" acc.toList.toArray 0)
  have laidL : g1.get? g.objs.size = some (seqObj "list" acc.toList.toArray 0) := Heap.get?_push_size _ rfl
  have J1 : Inv X pins τ G { s with heap := g, toks := tk } := J.kept kept
  have asT : ∀ k ∈ ks0, TS.TupInts g1 (.ref k.1) k.2 := fun k hk => (tupI_raw J1 (SqT.of (k3 k hk))).keeps fun b u e _ => Heap.get?_push_of_some _ e
  have fit : TS.TupsOk g1 d B acc.toList := fun v hv => by
    rw [order] at hv
    obtain ⟨k, hk, e⟩ := List.mem_map.mp hv
    subst e
    have bk := bound k.2 (by rw [← k2]; exact List.mem_map.mpr ⟨k, hk, rfl⟩)
    exact ⟨k.2, asT k hk, bk.1, bk.2⟩
  refine wpAny_bind (wpAny_holding (TS.call_sort_tups (s := { s with heap := g1, toks := tk }) laidL few' d1 fit fun out perm rise => ?_))
  obtain ⟨cap, laidS⟩ := PyProof.Rows.sortedHeap_at (vs := acc.toList) (out := out) laidL
  obtain ⟨ks, pk, ek⟩ := perm_map_inv (perm.trans (by rw [order])) ks0 rfl
  have sub : ∀ k ∈ ks, k ∈ ks0 := fun k hk => pk.mem_iff.mp hk
  have rising : ks.Pairwise (fun q r => TS.code B q.2 ≤ TS.code B r.2) := by
    rw [ek] at rise
    refine List.Pairwise.imp_of_mem (fun {u v} hu hv le => ?_) (List.pairwise_map.mp rise)
    rw [← (asT u (sub u hu)).ints, ← (asT v (sub v hv)).ints]
    exact le
  have vals : Vals (refs ks) out.toList := by
    have := vals_refs (ks.map (·.1))
    rw [List.map_map, List.map_map] at this
    rw [ek]
    exact this
  have small : (refs ks).length ≤ sizeLine := by
    show (ks.map _).length ≤ sizeLine
    rw [List.length_map, pk.length_eq, sizeLine_eq]
    omega
  have old : ∀ b u, g.get? b = some u → (PyProof.Rows.sortedHeap g1 g.objs.size acc.toList out).get? b = some u := fun b u e => by
    have lt := Heap.lt_size e
    rw [PyProof.Rows.sortedHeap_old (Nat.ne_of_lt lt) (by rw [size_push']; exact Nat.lt_succ_of_lt lt)]
    exact Heap.get?_push_of_some (o := seqObj "list" acc.toList.toArray 0) e
  exact wpAny_pure ⟨_, rfl, .ref g.objs.size, upd G g.objs.size (.lst (refs ks)), J1.laid (t' := tk) old (Nat.le_refl _) ⟨small, out.toList, cap, vals, by rw [Array.toArray_toList]; exact laidS⟩, rfl,
    after ks _ (fun k hk => k3 k (sub k hk)) (by rw [← k2]; exact pk.map _) rising (J1.hok.fresh (Nat.le_refl _))⟩
end
end BR

/-! == of lists and tuples of tuples of ints; isinstance of what is known. -/
namespace BR
open PySem PySem.Spec PyProof.Rows L2
def tD (ns : List Int) : PyData := .tuple (ns.map .int)
theorem intsD_lay : ∀ ns : List Int, PyData.canLayAll0 (ns.map .int) = true
  | [] => by simp [PyData.canLayAll0]
  | n :: ns => by simp [PyData.canLayAll0, PyData.canLay0, intsD_lay ns]
theorem intsD_depth : ∀ ns : List Int, PyData.depthAll (ns.map .int) ≤ 1
  | [] => by simp [PyData.depthAll]
  | n :: ns => by
    have := intsD_depth ns
    simp only [List.map_cons, PyData.depthAll, PyData.depth]
    omega
theorem intsD_eqv : ∀ ns ms : List Int, PyData.eqvAll (ns.map .int) (ms.map .int) = decide (ns = ms)
  | [], [] => by simp [PyData.eqvAll]
  | [], _ :: _ => by simp [PyData.eqvAll]
  | _ :: _, [] => by simp [PyData.eqvAll]
  | n :: ns, m :: ms => by
    rw [List.map_cons, List.map_cons, PyData.eqvAll, intsD_eqv ns ms, PyData.eqv]
    rw [Bool.eq_iff_iff]
    simp
theorem tDs_lay : ∀ ns : List (List Int), PyData.canLayAll0 (ns.map tD) = true
  | [] => by simp [PyData.canLayAll0]
  | n :: ns => by simp [PyData.canLayAll0, tD, PyData.canLay0, intsD_lay n, tDs_lay ns]
theorem tDs_depth : ∀ ns : List (List Int), PyData.depthAll (ns.map tD) ≤ 2
  | [] => by simp [PyData.depthAll]
  | n :: ns => by
    have := tDs_depth ns
    have := intsD_depth n
    simp only [List.map_cons, PyData.depthAll, tD, PyData.depth]
    omega
theorem tDs_eqv : ∀ ns ms : List (List Int), PyData.eqvAll (ns.map tD) (ms.map tD) = decide (ns = ms)
  | [], [] => by simp [PyData.eqvAll]
  | [], _ :: _ => by simp [PyData.eqvAll]
  | _ :: _, [] => by simp [PyData.eqvAll]
  | n :: ns, m :: ms => by
    rw [List.map_cons, List.map_cons, PyData.eqvAll, tDs_eqv ns ms, tD, tD, PyData.eqv, intsD_eqv]
    rw [Bool.eq_iff_iff]
    simp
theorem shaped_of {d : PyData} (h1 : d.canLay0 = true) (h2 : d.depth ≤ 64) : SeqAt.shaped d = true := by
  show (d.canLay0 && decide (d.depth ≤ 64)) = true
  rw [h1, decide_eq_true h2]
  rfl
theorem tup_shaped (ns : List (List Int)) : SeqAt.shaped (.tuple (ns.map tD)) = true := shaped_of (by simp only [PyData.canLay0]; exact tDs_lay ns) (by have := tDs_depth ns; simp only [PyData.depth]; omega)
theorem lst_shaped (ns : List (List Int)) : SeqAt.shaped (.list (ns.map tD)) = true := shaped_of (by simp only [PyData.canLay0]; exact tDs_lay ns) (by have := tDs_depth ns; simp only [PyData.depth]; omega)
theorem intl_shaped (ns : List Int) : SeqAt.shaped (.list (ns.map .int)) = true := shaped_of (by simp only [PyData.canLay0]; exact intsD_lay ns) (by have := intsD_depth ns; simp only [PyData.depth]; omega)
theorem intt_shaped (ns : List Int) : SeqAt.shaped (.tuple (ns.map .int)) = true := shaped_of (by simp only [PyData.canLay0]; exact intsD_lay ns) (by have := intsD_depth ns; simp only [PyData.depth]; omega)
theorem at0 {x : V} {l : List V} : atI (x :: l) 0 = some x := atI_nat (j := 0) rfl
theorem at1 {x y : V} {l : List V} : atI (x :: y :: l) 1 = some y := atI_nat (j := 1) rfl
theorem at2 {x y z : V} {l : List V} : atI (x :: y :: z :: l) 2 = some z := atI_nat (j := 2) rfl
theorem filter_one {α : Type} {P : α → Bool} {x : α} : ∀ {l : List α}, l.Nodup → x ∈ l → (∀ y ∈ l, P y = true ↔ y = x) → l.filter P = [x]
  | [], _, h, _ => absurd h (by simp)
  | a :: l, hn, hx, hP => by
    have hn' := List.nodup_cons.mp hn
    by_cases e : a = x
    · subst e
      rw [List.filter_cons, if_pos ((hP a List.mem_cons_self).mpr rfl)]
      have : l.filter P = [] := by
        rw [List.filter_eq_nil_iff]
        intro y hy hp
        have := (hP y (List.mem_cons_of_mem _ hy)).mp hp
        rw [this] at hy
        exact hn'.1 hy
      rw [this]
    · have : ¬ P a = true := fun z => e ((hP a List.mem_cons_self).mp z)
      rw [List.filter_cons, if_neg this]
      refine filter_one hn'.2 ?_ fun y hy => hP y (List.mem_cons_of_mem _ hy)
      rcases List.mem_cons.mp hx with z | z
      · exact absurd z.symm e
      · exact z
theorem dp_ints {K : PySem.W.Frag} {H : Hp} : ∀ ns : List Int, DpAll K H (ns.map V.int) (ns.map .int)
  | [] => .nil
  | n :: ns => .cons (.int n) (dp_ints ns)
theorem dp_tups {K : PySem.W.Frag} {H : Hp} : ∀ {ks : List (Addr × List Int)}, TI H ks → DpAll K H (refs ks) ((ks.map (·.2)).map tD)
  | [], _ => .nil
  | k :: ks, h => .cons (.tup (SqT.of (h k List.mem_cons_self)) (dp_ints k.2)) (dp_tups fun x hx => h x (List.mem_cons_of_mem _ hx))
theorem TT.dp {K : PySem.W.Frag} {H : Hp} {a : Addr} {ns : List (List Int)} (h : TT H a ns) : Dp K H (.ref a) (.tuple (ns.map tD)) := by
  obtain ⟨ks, h1, h2, rfl⟩ := h
  exact .tup (SqT.of h1) (dp_tups h2)
theorem TL.dp {K : PySem.W.Frag} {H : Hp} {a : Addr} {ns : List (List Int)} (h : TL H a ns) : Dp K H (.ref a) (.list (ns.map tD)) := by
  obtain ⟨ks, h1, h2, rfl⟩ := h
  exact .lst (SqL.of h1) (dp_tups h2)
theorem TL.nil {H : Hp} {a : Addr} (h : H a = some (.lst [])) : TL H a [] := ⟨[], h, TI.nil, rfl⟩
section
variable {X : Cx}
theorem op_eqTT (hu : X.A.units + 64 < cLine) : OpR X (compareOp .Eq) (fun x y H Q => ∃ a b ns ms, x = .ref a ∧ y = .ref b ∧ TT H a ns ∧ TT H b ms ∧ Q (.bl (decide (ns = ms))) H) := by
  intro pins s σ H x y v u Q I rx ry h
  obtain ⟨a, b, ns, ms, rfl, rfl, h1, h2, q⟩ := h
  refine op_eqD hu pins s σ H _ _ v u Q I rx ry ⟨_, _, h1.dp, h2.dp, tup_shaped ns, tup_shaped ms, ?_⟩
  rw [PyData.eqv, tDs_eqv]
  exact q
theorem op_neTT (hu : X.A.units + 64 < cLine) : OpR X (compareOp .NotEq) (fun x y H Q => ∃ a b ns ms, x = .ref a ∧ y = .ref b ∧ TT H a ns ∧ TT H b ms ∧ Q (.bl (!decide (ns = ms))) H) := by
  intro pins s σ H x y v u Q I rx ry h
  obtain ⟨a, b, ns, ms, rfl, rfl, h1, h2, q⟩ := h
  refine op_neD hu pins s σ H _ _ v u Q I rx ry ⟨_, _, h1.dp, h2.dp, tup_shaped ns, tup_shaped ms, ?_⟩
  rw [PyData.eqv, tDs_eqv]
  exact q
theorem op_eqTL (hu : X.A.units + 64 < cLine) : OpR X (compareOp .Eq) (fun x y H Q => ∃ a b ns ms, x = .ref a ∧ y = .ref b ∧ TL H a ns ∧ TL H b ms ∧ Q (.bl (decide (ns = ms))) H) := by
  intro pins s σ H x y v u Q I rx ry h
  obtain ⟨a, b, ns, ms, rfl, rfl, h1, h2, q⟩ := h
  refine op_eqD hu pins s σ H _ _ v u Q I rx ry ⟨_, _, h1.dp, h2.dp, lst_shaped ns, lst_shaped ms, ?_⟩
  rw [PyData.eqv, tDs_eqv]
  exact q
theorem op_neTL (hu : X.A.units + 64 < cLine) : OpR X (compareOp .NotEq) (fun x y H Q => ∃ a b ns ms, x = .ref a ∧ y = .ref b ∧ TL H a ns ∧ TL H b ms ∧ Q (.bl (!decide (ns = ms))) H) := by
  intro pins s σ H x y v u Q I rx ry h
  obtain ⟨a, b, ns, ms, rfl, rfl, h1, h2, q⟩ := h
  refine op_neD hu pins s σ H _ _ v u Q I rx ry ⟨_, _, h1.dp, h2.dp, lst_shaped ns, lst_shaped ms, ?_⟩
  rw [PyData.eqv, tDs_eqv]
  exact q
/-- lists of plain ints -/
theorem op_eqIL (hu : X.A.units + 64 < cLine) : OpR X (compareOp .Eq) (fun x y H Q => ∃ (a b : Addr) (ns ms : List Int), x = .ref a ∧ y = .ref b ∧ SqL X.K H a (ns.map V.int) ∧ SqL X.K H b (ms.map V.int) ∧ Q (.bl (decide (ns = ms))) H) := by
  intro pins s σ H x y v u Q I rx ry h
  obtain ⟨a, b, ns, ms, rfl, rfl, h1, h2, q⟩ := h
  refine op_eqD hu pins s σ H _ _ v u Q I rx ry ⟨_, _, .lst h1 (dp_ints ns), .lst h2 (dp_ints ms), intl_shaped ns, intl_shaped ms, ?_⟩
  rw [PyData.eqv, intsD_eqv]
  exact q
theorem op_neT (hu : X.A.units + 64 < cLine) : OpR X (compareOp .NotEq) (fun x y H Q => ∃ (a b : Addr) (ns ms : List Int), x = .ref a ∧ y = .ref b ∧ SqT X.K H a (ns.map V.int) ∧ SqT X.K H b (ms.map V.int) ∧ Q (.bl (!decide (ns = ms))) H) := by
  intro pins s σ H x y v u Q I rx ry h
  obtain ⟨a, b, ns, ms, rfl, rfl, h1, h2, q⟩ := h
  refine op_neD hu pins s σ H _ _ v u Q I rx ry ⟨_, _, .tup h1 (dp_ints ns), .tup h2 (dp_ints ms), intt_shaped ns, intt_shaped ms, ?_⟩
  rw [PyData.eqv, intsD_eqv]
  exact q
theorem any_tD (n : List Int) : ∀ ns : List (List Int), ((ns.map tD).any fun z => PyData.eqv z (tD n)) = decide (n ∈ ns)
  | [] => by simp
  | m :: ns => by
    rw [List.map_cons, List.any_cons, any_tD n ns, tD, tD, PyData.eqv, intsD_eqv, Bool.eq_iff_iff]
    simp only [Bool.or_eq_true, decide_eq_true_eq, List.mem_cons]
    exact ⟨fun h => h.imp Eq.symm id, fun h => h.imp Eq.symm id⟩
theorem op_notInT (hu : X.A.units + 65 < cLine) : OpR X (compareOp .NotIn) (fun x y H Q => ∃ (c L : Addr) (n : List Int) (ns : List (List Int)), x = .ref c ∧ y = .ref L ∧ H c = some (.tup (n.map V.int)) ∧ TL H L ns ∧ Q (.bl (!decide (n ∈ ns))) H) := by
  intro pins s σ H x y v u Q I rx ry h
  obtain ⟨c, L, n, ns, rfl, rfl, h1, h2, q⟩ := h
  refine op_notInD hu pins s σ H _ _ v u Q I rx ry ⟨_, _, .tup (SqT.of h1) (dp_ints n), h2.dp, intt_shaped n, lst_shaped ns, ?_⟩
  rw [show ((ns.map tD).any fun z => PyData.eqv z (PyData.tuple (n.map .int))) = decide (n ∈ ns) from any_tD n ns]
  exact q
theorem op_neE (hu : X.A.units + 64 < cLine) : OpR X (compareOp .NotEq) (fun x y H Q => ∃ a b, x = .ref a ∧ y = .ref b ∧ SqL X.K H a [] ∧ SqL X.K H b [] ∧ Q (.bl false) H) := by
  intro pins s σ H x y v u Q I rx ry h
  obtain ⟨a, b, rfl, rfl, h1, h2, q⟩ := h
  refine op_neD hu pins s σ H _ _ v u Q I rx ry ⟨_, _, .lst h1 .nil, .lst h2 .nil, by decide, by decide, ?_⟩
  rw [PyData.eqv, PyData.eqvAll]
  exact q
theorem op_eqE (hu : X.A.units + 64 < cLine) : OpR X (compareOp .Eq) (fun x y H Q => ∃ a b, x = .ref a ∧ y = .ref b ∧ SqL X.K H a [] ∧ SqL X.K H b [] ∧ Q (.bl true) H) := by
  intro pins s σ H x y v u Q I rx ry h
  obtain ⟨a, b, rfl, rfl, h1, h2, q⟩ := h
  refine op_eqD hu pins s σ H _ _ v u Q I rx ry ⟨_, _, .lst h1 .nil, .lst h2 .nil, by decide, by decide, ?_⟩
  rw [PyData.eqv, PyData.eqvAll]
  exact q
end
end BR

/-! Sorted triples: what sorted() leaves of them is their one rising list. -/
namespace BR
open PySem PySem.Spec PyProof.Rows L2
theorem code_rI3 (r : Nat × Nat × Nat) : TS.code 64 (rI3 r) = (code3 r : Int) := by
  obtain ⟨a, b, c⟩ := r
  show (a : Int) * 64 ^ 2 + ((b : Int) * 64 ^ 1 + ((c : Int) * 64 ^ 0 + 0)) = ((a * 4096 + b * 64 + c : Nat) : Int)
  have e1 : (64 : Int) ^ 2 = 4096 := by decide
  have e2 : (64 : Int) ^ 1 = 64 := by decide
  have e3 : (64 : Int) ^ 0 = 1 := by decide
  rw [e1, e2, e3]
  omega
theorem rI3_inj {x y : Nat × Nat × Nat} (h : rI3 x = rI3 y) : x = y := by
  obtain ⟨a, b, c⟩ := x
  obtain ⟨a', b', c'⟩ := y
  have h' : [(a : Int), (b : Int), (c : Int)] = [(a' : Int), (b' : Int), (c' : Int)] := h
  injection h' with h1 h'
  injection h' with h2 h'
  injection h' with h3 _
  rw [Int.ofNat_inj.mp h1, Int.ofNat_inj.mp h2, Int.ofNat_inj.mp h3]
theorem mem_runs_dbl {t : List Nat} {x : Nat × Nat × Nat} : x ∈ runsL t ↔ ∃ d ∈ dbls t, runOf t d.1 d.2 = x := by
  constructor
  · intro h
    obtain ⟨f, e, p⟩ := x
    have R := mem_runsL.mp h
    exact ⟨(f, p), mem_dbls.mpr R.dbl, runOf_all R⟩
  · rintro ⟨⟨a, h⟩, hd, rfl⟩
    exact mem_runsL.mpr (runOf_run (mem_dbls.mp hd))
theorem rising_code {M : List (Nat × Nat × Nat)} (hb : ∀ x ∈ M, x.1 < 64 ∧ x.2.1 < 64 ∧ x.2.2 < 64) (nd : M.Nodup) (pw : M.Pairwise fun x y => TS.code 64 (rI3 x) ≤ TS.code 64 (rI3 y)) : M.Pairwise fun x y => code3 x < code3 y := by
  refine List.Pairwise.imp_of_mem (fun {x y} hx hy hxy => ?_) (nd.and pw)
  obtain ⟨ne, le⟩ := hxy
  rw [code_rI3, code_rI3] at le
  have bx := hb x hx
  have bY := hb y hy
  rcases Nat.lt_or_ge (code3 x) (code3 y) with c | c
  · exact c
  · exfalso
    apply ne
    obtain ⟨x1, x2, x3⟩ := x
    obtain ⟨y1, y2, y3⟩ := y
    unfold code3 at le c
    simp only at le c bx bY
    have h1 : x1 = y1 := by omega
    have h2 : x2 = y2 := by omega
    have h3 : x3 = y3 := by omega
    rw [h1, h2, h3]
theorem runs_low {t : List Nat} (hl : t.length < 64) {x : Nat × Nat × Nat} (h : x ∈ runsL t) : x.1 < 64 ∧ x.2.1 < 64 ∧ x.2.2 < 64 := by
  have b := runs_bound h
  omega
theorem rising_runs {t : List Nat} (hl : t.length < 64) {M : List (Nat × Nat × Nat)} (nd : M.Nodup) (pw : M.Pairwise fun x y => TS.code 64 (rI3 x) ≤ TS.code 64 (rI3 y)) (hm : ∀ x, x ∈ M ↔ x ∈ runsL t) : M = runsL t :=
  runsL_of hl (rising_code (fun x hx => runs_low hl ((hm x).mp hx)) nd pw) fun x => by rw [hm x, mem_runs_dbl]
/-- what lies in a list of images is a list of images -/
theorem preimage {α β : Type} {f : α → β} {m : List α} : ∀ {l : List β}, (∀ x ∈ l, x ∈ m.map f) → ∃ k : List α, l = k.map f
  | [], _ => ⟨[], rfl⟩
  | x :: l, h => by
    obtain ⟨a, _, e⟩ := List.mem_map.mp (h x List.mem_cons_self)
    obtain ⟨k, hk⟩ := preimage (f := f) (m := m) (l := l) fun y hy => h y (List.mem_cons_of_mem _ hy)
    exact ⟨a :: k, by rw [List.map_cons, e, ← hk]⟩
theorem mem_mapR {l : List (Nat × Nat × Nat)} {x : Nat × Nat × Nat} : rI3 x ∈ l.map rI3 ↔ x ∈ l := by
  constructor
  · intro h
    obtain ⟨y, hy, e⟩ := List.mem_map.mp h
    rw [← rI3_inj e]
    exact hy
  · exact fun h => List.mem_map.mpr ⟨x, h, rfl⟩
theorem bd_rI3 {x : Nat × Nat × Nat} (h : x.1 < 64 ∧ x.2.1 < 64 ∧ x.2.2 < 64) : (rI3 x).length = 3 ∧ TS.Bd 64 (rI3 x) := by
  refine ⟨rfl, fun m hm => ?_⟩
  have hm' : m ∈ [(x.1 : Int), (x.2.1 : Int), (x.2.2 : Int)] := hm
  simp only [List.mem_cons, List.not_mem_nil, or_false] at hm'
  rcases hm' with e | e | e <;> omega
theorem sum_cast {α : Type} (g : α → Nat) : ∀ l : List α, (l.map fun x => ((g x : Nat) : Int)).sum = (((l.map g).sum : Nat) : Int)
  | [] => rfl
  | x :: l => by rw [List.map_cons, List.map_cons, List.sum_cons, List.sum_cons, sum_cast g l]; omega
end BR

/-! Letters of the alphabet: index, find, join; <= of lists of ints; slices of lists of ints. -/
namespace BR
open PySem PySem.Spec PyProof.Rows L2
theorem at_S {t : List Nat} {i c : Nat} (h : (S t).cps[i]? = some c) : t[i]? = some c := by
  have h0 : t.toArray[i]? = some c := h
  rwa [List.getElem?_toArray] at h0
theorem sqL_same {K : PySem.W.Frag} {H H' : Hp} {a : Addr} {xs : List V} (h : SqL K H a xs) (m : Same H H') : SqL K H' a xs := by
  rcases h with (h | ⟨o, h⟩) | h
  · exact .inl (.inl (m _ _ h))
  · exact .inl (.inr ⟨o, m _ _ h⟩)
  · exact .inr h
theorem relLetters {x : Str} {t : Tok} (h : x = S abcL := by decide +kernel) : RelV (.str (S abcL)) (.str x t) := ⟨t, by rw [h]⟩
theorem u0 {k : Nat} {A : Around} (r : Room k A) : A.units < cLine := by have := r.un; omega
theorem abc_at {i : Nat} (h : i < 26) : abcL.getD i 0 = 97 + i := by
  unfold abcL
  rw [List.getD_eq_getElem?_getD, List.getElem?_range' h]
  simp
theorem map_lt {f : Nat → Int} (hf : ∀ x y, x < y → f x < f y) : ∀ {a b : List Nat}, a.length = b.length → (a.map f < b.map f ↔ a < b)
  | [], [], _ => by simp
  | x :: a, y :: b, h => by
    have ih := map_lt hf (a := a) (b := b) (by simpa using h)
    rw [List.map_cons, List.map_cons, List.cons_lt_cons_iff, List.cons_lt_cons_iff, ih]
    constructor
    · rintro (h1 | ⟨h1, h2⟩)
      · refine .inl ?_
        rcases Nat.lt_trichotomy x y with c | c | c
        · exact c
        · rw [c] at h1; exact absurd h1 (Int.lt_irrefl _)
        · have := hf _ _ c; omega
      · refine .inr ⟨?_, h2⟩
        rcases Nat.lt_trichotomy x y with c | c | c
        · have := hf _ _ c; omega
        · exact c
        · have := hf _ _ c; omega
    · rintro (h1 | ⟨h1, h2⟩)
      · exact .inl (hf _ _ h1)
      · exact .inr ⟨by rw [h1], h2⟩
theorem nodup_take {α : Type} : ∀ {l : List α} {i : Nat} {a : α}, l.Nodup → l[i]? = some a → a ∉ l.take i
  | [], i, a, _, h, _ => by simp at h
  | b :: l, 0, a, _, _, m => by simp at m
  | b :: l, i + 1, a, hn, h, m => by
    rw [List.take_succ_cons, List.mem_cons] at m
    have h' : l[i]? = some a := by simpa using h
    rcases m with e | m
    · subst e
      exact (List.nodup_cons.mp hn).1 (List.mem_of_getElem? h')
    · exact nodup_take (List.nodup_cons.mp hn).2 h' m
theorem idx_all : ∀ k, k < 26 → (Builtin.Str.occurrences (S abcL) (S [97 + k]) 0 26 1) = [k] := by decide +kernel
theorem idx_abc {c : Nat} (h0 : 97 ≤ c) (h1 : c ≤ 122) : Builtin.Str.occurrences (S abcL) (S [c]) 0 (S abcL).length 1 = [c - 97] := by
  have := idx_all (c - 97) (by omega)
  rw [show 97 + (c - 97) = c by omega] at this
  exact this
theorem find_abc {c : Nat} (h0 : 97 ≤ c) (h1 : c ≤ 122) : Txt.find (S abcL) (S [c]) = ((c - 97 : Nat) : Int) := by
  unfold Txt.find
  rw [idx_abc h0 h1]
theorem joinL_ones : ∀ l : List Nat, _root_.TL.joinL [] (l.map fun c => [c]) = l
  | [] => rfl
  | [_] => rfl
  | a :: b :: l => by
    show [a] ++ ([] ++ _root_.TL.joinL [] ((b :: l).map fun c => [c])) = _
    rw [joinL_ones (b :: l)]
    rfl
theorem join_ones (l : List Nat) : Txt.join (S []) (l.map fun c => S [c]) = S l := by
  rw [_root_.TL.join_eq]
  refine _root_.TL.ext_tl ?_
  rw [_root_.TL.tl_join, List.map_map]
  exact joinL_ones l
theorem sum_ones (l : List Nat) : ((l.map fun c => S [c]).map (·.length)).sum = l.length := by
  rw [List.map_map]
  induction l with
  | nil => rfl
  | cons a l ih =>
    rw [List.map_cons, List.sum_cons, ih, List.length_cons]
    show 1 + l.length = _
    omega
/-- slices of lists -/
theorem cutV_cut (xs : List V) (a b : Nat) : cutV xs (some (a : Int)) (some (b : Int)) = (xs.drop a).take (b - a) := by
  unfold cutV
  rw [HT.sIx_nat, HT.sIx_nat]
  rcases Nat.le_total a xs.length with h | h
  · rw [Nat.min_eq_left h]
    rcases Nat.le_total b xs.length with h2 | h2
    · rw [Nat.min_eq_left h2]
    · rw [Nat.min_eq_right h2, List.take_of_length_le (by rw [List.length_drop] <;> omega), List.take_of_length_le (by rw [List.length_drop] <;> omega)]
  · rw [Nat.min_eq_right h, List.drop_length, List.drop_eq_nil_of_le h, List.take_nil, List.take_nil]
theorem cutV_from (xs : List V) (a : Nat) : cutV xs (some (a : Int)) none = xs.drop a := by
  unfold cutV
  rw [HT.sIx_nat, HT.sIx_none]
  rcases Nat.le_total a xs.length with h | h
  · rw [Nat.min_eq_left h, List.take_of_length_le (by rw [List.length_drop]; omega)]
  · rw [Nat.min_eq_right h, List.drop_length, List.drop_eq_nil_of_le h, List.take_nil]
theorem cutV_to (xs : List V) (b : Nat) : cutV xs none (some (b : Int)) = xs.take b := by
  unfold cutV
  rw [HT.sIx_none, HT.sIx_nat, List.drop_zero, Nat.sub_zero]
  rcases Nat.le_total b xs.length with h | h
  · rw [Nat.min_eq_left h]
  · rw [Nat.min_eq_right h, List.take_length, List.take_of_length_le h]
/-- from place i on, both lists of one length -/
theorem first_le : ∀ (m i : Nat) (ns ms : List Int), ns.length = i + m → ms.length = i + m → (∀ j, j < i → ns.getD j 0 = ms.getD j 0) →
    SeqAt.firstLt (fun j => decide (ns.getD j 0 = ms.getD j 0)) (fun j => decide (ns.getD j 0 ≤ ms.getD j 0)) true (List.range' i m) = !decide (ms < ns)
  | 0, i, ns, ms, h1, h2, h => by
    have e : ns = ms := by
      apply List.ext_getElem?
      intro k
      by_cases c : k < i
      · have := h k c
        rw [List.getD_eq_getElem?_getD, List.getD_eq_getElem?_getD, List.getElem?_eq_getElem (by omega), List.getElem?_eq_getElem (by omega)] at this
        rw [List.getElem?_eq_getElem (by omega), List.getElem?_eq_getElem (by omega)]
        exact congrArg some this
      · rw [List.getElem?_eq_none (by omega), List.getElem?_eq_none (by omega)]
    subst e
    rw [decide_eq_false (List.lt_irrefl ns)]
    rfl
  | m + 1, i, ns, ms, h1, h2, h => by
    rw [List.range'_succ]
    by_cases c : ns.getD i 0 = ms.getD i 0
    · rw [SeqAt.firstLt_yes (decide_eq_true c)]
      refine first_le m (i + 1) ns ms (by omega) (by omega) fun j hj => ?_
      by_cases d : j = i
      · rw [d]; exact c
      · exact h j (by omega)
    · rw [SeqAt.firstLt_no (decide_eq_false c), Bool.eq_iff_iff]
      have key : ∀ (as bs : List Int), as.length = bs.length → i < as.length → (∀ j, j < i → as.getD j 0 = bs.getD j 0) → as.getD i 0 < bs.getD i 0 → as < bs := by
        intro as bs hl hi he hlt
        rw [List.lt_iff_exists]
        refine .inr ⟨i, hi, by omega, fun j hj => ?_, ?_⟩
        · have := he j hj
          rw [List.getD_eq_getElem?_getD, List.getD_eq_getElem?_getD, List.getElem?_eq_getElem (by omega), List.getElem?_eq_getElem (by omega)] at this
          exact this
        · rw [List.getD_eq_getElem?_getD, List.getD_eq_getElem?_getD, List.getElem?_eq_getElem (by omega), List.getElem?_eq_getElem (by omega)] at hlt
          exact hlt
      simp only [decide_eq_true_eq, Bool.not_eq_true', decide_eq_false_iff_not]
      constructor
      · intro hle hlt
        have h' := key ns ms (by omega) (by omega) h (by omega)
        exact List.lt_irrefl _ (List.lt_trans h' hlt)
      · intro hn
        rcases Int.lt_or_le (ms.getD i 0) (ns.getD i 0) with d | d
        · exact absurd (key ms ns (by omega) (by omega) (fun j hj => (h j hj).symm) d) hn
        · exact d
section
variable {X : Cx}
theorem op_gtS : OpR X (compareOp .Gt) (fun x y H Q => ∃ a b, x = .str (S a) ∧ y = .str (S b) ∧ Q (.bl (decide (b < a))) H) := by
  intro pins s σ H x y v u Q I rx ry h
  obtain ⟨a, b, rfl, rfl, q⟩ := h
  exact op_gt_str pins s σ H _ _ v u Q I rx ry ⟨S a, S b, rfl, rfl, q⟩
theorem sl_listK {K : PySem.W.Frag} (h : X.K = K) : SlR X (rSlL K) := by
  subst h
  exact sl_list
theorem op_leL {K : PySem.W.Frag} (hK : X.K = K) (hu : X.A.units < cLine) : OpR X (compareOp .LtE) (fun x y H Q => ∃ (a b : Addr) (ns ms : List Int), x = .ref a ∧ y = .ref b ∧ SqL K H a (ns.map V.int) ∧ SqL K H b (ms.map V.int) ∧ ns.length = ms.length ∧ Q (.bl (!decide (ms < ns))) H) := by
  intro pins s σ H x y v u Q I rx ry h
  obtain ⟨a, b, ns, ms, rfl, rfl, ha, hb, hl, q⟩ := h
  subst hK
  cases rx
  cases ry
  obtain ⟨xs, r1, ⟨o1, n1, g1, g2, _, g4⟩, _⟩ := I.list ha
  obtain ⟨ys, r2, ⟨o2, n2, k1, k2, _, k4⟩, _⟩ := I.list hb
  have v1 : IntsAre xs ns := Vals.ints r1
  have v2 : IntsAre ys ms := Vals.ints r2
  have z1 : xs.toArray.size = ns.length := by rw [List.size_toArray]; exact v1.length
  have z2 : ys.toArray.size = ms.length := by rw [List.size_toArray]; exact v2.length
  have w1 : ∀ j (g : j < xs.toArray.size), ∃ t, xs.toArray[j] = .int (ns.getD j 0) t := fun j g => PyProof.Rows.IntsAre.int_at v1 _ _ (by simp at g; simp [g])
  have w2 : ∀ j (g : j < ys.toArray.size), ∃ t, ys.toArray[j] = .int (ms.getD j 0) t := fun j g => PyProof.Rows.IntsAre.int_at v2 _ _ (by simp at g; simp [g])
  have R := SeqAt.RcOp.lists_le (A := X.A) (s := s) (e := fun j => decide (ns.getD j 0 = ms.getD j 0)) (r := fun j => decide (ns.getD j 0 ≤ ms.getD j 0)) ⟨o1, g1, g2, n1, g4⟩ ⟨o2, k1, k2, n2, k4⟩ hu
    (fun j g k => by
      obtain ⟨t, et⟩ := w1 j g
      obtain ⟨t', et'⟩ := w2 j k
      rw [et, et']
      rw [show decide (ns.getD j 0 = ms.getD j 0) = (ns.getD j 0 == ms.getD j 0) by rw [Bool.eq_iff_iff]; simp]
      exact SeqAt.EqAt.int_int _ _ _ _)
    (fun j g k _ => by
      obtain ⟨t, et⟩ := w1 j g
      obtain ⟨t', et'⟩ := w2 j k
      rw [et, et']
      exact fun _ _ _ _ h => PyProof.Rows.le_int h)
  rw [z1, z2, hl, Nat.min_self, decide_eq_true (Nat.le_refl _), List.range_eq_range', first_le ms.length 0 ns ms (by omega) (by omega) (fun j hj => by omega)] at R
  show wpAny _ X.A (richCompare .LtE _ _) _ _ s
  exact R _ _ _ _ ⟨.bl _, H, I, rfl, q⟩
theorem op_eqIT (hu : X.A.units + 64 < cLine) : OpR X (compareOp .Eq) (fun x y H Q => ∃ (a b : Addr) (ns ms : List Int), x = .ref a ∧ y = .ref b ∧ SqT X.K H a (ns.map V.int) ∧ SqT X.K H b (ms.map V.int) ∧ Q (.bl (decide (ns = ms))) H) := by
  intro pins s σ H x y v u Q I rx ry h
  obtain ⟨a, b, ns, ms, rfl, rfl, h1, h2, q⟩ := h
  refine op_eqD hu pins s σ H _ _ v u Q I rx ry ⟨_, _, .tup h1 (dp_ints ns), .tup h2 (dp_ints ms), intt_shaped ns, intt_shaped ms, ?_⟩
  rw [PyData.eqv, intsD_eqv]
  exact q
end
end BR

/-! Calm texts: what the defs ask, what the law asks. -/
namespace BR
def calmB (t : List Nat) : Bool := (List.range' 1 (t.length - 1)).all fun b => (List.range' 0 (t.length - 2 * b)).all fun f => !hb (cut t f (f + 2 * b + 1)) b
def goesOn (t : List Nat) (d : Nat × Nat) : Bool := decide ((t.drop (d.1 + 2 * d.2)).take 1 = [t.getD d.1 0])
theorem goesOn_iff {t : List Nat} {a h : Nat} : goesOn t (a, h) = true ↔ a + 2 * h < t.length ∧ wOf t (a + 2 * h) = wOf t a := by
  unfold goesOn
  rw [decide_eq_true_eq]
  constructor
  · intro e
    have hl := congrArg List.length e
    rw [List.length_take, List.length_drop, List.length_singleton] at hl
    have hw := congrArg (fun x => wOf x 0) e
    simp only at hw
    rw [w_take (by omega), w_drop] at hw
    exact ⟨by omega, hw⟩
  · rintro ⟨h1, h2⟩
    refine ext_w (by rw [List.length_take, List.length_drop, List.length_singleton]; omega) fun k hk => ?_
    rw [List.length_take, List.length_drop] at hk
    have : k = 0 := by omega
    subst this
    rw [w_take (by omega), w_drop]
    exact h2
theorem hb_longer {t : List Nat} {f b : Nat} (h1 : 1 ≤ b) (hl : f + 2 * b + 1 ≤ t.length) : hb (cut t f (f + 2 * b + 1)) b = true ↔ Per (wOf t) f (f + 2 * b + 1) b := by
  have cl := cut_len' (t := t) (a := f) hl
  rw [hb_iff (by rw [cl]; omega), cl]
  exact per_shift (fun k hk => w_cut hk)
theorem calm_eq (t : List Nat) : calmB t = decide ((dbls t).filter (goesOn t) = []) := by
  rw [Bool.eq_iff_iff, decide_eq_true_eq, List.filter_eq_nil_iff]
  unfold calmB
  rw [List.all_eq_true]
  constructor
  · rintro hc ⟨a, h⟩ hd hg
    have D := mem_dbls.mp hd
    obtain ⟨g1, g2⟩ := goesOn_iff.mp hg
    have d1 := D.1
    have h1 := hc h (List.mem_range'_1.mpr ⟨D.1, by omega⟩)
    rw [List.all_eq_true] at h1
    have h2 := h1 a (List.mem_range'_1.mpr ⟨Nat.zero_le _, by omega⟩)
    have h3 : hb (cut t a (a + 2 * h + 1)) h = true := (hb_longer D.1 (by omega)).mpr fun k hk hk2 => by
      by_cases c : k + h < a + 2 * h
      · exact D.2.2 k hk c
      · have e : k = a + h := by omega
        subst e
        have h4 := D.2.2 a (Nat.le_refl _) (by omega)
        rw [← h4, show a + h + h = a + 2 * h by omega, g2]
    rw [h3] at h2
    exact Bool.false_ne_true h2
  · intro hc b hb'
    rw [List.all_eq_true]
    intro f hf
    have m1 := List.mem_range'_1.mp hb'
    have m2 := List.mem_range'_1.mp hf
    cases e : hb (cut t f (f + 2 * b + 1)) b with
    | false => rfl
    | true =>
      exfalso
      have P := (hb_longer m1.1 (by omega)).mp e
      refine hc (f, b) (mem_dbls.mpr ⟨m1.1, by omega, P.mono (Nat.le_refl _) (by omega)⟩) (goesOn_iff.mpr ⟨by omega, ?_⟩)
      have h1 := P f (Nat.le_refl _) (by omega)
      have h2 := P (f + b) (by omega) (by omega)
      rw [h1, h2, show f + b + b = f + 2 * b by omega]
end BR

/-! Texts without: the row of noughts and ones, the calm text, the free text. -/
namespace BR
open PySem PySem.Spec PyProof.Rows L2
def tmP : Nat → List Int
  | 0 => [0]
  | k + 1 => tmP k ++ (tmP k).map fun s => 1 - s
theorem tmP_len : ∀ k, (tmP k).length = 2 ^ k
  | 0 => rfl
  | k + 1 => by
    show (tmP k ++ (tmP k).map _).length = _
    rw [List.length_append, List.length_map, tmP_len k, Nat.pow_succ]
    omega
theorem tmP_take : ∀ k, k < 7 → tmP k = (tmP 6).take (2 ^ k) := by decide +kernel
theorem tmP_01 : ∀ s ∈ tmP 6, s = 0 ∨ s = 1 := by decide +kernel
def sg (n : Nat) : List Int := (tmP 6).take n
theorem sg_len {n : Nat} (h : n ≤ 61) : (sg n).length = n := by
  unfold sg
  rw [List.length_take, tmP_len]
  omega
def C60 : List Nat := (sg 60).map fun s => [97, 98].getD s.toNat 0
def fC (i : Nat) : Nat := [97, 98, 99].getD (1 + (tmP 6).getD (i + 1) 0 - (tmP 6).getD i 0).toNat 0
def F60 : List Nat := (List.range 60).map fC
theorem F60_free : dbls F60 = [] := by decide +kernel
theorem C60_calm : (dbls C60).filter (goesOn C60) = [] := by decide +kernel
theorem F60_abc : ∀ c ∈ F60, c ∈ [97, 98, 99] := by decide +kernel
theorem C60_ab : ∀ c ∈ C60, c ∈ [97, 98] := by decide +kernel
theorem F60_len : F60.length = 60 := by decide +kernel
theorem C60_len : C60.length = 60 := by decide +kernel
theorem dbl_of_take {t : List Nat} {n a h : Nat} (hn : n ≤ t.length) (d : (a, h) ∈ dbls (t.take n)) : (a, h) ∈ dbls t := by
  have D := mem_dbls.mp d
  have l : (t.take n).length = n := by rw [List.length_take]; omega
  rw [l] at D
  refine mem_dbls.mpr ⟨D.1, by have := D.2.1; omega, fun k h1 h2 => ?_⟩
  have h3 := D.2.1
  have h4 := D.2.2 k h1 h2
  rw [w_take (by omega), w_take (by omega)] at h4
  exact h4
theorem free_take {t : List Nat} {n : Nat} (hn : n ≤ t.length) (h : dbls t = []) : dbls (t.take n) = [] := by
  rw [List.eq_nil_iff_forall_not_mem]
  rintro ⟨a, b⟩ hd
  have := dbl_of_take hn hd
  rw [h] at this
  exact absurd this (by simp)
theorem calm_take {t : List Nat} {n : Nat} (hn : n ≤ t.length) (h : (dbls t).filter (goesOn t) = []) : (dbls (t.take n)).filter (goesOn (t.take n)) = [] := by
  rw [List.filter_eq_nil_iff] at h ⊢
  rintro ⟨a, b⟩ hd hg
  have l : (t.take n).length = n := by rw [List.length_take]; omega
  obtain ⟨g1, g2⟩ := goesOn_iff.mp hg
  rw [l] at g1
  have D := mem_dbls.mp hd
  refine h (a, b) (dbl_of_take hn hd) (goesOn_iff.mpr ⟨by omega, ?_⟩)
  rw [w_take (by omega), w_take (by omega)] at g2
  exact g2
theorem has_dbl {l : List Nat} (h : 4 ≤ l.length) (hl : ∀ c ∈ l, c = 120 ∨ c = 121) : dbls l ≠ [] := by
  have v : ∀ k, k < l.length → wOf l k = 120 ∨ wOf l k = 121 := fun k hk => hl _ (List.mem_of_getElem? (wOf_eq hk))
  have some : ∀ a h', (a, h') ∈ dbls l → dbls l ≠ [] := fun a h' hd e => by rw [e] at hd; exact absurd hd (by simp)
  have two : ∀ a, a + 2 ≤ l.length → wOf l a = wOf l (a + 1) → dbls l ≠ [] := fun a ha e => some a 1 (mem_dbls.mpr ⟨Nat.le_refl _, by omega, fun k h1 h2 => by
    have : k = a := by omega
    rw [this]
    exact e⟩)
  by_cases c1 : wOf l 0 = wOf l 1
  · exact two 0 (by omega) c1
  by_cases c2 : wOf l 1 = wOf l 2
  · exact two 1 (by omega) c2
  by_cases c3 : wOf l 2 = wOf l 3
  · exact two 2 (by omega) c3
  have v0 := v 0 (by omega)
  have v1 := v 1 (by omega)
  have v2 := v 2 (by omega)
  have v3 := v 3 (by omega)
  refine some 0 2 (mem_dbls.mpr ⟨by omega, by omega, fun k h1 h2 => ?_⟩)
  have : k = 0 ∨ k = 1 := by omega
  rcases this with e | e
  · subst e; show wOf l 0 = wOf l 2; omega
  · subst e; show wOf l 1 = wOf l 3; omega
theorem cutV_last (xs : List V) : cutV xs none (some (-1)) = xs.take (xs.length - 1) := by
  have e : HT.sIx xs.length xs.length (some (-1)) = xs.length - 1 := by
    show (if (-1 : Int) < 0 then ((-1 : Int) + (xs.length : Int)).toNat else min (-1 : Int).toNat xs.length) = _
    rw [if_pos (by decide)]
    omega
  unfold cutV
  rw [HT.sIx_none, List.drop_zero, Nat.sub_zero, e]
end BR

namespace BR
open PySem PySem.Spec PyProof.Rows L2
def topS (i : Nat) : Stmt := PySem.Challenge.pw_beatruns_k30_whole_texts_without.main.body.getD i (.Pass ⟨0, 0, 0, 0⟩)
/-- what the module has of built-in names -/
structure Blt (mg : Str → Option Value) : Prop where
  len : mg "len" = none
  range : mg "range" = none
  tuple : mg "tuple" = none
  isinstance : mg "isinstance" = none
  str : mg "str" = none
  zip : mg "zip" = none
abbrev s_signs : Stmt := topS 1
abbrev n_signs : List Str := ["length", "found", "sign"]
abbrev p_signs : List Str := ["length"]
theorem sc_signs : FnScope n_signs p_signs (defScope s_signs) := ⟨rfl, rfl, rfl, by decide +kernel, rfl, by decide +kernel, by decide +kernel⟩
def sp_signs (_ : PySem.W.Frag) : Sp := fun vs H Q _ => ∃ (n : Nat), vs = [.int (n : Int)] ∧ n ≤ 61 ∧ ∀ H' p, Same H H' → H' p = some (.lst ((sg n).map V.int)) → Q (.ref p) H'
abbrev s_calm_text : Stmt := topS 2
abbrev n_calm_text : List Str := ["length", "sign"]
abbrev p_calm_text : List Str := ["length"]
theorem sc_calm_text : FnScope n_calm_text p_calm_text (defScope s_calm_text) := ⟨rfl, rfl, rfl, by decide +kernel, rfl, by decide +kernel, by decide +kernel⟩
def sp_calm_text (_ : PySem.W.Frag) : Sp := fun vs H Q _ => ∃ (n : Nat), vs = [.int (n : Int)] ∧ n ≤ 60 ∧ ∀ H', Same H H' → Q (.str (S (C60.take n))) H'
abbrev s_free_text : Stmt := topS 3
abbrev n_free_text : List Str := ["length", "some", "one", "other"]
abbrev p_free_text : List Str := ["length"]
theorem sc_free_text : FnScope n_free_text p_free_text (defScope s_free_text) := ⟨rfl, rfl, rfl, by decide +kernel, rfl, by decide +kernel, by decide +kernel⟩
def sp_free_text (_ : PySem.W.Frag) : Sp := fun vs H Q _ => ∃ (n : Nat), vs = [.int (n : Int)] ∧ n ≤ 60 ∧ ∀ H', Same H H' → Q (.str (S (F60.take n))) H'
abbrev s_has_beat : Stmt := topS 5
abbrev n_has_beat : List Str := ["text", "beat"]
abbrev p_has_beat : List Str := ["text", "beat"]
theorem sc_has_beat : FnScope n_has_beat p_has_beat (defScope s_has_beat) := ⟨rfl, rfl, rfl, by decide +kernel, rfl, by decide +kernel, by decide +kernel⟩
def sp_has_beat (_ : PySem.W.Frag) : Sp := fun vs H Q _ => ∃ (t : List Nat) (b : Int), vs = [.str (S t), .int b] ∧ t.length ≤ 1000 ∧ 0 ≤ b ∧ b ≤ t.length ∧ Q (.bl (hb t b.toNat)) H
abbrev s_doubles : Stmt := topS 6
abbrev n_doubles : List Str := ["text", "found", "place", "half"]
abbrev p_doubles : List Str := ["text"]
theorem sc_doubles : FnScope n_doubles p_doubles (defScope s_doubles) := ⟨rfl, rfl, rfl, by decide +kernel, rfl, by decide +kernel, by decide +kernel⟩
def sp_doubles (_ : PySem.W.Frag) : Sp := fun vs H Q _ => ∃ (t : List Nat), vs = [.str (S t)] ∧ t.length ≤ 100 ∧ ∀ H' p, Same H H' → TT H' p ((dbls t).map pI) → Q (.ref p) H'
abbrev s_is_free : Stmt := topS 7
abbrev n_is_free : List Str := ["text"]
abbrev p_is_free : List Str := ["text"]
theorem sc_is_free : FnScope n_is_free p_is_free (defScope s_is_free) := ⟨rfl, rfl, rfl, by decide +kernel, rfl, by decide +kernel, by decide +kernel⟩
def sp_is_free (_ : PySem.W.Frag) : Sp := fun vs H Q _ => ∃ (t : List Nat), vs = [.str (S t)] ∧ t.length ≤ 100 ∧ ∀ H', Same H H' → Q (.bl (decide (dbls t = []))) H'
abbrev s_is_calm : Stmt := topS 8
abbrev n_is_calm : List Str := ["text", "beat", "first"]
abbrev p_is_calm : List Str := ["text"]
theorem sc_is_calm : FnScope n_is_calm p_is_calm (defScope s_is_calm) := ⟨rfl, rfl, rfl, by decide +kernel, rfl, by decide +kernel, by decide +kernel⟩
def sp_is_calm (_ : PySem.W.Frag) : Sp := fun vs H Q _ => ∃ (t : List Nat), vs = [.str (S t)] ∧ t.length ≤ 100 ∧ Q (.bl (calmB t)) H
abbrev s__law_cell_at : Stmt := topS 10
abbrev n__law_cell_at : List Str := ["_law_script", "_law_k"]
abbrev p__law_cell_at : List Str := ["_law_script", "_law_k"]
theorem sc__law_cell_at : FnScope n__law_cell_at p__law_cell_at (defScope s__law_cell_at) := ⟨rfl, rfl, rfl, by decide +kernel, rfl, by decide +kernel, by decide +kernel⟩
/-- a cell of the script, or 0 -/
def sp__law_cell_at (K : PySem.W.Frag) : Sp := fun vs H Q _ => ∃ (a : Addr) (ns : List Int) (k : Int), vs = [.ref a, .int k] ∧ SqL K H a (ns.map V.int) ∧ 0 ≤ k ∧ ∀ v : Int, Q (.int v) H
abbrev s__law_mixed : Stmt := topS 11
abbrev n__law_mixed : List Str := ["_law_script", "_law_k", "_law_drawn_here"]
abbrev p__law_mixed : List Str := ["_law_script", "_law_k"]
theorem sc__law_mixed : FnScope n__law_mixed p__law_mixed (defScope s__law_mixed) := ⟨rfl, rfl, rfl, by decide +kernel, rfl, by decide +kernel, by decide +kernel⟩
def sp__law_mixed (K : PySem.W.Frag) : Sp := fun vs H Q _ => ∃ (a : Addr) (ns : List Int) (k : Int), vs = [.ref a, .int k] ∧ SqL K H a (ns.map V.int) ∧ 0 ≤ k ∧ k ≤ 1000 ∧ ∀ v : Int, 0 ≤ v → Q (.int v) H
abbrev s__law_drawn : Stmt := topS 12
abbrev n__law_drawn : List Str := ["_law_number", "_law_k", "_law_drawn_here"]
abbrev p__law_drawn : List Str := ["_law_number", "_law_k"]
theorem sc__law_drawn : FnScope n__law_drawn p__law_drawn (defScope s__law_drawn) := ⟨rfl, rfl, rfl, by decide +kernel, rfl, by decide +kernel, by decide +kernel⟩
def sp__law_drawn (K : PySem.W.Frag) : Sp := fun vs H Q _ => ∃ (n k : Int), vs = [.int n, .int k] ∧ ∀ v : Int, 0 ≤ v → Q (.int v) H
abbrev s__law_doubles : Stmt := topS 13
abbrev n__law_doubles : List Str := ["_law_text", "_law_found", "_law_place", "_law_half", "_law_once"]
abbrev p__law_doubles : List Str := ["_law_text"]
theorem sc__law_doubles : FnScope n__law_doubles p__law_doubles (defScope s__law_doubles) := ⟨rfl, rfl, rfl, by decide +kernel, rfl, by decide +kernel, by decide +kernel⟩
def sp__law_doubles (_ : PySem.W.Frag) : Sp := fun vs H Q _ => ∃ (t : List Nat), vs = [.str (S t)] ∧ t.length ≤ 100 ∧ ∀ H' p, Same H H' → H p = none → TL H' p ((dbls t).map pI) → Q (.ref p) H'
abbrev s_law : Stmt := topS 14
abbrev n_law : List Str := ["_law_script", "_law_length", "_law_free", "_law_calm", "_law_sign", "_law_place", "_law_half", "_law_number", "_law_some", "_law_k"]
abbrev p_law : List Str := ["_law_script"]
theorem sc_law : FnScope n_law p_law (defScope s_law) := ⟨rfl, rfl, rfl, by decide +kernel, rfl, by decide +kernel, by decide +kernel⟩
def sp_law (K : PySem.W.Frag) : Sp := fun vs H Q _ => ∃ (a : Addr) (ns : List Int), vs = [.ref a] ∧ SqL K H a (ns.map V.int) ∧ ns.length ≤ 63 ∧ ∀ H', Q (.bl true) H'
end BR
namespace BR
open PySem PySem.Spec PyProof.Rows L2
theorem ok_signs {P : Program} {w : World} {K : PySem.W.Frag} {mg : Str → Option Value} {base : Heap} {f : Addr} {fd : FuncData} (F : Fun K "signs" "signs" s_signs f fd) (T : Blt mg) :
    FnOk P w K mg base CX0 1 f fd p_signs (sp_signs K) := by
  refine F.ok sc_signs (fun vs H Q E h => ?_) (fun cdv A outer s H vs Q E hr h => ?_)
  · obtain ⟨n, rfl, _⟩ := h
    rfl
  · obtain ⟨n, rfl, hn, q⟩ := h
    refine ⟨_, (pss_cons (ps_set (i := 1) sc_signs.nd rfl (Or.inl rfl) (pe_lst (pa_cons pe_int pa_nil)))
        (pss_cons (ps_while PassesOwn.never (pt_cmpR op_lt (pe_callB call_len_seq (by rfl) T.len (by decide +kernel) (pa_cons (pv 1) pa_nil)) (pv 0) (nomark _))
          (pss_one (ps_set (i := 1) sc_signs.nd rfl (Or.inl rfl) (pe_op op_cat (pv 1) (pe_lc (own := [("sign", 2)]) (g := gName 2) (tt := tYes) rfl sc_signs.nd (pi_list (pv 1)) (blkOk_by (N := n_signs) (sc := defScope s_signs) (by decide +kernel)) (fun _ _ _ _ _ => (pg_name (i := 2) sc_signs.nd rfl (Or.inl rfl))) (fun _ _ _ _ _ => pts_nil) (fun _ _ _ _ _ => (pe_op op_sub pe_int (pv 2))))))))
        (pss_one (ps_ret (pe_slice (sl_listK (K := K) rfl) (pv 1) po_none (po_some (pv 0))))))), ?_⟩
    refine ⟨by decide, fun p np => ?_⟩
    refine ⟨fun μ σ H' => ∃ (k : Nat) (L : Addr) (y2 : Option V), σ = [some (.int (n : Int)), some (.ref L), y2] ∧ μ = 6 - k ∧ k ≤ 6 ∧ Same H H' ∧ H' L = some (.lst ((tmP k).map V.int)), ⟨_, 0, p, none, rfl, rfl, by decide, same_new np _, upd_same⟩, fun μ σ H' hW => ?_⟩
    obtain ⟨k, L, y2, rfl, rfl, k6, sm, hL⟩ := hW
    have kl : ((tmP k).map V.int).length = 2 ^ k := by rw [List.length_map, tmP_len]
    refine ⟨_, rfl, _, _, rfl, .inl (SqL.of hL), _, rfl, _, _, rfl, rfl, _, rfl, ?_⟩
    rw [kl]
    refine ite2 (fun c => ?_) (fun c => ?_)
    · have c' : ((2 ^ k : Nat) : Int) < (n : Int) := of_decide_eq_true c
      have k5 : k < 6 := by
        rcases Nat.lt_or_ge k 6 with z | z
        · exact z
        · have : k = 6 := by omega
          subst this
          have : (2 : Nat) ^ 6 = 64 := by decide
          omega
      have sz : 2 ^ k ≤ 64 := Nat.pow_le_pow_right (by decide) (show k ≤ 6 by omega)
      refine ⟨fun σ' H3 => ∃ (L' : Addr) (y2 : Option V), σ' = [some (.int (n : Int)), some (.ref L'), y2] ∧ Same H H3 ∧ H3 L' = some (.lst ((tmP (k + 1)).map V.int)), fun σ' H3 ⟨L', z2, e1, e2, e3⟩ => ⟨6 - (k + 1), by omega, k + 1, L', z2, e1, rfl, by omega, e2, e3⟩, ?_⟩
      refine ⟨_, rfl, _, rfl, _, rfl, ⟨_, SqL.of hL⟩, fun D nD => lc_list (xs := (tmP k).map V.int) (fun i H2 => Same H' H2 ∧ H2 D = some (.lst (((tmP k).take i).map fun s => V.int (1 - s)))) ⟨same_new nD _, upd_same⟩ (fun i H2 _ hP => SqL.of (hP.1 _ _ hL)) (fun i x H2 hx hP => ?_) (fun H2 hP => ?_)⟩
      · obtain ⟨sm2, hD⟩ := hP
        rw [List.getElem?_map, Option.map_eq_some_iff] at hx
        obtain ⟨s, hs, rfl⟩ := hx
        refine ⟨rfl, _, rfl, _, _, rfl, rfl, _, hD, ?_, same_upd sm2 nD, ?_⟩
        · rw [List.length_map, List.length_take, tmP_len]
          exact Nat.lt_of_le_of_lt (show _ ≤ 1000 by omega) (by decide)
        · rw [upd_same, take_next hs, List.map_append]
          rfl
      · obtain ⟨sm2, hD⟩ := hP
        rw [List.take_of_length_le (show (tmP k).length ≤ ((tmP k).map V.int).length by rw [List.length_map]; exact Nat.le_refl _)] at hD
        refine ⟨L, D, _, _, rfl, rfl, sm2 _ _ hL, hD, ?_, fun z nz => ⟨z, _, rfl, (sm.trans sm2).trans (same_new nz _), ?_⟩⟩
        · rw [List.length_map, List.length_map, tmP_len]
          exact Nat.le_trans (show _ ≤ 1000 by omega) (by decide)
        · rw [upd_same]
          show _ = some (HO.lst ((tmP k ++ (tmP k).map fun s => 1 - s).map V.int))
          rw [List.map_append, List.map_map]
          rfl
    · have c' : ¬ ((2 ^ k : Nat) : Int) < (n : Int) := fun z => c (decide_eq_true z)
      refine ⟨_, rfl, _, rfl, _, rfl, _, _, rfl, SqL.of hL, fun z nz => q _ z (sm.trans (same_new nz _)) ?_⟩
      rw [upd_same, cutV_to, ← List.map_take]
      unfold sg
      rw [tmP_take k (by omega), List.take_take, Nat.min_eq_left (by omega)]
end BR
namespace BR
open PySem PySem.Spec PyProof.Rows L2
theorem ok_has_beat {P : Program} {w : World} {K : PySem.W.Frag} {mg : Str → Option Value} {base : Heap} {f : Addr} {fd : FuncData} (F : Fun K "has_beat" "has_beat" s_has_beat f fd) (T : Blt mg) :
    FnOk P w K mg base CX0 1 f fd p_has_beat (sp_has_beat K) := by
  refine F.ok sc_has_beat (fun vs H Q E h => ?_) (fun cdv A outer s H vs Q E hr h => ?_)
  · obtain ⟨t, b, rfl, _⟩ := h
    rfl
  · obtain ⟨t, b, rfl, hl, h0, h1, q⟩ := h
    refine ⟨_, (pss_one (ps_ret (pe_cmpR op_eqS (pe_slice sl_S (pv 0) (po_some (pv 1)) po_none) (pe_slice sl_S (pv 0) po_none (po_some (pe_op op_sub (pe_callB call_len_S (by rfl) T.len (by decide +kernel) (pa_cons (pv 0) pa_nil)) (pv 1)))) (nomark _)))), ?_⟩
    refine ⟨_, rfl, _, rfl, _, rfl, _, rfl, by omega, h0, trivial, _, rfl, _, rfl, _, rfl, by omega, _, rfl, _, _, rfl, rfl, _, rfl, _, rfl, by omega, trivial, (by show 0 ≤ (t.length : Int) - b; omega), _, _, rfl, rfl, ?_⟩
    show Q (.bl (decide (t.drop b.toNat = t.take ((t.length : Int) - b).toNat))) H
    rw [show ((t.length : Int) - b).toNat = t.length - b.toNat by omega]
    exact q
end BR
namespace BR
open PySem PySem.Spec PyProof.Rows L2
def rowD (t : List Nat) (a : Nat) (m : Nat) : List (Nat × Nat) := ((List.range' 1 m).filter (dblB t a)).map fun h => (a, h)
theorem rowD_len (t : List Nat) (a m : Nat) : (rowD t a m).length ≤ m := by
  unfold rowD
  rw [List.length_map]
  have := List.length_filter_le (dblB t a) (List.range' 1 m)
  rw [List.length_range'] at this
  exact this
def preD (t : List Nat) (i : Nat) : List (Nat × Nat) := (List.range' 0 i).flatMap fun a => rowD t a ((t.length - a) / 2)
theorem preD_succ (t : List Nat) (i : Nat) : preD t (i + 1) = preD t i ++ rowD t i ((t.length - i) / 2) := by
  unfold preD
  rw [List.range'_concat, List.flatMap_append]
  simp
theorem preD_len {t : List Nat} (hl : t.length ≤ 100) : ∀ i, (preD t i).length ≤ 50 * i
  | 0 => Nat.le_refl _
  | i + 1 => by
    rw [preD_succ, List.length_append]
    have := preD_len hl i
    have := rowD_len t i ((t.length - i) / 2)
    omega
theorem rowD_hit {t : List Nat} {a m : Nat} (e : dblB t a (1 + m) = true) : rowD t a (m + 1) = rowD t a m ++ [(a, 1 + m)] := by
  unfold rowD
  rw [List.range'_concat, List.filter_append, List.map_append, List.filter_cons, if_pos (by simpa using e)]
  simp
theorem rowD_miss {t : List Nat} {a m : Nat} (e : dblB t a (1 + m) = false) : rowD t a (m + 1) = rowD t a m := by
  unfold rowD
  rw [List.range'_concat, List.filter_append, List.filter_cons, if_neg (by simpa using e)]
  simp
theorem ok_doubles {P : Program} {w : World} {K : PySem.W.Frag} {mg : Str → Option Value} {base : Heap} {f : Addr} {fd : FuncData} (F : Fun K "doubles" "doubles" s_doubles f fd) (T : Blt mg) :
    FnOk P w K mg base CX0 1 f fd p_doubles (sp_doubles K) := by
  refine F.ok sc_doubles (fun vs H Q E h => ?_) (fun cdv A outer s H vs Q E hr h => ?_)
  · obtain ⟨t, rfl, _⟩ := h
    rfl
  · obtain ⟨t, rfl, hl, q⟩ := h
    refine ⟨_, (pss_cons (ps_set (i := 1) sc_doubles.nd rfl (Or.inl rfl) (pe_lst pa_nil))
        (pss_cons (ps_for PassesOwn.never rfl (pi_range1 (by rfl) T.range (pa_cons (pe_callB call_len_S (by rfl) T.len (by decide +kernel) (pa_cons (pv 0) pa_nil)) pa_nil)) (pg_name (i := 2) sc_doubles.nd rfl (Or.inl rfl))
          (pss_one (ps_for PassesOwn.never rfl (pi_range2 (by rfl) T.range (pa_cons pe_int (pa_cons (pe_op op_add (pe_op op_fdiv (pe_op op_sub (pe_callB call_len_S (by rfl) T.len (by decide +kernel) (pa_cons (pv 0) pa_nil)) (pv 2)) pe_int) pe_int) pa_nil))) (pg_name (i := 3) sc_doubles.nd rfl (Or.inl rfl))
            (pss_one (ps_if (pt_cmpR op_eqS (pe_slice sl_S (pv 0) (po_some (pv 2)) (po_some (pe_op op_add (pv 2) (pv 3)))) (pe_slice sl_S (pv 0) (po_some (pe_op op_add (pv 2) (pv 3))) (po_some (pe_op op_add (pv 2) (pe_op op_mul pe_int (pv 3))))) (nomark _))
              (pss_one (ps_expr (pe_bm PySem.F.plainAttrs_list PySem.F.slot_list_append PySem.F.type_list_append mt_append (pv 1) (pa_cons (pe_tup (pa_cons (pv 2) (pa_cons (pv 3) pa_nil))) pa_nil)))) pss_nil)))))
        (pss_one (ps_ret (pe_callTy call_tuple_of (by rfl) T.tuple (by decide +kernel) (pa_cons (pv 1) pa_nil)))))), ?_⟩
    refine ⟨by decide, fun L nL => ?_⟩
    refine ⟨_, rfl, _, rfl, by omega, _, rfl, by omega, by omega, for_range (n := (t.length : Int).toNat) (fun i σ H' => ∃ (ks : List (Addr × List Int)) (y2 y3 : Option V), σ = [some (.str (S t)), some (.ref L), y2, y3] ∧ Same H H' ∧ H' L = some (.lst (refs ks)) ∧ TI H' ks ∧ ks.map (·.2) = (preD t i).map pI)
      ⟨[], none, none, rfl, same_new nL _, upd_same, TI.nil, rfl⟩ (fun i σ H' hi hP => ?_) (fun σ H' hP => ?_)⟩
    · obtain ⟨ks, y2, y3, rfl, sm, hL, ti, ek⟩ := hP
      have hin : i < t.length := by omega
      have ej : (((t.length : Int) - (0 + (i : Int))) / 2 + 1 - 1).toNat = (t.length - i) / 2 := by omega
      refine ⟨_, rfl, _, rfl, by omega, _, rfl, _, _, rfl, rfl, _, _, rfl, rfl, ⟨by decide, by decide⟩, _, _, rfl, rfl, _, _, rfl, ⟨by decide, by decide, by omega, by omega⟩, for_range (n := (((t.length : Int) - (0 + (i : Int))) / 2 + 1 - 1).toNat)
        (fun j σ H' => ∃ (ks : List (Addr × List Int)) (y3 : Option V), σ = [some (.str (S t)), some (.ref L), some (.int (0 + (i : Int))), y3] ∧ Same H H' ∧ H' L = some (.lst (refs ks)) ∧ TI H' ks ∧ ks.map (·.2) = (preD t i ++ rowD t i j).map pI)
        ⟨ks, y3, rfl, sm, hL, ti, by rw [ek]; simp [rowD]⟩ (fun j σ H' hj hP => ?_) (fun σ H' hP => ?_)⟩
      · obtain ⟨ks, y3, rfl, sm, hL, ti, ek⟩ := hP
        refine ⟨_, rfl, _, rfl, _, rfl, _, rfl, _, rfl, _, _, rfl, rfl, _, rfl, _, rfl, by omega, (by show (0 : Int) ≤ 0 + (i : Int); omega), (by show (0 : Int) ≤ 0 + (i : Int) + (1 + (j : Int)); omega), _, rfl, _, rfl, _, rfl, _, _, rfl, rfl, _, rfl, _, rfl, _, rfl, _, _, rfl, rfl, .inl (by decide), _, _, rfl, rfl, _, rfl, _, rfl, by omega, (by show (0 : Int) ≤ 0 + (i : Int) + (1 + (j : Int)); omega), (by show (0 : Int) ≤ 0 + (i : Int) + 2 * (1 + (j : Int)); omega), _, _, rfl, rfl, _, rfl, ?_⟩
        have e1 : (0 + (i : Int)).toNat = i := by omega
        have e2 : (0 + (i : Int) + (1 + (j : Int))).toNat = i + (1 + j) := by omega
        have e3 : (0 + (i : Int) + 2 * (1 + (j : Int))).toNat = i + 2 * (1 + j) := by omega
        have eb : decide (slN t (some (0 + (i : Int))) (some (0 + (i : Int) + (1 + (j : Int)))) = slN t (some (0 + (i : Int) + (1 + (j : Int)))) (some (0 + (i : Int) + 2 * (1 + (j : Int))))) = dblB t i (1 + j) := by
          show decide (cut t (0 + (i : Int)).toNat (0 + (i : Int) + (1 + (j : Int))).toNat = cut t (0 + (i : Int) + (1 + (j : Int))).toNat (0 + (i : Int) + 2 * (1 + (j : Int))).toNat) = _
          rw [e1, e2, e3]
          rfl
        rw [eb]
        cases e : dblB t i (1 + j) with
        | true =>
          have hlen : (refs ks).length < sizeLine := by
            have l1 := congrArg List.length ek
            rw [List.length_map, List.length_map, List.length_append] at l1
            have l2 := preD_len hl i
            have l3 := rowD_len t i j
            show (ks.map _).length < sizeLine
            rw [List.length_map, l1]
            exact Nat.lt_of_le_of_lt (show _ ≤ 10000 by omega) (by decide)
          refine iteT ⟨_, rfl, .inl ⟨rfl, _, .inl (.inl hL)⟩, _, rfl, _, rfl, (by show 2 ≤ sizeLine; decide), fun p np => ⟨L, _, _, rfl, rfl, same_new np _ _ _ hL, hlen, ?_⟩⟩
          have hLp : (upd H' p (.tup [.int (0 + (i : Int)), .int (1 + (j : Int))])) L = some (.lst (refs ks)) := same_new np _ _ _ hL
          refine ⟨ks ++ [(p, pI (i, 1 + j))], _, rfl, same_upd (sm.trans (same_new np _)) nL, ?_, ?_, ?_⟩
          · rw [upd_same, refs_app]
          · refine ((ti.same (same_new np _)).app ?_).updL hLp
            rw [upd_same]
            show some (HO.tup [.int (0 + (i : Int)), .int (1 + (j : Int))]) = some (HO.tup [.int (i : Int), .int ((1 + j : Nat) : Int)])
            rw [show (0 + (i : Int)) = (i : Int) by omega, show ((1 + j : Nat) : Int) = 1 + (j : Int) by omega]
          · rw [rowD_hit e, List.map_append, ek]
            simp
        | false => exact iteF ⟨ks, _, rfl, sm, hL, ti, by rw [rowD_miss e]; exact ek⟩
      · obtain ⟨ks, y3, rfl, sm, hL, ti, ek⟩ := hP
        rw [ej] at ek
        exact ⟨ks, _, y3, rfl, sm, hL, ti, by rw [preD_succ]; exact ek⟩
    · obtain ⟨ks, y2, y3, rfl, sm, hL, ti, ek⟩ := hP
      refine ⟨_, rfl, L, _, rfl, .inl ⟨SqL.of hL, fun p np => q _ p (sm.trans (same_new np _)) ⟨ks, upd_same, ti.same (same_new np _), ?_⟩⟩⟩
      rw [ek]
      show (preD t (t.length : Int).toNat).map pI = (preD t t.length).map pI
      rw [Int.toNat_natCast]
end BR
namespace BR
open PySem PySem.Spec PyProof.Rows L2
theorem ok__law_cell_at {P : Program} {w : World} {K : PySem.W.Frag} {mg : Str → Option Value} {base : Heap} {f : Addr} {fd : FuncData} (F : Fun K "_law_cell_at" "_law_cell_at" s__law_cell_at f fd) (T : Blt mg) :
    FnOk P w K mg base CX0 1 f fd p__law_cell_at (sp__law_cell_at K) := by
  refine F.ok sc__law_cell_at (fun vs H Q E h => ?_) (fun cdv A outer s H vs Q E hr h => ?_)
  · obtain ⟨a, ns, k, rfl, _⟩ := h
    rfl
  · obtain ⟨a, ns, k, rfl, hS, h0, q⟩ := h
    refine ⟨_, (pss_cons (ps_if (pt_cmpR op_lt (pv 1) (pe_callB call_len_seq (by rfl) T.len (by decide +kernel) (pa_cons (pv 0) pa_nil)) (nomark _))
          (pss_one (ps_ret (pe_ix (ix_listK (K := K) rfl) (pv 0) (pv 1) (fun _ _ => rfl)))) pss_nil)
        (pss_one (ps_ret pe_int))), ?_⟩
    refine ⟨_, rfl, _, rfl, a, ns.map V.int, rfl, .inl hS, _, _, rfl, rfl, _, rfl, ?_⟩
    refine ite2 (fun c => ?_) (fun c => ?_)
    · have c' : k < (((ns.map V.int).length : Nat) : Int) := of_decide_eq_true c
      rw [List.length_map] at c'
      obtain ⟨k, rfl⟩ := Int.eq_ofNat_of_zero_le h0
      have hk : k < ns.length := by omega
      refine ⟨_, rfl, _, rfl, a, _, _, .int ns[k], rfl, rfl, hS, atI_nat ?_, q _⟩
      rw [List.getElem?_map, List.getElem?_eq_getElem hk]
      rfl
    · exact q 0
end BR
namespace BR
open PySem PySem.Spec PyProof.Rows L2
theorem ok__law_drawn {P : Program} {w : World} {K : PySem.W.Frag} {mg : Str → Option Value} {base : Heap} {f : Addr} {fd : FuncData} (F : Fun K "_law_drawn" "_law_drawn" s__law_drawn f fd) (T : Blt mg) :
    FnOk P w K mg base CX0 1 f fd p__law_drawn (sp__law_drawn K) := by
  refine F.ok sc__law_drawn (fun vs H Q E h => ?_) (fun cdv A outer s H vs Q E hr h => ?_)
  · obtain ⟨n, k, rfl, _⟩ := h
    rfl
  · obtain ⟨n, k, rfl, q⟩ := h
    refine ⟨_, (pss_cons (ps_set (i := 2) sc__law_drawn.nd rfl (Or.inl rfl) (pe_op op_mod (pe_op op_mul (pe_op op_add (pe_op op_add (pv 0) (pe_op op_mul pe_int (pv 1))) pe_int) pe_int) pe_int))
        (pss_one (ps_ret (pe_op op_mod (pe_op op_add (pe_op op_add (pe_op op_mul (pv 2) (pv 2)) (pe_op op_mul pe_int (pv 2))) (pv 1)) pe_int)))), ?_⟩
    refine ⟨_, rfl, _, rfl, _, _, rfl, rfl, .inl (by decide), _, _, rfl, rfl, _, _, rfl, rfl, _, _, rfl, rfl, .inr (by decide), _, _, rfl, rfl, (by show (0 : Int) < 2147483647; decide), ?_⟩
    have g0 : 0 ≤ (n + 104729 * k + 17) * 69621 % 2147483647 := Int.emod_nonneg _ (by decide)
    have g1 : (n + 104729 * k + 17) * 69621 % 2147483647 < 2147483647 := Int.emod_lt_of_pos _ (by decide)
    refine ⟨_, rfl, _, rfl, _, _, rfl, rfl, .inl ⟨by show -(2 ^ 64) < _; omega, by show _ < 2 ^ 64; omega⟩, _, rfl, _, _, rfl, rfl, .inl (by decide), _, _, rfl, rfl, _, rfl, _, _, rfl, rfl, _, _, rfl, rfl, (by show (0 : Int) < 2147483629; decide), ?_⟩
    exact q _ (Int.emod_nonneg _ (by decide))
end BR
namespace BR
open PySem PySem.Spec PyProof.Rows L2
def rowL (t : List Nat) (a : Nat) (m : Nat) : List (Nat × Nat) := ((List.range' 1 m).filter (dblL t a)).map fun h => (a, h)
theorem rowL_len (t : List Nat) (a m : Nat) : (rowL t a m).length ≤ m := by
  unfold rowL
  rw [List.length_map]
  have := List.length_filter_le (dblL t a) (List.range' 1 m)
  rw [List.length_range'] at this
  exact this
def preL (t : List Nat) (i : Nat) : List (Nat × Nat) := (List.range' 0 i).flatMap fun a => rowL t a (t.length - 1)
theorem preL_succ (t : List Nat) (i : Nat) : preL t (i + 1) = preL t i ++ rowL t i (t.length - 1) := by
  unfold preL
  rw [List.range'_concat, List.flatMap_append]
  simp
theorem preL_len {t : List Nat} (hl : t.length ≤ 100) : ∀ i, (preL t i).length ≤ 100 * i
  | 0 => Nat.le_refl _
  | i + 1 => by
    rw [preL_succ, List.length_append]
    have := preL_len hl i
    have := rowL_len t i (t.length - 1)
    omega
theorem rowL_hit {t : List Nat} {a m : Nat} (e : dblL t a (1 + m) = true) : rowL t a (m + 1) = rowL t a m ++ [(a, 1 + m)] := by
  unfold rowL
  rw [List.range'_concat, List.filter_append, List.map_append, List.filter_cons, if_pos (by simpa using e)]
  simp
theorem rowL_miss {t : List Nat} {a m : Nat} (e : dblL t a (1 + m) = false) : rowL t a (m + 1) = rowL t a m := by
  unfold rowL
  rw [List.range'_concat, List.filter_append, List.filter_cons, if_neg (by simpa using e)]
  simp
theorem ok__law_doubles {P : Program} {w : World} {K : PySem.W.Frag} {mg : Str → Option Value} {base : Heap} {f : Addr} {fd : FuncData} (F : Fun K "_law_doubles" "_law_doubles" s__law_doubles f fd) (T : Blt mg) :
    FnOk P w K mg base CX0 1 f fd p__law_doubles (sp__law_doubles K) := by
  refine F.ok sc__law_doubles (fun vs H Q E h => ?_) (fun cdv A outer s H vs Q E hr h => ?_)
  · obtain ⟨t, rfl, _⟩ := h
    rfl
  · obtain ⟨t, rfl, hl, q⟩ := h
    refine ⟨_, (pss_cons (ps_set (i := 1) sc__law_doubles.nd rfl (Or.inl rfl) (pe_lst pa_nil))
        (pss_cons (ps_for PassesOwn.never rfl (pi_range1 (by rfl) T.range (pa_cons (pe_callB call_len_S (by rfl) T.len (by decide +kernel) (pa_cons (pv 0) pa_nil)) pa_nil)) (pg_name (i := 2) sc__law_doubles.nd rfl (Or.inl rfl))
          (pss_one (ps_for PassesOwn.never rfl (pi_range2 (by rfl) T.range (pa_cons pe_int (pa_cons (pe_callB call_len_S (by rfl) T.len (by decide +kernel) (pa_cons (pv 0) pa_nil)) pa_nil))) (pg_name (i := 3) sc__law_doubles.nd rfl (Or.inl rfl))
            (pss_cons (ps_set (i := 4) sc__law_doubles.nd rfl (Or.inl rfl) (pe_slice sl_S (pv 0) (po_some (pv 2)) (po_some (pe_op op_add (pv 2) (pv 3)))))
            (pss_one (ps_if (PW.pt (pw_and (pt_cmpR op_eqI (pe_callB call_len_S (by rfl) T.len (by decide +kernel) (pa_cons (pv 4) pa_nil)) (pv 3) (nomark _)) (pw_and1 (pt_cmpR op_eqS (pe_slice sl_S (pv 0) (po_some (pe_op op_add (pv 2) (pv 3))) (po_some (pe_op op_add (pv 2) (pe_op op_mul pe_int (pv 3))))) (pv 4) (nomark _)))))
              (pss_one (ps_expr (pe_bm PySem.F.plainAttrs_list PySem.F.slot_list_append PySem.F.type_list_append mt_append (pv 1) (pa_cons (pe_tup (pa_cons (pv 2) (pa_cons (pv 3) pa_nil))) pa_nil)))) pss_nil))))))
        (pss_one (ps_ret (pv 1))))), ?_⟩
    refine ⟨by decide, fun L nL => ?_⟩
    refine ⟨_, rfl, _, rfl, by omega, _, rfl, by omega, by omega, for_range (n := (t.length : Int).toNat) (fun i σ H' => ∃ (ks : List (Addr × List Int)) (y2 y3 y4 : Option V), σ = [some (.str (S t)), some (.ref L), y2, y3, y4] ∧ Same H H' ∧ H' L = some (.lst (refs ks)) ∧ TI H' ks ∧ ks.map (·.2) = (preL t i).map pI)
      ⟨[], none, none, none, rfl, same_new nL _, upd_same, TI.nil, rfl⟩ (fun i σ H' hi hP => ?_) (fun σ H' hP => ?_)⟩
    · obtain ⟨ks, y2, y3, y4, rfl, sm, hL, ti, ek⟩ := hP
      have hin : i < t.length := by omega
      have ej : ((t.length : Int) - 1).toNat = t.length - 1 := by omega
      refine ⟨_, rfl, _, rfl, by omega, _, _, rfl, ⟨by decide, by decide, by omega, by omega⟩, for_range (n := ((t.length : Int) - 1).toNat)
        (fun j σ H' => ∃ (ks : List (Addr × List Int)) (y3 y4 : Option V), σ = [some (.str (S t)), some (.ref L), some (.int (0 + (i : Int))), y3, y4] ∧ Same H H' ∧ H' L = some (.lst (refs ks)) ∧ TI H' ks ∧ ks.map (·.2) = (preL t i ++ rowL t i j).map pI)
        ⟨ks, y3, y4, rfl, sm, hL, ti, by rw [ek]; simp [rowL]⟩ (fun j σ H' hj hP => ?_) (fun σ H' hP => ?_)⟩
      · obtain ⟨ks, y3, y4, rfl, sm, hL, ti, ek⟩ := hP
        have e1 : (0 + (i : Int)).toNat = i := by omega
        have e2 : (0 + (i : Int) + (1 + (j : Int))).toNat = i + (1 + j) := by omega
        have e3 : (0 + (i : Int) + 2 * (1 + (j : Int))).toNat = i + 2 * (1 + j) := by omega
        refine ⟨_, rfl, _, rfl, _, rfl, _, rfl, _, rfl, _, _, rfl, rfl, _, rfl, _, rfl, by omega, (by show (0 : Int) ≤ 0 + (i : Int); omega), (by show (0 : Int) ≤ 0 + (i : Int) + (1 + (j : Int)); omega), ?_⟩
        have cl : (cut t i (i + (1 + j))).length ≤ 100000 := by
          rw [cut_len]
          omega
        have eo : slN t (some (0 + (i : Int))) (some (0 + (i : Int) + (1 + (j : Int)))) = cut t i (i + (1 + j)) := by
          show cut t (0 + (i : Int)).toNat (0 + (i : Int) + (1 + (j : Int))).toNat = _
          rw [e1, e2]
        have e4 : slN t (some (0 + (i : Int) + (1 + (j : Int)))) (some (0 + (i : Int) + 2 * (1 + (j : Int)))) = cut t (i + (1 + j)) (i + 2 * (1 + j)) := by
          show cut t (0 + (i : Int) + (1 + (j : Int))).toNat (0 + (i : Int) + 2 * (1 + (j : Int))).toNat = _
          rw [e2, e3]
        rw [eo]
        refine ⟨_, rfl, _, rfl, cl, _, rfl, _, _, rfl, rfl, _, rfl, ?_⟩
        have ed : decide (((cut t i (i + (1 + j))).length : Int) = 1 + (j : Int)) = decide ((cut t i (i + (1 + j))).length = 1 + j) := by
          rw [Bool.eq_iff_iff, decide_eq_true_eq, decide_eq_true_eq]
          omega
        rw [ed]
        by_cases c1 : (cut t i (i + (1 + j))).length = 1 + j
        · rw [decide_eq_true c1]
          refine iteT ?_
          refine ⟨_, rfl, _, rfl, _, rfl, _, _, rfl, rfl, _, rfl, _, rfl, _, rfl, _, _, rfl, rfl, .inl (by decide), _, _, rfl, rfl, _, rfl, _, rfl, by omega, (by show (0 : Int) ≤ 0 + (i : Int) + (1 + (j : Int)); omega), (by show (0 : Int) ≤ 0 + (i : Int) + 2 * (1 + (j : Int)); omega), _, rfl, _, _, rfl, rfl, _, rfl, ?_⟩
          rw [e4]
          have eb : decide (cut t (i + (1 + j)) (i + 2 * (1 + j)) = cut t i (i + (1 + j))) = dblL t i (1 + j) := by
            unfold dblL
            rw [decide_eq_true c1]
            rfl
          rw [eb]
          cases e : dblL t i (1 + j) with
          | true =>
            have hlen : (refs ks).length < sizeLine := by
              have l1 := congrArg List.length ek
              rw [List.length_map, List.length_map, List.length_append] at l1
              have l2 := preL_len hl i
              have l3 := rowL_len t i j
              show (ks.map _).length < sizeLine
              rw [List.length_map, l1]
              exact Nat.lt_of_le_of_lt (show _ ≤ 20000 by omega) (by decide)
            refine iteT ⟨_, rfl, .inl ⟨rfl, _, .inl (.inl hL)⟩, _, rfl, _, rfl, (by show 2 ≤ sizeLine; decide), fun p np => ⟨L, _, _, rfl, rfl, same_new np _ _ _ hL, hlen, ?_⟩⟩
            have hLp : (upd H' p (.tup [.int (0 + (i : Int)), .int (1 + (j : Int))])) L = some (.lst (refs ks)) := same_new np _ _ _ hL
            refine ⟨ks ++ [(p, pI (i, 1 + j))], _, _, rfl, same_upd (sm.trans (same_new np _)) nL, ?_, ?_, ?_⟩
            · rw [upd_same, refs_app]
            · refine ((ti.same (same_new np _)).app ?_).updL hLp
              rw [upd_same]
              show some (HO.tup [.int (0 + (i : Int)), .int (1 + (j : Int))]) = some (HO.tup [.int (i : Int), .int ((1 + j : Nat) : Int)])
              rw [show (0 + (i : Int)) = (i : Int) by omega, show ((1 + j : Nat) : Int) = 1 + (j : Int) by omega]
            · rw [rowL_hit e, List.map_append, ek]
              simp
          | false => exact iteF ⟨ks, _, _, rfl, sm, hL, ti, by rw [rowL_miss e]; exact ek⟩
        · rw [decide_eq_false c1]
          have e : dblL t i (1 + j) = false := by
            unfold dblL
            rw [decide_eq_false c1]
            rfl
          exact iteF ⟨ks, _, _, rfl, sm, hL, ti, by rw [rowL_miss e]; exact ek⟩
      · obtain ⟨ks, y3, y4, rfl, sm, hL, ti, ek⟩ := hP
        rw [ej] at ek
        exact ⟨ks, _, y3, y4, rfl, sm, hL, ti, by rw [preL_succ]; exact ek⟩
    · obtain ⟨ks, y2, y3, y4, rfl, sm, hL, ti, ek⟩ := hP
      refine ⟨_, rfl, q _ L sm nL ⟨ks, hL, ti, ?_⟩⟩
      rw [ek, ← dblsL_eq]
      show (preL t (t.length : Int).toNat).map pI = (preL t t.length).map pI
      rw [Int.toNat_natCast]
end BR
namespace BR
open PySem PySem.Spec PyProof.Rows L2
theorem ok_calm_text {P : Program} {w : World} {K : PySem.W.Frag} {mg : Str → Option Value} {base : Heap} {f : Addr} {fd : FuncData} (F : Fun K "calm_text" "calm_text" s_calm_text f fd) (T : Blt mg) (c_signs : Cl P w K mg base 1 "signs" p_signs (sp_signs K)) :
    FnOk P w K mg base CX0 2 f fd p_calm_text (sp_calm_text K) := by
  refine F.ok sc_calm_text (fun vs H Q E h => ?_) (fun cdv A outer s H vs Q E hr h => ?_)
  · obtain ⟨n, rfl, _⟩ := h
    rfl
  · obtain ⟨n, rfl, hn, q⟩ := h
    refine ⟨_, (pss_one (ps_ret (pe_join (pe_strS (l := []) (by decide +kernel)) (pe_lc (own := [("sign", 1)]) (g := gName 1) (tt := tYes) rfl sc_calm_text.nd (pi_list (pe_cl c_signs (hr.mono (by decide)) (by rfl) (pa_cons (pv 0) pa_nil))) (blkOk_by (N := n_calm_text) (sc := defScope s_calm_text) (by decide +kernel)) (fun _ _ _ _ _ => (pg_name (i := 1) sc_calm_text.nd rfl (Or.inl rfl))) (fun _ _ _ _ _ => pts_nil) (fun _ _ _ _ _ => (pe_ix ix_S (pe_strS (l := [97, 98]) (by decide +kernel)) (pv 1) (fun _ _ => rfl))))))), ?_⟩
    refine ⟨⟨_, rfl⟩, _, rfl, n, rfl, by omega, fun H1 p sm hp => ⟨_, rfl, ⟨_, SqL.of hp⟩, fun D nD => lc_list (xs := (sg n).map V.int) (fun i H2 => Same H1 H2 ∧ H2 D = some (.lst (((sg n).take i).map fun s => V.str (S [[97, 98].getD s.toNat 0])))) ⟨same_new nD _, upd_same⟩ (fun i H2 _ hP => SqL.of (hP.1 _ _ hp)) (fun i x H2 hx hP => ?_) (fun H2 hP => ?_)⟩⟩
    · obtain ⟨sm2, hD⟩ := hP
      rw [List.getElem?_map, Option.map_eq_some_iff] at hx
      obtain ⟨s, hs, rfl⟩ := hx
      have s01 : s = 0 ∨ s = 1 := tmP_01 s (List.mem_of_mem_take (List.mem_of_getElem? hs))
      refine ⟨rfl, _, rfl, _, _, rfl, rfl, by decide, by omega, by show s.toNat < 2; omega, _, hD, ?_, same_upd sm2 nD, ?_⟩
      · rw [List.length_map, List.length_take, sg_len (by omega)]
        exact Nat.lt_of_le_of_lt (show _ ≤ 1000 by omega) (by decide)
      · rw [upd_same, take_next hs, List.map_append]
        rfl
    · obtain ⟨sm2, hD⟩ := hP
      rw [List.take_of_length_le (show (sg n).length ≤ ((sg n).map V.int).length by rw [List.length_map]; exact Nat.le_refl _)] at hD
      have ec : C60.take n = (sg n).map fun s => [97, 98].getD s.toNat 0 := by
        unfold C60 sg
        rw [← List.map_take, List.take_take, Nat.min_eq_left hn]
      refine ⟨_, D, (C60.take n).map fun c => S [c], rfl, rfl, .inl (SqL.of (by rw [ec, List.map_map, List.map_map]; exact hD)), ?_, ?_⟩
      · rw [sum_ones, List.length_map, List.length_take]
        show min n C60.length + min n C60.length * 0 ≤ _
        omega
      · rw [join_ones]
        exact q _ (sm.trans sm2)
end BR
namespace BR
open PySem PySem.Spec PyProof.Rows L2
theorem ok_free_text {P : Program} {w : World} {K : PySem.W.Frag} {mg : Str → Option Value} {base : Heap} {f : Addr} {fd : FuncData} (F : Fun K "free_text" "free_text" s_free_text f fd) (T : Blt mg) (c_signs : Cl P w K mg base 1 "signs" p_signs (sp_signs K)) :
    FnOk P w K mg base CX0 2 f fd p_free_text (sp_free_text K) := by
  refine F.ok sc_free_text (fun vs H Q E h => ?_) (fun cdv A outer s H vs Q E hr h => ?_)
  · obtain ⟨n, rfl, _⟩ := h
    rfl
  · obtain ⟨n, rfl, hn, q⟩ := h
    refine ⟨_, (pss_cons (ps_set (i := 1) sc_free_text.nd rfl (Or.inl rfl) (pe_cl c_signs (hr.mono (by decide)) (by rfl) (pa_cons (pe_op op_add (pv 0) pe_int) pa_nil)))
        (pss_one (ps_ret (pe_join (pe_strS (l := []) (by decide +kernel)) (pe_lc (own := [("one", 2), ("other", 3)]) (g := gTup K 2 (gCons (gName 2) (gCons (gName 3) gNil))) (tt := tYes) rfl sc_free_text.nd (pi_zip (by rfl) T.zip (pa_cons (pe_slice (sl_listK (K := K) rfl) (pv 1) po_none (po_some (pe_un un_neg pe_int))) (pa_cons (pe_slice (sl_listK (K := K) rfl) (pv 1) (po_some pe_int) po_none) pa_nil))) (blkOk_by (N := n_free_text) (sc := defScope s_free_text) (by decide +kernel)) (fun _ _ _ _ _ => (pg_tup (by rfl) (pgs_cons (pg_name (i := 2) sc_free_text.nd rfl (Or.inl rfl)) (pgs_cons (pg_name (i := 3) sc_free_text.nd rfl (Or.inl rfl)) pgs_nil)))) (fun _ _ _ _ _ => pts_nil) (fun _ _ _ _ _ => (pe_ix ix_S (pe_strS (l := [97, 98, 99]) (by decide +kernel)) (pe_op op_sub (pe_op op_add pe_int (pv 3)) (pv 2)) (fun _ _ => rfl)))))))), ?_⟩
    refine ⟨_, rfl, _, _, rfl, rfl, n + 1, rfl, by omega, fun H1 p sm hp => ?_⟩
    have sl : ((sg (n + 1)).map V.int).length = n + 1 := by rw [List.length_map, sg_len (by omega)]
    refine ⟨⟨_, rfl⟩, _, rfl, _, rfl, _, rfl, _, _, rfl, SqL.of hp, fun x nx => ⟨_, rfl, _, rfl, _, _, rfl, SqL.of (same_new nx _ _ _ hp), fun y ny => ?_⟩⟩
    have e1 : cutV ((sg (n + 1)).map V.int) none (some (-1)) = ((sg (n + 1)).map V.int).take n := by rw [cutV_last, sl]; rfl
    have e2 : cutV ((sg (n + 1)).map V.int) (some 1) none = ((sg (n + 1)).map V.int).drop 1 := cutV_from _ 1
    have hx : (upd (upd H1 x (.lst (cutV ((sg (n + 1)).map V.int) none (some (-1))))) y (.lst (cutV ((sg (n + 1)).map V.int) (some 1) none))) x = some (.lst (((sg (n + 1)).map V.int).take n)) := by
      rw [← e1]
      exact same_new ny _ _ _ upd_same
    have hy : (upd (upd H1 x (.lst (cutV ((sg (n + 1)).map V.int) none (some (-1))))) y (.lst (cutV ((sg (n + 1)).map V.int) (some 1) none))) y = some (.lst (((sg (n + 1)).map V.int).drop 1)) := by
      rw [← e2]
      exact upd_same
    have sm2 : Same H1 (upd (upd H1 x (.lst (cutV ((sg (n + 1)).map V.int) none (some (-1))))) y (.lst (cutV ((sg (n + 1)).map V.int) (some 1) none))) := (same_new nx _).trans (same_new ny _)
    have hmin : n = min (((sg (n + 1)).map V.int).take n).length (((sg (n + 1)).map V.int).drop 1).length := by
      rw [List.length_take, List.length_drop, sl]
      omega
    refine ⟨x, y, _, _, rfl, SqL.of hx, SqL.of hy, fun D nD => lc_it (walk_zip hmin) (fun i H2 => Same (upd (upd H1 x (.lst (cutV ((sg (n + 1)).map V.int) none (some (-1))))) y (.lst (cutV ((sg (n + 1)).map V.int) (some 1) none))) H2 ∧ H2 D = some (.lst ((F60.take i).map fun c => V.str (S [c])))) ⟨same_new nD _, upd_same⟩ (fun i H2 _ hP => ⟨SqL.of (hP.1 _ _ hx), SqL.of (hP.1 _ _ hy)⟩) (fun i v H2 H3 hi hP hY => ?_) (fun H2 hP => ?_)⟩
    · obtain ⟨sm3, hD⟩ := hP
      obtain ⟨T, u, z, rfl, nT, rfl, hu, hz⟩ := hY
      have tl : (tmP 6).length = 64 := by rw [tmP_len]
      have at0 : ∀ k, k < 61 → (tmP 6)[k]? = some ((tmP 6).getD k 0) := fun k hk => by
        rw [List.getElem?_eq_getElem (by omega), List.getD_eq_getElem?_getD, List.getElem?_eq_getElem (by omega), Option.getD_some]
      have bnd : ∀ k, k < 61 → (tmP 6).getD k 0 = 0 ∨ (tmP 6).getD k 0 = 1 := fun k hk => tmP_01 _ (List.mem_of_getElem? (at0 k hk))
      have eu : u = .int ((tmP 6).getD i 0) := by
        have : ((((sg (n + 1)).map V.int).take n)[i]?) = some (.int ((tmP 6).getD i 0)) := by
          unfold sg
          rw [List.getElem?_take_of_lt hi, List.getElem?_map, List.getElem?_take_of_lt (by omega), at0 i (by omega)]
          rfl
        exact Option.some.inj (hu.symm.trans this)
      have ez : z = .int ((tmP 6).getD (i + 1) 0) := by
        have : ((((sg (n + 1)).map V.int).drop 1)[i]?) = some (.int ((tmP 6).getD (i + 1) 0)) := by
          unfold sg
          rw [List.getElem?_drop, List.getElem?_map, List.getElem?_take_of_lt (by omega), show 1 + i = i + 1 by omega, at0 (i + 1) (by omega)]
          rfl
        exact Option.some.inj (hz.symm.trans this)
      subst eu ez
      have b0 := bnd i (by omega)
      have b1 := bnd (i + 1) (by omega)
      have hF : F60[i]? = some (fC i) := by
        unfold F60
        rw [List.getElem?_map, List.getElem?_range (by omega)]
        rfl
      refine ⟨T, _, rfl, SqT.of upd_same, rfl, _, _, rfl, _, _, rfl, rfl, rfl, _, rfl, _, _, rfl, rfl, _, rfl, _, _, rfl, rfl, _, _, rfl, rfl, by decide, (by omega), by show (1 + (tmP 6).getD (i + 1) 0 - (tmP 6).getD i 0).toNat < 3; omega, _, same_new nT _ _ _ hD, ?_, same_upd (sm3.trans (same_new nT _)) nD, ?_⟩
      · rw [List.length_map, List.length_take, F60_len]
        exact Nat.lt_of_le_of_lt (show _ ≤ 1000 by omega) (by decide)
      · rw [upd_same, take_next hF, List.map_append]
        rfl
    · obtain ⟨sm3, hD⟩ := hP
      refine ⟨_, D, (F60.take n).map fun c => S [c], rfl, rfl, .inl (SqL.of (by rw [List.map_map]; exact hD)), ?_, ?_⟩
      · rw [sum_ones, List.length_map, List.length_take, F60_len]
        show min n 60 + min n 60 * 0 ≤ _
        omega
      · rw [join_ones]
        exact q _ (sm.trans (sm2.trans sm3))
end BR
namespace BR
open PySem PySem.Spec PyProof.Rows L2
theorem ok_is_free {P : Program} {w : World} {K : PySem.W.Frag} {mg : Str → Option Value} {base : Heap} {f : Addr} {fd : FuncData} (F : Fun K "is_free" "is_free" s_is_free f fd) (T : Blt mg) (c_doubles : Cl P w K mg base 1 "doubles" p_doubles (sp_doubles K)) :
    FnOk P w K mg base CX0 2 f fd p_is_free (sp_is_free K) := by
  refine F.ok sc_is_free (fun vs H Q E h => ?_) (fun cdv A outer s H vs Q E hr h => ?_)
  · obtain ⟨t, rfl, _⟩ := h
    rfl
  · obtain ⟨t, rfl, hl, q⟩ := h
    refine ⟨_, (pss_one (ps_ret (pe_cmpR op_eqI (pe_callB call_len_seq (by rfl) T.len (by decide +kernel) (pa_cons (pe_cl c_doubles (hr.mono (by decide)) (by rfl) (pa_cons (pv 0) pa_nil)) pa_nil)) pe_int (nomark _)))), ?_⟩
    refine ⟨_, rfl, t, rfl, hl, fun H' p sm htt => ?_⟩
    obtain ⟨ks, hp, ti, ek⟩ := htt
    refine ⟨p, _, rfl, .inr (SqT.of hp), _, _, rfl, rfl, ?_⟩
    have e : decide ((((refs ks).length : Nat) : Int) = 0) = decide (dbls t = []) := by
      rw [Bool.eq_iff_iff, decide_eq_true_eq, decide_eq_true_eq]
      have kl : ks.length = (dbls t).length := by
        have := congrArg List.length ek
        rw [List.length_map, List.length_map] at this
        exact this
      show (((ks.map _).length : Nat) : Int) = 0 ↔ _
      rw [List.length_map, ← List.length_eq_zero_iff]
      omega
    show Q (.bl (decide ((((refs ks).length : Nat) : Int) = 0))) H'
    rw [e]
    exact q _ sm
end BR
namespace BR
open PySem PySem.Spec PyProof.Rows L2
theorem ok_is_calm {P : Program} {w : World} {K : PySem.W.Frag} {mg : Str → Option Value} {base : Heap} {f : Addr} {fd : FuncData} (F : Fun K "is_calm" "is_calm" s_is_calm f fd) (T : Blt mg) (c_has_beat : Cl P w K mg base 1 "has_beat" p_has_beat (sp_has_beat K)) :
    FnOk P w K mg base CX0 2 f fd p_is_calm (sp_is_calm K) := by
  refine F.ok sc_is_calm (fun vs H Q E h => ?_) (fun cdv A outer s H vs Q E hr h => ?_)
  · obtain ⟨t, rfl, _⟩ := h
    rfl
  · obtain ⟨t, rfl, hl, q⟩ := h
    refine ⟨_, (pss_cons (ps_for PassesOwn.never rfl (pi_range2 (by rfl) T.range (pa_cons pe_int (pa_cons (pe_callB call_len_S (by rfl) T.len (by decide +kernel) (pa_cons (pv 0) pa_nil)) pa_nil))) (pg_name (i := 1) sc_is_calm.nd rfl (Or.inl rfl))
          (pss_one (ps_for PassesOwn.never rfl (pi_range1 (by rfl) T.range (pa_cons (pe_op op_sub (pe_callB call_len_S (by rfl) T.len (by decide +kernel) (pa_cons (pv 0) pa_nil)) (pe_op op_mul pe_int (pv 1))) pa_nil)) (pg_name (i := 2) sc_is_calm.nd rfl (Or.inl rfl))
            (pss_one (ps_if (pt_val (pe_cl c_has_beat (hr.mono (by decide)) (by rfl) (pa_cons (pe_slice sl_S (pv 0) (po_some (pv 2)) (po_some (pe_op op_add (pe_op op_add (pv 2) (pe_op op_mul pe_int (pv 1))) pe_int))) (pa_cons (pv 1) pa_nil))))
              (pss_one (ps_ret pe_bl)) pss_nil)))))
        (pss_one (ps_ret pe_bl))), ?_⟩
    refine ⟨_, rfl, _, rfl, by omega, _, _, rfl, ⟨by decide, by decide, by omega, by omega⟩, for_range (n := ((t.length : Int) - 1).toNat) (fun i σ H' => ∃ (y1 y2 : Option V), σ = [some (.str (S t)), y1, y2] ∧ H' = H ∧ ∀ b, 1 ≤ b → b < 1 + i → ∀ f, f < t.length - 2 * b → hb (cut t f (f + 2 * b + 1)) b = false)
      ⟨none, none, rfl, rfl, fun b h1 h2 => by omega⟩ (fun i σ H' hi hP => ?_) (fun σ H' hP => ?_)⟩
    · obtain ⟨y1, y2, rfl, rfl, hn⟩ := hP
      have hil : i < t.length - 1 := by omega
      have ej : ((t.length : Int) - 2 * (1 + (i : Int))).toNat = t.length - 2 * (1 + i) := by omega
      refine ⟨_, rfl, _, rfl, by omega, _, rfl, _, _, rfl, rfl, .inl (by decide), _, _, rfl, rfl, _, rfl, by omega, by omega, for_range (n := ((t.length : Int) - 2 * (1 + (i : Int))).toNat) (fun j σ H2 => ∃ (y2 : Option V), σ = [some (.str (S t)), some (.int (1 + (i : Int))), y2] ∧ H2 = H' ∧ ∀ f, f < j → hb (cut t f (f + 2 * (1 + i) + 1)) (1 + i) = false)
        ⟨y2, rfl, rfl, fun f h1 => by omega⟩ (fun j σ H2 hj hP => ?_) (fun σ H2 hP => ?_)⟩
      · obtain ⟨y2, rfl, rfl, hm⟩ := hP
        have hjl : j < t.length - 2 * (1 + i) := by omega
        have i0 : (0 + (j : Int)).toNat = j := by omega
        have i1 : (0 + (j : Int) + 2 * (1 + (i : Int)) + 1).toNat = j + 2 * (1 + i) + 1 := by omega
        have i2 : (1 + (i : Int)).toNat = 1 + i := by omega
        have cl := cut_len' (t := t) (a := j) (b := j + 2 * (1 + i) + 1) (by omega)
        refine ⟨_, rfl, _, rfl, _, rfl, _, rfl, _, rfl, _, _, rfl, rfl, .inl (by decide), _, _, rfl, rfl, _, _, rfl, rfl, _, rfl, _, rfl, by omega, (by show (0 : Int) ≤ 0 + (j : Int); omega), (by show (0 : Int) ≤ 0 + (j : Int) + 2 * (1 + (i : Int)) + 1; omega), _, rfl, cut t j (j + 2 * (1 + i) + 1), 1 + (i : Int), ?_, by omega, by omega, by omega, _, rfl, ?_⟩
        · show [V.str (S (cut t (0 + (j : Int)).toNat (0 + (j : Int) + 2 * (1 + (i : Int)) + 1).toNat)), V.int (1 + (i : Int))] = _
          rw [i0, i1]
        rw [i2]
        cases e : hb (cut t j (j + 2 * (1 + i) + 1)) (1 + i) with
        | true =>
          have ec : calmB t = false := by
            rw [Bool.eq_false_iff]
            unfold calmB
            rw [Ne, List.all_eq_true]
            intro h
            have h1 := h (1 + i) (List.mem_range'_1.mpr ⟨by omega, by omega⟩)
            rw [List.all_eq_true] at h1
            have h2 := h1 j (List.mem_range'_1.mpr ⟨by omega, by omega⟩)
            rw [e] at h2
            exact Bool.false_ne_true h2
          rw [ec] at q
          exact iteT q
        | false =>
          refine iteF ⟨_, rfl, rfl, fun f hf => ?_⟩
          by_cases c : f = j
          · rw [c]; exact e
          · exact hm f (by omega)
      · obtain ⟨y2, rfl, rfl, hm⟩ := hP
        rw [ej] at hm
        refine ⟨_, y2, rfl, rfl, fun b h1 h2 f hf => ?_⟩
        by_cases c : b = 1 + i
        · subst c
          exact hm f hf
        · exact hn b h1 (by omega) f hf
    · obtain ⟨y1, y2, rfl, rfl, hn⟩ := hP
      have ec : calmB t = true := by
        unfold calmB
        rw [List.all_eq_true]
        intro b hb'
        rw [List.all_eq_true]
        intro f hf
        have := List.mem_range'_1.mp hb'
        have := List.mem_range'_1.mp hf
        rw [hn b (by omega) (by omega) f (by omega)]
        rfl
      rw [ec] at q
      exact q
end BR
namespace BR
open PySem PySem.Spec PyProof.Rows L2
theorem ok__law_mixed {P : Program} {w : World} {K : PySem.W.Frag} {mg : Str → Option Value} {base : Heap} {f : Addr} {fd : FuncData} (F : Fun K "_law_mixed" "_law_mixed" s__law_mixed f fd) (T : Blt mg) (c__law_cell_at : Cl P w K mg base 1 "_law_cell_at" p__law_cell_at (sp__law_cell_at K)) :
    FnOk P w K mg base CX0 2 f fd p__law_mixed (sp__law_mixed K) := by
  refine F.ok sc__law_mixed (fun vs H Q E h => ?_) (fun cdv A outer s H vs Q E hr h => ?_)
  · obtain ⟨a, ns, k, rfl, _⟩ := h
    rfl
  · obtain ⟨a, ns, k, rfl, hS, h0, h1, q⟩ := h
    refine ⟨_, (pss_cons (ps_set (i := 2) sc__law_mixed.nd rfl (Or.inl rfl) (pe_op op_mod (pe_op op_mul (pe_op op_add (pe_op op_add (pe_cl c__law_cell_at (hr.mono (by decide)) (by rfl) (pa_cons (pv 0) (pa_cons (pv 1) pa_nil))) (pe_op op_mul pe_int (pv 1))) pe_int) pe_int) pe_int))
        (pss_one (ps_ret (pe_op op_mod (pe_op op_add (pe_op op_add (pe_op op_mul (pv 2) (pv 2)) (pe_op op_mul pe_int (pv 2))) (pv 1)) pe_int)))), ?_⟩
    refine ⟨_, rfl, _, rfl, a, ns, k, rfl, hS, h0, fun v => ?_⟩
    refine ⟨_, rfl, _, _, rfl, rfl, .inl (by decide), _, _, rfl, rfl, _, _, rfl, rfl, _, _, rfl, rfl, .inr (by decide), _, _, rfl, rfl, (by show (0 : Int) < 2147483647; decide), ?_⟩
    have g0 : 0 ≤ (v + 7919 * k + 1) * 48271 % 2147483647 := Int.emod_nonneg _ (by decide)
    have g1 : (v + 7919 * k + 1) * 48271 % 2147483647 < 2147483647 := Int.emod_lt_of_pos _ (by decide)
    refine ⟨_, rfl, _, rfl, _, _, rfl, rfl, .inl ⟨by show -(2 ^ 64) < _; omega, by show _ < 2 ^ 64; omega⟩, _, rfl, _, _, rfl, rfl, .inl (by decide), _, _, rfl, rfl, _, rfl, _, _, rfl, rfl, _, _, rfl, rfl, (by show (0 : Int) < 2147483629; decide), ?_⟩
    exact q _ (Int.emod_nonneg _ (by decide))
end BR
namespace BR
open PySem PySem.Spec PyProof.Rows L2
theorem ok_law {P : Program} {w : World} {K : PySem.W.Frag} {mg : Str → Option Value} {base : Heap} {f : Addr} {fd : FuncData} (F : Fun K "law" "law" s_law f fd) (T : Blt mg) (c_free_text : Cl P w K mg base 2 "free_text" p_free_text (sp_free_text K)) (c_calm_text : Cl P w K mg base 2 "calm_text" p_calm_text (sp_calm_text K)) (c__law_doubles : Cl P w K mg base 1 "_law_doubles" p__law_doubles (sp__law_doubles K)) (c__law_mixed : Cl P w K mg base 2 "_law_mixed" p__law_mixed (sp__law_mixed K)) (c_is_free : Cl P w K mg base 2 "is_free" p_is_free (sp_is_free K)) (c_is_calm : Cl P w K mg base 2 "is_calm" p_is_calm (sp_is_calm K)) (c__law_drawn : Cl P w K mg base 1 "_law_drawn" p__law_drawn (sp__law_drawn K)) :
    FnOk P w K mg base CX0 3 f fd p_law (sp_law K) := by
  refine F.ok sc_law (fun vs H Q E h => ?_) (fun cdv A outer s H vs Q E hr h => ?_)
  · obtain ⟨a, ns, rfl, _⟩ := h
    rfl
  · obtain ⟨a, ns, rfl, hS, h63, q⟩ := h
    refine ⟨_, (pss_cons (ps_set (i := 1) sc_law.nd rfl (Or.inl rfl) (pe_op op_mod (pe_cl c__law_mixed (hr.mono (by decide)) (by rfl) (pa_cons (pv 0) (pa_cons pe_int pa_nil))) pe_int))
        (pss_cons (ps_set (i := 2) sc_law.nd rfl (Or.inl rfl) (pe_cl c_free_text (hr.mono (by decide)) (by rfl) (pa_cons (pv 1) pa_nil)))
        (pss_cons (ps_set (i := 3) sc_law.nd rfl (Or.inl rfl) (pe_cl c_calm_text (hr.mono (by decide)) (by rfl) (pa_cons (pv 1) pa_nil)))
        (pss_cons (ps_if (PW.pt (pw_or (pt_not (pt_val (pe_callB call_isi (by rfl) T.isinstance (by decide +kernel) (pa_cons (pv 2) (pa_cons (pe_bltn (v := .ty "str") (u := .type "str") (by rfl) T.str (by decide +kernel) rfl) pa_nil))))) (pw_or (pt_cmpR op_neI (pe_callB call_len_S (by rfl) T.len (by decide +kernel) (pa_cons (pv 2) pa_nil)) (pv 1) (nomark _)) (pw_or1 (pt_cmpR (op_neE hr.units) (pe_lc (own := [("_law_sign", 4)]) (g := gName 4) rfl sc_law.nd (pi_str (pv 2)) (blkOk_by (N := n_law) (sc := defScope s_law) (by decide +kernel)) (fun _ _ _ _ _ => (pg_name (i := 4) sc_law.nd rfl (Or.inl rfl))) (fun _ _ _ _ _ => pts_one (pt_cmpR op_notInS (pv 4) (pe_strS (l := [97, 98, 99]) (by decide +kernel)) (by rfl))) (fun _ _ _ _ _ => (pv 4))) (pe_lst pa_nil) (nomark _))))))
          (pss_one (ps_ret pe_bl)) pss_nil)
        (pss_cons (ps_if (PW.pt (pw_or (pt_not (pt_val (pe_callB call_isi (by rfl) T.isinstance (by decide +kernel) (pa_cons (pv 3) (pa_cons (pe_bltn (v := .ty "str") (u := .type "str") (by rfl) T.str (by decide +kernel) rfl) pa_nil))))) (pw_or (pt_cmpR op_neI (pe_callB call_len_S (by rfl) T.len (by decide +kernel) (pa_cons (pv 3) pa_nil)) (pv 1) (nomark _)) (pw_or1 (pt_cmpR (op_neE hr.units) (pe_lc (own := [("_law_sign", 4)]) (g := gName 4) rfl sc_law.nd (pi_str (pv 3)) (blkOk_by (N := n_law) (sc := defScope s_law) (by decide +kernel)) (fun _ _ _ _ _ => (pg_name (i := 4) sc_law.nd rfl (Or.inl rfl))) (fun _ _ _ _ _ => pts_one (pt_cmpR op_notInS (pv 4) (pe_strS (l := [97, 98]) (by decide +kernel)) (by rfl))) (fun _ _ _ _ _ => (pv 4))) (pe_lst pa_nil) (nomark _))))))
          (pss_one (ps_ret pe_bl)) pss_nil)
        (pss_cons (ps_if (PW.pt (pw_or (pt_cmpR (op_neTL hr.units) (pe_cl c__law_doubles (hr.mono (by decide)) (by rfl) (pa_cons (pv 2) pa_nil)) (pe_lst pa_nil) (nomark _)) (pw_or (pt_cmpR op_isnot_bl (pe_cl c_is_free (hr.mono (by decide)) (by rfl) (pa_cons (pv 2) pa_nil)) pe_bl (nomark _)) (pw_or1 (pt_cmpR op_isnot_bl (pe_cl c_is_calm (hr.mono (by decide)) (by rfl) (pa_cons (pv 3) pa_nil)) pe_bl (nomark _))))))
          (pss_one (ps_ret pe_bl)) pss_nil)
        (pss_cons (ps_for PassesOwn.never rfl (pi_list (pe_cl c__law_doubles (hr.mono (by decide)) (by rfl) (pa_cons (pv 3) pa_nil))) (pg_tup (by rfl) (pgs_cons (pg_name (i := 5) sc_law.nd rfl (Or.inl rfl)) (pgs_cons (pg_name (i := 6) sc_law.nd rfl (Or.inl rfl)) pgs_nil)))
          (pss_one (ps_if (pt_cmpR op_eqS (pe_slice sl_S (pe_slice sl_S (pv 3) (po_some (pe_op op_add (pv 5) (pe_op op_mul pe_int (pv 6)))) po_none) po_none (po_some pe_int)) (pe_ix ix_S (pv 3) (pv 5) (fun _ _ => rfl)) (nomark _))
            (pss_one (ps_ret pe_bl)) pss_nil)))
        (pss_cons (ps_set (i := 7) sc_law.nd rfl (Or.inl rfl) (pe_cl c__law_mixed (hr.mono (by decide)) (by rfl) (pa_cons (pv 0) (pa_cons pe_int pa_nil))))
        (pss_cons (ps_set (i := 8) sc_law.nd rfl (Or.inl rfl) (pe_strS (l := []) (by decide +kernel)))
        (pss_cons (ps_for PassesOwn.never rfl (pi_range1 (by rfl) T.range (pa_cons (pe_op op_add pe_int (pe_op op_mod (pv 7) pe_int)) pa_nil)) (pg_name (i := 9) sc_law.nd rfl (Or.inl rfl))
          (pss_one (ps_set (i := 8) sc_law.nd rfl (Or.inl rfl) (pe_op op_addS (pv 8) (pe_ix ix_S (pe_strS (l := [120, 121]) (by decide +kernel)) (pe_op op_mod (pe_op op_fdiv (pe_cl c__law_drawn (hr.mono (by decide)) (by rfl) (pa_cons (pv 7) (pa_cons (pv 9) pa_nil))) pe_int) pe_int) (fun _ _ => rfl))))))
        (pss_one (ps_ret (pe_cmpR op_is_bl (pe_cl c_is_free (hr.mono (by decide)) (by rfl) (pa_cons (pv 8) pa_nil)) pe_bl (nomark _)))))))))))))), ?_⟩
    refine ⟨_, rfl, a, ns, 0, rfl, hS, by decide, by decide, fun v v0 => ⟨_, _, rfl, rfl, (by show (0 : Int) < 61; decide), ?_⟩⟩
    have r0 : 0 ≤ v % 61 := Int.emod_nonneg _ (by decide)
    have r1 : v % 61 < 61 := Int.emod_lt_of_pos _ (by decide)
    obtain ⟨n, hn⟩ := Int.eq_ofNat_of_zero_le r0
    have n60 : n ≤ 60 := by omega
    have en : [V.int (v % 61)] = [V.int (n : Int)] := by rw [hn]
    refine ⟨_, rfl, n, en, n60, fun H1 sm1 => ⟨_, rfl, n, en, n60, fun H2 sm2 => ?_⟩⟩
    have fl : (F60.take n).length = n := by rw [List.length_take, F60_len]; omega
    have cl : (C60.take n).length = n := by rw [List.length_take, C60_len]; omega
    -- the free text's letters
    refine ⟨_, rfl, _, _, _, _, _, rfl, .ty _, .base (.str _), kit_ty (r := true) (by decide +kernel), _, rfl, iteF ⟨_, rfl, _, rfl, by omega, _, rfl, _, _, rfl, rfl, _, rfl, ?_⟩⟩
    rw [decide_eq_true (show (((F60.take n).length : Nat) : Int) = v % 61 by rw [fl, hn])]
    refine iteF ⟨_, rfl, _, rfl, fun D nD => lc_it (walk_str (z := S (F60.take n))) (fun i H' => Same H2 H' ∧ H' D = some (.lst [])) ⟨same_new nD _, upd_same⟩ (fun _ _ _ _ => trivial) (fun i x H3 H4 hi hP hY => ?_) (fun H3 hP => ?_)⟩
    · obtain ⟨sm, hD⟩ := hP
      obtain ⟨rfl, c, hc, rfl⟩ := hY
      have hc' := F60_abc c (List.mem_of_mem_take (List.mem_of_getElem? (at_S hc)))
      refine ⟨rfl, _, rfl, _, _, rfl, rfl, _, rfl, ?_⟩
      rw [decide_eq_true hc']
      exact iteF ⟨sm, hD⟩
    obtain ⟨sm3, hD⟩ := hP
    refine ⟨by decide, fun q1 nq => ⟨_, _, rfl, rfl, SqL.of (same_new nq _ _ _ hD), SqL.of upd_same, _, rfl, iteF ?_⟩⟩
    -- the calm text's letters
    refine ⟨_, rfl, _, _, _, _, _, rfl, .ty _, .base (.str _), kit_ty (r := true) (by decide +kernel), _, rfl, iteF ⟨_, rfl, _, rfl, by omega, _, rfl, _, _, rfl, rfl, _, rfl, ?_⟩⟩
    rw [decide_eq_true (show (((C60.take n).length : Nat) : Int) = v % 61 by rw [cl, hn])]
    refine iteF ⟨_, rfl, _, rfl, fun D nD => lc_it (walk_str (z := S (C60.take n))) (fun i H' => Same (upd H3 q1 (.lst [])) H' ∧ H' D = some (.lst [])) ⟨same_new nD _, upd_same⟩ (fun _ _ _ _ => trivial) (fun i x H5 H4 hi hP hY => ?_) (fun H5 hP => ?_)⟩
    · obtain ⟨sm, hD⟩ := hP
      obtain ⟨rfl, c, hc, rfl⟩ := hY
      have hc' := C60_ab c (List.mem_of_mem_take (List.mem_of_getElem? (at_S hc)))
      refine ⟨rfl, _, rfl, _, _, rfl, rfl, _, rfl, ?_⟩
      rw [decide_eq_true hc']
      exact iteF ⟨sm, hD⟩
    obtain ⟨sm5, hD5⟩ := hP
    refine ⟨by decide, fun q2 nq2 => ⟨_, _, rfl, rfl, SqL.of (same_new nq2 _ _ _ hD5), SqL.of upd_same, _, rfl, iteF ?_⟩⟩
    have ef : dbls (F60.take n) = [] := free_take (by rw [F60_len]; omega) F60_free
    have ec : (dbls (C60.take n)).filter (goesOn (C60.take n)) = [] := calm_take (by rw [C60_len]; omega) C60_calm
    have eb : calmB (C60.take n) = true := by rw [calm_eq, decide_eq_true ec]
    have smA : Same H (upd H5 q2 (.lst [])) := (((sm1.trans sm2).trans sm3).trans (same_new nq (.lst []))).trans (sm5.trans (same_new nq2 (.lst [])))
    -- free, calm
    refine ⟨_, rfl, _, rfl, by omega, fun H6 L6 sm6 nL6 tl6 => ⟨by decide, fun y ny => ⟨L6, y, _, [], rfl, rfl, tl6.same (same_new ny _), TL.nil upd_same, _, rfl, ?_⟩⟩⟩
    rw [ef, decide_eq_true (show [].map pI = [] from rfl)]
    refine iteF ⟨_, rfl, _, rfl, by omega, fun H7 sm7 => ⟨_, _, rfl, rfl, _, rfl, ?_⟩⟩
    rw [ef, decide_eq_true (show ([] : List (Nat × Nat)) = [] from rfl), decide_eq_true (show true = true from rfl)]
    refine iteF ⟨_, rfl, _, rfl, by omega, _, _, rfl, rfl, _, rfl, ?_⟩
    rw [eb, decide_eq_true (show true = true from rfl)]
    refine iteF ?_
    have smB : Same H H7 := ((smA.trans sm6).trans (same_new ny (.lst []))).trans sm7
    -- no double of the calm text goes on
    refine ⟨_, rfl, _, rfl, by omega, fun H8 L8 sm8 nL8 tl8 => ?_⟩
    obtain ⟨ls, hL, til, el⟩ := id tl8
    refine ⟨_, rfl, ⟨_, SqL.of hL⟩, for_list (xs := refs ls) (fun i σ H9 => ∃ (y4 y5 y6 : Option V), σ = [some (.ref a), some (.int (v % 61)), some (.str (S (F60.take n))), some (.str (S (C60.take n))), y4, y5, y6, none, none, none] ∧ Same H8 H9)
      ⟨_, _, _, rfl, Same.refl _⟩ (fun i σ H9 _ ⟨_, _, _, _, sm⟩ => SqL.of (sm _ _ hL)) (fun i x σ H9 hx hP => ?_) (fun σ H9 hP => ?_)⟩
    · obtain ⟨y4, y5, y6, rfl, sm⟩ := hP
      obtain ⟨k, hk, rfl⟩ := refs_at hx
      obtain ⟨c, hc, ec'⟩ := of_map el hk
      obtain ⟨ka, kn⟩ := k
      have ec2 : kn = pI c := ec'
      subst ec2
      obtain ⟨d, h⟩ := c
      have hka : H9 ka = some (.tup [.int (d : Int), .int (h : Int)]) := sm _ _ (til _ (List.mem_of_getElem? hk))
      have hd := List.mem_of_getElem? hc
      have hDb : Dbl (C60.take n).length (wOf (C60.take n)) d h := mem_dbls.mp hd
      have d1 := hDb.1
      have d2 := hDb.2.1
      have i1 : ((d : Int) + 2 * (h : Int)).toNat = d + 2 * h := by omega
      have i2 : (d : Int).toNat = d := by omega
      refine ⟨ka, _, rfl, SqT.of hka, rfl, _, _, rfl, _, _, rfl, rfl, ?_⟩
      refine ⟨_, rfl, _, rfl, _, rfl, _, _, rfl, rfl, .inl (by decide), _, _, rfl, rfl, _, rfl, _, rfl, by omega, (by show (0 : Int) ≤ (d : Int) + 2 * (h : Int); omega), trivial, _, rfl, _, rfl, ?_, trivial, (by show (0 : Int) ≤ 1; decide), _, rfl, _, rfl, _, _, rfl, rfl, by omega, by omega, by omega, _, _, rfl, rfl, _, rfl, ?_⟩
      · show ((C60.take n).drop _).length ≤ 100000
        rw [List.length_drop]
        omega
      have eg : decide (slN (slN (C60.take n) (some ((d : Int) + 2 * (h : Int))) none) none (some (1 : Int)) = [(C60.take n).getD (d : Int).toNat 0]) = goesOn (C60.take n) (d, h) := by
        show decide (((C60.take n).drop ((d : Int) + 2 * (h : Int)).toNat).take 1 = [(C60.take n).getD (d : Int).toNat 0]) = _
        rw [i1, i2]
        rfl
      rw [eg, show goesOn (C60.take n) (d, h) = false by
        rw [List.filter_eq_nil_iff] at ec
        exact Bool.eq_false_iff.mpr (ec (d, h) hd)]
      exact iteF ⟨_, _, _, rfl, sm⟩
    obtain ⟨y4, y5, y6, rfl, sm9⟩ := hP
    -- the drawn text
    refine ⟨_, rfl, a, ns, 1, rfl, sqL_same hS (smB.trans (sm8.trans sm9)), by decide, by decide, fun m m0 => ?_⟩
    have k0 : 0 ≤ m % 7 := Int.emod_nonneg _ (by decide)
    have k1 : m % 7 < 7 := Int.emod_lt_of_pos _ (by decide)
    refine ⟨_, rfl, _, _, rfl, rfl, (by show (0 : Int) < 7; decide), _, _, rfl, rfl, _, rfl, by omega, by omega, for_range (n := (4 + m % 7).toNat) (fun i σ H' => ∃ (l : List Nat) (y9 : Option V), σ = [some (.ref a), some (.int (v % 61)), some (.str (S (F60.take n))), some (.str (S (C60.take n))), y4, y5, y6, some (.int m), some (.str (S l)), y9] ∧ l.length = i ∧ ∀ c ∈ l, c = 120 ∨ c = 121)
      ⟨[], none, rfl, rfl, fun c hc => absurd hc (by simp)⟩ (fun i σ H' hi hP => ?_) (fun σ H' hP => ?_)⟩
    · obtain ⟨l, y9, rfl, li, lc⟩ := hP
      refine ⟨_, rfl, _, rfl, _, rfl, m, _, rfl, fun u u0 => ?_⟩
      have w0 : 0 ≤ u / 4 % 2 := Int.emod_nonneg _ (by decide)
      have w1 : u / 4 % 2 < 2 := Int.emod_lt_of_pos _ (by decide)
      refine ⟨_, _, rfl, rfl, ⟨by decide, by decide⟩, _, _, rfl, rfl, (by show (0 : Int) < 2; decide), _, _, rfl, rfl, by decide, w0, (by show (u / 4 % 2).toNat < 2; omega), _, _, rfl, rfl, (by rw [List.length_singleton]; omega), ?_⟩
      refine ⟨_, _, rfl, by rw [List.length_append, List.length_singleton, li], fun c hc => ?_⟩
      rcases List.mem_append.mp hc with z | z
      · exact lc c z
      · rw [List.mem_singleton] at z
        have : (u / 4 % 2).toNat = 0 ∨ (u / 4 % 2).toNat = 1 := by omega
        rcases this with e | e
        · rw [e] at z; exact .inl z
        · rw [e] at z; exact .inr z
    · obtain ⟨l, y9, rfl, li, lc⟩ := hP
      refine ⟨_, rfl, l, rfl, by omega, fun H' sm => ⟨_, _, rfl, rfl, ?_⟩⟩
      rw [decide_eq_false (has_dbl (by omega) lc), decide_eq_true rfl]
      exact q _
end BR
namespace BR
open PySem PySem.Spec PyProof.Rows L2
theorem all_mk {l : PySem.W.OpenLaw} {w : World} {K : PySem.W.Frag} {h : Heap} {mg : Str → Option Value} {fa : Addr} (X : K.In h) (G : h.Ns mainGlobals mg) (hfa : mg "law" = some (.ref fa))
    {f0 : Addr} {od0 an0 : Option Addr} {sl0 : Array (Option Value)} {oc0 kV0 dc0 pm0 cd0 ct0 : Value}
    (a0 : PySem.W.nsIn K mainGlobals "signs" = some (some (.ref f0))) (l0 : K.lookup f0 = some ⟨oc0, od0, .func (PySem.W.fnOf "signs" "signs" (defArgs s_signs) (defBody s_signs) (defScope s_signs) .none kV0 dc0 pm0 an0 cd0 ct0), sl0⟩) (c0 : PySem.W.codeIn K cd0 "signs" = true) (k0 : PySem.W.keepIn K (.ref f0) = true)
    {f1 : Addr} {od1 an1 : Option Addr} {sl1 : Array (Option Value)} {oc1 kV1 dc1 pm1 cd1 ct1 : Value}
    (a1 : PySem.W.nsIn K mainGlobals "calm_text" = some (some (.ref f1))) (l1 : K.lookup f1 = some ⟨oc1, od1, .func (PySem.W.fnOf "calm_text" "calm_text" (defArgs s_calm_text) (defBody s_calm_text) (defScope s_calm_text) .none kV1 dc1 pm1 an1 cd1 ct1), sl1⟩) (c1 : PySem.W.codeIn K cd1 "calm_text" = true) (k1 : PySem.W.keepIn K (.ref f1) = true)
    {f2 : Addr} {od2 an2 : Option Addr} {sl2 : Array (Option Value)} {oc2 kV2 dc2 pm2 cd2 ct2 : Value}
    (a2 : PySem.W.nsIn K mainGlobals "free_text" = some (some (.ref f2))) (l2 : K.lookup f2 = some ⟨oc2, od2, .func (PySem.W.fnOf "free_text" "free_text" (defArgs s_free_text) (defBody s_free_text) (defScope s_free_text) .none kV2 dc2 pm2 an2 cd2 ct2), sl2⟩) (c2 : PySem.W.codeIn K cd2 "free_text" = true) (k2 : PySem.W.keepIn K (.ref f2) = true)
    {f3 : Addr} {od3 an3 : Option Addr} {sl3 : Array (Option Value)} {oc3 kV3 dc3 pm3 cd3 ct3 : Value}
    (a3 : PySem.W.nsIn K mainGlobals "has_beat" = some (some (.ref f3))) (l3 : K.lookup f3 = some ⟨oc3, od3, .func (PySem.W.fnOf "has_beat" "has_beat" (defArgs s_has_beat) (defBody s_has_beat) (defScope s_has_beat) .none kV3 dc3 pm3 an3 cd3 ct3), sl3⟩) (c3 : PySem.W.codeIn K cd3 "has_beat" = true) (k3 : PySem.W.keepIn K (.ref f3) = true)
    {f4 : Addr} {od4 an4 : Option Addr} {sl4 : Array (Option Value)} {oc4 kV4 dc4 pm4 cd4 ct4 : Value}
    (a4 : PySem.W.nsIn K mainGlobals "doubles" = some (some (.ref f4))) (l4 : K.lookup f4 = some ⟨oc4, od4, .func (PySem.W.fnOf "doubles" "doubles" (defArgs s_doubles) (defBody s_doubles) (defScope s_doubles) .none kV4 dc4 pm4 an4 cd4 ct4), sl4⟩) (c4 : PySem.W.codeIn K cd4 "doubles" = true) (k4 : PySem.W.keepIn K (.ref f4) = true)
    {f5 : Addr} {od5 an5 : Option Addr} {sl5 : Array (Option Value)} {oc5 kV5 dc5 pm5 cd5 ct5 : Value}
    (a5 : PySem.W.nsIn K mainGlobals "is_free" = some (some (.ref f5))) (l5 : K.lookup f5 = some ⟨oc5, od5, .func (PySem.W.fnOf "is_free" "is_free" (defArgs s_is_free) (defBody s_is_free) (defScope s_is_free) .none kV5 dc5 pm5 an5 cd5 ct5), sl5⟩) (c5 : PySem.W.codeIn K cd5 "is_free" = true) (k5 : PySem.W.keepIn K (.ref f5) = true)
    {f6 : Addr} {od6 an6 : Option Addr} {sl6 : Array (Option Value)} {oc6 kV6 dc6 pm6 cd6 ct6 : Value}
    (a6 : PySem.W.nsIn K mainGlobals "is_calm" = some (some (.ref f6))) (l6 : K.lookup f6 = some ⟨oc6, od6, .func (PySem.W.fnOf "is_calm" "is_calm" (defArgs s_is_calm) (defBody s_is_calm) (defScope s_is_calm) .none kV6 dc6 pm6 an6 cd6 ct6), sl6⟩) (c6 : PySem.W.codeIn K cd6 "is_calm" = true) (k6 : PySem.W.keepIn K (.ref f6) = true)
    {f7 : Addr} {od7 an7 : Option Addr} {sl7 : Array (Option Value)} {oc7 kV7 dc7 pm7 cd7 ct7 : Value}
    (a7 : PySem.W.nsIn K mainGlobals "_law_cell_at" = some (some (.ref f7))) (l7 : K.lookup f7 = some ⟨oc7, od7, .func (PySem.W.fnOf "_law_cell_at" "_law_cell_at" (defArgs s__law_cell_at) (defBody s__law_cell_at) (defScope s__law_cell_at) .none kV7 dc7 pm7 an7 cd7 ct7), sl7⟩) (c7 : PySem.W.codeIn K cd7 "_law_cell_at" = true) (k7 : PySem.W.keepIn K (.ref f7) = true)
    {f8 : Addr} {od8 an8 : Option Addr} {sl8 : Array (Option Value)} {oc8 kV8 dc8 pm8 cd8 ct8 : Value}
    (a8 : PySem.W.nsIn K mainGlobals "_law_mixed" = some (some (.ref f8))) (l8 : K.lookup f8 = some ⟨oc8, od8, .func (PySem.W.fnOf "_law_mixed" "_law_mixed" (defArgs s__law_mixed) (defBody s__law_mixed) (defScope s__law_mixed) .none kV8 dc8 pm8 an8 cd8 ct8), sl8⟩) (c8 : PySem.W.codeIn K cd8 "_law_mixed" = true) (k8 : PySem.W.keepIn K (.ref f8) = true)
    {f9 : Addr} {od9 an9 : Option Addr} {sl9 : Array (Option Value)} {oc9 kV9 dc9 pm9 cd9 ct9 : Value}
    (a9 : PySem.W.nsIn K mainGlobals "_law_drawn" = some (some (.ref f9))) (l9 : K.lookup f9 = some ⟨oc9, od9, .func (PySem.W.fnOf "_law_drawn" "_law_drawn" (defArgs s__law_drawn) (defBody s__law_drawn) (defScope s__law_drawn) .none kV9 dc9 pm9 an9 cd9 ct9), sl9⟩) (c9 : PySem.W.codeIn K cd9 "_law_drawn" = true) (k9 : PySem.W.keepIn K (.ref f9) = true)
    {f10 : Addr} {od10 an10 : Option Addr} {sl10 : Array (Option Value)} {oc10 kV10 dc10 pm10 cd10 ct10 : Value}
    (a10 : PySem.W.nsIn K mainGlobals "_law_doubles" = some (some (.ref f10))) (l10 : K.lookup f10 = some ⟨oc10, od10, .func (PySem.W.fnOf "_law_doubles" "_law_doubles" (defArgs s__law_doubles) (defBody s__law_doubles) (defScope s__law_doubles) .none kV10 dc10 pm10 an10 cd10 ct10), sl10⟩) (c10 : PySem.W.codeIn K cd10 "_law_doubles" = true) (k10 : PySem.W.keepIn K (.ref f10) = true)
    {f11 : Addr} {od11 an11 : Option Addr} {sl11 : Array (Option Value)} {oc11 kV11 dc11 pm11 cd11 ct11 : Value}
    (a11 : PySem.W.nsIn K mainGlobals "law" = some (some (.ref f11))) (l11 : K.lookup f11 = some ⟨oc11, od11, .func (PySem.W.fnOf "law" "law" (defArgs s_law) (defBody s_law) (defScope s_law) .none kV11 dc11 pm11 an11 cd11 ct11), sl11⟩) (c11 : PySem.W.codeIn K cd11 "law" = true) (k11 : PySem.W.keepIn K (.ref f11) = true)
    (z_len : PySem.W.nsIn K mainGlobals "len" = some none)
    (z_range : PySem.W.nsIn K mainGlobals "range" = some none)
    (z_tuple : PySem.W.nsIn K mainGlobals "tuple" = some none)
    (z_isinstance : PySem.W.nsIn K mainGlobals "isinstance" = some none)
    (z_str : PySem.W.nsIn K mainGlobals "str" = some none)
    (z_zip : PySem.W.nsIn K mainGlobals "zip" = some none)
    : ∃ fd : FuncData, (∀ (s : Shared) (v : Value), BindsTo s fd ⟨[v], []⟩ [("_law_script", v)]) ∧ ∀ base : Heap, K.In base → base.Ns mainGlobals mg → FnOk l.prog w K mg base CX0 3 fa fd ["_law_script"] (sp_law K) := by
  have e := hfa.symm.trans (PySem.W.mg_of X G a11)
  cases e
  have T : Blt mg := ⟨PySem.W.mg_none_of X G z_len, PySem.W.mg_none_of X G z_range, PySem.W.mg_none_of X G z_tuple, PySem.W.mg_none_of X G z_isinstance, PySem.W.mg_none_of X G z_str, PySem.W.mg_none_of X G z_zip⟩
  have F0 := fun_mk (st := s_signs) l0 c0 k0
  have b0 := F0.binds (ps := p_signs) fun _ _ _ _ _ _ us hl => match us, hl with | [_], _ => rfl
  have F1 := fun_mk (st := s_calm_text) l1 c1 k1
  have b1 := F1.binds (ps := p_calm_text) fun _ _ _ _ _ _ us hl => match us, hl with | [_], _ => rfl
  have F2 := fun_mk (st := s_free_text) l2 c2 k2
  have b2 := F2.binds (ps := p_free_text) fun _ _ _ _ _ _ us hl => match us, hl with | [_], _ => rfl
  have F3 := fun_mk (st := s_has_beat) l3 c3 k3
  have b3 := F3.binds (ps := p_has_beat) fun _ _ _ _ _ _ us hl => match us, hl with | [_, _], _ => rfl
  have F4 := fun_mk (st := s_doubles) l4 c4 k4
  have b4 := F4.binds (ps := p_doubles) fun _ _ _ _ _ _ us hl => match us, hl with | [_], _ => rfl
  have F5 := fun_mk (st := s_is_free) l5 c5 k5
  have b5 := F5.binds (ps := p_is_free) fun _ _ _ _ _ _ us hl => match us, hl with | [_], _ => rfl
  have F6 := fun_mk (st := s_is_calm) l6 c6 k6
  have b6 := F6.binds (ps := p_is_calm) fun _ _ _ _ _ _ us hl => match us, hl with | [_], _ => rfl
  have F7 := fun_mk (st := s__law_cell_at) l7 c7 k7
  have b7 := F7.binds (ps := p__law_cell_at) fun _ _ _ _ _ _ us hl => match us, hl with | [_, _], _ => rfl
  have F8 := fun_mk (st := s__law_mixed) l8 c8 k8
  have b8 := F8.binds (ps := p__law_mixed) fun _ _ _ _ _ _ us hl => match us, hl with | [_, _], _ => rfl
  have F9 := fun_mk (st := s__law_drawn) l9 c9 k9
  have b9 := F9.binds (ps := p__law_drawn) fun _ _ _ _ _ _ us hl => match us, hl with | [_, _], _ => rfl
  have F10 := fun_mk (st := s__law_doubles) l10 c10 k10
  have b10 := F10.binds (ps := p__law_doubles) fun _ _ _ _ _ _ us hl => match us, hl with | [_], _ => rfl
  have F11 := fun_mk (st := s_law) l11 c11 k11
  refine ⟨PySem.W.fnOf "law" "law" (defArgs s_law) (defBody s_law) (defScope s_law) .none kV11 dc11 pm11 an11 cd11 ct11, fun s v => .of_eq rfl, fun base _ _ => ?_⟩
  have c_signs : Cl l.prog w K mg base 1 "signs" p_signs (sp_signs K) := ⟨f0, _, ok_signs F0 T, PySem.W.mg_of X G a0, k0, b0⟩
  have c_has_beat : Cl l.prog w K mg base 1 "has_beat" p_has_beat (sp_has_beat K) := ⟨f3, _, ok_has_beat F3 T, PySem.W.mg_of X G a3, k3, b3⟩
  have c_doubles : Cl l.prog w K mg base 1 "doubles" p_doubles (sp_doubles K) := ⟨f4, _, ok_doubles F4 T, PySem.W.mg_of X G a4, k4, b4⟩
  have c__law_cell_at : Cl l.prog w K mg base 1 "_law_cell_at" p__law_cell_at (sp__law_cell_at K) := ⟨f7, _, ok__law_cell_at F7 T, PySem.W.mg_of X G a7, k7, b7⟩
  have c__law_drawn : Cl l.prog w K mg base 1 "_law_drawn" p__law_drawn (sp__law_drawn K) := ⟨f9, _, ok__law_drawn F9 T, PySem.W.mg_of X G a9, k9, b9⟩
  have c__law_doubles : Cl l.prog w K mg base 1 "_law_doubles" p__law_doubles (sp__law_doubles K) := ⟨f10, _, ok__law_doubles F10 T, PySem.W.mg_of X G a10, k10, b10⟩
  have c_calm_text : Cl l.prog w K mg base 2 "calm_text" p_calm_text (sp_calm_text K) := ⟨f1, _, ok_calm_text F1 T c_signs, PySem.W.mg_of X G a1, k1, b1⟩
  have c_free_text : Cl l.prog w K mg base 2 "free_text" p_free_text (sp_free_text K) := ⟨f2, _, ok_free_text F2 T c_signs, PySem.W.mg_of X G a2, k2, b2⟩
  have c_is_free : Cl l.prog w K mg base 2 "is_free" p_is_free (sp_is_free K) := ⟨f5, _, ok_is_free F5 T c_doubles, PySem.W.mg_of X G a5, k5, b5⟩
  have c_is_calm : Cl l.prog w K mg base 2 "is_calm" p_is_calm (sp_is_calm K) := ⟨f6, _, ok_is_calm F6 T c_has_beat, PySem.W.mg_of X G a6, k6, b6⟩
  have c__law_mixed : Cl l.prog w K mg base 2 "_law_mixed" p__law_mixed (sp__law_mixed K) := ⟨f8, _, ok__law_mixed F8 T c__law_cell_at, PySem.W.mg_of X G a8, k8, b8⟩
  exact ok_law F11 T c_free_text c_calm_text c__law_doubles c__law_mixed c_is_free c_is_calm c__law_drawn
end BR
open PySem PySem.W PyProof.Rows
set_option maxHeartbeats 0 in
theorem PySem.Challenge.cw_beatruns_k30_whole_texts_without_holds : PySem.Challenge.rw_beatruns_k30_whole_texts_without.Holds := by
  w_on; o_law; k_head; (case hw => w_witness2)
  k_fill
  refine L2.walk_of (l := PySem.Challenge.rw_beatruns_k30_whole_texts_without) (n := 63) (k := 3) (x := "_law_script") (CX := fun _ => L2.CX0) (sp := fun w => BR.sp_law _) rfl (by decide) rfl ⟨rfl, by decide, by decide⟩ (fun w h Y => PySem.W.kIn_of Y) ?F (fun _ _ a ns hl _ hS => ⟨a, ns, rfl, hS, hl, fun _ => rfl⟩) (fun _ _ _ _ _ h => h)
  case F =>
    intro w mg fa h KX G hmg
    refine' BR.all_mk KX G hmg ?a0 ?l0 ?c0 ?k0 ?a1 ?l1 ?c1 ?k1 ?a2 ?l2 ?c2 ?k2 ?a3 ?l3 ?c3 ?k3 ?a4 ?l4 ?c4 ?k4 ?a5 ?l5 ?c5 ?k5 ?a6 ?l6 ?c6 ?k6 ?a7 ?l7 ?c7 ?k7 ?a8 ?l8 ?c8 ?k8 ?a9 ?l9 ?c9 ?k9 ?a10 ?l10 ?c10 ?k10 ?a11 ?l11 ?c11 ?k11 ?z_len ?z_range ?z_tuple ?z_isinstance ?z_str ?z_zip
    (case a0 => k_is)
    (case l0 => k_is)
    (case c0 => k_is)
    (case k0 => k_is)
    (case a1 => k_is)
    (case l1 => k_is)
    (case c1 => k_is)
    (case k1 => k_is)
    (case a2 => k_is)
    (case l2 => k_is)
    (case c2 => k_is)
    (case k2 => k_is)
    (case a3 => k_is)
    (case l3 => k_is)
    (case c3 => k_is)
    (case k3 => k_is)
    (case a4 => k_is)
    (case l4 => k_is)
    (case c4 => k_is)
    (case k4 => k_is)
    (case a5 => k_is)
    (case l5 => k_is)
    (case c5 => k_is)
    (case k5 => k_is)
    (case a6 => k_is)
    (case l6 => k_is)
    (case c6 => k_is)
    (case k6 => k_is)
    (case a7 => k_is)
    (case l7 => k_is)
    (case c7 => k_is)
    (case k7 => k_is)
    (case a8 => k_is)
    (case l8 => k_is)
    (case c8 => k_is)
    (case k8 => k_is)
    (case a9 => k_is)
    (case l9 => k_is)
    (case c9 => k_is)
    (case k9 => k_is)
    (case a10 => k_is)
    (case l10 => k_is)
    (case c10 => k_is)
    (case k10 => k_is)
    (case a11 => k_is)
    (case l11 => k_is)
    (case c11 => k_is)
    (case k11 => k_is)
    (case z_len => k_is)
    (case z_range => k_is)
    (case z_tuple => k_is)
    (case z_isinstance => k_is)
    (case z_str => k_is)
    (case z_zip => k_is)
#print axioms PySem.Challenge.cw_beatruns_k30_whole_texts_without_holds
