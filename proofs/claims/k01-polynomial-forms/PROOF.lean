import PyProof.Rows.All
import Wide.All
import OpenK.AllK
import Wide.FinOn
import HandS.ForMost
import HandS.Head3
import HandS.HeadHook2
import HandS.HeadEnd
import HandS.ForExc
import HandS.IsInst
import HandS.Gcd
import HandS.Wide
import HandS.WideBits
import HandS.ExcIs
import HandS.HotCalls
import HandS.ExcField
import HandS.TryMany
import HandS.ExcInit
import HandS.ExcInitHot
import HandS.ExcValue
import HandS.Conv
import HandS.NoneIn
import HandS.Deep
import HandS.SortInts
import HandS.Flow
import HandS.TupAny
import HandS.DictTup
import HandS.Rev
import HandS.Small
import HandS.Dict
import HandS.More
import HandS.ListItems
import HandS.Iter
import HandS.Comp
import HandS.Words
import HandS.WordsDict
import HandS.List
import PySem.Challenge.RW_joinpast_k01_polynomial_forms
namespace JP
/-- the common part of a top and a bottom, with the bottom's sign -/
def part (t b : Int) : Int := if b < 0 then -((Nat.gcd t.natAbs b.natAbs : Nat) : Int) else ((Nat.gcd t.natAbs b.natAbs : Nat) : Int)
def nrm (t b : Int) : Int × Int := (t.fdiv (part t b), b.fdiv (part t b))
theorem part_ne {t b : Int} (h : b ≠ 0) : part t b ≠ 0 := by
  unfold part
  have : 0 < Nat.gcd t.natAbs b.natAbs := Nat.gcd_pos_of_pos_right _ (by omega)
  split <;> omega
theorem part_dvd_t (t b : Int) : part t b ∣ t := by
  unfold part
  have h : ((Nat.gcd t.natAbs b.natAbs : Nat) : Int) ∣ t := Int.ofNat_dvd_left.mpr (Nat.gcd_dvd_left _ _)
  split
  · exact Int.neg_dvd.mpr h
  · exact h
theorem part_dvd_b (t b : Int) : part t b ∣ b := by
  unfold part
  have h : ((Nat.gcd t.natAbs b.natAbs : Nat) : Int) ∣ b := Int.ofNat_dvd_left.mpr (Nat.gcd_dvd_right _ _)
  split
  · exact Int.neg_dvd.mpr h
  · exact h
theorem part_abs (t b : Int) : (part t b).natAbs = Nat.gcd t.natAbs b.natAbs := by
  unfold part
  split <;> omega
theorem fdiv_of_mul {k p : Int} (h : k ≠ 0) : (k * p).fdiv k = p := by
  rw [Int.fdiv_eq_ediv_of_dvd (Int.dvd_mul_right k p)]
  exact Int.mul_ediv_cancel_left p h
theorem pos_of_mul_pos {k p : Int} (hk : 0 < k) (h : 0 < k * p) : 0 < p := by
  rcases Int.lt_or_le 0 p with z | z
  · exact z
  · exact absurd (Int.mul_nonpos_of_nonneg_of_nonpos (Int.le_of_lt hk) z) (by omega)
theorem pos_of_mul_neg {k p : Int} (hk : k < 0) (h : k * p < 0) : 0 < p := by
  rcases Int.lt_or_le 0 p with z | z
  · exact z
  · exact absurd (Int.mul_nonneg_of_nonpos_of_nonpos (Int.le_of_lt hk) z) (by omega)
theorem nrm_spec {t b : Int} (h : b ≠ 0) : ∃ k : Int, k ≠ 0 ∧ k = part t b ∧ t = k * (nrm t b).1 ∧ b = k * (nrm t b).2 ∧ 0 < (nrm t b).2 ∧ Nat.gcd (nrm t b).1.natAbs (nrm t b).2.natAbs = 1 := by
  have hk := part_ne (t := t) h
  obtain ⟨p, hp⟩ := part_dvd_t t b
  obtain ⟨q, hq⟩ := part_dvd_b t b
  have e1 : (nrm t b).1 = p := by
    show t.fdiv (part t b) = p
    conv => lhs; arg 1; rw [hp]
    exact fdiv_of_mul hk
  have e2 : (nrm t b).2 = q := by
    show b.fdiv (part t b) = q
    conv => lhs; arg 1; rw [hq]
    exact fdiv_of_mul hk
  refine ⟨part t b, hk, rfl, by rw [e1]; exact hp, by rw [e2]; exact hq, ?_, ?_⟩
  · rw [e2]
    have s : (b < 0 ∧ part t b < 0) ∨ (0 < b ∧ 0 < part t b) := by
      have : 0 < Nat.gcd t.natAbs b.natAbs := Nat.gcd_pos_of_pos_right _ (by omega)
      by_cases hb : b < 0
      · refine .inl ⟨hb, ?_⟩
        unfold part; rw [if_pos hb]; omega
      · refine .inr ⟨by omega, ?_⟩
        unfold part; rw [if_neg hb]; omega
    rcases s with ⟨s1, s2⟩ | ⟨s1, s2⟩
    · rw [hq] at s1
      exact pos_of_mul_neg s2 s1
    · rw [hq] at s1
      exact pos_of_mul_pos s2 s1
  · rw [e1, e2]
    have g := part_abs t b
    have a1 : t.natAbs = (part t b).natAbs * p.natAbs := by conv => lhs; rw [hp]; rw [Int.natAbs_mul]
    have a2 : b.natAbs = (part t b).natAbs * q.natAbs := by conv => lhs; rw [hq]; rw [Int.natAbs_mul]
    have a3 : (part t b).natAbs = (part t b).natAbs * Nat.gcd p.natAbs q.natAbs := by
      rw [← Nat.gcd_mul_left, ← a1, ← a2]; exact g
    have a4 : 0 < (part t b).natAbs := by omega
    have a5 : (part t b).natAbs * 1 = (part t b).natAbs * Nat.gcd p.natAbs q.natAbs := by rw [Nat.mul_one]; exact a3
    exact (Nat.eq_of_mul_eq_mul_left a4 a5).symm
theorem low_uniq {p q p' q' : Int} (h : 0 < q) (h' : 0 < q') (c : Nat.gcd p.natAbs q.natAbs = 1) (c' : Nat.gcd p'.natAbs q'.natAbs = 1) (e : p * q' = p' * q) : p = p' ∧ q = q' := by
  have n1 : p.natAbs * q'.natAbs = p'.natAbs * q.natAbs := by rw [← Int.natAbs_mul, ← Int.natAbs_mul, e]
  have d1 : q.natAbs ∣ q'.natAbs := by
    have : q.natAbs ∣ p.natAbs * q'.natAbs := by rw [n1]; exact Nat.dvd_mul_left _ _
    exact Nat.Coprime.dvd_of_dvd_mul_left (Nat.Coprime.symm c) this
  have d2 : q'.natAbs ∣ q.natAbs := by
    have : q'.natAbs ∣ p'.natAbs * q.natAbs := by rw [← n1]; exact Nat.dvd_mul_left _ _
    exact Nat.Coprime.dvd_of_dvd_mul_left (Nat.Coprime.symm c') this
  have e1 : q.natAbs = q'.natAbs := Nat.dvd_antisymm d1 d2
  have e2 : q = q' := by omega
  subst e2
  exact ⟨Int.eq_of_mul_eq_mul_right (by omega) e, rfl⟩
theorem nrm_eq {t b t' b' : Int} (h : b ≠ 0) (h' : b' ≠ 0) (e : t * b' = t' * b) : nrm t b = nrm t' b' := by
  obtain ⟨k, hk, _, e1, e2, q1, c1⟩ := nrm_spec (t := t) h
  obtain ⟨k', hk', _, e1', e2', q1', c1'⟩ := nrm_spec (t := t') h'
  have z : (nrm t b).1 * (nrm t' b').2 = (nrm t' b').1 * (nrm t b).2 := by
    have e3 : (k * k') * ((nrm t b).1 * (nrm t' b').2) = (k * k') * ((nrm t' b').1 * (nrm t b).2) := by
      calc (k * k') * ((nrm t b).1 * (nrm t' b').2) = (k * (nrm t b).1) * (k' * (nrm t' b').2) := by ac_rfl
        _ = t * b' := by rw [← e1, ← e2']
        _ = t' * b := e
        _ = (k' * (nrm t' b').1) * (k * (nrm t b).2) := by rw [← e1', ← e2]
        _ = (k * k') * ((nrm t' b').1 * (nrm t b).2) := by ac_rfl
    exact Int.eq_of_mul_eq_mul_left (Int.mul_ne_zero hk hk') e3
  obtain ⟨a1, a2⟩ := low_uniq q1 q1' c1 c1' z
  exact Prod.ext a1 a2
/-- a pair (t, b) has the value of the pair m in lowest terms -/
structure Val (t b : Int) (m : Int × Int) : Prop where
  nb : b ≠ 0
  is : nrm t b = m
theorem Val.pos {t b : Int} {m : Int × Int} (v : Val t b m) : 0 < m.2 := by
  obtain ⟨k, _, _, _, _, q, _⟩ := nrm_spec (t := t) v.nb
  rw [← v.is]; exact q
theorem Val.ex {t b : Int} {m : Int × Int} (v : Val t b m) : ∃ k : Int, k ≠ 0 ∧ t = k * m.1 ∧ b = k * m.2 := by
  obtain ⟨k, hk, _, e1, e2, _, _⟩ := nrm_spec (t := t) v.nb
  rw [v.is] at e1 e2
  exact ⟨k, hk, e1, e2⟩
theorem Val.zero {t b : Int} {m : Int × Int} (v : Val t b m) : t = 0 ↔ m.1 = 0 := by
  obtain ⟨k, hk, e1, e2⟩ := v.ex
  constructor
  · intro h
    rw [h] at e1
    rcases Int.mul_eq_zero.mp e1.symm with h | h
    · exact absurd h hk
    · exact h
  · intro h
    rw [e1, h, Int.mul_zero]
theorem Val.nm {t b : Int} (h : b ≠ 0) : Val t b (nrm t b) := ⟨h, rfl⟩
theorem Val.self {t b : Int} {m : Int × Int} (v : Val t b m) : Val m.1 m.2 m := by
  have p := v.pos
  obtain ⟨k, hk, e1, e2⟩ := v.ex
  refine ⟨by omega, ?_⟩
  rw [← v.is]
  have : nrm m.1 m.2 = nrm t b := nrm_eq (by omega) v.nb (by rw [e1, e2]; ac_rfl)
  rw [v.is] at this ⊢; exact this
theorem Val.scale {t b c : Int} {m : Int × Int} (v : Val t b m) (hc : c ≠ 0) : Val (t * c) (b * c) m :=
  ⟨Int.mul_ne_zero v.nb hc, by rw [← v.is]; exact nrm_eq (Int.mul_ne_zero v.nb hc) v.nb (by ac_rfl)⟩
theorem nrm_plus {t b t' b' : Int} {m m' : Int × Int} (v : Val t b m) (v' : Val t' b' m') : nrm (t * b' + t' * b) (b * b') = nrm (m.1 * m'.2 + m'.1 * m.2) (m.2 * m'.2) := by
  obtain ⟨k, hk, e1, e2⟩ := v.ex
  obtain ⟨k', hk', e1', e2'⟩ := v'.ex
  have p := v.pos
  have p' := v'.pos
  refine nrm_eq (Int.mul_ne_zero v.nb v'.nb) (Int.mul_ne_zero (by omega) (by omega)) ?_
  rw [e1, e2, e1', e2']
  have a1 : k * m.1 * (k' * m'.2) + k' * m'.1 * (k * m.2) = (k * k') * (m.1 * m'.2 + m'.1 * m.2) := by rw [Int.mul_add]; congr 1 <;> ac_rfl
  rw [a1]; ac_rfl
theorem nrm_times {t b t' b' : Int} {m m' : Int × Int} (v : Val t b m) (v' : Val t' b' m') : nrm (t * t') (b * b') = nrm (m.1 * m'.1) (m.2 * m'.2) := by
  obtain ⟨k, hk, e1, e2⟩ := v.ex
  obtain ⟨k', hk', e1', e2'⟩ := v'.ex
  have p := v.pos
  have p' := v'.pos
  refine nrm_eq (Int.mul_ne_zero v.nb v'.nb) (Int.mul_ne_zero (by omega) (by omega)) ?_
  rw [e1, e2, e1', e2']
  ac_rfl
theorem nrm_over {t b t' b' : Int} {m m' : Int × Int} (v : Val t b m) (v' : Val t' b' m') (h : m'.1 ≠ 0) : nrm (t * b') (b * t') = nrm (m.1 * m'.2) (m.2 * m'.1) := by
  obtain ⟨k, hk, e1, e2⟩ := v.ex
  obtain ⟨k', hk', e1', e2'⟩ := v'.ex
  have p := v.pos
  have p' := v'.pos
  have ht : t' ≠ 0 := fun z => h (v'.zero.mp z)
  refine nrm_eq (Int.mul_ne_zero v.nb ht) (Int.mul_ne_zero (by omega) h) ?_
  rw [e1, e2, e1', e2']
  ac_rfl
/-! sizes -/
theorem nrm_le {t b : Int} (h : b ≠ 0) : (nrm t b).1.natAbs ≤ t.natAbs ∧ (nrm t b).2.natAbs ≤ b.natAbs := by
  obtain ⟨k, hk, _, e1, e2, _, _⟩ := nrm_spec (t := t) h
  have k0 : 1 ≤ k.natAbs := by omega
  constructor
  · conv => rhs; rw [e1, Int.natAbs_mul]
    exact Nat.le_mul_of_pos_left _ k0
  · conv => rhs; rw [e2, Int.natAbs_mul]
    exact Nat.le_mul_of_pos_left _ k0
theorem part_le {t b : Int} (h : b ≠ 0) : (part t b).natAbs ≤ b.natAbs := by
  rw [part_abs]
  exact Nat.le_of_dvd (by omega) (Nat.gcd_dvd_right _ _)
/-! the loop of _law_gcd -/
/-- what holds ahead of turn i; n: the bits of the second number -/
structure GcdAt (g n i : Nat) (x y : Nat) : Prop where
  gc : Nat.gcd x y = g
  ev : i % 2 = 0 → y < 2 ^ (n - i / 2)
  od : i % 2 = 1 → x < 2 ^ (n - i / 2) ∧ y < x
theorem GcdAt.next {g n i x y : Nat} (h : GcdAt g n i x y) (hy : y ≠ 0) (hi : i < 2 * n + 1) : GcdAt g n (i + 1) y (x % y) := by
  refine ⟨?_, fun e => ?_, fun e => ?_⟩
  · rw [← h.gc, Nat.gcd_comm x y, Nat.gcd_rec y x, Nat.gcd_comm]
  · obtain ⟨a, b⟩ := h.od (by omega)
    have e2 : (i + 1) / 2 = i / 2 + 1 := by omega
    rw [e2]
    have hn : i / 2 < n := by omega
    have e3 : 2 ^ (n - i / 2) = 2 * 2 ^ (n - (i / 2 + 1)) := by
      rw [show n - i / 2 = (n - (i / 2 + 1)) + 1 by omega, Nat.pow_succ]; omega
    rw [e3] at a
    have m1 : x % y < y := Nat.mod_lt _ (by omega)
    have m2 : x = y * (x / y) + x % y := (Nat.div_add_mod x y).symm
    have m3 : 1 ≤ x / y := (Nat.one_le_div_iff (by omega)).mpr (by omega)
    have m4 : y * 1 ≤ y * (x / y) := Nat.mul_le_mul_left y m3
    omega
  · have a := h.ev (by omega)
    have e2 : (i + 1) / 2 = i / 2 := by omega
    rw [e2]
    exact ⟨a, Nat.mod_lt _ (by omega)⟩
theorem GcdAt.done {g n x y : Nat} (h : GcdAt g n (2 * n + 2) x y) : x = g := by
  have a := h.ev (by omega)
  have e : n - (2 * n + 2) / 2 = 0 := by omega
  rw [e] at a
  have : y = 0 := by omega
  rw [this] at h
  have := h.gc
  rw [Nat.gcd_zero_right] at this; exact this
theorem GcdAt.over {g n x y : Nat} (h : GcdAt g n (2 * n + 1) x y) : False := by
  obtain ⟨a, b⟩ := h.od (by omega)
  have e : n - (2 * n + 1) / 2 = 0 := by omega
  rw [e] at a
  omega
theorem GcdAt.ret {g n i x : Nat} (h : GcdAt g n i x 0) : x = g := by
  have := h.gc
  rw [Nat.gcd_zero_right] at this; exact this
end JP
namespace JP
/-! polynomials as lists of pairs of a shift and a coefficient -/
abbrev Pr := Int × Int
/-- the coefficient at a shift -/
def cf : List Pr → Int → Int
  | [], _ => 0
  | p :: r, s => (if p.1 = s then p.2 else 0) + cf r s
theorem cf_append (a b : List Pr) (s : Int) : cf (a ++ b) s = cf a s + cf b s := by
  induction a with
  | nil => simp [cf]
  | cons p r ih => simp only [List.cons_append, cf, ih]; omega
theorem cf_one (s c t : Int) : cf [(s, c)] t = if s = t then c else 0 := by simp [cf]
def Asc (R : List Pr) : Prop := R.Pairwise fun a b => a.1 < b.1
/-- the polynomial with the coefficients f: ascending, no coefficient 0 -/
structure IsP (f : Int → Int) (R : List Pr) : Prop where
  asc : Asc R
  nz : ∀ p ∈ R, p.2 ≠ 0
  cfs : ∀ s, cf R s = f s
theorem cf_out {R : List Pr} {s : Int} (h : ∀ p ∈ R, p.1 ≠ s) : cf R s = 0 := by
  induction R with
  | nil => rfl
  | cons p r ih =>
    have h1 := h p List.mem_cons_self
    show (if p.1 = s then p.2 else 0) + cf r s = 0
    rw [if_neg h1, ih fun q hq => h q (List.mem_cons_of_mem _ hq)]
    rfl
theorem cf_in {R : List Pr} (a : Asc R) {p : Pr} (h : p ∈ R) : cf R p.1 = p.2 := by
  induction R with
  | nil => cases h
  | cons q r ih =>
    obtain ⟨a1, a2⟩ := List.pairwise_cons.mp a
    rcases List.mem_cons.mp h with rfl | h
    · show (if p.1 = p.1 then p.2 else 0) + cf r p.1 = p.2
      rw [if_pos rfl, cf_out fun q hq => by have := a1 q hq; omega]
      omega
    · have := a1 p h
      show (if q.1 = p.1 then q.2 else 0) + cf r p.1 = p.2
      rw [if_neg (by omega), ih a2 h]
      omega
theorem IsP.mem {f : Int → Int} {R : List Pr} (i : IsP f R) (p : Pr) : p ∈ R ↔ p.2 = f p.1 ∧ p.2 ≠ 0 := by
  constructor
  · intro h
    exact ⟨by rw [← i.cfs, cf_in i.asc h], i.nz p h⟩
  · rintro ⟨h1, h2⟩
    by_cases e : ∃ q ∈ R, q.1 = p.1
    · obtain ⟨q, hq, e⟩ := e
      have z := cf_in i.asc hq
      rw [i.cfs, e, ← h1] at z
      have : q = p := Prod.ext e z.symm
      exact this ▸ hq
    · have : cf R p.1 = 0 := cf_out fun q hq z => e ⟨q, hq, z⟩
      rw [i.cfs, ← h1] at this
      exact absurd this h2
theorem asc_ext : ∀ {R S : List Pr}, Asc R → Asc S → (∀ p, p ∈ R ↔ p ∈ S) → R = S
  | [], [], _, _, _ => rfl
  | [], q :: S, _, _, h => by have := (h q).mpr List.mem_cons_self; cases this
  | p :: R, [], _, _, h => by have := (h p).mp List.mem_cons_self; cases this
  | p :: R, q :: S, a, b, h => by
    obtain ⟨a1, a2⟩ := List.pairwise_cons.mp a
    obtain ⟨b1, b2⟩ := List.pairwise_cons.mp b
    have e : p = q := by
      rcases List.mem_cons.mp ((h p).mp List.mem_cons_self) with e | h1
      · exact e
      · rcases List.mem_cons.mp ((h q).mpr List.mem_cons_self) with e | h2
        · exact e.symm
        · have := b1 p h1
          have := a1 q h2
          omega
    subst e
    rw [asc_ext a2 b2 fun r => ?_]
    constructor
    · intro hr
      rcases List.mem_cons.mp ((h r).mp (List.mem_cons_of_mem _ hr)) with e | h1
      · have := a1 r hr
        rw [e] at this
        omega
      · exact h1
    · intro hr
      rcases List.mem_cons.mp ((h r).mpr (List.mem_cons_of_mem _ hr)) with e | h1
      · have := b1 r hr
        rw [e] at this
        omega
      · exact h1
theorem IsP.uniq {f : Int → Int} {R S : List Pr} (a : IsP f R) (b : IsP f S) : R = S := asc_ext a.asc b.asc fun p => by rw [a.mem, b.mem]
theorem IsP.uniq' {f g : Int → Int} {R S : List Pr} (a : IsP f R) (b : IsP g S) (e : ∀ s, f s = g s) : R = S := a.uniq (by have : f = g := funext e; rw [this]; exact b)
theorem IsP.self {f : Int → Int} {R : List Pr} (a : IsP f R) : IsP (cf R) R := ⟨a.asc, a.nz, fun _ => rfl⟩
/-! weights: the sum of the sizes of the coefficients -/
def wt : List Pr → Nat
  | [] => 0
  | p :: r => p.2.natAbs + wt r
theorem wt_append (a b : List Pr) : wt (a ++ b) = wt a + wt b := by
  induction a with
  | nil => simp [wt]
  | cons p r ih => simp only [List.cons_append, wt, ih]; omega
theorem cf_wt (ps : List Pr) (s : Int) : (cf ps s).natAbs ≤ wt ps := by
  induction ps with
  | nil => exact Nat.le_refl _
  | cons p r ih => simp only [cf, wt]; split <;> omega
/-- the sum of the sizes of f at different shifts -/
def wts (f : Int → Int) : List Int → Nat
  | [] => 0
  | s :: r => (f s).natAbs + wts f r
theorem wts_le (ps : List Pr) (ss : List Int) (h : ss.Nodup) : wts (cf ps) ss ≤ wt ps := by
  induction ps with
  | nil =>
    induction ss with
    | nil => exact Nat.le_refl _
    | cons s r ih => obtain ⟨_, h2⟩ := List.nodup_cons.mp h; have := ih h2; simp only [wts, cf, wt] at *; omega
  | cons p r ih =>
    have key : ∀ ss : List Int, ss.Nodup → wts (cf (p :: r)) ss ≤ (if p.1 ∈ ss then p.2.natAbs else 0) + wts (cf r) ss := by
      intro ss
      induction ss with
      | nil => intro _; exact Nat.zero_le _
      | cons s q ih2 =>
        intro h
        obtain ⟨h1, h2⟩ := List.nodup_cons.mp h
        have := ih2 h2
        have e0 : cf (p :: r) s = (if p.1 = s then p.2 else 0) + cf r s := rfl
        show (cf (p :: r) s).natAbs + wts (cf (p :: r)) q ≤ _
        have w0 : wts (cf r) (s :: q) = (cf r s).natAbs + wts (cf r) q := rfl
        rw [w0, e0]
        by_cases e : p.1 = s
        · have n1 : p.1 ∉ q := e ▸ h1
          rw [if_neg n1] at this
          rw [if_pos e, if_pos (e ▸ List.mem_cons_self)]
          omega
        · rw [if_neg e]
          by_cases m : p.1 ∈ q
          · rw [if_pos m] at this
            rw [if_pos (List.mem_cons_of_mem _ m)]
            omega
          · rw [if_neg m] at this
            rw [if_neg (by simp only [List.mem_cons, not_or]; exact ⟨e, m⟩)]
            omega
    have := key ss h
    have := ih
    simp only [wt]
    split at * <;> omega
theorem asc_nodup {R : List Pr} (a : Asc R) : (R.map (·.1)).Nodup := by
  rw [List.nodup_iff_pairwise_ne, List.pairwise_map]
  exact a.imp fun h => by omega
theorem wt_map {f : Int → Int} : ∀ {R : List Pr}, (∀ p ∈ R, p.2 = f p.1) → wt R = wts f (R.map (·.1))
  | [], _ => rfl
  | p :: r, h => by
    have := wt_map (R := r) fun q hq => h q (List.mem_cons_of_mem _ hq)
    have e := h p List.mem_cons_self
    simp only [wt, List.map_cons, wts]
    omega
theorem IsP.wt_le {ps R : List Pr} (i : IsP (cf ps) R) : wt R ≤ wt ps := by
  rw [wt_map (f := cf ps) fun p hp => ((i.mem p).mp hp).1]
  exact wts_le ps _ (asc_nodup i.asc)
theorem wt_in {R : List Pr} {p : Pr} (h : p ∈ R) : p.2.natAbs ≤ wt R := by
  induction R with
  | nil => cases h
  | cons q r ih =>
    simp only [wt]
    rcases List.mem_cons.mp h with rfl | h
    · omega
    · have := ih h; omega
/-! products -/
def prd (p q : List Pr) : List Pr := p.flatMap fun a => q.map fun b => (a.1 + b.1, a.2 * b.2)
theorem cf_row (a : Pr) (q : List Pr) (s : Int) : cf (q.map fun b => (a.1 + b.1, a.2 * b.2)) s = a.2 * cf q (s - a.1) := by
  induction q with
  | nil => simp [cf]
  | cons b r ih =>
    simp only [List.map_cons, cf, ih, Int.mul_add]
    by_cases e : a.1 + b.1 = s
    · rw [if_pos e, if_pos (by omega)]
    · rw [if_neg e, if_neg (by omega)]
      simp
theorem cf_prd_cons (a : Pr) (p q : List Pr) (s : Int) : cf (prd (a :: p) q) s = a.2 * cf q (s - a.1) + cf (prd p q) s := by
  show cf ((q.map fun b => (a.1 + b.1, a.2 * b.2)) ++ prd p q) s = _
  rw [cf_append, cf_row]
theorem prd_right {q q' : List Pr} (h : ∀ s, cf q s = cf q' s) (p : List Pr) (s : Int) : cf (prd p q) s = cf (prd p q') s := by
  induction p with
  | nil => rfl
  | cons a r ih => rw [cf_prd_cons, cf_prd_cons, h, ih]
theorem cf_prd_nil (p : List Pr) (s : Int) : cf (prd p []) s = 0 := by
  induction p with
  | nil => rfl
  | cons a r ih => rw [cf_prd_cons, ih]; simp [cf]
theorem cf_prd_cons' (p : List Pr) (b : Pr) (q : List Pr) (s : Int) : cf (prd p (b :: q)) s = b.2 * cf p (s - b.1) + cf (prd p q) s := by
  induction p with
  | nil => simp [prd, cf]
  | cons a r ih =>
    rw [cf_prd_cons, cf_prd_cons, ih]
    simp only [cf, Int.mul_add]
    have e : (a.1 = s - b.1) ↔ (b.1 = s - a.1) := by omega
    by_cases h : a.1 = s - b.1
    · rw [if_pos h, if_pos (e.mp h), Int.mul_comm a.2 b.2]
      omega
    · rw [if_neg h, if_neg (fun z => h (e.mpr z))]
      simp only [Int.mul_zero]
      omega
theorem prd_comm (p q : List Pr) (s : Int) : cf (prd p q) s = cf (prd q p) s := by
  induction p with
  | nil => rw [cf_prd_nil]; rfl
  | cons a r ih => rw [cf_prd_cons, cf_prd_cons', ih]
theorem prd_left {p p' : List Pr} (h : ∀ s, cf p s = cf p' s) (q : List Pr) (s : Int) : cf (prd p q) s = cf (prd p' q) s := by
  rw [prd_comm, prd_right h, prd_comm]
theorem prd_both {p p' q q' : List Pr} (h : ∀ s, cf p s = cf p' s) (h' : ∀ s, cf q s = cf q' s) (s : Int) : cf (prd p q) s = cf (prd p' q') s := by
  rw [prd_left h, prd_right h']
theorem wt_row (a : Pr) (q : List Pr) : wt (q.map fun b => (a.1 + b.1, a.2 * b.2)) = a.2.natAbs * wt q := by
  induction q with
  | nil => rfl
  | cons b r ih => simp only [List.map_cons, wt, ih, Int.natAbs_mul, Nat.mul_add]
theorem wt_prd (p q : List Pr) : wt (prd p q) = wt p * wt q := by
  induction p with
  | nil => simp [prd, wt]
  | cons a r ih =>
    show wt ((q.map fun b => (a.1 + b.1, a.2 * b.2)) ++ prd r q) = _
    rw [wt_append, wt_row, ih, wt, Nat.add_mul]
theorem length_prd (p q : List Pr) : (prd p q).length = p.length * q.length := by
  induction p with
  | nil => simp [prd]
  | cons a r ih =>
    show ((q.map fun b => (a.1 + b.1, a.2 * b.2)) ++ prd r q).length = _
    rw [List.length_append, List.length_map, ih, List.length_cons, Nat.add_mul]
    omega
/-! the normal polynomial -/
def ggcd : List Pr → Nat → Nat
  | [], g => g
  | p :: r, g => ggcd r (Nat.gcd g p.2.natAbs)
theorem ggcd_dvd : ∀ (R : List Pr) (g : Nat), ggcd R g ∣ g ∧ ∀ p ∈ R, ggcd R g ∣ p.2.natAbs
  | [], g => ⟨Nat.dvd_refl _, fun _ h => by cases h⟩
  | q :: r, g => by
    obtain ⟨a, b⟩ := ggcd_dvd r (Nat.gcd g q.2.natAbs)
    refine ⟨Nat.dvd_trans a (Nat.gcd_dvd_left _ _), fun p hp => ?_⟩
    rcases List.mem_cons.mp hp with rfl | hp
    · exact Nat.dvd_trans a (Nat.gcd_dvd_right _ _)
    · exact b p hp
def npart (R : List Pr) : Int := if (R.getLastD (0, 0)).2 < 0 then -((ggcd R 0 : Nat) : Int) else ((ggcd R 0 : Nat) : Int)
/-- the normal polynomial of one in its form -/
def nrmP (R : List Pr) : List Pr := R.map fun p => (p.1 - (R.headD (0, 0)).1, p.2.fdiv (npart R))
theorem npart_dvd {R : List Pr} {p : Pr} (h : p ∈ R) : npart R ∣ p.2 := by
  have d : ((ggcd R 0 : Nat) : Int) ∣ p.2 := Int.ofNat_dvd_left.mpr ((ggcd_dvd R 0).2 p h)
  unfold npart
  split
  · exact Int.neg_dvd.mpr d
  · exact d
theorem npart_ne {R : List Pr} {p : Pr} (h : p ∈ R) (hz : p.2 ≠ 0) : npart R ≠ 0 := by
  intro e
  have := npart_dvd h
  rw [e] at this
  exact hz (Int.zero_dvd.mp this)
theorem npart_le {R : List Pr} {p : Pr} (h : p ∈ R) (hz : p.2 ≠ 0) : (npart R).natAbs ≤ p.2.natAbs := by
  exact Nat.le_of_dvd (by omega) (Int.natAbs_dvd_natAbs.mpr (npart_dvd h))
theorem nrmP_isP {f : Int → Int} {R : List Pr} (i : IsP f R) : IsP (cf (nrmP R)) (nrmP R) := by
  refine ⟨?_, ?_, fun _ => rfl⟩
  · unfold Asc nrmP
    rw [List.pairwise_map]
    exact i.asc.imp fun h => by dsimp only; omega
  · intro p hp
    obtain ⟨q, hq, rfl⟩ := List.mem_map.mp hp
    have hz := i.nz q hq
    have hn := npart_ne hq hz
    obtain ⟨k, hk⟩ := npart_dvd hq
    show q.2.fdiv (npart R) ≠ 0
    rw [Int.fdiv_eq_ediv_of_dvd ⟨k, hk⟩, hk, Int.mul_ediv_cancel_left _ hn]
    intro z
    rw [z, Int.mul_zero] at hk
    exact hz hk
theorem length_nrmP (R : List Pr) : (nrmP R).length = R.length := List.length_map ..
theorem nodup_le : ∀ {l m : List Int}, l.Nodup → (∀ x ∈ l, x ∈ m) → l.length ≤ m.length
  | [], _, _, _ => Nat.zero_le _
  | x :: l, m, h, s => by
    obtain ⟨h1, h2⟩ := List.nodup_cons.mp h
    have hx := s x List.mem_cons_self
    have := nodup_le (m := m.erase x) h2 fun y hy => (List.mem_erase_of_ne (fun z : y = x => h1 (by rw [← z]; exact hy))).mpr (s y (List.mem_cons_of_mem _ hy))
    rw [List.length_erase_of_mem hx] at this
    have := List.length_pos_of_mem hx
    show l.length + 1 ≤ _
    omega
theorem IsP.length_le {ps R : List Pr} (i : IsP (cf ps) R) : R.length ≤ ps.length := by
  have := nodup_le (m := ps.map (·.1)) (asc_nodup i.asc) fun x hx => by
    obtain ⟨p, hp, rfl⟩ := List.mem_map.mp hx
    refine Decidable.byContradiction fun z => ?_
    have h1 := (i.mem p).mp hp
    have : cf ps p.1 = 0 := cf_out fun q hq e => z (List.mem_map.mpr ⟨q, hq, e⟩)
    omega
  rw [List.length_map, List.length_map] at this
  exact this
end JP
set_option Elab.async false
set_option linter.all false
set_option maxRecDepth 100000
set_option maxHeartbeats 0
namespace JPH
open PySem PySem.Spec PyProof.Rows L2 He
/-- a fact about the written part -/
abbrev Fk := PySem.W.Frag → Bool
def obsF (fa : List Fk) (fn : List DefD) (K : PySem.W.Frag) : AlD := ((fa.all fun f => f K) && fn.all fun d => d.ok K, fn.map fun d => fnW K d.at_)
def SaysF (fa : List Fk) (fn : List DefD) (K : PySem.W.Frag) : Prop := obsF fa fn K = valD fn
def obsFG (n : Nat) (fa : List Fk) (fn : List DefD) (g : Addr → Option Obj) : AlD := obsF fa fn (frG g (asD g n))
def hookF (n : Nat) (fa : List Fk) (fn : List DefD) : PySem.W.Hook where
  α := AlD
  obs := fun s => obsFG n fa fn s.heap.get?
  val := fun _ => valD fn
  says := fun _ h => ∃ K : PySem.W.Frag, K.In h ∧ SaysF fa fn K
  of := fun _ _ e => ⟨_, frG_in, e⟩
  keeps := fun _ _ _ ⟨K, hK, c⟩ k => ⟨K, PySem.W.Frag.In.keeps hK k, c⟩
theorem obsFG_eq {n : Nat} {fa : List Fk} {fn : List DefD} {g : Addr → Option Obj} {s : Shared} (h : ∀ a, g a = s.heap.get? a) : obsFG n fa fn g = (hookF n fa fn).obs s := by
  have e : g = s.heap.get? := funext h
  rw [e] <;> rfl
section
variable {fa : List Fk} {fn : List DefD} {K : PySem.W.Frag}
theorem SaysF.all (c : SaysF fa fn K) {f : Fk} (h : f ∈ fa) : f K = true := by
  have c1 := (ba (show ((fa.all fun f => f K) && fn.all fun d => d.ok K) = true from congrArg (fun z : AlD => z.1) c)).1
  exact List.all_eq_true.mp c1 f h
theorem SaysF.fact (c : SaysF fa fn K) (i : Nat) {f : Fk} (h : fa[i]? = some f := by rfl) : f K = true := c.all (List.mem_of_getElem? h)
theorem SaysF.def_ (c : SaysF fa fn K) (i : Nat) {d : DefD} (h : fn[i]? = some d := by rfl) : ∃ fd, FunD K d.name d.qual d.params d.body d.scope (d.dvs K) (d.kws K) (fAd K d.at_) fd := by
  have c2 := (ba (show ((fa.all fun f => f K) && fn.all fun d => d.ok K) = true from congrArg (fun z : AlD => z.1) c)).2
  have e : fn.map (fun d => fnW K d.at_) = fn.map DefD.val := congrArg (fun z : AlD => z.2) c
  have e2 : (fn.map fun d => fnW K d.at_)[i]? = (fn.map DefD.val)[i]? := by rw [e]
  rw [List.getElem?_map, List.getElem?_map, h] at e2
  exact DefD.funD (Option.some.inj e2) (List.all_eq_true.mp c2 d (List.mem_of_getElem? h))
end
end JPH
set_option Elab.async false
set_option linter.all false
set_option maxRecDepth 100000
set_option maxHeartbeats 4000000
namespace JP
open PySem PySem.Spec PyProof.Rows L2
/-! ### what may leave a def: exceptions whose context is None -/
theorem passN {X : Cx} : Passes (L2N.CX X.prog X.w) X E0 := fun _ _ _ _ _ _ _ h => by
  obtain ⟨_, _, _, _, _, _, _, _, _, _, _, _, z⟩ := h
  exact z.elim
theorem cx_end {P : Program} {w : World} (H : Hp) (s : Shared) (e : Value) (s' : Shared) (h : L2N.CX P w [] H s (fun _ _ _ => False) e s') : False := by
  obtain ⟨_, _, _, _, _, _, _, _, _, _, _, _, z⟩ := h
  exact z
theorem takesN0 {X : Cx} : L2N.Takes X (fun _ _ _ _ => False) := fun _ _ x => by
  obtain ⟨_, _, _, _, _, _, _, _, _, _, _, _, _, _, _, _, z⟩ := x
  exact z.elim
theorem passAtN {X : Cx} {W : WX} (tk : L2N.Takes X W) (σ : L2.St) : PassesAt (L2N.CX X.prog X.w) X σ (WE W σ) := fun _ _ _ e s' I c => tk e s' (L2N.XE.of_call I (fun _ _ _ h => h) c)
theorem passesN {X : Cx} {K : Value → Shared → Prop} {E₁ : Value → Shared → Prop} (hx : X.xe = fun e s' => wpAny (model X.prog X.w) X.A (leaving X.env e) (fun _ s'' => K e s'') E₁ s') : PassesOwn (model X.prog X.w) X.A X.env X.xe := passes_of hx
section
variable {X : Cx}
/-- X(), an own exception class without own __init__ -/
theorem pmk_own0 {C : Addr} {bmB : List Value} {B newId initId : String} {x : Str} {p pos : Pos} (F : ExcBaseFacts B newId initId bmB) (q : PySem.W.excIn X.K C bmB newId = true) (gC : X.mg x = some (.ref C))
    (kC : PySem.W.keepIn X.K (.ref C) = true) (r : Raises X (.ref C)) (hg : Gl X x) (hdb : (x == ("__debug__" : Str)) = false := by decide) :
    L2N.PMk X (.Call (.Name x p) [] [] pos) (fun σ H Q => Q (.ref C) none H) := by
  intro pins s σ H Q I h
  refine wpAny_Call_Name_kw (ld_glob I hg gC ?_ hdb)
  refine PySem.W.callWith_K0 I.kIn kC ?_
  show wpAny _ _ (call (.ref C) []) _ _ _
  obtain ⟨bm, N, nm, qn, bs, hdct, sn, sub, ab, col, dd, k0, k1, k2, k3, k5, mN, hC, hN, hni, T⟩ := exc_obj I.kIn q
  refine wpAny_call_exc_subT F T hC hN hni (fun h' e hm => ?_) (Nat.zero_le _)
  exact L2N.mk_of I hm r h (I.hok.gone hm.new)
/-- // by any divisor but 0 below 2 ^ 9000 -/
def CDivG (_ j : Int) : Prop := j ≠ 0 ∧ j.natAbs.log2 < 9000
theorem op_fdivG : OpR X (binaryOp .FloorDiv) (rI CDivG fun i j => .int (i.fdiv j)) := opI fun _ _ _ _ _ _ _ hc q => floordiv_int hc.1 q (.inl (PyProof.noPylong_of_log2 hc.2))
/-- a for over a list or a tuple -/
def iSeq (K : PySem.W.Frag) (tl : TE) : TI := fun σ H R => tl σ H fun x H1 => ∃ a, x = .ref a ∧ (((∃ xs, SqL K H1 a xs) ∧ R (Itl K a) H1) ∨ ((∃ xs, SqT K H1 a xs) ∧ R (Itt K a) H1))
theorem pi_seq {tg l : Expr} {tl : TE} (hl : PE X l tl) : PI X tg l (iSeq X.K tl) := by
  refine ⟨fun pins s σ H R I h => ?_⟩
  refine thn (hl.run pins s σ H _ I h) fun v s1 ⟨x, H1, I1, r1, q1⟩ => ?_
  obtain ⟨a, e, ⟨⟨xs, hq⟩, q⟩ | ⟨⟨xs, hq⟩, q⟩⟩ := q1
  · subst e
    cases r1
    obtain ⟨its, rv, p, hz⟩ := I1.list hq
    refine wpAny_pyIter_list p.isList ?_
    refine ⟨s1.heap.objs.size, [s1.heap.objs.size], _, _, H1, rfl, I1.kept (t' := s1.toks) fun b o e => Heap.get?_push_of_some _ e, turn_list a _, ⟨_, Heap.get?_push_size _ rfl, rfl, rfl⟩, fun b hb => ?_, q⟩
    have e : b = s1.heap.objs.size := by simpa using hb
    subst e
    exact I1.fpOk (Nat.le_refl _) (I1.hok.fresh (Nat.le_refl _))
  · subst e
    cases r1
    obtain ⟨its, rv, p, hz⟩ := I1.tuple hq
    refine wpAny_pyIter_tuple (show s1.heap.IsTuple a its.toArray from p) ?_
    refine ⟨s1.heap.objs.size, [s1.heap.objs.size], _, _, H1, rfl, I1.kept (t' := s1.toks) fun b o e => Heap.get?_push_of_some _ e, turn_tuple a _, ⟨_, Heap.get?_push_size _ rfl, rfl, rfl⟩, fun b hb => ?_, q⟩
    have e : b = s1.heap.objs.size := by simpa using hb
    subst e
    exact I1.fpOk (Nat.le_refl _) (I1.hok.fresh (Nat.le_refl _))
/-- a, b, .. = a list or a tuple of that length -/
def Sq (K : PySem.W.Frag) (H : Hp) (a : Addr) (xs : List V) : Prop := SqL K H a xs ∨ SqT K H a xs
def gSeq (K : PySem.W.Frag) (n : Nat) (t : TGs) : TG := fun v σ H Q => ∃ a xs, v = .ref a ∧ Sq K H a xs ∧ xs.length = n ∧ t xs σ H Q
theorem pg_seq {es : List Expr} {k : Nat} {t : TGs} {n : Nat} {pos : Pos} (hc : X.calm = true) (h : PGs X es t)
    (hn : (assignEach es X.env).length = n := by rfl) (hst : (assignEach es X.env).findIdx? (·.1) = none := by rfl) : PG X (.Tuple es k pos) (gSeq X.K n t) := by
  refine ⟨fun pins s σ H v u Q I r hw => ?_⟩
  obtain ⟨a, xs, e1, hq | hq, hl, hw⟩ := hw
  · exact (pg_lst hc h hn hst).run pins s σ H v u Q I r ⟨a, xs, e1, hq, hl, hw⟩
  · exact (pg_tup hc h hn hst).run pins s σ H v u Q I r ⟨a, xs, e1, hq, hl, hw⟩
/-- isinstance(e, (c1, c2, ..)), e the exception that is pinned -/
def rIsET (K : PySem.W.Frag) (D a : Addr) : List V → Hp → VK → Prop := fun xs H Q => ∃ (tp : Addr) (cs : List V) (us : List Value) (b : Bool), xs = [.ref a, .ref tp] ∧ H tp = some (.tup cs) ∧ Paired ClsV cs us ∧ PySem.W.kitAny K (.ref D) us = some b ∧ Q (.bl b) H
theorem inst_pin {pins : List (Addr × Obj)} {σ : L2.St} {H : Hp} {s : Shared} {a D : Addr} {oe : Obj} {d : Option Addr} (I : Inv X pins σ H s) (hp : (a, oe) ∈ X.pn) (hz : Zc (.ref D) d oe) (hf : ∃ vs, oe.data = .fields vs) : ∃ od, oe.dict = d ∧ s.heap.get? a = some oe ∧ (d = none → PySem.W.InstAt s.heap a oe D none) ∧ od = d := by
  obtain ⟨hget, _⟩ := I.pin (a, oe) (List.mem_append.mpr (.inl hp))
  obtain ⟨vs, hv⟩ := hf
  refine ⟨d, hz.2, hget, fun hd => ?_, rfl⟩
  obtain ⟨oc, od, oda, osl⟩ := oe
  obtain ⟨h1, h2⟩ := hz
  dsimp only at h1 h2 hv
  subst h1 h2 hv hd
  exact ⟨hget, rfl, rfl, trivial⟩
theorem call_isEP {a D : Addr} {oe : Obj} (C : ExcC X.K D) (hp : (a, oe) ∈ X.pn) (hz : Zc (.ref D) none oe) (hf : ∃ vs, oe.data = .fields vs) : CallR X (.builtin "isinstance") (rIsE X.K D a) := by
  intro pins s σ H xs us Q I r h
  obtain ⟨c, cv, b, rfl, hcv, e, q⟩ := h
  obtain ⟨u1, u2, rfl, r1, r2⟩ := vals2 r
  cases (show u1 = Value.ref a from r1)
  have ec := hcv _ r2
  subst ec
  obtain ⟨od, _, _, J, _⟩ := inst_pin I hp hz hf
  exact PySem.W.kia_one (PySem.W.handS_kitx_exc C.hg C.hk C.hs C.hd C.ha C.hn C.ht C.hm) I.kIn (J rfl) e (fun z => nomatch z) fun tk => ⟨.bl b, H, I.kept (t' := tk) fun _ _ z => z, rfl, q⟩
theorem call_isET {a D : Addr} {oe : Obj} (C : ExcC X.K D) (hp : (a, oe) ∈ X.pn) (hz : Zc (.ref D) none oe) (hf : ∃ vs, oe.data = .fields vs) : CallR X (.builtin "isinstance") (rIsET X.K D a) := by
  intro pins s σ H xs us Q I r h
  obtain ⟨tp, cs, ws, b, rfl, hT, k, e, q⟩ := h
  obtain ⟨u1, u2, rfl, r1, r2⟩ := vals2 r
  cases (show u1 = Value.ref a from r1)
  cases (show u2 = Value.ref tp from r2)
  obtain ⟨od, _, _, J, _⟩ := inst_pin I hp hz hf
  obtain ⟨_, its, rv, o, h1, h2, n, h3⟩ := (show ObjOk X.prog X.w H s.heap tp (.tup cs) from I.hok tp _ hT)
  have e3 := ClsV.all k rv
  subst e3
  obtain ⟨oc, od, dt, sl⟩ := o
  simp only at h2 h3
  subst h2 h3
  exact PySem.W.kia_tup (PySem.W.handS_kitx_exc C.hg C.hk C.hs C.hd C.ha C.hn C.ht C.hm) I.kIn (J rfl) h1 e (fun z => nomatch z) fun tk => ⟨.bl b, H, I.tok tk, rfl, q⟩
end
/-! ### heaps -/
theorem Same.new {H : Hp} {p : Addr} {o : HO} (h : H p = none) : Same H (upd H p o) := fun a u e => by
  rw [upd_ne (ne_of_none e h)]
  exact e
/-- an object that H does not know may change -/
theorem Same.mut {H H' : Hp} {p : Addr} {o : HO} (e : Same H H') (h : H p = none) : Same H (upd H' p o) := fun a u ha => by
  rw [upd_ne (ne_of_none ha h)]
  exact e a u ha
theorem Same.rd {H H' : Hp} {a : Addr} {u : HO} (e : Same H H') (h : Rd H a u) : Rd H' a u := by
  rcases h with h | ⟨o, h⟩
  · exact Or.inl (e a _ h)
  · exact Or.inr ⟨o, e a _ h⟩
theorem Same.sl {K : PySem.W.Frag} {H H' : Hp} {a : Addr} {xs : List V} (e : Same H H') (h : SqL K H a xs) : SqL K H' a xs := by
  rcases h with h | h
  · exact Or.inl (Same.rd e h)
  · exact Or.inr h
theorem Same.st {K : PySem.W.Frag} {H H' : Hp} {a : Addr} {xs : List V} (e : Same H H') (h : SqT K H a xs) : SqT K H' a xs := by
  rcases h with h | h
  · exact Or.inl (Same.rd e h)
  · exact Or.inr h
theorem Same.sq {K : PySem.W.Frag} {H H' : Hp} {a : Addr} {xs : List V} (e : Same H H') (h : Sq K H a xs) : Sq K H' a xs := h.imp (Same.sl e) (Same.st e)
theorem Same.fresh {H H' : Hp} {p : Addr} (e : Same H H') (h : H' p = none) : H p = none := e.free h
mutual
theorem Same.dp {K : PySem.W.Frag} {H H' : Hp} (e : Same H H') : ∀ {d : PyData} {v : V}, Dp K H v d → Dp K H' v d
  | .none, _, h => by cases h; exact .non
  | .bool b, _, h => by cases h; exact .bl b
  | .int i, _, h => by cases h; exact .int i
  | .str x, _, h => by cases h; exact .str x
  | .list ds, _, h => by
    cases h with
    | lst hs ha => exact .lst (Same.sl e hs) (Same.dpa e ha)
  | .tuple ds, _, h => by
    cases h with
    | tup hs ha => exact .tup (Same.st e hs) (Same.dpa e ha)
  | .dict _, _, h => by cases h
theorem Same.dpa {K : PySem.W.Frag} {H H' : Hp} (e : Same H H') : ∀ {ds : List PyData} {vs : List V}, DpAll K H vs ds → DpAll K H' vs ds
  | [], _, h => by cases h; exact .nil
  | d :: ds, _, h => by
    cases h with
    | cons h1 h2 => exact .cons (Same.dp e h1) (Same.dpa e h2)
end
/-! ### readings by steps -/
section
variable {σ : L2.St} {H : Hp} {D : Ends} {K : PySem.W.Frag}
theorem w_seq {t u : TS} (q : t { D with nx := u D } σ H) : tSeq t u D σ H := q
theorem w_next (q : D.nx σ H) : tNext D σ H := q
theorem w_asg {te : TE} {g : TG} (q : te σ H fun x H1 => g x σ H1 D.nx) : tAsg te g D σ H := q
theorem w_name {i : Nat} {v : V} {Q : L2.St → Hp → Prop} (q : Q (σ.set i (some v)) H) : gName i v σ H Q := q
theorem w_drop {te : TE} (q : te σ H fun _ H1 => D.nx σ H1) : tDrop te D σ H := q
theorem w_ret {te : TE} (q : te σ H D.rt) : tRet te D σ H := q
theorem w_retN (q : D.rt .non H) : tRetN D σ H := q
theorem w_if {c : TT} {t u : TS} (q : c σ H fun b H1 => if b = true then t D σ H1 else u D σ H1) : tIfS c t u D σ H := q
theorem w_brk (q : D.bk σ H) : tBreak D σ H := q
theorem w_cont (q : D.ct σ H) : tCont D σ H := q
theorem w_var {i : Nat} {Q : VK} (v : V) (h : σ[i]? = some (some v)) (q : Q v H) : tVar i σ H Q := ⟨v, h, q⟩
theorem w_c {v : V} {Q : VK} (q : Q v H) : tC v σ H Q := q
theorem w_op {r : R2} {ta tb : TE} {Q : VK} (q : ta σ H fun x H1 => tb σ H1 fun y H2 => r x y H2 Q) : tOp r ta tb σ H Q := q
theorem w_un {r : V → Hp → VK → Prop} {ta : TE} {Q : VK} (q : ta σ H fun x H1 => r x H1 Q) : tUn r ta σ H Q := q
theorem w_cb {r : List V → Hp → VK → Prop} {ta : TA} {Q : VK} (q : ta σ H fun vs H1 => r vs H1 Q) : tCB r ta σ H Q := q
theorem w_nil {Q : List V → Hp → Prop} (q : Q [] H) : tNil σ H Q := q
theorem w_cons {te : TE} {tr : TA} {Q : List V → Hp → Prop} (q : te σ H fun x H1 => tr σ H1 fun xs H2 => Q (x :: xs) H2) : tCons te tr σ H Q := q
end
/-! ### new objects, told without their place -/
section
variable {X : Cx} {e a b : Expr} {es : List Expr} {t : TA} {ta tb te : TE} {pos : Pos}
def tTupA (t : TA) : TE := fun σ H Q => t σ H fun xs H1 => xs.length ≤ sizeLine ∧ ∀ p H2, H1 p = none → Same H1 H2 → H2 p = some (.tup xs) → Q (.ref p) H2
def tLstA (t : TA) : TE := fun σ H Q => t σ H fun xs H1 => xs.length ≤ sizeLine ∧ ∀ p H2, H1 p = none → Same H1 H2 → H2 p = some (.lst xs) → Q (.ref p) H2
theorem pe_tupA {x1 : Nat} (h : PA X es t) : PE X (.Tuple es x1 pos) (tTupA t) := by
  refine ⟨fun pins s σ H Q I hq => ?_⟩
  refine wpAny_Tuple_spliced (thn (h.run pos pins s σ H _ I hq) fun us s1 ⟨xs, H1, I1, r, z, q⟩ => ⟨by rw [← r.length]; exact z, ?_⟩)
  have hf : H1 s1.heap.objs.size = none := I1.hok.fresh (Nat.le_refl _)
  refine ⟨.ref s1.heap.objs.size, upd H1 s1.heap.objs.size (.tup xs), I1.laid (t' := s1.toks) (fun b u e => Heap.get?_push_of_some _ e) (Nat.le_refl _) ?_, rfl, q _ _ hf (Same.new hf) upd_same⟩
  exact ⟨z, us, r, ⟨_, Heap.get?_push_size _ rfl, rfl, _, rfl⟩⟩
theorem pe_lstA (h : PA X es t) : PE X (.List es pos) (tLstA t) := by
  refine ⟨fun pins s σ H Q I hq => ?_⟩
  refine wpAny_List_spliced (thn (h.run pos pins s σ H _ I hq) fun us s1 ⟨xs, H1, I1, r, z, q⟩ => ⟨by rw [← r.length]; exact z, ?_⟩)
  have hf : H1 s1.heap.objs.size = none := I1.hok.fresh (Nat.le_refl _)
  refine ⟨.ref s1.heap.objs.size, upd H1 s1.heap.objs.size (.lst xs), I1.laid (t' := s1.toks) (fun b u e => Heap.get?_push_of_some _ e) (Nat.le_refl _) ?_, rfl, q _ _ hf (Same.new hf) upd_same⟩
  exact ⟨z, us, 0, r, Heap.get?_push_size _ rfl⟩
theorem CallR.imp {f : Value} {r r' : List V → Hp → VK → Prop} (h : CallR X f r) (i : ∀ xs H Q, r' xs H Q → r xs H Q) : CallR X f r' := fun pins s σ H xs us Q I rs q => h pins s σ H xs us Q I rs (i _ _ _ q)
theorem OpR.imp {f : Value → Value → Sem Value} {r r' : R2} (h : OpR X f r) (i : ∀ x y H Q, r' x y H Q → r x y H Q) : OpR X f r' := fun pins s σ H x y v u Q I rx ry q => h pins s σ H x y v u Q I rx ry (i _ _ _ _ q)
theorem MtR.imp {id : String} {r r' : V → List V → Hp → VK → Prop} (h : MtR X id r) (i : ∀ x xs H Q, r' x xs H Q → r x xs H Q) : MtR X id r' := fun pins s σ H x xs v us Q I rx rs q => h pins s σ H x xs v us Q I rx rs (i _ _ _ _ q)
theorem SlR.imp {r r' : V → Option Int → Option Int → Hp → VK → Prop} (h : SlR X r) (i : ∀ x lo hi H Q, r' x lo hi H Q → r x lo hi H Q) : SlR X r' := by
  unfold SlR at *
  intros
  exact h _ _ _ _ _ _ _ _ _ _ _ _ (by assumption) (by assumption) (by assumption) (by assumption) (by assumption) (i _ _ _ _ _ (by assumption))
/-- all but the object at l stands -/
def But (l : Addr) (H H2 : Hp) : Prop := ∀ b, b ≠ l → H2 b = H b
theorem But.same {l : Addr} {H0 H H2 : Hp} (c : But l H H2) (e : Same H0 H) (h : H0 l = none) : Same H0 H2 := fun a u ha => by
  rw [c a (ne_of_none ha h)]
  exact e a u ha
theorem But.st {K : PySem.W.Frag} {l p : Addr} {H H2 : Hp} {xs : List V} {o : HO} (c : But l H H2) (hl : H l = some o) (ho : Mut (some o)) (h : SqT K H p xs) : SqT K H2 p xs := by
  rcases h with (h | ⟨ob, h⟩) | h
  · refine .inl (.inl ?_)
    rw [c p (fun z => by rw [z, hl] at h; cases h; exact ho)]
    exact h
  · refine .inl (.inr ⟨ob, ?_⟩)
    rw [c p (fun z => by rw [z, hl] at h; cases h; exact ho)]
    exact h
  · exact .inr h
theorem But.sl {K : PySem.W.Frag} {l p : Addr} {H H2 : Hp} {xs : List V} (c : But l H H2) (hn : p ≠ l) (h : SqL K H p xs) : SqL K H2 p xs := by
  rcases h with (h | ⟨ob, h⟩) | h
  · exact .inl (.inl (by rw [c p hn]; exact h))
  · exact .inl (.inr ⟨ob, by rw [c p hn]; exact h⟩)
  · exact .inr h
def rAppendA : V → List V → Hp → VK → Prop := fun x vs H Q => ∃ l xs y, x = .ref l ∧ vs = [y] ∧ H l = some (.lst xs) ∧ xs.length < sizeLine ∧ ∀ H2, But l H H2 → H2 l = some (.lst (xs ++ [y])) → Q .non H2
theorem but_upd {l : Addr} {H : Hp} {o : HO} : But l H (upd H l o) := fun _ hb => upd_ne hb
theorem mt_appendA : MtR X "list.append" rAppendA := MtR.imp mt_append fun _ _ _ _ ⟨l, xs, y, h1, h2, h3, h4, q⟩ => ⟨l, xs, y, h1, h2, h3, h4, q _ but_upd upd_same⟩
/-- + of ints, texts, lists, tuples -/
def rCatL (K : PySem.W.Frag) : R2 := fun x y H Q => ∃ a b xs ys, x = .ref a ∧ y = .ref b ∧ H a = some (.lst xs) ∧ H b = some (.lst ys) ∧ xs.length + ys.length ≤ sizeLine ∧ ∀ p H2, H p = none → Same H H2 → H2 p = some (.lst (xs ++ ys)) → Q (.ref p) H2
def rAddA (K : PySem.W.Frag) : R2 := fun x y H Q => (rI0 fun i j => .int (i + j)) x y H Q ∨ (∃ i j, x = .str i ∧ y = .str j ∧ i.length + j.length ≤ sizeLine ∧ Q (.str (i ++ j)) H) ∨ rCatL K x y H Q
theorem op_addA : OpR X (binaryOp .Add) (rAddA X.K) := op_add.or (op_add_str.or (OpR.imp op_cat fun _ _ _ _ ⟨a, b, xs, ys, h1, h2, h3, h4, h5, q⟩ => ⟨a, b, xs, ys, h1, h2, h3, h4, h5, fun p hp => q p _ hp (Same.new hp) upd_same⟩))
def rEqA (K : PySem.W.Frag) : R2 := fun x y H Q => rEq x y H Q ∨ rEqD K x y H Q
def rNeA (K : PySem.W.Frag) : R2 := fun x y H Q => rNe x y H Q ∨ rNeD K x y H Q
theorem op_eqA (hu : X.A.units + 64 < cLine) : OpR X (compareOp .Eq) (rEqA X.K) := op_eq.or (op_eqD hu)
theorem op_neA (hu : X.A.units + 64 < cLine) : OpR X (compareOp .NotEq) (rNeA X.K) := op_ne.or (op_neD hu)
def rIsA (K : PySem.W.Frag) : List V → Hp → VK → Prop := fun xs H Q => rIsi K xs H Q ∨ rIsiT K xs H Q
theorem call_isA : CallR X (.builtin "isinstance") (rIsA X.K) := call_isi.or call_isiT
def rLen (K : PySem.W.Frag) : List V → Hp → VK → Prop := fun xs H Q => ∃ x n, xs = [x] ∧ LenV K x H n ∧ Q (.int (n : Int)) H
theorem call_lenA : CallR X (.builtin "len") (rLen X.K) := call_len
def rInt : List V → Hp → VK → Prop := fun xs H Q => (∃ i, xs = [.int i] ∧ Q (.int i) H) ∨ ∃ k, xs = [.bl k] ∧ Q (.int (if k then 1 else 0)) H
theorem call_intA : CallR X (.type "int") rInt := call_int1
def rAbs : List V → Hp → VK → Prop := fun xs H Q => ∃ i, xs = [.int i] ∧ Q (.int (if i < 0 then -i else i)) H
theorem call_absA : CallR X (.builtin "abs") rAbs := call_abs
def rListA (K : PySem.W.Frag) : List V → Hp → VK → Prop := fun xs H Q => ∃ p ys, xs = [.ref p] ∧ Sq K H p ys ∧ ∀ l H2, H l = none → Same H H2 → H2 l = some (.lst ys) → Q (.ref l) H2
theorem call_listA : CallR X (.type "list") (rListA X.K) := CallR.imp call_list_of fun _ _ _ ⟨p, ys, h1, h2, q⟩ => ⟨p, ys, h1, h2, fun l hl => q l _ hl (Same.new hl) upd_same⟩
def rTupleA (K : PySem.W.Frag) : List V → Hp → VK → Prop := fun xs H Q => ∃ p ys, xs = [.ref p] ∧ Sq K H p ys ∧ ∀ l H2, Same H H2 → SqT K H2 l ys → Q (.ref l) H2
theorem call_tupleA : CallR X (.type "tuple") (rTupleA X.K) := CallR.imp call_tuple_of fun _ _ _ ⟨p, ys, h1, h2, q⟩ => ⟨p, ys, h1, h2.elim (fun h => .inl ⟨h, fun l hl => q l _ (Same.new hl) (SqT.of upd_same)⟩) fun h => .inr ⟨h, q p _ (Same.refl _) h⟩⟩
/-- xs[lo:hi] of a list, a tuple, a text -/
def rSlQ (K : PySem.W.Frag) : V → Option Int → Option Int → Hp → VK → Prop := fun x lo hi H Q => ∃ a xs, x = .ref a ∧ SqL K H a xs ∧ ∀ p H2, H p = none → Same H H2 → H2 p = some (.lst (cutV xs lo hi)) → Q (.ref p) H2
theorem sl_listA : SlR X (rSlQ X.K) := SlR.imp sl_list fun _ _ _ _ _ ⟨a, xs, h1, h2, q⟩ => ⟨a, xs, h1, h2, fun p hp => q p _ hp (Same.new hp) upd_same⟩
end
/-! ### more steps -/
section
variable {σ : L2.St} {H : Hp} {D : Ends} {K : PySem.W.Frag} {Q : VK} {p : Addr} {xs : List V}
theorem w_tup {ta : TA} (q : ta σ H fun xs H1 => xs.length ≤ sizeLine ∧ ∀ p H2, H1 p = none → Same H1 H2 → H2 p = some (.tup xs) → Q (.ref p) H2) : tTupA ta σ H Q := q
theorem w_lst {ta : TA} (q : ta σ H fun xs H1 => xs.length ≤ sizeLine ∧ ∀ p H2, H1 p = none → Same H1 H2 → H2 p = some (.lst xs) → Q (.ref p) H2) : tLstA ta σ H Q := q
theorem w_test {te : TE} {Q : Bool → Hp → Prop} (q : te σ H fun x H1 => ∃ k, x = .bl k ∧ Q k H1) : tTest te σ H Q := q
theorem w_B {te : TE} {Q : Bool → Hp → Prop} (q : te σ H fun x H1 => ∃ k, x = .bl k ∧ Q k H1) : tB te σ H Q := q
theorem w_bl {b : Bool} {Q : Bool → Prop} (q : Q b) : ∃ k, V.bl b = .bl k ∧ Q k := ⟨b, rfl, q⟩
theorem w_and {t u : TT} {Q : Bool → Hp → Prop} (q : t σ H fun c H1 => if c = true then u σ H1 Q else Q false H1) : tAnd t u σ H Q := q
theorem w_or {t u : TT} {Q : Bool → Hp → Prop} (q : t σ H fun c H1 => if c = true then Q true H1 else u σ H1 Q) : tOr t u σ H Q := q
theorem w_not {t : TT} {Q : Bool → Hp → Prop} (q : t σ H fun c H1 => Q (!c) H1) : tNot t σ H Q := q
theorem w_andV {ta tb : TE} (q : ta σ H fun x H1 => ∃ c, x = .bl c ∧ if c = true then tb σ H1 Q else Q (.bl false) H1) : tAndV ta tb σ H Q := q
theorem w_orV {ta tb : TE} (q : ta σ H fun x H1 => ∃ c, x = .bl c ∧ if c = true then Q (.bl true) H1 else tb σ H1 Q) : tOrV ta tb σ H Q := q
theorem w_notV {ta : TE} (q : ta σ H fun x H1 => ∃ c, x = .bl c ∧ Q (.bl (!c)) H1) : tNotV ta σ H Q := q
theorem w_ifE {t : TT} {ta tb : TE} (q : t σ H fun c H1 => if c = true then ta σ H1 Q else tb σ H1 Q) : tIf t ta tb σ H Q := q
theorem w_call {sp : Sp} {dvs : List V} {E : XK} {t : TA} (q : t σ H fun vs H1 => sp (vs ++ dvs) H1 Q E) : tCall sp dvs E t σ H Q := q
theorem w_bm {T : String} {r : V → List V → Hp → VK → Prop} {to : TE} {t : TA} (q : to σ H fun x H1 => tyV K T x H1 ∧ t σ H1 fun xs H2 => r x xs H2 Q) : tBM K T r to t σ H Q := q
theorem w_bm0 {T : String} {r : V → List V → Hp → VK → Prop} {to : TE} (q : to σ H fun x H1 => tyV K T x H1 ∧ r x [] H1 Q) : tBM0 K T r to σ H Q := q
theorem w_bits {to : TE} (q : to σ H fun x H1 => ∃ i, x = .int i ∧ Q (.int (Builtin.Int.intBits i : Nat)) H1) : tBits to σ H Q := q
theorem w_I0 {g : Int → Int → V} {i j : Int} (q : Q (g i j) H) : rI0 g (.int i) (.int j) H Q := ⟨i, j, rfl, rfl, q⟩
theorem w_I {C : Int → Int → Prop} {g : Int → Int → V} {i j : Int} (c : C i j) (q : Q (g i j) H) : rI C g (.int i) (.int j) H Q := ⟨i, j, rfl, rfl, c, q⟩
theorem w_U {g : Int → V} {i : Int} (q : Q (g i) H) : rU g (.int i) H Q := ⟨i, rfl, q⟩
theorem w_add {i j : Int} (q : Q (.int (i + j)) H) : rAddA K (.int i) (.int j) H Q := .inl ⟨i, j, rfl, rfl, q⟩
theorem w_addS {i j : Str} (c : i.length + j.length ≤ sizeLine) (q : Q (.str (i ++ j)) H) : rAddA K (.str i) (.str j) H Q := .inr (.inl ⟨i, j, rfl, rfl, c, q⟩)
theorem w_addL {a b : Addr} {xs ys : List V} (h1 : H a = some (.lst xs)) (h2 : H b = some (.lst ys)) (c : xs.length + ys.length ≤ sizeLine) (q : ∀ p H2, H p = none → Same H H2 → H2 p = some (.lst (xs ++ ys)) → Q (.ref p) H2) : rAddA K (.ref a) (.ref b) H Q := .inr (.inr ⟨a, b, xs, ys, rfl, rfl, h1, h2, c, q⟩)
theorem dec_i {i j : Int} : decide (V.int i = V.int j) = decide (i = j) := by
  by_cases h : i = j
  · rw [h, decide_eq_true rfl, decide_eq_true rfl]
  · rw [decide_eq_false h, decide_eq_false fun z => h (V.int.inj z)]
theorem dec_s {i j : Str} : decide (V.str i = V.str j) = decide (i = j) := by
  by_cases h : i = j
  · rw [h, decide_eq_true rfl, decide_eq_true rfl]
  · rw [decide_eq_false h, decide_eq_false fun z => h (V.str.inj z)]
theorem w_eqI {i j : Int} (q : Q (.bl (decide (i = j))) H) : rEqA K (.int i) (.int j) H Q := .inl ⟨rfl, by rw [dec_i]; exact q⟩
theorem w_neI {i j : Int} (q : Q (.bl (!decide (i = j))) H) : rNeA K (.int i) (.int j) H Q := .inl ⟨rfl, by rw [dec_i]; exact q⟩
theorem w_eqS {i j : Str} (q : Q (.bl (decide (i = j))) H) : rEqA K (.str i) (.str j) H Q := .inl ⟨rfl, by rw [dec_s]; exact q⟩
theorem w_neS {i j : Str} (q : Q (.bl (!decide (i = j))) H) : rNeA K (.str i) (.str j) H Q := .inl ⟨rfl, by rw [dec_s]; exact q⟩
theorem w_eqD {x y : V} {d e : PyData} (h1 : Dp K H x d) (h2 : Dp K H y e) (s1 : SeqAt.shaped d = true) (s2 : SeqAt.shaped e = true) (q : Q (.bl (PyData.eqv d e)) H) : rEqA K x y H Q := .inr ⟨d, e, h1, h2, s1, s2, q⟩
theorem w_neD {x y : V} {d e : PyData} (h1 : Dp K H x d) (h2 : Dp K H y e) (s1 : SeqAt.shaped d = true) (s2 : SeqAt.shaped e = true) (q : Q (.bl (!PyData.eqv d e)) H) : rNeA K x y H Q := .inr ⟨d, e, h1, h2, s1, s2, q⟩
theorem w_ix {i : Int} {v : V} (h : Sq K H p xs) (ha : atI xs i = some v) (q : Q v H) : rIx K (.ref p) (.int i) H Q := h.elim (fun h => .inl ⟨p, xs, i, v, rfl, rfl, h, ha, q⟩) fun h => .inr (.inl ⟨p, xs, i, v, rfl, rfl, h, ha, q⟩)
theorem w_len (xs : List V) (h : Sq K H p xs) (q : Q (.int (xs.length : Int)) H) : rLen K [.ref p] H Q := ⟨.ref p, xs.length, rfl, h.elim (fun h => .inl ⟨_, h, rfl⟩) fun h => .inr ⟨_, h, rfl⟩, q⟩
theorem w_lenS {x : Str} (hz : x.length ≤ sizeLine) (q : Q (.int (x.length : Int)) H) : rLen K [.str x] H Q := ⟨.str x, x.length, rfl, ⟨hz, rfl⟩, q⟩
theorem w_int {i : Int} (q : Q (.int i) H) : rInt [.int i] H Q := .inl ⟨i, rfl, q⟩
theorem w_abs {i : Int} (q : Q (.int (i.natAbs : Int)) H) : rAbs [.int i] H Q := ⟨i, rfl, by rw [show (if i < 0 then -i else i) = (i.natAbs : Int) by split <;> omega]; exact q⟩
theorem w_gcd {a b : Int} (q : Q (.int ((Nat.gcd a.natAbs b.natAbs : Nat) : Int)) H) : rGcd [.int a, .int b] H Q := ⟨a, b, rfl, q⟩
theorem w_list {ys : List V} (h : Sq K H p ys) (q : ∀ l H2, H l = none → Same H H2 → H2 l = some (.lst ys) → Q (.ref l) H2) : rListA K [.ref p] H Q := ⟨p, ys, rfl, h, q⟩
theorem w_tuple {ys : List V} (h : Sq K H p ys) (q : ∀ l H2, Same H H2 → SqT K H2 l ys → Q (.ref l) H2) : rTupleA K [.ref p] H Q := ⟨p, ys, rfl, h, q⟩
theorem tyx_l (h : SqL K H p xs) : TyX K H (.ref p) (.type "list") := by
  rcases h with (h | ⟨o, h⟩) | ⟨o, its, n, h1, h2, _⟩
  · exact .base (.lst h)
  · exact .base (.frz h)
  · exact .kList h1 h2
theorem tyx_t (h : SqT K H p xs) : TyX K H (.ref p) (.type "tuple") := by
  rcases h with (h | ⟨o, h⟩) | ⟨o, its, n, h1, h2, _⟩
  · exact .base (.tup h)
  · exact .fTuple h
  · exact .kTuple h1 h2
theorem w_isi {x : V} {a c : String} {b : Bool} (ty : TyX K H x (.type a)) (e : kitB a c = some b) (q : Q (.bl b) H) : rIsA K [x, .ty c] H Q := .inl ⟨x, .ty c, _, _, b, rfl, .ty c, ty, kit_ty e, q⟩
theorem w_append {l : Addr} {y : V} (h : H l = some (.lst xs)) (hz : xs.length < sizeLine) (q : ∀ H2, But l H H2 → H2 l = some (.lst (xs ++ [y])) → Q .non H2) : rAppendA (.ref l) [y] H Q := ⟨l, xs, y, rfl, rfl, h, hz, q⟩
theorem w_new {n : Nat} {B : Prop} (hn : n ≤ sizeLine) (q : B) : n ≤ sizeLine ∧ B := ⟨hn, q⟩
theorem iteD {c : Prop} [Decidable c] {A B : Prop} (h1 : c → A) (h2 : ¬ c → B) : if decide c = true then A else B := by
  by_cases h : c
  · rw [decide_eq_true h]
    exact iteT (h1 h)
  · rw [decide_eq_false h]
    exact iteF (h2 h)
theorem iteN {c : Bool} {A B : Prop} (h1 : c = false → A) (h2 : c = true → B) : if (!c) = true then A else B := by
  cases c with
  | true => exact iteF (h2 rfl)
  | false => exact iteT (h1 rfl)
theorem iteB {c : Bool} {A B : Prop} (h1 : c = true → A) (h2 : c = false → B) : if c = true then A else B := by
  cases c with
  | true => exact iteT (h1 rfl)
  | false => exact iteF (h2 rfl)
end
/-! ### defs -/
/-- the def nm of the text stands behind the top -/
structure At (K : PySem.W.Frag) (mg : Str → Option Value) (nm : Str) (st : Stmt) : Prop where
  ex : ∃ fd, FunD K nm nm (defArgs st) (defBody st) (defScope st) [] [] (He.ga K nm) fd
  gl : mg nm = some (.ref (He.ga K nm))
/-- it keeps its promise -/
structure Def (P : Program) (w : World) (K : PySem.W.Frag) (mg : Str → Option Value) (base : Heap) (nm : Str) (k : Nat) (ps : List Str) (sp : Sp) : Prop where
  ex : ∃ f fd, FnOk P w K mg base (L2N.CX P w) k f fd ps sp ∧ mg nm = some (.ref f) ∧ PySem.W.keepIn K (.ref f) = true ∧ Binds K fd ps [] ∧ ∃ o, K.lookup f = some o ∧ o.data = .func fd
section
variable {P : Program} {w : World} {K : PySem.W.Frag} {mg : Str → Option Value} {base : Heap}
theorem Def.of {nm : Str} {st : Stmt} {N ps : List Str} {k : Nat} {sp : Sp} (h : At K mg nm st) (S : FnScope N ps (defScope st))
    (hbind : ∀ (kV doc pm : Value) (an : Option Addr) (cdv ct : Value) (us : List Value), us.length = ps.length → bindArgs (PySem.W.fnOf nm nm (defArgs st) (defBody st) (defScope st) .none kV doc pm an cdv ct) ⟨us, []⟩ = pure (ps.zip us))
    (len : ∀ vs H Q E, sp vs H Q E → vs.length = ps.length)
    (hbody : ∀ (f : Addr) (cdv : Value) (A : Around) (outer : List Env) (s : Shared) (H : Hp) (vs : List V) (Q : VK) (E : XK), Room k (A.deeper (envOfC nm (defScope st) s.heap.objs.size f cdv)) → sp vs H Q E →
      ∃ t, PSs (cxOf (L2N.CX P w) P w K mg base N nm (defScope st) f cdv A outer s H E) (defBody st) t ∧ t { nx := fun _ H' => Q .non H', rt := Q } (start N vs) H) : Def P w K mg base nm (k + 1) ps sp := by
  obtain ⟨fd, F⟩ := h.ex
  refine ⟨_, fd, F.ok S len (hbody (He.ga K nm)), h.gl, F.kp, F.bindsN hbind, ?_⟩
  obtain ⟨oc, od, dV, kV, doc, pm, an, cdv, ct, osl, rfl, lk, _⟩ := F.ex
  exact ⟨_, lk, rfl⟩
theorem Def.mono {nm : Str} {j k : Nat} {ps : List Str} {sp : Sp} (d : Def P w K mg base nm j ps sp) (h : j ≤ k) : Def P w K mg base nm k ps sp := by
  obtain ⟨f, fd, F, a, b, c⟩ := d.ex
  exact ⟨f, fd, F.mono h, a, b, c⟩
end
section
variable {X : Cx} {nm : Str} {k : Nat} {ps : List Str} {sp : Sp} {p pos : Pos} {e : Expr} {es : List Expr} {t : TA}
theorem pe_def (d : Def X.prog X.w X.K X.mg X.base nm k ps sp) (hr : Room k X.A) (hg : Gl X nm) (ha : PA X (e :: es) t) (hdb : (nm == ("__debug__" : Str)) = false := by decide)
    (he : starEach (e :: es) X.env = (false, eval e X.env) :: starEach es X.env := by rfl) (hpl : (backTo pos (starEach es X.env)).any (·.1) = false := by rfl) : PE X (.Call (.Name nm p) (e :: es) [] pos) (tCall sp [] E0 t) := by
  obtain ⟨f, fd, F, hm, hk, hb, _⟩ := d.ex
  exact pe_call F hr hg hm hk hb .nil passN ha hdb he hpl
theorem pe_def0 (d : Def X.prog X.w X.K X.mg X.base nm k ps sp) (hr : Room k X.A) (hg : Gl X nm) (hdb : (nm == ("__debug__" : Str)) = false := by decide) : PE X (.Call (.Name nm p) [] [] pos) (tCall sp [] E0 tNil) := by
  obtain ⟨f, fd, F, hm, hk, hb, _⟩ := d.ex
  exact pe_call0 F hr hg hm hk hb .nil passN hdb
/-- a call whose exception is wished for at the caller's slots -/
theorem pe_defS {W : WX} (d : Def X.prog X.w X.K X.mg X.base nm k ps sp) (hr : Room k X.A) (hg : Gl X nm) (tk : L2N.Takes X W) (ha : PA X (e :: es) t) (hdb : (nm == ("__debug__" : Str)) = false := by decide)
    (he : starEach (e :: es) X.env = (false, eval e X.env) :: starEach es X.env := by rfl) (hpl : (backTo pos (starEach es X.env)).any (·.1) = false := by rfl) : PE X (.Call (.Name nm p) (e :: es) [] pos) (tCallS sp (WE W) t) := by
  obtain ⟨f, fd, F, hm, hk, hb, _⟩ := d.ex
  exact pe_callS F hr hg hm hk hb (fun σ => passAtN tk σ) ha hdb he hpl
theorem w_callS {σ : L2.St} {H : Hp} {Q : VK} {sp : Sp} {E : L2.St → XK} {t : TA} (q : t σ H fun vs H1 => sp vs H1 Q (E σ)) : tCallS sp E t σ H Q := q
end
/-! ### sizes -/
abbrev Sm (n : Nat) (x : Int) : Prop := x.natAbs < 2 ^ n
theorem Sm.mono {a b : Nat} {x : Int} (h : Sm a x) (e : a ≤ b) : Sm b x := Nat.lt_of_lt_of_le h (Nat.pow_le_pow_right (by decide) e)
theorem Sm.mulOk {a b : Nat} {x y : Int} (h : Sm a x) (h' : Sm b y) (e : a + b ≤ 999990) : CMulW x y :=
  wide_mul (a := a + 1) (b := b + 1) (Sm.mono h (Nat.le_succ a)) (Sm.mono h' (Nat.le_succ b)) (Nat.succ_pos _) (Nat.succ_pos _) (by omega)
theorem Sm.mul {a b : Nat} {x y : Int} (h : Sm a x) (h' : Sm b y) : Sm (a + b) (x * y) := wide_lt h h'
theorem Sm.add {a : Nat} {x y : Int} (h : Sm a x) (h' : Sm a y) : Sm (a + 1) (x + y) := by
  have e : 2 ^ (a + 1) = 2 ^ a + 2 ^ a := by rw [Nat.pow_succ]; omega
  show (x + y).natAbs < 2 ^ (a + 1)
  have h1 : x.natAbs < 2 ^ a := h
  have h2 : y.natAbs < 2 ^ a := h'
  rw [e]
  omega
theorem Sm.neg {a : Nat} {x : Int} (h : Sm a x) : Sm a (-x) := by
  show (-x).natAbs < 2 ^ a
  rw [Int.natAbs_neg]
  exact h
theorem Sm.divOk {b : Nat} {x y : Int} (h0 : y ≠ 0) (h : Sm b y) (e : b ≤ 8990) : CDivG x y :=
  ⟨h0, Nat.lt_of_lt_of_le (PySem.Flt.log2_lt_of (Nat.succ_pos b) (Sm.mono h (Nat.le_succ b))) (by omega)⟩
theorem Sm.le {a : Nat} {x y : Int} (h : Sm a y) (e : x.natAbs ≤ y.natAbs) : Sm a x := Nat.lt_of_le_of_lt e h
theorem small_div {x y : Int} (h0 : 0 < y) (h : y < 1073741824) : CDivG x y := Sm.divOk (b := 30) (by omega) (show y.natAbs < 2 ^ 30 by omega) (by omega)
theorem small_mul {x y : Int} (h0 : y.natAbs < 1073741824) (h : x.natAbs < 1073741824) : CMulW x y := Sm.mulOk (a := 30) (b := 30) (show x.natAbs < 2 ^ 30 by omega) (show y.natAbs < 2 ^ 30 by omega) (by omega)
/-! ### loops -/
section
variable {K : PySem.W.Frag} {σ : L2.St} {H : Hp} {D : Ends} {g : TG} {tb : TS}
/-- what a for asks of its iterator J -/
def ForW (J : It) (g : TG) (tb : TS) (D : Ends) (σ : L2.St) (H : Hp) : Prop := ∃ W : Nat → Nat → L2.St → Hp → Prop, (∃ m, W 0 m σ H) ∧ ∀ i m σ H, W i m σ H →
  (J.stop i H ∧ D.nx σ H) ∨ (J.go i H ∧ ∃ N : L2.St → Hp → Prop, (∀ σ' H', N σ' H' → ∃ m', m' < m ∧ W (i + 1) m' σ' H') ∧ ∀ x H', J.yld i H x H' → g x σ H' fun σ2 H2 => tb { D with nx := N, ct := N, bk := D.nx } σ2 H2)
theorem w_for {wi : TI} (q : wi σ H fun J H1 => ForW J g tb D σ H1) : tFor wi g tb D σ H := q
theorem w_rng1 {ta : TA} {R : It → Hp → Prop} (q : ta σ H fun vs H1 => ∃ j : Int, vs = [.int j] ∧ -(2 ^ 62) ≤ j ∧ j < 2 ^ 62 ∧ R (Itr 0 j.toNat) H1) : iRng1 ta σ H R := q
theorem w_rng2 {ta : TA} {R : It → Hp → Prop} (q : ta σ H fun vs H1 => ∃ i j : Int, vs = [.int i, .int j] ∧ (-(2 ^ 62) ≤ i ∧ i < 2 ^ 62 ∧ -(2 ^ 62) ≤ j ∧ j < 2 ^ 62) ∧ R (Itr i (j - i).toNat) H1) : iRng2 ta σ H R := q
theorem w_iseq {tl : TE} {R : It → Hp → Prop} (q : tl σ H fun x H1 => ∃ a, x = .ref a ∧ (((∃ xs, SqL K H1 a xs) ∧ R (Itl K a) H1) ∨ ((∃ xs, SqT K H1 a xs) ∧ R (Itt K a) H1))) : iSeq K tl σ H R := q
/-- range(j) -/
theorem for_rng1 {j : Int} {n : Nat} (hj : j.toNat = n) (h1 : -(2 ^ 62) ≤ j) (h2 : j < 2 ^ 62) (Pv : Nat → L2.St → Hp → Prop) (h0 : Pv 0 σ H)
    (hs : ∀ i σ H, i < n → Pv i σ H → g (.int (i : Int)) σ H fun σ2 H2 => tb { D with nx := Pv (i + 1), ct := Pv (i + 1), bk := D.nx } σ2 H2) (hd : ∀ σ H, Pv n σ H → D.nx σ H) :
    ∃ k : Int, [V.int j] = [V.int k] ∧ -(2 ^ 62) ≤ k ∧ k < 2 ^ 62 ∧ ForW (Itr 0 k.toNat) g tb D σ H := by
  subst hj
  exact ⟨j, rfl, h1, h2, for_range (lo := 0) (n := j.toNat) Pv h0 (fun i σ H hi p => by rw [Int.zero_add]; exact hs i σ H hi p) hd⟩
theorem for_rng2 {a j : Int} {n : Nat} (hj : (j - a).toNat = n) (h1 : -(2 ^ 62) ≤ a) (h2 : a < 2 ^ 62) (h3 : -(2 ^ 62) ≤ j) (h4 : j < 2 ^ 62) (Pv : Nat → L2.St → Hp → Prop) (h0 : Pv 0 σ H)
    (hs : ∀ i σ H, i < n → Pv i σ H → g (.int (a + (i : Int))) σ H fun σ2 H2 => tb { D with nx := Pv (i + 1), ct := Pv (i + 1), bk := D.nx } σ2 H2) (hd : ∀ σ H, Pv n σ H → D.nx σ H) :
    ∃ i k : Int, [V.int a, V.int j] = [V.int i, V.int k] ∧ (-(2 ^ 62) ≤ i ∧ i < 2 ^ 62 ∧ -(2 ^ 62) ≤ k ∧ k < 2 ^ 62) ∧ ForW (Itr i (k - i).toNat) g tb D σ H := by
  subst hj
  exact ⟨a, j, rfl, ⟨h1, h2, h3, h4⟩, for_range (lo := a) (n := (j - a).toNat) Pv h0 hs hd⟩
/-- a list or a tuple that stands in H0, from which all the heaps grow -/
theorem for_seq {a : Addr} {xs : List V} (H0 : Hp) (hq : Sq K H0 a xs) (Pv : Nat → L2.St → Hp → Prop) (h0 : Pv 0 σ H) (hl : ∀ i σ H, i ≤ xs.length → Pv i σ H → Same H0 H)
    (hs : ∀ i x σ H, xs[i]? = some x → Pv i σ H → g x σ H fun σ2 H2 => tb { D with nx := Pv (i + 1), ct := Pv (i + 1), bk := D.nx } σ2 H2) (hd : ∀ σ H, Pv xs.length σ H → D.nx σ H) :
    ∃ b, V.ref a = .ref b ∧ (((∃ xs, SqL K H b xs) ∧ ForW (Itl K b) g tb D σ H) ∨ ((∃ xs, SqT K H b xs) ∧ ForW (Itt K b) g tb D σ H)) := by
  refine ⟨a, rfl, ?_⟩
  rcases hq with hq | hq
  · exact .inl ⟨⟨xs, Same.sl (hl 0 σ H (Nat.zero_le _) h0) hq⟩, for_list Pv h0 (fun i σ H hi p => Same.sl (hl i σ H hi p) hq) hs hd⟩
  · exact .inr ⟨⟨xs, Same.st (hl 0 σ H (Nat.zero_le _) h0) hq⟩, for_tup Pv h0 (fun i σ H hi p => Same.st (hl i σ H hi p) hq) hs hd⟩
end
/-! ### targets; bits -/
theorem g_cons {t : TG} {u : TGs} {v : V} {r : List V} {σ : L2.St} {H : Hp} {Q : L2.St → Hp → Prop} (q : t v σ H fun σ' H' => u r σ' H' Q) : gCons t u (v :: r) σ H Q := ⟨v, r, rfl, q⟩
theorem g_nil {σ : L2.St} {H : Hp} {Q : L2.St → Hp → Prop} (q : Q σ H) : gNil [] σ H Q := ⟨rfl, q⟩
theorem bits_lt (n : Nat) : n < 2 ^ Builtin.Int.intBits (n : Int) := by
  unfold Builtin.Int.intBits
  split
  · rename_i h
    have : (n : Int) = 0 := by simpa using h
    omega
  · rw [Int.natAbs_natCast]
    exact Nat.lt_log2_self
/-! ### the methods of a list; medium numbers -/
theorem w_tyl {K : PySem.W.Frag} {l : Addr} {H : Hp} {B : Prop} (xs : List V) (h : H l = some (.lst xs)) (q : B) : tyV K "list" (.ref l) H ∧ B := ⟨.inl ⟨rfl, _, SqL.of h⟩, q⟩
theorem med_mul {x y : Int} (h0 : x.natAbs < 18446744073709551616) (h : y.natAbs < 18446744073709551616) : CMulW x y := Sm.mulOk (a := 64) (b := 64) h0 h (by decide)
theorem size_of {n : Nat} (h : n < 16777216) : n < sizeLine := by rw [sizeLine_eq]; exact h
theorem size_le {n : Nat} (h : n ≤ 16777216) : n ≤ sizeLine := by rw [sizeLine_eq]; exact h
theorem map_at {ns : List Int} {i : Nat} {x : V} (h : (ns.map V.int)[i]? = some x) : ∃ c, ns[i]? = some c ∧ V.int c = x := by
  rw [List.getElem?_map] at h
  cases e : ns[i]? with
  | none => rw [e] at h; cases h
  | some c => rw [e] at h; exact ⟨c, rfl, Option.some.inj h⟩
theorem map_get {ns : List Int} {i : Nat} {c : Int} (h : ns[i]? = some c) : (ns.map V.int)[i]? = some (.int c) := by
  rw [List.getElem?_map, h]; rfl
/-! ### powers of ten; items of written lists -/
section
variable {H : Hp} {Q : VK}
theorem w_pw {i j : Int} (k : Int) (e : i ^ j.toNat = k) (c : CPow i j) (q : Q (.int k) H) : rI CPow (fun i j => .int (i ^ j.toNat)) (.int i) (.int j) H Q := ⟨i, j, rfl, rfl, c, by show Q (.int (i ^ j.toNat)) H; rw [e]; exact q⟩
theorem w_p6 (q : Q (.int 1000000) H) : rI CPow (fun i j => .int (i ^ j.toNat)) (.int 10) (.int 6) H Q := w_pw 1000000 (by decide) ⟨by decide, by decide, by decide⟩ q
theorem w_p9 (q : Q (.int 1000000000) H) : rI CPow (fun i j => .int (i ^ j.toNat)) (.int 10) (.int 9) H Q := w_pw 1000000000 (by decide) ⟨by decide, by decide, by decide⟩ q
theorem w_p12 (q : Q (.int 1000000000000) H) : rI CPow (fun i j => .int (i ^ j.toNat)) (.int 10) (.int 12) H Q := w_pw 1000000000000 (by decide) ⟨by decide, by decide, by decide⟩ q
theorem w_p15 (q : Q (.int 1000000000000000) H) : rI CPow (fun i j => .int (i ^ j.toNat)) (.int 10) (.int 15) H Q := w_pw 1000000000000000 (by decide) ⟨by decide, by decide, by decide⟩ q
theorem w_p18 (q : Q (.int 1000000000000000000) H) : rI CPow (fun i j => .int (i ^ j.toNat)) (.int 10) (.int 18) H Q := w_pw 1000000000000000000 (by decide) ⟨by decide, by decide, by decide⟩ q
theorem w_p24 (q : Q (.int 1000000000000000000000000) H) : rI CPow (fun i j => .int (i ^ j.toNat)) (.int 10) (.int 24) H Q := w_pw 1000000000000000000000000 (by decide) ⟨by decide, by decide, by decide⟩ q
theorem w_p30 (q : Q (.int 1000000000000000000000000000000) H) : rI CPow (fun i j => .int (i ^ j.toNat)) (.int 10) (.int 30) H Q := w_pw 1000000000000000000000000000000 (by decide) ⟨by decide, by decide, by decide⟩ q
end
theorem big_mul {x y : Int} (h0 : x.natAbs ≤ 10000000000000000000000000000000000000000000000000000000000000) (h : y.natAbs ≤ 10000000000000000000000000000000000000000000000000000000000000) : CMulW x y :=
  Sm.mulOk (a := 210) (b := 210) (Nat.lt_of_le_of_lt h0 (by decide)) (Nat.lt_of_le_of_lt h (by decide)) (by decide)
theorem ix_ints (ns : List Int) {i : Int} (h0 : 0 ≤ i) (h1 : i < ns.length) : ∃ c, ns[i.toNat]? = some c ∧ c ∈ ns ∧ atI (ns.map V.int) i = some (.int c) := by
  have hi : i.toNat < ns.length := by omega
  refine ⟨ns[i.toNat], List.getElem?_eq_getElem hi, List.getElem_mem hi, ?_⟩
  have g := atI_nat (map_get (List.getElem?_eq_getElem hi))
  rw [Int.toNat_of_nonneg h0] at g
  exact g
theorem w_slq {K : PySem.W.Frag} {H : Hp} {Q : VK} {a : Addr} {lo hi : Option Int} (xs ys : List V) (h : SqL K H a xs) (e : cutV xs lo hi = ys) (q : ∀ p H2, H p = none → Same H H2 → H2 p = some (.lst ys) → Q (.ref p) H2) : rSlQ K (.ref a) lo hi H Q :=
  ⟨a, xs, rfl, h, fun p H2 n s z => q p H2 n s (by rw [z, e])⟩
theorem w_slice {r : V → Option Int → Option Int → Hp → VK → Prop} {te : TE} {tl th : TO} {σ : L2.St} {H : Hp} {Q : VK} (q : te σ H fun x H1 => tl σ H1 fun l H2 => th σ H2 fun u H3 => r x l u H3 Q) : tSl r te tl th σ H Q := q
theorem w_part {t : TE} {σ : L2.St} {H : Hp} {Q : Option Int → Hp → Prop} (q : t σ H fun x H1 => ∃ i, x = .int i ∧ Q (some i) H1) : tPart t σ H Q := q
theorem w_nopart {σ : L2.St} {H : Hp} {Q : Option Int → Hp → Prop} (q : Q none H) : tNoPart σ H Q := q
theorem w_ei {i : Int} {Q : Int → Prop} (q : Q i) : ∃ k, V.int i = .int k ∧ Q k := ⟨i, rfl, q⟩
/-! ### ways that meet behind a statement -/
def tCut (t u : TS) : TS := fun D σ H => ∃ M : L2.St → Hp → Prop, t { D with nx := M } σ H ∧ ∀ σ' H', M σ' H' → u D σ' H'
theorem pss_cut {X : Cx} {st : Stmt} {rest : List Stmt} {t u : TS} (h1 : PS X st t) (h2 : PSs X rest u) : PSs X (st :: rest) (tCut t u) := by
  refine ⟨fun pins s σ H D I ⟨M, h, k⟩ => wpAny_execs_cons (thn (h1.run pins s σ H { D with nx := M } I h) fun f s1 q => ?_)⟩
  cases f with
  | next =>
    obtain ⟨σ', H', I', m⟩ := q
    exact h2.run pins s1 σ' H' D I' (k σ' H' m)
  | ret v => exact q
  | brk => exact q
  | cont => exact q
theorem w_cut {t u : TS} {D : Ends} {σ : L2.St} {H : Hp} (M : L2.St → Hp → Prop) (h : t { D with nx := M } σ H) (k : ∀ σ' H', M σ' H' → u D σ' H') : tCut t u D σ H := ⟨M, h, k⟩
/-! ### a list repeated -/
section
variable {X : Cx}
def rRepA : R2 := fun x y H Q => ∃ l k xs, x = .ref l ∧ y = .int k ∧ H l = some (.lst xs) ∧ -(2 ^ 63) ≤ k ∧ k < 2 ^ 63 ∧ xs.length * k.toNat ≤ sizeLine ∧ ∀ p H2, H p = none → Same H H2 → H2 p = some (.lst (List.replicate k.toNat xs).flatten) → Q (.ref p) H2
theorem op_repA : OpR X (binaryOp .Mult) rRepA := OpR.imp op_rep fun _ _ _ _ ⟨l, k, xs, h1, h2, h3, h4, h5, h6, q⟩ => ⟨l, k, xs, h1, h2, h3, h4, h5, h6, fun p hp => q p _ hp (Same.new hp) upd_same⟩
theorem w_rep {H : Hp} {Q : VK} {l : Addr} {k : Int} {xs : List V} (ys : List V) (h : H l = some (.lst xs)) (h0 : -(2 ^ 63) ≤ k) (h1 : k < 2 ^ 63) (hz : xs.length * k.toNat ≤ sizeLine) (e : (List.replicate k.toNat xs).flatten = ys) (q : ∀ p H2, H p = none → Same H H2 → H2 p = some (.lst ys) → Q (.ref p) H2) : rRepA (.ref l) (.int k) H Q :=
  ⟨l, k, xs, rfl, rfl, h, h0, h1, hz, fun p H2 n s z => q p H2 n s (by rw [z, e])⟩
end
/-! ### what the head tells of an exception's class -/
def xcB (K : PySem.W.Frag) (D : Addr) : Bool :=
  decide (PySem.W.findIn K (.ref D) "__getattribute__" = some (some (.builtin "BaseException.__getattribute__"))) && (decide (PySem.W.findIn K (.ref D) "__getattr__" = some none) && (decide (PySem.W.subIn K (.ref D) (.type "BaseException") = some true) && (PySem.W.hasDictIn K D &&
  (decide (PySem.W.findIn K (.ref D) "__class__" = some (some (.builtin "object.__class__"))) && (decide (PySem.W.specialIn K (.builtin "object.__class__") "__get__" = some (some (.builtin "getset_descriptor.__get__"))) && (decide (PySem.W.takesIn K (.builtin "object.__class__") = some true) && decide (PySem.W.mroIn K D (.type "object") = some true)))))))
theorem xcB_ok {K : PySem.W.Frag} {D : Addr} (h : xcB K D = true) : ExcC K D := by
  obtain ⟨h1, h⟩ := He.ba h
  obtain ⟨h2, h⟩ := He.ba h
  obtain ⟨h3, h⟩ := He.ba h
  obtain ⟨h4, h⟩ := He.ba h
  obtain ⟨h5, h⟩ := He.ba h
  obtain ⟨h6, h⟩ := He.ba h
  obtain ⟨h7, h8⟩ := He.ba h
  exact ⟨of_decide_eq_true h1, of_decide_eq_true h2, of_decide_eq_true h3, h4, of_decide_eq_true h5, of_decide_eq_true h6, of_decide_eq_true h7, of_decide_eq_true h8⟩
/-- X of the text is an error over ValueError without an __init__ -/
abbrev ExcPlain (K : PySem.W.Frag) (x : Str) : Prop := PySem.W.excIn K (He.ga K x) He.veBase "ValueError.__new__" = true ∧ PySem.W.keepIn K (.ref (He.ga K x)) = true ∧ PySem.W.subIn K (.ref (He.ga K x)) (.type "BaseException") = some true ∧ PySem.W.typeIn K (.ref (He.ga K x)) = some (.type "type")
theorem Same.at {H H' : Hp} {a : Addr} {o : HO} (e : Same H H') (h : H a = some o) : H' a = some o := e a o h
theorem map_at0 {K : PySem.W.Frag} {H : Hp} {Q : VK} {p : Addr} {ns : List Int} {i : Nat} {c : Int} (h : Sq K H p (ns.map V.int)) (e : ns[i]? = some c) (q : Q (.int c) H) : rIx K (.ref p) (.int (i : Int)) H Q := w_ix h (atI_nat (map_get e)) q
/-! ### carrying over, the elder heap named -/
section
variable {K : PySem.W.Frag} {H' : Hp} {a : Addr} {xs : List V} (H : Hp)
theorem tr_sl (e : Same H H') (h : SqL K H a xs) : SqL K H' a xs := Same.sl e h
theorem tr_st (e : Same H H') (h : SqT K H a xs) : SqT K H' a xs := Same.st e h
theorem tr_sq (e : Same H H') (h : Sq K H a xs) : Sq K H' a xs := Same.sq e h
theorem tr_at {o : HO} (e : Same H H') (h : H a = some o) : H' a = some o := e a o h
theorem tr_dp {v : V} {d : PyData} (e : Same H H') (h : Dp K H v d) : Dp K H' v d := Same.dp e h
theorem tr_same {H0 : Hp} (e : Same H H') (h : Same H0 H) : Same H0 H' := h.trans e
end
theorem sq_l {K : PySem.W.Frag} {H : Hp} {a : Addr} {xs : List V} (h : SqL K H a xs) : Sq K H a xs := .inl h
theorem sq_t {K : PySem.W.Frag} {H : Hp} {a : Addr} {xs : List V} (h : SqT K H a xs) : Sq K H a xs := .inr h
theorem tr_eq {H : Hp} {a : Addr} {o : HO} (u : HO) (h : H a = some u) (e : u = o) : H a = some o := e ▸ h
theorem tr_eqt {K : PySem.W.Frag} {H : Hp} {a : Addr} {xs : List V} (ys : List V) (h : SqT K H a ys) (e : ys = xs) : SqT K H a xs := e ▸ h
theorem tr_eql {K : PySem.W.Frag} {H : Hp} {a : Addr} {xs : List V} (ys : List V) (h : SqL K H a ys) (e : ys = xs) : SqL K H a xs := e ▸ h
theorem cxOf_K {CX : CXT} {P : Program} {w : World} {K : PySem.W.Frag} {mg : Str → Option Value} {base : Heap} {N : List Str} {qual : Str} {scope : Scope} {f : Addr} {cd : Value} {A : Around} {outer : List Env} {s : Shared} {H : Hp} {E : XK} :
    (cxOf CX P w K mg base N qual scope f cd A outer s H E).K = K := rfl
/-! ### the end: nothing leaves the law -/
theorem fnOk_quiet {P : Program} {w : World} {K : PySem.W.Frag} {mg : Str → Option Value} {base : Heap} {k : Nat} {f : Addr} {fd : FuncData} {ps : List Str} {sp : Sp} (F : FnOk P w K mg base (L2N.CX P w) k f fd ps sp) (hE : ∀ vs H Q E, sp vs H Q E → sp vs H Q E0) : FnOk P w K mg base CX0 k f fd ps sp := by
  refine ⟨F.len, fun A outer s H args us vs Q E hr e0 hb rv h => codeAny_mono (F.run A outer s H args us vs Q E0 hr e0 hb rv (hE _ _ _ _ h)) fun r s' q => ?_⟩
  cases r with
  | error e =>
    obtain ⟨_, _, _, _, _, _, _, _, _, _, _, _, z⟩ := q
    exact z.elim
  | ok fl => cases fl <;> exact q
theorem Def.quiet {P : Program} {w : World} {K : PySem.W.Frag} {mg : Str → Option Value} {base : Heap} {nm : Str} {k : Nat} {ps : List Str} {sp : Sp} {x qual : Str} {params : Arguments} {body : List Stmt} {scope : Scope} {fa : Addr} {fd : FuncData}
    (d : Def P w K mg base nm k ps sp) (hm : mg nm = some (.ref fa)) (F : FunD K x qual params body scope [] [] fa fd) (hE : ∀ vs H Q E, sp vs H Q E → sp vs H Q E0) : FnOk P w K mg base CX0 k fa fd ps sp := by
  obtain ⟨f, fd', G, h, _, _, o, lk, ho⟩ := d.ex
  rw [hm] at h
  cases h
  obtain ⟨oc, od, dV, kV, doc, pm, an, cdv, ct, osl, e, lk2, _⟩ := F.ex
  rw [lk] at lk2
  cases lk2
  have e2 : fd = fd' := by injection ho
  rw [e2]
  exact fnOk_quiet G hE
end JP
set_option Elab.async false
set_option linter.all false
set_option maxRecDepth 100000
set_option maxHeartbeats 4000000
set_option maxHeartbeats 16000000
namespace JP
open PySem PySem.Spec PyProof.Rows L2 L2H
def top (i : Nat) : Stmt := PySem.Challenge.pw_joinpast_k01_polynomial_forms.main.body.getD i (.Pass ⟨0, 0, 0, 0⟩)
def fn : List He.DefD := [
  ⟨("polynomial", none), "polynomial", "polynomial", defArgs (top 34), defBody (top 34), defScope (top 34), [], []⟩,
  ⟨("normal_polynomial", none), "normal_polynomial", "normal_polynomial", defArgs (top 35), defBody (top 35), defScope (top 35), [], []⟩,
  ⟨("span", none), "span", "span", defArgs (top 36), defBody (top 36), defScope (top 36), [], []⟩,
  ⟨("poly_plus", none), "poly_plus", "poly_plus", defArgs (top 37), defBody (top 37), defScope (top 37), [], []⟩,
  ⟨("poly_times", none), "poly_times", "poly_times", defArgs (top 38), defBody (top 38), defScope (top 38), [], []⟩,
  ⟨("_law_whole", none), "_law_whole", "_law_whole", defArgs (top 40), defBody (top 40), defScope (top 40), [], []⟩,
  ⟨("_law_cell", none), "_law_cell", "_law_cell", defArgs (top 41), defBody (top 41), defScope (top 41), [], []⟩,
  ⟨("_law_digits", none), "_law_digits", "_law_digits", defArgs (top 42), defBody (top 42), defScope (top 42), [], []⟩,
  ⟨("_law_gcd", none), "_law_gcd", "_law_gcd", defArgs (top 43), defBody (top 43), defScope (top 43), [], []⟩,
  ⟨("_law_poly", none), "_law_poly", "_law_poly", defArgs (top 44), defBody (top 44), defScope (top 44), [], []⟩,
  ⟨("_law_add", none), "_law_add", "_law_add", defArgs (top 45), defBody (top 45), defScope (top 45), [], []⟩,
  ⟨("_law_mul", none), "_law_mul", "_law_mul", defArgs (top 46), defBody (top 46), defScope (top 46), [], []⟩,
  ⟨("_law_pairs", none), "_law_pairs", "_law_pairs", defArgs (top 47), defBody (top 47), defScope (top 47), [], []⟩,
  ⟨("_law_normal", none), "_law_normal", "_law_normal", defArgs (top 48), defBody (top 48), defScope (top 48), [], []⟩,
  ⟨("_law_is_poly", none), "_law_is_poly", "_law_is_poly", defArgs (top 49), defBody (top 49), defScope (top 49), [], []⟩,
  ⟨("_law_coefficient", none), "_law_coefficient", "_law_coefficient", defArgs (top 50), defBody (top 50), defScope (top 50), [], []⟩,
  ⟨("_law_drawn", none), "_law_drawn", "_law_drawn", defArgs (top 51), defBody (top 51), defScope (top 51), [], []⟩,
  ⟨("_law_passed", none), "_law_passed", "_law_passed", defArgs (top 52), defBody (top 52), defScope (top 52), [], []⟩,
  ⟨("_law_other_pairs", none), "_law_other_pairs", "_law_other_pairs", defArgs (top 53), defBody (top 53), defScope (top 53), [], []⟩,
  ⟨("_law_another", none), "_law_another", "_law_another", defArgs (top 54), defBody (top 54), defScope (top 54), [], []⟩,
  ⟨("_law_spanless", none), "_law_spanless", "_law_spanless", defArgs (top 55), defBody (top 55), defScope (top 55), [], []⟩,
  ⟨("_law_is", none), "_law_is", "_law_is", defArgs (top 56), defBody (top 56), defScope (top 56), [], []⟩,
  ⟨("_law_alone", none), "_law_alone", "_law_alone", defArgs (top 57), defBody (top 57), defScope (top 57), [], []⟩,
  ⟨("_law_right", none), "_law_right", "_law_right", defArgs (top 58), defBody (top 58), defScope (top 58), [], []⟩,
  ⟨("_law_next", none), "_law_next", "_law_next", defArgs (top 59), defBody (top 59), defScope (top 59), [], []⟩,
  ⟨("law", none), "law", "law", defArgs (top 60), defBody (top 60), defScope (top 60), [], []⟩]
def fa : List JPH.Fk := [
  fun K => (He.Fa.glo "polynomial").ok K,
  fun K => (He.Fa.glo "normal_polynomial").ok K,
  fun K => (He.Fa.glo "span").ok K,
  fun K => (He.Fa.glo "poly_plus").ok K,
  fun K => (He.Fa.glo "poly_times").ok K,
  fun K => (He.Fa.glo "_law_whole").ok K,
  fun K => (He.Fa.glo "_law_cell").ok K,
  fun K => (He.Fa.glo "_law_digits").ok K,
  fun K => (He.Fa.glo "_law_gcd").ok K,
  fun K => (He.Fa.glo "_law_poly").ok K,
  fun K => (He.Fa.glo "_law_add").ok K,
  fun K => (He.Fa.glo "_law_mul").ok K,
  fun K => (He.Fa.glo "_law_pairs").ok K,
  fun K => (He.Fa.glo "_law_normal").ok K,
  fun K => (He.Fa.glo "_law_is_poly").ok K,
  fun K => (He.Fa.glo "_law_coefficient").ok K,
  fun K => (He.Fa.glo "_law_drawn").ok K,
  fun K => (He.Fa.glo "_law_passed").ok K,
  fun K => (He.Fa.glo "_law_other_pairs").ok K,
  fun K => (He.Fa.glo "_law_another").ok K,
  fun K => (He.Fa.glo "_law_spanless").ok K,
  fun K => (He.Fa.glo "_law_is").ok K,
  fun K => (He.Fa.glo "_law_alone").ok K,
  fun K => (He.Fa.glo "_law_right").ok K,
  fun K => (He.Fa.glo "_law_next").ok K,
  fun K => (He.Fa.glo "law").ok K,
  fun K => (He.Fa.glo "RowError").ok K,
  fun K => (He.Fa.glo "NoQuotient").ok K,
  fun K => (He.Fa.glo "ZeroPolynomial").ok K,
  fun K => (He.Fa.glo "ZeroSum").ok K,
  fun K => (He.Fa.glo "NoRows").ok K,
  fun K => (He.Fa.glo "BadName").ok K,
  fun K => (He.Fa.glo "RowTwice").ok K,
  fun K => (He.Fa.glo "UnknownRow").ok K,
  fun K => (He.Fa.glo "RowsDiffer").ok K,
  fun K => (He.Fa.glo "SpotTwice").ok K,
  fun K => (He.Fa.glo "BadStretch").ok K,
  fun K => (He.Fa.glo "ShortStretch").ok K,
  fun K => (He.Fa.glo "TooLong").ok K,
  fun K => (He.Fa.glo "CannotStand").ok K,
  fun K => (He.Fa.glo "Broken").ok K,
  fun K => (He.Fa.glo "NotFinite").ok K,
  fun K => (He.Fa.glo "BadParts").ok K,
  fun K => (He.Fa.glo "Barred").ok K,
  fun K => (He.Fa.glo "NotCourse").ok K,
  fun K => (He.Fa.glo "BreaksOwnRule").ok K,
  fun K => (He.Fa.glo "NotBlocked").ok K,
  fun K => (He.Fa.glo "Unsure").ok K,
  fun K => (He.Fa.glo "Contradiction").ok K,
  fun K => (He.Fa.glo "NotStricter").ok K,
  fun K => (He.Fa.glo "NoFamilies").ok K,
  fun K => (He.Fa.glo "NotLet").ok K,
  fun K => (He.Fa.glo "NotFree").ok K,
  fun K => (He.Fa.glo "NotTimely").ok K,
  fun K => (He.Fa.glo "NotEntered").ok K,
  fun K => (He.Fa.glo "NothingToUndo").ok K,
  fun K => (He.Fa.glo "BadNotation").ok K,
  fun K => decide (PySem.W.nsIn K mainGlobals "gcd" = some (some (.builtin "math.gcd"))),
  fun K => (He.Fa.free "ValueError").ok K,
  fun K => (He.Fa.free "abs").ok K,
  fun K => (He.Fa.free "bool").ok K,
  fun K => (He.Fa.free "int").ok K,
  fun K => (He.Fa.free "isinstance").ok K,
  fun K => (He.Fa.free "len").ok K,
  fun K => (He.Fa.free "list").ok K,
  fun K => (He.Fa.free "max").ok K,
  fun K => (He.Fa.free "min").ok K,
  fun K => (He.Fa.free "range").ok K,
  fun K => (He.Fa.free "sorted").ok K,
  fun K => (He.Fa.free "tuple").ok K,
  fun K => (He.Fa.exc "ZeroPolynomial").ok K,
  fun K => xcB K (He.ga K "ZeroPolynomial"),
  fun K => decide (PySem.W.kitOne K (.ref (He.ga K "ZeroPolynomial")) (.ref (He.ga K "RowError")) = some true),
  fun K => decide (PySem.W.kitOne K (.ref (He.ga K "ZeroPolynomial")) (.type "ValueError") = some true),
  fun K => decide (PySem.W.kitOne K (.ref (He.ga K "ZeroPolynomial")) (.ref (He.ga K "ZeroPolynomial")) = some true),
  fun K => decide (PySem.W.kitAny K (.ref (He.ga K "ZeroPolynomial")) [.ref (He.ga K "BadName"), .ref (He.ga K "BadNotation"), .ref (He.ga K "BadParts"), .ref (He.ga K "BadStretch"), .ref (He.ga K "Barred"), .ref (He.ga K "BreaksOwnRule"), .ref (He.ga K "Broken"), .ref (He.ga K "CannotStand"), .ref (He.ga K "Contradiction"), .ref (He.ga K "NoFamilies"), .ref (He.ga K "NoQuotient"), .ref (He.ga K "NoRows"), .ref (He.ga K "NotBlocked"), .ref (He.ga K "NotCourse"), .ref (He.ga K "NotEntered"), .ref (He.ga K "NotFinite"), .ref (He.ga K "NotFree"), .ref (He.ga K "NotLet"), .ref (He.ga K "NotStricter"), .ref (He.ga K "NotTimely"), .ref (He.ga K "NothingToUndo"), .ref (He.ga K "RowTwice"), .ref (He.ga K "RowsDiffer"), .ref (He.ga K "ShortStretch"), .ref (He.ga K "SpotTwice"), .ref (He.ga K "TooLong"), .ref (He.ga K "UnknownRow"), .ref (He.ga K "Unsure"), .ref (He.ga K "ZeroSum")] = some false),
  fun K => decide (PySem.W.exmOne K (.ref (He.ga K "ZeroPolynomial")) (.ref (He.ga K "ZeroPolynomial")) = some true),
  fun K => decide (PySem.W.exmOne K (.ref (He.ga K "ZeroPolynomial")) (.ref (He.ga K "RowError")) = some true)]
abbrev R : PySem.W.OpenRow := PySem.W.OpenLaw.row PySem.Challenge.rw_joinpast_k01_polynomial_forms
abbrev hk : PySem.W.Hook := JPH.hookF 4 fa fn
def loose : List PySem.Str := (["RowError", "NoQuotient", "ZeroPolynomial", "ZeroSum", "NoRows", "BadName", "RowTwice", "UnknownRow", "RowsDiffer", "SpotTwice", "BadStretch", "ShortStretch", "TooLong", "CannotStand", "Broken", "NotFinite", "BadParts", "Barred", "NotCourse", "BreaksOwnRule", "NotBlocked", "Unsure", "Contradiction", "NotStricter", "NoFamilies", "NotLet", "NotFree", "NotTimely", "NotEntered", "NothingToUndo"] : List PySem.Str) ++ (["BadNotation", "polynomial", "normal_polynomial", "span", "poly_plus", "poly_times", "_law_whole", "_law_cell", "_law_digits", "_law_gcd", "_law_poly", "_law_add", "_law_mul", "_law_pairs", "_law_normal", "_law_is_poly", "_law_coefficient", "_law_drawn", "_law_passed", "_law_other_pairs", "_law_another", "_law_spanless", "_law_is", "_law_alone", "_law_right", "_law_next"] : List PySem.Str)
def ob (s : PySem.W.SharedT) : He.AlD := JPH.obsFG 4 fa fn (HandSHeadRun.getT s)
theorem ob_eq (s : PySem.W.SharedT) : ob s = hk.obs s.abs := JPH.obsFG_eq (HandSHeadRun.getT_eq s)
theorem run (w : World) : HandSHeadRun.RunEqI R (PySem.W.view R.prog [0, 60]) hk ob 20000 loose w := by
  unfold HandSHeadRun.RunEqI
  kernel_rfl
end JP
set_option maxHeartbeats 4000000
namespace JP
open PySem PySem.Spec PyProof.Rows L2 L2H HotX
/-! ### a caught exception of a class that is known, asked and handed to a def -/
/-- isinstance(e, c) | isinstance(e, (c, ..)) of the exception at a, its class cls, its dict d -/
def rIsX (K : PySem.W.Frag) (cls : Value) (d : Option Addr) (a : Addr) : List V → Hp → VK → Prop := fun xs H Q => ∃ D, cls = .ref D ∧ d = none ∧ ExcC K D ∧ (rIsE K D a xs H Q ∨ rIsET K D a xs H Q)
theorem call_isX {X : Cx} {a : Addr} {oe : Obj} {cls : Value} {d : Option Addr} (hp : (a, oe) ∈ X.pn) (hz : Zc cls d oe) (hf : ∃ vs, oe.data = .fields vs) : CallR X (.builtin "isinstance") (rIsX X.K cls d a) := by
  intro pins s σ H xs us Q I r h
  obtain ⟨D, rfl, rfl, C, h | h⟩ := h
  · exact call_isEP C hp hz hf pins s σ H xs us Q I r h
  · exact call_isET C hp hz hf pins s σ H xs us Q I r h
/-- a def's promise where the exception p is handled, of which Zp is known -/
structure FnZ (P : Program) (w : World) (K : PySem.W.Frag) (mg : Str → Option Value) (base : Heap) (k : Nat) (f : Addr) (fd : FuncData) (ps : List Str) (Zp : Addr × Obj → Prop) (sp : Addr → Sp) : Prop where
  len : ∀ a vs H Q E, sp a vs H Q E → vs.length = ps.length
  run : ∀ (A : Around) (outer : List Env) (s : Shared) (H : Hp) (args : Args) (us : List Value) (vs : List V) (Q : VK) (E : XK) (p : Addr × Obj), RoomH k A → Hot1 A p → Zp p → PinOk outer H s p → Env0 P w K mg base A outer s H →
    BindsTo s fd args (ps.zip us) → Vals vs us → sp p.1 vs H Q E → codeAny (model P w) A (.call (.ref f) args) (CR (L2N.CX P w) outer P w H s Q E) s
/-- the body may use what is known of the pin -/
theorem fn_ofZ {P : Program} {w : World} {K : PySem.W.Frag} {mg : Str → Option Value} {base : Heap} {k : Nat} {f : Addr} {name qual : Str} {params : Arguments} {body : List Stmt} {scope : Scope} {dV kV doc pm cdv ct oc : Value} {an od : Option Addr}
    {osl : Array (Option Value)} {N ps : List Str} {Zp : Addr × Obj → Prop} {sp : Addr → Sp} (lk : K.lookup f = some ⟨oc, od, .func (PySem.W.fnOf name qual params body scope dV kV doc pm an cdv ct), osl⟩) (hcd : PySem.W.codeIn K cdv qual = true) (S : FnScope N ps scope)
    (len : ∀ a vs H Q E, sp a vs H Q E → vs.length = ps.length)
    (hbody : ∀ (A : Around) (outer : List Env) (s : Shared) (H : Hp) (vs : List V) (Q : VK) (E : XK) (p : Addr × Obj), Hot1 A p → Zp p → RoomH k (A.deeper (envOfC qual scope s.heap.objs.size f cdv)) → sp p.1 vs H Q E →
      ∃ t, PSs (cxH (L2N.CX P w) P w K mg base N qual scope f cdv A outer s H E p) body t ∧ t { nx := fun _ H' => Q .non H', rt := Q } (L2.start N vs) H) :
    FnZ P w K mg base (k + 1) f (PySem.W.fnOf name qual params body scope dV kV doc pm an cdv ct) ps Zp sp := by
  refine ⟨len, fun A outer s H args us vs Q E p hr hot hz hpin e0 hb r hsp => ?_⟩
  have KX : K.In s.heap := e0.mod.kin.keeps fun b o e => (e0.bs b o e).1
  have lim : s.heap.NoLimit := e0.mod.nolimit.keeps fun b o e => (e0.bs b o e).1
  have hl := len _ _ _ _ _ hsp
  have hkind : ∀ y ∈ ps.zip us, scope.names.lookup y.1 = some .local ∨ (scope.names.lookup y.1 = some .cell ∧ ((cellsFrom (s.heap.objs.size + 1) scope.names []).lookup y.1).isSome = true) := by
    rintro ⟨n, v⟩ hy
    exact (S.par n (List.of_mem_zip hy).1).imp id fun q => ⟨q, PySem.W.cellsFrom_some _ _ _ (.inl q)⟩
  refine codeAny_call_function hr.depth (KX _ _ lk) rfl S.co S.gen rfl (PySem.W.codeRec_of KX hcd) (hb _ _ _ _ (wpAny_newFunctionEnv_cells S.kind hkind fun env he s1 x => ?_))
  subst he
  refine ⟨lim.keeps x.toInCall.keep, codeAny_func ?_⟩
  obtain ⟨t, ht, hq⟩ := hbody A outer s H vs Q E p hot hz (hr.deeper _) hsp
  refine wpAny_mono (ht.run [] s1 _ H _ (inv_startH S hpin e0 hl r x) hq) (fun fl s' hs => ?_) fun e s' hs => hs
  cases fl with
  | ret u => obtain ⟨v, σ', H', J, rv, q⟩ := hs; exact ⟨v, H', J.os, J.bare, J.base, J.hok, rv, q⟩
  | next => obtain ⟨σ', H', J, q⟩ := hs; exact ⟨V.non, H', J.os, J.bare, J.base, J.hok, rfl, q⟩
  | brk => obtain ⟨_, _, _, q⟩ := hs; exact False.elim q
  | cont => obtain ⟨_, _, _, q⟩ := hs; exact False.elim q
/-- f(e) in a suite: the caught exception's class is D, it has no dict -/
def tCallZ (D : Addr) (cls : Value) (d : Option Addr) (sp : Sp) (t : TA) : TE := fun σ H Q => t σ H fun vs H1 => cls = .ref D ∧ d = none ∧ sp vs H1 Q E0
theorem w_callZ {D : Addr} {cls : Value} {d : Option Addr} {sp : Sp} {t : TA} {σ : L2.St} {H : Hp} {Q : VK} (q : t σ H fun vs H1 => cls = .ref D ∧ d = none ∧ sp vs H1 Q E0) : tCallZ D cls d sp t σ H Q := q
theorem pe_callZ {X : Cx} {k : Nat} {f D : Addr} {fd : FuncData} {ps : List Str} {sp : Addr → Sp} {x : Str} {q pos : Pos} {e : Expr} {es : List Expr} {t : TA} {p : Addr × Obj} {cls : Value} {d : Option Addr}
    (F : FnZ X.prog X.w X.K X.mg X.base k f fd ps (fun p => Zc (.ref D) none p.2) sp) (hr : RoomH k X.A) (hp : p ∈ X.pn) (hot : Hot1 X.A p) (hz : Zc cls d p.2) (hg : Gl X x) (hm : X.mg x = some (.ref f)) (hk : PySem.W.keepIn X.K (.ref f) = true) (hb : Binds X.K fd ps [])
    (ha : PA X (e :: es) t) (hdb : (x == ("__debug__" : Str)) = false := by decide) (he : starEach (e :: es) X.env = (false, eval e X.env) :: starEach es X.env := by rfl) (hpl : (backTo pos (starEach es X.env)).any (·.1) = false := by rfl) :
    PE X (.Call (.Name x q) (e :: es) [] pos) (tCallZ D cls d (sp p.1) t) := by
  refine ⟨fun pins s σ H Q I h => wpAny_Call_Name_kw (ld_glob I hg hm ?_ hdb)⟩
  refine PySem.W.callWith_K (h₀ := X.base) I.ok.mod.kin hk (thn (ha.run pos pins s σ H _ I h) fun us s1 ⟨vs, H1, I1, r, hcls, hd, q⟩ => ⟨I1.kIn, ?_⟩) he hpl
  subst hcls hd
  have hl : us.length = ps.length := r.length.symm.trans (F.len _ _ _ _ _ q)
  have b := hb s1 us I1.kIn (by rw [List.append_nil]; exact hl)
  rw [List.append_nil] at b
  obtain ⟨p1, p2, p3, p4, p5⟩ := I1.pin p (List.mem_append_left _ hp)
  have hpin : PinOk X.stack H1 s1 p := ⟨p1, p2, fun hm => (List.mem_cons.mp (I1.stkSub p.1 hm)).elim p3 p4, p5⟩
  refine wpAny_call (codeAny_mono (F.run X.A X.stack s1 H1 ⟨us, []⟩ us vs Q E0 p hr hot hz hpin I1.env0 b r q) fun res s' hq => ?_)
  cases res with
  | error e => exact passN pins σ H1 s1 e s' I1 hq
  | ok fl =>
    cases fl with
    | ret u => exact I1.after hq
    | next => exact False.elim hq
    | brk => exact False.elim hq
    | cont => exact False.elim hq
theorem hot_suite {X : Cx} {a : Addr} {oe : Obj} {cls : Value} {d : Option Addr} {pn : List (Addr × Obj)} (hz : L2N.Zn cls d oe) (hf : ∃ vs, oe.data = .fields vs) : Hot1 (X.suite a ((a, oe) :: pn)).A (a, oe) := by
  obtain ⟨vs, hv⟩ := hf
  exact ⟨rfl, vs, hv, hz.2.2 vs hv⟩
theorem room_suite {X : Cx} {a : Addr} {pn : List (Addr × Obj)} {k : Nat} (r : Room k X.A) : RoomH k (X.suite a pn).A := ⟨r.dp, r.un⟩
/-- such a def of the text -/
structure DefZ (P : Program) (w : World) (K : PySem.W.Frag) (mg : Str → Option Value) (base : Heap) (nm : Str) (k : Nat) (ps : List Str) (D : Addr) (sp : Addr → Sp) : Prop where
  ex : ∃ f fd, FnZ P w K mg base k f fd ps (fun p => Zc (.ref D) none p.2) sp ∧ mg nm = some (.ref f) ∧ PySem.W.keepIn K (.ref f) = true ∧ Binds K fd ps []
theorem pe_defZ {X : Cx} {nm : Str} {k : Nat} {ps : List Str} {D : Addr} {sp : Addr → Sp} {q pos : Pos} {e : Expr} {es : List Expr} {t : TA} {p : Addr × Obj} {cls : Value} {d : Option Addr}
    (dz : DefZ X.prog X.w X.K X.mg X.base nm k ps D sp) (hr : RoomH k X.A) (hp : p ∈ X.pn) (hot : Hot1 X.A p) (hz : Zc cls d p.2) (hg : Gl X nm) (ha : PA X (e :: es) t) (hdb : (nm == ("__debug__" : Str)) = false := by decide)
    (he : starEach (e :: es) X.env = (false, eval e X.env) :: starEach es X.env := by rfl) (hpl : (backTo pos (starEach es X.env)).any (·.1) = false := by rfl) : PE X (.Call (.Name nm q) (e :: es) [] pos) (tCallZ D cls d (sp p.1) t) := by
  obtain ⟨f, fd, F, hm, hk, hb⟩ := dz.ex
  exact pe_callZ F hr hp hot hz hg hm hk hb ha hdb he hpl
theorem DefZ.of {P : Program} {w : World} {K : PySem.W.Frag} {mg : Str → Option Value} {base : Heap} {nm : Str} {st : Stmt} {N ps : List Str} {k : Nat} {D : Addr} {sp : Addr → Sp} (h : At K mg nm st) (S : FnScope N ps (defScope st))
    (hbind : ∀ (kV doc pm : Value) (an : Option Addr) (cdv ct : Value) (us : List Value), us.length = ps.length → bindArgs (PySem.W.fnOf nm nm (defArgs st) (defBody st) (defScope st) .none kV doc pm an cdv ct) ⟨us, []⟩ = pure (ps.zip us))
    (len : ∀ a vs H Q E, sp a vs H Q E → vs.length = ps.length)
    (hbody : ∀ (f : Addr) (cdv : Value) (A : Around) (outer : List Env) (s : Shared) (H : Hp) (vs : List V) (Q : VK) (E : XK) (p : Addr × Obj), Hot1 A p → Zc (.ref D) none p.2 → RoomH k (A.deeper (envOfC nm (defScope st) s.heap.objs.size f cdv)) → sp p.1 vs H Q E →
      ∃ t, PSs (cxH (L2N.CX P w) P w K mg base N nm (defScope st) f cdv A outer s H E p) (defBody st) t ∧ t { nx := fun _ H' => Q .non H', rt := Q } (start N vs) H) : DefZ P w K mg base nm (k + 1) ps D sp := by
  obtain ⟨fd, F⟩ := h.ex
  obtain ⟨oc, od, dV, kV, doc, pm, an, cdv, ct, osl, e, lk, hcd, hD, hK⟩ := id F.ex
  subst e
  exact ⟨_, _, fn_ofZ lk hcd S len (hbody (He.ga K nm) cdv), h.gl, F.kp, F.bindsN hbind⟩
end JP
set_option Elab.async false
set_option linter.all false
set_option maxRecDepth 100000
set_option maxHeartbeats 4000000
namespace JP
open PySem PySem.Spec PyProof.Rows L2
/-! dicts -/
abbrev DK := List (Key × V)
/-- the dict with the keys ks and the values f -/
def tk (ks : List Int) (f : Int → Int) : DK := ks.map fun s => (Sum.inl s, V.int (f s))
/-- the dict of a polynomial -/
def dk (R : List Pr) : DK := R.map fun p => (Sum.inl p.1, V.int p.2)
theorem dk_tk {R : List Pr} (a : Asc R) : dk R = tk (R.map (·.1)) (cf R) := by
  unfold dk tk
  rw [List.map_map]
  refine List.map_congr_left fun p hp => ?_
  show _ = (Sum.inl p.1, V.int (cf R p.1))
  rw [cf_in a hp]
theorem length_tk (ks : List Int) (f : Int → Int) : (tk ks f).length = ks.length := List.length_map ..
theorem length_dk (R : List Pr) : (dk R).length = R.length := List.length_map ..
theorem tk_keys (ks : List Int) (f : Int → Int) : (tk ks f).map (·.1) = ks.map Sum.inl := by
  unfold tk
  rw [List.map_map]
  rfl
theorem tk_kV (ks : List Int) (f : Int → Int) : ((tk ks f).map fun kv => kV kv.1) = ks.map V.int := by
  unfold tk
  rw [List.map_map]
  rfl
theorem dk_kV (R : List Pr) : ((dk R).map fun kv => kV kv.1) = (R.map (·.1)).map V.int := by
  unfold dk
  rw [List.map_map, List.map_map]
  rfl
theorem valV_tk {ks : List Int} {f : Int → Int} {s : Int} (h : s ∈ ks) : valV (tk ks f) (Sum.inl s) = some (.int (f s)) := by
  induction ks with
  | nil => cases h
  | cons k r ih =>
    by_cases e : k = s
    · subst e
      exact valV_pos (p := (Sum.inl k, V.int (f k))) rfl
    · have := ih ((List.mem_cons.mp h).resolve_left fun z => e z.symm)
      exact (valV_neg (p := (Sum.inl k, V.int (f k))) (fun z => e (Sum.inl.inj z))).trans this
theorem valV_tk0 {ks : List Int} {f : Int → Int} {s : Int} (h : s ∉ ks) : valV (tk ks f) (Sum.inl s) = none := by
  induction ks with
  | nil => rfl
  | cons k r ih =>
    have e : k ≠ s := fun z => h (z ▸ List.mem_cons_self)
    exact (valV_neg (p := (Sum.inl k, V.int (f k))) (fun z => e (Sum.inl.inj z))).trans (ih fun z => h (List.mem_cons_of_mem _ z))
theorem valV_dk {R : List Pr} (a : Asc R) {p : Pr} (h : p ∈ R) : valV (dk R) (Sum.inl p.1) = some (.int p.2) := by
  rw [dk_tk a, valV_tk (List.mem_map_of_mem h), cf_in a h]
theorem valV_dk0 {R : List Pr} (a : Asc R) {s : Int} (h : s ∉ R.map (·.1)) : valV (dk R) (Sum.inl s) = none := by rw [dk_tk a, valV_tk0 h]
/-- a put value -/
def ups (f : Int → Int) (s v : Int) : Int → Int := fun t => if t = s then v else f t
def addk (ks : List Int) (s : Int) : List Int := if s ∈ ks then ks else ks ++ [s]
theorem put_tk (ks : List Int) (f : Int → Int) (s v : Int) : putK (tk ks f) (Sum.inl s) (.int v) = tk (addk ks s) (ups f s v) := by
  unfold putK
  rw [valV_any]
  by_cases h : s ∈ ks
  · rw [valV_tk h, Option.isSome_some, if_pos rfl]
    unfold addk tk
    rw [if_pos h, List.map_map]
    refine List.map_congr_left fun k hk => ?_
    show (if (Sum.inl k : Key) = Sum.inl s then (Sum.inl k, V.int v) else (Sum.inl k, V.int (f k))) = (Sum.inl k, V.int (if k = s then v else f k))
    by_cases e : k = s
    · rw [if_pos e, if_pos (e ▸ rfl)]
    · rw [if_neg e, if_neg fun z => e (Sum.inl.inj z)]
  · rw [valV_tk0 h, if_neg (by decide)]
    unfold addk tk
    rw [if_neg h, List.map_append, List.map_cons, List.map_nil]
    congr 1
    · refine List.map_congr_left fun k hk => ?_
      have e : k ≠ s := fun z => h (z ▸ hk)
      show _ = (Sum.inl k, V.int (if k = s then v else f k))
      rw [if_neg e]
    · show _ = [(Sum.inl s, V.int (if s = s then v else f s))]
      rw [if_pos rfl]
theorem put_dk {R : List Pr} (p : Pr) (h : ∀ q ∈ R, q.1 < p.1) : putK (dk R) (Sum.inl p.1) (.int p.2) = dk (R ++ [p]) := by
  have : valV (dk R) (Sum.inl p.1) = none := by
    induction R with
    | nil => rfl
    | cons q r ih =>
      have e := h q List.mem_cons_self
      exact (valV_neg (p := (Sum.inl q.1, V.int q.2)) (fun z => by have := Sum.inl.inj z; omega)).trans (ih fun x hx => h x (List.mem_cons_of_mem _ hx))
  rw [putK_new _ this]
  unfold dk
  rw [List.map_append]
  rfl
/-- a sound tally -/
structure Tal (ks : List Int) (f : Int → Int) : Prop where
  nd : ks.Nodup
  out : ∀ s, s ∉ ks → f s = 0
theorem Tal.nil : Tal [] (cf []) := ⟨List.nodup_nil, fun _ _ => rfl⟩
theorem Tal.put {ks : List Int} {f g : Int → Int} (t : Tal ks f) (s c : Int) (hg : ∀ u, g u = f u + if s = u then c else 0) : Tal (addk ks s) g ∧ ∀ u ∈ addk ks s, g u = ups f s (f s + c) u := by
  refine ⟨⟨?_, fun u hu => ?_⟩, fun u _ => ?_⟩
  · unfold addk
    split
    · exact t.nd
    · rename_i h
      refine List.nodup_append.mpr ⟨t.nd, by simp, fun a ha b hb => ?_⟩
      rw [List.mem_singleton.mp hb]
      exact fun z => h (z ▸ ha)
  · have h1 : u ∉ ks ∧ u ≠ s := by
      unfold addk at hu
      split at hu
      · rename_i h
        exact ⟨hu, fun z => hu (z ▸ h)⟩
      · rw [List.mem_append] at hu
        exact ⟨fun z => hu (.inl z), fun z => hu (.inr (z ▸ List.mem_singleton.mpr rfl))⟩
    rw [hg, t.out u h1.1, if_neg (fun z => h1.2 z.symm)]
    rfl
  · rw [hg]
    unfold ups
    by_cases e : u = s
    · rw [if_pos e, if_pos e.symm, e]
    · rw [if_neg e, if_neg fun z => e z.symm]
      omega
theorem tk_congr {ks : List Int} {f g : Int → Int} (h : ∀ u ∈ ks, f u = g u) : tk ks f = tk ks g := List.map_congr_left fun k hk => by rw [h k hk]
theorem length_addk (ks : List Int) (s : Int) : (addk ks s).length ≤ ks.length + 1 := by
  unfold addk
  split
  · omega
  · rw [List.length_append]; exact Nat.le_refl _
/-- .. its value, 0 beside it -/
theorem Tal.get {ks : List Int} {f : Int → Int} (t : Tal ks f) (s : Int) : (valV (tk ks f) (Sum.inl s)).getD (.int 0) = .int (f s) := by
  by_cases h : s ∈ ks
  · rw [valV_tk h]; rfl
  · rw [valV_tk0 h, t.out s h]; rfl
/-- sorted keys, without zeros -/
def pick (ns : List Int) (f : Int → Int) : List Pr := (ns.filter fun s => decide (f s ≠ 0)).map fun s => (s, f s)
theorem pick_nil (f : Int → Int) : pick [] f = [] := rfl
theorem pick_snoc (ns : List Int) (f : Int → Int) (s : Int) : pick (ns ++ [s]) f = if f s ≠ 0 then pick ns f ++ [(s, f s)] else pick ns f := by
  unfold pick
  rw [List.filter_append]
  by_cases h : f s ≠ 0
  · rw [if_pos h, List.filter_cons_of_pos (by simpa using h), List.map_append]; rfl
  · rw [if_neg h, List.filter_cons_of_neg (by simpa using h), List.filter_nil, List.append_nil]
theorem pick_isP {ks ns : List Int} {f : Int → Int} (t : Tal ks f) (hp : ns.Perm ks) (hs : ns.Pairwise (· ≤ ·)) : IsP f (pick ns f) := by
  have nd : ns.Nodup := hp.nodup_iff.mpr t.nd
  have lt : ns.Pairwise (· < ·) := by
    have h2 : ns.Pairwise (· ≠ ·) := nd
    exact (hs.and h2).imp fun ⟨a, b⟩ => by omega
  have asc : Asc (pick ns f) := by
    unfold Asc pick
    rw [List.pairwise_map]
    exact (lt.filter _)
  refine ⟨asc, fun p hp => ?_, fun s => ?_⟩
  · obtain ⟨s, hs, rfl⟩ := List.mem_map.mp hp
    exact of_decide_eq_true (List.mem_filter.mp hs).2
  · by_cases h : s ∈ ns ∧ f s ≠ 0
    · exact cf_in asc (p := (s, f s)) (List.mem_map.mpr ⟨s, List.mem_filter.mpr ⟨h.1, decide_eq_true h.2⟩, rfl⟩)
    · have z : f s = 0 := by
        by_cases m : s ∈ ns
        · exact Decidable.byContradiction fun z => h ⟨m, z⟩
        · exact t.out s fun q => m (hp.mem_iff.mpr q)
      rw [z]
      refine cf_out fun p hp e => ?_
      obtain ⟨u, hu, rfl⟩ := List.mem_map.mp hp
      have := of_decide_eq_true (List.mem_filter.mp hu).2
      rw [show u = s from e] at this
      exact this z
theorem pick_lt {ns : List Int} {f : Int → Int} {s : Int} (h : ∀ u ∈ ns, u < s) : ∀ q ∈ pick ns f, q.1 < s := fun q hq => by
  obtain ⟨u, hu, rfl⟩ := List.mem_map.mp hq
  exact h u (List.mem_filter.mp hu).1
/-! ### rules -/
section
variable {X : Cx} {e o f : Expr} {td ty tx : TE} {pos : Pos}
def tDNewA : TE := fun _ H Q => ∀ p H2, H p = none → Same H H2 → H2 p = some (.dK []) → Q (.ref p) H2
theorem pe_dnewA : PE X (.Dict [] [] pos) tDNewA := ⟨fun pins s σ H Q I h => pe_dnewK.run pins s σ H Q I fun p hp => h p _ hp (Same.new hp) upd_same⟩
def rListD : List V → Hp → VK → Prop := fun xs H Q => ∃ (a : Addr) (kvs : DK), xs = [.ref a] ∧ Rd H a (.dK kvs) ∧ ∀ p H2, H p = none → Same H H2 → H2 p = some (.lst (kvs.map fun kv => kV kv.1)) → Q (.ref p) H2
theorem call_listDA (hc : X.calm = true) : CallR X (.type "list") rListD := CallR.imp (call_listD hc) fun _ _ _ ⟨a, kvs, h1, h2, q⟩ => ⟨a, kvs, h1, h2, fun p hp => q p _ hp (Same.new hp) upd_same⟩
def rLenD : List V → Hp → VK → Prop := fun xs H Q => ∃ a kvs, xs = [V.ref a] ∧ H a = some (.dK kvs) ∧ Q (.int kvs.length) H
theorem call_lenDA : CallR X (.builtin "len") rLenD := call_lenD
def rSortA (K : PySem.W.Frag) : List V → Hp → VK → Prop := fun vs H Q => ∃ (a : Addr) (ns : List Int), vs = [V.ref a] ∧ SqL K H a (ns.map V.int) ∧ ∀ (ns' : List Int) (p : Addr) (H2 : Hp), ns'.Perm ns → ns'.Pairwise (· ≤ ·) → H p = none → Same H H2 → H2 p = some (.lst (ns'.map V.int)) → Q (.ref p) H2
theorem cr_sortA : CallR X (.builtin "sorted") (rSortA X.K) := CallR.imp cr_sortedI fun _ _ _ ⟨a, ns, h1, h2, q⟩ => ⟨a, ns, h1, h2, fun ns' p h3 h4 hp => q ns' p _ h3 h4 hp (Same.new hp) upd_same⟩
def rMaxA (K : PySem.W.Frag) : List V → Hp → VK → Prop := rMax K
theorem cr_maxA (hc : X.calm = true) : CallR X (.builtin "max") (rMaxA X.K) := cr_max hc
def rMinA (K : PySem.W.Frag) : List V → Hp → VK → Prop := rMin K
theorem cr_minA (hc : X.calm = true) : CallR X (.builtin "min") (rMinA X.K) := cr_min hc
/-- sorted(d), all keys ints, any number of them -/
def rSortD : List V → Hp → VK → Prop := fun xs H Q => ∃ (a : Addr) (kvs : DK) (ks : List Int), xs = [.ref a] ∧ Rd H a (.dK kvs) ∧ kvs.map (·.1) = ks.map Sum.inl ∧
    ∀ (ys : List Int) (p : Addr) (H2 : Hp), ys.Perm ks → ys.Pairwise (· ≤ ·) → H p = none → Same H H2 → H2 p = some (.lst (ys.map V.int)) → Q (.ref p) H2
theorem cr_sortD (hcalm : X.calm = true) : CallR X (.builtin "sorted") rSortD := by
  intro pins s σ H xs us Q I r q
  obtain ⟨a, kvs, ks, ex, hd, hks, q⟩ := q
  subst ex
  obtain ⟨u, eu, rx⟩ := vals1 r
  subst eu
  cases rx
  obtain ⟨z, lo, vs, rel, dd⟩ := dk_rd I.hok hd
  obtain ⟨ep, hat⟩ := dd.dictAt
  have hkeys : vs.map (·.1) = ks.map Sum.inl := rel.keys.symm.trans hks
  have hl : vs.length = ks.length := by
    have e := congrArg List.length hkeys
    rw [List.length_map, List.length_map] at e
    exact e
  have h16 : vs.length ≤ sizeLine := by rw [← rel.length]; exact z
  refine Calls.call_function_entry PyProof.Rows.kind_sorted PyProof.Rows.plain_sorted PyProof.Rows.entry_sorted (PyProof.Rows.args_sorted1 _) ?_
  unfold Builtin.«sorted»
  refine wpAny_bind (m := checkCount "sorted" 1 1 _) (wpAny_pure ?_)
  refine wpAny_bind (PySem.W.kdu_collect (A := X.A.in1) (PySem.W.kdl_dict (knd := mixKind X.prog X.w) (kvs := vs) (ep := ep) lo) (I.ok.hd hcalm) hat h16 fun h' tk acc hk hacc => ?_)
  have hal : acc.toList.length = ks.length := by rw [Array.length_toList, hacc.1, hl]
  have hS : IntsAre acc.toList ks := ints_each hal fun j v e => by
    obtain ⟨k, x, e1, e2⟩ := hacc.2 j v (by rw [← Array.getElem?_toList]; exact e)
    have e3 : (vs.map (·.1))[j]? = some k := by rw [List.getElem?_map, e1]; rfl
    rw [hkeys, List.getElem?_map] at e3
    cases e4 : ks[j]? with
    | none => rw [e4] at e3; cases e3
    | some y =>
      rw [e4] at e3
      have e5 : Sum.inl y = k := Option.some.inj e3
      subst e5
      rcases keyIs_shape (show keyIs (Sum.inl y) v = true from e2) with ⟨i, t, ek, ev⟩ | ⟨z, t, ek, ev⟩
      · cases ek
        exact ⟨y, t, rfl, ev⟩
      · cases ek
  have I1 : Inv X pins σ H { s with heap := h', toks := tk } := I.kept hk
  have hal2 : acc.toList.length ≤ sizeLine := by rw [hal, ← hl]; exact h16
  refine wpAny_bind (wpAny_newList ?_ hal2)
  have hoL : (h'.push (seqObj "list" acc.toList.toArray 0)).get? h'.objs.size = some (seqObj "list" acc.toList.toArray 0) := Heap.get?_push_size _ rfl
  show wpAny _ _ _ _ _ { s with heap := h'.push (seqObj "list" acc.toList.toArray 0), toks := tk }
  refine wpAny_bind (wpAny_holding (wpAny_call_entry PyProof.Rows.slot_list_sort ⟨_, hoL, rfl⟩ PyProof.Rows.entry_list_sort
    (SrtO.list_sort_ord (s := { s with heap := h'.push (seqObj "list" acc.toList.toArray 0), toks := tk }) SrtO.swo_int hoL hal2 (fun h2 => SrtO.ints_sortable hS h2) fun out h1 h2 => ⟨_, rfl, ?_⟩) (PyProof.Rows.args_list_sort _)))
  obtain ⟨k1, k2, k3⟩ := SrtO.ints_out hS h1 h2
  obtain ⟨e', he'⟩ := PyProof.Rows.sortedHeap_at (vs := acc.toList) (out := out.toArray) hoL
  have hlen : ((out.map SrtO.iv).map V.int).length ≤ sizeLine := by
    rw [List.length_map, k2.length_eq, ← hl]
    exact h16
  have hfr := I1.hok.fresh (Nat.le_refl _)
  refine wpAny_pure ⟨_, rfl, .ref h'.objs.size, upd H h'.objs.size (.lst ((out.map SrtO.iv).map V.int)), I1.laid (t' := tk) (fun b u e => ?_) (Nat.le_refl _)
    (show ObjOk X.prog X.w _ _ _ (.lst ((out.map SrtO.iv).map V.int)) from ⟨hlen, out, e', vals_of_ints k1, he'⟩), rfl, q _ _ _ k2 k3 hfr (Same.new hfr) upd_same⟩
  have hb : b < h'.objs.size := Heap.lt_size e
  rw [PyProof.Rows.sortedHeap_old (Nat.ne_of_lt hb) (by rw [size_push']; exact Nat.lt_succ_of_lt hb)]
  exact Heap.get?_push_of_some _ e
/-- a lock, or none -/
def tLockM (t : TS) : TS := fun D σ H => t D σ H ∨ tLock t D σ H
theorem ps_lockM {st : Stmt} {t : TS} (h : PS X st t) : PS X st (tLockM t) := ⟨fun pins s σ H D I hw => hw.elim (h.run pins s σ H D I) ((ps_lock h).run pins s σ H D I)⟩
end
/-! ### steps -/
section
variable {K : PySem.W.Frag} {σ : L2.St} {H : Hp} {Q : VK} {D : Ends}
theorem w_dnew (q : ∀ p H2, H p = none → Same H H2 → H2 p = some (.dK []) → Q (.ref p) H2) : tDNewA σ H Q := q
theorem w_dget {td ty : TE} (q : td σ H fun x H1 => ty σ H1 fun y H2 => ∃ a v, x = .ref a ∧ DGet H2 a y (some v) ∧ Q v H2) : tDGet td ty σ H Q := q
theorem w_dget2 {td ty tx : TE} (q : td σ H fun x H1 => ∃ a, x = .ref a ∧ IsD H1 a ∧ ty σ H1 fun y H2 => tx σ H2 fun z H3 => ∃ o, DGet H3 a y o ∧ Q (o.getD z) H3) : tDGet2 td ty tx σ H Q := q
theorem w_dput {td ty tv : TE} (q : tv σ H fun v H1 => td σ H1 fun x H2 => ty σ H2 fun y H3 => ∃ a H4, x = .ref a ∧ DPut H3 a y v H4 ∧ D.nx σ H4) : sDPut td ty tv D σ H := q
theorem w_isd {a : Addr} {B : Addr → Prop} (kvs : DK) (h : Rd H a (.dK kvs)) (q : B a) : ∃ b, V.ref a = .ref b ∧ IsD H b ∧ B b := ⟨a, rfl, .inl ⟨kvs, h⟩, q⟩
theorem w_dat {a : Addr} {s : Int} {kvs : DK} {B : V → Prop} (v : V) (h : Rd H a (.dK kvs)) (e : valV kvs (.inl s) = some v) (q : B v) : ∃ b v, V.ref a = .ref b ∧ DGet H b (.int s) (some v) ∧ B v := ⟨a, v, rfl, .inl ⟨kvs, .inl s, h, rfl, e.symm⟩, q⟩
theorem w_dtal {a : Addr} {s : Int} {B : Option V → Prop} (ks : List Int) (f : Int → Int) (t : Tal ks f) (h : H a = some (.dK (tk ks f))) (q : ∀ o : Option V, o.getD (.int 0) = .int (f s) → B o) : ∃ o, DGet H a (.int s) o ∧ B o := ⟨_, .inl ⟨_, .inl s, .inl h, rfl, rfl⟩, q _ (t.get s)⟩
theorem w_dset {a : Addr} {s : Int} {v : V} {kvs : DK} {R : Hp → Prop} (h : H a = some (.dK kvs)) (hz : kvs.length < sizeLine) (q : ∀ H2, But a H H2 → H2 a = some (.dK (putK kvs (.inl s) v)) → R H2) : ∃ b H4, V.ref a = .ref b ∧ DPut H b (.int s) v H4 ∧ R H4 :=
  ⟨a, _, rfl, .inl ⟨kvs, .inl s, h, rfl, hz, rfl⟩, q _ (fun b hb => upd_ne hb) upd_same⟩
theorem w_listD {a : Addr} (kvs : DK) (h : Rd H a (.dK kvs)) (q : ∀ p H2, H p = none → Same H H2 → H2 p = some (.lst (kvs.map fun kv => kV kv.1)) → Q (.ref p) H2) : rListD [.ref a] H Q := ⟨a, kvs, rfl, h, q⟩
theorem w_lenD {a : Addr} (kvs : DK) (h : H a = some (.dK kvs)) (q : Q (.int kvs.length) H) : rLenD [.ref a] H Q := ⟨a, kvs, rfl, h, q⟩
theorem w_sortD {a : Addr} (ks : List Int) (f : Int → Int) (h : H a = some (.dK (tk ks f))) (q : ∀ (ys : List Int) (p : Addr) (H2 : Hp), ys.Perm ks → ys.Pairwise (· ≤ ·) → H p = none → Same H H2 → H2 p = some (.lst (ys.map V.int)) → Q (.ref p) H2) : rSortD [.ref a] H Q :=
  ⟨a, _, ks, rfl, .inl h, tk_keys ks f, q⟩
theorem w_sort {a : Addr} (ks : List Int) (h : H a = some (.lst (ks.map V.int))) (q : ∀ (ys : List Int) (p : Addr) (H2 : Hp), ys.Perm ks → ys.Pairwise (· ≤ ·) → H p = none → Same H H2 → H2 p = some (.lst (ys.map V.int)) → Q (.ref p) H2) : rSortA K [.ref a] H Q :=
  ⟨a, ks, rfl, SqL.of h, q⟩
theorem w_tru {te : TE} {B : Bool → Hp → Prop} (q : te σ H fun x H' => ∃ k, TruV K x H' k ∧ B k H') : (fun (σ : L2.St) (H : Hp) (Q : Bool → Hp → Prop) => te σ H fun x H' => ∃ k, TruV K x H' k ∧ Q k H') σ H B := q
theorem w_truQ {p : Addr} {xs : List V} {B : Bool → Prop} (h : Sq K H p xs) (q : B (!xs.isEmpty)) : ∃ k, TruV K (.ref p) H k ∧ B k := ⟨_, h.elim (fun h => .inl ⟨xs, h, rfl⟩) fun h => .inr (.inl ⟨xs, h, rfl⟩), q⟩
/-! a lock opened again -/
theorem lock_same {d : Addr} {od : Obj} {u : HO} {H' : Hp} (h : H d = some u) (e : Same (upd H d (.frz od u)) H') : Same H (upd H' d u) := fun a v ha => by
  by_cases z : a = d
  · rw [z, h] at ha
    rw [z, upd_same]
    exact ha
  · rw [upd_ne z]
    exact e a v (by rw [upd_ne z]; exact ha)
theorem lock_in {d a : Addr} {od : Obj} {u v : HO} (z : a ≠ d) (h : H a = some v) : upd H d (.frz od u) a = some v := by rw [upd_ne z]; exact h
/-! facts on fixed objects of tuples -/
/-- F stays where objects grow, and where an object changes that is no tuple -/
structure Stb (F : Hp → Prop) : Prop where
  same : ∀ {H H2 : Hp}, Same H H2 → F H → F H2
  but : ∀ {H H2 : Hp} {d : Addr}, But d H H2 → (∀ xs, ¬ Rd H d (.tup xs)) → F H → F H2
theorem nt_lst {d : Addr} {ys : List V} (h : H d = some (.lst ys)) : ∀ xs, ¬ Rd H d (.tup xs) := fun xs z => by
  rcases z with z | ⟨o, z⟩ <;> rw [h] at z <;> cases z
theorem nt_dk {d : Addr} {kvs : DK} (h : H d = some (.dK kvs)) : ∀ xs, ¬ Rd H d (.tup xs) := fun xs z => by
  rcases z with z | ⟨o, z⟩ <;> rw [h] at z <;> cases z
theorem nt_frz {d : Addr} {o : Obj} {kvs : DK} (h : H d = some (.frz o (.dK kvs))) : ∀ xs, ¬ Rd H d (.tup xs) := fun xs z => by
  rcases z with z | ⟨o, z⟩ <;> rw [h] at z <;> cases z
theorem nt_none {d : Addr} (h : H d = none) : ∀ xs, ¬ Rd H d (.tup xs) := fun xs z => by
  rcases z with z | ⟨o, z⟩ <;> rw [h] at z <;> cases z
/-- [y for x in xs if ..] over a list or a tuple; the facts may name the new list -/
theorem lc_seqL {a : Addr} {xs : List V} {g : TG} {tt : TT} {te : TE} {vs : List Nat} (hq : Sq K H a xs) (F : Addr → Nat → List V → Hp → Prop) (hF : ∀ D i acc H H2, (∀ xs, ¬ Rd H D (.tup xs)) → But D H H2 → F D i acc H → F D i acc H2) (hz : xs.length < sizeLine) (h0 : ∀ D, H D = none → F D 0 [] H)
    (hs : ∀ D i x acc H1 (Y : V → Hp → Prop) (Z : Hp → Prop), H D = none → H1 D = some (.lst acc) → xs[i]? = some x → Same H H1 → F D i acc H1 → (∀ y H4, Same H1 H4 → F D (i + 1) (acc ++ [y]) H4 → Y y H4) → (∀ H4, Same H1 H4 → F D (i + 1) acc H4 → Z H4) →
      g x (wipe σ vs) H1 fun σ2 H2 => wipe σ2 vs = wipe σ vs ∧ tt σ2 H2 fun b H3 => if b = true then te σ2 H3 Y else Z H3)
    (hd : ∀ l H2 acc, H l = none → Same H H2 → H2 l = some (.lst acc) → acc.length ≤ xs.length → F l xs.length acc H2 → Q (.ref l) H2) :
    tLc (iSeq K fun σ H Q => Q (.ref a) H) g tt te vs σ H Q := by
  let Pv : Addr → Nat → Hp → Prop := fun D i H1 => ∃ acc, H1 D = some (.lst acc) ∧ acc.length ≤ i ∧ Same H H1 ∧ F D i acc H1
  have key : ∀ D, H D = none → ∀ i x H1, xs[i]? = some x → Pv D i H1 → g x (wipe σ vs) H1 fun σ2 H2 => wipe σ2 vs = wipe σ vs ∧ tt σ2 H2 fun b H3 =>
      if b = true then te σ2 H3 fun y H4 => ∃ acc, H4 D = some (.lst acc) ∧ acc.length < sizeLine ∧ Pv D (i + 1) (upd H4 D (.lst (acc ++ [y]))) else Pv D (i + 1) H3 := by
    rintro D hD i x H1 hx ⟨acc, hA, hl, e1, f⟩
    refine hs D i x acc H1 _ _ hD hA hx e1 f (fun y H4 e4 f4 => ?_) fun H4 e4 f4 => ?_
    · have hA4 := e4 _ _ hA
      have hi : i < xs.length := (List.getElem?_eq_some_iff.mp hx).1
      refine ⟨acc, hA4, by omega, acc ++ [y], upd_same, by rw [List.length_append]; show acc.length + 1 ≤ _; omega, Same.mut (e1.trans e4) hD, ?_⟩
      exact hF _ _ _ _ _ (nt_lst hA4) (fun b hb => upd_ne hb) f4
    · exact ⟨acc, e4 _ _ hA, by omega, e1.trans e4, f4⟩
  have hz0 : ∀ D, H D = none → Pv D 0 (upd H D (.lst [])) := fun D hD => ⟨[], upd_same, Nat.le_refl _, Same.new hD, hF _ _ _ _ _ (nt_none hD) (fun b hb => upd_ne hb) (h0 D hD)⟩
  have hdn : ∀ D, H D = none → ∀ H1, Pv D xs.length H1 → Q (.ref D) H1 := fun D hD H1 ⟨acc, h1, h2, h3, h4⟩ => hd D H1 acc hD h3 h1 h2 h4
  rcases hq with hq | hq
  · exact ⟨a, rfl, .inl ⟨⟨xs, hq⟩, fun D hD => lc_list (Pv D) (hz0 D hD) (fun i H1 _ ⟨acc, _, _, e1, _⟩ => Same.sl e1 hq) (key D hD) (hdn D hD)⟩⟩
  · exact ⟨a, rfl, .inr ⟨⟨xs, hq⟩, fun D hD => lc_tup (Pv D) (hz0 D hD) (fun i H1 _ ⟨acc, _, _, e1, _⟩ => Same.st e1 hq) (key D hD) (hdn D hD)⟩⟩
/-- .. facts on tuples -/
theorem lc_seq {a : Addr} {xs : List V} {g : TG} {tt : TT} {te : TE} {vs : List Nat} (hq : Sq K H a xs) (F : Nat → List V → Hp → Prop) (hF : ∀ i acc, Stb (F i acc)) (hz : xs.length < sizeLine) (h0 : F 0 [] H)
    (hs : ∀ i x acc H1 (Y : V → Hp → Prop) (Z : Hp → Prop), xs[i]? = some x → Same H H1 → F i acc H1 → (∀ y H4, Same H1 H4 → F (i + 1) (acc ++ [y]) H4 → Y y H4) → (∀ H4, Same H1 H4 → F (i + 1) acc H4 → Z H4) →
      g x (wipe σ vs) H1 fun σ2 H2 => wipe σ2 vs = wipe σ vs ∧ tt σ2 H2 fun b H3 => if b = true then te σ2 H3 Y else Z H3)
    (hd : ∀ l H2 acc, H l = none → Same H H2 → H2 l = some (.lst acc) → acc.length ≤ xs.length → F xs.length acc H2 → Q (.ref l) H2) :
    tLc (iSeq K fun σ H Q => Q (.ref a) H) g tt te vs σ H Q :=
  lc_seqL hq (fun _ => F) (fun _ i acc _ _ n b f => (hF i acc).but b n f) hz (fun _ _ => h0) (fun _ i x acc H1 Y Z _ _ => hs i x acc H1 Y Z) hd
/-- .. over a range -/
theorem lc_rng {n : Nat} {g : TG} {tt : TT} {te : TE} {vs : List Nat} {wi : TI} (F : Addr → Nat → List V → Hp → Prop) (hF : ∀ D i acc H H2, (∀ xs, ¬ Rd H D (.tup xs)) → But D H H2 → F D i acc H → F D i acc H2) (hz : n < sizeLine) (h0 : ∀ D, H D = none → F D 0 [] H) (hwi : ∀ R : It → Hp → Prop, R (Itr 0 n) H → wi σ H R)
    (hs : ∀ D i acc H1 (Y : V → Hp → Prop) (Z : Hp → Prop), H D = none → H1 D = some (.lst acc) → i < n → Same H H1 → F D i acc H1 → (∀ y H4, Same H1 H4 → F D (i + 1) (acc ++ [y]) H4 → Y y H4) → (∀ H4, Same H1 H4 → F D (i + 1) acc H4 → Z H4) →
      g (.int (i : Int)) (wipe σ vs) H1 fun σ2 H2 => wipe σ2 vs = wipe σ vs ∧ tt σ2 H2 fun b H3 => if b = true then te σ2 H3 Y else Z H3)
    (hd : ∀ l H2 acc, H l = none → Same H H2 → H2 l = some (.lst acc) → acc.length ≤ n → F l n acc H2 → Q (.ref l) H2) :
    tLc wi g tt te vs σ H Q := by
  refine hwi _ fun D hD => ?_
  refine lc_range (lo := 0) (n := n) (fun i H1 => ∃ acc, H1 D = some (.lst acc) ∧ acc.length ≤ i ∧ Same H H1 ∧ F D i acc H1) ⟨[], upd_same, Nat.le_refl _, Same.new hD, hF _ _ _ _ _ (nt_none hD) (fun b hb => upd_ne hb) (h0 D hD)⟩ ?_ fun H1 ⟨acc, h1, h2, h3, h4⟩ => hd D H1 acc hD h3 h1 h2 h4
  rintro i H1 hi ⟨acc, hA, hl, e1, f⟩
  rw [Int.zero_add]
  refine hs D i acc H1 _ _ hD hA hi e1 f (fun y H4 e4 f4 => ?_) fun H4 e4 f4 => ?_
  · have hA4 := e4 _ _ hA
    refine ⟨acc, hA4, by omega, acc ++ [y], upd_same, by rw [List.length_append]; show acc.length + 1 ≤ _; omega, Same.mut (e1.trans e4) hD, ?_⟩
    exact hF _ _ _ _ _ (nt_lst hA4) (fun b hb => upd_ne hb) f4
  · exact ⟨acc, e4 _ _ hA, by omega, e1.trans e4, f4⟩
/-- .. over the keys of a dict -/
theorem lc_dk {a : Addr} {kvs : DK} {g : TG} {tt : TT} {te : TE} {vs : List Nat} (hq : H a = some (.dK kvs)) (F : Nat → List V → Hp → Prop) (hF : ∀ i acc, Stb (F i acc)) (hz : kvs.length < sizeLine) (h0 : F 0 [] H)
    (hs : ∀ i k v acc H1 (Y : V → Hp → Prop) (Z : Hp → Prop), kvs[i]? = some (k, v) → Rd H1 a (.dK kvs) → F i acc H1 → (∀ y H4, Same H1 H4 → F (i + 1) (acc ++ [y]) H4 → Y y H4) → (∀ H4, Same H1 H4 → F (i + 1) acc H4 → Z H4) →
      g (kV k) (wipe σ vs) H1 fun σ2 H2 => wipe σ2 vs = wipe σ vs ∧ tt σ2 H2 fun b H3 => if b = true then te σ2 H3 Y else Z H3)
    (hd : ∀ l H2 acc, H l = none → Same H H2 → H2 l = some (.lst acc) → acc.length ≤ kvs.length → F kvs.length acc H2 → Q (.ref l) H2) :
    tLockE (tLc (iKeys fun σ H Q => Q (.ref a) H) g tt te vs) σ H Q := by
  refine ⟨a, _, hq, trivial, fun od => ?_⟩
  let Hf := upd H a (.frz od (.dK kvs))
  have hf : Hf a = some (.frz od (.dK kvs)) := upd_same
  refine ⟨a, od, rfl, .inl ⟨kvs, hf, fun D hD => ?_⟩⟩
  have nD : D ≠ a := fun z => by rw [z] at hD; exact nomatch (hf.symm.trans hD)
  have hD0 : H D = none := by
    have : Hf D = H D := upd_ne nD
    rw [← this]; exact hD
  have f0 : F 0 [] Hf := (hF _ _).but (fun b hb => upd_ne hb) (nt_dk hq) h0
  refine ⟨fun i m H1 => m = kvs.length - i ∧ i ≤ kvs.length ∧ ∃ acc, H1 D = some (.lst acc) ∧ acc.length ≤ i ∧ Same Hf H1 ∧ F i acc H1,
    ⟨kvs.length, by simp, Nat.zero_le _, [], upd_same, Nat.le_refl _, Same.new hD, (hF _ _).but (fun b hb => upd_ne hb) (nt_none hD) f0⟩, ?_⟩
  rintro i m H1 ⟨rfl, hi, acc, hA, hl, e1, f⟩
  have h1 := e1 _ _ hf
  by_cases hlt : i < kvs.length
  · refine .inr ⟨⟨h1, hlt⟩, fun H' => i + 1 ≤ kvs.length ∧ ∃ acc, H' D = some (.lst acc) ∧ acc.length ≤ i + 1 ∧ Same Hf H' ∧ F (i + 1) acc H', fun H' p' => ⟨kvs.length - (i + 1), by omega, rfl, p'⟩, fun x H' y => ?_⟩
    obtain ⟨rfl, k, v, hk, rfl⟩ := y
    refine hs i k v acc _ _ _ hk (.inr ⟨od, h1⟩) f (fun y H4 e4 f4 => ?_) fun H4 e4 f4 => ?_
    · have hA4 := e4 _ _ hA
      refine ⟨acc, hA4, by omega, hlt, acc ++ [y], upd_same, by rw [List.length_append]; show acc.length + 1 ≤ _; omega, Same.mut (e1.trans e4) hD, ?_⟩
      exact (hF _ _).but (fun b hb => upd_ne hb) (nt_lst hA4) f4
    · exact ⟨hlt, acc, e4 _ _ hA, by omega, e1.trans e4, f4⟩
  · have e : i = kvs.length := by omega
    subst e
    refine .inl ⟨⟨h1, Nat.le_refl _⟩, h1, ?_⟩
    refine hd D _ acc hD0 (lock_same hq e1) (by rw [upd_ne nD]; exact hA) hl ?_
    exact (hF _ _).but (fun b hb => upd_ne hb) (nt_frz h1) f
theorem w_lc {tl : TE} {g : TG} {tt : TT} {te : TE} {vs : List Nat} (q : tl σ H fun x H1 => tLc (iSeq K fun _ H Q => Q x H) g tt te vs σ H1 Q) : tLc (iSeq K tl) g tt te vs σ H Q := q
theorem w_lcd {i : Nat} {a : Addr} {g : TG} {tt : TT} {te : TE} {vs : List Nat} (h : σ[i]? = some (some (.ref a))) (q : tLockE (tLc (iKeys fun _ H Q => Q (.ref a) H) g tt te vs) σ H Q) : tLockE (tLc (iKeys (tVar i)) g tt te vs) σ H Q := by
  obtain ⟨d, u, h1, h2, h3⟩ := q
  exact ⟨d, u, h1, h2, fun od => ⟨_, h, h3 od⟩⟩
/-- {k: v} -/
theorem w_disp {tk tv : TE} (q : ∀ p, H p = none → tk σ (upd H p (.dK [])) fun x H1 => tv σ H1 fun y H2 => H2 p = some (.dK []) ∧ ∃ kvs : DK, [(x, y)] = kvs.map (fun kv => (kV kv.1, kv.2)) ∧ kvs.length ≤ 15 ∧ Q (.ref p) (upd H2 p (.dK (mergeK [] kvs)))) : tDisp [(tk, tv)] σ H Q := q
theorem w_dispE {p : Addr} {s : Int} {v : V} (hp : H p = none) (q : ∀ H3, Same H H3 → H3 p = some (.dK [(Sum.inl s, v)]) → Q (.ref p) H3) :
    (upd H p (.dK [])) p = some (.dK []) ∧ ∃ kvs : DK, [(V.int s, v)] = kvs.map (fun kv => (kV kv.1, kv.2)) ∧ kvs.length ≤ 15 ∧ Q (.ref p) (upd (upd H p (.dK [])) p (.dK (mergeK [] kvs))) :=
  ⟨upd_same, [(Sum.inl s, v)], rfl, (by decide : 1 ≤ 15), q _ (Same.mut (Same.new hp) hp) upd_same⟩
end
theorem pe_disp1 {X : Cx} {pos : Pos} {k v : Expr} {tk tv : TE} (h : PPs X pos [some k] [v] [(tk, tv)]) : PE X (.Dict [some k] [v] pos) (tDisp [(tk, tv)]) := pe_disp h rfl rfl (by simp) (show 1 ≤ 15 by decide)
/-! rules within a comprehension: K is named -/
section
variable {X : Cx} {K : PySem.W.Frag}
theorem op_neAK (hK : X.K = K) (hu : X.A.units + 64 < cLine) : OpR X (compareOp .NotEq) (rNeA K) := hK ▸ op_neA hu
theorem op_eqAK (hK : X.K = K) (hu : X.A.units + 64 < cLine) : OpR X (compareOp .Eq) (rEqA K) := hK ▸ op_eqA hu
theorem op_addAK (hK : X.K = K) : OpR X (binaryOp .Add) (rAddA K) := hK ▸ op_addA
theorem ix_seqK (hK : X.K = K) : IxR X (rIx K) := hK ▸ ix_seq
theorem sl_listAK (hK : X.K = K) : SlR X (rSlQ K) := hK ▸ sl_listA
theorem call_lenAK (hK : X.K = K) : CallR X (.builtin "len") (rLen K) := hK ▸ call_lenA
theorem call_isAK (hK : X.K = K) : CallR X (.builtin "isinstance") (rIsA K) := hK ▸ call_isA
theorem call_listAK (hK : X.K = K) : CallR X (.type "list") (rListA K) := hK ▸ call_listA
theorem call_tupleAK (hK : X.K = K) : CallR X (.type "tuple") (rTupleA K) := hK ▸ call_tupleA
theorem cr_sortAK (hK : X.K = K) : CallR X (.builtin "sorted") (rSortA K) := hK ▸ cr_sortA
end
theorem w_yes {te : TE} {σ : L2.St} {H : Hp} {Y : VK} {Z : Hp → Prop} (q : te σ H Y) : tYes σ H fun b H3 => if b = true then te σ H3 Y else Z H3 := (show (if true = true then te σ H Y else Z H) from (by rw [if_pos rfl]; exact q))
/-! for k in d -/
theorem for_keys {σ : L2.St} {H : Hp} {D : Ends} {g : TG} {tb : TS} {b : Addr} {o : Obj} {kvs : DK} (B : Hp) (hB : B b = some (.frz o (.dK kvs))) (Pv : Nat → L2.St → Hp → Prop) (h0 : Pv 0 σ H) (hl : ∀ i σ H, Pv i σ H → Same B H)
    (hs : ∀ i k v σ H, kvs[i]? = some (k, v) → Pv i σ H → g (kV k) σ H fun σ2 H2 => tb { D with nx := Pv (i + 1), ct := Pv (i + 1), bk := D.nx } σ2 H2) (hd : ∀ σ H, Pv kvs.length σ H → D.nx σ H) :
    ∃ d o', V.ref b = .ref d ∧ ((∃ kvs, H d = some (.frz o' (.dK kvs)) ∧ ForW (Itk d o' kvs) g tb D σ H) ∨ ∃ kvs, H d = some (.frz o' (.dT kvs)) ∧ ForW (Itkt d o' kvs) g tb D σ H) := by
  refine ⟨b, o, rfl, .inl ⟨kvs, hl 0 σ H h0 _ _ hB, fun i m σ H => m = kvs.length - i ∧ i ≤ kvs.length ∧ Pv i σ H, ⟨kvs.length, by simp, Nat.zero_le _, h0⟩, ?_⟩⟩
  rintro i m σ H ⟨rfl, hi, p⟩
  have hb := hl i σ H p _ _ hB
  by_cases hlt : i < kvs.length
  · refine .inr ⟨⟨hb, hlt⟩, Pv (i + 1), fun σ' H' p' => ⟨kvs.length - (i + 1), by omega, rfl, hlt, p'⟩, fun x H' y => ?_⟩
    obtain ⟨e, k, v, hk, rfl⟩ := y
    subst e
    exact hs i k v σ _ hk p
  · have e : i = kvs.length := by omega
    subst e
    exact .inl ⟨⟨hb, Nat.le_refl _⟩, hd σ H p⟩
theorem w_keys {td : TE} {σ : L2.St} {H : Hp} {R : It → Hp → Prop} (q : td σ H fun x H1 => ∃ d o, x = .ref d ∧ ((∃ kvs, H1 d = some (.frz o (.dK kvs)) ∧ R (Itk d o kvs) H1) ∨ ∃ kvs, H1 d = some (.frz o (.dT kvs)) ∧ R (Itkt d o kvs) H1)) : iKeys td σ H R := q
/-- a loop over a dict that is open -/
theorem w_lock {t : TS} {D : Ends} {σ : L2.St} {H : Hp} {d : Addr} {kvs : DK} (h : H d = some (.dK kvs)) (q : ∀ od, t ⟨fun σ' H' => H' d = some (.frz od (.dK kvs)) ∧ D.nx σ' (upd H' d (.dK kvs)), fun v H' => H' d = some (.frz od (.dK kvs)) ∧ D.rt v (upd H' d (.dK kvs)), fun σ' H' => H' d = some (.frz od (.dK kvs)) ∧ D.bk σ' (upd H' d (.dK kvs)), fun σ' H' => H' d = some (.frz od (.dK kvs)) ∧ D.ct σ' (upd H' d (.dK kvs))⟩ σ (upd H d (.frz od (.dK kvs)))) : tLockM t D σ H := .inr ⟨d, _, h, trivial, q⟩
theorem w_nolock {t : TS} {D : Ends} {σ : L2.St} {H : Hp} (q : t D σ H) : tLockM t D σ H := .inl q
theorem dk_get {R : List Pr} {i : Nat} {k : Key} {v : V} (h : (dk R)[i]? = some (k, v)) : ∃ p, R[i]? = some p ∧ k = Sum.inl p.1 ∧ v = .int p.2 := by
  unfold dk at h
  rw [List.getElem?_map] at h
  cases e : R[i]? with
  | none => rw [e] at h; cases h
  | some p => rw [e] at h; cases h; exact ⟨p, rfl, rfl, rfl⟩
theorem w_items {te : TE} {σ : L2.St} {H : Hp} {Q : VK} (q : te σ H fun x H1 => LiI.rItemsL x H1 Q) : LiI.tListItems te σ H Q := q
theorem for_keysR {σ : L2.St} {H : Hp} {D : Ends} {g : TG} {tb : TS} {b : Addr} {o : Obj} {R : List Pr} (B : Hp) (hB : B b = some (.frz o (.dK (dk R)))) (Pv : Nat → L2.St → Hp → Prop) (h0 : Pv 0 σ H) (hl : ∀ i σ H, Pv i σ H → Same B H)
    (hs : ∀ i p σ H, R[i]? = some p → Pv i σ H → g (.int p.1) σ H fun σ2 H2 => tb { D with nx := Pv (i + 1), ct := Pv (i + 1), bk := D.nx } σ2 H2) (hd : ∀ σ H, Pv R.length σ H → D.nx σ H) :
    ∃ d o', V.ref b = .ref d ∧ ((∃ kvs, H d = some (.frz o' (.dK kvs)) ∧ ForW (Itk d o' kvs) g tb D σ H) ∨ ∃ kvs, H d = some (.frz o' (.dT kvs)) ∧ ForW (Itkt d o' kvs) g tb D σ H) := by
  refine for_keys B hB Pv h0 hl (fun i k v σ H hk hp => ?_) (fun σ H p => hd σ H (by rw [length_dk] at p; exact p))
  obtain ⟨p, h1, rfl, rfl⟩ := dk_get hk
  exact hs i p σ H h1 hp
theorem same_upd {H H1 : Hp} {a : Addr} {u : HO} (e : Same H H1) : Same (upd H a u) (upd H1 a u) := fun b v hb => by
  by_cases z : b = a
  · rw [z, upd_same] at hb
    rw [z, upd_same]
    exact hb
  · rw [upd_ne z] at hb
    rw [upd_ne z]
    exact e b v hb
end JP
set_option Elab.async false
set_option linter.all false
set_option maxRecDepth 100000
set_option maxHeartbeats 4000000
namespace JP
open PySem PySem.Spec PyProof.Rows L2
/-! polynomials in the heap -/
def EV (K : PySem.W.Frag) (H : Hp) (v : V) (p : Pr) : Prop := ∃ a, v = .ref a ∧ Sq K H a [.int p.1, .int p.2]
def ET (K : PySem.W.Frag) (H : Hp) (v : V) (p : Pr) : Prop := ∃ a, v = .ref a ∧ SqT K H a [.int p.1, .int p.2]
def EL (H : Hp) (v : V) (p : Pr) : Prop := ∃ a, v = .ref a ∧ H a = some (.lst [.int p.1, .int p.2])
/-- a list or a tuple of pairs -/
def PV (K : PySem.W.Frag) (H : Hp) (v : V) (ps : List Pr) : Prop := ∃ a vs, v = .ref a ∧ Sq K H a vs ∧ Paired (EV K H) vs ps
def pt (p : Pr) : PyData := .tuple [.int p.1, .int p.2]
def pl (p : Pr) : PyData := .list [.int p.1, .int p.2]
/-- a tuple of tuples -/
def PT (K : PySem.W.Frag) (H : Hp) (v : V) (ps : List Pr) : Prop := ∃ a vs, v = .ref a ∧ SqT K H a vs ∧ Paired (ET K H) vs ps
/-- a list of lists -/
def PLL (H : Hp) (a : Addr) (ps : List Pr) : Prop := ∃ vs, H a = some (.lst vs) ∧ Paired (EL H) vs ps
theorem paired_imp {α β : Type} {F G : α → β → Prop} (h : ∀ a b, F a b → G a b) : ∀ {xs : List α} {ys : List β}, Paired F xs ys → Paired G xs ys
  | _, _, .nil => .nil
  | _, _, .cons r t => .cons (h _ _ r) (paired_imp h t)
theorem paired_snoc {α β : Type} {F : α → β → Prop} {a : α} {b : β} (r : F a b) : ∀ {xs : List α} {ys : List β}, Paired F xs ys → Paired F (xs ++ [a]) (ys ++ [b])
  | _, _, .nil => .cons r .nil
  | _, _, .cons r' t => .cons r' (paired_snoc r t)
theorem paired_app {α β : Type} {F : α → β → Prop} : ∀ {xs : List α} {ys : List β} {xs' : List α} {ys' : List β}, Paired F xs ys → Paired F xs' ys' → Paired F (xs ++ xs') (ys ++ ys')
  | _, _, _, _, .nil, h => h
  | _, _, _, _, .cons r' t, h => .cons r' (paired_app t h)
theorem paired_len {α β : Type} {F : α → β → Prop} : ∀ {xs : List α} {ys : List β}, Paired F xs ys → xs.length = ys.length
  | _, _, .nil => rfl
  | _, _, .cons _ t => congrArg (· + 1) (paired_len t)
theorem paired_at {α β : Type} {F : α → β → Prop} : ∀ {xs : List α} {ys : List β}, Paired F xs ys → ∀ {i : Nat} {x : α}, xs[i]? = some x → ∃ y, ys[i]? = some y ∧ F x y := fun h _ _ e => LiI.paired_get h e
theorem paired_take {α β : Type} {F : α → β → Prop} : ∀ {xs : List α} {ys : List β} (n : Nat), Paired F xs ys → Paired F (xs.take n) (ys.take n)
  | _, _, 0, _ => by rw [List.take_zero, List.take_zero]; exact .nil
  | _, _, n + 1, .nil => by rw [List.take_nil, List.take_nil]; exact .nil
  | _, _, n + 1, .cons r t => by rw [List.take_succ_cons, List.take_succ_cons]; exact .cons r (paired_take n t)
section
variable {K : PySem.W.Frag} {H H' : Hp}
theorem ET.ev {v : V} {p : Pr} (h : ET K H v p) : EV K H v p := by obtain ⟨a, e, h⟩ := h; exact ⟨a, e, .inr h⟩
theorem EL.ev {v : V} {p : Pr} (h : EL H v p) : EV K H v p := by obtain ⟨a, e, h⟩ := h; exact ⟨a, e, .inl (SqL.of h)⟩
theorem PT.pv {v : V} {ps : List Pr} (h : PT K H v ps) : PV K H v ps := by
  obtain ⟨a, vs, e, h1, h2⟩ := h
  exact ⟨a, vs, e, .inr h1, paired_imp (fun _ _ => ET.ev) h2⟩
theorem PLL.pv {a : Addr} {ps : List Pr} (h : PLL H a ps) : PV K H (.ref a) ps := by
  obtain ⟨vs, h1, h2⟩ := h
  exact ⟨a, vs, rfl, .inl (SqL.of h1), paired_imp (fun _ _ => EL.ev) h2⟩
theorem Same.ev {v : V} {p : Pr} (e : Same H H') (h : EV K H v p) : EV K H' v p := by obtain ⟨a, e1, h⟩ := h; exact ⟨a, e1, Same.sq e h⟩
theorem Same.et {v : V} {p : Pr} (e : Same H H') (h : ET K H v p) : ET K H' v p := by obtain ⟨a, e1, h⟩ := h; exact ⟨a, e1, Same.st e h⟩
theorem Same.el {v : V} {p : Pr} (e : Same H H') (h : EL H v p) : EL H' v p := by obtain ⟨a, e1, h⟩ := h; exact ⟨a, e1, e _ _ h⟩
theorem Same.evs {vs : List V} {ps : List Pr} (e : Same H H') (h : Paired (EV K H) vs ps) : Paired (EV K H') vs ps := paired_imp (fun _ _ => Same.ev e) h
theorem Same.ets {vs : List V} {ps : List Pr} (e : Same H H') (h : Paired (ET K H) vs ps) : Paired (ET K H') vs ps := paired_imp (fun _ _ => Same.et e) h
theorem Same.els {vs : List V} {ps : List Pr} (e : Same H H') (h : Paired (EL H) vs ps) : Paired (EL H') vs ps := paired_imp (fun _ _ => Same.el e) h
theorem Same.pv {v : V} {ps : List Pr} (e : Same H H') (h : PV K H v ps) : PV K H' v ps := by obtain ⟨a, vs, e1, h1, h2⟩ := h; exact ⟨a, vs, e1, Same.sq e h1, Same.evs e h2⟩
theorem Same.pt {v : V} {ps : List Pr} (e : Same H H') (h : PT K H v ps) : PT K H' v ps := by obtain ⟨a, vs, e1, h1, h2⟩ := h; exact ⟨a, vs, e1, Same.st e h1, Same.ets e h2⟩
theorem Same.pll {a : Addr} {ps : List Pr} (e : Same H H') (h : PLL H a ps) : PLL H' a ps := by obtain ⟨vs, h1, h2⟩ := h; exact ⟨vs, e _ _ h1, Same.els e h2⟩
theorem But.et {l : Addr} {v : V} {p : Pr} (b : But l H H') (n : ∀ xs, ¬ Rd H l (.tup xs)) (h : ET K H v p) : ET K H' v p := by
  obtain ⟨a, e, h⟩ := h
  refine ⟨a, e, ?_⟩
  rcases h with h | h
  · have z : a ≠ l := fun z => n _ (z ▸ h)
    refine .inl ?_
    rcases h with h | ⟨o, h⟩
    · exact .inl (by rw [b a z]; exact h)
    · exact .inr ⟨o, by rw [b a z]; exact h⟩
  · exact .inr h
theorem stb_et (vs : List V) (ps : List Pr) : Stb fun H => Paired (ET K H) vs ps := ⟨fun e h => Same.ets e h, fun b n h => paired_imp (fun _ _ => But.et b n) h⟩
theorem Stb.of {F G : Hp → Prop} (f : Stb F) (h : ∀ H, F H ↔ G H) : Stb G := ⟨fun e g => (h _).mp (f.same e ((h _).mpr g)), fun b n g => (h _).mp (f.but b n ((h _).mpr g))⟩
theorem stb_and {p : Prop} {F : Hp → Prop} (f : Stb F) : Stb fun H => p ∧ F H := ⟨fun e h => ⟨h.1, f.same e h.2⟩, fun b n h => ⟨h.1, f.but b n h.2⟩⟩
theorem tr_pv {v : V} {ps : List Pr} (H : Hp) (e : Same H H') (h : PV K H v ps) : PV K H' v ps := Same.pv e h
theorem tr_pt {v : V} {ps : List Pr} (H : Hp) (e : Same H H') (h : PT K H v ps) : PT K H' v ps := Same.pt e h
theorem tr_pll {a : Addr} {ps : List Pr} (H : Hp) (e : Same H H') (h : PLL H a ps) : PLL H' a ps := Same.pll e h
end
/-! small weights -/
def Wb (b : Nat) (ps : List Pr) : Prop := wt ps < 2 ^ b
theorem Wb.mem {b : Nat} {ps : List Pr} {p : Pr} (h : Wb b ps) (m : p ∈ ps) : p.2.natAbs < 2 ^ b := Nat.lt_of_le_of_lt (wt_in m) h
theorem cf_take_succ (ps : List Pr) (i : Nat) (p : Pr) (h : ps[i]? = some p) (u : Int) : cf (ps.take (i + 1)) u = cf (ps.take i) u + if p.1 = u then p.2 else 0 := by
  rw [List.take_add_one, h, cf_append]
  show cf (ps.take i) u + cf [p] u = _
  simp [cf]
/-! rows of products -/
def row (a : Pr) (q : List Pr) : List Pr := q.map fun b => (a.1 + b.1, a.2 * b.2)
theorem prd_take_succ (ps qs : List Pr) (i : Nat) (p : Pr) (h : ps[i]? = some p) : prd (ps.take (i + 1)) qs = prd (ps.take i) qs ++ row p qs := by
  unfold prd
  rw [List.take_add_one, h, List.flatMap_append]
  show _ = _ ++ row p qs
  simp [row]
theorem cf_row_succ (A : List Pr) (p : Pr) (qs : List Pr) (j : Nat) (q : Pr) (h : qs[j]? = some q) (u : Int) : cf (A ++ (row p qs).take (j + 1)) u = cf (A ++ (row p qs).take j) u + if p.1 + q.1 = u then p.2 * q.2 else 0 := by
  have e : (row p qs)[j]? = some (p.1 + q.1, p.2 * q.2) := by unfold row; rw [List.getElem?_map, h]; rfl
  rw [cf_append, cf_append, cf_take_succ _ _ _ e]
  omega
theorem length_row (p : Pr) (qs : List Pr) : (row p qs).length = qs.length := List.length_map ..
theorem ggcd_drop (R : List Pr) (i : Nat) (p : Pr) (h : R[i]? = some p) (g : Nat) : ggcd (R.drop i) g = ggcd (R.drop (i + 1)) (Nat.gcd g p.2.natAbs) := by
  obtain ⟨h1, h2⟩ := List.getElem?_eq_some_iff.mp h
  rw [List.drop_eq_getElem_cons h1, h2]
  rfl
theorem last_at {R : List Pr} (h : R ≠ []) : R[R.length - 1]? = some (R.getLastD (0, 0)) := by
  rw [← List.getLast?_eq_getElem?, List.getLastD_eq_getLast?]
  cases e : R.getLast? with
  | none => exact absurd (List.getLast?_eq_none_iff.mp e) h
  | some a => rfl
theorem atI_last' {α : Type} {xs : List α} {v : α} (h : xs[xs.length - 1]? = some v) : atI xs (-1) = some v := by
  rw [← List.getLast?_eq_getElem?] at h
  obtain ⟨ys, rfl⟩ := List.getLast?_eq_some_iff.mp h
  exact atI_last _ _
theorem getLastD_mem {R : List Pr} (h : R ≠ []) : R.getLastD (0, 0) ∈ R := List.mem_of_getElem? (last_at h)
theorem head_at {R : List Pr} (h : R ≠ []) : R[0]? = some (R.headD (0, 0)) := by
  cases R with
  | nil => exact absurd rfl h
  | cons a r => rfl
theorem headD_mem {R : List Pr} (h : R ≠ []) : R.headD (0, 0) ∈ R := List.mem_of_getElem? (head_at h)
theorem paired_bt {α β : Type} {F : α → β → Prop} : ∀ {xs : List α} {ys : List β}, Paired F xs ys → ∀ {i : Nat} {y : β}, ys[i]? = some y → ∃ x, xs[i]? = some x ∧ F x y
  | _, _, .cons r _, 0, _, h => by cases h; exact ⟨_, rfl, r⟩
  | _, _, .cons _ t, i + 1, _, h => paired_bt t h
/-! the items of a dict -/
theorem items_ets {K : PySem.W.Frag} {H : Hp} : ∀ {ts : List Addr} {R : List Pr}, Paired (fun (t : Addr) (q : Key × V) => H t = some (.tup [kV q.1, q.2])) ts (dk R) → Paired (ET K H) (ts.map V.ref) R
  | [], [], _ => .nil
  | [], _ :: _, h => by cases h
  | _ :: _, [], h => by cases h
  | t :: ts, p :: R, h => by
    cases h with
    | cons h1 h2 => exact .cons ⟨t, rfl, SqT.of h1⟩ (items_ets h2)
def tkp (ks : List Int) (f : Int → Int) : List Pr := ks.map fun s => (s, f s)
theorem tk_tkp (ks : List Int) (f : Int → Int) : tk ks f = dk (tkp ks f) := by
  unfold tk dk tkp
  rw [List.map_map]
  rfl
theorem cf_tkp {ks : List Int} {f : Int → Int} (t : Tal ks f) (s : Int) : cf (tkp ks f) s = f s := by
  have key : ∀ ks : List Int, ks.Nodup → cf (tkp ks f) s = if s ∈ ks then f s else 0 := by
    intro ks
    induction ks with
    | nil => intro _; rfl
    | cons k r ih =>
      intro h
      obtain ⟨h1, h2⟩ := List.nodup_cons.mp h
      show (if k = s then f k else 0) + cf (tkp r f) s = _
      rw [ih h2]
      by_cases e : k = s
      · rw [if_pos e, if_neg (e ▸ h1), if_pos (e ▸ List.mem_cons_self), e]
        omega
      · rw [if_neg e]
        by_cases m : s ∈ r
        · rw [if_pos m, if_pos (List.mem_cons_of_mem _ m)]; omega
        · rw [if_neg m, if_neg (by simp only [List.mem_cons, not_or]; exact ⟨fun z => e z.symm, m⟩)]; rfl
  rw [key ks t.nd]
  split
  · rfl
  · rename_i h
    rw [t.out s h]
/-- c times -/
def sc (c : Int) (S : List Pr) : List Pr := S.map fun p => (p.1, c * p.2)
theorem cf_sc (c : Int) (S : List Pr) (s : Int) : cf (sc c S) s = c * cf S s := by
  induction S with
  | nil => simp [sc, cf]
  | cons p r ih =>
    show (if p.1 = s then c * p.2 else 0) + cf (sc c r) s = c * ((if p.1 = s then p.2 else 0) + cf r s)
    rw [ih, Int.mul_add]
    split <;> simp
theorem length_sc (c : Int) (S : List Pr) : (sc c S).length = S.length := List.length_map ..
/-! as data -/
def PrD (d : PyData) (p : Pr) : Prop := d = pt p ∨ d = pl p
/-- d is a form of the pairs ps -/
def PD (d : PyData) (ps : List Pr) : Prop := ∃ ds, (d = .list ds ∨ d = .tuple ds) ∧ Paired PrD ds ps
theorem prd_lay : ∀ {ds : List PyData} {ps : List Pr}, Paired PrD ds ps → PyData.canLayAll0 ds = true ∧ PyData.depthAll ds ≤ 1
  | _, _, .nil => ⟨rfl, Nat.zero_le _⟩
  | d :: ds, p :: ps, .cons h t => by
    obtain ⟨a, b⟩ := prd_lay t
    have h1 : d.canLay0 = true ∧ d.depth ≤ 1 := by
      rcases h with rfl | rfl
      · exact ⟨rfl, Nat.le_refl _⟩
      · exact ⟨rfl, Nat.le_refl _⟩
    refine ⟨?_, ?_⟩
    · show (d.canLay0 && PyData.canLayAll0 ds) = true
      rw [h1.1, a]; rfl
    · show max d.depth (PyData.depthAll ds) ≤ 1
      omega
theorem PD.shaped {d : PyData} {ps : List Pr} (h : PD d ps) : SeqAt.shaped d = true ∧ d.canLay0 = true := by
  obtain ⟨ds, h, hp⟩ := h
  obtain ⟨a, b⟩ := prd_lay hp
  have key : d.canLay0 = true ∧ d.depth ≤ 64 := by
    rcases h with rfl | rfl
    · exact ⟨a, by show PyData.depthAll ds + 1 ≤ 64; omega⟩
    · exact ⟨a, by show PyData.depthAll ds + 1 ≤ 64; omega⟩
  refine ⟨?_, key.1⟩
  unfold SeqAt.shaped
  rw [key.1, decide_eq_true key.2]
  rfl
theorem pd_pt (R : List Pr) : PD (.tuple (R.map pt)) R := by
  refine ⟨_, .inr rfl, ?_⟩
  induction R with
  | nil => exact .nil
  | cons p r ih => exact .cons (.inl rfl) ih
theorem ets_dp {K : PySem.W.Frag} {H : Hp} : ∀ {vs : List V} {R : List Pr}, Paired (ET K H) vs R → DpAll K H vs (R.map pt)
  | _, _, .nil => .nil
  | _, _, .cons h t => by
    obtain ⟨a, rfl, h⟩ := h
    exact .cons (.tup h (.cons (.int _) (.cons (.int _) .nil))) (ets_dp t)
theorem PT.dp {K : PySem.W.Frag} {H : Hp} {v : V} {R : List Pr} (h : PT K H v R) : Dp K H v (.tuple (R.map pt)) := by
  obtain ⟨a, vs, rfl, h1, h2⟩ := h
  exact .tup h1 (ets_dp h2)
theorem dpa_evs {K : PySem.W.Frag} {H : Hp} : ∀ {ds : List PyData} {ps : List Pr} {vs : List V}, Paired PrD ds ps → DpAll K H vs ds → Paired (EV K H) vs ps
  | [], [], _, _, h => by cases h; exact .nil
  | [], _ :: _, _, h, _ => by cases h
  | _ :: _, [], _, h, _ => by cases h
  | d :: ds, p :: ps, _, h, q => by
    cases h with
    | cons h t =>
      cases q with
      | cons q r =>
        refine .cons ?_ (dpa_evs t r)
        rcases h with rfl | rfl
        · cases q with
          | tup hs ha =>
            cases ha with
            | cons h1 ha => cases ha with
              | cons h2 ha => cases ha; cases h1; cases h2; exact ⟨_, rfl, .inr hs⟩
        · cases q with
          | lst hs ha =>
            cases ha with
            | cons h1 ha => cases ha with
              | cons h2 ha => cases ha; cases h1; cases h2; exact ⟨_, rfl, .inl hs⟩
theorem PD.pv {K : PySem.W.Frag} {H : Hp} {v : V} {d : PyData} {ps : List Pr} (h : PD d ps) (q : Dp K H v d) : PV K H v ps := by
  obtain ⟨ds, h | h, hp⟩ := h
  · subst h
    cases q with
    | lst hs ha => exact ⟨_, _, rfl, .inl hs, dpa_evs hp ha⟩
  · subst h
    cases q with
    | tup hs ha => exact ⟨_, _, rfl, .inr hs, dpa_evs hp ha⟩
theorem asc_max {R : List Pr} (a : Asc R) {m : Int} (hm : m ∈ R.map (·.1)) (h : ∀ y ∈ R.map (·.1), y ≤ m) : m = (R.getLastD (0, 0)).1 := by
  have hn : R ≠ [] := fun z => by rw [z] at hm; cases hm
  have h1 := h _ (List.mem_map_of_mem (getLastD_mem hn))
  obtain ⟨p, hp, rfl⟩ := List.mem_map.mp hm
  obtain ⟨i, hi, rfl⟩ := List.mem_iff_getElem.mp hp
  obtain ⟨hj, e⟩ := List.getElem?_eq_some_iff.mp (last_at hn)
  by_cases z : i = R.length - 1
  · subst z
    rw [e]
  · have := List.pairwise_iff_getElem.mp a i (R.length - 1) hi hj (by omega)
    rw [e] at this
    omega
theorem asc_min {R : List Pr} (a : Asc R) {m : Int} (hm : m ∈ R.map (·.1)) (h : ∀ y ∈ R.map (·.1), m ≤ y) : m = (R.headD (0, 0)).1 := by
  have hn : R ≠ [] := fun z => by rw [z] at hm; cases hm
  have h1 := h _ (List.mem_map_of_mem (headD_mem hn))
  obtain ⟨p, hp, rfl⟩ := List.mem_map.mp hm
  obtain ⟨i, hi, rfl⟩ := List.mem_iff_getElem.mp hp
  obtain ⟨hj, e⟩ := List.getElem?_eq_some_iff.mp (head_at hn)
  by_cases z : i = 0
  · subst z
    rw [e]
  · have := List.pairwise_iff_getElem.mp a 0 i hj hi (by omega)
    rw [e] at this
    omega
theorem Wb.mono {a b : Nat} {ps : List Pr} (h : Wb a ps) (l : a ≤ b) : Wb b ps := Nat.lt_of_lt_of_le h (Nat.pow_le_pow_right (by decide) l)
theorem Wb.of {b : Nat} {ps R : List Pr} (h : Wb b ps) (i : IsP (cf ps) R) : Wb b R := Nat.lt_of_le_of_lt (IsP.wt_le i) h
theorem one_mul_ok {t : Pr} {b : Nat} {S : List Pr} (h : Wb b S) (hb : b < 900000) (m : t ∈ S) : CMulW 1 t.2 := Sm.mulOk (a := 1) (b := b) (by decide) (Wb.mem h m) (by omega)
theorem cf_sum {ps qs R S : List Pr} (h : IsP (cf ps) R) (h' : IsP (cf qs) S) (s : Int) : cf (ps ++ qs) s = cf (R ++ sc 1 S) s := by rw [cf_append, cf_append, cf_sc, h.cfs, h'.cfs, Int.one_mul]
theorem cf_sum' {ps qs R S : List Pr} (h : IsP (cf ps) R) (h' : IsP (cf qs) S) (s : Int) : cf (qs ++ ps) s = cf (R ++ sc 1 S) s := by rw [cf_append, cf_append, cf_sc, h.cfs, h'.cfs, Int.one_mul]; omega
theorem cf_prod {ps qs R S : List Pr} (h : IsP (cf ps) R) (h' : IsP (cf qs) S) (s : Int) : cf (prd ps qs) s = cf (prd R S) s := prd_both (fun s => (h.cfs s).symm) (fun s => (h'.cfs s).symm) s
/-! new lists of pairs -/
section
variable {K : PySem.W.Frag} {σ : L2.St} {H : Hp} {Q : VK}
def ELd (D : Addr) (H : Hp) (v : V) (p : Pr) : Prop := ∃ a, v = .ref a ∧ a ≠ D ∧ H a = some (.lst [.int p.1, .int p.2])
theorem ELd.el {D : Addr} {v : V} {p : Pr} (h : ELd D H v p) : EL H v p := by obtain ⟨a, e, _, h⟩ := h; exact ⟨a, e, h⟩
theorem wipe_again (σ : L2.St) (j : Nat) (x : Option V) : wipe ((wipe σ [j]).set j x) [j] = wipe σ [j] := by
  show (((σ.set j none).set j x).set j none) = σ.set j none
  rw [List.set_set, List.set_set]
theorem map_take_snoc {α : Type} (f : Pr → α) (ps : List Pr) (i : Nat) (p : Pr) (h : ps[i]? = some p) : (ps.map f).take (i + 1) = (ps.map f).take i ++ [f p] := by
  rw [List.take_add_one, List.getElem?_map, h]
  rfl
theorem lc_lists {a : Addr} {ps : List Pr} {te : TE} {j : Nat} (f : Pr → Pr) (hv : PV K H (.ref a) ps) (hz : ps.length < 16777216)
    (hs : ∀ p b H1 (Y : V → Hp → Prop), p ∈ ps → Same H H1 → Sq K H1 b [.int p.1, .int p.2] → (∀ t H4, H1 t = none → Same H1 H4 → H4 t = some (.lst [.int (f p).1, .int (f p).2]) → Y (.ref t) H4) → te ((wipe σ [j]).set j (some (.ref b))) H1 Y)
    (q : ∀ l H2, H l = none → Same H H2 → PLL H2 l (ps.map f) → Q (.ref l) H2) : tLc (iSeq K fun σ H Q => Q (.ref a) H) (gName j) tYes te [j] σ H Q := by
  obtain ⟨b, vs, e, hq, hp⟩ := hv
  cases e
  have hl := paired_len hp
  refine lc_seqL hq (fun D i acc H => Paired (ELd D H) acc ((ps.map f).take i)) (fun D i acc H H2 _ b h => paired_imp (fun v p ⟨a, e, n, h⟩ => ⟨a, e, n, by rw [b a n]; exact h⟩) h) (size_of (by omega)) (fun D _ => .nil) ?_ ?_
  · rintro D i x acc H1 Y Z hD hA hi s1 hP hY hZ
    obtain ⟨p, hpi, c, rfl, hc⟩ := paired_at hp hi
    refine w_name ⟨wipe_again _ _ _, w_yes (hs p c H1 Y (List.mem_of_getElem? hpi) s1 (Same.sq s1 hc) fun t H4 n4 s4 e4 => hY _ _ s4 ?_)⟩
    rw [map_take_snoc f ps i p hpi]
    refine paired_snoc ⟨t, rfl, fun z => ?_, e4⟩ (paired_imp (fun v p ⟨a, e, n, h⟩ => ⟨a, e, n, s4 _ _ h⟩) hP)
    rw [z, hA] at n4
    cases n4
  · rintro l H2 acc n2 s2 e2 _ hP
    rw [hl, ← List.length_map (f := f), List.take_length] at hP
    exact q l H2 n2 s2 ⟨acc, e2, paired_imp (fun _ _ => ELd.el) hP⟩
theorem lc_tups {a : Addr} {ps : List Pr} {te : TE} {j : Nat} (f : Pr → Pr) (hv : PV K H (.ref a) ps) (hz : ps.length < 16777216)
    (hs : ∀ p b H1 (Y : V → Hp → Prop), p ∈ ps → Same H H1 → Sq K H1 b [.int p.1, .int p.2] → (∀ t H4, H1 t = none → Same H1 H4 → H4 t = some (.tup [.int (f p).1, .int (f p).2]) → Y (.ref t) H4) → te ((wipe σ [j]).set j (some (.ref b))) H1 Y)
    (q : ∀ l H2 acc, H l = none → Same H H2 → H2 l = some (.lst acc) → Paired (ET K H2) acc (ps.map f) → Q (.ref l) H2) : tLc (iSeq K fun σ H Q => Q (.ref a) H) (gName j) tYes te [j] σ H Q := by
  obtain ⟨b, vs, e, hq, hp⟩ := hv
  cases e
  have hl := paired_len hp
  refine lc_seq hq (fun i acc H => Paired (ET K H) acc ((ps.map f).take i)) (fun i acc => stb_et _ _) (size_of (by omega)) .nil ?_ ?_
  · rintro i x acc H1 Y Z hi s1 hP hY hZ
    obtain ⟨p, hpi, c, rfl, hc⟩ := paired_at hp hi
    refine w_name ⟨wipe_again _ _ _, w_yes (hs p c H1 Y (List.mem_of_getElem? hpi) s1 (Same.sq s1 hc) fun t H4 n4 s4 e4 => hY _ _ s4 ?_)⟩
    rw [map_take_snoc f ps i p hpi]
    exact paired_snoc ⟨t, rfl, SqT.of e4⟩ (Same.ets s4 hP)
  · rintro l H2 acc n2 s2 e2 _ hP
    rw [hl, ← List.length_map (f := f), List.take_length] at hP
    exact q l H2 acc n2 s2 e2 hP
theorem els_dp : ∀ {vs : List V} {R : List Pr}, Paired (EL H) vs R → DpAll K H vs (R.map pl)
  | _, _, .nil => .nil
  | _, _, .cons h t => by
    obtain ⟨a, rfl, h⟩ := h
    exact .cons (.lst (SqL.of h) (.cons (.int _) (.cons (.int _) .nil))) (els_dp t)
/-- an item of a new list l, as data -/
def EA (K : PySem.W.Frag) (H : Hp) (l : Addr) (v : V) (d : PyData) : Prop := ∃ a p, v = .ref a ∧ a ≠ l ∧ ((d = pt p ∧ SqT K H a [.int p.1, .int p.2]) ∨ (d = pl p ∧ SqL K H a [.int p.1, .int p.2]))
theorem EA.same {H' : Hp} {l : Addr} {v : V} {d : PyData} (e : Same H H') (h : EA K H l v d) : EA K H' l v d := by
  obtain ⟨a, p, e1, n, h | h⟩ := h
  · exact ⟨a, p, e1, n, .inl ⟨h.1, Same.st e h.2⟩⟩
  · exact ⟨a, p, e1, n, .inr ⟨h.1, Same.sl e h.2⟩⟩
theorem EA.but {H' : Hp} {l : Addr} {v : V} {d : PyData} {ys : List V} (b : But l H H') (hl : H l = some (.lst ys)) (h : EA K H l v d) : EA K H' l v d := by
  obtain ⟨a, p, e1, n, h | h⟩ := h
  · exact ⟨a, p, e1, n, .inl ⟨h.1, b.st hl trivial h.2⟩⟩
  · exact ⟨a, p, e1, n, .inr ⟨h.1, b.sl n h.2⟩⟩
theorem EA.dp {l : Addr} {v : V} {d : PyData} (h : EA K H l v d) : Dp K H v d := by
  obtain ⟨a, p, rfl, n, ⟨rfl, h⟩ | ⟨rfl, h⟩⟩ := h
  · exact .tup h (.cons (.int _) (.cons (.int _) .nil))
  · exact .lst h (.cons (.int _) (.cons (.int _) .nil))
theorem eas_dp {l : Addr} : ∀ {vs : List V} {ds : List PyData}, Paired (EA K H l) vs ds → DpAll K H vs ds
  | _, _, .nil => .nil
  | _, _, .cons h t => .cons h.dp (eas_dp t)
end
/-! the forms -/
def mix : Nat → List Pr → List PyData
  | _, [] => []
  | n, p :: r => (if n = 1 ∨ n = 2 then pl p else pt p) :: mix (n + 1) r
theorem mix_snoc (p : Pr) : ∀ (ps : List Pr) (n : Nat), mix n (ps ++ [p]) = mix n ps ++ [if n + ps.length = 1 ∨ n + ps.length = 2 then pl p else pt p]
  | [], n => rfl
  | q :: r, n => by
    show _ :: mix (n + 1) (r ++ [p]) = _ :: (mix (n + 1) r ++ _)
    rw [mix_snoc p r (n + 1), List.length_cons, show n + 1 + r.length = n + (r.length + 1) by omega]
theorem mix_prd : ∀ (ps : List Pr) (n : Nat), Paired PrD (mix n ps) ps
  | [], _ => .nil
  | p :: r, n => by
    refine .cons ?_ (mix_prd r (n + 1))
    split
    · exact .inr rfl
    · exact .inl rfl
def pdf (form : Int) (ps : List Pr) : PyData :=
  if form = 0 then .list (ps.map pl) else if form = 1 then .list (ps.map pt) else if form = 2 then .tuple (ps.map pl) else if form = 3 then .tuple (ps.map pt) else .list (mix 0 ps)
theorem pr_pl : ∀ ps : List Pr, Paired PrD (ps.map pl) ps
  | [] => .nil
  | _ :: r => .cons (.inr rfl) (pr_pl r)
theorem pr_pt : ∀ ps : List Pr, Paired PrD (ps.map pt) ps
  | [] => .nil
  | _ :: r => .cons (.inl rfl) (pr_pt r)
theorem pdf_pd (form : Int) (ps : List Pr) : PD (pdf form ps) ps := by
  unfold pdf
  split
  · exact ⟨_, .inl rfl, pr_pl ps⟩
  split
  · exact ⟨_, .inl rfl, pr_pt ps⟩
  split
  · exact ⟨_, .inr rfl, pr_pl ps⟩
  split
  · exact ⟨_, .inr rfl, pr_pt ps⟩
  · exact ⟨_, .inl rfl, mix_prd ps 0⟩
/-! another list of the same polynomial -/
def oth2 (ps : List Pr) (d : Int) : List Pr :=
  if d = 0 ∧ 2 * ps.length ≤ 40 then ps.map (fun p => (p.1, p.2.fdiv 2)) ++ ps.map (fun p => (p.1, p.2 - p.2.fdiv 2)) else if d = 1 ∧ ps.length + 2 ≤ 40 then [(20, 0)] ++ ps ++ [(-20, 0)] else ps.reverse
theorem cf_halves (ps : List Pr) (s : Int) : cf (ps.map (fun p => (p.1, p.2.fdiv 2))) s + cf (ps.map (fun p => (p.1, p.2 - p.2.fdiv 2))) s = cf ps s := by
  induction ps with
  | nil => rfl
  | cons p r ih =>
    show (if p.1 = s then p.2.fdiv 2 else 0) + cf (r.map _) s + ((if p.1 = s then p.2 - p.2.fdiv 2 else 0) + cf (r.map _) s) = (if p.1 = s then p.2 else 0) + cf r s
    split <;> omega
theorem cf_rev (ps : List Pr) (s : Int) : cf ps.reverse s = cf ps s := by
  induction ps with
  | nil => rfl
  | cons p r ih =>
    rw [List.reverse_cons, cf_append, ih]
    show cf r s + ((if p.1 = s then p.2 else 0) + 0) = (if p.1 = s then p.2 else 0) + cf r s
    omega
theorem cf_oth (ps : List Pr) (d s : Int) : cf (oth2 ps d) s = cf ps s := by
  unfold oth2
  split
  · rw [cf_append, cf_halves]
  split
  · rw [cf_append, cf_append]
    show (if (20 : Int) = s then (0 : Int) else 0) + 0 + cf ps s + ((if (-20 : Int) = s then (0 : Int) else 0) + 0) = cf ps s
    split <;> split <;> omega
  · exact cf_rev ps s
def Sml (ps : List Pr) : Prop := ps.length ≤ 40 ∧ ∀ p ∈ ps, p.2.natAbs ≤ 1000000000
theorem oth_sml {ps : List Pr} (h : Sml ps) (d : Int) : Sml (oth2 ps d) := by
  unfold oth2
  split
  · rename_i e
    refine ⟨by rw [List.length_append, List.length_map, List.length_map]; omega, fun p hp => ?_⟩
    rcases List.mem_append.mp hp with hp | hp
    · obtain ⟨t, ht, rfl⟩ := List.mem_map.mp hp
      have := h.2 t ht
      show (t.2.fdiv 2).natAbs ≤ _
      rw [Int.fdiv_eq_ediv_of_nonneg _ (by decide)]
      omega
    · obtain ⟨t, ht, rfl⟩ := List.mem_map.mp hp
      have := h.2 t ht
      show (t.2 - t.2.fdiv 2).natAbs ≤ _
      rw [Int.fdiv_eq_ediv_of_nonneg _ (by decide)]
      omega
  split
  · rename_i e
    refine ⟨by rw [List.length_append, List.length_append]; show 1 + ps.length + 1 ≤ 40; omega, fun p hp => ?_⟩
    rcases List.mem_append.mp hp with hp | hp
    · rcases List.mem_append.mp hp with hp | hp
      · rw [List.mem_singleton.mp hp]; decide
      · exact h.2 p hp
    · rw [List.mem_singleton.mp hp]; decide
  · exact ⟨by rw [List.length_reverse]; exact h.1, fun p hp => h.2 p (List.mem_reverse.mp hp)⟩
theorem wt_le {b : Nat} : ∀ {ps : List Pr}, (∀ p ∈ ps, p.2.natAbs ≤ b) → wt ps ≤ ps.length * b
  | [], _ => Nat.zero_le _
  | p :: r, h => by
    have h1 := h p List.mem_cons_self
    have h2 := wt_le (ps := r) fun q hq => h q (List.mem_cons_of_mem _ hq)
    show p.2.natAbs + wt r ≤ (r.length + 1) * b
    rw [Nat.add_mul]
    omega
theorem Sml.wt {ps : List Pr} (h : Sml ps) : wt ps ≤ 40000000000 := Nat.le_trans (wt_le h.2) (Nat.mul_le_mul_right _ h.1)
theorem Sml.wb {ps : List Pr} (h : Sml ps) : Wb 36 ps := Nat.lt_of_le_of_lt h.wt (by decide)
theorem cutV_at (xs : List V) (a b : Nat) (h : a ≤ b) (hb : b ≤ xs.length) : cutV xs (some (a : Int)) (some (b : Int)) = (xs.drop a).take (b - a) := by
  unfold cutV
  rw [HT.sIx_nat, HT.sIx_nat, Nat.min_eq_left hb, Nat.min_eq_left (Nat.le_trans h hb)]
theorem cutV_take (xs : List V) (b : Nat) (hb : b ≤ xs.length) : cutV xs none (some (b : Int)) = xs.take b := by
  unfold cutV
  rw [HT.sIx_nat, HT.sIx_none, Nat.min_eq_left hb, List.drop_zero, Nat.sub_zero]
/-- an item of a part -/
theorem part_at {xs : List V} {a n j : Nat} {v : V} (h : xs[a + j]? = some v) (hj : j < n) : atI ((xs.drop a).take n) (j : Int) = some v := by
  refine atI_nat ?_
  rw [List.getElem?_take_of_lt hj, List.getElem?_drop]
  exact h
end JP
set_option Elab.async false
set_option linter.all false
set_option maxRecDepth 100000
set_option maxHeartbeats 4000000
namespace JP
open PySem PySem.Spec PyProof.Rows L2
structure Tx (K : PySem.W.Frag) (mg : Str → Option Value) : Prop where
  at_polynomial : At K mg "polynomial" (top 34)
  at_normal_polynomial : At K mg "normal_polynomial" (top 35)
  at_span : At K mg "span" (top 36)
  at_poly_plus : At K mg "poly_plus" (top 37)
  at_poly_times : At K mg "poly_times" (top 38)
  at__law_whole : At K mg "_law_whole" (top 40)
  at__law_cell : At K mg "_law_cell" (top 41)
  at__law_digits : At K mg "_law_digits" (top 42)
  at__law_gcd : At K mg "_law_gcd" (top 43)
  at__law_poly : At K mg "_law_poly" (top 44)
  at__law_add : At K mg "_law_add" (top 45)
  at__law_mul : At K mg "_law_mul" (top 46)
  at__law_pairs : At K mg "_law_pairs" (top 47)
  at__law_normal : At K mg "_law_normal" (top 48)
  at__law_is_poly : At K mg "_law_is_poly" (top 49)
  at__law_coefficient : At K mg "_law_coefficient" (top 50)
  at__law_drawn : At K mg "_law_drawn" (top 51)
  at__law_passed : At K mg "_law_passed" (top 52)
  at__law_other_pairs : At K mg "_law_other_pairs" (top 53)
  at__law_another : At K mg "_law_another" (top 54)
  at__law_spanless : At K mg "_law_spanless" (top 55)
  at__law_is : At K mg "_law_is" (top 56)
  at__law_alone : At K mg "_law_alone" (top 57)
  at__law_right : At K mg "_law_right" (top 58)
  at__law_next : At K mg "_law_next" (top 59)
  at_law : At K mg "law" (top 60)
  g_RowError : mg "RowError" = some (.ref (He.ga K "RowError"))
  g_NoQuotient : mg "NoQuotient" = some (.ref (He.ga K "NoQuotient"))
  g_ZeroPolynomial : mg "ZeroPolynomial" = some (.ref (He.ga K "ZeroPolynomial"))
  g_ZeroSum : mg "ZeroSum" = some (.ref (He.ga K "ZeroSum"))
  g_NoRows : mg "NoRows" = some (.ref (He.ga K "NoRows"))
  g_BadName : mg "BadName" = some (.ref (He.ga K "BadName"))
  g_RowTwice : mg "RowTwice" = some (.ref (He.ga K "RowTwice"))
  g_UnknownRow : mg "UnknownRow" = some (.ref (He.ga K "UnknownRow"))
  g_RowsDiffer : mg "RowsDiffer" = some (.ref (He.ga K "RowsDiffer"))
  g_SpotTwice : mg "SpotTwice" = some (.ref (He.ga K "SpotTwice"))
  g_BadStretch : mg "BadStretch" = some (.ref (He.ga K "BadStretch"))
  g_ShortStretch : mg "ShortStretch" = some (.ref (He.ga K "ShortStretch"))
  g_TooLong : mg "TooLong" = some (.ref (He.ga K "TooLong"))
  g_CannotStand : mg "CannotStand" = some (.ref (He.ga K "CannotStand"))
  g_Broken : mg "Broken" = some (.ref (He.ga K "Broken"))
  g_NotFinite : mg "NotFinite" = some (.ref (He.ga K "NotFinite"))
  g_BadParts : mg "BadParts" = some (.ref (He.ga K "BadParts"))
  g_Barred : mg "Barred" = some (.ref (He.ga K "Barred"))
  g_NotCourse : mg "NotCourse" = some (.ref (He.ga K "NotCourse"))
  g_BreaksOwnRule : mg "BreaksOwnRule" = some (.ref (He.ga K "BreaksOwnRule"))
  g_NotBlocked : mg "NotBlocked" = some (.ref (He.ga K "NotBlocked"))
  g_Unsure : mg "Unsure" = some (.ref (He.ga K "Unsure"))
  g_Contradiction : mg "Contradiction" = some (.ref (He.ga K "Contradiction"))
  g_NotStricter : mg "NotStricter" = some (.ref (He.ga K "NotStricter"))
  g_NoFamilies : mg "NoFamilies" = some (.ref (He.ga K "NoFamilies"))
  g_NotLet : mg "NotLet" = some (.ref (He.ga K "NotLet"))
  g_NotFree : mg "NotFree" = some (.ref (He.ga K "NotFree"))
  g_NotTimely : mg "NotTimely" = some (.ref (He.ga K "NotTimely"))
  g_NotEntered : mg "NotEntered" = some (.ref (He.ga K "NotEntered"))
  g_NothingToUndo : mg "NothingToUndo" = some (.ref (He.ga K "NothingToUndo"))
  g_BadNotation : mg "BadNotation" = some (.ref (He.ga K "BadNotation"))
  i_gcd : mg "gcd" = some (.builtin "math.gcd")
  n_ValueError : mg "ValueError" = none
  n_abs : mg "abs" = none
  n_bool : mg "bool" = none
  n_int : mg "int" = none
  n_isinstance : mg "isinstance" = none
  n_len : mg "len" = none
  n_list : mg "list" = none
  n_max : mg "max" = none
  n_min : mg "min" = none
  n_range : mg "range" = none
  n_sorted : mg "sorted" = none
  n_tuple : mg "tuple" = none
  x_ZeroPolynomial : ExcPlain K "ZeroPolynomial"
  xc_ZeroPolynomial : ExcC K (He.ga K "ZeroPolynomial")
  koR_ZeroPolynomial : PySem.W.kitOne K (.ref (He.ga K "ZeroPolynomial")) (.ref (He.ga K "RowError")) = some true
  koV_ZeroPolynomial : PySem.W.kitOne K (.ref (He.ga K "ZeroPolynomial")) (.type "ValueError") = some true
  ko_ZeroPolynomial : PySem.W.kitOne K (.ref (He.ga K "ZeroPolynomial")) (.ref (He.ga K "ZeroPolynomial")) = some true
  ka_ZeroPolynomial : PySem.W.kitAny K (.ref (He.ga K "ZeroPolynomial")) [.ref (He.ga K "BadName"), .ref (He.ga K "BadNotation"), .ref (He.ga K "BadParts"), .ref (He.ga K "BadStretch"), .ref (He.ga K "Barred"), .ref (He.ga K "BreaksOwnRule"), .ref (He.ga K "Broken"), .ref (He.ga K "CannotStand"), .ref (He.ga K "Contradiction"), .ref (He.ga K "NoFamilies"), .ref (He.ga K "NoQuotient"), .ref (He.ga K "NoRows"), .ref (He.ga K "NotBlocked"), .ref (He.ga K "NotCourse"), .ref (He.ga K "NotEntered"), .ref (He.ga K "NotFinite"), .ref (He.ga K "NotFree"), .ref (He.ga K "NotLet"), .ref (He.ga K "NotStricter"), .ref (He.ga K "NotTimely"), .ref (He.ga K "NothingToUndo"), .ref (He.ga K "RowTwice"), .ref (He.ga K "RowsDiffer"), .ref (He.ga K "ShortStretch"), .ref (He.ga K "SpotTwice"), .ref (He.ga K "TooLong"), .ref (He.ga K "UnknownRow"), .ref (He.ga K "Unsure"), .ref (He.ga K "ZeroSum")] = some false
  em_ZeroPolynomial : PySem.W.exmOne K (.ref (He.ga K "ZeroPolynomial")) (.ref (He.ga K "ZeroPolynomial")) = some true
  emR_ZeroPolynomial : PySem.W.exmOne K (.ref (He.ga K "ZeroPolynomial")) (.ref (He.ga K "RowError")) = some true
local macro_rules | `(tactic| walk_at "w1") => `(tactic| first
  | with_reducible refine w_seq ?_
  | with_reducible refine w_asg ?_
  | with_reducible refine w_name ?_
  | with_reducible refine w_op ?_
  | ((with_reducible refine w_var ?v ?h ?q); (case h => exact rfl))
  | with_reducible refine w_c ?_
  | with_reducible refine w_ret ?_
  | with_reducible refine w_if ?_
  | with_reducible refine w_drop ?_
  | with_reducible refine w_next ?_
  | with_reducible refine w_un ?_
  | with_reducible refine w_p18 ?_
  | with_reducible refine w_p30 ?_
  | with_reducible refine w_p6 ?_
  | with_reducible refine w_p9 ?_
  | with_reducible refine w_p12 ?_
  | with_reducible refine w_p15 ?_
  | with_reducible refine w_p24 ?_
  | with_reducible refine w_slice ?_
  | with_reducible refine w_part ?_
  | with_reducible refine w_nopart ?_
  | with_reducible refine w_ei ?_
  | with_reducible refine w_for ?_
  | with_reducible refine w_rng1 ?_
  | with_reducible refine w_rng2 ?_
  | with_reducible refine w_iseq ?_
  | ((with_reducible refine w_I ?c ?q); (case c => walk_at "side"))
  | ((with_reducible refine w_len ?xs ?h ?q); (case h => walk_at "tr"))
  | with_reducible refine w_cb ?_
  | with_reducible refine w_cons ?_
  | with_reducible refine w_nil ?_
  | with_reducible refine w_test ?_
  | with_reducible refine w_B ?_
  | with_reducible refine w_bl ?_
  | with_reducible refine w_and ?_
  | with_reducible refine w_or ?_
  | with_reducible refine w_not ?_
  | with_reducible refine w_andV ?_
  | with_reducible refine w_orV ?_
  | with_reducible refine w_notV ?_
  | with_reducible refine w_ifE ?_
  | with_reducible refine w_call ?_
  | with_reducible refine w_bm ?_
  | ((with_reducible refine w_tyl ?xs ?h ?q); (case h => assumption))
  | with_reducible refine w_bm0 ?_
  | with_reducible refine w_bits ?_
  | with_reducible refine w_tup ?_
  | with_reducible refine w_lst ?_
  | with_reducible refine w_I0 ?_
  | with_reducible refine w_U ?_
  | with_reducible refine w_add ?_
  | with_reducible refine w_eqI ?_
  | with_reducible refine w_neI ?_
  | with_reducible refine w_eqS ?_
  | with_reducible refine w_neS ?_
  | with_reducible refine w_int ?_
  | with_reducible refine w_abs ?_
  | with_reducible refine w_gcd ?_
  | walk_at "w2")
local macro_rules | `(tactic| walk_at "w2") => `(tactic| fail)
local macro_rules | `(tactic| walk_at "rd") => `(tactic| first | with_reducible assumption | ((with_reducible refine Rd.of ?_); walk_at "tr"))
local macro_rules | `(tactic| walk_at "w") => `(tactic| repeat (walk_at "w1"))
local macro_rules | `(tactic| walk_at "w0") => `(tactic| simp only [cxOf_K, L2.start, List.map_cons, List.map_nil, List.length_cons, List.length_nil, Nat.reduceAdd, Nat.reduceSub, List.replicate_succ, List.replicate_zero, List.cons_append, List.nil_append])
local macro_rules | `(tactic| walk_at "side") => `(tactic| first | assumption | (exact small_div (by omega) (by omega)) | (exact small_mul (by omega) (by omega)) | (exact med_mul (by omega) (by omega)) | (exact big_mul (by omega) (by omega)) | (exact ⟨by decide, by decide, by decide⟩) | (show (0 : Int) < _; omega))
local macro_rules | `(tactic| walk_at "ch") => `(tactic| first
  | with_reducible assumption
  | with_reducible exact Same.refl _
  | ((with_reducible refine tr_at ?H ?e ?h); (case e => with_reducible assumption); (case h => walk_at "ch"))
  | ((with_reducible refine tr_st ?H ?e ?h); (case e => with_reducible assumption); (case h => walk_at "ch"))
  | ((with_reducible refine tr_sl ?H ?e ?h); (case e => with_reducible assumption); (case h => walk_at "ch"))
  | ((with_reducible refine tr_same ?H ?e ?h); (case e => with_reducible assumption); (case h => walk_at "ch"))
  | ((with_reducible refine tr_sq ?H ?e ?h); (case e => with_reducible assumption); (case h => walk_at "ch"))
  | ((with_reducible refine tr_dp ?H ?e ?h); (case e => with_reducible assumption); (case h => walk_at "ch"))
  | walk_at "tr2")
local macro_rules | `(tactic| walk_at "tr") => `(tactic| first
  | walk_at "ch"
  | ((with_reducible refine tr_eq ?u ?h ?e); (case h => walk_at "ch"); (case e => rfl))
  | ((with_reducible refine tr_eqt ?u ?h ?e); (case h => walk_at "ch"); (case e => rfl))
  | ((with_reducible refine tr_eql ?u ?h ?e); (case h => walk_at "ch"); (case e => rfl))
  | ((with_reducible refine SqT.of ?_); first | walk_at "ch" | ((with_reducible refine tr_eq ?u ?h ?e); (case h => walk_at "ch"); (case e => rfl)))
  | ((with_reducible refine SqL.of ?_); first | walk_at "ch" | ((with_reducible refine tr_eq ?u ?h ?e); (case h => walk_at "ch"); (case e => rfl)))
  | ((with_reducible refine sq_l ?_); walk_at "tr")
  | ((with_reducible refine sq_t ?_); walk_at "tr"))
local macro_rules | `(tactic| walk_at "tr2") => `(tactic| fail)
local macro_rules | `(tactic| walk_at "sz") => `(tactic| (simp only [List.length_cons, List.length_nil, List.length_append, List.length_map]; decide))
local macro_rules | `(tactic| walk_at "g") => `(tactic| repeat (first
  | (with_reducible refine g_cons ?_)
  | (with_reducible refine g_nil ?_)
  | (with_reducible refine w_name ?_)))
local macro_rules | `(tactic| walk_at "w2") => `(tactic| first
  | with_reducible refine w_dnew ?_
  | with_reducible refine w_dget ?_
  | with_reducible refine w_dget2 ?_
  | with_reducible refine w_dput ?_
  | ((with_reducible refine w_isd ?kvs ?h ?q); (case h => walk_at "rd"))
  | ((with_reducible refine w_dtal ?ks ?f ?t ?h ?q); (case t => assumption); (case h => walk_at "tr"); (intro o eo; rw [eo]; clear eo))
  | ((with_reducible refine w_listD ?kvs ?h ?q); (case h => walk_at "rd"))
  | ((with_reducible refine w_lenD ?kvs ?h ?q); (case h => walk_at "tr"))
  | ((with_reducible refine w_sortD ?ks ?f ?h ?q); (case h => walk_at "tr")))
def sp_polynomial (K : PySem.W.Frag) : Sp := fun vs H Q _ => ∃ v ps, vs = [v] ∧ PV K H v ps ∧ ps.length < 16777216 ∧ ∀ p H2 R, IsP (cf ps) R → Same H H2 → PT K H2 (.ref p) R → Q (.ref p) H2
theorem sc_polynomial : FnScope ["pairs", "found", "shift", "coefficient", "at"] ["pairs"] (defScope (top 34)) := ⟨rfl, rfl, rfl, by decide +kernel, rfl, by decide +kernel, by decide +kernel⟩
theorem d_polynomial {P : Program} {w : World} {K : PySem.W.Frag} {mg : Str → Option Value} {base : Heap} (T : Tx K mg) : Def P w K mg base "polynomial" 1 ["pairs"] (sp_polynomial K) := by
  refine Def.of T.at_polynomial sc_polynomial (fun _ _ _ _ _ _ us hl => match us, hl with | [_], _ => rfl) (fun vs H Q E h => by (obtain ⟨_, _, rfl, _⟩ := h; rfl)) (fun f cdv A outer s H vs Q E hr h => ?_)
  refine ⟨_, PSs.nox (pss_cons (ps_set (i := 1) sc_polynomial.nd rfl (Or.inr rfl) pe_dnewA)
      (pss_cons (ps_for PassesOwn.never rfl (pi_seq (pv 0)) (pg_seq rfl (pgs_cons (pg_name (i := 2) sc_polynomial.nd rfl (Or.inl rfl)) (pgs_cons (pg_name (i := 3) sc_polynomial.nd rfl (Or.inl rfl)) pgs_nil))) (pss_one (ps_dput (hu_of hr) (pv 1) (pv 2) (pe_op op_addA (pe_dget2 (hu_of hr) (pv 1) (pv 2) pe_int ⟨rfl, rfl, rfl, rfl⟩) (pv 3)) (by rfl))))
      (pss_one (ps_ret (pe_callTy call_tupleA (by rfl) T.n_tuple (by decide +kernel) (pa_cons (pe_lc (own := [("at", 4)]) (by rfl) sc_polynomial.nd (pi_seq (pe_callB (cr_sortD (by rfl)) (by rfl) T.n_sorted (by decide +kernel) (pa_cons (pv 1) pa_nil))) (blkOk_by (own := [("at", 4)]) (N := ["pairs", "found", "shift", "coefficient", "at"]) (sc := defScope (top 34)) (by decide +kernel)) (fun _ _ _ _ _ => (pg_name (i := 4) sc_polynomial.nd rfl (Or.inl rfl))) (fun _ _ _ _ _ => (pts_one (pt_cmpR (op_neAK (K := K) (by rfl) hr.units) (pe_dget (hu_of hr) (pv 1) (pv 4) (fun _ _ => rfl)) pe_int (nomark _)))) (fun _ _ _ _ _ => (pe_tupA (pa_cons (pv 4) (pa_cons (pe_dget (hu_of hr) (pv 1) (pv 4) (fun _ _ => rfl)) pa_nil))))) pa_nil)))))), ?_⟩
  obtain ⟨v, ps, rfl, ⟨a, xs, rfl, hq, hp⟩, hz, q⟩ := h
  have hl := paired_len hp
  walk_at "w0"
  walk_at "w"
  intro d H1 n1 s1 e1
  walk_at "w"
  refine for_seq H hq (fun i σ' H' => Same H H' ∧ ∃ ks v2 v3, σ' = [some (.ref a), some (.ref d), v2, v3, none] ∧ H' d = some (.dK (tk ks (cf (ps.take i)))) ∧ Tal ks (cf (ps.take i)) ∧ ks.length ≤ i)
    ⟨s1, [], none, none, rfl, e1, Tal.nil, Nat.le_refl _⟩ (fun i σ' H' _ ⟨e, _⟩ => e) ?_ ?_
  · rintro i x σ' H' hi ⟨sm, ks, v2, v3, rfl, ed, tal, hk⟩
    obtain ⟨p, hpi, b, rfl, hb⟩ := paired_at hp hi
    have hil := (List.getElem?_eq_some_iff.mp hpi).1
    refine ⟨_, _, rfl, Same.sq sm hb, rfl, ?_⟩
    walk_at "g"
    walk_at "w"
    refine w_dset ed (size_of (by rw [length_tk]; omega)) fun H2 b2 e2 => ?_
    obtain ⟨t2, c2⟩ := tal.put p.1 p.2 (cf_take_succ ps i p hpi)
    refine ⟨But.same b2 sm n1, _, _, _, rfl, ?_, t2, Nat.le_trans (length_addk _ _) (by omega)⟩
    rw [e2, put_tk, ← tk_congr c2]
  · rintro σ' H' ⟨sm, ks, v2, v3, rfl, ed, tal, hk⟩
    rw [hl, List.take_length] at ed tal
    walk_at "w"
    refine w_lc ?_
    walk_at "w"
    intro ns l H2 hperm hsort n2 s2 e2
    have hns : ns.length ≤ ps.length := by rw [hperm.length_eq]; omega
    refine lc_seq (xs := ns.map V.int) (.inl (SqL.of e2)) (fun i acc H => acc.length ≤ i ∧ Paired (ET K H) acc (pick (ns.take i) (cf ps))) (fun i acc => stb_and (stb_et _ _)) (size_of (by rw [List.length_map]; omega)) ⟨Nat.le_refl _, .nil⟩ ?_ ?_
    · rintro i x acc H3 Y Z hi s3 ⟨ha, hP⟩ hY hZ
      obtain ⟨s, hs, rfl⟩ := map_at hi
      have hmem : s ∈ ks := hperm.mem_iff.mp (List.mem_of_getElem? hs)
      have ed3 : H3 d = some (.dK (tk ks (cf ps))) := s3 _ _ (s2 _ _ ed)
      have et : pick (ns.take (i + 1)) (cf ps) = if cf ps s ≠ 0 then pick (ns.take i) (cf ps) ++ [(s, cf ps s)] else pick (ns.take i) (cf ps) := by
        rw [List.take_add_one, hs]
        exact pick_snoc _ _ _
      walk_at "g"
      refine ⟨rfl, ?_⟩
      walk_at "w"
      refine w_dat _ (.of ed3) (valV_tk hmem) ?_
      walk_at "w"
      refine iteN (fun h => ?_) (fun h => ?_)
      · walk_at "w"
        refine w_dat _ (.of ed3) (valV_tk hmem) ?_
        refine ⟨by walk_at "sz", fun t H4 n4 s4 e4 => ?_⟩
        refine hY _ _ s4 ⟨by rw [List.length_append]; show acc.length + 1 ≤ _; omega, ?_⟩
        rw [et, if_pos (of_decide_eq_false h)]
        exact paired_snoc ⟨t, rfl, SqT.of e4⟩ (Same.ets s4 hP)
      · refine hZ _ (Same.refl _) ⟨by omega, ?_⟩
        rw [et, if_neg (fun z => z (of_decide_eq_true h))]
        exact hP
    · rintro l2 H4 acc n4 s4 e4 ha ⟨_, hP⟩
      rw [List.length_map, List.take_length] at hP
      walk_at "w"
      refine w_tuple (.inl (SqL.of e4)) fun t H5 s5 e5 => ?_
      exact q t H5 _ (pick_isP tal hperm hsort) (((sm.trans s2).trans s4).trans s5) ⟨t, acc, rfl, e5, Same.ets s5 hP⟩
end JP
set_option Elab.async false
set_option linter.all false
set_option maxRecDepth 100000
set_option maxHeartbeats 4000000
namespace JP
open PySem PySem.Spec PyProof.Rows L2 L2H
local macro_rules | `(tactic| walk_at "w1") => `(tactic| first
  | with_reducible refine w_seq ?_
  | with_reducible refine w_asg ?_
  | with_reducible refine w_name ?_
  | with_reducible refine w_op ?_
  | ((with_reducible refine w_var ?v ?h ?q); (case h => exact rfl))
  | with_reducible refine w_c ?_
  | with_reducible refine w_ret ?_
  | with_reducible refine w_if ?_
  | with_reducible refine w_drop ?_
  | with_reducible refine w_next ?_
  | with_reducible refine w_un ?_
  | with_reducible refine w_p18 ?_
  | with_reducible refine w_p30 ?_
  | with_reducible refine w_p6 ?_
  | with_reducible refine w_p9 ?_
  | with_reducible refine w_p12 ?_
  | with_reducible refine w_p15 ?_
  | with_reducible refine w_p24 ?_
  | with_reducible refine w_slice ?_
  | with_reducible refine w_part ?_
  | with_reducible refine w_nopart ?_
  | with_reducible refine w_ei ?_
  | with_reducible refine w_for ?_
  | with_reducible refine w_rng1 ?_
  | with_reducible refine w_rng2 ?_
  | with_reducible refine w_iseq ?_
  | ((with_reducible refine w_I ?c ?q); (case c => walk_at "side"))
  | ((with_reducible refine w_len ?xs ?h ?q); (case h => walk_at "tr"))
  | with_reducible refine w_cb ?_
  | with_reducible refine w_cons ?_
  | with_reducible refine w_nil ?_
  | with_reducible refine w_test ?_
  | with_reducible refine w_B ?_
  | with_reducible refine w_bl ?_
  | with_reducible refine w_and ?_
  | with_reducible refine w_or ?_
  | with_reducible refine w_not ?_
  | with_reducible refine w_andV ?_
  | with_reducible refine w_orV ?_
  | with_reducible refine w_notV ?_
  | with_reducible refine w_ifE ?_
  | with_reducible refine w_call ?_
  | with_reducible refine w_bm ?_
  | ((with_reducible refine w_tyl ?xs ?h ?q); (case h => assumption))
  | with_reducible refine w_bm0 ?_
  | with_reducible refine w_bits ?_
  | with_reducible refine w_tup ?_
  | with_reducible refine w_lst ?_
  | with_reducible refine w_I0 ?_
  | with_reducible refine w_U ?_
  | with_reducible refine w_add ?_
  | with_reducible refine w_eqI ?_
  | with_reducible refine w_neI ?_
  | with_reducible refine w_eqS ?_
  | with_reducible refine w_neS ?_
  | with_reducible refine w_int ?_
  | with_reducible refine w_abs ?_
  | with_reducible refine w_gcd ?_
  | walk_at "w2")
local macro_rules | `(tactic| walk_at "w2") => `(tactic| fail)
local macro_rules | `(tactic| walk_at "rd") => `(tactic| first | with_reducible assumption | ((with_reducible refine Rd.of ?_); walk_at "tr"))
local macro_rules | `(tactic| walk_at "w") => `(tactic| repeat (walk_at "w1"))
local macro_rules | `(tactic| walk_at "w0") => `(tactic| simp only [cxOf_K, L2.start, List.map_cons, List.map_nil, List.length_cons, List.length_nil, Nat.reduceAdd, Nat.reduceSub, List.replicate_succ, List.replicate_zero, List.cons_append, List.nil_append])
local macro_rules | `(tactic| walk_at "side") => `(tactic| first | assumption | (exact small_div (by omega) (by omega)) | (exact small_mul (by omega) (by omega)) | (exact med_mul (by omega) (by omega)) | (exact big_mul (by omega) (by omega)) | (exact ⟨by decide, by decide, by decide⟩) | (show (0 : Int) < _; omega))
local macro_rules | `(tactic| walk_at "ch") => `(tactic| first
  | with_reducible assumption
  | with_reducible exact Same.refl _
  | ((with_reducible refine tr_at ?H ?e ?h); (case e => with_reducible assumption); (case h => walk_at "ch"))
  | ((with_reducible refine tr_st ?H ?e ?h); (case e => with_reducible assumption); (case h => walk_at "ch"))
  | ((with_reducible refine tr_sl ?H ?e ?h); (case e => with_reducible assumption); (case h => walk_at "ch"))
  | ((with_reducible refine tr_same ?H ?e ?h); (case e => with_reducible assumption); (case h => walk_at "ch"))
  | ((with_reducible refine tr_sq ?H ?e ?h); (case e => with_reducible assumption); (case h => walk_at "ch"))
  | ((with_reducible refine tr_dp ?H ?e ?h); (case e => with_reducible assumption); (case h => walk_at "ch"))
  | walk_at "tr2")
local macro_rules | `(tactic| walk_at "tr") => `(tactic| first
  | walk_at "ch"
  | ((with_reducible refine tr_eq ?u ?h ?e); (case h => walk_at "ch"); (case e => rfl))
  | ((with_reducible refine tr_eqt ?u ?h ?e); (case h => walk_at "ch"); (case e => rfl))
  | ((with_reducible refine tr_eql ?u ?h ?e); (case h => walk_at "ch"); (case e => rfl))
  | ((with_reducible refine SqT.of ?_); first | walk_at "ch" | ((with_reducible refine tr_eq ?u ?h ?e); (case h => walk_at "ch"); (case e => rfl)))
  | ((with_reducible refine SqL.of ?_); first | walk_at "ch" | ((with_reducible refine tr_eq ?u ?h ?e); (case h => walk_at "ch"); (case e => rfl)))
  | ((with_reducible refine sq_l ?_); walk_at "tr")
  | ((with_reducible refine sq_t ?_); walk_at "tr"))
local macro_rules | `(tactic| walk_at "tr2") => `(tactic| fail)
local macro_rules | `(tactic| walk_at "sz") => `(tactic| (simp only [List.length_cons, List.length_nil, List.length_append, List.length_map]; decide))
local macro_rules | `(tactic| walk_at "g") => `(tactic| repeat (first
  | (with_reducible refine g_cons ?_)
  | (with_reducible refine g_nil ?_)
  | (with_reducible refine w_name ?_)))
local macro_rules | `(tactic| walk_at "w2") => `(tactic| first
  | with_reducible refine w_dnew ?_
  | with_reducible refine w_dget ?_
  | with_reducible refine w_dget2 ?_
  | with_reducible refine w_dput ?_
  | ((with_reducible refine w_isd ?kvs ?h ?q); (case h => walk_at "rd"))
  | ((with_reducible refine w_dtal ?ks ?f ?t ?h ?q); (case t => assumption); (case h => walk_at "tr"); (intro o eo; rw [eo]; clear eo))
  | ((with_reducible refine w_listD ?kvs ?h ?q); (case h => walk_at "rd"))
  | ((with_reducible refine w_lenD ?kvs ?h ?q); (case h => walk_at "tr"))
  | ((with_reducible refine w_sortD ?ks ?f ?h ?q); (case h => walk_at "tr")))
local macro_rules | `(tactic| walk_at "tr2") => `(tactic| first
  | ((with_reducible refine tr_pv ?H ?e ?h); (case e => with_reducible assumption); (case h => walk_at "ch"))
  | ((with_reducible refine tr_pt ?H ?e ?h); (case e => with_reducible assumption); (case h => walk_at "ch"))
  | ((with_reducible refine tr_pll ?H ?e ?h); (case e => with_reducible assumption); (case h => walk_at "ch")))
def sp_plusP (K : PySem.W.Frag) : Sp := fun vs H Q _ => ∃ v u ps qs, vs = [v, u] ∧ PV K H v ps ∧ PV K H u qs ∧ ps.length + qs.length < 16777216 ∧ ∀ p H2 R, IsP (cf (ps ++ qs)) R → Same H H2 → PT K H2 (.ref p) R → Q (.ref p) H2
theorem sc_poly_plus : FnScope ["p", "q"] ["p", "q"] (defScope (top 37)) := ⟨rfl, rfl, rfl, by decide +kernel, rfl, by decide +kernel, by decide +kernel⟩
theorem d_poly_plus {P : Program} {w : World} {K : PySem.W.Frag} {mg : Str → Option Value} {base : Heap} (T : Tx K mg) : Def P w K mg base "poly_plus" 2 ["p", "q"] (sp_plusP K) := by
  refine Def.of T.at_poly_plus sc_poly_plus (fun _ _ _ _ _ _ us hl => match us, hl with | [_, _], _ => rfl) (fun vs H Q E h => by (obtain ⟨_, _, _, _, rfl, _⟩ := h; rfl)) (fun f cdv A outer s H vs Q E hr h => ?_)
  refine ⟨_, PSs.nox (pss_one (ps_ret (pe_def (d_polynomial T) (hr.mono (by decide)) (by rfl) (pa_cons (pe_op op_addA (pe_callTy call_listA (by rfl) T.n_list (by decide +kernel) (pa_cons (pv 0) pa_nil)) (pe_callTy call_listA (by rfl) T.n_list (by decide +kernel) (pa_cons (pv 1) pa_nil))) pa_nil)))), ?_⟩
  obtain ⟨v, u, ps, qs, rfl, hv, hu, hz, q⟩ := h
  obtain ⟨a, xs, rfl, hq, hp⟩ := id hv
  walk_at "w0"
  walk_at "w"
  refine w_list hq fun l H1 n1 s1 e1 => ?_
  walk_at "w"
  obtain ⟨b, ys, rfl, hq2, hp2⟩ := Same.pv s1 hu
  refine w_list hq2 fun l2 H2 n2 s2 e2 => ?_
  have l1 := paired_len hp
  have l2' := paired_len hp2
  refine w_addL (s2 _ _ e1) e2 (size_le (by omega)) fun l3 H3 n3 s3 e3 => ?_
  walk_at "w"
  refine ⟨_, ps ++ qs, rfl, ⟨l3, _, rfl, .inl (SqL.of e3), paired_app (Same.evs ((s1.trans s2).trans s3) hp) (Same.evs (s2.trans s3) hp2)⟩, by rw [List.length_append]; exact hz, fun p H4 R hR s4 hP => q p H4 R hR (((s1.trans s2).trans s3).trans s4) hP⟩
def sp_normal (K : PySem.W.Frag) : Sp := fun vs H Q _ => ∃ v ps, vs = [v] ∧ PV K H v ps ∧ ps.length < 16777216 ∧ Wb 8900 ps ∧ ∀ p H2 R, IsP (cf ps) R → Same H H2 → PT K H2 (.ref p) (nrmP R) → Q (.ref p) H2
theorem sc_normal_polynomial : FnScope ["p", "told", "part", "pair", "low"] ["p"] (defScope (top 35)) := ⟨rfl, rfl, rfl, by decide +kernel, rfl, by decide +kernel, by decide +kernel⟩
theorem d_normal_polynomial {P : Program} {w : World} {K : PySem.W.Frag} {mg : Str → Option Value} {base : Heap} (T : Tx K mg) : Def P w K mg base "normal_polynomial" 2 ["p"] (sp_normal K) := by
  refine Def.of T.at_normal_polynomial sc_normal_polynomial (fun _ _ _ _ _ _ us hl => match us, hl with | [_], _ => rfl) (fun vs H Q E h => by (obtain ⟨_, _, rfl, _⟩ := h; rfl)) (fun f cdv A outer s H vs Q E hr h => ?_)
  refine ⟨_, PSs.nox (pss_cons (ps_set (i := 1) sc_normal_polynomial.nd rfl (Or.inl rfl) (pe_def (d_polynomial T) (hr.mono (by decide)) (by rfl) (pa_cons (pv 0) pa_nil)))
      (pss_cons (ps_if (pt_not (pt_truth (pv 1) (by intro _; rfl))) (pss_one (ps_ret (pe_tupA pa_nil))) pss_nil)
      (pss_cons (ps_set (i := 2) sc_normal_polynomial.nd rfl (Or.inr rfl) pe_int)
      (pss_cons (ps_for PassesOwn.never rfl (pi_seq (pv 1)) (pg_name (i := 3) sc_normal_polynomial.nd rfl (Or.inl rfl)) (pss_one (ps_set (i := 2) sc_normal_polynomial.nd rfl (Or.inr rfl) (pe_callBfun cr_gcd (by rfl) T.i_gcd (pa_cons (pv 2) (pa_cons (pe_ix ix_seq (pv 3) pe_int (fun _ _ => rfl)) pa_nil))))))
      (pss_cut (ps_if (pt_cmpR op_lt (pe_ix ix_seq (pe_ix ix_seq (pv 1) (pe_un un_neg pe_int) (fun _ _ => rfl)) pe_int (fun _ _ => rfl)) pe_int (nomark _)) (pss_one (ps_set (i := 2) sc_normal_polynomial.nd rfl (Or.inr rfl) (pe_un un_neg (pv 2)))) pss_nil)
      (pss_cons (ps_set (i := 4) sc_normal_polynomial.nd rfl (Or.inr rfl) (pe_ix ix_seq (pe_ix ix_seq (pv 1) pe_int (fun _ _ => rfl)) pe_int (fun _ _ => rfl)))
      (pss_one (ps_ret (pe_callTy call_tupleA (by rfl) T.n_tuple (by decide +kernel) (pa_cons (pe_lc (own := [("pair", 3)]) (by rfl) sc_normal_polynomial.nd (pi_seq (pv 1)) (blkOk_by (own := [("pair", 3)]) (N := ["p", "told", "part", "pair", "low"]) (sc := defScope (top 35)) (by decide +kernel)) (fun _ _ _ _ _ => (pg_name (i := 3) sc_normal_polynomial.nd rfl (Or.inl rfl))) (fun _ _ _ _ _ => pts_nil) (fun _ _ _ _ _ => (pe_tupA (pa_cons (pe_op op_sub (pe_ix (ix_seqK (K := K) (by rfl)) (pv 3) pe_int (fun _ _ => rfl)) (pv 4)) (pa_cons (pe_op op_fdivG (pe_ix (ix_seqK (K := K) (by rfl)) (pv 3) pe_int (fun _ _ => rfl)) (pv 2)) pa_nil))))) pa_nil)))))))))), ?_⟩
  obtain ⟨v, ps, rfl, hv, hz, hw, q⟩ := h
  walk_at "w0"
  walk_at "w"
  refine ⟨_, ps, rfl, hv, hz, fun p H1 R hR s1 hP => ?_⟩
  have q := q
  obtain ⟨a, vs, e, hsq, hpa⟩ := id hP
  cases e
  have hl := paired_len hpa
  have hRz : R.length < 16777216 := Nat.lt_of_le_of_lt (IsP.length_le hR) hz
  have hwR : Wb 8900 R := Nat.lt_of_le_of_lt (IsP.wt_le hR) hw
  walk_at "w"
  refine w_truQ (.inr hsq) ?_
  by_cases hn : R = []
  · subst hn
    cases hpa
    walk_at "w"
    refine iteT ?_
    walk_at "w"
    exact ⟨by walk_at "sz", fun t H2 n2 s2 e2 => q t H2 [] hR (s1.trans s2) ⟨t, [], rfl, SqT.of e2, .nil⟩⟩
  have hne : vs ≠ [] := fun z => hn (List.eq_nil_of_length_eq_zero (by rw [← hl, z]; rfl))
  have hem : vs.isEmpty = false := by cases vs with | nil => exact absurd rfl hne | cons _ _ => rfl
  rw [hem]
  refine iteF ?_
  have hR0 : nrmP R = R.map fun p => (p.1 - (R.headD (0, 0)).1, p.2.fdiv (npart R)) := rfl
  walk_at "w"
  refine for_seq H1 (.inr hsq) (fun i σ' H' => H1 = H' ∧ ∃ (z : Nat) (v3 : Option V), σ' = [some v, some (.ref p), some (.int z), v3, none] ∧ ggcd (R.drop i) z = ggcd R 0)
    ⟨rfl, 0, none, rfl, rfl⟩ (fun i σ' H' _ ⟨e, _⟩ => e ▸ Same.refl _) ?_ ?_
  · rintro i x σ' H' hi ⟨rfl, z, v3, rfl, hg⟩
    obtain ⟨t, hti, b, rfl, hb⟩ := paired_at hpa hi
    walk_at "g"
    walk_at "w"
    refine w_ix (.inr hb) (i := 1) rfl ?_
    walk_at "w"
    refine ⟨rfl, _, _, rfl, ?_⟩
    rw [← hg, ggcd_drop R i t hti]
    rfl
  · rintro σ' H' ⟨rfl, z, v3, rfl, hg⟩
    rw [hl, List.drop_length] at hg
    have hg : z = ggcd R 0 := hg
    obtain ⟨x, hx, b, rfl, hb⟩ := paired_bt hpa (last_at hn)
    obtain ⟨x0, hx0, b0, rfl, hb0⟩ := paired_bt hpa (head_at hn)
    walk_at "w"
    refine w_cut (fun σ' H' => H1 = H' ∧ ∃ v3, σ' = [some v, some (.ref p), some (.int (npart R)), v3, none]) ?_ ?_
    · walk_at "w"
      refine w_ix (.inr hsq) (atI_last' (by rw [hl]; exact hx)) ?_
      walk_at "w"
      refine w_ix (.inr hb) (i := 1) rfl ?_
      walk_at "w"
      refine iteD (fun h => ?_) (fun h => ?_)
      · walk_at "w"
        refine ⟨rfl, v3, ?_⟩
        unfold npart
        rw [if_pos h, ← hg]
        rfl
      · walk_at "w"
        refine ⟨rfl, v3, ?_⟩
        unfold npart
        rw [if_neg h, ← hg]
    · rintro σ' H' ⟨rfl, v3, rfl⟩
      walk_at "w"
      refine w_ix (.inr hsq) (i := 0) (atI_nat hx0) ?_
      walk_at "w"
      refine w_ix (.inr hb0) (i := 0) rfl ?_
      walk_at "w"
      refine w_lc ?_
      walk_at "w"
      refine lc_seq (xs := vs) (.inr hsq) (fun i acc H => Paired (ET K H) acc ((nrmP R).take i)) (fun i acc => stb_et _ _) (size_of (by omega)) .nil ?_ ?_
      · rintro i x acc H3 Y Z hi s3 hP' hY hZ
        obtain ⟨t, ht, c, rfl, hc⟩ := paired_at hpa hi
        have hc3 := Same.st s3 hc
        have htR := List.mem_of_getElem? ht
        have hd : CDivG t.2 (npart R) := Sm.divOk (npart_ne htR (hR.nz _ htR)) (Nat.lt_of_le_of_lt (npart_le htR (hR.nz _ htR)) (Wb.mem hwR htR)) (by decide)
        walk_at "g"
        refine ⟨rfl, w_yes ?_⟩
        walk_at "w"
        refine w_ix (.inr hc3) (i := 0) rfl ?_
        walk_at "w"
        refine w_ix (.inr hc3) (i := 1) rfl ?_
        walk_at "w"
        refine ⟨by walk_at "sz", fun u H4 n4 s4 e4 => ?_⟩
        refine hY _ _ s4 ?_
        have et : (nrmP R)[i]? = some (t.1 - (R.headD (0, 0)).1, t.2.fdiv (npart R)) := by
          unfold nrmP
          rw [List.getElem?_map, ht]
          rfl
        rw [List.take_add_one, et]
        exact paired_snoc ⟨u, rfl, SqT.of e4⟩ (Same.ets s4 hP')
      · rintro l2 H4 acc n4 s4 e4 _ hP'
        rw [hl, ← length_nrmP R, List.take_length] at hP'
        walk_at "w"
        refine w_tuple (.inl (SqL.of e4)) fun t H5 s5 e5 => ?_
        exact q t H5 R hR ((s1.trans s4).trans s5) ⟨t, acc, rfl, e5, Same.ets s5 hP'⟩
def sp_span (K : PySem.W.Frag) : Sp := fun vs H Q E => ∃ v ps, vs = [v] ∧ PV K H v ps ∧ ps.length < 16777216 ∧
  (∀ H2, IsP (cf ps) [] → Same H H2 → E (.ref (He.ga K "ZeroPolynomial")) none H2) ∧ ∀ R H2, IsP (cf ps) R → R ≠ [] → Same H H2 → Q (.int ((R.getLastD (0, 0)).1 - (R.headD (0, 0)).1)) H2
theorem sc_span : FnScope ["p", "told"] ["p"] (defScope (top 36)) := ⟨rfl, rfl, rfl, by decide +kernel, rfl, by decide +kernel, by decide +kernel⟩
theorem d_span {P : Program} {w : World} {K : PySem.W.Frag} {mg : Str → Option Value} {base : Heap} (T : Tx K mg) : Def P w K mg base "span" 2 ["p"] (sp_span K) := by
  refine Def.of T.at_span sc_span (fun _ _ _ _ _ _ us hl => match us, hl with | [_], _ => rfl) (fun vs H Q E h => by (obtain ⟨_, _, rfl, _⟩ := h; rfl)) (fun f cdv A outer s H vs Q E hr h => ?_)
  refine ⟨_, (pss_cons (ps_set (i := 1) sc_span.nd rfl (Or.inl rfl) (pe_def (d_polynomial T) (hr.mono (by decide)) (by rfl) (pa_cons (pv 0) pa_nil)))
      (pss_cons (ps_if (pt_not (pt_truth (pv 1) (by intro _; rfl))) (pss_one (L2N.ps_raise rfl (L2N.takes_of rfl rfl rfl rfl) (pmk_own0 PySem.F.excBase_ValueError T.x_ZeroPolynomial.1 T.g_ZeroPolynomial T.x_ZeroPolynomial.2.1 (raises_own T.x_ZeroPolynomial.2.2.1 T.x_ZeroPolynomial.2.2.2) (by rfl)))) pss_nil)
      (pss_one (ps_ret (pe_op op_sub (pe_ix ix_seq (pe_ix ix_seq (pv 1) (pe_un un_neg pe_int) (fun _ _ => rfl)) pe_int (fun _ _ => rfl)) (pe_ix ix_seq (pe_ix ix_seq (pv 1) pe_int (fun _ _ => rfl)) pe_int (fun _ _ => rfl))))))), ?_⟩
  obtain ⟨v, ps, rfl, hv, hz, qe, q⟩ := h
  walk_at "w0"
  walk_at "w"
  refine ⟨_, ps, rfl, hv, hz, fun p H1 R hR s1 hP => ?_⟩
  obtain ⟨a, vs, e, hsq, hpa⟩ := id hP
  cases e
  have hl := paired_len hpa
  walk_at "w"
  refine w_truQ (.inr hsq) ?_
  by_cases hn : R = []
  · subst hn
    cases hpa
    refine iteT ?_
    exact qe H1 hR s1
  have hne : vs ≠ [] := fun z => hn (List.eq_nil_of_length_eq_zero (by rw [← hl, z]; rfl))
  have hem : vs.isEmpty = false := by cases vs with | nil => exact absurd rfl hne | cons _ _ => rfl
  rw [hem]
  refine iteF ?_
  obtain ⟨x, hx, b, rfl, hb⟩ := paired_bt hpa (last_at hn)
  obtain ⟨x0, hx0, b0, rfl, hb0⟩ := paired_bt hpa (head_at hn)
  walk_at "w"
  refine w_ix (.inr hsq) (atI_last' (by rw [hl]; exact hx)) ?_
  walk_at "w"
  refine w_ix (.inr hb) (i := 0) rfl ?_
  walk_at "w"
  refine w_ix (.inr hsq) (i := 0) (atI_nat hx0) ?_
  walk_at "w"
  refine w_ix (.inr hb0) (i := 0) rfl ?_
  walk_at "w"
  exact q R H1 hR hn s1
def sp_timesP (K : PySem.W.Frag) : Sp := fun vs H Q _ => ∃ v u ps qs, vs = [v, u] ∧ PV K H v ps ∧ PV K H u qs ∧ ps.length * qs.length < 16777216 ∧ Wb 100000 ps ∧ Wb 100000 qs ∧ ∀ p H2 R, IsP (cf (prd ps qs)) R → Same H H2 → PT K H2 (.ref p) R → Q (.ref p) H2
theorem sc_poly_times : FnScope ["p", "q", "found", "one", "two", "shift", "at"] ["p", "q"] (defScope (top 38)) := ⟨rfl, rfl, rfl, by decide +kernel, rfl, by decide +kernel, by decide +kernel⟩
theorem d_poly_times {P : Program} {w : World} {K : PySem.W.Frag} {mg : Str → Option Value} {base : Heap} (T : Tx K mg) : Def P w K mg base "poly_times" 1 ["p", "q"] (sp_timesP K) := by
  refine Def.of T.at_poly_times sc_poly_times (fun _ _ _ _ _ _ us hl => match us, hl with | [_, _], _ => rfl) (fun vs H Q E h => by (obtain ⟨_, _, _, _, rfl, _⟩ := h; rfl)) (fun f cdv A outer s H vs Q E hr h => ?_)
  refine ⟨_, PSs.nox (pss_cons (ps_set (i := 2) sc_poly_times.nd rfl (Or.inr rfl) pe_dnewA)
      (pss_cons (ps_for PassesOwn.never rfl (pi_seq (pv 0)) (pg_name (i := 3) sc_poly_times.nd rfl (Or.inl rfl)) (pss_one (ps_for PassesOwn.never rfl (pi_seq (pv 1)) (pg_name (i := 4) sc_poly_times.nd rfl (Or.inl rfl)) (pss_cons (ps_set (i := 5) sc_poly_times.nd rfl (Or.inl rfl) (pe_op op_addA (pe_ix ix_seq (pv 3) pe_int (fun _ _ => rfl)) (pe_ix ix_seq (pv 4) pe_int (fun _ _ => rfl))))
      (pss_one (ps_dput (hu_of hr) (pv 2) (pv 5) (pe_op op_addA (pe_dget2 (hu_of hr) (pv 2) (pv 5) pe_int ⟨rfl, rfl, rfl, rfl⟩) (pe_op op_mulW (pe_ix ix_seq (pv 3) pe_int (fun _ _ => rfl)) (pe_ix ix_seq (pv 4) pe_int (fun _ _ => rfl)))) (by rfl)))))))
      (pss_one (ps_ret (pe_callTy call_tupleA (by rfl) T.n_tuple (by decide +kernel) (pa_cons (pe_lc (own := [("at", 6)]) (by rfl) sc_poly_times.nd (pi_seq (pe_callB (cr_sortD (by rfl)) (by rfl) T.n_sorted (by decide +kernel) (pa_cons (pv 2) pa_nil))) (blkOk_by (own := [("at", 6)]) (N := ["p", "q", "found", "one", "two", "shift", "at"]) (sc := defScope (top 38)) (by decide +kernel)) (fun _ _ _ _ _ => (pg_name (i := 6) sc_poly_times.nd rfl (Or.inl rfl))) (fun _ _ _ _ _ => (pts_one (pt_cmpR (op_neAK (K := K) (by rfl) hr.units) (pe_dget (hu_of hr) (pv 2) (pv 6) (fun _ _ => rfl)) pe_int (nomark _)))) (fun _ _ _ _ _ => (pe_tupA (pa_cons (pv 6) (pa_cons (pe_dget (hu_of hr) (pv 2) (pv 6) (fun _ _ => rfl)) pa_nil))))) pa_nil)))))), ?_⟩
  obtain ⟨v, u, ps, qs, rfl, ⟨a, xs, rfl, hq, hp⟩, ⟨a', ys, rfl, hq', hp'⟩, hz, w1, w2, q⟩ := h
  have hl := paired_len hp
  have hl' := paired_len hp'
  walk_at "w0"
  walk_at "w"
  intro d H1 n1 s1 e1
  walk_at "w"
  refine for_seq H hq (fun i σ' H' => Same H H' ∧ ∃ ks v3 v4 v5, σ' = [some (.ref a), some (.ref a'), some (.ref d), v3, v4, v5, none] ∧ H' d = some (.dK (tk ks (cf (prd (ps.take i) qs)))) ∧ Tal ks (cf (prd (ps.take i) qs)) ∧ ks.length ≤ i * qs.length)
    ⟨s1, [], none, none, none, rfl, e1, Tal.nil, Nat.zero_le _⟩ (fun i σ' H' _ ⟨e, _⟩ => e) ?_ ?_
  · rintro i x σ' H' hi ⟨sm, ks, v3, v4, v5, rfl, ed, tal, hk⟩
    obtain ⟨p, hpi, b, rfl, hb⟩ := paired_at hp hi
    have hil := (List.getElem?_eq_some_iff.mp hpi).1
    walk_at "g"
    walk_at "w"
    refine for_seq H hq' (fun j σ' H' => Same H H' ∧ ∃ ks v4 v5, σ' = [some (.ref a), some (.ref a'), some (.ref d), some (.ref b), v4, v5, none] ∧ H' d = some (.dK (tk ks (cf (prd (ps.take i) qs ++ (row p qs).take j)))) ∧ Tal ks (cf (prd (ps.take i) qs ++ (row p qs).take j)) ∧ ks.length ≤ i * qs.length + j)
      ⟨sm, ks, v4, v5, rfl, by rw [List.take_zero, List.append_nil]; exact ed, by rw [List.take_zero, List.append_nil]; exact tal, hk⟩ (fun i σ' H' _ ⟨e, _⟩ => e) ?_ ?_
    · rintro j y σ' H' hj ⟨sm, ks, v4, v5, rfl, ed, tal, hk⟩
      obtain ⟨t, htj, c, rfl, hc⟩ := paired_at hp' hj
      have hjl := (List.getElem?_eq_some_iff.mp htj).1
      have hm : CMulW p.2 t.2 := Sm.mulOk (Wb.mem w1 (List.mem_of_getElem? hpi)) (Wb.mem w2 (List.mem_of_getElem? htj)) (by decide)
      have hkl : (i * qs.length + j) < 16777216 := by
        have : (i + 1) * qs.length ≤ ps.length * qs.length := Nat.mul_le_mul_right _ hil
        rw [Nat.add_mul] at this
        omega
      walk_at "g"
      walk_at "w"
      refine w_ix (Same.sq sm hb) (i := 0) rfl ?_
      walk_at "w"
      refine w_ix (Same.sq sm hc) (i := 0) rfl ?_
      walk_at "w"
      refine w_ix (Same.sq sm hb) (i := 1) rfl ?_
      walk_at "w"
      refine w_ix (Same.sq sm hc) (i := 1) rfl ?_
      walk_at "w"
      refine w_dset ed (size_of (by rw [length_tk]; omega)) fun H2 b2 e2 => ?_
      obtain ⟨t2, c2⟩ := tal.put (p.1 + t.1) (p.2 * t.2) (cf_row_succ (prd (ps.take i) qs) p qs j t htj)
      refine ⟨But.same b2 sm n1, _, _, _, rfl, ?_, t2, Nat.le_trans (length_addk _ _) (by omega)⟩
      rw [e2, put_tk, ← tk_congr c2]
    · rintro σ' H' ⟨sm, ks, v4, v5, rfl, ed, tal, hk⟩
      have e : prd (ps.take i) qs ++ (row p qs).take ys.length = prd (ps.take (i + 1)) qs := by
        rw [hl', ← length_row p qs, List.take_length, prd_take_succ _ _ _ _ hpi]
      rw [e] at ed tal
      refine ⟨sm, ks, _, _, _, rfl, ed, tal, ?_⟩
      rw [Nat.add_mul]
      omega
  · rintro σ' H' ⟨sm, ks, v3, v4, v5, rfl, ed, tal, hk⟩
    rw [hl, List.take_length] at ed tal
    rw [hl] at hk
    walk_at "w"
    refine w_lc ?_
    walk_at "w"
    intro ns l H2 hperm hsort n2 s2 e2
    have hns : ns.length < 16777216 := by rw [hperm.length_eq]; omega
    refine lc_seq (xs := ns.map V.int) (.inl (SqL.of e2)) (fun i acc H => acc.length ≤ i ∧ Paired (ET K H) acc (pick (ns.take i) (cf (prd ps qs)))) (fun i acc => stb_and (stb_et _ _)) (size_of (by rw [List.length_map]; omega)) ⟨Nat.le_refl _, .nil⟩ ?_ ?_
    · rintro i x acc H3 Y Z hi s3 ⟨ha, hP⟩ hY hZ
      obtain ⟨s, hs, rfl⟩ := map_at hi
      have hmem : s ∈ ks := hperm.mem_iff.mp (List.mem_of_getElem? hs)
      have ed3 : H3 d = some (.dK (tk ks (cf (prd ps qs)))) := s3 _ _ (s2 _ _ ed)
      have et : pick (ns.take (i + 1)) (cf (prd ps qs)) = if cf (prd ps qs) s ≠ 0 then pick (ns.take i) (cf (prd ps qs)) ++ [(s, cf (prd ps qs) s)] else pick (ns.take i) (cf (prd ps qs)) := by
        rw [List.take_add_one, hs]
        exact pick_snoc _ _ _
      walk_at "g"
      refine ⟨rfl, ?_⟩
      walk_at "w"
      refine w_dat _ (.of ed3) (valV_tk hmem) ?_
      walk_at "w"
      refine iteN (fun h => ?_) (fun h => ?_)
      · walk_at "w"
        refine w_dat _ (.of ed3) (valV_tk hmem) ?_
        refine ⟨by walk_at "sz", fun t H4 n4 s4 e4 => ?_⟩
        refine hY _ _ s4 ⟨by rw [List.length_append]; show acc.length + 1 ≤ _; omega, ?_⟩
        rw [et, if_pos (of_decide_eq_false h)]
        exact paired_snoc ⟨t, rfl, SqT.of e4⟩ (Same.ets s4 hP)
      · refine hZ _ (Same.refl _) ⟨by omega, ?_⟩
        rw [et, if_neg (fun z => z (of_decide_eq_true h))]
        exact hP
    · rintro l2 H4 acc n4 s4 e4 ha ⟨_, hP⟩
      rw [List.length_map, List.take_length] at hP
      walk_at "w"
      refine w_tuple (.inl (SqL.of e4)) fun t H5 s5 e5 => ?_
      exact q t H5 _ (pick_isP tal hperm hsort) (((sm.trans s2).trans s4).trans s5) ⟨t, acc, rfl, e5, Same.ets s5 hP⟩
end JP
set_option Elab.async false
set_option linter.all false
set_option maxRecDepth 100000
set_option maxHeartbeats 4000000
namespace JP
open PySem PySem.Spec PyProof.Rows L2 L2H
local macro_rules | `(tactic| walk_at "w1") => `(tactic| first
  | with_reducible refine w_seq ?_
  | with_reducible refine w_asg ?_
  | with_reducible refine w_name ?_
  | with_reducible refine w_op ?_
  | ((with_reducible refine w_var ?v ?h ?q); (case h => exact rfl))
  | with_reducible refine w_c ?_
  | with_reducible refine w_ret ?_
  | with_reducible refine w_if ?_
  | with_reducible refine w_drop ?_
  | with_reducible refine w_next ?_
  | with_reducible refine w_un ?_
  | with_reducible refine w_p18 ?_
  | with_reducible refine w_p30 ?_
  | with_reducible refine w_p6 ?_
  | with_reducible refine w_p9 ?_
  | with_reducible refine w_p12 ?_
  | with_reducible refine w_p15 ?_
  | with_reducible refine w_p24 ?_
  | with_reducible refine w_slice ?_
  | with_reducible refine w_part ?_
  | with_reducible refine w_nopart ?_
  | with_reducible refine w_ei ?_
  | with_reducible refine w_for ?_
  | with_reducible refine w_rng1 ?_
  | with_reducible refine w_rng2 ?_
  | with_reducible refine w_iseq ?_
  | ((with_reducible refine w_I ?c ?q); (case c => walk_at "side"))
  | ((with_reducible refine w_len ?xs ?h ?q); (case h => walk_at "tr"))
  | with_reducible refine w_cb ?_
  | with_reducible refine w_cons ?_
  | with_reducible refine w_nil ?_
  | with_reducible refine w_test ?_
  | with_reducible refine w_B ?_
  | with_reducible refine w_bl ?_
  | with_reducible refine w_and ?_
  | with_reducible refine w_or ?_
  | with_reducible refine w_not ?_
  | with_reducible refine w_andV ?_
  | with_reducible refine w_orV ?_
  | with_reducible refine w_notV ?_
  | with_reducible refine w_ifE ?_
  | with_reducible refine w_call ?_
  | with_reducible refine w_bm ?_
  | ((with_reducible refine w_tyl ?xs ?h ?q); (case h => assumption))
  | with_reducible refine w_bm0 ?_
  | with_reducible refine w_bits ?_
  | with_reducible refine w_tup ?_
  | with_reducible refine w_lst ?_
  | with_reducible refine w_I0 ?_
  | with_reducible refine w_U ?_
  | with_reducible refine w_add ?_
  | with_reducible refine w_eqI ?_
  | with_reducible refine w_neI ?_
  | with_reducible refine w_eqS ?_
  | with_reducible refine w_neS ?_
  | with_reducible refine w_int ?_
  | with_reducible refine w_abs ?_
  | with_reducible refine w_gcd ?_
  | walk_at "w2")
local macro_rules | `(tactic| walk_at "w2") => `(tactic| fail)
local macro_rules | `(tactic| walk_at "rd") => `(tactic| first | with_reducible assumption | ((with_reducible refine Rd.of ?_); walk_at "tr"))
local macro_rules | `(tactic| walk_at "w") => `(tactic| repeat (walk_at "w1"))
local macro_rules | `(tactic| walk_at "w0") => `(tactic| simp only [cxOf_K, L2.start, List.map_cons, List.map_nil, List.length_cons, List.length_nil, Nat.reduceAdd, Nat.reduceSub, List.replicate_succ, List.replicate_zero, List.cons_append, List.nil_append])
local macro_rules | `(tactic| walk_at "side") => `(tactic| first | assumption | (exact small_div (by omega) (by omega)) | (exact small_mul (by omega) (by omega)) | (exact med_mul (by omega) (by omega)) | (exact big_mul (by omega) (by omega)) | (exact ⟨by decide, by decide, by decide⟩) | (show (0 : Int) < _; omega))
local macro_rules | `(tactic| walk_at "ch") => `(tactic| first
  | with_reducible assumption
  | with_reducible exact Same.refl _
  | ((with_reducible refine tr_at ?H ?e ?h); (case e => with_reducible assumption); (case h => walk_at "ch"))
  | ((with_reducible refine tr_st ?H ?e ?h); (case e => with_reducible assumption); (case h => walk_at "ch"))
  | ((with_reducible refine tr_sl ?H ?e ?h); (case e => with_reducible assumption); (case h => walk_at "ch"))
  | ((with_reducible refine tr_same ?H ?e ?h); (case e => with_reducible assumption); (case h => walk_at "ch"))
  | ((with_reducible refine tr_sq ?H ?e ?h); (case e => with_reducible assumption); (case h => walk_at "ch"))
  | ((with_reducible refine tr_dp ?H ?e ?h); (case e => with_reducible assumption); (case h => walk_at "ch"))
  | walk_at "tr2")
local macro_rules | `(tactic| walk_at "tr") => `(tactic| first
  | walk_at "ch"
  | ((with_reducible refine tr_eq ?u ?h ?e); (case h => walk_at "ch"); (case e => rfl))
  | ((with_reducible refine tr_eqt ?u ?h ?e); (case h => walk_at "ch"); (case e => rfl))
  | ((with_reducible refine tr_eql ?u ?h ?e); (case h => walk_at "ch"); (case e => rfl))
  | ((with_reducible refine SqT.of ?_); first | walk_at "ch" | ((with_reducible refine tr_eq ?u ?h ?e); (case h => walk_at "ch"); (case e => rfl)))
  | ((with_reducible refine SqL.of ?_); first | walk_at "ch" | ((with_reducible refine tr_eq ?u ?h ?e); (case h => walk_at "ch"); (case e => rfl)))
  | ((with_reducible refine sq_l ?_); walk_at "tr")
  | ((with_reducible refine sq_t ?_); walk_at "tr"))
local macro_rules | `(tactic| walk_at "tr2") => `(tactic| fail)
local macro_rules | `(tactic| walk_at "sz") => `(tactic| (simp only [List.length_cons, List.length_nil, List.length_append, List.length_map]; decide))
local macro_rules | `(tactic| walk_at "g") => `(tactic| repeat (first
  | (with_reducible refine g_cons ?_)
  | (with_reducible refine g_nil ?_)
  | (with_reducible refine w_name ?_)))
local macro_rules | `(tactic| walk_at "w2") => `(tactic| first
  | with_reducible refine w_dnew ?_
  | with_reducible refine w_dget ?_
  | with_reducible refine w_dget2 ?_
  | with_reducible refine w_dput ?_
  | ((with_reducible refine w_isd ?kvs ?h ?q); (case h => walk_at "rd"))
  | ((with_reducible refine w_dtal ?ks ?f ?t ?h ?q); (case t => assumption); (case h => walk_at "tr"); (intro o eo; rw [eo]; clear eo))
  | ((with_reducible refine w_listD ?kvs ?h ?q); (case h => walk_at "rd"))
  | ((with_reducible refine w_lenD ?kvs ?h ?q); (case h => walk_at "tr"))
  | ((with_reducible refine w_sortD ?ks ?f ?h ?q); (case h => walk_at "tr")))
def sp_whole : Sp := fun vs H Q _ => ∃ i : Int, vs = [.int i] ∧ Q (.bl true) H
theorem sc__law_whole : FnScope ["value"] ["value"] (defScope (top 40)) := ⟨rfl, rfl, rfl, by decide +kernel, rfl, by decide +kernel, by decide +kernel⟩
theorem d__law_whole {P : Program} {w : World} {K : PySem.W.Frag} {mg : Str → Option Value} {base : Heap} (T : Tx K mg) : Def P w K mg base "_law_whole" 1 ["value"] sp_whole := by
  refine Def.of T.at__law_whole sc__law_whole (fun _ _ _ _ _ _ us hl => match us, hl with | [_], _ => rfl) (fun vs H Q E h => by (obtain ⟨_, rfl, _⟩ := h; rfl)) (fun f cdv A outer s H vs Q E hr h => ?_)
  refine ⟨_, PSs.nox (pss_one (ps_ret (pe_and (pe_callB call_isA (by rfl) T.n_isinstance (by decide +kernel) (pa_cons (pv 0) (pa_cons (pe_bltn (v := .ty "int") (u := .type "int") (by rfl) T.n_int (by decide +kernel) rfl) pa_nil))) (pe_one (pe_not (pe_callB call_isA (by rfl) T.n_isinstance (by decide +kernel) (pa_cons (pv 0) (pa_cons (pe_bltn (v := .ty "bool") (u := .type "bool") (by rfl) T.n_bool (by decide +kernel) rfl) pa_nil)))))))), ?_⟩
  obtain ⟨i, rfl, q⟩ := h
  walk_at "w0"
  walk_at "w"
  refine w_isi (.base (.int _)) (b := true) (by decide +kernel) ⟨_, rfl, iteT ?_⟩
  walk_at "w"
  refine w_isi (.base (.int _)) (b := false) (by decide +kernel) ⟨_, rfl, ?_⟩
  exact q
def sp_gcd : Sp := fun vs H Q _ => ∃ a b : Int, vs = [.int a, .int b] ∧ Sm 100000 b ∧ Q (.int ((Nat.gcd a.natAbs b.natAbs : Nat) : Int)) H
theorem sc__law_gcd : FnScope ["a", "b", "one", "two", "turn", "rest"] ["a", "b"] (defScope (top 43)) := ⟨rfl, rfl, rfl, by decide +kernel, rfl, by decide +kernel, by decide +kernel⟩
theorem d__law_gcd {P : Program} {w : World} {K : PySem.W.Frag} {mg : Str → Option Value} {base : Heap} (T : Tx K mg) : Def P w K mg base "_law_gcd" 1 ["a", "b"] sp_gcd := by
  refine Def.of T.at__law_gcd sc__law_gcd (fun _ _ _ _ _ _ us hl => match us, hl with | [_, _], _ => rfl) (fun vs H Q E h => by (obtain ⟨_, _, rfl, _⟩ := h; rfl)) (fun f cdv A outer s H vs Q E hr h => ?_)
  refine ⟨_, PSs.nox (pss_cons (ps_set (i := 2) sc__law_gcd.nd rfl (Or.inl rfl) (pe_callB call_absA (by rfl) T.n_abs (by decide +kernel) (pa_cons (pv 0) pa_nil)))
      (pss_cons (ps_set (i := 3) sc__law_gcd.nd rfl (Or.inl rfl) (pe_callB call_absA (by rfl) T.n_abs (by decide +kernel) (pa_cons (pv 1) pa_nil)))
      (pss_cons (ps_for PassesOwn.never rfl (pi_range1 (by rfl) T.n_range (pa_cons (pe_op op_addA (pe_op op_mulW pe_int (pe_bits (pv 3))) pe_int) pa_nil)) (pg_name (i := 4) sc__law_gcd.nd rfl (Or.inl rfl)) (pss_cons (ps_if (pt_cmpR (op_eqA hr.units) (pv 3) pe_int (nomark _)) (pss_one (ps_ret (pv 2))) pss_nil)
      (pss_cons (ps_set (i := 5) sc__law_gcd.nd rfl (Or.inl rfl) (pe_op op_mod (pe_callTy call_intA (by rfl) T.n_int (by decide +kernel) (pa_cons (pv 2) pa_nil)) (pv 3)))
      (pss_cons (ps_set (i := 2) sc__law_gcd.nd rfl (Or.inl rfl) (pv 3))
      (pss_one (ps_set (i := 3) sc__law_gcd.nd rfl (Or.inl rfl) (pv 5)))))))
      (pss_one (ps_ret (pv 2)))))), ?_⟩
  obtain ⟨a, b, rfl, hz, q⟩ := h
  have hbits : Builtin.Int.intBits (b.natAbs : Int) ≤ 100000 := PyProof.Rows.intBits_le (by rw [Int.natAbs_natCast]; exact hz)
  have hlt : b.natAbs < 2 ^ Builtin.Int.intBits (b.natAbs : Int) := bits_lt b.natAbs
  walk_at "w0"
  walk_at "w"
  generalize Builtin.Int.intBits (b.natAbs : Int) = n at hbits hlt ⊢
  refine for_rng1 (n := 2 * n + 2) (by omega) (by omega) (by omega)
    (fun i σ' H' => H' = H ∧ ∃ (x y : Nat) (v4 v5 : Option V), σ' = [some (.int a), some (.int b), some (.int x), some (.int y), v4, v5] ∧ GcdAt (Nat.gcd a.natAbs b.natAbs) n i x y)
    ⟨rfl, a.natAbs, b.natAbs, none, none, rfl, rfl, fun _ => hlt, fun z => absurd z (by decide)⟩ ?_ ?_
  · rintro i σ' H' hi ⟨rfl, x, y, v4, v5, rfl, G⟩
    walk_at "w"
    refine iteD (fun h => ?_) (fun h => ?_)
    · walk_at "w"
      have hy : y = 0 := by omega
      subst hy
      rw [← G.ret] at q
      exact q
    · walk_at "w"
      have hy : y ≠ 0 := by omega
      have hi2 : i < 2 * n + 1 := by
        rcases Nat.lt_or_ge i (2 * n + 1) with z | z
        · exact z
        · have : i = 2 * n + 1 := by omega
          subst this
          exact absurd G.over id
      exact ⟨rfl, y, x % y, _, _, rfl, G.next hy hi2⟩
  · rintro σ' H' ⟨rfl, x, y, v4, v5, rfl, G⟩
    walk_at "w"
    rw [G.done]
    exact q
/-! the cells -/
def lawCell (ns : List Int) (k : Int) : Int :=
  if k < ns.length then ns.getD k.toNat 0 else (((ns.foldl (fun s c => (s * 31 + c % 1000003) % 1000003) 17) + 7) * (k + 3) * 69621) % 2147483647
def sp_cell (K : PySem.W.Frag) : Sp := fun vs H Q _ => ∃ (a : Addr) (k : Int) (ns : List Int), vs = [.ref a, .int k] ∧ SqL K H a (ns.map V.int) ∧ 0 ≤ k ∧ k ≤ 1000 ∧ Q (.int (lawCell ns k)) H
theorem sc__law_cell : FnScope ["script", "k", "seed", "cell"] ["script", "k"] (defScope (top 41)) := ⟨rfl, rfl, rfl, by decide +kernel, rfl, by decide +kernel, by decide +kernel⟩
theorem d__law_cell {P : Program} {w : World} {K : PySem.W.Frag} {mg : Str → Option Value} {base : Heap} (T : Tx K mg) : Def P w K mg base "_law_cell" 1 ["script", "k"] (sp_cell K) := by
  refine Def.of T.at__law_cell sc__law_cell (fun _ _ _ _ _ _ us hl => match us, hl with | [_, _], _ => rfl) (fun vs H Q E h => by (obtain ⟨_, _, _, rfl, _⟩ := h; rfl)) (fun f cdv A outer s H vs Q E hr h => ?_)
  refine ⟨_, PSs.nox (pss_cons (ps_if (pt_cmpR op_lt (pv 1) (pe_callB call_lenA (by rfl) T.n_len (by decide +kernel) (pa_cons (pv 0) pa_nil)) (nomark _)) (pss_one (ps_ret (pe_ix ix_seq (pv 0) (pv 1) (fun _ _ => rfl)))) pss_nil)
      (pss_cons (ps_set (i := 2) sc__law_cell.nd rfl (Or.inl rfl) pe_int)
      (pss_cons (ps_for PassesOwn.never rfl (pi_seq (pv 0)) (pg_name (i := 3) sc__law_cell.nd rfl (Or.inl rfl)) (pss_one (ps_set (i := 2) sc__law_cell.nd rfl (Or.inl rfl) (pe_op op_mod (pe_callTy call_intA (by rfl) T.n_int (by decide +kernel) (pa_cons (pe_op op_addA (pe_op op_mulW (pv 2) pe_int) (pe_op op_mod (pe_callTy call_intA (by rfl) T.n_int (by decide +kernel) (pa_cons (pv 3) pa_nil)) pe_int)) pa_nil)) pe_int))))
      (pss_one (ps_ret (pe_op op_mod (pe_callTy call_intA (by rfl) T.n_int (by decide +kernel) (pa_cons (pe_op op_mulW (pe_op op_mulW (pe_op op_addA (pv 2) pe_int) (pe_op op_addA (pv 1) pe_int)) pe_int) pa_nil)) pe_int)))))), ?_⟩
  obtain ⟨a, k, ns, rfl, hs, h0, h1, q⟩ := h
  have hq : Sq K H a (ns.map V.int) := .inl hs
  walk_at "w0"
  walk_at "w"
  refine iteD (fun h => ?_) (fun h => ?_)
  · walk_at "w"
    rw [List.length_map] at h
    have e : lawCell ns k = ns.getD k.toNat 0 := if_pos h
    have g : (ns.map V.int)[k.toNat]? = some (.int (lawCell ns k)) := by
      rw [e, List.getElem?_map, List.getD_eq_getElem?_getD, List.getElem?_eq_getElem (by omega)]
      rfl
    have g2 := atI_nat g
    rw [Int.toNat_of_nonneg h0] at g2
    exact w_ix hq g2 q
  · rw [List.length_map] at h
    walk_at "w"
    refine for_seq H hq (fun i σ' H' => H' = H ∧ ∃ (v : Option V) (z : Int), σ' = [some (.ref a), some (.int k), some (.int z), v] ∧ z = (ns.take i).foldl (fun s c => (s * 31 + c % 1000003) % 1000003) 17 ∧ 0 ≤ z ∧ z < 1000003)
      ⟨rfl, none, 17, rfl, rfl, by decide, by decide⟩ (fun i σ' H' _ ⟨e, _⟩ => e ▸ Same.refl _) ?_ ?_
    · rintro i x σ' H' hi ⟨rfl, v, z, rfl, ez, z0, z1⟩
      obtain ⟨c, hc, rfl⟩ : ∃ c, ns[i]? = some c ∧ V.int c = x := by
        rw [List.getElem?_map] at hi
        cases e : ns[i]? with
        | none => rw [e] at hi; cases hi
        | some c => rw [e] at hi; exact ⟨c, rfl, Option.some.inj hi⟩
      walk_at "w"
      refine ⟨rfl, _, _, rfl, ?_, Int.emod_nonneg _ (by decide), Int.emod_lt_of_pos _ (by decide)⟩
      rw [List.take_add_one, hc, ez]
      simp
    · rintro σ' H' ⟨rfl, v, z, rfl, ez, z0, z1⟩
      rw [List.length_map, List.take_length] at ez
      walk_at "w"
      have e : lawCell ns k = ((z + 7) * (k + 3) * 69621) % 2147483647 := by
        unfold lawCell
        rw [if_neg h, ez]
      have m1 : CMulW (z + 7) (k + 3) := small_mul (by omega) (by omega)
      have m2 : CMulW ((z + 7) * (k + 3)) 69621 := Sm.mulOk (a := 60) (b := 30) (Sm.mul (a := 30) (b := 30) (show (z + 7).natAbs < 2 ^ 30 by omega) (show (k + 3).natAbs < 2 ^ 30 by omega)) (by decide) (by decide)
      walk_at "w"
      rw [e] at q
      exact q
def digA : Int → List Int → List Int
  | _, [] => []
  | r, z :: zs => r % z :: digA (r.fdiv z) zs
def dS (s : Int) (k : Nat) : Int := (s * 48271 + 974711 * (k : Int) + 12345) % 2147483647
def dT (s : Int) : Int := ((s * (s.fdiv 65537 + 3)) % 2147483629).fdiv 19
def digB : Int → Nat → List Int → List Int
  | _, _, [] => []
  | s, k, z :: zs => dT (dS s k) % z :: digB (dS s k) (k + 1) zs
def digits (c : Int) (zs : List Int) : List Int := if 1000000000000000000 ≤ c then digA (c - 1000000000000000000) zs else digB (c % 2147483629) 0 zs
/-- row is a row of digits for the sizes -/
def Dig (zs ds : List Int) : Prop := ds.length = zs.length ∧ ∀ (i : Nat) (z d : Int), zs[i]? = some z → ds[i]? = some d → 0 ≤ d ∧ d < z
theorem digA_ok : ∀ (zs : List Int) (r : Int), (∀ z ∈ zs, 0 < z) → Dig zs (digA r zs)
  | [], _, _ => ⟨rfl, fun i z d h => by simp at h⟩
  | z :: zs, r, h => by
    obtain ⟨a, b⟩ := digA_ok zs (r.fdiv z) fun y hy => h y (List.mem_cons_of_mem _ hy)
    have hz := h z List.mem_cons_self
    refine ⟨by show _ + 1 = _ + 1; rw [a], fun i y d h1 h2 => ?_⟩
    cases i with
    | zero =>
      have e1 : z = y := by simpa using h1
      have e2 : r % z = d := by simpa [digA] using h2
      rw [← e1, ← e2]
      exact ⟨Int.emod_nonneg _ (by omega), Int.emod_lt_of_pos _ hz⟩
    | succ i => exact b i y d (by simpa using h1) (by simpa [digA] using h2)
theorem digB_ok : ∀ (zs : List Int) (s : Int) (k : Nat), (∀ z ∈ zs, 0 < z) → Dig zs (digB s k zs)
  | [], _, _, _ => ⟨rfl, fun i z d h => by simp at h⟩
  | z :: zs, s, k, h => by
    obtain ⟨a, b⟩ := digB_ok zs (dS s k) (k + 1) fun y hy => h y (List.mem_cons_of_mem _ hy)
    have hz := h z List.mem_cons_self
    refine ⟨by show _ + 1 = _ + 1; rw [a], fun i y d h1 h2 => ?_⟩
    cases i with
    | zero =>
      have e1 : z = y := by simpa using h1
      have e2 : dT (dS s k) % z = d := by simpa [digB] using h2
      rw [← e1, ← e2]
      exact ⟨Int.emod_nonneg _ (by omega), Int.emod_lt_of_pos _ hz⟩
    | succ i => exact b i y d (by simpa using h1) (by simpa [digB] using h2)
theorem digits_ok (c : Int) (zs : List Int) (h : ∀ z ∈ zs, 0 < z) : Dig zs (digits c zs) := by
  unfold digits
  split
  · exact digA_ok _ _ h
  · exact digB_ok _ _ _ h
def sp_digits (K : PySem.W.Frag) : Sp := fun vs H Q _ => ∃ (c : Int) (a : Addr) (zs : List Int), vs = [.int c, .ref a] ∧ Sq K H a (zs.map V.int) ∧ (∀ z ∈ zs, 0 < z ∧ z < 1073741824) ∧ zs.length ≤ 1000 ∧
  ∀ p H2, H p = none → Same H H2 → H2 p = some (.lst ((digits c zs).map V.int)) → Q (.ref p) H2
theorem sc__law_digits : FnScope ["cell", "sizes", "row", "rest", "size", "seed", "k", "twice"] ["cell", "sizes"] (defScope (top 42)) := ⟨rfl, rfl, rfl, by decide +kernel, rfl, by decide +kernel, by decide +kernel⟩
theorem d__law_digits {P : Program} {w : World} {K : PySem.W.Frag} {mg : Str → Option Value} {base : Heap} (T : Tx K mg) : Def P w K mg base "_law_digits" 1 ["cell", "sizes"] (sp_digits K) := by
  refine Def.of T.at__law_digits sc__law_digits (fun _ _ _ _ _ _ us hl => match us, hl with | [_, _], _ => rfl) (fun vs H Q E h => by (obtain ⟨_, _, _, rfl, _⟩ := h; rfl)) (fun f cdv A outer s H vs Q E hr h => ?_)
  refine ⟨_, PSs.nox (pss_cons (ps_set (i := 2) sc__law_digits.nd rfl (Or.inl rfl) (pe_lstA pa_nil))
      (pss_cons (ps_set (i := 3) sc__law_digits.nd rfl (Or.inl rfl) (pe_callTy call_intA (by rfl) T.n_int (by decide +kernel) (pa_cons (pv 0) pa_nil)))
      (pss_cons (ps_if (pt_cmpR op_ge (pv 3) (pe_op op_pow pe_int pe_int) (nomark _)) (pss_cons (ps_set (i := 3) sc__law_digits.nd rfl (Or.inl rfl) (pe_op op_sub (pv 3) (pe_op op_pow pe_int pe_int)))
      (pss_cons (ps_for PassesOwn.never rfl (pi_seq (pv 1)) (pg_name (i := 4) sc__law_digits.nd rfl (Or.inl rfl)) (pss_cons (ps_expr (pe_bm PySem.F.plainAttrs_list PySem.F.slot_list_append PySem.F.type_list_append mt_appendA (pv 2) (pa_cons (pe_op op_mod (pe_callTy call_intA (by rfl) T.n_int (by decide +kernel) (pa_cons (pv 3) pa_nil)) (pv 4)) pa_nil)))
      (pss_one (ps_set (i := 3) sc__law_digits.nd rfl (Or.inl rfl) (pe_op op_fdivG (pe_callTy call_intA (by rfl) T.n_int (by decide +kernel) (pa_cons (pv 3) pa_nil)) (pv 4))))))
      (pss_one (ps_ret (pv 2))))) pss_nil)
      (pss_cons (ps_set (i := 5) sc__law_digits.nd rfl (Or.inl rfl) (pe_op op_mod (pe_callTy call_intA (by rfl) T.n_int (by decide +kernel) (pa_cons (pv 3) pa_nil)) pe_int))
      (pss_cons (ps_for PassesOwn.never rfl (pi_range1 (by rfl) T.n_range (pa_cons (pe_callB call_lenA (by rfl) T.n_len (by decide +kernel) (pa_cons (pv 1) pa_nil)) pa_nil)) (pg_name (i := 6) sc__law_digits.nd rfl (Or.inl rfl)) (pss_cons (ps_set (i := 5) sc__law_digits.nd rfl (Or.inl rfl) (pe_op op_mod (pe_callTy call_intA (by rfl) T.n_int (by decide +kernel) (pa_cons (pe_op op_addA (pe_op op_addA (pe_op op_mulW (pv 5) pe_int) (pe_op op_mulW pe_int (pv 6))) pe_int) pa_nil)) pe_int))
      (pss_cons (ps_set (i := 7) sc__law_digits.nd rfl (Or.inl rfl) (pe_op op_mod (pe_callTy call_intA (by rfl) T.n_int (by decide +kernel) (pa_cons (pe_op op_mulW (pv 5) (pe_op op_addA (pe_op op_fdivG (pv 5) pe_int) pe_int)) pa_nil)) pe_int))
      (pss_one (ps_expr (pe_bm PySem.F.plainAttrs_list PySem.F.slot_list_append PySem.F.type_list_append mt_appendA (pv 2) (pa_cons (pe_op op_mod (pe_op op_fdivG (pv 7) pe_int) (pe_ix ix_seq (pv 1) (pv 6) (fun _ _ => rfl))) pa_nil)))))))
      (pss_one (ps_ret (pv 2)))))))), ?_⟩
  obtain ⟨c, a, zs, rfl, hq, hzs, hlen, q⟩ := h
  walk_at "w0"
  walk_at "w"
  refine ⟨by walk_at "sz", fun l H1 n1 s1 e1 => ?_⟩
  have hlen' : (zs.map V.int).length ≤ 1000 := by rw [List.length_map]; exact hlen
  walk_at "w"
  refine iteD (fun h => ?_) (fun h => ?_)
  · walk_at "w"
    refine for_seq H hq (fun i σ' H' => Same H H' ∧ ∃ (r : Int) (v : Option V) (done : List Int), σ' = [some (.int c), some (.ref a), some (.ref l), some (.int r), v, none, none, none] ∧ H' l = some (.lst (done.map V.int)) ∧ done.length = i ∧ digA (c - 1000000000000000000) zs = done ++ digA r (zs.drop i))
      ⟨s1, _, none, [], rfl, e1, rfl, rfl⟩ (fun i σ' H' _ ⟨e, _⟩ => e) ?_ ?_
    · rintro i x σ' H' hi ⟨sm, r, v, done, rfl, el, ei, ed⟩
      obtain ⟨z, hz, rfl⟩ := map_at hi
      have hzz := hzs z (List.mem_of_getElem? hz)
      have hz0 : (0 : Int) < z := hzz.1
      have hil := (List.getElem?_eq_some_iff.mp hz).1
      have cd : CDivG r z := small_div hzz.1 hzz.2
      walk_at "w"
      refine w_append el (size_of (by rw [List.length_map]; omega)) fun H2 b2 e2 => ?_
      walk_at "w"
      have c0 : digA r (zs.drop i) = r % z :: digA (r.fdiv z) (zs.drop (i + 1)) := by
        rw [List.drop_eq_getElem_cons hil, (List.getElem?_eq_some_iff.mp hz).2]
        rfl
      refine ⟨But.same b2 sm n1, _, _, done ++ [r % z], rfl, ?_, ?_, ?_⟩
      · rw [e2, List.map_append]; rfl
      · rw [List.length_append, ei]; rfl
      · rw [ed, c0, List.append_assoc]; rfl
    · rintro σ' H' ⟨sm, r, v, done, rfl, el, ei, ed⟩
      walk_at "w"
      have e : digits c zs = done := by
        unfold digits
        rw [if_pos h, ed, List.length_map, List.drop_length]
        exact List.append_nil _
      rw [← e] at el
      exact q l H' n1 sm el
  · walk_at "w"
    have hq1 := Same.sq s1 hq
    walk_at "w"
    refine for_rng1 (n := zs.length) (by rw [List.length_map]; exact Int.toNat_natCast _) (by omega) (by omega) (fun i σ' H' => Same H H' ∧ ∃ (s : Int) (v1 v2 : Option V) (done : List Int), σ' = [some (.int c), some (.ref a), some (.ref l), some (.int c), none, some (.int s), v1, v2] ∧ H' l = some (.lst (done.map V.int)) ∧ done.length = i ∧ 0 ≤ s ∧ s < 2147483647 ∧ digB (c % 2147483629) 0 zs = done ++ digB s i (zs.drop i))
      ⟨s1, _, none, none, [], rfl, e1, rfl, Int.emod_nonneg _ (by decide), Int.lt_trans (Int.emod_lt_of_pos _ (by decide)) (by decide), rfl⟩ ?_ ?_
    · rintro i σ' H' hi ⟨sm, s, v1, v2, done, rfl, el, ei, s0, s2, ed⟩
      have hz : zs[i]? = some zs[i] := List.getElem?_eq_getElem hi
      have hzz := hzs zs[i] (List.mem_of_getElem? hz)
      have hz0 : (0 : Int) < zs[i] := hzz.1
      have c0 : digB s i (zs.drop i) = dT (dS s i) % zs[i] :: digB (dS s i) (i + 1) (zs.drop (i + 1)) := by
        rw [List.drop_eq_getElem_cons hi]
        rfl
      walk_at "w"
      generalize es : (s * 48271 + 974711 * (i : Int) + 12345) % 2147483647 = s'
      rw [show dS s i = s' from es] at c0
      have b0 : 0 ≤ s' := es ▸ Int.emod_nonneg _ (by decide)
      have b1 : s' < 2147483647 := es ▸ Int.emod_lt_of_pos _ (by decide)
      have b2 : 0 ≤ s'.fdiv 65537 ∧ s'.fdiv 65537 ≤ 2147483647 := by
        rw [Int.fdiv_eq_ediv_of_nonneg _ (by decide)]
        omega
      walk_at "w"
      refine w_ix (Same.sq sm hq) (atI_nat (map_get hz)) ?_
      walk_at "w"
      refine w_append el (size_of (by rw [List.length_map]; omega)) fun H2 bb e2 => ?_
      walk_at "w"
      refine ⟨But.same bb sm n1, s', _, _, done ++ [dT s' % zs[i]], rfl, ?_, ?_, b0, b1, ?_⟩
      · rw [e2, List.map_append]; rfl
      · rw [List.length_append, ei]; rfl
      · rw [ed, c0, List.append_assoc]; rfl
    · rintro σ' H' ⟨sm, s, v1, v2, done, rfl, el, ei, s0, s2, ed⟩
      walk_at "w"
      have e : digits c zs = done := by
        unfold digits
        rw [if_neg h, ed, List.drop_length]
        exact List.append_nil _
      rw [← e] at el
      exact q l H' n1 sm el
end JP
set_option Elab.async false
set_option linter.all false
set_option maxRecDepth 100000
set_option maxHeartbeats 4000000
namespace JP
open PySem PySem.Spec PyProof.Rows L2 L2H
local macro_rules | `(tactic| walk_at "w1") => `(tactic| first
  | with_reducible refine w_seq ?_
  | with_reducible refine w_asg ?_
  | with_reducible refine w_name ?_
  | with_reducible refine w_op ?_
  | ((with_reducible refine w_var ?v ?h ?q); (case h => exact rfl))
  | with_reducible refine w_c ?_
  | with_reducible refine w_ret ?_
  | with_reducible refine w_if ?_
  | with_reducible refine w_drop ?_
  | with_reducible refine w_next ?_
  | with_reducible refine w_un ?_
  | with_reducible refine w_p18 ?_
  | with_reducible refine w_p30 ?_
  | with_reducible refine w_p6 ?_
  | with_reducible refine w_p9 ?_
  | with_reducible refine w_p12 ?_
  | with_reducible refine w_p15 ?_
  | with_reducible refine w_p24 ?_
  | with_reducible refine w_slice ?_
  | with_reducible refine w_part ?_
  | with_reducible refine w_nopart ?_
  | with_reducible refine w_ei ?_
  | with_reducible refine w_for ?_
  | with_reducible refine w_rng1 ?_
  | with_reducible refine w_rng2 ?_
  | with_reducible refine w_iseq ?_
  | ((with_reducible refine w_I ?c ?q); (case c => walk_at "side"))
  | ((with_reducible refine w_len ?xs ?h ?q); (case h => walk_at "tr"))
  | with_reducible refine w_cb ?_
  | with_reducible refine w_cons ?_
  | with_reducible refine w_nil ?_
  | with_reducible refine w_test ?_
  | with_reducible refine w_B ?_
  | with_reducible refine w_bl ?_
  | with_reducible refine w_and ?_
  | with_reducible refine w_or ?_
  | with_reducible refine w_not ?_
  | with_reducible refine w_andV ?_
  | with_reducible refine w_orV ?_
  | with_reducible refine w_notV ?_
  | with_reducible refine w_ifE ?_
  | with_reducible refine w_call ?_
  | with_reducible refine w_bm ?_
  | ((with_reducible refine w_tyl ?xs ?h ?q); (case h => assumption))
  | with_reducible refine w_bm0 ?_
  | with_reducible refine w_bits ?_
  | with_reducible refine w_tup ?_
  | with_reducible refine w_lst ?_
  | with_reducible refine w_I0 ?_
  | with_reducible refine w_U ?_
  | with_reducible refine w_add ?_
  | with_reducible refine w_eqI ?_
  | with_reducible refine w_neI ?_
  | with_reducible refine w_eqS ?_
  | with_reducible refine w_neS ?_
  | with_reducible refine w_int ?_
  | with_reducible refine w_abs ?_
  | with_reducible refine w_gcd ?_
  | walk_at "w2")
local macro_rules | `(tactic| walk_at "w2") => `(tactic| fail)
local macro_rules | `(tactic| walk_at "rd") => `(tactic| first | with_reducible assumption | ((with_reducible refine Rd.of ?_); walk_at "tr"))
local macro_rules | `(tactic| walk_at "w") => `(tactic| repeat (walk_at "w1"))
local macro_rules | `(tactic| walk_at "w0") => `(tactic| simp only [cxOf_K, L2.start, List.map_cons, List.map_nil, List.length_cons, List.length_nil, Nat.reduceAdd, Nat.reduceSub, List.replicate_succ, List.replicate_zero, List.cons_append, List.nil_append])
local macro_rules | `(tactic| walk_at "side") => `(tactic| first | assumption | (exact small_div (by omega) (by omega)) | (exact small_mul (by omega) (by omega)) | (exact med_mul (by omega) (by omega)) | (exact big_mul (by omega) (by omega)) | (exact ⟨by decide, by decide, by decide⟩) | (show (0 : Int) < _; omega))
local macro_rules | `(tactic| walk_at "ch") => `(tactic| first
  | with_reducible assumption
  | with_reducible exact Same.refl _
  | ((with_reducible refine tr_at ?H ?e ?h); (case e => with_reducible assumption); (case h => walk_at "ch"))
  | ((with_reducible refine tr_st ?H ?e ?h); (case e => with_reducible assumption); (case h => walk_at "ch"))
  | ((with_reducible refine tr_sl ?H ?e ?h); (case e => with_reducible assumption); (case h => walk_at "ch"))
  | ((with_reducible refine tr_same ?H ?e ?h); (case e => with_reducible assumption); (case h => walk_at "ch"))
  | ((with_reducible refine tr_sq ?H ?e ?h); (case e => with_reducible assumption); (case h => walk_at "ch"))
  | ((with_reducible refine tr_dp ?H ?e ?h); (case e => with_reducible assumption); (case h => walk_at "ch"))
  | walk_at "tr2")
local macro_rules | `(tactic| walk_at "tr") => `(tactic| first
  | walk_at "ch"
  | ((with_reducible refine tr_eq ?u ?h ?e); (case h => walk_at "ch"); (case e => rfl))
  | ((with_reducible refine tr_eqt ?u ?h ?e); (case h => walk_at "ch"); (case e => rfl))
  | ((with_reducible refine tr_eql ?u ?h ?e); (case h => walk_at "ch"); (case e => rfl))
  | ((with_reducible refine SqT.of ?_); first | walk_at "ch" | ((with_reducible refine tr_eq ?u ?h ?e); (case h => walk_at "ch"); (case e => rfl)))
  | ((with_reducible refine SqL.of ?_); first | walk_at "ch" | ((with_reducible refine tr_eq ?u ?h ?e); (case h => walk_at "ch"); (case e => rfl)))
  | ((with_reducible refine sq_l ?_); walk_at "tr")
  | ((with_reducible refine sq_t ?_); walk_at "tr"))
local macro_rules | `(tactic| walk_at "tr2") => `(tactic| fail)
local macro_rules | `(tactic| walk_at "sz") => `(tactic| (simp only [List.length_cons, List.length_nil, List.length_append, List.length_map]; decide))
local macro_rules | `(tactic| walk_at "g") => `(tactic| repeat (first
  | (with_reducible refine g_cons ?_)
  | (with_reducible refine g_nil ?_)
  | (with_reducible refine w_name ?_)))
local macro_rules | `(tactic| walk_at "w2") => `(tactic| first
  | with_reducible refine w_dnew ?_
  | with_reducible refine w_dget ?_
  | with_reducible refine w_dget2 ?_
  | with_reducible refine w_dput ?_
  | ((with_reducible refine w_isd ?kvs ?h ?q); (case h => walk_at "rd"))
  | ((with_reducible refine w_dtal ?ks ?f ?t ?h ?q); (case t => assumption); (case h => walk_at "tr"); (intro o eo; rw [eo]; clear eo))
  | ((with_reducible refine w_listD ?kvs ?h ?q); (case h => walk_at "rd"))
  | ((with_reducible refine w_lenD ?kvs ?h ?q); (case h => walk_at "tr"))
  | ((with_reducible refine w_sortD ?ks ?f ?h ?q); (case h => walk_at "tr")))
def sp_lpoly (K : PySem.W.Frag) : Sp := fun vs H Q _ => ∃ v ps, vs = [v] ∧ PV K H v ps ∧ ps.length < 16777216 ∧ ∀ d H2 R, IsP (cf ps) R → H d = none → Same H H2 → H2 d = some (.dK (dk R)) → Q (.ref d) H2
theorem sc__law_poly : FnScope ["pairs", "p", "pair", "told", "shift"] ["pairs"] (defScope (top 44)) := ⟨rfl, rfl, rfl, by decide +kernel, rfl, by decide +kernel, by decide +kernel⟩
theorem d__law_poly {P : Program} {w : World} {K : PySem.W.Frag} {mg : Str → Option Value} {base : Heap} (T : Tx K mg) : Def P w K mg base "_law_poly" 1 ["pairs"] (sp_lpoly K) := by
  refine Def.of T.at__law_poly sc__law_poly (fun _ _ _ _ _ _ us hl => match us, hl with | [_], _ => rfl) (fun vs H Q E h => by (obtain ⟨_, _, rfl, _⟩ := h; rfl)) (fun f cdv A outer s H vs Q E hr h => ?_)
  refine ⟨_, PSs.nox (pss_cons (ps_set (i := 1) sc__law_poly.nd rfl (Or.inl rfl) pe_dnewA)
      (pss_cons (ps_for PassesOwn.never rfl (pi_seq (pv 0)) (pg_name (i := 2) sc__law_poly.nd rfl (Or.inl rfl)) (pss_one (ps_dput (hu_of hr) (pv 1) (pe_ix ix_seq (pv 2) pe_int (fun _ _ => rfl)) (pe_op op_addA (pe_dget2 (hu_of hr) (pv 1) (pe_ix ix_seq (pv 2) pe_int (fun _ _ => rfl)) pe_int ⟨rfl, rfl, rfl, rfl⟩) (pe_ix ix_seq (pv 2) pe_int (fun _ _ => rfl))) (by rfl))))
      (pss_cons (ps_set (i := 3) sc__law_poly.nd rfl (Or.inl rfl) pe_dnewA)
      (pss_cons (ps_for PassesOwn.never rfl (pi_seq (pe_callB cr_sortA (by rfl) T.n_sorted (by decide +kernel) (pa_cons (pe_callTy (call_listDA (by rfl)) (by rfl) T.n_list (by decide +kernel) (pa_cons (pv 1) pa_nil)) pa_nil))) (pg_name (i := 4) sc__law_poly.nd rfl (Or.inl rfl)) (pss_one (ps_if (pt_cmpR (op_neA hr.units) (pe_dget (hu_of hr) (pv 1) (pv 4) (fun _ _ => rfl)) pe_int (nomark _)) (pss_one (ps_dput (hu_of hr) (pv 3) (pv 4) (pe_dget (hu_of hr) (pv 1) (pv 4) (fun _ _ => rfl)) (by rfl))) pss_nil)))
      (pss_one (ps_ret (pv 3))))))), ?_⟩
  obtain ⟨v, ps, rfl, ⟨a, xs, rfl, hq, hp⟩, hz, q⟩ := h
  have hl := paired_len hp
  walk_at "w0"
  walk_at "w"
  intro d H1 n1 s1 e1
  walk_at "w"
  refine for_seq H hq (fun i σ' H' => Same H H' ∧ ∃ ks v2, σ' = [some (.ref a), some (.ref d), v2, none, none] ∧ H' d = some (.dK (tk ks (cf (ps.take i)))) ∧ Tal ks (cf (ps.take i)) ∧ ks.length ≤ i)
    ⟨s1, [], none, rfl, e1, Tal.nil, Nat.le_refl _⟩ (fun i σ' H' _ ⟨e, _⟩ => e) ?_ ?_
  · rintro i x σ' H' hi ⟨sm, ks, v2, rfl, ed, tal, hk⟩
    obtain ⟨p, hpi, b, rfl, hb⟩ := paired_at hp hi
    have hil := (List.getElem?_eq_some_iff.mp hpi).1
    walk_at "g"
    walk_at "w"
    refine w_ix (Same.sq sm hb) (i := 0) rfl ?_
    walk_at "w"
    refine w_ix (Same.sq sm hb) (i := 1) rfl ?_
    walk_at "w"
    refine w_ix (Same.sq sm hb) (i := 0) rfl ?_
    walk_at "w"
    refine w_dset ed (size_of (by rw [length_tk]; omega)) fun H2 b2 e2 => ?_
    obtain ⟨t2, c2⟩ := tal.put p.1 p.2 (cf_take_succ ps i p hpi)
    refine ⟨But.same b2 sm n1, _, _, rfl, ?_, t2, Nat.le_trans (length_addk _ _) (by omega)⟩
    rw [e2, put_tk, ← tk_congr c2]
  · rintro σ' H' ⟨sm, ks, v2, rfl, ed, tal, hk⟩
    rw [hl, List.take_length] at ed tal
    walk_at "w"
    intro d2 H2 n2 s2 e2
    walk_at "w"
    intro l H3 n3 s3 e3
    rw [tk_kV] at e3
    walk_at "w"
    refine w_sort ks e3 fun ns m H4 hperm hsort n4 s4 e4 => ?_
    have nd2 : d2 ≠ d := fun z => by rw [z, ed] at n2; cases n2
    have lt : ns.Pairwise (· < ·) := by
      have nd : ns.Nodup := hperm.nodup_iff.mpr tal.nd
      exact (hsort.and (show ns.Pairwise (· ≠ ·) from nd)).imp fun ⟨a, b⟩ => by omega
    have hns : ns.length < 16777216 := by rw [hperm.length_eq]; omega
    have sa : Same H' H4 := (s2.trans s3).trans s4
    have ed4 : H4 d = some (.dK (tk ks (cf ps))) := sa _ _ ed
    have e24 : H4 d2 = some (.dK []) := s4 _ _ (s3 _ _ e2)
    have base : Same (fun b => if b = d2 then none else H4 b) H4 := fun b u hb => by
      by_cases z : b = d2
      · simp only [z, if_true] at hb; cases hb
      · simp only [if_neg z] at hb; exact hb
    refine for_seq (fun b => if b = d2 then none else H4 b) (xs := ns.map V.int) (.inl (SqL.of (by
        show (if m = d2 then none else H4 m) = _
        rw [if_neg (fun z => by rw [z, e24] at e4; cases e4)]; exact e4))) (fun i σ' H' => Same (fun b => if b = d2 then none else H4 b) H' ∧ ∃ v2 v4, σ' = [some (.ref a), some (.ref d), v2, some (.ref d2), v4] ∧ H' d2 = some (.dK (dk (pick (ns.take i) (cf ps)))))
      ⟨base, v2, none, rfl, e24⟩ (fun i σ' H' _ ⟨e, _⟩ => e) ?_ ?_
    · rintro i x σ' H5 hi ⟨sm5, v2, v4, rfl, e5⟩
      obtain ⟨s, hs, rfl⟩ := map_at hi
      have hmem : s ∈ ks := hperm.mem_iff.mp (List.mem_of_getElem? hs)
      have hil := (List.getElem?_eq_some_iff.mp hs).1
      have ed5 : H5 d = some (.dK (tk ks (cf ps))) := sm5 d _ (by show (if d = d2 then none else H4 d) = _; rw [if_neg (fun z => nd2 z.symm)]; exact ed4)
      have et : pick (ns.take (i + 1)) (cf ps) = if cf ps s ≠ 0 then pick (ns.take i) (cf ps) ++ [(s, cf ps s)] else pick (ns.take i) (cf ps) := by
        rw [List.take_add_one, hs]
        exact pick_snoc _ _ _
      walk_at "g"
      walk_at "w"
      refine w_dat _ (.of ed5) (valV_tk hmem) ?_
      walk_at "w"
      refine iteN (fun h => ?_) (fun h => ?_)
      · walk_at "w"
        refine w_dat _ (.of ed5) (valV_tk hmem) ?_
        walk_at "w"
        have hpl : (pick (ns.take i) (cf ps)).length ≤ ns.length := by
          unfold pick
          rw [List.length_map]
          exact Nat.le_trans (List.length_filter_le _ _) (by rw [List.length_take]; omega)
        refine w_dset e5 (size_of (by rw [length_dk]; omega)) fun H6 b6 e6 => ?_
        refine ⟨But.same b6 sm5 (by show (if d2 = d2 then none else H4 d2) = none; rw [if_pos rfl]), _, _, rfl, ?_⟩
        rw [e6, et, if_pos (of_decide_eq_false h), put_dk (s, cf ps s) (pick_lt fun u hu => ?_)]
        obtain ⟨j, hj, e⟩ := List.mem_iff_getElem.mp hu
        rw [List.length_take] at hj
        rw [List.getElem_take] at e
        have := List.pairwise_iff_getElem.mp lt j i (by omega) hil (by omega)
        rw [e, (List.getElem?_eq_some_iff.mp hs).2] at this
        exact this
      · refine ⟨sm5, _, _, rfl, ?_⟩
        rw [et, if_neg (fun z => z (of_decide_eq_true h))]
        exact e5
    · rintro σ' H5 ⟨sm5, v2, v4, rfl, e5⟩
      rw [List.length_map, List.take_length] at e5
      walk_at "w"
      have hd2 : H d2 = none := sm.free n2
      have sf : Same H (fun b => if b = d2 then none else H4 b) := fun b u hb => by
        show (if b = d2 then none else H4 b) = _
        rw [if_neg (fun z => by rw [z, hd2] at hb; cases hb)]
        exact sa _ _ (sm _ _ hb)
      exact q d2 H5 _ (pick_isP tal hperm hsort) hd2 (sf.trans sm5) e5
def sp_ladd : Sp := fun vs H Q _ => ∃ a b c R S, vs = [.ref a, .ref b, .int c] ∧ H a = some (.dK (dk R)) ∧ H b = some (.dK (dk S)) ∧ Asc S ∧ R.length + S.length < 16777216 ∧ (∀ t ∈ S, CMulW c t.2) ∧
  ∀ d H2 T, IsP (cf (R ++ sc c S)) T → H d = none → Same H H2 → H2 d = some (.dK (dk T)) → Q (.ref d) H2
theorem sc__law_add : FnScope ["p", "q", "c", "shift"] ["p", "q", "c"] (defScope (top 45)) := ⟨rfl, rfl, rfl, by decide +kernel, rfl, by decide +kernel, by decide +kernel⟩
theorem d__law_add {P : Program} {w : World} {K : PySem.W.Frag} {mg : Str → Option Value} {base : Heap} (T : Tx K mg) : Def P w K mg base "_law_add" 2 ["p", "q", "c"] sp_ladd := by
  refine Def.of T.at__law_add sc__law_add (fun _ _ _ _ _ _ us hl => match us, hl with | [_, _, _], _ => rfl) (fun vs H Q E h => by (obtain ⟨_, _, _, _, _, rfl, _⟩ := h; rfl)) (fun f cdv A outer s H vs Q E hr h => ?_)
  refine ⟨_, PSs.nox (pss_one (ps_ret (pe_def (d__law_poly T) (hr.mono (by decide)) (by rfl) (pa_cons (pe_op op_addA (LiI.pe_listItems (by rfl) (pv 0) (by rfl) T.n_list (by decide +kernel)) (pe_lock (pe_lc (own := [("shift", 3)]) (by rfl) sc__law_add.nd (pi_keys (pv 1)) (blkOk_by (own := [("shift", 3)]) (N := ["p", "q", "c", "shift"]) (sc := defScope (top 45)) (by decide +kernel)) (fun _ _ _ _ _ => (pg_name (i := 3) sc__law_add.nd rfl (Or.inl rfl))) (fun _ _ _ _ _ => pts_nil) (fun _ _ _ _ _ => (pe_tupA (pa_cons (pv 3) (pa_cons (pe_op op_mulW (pv 2) (pe_dget (hu_of hr) (pv 1) (pv 3) (fun _ _ => rfl))) pa_nil))))))) pa_nil)))), ?_⟩
  obtain ⟨a, b, c, R, S, rfl, ha, hb, hS, hz, hc, q⟩ := h
  walk_at "w0"
  walk_at "w"
  refine w_items ?_
  walk_at "w"
  refine ⟨a, _, rfl, ha, fun H1 p ts s1 n1 n2 n3 e1 hp => ?_⟩
  have s1 : Same H H1 := s1
  have hets := items_ets (K := K) hp
  refine w_lcd rfl ?_
  refine lc_dk (s1 _ _ hb) (fun i acc H => Paired (ET K H) acc ((sc c S).take i)) (fun i acc => stb_et _ _) (size_of (by rw [length_dk]; omega)) .nil ?_ ?_
  · rintro i k v acc H2 Y Z hk hr2 hP hY hZ
    obtain ⟨t, ht, rfl, rfl⟩ := dk_get hk
    have hct := hc t (List.mem_of_getElem? ht)
    walk_at "g"
    refine ⟨rfl, w_yes ?_⟩
    walk_at "w"
    refine w_dat _ hr2 (valV_dk hS (List.mem_of_getElem? ht)) ?_
    walk_at "w"
    refine ⟨by walk_at "sz", fun u H4 n4 s4 e4 => ?_⟩
    refine hY _ _ s4 ?_
    have et : (sc c S)[i]? = some (t.1, c * t.2) := by unfold sc; rw [List.getElem?_map, ht]; rfl
    rw [List.take_add_one, et]
    exact paired_snoc ⟨u, rfl, SqT.of e4⟩ (Same.ets s4 hP)
  · rintro l H2 acc n4 s4 e4 hal hP
    rw [length_dk, ← length_sc c S, List.take_length] at hP
    have l1 := paired_len hets
    have l2 := paired_len hP
    refine w_addL (s4 _ _ e1) e4 (size_le (by rw [l1, l2, length_sc]; omega)) fun l3 H3 n3 s3 e3 => ?_
    walk_at "w"
    refine ⟨_, R ++ sc c S, rfl, ⟨l3, _, rfl, .inl (SqL.of e3), paired_imp (fun _ _ => ET.ev) (paired_app (Same.ets (s4.trans s3) hets) (Same.ets s3 hP))⟩, by rw [List.length_append, length_sc]; exact hz, fun d H5 T hT nd s5 e5 => ?_⟩
    exact q d H5 T hT (((Same.free (H := H) (H' := H3) ((s1.trans s4).trans s3)) nd)) (((s1.trans s4).trans s3).trans s5) e5
end JP
set_option Elab.async false
set_option linter.all false
set_option maxRecDepth 100000
set_option maxHeartbeats 4000000
namespace JP
open PySem PySem.Spec PyProof.Rows L2 L2H
local macro_rules | `(tactic| walk_at "w1") => `(tactic| first
  | with_reducible refine w_seq ?_
  | with_reducible refine w_asg ?_
  | with_reducible refine w_name ?_
  | with_reducible refine w_op ?_
  | ((with_reducible refine w_var ?v ?h ?q); (case h => exact rfl))
  | with_reducible refine w_c ?_
  | with_reducible refine w_ret ?_
  | with_reducible refine w_if ?_
  | with_reducible refine w_drop ?_
  | with_reducible refine w_next ?_
  | with_reducible refine w_un ?_
  | with_reducible refine w_p18 ?_
  | with_reducible refine w_p30 ?_
  | with_reducible refine w_p6 ?_
  | with_reducible refine w_p9 ?_
  | with_reducible refine w_p12 ?_
  | with_reducible refine w_p15 ?_
  | with_reducible refine w_p24 ?_
  | with_reducible refine w_slice ?_
  | with_reducible refine w_part ?_
  | with_reducible refine w_nopart ?_
  | with_reducible refine w_ei ?_
  | with_reducible refine w_for ?_
  | with_reducible refine w_rng1 ?_
  | with_reducible refine w_rng2 ?_
  | with_reducible refine w_iseq ?_
  | ((with_reducible refine w_I ?c ?q); (case c => walk_at "side"))
  | ((with_reducible refine w_len ?xs ?h ?q); (case h => walk_at "tr"))
  | with_reducible refine w_cb ?_
  | with_reducible refine w_cons ?_
  | with_reducible refine w_nil ?_
  | with_reducible refine w_test ?_
  | with_reducible refine w_B ?_
  | with_reducible refine w_bl ?_
  | with_reducible refine w_and ?_
  | with_reducible refine w_or ?_
  | with_reducible refine w_not ?_
  | with_reducible refine w_andV ?_
  | with_reducible refine w_orV ?_
  | with_reducible refine w_notV ?_
  | with_reducible refine w_ifE ?_
  | with_reducible refine w_call ?_
  | with_reducible refine w_bm ?_
  | ((with_reducible refine w_tyl ?xs ?h ?q); (case h => assumption))
  | with_reducible refine w_bm0 ?_
  | with_reducible refine w_bits ?_
  | with_reducible refine w_tup ?_
  | with_reducible refine w_lst ?_
  | with_reducible refine w_I0 ?_
  | with_reducible refine w_U ?_
  | with_reducible refine w_add ?_
  | with_reducible refine w_eqI ?_
  | with_reducible refine w_neI ?_
  | with_reducible refine w_eqS ?_
  | with_reducible refine w_neS ?_
  | with_reducible refine w_int ?_
  | with_reducible refine w_abs ?_
  | with_reducible refine w_gcd ?_
  | walk_at "w2")
local macro_rules | `(tactic| walk_at "w2") => `(tactic| fail)
local macro_rules | `(tactic| walk_at "rd") => `(tactic| first | with_reducible assumption | ((with_reducible refine Rd.of ?_); walk_at "tr"))
local macro_rules | `(tactic| walk_at "w") => `(tactic| repeat (walk_at "w1"))
local macro_rules | `(tactic| walk_at "w0") => `(tactic| simp only [cxOf_K, L2.start, List.map_cons, List.map_nil, List.length_cons, List.length_nil, Nat.reduceAdd, Nat.reduceSub, List.replicate_succ, List.replicate_zero, List.cons_append, List.nil_append])
local macro_rules | `(tactic| walk_at "side") => `(tactic| first | assumption | (exact small_div (by omega) (by omega)) | (exact small_mul (by omega) (by omega)) | (exact med_mul (by omega) (by omega)) | (exact big_mul (by omega) (by omega)) | (exact ⟨by decide, by decide, by decide⟩) | (show (0 : Int) < _; omega))
local macro_rules | `(tactic| walk_at "ch") => `(tactic| first
  | with_reducible assumption
  | with_reducible exact Same.refl _
  | ((with_reducible refine tr_at ?H ?e ?h); (case e => with_reducible assumption); (case h => walk_at "ch"))
  | ((with_reducible refine tr_st ?H ?e ?h); (case e => with_reducible assumption); (case h => walk_at "ch"))
  | ((with_reducible refine tr_sl ?H ?e ?h); (case e => with_reducible assumption); (case h => walk_at "ch"))
  | ((with_reducible refine tr_same ?H ?e ?h); (case e => with_reducible assumption); (case h => walk_at "ch"))
  | ((with_reducible refine tr_sq ?H ?e ?h); (case e => with_reducible assumption); (case h => walk_at "ch"))
  | ((with_reducible refine tr_dp ?H ?e ?h); (case e => with_reducible assumption); (case h => walk_at "ch"))
  | walk_at "tr2")
local macro_rules | `(tactic| walk_at "tr") => `(tactic| first
  | walk_at "ch"
  | ((with_reducible refine tr_eq ?u ?h ?e); (case h => walk_at "ch"); (case e => rfl))
  | ((with_reducible refine tr_eqt ?u ?h ?e); (case h => walk_at "ch"); (case e => rfl))
  | ((with_reducible refine tr_eql ?u ?h ?e); (case h => walk_at "ch"); (case e => rfl))
  | ((with_reducible refine SqT.of ?_); first | walk_at "ch" | ((with_reducible refine tr_eq ?u ?h ?e); (case h => walk_at "ch"); (case e => rfl)))
  | ((with_reducible refine SqL.of ?_); first | walk_at "ch" | ((with_reducible refine tr_eq ?u ?h ?e); (case h => walk_at "ch"); (case e => rfl)))
  | ((with_reducible refine sq_l ?_); walk_at "tr")
  | ((with_reducible refine sq_t ?_); walk_at "tr"))
local macro_rules | `(tactic| walk_at "tr2") => `(tactic| fail)
local macro_rules | `(tactic| walk_at "sz") => `(tactic| (simp only [List.length_cons, List.length_nil, List.length_append, List.length_map]; decide))
local macro_rules | `(tactic| walk_at "g") => `(tactic| repeat (first
  | (with_reducible refine g_cons ?_)
  | (with_reducible refine g_nil ?_)
  | (with_reducible refine w_name ?_)))
local macro_rules | `(tactic| walk_at "w2") => `(tactic| first
  | with_reducible refine w_dnew ?_
  | with_reducible refine w_dget ?_
  | with_reducible refine w_dget2 ?_
  | with_reducible refine w_dput ?_
  | ((with_reducible refine w_isd ?kvs ?h ?q); (case h => walk_at "rd"))
  | ((with_reducible refine w_dtal ?ks ?f ?t ?h ?q); (case t => assumption); (case h => walk_at "tr"); (intro o eo; rw [eo]; clear eo))
  | ((with_reducible refine w_listD ?kvs ?h ?q); (case h => walk_at "rd"))
  | ((with_reducible refine w_lenD ?kvs ?h ?q); (case h => walk_at "tr"))
  | ((with_reducible refine w_sortD ?ks ?f ?h ?q); (case h => walk_at "tr")))
def sp_lmul : Sp := fun vs H Q _ => ∃ a b R S, vs = [.ref a, .ref b] ∧ H a = some (.dK (dk R)) ∧ H b = some (.dK (dk S)) ∧ Asc R ∧ Asc S ∧ R.length * S.length < 16777216 ∧ Wb 100000 R ∧ Wb 100000 S ∧
  ∀ d H2 T, IsP (cf (prd R S)) T → H d = none → Same H H2 → H2 d = some (.dK (dk T)) → Q (.ref d) H2
theorem sc__law_mul : FnScope ["p", "q", "made", "one", "two"] ["p", "q"] (defScope (top 46)) := ⟨rfl, rfl, rfl, by decide +kernel, rfl, by decide +kernel, by decide +kernel⟩
theorem d__law_mul {P : Program} {w : World} {K : PySem.W.Frag} {mg : Str → Option Value} {base : Heap} (T : Tx K mg) : Def P w K mg base "_law_mul" 2 ["p", "q"] sp_lmul := by
  refine Def.of T.at__law_mul sc__law_mul (fun _ _ _ _ _ _ us hl => match us, hl with | [_, _], _ => rfl) (fun vs H Q E h => by (obtain ⟨_, _, _, _, rfl, _⟩ := h; rfl)) (fun f cdv A outer s H vs Q E hr h => ?_)
  refine ⟨_, PSs.nox (pss_cons (ps_set (i := 2) sc__law_mul.nd rfl (Or.inl rfl) pe_dnewA)
      (pss_cons (ps_lockM (ps_for PassesOwn.never rfl (pi_keys (pv 0)) (pg_name (i := 3) sc__law_mul.nd rfl (Or.inl rfl)) (pss_one (ps_lockM (ps_for PassesOwn.never rfl (pi_keys (pv 1)) (pg_name (i := 4) sc__law_mul.nd rfl (Or.inl rfl)) (pss_one (ps_dput (hu_of hr) (pv 2) (pe_op op_addA (pv 3) (pv 4)) (pe_op op_addA (pe_dget2 (hu_of hr) (pv 2) (pe_op op_addA (pv 3) (pv 4)) pe_int ⟨rfl, rfl, rfl, rfl⟩) (pe_op op_mulW (pe_dget (hu_of hr) (pv 0) (pv 3) (fun _ _ => rfl)) (pe_dget (hu_of hr) (pv 1) (pv 4) (fun _ _ => rfl)))) (by rfl))))))))
      (pss_one (ps_ret (pe_def (d__law_poly T) (hr.mono (by decide)) (by rfl) (pa_cons (LiI.pe_listItems (by rfl) (pv 2) (by rfl) T.n_list (by decide +kernel)) pa_nil)))))), ?_⟩
  obtain ⟨a, b, R, S, rfl, ha, hb, hR, hS, hz, w1, w2, q⟩ := h
  walk_at "w0"
  walk_at "w"
  intro m H1 n1 s1 e1
  walk_at "w"
  refine w_lock (s1 _ _ ha) fun od => ?_
  have hma : m ≠ a := fun z => by rw [z, ha] at n1; cases n1
  have hmb : m ≠ b := fun z => by rw [z, hb] at n1; cases n1
  generalize hHf : upd H a (.frz od (.dK (dk R))) = Hf
  have ef : Same Hf (upd H1 a (.frz od (.dK (dk R)))) := hHf ▸ same_upd s1
  have fa : Hf a = some (.frz od (.dK (dk R))) := hHf ▸ upd_same
  have fm : Hf m = none := by rw [← hHf, upd_ne hma]; exact n1
  have fm1 : (upd H1 a (.frz od (.dK (dk R)))) m = some (.dK []) := by rw [upd_ne hma]; exact e1
  walk_at "w"
  refine w_keys ?_
  walk_at "w"
  refine for_keysR Hf fa (fun i σ' H' => Same Hf H' ∧ ∃ ks v3 v4, σ' = [some (.ref a), some (.ref b), some (.ref m), v3, v4] ∧ H' m = some (.dK (tk ks (cf (prd (R.take i) S)))) ∧ Tal ks (cf (prd (R.take i) S)) ∧ ks.length ≤ i * S.length)
    ⟨ef, [], none, none, rfl, fm1, Tal.nil, Nat.zero_le _⟩ (fun i σ' H' ⟨e, _⟩ => e) ?_ ?_
  · rintro i p σ' H' hi ⟨sm, ks, v3, v4, rfl, ed, tal, hk⟩
    walk_at "g"
    walk_at "w"
    have hiR := (List.getElem?_eq_some_iff.mp hi).1
    have pR := List.mem_of_getElem? hi
    have key : ∀ (B Hc : Hp) (ob : Obj) (Dx : Ends), B b = some (.frz ob (.dK (dk S))) → Rd B a (.dK (dk R)) → B m = none → Same B Hc → Hc m = some (.dK (tk ks (cf (prd (R.take i) S)))) →
        (∀ σ' H', (Same B H' ∧ ∃ ks v4, σ' = [some (.ref a), some (.ref b), some (.ref m), some (.int p.1), v4] ∧ H' m = some (.dK (tk ks (cf (prd (R.take (i + 1)) S)))) ∧ Tal ks (cf (prd (R.take (i + 1)) S)) ∧ ks.length ≤ (i + 1) * S.length) → Dx.nx σ' H') →
        tFor (iKeys (tVar 1)) (gName 4) (sDPut (tVar 2) (tOp (rAddA K) (tVar 3) (tVar 4))
          (tOp (rAddA K) (tDGet2 (tVar 2) (tOp (rAddA K) (tVar 3) (tVar 4)) (tC (V.int 0))) (tOp (rI CMulW fun i j => V.int (i * j)) (tDGet (tVar 0) (tVar 3)) (tDGet (tVar 1) (tVar 4))))) Dx
          ([some (V.ref a), some (V.ref b), some (V.ref m), v3, v4].set 3 (some (V.int p.1))) Hc := by
      intro B Hc ob Dx hB hBa hBm sB ed0 hnx
      walk_at "w"
      refine w_keys ?_
      walk_at "w"
      refine for_keysR B hB (fun j σ' H' => Same B H' ∧ ∃ ks v4, σ' = [some (.ref a), some (.ref b), some (.ref m), some (.int p.1), v4] ∧ H' m = some (.dK (tk ks (cf (prd (R.take i) S ++ (row p S).take j)))) ∧ Tal ks (cf (prd (R.take i) S ++ (row p S).take j)) ∧ ks.length ≤ i * S.length + j)
        ⟨sB, ks, v4, rfl, by rw [List.take_zero, List.append_nil]; exact ed0, by rw [List.take_zero, List.append_nil]; exact tal, hk⟩ (fun i σ' H' ⟨e, _⟩ => e) ?_ ?_
      · rintro j t σ' H' hj ⟨sm, ks, v4, rfl, ed, tal, hk⟩
        have hjl := (List.getElem?_eq_some_iff.mp hj).1
        have tS := List.mem_of_getElem? hj
        have hm : CMulW p.2 t.2 := Sm.mulOk (Wb.mem w1 pR) (Wb.mem w2 tS) (by decide)
        have hkl : (i * S.length + j) < 16777216 := by
          have : (i + 1) * S.length ≤ R.length * S.length := Nat.mul_le_mul_right _ hiR
          rw [Nat.add_mul] at this
          omega
        walk_at "g"
        walk_at "w"
        refine w_dat _ (Same.rd sm hBa) (valV_dk hR pR) ?_
        walk_at "w"
        refine w_dat _ (.inr ⟨ob, sm _ _ hB⟩) (valV_dk hS tS) ?_
        walk_at "w"
        refine w_dset ed (size_of (by rw [length_tk]; omega)) fun H2 b2 e2 => ?_
        obtain ⟨t2, c2⟩ := tal.put (p.1 + t.1) (p.2 * t.2) (cf_row_succ (prd (R.take i) S) p S j t hj)
        refine ⟨But.same b2 sm hBm, _, _, rfl, ?_, t2, Nat.le_trans (length_addk _ _) (by omega)⟩
        rw [e2, put_tk, ← tk_congr c2]
      · rintro σ' H' ⟨sm, ks, v4, rfl, ed, tal, hk⟩
        have e : prd (R.take i) S ++ (row p S).take S.length = prd (R.take (i + 1)) S := by
          rw [← length_row p S, List.take_length, prd_take_succ _ _ _ _ hi]
        rw [e] at ed tal
        refine hnx _ _ ⟨sm, ks, _, rfl, ed, tal, ?_⟩
        rw [Nat.add_mul]
        omega
    by_cases hab : a = b
    · subst hab
      have hRS : dk R = dk S := by
        rw [ha] at hb
        injection hb with hb
        injection hb
      refine w_nolock (key Hf H' od _ (by rw [← hRS]; exact fa) (.inr ⟨od, fa⟩) fm sm ed ?_)
      rintro σ' H2 ⟨sm2, ks2, v4', e, ed2, tal2, hk2⟩
      exact ⟨sm2, ks2, _, v4', e, ed2, tal2, hk2⟩
    · have fb : Hf b = some (.dK (dk S)) := by rw [← hHf, upd_ne (fun z => hab z.symm)]; exact hb
      refine w_lock (sm _ _ fb) fun ob => ?_
      refine key (upd Hf b (.frz ob (.dK (dk S)))) _ ob _ upd_same (.inr ⟨od, by rw [upd_ne hab]; exact fa⟩) (by rw [upd_ne hmb]; exact fm) (same_upd sm) (by rw [upd_ne hmb]; exact ed) ?_
      rintro σ' H2 ⟨sm2, ks2, v4', e, ed2, tal2, hk2⟩
      refine ⟨sm2 _ _ upd_same, lock_same fb sm2, ks2, _, v4', e, ?_, tal2, hk2⟩
      rw [upd_ne hmb]
      exact ed2
  · rintro σ' H' ⟨sm, ks, v3, v4, rfl, ed, tal, hk⟩
    rw [List.take_length] at ed tal
    refine ⟨sm _ _ fa, ?_⟩
    have s2 : Same H (upd H' a (.dK (dk R))) := by
      subst hHf
      exact lock_same ha sm
    have e2 : (upd H' a (.dK (dk R))) m = some (.dK (dk (tkp ks (cf (prd R S))))) := by
      rw [upd_ne hma, ← tk_tkp]
      exact ed
    generalize upd H' a (.dK (dk R)) = H2 at s2 e2 ⊢
    walk_at "w"
    refine w_items ?_
    walk_at "w"
    refine ⟨m, _, rfl, e2, fun H3 l ts s3 n3 n4 n5 e3 hp => ?_⟩
    have s3 : Same H2 H3 := s3
    have hets := items_ets (K := K) hp
    walk_at "w"
    refine ⟨_, tkp ks (cf (prd R S)), rfl, ⟨l, _, rfl, .inl (SqL.of e3), paired_imp (fun _ _ => ET.ev) hets⟩, by unfold tkp; rw [List.length_map]; omega, fun d H5 T hT nd s5 e5 => ?_⟩
    exact q d H5 T ⟨hT.asc, hT.nz, fun s => by rw [hT.cfs, cf_tkp tal]⟩ ((s2.trans s3).free nd) ((s2.trans s3).trans s5) e5
def sp_lpairs (K : PySem.W.Frag) : Sp := fun vs H Q _ => ∃ a R, vs = [.ref a] ∧ H a = some (.dK (dk R)) ∧ Asc R ∧ R.length < 16777216 ∧ ∀ v H2, Same H H2 → PT K H2 v R → Q v H2
theorem asc_sorted {R : List Pr} {ns : List Int} (a : Asc R) (hp : ns.Perm (R.map (·.1))) (hs : ns.Pairwise (· ≤ ·)) : ns = R.map (·.1) := by
  refine List.Perm.eq_of_pairwise (le := fun a b => a ≤ b) (fun a b _ _ h1 h2 => Int.le_antisymm h1 h2) hs ?_ hp
  rw [List.pairwise_map]
  exact a.imp fun h => by omega
theorem sc__law_pairs : FnScope ["p", "shift"] ["p"] (defScope (top 47)) := ⟨rfl, rfl, rfl, by decide +kernel, rfl, by decide +kernel, by decide +kernel⟩
theorem d__law_pairs {P : Program} {w : World} {K : PySem.W.Frag} {mg : Str → Option Value} {base : Heap} (T : Tx K mg) : Def P w K mg base "_law_pairs" 1 ["p"] (sp_lpairs K) := by
  refine Def.of T.at__law_pairs sc__law_pairs (fun _ _ _ _ _ _ us hl => match us, hl with | [_], _ => rfl) (fun vs H Q E h => by (obtain ⟨_, _, rfl, _⟩ := h; rfl)) (fun f cdv A outer s H vs Q E hr h => ?_)
  refine ⟨_, PSs.nox (pss_one (ps_ret (pe_callTy call_tupleA (by rfl) T.n_tuple (by decide +kernel) (pa_cons (pe_lc (own := [("shift", 1)]) (by rfl) sc__law_pairs.nd (pi_seq (pe_callB cr_sortA (by rfl) T.n_sorted (by decide +kernel) (pa_cons (pe_callTy (call_listDA (by rfl)) (by rfl) T.n_list (by decide +kernel) (pa_cons (pv 0) pa_nil)) pa_nil))) (blkOk_by (own := [("shift", 1)]) (N := ["p", "shift"]) (sc := defScope (top 47)) (by decide +kernel)) (fun _ _ _ _ _ => (pg_name (i := 1) sc__law_pairs.nd rfl (Or.inl rfl))) (fun _ _ _ _ _ => pts_nil) (fun _ _ _ _ _ => (pe_tupA (pa_cons (pv 1) (pa_cons (pe_dget (hu_of hr) (pv 0) (pv 1) (fun _ _ => rfl)) pa_nil))))) pa_nil)))), ?_⟩
  obtain ⟨a, R, rfl, ha, hR, hz, q⟩ := h
  walk_at "w0"
  walk_at "w"
  refine w_lc ?_
  walk_at "w"
  intro l H1 n1 s1 e1
  rw [dk_kV] at e1
  walk_at "w"
  refine w_sort _ e1 fun ns m H2 hperm hsort n2 s2 e2 => ?_
  have hns := asc_sorted hR hperm hsort
  subst hns
  refine lc_seq (xs := (R.map (·.1)).map V.int) (.inl (SqL.of e2)) (fun i acc H => Paired (ET K H) acc (R.take i)) (fun i acc => stb_et _ _) (size_of (by rw [List.length_map, List.length_map]; omega)) .nil ?_ ?_
  · rintro i x acc H3 Y Z hi s3 hP hY hZ
    obtain ⟨s, hs, rfl⟩ := map_at hi
    obtain ⟨t, ht, rfl⟩ : ∃ t, R[i]? = some t ∧ t.1 = s := by
      rw [List.getElem?_map] at hs
      cases e : R[i]? with
      | none => rw [e] at hs; cases hs
      | some t => rw [e] at hs; exact ⟨t, rfl, Option.some.inj hs⟩
    have ha3 : H3 a = some (.dK (dk R)) := s3 _ _ (s2 _ _ (s1 _ _ ha))
    walk_at "g"
    refine ⟨rfl, w_yes ?_⟩
    walk_at "w"
    refine w_dat _ (.of ha3) (valV_dk hR (List.mem_of_getElem? ht)) ?_
    refine ⟨by walk_at "sz", fun u H4 n4 s4 e4 => ?_⟩
    refine hY _ _ s4 ?_
    rw [List.take_add_one, ht]
    exact paired_snoc ⟨u, rfl, SqT.of e4⟩ (Same.ets s4 hP)
  · rintro l2 H4 acc n4 s4 e4 _ hP
    rw [List.length_map, List.length_map, List.take_length] at hP
    walk_at "w"
    refine w_tuple (.inl (SqL.of e4)) fun t H5 s5 e5 => ?_
    exact q _ H5 (((s1.trans s2).trans s4).trans s5) ⟨t, acc, rfl, e5, Same.ets s5 hP⟩
end JP
set_option Elab.async false
set_option linter.all false
set_option maxRecDepth 100000
set_option maxHeartbeats 4000000
namespace JP
open PySem PySem.Spec PyProof.Rows L2 L2H
local macro_rules | `(tactic| walk_at "w1") => `(tactic| first
  | with_reducible refine w_seq ?_
  | with_reducible refine w_asg ?_
  | with_reducible refine w_name ?_
  | with_reducible refine w_op ?_
  | ((with_reducible refine w_var ?v ?h ?q); (case h => exact rfl))
  | with_reducible refine w_c ?_
  | with_reducible refine w_ret ?_
  | with_reducible refine w_if ?_
  | with_reducible refine w_drop ?_
  | with_reducible refine w_next ?_
  | with_reducible refine w_un ?_
  | with_reducible refine w_p18 ?_
  | with_reducible refine w_p30 ?_
  | with_reducible refine w_p6 ?_
  | with_reducible refine w_p9 ?_
  | with_reducible refine w_p12 ?_
  | with_reducible refine w_p15 ?_
  | with_reducible refine w_p24 ?_
  | with_reducible refine w_slice ?_
  | with_reducible refine w_part ?_
  | with_reducible refine w_nopart ?_
  | with_reducible refine w_ei ?_
  | with_reducible refine w_for ?_
  | with_reducible refine w_rng1 ?_
  | with_reducible refine w_rng2 ?_
  | with_reducible refine w_iseq ?_
  | ((with_reducible refine w_I ?c ?q); (case c => walk_at "side"))
  | ((with_reducible refine w_len ?xs ?h ?q); (case h => walk_at "tr"))
  | with_reducible refine w_cb ?_
  | with_reducible refine w_cons ?_
  | with_reducible refine w_nil ?_
  | with_reducible refine w_test ?_
  | with_reducible refine w_B ?_
  | with_reducible refine w_bl ?_
  | with_reducible refine w_and ?_
  | with_reducible refine w_or ?_
  | with_reducible refine w_not ?_
  | with_reducible refine w_andV ?_
  | with_reducible refine w_orV ?_
  | with_reducible refine w_notV ?_
  | with_reducible refine w_ifE ?_
  | with_reducible refine w_call ?_
  | with_reducible refine w_bm ?_
  | ((with_reducible refine w_tyl ?xs ?h ?q); (case h => assumption))
  | with_reducible refine w_bm0 ?_
  | with_reducible refine w_bits ?_
  | with_reducible refine w_tup ?_
  | with_reducible refine w_lst ?_
  | with_reducible refine w_I0 ?_
  | with_reducible refine w_U ?_
  | with_reducible refine w_add ?_
  | with_reducible refine w_eqI ?_
  | with_reducible refine w_neI ?_
  | with_reducible refine w_eqS ?_
  | with_reducible refine w_neS ?_
  | with_reducible refine w_int ?_
  | with_reducible refine w_abs ?_
  | with_reducible refine w_gcd ?_
  | walk_at "w2")
local macro_rules | `(tactic| walk_at "w2") => `(tactic| fail)
local macro_rules | `(tactic| walk_at "rd") => `(tactic| first | with_reducible assumption | ((with_reducible refine Rd.of ?_); walk_at "tr"))
local macro_rules | `(tactic| walk_at "w") => `(tactic| repeat (walk_at "w1"))
local macro_rules | `(tactic| walk_at "w0") => `(tactic| simp only [cxOf_K, L2.start, List.map_cons, List.map_nil, List.length_cons, List.length_nil, Nat.reduceAdd, Nat.reduceSub, List.replicate_succ, List.replicate_zero, List.cons_append, List.nil_append])
local macro_rules | `(tactic| walk_at "side") => `(tactic| first | assumption | (exact small_div (by omega) (by omega)) | (exact small_mul (by omega) (by omega)) | (exact med_mul (by omega) (by omega)) | (exact big_mul (by omega) (by omega)) | (exact ⟨by decide, by decide, by decide⟩) | (show (0 : Int) < _; omega))
local macro_rules | `(tactic| walk_at "ch") => `(tactic| first
  | with_reducible assumption
  | with_reducible exact Same.refl _
  | ((with_reducible refine tr_at ?H ?e ?h); (case e => with_reducible assumption); (case h => walk_at "ch"))
  | ((with_reducible refine tr_st ?H ?e ?h); (case e => with_reducible assumption); (case h => walk_at "ch"))
  | ((with_reducible refine tr_sl ?H ?e ?h); (case e => with_reducible assumption); (case h => walk_at "ch"))
  | ((with_reducible refine tr_same ?H ?e ?h); (case e => with_reducible assumption); (case h => walk_at "ch"))
  | ((with_reducible refine tr_sq ?H ?e ?h); (case e => with_reducible assumption); (case h => walk_at "ch"))
  | ((with_reducible refine tr_dp ?H ?e ?h); (case e => with_reducible assumption); (case h => walk_at "ch"))
  | walk_at "tr2")
local macro_rules | `(tactic| walk_at "tr") => `(tactic| first
  | walk_at "ch"
  | ((with_reducible refine tr_eq ?u ?h ?e); (case h => walk_at "ch"); (case e => rfl))
  | ((with_reducible refine tr_eqt ?u ?h ?e); (case h => walk_at "ch"); (case e => rfl))
  | ((with_reducible refine tr_eql ?u ?h ?e); (case h => walk_at "ch"); (case e => rfl))
  | ((with_reducible refine SqT.of ?_); first | walk_at "ch" | ((with_reducible refine tr_eq ?u ?h ?e); (case h => walk_at "ch"); (case e => rfl)))
  | ((with_reducible refine SqL.of ?_); first | walk_at "ch" | ((with_reducible refine tr_eq ?u ?h ?e); (case h => walk_at "ch"); (case e => rfl)))
  | ((with_reducible refine sq_l ?_); walk_at "tr")
  | ((with_reducible refine sq_t ?_); walk_at "tr"))
local macro_rules | `(tactic| walk_at "tr2") => `(tactic| fail)
local macro_rules | `(tactic| walk_at "sz") => `(tactic| (simp only [List.length_cons, List.length_nil, List.length_append, List.length_map]; decide))
local macro_rules | `(tactic| walk_at "g") => `(tactic| repeat (first
  | (with_reducible refine g_cons ?_)
  | (with_reducible refine g_nil ?_)
  | (with_reducible refine w_name ?_)))
local macro_rules | `(tactic| walk_at "w2") => `(tactic| first
  | with_reducible refine w_dnew ?_
  | with_reducible refine w_dget ?_
  | with_reducible refine w_dget2 ?_
  | with_reducible refine w_dput ?_
  | ((with_reducible refine w_isd ?kvs ?h ?q); (case h => walk_at "rd"))
  | ((with_reducible refine w_dtal ?ks ?f ?t ?h ?q); (case t => assumption); (case h => walk_at "tr"); (intro o eo; rw [eo]; clear eo))
  | ((with_reducible refine w_listD ?kvs ?h ?q); (case h => walk_at "rd"))
  | ((with_reducible refine w_lenD ?kvs ?h ?q); (case h => walk_at "tr"))
  | ((with_reducible refine w_sortD ?ks ?f ?h ?q); (case h => walk_at "tr")))
local macro_rules | `(tactic| walk_at "tr2") => `(tactic| first
  | ((with_reducible refine tr_pv ?H ?e ?h); (case e => with_reducible assumption); (case h => walk_at "ch"))
  | ((with_reducible refine tr_pt ?H ?e ?h); (case e => with_reducible assumption); (case h => walk_at "ch"))
  | ((with_reducible refine tr_pll ?H ?e ?h); (case e => with_reducible assumption); (case h => walk_at "ch")))
def sp_lnormal : Sp := fun vs H Q _ => ∃ a R, vs = [.ref a] ∧ H a = some (.dK (dk R)) ∧ IsP (cf R) R ∧ R.length < 16777216 ∧ Wb 8900 R ∧ ∀ d H2, H d = none → Same H H2 → H2 d = some (.dK (dk (nrmP R))) → Q (.ref d) H2
theorem sc__law_normal : FnScope ["p", "shifts", "part", "shift", "told"] ["p"] (defScope (top 48)) := ⟨rfl, rfl, rfl, by decide +kernel, rfl, by decide +kernel, by decide +kernel⟩
theorem d__law_normal {P : Program} {w : World} {K : PySem.W.Frag} {mg : Str → Option Value} {base : Heap} (T : Tx K mg) : Def P w K mg base "_law_normal" 2 ["p"] sp_lnormal := by
  refine Def.of T.at__law_normal sc__law_normal (fun _ _ _ _ _ _ us hl => match us, hl with | [_], _ => rfl) (fun vs H Q E h => by (obtain ⟨_, _, rfl, _⟩ := h; rfl)) (fun f cdv A outer s H vs Q E hr h => ?_)
  refine ⟨_, PSs.nox (pss_cons (ps_if (pt_cmpR (op_eqA hr.units) (pe_callB call_lenDA (by rfl) T.n_len (by decide +kernel) (pa_cons (pv 0) pa_nil)) pe_int (nomark _)) (pss_one (ps_ret pe_dnewA)) pss_nil)
      (pss_cons (ps_set (i := 1) sc__law_normal.nd rfl (Or.inl rfl) (pe_callB cr_sortA (by rfl) T.n_sorted (by decide +kernel) (pa_cons (pe_callTy (call_listDA (by rfl)) (by rfl) T.n_list (by decide +kernel) (pa_cons (pv 0) pa_nil)) pa_nil)))
      (pss_cons (ps_set (i := 2) sc__law_normal.nd rfl (Or.inl rfl) pe_int)
      (pss_cons (ps_for PassesOwn.never rfl (pi_seq (pv 1)) (pg_name (i := 3) sc__law_normal.nd rfl (Or.inl rfl)) (pss_one (ps_set (i := 2) sc__law_normal.nd rfl (Or.inl rfl) (pe_def (d__law_gcd T) (hr.mono (by decide)) (by rfl) (pa_cons (pv 2) (pa_cons (pe_dget (hu_of hr) (pv 0) (pv 3) (fun _ _ => rfl)) pa_nil))))))
      (pss_cut (ps_if (pt_cmpR op_lt (pe_dget (hu_of hr) (pv 0) (pe_ix ix_seq (pv 1) (pe_un un_neg pe_int) (fun _ _ => rfl)) (fun _ _ => rfl)) pe_int (nomark _)) (pss_one (ps_set (i := 2) sc__law_normal.nd rfl (Or.inl rfl) (pe_un un_neg (pv 2)))) pss_nil)
      (pss_cons (ps_set (i := 4) sc__law_normal.nd rfl (Or.inl rfl) pe_dnewA)
      (pss_cons (ps_for PassesOwn.never rfl (pi_seq (pv 1)) (pg_name (i := 3) sc__law_normal.nd rfl (Or.inl rfl)) (pss_one (ps_dput (hu_of hr) (pv 4) (pe_op op_sub (pv 3) (pe_ix ix_seq (pv 1) pe_int (fun _ _ => rfl))) (pe_op op_fdivG (pe_dget (hu_of hr) (pv 0) (pv 3) (fun _ _ => rfl)) (pv 2)) (by rfl))))
      (pss_one (ps_ret (pv 4)))))))))), ?_⟩
  obtain ⟨a, R, rfl, ha, hR, hz, hw, q⟩ := h
  walk_at "w0"
  walk_at "w"
  rw [length_dk]
  by_cases hn : R = []
  · subst hn
    refine iteT ?_
    walk_at "w"
    exact fun d H2 n2 s2 e2 => q d H2 n2 s2 e2
  have hl0 : R.length ≠ 0 := fun z => hn (List.eq_nil_of_length_eq_zero z)
  refine iteD (fun h => absurd h (by omega)) fun _ => ?_
  walk_at "w"
  intro l H1 n1 s1 e1
  rw [dk_kV] at e1
  walk_at "w"
  refine w_sort _ e1 fun ns m H2 hperm hsort n2 s2 e2 => ?_
  have hns := asc_sorted hR.asc hperm hsort
  subst hns
  have hm : Sq K H2 m ((R.map (·.1)).map V.int) := .inl (SqL.of e2)
  have ha2 : H2 a = some (.dK (dk R)) := s2 _ _ (s1 _ _ ha)
  walk_at "w"
  refine for_seq H2 hm (fun i σ' H' => H2 = H' ∧ ∃ (z : Nat) (v3 : Option V), σ' = [some (.ref a), some (.ref m), some (.int z), v3, none] ∧ ggcd (R.drop i) z = ggcd R 0)
    ⟨rfl, 0, none, rfl, rfl⟩ (fun i σ' H' _ ⟨e, _⟩ => e ▸ Same.refl _) ?_ ?_
  · rintro i x σ' H' hi ⟨rfl, z, v3, rfl, hg⟩
    obtain ⟨s, hs, rfl⟩ := map_at hi
    obtain ⟨t, ht, rfl⟩ : ∃ t, R[i]? = some t ∧ t.1 = s := by
      rw [List.getElem?_map] at hs
      cases e : R[i]? with
      | none => rw [e] at hs; cases hs
      | some t => rw [e] at hs; exact ⟨t, rfl, Option.some.inj hs⟩
    have tR := List.mem_of_getElem? ht
    walk_at "g"
    walk_at "w"
    refine w_dat _ (.of ha2) (valV_dk hR.asc tR) ?_
    walk_at "w"
    refine ⟨_, _, rfl, Sm.mono (show Sm 8900 t.2 from Wb.mem hw tR) (by decide), ?_⟩
    walk_at "w"
    refine ⟨rfl, _, _, rfl, ?_⟩
    rw [← hg, ggcd_drop R i t ht]
    rfl
  · rintro σ' H' ⟨rfl, z, v3, rfl, hg⟩
    rw [List.length_map, List.length_map, List.drop_length] at hg
    have hg : z = ggcd R 0 := hg
    walk_at "w"
    refine w_cut (fun σ' H' => H2 = H' ∧ ∃ v3, σ' = [some (.ref a), some (.ref m), some (.int (npart R)), v3, none]) ?_ ?_
    · walk_at "w"
      have hlast : ((R.map (·.1)).map V.int)[((R.map (·.1)).map V.int).length - 1]? = some (.int (R.getLastD (0, 0)).1) := by
        rw [List.length_map, List.length_map, List.getElem?_map, List.getElem?_map, last_at hn]
        rfl
      refine w_ix hm (atI_last' hlast) ?_
      walk_at "w"
      refine w_dat _ (.of ha2) (valV_dk hR.asc (getLastD_mem hn)) ?_
      walk_at "w"
      refine iteD (fun h => ?_) (fun h => ?_)
      · walk_at "w"
        refine ⟨rfl, v3, ?_⟩
        unfold npart
        rw [if_pos h, ← hg]
        rfl
      · walk_at "w"
        refine ⟨rfl, v3, ?_⟩
        unfold npart
        rw [if_neg h, ← hg]
    · rintro σ' H' ⟨rfl, v3, rfl⟩
      walk_at "w"
      intro d H3 n3 s3 e3
      have hm3 := Same.sq s3 hm
      walk_at "w"
      have nda : d ≠ a := fun z => by rw [z, ha2] at n3; cases n3
      refine for_seq H2 hm (fun i σ' H' => Same H2 H' ∧ ∃ v3, σ' = [some (.ref a), some (.ref m), some (.int (npart R)), v3, some (.ref d)] ∧ H' d = some (.dK (dk ((nrmP R).take i))))
        ⟨s3, v3, rfl, e3⟩ (fun i σ' H' _ ⟨e, _⟩ => e) ?_ ?_
      · rintro i x σ' H4 hi ⟨sm, v3, rfl, ed⟩
        obtain ⟨s, hs, rfl⟩ := map_at hi
        obtain ⟨t, ht, rfl⟩ : ∃ t, R[i]? = some t ∧ t.1 = s := by
          rw [List.getElem?_map] at hs
          cases e : R[i]? with
          | none => rw [e] at hs; cases hs
          | some t => rw [e] at hs; exact ⟨t, rfl, Option.some.inj hs⟩
        have tR := List.mem_of_getElem? ht
        have hd : CDivG t.2 (npart R) := Sm.divOk (npart_ne tR (hR.nz _ tR)) (Nat.lt_of_le_of_lt (npart_le tR (hR.nz _ tR)) (Wb.mem hw tR)) (by decide)
        have ha4 : H4 a = some (.dK (dk R)) := sm _ _ ha2
        have hm4 := Same.sq sm hm
        walk_at "g"
        walk_at "w"
        refine w_dat _ (.of ha4) (valV_dk hR.asc tR) ?_
        walk_at "w"
        refine w_ix hm4 (i := 0) (v := .int (R.headD (0, 0)).1) (atI_nat (j := 0) (by rw [List.getElem?_map, List.getElem?_map, head_at hn]; rfl)) ?_
        walk_at "w"
        refine w_dset ed (size_of (by rw [length_dk, List.length_take, length_nrmP]; omega)) fun H5 b5 e5 => ?_
        refine ⟨But.same b5 sm n3, _, rfl, ?_⟩
        have et : (nrmP R)[i]? = some (t.1 - (R.headD (0, 0)).1, t.2.fdiv (npart R)) := by
          unfold nrmP
          rw [List.getElem?_map, ht]
          rfl
        obtain ⟨hil, hie⟩ := List.getElem?_eq_some_iff.mp et
        rw [e5, List.take_add_one, et, put_dk (t.1 - (R.headD (0, 0)).1, t.2.fdiv (npart R)) (fun u hu => ?_)]
        · rfl
        · obtain ⟨j, hj, e⟩ := List.mem_iff_getElem.mp hu
          rw [List.length_take] at hj
          rw [List.getElem_take] at e
          have := List.pairwise_iff_getElem.mp (nrmP_isP hR).asc j i (by omega) hil (by omega)
          rw [e, hie] at this
          exact this
      · rintro σ' H4 ⟨sm, v3, rfl, ed⟩
        rw [List.length_map, List.length_map, ← length_nrmP R, List.take_length] at ed
        walk_at "w"
        exact q d H4 ((s1.trans s2).free n3) ((s1.trans s2).trans sm) ed
def sp_lispoly (K : PySem.W.Frag) : Sp := fun vs H Q _ => ∃ v R, vs = [v] ∧ PT K H v R ∧ Asc R ∧ (∀ p ∈ R, p.2 ≠ 0) ∧ R.length < 16777216 ∧ Q (.bl true) H
theorem sc__law_is_poly : FnScope ["value", "pair", "k"] ["value"] (defScope (top 49)) := ⟨rfl, rfl, rfl, by decide +kernel, rfl, by decide +kernel, by decide +kernel⟩
theorem d__law_is_poly {P : Program} {w : World} {K : PySem.W.Frag} {mg : Str → Option Value} {base : Heap} (T : Tx K mg) : Def P w K mg base "_law_is_poly" 2 ["value"] (sp_lispoly K) := by
  refine Def.of T.at__law_is_poly sc__law_is_poly (fun _ _ _ _ _ _ us hl => match us, hl with | [_], _ => rfl) (fun vs H Q E h => by (obtain ⟨_, _, rfl, _⟩ := h; rfl)) (fun f cdv A outer s H vs Q E hr h => ?_)
  refine ⟨_, PSs.nox (pss_cons (ps_if (pt_not (pt_val (pe_callB call_isA (by rfl) T.n_isinstance (by decide +kernel) (pa_cons (pv 0) (pa_cons (pe_bltn (v := .ty "tuple") (u := .type "tuple") (by rfl) T.n_tuple (by decide +kernel) rfl) pa_nil))))) (pss_one (ps_ret pe_bl)) pss_nil)
      (pss_cons (ps_for PassesOwn.never rfl (pi_seq (pv 0)) (pg_name (i := 1) sc__law_is_poly.nd rfl (Or.inl rfl)) (pss_cons (ps_if (PW.pt (pw_or (pt_not (pt_val (pe_callB call_isA (by rfl) T.n_isinstance (by decide +kernel) (pa_cons (pv 1) (pa_cons (pe_bltn (v := .ty "tuple") (u := .type "tuple") (by rfl) T.n_tuple (by decide +kernel) rfl) pa_nil))))) (pw_or1 (pt_cmpR (op_neA hr.units) (pe_callB call_lenA (by rfl) T.n_len (by decide +kernel) (pa_cons (pv 1) pa_nil)) pe_int (nomark _))))) (pss_one (ps_ret pe_bl)) pss_nil)
      (pss_one (ps_if (PW.pt (pw_or (pt_not (pt_val (pe_def (d__law_whole T) (hr.mono (by decide)) (by rfl) (pa_cons (pe_ix ix_seq (pv 1) pe_int (fun _ _ => rfl)) pa_nil)))) (pw_or (pt_not (pt_val (pe_def (d__law_whole T) (hr.mono (by decide)) (by rfl) (pa_cons (pe_ix ix_seq (pv 1) pe_int (fun _ _ => rfl)) pa_nil)))) (pw_or1 (pt_cmpR (op_eqA hr.units) (pe_ix ix_seq (pv 1) pe_int (fun _ _ => rfl)) pe_int (nomark _)))))) (pss_one (ps_ret pe_bl)) pss_nil))))
      (pss_cons (ps_for PassesOwn.never rfl (pi_range2 (by rfl) T.n_range (pa_cons pe_int (pa_cons (pe_callB call_lenA (by rfl) T.n_len (by decide +kernel) (pa_cons (pv 0) pa_nil)) pa_nil))) (pg_name (i := 2) sc__law_is_poly.nd rfl (Or.inl rfl)) (pss_one (ps_if (pt_cmpR op_ge (pe_ix ix_seq (pe_ix ix_seq (pv 0) (pe_op op_sub (pv 2) pe_int) (fun _ _ => rfl)) pe_int (fun _ _ => rfl)) (pe_ix ix_seq (pe_ix ix_seq (pv 0) (pv 2) (fun _ _ => rfl)) pe_int (fun _ _ => rfl)) (nomark _)) (pss_one (ps_ret pe_bl)) pss_nil)))
      (pss_one (ps_ret pe_bl))))), ?_⟩
  obtain ⟨v, R, rfl, ⟨a, vs, rfl, ht, hp⟩, hR, hnz, hz, q⟩ := h
  have hl := paired_len hp
  walk_at "w0"
  walk_at "w"
  refine w_isi (tyx_t ht) (b := true) (by decide +kernel) ?_
  walk_at "w"
  refine iteF ?_
  walk_at "w"
  refine for_seq H (.inr ht) (fun i σ' H' => H = H' ∧ ∃ v1, σ' = [some (.ref a), v1, none]) ⟨rfl, none, rfl⟩ (fun i σ' H' _ ⟨e, _⟩ => e ▸ Same.refl _) ?_ ?_
  · rintro i x σ' H' hi ⟨rfl, v1, rfl⟩
    obtain ⟨p, hpi, b, rfl, hb⟩ := paired_at hp hi
    have hb2 : Sq K H b [.int p.1, .int p.2] := .inr hb
    walk_at "g"
    walk_at "w"
    refine w_isi (tyx_t hb) (b := true) (by decide +kernel) ?_
    walk_at "w"
    refine iteF ?_
    walk_at "w"
    refine iteF ?_
    walk_at "w"
    refine w_ix hb2 (i := 0) rfl ?_
    walk_at "w"
    refine ⟨_, rfl, ?_⟩
    walk_at "w"
    refine iteF ?_
    walk_at "w"
    refine w_ix hb2 (i := 1) rfl ?_
    walk_at "w"
    refine ⟨_, rfl, ?_⟩
    walk_at "w"
    refine iteF ?_
    walk_at "w"
    refine w_ix hb2 (i := 1) rfl ?_
    walk_at "w"
    refine iteD (fun h => absurd h (hnz p (List.mem_of_getElem? hpi))) fun _ => ?_
    walk_at "w"
    exact ⟨rfl, _, rfl⟩
  · rintro σ' H' ⟨rfl, v1, rfl⟩
    have ht2 : Sq K H a vs := .inr ht
    walk_at "w"
    refine for_rng2 (n := vs.length - 1) (by omega) (by omega) (by omega) (by omega) (by omega) (fun i σ' H' => H = H' ∧ ∃ v1 v2, σ' = [some (.ref a), v1, v2]) ⟨rfl, _, _, rfl⟩ ?_ ?_
    · rintro i σ' H' hi ⟨rfl, v1, v2, rfl⟩
      have h1 : i < R.length := by omega
      have h2 : i + 1 < R.length := by omega
      obtain ⟨x, hx, b, rfl, hb⟩ := paired_bt hp (List.getElem?_eq_getElem h1)
      obtain ⟨y, hy, c, rfl, hc⟩ := paired_bt hp (List.getElem?_eq_getElem h2)
      have lt := List.pairwise_iff_getElem.mp hR i (i + 1) h1 h2 (by omega)
      walk_at "g"
      walk_at "w"
      refine w_ix ht2 (v := .ref b) (by rw [show (1 + (i : Int) - 1) = (i : Int) by omega]; exact atI_nat hx) ?_
      walk_at "w"
      refine w_ix (.inr hb) (i := 0) rfl ?_
      walk_at "w"
      refine w_ix ht2 (v := .ref c) (by rw [show (1 + (i : Int)) = ((i + 1 : Nat) : Int) by omega]; exact atI_nat hy) ?_
      walk_at "w"
      refine w_ix (.inr hc) (i := 0) rfl ?_
      walk_at "w"
      refine iteD (fun h => absurd h (by omega)) fun _ => ?_
      walk_at "w"
      exact ⟨rfl, _, _, rfl⟩
    · rintro σ' H' ⟨rfl, v1, v2, rfl⟩
      walk_at "w"
      exact q
def sp_lis (K : PySem.W.Frag) : Sp := fun vs H Q _ => ∃ v d R, vs = [v, .ref d] ∧ PT K H v R ∧ H d = some (.dK (dk R)) ∧ Asc R ∧ (∀ p ∈ R, p.2 ≠ 0) ∧ R.length < 16777216 ∧ ∀ H2, Same H H2 → Q (.bl true) H2
theorem sc__law_is : FnScope ["told", "due"] ["told", "due"] (defScope (top 56)) := ⟨rfl, rfl, rfl, by decide +kernel, rfl, by decide +kernel, by decide +kernel⟩
theorem d__law_is {P : Program} {w : World} {K : PySem.W.Frag} {mg : Str → Option Value} {base : Heap} (T : Tx K mg) : Def P w K mg base "_law_is" 3 ["told", "due"] (sp_lis K) := by
  refine Def.of T.at__law_is sc__law_is (fun _ _ _ _ _ _ us hl => match us, hl with | [_, _], _ => rfl) (fun vs H Q E h => by (obtain ⟨_, _, _, rfl, _⟩ := h; rfl)) (fun f cdv A outer s H vs Q E hr h => ?_)
  refine ⟨_, PSs.nox (pss_one (ps_ret (pe_and (pe_def (d__law_is_poly T) (hr.mono (by decide)) (by rfl) (pa_cons (pv 0) pa_nil)) (pe_one (pe_cmpR (op_eqA hr.units) (pv 0) (pe_def (d__law_pairs T) (hr.mono (by decide)) (by rfl) (pa_cons (pv 1) pa_nil)) (nomark _)))))), ?_⟩
  obtain ⟨v, d, R, rfl, hv, hd, hR, hnz, hz, q⟩ := h
  walk_at "w0"
  walk_at "w"
  refine ⟨v, R, rfl, hv, hR, hnz, hz, ?_⟩
  walk_at "w"
  refine iteT ?_
  walk_at "w"
  refine ⟨d, R, rfl, hd, hR, hz, fun v2 H2 s2 hv2 => ?_⟩
  refine w_eqD (PT.dp (Same.pt s2 hv)) (PT.dp hv2) (PD.shaped (pd_pt R)).1 (PD.shaped (pd_pt R)).1 ?_
  rw [SeqAt.eqv_refl _ (PD.shaped (pd_pt R)).2]
  exact q H2 s2
end JP
set_option Elab.async false
set_option linter.all false
set_option maxRecDepth 100000
set_option maxHeartbeats 4000000
namespace JP
open PySem PySem.Spec PyProof.Rows L2 L2H
local macro_rules | `(tactic| walk_at "w1") => `(tactic| first
  | with_reducible refine w_seq ?_
  | with_reducible refine w_asg ?_
  | with_reducible refine w_name ?_
  | with_reducible refine w_op ?_
  | ((with_reducible refine w_var ?v ?h ?q); (case h => exact rfl))
  | with_reducible refine w_c ?_
  | with_reducible refine w_ret ?_
  | with_reducible refine w_if ?_
  | with_reducible refine w_drop ?_
  | with_reducible refine w_next ?_
  | with_reducible refine w_un ?_
  | with_reducible refine w_p18 ?_
  | with_reducible refine w_p30 ?_
  | with_reducible refine w_p6 ?_
  | with_reducible refine w_p9 ?_
  | with_reducible refine w_p12 ?_
  | with_reducible refine w_p15 ?_
  | with_reducible refine w_p24 ?_
  | with_reducible refine w_slice ?_
  | with_reducible refine w_part ?_
  | with_reducible refine w_nopart ?_
  | with_reducible refine w_ei ?_
  | with_reducible refine w_for ?_
  | with_reducible refine w_rng1 ?_
  | with_reducible refine w_rng2 ?_
  | with_reducible refine w_iseq ?_
  | ((with_reducible refine w_I ?c ?q); (case c => walk_at "side"))
  | ((with_reducible refine w_len ?xs ?h ?q); (case h => walk_at "tr"))
  | with_reducible refine w_cb ?_
  | with_reducible refine w_cons ?_
  | with_reducible refine w_nil ?_
  | with_reducible refine w_test ?_
  | with_reducible refine w_B ?_
  | with_reducible refine w_bl ?_
  | with_reducible refine w_and ?_
  | with_reducible refine w_or ?_
  | with_reducible refine w_not ?_
  | with_reducible refine w_andV ?_
  | with_reducible refine w_orV ?_
  | with_reducible refine w_notV ?_
  | with_reducible refine w_ifE ?_
  | with_reducible refine w_call ?_
  | with_reducible refine w_bm ?_
  | ((with_reducible refine w_tyl ?xs ?h ?q); (case h => assumption))
  | with_reducible refine w_bm0 ?_
  | with_reducible refine w_bits ?_
  | with_reducible refine w_tup ?_
  | with_reducible refine w_lst ?_
  | with_reducible refine w_I0 ?_
  | with_reducible refine w_U ?_
  | with_reducible refine w_add ?_
  | with_reducible refine w_eqI ?_
  | with_reducible refine w_neI ?_
  | with_reducible refine w_eqS ?_
  | with_reducible refine w_neS ?_
  | with_reducible refine w_int ?_
  | with_reducible refine w_abs ?_
  | with_reducible refine w_gcd ?_
  | walk_at "w2")
local macro_rules | `(tactic| walk_at "w2") => `(tactic| fail)
local macro_rules | `(tactic| walk_at "rd") => `(tactic| first | with_reducible assumption | ((with_reducible refine Rd.of ?_); walk_at "tr"))
local macro_rules | `(tactic| walk_at "w") => `(tactic| repeat (walk_at "w1"))
local macro_rules | `(tactic| walk_at "w0") => `(tactic| simp only [cxOf_K, L2.start, List.map_cons, List.map_nil, List.length_cons, List.length_nil, Nat.reduceAdd, Nat.reduceSub, List.replicate_succ, List.replicate_zero, List.cons_append, List.nil_append])
local macro_rules | `(tactic| walk_at "side") => `(tactic| first | assumption | (exact small_div (by omega) (by omega)) | (exact small_mul (by omega) (by omega)) | (exact med_mul (by omega) (by omega)) | (exact big_mul (by omega) (by omega)) | (exact ⟨by decide, by decide, by decide⟩) | (show (0 : Int) < _; omega))
local macro_rules | `(tactic| walk_at "ch") => `(tactic| first
  | with_reducible assumption
  | with_reducible exact Same.refl _
  | ((with_reducible refine tr_at ?H ?e ?h); (case e => with_reducible assumption); (case h => walk_at "ch"))
  | ((with_reducible refine tr_st ?H ?e ?h); (case e => with_reducible assumption); (case h => walk_at "ch"))
  | ((with_reducible refine tr_sl ?H ?e ?h); (case e => with_reducible assumption); (case h => walk_at "ch"))
  | ((with_reducible refine tr_same ?H ?e ?h); (case e => with_reducible assumption); (case h => walk_at "ch"))
  | ((with_reducible refine tr_sq ?H ?e ?h); (case e => with_reducible assumption); (case h => walk_at "ch"))
  | ((with_reducible refine tr_dp ?H ?e ?h); (case e => with_reducible assumption); (case h => walk_at "ch"))
  | walk_at "tr2")
local macro_rules | `(tactic| walk_at "tr") => `(tactic| first
  | walk_at "ch"
  | ((with_reducible refine tr_eq ?u ?h ?e); (case h => walk_at "ch"); (case e => rfl))
  | ((with_reducible refine tr_eqt ?u ?h ?e); (case h => walk_at "ch"); (case e => rfl))
  | ((with_reducible refine tr_eql ?u ?h ?e); (case h => walk_at "ch"); (case e => rfl))
  | ((with_reducible refine SqT.of ?_); first | walk_at "ch" | ((with_reducible refine tr_eq ?u ?h ?e); (case h => walk_at "ch"); (case e => rfl)))
  | ((with_reducible refine SqL.of ?_); first | walk_at "ch" | ((with_reducible refine tr_eq ?u ?h ?e); (case h => walk_at "ch"); (case e => rfl)))
  | ((with_reducible refine sq_l ?_); walk_at "tr")
  | ((with_reducible refine sq_t ?_); walk_at "tr"))
local macro_rules | `(tactic| walk_at "tr2") => `(tactic| fail)
local macro_rules | `(tactic| walk_at "sz") => `(tactic| (simp only [List.length_cons, List.length_nil, List.length_append, List.length_map]; decide))
local macro_rules | `(tactic| walk_at "g") => `(tactic| repeat (first
  | (with_reducible refine g_cons ?_)
  | (with_reducible refine g_nil ?_)
  | (with_reducible refine w_name ?_)))
local macro_rules | `(tactic| walk_at "w2") => `(tactic| first
  | with_reducible refine w_dnew ?_
  | with_reducible refine w_dget ?_
  | with_reducible refine w_dget2 ?_
  | with_reducible refine w_dput ?_
  | ((with_reducible refine w_isd ?kvs ?h ?q); (case h => walk_at "rd"))
  | ((with_reducible refine w_dtal ?ks ?f ?t ?h ?q); (case t => assumption); (case h => walk_at "tr"); (intro o eo; rw [eo]; clear eo))
  | ((with_reducible refine w_listD ?kvs ?h ?q); (case h => walk_at "rd"))
  | ((with_reducible refine w_lenD ?kvs ?h ?q); (case h => walk_at "tr"))
  | ((with_reducible refine w_sortD ?ks ?f ?h ?q); (case h => walk_at "tr")))
local macro_rules | `(tactic| walk_at "tr2") => `(tactic| first
  | ((with_reducible refine tr_pv ?H ?e ?h); (case e => with_reducible assumption); (case h => walk_at "ch"))
  | ((with_reducible refine tr_pt ?H ?e ?h); (case e => with_reducible assumption); (case h => walk_at "ch"))
  | ((with_reducible refine tr_pll ?H ?e ?h); (case e => with_reducible assumption); (case h => walk_at "ch")))
def sp_another (a : Addr) : Sp := fun vs H Q _ => vs = [.ref a] ∧ ∀ H2, Same H H2 → Q (.bl false) H2
theorem sc__law_another : FnScope ["e"] ["e"] (defScope (top 54)) := ⟨rfl, rfl, rfl, by decide +kernel, rfl, by decide +kernel, by decide +kernel⟩
theorem d__law_another {P : Program} {w : World} {K : PySem.W.Frag} {mg : Str → Option Value} {base : Heap} (T : Tx K mg) : DefZ P w K mg base "_law_another" 1 ["e"] (He.ga K "ZeroPolynomial") sp_another := by
  refine DefZ.of T.at__law_another sc__law_another (fun _ _ _ _ _ _ us hl => match us, hl with | [_], _ => rfl) (fun a vs H Q E h => by (obtain ⟨rfl, _⟩ := h; rfl)) (fun f cdv A outer s H vs Q E p hot hz hr h => ?_)
  obtain ⟨hh, vs0, hv0, _⟩ := id hot
  refine ⟨_, (pss_one (ps_ret (pe_callB (call_isET T.xc_ZeroPolynomial (oe := p.2) (List.mem_singleton.mpr rfl) hz ⟨vs0, hv0⟩) (by rfl) T.n_isinstance (by decide +kernel) (pa_cons (pv 0) (pa_cons (pe_tupA (pa_cons (pe_glob (v := .ref (He.ga K "BadName")) (by rfl) T.g_BadName rfl) (pa_cons (pe_glob (v := .ref (He.ga K "BadNotation")) (by rfl) T.g_BadNotation rfl) (pa_cons (pe_glob (v := .ref (He.ga K "BadParts")) (by rfl) T.g_BadParts rfl) (pa_cons (pe_glob (v := .ref (He.ga K "BadStretch")) (by rfl) T.g_BadStretch rfl) (pa_cons (pe_glob (v := .ref (He.ga K "Barred")) (by rfl) T.g_Barred rfl) (pa_cons (pe_glob (v := .ref (He.ga K "BreaksOwnRule")) (by rfl) T.g_BreaksOwnRule rfl) (pa_cons (pe_glob (v := .ref (He.ga K "Broken")) (by rfl) T.g_Broken rfl) (pa_cons (pe_glob (v := .ref (He.ga K "CannotStand")) (by rfl) T.g_CannotStand rfl) (pa_cons (pe_glob (v := .ref (He.ga K "Contradiction")) (by rfl) T.g_Contradiction rfl) (pa_cons (pe_glob (v := .ref (He.ga K "NoFamilies")) (by rfl) T.g_NoFamilies rfl) (pa_cons (pe_glob (v := .ref (He.ga K "NoQuotient")) (by rfl) T.g_NoQuotient rfl) (pa_cons (pe_glob (v := .ref (He.ga K "NoRows")) (by rfl) T.g_NoRows rfl) (pa_cons (pe_glob (v := .ref (He.ga K "NotBlocked")) (by rfl) T.g_NotBlocked rfl) (pa_cons (pe_glob (v := .ref (He.ga K "NotCourse")) (by rfl) T.g_NotCourse rfl) (pa_cons (pe_glob (v := .ref (He.ga K "NotEntered")) (by rfl) T.g_NotEntered rfl) (pa_cons (pe_glob (v := .ref (He.ga K "NotFinite")) (by rfl) T.g_NotFinite rfl) (pa_cons (pe_glob (v := .ref (He.ga K "NotFree")) (by rfl) T.g_NotFree rfl) (pa_cons (pe_glob (v := .ref (He.ga K "NotLet")) (by rfl) T.g_NotLet rfl) (pa_cons (pe_glob (v := .ref (He.ga K "NotStricter")) (by rfl) T.g_NotStricter rfl) (pa_cons (pe_glob (v := .ref (He.ga K "NotTimely")) (by rfl) T.g_NotTimely rfl) (pa_cons (pe_glob (v := .ref (He.ga K "NothingToUndo")) (by rfl) T.g_NothingToUndo rfl) (pa_cons (pe_glob (v := .ref (He.ga K "RowTwice")) (by rfl) T.g_RowTwice rfl) (pa_cons (pe_glob (v := .ref (He.ga K "RowsDiffer")) (by rfl) T.g_RowsDiffer rfl) (pa_cons (pe_glob (v := .ref (He.ga K "ShortStretch")) (by rfl) T.g_ShortStretch rfl) (pa_cons (pe_glob (v := .ref (He.ga K "SpotTwice")) (by rfl) T.g_SpotTwice rfl) (pa_cons (pe_glob (v := .ref (He.ga K "TooLong")) (by rfl) T.g_TooLong rfl) (pa_cons (pe_glob (v := .ref (He.ga K "UnknownRow")) (by rfl) T.g_UnknownRow rfl) (pa_cons (pe_glob (v := .ref (He.ga K "Unsure")) (by rfl) T.g_Unsure rfl) (pa_cons (pe_glob (v := .ref (He.ga K "ZeroSum")) (by rfl) T.g_ZeroSum rfl) pa_nil)))))))))))))))))))))))))))))) pa_nil))))), ?_⟩
  obtain ⟨rfl, q⟩ := h
  walk_at "w0"
  walk_at "w"
  refine ⟨by walk_at "sz", fun tp H2 n2 s2 e2 => ?_⟩
  refine ⟨tp, _, _, false, rfl, e2, ?_, T.ka_ZeroPolynomial, q H2 s2⟩
  repeat' first | exact .nil | refine .cons (.own _) ?_
/-- the reading of the first suite: two classes that it has, those that it has not; seen is slot n, e slot m -/
def t_suite1 (K : PySem.W.Frag) (D B : Addr) (spZ : Addr → Sp) (n m : Nat) (a : Addr) (cls : Value) (d : Option Addr) : TS :=
  tIfS (tAnd (tB (tCB (rIsX K cls d a) (tCons (tVar m) (tCons (tC (.ref B)) tNil)))) (tAnd (tB (tCB (rIsX K cls d a) (tCons (tVar m) (tCons (tC (.ty "ValueError")) tNil)))) (tNot (tB (tCallZ D cls d (spZ a) (tCons (tVar m) tNil))))))
    (tAsg (tOp (rAddA K) (tVar n) (tC (.int 1))) (gName n)) tNext
def t_suite2 (K : PySem.W.Frag) (D : Addr) (n m : Nat) (a : Addr) (cls : Value) (d : Option Addr) : TS :=
  tIfS (tB (tCB (rIsX K cls d a) (tCons (tVar m) (tCons (tC (.ref D)) tNil)))) (tAsg (tOp (rAddA K) (tVar n) (tC (.int 1))) (gName n)) tNext
def sp_spanless (K : PySem.W.Frag) : Sp := fun vs H Q _ => ∃ v ps, vs = [v] ∧ PV K H v ps ∧ ps.length < 16777216 ∧ IsP (cf ps) [] ∧ ∀ H2, Same H H2 → Q (.bl true) H2
theorem sc__law_spanless : FnScope ["one", "seen", "e"] ["one"] (defScope (top 55)) := ⟨rfl, rfl, rfl, by decide +kernel, rfl, by decide +kernel, by decide +kernel⟩
theorem d__law_spanless {P : Program} {w : World} {K : PySem.W.Frag} {mg : Str → Option Value} {base : Heap} (T : Tx K mg) : Def P w K mg base "_law_spanless" 3 ["one"] (sp_spanless K) := by
  refine Def.of T.at__law_spanless sc__law_spanless (fun _ _ _ _ _ _ us hl => match us, hl with | [_], _ => rfl) (fun vs H Q E h => by (obtain ⟨_, _, rfl, _⟩ := h; rfl)) (fun f cdv A outer s H vs Q E hr h => ?_)
  refine ⟨_, PSs.nox (pss_cons (ps_set (i := 1) sc__law_spanless.nd rfl (Or.inl rfl) pe_int)
      (pss_cons (L2N.ps_try_as (i := 2) (Wout := fun _ _ _ _ => False) (tb := fun W => tDrop (tCallS (sp_span K) (WE W) (tCons (tVar 0) tNil))) (ts := t_suite1 K (He.ga K "ZeroPolynomial") (He.ga K "RowError") sp_another 1 2) rfl rfl sc__law_spanless.nd rfl rfl ⟨by rfl, by decide, .inl T.g_ZeroPolynomial⟩ takesN0 (fun W pn xe tk _ => (by exact (pss_one (ps_expr (pe_defS (d_span T) (hr.mono (by decide)) (by rfl) tk (pa_cons (pv 0) pa_nil)))))) (fun a oe cls d pn hz hf => (by exact (pss_one (ps_if (PW.pt (pw_and (pt_val (pe_callB (call_isX List.mem_cons_self hz.zc hf) (by rfl) T.n_isinstance (by decide +kernel) (pa_cons (pv 2) (pa_cons (pe_glob (v := .ref (He.ga K "RowError")) (by rfl) T.g_RowError rfl) pa_nil)))) (pw_and (pt_val (pe_callB (call_isX List.mem_cons_self hz.zc hf) (by rfl) T.n_isinstance (by decide +kernel) (pa_cons (pv 2) (pa_cons (pe_bltn (v := .ty "ValueError") (u := .type "ValueError") (by rfl) T.n_ValueError (by decide +kernel) rfl) pa_nil)))) (pw_and1 (pt_not (pt_val (pe_defZ (d__law_another T) (room_suite (hr.mono (by decide))) List.mem_cons_self (hot_suite hz hf) hz.zc (by rfl) (pa_cons (pv 2) pa_nil)))))))) (pss_one (ps_set (i := 1) sc__law_spanless.nd rfl (Or.inl rfl) (pe_op op_addA (pv 1) pe_int))) pss_nil)))))
      (pss_cons (L2N.ps_try_as (i := 2) (Wout := fun _ _ _ _ => False) (tb := fun W => tDrop (tCallS (sp_span K) (WE W) (tCons (tVar 0) tNil))) (ts := t_suite2 K (He.ga K "ZeroPolynomial") 1 2) rfl rfl sc__law_spanless.nd rfl rfl ⟨by rfl, by decide, .inl T.g_RowError⟩ takesN0 (fun W pn xe tk _ => (by exact (pss_one (ps_expr (pe_defS (d_span T) (hr.mono (by decide)) (by rfl) tk (pa_cons (pv 0) pa_nil)))))) (fun a oe cls d pn hz hf => (by exact (pss_one (ps_if (pt_val (pe_callB (call_isX List.mem_cons_self hz.zc hf) (by rfl) T.n_isinstance (by decide +kernel) (pa_cons (pv 2) (pa_cons (pe_glob (v := .ref (He.ga K "ZeroPolynomial")) (by rfl) T.g_ZeroPolynomial rfl) pa_nil)))) (pss_one (ps_set (i := 1) sc__law_spanless.nd rfl (Or.inl rfl) (pe_op op_addA (pv 1) pe_int))) pss_nil)))))
      (pss_one (ps_ret (pe_cmpR (op_eqA hr.units) (pv 1) pe_int (nomark _))))))), ?_⟩
  obtain ⟨v, ps, rfl, hv, hz, h0, q⟩ := h
  walk_at "w0"
  walk_at "w"
  refine w_callS ?_
  walk_at "w"
  refine ⟨v, ps, rfl, hv, hz, fun H2 _ s2 => ?_, fun R H2 hR hn => absurd (hR.uniq h0) hn⟩
  refine ⟨true, T.em_ZeroPolynomial, fun _ a na => ?_, fun z => Bool.noConfusion z⟩
  unfold t_suite1
  walk_at "w"
  refine ⟨_, rfl, rfl, T.xc_ZeroPolynomial, .inl ⟨_, _, true, rfl, fun u h => h, T.koR_ZeroPolynomial, ?_⟩⟩
  walk_at "w"
  refine iteT ?_
  walk_at "w"
  refine ⟨_, rfl, rfl, T.xc_ZeroPolynomial, .inl ⟨_, _, true, rfl, fun u h => h, T.koV_ZeroPolynomial, ?_⟩⟩
  walk_at "w"
  refine iteT ?_
  walk_at "w"
  refine w_callZ ?_
  walk_at "w"
  refine ⟨rfl, rfl, rfl, fun H3 s3 => ?_⟩
  walk_at "w"
  refine iteT ?_
  walk_at "w"
  refine w_callS ?_
  walk_at "w"
  have s0 : Same H H3 := s2.trans s3
  refine ⟨v, ps, rfl, Same.pv s0 hv, hz, fun H4 _ s4 => ?_, fun R H2 hR hn => absurd (hR.uniq h0) hn⟩
  refine ⟨true, T.emR_ZeroPolynomial, fun _ a na => ?_, fun z => Bool.noConfusion z⟩
  unfold t_suite2
  walk_at "w"
  refine ⟨_, rfl, rfl, T.xc_ZeroPolynomial, .inl ⟨_, _, true, rfl, fun u h => h, T.ko_ZeroPolynomial, ?_⟩⟩
  walk_at "w"
  refine iteT ?_
  walk_at "w"
  exact q H4 (s0.trans s4)
def sp_alone (K : PySem.W.Frag) : Sp := fun vs H Q _ => ∃ v a ps R, vs = [v, .ref a] ∧ PV K H v ps ∧ ps.length < 16777216 ∧ Wb 8900 ps ∧ H a = some (.dK (dk R)) ∧ IsP (cf ps) R ∧ ∀ H2, Same H H2 → Q (.bl true) H2
theorem sc__law_alone : FnScope ["one", "mine", "told"] ["one", "mine"] (defScope (top 57)) := ⟨rfl, rfl, rfl, by decide +kernel, rfl, by decide +kernel, by decide +kernel⟩
theorem d__law_alone {P : Program} {w : World} {K : PySem.W.Frag} {mg : Str → Option Value} {base : Heap} (T : Tx K mg) : Def P w K mg base "_law_alone" 4 ["one", "mine"] (sp_alone K) := by
  refine Def.of T.at__law_alone sc__law_alone (fun _ _ _ _ _ _ us hl => match us, hl with | [_, _], _ => rfl) (fun vs H Q E h => by (obtain ⟨_, _, _, _, rfl, _⟩ := h; rfl)) (fun f cdv A outer s H vs Q E hr h => ?_)
  refine ⟨_, PSs.nox (pss_cons (ps_if (PW.pt (pw_or (pt_not (pt_val (pe_def (d__law_is T) (hr.mono (by decide)) (by rfl) (pa_cons (pe_def (d_polynomial T) (hr.mono (by decide)) (by rfl) (pa_cons (pv 0) pa_nil)) (pa_cons (pv 1) pa_nil))))) (pw_or1 (pt_not (pt_val (pe_def (d__law_is T) (hr.mono (by decide)) (by rfl) (pa_cons (pe_def (d_normal_polynomial T) (hr.mono (by decide)) (by rfl) (pa_cons (pv 0) pa_nil)) (pa_cons (pe_def (d__law_normal T) (hr.mono (by decide)) (by rfl) (pa_cons (pv 1) pa_nil)) pa_nil)))))))) (pss_one (ps_ret pe_bl)) pss_nil)
      (pss_cons (ps_if (pt_cmpR (op_eqA hr.units) (pe_callB call_lenDA (by rfl) T.n_len (by decide +kernel) (pa_cons (pv 1) pa_nil)) pe_int (nomark _)) (pss_one (ps_ret (pe_def (d__law_spanless T) (hr.mono (by decide)) (by rfl) (pa_cons (pv 0) pa_nil)))) pss_nil)
      (pss_cons (ps_set (i := 2) sc__law_alone.nd rfl (Or.inl rfl) (pe_def (d_span T) (hr.mono (by decide)) (by rfl) (pa_cons (pv 0) pa_nil)))
      (pss_one (ps_ret (pe_and (pe_def (d__law_whole T) (hr.mono (by decide)) (by rfl) (pa_cons (pv 2) pa_nil)) (pe_one (pe_cmpR (op_eqA hr.units) (pv 2) (pe_op op_sub (pe_callB (cr_maxA (by rfl)) (by rfl) T.n_max (by decide +kernel) (pa_cons (pe_callTy (call_listDA (by rfl)) (by rfl) T.n_list (by decide +kernel) (pa_cons (pv 1) pa_nil)) pa_nil)) (pe_callB (cr_minA (by rfl)) (by rfl) T.n_min (by decide +kernel) (pa_cons (pe_callTy (call_listDA (by rfl)) (by rfl) T.n_list (by decide +kernel) (pa_cons (pv 1) pa_nil)) pa_nil))) (nomark _))))))))), ?_⟩
  obtain ⟨v, a, ps, R, rfl, hv, hz, hw, ha, hR, q⟩ := h
  have hzR : R.length < 16777216 := Nat.lt_of_le_of_lt (IsP.length_le hR) hz
  have hwR : Wb 8900 R := hw.of hR
  have hN := nrmP_isP hR.self
  walk_at "w0"
  walk_at "w"
  refine ⟨v, ps, rfl, hv, hz, fun p H1 R1 hR1 s1 hP => ?_⟩
  have e := hR.uniq hR1
  subst e
  walk_at "w"
  refine ⟨_, a, _, rfl, hP, s1 _ _ ha, hR.asc, hR.nz, hzR, fun H2 s2 => ?_⟩
  walk_at "w"
  refine iteF ?_
  walk_at "w"
  refine ⟨v, ps, rfl, by walk_at "tr", hz, hw, fun p2 H3 R2 hR2 s3 hP2 => ?_⟩
  have e := hR.uniq hR2
  subst e
  walk_at "w"
  refine ⟨a, _, rfl, by walk_at "tr", hR.self, hzR, hwR, fun d H4 n4 s4 e4 => ?_⟩
  walk_at "w"
  refine ⟨_, d, _, rfl, by walk_at "tr", e4, hN.asc, hN.nz, by rw [length_nrmP]; exact hzR, fun H5 s5 => ?_⟩
  walk_at "w"
  refine iteF ?_
  have s15 : Same H H5 := (((s1.trans s2).trans s3).trans s4).trans s5
  have ha5 : H5 a = some (.dK (dk R)) := s15 _ _ ha
  have hv5 := Same.pv s15 hv
  walk_at "w"
  rw [length_dk]
  by_cases hn : R = []
  · subst hn
    refine iteT ?_
    walk_at "w"
    exact ⟨v, ps, rfl, hv5, hz, hR, fun H6 s6 => q H6 (s15.trans s6)⟩
  have hl0 : R.length ≠ 0 := fun z => hn (List.eq_nil_of_length_eq_zero z)
  refine iteD (fun h => absurd h (by omega)) fun _ => ?_
  walk_at "w"
  refine ⟨v, ps, rfl, hv5, hz, fun H6 h0 _ => absurd (hR.uniq h0) hn, fun R2 H6 hR2 _ s6 => ?_⟩
  have e := hR.uniq hR2
  subst e
  have ha6 := s6 _ _ ha5
  walk_at "w"
  refine ⟨_, rfl, ?_⟩
  walk_at "w"
  refine iteT ?_
  walk_at "w"
  intro l H7 n7 s7 e7
  rw [dk_kV] at e7
  walk_at "w"
  refine ⟨l, _, rfl, SqL.of e7, by rw [List.length_map]; omega, fun m hm hmax => ?_⟩
  have hm := asc_max hR.asc hm hmax
  subst hm
  have ha7 := s7 _ _ ha6
  walk_at "w"
  intro l2 H8 n8 s8 e8
  rw [dk_kV] at e8
  walk_at "w"
  refine ⟨l2, _, rfl, SqL.of e8, by rw [List.length_map]; omega, fun m hm hmin => ?_⟩
  have hm := asc_min hR.asc hm hmin
  subst hm
  walk_at "w"
  rw [decide_eq_true rfl]
  exact q H8 (((s15.trans s6).trans s7).trans s8)
def sp_lright (K : PySem.W.Frag) : Sp := fun vs H Q _ => ∃ v u a b ps qs R S, vs = [v, u, .ref a, .ref b] ∧ PV K H v ps ∧ PV K H u qs ∧ ps.length ≤ 200 ∧ qs.length ≤ 200 ∧ Wb 8900 ps ∧ Wb 8900 qs ∧ H a = some (.dK (dk R)) ∧ H b = some (.dK (dk S)) ∧ IsP (cf ps) R ∧ IsP (cf qs) S ∧ ∀ H2, Same H H2 → Q (.bl true) H2
theorem len_prod {a b : Nat} (h : a ≤ 200) (h' : b ≤ 200) : a * b < 16777216 := Nat.lt_of_le_of_lt (Nat.mul_le_mul h h') (by decide)
theorem sc__law_right : FnScope ["one", "two", "mine", "other"] ["one", "two", "mine", "other"] (defScope (top 58)) := ⟨rfl, rfl, rfl, by decide +kernel, rfl, by decide +kernel, by decide +kernel⟩
theorem d__law_right {P : Program} {w : World} {K : PySem.W.Frag} {mg : Str → Option Value} {base : Heap} (T : Tx K mg) : Def P w K mg base "_law_right" 4 ["one", "two", "mine", "other"] (sp_lright K) := by
  refine Def.of T.at__law_right sc__law_right (fun _ _ _ _ _ _ us hl => match us, hl with | [_, _, _, _], _ => rfl) (fun vs H Q E h => by (obtain ⟨_, _, _, _, _, _, _, _, rfl, _⟩ := h; rfl)) (fun f cdv A outer s H vs Q E hr h => ?_)
  refine ⟨_, PSs.nox (pss_cons (ps_if (pt_not (pt_val (pe_def (d__law_is T) (hr.mono (by decide)) (by rfl) (pa_cons (pe_def (d_poly_plus T) (hr.mono (by decide)) (by rfl) (pa_cons (pv 0) (pa_cons (pv 1) pa_nil))) (pa_cons (pe_def (d__law_add T) (hr.mono (by decide)) (by rfl) (pa_cons (pv 2) (pa_cons (pv 3) (pa_cons pe_int pa_nil)))) pa_nil))))) (pss_one (ps_ret pe_bl)) pss_nil)
      (pss_one (ps_ret (pe_def (d__law_is T) (hr.mono (by decide)) (by rfl) (pa_cons (pe_def (d_poly_times T) (hr.mono (by decide)) (by rfl) (pa_cons (pv 0) (pa_cons (pv 1) pa_nil))) (pa_cons (pe_def (d__law_mul T) (hr.mono (by decide)) (by rfl) (pa_cons (pv 2) (pa_cons (pv 3) pa_nil))) pa_nil)))))), ?_⟩
  obtain ⟨v, u, a, b, ps, qs, R, S, rfl, hv, hu, l1, l2, w1, w2, ha, hb, hR, hS, q⟩ := h
  have m1 := IsP.length_le hR
  have m2 := IsP.length_le hS
  have y1 := w1.of hR
  have y2 := w2.of hS
  walk_at "w0"
  walk_at "w"
  refine ⟨v, u, ps, qs, rfl, hv, hu, by omega, fun p H1 R1 hR1 s1 hP => ?_⟩
  have z1 := IsP.length_le hR1
  rw [List.length_append] at z1
  walk_at "w"
  refine ⟨a, b, 1, R, S, rfl, by walk_at "tr", by walk_at "tr", hS.asc, by omega, fun t m => one_mul_ok y2 (by decide) m, fun d H2 T hT n2 s2 e2 => ?_⟩
  have e := hR1.uniq' hT (cf_sum hR hS)
  subst e
  walk_at "w"
  refine ⟨_, d, _, rfl, by walk_at "tr", e2, hT.asc, hT.nz, by omega, fun H3 s3 => ?_⟩
  walk_at "w"
  refine iteF ?_
  walk_at "w"
  refine ⟨v, u, ps, qs, rfl, by walk_at "tr", by walk_at "tr", len_prod l1 l2, w1.mono (by decide), w2.mono (by decide), fun p H4 R2 hR2 s4 hP4 => ?_⟩
  have z2 := IsP.length_le hR2
  rw [length_prd] at z2
  have z3 := len_prod l1 l2
  walk_at "w"
  refine ⟨a, b, R, S, rfl, by walk_at "tr", by walk_at "tr", hR.asc, hS.asc, len_prod (by omega) (by omega), y1.mono (by decide), y2.mono (by decide), fun d H5 T hT2 n5 s5 e5 => ?_⟩
  have e := hR2.uniq' hT2 (cf_prod hR hS)
  subst e
  walk_at "w"
  exact ⟨_, d, _, rfl, by walk_at "tr", e5, hT2.asc, hT2.nz, by omega, fun H6 s6 => q H6 (((((s1.trans s2).trans s3).trans s4).trans s5).trans s6)⟩
end JP
set_option Elab.async false
set_option linter.all false
set_option maxRecDepth 100000
set_option maxHeartbeats 4000000
namespace JP
open PySem PySem.Spec PyProof.Rows L2 L2H
local macro_rules | `(tactic| walk_at "w1") => `(tactic| first
  | with_reducible refine w_seq ?_
  | with_reducible refine w_asg ?_
  | with_reducible refine w_name ?_
  | with_reducible refine w_op ?_
  | ((with_reducible refine w_var ?v ?h ?q); (case h => exact rfl))
  | with_reducible refine w_c ?_
  | with_reducible refine w_ret ?_
  | with_reducible refine w_if ?_
  | with_reducible refine w_drop ?_
  | with_reducible refine w_next ?_
  | with_reducible refine w_un ?_
  | with_reducible refine w_p18 ?_
  | with_reducible refine w_p30 ?_
  | with_reducible refine w_p6 ?_
  | with_reducible refine w_p9 ?_
  | with_reducible refine w_p12 ?_
  | with_reducible refine w_p15 ?_
  | with_reducible refine w_p24 ?_
  | with_reducible refine w_slice ?_
  | with_reducible refine w_part ?_
  | with_reducible refine w_nopart ?_
  | with_reducible refine w_ei ?_
  | with_reducible refine w_for ?_
  | with_reducible refine w_rng1 ?_
  | with_reducible refine w_rng2 ?_
  | with_reducible refine w_iseq ?_
  | ((with_reducible refine w_I ?c ?q); (case c => walk_at "side"))
  | ((with_reducible refine w_len ?xs ?h ?q); (case h => walk_at "tr"))
  | with_reducible refine w_cb ?_
  | with_reducible refine w_cons ?_
  | with_reducible refine w_nil ?_
  | with_reducible refine w_test ?_
  | with_reducible refine w_B ?_
  | with_reducible refine w_bl ?_
  | with_reducible refine w_and ?_
  | with_reducible refine w_or ?_
  | with_reducible refine w_not ?_
  | with_reducible refine w_andV ?_
  | with_reducible refine w_orV ?_
  | with_reducible refine w_notV ?_
  | with_reducible refine w_ifE ?_
  | with_reducible refine w_call ?_
  | with_reducible refine w_bm ?_
  | ((with_reducible refine w_tyl ?xs ?h ?q); (case h => assumption))
  | with_reducible refine w_bm0 ?_
  | with_reducible refine w_bits ?_
  | with_reducible refine w_tup ?_
  | with_reducible refine w_lst ?_
  | with_reducible refine w_I0 ?_
  | with_reducible refine w_U ?_
  | with_reducible refine w_add ?_
  | with_reducible refine w_eqI ?_
  | with_reducible refine w_neI ?_
  | with_reducible refine w_eqS ?_
  | with_reducible refine w_neS ?_
  | with_reducible refine w_int ?_
  | with_reducible refine w_abs ?_
  | with_reducible refine w_gcd ?_
  | walk_at "w2")
local macro_rules | `(tactic| walk_at "w2") => `(tactic| fail)
local macro_rules | `(tactic| walk_at "rd") => `(tactic| first | with_reducible assumption | ((with_reducible refine Rd.of ?_); walk_at "tr"))
local macro_rules | `(tactic| walk_at "w") => `(tactic| repeat (walk_at "w1"))
local macro_rules | `(tactic| walk_at "w0") => `(tactic| simp only [cxOf_K, L2.start, List.map_cons, List.map_nil, List.length_cons, List.length_nil, Nat.reduceAdd, Nat.reduceSub, List.replicate_succ, List.replicate_zero, List.cons_append, List.nil_append])
local macro_rules | `(tactic| walk_at "side") => `(tactic| first | assumption | (exact small_div (by omega) (by omega)) | (exact small_mul (by omega) (by omega)) | (exact med_mul (by omega) (by omega)) | (exact big_mul (by omega) (by omega)) | (exact ⟨by decide, by decide, by decide⟩) | (show (0 : Int) < _; omega))
local macro_rules | `(tactic| walk_at "ch") => `(tactic| first
  | with_reducible assumption
  | with_reducible exact Same.refl _
  | ((with_reducible refine tr_at ?H ?e ?h); (case e => with_reducible assumption); (case h => walk_at "ch"))
  | ((with_reducible refine tr_st ?H ?e ?h); (case e => with_reducible assumption); (case h => walk_at "ch"))
  | ((with_reducible refine tr_sl ?H ?e ?h); (case e => with_reducible assumption); (case h => walk_at "ch"))
  | ((with_reducible refine tr_same ?H ?e ?h); (case e => with_reducible assumption); (case h => walk_at "ch"))
  | ((with_reducible refine tr_sq ?H ?e ?h); (case e => with_reducible assumption); (case h => walk_at "ch"))
  | ((with_reducible refine tr_dp ?H ?e ?h); (case e => with_reducible assumption); (case h => walk_at "ch"))
  | walk_at "tr2")
local macro_rules | `(tactic| walk_at "tr") => `(tactic| first
  | walk_at "ch"
  | ((with_reducible refine tr_eq ?u ?h ?e); (case h => walk_at "ch"); (case e => rfl))
  | ((with_reducible refine tr_eqt ?u ?h ?e); (case h => walk_at "ch"); (case e => rfl))
  | ((with_reducible refine tr_eql ?u ?h ?e); (case h => walk_at "ch"); (case e => rfl))
  | ((with_reducible refine SqT.of ?_); first | walk_at "ch" | ((with_reducible refine tr_eq ?u ?h ?e); (case h => walk_at "ch"); (case e => rfl)))
  | ((with_reducible refine SqL.of ?_); first | walk_at "ch" | ((with_reducible refine tr_eq ?u ?h ?e); (case h => walk_at "ch"); (case e => rfl)))
  | ((with_reducible refine sq_l ?_); walk_at "tr")
  | ((with_reducible refine sq_t ?_); walk_at "tr"))
local macro_rules | `(tactic| walk_at "tr2") => `(tactic| fail)
local macro_rules | `(tactic| walk_at "sz") => `(tactic| (simp only [List.length_cons, List.length_nil, List.length_append, List.length_map]; decide))
local macro_rules | `(tactic| walk_at "g") => `(tactic| repeat (first
  | (with_reducible refine g_cons ?_)
  | (with_reducible refine g_nil ?_)
  | (with_reducible refine w_name ?_)))
local macro_rules | `(tactic| walk_at "w2") => `(tactic| first
  | with_reducible refine w_dnew ?_
  | with_reducible refine w_dget ?_
  | with_reducible refine w_dget2 ?_
  | with_reducible refine w_dput ?_
  | ((with_reducible refine w_isd ?kvs ?h ?q); (case h => walk_at "rd"))
  | ((with_reducible refine w_dtal ?ks ?f ?t ?h ?q); (case t => assumption); (case h => walk_at "tr"); (intro o eo; rw [eo]; clear eo))
  | ((with_reducible refine w_listD ?kvs ?h ?q); (case h => walk_at "rd"))
  | ((with_reducible refine w_lenD ?kvs ?h ?q); (case h => walk_at "tr"))
  | ((with_reducible refine w_sortD ?ks ?f ?h ?q); (case h => walk_at "tr")))
local macro_rules | `(tactic| walk_at "tr2") => `(tactic| first
  | ((with_reducible refine tr_pv ?H ?e ?h); (case e => with_reducible assumption); (case h => walk_at "ch"))
  | ((with_reducible refine tr_pt ?H ?e ?h); (case e => with_reducible assumption); (case h => walk_at "ch"))
  | ((with_reducible refine tr_pll ?H ?e ?h); (case e => with_reducible assumption); (case h => walk_at "ch")))
theorem isP_nil : IsP (fun _ => 0) [] := ⟨List.Pairwise.nil, fun _ h => (by cases h), fun _ => rfl⟩
theorem sq_ge (n : Nat) : n ≤ n ^ 2 := by rw [Nat.pow_two]; exact Nat.le_mul_self n
theorem mul_sq (a b : Nat) : a * b ≤ (a + b) ^ 2 := by rw [Nat.pow_two]; exact Nat.mul_le_mul (Nat.le_add_right _ _) (Nat.le_add_left _ _)
theorem wb_one (s : Int) : Wb 1 [(s, 1)] ∧ Wb 1 [(s, -1)] := ⟨(by decide : 1 < 2), (by decide : 1 < 2)⟩
def sp_lnext (K : PySem.W.Frag) : Sp := fun vs H Q _ => ∃ op x y a b R ps S, vs = [.int op, x, y, .ref a, .ref b] ∧ PT K H x R ∧ PV K H y ps ∧ H a = some (.dK (dk R)) ∧ H b = some (.dK (dk S)) ∧ IsP (cf R) R ∧ IsP (cf ps) S ∧ R.length ≤ 120 ∧ ps.length ≤ 40 ∧ Wb 3000 R ∧ Wb 3000 ps ∧
  ∀ l z d T H2, Same H H2 → H2 l = some (.lst [z, .ref d]) → PT K H2 z T → H2 d = some (.dK (dk T)) → IsP (cf T) T → T.length ≤ 40000 → wt T ≤ (wt R + wt ps) ^ 2 → Q (.ref l) H2
theorem sc__law_next : FnScope ["op", "told", "value", "due", "mine", "both"] ["op", "told", "value", "due", "mine"] (defScope (top 59)) := ⟨rfl, rfl, rfl, by decide +kernel, rfl, by decide +kernel, by decide +kernel⟩
theorem d__law_next {P : Program} {w : World} {K : PySem.W.Frag} {mg : Str → Option Value} {base : Heap} (T : Tx K mg) : Def P w K mg base "_law_next" 3 ["op", "told", "value", "due", "mine"] (sp_lnext K) := by
  refine Def.of T.at__law_next sc__law_next (fun _ _ _ _ _ _ us hl => match us, hl with | [_, _, _, _, _], _ => rfl) (fun vs H Q E h => by (obtain ⟨_, _, _, _, _, _, _, _, rfl, _⟩ := h; rfl)) (fun f cdv A outer s H vs Q E hr h => ?_)
  refine ⟨_, PSs.nox (pss_cons (ps_if (pt_cmpR (op_eqA hr.units) (pv 0) pe_int (nomark _)) (pss_one (ps_ret (pe_lstA (pa_cons (pe_def (d_poly_times T) (hr.mono (by decide)) (by rfl) (pa_cons (pv 1) (pa_cons (pv 2) pa_nil))) (pa_cons (pe_def (d__law_mul T) (hr.mono (by decide)) (by rfl) (pa_cons (pv 3) (pa_cons (pv 4) pa_nil))) pa_nil))))) pss_nil)
      (pss_cons (ps_if (pt_cmpR (op_eqA hr.units) (pv 0) pe_int (nomark _)) (pss_one (ps_ret (pe_lstA (pa_cons (pe_def (d_poly_plus T) (hr.mono (by decide)) (by rfl) (pa_cons (pv 2) (pa_cons (pv 1) pa_nil))) (pa_cons (pe_def (d__law_add T) (hr.mono (by decide)) (by rfl) (pa_cons (pv 3) (pa_cons (pv 4) (pa_cons pe_int pa_nil)))) pa_nil))))) pss_nil)
      (pss_cons (ps_if (pt_cmpR (op_eqA hr.units) (pv 0) pe_int (nomark _)) (pss_one (ps_ret (pe_lstA (pa_cons (pe_def (d_poly_plus T) (hr.mono (by decide)) (by rfl) (pa_cons (pv 1) (pa_cons (pe_def (d_poly_times T) (hr.mono (by decide)) (by rfl) (pa_cons (pe_tupA (pa_cons (pe_tupA (pa_cons pe_int (pa_cons (pe_un un_neg pe_int) pa_nil))) pa_nil)) (pa_cons (pv 1) pa_nil))) pa_nil))) (pa_cons pe_dnewA pa_nil))))) pss_nil)
      (pss_cons (ps_if (pt_cmpR (op_eqA hr.units) (pv 0) pe_int (nomark _)) (pss_one (ps_ret (pe_lstA (pa_cons (pe_def (d_poly_plus T) (hr.mono (by decide)) (by rfl) (pa_cons (pe_def (d_poly_times T) (hr.mono (by decide)) (by rfl) (pa_cons (pv 1) (pa_cons (pe_tupA (pa_cons (pe_tupA (pa_cons pe_int (pa_cons pe_int pa_nil))) pa_nil)) pa_nil))) (pa_cons (pv 2) pa_nil))) (pa_cons (pe_def (d__law_add T) (hr.mono (by decide)) (by rfl) (pa_cons (pe_def (d__law_mul T) (hr.mono (by decide)) (by rfl) (pa_cons (pv 3) (pa_cons (pe_disp1 (pps_cons pe_int pe_int pps_nil)) pa_nil))) (pa_cons (pv 4) (pa_cons pe_int pa_nil)))) pa_nil))))) pss_nil)
      (pss_cons (ps_set (i := 5) sc__law_next.nd rfl (Or.inl rfl) (pe_def (d__law_add T) (hr.mono (by decide)) (by rfl) (pa_cons (pv 3) (pa_cons (pv 4) (pa_cons pe_int pa_nil)))))
      (pss_one (ps_ret (pe_lstA (pa_cons (pe_def (d_poly_times T) (hr.mono (by decide)) (by rfl) (pa_cons (pe_def (d_poly_plus T) (hr.mono (by decide)) (by rfl) (pa_cons (pv 1) (pa_cons (pv 2) pa_nil))) (pa_cons (pe_def (d_poly_plus T) (hr.mono (by decide)) (by rfl) (pa_cons (pv 2) (pa_cons (pv 1) pa_nil))) pa_nil))) (pa_cons (pe_def (d__law_mul T) (hr.mono (by decide)) (by rfl) (pa_cons (pv 5) (pa_cons (pv 5) pa_nil))) pa_nil)))))))))), ?_⟩
  obtain ⟨op, x, y, a, b, R, ps, S, rfl, hx, hy, ha, hb, hR, hS, l1, l2, w1, w2, q⟩ := h
  have hxv := hx.pv
  have m2 := IsP.length_le hS
  have y2 := w2.of hS
  have z2 : S.length ≤ 40 := by omega
  walk_at "w0"
  walk_at "w"
  refine iteD (fun _ => ?_) (fun _ => ?_)
  · walk_at "w"
    refine ⟨x, y, R, ps, rfl, hxv, hy, len_prod (by omega) (by omega), w1.mono (by decide), w2.mono (by decide), fun p H1 T hT s1 hP => ?_⟩
    walk_at "w"
    refine ⟨a, b, R, S, rfl, by walk_at "tr", by walk_at "tr", hR.asc, hS.asc, len_prod (by omega) (by omega), w1.mono (by decide), y2.mono (by decide), fun d H2 U hU n2 s2 e2 => ?_⟩
    have e := hT.uniq' hU (cf_prod hR hS)
    subst e
    walk_at "w"
    have lT := IsP.length_le hT
    rw [length_prd] at lT
    have := Nat.mul_le_mul l1 l2
    have wT := IsP.wt_le hT
    rw [wt_prd] at wT
    refine ⟨by walk_at "sz", fun l H3 n3 s3 e3 => ?_⟩
    exact q l _ d T H3 ((s1.trans s2).trans s3) e3 (by walk_at "tr") (by walk_at "tr") hT.self (by omega) (Nat.le_trans wT (mul_sq _ _))
  walk_at "w"
  refine iteD (fun _ => ?_) (fun _ => ?_)
  · walk_at "w"
    refine ⟨y, x, ps, R, rfl, hy, hxv, by omega, fun p H1 T hT s1 hP => ?_⟩
    walk_at "w"
    refine ⟨a, b, 1, R, S, rfl, by walk_at "tr", by walk_at "tr", hS.asc, by omega, fun t m => one_mul_ok y2 (by decide) m, fun d H2 U hU n2 s2 e2 => ?_⟩
    have e := hT.uniq' hU (cf_sum' hR hS)
    subst e
    walk_at "w"
    have lT := IsP.length_le hT
    rw [List.length_append] at lT
    have wT := IsP.wt_le hT
    rw [wt_append] at wT
    refine ⟨by walk_at "sz", fun l H3 n3 s3 e3 => ?_⟩
    exact q l _ d T H3 ((s1.trans s2).trans s3) e3 (by walk_at "tr") (by walk_at "tr") hT.self (by omega) (Nat.le_trans (Nat.le_trans wT (by omega)) (sq_ge _))
  walk_at "w"
  refine iteD (fun _ => ?_) (fun _ => ?_)
  · walk_at "w"
    refine ⟨by walk_at "sz", fun t1 H1 n1 s1 e1 => ?_⟩
    walk_at "w"
    refine ⟨by walk_at "sz", fun t2 H2 n2 s2 e2 => ?_⟩
    have hlit : PV K H2 (.ref t2) [(0, -1)] := ⟨t2, _, rfl, .inr (SqT.of e2), .cons ⟨t1, rfl, .inr (SqT.of (s2 _ _ e1))⟩ .nil⟩
    walk_at "w"
    refine ⟨_, x, [(0, -1)], R, rfl, hlit, by walk_at "tr", len_prod (show 1 ≤ 200 by decide) (by omega), (wb_one 0).2.mono (by decide), w1.mono (by decide), fun p H3 T hT s3 hP => ?_⟩
    have lT := IsP.length_le hT
    rw [length_prd] at lT
    have lT : T.length ≤ 1 * R.length := lT
    have hPv := hP.pv
    walk_at "w"
    refine ⟨x, _, R, T, rfl, by walk_at "tr", hPv, by omega, fun p2 H4 U hU s4 hP4 => ?_⟩
    have e : [] = U := isP_nil.uniq' hU fun s => by
      rw [cf_append, hT.cfs, cf_prd_cons]
      show 0 = cf R s + (-1 * cf R (s - 0) + 0)
      rw [Int.sub_zero]
      omega
    subst e
    walk_at "w"
    intro d H5 n5 s5 e5
    walk_at "w"
    refine ⟨by walk_at "sz", fun l H6 n6 s6 e6 => ?_⟩
    exact q l _ d [] H6 (((((s1.trans s2).trans s3).trans s4).trans s5).trans s6) e6 (by walk_at "tr") (s6 _ _ e5) ⟨List.Pairwise.nil, fun _ h => (by cases h), fun _ => rfl⟩ (Nat.zero_le _) (Nat.zero_le _)
  walk_at "w"
  refine iteD (fun _ => ?_) (fun _ => ?_)
  · walk_at "w"
    refine ⟨by walk_at "sz", fun t1 H1 n1 s1 e1 => ?_⟩
    walk_at "w"
    refine ⟨by walk_at "sz", fun t2 H2 n2 s2 e2 => ?_⟩
    have hlit : PV K H2 (.ref t2) [(3, 1)] := ⟨t2, _, rfl, .inr (SqT.of e2), .cons ⟨t1, rfl, .inr (SqT.of (s2 _ _ e1))⟩ .nil⟩
    walk_at "w"
    refine ⟨x, _, R, [(3, 1)], rfl, by walk_at "tr", hlit, len_prod (by omega) (show 1 ≤ 200 by decide), w1.mono (by decide), (wb_one 3).1.mono (by decide), fun p H3 T hT s3 hP => ?_⟩
    have lT := IsP.length_le hT
    rw [length_prd] at lT
    have lT : T.length ≤ R.length * 1 := lT
    have wT := IsP.wt_le hT
    rw [wt_prd] at wT
    have wT : wt T ≤ wt R * 1 := wT
    have hPv := hP.pv
    walk_at "w"
    refine ⟨_, y, T, ps, rfl, hPv, by walk_at "tr", by omega, fun p2 H4 U hU s4 hP4 => ?_⟩
    have lU := IsP.length_le hU
    rw [List.length_append] at lU
    have wU := IsP.wt_le hU
    rw [wt_append] at wU
    walk_at "w"
    refine w_disp fun d0 n5 => ?_
    walk_at "w"
    refine ⟨upd_same, [(Sum.inl 3, .int 1)], rfl, (show 1 ≤ 15 by decide), ?_⟩
    have s5 : Same H4 (upd (upd H4 d0 (.dK [])) d0 (.dK (mergeK [] [(Sum.inl 3, .int 1)]))) := Same.mut (Same.new n5) n5
    have e5 : (upd (upd H4 d0 (.dK [])) d0 (.dK (mergeK [] [(Sum.inl 3, .int 1)]))) d0 = some (.dK (dk [(3, 1)])) := upd_same
    generalize upd (upd H4 d0 (.dK [])) d0 (.dK (mergeK [] [(Sum.inl 3, .int 1)])) = H5 at s5 e5 ⊢
    walk_at "w"
    refine ⟨a, d0, R, [(3, 1)], rfl, by walk_at "tr", e5, hR.asc, List.pairwise_singleton _ _, len_prod (by omega) (show 1 ≤ 200 by decide), w1.mono (by decide), (wb_one 3).1.mono (by decide), fun d H6 V hV n6 s6 e6 => ?_⟩
    have e := hT.uniq hV
    subst e
    walk_at "w"
    refine ⟨d, b, 1, T, S, rfl, e6, by walk_at "tr", hS.asc, by omega, fun t m => one_mul_ok y2 (by decide) m, fun d2 H7 V2 hV2 n7 s7 e7 => ?_⟩
    have e := hU.uniq' hV2 (cf_sum hT.self hS)
    subst e
    walk_at "w"
    refine ⟨by walk_at "sz", fun l H8 n8 s8 e8 => ?_⟩
    exact q l _ d2 U H8 (((((((s1.trans s2).trans s3).trans s4).trans s5).trans s6).trans s7).trans s8) e8 (by walk_at "tr") (by walk_at "tr") hU.self (by omega) (Nat.le_trans (Nat.le_trans wU (by omega)) (sq_ge _))
  walk_at "w"
  refine ⟨a, b, 1, R, S, rfl, ha, hb, hS.asc, by omega, fun t m => one_mul_ok y2 (by decide) m, fun d H1 B hB n1 s1 e1 => ?_⟩
  have hB1 : IsP (cf (R ++ ps)) B := ⟨hB.asc, hB.nz, fun s => by rw [hB.cfs, cf_sum hR hS]⟩
  have lB := IsP.length_le hB1
  rw [List.length_append] at lB
  have wB := IsP.wt_le hB1
  rw [wt_append] at wB
  have hwB : Wb 3001 B := by
    have h1 : wt R < 2 ^ 3000 := w1
    have h2 : wt ps < 2 ^ 3000 := w2
    show wt B < 2 ^ 3001
    rw [Nat.pow_succ]
    generalize 2 ^ 3000 = N at h1 h2 ⊢
    omega
  walk_at "w"
  refine ⟨x, y, R, ps, rfl, by walk_at "tr", by walk_at "tr", by omega, fun p H2 T1 hT1 s2 hP2 => ?_⟩
  have e := hB1.uniq hT1
  subst e
  walk_at "w"
  refine ⟨y, x, ps, R, rfl, by walk_at "tr", by walk_at "tr", by omega, fun p2 H3 T2 hT2 s3 hP3 => ?_⟩
  have e := hB.uniq' hT2 (fun s => (cf_sum' hR hS s).symm)
  subst e
  have hP2v := Same.pv s3 hP2.pv
  have hP3v := hP3.pv
  walk_at "w"
  refine ⟨_, _, B, B, rfl, hP2v, hP3v, len_prod (by omega) (by omega), hwB.mono (by decide), hwB.mono (by decide), fun p3 H4 T hT s4 hP4 => ?_⟩
  walk_at "w"
  refine ⟨d, d, B, B, rfl, by walk_at "tr", by walk_at "tr", hB.asc, hB.asc, len_prod (by omega) (by omega), hwB.mono (by decide), hwB.mono (by decide), fun d2 H5 U hU n5 s5 e5 => ?_⟩
  have e := hT.uniq hU
  subst e
  have lT := IsP.length_le hT
  rw [length_prd] at lT
  have := Nat.mul_le_mul (show B.length ≤ 160 by omega) (show B.length ≤ 160 by omega)
  have wT := IsP.wt_le hT
  rw [wt_prd] at wT
  walk_at "w"
  refine ⟨by walk_at "sz", fun l H6 n6 s6 e6 => ?_⟩
  exact q l _ d2 T H6 (((((s1.trans s2).trans s3).trans s4).trans s5).trans s6) e6 (by walk_at "tr") (by walk_at "tr") hT.self (by omega) (Nat.le_trans wT (by rw [Nat.pow_two]; exact Nat.mul_le_mul wB wB))
end JP
set_option Elab.async false
set_option linter.all false
set_option maxRecDepth 100000
set_option maxHeartbeats 4000000
namespace JP
open PySem PySem.Spec PyProof.Rows L2 L2H
local macro_rules | `(tactic| walk_at "w1") => `(tactic| first
  | with_reducible refine w_seq ?_
  | with_reducible refine w_asg ?_
  | with_reducible refine w_name ?_
  | with_reducible refine w_op ?_
  | ((with_reducible refine w_var ?v ?h ?q); (case h => exact rfl))
  | with_reducible refine w_c ?_
  | with_reducible refine w_ret ?_
  | with_reducible refine w_if ?_
  | with_reducible refine w_drop ?_
  | with_reducible refine w_next ?_
  | with_reducible refine w_un ?_
  | with_reducible refine w_p18 ?_
  | with_reducible refine w_p30 ?_
  | with_reducible refine w_p6 ?_
  | with_reducible refine w_p9 ?_
  | with_reducible refine w_p12 ?_
  | with_reducible refine w_p15 ?_
  | with_reducible refine w_p24 ?_
  | with_reducible refine w_slice ?_
  | with_reducible refine w_part ?_
  | with_reducible refine w_nopart ?_
  | with_reducible refine w_ei ?_
  | with_reducible refine w_for ?_
  | with_reducible refine w_rng1 ?_
  | with_reducible refine w_rng2 ?_
  | with_reducible refine w_iseq ?_
  | ((with_reducible refine w_I ?c ?q); (case c => walk_at "side"))
  | ((with_reducible refine w_len ?xs ?h ?q); (case h => walk_at "tr"))
  | with_reducible refine w_cb ?_
  | with_reducible refine w_cons ?_
  | with_reducible refine w_nil ?_
  | with_reducible refine w_test ?_
  | with_reducible refine w_B ?_
  | with_reducible refine w_bl ?_
  | with_reducible refine w_and ?_
  | with_reducible refine w_or ?_
  | with_reducible refine w_not ?_
  | with_reducible refine w_andV ?_
  | with_reducible refine w_orV ?_
  | with_reducible refine w_notV ?_
  | with_reducible refine w_ifE ?_
  | with_reducible refine w_call ?_
  | with_reducible refine w_bm ?_
  | ((with_reducible refine w_tyl ?xs ?h ?q); (case h => assumption))
  | with_reducible refine w_bm0 ?_
  | with_reducible refine w_bits ?_
  | with_reducible refine w_tup ?_
  | with_reducible refine w_lst ?_
  | with_reducible refine w_I0 ?_
  | with_reducible refine w_U ?_
  | with_reducible refine w_add ?_
  | with_reducible refine w_eqI ?_
  | with_reducible refine w_neI ?_
  | with_reducible refine w_eqS ?_
  | with_reducible refine w_neS ?_
  | with_reducible refine w_int ?_
  | with_reducible refine w_abs ?_
  | with_reducible refine w_gcd ?_
  | walk_at "w2")
local macro_rules | `(tactic| walk_at "w2") => `(tactic| fail)
local macro_rules | `(tactic| walk_at "rd") => `(tactic| first | with_reducible assumption | ((with_reducible refine Rd.of ?_); walk_at "tr"))
local macro_rules | `(tactic| walk_at "w") => `(tactic| repeat (walk_at "w1"))
local macro_rules | `(tactic| walk_at "w0") => `(tactic| simp only [cxOf_K, L2.start, List.map_cons, List.map_nil, List.length_cons, List.length_nil, Nat.reduceAdd, Nat.reduceSub, List.replicate_succ, List.replicate_zero, List.cons_append, List.nil_append])
local macro_rules | `(tactic| walk_at "side") => `(tactic| first | assumption | (exact small_div (by omega) (by omega)) | (exact small_mul (by omega) (by omega)) | (exact med_mul (by omega) (by omega)) | (exact big_mul (by omega) (by omega)) | (exact ⟨by decide, by decide, by decide⟩) | (show (0 : Int) < _; omega))
local macro_rules | `(tactic| walk_at "ch") => `(tactic| first
  | with_reducible assumption
  | with_reducible exact Same.refl _
  | ((with_reducible refine tr_at ?H ?e ?h); (case e => with_reducible assumption); (case h => walk_at "ch"))
  | ((with_reducible refine tr_st ?H ?e ?h); (case e => with_reducible assumption); (case h => walk_at "ch"))
  | ((with_reducible refine tr_sl ?H ?e ?h); (case e => with_reducible assumption); (case h => walk_at "ch"))
  | ((with_reducible refine tr_same ?H ?e ?h); (case e => with_reducible assumption); (case h => walk_at "ch"))
  | ((with_reducible refine tr_sq ?H ?e ?h); (case e => with_reducible assumption); (case h => walk_at "ch"))
  | ((with_reducible refine tr_dp ?H ?e ?h); (case e => with_reducible assumption); (case h => walk_at "ch"))
  | walk_at "tr2")
local macro_rules | `(tactic| walk_at "tr") => `(tactic| first
  | walk_at "ch"
  | ((with_reducible refine tr_eq ?u ?h ?e); (case h => walk_at "ch"); (case e => rfl))
  | ((with_reducible refine tr_eqt ?u ?h ?e); (case h => walk_at "ch"); (case e => rfl))
  | ((with_reducible refine tr_eql ?u ?h ?e); (case h => walk_at "ch"); (case e => rfl))
  | ((with_reducible refine SqT.of ?_); first | walk_at "ch" | ((with_reducible refine tr_eq ?u ?h ?e); (case h => walk_at "ch"); (case e => rfl)))
  | ((with_reducible refine SqL.of ?_); first | walk_at "ch" | ((with_reducible refine tr_eq ?u ?h ?e); (case h => walk_at "ch"); (case e => rfl)))
  | ((with_reducible refine sq_l ?_); walk_at "tr")
  | ((with_reducible refine sq_t ?_); walk_at "tr"))
local macro_rules | `(tactic| walk_at "tr2") => `(tactic| fail)
local macro_rules | `(tactic| walk_at "sz") => `(tactic| (simp only [List.length_cons, List.length_nil, List.length_append, List.length_map]; decide))
local macro_rules | `(tactic| walk_at "g") => `(tactic| repeat (first
  | (with_reducible refine g_cons ?_)
  | (with_reducible refine g_nil ?_)
  | (with_reducible refine w_name ?_)))
local macro_rules | `(tactic| walk_at "w2") => `(tactic| first
  | with_reducible refine w_dnew ?_
  | with_reducible refine w_dget ?_
  | with_reducible refine w_dget2 ?_
  | with_reducible refine w_dput ?_
  | ((with_reducible refine w_isd ?kvs ?h ?q); (case h => walk_at "rd"))
  | ((with_reducible refine w_dtal ?ks ?f ?t ?h ?q); (case t => assumption); (case h => walk_at "tr"); (intro o eo; rw [eo]; clear eo))
  | ((with_reducible refine w_listD ?kvs ?h ?q); (case h => walk_at "rd"))
  | ((with_reducible refine w_lenD ?kvs ?h ?q); (case h => walk_at "tr"))
  | ((with_reducible refine w_sortD ?ks ?f ?h ?q); (case h => walk_at "tr")))
local macro_rules | `(tactic| walk_at "tr2") => `(tactic| first
  | ((with_reducible refine tr_pv ?H ?e ?h); (case e => with_reducible assumption); (case h => walk_at "ch"))
  | ((with_reducible refine tr_pt ?H ?e ?h); (case e => with_reducible assumption); (case h => walk_at "ch"))
  | ((with_reducible refine tr_pll ?H ?e ?h); (case e => with_reducible assumption); (case h => walk_at "ch")))
def sp_lcoef : Sp := fun vs H Q _ => ∃ k a b : Int, vs = [.int k, .int a, .int b] ∧ 0 ≤ a ∧ a < 100000 ∧ 0 ≤ b ∧ b < 100000 ∧ ∀ c H2, Same H H2 → c.natAbs ≤ 1000000000 → Q (.int c) H2
theorem sc__law_coefficient : FnScope ["kind", "a", "b"] ["kind", "a", "b"] (defScope (top 50)) := ⟨rfl, rfl, rfl, by decide +kernel, rfl, by decide +kernel, by decide +kernel⟩
theorem d__law_coefficient {P : Program} {w : World} {K : PySem.W.Frag} {mg : Str → Option Value} {base : Heap} (T : Tx K mg) : Def P w K mg base "_law_coefficient" 1 ["kind", "a", "b"] sp_lcoef := by
  refine Def.of T.at__law_coefficient sc__law_coefficient (fun _ _ _ _ _ _ us hl => match us, hl with | [_, _, _], _ => rfl) (fun vs H Q E h => by (obtain ⟨_, _, _, rfl, _⟩ := h; rfl)) (fun f cdv A outer s H vs Q E hr h => ?_)
  refine ⟨_, PSs.nox (pss_cons (ps_if (pt_cmpR (op_eqA hr.units) (pv 0) pe_int (nomark _)) (pss_one (ps_ret pe_int)) pss_nil)
      (pss_cons (ps_if (pt_cmpR op_lt (pv 0) pe_int (nomark _)) (pss_one (ps_ret (pe_op op_sub (pe_op op_mod (pe_callTy call_intA (by rfl) T.n_int (by decide +kernel) (pa_cons (pv 1) pa_nil)) pe_int) pe_int))) pss_nil)
      (pss_cons (ps_if (pt_cmpR (op_eqA hr.units) (pv 0) pe_int (nomark _)) (pss_one (ps_ret (pe_ix ix_seq (pe_lstA (pa_cons pe_int (pa_cons (pe_un un_neg pe_int) pa_nil))) (pe_op op_mod (pe_callTy call_intA (by rfl) T.n_int (by decide +kernel) (pa_cons (pv 1) pa_nil)) pe_int) (fun _ _ => rfl)))) pss_nil)
      (pss_cons (ps_if (pt_cmpR (op_eqA hr.units) (pv 0) pe_int (nomark _)) (pss_one (ps_ret (pe_op op_mulW pe_int (pe_op op_sub (pe_op op_mod (pe_callTy call_intA (by rfl) T.n_int (by decide +kernel) (pa_cons (pv 1) pa_nil)) pe_int) pe_int)))) pss_nil)
      (pss_cons (ps_if (pt_cmpR (op_eqA hr.units) (pv 0) pe_int (nomark _)) (pss_one (ps_ret (pe_op op_sub (pe_op op_mod (pe_callTy call_intA (by rfl) T.n_int (by decide +kernel) (pa_cons (pv 1) pa_nil)) pe_int) pe_int))) pss_nil)
      (pss_cons (ps_if (pt_cmpR (op_eqA hr.units) (pv 0) pe_int (nomark _)) (pss_one (ps_ret (pe_ix ix_seq (pe_lstA (pa_cons (pe_op op_pow pe_int pe_int) (pa_cons (pe_un un_neg (pe_op op_pow pe_int pe_int)) (pa_cons (pe_op op_sub (pe_op op_pow pe_int pe_int) pe_int) (pa_cons (pe_op op_sub pe_int (pe_op op_pow pe_int pe_int)) (pa_cons pe_int (pa_cons (pe_un un_neg pe_int) pa_nil))))))) (pe_op op_mod (pe_callTy call_intA (by rfl) T.n_int (by decide +kernel) (pa_cons (pv 1) pa_nil)) pe_int) (fun _ _ => rfl)))) pss_nil)
      (pss_cons (ps_if (pt_cmpR (op_eqA hr.units) (pv 0) pe_int (nomark _)) (pss_one (ps_ret (pe_op op_sub (pe_op op_mod (pe_callTy call_intA (by rfl) T.n_int (by decide +kernel) (pa_cons (pe_op op_addA (pv 1) (pe_op op_mulW pe_int (pv 2))) pa_nil)) pe_int) (pe_op op_pow pe_int pe_int)))) pss_nil)
      (pss_cons (ps_if (pt_cmpR (op_eqA hr.units) (pv 0) pe_int (nomark _)) (pss_one (ps_ret (pe_op op_sub (pe_op op_mod (pe_callTy call_intA (by rfl) T.n_int (by decide +kernel) (pa_cons (pv 1) pa_nil)) pe_int) pe_int))) pss_nil)
      (pss_one (ps_ret (pe_op op_mulW pe_int (pe_op op_sub (pe_op op_mod (pe_callTy call_intA (by rfl) T.n_int (by decide +kernel) (pa_cons (pv 1) pa_nil)) pe_int) pe_int)))))))))))), ?_⟩
  obtain ⟨k, a, b, rfl, a0, a1, b0, b1, q⟩ := h
  walk_at "w0"
  walk_at "w"
  refine iteD (fun _ => ?_) (fun _ => ?_)
  · walk_at "w"
    exact q 0 H (Same.refl _) (by decide)
  walk_at "w"
  refine iteD (fun _ => ?_) (fun _ => ?_)
  · walk_at "w"
    exact q _ H (Same.refl _) (by omega)
  walk_at "w"
  refine iteD (fun _ => ?_) (fun _ => ?_)
  · walk_at "w"
    refine ⟨by walk_at "sz", fun l H1 n1 s1 l1 => ?_⟩
    obtain ⟨c, _, hc, ha⟩ := ix_ints [1, -1] (i := a % 2) (by omega) (by show a % 2 < 2; omega)
    walk_at "w"
    refine w_ix (.inl (SqL.of l1)) ha ?_
    refine q _ H1 s1 ?_
    simp only [List.mem_cons, List.not_mem_nil, or_false] at hc
    omega
  walk_at "w"
  refine iteD (fun _ => ?_) (fun _ => ?_)
  · walk_at "w"
    exact q _ H (Same.refl _) (by omega)
  walk_at "w"
  refine iteD (fun _ => ?_) (fun _ => ?_)
  · walk_at "w"
    exact q _ H (Same.refl _) (by omega)
  walk_at "w"
  refine iteD (fun _ => ?_) (fun _ => ?_)
  · walk_at "w"
    refine ⟨by walk_at "sz", fun l H1 n1 s1 l1 => ?_⟩
    obtain ⟨c, _, hc, ha⟩ := ix_ints [1000000000, -1000000000, 1000000000 - 1, 1 - 1000000000, 999999937, -536870912] (i := a % 6) (by omega) (by show a % 6 < 6; omega)
    walk_at "w"
    refine w_ix (.inl (SqL.of l1)) ha ?_
    refine q _ H1 s1 ?_
    simp only [List.mem_cons, List.not_mem_nil, or_false] at hc
    omega
  walk_at "w"
  refine iteD (fun _ => ?_) (fun _ => ?_)
  · walk_at "w"
    exact q _ H (Same.refl _) (by omega)
  walk_at "w"
  refine iteD (fun _ => ?_) (fun _ => ?_)
  · walk_at "w"
    exact q _ H (Same.refl _) (by omega)
  walk_at "w"
  exact q _ H (Same.refl _) (by omega)
def sp_lpassed (K : PySem.W.Frag) : Sp := fun vs H Q _ => ∃ a form ps, vs = [.ref a, .int form] ∧ PLL H a ps ∧ ps.length ≤ 40 ∧ ∀ v H2, Same H H2 → Dp K H2 v (pdf form ps) → Q v H2
theorem sc__law_passed : FnScope ["pairs", "form", "pair", "mixed"] ["pairs", "form"] (defScope (top 52)) := ⟨rfl, rfl, rfl, by decide +kernel, rfl, by decide +kernel, by decide +kernel⟩
theorem d__law_passed {P : Program} {w : World} {K : PySem.W.Frag} {mg : Str → Option Value} {base : Heap} (T : Tx K mg) : Def P w K mg base "_law_passed" 1 ["pairs", "form"] (sp_lpassed K) := by
  refine Def.of T.at__law_passed sc__law_passed (fun _ _ _ _ _ _ us hl => match us, hl with | [_, _], _ => rfl) (fun vs H Q E h => by (obtain ⟨_, _, _, rfl, _⟩ := h; rfl)) (fun f cdv A outer s H vs Q E hr h => ?_)
  refine ⟨_, PSs.nox (pss_cons (ps_if (pt_cmpR (op_eqA hr.units) (pv 1) pe_int (nomark _)) (pss_one (ps_ret (pe_lc (own := [("pair", 2)]) (by rfl) sc__law_passed.nd (pi_seq (pv 0)) (blkOk_by (own := [("pair", 2)]) (N := ["pairs", "form", "pair", "mixed"]) (sc := defScope (top 52)) (by decide +kernel)) (fun _ _ _ _ _ => (pg_name (i := 2) sc__law_passed.nd rfl (Or.inl rfl))) (fun _ _ _ _ _ => pts_nil) (fun _ _ _ _ _ => (pe_lstA (pa_cons (pe_ix (ix_seqK (K := K) (by rfl)) (pv 2) pe_int (fun _ _ => rfl)) (pa_cons (pe_ix (ix_seqK (K := K) (by rfl)) (pv 2) pe_int (fun _ _ => rfl)) pa_nil))))))) pss_nil)
      (pss_cons (ps_if (pt_cmpR (op_eqA hr.units) (pv 1) pe_int (nomark _)) (pss_one (ps_ret (pe_lc (own := [("pair", 2)]) (by rfl) sc__law_passed.nd (pi_seq (pv 0)) (blkOk_by (own := [("pair", 2)]) (N := ["pairs", "form", "pair", "mixed"]) (sc := defScope (top 52)) (by decide +kernel)) (fun _ _ _ _ _ => (pg_name (i := 2) sc__law_passed.nd rfl (Or.inl rfl))) (fun _ _ _ _ _ => pts_nil) (fun _ _ _ _ _ => (pe_tupA (pa_cons (pe_ix (ix_seqK (K := K) (by rfl)) (pv 2) pe_int (fun _ _ => rfl)) (pa_cons (pe_ix (ix_seqK (K := K) (by rfl)) (pv 2) pe_int (fun _ _ => rfl)) pa_nil))))))) pss_nil)
      (pss_cons (ps_if (pt_cmpR (op_eqA hr.units) (pv 1) pe_int (nomark _)) (pss_one (ps_ret (pe_callTy call_tupleA (by rfl) T.n_tuple (by decide +kernel) (pa_cons (pe_lc (own := [("pair", 2)]) (by rfl) sc__law_passed.nd (pi_seq (pv 0)) (blkOk_by (own := [("pair", 2)]) (N := ["pairs", "form", "pair", "mixed"]) (sc := defScope (top 52)) (by decide +kernel)) (fun _ _ _ _ _ => (pg_name (i := 2) sc__law_passed.nd rfl (Or.inl rfl))) (fun _ _ _ _ _ => pts_nil) (fun _ _ _ _ _ => (pe_lstA (pa_cons (pe_ix (ix_seqK (K := K) (by rfl)) (pv 2) pe_int (fun _ _ => rfl)) (pa_cons (pe_ix (ix_seqK (K := K) (by rfl)) (pv 2) pe_int (fun _ _ => rfl)) pa_nil))))) pa_nil)))) pss_nil)
      (pss_cons (ps_if (pt_cmpR (op_eqA hr.units) (pv 1) pe_int (nomark _)) (pss_one (ps_ret (pe_callTy call_tupleA (by rfl) T.n_tuple (by decide +kernel) (pa_cons (pe_lc (own := [("pair", 2)]) (by rfl) sc__law_passed.nd (pi_seq (pv 0)) (blkOk_by (own := [("pair", 2)]) (N := ["pairs", "form", "pair", "mixed"]) (sc := defScope (top 52)) (by decide +kernel)) (fun _ _ _ _ _ => (pg_name (i := 2) sc__law_passed.nd rfl (Or.inl rfl))) (fun _ _ _ _ _ => pts_nil) (fun _ _ _ _ _ => (pe_tupA (pa_cons (pe_ix (ix_seqK (K := K) (by rfl)) (pv 2) pe_int (fun _ _ => rfl)) (pa_cons (pe_ix (ix_seqK (K := K) (by rfl)) (pv 2) pe_int (fun _ _ => rfl)) pa_nil))))) pa_nil)))) pss_nil)
      (pss_cons (ps_set (i := 3) sc__law_passed.nd rfl (Or.inl rfl) (pe_lstA pa_nil))
      (pss_cons (ps_for PassesOwn.never rfl (pi_seq (pv 0)) (pg_name (i := 2) sc__law_passed.nd rfl (Or.inl rfl)) (pss_one (ps_if (PW.pt (pw_or (pt_cmpR (op_eqA hr.units) (pe_callB call_lenA (by rfl) T.n_len (by decide +kernel) (pa_cons (pv 3) pa_nil)) pe_int (nomark _)) (pw_or1 (pt_cmpR (op_eqA hr.units) (pe_callB call_lenA (by rfl) T.n_len (by decide +kernel) (pa_cons (pv 3) pa_nil)) pe_int (nomark _))))) (pss_one (ps_expr (pe_bm PySem.F.plainAttrs_list PySem.F.slot_list_append PySem.F.type_list_append mt_appendA (pv 3) (pa_cons (pe_lstA (pa_cons (pe_ix ix_seq (pv 2) pe_int (fun _ _ => rfl)) (pa_cons (pe_ix ix_seq (pv 2) pe_int (fun _ _ => rfl)) pa_nil))) pa_nil)))) (pss_one (ps_expr (pe_bm PySem.F.plainAttrs_list PySem.F.slot_list_append PySem.F.type_list_append mt_appendA (pv 3) (pa_cons (pe_tupA (pa_cons (pe_ix ix_seq (pv 2) pe_int (fun _ _ => rfl)) (pa_cons (pe_ix ix_seq (pv 2) pe_int (fun _ _ => rfl)) pa_nil))) pa_nil)))))))
      (pss_one (ps_ret (pv 3))))))))), ?_⟩
  obtain ⟨a, form, ps, rfl, hP, hz, q⟩ := h
  have hv : PV K H (.ref a) ps := hP.pv
  have hz' : ps.length < 16777216 := by omega
  have hid : ps.map (fun p : Pr => p) = ps := List.map_id' ps
  walk_at "w0"
  walk_at "w"
  refine iteD (fun h0 => ?_) (fun h0 => ?_)
  · walk_at "w"
    refine w_lc ?_
    walk_at "w"
    refine lc_lists (fun p => p) hv hz' (fun p b H1 Y hp s1 hb hY => ?_) fun l H2 n2 s2 hL => ?_
    · walk_at "w"
      refine w_ix hb (i := 0) rfl ?_
      walk_at "w"
      refine w_ix hb (i := 1) rfl ?_
      walk_at "w"
      exact ⟨by walk_at "sz", hY⟩
    · obtain ⟨acc, h1, h2⟩ := hL
      rw [hid] at h2
      exact q _ H2 s2 (by unfold pdf; rw [if_pos h0]; exact .lst (SqL.of h1) (els_dp h2))
  walk_at "w"
  refine iteD (fun h1 => ?_) (fun h1 => ?_)
  · walk_at "w"
    refine w_lc ?_
    walk_at "w"
    refine lc_tups (fun p => p) hv hz' (fun p b H1 Y hp s1 hb hY => ?_) fun l H2 acc n2 s2 e2 hL => ?_
    · walk_at "w"
      refine w_ix hb (i := 0) rfl ?_
      walk_at "w"
      refine w_ix hb (i := 1) rfl ?_
      walk_at "w"
      exact ⟨by walk_at "sz", hY⟩
    · rw [hid] at hL
      exact q _ H2 s2 (by unfold pdf; rw [if_neg h0, if_pos h1]; exact .lst (SqL.of e2) (ets_dp hL))
  walk_at "w"
  refine iteD (fun h2 => ?_) (fun h2 => ?_)
  · walk_at "w"
    refine w_lc ?_
    walk_at "w"
    refine lc_lists (fun p => p) hv hz' (fun p b H1 Y hp s1 hb hY => ?_) fun l H2 n2 s2 hL => ?_
    · walk_at "w"
      refine w_ix hb (i := 0) rfl ?_
      walk_at "w"
      refine w_ix hb (i := 1) rfl ?_
      walk_at "w"
      exact ⟨by walk_at "sz", hY⟩
    · obtain ⟨acc, e1, e2⟩ := hL
      rw [hid] at e2
      walk_at "w"
      refine w_tuple (.inl (SqL.of e1)) fun t H3 s3 e3 => ?_
      exact q _ H3 (s2.trans s3) (by unfold pdf; rw [if_neg h0, if_neg h1, if_pos h2]; exact .tup e3 (els_dp (Same.els s3 e2)))
  walk_at "w"
  refine iteD (fun h3 => ?_) (fun h3 => ?_)
  · walk_at "w"
    refine w_lc ?_
    walk_at "w"
    refine lc_tups (fun p => p) hv hz' (fun p b H1 Y hp s1 hb hY => ?_) fun l H2 acc n2 s2 e2 hL => ?_
    · walk_at "w"
      refine w_ix hb (i := 0) rfl ?_
      walk_at "w"
      refine w_ix hb (i := 1) rfl ?_
      walk_at "w"
      exact ⟨by walk_at "sz", hY⟩
    · rw [hid] at hL
      walk_at "w"
      refine w_tuple (.inl (SqL.of e2)) fun t H3 s3 e3 => ?_
      exact q _ H3 (s2.trans s3) (by unfold pdf; rw [if_neg h0, if_neg h1, if_neg h2, if_pos h3]; exact .tup e3 (ets_dp (Same.ets s3 hL)))
  walk_at "w"
  refine ⟨by walk_at "sz", fun l H1 n1 s1 e1 => ?_⟩
  walk_at "w"
  obtain ⟨b, xs, e, hq, hp⟩ := id hv
  cases e
  have hl := paired_len hp
  refine for_seq H hq (fun i σ' H' => Same H H' ∧ ∃ v2 acc, σ' = [some (.ref a), some (.int form), v2, some (.ref l)] ∧ H' l = some (.lst acc) ∧ acc.length = i ∧ Paired (EA K H' l) acc (mix 0 (ps.take i)))
    ⟨s1, _, [], rfl, e1, rfl, .nil⟩ (fun i σ' H' _ ⟨e, _⟩ => e) ?_ ?_
  · rintro i x σ' H' hi ⟨sm, v2, acc, rfl, ea, la, hA⟩
    obtain ⟨p, hpi, c, rfl, hc⟩ := paired_at hp hi
    have hil := (List.getElem?_eq_some_iff.mp hpi).1
    have hc' := Same.sq sm hc
    have et : mix 0 (ps.take (i + 1)) = mix 0 (ps.take i) ++ [if i = 1 ∨ i = 2 then pl p else pt p] := by
      rw [List.take_add_one, hpi]
      have := mix_snoc p (ps.take i) 0
      rw [List.length_take, Nat.zero_add, show min i ps.length = i by omega] at this
      exact this
    have fin : ∀ (t : Addr) (d : PyData) (H3 : Hp), Same H' H3 → EA K H3 l (.ref t) d → d = (if i = 1 ∨ i = 2 then pl p else pt p) → ∀ H4, But l H3 H4 → H4 l = some (.lst (acc ++ [.ref t])) →
        Same H H4 ∧ ∃ v2 acc, [some (V.ref a), some (V.int form), some (V.ref c), some (V.ref l)] = [some (.ref a), some (.int form), v2, some (.ref l)] ∧ H4 l = some (.lst acc) ∧ acc.length = i + 1 ∧ Paired (EA K H4 l) acc (mix 0 (ps.take (i + 1))) := by
      intro t d H3 s3 hd ed H4 b4 e4
      refine ⟨But.same b4 (sm.trans s3) n1, _, _, rfl, e4, by rw [List.length_append, la]; rfl, ?_⟩
      rw [et, ← ed]
      exact paired_snoc (hd.but b4 (s3 _ _ ea)) (paired_imp (fun _ _ h => EA.but b4 (s3 _ _ ea) (EA.same s3 h)) hA)
    walk_at "g"
    walk_at "w"
    have mkL : (i = 1 ∨ i = 2) → ∀ t H3, H' t = none → Same H' H3 → H3 t = some (.lst [.int p.1, .int p.2]) → EA K H3 l (.ref t) (pl p) ∧ pl p = (if i = 1 ∨ i = 2 then pl p else pt p) := fun hi t H3 n3 s3 e3 =>
      ⟨⟨t, p, rfl, fun z => (by rw [z, ea] at n3; cases n3), .inr ⟨rfl, SqL.of e3⟩⟩, by rw [if_pos hi]⟩
    have mkT : ¬ (i = 1 ∨ i = 2) → ∀ t H3, H' t = none → Same H' H3 → H3 t = some (.tup [.int p.1, .int p.2]) → EA K H3 l (.ref t) (pt p) ∧ pt p = (if i = 1 ∨ i = 2 then pl p else pt p) := fun hi t H3 n3 s3 e3 =>
      ⟨⟨t, p, rfl, fun z => (by rw [z, ea] at n3; cases n3), .inl ⟨rfl, SqT.of e3⟩⟩, by rw [if_neg hi]⟩
    refine iteD (fun z1 => ?_) (fun z1 => ?_)
    · refine iteT ?_
      walk_at "w"
      refine w_ix hc' (i := 0) rfl ?_
      walk_at "w"
      refine w_ix hc' (i := 1) rfl ?_
      walk_at "w"
      refine ⟨by walk_at "sz", fun t H3 n3 s3 e3 => ?_⟩
      obtain ⟨m1, m2⟩ := mkL (by omega) t H3 n3 s3 e3
      walk_at "w"
      exact w_append (s3 _ _ ea) (size_of (by omega)) fun H4 b4 e4 => fin t _ H3 s3 m1 m2 H4 b4 e4
    · walk_at "w"
      refine iteD (fun z2 => ?_) (fun z2 => ?_)
      · walk_at "w"
        refine w_ix hc' (i := 0) rfl ?_
        walk_at "w"
        refine w_ix hc' (i := 1) rfl ?_
        walk_at "w"
        refine ⟨by walk_at "sz", fun t H3 n3 s3 e3 => ?_⟩
        obtain ⟨m1, m2⟩ := mkL (by omega) t H3 n3 s3 e3
        walk_at "w"
        exact w_append (s3 _ _ ea) (size_of (by omega)) fun H4 b4 e4 => fin t _ H3 s3 m1 m2 H4 b4 e4
      · walk_at "w"
        refine w_ix hc' (i := 0) rfl ?_
        walk_at "w"
        refine w_ix hc' (i := 1) rfl ?_
        walk_at "w"
        refine ⟨by walk_at "sz", fun t H3 n3 s3 e3 => ?_⟩
        obtain ⟨m1, m2⟩ := mkT (by omega) t H3 n3 s3 e3
        walk_at "w"
        exact w_append (s3 _ _ ea) (size_of (by omega)) fun H4 b4 e4 => fin t _ H3 s3 m1 m2 H4 b4 e4
  · rintro σ' H' ⟨sm, v2, acc, rfl, ea, la, hA⟩
    rw [hl, List.take_length] at hA
    walk_at "w"
    exact q _ H' sm (by unfold pdf; rw [if_neg h0, if_neg h1, if_neg h2, if_neg h3]; exact .lst (SqL.of ea) (eas_dp hA))
def sp_lother (K : PySem.W.Frag) : Sp := fun vs H Q _ => ∃ a d ps, vs = [.ref a, .int d] ∧ PLL H a ps ∧ Sml ps ∧ ∀ l H2, Same H H2 → PLL H2 l (oth2 ps d) → Q (.ref l) H2
theorem sc__law_other_pairs : FnScope ["pairs", "digit", "halves", "k", "pair"] ["pairs", "digit"] (defScope (top 53)) := ⟨rfl, rfl, rfl, by decide +kernel, rfl, by decide +kernel, by decide +kernel⟩
theorem d__law_other_pairs {P : Program} {w : World} {K : PySem.W.Frag} {mg : Str → Option Value} {base : Heap} (T : Tx K mg) : Def P w K mg base "_law_other_pairs" 1 ["pairs", "digit"] (sp_lother K) := by
  refine Def.of T.at__law_other_pairs sc__law_other_pairs (fun _ _ _ _ _ _ us hl => match us, hl with | [_, _], _ => rfl) (fun vs H Q E h => by (obtain ⟨_, _, _, rfl, _⟩ := h; rfl)) (fun f cdv A outer s H vs Q E hr h => ?_)
  refine ⟨_, PSs.nox (pss_cut (ps_if (PW.pt (pw_and (pt_cmpR (op_eqA hr.units) (pv 1) pe_int (nomark _)) (pw_and1 (pt_cmpR op_le (pe_op op_mulW pe_int (pe_callB call_lenA (by rfl) T.n_len (by decide +kernel) (pa_cons (pv 0) pa_nil))) pe_int (nomark _))))) (pss_cons (ps_setLc (i := 2) (own := [("pair", 4)]) (by rfl) sc__law_other_pairs.nd rfl rfl (sw_true rfl rfl rfl (by decide +kernel)) (pi_seq (pv 0)) (blkOk_by (own := [("pair", 4)]) (N := ["pairs", "digit", "halves", "k", "pair"]) (sc := defScope (top 53)) (by decide +kernel)) (fun _ _ _ _ _ => (pg_name (i := 4) sc__law_other_pairs.nd rfl (Or.inl rfl))) (fun _ _ _ _ _ => pts_nil) (fun _ _ _ _ _ => (pe_lstA (pa_cons (pe_ix (ix_seqK (K := K) (by rfl)) (pv 4) pe_int (fun _ _ => rfl)) (pa_cons (pe_op op_fdivG (pe_ix (ix_seqK (K := K) (by rfl)) (pv 4) pe_int (fun _ _ => rfl)) pe_int) pa_nil)))))
      (pss_one (ps_ret (pe_op op_addA (pv 2) (pe_lc (own := [("pair", 4)]) (by rfl) sc__law_other_pairs.nd (pi_seq (pv 0)) (blkOk_by (own := [("pair", 4)]) (N := ["pairs", "digit", "halves", "k", "pair"]) (sc := defScope (top 53)) (by decide +kernel)) (fun _ _ _ _ _ => (pg_name (i := 4) sc__law_other_pairs.nd rfl (Or.inl rfl))) (fun _ _ _ _ _ => pts_nil) (fun _ _ _ _ _ => (pe_lstA (pa_cons (pe_ix (ix_seqK (K := K) (by rfl)) (pv 4) pe_int (fun _ _ => rfl)) (pa_cons (pe_op op_sub (pe_ix (ix_seqK (K := K) (by rfl)) (pv 4) pe_int (fun _ _ => rfl)) (pe_op op_fdivG (pe_ix (ix_seqK (K := K) (by rfl)) (pv 4) pe_int (fun _ _ => rfl)) pe_int)) pa_nil))))))))) pss_nil)
      (pss_cut (ps_if (PW.pt (pw_and (pt_cmpR (op_eqA hr.units) (pv 1) pe_int (nomark _)) (pw_and1 (pt_cmpR op_le (pe_op op_addA (pe_callB call_lenA (by rfl) T.n_len (by decide +kernel) (pa_cons (pv 0) pa_nil)) pe_int) pe_int (nomark _))))) (pss_one (ps_ret (pe_op op_addA (pe_op op_addA (pe_lstA (pa_cons (pe_lstA (pa_cons pe_int (pa_cons pe_int pa_nil))) pa_nil)) (pv 0)) (pe_lstA (pa_cons (pe_lstA (pa_cons (pe_un un_neg pe_int) (pa_cons pe_int pa_nil))) pa_nil))))) pss_nil)
      (pss_one (ps_ret (pe_lc (own := [("k", 3)]) (by rfl) sc__law_other_pairs.nd (pi_range1 (by rfl) T.n_range (pa_cons (pe_callB call_lenA (by rfl) T.n_len (by decide +kernel) (pa_cons (pv 0) pa_nil)) pa_nil)) (blkOk_by (own := [("k", 3)]) (N := ["pairs", "digit", "halves", "k", "pair"]) (sc := defScope (top 53)) (by decide +kernel)) (fun _ _ _ _ _ => (pg_name (i := 3) sc__law_other_pairs.nd rfl (Or.inl rfl))) (fun _ _ _ _ _ => pts_nil) (fun _ _ _ _ _ => (pe_ix (ix_seqK (K := K) (by rfl)) (pv 0) (pe_op op_sub (pe_op op_sub (pe_callB (call_lenAK (K := K) (by rfl)) (by rfl) T.n_len (by decide +kernel) (pa_cons (pv 0) pa_nil)) pe_int) (pv 3)) (fun _ _ => rfl)))))))), ?_⟩
  obtain ⟨a, d, ps, rfl, hP, hz, q⟩ := h
  have hl0 := hz.1
  have hv : PV K H (.ref a) ps := hP.pv
  have hz' : ps.length < 16777216 := by omega
  obtain ⟨vs, ea, hp⟩ := id hP
  have hl := paired_len hp
  have hq : Sq K H a vs := .inl (SqL.of ea)
  walk_at "w0"
  walk_at "w"
  refine w_cut (fun σ' H' => H = H' ∧ σ' = [some (.ref a), some (.int d), none, none, none] ∧ ¬ (d = 0 ∧ 2 * ps.length ≤ 40)) ?_ ?_
  · walk_at "w"
    have hm2 : CMulW 2 (vs.length : Int) := small_mul (by omega) (by decide)
    refine iteD (fun h0 => ?_) (fun h0 => ?_)
    · walk_at "w"
      refine iteD (fun h1 => ?_) (fun h1 => ?_)
      · walk_at "w"
        refine w_lc ?_
        walk_at "w"
        refine lc_lists (fun p => (p.1, p.2.fdiv 2)) hv hz' (fun p b H1 Y hp s1 hb hY => ?_) fun l H2 n2 s2 hL => ?_
        · walk_at "w"
          refine w_ix hb (i := 0) rfl ?_
          walk_at "w"
          refine w_ix hb (i := 1) rfl ?_
          have cd : CDivG p.2 2 := small_div (by decide) (by decide)
          walk_at "w"
          exact ⟨by walk_at "sz", hY⟩
        · walk_at "w"
          refine w_lc ?_
          walk_at "w"
          refine lc_lists (fun p => (p.1, p.2 - p.2.fdiv 2)) (Same.pv s2 hv) hz' (fun p b H1 Y hp s1 hb hY => ?_) fun l' H3 n3 s3 hL' => ?_
          · walk_at "w"
            refine w_ix hb (i := 0) rfl ?_
            walk_at "w"
            refine w_ix hb (i := 1) rfl ?_
            walk_at "w"
            refine w_ix hb (i := 1) rfl ?_
            have cd : CDivG p.2 2 := small_div (by decide) (by decide)
            walk_at "w"
            exact ⟨by walk_at "sz", hY⟩
          · obtain ⟨u1, g1, g2⟩ := Same.pll s3 hL
            obtain ⟨u2, g3, g4⟩ := hL'
            have k1 := paired_len g2
            have k2 := paired_len g4
            rw [List.length_map] at k1 k2
            refine w_addL g1 g3 (size_le (by omega)) fun l3 H4 n4 s4 e4 => ?_
            refine q l3 H4 ((s2.trans s3).trans s4) ?_
            have : oth2 ps d = ps.map (fun p => (p.1, p.2.fdiv 2)) ++ ps.map (fun p => (p.1, p.2 - p.2.fdiv 2)) := if_pos ⟨h0, by omega⟩
            rw [this]
            exact ⟨_, e4, paired_app (Same.els s4 g2) (Same.els s4 g4)⟩
      · walk_at "w"
        exact ⟨rfl, rfl, fun z => h1 (by omega)⟩
    · walk_at "w"
      exact ⟨rfl, rfl, fun z => h0 z.1⟩
  · rintro σ' H' ⟨rfl, rfl, hn0⟩
    refine w_cut (fun σ' H' => H = H' ∧ σ' = [some (.ref a), some (.int d), none, none, none] ∧ ¬ (d = 1 ∧ ps.length + 2 ≤ 40)) ?_ ?_
    · walk_at "w"
      refine iteD (fun h0 => ?_) (fun h0 => ?_)
      · walk_at "w"
        refine iteD (fun h1 => ?_) (fun h1 => ?_)
        · walk_at "w"
          refine ⟨by walk_at "sz", fun t1 H1 n1 s1 e1 => ?_⟩
          walk_at "w"
          refine ⟨by walk_at "sz", fun t2 H2 n2 s2 e2 => ?_⟩
          walk_at "w"
          have ea2 : H2 a = some (.lst vs) := s2 _ _ (s1 _ _ ea)
          refine w_addL e2 ea2 (size_le (by show 1 + vs.length ≤ _; omega)) fun t3 H3 n3 s3 e3 => ?_
          walk_at "w"
          refine ⟨by walk_at "sz", fun t4 H4 n4 s4 e4 => ?_⟩
          walk_at "w"
          refine ⟨by walk_at "sz", fun t5 H5 n5 s5 e5 => ?_⟩
          refine w_addL (s5 _ _ (s4 _ _ e3)) e5 (size_le (by rw [List.length_append]; show 1 + vs.length + 1 ≤ _; omega)) fun t6 H6 n6 s6 e6 => ?_
          have s26 : Same H2 H6 := ((s3.trans s4).trans s5).trans s6
          have s46 : Same H4 H6 := s5.trans s6
          refine q t6 H6 ((s1.trans s2).trans s26) ?_
          have : oth2 ps d = [(20, 0)] ++ ps ++ [(-20, 0)] := by
            unfold oth2
            rw [if_neg hn0, if_pos ⟨h0, by omega⟩]
          rw [this]
          exact ⟨_, e6, paired_app (paired_app (.cons ⟨t1, rfl, s26 _ _ (s2 _ _ e1)⟩ .nil) (Same.els ((s1.trans s2).trans s26) hp)) (.cons ⟨t4, rfl, s46 _ _ e4⟩ .nil)⟩
        · walk_at "w"
          exact ⟨rfl, rfl, fun z => h1 (by omega)⟩
      · walk_at "w"
        exact ⟨rfl, rfl, fun z => h0 z.1⟩
    · rintro σ' H' ⟨rfl, rfl, hn1⟩
      walk_at "w"
      refine lc_rng (n := ps.length) (fun D i acc H => Paired (ELd D H) acc (ps.reverse.take i)) (fun D i acc H H2 _ b h => paired_imp (fun v p ⟨a, e, n, h⟩ => ⟨a, e, n, by rw [b a n]; exact h⟩) h) (size_of (by omega)) (fun D _ => .nil) (fun R hR => ?_) ?_ ?_
      · walk_at "w"
        refine ⟨_, rfl, by omega, by omega, ?_⟩
        rw [hl, Int.toNat_natCast]
        exact hR
      · rintro D i acc H1 Y Z hD hA hi s1 hP1 hY hZ
        have hj : ps.length - 1 - i < ps.length := by omega
        obtain ⟨x, hx, b, rfl, hb⟩ := paired_bt hp (List.getElem?_eq_getElem hj)
        have hq1 : Sq K H1 a vs := Same.sq s1 hq
        walk_at "g"
        refine ⟨rfl, w_yes ?_⟩
        walk_at "w"
        refine w_ix hq1 (v := .ref b) (by rw [show ((vs.length : Int) - 1 - (i : Int)) = ((ps.length - 1 - i : Nat) : Int) by omega]; exact atI_nat hx) ?_
        refine hY _ _ (Same.refl _) ?_
        have et : ps.reverse[i]? = some ps[ps.length - 1 - i] := by
          rw [List.getElem?_reverse hi]
          exact List.getElem?_eq_getElem hj
        rw [List.take_add_one, et]
        exact paired_snoc ⟨b, rfl, fun z => (by rw [z, hD] at hb; cases hb), s1 _ _ hb⟩ hP1
      · rintro l H2 acc n2 s2 e2 _ hP2
        rw [← List.length_reverse, List.take_length] at hP2
        refine q l H2 s2 ?_
        have : oth2 ps d = ps.reverse := by
          unfold oth2
          rw [if_neg hn0, if_neg hn1]
        rw [this]
        exact ⟨acc, e2, paired_imp (fun _ _ => ELd.el) hP2⟩
end JP
set_option Elab.async false
set_option linter.all false
set_option maxRecDepth 100000
set_option maxHeartbeats 4000000
namespace JP
open PySem PySem.Spec PyProof.Rows L2 L2H
local macro_rules | `(tactic| walk_at "w1") => `(tactic| first
  | with_reducible refine w_seq ?_
  | with_reducible refine w_asg ?_
  | with_reducible refine w_name ?_
  | with_reducible refine w_op ?_
  | ((with_reducible refine w_var ?v ?h ?q); (case h => exact rfl))
  | with_reducible refine w_c ?_
  | with_reducible refine w_ret ?_
  | with_reducible refine w_if ?_
  | with_reducible refine w_drop ?_
  | with_reducible refine w_next ?_
  | with_reducible refine w_un ?_
  | with_reducible refine w_p18 ?_
  | with_reducible refine w_p30 ?_
  | with_reducible refine w_p6 ?_
  | with_reducible refine w_p9 ?_
  | with_reducible refine w_p12 ?_
  | with_reducible refine w_p15 ?_
  | with_reducible refine w_p24 ?_
  | with_reducible refine w_slice ?_
  | with_reducible refine w_part ?_
  | with_reducible refine w_nopart ?_
  | with_reducible refine w_ei ?_
  | with_reducible refine w_for ?_
  | with_reducible refine w_rng1 ?_
  | with_reducible refine w_rng2 ?_
  | with_reducible refine w_iseq ?_
  | ((with_reducible refine w_I ?c ?q); (case c => walk_at "side"))
  | ((with_reducible refine w_len ?xs ?h ?q); (case h => walk_at "tr"))
  | with_reducible refine w_cb ?_
  | with_reducible refine w_cons ?_
  | with_reducible refine w_nil ?_
  | with_reducible refine w_test ?_
  | with_reducible refine w_B ?_
  | with_reducible refine w_bl ?_
  | with_reducible refine w_and ?_
  | with_reducible refine w_or ?_
  | with_reducible refine w_not ?_
  | with_reducible refine w_andV ?_
  | with_reducible refine w_orV ?_
  | with_reducible refine w_notV ?_
  | with_reducible refine w_ifE ?_
  | with_reducible refine w_call ?_
  | with_reducible refine w_bm ?_
  | ((with_reducible refine w_tyl ?xs ?h ?q); (case h => assumption))
  | with_reducible refine w_bm0 ?_
  | with_reducible refine w_bits ?_
  | with_reducible refine w_tup ?_
  | with_reducible refine w_lst ?_
  | with_reducible refine w_I0 ?_
  | with_reducible refine w_U ?_
  | with_reducible refine w_add ?_
  | with_reducible refine w_eqI ?_
  | with_reducible refine w_neI ?_
  | with_reducible refine w_eqS ?_
  | with_reducible refine w_neS ?_
  | with_reducible refine w_int ?_
  | with_reducible refine w_abs ?_
  | with_reducible refine w_gcd ?_
  | walk_at "w2")
local macro_rules | `(tactic| walk_at "w2") => `(tactic| fail)
local macro_rules | `(tactic| walk_at "rd") => `(tactic| first | with_reducible assumption | ((with_reducible refine Rd.of ?_); walk_at "tr"))
local macro_rules | `(tactic| walk_at "w") => `(tactic| repeat (walk_at "w1"))
local macro_rules | `(tactic| walk_at "w0") => `(tactic| simp only [cxOf_K, L2.start, List.map_cons, List.map_nil, List.length_cons, List.length_nil, Nat.reduceAdd, Nat.reduceSub, List.replicate_succ, List.replicate_zero, List.cons_append, List.nil_append])
local macro_rules | `(tactic| walk_at "side") => `(tactic| first | assumption | (exact small_div (by omega) (by omega)) | (exact small_mul (by omega) (by omega)) | (exact med_mul (by omega) (by omega)) | (exact big_mul (by omega) (by omega)) | (exact ⟨by decide, by decide, by decide⟩) | (show (0 : Int) < _; omega))
local macro_rules | `(tactic| walk_at "ch") => `(tactic| first
  | with_reducible assumption
  | with_reducible exact Same.refl _
  | ((with_reducible refine tr_at ?H ?e ?h); (case e => with_reducible assumption); (case h => walk_at "ch"))
  | ((with_reducible refine tr_st ?H ?e ?h); (case e => with_reducible assumption); (case h => walk_at "ch"))
  | ((with_reducible refine tr_sl ?H ?e ?h); (case e => with_reducible assumption); (case h => walk_at "ch"))
  | ((with_reducible refine tr_same ?H ?e ?h); (case e => with_reducible assumption); (case h => walk_at "ch"))
  | ((with_reducible refine tr_sq ?H ?e ?h); (case e => with_reducible assumption); (case h => walk_at "ch"))
  | ((with_reducible refine tr_dp ?H ?e ?h); (case e => with_reducible assumption); (case h => walk_at "ch"))
  | walk_at "tr2")
local macro_rules | `(tactic| walk_at "tr") => `(tactic| first
  | walk_at "ch"
  | ((with_reducible refine tr_eq ?u ?h ?e); (case h => walk_at "ch"); (case e => rfl))
  | ((with_reducible refine tr_eqt ?u ?h ?e); (case h => walk_at "ch"); (case e => rfl))
  | ((with_reducible refine tr_eql ?u ?h ?e); (case h => walk_at "ch"); (case e => rfl))
  | ((with_reducible refine SqT.of ?_); first | walk_at "ch" | ((with_reducible refine tr_eq ?u ?h ?e); (case h => walk_at "ch"); (case e => rfl)))
  | ((with_reducible refine SqL.of ?_); first | walk_at "ch" | ((with_reducible refine tr_eq ?u ?h ?e); (case h => walk_at "ch"); (case e => rfl)))
  | ((with_reducible refine sq_l ?_); walk_at "tr")
  | ((with_reducible refine sq_t ?_); walk_at "tr"))
local macro_rules | `(tactic| walk_at "tr2") => `(tactic| fail)
local macro_rules | `(tactic| walk_at "sz") => `(tactic| (simp only [List.length_cons, List.length_nil, List.length_append, List.length_map]; decide))
local macro_rules | `(tactic| walk_at "g") => `(tactic| repeat (first
  | (with_reducible refine g_cons ?_)
  | (with_reducible refine g_nil ?_)
  | (with_reducible refine w_name ?_)))
local macro_rules | `(tactic| walk_at "w2") => `(tactic| first
  | with_reducible refine w_dnew ?_
  | with_reducible refine w_dget ?_
  | with_reducible refine w_dget2 ?_
  | with_reducible refine w_dput ?_
  | ((with_reducible refine w_isd ?kvs ?h ?q); (case h => walk_at "rd"))
  | ((with_reducible refine w_dtal ?ks ?f ?t ?h ?q); (case t => assumption); (case h => walk_at "tr"); (intro o eo; rw [eo]; clear eo))
  | ((with_reducible refine w_listD ?kvs ?h ?q); (case h => walk_at "rd"))
  | ((with_reducible refine w_lenD ?kvs ?h ?q); (case h => walk_at "tr"))
  | ((with_reducible refine w_sortD ?ks ?f ?h ?q); (case h => walk_at "tr")))
local macro_rules | `(tactic| walk_at "tr2") => `(tactic| first
  | ((with_reducible refine tr_pv ?H ?e ?h); (case e => with_reducible assumption); (case h => walk_at "ch"))
  | ((with_reducible refine tr_pt ?H ?e ?h); (case e => with_reducible assumption); (case h => walk_at "ch"))
  | ((with_reducible refine tr_pll ?H ?e ?h); (case e => with_reducible assumption); (case h => walk_at "ch")))
def szs1 : List Int := [12, 41, 41, 8, 12, 4, 5, 9, 5, 3] ++ (List.replicate 40 [41, 12, 100000, 100000]).flatten
theorem szs1_len : szs1.length = 170 := by decide +kernel
theorem szs1_at : ∀ k < 40, ∀ j < 4, szs1[10 + 4 * k + j]? = some (([41, 12, 100000, 100000] : List Int).getD j 0) := by decide +kernel
theorem szs1_pos : ∀ z ∈ szs1, 0 < z ∧ z < 1073741824 := by decide +kernel
theorem dig_at {zs ds : List Int} (h : Dig zs ds) {i : Nat} {z : Int} (hz : zs[i]? = some z) : ∃ d, ds[i]? = some d ∧ 0 ≤ d ∧ d < z := by
  have hl : i < ds.length := by rw [h.1]; exact (List.getElem?_eq_some_iff.mp hz).1
  exact ⟨ds[i], List.getElem?_eq_getElem hl, h.2 i z _ hz (List.getElem?_eq_getElem hl)⟩
def sp_ldrawn (K : PySem.W.Frag) : Sp := fun vs H Q _ => ∃ p ds, vs = [.ref p] ∧ SqL K H p (ds.map V.int) ∧ Dig szs1 ds ∧ ∀ l H2 ps, Same H H2 → PLL H2 l ps → Sml ps → Q (.ref l) H2
theorem take_sml {ps : List Pr} (h : Sml ps) (n : Nat) : ∀ p ∈ ps.take n, p.2.natAbs ≤ 1000000000 := fun p hp => h.2 p (List.mem_of_mem_take hp)
theorem sc__law_drawn : FnScope ["row", "menu", "many", "wide", "pairs", "k", "digits", "shift", "factor", "pair"] ["row"] (defScope (top 51)) := ⟨rfl, rfl, rfl, by decide +kernel, rfl, by decide +kernel, by decide +kernel⟩
theorem d__law_drawn {P : Program} {w : World} {K : PySem.W.Frag} {mg : Str → Option Value} {base : Heap} (T : Tx K mg) : Def P w K mg base "_law_drawn" 2 ["row"] (sp_ldrawn K) := by
  refine Def.of T.at__law_drawn sc__law_drawn (fun _ _ _ _ _ _ us hl => match us, hl with | [_], _ => rfl) (fun vs H Q E h => by (obtain ⟨_, _, rfl, _⟩ := h; rfl)) (fun f cdv A outer s H vs Q E hr h => ?_)
  refine ⟨_, PSs.nox (pss_cons (ps_set (i := 1) sc__law_drawn.nd rfl (Or.inl rfl) (pe_lstA (pa_cons (pe_ix ix_seq (pv 0) pe_int (fun _ _ => rfl)) (pa_cons pe_int (pa_cons (pe_op op_mod (pe_callTy call_intA (by rfl) T.n_int (by decide +kernel) (pa_cons (pe_ix ix_seq (pv 0) pe_int (fun _ _ => rfl)) pa_nil)) pe_int) (pa_cons (pe_op op_addA pe_int (pe_op op_mod (pe_callTy call_intA (by rfl) T.n_int (by decide +kernel) (pa_cons (pe_ix ix_seq (pv 0) pe_int (fun _ _ => rfl)) pa_nil)) pe_int)) (pa_cons (pe_op op_mod (pe_callTy call_intA (by rfl) T.n_int (by decide +kernel) (pa_cons (pe_ix ix_seq (pv 0) pe_int (fun _ _ => rfl)) pa_nil)) pe_int) pa_nil)))))))
      (pss_cons (ps_set (i := 2) sc__law_drawn.nd rfl (Or.inl rfl) (pe_ix ix_seq (pv 1) (pe_ix ix_seq (pe_lstA (pa_cons pe_int (pa_cons pe_int (pa_cons pe_int (pa_cons pe_int (pa_cons pe_int (pa_cons pe_int (pa_cons pe_int (pa_cons pe_int (pa_cons pe_int (pa_cons pe_int (pa_cons pe_int (pa_cons pe_int pa_nil))))))))))))) (pe_ix ix_seq (pv 0) pe_int (fun _ _ => rfl)) (fun _ _ => rfl)) (fun _ _ => rfl)))
      (pss_cons (ps_set (i := 3) sc__law_drawn.nd rfl (Or.inl rfl) (pe_ix ix_seq (pe_lstA (pa_cons pe_int (pa_cons pe_int (pa_cons pe_int (pa_cons pe_int (pa_cons pe_int (pa_cons pe_int (pa_cons pe_int (pa_cons pe_int pa_nil))))))))) (pe_ix ix_seq (pv 0) pe_int (fun _ _ => rfl)) (fun _ _ => rfl)))
      (pss_cons (ps_set (i := 4) sc__law_drawn.nd rfl (Or.inl rfl) (pe_lstA pa_nil))
      (pss_cons (ps_for PassesOwn.never rfl (pi_range1 (by rfl) T.n_range (pa_cons (pv 2) pa_nil)) (pg_name (i := 5) sc__law_drawn.nd rfl (Or.inl rfl)) (pss_cons (ps_set (i := 6) sc__law_drawn.nd rfl (Or.inl rfl) (pe_slice sl_listA (pv 0) (po_some (pe_op op_addA pe_int (pe_op op_mulW pe_int (pv 5)))) (po_some (pe_op op_addA pe_int (pe_op op_mulW pe_int (pv 5))))))
      (pss_cons (ps_set (i := 7) sc__law_drawn.nd rfl (Or.inl rfl) (pe_op op_sub (pe_op op_mod (pe_callTy call_intA (by rfl) T.n_int (by decide +kernel) (pa_cons (pe_op op_addA (pe_ix ix_seq (pv 0) pe_int (fun _ _ => rfl)) (pe_op op_mod (pe_callTy call_intA (by rfl) T.n_int (by decide +kernel) (pa_cons (pe_ix ix_seq (pv 6) pe_int (fun _ _ => rfl)) pa_nil)) (pv 3))) pa_nil)) pe_int) pe_int))
      (pss_one (ps_expr (pe_bm PySem.F.plainAttrs_list PySem.F.slot_list_append PySem.F.type_list_append mt_appendA (pv 4) (pa_cons (pe_lstA (pa_cons (pv 7) (pa_cons (pe_def (d__law_coefficient T) (hr.mono (by decide)) (by rfl) (pa_cons (pe_ix ix_seq (pv 6) pe_int (fun _ _ => rfl)) (pa_cons (pe_ix ix_seq (pv 6) pe_int (fun _ _ => rfl)) (pa_cons (pe_ix ix_seq (pv 6) pe_int (fun _ _ => rfl)) pa_nil)))) pa_nil))) pa_nil)))))))
      (pss_cons (ps_set (i := 8) sc__law_drawn.nd rfl (Or.inr rfl) (pe_ix ix_seq (pe_lstA (pa_cons pe_int (pa_cons (pe_un un_neg pe_int) (pa_cons pe_int (pa_cons pe_int pa_nil))))) (pe_ix ix_seq (pv 0) pe_int (fun _ _ => rfl)) (fun _ _ => rfl)))
      (pss_cut (ps_if (PW.pt (pw_and (pt_cmpR (op_eqA hr.units) (pe_ix ix_seq (pv 0) pe_int (fun _ _ => rfl)) pe_int (nomark _)) (pw_and1 (pt_cmpR op_le (pe_op op_mulW pe_int (pv 2)) pe_int (nomark _))))) (pss_one (ps_ret (pe_op op_addA (pv 4) (pe_lc (own := [("pair", 9)]) (by rfl) sc__law_drawn.nd (pi_seq (pv 4)) (blkOk_by (own := [("pair", 9)]) (N := ["row", "menu", "many", "wide", "pairs", "k", "digits", "shift", "factor", "pair"]) (sc := defScope (top 51)) (by decide +kernel)) (fun _ _ _ _ _ => (pg_name (i := 9) sc__law_drawn.nd rfl (Or.inl rfl))) (fun _ _ _ _ _ => pts_nil) (fun _ _ _ _ _ => (pe_lstA (pa_cons (pe_ix (ix_seqK (K := K) (by rfl)) (pv 9) pe_int (fun _ _ => rfl)) (pa_cons (pe_un un_neg (pe_ix (ix_seqK (K := K) (by rfl)) (pv 9) pe_int (fun _ _ => rfl))) pa_nil)))))))) pss_nil)
      (pss_cut (ps_if (PW.pt (pw_and (pt_cmpR (op_eqA hr.units) (pe_ix ix_seq (pv 0) pe_int (fun _ _ => rfl)) pe_int (nomark _)) (pw_and1 (pt_cmpR op_le (pe_op op_mulW pe_int (pv 2)) pe_int (nomark _))))) (pss_one (ps_ret (pe_op op_addA (pe_lc (own := [("pair", 9)]) (by rfl) sc__law_drawn.nd (pi_seq (pe_slice sl_listA (pv 4) po_none (po_some (pe_op op_fdivG (pv 2) pe_int)))) (blkOk_by (own := [("pair", 9)]) (N := ["row", "menu", "many", "wide", "pairs", "k", "digits", "shift", "factor", "pair"]) (sc := defScope (top 51)) (by decide +kernel)) (fun _ _ _ _ _ => (pg_name (i := 9) sc__law_drawn.nd rfl (Or.inl rfl))) (fun _ _ _ _ _ => pts_nil) (fun _ _ _ _ _ => (pe_lstA (pa_cons (pe_ix (ix_seqK (K := K) (by rfl)) (pv 9) pe_int (fun _ _ => rfl)) (pa_cons (pe_un un_neg (pe_ix (ix_seqK (K := K) (by rfl)) (pv 9) pe_int (fun _ _ => rfl))) pa_nil))))) (pv 4)))) pss_nil)
      (pss_cut (ps_if (PW.pt (pw_and (pt_cmpR (op_eqA hr.units) (pe_ix ix_seq (pv 0) pe_int (fun _ _ => rfl)) pe_int (nomark _)) (pw_and1 (pt_cmpR op_le (pe_callB (cr_maxA (by rfl)) (by rfl) T.n_max (by decide +kernel) (pa_cons (pe_op op_addA (pe_lstA (pa_cons pe_int pa_nil)) (pe_lc (own := [("pair", 9)]) (by rfl) sc__law_drawn.nd (pi_seq (pv 4)) (blkOk_by (own := [("pair", 9)]) (N := ["row", "menu", "many", "wide", "pairs", "k", "digits", "shift", "factor", "pair"]) (sc := defScope (top 51)) (by decide +kernel)) (fun _ _ _ _ _ => (pg_name (i := 9) sc__law_drawn.nd rfl (Or.inl rfl))) (fun _ _ _ _ _ => pts_nil) (fun _ _ _ _ _ => (pe_callB call_absA (by rfl) T.n_abs (by decide +kernel) (pa_cons (pe_op op_mulW (pe_ix (ix_seqK (K := K) (by rfl)) (pv 9) pe_int (fun _ _ => rfl)) (pv 8)) pa_nil))))) pa_nil)) (pe_op op_pow pe_int pe_int) (nomark _))))) (pss_one (ps_ret (pe_lc (own := [("pair", 9)]) (by rfl) sc__law_drawn.nd (pi_seq (pv 4)) (blkOk_by (own := [("pair", 9)]) (N := ["row", "menu", "many", "wide", "pairs", "k", "digits", "shift", "factor", "pair"]) (sc := defScope (top 51)) (by decide +kernel)) (fun _ _ _ _ _ => (pg_name (i := 9) sc__law_drawn.nd rfl (Or.inl rfl))) (fun _ _ _ _ _ => pts_nil) (fun _ _ _ _ _ => (pe_lstA (pa_cons (pe_ix (ix_seqK (K := K) (by rfl)) (pv 9) pe_int (fun _ _ => rfl)) (pa_cons (pe_op op_mulW (pe_ix (ix_seqK (K := K) (by rfl)) (pv 9) pe_int (fun _ _ => rfl)) (pv 8)) pa_nil))))))) pss_nil)
      (pss_one (ps_ret (pv 4)))))))))))), ?_⟩
  obtain ⟨p, ds, rfl, hs, hd, q⟩ := h
  have hq : Sq K H p (ds.map V.int) := .inl hs
  have hdl : ds.length = 170 := hd.1.trans szs1_len
  obtain ⟨r0, g0, b00, b01⟩ := dig_at hd (i := 0) (z := 12) rfl
  obtain ⟨r1, g1, b10, b11⟩ := dig_at hd (i := 1) (z := 41) rfl
  obtain ⟨r2, g2, b20, b21⟩ := dig_at hd (i := 2) (z := 41) rfl
  obtain ⟨r3, g3, b30, b31⟩ := dig_at hd (i := 3) (z := 8) rfl
  obtain ⟨r4, g4, b40, b41⟩ := dig_at hd (i := 4) (z := 12) rfl
  obtain ⟨r5, g5, b50, b51⟩ := dig_at hd (i := 5) (z := 4) rfl
  have a0 := atI_nat (map_get g0)
  have a1 := atI_nat (map_get g1)
  have a2 := atI_nat (map_get g2)
  have a3 := atI_nat (map_get g3)
  have a4 := atI_nat (map_get g4)
  have a5 := atI_nat (map_get g5)
  walk_at "w0"
  walk_at "w"
  refine w_ix hq (i := 1) a1 ?_
  walk_at "w"
  refine w_ix hq (i := 1) a1 ?_
  walk_at "w"
  refine w_ix hq (i := 1) a1 ?_
  walk_at "w"
  refine w_ix hq (i := 1) a1 ?_
  walk_at "w"
  refine ⟨by walk_at "sz", fun t1 H1 n1 s1 e1 => ?_⟩
  walk_at "w"
  refine ⟨by walk_at "sz", fun t2 H2 n2 s2 e2 => ?_⟩
  have s02 : Same H H2 := s1.trans s2
  walk_at "w"
  refine w_ix (Same.sq s02 hq) (i := 0) a0 ?_
  obtain ⟨c, _, hc, ha⟩ := ix_ints [0, 1, 2, 2, 3, 3, 3, 3, 3, 3, 3, 4] (i := r0) b00 b01
  refine w_ix (.inl (SqL.of e2)) ha ?_
  have hc5 : 0 ≤ c ∧ c < 5 := by
    simp only [List.mem_cons, List.not_mem_nil, or_false] at hc
    omega
  obtain ⟨m, _, hm, ha2⟩ := ix_ints [r1, 40, r1 % 13, 2 + r1 % 6, r1 % 3] (i := c) hc5.1 hc5.2
  have hm40 : 0 ≤ m ∧ m ≤ 40 := by
    simp only [List.mem_cons, List.not_mem_nil, or_false] at hm
    omega
  refine w_ix (.inl (SqL.of (s2 _ _ e1))) ha2 ?_
  walk_at "w"
  refine ⟨by walk_at "sz", fun t3 H3 n3 s3 e3 => ?_⟩
  have s03 : Same H H3 := s02.trans s3
  walk_at "w"
  refine w_ix (Same.sq s03 hq) (i := 3) a3 ?_
  obtain ⟨wd, _, hwd, ha3⟩ := ix_ints [3, 4, 5, 6, 8, 12, 1, 41] (i := r3) b30 b31
  have hwd0 : 0 < wd ∧ wd ≤ 41 := by
    simp only [List.mem_cons, List.not_mem_nil, or_false] at hwd
    omega
  refine w_ix (.inl (SqL.of e3)) ha3 ?_
  walk_at "w"
  refine ⟨by walk_at "sz", fun l H4 n4 s4 e4 => ?_⟩
  have s04 : Same H H4 := s03.trans s4
  have nl : H l = none := s03.free n4
  walk_at "w"
  refine for_rng1 (n := m.toNat) rfl (by omega) (by omega) (fun i σ' H' => Same H H' ∧ ∃ acc ps v5 v6 v7, σ' = [some (.ref p), some (.ref t1), some (.int m), some (.int wd), some (.ref l), v5, v6, v7, none, none] ∧ H' l = some (.lst acc) ∧ Paired (ELd l H') acc ps ∧ ps.length = i ∧ ∀ t ∈ ps, t.2.natAbs ≤ 1000000000)
    ⟨s04, [], [], none, none, none, rfl, e4, .nil, rfl, fun _ h => (by cases h)⟩ ?_ ?_
  · rintro k σ' H' hk ⟨sm, acc, ps, v5, v6, v7, rfl, ea, hA, hl, hb⟩
    have hk40 : k < 40 := by omega
    obtain ⟨d0, x0, y00, y01⟩ := dig_at hd (szs1_at k hk40 0 (by decide))
    obtain ⟨d1, x1, y10, y11⟩ := dig_at hd (szs1_at k hk40 1 (by decide))
    obtain ⟨d2, x2, y20, y21⟩ := dig_at hd (szs1_at k hk40 2 (by decide))
    obtain ⟨d3, x3, y30, y31⟩ := dig_at hd (szs1_at k hk40 3 (by decide))
    have y21 : d2 < 100000 := y21
    have y31 : d3 < 100000 := y31
    have y01 : d0 < 41 := y01
    have lc : acc.length = ps.length := paired_len hA
    walk_at "g"
    have cm : CMulW 4 (k : Int) := small_mul (by omega) (by decide)
    walk_at "w"
    refine w_slq _ (((ds.map V.int).drop (10 + 4 * k)).take 4) (Same.sl sm hs) ?_ fun t4 H5 n5 s5 e5 => ?_
    · rw [show (10 + 4 * (k : Int)) = ((10 + 4 * k : Nat) : Int) by omega, show (14 + 4 * (k : Int)) = ((14 + 4 * k : Nat) : Int) by omega, cutV_at _ _ _ (by omega) (by rw [List.length_map]; omega)]
      rw [show 14 + 4 * k - (10 + 4 * k) = 4 by omega]
    have q4 : Sq K H5 t4 (((ds.map V.int).drop (10 + 4 * k)).take 4) := .inl (SqL.of e5)
    have sm5 := sm.trans s5
    have ea5 : H5 l = some (.lst acc) := s5 _ _ ea
    walk_at "w"
    refine w_ix (Same.sq sm5 hq) (i := 2) a2 ?_
    walk_at "w"
    refine w_ix q4 (i := 0) (part_at (map_get x0) (by decide)) ?_
    have cdm : (0 : Int) < wd := hwd0.1
    walk_at "w"
    refine w_ix q4 (i := 1) (part_at (map_get x1) (by decide)) ?_
    walk_at "w"
    refine w_ix q4 (i := 2) (part_at (map_get x2) (by decide)) ?_
    walk_at "w"
    refine w_ix q4 (i := 3) (part_at (map_get x3) (by decide)) ?_
    walk_at "w"
    refine ⟨_, _, _, rfl, y20, y21, y30, y31, fun cc H6 s6 hcc => ?_⟩
    walk_at "w"
    refine ⟨by walk_at "sz", fun t5 H7 n7 s7 e7 => ?_⟩
    have s57 := (s5.trans s6).trans s7
    have ea7 := s57 _ _ ea
    walk_at "w"
    refine w_append ea7 (size_of (by omega)) fun H8 b8 e8 => ?_
    have nt5 : t5 ≠ l := fun z => (by rw [z, s6 _ _ (s5 _ _ ea)] at n7; cases n7)
    have et5 : H8 t5 = some (.lst [.int ((r2 + d0 % wd) % 41 - 20), .int cc]) := by rw [b8 t5 nt5]; exact e7
    have hbb : ∀ t ∈ ps ++ [((r2 + d0 % wd) % 41 - 20, cc)], t.2.natAbs ≤ 1000000000 := by
      intro t ht
      rcases List.mem_append.mp ht with ht | ht
      · exact hb t ht
      · rw [List.mem_singleton.mp ht]
        exact hcc
    exact ⟨But.same b8 (sm.trans s57) nl, _, ps ++ [((r2 + d0 % wd) % 41 - 20, cc)], _, _, _, rfl, e8, paired_snoc ⟨t5, rfl, nt5, et5⟩ (paired_imp (fun v p ⟨a, e, n, h⟩ => ⟨a, e, n, by rw [b8 a n]; exact s57 _ _ h⟩) hA), by rw [List.length_append, hl]; rfl, hbb⟩
  · rintro σ' H5 ⟨sm, acc, ps, v5, v6, v7, rfl, ea, hA, hl, hb⟩
    have hP : PLL H5 l ps := ⟨acc, ea, paired_imp (fun _ _ => ELd.el) hA⟩
    have hS : Sml ps := ⟨by omega, hb⟩
    have hml : (m : Int) = (ps.length : Int) := by omega
    walk_at "w"
    refine ⟨by walk_at "sz", fun t6 H6 n6 s6 e6 => ?_⟩
    have sm6 := sm.trans s6
    walk_at "w"
    refine w_ix (Same.sq sm6 hq) (i := 5) a5 ?_
    obtain ⟨fc, _, hfc, ha6⟩ := ix_ints [2, -3, 1000, 12] (i := r5) b50 b51
    have hfc0 : fc.natAbs ≤ 1000 := by
      simp only [List.mem_cons, List.not_mem_nil, or_false] at hfc
      omega
    refine w_ix (.inl (SqL.of e6)) ha6 ?_
    walk_at "w"
    have hP6 : PLL H6 l ps := Same.pll s6 hP
    have hv6 : PV K H6 (.ref l) ps := hP6.pv
    have hq6 := Same.sq sm6 hq
    have cm2 : CMulW 2 m := small_mul (by omega) (by decide)
    have hz6 : ps.length < 16777216 := by omega
    clear e6 ha6 hA ea hP
    have cutm : ∀ {ax ay : Addr} {A B : List Pr} {Hx Hy : Hp} {lz : Addr} {xs ys : List V}, Hx ax = some (.lst xs) → Paired (EL Hx) xs A → Hx ay = some (.lst ys) → Paired (EL Hx) ys B → Same Hx Hy → Hy lz = some (.lst (xs ++ ys)) → PLL Hy lz (A ++ B) := fun _ h1 _ h2 s e => ⟨_, e, paired_app (Same.els s h1) (Same.els s h2)⟩
    refine w_cut (fun σ' H' => H6 = H' ∧ σ' = [some (.ref p), some (.ref t1), some (.int m), some (.int wd), some (.ref l), v5, v6, v7, some (.int fc), none]) ?_ ?_
    · walk_at "w"
      refine w_ix hq6 (i := 4) a4 ?_
      walk_at "w"
      refine iteD (fun h0 => ?_) (fun h0 => ?_)
      · walk_at "w"
        refine iteD (fun h1 => ?_) (fun h1 => ?_)
        · walk_at "w"
          refine w_lc ?_
          walk_at "w"
          refine lc_lists (fun p => (p.1, -p.2)) hv6 hz6 (fun p b H1 Y hp s1 hb hY => ?_) fun l2 H7 n7 s7 hL => ?_
          · walk_at "w"
            refine w_ix hb (i := 0) rfl ?_
            walk_at "w"
            refine w_ix hb (i := 1) rfl ?_
            walk_at "w"
            exact ⟨by walk_at "sz", hY⟩
          · obtain ⟨u1, k1, k2⟩ := Same.pll s7 hP6
            obtain ⟨u2, k3, k4⟩ := hL
            have j1 := paired_len k2
            have j2 := paired_len k4
            rw [List.length_map] at j2
            refine w_addL k1 k3 (size_le (by omega)) fun l3 H8 n8 s8 e8 => ?_
            refine q l3 H8 _ ((sm6.trans s7).trans s8) (cutm k1 k2 k3 k4 s8 e8) ⟨by rw [List.length_append, List.length_map]; omega, fun t ht => ?_⟩
            rcases List.mem_append.mp ht with ht | ht
            · exact hb t ht
            · obtain ⟨t', ht', rfl⟩ := List.mem_map.mp ht
              have := hb t' ht'
              show (-t'.2).natAbs ≤ _
              omega
        · walk_at "w"
          exact ⟨rfl, rfl⟩
      · walk_at "w"
        exact ⟨rfl, rfl⟩
    rintro σ' H' ⟨rfl, rfl⟩
    refine w_cut (fun σ' H' => H6 = H' ∧ σ' = [some (.ref p), some (.ref t1), some (.int m), some (.int wd), some (.ref l), v5, v6, v7, some (.int fc), none]) ?_ ?_
    · walk_at "w"
      refine w_ix hq6 (i := 4) a4 ?_
      walk_at "w"
      refine iteD (fun h0 => ?_) (fun h0 => ?_)
      · walk_at "w"
        refine iteD (fun h1 => ?_) (fun h1 => ?_)
        · walk_at "w"
          refine w_lc ?_
          have cd : CDivG m 2 := small_div (by decide) (by decide)
          walk_at "w"
          obtain ⟨u1, k1, k2⟩ := id hP6
          have j1 := paired_len k2
          refine w_slq _ (u1.take (ps.length / 2)) (SqL.of k1) ?_ fun l2 H7 n7 s7 e7 => ?_
          · rw [Int.fdiv_eq_ediv_of_nonneg _ (by decide), show m / 2 = ((ps.length / 2 : Nat) : Int) by omega, cutV_take _ _ (by omega)]
          have hv7 : PV K H7 (.ref l2) (ps.take (ps.length / 2)) := ⟨l2, _, rfl, .inl (SqL.of e7), paired_imp (fun _ _ => EL.ev) (paired_take _ (Same.els s7 k2))⟩
          refine lc_lists (fun p => (p.1, -p.2)) hv7 (by rw [List.length_take]; omega) (fun p b H1 Y hp s1 hb hY => ?_) fun l3 H8 n8 s8 hL => ?_
          · walk_at "w"
            refine w_ix hb (i := 0) rfl ?_
            walk_at "w"
            refine w_ix hb (i := 1) rfl ?_
            walk_at "w"
            exact ⟨by walk_at "sz", hY⟩
          · walk_at "w"
            obtain ⟨u2, k3, k4⟩ := hL
            obtain ⟨u1, k1, k2⟩ := Same.pll (s7.trans s8) hP6
            have j1 := paired_len k2
            have j2 := paired_len k4
            rw [List.length_map, List.length_take] at j2
            refine w_addL k3 k1 (size_le (by omega)) fun l4 H9 n9 s9 e9 => ?_
            refine q l4 H9 _ (((sm6.trans s7).trans s8).trans s9) (cutm k3 k4 k1 k2 s9 e9) ⟨by rw [List.length_append, List.length_map, List.length_take]; omega, fun t ht => ?_⟩
            rcases List.mem_append.mp ht with ht | ht
            · obtain ⟨t', ht', rfl⟩ := List.mem_map.mp ht
              have := take_sml hS _ t' ht'
              show (-t'.2).natAbs ≤ _
              omega
            · exact hb t ht
        · walk_at "w"
          exact ⟨rfl, rfl⟩
      · walk_at "w"
        exact ⟨rfl, rfl⟩
    rintro σ' H' ⟨rfl, rfl⟩
    refine w_cut (fun σ' H' => Same H6 H' ∧ σ' = [some (.ref p), some (.ref t1), some (.int m), some (.int wd), some (.ref l), v5, v6, v7, some (.int fc), none]) ?_ ?_
    · walk_at "w"
      refine w_ix hq6 (i := 4) a4 ?_
      walk_at "w"
      refine iteD (fun h0 => ?_) (fun h0 => ?_)
      · walk_at "w"
        refine ⟨by walk_at "sz", fun t7 H7 n7 s7 e7 => ?_⟩
        walk_at "w"
        refine w_lc ?_
        walk_at "w"
        obtain ⟨b, vs, e, hqv, hpv⟩ := Same.pv s7 hv6
        cases e
        have hlv := paired_len hpv
        refine lc_seq hqv (fun i acc H => acc = (ps.map fun t => V.int ((t.2 * fc).natAbs : Int)).take i) (fun i acc => ⟨fun _ h => h, fun _ _ h => h⟩) (size_of (by omega)) rfl ?_ ?_
        · rintro i x acc H8 Y Z hi s8 hacc hY hZ
          obtain ⟨t, hti, c, rfl, hc⟩ := paired_at hpv hi
          have htS := hb t (List.mem_of_getElem? hti)
          have cmf : CMulW t.2 fc := small_mul (by omega) (by omega)
          walk_at "g"
          refine ⟨rfl, w_yes ?_⟩
          walk_at "w"
          refine w_ix (Same.sq s8 hc) (i := 1) rfl ?_
          walk_at "w"
          refine hY _ _ (Same.refl _) ?_
          rw [map_take_snoc _ ps i t hti, hacc]
        · rintro l8 H8 acc n8 s8 e8 _ hacc
          rw [hlv, ← List.length_map (f := fun t : Pr => V.int ((t.2 * fc).natAbs : Int)), List.take_length] at hacc
          have e7' := s8 _ _ e7
          have j2 : acc.length = ps.length := by rw [hacc, List.length_map]
          refine w_addL e7' e8 (size_le (by show 1 + acc.length ≤ _; omega)) fun l9 H9 n9 s9 e9 => ?_
          have e9 : H9 l9 = some (.lst ((0 :: ps.map fun t => ((t.2 * fc).natAbs : Int)).map V.int)) := by
            rw [e9, hacc, List.map_cons, List.map_map]
            rfl
          walk_at "w"
          refine ⟨l9, _, rfl, SqL.of e9, Nat.succ_pos _, fun mx hmx hmax => ?_⟩
          have s69 := (s7.trans s8).trans s9
          walk_at "w"
          refine iteD (fun h1 => ?_) (fun h1 => ?_)
          · walk_at "w"
            refine w_lc ?_
            walk_at "w"
            refine lc_lists (fun p => (p.1, p.2 * fc)) (Same.pv s69 hv6) hz6 (fun p b H1 Y hp s1 hb1 hY => ?_) fun l2 H10 n10 s10 hL => ?_
            · have htS := hb p hp
              have cmf : CMulW p.2 fc := small_mul (by omega) (by omega)
              walk_at "w"
              refine w_ix hb1 (i := 0) rfl ?_
              walk_at "w"
              refine w_ix hb1 (i := 1) rfl ?_
              walk_at "w"
              exact ⟨by walk_at "sz", hY⟩
            · refine q l2 H10 _ ((sm6.trans s69).trans s10) hL ⟨by rw [List.length_map]; omega, fun t ht => ?_⟩
              obtain ⟨t', ht', rfl⟩ := List.mem_map.mp ht
              have := hmax ((t'.2 * fc).natAbs : Int) (List.mem_cons_of_mem _ (List.mem_map.mpr ⟨t', ht', rfl⟩))
              show (t'.2 * fc).natAbs ≤ _
              omega
          · walk_at "w"
            exact ⟨s69, rfl⟩
      · walk_at "w"
        exact ⟨Same.refl _, rfl⟩
    rintro σ' H' ⟨s7, rfl⟩
    walk_at "w"
    exact q l H' ps (sm6.trans s7) (Same.pll s7 hP6) hS
end JP
set_option Elab.async false
set_option linter.all false
set_option maxRecDepth 100000
set_option maxHeartbeats 4000000
namespace JP
open PySem PySem.Spec PyProof.Rows L2 L2H
local macro_rules | `(tactic| walk_at "w1") => `(tactic| first
  | with_reducible refine w_seq ?_
  | with_reducible refine w_asg ?_
  | with_reducible refine w_name ?_
  | with_reducible refine w_op ?_
  | ((with_reducible refine w_var ?v ?h ?q); (case h => exact rfl))
  | with_reducible refine w_c ?_
  | with_reducible refine w_ret ?_
  | with_reducible refine w_if ?_
  | with_reducible refine w_drop ?_
  | with_reducible refine w_next ?_
  | with_reducible refine w_un ?_
  | with_reducible refine w_p18 ?_
  | with_reducible refine w_p30 ?_
  | with_reducible refine w_p6 ?_
  | with_reducible refine w_p9 ?_
  | with_reducible refine w_p12 ?_
  | with_reducible refine w_p15 ?_
  | with_reducible refine w_p24 ?_
  | with_reducible refine w_slice ?_
  | with_reducible refine w_part ?_
  | with_reducible refine w_nopart ?_
  | with_reducible refine w_ei ?_
  | with_reducible refine w_for ?_
  | with_reducible refine w_rng1 ?_
  | with_reducible refine w_rng2 ?_
  | with_reducible refine w_iseq ?_
  | ((with_reducible refine w_I ?c ?q); (case c => walk_at "side"))
  | ((with_reducible refine w_len ?xs ?h ?q); (case h => walk_at "tr"))
  | with_reducible refine w_cb ?_
  | with_reducible refine w_cons ?_
  | with_reducible refine w_nil ?_
  | with_reducible refine w_test ?_
  | with_reducible refine w_B ?_
  | with_reducible refine w_bl ?_
  | with_reducible refine w_and ?_
  | with_reducible refine w_or ?_
  | with_reducible refine w_not ?_
  | with_reducible refine w_andV ?_
  | with_reducible refine w_orV ?_
  | with_reducible refine w_notV ?_
  | with_reducible refine w_ifE ?_
  | with_reducible refine w_call ?_
  | with_reducible refine w_bm ?_
  | ((with_reducible refine w_tyl ?xs ?h ?q); (case h => assumption))
  | with_reducible refine w_bm0 ?_
  | with_reducible refine w_bits ?_
  | with_reducible refine w_tup ?_
  | with_reducible refine w_lst ?_
  | with_reducible refine w_I0 ?_
  | with_reducible refine w_U ?_
  | with_reducible refine w_add ?_
  | with_reducible refine w_eqI ?_
  | with_reducible refine w_neI ?_
  | with_reducible refine w_eqS ?_
  | with_reducible refine w_neS ?_
  | with_reducible refine w_int ?_
  | with_reducible refine w_abs ?_
  | with_reducible refine w_gcd ?_
  | walk_at "w2")
local macro_rules | `(tactic| walk_at "w2") => `(tactic| fail)
local macro_rules | `(tactic| walk_at "rd") => `(tactic| first | with_reducible assumption | ((with_reducible refine Rd.of ?_); walk_at "tr"))
local macro_rules | `(tactic| walk_at "w") => `(tactic| repeat (walk_at "w1"))
local macro_rules | `(tactic| walk_at "w0") => `(tactic| simp only [cxOf_K, L2.start, List.map_cons, List.map_nil, List.length_cons, List.length_nil, Nat.reduceAdd, Nat.reduceSub, List.replicate_succ, List.replicate_zero, List.cons_append, List.nil_append])
local macro_rules | `(tactic| walk_at "side") => `(tactic| first | assumption | (exact small_div (by omega) (by omega)) | (exact small_mul (by omega) (by omega)) | (exact med_mul (by omega) (by omega)) | (exact big_mul (by omega) (by omega)) | (exact ⟨by decide, by decide, by decide⟩) | (show (0 : Int) < _; omega))
local macro_rules | `(tactic| walk_at "ch") => `(tactic| first
  | with_reducible assumption
  | with_reducible exact Same.refl _
  | ((with_reducible refine tr_at ?H ?e ?h); (case e => with_reducible assumption); (case h => walk_at "ch"))
  | ((with_reducible refine tr_st ?H ?e ?h); (case e => with_reducible assumption); (case h => walk_at "ch"))
  | ((with_reducible refine tr_sl ?H ?e ?h); (case e => with_reducible assumption); (case h => walk_at "ch"))
  | ((with_reducible refine tr_same ?H ?e ?h); (case e => with_reducible assumption); (case h => walk_at "ch"))
  | ((with_reducible refine tr_sq ?H ?e ?h); (case e => with_reducible assumption); (case h => walk_at "ch"))
  | ((with_reducible refine tr_dp ?H ?e ?h); (case e => with_reducible assumption); (case h => walk_at "ch"))
  | walk_at "tr2")
local macro_rules | `(tactic| walk_at "tr") => `(tactic| first
  | walk_at "ch"
  | ((with_reducible refine tr_eq ?u ?h ?e); (case h => walk_at "ch"); (case e => rfl))
  | ((with_reducible refine tr_eqt ?u ?h ?e); (case h => walk_at "ch"); (case e => rfl))
  | ((with_reducible refine tr_eql ?u ?h ?e); (case h => walk_at "ch"); (case e => rfl))
  | ((with_reducible refine SqT.of ?_); first | walk_at "ch" | ((with_reducible refine tr_eq ?u ?h ?e); (case h => walk_at "ch"); (case e => rfl)))
  | ((with_reducible refine SqL.of ?_); first | walk_at "ch" | ((with_reducible refine tr_eq ?u ?h ?e); (case h => walk_at "ch"); (case e => rfl)))
  | ((with_reducible refine sq_l ?_); walk_at "tr")
  | ((with_reducible refine sq_t ?_); walk_at "tr"))
local macro_rules | `(tactic| walk_at "tr2") => `(tactic| fail)
local macro_rules | `(tactic| walk_at "sz") => `(tactic| (simp only [List.length_cons, List.length_nil, List.length_append, List.length_map]; decide))
local macro_rules | `(tactic| walk_at "g") => `(tactic| repeat (first
  | (with_reducible refine g_cons ?_)
  | (with_reducible refine g_nil ?_)
  | (with_reducible refine w_name ?_)))
local macro_rules | `(tactic| walk_at "w2") => `(tactic| first
  | with_reducible refine w_dnew ?_
  | with_reducible refine w_dget ?_
  | with_reducible refine w_dget2 ?_
  | with_reducible refine w_dput ?_
  | ((with_reducible refine w_isd ?kvs ?h ?q); (case h => walk_at "rd"))
  | ((with_reducible refine w_dtal ?ks ?f ?t ?h ?q); (case t => assumption); (case h => walk_at "tr"); (intro o eo; rw [eo]; clear eo))
  | ((with_reducible refine w_listD ?kvs ?h ?q); (case h => walk_at "rd"))
  | ((with_reducible refine w_lenD ?kvs ?h ?q); (case h => walk_at "tr"))
  | ((with_reducible refine w_sortD ?ks ?f ?h ?q); (case h => walk_at "tr")))
local macro_rules | `(tactic| walk_at "tr2") => `(tactic| first
  | ((with_reducible refine tr_pv ?H ?e ?h); (case e => with_reducible assumption); (case h => walk_at "ch"))
  | ((with_reducible refine tr_pt ?H ?e ?h); (case e => with_reducible assumption); (case h => walk_at "ch"))
  | ((with_reducible refine tr_pll ?H ?e ?h); (case e => with_reducible assumption); (case h => walk_at "ch")))
def sp_law (K : PySem.W.Frag) : Sp := fun vs H Q _ => ∃ (a : Addr) (ns : List Int), vs = [.ref a] ∧ SqL K H a (ns.map V.int) ∧ ns.length ≤ 63 ∧ ∀ H', Q (.bl true) H'
def wB : Nat → Nat
  | 0 => 1
  | k + 1 => (wB k + 40000000000) ^ 2
theorem wB_lt : ∀ k < 7, wB k < 2 ^ 3000 := by decide +kernel
theorem szs1_eq : szs1.map V.int = ([12, 41, 41, 8, 12, 4, 5, 9, 5, 3] : List Int).map V.int ++ (List.replicate 40 (([41, 12, 100000, 100000] : List Int).map V.int)).flatten := by rfl
structure Turn (K : PySem.W.Frag) (H : Hp) (k : Nat) (vt : V) (da : Addr) (vl : V) (sa : Addr) (R lp S : List Pr) : Prop where
  told : PT K H vt R
  due : H da = some (.dK (dk R))
  isR : IsP (cf R) R
  lR : R.length ≤ 120
  wR : wt R ≤ wB k
  last : PV K H vl lp
  sml : Sml lp
  same : H sa = some (.dK (dk S))
  isS : IsP (cf lp) S
theorem Turn.wb {K : PySem.W.Frag} {H : Hp} {k : Nat} {vt : V} {da : Addr} {vl : V} {sa : Addr} {R lp S : List Pr} (t : Turn K H k vt da vl sa R lp S) (h : k < 7) : Wb 3000 R := Nat.lt_of_le_of_lt t.wR (wB_lt k h)
theorem Turn.same' {K : PySem.W.Frag} {H H2 : Hp} {k : Nat} {vt : V} {da : Addr} {vl : V} {sa : Addr} {R lp S : List Pr} (t : Turn K H k vt da vl sa R lp S) (e : Same H H2) : Turn K H2 k vt da vl sa R lp S :=
  ⟨Same.pt e t.told, e _ _ t.due, t.isR, t.lR, t.wR, Same.pv e t.last, t.sml, e _ _ t.same, t.isS⟩
/-- what holds within a turn -/
structure Fa (K : PySem.W.Frag) (H : Hp) (k : Nat) (vt : V) (da : Addr) (vl : V) (sa : Addr) (R lp S : List Pr) (vv va : V) (ma pr lr : Addr) (ps M : List Pr) (ds : List Int) (f1 f2 d9 : Int) : Prop where
  T : Turn K H k vt da vl sa R lp S
  mine : H ma = some (.dK (dk M))
  prs : PLL H pr ps
  val : Dp K H vv (pdf f1 ps)
  aga : Dp K H va (pdf f2 (oth2 ps d9))
  row : SqL K H lr (ds.map V.int)
section
variable {K : PySem.W.Frag} {H H2 : Hp} {k : Nat} {vt : V} {da : Addr} {vl : V} {sa : Addr} {R lp S : List Pr} {vv va : V} {ma pr lr : Addr} {ps M : List Pr} {ds : List Int} {f1 f2 d9 : Int}
theorem Fa.same (t : Fa K H k vt da vl sa R lp S vv va ma pr lr ps M ds f1 f2 d9) (e : Same H H2) : Fa K H2 k vt da vl sa R lp S vv va ma pr lr ps M ds f1 f2 d9 :=
  ⟨t.T.same' e, e _ _ t.mine, Same.pll e t.prs, Same.dp e t.val, Same.dp e t.aga, Same.sl e t.row⟩
theorem Fa.vp (t : Fa K H k vt da vl sa R lp S vv va ma pr lr ps M ds f1 f2 d9) : PV K H vv ps := (pdf_pd _ _).pv t.val
theorem Fa.ap (t : Fa K H k vt da vl sa R lp S vv va ma pr lr ps M ds f1 f2 d9) : PV K H va (oth2 ps d9) := (pdf_pd _ _).pv t.aga
theorem Fa.tp (t : Fa K H k vt da vl sa R lp S vv va ma pr lr ps M ds f1 f2 d9) : PV K H vt R := t.T.told.pv
theorem Fa.rq (t : Fa K H k vt da vl sa R lp S vv va ma pr lr ps M ds f1 f2 d9) : Sq K H lr (ds.map V.int) := .inl t.row
end
theorem isP_one (s c : Int) (h : c ≠ 0) : IsP (cf [(s, c)]) [(s, c)] := ⟨List.pairwise_singleton _ _, fun p hp => by rw [List.mem_singleton.mp hp]; exact h, fun _ => rfl⟩
theorem sc_law : FnScope ["script", "many", "told", "due", "last", "same", "k", "sizes", "row", "pairs", "mine", "value", "again", "step"] ["script"] (defScope (top 60)) := ⟨rfl, rfl, rfl, by decide +kernel, rfl, by decide +kernel, by decide +kernel⟩
theorem d_law {P : Program} {w : World} {K : PySem.W.Frag} {mg : Str → Option Value} {base : Heap} (T : Tx K mg) : Def P w K mg base "law" 5 ["script"] (sp_law K) := by
  refine Def.of T.at_law sc_law (fun _ _ _ _ _ _ us hl => match us, hl with | [_], _ => rfl) (fun vs H Q E h => by (obtain ⟨_, _, rfl, _⟩ := h; rfl)) (fun f cdv A outer s H vs Q E hr h => ?_)
  refine ⟨_, PSs.nox (pss_cons (ps_set (i := 1) sc_law.nd rfl (Or.inl rfl) (pe_ix ix_seq (pe_lstA (pa_cons pe_int (pa_cons pe_int (pa_cons pe_int (pa_cons pe_int (pa_cons pe_int (pa_cons pe_int (pa_cons pe_int (pa_cons pe_int pa_nil))))))))) (pe_ix ix_seq (pe_def (d__law_digits T) (hr.mono (by decide)) (by rfl) (pa_cons (pe_def (d__law_cell T) (hr.mono (by decide)) (by rfl) (pa_cons (pv 0) (pa_cons pe_int pa_nil))) (pa_cons (pe_lstA (pa_cons pe_int pa_nil)) pa_nil))) pe_int (fun _ _ => rfl)) (fun _ _ => rfl)))
      (pss_cons (ps_set (i := 2) sc_law.nd rfl (Or.inl rfl) (pe_tupA (pa_cons (pe_tupA (pa_cons pe_int (pa_cons pe_int pa_nil))) pa_nil)))
      (pss_cons (ps_set (i := 3) sc_law.nd rfl (Or.inl rfl) (pe_disp1 (pps_cons pe_int pe_int pps_nil)))
      (pss_cons (ps_set (i := 4) sc_law.nd rfl (Or.inl rfl) (pe_lstA (pa_cons (pe_lstA (pa_cons pe_int (pa_cons pe_int pa_nil))) pa_nil)))
      (pss_cons (ps_set (i := 5) sc_law.nd rfl (Or.inl rfl) (pe_disp1 (pps_cons pe_int pe_int pps_nil)))
      (pss_cons (ps_for PassesOwn.never rfl (pi_range1 (by rfl) T.n_range (pa_cons (pv 1) pa_nil)) (pg_name (i := 6) sc_law.nd rfl (Or.inl rfl)) (pss_cons (ps_set (i := 7) sc_law.nd rfl (Or.inl rfl) (pe_op op_addA (pe_lstA (pa_cons pe_int (pa_cons pe_int (pa_cons pe_int (pa_cons pe_int (pa_cons pe_int (pa_cons pe_int (pa_cons pe_int (pa_cons pe_int (pa_cons pe_int (pa_cons pe_int pa_nil))))))))))) (pe_op op_repA (pe_lstA (pa_cons pe_int (pa_cons pe_int (pa_cons pe_int (pa_cons pe_int pa_nil))))) pe_int)))
      (pss_cons (ps_set (i := 8) sc_law.nd rfl (Or.inl rfl) (pe_def (d__law_digits T) (hr.mono (by decide)) (by rfl) (pa_cons (pe_def (d__law_cell T) (hr.mono (by decide)) (by rfl) (pa_cons (pv 0) (pa_cons (pe_op op_addA pe_int (pv 6)) pa_nil))) (pa_cons (pv 7) pa_nil))))
      (pss_cons (ps_set (i := 9) sc_law.nd rfl (Or.inl rfl) (pe_def (d__law_drawn T) (hr.mono (by decide)) (by rfl) (pa_cons (pv 8) pa_nil)))
      (pss_cons (ps_set (i := 10) sc_law.nd rfl (Or.inl rfl) (pe_def (d__law_poly T) (hr.mono (by decide)) (by rfl) (pa_cons (pv 9) pa_nil)))
      (pss_cons (ps_set (i := 11) sc_law.nd rfl (Or.inl rfl) (pe_def (d__law_passed T) (hr.mono (by decide)) (by rfl) (pa_cons (pv 9) (pa_cons (pe_ix ix_seq (pv 8) pe_int (fun _ _ => rfl)) pa_nil))))
      (pss_cons (ps_set (i := 12) sc_law.nd rfl (Or.inl rfl) (pe_def (d__law_passed T) (hr.mono (by decide)) (by rfl) (pa_cons (pe_def (d__law_other_pairs T) (hr.mono (by decide)) (by rfl) (pa_cons (pv 9) (pa_cons (pe_ix ix_seq (pv 8) pe_int (fun _ _ => rfl)) pa_nil))) (pa_cons (pe_ix ix_seq (pv 8) pe_int (fun _ _ => rfl)) pa_nil))))
      (pss_cons (ps_if (PW.pt (pw_or (pt_not (pt_val (pe_def (d__law_alone T) (hr.mono (by decide)) (by rfl) (pa_cons (pv 11) (pa_cons (pv 10) pa_nil))))) (pw_or (pt_not (pt_val (pe_def (d__law_alone T) (hr.mono (by decide)) (by rfl) (pa_cons (pv 12) (pa_cons (pv 10) pa_nil))))) (pw_or1 (pt_not (pt_val (pe_def (d__law_alone T) (hr.mono (by decide)) (by rfl) (pa_cons (pv 2) (pa_cons (pv 3) pa_nil))))))))) (pss_one (ps_ret pe_bl)) pss_nil)
      (pss_cons (ps_if (PW.pt (pw_or (pt_not (pt_val (pe_def (d__law_right T) (hr.mono (by decide)) (by rfl) (pa_cons (pv 11) (pa_cons (pv 4) (pa_cons (pv 10) (pa_cons (pv 5) pa_nil))))))) (pw_or1 (pt_not (pt_val (pe_def (d__law_right T) (hr.mono (by decide)) (by rfl) (pa_cons (pv 12) (pa_cons (pv 11) (pa_cons (pv 10) (pa_cons (pv 10) pa_nil)))))))))) (pss_one (ps_ret pe_bl)) pss_nil)
      (pss_cons (ps_if (PW.pt (pw_or (pt_not (pt_val (pe_def (d__law_right T) (hr.mono (by decide)) (by rfl) (pa_cons (pv 11) (pa_cons (pv 11) (pa_cons (pv 10) (pa_cons (pv 10) pa_nil))))))) (pw_or1 (pt_not (pt_val (pe_def (d__law_right T) (hr.mono (by decide)) (by rfl) (pa_cons (pv 2) (pa_cons (pv 12) (pa_cons (pv 3) (pa_cons (pv 10) pa_nil)))))))))) (pss_one (ps_ret pe_bl)) pss_nil)
      (pss_cons (ps_if (PW.pt (pw_or (pt_not (pt_val (pe_def (d__law_right T) (hr.mono (by decide)) (by rfl) (pa_cons (pv 2) (pa_cons (pv 11) (pa_cons (pv 3) (pa_cons (pv 10) pa_nil))))))) (pw_or1 (pt_not (pt_val (pe_def (d__law_is T) (hr.mono (by decide)) (by rfl) (pa_cons (pe_def (d_poly_plus T) (hr.mono (by decide)) (by rfl) (pa_cons (pv 11) (pa_cons (pv 2) pa_nil))) (pa_cons (pe_def (d__law_add T) (hr.mono (by decide)) (by rfl) (pa_cons (pv 10) (pa_cons (pv 3) (pa_cons pe_int pa_nil)))) pa_nil)))))))) (pss_one (ps_ret pe_bl)) pss_nil)
      (pss_cons (ps_if (PW.pt (pw_or (pt_not (pt_val (pe_def (d__law_right T) (hr.mono (by decide)) (by rfl) (pa_cons (pe_tupA (pa_cons (pe_tupA (pa_cons pe_int (pa_cons (pe_un un_neg pe_int) pa_nil))) pa_nil)) (pa_cons (pv 2) (pa_cons (pe_disp1 (pps_cons pe_int (pe_un un_neg pe_int) pps_nil)) (pa_cons (pv 3) pa_nil))))))) (pw_or1 (pt_not (pt_val (pe_def (d__law_right T) (hr.mono (by decide)) (by rfl) (pa_cons (pv 2) (pa_cons (pe_tupA (pa_cons (pe_tupA (pa_cons pe_int (pa_cons pe_int pa_nil))) pa_nil)) (pa_cons (pv 3) (pa_cons (pe_disp1 (pps_cons pe_int pe_int pps_nil)) pa_nil)))))))))) (pss_one (ps_ret pe_bl)) pss_nil)
      (pss_cons (ps_set (i := 13) sc_law.nd rfl (Or.inl rfl) (pe_def (d__law_next T) (hr.mono (by decide)) (by rfl) (pa_cons (pe_op op_mod (pe_callTy call_intA (by rfl) T.n_int (by decide +kernel) (pa_cons (pe_ix ix_seq (pv 8) pe_int (fun _ _ => rfl)) pa_nil)) pe_int) (pa_cons (pv 2) (pa_cons (pv 11) (pa_cons (pv 3) (pa_cons (pv 10) pa_nil)))))))
      (pss_cons (ps_if (PW.pt (pw_or (pt_not (pt_val (pe_def (d__law_is T) (hr.mono (by decide)) (by rfl) (pa_cons (pe_ix ix_seq (pv 13) pe_int (fun _ _ => rfl)) (pa_cons (pe_ix ix_seq (pv 13) pe_int (fun _ _ => rfl)) pa_nil))))) (pw_or1 (pt_cmpR (op_neA hr.units) (pv 11) (pe_def (d__law_passed T) (hr.mono (by decide)) (by rfl) (pa_cons (pv 9) (pa_cons (pe_ix ix_seq (pv 8) pe_int (fun _ _ => rfl)) pa_nil))) (nomark _))))) (pss_one (ps_ret pe_bl)) pss_nil)
      (pss_cons (ps_if (pt_cmpR (op_neA hr.units) (pv 12) (pe_def (d__law_passed T) (hr.mono (by decide)) (by rfl) (pa_cons (pe_def (d__law_other_pairs T) (hr.mono (by decide)) (by rfl) (pa_cons (pv 9) (pa_cons (pe_ix ix_seq (pv 8) pe_int (fun _ _ => rfl)) pa_nil))) (pa_cons (pe_ix ix_seq (pv 8) pe_int (fun _ _ => rfl)) pa_nil))) (nomark _)) (pss_one (ps_ret pe_bl)) pss_nil)
      (pss_cut (ps_if (pt_cmpR op_le (pe_callB call_lenDA (by rfl) T.n_len (by decide +kernel) (pa_cons (pe_ix ix_seq (pv 13) pe_int (fun _ _ => rfl)) pa_nil)) pe_int (nomark _)) (pss_cons (ps_set (i := 2) sc_law.nd rfl (Or.inl rfl) (pe_ix ix_seq (pv 13) pe_int (fun _ _ => rfl)))
      (pss_one (ps_set (i := 3) sc_law.nd rfl (Or.inl rfl) (pe_ix ix_seq (pv 13) pe_int (fun _ _ => rfl))))) pss_nil)
      (pss_cons (ps_set (i := 4) sc_law.nd rfl (Or.inl rfl) (pv 11))
      (pss_one (ps_set (i := 5) sc_law.nd rfl (Or.inl rfl) (pv 10))))))))))))))))))))
      (pss_one (ps_ret (pe_def (d__law_alone T) (hr.mono (by decide)) (by rfl) (pa_cons (pv 2) (pa_cons (pv 3) pa_nil))))))))))), ?_⟩
  obtain ⟨a, ns, rfl, hS, hlen, q⟩ := h
  walk_at "w0"
  walk_at "w"
  refine ⟨by walk_at "sz", fun l0 H1 n1 s1 e1 => ?_⟩
  walk_at "w"
  refine ⟨a, 0, ns, rfl, by walk_at "tr", by decide, by decide, ?_⟩
  walk_at "w"
  refine ⟨by walk_at "sz", fun lz H2 n2 s2 e2 => ?_⟩
  refine ⟨_, lz, [8], rfl, .inl (SqL.of e2), by decide, by decide, fun ld H3 n3 s3 e3 => ?_⟩
  have dg := digits_ok (lawCell ns 0) [8] (by decide)
  obtain ⟨d0, hd0⟩ : ∃ d0, (digits (lawCell ns 0) [8])[0]? = some d0 := ⟨_, List.getElem?_eq_getElem (by rw [dg.1]; decide)⟩
  have bd := dg.2 0 _ _ rfl hd0
  walk_at "w"
  refine map_at0 (i := 0) (.inl (SqL.of e3)) hd0 ?_
  obtain ⟨many, _, hm, ha⟩ := ix_ints [3, 3, 2, 2, 4, 2, 3, 6] (i := d0) bd.1 bd.2
  have em : Sq K H3 l0 ([3, 3, 2, 2, 4, 2, 3, 6].map V.int) := by walk_at "tr"
  refine w_ix em ha ?_
  have hmany : 0 ≤ many ∧ many ≤ 6 := by
    simp only [List.mem_cons, List.not_mem_nil, or_false] at hm
    omega
  walk_at "w"
  refine ⟨by walk_at "sz", fun t1 H4 n4 s4 e4 => ?_⟩
  walk_at "w"
  refine ⟨by walk_at "sz", fun t2 H5 n5 s5 e5 => ?_⟩
  walk_at "w"
  refine w_disp fun da n6 => ?_
  walk_at "w"
  refine ⟨upd_same, [(Sum.inl 0, .int 1)], rfl, (show 1 ≤ 15 by decide), ?_⟩
  have s6 : Same H5 (upd (upd H5 da (.dK [])) da (.dK (mergeK [] [(Sum.inl 0, .int 1)]))) := Same.mut (Same.new n6) n6
  have e6 : (upd (upd H5 da (.dK [])) da (.dK (mergeK [] [(Sum.inl 0, .int 1)]))) da = some (.dK (dk [(0, 1)])) := upd_same
  generalize upd (upd H5 da (.dK [])) da (.dK (mergeK [] [(Sum.inl 0, .int 1)])) = H6 at s6 e6 ⊢
  walk_at "w"
  refine ⟨by walk_at "sz", fun t3 H7 n7 s7 e7 => ?_⟩
  walk_at "w"
  refine ⟨by walk_at "sz", fun t4 H8 n8 s8 e8 => ?_⟩
  walk_at "w"
  refine w_disp fun sa n9 => ?_
  walk_at "w"
  refine ⟨upd_same, [(Sum.inl 0, .int 1)], rfl, (show 1 ≤ 15 by decide), ?_⟩
  have s9 : Same H8 (upd (upd H8 sa (.dK [])) sa (.dK (mergeK [] [(Sum.inl 0, .int 1)]))) := Same.mut (Same.new n9) n9
  have e9 : (upd (upd H8 sa (.dK [])) sa (.dK (mergeK [] [(Sum.inl 0, .int 1)]))) sa = some (.dK (dk [(0, 1)])) := upd_same
  generalize upd (upd H8 sa (.dK [])) sa (.dK (mergeK [] [(Sum.inl 0, .int 1)])) = H9 at s9 e9 ⊢
  have s59 : Same H5 H9 := ((s6.trans s7).trans s8).trans s9
  have s69 : Same H6 H9 := (s7.trans s8).trans s9
  have s09 : Same H H9 := ((((s1.trans s2).trans s3).trans s4).trans s5).trans s59
  have one := isP_one 0 1 (by decide)
  have T0 : Turn K H9 0 (.ref t2) da (.ref t4) sa [(0, 1)] [(0, 1)] [(0, 1)] := {
    told := ⟨t2, _, rfl, SqT.of (s59 _ _ e5), .cons ⟨t1, rfl, SqT.of (s59 _ _ (s5 _ _ e4))⟩ .nil⟩
    due := s69 _ _ e6
    isR := one
    lR := by decide
    wR := by decide
    last := ⟨t4, _, rfl, .inl (SqL.of (s9 _ _ e8)), .cons ⟨t3, rfl, .inl (SqL.of (s9 _ _ (s8 _ _ e7)))⟩ .nil⟩
    sml := ⟨by decide, fun p hp => by rw [List.mem_singleton.mp hp]; decide⟩
    same := e9
    isS := one }
  have hS9 : SqL K H9 a (ns.map V.int) := Same.sl s09 hS
  walk_at "w"
  refine for_rng1 (n := many.toNat) rfl (by omega) (by omega) (fun k σ' H' => Same H9 H' ∧ ∃ vt da vl sa R lp S v6 v7 v8 v9 v10 v11 v12 v13, σ' = [some (.ref a), some (.int many), some vt, some (.ref da), some vl, some (.ref sa), v6, v7, v8, v9, v10, v11, v12, v13] ∧ Turn K H' k vt da vl sa R lp S)
    ⟨Same.refl _, _, _, _, _, _, _, _, _, _, _, _, _, _, _, _, rfl, T0⟩ ?_ ?_
  · rintro k σ' H' hk ⟨sm, vt, da, vl, sa, R, lp, S, v6, v7, v8, v9, v10, v11, v12, v13, rfl, T1⟩
    clear T0 e1 e2 e3 e4 e5 e6 e7 e8 e9 em s1 s2 s3 s4 s5 s6 s7 s8 s9 s59 s69 s09 n1 n2 n3 n4 n5 n6 n7 n8 n9
    walk_at "g"
    walk_at "w"
    refine ⟨by walk_at "sz", fun t1 H1 n1 s1 e1 => ?_⟩
    walk_at "w"
    refine ⟨by walk_at "sz", fun t2 H2 n2 s2 e2 => ?_⟩
    walk_at "w"
    refine w_rep (k := 40) ((List.replicate 40 (([41, 12, 100000, 100000] : List Int).map V.int)).flatten) e2 (by decide) (by decide) (size_le (by decide)) rfl fun t3 H3 n3 s3 e3 => ?_
    refine w_addL (s3 _ _ (s2 _ _ e1)) e3 (size_le (by decide)) fun t4 H4 n4 s4 e4 => ?_
    have s14 : Same H' H4 := ((s1.trans s2).trans s3).trans s4
    have e4 : H4 t4 = some (.lst (szs1.map V.int)) := e4.trans (by rw [szs1_eq]; rfl)
    have T4 := T1.same' s14
    have hS4 : SqL K H4 a (ns.map V.int) := Same.sl (sm.trans s14) hS9
    have sm4 := sm.trans s14
    clear e1 e2 e3 n1 n2 n3 n4 s1 s2 s3 s4 s14 T1 sm
    walk_at "w"
    refine ⟨a, 1 + (k : Int), ns, rfl, hS4, by omega, by omega, ?_⟩
    walk_at "w"
    refine ⟨_, t4, szs1, rfl, .inl (SqL.of e4), szs1_pos, by rw [szs1_len]; decide, fun lr H5 n5 s5 e5 => ?_⟩
    have hd := digits_ok (lawCell ns (1 + (k : Int))) szs1 fun z hz => (szs1_pos z hz).1
    generalize digits (lawCell ns (1 + (k : Int))) szs1 = ds at hd e5
    obtain ⟨r6, g6, _, _⟩ := dig_at hd (i := 6) (z := 5) rfl
    obtain ⟨r7, g7, _, _⟩ := dig_at hd (i := 7) (z := 9) rfl
    obtain ⟨r8, g8, _, _⟩ := dig_at hd (i := 8) (z := 5) rfl
    obtain ⟨r9, g9, _, _⟩ := dig_at hd (i := 9) (z := 3) rfl
    have a6 := atI_nat (map_get g6)
    have a7 := atI_nat (map_get g7)
    have a8 := atI_nat (map_get g8)
    have a9 := atI_nat (map_get g9)
    walk_at "w"
    refine ⟨lr, ds, rfl, SqL.of e5, hd, fun pr H6 ps s6 hpr hsm => ?_⟩
    walk_at "w"
    refine ⟨_, ps, rfl, hpr.pv, by have := hsm.1; omega, fun ma H7 M hM n7 s7 e7 => ?_⟩
    have row7 : SqL K H7 lr (ds.map V.int) := SqL.of (s7 _ _ (s6 _ _ e5))
    walk_at "w"
    refine w_ix (.inl row7) (i := 6) a6 ?_
    refine ⟨pr, r6, ps, rfl, Same.pll s7 hpr, hsm.1, fun vv H8 s8 hvv => ?_⟩
    walk_at "w"
    refine w_ix (.inl (Same.sl s8 row7)) (i := 9) a9 ?_
    refine ⟨pr, r9, ps, rfl, Same.pll (s7.trans s8) hpr, hsm, fun po H9' s9 hpo => ?_⟩
    have hso := oth_sml hsm r9
    walk_at "w"
    refine w_ix (.inl (Same.sl (s8.trans s9) row7)) (i := 8) a8 ?_
    refine ⟨po, r8, _, rfl, hpo, hso.1, fun va H10 s10 hva => ?_⟩
    have F : Fa K H10 k vt da vl sa R lp S vv va ma pr lr ps M ds r6 r8 r9 :=
      ⟨T4.same' (((((s5.trans s6).trans s7).trans s8).trans s9).trans s10), ((s8.trans s9).trans s10) _ _ e7, Same.pll (((s7.trans s8).trans s9).trans s10) hpr, Same.dp (s9.trans s10) hvv, hva, Same.sl ((s8.trans s9).trans s10) row7⟩
    have smA : Same H9 H10 := (((((sm4.trans s5).trans s6).trans s7).trans s8).trans s9).trans s10
    clear e7 hpo row7 hpr e5 e4 n5 n7 s5 s6 s7 s8 s9 s10 hva hvv T4 hS4
    have hMo : IsP (cf (oth2 ps r9)) M := ⟨hM.asc, hM.nz, fun s => by rw [hM.cfs, cf_oth]⟩
    have lp40 := hsm.1
    have lo40 := hso.1
    have ll40 := F.T.sml.1
    have lR := F.T.lR
    have lM := IsP.length_le hM
    have wps : Wb 8900 ps := hsm.wb.mono (by decide)
    have wpo : Wb 8900 (oth2 ps r9) := hso.wb.mono (by decide)
    have wlp : Wb 8900 lp := F.T.sml.wb.mono (by decide)
    have wR3 := F.T.wb (by omega)
    have wR : Wb 8900 R := wR3.mono (by decide)
    have hR := F.T.isR
    have hSS := F.T.isS
    walk_at "w"
    refine ⟨_, _, ps, M, rfl, F.vp, by omega, wps, F.mine, hM, fun G1 s1 => ?_⟩
    replace F := F.same s1
    have sm1 := smA.trans s1
    walk_at "w"
    refine iteF ?_
    walk_at "w"
    refine ⟨_, _, _, M, rfl, F.ap, by omega, wpo, F.mine, hMo, fun G2 s2 => ?_⟩
    replace F := F.same s2
    have sm2 := sm1.trans s2
    walk_at "w"
    refine iteF ?_
    walk_at "w"
    refine ⟨_, _, R, R, rfl, F.tp, by omega, wR, F.T.due, hR, fun G3 s3 => ?_⟩
    replace F := F.same s3
    have sm3 := sm2.trans s3
    walk_at "w"
    refine iteF ?_
    walk_at "w"
    refine ⟨_, _, _, _, ps, lp, M, S, rfl, F.vp, F.T.last, by omega, by omega, wps, wlp, F.mine, F.T.same, hM, hSS, fun G4 s4 => ?_⟩
    replace F := F.same s4
    have sm4 := sm3.trans s4
    walk_at "w"
    refine iteF ?_
    walk_at "w"
    refine ⟨_, _, _, _, _, ps, M, M, rfl, F.ap, F.vp, by omega, by omega, wpo, wps, F.mine, F.mine, hMo, hM, fun G5 s5 => ?_⟩
    replace F := F.same s5
    have sm5 := sm4.trans s5
    walk_at "w"
    refine iteF ?_
    walk_at "w"
    refine ⟨_, _, _, _, ps, ps, M, M, rfl, F.vp, F.vp, by omega, by omega, wps, wps, F.mine, F.mine, hM, hM, fun G6 s6 => ?_⟩
    replace F := F.same s6
    have sm6 := sm5.trans s6
    walk_at "w"
    refine iteF ?_
    walk_at "w"
    refine ⟨_, _, _, _, R, _, R, M, rfl, F.tp, F.ap, by omega, by omega, wR, wpo, F.T.due, F.mine, hR, hMo, fun G7 s7 => ?_⟩
    replace F := F.same s7
    have sm7 := sm6.trans s7
    walk_at "w"
    refine iteF ?_
    walk_at "w"
    refine ⟨_, _, _, _, R, ps, R, M, rfl, F.tp, F.vp, by omega, by omega, wR, wps, F.T.due, F.mine, hR, hM, fun G8 s8 => ?_⟩
    replace F := F.same s8
    have sm8 := sm7.trans s8
    walk_at "w"
    refine iteF ?_
    walk_at "w"
    refine ⟨_, _, ps, R, rfl, F.vp, F.tp, by omega, fun p1 G9 R1 hR1 s9 hP1 => ?_⟩
    replace F := F.same s9
    have lR1 := IsP.length_le hR1
    rw [List.length_append] at lR1
    walk_at "w"
    refine ⟨_, _, 1, M, R, rfl, F.mine, F.T.due, hR.asc, by omega, fun t m => one_mul_ok wR (by decide) m, fun d1 G10 U1 hU1 n10 s10 e10 => ?_⟩
    replace F := F.same s10
    have e := hR1.uniq' hU1 (cf_sum hM hR)
    subst e
    walk_at "w"
    refine ⟨_, d1, R1, rfl, Same.pt s10 hP1, e10, hR1.asc, hR1.nz, by omega, fun G11 s11 => ?_⟩
    replace F := F.same s11
    have sm11 := ((sm8.trans s9).trans s10).trans s11
    clear hP1 e10
    walk_at "w"
    refine iteF ?_
    walk_at "w"
    refine ⟨by walk_at "sz", fun u1 G12 n12 s12 e12 => ?_⟩
    walk_at "w"
    refine ⟨by walk_at "sz", fun u2 G13 n13 s13 e13 => ?_⟩
    have L1 : PV K G13 (.ref u2) [(0, -1)] := ⟨u2, _, rfl, .inr (SqT.of e13), .cons ⟨u1, rfl, .inr (SqT.of (s13 _ _ e12))⟩ .nil⟩
    walk_at "w"
    refine w_disp fun d2 n14 => ?_
    walk_at "w"
    refine ⟨upd_same, [(Sum.inl 0, .int (-1))], rfl, (show 1 ≤ 15 by decide), ?_⟩
    have s14 : Same G13 (upd (upd G13 d2 (.dK [])) d2 (.dK (mergeK [] [(Sum.inl 0, .int (-1))]))) := Same.mut (Same.new n14) n14
    have e14 : (upd (upd G13 d2 (.dK [])) d2 (.dK (mergeK [] [(Sum.inl 0, .int (-1))]))) d2 = some (.dK (dk [(0, -1)])) := upd_same
    generalize upd (upd G13 d2 (.dK [])) d2 (.dK (mergeK [] [(Sum.inl 0, .int (-1))])) = G14 at s14 e14 ⊢
    replace F := F.same ((s12.trans s13).trans s14)
    have o1 := isP_one 0 (-1) (by decide)
    walk_at "w"
    refine ⟨_, _, d2, _, [(0, -1)], R, [(0, -1)], R, rfl, Same.pv s14 L1, F.tp, by decide, by omega, (wb_one 0).2.mono (by decide), wR, e14, F.T.due, o1, hR, fun G15 s15 => ?_⟩
    replace F := F.same s15
    have sm15 := (((sm11.trans s12).trans s13).trans s14).trans s15
    clear L1 e14 e13 e12
    walk_at "w"
    refine iteF ?_
    walk_at "w"
    refine ⟨by walk_at "sz", fun u3 G16 n16 s16 e16 => ?_⟩
    walk_at "w"
    refine ⟨by walk_at "sz", fun u4 G17 n17 s17 e17 => ?_⟩
    have L2 : PV K G17 (.ref u4) [(3, 1)] := ⟨u4, _, rfl, .inr (SqT.of e17), .cons ⟨u3, rfl, .inr (SqT.of (s17 _ _ e16))⟩ .nil⟩
    walk_at "w"
    refine w_disp fun d3 n18 => ?_
    walk_at "w"
    refine ⟨upd_same, [(Sum.inl 3, .int 1)], rfl, (show 1 ≤ 15 by decide), ?_⟩
    have s18 : Same G17 (upd (upd G17 d3 (.dK [])) d3 (.dK (mergeK [] [(Sum.inl 3, .int 1)]))) := Same.mut (Same.new n18) n18
    have e18 : (upd (upd G17 d3 (.dK [])) d3 (.dK (mergeK [] [(Sum.inl 3, .int 1)]))) d3 = some (.dK (dk [(3, 1)])) := upd_same
    generalize upd (upd G17 d3 (.dK [])) d3 (.dK (mergeK [] [(Sum.inl 3, .int 1)])) = G18 at s18 e18 ⊢
    replace F := F.same ((s16.trans s17).trans s18)
    have o2 := isP_one 3 1 (by decide)
    walk_at "w"
    refine ⟨_, _, _, d3, R, [(3, 1)], R, [(3, 1)], rfl, F.tp, Same.pv s18 L2, by omega, by decide, wR, (wb_one 3).1.mono (by decide), F.T.due, e18, hR, o2, fun G19 s19 => ?_⟩
    replace F := F.same s19
    have sm19 := (((sm15.trans s16).trans s17).trans s18).trans s19
    clear L2 e18 e17 e16
    walk_at "w"
    refine iteF ?_
    walk_at "w"
    refine w_ix F.rq (i := 7) a7 ?_
    walk_at "w"
    refine ⟨_, _, _, _, _, R, ps, M, rfl, F.T.told, F.vp, F.T.due, F.mine, hR, hM, lR, lp40, wR3, hsm.wb.mono (by decide), fun ls z dn U G20 s20 e20 hz hdn hU lU wU => ?_⟩
    replace F := F.same s20
    have sq20 : Sq K G20 ls [z, .ref dn] := .inl (SqL.of e20)
    walk_at "w"
    refine w_ix sq20 (i := 0) rfl ?_
    walk_at "w"
    refine w_ix sq20 (i := 1) rfl ?_
    refine ⟨z, dn, U, rfl, hz, hdn, hU.asc, hU.nz, by omega, fun G21 s21 => ?_⟩
    replace F := F.same s21
    walk_at "w"
    refine iteF ?_
    walk_at "w"
    refine w_ix F.rq (i := 6) a6 ?_
    refine ⟨pr, r6, ps, rfl, F.prs, lp40, fun v2 G22 s22 hv2 => ?_⟩
    replace F := F.same s22
    refine w_neD F.val hv2 (pdf_pd _ _).shaped.1 (pdf_pd _ _).shaped.1 ?_
    rw [SeqAt.eqv_refl _ (pdf_pd _ _).shaped.2]
    walk_at "w"
    refine iteF ?_
    walk_at "w"
    refine w_ix F.rq (i := 9) a9 ?_
    refine ⟨pr, r9, ps, rfl, F.prs, hsm, fun po G23 s23 hpo => ?_⟩
    replace F := F.same s23
    walk_at "w"
    refine w_ix F.rq (i := 8) a8 ?_
    refine ⟨po, r8, _, rfl, hpo, hso.1, fun v3 G24 s24 hv3 => ?_⟩
    replace F := F.same s24
    refine w_neD F.aga hv3 (pdf_pd _ _).shaped.1 (pdf_pd _ _).shaped.1 ?_
    rw [SeqAt.eqv_refl _ (pdf_pd _ _).shaped.2]
    walk_at "w"
    refine iteF ?_
    have s2024 : Same G20 G24 := ((s21.trans s22).trans s23).trans s24
    have smZ : Same H9 G24 := (sm19.trans s20).trans s2024
    have hz24 := Same.pt s2024 hz
    have hdn24 := s2024 _ _ hdn
    have sq24 := Same.sq s2024 sq20
    have wUk : wt U ≤ wB (k + 1) := Nat.le_trans wU (Nat.pow_le_pow_left (Nat.add_le_add F.T.wR hsm.wt) 2)
    have wRk : wt R ≤ wB (k + 1) := Nat.le_trans F.T.wR (Nat.le_trans (Nat.le_add_right _ 40000000000) (sq_ge _))
    walk_at "w"
    refine w_cut (fun σ' H' => G24 = H' ∧ ∃ vt' da' R', σ' = [some (.ref a), some (.int many), some vt', some (.ref da'), some vl, some (.ref sa), some (.int (k : Int)), some (.ref t4), some (.ref lr), some (.ref pr), some (.ref ma), some vv, some va, some (.ref ls)] ∧ PT K G24 vt' R' ∧ G24 da' = some (.dK (dk R')) ∧ IsP (cf R') R' ∧ R'.length ≤ 120 ∧ wt R' ≤ wB (k + 1)) ?_ ?_
    · walk_at "w"
      refine w_ix sq24 (i := 1) rfl ?_
      walk_at "w"
      rw [length_dk]
      refine iteD (fun h => ?_) (fun h => ?_)
      · walk_at "w"
        refine w_ix sq24 (i := 0) rfl ?_
        walk_at "w"
        refine w_ix sq24 (i := 1) rfl ?_
        walk_at "w"
        exact ⟨rfl, z, dn, U, rfl, hz24, hdn24, hU, by omega, wUk⟩
      · walk_at "w"
        exact ⟨rfl, vt, da, R, rfl, F.T.told, F.T.due, hR, lR, wRk⟩
    · rintro σ' H2 ⟨rfl, vt', da', R', rfl, j1, j2, j3, j4, j5⟩
      walk_at "w"
      exact ⟨smZ, vt', da', vv, ma, R', ps, M, _, _, _, _, _, _, _, _, rfl, ⟨j1, j2, j3, j4, j5, F.vp, hsm, F.mine, hM⟩⟩
  · rintro σ' H' ⟨sm, vt, da, vl, sa, R, lp, S, v6, v7, v8, v9, v10, v11, v12, v13, rfl, T1⟩
    have hw := T1.wb (by omega)
    walk_at "w"
    exact ⟨vt, da, R, R, rfl, T1.told.pv, by have := T1.lR; omega, hw.mono (by decide), T1.due, T1.isR, fun H2 _ => q H2⟩
end JP
set_option Elab.async false
set_option linter.all false
set_option maxRecDepth 100000
set_option maxHeartbeats 16000000
namespace JP
open PySem PySem.Spec PyProof.Rows L2 L2H
theorem tx_of {K : PySem.W.Frag} {h : Heap} {mg : Str → Option Value} (X : K.In h) (G : h.Ns mainGlobals mg) (c : JPH.SaysF fa fn K) : Tx K mg :=
  { at_polynomial := ⟨c.def_ 0 (d := ⟨("polynomial", none), "polynomial", "polynomial", defArgs (top 34), defBody (top 34), defScope (top 34), [], []⟩) rfl, He.glo_ok X G (c.fact 0 (f := fun K => (He.Fa.glo "polynomial").ok K) rfl)⟩,
    at_normal_polynomial := ⟨c.def_ 1 (d := ⟨("normal_polynomial", none), "normal_polynomial", "normal_polynomial", defArgs (top 35), defBody (top 35), defScope (top 35), [], []⟩) rfl, He.glo_ok X G (c.fact 1 (f := fun K => (He.Fa.glo "normal_polynomial").ok K) rfl)⟩,
    at_span := ⟨c.def_ 2 (d := ⟨("span", none), "span", "span", defArgs (top 36), defBody (top 36), defScope (top 36), [], []⟩) rfl, He.glo_ok X G (c.fact 2 (f := fun K => (He.Fa.glo "span").ok K) rfl)⟩,
    at_poly_plus := ⟨c.def_ 3 (d := ⟨("poly_plus", none), "poly_plus", "poly_plus", defArgs (top 37), defBody (top 37), defScope (top 37), [], []⟩) rfl, He.glo_ok X G (c.fact 3 (f := fun K => (He.Fa.glo "poly_plus").ok K) rfl)⟩,
    at_poly_times := ⟨c.def_ 4 (d := ⟨("poly_times", none), "poly_times", "poly_times", defArgs (top 38), defBody (top 38), defScope (top 38), [], []⟩) rfl, He.glo_ok X G (c.fact 4 (f := fun K => (He.Fa.glo "poly_times").ok K) rfl)⟩,
    at__law_whole := ⟨c.def_ 5 (d := ⟨("_law_whole", none), "_law_whole", "_law_whole", defArgs (top 40), defBody (top 40), defScope (top 40), [], []⟩) rfl, He.glo_ok X G (c.fact 5 (f := fun K => (He.Fa.glo "_law_whole").ok K) rfl)⟩,
    at__law_cell := ⟨c.def_ 6 (d := ⟨("_law_cell", none), "_law_cell", "_law_cell", defArgs (top 41), defBody (top 41), defScope (top 41), [], []⟩) rfl, He.glo_ok X G (c.fact 6 (f := fun K => (He.Fa.glo "_law_cell").ok K) rfl)⟩,
    at__law_digits := ⟨c.def_ 7 (d := ⟨("_law_digits", none), "_law_digits", "_law_digits", defArgs (top 42), defBody (top 42), defScope (top 42), [], []⟩) rfl, He.glo_ok X G (c.fact 7 (f := fun K => (He.Fa.glo "_law_digits").ok K) rfl)⟩,
    at__law_gcd := ⟨c.def_ 8 (d := ⟨("_law_gcd", none), "_law_gcd", "_law_gcd", defArgs (top 43), defBody (top 43), defScope (top 43), [], []⟩) rfl, He.glo_ok X G (c.fact 8 (f := fun K => (He.Fa.glo "_law_gcd").ok K) rfl)⟩,
    at__law_poly := ⟨c.def_ 9 (d := ⟨("_law_poly", none), "_law_poly", "_law_poly", defArgs (top 44), defBody (top 44), defScope (top 44), [], []⟩) rfl, He.glo_ok X G (c.fact 9 (f := fun K => (He.Fa.glo "_law_poly").ok K) rfl)⟩,
    at__law_add := ⟨c.def_ 10 (d := ⟨("_law_add", none), "_law_add", "_law_add", defArgs (top 45), defBody (top 45), defScope (top 45), [], []⟩) rfl, He.glo_ok X G (c.fact 10 (f := fun K => (He.Fa.glo "_law_add").ok K) rfl)⟩,
    at__law_mul := ⟨c.def_ 11 (d := ⟨("_law_mul", none), "_law_mul", "_law_mul", defArgs (top 46), defBody (top 46), defScope (top 46), [], []⟩) rfl, He.glo_ok X G (c.fact 11 (f := fun K => (He.Fa.glo "_law_mul").ok K) rfl)⟩,
    at__law_pairs := ⟨c.def_ 12 (d := ⟨("_law_pairs", none), "_law_pairs", "_law_pairs", defArgs (top 47), defBody (top 47), defScope (top 47), [], []⟩) rfl, He.glo_ok X G (c.fact 12 (f := fun K => (He.Fa.glo "_law_pairs").ok K) rfl)⟩,
    at__law_normal := ⟨c.def_ 13 (d := ⟨("_law_normal", none), "_law_normal", "_law_normal", defArgs (top 48), defBody (top 48), defScope (top 48), [], []⟩) rfl, He.glo_ok X G (c.fact 13 (f := fun K => (He.Fa.glo "_law_normal").ok K) rfl)⟩,
    at__law_is_poly := ⟨c.def_ 14 (d := ⟨("_law_is_poly", none), "_law_is_poly", "_law_is_poly", defArgs (top 49), defBody (top 49), defScope (top 49), [], []⟩) rfl, He.glo_ok X G (c.fact 14 (f := fun K => (He.Fa.glo "_law_is_poly").ok K) rfl)⟩,
    at__law_coefficient := ⟨c.def_ 15 (d := ⟨("_law_coefficient", none), "_law_coefficient", "_law_coefficient", defArgs (top 50), defBody (top 50), defScope (top 50), [], []⟩) rfl, He.glo_ok X G (c.fact 15 (f := fun K => (He.Fa.glo "_law_coefficient").ok K) rfl)⟩,
    at__law_drawn := ⟨c.def_ 16 (d := ⟨("_law_drawn", none), "_law_drawn", "_law_drawn", defArgs (top 51), defBody (top 51), defScope (top 51), [], []⟩) rfl, He.glo_ok X G (c.fact 16 (f := fun K => (He.Fa.glo "_law_drawn").ok K) rfl)⟩,
    at__law_passed := ⟨c.def_ 17 (d := ⟨("_law_passed", none), "_law_passed", "_law_passed", defArgs (top 52), defBody (top 52), defScope (top 52), [], []⟩) rfl, He.glo_ok X G (c.fact 17 (f := fun K => (He.Fa.glo "_law_passed").ok K) rfl)⟩,
    at__law_other_pairs := ⟨c.def_ 18 (d := ⟨("_law_other_pairs", none), "_law_other_pairs", "_law_other_pairs", defArgs (top 53), defBody (top 53), defScope (top 53), [], []⟩) rfl, He.glo_ok X G (c.fact 18 (f := fun K => (He.Fa.glo "_law_other_pairs").ok K) rfl)⟩,
    at__law_another := ⟨c.def_ 19 (d := ⟨("_law_another", none), "_law_another", "_law_another", defArgs (top 54), defBody (top 54), defScope (top 54), [], []⟩) rfl, He.glo_ok X G (c.fact 19 (f := fun K => (He.Fa.glo "_law_another").ok K) rfl)⟩,
    at__law_spanless := ⟨c.def_ 20 (d := ⟨("_law_spanless", none), "_law_spanless", "_law_spanless", defArgs (top 55), defBody (top 55), defScope (top 55), [], []⟩) rfl, He.glo_ok X G (c.fact 20 (f := fun K => (He.Fa.glo "_law_spanless").ok K) rfl)⟩,
    at__law_is := ⟨c.def_ 21 (d := ⟨("_law_is", none), "_law_is", "_law_is", defArgs (top 56), defBody (top 56), defScope (top 56), [], []⟩) rfl, He.glo_ok X G (c.fact 21 (f := fun K => (He.Fa.glo "_law_is").ok K) rfl)⟩,
    at__law_alone := ⟨c.def_ 22 (d := ⟨("_law_alone", none), "_law_alone", "_law_alone", defArgs (top 57), defBody (top 57), defScope (top 57), [], []⟩) rfl, He.glo_ok X G (c.fact 22 (f := fun K => (He.Fa.glo "_law_alone").ok K) rfl)⟩,
    at__law_right := ⟨c.def_ 23 (d := ⟨("_law_right", none), "_law_right", "_law_right", defArgs (top 58), defBody (top 58), defScope (top 58), [], []⟩) rfl, He.glo_ok X G (c.fact 23 (f := fun K => (He.Fa.glo "_law_right").ok K) rfl)⟩,
    at__law_next := ⟨c.def_ 24 (d := ⟨("_law_next", none), "_law_next", "_law_next", defArgs (top 59), defBody (top 59), defScope (top 59), [], []⟩) rfl, He.glo_ok X G (c.fact 24 (f := fun K => (He.Fa.glo "_law_next").ok K) rfl)⟩,
    at_law := ⟨c.def_ 25 (d := ⟨("law", none), "law", "law", defArgs (top 60), defBody (top 60), defScope (top 60), [], []⟩) rfl, He.glo_ok X G (c.fact 25 (f := fun K => (He.Fa.glo "law").ok K) rfl)⟩,
    g_RowError := He.glo_ok X G (c.fact 26 (f := fun K => (He.Fa.glo "RowError").ok K) rfl),
    g_NoQuotient := He.glo_ok X G (c.fact 27 (f := fun K => (He.Fa.glo "NoQuotient").ok K) rfl),
    g_ZeroPolynomial := He.glo_ok X G (c.fact 28 (f := fun K => (He.Fa.glo "ZeroPolynomial").ok K) rfl),
    g_ZeroSum := He.glo_ok X G (c.fact 29 (f := fun K => (He.Fa.glo "ZeroSum").ok K) rfl),
    g_NoRows := He.glo_ok X G (c.fact 30 (f := fun K => (He.Fa.glo "NoRows").ok K) rfl),
    g_BadName := He.glo_ok X G (c.fact 31 (f := fun K => (He.Fa.glo "BadName").ok K) rfl),
    g_RowTwice := He.glo_ok X G (c.fact 32 (f := fun K => (He.Fa.glo "RowTwice").ok K) rfl),
    g_UnknownRow := He.glo_ok X G (c.fact 33 (f := fun K => (He.Fa.glo "UnknownRow").ok K) rfl),
    g_RowsDiffer := He.glo_ok X G (c.fact 34 (f := fun K => (He.Fa.glo "RowsDiffer").ok K) rfl),
    g_SpotTwice := He.glo_ok X G (c.fact 35 (f := fun K => (He.Fa.glo "SpotTwice").ok K) rfl),
    g_BadStretch := He.glo_ok X G (c.fact 36 (f := fun K => (He.Fa.glo "BadStretch").ok K) rfl),
    g_ShortStretch := He.glo_ok X G (c.fact 37 (f := fun K => (He.Fa.glo "ShortStretch").ok K) rfl),
    g_TooLong := He.glo_ok X G (c.fact 38 (f := fun K => (He.Fa.glo "TooLong").ok K) rfl),
    g_CannotStand := He.glo_ok X G (c.fact 39 (f := fun K => (He.Fa.glo "CannotStand").ok K) rfl),
    g_Broken := He.glo_ok X G (c.fact 40 (f := fun K => (He.Fa.glo "Broken").ok K) rfl),
    g_NotFinite := He.glo_ok X G (c.fact 41 (f := fun K => (He.Fa.glo "NotFinite").ok K) rfl),
    g_BadParts := He.glo_ok X G (c.fact 42 (f := fun K => (He.Fa.glo "BadParts").ok K) rfl),
    g_Barred := He.glo_ok X G (c.fact 43 (f := fun K => (He.Fa.glo "Barred").ok K) rfl),
    g_NotCourse := He.glo_ok X G (c.fact 44 (f := fun K => (He.Fa.glo "NotCourse").ok K) rfl),
    g_BreaksOwnRule := He.glo_ok X G (c.fact 45 (f := fun K => (He.Fa.glo "BreaksOwnRule").ok K) rfl),
    g_NotBlocked := He.glo_ok X G (c.fact 46 (f := fun K => (He.Fa.glo "NotBlocked").ok K) rfl),
    g_Unsure := He.glo_ok X G (c.fact 47 (f := fun K => (He.Fa.glo "Unsure").ok K) rfl),
    g_Contradiction := He.glo_ok X G (c.fact 48 (f := fun K => (He.Fa.glo "Contradiction").ok K) rfl),
    g_NotStricter := He.glo_ok X G (c.fact 49 (f := fun K => (He.Fa.glo "NotStricter").ok K) rfl),
    g_NoFamilies := He.glo_ok X G (c.fact 50 (f := fun K => (He.Fa.glo "NoFamilies").ok K) rfl),
    g_NotLet := He.glo_ok X G (c.fact 51 (f := fun K => (He.Fa.glo "NotLet").ok K) rfl),
    g_NotFree := He.glo_ok X G (c.fact 52 (f := fun K => (He.Fa.glo "NotFree").ok K) rfl),
    g_NotTimely := He.glo_ok X G (c.fact 53 (f := fun K => (He.Fa.glo "NotTimely").ok K) rfl),
    g_NotEntered := He.glo_ok X G (c.fact 54 (f := fun K => (He.Fa.glo "NotEntered").ok K) rfl),
    g_NothingToUndo := He.glo_ok X G (c.fact 55 (f := fun K => (He.Fa.glo "NothingToUndo").ok K) rfl),
    g_BadNotation := He.glo_ok X G (c.fact 56 (f := fun K => (He.Fa.glo "BadNotation").ok K) rfl),
    i_gcd := PySem.W.mg_of X G (of_decide_eq_true (c.fact 57 (f := fun K => decide (PySem.W.nsIn K mainGlobals "gcd" = some (some (.builtin "math.gcd")))) rfl)),
    n_ValueError := He.free_ok X G (c.fact 58 (f := fun K => (He.Fa.free "ValueError").ok K) rfl),
    n_abs := He.free_ok X G (c.fact 59 (f := fun K => (He.Fa.free "abs").ok K) rfl),
    n_bool := He.free_ok X G (c.fact 60 (f := fun K => (He.Fa.free "bool").ok K) rfl),
    n_int := He.free_ok X G (c.fact 61 (f := fun K => (He.Fa.free "int").ok K) rfl),
    n_isinstance := He.free_ok X G (c.fact 62 (f := fun K => (He.Fa.free "isinstance").ok K) rfl),
    n_len := He.free_ok X G (c.fact 63 (f := fun K => (He.Fa.free "len").ok K) rfl),
    n_list := He.free_ok X G (c.fact 64 (f := fun K => (He.Fa.free "list").ok K) rfl),
    n_max := He.free_ok X G (c.fact 65 (f := fun K => (He.Fa.free "max").ok K) rfl),
    n_min := He.free_ok X G (c.fact 66 (f := fun K => (He.Fa.free "min").ok K) rfl),
    n_range := He.free_ok X G (c.fact 67 (f := fun K => (He.Fa.free "range").ok K) rfl),
    n_sorted := He.free_ok X G (c.fact 68 (f := fun K => (He.Fa.free "sorted").ok K) rfl),
    n_tuple := He.free_ok X G (c.fact 69 (f := fun K => (He.Fa.free "tuple").ok K) rfl),
    x_ZeroPolynomial := He.exc_ok (c.fact 70 (f := fun K => (He.Fa.exc "ZeroPolynomial").ok K) rfl),
    xc_ZeroPolynomial := xcB_ok (c.fact 71 (f := fun K => xcB K (He.ga K "ZeroPolynomial")) rfl),
    koR_ZeroPolynomial := of_decide_eq_true (c.fact 72 (f := fun K => decide (PySem.W.kitOne K (.ref (He.ga K "ZeroPolynomial")) (.ref (He.ga K "RowError")) = some true)) rfl),
    koV_ZeroPolynomial := of_decide_eq_true (c.fact 73 (f := fun K => decide (PySem.W.kitOne K (.ref (He.ga K "ZeroPolynomial")) (.type "ValueError") = some true)) rfl),
    ko_ZeroPolynomial := of_decide_eq_true (c.fact 74 (f := fun K => decide (PySem.W.kitOne K (.ref (He.ga K "ZeroPolynomial")) (.ref (He.ga K "ZeroPolynomial")) = some true)) rfl),
    ka_ZeroPolynomial := of_decide_eq_true (c.fact 75 (f := fun K => decide (PySem.W.kitAny K (.ref (He.ga K "ZeroPolynomial")) [.ref (He.ga K "BadName"), .ref (He.ga K "BadNotation"), .ref (He.ga K "BadParts"), .ref (He.ga K "BadStretch"), .ref (He.ga K "Barred"), .ref (He.ga K "BreaksOwnRule"), .ref (He.ga K "Broken"), .ref (He.ga K "CannotStand"), .ref (He.ga K "Contradiction"), .ref (He.ga K "NoFamilies"), .ref (He.ga K "NoQuotient"), .ref (He.ga K "NoRows"), .ref (He.ga K "NotBlocked"), .ref (He.ga K "NotCourse"), .ref (He.ga K "NotEntered"), .ref (He.ga K "NotFinite"), .ref (He.ga K "NotFree"), .ref (He.ga K "NotLet"), .ref (He.ga K "NotStricter"), .ref (He.ga K "NotTimely"), .ref (He.ga K "NothingToUndo"), .ref (He.ga K "RowTwice"), .ref (He.ga K "RowsDiffer"), .ref (He.ga K "ShortStretch"), .ref (He.ga K "SpotTwice"), .ref (He.ga K "TooLong"), .ref (He.ga K "UnknownRow"), .ref (He.ga K "Unsure"), .ref (He.ga K "ZeroSum")] = some false)) rfl),
    em_ZeroPolynomial := of_decide_eq_true (c.fact 76 (f := fun K => decide (PySem.W.exmOne K (.ref (He.ga K "ZeroPolynomial")) (.ref (He.ga K "ZeroPolynomial")) = some true)) rfl),
    emR_ZeroPolynomial := of_decide_eq_true (c.fact 77 (f := fun K => decide (PySem.W.exmOne K (.ref (He.ga K "ZeroPolynomial")) (.ref (He.ga K "RowError")) = some true)) rfl) }
theorem facts {P : Program} {w : World} {K : PySem.W.Frag} {h : Heap} {mg : Str → Option Value} {f : Addr} (X : K.In h) (G : h.Ns mainGlobals mg) (hfa : mg ("law" : Str) = some (.ref f)) (c : JPH.SaysF fa fn K) :
    ∃ fd : FuncData, (∀ (s : Shared) (v : Value), BindsTo s fd ⟨[v], []⟩ [("script", v)]) ∧ ∀ base : Heap, K.In base → base.Ns mainGlobals mg → FnOk P w K mg base CX0 5 f fd ["script"] (sp_law K) := by
  have T : Tx K mg := tx_of X G c
  obtain ⟨fd, F⟩ := T.at_law.ex
  have e := hfa.symm.trans T.at_law.gl
  cases e
  have b := FunD.bindsA (ps := ["script"]) F fun _ _ _ _ _ _ us hl => match us, hl with | [_], _ => rfl
  exact ⟨fd, fun s v => b s [v] rfl, fun base _ _ => (d_law T).quiet T.at_law.gl F fun _ _ _ _ h => h⟩
end JP
open PySem PySem.W PySem.Calls PyProof.Rows
set_option maxRecDepth 100000 in
set_option maxHeartbeats 0 in
theorem PySem.Challenge.cw_joinpast_k01_polynomial_forms_holds : PySem.Challenge.rw_joinpast_k01_polynomial_forms.Holds := by
  w_on; o_law
  refine HandSHeadRun.head_imp (r := OpenLaw.row PySem.Challenge.rw_joinpast_k01_polynomial_forms) (q := view (OpenLaw.row PySem.Challenge.rw_joinpast_k01_polynomial_forms).prog [0, 60]) (H := JP.hk) (ob := JP.ob) (M := 20000) (loose := JP.loose) (d := HandSHeadRun.topDef (OpenLaw.row PySem.Challenge.rw_joinpast_k01_polynomial_forms).prog 60) (kwd := []) JP.ob_eq
    JP.run (by kernel_rfl) (by kernel_rfl) (by kernel_rfl) (by rfl) (by first | assumption | decide +kernel) (by decide +kernel) ⟨rfl, rfl, rfl, rfl, rfl, by decide +kernel⟩ ?hw ?hc
  case hw => w_witness2
  case hc =>
    refine L2.walk_ofE (l := PySem.Challenge.rw_joinpast_k01_polynomial_forms) (n := 63) (k := 5) (x := "script") (CX := L2.CX0) rfl (by decide) (by kernel_rfl) ⟨rfl, by decide, by decide⟩ ?F (fun _ _ _ _ z => z)
    intro w mg fa h Y G hmg0
    obtain ⟨K, KX, c⟩ := Y
    have hmg : mg ("law" : PySem.Str) = some (.ref fa) := by
      have e : (HandSHeadRun.topDef (OpenLaw.row PySem.Challenge.rw_joinpast_k01_polynomial_forms).prog 60).name = ("law" : PySem.Str) := by kernel_rfl
      rw [← e]
      exact hmg0
    obtain ⟨fd, hb, hF⟩ := JP.facts (P := (PySem.Challenge.rw_joinpast_k01_polynomial_forms).prog) (w := w) KX G hmg c
    exact ⟨K, fd, JP.sp_law K, KX, hb, fun H a ns hl _ hS => ⟨a, ns, rfl, hS, hl, fun _ => rfl⟩, hF⟩
