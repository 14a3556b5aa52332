import PyProof.Rows.All
import Wide.All
import OpenK.AllK
import Wide.FinOn
import HandS.ForMost
import HandS.Head3
import HandS.HeadHook2
import HandS.HeadEnd
import HandS.ForExc
import HandS.IsInst
import HandS.Gcd
import HandS.Wide
import HandS.WideBits
import HandS.ExcIs
import HandS.HotCalls
import KE.DataEq
import HandS.ExcField
import HandS.TryMany
import HandS.ExcInit
import HandS.ExcInitHot
import HandS.ExcValue
import HandS.Conv
import HandS.NoneIn
import HandS.Deep
import HandS.SortInts
import HandS.Flow
import HandS.TupAny
import HandS.DictTup
import HandS.Rev
import HandS.Small
import HandS.Dict
import HandS.More
import HandS.ListItems
import HandS.Iter
import HandS.Comp
import HandS.Words
import HandS.WordsDict
import HandS.List
import HandS.DictComp
import HandS.SortOrd
import HandS.TupLe
import HandS.Text
import KE.KDictDisplayH
import HandS.TupLen
import KE.KExcIs
import PySem.Challenge.RW_joinpast_k04_row_sets
namespace JP
/-- the common part of a top and a bottom, with the bottom's sign -/
def part (t b : Int) : Int := if b < 0 then -((Nat.gcd t.natAbs b.natAbs : Nat) : Int) else ((Nat.gcd t.natAbs b.natAbs : Nat) : Int)
def nrm (t b : Int) : Int × Int := (t.fdiv (part t b), b.fdiv (part t b))
theorem part_ne {t b : Int} (h : b ≠ 0) : part t b ≠ 0 := by
  unfold part
  have : 0 < Nat.gcd t.natAbs b.natAbs := Nat.gcd_pos_of_pos_right _ (by omega)
  split <;> omega
theorem part_dvd_t (t b : Int) : part t b ∣ t := by
  unfold part
  have h : ((Nat.gcd t.natAbs b.natAbs : Nat) : Int) ∣ t := Int.ofNat_dvd_left.mpr (Nat.gcd_dvd_left _ _)
  split
  · exact Int.neg_dvd.mpr h
  · exact h
theorem part_dvd_b (t b : Int) : part t b ∣ b := by
  unfold part
  have h : ((Nat.gcd t.natAbs b.natAbs : Nat) : Int) ∣ b := Int.ofNat_dvd_left.mpr (Nat.gcd_dvd_right _ _)
  split
  · exact Int.neg_dvd.mpr h
  · exact h
theorem part_abs (t b : Int) : (part t b).natAbs = Nat.gcd t.natAbs b.natAbs := by
  unfold part
  split <;> omega
theorem fdiv_of_mul {k p : Int} (h : k ≠ 0) : (k * p).fdiv k = p := by
  rw [Int.fdiv_eq_ediv_of_dvd (Int.dvd_mul_right k p)]
  exact Int.mul_ediv_cancel_left p h
theorem pos_of_mul_pos {k p : Int} (hk : 0 < k) (h : 0 < k * p) : 0 < p := by
  rcases Int.lt_or_le 0 p with z | z
  · exact z
  · exact absurd (Int.mul_nonpos_of_nonneg_of_nonpos (Int.le_of_lt hk) z) (by omega)
theorem pos_of_mul_neg {k p : Int} (hk : k < 0) (h : k * p < 0) : 0 < p := by
  rcases Int.lt_or_le 0 p with z | z
  · exact z
  · exact absurd (Int.mul_nonneg_of_nonpos_of_nonpos (Int.le_of_lt hk) z) (by omega)
theorem nrm_spec {t b : Int} (h : b ≠ 0) : ∃ k : Int, k ≠ 0 ∧ k = part t b ∧ t = k * (nrm t b).1 ∧ b = k * (nrm t b).2 ∧ 0 < (nrm t b).2 ∧ Nat.gcd (nrm t b).1.natAbs (nrm t b).2.natAbs = 1 := by
  have hk := part_ne (t := t) h
  obtain ⟨p, hp⟩ := part_dvd_t t b
  obtain ⟨q, hq⟩ := part_dvd_b t b
  have e1 : (nrm t b).1 = p := by
    show t.fdiv (part t b) = p
    conv => lhs; arg 1; rw [hp]
    exact fdiv_of_mul hk
  have e2 : (nrm t b).2 = q := by
    show b.fdiv (part t b) = q
    conv => lhs; arg 1; rw [hq]
    exact fdiv_of_mul hk
  refine ⟨part t b, hk, rfl, by rw [e1]; exact hp, by rw [e2]; exact hq, ?_, ?_⟩
  · rw [e2]
    have s : (b < 0 ∧ part t b < 0) ∨ (0 < b ∧ 0 < part t b) := by
      have : 0 < Nat.gcd t.natAbs b.natAbs := Nat.gcd_pos_of_pos_right _ (by omega)
      by_cases hb : b < 0
      · refine .inl ⟨hb, ?_⟩
        unfold part; rw [if_pos hb]; omega
      · refine .inr ⟨by omega, ?_⟩
        unfold part; rw [if_neg hb]; omega
    rcases s with ⟨s1, s2⟩ | ⟨s1, s2⟩
    · rw [hq] at s1
      exact pos_of_mul_neg s2 s1
    · rw [hq] at s1
      exact pos_of_mul_pos s2 s1
  · rw [e1, e2]
    have g := part_abs t b
    have a1 : t.natAbs = (part t b).natAbs * p.natAbs := by conv => lhs; rw [hp]; rw [Int.natAbs_mul]
    have a2 : b.natAbs = (part t b).natAbs * q.natAbs := by conv => lhs; rw [hq]; rw [Int.natAbs_mul]
    have a3 : (part t b).natAbs = (part t b).natAbs * Nat.gcd p.natAbs q.natAbs := by
      rw [← Nat.gcd_mul_left, ← a1, ← a2]; exact g
    have a4 : 0 < (part t b).natAbs := by omega
    have a5 : (part t b).natAbs * 1 = (part t b).natAbs * Nat.gcd p.natAbs q.natAbs := by rw [Nat.mul_one]; exact a3
    exact (Nat.eq_of_mul_eq_mul_left a4 a5).symm
theorem low_uniq {p q p' q' : Int} (h : 0 < q) (h' : 0 < q') (c : Nat.gcd p.natAbs q.natAbs = 1) (c' : Nat.gcd p'.natAbs q'.natAbs = 1) (e : p * q' = p' * q) : p = p' ∧ q = q' := by
  have n1 : p.natAbs * q'.natAbs = p'.natAbs * q.natAbs := by rw [← Int.natAbs_mul, ← Int.natAbs_mul, e]
  have d1 : q.natAbs ∣ q'.natAbs := by
    have : q.natAbs ∣ p.natAbs * q'.natAbs := by rw [n1]; exact Nat.dvd_mul_left _ _
    exact Nat.Coprime.dvd_of_dvd_mul_left (Nat.Coprime.symm c) this
  have d2 : q'.natAbs ∣ q.natAbs := by
    have : q'.natAbs ∣ p'.natAbs * q.natAbs := by rw [← n1]; exact Nat.dvd_mul_left _ _
    exact Nat.Coprime.dvd_of_dvd_mul_left (Nat.Coprime.symm c') this
  have e1 : q.natAbs = q'.natAbs := Nat.dvd_antisymm d1 d2
  have e2 : q = q' := by omega
  subst e2
  exact ⟨Int.eq_of_mul_eq_mul_right (by omega) e, rfl⟩
theorem nrm_eq {t b t' b' : Int} (h : b ≠ 0) (h' : b' ≠ 0) (e : t * b' = t' * b) : nrm t b = nrm t' b' := by
  obtain ⟨k, hk, _, e1, e2, q1, c1⟩ := nrm_spec (t := t) h
  obtain ⟨k', hk', _, e1', e2', q1', c1'⟩ := nrm_spec (t := t') h'
  have z : (nrm t b).1 * (nrm t' b').2 = (nrm t' b').1 * (nrm t b).2 := by
    have e3 : (k * k') * ((nrm t b).1 * (nrm t' b').2) = (k * k') * ((nrm t' b').1 * (nrm t b).2) := by
      calc (k * k') * ((nrm t b).1 * (nrm t' b').2) = (k * (nrm t b).1) * (k' * (nrm t' b').2) := by ac_rfl
        _ = t * b' := by rw [← e1, ← e2']
        _ = t' * b := e
        _ = (k' * (nrm t' b').1) * (k * (nrm t b).2) := by rw [← e1', ← e2]
        _ = (k * k') * ((nrm t' b').1 * (nrm t b).2) := by ac_rfl
    exact Int.eq_of_mul_eq_mul_left (Int.mul_ne_zero hk hk') e3
  obtain ⟨a1, a2⟩ := low_uniq q1 q1' c1 c1' z
  exact Prod.ext a1 a2
/-- a pair (t, b) has the value of the pair m in lowest terms -/
structure Val (t b : Int) (m : Int × Int) : Prop where
  nb : b ≠ 0
  is : nrm t b = m
theorem Val.pos {t b : Int} {m : Int × Int} (v : Val t b m) : 0 < m.2 := by
  obtain ⟨k, _, _, _, _, q, _⟩ := nrm_spec (t := t) v.nb
  rw [← v.is]; exact q
theorem Val.ex {t b : Int} {m : Int × Int} (v : Val t b m) : ∃ k : Int, k ≠ 0 ∧ t = k * m.1 ∧ b = k * m.2 := by
  obtain ⟨k, hk, _, e1, e2, _, _⟩ := nrm_spec (t := t) v.nb
  rw [v.is] at e1 e2
  exact ⟨k, hk, e1, e2⟩
theorem Val.zero {t b : Int} {m : Int × Int} (v : Val t b m) : t = 0 ↔ m.1 = 0 := by
  obtain ⟨k, hk, e1, e2⟩ := v.ex
  constructor
  · intro h
    rw [h] at e1
    rcases Int.mul_eq_zero.mp e1.symm with h | h
    · exact absurd h hk
    · exact h
  · intro h
    rw [e1, h, Int.mul_zero]
theorem Val.nm {t b : Int} (h : b ≠ 0) : Val t b (nrm t b) := ⟨h, rfl⟩
theorem Val.self {t b : Int} {m : Int × Int} (v : Val t b m) : Val m.1 m.2 m := by
  have p := v.pos
  obtain ⟨k, hk, e1, e2⟩ := v.ex
  refine ⟨by omega, ?_⟩
  rw [← v.is]
  have : nrm m.1 m.2 = nrm t b := nrm_eq (by omega) v.nb (by rw [e1, e2]; ac_rfl)
  rw [v.is] at this ⊢; exact this
theorem Val.scale {t b c : Int} {m : Int × Int} (v : Val t b m) (hc : c ≠ 0) : Val (t * c) (b * c) m :=
  ⟨Int.mul_ne_zero v.nb hc, by rw [← v.is]; exact nrm_eq (Int.mul_ne_zero v.nb hc) v.nb (by ac_rfl)⟩
theorem nrm_plus {t b t' b' : Int} {m m' : Int × Int} (v : Val t b m) (v' : Val t' b' m') : nrm (t * b' + t' * b) (b * b') = nrm (m.1 * m'.2 + m'.1 * m.2) (m.2 * m'.2) := by
  obtain ⟨k, hk, e1, e2⟩ := v.ex
  obtain ⟨k', hk', e1', e2'⟩ := v'.ex
  have p := v.pos
  have p' := v'.pos
  refine nrm_eq (Int.mul_ne_zero v.nb v'.nb) (Int.mul_ne_zero (by omega) (by omega)) ?_
  rw [e1, e2, e1', e2']
  have a1 : k * m.1 * (k' * m'.2) + k' * m'.1 * (k * m.2) = (k * k') * (m.1 * m'.2 + m'.1 * m.2) := by rw [Int.mul_add]; congr 1 <;> ac_rfl
  rw [a1]; ac_rfl
theorem nrm_times {t b t' b' : Int} {m m' : Int × Int} (v : Val t b m) (v' : Val t' b' m') : nrm (t * t') (b * b') = nrm (m.1 * m'.1) (m.2 * m'.2) := by
  obtain ⟨k, hk, e1, e2⟩ := v.ex
  obtain ⟨k', hk', e1', e2'⟩ := v'.ex
  have p := v.pos
  have p' := v'.pos
  refine nrm_eq (Int.mul_ne_zero v.nb v'.nb) (Int.mul_ne_zero (by omega) (by omega)) ?_
  rw [e1, e2, e1', e2']
  ac_rfl
theorem nrm_over {t b t' b' : Int} {m m' : Int × Int} (v : Val t b m) (v' : Val t' b' m') (h : m'.1 ≠ 0) : nrm (t * b') (b * t') = nrm (m.1 * m'.2) (m.2 * m'.1) := by
  obtain ⟨k, hk, e1, e2⟩ := v.ex
  obtain ⟨k', hk', e1', e2'⟩ := v'.ex
  have p := v.pos
  have p' := v'.pos
  have ht : t' ≠ 0 := fun z => h (v'.zero.mp z)
  refine nrm_eq (Int.mul_ne_zero v.nb ht) (Int.mul_ne_zero (by omega) h) ?_
  rw [e1, e2, e1', e2']
  ac_rfl
/-! sizes -/
theorem nrm_le {t b : Int} (h : b ≠ 0) : (nrm t b).1.natAbs ≤ t.natAbs ∧ (nrm t b).2.natAbs ≤ b.natAbs := by
  obtain ⟨k, hk, _, e1, e2, _, _⟩ := nrm_spec (t := t) h
  have k0 : 1 ≤ k.natAbs := by omega
  constructor
  · conv => rhs; rw [e1, Int.natAbs_mul]
    exact Nat.le_mul_of_pos_left _ k0
  · conv => rhs; rw [e2, Int.natAbs_mul]
    exact Nat.le_mul_of_pos_left _ k0
theorem part_le {t b : Int} (h : b ≠ 0) : (part t b).natAbs ≤ b.natAbs := by
  rw [part_abs]
  exact Nat.le_of_dvd (by omega) (Nat.gcd_dvd_right _ _)
/-! the loop of _law_gcd -/
/-- what holds ahead of turn i; n: the bits of the second number -/
structure GcdAt (g n i : Nat) (x y : Nat) : Prop where
  gc : Nat.gcd x y = g
  ev : i % 2 = 0 → y < 2 ^ (n - i / 2)
  od : i % 2 = 1 → x < 2 ^ (n - i / 2) ∧ y < x
theorem GcdAt.next {g n i x y : Nat} (h : GcdAt g n i x y) (hy : y ≠ 0) (hi : i < 2 * n + 1) : GcdAt g n (i + 1) y (x % y) := by
  refine ⟨?_, fun e => ?_, fun e => ?_⟩
  · rw [← h.gc, Nat.gcd_comm x y, Nat.gcd_rec y x, Nat.gcd_comm]
  · obtain ⟨a, b⟩ := h.od (by omega)
    have e2 : (i + 1) / 2 = i / 2 + 1 := by omega
    rw [e2]
    have hn : i / 2 < n := by omega
    have e3 : 2 ^ (n - i / 2) = 2 * 2 ^ (n - (i / 2 + 1)) := by
      rw [show n - i / 2 = (n - (i / 2 + 1)) + 1 by omega, Nat.pow_succ]; omega
    rw [e3] at a
    have m1 : x % y < y := Nat.mod_lt _ (by omega)
    have m2 : x = y * (x / y) + x % y := (Nat.div_add_mod x y).symm
    have m3 : 1 ≤ x / y := (Nat.one_le_div_iff (by omega)).mpr (by omega)
    have m4 : y * 1 ≤ y * (x / y) := Nat.mul_le_mul_left y m3
    omega
  · have a := h.ev (by omega)
    have e2 : (i + 1) / 2 = i / 2 := by omega
    rw [e2]
    exact ⟨a, Nat.mod_lt _ (by omega)⟩
theorem GcdAt.done {g n x y : Nat} (h : GcdAt g n (2 * n + 2) x y) : x = g := by
  have a := h.ev (by omega)
  have e : n - (2 * n + 2) / 2 = 0 := by omega
  rw [e] at a
  have : y = 0 := by omega
  rw [this] at h
  have := h.gc
  rw [Nat.gcd_zero_right] at this; exact this
theorem GcdAt.over {g n x y : Nat} (h : GcdAt g n (2 * n + 1) x y) : False := by
  obtain ⟨a, b⟩ := h.od (by omega)
  have e : n - (2 * n + 1) / 2 = 0 := by omega
  rw [e] at a
  omega
theorem GcdAt.ret {g n i x : Nat} (h : GcdAt g n i x 0) : x = g := by
  have := h.gc
  rw [Nat.gcd_zero_right] at this; exact this
end JP
namespace JP
/-! polynomials as lists of pairs of a shift and a coefficient -/
abbrev Pr := Int × Int
/-- the coefficient at a shift -/
def cf : List Pr → Int → Int
  | [], _ => 0
  | p :: r, s => (if p.1 = s then p.2 else 0) + cf r s
theorem cf_append (a b : List Pr) (s : Int) : cf (a ++ b) s = cf a s + cf b s := by
  induction a with
  | nil => simp [cf]
  | cons p r ih => simp only [List.cons_append, cf, ih]; omega
theorem cf_one (s c t : Int) : cf [(s, c)] t = if s = t then c else 0 := by simp [cf]
def Asc (R : List Pr) : Prop := R.Pairwise fun a b => a.1 < b.1
/-- the polynomial with the coefficients f: ascending, no coefficient 0 -/
structure IsP (f : Int → Int) (R : List Pr) : Prop where
  asc : Asc R
  nz : ∀ p ∈ R, p.2 ≠ 0
  cfs : ∀ s, cf R s = f s
theorem cf_out {R : List Pr} {s : Int} (h : ∀ p ∈ R, p.1 ≠ s) : cf R s = 0 := by
  induction R with
  | nil => rfl
  | cons p r ih =>
    have h1 := h p List.mem_cons_self
    show (if p.1 = s then p.2 else 0) + cf r s = 0
    rw [if_neg h1, ih fun q hq => h q (List.mem_cons_of_mem _ hq)]
    rfl
theorem cf_in {R : List Pr} (a : Asc R) {p : Pr} (h : p ∈ R) : cf R p.1 = p.2 := by
  induction R with
  | nil => cases h
  | cons q r ih =>
    obtain ⟨a1, a2⟩ := List.pairwise_cons.mp a
    rcases List.mem_cons.mp h with rfl | h
    · show (if p.1 = p.1 then p.2 else 0) + cf r p.1 = p.2
      rw [if_pos rfl, cf_out fun q hq => by have := a1 q hq; omega]
      omega
    · have := a1 p h
      show (if q.1 = p.1 then q.2 else 0) + cf r p.1 = p.2
      rw [if_neg (by omega), ih a2 h]
      omega
theorem IsP.mem {f : Int → Int} {R : List Pr} (i : IsP f R) (p : Pr) : p ∈ R ↔ p.2 = f p.1 ∧ p.2 ≠ 0 := by
  constructor
  · intro h
    exact ⟨by rw [← i.cfs, cf_in i.asc h], i.nz p h⟩
  · rintro ⟨h1, h2⟩
    by_cases e : ∃ q ∈ R, q.1 = p.1
    · obtain ⟨q, hq, e⟩ := e
      have z := cf_in i.asc hq
      rw [i.cfs, e, ← h1] at z
      have : q = p := Prod.ext e z.symm
      exact this ▸ hq
    · have : cf R p.1 = 0 := cf_out fun q hq z => e ⟨q, hq, z⟩
      rw [i.cfs, ← h1] at this
      exact absurd this h2
theorem asc_ext : ∀ {R S : List Pr}, Asc R → Asc S → (∀ p, p ∈ R ↔ p ∈ S) → R = S
  | [], [], _, _, _ => rfl
  | [], q :: S, _, _, h => by have := (h q).mpr List.mem_cons_self; cases this
  | p :: R, [], _, _, h => by have := (h p).mp List.mem_cons_self; cases this
  | p :: R, q :: S, a, b, h => by
    obtain ⟨a1, a2⟩ := List.pairwise_cons.mp a
    obtain ⟨b1, b2⟩ := List.pairwise_cons.mp b
    have e : p = q := by
      rcases List.mem_cons.mp ((h p).mp List.mem_cons_self) with e | h1
      · exact e
      · rcases List.mem_cons.mp ((h q).mpr List.mem_cons_self) with e | h2
        · exact e.symm
        · have := b1 p h1
          have := a1 q h2
          omega
    subst e
    rw [asc_ext a2 b2 fun r => ?_]
    constructor
    · intro hr
      rcases List.mem_cons.mp ((h r).mp (List.mem_cons_of_mem _ hr)) with e | h1
      · have := a1 r hr
        rw [e] at this
        omega
      · exact h1
    · intro hr
      rcases List.mem_cons.mp ((h r).mpr (List.mem_cons_of_mem _ hr)) with e | h1
      · have := b1 r hr
        rw [e] at this
        omega
      · exact h1
theorem IsP.uniq {f : Int → Int} {R S : List Pr} (a : IsP f R) (b : IsP f S) : R = S := asc_ext a.asc b.asc fun p => by rw [a.mem, b.mem]
theorem IsP.uniq' {f g : Int → Int} {R S : List Pr} (a : IsP f R) (b : IsP g S) (e : ∀ s, f s = g s) : R = S := a.uniq (by have : f = g := funext e; rw [this]; exact b)
theorem IsP.self {f : Int → Int} {R : List Pr} (a : IsP f R) : IsP (cf R) R := ⟨a.asc, a.nz, fun _ => rfl⟩
/-! weights: the sum of the sizes of the coefficients -/
def wt : List Pr → Nat
  | [] => 0
  | p :: r => p.2.natAbs + wt r
theorem wt_append (a b : List Pr) : wt (a ++ b) = wt a + wt b := by
  induction a with
  | nil => simp [wt]
  | cons p r ih => simp only [List.cons_append, wt, ih]; omega
theorem cf_wt (ps : List Pr) (s : Int) : (cf ps s).natAbs ≤ wt ps := by
  induction ps with
  | nil => exact Nat.le_refl _
  | cons p r ih => simp only [cf, wt]; split <;> omega
/-- the sum of the sizes of f at different shifts -/
def wts (f : Int → Int) : List Int → Nat
  | [] => 0
  | s :: r => (f s).natAbs + wts f r
theorem wts_le (ps : List Pr) (ss : List Int) (h : ss.Nodup) : wts (cf ps) ss ≤ wt ps := by
  induction ps with
  | nil =>
    induction ss with
    | nil => exact Nat.le_refl _
    | cons s r ih => obtain ⟨_, h2⟩ := List.nodup_cons.mp h; have := ih h2; simp only [wts, cf, wt] at *; omega
  | cons p r ih =>
    have key : ∀ ss : List Int, ss.Nodup → wts (cf (p :: r)) ss ≤ (if p.1 ∈ ss then p.2.natAbs else 0) + wts (cf r) ss := by
      intro ss
      induction ss with
      | nil => intro _; exact Nat.zero_le _
      | cons s q ih2 =>
        intro h
        obtain ⟨h1, h2⟩ := List.nodup_cons.mp h
        have := ih2 h2
        have e0 : cf (p :: r) s = (if p.1 = s then p.2 else 0) + cf r s := rfl
        show (cf (p :: r) s).natAbs + wts (cf (p :: r)) q ≤ _
        have w0 : wts (cf r) (s :: q) = (cf r s).natAbs + wts (cf r) q := rfl
        rw [w0, e0]
        by_cases e : p.1 = s
        · have n1 : p.1 ∉ q := e ▸ h1
          rw [if_neg n1] at this
          rw [if_pos e, if_pos (e ▸ List.mem_cons_self)]
          omega
        · rw [if_neg e]
          by_cases m : p.1 ∈ q
          · rw [if_pos m] at this
            rw [if_pos (List.mem_cons_of_mem _ m)]
            omega
          · rw [if_neg m] at this
            rw [if_neg (by simp only [List.mem_cons, not_or]; exact ⟨e, m⟩)]
            omega
    have := key ss h
    have := ih
    simp only [wt]
    split at * <;> omega
theorem asc_nodup {R : List Pr} (a : Asc R) : (R.map (·.1)).Nodup := by
  rw [List.nodup_iff_pairwise_ne, List.pairwise_map]
  exact a.imp fun h => by omega
theorem wt_map {f : Int → Int} : ∀ {R : List Pr}, (∀ p ∈ R, p.2 = f p.1) → wt R = wts f (R.map (·.1))
  | [], _ => rfl
  | p :: r, h => by
    have := wt_map (R := r) fun q hq => h q (List.mem_cons_of_mem _ hq)
    have e := h p List.mem_cons_self
    simp only [wt, List.map_cons, wts]
    omega
theorem IsP.wt_le {ps R : List Pr} (i : IsP (cf ps) R) : wt R ≤ wt ps := by
  rw [wt_map (f := cf ps) fun p hp => ((i.mem p).mp hp).1]
  exact wts_le ps _ (asc_nodup i.asc)
theorem wt_in {R : List Pr} {p : Pr} (h : p ∈ R) : p.2.natAbs ≤ wt R := by
  induction R with
  | nil => cases h
  | cons q r ih =>
    simp only [wt]
    rcases List.mem_cons.mp h with rfl | h
    · omega
    · have := ih h; omega
/-! products -/
def prd (p q : List Pr) : List Pr := p.flatMap fun a => q.map fun b => (a.1 + b.1, a.2 * b.2)
theorem cf_row (a : Pr) (q : List Pr) (s : Int) : cf (q.map fun b => (a.1 + b.1, a.2 * b.2)) s = a.2 * cf q (s - a.1) := by
  induction q with
  | nil => simp [cf]
  | cons b r ih =>
    simp only [List.map_cons, cf, ih, Int.mul_add]
    by_cases e : a.1 + b.1 = s
    · rw [if_pos e, if_pos (by omega)]
    · rw [if_neg e, if_neg (by omega)]
      simp
theorem cf_prd_cons (a : Pr) (p q : List Pr) (s : Int) : cf (prd (a :: p) q) s = a.2 * cf q (s - a.1) + cf (prd p q) s := by
  show cf ((q.map fun b => (a.1 + b.1, a.2 * b.2)) ++ prd p q) s = _
  rw [cf_append, cf_row]
theorem prd_right {q q' : List Pr} (h : ∀ s, cf q s = cf q' s) (p : List Pr) (s : Int) : cf (prd p q) s = cf (prd p q') s := by
  induction p with
  | nil => rfl
  | cons a r ih => rw [cf_prd_cons, cf_prd_cons, h, ih]
theorem cf_prd_nil (p : List Pr) (s : Int) : cf (prd p []) s = 0 := by
  induction p with
  | nil => rfl
  | cons a r ih => rw [cf_prd_cons, ih]; simp [cf]
theorem cf_prd_cons' (p : List Pr) (b : Pr) (q : List Pr) (s : Int) : cf (prd p (b :: q)) s = b.2 * cf p (s - b.1) + cf (prd p q) s := by
  induction p with
  | nil => simp [prd, cf]
  | cons a r ih =>
    rw [cf_prd_cons, cf_prd_cons, ih]
    simp only [cf, Int.mul_add]
    have e : (a.1 = s - b.1) ↔ (b.1 = s - a.1) := by omega
    by_cases h : a.1 = s - b.1
    · rw [if_pos h, if_pos (e.mp h), Int.mul_comm a.2 b.2]
      omega
    · rw [if_neg h, if_neg (fun z => h (e.mpr z))]
      simp only [Int.mul_zero]
      omega
theorem prd_comm (p q : List Pr) (s : Int) : cf (prd p q) s = cf (prd q p) s := by
  induction p with
  | nil => rw [cf_prd_nil]; rfl
  | cons a r ih => rw [cf_prd_cons, cf_prd_cons', ih]
theorem prd_left {p p' : List Pr} (h : ∀ s, cf p s = cf p' s) (q : List Pr) (s : Int) : cf (prd p q) s = cf (prd p' q) s := by
  rw [prd_comm, prd_right h, prd_comm]
theorem prd_both {p p' q q' : List Pr} (h : ∀ s, cf p s = cf p' s) (h' : ∀ s, cf q s = cf q' s) (s : Int) : cf (prd p q) s = cf (prd p' q') s := by
  rw [prd_left h, prd_right h']
theorem wt_row (a : Pr) (q : List Pr) : wt (q.map fun b => (a.1 + b.1, a.2 * b.2)) = a.2.natAbs * wt q := by
  induction q with
  | nil => rfl
  | cons b r ih => simp only [List.map_cons, wt, ih, Int.natAbs_mul, Nat.mul_add]
theorem wt_prd (p q : List Pr) : wt (prd p q) = wt p * wt q := by
  induction p with
  | nil => simp [prd, wt]
  | cons a r ih =>
    show wt ((q.map fun b => (a.1 + b.1, a.2 * b.2)) ++ prd r q) = _
    rw [wt_append, wt_row, ih, wt, Nat.add_mul]
theorem length_prd (p q : List Pr) : (prd p q).length = p.length * q.length := by
  induction p with
  | nil => simp [prd]
  | cons a r ih =>
    show ((q.map fun b => (a.1 + b.1, a.2 * b.2)) ++ prd r q).length = _
    rw [List.length_append, List.length_map, ih, List.length_cons, Nat.add_mul]
    omega
/-! the normal polynomial -/
def ggcd : List Pr → Nat → Nat
  | [], g => g
  | p :: r, g => ggcd r (Nat.gcd g p.2.natAbs)
theorem ggcd_dvd : ∀ (R : List Pr) (g : Nat), ggcd R g ∣ g ∧ ∀ p ∈ R, ggcd R g ∣ p.2.natAbs
  | [], g => ⟨Nat.dvd_refl _, fun _ h => by cases h⟩
  | q :: r, g => by
    obtain ⟨a, b⟩ := ggcd_dvd r (Nat.gcd g q.2.natAbs)
    refine ⟨Nat.dvd_trans a (Nat.gcd_dvd_left _ _), fun p hp => ?_⟩
    rcases List.mem_cons.mp hp with rfl | hp
    · exact Nat.dvd_trans a (Nat.gcd_dvd_right _ _)
    · exact b p hp
def npart (R : List Pr) : Int := if (R.getLastD (0, 0)).2 < 0 then -((ggcd R 0 : Nat) : Int) else ((ggcd R 0 : Nat) : Int)
/-- the normal polynomial of one in its form -/
def nrmP (R : List Pr) : List Pr := R.map fun p => (p.1 - (R.headD (0, 0)).1, p.2.fdiv (npart R))
theorem npart_dvd {R : List Pr} {p : Pr} (h : p ∈ R) : npart R ∣ p.2 := by
  have d : ((ggcd R 0 : Nat) : Int) ∣ p.2 := Int.ofNat_dvd_left.mpr ((ggcd_dvd R 0).2 p h)
  unfold npart
  split
  · exact Int.neg_dvd.mpr d
  · exact d
theorem npart_ne {R : List Pr} {p : Pr} (h : p ∈ R) (hz : p.2 ≠ 0) : npart R ≠ 0 := by
  intro e
  have := npart_dvd h
  rw [e] at this
  exact hz (Int.zero_dvd.mp this)
theorem npart_le {R : List Pr} {p : Pr} (h : p ∈ R) (hz : p.2 ≠ 0) : (npart R).natAbs ≤ p.2.natAbs := by
  exact Nat.le_of_dvd (by omega) (Int.natAbs_dvd_natAbs.mpr (npart_dvd h))
theorem nrmP_isP {f : Int → Int} {R : List Pr} (i : IsP f R) : IsP (cf (nrmP R)) (nrmP R) := by
  refine ⟨?_, ?_, fun _ => rfl⟩
  · unfold Asc nrmP
    rw [List.pairwise_map]
    exact i.asc.imp fun h => by dsimp only; omega
  · intro p hp
    obtain ⟨q, hq, rfl⟩ := List.mem_map.mp hp
    have hz := i.nz q hq
    have hn := npart_ne hq hz
    obtain ⟨k, hk⟩ := npart_dvd hq
    show q.2.fdiv (npart R) ≠ 0
    rw [Int.fdiv_eq_ediv_of_dvd ⟨k, hk⟩, hk, Int.mul_ediv_cancel_left _ hn]
    intro z
    rw [z, Int.mul_zero] at hk
    exact hz hk
theorem length_nrmP (R : List Pr) : (nrmP R).length = R.length := List.length_map ..
theorem nodup_le : ∀ {l m : List Int}, l.Nodup → (∀ x ∈ l, x ∈ m) → l.length ≤ m.length
  | [], _, _, _ => Nat.zero_le _
  | x :: l, m, h, s => by
    obtain ⟨h1, h2⟩ := List.nodup_cons.mp h
    have hx := s x List.mem_cons_self
    have := nodup_le (m := m.erase x) h2 fun y hy => (List.mem_erase_of_ne (fun z : y = x => h1 (by rw [← z]; exact hy))).mpr (s y (List.mem_cons_of_mem _ hy))
    rw [List.length_erase_of_mem hx] at this
    have := List.length_pos_of_mem hx
    show l.length + 1 ≤ _
    omega
theorem IsP.length_le {ps R : List Pr} (i : IsP (cf ps) R) : R.length ≤ ps.length := by
  have := nodup_le (m := ps.map (·.1)) (asc_nodup i.asc) fun x hx => by
    obtain ⟨p, hp, rfl⟩ := List.mem_map.mp hx
    refine Decidable.byContradiction fun z => ?_
    have h1 := (i.mem p).mp hp
    have : cf ps p.1 = 0 := cf_out fun q hq e => z (List.mem_map.mpr ⟨q, hq, e⟩)
    omega
  rw [List.length_map, List.length_map] at this
  exact this
end JP
namespace JP
/-! dense polynomials: the numbers of l belong to the shifts from s on -/
def dn : Int → List Int → List Pr
  | _, [] => []
  | s, c :: r => (s, c) :: dn (s + 1) r
theorem length_dn (l : List Int) : ∀ s, (dn s l).length = l.length := by
  induction l with
  | nil => intro _; rfl
  | cons c r ih => intro s; show (dn (s + 1) r).length + 1 = r.length + 1; rw [ih]
/-- the number at a place, 0 outside -/
def at0 (l : List Int) (i : Int) : Int := if 0 ≤ i then l.getD i.toNat 0 else 0
theorem cf_dn (l : List Int) : ∀ s t, cf (dn s l) t = at0 l (t - s) := by
  induction l with
  | nil => intro s t; show 0 = at0 [] _; unfold at0; split <;> simp
  | cons c r ih =>
    intro s t
    show (if s = t then c else 0) + cf (dn (s + 1) r) t = _
    rw [ih]
    unfold at0
    by_cases e : s = t
    · subst e
      rw [if_pos rfl, if_neg (by omega), if_pos (by omega), show (s - s).toNat = 0 by omega]
      simp
    · rw [if_neg e]
      by_cases h : s < t
      · rw [if_pos (by omega), if_pos (by omega), show (t - s).toNat = (t - (s + 1)).toNat + 1 by omega, List.getD_cons_succ]
        omega
      · rw [if_neg (by omega), if_neg (by omega)]
        rfl
theorem at0_ix (l : List Int) {i : Nat} {c : Int} (h : l[i]? = some c) : at0 l i = c := by
  unfold at0
  rw [if_pos (by omega), Int.toNat_natCast, List.getD_eq_getElem?_getD, h]
  rfl
theorem at0_out (l : List Int) {i : Int} (h : i < 0 ∨ (l.length : Int) ≤ i) : at0 l i = 0 := by
  unfold at0
  split
  · rw [List.getD_eq_getElem?_getD, List.getElem?_eq_none (by omega)]
    rfl
  · rfl
theorem at0_map (u : Int) (l : List Int) (i : Int) : at0 (l.map (u * ·)) i = u * at0 l i := by
  unfold at0
  split
  · rw [List.getD_eq_getElem?_getD, List.getD_eq_getElem?_getD, List.getElem?_map]
    cases l[i.toNat]? <;> simp
  · simp
theorem at0_set (l : List Int) (n : Nat) (c : Int) (h : n < l.length) (i : Int) : at0 (l.set n c) i = if i = n then c else at0 l i := by
  unfold at0
  by_cases e : i = n
  · subst e
    rw [if_pos (by omega), if_pos rfl, List.getD_eq_getElem?_getD, Int.toNat_natCast, List.getElem?_set_self h]
    rfl
  · rw [if_neg e]
    split
    · rw [List.getD_eq_getElem?_getD, List.getD_eq_getElem?_getD, List.getElem?_set_ne (by omega)]
    · rfl
theorem at0_ext {l m : List Int} (hl : l.length = m.length) (h : ∀ i, at0 l i = at0 m i) : l = m := by
  refine List.ext_getElem hl fun i h1 h2 => ?_
  have := h i
  rw [at0_ix l (List.getElem?_eq_getElem h1), at0_ix m (List.getElem?_eq_getElem h2)] at this
  exact this
/-- one step of the division: number = rest[at + end] -/
structure Dst where
  m : Int
  q : List Int
  r : List Int
/-- up * r - down * D, D moved by a; in place -/
def sub1 (up down : Int) (D : List Int) (a : Nat) (r : List Int) : List Int := r.zipIdx.map fun x => up * x.1 - down * at0 D ((x.2 : Int) - a)
theorem length_sub1 (up down : Int) (D : List Int) (a : Nat) (r : List Int) : (sub1 up down D a r).length = r.length := by
  unfold sub1
  rw [List.length_map, List.length_zipIdx]
theorem at0_sub1 (up down : Int) (D : List Int) (a : Nat) (r : List Int) (h : a + D.length ≤ r.length) (i : Int) : at0 (sub1 up down D a r) i = up * at0 r i - down * at0 D (i - a) := by
  by_cases hi : 0 ≤ i ∧ i < r.length
  · obtain ⟨n, rfl⟩ : ∃ n : Nat, i = n := ⟨i.toNat, by omega⟩
    have hn : n < r.length := by omega
    rw [at0_ix (sub1 up down D a r) (c := up * r[n] - down * at0 D ((n : Int) - a)) (by unfold sub1; rw [List.getElem?_map, List.getElem?_zipIdx, List.getElem?_eq_getElem hn]; simp), at0_ix r (List.getElem?_eq_getElem hn)]
  · rw [at0_out (sub1 up down D a r) (by rw [length_sub1]; omega), at0_out r (by omega), at0_out D (by omega)]
    simp
def dstep (D : List Int) (s : Dst) (a e : Nat) : Dst :=
  let n := s.r.getD (a + e) 0
  if n = 0 then s else
    let d := D.getD e 0
    let g : Int := (Nat.gcd n.natAbs d.natAbs : Nat)
    let part := if d < 0 then -g else g
    let up := d.fdiv part
    let down := n.fdiv part
    ⟨s.m * up, (s.q.map (up * ·)).set a down, sub1 up down D a s.r⟩
/-! linear -/
theorem prd_app (A B Y : List Pr) : prd (A ++ B) Y = prd A Y ++ prd B Y := List.flatMap_append
theorem cf_prd_scl (u : Int) (Y : List Pr) (t : Int) : ∀ A : List Pr, cf (prd (A.map fun p => (p.1, u * p.2)) Y) t = u * cf (prd A Y) t
  | [] => by simp [prd, cf]
  | a :: A => by
    show cf (prd ((a.1, u * a.2) :: A.map _) Y) t = _
    rw [cf_prd_cons, cf_prd_cons, cf_prd_scl u Y t A, Int.mul_add, Int.mul_assoc]
theorem cf_scl (u : Int) (t : Int) : ∀ A : List Pr, cf (A.map fun p => (p.1, u * p.2)) t = u * cf A t
  | [] => by simp [cf]
  | a :: A => by
    show (if a.1 = t then u * a.2 else 0) + cf (A.map _) t = u * ((if a.1 = t then a.2 else 0) + cf A t)
    rw [cf_scl u t A, Int.mul_add]
    split <;> simp
def conv (q D : List Int) (t : Int) : Int := cf (prd (dn 0 q) (dn 0 D)) t
theorem conv_step {q q' D : List Int} {u c : Int} {a : Nat} (h : ∀ i, at0 q' i = u * at0 q i + if i = a then c else 0) (t : Int) : conv q' D t = u * conv q D t + c * at0 D (t - a) := by
  unfold conv
  rw [prd_left (p' := ((dn 0 q).map fun p => (p.1, u * p.2)) ++ [((a : Int), c)]) (fun s => ?_), prd_app, cf_append, cf_prd_scl, cf_prd_cons, cf_dn]
  · show u * _ + (c * at0 D (t - a - 0) + 0) = _
    rw [Int.sub_zero, Int.add_zero]
  · rw [cf_append, cf_scl, cf_dn, cf_dn, cf_one, h, Int.sub_zero]
    by_cases e : (a : Int) = s
    · rw [if_pos e, if_pos e.symm]
    · rw [if_neg e, if_neg fun z => e z.symm]
/-! one step -/
theorem step_nums {n d : Int} (hn : n ≠ 0) (hd : d ≠ 0) : ∃ part : Int, (if d < 0 then -((Nat.gcd n.natAbs d.natAbs : Nat) : Int) else ((Nat.gcd n.natAbs d.natAbs : Nat) : Int)) = part ∧ part ≠ 0 ∧ part.natAbs ≤ d.natAbs ∧ 1 ≤ d.fdiv part ∧ d = d.fdiv part * part ∧ n = n.fdiv part * part ∧ Nat.gcd (d.fdiv part).natAbs (n.fdiv part).natAbs = 1 := by
  have hg : 0 < Nat.gcd n.natAbs d.natAbs := Nat.gcd_pos_of_pos_left _ (by omega)
  have hgd : Nat.gcd n.natAbs d.natAbs ∣ d.natAbs := Nat.gcd_dvd_right _ _
  have hgn : Nat.gcd n.natAbs d.natAbs ∣ n.natAbs := Nat.gcd_dvd_left _ _
  have hgl : Nat.gcd n.natAbs d.natAbs ≤ d.natAbs := Nat.le_of_dvd (by omega) hgd
  refine ⟨_, rfl, ?_⟩
  generalize hp : (if d < 0 then -((Nat.gcd n.natAbs d.natAbs : Nat) : Int) else ((Nat.gcd n.natAbs d.natAbs : Nat) : Int)) = part
  have hpa : part.natAbs = Nat.gcd n.natAbs d.natAbs := by rw [← hp]; split <;> omega
  have hp0 : part ≠ 0 := by omega
  have dd : part ∣ d := Int.natAbs_dvd_natAbs.mp (by rw [hpa]; exact hgd)
  have dn' : part ∣ n := Int.natAbs_dvd_natAbs.mp (by rw [hpa]; exact hgn)
  obtain ⟨x, hx⟩ := dd
  obtain ⟨y, hy⟩ := dn'
  have ex : d.fdiv part = x := by rw [Int.fdiv_eq_ediv_of_dvd ⟨x, hx⟩, hx, Int.mul_ediv_cancel_left _ hp0]
  have ey : n.fdiv part = y := by rw [Int.fdiv_eq_ediv_of_dvd ⟨y, hy⟩, hy, Int.mul_ediv_cancel_left _ hp0]
  rw [ex, ey]
  refine ⟨hp0, by omega, ?_, by rw [Int.mul_comm]; exact hx, by rw [Int.mul_comm]; exact hy, ?_⟩
  · have hs : (d < 0 ∧ part < 0) ∨ (0 < d ∧ 0 < part) := by
      rw [← hp]
      split <;> omega
    rcases hs with ⟨h1, h2⟩ | ⟨h1, h2⟩
    · refine Int.not_lt.mp fun z => ?_
      have : 0 ≤ part * x := Int.mul_nonneg_of_nonpos_of_nonpos (by omega) (by omega)
      omega
    · refine Int.not_lt.mp fun z => ?_
      have : part * x ≤ 0 := Int.mul_nonpos_of_nonneg_of_nonpos (by omega) (by omega)
      omega
  · have e := congrArg Int.natAbs hx
    have e2 := congrArg Int.natAbs hy
    rw [Int.natAbs_mul] at e e2
    have : Nat.gcd (part.natAbs * y.natAbs) (part.natAbs * x.natAbs) = part.natAbs := by rw [← e, ← e2, hpa]
    rw [Nat.gcd_mul_left] at this
    have h1 : Nat.gcd y.natAbs x.natAbs = 1 := Nat.eq_of_mul_eq_mul_left (show 0 < part.natAbs by omega) (by rw [this, Nat.mul_one])
    rw [Nat.gcd_comm]
    exact h1
/-! what holds between two steps: C the numbers that are divided -/
structure Div (C D : List Int) (s : Dst) : Prop where
  m1 : 1 ≤ s.m
  lq : s.q.length = C.length
  lr : s.r.length = C.length
  eq : ∀ t, s.m * at0 C t = conv s.q D t + at0 s.r t
  co : ∀ g : Int, g ∣ s.m → (∀ i, g ∣ at0 s.q i) → g ∣ 1
theorem conv_zero {q D : List Int} (h : ∀ i, at0 q i = 0) (t : Int) : conv q D t = 0 := by
  unfold conv
  rw [prd_left (p' := []) (fun s => by rw [cf_dn, h]; rfl)]
  rfl
theorem Div.start (C D : List Int) : Div C D ⟨1, C.map fun _ => 0, C⟩ := by
  have hz : ∀ i, at0 (C.map fun _ => (0 : Int)) i = 0 := fun i => by
    unfold at0
    split
    · rw [List.getD_eq_getElem?_getD, List.getElem?_map]
      cases C[i.toNat]? <;> rfl
    · rfl
  exact ⟨Int.le_refl _, List.length_map .., rfl, fun t => by show 1 * at0 C t = conv (C.map fun _ => 0) D t + at0 C t; rw [conv_zero hz]; omega, fun g h _ => h⟩
theorem Div.step {C D : List Int} {s : Dst} (h : Div C D s) (a e : Nat) {d : Int} (hD : D[e]? = some d) (hd : d ≠ 0) (ha : a + D.length ≤ C.length) (hq : at0 s.q a = 0) :
    Div C D (dstep D s a e) ∧ at0 (dstep D s a e).r ((a + e : Nat) : Int) = 0 ∧ (∀ i : Int, (i < a ∨ (a : Int) + D.length ≤ i) → at0 s.r i = 0 → at0 (dstep D s a e).r i = 0) ∧ (∀ i : Int, i ≠ a → at0 s.q i = 0 → at0 (dstep D s a e).q i = 0) := by
  have he := (List.getElem?_eq_some_iff.mp hD).1
  have hn : s.r[a + e]? = some (s.r.getD (a + e) 0) := by
    rw [List.getD_eq_getElem?_getD, List.getElem?_eq_getElem (by rw [h.lr]; omega)]
    rfl
  unfold dstep
  generalize s.r.getD (a + e) 0 = n at hn ⊢
  have hdd : D.getD e 0 = d := by rw [List.getD_eq_getElem?_getD, hD]; rfl
  by_cases hz : n = 0
  · subst hz
    rw [if_pos rfl]
    exact ⟨h, at0_ix _ hn, fun _ _ z => z, fun _ _ z => z⟩
  rw [if_neg hz]
  dsimp only
  rw [hdd]
  obtain ⟨part, hp, hp0, _, hu, e1, e2, cop⟩ := step_nums hz hd
  rw [hp]
  generalize d.fdiv part = up at hu e1 cop ⊢
  generalize n.fdiv part = down at e2 cop ⊢
  have qa : ∀ i, at0 ((s.q.map (up * ·)).set a down) i = up * at0 s.q i + if i = a then down else 0 := fun i => by
    rw [at0_set _ _ _ (by rw [List.length_map, h.lq]; omega), at0_map]
    by_cases e : i = a
    · subst e
      rw [if_pos rfl, if_pos rfl, hq]
      simp
    · rw [if_neg e, if_neg e]
      omega
  have ra := at0_sub1 up down D a s.r (by rw [h.lr]; exact ha)
  refine ⟨⟨?_, ?_, ?_, fun t => ?_, fun g g1 g2 => ?_⟩, ?_, fun i hi z => ?_, fun i hi z => ?_⟩
  · show 1 ≤ s.m * up
    have := Int.mul_le_mul h.m1 hu (by decide) (by have := h.m1; omega)
    omega
  · show ((s.q.map _).set _ _).length = _
    rw [List.length_set, List.length_map, h.lq]
  · show (sub1 _ _ _ _ _).length = _
    rw [length_sub1, h.lr]
  · show s.m * up * at0 C t = conv _ D t + at0 _ t
    rw [conv_step qa, ra, Int.mul_comm s.m up, Int.mul_assoc, h.eq, Int.mul_add]
    omega
  · have gd : g ∣ down := by
      have := g2 a
      show g ∣ down
      change g ∣ at0 ((s.q.map (up * ·)).set a down) a at this
      rw [qa, hq, if_pos rfl] at this
      simpa using this
    have cg : Int.gcd up g = 1 := by
      have h1 : Nat.gcd up.natAbs g.natAbs ∣ Nat.gcd up.natAbs down.natAbs := Nat.dvd_gcd (Nat.gcd_dvd_left _ _) (Nat.dvd_trans (Nat.gcd_dvd_right _ _) (Int.natAbs_dvd_natAbs.mpr gd))
      rw [cop] at h1
      exact Nat.dvd_one.mp h1
    have strip : ∀ x : Int, g ∣ up * x → g ∣ x := fun x hx => by
      have h1 := Int.natAbs_dvd_natAbs.mpr hx
      rw [Int.natAbs_mul] at h1
      have h2 : Nat.Coprime g.natAbs up.natAbs := by
        show Nat.gcd g.natAbs up.natAbs = 1
        rw [Nat.gcd_comm]
        exact cg
      exact Int.natAbs_dvd_natAbs.mp (h2.dvd_of_dvd_mul_left h1)
    refine h.co g (strip _ (by rw [Int.mul_comm]; exact g1)) fun i => ?_
    by_cases e : i = a
    · subst e
      rw [hq]
      exact Int.dvd_zero g
    · have := g2 i
      change g ∣ at0 ((s.q.map (up * ·)).set a down) i at this
      rw [qa, if_neg e, Int.add_zero] at this
      exact strip _ this
  · show at0 (sub1 _ _ _ _ _) _ = 0
    rw [ra, at0_ix _ hn, show (((a + e : Nat) : Int) - (a : Int)) = (e : Int) by omega, at0_ix _ hD]
    have x1 : up * n = up * (down * part) := by rw [← e2]
    have x2 : down * d = down * (up * part) := by rw [← e1]
    rw [x1, x2, ← Int.mul_assoc, ← Int.mul_assoc, Int.mul_comm up down]
    omega
  · show at0 (sub1 _ _ _ _ _) _ = 0
    rw [ra, z, at0_out D (by omega)]
    simp
  · show at0 _ i = 0
    rw [qa, z, if_neg hi]
    simp
/-! all steps: n of them from below, then from above down to n; size the length of D less 1, N the highest place -/
def ends (n N size : Nat) : List (Nat × Nat) := (List.range n).map (fun a => (a, 0)) ++ (List.range (N + 1 - n)).map (fun j => (N - j, size))
theorem length_ends (n N size : Nat) : (ends n N size).length = n + (N + 1 - n) := by
  unfold ends
  rw [List.length_append, List.length_map, List.length_map, List.length_range, List.length_range]
theorem ends_at {n N size i : Nat} (h : i < n + (N + 1 - n)) : (ends n N size)[i]? = some (if i < n then (i, 0) else (N - (i - n), size)) := by
  unfold ends
  by_cases e : i < n
  · rw [if_pos e, List.getElem?_append_left (by rw [List.length_map, List.length_range]; exact e), List.getElem?_map, List.getElem?_range e]
    rfl
  · rw [if_neg e, List.getElem?_append_right (by rw [List.length_map, List.length_range]; omega), List.length_map, List.length_range, List.getElem?_map, List.getElem?_range (by omega)]
    rfl
structure Mid (C D : List Int) (n N size i : Nat) (s : Dst) : Prop where
  dv : Div C D s
  lo : ∀ j : Int, j < (min i n : Nat) → at0 s.r j = 0
  hi : ∀ j : Int, (N : Int) + size + 1 - (i - n : Nat) ≤ j → at0 s.r j = 0
  qz : ∀ j : Int, (min i n : Nat) ≤ j → j ≤ (N : Int) - (i - n : Nat) → at0 s.q j = 0
theorem Mid.start (C D : List Int) (n N size : Nat) (hC : C.length = N + size + 1) : Mid C D n N size 0 ⟨1, C.map fun _ => 0, C⟩ := by
  refine ⟨Div.start C D, fun j hj => at0_out C (by omega), fun j hj => at0_out C (by omega), fun j _ _ => ?_⟩
  unfold at0
  split
  · rw [List.getD_eq_getElem?_getD, List.getElem?_map]
    cases C[j.toNat]? <;> rfl
  · rfl
theorem Mid.step {C D : List Int} {n N size i : Nat} {s : Dst} (h : Mid C D n N size i s) (hC : C.length = N + size + 1) (hD : D.length = size + 1) (hn : n ≤ N) (hi : i < n + (N + 1 - n)) {d0 d1 : Int} (h0 : D[0]? = some d0) (z0 : d0 ≠ 0) (h1 : D[size]? = some d1) (z1 : d1 ≠ 0) :
    Mid C D n N size (i + 1) (dstep D s (if i < n then i else N - (i - n)) (if i < n then 0 else size)) := by
  by_cases e : i < n
  · rw [if_pos e, if_pos e]
    obtain ⟨k1, k2, k3, k4⟩ := h.dv.step i 0 h0 z0 (by omega) (h.qz i (by omega) (by omega))
    refine ⟨k1, fun j hj => ?_, fun j hj => k3 j (by omega) (h.hi j (by omega)), fun j g1 g2 => k4 j (by omega) (h.qz j (by omega) (by omega))⟩
    by_cases x : j = (i : Int)
    · subst x
      exact k2
    · exact k3 j (by omega) (h.lo j (by omega))
  · rw [if_neg e, if_neg e]
    obtain ⟨k1, k2, k3, k4⟩ := h.dv.step (N - (i - n)) size h1 z1 (by omega) (h.qz _ (by omega) (by omega))
    refine ⟨k1, fun j hj => k3 j (by omega) (h.lo j (by omega)), fun j hj => ?_, fun j g1 g2 => k4 j (by omega) (h.qz j (by omega) (by omega))⟩
    by_cases x : j = ((N - (i - n) + size : Nat) : Int)
    · rw [x]
      exact k2
    · exact k3 j (by omega) (h.hi j (by omega))
def runD (D : List Int) (es : List (Nat × Nat)) (s : Dst) : Dst := es.foldl (fun s x => dstep D s x.1 x.2) s
/-- the rest has only the shifts from n to n + size - 1 -/
theorem Mid.done {C D : List Int} {n N size : Nat} {s : Dst} (h : Mid C D n N size (n + (N + 1 - n)) s) (hn : n ≤ N) (j : Int) (hj : at0 s.r j ≠ 0) : (n : Int) ≤ j ∧ j < (n : Int) + size := by
  refine Decidable.byContradiction fun z => hj ?_
  by_cases x : j < n
  · exact h.lo j (by omega)
  · exact h.hi j (by omega)
theorem dstep_lq (D : List Int) (s : Dst) (a e : Nat) : (dstep D s a e).q.length = s.q.length ∧ (dstep D s a e).r.length = s.r.length := by
  unfold dstep
  dsimp only
  split
  · exact ⟨rfl, rfl⟩
  · exact ⟨by rw [List.length_set, List.length_map], length_sub1 ..⟩
/-! sizes -/
structure Bd (x : Nat) (s : Dst) : Prop where
  m : s.m.natAbs < 2 ^ x
  q : ∀ i, (at0 s.q i).natAbs < 2 ^ x
  r : ∀ i, (at0 s.r i).natAbs < 2 ^ x
theorem at0_mem {l : List Int} {P : Int → Prop} (h0 : P 0) (h : ∀ c ∈ l, P c) (i : Int) : P (at0 l i) := by
  unfold at0
  split
  · rw [List.getD_eq_getElem?_getD]
    cases e : l[i.toNat]? with
    | none => exact h0
    | some c => exact h c (List.mem_of_getElem? e)
  · exact h0
theorem mul_lt_pow {a b : Int} {x y : Nat} (h : a.natAbs < 2 ^ x) (h' : b.natAbs < 2 ^ y) : (a * b).natAbs < 2 ^ (x + y) := by
  rw [Int.natAbs_mul, Nat.pow_add]
  exact Nat.mul_lt_mul'' h h'
theorem fac_le {a b c : Int} (h : a = b * c) (ha : a ≠ 0) : b.natAbs ≤ a.natAbs := by
  have hc : c ≠ 0 := fun z => ha (by rw [h, z, Int.mul_zero])
  rw [h, Int.natAbs_mul]
  exact Nat.le_mul_of_pos_right _ (by omega)
theorem pow_up {k x y : Nat} (h : k < 2 ^ x) (l : x ≤ y) : k < 2 ^ y := Nat.lt_of_lt_of_le h (Nat.pow_le_pow_right (by decide) l)
theorem Bd.step {D : List Int} {s : Dst} {x b : Nat} (h : Bd x s) (a e : Nat) {d : Int} (hD : D[e]? = some d) (hd : d ≠ 0) (hb : ∀ c ∈ D, c.natAbs < 2 ^ b) (ha : a + D.length ≤ s.r.length) (haq : a < s.q.length) : Bd (x + b + 1) (dstep D s a e) := by
  have he := (List.getElem?_eq_some_iff.mp hD).1
  have hn : s.r[a + e]? = some (s.r.getD (a + e) 0) := by
    rw [List.getD_eq_getElem?_getD, List.getElem?_eq_getElem (by omega)]
    rfl
  have hnx : (s.r.getD (a + e) 0).natAbs < 2 ^ x := by
    have := h.r ((a + e : Nat) : Int)
    rw [at0_ix _ hn] at this
    exact this
  unfold dstep
  generalize s.r.getD (a + e) 0 = n at hn hnx ⊢
  have hdd : D.getD e 0 = d := by rw [List.getD_eq_getElem?_getD, hD]; rfl
  by_cases hz : n = 0
  · rw [if_pos hz]
    exact ⟨pow_up h.m (by omega), fun i => pow_up (h.q i) (by omega), fun i => pow_up (h.r i) (by omega)⟩
  rw [if_neg hz]
  dsimp only
  rw [hdd]
  obtain ⟨part, hp, hp0, _, hu, e1, e2, cop⟩ := step_nums hz hd
  rw [hp]
  have hup : (d.fdiv part).natAbs < 2 ^ b := Nat.lt_of_le_of_lt (fac_le e1 hd) (hb d (List.mem_of_getElem? hD))
  have hdo : (n.fdiv part).natAbs < 2 ^ x := Nat.lt_of_le_of_lt (fac_le e2 hz) hnx
  generalize d.fdiv part = up at hup ⊢
  generalize n.fdiv part = down at hdo ⊢
  refine ⟨pow_up (mul_lt_pow h.m hup) (by omega), fun i => ?_, fun i => ?_⟩
  · show (at0 ((s.q.map (up * ·)).set a down) i).natAbs < _
    rw [at0_set _ _ _ (by rw [List.length_map]; exact haq), at0_map]
    split
    · exact pow_up hdo (by omega)
    · exact pow_up (mul_lt_pow hup (h.q i)) (by omega)
  · show (at0 (sub1 up down D a s.r) i).natAbs < _
    rw [at0_sub1 up down D a s.r ha]
    have h1 := mul_lt_pow hup (h.r i)
    have h2 := mul_lt_pow hdo (at0_mem (P := fun c : Int => c.natAbs < 2 ^ b) (Nat.pow_pos (by decide) : 0 < 2 ^ b) hb (i - a))
    rw [Nat.add_comm b x] at h1
    rw [Nat.pow_succ]
    generalize 2 ^ (x + b) = N at h1 h2 ⊢
    omega
/-! the dense form of a polynomial in its form -/
def lo1 (R : List Pr) : Int := (R.headD (0, 0)).1
def hi1 (R : List Pr) : Int := (R.getLastD (0, 0)).1
theorem lo1_le {R : List Pr} (a : Asc R) : ∀ p ∈ R, lo1 R ≤ p.1 := by
  intro p hp
  cases R with
  | nil => cases hp
  | cons q r =>
    rcases List.mem_cons.mp hp with rfl | hp
    · exact Int.le_refl _
    · exact Int.le_of_lt ((List.pairwise_cons.mp a).1 p hp)
theorem le_hi1 : ∀ {R : List Pr}, Asc R → ∀ p ∈ R, p.1 ≤ hi1 R
  | [], _, _, h => by cases h
  | [q], _, p, h => by rw [List.mem_singleton.mp h]; exact Int.le_refl _
  | q :: t :: r, a, p, h => by
    obtain ⟨a1, a2⟩ := List.pairwise_cons.mp a
    have e : hi1 (q :: t :: r) = hi1 (t :: r) := by unfold hi1; simp [List.getLastD_cons]
    rw [e]
    rcases List.mem_cons.mp h with rfl | h
    · exact Int.le_trans (Int.le_of_lt (a1 t List.mem_cons_self)) (le_hi1 a2 t List.mem_cons_self)
    · exact le_hi1 a2 p h
def dense (R : List Pr) : List Int := if R = [] then [] else (List.range (hi1 R - lo1 R + 1).toNat).map fun k : Nat => cf R (lo1 R + k)
theorem at0_range (n : Nat) (f : Nat → Int) (i : Int) : at0 ((List.range n).map f) i = if 0 ≤ i ∧ i < n then f i.toNat else 0 := by
  by_cases h : 0 ≤ i ∧ i < n
  · rw [if_pos h]
    obtain ⟨k, rfl⟩ : ∃ k : Nat, i = k := ⟨i.toNat, by omega⟩
    refine at0_ix _ ?_
    rw [List.getElem?_map, List.getElem?_range (by omega), Int.toNat_natCast]
    rfl
  · rw [if_neg h]
    exact at0_out _ (by rw [List.length_map, List.length_range]; omega)
theorem at0_dense {R : List Pr} (a : Asc R) (hn : R ≠ []) (i : Int) : at0 (dense R) i = cf R (lo1 R + i) := by
  unfold dense
  rw [if_neg hn, at0_range]
  split
  · rename_i h
    rw [Int.toNat_of_nonneg h.1]
  · rename_i h
    symm
    refine cf_out fun p hp z => h ?_
    have h1 := lo1_le a p hp
    have h2 := le_hi1 a p hp
    omega
/-! the pairs of a dense form -/
def sparse (s : Int) (l : List Int) : List Pr := (dn s l).filter fun p => decide (p.2 ≠ 0)
theorem dn_asc : ∀ (l : List Int) (s : Int), Asc (dn s l) ∧ ∀ p ∈ dn s l, s ≤ p.1
  | [], _ => ⟨List.Pairwise.nil, fun _ h => by cases h⟩
  | c :: r, s => by
    obtain ⟨a, b⟩ := dn_asc r (s + 1)
    refine ⟨List.pairwise_cons.mpr ⟨fun p hp => ?_, a⟩, fun p hp => ?_⟩
    · have := b p hp
      show s < p.1
      omega
    · rcases List.mem_cons.mp hp with rfl | hp
      · exact Int.le_refl _
      · have := b p hp
        omega
theorem cf_filter (R : List Pr) (t : Int) : cf (R.filter fun p => decide (p.2 ≠ 0)) t = cf R t := by
  induction R with
  | nil => rfl
  | cons p r ih =>
    by_cases h : p.2 ≠ 0
    · rw [List.filter_cons_of_pos (by simpa using h)]
      show (if p.1 = t then p.2 else 0) + cf (r.filter _) t = (if p.1 = t then p.2 else 0) + cf r t
      rw [ih]
    · rw [List.filter_cons_of_neg (by simpa using h)]
      show _ = (if p.1 = t then p.2 else 0) + cf r t
      have h0 : p.2 = 0 := Decidable.byContradiction h
      rw [ih, h0]
      split <;> omega
theorem sparse_isP (s : Int) (l : List Int) : IsP (fun t => at0 l (t - s)) (sparse s l) :=
  ⟨(dn_asc l s).1.filter _, fun p hp => of_decide_eq_true (List.mem_filter.mp hp).2, fun t => by unfold sparse; rw [cf_filter, cf_dn]⟩
theorem dn_snoc : ∀ (l : List Int) (s c : Int), dn s (l ++ [c]) = dn s l ++ [(s + l.length, c)]
  | [], s, c => by show [(s, c)] = [(s + (0 : Nat), c)]; simp
  | d :: r, s, c => by
    show (s, d) :: dn (s + 1) (r ++ [c]) = (s, d) :: (dn (s + 1) r ++ _)
    rw [dn_snoc r (s + 1) c, List.length_cons, show s + 1 + (r.length : Int) = s + ((r.length + 1 : Nat) : Int) by omega]
theorem sparse_take (s : Int) (l : List Int) (i : Nat) (c : Int) (h : l[i]? = some c) : sparse s (l.take (i + 1)) = if c ≠ 0 then sparse s (l.take i) ++ [(s + i, c)] else sparse s (l.take i) := by
  have hi := (List.getElem?_eq_some_iff.mp h).1
  unfold sparse
  rw [List.take_add_one, h]
  show List.filter _ (dn s (l.take i ++ [c])) = _
  rw [dn_snoc, List.filter_append, List.length_take, show min i l.length = i by omega]
  by_cases z : c ≠ 0
  · rw [if_pos z, List.filter_cons_of_pos (by simpa using z)]; rfl
  · rw [if_neg z, List.filter_cons_of_neg (by simpa using z), List.filter_nil, List.append_nil]
/-! the whole run -/
def st0 (C : List Int) : Dst := ⟨1, C.map fun _ => 0, C⟩
def stI (C D : List Int) (n N size i : Nat) : Dst := runD D ((ends n N size).take i) (st0 C)
theorem stI_succ (C D : List Int) {n N size i : Nat} (hi : i < n + (N + 1 - n)) : stI C D n N size (i + 1) = dstep D (stI C D n N size i) (if i < n then i else N - (i - n)) (if i < n then 0 else size) := by
  unfold stI runD
  rw [List.take_add_one, ends_at hi, List.foldl_append]
  show dstep D _ _ _ = _
  by_cases e : i < n
  · simp only [if_pos e]
  · simp only [if_neg e]
theorem stI_ok {C D : List Int} {n N size x b : Nat} (hC : C.length = N + size + 1) (hD : D.length = size + 1) (hn : n ≤ N) {d0 d1 : Int} (h0 : D[0]? = some d0) (z0 : d0 ≠ 0) (h1 : D[size]? = some d1) (z1 : d1 ≠ 0)
    (hx : ∀ c ∈ C, c.natAbs < 2 ^ x) (h2 : 1 ≤ x) (hb : ∀ c ∈ D, c.natAbs < 2 ^ b) : ∀ i, i ≤ n + (N + 1 - n) → Mid C D n N size i (stI C D n N size i) ∧ Bd (x + i * (b + 1)) (stI C D n N size i)
  | 0, _ => by
    have hp : 0 < 2 ^ x := Nat.pow_pos (by decide)
    refine ⟨Mid.start C D n N size hC, ?_, fun i => ?_, fun i => ?_⟩
    · rw [Nat.zero_mul, Nat.add_zero]
      exact pow_up (show 1 < 2 ^ 1 by decide) h2
    · rw [Nat.zero_mul, Nat.add_zero]
      exact at0_mem (P := fun c : Int => c.natAbs < 2 ^ x) hp (fun c hc => by obtain ⟨_, _, rfl⟩ := List.mem_map.mp hc; exact hp) i
    · rw [Nat.zero_mul, Nat.add_zero]
      exact at0_mem (P := fun c : Int => c.natAbs < 2 ^ x) hp hx i
  | i + 1, hi => by
    obtain ⟨k1, k2⟩ := stI_ok hC hD hn h0 z0 h1 z1 hx h2 hb i (by omega)
    rw [stI_succ C D (by omega)]
    refine ⟨k1.step hC hD hn (by omega) h0 z0 h1 z1, ?_⟩
    have e : x + (i + 1) * (b + 1) = x + i * (b + 1) + b + 1 := by rw [Nat.add_mul]; omega
    rw [e]
    have l1 := k1.dv.lr
    have l2 := k1.dv.lq
    by_cases c : i < n
    · rw [if_pos c, if_pos c]
      exact k2.step i 0 h0 z0 hb (by omega) (by omega)
    · rw [if_neg c, if_neg c]
      exact k2.step _ size h1 z1 hb (by omega) (by omega)
/-! the step, place by place -/
theorem sub1_nil (up down : Int) (a : Nat) (r : List Int) : sub1 up down [] a r = r.map (up * ·) := by
  refine at0_ext (by rw [length_sub1, List.length_map]) fun i => ?_
  by_cases hi : 0 ≤ i ∧ i < r.length
  · obtain ⟨n, rfl⟩ : ∃ n : Nat, i = n := ⟨i.toNat, by omega⟩
    have hn : n < r.length := by omega
    rw [at0_map, at0_ix (sub1 up down [] a r) (c := up * r[n] - down * at0 [] ((n : Int) - a)) (by unfold sub1; rw [List.getElem?_map, List.getElem?_zipIdx, List.getElem?_eq_getElem hn]; simp), at0_ix r (List.getElem?_eq_getElem hn), at0_out [] (by simp; omega)]
    simp
  · rw [at0_out _ (by rw [length_sub1]; omega), at0_out _ (by rw [List.length_map]; omega)]
theorem sub1_at {up down : Int} {D : List Int} {a j : Nat} {r : List Int} {x : Int} (hx : r[a + j]? = some x) : (sub1 up down (D.take j) a r)[a + j]? = some (up * x) := by
  unfold sub1
  rw [List.getElem?_map, List.getElem?_zipIdx, hx]
  show some (up * x - down * at0 (D.take j) (((0 + (a + j) : Nat) : Int) - a)) = _
  rw [at0_out (D.take j) (by rw [List.length_take]; omega)]
  simp
theorem sub1_step {up down : Int} {D : List Int} {a j : Nat} {r : List Int} {x d : Int} (hx : r[a + j]? = some x) (hd : D[j]? = some d) (h : a + D.length ≤ r.length) :
    (sub1 up down (D.take j) a r).set (a + j) (up * x - down * d) = sub1 up down (D.take (j + 1)) a r := by
  have hj := (List.getElem?_eq_some_iff.mp hd).1
  have hlt : (D.take j).length = j := by rw [List.length_take]; omega
  have hlt1 : (D.take (j + 1)).length = j + 1 := by rw [List.length_take]; omega
  refine at0_ext (by rw [List.length_set, length_sub1, length_sub1]) fun i => ?_
  rw [at0_set _ _ _ (by rw [length_sub1]; omega), at0_sub1 _ _ _ _ _ (by rw [hlt]; omega), at0_sub1 _ _ _ _ _ (by rw [hlt1]; omega)]
  have tk : ∀ (n : Nat) (t : Int), t < n → at0 (D.take n) t = at0 D t := fun n t ht => by
    unfold at0
    split
    · rw [List.getD_eq_getElem?_getD, List.getD_eq_getElem?_getD, List.getElem?_take_of_lt (by omega)]
    · rfl
  by_cases e : i = ((a + j : Nat) : Int)
  · rw [if_pos e, e, at0_ix r hx, show ((a + j : Nat) : Int) - (a : Int) = (j : Int) by omega, tk _ _ (by omega), at0_ix D hd]
  · rw [if_neg e]
    congr 2
    by_cases h1 : i - (a : Int) < j
    · rw [tk _ _ (by omega), tk _ _ (by omega)]
    · rw [at0_out _ (by rw [hlt]; omega), at0_out _ (by rw [hlt1]; omega)]
def endsP (n N size : Nat) : List Pr := (ends n N size).map fun x => ((x.1 : Int), (x.2 : Int))
theorem endsP_eq (n N size : Nat) : endsP n N size = ((List.range n).map fun a : Nat => ((a : Int), (0 : Int))) ++ ((List.range (N + 1 - n)).map fun j : Nat => (((N - j : Nat) : Int), (size : Int))) := by
  unfold endsP ends
  rw [List.map_append, List.map_map, List.map_map]
  rfl
end JP
namespace JP
/-! moved pairs -/
def shf (d : Int) (R : List Pr) : List Pr := R.map fun p => (p.1 + d, p.2)
theorem cf_shf (d : Int) (R : List Pr) (s : Int) : cf (shf d R) s = cf R (s - d) := by
  induction R with
  | nil => rfl
  | cons p r ih =>
    show (if p.1 + d = s then p.2 else 0) + cf (shf d r) s = (if p.1 = s - d then p.2 else 0) + cf r (s - d)
    rw [ih]
    by_cases e : p.1 + d = s
    · rw [if_pos e, if_pos (by omega)]
    · rw [if_neg e, if_neg (by omega)]
theorem prd_shf (a b : Int) (A B : List Pr) (s : Int) : cf (prd (shf a A) (shf b B)) s = cf (prd A B) (s - a - b) := by
  induction A with
  | nil => rfl
  | cons p r ih =>
    show cf (prd ((p.1 + a, p.2) :: shf a r) (shf b B)) s = _
    rw [cf_prd_cons, cf_prd_cons, ih, cf_shf]
    show p.2 * cf B (s - (p.1 + a) - b) + _ = p.2 * cf B (s - a - b - p.1) + _
    rw [show s - (p.1 + a) - b = s - a - b - p.1 by omega]
/-! the division of polynomials in their form -/
def least (P : List Pr) : Int := min 0 (lo1 P)
def topP (P Q : List Pr) : Int := if P = [] then hi1 Q - lo1 Q else max (hi1 P) (hi1 Q - lo1 Q)
/-- the numbers that are divided -/
def pdC (P Q : List Pr) : List Int := (List.range (topP P Q - least P + 1).toNat).map fun k : Nat => cf P (least P + k)
def pdS (Q : List Pr) : Nat := (hi1 Q - lo1 Q).toNat
def pdn (P : List Pr) : Nat := (-(least P)).toNat
def pdN (P Q : List Pr) : Nat := (topP P Q - least P).toNat - pdS Q
def pdT (P Q : List Pr) : Dst := stI (pdC P Q) (dense Q) (pdn P) (pdN P Q) (pdS Q) (pdn P + (pdN P Q + 1 - pdn P))
def pdM (P Q : List Pr) : Int := (pdT P Q).m
def pdF (P Q : List Pr) : List Pr := sparse (least P - lo1 Q) (pdT P Q).q
def pdR (P Q : List Pr) : List Pr := sparse (least P) (pdT P Q).r
theorem last_mem {Q : List Pr} (hq : Q ≠ []) : Q.getLastD (0, 0) ∈ Q := by
  rw [List.getLastD_eq_getLast?, List.getLast?_eq_some_getLast hq]
  exact List.getLast_mem hq
theorem head_mem {Q : List Pr} (hq : Q ≠ []) : Q.headD (0, 0) ∈ Q := by
  cases Q with
  | nil => exact absurd rfl hq
  | cons x r => exact List.mem_cons_self
theorem lo_le_hi {Q : List Pr} (a : Asc Q) (hq : Q ≠ []) : lo1 Q ≤ hi1 Q := lo1_le a _ (last_mem hq)
theorem least_le (P : List Pr) : least P ≤ 0 ∧ least P ≤ lo1 P := ⟨Int.min_le_left _ _, Int.min_le_right _ _⟩
theorem top_ge (P Q : List Pr) : hi1 Q - lo1 Q ≤ topP P Q := by
  unfold topP
  split
  · exact Int.le_refl _
  · exact Int.le_max_right _ _
theorem hi_le_top {P Q : List Pr} (h : P ≠ []) : hi1 P ≤ topP P Q := by
  unfold topP
  rw [if_neg h]
  exact Int.le_max_left _ _
section
variable {P Q : List Pr} (aP : Asc P) (aQ : Asc Q) (nQ : ∀ q ∈ Q, q.2 ≠ 0) (hQ : Q ≠ [])
include aQ hQ
theorem pd_sizes : (pdC P Q).length = pdN P Q + pdS Q + 1 ∧ (dense Q).length = pdS Q + 1 ∧ pdn P ≤ pdN P Q ∧ least P = -(pdn P : Int) ∧ (pdN P Q : Int) = topP P Q - least P - (hi1 Q - lo1 Q) := by
  have h1 := least_le P
  have h2 := top_ge P Q
  have h3 := lo_le_hi aQ hQ
  unfold pdC dense pdN pdS pdn
  rw [if_neg hQ, List.length_map, List.length_range, List.length_map, List.length_range]
  omega
include nQ
theorem pd_ends : (dense Q)[0]? = some (Q.headD (0, 0)).2 ∧ (Q.headD (0, 0)).2 ≠ 0 ∧ (dense Q)[pdS Q]? = some (Q.getLastD (0, 0)).2 ∧ (Q.getLastD (0, 0)).2 ≠ 0 := by
  have h3 := lo_le_hi aQ hQ
  unfold dense pdS
  rw [if_neg hQ]
  refine ⟨?_, nQ _ (head_mem hQ), ?_, nQ _ (last_mem hQ)⟩
  · rw [List.getElem?_map, List.getElem?_range (by omega)]
    show some (cf Q (lo1 Q + (0 : Nat))) = _
    rw [show lo1 Q + ((0 : Nat) : Int) = (Q.headD (0, 0)).1 by show (Q.headD (0, 0)).1 + _ = _; simp, cf_in aQ (head_mem hQ)]
  · rw [List.getElem?_map, List.getElem?_range (by omega)]
    show some (cf Q (lo1 Q + ((hi1 Q - lo1 Q).toNat : Int))) = _
    rw [show lo1 Q + ((hi1 Q - lo1 Q).toNat : Int) = (Q.getLastD (0, 0)).1 by rw [Int.toNat_of_nonneg (by omega)]; show _ = hi1 Q; omega, cf_in aQ (last_mem hQ)]
omit aQ hQ nQ
theorem pdC_bound {x : Nat} (h : ∀ s, (cf P s).natAbs < 2 ^ x) : ∀ c ∈ pdC P Q, c.natAbs < 2 ^ x := fun c hc => by
  obtain ⟨k, _, rfl⟩ := List.mem_map.mp hc
  exact h _
theorem dense_bound {x : Nat} (h : ∀ s, (cf Q s).natAbs < 2 ^ x) : ∀ c ∈ dense Q, c.natAbs < 2 ^ x := fun c hc => by
  unfold dense at hc
  split at hc
  · cases hc
  · obtain ⟨k, _, rfl⟩ := List.mem_map.mp hc
    exact h _
include aQ hQ nQ
theorem pd_ok {x b : Nat} (hx : ∀ s, (cf P s).natAbs < 2 ^ x) (h2 : 1 ≤ x) (hb : ∀ s, (cf Q s).natAbs < 2 ^ b) :
    Mid (pdC P Q) (dense Q) (pdn P) (pdN P Q) (pdS Q) (pdn P + (pdN P Q + 1 - pdn P)) (pdT P Q) ∧ Bd (x + (pdN P Q + 1) * (b + 1)) (pdT P Q) := by
  obtain ⟨s1, s2, s3, _, _⟩ := pd_sizes (P := P) aQ hQ
  obtain ⟨e1, e2, e3, e4⟩ := pd_ends aQ nQ hQ
  unfold pdT
  have := stI_ok s1 s2 s3 e1 e2 e3 e4 (pdC_bound hx) h2 (dense_bound hb) (pdn P + (pdN P Q + 1 - pdn P)) (Nat.le_refl _)
  rwa [show pdn P + (pdN P Q + 1 - pdn P) = pdN P Q + 1 by omega] at this ⊢
omit aQ hQ nQ
theorem exBits (P : List Pr) : ∃ x, 1 ≤ x ∧ ∀ s, (cf P s).natAbs < 2 ^ x := by
  refine ⟨wt P + 1, by omega, fun s => ?_⟩
  have h1 := cf_wt P s
  have h2 : wt P < 2 ^ wt P := Nat.lt_two_pow_self
  have h3 : 2 ^ wt P ≤ 2 ^ (wt P + 1) := Nat.pow_le_pow_right (by decide) (by omega)
  omega
include aQ hQ nQ
theorem pd_mid : Mid (pdC P Q) (dense Q) (pdn P) (pdN P Q) (pdS Q) (pdn P + (pdN P Q + 1 - pdn P)) (pdT P Q) := by
  obtain ⟨x, h1, h2⟩ := exBits P
  obtain ⟨b, _, h3⟩ := exBits Q
  exact (pd_ok aQ nQ hQ h2 h1 h3).1
theorem pd_m : 1 ≤ pdM P Q := (pd_mid aQ nQ hQ).dv.m1
omit nQ hQ in
include aP in
theorem at0_pdC (s : Int) : at0 (pdC P Q) (s - least P) = cf P s := by
  unfold pdC
  rw [at0_range]
  split
  · rename_i h
    rw [Int.toNat_of_nonneg h.1]
    congr 1
    omega
  · rename_i h
    symm
    refine cf_out fun p hp z => h ?_
    have hP : P ≠ [] := fun z => by rw [z] at hp; cases hp
    have h1 := lo1_le aP p hp
    have h2 := le_hi1 aP p hp
    have h3 := least_le P
    have h4 := hi_le_top (Q := Q) hP
    omega
include aP
/-- m * p = f * q + r -/
theorem pd_eq (s : Int) : pdM P Q * cf P s = cf (prd (pdF P Q) Q) s + cf (pdR P Q) s := by
  have h := (pd_mid (P := P) aQ nQ hQ).dv.eq (s - least P)
  rw [at0_pdC aP aQ] at h
  show (pdT P Q).m * _ = _
  rw [h]
  have e2 : cf (pdR P Q) s = at0 (pdT P Q).r (s - least P) := (sparse_isP _ _).cfs s
  have e1 : cf (prd (pdF P Q) Q) s = conv (pdT P Q).q (dense Q) (s - least P) := by
    unfold conv
    rw [prd_both (p' := shf (least P - lo1 Q) (dn 0 (pdT P Q).q)) (q' := shf (lo1 Q) (dn 0 (dense Q))) (fun u => ?_) (fun u => ?_) s, prd_shf]
    · congr 1
      omega
    · rw [cf_shf, cf_dn, show cf (pdF P Q) u = _ from (sparse_isP _ _).cfs u]
      congr 1
      omega
    · rw [cf_shf, cf_dn, at0_dense aQ hQ]
      congr 1
      omega
  rw [e1, e2]
omit aP
/-- the shifts of the rest -/
theorem pd_rest : ∀ t ∈ pdR P Q, 0 ≤ t.1 ∧ t.1 < hi1 Q - lo1 Q := fun t ht => by
  obtain ⟨s1, s2, s3, s4, s5⟩ := pd_sizes (P := P) aQ hQ
  have i := sparse_isP (least P) (pdT P Q).r
  have h1 := (i.mem t).mp ht
  have h2 : at0 (pdT P Q).r (t.1 - least P) ≠ 0 := fun z => h1.2 (by rw [h1.1]; exact z)
  have h3 := (pd_mid (P := P) aQ nQ hQ).done s3 _ h2
  have h4 : (pdS Q : Int) = hi1 Q - lo1 Q := by
    have := lo_le_hi aQ hQ
    unfold pdS
    omega
  omega
/-- no common divisor -/
theorem pd_co (g : Int) (h1 : g ∣ pdM P Q) (h2 : ∀ t ∈ pdF P Q, g ∣ t.2) : g ∣ 1 := by
  refine (pd_mid (P := P) aQ nQ hQ).dv.co g h1 fun i => ?_
  have e := (sparse_isP (least P - lo1 Q) (pdT P Q).q)
  by_cases z : at0 (pdT P Q).q i = 0
  · rw [z]; exact Int.dvd_zero g
  · refine h2 (i + (least P - lo1 Q), at0 (pdT P Q).q i) ((e.mem _).mpr ⟨?_, z⟩)
    show _ = at0 (pdT P Q).q (i + (least P - lo1 Q) - (least P - lo1 Q))
    rw [show i + (least P - lo1 Q) - (least P - lo1 Q) = i by omega]
/-- sizes of the results -/
theorem pd_bits {x b : Nat} (hx : ∀ s, (cf P s).natAbs < 2 ^ x) (h2 : 1 ≤ x) (hb : ∀ s, (cf Q s).natAbs < 2 ^ b) :
    (pdM P Q).natAbs < 2 ^ (x + (pdN P Q + 1) * (b + 1)) ∧ (∀ s, (cf (pdF P Q) s).natAbs < 2 ^ (x + (pdN P Q + 1) * (b + 1))) ∧ ∀ s, (cf (pdR P Q) s).natAbs < 2 ^ (x + (pdN P Q + 1) * (b + 1)) := by
  have h := (pd_ok (P := P) aQ nQ hQ hx h2 hb).2
  refine ⟨h.m, fun s => ?_, fun s => ?_⟩
  · rw [show cf (pdF P Q) s = _ from (sparse_isP _ _).cfs s]; exact h.q _
  · rw [show cf (pdR P Q) s = _ from (sparse_isP _ _).cfs s]; exact h.r _
/-- the shifts of the quotient -/
theorem pd_quot : ∀ t ∈ pdF P Q, least P - lo1 Q ≤ t.1 ∧ t.1 ≤ topP P Q - lo1 Q := fun t ht => by
  obtain ⟨s1, s2, s3, s4, s5⟩ := pd_sizes (P := P) aQ hQ
  have i := sparse_isP (least P - lo1 Q) (pdT P Q).q
  have h1 := (i.mem t).mp ht
  have h2 : at0 (pdT P Q).q (t.1 - (least P - lo1 Q)) ≠ 0 := fun z => h1.2 (by rw [h1.1]; exact z)
  have lq := (pd_mid (P := P) aQ nQ hQ).dv.lq
  have h3 : 0 ≤ t.1 - (least P - lo1 Q) ∧ t.1 - (least P - lo1 Q) < (pdT P Q).q.length := Decidable.byContradiction fun z => h2 (at0_out _ (by omega))
  have h4 : (pdS Q : Int) = hi1 Q - lo1 Q := by
    have := lo_le_hi aQ hQ
    unfold pdS
    omega
  rw [lq, s1] at h3
  omega
end
theorem pdF_isP (P Q : List Pr) : IsP (cf (pdF P Q)) (pdF P Q) := (sparse_isP _ _).self
theorem pdR_isP (P Q : List Pr) : IsP (cf (pdR P Q)) (pdR P Q) := (sparse_isP _ _).self
end JP
set_option Elab.async false
set_option linter.all false
set_option maxRecDepth 100000
set_option maxHeartbeats 0
namespace JPH
open PySem PySem.Spec PyProof.Rows L2 He
/-- a fact about the written part -/
abbrev Fk := PySem.W.Frag → Bool
def obsF (fa : List Fk) (fn : List DefD) (K : PySem.W.Frag) : AlD := ((fa.all fun f => f K) && fn.all fun d => d.ok K, fn.map fun d => fnW K d.at_)
def SaysF (fa : List Fk) (fn : List DefD) (K : PySem.W.Frag) : Prop := obsF fa fn K = valD fn
def obsFG (n : Nat) (fa : List Fk) (fn : List DefD) (g : Addr → Option Obj) : AlD := obsF fa fn (frG g (asD g n))
def hookF (n : Nat) (fa : List Fk) (fn : List DefD) : PySem.W.Hook where
  α := AlD
  obs := fun s => obsFG n fa fn s.heap.get?
  val := fun _ => valD fn
  says := fun _ h => ∃ K : PySem.W.Frag, K.In h ∧ SaysF fa fn K
  of := fun _ _ e => ⟨_, frG_in, e⟩
  keeps := fun _ _ _ ⟨K, hK, c⟩ k => ⟨K, PySem.W.Frag.In.keeps hK k, c⟩
theorem obsFG_eq {n : Nat} {fa : List Fk} {fn : List DefD} {g : Addr → Option Obj} {s : Shared} (h : ∀ a, g a = s.heap.get? a) : obsFG n fa fn g = (hookF n fa fn).obs s := by
  have e : g = s.heap.get? := funext h
  rw [e] <;> rfl
section
variable {fa : List Fk} {fn : List DefD} {K : PySem.W.Frag}
theorem SaysF.all (c : SaysF fa fn K) {f : Fk} (h : f ∈ fa) : f K = true := by
  have c1 := (ba (show ((fa.all fun f => f K) && fn.all fun d => d.ok K) = true from congrArg (fun z : AlD => z.1) c)).1
  exact List.all_eq_true.mp c1 f h
theorem SaysF.fact (c : SaysF fa fn K) (i : Nat) {f : Fk} (h : fa[i]? = some f := by rfl) : f K = true := c.all (List.mem_of_getElem? h)
theorem SaysF.def_ (c : SaysF fa fn K) (i : Nat) {d : DefD} (h : fn[i]? = some d := by rfl) : ∃ fd, FunD K d.name d.qual d.params d.body d.scope (d.dvs K) (d.kws K) (fAd K d.at_) fd := by
  have c2 := (ba (show ((fa.all fun f => f K) && fn.all fun d => d.ok K) = true from congrArg (fun z : AlD => z.1) c)).2
  have e : fn.map (fun d => fnW K d.at_) = fn.map DefD.val := congrArg (fun z : AlD => z.2) c
  have e2 : (fn.map fun d => fnW K d.at_)[i]? = (fn.map DefD.val)[i]? := by rw [e]
  rw [List.getElem?_map, List.getElem?_map, h] at e2
  exact DefD.funD (Option.some.inj e2) (List.all_eq_true.mp c2 d (List.mem_of_getElem? h))
end
end JPH
set_option Elab.async false
set_option linter.all false
set_option maxRecDepth 100000
set_option maxHeartbeats 4000000
namespace JP
open PySem PySem.Spec PyProof.Rows L2
/-! ### what may leave a def: exceptions whose context is None -/
theorem passN {X : Cx} : Passes (L2N.CX X.prog X.w) X E0 := fun _ _ _ _ _ _ _ h => by
  obtain ⟨_, _, _, _, _, _, _, _, _, _, _, _, z⟩ := h
  exact z.elim
theorem cx_end {P : Program} {w : World} (H : Hp) (s : Shared) (e : Value) (s' : Shared) (h : L2N.CX P w [] H s (fun _ _ _ => False) e s') : False := by
  obtain ⟨_, _, _, _, _, _, _, _, _, _, _, _, z⟩ := h
  exact z
theorem takesN0 {X : Cx} : L2N.Takes X (fun _ _ _ _ => False) := fun _ _ x => by
  obtain ⟨_, _, _, _, _, _, _, _, _, _, _, _, _, _, _, _, z⟩ := x
  exact z.elim
theorem passAtN {X : Cx} {W : WX} (tk : L2N.Takes X W) (σ : L2.St) : PassesAt (L2N.CX X.prog X.w) X σ (WE W σ) := fun _ _ _ e s' I c => tk e s' (L2N.XE.of_call I (fun _ _ _ h => h) c)
theorem passesN {X : Cx} {K : Value → Shared → Prop} {E₁ : Value → Shared → Prop} (hx : X.xe = fun e s' => wpAny (model X.prog X.w) X.A (leaving X.env e) (fun _ s'' => K e s'') E₁ s') : PassesOwn (model X.prog X.w) X.A X.env X.xe := passes_of hx
section
variable {X : Cx}
/-- X(), an own exception class without own __init__ -/
theorem pmk_own0 {C : Addr} {bmB : List Value} {B newId initId : String} {x : Str} {p pos : Pos} (F : ExcBaseFacts B newId initId bmB) (q : PySem.W.excIn X.K C bmB newId = true) (gC : X.mg x = some (.ref C))
    (kC : PySem.W.keepIn X.K (.ref C) = true) (r : Raises X (.ref C)) (hg : Gl X x) (hdb : (x == ("__debug__" : Str)) = false := by decide) :
    L2N.PMk X (.Call (.Name x p) [] [] pos) (fun σ H Q => Q (.ref C) none H) := by
  intro pins s σ H Q I h
  refine wpAny_Call_Name_kw (ld_glob I hg gC ?_ hdb)
  refine PySem.W.callWith_K0 I.kIn kC ?_
  show wpAny _ _ (call (.ref C) []) _ _ _
  obtain ⟨bm, N, nm, qn, bs, hdct, sn, sub, ab, col, dd, k0, k1, k2, k3, k5, mN, hC, hN, hni, T⟩ := exc_obj I.kIn q
  refine wpAny_call_exc_subT F T hC hN hni (fun h' e hm => ?_) (Nat.zero_le _)
  exact L2N.mk_of I hm r h (I.hok.gone hm.new)
/-- // by any divisor but 0 below 2 ^ 9000 -/
def CDivG (_ j : Int) : Prop := j ≠ 0 ∧ j.natAbs.log2 < 9000
theorem op_fdivG : OpR X (binaryOp .FloorDiv) (rI CDivG fun i j => .int (i.fdiv j)) := opI fun _ _ _ _ _ _ _ hc q => floordiv_int hc.1 q (.inl (PyProof.noPylong_of_log2 hc.2))
/-- a for over a list or a tuple -/
def iSeq (K : PySem.W.Frag) (tl : TE) : TI := fun σ H R => tl σ H fun x H1 => ∃ a, x = .ref a ∧ (((∃ xs, SqL K H1 a xs) ∧ R (Itl K a) H1) ∨ ((∃ xs, SqT K H1 a xs) ∧ R (Itt K a) H1))
theorem pi_seq {tg l : Expr} {tl : TE} (hl : PE X l tl) : PI X tg l (iSeq X.K tl) := by
  refine ⟨fun pins s σ H R I h => ?_⟩
  refine thn (hl.run pins s σ H _ I h) fun v s1 ⟨x, H1, I1, r1, q1⟩ => ?_
  obtain ⟨a, e, ⟨⟨xs, hq⟩, q⟩ | ⟨⟨xs, hq⟩, q⟩⟩ := q1
  · subst e
    cases r1
    obtain ⟨its, rv, p, hz⟩ := I1.list hq
    refine wpAny_pyIter_list p.isList ?_
    refine ⟨s1.heap.objs.size, [s1.heap.objs.size], _, _, H1, rfl, I1.kept (t' := s1.toks) fun b o e => Heap.get?_push_of_some _ e, turn_list a _, ⟨_, Heap.get?_push_size _ rfl, rfl, rfl⟩, fun b hb => ?_, q⟩
    have e : b = s1.heap.objs.size := by simpa using hb
    subst e
    exact I1.fpOk (Nat.le_refl _) (I1.hok.fresh (Nat.le_refl _))
  · subst e
    cases r1
    obtain ⟨its, rv, p, hz⟩ := I1.tuple hq
    refine wpAny_pyIter_tuple (show s1.heap.IsTuple a its.toArray from p) ?_
    refine ⟨s1.heap.objs.size, [s1.heap.objs.size], _, _, H1, rfl, I1.kept (t' := s1.toks) fun b o e => Heap.get?_push_of_some _ e, turn_tuple a _, ⟨_, Heap.get?_push_size _ rfl, rfl, rfl⟩, fun b hb => ?_, q⟩
    have e : b = s1.heap.objs.size := by simpa using hb
    subst e
    exact I1.fpOk (Nat.le_refl _) (I1.hok.fresh (Nat.le_refl _))
/-- a, b, .. = a list or a tuple of that length -/
def Sq (K : PySem.W.Frag) (H : Hp) (a : Addr) (xs : List V) : Prop := SqL K H a xs ∨ SqT K H a xs
def gSeq (K : PySem.W.Frag) (n : Nat) (t : TGs) : TG := fun v σ H Q => ∃ a xs, v = .ref a ∧ Sq K H a xs ∧ xs.length = n ∧ t xs σ H Q
theorem pg_seq {es : List Expr} {k : Nat} {t : TGs} {n : Nat} {pos : Pos} (hc : X.calm = true) (h : PGs X es t)
    (hn : (assignEach es X.env).length = n := by rfl) (hst : (assignEach es X.env).findIdx? (·.1) = none := by rfl) : PG X (.Tuple es k pos) (gSeq X.K n t) := by
  refine ⟨fun pins s σ H v u Q I r hw => ?_⟩
  obtain ⟨a, xs, e1, hq | hq, hl, hw⟩ := hw
  · exact (pg_lst hc h hn hst).run pins s σ H v u Q I r ⟨a, xs, e1, hq, hl, hw⟩
  · exact (pg_tup hc h hn hst).run pins s σ H v u Q I r ⟨a, xs, e1, hq, hl, hw⟩
/-- isinstance(e, (c1, c2, ..)), e the exception that is pinned -/
def rIsET (K : PySem.W.Frag) (D a : Addr) : List V → Hp → VK → Prop := fun xs H Q => ∃ (tp : Addr) (cs : List V) (us : List Value) (b : Bool), xs = [.ref a, .ref tp] ∧ H tp = some (.tup cs) ∧ Paired ClsV cs us ∧ PySem.W.kitAny K (.ref D) us = some b ∧ Q (.bl b) H
theorem inst_pin {pins : List (Addr × Obj)} {σ : L2.St} {H : Hp} {s : Shared} {a D : Addr} {oe : Obj} {d : Option Addr} (I : Inv X pins σ H s) (hp : (a, oe) ∈ X.pn) (hz : Zc (.ref D) d oe) (hf : ∃ vs, oe.data = .fields vs) : ∃ od, oe.dict = d ∧ s.heap.get? a = some oe ∧ (d = none → PySem.W.InstAt s.heap a oe D none) ∧ od = d := by
  obtain ⟨hget, _⟩ := I.pin (a, oe) (List.mem_append.mpr (.inl hp))
  obtain ⟨vs, hv⟩ := hf
  refine ⟨d, hz.2, hget, fun hd => ?_, rfl⟩
  obtain ⟨oc, od, oda, osl⟩ := oe
  obtain ⟨h1, h2⟩ := hz
  dsimp only at h1 h2 hv
  subst h1 h2 hv hd
  exact ⟨hget, rfl, rfl, trivial⟩
theorem call_isEP {a D : Addr} {oe : Obj} (C : ExcC X.K D) (hp : (a, oe) ∈ X.pn) (hz : Zc (.ref D) none oe) (hf : ∃ vs, oe.data = .fields vs) : CallR X (.builtin "isinstance") (rIsE X.K D a) := by
  intro pins s σ H xs us Q I r h
  obtain ⟨c, cv, b, rfl, hcv, e, q⟩ := h
  obtain ⟨u1, u2, rfl, r1, r2⟩ := vals2 r
  cases (show u1 = Value.ref a from r1)
  have ec := hcv _ r2
  subst ec
  obtain ⟨od, _, _, J, _⟩ := inst_pin I hp hz hf
  exact PySem.W.kia_one (PySem.W.handS_kitx_exc C.hg C.hk C.hs C.hd C.ha C.hn C.ht C.hm) I.kIn (J rfl) e (fun z => nomatch z) fun tk => ⟨.bl b, H, I.kept (t' := tk) fun _ _ z => z, rfl, q⟩
theorem call_isET {a D : Addr} {oe : Obj} (C : ExcC X.K D) (hp : (a, oe) ∈ X.pn) (hz : Zc (.ref D) none oe) (hf : ∃ vs, oe.data = .fields vs) : CallR X (.builtin "isinstance") (rIsET X.K D a) := by
  intro pins s σ H xs us Q I r h
  obtain ⟨tp, cs, ws, b, rfl, hT, k, e, q⟩ := h
  obtain ⟨u1, u2, rfl, r1, r2⟩ := vals2 r
  cases (show u1 = Value.ref a from r1)
  cases (show u2 = Value.ref tp from r2)
  obtain ⟨od, _, _, J, _⟩ := inst_pin I hp hz hf
  obtain ⟨_, its, rv, o, h1, h2, n, h3⟩ := (show ObjOk X.prog X.w H s.heap tp (.tup cs) from I.hok tp _ hT)
  have e3 := ClsV.all k rv
  subst e3
  obtain ⟨oc, od, dt, sl⟩ := o
  simp only at h2 h3
  subst h2 h3
  exact PySem.W.kia_tup (PySem.W.handS_kitx_exc C.hg C.hk C.hs C.hd C.ha C.hn C.ht C.hm) I.kIn (J rfl) h1 e (fun z => nomatch z) fun tk => ⟨.bl b, H, I.tok tk, rfl, q⟩
end
/-! ### heaps -/
theorem Same.new {H : Hp} {p : Addr} {o : HO} (h : H p = none) : Same H (upd H p o) := fun a u e => by
  rw [upd_ne (ne_of_none e h)]
  exact e
/-- an object that H does not know may change -/
theorem Same.mut {H H' : Hp} {p : Addr} {o : HO} (e : Same H H') (h : H p = none) : Same H (upd H' p o) := fun a u ha => by
  rw [upd_ne (ne_of_none ha h)]
  exact e a u ha
theorem Same.rd {H H' : Hp} {a : Addr} {u : HO} (e : Same H H') (h : Rd H a u) : Rd H' a u := by
  rcases h with h | ⟨o, h⟩
  · exact Or.inl (e a _ h)
  · exact Or.inr ⟨o, e a _ h⟩
theorem Same.sl {K : PySem.W.Frag} {H H' : Hp} {a : Addr} {xs : List V} (e : Same H H') (h : SqL K H a xs) : SqL K H' a xs := by
  rcases h with h | h
  · exact Or.inl (Same.rd e h)
  · exact Or.inr h
theorem Same.st {K : PySem.W.Frag} {H H' : Hp} {a : Addr} {xs : List V} (e : Same H H') (h : SqT K H a xs) : SqT K H' a xs := by
  rcases h with h | h
  · exact Or.inl (Same.rd e h)
  · exact Or.inr h
theorem Same.sq {K : PySem.W.Frag} {H H' : Hp} {a : Addr} {xs : List V} (e : Same H H') (h : Sq K H a xs) : Sq K H' a xs := h.imp (Same.sl e) (Same.st e)
theorem Same.fresh {H H' : Hp} {p : Addr} (e : Same H H') (h : H' p = none) : H p = none := e.free h
mutual
theorem Same.dp {K : PySem.W.Frag} {H H' : Hp} (e : Same H H') : ∀ {d : PyData} {v : V}, Dp K H v d → Dp K H' v d
  | .none, _, h => by cases h; exact .non
  | .bool b, _, h => by cases h; exact .bl b
  | .int i, _, h => by cases h; exact .int i
  | .str x, _, h => by cases h; exact .str x
  | .list ds, _, h => by
    cases h with
    | lst hs ha => exact .lst (Same.sl e hs) (Same.dpa e ha)
  | .tuple ds, _, h => by
    cases h with
    | tup hs ha => exact .tup (Same.st e hs) (Same.dpa e ha)
  | .dict _, _, h => by cases h
theorem Same.dpa {K : PySem.W.Frag} {H H' : Hp} (e : Same H H') : ∀ {ds : List PyData} {vs : List V}, DpAll K H vs ds → DpAll K H' vs ds
  | [], _, h => by cases h; exact .nil
  | d :: ds, _, h => by
    cases h with
    | cons h1 h2 => exact .cons (Same.dp e h1) (Same.dpa e h2)
end
/-! ### readings by steps -/
section
variable {σ : L2.St} {H : Hp} {D : Ends} {K : PySem.W.Frag}
theorem w_seq {t u : TS} (q : t { D with nx := u D } σ H) : tSeq t u D σ H := q
theorem w_next (q : D.nx σ H) : tNext D σ H := q
theorem w_asg {te : TE} {g : TG} (q : te σ H fun x H1 => g x σ H1 D.nx) : tAsg te g D σ H := q
theorem w_name {i : Nat} {v : V} {Q : L2.St → Hp → Prop} (q : Q (σ.set i (some v)) H) : gName i v σ H Q := q
theorem w_drop {te : TE} (q : te σ H fun _ H1 => D.nx σ H1) : tDrop te D σ H := q
theorem w_ret {te : TE} (q : te σ H D.rt) : tRet te D σ H := q
theorem w_retN (q : D.rt .non H) : tRetN D σ H := q
theorem w_if {c : TT} {t u : TS} (q : c σ H fun b H1 => if b = true then t D σ H1 else u D σ H1) : tIfS c t u D σ H := q
theorem w_brk (q : D.bk σ H) : tBreak D σ H := q
theorem w_cont (q : D.ct σ H) : tCont D σ H := q
theorem w_var {i : Nat} {Q : VK} (v : V) (h : σ[i]? = some (some v)) (q : Q v H) : tVar i σ H Q := ⟨v, h, q⟩
theorem w_c {v : V} {Q : VK} (q : Q v H) : tC v σ H Q := q
theorem w_op {r : R2} {ta tb : TE} {Q : VK} (q : ta σ H fun x H1 => tb σ H1 fun y H2 => r x y H2 Q) : tOp r ta tb σ H Q := q
theorem w_un {r : V → Hp → VK → Prop} {ta : TE} {Q : VK} (q : ta σ H fun x H1 => r x H1 Q) : tUn r ta σ H Q := q
theorem w_cb {r : List V → Hp → VK → Prop} {ta : TA} {Q : VK} (q : ta σ H fun vs H1 => r vs H1 Q) : tCB r ta σ H Q := q
theorem w_nil {Q : List V → Hp → Prop} (q : Q [] H) : tNil σ H Q := q
theorem w_cons {te : TE} {tr : TA} {Q : List V → Hp → Prop} (q : te σ H fun x H1 => tr σ H1 fun xs H2 => Q (x :: xs) H2) : tCons te tr σ H Q := q
end
/-! ### new objects, told without their place -/
section
variable {X : Cx} {e a b : Expr} {es : List Expr} {t : TA} {ta tb te : TE} {pos : Pos}
def tTupA (t : TA) : TE := fun σ H Q => t σ H fun xs H1 => xs.length ≤ sizeLine ∧ ∀ p H2, H1 p = none → Same H1 H2 → H2 p = some (.tup xs) → Q (.ref p) H2
def tLstA (t : TA) : TE := fun σ H Q => t σ H fun xs H1 => xs.length ≤ sizeLine ∧ ∀ p H2, H1 p = none → Same H1 H2 → H2 p = some (.lst xs) → Q (.ref p) H2
theorem pe_tupA {x1 : Nat} (h : PA X es t) : PE X (.Tuple es x1 pos) (tTupA t) := by
  refine ⟨fun pins s σ H Q I hq => ?_⟩
  refine wpAny_Tuple_spliced (thn (h.run pos pins s σ H _ I hq) fun us s1 ⟨xs, H1, I1, r, z, q⟩ => ⟨by rw [← r.length]; exact z, ?_⟩)
  have hf : H1 s1.heap.objs.size = none := I1.hok.fresh (Nat.le_refl _)
  refine ⟨.ref s1.heap.objs.size, upd H1 s1.heap.objs.size (.tup xs), I1.laid (t' := s1.toks) (fun b u e => Heap.get?_push_of_some _ e) (Nat.le_refl _) ?_, rfl, q _ _ hf (Same.new hf) upd_same⟩
  exact ⟨z, us, r, ⟨_, Heap.get?_push_size _ rfl, rfl, _, rfl⟩⟩
theorem pe_lstA (h : PA X es t) : PE X (.List es pos) (tLstA t) := by
  refine ⟨fun pins s σ H Q I hq => ?_⟩
  refine wpAny_List_spliced (thn (h.run pos pins s σ H _ I hq) fun us s1 ⟨xs, H1, I1, r, z, q⟩ => ⟨by rw [← r.length]; exact z, ?_⟩)
  have hf : H1 s1.heap.objs.size = none := I1.hok.fresh (Nat.le_refl _)
  refine ⟨.ref s1.heap.objs.size, upd H1 s1.heap.objs.size (.lst xs), I1.laid (t' := s1.toks) (fun b u e => Heap.get?_push_of_some _ e) (Nat.le_refl _) ?_, rfl, q _ _ hf (Same.new hf) upd_same⟩
  exact ⟨z, us, 0, r, Heap.get?_push_size _ rfl⟩
theorem CallR.imp {f : Value} {r r' : List V → Hp → VK → Prop} (h : CallR X f r) (i : ∀ xs H Q, r' xs H Q → r xs H Q) : CallR X f r' := fun pins s σ H xs us Q I rs q => h pins s σ H xs us Q I rs (i _ _ _ q)
theorem OpR.imp {f : Value → Value → Sem Value} {r r' : R2} (h : OpR X f r) (i : ∀ x y H Q, r' x y H Q → r x y H Q) : OpR X f r' := fun pins s σ H x y v u Q I rx ry q => h pins s σ H x y v u Q I rx ry (i _ _ _ _ q)
theorem MtR.imp {id : String} {r r' : V → List V → Hp → VK → Prop} (h : MtR X id r) (i : ∀ x xs H Q, r' x xs H Q → r x xs H Q) : MtR X id r' := fun pins s σ H x xs v us Q I rx rs q => h pins s σ H x xs v us Q I rx rs (i _ _ _ _ q)
theorem SlR.imp {r r' : V → Option Int → Option Int → Hp → VK → Prop} (h : SlR X r) (i : ∀ x lo hi H Q, r' x lo hi H Q → r x lo hi H Q) : SlR X r' := by
  unfold SlR at *
  intros
  exact h _ _ _ _ _ _ _ _ _ _ _ _ (by assumption) (by assumption) (by assumption) (by assumption) (by assumption) (i _ _ _ _ _ (by assumption))
/-- all but the object at l stands -/
def But (l : Addr) (H H2 : Hp) : Prop := ∀ b, b ≠ l → H2 b = H b
theorem But.same {l : Addr} {H0 H H2 : Hp} (c : But l H H2) (e : Same H0 H) (h : H0 l = none) : Same H0 H2 := fun a u ha => by
  rw [c a (ne_of_none ha h)]
  exact e a u ha
theorem But.st {K : PySem.W.Frag} {l p : Addr} {H H2 : Hp} {xs : List V} {o : HO} (c : But l H H2) (hl : H l = some o) (ho : Mut (some o)) (h : SqT K H p xs) : SqT K H2 p xs := by
  rcases h with (h | ⟨ob, h⟩) | h
  · refine .inl (.inl ?_)
    rw [c p (fun z => by rw [z, hl] at h; cases h; exact ho)]
    exact h
  · refine .inl (.inr ⟨ob, ?_⟩)
    rw [c p (fun z => by rw [z, hl] at h; cases h; exact ho)]
    exact h
  · exact .inr h
theorem But.sl {K : PySem.W.Frag} {l p : Addr} {H H2 : Hp} {xs : List V} (c : But l H H2) (hn : p ≠ l) (h : SqL K H p xs) : SqL K H2 p xs := by
  rcases h with (h | ⟨ob, h⟩) | h
  · exact .inl (.inl (by rw [c p hn]; exact h))
  · exact .inl (.inr ⟨ob, by rw [c p hn]; exact h⟩)
  · exact .inr h
def rAppendA : V → List V → Hp → VK → Prop := fun x vs H Q => ∃ l xs y, x = .ref l ∧ vs = [y] ∧ H l = some (.lst xs) ∧ xs.length < sizeLine ∧ ∀ H2, But l H H2 → H2 l = some (.lst (xs ++ [y])) → Q .non H2
theorem but_upd {l : Addr} {H : Hp} {o : HO} : But l H (upd H l o) := fun _ hb => upd_ne hb
theorem mt_appendA : MtR X "list.append" rAppendA := MtR.imp mt_append fun _ _ _ _ ⟨l, xs, y, h1, h2, h3, h4, q⟩ => ⟨l, xs, y, h1, h2, h3, h4, q _ but_upd upd_same⟩
/-- + of ints, texts, lists, tuples -/
def rCatL (K : PySem.W.Frag) : R2 := fun x y H Q => ∃ a b xs ys, x = .ref a ∧ y = .ref b ∧ H a = some (.lst xs) ∧ H b = some (.lst ys) ∧ xs.length + ys.length ≤ sizeLine ∧ ∀ p H2, H p = none → Same H H2 → H2 p = some (.lst (xs ++ ys)) → Q (.ref p) H2
def rAddA (K : PySem.W.Frag) : R2 := fun x y H Q => (rI0 fun i j => .int (i + j)) x y H Q ∨ (∃ i j, x = .str i ∧ y = .str j ∧ i.length + j.length ≤ sizeLine ∧ Q (.str (i ++ j)) H) ∨ rCatL K x y H Q
theorem op_addA : OpR X (binaryOp .Add) (rAddA X.K) := op_add.or (op_add_str.or (OpR.imp op_cat fun _ _ _ _ ⟨a, b, xs, ys, h1, h2, h3, h4, h5, q⟩ => ⟨a, b, xs, ys, h1, h2, h3, h4, h5, fun p hp => q p _ hp (Same.new hp) upd_same⟩))
def rEqP (K : PySem.W.Frag) : R2 := fun x y H Q => ∃ d e, Dp K H x d ∧ Dp K H y e ∧ d.plain = true ∧ e.plain = true ∧ d.depth ≤ 64 ∧ Q (.bl (PyData.eqv d e)) H
def rNeP (K : PySem.W.Frag) : R2 := fun x y H Q => ∃ d e, Dp K H x d ∧ Dp K H y e ∧ d.plain = true ∧ e.plain = true ∧ d.depth ≤ 64 ∧ Q (.bl (!PyData.eqv d e)) H
theorem op_eqP (hu : X.A.units + 64 < cLine) : OpR X (compareOp .Eq) (rEqP X.K) := by
  intro pins s σ H x y v u Q I rx ry h
  obtain ⟨d, e, hd, he, sd, se, dd, q⟩ := h
  obtain ⟨as, r1⟩ := Dp.reads I d x v hd rx
  obtain ⟨bs, r2⟩ := Dp.reads I e y u he ry
  exact SeqAt.eq_plain r1 r2 sd se (by omega) ⟨.bl _, H, I, rfl, q⟩
theorem op_neP (hu : X.A.units + 64 < cLine) : OpR X (compareOp .NotEq) (rNeP X.K) := by
  intro pins s σ H x y v u Q I rx ry h
  obtain ⟨d, e, hd, he, sd, se, dd, q⟩ := h
  obtain ⟨as, r1⟩ := Dp.reads I d x v hd rx
  obtain ⟨bs, r2⟩ := Dp.reads I e y u he ry
  exact SeqAt.ne_plain r1 r2 sd se (by omega) ⟨.bl _, H, I, rfl, q⟩
def rEqA (K : PySem.W.Frag) : R2 := fun x y H Q => rEq x y H Q ∨ rEqP K x y H Q
def rNeA (K : PySem.W.Frag) : R2 := fun x y H Q => rNe x y H Q ∨ rNeP K x y H Q
theorem op_eqA (hu : X.A.units + 64 < cLine) : OpR X (compareOp .Eq) (rEqA X.K) := op_eq.or (op_eqP hu)
theorem op_neA (hu : X.A.units + 64 < cLine) : OpR X (compareOp .NotEq) (rNeA X.K) := op_ne.or (op_neP hu)
def rIsA (K : PySem.W.Frag) : List V → Hp → VK → Prop := fun xs H Q => rIsi K xs H Q ∨ rIsiT K xs H Q
theorem call_isA : CallR X (.builtin "isinstance") (rIsA X.K) := call_isi.or call_isiT
def rLen (K : PySem.W.Frag) : List V → Hp → VK → Prop := fun xs H Q => ∃ x n, xs = [x] ∧ LenV K x H n ∧ Q (.int (n : Int)) H
theorem call_lenA : CallR X (.builtin "len") (rLen X.K) := call_len
def rInt : List V → Hp → VK → Prop := fun xs H Q => (∃ i, xs = [.int i] ∧ Q (.int i) H) ∨ ∃ k, xs = [.bl k] ∧ Q (.int (if k then 1 else 0)) H
theorem call_intA : CallR X (.type "int") rInt := call_int1
def rAbs : List V → Hp → VK → Prop := fun xs H Q => ∃ i, xs = [.int i] ∧ Q (.int (if i < 0 then -i else i)) H
theorem call_absA : CallR X (.builtin "abs") rAbs := call_abs
def rListA (K : PySem.W.Frag) : List V → Hp → VK → Prop := fun xs H Q => ∃ p ys, xs = [.ref p] ∧ Sq K H p ys ∧ ∀ l H2, H l = none → Same H H2 → H2 l = some (.lst ys) → Q (.ref l) H2
theorem call_listA : CallR X (.type "list") (rListA X.K) := CallR.imp call_list_of fun _ _ _ ⟨p, ys, h1, h2, q⟩ => ⟨p, ys, h1, h2, fun l hl => q l _ hl (Same.new hl) upd_same⟩
def rTupleA (K : PySem.W.Frag) : List V → Hp → VK → Prop := fun xs H Q => ∃ p ys, xs = [.ref p] ∧ Sq K H p ys ∧ ∀ l H2, Same H H2 → SqT K H2 l ys → Q (.ref l) H2
theorem call_tupleA : CallR X (.type "tuple") (rTupleA X.K) := CallR.imp call_tuple_of fun _ _ _ ⟨p, ys, h1, h2, q⟩ => ⟨p, ys, h1, h2.elim (fun h => .inl ⟨h, fun l hl => q l _ (Same.new hl) (SqT.of upd_same)⟩) fun h => .inr ⟨h, q p _ (Same.refl _) h⟩⟩
/-- xs[lo:hi] of a list, a tuple, a text -/
def rSlQ (K : PySem.W.Frag) : V → Option Int → Option Int → Hp → VK → Prop := fun x lo hi H Q => ∃ a xs, x = .ref a ∧ SqL K H a xs ∧ ∀ p H2, H p = none → Same H H2 → H2 p = some (.lst (cutV xs lo hi)) → Q (.ref p) H2
theorem sl_listA : SlR X (rSlQ X.K) := SlR.imp sl_list fun _ _ _ _ _ ⟨a, xs, h1, h2, q⟩ => ⟨a, xs, h1, h2, fun p hp => q p _ hp (Same.new hp) upd_same⟩
end
/-! ### more steps -/
section
variable {σ : L2.St} {H : Hp} {D : Ends} {K : PySem.W.Frag} {Q : VK} {p : Addr} {xs : List V}
theorem w_tup {ta : TA} (q : ta σ H fun xs H1 => xs.length ≤ sizeLine ∧ ∀ p H2, H1 p = none → Same H1 H2 → H2 p = some (.tup xs) → Q (.ref p) H2) : tTupA ta σ H Q := q
theorem w_lst {ta : TA} (q : ta σ H fun xs H1 => xs.length ≤ sizeLine ∧ ∀ p H2, H1 p = none → Same H1 H2 → H2 p = some (.lst xs) → Q (.ref p) H2) : tLstA ta σ H Q := q
theorem w_test {te : TE} {Q : Bool → Hp → Prop} (q : te σ H fun x H1 => ∃ k, x = .bl k ∧ Q k H1) : tTest te σ H Q := q
theorem w_B {te : TE} {Q : Bool → Hp → Prop} (q : te σ H fun x H1 => ∃ k, x = .bl k ∧ Q k H1) : tB te σ H Q := q
theorem w_bl {b : Bool} {Q : Bool → Prop} (q : Q b) : ∃ k, V.bl b = .bl k ∧ Q k := ⟨b, rfl, q⟩
theorem w_and {t u : TT} {Q : Bool → Hp → Prop} (q : t σ H fun c H1 => if c = true then u σ H1 Q else Q false H1) : tAnd t u σ H Q := q
theorem w_or {t u : TT} {Q : Bool → Hp → Prop} (q : t σ H fun c H1 => if c = true then Q true H1 else u σ H1 Q) : tOr t u σ H Q := q
theorem w_not {t : TT} {Q : Bool → Hp → Prop} (q : t σ H fun c H1 => Q (!c) H1) : tNot t σ H Q := q
theorem w_andV {ta tb : TE} (q : ta σ H fun x H1 => ∃ c, x = .bl c ∧ if c = true then tb σ H1 Q else Q (.bl false) H1) : tAndV ta tb σ H Q := q
theorem w_orV {ta tb : TE} (q : ta σ H fun x H1 => ∃ c, x = .bl c ∧ if c = true then Q (.bl true) H1 else tb σ H1 Q) : tOrV ta tb σ H Q := q
theorem w_notV {ta : TE} (q : ta σ H fun x H1 => ∃ c, x = .bl c ∧ Q (.bl (!c)) H1) : tNotV ta σ H Q := q
theorem w_ifE {t : TT} {ta tb : TE} (q : t σ H fun c H1 => if c = true then ta σ H1 Q else tb σ H1 Q) : tIf t ta tb σ H Q := q
theorem w_call {sp : Sp} {dvs : List V} {E : XK} {t : TA} (q : t σ H fun vs H1 => sp (vs ++ dvs) H1 Q E) : tCall sp dvs E t σ H Q := q
theorem w_bm {T : String} {r : V → List V → Hp → VK → Prop} {to : TE} {t : TA} (q : to σ H fun x H1 => tyV K T x H1 ∧ t σ H1 fun xs H2 => r x xs H2 Q) : tBM K T r to t σ H Q := q
theorem w_bm0 {T : String} {r : V → List V → Hp → VK → Prop} {to : TE} (q : to σ H fun x H1 => tyV K T x H1 ∧ r x [] H1 Q) : tBM0 K T r to σ H Q := q
theorem w_bits {to : TE} (q : to σ H fun x H1 => ∃ i, x = .int i ∧ Q (.int (Builtin.Int.intBits i : Nat)) H1) : tBits to σ H Q := q
theorem w_I0 {g : Int → Int → V} {i j : Int} (q : Q (g i j) H) : rI0 g (.int i) (.int j) H Q := ⟨i, j, rfl, rfl, q⟩
theorem w_I {C : Int → Int → Prop} {g : Int → Int → V} {i j : Int} (c : C i j) (q : Q (g i j) H) : rI C g (.int i) (.int j) H Q := ⟨i, j, rfl, rfl, c, q⟩
theorem w_U {g : Int → V} {i : Int} (q : Q (g i) H) : rU g (.int i) H Q := ⟨i, rfl, q⟩
theorem w_add {i j : Int} (q : Q (.int (i + j)) H) : rAddA K (.int i) (.int j) H Q := .inl ⟨i, j, rfl, rfl, q⟩
theorem w_addS {i j : Str} (c : i.length + j.length ≤ sizeLine) (q : Q (.str (i ++ j)) H) : rAddA K (.str i) (.str j) H Q := .inr (.inl ⟨i, j, rfl, rfl, c, q⟩)
theorem w_addL {a b : Addr} {xs ys : List V} (h1 : H a = some (.lst xs)) (h2 : H b = some (.lst ys)) (c : xs.length + ys.length ≤ sizeLine) (q : ∀ p H2, H p = none → Same H H2 → H2 p = some (.lst (xs ++ ys)) → Q (.ref p) H2) : rAddA K (.ref a) (.ref b) H Q := .inr (.inr ⟨a, b, xs, ys, rfl, rfl, h1, h2, c, q⟩)
theorem dec_i {i j : Int} : decide (V.int i = V.int j) = decide (i = j) := by
  by_cases h : i = j
  · rw [h, decide_eq_true rfl, decide_eq_true rfl]
  · rw [decide_eq_false h, decide_eq_false fun z => h (V.int.inj z)]
theorem dec_s {i j : Str} : decide (V.str i = V.str j) = decide (i = j) := by
  by_cases h : i = j
  · rw [h, decide_eq_true rfl, decide_eq_true rfl]
  · rw [decide_eq_false h, decide_eq_false fun z => h (V.str.inj z)]
theorem w_eqI {i j : Int} (q : Q (.bl (decide (i = j))) H) : rEqA K (.int i) (.int j) H Q := .inl ⟨rfl, by rw [dec_i]; exact q⟩
theorem w_neI {i j : Int} (q : Q (.bl (!decide (i = j))) H) : rNeA K (.int i) (.int j) H Q := .inl ⟨rfl, by rw [dec_i]; exact q⟩
theorem w_eqS {i j : Str} (q : Q (.bl (decide (i = j))) H) : rEqA K (.str i) (.str j) H Q := .inl ⟨rfl, by rw [dec_s]; exact q⟩
theorem w_neS {i j : Str} (q : Q (.bl (!decide (i = j))) H) : rNeA K (.str i) (.str j) H Q := .inl ⟨rfl, by rw [dec_s]; exact q⟩
theorem w_eqD {x y : V} {d e : PyData} (h1 : Dp K H x d) (h2 : Dp K H y e) (s1 : SeqAt.shaped d = true) (s2 : SeqAt.shaped e = true) (q : Q (.bl (PyData.eqv d e)) H) : rEqA K x y H Q := .inr ⟨d, e, h1, h2, PyData.plain_of_canLay0 _ (SeqAt.canLay_of_shaped s1), PyData.plain_of_canLay0 _ (SeqAt.canLay_of_shaped s2), SeqAt.depth_of_shaped s1, q⟩
theorem w_neD {x y : V} {d e : PyData} (h1 : Dp K H x d) (h2 : Dp K H y e) (s1 : SeqAt.shaped d = true) (s2 : SeqAt.shaped e = true) (q : Q (.bl (!PyData.eqv d e)) H) : rNeA K x y H Q := .inr ⟨d, e, h1, h2, PyData.plain_of_canLay0 _ (SeqAt.canLay_of_shaped s1), PyData.plain_of_canLay0 _ (SeqAt.canLay_of_shaped s2), SeqAt.depth_of_shaped s1, q⟩
theorem w_ix {i : Int} {v : V} (h : Sq K H p xs) (ha : atI xs i = some v) (q : Q v H) : rIx K (.ref p) (.int i) H Q := h.elim (fun h => .inl ⟨p, xs, i, v, rfl, rfl, h, ha, q⟩) fun h => .inr (.inl ⟨p, xs, i, v, rfl, rfl, h, ha, q⟩)
theorem w_len (xs : List V) (h : Sq K H p xs) (q : Q (.int (xs.length : Int)) H) : rLen K [.ref p] H Q := ⟨.ref p, xs.length, rfl, h.elim (fun h => .inl ⟨_, h, rfl⟩) fun h => .inr ⟨_, h, rfl⟩, q⟩
theorem w_lenS {x : Str} (hz : x.length ≤ sizeLine) (q : Q (.int (x.length : Int)) H) : rLen K [.str x] H Q := ⟨.str x, x.length, rfl, ⟨hz, rfl⟩, q⟩
theorem w_int {i : Int} (q : Q (.int i) H) : rInt [.int i] H Q := .inl ⟨i, rfl, q⟩
theorem w_abs {i : Int} (q : Q (.int (i.natAbs : Int)) H) : rAbs [.int i] H Q := ⟨i, rfl, by rw [show (if i < 0 then -i else i) = (i.natAbs : Int) by split <;> omega]; exact q⟩
theorem w_gcd {a b : Int} (q : Q (.int ((Nat.gcd a.natAbs b.natAbs : Nat) : Int)) H) : rGcd [.int a, .int b] H Q := ⟨a, b, rfl, q⟩
theorem w_list {ys : List V} (h : Sq K H p ys) (q : ∀ l H2, H l = none → Same H H2 → H2 l = some (.lst ys) → Q (.ref l) H2) : rListA K [.ref p] H Q := ⟨p, ys, rfl, h, q⟩
theorem w_tuple {ys : List V} (h : Sq K H p ys) (q : ∀ l H2, Same H H2 → SqT K H2 l ys → Q (.ref l) H2) : rTupleA K [.ref p] H Q := ⟨p, ys, rfl, h, q⟩
theorem tyx_l (h : SqL K H p xs) : TyX K H (.ref p) (.type "list") := by
  rcases h with (h | ⟨o, h⟩) | ⟨o, its, n, h1, h2, _⟩
  · exact .base (.lst h)
  · exact .base (.frz h)
  · exact .kList h1 h2
theorem tyx_t (h : SqT K H p xs) : TyX K H (.ref p) (.type "tuple") := by
  rcases h with (h | ⟨o, h⟩) | ⟨o, its, n, h1, h2, _⟩
  · exact .base (.tup h)
  · exact .fTuple h
  · exact .kTuple h1 h2
theorem w_isi {x : V} {a c : String} {b : Bool} (ty : TyX K H x (.type a)) (e : kitB a c = some b) (q : Q (.bl b) H) : rIsA K [x, .ty c] H Q := .inl ⟨x, .ty c, _, _, b, rfl, .ty c, ty, kit_ty e, q⟩
theorem w_append {l : Addr} {y : V} (h : H l = some (.lst xs)) (hz : xs.length < sizeLine) (q : ∀ H2, But l H H2 → H2 l = some (.lst (xs ++ [y])) → Q .non H2) : rAppendA (.ref l) [y] H Q := ⟨l, xs, y, rfl, rfl, h, hz, q⟩
theorem w_new {n : Nat} {B : Prop} (hn : n ≤ sizeLine) (q : B) : n ≤ sizeLine ∧ B := ⟨hn, q⟩
theorem iteD {c : Prop} [Decidable c] {A B : Prop} (h1 : c → A) (h2 : ¬ c → B) : if decide c = true then A else B := by
  by_cases h : c
  · rw [decide_eq_true h]
    exact iteT (h1 h)
  · rw [decide_eq_false h]
    exact iteF (h2 h)
theorem iteN {c : Bool} {A B : Prop} (h1 : c = false → A) (h2 : c = true → B) : if (!c) = true then A else B := by
  cases c with
  | true => exact iteF (h2 rfl)
  | false => exact iteT (h1 rfl)
theorem iteB {c : Bool} {A B : Prop} (h1 : c = true → A) (h2 : c = false → B) : if c = true then A else B := by
  cases c with
  | true => exact iteT (h1 rfl)
  | false => exact iteF (h2 rfl)
end
/-! ### defs -/
/-- the def nm of the text stands behind the top -/
structure At (K : PySem.W.Frag) (mg : Str → Option Value) (nm : Str) (st : Stmt) : Prop where
  ex : ∃ fd, FunD K nm nm (defArgs st) (defBody st) (defScope st) [] [] (He.ga K nm) fd
  gl : mg nm = some (.ref (He.ga K nm))
/-- it keeps its promise -/
structure Def (P : Program) (w : World) (K : PySem.W.Frag) (mg : Str → Option Value) (base : Heap) (nm : Str) (k : Nat) (ps : List Str) (sp : Sp) : Prop where
  ex : ∃ f fd, FnOk P w K mg base (L2N.CX P w) k f fd ps sp ∧ mg nm = some (.ref f) ∧ PySem.W.keepIn K (.ref f) = true ∧ Binds K fd ps [] ∧ ∃ o, K.lookup f = some o ∧ o.data = .func fd
section
variable {P : Program} {w : World} {K : PySem.W.Frag} {mg : Str → Option Value} {base : Heap}
theorem Def.of {nm : Str} {st : Stmt} {N ps : List Str} {k : Nat} {sp : Sp} (h : At K mg nm st) (S : FnScope N ps (defScope st))
    (hbind : ∀ (kV doc pm : Value) (an : Option Addr) (cdv ct : Value) (us : List Value), us.length = ps.length → bindArgs (PySem.W.fnOf nm nm (defArgs st) (defBody st) (defScope st) .none kV doc pm an cdv ct) ⟨us, []⟩ = pure (ps.zip us))
    (len : ∀ vs H Q E, sp vs H Q E → vs.length = ps.length)
    (hbody : ∀ (f : Addr) (cdv : Value) (A : Around) (outer : List Env) (s : Shared) (H : Hp) (vs : List V) (Q : VK) (E : XK), Room k (A.deeper (envOfC nm (defScope st) s.heap.objs.size f cdv)) → sp vs H Q E →
      ∃ t, PSs (cxOf (L2N.CX P w) P w K mg base N nm (defScope st) f cdv A outer s H E) (defBody st) t ∧ t { nx := fun _ H' => Q .non H', rt := Q } (start N vs) H) : Def P w K mg base nm (k + 1) ps sp := by
  obtain ⟨fd, F⟩ := h.ex
  refine ⟨_, fd, F.ok S len (hbody (He.ga K nm)), h.gl, F.kp, F.bindsN hbind, ?_⟩
  obtain ⟨oc, od, dV, kV, doc, pm, an, cdv, ct, osl, rfl, lk, _⟩ := F.ex
  exact ⟨_, lk, rfl⟩
theorem Def.mono {nm : Str} {j k : Nat} {ps : List Str} {sp : Sp} (d : Def P w K mg base nm j ps sp) (h : j ≤ k) : Def P w K mg base nm k ps sp := by
  obtain ⟨f, fd, F, a, b, c⟩ := d.ex
  exact ⟨f, fd, F.mono h, a, b, c⟩
end
section
variable {X : Cx} {nm : Str} {k : Nat} {ps : List Str} {sp : Sp} {p pos : Pos} {e : Expr} {es : List Expr} {t : TA}
theorem pe_def (d : Def X.prog X.w X.K X.mg X.base nm k ps sp) (hr : Room k X.A) (hg : Gl X nm) (ha : PA X (e :: es) t) (hdb : (nm == ("__debug__" : Str)) = false := by decide)
    (he : starEach (e :: es) X.env = (false, eval e X.env) :: starEach es X.env := by rfl) (hpl : (backTo pos (starEach es X.env)).any (·.1) = false := by rfl) : PE X (.Call (.Name nm p) (e :: es) [] pos) (tCall sp [] E0 t) := by
  obtain ⟨f, fd, F, hm, hk, hb, _⟩ := d.ex
  exact pe_call F hr hg hm hk hb .nil passN ha hdb he hpl
theorem pe_def0 (d : Def X.prog X.w X.K X.mg X.base nm k ps sp) (hr : Room k X.A) (hg : Gl X nm) (hdb : (nm == ("__debug__" : Str)) = false := by decide) : PE X (.Call (.Name nm p) [] [] pos) (tCall sp [] E0 tNil) := by
  obtain ⟨f, fd, F, hm, hk, hb, _⟩ := d.ex
  exact pe_call0 F hr hg hm hk hb .nil passN hdb
/-- a call whose exception is wished for at the caller's slots -/
theorem pe_defS {W : WX} (d : Def X.prog X.w X.K X.mg X.base nm k ps sp) (hr : Room k X.A) (hg : Gl X nm) (tk : L2N.Takes X W) (ha : PA X (e :: es) t) (hdb : (nm == ("__debug__" : Str)) = false := by decide)
    (he : starEach (e :: es) X.env = (false, eval e X.env) :: starEach es X.env := by rfl) (hpl : (backTo pos (starEach es X.env)).any (·.1) = false := by rfl) : PE X (.Call (.Name nm p) (e :: es) [] pos) (tCallS sp (WE W) t) := by
  obtain ⟨f, fd, F, hm, hk, hb, _⟩ := d.ex
  exact pe_callS F hr hg hm hk hb (fun σ => passAtN tk σ) ha hdb he hpl
theorem w_callS {σ : L2.St} {H : Hp} {Q : VK} {sp : Sp} {E : L2.St → XK} {t : TA} (q : t σ H fun vs H1 => sp vs H1 Q (E σ)) : tCallS sp E t σ H Q := q
end
/-! ### sizes -/
abbrev Sm (n : Nat) (x : Int) : Prop := x.natAbs < 2 ^ n
theorem Sm.mono {a b : Nat} {x : Int} (h : Sm a x) (e : a ≤ b) : Sm b x := Nat.lt_of_lt_of_le h (Nat.pow_le_pow_right (by decide) e)
theorem Sm.mulOk {a b : Nat} {x y : Int} (h : Sm a x) (h' : Sm b y) (e : a + b ≤ 999990) : CMulW x y :=
  wide_mul (a := a + 1) (b := b + 1) (Sm.mono h (Nat.le_succ a)) (Sm.mono h' (Nat.le_succ b)) (Nat.succ_pos _) (Nat.succ_pos _) (by omega)
theorem Sm.mul {a b : Nat} {x y : Int} (h : Sm a x) (h' : Sm b y) : Sm (a + b) (x * y) := wide_lt h h'
theorem Sm.add {a : Nat} {x y : Int} (h : Sm a x) (h' : Sm a y) : Sm (a + 1) (x + y) := by
  have e : 2 ^ (a + 1) = 2 ^ a + 2 ^ a := by rw [Nat.pow_succ]; omega
  show (x + y).natAbs < 2 ^ (a + 1)
  have h1 : x.natAbs < 2 ^ a := h
  have h2 : y.natAbs < 2 ^ a := h'
  rw [e]
  omega
theorem Sm.neg {a : Nat} {x : Int} (h : Sm a x) : Sm a (-x) := by
  show (-x).natAbs < 2 ^ a
  rw [Int.natAbs_neg]
  exact h
theorem Sm.divOk {b : Nat} {x y : Int} (h0 : y ≠ 0) (h : Sm b y) (e : b ≤ 8990) : CDivG x y :=
  ⟨h0, Nat.lt_of_lt_of_le (PySem.Flt.log2_lt_of (Nat.succ_pos b) (Sm.mono h (Nat.le_succ b))) (by omega)⟩
theorem Sm.le {a : Nat} {x y : Int} (h : Sm a y) (e : x.natAbs ≤ y.natAbs) : Sm a x := Nat.lt_of_le_of_lt e h
theorem small_div {x y : Int} (h0 : 0 < y) (h : y < 1073741824) : CDivG x y := Sm.divOk (b := 30) (by omega) (show y.natAbs < 2 ^ 30 by omega) (by omega)
theorem small_mul {x y : Int} (h0 : y.natAbs < 1073741824) (h : x.natAbs < 1073741824) : CMulW x y := Sm.mulOk (a := 30) (b := 30) (show x.natAbs < 2 ^ 30 by omega) (show y.natAbs < 2 ^ 30 by omega) (by omega)
/-! ### loops -/
section
variable {K : PySem.W.Frag} {σ : L2.St} {H : Hp} {D : Ends} {g : TG} {tb : TS}
/-- what a for asks of its iterator J -/
def ForW (J : It) (g : TG) (tb : TS) (D : Ends) (σ : L2.St) (H : Hp) : Prop := ∃ W : Nat → Nat → L2.St → Hp → Prop, (∃ m, W 0 m σ H) ∧ ∀ i m σ H, W i m σ H →
  (J.stop i H ∧ D.nx σ H) ∨ (J.go i H ∧ ∃ N : L2.St → Hp → Prop, (∀ σ' H', N σ' H' → ∃ m', m' < m ∧ W (i + 1) m' σ' H') ∧ ∀ x H', J.yld i H x H' → g x σ H' fun σ2 H2 => tb { D with nx := N, ct := N, bk := D.nx } σ2 H2)
theorem w_for {wi : TI} (q : wi σ H fun J H1 => ForW J g tb D σ H1) : tFor wi g tb D σ H := q
theorem w_rng1 {ta : TA} {R : It → Hp → Prop} (q : ta σ H fun vs H1 => ∃ j : Int, vs = [.int j] ∧ -(2 ^ 62) ≤ j ∧ j < 2 ^ 62 ∧ R (Itr 0 j.toNat) H1) : iRng1 ta σ H R := q
theorem w_rng2 {ta : TA} {R : It → Hp → Prop} (q : ta σ H fun vs H1 => ∃ i j : Int, vs = [.int i, .int j] ∧ (-(2 ^ 62) ≤ i ∧ i < 2 ^ 62 ∧ -(2 ^ 62) ≤ j ∧ j < 2 ^ 62) ∧ R (Itr i (j - i).toNat) H1) : iRng2 ta σ H R := q
theorem w_iseq {tl : TE} {R : It → Hp → Prop} (q : tl σ H fun x H1 => ∃ a, x = .ref a ∧ (((∃ xs, SqL K H1 a xs) ∧ R (Itl K a) H1) ∨ ((∃ xs, SqT K H1 a xs) ∧ R (Itt K a) H1))) : iSeq K tl σ H R := q
/-- range(j) -/
theorem for_rng1 {j : Int} {n : Nat} (hj : j.toNat = n) (h1 : -(2 ^ 62) ≤ j) (h2 : j < 2 ^ 62) (Pv : Nat → L2.St → Hp → Prop) (h0 : Pv 0 σ H)
    (hs : ∀ i σ H, i < n → Pv i σ H → g (.int (i : Int)) σ H fun σ2 H2 => tb { D with nx := Pv (i + 1), ct := Pv (i + 1), bk := D.nx } σ2 H2) (hd : ∀ σ H, Pv n σ H → D.nx σ H) :
    ∃ k : Int, [V.int j] = [V.int k] ∧ -(2 ^ 62) ≤ k ∧ k < 2 ^ 62 ∧ ForW (Itr 0 k.toNat) g tb D σ H := by
  subst hj
  exact ⟨j, rfl, h1, h2, for_range (lo := 0) (n := j.toNat) Pv h0 (fun i σ H hi p => by rw [Int.zero_add]; exact hs i σ H hi p) hd⟩
theorem for_rng2 {a j : Int} {n : Nat} (hj : (j - a).toNat = n) (h1 : -(2 ^ 62) ≤ a) (h2 : a < 2 ^ 62) (h3 : -(2 ^ 62) ≤ j) (h4 : j < 2 ^ 62) (Pv : Nat → L2.St → Hp → Prop) (h0 : Pv 0 σ H)
    (hs : ∀ i σ H, i < n → Pv i σ H → g (.int (a + (i : Int))) σ H fun σ2 H2 => tb { D with nx := Pv (i + 1), ct := Pv (i + 1), bk := D.nx } σ2 H2) (hd : ∀ σ H, Pv n σ H → D.nx σ H) :
    ∃ i k : Int, [V.int a, V.int j] = [V.int i, V.int k] ∧ (-(2 ^ 62) ≤ i ∧ i < 2 ^ 62 ∧ -(2 ^ 62) ≤ k ∧ k < 2 ^ 62) ∧ ForW (Itr i (k - i).toNat) g tb D σ H := by
  subst hj
  exact ⟨a, j, rfl, ⟨h1, h2, h3, h4⟩, for_range (lo := a) (n := (j - a).toNat) Pv h0 hs hd⟩
/-- a list or a tuple that stands in H0, from which all the heaps grow -/
theorem for_seq {a : Addr} {xs : List V} (H0 : Hp) (hq : Sq K H0 a xs) (Pv : Nat → L2.St → Hp → Prop) (h0 : Pv 0 σ H) (hl : ∀ i σ H, i ≤ xs.length → Pv i σ H → Same H0 H)
    (hs : ∀ i x σ H, xs[i]? = some x → Pv i σ H → g x σ H fun σ2 H2 => tb { D with nx := Pv (i + 1), ct := Pv (i + 1), bk := D.nx } σ2 H2) (hd : ∀ σ H, Pv xs.length σ H → D.nx σ H) :
    ∃ b, V.ref a = .ref b ∧ (((∃ xs, SqL K H b xs) ∧ ForW (Itl K b) g tb D σ H) ∨ ((∃ xs, SqT K H b xs) ∧ ForW (Itt K b) g tb D σ H)) := by
  refine ⟨a, rfl, ?_⟩
  rcases hq with hq | hq
  · exact .inl ⟨⟨xs, Same.sl (hl 0 σ H (Nat.zero_le _) h0) hq⟩, for_list Pv h0 (fun i σ H hi p => Same.sl (hl i σ H hi p) hq) hs hd⟩
  · exact .inr ⟨⟨xs, Same.st (hl 0 σ H (Nat.zero_le _) h0) hq⟩, for_tup Pv h0 (fun i σ H hi p => Same.st (hl i σ H hi p) hq) hs hd⟩
end
/-! ### targets; bits -/
theorem g_cons {t : TG} {u : TGs} {v : V} {r : List V} {σ : L2.St} {H : Hp} {Q : L2.St → Hp → Prop} (q : t v σ H fun σ' H' => u r σ' H' Q) : gCons t u (v :: r) σ H Q := ⟨v, r, rfl, q⟩
theorem g_nil {σ : L2.St} {H : Hp} {Q : L2.St → Hp → Prop} (q : Q σ H) : gNil [] σ H Q := ⟨rfl, q⟩
theorem bits_lt (n : Nat) : n < 2 ^ Builtin.Int.intBits (n : Int) := by
  unfold Builtin.Int.intBits
  split
  · rename_i h
    have : (n : Int) = 0 := by simpa using h
    omega
  · rw [Int.natAbs_natCast]
    exact Nat.lt_log2_self
/-! ### the methods of a list; medium numbers -/
theorem w_tyl {K : PySem.W.Frag} {l : Addr} {H : Hp} {B : Prop} (xs : List V) (h : H l = some (.lst xs)) (q : B) : tyV K "list" (.ref l) H ∧ B := ⟨.inl ⟨rfl, _, SqL.of h⟩, q⟩
theorem med_mul {x y : Int} (h0 : x.natAbs < 18446744073709551616) (h : y.natAbs < 18446744073709551616) : CMulW x y := Sm.mulOk (a := 64) (b := 64) h0 h (by decide)
theorem size_of {n : Nat} (h : n < 16777216) : n < sizeLine := by rw [sizeLine_eq]; exact h
theorem size_le {n : Nat} (h : n ≤ 16777216) : n ≤ sizeLine := by rw [sizeLine_eq]; exact h
theorem map_at {ns : List Int} {i : Nat} {x : V} (h : (ns.map V.int)[i]? = some x) : ∃ c, ns[i]? = some c ∧ V.int c = x := by
  rw [List.getElem?_map] at h
  cases e : ns[i]? with
  | none => rw [e] at h; cases h
  | some c => rw [e] at h; exact ⟨c, rfl, Option.some.inj h⟩
theorem map_get {ns : List Int} {i : Nat} {c : Int} (h : ns[i]? = some c) : (ns.map V.int)[i]? = some (.int c) := by
  rw [List.getElem?_map, h]; rfl
/-! ### powers of ten; items of written lists -/
section
variable {H : Hp} {Q : VK}
theorem w_pw {i j : Int} (k : Int) (e : i ^ j.toNat = k) (c : CPow i j) (q : Q (.int k) H) : rI CPow (fun i j => .int (i ^ j.toNat)) (.int i) (.int j) H Q := ⟨i, j, rfl, rfl, c, by show Q (.int (i ^ j.toNat)) H; rw [e]; exact q⟩
theorem w_p6 (q : Q (.int 1000000) H) : rI CPow (fun i j => .int (i ^ j.toNat)) (.int 10) (.int 6) H Q := w_pw 1000000 (by decide) ⟨by decide, by decide, by decide⟩ q
theorem w_p9 (q : Q (.int 1000000000) H) : rI CPow (fun i j => .int (i ^ j.toNat)) (.int 10) (.int 9) H Q := w_pw 1000000000 (by decide) ⟨by decide, by decide, by decide⟩ q
theorem w_p12 (q : Q (.int 1000000000000) H) : rI CPow (fun i j => .int (i ^ j.toNat)) (.int 10) (.int 12) H Q := w_pw 1000000000000 (by decide) ⟨by decide, by decide, by decide⟩ q
theorem w_p15 (q : Q (.int 1000000000000000) H) : rI CPow (fun i j => .int (i ^ j.toNat)) (.int 10) (.int 15) H Q := w_pw 1000000000000000 (by decide) ⟨by decide, by decide, by decide⟩ q
theorem w_p18 (q : Q (.int 1000000000000000000) H) : rI CPow (fun i j => .int (i ^ j.toNat)) (.int 10) (.int 18) H Q := w_pw 1000000000000000000 (by decide) ⟨by decide, by decide, by decide⟩ q
theorem w_p24 (q : Q (.int 1000000000000000000000000) H) : rI CPow (fun i j => .int (i ^ j.toNat)) (.int 10) (.int 24) H Q := w_pw 1000000000000000000000000 (by decide) ⟨by decide, by decide, by decide⟩ q
theorem w_p30 (q : Q (.int 1000000000000000000000000000000) H) : rI CPow (fun i j => .int (i ^ j.toNat)) (.int 10) (.int 30) H Q := w_pw 1000000000000000000000000000000 (by decide) ⟨by decide, by decide, by decide⟩ q
end
theorem big_mul {x y : Int} (h0 : x.natAbs ≤ 10000000000000000000000000000000000000000000000000000000000000) (h : y.natAbs ≤ 10000000000000000000000000000000000000000000000000000000000000) : CMulW x y :=
  Sm.mulOk (a := 210) (b := 210) (Nat.lt_of_le_of_lt h0 (by decide)) (Nat.lt_of_le_of_lt h (by decide)) (by decide)
theorem ix_ints (ns : List Int) {i : Int} (h0 : 0 ≤ i) (h1 : i < ns.length) : ∃ c, ns[i.toNat]? = some c ∧ c ∈ ns ∧ atI (ns.map V.int) i = some (.int c) := by
  have hi : i.toNat < ns.length := by omega
  refine ⟨ns[i.toNat], List.getElem?_eq_getElem hi, List.getElem_mem hi, ?_⟩
  have g := atI_nat (map_get (List.getElem?_eq_getElem hi))
  rw [Int.toNat_of_nonneg h0] at g
  exact g
theorem w_slq {K : PySem.W.Frag} {H : Hp} {Q : VK} {a : Addr} {lo hi : Option Int} (xs ys : List V) (h : SqL K H a xs) (e : cutV xs lo hi = ys) (q : ∀ p H2, H p = none → Same H H2 → H2 p = some (.lst ys) → Q (.ref p) H2) : rSlQ K (.ref a) lo hi H Q :=
  ⟨a, xs, rfl, h, fun p H2 n s z => q p H2 n s (by rw [z, e])⟩
theorem w_slice {r : V → Option Int → Option Int → Hp → VK → Prop} {te : TE} {tl th : TO} {σ : L2.St} {H : Hp} {Q : VK} (q : te σ H fun x H1 => tl σ H1 fun l H2 => th σ H2 fun u H3 => r x l u H3 Q) : tSl r te tl th σ H Q := q
theorem w_part {t : TE} {σ : L2.St} {H : Hp} {Q : Option Int → Hp → Prop} (q : t σ H fun x H1 => ∃ i, x = .int i ∧ Q (some i) H1) : tPart t σ H Q := q
theorem w_nopart {σ : L2.St} {H : Hp} {Q : Option Int → Hp → Prop} (q : Q none H) : tNoPart σ H Q := q
theorem w_ei {i : Int} {Q : Int → Prop} (q : Q i) : ∃ k, V.int i = .int k ∧ Q k := ⟨i, rfl, q⟩
/-! ### ways that meet behind a statement -/
def tCut (t u : TS) : TS := fun D σ H => ∃ M : L2.St → Hp → Prop, t { D with nx := M } σ H ∧ ∀ σ' H', M σ' H' → u D σ' H'
theorem pss_cut {X : Cx} {st : Stmt} {rest : List Stmt} {t u : TS} (h1 : PS X st t) (h2 : PSs X rest u) : PSs X (st :: rest) (tCut t u) := by
  refine ⟨fun pins s σ H D I ⟨M, h, k⟩ => wpAny_execs_cons (thn (h1.run pins s σ H { D with nx := M } I h) fun f s1 q => ?_)⟩
  cases f with
  | next =>
    obtain ⟨σ', H', I', m⟩ := q
    exact h2.run pins s1 σ' H' D I' (k σ' H' m)
  | ret v => exact q
  | brk => exact q
  | cont => exact q
theorem w_cut {t u : TS} {D : Ends} {σ : L2.St} {H : Hp} (M : L2.St → Hp → Prop) (h : t { D with nx := M } σ H) (k : ∀ σ' H', M σ' H' → u D σ' H') : tCut t u D σ H := ⟨M, h, k⟩
/-! ### a list repeated -/
section
variable {X : Cx}
def rRepA : R2 := fun x y H Q => ∃ l k xs, x = .ref l ∧ y = .int k ∧ H l = some (.lst xs) ∧ -(2 ^ 63) ≤ k ∧ k < 2 ^ 63 ∧ xs.length * k.toNat ≤ sizeLine ∧ ∀ p H2, H p = none → Same H H2 → H2 p = some (.lst (List.replicate k.toNat xs).flatten) → Q (.ref p) H2
theorem op_repA : OpR X (binaryOp .Mult) rRepA := OpR.imp op_rep fun _ _ _ _ ⟨l, k, xs, h1, h2, h3, h4, h5, h6, q⟩ => ⟨l, k, xs, h1, h2, h3, h4, h5, h6, fun p hp => q p _ hp (Same.new hp) upd_same⟩
theorem w_rep {H : Hp} {Q : VK} {l : Addr} {k : Int} {xs : List V} (ys : List V) (h : H l = some (.lst xs)) (h0 : -(2 ^ 63) ≤ k) (h1 : k < 2 ^ 63) (hz : xs.length * k.toNat ≤ sizeLine) (e : (List.replicate k.toNat xs).flatten = ys) (q : ∀ p H2, H p = none → Same H H2 → H2 p = some (.lst ys) → Q (.ref p) H2) : rRepA (.ref l) (.int k) H Q :=
  ⟨l, k, xs, rfl, rfl, h, h0, h1, hz, fun p H2 n s z => q p H2 n s (by rw [z, e])⟩
end
/-! ### what the head tells of an exception's class -/
def xcB (K : PySem.W.Frag) (D : Addr) : Bool :=
  decide (PySem.W.findIn K (.ref D) "__getattribute__" = some (some (.builtin "BaseException.__getattribute__"))) && (decide (PySem.W.findIn K (.ref D) "__getattr__" = some none) && (decide (PySem.W.subIn K (.ref D) (.type "BaseException") = some true) && (PySem.W.hasDictIn K D &&
  (decide (PySem.W.findIn K (.ref D) "__class__" = some (some (.builtin "object.__class__"))) && (decide (PySem.W.specialIn K (.builtin "object.__class__") "__get__" = some (some (.builtin "getset_descriptor.__get__"))) && (decide (PySem.W.takesIn K (.builtin "object.__class__") = some true) && decide (PySem.W.mroIn K D (.type "object") = some true)))))))
theorem xcB_ok {K : PySem.W.Frag} {D : Addr} (h : xcB K D = true) : ExcC K D := by
  obtain ⟨h1, h⟩ := He.ba h
  obtain ⟨h2, h⟩ := He.ba h
  obtain ⟨h3, h⟩ := He.ba h
  obtain ⟨h4, h⟩ := He.ba h
  obtain ⟨h5, h⟩ := He.ba h
  obtain ⟨h6, h⟩ := He.ba h
  obtain ⟨h7, h8⟩ := He.ba h
  exact ⟨of_decide_eq_true h1, of_decide_eq_true h2, of_decide_eq_true h3, h4, of_decide_eq_true h5, of_decide_eq_true h6, of_decide_eq_true h7, of_decide_eq_true h8⟩
/-- X of the text is an error over ValueError without an __init__ -/
abbrev ExcPlain (K : PySem.W.Frag) (x : Str) : Prop := PySem.W.excIn K (He.ga K x) He.veBase "ValueError.__new__" = true ∧ PySem.W.keepIn K (.ref (He.ga K x)) = true ∧ PySem.W.subIn K (.ref (He.ga K x)) (.type "BaseException") = some true ∧ PySem.W.typeIn K (.ref (He.ga K x)) = some (.type "type")
theorem Same.at {H H' : Hp} {a : Addr} {o : HO} (e : Same H H') (h : H a = some o) : H' a = some o := e a o h
theorem map_at0 {K : PySem.W.Frag} {H : Hp} {Q : VK} {p : Addr} {ns : List Int} {i : Nat} {c : Int} (h : Sq K H p (ns.map V.int)) (e : ns[i]? = some c) (q : Q (.int c) H) : rIx K (.ref p) (.int (i : Int)) H Q := w_ix h (atI_nat (map_get e)) q
/-! ### carrying over, the elder heap named -/
section
variable {K : PySem.W.Frag} {H' : Hp} {a : Addr} {xs : List V} (H : Hp)
theorem tr_sl (e : Same H H') (h : SqL K H a xs) : SqL K H' a xs := Same.sl e h
theorem tr_st (e : Same H H') (h : SqT K H a xs) : SqT K H' a xs := Same.st e h
theorem tr_sq (e : Same H H') (h : Sq K H a xs) : Sq K H' a xs := Same.sq e h
theorem tr_at {o : HO} (e : Same H H') (h : H a = some o) : H' a = some o := e a o h
theorem tr_dp {v : V} {d : PyData} (e : Same H H') (h : Dp K H v d) : Dp K H' v d := Same.dp e h
theorem tr_same {H0 : Hp} (e : Same H H') (h : Same H0 H) : Same H0 H' := h.trans e
end
theorem sq_l {K : PySem.W.Frag} {H : Hp} {a : Addr} {xs : List V} (h : SqL K H a xs) : Sq K H a xs := .inl h
theorem sq_t {K : PySem.W.Frag} {H : Hp} {a : Addr} {xs : List V} (h : SqT K H a xs) : Sq K H a xs := .inr h
theorem tr_eq {H : Hp} {a : Addr} {o : HO} (u : HO) (h : H a = some u) (e : u = o) : H a = some o := e ▸ h
theorem tr_eqt {K : PySem.W.Frag} {H : Hp} {a : Addr} {xs : List V} (ys : List V) (h : SqT K H a ys) (e : ys = xs) : SqT K H a xs := e ▸ h
theorem tr_eql {K : PySem.W.Frag} {H : Hp} {a : Addr} {xs : List V} (ys : List V) (h : SqL K H a ys) (e : ys = xs) : SqL K H a xs := e ▸ h
theorem cxOf_K {CX : CXT} {P : Program} {w : World} {K : PySem.W.Frag} {mg : Str → Option Value} {base : Heap} {N : List Str} {qual : Str} {scope : Scope} {f : Addr} {cd : Value} {A : Around} {outer : List Env} {s : Shared} {H : Hp} {E : XK} :
    (cxOf CX P w K mg base N qual scope f cd A outer s H E).K = K := rfl
/-! ### the end: nothing leaves the law -/
theorem fnOk_quiet {P : Program} {w : World} {K : PySem.W.Frag} {mg : Str → Option Value} {base : Heap} {k : Nat} {f : Addr} {fd : FuncData} {ps : List Str} {sp : Sp} (F : FnOk P w K mg base (L2N.CX P w) k f fd ps sp) (hE : ∀ vs H Q E, sp vs H Q E → sp vs H Q E0) : FnOk P w K mg base CX0 k f fd ps sp := by
  refine ⟨F.len, fun A outer s H args us vs Q E hr e0 hb rv h => codeAny_mono (F.run A outer s H args us vs Q E0 hr e0 hb rv (hE _ _ _ _ h)) fun r s' q => ?_⟩
  cases r with
  | error e =>
    obtain ⟨_, _, _, _, _, _, _, _, _, _, _, _, z⟩ := q
    exact z.elim
  | ok fl => cases fl <;> exact q
theorem Def.quiet {P : Program} {w : World} {K : PySem.W.Frag} {mg : Str → Option Value} {base : Heap} {nm : Str} {k : Nat} {ps : List Str} {sp : Sp} {x qual : Str} {params : Arguments} {body : List Stmt} {scope : Scope} {fa : Addr} {fd : FuncData}
    (d : Def P w K mg base nm k ps sp) (hm : mg nm = some (.ref fa)) (F : FunD K x qual params body scope [] [] fa fd) (hE : ∀ vs H Q E, sp vs H Q E → sp vs H Q E0) : FnOk P w K mg base CX0 k fa fd ps sp := by
  obtain ⟨f, fd', G, h, _, _, o, lk, ho⟩ := d.ex
  rw [hm] at h
  cases h
  obtain ⟨oc, od, dV, kV, doc, pm, an, cdv, ct, osl, e, lk2, _⟩ := F.ex
  rw [lk] at lk2
  cases lk2
  have e2 : fd = fd' := by injection ho
  rw [e2]
  exact fnOk_quiet G hE
end JP
set_option Elab.async false
set_option linter.all false
set_option maxRecDepth 100000
set_option maxHeartbeats 4000000
set_option maxHeartbeats 16000000
namespace JP
open PySem PySem.Spec PyProof.Rows L2 L2H
def top (i : Nat) : Stmt := PySem.Challenge.pw_joinpast_k04_row_sets.main.body.getD i (.Pass ⟨0, 0, 0, 0⟩)
def clsInit (st : Stmt) : Stmt := match st with
  | .ClassDef _ _ _ (b :: _) _ _ _ _ _ _ _ => b
  | _ => .Pass ⟨0, 0, 0, 0⟩
def oexB (K : PySem.W.Frag) (C : Addr) : Bool := (match K.lookup C with
  | some ⟨.type "type", _, .cls cd, sl⟩ => (match cd.mro, sl.toList with
    | .ref C' :: bm, [_, _, _, _, some (.builtin n), _] => C' == C && n == "ValueError.__new__" && !cd.hasDel && cd.hasDict && PySem.HandSPX.refsVE bm
    | _, _ => false)
  | _ => false) && (decide (PySem.W.findIn K (.ref C) "__setattr__" = some (some (.builtin "object.__setattr__"))) && (decide (PySem.W.subIn K (.ref C) (.type "BaseException") = some true) && (decide (PySem.W.typeIn K (.ref C) = some (.type "type")) && PySem.W.keepIn K (.ref C))))
def clsL : List Str := ["NoQuotient", "ZeroPolynomial", "ZeroSum", "NoRows", "BadName", "RowTwice", "UnknownRow", "RowsDiffer", "SpotTwice", "BadStretch", "ShortStretch", "TooLong", "CannotStand", "Broken", "NotFinite", "BadParts", "Barred", "NotCourse", "BreaksOwnRule", "NotBlocked", "Unsure", "Contradiction", "NotStricter", "NoFamilies", "NotLet", "NotFree", "NotTimely", "NotEntered", "NothingToUndo", "BadNotation"]
def rowK (k : Nat) : List (Option Bool) := (List.range 30).map fun j => some (decide (j = k))
def fn : List He.DefD := [
  ⟨("is_row_name", none), "is_row_name", "is_row_name", defArgs (top 36), defBody (top 36), defScope (top 36), [], []⟩,
  ⟨("check_names", none), "check_names", "check_names", defArgs (top 37), defBody (top 37), defScope (top 37), [], []⟩,
  ⟨("row_set", none), "row_set", "row_set", defArgs (top 38), defBody (top 38), defScope (top 38), [], []⟩,
  ⟨("_law_cell", none), "_law_cell", "_law_cell", defArgs (top 40), defBody (top 40), defScope (top 40), [], []⟩,
  ⟨("_law_digits", none), "_law_digits", "_law_digits", defArgs (top 41), defBody (top 41), defScope (top 41), [], []⟩,
  ⟨("_law_signs", none), "_law_signs", "_law_signs", defArgs (top 42), defBody (top 42), defScope (top 42), [], []⟩,
  ⟨("_law_string", none), "_law_string", "_law_string", defArgs (top 43), defBody (top 43), defScope (top 43), [], []⟩,
  ⟨("_law_strings", none), "_law_strings", "_law_strings", defArgs (top 44), defBody (top 44), defScope (top 44), [], []⟩,
  ⟨("_law_good", none), "_law_good", "_law_good", defArgs (top 45), defBody (top 45), defScope (top 45), [], []⟩,
  ⟨("_law_kinds", none), "_law_kinds", "_law_kinds", defArgs (top 46), defBody (top 46), defScope (top 46), [], []⟩,
  ⟨("_law_due", none), "_law_due", "_law_due", defArgs (top 47), defBody (top 47), defScope (top 47), [], []⟩,
  ⟨("_law_asked", none), "_law_asked", "_law_asked", defArgs (top 48), defBody (top 48), defScope (top 48), [], []⟩,
  ⟨("_law_caught", none), "_law_caught", "_law_caught", defArgs (top 49), defBody (top 49), defScope (top 49), [], []⟩,
  ⟨("_law_equal", none), "_law_equal", "_law_equal", defArgs (top 50), defBody (top 50), defScope (top 50), [], []⟩,
  ⟨("_law_right", none), "_law_right", "_law_right", defArgs (top 51), defBody (top 51), defScope (top 51), [], []⟩,
  ⟨("_law_created", none), "_law_created", "_law_created", defArgs (top 52), defBody (top 52), defScope (top 52), [], []⟩,
  ⟨("_law_errors_right", none), "_law_errors_right", "_law_errors_right", defArgs (top 53), defBody (top 53), defScope (top 53), [], []⟩,
  ⟨("law", none), "law", "law", defArgs (top 54), defBody (top 54), defScope (top 54), [], []⟩,
  ⟨("BadName", some "__init__"), "__init__", "BadName.__init__", defArgs (clsInit (top 6)), defBody (clsInit (top 6)), defScope (clsInit (top 6)), [], []⟩,
  ⟨("RowTwice", some "__init__"), "__init__", "RowTwice.__init__", defArgs (clsInit (top 7)), defBody (clsInit (top 7)), defScope (clsInit (top 7)), [], []⟩,
  ⟨("UnknownRow", some "__init__"), "__init__", "UnknownRow.__init__", defArgs (clsInit (top 8)), defBody (clsInit (top 8)), defScope (clsInit (top 8)), [], []⟩,
  ⟨("RowsDiffer", some "__init__"), "__init__", "RowsDiffer.__init__", defArgs (clsInit (top 9)), defBody (clsInit (top 9)), defScope (clsInit (top 9)), [], []⟩,
  ⟨("SpotTwice", some "__init__"), "__init__", "SpotTwice.__init__", defArgs (clsInit (top 10)), defBody (clsInit (top 10)), defScope (clsInit (top 10)), [], []⟩,
  ⟨("BadStretch", some "__init__"), "__init__", "BadStretch.__init__", defArgs (clsInit (top 11)), defBody (clsInit (top 11)), defScope (clsInit (top 11)), [], []⟩,
  ⟨("ShortStretch", some "__init__"), "__init__", "ShortStretch.__init__", defArgs (clsInit (top 12)), defBody (clsInit (top 12)), defScope (clsInit (top 12)), [], []⟩,
  ⟨("TooLong", some "__init__"), "__init__", "TooLong.__init__", defArgs (clsInit (top 13)), defBody (clsInit (top 13)), defScope (clsInit (top 13)), [], []⟩,
  ⟨("CannotStand", some "__init__"), "__init__", "CannotStand.__init__", defArgs (clsInit (top 14)), defBody (clsInit (top 14)), defScope (clsInit (top 14)), [], []⟩,
  ⟨("Broken", some "__init__"), "__init__", "Broken.__init__", defArgs (clsInit (top 15)), defBody (clsInit (top 15)), defScope (clsInit (top 15)), [], []⟩,
  ⟨("BadParts", some "__init__"), "__init__", "BadParts.__init__", defArgs (clsInit (top 17)), defBody (clsInit (top 17)), defScope (clsInit (top 17)), [], []⟩,
  ⟨("Barred", some "__init__"), "__init__", "Barred.__init__", defArgs (clsInit (top 18)), defBody (clsInit (top 18)), defScope (clsInit (top 18)), [], []⟩,
  ⟨("NotCourse", some "__init__"), "__init__", "NotCourse.__init__", defArgs (clsInit (top 19)), defBody (clsInit (top 19)), defScope (clsInit (top 19)), [], []⟩,
  ⟨("BreaksOwnRule", some "__init__"), "__init__", "BreaksOwnRule.__init__", defArgs (clsInit (top 20)), defBody (clsInit (top 20)), defScope (clsInit (top 20)), [], []⟩,
  ⟨("NotBlocked", some "__init__"), "__init__", "NotBlocked.__init__", defArgs (clsInit (top 21)), defBody (clsInit (top 21)), defScope (clsInit (top 21)), [], []⟩,
  ⟨("NotStricter", some "__init__"), "__init__", "NotStricter.__init__", defArgs (clsInit (top 24)), defBody (clsInit (top 24)), defScope (clsInit (top 24)), [], []⟩,
  ⟨("NotLet", some "__init__"), "__init__", "NotLet.__init__", defArgs (clsInit (top 26)), defBody (clsInit (top 26)), defScope (clsInit (top 26)), [], []⟩,
  ⟨("NotFree", some "__init__"), "__init__", "NotFree.__init__", defArgs (clsInit (top 27)), defBody (clsInit (top 27)), defScope (clsInit (top 27)), [], []⟩,
  ⟨("NotTimely", some "__init__"), "__init__", "NotTimely.__init__", defArgs (clsInit (top 28)), defBody (clsInit (top 28)), defScope (clsInit (top 28)), [], []⟩,
  ⟨("NotEntered", some "__init__"), "__init__", "NotEntered.__init__", defArgs (clsInit (top 29)), defBody (clsInit (top 29)), defScope (clsInit (top 29)), [], []⟩,
  ⟨("BadNotation", some "__init__"), "__init__", "BadNotation.__init__", defArgs (clsInit (top 31)), defBody (clsInit (top 31)), defScope (clsInit (top 31)), [], []⟩]
def fa : List JPH.Fk := [
  fun K => decide (PySem.W.findIn K (.ref (He.ga K "BadName")) "__init__" = some (some (.ref (He.ma K (He.ga K "BadName") "__init__")))),
  fun K => decide (PySem.W.typeIn K (.ref (He.ma K (He.ga K "BadName") "__init__")) = some (.type "function")),
  fun K => oexB K (He.ga K "BadName"),
  fun K => decide (PySem.W.findIn K (.ref (He.ga K "RowTwice")) "__init__" = some (some (.ref (He.ma K (He.ga K "RowTwice") "__init__")))),
  fun K => decide (PySem.W.typeIn K (.ref (He.ma K (He.ga K "RowTwice") "__init__")) = some (.type "function")),
  fun K => oexB K (He.ga K "RowTwice"),
  fun K => decide (PySem.W.findIn K (.ref (He.ga K "UnknownRow")) "__init__" = some (some (.ref (He.ma K (He.ga K "UnknownRow") "__init__")))),
  fun K => decide (PySem.W.typeIn K (.ref (He.ma K (He.ga K "UnknownRow") "__init__")) = some (.type "function")),
  fun K => oexB K (He.ga K "UnknownRow"),
  fun K => decide (PySem.W.findIn K (.ref (He.ga K "RowsDiffer")) "__init__" = some (some (.ref (He.ma K (He.ga K "RowsDiffer") "__init__")))),
  fun K => decide (PySem.W.typeIn K (.ref (He.ma K (He.ga K "RowsDiffer") "__init__")) = some (.type "function")),
  fun K => oexB K (He.ga K "RowsDiffer"),
  fun K => decide (PySem.W.findIn K (.ref (He.ga K "SpotTwice")) "__init__" = some (some (.ref (He.ma K (He.ga K "SpotTwice") "__init__")))),
  fun K => decide (PySem.W.typeIn K (.ref (He.ma K (He.ga K "SpotTwice") "__init__")) = some (.type "function")),
  fun K => oexB K (He.ga K "SpotTwice"),
  fun K => decide (PySem.W.findIn K (.ref (He.ga K "BadStretch")) "__init__" = some (some (.ref (He.ma K (He.ga K "BadStretch") "__init__")))),
  fun K => decide (PySem.W.typeIn K (.ref (He.ma K (He.ga K "BadStretch") "__init__")) = some (.type "function")),
  fun K => oexB K (He.ga K "BadStretch"),
  fun K => decide (PySem.W.findIn K (.ref (He.ga K "ShortStretch")) "__init__" = some (some (.ref (He.ma K (He.ga K "ShortStretch") "__init__")))),
  fun K => decide (PySem.W.typeIn K (.ref (He.ma K (He.ga K "ShortStretch") "__init__")) = some (.type "function")),
  fun K => oexB K (He.ga K "ShortStretch"),
  fun K => decide (PySem.W.findIn K (.ref (He.ga K "TooLong")) "__init__" = some (some (.ref (He.ma K (He.ga K "TooLong") "__init__")))),
  fun K => decide (PySem.W.typeIn K (.ref (He.ma K (He.ga K "TooLong") "__init__")) = some (.type "function")),
  fun K => oexB K (He.ga K "TooLong"),
  fun K => decide (PySem.W.findIn K (.ref (He.ga K "CannotStand")) "__init__" = some (some (.ref (He.ma K (He.ga K "CannotStand") "__init__")))),
  fun K => decide (PySem.W.typeIn K (.ref (He.ma K (He.ga K "CannotStand") "__init__")) = some (.type "function")),
  fun K => oexB K (He.ga K "CannotStand"),
  fun K => decide (PySem.W.findIn K (.ref (He.ga K "Broken")) "__init__" = some (some (.ref (He.ma K (He.ga K "Broken") "__init__")))),
  fun K => decide (PySem.W.typeIn K (.ref (He.ma K (He.ga K "Broken") "__init__")) = some (.type "function")),
  fun K => oexB K (He.ga K "Broken"),
  fun K => decide (PySem.W.findIn K (.ref (He.ga K "BadParts")) "__init__" = some (some (.ref (He.ma K (He.ga K "BadParts") "__init__")))),
  fun K => decide (PySem.W.typeIn K (.ref (He.ma K (He.ga K "BadParts") "__init__")) = some (.type "function")),
  fun K => oexB K (He.ga K "BadParts"),
  fun K => decide (PySem.W.findIn K (.ref (He.ga K "Barred")) "__init__" = some (some (.ref (He.ma K (He.ga K "Barred") "__init__")))),
  fun K => decide (PySem.W.typeIn K (.ref (He.ma K (He.ga K "Barred") "__init__")) = some (.type "function")),
  fun K => oexB K (He.ga K "Barred"),
  fun K => decide (PySem.W.findIn K (.ref (He.ga K "NotCourse")) "__init__" = some (some (.ref (He.ma K (He.ga K "NotCourse") "__init__")))),
  fun K => decide (PySem.W.typeIn K (.ref (He.ma K (He.ga K "NotCourse") "__init__")) = some (.type "function")),
  fun K => oexB K (He.ga K "NotCourse"),
  fun K => decide (PySem.W.findIn K (.ref (He.ga K "BreaksOwnRule")) "__init__" = some (some (.ref (He.ma K (He.ga K "BreaksOwnRule") "__init__")))),
  fun K => decide (PySem.W.typeIn K (.ref (He.ma K (He.ga K "BreaksOwnRule") "__init__")) = some (.type "function")),
  fun K => oexB K (He.ga K "BreaksOwnRule"),
  fun K => decide (PySem.W.findIn K (.ref (He.ga K "NotBlocked")) "__init__" = some (some (.ref (He.ma K (He.ga K "NotBlocked") "__init__")))),
  fun K => decide (PySem.W.typeIn K (.ref (He.ma K (He.ga K "NotBlocked") "__init__")) = some (.type "function")),
  fun K => oexB K (He.ga K "NotBlocked"),
  fun K => decide (PySem.W.findIn K (.ref (He.ga K "NotStricter")) "__init__" = some (some (.ref (He.ma K (He.ga K "NotStricter") "__init__")))),
  fun K => decide (PySem.W.typeIn K (.ref (He.ma K (He.ga K "NotStricter") "__init__")) = some (.type "function")),
  fun K => oexB K (He.ga K "NotStricter"),
  fun K => decide (PySem.W.findIn K (.ref (He.ga K "NotLet")) "__init__" = some (some (.ref (He.ma K (He.ga K "NotLet") "__init__")))),
  fun K => decide (PySem.W.typeIn K (.ref (He.ma K (He.ga K "NotLet") "__init__")) = some (.type "function")),
  fun K => oexB K (He.ga K "NotLet"),
  fun K => decide (PySem.W.findIn K (.ref (He.ga K "NotFree")) "__init__" = some (some (.ref (He.ma K (He.ga K "NotFree") "__init__")))),
  fun K => decide (PySem.W.typeIn K (.ref (He.ma K (He.ga K "NotFree") "__init__")) = some (.type "function")),
  fun K => oexB K (He.ga K "NotFree"),
  fun K => decide (PySem.W.findIn K (.ref (He.ga K "NotTimely")) "__init__" = some (some (.ref (He.ma K (He.ga K "NotTimely") "__init__")))),
  fun K => decide (PySem.W.typeIn K (.ref (He.ma K (He.ga K "NotTimely") "__init__")) = some (.type "function")),
  fun K => oexB K (He.ga K "NotTimely"),
  fun K => decide (PySem.W.findIn K (.ref (He.ga K "NotEntered")) "__init__" = some (some (.ref (He.ma K (He.ga K "NotEntered") "__init__")))),
  fun K => decide (PySem.W.typeIn K (.ref (He.ma K (He.ga K "NotEntered") "__init__")) = some (.type "function")),
  fun K => oexB K (He.ga K "NotEntered"),
  fun K => decide (PySem.W.findIn K (.ref (He.ga K "BadNotation")) "__init__" = some (some (.ref (He.ma K (He.ga K "BadNotation") "__init__")))),
  fun K => decide (PySem.W.typeIn K (.ref (He.ma K (He.ga K "BadNotation") "__init__")) = some (.type "function")),
  fun K => oexB K (He.ga K "BadNotation"),
  fun K => (He.Fa.glo "is_row_name").ok K,
  fun K => (He.Fa.glo "check_names").ok K,
  fun K => (He.Fa.glo "row_set").ok K,
  fun K => (He.Fa.glo "_law_cell").ok K,
  fun K => (He.Fa.glo "_law_digits").ok K,
  fun K => (He.Fa.glo "_law_signs").ok K,
  fun K => (He.Fa.glo "_law_string").ok K,
  fun K => (He.Fa.glo "_law_strings").ok K,
  fun K => (He.Fa.glo "_law_good").ok K,
  fun K => (He.Fa.glo "_law_kinds").ok K,
  fun K => (He.Fa.glo "_law_due").ok K,
  fun K => (He.Fa.glo "_law_asked").ok K,
  fun K => (He.Fa.glo "_law_caught").ok K,
  fun K => (He.Fa.glo "_law_equal").ok K,
  fun K => (He.Fa.glo "_law_right").ok K,
  fun K => (He.Fa.glo "_law_created").ok K,
  fun K => (He.Fa.glo "_law_errors_right").ok K,
  fun K => (He.Fa.glo "law").ok K,
  fun K => (He.Fa.glo "RowError").ok K,
  fun K => (He.Fa.glo "NoQuotient").ok K,
  fun K => (He.Fa.glo "ZeroPolynomial").ok K,
  fun K => (He.Fa.glo "ZeroSum").ok K,
  fun K => (He.Fa.glo "NoRows").ok K,
  fun K => (He.Fa.glo "BadName").ok K,
  fun K => (He.Fa.glo "RowTwice").ok K,
  fun K => (He.Fa.glo "UnknownRow").ok K,
  fun K => (He.Fa.glo "RowsDiffer").ok K,
  fun K => (He.Fa.glo "SpotTwice").ok K,
  fun K => (He.Fa.glo "BadStretch").ok K,
  fun K => (He.Fa.glo "ShortStretch").ok K,
  fun K => (He.Fa.glo "TooLong").ok K,
  fun K => (He.Fa.glo "CannotStand").ok K,
  fun K => (He.Fa.glo "Broken").ok K,
  fun K => (He.Fa.glo "NotFinite").ok K,
  fun K => (He.Fa.glo "BadParts").ok K,
  fun K => (He.Fa.glo "Barred").ok K,
  fun K => (He.Fa.glo "NotCourse").ok K,
  fun K => (He.Fa.glo "BreaksOwnRule").ok K,
  fun K => (He.Fa.glo "NotBlocked").ok K,
  fun K => (He.Fa.glo "Unsure").ok K,
  fun K => (He.Fa.glo "Contradiction").ok K,
  fun K => (He.Fa.glo "NotStricter").ok K,
  fun K => (He.Fa.glo "NoFamilies").ok K,
  fun K => (He.Fa.glo "NotLet").ok K,
  fun K => (He.Fa.glo "NotFree").ok K,
  fun K => (He.Fa.glo "NotTimely").ok K,
  fun K => (He.Fa.glo "NotEntered").ok K,
  fun K => (He.Fa.glo "NothingToUndo").ok K,
  fun K => (He.Fa.glo "BadNotation").ok K,
  fun K => (He.Fa.free "ValueError").ok K,
  fun K => (He.Fa.free "bool").ok K,
  fun K => (He.Fa.free "int").ok K,
  fun K => (He.Fa.free "isinstance").ok K,
  fun K => (He.Fa.free "len").ok K,
  fun K => (He.Fa.free "list").ok K,
  fun K => (He.Fa.free "range").ok K,
  fun K => (He.Fa.free "sorted").ok K,
  fun K => (He.Fa.free "str").ok K,
  fun K => (He.Fa.free "tuple").ok K,
  fun K => xcB K (He.ga K "NoQuotient"),
  fun K => decide ((clsL.map fun n => PySem.W.kitOne K (.ref (He.ga K "NoQuotient")) (.ref (He.ga K n))) = rowK 0),
  fun K => decide (PySem.W.kitOne K (.ref (He.ga K "NoQuotient")) (.ref (He.ga K "RowError")) = some true),
  fun K => decide (PySem.W.kitOne K (.ref (He.ga K "NoQuotient")) (.type "ValueError") = some true),
  fun K => (He.Fa.exc "NoQuotient").ok K,
  fun K => xcB K (He.ga K "ZeroPolynomial"),
  fun K => decide ((clsL.map fun n => PySem.W.kitOne K (.ref (He.ga K "ZeroPolynomial")) (.ref (He.ga K n))) = rowK 1),
  fun K => decide (PySem.W.kitOne K (.ref (He.ga K "ZeroPolynomial")) (.ref (He.ga K "RowError")) = some true),
  fun K => decide (PySem.W.kitOne K (.ref (He.ga K "ZeroPolynomial")) (.type "ValueError") = some true),
  fun K => (He.Fa.exc "ZeroPolynomial").ok K,
  fun K => xcB K (He.ga K "ZeroSum"),
  fun K => decide ((clsL.map fun n => PySem.W.kitOne K (.ref (He.ga K "ZeroSum")) (.ref (He.ga K n))) = rowK 2),
  fun K => decide (PySem.W.kitOne K (.ref (He.ga K "ZeroSum")) (.ref (He.ga K "RowError")) = some true),
  fun K => decide (PySem.W.kitOne K (.ref (He.ga K "ZeroSum")) (.type "ValueError") = some true),
  fun K => (He.Fa.exc "ZeroSum").ok K,
  fun K => xcB K (He.ga K "NoRows"),
  fun K => decide ((clsL.map fun n => PySem.W.kitOne K (.ref (He.ga K "NoRows")) (.ref (He.ga K n))) = rowK 3),
  fun K => decide (PySem.W.kitOne K (.ref (He.ga K "NoRows")) (.ref (He.ga K "RowError")) = some true),
  fun K => decide (PySem.W.kitOne K (.ref (He.ga K "NoRows")) (.type "ValueError") = some true),
  fun K => (He.Fa.exc "NoRows").ok K,
  fun K => xcB K (He.ga K "BadName"),
  fun K => decide ((clsL.map fun n => PySem.W.kitOne K (.ref (He.ga K "BadName")) (.ref (He.ga K n))) = rowK 4),
  fun K => decide (PySem.W.kitOne K (.ref (He.ga K "BadName")) (.ref (He.ga K "RowError")) = some true),
  fun K => decide (PySem.W.kitOne K (.ref (He.ga K "BadName")) (.type "ValueError") = some true),
  fun K => xfB K (He.ga K "BadName"),
  fun K => decide (PySem.W.findIn K (.ref (He.ga K "BadName")) "name" = some none),
  fun K => xcB K (He.ga K "RowTwice"),
  fun K => decide ((clsL.map fun n => PySem.W.kitOne K (.ref (He.ga K "RowTwice")) (.ref (He.ga K n))) = rowK 5),
  fun K => decide (PySem.W.kitOne K (.ref (He.ga K "RowTwice")) (.ref (He.ga K "RowError")) = some true),
  fun K => decide (PySem.W.kitOne K (.ref (He.ga K "RowTwice")) (.type "ValueError") = some true),
  fun K => xfB K (He.ga K "RowTwice"),
  fun K => decide (PySem.W.findIn K (.ref (He.ga K "RowTwice")) "name" = some none),
  fun K => xcB K (He.ga K "UnknownRow"),
  fun K => decide ((clsL.map fun n => PySem.W.kitOne K (.ref (He.ga K "UnknownRow")) (.ref (He.ga K n))) = rowK 6),
  fun K => decide (PySem.W.kitOne K (.ref (He.ga K "UnknownRow")) (.ref (He.ga K "RowError")) = some true),
  fun K => decide (PySem.W.kitOne K (.ref (He.ga K "UnknownRow")) (.type "ValueError") = some true),
  fun K => xfB K (He.ga K "UnknownRow"),
  fun K => decide (PySem.W.findIn K (.ref (He.ga K "UnknownRow")) "name" = some none),
  fun K => xcB K (He.ga K "RowsDiffer"),
  fun K => decide ((clsL.map fun n => PySem.W.kitOne K (.ref (He.ga K "RowsDiffer")) (.ref (He.ga K n))) = rowK 7),
  fun K => decide (PySem.W.kitOne K (.ref (He.ga K "RowsDiffer")) (.ref (He.ga K "RowError")) = some true),
  fun K => decide (PySem.W.kitOne K (.ref (He.ga K "RowsDiffer")) (.type "ValueError") = some true),
  fun K => xfB K (He.ga K "RowsDiffer"),
  fun K => decide (PySem.W.findIn K (.ref (He.ga K "RowsDiffer")) "one" = some none),
  fun K => decide (PySem.W.findIn K (.ref (He.ga K "RowsDiffer")) "two" = some none),
  fun K => xcB K (He.ga K "SpotTwice"),
  fun K => decide ((clsL.map fun n => PySem.W.kitOne K (.ref (He.ga K "SpotTwice")) (.ref (He.ga K n))) = rowK 8),
  fun K => decide (PySem.W.kitOne K (.ref (He.ga K "SpotTwice")) (.ref (He.ga K "RowError")) = some true),
  fun K => decide (PySem.W.kitOne K (.ref (He.ga K "SpotTwice")) (.type "ValueError") = some true),
  fun K => xfB K (He.ga K "SpotTwice"),
  fun K => decide (PySem.W.findIn K (.ref (He.ga K "SpotTwice")) "row" = some none),
  fun K => decide (PySem.W.findIn K (.ref (He.ga K "SpotTwice")) "place" = some none),
  fun K => xcB K (He.ga K "BadStretch"),
  fun K => decide ((clsL.map fun n => PySem.W.kitOne K (.ref (He.ga K "BadStretch")) (.ref (He.ga K n))) = rowK 9),
  fun K => decide (PySem.W.kitOne K (.ref (He.ga K "BadStretch")) (.ref (He.ga K "RowError")) = some true),
  fun K => decide (PySem.W.kitOne K (.ref (He.ga K "BadStretch")) (.type "ValueError") = some true),
  fun K => xfB K (He.ga K "BadStretch"),
  fun K => decide (PySem.W.findIn K (.ref (He.ga K "BadStretch")) "count" = some none),
  fun K => xcB K (He.ga K "ShortStretch"),
  fun K => decide ((clsL.map fun n => PySem.W.kitOne K (.ref (He.ga K "ShortStretch")) (.ref (He.ga K n))) = rowK 10),
  fun K => decide (PySem.W.kitOne K (.ref (He.ga K "ShortStretch")) (.ref (He.ga K "RowError")) = some true),
  fun K => decide (PySem.W.kitOne K (.ref (He.ga K "ShortStretch")) (.type "ValueError") = some true),
  fun K => xfB K (He.ga K "ShortStretch"),
  fun K => decide (PySem.W.findIn K (.ref (He.ga K "ShortStretch")) "span" = some none),
  fun K => xcB K (He.ga K "TooLong"),
  fun K => decide ((clsL.map fun n => PySem.W.kitOne K (.ref (He.ga K "TooLong")) (.ref (He.ga K n))) = rowK 11),
  fun K => decide (PySem.W.kitOne K (.ref (He.ga K "TooLong")) (.ref (He.ga K "RowError")) = some true),
  fun K => decide (PySem.W.kitOne K (.ref (He.ga K "TooLong")) (.type "ValueError") = some true),
  fun K => xfB K (He.ga K "TooLong"),
  fun K => decide (PySem.W.findIn K (.ref (He.ga K "TooLong")) "longest" = some none),
  fun K => xcB K (He.ga K "CannotStand"),
  fun K => decide ((clsL.map fun n => PySem.W.kitOne K (.ref (He.ga K "CannotStand")) (.ref (He.ga K n))) = rowK 12),
  fun K => decide (PySem.W.kitOne K (.ref (He.ga K "CannotStand")) (.ref (He.ga K "RowError")) = some true),
  fun K => decide (PySem.W.kitOne K (.ref (He.ga K "CannotStand")) (.type "ValueError") = some true),
  fun K => xfB K (He.ga K "CannotStand"),
  fun K => decide (PySem.W.findIn K (.ref (He.ga K "CannotStand")) "terms" = some none),
  fun K => xcB K (He.ga K "Broken"),
  fun K => decide ((clsL.map fun n => PySem.W.kitOne K (.ref (He.ga K "Broken")) (.ref (He.ga K n))) = rowK 13),
  fun K => decide (PySem.W.kitOne K (.ref (He.ga K "Broken")) (.ref (He.ga K "RowError")) = some true),
  fun K => decide (PySem.W.kitOne K (.ref (He.ga K "Broken")) (.type "ValueError") = some true),
  fun K => xfB K (He.ga K "Broken"),
  fun K => decide (PySem.W.findIn K (.ref (He.ga K "Broken")) "place" = some none),
  fun K => decide (PySem.W.findIn K (.ref (He.ga K "Broken")) "index" = some none),
  fun K => xcB K (He.ga K "NotFinite"),
  fun K => decide ((clsL.map fun n => PySem.W.kitOne K (.ref (He.ga K "NotFinite")) (.ref (He.ga K n))) = rowK 14),
  fun K => decide (PySem.W.kitOne K (.ref (He.ga K "NotFinite")) (.ref (He.ga K "RowError")) = some true),
  fun K => decide (PySem.W.kitOne K (.ref (He.ga K "NotFinite")) (.type "ValueError") = some true),
  fun K => (He.Fa.exc "NotFinite").ok K,
  fun K => xcB K (He.ga K "BadParts"),
  fun K => decide ((clsL.map fun n => PySem.W.kitOne K (.ref (He.ga K "BadParts")) (.ref (He.ga K n))) = rowK 15),
  fun K => decide (PySem.W.kitOne K (.ref (He.ga K "BadParts")) (.ref (He.ga K "RowError")) = some true),
  fun K => decide (PySem.W.kitOne K (.ref (He.ga K "BadParts")) (.type "ValueError") = some true),
  fun K => xfB K (He.ga K "BadParts"),
  fun K => decide (PySem.W.findIn K (.ref (He.ga K "BadParts")) "count" = some none),
  fun K => xcB K (He.ga K "Barred"),
  fun K => decide ((clsL.map fun n => PySem.W.kitOne K (.ref (He.ga K "Barred")) (.ref (He.ga K n))) = rowK 16),
  fun K => decide (PySem.W.kitOne K (.ref (He.ga K "Barred")) (.ref (He.ga K "RowError")) = some true),
  fun K => decide (PySem.W.kitOne K (.ref (He.ga K "Barred")) (.type "ValueError") = some true),
  fun K => xfB K (He.ga K "Barred"),
  fun K => decide (PySem.W.findIn K (.ref (He.ga K "Barred")) "terms" = some none),
  fun K => xcB K (He.ga K "NotCourse"),
  fun K => decide ((clsL.map fun n => PySem.W.kitOne K (.ref (He.ga K "NotCourse")) (.ref (He.ga K n))) = rowK 17),
  fun K => decide (PySem.W.kitOne K (.ref (He.ga K "NotCourse")) (.ref (He.ga K "RowError")) = some true),
  fun K => decide (PySem.W.kitOne K (.ref (He.ga K "NotCourse")) (.type "ValueError") = some true),
  fun K => xfB K (He.ga K "NotCourse"),
  fun K => decide (PySem.W.findIn K (.ref (He.ga K "NotCourse")) "count" = some none),
  fun K => xcB K (He.ga K "BreaksOwnRule"),
  fun K => decide ((clsL.map fun n => PySem.W.kitOne K (.ref (He.ga K "BreaksOwnRule")) (.ref (He.ga K n))) = rowK 18),
  fun K => decide (PySem.W.kitOne K (.ref (He.ga K "BreaksOwnRule")) (.ref (He.ga K "RowError")) = some true),
  fun K => decide (PySem.W.kitOne K (.ref (He.ga K "BreaksOwnRule")) (.type "ValueError") = some true),
  fun K => xfB K (He.ga K "BreaksOwnRule"),
  fun K => decide (PySem.W.findIn K (.ref (He.ga K "BreaksOwnRule")) "place" = some none),
  fun K => xcB K (He.ga K "NotBlocked"),
  fun K => decide ((clsL.map fun n => PySem.W.kitOne K (.ref (He.ga K "NotBlocked")) (.ref (He.ga K n))) = rowK 19),
  fun K => decide (PySem.W.kitOne K (.ref (He.ga K "NotBlocked")) (.ref (He.ga K "RowError")) = some true),
  fun K => decide (PySem.W.kitOne K (.ref (He.ga K "NotBlocked")) (.type "ValueError") = some true),
  fun K => xfB K (He.ga K "NotBlocked"),
  fun K => decide (PySem.W.findIn K (.ref (He.ga K "NotBlocked")) "count" = some none),
  fun K => xcB K (He.ga K "Unsure"),
  fun K => decide ((clsL.map fun n => PySem.W.kitOne K (.ref (He.ga K "Unsure")) (.ref (He.ga K n))) = rowK 20),
  fun K => decide (PySem.W.kitOne K (.ref (He.ga K "Unsure")) (.ref (He.ga K "RowError")) = some true),
  fun K => decide (PySem.W.kitOne K (.ref (He.ga K "Unsure")) (.type "ValueError") = some true),
  fun K => (He.Fa.exc "Unsure").ok K,
  fun K => xcB K (He.ga K "Contradiction"),
  fun K => decide ((clsL.map fun n => PySem.W.kitOne K (.ref (He.ga K "Contradiction")) (.ref (He.ga K n))) = rowK 21),
  fun K => decide (PySem.W.kitOne K (.ref (He.ga K "Contradiction")) (.ref (He.ga K "RowError")) = some true),
  fun K => decide (PySem.W.kitOne K (.ref (He.ga K "Contradiction")) (.type "ValueError") = some true),
  fun K => (He.Fa.exc "Contradiction").ok K,
  fun K => xcB K (He.ga K "NotStricter"),
  fun K => decide ((clsL.map fun n => PySem.W.kitOne K (.ref (He.ga K "NotStricter")) (.ref (He.ga K n))) = rowK 22),
  fun K => decide (PySem.W.kitOne K (.ref (He.ga K "NotStricter")) (.ref (He.ga K "RowError")) = some true),
  fun K => decide (PySem.W.kitOne K (.ref (He.ga K "NotStricter")) (.type "ValueError") = some true),
  fun K => xfB K (He.ga K "NotStricter"),
  fun K => decide (PySem.W.findIn K (.ref (He.ga K "NotStricter")) "terms" = some none),
  fun K => xcB K (He.ga K "NoFamilies"),
  fun K => decide ((clsL.map fun n => PySem.W.kitOne K (.ref (He.ga K "NoFamilies")) (.ref (He.ga K n))) = rowK 23),
  fun K => decide (PySem.W.kitOne K (.ref (He.ga K "NoFamilies")) (.ref (He.ga K "RowError")) = some true),
  fun K => decide (PySem.W.kitOne K (.ref (He.ga K "NoFamilies")) (.type "ValueError") = some true),
  fun K => (He.Fa.exc "NoFamilies").ok K,
  fun K => xcB K (He.ga K "NotLet"),
  fun K => decide ((clsL.map fun n => PySem.W.kitOne K (.ref (He.ga K "NotLet")) (.ref (He.ga K n))) = rowK 24),
  fun K => decide (PySem.W.kitOne K (.ref (He.ga K "NotLet")) (.ref (He.ga K "RowError")) = some true),
  fun K => decide (PySem.W.kitOne K (.ref (He.ga K "NotLet")) (.type "ValueError") = some true),
  fun K => xfB K (He.ga K "NotLet"),
  fun K => decide (PySem.W.findIn K (.ref (He.ga K "NotLet")) "index" = some none),
  fun K => xcB K (He.ga K "NotFree"),
  fun K => decide ((clsL.map fun n => PySem.W.kitOne K (.ref (He.ga K "NotFree")) (.ref (He.ga K n))) = rowK 25),
  fun K => decide (PySem.W.kitOne K (.ref (He.ga K "NotFree")) (.ref (He.ga K "RowError")) = some true),
  fun K => decide (PySem.W.kitOne K (.ref (He.ga K "NotFree")) (.type "ValueError") = some true),
  fun K => xfB K (He.ga K "NotFree"),
  fun K => decide (PySem.W.findIn K (.ref (He.ga K "NotFree")) "rows" = some none),
  fun K => xcB K (He.ga K "NotTimely"),
  fun K => decide ((clsL.map fun n => PySem.W.kitOne K (.ref (He.ga K "NotTimely")) (.ref (He.ga K n))) = rowK 26),
  fun K => decide (PySem.W.kitOne K (.ref (He.ga K "NotTimely")) (.ref (He.ga K "RowError")) = some true),
  fun K => decide (PySem.W.kitOne K (.ref (He.ga K "NotTimely")) (.type "ValueError") = some true),
  fun K => xfB K (He.ga K "NotTimely"),
  fun K => decide (PySem.W.findIn K (.ref (He.ga K "NotTimely")) "rows" = some none),
  fun K => xcB K (He.ga K "NotEntered"),
  fun K => decide ((clsL.map fun n => PySem.W.kitOne K (.ref (He.ga K "NotEntered")) (.ref (He.ga K n))) = rowK 27),
  fun K => decide (PySem.W.kitOne K (.ref (He.ga K "NotEntered")) (.ref (He.ga K "RowError")) = some true),
  fun K => decide (PySem.W.kitOne K (.ref (He.ga K "NotEntered")) (.type "ValueError") = some true),
  fun K => xfB K (He.ga K "NotEntered"),
  fun K => decide (PySem.W.findIn K (.ref (He.ga K "NotEntered")) "index" = some none),
  fun K => xcB K (He.ga K "NothingToUndo"),
  fun K => decide ((clsL.map fun n => PySem.W.kitOne K (.ref (He.ga K "NothingToUndo")) (.ref (He.ga K n))) = rowK 28),
  fun K => decide (PySem.W.kitOne K (.ref (He.ga K "NothingToUndo")) (.ref (He.ga K "RowError")) = some true),
  fun K => decide (PySem.W.kitOne K (.ref (He.ga K "NothingToUndo")) (.type "ValueError") = some true),
  fun K => (He.Fa.exc "NothingToUndo").ok K,
  fun K => xcB K (He.ga K "BadNotation"),
  fun K => decide ((clsL.map fun n => PySem.W.kitOne K (.ref (He.ga K "BadNotation")) (.ref (He.ga K n))) = rowK 29),
  fun K => decide (PySem.W.kitOne K (.ref (He.ga K "BadNotation")) (.ref (He.ga K "RowError")) = some true),
  fun K => decide (PySem.W.kitOne K (.ref (He.ga K "BadNotation")) (.type "ValueError") = some true),
  fun K => xfB K (He.ga K "BadNotation"),
  fun K => decide (PySem.W.findIn K (.ref (He.ga K "BadNotation")) "line" = some none),
  fun K => decide (PySem.W.exmOne K (.ref (He.ga K "NoRows")) (.ref (He.ga K "NoRows")) = some true),
  fun K => decide (PySem.W.exmOne K (.ref (He.ga K "NoRows")) (.ref (He.ga K "BadName")) = some false),
  fun K => decide (PySem.W.exmOne K (.ref (He.ga K "NoRows")) (.ref (He.ga K "RowTwice")) = some false),
  fun K => decide (PySem.W.exmOne K (.ref (He.ga K "NoRows")) (.ref (He.ga K "RowError")) = some true),
  fun K => decide (PySem.W.exmOne K (.ref (He.ga K "BadName")) (.ref (He.ga K "NoRows")) = some false),
  fun K => decide (PySem.W.exmOne K (.ref (He.ga K "BadName")) (.ref (He.ga K "BadName")) = some true),
  fun K => decide (PySem.W.exmOne K (.ref (He.ga K "BadName")) (.ref (He.ga K "RowTwice")) = some false),
  fun K => decide (PySem.W.exmOne K (.ref (He.ga K "BadName")) (.ref (He.ga K "RowError")) = some true),
  fun K => decide (PySem.W.exmOne K (.ref (He.ga K "RowTwice")) (.ref (He.ga K "NoRows")) = some false),
  fun K => decide (PySem.W.exmOne K (.ref (He.ga K "RowTwice")) (.ref (He.ga K "BadName")) = some false),
  fun K => decide (PySem.W.exmOne K (.ref (He.ga K "RowTwice")) (.ref (He.ga K "RowTwice")) = some true),
  fun K => decide (PySem.W.exmOne K (.ref (He.ga K "RowTwice")) (.ref (He.ga K "RowError")) = some true),
  fun K => (He.Fa.str "LETTERS" "abcdefghijklmnopqrstuvwxyz").ok K,
  fun K => (He.Fa.str "SIGNS" "abcdefghijklmnopqrstuvwxyz0123456789").ok K,
  fun K => (He.Fa.int "LONGEST" 10).ok K]
abbrev R : PySem.W.OpenRow := PySem.W.OpenLaw.row PySem.Challenge.rw_joinpast_k04_row_sets
abbrev hk : PySem.W.Hook := JPH.hookF 4 fa fn
def loose : List PySem.Str := (["RowError", "NoQuotient", "ZeroPolynomial", "ZeroSum", "NoRows", "BadName", "RowTwice", "UnknownRow", "RowsDiffer", "SpotTwice", "BadStretch", "ShortStretch", "TooLong", "CannotStand", "Broken", "NotFinite", "BadParts", "Barred", "NotCourse", "BreaksOwnRule", "NotBlocked", "Unsure", "Contradiction", "NotStricter", "NoFamilies", "NotLet", "NotFree", "NotTimely", "NotEntered", "NothingToUndo"] : List PySem.Str) ++ (["BadNotation", "LETTERS", "SIGNS", "LONGEST", "is_row_name", "check_names", "row_set", "_law_cell", "_law_digits", "_law_signs", "_law_string", "_law_strings", "_law_good", "_law_kinds", "_law_due", "_law_asked", "_law_caught", "_law_equal", "_law_right", "_law_created", "_law_errors_right"] : List PySem.Str)
def ob (s : PySem.W.SharedT) : He.AlD := JPH.obsFG 4 fa fn (HandSHeadRun.getT s)
theorem ob_eq (s : PySem.W.SharedT) : ob s = hk.obs s.abs := JPH.obsFG_eq (HandSHeadRun.getT_eq s)
theorem run (w : World) : HandSHeadRun.RunEqI R (PySem.W.view R.prog [54]) hk ob 20000 loose w := by
  unfold HandSHeadRun.RunEqI
  kernel_rfl
end JP
set_option maxHeartbeats 4000000
namespace JP
open PySem PySem.Spec PyProof.Rows L2 L2H HotX
/-! ### a caught exception of a class that is known, asked and handed to a def -/
/-- isinstance(e, c) | isinstance(e, (c, ..)) of the exception at a, its class cls, its dict d -/
def rIsX (K : PySem.W.Frag) (cls : Value) (d : Option Addr) (a : Addr) : List V → Hp → VK → Prop := fun xs H Q => ∃ D, cls = .ref D ∧ d = none ∧ ExcC K D ∧ (rIsE K D a xs H Q ∨ rIsET K D a xs H Q)
theorem call_isX {X : Cx} {a : Addr} {oe : Obj} {cls : Value} {d : Option Addr} (hp : (a, oe) ∈ X.pn) (hz : Zc cls d oe) (hf : ∃ vs, oe.data = .fields vs) : CallR X (.builtin "isinstance") (rIsX X.K cls d a) := by
  intro pins s σ H xs us Q I r h
  obtain ⟨D, rfl, rfl, C, h | h⟩ := h
  · exact call_isEP C hp hz hf pins s σ H xs us Q I r h
  · exact call_isET C hp hz hf pins s σ H xs us Q I r h
/-- a def's promise where the exception p is handled, of which Zp is known -/
structure FnZ (P : Program) (w : World) (K : PySem.W.Frag) (mg : Str → Option Value) (base : Heap) (k : Nat) (f : Addr) (fd : FuncData) (ps : List Str) (Zp : Addr × Obj → Prop) (sp : Addr → Sp) : Prop where
  len : ∀ a vs H Q E, sp a vs H Q E → vs.length = ps.length
  run : ∀ (A : Around) (outer : List Env) (s : Shared) (H : Hp) (args : Args) (us : List Value) (vs : List V) (Q : VK) (E : XK) (p : Addr × Obj), RoomH k A → Hot1 A p → Zp p → PinOk outer H s p → Env0 P w K mg base A outer s H →
    BindsTo s fd args (ps.zip us) → Vals vs us → sp p.1 vs H Q E → codeAny (model P w) A (.call (.ref f) args) (CR (L2N.CX P w) outer P w H s Q E) s
/-- the body may use what is known of the pin -/
theorem fn_ofZ {P : Program} {w : World} {K : PySem.W.Frag} {mg : Str → Option Value} {base : Heap} {k : Nat} {f : Addr} {name qual : Str} {params : Arguments} {body : List Stmt} {scope : Scope} {dV kV doc pm cdv ct oc : Value} {an od : Option Addr}
    {osl : Array (Option Value)} {N ps : List Str} {Zp : Addr × Obj → Prop} {sp : Addr → Sp} (lk : K.lookup f = some ⟨oc, od, .func (PySem.W.fnOf name qual params body scope dV kV doc pm an cdv ct), osl⟩) (hcd : PySem.W.codeIn K cdv qual = true) (S : FnScope N ps scope)
    (len : ∀ a vs H Q E, sp a vs H Q E → vs.length = ps.length)
    (hbody : ∀ (A : Around) (outer : List Env) (s : Shared) (H : Hp) (vs : List V) (Q : VK) (E : XK) (p : Addr × Obj), Hot1 A p → Zp p → RoomH k (A.deeper (envOfC qual scope s.heap.objs.size f cdv)) → sp p.1 vs H Q E →
      ∃ t, PSs (cxH (L2N.CX P w) P w K mg base N qual scope f cdv A outer s H E p) body t ∧ t { nx := fun _ H' => Q .non H', rt := Q } (L2.start N vs) H) :
    FnZ P w K mg base (k + 1) f (PySem.W.fnOf name qual params body scope dV kV doc pm an cdv ct) ps Zp sp := by
  refine ⟨len, fun A outer s H args us vs Q E p hr hot hz hpin e0 hb r hsp => ?_⟩
  have KX : K.In s.heap := e0.mod.kin.keeps fun b o e => (e0.bs b o e).1
  have lim : s.heap.NoLimit := e0.mod.nolimit.keeps fun b o e => (e0.bs b o e).1
  have hl := len _ _ _ _ _ hsp
  have hkind : ∀ y ∈ ps.zip us, scope.names.lookup y.1 = some .local ∨ (scope.names.lookup y.1 = some .cell ∧ ((cellsFrom (s.heap.objs.size + 1) scope.names []).lookup y.1).isSome = true) := by
    rintro ⟨n, v⟩ hy
    exact (S.par n (List.of_mem_zip hy).1).imp id fun q => ⟨q, PySem.W.cellsFrom_some _ _ _ (.inl q)⟩
  refine codeAny_call_function hr.depth (KX _ _ lk) rfl S.co S.gen rfl (PySem.W.codeRec_of KX hcd) (hb _ _ _ _ (wpAny_newFunctionEnv_cells S.kind hkind fun env he s1 x => ?_))
  subst he
  refine ⟨lim.keeps x.toInCall.keep, codeAny_func ?_⟩
  obtain ⟨t, ht, hq⟩ := hbody A outer s H vs Q E p hot hz (hr.deeper _) hsp
  refine wpAny_mono (ht.run [] s1 _ H _ (inv_startH S hpin e0 hl r x) hq) (fun fl s' hs => ?_) fun e s' hs => hs
  cases fl with
  | ret u => obtain ⟨v, σ', H', J, rv, q⟩ := hs; exact ⟨v, H', J.os, J.bare, J.base, J.hok, rv, q⟩
  | next => obtain ⟨σ', H', J, q⟩ := hs; exact ⟨V.non, H', J.os, J.bare, J.base, J.hok, rfl, q⟩
  | brk => obtain ⟨_, _, _, q⟩ := hs; exact False.elim q
  | cont => obtain ⟨_, _, _, q⟩ := hs; exact False.elim q
/-- f(e) in a suite: the caught exception's class is D, it has no dict -/
def tCallZ (D : Addr) (cls : Value) (d : Option Addr) (sp : Sp) (t : TA) : TE := fun σ H Q => t σ H fun vs H1 => cls = .ref D ∧ d = none ∧ sp vs H1 Q E0
theorem w_callZ {D : Addr} {cls : Value} {d : Option Addr} {sp : Sp} {t : TA} {σ : L2.St} {H : Hp} {Q : VK} (q : t σ H fun vs H1 => cls = .ref D ∧ d = none ∧ sp vs H1 Q E0) : tCallZ D cls d sp t σ H Q := q
theorem pe_callZ {X : Cx} {k : Nat} {f D : Addr} {fd : FuncData} {ps : List Str} {sp : Addr → Sp} {x : Str} {q pos : Pos} {e : Expr} {es : List Expr} {t : TA} {p : Addr × Obj} {cls : Value} {d : Option Addr}
    (F : FnZ X.prog X.w X.K X.mg X.base k f fd ps (fun p => Zc (.ref D) none p.2) sp) (hr : RoomH k X.A) (hp : p ∈ X.pn) (hot : Hot1 X.A p) (hz : Zc cls d p.2) (hg : Gl X x) (hm : X.mg x = some (.ref f)) (hk : PySem.W.keepIn X.K (.ref f) = true) (hb : Binds X.K fd ps [])
    (ha : PA X (e :: es) t) (hdb : (x == ("__debug__" : Str)) = false := by decide) (he : starEach (e :: es) X.env = (false, eval e X.env) :: starEach es X.env := by rfl) (hpl : (backTo pos (starEach es X.env)).any (·.1) = false := by rfl) :
    PE X (.Call (.Name x q) (e :: es) [] pos) (tCallZ D cls d (sp p.1) t) := by
  refine ⟨fun pins s σ H Q I h => wpAny_Call_Name_kw (ld_glob I hg hm ?_ hdb)⟩
  refine PySem.W.callWith_K (h₀ := X.base) I.ok.mod.kin hk (thn (ha.run pos pins s σ H _ I h) fun us s1 ⟨vs, H1, I1, r, hcls, hd, q⟩ => ⟨I1.kIn, ?_⟩) he hpl
  subst hcls hd
  have hl : us.length = ps.length := r.length.symm.trans (F.len _ _ _ _ _ q)
  have b := hb s1 us I1.kIn (by rw [List.append_nil]; exact hl)
  rw [List.append_nil] at b
  obtain ⟨p1, p2, p3, p4, p5⟩ := I1.pin p (List.mem_append_left _ hp)
  have hpin : PinOk X.stack H1 s1 p := ⟨p1, p2, fun hm => (List.mem_cons.mp (I1.stkSub p.1 hm)).elim p3 p4, p5⟩
  refine wpAny_call (codeAny_mono (F.run X.A X.stack s1 H1 ⟨us, []⟩ us vs Q E0 p hr hot hz hpin I1.env0 b r q) fun res s' hq => ?_)
  cases res with
  | error e => exact passN pins σ H1 s1 e s' I1 hq
  | ok fl =>
    cases fl with
    | ret u => exact I1.after hq
    | next => exact False.elim hq
    | brk => exact False.elim hq
    | cont => exact False.elim hq
theorem hot_suite {X : Cx} {a : Addr} {oe : Obj} {cls : Value} {d : Option Addr} {pn : List (Addr × Obj)} (hz : L2N.Zn cls d oe) (hf : ∃ vs, oe.data = .fields vs) : Hot1 (X.suite a ((a, oe) :: pn)).A (a, oe) := by
  obtain ⟨vs, hv⟩ := hf
  exact ⟨rfl, vs, hv, hz.2.2 vs hv⟩
theorem room_suite {X : Cx} {a : Addr} {pn : List (Addr × Obj)} {k : Nat} (r : Room k X.A) : RoomH k (X.suite a pn).A := ⟨r.dp, r.un⟩
/-- such a def of the text -/
structure DefZ (P : Program) (w : World) (K : PySem.W.Frag) (mg : Str → Option Value) (base : Heap) (nm : Str) (k : Nat) (ps : List Str) (D : Addr) (sp : Addr → Sp) : Prop where
  ex : ∃ f fd, FnZ P w K mg base k f fd ps (fun p => Zc (.ref D) none p.2) sp ∧ mg nm = some (.ref f) ∧ PySem.W.keepIn K (.ref f) = true ∧ Binds K fd ps []
theorem pe_defZ {X : Cx} {nm : Str} {k : Nat} {ps : List Str} {D : Addr} {sp : Addr → Sp} {q pos : Pos} {e : Expr} {es : List Expr} {t : TA} {p : Addr × Obj} {cls : Value} {d : Option Addr}
    (dz : DefZ X.prog X.w X.K X.mg X.base nm k ps D sp) (hr : RoomH k X.A) (hp : p ∈ X.pn) (hot : Hot1 X.A p) (hz : Zc cls d p.2) (hg : Gl X nm) (ha : PA X (e :: es) t) (hdb : (nm == ("__debug__" : Str)) = false := by decide)
    (he : starEach (e :: es) X.env = (false, eval e X.env) :: starEach es X.env := by rfl) (hpl : (backTo pos (starEach es X.env)).any (·.1) = false := by rfl) : PE X (.Call (.Name nm q) (e :: es) [] pos) (tCallZ D cls d (sp p.1) t) := by
  obtain ⟨f, fd, F, hm, hk, hb⟩ := dz.ex
  exact pe_callZ F hr hp hot hz hg hm hk hb ha hdb he hpl
theorem DefZ.of {P : Program} {w : World} {K : PySem.W.Frag} {mg : Str → Option Value} {base : Heap} {nm : Str} {st : Stmt} {N ps : List Str} {k : Nat} {D : Addr} {sp : Addr → Sp} (h : At K mg nm st) (S : FnScope N ps (defScope st))
    (hbind : ∀ (kV doc pm : Value) (an : Option Addr) (cdv ct : Value) (us : List Value), us.length = ps.length → bindArgs (PySem.W.fnOf nm nm (defArgs st) (defBody st) (defScope st) .none kV doc pm an cdv ct) ⟨us, []⟩ = pure (ps.zip us))
    (len : ∀ a vs H Q E, sp a vs H Q E → vs.length = ps.length)
    (hbody : ∀ (f : Addr) (cdv : Value) (A : Around) (outer : List Env) (s : Shared) (H : Hp) (vs : List V) (Q : VK) (E : XK) (p : Addr × Obj), Hot1 A p → Zc (.ref D) none p.2 → RoomH k (A.deeper (envOfC nm (defScope st) s.heap.objs.size f cdv)) → sp p.1 vs H Q E →
      ∃ t, PSs (cxH (L2N.CX P w) P w K mg base N nm (defScope st) f cdv A outer s H E p) (defBody st) t ∧ t { nx := fun _ H' => Q .non H', rt := Q } (start N vs) H) : DefZ P w K mg base nm (k + 1) ps D sp := by
  obtain ⟨fd, F⟩ := h.ex
  obtain ⟨oc, od, dV, kV, doc, pm, an, cdv, ct, osl, e, lk, hcd, hD, hK⟩ := id F.ex
  subst e
  exact ⟨_, _, fn_ofZ lk hcd S len (hbody (He.ga K nm) cdv), h.gl, F.kp, F.bindsN hbind⟩
end JP
set_option Elab.async false
set_option linter.all false
set_option maxRecDepth 100000
set_option maxHeartbeats 4000000
namespace JP
open PySem PySem.Spec PyProof.Rows L2
/-! dicts -/
abbrev DK := List (Key × V)
/-- the dict with the keys ks and the values f -/
def tk (ks : List Int) (f : Int → Int) : DK := ks.map fun s => (Sum.inl s, V.int (f s))
/-- the dict of a polynomial -/
def dk (R : List Pr) : DK := R.map fun p => (Sum.inl p.1, V.int p.2)
theorem dk_tk {R : List Pr} (a : Asc R) : dk R = tk (R.map (·.1)) (cf R) := by
  unfold dk tk
  rw [List.map_map]
  refine List.map_congr_left fun p hp => ?_
  show _ = (Sum.inl p.1, V.int (cf R p.1))
  rw [cf_in a hp]
theorem length_tk (ks : List Int) (f : Int → Int) : (tk ks f).length = ks.length := List.length_map ..
theorem length_dk (R : List Pr) : (dk R).length = R.length := List.length_map ..
theorem tk_keys (ks : List Int) (f : Int → Int) : (tk ks f).map (·.1) = ks.map Sum.inl := by
  unfold tk
  rw [List.map_map]
  rfl
theorem tk_kV (ks : List Int) (f : Int → Int) : ((tk ks f).map fun kv => kV kv.1) = ks.map V.int := by
  unfold tk
  rw [List.map_map]
  rfl
theorem dk_kV (R : List Pr) : ((dk R).map fun kv => kV kv.1) = (R.map (·.1)).map V.int := by
  unfold dk
  rw [List.map_map, List.map_map]
  rfl
theorem valV_tk {ks : List Int} {f : Int → Int} {s : Int} (h : s ∈ ks) : valV (tk ks f) (Sum.inl s) = some (.int (f s)) := by
  induction ks with
  | nil => cases h
  | cons k r ih =>
    by_cases e : k = s
    · subst e
      exact valV_pos (p := (Sum.inl k, V.int (f k))) rfl
    · have := ih ((List.mem_cons.mp h).resolve_left fun z => e z.symm)
      exact (valV_neg (p := (Sum.inl k, V.int (f k))) (fun z => e (Sum.inl.inj z))).trans this
theorem valV_tk0 {ks : List Int} {f : Int → Int} {s : Int} (h : s ∉ ks) : valV (tk ks f) (Sum.inl s) = none := by
  induction ks with
  | nil => rfl
  | cons k r ih =>
    have e : k ≠ s := fun z => h (z ▸ List.mem_cons_self)
    exact (valV_neg (p := (Sum.inl k, V.int (f k))) (fun z => e (Sum.inl.inj z))).trans (ih fun z => h (List.mem_cons_of_mem _ z))
theorem valV_dk {R : List Pr} (a : Asc R) {p : Pr} (h : p ∈ R) : valV (dk R) (Sum.inl p.1) = some (.int p.2) := by
  rw [dk_tk a, valV_tk (List.mem_map_of_mem h), cf_in a h]
theorem valV_dk0 {R : List Pr} (a : Asc R) {s : Int} (h : s ∉ R.map (·.1)) : valV (dk R) (Sum.inl s) = none := by rw [dk_tk a, valV_tk0 h]
/-- a put value -/
def ups (f : Int → Int) (s v : Int) : Int → Int := fun t => if t = s then v else f t
def addk (ks : List Int) (s : Int) : List Int := if s ∈ ks then ks else ks ++ [s]
theorem put_tk (ks : List Int) (f : Int → Int) (s v : Int) : putK (tk ks f) (Sum.inl s) (.int v) = tk (addk ks s) (ups f s v) := by
  unfold putK
  rw [valV_any]
  by_cases h : s ∈ ks
  · rw [valV_tk h, Option.isSome_some, if_pos rfl]
    unfold addk tk
    rw [if_pos h, List.map_map]
    refine List.map_congr_left fun k hk => ?_
    show (if (Sum.inl k : Key) = Sum.inl s then (Sum.inl k, V.int v) else (Sum.inl k, V.int (f k))) = (Sum.inl k, V.int (if k = s then v else f k))
    by_cases e : k = s
    · rw [if_pos e, if_pos (e ▸ rfl)]
    · rw [if_neg e, if_neg fun z => e (Sum.inl.inj z)]
  · rw [valV_tk0 h, if_neg (by decide)]
    unfold addk tk
    rw [if_neg h, List.map_append, List.map_cons, List.map_nil]
    congr 1
    · refine List.map_congr_left fun k hk => ?_
      have e : k ≠ s := fun z => h (z ▸ hk)
      show _ = (Sum.inl k, V.int (if k = s then v else f k))
      rw [if_neg e]
    · show _ = [(Sum.inl s, V.int (if s = s then v else f s))]
      rw [if_pos rfl]
theorem put_dk {R : List Pr} (p : Pr) (h : ∀ q ∈ R, q.1 < p.1) : putK (dk R) (Sum.inl p.1) (.int p.2) = dk (R ++ [p]) := by
  have : valV (dk R) (Sum.inl p.1) = none := by
    induction R with
    | nil => rfl
    | cons q r ih =>
      have e := h q List.mem_cons_self
      exact (valV_neg (p := (Sum.inl q.1, V.int q.2)) (fun z => by have := Sum.inl.inj z; omega)).trans (ih fun x hx => h x (List.mem_cons_of_mem _ hx))
  rw [putK_new _ this]
  unfold dk
  rw [List.map_append]
  rfl
/-- a sound tally -/
structure Tal (ks : List Int) (f : Int → Int) : Prop where
  nd : ks.Nodup
  out : ∀ s, s ∉ ks → f s = 0
theorem Tal.nil : Tal [] (cf []) := ⟨List.nodup_nil, fun _ _ => rfl⟩
theorem Tal.put {ks : List Int} {f g : Int → Int} (t : Tal ks f) (s c : Int) (hg : ∀ u, g u = f u + if s = u then c else 0) : Tal (addk ks s) g ∧ ∀ u ∈ addk ks s, g u = ups f s (f s + c) u := by
  refine ⟨⟨?_, fun u hu => ?_⟩, fun u _ => ?_⟩
  · unfold addk
    split
    · exact t.nd
    · rename_i h
      refine List.nodup_append.mpr ⟨t.nd, by simp, fun a ha b hb => ?_⟩
      rw [List.mem_singleton.mp hb]
      exact fun z => h (z ▸ ha)
  · have h1 : u ∉ ks ∧ u ≠ s := by
      unfold addk at hu
      split at hu
      · rename_i h
        exact ⟨hu, fun z => hu (z ▸ h)⟩
      · rw [List.mem_append] at hu
        exact ⟨fun z => hu (.inl z), fun z => hu (.inr (z ▸ List.mem_singleton.mpr rfl))⟩
    rw [hg, t.out u h1.1, if_neg (fun z => h1.2 z.symm)]
    rfl
  · rw [hg]
    unfold ups
    by_cases e : u = s
    · rw [if_pos e, if_pos e.symm, e]
    · rw [if_neg e, if_neg fun z => e z.symm]
      omega
theorem tk_congr {ks : List Int} {f g : Int → Int} (h : ∀ u ∈ ks, f u = g u) : tk ks f = tk ks g := List.map_congr_left fun k hk => by rw [h k hk]
theorem length_addk (ks : List Int) (s : Int) : (addk ks s).length ≤ ks.length + 1 := by
  unfold addk
  split
  · omega
  · rw [List.length_append]; exact Nat.le_refl _
/-- .. its value, 0 beside it -/
theorem Tal.get {ks : List Int} {f : Int → Int} (t : Tal ks f) (s : Int) : (valV (tk ks f) (Sum.inl s)).getD (.int 0) = .int (f s) := by
  by_cases h : s ∈ ks
  · rw [valV_tk h]; rfl
  · rw [valV_tk0 h, t.out s h]; rfl
/-- sorted keys, without zeros -/
def pick (ns : List Int) (f : Int → Int) : List Pr := (ns.filter fun s => decide (f s ≠ 0)).map fun s => (s, f s)
theorem pick_nil (f : Int → Int) : pick [] f = [] := rfl
theorem pick_snoc (ns : List Int) (f : Int → Int) (s : Int) : pick (ns ++ [s]) f = if f s ≠ 0 then pick ns f ++ [(s, f s)] else pick ns f := by
  unfold pick
  rw [List.filter_append]
  by_cases h : f s ≠ 0
  · rw [if_pos h, List.filter_cons_of_pos (by simpa using h), List.map_append]; rfl
  · rw [if_neg h, List.filter_cons_of_neg (by simpa using h), List.filter_nil, List.append_nil]
theorem pick_isP {ks ns : List Int} {f : Int → Int} (t : Tal ks f) (hp : ns.Perm ks) (hs : ns.Pairwise (· ≤ ·)) : IsP f (pick ns f) := by
  have nd : ns.Nodup := hp.nodup_iff.mpr t.nd
  have lt : ns.Pairwise (· < ·) := by
    have h2 : ns.Pairwise (· ≠ ·) := nd
    exact (hs.and h2).imp fun ⟨a, b⟩ => by omega
  have asc : Asc (pick ns f) := by
    unfold Asc pick
    rw [List.pairwise_map]
    exact (lt.filter _)
  refine ⟨asc, fun p hp => ?_, fun s => ?_⟩
  · obtain ⟨s, hs, rfl⟩ := List.mem_map.mp hp
    exact of_decide_eq_true (List.mem_filter.mp hs).2
  · by_cases h : s ∈ ns ∧ f s ≠ 0
    · exact cf_in asc (p := (s, f s)) (List.mem_map.mpr ⟨s, List.mem_filter.mpr ⟨h.1, decide_eq_true h.2⟩, rfl⟩)
    · have z : f s = 0 := by
        by_cases m : s ∈ ns
        · exact Decidable.byContradiction fun z => h ⟨m, z⟩
        · exact t.out s fun q => m (hp.mem_iff.mpr q)
      rw [z]
      refine cf_out fun p hp e => ?_
      obtain ⟨u, hu, rfl⟩ := List.mem_map.mp hp
      have := of_decide_eq_true (List.mem_filter.mp hu).2
      rw [show u = s from e] at this
      exact this z
theorem pick_lt {ns : List Int} {f : Int → Int} {s : Int} (h : ∀ u ∈ ns, u < s) : ∀ q ∈ pick ns f, q.1 < s := fun q hq => by
  obtain ⟨u, hu, rfl⟩ := List.mem_map.mp hq
  exact h u (List.mem_filter.mp hu).1
/-! ### rules -/
section
variable {X : Cx} {e o f : Expr} {td ty tx : TE} {pos : Pos}
def tDNewA : TE := fun _ H Q => ∀ p H2, H p = none → Same H H2 → H2 p = some (.dK []) → Q (.ref p) H2
theorem pe_dnewA : PE X (.Dict [] [] pos) tDNewA := ⟨fun pins s σ H Q I h => pe_dnewK.run pins s σ H Q I fun p hp => h p _ hp (Same.new hp) upd_same⟩
def rListD : List V → Hp → VK → Prop := fun xs H Q => ∃ (a : Addr) (kvs : DK), xs = [.ref a] ∧ Rd H a (.dK kvs) ∧ ∀ p H2, H p = none → Same H H2 → H2 p = some (.lst (kvs.map fun kv => kV kv.1)) → Q (.ref p) H2
theorem call_listDA (hc : X.calm = true) : CallR X (.type "list") rListD := CallR.imp (call_listD hc) fun _ _ _ ⟨a, kvs, h1, h2, q⟩ => ⟨a, kvs, h1, h2, fun p hp => q p _ hp (Same.new hp) upd_same⟩
def rLenD : List V → Hp → VK → Prop := fun xs H Q => ∃ a kvs, xs = [V.ref a] ∧ H a = some (.dK kvs) ∧ Q (.int kvs.length) H
theorem call_lenDA : CallR X (.builtin "len") rLenD := call_lenD
def rSortA (K : PySem.W.Frag) : List V → Hp → VK → Prop := fun vs H Q => ∃ (a : Addr) (ns : List Int), vs = [V.ref a] ∧ SqL K H a (ns.map V.int) ∧ ∀ (ns' : List Int) (p : Addr) (H2 : Hp), ns'.Perm ns → ns'.Pairwise (· ≤ ·) → H p = none → Same H H2 → H2 p = some (.lst (ns'.map V.int)) → Q (.ref p) H2
theorem cr_sortA : CallR X (.builtin "sorted") (rSortA X.K) := CallR.imp cr_sortedI fun _ _ _ ⟨a, ns, h1, h2, q⟩ => ⟨a, ns, h1, h2, fun ns' p h3 h4 hp => q ns' p _ h3 h4 hp (Same.new hp) upd_same⟩
def rMaxA (K : PySem.W.Frag) : List V → Hp → VK → Prop := rMax K
theorem cr_maxA (hc : X.calm = true) : CallR X (.builtin "max") (rMaxA X.K) := cr_max hc
def rMinA (K : PySem.W.Frag) : List V → Hp → VK → Prop := rMin K
theorem cr_minA (hc : X.calm = true) : CallR X (.builtin "min") (rMinA X.K) := cr_min hc
/-- sorted(d), all keys ints, any number of them -/
def rSortD : List V → Hp → VK → Prop := fun xs H Q => ∃ (a : Addr) (kvs : DK) (ks : List Int), xs = [.ref a] ∧ Rd H a (.dK kvs) ∧ kvs.map (·.1) = ks.map Sum.inl ∧
    ∀ (ys : List Int) (p : Addr) (H2 : Hp), ys.Perm ks → ys.Pairwise (· ≤ ·) → H p = none → Same H H2 → H2 p = some (.lst (ys.map V.int)) → Q (.ref p) H2
theorem cr_sortD (hcalm : X.calm = true) : CallR X (.builtin "sorted") rSortD := by
  intro pins s σ H xs us Q I r q
  obtain ⟨a, kvs, ks, ex, hd, hks, q⟩ := q
  subst ex
  obtain ⟨u, eu, rx⟩ := vals1 r
  subst eu
  cases rx
  obtain ⟨z, lo, vs, rel, dd⟩ := dk_rd I.hok hd
  obtain ⟨ep, hat⟩ := dd.dictAt
  have hkeys : vs.map (·.1) = ks.map Sum.inl := rel.keys.symm.trans hks
  have hl : vs.length = ks.length := by
    have e := congrArg List.length hkeys
    rw [List.length_map, List.length_map] at e
    exact e
  have h16 : vs.length ≤ sizeLine := by rw [← rel.length]; exact z
  refine Calls.call_function_entry PyProof.Rows.kind_sorted PyProof.Rows.plain_sorted PyProof.Rows.entry_sorted (PyProof.Rows.args_sorted1 _) ?_
  unfold Builtin.«sorted»
  refine wpAny_bind (m := checkCount "sorted" 1 1 _) (wpAny_pure ?_)
  refine wpAny_bind (PySem.W.kdu_collect (A := X.A.in1) (PySem.W.kdl_dict (knd := mixKind X.prog X.w) (kvs := vs) (ep := ep) lo) (I.ok.hd hcalm) hat h16 fun h' tk acc hk hacc => ?_)
  have hal : acc.toList.length = ks.length := by rw [Array.length_toList, hacc.1, hl]
  have hS : IntsAre acc.toList ks := ints_each hal fun j v e => by
    obtain ⟨k, x, e1, e2⟩ := hacc.2 j v (by rw [← Array.getElem?_toList]; exact e)
    have e3 : (vs.map (·.1))[j]? = some k := by rw [List.getElem?_map, e1]; rfl
    rw [hkeys, List.getElem?_map] at e3
    cases e4 : ks[j]? with
    | none => rw [e4] at e3; cases e3
    | some y =>
      rw [e4] at e3
      have e5 : Sum.inl y = k := Option.some.inj e3
      subst e5
      rcases keyIs_shape (show keyIs (Sum.inl y) v = true from e2) with ⟨i, t, ek, ev⟩ | ⟨z, t, ek, ev⟩
      · cases ek
        exact ⟨y, t, rfl, ev⟩
      · cases ek
  have I1 : Inv X pins σ H { s with heap := h', toks := tk } := I.kept hk
  have hal2 : acc.toList.length ≤ sizeLine := by rw [hal, ← hl]; exact h16
  refine wpAny_bind (wpAny_newList ?_ hal2)
  have hoL : (h'.push (seqObj "list" acc.toList.toArray 0)).get? h'.objs.size = some (seqObj "list" acc.toList.toArray 0) := Heap.get?_push_size _ rfl
  show wpAny _ _ _ _ _ { s with heap := h'.push (seqObj "list" acc.toList.toArray 0), toks := tk }
  refine wpAny_bind (wpAny_holding (wpAny_call_entry PyProof.Rows.slot_list_sort ⟨_, hoL, rfl⟩ PyProof.Rows.entry_list_sort
    (SrtO.list_sort_ord (s := { s with heap := h'.push (seqObj "list" acc.toList.toArray 0), toks := tk }) SrtO.swo_int hoL hal2 (fun h2 => SrtO.ints_sortable hS h2) fun out h1 h2 => ⟨_, rfl, ?_⟩) (PyProof.Rows.args_list_sort _)))
  obtain ⟨k1, k2, k3⟩ := SrtO.ints_out hS h1 h2
  obtain ⟨e', he'⟩ := PyProof.Rows.sortedHeap_at (vs := acc.toList) (out := out.toArray) hoL
  have hlen : ((out.map SrtO.iv).map V.int).length ≤ sizeLine := by
    rw [List.length_map, k2.length_eq, ← hl]
    exact h16
  have hfr := I1.hok.fresh (Nat.le_refl _)
  refine wpAny_pure ⟨_, rfl, .ref h'.objs.size, upd H h'.objs.size (.lst ((out.map SrtO.iv).map V.int)), I1.laid (t' := tk) (fun b u e => ?_) (Nat.le_refl _)
    (show ObjOk X.prog X.w _ _ _ (.lst ((out.map SrtO.iv).map V.int)) from ⟨hlen, out, e', vals_of_ints k1, he'⟩), rfl, q _ _ _ k2 k3 hfr (Same.new hfr) upd_same⟩
  have hb : b < h'.objs.size := Heap.lt_size e
  rw [PyProof.Rows.sortedHeap_old (Nat.ne_of_lt hb) (by rw [size_push']; exact Nat.lt_succ_of_lt hb)]
  exact Heap.get?_push_of_some _ e
/-- a lock, or none -/
def tLockM (t : TS) : TS := fun D σ H => t D σ H ∨ tLock t D σ H
theorem ps_lockM {st : Stmt} {t : TS} (h : PS X st t) : PS X st (tLockM t) := ⟨fun pins s σ H D I hw => hw.elim (h.run pins s σ H D I) ((ps_lock h).run pins s σ H D I)⟩
end
/-! ### steps -/
section
variable {K : PySem.W.Frag} {σ : L2.St} {H : Hp} {Q : VK} {D : Ends}
theorem w_dnew (q : ∀ p H2, H p = none → Same H H2 → H2 p = some (.dK []) → Q (.ref p) H2) : tDNewA σ H Q := q
theorem w_dget {td ty : TE} (q : td σ H fun x H1 => ty σ H1 fun y H2 => ∃ a v, x = .ref a ∧ DGet H2 a y (some v) ∧ Q v H2) : tDGet td ty σ H Q := q
theorem w_dget2 {td ty tx : TE} (q : td σ H fun x H1 => ∃ a, x = .ref a ∧ IsD H1 a ∧ ty σ H1 fun y H2 => tx σ H2 fun z H3 => ∃ o, DGet H3 a y o ∧ Q (o.getD z) H3) : tDGet2 td ty tx σ H Q := q
theorem w_dput {td ty tv : TE} (q : tv σ H fun v H1 => td σ H1 fun x H2 => ty σ H2 fun y H3 => ∃ a H4, x = .ref a ∧ DPut H3 a y v H4 ∧ D.nx σ H4) : sDPut td ty tv D σ H := q
theorem w_isd {a : Addr} {B : Addr → Prop} (kvs : DK) (h : Rd H a (.dK kvs)) (q : B a) : ∃ b, V.ref a = .ref b ∧ IsD H b ∧ B b := ⟨a, rfl, .inl ⟨kvs, h⟩, q⟩
theorem w_dat {a : Addr} {s : Int} {kvs : DK} {B : V → Prop} (v : V) (h : Rd H a (.dK kvs)) (e : valV kvs (.inl s) = some v) (q : B v) : ∃ b v, V.ref a = .ref b ∧ DGet H b (.int s) (some v) ∧ B v := ⟨a, v, rfl, .inl ⟨kvs, .inl s, h, rfl, e.symm⟩, q⟩
theorem w_dtal {a : Addr} {s : Int} {B : Option V → Prop} (ks : List Int) (f : Int → Int) (t : Tal ks f) (h : H a = some (.dK (tk ks f))) (q : ∀ o : Option V, o.getD (.int 0) = .int (f s) → B o) : ∃ o, DGet H a (.int s) o ∧ B o := ⟨_, .inl ⟨_, .inl s, .inl h, rfl, rfl⟩, q _ (t.get s)⟩
theorem w_dset {a : Addr} {s : Int} {v : V} {kvs : DK} {R : Hp → Prop} (h : H a = some (.dK kvs)) (hz : kvs.length < sizeLine) (q : ∀ H2, But a H H2 → H2 a = some (.dK (putK kvs (.inl s) v)) → R H2) : ∃ b H4, V.ref a = .ref b ∧ DPut H b (.int s) v H4 ∧ R H4 :=
  ⟨a, _, rfl, .inl ⟨kvs, .inl s, h, rfl, hz, rfl⟩, q _ (fun b hb => upd_ne hb) upd_same⟩
theorem w_listD {a : Addr} (kvs : DK) (h : Rd H a (.dK kvs)) (q : ∀ p H2, H p = none → Same H H2 → H2 p = some (.lst (kvs.map fun kv => kV kv.1)) → Q (.ref p) H2) : rListD [.ref a] H Q := ⟨a, kvs, rfl, h, q⟩
theorem w_lenD {a : Addr} (kvs : DK) (h : H a = some (.dK kvs)) (q : Q (.int kvs.length) H) : rLenD [.ref a] H Q := ⟨a, kvs, rfl, h, q⟩
theorem w_sortD {a : Addr} (ks : List Int) (f : Int → Int) (h : H a = some (.dK (tk ks f))) (q : ∀ (ys : List Int) (p : Addr) (H2 : Hp), ys.Perm ks → ys.Pairwise (· ≤ ·) → H p = none → Same H H2 → H2 p = some (.lst (ys.map V.int)) → Q (.ref p) H2) : rSortD [.ref a] H Q :=
  ⟨a, _, ks, rfl, .inl h, tk_keys ks f, q⟩
theorem w_sort {a : Addr} (ks : List Int) (h : H a = some (.lst (ks.map V.int))) (q : ∀ (ys : List Int) (p : Addr) (H2 : Hp), ys.Perm ks → ys.Pairwise (· ≤ ·) → H p = none → Same H H2 → H2 p = some (.lst (ys.map V.int)) → Q (.ref p) H2) : rSortA K [.ref a] H Q :=
  ⟨a, ks, rfl, SqL.of h, q⟩
theorem w_tru {te : TE} {B : Bool → Hp → Prop} (q : te σ H fun x H' => ∃ k, TruV K x H' k ∧ B k H') : (fun (σ : L2.St) (H : Hp) (Q : Bool → Hp → Prop) => te σ H fun x H' => ∃ k, TruV K x H' k ∧ Q k H') σ H B := q
theorem w_truQ {p : Addr} {xs : List V} {B : Bool → Prop} (h : Sq K H p xs) (q : B (!xs.isEmpty)) : ∃ k, TruV K (.ref p) H k ∧ B k := ⟨_, h.elim (fun h => .inl ⟨xs, h, rfl⟩) fun h => .inr (.inl ⟨xs, h, rfl⟩), q⟩
/-! a lock opened again -/
theorem lock_same {d : Addr} {od : Obj} {u : HO} {H' : Hp} (h : H d = some u) (e : Same (upd H d (.frz od u)) H') : Same H (upd H' d u) := fun a v ha => by
  by_cases z : a = d
  · rw [z, h] at ha
    rw [z, upd_same]
    exact ha
  · rw [upd_ne z]
    exact e a v (by rw [upd_ne z]; exact ha)
theorem lock_in {d a : Addr} {od : Obj} {u v : HO} (z : a ≠ d) (h : H a = some v) : upd H d (.frz od u) a = some v := by rw [upd_ne z]; exact h
/-! facts on fixed objects of tuples -/
/-- F stays where objects grow, and where an object changes that is no tuple -/
structure Stb (F : Hp → Prop) : Prop where
  same : ∀ {H H2 : Hp}, Same H H2 → F H → F H2
  but : ∀ {H H2 : Hp} {d : Addr}, But d H H2 → (∀ xs, ¬ Rd H d (.tup xs)) → F H → F H2
theorem nt_lst {d : Addr} {ys : List V} (h : H d = some (.lst ys)) : ∀ xs, ¬ Rd H d (.tup xs) := fun xs z => by
  rcases z with z | ⟨o, z⟩ <;> rw [h] at z <;> cases z
theorem nt_dk {d : Addr} {kvs : DK} (h : H d = some (.dK kvs)) : ∀ xs, ¬ Rd H d (.tup xs) := fun xs z => by
  rcases z with z | ⟨o, z⟩ <;> rw [h] at z <;> cases z
theorem nt_frz {d : Addr} {o : Obj} {kvs : DK} (h : H d = some (.frz o (.dK kvs))) : ∀ xs, ¬ Rd H d (.tup xs) := fun xs z => by
  rcases z with z | ⟨o, z⟩ <;> rw [h] at z <;> cases z
theorem nt_none {d : Addr} (h : H d = none) : ∀ xs, ¬ Rd H d (.tup xs) := fun xs z => by
  rcases z with z | ⟨o, z⟩ <;> rw [h] at z <;> cases z
/-- [y for x in xs if ..] over a list or a tuple; the facts may name the new list -/
theorem lc_seqL {a : Addr} {xs : List V} {g : TG} {tt : TT} {te : TE} {vs : List Nat} (hq : Sq K H a xs) (F : Addr → Nat → List V → Hp → Prop) (hF : ∀ D i acc H H2, (∀ xs, ¬ Rd H D (.tup xs)) → But D H H2 → F D i acc H → F D i acc H2) (hz : xs.length < sizeLine) (h0 : ∀ D, H D = none → F D 0 [] H)
    (hs : ∀ D i x acc H1 (Y : V → Hp → Prop) (Z : Hp → Prop), H D = none → H1 D = some (.lst acc) → xs[i]? = some x → Same H H1 → F D i acc H1 → (∀ y H4, Same H1 H4 → F D (i + 1) (acc ++ [y]) H4 → Y y H4) → (∀ H4, Same H1 H4 → F D (i + 1) acc H4 → Z H4) →
      g x (wipe σ vs) H1 fun σ2 H2 => wipe σ2 vs = wipe σ vs ∧ tt σ2 H2 fun b H3 => if b = true then te σ2 H3 Y else Z H3)
    (hd : ∀ l H2 acc, H l = none → Same H H2 → H2 l = some (.lst acc) → acc.length ≤ xs.length → F l xs.length acc H2 → Q (.ref l) H2) :
    tLc (iSeq K fun σ H Q => Q (.ref a) H) g tt te vs σ H Q := by
  let Pv : Addr → Nat → Hp → Prop := fun D i H1 => ∃ acc, H1 D = some (.lst acc) ∧ acc.length ≤ i ∧ Same H H1 ∧ F D i acc H1
  have key : ∀ D, H D = none → ∀ i x H1, xs[i]? = some x → Pv D i H1 → g x (wipe σ vs) H1 fun σ2 H2 => wipe σ2 vs = wipe σ vs ∧ tt σ2 H2 fun b H3 =>
      if b = true then te σ2 H3 fun y H4 => ∃ acc, H4 D = some (.lst acc) ∧ acc.length < sizeLine ∧ Pv D (i + 1) (upd H4 D (.lst (acc ++ [y]))) else Pv D (i + 1) H3 := by
    rintro D hD i x H1 hx ⟨acc, hA, hl, e1, f⟩
    refine hs D i x acc H1 _ _ hD hA hx e1 f (fun y H4 e4 f4 => ?_) fun H4 e4 f4 => ?_
    · have hA4 := e4 _ _ hA
      have hi : i < xs.length := (List.getElem?_eq_some_iff.mp hx).1
      refine ⟨acc, hA4, by omega, acc ++ [y], upd_same, by rw [List.length_append]; show acc.length + 1 ≤ _; omega, Same.mut (e1.trans e4) hD, ?_⟩
      exact hF _ _ _ _ _ (nt_lst hA4) (fun b hb => upd_ne hb) f4
    · exact ⟨acc, e4 _ _ hA, by omega, e1.trans e4, f4⟩
  have hz0 : ∀ D, H D = none → Pv D 0 (upd H D (.lst [])) := fun D hD => ⟨[], upd_same, Nat.le_refl _, Same.new hD, hF _ _ _ _ _ (nt_none hD) (fun b hb => upd_ne hb) (h0 D hD)⟩
  have hdn : ∀ D, H D = none → ∀ H1, Pv D xs.length H1 → Q (.ref D) H1 := fun D hD H1 ⟨acc, h1, h2, h3, h4⟩ => hd D H1 acc hD h3 h1 h2 h4
  rcases hq with hq | hq
  · exact ⟨a, rfl, .inl ⟨⟨xs, hq⟩, fun D hD => lc_list (Pv D) (hz0 D hD) (fun i H1 _ ⟨acc, _, _, e1, _⟩ => Same.sl e1 hq) (key D hD) (hdn D hD)⟩⟩
  · exact ⟨a, rfl, .inr ⟨⟨xs, hq⟩, fun D hD => lc_tup (Pv D) (hz0 D hD) (fun i H1 _ ⟨acc, _, _, e1, _⟩ => Same.st e1 hq) (key D hD) (hdn D hD)⟩⟩
/-- .. facts on tuples -/
theorem lc_seq {a : Addr} {xs : List V} {g : TG} {tt : TT} {te : TE} {vs : List Nat} (hq : Sq K H a xs) (F : Nat → List V → Hp → Prop) (hF : ∀ i acc, Stb (F i acc)) (hz : xs.length < sizeLine) (h0 : F 0 [] H)
    (hs : ∀ i x acc H1 (Y : V → Hp → Prop) (Z : Hp → Prop), xs[i]? = some x → Same H H1 → F i acc H1 → (∀ y H4, Same H1 H4 → F (i + 1) (acc ++ [y]) H4 → Y y H4) → (∀ H4, Same H1 H4 → F (i + 1) acc H4 → Z H4) →
      g x (wipe σ vs) H1 fun σ2 H2 => wipe σ2 vs = wipe σ vs ∧ tt σ2 H2 fun b H3 => if b = true then te σ2 H3 Y else Z H3)
    (hd : ∀ l H2 acc, H l = none → Same H H2 → H2 l = some (.lst acc) → acc.length ≤ xs.length → F xs.length acc H2 → Q (.ref l) H2) :
    tLc (iSeq K fun σ H Q => Q (.ref a) H) g tt te vs σ H Q :=
  lc_seqL hq (fun _ => F) (fun _ i acc _ _ n b f => (hF i acc).but b n f) hz (fun _ _ => h0) (fun _ i x acc H1 Y Z _ _ => hs i x acc H1 Y Z) hd
/-- .. over a range -/
theorem lc_rng {n : Nat} {g : TG} {tt : TT} {te : TE} {vs : List Nat} {wi : TI} (F : Addr → Nat → List V → Hp → Prop) (hF : ∀ D i acc H H2, (∀ xs, ¬ Rd H D (.tup xs)) → But D H H2 → F D i acc H → F D i acc H2) (hz : n < sizeLine) (h0 : ∀ D, H D = none → F D 0 [] H) (hwi : ∀ R : It → Hp → Prop, R (Itr 0 n) H → wi σ H R)
    (hs : ∀ D i acc H1 (Y : V → Hp → Prop) (Z : Hp → Prop), H D = none → H1 D = some (.lst acc) → i < n → Same H H1 → F D i acc H1 → (∀ y H4, Same H1 H4 → F D (i + 1) (acc ++ [y]) H4 → Y y H4) → (∀ H4, Same H1 H4 → F D (i + 1) acc H4 → Z H4) →
      g (.int (i : Int)) (wipe σ vs) H1 fun σ2 H2 => wipe σ2 vs = wipe σ vs ∧ tt σ2 H2 fun b H3 => if b = true then te σ2 H3 Y else Z H3)
    (hd : ∀ l H2 acc, H l = none → Same H H2 → H2 l = some (.lst acc) → acc.length ≤ n → F l n acc H2 → Q (.ref l) H2) :
    tLc wi g tt te vs σ H Q := by
  refine hwi _ fun D hD => ?_
  refine lc_range (lo := 0) (n := n) (fun i H1 => ∃ acc, H1 D = some (.lst acc) ∧ acc.length ≤ i ∧ Same H H1 ∧ F D i acc H1) ⟨[], upd_same, Nat.le_refl _, Same.new hD, hF _ _ _ _ _ (nt_none hD) (fun b hb => upd_ne hb) (h0 D hD)⟩ ?_ fun H1 ⟨acc, h1, h2, h3, h4⟩ => hd D H1 acc hD h3 h1 h2 h4
  rintro i H1 hi ⟨acc, hA, hl, e1, f⟩
  rw [Int.zero_add]
  refine hs D i acc H1 _ _ hD hA hi e1 f (fun y H4 e4 f4 => ?_) fun H4 e4 f4 => ?_
  · have hA4 := e4 _ _ hA
    refine ⟨acc, hA4, by omega, acc ++ [y], upd_same, by rw [List.length_append]; show acc.length + 1 ≤ _; omega, Same.mut (e1.trans e4) hD, ?_⟩
    exact hF _ _ _ _ _ (nt_lst hA4) (fun b hb => upd_ne hb) f4
  · exact ⟨acc, e4 _ _ hA, by omega, e1.trans e4, f4⟩
/-- .. over the keys of a dict -/
theorem lc_dk {a : Addr} {kvs : DK} {g : TG} {tt : TT} {te : TE} {vs : List Nat} (hq : H a = some (.dK kvs)) (F : Nat → List V → Hp → Prop) (hF : ∀ i acc, Stb (F i acc)) (hz : kvs.length < sizeLine) (h0 : F 0 [] H)
    (hs : ∀ i k v acc H1 (Y : V → Hp → Prop) (Z : Hp → Prop), kvs[i]? = some (k, v) → Rd H1 a (.dK kvs) → F i acc H1 → (∀ y H4, Same H1 H4 → F (i + 1) (acc ++ [y]) H4 → Y y H4) → (∀ H4, Same H1 H4 → F (i + 1) acc H4 → Z H4) →
      g (kV k) (wipe σ vs) H1 fun σ2 H2 => wipe σ2 vs = wipe σ vs ∧ tt σ2 H2 fun b H3 => if b = true then te σ2 H3 Y else Z H3)
    (hd : ∀ l H2 acc, H l = none → Same H H2 → H2 l = some (.lst acc) → acc.length ≤ kvs.length → F kvs.length acc H2 → Q (.ref l) H2) :
    tLockE (tLc (iKeys fun σ H Q => Q (.ref a) H) g tt te vs) σ H Q := by
  refine ⟨a, _, hq, trivial, fun od => ?_⟩
  let Hf := upd H a (.frz od (.dK kvs))
  have hf : Hf a = some (.frz od (.dK kvs)) := upd_same
  refine ⟨a, od, rfl, .inl ⟨kvs, hf, fun D hD => ?_⟩⟩
  have nD : D ≠ a := fun z => by rw [z] at hD; exact nomatch (hf.symm.trans hD)
  have hD0 : H D = none := by
    have : Hf D = H D := upd_ne nD
    rw [← this]; exact hD
  have f0 : F 0 [] Hf := (hF _ _).but (fun b hb => upd_ne hb) (nt_dk hq) h0
  refine ⟨fun i m H1 => m = kvs.length - i ∧ i ≤ kvs.length ∧ ∃ acc, H1 D = some (.lst acc) ∧ acc.length ≤ i ∧ Same Hf H1 ∧ F i acc H1,
    ⟨kvs.length, by simp, Nat.zero_le _, [], upd_same, Nat.le_refl _, Same.new hD, (hF _ _).but (fun b hb => upd_ne hb) (nt_none hD) f0⟩, ?_⟩
  rintro i m H1 ⟨rfl, hi, acc, hA, hl, e1, f⟩
  have h1 := e1 _ _ hf
  by_cases hlt : i < kvs.length
  · refine .inr ⟨⟨h1, hlt⟩, fun H' => i + 1 ≤ kvs.length ∧ ∃ acc, H' D = some (.lst acc) ∧ acc.length ≤ i + 1 ∧ Same Hf H' ∧ F (i + 1) acc H', fun H' p' => ⟨kvs.length - (i + 1), by omega, rfl, p'⟩, fun x H' y => ?_⟩
    obtain ⟨rfl, k, v, hk, rfl⟩ := y
    refine hs i k v acc _ _ _ hk (.inr ⟨od, h1⟩) f (fun y H4 e4 f4 => ?_) fun H4 e4 f4 => ?_
    · have hA4 := e4 _ _ hA
      refine ⟨acc, hA4, by omega, hlt, acc ++ [y], upd_same, by rw [List.length_append]; show acc.length + 1 ≤ _; omega, Same.mut (e1.trans e4) hD, ?_⟩
      exact (hF _ _).but (fun b hb => upd_ne hb) (nt_lst hA4) f4
    · exact ⟨hlt, acc, e4 _ _ hA, by omega, e1.trans e4, f4⟩
  · have e : i = kvs.length := by omega
    subst e
    refine .inl ⟨⟨h1, Nat.le_refl _⟩, h1, ?_⟩
    refine hd D _ acc hD0 (lock_same hq e1) (by rw [upd_ne nD]; exact hA) hl ?_
    exact (hF _ _).but (fun b hb => upd_ne hb) (nt_frz h1) f
theorem w_lc {tl : TE} {g : TG} {tt : TT} {te : TE} {vs : List Nat} (q : tl σ H fun x H1 => tLc (iSeq K fun _ H Q => Q x H) g tt te vs σ H1 Q) : tLc (iSeq K tl) g tt te vs σ H Q := q
theorem w_lcd {i : Nat} {a : Addr} {g : TG} {tt : TT} {te : TE} {vs : List Nat} (h : σ[i]? = some (some (.ref a))) (q : tLockE (tLc (iKeys fun _ H Q => Q (.ref a) H) g tt te vs) σ H Q) : tLockE (tLc (iKeys (tVar i)) g tt te vs) σ H Q := by
  obtain ⟨d, u, h1, h2, h3⟩ := q
  exact ⟨d, u, h1, h2, fun od => ⟨_, h, h3 od⟩⟩
/-- {k: v} -/
theorem w_disp {tk tv : TE} (q : ∀ p, H p = none → tk σ (upd H p (.dK [])) fun x H1 => tv σ H1 fun y H2 => H2 p = some (.dK []) ∧ ∃ kvs : DK, [(x, y)] = kvs.map (fun kv => (kV kv.1, kv.2)) ∧ kvs.length ≤ 15 ∧ Q (.ref p) (upd H2 p (.dK (mergeK [] kvs)))) : tDisp [(tk, tv)] σ H Q := q
theorem w_dispE {p : Addr} {s : Int} {v : V} (hp : H p = none) (q : ∀ H3, Same H H3 → H3 p = some (.dK [(Sum.inl s, v)]) → Q (.ref p) H3) :
    (upd H p (.dK [])) p = some (.dK []) ∧ ∃ kvs : DK, [(V.int s, v)] = kvs.map (fun kv => (kV kv.1, kv.2)) ∧ kvs.length ≤ 15 ∧ Q (.ref p) (upd (upd H p (.dK [])) p (.dK (mergeK [] kvs))) :=
  ⟨upd_same, [(Sum.inl s, v)], rfl, (by decide : 1 ≤ 15), q _ (Same.mut (Same.new hp) hp) upd_same⟩
end
theorem pe_disp1 {X : Cx} {pos : Pos} {k v : Expr} {tk tv : TE} (h : PPs X pos [some k] [v] [(tk, tv)]) : PE X (.Dict [some k] [v] pos) (tDisp [(tk, tv)]) := pe_disp h rfl rfl (by simp) (show 1 ≤ 15 by decide)
/-! rules within a comprehension: K is named -/
section
variable {X : Cx} {K : PySem.W.Frag}
theorem op_neAK (hK : X.K = K) (hu : X.A.units + 64 < cLine) : OpR X (compareOp .NotEq) (rNeA K) := hK ▸ op_neA hu
theorem op_eqAK (hK : X.K = K) (hu : X.A.units + 64 < cLine) : OpR X (compareOp .Eq) (rEqA K) := hK ▸ op_eqA hu
theorem op_addAK (hK : X.K = K) : OpR X (binaryOp .Add) (rAddA K) := hK ▸ op_addA
theorem ix_seqK (hK : X.K = K) : IxR X (rIx K) := hK ▸ ix_seq
theorem sl_listAK (hK : X.K = K) : SlR X (rSlQ K) := hK ▸ sl_listA
theorem call_lenAK (hK : X.K = K) : CallR X (.builtin "len") (rLen K) := hK ▸ call_lenA
theorem call_isAK (hK : X.K = K) : CallR X (.builtin "isinstance") (rIsA K) := hK ▸ call_isA
theorem call_listAK (hK : X.K = K) : CallR X (.type "list") (rListA K) := hK ▸ call_listA
theorem call_tupleAK (hK : X.K = K) : CallR X (.type "tuple") (rTupleA K) := hK ▸ call_tupleA
theorem cr_sortAK (hK : X.K = K) : CallR X (.builtin "sorted") (rSortA K) := hK ▸ cr_sortA
end
theorem w_yes {te : TE} {σ : L2.St} {H : Hp} {Y : VK} {Z : Hp → Prop} (q : te σ H Y) : tYes σ H fun b H3 => if b = true then te σ H3 Y else Z H3 := (show (if true = true then te σ H Y else Z H) from (by rw [if_pos rfl]; exact q))
/-! for k in d -/
theorem for_keys {σ : L2.St} {H : Hp} {D : Ends} {g : TG} {tb : TS} {b : Addr} {o : Obj} {kvs : DK} (B : Hp) (hB : B b = some (.frz o (.dK kvs))) (Pv : Nat → L2.St → Hp → Prop) (h0 : Pv 0 σ H) (hl : ∀ i σ H, Pv i σ H → Same B H)
    (hs : ∀ i k v σ H, kvs[i]? = some (k, v) → Pv i σ H → g (kV k) σ H fun σ2 H2 => tb { D with nx := Pv (i + 1), ct := Pv (i + 1), bk := D.nx } σ2 H2) (hd : ∀ σ H, Pv kvs.length σ H → D.nx σ H) :
    ∃ d o', V.ref b = .ref d ∧ ((∃ kvs, H d = some (.frz o' (.dK kvs)) ∧ ForW (Itk d o' kvs) g tb D σ H) ∨ ∃ kvs, H d = some (.frz o' (.dT kvs)) ∧ ForW (Itkt d o' kvs) g tb D σ H) := by
  refine ⟨b, o, rfl, .inl ⟨kvs, hl 0 σ H h0 _ _ hB, fun i m σ H => m = kvs.length - i ∧ i ≤ kvs.length ∧ Pv i σ H, ⟨kvs.length, by simp, Nat.zero_le _, h0⟩, ?_⟩⟩
  rintro i m σ H ⟨rfl, hi, p⟩
  have hb := hl i σ H p _ _ hB
  by_cases hlt : i < kvs.length
  · refine .inr ⟨⟨hb, hlt⟩, Pv (i + 1), fun σ' H' p' => ⟨kvs.length - (i + 1), by omega, rfl, hlt, p'⟩, fun x H' y => ?_⟩
    obtain ⟨e, k, v, hk, rfl⟩ := y
    subst e
    exact hs i k v σ _ hk p
  · have e : i = kvs.length := by omega
    subst e
    exact .inl ⟨⟨hb, Nat.le_refl _⟩, hd σ H p⟩
theorem w_keys {td : TE} {σ : L2.St} {H : Hp} {R : It → Hp → Prop} (q : td σ H fun x H1 => ∃ d o, x = .ref d ∧ ((∃ kvs, H1 d = some (.frz o (.dK kvs)) ∧ R (Itk d o kvs) H1) ∨ ∃ kvs, H1 d = some (.frz o (.dT kvs)) ∧ R (Itkt d o kvs) H1)) : iKeys td σ H R := q
/-- a loop over a dict that is open -/
theorem w_lock {t : TS} {D : Ends} {σ : L2.St} {H : Hp} {d : Addr} {kvs : DK} (h : H d = some (.dK kvs)) (q : ∀ od, t ⟨fun σ' H' => H' d = some (.frz od (.dK kvs)) ∧ D.nx σ' (upd H' d (.dK kvs)), fun v H' => H' d = some (.frz od (.dK kvs)) ∧ D.rt v (upd H' d (.dK kvs)), fun σ' H' => H' d = some (.frz od (.dK kvs)) ∧ D.bk σ' (upd H' d (.dK kvs)), fun σ' H' => H' d = some (.frz od (.dK kvs)) ∧ D.ct σ' (upd H' d (.dK kvs))⟩ σ (upd H d (.frz od (.dK kvs)))) : tLockM t D σ H := .inr ⟨d, _, h, trivial, q⟩
theorem w_nolock {t : TS} {D : Ends} {σ : L2.St} {H : Hp} (q : t D σ H) : tLockM t D σ H := .inl q
theorem dk_get {R : List Pr} {i : Nat} {k : Key} {v : V} (h : (dk R)[i]? = some (k, v)) : ∃ p, R[i]? = some p ∧ k = Sum.inl p.1 ∧ v = .int p.2 := by
  unfold dk at h
  rw [List.getElem?_map] at h
  cases e : R[i]? with
  | none => rw [e] at h; cases h
  | some p => rw [e] at h; cases h; exact ⟨p, rfl, rfl, rfl⟩
theorem w_items {te : TE} {σ : L2.St} {H : Hp} {Q : VK} (q : te σ H fun x H1 => LiI.rItemsL x H1 Q) : LiI.tListItems te σ H Q := q
theorem for_keysR {σ : L2.St} {H : Hp} {D : Ends} {g : TG} {tb : TS} {b : Addr} {o : Obj} {R : List Pr} (B : Hp) (hB : B b = some (.frz o (.dK (dk R)))) (Pv : Nat → L2.St → Hp → Prop) (h0 : Pv 0 σ H) (hl : ∀ i σ H, Pv i σ H → Same B H)
    (hs : ∀ i p σ H, R[i]? = some p → Pv i σ H → g (.int p.1) σ H fun σ2 H2 => tb { D with nx := Pv (i + 1), ct := Pv (i + 1), bk := D.nx } σ2 H2) (hd : ∀ σ H, Pv R.length σ H → D.nx σ H) :
    ∃ d o', V.ref b = .ref d ∧ ((∃ kvs, H d = some (.frz o' (.dK kvs)) ∧ ForW (Itk d o' kvs) g tb D σ H) ∨ ∃ kvs, H d = some (.frz o' (.dT kvs)) ∧ ForW (Itkt d o' kvs) g tb D σ H) := by
  refine for_keys B hB Pv h0 hl (fun i k v σ H hk hp => ?_) (fun σ H p => hd σ H (by rw [length_dk] at p; exact p))
  obtain ⟨p, h1, rfl, rfl⟩ := dk_get hk
  exact hs i p σ H h1 hp
theorem same_upd {H H1 : Hp} {a : Addr} {u : HO} (e : Same H H1) : Same (upd H a u) (upd H1 a u) := fun b v hb => by
  by_cases z : b = a
  · rw [z, upd_same] at hb
    rw [z, upd_same]
    exact hb
  · rw [upd_ne z] at hb
    rw [upd_ne z]
    exact e b v hb
end JP
set_option Elab.async false
set_option linter.all false
set_option maxRecDepth 100000
set_option maxHeartbeats 4000000
namespace JP
open PySem PySem.Spec PyProof.Rows L2
/-! polynomials in the heap -/
def EV (K : PySem.W.Frag) (H : Hp) (v : V) (p : Pr) : Prop := ∃ a, v = .ref a ∧ Sq K H a [.int p.1, .int p.2]
def ET (K : PySem.W.Frag) (H : Hp) (v : V) (p : Pr) : Prop := ∃ a, v = .ref a ∧ SqT K H a [.int p.1, .int p.2]
def EL (H : Hp) (v : V) (p : Pr) : Prop := ∃ a, v = .ref a ∧ H a = some (.lst [.int p.1, .int p.2])
/-- a list or a tuple of pairs -/
def PV (K : PySem.W.Frag) (H : Hp) (v : V) (ps : List Pr) : Prop := ∃ a vs, v = .ref a ∧ Sq K H a vs ∧ Paired (EV K H) vs ps
def pt (p : Pr) : PyData := .tuple [.int p.1, .int p.2]
def pl (p : Pr) : PyData := .list [.int p.1, .int p.2]
/-- a tuple of tuples -/
def PT (K : PySem.W.Frag) (H : Hp) (v : V) (ps : List Pr) : Prop := ∃ a vs, v = .ref a ∧ SqT K H a vs ∧ Paired (ET K H) vs ps
/-- a list of lists -/
def PLL (H : Hp) (a : Addr) (ps : List Pr) : Prop := ∃ vs, H a = some (.lst vs) ∧ Paired (EL H) vs ps
theorem paired_imp {α β : Type} {F G : α → β → Prop} (h : ∀ a b, F a b → G a b) : ∀ {xs : List α} {ys : List β}, Paired F xs ys → Paired G xs ys
  | _, _, .nil => .nil
  | _, _, .cons r t => .cons (h _ _ r) (paired_imp h t)
theorem paired_snoc {α β : Type} {F : α → β → Prop} {a : α} {b : β} (r : F a b) : ∀ {xs : List α} {ys : List β}, Paired F xs ys → Paired F (xs ++ [a]) (ys ++ [b])
  | _, _, .nil => .cons r .nil
  | _, _, .cons r' t => .cons r' (paired_snoc r t)
theorem paired_app {α β : Type} {F : α → β → Prop} : ∀ {xs : List α} {ys : List β} {xs' : List α} {ys' : List β}, Paired F xs ys → Paired F xs' ys' → Paired F (xs ++ xs') (ys ++ ys')
  | _, _, _, _, .nil, h => h
  | _, _, _, _, .cons r' t, h => .cons r' (paired_app t h)
theorem paired_len {α β : Type} {F : α → β → Prop} : ∀ {xs : List α} {ys : List β}, Paired F xs ys → xs.length = ys.length
  | _, _, .nil => rfl
  | _, _, .cons _ t => congrArg (· + 1) (paired_len t)
theorem paired_at {α β : Type} {F : α → β → Prop} : ∀ {xs : List α} {ys : List β}, Paired F xs ys → ∀ {i : Nat} {x : α}, xs[i]? = some x → ∃ y, ys[i]? = some y ∧ F x y := fun h _ _ e => LiI.paired_get h e
theorem paired_take {α β : Type} {F : α → β → Prop} : ∀ {xs : List α} {ys : List β} (n : Nat), Paired F xs ys → Paired F (xs.take n) (ys.take n)
  | _, _, 0, _ => by rw [List.take_zero, List.take_zero]; exact .nil
  | _, _, n + 1, .nil => by rw [List.take_nil, List.take_nil]; exact .nil
  | _, _, n + 1, .cons r t => by rw [List.take_succ_cons, List.take_succ_cons]; exact .cons r (paired_take n t)
section
variable {K : PySem.W.Frag} {H H' : Hp}
theorem ET.ev {v : V} {p : Pr} (h : ET K H v p) : EV K H v p := by obtain ⟨a, e, h⟩ := h; exact ⟨a, e, .inr h⟩
theorem EL.ev {v : V} {p : Pr} (h : EL H v p) : EV K H v p := by obtain ⟨a, e, h⟩ := h; exact ⟨a, e, .inl (SqL.of h)⟩
theorem PT.pv {v : V} {ps : List Pr} (h : PT K H v ps) : PV K H v ps := by
  obtain ⟨a, vs, e, h1, h2⟩ := h
  exact ⟨a, vs, e, .inr h1, paired_imp (fun _ _ => ET.ev) h2⟩
theorem PLL.pv {a : Addr} {ps : List Pr} (h : PLL H a ps) : PV K H (.ref a) ps := by
  obtain ⟨vs, h1, h2⟩ := h
  exact ⟨a, vs, rfl, .inl (SqL.of h1), paired_imp (fun _ _ => EL.ev) h2⟩
theorem Same.ev {v : V} {p : Pr} (e : Same H H') (h : EV K H v p) : EV K H' v p := by obtain ⟨a, e1, h⟩ := h; exact ⟨a, e1, Same.sq e h⟩
theorem Same.et {v : V} {p : Pr} (e : Same H H') (h : ET K H v p) : ET K H' v p := by obtain ⟨a, e1, h⟩ := h; exact ⟨a, e1, Same.st e h⟩
theorem Same.el {v : V} {p : Pr} (e : Same H H') (h : EL H v p) : EL H' v p := by obtain ⟨a, e1, h⟩ := h; exact ⟨a, e1, e _ _ h⟩
theorem Same.evs {vs : List V} {ps : List Pr} (e : Same H H') (h : Paired (EV K H) vs ps) : Paired (EV K H') vs ps := paired_imp (fun _ _ => Same.ev e) h
theorem Same.ets {vs : List V} {ps : List Pr} (e : Same H H') (h : Paired (ET K H) vs ps) : Paired (ET K H') vs ps := paired_imp (fun _ _ => Same.et e) h
theorem Same.els {vs : List V} {ps : List Pr} (e : Same H H') (h : Paired (EL H) vs ps) : Paired (EL H') vs ps := paired_imp (fun _ _ => Same.el e) h
theorem Same.pv {v : V} {ps : List Pr} (e : Same H H') (h : PV K H v ps) : PV K H' v ps := by obtain ⟨a, vs, e1, h1, h2⟩ := h; exact ⟨a, vs, e1, Same.sq e h1, Same.evs e h2⟩
theorem Same.pt {v : V} {ps : List Pr} (e : Same H H') (h : PT K H v ps) : PT K H' v ps := by obtain ⟨a, vs, e1, h1, h2⟩ := h; exact ⟨a, vs, e1, Same.st e h1, Same.ets e h2⟩
theorem Same.pll {a : Addr} {ps : List Pr} (e : Same H H') (h : PLL H a ps) : PLL H' a ps := by obtain ⟨vs, h1, h2⟩ := h; exact ⟨vs, e _ _ h1, Same.els e h2⟩
theorem But.et {l : Addr} {v : V} {p : Pr} (b : But l H H') (n : ∀ xs, ¬ Rd H l (.tup xs)) (h : ET K H v p) : ET K H' v p := by
  obtain ⟨a, e, h⟩ := h
  refine ⟨a, e, ?_⟩
  rcases h with h | h
  · have z : a ≠ l := fun z => n _ (z ▸ h)
    refine .inl ?_
    rcases h with h | ⟨o, h⟩
    · exact .inl (by rw [b a z]; exact h)
    · exact .inr ⟨o, by rw [b a z]; exact h⟩
  · exact .inr h
theorem stb_et (vs : List V) (ps : List Pr) : Stb fun H => Paired (ET K H) vs ps := ⟨fun e h => Same.ets e h, fun b n h => paired_imp (fun _ _ => But.et b n) h⟩
theorem Stb.of {F G : Hp → Prop} (f : Stb F) (h : ∀ H, F H ↔ G H) : Stb G := ⟨fun e g => (h _).mp (f.same e ((h _).mpr g)), fun b n g => (h _).mp (f.but b n ((h _).mpr g))⟩
theorem stb_and {p : Prop} {F : Hp → Prop} (f : Stb F) : Stb fun H => p ∧ F H := ⟨fun e h => ⟨h.1, f.same e h.2⟩, fun b n h => ⟨h.1, f.but b n h.2⟩⟩
theorem tr_pv {v : V} {ps : List Pr} (H : Hp) (e : Same H H') (h : PV K H v ps) : PV K H' v ps := Same.pv e h
theorem tr_pt {v : V} {ps : List Pr} (H : Hp) (e : Same H H') (h : PT K H v ps) : PT K H' v ps := Same.pt e h
theorem tr_pll {a : Addr} {ps : List Pr} (H : Hp) (e : Same H H') (h : PLL H a ps) : PLL H' a ps := Same.pll e h
end
/-! small weights -/
def Wb (b : Nat) (ps : List Pr) : Prop := wt ps < 2 ^ b
theorem Wb.mem {b : Nat} {ps : List Pr} {p : Pr} (h : Wb b ps) (m : p ∈ ps) : p.2.natAbs < 2 ^ b := Nat.lt_of_le_of_lt (wt_in m) h
theorem cf_take_succ (ps : List Pr) (i : Nat) (p : Pr) (h : ps[i]? = some p) (u : Int) : cf (ps.take (i + 1)) u = cf (ps.take i) u + if p.1 = u then p.2 else 0 := by
  rw [List.take_add_one, h, cf_append]
  show cf (ps.take i) u + cf [p] u = _
  simp [cf]
/-! rows of products -/
def row (a : Pr) (q : List Pr) : List Pr := q.map fun b => (a.1 + b.1, a.2 * b.2)
theorem prd_take_succ (ps qs : List Pr) (i : Nat) (p : Pr) (h : ps[i]? = some p) : prd (ps.take (i + 1)) qs = prd (ps.take i) qs ++ row p qs := by
  unfold prd
  rw [List.take_add_one, h, List.flatMap_append]
  show _ = _ ++ row p qs
  simp [row]
theorem cf_row_succ (A : List Pr) (p : Pr) (qs : List Pr) (j : Nat) (q : Pr) (h : qs[j]? = some q) (u : Int) : cf (A ++ (row p qs).take (j + 1)) u = cf (A ++ (row p qs).take j) u + if p.1 + q.1 = u then p.2 * q.2 else 0 := by
  have e : (row p qs)[j]? = some (p.1 + q.1, p.2 * q.2) := by unfold row; rw [List.getElem?_map, h]; rfl
  rw [cf_append, cf_append, cf_take_succ _ _ _ e]
  omega
theorem length_row (p : Pr) (qs : List Pr) : (row p qs).length = qs.length := List.length_map ..
theorem ggcd_drop (R : List Pr) (i : Nat) (p : Pr) (h : R[i]? = some p) (g : Nat) : ggcd (R.drop i) g = ggcd (R.drop (i + 1)) (Nat.gcd g p.2.natAbs) := by
  obtain ⟨h1, h2⟩ := List.getElem?_eq_some_iff.mp h
  rw [List.drop_eq_getElem_cons h1, h2]
  rfl
theorem last_at {R : List Pr} (h : R ≠ []) : R[R.length - 1]? = some (R.getLastD (0, 0)) := by
  rw [← List.getLast?_eq_getElem?, List.getLastD_eq_getLast?]
  cases e : R.getLast? with
  | none => exact absurd (List.getLast?_eq_none_iff.mp e) h
  | some a => rfl
theorem atI_last' {α : Type} {xs : List α} {v : α} (h : xs[xs.length - 1]? = some v) : atI xs (-1) = some v := by
  rw [← List.getLast?_eq_getElem?] at h
  obtain ⟨ys, rfl⟩ := List.getLast?_eq_some_iff.mp h
  exact atI_last _ _
theorem getLastD_mem {R : List Pr} (h : R ≠ []) : R.getLastD (0, 0) ∈ R := List.mem_of_getElem? (last_at h)
theorem head_at {R : List Pr} (h : R ≠ []) : R[0]? = some (R.headD (0, 0)) := by
  cases R with
  | nil => exact absurd rfl h
  | cons a r => rfl
theorem headD_mem {R : List Pr} (h : R ≠ []) : R.headD (0, 0) ∈ R := List.mem_of_getElem? (head_at h)
theorem paired_bt {α β : Type} {F : α → β → Prop} : ∀ {xs : List α} {ys : List β}, Paired F xs ys → ∀ {i : Nat} {y : β}, ys[i]? = some y → ∃ x, xs[i]? = some x ∧ F x y
  | _, _, .cons r _, 0, _, h => by cases h; exact ⟨_, rfl, r⟩
  | _, _, .cons _ t, i + 1, _, h => paired_bt t h
/-! the items of a dict -/
theorem items_ets {K : PySem.W.Frag} {H : Hp} : ∀ {ts : List Addr} {R : List Pr}, Paired (fun (t : Addr) (q : Key × V) => H t = some (.tup [kV q.1, q.2])) ts (dk R) → Paired (ET K H) (ts.map V.ref) R
  | [], [], _ => .nil
  | [], _ :: _, h => by cases h
  | _ :: _, [], h => by cases h
  | t :: ts, p :: R, h => by
    cases h with
    | cons h1 h2 => exact .cons ⟨t, rfl, SqT.of h1⟩ (items_ets h2)
def tkp (ks : List Int) (f : Int → Int) : List Pr := ks.map fun s => (s, f s)
theorem tk_tkp (ks : List Int) (f : Int → Int) : tk ks f = dk (tkp ks f) := by
  unfold tk dk tkp
  rw [List.map_map]
  rfl
theorem cf_tkp {ks : List Int} {f : Int → Int} (t : Tal ks f) (s : Int) : cf (tkp ks f) s = f s := by
  have key : ∀ ks : List Int, ks.Nodup → cf (tkp ks f) s = if s ∈ ks then f s else 0 := by
    intro ks
    induction ks with
    | nil => intro _; rfl
    | cons k r ih =>
      intro h
      obtain ⟨h1, h2⟩ := List.nodup_cons.mp h
      show (if k = s then f k else 0) + cf (tkp r f) s = _
      rw [ih h2]
      by_cases e : k = s
      · rw [if_pos e, if_neg (e ▸ h1), if_pos (e ▸ List.mem_cons_self), e]
        omega
      · rw [if_neg e]
        by_cases m : s ∈ r
        · rw [if_pos m, if_pos (List.mem_cons_of_mem _ m)]; omega
        · rw [if_neg m, if_neg (by simp only [List.mem_cons, not_or]; exact ⟨fun z => e z.symm, m⟩)]; rfl
  rw [key ks t.nd]
  split
  · rfl
  · rename_i h
    rw [t.out s h]
/-- c times -/
def sc (c : Int) (S : List Pr) : List Pr := S.map fun p => (p.1, c * p.2)
theorem cf_sc (c : Int) (S : List Pr) (s : Int) : cf (sc c S) s = c * cf S s := by
  induction S with
  | nil => simp [sc, cf]
  | cons p r ih =>
    show (if p.1 = s then c * p.2 else 0) + cf (sc c r) s = c * ((if p.1 = s then p.2 else 0) + cf r s)
    rw [ih, Int.mul_add]
    split <;> simp
theorem length_sc (c : Int) (S : List Pr) : (sc c S).length = S.length := List.length_map ..
/-! as data -/
def PrD (d : PyData) (p : Pr) : Prop := d = pt p ∨ d = pl p
/-- d is a form of the pairs ps -/
def PD (d : PyData) (ps : List Pr) : Prop := ∃ ds, (d = .list ds ∨ d = .tuple ds) ∧ Paired PrD ds ps
theorem prd_lay : ∀ {ds : List PyData} {ps : List Pr}, Paired PrD ds ps → PyData.canLayAll0 ds = true ∧ PyData.depthAll ds ≤ 1
  | _, _, .nil => ⟨rfl, Nat.zero_le _⟩
  | d :: ds, p :: ps, .cons h t => by
    obtain ⟨a, b⟩ := prd_lay t
    have h1 : d.canLay0 = true ∧ d.depth ≤ 1 := by
      rcases h with rfl | rfl
      · exact ⟨rfl, Nat.le_refl _⟩
      · exact ⟨rfl, Nat.le_refl _⟩
    refine ⟨?_, ?_⟩
    · show (d.canLay0 && PyData.canLayAll0 ds) = true
      rw [h1.1, a]; rfl
    · show max d.depth (PyData.depthAll ds) ≤ 1
      omega
theorem PD.shaped {d : PyData} {ps : List Pr} (h : PD d ps) : SeqAt.shaped d = true ∧ d.canLay0 = true := by
  obtain ⟨ds, h, hp⟩ := h
  obtain ⟨a, b⟩ := prd_lay hp
  have key : d.canLay0 = true ∧ d.depth ≤ 64 := by
    rcases h with rfl | rfl
    · exact ⟨a, by show PyData.depthAll ds + 1 ≤ 64; omega⟩
    · exact ⟨a, by show PyData.depthAll ds + 1 ≤ 64; omega⟩
  refine ⟨?_, key.1⟩
  unfold SeqAt.shaped
  rw [key.1, decide_eq_true key.2]
  rfl
theorem pd_pt (R : List Pr) : PD (.tuple (R.map pt)) R := by
  refine ⟨_, .inr rfl, ?_⟩
  induction R with
  | nil => exact .nil
  | cons p r ih => exact .cons (.inl rfl) ih
theorem ets_dp {K : PySem.W.Frag} {H : Hp} : ∀ {vs : List V} {R : List Pr}, Paired (ET K H) vs R → DpAll K H vs (R.map pt)
  | _, _, .nil => .nil
  | _, _, .cons h t => by
    obtain ⟨a, rfl, h⟩ := h
    exact .cons (.tup h (.cons (.int _) (.cons (.int _) .nil))) (ets_dp t)
theorem PT.dp {K : PySem.W.Frag} {H : Hp} {v : V} {R : List Pr} (h : PT K H v R) : Dp K H v (.tuple (R.map pt)) := by
  obtain ⟨a, vs, rfl, h1, h2⟩ := h
  exact .tup h1 (ets_dp h2)
theorem dpa_evs {K : PySem.W.Frag} {H : Hp} : ∀ {ds : List PyData} {ps : List Pr} {vs : List V}, Paired PrD ds ps → DpAll K H vs ds → Paired (EV K H) vs ps
  | [], [], _, _, h => by cases h; exact .nil
  | [], _ :: _, _, h, _ => by cases h
  | _ :: _, [], _, h, _ => by cases h
  | d :: ds, p :: ps, _, h, q => by
    cases h with
    | cons h t =>
      cases q with
      | cons q r =>
        refine .cons ?_ (dpa_evs t r)
        rcases h with rfl | rfl
        · cases q with
          | tup hs ha =>
            cases ha with
            | cons h1 ha => cases ha with
              | cons h2 ha => cases ha; cases h1; cases h2; exact ⟨_, rfl, .inr hs⟩
        · cases q with
          | lst hs ha =>
            cases ha with
            | cons h1 ha => cases ha with
              | cons h2 ha => cases ha; cases h1; cases h2; exact ⟨_, rfl, .inl hs⟩
theorem PD.pv {K : PySem.W.Frag} {H : Hp} {v : V} {d : PyData} {ps : List Pr} (h : PD d ps) (q : Dp K H v d) : PV K H v ps := by
  obtain ⟨ds, h | h, hp⟩ := h
  · subst h
    cases q with
    | lst hs ha => exact ⟨_, _, rfl, .inl hs, dpa_evs hp ha⟩
  · subst h
    cases q with
    | tup hs ha => exact ⟨_, _, rfl, .inr hs, dpa_evs hp ha⟩
theorem asc_max {R : List Pr} (a : Asc R) {m : Int} (hm : m ∈ R.map (·.1)) (h : ∀ y ∈ R.map (·.1), y ≤ m) : m = (R.getLastD (0, 0)).1 := by
  have hn : R ≠ [] := fun z => by rw [z] at hm; cases hm
  have h1 := h _ (List.mem_map_of_mem (getLastD_mem hn))
  obtain ⟨p, hp, rfl⟩ := List.mem_map.mp hm
  obtain ⟨i, hi, rfl⟩ := List.mem_iff_getElem.mp hp
  obtain ⟨hj, e⟩ := List.getElem?_eq_some_iff.mp (last_at hn)
  by_cases z : i = R.length - 1
  · subst z
    rw [e]
  · have := List.pairwise_iff_getElem.mp a i (R.length - 1) hi hj (by omega)
    rw [e] at this
    omega
theorem asc_min {R : List Pr} (a : Asc R) {m : Int} (hm : m ∈ R.map (·.1)) (h : ∀ y ∈ R.map (·.1), m ≤ y) : m = (R.headD (0, 0)).1 := by
  have hn : R ≠ [] := fun z => by rw [z] at hm; cases hm
  have h1 := h _ (List.mem_map_of_mem (headD_mem hn))
  obtain ⟨p, hp, rfl⟩ := List.mem_map.mp hm
  obtain ⟨i, hi, rfl⟩ := List.mem_iff_getElem.mp hp
  obtain ⟨hj, e⟩ := List.getElem?_eq_some_iff.mp (head_at hn)
  by_cases z : i = 0
  · subst z
    rw [e]
  · have := List.pairwise_iff_getElem.mp a 0 i hj hi (by omega)
    rw [e] at this
    omega
theorem Wb.mono {a b : Nat} {ps : List Pr} (h : Wb a ps) (l : a ≤ b) : Wb b ps := Nat.lt_of_lt_of_le h (Nat.pow_le_pow_right (by decide) l)
theorem Wb.of {b : Nat} {ps R : List Pr} (h : Wb b ps) (i : IsP (cf ps) R) : Wb b R := Nat.lt_of_le_of_lt (IsP.wt_le i) h
theorem one_mul_ok {t : Pr} {b : Nat} {S : List Pr} (h : Wb b S) (hb : b < 900000) (m : t ∈ S) : CMulW 1 t.2 := Sm.mulOk (a := 1) (b := b) (by decide) (Wb.mem h m) (by omega)
theorem cf_sum {ps qs R S : List Pr} (h : IsP (cf ps) R) (h' : IsP (cf qs) S) (s : Int) : cf (ps ++ qs) s = cf (R ++ sc 1 S) s := by rw [cf_append, cf_append, cf_sc, h.cfs, h'.cfs, Int.one_mul]
theorem cf_sum' {ps qs R S : List Pr} (h : IsP (cf ps) R) (h' : IsP (cf qs) S) (s : Int) : cf (qs ++ ps) s = cf (R ++ sc 1 S) s := by rw [cf_append, cf_append, cf_sc, h.cfs, h'.cfs, Int.one_mul]; omega
theorem cf_prod {ps qs R S : List Pr} (h : IsP (cf ps) R) (h' : IsP (cf qs) S) (s : Int) : cf (prd ps qs) s = cf (prd R S) s := prd_both (fun s => (h.cfs s).symm) (fun s => (h'.cfs s).symm) s
/-! new lists of pairs -/
section
variable {K : PySem.W.Frag} {σ : L2.St} {H : Hp} {Q : VK}
def ELd (D : Addr) (H : Hp) (v : V) (p : Pr) : Prop := ∃ a, v = .ref a ∧ a ≠ D ∧ H a = some (.lst [.int p.1, .int p.2])
theorem ELd.el {D : Addr} {v : V} {p : Pr} (h : ELd D H v p) : EL H v p := by obtain ⟨a, e, _, h⟩ := h; exact ⟨a, e, h⟩
theorem wipe_again (σ : L2.St) (j : Nat) (x : Option V) : wipe ((wipe σ [j]).set j x) [j] = wipe σ [j] := by
  show (((σ.set j none).set j x).set j none) = σ.set j none
  rw [List.set_set, List.set_set]
theorem map_take_snoc {α : Type} (f : Pr → α) (ps : List Pr) (i : Nat) (p : Pr) (h : ps[i]? = some p) : (ps.map f).take (i + 1) = (ps.map f).take i ++ [f p] := by
  rw [List.take_add_one, List.getElem?_map, h]
  rfl
theorem lc_lists {a : Addr} {ps : List Pr} {te : TE} {j : Nat} (f : Pr → Pr) (hv : PV K H (.ref a) ps) (hz : ps.length < 16777216)
    (hs : ∀ p b H1 (Y : V → Hp → Prop), p ∈ ps → Same H H1 → Sq K H1 b [.int p.1, .int p.2] → (∀ t H4, H1 t = none → Same H1 H4 → H4 t = some (.lst [.int (f p).1, .int (f p).2]) → Y (.ref t) H4) → te ((wipe σ [j]).set j (some (.ref b))) H1 Y)
    (q : ∀ l H2, H l = none → Same H H2 → PLL H2 l (ps.map f) → Q (.ref l) H2) : tLc (iSeq K fun σ H Q => Q (.ref a) H) (gName j) tYes te [j] σ H Q := by
  obtain ⟨b, vs, e, hq, hp⟩ := hv
  cases e
  have hl := paired_len hp
  refine lc_seqL hq (fun D i acc H => Paired (ELd D H) acc ((ps.map f).take i)) (fun D i acc H H2 _ b h => paired_imp (fun v p ⟨a, e, n, h⟩ => ⟨a, e, n, by rw [b a n]; exact h⟩) h) (size_of (by omega)) (fun D _ => .nil) ?_ ?_
  · rintro D i x acc H1 Y Z hD hA hi s1 hP hY hZ
    obtain ⟨p, hpi, c, rfl, hc⟩ := paired_at hp hi
    refine w_name ⟨wipe_again _ _ _, w_yes (hs p c H1 Y (List.mem_of_getElem? hpi) s1 (Same.sq s1 hc) fun t H4 n4 s4 e4 => hY _ _ s4 ?_)⟩
    rw [map_take_snoc f ps i p hpi]
    refine paired_snoc ⟨t, rfl, fun z => ?_, e4⟩ (paired_imp (fun v p ⟨a, e, n, h⟩ => ⟨a, e, n, s4 _ _ h⟩) hP)
    rw [z, hA] at n4
    cases n4
  · rintro l H2 acc n2 s2 e2 _ hP
    rw [hl, ← List.length_map (f := f), List.take_length] at hP
    exact q l H2 n2 s2 ⟨acc, e2, paired_imp (fun _ _ => ELd.el) hP⟩
theorem lc_tups {a : Addr} {ps : List Pr} {te : TE} {j : Nat} (f : Pr → Pr) (hv : PV K H (.ref a) ps) (hz : ps.length < 16777216)
    (hs : ∀ p b H1 (Y : V → Hp → Prop), p ∈ ps → Same H H1 → Sq K H1 b [.int p.1, .int p.2] → (∀ t H4, H1 t = none → Same H1 H4 → H4 t = some (.tup [.int (f p).1, .int (f p).2]) → Y (.ref t) H4) → te ((wipe σ [j]).set j (some (.ref b))) H1 Y)
    (q : ∀ l H2 acc, H l = none → Same H H2 → H2 l = some (.lst acc) → Paired (ET K H2) acc (ps.map f) → Q (.ref l) H2) : tLc (iSeq K fun σ H Q => Q (.ref a) H) (gName j) tYes te [j] σ H Q := by
  obtain ⟨b, vs, e, hq, hp⟩ := hv
  cases e
  have hl := paired_len hp
  refine lc_seq hq (fun i acc H => Paired (ET K H) acc ((ps.map f).take i)) (fun i acc => stb_et _ _) (size_of (by omega)) .nil ?_ ?_
  · rintro i x acc H1 Y Z hi s1 hP hY hZ
    obtain ⟨p, hpi, c, rfl, hc⟩ := paired_at hp hi
    refine w_name ⟨wipe_again _ _ _, w_yes (hs p c H1 Y (List.mem_of_getElem? hpi) s1 (Same.sq s1 hc) fun t H4 n4 s4 e4 => hY _ _ s4 ?_)⟩
    rw [map_take_snoc f ps i p hpi]
    exact paired_snoc ⟨t, rfl, SqT.of e4⟩ (Same.ets s4 hP)
  · rintro l H2 acc n2 s2 e2 _ hP
    rw [hl, ← List.length_map (f := f), List.take_length] at hP
    exact q l H2 acc n2 s2 e2 hP
theorem els_dp : ∀ {vs : List V} {R : List Pr}, Paired (EL H) vs R → DpAll K H vs (R.map pl)
  | _, _, .nil => .nil
  | _, _, .cons h t => by
    obtain ⟨a, rfl, h⟩ := h
    exact .cons (.lst (SqL.of h) (.cons (.int _) (.cons (.int _) .nil))) (els_dp t)
/-- an item of a new list l, as data -/
def EA (K : PySem.W.Frag) (H : Hp) (l : Addr) (v : V) (d : PyData) : Prop := ∃ a p, v = .ref a ∧ a ≠ l ∧ ((d = pt p ∧ SqT K H a [.int p.1, .int p.2]) ∨ (d = pl p ∧ SqL K H a [.int p.1, .int p.2]))
theorem EA.same {H' : Hp} {l : Addr} {v : V} {d : PyData} (e : Same H H') (h : EA K H l v d) : EA K H' l v d := by
  obtain ⟨a, p, e1, n, h | h⟩ := h
  · exact ⟨a, p, e1, n, .inl ⟨h.1, Same.st e h.2⟩⟩
  · exact ⟨a, p, e1, n, .inr ⟨h.1, Same.sl e h.2⟩⟩
theorem EA.but {H' : Hp} {l : Addr} {v : V} {d : PyData} {ys : List V} (b : But l H H') (hl : H l = some (.lst ys)) (h : EA K H l v d) : EA K H' l v d := by
  obtain ⟨a, p, e1, n, h | h⟩ := h
  · exact ⟨a, p, e1, n, .inl ⟨h.1, b.st hl trivial h.2⟩⟩
  · exact ⟨a, p, e1, n, .inr ⟨h.1, b.sl n h.2⟩⟩
theorem EA.dp {l : Addr} {v : V} {d : PyData} (h : EA K H l v d) : Dp K H v d := by
  obtain ⟨a, p, rfl, n, ⟨rfl, h⟩ | ⟨rfl, h⟩⟩ := h
  · exact .tup h (.cons (.int _) (.cons (.int _) .nil))
  · exact .lst h (.cons (.int _) (.cons (.int _) .nil))
theorem eas_dp {l : Addr} : ∀ {vs : List V} {ds : List PyData}, Paired (EA K H l) vs ds → DpAll K H vs ds
  | _, _, .nil => .nil
  | _, _, .cons h t => .cons h.dp (eas_dp t)
end
/-! the forms -/
def mix : Nat → List Pr → List PyData
  | _, [] => []
  | n, p :: r => (if n = 1 ∨ n = 2 then pl p else pt p) :: mix (n + 1) r
theorem mix_snoc (p : Pr) : ∀ (ps : List Pr) (n : Nat), mix n (ps ++ [p]) = mix n ps ++ [if n + ps.length = 1 ∨ n + ps.length = 2 then pl p else pt p]
  | [], n => rfl
  | q :: r, n => by
    show _ :: mix (n + 1) (r ++ [p]) = _ :: (mix (n + 1) r ++ _)
    rw [mix_snoc p r (n + 1), List.length_cons, show n + 1 + r.length = n + (r.length + 1) by omega]
theorem mix_prd : ∀ (ps : List Pr) (n : Nat), Paired PrD (mix n ps) ps
  | [], _ => .nil
  | p :: r, n => by
    refine .cons ?_ (mix_prd r (n + 1))
    split
    · exact .inr rfl
    · exact .inl rfl
def pdf (form : Int) (ps : List Pr) : PyData :=
  if form = 0 then .list (ps.map pl) else if form = 1 then .list (ps.map pt) else if form = 2 then .tuple (ps.map pl) else if form = 3 then .tuple (ps.map pt) else .list (mix 0 ps)
theorem pr_pl : ∀ ps : List Pr, Paired PrD (ps.map pl) ps
  | [] => .nil
  | _ :: r => .cons (.inr rfl) (pr_pl r)
theorem pr_pt : ∀ ps : List Pr, Paired PrD (ps.map pt) ps
  | [] => .nil
  | _ :: r => .cons (.inl rfl) (pr_pt r)
theorem pdf_pd (form : Int) (ps : List Pr) : PD (pdf form ps) ps := by
  unfold pdf
  split
  · exact ⟨_, .inl rfl, pr_pl ps⟩
  split
  · exact ⟨_, .inl rfl, pr_pt ps⟩
  split
  · exact ⟨_, .inr rfl, pr_pl ps⟩
  split
  · exact ⟨_, .inr rfl, pr_pt ps⟩
  · exact ⟨_, .inl rfl, mix_prd ps 0⟩
/-! another list of the same polynomial -/
def oth2 (ps : List Pr) (d : Int) : List Pr :=
  if d = 0 ∧ 2 * ps.length ≤ 40 then ps.map (fun p => (p.1, p.2.fdiv 2)) ++ ps.map (fun p => (p.1, p.2 - p.2.fdiv 2)) else if d = 1 ∧ ps.length + 2 ≤ 40 then [(20, 0)] ++ ps ++ [(-20, 0)] else ps.reverse
theorem cf_halves (ps : List Pr) (s : Int) : cf (ps.map (fun p => (p.1, p.2.fdiv 2))) s + cf (ps.map (fun p => (p.1, p.2 - p.2.fdiv 2))) s = cf ps s := by
  induction ps with
  | nil => rfl
  | cons p r ih =>
    show (if p.1 = s then p.2.fdiv 2 else 0) + cf (r.map _) s + ((if p.1 = s then p.2 - p.2.fdiv 2 else 0) + cf (r.map _) s) = (if p.1 = s then p.2 else 0) + cf r s
    split <;> omega
theorem cf_rev (ps : List Pr) (s : Int) : cf ps.reverse s = cf ps s := by
  induction ps with
  | nil => rfl
  | cons p r ih =>
    rw [List.reverse_cons, cf_append, ih]
    show cf r s + ((if p.1 = s then p.2 else 0) + 0) = (if p.1 = s then p.2 else 0) + cf r s
    omega
theorem cf_oth (ps : List Pr) (d s : Int) : cf (oth2 ps d) s = cf ps s := by
  unfold oth2
  split
  · rw [cf_append, cf_halves]
  split
  · rw [cf_append, cf_append]
    show (if (20 : Int) = s then (0 : Int) else 0) + 0 + cf ps s + ((if (-20 : Int) = s then (0 : Int) else 0) + 0) = cf ps s
    split <;> split <;> omega
  · exact cf_rev ps s
def Sml (ps : List Pr) : Prop := ps.length ≤ 40 ∧ ∀ p ∈ ps, p.2.natAbs ≤ 1000000000
theorem oth_sml {ps : List Pr} (h : Sml ps) (d : Int) : Sml (oth2 ps d) := by
  unfold oth2
  split
  · rename_i e
    refine ⟨by rw [List.length_append, List.length_map, List.length_map]; omega, fun p hp => ?_⟩
    rcases List.mem_append.mp hp with hp | hp
    · obtain ⟨t, ht, rfl⟩ := List.mem_map.mp hp
      have := h.2 t ht
      show (t.2.fdiv 2).natAbs ≤ _
      rw [Int.fdiv_eq_ediv_of_nonneg _ (by decide)]
      omega
    · obtain ⟨t, ht, rfl⟩ := List.mem_map.mp hp
      have := h.2 t ht
      show (t.2 - t.2.fdiv 2).natAbs ≤ _
      rw [Int.fdiv_eq_ediv_of_nonneg _ (by decide)]
      omega
  split
  · rename_i e
    refine ⟨by rw [List.length_append, List.length_append]; show 1 + ps.length + 1 ≤ 40; omega, fun p hp => ?_⟩
    rcases List.mem_append.mp hp with hp | hp
    · rcases List.mem_append.mp hp with hp | hp
      · rw [List.mem_singleton.mp hp]; decide
      · exact h.2 p hp
    · rw [List.mem_singleton.mp hp]; decide
  · exact ⟨by rw [List.length_reverse]; exact h.1, fun p hp => h.2 p (List.mem_reverse.mp hp)⟩
theorem wt_le {b : Nat} : ∀ {ps : List Pr}, (∀ p ∈ ps, p.2.natAbs ≤ b) → wt ps ≤ ps.length * b
  | [], _ => Nat.zero_le _
  | p :: r, h => by
    have h1 := h p List.mem_cons_self
    have h2 := wt_le (ps := r) fun q hq => h q (List.mem_cons_of_mem _ hq)
    show p.2.natAbs + wt r ≤ (r.length + 1) * b
    rw [Nat.add_mul]
    omega
theorem Sml.wt {ps : List Pr} (h : Sml ps) : wt ps ≤ 40000000000 := Nat.le_trans (wt_le h.2) (Nat.mul_le_mul_right _ h.1)
theorem Sml.wb {ps : List Pr} (h : Sml ps) : Wb 36 ps := Nat.lt_of_le_of_lt h.wt (by decide)
theorem cutV_at (xs : List V) (a b : Nat) (h : a ≤ b) (hb : b ≤ xs.length) : cutV xs (some (a : Int)) (some (b : Int)) = (xs.drop a).take (b - a) := by
  unfold cutV
  rw [HT.sIx_nat, HT.sIx_nat, Nat.min_eq_left hb, Nat.min_eq_left (Nat.le_trans h hb)]
theorem cutV_take (xs : List V) (b : Nat) (hb : b ≤ xs.length) : cutV xs none (some (b : Int)) = xs.take b := by
  unfold cutV
  rw [HT.sIx_nat, HT.sIx_none, Nat.min_eq_left hb, List.drop_zero, Nat.sub_zero]
/-- an item of a part -/
theorem part_at {xs : List V} {a n j : Nat} {v : V} (h : xs[a + j]? = some v) (hj : j < n) : atI ((xs.drop a).take n) (j : Int) = some v := by
  refine atI_nat ?_
  rw [List.getElem?_take_of_lt hj, List.getElem?_drop]
  exact h
end JP
set_option Elab.async false
set_option linter.all false
set_option maxRecDepth 100000
set_option maxHeartbeats 4000000
namespace JP
open PySem PySem.Spec PyProof.Rows L2
/-! lists that change -/
section
variable {σ : L2.St} {H : Hp}
theorem w_sub {to ti : TE} {t : TSet} {v : V} {Q : L2.St → Hp → Prop} (q : to σ H fun o H1 => ti σ H1 fun i H2 => t o i v H2 fun H3 => Q σ H3) : gSub to ti t v σ H Q := q
theorem ixN_nat {n j : Nat} (h : j < n) : ixN n (j : Int) = some j := by
  have h1 := atI_nat (xs := List.range n) (j := j) (v := j) (by rw [List.getElem?_range h])
  unfold atI at h1
  rw [List.length_range] at h1
  cases e : ixN n (j : Int) with
  | none => rw [e] at h1; cases h1
  | some k =>
    rw [e] at h1
    have h2 : (List.range n)[k]? = some j := h1
    rw [List.getElem?_eq_some_iff] at h2
    obtain ⟨h3, h4⟩ := h2
    rw [List.getElem_range] at h4
    rw [h4]
theorem w_setL {p : Addr} {xs : List V} {j : Nat} {v : V} {Q : Hp → Prop} (h : H p = some (.lst xs)) (hj : j < xs.length) (q : ∀ H2, But p H H2 → H2 p = some (.lst (xs.set j v)) → Q H2) : rSetL (.ref p) (.int (j : Int)) v H Q :=
  ⟨p, xs, _, j, rfl, rfl, h, ixN_nat hj, q _ (fun b hb => upd_ne hb) upd_same⟩
end
section
variable {K : PySem.W.Frag} {σ : L2.St} {H : Hp} {Q : VK}
/-- [f(c) for c in cs], ints -/
theorem lc_ints {a : Addr} {cs : List Int} {te : TE} {j : Nat} (f : Int → Int) (hq : Sq K H a (cs.map V.int)) (hz : cs.length < 16777216)
    (hs : ∀ c H1 (Y : V → Hp → Prop), c ∈ cs → Same H H1 → Y (.int (f c)) H1 → te ((wipe σ [j]).set j (some (.int c))) H1 Y)
    (q : ∀ l H2, H l = none → Same H H2 → H2 l = some (.lst ((cs.map f).map V.int)) → Q (.ref l) H2) : tLc (iSeq K fun σ H Q => Q (.ref a) H) (gName j) tYes te [j] σ H Q := by
  refine lc_seq hq (fun i acc H => acc = ((cs.map f).map V.int).take i) (fun i acc => ⟨fun _ h => h, fun _ _ h => h⟩) (size_of (by rw [List.length_map]; exact hz)) rfl ?_ ?_
  · rintro i x acc H1 Y Z hi s1 hacc hY hZ
    obtain ⟨c, hc, rfl⟩ := map_at hi
    refine w_name ⟨wipe_again _ _ _, w_yes (hs c H1 Y (List.mem_of_getElem? hc) s1 (hY _ _ (Same.refl _) ?_))⟩
    rw [hacc, List.take_add_one, List.getElem?_map, List.getElem?_map, hc]
    rfl
  · rintro l H2 acc n2 s2 e2 _ hacc
    rw [show (cs.map V.int).length = ((cs.map f).map V.int).length by simp, List.take_length] at hacc
    exact q l H2 n2 s2 (by rw [e2, hacc])
/-- .. over a range with a step -/
theorem lc_rngC {lo c : Int} {n : Nat} {g : TG} {tt : TT} {te : TE} {vs : List Nat} {wi : TI} (F : Nat → List V → Hp → Prop) (hF : ∀ i acc, Stb (F i acc)) (hz : n < sizeLine) (h0 : F 0 [] H) (hwi : ∀ R : It → Hp → Prop, R (Itc lo c n) H → wi σ H R)
    (hs : ∀ (i : Nat) acc H1 (Y : V → Hp → Prop) (Z : Hp → Prop), i < n → Same H H1 → F i acc H1 → (∀ y H4, Same H1 H4 → F (i + 1) (acc ++ [y]) H4 → Y y H4) → (∀ H4, Same H1 H4 → F (i + 1) acc H4 → Z H4) →
      g (.int (lo + (i : Int) * c)) (wipe σ vs) H1 fun σ2 H2 => wipe σ2 vs = wipe σ vs ∧ tt σ2 H2 fun b H3 => if b = true then te σ2 H3 Y else Z H3)
    (hd : ∀ l H2 acc, H l = none → Same H H2 → H2 l = some (.lst acc) → acc.length ≤ n → F n acc H2 → Q (.ref l) H2) :
    tLc wi g tt te vs σ H Q := by
  refine hwi _ fun D hD => ?_
  refine ⟨fun i m H1 => m = n - i ∧ i ≤ n ∧ ∃ acc, H1 D = some (.lst acc) ∧ acc.length ≤ i ∧ Same H H1 ∧ F i acc H1, ⟨n, by simp, Nat.zero_le _, [], upd_same, Nat.le_refl _, Same.new hD, (hF _ _).but (fun b hb => upd_ne hb) (nt_none hD) h0⟩, ?_⟩
  rintro i m H1 ⟨rfl, hi, acc, hA, hl, e1, f⟩
  by_cases hlt : i < n
  · refine .inr ⟨hlt, fun H' => i + 1 ≤ n ∧ ∃ acc, H' D = some (.lst acc) ∧ acc.length ≤ i + 1 ∧ Same H H' ∧ F (i + 1) acc H', fun H' p' => ⟨n - (i + 1), by omega, rfl, p'⟩, fun x H' y => ?_⟩
    obtain ⟨rfl, rfl⟩ := y
    refine hs i acc _ _ _ hlt e1 f (fun y H4 e4 f4 => ?_) fun H4 e4 f4 => ?_
    · have hA4 := e4 _ _ hA
      exact ⟨acc, hA4, by omega, hlt, acc ++ [y], upd_same, by rw [List.length_append]; show acc.length + 1 ≤ _; omega, Same.mut (e1.trans e4) hD, (hF _ _).but (fun b hb => upd_ne hb) (nt_lst hA4) f4⟩
    · exact ⟨hlt, acc, e4 _ _ hA, by omega, e1.trans e4, f4⟩
  · have e : i = n := by omega
    subst e
    exact .inl ⟨Nat.le_refl _, hd D H1 acc hD e1 hA hl f⟩
end
end JP
set_option Elab.async false
set_option linter.all false
set_option maxRecDepth 100000
set_option maxHeartbeats 4000000
namespace JP
open PySem PySem.Spec PyProof.Rows L2
/-- an error of the class C, with its fields, at a -/
def ExAt (H : Hp) (a C : Addr) (fs : List (Str × V)) : Prop := (fs = [] ∧ H a = some (ExO (.ref C) a)) ∨ ∃ d, H a = some (exo a C (some d)) ∧ H d = some (exd d fs)
theorem ExAt.mono {H H' : Hp} {a C : Addr} {fs : List (Str × V)} (h : ExAt H a C fs) (e : Same H H') : ExAt H' a C fs := h.imp (fun z => ⟨z.1, e _ _ z.2⟩) fun ⟨d, h1, h2⟩ => ⟨d, e _ _ h1, e _ _ h2⟩
/-! ## data: what a value is, all the way down -/
inductive Da where
  | non | bl (b : Bool) | int (i : Int) | str (s : Str) | ty (c : String)
  | ref (a : Addr)
  | lst (xs : List Da) | tup (xs : List Da) | sls (xs : List Da) | stp (xs : List Da)
  | dk (ks : List Key) (xs : List Da) | dt (ks : List (List Key)) (xs : List Da)
  | ins (C : Addr) (ns : List Str) (xs : List Da)
  | xc (C : Addr) (ns : List Str) (xs : List Da)
  deriving Inhabited
section
variable (K : PySem.W.Frag) (H : Hp)
mutual
inductive Rep : Da → V → Prop where
  | non : Rep .non .non
  | bl (b : Bool) : Rep (.bl b) (.bl b)
  | int (i : Int) : Rep (.int i) (.int i)
  | str (s : Str) : Rep (.str s) (.str s)
  | ty (c : String) : Rep (.ty c) (.ty c)
  | ref (a : Addr) : Rep (.ref a) (.ref a)
  | lst {a : Addr} {ds : List Da} {vs : List V} : H a = some (.lst vs) → RepA ds vs → Rep (.lst ds) (.ref a)
  | sls {a : Addr} {ds : List Da} {vs : List V} : SqL K H a vs → RepA ds vs → Rep (.sls ds) (.ref a)
  | tup {a : Addr} {ds : List Da} {vs : List V} : H a = some (.tup vs) → RepA ds vs → Rep (.tup ds) (.ref a)
  | stp {a : Addr} {ds : List Da} {vs : List V} : SqT K H a vs → RepA ds vs → Rep (.stp ds) (.ref a)
  | dk {a : Addr} {ks : List Key} {ds : List Da} {kvs : List (Key × V)} : H a = some (.dK kvs) → kvs.map (·.1) = ks → RepA ds (kvs.map (·.2)) → Rep (.dk ks ds) (.ref a)
  | dt {a : Addr} {ks : List (List Key)} {ds : List Da} {kvs : List (List Key × V)} : H a = some (.dT kvs) → kvs.map (·.1) = ks → RepA ds (kvs.map (·.2)) → Rep (.dt ks ds) (.ref a)
  | ins {a dx : Addr} {C : Addr} {ns : List Str} {ds : List Da} {fs : List (Str × V)} : H a = some (.ins C dx fs) → fs.map (·.1) = ns → RepA ds (fs.map (·.2)) → Rep (.ins C ns ds) (.ref a)
  | xc {a : Addr} {C : Addr} {ns : List Str} {ds : List Da} {fs : List (Str × V)} : ExAt H a C fs → fs.map (·.1) = ns → RepA ds (fs.map (·.2)) → Rep (.xc C ns ds) (.ref a)
inductive RepA : List Da → List V → Prop where
  | nil : RepA [] []
  | cons {d : Da} {ds : List Da} {v : V} {vs : List V} : Rep d v → RepA ds vs → RepA (d :: ds) (v :: vs)
end
end
section
variable {K : PySem.W.Frag} {H H' : Hp}
mutual
theorem Rep.mono (e : Same H H') : ∀ {d : Da} {v : V}, Rep K H d v → Rep K H' d v
  | _, _, .non => .non
  | _, _, .bl b => .bl b
  | _, _, .int i => .int i
  | _, _, .str s => .str s
  | _, _, .ty c => .ty c
  | _, _, .ref a => .ref a
  | _, _, .lst h r => .lst (e _ _ h) (RepA.mono e r)
  | _, _, .sls h r => .sls (Same.sl e h) (RepA.mono e r)
  | _, _, .tup h r => .tup (e _ _ h) (RepA.mono e r)
  | _, _, .stp h r => .stp (Same.st e h) (RepA.mono e r)
  | _, _, .dk h k r => .dk (e _ _ h) k (RepA.mono e r)
  | _, _, .dt h k r => .dt (e _ _ h) k (RepA.mono e r)
  | _, _, .ins h k r => .ins (e _ _ h) k (RepA.mono e r)
  | _, _, .xc h k r => .xc (h.mono e) k (RepA.mono e r)
theorem RepA.mono (e : Same H H') : ∀ {ds : List Da} {vs : List V}, RepA K H ds vs → RepA K H' ds vs
  | _, _, .nil => .nil
  | _, _, .cons h r => .cons (Rep.mono e h) (RepA.mono e r)
end
theorem RepA.len : ∀ {ds : List Da} {vs : List V}, RepA K H ds vs → ds.length = vs.length
  | _, _, .nil => rfl
  | _, _, .cons _ r => congrArg (· + 1) (RepA.len r)
theorem RepA.at : ∀ {ds : List Da} {vs : List V}, RepA K H ds vs → ∀ {i : Nat} {v : V}, vs[i]? = some v → ∃ d, ds[i]? = some d ∧ Rep K H d v
  | _, _, .cons h r, 0, _, e => by cases e; exact ⟨_, rfl, h⟩
  | _, _, .cons h r, i + 1, _, e => RepA.at r (i := i) e
  | _, _, .nil, _, _, e => by simp at e
theorem RepA.get : ∀ {ds : List Da} {vs : List V}, RepA K H ds vs → ∀ {i : Nat} {d : Da}, ds[i]? = some d → ∃ v, vs[i]? = some v ∧ Rep K H d v
  | _, _, .cons h r, 0, _, e => by cases e; exact ⟨_, rfl, h⟩
  | _, _, .cons h r, i + 1, _, e => RepA.get r (i := i) e
  | _, _, .nil, _, _, e => by simp at e
theorem RepA.app : ∀ {ds : List Da} {vs : List V}, RepA K H ds vs → ∀ {es : List Da} {us : List V}, RepA K H es us → RepA K H (ds ++ es) (vs ++ us)
  | _, _, .nil, _, _, q => q
  | _, _, .cons h r, _, _, q => .cons h (RepA.app r q)
theorem RepA.set : ∀ {ds : List Da} {vs : List V}, RepA K H ds vs → ∀ (i : Nat) {d : Da} {v : V}, Rep K H d v → RepA K H (ds.set i d) (vs.set i v)
  | _, _, .nil, _, _, _, q => .nil
  | _, _, .cons h r, 0, _, _, q => .cons q r
  | _, _, .cons h r, i + 1, _, _, q => .cons h (RepA.set r i q)
theorem RepA.take : ∀ {ds : List Da} {vs : List V}, RepA K H ds vs → ∀ (i : Nat), RepA K H (ds.take i) (vs.take i)
  | _, _, .nil, i => by rw [List.take_nil, List.take_nil]; exact .nil
  | _, _, .cons h r, 0 => .nil
  | _, _, .cons h r, i + 1 => .cons h (RepA.take r i)
theorem RepA.drop : ∀ {ds : List Da} {vs : List V}, RepA K H ds vs → ∀ (i : Nat), RepA K H (ds.drop i) (vs.drop i)
  | _, _, .nil, i => by rw [List.drop_nil, List.drop_nil]; exact .nil
  | _, _, .cons h r, 0 => .cons h r
  | _, _, .cons h r, i + 1 => RepA.drop r i
theorem RepA.rep (n : Nat) : ∀ {ds : List Da} {vs : List V}, RepA K H ds vs → RepA K H (List.replicate n ds).flatten (List.replicate n vs).flatten := by
  intro ds vs h
  induction n with
  | zero => exact .nil
  | succ n ih => rw [List.replicate_succ, List.replicate_succ, List.flatten_cons, List.flatten_cons]; exact h.app ih
theorem RepA.ints : ∀ {ns : List Int} {vs : List V}, RepA K H (ns.map Da.int) vs → vs = ns.map V.int
  | [], _, h => by cases h; rfl
  | n :: ns, _, h => by
    cases h with
    | cons h r => cases h; rw [RepA.ints r]; rfl
theorem RepA.ofInts : ∀ ns : List Int, RepA K H (ns.map Da.int) (ns.map V.int)
  | [] => .nil
  | n :: ns => .cons (.int n) (RepA.ofInts ns)
theorem RepA.strs : ∀ {ns : List Str} {vs : List V}, RepA K H (ns.map Da.str) vs → vs = ns.map V.str
  | [], _, h => by cases h; rfl
  | n :: ns, _, h => by
    cases h with
    | cons h r => cases h; rw [RepA.strs r]; rfl
theorem RepA.ofStrs : ∀ ns : List Str, RepA K H (ns.map Da.str) (ns.map V.str)
  | [] => .nil
  | n :: ns => .cons (.str n) (RepA.ofStrs ns)
end
/-! ## the heap: what is fixed, what a def owns -/
/-- F: what is fixed at the def's start; H: the heap at its start; L: dicts that a loop walks, with their objects -/
structure Bs where
  F : Hp
  H : Hp
  L : List (Addr × Obj × HO) := []
def lk (B : Bs) (a : Addr) : Option (Addr × Obj × HO) := B.L.find? fun x => decide (x.1 = a)
/-- the heap as if no dict were walked -/
def vw (B : Bs) (H : Hp) : Hp := fun a => match lk B a with | some x => some x.2.2 | none => H a
/-- a tuple of numbers and texts: such a one never changes, it is fixed wherever it stands -/
def scV : V → Bool
  | .int _ => true
  | .str _ => true
  | _ => false
def scT : Option HO → Bool
  | some (.tup vs) => vs.all scV
  | _ => false
/-- the fixed part of the heap H, O the places that the def owns -/
def fr (B : Bs) (O : List Addr) (H : Hp) : Hp := fun a => if a ∈ O then none else if (B.H a).isSome then (if scT (B.H a) = true then B.H a else B.F a) else vw B H a
structure J (B : Bs) (O : List Addr) (H : Hp) : Prop where
  fh : Same B.F B.H
  hh : Same B.H (vw B H)
  own : ∀ a ∈ O, B.H a = none ∧ H a ≠ none ∧ lk B a = none
  lkd : ∀ a x, lk B a = some x → H a = some (.frz x.2.1 x.2.2) ∧ ((∃ us, x.2.2 = .dK us) ∨ ∃ us, x.2.2 = .dT us)
  nt : ∀ a ∈ O, ∀ us, H a ≠ some (.tup us)
section
variable {B : Bs} {O : List Addr} {H H' : Hp}
theorem vw_nil (h : B.L = []) : vw B H = H := by
  funext a
  unfold vw lk
  rw [h]
  rfl
theorem vw_nl {a : Addr} (h : lk B a = none) : vw B H a = H a := by unfold vw; rw [h]
theorem vw_same (e : Same H H') : Same (vw B H) (vw B H') := fun a u h => by
  unfold vw at h ⊢
  cases z : lk B a with
  | some x => rw [z] at h; exact h
  | none => rw [z] at h; exact e _ _ h
theorem vw_but {p : Addr} (b : But p H H') : But p (vw B H) (vw B H') := fun a h => by
  unfold vw
  cases z : lk B a with
  | some x => rfl
  | none => exact b a h
/-- what is no dict stands in the heap -/
theorem J.real (j : J B O H) {a : Addr} {u : HO} (e : vw B H a = some u) (h1 : ∀ us, u ≠ .dK us) (h2 : ∀ us, u ≠ .dT us) : H a = some u := by
  unfold vw at e
  cases z : lk B a with
  | none => rw [z] at e; exact e
  | some x =>
    rw [z] at e
    cases e
    rcases (j.lkd a x z).2 with ⟨us, e⟩ | ⟨us, e⟩
    · exact absurd e (h1 us)
    · exact absurd e (h2 us)
/-- a dict can be read -/
theorem J.rd (j : J B O H) {a : Addr} {u : HO} (e : vw B H a = some u) : Rd H a u := by
  unfold vw at e
  cases z : lk B a with
  | none => rw [z] at e; exact .inl e
  | some x =>
    rw [z] at e
    cases e
    exact .inr ⟨_, (j.lkd a x z).1⟩
theorem J.rdi (j : J B O H) {a : Addr} {u : HO} (e : Rd (vw B H) a u) (h1 : ∀ us, u ≠ .dK us) (h2 : ∀ us, u ≠ .dT us) : Rd H a u := by
  rcases e with e | ⟨o, e⟩
  · exact .inl (j.real e h1 h2)
  · exact .inr ⟨o, j.real e nofun nofun⟩
theorem J.sl (j : J B O H) {K : PySem.W.Frag} {a : Addr} {xs : List V} (e : SqL K (vw B H) a xs) : SqL K H a xs := e.imp (fun h => j.rdi h nofun nofun) id
theorem J.st (j : J B O H) {K : PySem.W.Frag} {a : Addr} {xs : List V} (e : SqT K (vw B H) a xs) : SqT K H a xs := e.imp (fun h => j.rdi h nofun nofun) id
theorem J.sq (j : J B O H) {K : PySem.W.Frag} {a : Addr} {xs : List V} (e : Sq K (vw B H) a xs) : Sq K H a xs := e.imp j.sl j.st
theorem fr_same (h : J B O H) : Same (fr B O H) (vw B H) := fun a u e => by
  unfold fr at e
  split at e
  · cases e
  · split at e
    · split at e
      · exact h.hh _ _ e
      · exact h.hh _ _ (h.fh _ _ e)
    · exact e
theorem fr_mono (e : Same H H') : Same (fr B O H) (fr B O H') := fun a u h => by
  unfold fr at h ⊢
  split at h
  · cases h
  · rename_i h1
    rw [if_neg h1]
    split at h
    · rename_i h2; rw [if_pos h2]; exact h
    · rename_i h2; rw [if_neg h2]; exact vw_same e _ _ h
/-- fewer owned places -/
theorem fr_less {O' : List Addr} (s : ∀ a ∈ O', a ∈ O) : Same (fr B O H) (fr B O' H) := fun a u h => by
  unfold fr at h ⊢
  split at h
  · cases h
  · rename_i h1
    rw [if_neg fun z => h1 (s a z)]
    exact h
theorem fr_but {p : Addr} (hp : p ∈ O) (b : But p H H') : Same (fr B O H) (fr B O H') := fun a u h => by
  unfold fr at h ⊢
  split at h
  · cases h
  · rename_i h1
    rw [if_neg h1]
    split at h
    · rename_i h2; rw [if_pos h2]; exact h
    · rename_i h2; rw [if_neg h2, vw_but b a fun z => h1 (z ▸ hp)]; exact h
theorem fr_new {p : Addr} {u : HO} (h1 : p ∉ O) (h2 : B.H p = none) (h3 : lk B p = none) (h : H p = some u) : fr B O H p = some u := by
  unfold fr
  rw [if_neg h1, if_neg (by rw [h2]; decide), vw_nl h3, h]
theorem J.step (h : J B O H) (e : Same H H') : J B O H' := ⟨h.fh, h.hh.trans (vw_same e), fun a ha => ⟨(h.own a ha).1, fun z => (h.own a ha).2.1 (by
  cases e1 : H a with
  | none => rfl
  | some u => rw [e _ _ e1] at z; cases z), (h.own a ha).2.2⟩, fun a x z => ⟨e _ _ (h.lkd a x z).1, (h.lkd a x z).2⟩, fun a ha us z => by
  cases e1 : H a with
  | none => exact (h.own a ha).2.1 e1
  | some u => rw [e _ _ e1] at z; exact h.nt a ha us (e1.trans z)⟩
theorem J.fresh {p : Addr} (h : J B O H) (hp : H p = none) : p ∉ O ∧ B.H p = none ∧ lk B p = none := by
  have hl : lk B p = none := by
    cases e : lk B p with
    | none => rfl
    | some x => rw [(h.lkd p x e).1] at hp; cases hp
  refine ⟨fun z => (h.own p z).2.1 hp, ?_, hl⟩
  cases e : B.H p with
  | none => rfl
  | some u => have := h.hh _ _ e; rw [vw_nl hl, hp] at this; cases this
theorem J.cons {p : Addr} (h : J B O H) (h2 : B.H p = none) (h3 : H p ≠ none) (h4 : lk B p = none) (h5 : ∀ us, H p ≠ some (.tup us)) : J B (p :: O) H :=
  ⟨h.fh, h.hh, fun a ha => (List.mem_cons.mp ha).elim (fun z => z ▸ ⟨h2, h3, h4⟩) (h.own a), h.lkd, fun a ha => (List.mem_cons.mp ha).elim (fun z => z ▸ h5) (h.nt a)⟩
theorem J.sub {O' : List Addr} (h : J B O H) (s : ∀ a ∈ O', a ∈ O) : J B O' H := ⟨h.fh, h.hh, fun a ha => h.own a (s a ha), h.lkd, fun a ha => h.nt a (s a ha)⟩
theorem J.nil (j : J B O H) : J B [] H := ⟨j.fh, j.hh, fun _ h => (by cases h), j.lkd, fun _ h => (by cases h)⟩
theorem J.but {p : Addr} (h : J B O H) (hp : p ∈ O) (b : But p H H') (e : H' p ≠ none) (e5 : ∀ us, H' p ≠ some (.tup us)) : J B O H' :=
  ⟨h.fh, fun a u z => by rw [vw_but b a fun y => by rw [y, (h.own p hp).1] at z; cases z]; exact h.hh _ _ z, fun a ha => ⟨(h.own a ha).1, by
    by_cases y : a = p
    · rw [y]; exact e
    · rw [b a y]; exact (h.own a ha).2.1, (h.own a ha).2.2⟩, fun a x z => by
    have : a ≠ p := fun y => by rw [y, (h.own p hp).2.2] at z; cases z
    rw [b a this]
    exact h.lkd a x z, fun a ha us => by
    by_cases y : a = p
    · rw [y]; exact e5 us
    · rw [b a y]; exact h.nt a ha us⟩
end
/-- the object of a list or a dict -/
inductive HoR (K : PySem.W.Frag) (G : Hp) : Da → HO → Prop where
  | lst {ds : List Da} {vs : List V} : RepA K G ds vs → HoR K G (.lst ds) (.lst vs)
  | dk {ks : List Key} {ds : List Da} {kvs : List (Key × V)} : kvs.map (·.1) = ks → RepA K G ds (kvs.map (·.2)) → HoR K G (.dk ks ds) (.dK kvs)
  | dt {ks : List (List Key)} {ds : List Da} {kvs : List (List Key × V)} : kvs.map (·.1) = ks → RepA K G ds (kvs.map (·.2)) → HoR K G (.dt ks ds) (.dT kvs)
section
variable {K : PySem.W.Frag} {G G' : Hp}
theorem HoR.mono (e : Same G G') {d : Da} {u : HO} (h : HoR K G d u) : HoR K G' d u := by
  cases h with
  | lst r => exact .lst (r.mono e)
  | dk k r => exact .dk k (r.mono e)
  | dt k r => exact .dt k (r.mono e)
theorem HoR.ntup {d : Da} {u : HO} (h : HoR K G d u) (us : List V) : some u ≠ some (.tup us) := by cases h <;> nofun
theorem HoR.rep {p : Addr} {d : Da} {u : HO} (h : HoR K G d u) (e : G p = some u) : Rep K G d (.ref p) := by
  cases h with
  | lst r => exact .lst e r
  | dk k r => exact .dk e k r
  | dt k r => exact .dt e k r
end
/-- how a value stands: fixed; own (a slot's); new (not yet in the heap S); seen only -/
inductive Kd where
  | fz | ow | nw | bw
theorem fz_bw : Kd.fz ≠ .bw := nofun
theorem nw_bw : Kd.nw ≠ .bw := nofun
theorem ow_bw : Kd.ow ≠ .bw := nofun
def RepV (K : PySem.W.Frag) (B : Bs) (O : List Addr) (S H : Hp) : Kd → Da → V → Prop
  | .fz, d, v => Rep K (fr B O H) d v
  | .bw, d, v => Rep K (fr B [] H) d v
  | .ow, d, v => ∃ p u, v = .ref p ∧ p ∈ O ∧ H p = some u ∧ HoR K (fr B O H) d u
  | .nw, d, v => ∃ p u, v = .ref p ∧ S p = none ∧ H p = some u ∧ HoR K (fr B (p :: O) H) d u
theorem same_none {H H' : Hp} {p : Addr} (e : Same H H') (h : H' p = none) : H p = none := by
  cases e1 : H p with
  | none => rfl
  | some u => rw [e _ _ e1] at h; cases h
section
variable {K : PySem.W.Frag} {B : Bs} {O : List Addr} {S S' H H' : Hp}
theorem RepV.mono (e : Same H H') : ∀ {k : Kd} {d : Da} {v : V}, RepV K B O S H k d v → RepV K B O S H' k d v
  | .fz, _, _, h => Rep.mono (fr_mono e) h
  | .bw, _, _, h => Rep.mono (fr_mono e) h
  | .ow, _, _, ⟨p, u, h1, h2, h3, h4⟩ => ⟨p, u, h1, h2, e _ _ h3, h4.mono (fr_mono e)⟩
  | .nw, _, _, ⟨p, u, h1, h2, h3, h4⟩ => ⟨p, u, h1, h2, e _ _ h3, h4.mono (fr_mono e)⟩
theorem RepV.back (e : Same S' S) : ∀ {k : Kd} {d : Da} {v : V}, RepV K B O S H k d v → RepV K B O S' H k d v
  | .fz, _, _, h => h
  | .bw, _, _, h => h
  | .ow, _, _, h => h
  | .nw, _, _, ⟨p, u, h1, h2, h3, h4⟩ => ⟨p, u, h1, same_none e h2, h3, h4⟩
/-- it may be kept -/
theorem RepV.fz (j : J B O S) {k : Kd} {d : Da} {v : V} (h : RepV K B O S H k d v) (hk : k = .fz ∨ k = .nw) : Rep K (fr B O H) d v := by
  rcases hk with rfl | rfl
  · exact h
  · obtain ⟨p, u, rfl, h2, h4, h5⟩ := h
    obtain ⟨f1, f2, f3⟩ := j.fresh h2
    exact (h5.mono (fr_less fun a ha => List.mem_cons_of_mem _ ha)).rep (fr_new f1 f2 f3 h4)
theorem RepV.all (j0 : J B O S) (j : J B O H) : ∀ {k : Kd} {d : Da} {v : V}, RepV K B O S H k d v → Rep K (fr B [] H) d v
  | .fz, _, _, h => Rep.mono (fr_less fun a ha => by cases ha) h
  | .bw, _, _, h => h
  | .ow, _, _, ⟨p, u, h1, h2, h3, h4⟩ => h1 ▸ (h4.mono (fr_less fun a ha => by cases ha)).rep (fr_new (by simp) (j.own p h2).1 (j.own p h2).2.2 h3)
  | .nw, _, _, ⟨p, u, h1, h2, h4, h5⟩ => h1 ▸ (h5.mono (fr_less fun a ha => by cases ha)).rep (fr_new (by simp) (j0.fresh h2).2.1 (j0.fresh h2).2.2 h4)
theorem RepV.seen (j0 : J B O S) (j : J B O H) {k : Kd} {d : Da} {v : V} (h : RepV K B O S H k d v) : Rep K (vw B H) d v := Rep.mono (fr_same j.nil) (h.all j0 j)
end
/-! ## slots -/
inductive Sl where
  | un | dat (d : Da) | own (d : Da)
  deriving Inhabited
inductive SlR (K : PySem.W.Frag) (G H : Hp) : List (Option V) → List Sl → List Addr → Prop where
  | nil : SlR K G H [] [] []
  | un {x : Option V} {σ : List (Option V)} {env : List Sl} {O : List Addr} : SlR K G H σ env O → SlR K G H (x :: σ) (.un :: env) O
  | dat {v : V} {d : Da} {σ : List (Option V)} {env : List Sl} {O : List Addr} : Rep K G d v → SlR K G H σ env O → SlR K G H (some v :: σ) (.dat d :: env) O
  | own {p : Addr} {u : HO} {d : Da} {σ : List (Option V)} {env : List Sl} {O : List Addr} : H p = some u → HoR K G d u → SlR K G H σ env O → SlR K G H (some (.ref p) :: σ) (.own d :: env) (p :: O)
section
variable {K : PySem.W.Frag} {G H G' H' : Hp}
theorem SlR.mono {σ : List (Option V)} {env : List Sl} {O : List Addr} (h : SlR K G H σ env O) (e : Same G G') (e2 : Same H H') : SlR K G' H' σ env O := by
  induction h with
  | nil => exact .nil
  | un _ ih => exact .un ih
  | dat r _ ih => exact .dat (r.mono e) ih
  | own a b _ ih => exact .own (e2 _ _ a) (b.mono e) ih
theorem SlR.dat_at {σ : List (Option V)} {env : List Sl} {O : List Addr} (h : SlR K G H σ env O) : ∀ {i : Nat} {d : Da}, env[i]? = some (.dat d) → ∃ v, σ[i]? = some (some v) ∧ Rep K G d v := by
  induction h with
  | nil => intro i d e; simp at e
  | un _ ih => intro i d e; cases i with
    | zero => cases e
    | succ i => exact ih (i := i) e
  | dat r _ ih => intro i d e; cases i with
    | zero => cases e; exact ⟨_, rfl, r⟩
    | succ i => exact ih (i := i) e
  | own _ _ _ ih => intro i d e; cases i with
    | zero => cases e
    | succ i => exact ih (i := i) e
theorem SlR.own_at {σ : List (Option V)} {env : List Sl} {O : List Addr} (h : SlR K G H σ env O) : ∀ {i : Nat} {d : Da}, env[i]? = some (.own d) → ∃ p u, σ[i]? = some (some (.ref p)) ∧ p ∈ O ∧ H p = some u ∧ HoR K G d u := by
  induction h with
  | nil => intro i d e; simp at e
  | un _ ih => intro i d e; cases i with
    | zero => cases e
    | succ i => exact ih (i := i) e
  | dat r _ ih => intro i d e; cases i with
    | zero => cases e
    | succ i => exact ih (i := i) e
  | own a b _ ih => intro i d e; cases i with
    | zero => cases e; exact ⟨_, _, rfl, List.mem_cons_self, a, b⟩
    | succ i => obtain ⟨p, u, e1, e2, e3, e4⟩ := ih (i := i) e; exact ⟨p, u, e1, List.mem_cons_of_mem _ e2, e3, e4⟩
theorem SlR.len {σ : List (Option V)} {env : List Sl} {O : List Addr} (h : SlR K G H σ env O) : σ.length = env.length := by
  induction h with
  | nil => rfl
  | un _ ih => exact congrArg (· + 1) ih
  | dat _ _ ih => exact congrArg (· + 1) ih
  | own _ _ _ ih => exact congrArg (· + 1) ih
/-- a slot gets a value, or none; what it owned is let go -/
theorem SlR.put {σ : List (Option V)} {env : List Sl} {O : List Addr} (h : SlR K G H σ env O) : ∀ (i : Nat) {v : V} {d : Da}, Rep K G d v → ∃ O', O'.Sublist O ∧ SlR K G H (σ.set i (some v)) (env.set i (.dat d)) O' := by
  induction h with
  | nil => intro i v d r; exact ⟨[], .slnil, .nil⟩
  | un h ih => intro i v d r; cases i with
    | zero => exact ⟨_, List.Sublist.refl _, .dat r h⟩
    | succ i => obtain ⟨O', s, q⟩ := ih i r; exact ⟨O', s, .un q⟩
  | dat r0 h ih => intro i v d r; cases i with
    | zero => exact ⟨_, List.Sublist.refl _, .dat r h⟩
    | succ i => obtain ⟨O', s, q⟩ := ih i r; exact ⟨O', s, .dat r0 q⟩
  | own a b h ih => intro i v d r; cases i with
    | zero => exact ⟨_, List.sublist_cons_self _ _, .dat r h⟩
    | succ i => obtain ⟨O', s, q⟩ := ih i r; exact ⟨_, s.cons_cons _, .own a b q⟩
theorem SlR.wipe1 {σ : List (Option V)} {env : List Sl} {O : List Addr} (h : SlR K G H σ env O) : ∀ (i : Nat) {x : Option V}, ∃ O', O'.Sublist O ∧ SlR K G H (σ.set i x) (env.set i .un) O' := by
  induction h with
  | nil => intro i x; exact ⟨[], .slnil, .nil⟩
  | un h ih => intro i x; cases i with
    | zero => exact ⟨_, List.Sublist.refl _, .un h⟩
    | succ i => obtain ⟨O', s, q⟩ := ih i; exact ⟨O', s, .un q⟩
  | dat r0 h ih => intro i x; cases i with
    | zero => exact ⟨_, List.Sublist.refl _, .un h⟩
    | succ i => obtain ⟨O', s, q⟩ := ih i; exact ⟨O', s, .dat r0 q⟩
  | own a b h ih => intro i x; cases i with
    | zero => exact ⟨_, List.sublist_cons_self _ _, .un h⟩
    | succ i => obtain ⟨O', s, q⟩ := ih i; exact ⟨_, s.cons_cons _, .own a b q⟩
/-- a slot gets a new object of its own; the owned places in the order of the slots -/
theorem SlR.take {σ : List (Option V)} {env : List Sl} {O : List Addr} (h : SlR K G H σ env O) : ∀ (i : Nat) {p : Addr} {u : HO} {d : Da}, i < env.length → H p = some u → HoR K G d u → ∃ O' Oa Ob, O' = Oa ++ p :: Ob ∧ (Oa ++ Ob).Sublist O ∧ SlR K G H (σ.set i (some (.ref p))) (env.set i (.own d)) O' := by
  induction h with
  | nil => intro i p u d hi; simp at hi
  | un h ih => intro i p u d hi hp r; cases i with
    | zero => exact ⟨_, [], _, rfl, List.Sublist.refl _, .own hp r h⟩
    | succ i => obtain ⟨O', Oa, Ob, e, s, q⟩ := ih i (by simpa using hi) hp r; exact ⟨O', Oa, Ob, e, s, .un q⟩
  | dat r0 h ih => intro i p u d hi hp r; cases i with
    | zero => exact ⟨_, [], _, rfl, List.Sublist.refl _, .own hp r h⟩
    | succ i => obtain ⟨O', Oa, Ob, e, s, q⟩ := ih i (by simpa using hi) hp r; exact ⟨O', Oa, Ob, e, s, .dat r0 q⟩
  | own a b h ih => intro i p u d hi hp r; cases i with
    | zero => exact ⟨_, [], _, rfl, List.sublist_cons_self _ _, .own hp r h⟩
    | succ i => obtain ⟨O', Oa, Ob, e, s, q⟩ := ih i (by simpa using hi) hp r; exact ⟨_, _ :: Oa, Ob, by rw [e]; rfl, s.cons_cons _, .own a b q⟩
/-- an own object changes -/
theorem SlR.chg {σ : List (Option V)} {env : List Sl} {O : List Addr} (h : SlR K G H σ env O) (nd : O.Nodup) : ∀ {i : Nat} {d : Da}, env[i]? = some (.own d) → ∃ p u, σ[i]? = some (some (.ref p)) ∧ p ∈ O ∧ H p = some u ∧ HoR K G d u ∧
    ∀ (G' H' : Hp) (u' : HO) (d' : Da), Same G G' → But p H H' → H' p = some u' → HoR K G' d' u' → SlR K G' H' σ (env.set i (.own d')) O := by
  induction h with
  | nil => intro i d e; simp at e
  | un _ ih => intro i d e; cases i with
    | zero => cases e
    | succ i => obtain ⟨p, u, e1, e2, e3, e4, q⟩ := ih nd (i := i) e; exact ⟨p, u, e1, e2, e3, e4, fun G' H' u' d' a b c r => .un (q G' H' u' d' a b c r)⟩
  | dat r0 _ ih => intro i d e; cases i with
    | zero => cases e
    | succ i => obtain ⟨p, u, e1, e2, e3, e4, q⟩ := ih nd (i := i) e; exact ⟨p, u, e1, e2, e3, e4, fun G' H' u' d' a b c r => .dat (r0.mono a) (q G' H' u' d' a b c r)⟩
  | @own p0 u0 d0 σ env O a b h ih => intro i d e; cases i with
    | zero =>
      cases e
      refine ⟨_, _, rfl, List.mem_cons_self, a, b, fun G' H' u' d' sa bu c r => .own c r ?_⟩
      have hn : p0 ∉ O := (List.nodup_cons.mp nd).1
      clear ih nd
      induction h with
      | nil => exact .nil
      | un _ ih => exact .un (ih hn)
      | dat r _ ih => exact .dat (r.mono sa) (ih hn)
      | own a2 b2 _ ih =>
        exact .own (by rw [bu _ fun z => hn (z ▸ List.mem_cons_self)]; exact a2) (b2.mono sa) (ih fun z => hn (List.mem_cons_of_mem _ z))
    | succ i =>
      have nd2 := List.nodup_cons.mp nd
      obtain ⟨p, u, e1, e2, e3, e4, q⟩ := ih nd2.2 (i := i) e
      exact ⟨p, u, e1, List.mem_cons_of_mem _ e2, e3, e4, fun G' H' u' d' sa bu c r => .own (by rw [bu _ fun (z : p0 = p) => nd2.1 (by rw [z]; exact e2)]; exact a) (b.mono sa) (q G' H' u' d' sa bu c r)⟩
/-- what a slot owns becomes fixed -/
theorem SlR.frz {σ : List (Option V)} {env : List Sl} {O : List Addr} (h : SlR K G H σ env O) : ∀ {i : Nat} {d : Da}, env[i]? = some (.own d) → ∃ p u Oa Ob, O = Oa ++ p :: Ob ∧ H p = some u ∧ HoR K G d u ∧ ∀ G', Same G G' → G' p = some u → SlR K G' H σ (env.set i (.dat d)) (Oa ++ Ob) := by
  induction h with
  | nil => intro i d e; simp at e
  | un _ ih => intro i d e; cases i with
    | zero => cases e
    | succ i => obtain ⟨p, u, Oa, Ob, e1, e2, e3, q⟩ := ih (i := i) e; exact ⟨p, u, Oa, Ob, e1, e2, e3, fun G' a c => .un (q G' a c)⟩
  | dat r0 _ ih => intro i d e; cases i with
    | zero => cases e
    | succ i => obtain ⟨p, u, Oa, Ob, e1, e2, e3, q⟩ := ih (i := i) e; exact ⟨p, u, Oa, Ob, e1, e2, e3, fun G' a c => .dat (r0.mono a) (q G' a c)⟩
  | own a b h ih => intro i d e; cases i with
    | zero => cases e; exact ⟨_, _, [], _, rfl, a, b, fun G' sa c => .dat ((b.mono sa).rep c) (h.mono sa (Same.refl _))⟩
    | succ i => obtain ⟨p, u, Oa, Ob, e1, e2, e3, q⟩ := ih (i := i) e; exact ⟨p, u, _ :: Oa, Ob, by rw [e1]; rfl, e2, e3, fun G' sa c => .own a (b.mono sa) (q G' sa c)⟩
end
/-! ## judgements -/
/-- the slots env stand in σ and H; O are the owned places -/
structure Rl (K : PySem.W.Frag) (B : Bs) (env : List Sl) (O : List Addr) (σ : L2.St) (H : Hp) : Prop where
  j : J B O H
  s : ∃ Os, Os.Nodup ∧ (∀ a ∈ Os, a ∈ O) ∧ SlR K (fr B O H) H σ env Os
section
variable {K : PySem.W.Frag} {B : Bs} {env : List Sl} {O : List Addr} {σ : L2.St} {S H H' : Hp}
theorem Rl.step (r : Rl K B env O σ H) (e : Same H H') : Rl K B env O σ H' := by
  obtain ⟨Os, h1, h2, h3⟩ := r.s
  exact ⟨r.j.step e, Os, h1, h2, h3.mono (fr_mono e) e⟩
theorem Rl.dat_at (r : Rl K B env O σ H) {i : Nat} {d : Da} (h : env[i]? = some (.dat d)) : ∃ v, σ[i]? = some (some v) ∧ Rep K (fr B O H) d v := by
  obtain ⟨Os, h1, h2, h3⟩ := r.s
  exact h3.dat_at h
theorem Rl.own_at (r : Rl K B env O σ H) {i : Nat} {d : Da} (h : env[i]? = some (.own d)) : ∃ p u, σ[i]? = some (some (.ref p)) ∧ p ∈ O ∧ H p = some u ∧ HoR K (fr B O H) d u := by
  obtain ⟨Os, h1, h2, h3⟩ := r.s
  obtain ⟨p, u, a, b, c⟩ := h3.own_at h
  exact ⟨p, u, a, h2 p b, c⟩
theorem Rl.put (r : Rl K B env O σ H) (i : Nat) {v : V} {d : Da} (h : Rep K (fr B O H) d v) : Rl K B (env.set i (.dat d)) O (σ.set i (some v)) H := by
  obtain ⟨Os, h1, h2, h3⟩ := r.s
  obtain ⟨O', s, q⟩ := h3.put i h
  exact ⟨r.j, O', h1.sublist s, fun a ha => h2 a (s.subset ha), q⟩
theorem Rl.wipe1 (r : Rl K B env O σ H) (i : Nat) (x : Option V) : Rl K B (env.set i .un) O (σ.set i x) H := by
  obtain ⟨Os, h1, h2, h3⟩ := r.s
  obtain ⟨O', s, q⟩ := h3.wipe1 i (x := x)
  exact ⟨r.j, O', h1.sublist s, fun a ha => h2 a (s.subset ha), q⟩
/-- a slot takes a new object; it was not there in S, where the slots stood -/
theorem Rl.take (r : Rl K B env O σ S) (e : Same S H) (i : Nat) (hi : i < env.length) {p : Addr} {u : HO} {d : Da} (h1 : S p = none) (h2 : H p = some u) (h3 : HoR K (fr B (p :: O) H) d u) : Rl K B (env.set i (.own d)) (p :: O) (σ.set i (some (.ref p))) H ∧ Same (fr B O S) (fr B (p :: O) H) := by
  obtain ⟨Os, k1, k2, k3⟩ := r.s
  have hB := (r.j.fresh h1)
  have sg : Same (fr B O S) (fr B (p :: O) H) := fun a u h => by
    unfold fr at h ⊢
    split at h
    · cases h
    · rename_i z1
      have ap : a ≠ p := fun z => by
        subst z
        rw [if_neg (by rw [hB.2.1]; decide), vw_nl hB.2.2, h1] at h
        cases h
      rw [if_neg (by rw [List.mem_cons, not_or]; exact ⟨ap, z1⟩)]
      split at h
      · rename_i h2; rw [if_pos h2]; exact h
      · rename_i h2; rw [if_neg h2]; exact vw_same e _ _ h
  obtain ⟨O', Oa, Ob, e1, s, q⟩ := (k3.mono sg e).take i hi h2 h3
  have hsub := s.subset
  have nd := k1.sublist s
  subst e1
  refine ⟨⟨(r.j.step e).cons hB.2.1 (by rw [h2]; simp) hB.2.2 (by rw [h2]; exact h3.ntup), _, ?_, fun a ha => ?_, q⟩, sg⟩
  · have hn : ∀ a ∈ Oa ++ Ob, a ≠ p := fun a ha z => hB.1 (z ▸ k2 a (hsub ha))
    obtain ⟨n1, n2, n3⟩ := List.nodup_append.mp nd
    refine List.nodup_append.mpr ⟨n1, List.nodup_cons.mpr ⟨fun z => hn p (List.mem_append_right _ z) rfl, n2⟩, fun a ha b hb => ?_⟩
    rcases List.mem_cons.mp hb with rfl | hb
    · exact hn a (List.mem_append_left _ ha)
    · exact n3 a ha b hb
  · rw [List.mem_append, List.mem_cons] at ha
    rcases ha with ha | ha | ha
    · exact List.mem_cons_of_mem _ (k2 a (hsub (List.mem_append_left _ ha)))
    · rw [ha]; exact List.mem_cons_self
    · exact List.mem_cons_of_mem _ (k2 a (hsub (List.mem_append_right _ ha)))
/-- an own object changes -/
theorem Rl.chg (r : Rl K B env O σ H) {i : Nat} {d : Da} (h : env[i]? = some (.own d)) : ∃ p u, σ[i]? = some (some (.ref p)) ∧ p ∈ O ∧ H p = some u ∧ HoR K (fr B O H) d u ∧
    ∀ (H' : Hp) (u' : HO) (d' : Da), But p H H' → H' p = some u' → HoR K (fr B O H') d' u' → Rl K B (env.set i (.own d')) O σ H' := by
  obtain ⟨Os, h1, h2, h3⟩ := r.s
  obtain ⟨p, u, a, b, c, d, q⟩ := h3.chg h1 h
  exact ⟨p, u, a, h2 p b, c, d, fun H' u' d' b1 e1 r1 => ⟨r.j.but (h2 p b) b1 (by rw [e1]; simp) (by rw [e1]; exact r1.ntup), Os, h1, h2, q _ _ _ _ (fr_but (h2 p b) b1) b1 e1 r1⟩⟩
theorem Rl.frz (r : Rl K B env O σ H) {i : Nat} {d : Da} (h : env[i]? = some (.own d)) : ∃ O', Rl K B (env.set i (.dat d)) O' σ H ∧ Same (fr B O H) (fr B O' H) := by
  obtain ⟨Os, h1, h2, h3⟩ := r.s
  obtain ⟨p, u, Oa, Ob, e1, e2, e3, q⟩ := h3.frz h
  subst e1
  have hp : p ∈ O := h2 p (by simp)
  refine ⟨O.filter (· ≠ p), ⟨r.j.sub fun a ha => (List.mem_filter.mp ha).1, Oa ++ Ob, ?_, fun a ha => ?_, q _ (fr_less fun a ha => (List.mem_filter.mp ha).1) ?_⟩, fr_less fun a ha => (List.mem_filter.mp ha).1⟩
  · obtain ⟨n1, n2, n3⟩ := List.nodup_append.mp h1
    exact List.nodup_append.mpr ⟨n1, (List.nodup_cons.mp n2).2, fun a ha b hb => n3 a ha b (List.mem_cons_of_mem _ hb)⟩
  · have hn : a ≠ p := fun z => by
      subst z
      obtain ⟨n1, n2, n3⟩ := List.nodup_append.mp h1
      rcases List.mem_append.mp ha with ha | ha
      · exact n3 a ha a List.mem_cons_self rfl
      · exact (List.nodup_cons.mp n2).1 ha
    refine List.mem_filter.mpr ⟨h2 a ?_, by simpa using hn⟩
    rcases List.mem_append.mp ha with ha | ha
    · exact List.mem_append_left _ ha
    · exact List.mem_append_right _ (List.mem_cons_of_mem _ ha)
  · exact fr_new (by simp) (r.j.own p hp).1 (r.j.own p hp).2.2 e2
end
/-- values side by side -/
inductive RepVs (K : PySem.W.Frag) (B : Bs) (O : List Addr) (S H : Hp) : List (Kd × Da) → List V → Prop where
  | nil : RepVs K B O S H [] []
  | cons {x : Kd × Da} {v : V} {xs : List (Kd × Da)} {vs : List V} : RepV K B O S H x.1 x.2 v → RepVs K B O S H xs vs → RepVs K B O S H (x :: xs) (v :: vs)
section
variable {K : PySem.W.Frag} {B : Bs} {env : List Sl} {O : List Addr} {σ : L2.St} {S S' H H' : Hp}
theorem RepVs.mono (e : Same H H') {xs : List (Kd × Da)} {vs : List V} (h : RepVs K B O S H xs vs) : RepVs K B O S H' xs vs := by
  induction h with
  | nil => exact .nil
  | cons a _ ih => exact .cons (a.mono e) ih
theorem RepVs.back (e : Same S' S) {xs : List (Kd × Da)} {vs : List V} (h : RepVs K B O S H xs vs) : RepVs K B O S' H xs vs := by
  induction h with
  | nil => exact .nil
  | cons a _ ih => exact .cons (a.back e) ih
def allF (xs : List (Kd × Da)) : Prop := ∀ x ∈ xs, x.1 = .fz ∨ x.1 = .nw
theorem RepVs.fz (j : J B O S) {xs : List (Kd × Da)} {vs : List V} (h : RepVs K B O S H xs vs) (f : allF xs) : RepA K (fr B O H) (xs.map (·.2)) vs := by
  induction h with
  | nil => exact .nil
  | cons a _ ih => exact .cons (a.fz j (f _ List.mem_cons_self)) (ih fun x hx => f x (List.mem_cons_of_mem _ hx))
theorem RepVs.all (j0 : J B O S) (j : J B O H) {xs : List (Kd × Da)} {vs : List V} (h : RepVs K B O S H xs vs) : RepA K (fr B [] H) (xs.map (·.2)) vs := by
  induction h with
  | nil => exact .nil
  | cons a _ ih => exact .cons (a.all j0 j) ih
theorem RepVs.seen (j0 : J B O S) (j : J B O H) {xs : List (Kd × Da)} {vs : List V} (h : RepVs K B O S H xs vs) : RepA K (vw B H) (xs.map (·.2)) vs := by
  induction h with
  | nil => exact .nil
  | cons a _ ih => exact .cons (a.seen j0 j) ih
end
theorem allF_nil : allF [] := fun _ h => by cases h
theorem allF_cons {k : Kd} {d : Da} {xs : List (Kd × Da)} (h : k = .fz ∨ k = .nw) (t : allF xs) : allF ((k, d) :: xs) := fun x hx => (List.mem_cons.mp hx).elim (fun z => z ▸ h) (t x)
abbrev Pd := Kd → Da → Prop
section
variable (K : PySem.W.Frag) (B : Bs)
/-- an expression gives a datum of which P holds -/
def Ev (te : TE) (env : List Sl) (P : Pd) : Prop := ∀ (O : List Addr) (σ : L2.St) (H : Hp) (Q : VK), Rl K B env O σ H → (∀ k d v H', Same H H' → RepV K B O H H' k d v → P k d → Q v H') → te σ H Q
def EvA (ta : TA) (env : List Sl) (P : List (Kd × Da) → Prop) : Prop := ∀ (O : List Addr) (σ : L2.St) (H : Hp) (Q : List V → Hp → Prop), Rl K B env O σ H → (∀ xs vs H', Same H H' → RepVs K B O H H' xs vs → P xs → Q vs H') → ta σ H Q
def Tt (tt : TT) (env : List Sl) (P : Bool → Prop) : Prop := ∀ (O : List Addr) (σ : L2.St) (H : Hp) (Q : Bool → Hp → Prop), Rl K B env O σ H → (∀ b H', Same H H' → P b → Q b H') → tt σ H Q
/-- an operator on data -/
def Op2 (r : R2) (x y : Kd × Da) (P : Pd) : Prop := ∀ (O : List Addr) (S H : Hp) (v u : V) (Q : VK), J B O S → J B O H → Same S H → RepV K B O S H x.1 x.2 v → RepV K B O S H y.1 y.2 u → (∀ k d w H', Same H H' → RepV K B O S H' k d w → P k d → Q w H') → r v u H Q
def Op1 (r : V → Hp → VK → Prop) (x : Kd × Da) (P : Pd) : Prop := ∀ (O : List Addr) (S H : Hp) (v : V) (Q : VK), J B O S → J B O H → RepV K B O S H x.1 x.2 v → (∀ k d w H', Same H H' → RepV K B O S H' k d w → P k d → Q w H') → r v H Q
def OpN (r : List V → Hp → VK → Prop) (xs : List (Kd × Da)) (P : Pd) : Prop := ∀ (O : List Addr) (S H : Hp) (vs : List V) (Q : VK), J B O S → J B O H → Same S H → RepVs K B O S H xs vs → (∀ k d w H', Same H H' → RepV K B O S H' k d w → P k d → Q w H') → r vs H Q
/-- a target; no object changes -/
def Gt (g : TG) (k : Kd) (d : Da) (env : List Sl) (P : List Sl → Prop) : Prop := ∀ (O : List Addr) (σ : L2.St) (S H : Hp) (v : V) (Q : L2.St → Hp → Prop), Rl K B env O σ S → Same S H → RepV K B O S H k d v → (∀ env' O' σ', Rl K B env' O' σ' H → Same (fr B O S) (fr B O' H) → P env' → Q σ' H) → g v σ H Q
end
structure DE where
  nx : List Sl → Prop
  rt : Pd
  bk : List Sl → Prop := fun _ => False
  ct : List Sl → Prop := fun _ => False
structure Ft (K : PySem.W.Frag) (B : Bs) (G : Hp) (D : DE) (De : Ends) : Prop where
  nx : ∀ env O σ H, Rl K B env O σ H → Same G (fr B O H) → D.nx env → De.nx σ H
  rt : ∀ k d v O H, k = .fz ∨ k = .nw → J B O H → RepV K B O B.H H k d v → D.rt k d → De.rt v H
  bk : ∀ env O σ H, Rl K B env O σ H → Same G (fr B O H) → D.bk env → De.bk σ H
  ct : ∀ env O σ H, Rl K B env O σ H → Same G (fr B O H) → D.ct env → De.ct σ H
def Sd (K : PySem.W.Frag) (B : Bs) (ts : TS) (D : DE) (env : List Sl) : Prop := ∀ (O : List Addr) (σ : L2.St) (H : Hp) (De : Ends), Rl K B env O σ H → Ft K B (fr B O H) D De → ts De σ H
theorem Ft.more {K : PySem.W.Frag} {B : Bs} {G G' : Hp} {D : DE} {De : Ends} (f : Ft K B G D De) (s : Same G G') : Ft K B G' D De :=
  ⟨fun env O σ H r e q => f.nx env O σ H r (s.trans e) q, f.rt, fun env O σ H r e q => f.bk env O σ H r (s.trans e) q, fun env O σ H r e q => f.ct env O σ H r (s.trans e) q⟩
/-! ### expressions -/
section
variable {K : PySem.W.Frag} {B : Bs} {env : List Sl} {P : Pd}
theorem Ev.imp {te : TE} {P' : Pd} (h : Ev K B te env P) (q : ∀ k d, P k d → P' k d) : Ev K B te env P' := fun O σ H Q r hq => h O σ H Q r fun k d v H' s rv p => hq k d v H' s rv (q k d p)
theorem ev_var {i : Nat} {d : Da} (e : env[i]? = some (.dat d)) (q : P .fz d) : Ev K B (tVar i) env P := fun O σ H Q r hq => by
  obtain ⟨v, e1, e2⟩ := r.dat_at e
  exact ⟨v, e1, hq .fz d v H (Same.refl _) e2 q⟩
theorem ev_own {i : Nat} {d : Da} (e : env[i]? = some (.own d)) (q : P .ow d) : Ev K B (tVar i) env P := fun O σ H Q r hq => by
  obtain ⟨p, u, e1, e2, e3, e4⟩ := r.own_at e
  exact ⟨_, e1, hq .ow d _ H (Same.refl _) ⟨p, u, rfl, e2, e3, e4⟩ q⟩
theorem ev_int {i : Int} (q : P .fz (.int i)) : Ev K B (tC (.int i)) env P := fun O σ H Q r hq => hq .fz _ _ H (Same.refl _) (.int i) q
theorem ev_bl {b : Bool} (q : P .fz (.bl b)) : Ev K B (tC (.bl b)) env P := fun O σ H Q r hq => hq .fz _ _ H (Same.refl _) (.bl b) q
theorem ev_non (q : P .fz .non) : Ev K B (tC .non) env P := fun O σ H Q r hq => hq .fz _ _ H (Same.refl _) .non q
theorem ev_str {s : Str} (q : P .fz (.str s)) : Ev K B (tC (.str s)) env P := fun O σ H Q r hq => hq .fz _ _ H (Same.refl _) (.str s) q
theorem ev_ty {c : String} (q : P .fz (.ty c)) : Ev K B (tC (.ty c)) env P := fun O σ H Q r hq => hq .fz _ _ H (Same.refl _) (.ty c) q
theorem ev_ref {a : Addr} (q : P .fz (.ref a)) : Ev K B (tC (.ref a)) env P := fun O σ H Q r hq => hq .fz _ _ H (Same.refl _) (.ref a) q
theorem ev_op {r : R2} {ta tb : TE} (h : Ev K B ta env fun k x => Ev K B tb env fun l y => Op2 K B r (k, x) (l, y) P) : Ev K B (tOp r ta tb) env P := fun O σ H Q rl hq =>
  h O σ H _ rl fun k x v H1 s1 r1 h2 => h2 O σ H1 _ (rl.step s1) fun l y u H2 s2 r2 h3 =>
    h3 O H H2 v u Q rl.j (rl.j.step (s1.trans s2)) (s1.trans s2) (r1.mono s2) (r2.back s1) fun k d w H3 s3 r3 p => hq k d w H3 ((s1.trans s2).trans s3) r3 p
theorem ev_un {r : V → Hp → VK → Prop} {ta : TE} (h : Ev K B ta env fun k x => Op1 K B r (k, x) P) : Ev K B (tUn r ta) env P := fun O σ H Q rl hq =>
  h O σ H _ rl fun k x v H1 s1 r1 h2 => h2 O H H1 v Q rl.j (rl.j.step s1) r1 fun k d w H3 s3 r3 p => hq k d w H3 (s1.trans s3) r3 p
theorem eva_nil {P : List (Kd × Da) → Prop} (q : P []) : EvA K B tNil env P := fun O σ H Q rl hq => hq [] [] H (Same.refl _) .nil q
theorem eva_cons {te : TE} {ta : TA} {P : List (Kd × Da) → Prop} (h : Ev K B te env fun k x => EvA K B ta env fun xs => P ((k, x) :: xs)) : EvA K B (tCons te ta) env P := fun O σ H Q rl hq =>
  h O σ H _ rl fun k x v H1 s1 r1 h2 => h2 O σ H1 _ (rl.step s1) fun xs vs H2 s2 r2 p => hq _ _ H2 (s1.trans s2) (.cons (r1.mono s2) (r2.back s1)) p
theorem ev_cb {r : List V → Hp → VK → Prop} {ta : TA} (h : EvA K B ta env fun xs => OpN K B r xs P) : Ev K B (tCB r ta) env P := fun O σ H Q rl hq =>
  h O σ H _ rl fun xs vs H1 s1 r1 h2 => h2 O H H1 vs Q rl.j (rl.j.step s1) s1 r1 fun k d w H3 s3 r3 p => hq k d w H3 (s1.trans s3) r3 p
theorem ev_if {t : TT} {ta tb : TE} (h : Tt K B t env fun b => if b = true then Ev K B ta env P else Ev K B tb env P) : Ev K B (tIf t ta tb) env P := fun O σ H Q rl hq =>
  h O σ H _ rl fun b H1 s1 h2 => by
    cases b with
    | true => rw [if_pos rfl] at h2; exact iteT (h2 O σ H1 Q (rl.step s1) fun k d v H2 s2 r2 p => hq k d v H2 (s1.trans s2) (r2.back s1) p)
    | false => rw [if_neg (by decide)] at h2; exact iteF (h2 O σ H1 Q (rl.step s1) fun k d v H2 s2 r2 p => hq k d v H2 (s1.trans s2) (r2.back s1) p)
/-- the value is a truth value -/
theorem RepV.bl_eq {O : List Addr} {S H : Hp} {k : Kd} {b : Bool} {v : V} (h : RepV K B O S H k (.bl b) v) : v = .bl b := by
  cases k with
  | fz => cases h; rfl
  | bw => cases h; rfl
  | ow => obtain ⟨_, _, _, _, _, h⟩ := h; cases h
  | nw => obtain ⟨_, _, _, _, _, h⟩ := h; cases h
theorem RepV.int_eq {O : List Addr} {S H : Hp} {k : Kd} {i : Int} {v : V} (h : RepV K B O S H k (.int i) v) : v = .int i := by
  cases k with
  | fz => cases h; rfl
  | bw => cases h; rfl
  | ow => obtain ⟨_, _, _, _, _, h⟩ := h; cases h
  | nw => obtain ⟨_, _, _, _, _, h⟩ := h; cases h
theorem RepV.str_eq {O : List Addr} {S H : Hp} {k : Kd} {i : Str} {v : V} (h : RepV K B O S H k (.str i) v) : v = .str i := by
  cases k with
  | fz => cases h; rfl
  | bw => cases h; rfl
  | ow => obtain ⟨_, _, _, _, _, h⟩ := h; cases h
  | nw => obtain ⟨_, _, _, _, _, h⟩ := h; cases h
theorem RepV.ty_eq {O : List Addr} {S H : Hp} {k : Kd} {i : String} {v : V} (h : RepV K B O S H k (.ty i) v) : v = .ty i := by
  cases k with
  | fz => cases h; rfl
  | bw => cases h; rfl
  | ow => obtain ⟨_, _, _, _, _, h⟩ := h; cases h
  | nw => obtain ⟨_, _, _, _, _, h⟩ := h; cases h
theorem RepV.ref_eq {O : List Addr} {S H : Hp} {k : Kd} {i : Addr} {v : V} (h : RepV K B O S H k (.ref i) v) : v = .ref i := by
  cases k with
  | fz => cases h; rfl
  | bw => cases h; rfl
  | ow => obtain ⟨_, _, _, _, _, h⟩ := h; cases h
  | nw => obtain ⟨_, _, _, _, _, h⟩ := h; cases h
theorem RepV.non_eq {O : List Addr} {S H : Hp} {k : Kd} {v : V} (h : RepV K B O S H k .non v) : v = .non := by
  cases k with
  | fz => cases h; rfl
  | bw => cases h; rfl
  | ow => obtain ⟨_, _, _, _, _, h⟩ := h; cases h
  | nw => obtain ⟨_, _, _, _, _, h⟩ := h; cases h
/-- a truth value of an expression -/
def isBl (d : Da) (P : Bool → Prop) : Prop := ∃ b, d = .bl b ∧ P b
theorem bl_i {b : Bool} {P : Bool → Prop} (q : P b) : isBl (.bl b) P := ⟨b, rfl, q⟩
theorem tt_test {te : TE} {P : Bool → Prop} (h : Ev K B te env fun _ d => isBl d P) : Tt K B (tTest te) env P := fun O σ H Q rl hq =>
  h O σ H _ rl fun k d v H1 s1 r1 h2 => by
    obtain ⟨b, rfl, p⟩ := h2
    exact ⟨b, r1.bl_eq, hq b H1 s1 p⟩
theorem tt_B {te : TE} {P : Bool → Prop} (h : Ev K B te env fun _ d => isBl d P) : Tt K B (tB te) env P := fun O σ H Q rl hq =>
  h O σ H _ rl fun k d v H1 s1 r1 h2 => by
    obtain ⟨b, rfl, p⟩ := h2
    exact ⟨b, r1.bl_eq, hq b H1 s1 p⟩
theorem tt_yes {P : Bool → Prop} (q : P true) : Tt K B tYes env P := fun O σ H Q rl hq => hq true H (Same.refl _) q
theorem tt_not {t : TT} {P : Bool → Prop} (h : Tt K B t env fun b => P (!b)) : Tt K B (tNot t) env P := fun O σ H Q rl hq => h O σ H _ rl fun b H1 s1 p => hq _ H1 s1 p
theorem tt_and {t u : TT} {P : Bool → Prop} (h : Tt K B t env fun b => if b = true then Tt K B u env P else P false) : Tt K B (tAnd t u) env P := fun O σ H Q rl hq => h O σ H _ rl fun b H1 s1 p => by
  cases b with
  | true => rw [if_pos rfl] at p; exact iteT (p O σ H1 Q (rl.step s1) fun b H2 s2 p => hq b H2 (s1.trans s2) p)
  | false => rw [if_neg (by decide)] at p; exact iteF (hq _ H1 s1 p)
theorem tt_or {t u : TT} {P : Bool → Prop} (h : Tt K B t env fun b => if b = true then P true else Tt K B u env P) : Tt K B (tOr t u) env P := fun O σ H Q rl hq => h O σ H _ rl fun b H1 s1 p => by
  cases b with
  | true => rw [if_pos rfl] at p; exact iteT (hq _ H1 s1 p)
  | false => rw [if_neg (by decide)] at p; exact iteF (p O σ H1 Q (rl.step s1) fun b H2 s2 p => hq b H2 (s1.trans s2) p)
theorem ev_not {te : TE} (h : Ev K B te env fun _ d => isBl d fun b => P .fz (.bl (!b))) : Ev K B (tNotV te) env P := fun O σ H Q rl hq =>
  h O σ H _ rl fun k d v H1 s1 r1 h2 => by
    obtain ⟨b, rfl, p⟩ := h2
    exact ⟨b, r1.bl_eq, hq .fz _ _ H1 s1 (.bl _) p⟩
theorem ev_and {ta tb : TE} (h : Ev K B ta env fun _ d => isBl d fun b => if b = true then Ev K B tb env P else P .fz (.bl false)) : Ev K B (tAndV ta tb) env P := fun O σ H Q rl hq =>
  h O σ H _ rl fun k d v H1 s1 r1 h2 => by
    obtain ⟨b, rfl, p⟩ := h2
    refine ⟨b, r1.bl_eq, ?_⟩
    cases b with
    | true => rw [if_pos rfl] at p; exact iteT (p O σ H1 Q (rl.step s1) fun k d v H2 s2 r2 p => hq k d v H2 (s1.trans s2) (r2.back s1) p)
    | false => rw [if_neg (by decide)] at p; exact iteF (hq .fz _ _ H1 s1 (.bl _) p)
theorem ev_or {ta tb : TE} (h : Ev K B ta env fun _ d => isBl d fun b => if b = true then P .fz (.bl true) else Ev K B tb env P) : Ev K B (tOrV ta tb) env P := fun O σ H Q rl hq =>
  h O σ H _ rl fun k d v H1 s1 r1 h2 => by
    obtain ⟨b, rfl, p⟩ := h2
    refine ⟨b, r1.bl_eq, ?_⟩
    cases b with
    | true => rw [if_pos rfl] at p; exact iteT (hq .fz _ _ H1 s1 (.bl _) p)
    | false => rw [if_neg (by decide)] at p; exact iteF (p O σ H1 Q (rl.step s1) fun k d v H2 s2 r2 p => hq k d v H2 (s1.trans s2) (r2.back s1) p)
theorem ev_chain {r r' : R2} {ta tb tc : TE} (h : Ev K B ta env fun k x => Ev K B tb env fun l y => Op2 K B r (k, x) (l, y) fun _ d => isBl d fun b => if b = true then Ev K B tc env fun m z => Op2 K B r' (l, y) (m, z) P else P .fz (.bl false)) : Ev K B (tChain r r' ta tb tc) env P := fun O σ H Q rl hq =>
  h O σ H _ rl fun k x v H1 s1 r1 h2 => h2 O σ H1 _ (rl.step s1) fun l y u H2 s2 r2 h3 =>
    h3 O H H2 v u _ rl.j (rl.j.step (s1.trans s2)) (s1.trans s2) (r1.mono s2) (r2.back s1) fun k d w H3 s3 r3 h4 => by
      obtain ⟨b, rfl, p⟩ := h4
      refine ⟨b, r3.bl_eq, ?_⟩
      cases b with
      | true =>
        rw [if_pos rfl] at p
        refine iteT (p O σ H3 _ (rl.step ((s1.trans s2).trans s3)) fun m z w' H4 s4 r4 h5 => ?_)
        exact h5 O H H4 u w' Q rl.j (rl.j.step (((s1.trans s2).trans s3).trans s4)) (((s1.trans s2).trans s3).trans s4) ((r2.back s1).mono (s3.trans s4)) (r4.back ((s1.trans s2).trans s3)) fun k d w H5 s5 r5 p => hq k d w H5 ((((s1.trans s2).trans s3).trans s4).trans s5) r5 p
      | false => rw [if_neg (by decide)] at p; exact iteF (hq .fz _ _ H3 ((s1.trans s2).trans s3) (.bl _) p)
/-! ### new tuples and lists -/
theorem fr_upd {O : List Addr} {H H2 : Hp} {p : Addr} (j : J B O H) (s : Same H H2) (h : H p = none) : Same (fr B O H) (fr B (p :: O) H2) := fun a u e => by
  unfold fr at e ⊢
  split at e
  · cases e
  · rename_i z1
    have hB := (j.fresh h).2
    have ap : a ≠ p := fun z => by
      subst z
      rw [if_neg (by rw [hB.1]; decide), vw_nl hB.2, h] at e
      cases e
    rw [if_neg (by rw [List.mem_cons, not_or]; exact ⟨ap, z1⟩)]
    split at e
    · rename_i h2; rw [if_pos h2]; exact e
    · rename_i h2; rw [if_neg h2]; exact vw_same s _ _ e
/-- a new list or tuple of what may be kept -/
theorem repV_lst {O : List Addr} {S H H2 : Hp} {p : Addr} {ds : List Da} {vs : List V} (j : J B O H) (s0 : Same S H) (s : Same H H2) (h : H p = none) (e : H2 p = some (.lst vs)) (r : RepA K (fr B O H) ds vs) : RepV K B O S H2 .nw (.lst ds) (.ref p) :=
  ⟨p, _, rfl, same_none s0 h, e, .lst (r.mono (fr_upd j s h))⟩
theorem repV_tup {O : List Addr} {S H H2 : Hp} {p : Addr} {ds : List Da} {vs : List V} (j : J B O H) (s : Same H H2) (h : H p = none) (e : H2 p = some (.tup vs)) (r : RepA K (fr B O H) ds vs) : RepV K B O S H2 .fz (.tup ds) (.ref p) := by
  obtain ⟨f1, f2, f3⟩ := j.fresh h
  exact Rep.tup (fr_new f1 f2 f3 e) (r.mono (fr_mono s))
theorem ev_lst {ta : TA} (h : EvA K B ta env fun xs => allF xs ∧ xs.length ≤ sizeLine ∧ P .nw (.lst (xs.map (·.2)))) : Ev K B (tLstA ta) env P := fun O σ H Q rl hq =>
  h O σ H _ rl fun xs vs H1 s1 r1 ⟨f, hz, p⟩ => by
    have ra := r1.fz rl.j f
    refine ⟨by rw [← ra.len, List.length_map]; exact hz, fun a H2 n2 s2 e2 => ?_⟩
    exact hq .nw _ _ H2 (s1.trans s2) (repV_lst (rl.j.step s1) s1 s2 n2 e2 ra) p
theorem ev_tup {ta : TA} (h : EvA K B ta env fun xs => allF xs ∧ xs.length ≤ sizeLine ∧ P .fz (.tup (xs.map (·.2)))) : Ev K B (tTupA ta) env P := fun O σ H Q rl hq =>
  h O σ H _ rl fun xs vs H1 s1 r1 ⟨f, hz, p⟩ => by
    have ra := r1.fz rl.j f
    refine ⟨by rw [← ra.len, List.length_map]; exact hz, fun a H2 n2 s2 e2 => ?_⟩
    exact hq .fz _ _ H2 (s1.trans s2) (repV_tup (rl.j.step s1) s2 n2 e2 ra) p
/-- a tuple of what is only seen -/
theorem ev_tupB {ta : TA} (h : EvA K B ta env fun xs => xs.length ≤ sizeLine ∧ P .bw (.tup (xs.map (·.2)))) : Ev K B (tTupA ta) env P := fun O σ H Q rl hq =>
  h O σ H _ rl fun xs vs H1 s1 r1 ⟨hz, p⟩ => by
    have ra := r1.all rl.j (rl.j.step s1)
    refine ⟨by rw [← ra.len, List.length_map]; exact hz, fun a H2 n2 s2 e2 => ?_⟩
    refine hq .bw _ _ H2 (s1.trans s2) ?_ p
    exact Rep.tup (fr_new (by simp) ((rl.j.step s1).fresh n2).2.1 ((rl.j.step s1).fresh n2).2.2 e2) (ra.mono (fr_mono s2))
theorem ev_dnew (q : P .nw (.dk [] [])) : Ev K B tDNewA env P := fun O σ H Q rl hq p H2 n2 s2 e2 => hq .nw _ _ H2 s2 ⟨p, _, rfl, n2, e2, .dk rfl .nil⟩ q
/-! ### operators -/
theorem op2_I0 {g : Int → Int → Int} {k l : Kd} {i j : Int} (q : P .fz (.int (g i j))) : Op2 K B (rI0 fun i j => .int (g i j)) (k, .int i) (l, .int j) P := fun O S H v u Q j0 j1 hS r1 r2 hq =>
  ⟨i, j, r1.int_eq, r2.int_eq, hq .fz _ _ H (Same.refl _) (.int _) q⟩
theorem op2_I {C : Int → Int → Prop} {g : Int → Int → Int} {k l : Kd} {i j : Int} (c : C i j) (q : P .fz (.int (g i j))) : Op2 K B (rI C fun i j => .int (g i j)) (k, .int i) (l, .int j) P := fun O S H v u Q j0 j1 hS r1 r2 hq =>
  ⟨i, j, r1.int_eq, r2.int_eq, c, hq .fz _ _ H (Same.refl _) (.int _) q⟩
theorem op2_B0 {g : Int → Int → Bool} {k l : Kd} {i j : Int} (q : P .fz (.bl (g i j))) : Op2 K B (rI0 fun i j => .bl (g i j)) (k, .int i) (l, .int j) P := fun O S H v u Q j0 j1 hS r1 r2 hq =>
  ⟨i, j, r1.int_eq, r2.int_eq, hq .fz _ _ H (Same.refl _) (.bl _) q⟩
theorem op1_U {g : Int → Int} {k : Kd} {i : Int} (q : P .fz (.int (g i))) : Op1 K B (rU fun i => .int (g i)) (k, .int i) P := fun O S H v Q j0 j1 r1 hq => ⟨i, r1.int_eq, hq .fz _ _ H (Same.refl _) (.int _) q⟩
theorem op2_addI {k l : Kd} {i j : Int} (q : P .fz (.int (i + j))) : Op2 K B (rAddA K) (k, .int i) (l, .int j) P := fun O S H v u Q j0 j1 hS r1 r2 hq => .inl ⟨i, j, r1.int_eq, r2.int_eq, hq .fz _ _ H (Same.refl _) (.int _) q⟩
theorem op2_addS {k l : Kd} {i j : Str} (c : i.length + j.length ≤ sizeLine) (q : P .fz (.str (i ++ j))) : Op2 K B (rAddA K) (k, .str i) (l, .str j) P := fun O S H v u Q j0 j1 hS r1 r2 hq => .inr (.inl ⟨i, j, r1.str_eq, r2.str_eq, c, hq .fz _ _ H (Same.refl _) (.str _) q⟩)
/-- the items of a list as they stand -/
theorem RepV.lst_at {O : List Addr} {S H : Hp} (j0 : J B O S) (j : J B O H) {k : Kd} (hk : k ≠ .bw) {ds : List Da} {v : V} (h : RepV K B O S H k (.lst ds) v) : ∃ p vs, v = .ref p ∧ H p = some (.lst vs) ∧ RepA K (fr B O H) ds vs := by
  cases k with
  | fz => cases h with | lst e r => exact ⟨_, _, rfl, j.real (fr_same j _ _ e) nofun nofun, r⟩
  | bw => exact absurd rfl hk
  | ow => obtain ⟨p, u, e1, e2, e3, h⟩ := h; cases h with | lst r => exact ⟨p, _, e1, e3, r⟩
  | nw => obtain ⟨p, u, e1, e2, e3, h⟩ := h; cases h with | lst r => exact ⟨p, _, e1, e3, r.mono (fr_less fun a ha => List.mem_cons_of_mem _ ha)⟩
theorem RepV.tup_at {O : List Addr} {S H : Hp} (j0 : J B O S) (j : J B O H) {k : Kd} (hk : k ≠ .bw) {ds : List Da} {v : V} (h : RepV K B O S H k (.tup ds) v) : ∃ p vs, v = .ref p ∧ H p = some (.tup vs) ∧ RepA K (fr B O H) ds vs := by
  cases k with
  | fz => cases h with | tup e r => exact ⟨_, _, rfl, j.real (fr_same j _ _ e) nofun nofun, r⟩
  | bw => exact absurd rfl hk
  | ow => obtain ⟨p, u, e1, e2, e3, h⟩ := h; cases h
  | nw => obtain ⟨p, u, e1, e2, e3, h⟩ := h; cases h
theorem RepV.stp_at {O : List Addr} {S H : Hp} (j0 : J B O S) (j : J B O H) {k : Kd} (hk : k ≠ .bw) {ds : List Da} {v : V} (h : RepV K B O S H k (.stp ds) v) : ∃ p vs, v = .ref p ∧ SqT K H p vs ∧ RepA K (fr B O H) ds vs := by
  cases k with
  | fz => cases h with | stp e r => exact ⟨_, _, rfl, j.st (Same.st (fr_same j) e), r⟩
  | bw => exact absurd rfl hk
  | ow => obtain ⟨p, u, e1, e2, e3, h⟩ := h; cases h
  | nw => obtain ⟨p, u, e1, e2, e3, h⟩ := h; cases h
theorem RepV.sls_at {O : List Addr} {S H : Hp} (j0 : J B O S) (j : J B O H) {k : Kd} (hk : k ≠ .bw) {ds : List Da} {v : V} (h : RepV K B O S H k (.sls ds) v) : ∃ p vs, v = .ref p ∧ SqL K H p vs ∧ RepA K (fr B O H) ds vs := by
  cases k with
  | fz => cases h with | sls e r => exact ⟨_, _, rfl, j.sl (Same.sl (fr_same j) e), r⟩
  | bw => exact absurd rfl hk
  | ow => obtain ⟨p, u, e1, e2, e3, h⟩ := h; cases h
  | nw => obtain ⟨p, u, e1, e2, e3, h⟩ := h; cases h
theorem op2_addL {k l : Kd} {xs ys : List Da} (hk : k ≠ .bw) (hl : l ≠ .bw) (hz : xs.length + ys.length ≤ sizeLine) (q : P .nw (.lst (xs ++ ys))) : Op2 K B (rAddA K) (k, .lst xs) (l, .lst ys) P := fun O S H v u Q j0 j1 hS r1 r2 hq => by
  obtain ⟨a, vs, rfl, h1, ra⟩ := r1.lst_at j0 j1 hk
  obtain ⟨b, us, rfl, h2, rb⟩ := r2.lst_at j0 j1 hl
  exact w_addL h1 h2 (by rw [← ra.len, ← rb.len]; exact hz) fun p H2 n2 s2 e2 => hq .nw _ _ H2 s2 (repV_lst j1 hS s2 n2 e2 (ra.app rb)) q
/-- a datum is a list or a tuple of the items ds -/
def its : Da → Option (List Da)
  | .lst ds => some ds
  | .tup ds => some ds
  | .sls ds => some ds
  | .stp ds => some ds
  | _ => none
theorem RepV.sq_at {O : List Addr} {S H : Hp} (j0 : J B O S) (j : J B O H) {k : Kd} (hk : k ≠ .bw) {d : Da} {ds : List Da} (e : its d = some ds) {v : V} (h : RepV K B O S H k d v) : ∃ p vs, v = .ref p ∧ Sq K H p vs ∧ RepA K (fr B O H) ds vs := by
  cases d with
  | lst xs => cases e; obtain ⟨p, vs, a, b, c⟩ := h.lst_at j0 j hk; exact ⟨p, vs, a, .inl (SqL.of b), c⟩
  | tup xs => cases e; obtain ⟨p, vs, a, b, c⟩ := h.tup_at j0 j hk; exact ⟨p, vs, a, .inr (SqT.of b), c⟩
  | stp xs => cases e; obtain ⟨p, vs, a, b, c⟩ := h.stp_at j0 j hk; exact ⟨p, vs, a, .inr b, c⟩
  | sls xs => cases e; obtain ⟨p, vs, a, b, c⟩ := h.sls_at j0 j hk; exact ⟨p, vs, a, .inl b, c⟩
  | _ => cases e
theorem Rep.sq {H : Hp} {d : Da} {ds : List Da} (e : its d = some ds) {v : V} (h : Rep K H d v) : ∃ p vs, v = .ref p ∧ Sq K H p vs ∧ RepA K H ds vs := by
  cases h with
  | lst a b => cases e; exact ⟨_, _, rfl, .inl (SqL.of a), b⟩
  | tup a b => cases e; exact ⟨_, _, rfl, .inr (SqT.of a), b⟩
  | stp a b => cases e; exact ⟨_, _, rfl, .inr a, b⟩
  | sls a b => cases e; exact ⟨_, _, rfl, .inl a, b⟩
  | _ => cases e
theorem RepA.atI {H : Hp} {ds : List Da} {vs : List V} (h : RepA K H ds vs) {i : Int} {d : Da} (e : atI ds i = some d) : ∃ v, L2.atI vs i = some v ∧ Rep K H d v := by
  unfold L2.atI at e ⊢
  rw [← h.len]
  cases e1 : ixN ds.length i with
  | none => rw [e1] at e; cases e
  | some j => rw [e1] at e; exact h.get e
theorem op2_ix {k l : Kd} {x d : Da} {ds : List Da} {i : Int} (e : its x = some ds) (ha : atI ds i = some d) (hk : k ≠ .bw) (q : P .fz d) : Op2 K B (rIx K) (k, x) (l, .int i) P := fun O S H v u Q j0 j1 hS r1 r2 hq => by
  obtain ⟨p, vs, rfl, hs, ra⟩ := r1.sq_at j0 j1 hk e
  obtain ⟨w, e1, e2⟩ := ra.atI ha
  rw [r2.int_eq]
  exact w_ix hs e1 (hq .fz d w H (Same.refl _) e2 q)
theorem opn_len {k : Kd} {x : Da} {ds : List Da} (e : its x = some ds) (q : P .fz (.int ds.length)) : OpN K B (rLen K) [(k, x)] P := fun O S H vs Q j0 j1 s r hq => by
  cases r with
  | cons r1 r2 =>
    cases r2
    obtain ⟨p, ws, rfl, hs, ra⟩ := (r1.seen j0 j1).sq e
    refine w_len _ (j1.sq hs) ?_
    rw [← ra.len]
    exact hq .fz _ _ H (Same.refl _) (.int _) q
theorem opn_lenS {k : Kd} {x : Str} (hz : x.length ≤ sizeLine) (q : P .fz (.int x.length)) : OpN K B (rLen K) [(k, .str x)] P := fun O S H vs Q j0 j1 s r hq => by
  cases r with
  | cons r1 r2 =>
    cases r2
    rw [r1.str_eq]
    exact w_lenS hz (hq .fz _ _ H (Same.refl _) (.int _) q)
theorem opn_lenD {k : Kd} {ks : List Key} {ds : List Da} (hL : B.L = []) (q : P .fz (.int ks.length)) : OpN K B rLenD [(k, .dk ks ds)] P := fun O S H vs Q j0 j1 s r hq => by
  cases r with
  | cons r1 r2 =>
    cases r2
    have h := r1.seen j0 j1
    rw [vw_nil hL] at h
    cases h with
    | dk e k r =>
      refine ⟨_, _, rfl, e, ?_⟩
      rw [show (List.length _ : Int) = ks.length by rw [← k, List.length_map]]
      exact hq .fz _ _ H (Same.refl _) (.int _) q
theorem opn_int {k : Kd} {i : Int} (q : P .fz (.int i)) : OpN K B rInt [(k, .int i)] P := fun O S H vs Q j0 j1 s r hq => by
  cases r with
  | cons r1 r2 => cases r2; rw [r1.int_eq]; exact w_int (hq .fz _ _ H (Same.refl _) (.int _) q)
theorem opn_intB {k : Kd} {b : Bool} (q : P .fz (.int (if b then 1 else 0))) : OpN K B rInt [(k, .bl b)] P := fun O S H vs Q j0 j1 s r hq => by
  cases r with
  | cons r1 r2 => cases r2; rw [r1.bl_eq]; exact .inr ⟨b, rfl, hq .fz _ _ H (Same.refl _) (.int _) q⟩
theorem opn_abs {k : Kd} {i : Int} (q : P .fz (.int i.natAbs)) : OpN K B rAbs [(k, .int i)] P := fun O S H vs Q j0 j1 s r hq => by
  cases r with
  | cons r1 r2 => cases r2; rw [r1.int_eq]; exact w_abs (hq .fz _ _ H (Same.refl _) (.int _) q)
theorem opn_gcd {k l : Kd} {a b : Int} (q : P .fz (.int ((Nat.gcd a.natAbs b.natAbs : Nat) : Int))) : OpN K B rGcd [(k, .int a), (l, .int b)] P := fun O S H vs Q j0 j1 s r hq => by
  cases r with
  | cons r1 r2 => cases r2 with | cons r2 r3 => cases r3; rw [r1.int_eq, r2.int_eq]; exact w_gcd (hq .fz _ _ H (Same.refl _) (.int _) q)
theorem opn_list {k : Kd} {x : Da} {ds : List Da} (e : its x = some ds) (hk : k ≠ .bw) (q : P .nw (.lst ds)) : OpN K B (rListA K) [(k, x)] P := fun O S H vs Q j0 j1 s r hq => by
  cases r with
  | cons r1 r2 =>
    cases r2
    obtain ⟨p, ws, rfl, hs, ra⟩ := r1.sq_at j0 j1 hk e
    exact w_list hs fun l H2 n2 s2 e2 => hq .nw _ _ H2 s2 (repV_lst j1 s s2 n2 e2 ra) q
end
/-- tuple(x): a new tuple of a list, the same tuple -/
def rTupN (K : PySem.W.Frag) : List V → Hp → VK → Prop := fun xs H Q => ∃ p ys, xs = [.ref p] ∧ ((SqL K H p ys ∧ ∀ l H2, H l = none → Same H H2 → H2 l = some (.tup ys) → Q (.ref l) H2) ∨ (SqT K H p ys ∧ Q (.ref p) H))
theorem call_tupN {X : Cx} : CallR X (.type "tuple") (rTupN X.K) := CallR.imp call_tuple_of fun _ _ _ ⟨p, ys, h1, h2⟩ => ⟨p, ys, h1, h2.imp (fun h => ⟨h.1, fun l hl => h.2 l _ hl (Same.new hl) upd_same⟩) fun h => h⟩
theorem call_tupNK {X : Cx} {K : PySem.W.Frag} (hK : X.K = K) : CallR X (.type "tuple") (rTupN K) := hK ▸ call_tupN
/-! data as the library's data -/
mutual
def Da.py : Da → PyData
  | .non => .none
  | .bl b => .bool b
  | .int i => .int i
  | .str s => .str s
  | .lst ds => .list (Da.pyA ds)
  | .sls ds => .list (Da.pyA ds)
  | .tup ds => .tuple (Da.pyA ds)
  | .stp ds => .tuple (Da.pyA ds)
  | _ => .none
def Da.pyA : List Da → List PyData
  | [] => []
  | d :: ds => d.py :: Da.pyA ds
end
mutual
/-- no dicts, classes, instances; not deep -/
def Da.plain : Nat → Da → Bool
  | _, .non => true
  | _, .bl _ => true
  | _, .int _ => true
  | _, .str _ => true
  | n + 1, .lst ds => Da.plainA n ds
  | n + 1, .sls ds => Da.plainA n ds
  | n + 1, .tup ds => Da.plainA n ds
  | n + 1, .stp ds => Da.plainA n ds
  | _, _ => false
def Da.plainA : Nat → List Da → Bool
  | _, [] => true
  | n, d :: ds => d.plain n && Da.plainA n ds
end
theorem and_tt {a b : Bool} (h : (a && b) = true) : a = true ∧ b = true := by cases a <;> cases b <;> simp_all
section
variable {K : PySem.W.Frag} {G H : Hp} (e0 : ∀ a vs, G a = some (.lst vs) → H a = some (.lst vs)) (e1 : ∀ a vs, G a = some (.tup vs) → H a = some (.tup vs)) (el : ∀ a vs, SqL K G a vs → SqL K H a vs) (et : ∀ a vs, SqT K G a vs → SqT K H a vs)
include e0 e1 el et
mutual
theorem Rep.dp : ∀ {n : Nat} {d : Da} {v : V}, Rep K G d v → d.plain n = true → Dp K H v d.py
  | _, _, _, .non, _ => .non
  | _, _, _, .bl b, _ => .bl b
  | _, _, _, .int i, _ => .int i
  | _, _, _, .str s, _ => .str s
  | n + 1, _, _, .lst h r, e => .lst (SqL.of (e0 _ _ h)) (RepA.dp r e)
  | n + 1, _, _, .sls h r, e => .lst (el _ _ h) (RepA.dp r e)
  | n + 1, _, _, .tup h r, e => .tup (SqT.of (e1 _ _ h)) (RepA.dp r e)
  | n + 1, _, _, .stp h r, e => .tup (et _ _ h) (RepA.dp r e)
  | 0, _, _, .lst h r, e => nomatch e
  | 0, _, _, .sls h r, e => nomatch e
  | 0, _, _, .tup h r, e => nomatch e
  | 0, _, _, .stp h r, e => nomatch e
  | 0, _, _, .dk _ _ _, e => nomatch e
  | 0, _, _, .dt _ _ _, e => nomatch e
  | 0, _, _, .ins _ _ _, e => nomatch e
  | 0, _, _, .ty _, e => nomatch e
  | 0, _, _, .ref _, e => nomatch e
  | n + 1, _, _, .dk _ _ _, e => nomatch e
  | n + 1, _, _, .dt _ _ _, e => nomatch e
  | n + 1, _, _, .ins _ _ _, e => nomatch e
  | n + 1, _, _, .ty _, e => nomatch e
  | n + 1, _, _, .ref _, e => nomatch e
theorem RepA.dp : ∀ {n : Nat} {ds : List Da} {vs : List V}, RepA K G ds vs → Da.plainA n ds = true → DpAll K H vs (Da.pyA ds)
  | _, _, _, .nil, _ => .nil
  | n, _, _, .cons h r, e => .cons (Rep.dp h (and_tt e).1) (RepA.dp r (and_tt e).2)
end
end
theorem J.dp {K : PySem.W.Frag} {B : Bs} {O : List Addr} {H : Hp} (j : J B O H) {n : Nat} {d : Da} {v : V} (h : Rep K (vw B H) d v) (e : d.plain n = true) : Dp K H v d.py :=
  Rep.dp (fun _ _ e => j.real e nofun nofun) (fun _ _ e => j.real e nofun nofun) (fun _ _ => j.sl) (fun _ _ => j.st) h e
mutual
theorem Da.lay : ∀ {n : Nat} (d : Da), d.plain n = true → d.py.plain = true ∧ d.py.depth ≤ n
  | _, .non, _ => ⟨rfl, Nat.zero_le _⟩
  | _, .bl _, _ => ⟨rfl, Nat.zero_le _⟩
  | _, .int _, _ => ⟨rfl, Nat.zero_le _⟩
  | _, .str _, h => ⟨rfl, Nat.zero_le _⟩
  | n + 1, .lst ds, e => by obtain ⟨a, b⟩ := Da.layA ds (show Da.plainA n ds = true from e); exact ⟨a, Nat.succ_le_succ b⟩
  | n + 1, .sls ds, e => by obtain ⟨a, b⟩ := Da.layA ds (show Da.plainA n ds = true from e); exact ⟨a, Nat.succ_le_succ b⟩
  | n + 1, .tup ds, e => by obtain ⟨a, b⟩ := Da.layA ds (show Da.plainA n ds = true from e); exact ⟨a, Nat.succ_le_succ b⟩
  | n + 1, .stp ds, e => by obtain ⟨a, b⟩ := Da.layA ds (show Da.plainA n ds = true from e); exact ⟨a, Nat.succ_le_succ b⟩
  | 0, .lst _, e => nomatch e
  | 0, .sls _, e => nomatch e
  | 0, .tup _, e => nomatch e
  | 0, .stp _, e => nomatch e
  | 0, .dk _ _, e => nomatch e
  | 0, .dt _ _, e => nomatch e
  | 0, .ins _ _ _, e => nomatch e
  | 0, .ty _, e => nomatch e
  | 0, .ref _, e => nomatch e
  | n + 1, .dk _ _, e => nomatch e
  | n + 1, .dt _ _, e => nomatch e
  | n + 1, .ins _ _ _, e => nomatch e
  | n + 1, .ty _, e => nomatch e
  | n + 1, .ref _, e => nomatch e
theorem Da.layA : ∀ {n : Nat} (ds : List Da), Da.plainA n ds = true → PyData.plainAll (Da.pyA ds) = true ∧ PyData.depthAll (Da.pyA ds) ≤ n
  | _, [], _ => ⟨rfl, Nat.zero_le _⟩
  | n, d :: ds, e => by
    obtain ⟨a, b⟩ := Da.lay d (and_tt e).1
    obtain ⟨a2, b2⟩ := Da.layA ds (and_tt e).2
    refine ⟨?_, ?_⟩
    · show (d.py.plain && PyData.plainAll (Da.pyA ds)) = true
      rw [a, a2]; rfl
    · show max d.py.depth (PyData.depthAll (Da.pyA ds)) ≤ n
      omega
end
theorem Da.shaped {d : Da} {n : Nat} (hn : n ≤ 64) (h : d.plain n = true) : d.py.plain = true ∧ d.py.depth ≤ 64 := ⟨(d.lay h).1, Nat.le_trans (d.lay h).2 hn⟩
mutual
theorem py_refl : ∀ p : PyData, p.plain = true → PyData.eqv p p = true
  | .none, _ => rfl
  | .bool b, _ => by cases b <;> rfl
  | .int i, _ => by show (i == i) = true; simp
  | .str s, _ => by show (s == s) = true; simp
  | .list ds, h => py_reflA ds h
  | .tuple ds, h => py_reflA ds h
  | .dict _, h => nomatch h
theorem py_reflA : ∀ ps : List PyData, PyData.plainAll ps = true → PyData.eqvAll ps ps = true
  | [], _ => rfl
  | p :: ps, h => by
    show (PyData.eqv p p && PyData.eqvAll ps ps) = true
    have h := and_tt (show (p.plain && PyData.plainAll ps) = true from h)
    rw [py_refl p h.1, py_reflA ps h.2]; rfl
end
theorem eqv_self {d : Da} {n : Nat} (h : d.plain n = true) : PyData.eqv d.py d.py = true := py_refl _ (d.lay h).1
section
variable {K : PySem.W.Frag} {B : Bs} {env : List Sl} {P : Pd}
theorem opn_tuple {k : Kd} {x : Da} {ds : List Da} (e : its x = some ds) (hk : k ≠ .bw) (hs' : ∀ ds, x ≠ .stp ds) (q : P .fz (.tup ds)) : OpN K B (rTupN K) [(k, x)] P := fun O S H vs Q j0 j1 s r hq => by
  cases r with
  | cons r1 r2 =>
    cases r2
    cases x with
    | lst xs =>
      cases e
      obtain ⟨p, ws, rfl, hs, ra⟩ := r1.lst_at j0 j1 hk
      exact ⟨p, ws, rfl, .inl ⟨SqL.of hs, fun l H2 n2 s2 e2 => hq .fz _ _ H2 s2 (repV_tup j1 s2 n2 e2 ra) q⟩⟩
    | sls xs =>
      cases e
      obtain ⟨p, ws, rfl, hs, ra⟩ := r1.sls_at j0 j1 hk
      exact ⟨p, ws, rfl, .inl ⟨hs, fun l H2 n2 s2 e2 => hq .fz _ _ H2 s2 (repV_tup j1 s2 n2 e2 ra) q⟩⟩
    | tup xs =>
      cases e
      obtain ⟨p, ws, rfl, hs, ra⟩ := r1.tup_at j0 j1 hk
      refine ⟨p, ws, rfl, .inr ⟨SqT.of hs, hq .fz _ _ H (Same.refl _) ?_ q⟩⟩
      cases k with
      | fz => exact r1
      | nw => exact RepV.fz j0 r1 (.inr rfl)
      | ow => obtain ⟨_, _, _, _, _, h⟩ := r1; cases h
      | bw => exact absurd rfl hk
    | stp xs =>
      exact absurd rfl (hs' xs)
    | _ => cases e
/-! equality -/
theorem op2_eqI {k l : Kd} {i j : Int} (q : P .fz (.bl (decide (i = j)))) : Op2 K B (rEqA K) (k, .int i) (l, .int j) P := fun O S H v u Q j0 j1 hS r1 r2 hq => by
  rw [r1.int_eq, r2.int_eq]; exact w_eqI (hq .fz _ _ H (Same.refl _) (.bl _) q)
theorem op2_neI {k l : Kd} {i j : Int} (q : P .fz (.bl (!decide (i = j)))) : Op2 K B (rNeA K) (k, .int i) (l, .int j) P := fun O S H v u Q j0 j1 hS r1 r2 hq => by
  rw [r1.int_eq, r2.int_eq]; exact w_neI (hq .fz _ _ H (Same.refl _) (.bl _) q)
theorem op2_eqS {k l : Kd} {i j : Str} (q : P .fz (.bl (decide (i = j)))) : Op2 K B (rEqA K) (k, .str i) (l, .str j) P := fun O S H v u Q j0 j1 hS r1 r2 hq => by
  rw [r1.str_eq, r2.str_eq]; exact w_eqS (hq .fz _ _ H (Same.refl _) (.bl _) q)
theorem op2_neS {k l : Kd} {i j : Str} (q : P .fz (.bl (!decide (i = j)))) : Op2 K B (rNeA K) (k, .str i) (l, .str j) P := fun O S H v u Q j0 j1 hS r1 r2 hq => by
  rw [r1.str_eq, r2.str_eq]; exact w_neS (hq .fz _ _ H (Same.refl _) (.bl _) q)
theorem op2_eqB {k l : Kd} {a b : Bool} (q : P .fz (.bl (decide (a = b)))) : Op2 K B (rEqA K) (k, .bl a) (l, .bl b) P := fun O S H v u Q j0 j1 hS r1 r2 hq => by
  rw [r1.bl_eq, r2.bl_eq]
  refine .inl ⟨rfl, ?_⟩
  rw [show decide (V.bl a = V.bl b) = decide (a = b) by cases a <;> cases b <;> rfl]
  exact hq .fz _ _ H (Same.refl _) (.bl _) q
theorem op2_neB {k l : Kd} {a b : Bool} (q : P .fz (.bl (!decide (a = b)))) : Op2 K B (rNeA K) (k, .bl a) (l, .bl b) P := fun O S H v u Q j0 j1 hS r1 r2 hq => by
  rw [r1.bl_eq, r2.bl_eq]
  refine .inl ⟨rfl, ?_⟩
  rw [show decide (V.bl a = V.bl b) = decide (a = b) by cases a <;> cases b <;> rfl]
  exact hq .fz _ _ H (Same.refl _) (.bl _) q
theorem op2_eqD {k l : Kd} {x y : Da} (h1 : x.plain 60 = true) (h2 : y.plain 60 = true) (q : P .fz (.bl (PyData.eqv x.py y.py))) : Op2 K B (rEqA K) (k, x) (l, y) P := fun O S H v u Q j0 j1 hS r1 r2 hq =>
  .inr ⟨_, _, j1.dp (r1.seen j0 j1) h1, j1.dp (r2.seen j0 j1) h2, (Da.shaped (n := 60) (by decide) h1).1, (Da.shaped (n := 60) (by decide) h2).1, (Da.shaped (n := 60) (by decide) h1).2, (hq .fz _ _ H (Same.refl _) (.bl _) q)⟩
theorem op2_neD {k l : Kd} {x y : Da} (h1 : x.plain 60 = true) (h2 : y.plain 60 = true) (q : P .fz (.bl (!PyData.eqv x.py y.py))) : Op2 K B (rNeA K) (k, x) (l, y) P := fun O S H v u Q j0 j1 hS r1 r2 hq =>
  .inr ⟨_, _, j1.dp (r1.seen j0 j1) h1, j1.dp (r2.seen j0 j1) h2, (Da.shaped (n := 60) (by decide) h1).1, (Da.shaped (n := 60) (by decide) h2).1, (Da.shaped (n := 60) (by decide) h1).2, (hq .fz _ _ H (Same.refl _) (.bl _) q)⟩
theorem op2_eqSame {k l : Kd} {x : Da} (h1 : x.plain 60 = true) (q : P .fz (.bl true)) : Op2 K B (rEqA K) (k, x) (l, x) P := op2_eqD h1 h1 (by rw [eqv_self h1]; exact q)
theorem op2_neSame {k l : Kd} {x : Da} (h1 : x.plain 60 = true) (q : P .fz (.bl false)) : Op2 K B (rNeA K) (k, x) (l, x) P := op2_neD h1 h1 (by rw [eqv_self h1]; exact q)
/-- is it None? -/
def Da.isN : Da → Bool
  | .non => true
  | _ => false
theorem rep_isN {H : Hp} {d : Da} {v : V} (h : Rep K H d v) : decide (v = V.non) = d.isN := by cases h <;> rfl
theorem op2_is {k l : Kd} {x : Da} (q : P .fz (.bl x.isN)) : Op2 K B (fun x y H Q => y = V.non ∧ Q (V.bl (decide (x = V.non))) H) (k, x) (l, .non) P := fun O S H v u Q j0 j1 hS r1 r2 hq => by
  refine ⟨r2.non_eq, ?_⟩
  rw [rep_isN (r1.seen j0 j1)]
  exact hq .fz _ _ H (Same.refl _) (.bl _) q
theorem op2_isNot {k l : Kd} {x : Da} (q : P .fz (.bl (!x.isN))) : Op2 K B (fun x y H Q => y = V.non ∧ Q (V.bl (!decide (x = V.non))) H) (k, x) (l, .non) P := fun O S H v u Q j0 j1 hS r1 r2 hq => by
  refine ⟨r2.non_eq, ?_⟩
  rw [rep_isN (r1.seen j0 j1)]
  exact hq .fz _ _ H (Same.refl _) (.bl _) q
/-! isinstance -/
def Da.tyN : Da → String
  | .non => "NoneType"
  | .bl _ => "bool"
  | .int _ => "int"
  | .str _ => "str"
  | .lst _ => "list"
  | .sls _ => "list"
  | .tup _ => "tuple"
  | .stp _ => "tuple"
  | .dk _ _ => "dict"
  | _ => "?"
theorem rep_ty {O : List Addr} {H : Hp} (j : J B O H) {d : Da} {v : V} (h : Rep K (vw B H) d v) (n : d.tyN ≠ "?") : TyX K H v (.type d.tyN) := by
  cases h with
  | non => exact .base .non
  | bl b => exact .base (.bl b)
  | int i => exact .base (.int i)
  | str s => exact .base (.str s)
  | lst h r => exact .base (.lst (j.real h nofun nofun))
  | sls h r => exact tyx_l (j.sl h)
  | tup h r => exact .base (.tup (j.real h nofun nofun))
  | stp h r => exact tyx_t (j.st h)
  | dk h _ _ => exact (j.rd h).elim (fun h => .base (.dK h)) fun ⟨_, h⟩ => .fDict h
  | _ => exact absurd rfl n
def isaB (t c : String) : Bool := t == c || (t == "bool" && c == "int")
theorem kit_isa {x : Da} (n : x.tyN ≠ "?") {c : String} (hc : (["int", "bool", "str", "list", "tuple", "dict"].contains c) = true) : kitB x.tyN c = some (isaB x.tyN c) := by
  have key : ∀ t ∈ ["NoneType", "bool", "int", "str", "list", "tuple", "dict"], ∀ c ∈ ["int", "bool", "str", "list", "tuple", "dict"], kitB t c = some (isaB t c) := by decide +kernel
  exact key _ (by cases x <;> first | exact absurd rfl n | simp [Da.tyN]) c (by simpa using hc)
theorem opn_isi {k l : Kd} {x : Da} {c : String} (b : Bool) (n : decide (x.tyN = "?") = false) (hc : (["int", "bool", "str", "list", "tuple", "dict"].contains c) = true) (e : isaB x.tyN c = b) (q : P .fz (.bl b)) : OpN K B (rIsA K) [(k, x), (l, .ty c)] P := fun O S H vs Q j0 j1 s r hq => by
  cases r with
  | cons r1 r2 => cases r2 with | cons r2 r3 => cases r3; rw [r2.ty_eq]; exact w_isi (rep_ty j1 (r1.seen j0 j1) (of_decide_eq_false n)) (by rw [kit_isa (of_decide_eq_false n) hc, e]) (hq .fz _ _ H (Same.refl _) (.bl _) q)
/-! truth -/
def Da.tru : Da → Bool
  | .bl b => b
  | .int i => i != 0
  | .str s => (s.length : Int) != 0
  | .lst ds => !ds.isEmpty
  | .sls ds => !ds.isEmpty
  | .tup ds => !ds.isEmpty
  | .stp ds => !ds.isEmpty
  | .dk ks _ => !ks.isEmpty
  | _ => false
def Da.truOk (B : Bs) : Da → Prop
  | .non => True
  | .bl _ => True
  | .int _ => True
  | .str s => s.length ≤ sizeLine
  | .lst _ => True
  | .sls _ => True
  | .tup _ => True
  | .stp _ => True
  | .dk _ _ => B.L = []
  | _ => False
theorem RepA.emp {H : Hp} {ds : List Da} {vs : List V} (h : RepA K H ds vs) : ds.isEmpty = vs.isEmpty := by cases h <;> rfl
theorem rep_tru {O : List Addr} {H : Hp} (j : J B O H) {d : Da} {v : V} (h : Rep K (vw B H) d v) (n : d.truOk B) : TruV K v H d.tru := by
  cases h with
  | non => rfl
  | bl b => rfl
  | int i => rfl
  | str s => exact ⟨n, rfl⟩
  | lst h r => exact .inl ⟨_, SqL.of (j.real h nofun nofun), by show (!List.isEmpty _) = _; rw [r.emp]⟩
  | sls h r => exact .inl ⟨_, j.sl h, by show (!List.isEmpty _) = _; rw [r.emp]⟩
  | tup h r => exact .inr (.inl ⟨_, SqT.of (j.real h nofun nofun), by show (!List.isEmpty _) = _; rw [r.emp]⟩)
  | stp h r => exact .inr (.inl ⟨_, j.st h, by show (!List.isEmpty _) = _; rw [r.emp]⟩)
  | dk h k r => rw [vw_nil n] at h; exact .inr (.inr ⟨_, h, by show (!List.isEmpty _) = _; rw [← k, List.isEmpty_map]⟩)
  | _ => exact n.elim
theorem tt_tru {te : TE} {Pb : Bool → Prop} (h : Ev K B te env fun _ d => d.truOk B ∧ Pb d.tru) : Tt K B (fun σ H Q => te σ H fun x H' => ∃ k, TruV K x H' k ∧ Q k H') env Pb := fun O σ H Q rl hq =>
  h O σ H _ rl fun k d v H1 s1 r1 ⟨n, p⟩ => ⟨_, rep_tru (rl.j.step s1) (r1.seen rl.j (rl.j.step s1)) n, hq _ H1 s1 p⟩
/-! ### statements -/
variable {D : DE}
theorem Ft.with {G : Hp} {De : Ends} (f : Ft K B G D De) {N : L2.St → Hp → Prop} {M : List Sl → Prop} (h : ∀ env O σ H, Rl K B env O σ H → Same G (fr B O H) → M env → N σ H) : Ft K B G { D with nx := M } { De with nx := N } := ⟨h, f.rt, f.bk, f.ct⟩
theorem sd_seq {t u : TS} (h : Sd K B t { D with nx := fun env => Sd K B u D env } env) : Sd K B (tSeq t u) D env := fun O σ H De r f =>
  h O σ H _ r (f.with fun env O σ H r s q => q O σ H De r (f.more s))
theorem sd_next (h : D.nx env) : Sd K B tNext D env := fun O σ H De r f => f.nx env O σ H r (Same.refl _) h
theorem sd_asg {te : TE} {g : TG} (h : Ev K B te env fun k d => Gt K B g k d env D.nx) : Sd K B (tAsg te g) D env := fun O σ H De r f =>
  h O σ H _ r fun k d v H1 s1 r1 q => q O σ H H1 v _ r s1 r1 fun env' O' σ' r' s' p => f.nx env' O' σ' H1 r' s' p
theorem gt_name {i : Nat} {k : Kd} {d : Da} {Pe : List Sl → Prop} (hk : k = .fz ∨ k = .nw) (q : Pe (env.set i (.dat d))) : Gt K B (gName i) k d env Pe := fun O σ S H v Q r s rv hq =>
  hq _ O _ ((r.step s).put i (rv.fz r.j hk)) (fr_mono s) q
theorem gt_own {i : Nat} {d : Da} {Pe : List Sl → Prop} (hi : i < env.length) (q : Pe (env.set i (.own d))) : Gt K B (gName i) .nw d env Pe := fun O σ S H v Q r s rv hq => by
  obtain ⟨p, u, rfl, h1, h2, h3⟩ := rv
  obtain ⟨r', s'⟩ := r.take s i hi h1 h2 h3
  exact hq _ _ _ r' s' q
/-- targets side by side -/
def GtA (K : PySem.W.Frag) (B : Bs) (g : TGs) (ds : List Da) (env : List Sl) (P : List Sl → Prop) : Prop := ∀ (O : List Addr) (σ : L2.St) (H : Hp) (vs : List V) (Q : L2.St → Hp → Prop), Rl K B env O σ H → RepA K (fr B O H) ds vs → (∀ env' σ', Rl K B env' O σ' H → P env' → Q σ' H) → g vs σ H Q
theorem gta_nil {Pe : List Sl → Prop} (q : Pe env) : GtA K B gNil [] env Pe := fun O σ H vs Q r ra hq => by cases ra; exact g_nil (hq env σ r q)
theorem gta_name {i : Nat} {g : TGs} {d : Da} {ds : List Da} {Pe : List Sl → Prop} (q : GtA K B g ds (env.set i (.dat d)) Pe) : GtA K B (gCons (gName i) g) (d :: ds) env Pe := fun O σ H vs Q r ra hq => by
  cases ra with
  | cons h ra => exact g_cons (w_name (q O _ H _ Q (r.put i h) ra hq))
theorem gta_tup {n : Nat} {g g2 : TGs} {d : Da} {es ds : List Da} {Pe : List Sl → Prop} (e : its d = some es) (hn : es.length = n) (q : GtA K B g2 es env fun env' => GtA K B g ds env' Pe) : GtA K B (gCons (gSeq K n g2) g) (d :: ds) env Pe := fun O σ H vs Q r ra hq => by
  cases ra with
  | cons h ra =>
    refine g_cons ?_
    obtain ⟨p, ws, rfl, hs, rb⟩ := h.sq e
    exact ⟨p, ws, rfl, r.j.sq (Same.sq (fr_same r.j) hs), by rw [← rb.len]; exact hn, q O σ H ws _ r rb fun env' σ' r' q' => q' O σ' H _ Q r' ra hq⟩
theorem gt_tup {n : Nat} {g : TGs} {k : Kd} {d : Da} {ds : List Da} {Pe : List Sl → Prop} (e : its d = some ds) (hn : ds.length = n) (hk : k ≠ .bw) (q : GtA K B g ds env Pe) : Gt K B (gSeq K n g) k d env Pe := fun O σ S H v Q r s rv hq => by
  obtain ⟨p, ws, rfl, hs, rb⟩ := rv.sq_at r.j (r.j.step s) hk e
  exact ⟨p, ws, rfl, hs, by rw [← rb.len]; exact hn, q O σ H ws Q (r.step s) rb fun env' σ' r' q' => hq env' O σ' r' (fr_mono s) q'⟩
theorem sd_drop {te : TE} (h : Ev K B te env fun _ _ => D.nx env) : Sd K B (tDrop te) D env := fun O σ H De r f =>
  h O σ H _ r fun k d v H1 s1 r1 q => f.nx env O σ H1 (r.step s1) (fr_mono s1) q
/-- what is returned may be kept, for the def is done -/
theorem sd_ret {te : TE} (h : Ev K B te env fun _ d => D.rt .fz d) : Sd K B (tRet te) D env := fun O σ H De r f =>
  h O σ H _ r fun k d v H1 s1 r1 q => f.rt .fz d v [] H1 (.inl rfl) (r.j.step s1).nil (r1.all r.j (r.j.step s1)) q
/-- .. it is new -/
theorem sd_retN {te : TE} (h : Ev K B te env fun k d => (k = .nw ∨ k = .ow) ∧ D.rt .nw d) : Sd K B (tRet te) D env := fun O σ H De r f =>
  h O σ H _ r fun k d v H1 s1 r1 ⟨hk, q⟩ => f.rt .nw d v [] H1 (.inr rfl) (r.j.step s1).nil (by
    rcases hk with rfl | rfl
    · obtain ⟨p, u, e1, e2, e3, e4⟩ := r1
      exact ⟨p, u, e1, (r.j.fresh e2).2.1, e3, e4.mono (fr_less fun a ha => by rw [List.mem_singleton.mp ha]; exact List.mem_cons_self)⟩
    · obtain ⟨p, u, e1, e2, e3, e4⟩ := r1
      exact ⟨p, u, e1, (r.j.own p e2).1, e3, e4.mono (fr_less fun a ha => by rw [List.mem_singleton.mp ha]; exact e2)⟩) q
theorem sd_ret0 (h : D.rt .fz .non) : Sd K B tRetN D env := fun O σ H De r f => f.rt .fz .non .non [] H (.inl rfl) r.j.nil .non h
theorem sd_if {c : TT} {t u : TS} (h : Tt K B c env fun b => if b = true then Sd K B t D env else Sd K B u D env) : Sd K B (tIfS c t u) D env := fun O σ H De r f =>
  h O σ H _ r fun b H1 s1 q => by
    cases b with
    | true => rw [if_pos rfl] at q; exact iteT (q O σ H1 De (r.step s1) (f.more (fr_mono s1)))
    | false => rw [if_neg (by decide)] at q; exact iteF (q O σ H1 De (r.step s1) (f.more (fr_mono s1)))
theorem sd_brk (h : D.bk env) : Sd K B tBreak D env := fun O σ H De r f => f.bk env O σ H r (Same.refl _) h
theorem sd_cont (h : D.ct env) : Sd K B tCont D env := fun O σ H De r f => f.ct env O σ H r (Same.refl _) h
theorem sd_cut {t u : TS} (M : List Sl → Prop) (h : Sd K B t { D with nx := M } env) (k : ∀ env', M env' → Sd K B u D env') : Sd K B (tCut t u) D env := fun O σ H De r f =>
  ⟨fun σ' H' => ∃ env' O', Rl K B env' O' σ' H' ∧ Same (fr B O H) (fr B O' H') ∧ M env', h O σ H _ r (f.with fun env O σ H r s q => ⟨env, O, r, s, q⟩), fun σ' H' ⟨env', O', r', s', q⟩ => k env' q O' σ' H' De r' (f.more s')⟩
/-- a slot's object becomes fixed -/
theorem sd_frz {ts : TS} (i : Nat) {d : Da} (e : env[i]? = some (.own d)) (h : Sd K B ts D (env.set i (.dat d))) : Sd K B ts D env := fun O σ H De r f => by
  obtain ⟨O', r', s'⟩ := r.frz e
  exact h O' σ H De r' (f.more s')
/-- a slot is forgotten -/
theorem sd_wipe {ts : TS} (i : Nat) (h : Sd K B ts D (env.set i .un)) : Sd K B ts D env := fun O σ H De r f => by
  have r' := r.wipe1 i (σ[i]?.getD none)
  refine h O σ H De ?_ f
  have e : σ.set i (σ[i]?.getD none) = σ := by
    by_cases hi : i < σ.length
    · rw [List.getElem?_eq_getElem hi]; exact List.set_getElem_self hi
    · exact List.set_eq_of_length_le (by omega)
  rw [e] at r'
  exact r'
theorem sd_imp {ts : TS} {D' : DE} (h : Sd K B ts D' env) (h1 : ∀ e, D'.nx e → D.nx e) (h2 : ∀ k d, D'.rt k d → D.rt k d) (h3 : ∀ e, D'.bk e → D.bk e) (h4 : ∀ e, D'.ct e → D.ct e) : Sd K B ts D env := fun O σ H De r f =>
  h O σ H De r ⟨fun env O σ H r s q => f.nx env O σ H r s (h1 env q), fun k d v O H hk j rv q => f.rt k d v O H hk j rv (h2 k d q), fun env O σ H r s q => f.bk env O σ H r s (h3 env q), fun env O σ H r s q => f.ct env O σ H r s (h4 env q)⟩
/-! ### own objects change -/
theorem sd_app {i : Nat} {te : TE} {ds : List Da} (e : env[i]? = some (.own (.lst ds))) (h : Ev K B te env fun k d => (k = .fz ∨ k = .nw) ∧ ds.length < sizeLine ∧ D.nx (env.set i (.own (.lst (ds ++ [d]))))) :
    Sd K B (tDrop (tBM K "list" rAppendA (tVar i) (tCons te tNil))) D env := fun O σ H De r f => by
  obtain ⟨p, u, e1, hp, e2, hr, q⟩ := r.chg e
  cases hr with
  | @lst _ vs ra =>
    refine ⟨.ref p, e1, .inl ⟨rfl, vs, SqL.of e2⟩, h O σ H _ r fun k d v H1 s1 r1 ⟨hk, hz, hn⟩ => ?_⟩
    obtain ⟨p', u', e1', hp', e2', hr', q'⟩ := (r.step s1).chg e
    rw [e1] at e1'
    cases e1'
    rw [s1 _ _ e2] at e2'
    cases e2'
    refine ⟨p, vs, v, rfl, rfl, s1 _ _ e2, by rw [← ra.len]; exact hz, fun H2 b2 e3 => ?_⟩
    have sg := fr_but (B := B) hp b2
    exact f.nx _ O σ H2 (q' H2 _ _ b2 e3 (.lst (((ra.mono (fr_mono s1)).app (.cons (r1.fz r.j hk) .nil)).mono sg))) ((fr_mono s1).trans sg) hn
theorem sd_setI {i : Nat} {te ti : TE} {ds : List Da} (e : env[i]? = some (.own (.lst ds))) (h : Ev K B te env fun k d => (k = .fz ∨ k = .nw) ∧ Ev K B ti env fun _ x => ∃ (j : Int) (n : Nat), x = .int j ∧ ixN ds.length j = some n ∧ D.nx (env.set i (.own (.lst (ds.set n d))))) :
    Sd K B (tAsg te (gSub (tVar i) ti rSetL)) D env := fun O σ H De r f =>
  h O σ H _ r fun k d v H1 s1 r1 ⟨hk, h2⟩ => by
    obtain ⟨p, u, e1, hp, e2, hr, q⟩ := (r.step s1).chg e
    cases hr with
    | @lst _ vs ra =>
      refine ⟨.ref p, e1, h2 O σ H1 _ (r.step s1) fun l x w H2 s2 r2 ⟨j, n, ex, ej, hn⟩ => ?_⟩
      subst ex
      rw [r2.int_eq]
      obtain ⟨p', u', e1', hp', e2', hr', q'⟩ := ((r.step s1).step s2).chg e
      rw [e1] at e1'
      cases e1'
      rw [s2 _ _ e2] at e2'
      cases e2'
      refine ⟨p, vs, j, n, rfl, rfl, s2 _ _ e2, by rw [← ra.len]; exact ej, ?_⟩
      have b2 : But p H2 (upd H2 p (.lst (vs.set n v))) := fun b hb => upd_ne hb
      have sg := fr_but (B := B) hp b2
      exact f.nx _ O σ _ (q' _ _ _ b2 upd_same (.lst (((ra.mono (fr_mono s2)).set n ((r1.fz r.j hk).mono (fr_mono s2))).mono sg))) (((fr_mono s1).trans (fr_mono s2)).trans sg) hn
/-! ### dicts -/
def putG {κ α : Type} [DecidableEq κ] (kvs : List (κ × α)) (k : κ) (v : α) : List (κ × α) := if (kvs.any fun kv => decide (kv.1 = k)) = true then kvs.map (fun kv => if kv.1 = k then (kv.1, v) else kv) else kvs ++ [(k, v)]
def getG {κ α : Type} [DecidableEq κ] (kvs : List (κ × α)) (k : κ) : Option α := (kvs.find? fun kv => decide (kv.1 = k)).map (·.2)
def dkp (kvs : List (Key × Da)) : Da := .dk (kvs.map (·.1)) (kvs.map (·.2))
def dtp (kvs : List (List Key × Da)) : Da := .dt (kvs.map (·.1)) (kvs.map (·.2))
/-- the pairs of a dict stand for those of its object -/
def KvR {κ : Type} (K : PySem.W.Frag) (G : Hp) (kvs : List (κ × Da)) (us : List (κ × V)) : Prop := us.map (·.1) = kvs.map (·.1) ∧ RepA K G (kvs.map (·.2)) (us.map (·.2))
theorem KvR.mono {κ : Type} {G G' : Hp} {kvs : List (κ × Da)} {us : List (κ × V)} (h : KvR K G kvs us) (s : Same G G') : KvR K G' kvs us := ⟨h.1, h.2.mono s⟩
theorem KvR.cons_inv {κ : Type} {G : Hp} {x : κ × Da} {kvs : List (κ × Da)} {us : List (κ × V)} (h : KvR K G (x :: kvs) us) : ∃ u us', us = u :: us' ∧ u.1 = x.1 ∧ Rep K G x.2 u.2 ∧ KvR K G kvs us' := by
  obtain ⟨h1, h2⟩ := h
  cases us with
  | nil => cases h1
  | cons u us =>
    rw [List.map_cons, List.map_cons] at h1 h2
    injection h1 with a b
    cases h2 with
    | cons r ra => exact ⟨u, us, rfl, a, r, b, ra⟩
theorem KvR.get {κ : Type} [DecidableEq κ] {G : Hp} {k : κ} : ∀ {kvs : List (κ × Da)} {us : List (κ × V)}, KvR K G kvs us → (getG kvs k = none ∧ valV us k = none) ∨ ∃ d v, getG kvs k = some d ∧ valV us k = some v ∧ Rep K G d v
  | [], us, h => by
    have : us = [] := List.map_eq_nil_iff.mp h.1
    subst this
    exact .inl ⟨rfl, rfl⟩
  | x :: kvs, us, h => by
    obtain ⟨u, us', rfl, e, r, t⟩ := h.cons_inv
    by_cases z : x.1 = k
    · refine .inr ⟨x.2, u.2, ?_, ?_, r⟩
      · unfold getG; rw [List.find?_cons_of_pos (by simpa using z)]; rfl
      · unfold valV; rw [List.find?_cons_of_pos (by simpa [e] using z)]; rfl
    · have e1 : getG (x :: kvs) k = getG kvs k := by unfold getG; rw [List.find?_cons_of_neg (by simpa using z)]
      have e2 : valV (u :: us') k = valV us' k := by unfold valV; rw [List.find?_cons_of_neg (by simpa [e] using z)]
      rw [e1, e2]
      exact KvR.get t
theorem KvR.any {κ : Type} [DecidableEq κ] {G : Hp} {k : κ} : ∀ {kvs : List (κ × Da)} {us : List (κ × V)}, KvR K G kvs us → (kvs.any fun kv => decide (kv.1 = k)) = us.any fun kv => decide (kv.1 = k)
  | [], us, h => by
    have : us = [] := List.map_eq_nil_iff.mp h.1
    subst this
    rfl
  | x :: kvs, us, h => by
    obtain ⟨u, us', rfl, e, r, t⟩ := h.cons_inv
    rw [List.any_cons, List.any_cons, t.any, e]
theorem KvR.map {κ : Type} [DecidableEq κ] {G : Hp} {k : κ} {d : Da} {v : V} (q : Rep K G d v) : ∀ {kvs : List (κ × Da)} {us : List (κ × V)}, KvR K G kvs us → KvR K G (kvs.map fun kv => if kv.1 = k then (kv.1, d) else kv) (us.map fun kv => if kv.1 = k then (kv.1, v) else kv)
  | [], us, h => by
    have : us = [] := List.map_eq_nil_iff.mp h.1
    subst this
    exact ⟨rfl, .nil⟩
  | x :: kvs, us, h => by
    obtain ⟨u, us', rfl, e, r, t⟩ := h.cons_inv
    obtain ⟨a, b⟩ := KvR.map q t
    by_cases z : x.1 = k
    · have z2 : u.1 = k := e.trans z
      rw [List.map_cons, List.map_cons, if_pos z, if_pos z2]
      refine ⟨?_, ?_⟩
      · rw [List.map_cons, List.map_cons, a, e]
      · rw [List.map_cons, List.map_cons]; exact .cons q b
    · have z2 : ¬ u.1 = k := fun y => z (e.symm.trans y)
      rw [List.map_cons, List.map_cons, if_neg z, if_neg z2]
      refine ⟨?_, ?_⟩
      · rw [List.map_cons, List.map_cons, a, e]
      · rw [List.map_cons, List.map_cons]; exact .cons r b
theorem KvR.put {κ : Type} [DecidableEq κ] {G : Hp} {k : κ} {d : Da} {v : V} (q : Rep K G d v) {kvs : List (κ × Da)} {us : List (κ × V)} (h : KvR K G kvs us) : KvR K G (putG kvs k d) (putK us k v) := by
  unfold putG putK
  rw [h.any]
  split
  · exact KvR.map q h
  · refine ⟨?_, ?_⟩
    · rw [List.map_append, List.map_append, h.1]; rfl
    · rw [List.map_append, List.map_append]; exact h.2.app (.cons q .nil)
theorem KvR.len {κ : Type} {G : Hp} {kvs : List (κ × Da)} {us : List (κ × V)} (h : KvR K G kvs us) : us.length = kvs.length := by
  have := congrArg List.length h.1
  rw [List.length_map, List.length_map] at this
  exact this
/-- a datum as a key -/
def keyD : Da → Option Key
  | .int i => some (.inl i)
  | .str s => some (.inr s)
  | _ => none
theorem rep_key {H : Hp} {d : Da} {v : V} {k : Key} (e : keyD d = some k) (h : Rep K H d v) : v = kV k := by
  cases h with
  | int i => cases e; rfl
  | str s => cases e; rfl
  | _ => cases e
def keysD : List Da → Option (List Key)
  | [] => some []
  | d :: ds => match keyD d, keysD ds with
    | some k, some ks => some (k :: ks)
    | _, _ => none
theorem rep_keys {H : Hp} : ∀ {ds : List Da} {vs : List V} {ks : List Key}, keysD ds = some ks → RepA K H ds vs → vs = ks.map kV
  | [], _, ks, e, .nil => by cases e; rfl
  | d :: ds, _, ks, e, .cons h r => by
    unfold keysD at e
    cases e1 : keyD d with
    | none => rw [e1] at e; cases e
    | some k =>
      cases e2 : keysD ds with
      | none => rw [e1, e2] at e; cases e
      | some ks' =>
        rw [e1, e2] at e
        cases e
        rw [rep_key e1 h, rep_keys e2 r]
        rfl
theorem HoR.dkp_inv {G : Hp} {kvs : List (Key × Da)} {u : HO} (h : HoR K G (dkp kvs) u) : ∃ us, u = .dK us ∧ KvR K G kvs us := by
  cases h with
  | dk e r => exact ⟨_, rfl, e, r⟩
theorem HoR.dtp_inv {G : Hp} {kvs : List (List Key × Da)} {u : HO} (h : HoR K G (dtp kvs) u) : ∃ us, u = .dT us ∧ KvR K G kvs us := by
  cases h with
  | dt e r => exact ⟨_, rfl, e, r⟩
theorem RepV.dkp_at {O : List Addr} {S H : Hp} (j0 : J B O S) (j : J B O H) {k : Kd} (hk : k ≠ .bw) {kvs : List (Key × Da)} {v : V} (h : RepV K B O S H k (dkp kvs) v) : ∃ p us, v = .ref p ∧ Rd H p (.dK us) ∧ KvR K (fr B O H) kvs us := by
  cases k with
  | fz => cases h with | dk e a b => exact ⟨_, _, rfl, j.rd (fr_same j _ _ e), a, b⟩
  | bw => exact absurd rfl hk
  | ow => obtain ⟨p, u, e1, e2, e3, h⟩ := h; obtain ⟨us, rfl, q⟩ := h.dkp_inv; exact ⟨p, us, e1, .inl e3, q⟩
  | nw => obtain ⟨p, u, e1, e2, e3, h⟩ := h; obtain ⟨us, rfl, q⟩ := h.dkp_inv; exact ⟨p, us, e1, .inl e3, q.mono (fr_less fun a ha => List.mem_cons_of_mem _ ha)⟩
theorem RepV.dtp_at {O : List Addr} {S H : Hp} (j0 : J B O S) (j : J B O H) {k : Kd} (hk : k ≠ .bw) {kvs : List (List Key × Da)} {v : V} (h : RepV K B O S H k (dtp kvs) v) : ∃ p us, v = .ref p ∧ Rd H p (.dT us) ∧ KvR K (fr B O H) kvs us := by
  cases k with
  | fz => cases h with | dt e a b => exact ⟨_, _, rfl, j.rd (fr_same j _ _ e), a, b⟩
  | bw => exact absurd rfl hk
  | ow => obtain ⟨p, u, e1, e2, e3, h⟩ := h; obtain ⟨us, rfl, q⟩ := h.dtp_inv; exact ⟨p, us, e1, .inl e3, q⟩
  | nw => obtain ⟨p, u, e1, e2, e3, h⟩ := h; obtain ⟨us, rfl, q⟩ := h.dtp_inv; exact ⟨p, us, e1, .inl e3, q.mono (fr_less fun a ha => List.mem_cons_of_mem _ ha)⟩
def isDk (k : Kd) (x : Da) (Q : List (Key × Da) → Prop) : Prop := ∃ kvs, x = dkp kvs ∧ k ≠ .bw ∧ Q kvs
theorem dk_fz {kvs : List (Key × Da)} {Q : List (Key × Da) → Prop} (q : Q kvs) : isDk .fz (dkp kvs) Q := ⟨kvs, rfl, nofun, q⟩
theorem dk_ow {kvs : List (Key × Da)} {Q : List (Key × Da) → Prop} (q : Q kvs) : isDk .ow (dkp kvs) Q := ⟨kvs, rfl, nofun, q⟩
theorem dk_nw {kvs : List (Key × Da)} {Q : List (Key × Da) → Prop} (q : Q kvs) : isDk .nw (dkp kvs) Q := ⟨kvs, rfl, nofun, q⟩
def isKey (y : Da) (Q : Key → Prop) : Prop := ∃ key, keyD y = some key ∧ Q key
theorem key_i {i : Int} {Q : Key → Prop} (q : Q (.inl i)) : isKey (.int i) Q := ⟨_, rfl, q⟩
theorem key_s {i : Str} {Q : Key → Prop} (q : Q (.inr i)) : isKey (.str i) Q := ⟨_, rfl, q⟩
/-- d[key], a dict with int and text keys -/
theorem ev_dget {td ty : TE} (h : Ev K B td env fun k x => isDk k x fun kvs => Ev K B ty env fun _ y => isKey y fun key => ∃ d, getG kvs key = some d ∧ P .fz d) : Ev K B (tDGet td ty) env P := fun O σ H Q rl hq =>
  h O σ H _ rl fun k x v H1 s1 r1 ⟨kvs, ex, hk, h2⟩ => h2 O σ H1 _ (rl.step s1) fun l y u H2 s2 r2 ⟨key, ey, d, eg, p⟩ => by
    subst ex
    have j2 := rl.j.step (s1.trans s2)
    obtain ⟨a, us, rfl, hu, kr⟩ := (r1.mono s2).dkp_at rl.j j2 hk
    have := rep_key ey (r2.seen (rl.j.step s1) j2)
    subst this
    rcases kr.get (k := key) with ⟨z, _⟩ | ⟨d', w, z1, z2, rr⟩
    · rw [z] at eg; cases eg
    · rw [z1] at eg
      cases eg
      exact ⟨a, w, rfl, .inl ⟨us, key, hu, rfl, z2.symm⟩, hq .fz d w H2 (s1.trans s2) rr p⟩
/-- .. with tuples as keys -/
theorem ev_dgetT {td ty : TE} (h : Ev K B td env fun k x => ∃ kvs, x = dtp kvs ∧ k ≠ .bw ∧ Ev K B ty env fun l y => ∃ ks key d, y = .tup ks ∧ l ≠ .bw ∧ keysD ks = some key ∧ getG kvs key = some d ∧ P .fz d) : Ev K B (tDGet td ty) env P := fun O σ H Q rl hq =>
  h O σ H _ rl fun k x v H1 s1 r1 ⟨kvs, ex, hk, h2⟩ => h2 O σ H1 _ (rl.step s1) fun l y u H2 s2 r2 ⟨ks, key, d, ey, hl, ek, eg, p⟩ => by
    subst ex ey
    have j2 := rl.j.step (s1.trans s2)
    obtain ⟨a, us, rfl, hu, kr⟩ := (r1.mono s2).dtp_at rl.j j2 hk
    obtain ⟨b, ws, rfl, hb, rb⟩ := (r2.back s1).tup_at rl.j j2 hl
    have := rep_keys ek rb
    subst this
    rcases kr.get (k := key) with ⟨z, _⟩ | ⟨d', w, z1, z2, rr⟩
    · rw [z] at eg; cases eg
    · rw [z1] at eg
      cases eg
      exact ⟨a, w, rfl, .inr ⟨us, key, b, hu, rfl, hb, z2.symm⟩, hq .fz d w H2 (s1.trans s2) rr p⟩
/-- d.get(key, e) -/
theorem ev_dget2 {td ty tx : TE} (h : Ev K B td env fun k x => isDk k x fun kvs => Ev K B ty env fun _ y => Ev K B tx env fun m z => (m = .fz ∨ m = .nw) ∧ isKey y fun key => P .fz ((getG kvs key).getD z)) : Ev K B (tDGet2 td ty tx) env P := fun O σ H Q rl hq =>
  h O σ H _ rl fun k x v H1 s1 r1 ⟨kvs, ex, hk, h2⟩ => by
    subst ex
    obtain ⟨a, us, rfl, hu, kr⟩ := r1.dkp_at rl.j (rl.j.step s1) hk
    refine ⟨a, rfl, .inl ⟨us, hu⟩, h2 O σ H1 _ (rl.step s1) fun l y u H2 s2 r2 h3 => h3 O σ H2 _ (rl.step (s1.trans s2)) fun m z w H3 s3 r3 ⟨hm, key, ey, p⟩ => ?_⟩
    have j3 := rl.j.step ((s1.trans s2).trans s3)
    have := rep_key ey (r2.seen (rl.j.step s1) (rl.j.step (s1.trans s2)))
    subst this
    have hu3 := Same.rd (s2.trans s3) hu
    have p : P .fz ((getG kvs key).getD z) := p
    rcases (kr.mono (fr_mono (s2.trans s3))).get (k := key) with ⟨z1, z2⟩ | ⟨d', w', z1, z2, rr⟩
    · refine ⟨none, .inl ⟨us, key, hu3, rfl, z2.symm⟩, ?_⟩
      rw [z1] at p
      exact hq .fz _ _ H3 ((s1.trans s2).trans s3) (r3.fz (rl.j.step (s1.trans s2)) hm) p
    · refine ⟨some w', .inl ⟨us, key, hu3, rfl, z2.symm⟩, ?_⟩
      rw [z1] at p
      exact hq .fz _ _ H3 ((s1.trans s2).trans s3) rr p
/-- d[key] = e -/
theorem sd_dput {i : Nat} {ty tv : TE} {kvs : List (Key × Da)} (e : env[i]? = some (.own (dkp kvs))) (h : Ev K B tv env fun k d => (k = .fz ∨ k = .nw) ∧ Ev K B ty env fun _ y => isKey y fun key => kvs.length < sizeLine ∧ D.nx (env.set i (.own (dkp (putG kvs key d))))) :
    Sd K B (sDPut (tVar i) ty tv) D env := fun O σ H De r f =>
  h O σ H _ r fun k d v H1 s1 r1 ⟨hk, h2⟩ => by
    obtain ⟨p, u, e1, hp, e2, hr, q⟩ := (r.step s1).chg e
    obtain ⟨us, rfl, kr⟩ := hr.dkp_inv
    refine ⟨.ref p, e1, h2 O σ H1 _ (r.step s1) fun l x w H2 s2 r2 ⟨key, ex, hz, hn⟩ => ?_⟩
    obtain ⟨p', u', e1', hp', e2', hr', q'⟩ := ((r.step s1).step s2).chg e
    rw [e1] at e1'
    cases e1'
    rw [s2 _ _ e2] at e2'
    cases e2'
    have := rep_key ex (r2.seen (r.step s1).j ((r.step s1).step s2).j)
    subst this
    refine ⟨p, _, rfl, .inl ⟨us, key, s2 _ _ e2, rfl, by rw [kr.len]; exact hz, rfl⟩, ?_⟩
    have b2 : But p H2 (upd H2 p (.dK (putK us key v))) := fun b hb => upd_ne hb
    have sg := fr_but (B := B) hp b2
    have kq := ((kr.mono (fr_mono s2)).put (k := key) ((r1.fz r.j hk).mono (fr_mono s2))).mono sg
    exact f.nx _ O σ _ (q' _ _ _ b2 upd_same (.dk kq.1 kq.2)) (((fr_mono s1).trans (fr_mono s2)).trans sg) hn
/-! ### aug -/
theorem sd_augI {i : Nat} {te : TE} {g : Int → Int → Int} {a : Int} (e : env[i]? = some (.dat (.int a))) (h : Ev K B te env fun _ d => ∃ b, d = .int b ∧ D.nx (env.set i (.dat (.int (g a b))))) : Sd K B (tAug i te (ipI g)) D env := fun O σ H De r f => by
  obtain ⟨v, e1, rv⟩ := r.dat_at e
  cases rv
  refine ⟨_, e1, h O σ H _ r fun k d v H1 s1 r1 ⟨b, ed, p⟩ => ?_⟩
  subst ed
  rw [r1.int_eq]
  exact ⟨a, b, rfl, rfl, f.nx _ O _ H1 ((r.step s1).put i (.int _)) (fr_mono s1) p⟩
end
end JP
set_option Elab.async false
set_option linter.all false
set_option maxRecDepth 100000
set_option maxHeartbeats 4000000
namespace JP
open PySem PySem.Spec PyProof.Rows L2
section
variable {K : PySem.W.Frag} {B : Bs} {env : List Sl} {P : Pd} {D : DE}
/-- a target of a loop, of names -/
def Gn (K : PySem.W.Frag) (B : Bs) (g : TG) (d : Da) (env : List Sl) (P : List Sl → Prop) : Prop := ∀ (O : List Addr) (σ : L2.St) (H : Hp) (v : V) (Q : L2.St → Hp → Prop), Rl K B env O σ H → Rep K (fr B O H) d v → (∀ env' σ', Rl K B env' O σ' H → P env' → Q σ' H) → g v σ H Q
theorem gn_name {i : Nat} {d : Da} {Pe : List Sl → Prop} (q : Pe (env.set i (.dat d))) : Gn K B (gName i) d env Pe := fun O σ H v Q r rv hq => hq _ _ (r.put i rv) q
theorem gn_tup {n : Nat} {g : TGs} {d : Da} {ds : List Da} {Pe : List Sl → Prop} (e : its d = some ds) (hn : ds.length = n) (q : GtA K B g ds env Pe) : Gn K B (gSeq K n g) d env Pe := fun O σ H v Q r rv hq => by
  obtain ⟨p, ws, rfl, hs, rb⟩ := rv.sq e
  exact ⟨p, ws, rfl, r.j.sq (Same.sq (fr_same r.j) hs), by rw [← rb.len]; exact hn, q O σ H ws Q r rb hq⟩
/-! ### loops -/
/-- for over a list or a tuple that is fixed or new -/
theorem sd_for {tl : TE} {g : TG} {tb : TS} (h : Ev K B tl env fun k d => (k = .fz ∨ k = .nw) ∧ ∃ ds, its d = some ds ∧ ∃ Pv : Nat → List Sl → Prop, Pv 0 env ∧
      (∀ i x env', ds[i]? = some x → Pv i env' → Gn K B g x env' fun env2 => Sd K B tb { D with nx := Pv (i + 1), ct := Pv (i + 1), bk := D.nx } env2) ∧ ∀ env', Pv ds.length env' → D.nx env') :
    Sd K B (tFor (iSeq K tl) g tb) D env := fun O σ H De r f =>
  h O σ H _ r fun k d v H1 s1 r1 ⟨hk, ds, ed, Pv, h0, hs, hd⟩ => by
    have rf := r1.fz r.j hk
    have r' := r.step s1
    have f' := f.more (fr_mono s1)
    obtain ⟨a, xs, rfl, hq, ra⟩ := rf.sq ed
    have hl := ra.len
    let Pw : Nat → L2.St → Hp → Prop := fun i σ' H' => ∃ env' O', Rl K B env' O' σ' H' ∧ Same (fr B O H1) (fr B O' H') ∧ Pv i env'
    have key : ∀ i x σ' H', xs[i]? = some x → Pw i σ' H' → g x σ' H' fun σ2 H2 => tb { De with nx := Pw (i + 1), ct := Pw (i + 1), bk := De.nx } σ2 H2 := by
      rintro i x σ' H' hx ⟨env', O', r2, s2, p⟩
      obtain ⟨d', hd', rx⟩ := ra.at hx
      refine hs i d' env' hd' p O' σ' H' x _ r2 (rx.mono s2) fun env2 σ2 r3 q => ?_
      refine q O' σ2 H' _ r3 ⟨?_, ?_, ?_, ?_⟩
      · exact fun e3 O3 σ3 H3 r4 s4 p3 => ⟨e3, O3, r4, s2.trans s4, p3⟩
      · exact f.rt
      · exact fun e3 O3 σ3 H3 r4 s4 p3 => f'.nx e3 O3 σ3 H3 r4 (s2.trans s4) p3
      · exact fun e3 O3 σ3 H3 r4 s4 p3 => ⟨e3, O3, r4, s2.trans s4, p3⟩
    have done : ∀ σ' H', Pw xs.length σ' H' → De.nx σ' H' := by
      rintro σ' H' ⟨env', O', r2, s2, p⟩
      rw [← hl] at p
      exact f'.nx env' O' σ' H' r2 s2 (hd env' p)
    have st : Pw 0 σ H1 := ⟨env, O, r', Same.refl _, h0⟩
    refine ⟨a, rfl, ?_⟩
    rcases hq with hq | hq
    · exact .inl ⟨⟨xs, r'.j.sl (Same.sl (fr_same r'.j) hq)⟩, for_list Pw st (fun i σ' H' _ ⟨env', O', r2, s2, _⟩ => r2.j.sl (Same.sl (s2.trans (fr_same r2.j)) hq)) key done⟩
    · exact .inr ⟨⟨xs, r'.j.st (Same.st (fr_same r'.j) hq)⟩, for_tup Pw st (fun i σ' H' _ ⟨env', O', r2, s2, _⟩ => r2.j.st (Same.st (s2.trans (fr_same r2.j)) hq)) key done⟩
/-- the ends of a range -/
theorem sd_forR {J : It} {n : Nat} {x : Nat → Int} (hg : ∀ i H, J.go i H ↔ i < n) (hs : ∀ i H, J.stop i H ↔ n ≤ i) (hy : ∀ i H v H', J.yld i H v H' → H' = H ∧ v = .int (x i)) {g : TG} {tb : TS} {O : List Addr} {σ : L2.St} {H : Hp} {De : Ends} (r : Rl K B env O σ H) (f : Ft K B (fr B O H) D De)
    (Pv : Nat → List Sl → Prop) (h0 : Pv 0 env) (ht : ∀ i env', i < n → Pv i env' → Gn K B g (.int (x i)) env' fun env2 => Sd K B tb { D with nx := Pv (i + 1), ct := Pv (i + 1), bk := D.nx } env2) (hd : ∀ env', Pv n env' → D.nx env') : ForW J g tb De σ H := by
  refine ⟨fun i m σ' H' => m = n - i ∧ i ≤ n ∧ ∃ env' O', Rl K B env' O' σ' H' ∧ Same (fr B O H) (fr B O' H') ∧ Pv i env', ⟨n, by simp, Nat.zero_le _, env, O, r, Same.refl _, h0⟩, ?_⟩
  rintro i m σ' H' ⟨rfl, hi, env', O', r2, s2, p⟩
  by_cases hlt : i < n
  · refine .inr ⟨(hg i H').mpr hlt, fun σ' H' => i + 1 ≤ n ∧ ∃ env' O', Rl K B env' O' σ' H' ∧ Same (fr B O H) (fr B O' H') ∧ Pv (i + 1) env', fun σ'' H'' ⟨a, b⟩ => ⟨n - (i + 1), by omega, rfl, a, b⟩, fun v H'' y => ?_⟩
    obtain ⟨rfl, rfl⟩ := hy _ _ _ _ y
    refine ht i env' hlt p O' σ' H'' _ _ r2 (.int _) fun env2 σ2 r3 q => ?_
    refine q O' σ2 H'' _ r3 ⟨?_, f.rt, ?_, ?_⟩
    · exact fun e3 O3 σ3 H3 r4 s4 p3 => ⟨hlt, e3, O3, r4, s2.trans s4, p3⟩
    · exact fun e3 O3 σ3 H3 r4 s4 p3 => f.nx e3 O3 σ3 H3 r4 (s2.trans s4) p3
    · exact fun e3 O3 σ3 H3 r4 s4 p3 => ⟨hlt, e3, O3, r4, s2.trans s4, p3⟩
  · have e : i = n := by omega
    subst e
    exact .inl ⟨(hs i H').mpr (Nat.le_refl _), f.nx env' O' σ' H' r2 s2 (hd env' p)⟩
theorem sd_for1 {ta : TA} {g : TG} {tb : TS} (h : EvA K B ta env fun xs => ∃ (k : Kd) (j : Int) (n : Nat), xs = [(k, .int j)] ∧ j.toNat = n ∧ (-(2 ^ 62) ≤ j ∧ j < 2 ^ 62) ∧ ∃ Pv : Nat → List Sl → Prop, Pv 0 env ∧
      (∀ (i : Nat) env', i < n → Pv i env' → Gn K B g (.int (i : Int)) env' fun env2 => Sd K B tb { D with nx := Pv (i + 1), ct := Pv (i + 1), bk := D.nx } env2) ∧ ∀ env', Pv n env' → D.nx env') :
    Sd K B (tFor (iRng1 ta) g tb) D env := fun O σ H De r f =>
  h O σ H _ r fun xs vs H1 s1 r1 ⟨k, j, n, ex, en, hb, Pv, h0, hs, hd⟩ => by
    subst ex en
    cases r1 with
    | cons a b =>
      cases b
      rw [a.int_eq]
      refine ⟨j, rfl, hb.1, hb.2, ?_⟩
      exact sd_forR (n := j.toNat) (x := fun i => 0 + (i : Int)) (fun _ _ => Iff.rfl) (fun _ _ => Iff.rfl) (fun _ _ _ _ y => y) (r.step s1) (f.more (fr_mono s1)) Pv h0 (fun i env' hi p => by rw [Int.zero_add]; exact hs i env' hi p) hd
theorem sd_for2 {ta : TA} {g : TG} {tb : TS} (h : EvA K B ta env fun xs => ∃ (k l : Kd) (a j : Int) (n : Nat), xs = [(k, .int a), (l, .int j)] ∧ (j - a).toNat = n ∧ (-(2 ^ 62) ≤ a ∧ a < 2 ^ 62 ∧ -(2 ^ 62) ≤ j ∧ j < 2 ^ 62) ∧ ∃ Pv : Nat → List Sl → Prop, Pv 0 env ∧
      (∀ (i : Nat) env', i < n → Pv i env' → Gn K B g (.int (a + (i : Int))) env' fun env2 => Sd K B tb { D with nx := Pv (i + 1), ct := Pv (i + 1), bk := D.nx } env2) ∧ ∀ env', Pv n env' → D.nx env') :
    Sd K B (tFor (iRng2 ta) g tb) D env := fun O σ H De r f =>
  h O σ H _ r fun xs vs H1 s1 r1 ⟨k, l, a, j, n, ex, en, hb, Pv, h0, hs, hd⟩ => by
    subst ex en
    cases r1 with
    | cons r2 b => cases b with
      | cons r3 b =>
        cases b
        rw [r2.int_eq, r3.int_eq]
        exact ⟨a, j, rfl, hb, sd_forR (n := (j - a).toNat) (x := fun i => a + (i : Int)) (fun _ _ => Iff.rfl) (fun _ _ => Iff.rfl) (fun _ _ _ _ y => y) (r.step s1) (f.more (fr_mono s1)) Pv h0 hs hd⟩
theorem sd_for3 {ta : TA} {g : TG} {tb : TS} (h : EvA K B ta env fun xs => ∃ (k l m : Kd) (a j c : Int) (n : Nat), xs = [(k, .int a), (l, .int j), (m, .int c)] ∧ RgC a j c n ∧ ∃ Pv : Nat → List Sl → Prop, Pv 0 env ∧
      (∀ (i : Nat) env', i < n → Pv i env' → Gn K B g (.int (a + (i : Int) * c)) env' fun env2 => Sd K B tb { D with nx := Pv (i + 1), ct := Pv (i + 1), bk := D.nx } env2) ∧ ∀ env', Pv n env' → D.nx env') :
    Sd K B (tFor (iRng3 ta) g tb) D env := fun O σ H De r f =>
  h O σ H _ r fun xs vs H1 s1 r1 ⟨k, l, m, a, j, c, n, ex, hb, Pv, h0, hs, hd⟩ => by
    subst ex
    cases r1 with
    | cons r2 b => cases b with
      | cons r3 b => cases b with
        | cons r4 b =>
          cases b
          rw [r2.int_eq, r3.int_eq, r4.int_eq]
          exact ⟨a, j, c, n, rfl, hb, sd_forR (n := n) (x := fun i => a + (i : Int) * c) (fun _ _ => Iff.rfl) (fun _ _ => Iff.rfl) (fun _ _ _ _ y => y) (r.step s1) (f.more (fr_mono s1)) Pv h0 hs hd⟩
theorem sd_while {c : TT} {tb : TS} (Pv : Nat → List Sl → Prop) (h0 : ∃ m, Pv m env) (hs : ∀ m env', Pv m env' → Tt K B c env' fun b => if b = true then Sd K B tb { D with nx := fun e => ∃ m' < m, Pv m' e, ct := fun e => ∃ m' < m, Pv m' e, bk := D.nx } env' else D.nx env') :
    Sd K B (tWhile c tb) D env := fun O σ H De r f => by
  obtain ⟨m, p⟩ := h0
  refine ⟨fun m σ' H' => ∃ env' O', Rl K B env' O' σ' H' ∧ Same (fr B O H) (fr B O' H') ∧ Pv m env', ⟨m, env, O, r, Same.refl _, p⟩, ?_⟩
  rintro m σ' H' ⟨env', O', r2, s2, p⟩
  refine hs m env' p O' σ' H' _ r2 fun b H1 s1 q => ?_
  cases b with
  | false => rw [if_neg (by decide)] at q; exact iteF (f.nx env' O' σ' H1 (r2.step s1) (s2.trans (fr_mono s1)) q)
  | true =>
    rw [if_pos rfl] at q
    refine iteT ⟨fun σ3 H3 => ∃ m' < m, ∃ env' O', Rl K B env' O' σ3 H3 ∧ Same (fr B O H) (fr B O' H3) ∧ Pv m' env', fun σ3 H3 ⟨m', a, b⟩ => ⟨m', a, b⟩, ?_⟩
    refine q O' σ' H1 _ (r2.step s1) ⟨?_, f.rt, ?_, ?_⟩
    · exact fun e3 O3 σ3 H3 r4 s4 ⟨m', hm, p3⟩ => ⟨m', hm, e3, O3, r4, (s2.trans (fr_mono s1)).trans s4, p3⟩
    · exact fun e3 O3 σ3 H3 r4 s4 p3 => f.nx e3 O3 σ3 H3 r4 ((s2.trans (fr_mono s1)).trans s4) p3
    · exact fun e3 O3 σ3 H3 r4 s4 ⟨m', hm, p3⟩ => ⟨m', hm, e3, O3, r4, (s2.trans (fr_mono s1)).trans s4, p3⟩
/-! ### comprehensions -/
def wipeE : List Sl → List Nat → List Sl
  | env, [] => env
  | env, j :: js => (wipeE env js).set j .un
theorem Rl.wipes {O : List Addr} {H : Hp} : ∀ (js : List Nat) {env : List Sl} {σ : L2.St}, Rl K B env O σ H → Rl K B (wipeE env js) O (wipe σ js) H
  | [], _, _, r => r
  | j :: js, _, _, r => (Rl.wipes js r).wipe1 j none
/-- the target fills only the slots vs -/
def Gw (g : TG) (vs : List Nat) : Prop := ∀ (v : V) (σ : L2.St) (H : Hp) (Q : L2.St → Hp → Prop), g v (wipe σ vs) H Q → g v (wipe σ vs) H fun σ2 H2 => wipe σ2 vs = wipe σ vs ∧ Q σ2 H2
theorem gw_name (j : Nat) : Gw (gName j) [j] := fun v σ H Q h => ⟨wipe_again σ j _, h⟩
theorem wipe2 (σ : L2.St) (a b : Nat) (x y : Option V) : wipe (((wipe σ [a, b]).set a x).set b y) [a, b] = wipe σ [a, b] := by
  show (((((σ.set b none).set a none).set a x).set b y).set b none).set a none = (σ.set b none).set a none
  refine List.ext_getElem? fun i => ?_
  simp only [List.getElem?_set, List.length_set]
  by_cases h1 : a = i <;> by_cases h2 : b = i <;> simp_all
theorem wipe3 (σ : L2.St) (a b c : Nat) (x y z : Option V) : wipe ((((wipe σ [a, b, c]).set a x).set b y).set c z) [a, b, c] = wipe σ [a, b, c] := by
  show (((((((((σ.set c none).set b none).set a none).set a x).set b y).set c z).set c none).set b none).set a none) = ((σ.set c none).set b none).set a none
  refine List.ext_getElem? fun i => ?_
  simp only [List.getElem?_set, List.length_set]
  by_cases h1 : a = i <;> by_cases h2 : b = i <;> by_cases h3 : c = i <;> simp_all
theorem gw_two (a b : Nat) : Gw (gSeq K 2 (gCons (gName a) (gCons (gName b) gNil))) [a, b] := fun v σ H Q h => by
  obtain ⟨p, xs, e1, hq, hl, x, r, e2, y, r2, e3, e4, q⟩ := h
  exact ⟨p, xs, e1, hq, hl, x, r, e2, y, r2, e3, e4, wipe2 _ _ _ _ _, q⟩
theorem gw_three (a b c : Nat) : Gw (gSeq K 3 (gCons (gName a) (gCons (gName b) (gCons (gName c) gNil)))) [a, b, c] := fun v σ H Q h => by
  obtain ⟨p, xs, e1, hq, hl, x, r, e2, y, r2, e3, z, r3, e4, e5, q⟩ := h
  exact ⟨p, xs, e1, hq, hl, x, r, e2, y, r2, e3, z, r3, e4, e5, wipe3 _ _ _ _ _ _ _, q⟩
theorem Rl.more {O : List Addr} {σ : L2.St} {H H1 : Hp} {a : Addr} (r : Rl K B env O σ H) (s : Same H H1) (h : H a = none) (h1 : H1 a ≠ none) (h5 : ∀ us, H1 a ≠ some (.tup us)) : Rl K B env (a :: O) σ H1 := by
  obtain ⟨Os, k1, k2, k3⟩ := r.s
  exact ⟨(r.j.step s).cons (r.j.fresh h).2.1 h1 (r.j.fresh h).2.2 h5, Os, k1, fun b hb => List.mem_cons_of_mem _ (k2 b hb), k3.mono (fr_upd r.j s h) s⟩
/-- a turn of a comprehension -/
def LcT (K : PySem.W.Frag) (B : Bs) (g : TG) (tt : TT) (te : TE) (env : List Sl) (x : Da) (Y : Da → Prop) (Z : Prop) : Prop :=
  Gn K B g x env fun env2 => Tt K B tt env2 fun b => if b = true then Ev K B te env2 fun k y => (k = .fz ∨ k = .nw) ∧ Y y else Z
theorem lct_yes {g : TG} {te : TE} {x : Da} {Y : Da → Prop} {Z : Prop} (h : Gn K B g x env fun env2 => Ev K B te env2 fun k y => (k = .fz ∨ k = .nw) ∧ Y y) : LcT K B g tYes te env x Y Z :=
  fun O σ H v Q r rv hq => h O σ H v Q r rv fun env' σ' r' p => hq env' σ' r' (tt_yes (by rw [if_pos rfl]; exact p))
theorem lct_g {g : TG} {tt : TT} {te : TE} {x : Da} {Y : Da → Prop} {Z : Prop} (h : Gn K B g x env fun env2 => Tt K B tt env2 fun b => if b = true then Ev K B te env2 fun k y => (k = .fz ∨ k = .nw) ∧ Y y else Z) : LcT K B g tt te env x Y Z := h
theorem lc_turn {g : TG} {tt : TT} {te : TE} {vs : List Nat} (hw : Gw g vs) {O : List Addr} {σ : L2.St} {H H1 : Hp} {a : Addr} {x : V} {d : Da} {Y : V → Hp → Prop} {Z : Hp → Prop} {Yd : Da → Prop} {Zd : Prop} (r : Rl K B env O σ H) (hD : H a = none) (hA : H1 a ≠ none) (hA5 : ∀ us, H1 a ≠ some (.tup us)) (s1 : Same H H1) (rx : Rep K (fr B (a :: O) H1) d x)
    (ht : LcT K B g tt te (wipeE env vs) d Yd Zd) (hY : ∀ y v H4, Same H1 H4 → Rep K (fr B (a :: O) H4) y v → Yd y → Y v H4) (hZ : ∀ H4, Same H1 H4 → Zd → Z H4) :
    g x (wipe σ vs) H1 fun σ2 H2 => wipe σ2 vs = wipe σ vs ∧ tt σ2 H2 fun b H3 => if b = true then te σ2 H3 Y else Z H3 := by
  refine hw x σ H1 _ ?_
  have r1 := (r.more s1 hD hA hA5).wipes vs
  refine ht (a :: O) (wipe σ vs) H1 x _ r1 rx fun env2 σ2 r2 h2 => ?_
  refine h2 (a :: O) σ2 H1 _ r2 fun b H3 s3 p => ?_
  cases b with
  | false => rw [if_neg (by decide)] at p; exact iteF (hZ H3 s3 p)
  | true =>
    rw [if_pos rfl] at p
    exact iteT (p (a :: O) σ2 H3 Y (r2.step s3) fun k y v H4 s4 rv ⟨hk, q⟩ => hY y v H4 (s3.trans s4) (rv.fz (r2.step s3).j hk) q)
theorem ev_lc {tl : TE} {g : TG} {tt : TT} {te : TE} {vs : List Nat} (hw : Gw g vs) (h : Ev K B tl env fun k d => k ≠ .bw ∧ ∃ ds, its d = some ds ∧ ds.length < sizeLine ∧ ∃ Fd : Nat → List Da → Prop, Fd 0 [] ∧
    (∀ i x acc, ds[i]? = some x → Fd i acc → LcT K B g tt te (wipeE env vs) x (fun y => Fd (i + 1) (acc ++ [y])) (Fd (i + 1) acc)) ∧ ∀ acc, acc.length ≤ ds.length → Fd ds.length acc → P .nw (.lst acc)) : Ev K B (tLc (iSeq K tl) g tt te vs) env P := fun O σ H Q r hq =>
  h O σ H _ r fun k d v H1 s1 r1 ⟨hk, ds, ed, hz, Fd, h0, hs, hd⟩ => by
    have r' := r.step s1
    obtain ⟨a, xs, rfl, hsq, ra⟩ := r1.sq_at r.j r'.j hk ed
    refine lc_seqL (σ := σ) (K := K) hsq (fun D i acc H2 => ∃ es, Fd i es ∧ RepA K (fr B (D :: O) H2) es acc) ?_ (by rw [← ra.len]; exact hz) (fun D hD => ⟨[], h0, .nil⟩) ?_ ?_
    · rintro D i acc H2 H3 _ b ⟨es, f1, f2⟩
      exact ⟨es, f1, f2.mono (fr_but List.mem_cons_self b)⟩
    · rintro D i x acc H2 Y Z hD hA hx s2 ⟨es, f1, f2⟩ hY hZ
      obtain ⟨d', hd', rx⟩ := ra.at hx
      refine lc_turn hw r' hD (by rw [hA]; simp) (by rw [hA]; nofun) s2 (rx.mono (fr_upd r'.j s2 hD)) (hs i d' es hd' f1) (fun y v H4 s4 rv p => ?_) (fun H4 s4 p => ?_)
      · exact hY v H4 s4 ⟨_, p, (f2.mono (fr_mono s4)).app (.cons rv .nil)⟩
      · exact hZ H4 s4 ⟨es, p, f2.mono (fr_mono s4)⟩
    · rintro l H2 acc n2 s2 e2 hl ⟨es, f1, f2⟩
      have l1 := f2.len
      have l2 := ra.len
      rw [← l2] at f1
      refine hq .nw _ _ H2 (s1.trans s2) ⟨l, _, rfl, same_none s1 n2, e2, .lst f2⟩ (hd es (by omega) f1)
theorem lc_J {J : It} {n : Nat} {X : Nat → Da} {x : Nat → V} {g : TG} {tt : TT} {te : TE} {vs : List Nat} {O : List Addr} {σ : L2.St} {H0 H : Hp} {Q : VK} (hx : ∀ i, i < n → ∀ G, Rep K G (X i) (x i)) (hg : ∀ i H1, Same H H1 → i < n → J.go i H1) (hs : ∀ i H1, Same H H1 → n ≤ i → J.stop i H1) (hy : ∀ i H v H', i < n → J.yld i H v H' → H' = H ∧ v = x i) (hw : Gw g vs) (r : Rl K B env O σ H) (s0 : Same H0 H) (hz : n < sizeLine) (Fd : Nat → List Da → Prop) (h0 : Fd 0 [])
    (ht : ∀ i acc, i < n → Fd i acc → LcT K B g tt te (wipeE env vs) (X i) (fun y => Fd (i + 1) (acc ++ [y])) (Fd (i + 1) acc)) (hq : ∀ acc v H', acc.length ≤ n → Fd n acc → Same H H' → RepV K B O H0 H' .nw (.lst acc) v → Q v H') :
    ∀ D : Addr, H D = none → ∃ W : Nat → Nat → Hp → Prop, (∃ m, W 0 m (upd H D (HO.lst []))) ∧ ∀ i m H1, W i m H1 → (J.stop i H1 ∧ Q (.ref D) H1) ∨ (J.go i H1 ∧ ∃ Nx : Hp → Prop, (∀ H', Nx H' → ∃ m', m' < m ∧ W (i + 1) m' H') ∧ ∀ x H', J.yld i H1 x H' → g x (wipe σ vs) H' fun σ2 H2 => wipe σ2 vs = wipe σ vs ∧ tt σ2 H2 fun b H3 =>
      if b = true then te σ2 H3 fun y H4 => ∃ acc, H4 D = some (HO.lst acc) ∧ acc.length < sizeLine ∧ Nx (upd H4 D (HO.lst (acc ++ [y]))) else Nx H3) := by
  intro D hD
  refine ⟨fun i m H1 => m = n - i ∧ i ≤ n ∧ ∃ acc es, H1 D = some (.lst acc) ∧ acc.length ≤ i ∧ Same H H1 ∧ Fd i es ∧ RepA K (fr B (D :: O) H1) es acc, ⟨n, by simp, Nat.zero_le _, [], [], upd_same, Nat.le_refl _, Same.new hD, h0, .nil⟩, ?_⟩
  rintro i m H1 ⟨rfl, hi, acc, es, hA, hl, e1, f1, f2⟩
  by_cases hlt : i < n
  · refine .inr ⟨hg i H1 e1 hlt, fun H' => i + 1 ≤ n ∧ ∃ acc es, H' D = some (.lst acc) ∧ acc.length ≤ i + 1 ∧ Same H H' ∧ Fd (i + 1) es ∧ RepA K (fr B (D :: O) H') es acc, fun H' p' => ⟨n - (i + 1), by omega, rfl, p'⟩, fun v H' y => ?_⟩
    obtain ⟨rfl, rfl⟩ := hy _ _ _ _ hlt y
    refine lc_turn hw r hD (by rw [hA]; simp) (by rw [hA]; nofun) e1 (hx i hlt _) (ht i es hlt f1) (fun y v H4 s4 rv p => ?_) (fun H4 s4 p => ?_)
    · have hA4 := s4 _ _ hA
      refine ⟨acc, hA4, by omega, hlt, acc ++ [v], es ++ [y], upd_same, by rw [List.length_append]; show acc.length + 1 ≤ _; omega, Same.mut (e1.trans s4) hD, p, ?_⟩
      exact ((f2.mono (fr_mono s4)).app (.cons rv .nil)).mono (fr_but List.mem_cons_self fun b hb => upd_ne hb)
    · exact ⟨hlt, acc, es, s4 _ _ hA, by omega, e1.trans s4, p, f2.mono (fr_mono s4)⟩
  · have e : i = n := by omega
    subst e
    have l1 := f2.len
    exact .inl ⟨hs i H1 e1 (Nat.le_refl _), hq es _ H1 (by omega) f1 e1 ⟨D, _, rfl, same_none s0 hD, hA, .lst f2⟩⟩
theorem ev_lc1 {ta : TA} {g : TG} {tt : TT} {te : TE} {vs : List Nat} (hw : Gw g vs) (h : EvA K B ta env fun xs => ∃ (k : Kd) (j : Int) (n : Nat), xs = [(k, .int j)] ∧ j.toNat = n ∧ (-(2 ^ 62) ≤ j ∧ j < 2 ^ 62) ∧ n < sizeLine ∧ ∃ Fd : Nat → List Da → Prop, Fd 0 [] ∧
    (∀ (i : Nat) acc, i < n → Fd i acc → LcT K B g tt te (wipeE env vs) (.int (i : Int)) (fun y => Fd (i + 1) (acc ++ [y])) (Fd (i + 1) acc)) ∧ ∀ acc, acc.length ≤ n → Fd n acc → P .nw (.lst acc)) : Ev K B (tLc (iRng1 ta) g tt te vs) env P := fun O σ H Q r hq =>
  h O σ H _ r fun xs ws H1 s1 r1 ⟨k, j, n, ex, en, hb, hz, Fd, h0, hs, hd⟩ => by
    subst ex en
    cases r1 with
    | cons a b =>
      cases b
      rw [a.int_eq]
      exact ⟨j, rfl, hb.1, hb.2, lc_J (n := j.toNat) (X := fun i => .int (0 + (i : Int))) (fun _ _ _ => .int _) (fun _ _ _ h => h) (fun _ _ _ h => h) (fun _ _ _ _ _ y => y) hw (r.step s1) s1 hz Fd h0 (fun i acc hi p => by rw [Int.zero_add]; exact hs i acc hi p) (fun acc v H' hl p s rv => hq .nw _ v H' (s1.trans s) rv (hd acc hl p))⟩
theorem ev_lc2 {ta : TA} {g : TG} {tt : TT} {te : TE} {vs : List Nat} (hw : Gw g vs) (h : EvA K B ta env fun xs => ∃ (k l : Kd) (a j : Int) (n : Nat), xs = [(k, .int a), (l, .int j)] ∧ (j - a).toNat = n ∧ (-(2 ^ 62) ≤ a ∧ a < 2 ^ 62 ∧ -(2 ^ 62) ≤ j ∧ j < 2 ^ 62) ∧ n < sizeLine ∧ ∃ Fd : Nat → List Da → Prop, Fd 0 [] ∧
    (∀ (i : Nat) acc, i < n → Fd i acc → LcT K B g tt te (wipeE env vs) (.int (a + (i : Int))) (fun y => Fd (i + 1) (acc ++ [y])) (Fd (i + 1) acc)) ∧ ∀ acc, acc.length ≤ n → Fd n acc → P .nw (.lst acc)) : Ev K B (tLc (iRng2 ta) g tt te vs) env P := fun O σ H Q r hq =>
  h O σ H _ r fun xs ws H1 s1 r1 ⟨k, l, a, j, n, ex, en, hb, hz, Fd, h0, hs, hd⟩ => by
    subst ex en
    cases r1 with
    | cons r2 b => cases b with
      | cons r3 b =>
        cases b
        rw [r2.int_eq, r3.int_eq]
        exact ⟨a, j, rfl, hb, lc_J (n := (j - a).toNat) (X := fun i => .int (a + (i : Int))) (fun _ _ _ => .int _) (fun _ _ _ h => h) (fun _ _ _ h => h) (fun _ _ _ _ _ y => y) hw (r.step s1) s1 hz Fd h0 hs (fun acc v H' hl p s rv => hq .nw _ v H' (s1.trans s) rv (hd acc hl p))⟩
theorem ev_lc3 {ta : TA} {g : TG} {tt : TT} {te : TE} {vs : List Nat} (hw : Gw g vs) (h : EvA K B ta env fun xs => ∃ (k l m : Kd) (a j c : Int) (n : Nat), xs = [(k, .int a), (l, .int j), (m, .int c)] ∧ RgC a j c n ∧ n < sizeLine ∧ ∃ Fd : Nat → List Da → Prop, Fd 0 [] ∧
    (∀ (i : Nat) acc, i < n → Fd i acc → LcT K B g tt te (wipeE env vs) (.int (a + (i : Int) * c)) (fun y => Fd (i + 1) (acc ++ [y])) (Fd (i + 1) acc)) ∧ ∀ acc, acc.length ≤ n → Fd n acc → P .nw (.lst acc)) : Ev K B (tLc (iRng3 ta) g tt te vs) env P := fun O σ H Q r hq =>
  h O σ H _ r fun xs ws H1 s1 r1 ⟨k, l, m, a, j, c, n, ex, hb, hz, Fd, h0, hs, hd⟩ => by
    subst ex
    cases r1 with
    | cons r2 b => cases b with
      | cons r3 b => cases b with
        | cons r4 b =>
          cases b
          rw [r2.int_eq, r3.int_eq, r4.int_eq]
          exact ⟨a, j, c, n, rfl, hb, lc_J (n := n) (X := fun i => .int (a + (i : Int) * c)) (fun _ _ _ => .int _) (fun _ _ _ h => h) (fun _ _ _ h => h) (fun _ _ _ _ _ y => y) hw (r.step s1) s1 hz Fd h0 hs (fun acc v H' hl p s rv => hq .nw _ v H' (s1.trans s) rv (hd acc hl p))⟩
theorem fitsLong {z : Int} (h1 : -1000000000000 ≤ z) (h2 : z ≤ 1000000000000) : PySem.Builtin.Range.rangeFitsLong z = true := by
  unfold PySem.Builtin.Range.rangeFitsLong
  simp only [Bool.and_eq_true, decide_eq_true_eq]
  omega
/-- range(a, b, -1) -/
theorem rgc_down {a b : Int} {n : Nat} (ha : -100000000000 ≤ a ∧ a ≤ 100000000000) (hb : -100000000000 ≤ b ∧ b ≤ 100000000000) (hn : (a - b).toNat = n) : RgC a b (-1) n := by
  have hs : PySem.Builtin.Range.rangeSize a b (-1) = (n : Int) := by
    unfold PySem.Builtin.Range.rangeSize
    rw [if_neg (by decide)]
    by_cases h : a > b
    · rw [if_pos h, show (- -1 : Int) = 1 from rfl, Int.ediv_one]; omega
    · rw [if_neg h]; omega
  refine ⟨by decide, by decide, ?_, hs⟩
  unfold PySem.Builtin.Range.small
  rw [hs, fitsLong (by omega) (by omega), fitsLong (by omega) (by omega), fitsLong (by omega) (by omega), fitsLong (by omega) (by omega), if_neg (by decide), fitsLong (by omega) (by omega)]
  simp
/-! results by functions -/
theorem ev_map {α : Type} {tl : TE} {g : TG} {te : TE} {vs : List Nat} (hw : Gw g vs) (h : Ev K B tl env fun k d => k ≠ .bw ∧ ∃ (xs : List α) (em f : α → Da), its d = some (xs.map em) ∧ xs.length < sizeLine ∧ (∀ x, x ∈ xs → Gn K B g (em x) (wipeE env vs) fun env2 => Ev K B te env2 fun k y => (k = .fz ∨ k = .nw) ∧ y = f x) ∧ P .nw (.lst (xs.map f))) :
    Ev K B (tLc (iSeq K tl) g tYes te vs) env P := by
  refine ev_lc hw (h.imp fun k d ⟨hk, xs, em, f, e, hz, hs, q⟩ => ⟨hk, _, e, by rw [List.length_map]; exact hz, fun i acc => acc = (xs.take i).map f, rfl, fun i x acc hx ha => lct_yes ?_, fun acc _ ha => ?_⟩)
  · rw [List.getElem?_map] at hx
    cases e1 : xs[i]? with
    | none => rw [e1] at hx; cases hx
    | some y =>
      rw [e1] at hx
      cases hx
      refine fun O σ H v Q r rv hq => hs y (List.mem_of_getElem? e1) O σ H v Q r rv fun env' σ' r' p => hq env' σ' r' (p.imp fun k z ⟨hk, ez⟩ => ⟨hk, ?_⟩)
      show acc ++ [z] = (xs.take (i + 1)).map f
      rw [ha, ez, List.take_add_one, e1, List.map_append]
      rfl
  · rw [ha, List.length_map, List.take_length]
    exact q
theorem ev_map1 {ta : TA} {g : TG} {te : TE} {vs : List Nat} (hw : Gw g vs) (h : EvA K B ta env fun xs => ∃ (k : Kd) (j : Int) (n : Nat) (f : Nat → Da), xs = [(k, .int j)] ∧ j.toNat = n ∧ (-(2 ^ 62) ≤ j ∧ j < 2 ^ 62) ∧ n < sizeLine ∧
    (∀ i : Nat, i < n → Gn K B g (.int (i : Int)) (wipeE env vs) fun env2 => Ev K B te env2 fun k y => (k = .fz ∨ k = .nw) ∧ y = f i) ∧ P .nw (.lst ((List.range n).map f))) : Ev K B (tLc (iRng1 ta) g tYes te vs) env P := by
  refine ev_lc1 hw fun O σ H Q r hq => h O σ H Q r fun xs vs' H' s rv ⟨k, j, n, f, e1, e2, e3, e4, hs, q⟩ => hq xs vs' H' s rv ⟨k, j, n, e1, e2, e3, e4, fun i acc => acc = (List.range i).map f, rfl, fun i acc hi ha => lct_yes ?_, fun acc _ ha => ha ▸ q⟩
  refine fun O σ H v Q r rv hq => hs i hi O σ H v Q r rv fun env' σ' r' p => hq env' σ' r' (p.imp fun k z ⟨hk, ez⟩ => ⟨hk, ?_⟩)
  show acc ++ [z] = (List.range (i + 1)).map f
  rw [ha, ez, List.range_succ, List.map_append]
  rfl
theorem ev_map2 {ta : TA} {g : TG} {te : TE} {vs : List Nat} (hw : Gw g vs) (h : EvA K B ta env fun xs => ∃ (k l : Kd) (a j : Int) (n : Nat) (f : Nat → Da), xs = [(k, .int a), (l, .int j)] ∧ (j - a).toNat = n ∧ (-(2 ^ 62) ≤ a ∧ a < 2 ^ 62 ∧ -(2 ^ 62) ≤ j ∧ j < 2 ^ 62) ∧ n < sizeLine ∧
    (∀ i : Nat, i < n → Gn K B g (.int (a + (i : Int))) (wipeE env vs) fun env2 => Ev K B te env2 fun k y => (k = .fz ∨ k = .nw) ∧ y = f i) ∧ P .nw (.lst ((List.range n).map f))) : Ev K B (tLc (iRng2 ta) g tYes te vs) env P := by
  refine ev_lc2 hw fun O σ H Q r hq => h O σ H Q r fun xs vs' H' s rv ⟨k, l, a, j, n, f, e1, e2, e3, e4, hs, q⟩ => hq xs vs' H' s rv ⟨k, l, a, j, n, e1, e2, e3, e4, fun i acc => acc = (List.range i).map f, rfl, fun i acc hi ha => lct_yes ?_, fun acc _ ha => ha ▸ q⟩
  refine fun O σ H v Q r rv hq => hs i hi O σ H v Q r rv fun env' σ' r' p => hq env' σ' r' (p.imp fun k z ⟨hk, ez⟩ => ⟨hk, ?_⟩)
  show acc ++ [z] = (List.range (i + 1)).map f
  rw [ha, ez, List.range_succ, List.map_append]
  rfl
theorem ev_map3 {ta : TA} {g : TG} {te : TE} {vs : List Nat} (hw : Gw g vs) (h : EvA K B ta env fun xs => ∃ (k l m : Kd) (a j c : Int) (n : Nat) (f : Nat → Da), xs = [(k, .int a), (l, .int j), (m, .int c)] ∧ RgC a j c n ∧ n < sizeLine ∧
    (∀ i : Nat, i < n → Gn K B g (.int (a + (i : Int) * c)) (wipeE env vs) fun env2 => Ev K B te env2 fun k y => (k = .fz ∨ k = .nw) ∧ y = f i) ∧ P .nw (.lst ((List.range n).map f))) : Ev K B (tLc (iRng3 ta) g tYes te vs) env P := by
  refine ev_lc3 hw fun O σ H Q r hq => h O σ H Q r fun xs vs' H' s rv ⟨k, l, m, a, j, c, n, f, e1, e2, e4, hs, q⟩ => hq xs vs' H' s rv ⟨k, l, m, a, j, c, n, e1, e2, e4, fun i acc => acc = (List.range i).map f, rfl, fun i acc hi ha => lct_yes ?_, fun acc _ ha => ha ▸ q⟩
  refine fun O σ H v Q r rv hq => hs i hi O σ H v Q r rv fun env' σ' r' p => hq env' σ' r' (p.imp fun k z ⟨hk, ez⟩ => ⟨hk, ?_⟩)
  show acc ++ [z] = (List.range (i + 1)).map f
  rw [ha, ez, List.range_succ, List.map_append]
  rfl
end
/-! ## defs -/
abbrev SpR := List Da → Pd → (Addr → List (Str × Da) → Prop) → Prop
/-- the fields of a raised error -/
def XOk (K : PySem.W.Frag) (H : Hp) (dx : Option Addr) (fs : List (Str × Da)) : Prop :=
  match fs with
  | [] => dx = none
  | _ => ∃ a us, dx = some a ∧ H a = some (.xd us) ∧ us.map (·.1) = fs.map (·.1) ∧ RepA K H (fs.map (·.2)) (us.map (·.2))
def SpD (K : PySem.W.Frag) (R : SpR) : Sp := fun vs H Q E => ∃ F ds P X, Same F H ∧ RepA K F ds vs ∧ R ds P X ∧ (∀ k d v H', Same H H' → RepV K ⟨F, H, []⟩ [] H H' k d v → P k d → Q v H') ∧ (∀ C fs dx H', Same H H' → XOk K H' dx fs → X C fs → E (.ref C) dx H')
def DE.fn (P : Pd) : DE := { nx := fun _ => P .fz .non, rt := P }
theorem slr_args {K : PySem.W.Frag} {G H : Hp} {m : Nat} : ∀ {ds : List Da} {vs : List V}, RepA K G ds vs → SlR K G H (vs.map some ++ List.replicate m none) (ds.map Sl.dat ++ List.replicate m Sl.un) []
  | _, _, .nil => by
    show SlR K G H (List.replicate m none) (List.replicate m Sl.un) []
    induction m with
    | zero => exact .nil
    | succ m ih => exact .un ih
  | _, _, .cons h r => .dat h (slr_args r)
theorem sd_top {K : PySem.W.Frag} {F H : Hp} {ds : List Da} {vs : List V} {P : Pd} {Q : VK} {N : List Str} {ts : TS} (hF : Same F H) (ha : RepA K F ds vs) (hQ : ∀ k d v H', Same H H' → RepV K ⟨F, H, []⟩ [] H H' k d v → P k d → Q v H') (h : Sd K ⟨F, H, []⟩ ts (DE.fn P) (ds.map Sl.dat ++ List.replicate (N.length - ds.length) Sl.un)) :
    ts { nx := fun _ H' => Q .non H', rt := Q } (L2.start N vs) H := by
  have j : J ⟨F, H, []⟩ [] H := ⟨hF, Same.refl _, (fun _ h => by cases h), (fun _ _ h => by cases h), (fun _ h => by cases h)⟩
  have hf : Same F (fr ⟨F, H, []⟩ [] H) := fun a u e => by
    unfold fr
    rw [if_neg (by simp), if_pos (by show (H a).isSome = true; rw [hF _ _ e]; rfl)]
    split
    · exact hF _ _ e
    · exact e
  refine h [] (L2.start N vs) H _ ⟨j, [], List.nodup_nil, (fun _ h => by cases h), ?_⟩ ⟨?_, ?_, ?_, ?_⟩
  · unfold L2.start
    rw [← ha.len]
    exact slr_args (ha.mono hf)
  · exact fun env O σ H' r _ p => hQ .fz .non .non H' r.j.hh .non p
  · intro k d v O H' hk j' rv p
    rcases hk with rfl | rfl
    · exact hQ .fz d v H' j'.hh (Rep.mono (fr_less fun a ha => by cases ha) rv) p
    · obtain ⟨a, u, e1, e2, e3, e4⟩ := rv
      exact hQ .nw d v H' j'.hh ⟨a, u, e1, e2, e3, e4.mono (fr_less fun b hb => by rw [List.mem_singleton.mp hb]; exact List.mem_cons_self)⟩ p
  · exact fun env O σ H' r _ p => p.elim
  · exact fun env O σ H' r _ p => p.elim
section
variable {K : PySem.W.Frag} {B : Bs} {env : List Sl} {P : Pd} {D : DE}
/-- a tuple of numbers and texts is fixed -/
theorem fr_sc {O : List Addr} {H : Hp} {a : Addr} {u : HO} (j : J B O H) (e : H a = some u) (z : scT (H a) = true) : fr B O H a = some u := by
  rw [e] at z
  cases u with
  | tup us =>
    have hO : a ∉ O := fun h => j.nt a h us e
    have hl : lk B a = none := by
      cases q : lk B a with
      | none => rfl
      | some x => rw [(j.lkd a x q).1] at e; cases e
    unfold fr
    rw [if_neg hO]
    split
    · rename_i h1
      obtain ⟨w, hw⟩ := Option.isSome_iff_exists.mp h1
      have := j.hh _ _ hw
      rw [vw_nl hl, e] at this
      cases this
      rw [hw, if_pos z]
    · rw [vw_nl hl]; exact e
  | _ => cases z
theorem fr_call {O : List Addr} {H H' : Hp} (j : J B O H) (s : Same H H') (O2 : List Addr) (h2 : ∀ a ∈ O2, H a = none) : Same (fr ⟨fr B O H, H, []⟩ O2 H') (fr B (O2 ++ O) H') := fun a u e => by
  unfold fr at e
  split at e
  · cases e
  · rename_i z1
    split at e
    · rename_i z2
      have e' : fr B O H a = some u := by
        split at e
        · rename_i z5
          have e : H a = some u := e
          have z5 : scT (H a) = true := z5
          exact fr_sc j e z5
        · exact e
      unfold fr at e' ⊢
      split at e'
      · cases e'
      · rename_i z3
        rw [if_neg (by rw [List.mem_append, not_or]; exact ⟨z1, z3⟩)]
        split at e'
        · rename_i z4; rw [if_pos z4]; exact e'
        · rename_i z4; rw [if_neg z4]; exact vw_same s _ _ e'
    · rename_i z2
      have hn : H a = none := by
        cases e1 : H a with
        | none => rfl
        | some w => exact absurd (show ((⟨fr B O H, H, []⟩ : Bs).H a).isSome = true by show (H a).isSome = true; rw [e1]; rfl) z2
      obtain ⟨f1, f2, f3⟩ := j.fresh hn
      unfold fr
      rw [if_neg (by rw [List.mem_append, not_or]; exact ⟨z1, f1⟩), if_neg (by rw [f2]; decide), vw_nl f3]
      exact e
theorem repV_call {O : List Addr} {S H H' : Hp} (j : J B O H) (s0 : Same S H) (s : Same H H') {k : Kd} {d : Da} {v : V} (h : RepV K ⟨fr B O H, H, []⟩ [] H H' k d v) : RepV K B O S H' k d v := by
  have e := fr_call j s [] (fun _ h => by cases h)
  cases k with
  | fz => exact Rep.mono e h
  | bw => exact Rep.mono (e.trans (fr_less fun a ha => by cases ha)) h
  | ow => obtain ⟨p, u, _, h2, _⟩ := h; cases h2
  | nw =>
    obtain ⟨p, u, h1, h2, h3, h4⟩ := h
    exact ⟨p, u, h1, same_none s0 h2, h3, h4.mono (fr_call j s [p] fun a ha => by rw [List.mem_singleton.mp ha]; exact h2)⟩
def X0 : Addr → List (Str × Da) → Prop := fun _ _ => False
theorem ev_call {R : SpR} {t : TA} (hL : B.L = []) (h : EvA K B t env fun xs => allF xs ∧ R (xs.map (·.2)) P X0) : Ev K B (tCall (SpD K R) [] E0 t) env P := fun O σ H Q r hq =>
  h O σ H _ r fun xs vs H1 s1 r1 ⟨f, hr⟩ => by
    rw [List.append_nil]
    have j1 := r.j.step s1
    have hs := fr_same j1
    rw [vw_nil hL] at hs
    exact ⟨fr B O H1, _, P, X0, hs, r1.fz r.j f, hr, fun k d v H' s rv p => hq k d v H' (s1.trans s) (repV_call j1 s1 s rv) p, fun _ _ _ _ _ _ z => z.elim⟩
/-- is the datum one without an object? -/
def Da.sc : Da → Bool
  | .non => true
  | .bl _ => true
  | .int _ => true
  | .str _ => true
  | .ty _ => true
  | .ref _ => true
  | _ => false
theorem rep_sc {G G' : Hp} {d : Da} {v : V} (e : d.sc = true) (h : Rep K G d v) : Rep K G' d v := by
  cases h with
  | non => exact .non
  | bl => exact .bl _
  | int => exact .int _
  | str => exact .str _
  | ty => exact .ty _
  | ref => exact .ref _
  | _ => cases e
/-- a call with what is only seen among the arguments -/
theorem ev_callB {R : SpR} {t : TA} (hL : B.L = []) (h : EvA K B t env fun xs => R (xs.map (·.2)) (fun _ d => P (if d.sc = true then .fz else .bw) d) X0) : Ev K B (tCall (SpD K R) [] E0 t) env P := fun O σ H Q r hq =>
  h O σ H _ r fun xs vs H1 s1 r1 hr => by
    rw [List.append_nil]
    have j1 := r.j.step s1
    have hs := fr_same j1.nil
    rw [vw_nil hL] at hs
    refine ⟨fr B [] H1, _, _, X0, hs, r1.all r.j j1, hr, fun k d v H' s rv p => ?_, fun _ _ _ _ _ _ z => z.elim⟩
    have rw' : RepV K B [] H H' k d v := repV_call j1.nil s1 s rv
    have ra := rw'.all r.j.nil (r.j.step (s1.trans s)).nil
    by_cases e : d.sc = true
    · rw [if_pos e] at p
      exact hq .fz d v H' (s1.trans s) (rep_sc e ra) p
    · rw [if_neg e] at p
      exact hq .bw d v H' (s1.trans s) ra p
/-! ### loops over dicts -/
/-- a dict is walked -/
def Bs.lock (B : Bs) (a : Addr) (o : Obj) (u : HO) : Bs := { B with L := (a, o, u) :: B.L }
theorem lk_lock {a b : Addr} {o : Obj} {u : HO} : lk (B.lock a o u) b = if a = b then some (a, o, u) else lk B b := by
  unfold lk Bs.lock
  rw [List.find?_cons]
  by_cases e : a = b
  · rw [if_pos e]; simp [e]
  · rw [if_neg e]; simp [e]
/-- a key as a datum -/
def keyDa : Key → Da
  | .inl i => .int i
  | .inr s => .str s
theorem rep_keyDa (k : Key) {H : Hp} : Rep K H (keyDa k) (kV k) := by
  cases k with
  | inl i => exact .int i
  | inr s => exact .str s
theorem SlR.congr {G H H' : Hp} {σ : List (Option V)} {env : List Sl} {O : List Addr} (h : SlR K G H σ env O) (e : ∀ p ∈ O, H' p = H p) : SlR K G H' σ env O := by
  induction h with
  | nil => exact .nil
  | un _ ih => exact .un (ih e)
  | dat r _ ih => exact .dat r (ih e)
  | own a b _ ih => exact .own (by rw [e _ List.mem_cons_self]; exact a) b (ih fun p hp => e p (List.mem_cons_of_mem _ hp))
section
variable {O : List Addr} {σ : L2.St} {H : Hp} {a : Addr} {o : Obj} {u : HO}
theorem vw_lock (h : lk B a = none) (e : H a = some u) : vw (B.lock a o u) (upd H a (.frz o u)) = vw B H := by
  funext b
  unfold vw
  rw [lk_lock]
  by_cases z : a = b
  · subst z; rw [if_pos rfl, h]; exact e.symm
  · rw [if_neg z, upd_ne fun y => z y.symm]
theorem vw_unlock (h : lk B a = none) (e : H a = some (.frz o u)) : vw B (upd H a u) = vw (B.lock a o u) H := by
  funext b
  unfold vw
  rw [lk_lock]
  by_cases z : a = b
  · subst z; rw [if_pos rfl, h]; exact upd_same
  · rw [if_neg z, upd_ne fun y => z y.symm]
theorem fr_lock (h : lk B a = none) (e : H a = some u) : fr (B.lock a o u) O (upd H a (.frz o u)) = fr B O H := by
  funext b
  show (if b ∈ O then none else if (B.H b).isSome then (if scT (B.H b) = true then B.H b else B.F b) else vw (B.lock a o u) (upd H a (.frz o u)) b) = _
  rw [vw_lock h e]
  rfl
theorem fr_unlock (h : lk B a = none) (e : H a = some (.frz o u)) : fr B O (upd H a u) = fr (B.lock a o u) O H := by
  funext b
  show (if b ∈ O then none else if (B.H b).isSome then (if scT (B.H b) = true then B.H b else B.F b) else vw B (upd H a u) b) = _
  rw [vw_unlock h e]
  rfl
theorem J.lock (j : J B O H) (h : lk B a = none) (e : H a = some u) (ha : a ∉ O) (hu : (∃ us, u = .dK us) ∨ ∃ us, u = .dT us) : J (B.lock a o u) O (upd H a (.frz o u)) := by
  refine ⟨j.fh, ?_, fun p hp => ?_, fun b x hx => ?_, fun p hp us => by rw [upd_ne (show p ≠ a from fun z => ha (z ▸ hp))]; exact j.nt p hp us⟩
  · rw [vw_lock h e]; exact j.hh
  · have ne : a ≠ p := fun z => ha (z ▸ hp)
    rw [lk_lock, if_neg ne, upd_ne fun z => ne z.symm]
    exact j.own p hp
  · rw [lk_lock] at hx
    by_cases z : a = b
    · subst z
      rw [if_pos rfl] at hx
      cases hx
      exact ⟨upd_same, hu⟩
    · rw [if_neg z] at hx
      rw [upd_ne fun y => z y.symm]
      exact j.lkd b x hx
theorem J.unlock (j : J (B.lock a o u) O H) (h : lk B a = none) : H a = some (.frz o u) ∧ a ∉ O ∧ J B O (upd H a u) := by
  have e : H a = some (.frz o u) := (j.lkd a (a, o, u) (by rw [lk_lock, if_pos rfl])).1
  have ha : a ∉ O := fun z => by
    have := (j.own a z).2.2
    rw [lk_lock, if_pos rfl] at this
    cases this
  refine ⟨e, ha, j.fh, ?_, fun p hp => ?_, fun b x hx => ?_, fun p hp us => by rw [upd_ne (show p ≠ a from fun z => ha (z ▸ hp))]; exact j.nt p hp us⟩
  · rw [vw_unlock h e]; exact j.hh
  · have ne : a ≠ p := fun z => ha (z ▸ hp)
    have := j.own p hp
    rw [lk_lock, if_neg ne] at this
    rw [upd_ne fun z => ne z.symm]
    exact this
  · have z : a ≠ b := fun z => by rw [← z, h] at hx; cases hx
    rw [upd_ne fun y => z y.symm]
    exact j.lkd b x (by rw [lk_lock, if_neg z]; exact hx)
theorem Rl.lock (r : Rl K B env O σ H) (h : lk B a = none) (e : H a = some u) (ha : a ∉ O) (hu : (∃ us, u = .dK us) ∨ ∃ us, u = .dT us) : Rl K (B.lock a o u) env O σ (upd H a (.frz o u)) := by
  obtain ⟨Os, k1, k2, k3⟩ := r.s
  refine ⟨r.j.lock h e ha hu, Os, k1, k2, ?_⟩
  rw [fr_lock h e]
  exact k3.congr fun p hp => upd_ne fun z => ha (z ▸ k2 p hp)
theorem Rl.unlock (r : Rl K (B.lock a o u) env O σ H) (h : lk B a = none) : Rl K B env O σ (upd H a u) := by
  obtain ⟨e, ha, j⟩ := r.j.unlock h
  obtain ⟨Os, k1, k2, k3⟩ := r.s
  refine ⟨j, Os, k1, k2, ?_⟩
  rw [fr_unlock h e]
  exact k3.congr fun p hp => upd_ne fun z => ha (z ▸ k2 p hp)
theorem RepV.unlock {k : Kd} {d : Da} {v : V} {S : Hp} (j : J (B.lock a o u) O H) (h : lk B a = none) (hk : k = .fz ∨ k = .nw) (rv : RepV K (B.lock a o u) O S H k d v) : RepV K B O S (upd H a u) k d v := by
  obtain ⟨e, ha, _⟩ := j.unlock h
  rcases hk with rfl | rfl
  · show Rep K (fr B O (upd H a u)) d v
    rw [fr_unlock h e]
    exact rv
  · obtain ⟨p, w, e1, e2, e3, e4⟩ := rv
    have ne : p ≠ a := fun z => by
      rw [z, e] at e3
      cases e3
      cases e4
    refine ⟨p, w, e1, e2, by rw [upd_ne ne]; exact e3, ?_⟩
    rw [fr_unlock h e]
    exact e4
end
theorem forK {a : Addr} {o : Obj} {us : List (Key × V)} (hl : ∃ x, lk B a = some x ∧ x.2.1 = o ∧ x.2.2 = .dK us) {g : TG} {tb : TS} {O : List Addr} {σ : L2.St} {H : Hp} {De : Ends} (r : Rl K B env O σ H) (f : Ft K B (fr B O H) D De) {kvs : List (Key × Da)} (hk : us.map (·.1) = kvs.map (·.1))
    (Pv : Nat → List Sl → Prop) (h0 : Pv 0 env) (ht : ∀ i kv env', kvs[i]? = some kv → Pv i env' → Gn K B g (keyDa kv.1) env' fun env2 => Sd K B tb { D with nx := Pv (i + 1), ct := Pv (i + 1), bk := D.nx } env2) (hd : ∀ env', Pv kvs.length env' → D.nx env') : ForW (Itk a o us) g tb De σ H := by
  obtain ⟨x, e1, e2, e3⟩ := hl
  have hat : ∀ {O' : List Addr} {H' : Hp}, J B O' H' → H' a = some (.frz o (.dK us)) := fun j => by rw [← e2, ← e3]; exact (j.lkd a x e1).1
  have hn : us.length = kvs.length := by have := congrArg List.length hk; rw [List.length_map, List.length_map] at this; exact this
  refine ⟨fun i m σ' H' => m = us.length - i ∧ i ≤ us.length ∧ ∃ env' O', Rl K B env' O' σ' H' ∧ Same (fr B O H) (fr B O' H') ∧ Pv i env', ⟨us.length, by simp, Nat.zero_le _, env, O, r, Same.refl _, h0⟩, ?_⟩
  rintro i m σ' H' ⟨rfl, hi, env', O', r2, s2, p⟩
  have hb := hat r2.j
  by_cases hlt : i < us.length
  · refine .inr ⟨⟨hb, hlt⟩, fun σ' H' => i + 1 ≤ us.length ∧ ∃ env' O', Rl K B env' O' σ' H' ∧ Same (fr B O H) (fr B O' H') ∧ Pv (i + 1) env', fun σ'' H'' ⟨a, b⟩ => ⟨us.length - (i + 1), by omega, rfl, a, b⟩, fun v H'' y => ?_⟩
    obtain ⟨rfl, k, w, hkw, rfl⟩ := y
    have hi2 : i < kvs.length := by omega
    have ek : kvs[i].1 = k := by
      have h1 : (us.map (·.1))[i]? = some k := by rw [List.getElem?_map, hkw]; rfl
      rw [hk, List.getElem?_map, List.getElem?_eq_getElem hi2] at h1
      exact Option.some.inj h1
    refine ht i kvs[i] env' (List.getElem?_eq_getElem hi2) p O' σ' H'' _ _ r2 (by rw [ek]; exact rep_keyDa k) fun env2 σ2 r3 q => ?_
    refine q O' σ2 H'' _ r3 ⟨?_, f.rt, ?_, ?_⟩
    · exact fun e3 O3 σ3 H3 r4 s4 p3 => ⟨hlt, e3, O3, r4, s2.trans s4, p3⟩
    · exact fun e3 O3 σ3 H3 r4 s4 p3 => f.nx e3 O3 σ3 H3 r4 (s2.trans s4) p3
    · exact fun e3 O3 σ3 H3 r4 s4 p3 => ⟨hlt, e3, O3, r4, s2.trans s4, p3⟩
  · have e : i = us.length := by omega
    subst e
    rw [hn] at p
    exact .inl ⟨⟨hb, Nat.le_refl _⟩, f.nx env' O' σ' H' r2 s2 (hd env' p)⟩
theorem fr_notin {O : List Addr} {H : Hp} {a : Addr} {u : HO} (e : fr B O H a = some u) : a ∉ O := fun z => by
  unfold fr at e
  rw [if_pos z] at e
  cases e
theorem Ft.lock {O : List Addr} {H : Hp} {a : Addr} {o : Obj} {u : HO} {De : Ends} (f : Ft K B (fr B O H) D De) (hl : lk B a = none) (e : H a = some u) :
    Ft K (B.lock a o u) (fr (B.lock a o u) O (upd H a (.frz o u))) D ⟨fun σ' H' => H' a = some (.frz o u) ∧ De.nx σ' (upd H' a u), fun v H' => H' a = some (.frz o u) ∧ De.rt v (upd H' a u), fun σ' H' => H' a = some (.frz o u) ∧ De.bk σ' (upd H' a u), fun σ' H' => H' a = some (.frz o u) ∧ De.ct σ' (upd H' a u)⟩ := by
  rw [fr_lock hl e]
  refine ⟨fun env O' σ' H' r s q => ⟨(r.j.unlock hl).1, f.nx env O' σ' _ (r.unlock hl) (by rw [fr_unlock hl (r.j.unlock hl).1]; exact s) q⟩, fun k d v O' H' hk j rv q => ⟨(j.unlock hl).1, f.rt k d v O' _ hk (j.unlock hl).2.2 (rv.unlock j hl hk) q⟩,
    fun env O' σ' H' r s q => ⟨(r.j.unlock hl).1, f.bk env O' σ' _ (r.unlock hl) (by rw [fr_unlock hl (r.j.unlock hl).1]; exact s) q⟩, fun env O' σ' H' r s q => ⟨(r.j.unlock hl).1, f.ct env O' σ' _ (r.unlock hl) (by rw [fr_unlock hl (r.j.unlock hl).1]; exact s) q⟩⟩
/-- for over a dict with int and text keys that a slot holds -/
theorem sd_forD {i : Nat} {g : TG} {tb : TS} {kvs : List (Key × Da)} (e : env[i]? = some (.dat (dkp kvs))) (Pv : Nat → List Sl → Prop) (h0 : Pv 0 env)
      (ht : ∀ (B' : Bs) i kv env', kvs[i]? = some kv → Pv i env' → Gn K B' g (keyDa kv.1) env' fun env2 => Sd K B' tb { D with nx := Pv (i + 1), ct := Pv (i + 1), bk := D.nx } env2) (hd : ∀ env', Pv kvs.length env' → D.nx env') :
    Sd K B (tLockM (tFor (iKeys (tVar i)) g tb)) D env := fun O σ H De r f => by
  obtain ⟨v, e1, rv⟩ := r.dat_at e
  cases rv with
  | @dk a _ _ us e2 hk ra =>
    have ha := fr_notin e2
    have hv := fr_same r.j _ _ e2
    cases hl : lk B a with
    | none =>
      rw [vw_nl hl] at hv
      refine w_lock hv fun od => ?_
      refine ⟨.ref a, e1, a, od, rfl, .inl ⟨us, upd_same, ?_⟩⟩
      exact forK (B := B.lock a od (.dK us)) ⟨_, by rw [lk_lock, if_pos rfl], rfl, rfl⟩ (r.lock hl hv ha (.inl ⟨us, rfl⟩)) (f.lock hl hv) hk Pv h0 (ht _) hd
    | some x =>
      have h1 := (r.j.lkd a x hl).1
      have e3 : x.2.2 = .dK us := by
        unfold vw at hv
        rw [hl] at hv
        exact Option.some.inj hv
      rw [e3] at h1
      refine w_nolock ⟨.ref a, e1, a, x.2.1, rfl, .inl ⟨us, h1, ?_⟩⟩
      exact forK ⟨x, hl, rfl, e3⟩ r f hk Pv h0 (ht _) hd
theorem ev_lcD {i : Nat} {g : TG} {tt : TT} {te : TE} {vs : List Nat} {kvs : List (Key × Da)} (hw : Gw g vs) (hL : B.L = []) (e : env[i]? = some (.dat (dkp kvs))) (hz : kvs.length < sizeLine) (Fd : Nat → List Da → Prop) (h0 : Fd 0 [])
    (ht : ∀ (B' : Bs) i kv acc, kvs[i]? = some kv → Fd i acc → LcT K B' g tt te (wipeE env vs) (keyDa kv.1) (fun y => Fd (i + 1) (acc ++ [y])) (Fd (i + 1) acc)) (hd : ∀ acc, acc.length ≤ kvs.length → Fd kvs.length acc → P .nw (.lst acc)) : Ev K B (tLockE (tLc (iKeys (tVar i)) g tt te vs)) env P := fun O σ H Q r hq => by
  obtain ⟨v, e1, rv⟩ := r.dat_at e
  cases rv with
  | @dk a _ _ us e2 hk ra =>
    have ha := fr_notin e2
    have hv := fr_same r.j _ _ e2
    rw [vw_nil hL] at hv
    have hl : lk B a = none := by unfold lk; rw [hL]; rfl
    have hn : us.length = kvs.length := by have := congrArg List.length hk; rw [List.length_map, List.length_map] at this; exact this
    have keq : ∀ i, i < kvs.length → ∃ kv, kvs[i]? = some kv ∧ ∃ u, us[i]? = some u ∧ u.1 = kv.1 := fun i hi => by
      refine ⟨kvs[i], List.getElem?_eq_getElem hi, us[i], List.getElem?_eq_getElem (by omega), ?_⟩
      have h1 : (us.map (·.1))[i]? = (kvs.map (·.1))[i]? := by rw [hk]
      rw [List.getElem?_map, List.getElem?_map, List.getElem?_eq_getElem hi, List.getElem?_eq_getElem (by omega)] at h1
      exact Option.some.inj h1
    refine ⟨a, _, hv, trivial, fun od => ⟨.ref a, e1, a, od, rfl, .inl ⟨us, upd_same, ?_⟩⟩⟩
    have r' := r.lock (o := od) hl hv ha (.inl ⟨us, rfl⟩)
    refine lc_J (J := Itk a od us) (g := g) (tt := tt) (te := te) (Q := fun v H' => H' a = some (.frz od (.dK us)) ∧ Q v (upd H' a (.dK us))) (B := B.lock a od (.dK us)) (H0 := upd H a (.frz od (.dK us))) (n := kvs.length) (X := fun i => ((kvs[i]?).map fun kv => keyDa kv.1).getD .non) (x := fun i => ((us[i]?).map fun u => kV u.1).getD .non) ?_ ?_ ?_ ?_ hw r' (Same.refl _) hz Fd h0 ?_ ?_
    · intro i hi G
      obtain ⟨kv, h1, u, h2, h3⟩ := keq i hi
      rw [h1, h2]
      show Rep K G (keyDa kv.1) (kV u.1)
      rw [h3]
      exact rep_keyDa _
    · exact fun i H1 s1 hi => ⟨s1 _ _ upd_same, by omega⟩
    · exact fun i H1 s1 hi => ⟨s1 _ _ upd_same, by omega⟩
    · rintro i H2 v H3 hi ⟨h1, k, w, h2, h3⟩
      refine ⟨h1, ?_⟩
      rw [h2]
      exact h3
    · intro i acc hi f
      obtain ⟨kv, h1, _⟩ := keq i hi
      have := ht (B.lock a od (.dK us)) i kv acc h1 f
      rw [h1]
      exact this
    · intro acc v H' hl2 f s1 rv'
      have hfz := s1 _ _ ((upd_same : (upd H a (.frz od (.dK us))) a = some (.frz od (.dK us))))
      refine ⟨hfz, hq .nw _ v _ (lock_same hv s1) ?_ (hd acc hl2 f)⟩
      have j' := r'.j.step s1
      have q := RepV.unlock j' hl (.inr rfl) rv'
      obtain ⟨p, w, x1, x2, x3, x4⟩ := q
      refine ⟨p, w, x1, ?_, x3, x4⟩
      have ne : p ≠ a := fun z => by rw [z, upd_same] at x2; cases x2
      rw [upd_ne ne] at x2
      exact x2
end
end JP
namespace JP
open PySem PySem.Spec PyProof.Rows L2
/-- marks: the slot owns the object; the result is a new object -/
def tOwnS (t : TS) : TS := t
theorem ps_own {X : Cx} {st : Stmt} {t : TS} (h : PS X st t) : PS X st (tOwnS t) := h
def tNewS (t : TS) : TS := t
theorem ps_new {X : Cx} {st : Stmt} {t : TS} (h : PS X st t) : PS X st (tNewS t) := h
section
variable {K : PySem.W.Frag} {B : Bs} {env : List Sl} {P : Pd} {D : DE}
theorem sd_own {i : Nat} {te : TE} (hi : env[i]?.isSome = true) (h : Ev K B te env fun k d => k = .nw ∧ D.nx (env.set i (.own d))) : Sd K B (tOwnS (tAsg te (gName i))) D env :=
  sd_asg (h.imp fun k d ⟨hk, q⟩ => by subst hk; exact gt_own (by rw [Option.isSome_iff_exists] at hi; obtain ⟨_, e⟩ := hi; exact (List.getElem?_eq_some_iff.mp e).1) q)
theorem sd_new {te : TE} (h : Ev K B te env fun k d => (k = .nw ∨ k = .ow) ∧ D.rt .nw d) : Sd K B (tNewS (tRet te)) D env := sd_retN h
/-! slices of lists -/
def Pt (K : PySem.W.Frag) (B : Bs) (to : TO) (env : List Sl) (P : Option Int → Prop) : Prop := ∀ (O : List Addr) (σ : L2.St) (H : Hp) (Q : Option Int → Hp → Prop), Rl K B env O σ H → (∀ o H', Same H H' → P o → Q o H') → to σ H Q
theorem pt_no {P : Option Int → Prop} (q : P none) : Pt K B tNoPart env P := fun O σ H Q r hq => hq none H (Same.refl _) q
theorem pt_some {t : TE} {P : Option Int → Prop} (h : Ev K B t env fun _ d => ∃ i, d = .int i ∧ P (some i)) : Pt K B (tPart t) env P := fun O σ H Q r hq =>
  h O σ H _ r fun k d v H1 s1 r1 ⟨i, ed, p⟩ => by
    subst ed
    exact ⟨i, r1.int_eq, hq _ H1 s1 p⟩
def cutD {α : Type} (xs : List α) (lo hi : Option Int) : List α := List.take (HT.sIx xs.length xs.length hi - HT.sIx xs.length 0 lo) (List.drop (HT.sIx xs.length 0 lo) xs)
def isLs (k : Kd) (x : Da) (Q : List Da → Prop) : Prop := ∃ ds, (x = .lst ds ∨ x = .sls ds) ∧ k ≠ .bw ∧ Q ds
theorem ls_fz {ds : List Da} {Q : List Da → Prop} (q : Q ds) : isLs .fz (.lst ds) Q := ⟨ds, .inl rfl, nofun, q⟩
theorem ls_ow {ds : List Da} {Q : List Da → Prop} (q : Q ds) : isLs .ow (.lst ds) Q := ⟨ds, .inl rfl, nofun, q⟩
theorem ls_nw {ds : List Da} {Q : List Da → Prop} (q : Q ds) : isLs .nw (.lst ds) Q := ⟨ds, .inl rfl, nofun, q⟩
theorem ls_s {ds : List Da} {Q : List Da → Prop} (q : Q ds) : isLs .fz (.sls ds) Q := ⟨ds, .inr rfl, nofun, q⟩
theorem ev_slL {te : TE} {tl th : TO} (h : Ev K B te env fun k x => Pt K B tl env fun lo => Pt K B th env fun hi => isLs k x fun ds => P .nw (.lst (cutD ds lo hi))) : Ev K B (tSl (rSlQ K) te tl th) env P := fun O σ H Q r hq =>
  h O σ H _ r fun k x v H1 s1 r1 h2 => h2 O σ H1 _ (r.step s1) fun lo H2 s2 h3 => h3 O σ H2 _ (r.step (s1.trans s2)) fun hi H3 s3 ⟨ds, ed, hk, p⟩ => by
    have s0 := (s1.trans s2).trans s3
    have j3 := r.j.step s0
    have rv := r1.mono (s2.trans s3)
    obtain ⟨a, xs, rfl, hs, ra⟩ : ∃ a xs, v = .ref a ∧ SqL K H3 a xs ∧ RepA K (fr B O H3) ds xs := by
      rcases ed with rfl | rfl
      · obtain ⟨a, xs, e1, e2, e3⟩ := rv.lst_at r.j j3 hk; exact ⟨a, xs, e1, SqL.of e2, e3⟩
      · exact rv.sls_at r.j j3 hk
    refine ⟨a, xs, rfl, hs, fun p' H4 n4 s4 e4 => hq .nw _ _ H4 (s0.trans s4) (repV_lst j3 s0 s4 n4 e4 ?_) p⟩
    unfold cutD cutV
    rw [← ra.len]
    exact (ra.drop _).take _
theorem cutD_at {α : Type} (xs : List α) (a b : Nat) (h : a ≤ b) (hb : b ≤ xs.length) : cutD xs (some (a : Int)) (some (b : Int)) = (xs.drop a).take (b - a) := by
  unfold cutD
  rw [HT.sIx_nat, HT.sIx_nat, Nat.min_eq_left hb, Nat.min_eq_left (Nat.le_trans h hb)]
theorem cutD_take {α : Type} (xs : List α) (b : Nat) (hb : b ≤ xs.length) : cutD xs none (some (b : Int)) = xs.take b := by
  unfold cutD
  rw [HT.sIx_nat, HT.sIx_none, Nat.min_eq_left hb, List.drop_zero, Nat.sub_zero]
theorem cutD_map {α β : Type} (f : α → β) (xs : List α) (lo hi : Option Int) : cutD (xs.map f) lo hi = (cutD xs lo hi).map f := by
  unfold cutD
  rw [List.length_map, List.map_take, List.map_drop]
/-- {k: v} -/
theorem ev_disp1 {tk tv : TE} (h : Ev K B tk env fun _ x => isKey x fun key => Ev K B tv env fun l y => (l = .fz ∨ l = .nw) ∧ P .nw (dkp [(key, y)])) : Ev K B (tDisp [(tk, tv)]) env P := fun O σ H Q r hq => by
  refine w_disp fun p hp => ?_
  have s0 : Same H (upd H p (.dK [])) := Same.new hp
  have r0 : Rl K B env (p :: O) σ (upd H p (.dK [])) := r.more s0 hp (by rw [upd_same]; simp) (by rw [upd_same]; nofun)
  refine h (p :: O) σ _ _ r0 fun k x v H1 s1 r1 ⟨key, ek, h2⟩ => h2 (p :: O) σ H1 _ (r0.step s1) fun l y u H2 s2 r2 ⟨hl, pp⟩ => ?_
  have j1 := r0.j.step s1
  have j2 := j1.step s2
  have hv := rep_key ek (r1.seen r0.j j1)
  subst hv
  have hp2 : H2 p = some (.dK []) := s2 _ _ (s1 _ _ upd_same)
  refine ⟨hp2, [(key, u)], rfl, (show 1 ≤ 15 by decide), ?_⟩
  have ry := r2.fz (r0.step s1).j hl
  have b2 : But p H2 (upd H2 p (.dK (mergeK [] [(key, u)]))) := fun b hb => upd_ne hb
  refine hq .nw _ _ _ (Same.mut ((s0.trans s1).trans s2) hp) ⟨p, _, rfl, hp, upd_same, ?_⟩ pp
  exact .dk (kvs := [(key, u)]) rfl (.cons (ry.mono (fr_but List.mem_cons_self b2)) .nil)
/-- what never goes on, as a raise -/
theorem sd_raw {G : L2.St → Hp → Prop} (h : ∀ O σ H, Rl K B env O σ H → G σ H) : Sd K B (fun _ σ H => G σ H) D env := fun O σ H De r f => h O σ H r
theorem ev_notT {te : TE} (h : Ev K B te env fun _ d => d.truOk B ∧ P .fz (.bl (!d.tru))) : Ev K B (tNotT K te) env P := fun O σ H Q rl hq =>
  h O σ H _ rl fun k d v H1 s1 r1 ⟨n, p⟩ => ⟨_, rep_tru (rl.j.step s1) (r1.seen rl.j (rl.j.step s1)) n, hq .fz _ _ H1 s1 (.bl _) p⟩
theorem ev_bits {te : TE} (h : Ev K B te env fun _ d => ∃ i, d = .int i ∧ P .fz (.int (Builtin.Int.intBits i : Nat))) : Ev K B (tBits te) env P := fun O σ H Q rl hq =>
  h O σ H _ rl fun k d v H1 s1 r1 ⟨i, ed, p⟩ => by
    subst ed
    exact ⟨i, r1.int_eq, hq .fz _ _ H1 s1 (.int _) p⟩
theorem eq_int {i : Int} {Q : Int → Prop} (q : Q i) : ∃ j, Da.int i = .int j ∧ Q j := ⟨i, rfl, q⟩
theorem op2_pw {k l : Kd} {i j : Int} (m : Int) (e : i ^ j.toNat = m) (c : CPow i j) (q : P .fz (.int m)) : Op2 K B (rI CPow fun i j => .int (i ^ j.toNat)) (k, .int i) (l, .int j) P := op2_I (g := fun i j => i ^ j.toNat) c (by rw [e]; exact q)
theorem op2_p2 {k l : Kd} (q : P .fz (.int 100)) : Op2 K B (rI CPow fun i j => .int (i ^ j.toNat)) (k, .int 10) (l, .int 2) P := op2_pw 100 (by decide) ⟨by decide, by decide, by decide⟩ q
theorem op2_p3 {k l : Kd} (q : P .fz (.int 1000)) : Op2 K B (rI CPow fun i j => .int (i ^ j.toNat)) (k, .int 10) (l, .int 3) P := op2_pw 1000 (by decide) ⟨by decide, by decide, by decide⟩ q
theorem op2_p4 {k l : Kd} (q : P .fz (.int 10000)) : Op2 K B (rI CPow fun i j => .int (i ^ j.toNat)) (k, .int 10) (l, .int 4) P := op2_pw 10000 (by decide) ⟨by decide, by decide, by decide⟩ q
theorem op2_p5 {k l : Kd} (q : P .fz (.int 100000)) : Op2 K B (rI CPow fun i j => .int (i ^ j.toNat)) (k, .int 10) (l, .int 5) P := op2_pw 100000 (by decide) ⟨by decide, by decide, by decide⟩ q
theorem op2_p6 {k l : Kd} (q : P .fz (.int 1000000)) : Op2 K B (rI CPow fun i j => .int (i ^ j.toNat)) (k, .int 10) (l, .int 6) P := op2_pw 1000000 (by decide) ⟨by decide, by decide, by decide⟩ q
theorem op2_p9 {k l : Kd} (q : P .fz (.int 1000000000)) : Op2 K B (rI CPow fun i j => .int (i ^ j.toNat)) (k, .int 10) (l, .int 9) P := op2_pw 1000000000 (by decide) ⟨by decide, by decide, by decide⟩ q
theorem op2_p12 {k l : Kd} (q : P .fz (.int 1000000000000)) : Op2 K B (rI CPow fun i j => .int (i ^ j.toNat)) (k, .int 10) (l, .int 12) P := op2_pw 1000000000000 (by decide) ⟨by decide, by decide, by decide⟩ q
theorem op2_p15 {k l : Kd} (q : P .fz (.int 1000000000000000)) : Op2 K B (rI CPow fun i j => .int (i ^ j.toNat)) (k, .int 10) (l, .int 15) P := op2_pw 1000000000000000 (by decide) ⟨by decide, by decide, by decide⟩ q
theorem op2_p18 {k l : Kd} (q : P .fz (.int 1000000000000000000)) : Op2 K B (rI CPow fun i j => .int (i ^ j.toNat)) (k, .int 10) (l, .int 18) P := op2_pw 1000000000000000000 (by decide) ⟨by decide, by decide, by decide⟩ q
theorem op2_p20 {k l : Kd} (q : P .fz (.int 100000000000000000000)) : Op2 K B (rI CPow fun i j => .int (i ^ j.toNat)) (k, .int 10) (l, .int 20) P := op2_pw 100000000000000000000 (by decide) ⟨by decide, by decide, by decide⟩ q
theorem op2_p24 {k l : Kd} (q : P .fz (.int 1000000000000000000000000)) : Op2 K B (rI CPow fun i j => .int (i ^ j.toNat)) (k, .int 10) (l, .int 24) P := op2_pw 1000000000000000000000000 (by decide) ⟨by decide, by decide, by decide⟩ q
theorem op2_p30 {k l : Kd} (q : P .fz (.int 1000000000000000000000000000000)) : Op2 K B (rI CPow fun i j => .int (i ^ j.toNat)) (k, .int 10) (l, .int 30) P := op2_pw 1000000000000000000000000000000 (by decide) ⟨by decide, by decide, by decide⟩ q
theorem iff_t {c : Bool} {A B : Prop} (h : c = true) (a : A) : if c = true then A else B := by rw [if_pos h]; exact a
theorem iff_f {c : Bool} {A B : Prop} (h : c = false) (b : B) : if c = true then A else B := by rw [if_neg (by rw [h]; decide)]; exact b
end
end JP
set_option Elab.async false
set_option linter.all false
set_option maxRecDepth 100000
set_option maxHeartbeats 4000000
namespace JP
open PySem PySem.Spec PyProof.Rows L2
/-! what the laws' common helpers compute -/
def lawCell (ns : List Int) (k : Int) : Int :=
  if k < ns.length then ns.getD k.toNat 0 else (((ns.foldl (fun s c => (s * 31 + c % 1000003) % 1000003) 17) + 7) * (k + 3) * 69621) % 2147483647
def digA : Int → List Int → List Int
  | _, [] => []
  | r, z :: zs => r % z :: digA (r.fdiv z) zs
def dS (s : Int) (k : Nat) : Int := (s * 48271 + 974711 * (k : Int) + 12345) % 2147483647
def dT (s : Int) : Int := ((s * (s.fdiv 65537 + 3)) % 2147483629).fdiv 19
def digB : Int → Nat → List Int → List Int
  | _, _, [] => []
  | s, k, z :: zs => dT (dS s k) % z :: digB (dS s k) (k + 1) zs
def digits (c : Int) (zs : List Int) : List Int := if 1000000000000000000 ≤ c then digA (c - 1000000000000000000) zs else digB (c % 2147483629) 0 zs
/-- row is a row of digits for the sizes -/
def Dig (zs ds : List Int) : Prop := ds.length = zs.length ∧ ∀ (i : Nat) (z d : Int), zs[i]? = some z → ds[i]? = some d → 0 ≤ d ∧ d < z
theorem digA_ok : ∀ (zs : List Int) (r : Int), (∀ z ∈ zs, 0 < z) → Dig zs (digA r zs)
  | [], _, _ => ⟨rfl, fun i z d h => by simp at h⟩
  | z :: zs, r, h => by
    obtain ⟨a, b⟩ := digA_ok zs (r.fdiv z) fun y hy => h y (List.mem_cons_of_mem _ hy)
    have hz := h z List.mem_cons_self
    refine ⟨by show _ + 1 = _ + 1; rw [a], fun i y d h1 h2 => ?_⟩
    cases i with
    | zero =>
      have e1 : z = y := by simpa using h1
      have e2 : r % z = d := by simpa [digA] using h2
      rw [← e1, ← e2]
      exact ⟨Int.emod_nonneg _ (by omega), Int.emod_lt_of_pos _ hz⟩
    | succ i => exact b i y d (by simpa using h1) (by simpa [digA] using h2)
theorem digB_ok : ∀ (zs : List Int) (s : Int) (k : Nat), (∀ z ∈ zs, 0 < z) → Dig zs (digB s k zs)
  | [], _, _, _ => ⟨rfl, fun i z d h => by simp at h⟩
  | z :: zs, s, k, h => by
    obtain ⟨a, b⟩ := digB_ok zs (dS s k) (k + 1) fun y hy => h y (List.mem_cons_of_mem _ hy)
    have hz := h z List.mem_cons_self
    refine ⟨by show _ + 1 = _ + 1; rw [a], fun i y d h1 h2 => ?_⟩
    cases i with
    | zero =>
      have e1 : z = y := by simpa using h1
      have e2 : dT (dS s k) % z = d := by simpa [digB] using h2
      rw [← e1, ← e2]
      exact ⟨Int.emod_nonneg _ (by omega), Int.emod_lt_of_pos _ hz⟩
    | succ i => exact b i y d (by simpa using h1) (by simpa [digB] using h2)
theorem digits_ok (c : Int) (zs : List Int) (h : ∀ z ∈ zs, 0 < z) : Dig zs (digits c zs) := by
  unfold digits
  split
  · exact digA_ok _ _ h
  · exact digB_ok _ _ _ h
theorem dmap_at {α : Type} {em : α → Da} {ns : List α} {i : Nat} {x : Da} (h : (ns.map em)[i]? = some x) : ∃ c, ns[i]? = some c ∧ em c = x := by
  rw [List.getElem?_map] at h
  cases e : ns[i]? with
  | none => rw [e] at h; cases h
  | some c => rw [e] at h; exact ⟨c, rfl, Option.some.inj h⟩
theorem dmap_ix {α : Type} {em : α → Da} {ns : List α} {i : Nat} {c : α} (h : ns[i]? = some c) : atI (ns.map em) (i : Int) = some (em c) := by
  refine atI_nat ?_
  rw [List.getElem?_map, h]; rfl
theorem dix {ds : List Da} {i : Nat} {c : Da} (h : ds[i]? = some c) : atI ds (i : Int) = some c := atI_nat h
theorem ints_ix (ns : List Int) {i : Int} (h0 : 0 ≤ i) (h1 : i < ns.length) : ∃ c, ns[i.toNat]? = some c ∧ c ∈ ns ∧ atI (ns.map Da.int) i = some (.int c) := by
  have hi : i.toNat < ns.length := by omega
  refine ⟨ns[i.toNat], List.getElem?_eq_getElem hi, List.getElem_mem hi, ?_⟩
  have g := dmap_ix (em := Da.int) (List.getElem?_eq_getElem hi)
  rw [Int.toNat_of_nonneg h0] at g
  exact g
/-- a digit of a row -/
theorem dig_at {zs ds : List Int} (D : Dig zs ds) (i : Nat) {z : Int} (h : zs[i]? = some z) : ∃ v, ds[i]? = some v ∧ atI (ds.map Da.int) (i : Int) = some (.int v) ∧ 0 ≤ v ∧ v < z := by
  have hl : i < ds.length := by rw [D.1]; exact (List.getElem?_eq_some_iff.mp h).1
  have e := List.getElem?_eq_getElem hl
  have := D.2 i z _ h e
  exact ⟨_, e, dmap_ix e, this.1, this.2⟩
section
variable {K : PySem.W.Frag} {B : Bs} {env : List Sl} {P : Pd} {D : DE}
/-- a list times a number -/
theorem op2_rep {k l : Kd} {xs : List Da} {n : Int} (hk : k ≠ .bw) (h0 : -(2 ^ 63) ≤ n) (h1 : n < 2 ^ 63) (hz : xs.length * n.toNat ≤ sizeLine) (q : P .nw (.lst (List.replicate n.toNat xs).flatten)) : Op2 K B rRepA (k, .lst xs) (l, .int n) P := fun O S H v u Q j0 j1 hS r1 r2 hq => by
  obtain ⟨a, vs, rfl, e1, ra⟩ := r1.lst_at j0 j1 hk
  rw [r2.int_eq]
  exact ⟨a, n, vs, rfl, rfl, e1, h0, h1, by rw [← ra.len]; exact hz, fun p H2 n2 s2 e2 => hq .nw _ _ H2 s2 (repV_lst j1 hS s2 n2 e2 (ra.rep _)) q⟩
end
end JP
set_option Elab.async false
set_option linter.all false
set_option maxRecDepth 100000
set_option maxHeartbeats 4000000
namespace JP
open PySem PySem.Spec PyProof.Rows L2
/-! ### sorted ints -/
def srt (ns : List Int) : List Int := ns.mergeSort fun a b => decide (a ≤ b)
theorem srt_perm (ns : List Int) : (srt ns).Perm ns := List.mergeSort_perm ns _
theorem srt_sorted (ns : List Int) : (srt ns).Pairwise (· ≤ ·) :=
  (List.pairwise_mergeSort (le := fun a b : Int => decide (a ≤ b)) (fun a b c h1 h2 => by simp only [decide_eq_true_eq] at *; omega) (fun a b => by simp only [Bool.or_eq_true, decide_eq_true_eq]; omega) ns).imp fun h => by simpa using h
theorem sorted_uniq : ∀ {l m : List Int}, l.Perm m → l.Pairwise (· ≤ ·) → m.Pairwise (· ≤ ·) → l = m
  | [], m, h, _, _ => by rw [List.Perm.nil_eq h]
  | a :: l, [], h, _, _ => by have := h.length_eq; simp at this
  | a :: l, b :: m, h, h1, h2 => by
    obtain ⟨a1, a2⟩ := List.pairwise_cons.mp h1
    obtain ⟨b1, b2⟩ := List.pairwise_cons.mp h2
    have e : a = b := by
      have hb : b ∈ a :: l := h.mem_iff.mpr List.mem_cons_self
      have ha : a ∈ b :: m := h.mem_iff.mp List.mem_cons_self
      rcases List.mem_cons.mp hb with z | z
      · exact z.symm
      · rcases List.mem_cons.mp ha with y | y
        · exact y
        · have := a1 b z; have := b1 a y; omega
    subst e
    rw [sorted_uniq (List.Perm.cons_inv h) a2 b2]
theorem srt_uniq {l ns : List Int} (h : l.Perm ns) (s : l.Pairwise (· ≤ ·)) : l = srt ns := sorted_uniq (h.trans (srt_perm ns).symm) s (srt_sorted ns)
theorem srt_len (ns : List Int) : (srt ns).length = ns.length := (srt_perm ns).length_eq
theorem srt_mem {ns : List Int} {x : Int} : x ∈ srt ns ↔ x ∈ ns := (srt_perm ns).mem_iff
theorem srt_lt {ns : List Int} (h : ns.Nodup) : (srt ns).Pairwise (· < ·) := by
  have nd : (srt ns).Nodup := (srt_perm ns).nodup_iff.mpr h
  exact ((srt_sorted ns).and (show (srt ns).Pairwise (· ≠ ·) from nd)).imp fun ⟨a, b⟩ => by omega
section
variable {K : PySem.W.Frag} {B : Bs} {env : List Sl} {P : Pd} {D : DE}
/-- sorted(xs), a list of ints -/
theorem RepV.intsL {O : List Addr} {S H : Hp} (j0 : J B O S) (j : J B O H) {k : Kd} {x : Da} {ns : List Int} (e : x = .lst (ns.map Da.int) ∨ x = .sls (ns.map Da.int)) {v : V} (h : RepV K B O S H k x v) : ∃ a, v = .ref a ∧ SqL K H a (ns.map V.int) := by
  have hs := h.seen j0 j
  rcases e with rfl | rfl
  · cases hs with
    | lst e r => have := RepA.ints r; subst this; exact ⟨_, rfl, SqL.of (j.real e nofun nofun)⟩
  · cases hs with
    | sls e r => have := RepA.ints r; subst this; exact ⟨_, rfl, j.sl e⟩
theorem opn_sort {k : Kd} {x : Da} {ns : List Int} (e : x = .lst (ns.map Da.int) ∨ x = .sls (ns.map Da.int)) (q : P .nw (.lst ((srt ns).map Da.int))) : OpN K B (rSortA K) [(k, x)] P := fun O S H vs Q j0 j1 s r hq => by
  cases r with
  | cons r1 r2 =>
    cases r2
    obtain ⟨a, rfl, hs⟩ := r1.intsL j0 j1 e
    refine ⟨a, ns, rfl, hs, fun ns' p H2 hp hsr hn s2 e2 => ?_⟩
    have := srt_uniq hp hsr
    subst this
    exact hq .nw _ _ H2 s2 (repV_lst j1 s s2 hn e2 (RepA.ofInts _)) q
/-- sorted(d), list(d), a dict with ints as keys -/
theorem opn_sortD {k : Kd} {kvs : List (Key × Da)} {ks : List Int} (e : kvs.map (·.1) = ks.map Sum.inl) (hk : k ≠ .bw) (q : P .nw (.lst ((srt ks).map Da.int))) : OpN K B rSortD [(k, dkp kvs)] P := fun O S H vs Q j0 j1 s r hq => by
  cases r with
  | cons r1 r2 =>
    cases r2
    obtain ⟨a, us, rfl, hs, kr⟩ := r1.dkp_at j0 j1 hk
    refine ⟨a, us, ks, rfl, hs, kr.1.trans e, fun ns' p H2 hp hsr hn s2 e2 => ?_⟩
    have := srt_uniq hp hsr
    subst this
    exact hq .nw _ _ H2 s2 (repV_lst j1 s s2 hn e2 (RepA.ofInts _)) q
theorem opn_listD {k : Kd} {kvs : List (Key × Da)} (hk : k ≠ .bw) (q : P .nw (.lst (kvs.map fun kv => keyDa kv.1))) : OpN K B rListD [(k, dkp kvs)] P := fun O S H vs Q j0 j1 s r hq => by
  cases r with
  | cons r1 r2 =>
    cases r2
    obtain ⟨a, us, rfl, hs, kr⟩ := r1.dkp_at j0 j1 hk
    refine ⟨a, us, rfl, hs, fun p H2 hn s2 e2 => ?_⟩
    refine hq .nw _ _ H2 s2 (repV_lst j1 s s2 hn e2 ?_) q
    have key : ∀ (us : List (Key × V)) (kvs : List (Key × Da)), us.map (·.1) = kvs.map (·.1) → RepA K (fr B O H) (kvs.map fun kv => keyDa kv.1) (us.map fun kv => kV kv.1) := by
      intro us
      induction us with
      | nil => intro kvs h; have : kvs = [] := List.map_eq_nil_iff.mp h.symm; subst this; exact .nil
      | cons u us ih =>
        intro kvs h
        cases kvs with
        | nil => cases h
        | cons kv kvs =>
          injection h with h1 h2
          exact .cons (by have h1 : u.1 = kv.1 := h1; show Rep K _ (keyDa kv.1) (kV u.1); rw [h1]; exact rep_keyDa _) (ih kvs h2)
    exact key us kvs kr.1
/-- max, min of a list of ints -/
theorem opn_max {k : Kd} {x : Da} {ns : List Int} (e : x = .lst (ns.map Da.int) ∨ x = .sls (ns.map Da.int)) (hn : 0 < ns.length) (q : ∀ m, m ∈ ns → (∀ y ∈ ns, y ≤ m) → P .fz (.int m)) : OpN K B (rMaxA K) [(k, x)] P := fun O S H vs Q j0 j1 s r hq => by
  cases r with
  | cons r1 r2 =>
    cases r2
    obtain ⟨a, rfl, hs⟩ := r1.intsL j0 j1 e
    exact ⟨a, ns, rfl, hs, hn, fun m h1 h2 => hq .fz _ _ H (Same.refl _) (.int m) (q m h1 h2)⟩
theorem opn_min {k : Kd} {x : Da} {ns : List Int} (e : x = .lst (ns.map Da.int) ∨ x = .sls (ns.map Da.int)) (hn : 0 < ns.length) (q : ∀ m, m ∈ ns → (∀ y ∈ ns, m ≤ y) → P .fz (.int m)) : OpN K B (rMinA K) [(k, x)] P := fun O S H vs Q j0 j1 s r hq => by
  cases r with
  | cons r1 r2 =>
    cases r2
    obtain ⟨a, rfl, hs⟩ := r1.intsL j0 j1 e
    exact ⟨a, ns, rfl, hs, hn, fun m h1 h2 => hq .fz _ _ H (Same.refl _) (.int m) (q m h1 h2)⟩
/-- list(d.items()) -/
theorem ev_items {te : TE} (hL : B.L = []) (h : Ev K B te env fun k x => k ≠ .bw ∧ ∃ kvs, x = dkp kvs ∧ P .nw (.lst (kvs.map fun kv => .tup [keyDa kv.1, kv.2]))) : Ev K B (LiI.tListItems te) env P := fun O σ H Q r hq => by
  refine w_items (h O σ H _ r fun k x v H1 s1 r1 ⟨hk, kvs, ex, p⟩ => ?_)
  subst ex
  have j1 := r.j.step s1
  obtain ⟨a, us, rfl, hs, kr⟩ := r1.dkp_at r.j j1 hk
  have ho : H1 a = some (.dK us) := by
    have h2 := (r1.seen r.j j1)
    rw [vw_nil hL] at h2
    cases h2 with
    | dk e1 e2 e3 =>
      rcases hs with hs | ⟨o, hs⟩
      · exact hs
      · rw [hs] at e1; cases e1
  refine ⟨a, us, rfl, ho, fun H2 p' ts s2 n1 n2 n3 e2 hp => ?_⟩
  have s2 : Same H1 H2 := s2
  refine hq .nw _ _ H2 (s1.trans s2) ⟨p', _, rfl, same_none s1 n1, e2, .lst ?_⟩ p
  have kr2 := kr.mono (fr_upd j1 s2 n1)
  have key : ∀ (us : List (Key × V)) (ts : List Addr) (kvs : List (Key × Da)), Paired (fun (t : Addr) (q : Key × V) => H2 t = some (.tup [kV q.1, q.2])) ts us → (∀ t ∈ ts, H1 t = none) → p' ∉ ts → KvR K (fr B (p' :: O) H2) kvs us → RepA K (fr B (p' :: O) H2) (kvs.map fun kv => .tup [keyDa kv.1, kv.2]) (ts.map V.ref) := by
    intro us
    induction us with
    | nil =>
      intro ts kvs h1 _ _ h2
      cases h1
      have : kvs = [] := List.map_eq_nil_iff.mp h2.1.symm
      subst this
      exact .nil
    | cons u us ih =>
      intro ts kvs h1 hn hp h2
      cases h1 with
      | cons h1 t1 =>
        rename_i t ts0
        cases kvs with
        | nil => cases h2.1
        | cons kv kvs =>
          obtain ⟨u', us', e, e1, rr, t2⟩ := h2.cons_inv
          cases e
          obtain ⟨f1, f2, f3⟩ := j1.fresh (hn t List.mem_cons_self)
          have ft : fr B (p' :: O) H2 t = some (.tup [kV u.1, u.2]) := fr_new (by rw [List.mem_cons, not_or]; exact ⟨fun z => hp (z ▸ List.mem_cons_self), f1⟩) f2 f3 h1
          exact .cons (.tup ft (.cons (by rw [e1]; exact rep_keyDa _) (.cons rr .nil))) (ih ts0 kvs t1 (fun t ht => hn t (List.mem_cons_of_mem _ ht)) (fun z => hp (List.mem_cons_of_mem _ z)) t2)
  exact key us ts kvs hp n2 n3 kr2
end
/-! ### tallies -/
/-- the dict with the int keys ks and the values f -/
def tkD (ks : List Int) (f : Int → Int) : List (Key × Da) := ks.map fun s => (Sum.inl s, Da.int (f s))
theorem tkD_keys (ks : List Int) (f : Int → Int) : (tkD ks f).map (·.1) = ks.map Sum.inl := by unfold tkD; rw [List.map_map]; rfl
theorem tkD_len (ks : List Int) (f : Int → Int) : (tkD ks f).length = ks.length := List.length_map ..
theorem getG_pos {κ α : Type} [DecidableEq κ] {x : κ × α} {kvs : List (κ × α)} {k : κ} (h : x.1 = k) : getG (x :: kvs) k = some x.2 := by unfold getG; rw [List.find?_cons_of_pos (by simpa using h)]; rfl
theorem getG_neg {κ α : Type} [DecidableEq κ] {x : κ × α} {kvs : List (κ × α)} {k : κ} (h : x.1 ≠ k) : getG (x :: kvs) k = getG kvs k := by unfold getG; rw [List.find?_cons_of_neg (by simpa using h)]
theorem getG_tkD {ks : List Int} {f : Int → Int} {s : Int} (h : s ∈ ks) : getG (tkD ks f) (Sum.inl s) = some (.int (f s)) := by
  induction ks with
  | nil => cases h
  | cons k r ih =>
    by_cases e : k = s
    · subst e; exact getG_pos rfl
    · exact (getG_neg (fun z => e (Sum.inl.inj z))).trans (ih ((List.mem_cons.mp h).resolve_left fun z => e z.symm))
theorem getG_tkD0 {ks : List Int} {f : Int → Int} {s : Int} (h : s ∉ ks) : getG (tkD ks f) (Sum.inl s) = none := by
  induction ks with
  | nil => rfl
  | cons k r ih =>
    have e : k ≠ s := fun z => h (z ▸ List.mem_cons_self)
    exact (getG_neg (fun z => e (Sum.inl.inj z))).trans (ih fun z => h (List.mem_cons_of_mem _ z))
theorem Tal.getD {ks : List Int} {f : Int → Int} (t : Tal ks f) (s : Int) : (getG (tkD ks f) (Sum.inl s)).getD (.int 0) = .int (f s) := by
  by_cases h : s ∈ ks
  · rw [getG_tkD h]; rfl
  · rw [getG_tkD0 h, t.out s h]; rfl
theorem any_tkD (ks : List Int) (f : Int → Int) (s : Int) : ((tkD ks f).any fun kv => decide (kv.1 = Sum.inl s)) = decide (s ∈ ks) := by
  unfold tkD
  rw [List.any_map]
  induction ks with
  | nil => rfl
  | cons k r ih =>
    rw [List.any_cons, ih]
    by_cases e : k = s
    · simp [e]
    · simp only [Function.comp, Sum.inl.injEq, e, decide_false, Bool.false_or, List.mem_cons, decide_eq_decide]
      constructor
      · exact .inr
      · exact fun h => h.resolve_left fun z => e z.symm
theorem put_tkD (ks : List Int) (f : Int → Int) (s v : Int) : putG (tkD ks f) (Sum.inl s) (.int v) = tkD (addk ks s) (ups f s v) := by
  unfold putG
  rw [any_tkD]
  by_cases h : s ∈ ks
  · rw [decide_eq_true h, if_pos rfl]
    unfold addk tkD
    rw [if_pos h, List.map_map]
    refine List.map_congr_left fun k hk => ?_
    show (if (Sum.inl k : Key) = Sum.inl s then (Sum.inl k, Da.int v) else (Sum.inl k, Da.int (f k))) = (Sum.inl k, Da.int (if k = s then v else f k))
    by_cases e : k = s
    · rw [if_pos e, if_pos (e ▸ rfl)]
    · rw [if_neg e, if_neg fun z => e (Sum.inl.inj z)]
  · rw [decide_eq_false h, if_neg (by decide)]
    unfold addk tkD
    rw [if_neg h, List.map_append, List.map_cons, List.map_nil]
    congr 1
    · refine List.map_congr_left fun k hk => ?_
      have e : k ≠ s := fun z => h (z ▸ hk)
      show _ = (Sum.inl k, Da.int (if k = s then v else f k))
      rw [if_neg e]
    · show _ = [(Sum.inl s, Da.int (if s = s then v else f s))]
      rw [if_pos rfl]
theorem tkD_congr {ks : List Int} {f g : Int → Int} (h : ∀ u ∈ ks, f u = g u) : tkD ks f = tkD ks g := List.map_congr_left fun k hk => by rw [h k hk]
/-- one more pair in a tally -/
theorem Tal.step {ks : List Int} {f g : Int → Int} (t : Tal ks f) (s c : Int) (hg : ∀ u, g u = f u + if s = u then c else 0) : Tal (addk ks s) g ∧ putG (tkD ks f) (Sum.inl s) (.int (f s + c)) = tkD (addk ks s) g := by
  obtain ⟨t2, c2⟩ := t.put s c hg
  exact ⟨t2, by rw [put_tkD, ← tkD_congr c2]⟩
/-! ### polynomials as data -/
/-- the dict of a polynomial -/
def dkD (R : List Pr) : List (Key × Da) := R.map fun p => (Sum.inl p.1, Da.int p.2)
theorem dkD_tkD {R : List Pr} (a : Asc R) : dkD R = tkD (R.map (·.1)) (cf R) := by
  unfold dkD tkD
  rw [List.map_map]
  refine List.map_congr_left fun p hp => ?_
  show _ = (Sum.inl p.1, Da.int (cf R p.1))
  rw [cf_in a hp]
theorem dkD_len (R : List Pr) : (dkD R).length = R.length := List.length_map ..
theorem dkD_keys (R : List Pr) : (dkD R).map (·.1) = (R.map (·.1)).map Sum.inl := by unfold dkD; rw [List.map_map, List.map_map]; rfl
theorem getG_dkD {R : List Pr} (a : Asc R) {p : Pr} (h : p ∈ R) : getG (dkD R) (Sum.inl p.1) = some (.int p.2) := by
  rw [dkD_tkD a, getG_tkD (List.mem_map_of_mem h), cf_in a h]
theorem put_dkD {R : List Pr} (p : Pr) (h : ∀ q ∈ R, q.1 < p.1) : putG (dkD R) (Sum.inl p.1) (.int p.2) = dkD (R ++ [p]) := by
  have : ((dkD R).any fun kv => decide (kv.1 = Sum.inl p.1)) = false := by
    rw [List.any_eq_false]
    intro x hx
    obtain ⟨q, hq, rfl⟩ := List.mem_map.mp hx
    have := h q hq
    simp only [decide_eq_true_eq, Sum.inl.injEq]
    omega
  unfold putG
  rw [this, if_neg (by decide)]
  unfold dkD
  rw [List.map_append]
  rfl
abbrev prT (p : Pr) : Da := .tup [.int p.1, .int p.2]
abbrev prL (p : Pr) : Da := .lst [.int p.1, .int p.2]
/-- the tuple of tuples -/
abbrev pT (R : List Pr) : Da := .tup (R.map prT)
abbrev pL (R : List Pr) : Da := .lst (R.map prL)
def isPr (e : Da) (p : Pr) : Prop := its e = some [.int p.1, .int p.2]
/-- a list or a tuple of pairs -/
def isPs (d : Da) (ps : List Pr) : Prop := ∃ es, its d = some es ∧ Paired isPr es ps
theorem isPr_T (p : Pr) : isPr (prT p) p := rfl
theorem isPr_L (p : Pr) : isPr (prL p) p := rfl
theorem paired_map {α β : Type} {F : α → β → Prop} {f : β → α} (h : ∀ b, F (f b) b) : ∀ bs : List β, Paired F (bs.map f) bs
  | [] => .nil
  | b :: bs => .cons (h b) (paired_map h bs)
theorem isPs_T (R : List Pr) : isPs (pT R) R := ⟨_, rfl, paired_map isPr_T R⟩
theorem isPs_L (R : List Pr) : isPs (pL R) R := ⟨_, rfl, paired_map isPr_L R⟩
theorem isPs_lT (R : List Pr) : isPs (.lst (R.map prT)) R := ⟨_, rfl, paired_map isPr_T R⟩
theorem isPs_tL (R : List Pr) : isPs (.tup (R.map prL)) R := ⟨_, rfl, paired_map isPr_L R⟩
/-- the keys of a tally of pairs; its canonical list -/
def keysP (ps : List Pr) : List Int := ps.foldl (fun ks p => addk ks p.1) []
theorem tal_take (ps : List Pr) (i : Nat) : Tal (keysP (ps.take i)) (cf (ps.take i)) := by
  induction i with
  | zero => exact Tal.nil
  | succ i ih =>
    cases e : ps[i]? with
    | none => rw [List.take_of_length_le (by have := List.getElem?_eq_none_iff.mp e; omega)]; rw [List.take_of_length_le (by have := List.getElem?_eq_none_iff.mp e; omega)] at ih; exact ih
    | some p =>
      have : keysP (ps.take (i + 1)) = addk (keysP (ps.take i)) p.1 := by unfold keysP; rw [List.take_add_one, e, List.foldl_append]; rfl
      rw [this]
      exact (ih.put p.1 p.2 (cf_take_succ ps i p e)).1
theorem keysP_succ {ps : List Pr} {i : Nat} {p : Pr} (e : ps[i]? = some p) : keysP (ps.take (i + 1)) = addk (keysP (ps.take i)) p.1 := by unfold keysP; rw [List.take_add_one, e, List.foldl_append]; rfl
theorem tal_all (ps : List Pr) : Tal (keysP ps) (cf ps) := by
  have := tal_take ps ps.length
  rwa [List.take_length] at this
theorem keysP_len : ∀ (ps : List Pr), (keysP ps).length ≤ ps.length := by
  intro ps
  have key : ∀ (ps : List Pr) (ks : List Int), (ps.foldl (fun ks p => addk ks p.1) ks).length ≤ ks.length + ps.length := by
    intro ps
    induction ps with
    | nil => intro ks; exact Nat.le_refl _
    | cons p r ih => intro ks; have := ih (addk ks p.1); have := length_addk ks p.1; simp only [List.foldl_cons, List.length_cons]; omega
  have := key ps []
  unfold keysP
  simpa using this
/-- the polynomial of pairs, in its form -/
def can (ps : List Pr) : List Pr := pick (srt (keysP ps)) (cf ps)
theorem can_isP (ps : List Pr) : IsP (cf ps) (can ps) := pick_isP (tal_all ps) (srt_perm _) (srt_sorted _)
theorem can_len (ps : List Pr) : (can ps).length ≤ ps.length := IsP.length_le (can_isP ps)
theorem can_congr {ps qs : List Pr} (h : ∀ s, cf ps s = cf qs s) : can ps = can qs := (can_isP ps).uniq' (can_isP qs) h
theorem can_of {ps R : List Pr} (h : IsP (cf ps) R) : can ps = R := (can_isP ps).uniq h
theorem can_can (ps : List Pr) : can (can ps) = can ps := can_of (can_isP ps).self
theorem can_nil_iff {ps : List Pr} : can ps = [] ↔ ∀ s, cf ps s = 0 := by
  constructor
  · intro h s; rw [← (can_isP ps).cfs, h]; rfl
  · intro h; exact (can_isP ps).uniq' (R := can ps) (S := []) (g := fun _ => 0) ⟨List.Pairwise.nil, (fun _ h => by cases h), fun _ => rfl⟩ h
theorem Wb.can {b : Nat} {ps : List Pr} (h : Wb b ps) : Wb b (can ps) := h.of (can_isP ps)
/-! the forms in which pairs are passed -/
def mixD : Nat → List Pr → List Da
  | _, [] => []
  | n, p :: r => (if n = 1 ∨ n = 2 then prL p else prT p) :: mixD (n + 1) r
theorem mixD_snoc (p : Pr) : ∀ (ps : List Pr) (n : Nat), mixD n (ps ++ [p]) = mixD n ps ++ [if n + ps.length = 1 ∨ n + ps.length = 2 then prL p else prT p]
  | [], n => rfl
  | q :: r, n => by
    show _ :: mixD (n + 1) (r ++ [p]) = _ :: (mixD (n + 1) r ++ _)
    rw [mixD_snoc p r (n + 1), List.length_cons, show n + 1 + r.length = n + (r.length + 1) by omega]
theorem mixD_prs : ∀ (ps : List Pr) (n : Nat), Paired isPr (mixD n ps) ps
  | [], _ => .nil
  | p :: r, n => by
    refine .cons ?_ (mixD_prs r (n + 1))
    split <;> rfl
theorem mixD_len : ∀ (ps : List Pr) (n : Nat), (mixD n ps).length = ps.length
  | [], _ => rfl
  | p :: r, n => by show (mixD (n + 1) r).length + 1 = r.length + 1; rw [mixD_len r]
def passD (form : Int) (ps : List Pr) : Da :=
  if form = 0 then pL ps else if form = 1 then .lst (ps.map prT) else if form = 2 then .tup (ps.map prL) else if form = 3 then pT ps else .lst (mixD 0 ps)
theorem passD_ps (form : Int) (ps : List Pr) : isPs (passD form ps) ps := by
  unfold passD
  split
  · exact isPs_L ps
  split
  · exact isPs_lT ps
  split
  · exact isPs_tL ps
  split
  · exact isPs_T ps
  · exact ⟨_, rfl, mixD_prs ps 0⟩
theorem isPs_plain {d : Da} {ps : List Pr} (h : isPs d ps) : d.plain 60 = true := by
  obtain ⟨es, he, hp⟩ := h
  have key : ∀ {es : List Da} {ps : List Pr}, Paired isPr es ps → Da.plainA 59 es = true := by
    intro es ps h
    induction h with
    | nil => rfl
    | @cons e p es ps h _ ih =>
      show (Da.plain 59 _ && Da.plainA 59 _) = true
      rw [ih, Bool.and_true]
      revert h
      unfold isPr
      intro h
      cases e with
      | lst xs => cases h; rfl
      | tup xs => cases h; rfl
      | sls xs => cases h; rfl
      | stp xs => cases h; rfl
      | _ => cases h
  cases d with
  | lst xs => cases he; exact key hp
  | tup xs => cases he; exact key hp
  | sls xs => cases he; exact key hp
  | stp xs => cases he; exact key hp
  | _ => cases he
/-! drawn pairs -/
def rawSizes : List Int := [12, 41, 41, 8, 24, 4] ++ (List.replicate 40 [41, 12, 100000, 100000]).flatten
theorem raw_at : ∀ k < 40, rawSizes[6 + 4 * k]? = some 41 ∧ rawSizes[7 + 4 * k]? = some 12 ∧ rawSizes[8 + 4 * k]? = some 100000 ∧ rawSizes[9 + 4 * k]? = some 100000 := by decide +kernel
/-- pairs in the laws' bounds -/
def Gp (ps : List Pr) : Prop := ps.length ≤ 40 ∧ ∀ p ∈ ps, -20 ≤ p.1 ∧ p.1 ≤ 20 ∧ p.2.natAbs ≤ 1000000000
theorem Gp.wt {ps : List Pr} (h : Gp ps) : wt ps ≤ 40000000000 := Nat.le_trans (wt_le fun p hp => (h.2 p hp).2.2) (Nat.mul_le_mul_right _ h.1)
theorem Gp.cf {ps : List Pr} (h : Gp ps) (s : Int) : (cf ps s).natAbs < 2 ^ 36 := Nat.lt_of_le_of_lt (Nat.le_trans (cf_wt ps s) h.wt) (by decide)
/-! == of dicts -/
theorem kvr_dk {K : PySem.W.Frag} {G : Hp} : ∀ {R : List Pr} {us : List (Key × V)}, KvR K G (dkD R) us → us = dk R
  | [], us, h => List.map_eq_nil_iff.mp h.1
  | p :: R, us, h => by
    obtain ⟨u, us', rfl, e, r, t⟩ := KvR.cons_inv (x := (Sum.inl p.1, Da.int p.2)) (kvs := dkD R) h
    rw [kvr_dk t]
    obtain ⟨a, b⟩ := u
    cases r
    cases e
    rfl
theorem op2_eqDk {K : PySem.W.Frag} {B : Bs} {P : Pd} {k l : Kd} {R : List Pr} (hL : B.L = []) (aR : Asc R) (q : P .fz (.bl true)) : Op2 K B rEqDA (k, dkp (dkD R)) (l, dkp (dkD R)) P := fun O S H v u Q j0 j1 hS r1 r2 hq => by
  have g : ∀ {k : Kd} {v : V}, RepV K B O S H k (dkp (dkD R)) v → ∃ a, v = .ref a ∧ H a = some (.dK (dk R)) := fun h => by
    have h2 := h.seen j0 j1
    rw [vw_nil hL] at h2
    cases h2 with
    | dk e e1 e2 =>
      have := kvr_dk (K := K) ⟨e1, e2⟩
      subst this
      exact ⟨_, rfl, e⟩
  obtain ⟨a, rfl, ha⟩ := g r1
  obtain ⟨b, rfl, hb⟩ := g r2
  refine ⟨a, b, _, _, rfl, rfl, ha, hb, rfl, fun p hp => ?_, hq .fz _ _ H (Same.refl _) (.bl _) q⟩
  obtain ⟨t, ht, rfl⟩ := List.mem_map.mp hp
  exact ⟨valV_dk aR ht, rfl⟩
end JP
set_option Elab.async false
set_option linter.all false
set_option maxRecDepth 100000
set_option maxHeartbeats 4000000
namespace JP
open PySem PySem.Spec PyProof.Rows L2
/-! ### spots (row, shift), terms, sums -/
abbrev Spot := Str × Int
abbrev Tm := Spot × Int
def slt (a b : Str) : Prop := a.cps.toList < b.cps.toList
instance (a b : Str) : Decidable (slt a b) := inferInstanceAs (Decidable (a.cps.toList < b.cps.toList))
theorem str_ext {a b : Str} (h : a.cps.toList = b.cps.toList) : a = b := by
  cases a; cases b
  congr 1
  exact Array.toList_inj.mp h
theorem slt_irr (a : Str) : ¬ slt a a := List.lt_irrefl _
theorem slt_tr {a b c : Str} (h : slt a b) (g : slt b c) : slt a c := List.lt_trans h g
theorem slt_as {a b : Str} (h : slt a b) : ¬ slt b a := List.lt_asymm h
theorem slt_tri (a b : Str) : slt a b ∨ a = b ∨ slt b a := by
  by_cases h : slt a b
  · exact .inl h
  · by_cases g : slt b a
    · exact .inr (.inr g)
    · exact .inr (.inl (str_ext (List.le_antisymm (List.not_lt.mp g) (List.not_lt.mp h))))
def spLt (p q : Spot) : Prop := slt p.1 q.1 ∨ (p.1 = q.1 ∧ p.2 < q.2)
instance (p q : Spot) : Decidable (spLt p q) := inferInstanceAs (Decidable (_ ∨ _))
theorem spLt_irr (p : Spot) : ¬ spLt p p := fun h => h.elim (slt_irr _) fun h => by omega
theorem spLt_tr {p q r : Spot} (h : spLt p q) (g : spLt q r) : spLt p r := by
  rcases h with h | ⟨h1, h2⟩
  · rcases g with g | ⟨g1, g2⟩
    · exact .inl (slt_tr h g)
    · exact .inl (g1 ▸ h)
  · rcases g with g | ⟨g1, g2⟩
    · exact .inl (h1 ▸ g)
    · exact .inr ⟨h1.trans g1, by omega⟩
theorem spLt_as {p q : Spot} (h : spLt p q) : ¬ spLt q p := fun g => spLt_irr _ (spLt_tr h g)
theorem spLt_tri (p q : Spot) : spLt p q ∨ p = q ∨ spLt q p := by
  rcases slt_tri p.1 q.1 with h | h | h
  · exact .inl (.inl h)
  · by_cases a : p.2 < q.2
    · exact .inl (.inr ⟨h, a⟩)
    · by_cases b : q.2 < p.2
      · exact .inr (.inr (.inr ⟨h.symm, b⟩))
      · exact .inr (.inl (Prod.ext h (by omega)))
  · exact .inr (.inr (.inl h))
theorem spLt_ne {p q : Spot} (h : spLt p q) : p ≠ q := fun e => spLt_irr _ (e ▸ h)
/-- not after -/
def spLe (p q : Spot) : Prop := ¬ spLt q p
instance (p q : Spot) : Decidable (spLe p q) := inferInstanceAs (Decidable (¬ _))
theorem spLe_tr {p q r : Spot} (h : spLe p q) (g : spLe q r) : spLe p r := fun z => by
  rcases spLt_tri q r with a | a | a
  · exact h (spLt_tr a z)
  · subst a; exact h z
  · exact g a
theorem spLe_as {p q : Spot} (h : spLe p q) (g : spLe q p) : p = q := by
  rcases spLt_tri p q with a | a | a
  · exact absurd a g
  · exact a
  · exact absurd a h
theorem spLe_tot (p q : Spot) : spLe p q ∨ spLe q p := by
  by_cases h : spLt q p
  · exact .inr (spLt_as h)
  · exact .inl h
/-! sorting -/
def srtS (ns : List Spot) : List Spot := ns.mergeSort fun a b => decide (spLe a b)
theorem srtS_perm (ns : List Spot) : (srtS ns).Perm ns := List.mergeSort_perm ns _
theorem srtS_sorted (ns : List Spot) : (srtS ns).Pairwise spLe :=
  (List.pairwise_mergeSort (le := fun a b : Spot => decide (spLe a b)) (fun a b c h1 h2 => by simp only [decide_eq_true_eq] at *; exact spLe_tr h1 h2) (fun a b => by simp only [Bool.or_eq_true, decide_eq_true_eq]; exact spLe_tot a b) ns).imp fun h => by simpa using h
theorem sortedS_uniq : ∀ {l m : List Spot}, l.Perm m → l.Pairwise spLe → m.Pairwise spLe → l = m
  | [], m, h, _, _ => by rw [List.Perm.nil_eq h]
  | a :: l, [], h, _, _ => by have := h.length_eq; simp at this
  | a :: l, b :: m, h, h1, h2 => by
    obtain ⟨a1, a2⟩ := List.pairwise_cons.mp h1
    obtain ⟨b1, b2⟩ := List.pairwise_cons.mp h2
    have e : a = b := by
      have hb : b ∈ a :: l := h.mem_iff.mpr List.mem_cons_self
      have ha : a ∈ b :: m := h.mem_iff.mp List.mem_cons_self
      rcases List.mem_cons.mp hb with z | z
      · exact z.symm
      · rcases List.mem_cons.mp ha with y | y
        · exact y
        · exact spLe_as (a1 b z) (b1 a y)
    subst e
    rw [sortedS_uniq (List.Perm.cons_inv h) a2 b2]
theorem srtS_uniq {l ns : List Spot} (h : l.Perm ns) (s : l.Pairwise spLe) : l = srtS ns := sortedS_uniq (h.trans (srtS_perm ns).symm) s (srtS_sorted ns)
theorem srtS_len (ns : List Spot) : (srtS ns).length = ns.length := (srtS_perm ns).length_eq
theorem srtS_mem {ns : List Spot} {x : Spot} : x ∈ srtS ns ↔ x ∈ ns := (srtS_perm ns).mem_iff
theorem srtS_lt {ns : List Spot} (h : ns.Nodup) : (srtS ns).Pairwise spLt := by
  have nd : (srtS ns).Nodup := (srtS_perm ns).nodup_iff.mpr h
  refine ((srtS_sorted ns).and (show (srtS ns).Pairwise (· ≠ ·) from nd)).imp fun {a b} ⟨h1, h2⟩ => ?_
  rcases spLt_tri a b with h | h | h
  · exact h
  · exact absurd h h2
  · exact absurd h h1
theorem srtS_id {ns : List Spot} (h : ns.Pairwise spLt) : srtS ns = ns := (srtS_uniq (List.Perm.refl _) (h.imp fun h => spLt_as h)).symm
/-! coefficients -/
def cfS : List Tm → Spot → Int
  | [], _ => 0
  | t :: r, k => (if t.1 = k then t.2 else 0) + cfS r k
theorem cfS_app (a b : List Tm) (k : Spot) : cfS (a ++ b) k = cfS a k + cfS b k := by
  induction a with
  | nil => show _ = 0 + _; rw [Int.zero_add]; rfl
  | cons t r ih => show _ + cfS (r ++ b) k = _ + cfS r k + _; rw [ih, Int.add_assoc]
theorem cfS_one (k : Spot) (c : Int) (u : Spot) : cfS [(k, c)] u = if k = u then c else 0 := by show _ + 0 = _; rw [Int.add_zero]
theorem cfS_succ {ts : List Tm} {i : Nat} {t : Tm} (e : ts[i]? = some t) (k : Spot) : cfS (ts.take (i + 1)) k = cfS (ts.take i) k + if t.1 = k then t.2 else 0 := by
  rw [List.take_add_one, e, cfS_app]
  show _ + cfS [t] k = _
  rw [show t = (t.1, t.2) from rfl, cfS_one]
def AscS (R : List Tm) : Prop := R.Pairwise fun a b => spLt a.1 b.1
structure IsS (f : Spot → Int) (R : List Tm) : Prop where
  asc : AscS R
  nz : ∀ t ∈ R, t.2 ≠ 0
  cfs : ∀ k, cfS R k = f k
theorem cfS_out {R : List Tm} {k : Spot} (h : ∀ t ∈ R, t.1 ≠ k) : cfS R k = 0 := by
  induction R with
  | nil => rfl
  | cons t r ih =>
    show (if t.1 = k then t.2 else 0) + _ = 0
    rw [if_neg (h t List.mem_cons_self), ih fun u hu => h u (List.mem_cons_of_mem _ hu)]
    rfl
theorem cfS_in {R : List Tm} (a : AscS R) {t : Tm} (h : t ∈ R) : cfS R t.1 = t.2 := by
  induction R with
  | nil => cases h
  | cons u r ih =>
    obtain ⟨a1, a2⟩ := List.pairwise_cons.mp a
    show (if u.1 = t.1 then u.2 else 0) + _ = _
    rcases List.mem_cons.mp h with rfl | h
    · rw [if_pos rfl, cfS_out fun v hv => fun z => spLt_ne (a1 v hv) z.symm, Int.add_zero]
    · rw [if_neg (spLt_ne (a1 t h)), ih a2 h, Int.zero_add]
theorem IsS.mem {f : Spot → Int} {R : List Tm} (i : IsS f R) (t : Tm) : t ∈ R ↔ t.2 = f t.1 ∧ t.2 ≠ 0 := by
  constructor
  · exact fun h => ⟨by rw [← i.cfs, cfS_in i.asc h], i.nz t h⟩
  · rintro ⟨h1, h2⟩
    refine Decidable.byContradiction fun hn => h2 ?_
    rw [h1, ← i.cfs]
    by_cases g : ∃ u ∈ R, u.1 = t.1
    · obtain ⟨u, hu, e⟩ := g
      have := cfS_in i.asc hu
      rw [e, i.cfs, ← h1] at this
      exact absurd (show t ∈ R by rw [show t = u from Prod.ext e.symm this]; exact hu) hn
    · exact cfS_out fun u hu e => g ⟨u, hu, e⟩
theorem ascS_ext : ∀ {R S : List Tm}, AscS R → AscS S → (∀ t, t ∈ R ↔ t ∈ S) → R = S
  | [], [], _, _, _ => rfl
  | [], t :: _, _, _, h => by have := (h t).mpr List.mem_cons_self; cases this
  | t :: _, [], _, _, h => by have := (h t).mp List.mem_cons_self; cases this
  | t :: r, u :: s, a, b, h => by
    obtain ⟨a1, a2⟩ := List.pairwise_cons.mp a
    obtain ⟨b1, b2⟩ := List.pairwise_cons.mp b
    have e : t = u := by
      rcases List.mem_cons.mp ((h t).mp List.mem_cons_self) with z | z
      · exact z
      · rcases List.mem_cons.mp ((h u).mpr List.mem_cons_self) with y | y
        · exact y.symm
        · exact absurd (a1 u y) (spLt_as (b1 t z))
    subst e
    rw [ascS_ext a2 b2 fun x => ?_]
    constructor
    · intro hx
      rcases List.mem_cons.mp ((h x).mp (List.mem_cons_of_mem _ hx)) with rfl | z
      · exact absurd (a1 _ hx) (spLt_irr _)
      · exact z
    · intro hx
      rcases List.mem_cons.mp ((h x).mpr (List.mem_cons_of_mem _ hx)) with rfl | z
      · exact absurd (b1 _ hx) (spLt_irr _)
      · exact z
theorem IsS.uniq {f : Spot → Int} {R S : List Tm} (a : IsS f R) (b : IsS f S) : R = S := ascS_ext a.asc b.asc fun t => by rw [a.mem, b.mem]
theorem IsS.uniq' {f g : Spot → Int} {R S : List Tm} (a : IsS f R) (b : IsS g S) (e : ∀ s, f s = g s) : R = S := a.uniq (by have : f = g := funext e; rw [this]; exact b)
theorem IsS.self {f : Spot → Int} {R : List Tm} (a : IsS f R) : IsS (cfS R) R := ⟨a.asc, a.nz, fun _ => rfl⟩
/-! tallies -/
def upS (f : Spot → Int) (s : Spot) (v : Int) : Spot → Int := fun t => if t = s then v else f t
def addS (ks : List Spot) (s : Spot) : List Spot := if s ∈ ks then ks else ks ++ [s]
structure TalS (ks : List Spot) (f : Spot → Int) : Prop where
  nd : ks.Nodup
  out : ∀ s, s ∉ ks → f s = 0
theorem TalS.nil : TalS [] (cfS []) := ⟨List.nodup_nil, fun _ _ => rfl⟩
theorem TalS.put {ks : List Spot} {f g : Spot → Int} (t : TalS ks f) (s : Spot) (c : Int) (hg : ∀ u, g u = f u + if s = u then c else 0) : TalS (addS ks s) g ∧ ∀ u ∈ addS ks s, g u = upS f s (f s + c) u := by
  refine ⟨⟨?_, fun u hu => ?_⟩, fun u _ => ?_⟩
  · unfold addS
    split
    · exact t.nd
    · rename_i h
      refine List.nodup_append.mpr ⟨t.nd, by simp, fun a ha b hb => ?_⟩
      rw [List.mem_singleton.mp hb]
      exact fun z => h (z ▸ ha)
  · have h1 : u ∉ ks ∧ u ≠ s := by
      unfold addS at hu
      split at hu
      · rename_i h
        exact ⟨hu, fun z => hu (z ▸ h)⟩
      · rw [List.mem_append] at hu
        exact ⟨fun z => hu (.inl z), fun z => hu (.inr (z ▸ List.mem_singleton.mpr rfl))⟩
    rw [hg, t.out u h1.1, if_neg (fun z => h1.2 z.symm)]
    rfl
  · rw [hg]
    unfold upS
    by_cases e : u = s
    · rw [if_pos e, if_pos e.symm, e]
    · rw [if_neg e, if_neg fun z => e z.symm]
      omega
theorem length_addS (ks : List Spot) (s : Spot) : (addS ks s).length ≤ ks.length + 1 := by
  unfold addS
  split
  · omega
  · rw [List.length_append]; exact Nat.le_refl _
def pickS (ns : List Spot) (f : Spot → Int) : List Tm := (ns.filter fun s => decide (f s ≠ 0)).map fun s => (s, f s)
theorem pickS_nil (f : Spot → Int) : pickS [] f = [] := rfl
theorem pickS_snoc (ns : List Spot) (f : Spot → Int) (s : Spot) : pickS (ns ++ [s]) f = if f s ≠ 0 then pickS ns f ++ [(s, f s)] else pickS ns f := by
  unfold pickS
  rw [List.filter_append]
  by_cases h : f s ≠ 0
  · rw [if_pos h, List.filter_cons_of_pos (by simpa using h), List.map_append]; rfl
  · rw [if_neg h, List.filter_cons_of_neg (by simpa using h), List.filter_nil, List.append_nil]
theorem pickS_isS {ks ns : List Spot} {f : Spot → Int} (t : TalS ks f) (hp : ns.Perm ks) (lt : ns.Pairwise spLt) : IsS f (pickS ns f) := by
  have asc : AscS (pickS ns f) := by
    unfold AscS pickS
    rw [List.pairwise_map]
    exact (lt.filter _)
  refine ⟨asc, fun p hp => ?_, fun s => ?_⟩
  · obtain ⟨s, hs, rfl⟩ := List.mem_map.mp hp
    exact of_decide_eq_true (List.mem_filter.mp hs).2
  · by_cases h : s ∈ ns ∧ f s ≠ 0
    · exact cfS_in asc (t := (s, f s)) (List.mem_map.mpr ⟨s, List.mem_filter.mpr ⟨h.1, decide_eq_true h.2⟩, rfl⟩)
    · have z : f s = 0 := by
        by_cases m : s ∈ ns
        · exact Decidable.byContradiction fun z => h ⟨m, z⟩
        · exact t.out s fun q => m (hp.mem_iff.mpr q)
      rw [z]
      refine cfS_out fun p hp e => ?_
      obtain ⟨u, hu, rfl⟩ := List.mem_map.mp hp
      have := of_decide_eq_true (List.mem_filter.mp hu).2
      rw [show u = s from e] at this
      exact this z
theorem pickS_lt {ns : List Spot} {f : Spot → Int} {s : Spot} (h : ∀ u ∈ ns, spLt u s) : ∀ q ∈ pickS ns f, spLt q.1 s := fun q hq => by
  obtain ⟨u, hu, rfl⟩ := List.mem_map.mp hq
  exact h u (List.mem_filter.mp hu).1
theorem pickS_len (ns : List Spot) (f : Spot → Int) : (pickS ns f).length ≤ ns.length := by
  unfold pickS
  rw [List.length_map]
  exact List.length_filter_le ..
def keysS (ts : List Tm) : List Spot := ts.foldl (fun ks t => addS ks t.1) []
theorem keysS_succ {ts : List Tm} {i : Nat} {t : Tm} (e : ts[i]? = some t) : keysS (ts.take (i + 1)) = addS (keysS (ts.take i)) t.1 := by unfold keysS; rw [List.take_add_one, e, List.foldl_append]; rfl
theorem keysS_snoc (ts : List Tm) (t : Tm) : keysS (ts ++ [t]) = addS (keysS ts) t.1 := by unfold keysS; rw [List.foldl_append]; rfl
theorem talS_take (ts : List Tm) (i : Nat) : TalS (keysS (ts.take i)) (cfS (ts.take i)) := by
  induction i with
  | zero => exact TalS.nil
  | succ i ih =>
    cases e : ts[i]? with
    | none => rw [List.take_of_length_le (by have := List.getElem?_eq_none_iff.mp e; omega)]; rw [List.take_of_length_le (by have := List.getElem?_eq_none_iff.mp e; omega)] at ih; exact ih
    | some t =>
      rw [keysS_succ e]
      exact (ih.put t.1 t.2 (cfS_succ e)).1
theorem talS_all (ts : List Tm) : TalS (keysS ts) (cfS ts) := by
  have := talS_take ts ts.length
  rwa [List.take_length] at this
theorem keysS_len (ts : List Tm) : (keysS ts).length ≤ ts.length := by
  have key : ∀ (ts : List Tm) (ks : List Spot), (ts.foldl (fun ks p => addS ks p.1) ks).length ≤ ks.length + ts.length := by
    intro ps
    induction ps with
    | nil => intro ks; exact Nat.le_refl _
    | cons p r ih => intro ks; have := ih (addS ks p.1); have := length_addS ks p.1; simp only [List.foldl_cons, List.length_cons]; omega
  have := key ts []
  unfold keysS
  simpa using this
/-- the sum of terms, in its form -/
def canS (ts : List Tm) : List Tm := pickS (srtS (keysS ts)) (cfS ts)
theorem canS_isS (ts : List Tm) : IsS (cfS ts) (canS ts) := pickS_isS (talS_all ts) (srtS_perm _) (srtS_lt (talS_all ts).nd)
theorem canS_len (ts : List Tm) : (canS ts).length ≤ ts.length := Nat.le_trans (pickS_len _ _) (by rw [srtS_len]; exact keysS_len ts)
theorem canS_congr {ts us : List Tm} (h : ∀ s, cfS ts s = cfS us s) : canS ts = canS us := (canS_isS ts).uniq' (canS_isS us) h
theorem canS_of {ts R : List Tm} (h : IsS (cfS ts) R) : canS ts = R := (canS_isS ts).uniq h
theorem canS_canS (ts : List Tm) : canS (canS ts) = canS ts := canS_of (canS_isS ts).self
theorem cfS_canS (ts : List Tm) (k : Spot) : cfS (canS ts) k = cfS ts k := (canS_isS ts).cfs k
theorem AscS.pair {R : List Tm} (a : AscS R) {i j : Nat} (h : i < j) {x y : Tm} (hx : R[i]? = some x) (hy : R[j]? = some y) : spLt x.1 y.1 := by
  obtain ⟨h1, e1⟩ := List.getElem?_eq_some_iff.mp hx
  obtain ⟨h2, e2⟩ := List.getElem?_eq_some_iff.mp hy
  have := List.pairwise_iff_getElem.mp a i j h1 h2 h
  rw [e1, e2] at this
  exact this
theorem AscS.keys {R : List Tm} (a : AscS R) : (R.map (·.1)).Pairwise spLt := List.pairwise_map.mpr a
/-! a polynomial applied to a sum -/
def rowS (a : Pr) (ts : List Tm) : List Tm := ts.map fun t => ((t.1.1, t.1.2 + a.1), a.2 * t.2)
def prdS (p : List Pr) (ts : List Tm) : List Tm := p.flatMap fun a => rowS a ts
def movS (b : Int) (ts : List Tm) : List Tm := ts.map fun t => ((t.1.1, t.1.2 + b), t.2)
theorem rowS_len (a : Pr) (ts : List Tm) : (rowS a ts).length = ts.length := List.length_map ..
theorem prdS_take_succ {ps : List Pr} {i : Nat} {p : Pr} (ts : List Tm) (h : ps[i]? = some p) : prdS (ps.take (i + 1)) ts = prdS (ps.take i) ts ++ rowS p ts := by
  unfold prdS
  rw [List.take_add_one, h, List.flatMap_append]
  show _ ++ (rowS p ts ++ []) = _
  rw [List.append_nil]
theorem prdS_len (p : List Pr) (ts : List Tm) : (prdS p ts).length = p.length * ts.length := by
  induction p with
  | nil => show 0 = 0 * _; rw [Nat.zero_mul]
  | cons a r ih => show (rowS a ts ++ prdS r ts).length = (r.length + 1) * _; rw [List.length_append, rowS_len, ih, Nat.add_mul, Nat.one_mul, Nat.add_comm]
theorem cfS_rowS (a : Pr) (ts : List Tm) (k : Spot) : cfS (rowS a ts) k = a.2 * cfS ts (k.1, k.2 - a.1) := by
  induction ts with
  | nil => show (0 : Int) = _ * 0; rw [Int.mul_zero]
  | cons t r ih =>
    show (if ((t.1.1, t.1.2 + a.1) : Spot) = k then a.2 * t.2 else 0) + cfS (rowS a r) k = a.2 * ((if t.1 = (k.1, k.2 - a.1) then t.2 else 0) + cfS r _)
    rw [ih, Int.mul_add]
    congr 1
    by_cases e : t.1 = (k.1, k.2 - a.1)
    · rw [if_pos e, if_pos]
      rw [e]
      exact Prod.ext rfl (by show k.2 - a.1 + a.1 = k.2; omega)
    · rw [if_neg e, if_neg, Int.mul_zero]
      intro z
      refine e ?_
      rw [← z]
      exact Prod.ext rfl (by show t.1.2 = t.1.2 + a.1 - a.1; omega)
theorem cfS_movS (b : Int) (ts : List Tm) (k : Spot) : cfS (movS b ts) k = cfS ts (k.1, k.2 - b) := by
  have e : movS b ts = rowS (b, 1) ts := List.map_congr_left fun t _ => by show _ = ((t.1.1, t.1.2 + b), 1 * t.2); rw [Int.one_mul]
  rw [e, cfS_rowS, Int.one_mul]
theorem cfS_prdS_cons (a : Pr) (p : List Pr) (ts : List Tm) (k : Spot) : cfS (prdS (a :: p) ts) k = a.2 * cfS ts (k.1, k.2 - a.1) + cfS (prdS p ts) k := by
  show cfS (rowS a ts ++ prdS p ts) k = _
  rw [cfS_app, cfS_rowS]
theorem cfS_prdS_nil (p : List Pr) (k : Spot) : cfS (prdS p []) k = 0 := by
  induction p with
  | nil => rfl
  | cons a r ih => rw [cfS_prdS_cons, ih]; show _ * 0 + 0 = (0 : Int); rw [Int.mul_zero]; rfl
theorem cfS_prdS_cons' (p : List Pr) (t : Tm) (ts : List Tm) (k : Spot) : cfS (prdS p (t :: ts)) k = (if t.1.1 = k.1 then t.2 * cf p (k.2 - t.1.2) else 0) + cfS (prdS p ts) k := by
  induction p with
  | nil => show (0 : Int) = (if _ then _ * 0 else 0) + 0; rw [Int.mul_zero]; split <;> rfl
  | cons a r ih =>
    rw [cfS_prdS_cons, cfS_prdS_cons, ih]
    show a.2 * ((if t.1 = (k.1, k.2 - a.1) then t.2 else 0) + cfS ts _) + _ = (if _ then t.2 * ((if a.1 = k.2 - t.1.2 then a.2 else 0) + cf r _) else 0) + _
    by_cases e : t.1.1 = k.1
    · rw [if_pos e, if_pos e, Int.mul_add, Int.mul_add]
      by_cases g : a.1 = k.2 - t.1.2
      · rw [if_pos g, if_pos (show t.1 = (k.1, k.2 - a.1) from Prod.ext e (by show t.1.2 = k.2 - a.1; omega)), Int.mul_comm a.2 t.2]
        omega
      · rw [if_neg g, if_neg (show ¬ t.1 = (k.1, k.2 - a.1) from fun z => g (by have := congrArg Prod.snd z; have : t.1.2 = k.2 - a.1 := this; omega)), Int.mul_zero, Int.mul_zero]
        omega
    · rw [if_neg e, if_neg e, if_neg (show ¬ t.1 = (k.1, k.2 - a.1) from fun z => e (by rw [z]))]
      rw [Int.mul_add, Int.mul_zero]
      omega
theorem prdS_congr {p q : List Pr} {ts us : List Tm} (h : ∀ s, cf p s = cf q s) (g : ∀ k, cfS ts k = cfS us k) (k : Spot) : cfS (prdS p ts) k = cfS (prdS q us) k := by
  have h1 : cfS (prdS p ts) k = cfS (prdS p us) k := by
    induction p generalizing q with
    | nil => rfl
    | cons a r ih => rw [cfS_prdS_cons, cfS_prdS_cons, g, ih (q := r) fun _ => rfl]
  rw [h1]
  clear h1 g
  induction us with
  | nil => rw [cfS_prdS_nil, cfS_prdS_nil]
  | cons t r ih => rw [cfS_prdS_cons', cfS_prdS_cons', h, ih]
theorem canS_prdS (p : List Pr) (ts : List Tm) : canS (prdS (can p) (canS ts)) = canS (prdS p ts) := canS_congr fun k => prdS_congr (fun s => (can_isP p).cfs s) (fun k => cfS_canS ts k) k
theorem canS_movS (b : Int) (ts : List Tm) : canS (movS b (canS ts)) = canS (movS b ts) := canS_congr fun k => by rw [cfS_movS, cfS_movS, cfS_canS]
theorem canS_app (ts us : List Tm) : canS (canS ts ++ canS us) = canS (ts ++ us) := canS_congr fun k => by rw [cfS_app, cfS_app, cfS_canS, cfS_canS]
theorem canS_appL (ts us : List Tm) : canS (canS ts ++ us) = canS (ts ++ us) := canS_congr fun k => by rw [cfS_app, cfS_app, cfS_canS]
theorem canS_mov_mov (b : Int) (ts : List Tm) : canS (movS (-b) (canS (movS b ts))) = canS ts := canS_congr fun k => by
  rw [cfS_movS, cfS_canS, cfS_movS]
  congr 1
  exact Prod.ext rfl (by show k.2 - -b - b = k.2; omega)
/-! weights -/
def wtS (ts : List Tm) : Nat := (ts.map fun t => t.2.natAbs).sum
theorem wtS_app (a b : List Tm) : wtS (a ++ b) = wtS a + wtS b := by unfold wtS; rw [List.map_append, List.sum_append]
theorem wtS_cons (t : Tm) (r : List Tm) : wtS (t :: r) = t.2.natAbs + wtS r := by unfold wtS; rw [List.map_cons, List.sum_cons]
theorem cfS_wt (ts : List Tm) (k : Spot) : (cfS ts k).natAbs ≤ wtS ts := by
  induction ts with
  | nil => exact Nat.le_refl _
  | cons t r ih =>
    rw [wtS_cons]
    show ((if t.1 = k then t.2 else 0) + cfS r k).natAbs ≤ _
    have := Int.natAbs_add_le (if t.1 = k then t.2 else 0) (cfS r k)
    split at this <;> rename_i h
    · rw [if_pos h]; omega
    · rw [if_neg h]; simp at this; simp; omega
theorem wtS_le {n : Nat} {ts : List Tm} (h : ∀ t ∈ ts, t.2.natAbs ≤ n) : wtS ts ≤ ts.length * n := by
  induction ts with
  | nil => exact Nat.zero_le _
  | cons t r ih =>
    rw [wtS_cons, List.length_cons, Nat.add_mul, Nat.one_mul]
    have := h t List.mem_cons_self
    have := ih fun u hu => h u (List.mem_cons_of_mem _ hu)
    omega
theorem IsS.at_le {ts R : List Tm} (i : IsS (cfS ts) R) : ∀ t ∈ R, t.2.natAbs ≤ wtS ts := fun t ht => by rw [((i.mem t).mp ht).1]; exact cfS_wt ts _
end JP
set_option Elab.async false
set_option linter.all false
set_option maxRecDepth 100000
set_option maxHeartbeats 4000000
namespace JP
open PySem PySem.Spec PyProof.Rows L2
/-! ### sorting of tuples (text, int) -/
def IsSp (h : Heap) (v : Value) (p : Spot) : Prop := ∃ a o t u n, v = .ref a ∧ h.get? a = some o ∧ o.cls = .type "tuple" ∧ o.data = .seq #[.str p.1 t, .int p.2 u] n
theorem IsSp.keeps {h h' : Heap} {v : Value} {p : Spot} (x : IsSp h v p) (k : ∀ b o, h.get? b = some o → o.cls = .type "tuple" → h'.get? b = some o) : IsSp h' v p := by
  obtain ⟨a, o, t, u, n, e, ho, hc, hd⟩ := x
  exact ⟨a, o, t, u, n, e, k _ _ ho hc, hc, hd⟩
theorem IsSp.uniq {h : Heap} {v : Value} {p q : Spot} (x : IsSp h v p) (y : IsSp h v q) : p = q := by
  obtain ⟨a, o, t, u, n, e, ho, hc, hd⟩ := x
  obtain ⟨a', o', t', u', n', e', ho', hc', hd'⟩ := y
  rw [e] at e'
  cases e'
  rw [ho] at ho'
  cases ho'
  rw [hd] at hd'
  injection hd' with h1
  have h2 := congrArg Array.toList h1
  injection h2 with h3 h4
  injection h4 with h5
  injection h3 with h6
  injection h5 with h7
  exact Prod.ext h6 h7
theorem firsts_sp {h : Heap} : ∀ {vs : List Value}, (∀ v ∈ vs, ∃ p, IsSp h v p) → ∃ fs : List Value, PySem.W.KatTups h vs fs ∧ fs.length = vs.length ∧ ∀ f ∈ fs, ∃ x t, f = Value.str x t
  | [], _ => ⟨[], PySem.W.KatTups.nil, rfl, fun _ hm => by simp at hm⟩
  | v :: vs, hp => by
    obtain ⟨fs, h1, h2, h3⟩ := firsts_sp (vs := vs) fun v' hm => hp v' (List.mem_cons_of_mem _ hm)
    obtain ⟨p, a, o, t, u, n, e, ho, hc, hd⟩ := hp v List.mem_cons_self
    subst e
    refine ⟨.str p.1 t :: fs, PySem.W.KatTups.cons ho hc hd rfl h1, by rw [List.length_cons, List.length_cons, h2], fun f hm => ?_⟩
    rcases List.mem_cons.mp hm with rfl | hm
    · exact ⟨p.1, t, rfl⟩
    · exact h3 f hm
theorem swo_sp (k : Value → Spot) : SrtO.Swo fun v u => decide (spLt (k v) (k u)) := by
  refine ⟨fun x y h => ?_, fun x y z h1 h2 => ?_⟩
  · exact decide_eq_false (spLt_as (of_decide_eq_true h))
  · have a := of_decide_eq_false h1
    have b := of_decide_eq_false h2
    exact decide_eq_false (spLe_tr (p := k x) (q := k y) (r := k z) a b)
section
variable {prog : Program} {w : World} {A : Around} {E : Value → Shared → Prop} {s : Shared}
theorem sp_cmp {vs : List Value} {k : Value → Spot} (hp : ∀ v ∈ vs, IsSp s.heap v (k v)) : SrtO.Cmp prog w A s (tuples' true) (fun p => p.1 ∈ vs) (SrtO.lt2 fun v u => decide (spLt (k v) (k u))) := by
  intro p q hm hm'
  have h1 := hp _ hm
  have h2 := hp _ hm'
  show wpAny (model prog w) A (keyLt' (tuples' true) p.1 q.1) (fun r s' => s' = s ∧ r = decide (spLt (k p.1) (k q.1))) (fun _ _ => False) s
  generalize k p.1 = x at h1 ⊢
  generalize k q.1 = y at h2 ⊢
  obtain ⟨a, o, t, u, n, e, ho, hc, hd⟩ := h1
  obtain ⟨a', o', t', u', n', e', ho', hc', hd'⟩ := h2
  rw [e, e']
  refine PySem.W.kat_lt ho hd ho' hd' ?_
  show PySem.W.KatLex prog w A true (decide (2 < 2)) _ [(.str x.1 t, .str y.1 t'), (.int x.2 u, .int y.2 u')] 0 s
  refine PySem.W.kat_cons (SeqAt.EqAt.str_str x.1 t y.1 t' prog w _ _ ?_)
  refine PySem.W.kat_go (fun e1 => ?_) (fun e1 => ?_)
  · have ex : x.1 = y.1 := by simpa using e1
    refine PySem.W.kat_yes (PySem.W.kat_cons (SeqAt.EqAt.int_int x.2 u y.2 u' prog w _ _ ?_))
    refine PySem.W.kat_go (fun e2 => ?_) (fun e2 => ?_)
    · have ey : x.2 = y.2 := by simpa using e2
      have exy : x = y := Prod.ext ex ey
      exact PySem.W.kat_yes (PySem.W.kat_nil ⟨rfl, (decide_eq_false (exy ▸ spLt_irr x)).symm⟩)
    · refine PySem.W.kat_no (PySem.W.kat_one _ _ (PyProof.Rows.lt_int ?_))
      refine (show s = s ∧ decide (x.2 < y.2) = decide (spLt x y) from ⟨rfl, ?_⟩)
      refine decide_eq_decide.mpr ⟨fun z => .inr ⟨ex, z⟩, fun z => ?_⟩
      rcases z with z | z
      · exact absurd (ex ▸ z) (slt_irr _)
      · exact z.2
  · have ex : ¬ x.1 = y.1 := by simpa using e1
    refine PySem.W.kat_no ?_
    show wpAny _ _ (keyLt' oneType' _ _) _ _ _
    refine PySem.W.kas_lt_str ⟨rfl, ?_⟩
    refine decide_eq_decide.mpr ⟨fun z => .inl z, fun z => ?_⟩
    rcases z with z | z
    · exact z
    · exact absurd z.1 ex
theorem sp_sortableO {a : Addr} {vs : List Value} {k : Value → Spot} (h0 : 0 < vs.length) (hp : ∀ v ∈ vs, IsSp s.heap v (k v)) (ha : ∀ o, s.heap.get? a = some o → o.cls ≠ .type "tuple") : SrtO.SortableO prog w A s a vs fun v u => decide (spLt (k v) (k u)) := by
  intro h' keep
  have hp' : ∀ v ∈ vs, IsSp h' v (k v) := fun v hm => (hp v hm).keeps fun b o e c => keep b o (fun z => by subst z; exact ha o e c) e
  obtain ⟨fs, h1, h2, h3⟩ := firsts_sp fun v hm => ⟨_, hp' v hm⟩
  refine ⟨tuples' true, fun Q E hq => ?_, sp_cmp hp'⟩
  refine PySem.W.kat_kind (T := .type "str") h1 (by omega) (fun f hm => ?_) (by rfl) ?_
  · obtain ⟨x, t, rfl⟩ := h3 f hm
    exact PySem.W.Looks.now
  · have e : (Value.type "str" != Value.type "tuple") = true := by first | decide +kernel | rfl | decide
    rw [e]
    exact hq
end
theorem list_nt : Value.type "list" ≠ Value.type "tuple" := by intro h; injection h with h; exact absurd h (by decide)
/-- the spot at a value -/
noncomputable def spotAt (h : Heap) (v : Value) : Spot := by
  classical
  exact if x : ∃ p, IsSp h v p then x.choose else (⟨#[]⟩, 0)
theorem spotAt_of {h : Heap} {v : Value} {p : Spot} (x : IsSp h v p) : spotAt h v = p := by
  unfold spotAt
  rw [dif_pos ⟨p, x⟩]
  exact ((⟨p, x⟩ : ∃ p, IsSp h v p).choose_spec).uniq x
theorem isSp_of {X : Cx} {pins : List (Addr × Obj)} {σ : L2.St} {H : Hp} {s : Shared} {b : Addr} {p : Spot} (I : Inv X pins σ H s) (h : SqT X.K H b [.str p.1, .int p.2]) : IsSp s.heap (.ref b) p := by
  obtain ⟨its, r, ⟨o, ho, hc, n, hd⟩, _⟩ := I.tuple h
  cases r with
  | cons r1 r => cases r with
    | cons r2 r => cases r with
      | nil =>
        obtain ⟨t, rfl⟩ := r1
        obtain ⟨u, rfl⟩ := r2
        exact ⟨b, o, t, u, n, rfl, ho, hc, hd⟩
theorem vals_refs_inv : ∀ {bs : List Addr} {us : List Value}, Vals (bs.map V.ref) us → us = bs.map Value.ref
  | [], _, .nil => rfl
  | b :: bs, _, .cons h r => by cases h; rw [vals_refs_inv r]; rfl
/-- sorted(l), l a list of tuples (text, int) -/
def rSortS (K : PySem.W.Frag) : List V → Hp → VK → Prop := fun vs H Q => ∃ (a : Addr) (bs : List (Addr × Spot)), vs = [V.ref a] ∧ SqL K H a (bs.map fun b => V.ref b.1) ∧ (∀ b ∈ bs, SqT K H b.1 [.str b.2.1, .int b.2.2]) ∧
  ∀ (cs : List (Addr × Spot)) (p : Addr) (H2 : Hp), cs.Perm bs → (cs.map (·.2)).Pairwise spLe → H p = none → Same H H2 → H2 p = some (.lst (cs.map fun b => V.ref b.1)) → Q (.ref p) H2
theorem srt_out {h : Heap} {bs : List (Addr × Spot)} {out : List Value} (hk : ∀ b ∈ bs, IsSp h (.ref b.1) b.2) (hs : SrtO.Srtd (fun v u => decide (spLt (spotAt h v) (spotAt h u))) out) (hp : out.Perm (bs.map fun b => Value.ref b.1)) :
    ∃ cs : List (Addr × Spot), cs.Perm bs ∧ (cs.map (·.2)).Pairwise spLe ∧ out = cs.map fun b => Value.ref b.1 := by
  let F : Value → Addr × Spot := fun v => ((match v with | .ref a => a | _ => 0), spotAt h v)
  have e1 : (bs.map fun b => Value.ref b.1).map F = bs := by
    rw [List.map_map]
    refine (List.map_congr_left fun b hb => ?_).trans (List.map_id bs)
    show (b.1, spotAt h (.ref b.1)) = b
    rw [spotAt_of (hk b hb)]
  have pm : (out.map F).Perm bs := by
    have := hp.map F
    rwa [e1] at this
  refine ⟨out.map F, pm, ?_, ?_⟩
  · rw [List.map_map, List.pairwise_map]
    refine hs.imp fun {a b} q => ?_
    exact of_decide_eq_false q
  · rw [List.map_map]
    refine ((List.map_congr_left fun v hv => ?_).trans (List.map_id out)).symm
    obtain ⟨b, hb, rfl⟩ := List.mem_map.mp (hp.mem_iff.mp hv)
    rfl
theorem cr_sortS {X : Cx} : CallR X (.builtin "sorted") (rSortS X.K) := by
  intro pins s σ H xs us Q I r q
  obtain ⟨a, bs, rfl, hl, hb, q⟩ := q
  obtain ⟨u, rfl, rx⟩ := r.one
  cases rx
  obtain ⟨its, r, hL, hz⟩ := I.list hl
  have ei : its = bs.map fun b => Value.ref b.1 := by
    have := vals_refs_inv (bs := bs.map (·.1)) (by rw [List.map_map]; exact r)
    rw [this, List.map_map]; rfl
  subst ei
  have hk : ∀ b ∈ bs, IsSp s.heap (.ref b.1) b.2 := fun b h => isSp_of I (hb b h)
  refine SrtO.sorted_ord (swo_sp (spotAt s.heap)) hL.isList (by rw [List.length_map] at hz ⊢; exact hz) (fun h2 h₁ a' hat keep => sp_sortableO (by omega) (fun v hv => ?_) fun o ho => ?_) fun out hs ht => ?_
  · obtain ⟨b, hm, rfl⟩ := List.mem_map.mp hv
    rw [spotAt_of (hk b hm)]
    exact (hk b hm).keeps fun b o e _ => (keep b o e).2
  · rw [hat] at ho
    cases ho
    exact list_nt
  · obtain ⟨cs, c1, c2, rfl⟩ := srt_out hk hs ht.perm
    obtain ⟨ep, he'⟩ := PyProof.Rows.sortedAll_at s.heap (bs.map fun b => Value.ref b.1) (cs.map fun b => Value.ref b.1).toArray
    have hfr := I.hok.fresh (Nat.le_succ s.heap.objs.size)
    have hlen : (cs.map fun b => V.ref b.1).length ≤ sizeLine := by rw [List.length_map, c1.length_eq]; rw [List.length_map] at hz; exact hz
    have rv : Vals (cs.map fun b => V.ref b.1) (cs.map fun b => Value.ref b.1) := by
      have := vals_refs (cs.map (·.1))
      rw [List.map_map, List.map_map] at this
      exact this
    exact ⟨.ref _, upd H (s.heap.objs.size + 1) (.lst (cs.map fun b => V.ref b.1)), I.laid (t' := s.toks) (fun _ _ => PyProof.Rows.sortedAll_old) (Nat.le_succ _) ⟨hlen, _, ep, rv, he'⟩, rfl, q cs _ _ c1 c2 hfr (Same.new hfr) upd_same⟩
/-- sorted(d), list(d), d a dict with tuples (text, int) as keys -/
def skey (p : Spot) : List Key := [.inr p.1, .inl p.2]
def rSortT : List V → Hp → VK → Prop := fun xs H Q => ∃ (a : Addr) (kvs : List (List Key × V)) (ks : List Spot), xs = [.ref a] ∧ Rd H a (.dT kvs) ∧ kvs.map (·.1) = ks.map skey ∧
  ∀ (cs : List (Addr × Spot)) (p : Addr) (H2 : Hp), (cs.map (·.2)).Perm ks → (cs.map (·.2)).Pairwise spLe → (∀ c ∈ cs, H c.1 = some (.tup [.str c.2.1, .int c.2.2])) → H p = none → Same H H2 → H2 p = some (.lst (cs.map fun b => V.ref b.1)) → Q (.ref p) H2
def rListT : List V → Hp → VK → Prop := fun xs H Q => ∃ (a : Addr) (kvs : List (List Key × V)) (ks : List Spot), xs = [.ref a] ∧ Rd H a (.dT kvs) ∧ kvs.map (·.1) = ks.map skey ∧
  ∀ (cs : List (Addr × Spot)) (p : Addr) (H2 : Hp), cs.map (·.2) = ks → (∀ c ∈ cs, H c.1 = some (.tup [.str c.2.1, .int c.2.2])) → H p = none → Same H H2 → H2 p = some (.lst (cs.map fun b => V.ref b.1)) → Q (.ref p) H2
theorem spots_at {H : Hp} : ∀ {kvs : List (List Key × V)} {bs : List Addr} {ks : List Spot}, IsKeys H kvs bs → kvs.map (·.1) = ks.map skey → ∃ cs : List (Addr × Spot), cs.map (·.1) = bs ∧ cs.map (·.2) = ks ∧ ∀ c ∈ cs, H c.1 = some (.tup [.str c.2.1, .int c.2.2])
  | [], _, [], .nil, _ => ⟨[], rfl, rfl, fun _ h => by cases h⟩
  | [], _, _ :: _, _, e => by cases e
  | _ :: _, _, [], _, e => by cases e
  | kv :: kvs, _, k :: ks, h, e => by
    cases h with
    | @cons _ b _ bs h r =>
      injection e with e1 e2
      obtain ⟨cs, f1, f2, f3⟩ := spots_at r e2
      refine ⟨(b, k) :: cs, by rw [List.map_cons, f1], by rw [List.map_cons, f2], fun c hc => ?_⟩
      rcases List.mem_cons.mp hc with rfl | hc
      · have e1 : kv.1 = skey k := e1
        rw [h, e1]; rfl
      · exact f3 c hc
theorem call_listT {X : Cx} (hc : X.calm = true) : CallR X (.type "list") rListT := CallR.imp (call_list_dT hc) fun _ H _ ⟨a, kvs, ks, h1, h2, h3, q⟩ => ⟨a, kvs, h1, h2, fun p bs hp hk => by
  obtain ⟨cs, f1, f2, f3⟩ := spots_at hk h3
  refine q cs p _ f2 f3 hp (Same.new hp) ?_
  rw [upd_same, ← f1, List.map_map]
  rfl⟩
theorem cr_sortT {X : Cx} (hcalm : X.calm = true) : CallR X (.builtin "sorted") rSortT := by
  intro pins s σ H xs us Q I r q
  obtain ⟨a, kvs, ks, ex, hd, hks, q⟩ := q
  subst ex
  obtain ⟨u, eu, rx⟩ := vals1 r
  subst eu
  cases rx
  obtain ⟨z, hs, xs', pr, o, es, ep, ho, hx, hdt, he, hn⟩ := (show ObjOk X.prog X.w H s.heap a (.dT kvs) from hd.ok I.hok)
  have l1 : es.size = xs'.length := size_of_entries he
  have l2 : kvs.length = xs'.length := Paired.length pr
  have l3 : kvs.length = ks.length := by have := congrArg List.length hks; rw [List.length_map, List.length_map] at this; exact this
  refine Calls.call_function_entry PyProof.Rows.kind_sorted PyProof.Rows.plain_sorted PyProof.Rows.entry_sorted (PyProof.Rows.args_sorted1 _) ?_
  unfold Builtin.«sorted»
  refine wpAny_bind (m := checkCount "sorted" 1 1 _) (wpAny_pure ?_)
  refine wpAny_bind (PySem.W.kdu_collect (A := X.A.in1) (kdl_raw hs hx hdt) (I.ok.hd hcalm) ho (by omega) fun h' tk acc hk hacc => ?_)
  have ea : acc.toList = (xs'.map fun x => x.2.1).map Value.ref := by
    have hl : acc.toList.length = xs'.length := by rw [Array.length_toList, hacc.1]; exact l1
    apply List.ext_getElem?
    intro j
    rw [List.getElem?_map, List.getElem?_map]
    cases hj : acc.toList[j]? with
    | none =>
      have h1 := List.getElem?_eq_none_iff.mp hj
      rw [List.getElem?_eq_none (by omega)]
      all_goals rfl
    | some v =>
      obtain ⟨en, hen, hv⟩ := hacc.2 j v (by rw [← Array.getElem?_toList]; exact hj)
      have qe := entry_at he j
      rw [hen] at qe
      cases hb : xs'[j]? with
      | none =>
        rw [hb] at qe
        exact nomatch (show some en = none from qe)
      | some b =>
        rw [hb] at qe
        have e2 : en = entryOfKey (tupleKind (mixKind X.prog X.w)) b := Option.some.inj qe
        rw [hv, e2]
        all_goals rfl
  obtain ⟨cs0, f1, f2, f3⟩ := spots_at (isKeys_of pr) hks
  have ea2 : acc.toList = cs0.map fun b => Value.ref b.1 := by rw [ea, ← f1, List.map_map]; rfl
  have I1 : Inv X pins σ H { s with heap := h', toks := tk } := I.kept hk
  have hlc : cs0.length = xs'.length := by rw [← l2, l3, ← f2, List.length_map]
  have hal2 : acc.toList.length ≤ sizeLine := by rw [ea2, List.length_map]; omega
  have hk2 : ∀ b ∈ cs0, IsSp h' (.ref b.1) b.2 := fun b h => isSp_of (s := { s with heap := h', toks := tk }) I1 (SqT.of (f3 b h))
  refine wpAny_bind (wpAny_newList ?_ hal2)
  have hoL : (h'.push (seqObj "list" acc.toList.toArray 0)).get? h'.objs.size = some (seqObj "list" acc.toList.toArray 0) := Heap.get?_push_size _ rfl
  show wpAny _ _ _ _ _ { s with heap := h'.push (seqObj "list" acc.toList.toArray 0), toks := tk }
  refine wpAny_bind (wpAny_holding (wpAny_call_entry PyProof.Rows.slot_list_sort ⟨_, hoL, rfl⟩ PyProof.Rows.entry_list_sort
    (SrtO.list_sort_ord (s := { s with heap := h'.push (seqObj "list" acc.toList.toArray 0), toks := tk }) (swo_sp (spotAt h')) hoL hal2 (fun h2 => sp_sortableO (by omega) (fun v hv => ?_) fun o ho => ?_) fun out h1 h2 => ⟨_, rfl, ?_⟩) (PyProof.Rows.args_list_sort _)))
  · rw [ea2] at hv
    obtain ⟨b, hm, rfl⟩ := List.mem_map.mp hv
    rw [spotAt_of (hk2 b hm)]
    exact (hk2 b hm).keeps fun b o e _ => Heap.get?_push_of_some _ e
  · rw [hoL] at ho
    cases ho
    exact list_nt
  obtain ⟨cs, c1, c2, rfl⟩ := srt_out hk2 h1 (ea2 ▸ h2.perm)
  obtain ⟨e', he'⟩ := PyProof.Rows.sortedHeap_at (vs := acc.toList) (out := (cs.map fun b => Value.ref b.1).toArray) hoL
  have hlen : (cs.map fun b => V.ref b.1).length ≤ sizeLine := by
    rw [List.length_map, c1.length_eq]; omega
  have hfr := I1.hok.fresh (Nat.le_refl _)
  have rv : Vals (cs.map fun b => V.ref b.1) (cs.map fun b => Value.ref b.1) := by
    have := vals_refs (cs.map (·.1))
    rw [List.map_map, List.map_map] at this
    exact this
  refine wpAny_pure ⟨_, rfl, .ref h'.objs.size, upd H h'.objs.size (.lst (cs.map fun b => V.ref b.1)), I1.laid (t' := tk) (fun b u e => ?_) (Nat.le_refl _)
    (show ObjOk X.prog X.w _ _ _ (.lst (cs.map fun b => V.ref b.1)) from ⟨hlen, _, e', rv, he'⟩), rfl, q cs _ _ (by rw [← f2]; exact c1.map _) c2 (fun c hc => f3 c (c1.mem_iff.mp hc)) hfr (Same.new hfr) upd_same⟩
  have hb : b < h'.objs.size := Heap.lt_size e
  rw [PyProof.Rows.sortedHeap_old (Nat.ne_of_lt hb) (by rw [size_push']; exact Nat.lt_succ_of_lt hb)]
  exact Heap.get?_push_of_some _ e
end JP
set_option Elab.async false
set_option linter.all false
set_option maxRecDepth 100000
set_option maxHeartbeats 4000000
namespace JP
open PySem PySem.Spec PyProof.Rows L2
/-! ### dicts with tuples (text, int) as keys, as data -/
def tDNewTA : TE := fun _ H Q => ∀ p H2, H p = none → Same H H2 → H2 p = some (.dT []) → Q (.ref p) H2
theorem pe_dnewTA {X : Cx} {pos : Pos} : PE X (.Dict [] [] pos) tDNewTA := ⟨fun pins s σ H Q I h => pe_dnewT.run pins s σ H Q I fun p hp => h p _ hp (Same.new hp) upd_same⟩
section
variable {K : PySem.W.Frag} {B : Bs} {env : List Sl} {P : Pd} {D : DE}
theorem ev_dnewT (q : P .nw (dtp [])) : Ev K B tDNewTA env P := fun O σ H Q rl hq p H2 n2 s2 e2 => hq .nw _ _ H2 s2 ⟨p, _, rfl, n2, e2, .dt rfl .nil⟩ q
/-- a datum as a tuple key -/
def isTk (k : Kd) (y : Da) (Q : List Key → Prop) : Prop := ∃ ks key, y = .tup ks ∧ k ≠ .bw ∧ keysD ks = some key ∧ Q key
def isDt (k : Kd) (x : Da) (Q : List (List Key × Da) → Prop) : Prop := ∃ kvs, x = dtp kvs ∧ k ≠ .bw ∧ Q kvs
theorem ev_gT {td ty : TE} (h : Ev K B td env fun k x => isDt k x fun kvs => Ev K B ty env fun l y => isTk l y fun key => ∃ d, getG kvs key = some d ∧ P .fz d) : Ev K B (tDGet td ty) env P :=
  ev_dgetT (h.imp fun k x ⟨kvs, e, hk, h2⟩ => ⟨kvs, e, hk, h2.imp fun l y ⟨ks, key, e1, e2, e3, d, e4, p⟩ => ⟨ks, key, d, e1, e2, e3, e4, p⟩⟩)
theorem ev_g2T {td ty tx : TE} (h : Ev K B td env fun k x => isDt k x fun kvs => Ev K B ty env fun l y => Ev K B tx env fun m z => (m = .fz ∨ m = .nw) ∧ isTk l y fun key => P .fz ((getG kvs key).getD z)) : Ev K B (tDGet2 td ty tx) env P := fun O σ H Q rl hq =>
  h O σ H _ rl fun k x v H1 s1 r1 ⟨kvs, ex, hk, h2⟩ => by
    subst ex
    obtain ⟨a, us, rfl, hu, kr⟩ := r1.dtp_at rl.j (rl.j.step s1) hk
    refine ⟨a, rfl, .inr ⟨us, hu⟩, h2 O σ H1 _ (rl.step s1) fun l y u H2 s2 r2 h3 => h3 O σ H2 _ (rl.step (s1.trans s2)) fun m z w H3 s3 r3 ⟨hm, ks, key, ey, hl, ek, p⟩ => ?_⟩
    subst ey
    have j3 := rl.j.step ((s1.trans s2).trans s3)
    obtain ⟨b, ws, rfl, hb, rb⟩ := (r2.mono s3).tup_at (rl.j.step s1) j3 hl
    have := rep_keys ek rb
    subst this
    have hu3 := Same.rd (s2.trans s3) hu
    have p : P .fz ((getG kvs key).getD z) := p
    rcases (kr.mono (fr_mono (s2.trans s3))).get (k := key) with ⟨z1, z2⟩ | ⟨d', w', z1, z2, rr⟩
    · refine ⟨none, .inr ⟨us, key, b, hu3, rfl, hb, z2.symm⟩, ?_⟩
      rw [z1] at p
      exact hq .fz _ _ H3 ((s1.trans s2).trans s3) (r3.fz (rl.j.step (s1.trans s2)) hm) p
    · refine ⟨some w', .inr ⟨us, key, b, hu3, rfl, hb, z2.symm⟩, ?_⟩
      rw [z1] at p
      exact hq .fz _ _ H3 ((s1.trans s2).trans s3) rr p
/-- d[key] = e -/
theorem sd_dputT {i : Nat} {ty tv : TE} {kvs : List (List Key × Da)} (e : env[i]? = some (.own (dtp kvs))) (h : Ev K B tv env fun k d => (k = .fz ∨ k = .nw) ∧ Ev K B ty env fun l y => isTk l y fun key => kvs.length < sizeLine ∧ D.nx (env.set i (.own (dtp (putG kvs key d))))) :
    Sd K B (sDPut (tVar i) ty tv) D env := fun O σ H De r f =>
  h O σ H _ r fun k d v H1 s1 r1 ⟨hk, h2⟩ => by
    obtain ⟨p, u, e1, hp, e2, hr, q⟩ := (r.step s1).chg e
    obtain ⟨us, rfl, kr⟩ := hr.dtp_inv
    refine ⟨.ref p, e1, h2 O σ H1 _ (r.step s1) fun l x w H2 s2 r2 ⟨ks, key, ex, hl, ek, hz, hn⟩ => ?_⟩
    subst ex
    obtain ⟨p', u', e1', hp', e2', hr', q'⟩ := ((r.step s1).step s2).chg e
    rw [e1] at e1'
    cases e1'
    rw [s2 _ _ e2] at e2'
    cases e2'
    obtain ⟨b, ws, rfl, hb, rb⟩ := r2.tup_at (r.step s1).j ((r.step s1).step s2).j hl
    have := rep_keys ek rb
    subst this
    refine ⟨p, _, rfl, .inr ⟨us, key, b, s2 _ _ e2, rfl, hb, by rw [kr.len]; exact hz, rfl⟩, ?_⟩
    have b2 : But p H2 (upd H2 p (.dT (putK us key v))) := fun b hb => upd_ne hb
    have sg := fr_but (B := B) hp b2
    have kq := ((kr.mono (fr_mono s2)).put (k := key) ((r1.fz r.j hk).mono (fr_mono s2))).mono sg
    exact f.nx _ O σ _ (q' _ _ _ b2 upd_same (.dt kq.1 kq.2)) (((fr_mono s1).trans (fr_mono s2)).trans sg) hn
/-! sorting -/
abbrev spD (p : Spot) : Da := .tup [.str p.1, .int p.2]
theorem rep_spots {O : List Addr} {H : Hp} (j : J B O H) : ∀ {cs : List (Addr × Spot)}, (∀ c ∈ cs, H c.1 = some (.tup [.str c.2.1, .int c.2.2])) → RepA K (fr B O H) ((cs.map (·.2)).map spD) (cs.map fun c => V.ref c.1)
  | [], _ => .nil
  | c :: cs, h => .cons (.tup (fr_sc j (h c List.mem_cons_self) (by rw [h c List.mem_cons_self]; rfl)) (.cons (.str _) (.cons (.int _) .nil))) (rep_spots j fun d hd => h d (List.mem_cons_of_mem _ hd))
theorem spots_of {H : Hp} : ∀ {ss : List Spot} {vs : List V}, RepA K H (ss.map spD) vs → ∃ bs : List (Addr × Spot), vs = bs.map (fun b => V.ref b.1) ∧ bs.map (·.2) = ss ∧ ∀ b ∈ bs, H b.1 = some (.tup [.str b.2.1, .int b.2.2])
  | [], _, .nil => ⟨[], rfl, rfl, fun _ h => by cases h⟩
  | s :: ss, _, .cons h r => by
    obtain ⟨bs, rfl, e2, e3⟩ := spots_of r
    cases h with
    | @tup a _ _ e r =>
      cases r with
      | cons r1 r => cases r with
        | cons r2 r => cases r with
          | nil =>
            cases r1
            cases r2
            refine ⟨(a, s) :: bs, rfl, by rw [List.map_cons, e2], fun b hb => ?_⟩
            rcases List.mem_cons.mp hb with rfl | hb
            · exact e
            · exact e3 b hb
theorem opn_sortS {k : Kd} {ss : List Spot} (q : P .nw (.lst ((srtS ss).map spD))) (hk : k ≠ .bw) : OpN K B (rSortS K) [(k, .lst (ss.map spD))] P := fun O S H vs Q j0 j1 s r hq => by
  cases r with
  | cons r1 r2 =>
    cases r2
    obtain ⟨a, us, rfl, hs, ra⟩ := r1.lst_at j0 j1 hk
    obtain ⟨bs, rfl, e2, e3⟩ := spots_of ra
    have real : ∀ b ∈ bs, H b.1 = some (.tup [.str b.2.1, .int b.2.2]) := fun b hb => j1.real (fr_same j1 _ _ (e3 b hb)) nofun nofun
    refine ⟨a, bs, rfl, SqL.of hs, fun b hb => SqT.of (real b hb), fun cs p H2 hp hsr hn s2 e4 => ?_⟩
    have := srtS_uniq (hp.map (·.2)) hsr
    rw [e2] at this
    refine hq .nw _ _ H2 s2 (repV_lst j1 s s2 hn e4 ?_) q
    rw [← this]
    exact rep_spots j1 fun c hc => real c (hp.mem_iff.mp hc)
theorem opn_sortT {k : Kd} {kvs : List (List Key × Da)} {ks : List Spot} (e : kvs.map (·.1) = ks.map skey) (hk : k ≠ .bw) (q : P .nw (.lst ((srtS ks).map spD))) : OpN K B rSortT [(k, dtp kvs)] P := fun O S H vs Q j0 j1 s r hq => by
  cases r with
  | cons r1 r2 =>
    cases r2
    obtain ⟨a, us, rfl, hs, kr⟩ := r1.dtp_at j0 j1 hk
    refine ⟨a, us, ks, rfl, hs, kr.1.trans e, fun cs p H2 hp hsr real hn s2 e4 => ?_⟩
    have := srtS_uniq hp hsr
    refine hq .nw _ _ H2 s2 (repV_lst j1 s s2 hn e4 ?_) q
    rw [← this]
    exact rep_spots j1 real
theorem opn_listT {k : Kd} {kvs : List (List Key × Da)} {ks : List Spot} (e : kvs.map (·.1) = ks.map skey) (hk : k ≠ .bw) (q : P .nw (.lst (ks.map spD))) : OpN K B rListT [(k, dtp kvs)] P := fun O S H vs Q j0 j1 s r hq => by
  cases r with
  | cons r1 r2 =>
    cases r2
    obtain ⟨a, us, rfl, hs, kr⟩ := r1.dtp_at j0 j1 hk
    refine ⟨a, us, ks, rfl, hs, kr.1.trans e, fun cs p H2 hp real hn s2 e4 => ?_⟩
    refine hq .nw _ _ H2 s2 (repV_lst j1 s s2 hn e4 ?_) q
    rw [← hp]
    exact rep_spots j1 real
/-! loops over them -/
theorem forT {a : Addr} {o : Obj} {us : List (List Key × V)} (hl : ∃ x, lk B a = some x ∧ x.2.1 = o ∧ x.2.2 = .dT us) {g : TG} {tb : TS} {O : List Addr} {σ : L2.St} {H : Hp} {De : Ends} (r : Rl K B env O σ H) (f : Ft K B (fr B O H) D De) {ks : List Spot} (hk : us.map (·.1) = ks.map skey)
    (Pv : Nat → List Sl → Prop) (h0 : Pv 0 env) (ht : ∀ i k env', ks[i]? = some k → Pv i env' → Gn K B g (spD k) env' fun env2 => Sd K B tb { D with nx := Pv (i + 1), ct := Pv (i + 1), bk := D.nx } env2) (hd : ∀ env', Pv ks.length env' → D.nx env') : ForW (Itkt a o us) g tb De σ H := by
  obtain ⟨x, e1, e2, e3⟩ := hl
  have hat : ∀ {O' : List Addr} {H' : Hp}, J B O' H' → H' a = some (.frz o (.dT us)) := fun j => by rw [← e2, ← e3]; exact (j.lkd a x e1).1
  have hn : us.length = ks.length := by have := congrArg List.length hk; rw [List.length_map, List.length_map] at this; exact this
  refine ⟨fun i m σ' H' => m = us.length - i ∧ i ≤ us.length ∧ ∃ env' O', Rl K B env' O' σ' H' ∧ Same (fr B O H) (fr B O' H') ∧ Pv i env', ⟨us.length, by simp, Nat.zero_le _, env, O, r, Same.refl _, h0⟩, ?_⟩
  rintro i m σ' H' ⟨rfl, hi, env', O', r2, s2, p⟩
  have hb := hat r2.j
  by_cases hlt : i < us.length
  · refine .inr ⟨⟨hb, hlt⟩, fun σ' H' => i + 1 ≤ us.length ∧ ∃ env' O', Rl K B env' O' σ' H' ∧ Same (fr B O H) (fr B O' H') ∧ Pv (i + 1) env', fun σ'' H'' ⟨a, b⟩ => ⟨us.length - (i + 1), by omega, rfl, a, b⟩, fun v H'' y => ?_⟩
    obtain ⟨rfl, k, w, q0, hkw, rfl, hq0⟩ := y
    have hi2 : i < ks.length := by omega
    have ek : k = skey ks[i] := by
      have h1 : (us.map (·.1))[i]? = some k := by rw [List.getElem?_map, hkw]; rfl
      rw [hk, List.getElem?_map, List.getElem?_eq_getElem hi2] at h1
      exact (Option.some.inj h1).symm
    have hq0 : H'' q0 = some (.tup [.str ks[i].1, .int ks[i].2]) := by rw [hq0, ek]; rfl
    refine ht i ks[i] env' (List.getElem?_eq_getElem hi2) p O' σ' H'' _ _ r2 (.tup (fr_sc r2.j hq0 (by rw [hq0]; rfl)) (.cons (.str _) (.cons (.int _) .nil))) fun env2 σ2 r3 q => ?_
    refine q O' σ2 H'' _ r3 ⟨?_, f.rt, ?_, ?_⟩
    · exact fun e3 O3 σ3 H3 r4 s4 p3 => ⟨hlt, e3, O3, r4, s2.trans s4, p3⟩
    · exact fun e3 O3 σ3 H3 r4 s4 p3 => f.nx e3 O3 σ3 H3 r4 (s2.trans s4) p3
    · exact fun e3 O3 σ3 H3 r4 s4 p3 => ⟨hlt, e3, O3, r4, s2.trans s4, p3⟩
  · have e : i = us.length := by omega
    subst e
    rw [hn] at p
    exact .inl ⟨⟨hb, Nat.le_refl _⟩, f.nx env' O' σ' H' r2 s2 (hd env' p)⟩
theorem sd_forT {i : Nat} {g : TG} {tb : TS} {kvs : List (List Key × Da)} {ks : List Spot} (e : env[i]? = some (.dat (dtp kvs))) (hks : kvs.map (·.1) = ks.map skey) (Pv : Nat → List Sl → Prop) (h0 : Pv 0 env)
      (ht : ∀ (B' : Bs) i k env', ks[i]? = some k → Pv i env' → Gn K B' g (spD k) env' fun env2 => Sd K B' tb { D with nx := Pv (i + 1), ct := Pv (i + 1), bk := D.nx } env2) (hd : ∀ env', Pv ks.length env' → D.nx env') :
    Sd K B (tLockM (tFor (iKeys (tVar i)) g tb)) D env := fun O σ H De r f => by
  obtain ⟨v, e1, rv⟩ := r.dat_at e
  cases rv with
  | @dt a _ _ us e2 hk ra =>
    have ha := fr_notin e2
    have hv := fr_same r.j _ _ e2
    have hk := hk.trans hks
    cases hl : lk B a with
    | none =>
      rw [vw_nl hl] at hv
      refine .inr ⟨a, _, hv, trivial, fun od => ?_⟩
      refine ⟨.ref a, e1, a, od, rfl, .inr ⟨us, upd_same, ?_⟩⟩
      exact forT (B := B.lock a od (.dT us)) ⟨_, by rw [lk_lock, if_pos rfl], rfl, rfl⟩ (r.lock hl hv ha (.inr ⟨us, rfl⟩)) (f.lock hl hv) hk Pv h0 (ht _) hd
    | some x =>
      have h1 := (r.j.lkd a x hl).1
      have e3 : x.2.2 = .dT us := by
        unfold vw at hv
        rw [hl] at hv
        exact Option.some.inj hv
      rw [e3] at h1
      refine w_nolock ⟨.ref a, e1, a, x.2.1, rfl, .inr ⟨us, h1, ?_⟩⟩
      exact forT ⟨x, hl, rfl, e3⟩ r f hk Pv h0 (ht _) hd
theorem lc_JT {J : It} {n : Nat} {X : Nat → Da} {g : TG} {tt : TT} {te : TE} {vs : List Nat} {O : List Addr} {σ : L2.St} {H0 H : Hp} {Q : VK} (hg : ∀ i H1, Same H H1 → i < n → J.go i H1) (hs : ∀ i H1, Same H H1 → n ≤ i → J.stop i H1) (hy : ∀ i H1 v H' O', JP.J B O' H1 → i < n → J.yld i H1 v H' → H' = H1 ∧ Rep K (fr B O' H1) (X i) v) (hw : Gw g vs) (r : Rl K B env O σ H) (s0 : Same H0 H) (hz : n < sizeLine) (Fd : Nat → List Da → Prop) (h0 : Fd 0 [])
    (ht : ∀ i acc, i < n → Fd i acc → LcT K B g tt te (wipeE env vs) (X i) (fun y => Fd (i + 1) (acc ++ [y])) (Fd (i + 1) acc)) (hq : ∀ acc v H', acc.length ≤ n → Fd n acc → Same H H' → RepV K B O H0 H' .nw (.lst acc) v → Q v H') :
    ∀ D : Addr, H D = none → ∃ W : Nat → Nat → Hp → Prop, (∃ m, W 0 m (upd H D (HO.lst []))) ∧ ∀ i m H1, W i m H1 → (J.stop i H1 ∧ Q (.ref D) H1) ∨ (J.go i H1 ∧ ∃ Nx : Hp → Prop, (∀ H', Nx H' → ∃ m', m' < m ∧ W (i + 1) m' H') ∧ ∀ x H', J.yld i H1 x H' → g x (wipe σ vs) H' fun σ2 H2 => wipe σ2 vs = wipe σ vs ∧ tt σ2 H2 fun b H3 =>
      if b = true then te σ2 H3 fun y H4 => ∃ acc, H4 D = some (HO.lst acc) ∧ acc.length < sizeLine ∧ Nx (upd H4 D (HO.lst (acc ++ [y]))) else Nx H3) := by
  intro D hD
  refine ⟨fun i m H1 => m = n - i ∧ i ≤ n ∧ ∃ acc es, H1 D = some (.lst acc) ∧ acc.length ≤ i ∧ Same H H1 ∧ Fd i es ∧ RepA K (fr B (D :: O) H1) es acc, ⟨n, by simp, Nat.zero_le _, [], [], upd_same, Nat.le_refl _, Same.new hD, h0, .nil⟩, ?_⟩
  rintro i m H1 ⟨rfl, hi, acc, es, hA, hl, e1, f1, f2⟩
  by_cases hlt : i < n
  · refine .inr ⟨hg i H1 e1 hlt, fun H' => i + 1 ≤ n ∧ ∃ acc es, H' D = some (.lst acc) ∧ acc.length ≤ i + 1 ∧ Same H H' ∧ Fd (i + 1) es ∧ RepA K (fr B (D :: O) H') es acc, fun H' p' => ⟨n - (i + 1), by omega, rfl, p'⟩, fun v H' y => ?_⟩
    have jD := (r.more e1 hD (by rw [hA]; simp) (by rw [hA]; nofun)).j
    obtain ⟨rfl, rx⟩ := hy _ _ _ _ _ jD hlt y
    refine lc_turn hw r hD (by rw [hA]; simp) (by rw [hA]; nofun) e1 rx (ht i es hlt f1) (fun y v H4 s4 rv p => ?_) (fun H4 s4 p => ?_)
    · have hA4 := s4 _ _ hA
      refine ⟨acc, hA4, by omega, hlt, acc ++ [v], es ++ [y], upd_same, by rw [List.length_append]; show acc.length + 1 ≤ _; omega, Same.mut (e1.trans s4) hD, p, ?_⟩
      exact ((f2.mono (fr_mono s4)).app (.cons rv .nil)).mono (fr_but List.mem_cons_self fun b hb => upd_ne hb)
    · exact ⟨hlt, acc, es, s4 _ _ hA, by omega, e1.trans s4, p, f2.mono (fr_mono s4)⟩
  · have e : i = n := by omega
    subst e
    have l1 := f2.len
    exact .inl ⟨hs i H1 e1 (Nat.le_refl _), hq es _ H1 (by omega) f1 e1 ⟨D, _, rfl, same_none s0 hD, hA, .lst f2⟩⟩
theorem ev_lcT {i : Nat} {g : TG} {tt : TT} {te : TE} {vs : List Nat} {kvs : List (List Key × Da)} {ks : List Spot} (hw : Gw g vs) (hL : B.L = []) (e : env[i]? = some (.dat (dtp kvs))) (hks : kvs.map (·.1) = ks.map skey) (hz : ks.length < sizeLine) (Fd : Nat → List Da → Prop) (h0 : Fd 0 [])
    (ht : ∀ (B' : Bs) i k acc, ks[i]? = some k → Fd i acc → LcT K B' g tt te (wipeE env vs) (spD k) (fun y => Fd (i + 1) (acc ++ [y])) (Fd (i + 1) acc)) (hd : ∀ acc, acc.length ≤ ks.length → Fd ks.length acc → P .nw (.lst acc)) : Ev K B (tLockE (tLc (iKeys (tVar i)) g tt te vs)) env P := fun O σ H Q r hq => by
  obtain ⟨v, e1, rv⟩ := r.dat_at e
  cases rv with
  | @dt a _ _ us e2 hk ra =>
    have ha := fr_notin e2
    have hv := fr_same r.j _ _ e2
    have hk := hk.trans hks
    rw [vw_nil hL] at hv
    have hl : lk B a = none := by unfold lk; rw [hL]; rfl
    have hn : us.length = ks.length := by have := congrArg List.length hk; rw [List.length_map, List.length_map] at this; exact this
    refine ⟨a, _, hv, trivial, fun od => ⟨.ref a, e1, a, od, rfl, .inr ⟨us, upd_same, ?_⟩⟩⟩
    have r' := r.lock (o := od) hl hv ha (.inr ⟨us, rfl⟩)
    refine lc_JT (J := Itkt a od us) (g := g) (tt := tt) (te := te) (Q := fun v H' => H' a = some (.frz od (.dT us)) ∧ Q v (upd H' a (.dT us))) (B := B.lock a od (.dT us)) (H0 := upd H a (.frz od (.dT us))) (n := ks.length) (X := fun i => ((ks[i]?).map spD).getD .non) ?_ ?_ ?_ hw r' (Same.refl _) hz Fd h0 ?_ ?_
    · exact fun i H1 s1 hi => ⟨s1 _ _ upd_same, by omega⟩
    · exact fun i H1 s1 hi => ⟨s1 _ _ upd_same, by omega⟩
    · rintro i H2 v H3 O' j' hi ⟨h1, k, w, q0, h2, h3, h4⟩
      refine ⟨h1, ?_⟩
      have ek : k = skey ks[i] := by
        have h1 : (us.map (·.1))[i]? = some k := by rw [List.getElem?_map, h2]; rfl
        rw [hk, List.getElem?_map, List.getElem?_eq_getElem hi] at h1
        exact (Option.some.inj h1).symm
      have hq0 : H2 q0 = some (.tup [.str ks[i].1, .int ks[i].2]) := by rw [h4, ek]; rfl
      rw [List.getElem?_eq_getElem hi, h3]
      exact .tup (fr_sc j' hq0 (by rw [hq0]; rfl)) (.cons (.str _) (.cons (.int _) .nil))
    · intro i acc hi f
      have := ht (B.lock a od (.dT us)) i ks[i] acc (List.getElem?_eq_getElem hi) f
      rw [List.getElem?_eq_getElem hi]
      exact this
    · intro acc v H' hl2 f s1 rv'
      have hfz := s1 _ _ ((upd_same : (upd H a (.frz od (.dT us))) a = some (.frz od (.dT us))))
      refine ⟨hfz, hq .nw _ v _ (lock_same hv s1) ?_ (hd acc hl2 f)⟩
      have j' := r'.j.step s1
      have q := RepV.unlock j' hl (.inr rfl) rv'
      obtain ⟨p, w, x1, x2, x3, x4⟩ := q
      refine ⟨p, w, x1, ?_, x3, x4⟩
      have ne : p ≠ a := fun z => by rw [z, upd_same] at x2; cases x2
      rw [upd_ne ne] at x2
      exact x2
end
/-! t >= u, tuples (text, int) -/
def rGeS (K : PySem.W.Frag) : R2 := fun x y H Q => ∃ (a b : Addr) (p q : Spot), x = .ref a ∧ y = .ref b ∧ SqT K H a [.str p.1, .int p.2] ∧ SqT K H b [.str q.1, .int q.2] ∧ Q (.bl (!decide (spLt p q))) H
theorem two_items {Kx : Cx} {pins : List (Addr × Obj)} {σ : L2.St} {H : Hp} {s : Shared} {b : Addr} {p : Spot} (I : Inv Kx pins σ H s) (h : SqT Kx.K H b [.str p.1, .int p.2]) : ∃ t u, s.heap.IsTuple b #[.str p.1 t, .int p.2 u] := by
  obtain ⟨its, r, hT, _⟩ := I.tuple h
  cases r with
  | cons r1 r => cases r with
    | cons r2 r => cases r with
      | nil =>
        obtain ⟨t, rfl⟩ := r1
        obtain ⟨u, rfl⟩ := r2
        exact ⟨t, u, hT⟩
theorem op_geS {X : Cx} (hu : X.A.units + 64 < cLine) : OpR X (compareOp .GtE) (rGeS X.K) := by
  replace hu : X.A.units < cLine := by omega
  intro pins s σ H x y v u Q I rx ry h
  obtain ⟨a, b, p, q, rfl, rfl, ha, hb, hq⟩ := h
  cases rx
  cases ry
  obtain ⟨t1, u1, p1⟩ := two_items I ha
  obtain ⟨t2, u2, p2⟩ := two_items I hb
  have R := Ob.RcOp.tuples_ge (A := X.A) (s := s) (e := fun j => if j = 0 then decide (p.1 = q.1) else decide (p.2 = q.2)) (r := fun j => if j = 0 then !decide (slt p.1 q.1) else decide (q.2 ≤ p.2)) p1 p2 hu (fun j h1 h2 => by
    match j, h1, h2 with
    | 0, h1, h2 =>
      have := SeqAt.EqAt.str_str (A := X.A.in1) (s := s) p.1 t1 q.1 t2
      rw [show (p.1 == q.1) = decide (p.1 = q.1) from by by_cases e : p.1 = q.1 <;> simp [e]] at this
      exact this
    | 1, h1, h2 =>
      have := SeqAt.EqAt.int_int (A := X.A.in1) (s := s) p.2 u1 q.2 u2
      rw [show (p.2 == q.2) = decide (p.2 = q.2) from by by_cases e : p.2 = q.2 <;> simp [e]] at this
      exact this) (fun j h1 h2 _ => by
    match j, h1, h2 with
    | 0, h1, h2 => exact fun _ _ _ _ h => PySem.P.ge_str h
    | 1, h1, h2 => exact fun _ _ _ _ h => PyProof.Rows.ge_int h)
  have e : Ob.lexAt (fun j => if j = 0 then decide (p.1 = q.1) else decide (p.2 = q.2)) (fun j => if j = 0 then !decide (slt p.1 q.1) else decide (q.2 ≤ p.2)) true 0 2 = !decide (spLt p q) := by
    simp only [Ob.lexAt, if_true]
    by_cases e1 : p.1 = q.1
    · rw [if_pos (by simpa using e1)]
      by_cases e2 : p.2 = q.2
      · rw [if_pos (by simpa using e2)]
        have : p = q := Prod.ext e1 e2
        rw [this, decide_eq_false (spLt_irr q)]; rfl
      · rw [if_neg (by simpa using e2)]
        simp only [Nat.zero_add, Nat.one_ne_zero, if_false]
        rw [← decide_not, decide_eq_decide]
        constructor
        · intro z
          rintro (w | w)
          · exact slt_irr _ (e1 ▸ w)
          · omega
        · intro z
          exact Decidable.byContradiction fun w => z (.inr ⟨e1, by omega⟩)
    · rw [if_neg (by simpa using e1)]
      rw [← decide_not, ← decide_not, decide_eq_decide]
      constructor
      · intro z
        rintro (w | w)
        · exact z w
        · exact e1 w.1
      · exact fun z w => z (.inl w)
  have z : wpAny (model X.prog X.w) X.A (compareOp .GtE (.ref a) (.ref b)) (EP X pins σ Q) X.xe s := R X.prog X.w X.xe (EP X pins σ Q) (by
    refine ⟨.bl (!decide (spLt p q)), H, I, ?_, hq⟩
    rw [← e]
    rfl)
  exact z
section
variable {K : PySem.W.Frag} {B : Bs} {env : List Sl} {P : Pd} {D : DE}
theorem op2_geS {k l : Kd} {p q : Spot} (hk : k ≠ .bw) (hl : l ≠ .bw) (h : P .fz (.bl (!decide (spLt p q)))) : Op2 K B (rGeS K) (k, spD p) (l, spD q) P := fun O S H v u Q j0 j1 hS r1 r2 hq => by
  obtain ⟨a, va, rfl, ha, ra⟩ := r1.tup_at j0 j1 hk
  obtain ⟨b, vb, rfl, hb, rb⟩ := r2.tup_at j0 j1 hl
  have e1 : va = [.str p.1, .int p.2] := by
    cases ra with
    | cons r1 r => cases r with
      | cons r2 r => cases r with
        | nil => cases r1; cases r2; rfl
  have e2 : vb = [.str q.1, .int q.2] := by
    cases rb with
    | cons r1 r => cases r with
      | cons r2 r => cases r with
        | nil => cases r1; cases r2; rfl
  subst e1 e2
  exact ⟨a, b, p, q, rfl, rfl, SqT.of ha, SqT.of hb, hq .fz _ _ H (Same.refl _) (.bl _) h⟩
/-- t[lo:hi], t a tuple -/
def isTp (k : Kd) (x : Da) (Q : List Da → Prop) : Prop := ∃ ds, x = .tup ds ∧ k ≠ .bw ∧ Q ds
theorem tp_fz {ds : List Da} {Q : List Da → Prop} (q : Q ds) : isTp .fz (.tup ds) Q := ⟨ds, rfl, nofun, q⟩
theorem ev_slT {te : TE} {tl th : TO} (h : Ev K B te env fun k x => Pt K B tl env fun lo => Pt K B th env fun hi => isTp k x fun ds => P .fz (.tup (cutD ds lo hi))) : Ev K B (tSl (rSlA K) te tl th) env P := fun O σ H Q r hq =>
  h O σ H _ r fun k x v H1 s1 r1 h2 => h2 O σ H1 _ (r.step s1) fun lo H2 s2 h3 => h3 O σ H2 _ (r.step (s1.trans s2)) fun hi H3 s3 ⟨ds, ed, hk, p⟩ => by
    subst ed
    have p : P .fz (.tup (cutD ds lo hi)) := p
    have s0 := (s1.trans s2).trans s3
    have j3 := r.j.step s0
    have rv := r1.mono (s2.trans s3)
    obtain ⟨a, xs, rfl, hs, ra⟩ := rv.tup_at r.j j3 hk
    refine ⟨a, xs, rfl, SqT.of hs, fun w => ?_, fun _ p' n4 => ?_⟩
    · have ec : cutD ds lo hi = ds := by
        unfold cutD
        rw [ra.len, w.1, w.2, List.drop_zero, Nat.sub_zero, ← ra.len, List.take_length]
      rw [ec] at p
      refine hq .fz _ _ H3 s0 ?_ p
      cases k with
      | fz => exact rv
      | bw => exact absurd rfl hk
      | ow => obtain ⟨_, _, _, _, _, z⟩ := rv; cases z
      | nw => obtain ⟨_, _, _, _, _, z⟩ := rv; cases z
    · refine hq .fz _ _ _ (s0.trans (Same.new n4)) (repV_tup j3 (Same.new n4) n4 upd_same ?_) p
      unfold cutD cutV
      rw [← ra.len]
      exact (ra.drop _).take _
end
/-! ### tallies of spots -/
theorem skey_inj {p q : Spot} (h : skey p = skey q) : p = q := by
  unfold skey at h
  injection h with h1 h2
  injection h2 with h3
  exact Prod.ext (Sum.inr.inj h1) (Sum.inl.inj h3)
def tkS (ks : List Spot) (f : Spot → Int) : List (List Key × Da) := ks.map fun s => (skey s, Da.int (f s))
theorem tkS_keys (ks : List Spot) (f : Spot → Int) : (tkS ks f).map (·.1) = ks.map skey := by unfold tkS; rw [List.map_map]; rfl
theorem tkS_len (ks : List Spot) (f : Spot → Int) : (tkS ks f).length = ks.length := List.length_map ..
theorem getG_tkS {ks : List Spot} {f : Spot → Int} {s : Spot} (h : s ∈ ks) : getG (tkS ks f) (skey s) = some (.int (f s)) := by
  induction ks with
  | nil => cases h
  | cons k r ih =>
    by_cases e : k = s
    · subst e; exact getG_pos rfl
    · exact (getG_neg (fun z => e (skey_inj z))).trans (ih ((List.mem_cons.mp h).resolve_left fun z => e z.symm))
theorem getG_tkS0 {ks : List Spot} {f : Spot → Int} {s : Spot} (h : s ∉ ks) : getG (tkS ks f) (skey s) = none := by
  induction ks with
  | nil => rfl
  | cons k r ih =>
    have e : k ≠ s := fun z => h (z ▸ List.mem_cons_self)
    exact (getG_neg (fun z => e (skey_inj z))).trans (ih fun z => h (List.mem_cons_of_mem _ z))
theorem TalS.getD {ks : List Spot} {f : Spot → Int} (t : TalS ks f) (s : Spot) : (getG (tkS ks f) (skey s)).getD (.int 0) = .int (f s) := by
  by_cases h : s ∈ ks
  · rw [getG_tkS h]; rfl
  · rw [getG_tkS0 h, t.out s h]; rfl
theorem any_tkS (ks : List Spot) (f : Spot → Int) (s : Spot) : ((tkS ks f).any fun kv => decide (kv.1 = skey s)) = decide (s ∈ ks) := by
  unfold tkS
  rw [List.any_map]
  induction ks with
  | nil => rfl
  | cons k r ih =>
    rw [List.any_cons, ih]
    by_cases e : k = s
    · simp [e]
    · have e2 : ¬ skey k = skey s := fun z => e (skey_inj z)
      simp only [Function.comp, e2, decide_false, Bool.false_or, List.mem_cons, decide_eq_decide]
      constructor
      · exact .inr
      · exact fun h => h.resolve_left fun z => e z.symm
theorem put_tkS (ks : List Spot) (f : Spot → Int) (s : Spot) (v : Int) : putG (tkS ks f) (skey s) (.int v) = tkS (addS ks s) (upS f s v) := by
  unfold putG
  rw [any_tkS]
  by_cases h : s ∈ ks
  · rw [decide_eq_true h, if_pos rfl]
    unfold addS tkS
    rw [if_pos h, List.map_map]
    refine List.map_congr_left fun k hk => ?_
    show (if skey k = skey s then (skey k, Da.int v) else (skey k, Da.int (f k))) = (skey k, Da.int (if k = s then v else f k))
    by_cases e : k = s
    · rw [if_pos e, if_pos (e ▸ rfl)]
    · rw [if_neg e, if_neg fun z => e (skey_inj z)]
  · rw [decide_eq_false h, if_neg (by decide)]
    unfold addS tkS
    rw [if_neg h, List.map_append, List.map_cons, List.map_nil]
    congr 1
    · refine List.map_congr_left fun k hk => ?_
      have e : k ≠ s := fun z => h (z ▸ hk)
      show _ = (skey k, Da.int (if k = s then v else f k))
      rw [if_neg e]
    · show _ = [(skey s, Da.int (if s = s then v else f s))]
      rw [if_pos rfl]
theorem tkS_congr {ks : List Spot} {f g : Spot → Int} (h : ∀ u ∈ ks, f u = g u) : tkS ks f = tkS ks g := List.map_congr_left fun k hk => by rw [h k hk]
theorem TalS.step {ks : List Spot} {f g : Spot → Int} (t : TalS ks f) (s : Spot) (c : Int) (hg : ∀ u, g u = f u + if s = u then c else 0) : TalS (addS ks s) g ∧ putG (tkS ks f) (skey s) (.int (f s + c)) = tkS (addS ks s) g := by
  obtain ⟨t2, c2⟩ := t.put s c hg
  exact ⟨t2, by rw [put_tkS, ← tkS_congr c2]⟩
/-! sums as data -/
def dkS (R : List Tm) : List (List Key × Da) := R.map fun t => (skey t.1, Da.int t.2)
theorem dkS_tkS {R : List Tm} (a : AscS R) : dkS R = tkS (R.map (·.1)) (cfS R) := by
  unfold dkS tkS
  rw [List.map_map]
  refine List.map_congr_left fun p hp => ?_
  show _ = (skey p.1, Da.int (cfS R p.1))
  rw [cfS_in a hp]
theorem dkS_len (R : List Tm) : (dkS R).length = R.length := List.length_map ..
theorem dkS_keys (R : List Tm) : (dkS R).map (·.1) = (R.map (·.1)).map skey := by unfold dkS; rw [List.map_map, List.map_map]; rfl
theorem getG_dkS {R : List Tm} (a : AscS R) {t : Tm} (h : t ∈ R) : getG (dkS R) (skey t.1) = some (.int t.2) := by
  rw [dkS_tkS a, getG_tkS (List.mem_map_of_mem h), cfS_in a h]
theorem put_dkS {R : List Tm} (t : Tm) (h : ∀ q ∈ R, spLt q.1 t.1) : putG (dkS R) (skey t.1) (.int t.2) = dkS (R ++ [t]) := by
  have : ((dkS R).any fun kv => decide (kv.1 = skey t.1)) = false := by
    rw [List.any_eq_false]
    intro x hx
    obtain ⟨q, hq, rfl⟩ := List.mem_map.mp hx
    have := h q hq
    simp only [decide_eq_true_eq]
    exact fun z => spLt_ne this (skey_inj z)
  unfold putG
  rw [this, if_neg (by decide)]
  unfold dkS
  rw [List.map_append]
  rfl
abbrev tmT (t : Tm) : Da := .tup [.str t.1.1, .int t.1.2, .int t.2]
abbrev tmL (t : Tm) : Da := .lst [.str t.1.1, .int t.1.2, .int t.2]
abbrev sT (R : List Tm) : Da := .tup (R.map tmT)
def isTm (e : Da) (t : Tm) : Prop := its e = some [.str t.1.1, .int t.1.2, .int t.2]
/-- a list or a tuple of terms -/
def isTs (d : Da) (ts : List Tm) : Prop := ∃ es, its d = some es ∧ Paired isTm es ts
theorem isTm_T (t : Tm) : isTm (tmT t) t := rfl
theorem isTm_L (t : Tm) : isTm (tmL t) t := rfl
theorem isTs_T (R : List Tm) : isTs (sT R) R := ⟨_, rfl, paired_map isTm_T R⟩
theorem isTs_L (R : List Tm) : isTs (.lst (R.map tmL)) R := ⟨_, rfl, paired_map isTm_L R⟩
theorem isTs_lT (R : List Tm) : isTs (.lst (R.map tmT)) R := ⟨_, rfl, paired_map isTm_T R⟩
theorem isTs_tL (R : List Tm) : isTs (.tup (R.map tmL)) R := ⟨_, rfl, paired_map isTm_L R⟩
/-! marks: the dict has tuples as keys -/
def tMk (t : TE) : TE := t
def tMkS (t : TS) : TS := t
theorem pe_mk {X : Cx} {e : Expr} {t : TE} (h : PE X e t) : PE X e (tMk t) := h
theorem ps_mk {X : Cx} {s : Stmt} {t : TS} (h : PS X s t) : PS X s (tMkS t) := h
section
variable {K : PySem.W.Frag} {B : Bs} {env : List Sl} {P : Pd} {D : DE}
theorem ev_mgT {td ty : TE} (h : Ev K B td env fun k x => isDt k x fun kvs => Ev K B ty env fun l y => isTk l y fun key => ∃ d, getG kvs key = some d ∧ P .fz d) : Ev K B (tMk (tDGet td ty)) env P := ev_gT h
theorem ev_mg2T {td ty tx : TE} (h : Ev K B td env fun k x => isDt k x fun kvs => Ev K B ty env fun l y => Ev K B tx env fun m z => (m = .fz ∨ m = .nw) ∧ isTk l y fun key => P .fz ((getG kvs key).getD z)) : Ev K B (tMk (tDGet2 td ty tx)) env P := ev_g2T h
theorem sd_mputT {i : Nat} {ty tv : TE} {kvs : List (List Key × Da)} (e : env[i]? = some (.own (dtp kvs))) (h : Ev K B tv env fun k d => (k = .fz ∨ k = .nw) ∧ Ev K B ty env fun l y => isTk l y fun key => kvs.length < sizeLine ∧ D.nx (env.set i (.own (dtp (putG kvs key d))))) :
    Sd K B (tMkS (sDPut (tVar i) ty tv)) D env := sd_dputT e h
theorem tk_fz {s : Str} {i : Int} {Q : List Key → Prop} (q : Q (skey (s, i))) : isTk .fz (.tup [.str s, .int i]) Q := ⟨_, _, rfl, nofun, rfl, q⟩
theorem dt_fz {kvs : List (List Key × Da)} {Q : List (List Key × Da) → Prop} (q : Q kvs) : isDt .fz (dtp kvs) Q := ⟨kvs, rfl, nofun, q⟩
theorem dt_ow {kvs : List (List Key × Da)} {Q : List (List Key × Da) → Prop} (q : Q kvs) : isDt .ow (dtp kvs) Q := ⟨kvs, rfl, nofun, q⟩
theorem dt_nw {kvs : List (List Key × Da)} {Q : List (List Key × Da) → Prop} (q : Q kvs) : isDt .nw (dtp kvs) Q := ⟨kvs, rfl, nofun, q⟩
end
theorem pg_seqK {K : PySem.W.Frag} {X : Cx} {es : List Expr} {k : Nat} {t : TGs} {n : Nat} {pos : Pos} (hK : X.K = K) (hc : X.calm = true) (h : PGs X es t)
    (hn : (assignEach es X.env).length = n := by rfl) (hst : (assignEach es X.env).findIdx? (·.1) = none := by rfl) : PG X (.Tuple es k pos) (gSeq K n t) := hK ▸ pg_seq hc h hn hst
end JP
set_option Elab.async false
set_option linter.all false
set_option maxRecDepth 100000
set_option maxHeartbeats 4000000
namespace JP
open PySem PySem.Spec PyProof.Rows L2
/-! ### texts -/
section
variable {K : PySem.W.Frag} {B : Bs} {env : List Sl} {P : Pd} {D : DE}
theorem op2_ixS {k l : Kd} {z : Str} {i : Int} {c : Nat} (hz : z.length ≤ sizeLine) (e : atI z.cps.toList i = some c) (q : P .fz (.str ⟨#[c]⟩)) : Op2 K B (rIx K) (k, .str z) (l, .int i) P := fun O S H v u Q j0 j1 hS r1 r2 hq => by
  have e1 : v = .str z := by cases r1.seen j0 j1; rfl
  have e2 : u = .int i := r2.int_eq
  subst e1 e2
  exact .inr (.inr ⟨z, i, c, rfl, rfl, hz, e, hq .fz _ _ H (Same.refl _) (.str _) q⟩)
def isSt (x : Da) (Q : Str → Prop) : Prop := ∃ z, x = .str z ∧ Q z
theorem st_i {z : Str} {Q : Str → Prop} (q : Q z) : isSt (.str z) Q := ⟨z, rfl, q⟩
theorem ev_slS {te : TE} {tl th : TO} (h : Ev K B te env fun k x => Pt K B tl env fun lo => Pt K B th env fun hi => isSt x fun z => z.length ≤ sizeLine ∧ P .fz (.str (cutS z lo hi))) : Ev K B (tSl rSlS te tl th) env P := fun O σ H Q r hq =>
  h O σ H _ r fun k x v H1 s1 r1 h2 => h2 O σ H1 _ (r.step s1) fun lo H2 s2 h3 => h3 O σ H2 _ (r.step (s1.trans s2)) fun hi H3 s3 ⟨z, ed, hz, p⟩ => by
    subst ed
    have e1 : v = .str z := by cases r1.seen r.j (r.j.step s1); rfl
    subst e1
    exact ⟨z, rfl, hz, hq .fz _ _ H3 ((s1.trans s2).trans s3) (.str _) p⟩
def tJoin (K : PySem.W.Frag) (to te : TE) : TE := tM1 (fun x xs H Q => ∃ a p, ∃ ys : List Str, x = .str a ∧ xs = [.ref p] ∧ (SqL K H p (ys.map V.str) ∨ SqT K H p (ys.map V.str)) ∧
      (ys.map (·.length)).sum + ys.length * a.length ≤ 16777216 ∧ Q (.str (Txt.join a ys)) H) to te
theorem pe_joinA {X : Cx} {o e : Expr} {to te : TE} {apos pos : Pos} (ho : PE X o to) (he : PE X e te) (hs : starEach [e] X.env = [(false, eval e X.env)] := by rfl) (hbase : attributeBase o "join" X.env (eval o X.env) = eval o X.env := by rfl) (hline : (apos.endLine == pos.line) = true := by rfl) :
    PE X (.Call (.Attribute o "join" apos) [e] [] pos) (tJoin X.K to te) := pe_join ho he hs hbase hline
theorem ev_join {to te : TE} (h : Ev K B to env fun _ x => isSt x fun a => Ev K B te env fun l y => ∃ ys : List Str, (y = .lst (ys.map Da.str) ∨ y = .sls (ys.map Da.str)) ∧ l ≠ .bw ∧ (ys.map (·.length)).sum + ys.length * a.length ≤ 16777216 ∧ P .fz (.str (Txt.join a ys))) : Ev K B (tJoin K to te) env P := fun O σ H Q r hq =>
  h O σ H _ r fun k x v H1 s1 r1 ⟨a, ex, h2⟩ => by
    subst ex
    have e1 : v = .str a := by cases r1.seen r.j (r.j.step s1); rfl
    subst e1
    refine ⟨⟨a, rfl⟩, h2 O σ H1 _ (r.step s1) fun l y u H2 s2 r2 ⟨ys, ey, hl, hz, p⟩ => ?_⟩
    have j2 := r.j.step (s1.trans s2)
    obtain ⟨b, vs, rfl, hs, ra⟩ : ∃ b vs, u = .ref b ∧ SqL K H2 b vs ∧ RepA K (fr B O H2) (ys.map Da.str) vs := by
      rcases ey with rfl | rfl
      · obtain ⟨b, vs, e1, e2, e3⟩ := (r2.back s1).lst_at r.j j2 hl; exact ⟨b, vs, e1, SqL.of e2, e3⟩
      · exact (r2.back s1).sls_at r.j j2 hl
    have := RepA.strs ra
    subst this
    exact ⟨a, b, ys, rfl, rfl, .inl hs, hz, hq .fz _ _ H2 (s1.trans s2) (.str _) p⟩
theorem join0_len (ys : List Str) {n : Nat} (h : ∀ y ∈ ys, y.length ≤ n) : (Txt.join "" ys).length ≤ ys.length * n := by
  have := StrLaws.join_length_le "" ys
  have key : (ys.map (·.length)).sum ≤ ys.length * n := by
    induction ys with
    | nil => exact Nat.zero_le _
    | cons y r ih =>
      rw [List.map_cons, List.sum_cons, List.length_cons, Nat.add_mul, Nat.one_mul]
      have := h y List.mem_cons_self
      have := ih (fun z hz => h z (List.mem_cons_of_mem _ hz)) (StrLaws.join_length_le "" r)
      omega
  have z : ("" : Str).length = 0 := rfl
  rw [z, Nat.mul_zero, Nat.add_zero] at this
  rw [show Txt.join "" ys = Str.join "" ys from StrLaws.glued_eq_join _ _]
  exact Nat.le_trans this key
end
/-! cut digits -/
theorem dig_cut {zs rs : List Int} (D : Dig zs rs) (a n : Nat) : Dig ((zs.drop a).take n) ((rs.drop a).take n) := by
  refine ⟨by rw [List.length_take, List.length_take, List.length_drop, List.length_drop, D.1], fun i z d h g => ?_⟩
  rw [List.getElem?_take] at h g
  split at h
  · rw [if_pos (by assumption)] at g
    rw [List.getElem?_drop] at h g
    exact D.2 _ z d h g
  · cases h
theorem cutD_dig {zs rs : List Int} (D : Dig zs rs) {lo hi : Int} (a b : Nat) (ea : lo = a) (eb : hi = b) (h : a ≤ b) (hb : b ≤ zs.length) : cutD (rs.map Da.int) (some lo) (some hi) = ((rs.drop a).take (b - a)).map Da.int := by
  rw [ea, eb, cutD_at _ _ _ h (by rw [List.length_map, D.1]; exact hb), List.map_take, List.map_drop]
abbrev tL (R : List Tm) : Da := .lst (R.map tmL)
/-! the forms in which pairs are passed -/
def mixS : Nat → List Tm → List Da
  | _, [] => []
  | n, p :: r => (if n = 1 ∨ n = 2 then tmL p else tmT p) :: mixS (n + 1) r
theorem mixS_snoc (p : Tm) : ∀ (ps : List Tm) (n : Nat), mixS n (ps ++ [p]) = mixS n ps ++ [if n + ps.length = 1 ∨ n + ps.length = 2 then tmL p else tmT p]
  | [], n => rfl
  | q :: r, n => by
    show _ :: mixS (n + 1) (r ++ [p]) = _ :: (mixS (n + 1) r ++ _)
    rw [mixS_snoc p r (n + 1), List.length_cons, show n + 1 + r.length = n + (r.length + 1) by omega]
theorem mixS_tms : ∀ (ps : List Tm) (n : Nat), Paired isTm (mixS n ps) ps
  | [], _ => .nil
  | p :: r, n => by
    refine .cons ?_ (mixS_tms r (n + 1))
    split <;> rfl
theorem mixS_len : ∀ (ps : List Tm) (n : Nat), (mixS n ps).length = ps.length
  | [], _ => rfl
  | p :: r, n => by show (mixS (n + 1) r).length + 1 = r.length + 1; rw [mixS_len r]
def passS (form : Int) (ps : List Tm) : Da :=
  if form = 0 then tL ps else if form = 1 then .lst (ps.map tmT) else if form = 2 then .tup (ps.map tmL) else if form = 3 then sT ps else .lst (mixS 0 ps)
theorem passS_ts (form : Int) (ps : List Tm) : isTs (passS form ps) ps := by
  unfold passS
  split
  · exact isTs_L ps
  split
  · exact isTs_lT ps
  split
  · exact isTs_tL ps
  split
  · exact isTs_T ps
  · exact ⟨_, rfl, mixS_tms ps 0⟩
theorem isTs_plain {d : Da} {ps : List Tm} (h : isTs d ps) : d.plain 60 = true := by
  obtain ⟨es, he, hp⟩ := h
  have key : ∀ {es : List Da} {ps : List Tm}, Paired isTm es ps → Da.plainA 59 es = true := by
    intro es ps h
    induction h with
    | nil => rfl
    | @cons e p es ps h _ ih =>
      show (Da.plain 59 _ && Da.plainA 59 _) = true
      rw [ih, Bool.and_true]
      revert h
      unfold isTm
      intro h
      cases e with
      | lst xs => cases h; rfl
      | tup xs => cases h; rfl
      | sls xs => cases h; rfl
      | stp xs => cases h; rfl
      | _ => cases h
  cases d with
  | lst xs => cases he; exact key hp
  | tup xs => cases he; exact key hp
  | sls xs => cases he; exact key hp
  | stp xs => cases he; exact key hp
  | _ => cases he
/-! drawn terms -/
def trmSizes : List Int := [12, 61, 41, 8, 16, 4, 6] ++ (List.replicate 60 [6, 41, 12, 100000, 100000]).flatten
theorem trm_at : ∀ k < 60, (trmSizes.drop (7 + 5 * k)).take 5 = [6, 41, 12, 100000, 100000] := by decide +kernel
theorem trmSizes_ok : (∀ z ∈ trmSizes, 0 < z ∧ z < 1073741824) ∧ trmSizes.length ≤ 1000 := by decide +kernel
/-- terms in the laws' bounds -/
def Gt6 (ts : List Tm) : Prop := ts.length ≤ 60 ∧ ∀ t ∈ ts, t.1.1.length ≤ 40 ∧ -20 ≤ t.1.2 ∧ t.1.2 ≤ 20 ∧ t.2.natAbs ≤ 1000000000
/-- names in the law's bounds -/
def Nms (ns : List Str) : Prop := ns.length = 6 ∧ ∀ s ∈ ns, s.length ≤ 40
theorem smap_at {α : Type} {f : α → Da} {xs : List α} {i : Nat} {x : Da} (h : (xs.map f)[i]? = some x) : ∃ a, xs[i]? = some a ∧ x = f a := by
  rw [List.getElem?_map] at h
  cases e : xs[i]? with
  | none => rw [e] at h; cases h
  | some a => rw [e] at h; exact ⟨a, rfl, (Option.some.inj h).symm⟩
theorem take_snoc {α : Type} {xs : List α} {i : Nat} {x : α} (h : xs[i]? = some x) : xs.take (i + 1) = xs.take i ++ [x] := by rw [List.take_add_one, h]; rfl
end JP
set_option Elab.async false
set_option linter.all false
set_option maxRecDepth 100000
set_option maxHeartbeats 4000000
namespace JP
open PySem PySem.Spec PyProof.Rows L2
/-! {k: v}, k a tuple of texts and ints -/
section
variable {prog : Program} {w : World} {K : Type} [DecidableEq K] {knd : HeapKind prog w K} {A : Around} {E : Value → Shared → Prop} {s : Shared}
theorem dict_pairsO {env : Env} {keys : List (Option Expr)} {values : List Expr} {pos : Pos} {pairs : List (Sem Value × Sem Value)} {Q : Value → Shared → Prop} (hu : knd.room A)
    (hshape : (evalEachOpt keys env).zip ((evalEach values env).map fun v => do let x ← v; standAt pos; pure x) = pairs.map fun p => (some p.1, p.2)) (h0 : pairs ≠ []) (hlen : pairs.length ≤ 15)
    (h : wpAny (model prog w) A (evalPairs pairs) (fun vs s₁ => ∃ ps, CarriesH knd s₁.heap vs ps ∧ s₁.heap.DictOfH knd s.heap.objs.size [] ∧
      ∀ h' tk, h'.DictOfH knd s.heap.objs.size (storedAllH [] ps) → Heap.SameBut s.heap.objs.size s₁.heap h' → Q (.ref s.heap.objs.size) { s₁ with heap := h', toks := tk }) E
      { s with heap := s.heap.push { cls := .type "dict", data := .dict #[] } }) :
    wpAny (model prog w) A (eval (.Dict keys values pos) env) Q E s := by
  rw [arm_eval_Dict, hshape, dictDisplay_pairs pairs h0 (by omega)]
  exact wpAny_bind (wpAny_standAt (wpAny_bind (wpAny_subDictH (knd := knd) (Q := fun d s' => wpAny (model prog w) A (pure (Value.ref d)) Q E s') hu hlen
    (wpAny_mono h (fun vs s₁ h₁ => by obtain ⟨ps, hc, hm, hq⟩ := h₁; exact ⟨ps, hc, hm, fun h' tk a b => wpAny_pure (hq h' tk a b)⟩) fun _ _ e => e))))
end
def tDispT (tk tv : TE) : TE := fun σ H Q => ∀ p, H p = none → tk σ (upd H p (.dT [])) fun x H1 => tv σ H1 fun y H2 => H2 p = some (.dT []) ∧ ∃ b k, x = .ref b ∧ H2 b = some (.tup (k.map kV)) ∧ b ≠ p ∧ Q (.ref p) (upd H2 p (.dT [(k, y)]))
theorem pe_dispT {X : Cx} {pos : Pos} {k v : Expr} {tk tv : TE} (hu : X.A.units + 1 < cLine) (hk : PE X k tk) (hv : PE X v tv) : PE X (.Dict [some k] [v] pos) (tDispT tk tv) := by
  refine ⟨fun pins s σ H Q I q => ?_⟩
  have hn := I.hok.fresh (Nat.le_refl s.heap.objs.size)
  have I1 := I.laid (a := s.heap.objs.size) (o := .dT []) (h' := s.heap.push { cls := .type "dict", data := .dict #[] }) (t' := s.toks) (fun _ _ q => Heap.get?_push_of_some _ q) (Nat.le_refl _) (dt_empty s.heap I.big)
  refine dict_pairsO (knd := tupleKind (mixKind X.prog X.w)) (pairs := pairTrees [some k] [v] X.env pos) (show X.A.units < cLine by omega) (zip_pairTrees _ _ _ _ rfl rfl) (by intro h; have := pairTrees_length [some k] [v] X.env pos rfl rfl; rw [h] at this; cases this) (by rw [pairTrees_length [some k] [v] X.env pos rfl rfl]; exact (by decide : 1 ≤ 15)) ?_
  refine pairTrees_cons_walk (thn (hk.run pins _ σ _ _ I1 (q _ hn)) fun u s1 ⟨x, H1, I2, rx, q1⟩ => thn (hv.run pins s1 σ H1 _ I2 q1) fun u2 s2 ⟨y, H2, I3, ry, e, b, key, ex, eb, hne, q2⟩ => pairTrees_nil_walk ?_)
  subst ex
  cases (show u = Value.ref b from rx)
  obtain ⟨z, hs, xs, r, dd⟩ := dt_of I3.hok e
  cases r
  refine ⟨[(key, b, u2)], ⟨rfl, rfl, key_of I3.hok eb, True.intro⟩, dd, fun h' tk' hd' sb => ⟨.ref s.heap.objs.size, _, ?_, rfl, q2⟩⟩
  obtain ⟨o, es, ep, ho, hx, hdt, he, his, hnd⟩ := hd'
  refine d_write I3 (by rw [e]; exact True.intro) sb ⟨o, ho⟩ ⟨by show 1 ≤ sizeLine; rw [sizeLine_eq]; decide, hs, _, .cons ⟨rfl, ?_, ry⟩ .nil, o, es, ep, ho, hx, hdt, he, hnd⟩
  rw [upd_ne hne]
  exact eb
section
variable {K : PySem.W.Frag} {B : Bs} {env : List Sl} {P : Pd} {D : DE}
theorem ev_dispT {tk tv : TE} (h : Ev K B tk env fun k x => Ev K B tv env fun l y => (l = .fz ∨ l = .nw) ∧ isTk k x fun key => P .nw (dtp [(key, y)])) : Ev K B (tDispT tk tv) env P := fun O σ H Q r hq p hp => by
  have s0 : Same H (upd H p (.dT [])) := Same.new hp
  have r0 : Rl K B env (p :: O) σ (upd H p (.dT [])) := r.more s0 hp (by rw [upd_same]; simp) (by rw [upd_same]; nofun)
  refine h (p :: O) σ _ _ r0 fun k x v H1 s1 r1 h2 => h2 (p :: O) σ H1 _ (r0.step s1) fun l y u H2 s2 r2 ⟨hl, ks, key, ex, hk, ek, pp⟩ => ?_
  subst ex
  have j1 := r0.j.step s1
  have j2 := j1.step s2
  obtain ⟨b, ws, rfl, hb, rb⟩ := (r1.mono s2).tup_at r0.j j2 hk
  have := rep_keys ek rb
  subst this
  have hp2 : H2 p = some (.dT []) := s2 _ _ (s1 _ _ upd_same)
  have hbp : b ≠ p := fun z => by rw [z, hp2] at hb; cases hb
  refine ⟨hp2, b, key, rfl, hb, hbp, ?_⟩
  have ry := r2.fz (r0.step s1).j hl
  have b2 : But p H2 (upd H2 p (.dT [(key, u)])) := fun b hb => upd_ne hb
  refine hq .nw _ _ _ (Same.mut ((s0.trans s1).trans s2) hp) ⟨p, _, rfl, hp, upd_same, ?_⟩ pp
  exact .dt (kvs := [(key, u)]) rfl (.cons (ry.mono (fr_but List.mem_cons_self b2)) .nil)
end
section
variable {K : PySem.W.Frag} {B : Bs} {P : Pd}
/-- len of a dict with tuple keys -/
theorem opn_lenT {k : Kd} {kvs : List (List Key × Da)} (hL : B.L = []) (q : P .fz (.int kvs.length)) : OpN K B rLenT [(k, dtp kvs)] P := fun O S H vs Q j0 j1 s r hq => by
  cases r with
  | cons r1 r2 =>
    cases r2
    have h := r1.seen j0 j1
    rw [vw_nil hL] at h
    cases h with
    | dt e k r =>
      refine ⟨_, _, rfl, e, ?_⟩
      have hl := congrArg List.length k
      rw [List.length_map, List.length_map] at hl
      rw [hl]
      exact hq .fz _ _ H (Same.refl _) (.int _) q
end
/-- xs = [.. for k in d]: the dict is locked -/
theorem ps_lockAsg {X : Cx} {st : Stmt} {te : TE} {i : Nat} (h : PS X st (tAsg te (gName i))) : PS X st (tAsg (tLockE te) (gName i)) := ⟨fun pins s σ H D I hw => (ps_lock h).run pins s σ H D I hw⟩
end JP
set_option Elab.async false
set_option linter.all false
set_option maxRecDepth 100000
set_option maxHeartbeats 4000000
/-! a comprehension over range(n) while an exception is handled -/
namespace JPH
open PySem PySem.Spec PyProof.Rows L2 HotX
open L2H (Hot1)
section
variable {X : Cx}
/-- range(n) gives its iterator -/
theorem rng_it {pins : List (Addr × Obj)} {s0 : Shared} {σ : L2.St} {H0 : Hp} {a : Expr} {ta : TA} {q0 q1 : Pos} {R : It → Hp → Prop} (gl : Gl X "range") (no : X.mg "range" = none) (ha : PA X [a] ta) (pl : starEach [a] X.env = [(false, eval a X.env)])
    (I0 : Inv X pins σ H0 s0) (hw : iRng1 ta σ H0 R) :
    wpAny (model X.prog X.w) X.A (eval (.Call (.Name "range" q0) [a] [] q1) X.env) (fun v s1 => wpAny (model X.prog X.w) X.A (pyIter v) (fun r s2 => ∃ (J : Addr) (n : Nat) (H2 : Hp), r = .ref J ∧ Inv X pins σ H2 s2 ∧ IsRangeIter s2.heap J 0 (n : Int) 1 ∧ FpOk X pins H2 J ∧ R (Itr 0 n) H2) X.xe s1) X.xe s0 := by
  refine Call_ (ld_blt I0 gl no boot_range (PyProof.Rows.callWith_type1 (thn (ha.run q1 pins s0 σ H0 _ I0 hw) fun us s1 got => ?_) pl rfl))
  obtain ⟨vs, H1, I1, rv, j, rfl, b1, b2, hR⟩ := got
  cases rv with
  | cons rj rest =>
    cases rest
    obtain ⟨tj, rfl⟩ := rj
    refine call_range_1 ?_
    refine wpAny_pyIter_range (IsRange.new ..) (small_one (by omega) (by omega) b1 b2) ?_
    generalize hg : s1.heap.push { cls := .type "range", data := .fields #[.int 0 _, .int j _, .int 1 _] } = g
    have I2 : ∀ tk : Nat, Inv X pins σ H1 { s1 with heap := g, toks := tk } := fun tk => I1.kept (t' := tk) fun b o e => by rw [← hg]; exact Heap.get?_push_of_some _ e
    refine ⟨g.objs.size, j.toNat, H1, rfl, (I2 0).kept fun b o e => Heap.get?_push_of_some _ e, ?_, (I2 0).fpOk (Nat.le_refl _) ((I2 0).hok.fresh (Nat.le_refl _)), hR⟩
    have e2 : Builtin.Range.rangeSize 0 j 1 = ((j.toNat : Nat) : Int) := by rw [rangeSize_one]; split <;> omega
    rw [← e2]
    exact Heap.get?_push_size _ rfl
/-- [elt for target in range(a) if ..] while p's exception is handled -/
theorem pe_lcH {elt tg a : Expr} {ifs : List Expr} {scope : Scope} {own : List (Str × Nat)} {pos q0 q1 : Pos} {ta : TA} {g : TG} {tt : TT} {te : TE} {p : Addr × Obj} (hp : p ∈ X.pn) (hot : Hot1 X.A p) (gl : Gl X "range") (no : X.mg "range" = none) (ha : PA X [a] ta)
    (nd : X.N.Nodup) (ok : BlkOk X.N X.env.scope scope own)
    (pg : ∀ (s : Shared) (H : Hp) (C : Addr) (cl : List (Str × Addr)) (fp : List Addr), PG (X.blk s H scope (compEnvC scope cl C X.env) fp) tg g)
    (pt : ∀ (s : Shared) (H : Hp) (C : Addr) (cl : List (Str × Addr)) (fp : List Addr), PTs (X.blk s H scope (compEnvC scope cl C X.env) fp) ifs tt)
    (pe : ∀ (s : Shared) (H : Hp) (C : Addr) (cl : List (Str × Addr)) (fp : List Addr), PE (X.blk s H scope (compEnvC scope cl C X.env) fp) elt te)
    (pl : starEach [a] X.env = [(false, eval a X.env)] := by rfl) (st : ∀ x, foldedSetIterable (.Call (.Name "range" q0) [a] [] q1) X.env x = pure x := by intro _; rfl) :
    PE X (.ListComp elt [⟨tg, .Call (.Name "range" q0) [a] [] q1, ifs, 0⟩] scope pos) (tLc (iRng1 ta) g tt te (own.map (·.2))) := by
  refine ⟨fun pins s0 σ H0 Q I0 hw => ?_⟩
  rw [eval_ListComp]
  have cls : ∀ y ∈ scope.names, y.2 = .free → ∃ c, X.env.cells.lookup y.1 = some c := fun y hy e => (ok.free y hy e).elim (fun k => I0.ok.has _ (.inl k)) fun k => I0.ok.has _ (.inr k)
  refine wpAny_comprehension_free (use := none) rfl st (closure_ok cls) ok.kind (fun y hy e => (ok.uniq y hy).trans (congrArg some e)) (thn (rng_it gl no ha pl I0 hw) fun xv s1 it1 => thn it1 fun itv s2 it2 => ?_)
  obtain ⟨J, n, H2, rfl, I2, at2, fj, q⟩ := it2
  refine wpAny_newObj_type (newEnv_comp ?_) (by show 0 ≤ sizeLine; decide)
  have nJ : J < s2.heap.objs.size := Heap.lt_size at2
  obtain ⟨W, ⟨m0, w0⟩, turn⟩ := q s2.heap.objs.size (I2.hok.fresh (Nat.le_refl _))
  have hJ3 : (upd H2 s2.heap.objs.size (.lst [])) J = none := by rw [upd_ne (Nat.ne_of_lt nJ)]; exact fj.1
  have I3 : Inv X pins σ (upd H2 s2.heap.objs.size (.lst [])) { s2 with heap := s2.heap.push { cls := .type "list", data := .seq ([] : List Value).toArray } } :=
    I2.laid (t' := s2.toks) (fun _ _ z => Heap.get?_push_of_some _ z) (Nat.le_refl _) ⟨Nat.zero_le _, [], 0, .nil, Heap.get?_push_size _ rfl⟩
  have at3 : IsRangeIter (s2.heap.push { cls := .type "list", data := .seq ([] : List Value).toArray }) J 0 (n : Int) 1 := Heap.get?_push_of_some _ at2
  generalize s2.heap.objs.size = D at *
  generalize hh3 : s2.heap.push { cls := .type "list", data := .seq ([] : List Value).toArray } = h3 at *
  generalize hs3 : ({ s2 with heap := h3 } : Shared) = s3 at *
  have e3 : s3.heap = h3 := by rw [← hs3]
  have fp3 : ∀ b ∈ [J], FpOk X pins (upd H2 D (.lst [])) b ∧ b < s3.heap.objs.size := fun b hb => by
    obtain rfl := List.mem_singleton.mp hb
    exact ⟨⟨hJ3, fj.2⟩, by rw [e3]; exact Heap.lt_size at3⟩
  have I4 := block_start I3 ok nd fp3
  have hX : (X.blk s3 (upd H2 D (.lst [])) scope (compEnvC scope (cellsFrom (s3.heap.objs.size + 1) scope.names (cloFrom X.env.cells scope.names [])) s3.heap.objs.size X.env) [J]).A = X.A := rfl
  have pgC := pg s3 (upd H2 D (.lst [])) s3.heap.objs.size (cellsFrom (s3.heap.objs.size + 1) scope.names (cloFrom X.env.cells scope.names [])) [J]
  have ptC := pt s3 (upd H2 D (.lst [])) s3.heap.objs.size (cellsFrom (s3.heap.objs.size + 1) scope.names (cloFrom X.env.cells scope.names [])) [J]
  have peC := pe s3 (upd H2 D (.lst [])) s3.heap.objs.size (cellsFrom (s3.heap.objs.size + 1) scope.names (cloFrom X.env.cells scope.names [])) [J]
  have pin3 := I3.pin p (List.mem_append_left _ hp)
  have at4 : IsRangeIter ({ s3 with heap := pushCells (s3.heap.push { cls := .type "dict", data := .dict #[] }) scope.names } : Shared).heap J 0 (n : Int) 1 := pushCells_keeps _ _ _ _ (Heap.get?_push_of_some _ (by rw [e3]; exact at3))
  show codeAny _ _ (.compStart (.ListComp elt [⟨tg, .Call (.Name "range" q0) [a] [] q1, ifs, 0⟩] scope pos) 0 (.ref J) (.ref D) (compEnvC scope (cellsFrom (s3.heap.objs.size + 1) scope.names (cloFrom X.env.cells scope.names [])) s3.heap.objs.size X.env)) (compPost (model X.prog X.w) X.A X.xe none _ (.ref D) s3.heap.objs.size) { s3 with heap := pushCells (s3.heap.push { cls := .type "dict", data := .dict #[] }) scope.names }
  generalize hcE : compEnvC scope (cellsFrom (s3.heap.objs.size + 1) scope.names (cloFrom X.env.cells scope.names [])) s3.heap.objs.size X.env = cE at I4 pgC ptC peC hX ⊢
  have lC : cE.locals = s3.heap.objs.size := by rw [← hcE]; rfl
  generalize hH3 : upd H2 D (.lst []) = H3 at *
  generalize ({ s3 with heap := pushCells (s3.heap.push { cls := .type "dict", data := .dict #[] }) scope.names } : Shared) = s4 at I4 at4 ⊢
  have main : codeAny (model X.prog X.w) X.A (.compLoop (.ListComp elt [⟨tg, .Call (.Name "range" q0) [a] [] q1, ifs, 0⟩] scope pos) 0 (.ref J) (.ref D) cE) (compPost (model X.prog X.w) X.A X.xe none (fun v s' => ∃ x H', Inv X pins σ H' s' ∧ RelV x v ∧ Q x H') (.ref D) s3.heap.objs.size) s4 := by
    refine compLoop_any (fun m s' => ∃ (i : Nat) (H' : Hp), Inv (X.blk s3 H3 scope cE [J]) [] (wipe σ (own.map (·.2))) H' s' ∧ IsRangeIter s'.heap J (0 + (i : Int)) ((n : Int) - (i : Int)) 1 ∧ H' J = none ∧ W i m H') ?_ m0 ⟨0, H3, I4, by rw [show (0 : Int) + ((0 : Nat) : Int) = 0 from rfl, show (n : Int) - ((0 : Nat) : Int) = n from Int.sub_zero _]; exact at4, hJ3, w0⟩
    rintro m s5 ⟨i, H5, I5, at5, f5, w5⟩
    have hotN : HotAt X.A p.1 s5.heap := by
      obtain ⟨hh, vs, v1, v2⟩ := hot
      refine ⟨hh, p.2, vs, I5.base.keep p.1 p.2 pin3.1 pin3.2.1 (fun z => ?_) (fun z => fj.2.2.2.2.2 p (List.mem_append_left _ hp) (List.mem_singleton.mp z)), v1, v2⟩
      have z : p.1 ∈ frs X.stack := z
      rcases I0.ok.stk with e | ⟨e, f⟩
      · rw [e] at z
        exact pin3.2.2.2.1 z
      · rw [e] at z
        obtain ⟨en, he, hf⟩ := List.mem_filterMap.mp z
        rcases List.mem_cons.mp he with rfl | he
        · rw [f] at hf
          exact pin3.2.2.1 (Option.some.inj hf).symm
        · exact pin3.2.2.2.1 (List.mem_filterMap.mpr ⟨en, he, hf⟩)
    have fpB : FpOk (X.blk s3 H3 scope cE [J]) [] H5 J := ⟨f5, (I5.ok.exf J List.mem_cons_self).1, I5.ok.exfs J List.mem_cons_self, .inl List.mem_cons_self, fun x c e => (I5.ok.exf J List.mem_cons_self).2 x c e, fun p hp => absurd (show p ∈ ([] : List (Addr × Obj)) ++ [] from hp) (by simp)⟩
    rcases turn i m H5 w5 with ⟨stop, qq⟩ | ⟨go, Nx, hNx, step⟩
    · refine pyNext_range_end_hot hotN at5 (by have : n ≤ i := stop; omega) fun h6 k6 => ?_
      have I6 : Inv (X.blk s3 H3 scope cE [J]) [] (wipe σ (own.map (·.2))) H5 { s5 with heap := h6 } := I5.kept (t' := s5.toks) k6
      have I7 : Inv X pins σ H5 { s5 with heap := h6 } := I3.call' (ch := [J]) I6.os I6.base I6.hok I6.bare fun b hb => by
        obtain rfl := List.mem_singleton.mp hb
        exact ⟨fj.2.2.2.1, fj.2.1, fj.2.2.2.2.1, fj.2.2.2.2.2⟩
      have nC : H5 s3.heap.objs.size = none := by rw [← lC]; exact I6.free
      obtain ⟨mm, ns, _⟩ := I6.loc
      have ns : h6.Ns cE.locals mm := ns
      rw [lC] at ns
      obtain ⟨g0, g1, g2, g3, g4, g5⟩ := I3.fpOk (Nat.le_refl _) nC
      exact ⟨mm, ns, fun h7 sb => ⟨.ref D, H5, I7.turned (t' := s5.toks) (fun b o hb e => (sb.2 b hb).trans e) g0 g1 g3 g4 g5, rfl, qq⟩⟩
    · refine wpAny_pyNext_range_item at5 (by have : i < n := go; omega) fun h6 at6 sb6 => ?_
      obtain ⟨g0, g1, g2, g3, g4, g5⟩ := fpB
      have I6 : Inv (X.blk s3 H3 scope cE [J]) [] (wipe σ (own.map (·.2))) H5 { s5 with heap := h6, toks := s5.toks + 1 } := I5.turned (fun b o hb e => (sb6.2 b hb).trans e) g0 g1 g3 g4 g5
      refine go_of (s := { s5 with heap := h6, toks := s5.toks + 1 }) (n := "range_iterator") at6 rfl rfl (by decide) ?_
      have I6' := I6.pinned (fp := [J]) (fun b hb => by obtain rfl := List.mem_singleton.mp hb; exact ⟨g0, g1, g2, g3, g4, g5⟩) (fun b hb => by obtain rfl := List.mem_singleton.mp hb; exact ⟨_, at6, fun v z => by have z' : Data.fields _ = Data.cell v := z; cases z'⟩)
      have rel : RelV (.int (0 + (i : Int))) (.int (0 + (i : Int)) s5.toks) := ⟨_, rfl⟩
      refine thnF (pgC.run _ _ _ H5 _ _ _ I6' rel (step _ H5 ⟨rfl, rfl⟩)) fun _ s8 ⟨σ8, H8, I8, w8, q8⟩ => ?_
      refine thnF (ptC.run _ s8 σ8 H8 _ I8 q8) fun b s9 ⟨H9, I9, q9⟩ => ?_
      have close : ∀ {s' : Shared} {H' : Hp}, Inv (X.blk s3 H3 scope cE [J]) ([] ++ pinsAt [J] h6) σ8 H' s' → Nx H' → ∃ k, k < m ∧ ∃ (i : Nat) (H' : Hp), Inv (X.blk s3 H3 scope cE [J]) [] (wipe σ (own.map (·.2))) H' s' ∧ IsRangeIter s'.heap J (0 + (i : Int)) ((n : Int) - (i : Int)) 1 ∧ H' J = none ∧ W i k H' := fun {s' H'} Iz nx => by
        obtain ⟨k, hk, wk⟩ := hNx H' nx
        have held := Iz.pin (J, _) (List.mem_append_right _ (List.mem_append_right _ (mem_pinsAt List.mem_cons_self at6)))
        have eqs : (0 : Int) + (i : Int) + 1 = 0 + ((i + 1 : Nat) : Int) ∧ (n : Int) - (i : Int) - 1 = (n : Int) - ((i + 1 : Nat) : Int) := ⟨by omega, by omega⟩
        refine ⟨k, hk, i + 1, H', (Iz.unpinned (pins := [])).weak (by rw [← w8, wipe_length]) (fun j v e => ?_), ?_, held.2.1, wk⟩
        · rw [← w8] at e
          exact (wipe_some e).1
        · rw [← eqs.1, ← eqs.2]
          exact held.1
      cases b with
      | false =>
        simp only [Bool.false_eq_true, if_false] at q9 ⊢
        exact close I9 q9
      | true =>
        simp only [if_true] at q9 ⊢
        refine thnF (peC.run _ s9 σ8 H9 _ I9 q9) fun z s10 ⟨y, H10, I10, ry, acc, eD, zD, nx⟩ => ?_
        exact app_ok (X := X.blk s3 H3 scope cE [J]) I10 eD zD ry fun s11 I11 => close I11 nx
  exact codeAny_compStart_list main (wpAny_pyIter_rangeiter at4 main)
end
end JPH
set_option Elab.async false
set_option linter.all false
set_option maxRecDepth 100000
set_option maxHeartbeats 4000000
/-! errors as values: made, asked for their class and their fields -/
namespace JPX
open PySem PySem.Spec PyProof.Rows L2 JP
section
variable {X : Cx}
/-- C(e, ..), C's own __init__ keeping sp; the error is a value -/
def tMkV (C : Addr) (sp : Sp) (ta : TA) : TE := fun σ H Q => ta σ H fun vs H1 => vs.length ≤ 1000 ∧ ∀ a, H1 a = none → sp (.ref a :: vs) (upd H1 a (exo a C none)) (fun v H2 => v = .non ∧ Q (.ref a) H2) (fun _ _ _ => False)
theorem pe_mkV {CX : CXT} {e : Expr} {es : List Expr} {ta : TA} {x : Str} {C fI : Addr} {k : Nat} {fd : FuncData} {ps : List Str} {sp : Sp} {p pos : Pos} (T : OexC X.K C) (iC : PySem.W.findIn X.K (.ref C) "__init__" = some (some (.ref fI))) (tI : PySem.W.typeIn X.K (.ref fI) = some (.type "function"))
    (fo : FnOk X.prog X.w X.K X.mg X.base CX k fI fd ps sp) (hr : Room (k + 1) X.A) (hb : Binds X.K fd ps []) (hx : Passes CX X (fun _ _ _ => False)) (gl : Gl X x) (gC : X.mg x = some (.ref C)) (ha : PA X (e :: es) ta)
    (db : (x == ("__debug__" : Str)) = false := by decide) (st : starEach (e :: es) X.env = (false, eval e X.env) :: starEach es X.env := by rfl) (pl : (backTo pos (starEach es X.env)).any (·.1) = false := by rfl) :
    PE X (.Call (.Name x p) (e :: es) [] pos) (tMkV C sp ta) := by
  refine ⟨fun pins s σ H Q I hw => wpAny_Call_Name_kw (ld_glob I gl gC ?_ db)⟩
  refine PySem.W.callWith_K (h₀ := X.base) I.ok.mod.kin T.kC (thn (ha.run pos pins s σ H _ I hw) fun us s1 ⟨vs, H1, I1, rv, lv, q⟩ => ⟨I1.kIn, ?_⟩) st pl
  obtain ⟨nm, qn, N, bs, bm, sn, sub, ab, col, dd, k0, k1, k2, k3, k5, hC, hbm⟩ := T.cls
  show wpAny _ _ (call (.ref C) us) _ _ _
  obtain ⟨hp, g, dr, tk, os⟩ := s1
  have big : hp.objs.size ≤ hp.objs.size + 1 := Nat.le_succ _
  have q := q (hp.objs.size + 1) (I1.hok.fresh big)
  have keep : ∀ b o, hp.get? b = some o → ((hp.push (PySem.W.kdv_tup us)).push (PySem.HandSPX.excO C hp.objs.size)).get? b = some o := fun _ _ z => Heap.get?_push_of_some _ (Heap.get?_push_of_some _ z)
  have I2 : Inv X pins σ (upd H1 (hp.objs.size + 1) (exo (hp.objs.size + 1) C none)) ⟨(hp.push (PySem.W.kdv_tup us)).push (PySem.HandSPX.excO C hp.objs.size), g, dr, tk, os⟩ :=
    I1.laid (t' := tk) keep big (exo_ok (by heap_get))
  have r2 : Vals (V.ref (hp.objs.size + 1) :: vs) (Value.ref (hp.objs.size + 1) :: us) := .cons rfl rv
  have len2 : (Value.ref (hp.objs.size + 1) :: us).length = ps.length := r2.length.symm.trans (fo.len _ _ _ _ q)
  have b := hb _ (Value.ref (hp.objs.size + 1) :: us) I2.kIn (by rw [List.append_nil]; exact len2)
  rw [List.append_nil] at b
  refine wpAny_call (PySem.HandSPX.call_own PySem.F.excBase_ValueError (fun Y => PySem.HandSPX.refsVE_contains Y bm hbm) (I1.kIn _ _ hC) (PySem.W.looks_findIn I1.kIn iC) (fun self => PySem.W.bind_fn I1.kIn self tI) (by rw [← Paired.length rv, sizeLine_eq]; omega)
    (codeAny_mono (fo.run _ X.stack _ _ ⟨Value.ref (hp.objs.size + 1) :: us, []⟩ (Value.ref (hp.objs.size + 1) :: us) _ _ (fun _ _ _ => False) (hr.make C us []) (I2.env0.make C us []) b r2 q) fun r s' out => ?_))
  cases r with
  | error er => exact hx pins σ _ _ er s' I2 out
  | ok fl =>
    cases fl with
    | ret u =>
      obtain ⟨v, H2, J, ru, ev, q2⟩ := I2.after out
      subst ev
      exact ⟨ru, .ref _, H2, J, rfl, q2⟩
    | next => exact False.elim out
    | brk => exact False.elim out
    | cont => exact False.elim out
/-- C(e, ..), C's own __init__ keeping sp; the error is about to be raised -/
def tMkR (C : Addr) (sp : Sp) (ta : TA) : L2.St → Hp → XK → Prop := fun σ H Q => ta σ H fun vs H1 => vs.length ≤ 1000 ∧ ∀ a, H1 a = none → sp (.ref a :: vs) (upd H1 a (exo a C none))
  (fun v H2 => v = .non ∧ ∃ (d : Addr) (fs : List (Str × V)), H2 a = some (exo a C (some d)) ∧ H2 d = some (exd d fs) ∧ H1 d = none ∧ Q (.ref C) (some d) (upd (del H2 a) d (.xd fs))) (fun _ _ _ => False)
theorem pmk_mkR {CX : CXT} {e : Expr} {es : List Expr} {ta : TA} {x : Str} {C fI : Addr} {k : Nat} {fd : FuncData} {ps : List Str} {sp : Sp} {p pos : Pos} (T : OexC X.K C) (iC : PySem.W.findIn X.K (.ref C) "__init__" = some (some (.ref fI))) (tI : PySem.W.typeIn X.K (.ref fI) = some (.type "function"))
    (fo : FnOk X.prog X.w X.K X.mg X.base CX k fI fd ps sp) (hr : Room (k + 1) X.A) (hb : Binds X.K fd ps []) (hx : Passes CX X (fun _ _ _ => False)) (gl : Gl X x) (gC : X.mg x = some (.ref C)) (ha : PA X (e :: es) ta)
    (db : (x == ("__debug__" : Str)) = false := by decide) (st : starEach (e :: es) X.env = (false, eval e X.env) :: starEach es X.env := by rfl) (pl : (backTo pos (starEach es X.env)).any (·.1) = false := by rfl) :
    L2N.PMk X (.Call (.Name x p) (e :: es) [] pos) (tMkR C sp ta) := by
  intro pins s σ H Q I hw
  refine wpAny_Call_Name_kw (ld_glob I gl gC ?_ db)
  refine PySem.W.callWith_K (h₀ := X.base) I.ok.mod.kin T.kC (thn (ha.run pos pins s σ H _ I hw) fun us s1 ⟨vs, H1, I1, rv, lv, q⟩ => ⟨I1.kIn, ?_⟩) st pl
  obtain ⟨nm, qn, N, bs, bm, sn, sub, ab, col, dd, k0, k1, k2, k3, k5, hC, hbm⟩ := T.cls
  show wpAny _ _ (call (.ref C) us) _ _ _
  obtain ⟨hp, g, dr, tk, os⟩ := s1
  have big : hp.objs.size ≤ hp.objs.size + 1 := Nat.le_succ _
  have q := q (hp.objs.size + 1) (I1.hok.fresh big)
  have keep : ∀ b o, hp.get? b = some o → ((hp.push (PySem.W.kdv_tup us)).push (PySem.HandSPX.excO C hp.objs.size)).get? b = some o := fun _ _ z => Heap.get?_push_of_some _ (Heap.get?_push_of_some _ z)
  have I2 : Inv X pins σ (upd H1 (hp.objs.size + 1) (exo (hp.objs.size + 1) C none)) ⟨(hp.push (PySem.W.kdv_tup us)).push (PySem.HandSPX.excO C hp.objs.size), g, dr, tk, os⟩ :=
    I1.laid (t' := tk) keep big (exo_ok (by heap_get))
  have r2 : Vals (V.ref (hp.objs.size + 1) :: vs) (Value.ref (hp.objs.size + 1) :: us) := .cons rfl rv
  have len2 : (Value.ref (hp.objs.size + 1) :: us).length = ps.length := r2.length.symm.trans (fo.len _ _ _ _ q)
  have b := hb _ (Value.ref (hp.objs.size + 1) :: us) I2.kIn (by rw [List.append_nil]; exact len2)
  rw [List.append_nil] at b
  refine wpAny_call (PySem.HandSPX.call_own PySem.F.excBase_ValueError (fun Y => PySem.HandSPX.refsVE_contains Y bm hbm) (I1.kIn _ _ hC) (PySem.W.looks_findIn I1.kIn iC) (fun self => PySem.W.bind_fn I1.kIn self tI) (by rw [← Paired.length rv, sizeLine_eq]; omega)
    (codeAny_mono (fo.run _ X.stack _ _ ⟨Value.ref (hp.objs.size + 1) :: us, []⟩ (Value.ref (hp.objs.size + 1) :: us) _ _ (fun _ _ _ => False) (hr.make C us []) (I2.env0.make C us []) b r2 q) fun r s' out => ?_))
  cases r with
  | error er => exact hx pins σ _ _ er s' I2 out
  | ok fl =>
    cases fl with
    | ret u =>
      obtain ⟨v, H2, o2, bare, un, hok, ru, ev, d, fs, ea, ed, nd, q2⟩ := out
      subst ev
      obtain ⟨h2, g2, d2, t2, os'⟩ := s'
      obtain ⟨t0, G, J, kG, ge, hoe, na⟩ := mk_end0 (d2 := d2) (t2 := t2) I1 big keep un hok o2 bare ea ed nd
      exact ⟨ru, ⟨hp.objs.size + 1, _, _, ⟨G, g2, d2, t2, os'⟩, _, .ref C, some d, rfl, J, kG, ge, hoe, ⟨rfl, rfl, fun vs hv => by cases hv; rfl⟩, rfl, rfl, na, rfl, bare, raises_own T.exC T.tyC, q2⟩⟩
    | next => exact False.elim out
    | brk => exact False.elim out
    | cont => exact False.elim out
/-- C(), an own class without own __init__; the error is a value -/
def tMk0 (C : Addr) : TE := fun _ H Q => ∀ a, H a = none → Q (.ref a) (upd H a (ExO (.ref C) a))
theorem pe_mk0 {C : Addr} {bmB : List Value} {B newId initId : String} {x : Str} {p pos : Pos} (ff : ExcBaseFacts B newId initId bmB) (q : PySem.W.excIn X.K C bmB newId = true) (gC : X.mg x = some (.ref C)) (kC : PySem.W.keepIn X.K (.ref C) = true) (gl : Gl X x)
    (db : (x == ("__debug__" : Str)) = false := by decide) : PE X (.Call (.Name x p) [] [] pos) (tMk0 C) := by
  refine ⟨fun pins s σ H Q I hw => wpAny_Call_Name_kw (ld_glob I gl gC ?_ db)⟩
  refine PySem.W.callWith_K0 I.kIn kC ?_
  show wpAny _ _ (call (.ref C) []) _ _ _
  obtain ⟨bm, N, nm, qn, bs, hdct, sn, sub, ab, col, dd, k0, k1, k2, k3, k5, mN, hC, hN, hni, T⟩ := exc_obj I.kIn q
  refine wpAny_call_exc_subT ff T hC hN hni (fun h' e hm => ?_) (Nat.zero_le _)
  have none1 : H e = none := I.hok.gone hm.new
  obtain ⟨t, ht, _, _⟩ := hm.there
  exact ⟨.ref e, upd H e (ExO (.ref C) e), I.laidN hm.keeps hm.new none1 (exO_ok ht ⟨rfl, rfl⟩ rfl rfl rfl (show 4 < 6 by decide)), rfl, hw e none1⟩
theorem exAt_inst {pins : List (Addr × Obj)} {σ : L2.St} {H : Hp} {s : Shared} {a C : Addr} {fs : List (Str × V)} (h : ExAt H a C fs) (I : Inv X pins σ H s) : ∃ ox od, PySem.W.InstAt s.heap a ox C od := by
  rcases h with ⟨_, h⟩ | ⟨d, h1, h2⟩
  · obtain ⟨⟨oe, vs, e1, z, dd, _⟩, _⟩ := I.hok a _ h
    refine ⟨oe, none, e1, z.1, by unfold PySem.W.notCls; rw [dd] <;> rfl, by rw [z.2]; trivial⟩
  · obtain ⟨t1, e1⟩ := exo_at I.hok h1
    obtain ⟨mA, ns, _⟩ := exd_at I.hok h2
    obtain ⟨od, ho, _⟩ := lookIn_ns ns
    exact ⟨_, some od, e1, rfl, rfl, ho⟩
theorem kitE {K : PySem.W.Frag} {D x : Addr} {ox : Obj} {od : Option Obj} (C : ExcC K D) : PySem.W.KitX K (.ref x) (.ref D) (fun h => PySem.W.InstAt h x ox D od) :=
  PySem.W.kitx_exc (by obtain ⟨cd, hc, _⟩ := PySem.W.any_some C.hd; rw [hc]; rfl) C.hg C.hk C.hs C.ha C.hn C.ht C.hm
/-- isinstance(e, c), e an error as a value -/
def rIsV (K : PySem.W.Frag) : List V → Hp → VK → Prop := fun xs H Q => ∃ (a C : Addr) (fs : List (Str × V)) (c : V) (cv : Value) (b : Bool), xs = [.ref a, c] ∧ ExAt H a C fs ∧ ExcC K C ∧ (∀ u, RelV c u → u = cv) ∧ PySem.W.kitOne K (.ref C) cv = some b ∧ Q (.bl b) H
theorem call_isV : CallR X (.builtin "isinstance") (rIsV X.K) := by
  intro pins s σ H xs us Q I r h
  obtain ⟨a, C, fs, c, cv, b, rfl, hE, hC, hcv, e, q⟩ := h
  obtain ⟨u1, u2, rfl, r1, r2⟩ := vals2 r
  cases (show u1 = Value.ref a from r1)
  have ec := hcv _ r2
  subst ec
  obtain ⟨ox, od, J⟩ := exAt_inst hE I
  exact PySem.W.kia_one (kitE hC) I.kIn J e (fun z => nomatch z) fun tk => ⟨.bl b, H, I.kept (t' := tk) fun _ _ z => z, rfl, q⟩
/-- isinstance(e, c), e the caught error, whose dict (if it has one) is read -/
def rIsC (K : PySem.W.Frag) (cls : Value) (d : Option Addr) (a : Addr) : List V → Hp → VK → Prop := fun xs H Q => ∃ (D : Addr) (c : V) (cv : Value) (b : Bool), xs = [.ref a, c] ∧ cls = .ref D ∧ (∀ x, d = some x → ∃ fs, H x = some (.xd fs)) ∧ ExcC K D ∧ (∀ u, RelV c u → u = cv) ∧ PySem.W.kitOne K (.ref D) cv = some b ∧ Q (.bl b) H
theorem call_isC {a : Addr} {oe : Obj} {cls : Value} {d : Option Addr} (hp : (a, oe) ∈ X.pn) (hz : Zc cls d oe) (hf : ∃ vs, oe.data = .fields vs) : CallR X (.builtin "isinstance") (rIsC X.K cls d a) := by
  intro pins s σ H xs us Q I r h
  obtain ⟨D, c, cv, b, rfl, rfl, hd, hC, hcv, e, q⟩ := h
  obtain ⟨u1, u2, rfl, r1, r2⟩ := vals2 r
  cases (show u1 = Value.ref a from r1)
  have ec := hcv _ r2
  subst ec
  obtain ⟨hget, _⟩ := I.pin (a, oe) (List.mem_append.mpr (.inl hp))
  obtain ⟨vs, hv⟩ := hf
  have nc : PySem.W.notCls oe = true := by unfold PySem.W.notCls; rw [hv] <;> rfl
  cases d with
  | none =>
    exact PySem.W.kia_one (kitE (od := none) hC) I.kIn ⟨hget, hz.1, nc, by rw [hz.2]; trivial⟩ e (fun z => nomatch z) fun tk => ⟨.bl b, H, I.kept (t' := tk) fun _ _ z => z, rfl, q⟩
  | some x =>
    obtain ⟨fs, hx⟩ := hd x rfl
    have hx : ObjOk X.prog X.w H s.heap x (.xd fs) := I.hok x _ hx
    obtain ⟨mA, ns, _⟩ := hx
    obtain ⟨od, ho, _⟩ := lookIn_ns ns
    exact PySem.W.kia_one (kitE (od := some od) hC) I.kIn ⟨hget, hz.1, nc, by rw [hz.2]; exact ho⟩ e (fun z => nomatch z) fun tk => ⟨.bl b, H, I.kept (t' := tk) fun _ _ z => z, rfl, q⟩
/-- e.f, e an error as a value -/
def tXv (K : PySem.W.Frag) (n : Str) (te : TE) : TE := fun σ H Q => te σ H fun x H1 => ∃ (a C d : Addr) (fs : List (Str × V)) (v : V), x = .ref a ∧ H1 a = some (exo a C (some d)) ∧ H1 d = some (exd d fs) ∧ XfC K C ∧ PySem.W.findIn K (.ref C) n = some none ∧ fs.lookup n = some v ∧ Q v H1
theorem pe_xv {e : Expr} {te : TE} {pos : Pos} {n : Str} (he : PE X e te) (hb : attributeBase e n X.env (eval e X.env) = eval e X.env := by rfl) : PE X (.Attribute e n pos) (tXv X.K n te) := by
  refine ⟨fun pins s σ H Q I h => attr_of hb (thn (he.run pins s σ H _ I h) fun u s1 hh => ?_)⟩
  obtain ⟨x, H1, I1, rx, a, C, d, fs, v, rfl, e1, e2, T, hno, l, q⟩ := hh
  obtain rfl : u = Value.ref a := rx
  obtain ⟨t1, g1⟩ := exo_at I1.hok e1
  obtain ⟨mA, ns, hr⟩ := exd_at I1.hok e2
  obtain ⟨od, ho, hl⟩ := lookIn_ns ns
  obtain ⟨u, hu, ru⟩ := RelO.some_of (v := v) (o := mA n) (by rw [← l]; exact hr n)
  exact HandSPX.exc_get I1.kIn ⟨g1, rfl, rfl, ho⟩ T.ga T.gg T.exC (PySem.W.findObj_own T.hdC hno rfl (by rw [hl, hu])) (handed_of ru) ⟨v, H1, I1.tok _, ru, q⟩
end
end JPX
set_option Elab.async false
set_option linter.all false
set_option maxRecDepth 100000
set_option maxHeartbeats 4000000
/-! several except clauses that bind the error to one name -/
namespace JPX
open PySem PySem.Spec PyProof.Rows L2
open L2N (Zn)
/-- the clauses one after the other, nothing else comes -/
def wAll (K : PySem.W.Frag) (i : Nat) (D : Ends) : List (Value × (Addr → Value → Option Addr → TS)) → WX
  | [] => fun _ _ _ _ => False
  | (c, ts) :: r => wAs K c i ts (wAll K i D r) D
inductive Clauses (X : Cx) (n : Str) : List ExceptHandler → List (Value × (Addr → Value → Option Addr → TS)) → Prop
  | nil : Clauses X n [] []
  | cons {x : Str} {c : Value} {ts : Addr → Value → Option Addr → TS} {b1 : Stmt} {bs : List Stmt} {p1 p2 : Pos} {hs : List ExceptHandler} {l : List (Value × (Addr → Value → Option Addr → TS))} (nm : Names X x c)
      (su : ∀ (a : Addr) (oe : Obj) (cls : Value) (d : Option Addr) (pn : List (Addr × Obj)), Zn cls d oe → (∃ vs, oe.data = .fields vs) → PSs (X.suite a ((a, oe) :: pn)) (b1 :: bs) (ts a cls d)) (rest : Clauses X n hs l) :
      Clauses X n (.ExceptHandler (some (.Name x p1)) (some n) (b1 :: bs) p2 :: hs) ((c, ts) :: l)
section
variable {X : Cx} {n : Str} {i : Nat} {body : List Stmt} {hd1 : ExceptHandler} {hds : List ExceptHandler} {l : List (Value × (Addr → Value → Option Addr → TS))} {pos : Pos} {tb : WX → TS}
theorem ps_try_all (st : X.stack = X.env :: X.outer) (fr : X.env.frame = some X.env.locals) (nd : X.N.Nodup) (hi : X.N[i]? = some n) (hl : X.env.kindOf n = some .local)
    (hb : ∀ (W : WX) (pn : List (Addr × Obj)) (xe : Value → Shared → Prop), L2N.Takes (X.tr pn xe) W → PassesOwn (model X.prog X.w) X.A X.env xe → PSs (X.tr pn xe) body (tb W)) (cl : Clauses X n (hd1 :: hds) l) :
    PS X (.Try body (hd1 :: hds) [] [] pos) (fun D σ H => tb (wAll X.K i D l) D σ H) := by
  refine ⟨fun pins s0 σ H D I hw => wpAny_Try_except ?_⟩
  have okI := I.ok
  have frm : X.A.frames = some (X.env :: X.outer) := okI.frames.trans (congrArg some st)
  refine wpAny_mono ((hb (wAll X.K i D l) (X.pn ++ pins) (fun e s1 => wpAny (model X.prog X.w) X.A (noteFrame e X.env) (fun _ s2 => wpAny (model X.prog X.w) X.A (setFlight e none) (fun _ s3 =>
    wpAny (model X.prog X.w) X.A (handleBy e X.env (hd1 :: hds)) (SP X pins D) X.xe s3) X.xe s2) X.xe s1) (fun u s' got => ?_) PassesOwn.looking).run [] s0 σ H D (I.toTry _) hw) (fun f s1 ends => ?_) (fun e s1 he => he)
  · obtain ⟨a, B, sI, pins', σ', H', cls, d, rfl, Jt, nb, up, sky, na, os, ag, wish⟩ := got
    have J := Jt.ofTry okI
    rw [st] at sky
    show wpAny (model X.prog X.w) X.A (noteFrame (.ref a) X.env) _ _ _
    refine L2N.Sky.land Zn.steady frm fr sky fun h3 fl3 up3 => ?_
    have J3 : Inv X pins σ' H' { s' with heap := h3 } := J.landed nb fl3.1 (up.trans up3) os ag
    obtain ⟨oe3, vs3, he3, hz3, hd3⟩ := fl3.there
    have far : a ∉ frs (X.env :: X.outer) := fun hm => by
      obtain ⟨_, o', e', no⟩ := fl3.2.2.1.mem hm
      rw [he3] at e'
      cases e'
      exact no _ hd3
    have farL : a ≠ X.env.locals := fun z => far (List.mem_filterMap.mpr ⟨X.env, List.mem_cons_self, by rw [fr, z]⟩)
    have farF : a ∉ X.fs := fun hm => by
      obtain ⟨e, he, q⟩ := List.mem_filterMap.mp hm
      exact far (List.mem_filterMap.mpr ⟨e, List.mem_cons_of_mem _ he, q⟩)
    have S3 := J3.suite he3 hd3 na farL farF
    have turn : ∀ {hs : List ExceptHandler} {l' : List (Value × (Addr → Value → Option Addr → TS))}, Clauses X n hs l' → wAll X.K i D l' cls d σ' H' → wpAny (model X.prog X.w) X.A (handleBy (.ref a) X.env hs) (SP X pins D) X.xe { s' with heap := h3 } := by
      intro hs l' cl'
      induction cl' with
      | nil => exact fun z => z.elim
      | @cons x c ts b1 bs p1 p2 hs l' nm su rest ih =>
        rintro ⟨b, same, yes, no⟩
        refine wpAny_handleBy_cons (codeAny_handlers_test ?_) nofun
        have ty : PySem.W.Looks (model X.prog X.w) h3 (typeOf (.ref a)) cls := fun A Q E s k q => wpAny_typeOf_ref (k _ _ he3) (by rw [hz3.1]; exact q)
        have ask := PySem.W.exm_one (M := model X.prog X.w) J3.kIn ty same
        have name : ∀ {Q : Value → Shared → Prop} {E : Value → Shared → Prop}, Q c { s' with heap := h3 } → wpAny (model X.prog X.w) (X.A.mark (some (.ref a))) (eval (.Name x p1) X.env) Q E { s' with heap := h3 } := fun {Q E} q => by
          obtain ⟨gl, db, m | ⟨m, v, ne⟩⟩ := nm
          · exact ld_glob (X := X.suite a ((a, oe3) :: (X.pn ++ pins))) S3 gl m q db
          · exact ld_blt (X := X.suite a ((a, oe3) :: (X.pn ++ pins))) S3 gl m v q ne db
        refine name (ask.here ?_)
        cases b with
        | false =>
          show wpAny _ X.A (handleBy (.ref a) X.env hs) _ _ _
          exact ih (no rfl)
        | true =>
          refine codeAny_handlers_suite_as (HandSPX.lands_againZ fl3 fun h4 fl4 up4 => ?_)
          have J4 : Inv X pins σ' H' { s' with heap := h4 } := J.landed nb fl4.1 ((up.trans up3).trans up4) os ag
          obtain ⟨oe4, vs4, he4, hz4, hd4⟩ := fl4.there
          have S4 := J4.suite he4 hd4 na farL farF
          refine store_ok (X := X.suite a ((a, oe4) :: (X.pn ++ pins))) (v := .ref a) S4 nd hi (.inl hl) rfl (fun s5 S5 => ?_) (.inr hl)
          refine wpAny_mono ((su a oe4 cls d (X.pn ++ pins) hz4 ⟨_, hd4⟩).run [] s5 _ H' _ S5 (yes rfl a na)) (fun f s6 ends => ?_) (fun _ _ z => False.elim z)
          have gone : ∀ {σ6 : L2.St} {H6 : Hp} {Q : Shared → Prop}, Inv (X.suite a ((a, oe4) :: (X.pn ++ pins))) [] σ6 H6 s6 → (∀ s7, Inv X pins (σ6.set i none) H6 s7 → Q s7) →
              wpAny (model X.prog X.w) X.A (do bindName X.env n .none; unbindBehindTheSuite X.env n p2) (fun _ s7 => Q s7) X.xe s6 := fun {σ6 H6 Q} S6 hq => gone_ok (S6.unsuite okI) nd hi hl hq
          cases f with
          | ret u => obtain ⟨v6, σ6, H6, S6, r6, q6⟩ := ends; exact gone S6 fun s7 J7 => ⟨_, _, _, J7, r6, q6⟩
          | next => obtain ⟨σ6, H6, S6, q6⟩ := ends; exact gone S6 fun s7 J7 => ⟨_, _, J7, q6⟩
          | brk => obtain ⟨σ6, H6, S6, q6⟩ := ends; exact gone S6 fun s7 J7 => ⟨_, _, J7, q6⟩
          | cont => obtain ⟨σ6, H6, S6, q6⟩ := ends; exact gone S6 fun s7 J7 => ⟨_, _, J7, q6⟩
    exact turn cl wish
  · cases f with
    | ret u => obtain ⟨v, σ', H', Jt, r, q⟩ := ends; exact ⟨v, σ', H', Jt.ofTry okI, r, q⟩
    | next => obtain ⟨σ', H', Jt, q⟩ := ends; exact wpAny_execs_nil ⟨σ', H', Jt.ofTry okI, q⟩
    | brk => obtain ⟨σ', H', Jt, q⟩ := ends; exact ⟨σ', H', Jt.ofTry okI, q⟩
    | cont => obtain ⟨σ', H', Jt, q⟩ := ends; exact ⟨σ', H', Jt.ofTry okI, q⟩
end
end JPX
set_option Elab.async false
set_option linter.all false
set_option maxRecDepth 100000
set_option maxHeartbeats 4000000
/-! errors as data -/
namespace JP
open PySem PySem.Spec PyProof.Rows L2 JPX
/-! ### what the written part says of a class with an __init__ -/
theorem oexB_ok {K : PySem.W.Frag} {C : Addr} (h : oexB K C = true) : OexC K C := by
  obtain ⟨h1, h⟩ := He.ba h
  obtain ⟨h2, h⟩ := He.ba h
  obtain ⟨h3, h⟩ := He.ba h
  obtain ⟨h4, h5⟩ := He.ba h
  refine ⟨?_, of_decide_eq_true h2, of_decide_eq_true h3, of_decide_eq_true h4, h5⟩
  split at h1
  · rename_i dd cd sl ho
    split at h1
    · rename_i C' bm k0 k1 k2 k3 n k5 hm hs
      simp only [Bool.and_eq_true, beq_iff_eq, Bool.not_eq_true'] at h1
      obtain ⟨⟨⟨⟨rfl, rfl⟩, hdel⟩, hdi⟩, hr⟩ := h1
      obtain ⟨nm, bs, mro, ns, qn, hd, sn, sub, ab, col, del⟩ := cd
      dsimp only at hm hdel hdi
      subst hm hdel hdi
      have hsl : sl = #[k0, k1, k2, k3, some (.builtin "ValueError.__new__"), k5] := by
        rw [← hs]
      exact ⟨nm, qn, ns, bs, bm, sn, sub, ab, col, dd, k0, k1, k2, k3, k5, by rw [ho, hsl], hr⟩
    · cases h1
  · cases h1
/-- the __init__ of the class C stands there -/
structure AtI (K : PySem.W.Frag) (nm : Str) (st : Stmt) (qual : Str) : Prop where
  ex : ∃ fd, FunD K "__init__" qual (defArgs st) (defBody st) (defScope st) [] [] (He.ma K (He.ga K nm) "__init__") fd
  ic : PySem.W.findIn K (.ref (He.ga K nm)) "__init__" = some (some (.ref (He.ma K (He.ga K nm) "__init__")))
  ty : PySem.W.typeIn K (.ref (He.ma K (He.ga K nm) "__init__")) = some (.type "function")
  oc : OexC K (He.ga K nm)
/-- what an __init__ that keeps its arguments does -/
def spI (C : Addr) (ns : List Str) : Sp := fun vs H Q _ => ∃ (a : Addr) (ys : List V), vs = .ref a :: ys ∧ ys.length = ns.length ∧ H a = some (exo a C none) ∧
  ∀ d H2, H d = none → H2 a = some (exo a C (some d)) → H2 d = some (exd d (ns.zip ys).reverse) → (∀ b, b ≠ a → b ≠ d → H2 b = H b) → Q .non H2
/-- the class nm, made by its own __init__ -/
structure DefI (P : Program) (w : World) (K : PySem.W.Frag) (mg : Str → Option Value) (base : Heap) (nm : Str) (ps ns : List Str) : Prop where
  ex : ∃ fd, PySem.W.findIn K (.ref (He.ga K nm)) "__init__" = some (some (.ref (He.ma K (He.ga K nm) "__init__"))) ∧ PySem.W.typeIn K (.ref (He.ma K (He.ga K nm) "__init__")) = some (.type "function") ∧
    FnOk P w K mg base (L2N.CX P w) 1 (He.ma K (He.ga K nm) "__init__") fd ps (spI (He.ga K nm) ns) ∧ Binds K fd ps []
  oc : OexC K (He.ga K nm)
theorem DefI.of {P : Program} {w : World} {K : PySem.W.Frag} {mg : Str → Option Value} {base : Heap} {nm qual : Str} {st : Stmt} {N ps ns : List Str} (h : AtI K nm st qual) (S : FnScope N ps (defScope st))
    (hbind : ∀ (kV doc pm : Value) (an : Option Addr) (cdv ct : Value) (us : List Value), us.length = ps.length → bindArgs (PySem.W.fnOf "__init__" qual (defArgs st) (defBody st) (defScope st) .none kV doc pm an cdv ct) ⟨us, []⟩ = pure (ps.zip us))
    (len : ps.length = ns.length + 1)
    (hbody : ∀ (cdv : Value) (A : Around) (outer : List Env) (s : Shared) (H : Hp) (vs : List V) (Q : VK) (E : XK), Room 0 (A.deeper (envOfC qual (defScope st) s.heap.objs.size (He.ma K (He.ga K nm) "__init__") cdv)) → spI (He.ga K nm) ns vs H Q E →
      ∃ t, PSs (cxOf (L2N.CX P w) P w K mg base N qual (defScope st) (He.ma K (He.ga K nm) "__init__") cdv A outer s H E) (defBody st) t ∧ t { nx := fun _ H' => Q .non H', rt := Q } (start N vs) H) : DefI P w K mg base nm ps ns := by
  obtain ⟨fd, F⟩ := h.ex
  refine ⟨⟨fd, h.ic, h.ty, F.ok S (fun vs H Q E z => ?_) hbody, F.bindsN hbind⟩, h.oc⟩
  obtain ⟨a, ys, rfl, e, _⟩ := z
  rw [List.length_cons, e, len]
/-! ### making them -/
section
variable {X : Cx} {nm : Str} {ps ns : List Str} {p pos : Pos} {e : Expr} {es : List Expr} {t : TA}
theorem pe_mkD (d : DefI X.prog X.w X.K X.mg X.base nm ps ns) (hr : Room 2 X.A) (gl : Gl X nm) (gC : X.mg nm = some (.ref (He.ga X.K nm))) (ha : PA X (e :: es) t) (db : (nm == ("__debug__" : Str)) = false := by decide)
    (st : starEach (e :: es) X.env = (false, eval e X.env) :: starEach es X.env := by rfl) (pl : (backTo pos (starEach es X.env)).any (·.1) = false := by rfl) : PE X (.Call (.Name nm p) (e :: es) [] pos) (tMkV (He.ga X.K nm) (spI (He.ga X.K nm) ns) t) := by
  obtain ⟨fd, h1, h2, h3, h4⟩ := d.ex
  exact pe_mkV d.oc h1 h2 h3 hr h4 passN gl gC ha db st pl
theorem pmk_mkD (d : DefI X.prog X.w X.K X.mg X.base nm ps ns) (hr : Room 2 X.A) (gl : Gl X nm) (gC : X.mg nm = some (.ref (He.ga X.K nm))) (ha : PA X (e :: es) t) (db : (nm == ("__debug__" : Str)) = false := by decide)
    (st : starEach (e :: es) X.env = (false, eval e X.env) :: starEach es X.env := by rfl) (pl : (backTo pos (starEach es X.env)).any (·.1) = false := by rfl) : L2N.PMk X (.Call (.Name nm p) (e :: es) [] pos) (tMkR (He.ga X.K nm) (spI (He.ga X.K nm) ns) t) := by
  obtain ⟨fd, h1, h2, h3, h4⟩ := d.ex
  exact pmk_mkR d.oc h1 h2 h3 hr h4 passN gl gC ha db st pl
end
/-! ### steps -/
section
variable {K : PySem.W.Frag} {B : Bs} {env : List Sl} {P : Pd} {D : DE}
theorem ev_mk0 {C : Addr} (q : P .fz (.xc C [] [])) : Ev K B (tMk0 C) env P := fun O σ H Q r hq a ha => by
  obtain ⟨f1, f2, f3⟩ := r.j.fresh ha
  exact hq .fz (.xc C [] []) (.ref a) _ (Same.new ha) (.xc (fs := []) (.inl ⟨rfl, fr_new f1 f2 f3 upd_same⟩) rfl .nil) q
theorem zip_fst {ns : List Str} {ys : List V} (h : ys.length = ns.length) : (ns.zip ys).map (·.1) = ns := by rw [List.map_fst_zip]; omega
theorem zip_snd {ns : List Str} {ys : List V} (h : ys.length = ns.length) : (ns.zip ys).map (·.2) = ys := by rw [List.map_snd_zip]; omega
theorem RepA.rev {H : Hp} : ∀ {ds : List Da} {vs : List V}, RepA K H ds vs → RepA K H ds.reverse vs.reverse
  | _, _, .nil => .nil
  | _, _, .cons h r => by rw [List.reverse_cons, List.reverse_cons]; exact (RepA.rev r).app (.cons h .nil)
theorem ev_mkV {C : Addr} {ns : List Str} {ta : TA} (h : EvA K B ta env fun xs => allF xs ∧ xs.length = ns.length ∧ ns.length ≤ 1000 ∧ P .fz (.xc C ns.reverse (xs.map (·.2)).reverse)) : Ev K B (tMkV C (spI C ns) ta) env P := fun O σ H Q r hq =>
  h O σ H _ r fun xs vs H1 s1 rv ⟨f, l1, l2, q⟩ => by
    have ra := rv.fz r.j f
    have lv := ra.len
    rw [List.length_map] at lv
    refine ⟨by omega, fun a ha => ⟨a, vs, rfl, by omega, upd_same, fun d H2 nd e1 e2 oth => ⟨rfl, ?_⟩⟩⟩
    have j1 := r.j.step s1
    have da : d ≠ a := fun z => by rw [z, upd_same] at nd; cases nd
    have nd1 : H1 d = none := by rw [upd_ne da] at nd; exact nd
    have s2 : Same H1 H2 := fun b u e => by
      have b1 : b ≠ a := fun z => by rw [z, ha] at e; cases e
      have b2 : b ≠ d := fun z => by rw [z, nd1] at e; cases e
      rw [oth b b1 b2, upd_ne b1]
      exact e
    obtain ⟨f1, f2, f3⟩ := j1.fresh ha
    obtain ⟨g1, g2, g3⟩ := j1.fresh nd1
    refine hq .fz _ (.ref a) H2 (s1.trans s2) ?_ q
    refine Rep.xc (fs := (ns.zip vs).reverse) (.inr ⟨d, fr_new f1 f2 f3 e1, fr_new g1 g2 g3 e2⟩) ?_ ?_
    · rw [List.map_reverse, zip_fst (by omega)]
    · rw [List.map_reverse, zip_snd (by omega)]
      exact (ra.mono (fr_mono s2)).rev
def isXc (d : Da) (Q : Addr → List Str → List Da → Prop) : Prop := ∃ C ns xs, d = .xc C ns xs ∧ Q C ns xs
theorem xc_i {C : Addr} {ns : List Str} {xs : List Da} {Q : Addr → List Str → List Da → Prop} (q : Q C ns xs) : isXc (.xc C ns xs) Q := ⟨C, ns, xs, rfl, q⟩
theorem rep_xc {H : Hp} {C : Addr} {ns : List Str} {xs : List Da} {v : V} (h : Rep K H (.xc C ns xs) v) : ∃ a fs, v = .ref a ∧ ExAt H a C fs ∧ fs.map (·.1) = ns ∧ RepA K H xs (fs.map (·.2)) := by
  cases h with
  | xc h k r => exact ⟨_, _, rfl, h, k, r⟩
theorem exAt_real {O : List Addr} {H : Hp} (j : J B O H) {a C : Addr} {fs : List (Str × V)} (h : ExAt (vw B H) a C fs) : ExAt H a C fs :=
  h.imp (fun z => ⟨z.1, j.real z.2 nofun nofun⟩) fun ⟨d, h1, h2⟩ => ⟨d, j.real h1 nofun nofun, j.real h2 nofun nofun⟩
/-- isinstance(e, C) -/
theorem opn_isV {k l : Kd} {C D : Addr} {ns : List Str} {xs : List Da} {b : Bool} (hC : ExcC K C) (e : PySem.W.kitOne K (.ref C) (.ref D) = some b) (q : P .fz (.bl b)) : OpN K B (rIsV K) [(k, .xc C ns xs), (l, .ref D)] P := fun O S H vs Q j0 j1 s r hq => by
  cases r with
  | cons r1 r2 =>
    cases r2 with
    | cons r2 r3 =>
      cases r3
      obtain ⟨a, fs, rfl, h, _, _⟩ := rep_xc (r1.seen j0 j1)
      have h2 := r2.seen j0 j1
      cases h2
      exact ⟨a, C, fs, .ref D, .ref D, b, rfl, exAt_real j1 h, hC, fun u hu => hu, e, hq .fz _ _ H (Same.refl _) (.bl _) q⟩
theorem opn_isVT {k l : Kd} {C : Addr} {c : String} {ns : List Str} {xs : List Da} {b : Bool} (hC : ExcC K C) (e : PySem.W.kitOne K (.ref C) (.type c) = some b) (q : P .fz (.bl b)) : OpN K B (rIsV K) [(k, .xc C ns xs), (l, .ty c)] P := fun O S H vs Q j0 j1 s r hq => by
  cases r with
  | cons r1 r2 =>
    cases r2 with
    | cons r2 r3 =>
      cases r3
      obtain ⟨a, fs, rfl, h, _, _⟩ := rep_xc (r1.seen j0 j1)
      have h2 := r2.seen j0 j1
      cases h2
      exact ⟨a, C, fs, .ty c, .type c, b, rfl, exAt_real j1 h, hC, fun u hu => hu, e, hq .fz _ _ H (Same.refl _) (.bl _) q⟩
theorem opn_isC {k l : Kd} {a C D : Addr} {d : Option Addr} {b : Bool} (hd : ∀ x, d = some x → ∃ fs, B.F x = some (.xd fs)) (hC : ExcC K C) (e : PySem.W.kitOne K (.ref C) (.ref D) = some b) (q : P .fz (.bl b)) : OpN K B (rIsC K (.ref C) d a) [(k, .ref a), (l, .ref D)] P := fun O S H vs Q j0 j1 s r hq => by
  cases r with
  | cons r1 r2 =>
    cases r2 with
    | cons r2 r3 =>
      cases r3
      have h1 := r1.seen j0 j1
      have h2 := r2.seen j0 j1
      cases h1
      cases h2
      exact ⟨C, .ref D, .ref D, b, rfl, rfl, fun x hx => (hd x hx).imp fun fs z => j1.real (j1.hh _ _ (j1.fh _ _ z)) nofun nofun, hC, fun u hu => hu, e, hq .fz _ _ H (Same.refl _) (.bl _) q⟩
theorem opn_isCT {k l : Kd} {a C : Addr} {c : String} {d : Option Addr} {b : Bool} (hd : ∀ x, d = some x → ∃ fs, B.F x = some (.xd fs)) (hC : ExcC K C) (e : PySem.W.kitOne K (.ref C) (.type c) = some b) (q : P .fz (.bl b)) : OpN K B (rIsC K (.ref C) d a) [(k, .ref a), (l, .ty c)] P := fun O S H vs Q j0 j1 s r hq => by
  cases r with
  | cons r1 r2 =>
    cases r2 with
    | cons r2 r3 =>
      cases r3
      have h1 := r1.seen j0 j1
      have h2 := r2.seen j0 j1
      cases h1
      cases h2
      exact ⟨C, .ty c, .type c, b, rfl, rfl, fun x hx => (hd x hx).imp fun fs z => j1.real (j1.hh _ _ (j1.fh _ _ z)) nofun nofun, hC, fun u hu => hu, e, hq .fz _ _ H (Same.refl _) (.bl _) q⟩
/-- e.f -/
theorem ev_xv {n : Str} {te : TE} (h : Ev K B te env fun k d => k = .fz ∧ isXc d fun C ns xs => XfC K C ∧ PySem.W.findIn K (.ref C) n = some none ∧ ∃ d', (ns.zip xs).lookup n = some d' ∧ P .fz d') : Ev K B (tXv K n te) env P := fun O σ H Q r hq =>
  h O σ H _ r fun k d v H1 s1 rv ⟨hk, C, ns, xs, hd, hx, hno, d', hl, q⟩ => by
    subst hk hd
    have j1 := r.j.step s1
    obtain ⟨a, fs, rfl, hE, h1, h2⟩ := rep_xc rv
    have hE2 := exAt_real j1 (hE.mono (fr_same j1))
    have key : ∀ {ns : List Str} {xs : List Da} {fs : List (Str × V)}, fs.map (·.1) = ns → RepA K (fr B O H1) xs (fs.map (·.2)) → (ns.zip xs).lookup n = some d' → ∃ v, fs.lookup n = some v ∧ Rep K (fr B O H1) d' v := by
      intro ns xs fs
      induction fs generalizing ns xs with
      | nil => intro e _ hl; subst e; cases hl
      | cons f r ih =>
        intro e ra hl
        subst e
        obtain ⟨f1, f2⟩ := f
        cases ra with
        | @cons x xs' _ _ r1 r2 =>
          rw [List.map_cons, List.zip_cons_cons, List.lookup_cons] at hl
          rw [List.lookup_cons]
          by_cases z : (n == f1) = true
          · rw [z] at hl ⊢
            exact ⟨f2, rfl, by cases hl; exact r1⟩
          · rw [Bool.not_eq_true] at z
            rw [z] at hl ⊢
            exact ih rfl r2 hl
    obtain ⟨v, l, rd⟩ := key h1 h2 hl
    rcases hE2 with ⟨e, _⟩ | ⟨dd, e1, e2⟩
    · rw [e] at l
      cases l
    · exact ⟨a, C, dd, fs, v, rfl, e1, e2, hx, hno, l, hq .fz d' v H1 s1 rd q⟩
/-- raise C(e, ..) -/
theorem sd_raiseV {C : Addr} {ns : List Str} {ta : TA} {W : Value → Option Addr → L2.St → Hp → Prop} (hL : B.L = []) (h : EvA K B ta env fun xs => allF xs ∧ xs.length = ns.length ∧ ns.length ≤ 1000 ∧
      ∀ O σ H H' d us, Rl K B env O σ H → Same H H' → H' d = some (.xd us) → us.map (·.1) = ns.reverse → RepA K H' (xs.map (·.2)).reverse (us.map (·.2)) → W (.ref C) (some d) σ H') :
    Sd K B (fun _ σ H => tMkR C (spI C ns) ta σ H fun cls d H' => W cls d σ H') D env := fun O σ H De r f =>
  h O σ H _ r fun xs vs H1 s1 rv ⟨f, l1, l2, q⟩ => by
    have ra := rv.fz r.j f
    have lv := ra.len
    rw [List.length_map] at lv
    refine ⟨by omega, fun a ha => ⟨a, vs, rfl, by omega, upd_same, fun d H2 nd e1 e2 oth => ⟨rfl, d, _, e1, e2, ?_, ?_⟩⟩⟩
    · have da : d ≠ a := fun z => by rw [z, upd_same] at nd; cases nd
      rw [upd_ne da] at nd
      exact nd
    · have j1 := r.j.step s1
      have da : d ≠ a := fun z => by rw [z, upd_same] at nd; cases nd
      have nd1 : H1 d = none := by rw [upd_ne da] at nd; exact nd
      have s2 : Same H1 (upd (del H2 a) d (.xd (ns.zip vs).reverse)) := fun b u e => by
        have b1 : b ≠ a := fun z => by rw [z, ha] at e; cases e
        have b2 : b ≠ d := fun z => by rw [z, nd1] at e; cases e
        rw [upd_ne b2, del_ne b1, oth b b1 b2, upd_ne b1]
        exact e
      refine q O σ H _ d _ r (s1.trans s2) upd_same (by rw [List.map_reverse, zip_fst (by omega)]) ?_
      rw [List.map_reverse, zip_snd (by omega)]
      have s3 : Same (fr B O H1) H1 := by
        have := fr_same j1
        rw [vw_nil hL] at this
        exact this
      exact ((ra.mono s3).mono s2).rev
end
theorem pt_truthK {X : Cx} {K : PySem.W.Frag} {a : Expr} {ta : TE} (hk : X.K = K) (ha : PE X a ta) (he : ∀ whole, isTrue a X.env whole = (do let v ← whole; standAt a.pos; holding [v] (truthy v))) :
    L2.PT X a (fun σ H Q => ta σ H fun x H' => ∃ k, TruV K x H' k ∧ Q k H') := by
  subst hk
  exact pt_truth ha he
end JP
set_option Elab.async false
set_option linter.all false
set_option maxRecDepth 100000
set_option maxHeartbeats 4000000
/-! a def that takes the caught error, of any class, with a dict or without -/
namespace JP
open PySem PySem.Spec PyProof.Rows L2 L2H JPX
/-- f(e) in a suite -/
def tCallY (cls : Value) (sp : Addr → Sp) (t : TA) : TE := fun σ H Q => t σ H fun vs H1 => ∃ D, cls = .ref D ∧ sp D vs H1 Q E0
theorem pe_callY {X : Cx} {k : Nat} {f : Addr} {fd : FuncData} {ps : List Str} {sp : Addr → Option Addr → Addr → Sp} {x : Str} {q pos : Pos} {e : Expr} {es : List Expr} {t : TA} {p : Addr × Obj} {cls : Value} {d : Option Addr}
    (F : ∀ D d, FnZ X.prog X.w X.K X.mg X.base k f fd ps (fun p => Zc (.ref D) d p.2) (sp D d)) (hr : RoomH k X.A) (hp : p ∈ X.pn) (hot : Hot1 X.A p) (hz : Zc cls d p.2) (hg : Gl X x) (hm : X.mg x = some (.ref f)) (hk : PySem.W.keepIn X.K (.ref f) = true) (hb : Binds X.K fd ps [])
    (ha : PA X (e :: es) t) (hdb : (x == ("__debug__" : Str)) = false := by decide) (he : starEach (e :: es) X.env = (false, eval e X.env) :: starEach es X.env := by rfl) (hpl : (backTo pos (starEach es X.env)).any (·.1) = false := by rfl) :
    PE X (.Call (.Name x q) (e :: es) [] pos) (tCallY cls (fun D => sp D d p.1) t) := by
  refine ⟨fun pins s σ H Q I h => wpAny_Call_Name_kw (ld_glob I hg hm ?_ hdb)⟩
  refine PySem.W.callWith_K (h₀ := X.base) I.ok.mod.kin hk (thn (ha.run pos pins s σ H _ I h) fun us s1 ⟨vs, H1, I1, r, D, hcls, q⟩ => ⟨I1.kIn, ?_⟩) he hpl
  subst hcls
  have hl : us.length = ps.length := r.length.symm.trans ((F D d).len _ _ _ _ _ q)
  have b := hb s1 us I1.kIn (by rw [List.append_nil]; exact hl)
  rw [List.append_nil] at b
  obtain ⟨p1, p2, p3, p4, p5⟩ := I1.pin p (List.mem_append_left _ hp)
  have hpin : PinOk X.stack H1 s1 p := ⟨p1, p2, fun hm => (List.mem_cons.mp (I1.stkSub p.1 hm)).elim p3 p4, p5⟩
  refine wpAny_call (codeAny_mono ((F D d).run X.A X.stack s1 H1 ⟨us, []⟩ us vs Q E0 p hr hot hz hpin I1.env0 b r q) fun res s' hq => ?_)
  cases res with
  | error e => exact passN pins σ H1 s1 e s' I1 hq
  | ok fl =>
    cases fl with
    | ret u => exact I1.after hq
    | next => exact False.elim hq
    | brk => exact False.elim hq
    | cont => exact False.elim hq
structure DefY (P : Program) (w : World) (K : PySem.W.Frag) (mg : Str → Option Value) (base : Heap) (nm : Str) (k : Nat) (ps : List Str) (sp : Addr → Option Addr → Addr → Sp) : Prop where
  ex : ∃ f fd, (∀ D d, FnZ P w K mg base k f fd ps (fun p => Zc (.ref D) d p.2) (sp D d)) ∧ mg nm = some (.ref f) ∧ PySem.W.keepIn K (.ref f) = true ∧ Binds K fd ps []
theorem pe_defY {X : Cx} {nm : Str} {k : Nat} {ps : List Str} {sp : Addr → Option Addr → Addr → Sp} {q pos : Pos} {e : Expr} {es : List Expr} {t : TA} {p : Addr × Obj} {cls : Value} {d : Option Addr}
    (dz : DefY X.prog X.w X.K X.mg X.base nm k ps sp) (hr : RoomH k X.A) (hp : p ∈ X.pn) (hot : Hot1 X.A p) (hz : Zc cls d p.2) (hg : Gl X nm) (ha : PA X (e :: es) t) (hdb : (nm == ("__debug__" : Str)) = false := by decide)
    (he : starEach (e :: es) X.env = (false, eval e X.env) :: starEach es X.env := by rfl) (hpl : (backTo pos (starEach es X.env)).any (·.1) = false := by rfl) : PE X (.Call (.Name nm q) (e :: es) [] pos) (tCallY cls (fun D => sp D d p.1) t) := by
  obtain ⟨f, fd, F, hm, hk, hb⟩ := dz.ex
  exact pe_callY F hr hp hot hz hg hm hk hb ha hdb he hpl
theorem DefY.of {P : Program} {w : World} {K : PySem.W.Frag} {mg : Str → Option Value} {base : Heap} {nm : Str} {st : Stmt} {N ps : List Str} {k : Nat} {sp : Addr → Option Addr → Addr → Sp} (h : At K mg nm st) (S : FnScope N ps (defScope st))
    (hbind : ∀ (kV doc pm : Value) (an : Option Addr) (cdv ct : Value) (us : List Value), us.length = ps.length → bindArgs (PySem.W.fnOf nm nm (defArgs st) (defBody st) (defScope st) .none kV doc pm an cdv ct) ⟨us, []⟩ = pure (ps.zip us))
    (len : ∀ D d a vs H Q E, sp D d a vs H Q E → vs.length = ps.length)
    (hbody : ∀ (D : Addr) (d : Option Addr) (f : Addr) (cdv : Value) (A : Around) (outer : List Env) (s : Shared) (H : Hp) (vs : List V) (Q : VK) (E : XK) (p : Addr × Obj), Hot1 A p → Zc (.ref D) d p.2 → RoomH k (A.deeper (envOfC nm (defScope st) s.heap.objs.size f cdv)) → sp D d p.1 vs H Q E →
      ∃ t, PSs (cxH (L2N.CX P w) P w K mg base N nm (defScope st) f cdv A outer s H E p) (defBody st) t ∧ t { nx := fun _ H' => Q .non H', rt := Q } (start N vs) H) : DefY P w K mg base nm (k + 1) ps sp := by
  obtain ⟨fd, F⟩ := h.ex
  obtain ⟨oc, od, dV, kV, doc, pm, an, cdv, ct, osl, e, lk, hcd, hD, hK⟩ := id F.ex
  subst e
  exact ⟨_, _, fun D d => fn_ofZ lk hcd S (len D d) (hbody D d (He.ga K nm) cdv), h.gl, F.kp, F.bindsN hbind⟩
theorem cxH_K {CX : CXT} {P : Program} {w : World} {K : PySem.W.Frag} {mg : Str → Option Value} {base : Heap} {N : List Str} {qual : Str} {scope : Scope} {f : Addr} {cd : Value} {A : Around} {outer : List Env} {s : Shared} {H : Hp} {E : XK} {p : Addr × Obj} : (cxH CX P w K mg base N qual scope f cd A outer s H E p).K = K := rfl
/-- isinstance(x, (c1, c2)) -/
theorem opn_isi2 {K : PySem.W.Frag} {B : Bs} {P : Pd} {k l : Kd} {x : Da} {c1 c2 : String} (b1 b2 : Bool) (n : decide (x.tyN = "?") = false) (h1 : (["int", "bool", "str", "list", "tuple", "dict"].contains c1) = true) (h2 : (["int", "bool", "str", "list", "tuple", "dict"].contains c2) = true)
    (e1 : isaB x.tyN c1 = b1) (e2 : isaB x.tyN c2 = b2) (q : P .fz (.bl (b1 || b2))) : OpN K B (rIsA K) [(k, x), (l, .tup [.ty c1, .ty c2])] P := fun O S H vs Q j0 j1 s r hq => by
  cases r with
  | cons r1 r2 =>
    cases r2 with
    | cons r2 r3 =>
      cases r3
      have t2 := r2.seen j0 j1
      cases t2 with
      | tup e ra =>
        cases ra with
        | cons ra rb => cases rb with
          | cons rb rc =>
            cases rc
            cases ra
            cases rb
            have k1 : PySem.W.kitOne K (.type x.tyN) (.type c1) = some b1 := kit_ty (by rw [kit_isa (of_decide_eq_false n) h1, e1])
            have k2 : PySem.W.kitOne K (.type x.tyN) (.type c2) = some b2 := kit_ty (by rw [kit_isa (of_decide_eq_false n) h2, e2])
            refine .inr ⟨_, _, _, _, [.type c1, .type c2], b1 || b2, rfl, j1.real e nofun nofun, .cons (.ty c1) (.cons (.ty c2) .nil), rep_ty j1 (r1.seen j0 j1) (of_decide_eq_false n), ?_, hq .fz _ _ H (Same.refl _) (.bl _) q⟩
            unfold PySem.W.kitAny PySem.W.kitAny PySem.W.kitAny
            rw [k1, k2]
            cases b1 <;> cases b2 <;> rfl
inductive EqOk : Nat → Da → Prop where
  | non (n : Nat) : EqOk n .non
  | int (n : Nat) (i : Int) : EqOk n (.int i)
  | str (n : Nat) (s : Str) : EqOk n (.str s)
  | lst {n : Nat} {ds : List Da} (h : ds.length < 10000) (r : ∀ d ∈ ds, EqOk n d) : EqOk (n + 1) (.lst ds)
  | tup {n : Nat} {ds : List Da} (h : ds.length < 10000) (r : ∀ d ∈ ds, EqOk n d) : EqOk (n + 1) (.tup ds)
theorem mkv_i {n m : Nat} {Q : Prop} (h1 : n = m) (h2 : m ≤ 1000) (q : Q) : n = m ∧ m ≤ 1000 ∧ Q := ⟨h1, h2, q⟩
end JP
set_option Elab.async false
set_option linter.all false
set_option maxRecDepth 100000
set_option maxHeartbeats 4000000
/-! sorted of a tuple of texts -/
namespace JPX
open PySem PySem.Spec PyProof.Rows L2
section
variable {prog : Program} {w : World} {A : Around} {E : Value → Shared → Prop} {s : Shared}
theorem gather_tup {l : Addr} {vs : List Value} {Q : List Value → Shared → Prop} (hl : IsTup s.heap l vs.toArray) (hz : vs.length ≤ sizeLine)
    (q : Q vs { s with heap := (s.heap.push (seqObj "list" #[] 0)).update s.heap.objs.size (Obj.mapSeq (· ++ vs.toArray)) }) : wpAny (model prog w) A (collect (.ref l)) Q E s := by
  obtain ⟨ob, hob, hcls, n, hdat⟩ := id hl
  unfold collect
  refine wpAny_bind (wpAny_runValue (codeAny_builtin entry_proto_collect' ?_))
  show wpAny _ _ (do again (.builtin "list.__iadd__" ⟨[← newList [], .ref l], []⟩)) _ _ s
  refine wpAny_bind (wpAny_newList (wpAny_pure ⟨Code.quiet_builtin _ (by decide +kernel), codeAny_builtin entry_list_iadd' ?_⟩))
  show wpAny _ _ (Builtin.List.listExtendWith (.ref s.heap.objs.size) (.ref l) (.ref s.heap.objs.size)) _ _ { s with heap := s.heap.push (seqObj "list" #[] 0) }
  unfold Builtin.List.listExtendWith
  have old : (s.heap.push (seqObj "list" #[] 0)).get? l = some ob := Heap.get?_push_of_some _ hob
  have new : (s.heap.push (seqObj "list" #[] 0)).get? s.heap.objs.size = some (seqObj "list" #[] 0) := Heap.get?_push_size _ rfl
  refine wpAny_bind (wpAny_typeOf (T := "tuple") ⟨ob, old, hcls⟩ ?_)
  have tt : (Value.type "tuple" == Value.type "tuple") = true := rfl
  rw [if_pos (by rw [tt]; simp)]
  refine wpAny_bind (listItems_at old hdat (wpAny_bind (listItems_at (xs := #[]) (n := 0) new rfl ?_)))
  rw [if_neg (by simp)]
  refine wpAny_bind (listUpdate_at (xs := #[]) (n := 0) new rfl ?_ (Nat.zero_le _) (by show (#[] ++ vs.toArray).size ≤ sizeLine + 1; simp only [Array.size_append, List.size_toArray, List.length_nil]; omega))
  refine wpAny_pure ?_
  show wpAny (model prog w) A (do
      let o ← load s.heap.objs.size
      match o.data with
      | .seq xs _ => pure xs.toList
      | _ => unsupported "internal:collect") Q E _
  refine wpAny_bind (wpAny_load (get?_update_seq new _) ?_)
  show wpAny _ _ (pure ((#[] : Array Value) ++ vs.toArray).toList) Q E _
  rw [show ((#[] : Array Value) ++ vs.toArray).toList = vs by simp]
  exact wpAny_pure q
theorem sorted_tupS {l : Addr} {vs : List Value} {ss : List Str} {Q : Value → Shared → Prop} (hl : IsTup s.heap l vs.toArray) (hS : StrsAre vs ss) (h64 : vs.length < 64)
    (q : ∀ (out : Array Value) (ys : List Str), StrsAre out.toList ys → ys.Perm ss → sortedS ys = true → Q (.ref (s.heap.objs.size + 1)) { s with heap := sortedAll s.heap vs out }) : wpAny (model prog w) A (call (.builtin "sorted") [.ref l]) Q E s := by
  refine Calls.call_function_entry kind_sorted plain_sorted entry_sorted (args_sorted1 _) ?_
  unfold Builtin.«sorted»
  refine wpAny_bind (m := checkCount "sorted" 1 1 _) (wpAny_pure ?_)
  refine wpAny_bind (gather_tup hl (by rw [sizeLine_eq]; omega) (wpAny_bind (wpAny_newList ?_ (by rw [sizeLine_eq]; omega))))
  have sz : ((s.heap.push (seqObj "list" #[] 0)).update s.heap.objs.size (Obj.mapSeq (· ++ vs.toArray))).objs.size = s.heap.objs.size + 1 := by rw [Heap.size_update, size_push']
  have at2 : (((s.heap.push (seqObj "list" #[] 0)).update s.heap.objs.size (Obj.mapSeq (· ++ vs.toArray))).push (seqObj "list" vs.toArray 0)).get? (s.heap.objs.size + 1) = some (seqObj "list" vs.toArray 0) := by
    rw [← sz]
    exact Heap.get?_push_size _ rfl
  show wpAny _ _ _ _ _ { s with heap := ((s.heap.push (seqObj "list" #[] 0)).update s.heap.objs.size (Obj.mapSeq (· ++ vs.toArray))).push (seqObj "list" vs.toArray 0) }
  rw [sz]
  refine wpAny_bind (wpAny_holding (wpAny_call_entry slot_list_sort ⟨_, at2, rfl⟩ entry_list_sort (list_sort_treeK strKind_oneLt at2 hS.keysOf (fun v1 v2 rest e => keyKind_strs (by rw [← e]; exact hS)) h64 fun st' a1 a2 => ⟨_, rfl, ?_⟩) (args_list_sort _)))
  obtain ⟨ys, h1, h2, h3⟩ := sorted_out_str hS a1 a2
  exact wpAny_pure ⟨_, rfl, q _ ys h1 h2 h3⟩
end
/-- sorted(xs), a list or a tuple of fewer than 64 texts -/
def rSortN (K : PySem.W.Frag) : List V → Hp → VK → Prop := fun vs H Q => ∃ (a : Addr) (xs : List Str), vs = [V.ref a] ∧ (SqL K H a (xs.map V.str) ∨ SqT K H a (xs.map V.str)) ∧ xs.length < 64 ∧
  ∀ (ys : List Str) (p : Addr) (H2 : Hp), ys.Perm xs → sortedS ys = true → H p = none → Same H H2 → H2 p = some (.lst (ys.map V.str)) → Q (.ref p) H2
theorem cr_sortN {X : Cx} : CallR X (.builtin "sorted") (rSortN X.K) := by
  intro pins s σ H vs us Q I r h
  obtain ⟨a, xs, rfl, hs, h64, q⟩ := h
  rw [Vals.ref1 r]
  have fin : ∀ {its : List Value}, Vals (xs.map V.str) its → ∀ (out : Array Value) (ys : List Str), StrsAre out.toList ys → ys.Perm xs → sortedS ys = true → EP X pins σ Q (.ref (s.heap.objs.size + 1)) { s with heap := sortedAll s.heap its out } := fun {its} rv out ys h1 h2 h3 => by
    obtain ⟨ep, he⟩ := sortedAll_at s.heap its out
    have n0 := I.hok.fresh (Nat.le_succ s.heap.objs.size)
    have hlen : (ys.map V.str).length ≤ sizeLine := by rw [List.length_map, h2.length_eq]; exact small64 h64
    exact ⟨.ref _, upd H (s.heap.objs.size + 1) (.lst (ys.map V.str)), I.laid (t' := s.toks) (fun _ _ => sortedAll_old) (Nat.le_succ _) ⟨hlen, out.toList, ep, vals_of_strs h1, he⟩, rfl, q ys _ _ h2 h3 n0 (JP.Same.new n0) upd_same⟩
  rcases hs with hs | hs
  · obtain ⟨its, rv, hl, _⟩ := I.list hs
    have e := rv.length
    rw [List.length_map] at e
    exact sorted_strs hl.isList rv.strs (by rw [← e]; exact h64) (fin rv)
  · obtain ⟨its, rv, hl, _⟩ := I.tuple hs
    have e := rv.length
    rw [List.length_map] at e
    exact sorted_tupS hl rv.strs (by rw [← e]; exact h64) (fin rv)
end JPX
set_option Elab.async false
set_option linter.all false
set_option maxRecDepth 100000
set_option maxHeartbeats 4000000
/-! names: lists and tuples of texts; signs in texts -/
namespace JP
open PySem PySem.Spec PyProof.Rows L2 JPX
theorem lt_cps : ∀ a b : List Nat, ltCps a b = true ↔ a < b
  | [], [] => ⟨fun h => (by cases h), fun h => absurd h (List.lt_irrefl _)⟩
  | [], b :: t => ⟨fun _ => List.nil_lt_cons _ _, fun _ => rfl⟩
  | a :: r, [] => ⟨fun h => (by cases h), fun h => absurd h (List.not_lt_nil _)⟩
  | a :: r, b :: t => by
    have ih := lt_cps r t
    rw [List.cons_lt_cons_iff]
    unfold ltCps
    rw [Bool.or_eq_true, Bool.and_eq_true, decide_eq_true_iff, beq_iff_eq, ih]
/-- the names, sorted -/
def srtN (xs : List Str) : List Str := (srtS (xs.map fun s => ((s, 0) : Spot))).map (·.1)
theorem le0 {a b : Str} (h : ltCps b.cps.toList a.cps.toList = false) : spLe ((a, 0) : Spot) (b, 0) := fun z => by
  rcases z with z | ⟨_, z⟩
  · have := (lt_cps _ _).mpr z
    rw [h] at this
    cases this
  · have z : (0 : Int) < 0 := z
    omega
theorem rising_pw : ∀ {r : List Str} {p : Str}, risingS p r = true → ((p :: r).map fun s => ((s, 0) : Spot)).Pairwise spLe
  | [], p, _ => List.pairwise_singleton _ _
  | x :: r, p, h => by
    have h : (!ltCps x.cps.toList p.cps.toList && risingS x r) = true := h
    rw [Bool.and_eq_true, Bool.not_eq_true'] at h
    have ih := rising_pw h.2
    rw [List.map_cons]
    refine List.pairwise_cons.mpr ⟨fun y hy => ?_, ih⟩
    rw [List.map_cons] at hy ih
    have hx := le0 h.1
    rcases List.mem_cons.mp hy with rfl | hy
    · exact hx
    · exact spLe_tr hx ((List.pairwise_cons.mp ih).1 y hy)
theorem srtN_uniq {ys xs : List Str} (h : ys.Perm xs) (g : sortedS ys = true) : ys = srtN xs := by
  have pw : (ys.map fun s => ((s, 0) : Spot)).Pairwise spLe := by
    cases ys with
    | nil => exact List.Pairwise.nil
    | cons x r => exact rising_pw g
  have e := srtS_uniq (h.map fun s => ((s, 0) : Spot)) pw
  unfold srtN
  rw [← e, List.map_map]
  exact (List.map_id ys).symm
theorem srtN_perm (xs : List Str) : (srtN xs).Perm xs := by
  have := (srtS_perm (xs.map fun s => ((s, 0) : Spot))).map (·.1)
  rw [List.map_map] at this
  exact this.trans (List.Perm.of_eq (List.map_id xs))
theorem srtN_len (xs : List Str) : (srtN xs).length = xs.length := (srtN_perm xs).length_eq
theorem srtN_mem {xs : List Str} {s : Str} : s ∈ srtN xs ↔ s ∈ xs := (srtN_perm xs).mem_iff
/-- sorting twice is sorting once -/
theorem srtN_congr {xs ys : List Str} (h : xs.Perm ys) : srtN xs = srtN ys := by
  have e : srtS (xs.map fun s => ((s, 0) : Spot)) = srtS (ys.map fun s => ((s, 0) : Spot)) := srtS_uniq ((srtS_perm _).trans (h.map _)) (srtS_sorted _)
  unfold srtN
  rw [e]
/-- a list or a tuple of texts -/
def isNm (d : Da) (ss : List Str) : Prop := d = .lst (ss.map Da.str) ∨ d = .tup (ss.map Da.str)
theorem isNm.its {d : Da} {ss : List Str} (h : isNm d ss) : its d = some (ss.map Da.str) := by rcases h with rfl | rfl <;> rfl
section
variable {K : PySem.W.Frag} {B : Bs} {env : List Sl} {P : Pd} {D : DE}
theorem opn_sortN {k : Kd} {d : Da} {ss : List Str} (h : isNm d ss) (hk : k ≠ .bw) (hz : ss.length < 64) (q : P .nw (.lst ((srtN ss).map Da.str))) : OpN K B (rSortN K) [(k, d)] P := fun O S H vs Q j0 j1 s r hq => by
  cases r with
  | cons r1 r2 =>
    cases r2
    obtain ⟨p, us, rfl, hs, ra⟩ := r1.sq_at j0 j1 hk h.its
    have e := ra.strs
    subst e
    refine ⟨p, ss, rfl, hs, hz, fun ys l H2 hp hsr hn s2 e2 => ?_⟩
    have := srtN_uniq hp hsr
    subst this
    exact hq .nw _ _ H2 s2 (repV_lst j1 s s2 hn e2 (RepA.ofStrs _)) q
theorem inV_strs (s : Str) (ss : List Str) : inV (.str s) (ss.map V.str) = decide (s ∈ ss) := by
  induction ss with
  | nil => rfl
  | cons a r ih =>
    show (eqV (.str a) (.str s) || inV (.str s) (r.map V.str)) = _
    rw [ih]
    show ((a == s) || decide (s ∈ r)) = _
    by_cases e : a = s
    · subst e
      simp
    · have e2 : (a == s) = false := beq_false_of_ne e
      rw [e2, Bool.false_or]
      have e3 : (s ∈ a :: r) = (s ∈ r) := propext ⟨fun z => (List.mem_cons.mp z).elim (fun y => absurd y.symm e) id, List.mem_cons_of_mem _⟩
      simp only [e3]
theorem op2_inS {k l : Kd} {s : Str} {d : Da} {ss : List Str} (h : isNm d ss) (hl : l ≠ .bw) (q : P .fz (.bl (decide (s ∈ ss)))) : Op2 K B (rIn K false) (k, .str s) (l, d) P := fun O S H v u Q j0 j1 hS r1 r2 hq => by
  obtain ⟨p, us, rfl, hs, ra⟩ := r2.sq_at j0 j1 hl h.its
  have e := ra.strs
  subst e
  rw [r1.str_eq]
  refine ⟨p, _, rfl, hs, rfl, ?_, ?_⟩
  · rw [List.all_map]
    exact List.all_eq_true.mpr fun _ _ => rfl
  · rw [if_neg Bool.false_ne_true, inV_strs]
    exact hq .fz _ _ H (Same.refl _) (.bl _) q
theorem op2_inC {k l : Kd} {c : Nat} {z : Str} (q : P .fz (.bl (decide (c ∈ z.cps.toList)))) : Op2 K B (fun x y H Q => ∃ (c : Nat) (z : Str), x = V.str ⟨#[c]⟩ ∧ y = V.str z ∧ Q (V.bl (decide (c ∈ z.cps.toList))) H) (k, .str ⟨#[c]⟩) (l, .str z) P := fun O S H v u Q j0 j1 hS r1 r2 hq =>
  ⟨c, z, r1.str_eq, r2.str_eq, hq .fz _ _ H (Same.refl _) (.bl _) q⟩
theorem op2_notC {k l : Kd} {c : Nat} {z : Str} (q : P .fz (.bl (!decide (c ∈ z.cps.toList)))) : Op2 K B (fun x y H Q => ∃ (c : Nat) (z : Str), x = V.str ⟨#[c]⟩ ∧ y = V.str z ∧ Q (V.bl (!decide (c ∈ z.cps.toList))) H) (k, .str ⟨#[c]⟩) (l, .str z) P := fun O S H v u Q j0 j1 hS r1 r2 hq =>
  ⟨c, z, r1.str_eq, r2.str_eq, hq .fz _ _ H (Same.refl _) (.bl _) q⟩
/-- a part of a list or a tuple -/
def rSlN (K : PySem.W.Frag) : V → Option Int → Option Int → Hp → VK → Prop := fun x lo hi H Q => rSlQ K x lo hi H Q ∨ rSlA K x lo hi H Q
theorem sl_seqN {X : Cx} : L2.SlR X (rSlN X.K) := L2.SlR.or sl_listA sl_tupA
theorem ev_slN {te : TE} {tl th : TO} (h : Ev K B te env fun k x => Pt K B tl env fun lo => Pt K B th env fun hi => ∃ ds, (x = .lst ds ∨ x = .tup ds) ∧ k ≠ .bw ∧ P .nw (.lst (cutD ds lo hi)) ∧ P .fz (.tup (cutD ds lo hi))) : Ev K B (tSl (rSlN K) te tl th) env P := fun O σ H Q r hq =>
  h O σ H _ r fun k x v H1 s1 r1 h2 => h2 O σ H1 _ (r.step s1) fun lo H2 s2 h3 => h3 O σ H2 _ (r.step (s1.trans s2)) fun hi H3 s3 ⟨ds, ed, hk, p1, p2⟩ => by
    have s0 := (s1.trans s2).trans s3
    have j3 := r.j.step s0
    have rv := r1.mono (s2.trans s3)
    rcases ed with rfl | rfl
    · obtain ⟨a, xs, rfl, hs, ra⟩ := rv.lst_at r.j j3 hk
      refine .inl ⟨a, xs, rfl, SqL.of hs, fun p' H4 n4 s4 e4 => hq .nw _ _ H4 (s0.trans s4) (repV_lst j3 s0 s4 n4 e4 ?_) p1⟩
      unfold cutD cutV
      rw [← ra.len]
      exact (ra.drop _).take _
    · obtain ⟨a, xs, rfl, hs, ra⟩ := rv.tup_at r.j j3 hk
      have rc : RepA K (fr B O H3) (cutD ds lo hi) (cutV xs lo hi) := by
        unfold cutD cutV
        rw [← ra.len]
        exact (ra.drop _).take _
      refine .inr ⟨a, xs, rfl, SqT.of hs, fun hw => ?_, fun _ p' n4 => hq .fz _ _ _ (s0.trans (Same.new n4)) (repV_tup j3 (Same.new n4) n4 upd_same rc) p2⟩
      have e1 : cutD ds lo hi = ds := by
        unfold cutD
        rw [ra.len, hw.1, hw.2, List.drop_zero, ← ra.len, Nat.sub_zero, List.take_length]
      rw [e1] at p2
      refine hq .fz _ _ H3 s0 ?_ p2
      cases k with
      | fz => exact rv
      | bw => exact absurd rfl hk
      | ow => obtain ⟨_, _, _, _, _, z⟩ := rv; cases z
      | nw => obtain ⟨_, _, _, _, _, z⟩ := rv; cases z
theorem ev_upper {to : TE} (h : Ev K B to env fun _ d => isSt d fun z => z.length ≤ 5592405 ∧ P .fz (.str (Txt.upper z))) : Ev K B (tM0 (fun x xs H Q => ∃ a, x = V.str a ∧ xs = [] ∧ a.length ≤ 5592405 ∧ Q (V.str (Txt.upper a)) H) to) env P := fun O σ H Q r hq =>
  h O σ H _ r fun k d v H1 s1 r1 ⟨z, ed, hz, p⟩ => by
    subst ed
    have e1 : v = .str z := by cases r1.seen r.j (r.j.step s1); rfl
    subst e1
    exact ⟨⟨z, rfl⟩, z, rfl, rfl, hz, hq .fz _ _ H1 s1 (.str _) p⟩
/-- for c in a text -/
theorem sd_forS {te : TE} {g : TG} {tb : TS} (h : Ev K B te env fun _ d => isSt d fun z => ∃ Pv : Nat → List Sl → Prop, Pv 0 env ∧
      (∀ (i c : Nat) env', z.cps.toList[i]? = some c → Pv i env' → Gn K B g (.str ⟨#[c]⟩) env' fun env2 => Sd K B tb { D with nx := Pv (i + 1), ct := Pv (i + 1), bk := D.nx } env2) ∧ ∀ env', Pv z.cps.size env' → D.nx env') :
    Sd K B (tFor (iStr te) g tb) D env := fun O σ H De r f =>
  h O σ H _ r fun k d v H1 s1 r1 ⟨z, ed, Pv, h0, ht, hd⟩ => by
    subst ed
    have e1 : v = .str z := by cases r1.seen r.j (r.j.step s1); rfl
    subst e1
    have r' := r.step s1
    have f' := f.more (fr_mono s1)
    refine ⟨z, rfl, fun i m σ' H' => m = z.cps.size - i ∧ i ≤ z.cps.size ∧ ∃ env' O', Rl K B env' O' σ' H' ∧ Same (fr B O H1) (fr B O' H') ∧ Pv i env', ⟨z.cps.size, by simp, Nat.zero_le _, env, O, r', Same.refl _, h0⟩, ?_⟩
    rintro i m σ' H' ⟨rfl, hi, env', O', r2, s2, p⟩
    by_cases hlt : i < z.cps.size
    · refine .inr ⟨hlt, fun σ' H' => i + 1 ≤ z.cps.size ∧ ∃ env' O', Rl K B env' O' σ' H' ∧ Same (fr B O H1) (fr B O' H') ∧ Pv (i + 1) env', fun σ'' H'' ⟨a, b⟩ => ⟨z.cps.size - (i + 1), by omega, rfl, a, b⟩, fun v H'' y => ?_⟩
      obtain ⟨rfl, c, hc, rfl⟩ := y
      refine ht i c env' (by rw [Array.getElem?_toList]; exact hc) p O' σ' H'' _ _ r2 (.str _) fun env2 σ2 r3 q => ?_
      refine q O' σ2 H'' _ r3 ⟨?_, f'.rt, ?_, ?_⟩
      · exact fun e3 O3 σ3 H3 r4 s4 p3 => ⟨hlt, e3, O3, r4, s2.trans s4, p3⟩
      · exact fun e3 O3 σ3 H3 r4 s4 p3 => f'.nx e3 O3 σ3 H3 r4 (s2.trans s4) p3
      · exact fun e3 O3 σ3 H3 r4 s4 p3 => ⟨hlt, e3, O3, r4, s2.trans s4, p3⟩
    · have e : i = z.cps.size := by omega
      subst e
      exact .inl ⟨Nat.le_refl _, f'.nx env' O' σ' H' r2 s2 (hd env' p)⟩
end
/-- f(..) whose error passes on -/
theorem sd_callX {K : PySem.W.Frag} {B : Bs} {env : List Sl} {D : DE} {R : SpR} {t : TA} {W : Value → Option Addr → L2.St → Hp → Prop} {XW : Addr → List (Str × Da) → Prop} (hL : B.L = []) (h : EvA K B t env fun xs => allF xs ∧ R (xs.map (·.2)) (fun _ _ => D.nx env) XW)
    (hx : ∀ C fs dx O σ H H', Rl K B env O σ H → Same H H' → XOk K H' dx fs → XW C fs → W (.ref C) dx σ H') : Sd K B (tDrop (tCallS (SpD K R) (fun σ cls d H => W cls d σ H) t)) D env := fun O σ H De r f =>
  h O σ H _ r fun xs vs H1 s1 r1 ⟨fA, hr⟩ => by
    have j1 := r.j.step s1
    have hs := fr_same j1
    rw [vw_nil hL] at hs
    exact ⟨fr B O H1, _, fun _ _ => D.nx env, XW, hs, r1.fz r.j fA, hr, fun k d v H' s rv p => f.nx env O σ H' (r.step (s1.trans s)) (fr_mono (s1.trans s)) p, fun C fs dx H' s hx' z => hx C fs dx O σ H H' r (s1.trans s) hx' z⟩
theorem pe_gstr {X : Cx} {x : Str} {z : Str} {pos : Pos} (hg : Gl X x) (hm : ∃ t, X.mg x = some (.str z t)) (hd : (x == ("__debug__" : Str)) = false := by decide) : PE X (.Name x pos) (tC (.str z)) := by
  obtain ⟨t, h⟩ := hm
  exact pe_glob hg h ⟨t, rfl⟩ hd
theorem pe_gint {X : Cx} {x : Str} {i : Int} {pos : Pos} (hg : Gl X x) (hm : ∃ t, X.mg x = some (.int i t)) (hd : (x == ("__debug__" : Str)) = false := by decide) : PE X (.Name x pos) (tC (.int i)) := by
  obtain ⟨t, h⟩ := hm
  exact pe_glob hg h ⟨t, rfl⟩ hd
end JP
set_option Elab.async false
set_option linter.all false
set_option maxRecDepth 100000
set_option maxHeartbeats 4000000
namespace JP
open PySem PySem.Spec PyProof.Rows L2
structure Tx (K : PySem.W.Frag) (mg : Str → Option Value) : Prop where
  at_is_row_name : At K mg "is_row_name" (top 36)
  at_check_names : At K mg "check_names" (top 37)
  at_row_set : At K mg "row_set" (top 38)
  at__law_cell : At K mg "_law_cell" (top 40)
  at__law_digits : At K mg "_law_digits" (top 41)
  at__law_signs : At K mg "_law_signs" (top 42)
  at__law_string : At K mg "_law_string" (top 43)
  at__law_strings : At K mg "_law_strings" (top 44)
  at__law_good : At K mg "_law_good" (top 45)
  at__law_kinds : At K mg "_law_kinds" (top 46)
  at__law_due : At K mg "_law_due" (top 47)
  at__law_asked : At K mg "_law_asked" (top 48)
  at__law_caught : At K mg "_law_caught" (top 49)
  at__law_equal : At K mg "_law_equal" (top 50)
  at__law_right : At K mg "_law_right" (top 51)
  at__law_created : At K mg "_law_created" (top 52)
  at__law_errors_right : At K mg "_law_errors_right" (top 53)
  at_law : At K mg "law" (top 54)
  g_RowError : mg "RowError" = some (.ref (He.ga K "RowError"))
  g_NoQuotient : mg "NoQuotient" = some (.ref (He.ga K "NoQuotient"))
  g_ZeroPolynomial : mg "ZeroPolynomial" = some (.ref (He.ga K "ZeroPolynomial"))
  g_ZeroSum : mg "ZeroSum" = some (.ref (He.ga K "ZeroSum"))
  g_NoRows : mg "NoRows" = some (.ref (He.ga K "NoRows"))
  g_BadName : mg "BadName" = some (.ref (He.ga K "BadName"))
  g_RowTwice : mg "RowTwice" = some (.ref (He.ga K "RowTwice"))
  g_UnknownRow : mg "UnknownRow" = some (.ref (He.ga K "UnknownRow"))
  g_RowsDiffer : mg "RowsDiffer" = some (.ref (He.ga K "RowsDiffer"))
  g_SpotTwice : mg "SpotTwice" = some (.ref (He.ga K "SpotTwice"))
  g_BadStretch : mg "BadStretch" = some (.ref (He.ga K "BadStretch"))
  g_ShortStretch : mg "ShortStretch" = some (.ref (He.ga K "ShortStretch"))
  g_TooLong : mg "TooLong" = some (.ref (He.ga K "TooLong"))
  g_CannotStand : mg "CannotStand" = some (.ref (He.ga K "CannotStand"))
  g_Broken : mg "Broken" = some (.ref (He.ga K "Broken"))
  g_NotFinite : mg "NotFinite" = some (.ref (He.ga K "NotFinite"))
  g_BadParts : mg "BadParts" = some (.ref (He.ga K "BadParts"))
  g_Barred : mg "Barred" = some (.ref (He.ga K "Barred"))
  g_NotCourse : mg "NotCourse" = some (.ref (He.ga K "NotCourse"))
  g_BreaksOwnRule : mg "BreaksOwnRule" = some (.ref (He.ga K "BreaksOwnRule"))
  g_NotBlocked : mg "NotBlocked" = some (.ref (He.ga K "NotBlocked"))
  g_Unsure : mg "Unsure" = some (.ref (He.ga K "Unsure"))
  g_Contradiction : mg "Contradiction" = some (.ref (He.ga K "Contradiction"))
  g_NotStricter : mg "NotStricter" = some (.ref (He.ga K "NotStricter"))
  g_NoFamilies : mg "NoFamilies" = some (.ref (He.ga K "NoFamilies"))
  g_NotLet : mg "NotLet" = some (.ref (He.ga K "NotLet"))
  g_NotFree : mg "NotFree" = some (.ref (He.ga K "NotFree"))
  g_NotTimely : mg "NotTimely" = some (.ref (He.ga K "NotTimely"))
  g_NotEntered : mg "NotEntered" = some (.ref (He.ga K "NotEntered"))
  g_NothingToUndo : mg "NothingToUndo" = some (.ref (He.ga K "NothingToUndo"))
  g_BadNotation : mg "BadNotation" = some (.ref (He.ga K "BadNotation"))
  n_ValueError : mg "ValueError" = none
  n_bool : mg "bool" = none
  n_int : mg "int" = none
  n_isinstance : mg "isinstance" = none
  n_len : mg "len" = none
  n_list : mg "list" = none
  n_range : mg "range" = none
  n_sorted : mg "sorted" = none
  n_str : mg "str" = none
  n_tuple : mg "tuple" = none
  in_BadName : AtI K "BadName" (clsInit (top 6)) "BadName.__init__"
  in_RowTwice : AtI K "RowTwice" (clsInit (top 7)) "RowTwice.__init__"
  in_UnknownRow : AtI K "UnknownRow" (clsInit (top 8)) "UnknownRow.__init__"
  in_RowsDiffer : AtI K "RowsDiffer" (clsInit (top 9)) "RowsDiffer.__init__"
  in_SpotTwice : AtI K "SpotTwice" (clsInit (top 10)) "SpotTwice.__init__"
  in_BadStretch : AtI K "BadStretch" (clsInit (top 11)) "BadStretch.__init__"
  in_ShortStretch : AtI K "ShortStretch" (clsInit (top 12)) "ShortStretch.__init__"
  in_TooLong : AtI K "TooLong" (clsInit (top 13)) "TooLong.__init__"
  in_CannotStand : AtI K "CannotStand" (clsInit (top 14)) "CannotStand.__init__"
  in_Broken : AtI K "Broken" (clsInit (top 15)) "Broken.__init__"
  in_BadParts : AtI K "BadParts" (clsInit (top 17)) "BadParts.__init__"
  in_Barred : AtI K "Barred" (clsInit (top 18)) "Barred.__init__"
  in_NotCourse : AtI K "NotCourse" (clsInit (top 19)) "NotCourse.__init__"
  in_BreaksOwnRule : AtI K "BreaksOwnRule" (clsInit (top 20)) "BreaksOwnRule.__init__"
  in_NotBlocked : AtI K "NotBlocked" (clsInit (top 21)) "NotBlocked.__init__"
  in_NotStricter : AtI K "NotStricter" (clsInit (top 24)) "NotStricter.__init__"
  in_NotLet : AtI K "NotLet" (clsInit (top 26)) "NotLet.__init__"
  in_NotFree : AtI K "NotFree" (clsInit (top 27)) "NotFree.__init__"
  in_NotTimely : AtI K "NotTimely" (clsInit (top 28)) "NotTimely.__init__"
  in_NotEntered : AtI K "NotEntered" (clsInit (top 29)) "NotEntered.__init__"
  in_BadNotation : AtI K "BadNotation" (clsInit (top 31)) "BadNotation.__init__"
  xc_NoQuotient : ExcC K (He.ga K "NoQuotient")
  kr_NoQuotient : (clsL.map fun n => PySem.W.kitOne K (.ref (He.ga K "NoQuotient")) (.ref (He.ga K n))) = rowK 0
  koR_NoQuotient : PySem.W.kitOne K (.ref (He.ga K "NoQuotient")) (.ref (He.ga K "RowError")) = some true
  koV_NoQuotient : PySem.W.kitOne K (.ref (He.ga K "NoQuotient")) (.type "ValueError") = some true
  x_NoQuotient : ExcPlain K "NoQuotient"
  xc_ZeroPolynomial : ExcC K (He.ga K "ZeroPolynomial")
  kr_ZeroPolynomial : (clsL.map fun n => PySem.W.kitOne K (.ref (He.ga K "ZeroPolynomial")) (.ref (He.ga K n))) = rowK 1
  koR_ZeroPolynomial : PySem.W.kitOne K (.ref (He.ga K "ZeroPolynomial")) (.ref (He.ga K "RowError")) = some true
  koV_ZeroPolynomial : PySem.W.kitOne K (.ref (He.ga K "ZeroPolynomial")) (.type "ValueError") = some true
  x_ZeroPolynomial : ExcPlain K "ZeroPolynomial"
  xc_ZeroSum : ExcC K (He.ga K "ZeroSum")
  kr_ZeroSum : (clsL.map fun n => PySem.W.kitOne K (.ref (He.ga K "ZeroSum")) (.ref (He.ga K n))) = rowK 2
  koR_ZeroSum : PySem.W.kitOne K (.ref (He.ga K "ZeroSum")) (.ref (He.ga K "RowError")) = some true
  koV_ZeroSum : PySem.W.kitOne K (.ref (He.ga K "ZeroSum")) (.type "ValueError") = some true
  x_ZeroSum : ExcPlain K "ZeroSum"
  xc_NoRows : ExcC K (He.ga K "NoRows")
  kr_NoRows : (clsL.map fun n => PySem.W.kitOne K (.ref (He.ga K "NoRows")) (.ref (He.ga K n))) = rowK 3
  koR_NoRows : PySem.W.kitOne K (.ref (He.ga K "NoRows")) (.ref (He.ga K "RowError")) = some true
  koV_NoRows : PySem.W.kitOne K (.ref (He.ga K "NoRows")) (.type "ValueError") = some true
  x_NoRows : ExcPlain K "NoRows"
  xc_BadName : ExcC K (He.ga K "BadName")
  kr_BadName : (clsL.map fun n => PySem.W.kitOne K (.ref (He.ga K "BadName")) (.ref (He.ga K n))) = rowK 4
  koR_BadName : PySem.W.kitOne K (.ref (He.ga K "BadName")) (.ref (He.ga K "RowError")) = some true
  koV_BadName : PySem.W.kitOne K (.ref (He.ga K "BadName")) (.type "ValueError") = some true
  xf_BadName : XfC K (He.ga K "BadName")
  no_BadName_name : PySem.W.findIn K (.ref (He.ga K "BadName")) "name" = some none
  xc_RowTwice : ExcC K (He.ga K "RowTwice")
  kr_RowTwice : (clsL.map fun n => PySem.W.kitOne K (.ref (He.ga K "RowTwice")) (.ref (He.ga K n))) = rowK 5
  koR_RowTwice : PySem.W.kitOne K (.ref (He.ga K "RowTwice")) (.ref (He.ga K "RowError")) = some true
  koV_RowTwice : PySem.W.kitOne K (.ref (He.ga K "RowTwice")) (.type "ValueError") = some true
  xf_RowTwice : XfC K (He.ga K "RowTwice")
  no_RowTwice_name : PySem.W.findIn K (.ref (He.ga K "RowTwice")) "name" = some none
  xc_UnknownRow : ExcC K (He.ga K "UnknownRow")
  kr_UnknownRow : (clsL.map fun n => PySem.W.kitOne K (.ref (He.ga K "UnknownRow")) (.ref (He.ga K n))) = rowK 6
  koR_UnknownRow : PySem.W.kitOne K (.ref (He.ga K "UnknownRow")) (.ref (He.ga K "RowError")) = some true
  koV_UnknownRow : PySem.W.kitOne K (.ref (He.ga K "UnknownRow")) (.type "ValueError") = some true
  xf_UnknownRow : XfC K (He.ga K "UnknownRow")
  no_UnknownRow_name : PySem.W.findIn K (.ref (He.ga K "UnknownRow")) "name" = some none
  xc_RowsDiffer : ExcC K (He.ga K "RowsDiffer")
  kr_RowsDiffer : (clsL.map fun n => PySem.W.kitOne K (.ref (He.ga K "RowsDiffer")) (.ref (He.ga K n))) = rowK 7
  koR_RowsDiffer : PySem.W.kitOne K (.ref (He.ga K "RowsDiffer")) (.ref (He.ga K "RowError")) = some true
  koV_RowsDiffer : PySem.W.kitOne K (.ref (He.ga K "RowsDiffer")) (.type "ValueError") = some true
  xf_RowsDiffer : XfC K (He.ga K "RowsDiffer")
  no_RowsDiffer_one : PySem.W.findIn K (.ref (He.ga K "RowsDiffer")) "one" = some none
  no_RowsDiffer_two : PySem.W.findIn K (.ref (He.ga K "RowsDiffer")) "two" = some none
  xc_SpotTwice : ExcC K (He.ga K "SpotTwice")
  kr_SpotTwice : (clsL.map fun n => PySem.W.kitOne K (.ref (He.ga K "SpotTwice")) (.ref (He.ga K n))) = rowK 8
  koR_SpotTwice : PySem.W.kitOne K (.ref (He.ga K "SpotTwice")) (.ref (He.ga K "RowError")) = some true
  koV_SpotTwice : PySem.W.kitOne K (.ref (He.ga K "SpotTwice")) (.type "ValueError") = some true
  xf_SpotTwice : XfC K (He.ga K "SpotTwice")
  no_SpotTwice_row : PySem.W.findIn K (.ref (He.ga K "SpotTwice")) "row" = some none
  no_SpotTwice_place : PySem.W.findIn K (.ref (He.ga K "SpotTwice")) "place" = some none
  xc_BadStretch : ExcC K (He.ga K "BadStretch")
  kr_BadStretch : (clsL.map fun n => PySem.W.kitOne K (.ref (He.ga K "BadStretch")) (.ref (He.ga K n))) = rowK 9
  koR_BadStretch : PySem.W.kitOne K (.ref (He.ga K "BadStretch")) (.ref (He.ga K "RowError")) = some true
  koV_BadStretch : PySem.W.kitOne K (.ref (He.ga K "BadStretch")) (.type "ValueError") = some true
  xf_BadStretch : XfC K (He.ga K "BadStretch")
  no_BadStretch_count : PySem.W.findIn K (.ref (He.ga K "BadStretch")) "count" = some none
  xc_ShortStretch : ExcC K (He.ga K "ShortStretch")
  kr_ShortStretch : (clsL.map fun n => PySem.W.kitOne K (.ref (He.ga K "ShortStretch")) (.ref (He.ga K n))) = rowK 10
  koR_ShortStretch : PySem.W.kitOne K (.ref (He.ga K "ShortStretch")) (.ref (He.ga K "RowError")) = some true
  koV_ShortStretch : PySem.W.kitOne K (.ref (He.ga K "ShortStretch")) (.type "ValueError") = some true
  xf_ShortStretch : XfC K (He.ga K "ShortStretch")
  no_ShortStretch_span : PySem.W.findIn K (.ref (He.ga K "ShortStretch")) "span" = some none
  xc_TooLong : ExcC K (He.ga K "TooLong")
  kr_TooLong : (clsL.map fun n => PySem.W.kitOne K (.ref (He.ga K "TooLong")) (.ref (He.ga K n))) = rowK 11
  koR_TooLong : PySem.W.kitOne K (.ref (He.ga K "TooLong")) (.ref (He.ga K "RowError")) = some true
  koV_TooLong : PySem.W.kitOne K (.ref (He.ga K "TooLong")) (.type "ValueError") = some true
  xf_TooLong : XfC K (He.ga K "TooLong")
  no_TooLong_longest : PySem.W.findIn K (.ref (He.ga K "TooLong")) "longest" = some none
  xc_CannotStand : ExcC K (He.ga K "CannotStand")
  kr_CannotStand : (clsL.map fun n => PySem.W.kitOne K (.ref (He.ga K "CannotStand")) (.ref (He.ga K n))) = rowK 12
  koR_CannotStand : PySem.W.kitOne K (.ref (He.ga K "CannotStand")) (.ref (He.ga K "RowError")) = some true
  koV_CannotStand : PySem.W.kitOne K (.ref (He.ga K "CannotStand")) (.type "ValueError") = some true
  xf_CannotStand : XfC K (He.ga K "CannotStand")
  no_CannotStand_terms : PySem.W.findIn K (.ref (He.ga K "CannotStand")) "terms" = some none
  xc_Broken : ExcC K (He.ga K "Broken")
  kr_Broken : (clsL.map fun n => PySem.W.kitOne K (.ref (He.ga K "Broken")) (.ref (He.ga K n))) = rowK 13
  koR_Broken : PySem.W.kitOne K (.ref (He.ga K "Broken")) (.ref (He.ga K "RowError")) = some true
  koV_Broken : PySem.W.kitOne K (.ref (He.ga K "Broken")) (.type "ValueError") = some true
  xf_Broken : XfC K (He.ga K "Broken")
  no_Broken_place : PySem.W.findIn K (.ref (He.ga K "Broken")) "place" = some none
  no_Broken_index : PySem.W.findIn K (.ref (He.ga K "Broken")) "index" = some none
  xc_NotFinite : ExcC K (He.ga K "NotFinite")
  kr_NotFinite : (clsL.map fun n => PySem.W.kitOne K (.ref (He.ga K "NotFinite")) (.ref (He.ga K n))) = rowK 14
  koR_NotFinite : PySem.W.kitOne K (.ref (He.ga K "NotFinite")) (.ref (He.ga K "RowError")) = some true
  koV_NotFinite : PySem.W.kitOne K (.ref (He.ga K "NotFinite")) (.type "ValueError") = some true
  x_NotFinite : ExcPlain K "NotFinite"
  xc_BadParts : ExcC K (He.ga K "BadParts")
  kr_BadParts : (clsL.map fun n => PySem.W.kitOne K (.ref (He.ga K "BadParts")) (.ref (He.ga K n))) = rowK 15
  koR_BadParts : PySem.W.kitOne K (.ref (He.ga K "BadParts")) (.ref (He.ga K "RowError")) = some true
  koV_BadParts : PySem.W.kitOne K (.ref (He.ga K "BadParts")) (.type "ValueError") = some true
  xf_BadParts : XfC K (He.ga K "BadParts")
  no_BadParts_count : PySem.W.findIn K (.ref (He.ga K "BadParts")) "count" = some none
  xc_Barred : ExcC K (He.ga K "Barred")
  kr_Barred : (clsL.map fun n => PySem.W.kitOne K (.ref (He.ga K "Barred")) (.ref (He.ga K n))) = rowK 16
  koR_Barred : PySem.W.kitOne K (.ref (He.ga K "Barred")) (.ref (He.ga K "RowError")) = some true
  koV_Barred : PySem.W.kitOne K (.ref (He.ga K "Barred")) (.type "ValueError") = some true
  xf_Barred : XfC K (He.ga K "Barred")
  no_Barred_terms : PySem.W.findIn K (.ref (He.ga K "Barred")) "terms" = some none
  xc_NotCourse : ExcC K (He.ga K "NotCourse")
  kr_NotCourse : (clsL.map fun n => PySem.W.kitOne K (.ref (He.ga K "NotCourse")) (.ref (He.ga K n))) = rowK 17
  koR_NotCourse : PySem.W.kitOne K (.ref (He.ga K "NotCourse")) (.ref (He.ga K "RowError")) = some true
  koV_NotCourse : PySem.W.kitOne K (.ref (He.ga K "NotCourse")) (.type "ValueError") = some true
  xf_NotCourse : XfC K (He.ga K "NotCourse")
  no_NotCourse_count : PySem.W.findIn K (.ref (He.ga K "NotCourse")) "count" = some none
  xc_BreaksOwnRule : ExcC K (He.ga K "BreaksOwnRule")
  kr_BreaksOwnRule : (clsL.map fun n => PySem.W.kitOne K (.ref (He.ga K "BreaksOwnRule")) (.ref (He.ga K n))) = rowK 18
  koR_BreaksOwnRule : PySem.W.kitOne K (.ref (He.ga K "BreaksOwnRule")) (.ref (He.ga K "RowError")) = some true
  koV_BreaksOwnRule : PySem.W.kitOne K (.ref (He.ga K "BreaksOwnRule")) (.type "ValueError") = some true
  xf_BreaksOwnRule : XfC K (He.ga K "BreaksOwnRule")
  no_BreaksOwnRule_place : PySem.W.findIn K (.ref (He.ga K "BreaksOwnRule")) "place" = some none
  xc_NotBlocked : ExcC K (He.ga K "NotBlocked")
  kr_NotBlocked : (clsL.map fun n => PySem.W.kitOne K (.ref (He.ga K "NotBlocked")) (.ref (He.ga K n))) = rowK 19
  koR_NotBlocked : PySem.W.kitOne K (.ref (He.ga K "NotBlocked")) (.ref (He.ga K "RowError")) = some true
  koV_NotBlocked : PySem.W.kitOne K (.ref (He.ga K "NotBlocked")) (.type "ValueError") = some true
  xf_NotBlocked : XfC K (He.ga K "NotBlocked")
  no_NotBlocked_count : PySem.W.findIn K (.ref (He.ga K "NotBlocked")) "count" = some none
  xc_Unsure : ExcC K (He.ga K "Unsure")
  kr_Unsure : (clsL.map fun n => PySem.W.kitOne K (.ref (He.ga K "Unsure")) (.ref (He.ga K n))) = rowK 20
  koR_Unsure : PySem.W.kitOne K (.ref (He.ga K "Unsure")) (.ref (He.ga K "RowError")) = some true
  koV_Unsure : PySem.W.kitOne K (.ref (He.ga K "Unsure")) (.type "ValueError") = some true
  x_Unsure : ExcPlain K "Unsure"
  xc_Contradiction : ExcC K (He.ga K "Contradiction")
  kr_Contradiction : (clsL.map fun n => PySem.W.kitOne K (.ref (He.ga K "Contradiction")) (.ref (He.ga K n))) = rowK 21
  koR_Contradiction : PySem.W.kitOne K (.ref (He.ga K "Contradiction")) (.ref (He.ga K "RowError")) = some true
  koV_Contradiction : PySem.W.kitOne K (.ref (He.ga K "Contradiction")) (.type "ValueError") = some true
  x_Contradiction : ExcPlain K "Contradiction"
  xc_NotStricter : ExcC K (He.ga K "NotStricter")
  kr_NotStricter : (clsL.map fun n => PySem.W.kitOne K (.ref (He.ga K "NotStricter")) (.ref (He.ga K n))) = rowK 22
  koR_NotStricter : PySem.W.kitOne K (.ref (He.ga K "NotStricter")) (.ref (He.ga K "RowError")) = some true
  koV_NotStricter : PySem.W.kitOne K (.ref (He.ga K "NotStricter")) (.type "ValueError") = some true
  xf_NotStricter : XfC K (He.ga K "NotStricter")
  no_NotStricter_terms : PySem.W.findIn K (.ref (He.ga K "NotStricter")) "terms" = some none
  xc_NoFamilies : ExcC K (He.ga K "NoFamilies")
  kr_NoFamilies : (clsL.map fun n => PySem.W.kitOne K (.ref (He.ga K "NoFamilies")) (.ref (He.ga K n))) = rowK 23
  koR_NoFamilies : PySem.W.kitOne K (.ref (He.ga K "NoFamilies")) (.ref (He.ga K "RowError")) = some true
  koV_NoFamilies : PySem.W.kitOne K (.ref (He.ga K "NoFamilies")) (.type "ValueError") = some true
  x_NoFamilies : ExcPlain K "NoFamilies"
  xc_NotLet : ExcC K (He.ga K "NotLet")
  kr_NotLet : (clsL.map fun n => PySem.W.kitOne K (.ref (He.ga K "NotLet")) (.ref (He.ga K n))) = rowK 24
  koR_NotLet : PySem.W.kitOne K (.ref (He.ga K "NotLet")) (.ref (He.ga K "RowError")) = some true
  koV_NotLet : PySem.W.kitOne K (.ref (He.ga K "NotLet")) (.type "ValueError") = some true
  xf_NotLet : XfC K (He.ga K "NotLet")
  no_NotLet_index : PySem.W.findIn K (.ref (He.ga K "NotLet")) "index" = some none
  xc_NotFree : ExcC K (He.ga K "NotFree")
  kr_NotFree : (clsL.map fun n => PySem.W.kitOne K (.ref (He.ga K "NotFree")) (.ref (He.ga K n))) = rowK 25
  koR_NotFree : PySem.W.kitOne K (.ref (He.ga K "NotFree")) (.ref (He.ga K "RowError")) = some true
  koV_NotFree : PySem.W.kitOne K (.ref (He.ga K "NotFree")) (.type "ValueError") = some true
  xf_NotFree : XfC K (He.ga K "NotFree")
  no_NotFree_rows : PySem.W.findIn K (.ref (He.ga K "NotFree")) "rows" = some none
  xc_NotTimely : ExcC K (He.ga K "NotTimely")
  kr_NotTimely : (clsL.map fun n => PySem.W.kitOne K (.ref (He.ga K "NotTimely")) (.ref (He.ga K n))) = rowK 26
  koR_NotTimely : PySem.W.kitOne K (.ref (He.ga K "NotTimely")) (.ref (He.ga K "RowError")) = some true
  koV_NotTimely : PySem.W.kitOne K (.ref (He.ga K "NotTimely")) (.type "ValueError") = some true
  xf_NotTimely : XfC K (He.ga K "NotTimely")
  no_NotTimely_rows : PySem.W.findIn K (.ref (He.ga K "NotTimely")) "rows" = some none
  xc_NotEntered : ExcC K (He.ga K "NotEntered")
  kr_NotEntered : (clsL.map fun n => PySem.W.kitOne K (.ref (He.ga K "NotEntered")) (.ref (He.ga K n))) = rowK 27
  koR_NotEntered : PySem.W.kitOne K (.ref (He.ga K "NotEntered")) (.ref (He.ga K "RowError")) = some true
  koV_NotEntered : PySem.W.kitOne K (.ref (He.ga K "NotEntered")) (.type "ValueError") = some true
  xf_NotEntered : XfC K (He.ga K "NotEntered")
  no_NotEntered_index : PySem.W.findIn K (.ref (He.ga K "NotEntered")) "index" = some none
  xc_NothingToUndo : ExcC K (He.ga K "NothingToUndo")
  kr_NothingToUndo : (clsL.map fun n => PySem.W.kitOne K (.ref (He.ga K "NothingToUndo")) (.ref (He.ga K n))) = rowK 28
  koR_NothingToUndo : PySem.W.kitOne K (.ref (He.ga K "NothingToUndo")) (.ref (He.ga K "RowError")) = some true
  koV_NothingToUndo : PySem.W.kitOne K (.ref (He.ga K "NothingToUndo")) (.type "ValueError") = some true
  x_NothingToUndo : ExcPlain K "NothingToUndo"
  xc_BadNotation : ExcC K (He.ga K "BadNotation")
  kr_BadNotation : (clsL.map fun n => PySem.W.kitOne K (.ref (He.ga K "BadNotation")) (.ref (He.ga K n))) = rowK 29
  koR_BadNotation : PySem.W.kitOne K (.ref (He.ga K "BadNotation")) (.ref (He.ga K "RowError")) = some true
  koV_BadNotation : PySem.W.kitOne K (.ref (He.ga K "BadNotation")) (.type "ValueError") = some true
  xf_BadNotation : XfC K (He.ga K "BadNotation")
  no_BadNotation_line : PySem.W.findIn K (.ref (He.ga K "BadNotation")) "line" = some none
  em_NoRows_NoRows : PySem.W.exmOne K (.ref (He.ga K "NoRows")) (.ref (He.ga K "NoRows")) = some true
  em_NoRows_BadName : PySem.W.exmOne K (.ref (He.ga K "NoRows")) (.ref (He.ga K "BadName")) = some false
  em_NoRows_RowTwice : PySem.W.exmOne K (.ref (He.ga K "NoRows")) (.ref (He.ga K "RowTwice")) = some false
  em_NoRows_RowError : PySem.W.exmOne K (.ref (He.ga K "NoRows")) (.ref (He.ga K "RowError")) = some true
  em_BadName_NoRows : PySem.W.exmOne K (.ref (He.ga K "BadName")) (.ref (He.ga K "NoRows")) = some false
  em_BadName_BadName : PySem.W.exmOne K (.ref (He.ga K "BadName")) (.ref (He.ga K "BadName")) = some true
  em_BadName_RowTwice : PySem.W.exmOne K (.ref (He.ga K "BadName")) (.ref (He.ga K "RowTwice")) = some false
  em_BadName_RowError : PySem.W.exmOne K (.ref (He.ga K "BadName")) (.ref (He.ga K "RowError")) = some true
  em_RowTwice_NoRows : PySem.W.exmOne K (.ref (He.ga K "RowTwice")) (.ref (He.ga K "NoRows")) = some false
  em_RowTwice_BadName : PySem.W.exmOne K (.ref (He.ga K "RowTwice")) (.ref (He.ga K "BadName")) = some false
  em_RowTwice_RowTwice : PySem.W.exmOne K (.ref (He.ga K "RowTwice")) (.ref (He.ga K "RowTwice")) = some true
  em_RowTwice_RowError : PySem.W.exmOne K (.ref (He.ga K "RowTwice")) (.ref (He.ga K "RowError")) = some true
  c_LETTERS : ∃ t, mg "LETTERS" = some (.str "abcdefghijklmnopqrstuvwxyz" t)
  c_SIGNS : ∃ t, mg "SIGNS" = some (.str "abcdefghijklmnopqrstuvwxyz0123456789" t)
  c_LONGEST : ∃ t, mg "LONGEST" = some (.int 10 t)
end JP
set_option Elab.async false
set_option linter.all false
set_option maxRecDepth 100000
set_option maxHeartbeats 4000000
namespace JP
open PySem PySem.Spec PyProof.Rows L2 JPX
theorem init1 {K : PySem.W.Frag} {C a : Addr} {f : Str} {y : V} {H : Hp} {Q : VK} (oc : OexC K C) (no : PySem.W.findIn K (.ref C) f = some none) (ha : H a = some (exo a C none))
    (q : ∀ d H2, H d = none → H2 a = some (exo a C (some d)) → H2 d = some (exd d (([f].zip [y]).reverse)) → (∀ b, b ≠ a → b ≠ d → H2 b = H b) → Q .non H2) :
    (tOst K f (tVar 0) (tVar 1)) { nx := fun _ H' => Q .non H', rt := Q } (L2.start ["self", f] [.ref a, y]) H := by
  refine ⟨y, rfl, .ref a, rfl, a, C, rfl, oc, no, .inl ⟨ha, fun dx nd ne => q dx _ nd upd_same ?_ fun b h1 h2 => ?_⟩⟩
  · rw [upd_ne ne, upd_same]; rfl
  · rw [upd_ne h1, upd_ne h2]
theorem init2 {K : PySem.W.Frag} {C a : Addr} {f g : Str} {y z : V} {H : Hp} {Q : VK} (oc : OexC K C) (no : PySem.W.findIn K (.ref C) f = some none) (no2 : PySem.W.findIn K (.ref C) g = some none) (ha : H a = some (exo a C none))
    (q : ∀ d H2, H d = none → H2 a = some (exo a C (some d)) → H2 d = some (exd d (([f, g].zip [y, z]).reverse)) → (∀ b, b ≠ a → b ≠ d → H2 b = H b) → Q .non H2) :
    (tSeq (tOst K f (tVar 0) (tVar 1)) (tOst K g (tVar 0) (tVar 2))) { nx := fun _ H' => Q .non H', rt := Q } (L2.start ["self", f, g] [.ref a, y, z]) H := by
  refine ⟨y, rfl, .ref a, rfl, a, C, rfl, oc, no, .inl ⟨ha, fun dx nd ne => ?_⟩⟩
  refine ⟨z, rfl, .ref a, rfl, a, C, rfl, oc, no2, .inr ⟨dx, [(f, y)], upd_same, by rw [upd_ne ne, upd_same], by show 1 ≤ 900; omega, q dx _ nd ?_ ?_ fun b h1 h2 => ?_⟩⟩
  · rw [upd_ne (Ne.symm ne), upd_same]
  · rw [upd_same]; rfl
  · rw [upd_ne h2, upd_ne h1, upd_ne h2]
theorem sc_in_BadName : FnScope ["self", "name"] ["self", "name"] (defScope (clsInit (top 6))) := ⟨rfl, rfl, rfl, by decide +kernel, rfl, by decide +kernel, by decide +kernel⟩
theorem i_BadName {P : Program} {w : World} {K : PySem.W.Frag} {mg : Str → Option Value} {base : Heap} (T : Tx K mg) : DefI P w K mg base "BadName" ["self", "name"] ["name"] := by
  refine DefI.of T.in_BadName sc_in_BadName (fun _ _ _ _ _ _ us hl => match us, hl with | [_, _], _ => rfl) rfl (fun cdv A outer s H vs Q E hr h => ?_)
  refine ⟨_, PSs.nox (pss_one (ps_ost (pv 0) (pv 1))), ?_⟩
  obtain ⟨a, ys, rfl, hl, ha, q⟩ := h
  obtain ⟨y, rfl⟩ : ∃ y, ys = [y] := by cases ys with | nil => cases hl | cons y r => cases r with | nil => exact ⟨y, rfl⟩ | cons _ _ => simp at hl
  exact init1 T.in_BadName.oc T.no_BadName_name ha q
theorem sc_in_RowTwice : FnScope ["self", "name"] ["self", "name"] (defScope (clsInit (top 7))) := ⟨rfl, rfl, rfl, by decide +kernel, rfl, by decide +kernel, by decide +kernel⟩
theorem i_RowTwice {P : Program} {w : World} {K : PySem.W.Frag} {mg : Str → Option Value} {base : Heap} (T : Tx K mg) : DefI P w K mg base "RowTwice" ["self", "name"] ["name"] := by
  refine DefI.of T.in_RowTwice sc_in_RowTwice (fun _ _ _ _ _ _ us hl => match us, hl with | [_, _], _ => rfl) rfl (fun cdv A outer s H vs Q E hr h => ?_)
  refine ⟨_, PSs.nox (pss_one (ps_ost (pv 0) (pv 1))), ?_⟩
  obtain ⟨a, ys, rfl, hl, ha, q⟩ := h
  obtain ⟨y, rfl⟩ : ∃ y, ys = [y] := by cases ys with | nil => cases hl | cons y r => cases r with | nil => exact ⟨y, rfl⟩ | cons _ _ => simp at hl
  exact init1 T.in_RowTwice.oc T.no_RowTwice_name ha q
theorem sc_in_UnknownRow : FnScope ["self", "name"] ["self", "name"] (defScope (clsInit (top 8))) := ⟨rfl, rfl, rfl, by decide +kernel, rfl, by decide +kernel, by decide +kernel⟩
theorem i_UnknownRow {P : Program} {w : World} {K : PySem.W.Frag} {mg : Str → Option Value} {base : Heap} (T : Tx K mg) : DefI P w K mg base "UnknownRow" ["self", "name"] ["name"] := by
  refine DefI.of T.in_UnknownRow sc_in_UnknownRow (fun _ _ _ _ _ _ us hl => match us, hl with | [_, _], _ => rfl) rfl (fun cdv A outer s H vs Q E hr h => ?_)
  refine ⟨_, PSs.nox (pss_one (ps_ost (pv 0) (pv 1))), ?_⟩
  obtain ⟨a, ys, rfl, hl, ha, q⟩ := h
  obtain ⟨y, rfl⟩ : ∃ y, ys = [y] := by cases ys with | nil => cases hl | cons y r => cases r with | nil => exact ⟨y, rfl⟩ | cons _ _ => simp at hl
  exact init1 T.in_UnknownRow.oc T.no_UnknownRow_name ha q
theorem sc_in_RowsDiffer : FnScope ["self", "one", "two"] ["self", "one", "two"] (defScope (clsInit (top 9))) := ⟨rfl, rfl, rfl, by decide +kernel, rfl, by decide +kernel, by decide +kernel⟩
theorem i_RowsDiffer {P : Program} {w : World} {K : PySem.W.Frag} {mg : Str → Option Value} {base : Heap} (T : Tx K mg) : DefI P w K mg base "RowsDiffer" ["self", "one", "two"] ["one", "two"] := by
  refine DefI.of T.in_RowsDiffer sc_in_RowsDiffer (fun _ _ _ _ _ _ us hl => match us, hl with | [_, _, _], _ => rfl) rfl (fun cdv A outer s H vs Q E hr h => ?_)
  refine ⟨_, PSs.nox (pss_cons (ps_ost (pv 0) (pv 1)) (pss_one (ps_ost (pv 0) (pv 2)))), ?_⟩
  obtain ⟨a, ys, rfl, hl, ha, q⟩ := h
  obtain ⟨y, z, rfl⟩ : ∃ y z, ys = [y, z] := by cases ys with | nil => cases hl | cons y r => cases r with | nil => simp at hl | cons z r => cases r with | nil => exact ⟨y, z, rfl⟩ | cons _ _ => simp at hl
  exact init2 T.in_RowsDiffer.oc T.no_RowsDiffer_one T.no_RowsDiffer_two ha q
theorem sc_in_SpotTwice : FnScope ["self", "row", "place"] ["self", "row", "place"] (defScope (clsInit (top 10))) := ⟨rfl, rfl, rfl, by decide +kernel, rfl, by decide +kernel, by decide +kernel⟩
theorem i_SpotTwice {P : Program} {w : World} {K : PySem.W.Frag} {mg : Str → Option Value} {base : Heap} (T : Tx K mg) : DefI P w K mg base "SpotTwice" ["self", "row", "place"] ["row", "place"] := by
  refine DefI.of T.in_SpotTwice sc_in_SpotTwice (fun _ _ _ _ _ _ us hl => match us, hl with | [_, _, _], _ => rfl) rfl (fun cdv A outer s H vs Q E hr h => ?_)
  refine ⟨_, PSs.nox (pss_cons (ps_ost (pv 0) (pv 1)) (pss_one (ps_ost (pv 0) (pv 2)))), ?_⟩
  obtain ⟨a, ys, rfl, hl, ha, q⟩ := h
  obtain ⟨y, z, rfl⟩ : ∃ y z, ys = [y, z] := by cases ys with | nil => cases hl | cons y r => cases r with | nil => simp at hl | cons z r => cases r with | nil => exact ⟨y, z, rfl⟩ | cons _ _ => simp at hl
  exact init2 T.in_SpotTwice.oc T.no_SpotTwice_row T.no_SpotTwice_place ha q
theorem sc_in_BadStretch : FnScope ["self", "count"] ["self", "count"] (defScope (clsInit (top 11))) := ⟨rfl, rfl, rfl, by decide +kernel, rfl, by decide +kernel, by decide +kernel⟩
theorem i_BadStretch {P : Program} {w : World} {K : PySem.W.Frag} {mg : Str → Option Value} {base : Heap} (T : Tx K mg) : DefI P w K mg base "BadStretch" ["self", "count"] ["count"] := by
  refine DefI.of T.in_BadStretch sc_in_BadStretch (fun _ _ _ _ _ _ us hl => match us, hl with | [_, _], _ => rfl) rfl (fun cdv A outer s H vs Q E hr h => ?_)
  refine ⟨_, PSs.nox (pss_one (ps_ost (pv 0) (pv 1))), ?_⟩
  obtain ⟨a, ys, rfl, hl, ha, q⟩ := h
  obtain ⟨y, rfl⟩ : ∃ y, ys = [y] := by cases ys with | nil => cases hl | cons y r => cases r with | nil => exact ⟨y, rfl⟩ | cons _ _ => simp at hl
  exact init1 T.in_BadStretch.oc T.no_BadStretch_count ha q
theorem sc_in_ShortStretch : FnScope ["self", "span"] ["self", "span"] (defScope (clsInit (top 12))) := ⟨rfl, rfl, rfl, by decide +kernel, rfl, by decide +kernel, by decide +kernel⟩
theorem i_ShortStretch {P : Program} {w : World} {K : PySem.W.Frag} {mg : Str → Option Value} {base : Heap} (T : Tx K mg) : DefI P w K mg base "ShortStretch" ["self", "span"] ["span"] := by
  refine DefI.of T.in_ShortStretch sc_in_ShortStretch (fun _ _ _ _ _ _ us hl => match us, hl with | [_, _], _ => rfl) rfl (fun cdv A outer s H vs Q E hr h => ?_)
  refine ⟨_, PSs.nox (pss_one (ps_ost (pv 0) (pv 1))), ?_⟩
  obtain ⟨a, ys, rfl, hl, ha, q⟩ := h
  obtain ⟨y, rfl⟩ : ∃ y, ys = [y] := by cases ys with | nil => cases hl | cons y r => cases r with | nil => exact ⟨y, rfl⟩ | cons _ _ => simp at hl
  exact init1 T.in_ShortStretch.oc T.no_ShortStretch_span ha q
theorem sc_in_TooLong : FnScope ["self", "longest"] ["self", "longest"] (defScope (clsInit (top 13))) := ⟨rfl, rfl, rfl, by decide +kernel, rfl, by decide +kernel, by decide +kernel⟩
theorem i_TooLong {P : Program} {w : World} {K : PySem.W.Frag} {mg : Str → Option Value} {base : Heap} (T : Tx K mg) : DefI P w K mg base "TooLong" ["self", "longest"] ["longest"] := by
  refine DefI.of T.in_TooLong sc_in_TooLong (fun _ _ _ _ _ _ us hl => match us, hl with | [_, _], _ => rfl) rfl (fun cdv A outer s H vs Q E hr h => ?_)
  refine ⟨_, PSs.nox (pss_one (ps_ost (pv 0) (pv 1))), ?_⟩
  obtain ⟨a, ys, rfl, hl, ha, q⟩ := h
  obtain ⟨y, rfl⟩ : ∃ y, ys = [y] := by cases ys with | nil => cases hl | cons y r => cases r with | nil => exact ⟨y, rfl⟩ | cons _ _ => simp at hl
  exact init1 T.in_TooLong.oc T.no_TooLong_longest ha q
theorem sc_in_CannotStand : FnScope ["self", "terms"] ["self", "terms"] (defScope (clsInit (top 14))) := ⟨rfl, rfl, rfl, by decide +kernel, rfl, by decide +kernel, by decide +kernel⟩
theorem i_CannotStand {P : Program} {w : World} {K : PySem.W.Frag} {mg : Str → Option Value} {base : Heap} (T : Tx K mg) : DefI P w K mg base "CannotStand" ["self", "terms"] ["terms"] := by
  refine DefI.of T.in_CannotStand sc_in_CannotStand (fun _ _ _ _ _ _ us hl => match us, hl with | [_, _], _ => rfl) rfl (fun cdv A outer s H vs Q E hr h => ?_)
  refine ⟨_, PSs.nox (pss_one (ps_ost (pv 0) (pv 1))), ?_⟩
  obtain ⟨a, ys, rfl, hl, ha, q⟩ := h
  obtain ⟨y, rfl⟩ : ∃ y, ys = [y] := by cases ys with | nil => cases hl | cons y r => cases r with | nil => exact ⟨y, rfl⟩ | cons _ _ => simp at hl
  exact init1 T.in_CannotStand.oc T.no_CannotStand_terms ha q
theorem sc_in_Broken : FnScope ["self", "place", "index"] ["self", "place", "index"] (defScope (clsInit (top 15))) := ⟨rfl, rfl, rfl, by decide +kernel, rfl, by decide +kernel, by decide +kernel⟩
theorem i_Broken {P : Program} {w : World} {K : PySem.W.Frag} {mg : Str → Option Value} {base : Heap} (T : Tx K mg) : DefI P w K mg base "Broken" ["self", "place", "index"] ["place", "index"] := by
  refine DefI.of T.in_Broken sc_in_Broken (fun _ _ _ _ _ _ us hl => match us, hl with | [_, _, _], _ => rfl) rfl (fun cdv A outer s H vs Q E hr h => ?_)
  refine ⟨_, PSs.nox (pss_cons (ps_ost (pv 0) (pv 1)) (pss_one (ps_ost (pv 0) (pv 2)))), ?_⟩
  obtain ⟨a, ys, rfl, hl, ha, q⟩ := h
  obtain ⟨y, z, rfl⟩ : ∃ y z, ys = [y, z] := by cases ys with | nil => cases hl | cons y r => cases r with | nil => simp at hl | cons z r => cases r with | nil => exact ⟨y, z, rfl⟩ | cons _ _ => simp at hl
  exact init2 T.in_Broken.oc T.no_Broken_place T.no_Broken_index ha q
theorem sc_in_BadParts : FnScope ["self", "count"] ["self", "count"] (defScope (clsInit (top 17))) := ⟨rfl, rfl, rfl, by decide +kernel, rfl, by decide +kernel, by decide +kernel⟩
theorem i_BadParts {P : Program} {w : World} {K : PySem.W.Frag} {mg : Str → Option Value} {base : Heap} (T : Tx K mg) : DefI P w K mg base "BadParts" ["self", "count"] ["count"] := by
  refine DefI.of T.in_BadParts sc_in_BadParts (fun _ _ _ _ _ _ us hl => match us, hl with | [_, _], _ => rfl) rfl (fun cdv A outer s H vs Q E hr h => ?_)
  refine ⟨_, PSs.nox (pss_one (ps_ost (pv 0) (pv 1))), ?_⟩
  obtain ⟨a, ys, rfl, hl, ha, q⟩ := h
  obtain ⟨y, rfl⟩ : ∃ y, ys = [y] := by cases ys with | nil => cases hl | cons y r => cases r with | nil => exact ⟨y, rfl⟩ | cons _ _ => simp at hl
  exact init1 T.in_BadParts.oc T.no_BadParts_count ha q
theorem sc_in_Barred : FnScope ["self", "terms"] ["self", "terms"] (defScope (clsInit (top 18))) := ⟨rfl, rfl, rfl, by decide +kernel, rfl, by decide +kernel, by decide +kernel⟩
theorem i_Barred {P : Program} {w : World} {K : PySem.W.Frag} {mg : Str → Option Value} {base : Heap} (T : Tx K mg) : DefI P w K mg base "Barred" ["self", "terms"] ["terms"] := by
  refine DefI.of T.in_Barred sc_in_Barred (fun _ _ _ _ _ _ us hl => match us, hl with | [_, _], _ => rfl) rfl (fun cdv A outer s H vs Q E hr h => ?_)
  refine ⟨_, PSs.nox (pss_one (ps_ost (pv 0) (pv 1))), ?_⟩
  obtain ⟨a, ys, rfl, hl, ha, q⟩ := h
  obtain ⟨y, rfl⟩ : ∃ y, ys = [y] := by cases ys with | nil => cases hl | cons y r => cases r with | nil => exact ⟨y, rfl⟩ | cons _ _ => simp at hl
  exact init1 T.in_Barred.oc T.no_Barred_terms ha q
theorem sc_in_NotCourse : FnScope ["self", "count"] ["self", "count"] (defScope (clsInit (top 19))) := ⟨rfl, rfl, rfl, by decide +kernel, rfl, by decide +kernel, by decide +kernel⟩
theorem i_NotCourse {P : Program} {w : World} {K : PySem.W.Frag} {mg : Str → Option Value} {base : Heap} (T : Tx K mg) : DefI P w K mg base "NotCourse" ["self", "count"] ["count"] := by
  refine DefI.of T.in_NotCourse sc_in_NotCourse (fun _ _ _ _ _ _ us hl => match us, hl with | [_, _], _ => rfl) rfl (fun cdv A outer s H vs Q E hr h => ?_)
  refine ⟨_, PSs.nox (pss_one (ps_ost (pv 0) (pv 1))), ?_⟩
  obtain ⟨a, ys, rfl, hl, ha, q⟩ := h
  obtain ⟨y, rfl⟩ : ∃ y, ys = [y] := by cases ys with | nil => cases hl | cons y r => cases r with | nil => exact ⟨y, rfl⟩ | cons _ _ => simp at hl
  exact init1 T.in_NotCourse.oc T.no_NotCourse_count ha q
theorem sc_in_BreaksOwnRule : FnScope ["self", "place"] ["self", "place"] (defScope (clsInit (top 20))) := ⟨rfl, rfl, rfl, by decide +kernel, rfl, by decide +kernel, by decide +kernel⟩
theorem i_BreaksOwnRule {P : Program} {w : World} {K : PySem.W.Frag} {mg : Str → Option Value} {base : Heap} (T : Tx K mg) : DefI P w K mg base "BreaksOwnRule" ["self", "place"] ["place"] := by
  refine DefI.of T.in_BreaksOwnRule sc_in_BreaksOwnRule (fun _ _ _ _ _ _ us hl => match us, hl with | [_, _], _ => rfl) rfl (fun cdv A outer s H vs Q E hr h => ?_)
  refine ⟨_, PSs.nox (pss_one (ps_ost (pv 0) (pv 1))), ?_⟩
  obtain ⟨a, ys, rfl, hl, ha, q⟩ := h
  obtain ⟨y, rfl⟩ : ∃ y, ys = [y] := by cases ys with | nil => cases hl | cons y r => cases r with | nil => exact ⟨y, rfl⟩ | cons _ _ => simp at hl
  exact init1 T.in_BreaksOwnRule.oc T.no_BreaksOwnRule_place ha q
theorem sc_in_NotBlocked : FnScope ["self", "count"] ["self", "count"] (defScope (clsInit (top 21))) := ⟨rfl, rfl, rfl, by decide +kernel, rfl, by decide +kernel, by decide +kernel⟩
theorem i_NotBlocked {P : Program} {w : World} {K : PySem.W.Frag} {mg : Str → Option Value} {base : Heap} (T : Tx K mg) : DefI P w K mg base "NotBlocked" ["self", "count"] ["count"] := by
  refine DefI.of T.in_NotBlocked sc_in_NotBlocked (fun _ _ _ _ _ _ us hl => match us, hl with | [_, _], _ => rfl) rfl (fun cdv A outer s H vs Q E hr h => ?_)
  refine ⟨_, PSs.nox (pss_one (ps_ost (pv 0) (pv 1))), ?_⟩
  obtain ⟨a, ys, rfl, hl, ha, q⟩ := h
  obtain ⟨y, rfl⟩ : ∃ y, ys = [y] := by cases ys with | nil => cases hl | cons y r => cases r with | nil => exact ⟨y, rfl⟩ | cons _ _ => simp at hl
  exact init1 T.in_NotBlocked.oc T.no_NotBlocked_count ha q
theorem sc_in_NotStricter : FnScope ["self", "terms"] ["self", "terms"] (defScope (clsInit (top 24))) := ⟨rfl, rfl, rfl, by decide +kernel, rfl, by decide +kernel, by decide +kernel⟩
theorem i_NotStricter {P : Program} {w : World} {K : PySem.W.Frag} {mg : Str → Option Value} {base : Heap} (T : Tx K mg) : DefI P w K mg base "NotStricter" ["self", "terms"] ["terms"] := by
  refine DefI.of T.in_NotStricter sc_in_NotStricter (fun _ _ _ _ _ _ us hl => match us, hl with | [_, _], _ => rfl) rfl (fun cdv A outer s H vs Q E hr h => ?_)
  refine ⟨_, PSs.nox (pss_one (ps_ost (pv 0) (pv 1))), ?_⟩
  obtain ⟨a, ys, rfl, hl, ha, q⟩ := h
  obtain ⟨y, rfl⟩ : ∃ y, ys = [y] := by cases ys with | nil => cases hl | cons y r => cases r with | nil => exact ⟨y, rfl⟩ | cons _ _ => simp at hl
  exact init1 T.in_NotStricter.oc T.no_NotStricter_terms ha q
theorem sc_in_NotLet : FnScope ["self", "index"] ["self", "index"] (defScope (clsInit (top 26))) := ⟨rfl, rfl, rfl, by decide +kernel, rfl, by decide +kernel, by decide +kernel⟩
theorem i_NotLet {P : Program} {w : World} {K : PySem.W.Frag} {mg : Str → Option Value} {base : Heap} (T : Tx K mg) : DefI P w K mg base "NotLet" ["self", "index"] ["index"] := by
  refine DefI.of T.in_NotLet sc_in_NotLet (fun _ _ _ _ _ _ us hl => match us, hl with | [_, _], _ => rfl) rfl (fun cdv A outer s H vs Q E hr h => ?_)
  refine ⟨_, PSs.nox (pss_one (ps_ost (pv 0) (pv 1))), ?_⟩
  obtain ⟨a, ys, rfl, hl, ha, q⟩ := h
  obtain ⟨y, rfl⟩ : ∃ y, ys = [y] := by cases ys with | nil => cases hl | cons y r => cases r with | nil => exact ⟨y, rfl⟩ | cons _ _ => simp at hl
  exact init1 T.in_NotLet.oc T.no_NotLet_index ha q
theorem sc_in_NotFree : FnScope ["self", "rows"] ["self", "rows"] (defScope (clsInit (top 27))) := ⟨rfl, rfl, rfl, by decide +kernel, rfl, by decide +kernel, by decide +kernel⟩
theorem i_NotFree {P : Program} {w : World} {K : PySem.W.Frag} {mg : Str → Option Value} {base : Heap} (T : Tx K mg) : DefI P w K mg base "NotFree" ["self", "rows"] ["rows"] := by
  refine DefI.of T.in_NotFree sc_in_NotFree (fun _ _ _ _ _ _ us hl => match us, hl with | [_, _], _ => rfl) rfl (fun cdv A outer s H vs Q E hr h => ?_)
  refine ⟨_, PSs.nox (pss_one (ps_ost (pv 0) (pv 1))), ?_⟩
  obtain ⟨a, ys, rfl, hl, ha, q⟩ := h
  obtain ⟨y, rfl⟩ : ∃ y, ys = [y] := by cases ys with | nil => cases hl | cons y r => cases r with | nil => exact ⟨y, rfl⟩ | cons _ _ => simp at hl
  exact init1 T.in_NotFree.oc T.no_NotFree_rows ha q
theorem sc_in_NotTimely : FnScope ["self", "rows"] ["self", "rows"] (defScope (clsInit (top 28))) := ⟨rfl, rfl, rfl, by decide +kernel, rfl, by decide +kernel, by decide +kernel⟩
theorem i_NotTimely {P : Program} {w : World} {K : PySem.W.Frag} {mg : Str → Option Value} {base : Heap} (T : Tx K mg) : DefI P w K mg base "NotTimely" ["self", "rows"] ["rows"] := by
  refine DefI.of T.in_NotTimely sc_in_NotTimely (fun _ _ _ _ _ _ us hl => match us, hl with | [_, _], _ => rfl) rfl (fun cdv A outer s H vs Q E hr h => ?_)
  refine ⟨_, PSs.nox (pss_one (ps_ost (pv 0) (pv 1))), ?_⟩
  obtain ⟨a, ys, rfl, hl, ha, q⟩ := h
  obtain ⟨y, rfl⟩ : ∃ y, ys = [y] := by cases ys with | nil => cases hl | cons y r => cases r with | nil => exact ⟨y, rfl⟩ | cons _ _ => simp at hl
  exact init1 T.in_NotTimely.oc T.no_NotTimely_rows ha q
theorem sc_in_NotEntered : FnScope ["self", "index"] ["self", "index"] (defScope (clsInit (top 29))) := ⟨rfl, rfl, rfl, by decide +kernel, rfl, by decide +kernel, by decide +kernel⟩
theorem i_NotEntered {P : Program} {w : World} {K : PySem.W.Frag} {mg : Str → Option Value} {base : Heap} (T : Tx K mg) : DefI P w K mg base "NotEntered" ["self", "index"] ["index"] := by
  refine DefI.of T.in_NotEntered sc_in_NotEntered (fun _ _ _ _ _ _ us hl => match us, hl with | [_, _], _ => rfl) rfl (fun cdv A outer s H vs Q E hr h => ?_)
  refine ⟨_, PSs.nox (pss_one (ps_ost (pv 0) (pv 1))), ?_⟩
  obtain ⟨a, ys, rfl, hl, ha, q⟩ := h
  obtain ⟨y, rfl⟩ : ∃ y, ys = [y] := by cases ys with | nil => cases hl | cons y r => cases r with | nil => exact ⟨y, rfl⟩ | cons _ _ => simp at hl
  exact init1 T.in_NotEntered.oc T.no_NotEntered_index ha q
theorem sc_in_BadNotation : FnScope ["self", "line"] ["self", "line"] (defScope (clsInit (top 31))) := ⟨rfl, rfl, rfl, by decide +kernel, rfl, by decide +kernel, by decide +kernel⟩
theorem i_BadNotation {P : Program} {w : World} {K : PySem.W.Frag} {mg : Str → Option Value} {base : Heap} (T : Tx K mg) : DefI P w K mg base "BadNotation" ["self", "line"] ["line"] := by
  refine DefI.of T.in_BadNotation sc_in_BadNotation (fun _ _ _ _ _ _ us hl => match us, hl with | [_, _], _ => rfl) rfl (fun cdv A outer s H vs Q E hr h => ?_)
  refine ⟨_, PSs.nox (pss_one (ps_ost (pv 0) (pv 1))), ?_⟩
  obtain ⟨a, ys, rfl, hl, ha, q⟩ := h
  obtain ⟨y, rfl⟩ : ∃ y, ys = [y] := by cases ys with | nil => cases hl | cons y r => cases r with | nil => exact ⟨y, rfl⟩ | cons _ _ => simp at hl
  exact init1 T.in_BadNotation.oc T.no_BadNotation_line ha q
end JP
set_option Elab.async false
set_option linter.all false
set_option maxRecDepth 100000
set_option maxHeartbeats 4000000
set_option pp.deepTerms false
set_option pp.deepTerms.threshold 6
set_option pp.maxSteps 1200
namespace JP
open PySem PySem.Spec PyProof.Rows L2 L2H JPX
local macro_rules | `(tactic| walk_at "nb") => `(tactic| first | with_reducible exact fz_bw | with_reducible exact nw_bw | with_reducible exact ow_bw)
local macro_rules | `(tactic| walk_at "kd") => `(tactic| first | with_reducible exact Or.inl rfl | with_reducible exact Or.inr rfl)
local macro_rules | `(tactic| walk_at "af") => `(tactic| repeat (first | with_reducible exact allF_nil | ((with_reducible refine allF_cons ?h ?_); (case h => walk_at "kd"))))
local macro_rules | `(tactic| walk_at "sz") => `(tactic| (simp only [List.length_cons, List.length_nil, List.length_append, List.length_map, List.length_range]; decide))
local macro_rules | `(tactic| walk_at "side") => `(tactic| first | assumption | (exact small_div (by omega) (by omega)) | (exact small_mul (by omega) (by omega)) | (exact med_mul (by omega) (by omega)) | (exact big_mul (by omega) (by omega)) | (exact ⟨by decide, by decide, by decide⟩) | (show (0 : Int) < _; omega))
local macro_rules | `(tactic| walk_at "d0") => `(tactic| simp only [cxOf_K, List.map_cons, List.map_nil, List.length_cons, List.length_nil, Nat.reduceAdd, Nat.reduceSub, List.replicate_succ, List.replicate_zero, List.cons_append, List.nil_append])
local macro_rules | `(tactic| walk_at "ds") => `(tactic| try dsimp only [wipeE, List.set_cons_zero, List.set_cons_succ])
local macro_rules | `(tactic| walk_at "dm") => `(tactic| dsimp only [List.map])
local macro_rules | `(tactic| walk_at "dS") => `(tactic| first
  | with_reducible refine sd_seq ?_
  | with_reducible refine sd_next ?_
  | ((with_reducible refine sd_own ?h ?q); (case h => exact rfl))
  | ((with_reducible refine sd_setI (ds := ?ds) ?e ?q); (case e => exact rfl))
  | with_reducible refine sd_asg ?_
  | with_reducible refine sd_if ?_
  | with_reducible refine sd_ret ?_
  | with_reducible refine sd_new ?_
  | ((with_reducible refine sd_app (ds := ?ds) ?e ?q); (case e => exact rfl))
  | ((with_reducible refine sd_dput (kvs := ?kvs) ?e ?q); (case e => exact rfl))
  | ((with_reducible refine sd_mputT (kvs := ?kvs) ?e ?q); (case e => exact rfl))
  | with_reducible refine sd_drop ?_
  | with_reducible refine sd_ret0 ?_
  | with_reducible refine sd_for ?_
  | with_reducible refine sd_for1 ?_
  | with_reducible refine sd_for2 ?_
  | with_reducible refine sd_for3 ?_
  | ((with_reducible refine sd_augI (a := ?a) ?e ?q); (case e => exact rfl))
  | with_reducible refine sd_brk ?_
  | with_reducible refine sd_cont ?_)
local macro_rules | `(tactic| walk_at "dE") => `(tactic| first
  | ((with_reducible refine ev_var (d := ?d) ?e ?q); (case e => exact rfl))
  | ((with_reducible refine ev_own (d := ?d) ?e ?q); (case e => exact rfl))
  | with_reducible refine ev_int ?_
  | with_reducible refine ev_op ?_
  | with_reducible refine ev_cb ?_
  | ((with_reducible refine ev_call ?l ?q); (case l => assumption))
  | with_reducible refine ev_tup ?_
  | with_reducible refine ev_lst ?_
  | with_reducible refine ev_un ?_
  | with_reducible refine ev_bl ?_
  | with_reducible refine ev_non ?_
  | with_reducible refine ev_str ?_
  | with_reducible refine ev_ty ?_
  | with_reducible refine ev_ref ?_
  | with_reducible refine ev_if ?_
  | with_reducible refine ev_not ?_
  | with_reducible refine ev_notT ?_
  | with_reducible refine ev_and ?_
  | with_reducible refine ev_or ?_
  | with_reducible refine ev_chain ?_
  | with_reducible refine ev_bits ?_
  | with_reducible refine ev_dget ?_
  | with_reducible refine ev_dget2 ?_
  | with_reducible refine ev_mgT ?_
  | with_reducible refine ev_mg2T ?_
  | with_reducible refine ev_dnewT ?_
  | with_reducible refine ev_slT ?_
  | with_reducible refine ev_slS ?_
  | with_reducible refine ev_join ?_
  | with_reducible refine ev_dnew ?_
  | with_reducible refine ev_slL ?_
  | with_reducible refine ev_disp1 ?_
  | with_reducible refine ev_dispT ?_)
local macro_rules | `(tactic| walk_at "dO") => `(tactic| first
  | with_reducible refine op2_addI ?_
  | with_reducible refine op2_I0 ?_
  | ((with_reducible refine op2_addL ?a ?b ?z ?q); (case a => walk_at "nb"); (case b => walk_at "nb"); (case z => first | walk_at "sz" | exact size_le (by simp only [List.length_cons, List.length_nil, List.length_append, List.length_map, List.length_range, List.length_take, List.length_drop]; omega)))
  | with_reducible refine op2_B0 ?_
  | ((with_reducible refine op2_ix (ds := ?ds) (d := ?d) ?e ?a ?k ?q); (case e => exact rfl); (case a => exact rfl); (case k => walk_at "nb"))
  | with_reducible refine op2_eqI ?_
  | with_reducible refine op2_neI ?_
  | with_reducible refine op2_p18 ?_
  | with_reducible refine op2_p9 ?_
  | with_reducible refine op2_p6 ?_
  | with_reducible refine op2_p30 ?_
  | with_reducible refine op2_p12 ?_
  | with_reducible refine op2_p15 ?_
  | with_reducible refine op2_p24 ?_
  | with_reducible refine op2_p20 ?_
  | with_reducible refine op2_p2 ?_
  | with_reducible refine op2_p3 ?_
  | with_reducible refine op2_p4 ?_
  | with_reducible refine op2_p5 ?_
  | ((with_reducible refine op2_I ?c ?q); (case c => walk_at "side"))
  | with_reducible refine op2_eqS ?_
  | with_reducible refine op2_neS ?_
  | with_reducible refine op2_eqB ?_
  | with_reducible refine op2_neB ?_
  | with_reducible refine op2_is ?_
  | with_reducible refine op2_isNot ?_)
local macro_rules | `(tactic| walk_at "dN") => `(tactic| first
  | with_reducible refine opn_int ?_
  | ((with_reducible refine opn_len (ds := ?ds) ?e ?q); (case e => exact rfl))
  | with_reducible refine opn_lenD ?_
  | ((with_reducible refine opn_lenT ?l ?q); (case l => assumption))
  | with_reducible refine opn_intB ?_
  | with_reducible refine opn_abs ?_
  | with_reducible refine opn_gcd ?_
  | ((with_reducible refine opn_list (ds := ?ds) ?e ?k ?q); (case e => exact rfl); (case k => walk_at "nb"))
  | ((with_reducible refine opn_tuple (ds := ?ds) ?e ?k ?s ?q); (case e => exact rfl); (case k => walk_at "nb"); (case s => exact (fun _ => nofun)))
  | ((with_reducible refine opn_isi true ?n ?c ?e ?q); (case e => exact rfl); (case n => exact rfl); (case c => exact rfl))
  | ((with_reducible refine opn_isi false ?n ?c ?e ?q); (case e => exact rfl); (case n => exact rfl); (case c => exact rfl)))
local macro_rules | `(tactic| walk_at "dT") => `(tactic| first
  | with_reducible refine tt_test ?_
  | with_reducible refine tt_B ?_
  | with_reducible refine tt_and ?_
  | with_reducible refine tt_or ?_
  | with_reducible refine tt_not ?_
  | with_reducible refine tt_yes ?_
  | with_reducible refine tt_tru ?_)
local macro_rules | `(tactic| walk_at "dG") => `(tactic| first
  | ((with_reducible refine gt_name ?k ?q); (case k => walk_at "kd"); (walk_at "ds"))
  | ((with_reducible refine gn_name ?_); (walk_at "ds"))
  | ((with_reducible refine gn_tup (ds := ?ds) ?e ?n ?q); (case e => exact rfl); (case n => exact rfl))
  | ((with_reducible refine gt_tup (ds := ?ds) ?e ?n ?k ?q); (case e => exact rfl); (case n => exact rfl); (case k => walk_at "nb"))
  | ((with_reducible refine gta_name ?_); (walk_at "ds"))
  | ((with_reducible refine gta_tup (es := ?es) ?e ?n ?q); (case e => exact rfl); (case n => exact rfl))
  | with_reducible refine gta_nil ?_)
local macro_rules | `(tactic| walk_at "d1") => `(tactic| first
  | ((with_reducible show Ev _ _ _ _ _); walk_at "dE")
  | ((with_reducible show EvA _ _ _ _ _); first | with_reducible refine eva_cons ?_ | with_reducible refine eva_nil ?_)
  | ((with_reducible show Op2 _ _ _ _ _ _); walk_at "dO")
  | ((with_reducible show Sd _ _ _ _ _); walk_at "dS")
  | ((with_reducible show Gt _ _ _ _ _ _ _); walk_at "dG")
  | ((with_reducible show Tt _ _ _ _ _); walk_at "dT")
  | ((with_reducible show OpN _ _ _ _ _); walk_at "dN")
  | with_reducible refine bl_i ?_
  | with_reducible refine eq_int ?_
  | ((with_reducible refine lct_yes ?_); (try dsimp only [wipeE, List.set_cons_zero, List.set_cons_succ]))
  | ((with_reducible refine lct_g ?_); (try dsimp only [wipeE, List.set_cons_zero, List.set_cons_succ]))
  | with_reducible refine pt_no ?_
  | with_reducible refine pt_some ?_
  | with_reducible refine ls_fz ?_
  | with_reducible refine ls_ow ?_
  | with_reducible refine ls_nw ?_
  | with_reducible refine ls_s ?_
  | with_reducible refine dk_fz ?_
  | with_reducible refine dk_ow ?_
  | with_reducible refine dk_nw ?_
  | with_reducible refine key_i ?_
  | with_reducible refine key_s ?_
  | with_reducible refine dt_fz ?_
  | with_reducible refine dt_ow ?_
  | with_reducible refine dt_nw ?_
  | with_reducible refine tk_fz ?_
  | with_reducible refine tp_fz ?_
  | with_reducible refine st_i ?_
  | ((with_reducible show Gn _ _ _ _ _ _); walk_at "dG")
  | ((with_reducible show GtA _ _ _ _ _ _); walk_at "dG")
  | ((with_reducible show Op1 _ _ _ _ _); with_reducible refine op1_U ?_)
  | ((with_reducible show (_ = Kd.fz ∨ _) ∧ _); (with_reducible refine ⟨?f, ?q⟩); (case f => walk_at "kd"))
  | ((with_reducible show (_ = Kd.nw ∨ _) ∧ _); (with_reducible refine ⟨?f, ?q⟩); (case f => walk_at "kd"))
  | ((with_reducible show (allF _) ∧ _); (with_reducible refine ⟨?f, ?q⟩); (case f => walk_at "af"); (try walk_at "dm"))
  | ((with_reducible show (_ ≤ sizeLine) ∧ _); (with_reducible refine ⟨?z, ?q⟩); (case z => first | walk_at "sz" | exact size_le (by omega)))
  | ((with_reducible show (_ = Kd.nw) ∧ _); (with_reducible refine ⟨rfl, ?q⟩); (try walk_at "ds"))
  | ((with_reducible show (_ ≠ Kd.bw) ∧ _); (with_reducible refine ⟨?f, ?q⟩); (case f => walk_at "nb"))
  | ((with_reducible show (Da.truOk _ _) ∧ _); (with_reducible refine ⟨?f, ?q⟩); (case f => first | exact trivial | assumption))
  | with_reducible refine iff_t rfl ?_
  | with_reducible refine iff_f rfl ?_)
local macro_rules | `(tactic| walk_at "d") => `(tactic| repeat (walk_at "d1"))
theorem at_row {α : Type} {L M : List α} (h : L = M) (j : Nat) {x y : α} (hx : L[j]? = some x) (hy : M[j]? = some y) : x = y := by
  rw [h, hy] at hx
  exact (Option.some.inj hx).symm
/-- C is the error class with this number -/
structure Knd (K : PySem.W.Frag) (C : Addr) (k : Nat) : Prop where
  lt : k < 30
  xc : ExcC K C
  row : (clsL.map fun n => PySem.W.kitOne K (.ref C) (.ref (He.ga K n))) = rowK k
  re : PySem.W.kitOne K (.ref C) (.ref (He.ga K "RowError")) = some true
  ve : PySem.W.kitOne K (.ref C) (.type "ValueError") = some true
theorem row_at (k i : Nat) (h : i < 30) : atI ((List.range 30).map fun j => Da.bl (decide (j = k))) (i : Int) = some (.bl (decide (i = k))) := atI_nat (by rw [List.getElem?_map, List.getElem?_range h]; rfl)
def R__law_kinds (K : PySem.W.Frag) : SpR := fun ds Pq _ => ∃ (C : Addr) (ns : List Str) (xs : List Da) (k : Nat), ds = [.xc C ns xs] ∧ Knd K C k ∧ Pq .fz (.lst [.int k])
theorem sc__law_kinds : FnScope ["e", "row", "k"] ["e"] (defScope (top 46)) := ⟨rfl, rfl, rfl, by decide +kernel, rfl, by decide +kernel, by decide +kernel⟩
theorem d__law_kinds {P : Program} {w : World} {K : PySem.W.Frag} {mg : Str → Option Value} {base : Heap} (T : Tx K mg) : Def P w K mg base "_law_kinds" 1 ["e"] (SpD K (R__law_kinds K)) := by
  refine Def.of T.at__law_kinds sc__law_kinds (fun _ _ _ _ _ _ us hl => match us, hl with | [_], _ => rfl) (fun vs H Q E h => by (obtain ⟨_, _, _, _, _, h2, h, _⟩ := h; rw [← h2.len]; obtain ⟨_, _, _, _, rfl, _⟩ := h; rfl)) (fun f cdv A outer s H vs Q E hr h => ?_)
  refine ⟨_, PSs.nox (pss_cons (ps_set (i := 1) sc__law_kinds.nd rfl (Or.inr rfl) (pe_lstA (pa_cons (pe_callB call_isV (by rfl) T.n_isinstance (by decide +kernel) (pa_cons (pv 0) (pa_cons (pe_glob (v := .ref (He.ga K "NoQuotient")) (by rfl) T.g_NoQuotient rfl) pa_nil))) (pa_cons (pe_callB call_isV (by rfl) T.n_isinstance (by decide +kernel) (pa_cons (pv 0) (pa_cons (pe_glob (v := .ref (He.ga K "ZeroPolynomial")) (by rfl) T.g_ZeroPolynomial rfl) pa_nil))) (pa_cons (pe_callB call_isV (by rfl) T.n_isinstance (by decide +kernel) (pa_cons (pv 0) (pa_cons (pe_glob (v := .ref (He.ga K "ZeroSum")) (by rfl) T.g_ZeroSum rfl) pa_nil))) (pa_cons (pe_callB call_isV (by rfl) T.n_isinstance (by decide +kernel) (pa_cons (pv 0) (pa_cons (pe_glob (v := .ref (He.ga K "NoRows")) (by rfl) T.g_NoRows rfl) pa_nil))) pa_nil))))))
      (pss_cons (ps_set (i := 1) sc__law_kinds.nd rfl (Or.inr rfl) (pe_op op_addA (pv 1) (pe_lstA (pa_cons (pe_callB call_isV (by rfl) T.n_isinstance (by decide +kernel) (pa_cons (pv 0) (pa_cons (pe_glob (v := .ref (He.ga K "BadName")) (by rfl) T.g_BadName rfl) pa_nil))) (pa_cons (pe_callB call_isV (by rfl) T.n_isinstance (by decide +kernel) (pa_cons (pv 0) (pa_cons (pe_glob (v := .ref (He.ga K "RowTwice")) (by rfl) T.g_RowTwice rfl) pa_nil))) (pa_cons (pe_callB call_isV (by rfl) T.n_isinstance (by decide +kernel) (pa_cons (pv 0) (pa_cons (pe_glob (v := .ref (He.ga K "UnknownRow")) (by rfl) T.g_UnknownRow rfl) pa_nil))) (pa_cons (pe_callB call_isV (by rfl) T.n_isinstance (by decide +kernel) (pa_cons (pv 0) (pa_cons (pe_glob (v := .ref (He.ga K "RowsDiffer")) (by rfl) T.g_RowsDiffer rfl) pa_nil))) pa_nil)))))))
      (pss_cons (ps_set (i := 1) sc__law_kinds.nd rfl (Or.inr rfl) (pe_op op_addA (pv 1) (pe_lstA (pa_cons (pe_callB call_isV (by rfl) T.n_isinstance (by decide +kernel) (pa_cons (pv 0) (pa_cons (pe_glob (v := .ref (He.ga K "SpotTwice")) (by rfl) T.g_SpotTwice rfl) pa_nil))) (pa_cons (pe_callB call_isV (by rfl) T.n_isinstance (by decide +kernel) (pa_cons (pv 0) (pa_cons (pe_glob (v := .ref (He.ga K "BadStretch")) (by rfl) T.g_BadStretch rfl) pa_nil))) (pa_cons (pe_callB call_isV (by rfl) T.n_isinstance (by decide +kernel) (pa_cons (pv 0) (pa_cons (pe_glob (v := .ref (He.ga K "ShortStretch")) (by rfl) T.g_ShortStretch rfl) pa_nil))) pa_nil))))))
      (pss_cons (ps_set (i := 1) sc__law_kinds.nd rfl (Or.inr rfl) (pe_op op_addA (pv 1) (pe_lstA (pa_cons (pe_callB call_isV (by rfl) T.n_isinstance (by decide +kernel) (pa_cons (pv 0) (pa_cons (pe_glob (v := .ref (He.ga K "TooLong")) (by rfl) T.g_TooLong rfl) pa_nil))) (pa_cons (pe_callB call_isV (by rfl) T.n_isinstance (by decide +kernel) (pa_cons (pv 0) (pa_cons (pe_glob (v := .ref (He.ga K "CannotStand")) (by rfl) T.g_CannotStand rfl) pa_nil))) (pa_cons (pe_callB call_isV (by rfl) T.n_isinstance (by decide +kernel) (pa_cons (pv 0) (pa_cons (pe_glob (v := .ref (He.ga K "Broken")) (by rfl) T.g_Broken rfl) pa_nil))) (pa_cons (pe_callB call_isV (by rfl) T.n_isinstance (by decide +kernel) (pa_cons (pv 0) (pa_cons (pe_glob (v := .ref (He.ga K "NotFinite")) (by rfl) T.g_NotFinite rfl) pa_nil))) pa_nil)))))))
      (pss_cons (ps_set (i := 1) sc__law_kinds.nd rfl (Or.inr rfl) (pe_op op_addA (pv 1) (pe_lstA (pa_cons (pe_callB call_isV (by rfl) T.n_isinstance (by decide +kernel) (pa_cons (pv 0) (pa_cons (pe_glob (v := .ref (He.ga K "BadParts")) (by rfl) T.g_BadParts rfl) pa_nil))) (pa_cons (pe_callB call_isV (by rfl) T.n_isinstance (by decide +kernel) (pa_cons (pv 0) (pa_cons (pe_glob (v := .ref (He.ga K "Barred")) (by rfl) T.g_Barred rfl) pa_nil))) (pa_cons (pe_callB call_isV (by rfl) T.n_isinstance (by decide +kernel) (pa_cons (pv 0) (pa_cons (pe_glob (v := .ref (He.ga K "NotCourse")) (by rfl) T.g_NotCourse rfl) pa_nil))) pa_nil))))))
      (pss_cons (ps_set (i := 1) sc__law_kinds.nd rfl (Or.inr rfl) (pe_op op_addA (pv 1) (pe_lstA (pa_cons (pe_callB call_isV (by rfl) T.n_isinstance (by decide +kernel) (pa_cons (pv 0) (pa_cons (pe_glob (v := .ref (He.ga K "BreaksOwnRule")) (by rfl) T.g_BreaksOwnRule rfl) pa_nil))) (pa_cons (pe_callB call_isV (by rfl) T.n_isinstance (by decide +kernel) (pa_cons (pv 0) (pa_cons (pe_glob (v := .ref (He.ga K "NotBlocked")) (by rfl) T.g_NotBlocked rfl) pa_nil))) (pa_cons (pe_callB call_isV (by rfl) T.n_isinstance (by decide +kernel) (pa_cons (pv 0) (pa_cons (pe_glob (v := .ref (He.ga K "Unsure")) (by rfl) T.g_Unsure rfl) pa_nil))) pa_nil))))))
      (pss_cons (ps_set (i := 1) sc__law_kinds.nd rfl (Or.inr rfl) (pe_op op_addA (pv 1) (pe_lstA (pa_cons (pe_callB call_isV (by rfl) T.n_isinstance (by decide +kernel) (pa_cons (pv 0) (pa_cons (pe_glob (v := .ref (He.ga K "Contradiction")) (by rfl) T.g_Contradiction rfl) pa_nil))) (pa_cons (pe_callB call_isV (by rfl) T.n_isinstance (by decide +kernel) (pa_cons (pv 0) (pa_cons (pe_glob (v := .ref (He.ga K "NotStricter")) (by rfl) T.g_NotStricter rfl) pa_nil))) (pa_cons (pe_callB call_isV (by rfl) T.n_isinstance (by decide +kernel) (pa_cons (pv 0) (pa_cons (pe_glob (v := .ref (He.ga K "NoFamilies")) (by rfl) T.g_NoFamilies rfl) pa_nil))) pa_nil))))))
      (pss_cons (ps_set (i := 1) sc__law_kinds.nd rfl (Or.inr rfl) (pe_op op_addA (pv 1) (pe_lstA (pa_cons (pe_callB call_isV (by rfl) T.n_isinstance (by decide +kernel) (pa_cons (pv 0) (pa_cons (pe_glob (v := .ref (He.ga K "NotLet")) (by rfl) T.g_NotLet rfl) pa_nil))) (pa_cons (pe_callB call_isV (by rfl) T.n_isinstance (by decide +kernel) (pa_cons (pv 0) (pa_cons (pe_glob (v := .ref (He.ga K "NotFree")) (by rfl) T.g_NotFree rfl) pa_nil))) (pa_cons (pe_callB call_isV (by rfl) T.n_isinstance (by decide +kernel) (pa_cons (pv 0) (pa_cons (pe_glob (v := .ref (He.ga K "NotTimely")) (by rfl) T.g_NotTimely rfl) pa_nil))) pa_nil))))))
      (pss_cons (ps_set (i := 1) sc__law_kinds.nd rfl (Or.inr rfl) (pe_op op_addA (pv 1) (pe_lstA (pa_cons (pe_callB call_isV (by rfl) T.n_isinstance (by decide +kernel) (pa_cons (pv 0) (pa_cons (pe_glob (v := .ref (He.ga K "NotEntered")) (by rfl) T.g_NotEntered rfl) pa_nil))) (pa_cons (pe_callB call_isV (by rfl) T.n_isinstance (by decide +kernel) (pa_cons (pv 0) (pa_cons (pe_glob (v := .ref (He.ga K "NothingToUndo")) (by rfl) T.g_NothingToUndo rfl) pa_nil))) (pa_cons (pe_callB call_isV (by rfl) T.n_isinstance (by decide +kernel) (pa_cons (pv 0) (pa_cons (pe_glob (v := .ref (He.ga K "BadNotation")) (by rfl) T.g_BadNotation rfl) pa_nil))) pa_nil))))))
      (pss_cons (ps_if (PW.pt (pw_or (pt_not (pt_val (pe_callB call_isV (by rfl) T.n_isinstance (by decide +kernel) (pa_cons (pv 0) (pa_cons (pe_glob (v := .ref (He.ga K "RowError")) (by rfl) T.g_RowError rfl) pa_nil))))) (pw_or1 (pt_not (pt_val (pe_callB call_isV (by rfl) T.n_isinstance (by decide +kernel) (pa_cons (pv 0) (pa_cons (pe_bltn (v := .ty "ValueError") (u := .type "ValueError") (by rfl) T.n_ValueError (by decide +kernel) rfl) pa_nil)))))))) (pss_one (ps_ret pe_non)) pss_nil)
      (pss_one (ps_ret (pe_lc (own := [("k", 2)]) (by rfl) sc__law_kinds.nd (pi_range1 (by rfl) T.n_range (pa_cons (pe_callB call_lenA (by rfl) T.n_len (by decide +kernel) (pa_cons (pv 1) pa_nil)) pa_nil)) (blkOk_by (own := [("k", 2)]) (N := ["e", "row", "k"]) (sc := defScope (top 46)) (by decide +kernel)) (fun _ _ _ _ _ => (pg_name (i := 2) sc__law_kinds.nd rfl (Or.inl rfl))) (fun _ _ _ _ _ => (pts_one (pt_truthK (K := K) (by rfl) (pe_ix (ix_seqK (K := K) (by rfl)) (pv 1) (pv 2) (fun _ _ => rfl)) (by intro _; rfl)))) (fun _ _ _ _ _ => (pv 2))))))))))))))), ?_⟩
  obtain ⟨F, ds, Pq, Xq, hF, ha, h, hQ, hE⟩ := h
  refine sd_top hF ha hQ ?_
  clear hQ ha hE
  generalize hB0 : (⟨F, H, []⟩ : Bs) = B
  have hL : B.L = [] := by rw [← hB0]
  clear hB0
  obtain ⟨C, ns, xs, k, rfl, hk, q⟩ := h
  have hC := hk.xc
  have hr := hk.row
  walk_at "d0"
  walk_at "d"
  refine opn_isV hC (at_row hr 0 rfl rfl) ?_
  walk_at "d"
  refine opn_isV hC (at_row hr 1 rfl rfl) ?_
  walk_at "d"
  refine opn_isV hC (at_row hr 2 rfl rfl) ?_
  walk_at "d"
  refine opn_isV hC (at_row hr 3 rfl rfl) ?_
  walk_at "d"
  refine opn_isV hC (at_row hr 4 rfl rfl) ?_
  walk_at "d"
  refine opn_isV hC (at_row hr 5 rfl rfl) ?_
  walk_at "d"
  refine opn_isV hC (at_row hr 6 rfl rfl) ?_
  walk_at "d"
  refine opn_isV hC (at_row hr 7 rfl rfl) ?_
  walk_at "d"
  refine opn_isV hC (at_row hr 8 rfl rfl) ?_
  walk_at "d"
  refine opn_isV hC (at_row hr 9 rfl rfl) ?_
  walk_at "d"
  refine opn_isV hC (at_row hr 10 rfl rfl) ?_
  walk_at "d"
  refine opn_isV hC (at_row hr 11 rfl rfl) ?_
  walk_at "d"
  refine opn_isV hC (at_row hr 12 rfl rfl) ?_
  walk_at "d"
  refine opn_isV hC (at_row hr 13 rfl rfl) ?_
  walk_at "d"
  refine opn_isV hC (at_row hr 14 rfl rfl) ?_
  walk_at "d"
  refine opn_isV hC (at_row hr 15 rfl rfl) ?_
  walk_at "d"
  refine opn_isV hC (at_row hr 16 rfl rfl) ?_
  walk_at "d"
  refine opn_isV hC (at_row hr 17 rfl rfl) ?_
  walk_at "d"
  refine opn_isV hC (at_row hr 18 rfl rfl) ?_
  walk_at "d"
  refine opn_isV hC (at_row hr 19 rfl rfl) ?_
  walk_at "d"
  refine opn_isV hC (at_row hr 20 rfl rfl) ?_
  walk_at "d"
  refine opn_isV hC (at_row hr 21 rfl rfl) ?_
  walk_at "d"
  refine opn_isV hC (at_row hr 22 rfl rfl) ?_
  walk_at "d"
  refine opn_isV hC (at_row hr 23 rfl rfl) ?_
  walk_at "d"
  refine opn_isV hC (at_row hr 24 rfl rfl) ?_
  walk_at "d"
  refine opn_isV hC (at_row hr 25 rfl rfl) ?_
  walk_at "d"
  refine opn_isV hC (at_row hr 26 rfl rfl) ?_
  walk_at "d"
  refine opn_isV hC (at_row hr 27 rfl rfl) ?_
  walk_at "d"
  refine opn_isV hC (at_row hr 28 rfl rfl) ?_
  walk_at "d"
  refine opn_isV hC (at_row hr 29 rfl rfl) ?_
  walk_at "d"
  refine opn_isV hC hk.re ?_
  walk_at "d"
  refine opn_isVT hC hk.ve ?_
  walk_at "d"
  refine ev_lc1 (gw_name _) ?_
  walk_at "d"
  refine ⟨_, _, 30, rfl, rfl, ⟨by show -2 ^ 62 ≤ (30 : Int); decide, by show (30 : Int) < 2 ^ 62; decide⟩, by decide, fun i acc => acc = if k < i then [Da.int (k : Int)] else [], (if_neg (Nat.not_lt_zero k)).symm, ?_, ?_⟩
  · rintro i acc hi rfl
    walk_at "d"
    refine op2_ix rfl (show _ = some (Da.bl (decide (i = k))) from row_at k i hi) nofun ?_
    walk_at "d"
    refine iteD (fun h => ?_) (fun h => ?_)
    · walk_at "d"
      rw [h, if_neg (Nat.lt_irrefl _), if_pos (Nat.lt_succ_self _)]
      rfl
    · by_cases z : k < i
      · rw [if_pos z, if_pos (by omega)]
      · rw [if_neg z, if_neg (by omega)]
  · rintro acc ha rfl
    rw [if_pos hk.lt]
    walk_at "d"
    exact q
end JP
set_option Elab.async false
set_option linter.all false
set_option maxRecDepth 100000
set_option maxHeartbeats 4000000
set_option pp.deepTerms false
set_option pp.deepTerms.threshold 6
set_option pp.maxSteps 1200
namespace JP
open PySem PySem.Spec PyProof.Rows L2 L2H JPX
local macro_rules | `(tactic| walk_at "nb") => `(tactic| first | with_reducible exact fz_bw | with_reducible exact nw_bw | with_reducible exact ow_bw)
local macro_rules | `(tactic| walk_at "kd") => `(tactic| first | with_reducible exact Or.inl rfl | with_reducible exact Or.inr rfl)
local macro_rules | `(tactic| walk_at "af") => `(tactic| repeat (first | with_reducible exact allF_nil | ((with_reducible refine allF_cons ?h ?_); (case h => walk_at "kd"))))
local macro_rules | `(tactic| walk_at "sz") => `(tactic| (simp only [List.length_cons, List.length_nil, List.length_append, List.length_map, List.length_range]; decide))
local macro_rules | `(tactic| walk_at "side") => `(tactic| first | assumption | (exact small_div (by omega) (by omega)) | (exact small_mul (by omega) (by omega)) | (exact med_mul (by omega) (by omega)) | (exact big_mul (by omega) (by omega)) | (exact ⟨by decide, by decide, by decide⟩) | (show (0 : Int) < _; omega))
local macro_rules | `(tactic| walk_at "d0") => `(tactic| simp only [cxOf_K, List.map_cons, List.map_nil, List.length_cons, List.length_nil, Nat.reduceAdd, Nat.reduceSub, List.replicate_succ, List.replicate_zero, List.cons_append, List.nil_append])
local macro_rules | `(tactic| walk_at "ds") => `(tactic| try dsimp only [wipeE, List.set_cons_zero, List.set_cons_succ])
local macro_rules | `(tactic| walk_at "dm") => `(tactic| dsimp only [List.map])
local macro_rules | `(tactic| walk_at "dS") => `(tactic| first
  | with_reducible refine sd_seq ?_
  | with_reducible refine sd_next ?_
  | ((with_reducible refine sd_own ?h ?q); (case h => exact rfl))
  | ((with_reducible refine sd_setI (ds := ?ds) ?e ?q); (case e => exact rfl))
  | with_reducible refine sd_asg ?_
  | with_reducible refine sd_if ?_
  | with_reducible refine sd_ret ?_
  | with_reducible refine sd_new ?_
  | ((with_reducible refine sd_app (ds := ?ds) ?e ?q); (case e => exact rfl))
  | ((with_reducible refine sd_dput (kvs := ?kvs) ?e ?q); (case e => exact rfl))
  | ((with_reducible refine sd_mputT (kvs := ?kvs) ?e ?q); (case e => exact rfl))
  | with_reducible refine sd_drop ?_
  | with_reducible refine sd_ret0 ?_
  | with_reducible refine sd_for ?_
  | with_reducible refine sd_for1 ?_
  | with_reducible refine sd_for2 ?_
  | with_reducible refine sd_for3 ?_
  | ((with_reducible refine sd_augI (a := ?a) ?e ?q); (case e => exact rfl))
  | with_reducible refine sd_brk ?_
  | with_reducible refine sd_cont ?_)
local macro_rules | `(tactic| walk_at "dE") => `(tactic| first
  | ((with_reducible refine ev_var (d := ?d) ?e ?q); (case e => exact rfl))
  | ((with_reducible refine ev_own (d := ?d) ?e ?q); (case e => exact rfl))
  | with_reducible refine ev_int ?_
  | with_reducible refine ev_op ?_
  | with_reducible refine ev_cb ?_
  | ((with_reducible refine ev_call ?l ?q); (case l => assumption))
  | with_reducible refine ev_tup ?_
  | with_reducible refine ev_lst ?_
  | with_reducible refine ev_un ?_
  | with_reducible refine ev_bl ?_
  | with_reducible refine ev_non ?_
  | with_reducible refine ev_str ?_
  | with_reducible refine ev_ty ?_
  | with_reducible refine ev_ref ?_
  | with_reducible refine ev_if ?_
  | with_reducible refine ev_not ?_
  | with_reducible refine ev_notT ?_
  | with_reducible refine ev_and ?_
  | with_reducible refine ev_or ?_
  | with_reducible refine ev_chain ?_
  | with_reducible refine ev_bits ?_
  | with_reducible refine ev_dget ?_
  | with_reducible refine ev_dget2 ?_
  | with_reducible refine ev_mgT ?_
  | with_reducible refine ev_mg2T ?_
  | with_reducible refine ev_dnewT ?_
  | with_reducible refine ev_slT ?_
  | with_reducible refine ev_slS ?_
  | with_reducible refine ev_join ?_
  | with_reducible refine ev_dnew ?_
  | with_reducible refine ev_slL ?_
  | with_reducible refine ev_disp1 ?_
  | with_reducible refine ev_dispT ?_)
local macro_rules | `(tactic| walk_at "dO") => `(tactic| first
  | with_reducible refine op2_addI ?_
  | with_reducible refine op2_I0 ?_
  | ((with_reducible refine op2_addL ?a ?b ?z ?q); (case a => walk_at "nb"); (case b => walk_at "nb"); (case z => first | walk_at "sz" | exact size_le (by simp only [List.length_cons, List.length_nil, List.length_append, List.length_map, List.length_range, List.length_take, List.length_drop]; omega)))
  | with_reducible refine op2_B0 ?_
  | ((with_reducible refine op2_ix (ds := ?ds) (d := ?d) ?e ?a ?k ?q); (case e => exact rfl); (case a => exact rfl); (case k => walk_at "nb"))
  | with_reducible refine op2_eqI ?_
  | with_reducible refine op2_neI ?_
  | with_reducible refine op2_p18 ?_
  | with_reducible refine op2_p9 ?_
  | with_reducible refine op2_p6 ?_
  | with_reducible refine op2_p30 ?_
  | with_reducible refine op2_p12 ?_
  | with_reducible refine op2_p15 ?_
  | with_reducible refine op2_p24 ?_
  | with_reducible refine op2_p20 ?_
  | with_reducible refine op2_p2 ?_
  | with_reducible refine op2_p3 ?_
  | with_reducible refine op2_p4 ?_
  | with_reducible refine op2_p5 ?_
  | ((with_reducible refine op2_I ?c ?q); (case c => walk_at "side"))
  | with_reducible refine op2_eqS ?_
  | with_reducible refine op2_neS ?_
  | with_reducible refine op2_eqB ?_
  | with_reducible refine op2_neB ?_
  | with_reducible refine op2_is ?_
  | with_reducible refine op2_isNot ?_)
local macro_rules | `(tactic| walk_at "dN") => `(tactic| first
  | with_reducible refine opn_int ?_
  | ((with_reducible refine opn_len (ds := ?ds) ?e ?q); (case e => exact rfl))
  | with_reducible refine opn_lenD ?_
  | ((with_reducible refine opn_lenT ?l ?q); (case l => assumption))
  | with_reducible refine opn_intB ?_
  | with_reducible refine opn_abs ?_
  | with_reducible refine opn_gcd ?_
  | ((with_reducible refine opn_list (ds := ?ds) ?e ?k ?q); (case e => exact rfl); (case k => walk_at "nb"))
  | ((with_reducible refine opn_tuple (ds := ?ds) ?e ?k ?s ?q); (case e => exact rfl); (case k => walk_at "nb"); (case s => exact (fun _ => nofun)))
  | ((with_reducible refine opn_isi true ?n ?c ?e ?q); (case e => exact rfl); (case n => exact rfl); (case c => exact rfl))
  | ((with_reducible refine opn_isi false ?n ?c ?e ?q); (case e => exact rfl); (case n => exact rfl); (case c => exact rfl)))
local macro_rules | `(tactic| walk_at "dT") => `(tactic| first
  | with_reducible refine tt_test ?_
  | with_reducible refine tt_B ?_
  | with_reducible refine tt_and ?_
  | with_reducible refine tt_or ?_
  | with_reducible refine tt_not ?_
  | with_reducible refine tt_yes ?_
  | with_reducible refine tt_tru ?_)
local macro_rules | `(tactic| walk_at "dG") => `(tactic| first
  | ((with_reducible refine gt_name ?k ?q); (case k => walk_at "kd"); (walk_at "ds"))
  | ((with_reducible refine gn_name ?_); (walk_at "ds"))
  | ((with_reducible refine gn_tup (ds := ?ds) ?e ?n ?q); (case e => exact rfl); (case n => exact rfl))
  | ((with_reducible refine gt_tup (ds := ?ds) ?e ?n ?k ?q); (case e => exact rfl); (case n => exact rfl); (case k => walk_at "nb"))
  | ((with_reducible refine gta_name ?_); (walk_at "ds"))
  | ((with_reducible refine gta_tup (es := ?es) ?e ?n ?q); (case e => exact rfl); (case n => exact rfl))
  | with_reducible refine gta_nil ?_)
local macro_rules | `(tactic| walk_at "d1") => `(tactic| first
  | ((with_reducible show Ev _ _ _ _ _); walk_at "dE")
  | ((with_reducible show EvA _ _ _ _ _); first | with_reducible refine eva_cons ?_ | with_reducible refine eva_nil ?_)
  | ((with_reducible show Op2 _ _ _ _ _ _); walk_at "dO")
  | ((with_reducible show Sd _ _ _ _ _); walk_at "dS")
  | ((with_reducible show Gt _ _ _ _ _ _ _); walk_at "dG")
  | ((with_reducible show Tt _ _ _ _ _); walk_at "dT")
  | ((with_reducible show OpN _ _ _ _ _); walk_at "dN")
  | with_reducible refine bl_i ?_
  | with_reducible refine eq_int ?_
  | ((with_reducible refine lct_yes ?_); (try dsimp only [wipeE, List.set_cons_zero, List.set_cons_succ]))
  | ((with_reducible refine lct_g ?_); (try dsimp only [wipeE, List.set_cons_zero, List.set_cons_succ]))
  | with_reducible refine pt_no ?_
  | with_reducible refine pt_some ?_
  | with_reducible refine ls_fz ?_
  | with_reducible refine ls_ow ?_
  | with_reducible refine ls_nw ?_
  | with_reducible refine ls_s ?_
  | with_reducible refine dk_fz ?_
  | with_reducible refine dk_ow ?_
  | with_reducible refine dk_nw ?_
  | with_reducible refine key_i ?_
  | with_reducible refine key_s ?_
  | with_reducible refine dt_fz ?_
  | with_reducible refine dt_ow ?_
  | with_reducible refine dt_nw ?_
  | with_reducible refine tk_fz ?_
  | with_reducible refine tp_fz ?_
  | with_reducible refine st_i ?_
  | ((with_reducible show Gn _ _ _ _ _ _); walk_at "dG")
  | ((with_reducible show GtA _ _ _ _ _ _); walk_at "dG")
  | ((with_reducible show Op1 _ _ _ _ _); with_reducible refine op1_U ?_)
  | ((with_reducible show (_ = Kd.fz ∨ _) ∧ _); (with_reducible refine ⟨?f, ?q⟩); (case f => walk_at "kd"))
  | ((with_reducible show (_ = Kd.nw ∨ _) ∧ _); (with_reducible refine ⟨?f, ?q⟩); (case f => walk_at "kd"))
  | ((with_reducible show (allF _) ∧ _); (with_reducible refine ⟨?f, ?q⟩); (case f => walk_at "af"); (try walk_at "dm"))
  | ((with_reducible show (_ ≤ sizeLine) ∧ _); (with_reducible refine ⟨?z, ?q⟩); (case z => first | walk_at "sz" | exact size_le (by omega)))
  | ((with_reducible show (_ = Kd.nw) ∧ _); (with_reducible refine ⟨rfl, ?q⟩); (try walk_at "ds"))
  | ((with_reducible show (_ ≠ Kd.bw) ∧ _); (with_reducible refine ⟨?f, ?q⟩); (case f => walk_at "nb"))
  | ((with_reducible show (Da.truOk _ _) ∧ _); (with_reducible refine ⟨?f, ?q⟩); (case f => first | exact trivial | assumption))
  | with_reducible refine iff_t rfl ?_
  | with_reducible refine iff_f rfl ?_)
local macro_rules | `(tactic| walk_at "d") => `(tactic| repeat (walk_at "d1"))
/-- what _law_kinds promises of a caught error of the class D with the dict d, at a -/
def spK (K : PySem.W.Frag) (D : Addr) (d : Option Addr) (a : Addr) : Sp := fun vs H Q _ => vs = [.ref a] ∧ (∀ x, d = some x → ∃ fs, H x = some (.xd fs)) ∧ ∃ k, Knd K D k ∧ ∀ p H2, Same H H2 → H p = none → H2 p = some (.lst [.int (k : Int)]) → Q (.ref p) H2
theorem dy__law_kinds {P : Program} {w : World} {K : PySem.W.Frag} {mg : Str → Option Value} {base : Heap} (T : Tx K mg) : DefY P w K mg base "_law_kinds" 1 ["e"] (spK K) := by
  refine DefY.of T.at__law_kinds sc__law_kinds (fun _ _ _ _ _ _ us hl => match us, hl with | [_], _ => rfl) (fun D d a vs H Q E h => by (obtain ⟨rfl, _⟩ := h; rfl)) (fun C d f cdv A outer s H vs Q E p hot hz hrm h => ?_)
  obtain ⟨hh, vs0, hv0, _⟩ := id hot
  refine ⟨_, (pss_cons (ps_set (i := 1) sc__law_kinds.nd rfl (Or.inr rfl) (pe_lstA (pa_cons (pe_callB (call_isC (oe := p.2) (List.mem_singleton.mpr rfl) hz ⟨vs0, hv0⟩) (by rfl) T.n_isinstance (by decide +kernel) (pa_cons (pv 0) (pa_cons (pe_glob (v := .ref (He.ga K "NoQuotient")) (by rfl) T.g_NoQuotient rfl) pa_nil))) (pa_cons (pe_callB (call_isC (oe := p.2) (List.mem_singleton.mpr rfl) hz ⟨vs0, hv0⟩) (by rfl) T.n_isinstance (by decide +kernel) (pa_cons (pv 0) (pa_cons (pe_glob (v := .ref (He.ga K "ZeroPolynomial")) (by rfl) T.g_ZeroPolynomial rfl) pa_nil))) (pa_cons (pe_callB (call_isC (oe := p.2) (List.mem_singleton.mpr rfl) hz ⟨vs0, hv0⟩) (by rfl) T.n_isinstance (by decide +kernel) (pa_cons (pv 0) (pa_cons (pe_glob (v := .ref (He.ga K "ZeroSum")) (by rfl) T.g_ZeroSum rfl) pa_nil))) (pa_cons (pe_callB (call_isC (oe := p.2) (List.mem_singleton.mpr rfl) hz ⟨vs0, hv0⟩) (by rfl) T.n_isinstance (by decide +kernel) (pa_cons (pv 0) (pa_cons (pe_glob (v := .ref (He.ga K "NoRows")) (by rfl) T.g_NoRows rfl) pa_nil))) pa_nil))))))
      (pss_cons (ps_set (i := 1) sc__law_kinds.nd rfl (Or.inr rfl) (pe_op op_addA (pv 1) (pe_lstA (pa_cons (pe_callB (call_isC (oe := p.2) (List.mem_singleton.mpr rfl) hz ⟨vs0, hv0⟩) (by rfl) T.n_isinstance (by decide +kernel) (pa_cons (pv 0) (pa_cons (pe_glob (v := .ref (He.ga K "BadName")) (by rfl) T.g_BadName rfl) pa_nil))) (pa_cons (pe_callB (call_isC (oe := p.2) (List.mem_singleton.mpr rfl) hz ⟨vs0, hv0⟩) (by rfl) T.n_isinstance (by decide +kernel) (pa_cons (pv 0) (pa_cons (pe_glob (v := .ref (He.ga K "RowTwice")) (by rfl) T.g_RowTwice rfl) pa_nil))) (pa_cons (pe_callB (call_isC (oe := p.2) (List.mem_singleton.mpr rfl) hz ⟨vs0, hv0⟩) (by rfl) T.n_isinstance (by decide +kernel) (pa_cons (pv 0) (pa_cons (pe_glob (v := .ref (He.ga K "UnknownRow")) (by rfl) T.g_UnknownRow rfl) pa_nil))) (pa_cons (pe_callB (call_isC (oe := p.2) (List.mem_singleton.mpr rfl) hz ⟨vs0, hv0⟩) (by rfl) T.n_isinstance (by decide +kernel) (pa_cons (pv 0) (pa_cons (pe_glob (v := .ref (He.ga K "RowsDiffer")) (by rfl) T.g_RowsDiffer rfl) pa_nil))) pa_nil)))))))
      (pss_cons (ps_set (i := 1) sc__law_kinds.nd rfl (Or.inr rfl) (pe_op op_addA (pv 1) (pe_lstA (pa_cons (pe_callB (call_isC (oe := p.2) (List.mem_singleton.mpr rfl) hz ⟨vs0, hv0⟩) (by rfl) T.n_isinstance (by decide +kernel) (pa_cons (pv 0) (pa_cons (pe_glob (v := .ref (He.ga K "SpotTwice")) (by rfl) T.g_SpotTwice rfl) pa_nil))) (pa_cons (pe_callB (call_isC (oe := p.2) (List.mem_singleton.mpr rfl) hz ⟨vs0, hv0⟩) (by rfl) T.n_isinstance (by decide +kernel) (pa_cons (pv 0) (pa_cons (pe_glob (v := .ref (He.ga K "BadStretch")) (by rfl) T.g_BadStretch rfl) pa_nil))) (pa_cons (pe_callB (call_isC (oe := p.2) (List.mem_singleton.mpr rfl) hz ⟨vs0, hv0⟩) (by rfl) T.n_isinstance (by decide +kernel) (pa_cons (pv 0) (pa_cons (pe_glob (v := .ref (He.ga K "ShortStretch")) (by rfl) T.g_ShortStretch rfl) pa_nil))) pa_nil))))))
      (pss_cons (ps_set (i := 1) sc__law_kinds.nd rfl (Or.inr rfl) (pe_op op_addA (pv 1) (pe_lstA (pa_cons (pe_callB (call_isC (oe := p.2) (List.mem_singleton.mpr rfl) hz ⟨vs0, hv0⟩) (by rfl) T.n_isinstance (by decide +kernel) (pa_cons (pv 0) (pa_cons (pe_glob (v := .ref (He.ga K "TooLong")) (by rfl) T.g_TooLong rfl) pa_nil))) (pa_cons (pe_callB (call_isC (oe := p.2) (List.mem_singleton.mpr rfl) hz ⟨vs0, hv0⟩) (by rfl) T.n_isinstance (by decide +kernel) (pa_cons (pv 0) (pa_cons (pe_glob (v := .ref (He.ga K "CannotStand")) (by rfl) T.g_CannotStand rfl) pa_nil))) (pa_cons (pe_callB (call_isC (oe := p.2) (List.mem_singleton.mpr rfl) hz ⟨vs0, hv0⟩) (by rfl) T.n_isinstance (by decide +kernel) (pa_cons (pv 0) (pa_cons (pe_glob (v := .ref (He.ga K "Broken")) (by rfl) T.g_Broken rfl) pa_nil))) (pa_cons (pe_callB (call_isC (oe := p.2) (List.mem_singleton.mpr rfl) hz ⟨vs0, hv0⟩) (by rfl) T.n_isinstance (by decide +kernel) (pa_cons (pv 0) (pa_cons (pe_glob (v := .ref (He.ga K "NotFinite")) (by rfl) T.g_NotFinite rfl) pa_nil))) pa_nil)))))))
      (pss_cons (ps_set (i := 1) sc__law_kinds.nd rfl (Or.inr rfl) (pe_op op_addA (pv 1) (pe_lstA (pa_cons (pe_callB (call_isC (oe := p.2) (List.mem_singleton.mpr rfl) hz ⟨vs0, hv0⟩) (by rfl) T.n_isinstance (by decide +kernel) (pa_cons (pv 0) (pa_cons (pe_glob (v := .ref (He.ga K "BadParts")) (by rfl) T.g_BadParts rfl) pa_nil))) (pa_cons (pe_callB (call_isC (oe := p.2) (List.mem_singleton.mpr rfl) hz ⟨vs0, hv0⟩) (by rfl) T.n_isinstance (by decide +kernel) (pa_cons (pv 0) (pa_cons (pe_glob (v := .ref (He.ga K "Barred")) (by rfl) T.g_Barred rfl) pa_nil))) (pa_cons (pe_callB (call_isC (oe := p.2) (List.mem_singleton.mpr rfl) hz ⟨vs0, hv0⟩) (by rfl) T.n_isinstance (by decide +kernel) (pa_cons (pv 0) (pa_cons (pe_glob (v := .ref (He.ga K "NotCourse")) (by rfl) T.g_NotCourse rfl) pa_nil))) pa_nil))))))
      (pss_cons (ps_set (i := 1) sc__law_kinds.nd rfl (Or.inr rfl) (pe_op op_addA (pv 1) (pe_lstA (pa_cons (pe_callB (call_isC (oe := p.2) (List.mem_singleton.mpr rfl) hz ⟨vs0, hv0⟩) (by rfl) T.n_isinstance (by decide +kernel) (pa_cons (pv 0) (pa_cons (pe_glob (v := .ref (He.ga K "BreaksOwnRule")) (by rfl) T.g_BreaksOwnRule rfl) pa_nil))) (pa_cons (pe_callB (call_isC (oe := p.2) (List.mem_singleton.mpr rfl) hz ⟨vs0, hv0⟩) (by rfl) T.n_isinstance (by decide +kernel) (pa_cons (pv 0) (pa_cons (pe_glob (v := .ref (He.ga K "NotBlocked")) (by rfl) T.g_NotBlocked rfl) pa_nil))) (pa_cons (pe_callB (call_isC (oe := p.2) (List.mem_singleton.mpr rfl) hz ⟨vs0, hv0⟩) (by rfl) T.n_isinstance (by decide +kernel) (pa_cons (pv 0) (pa_cons (pe_glob (v := .ref (He.ga K "Unsure")) (by rfl) T.g_Unsure rfl) pa_nil))) pa_nil))))))
      (pss_cons (ps_set (i := 1) sc__law_kinds.nd rfl (Or.inr rfl) (pe_op op_addA (pv 1) (pe_lstA (pa_cons (pe_callB (call_isC (oe := p.2) (List.mem_singleton.mpr rfl) hz ⟨vs0, hv0⟩) (by rfl) T.n_isinstance (by decide +kernel) (pa_cons (pv 0) (pa_cons (pe_glob (v := .ref (He.ga K "Contradiction")) (by rfl) T.g_Contradiction rfl) pa_nil))) (pa_cons (pe_callB (call_isC (oe := p.2) (List.mem_singleton.mpr rfl) hz ⟨vs0, hv0⟩) (by rfl) T.n_isinstance (by decide +kernel) (pa_cons (pv 0) (pa_cons (pe_glob (v := .ref (He.ga K "NotStricter")) (by rfl) T.g_NotStricter rfl) pa_nil))) (pa_cons (pe_callB (call_isC (oe := p.2) (List.mem_singleton.mpr rfl) hz ⟨vs0, hv0⟩) (by rfl) T.n_isinstance (by decide +kernel) (pa_cons (pv 0) (pa_cons (pe_glob (v := .ref (He.ga K "NoFamilies")) (by rfl) T.g_NoFamilies rfl) pa_nil))) pa_nil))))))
      (pss_cons (ps_set (i := 1) sc__law_kinds.nd rfl (Or.inr rfl) (pe_op op_addA (pv 1) (pe_lstA (pa_cons (pe_callB (call_isC (oe := p.2) (List.mem_singleton.mpr rfl) hz ⟨vs0, hv0⟩) (by rfl) T.n_isinstance (by decide +kernel) (pa_cons (pv 0) (pa_cons (pe_glob (v := .ref (He.ga K "NotLet")) (by rfl) T.g_NotLet rfl) pa_nil))) (pa_cons (pe_callB (call_isC (oe := p.2) (List.mem_singleton.mpr rfl) hz ⟨vs0, hv0⟩) (by rfl) T.n_isinstance (by decide +kernel) (pa_cons (pv 0) (pa_cons (pe_glob (v := .ref (He.ga K "NotFree")) (by rfl) T.g_NotFree rfl) pa_nil))) (pa_cons (pe_callB (call_isC (oe := p.2) (List.mem_singleton.mpr rfl) hz ⟨vs0, hv0⟩) (by rfl) T.n_isinstance (by decide +kernel) (pa_cons (pv 0) (pa_cons (pe_glob (v := .ref (He.ga K "NotTimely")) (by rfl) T.g_NotTimely rfl) pa_nil))) pa_nil))))))
      (pss_cons (ps_set (i := 1) sc__law_kinds.nd rfl (Or.inr rfl) (pe_op op_addA (pv 1) (pe_lstA (pa_cons (pe_callB (call_isC (oe := p.2) (List.mem_singleton.mpr rfl) hz ⟨vs0, hv0⟩) (by rfl) T.n_isinstance (by decide +kernel) (pa_cons (pv 0) (pa_cons (pe_glob (v := .ref (He.ga K "NotEntered")) (by rfl) T.g_NotEntered rfl) pa_nil))) (pa_cons (pe_callB (call_isC (oe := p.2) (List.mem_singleton.mpr rfl) hz ⟨vs0, hv0⟩) (by rfl) T.n_isinstance (by decide +kernel) (pa_cons (pv 0) (pa_cons (pe_glob (v := .ref (He.ga K "NothingToUndo")) (by rfl) T.g_NothingToUndo rfl) pa_nil))) (pa_cons (pe_callB (call_isC (oe := p.2) (List.mem_singleton.mpr rfl) hz ⟨vs0, hv0⟩) (by rfl) T.n_isinstance (by decide +kernel) (pa_cons (pv 0) (pa_cons (pe_glob (v := .ref (He.ga K "BadNotation")) (by rfl) T.g_BadNotation rfl) pa_nil))) pa_nil))))))
      (pss_cons (ps_if (PW.pt (pw_or (pt_not (pt_val (pe_callB (call_isC (oe := p.2) (List.mem_singleton.mpr rfl) hz ⟨vs0, hv0⟩) (by rfl) T.n_isinstance (by decide +kernel) (pa_cons (pv 0) (pa_cons (pe_glob (v := .ref (He.ga K "RowError")) (by rfl) T.g_RowError rfl) pa_nil))))) (pw_or1 (pt_not (pt_val (pe_callB (call_isC (oe := p.2) (List.mem_singleton.mpr rfl) hz ⟨vs0, hv0⟩) (by rfl) T.n_isinstance (by decide +kernel) (pa_cons (pv 0) (pa_cons (pe_bltn (v := .ty "ValueError") (u := .type "ValueError") (by rfl) T.n_ValueError (by decide +kernel) rfl) pa_nil)))))))) (pss_one (ps_new (ps_ret pe_non))) pss_nil)
      (pss_one (ps_new (ps_ret (JPH.pe_lcH (own := [("k", 2)]) (List.mem_singleton.mpr rfl) hot (by rfl) T.n_range (pa_cons (pe_callB call_lenA (by rfl) T.n_len (by decide +kernel) (pa_cons (pv 1) pa_nil)) pa_nil) sc__law_kinds.nd  (blkOk_by (own := [("k", 2)]) (N := ["e", "row", "k"]) (sc := defScope (top 46)) (by decide +kernel)) (fun _ _ _ _ _ => (pg_name (i := 2) sc__law_kinds.nd rfl (Or.inl rfl))) (fun _ _ _ _ _ => (pts_one (pt_truthK (K := K) (by rfl) (pe_ix (ix_seqK (K := K) (by rfl)) (pv 1) (pv 2) (fun _ _ => rfl)) (by intro _; rfl)))) (fun _ _ _ _ _ => (pv 2)))))))))))))))), ?_⟩
  obtain ⟨rfl, hd, k, hk, q⟩ := h
  have hC := hk.xc
  have hr := hk.row
  refine sd_top (K := K) (F := H) (ds := [.ref p.1]) (P := fun kk dd => kk = .nw ∧ dd = .lst [.int (k : Int)]) (Same.refl _) (.cons (.ref _) .nil) (fun kk dd v H' s' rv pp => ?_) ?_
  · obtain ⟨rfl, rfl⟩ := pp
    obtain ⟨pa, u, rfl, n, e, hu⟩ := rv
    cases hu with
    | lst r =>
      cases r with
      | cons r1 r2 =>
        cases r2
        cases r1
        exact q pa H' s' n e
  generalize hB : (⟨H, H, []⟩ : Bs) = B
  have hd : ∀ x, d = some x → ∃ fs, B.F x = some (.xd fs) := by rw [← hB]; exact hd
  have hL : B.L = [] := by rw [← hB]
  clear hB
  simp only [cxH_K]
  walk_at "d0"
  walk_at "d"
  refine opn_isC hd hC (at_row hr 0 rfl rfl) ?_
  walk_at "d"
  refine opn_isC hd hC (at_row hr 1 rfl rfl) ?_
  walk_at "d"
  refine opn_isC hd hC (at_row hr 2 rfl rfl) ?_
  walk_at "d"
  refine opn_isC hd hC (at_row hr 3 rfl rfl) ?_
  walk_at "d"
  refine opn_isC hd hC (at_row hr 4 rfl rfl) ?_
  walk_at "d"
  refine opn_isC hd hC (at_row hr 5 rfl rfl) ?_
  walk_at "d"
  refine opn_isC hd hC (at_row hr 6 rfl rfl) ?_
  walk_at "d"
  refine opn_isC hd hC (at_row hr 7 rfl rfl) ?_
  walk_at "d"
  refine opn_isC hd hC (at_row hr 8 rfl rfl) ?_
  walk_at "d"
  refine opn_isC hd hC (at_row hr 9 rfl rfl) ?_
  walk_at "d"
  refine opn_isC hd hC (at_row hr 10 rfl rfl) ?_
  walk_at "d"
  refine opn_isC hd hC (at_row hr 11 rfl rfl) ?_
  walk_at "d"
  refine opn_isC hd hC (at_row hr 12 rfl rfl) ?_
  walk_at "d"
  refine opn_isC hd hC (at_row hr 13 rfl rfl) ?_
  walk_at "d"
  refine opn_isC hd hC (at_row hr 14 rfl rfl) ?_
  walk_at "d"
  refine opn_isC hd hC (at_row hr 15 rfl rfl) ?_
  walk_at "d"
  refine opn_isC hd hC (at_row hr 16 rfl rfl) ?_
  walk_at "d"
  refine opn_isC hd hC (at_row hr 17 rfl rfl) ?_
  walk_at "d"
  refine opn_isC hd hC (at_row hr 18 rfl rfl) ?_
  walk_at "d"
  refine opn_isC hd hC (at_row hr 19 rfl rfl) ?_
  walk_at "d"
  refine opn_isC hd hC (at_row hr 20 rfl rfl) ?_
  walk_at "d"
  refine opn_isC hd hC (at_row hr 21 rfl rfl) ?_
  walk_at "d"
  refine opn_isC hd hC (at_row hr 22 rfl rfl) ?_
  walk_at "d"
  refine opn_isC hd hC (at_row hr 23 rfl rfl) ?_
  walk_at "d"
  refine opn_isC hd hC (at_row hr 24 rfl rfl) ?_
  walk_at "d"
  refine opn_isC hd hC (at_row hr 25 rfl rfl) ?_
  walk_at "d"
  refine opn_isC hd hC (at_row hr 26 rfl rfl) ?_
  walk_at "d"
  refine opn_isC hd hC (at_row hr 27 rfl rfl) ?_
  walk_at "d"
  refine opn_isC hd hC (at_row hr 28 rfl rfl) ?_
  walk_at "d"
  refine opn_isC hd hC (at_row hr 29 rfl rfl) ?_
  walk_at "d"
  refine opn_isC hd hC hk.re ?_
  walk_at "d"
  refine opn_isCT hd hC hk.ve ?_
  walk_at "d"
  refine ev_lc1 (gw_name _) ?_
  walk_at "d"
  refine ⟨_, _, 30, rfl, rfl, ⟨by show -2 ^ 62 ≤ (30 : Int); decide, by show (30 : Int) < 2 ^ 62; decide⟩, by decide, fun i acc => acc = if k < i then [Da.int (k : Int)] else [], (if_neg (Nat.not_lt_zero k)).symm, ?_, ?_⟩
  · rintro i acc hi rfl
    walk_at "d"
    refine op2_ix rfl (show _ = some (Da.bl (decide (i = k))) from row_at k i hi) nofun ?_
    walk_at "d"
    refine iteD (fun h => ?_) (fun h => ?_)
    · walk_at "d"
      rw [h, if_neg (Nat.lt_irrefl _), if_pos (Nat.lt_succ_self _)]
      rfl
    · by_cases z : k < i
      · rw [if_pos z, if_pos (by omega)]
      · rw [if_neg z, if_neg (by omega)]
  · rintro acc ha rfl
    rw [if_pos hk.lt]
    walk_at "d"
    exact ⟨rfl, rfl⟩
end JP
set_option Elab.async false
set_option linter.all false
set_option maxRecDepth 100000
set_option maxHeartbeats 4000000
set_option pp.deepTerms false
set_option pp.deepTerms.threshold 6
set_option pp.maxSteps 1200
namespace JP
open PySem PySem.Spec PyProof.Rows L2 L2H JPX
local macro_rules | `(tactic| walk_at "nb") => `(tactic| first | with_reducible exact fz_bw | with_reducible exact nw_bw | with_reducible exact ow_bw)
local macro_rules | `(tactic| walk_at "kd") => `(tactic| first | with_reducible exact Or.inl rfl | with_reducible exact Or.inr rfl)
local macro_rules | `(tactic| walk_at "af") => `(tactic| repeat (first | with_reducible exact allF_nil | ((with_reducible refine allF_cons ?h ?_); (case h => walk_at "kd"))))
local macro_rules | `(tactic| walk_at "sz") => `(tactic| (simp only [List.length_cons, List.length_nil, List.length_append, List.length_map, List.length_range]; decide))
local macro_rules | `(tactic| walk_at "side") => `(tactic| first | assumption | (exact small_div (by omega) (by omega)) | (exact small_mul (by omega) (by omega)) | (exact med_mul (by omega) (by omega)) | (exact big_mul (by omega) (by omega)) | (exact ⟨by decide, by decide, by decide⟩) | (show (0 : Int) < _; omega))
local macro_rules | `(tactic| walk_at "d0") => `(tactic| simp only [cxOf_K, List.map_cons, List.map_nil, List.length_cons, List.length_nil, Nat.reduceAdd, Nat.reduceSub, List.replicate_succ, List.replicate_zero, List.cons_append, List.nil_append])
local macro_rules | `(tactic| walk_at "ds") => `(tactic| try dsimp only [wipeE, List.set_cons_zero, List.set_cons_succ])
local macro_rules | `(tactic| walk_at "dm") => `(tactic| dsimp only [List.map])
local macro_rules | `(tactic| walk_at "dS") => `(tactic| first
  | with_reducible refine sd_seq ?_
  | with_reducible refine sd_next ?_
  | ((with_reducible refine sd_own ?h ?q); (case h => exact rfl))
  | ((with_reducible refine sd_setI (ds := ?ds) ?e ?q); (case e => exact rfl))
  | with_reducible refine sd_asg ?_
  | with_reducible refine sd_if ?_
  | with_reducible refine sd_ret ?_
  | with_reducible refine sd_new ?_
  | ((with_reducible refine sd_app (ds := ?ds) ?e ?q); (case e => exact rfl))
  | ((with_reducible refine sd_dput (kvs := ?kvs) ?e ?q); (case e => exact rfl))
  | ((with_reducible refine sd_mputT (kvs := ?kvs) ?e ?q); (case e => exact rfl))
  | with_reducible refine sd_drop ?_
  | with_reducible refine sd_ret0 ?_
  | with_reducible refine sd_for ?_
  | with_reducible refine sd_for1 ?_
  | with_reducible refine sd_for2 ?_
  | with_reducible refine sd_for3 ?_
  | ((with_reducible refine sd_augI (a := ?a) ?e ?q); (case e => exact rfl))
  | with_reducible refine sd_brk ?_
  | with_reducible refine sd_cont ?_)
local macro_rules | `(tactic| walk_at "dE") => `(tactic| first
  | ((with_reducible refine ev_var (d := ?d) ?e ?q); (case e => exact rfl))
  | ((with_reducible refine ev_own (d := ?d) ?e ?q); (case e => exact rfl))
  | with_reducible refine ev_int ?_
  | with_reducible refine ev_op ?_
  | with_reducible refine ev_cb ?_
  | ((with_reducible refine ev_call ?l ?q); (case l => assumption))
  | with_reducible refine ev_tup ?_
  | with_reducible refine ev_lst ?_
  | with_reducible refine ev_un ?_
  | with_reducible refine ev_bl ?_
  | with_reducible refine ev_non ?_
  | with_reducible refine ev_str ?_
  | with_reducible refine ev_ty ?_
  | with_reducible refine ev_ref ?_
  | with_reducible refine ev_if ?_
  | with_reducible refine ev_not ?_
  | with_reducible refine ev_notT ?_
  | with_reducible refine ev_and ?_
  | with_reducible refine ev_or ?_
  | with_reducible refine ev_chain ?_
  | with_reducible refine ev_bits ?_
  | with_reducible refine ev_dget ?_
  | with_reducible refine ev_dget2 ?_
  | with_reducible refine ev_mgT ?_
  | with_reducible refine ev_mg2T ?_
  | with_reducible refine ev_dnewT ?_
  | with_reducible refine ev_slT ?_
  | with_reducible refine ev_slS ?_
  | with_reducible refine ev_join ?_
  | with_reducible refine ev_dnew ?_
  | with_reducible refine ev_slL ?_
  | with_reducible refine ev_disp1 ?_
  | with_reducible refine ev_dispT ?_)
local macro_rules | `(tactic| walk_at "dO") => `(tactic| first
  | with_reducible refine op2_addI ?_
  | with_reducible refine op2_I0 ?_
  | ((with_reducible refine op2_addL ?a ?b ?z ?q); (case a => walk_at "nb"); (case b => walk_at "nb"); (case z => first | walk_at "sz" | exact size_le (by simp only [List.length_cons, List.length_nil, List.length_append, List.length_map, List.length_range, List.length_take, List.length_drop]; omega)))
  | with_reducible refine op2_B0 ?_
  | ((with_reducible refine op2_ix (ds := ?ds) (d := ?d) ?e ?a ?k ?q); (case e => exact rfl); (case a => exact rfl); (case k => walk_at "nb"))
  | with_reducible refine op2_eqI ?_
  | with_reducible refine op2_neI ?_
  | with_reducible refine op2_p18 ?_
  | with_reducible refine op2_p9 ?_
  | with_reducible refine op2_p6 ?_
  | with_reducible refine op2_p30 ?_
  | with_reducible refine op2_p12 ?_
  | with_reducible refine op2_p15 ?_
  | with_reducible refine op2_p24 ?_
  | with_reducible refine op2_p20 ?_
  | with_reducible refine op2_p2 ?_
  | with_reducible refine op2_p3 ?_
  | with_reducible refine op2_p4 ?_
  | with_reducible refine op2_p5 ?_
  | ((with_reducible refine op2_I ?c ?q); (case c => walk_at "side"))
  | with_reducible refine op2_eqS ?_
  | with_reducible refine op2_neS ?_
  | with_reducible refine op2_eqB ?_
  | with_reducible refine op2_neB ?_
  | with_reducible refine op2_is ?_
  | with_reducible refine op2_isNot ?_)
local macro_rules | `(tactic| walk_at "dN") => `(tactic| first
  | with_reducible refine opn_int ?_
  | ((with_reducible refine opn_len (ds := ?ds) ?e ?q); (case e => exact rfl))
  | with_reducible refine opn_lenD ?_
  | ((with_reducible refine opn_lenT ?l ?q); (case l => assumption))
  | with_reducible refine opn_intB ?_
  | with_reducible refine opn_abs ?_
  | with_reducible refine opn_gcd ?_
  | ((with_reducible refine opn_list (ds := ?ds) ?e ?k ?q); (case e => exact rfl); (case k => walk_at "nb"))
  | ((with_reducible refine opn_tuple (ds := ?ds) ?e ?k ?s ?q); (case e => exact rfl); (case k => walk_at "nb"); (case s => exact (fun _ => nofun)))
  | ((with_reducible refine opn_isi true ?n ?c ?e ?q); (case e => exact rfl); (case n => exact rfl); (case c => exact rfl))
  | ((with_reducible refine opn_isi false ?n ?c ?e ?q); (case e => exact rfl); (case n => exact rfl); (case c => exact rfl)))
local macro_rules | `(tactic| walk_at "dT") => `(tactic| first
  | with_reducible refine tt_test ?_
  | with_reducible refine tt_B ?_
  | with_reducible refine tt_and ?_
  | with_reducible refine tt_or ?_
  | with_reducible refine tt_not ?_
  | with_reducible refine tt_yes ?_
  | with_reducible refine tt_tru ?_)
local macro_rules | `(tactic| walk_at "dG") => `(tactic| first
  | ((with_reducible refine gt_name ?k ?q); (case k => walk_at "kd"); (walk_at "ds"))
  | ((with_reducible refine gn_name ?_); (walk_at "ds"))
  | ((with_reducible refine gn_tup (ds := ?ds) ?e ?n ?q); (case e => exact rfl); (case n => exact rfl))
  | ((with_reducible refine gt_tup (ds := ?ds) ?e ?n ?k ?q); (case e => exact rfl); (case n => exact rfl); (case k => walk_at "nb"))
  | ((with_reducible refine gta_name ?_); (walk_at "ds"))
  | ((with_reducible refine gta_tup (es := ?es) ?e ?n ?q); (case e => exact rfl); (case n => exact rfl))
  | with_reducible refine gta_nil ?_)
local macro_rules | `(tactic| walk_at "d1") => `(tactic| first
  | ((with_reducible show Ev _ _ _ _ _); walk_at "dE")
  | ((with_reducible show EvA _ _ _ _ _); first | with_reducible refine eva_cons ?_ | with_reducible refine eva_nil ?_)
  | ((with_reducible show Op2 _ _ _ _ _ _); walk_at "dO")
  | ((with_reducible show Sd _ _ _ _ _); walk_at "dS")
  | ((with_reducible show Gt _ _ _ _ _ _ _); walk_at "dG")
  | ((with_reducible show Tt _ _ _ _ _); walk_at "dT")
  | ((with_reducible show OpN _ _ _ _ _); walk_at "dN")
  | with_reducible refine bl_i ?_
  | with_reducible refine eq_int ?_
  | ((with_reducible refine lct_yes ?_); (try dsimp only [wipeE, List.set_cons_zero, List.set_cons_succ]))
  | ((with_reducible refine lct_g ?_); (try dsimp only [wipeE, List.set_cons_zero, List.set_cons_succ]))
  | with_reducible refine pt_no ?_
  | with_reducible refine pt_some ?_
  | with_reducible refine ls_fz ?_
  | with_reducible refine ls_ow ?_
  | with_reducible refine ls_nw ?_
  | with_reducible refine ls_s ?_
  | with_reducible refine dk_fz ?_
  | with_reducible refine dk_ow ?_
  | with_reducible refine dk_nw ?_
  | with_reducible refine key_i ?_
  | with_reducible refine key_s ?_
  | with_reducible refine dt_fz ?_
  | with_reducible refine dt_ow ?_
  | with_reducible refine dt_nw ?_
  | with_reducible refine tk_fz ?_
  | with_reducible refine tp_fz ?_
  | with_reducible refine st_i ?_
  | ((with_reducible show Gn _ _ _ _ _ _); walk_at "dG")
  | ((with_reducible show GtA _ _ _ _ _ _); walk_at "dG")
  | ((with_reducible show Op1 _ _ _ _ _); with_reducible refine op1_U ?_)
  | ((with_reducible show (_ = Kd.fz ∨ _) ∧ _); (with_reducible refine ⟨?f, ?q⟩); (case f => walk_at "kd"))
  | ((with_reducible show (_ = Kd.nw ∨ _) ∧ _); (with_reducible refine ⟨?f, ?q⟩); (case f => walk_at "kd"))
  | ((with_reducible show (allF _) ∧ _); (with_reducible refine ⟨?f, ?q⟩); (case f => walk_at "af"); (try walk_at "dm"))
  | ((with_reducible show (_ ≤ sizeLine) ∧ _); (with_reducible refine ⟨?z, ?q⟩); (case z => first | walk_at "sz" | exact size_le (by omega)))
  | ((with_reducible show (_ = Kd.nw) ∧ _); (with_reducible refine ⟨rfl, ?q⟩); (try walk_at "ds"))
  | ((with_reducible show (_ ≠ Kd.bw) ∧ _); (with_reducible refine ⟨?f, ?q⟩); (case f => walk_at "nb"))
  | ((with_reducible show (Da.truOk _ _) ∧ _); (with_reducible refine ⟨?f, ?q⟩); (case f => first | exact trivial | assumption))
  | with_reducible refine iff_t rfl ?_
  | with_reducible refine iff_f rfl ?_)
local macro_rules | `(tactic| walk_at "d") => `(tactic| repeat (walk_at "d1"))
local macro_rules | `(tactic| walk_at "dE") => `(tactic| first
  | with_reducible refine ev_mk0 ?_
  | with_reducible refine ev_mkV ?_
  | with_reducible refine ev_xv ?_)
local macro_rules | `(tactic| walk_at "d1") => `(tactic| first
  | with_reducible refine xc_i ?_
  | with_reducible refine mkv_i rfl (by decide) ?_
  | ((with_reducible show (_ = Kd.fz) ∧ _); (with_reducible refine ⟨rfl, ?_⟩)))
def R__law_equal (n : Nat) : SpR := fun ds Pq _ => ∃ d, ds = [d, d] ∧ EqOk n d ∧ Pq .fz (.bl true)
def spq (K : PySem.W.Frag) : Nat → Sp
  | 0 => fun _ _ _ _ => False
  | n + 1 => SpD K (R__law_equal n)
theorem spq_s {K : PySem.W.Frag} {n : Nat} : spq K (n + 1) = SpD K (R__law_equal n) := rfl
theorem sc__law_equal : FnScope ["told", "due", "k"] ["told", "due"] (defScope (top 50)) := ⟨rfl, rfl, rfl, by decide +kernel, rfl, by decide +kernel, by decide +kernel⟩
theorem d0__law_equal {P : Program} {w : World} {K : PySem.W.Frag} {mg : Str → Option Value} {base : Heap} (T : Tx K mg) : Def P w K mg base "_law_equal" 0 ["told", "due"] (spq K 0) := by
  obtain ⟨fd, F⟩ := T.at__law_equal.ex
  refine ⟨_, fd, ⟨fun _ _ _ _ z => z.elim, fun _ _ _ _ _ _ _ _ _ _ _ _ _ z => z.elim⟩, T.at__law_equal.gl, F.kp, F.bindsN (fun _ _ _ _ _ _ us hl => match us, hl with | [_, _], _ => rfl), ?_⟩
  obtain ⟨oc, od, dV, kV, doc, pm, an, cdv, ct, osl, rfl, lk, _⟩ := F.ex
  exact ⟨_, lk, rfl⟩
theorem ds__law_equal {P : Program} {w : World} {K : PySem.W.Frag} {mg : Str → Option Value} {base : Heap} (T : Tx K mg) (n : Nat) (ih : Def P w K mg base "_law_equal" n ["told", "due"] (spq K n)) : Def P w K mg base "_law_equal" (n + 1) ["told", "due"] (spq K (n + 1)) := by
  refine Def.of T.at__law_equal sc__law_equal (fun _ _ _ _ _ _ us hl => match us, hl with | [_, _], _ => rfl) (fun vs H Q E h => by (obtain ⟨_, _, _, _, _, h2, h, _⟩ := h; rw [← h2.len]; obtain ⟨_, rfl, _⟩ := h; rfl)) (fun f cdv A outer s H vs Q E hr h => ?_)
  refine ⟨_, PSs.nox (pss_cons (ps_if (pt_val (pe_callB call_isA (by rfl) T.n_isinstance (by decide +kernel) (pa_cons (pv 1) (pa_cons (pe_tupA (pa_cons (pe_bltn (v := .ty "list") (u := .type "list") (by rfl) T.n_list (by decide +kernel) rfl) (pa_cons (pe_bltn (v := .ty "tuple") (u := .type "tuple") (by rfl) T.n_tuple (by decide +kernel) rfl) pa_nil))) pa_nil)))) (pss_cons (ps_if (PW.pt (pw_or (pt_cmpR (op_neA hr.units) (pe_callB call_isA (by rfl) T.n_isinstance (by decide +kernel) (pa_cons (pv 0) (pa_cons (pe_bltn (v := .ty "list") (u := .type "list") (by rfl) T.n_list (by decide +kernel) rfl) pa_nil))) (pe_callB call_isA (by rfl) T.n_isinstance (by decide +kernel) (pa_cons (pv 1) (pa_cons (pe_bltn (v := .ty "list") (u := .type "list") (by rfl) T.n_list (by decide +kernel) rfl) pa_nil))) (nomark _)) (pw_or1 (pt_cmpR (op_neA hr.units) (pe_callB call_isA (by rfl) T.n_isinstance (by decide +kernel) (pa_cons (pv 0) (pa_cons (pe_bltn (v := .ty "tuple") (u := .type "tuple") (by rfl) T.n_tuple (by decide +kernel) rfl) pa_nil))) (pe_callB call_isA (by rfl) T.n_isinstance (by decide +kernel) (pa_cons (pv 1) (pa_cons (pe_bltn (v := .ty "tuple") (u := .type "tuple") (by rfl) T.n_tuple (by decide +kernel) rfl) pa_nil))) (nomark _))))) (pss_one (ps_ret pe_bl)) pss_nil)
      (pss_cons (ps_if (pt_cmpR (op_neA hr.units) (pe_callB call_lenA (by rfl) T.n_len (by decide +kernel) (pa_cons (pv 0) pa_nil)) (pe_callB call_lenA (by rfl) T.n_len (by decide +kernel) (pa_cons (pv 1) pa_nil)) (nomark _)) (pss_one (ps_ret pe_bl)) pss_nil)
      (pss_cons (ps_for PassesOwn.never rfl (pi_range1 (by rfl) T.n_range (pa_cons (pe_callB call_lenA (by rfl) T.n_len (by decide +kernel) (pa_cons (pv 1) pa_nil)) pa_nil)) (pg_name (i := 2) sc__law_equal.nd rfl (Or.inl rfl)) (pss_one (ps_if (pt_not (pt_val (pe_def ih (hr.mono (by omega)) (by rfl) (pa_cons (pe_ix ix_seq (pv 0) (pv 2) (fun _ _ => rfl)) (pa_cons (pe_ix ix_seq (pv 1) (pv 2) (fun _ _ => rfl)) pa_nil))))) (pss_one (ps_ret pe_bl)) pss_nil)))
      (pss_one (ps_ret pe_bl))))) pss_nil)
      (pss_cons (ps_if (pt_cmpR op_isN (pv 1) pe_non (nomark _)) (pss_one (ps_ret (pe_cmpR op_isN (pv 0) pe_non (nomark _)))) pss_nil)
      (pss_cons (ps_if (pt_val (pe_callB call_isA (by rfl) T.n_isinstance (by decide +kernel) (pa_cons (pv 1) (pa_cons (pe_bltn (v := .ty "str") (u := .type "str") (by rfl) T.n_str (by decide +kernel) rfl) pa_nil)))) (pss_one (ps_ret (pe_and (pe_callB call_isA (by rfl) T.n_isinstance (by decide +kernel) (pa_cons (pv 0) (pa_cons (pe_bltn (v := .ty "str") (u := .type "str") (by rfl) T.n_str (by decide +kernel) rfl) pa_nil))) (pe_one (pe_cmpR (op_eqA hr.units) (pv 0) (pv 1) (nomark _)))))) pss_nil)
      (pss_one (ps_ret (pe_and (pe_callB call_isA (by rfl) T.n_isinstance (by decide +kernel) (pa_cons (pv 0) (pa_cons (pe_bltn (v := .ty "int") (u := .type "int") (by rfl) T.n_int (by decide +kernel) rfl) pa_nil))) (pe_and (pe_not (pe_callB call_isA (by rfl) T.n_isinstance (by decide +kernel) (pa_cons (pv 0) (pa_cons (pe_bltn (v := .ty "bool") (u := .type "bool") (by rfl) T.n_bool (by decide +kernel) rfl) pa_nil)))) (pe_one (pe_cmpR (op_eqA hr.units) (pv 0) (pv 1) (nomark _)))))))))), ?_⟩
  obtain ⟨F, ds, Pq, Xq, hF, ha, h, hQ, hE⟩ := h
  refine sd_top hF ha hQ ?_
  clear hQ ha hE
  generalize hB0 : (⟨F, H, []⟩ : Bs) = B
  have hL : B.L = [] := by rw [← hB0]
  clear hB0
  obtain ⟨d, rfl, hd, q⟩ := h
  walk_at "d0"
  walk_at "d"
  cases hd with
  | non =>
    refine opn_isi2 false false rfl rfl rfl rfl rfl ?_
    walk_at "d"
    exact q
  | int i =>
    refine opn_isi2 false false rfl rfl rfl rfl rfl ?_
    walk_at "d"
    rw [decide_eq_true rfl]
    exact q
  | str s =>
    refine opn_isi2 false false rfl rfl rfl rfl rfl ?_
    walk_at "d"
    rw [decide_eq_true rfl]
    exact q
  | @lst m ds hz hr' =>
    refine opn_isi2 true false rfl rfl rfl rfl rfl ?_
    walk_at "d"
    rw [decide_eq_true rfl]
    walk_at "d"
    refine ⟨_, _, ds.length, rfl, Int.toNat_natCast _, by omega, fun i env' => ∃ v2 : Sl, env' = [.dat (.lst ds), .dat (.lst ds), v2], ⟨_, rfl⟩, ?_, ?_⟩
    · rintro i env' hi ⟨v2, rfl⟩
      have hx : ds[i]? = some ds[i] := List.getElem?_eq_getElem hi
      walk_at "d"
      rw [spq_s]
      walk_at "d"
      refine op2_ix rfl (atI_nat hx) nofun ?_
      walk_at "d"
      refine op2_ix rfl (atI_nat hx) nofun ?_
      walk_at "d"
      refine ⟨_, rfl, hr' _ (List.getElem_mem _), ?_⟩
      walk_at "d"
      exact ⟨_, rfl⟩
    · rintro env' ⟨v2, rfl⟩
      walk_at "d"
      exact q
  | @tup m ds hz hr' =>
    refine opn_isi2 false true rfl rfl rfl rfl rfl ?_
    walk_at "d"
    rw [decide_eq_true rfl]
    walk_at "d"
    refine ⟨_, _, ds.length, rfl, Int.toNat_natCast _, by omega, fun i env' => ∃ v2 : Sl, env' = [.dat (.tup ds), .dat (.tup ds), v2], ⟨_, rfl⟩, ?_, ?_⟩
    · rintro i env' hi ⟨v2, rfl⟩
      have hx : ds[i]? = some ds[i] := List.getElem?_eq_getElem hi
      walk_at "d"
      rw [spq_s]
      walk_at "d"
      refine op2_ix rfl (atI_nat hx) nofun ?_
      walk_at "d"
      refine op2_ix rfl (atI_nat hx) nofun ?_
      walk_at "d"
      refine ⟨_, rfl, hr' _ (List.getElem_mem _), ?_⟩
      walk_at "d"
      exact ⟨_, rfl⟩
    · rintro env' ⟨v2, rfl⟩
      walk_at "d"
      exact q
theorem d__law_equal {P : Program} {w : World} {K : PySem.W.Frag} {mg : Str → Option Value} {base : Heap} (T : Tx K mg) (n : Nat) : Def P w K mg base "_law_equal" n ["told", "due"] (spq K n) := by
  induction n with
  | zero => exact d0__law_equal T
  | succ n ih => exact ds__law_equal T n ih
theorem de__law_equal {P : Program} {w : World} {K : PySem.W.Frag} {mg : Str → Option Value} {base : Heap} (T : Tx K mg) (n : Nat) : Def P w K mg base "_law_equal" (n + 1) ["told", "due"] (SpD K (R__law_equal n)) := d__law_equal T (n + 1)
theorem EqOk.mono : ∀ {n : Nat} {d : Da}, EqOk n d → EqOk (n + 1) d
  | _, _, .non n => .non _
  | _, _, .int n i => .int _ i
  | _, _, .str n s => .str _ s
  | _, _, .lst h r => .lst h fun d hd => (r d hd).mono
  | _, _, .tup h r => .tup h fun d hd => (r d hd).mono
end JP
set_option Elab.async false
set_option linter.all false
set_option maxRecDepth 100000
set_option maxHeartbeats 4000000
set_option pp.deepTerms false
set_option pp.deepTerms.threshold 6
set_option pp.maxSteps 1200
namespace JP
open PySem PySem.Spec PyProof.Rows L2 L2H JPX
local macro_rules | `(tactic| walk_at "nb") => `(tactic| first | with_reducible exact fz_bw | with_reducible exact nw_bw | with_reducible exact ow_bw)
local macro_rules | `(tactic| walk_at "kd") => `(tactic| first | with_reducible exact Or.inl rfl | with_reducible exact Or.inr rfl)
local macro_rules | `(tactic| walk_at "af") => `(tactic| repeat (first | with_reducible exact allF_nil | ((with_reducible refine allF_cons ?h ?_); (case h => walk_at "kd"))))
local macro_rules | `(tactic| walk_at "sz") => `(tactic| (simp only [List.length_cons, List.length_nil, List.length_append, List.length_map, List.length_range]; decide))
local macro_rules | `(tactic| walk_at "side") => `(tactic| first | assumption | (exact small_div (by omega) (by omega)) | (exact small_mul (by omega) (by omega)) | (exact med_mul (by omega) (by omega)) | (exact big_mul (by omega) (by omega)) | (exact ⟨by decide, by decide, by decide⟩) | (show (0 : Int) < _; omega))
local macro_rules | `(tactic| walk_at "d0") => `(tactic| simp only [cxOf_K, List.map_cons, List.map_nil, List.length_cons, List.length_nil, Nat.reduceAdd, Nat.reduceSub, List.replicate_succ, List.replicate_zero, List.cons_append, List.nil_append])
local macro_rules | `(tactic| walk_at "ds") => `(tactic| try dsimp only [wipeE, List.set_cons_zero, List.set_cons_succ])
local macro_rules | `(tactic| walk_at "dm") => `(tactic| dsimp only [List.map])
local macro_rules | `(tactic| walk_at "dS") => `(tactic| first
  | with_reducible refine sd_seq ?_
  | with_reducible refine sd_next ?_
  | ((with_reducible refine sd_own ?h ?q); (case h => exact rfl))
  | ((with_reducible refine sd_setI (ds := ?ds) ?e ?q); (case e => exact rfl))
  | with_reducible refine sd_asg ?_
  | with_reducible refine sd_if ?_
  | with_reducible refine sd_ret ?_
  | with_reducible refine sd_new ?_
  | ((with_reducible refine sd_app (ds := ?ds) ?e ?q); (case e => exact rfl))
  | ((with_reducible refine sd_dput (kvs := ?kvs) ?e ?q); (case e => exact rfl))
  | ((with_reducible refine sd_mputT (kvs := ?kvs) ?e ?q); (case e => exact rfl))
  | with_reducible refine sd_drop ?_
  | with_reducible refine sd_ret0 ?_
  | with_reducible refine sd_for ?_
  | with_reducible refine sd_for1 ?_
  | with_reducible refine sd_for2 ?_
  | with_reducible refine sd_for3 ?_
  | ((with_reducible refine sd_augI (a := ?a) ?e ?q); (case e => exact rfl))
  | with_reducible refine sd_brk ?_
  | with_reducible refine sd_cont ?_)
local macro_rules | `(tactic| walk_at "dE") => `(tactic| first
  | ((with_reducible refine ev_var (d := ?d) ?e ?q); (case e => exact rfl))
  | ((with_reducible refine ev_own (d := ?d) ?e ?q); (case e => exact rfl))
  | with_reducible refine ev_int ?_
  | with_reducible refine ev_op ?_
  | with_reducible refine ev_cb ?_
  | ((with_reducible refine ev_call ?l ?q); (case l => assumption))
  | with_reducible refine ev_tup ?_
  | with_reducible refine ev_lst ?_
  | with_reducible refine ev_un ?_
  | with_reducible refine ev_bl ?_
  | with_reducible refine ev_non ?_
  | with_reducible refine ev_str ?_
  | with_reducible refine ev_ty ?_
  | with_reducible refine ev_ref ?_
  | with_reducible refine ev_if ?_
  | with_reducible refine ev_not ?_
  | with_reducible refine ev_notT ?_
  | with_reducible refine ev_and ?_
  | with_reducible refine ev_or ?_
  | with_reducible refine ev_chain ?_
  | with_reducible refine ev_bits ?_
  | with_reducible refine ev_dget ?_
  | with_reducible refine ev_dget2 ?_
  | with_reducible refine ev_mgT ?_
  | with_reducible refine ev_mg2T ?_
  | with_reducible refine ev_dnewT ?_
  | with_reducible refine ev_slT ?_
  | with_reducible refine ev_slS ?_
  | with_reducible refine ev_join ?_
  | with_reducible refine ev_dnew ?_
  | with_reducible refine ev_slL ?_
  | with_reducible refine ev_disp1 ?_
  | with_reducible refine ev_dispT ?_)
local macro_rules | `(tactic| walk_at "dO") => `(tactic| first
  | with_reducible refine op2_addI ?_
  | with_reducible refine op2_I0 ?_
  | ((with_reducible refine op2_addL ?a ?b ?z ?q); (case a => walk_at "nb"); (case b => walk_at "nb"); (case z => first | walk_at "sz" | exact size_le (by simp only [List.length_cons, List.length_nil, List.length_append, List.length_map, List.length_range, List.length_take, List.length_drop]; omega)))
  | with_reducible refine op2_B0 ?_
  | ((with_reducible refine op2_ix (ds := ?ds) (d := ?d) ?e ?a ?k ?q); (case e => exact rfl); (case a => exact rfl); (case k => walk_at "nb"))
  | with_reducible refine op2_eqI ?_
  | with_reducible refine op2_neI ?_
  | with_reducible refine op2_p18 ?_
  | with_reducible refine op2_p9 ?_
  | with_reducible refine op2_p6 ?_
  | with_reducible refine op2_p30 ?_
  | with_reducible refine op2_p12 ?_
  | with_reducible refine op2_p15 ?_
  | with_reducible refine op2_p24 ?_
  | with_reducible refine op2_p20 ?_
  | with_reducible refine op2_p2 ?_
  | with_reducible refine op2_p3 ?_
  | with_reducible refine op2_p4 ?_
  | with_reducible refine op2_p5 ?_
  | ((with_reducible refine op2_I ?c ?q); (case c => walk_at "side"))
  | with_reducible refine op2_eqS ?_
  | with_reducible refine op2_neS ?_
  | with_reducible refine op2_eqB ?_
  | with_reducible refine op2_neB ?_
  | with_reducible refine op2_is ?_
  | with_reducible refine op2_isNot ?_)
local macro_rules | `(tactic| walk_at "dN") => `(tactic| first
  | with_reducible refine opn_int ?_
  | ((with_reducible refine opn_len (ds := ?ds) ?e ?q); (case e => exact rfl))
  | with_reducible refine opn_lenD ?_
  | ((with_reducible refine opn_lenT ?l ?q); (case l => assumption))
  | with_reducible refine opn_intB ?_
  | with_reducible refine opn_abs ?_
  | with_reducible refine opn_gcd ?_
  | ((with_reducible refine opn_list (ds := ?ds) ?e ?k ?q); (case e => exact rfl); (case k => walk_at "nb"))
  | ((with_reducible refine opn_tuple (ds := ?ds) ?e ?k ?s ?q); (case e => exact rfl); (case k => walk_at "nb"); (case s => exact (fun _ => nofun)))
  | ((with_reducible refine opn_isi true ?n ?c ?e ?q); (case e => exact rfl); (case n => exact rfl); (case c => exact rfl))
  | ((with_reducible refine opn_isi false ?n ?c ?e ?q); (case e => exact rfl); (case n => exact rfl); (case c => exact rfl)))
local macro_rules | `(tactic| walk_at "dT") => `(tactic| first
  | with_reducible refine tt_test ?_
  | with_reducible refine tt_B ?_
  | with_reducible refine tt_and ?_
  | with_reducible refine tt_or ?_
  | with_reducible refine tt_not ?_
  | with_reducible refine tt_yes ?_
  | with_reducible refine tt_tru ?_)
local macro_rules | `(tactic| walk_at "dG") => `(tactic| first
  | ((with_reducible refine gt_name ?k ?q); (case k => walk_at "kd"); (walk_at "ds"))
  | ((with_reducible refine gn_name ?_); (walk_at "ds"))
  | ((with_reducible refine gn_tup (ds := ?ds) ?e ?n ?q); (case e => exact rfl); (case n => exact rfl))
  | ((with_reducible refine gt_tup (ds := ?ds) ?e ?n ?k ?q); (case e => exact rfl); (case n => exact rfl); (case k => walk_at "nb"))
  | ((with_reducible refine gta_name ?_); (walk_at "ds"))
  | ((with_reducible refine gta_tup (es := ?es) ?e ?n ?q); (case e => exact rfl); (case n => exact rfl))
  | with_reducible refine gta_nil ?_)
local macro_rules | `(tactic| walk_at "d1") => `(tactic| first
  | ((with_reducible show Ev _ _ _ _ _); walk_at "dE")
  | ((with_reducible show EvA _ _ _ _ _); first | with_reducible refine eva_cons ?_ | with_reducible refine eva_nil ?_)
  | ((with_reducible show Op2 _ _ _ _ _ _); walk_at "dO")
  | ((with_reducible show Sd _ _ _ _ _); walk_at "dS")
  | ((with_reducible show Gt _ _ _ _ _ _ _); walk_at "dG")
  | ((with_reducible show Tt _ _ _ _ _); walk_at "dT")
  | ((with_reducible show OpN _ _ _ _ _); walk_at "dN")
  | with_reducible refine bl_i ?_
  | with_reducible refine eq_int ?_
  | ((with_reducible refine lct_yes ?_); (try dsimp only [wipeE, List.set_cons_zero, List.set_cons_succ]))
  | ((with_reducible refine lct_g ?_); (try dsimp only [wipeE, List.set_cons_zero, List.set_cons_succ]))
  | with_reducible refine pt_no ?_
  | with_reducible refine pt_some ?_
  | with_reducible refine ls_fz ?_
  | with_reducible refine ls_ow ?_
  | with_reducible refine ls_nw ?_
  | with_reducible refine ls_s ?_
  | with_reducible refine dk_fz ?_
  | with_reducible refine dk_ow ?_
  | with_reducible refine dk_nw ?_
  | with_reducible refine key_i ?_
  | with_reducible refine key_s ?_
  | with_reducible refine dt_fz ?_
  | with_reducible refine dt_ow ?_
  | with_reducible refine dt_nw ?_
  | with_reducible refine tk_fz ?_
  | with_reducible refine tp_fz ?_
  | with_reducible refine st_i ?_
  | ((with_reducible show Gn _ _ _ _ _ _); walk_at "dG")
  | ((with_reducible show GtA _ _ _ _ _ _); walk_at "dG")
  | ((with_reducible show Op1 _ _ _ _ _); with_reducible refine op1_U ?_)
  | ((with_reducible show (_ = Kd.fz ∨ _) ∧ _); (with_reducible refine ⟨?f, ?q⟩); (case f => walk_at "kd"))
  | ((with_reducible show (_ = Kd.nw ∨ _) ∧ _); (with_reducible refine ⟨?f, ?q⟩); (case f => walk_at "kd"))
  | ((with_reducible show (allF _) ∧ _); (with_reducible refine ⟨?f, ?q⟩); (case f => walk_at "af"); (try walk_at "dm"))
  | ((with_reducible show (_ ≤ sizeLine) ∧ _); (with_reducible refine ⟨?z, ?q⟩); (case z => first | walk_at "sz" | exact size_le (by omega)))
  | ((with_reducible show (_ = Kd.nw) ∧ _); (with_reducible refine ⟨rfl, ?q⟩); (try walk_at "ds"))
  | ((with_reducible show (_ ≠ Kd.bw) ∧ _); (with_reducible refine ⟨?f, ?q⟩); (case f => walk_at "nb"))
  | ((with_reducible show (Da.truOk _ _) ∧ _); (with_reducible refine ⟨?f, ?q⟩); (case f => first | exact trivial | assumption))
  | with_reducible refine iff_t rfl ?_
  | with_reducible refine iff_f rfl ?_)
local macro_rules | `(tactic| walk_at "d") => `(tactic| repeat (walk_at "d1"))
local macro_rules | `(tactic| walk_at "dE") => `(tactic| first
  | with_reducible refine ev_mk0 ?_
  | with_reducible refine ev_mkV ?_
  | with_reducible refine ev_xv ?_)
local macro_rules | `(tactic| walk_at "d1") => `(tactic| first
  | with_reducible refine xc_i ?_
  | with_reducible refine mkv_i rfl (by decide) ?_
  | ((with_reducible show (_ = Kd.fz) ∧ _); (with_reducible refine ⟨rfl, ?_⟩)))
theorem kn_NoQuotient {K : PySem.W.Frag} {mg : Str → Option Value} (T : Tx K mg) : Knd K (He.ga K "NoQuotient") 0 := ⟨by decide, T.xc_NoQuotient, T.kr_NoQuotient, T.koR_NoQuotient, T.koV_NoQuotient⟩
theorem kn_ZeroPolynomial {K : PySem.W.Frag} {mg : Str → Option Value} (T : Tx K mg) : Knd K (He.ga K "ZeroPolynomial") 1 := ⟨by decide, T.xc_ZeroPolynomial, T.kr_ZeroPolynomial, T.koR_ZeroPolynomial, T.koV_ZeroPolynomial⟩
theorem kn_ZeroSum {K : PySem.W.Frag} {mg : Str → Option Value} (T : Tx K mg) : Knd K (He.ga K "ZeroSum") 2 := ⟨by decide, T.xc_ZeroSum, T.kr_ZeroSum, T.koR_ZeroSum, T.koV_ZeroSum⟩
theorem kn_NoRows {K : PySem.W.Frag} {mg : Str → Option Value} (T : Tx K mg) : Knd K (He.ga K "NoRows") 3 := ⟨by decide, T.xc_NoRows, T.kr_NoRows, T.koR_NoRows, T.koV_NoRows⟩
theorem kn_BadName {K : PySem.W.Frag} {mg : Str → Option Value} (T : Tx K mg) : Knd K (He.ga K "BadName") 4 := ⟨by decide, T.xc_BadName, T.kr_BadName, T.koR_BadName, T.koV_BadName⟩
theorem kn_RowTwice {K : PySem.W.Frag} {mg : Str → Option Value} (T : Tx K mg) : Knd K (He.ga K "RowTwice") 5 := ⟨by decide, T.xc_RowTwice, T.kr_RowTwice, T.koR_RowTwice, T.koV_RowTwice⟩
theorem kn_UnknownRow {K : PySem.W.Frag} {mg : Str → Option Value} (T : Tx K mg) : Knd K (He.ga K "UnknownRow") 6 := ⟨by decide, T.xc_UnknownRow, T.kr_UnknownRow, T.koR_UnknownRow, T.koV_UnknownRow⟩
theorem kn_RowsDiffer {K : PySem.W.Frag} {mg : Str → Option Value} (T : Tx K mg) : Knd K (He.ga K "RowsDiffer") 7 := ⟨by decide, T.xc_RowsDiffer, T.kr_RowsDiffer, T.koR_RowsDiffer, T.koV_RowsDiffer⟩
theorem kn_SpotTwice {K : PySem.W.Frag} {mg : Str → Option Value} (T : Tx K mg) : Knd K (He.ga K "SpotTwice") 8 := ⟨by decide, T.xc_SpotTwice, T.kr_SpotTwice, T.koR_SpotTwice, T.koV_SpotTwice⟩
theorem kn_BadStretch {K : PySem.W.Frag} {mg : Str → Option Value} (T : Tx K mg) : Knd K (He.ga K "BadStretch") 9 := ⟨by decide, T.xc_BadStretch, T.kr_BadStretch, T.koR_BadStretch, T.koV_BadStretch⟩
theorem kn_ShortStretch {K : PySem.W.Frag} {mg : Str → Option Value} (T : Tx K mg) : Knd K (He.ga K "ShortStretch") 10 := ⟨by decide, T.xc_ShortStretch, T.kr_ShortStretch, T.koR_ShortStretch, T.koV_ShortStretch⟩
theorem kn_TooLong {K : PySem.W.Frag} {mg : Str → Option Value} (T : Tx K mg) : Knd K (He.ga K "TooLong") 11 := ⟨by decide, T.xc_TooLong, T.kr_TooLong, T.koR_TooLong, T.koV_TooLong⟩
theorem kn_CannotStand {K : PySem.W.Frag} {mg : Str → Option Value} (T : Tx K mg) : Knd K (He.ga K "CannotStand") 12 := ⟨by decide, T.xc_CannotStand, T.kr_CannotStand, T.koR_CannotStand, T.koV_CannotStand⟩
theorem kn_Broken {K : PySem.W.Frag} {mg : Str → Option Value} (T : Tx K mg) : Knd K (He.ga K "Broken") 13 := ⟨by decide, T.xc_Broken, T.kr_Broken, T.koR_Broken, T.koV_Broken⟩
theorem kn_NotFinite {K : PySem.W.Frag} {mg : Str → Option Value} (T : Tx K mg) : Knd K (He.ga K "NotFinite") 14 := ⟨by decide, T.xc_NotFinite, T.kr_NotFinite, T.koR_NotFinite, T.koV_NotFinite⟩
theorem kn_BadParts {K : PySem.W.Frag} {mg : Str → Option Value} (T : Tx K mg) : Knd K (He.ga K "BadParts") 15 := ⟨by decide, T.xc_BadParts, T.kr_BadParts, T.koR_BadParts, T.koV_BadParts⟩
theorem kn_Barred {K : PySem.W.Frag} {mg : Str → Option Value} (T : Tx K mg) : Knd K (He.ga K "Barred") 16 := ⟨by decide, T.xc_Barred, T.kr_Barred, T.koR_Barred, T.koV_Barred⟩
theorem kn_NotCourse {K : PySem.W.Frag} {mg : Str → Option Value} (T : Tx K mg) : Knd K (He.ga K "NotCourse") 17 := ⟨by decide, T.xc_NotCourse, T.kr_NotCourse, T.koR_NotCourse, T.koV_NotCourse⟩
theorem kn_BreaksOwnRule {K : PySem.W.Frag} {mg : Str → Option Value} (T : Tx K mg) : Knd K (He.ga K "BreaksOwnRule") 18 := ⟨by decide, T.xc_BreaksOwnRule, T.kr_BreaksOwnRule, T.koR_BreaksOwnRule, T.koV_BreaksOwnRule⟩
theorem kn_NotBlocked {K : PySem.W.Frag} {mg : Str → Option Value} (T : Tx K mg) : Knd K (He.ga K "NotBlocked") 19 := ⟨by decide, T.xc_NotBlocked, T.kr_NotBlocked, T.koR_NotBlocked, T.koV_NotBlocked⟩
theorem kn_Unsure {K : PySem.W.Frag} {mg : Str → Option Value} (T : Tx K mg) : Knd K (He.ga K "Unsure") 20 := ⟨by decide, T.xc_Unsure, T.kr_Unsure, T.koR_Unsure, T.koV_Unsure⟩
theorem kn_Contradiction {K : PySem.W.Frag} {mg : Str → Option Value} (T : Tx K mg) : Knd K (He.ga K "Contradiction") 21 := ⟨by decide, T.xc_Contradiction, T.kr_Contradiction, T.koR_Contradiction, T.koV_Contradiction⟩
theorem kn_NotStricter {K : PySem.W.Frag} {mg : Str → Option Value} (T : Tx K mg) : Knd K (He.ga K "NotStricter") 22 := ⟨by decide, T.xc_NotStricter, T.kr_NotStricter, T.koR_NotStricter, T.koV_NotStricter⟩
theorem kn_NoFamilies {K : PySem.W.Frag} {mg : Str → Option Value} (T : Tx K mg) : Knd K (He.ga K "NoFamilies") 23 := ⟨by decide, T.xc_NoFamilies, T.kr_NoFamilies, T.koR_NoFamilies, T.koV_NoFamilies⟩
theorem kn_NotLet {K : PySem.W.Frag} {mg : Str → Option Value} (T : Tx K mg) : Knd K (He.ga K "NotLet") 24 := ⟨by decide, T.xc_NotLet, T.kr_NotLet, T.koR_NotLet, T.koV_NotLet⟩
theorem kn_NotFree {K : PySem.W.Frag} {mg : Str → Option Value} (T : Tx K mg) : Knd K (He.ga K "NotFree") 25 := ⟨by decide, T.xc_NotFree, T.kr_NotFree, T.koR_NotFree, T.koV_NotFree⟩
theorem kn_NotTimely {K : PySem.W.Frag} {mg : Str → Option Value} (T : Tx K mg) : Knd K (He.ga K "NotTimely") 26 := ⟨by decide, T.xc_NotTimely, T.kr_NotTimely, T.koR_NotTimely, T.koV_NotTimely⟩
theorem kn_NotEntered {K : PySem.W.Frag} {mg : Str → Option Value} (T : Tx K mg) : Knd K (He.ga K "NotEntered") 27 := ⟨by decide, T.xc_NotEntered, T.kr_NotEntered, T.koR_NotEntered, T.koV_NotEntered⟩
theorem kn_NothingToUndo {K : PySem.W.Frag} {mg : Str → Option Value} (T : Tx K mg) : Knd K (He.ga K "NothingToUndo") 28 := ⟨by decide, T.xc_NothingToUndo, T.kr_NothingToUndo, T.koR_NothingToUndo, T.koV_NothingToUndo⟩
theorem kn_BadNotation {K : PySem.W.Frag} {mg : Str → Option Value} (T : Tx K mg) : Knd K (He.ga K "BadNotation") 29 := ⟨by decide, T.xc_BadNotation, T.kr_BadNotation, T.koR_BadNotation, T.koV_BadNotation⟩
/-- one error of each class -/
def errs (K : PySem.W.Frag) (s r0 : Str) (rw ot t : Da) (n m : Int) : List Da := [.xc (He.ga K "NoQuotient") [] [],
  .xc (He.ga K "ZeroPolynomial") [] [],
  .xc (He.ga K "ZeroSum") [] [],
  .xc (He.ga K "NoRows") [] [],
  .xc (He.ga K "BadName") ["name"] [.str s],
  .xc (He.ga K "RowTwice") ["name"] [.str r0],
  .xc (He.ga K "UnknownRow") ["name"] [.str r0],
  .xc (He.ga K "RowsDiffer") ["two", "one"] [ot, rw],
  .xc (He.ga K "SpotTwice") ["place", "row"] [.int n, .str r0],
  .xc (He.ga K "BadStretch") ["count"] [.int m],
  .xc (He.ga K "ShortStretch") ["span"] [.int m],
  .xc (He.ga K "TooLong") ["longest"] [.int m],
  .xc (He.ga K "CannotStand") ["terms"] [t],
  .xc (He.ga K "Broken") ["index", "place"] [.int m, .int n],
  .xc (He.ga K "NotFinite") [] [],
  .xc (He.ga K "BadParts") ["count"] [.int m],
  .xc (He.ga K "Barred") ["terms"] [t],
  .xc (He.ga K "NotCourse") ["count"] [.int m],
  .xc (He.ga K "BreaksOwnRule") ["place"] [.int n],
  .xc (He.ga K "NotBlocked") ["count"] [.int m],
  .xc (He.ga K "Unsure") [] [],
  .xc (He.ga K "Contradiction") [] [],
  .xc (He.ga K "NotStricter") ["terms"] [t],
  .xc (He.ga K "NoFamilies") [] [],
  .xc (He.ga K "NotLet") ["index"] [.int m],
  .xc (He.ga K "NotFree") ["rows"] [rw],
  .xc (He.ga K "NotTimely") ["rows"] [ot],
  .xc (He.ga K "NotEntered") ["index"] [.int n],
  .xc (He.ga K "NothingToUndo") [] [],
  .xc (He.ga K "BadNotation") ["line"] [.int m]]
theorem errs_at {K : PySem.W.Frag} {mg : Str → Option Value} (T : Tx K mg) (s r0 : Str) (rw ot t : Da) (n m : Int) : ∀ i : Nat, i < 30 → ∃ (C : Addr) (ns : List Str) (xs : List Da), (errs K s r0 rw ot t n m)[i]? = some (.xc C ns xs) ∧ Knd K C i
  | 0, _ => ⟨_, _, _, rfl, kn_NoQuotient T⟩
  | 1, _ => ⟨_, _, _, rfl, kn_ZeroPolynomial T⟩
  | 2, _ => ⟨_, _, _, rfl, kn_ZeroSum T⟩
  | 3, _ => ⟨_, _, _, rfl, kn_NoRows T⟩
  | 4, _ => ⟨_, _, _, rfl, kn_BadName T⟩
  | 5, _ => ⟨_, _, _, rfl, kn_RowTwice T⟩
  | 6, _ => ⟨_, _, _, rfl, kn_UnknownRow T⟩
  | 7, _ => ⟨_, _, _, rfl, kn_RowsDiffer T⟩
  | 8, _ => ⟨_, _, _, rfl, kn_SpotTwice T⟩
  | 9, _ => ⟨_, _, _, rfl, kn_BadStretch T⟩
  | 10, _ => ⟨_, _, _, rfl, kn_ShortStretch T⟩
  | 11, _ => ⟨_, _, _, rfl, kn_TooLong T⟩
  | 12, _ => ⟨_, _, _, rfl, kn_CannotStand T⟩
  | 13, _ => ⟨_, _, _, rfl, kn_Broken T⟩
  | 14, _ => ⟨_, _, _, rfl, kn_NotFinite T⟩
  | 15, _ => ⟨_, _, _, rfl, kn_BadParts T⟩
  | 16, _ => ⟨_, _, _, rfl, kn_Barred T⟩
  | 17, _ => ⟨_, _, _, rfl, kn_NotCourse T⟩
  | 18, _ => ⟨_, _, _, rfl, kn_BreaksOwnRule T⟩
  | 19, _ => ⟨_, _, _, rfl, kn_NotBlocked T⟩
  | 20, _ => ⟨_, _, _, rfl, kn_Unsure T⟩
  | 21, _ => ⟨_, _, _, rfl, kn_Contradiction T⟩
  | 22, _ => ⟨_, _, _, rfl, kn_NotStricter T⟩
  | 23, _ => ⟨_, _, _, rfl, kn_NoFamilies T⟩
  | 24, _ => ⟨_, _, _, rfl, kn_NotLet T⟩
  | 25, _ => ⟨_, _, _, rfl, kn_NotFree T⟩
  | 26, _ => ⟨_, _, _, rfl, kn_NotTimely T⟩
  | 27, _ => ⟨_, _, _, rfl, kn_NotEntered T⟩
  | 28, _ => ⟨_, _, _, rfl, kn_NothingToUndo T⟩
  | 29, _ => ⟨_, _, _, rfl, kn_BadNotation T⟩
  | n + 30, h => absurd h (by omega)
def R__law_created : SpR := fun ds Pq _ => ∃ (s r0 : Str) (rs : List Da) (ot t : Da) (n m : Int), ds = [.str s, .tup (.str r0 :: rs), ot, t, .lst [.int n, .int m]] ∧ EqOk 2 (.tup (.str r0 :: rs)) ∧ EqOk 2 ot ∧ EqOk 2 t ∧ Pq .fz (.bl true)
theorem sc__law_created : FnScope ["name", "rows", "others", "terms", "numbers", "n", "m", "errors", "k", "told", "due"] ["name", "rows", "others", "terms", "numbers"] (defScope (top 52)) := ⟨rfl, rfl, rfl, by decide +kernel, rfl, by decide +kernel, by decide +kernel⟩
theorem d__law_created {P : Program} {w : World} {K : PySem.W.Frag} {mg : Str → Option Value} {base : Heap} (T : Tx K mg) : Def P w K mg base "_law_created" 5 ["name", "rows", "others", "terms", "numbers"] (SpD K (R__law_created)) := by
  refine Def.of T.at__law_created sc__law_created (fun _ _ _ _ _ _ us hl => match us, hl with | [_, _, _, _, _], _ => rfl) (fun vs H Q E h => by (obtain ⟨_, _, _, _, _, h2, h, _⟩ := h; rw [← h2.len]; obtain ⟨_, _, _, _, _, _, _, rfl, _⟩ := h; rfl)) (fun f cdv A outer s H vs Q E hr h => ?_)
  refine ⟨_, PSs.nox (pss_cons (ps_set (i := 5) sc__law_created.nd rfl (Or.inl rfl) (pe_ix ix_seq (pv 4) pe_int (fun _ _ => rfl)))
      (pss_cons (ps_set (i := 6) sc__law_created.nd rfl (Or.inl rfl) (pe_ix ix_seq (pv 4) pe_int (fun _ _ => rfl)))
      (pss_cons (ps_set (i := 7) sc__law_created.nd rfl (Or.inl rfl) (pe_lstA (pa_cons (pe_mk0 PySem.F.excBase_ValueError T.x_NoQuotient.1 T.g_NoQuotient T.x_NoQuotient.2.1 (by rfl)) (pa_cons (pe_mk0 PySem.F.excBase_ValueError T.x_ZeroPolynomial.1 T.g_ZeroPolynomial T.x_ZeroPolynomial.2.1 (by rfl)) (pa_cons (pe_mk0 PySem.F.excBase_ValueError T.x_ZeroSum.1 T.g_ZeroSum T.x_ZeroSum.2.1 (by rfl)) (pa_cons (pe_mk0 PySem.F.excBase_ValueError T.x_NoRows.1 T.g_NoRows T.x_NoRows.2.1 (by rfl)) (pa_cons (pe_mkD (i_BadName T) (hr.mono (by decide)) (by rfl) T.g_BadName (pa_cons (pv 0) pa_nil)) (pa_cons (pe_mkD (i_RowTwice T) (hr.mono (by decide)) (by rfl) T.g_RowTwice (pa_cons (pe_ix ix_seq (pv 1) pe_int (fun _ _ => rfl)) pa_nil)) pa_nil))))))))
      (pss_cons (ps_set (i := 7) sc__law_created.nd rfl (Or.inl rfl) (pe_op op_addA (pv 7) (pe_lstA (pa_cons (pe_mkD (i_UnknownRow T) (hr.mono (by decide)) (by rfl) T.g_UnknownRow (pa_cons (pe_ix ix_seq (pv 1) pe_int (fun _ _ => rfl)) pa_nil)) (pa_cons (pe_mkD (i_RowsDiffer T) (hr.mono (by decide)) (by rfl) T.g_RowsDiffer (pa_cons (pv 1) (pa_cons (pv 2) pa_nil))) (pa_cons (pe_mkD (i_SpotTwice T) (hr.mono (by decide)) (by rfl) T.g_SpotTwice (pa_cons (pe_ix ix_seq (pv 1) pe_int (fun _ _ => rfl)) (pa_cons (pv 5) pa_nil))) (pa_cons (pe_mkD (i_BadStretch T) (hr.mono (by decide)) (by rfl) T.g_BadStretch (pa_cons (pv 6) pa_nil)) pa_nil)))))))
      (pss_cons (ps_set (i := 7) sc__law_created.nd rfl (Or.inl rfl) (pe_op op_addA (pv 7) (pe_lstA (pa_cons (pe_mkD (i_ShortStretch T) (hr.mono (by decide)) (by rfl) T.g_ShortStretch (pa_cons (pv 6) pa_nil)) (pa_cons (pe_mkD (i_TooLong T) (hr.mono (by decide)) (by rfl) T.g_TooLong (pa_cons (pv 6) pa_nil)) pa_nil)))))
      (pss_cons (ps_set (i := 7) sc__law_created.nd rfl (Or.inl rfl) (pe_op op_addA (pv 7) (pe_lstA (pa_cons (pe_mkD (i_CannotStand T) (hr.mono (by decide)) (by rfl) T.g_CannotStand (pa_cons (pv 3) pa_nil)) (pa_cons (pe_mkD (i_Broken T) (hr.mono (by decide)) (by rfl) T.g_Broken (pa_cons (pv 5) (pa_cons (pv 6) pa_nil))) (pa_cons (pe_mk0 PySem.F.excBase_ValueError T.x_NotFinite.1 T.g_NotFinite T.x_NotFinite.2.1 (by rfl)) (pa_cons (pe_mkD (i_BadParts T) (hr.mono (by decide)) (by rfl) T.g_BadParts (pa_cons (pv 6) pa_nil)) (pa_cons (pe_mkD (i_Barred T) (hr.mono (by decide)) (by rfl) T.g_Barred (pa_cons (pv 3) pa_nil)) (pa_cons (pe_mkD (i_NotCourse T) (hr.mono (by decide)) (by rfl) T.g_NotCourse (pa_cons (pv 6) pa_nil)) pa_nil)))))))))
      (pss_cons (ps_set (i := 7) sc__law_created.nd rfl (Or.inl rfl) (pe_op op_addA (pv 7) (pe_lstA (pa_cons (pe_mkD (i_BreaksOwnRule T) (hr.mono (by decide)) (by rfl) T.g_BreaksOwnRule (pa_cons (pv 5) pa_nil)) (pa_cons (pe_mkD (i_NotBlocked T) (hr.mono (by decide)) (by rfl) T.g_NotBlocked (pa_cons (pv 6) pa_nil)) (pa_cons (pe_mk0 PySem.F.excBase_ValueError T.x_Unsure.1 T.g_Unsure T.x_Unsure.2.1 (by rfl)) (pa_cons (pe_mk0 PySem.F.excBase_ValueError T.x_Contradiction.1 T.g_Contradiction T.x_Contradiction.2.1 (by rfl)) (pa_cons (pe_mkD (i_NotStricter T) (hr.mono (by decide)) (by rfl) T.g_NotStricter (pa_cons (pv 3) pa_nil)) (pa_cons (pe_mk0 PySem.F.excBase_ValueError T.x_NoFamilies.1 T.g_NoFamilies T.x_NoFamilies.2.1 (by rfl)) pa_nil)))))))))
      (pss_cons (ps_set (i := 7) sc__law_created.nd rfl (Or.inl rfl) (pe_op op_addA (pv 7) (pe_lstA (pa_cons (pe_mkD (i_NotLet T) (hr.mono (by decide)) (by rfl) T.g_NotLet (pa_cons (pv 6) pa_nil)) (pa_cons (pe_mkD (i_NotFree T) (hr.mono (by decide)) (by rfl) T.g_NotFree (pa_cons (pv 1) pa_nil)) (pa_cons (pe_mkD (i_NotTimely T) (hr.mono (by decide)) (by rfl) T.g_NotTimely (pa_cons (pv 2) pa_nil)) (pa_cons (pe_mkD (i_NotEntered T) (hr.mono (by decide)) (by rfl) T.g_NotEntered (pa_cons (pv 5) pa_nil)) (pa_cons (pe_mk0 PySem.F.excBase_ValueError T.x_NothingToUndo.1 T.g_NothingToUndo T.x_NothingToUndo.2.1 (by rfl)) (pa_cons (pe_mkD (i_BadNotation T) (hr.mono (by decide)) (by rfl) T.g_BadNotation (pa_cons (pv 6) pa_nil)) pa_nil)))))))))
      (pss_cons (ps_for PassesOwn.never rfl (pi_range1 (by rfl) T.n_range (pa_cons (pe_callB call_lenA (by rfl) T.n_len (by decide +kernel) (pa_cons (pv 7) pa_nil)) pa_nil)) (pg_name (i := 8) sc__law_created.nd rfl (Or.inl rfl)) (pss_one (ps_if (pt_cmpR (op_neA hr.units) (pe_def (d__law_kinds T) (hr.mono (by decide)) (by rfl) (pa_cons (pe_ix ix_seq (pv 7) (pv 8) (fun _ _ => rfl)) pa_nil)) (pe_lstA (pa_cons (pv 8) pa_nil)) (nomark _)) (pss_one (ps_ret pe_bl)) pss_nil)))
      (pss_cons (ps_set (i := 9) sc__law_created.nd rfl (Or.inl rfl) (pe_lstA (pa_cons (pe_xv (pe_ix ix_seq (pv 7) pe_int (fun _ _ => rfl))) (pa_cons (pe_xv (pe_ix ix_seq (pv 7) pe_int (fun _ _ => rfl))) (pa_cons (pe_xv (pe_ix ix_seq (pv 7) pe_int (fun _ _ => rfl))) (pa_cons (pe_xv (pe_ix ix_seq (pv 7) pe_int (fun _ _ => rfl))) (pa_cons (pe_xv (pe_ix ix_seq (pv 7) pe_int (fun _ _ => rfl))) (pa_cons (pe_xv (pe_ix ix_seq (pv 7) pe_int (fun _ _ => rfl))) pa_nil))))))))
      (pss_cons (ps_set (i := 9) sc__law_created.nd rfl (Or.inl rfl) (pe_op op_addA (pv 9) (pe_lstA (pa_cons (pe_xv (pe_ix ix_seq (pv 7) pe_int (fun _ _ => rfl))) (pa_cons (pe_xv (pe_ix ix_seq (pv 7) pe_int (fun _ _ => rfl))) (pa_cons (pe_xv (pe_ix ix_seq (pv 7) pe_int (fun _ _ => rfl))) (pa_cons (pe_xv (pe_ix ix_seq (pv 7) pe_int (fun _ _ => rfl))) (pa_cons (pe_xv (pe_ix ix_seq (pv 7) pe_int (fun _ _ => rfl))) pa_nil))))))))
      (pss_cons (ps_set (i := 9) sc__law_created.nd rfl (Or.inl rfl) (pe_op op_addA (pv 9) (pe_lstA (pa_cons (pe_xv (pe_ix ix_seq (pv 7) pe_int (fun _ _ => rfl))) (pa_cons (pe_xv (pe_ix ix_seq (pv 7) pe_int (fun _ _ => rfl))) (pa_cons (pe_xv (pe_ix ix_seq (pv 7) pe_int (fun _ _ => rfl))) (pa_cons (pe_xv (pe_ix ix_seq (pv 7) pe_int (fun _ _ => rfl))) (pa_cons (pe_xv (pe_ix ix_seq (pv 7) pe_int (fun _ _ => rfl))) pa_nil))))))))
      (pss_cons (ps_set (i := 9) sc__law_created.nd rfl (Or.inl rfl) (pe_op op_addA (pv 9) (pe_lstA (pa_cons (pe_xv (pe_ix ix_seq (pv 7) pe_int (fun _ _ => rfl))) (pa_cons (pe_xv (pe_ix ix_seq (pv 7) pe_int (fun _ _ => rfl))) (pa_cons (pe_xv (pe_ix ix_seq (pv 7) pe_int (fun _ _ => rfl))) (pa_cons (pe_xv (pe_ix ix_seq (pv 7) pe_int (fun _ _ => rfl))) (pa_cons (pe_xv (pe_ix ix_seq (pv 7) pe_int (fun _ _ => rfl))) pa_nil))))))))
      (pss_cons (ps_set (i := 9) sc__law_created.nd rfl (Or.inl rfl) (pe_op op_addA (pv 9) (pe_lstA (pa_cons (pe_xv (pe_ix ix_seq (pv 7) pe_int (fun _ _ => rfl))) (pa_cons (pe_xv (pe_ix ix_seq (pv 7) pe_int (fun _ _ => rfl))) (pa_cons (pe_xv (pe_ix ix_seq (pv 7) pe_int (fun _ _ => rfl))) pa_nil))))))
      (pss_cons (ps_set (i := 10) sc__law_created.nd rfl (Or.inl rfl) (pe_lstA (pa_cons (pv 0) (pa_cons (pe_ix ix_seq (pv 1) pe_int (fun _ _ => rfl)) (pa_cons (pe_ix ix_seq (pv 1) pe_int (fun _ _ => rfl)) (pa_cons (pv 1) (pa_cons (pv 2) (pa_cons (pe_ix ix_seq (pv 1) pe_int (fun _ _ => rfl)) (pa_cons (pv 5) (pa_cons (pv 6) (pa_cons (pv 6) (pa_cons (pv 6) (pa_cons (pv 3) (pa_cons (pv 5) (pa_cons (pv 6) (pa_cons (pv 6) (pa_cons (pv 3) (pa_cons (pv 6) (pa_cons (pv 5) (pa_cons (pv 6) (pa_cons (pv 3) (pa_cons (pv 6) (pa_cons (pv 1) pa_nil)))))))))))))))))))))))
      (pss_one (ps_ret (pe_def (de__law_equal T 3) (hr.mono (by decide)) (by rfl) (pa_cons (pv 9) (pa_cons (pe_op op_addA (pv 10) (pe_lstA (pa_cons (pv 2) (pa_cons (pv 5) (pa_cons (pv 6) pa_nil))))) pa_nil)))))))))))))))))))), ?_⟩
  obtain ⟨F, ds, Pq, Xq, hF, ha, h, hQ, hE⟩ := h
  refine sd_top hF ha hQ ?_
  clear hQ ha hE
  generalize hB0 : (⟨F, H, []⟩ : Bs) = B
  have hL : B.L = [] := by rw [← hB0]
  clear hB0
  obtain ⟨s, r0, rs, ot, t, n, m, rfl, h1, h2, h3, q⟩ := h
  have hr0 : atI (Da.str r0 :: rs) ((0 : Nat) : Int) = some (.str r0) := atI_nat rfl
  walk_at "d0"
  walk_at "d"
  refine op2_ix rfl hr0 nofun ?_
  walk_at "d"
  refine op2_ix rfl hr0 nofun ?_
  walk_at "d"
  refine op2_ix rfl hr0 nofun ?_
  walk_at "d"
  refine ⟨_, _, 30, rfl, rfl, ⟨by show -2 ^ 62 ≤ (30 : Int); decide, by show (30 : Int) < 2 ^ 62; decide⟩, fun i env' => ∃ v8 : Sl, env' = [.dat (.str s), .dat (.tup (.str r0 :: rs)), .dat ot, .dat t, .dat (.lst [.int n, .int m]), .dat (.int n), .dat (.int m), .dat (.lst (errs K s r0 (.tup (.str r0 :: rs)) ot t n m)), v8, .un, .un], ⟨_, rfl⟩, ?_, ?_⟩
  · rintro i env' hi ⟨v8, rfl⟩
    obtain ⟨C, ns, xs, he, hk⟩ := errs_at T s r0 (.tup (.str r0 :: rs)) ot t n m i hi
    walk_at "d"
    refine op2_ix rfl (atI_nat he) nofun ?_
    walk_at "d"
    refine ⟨C, ns, xs, i, rfl, hk, ?_⟩
    walk_at "d"
    refine op2_neSame rfl ?_
    walk_at "d"
    exact ⟨_, rfl⟩
  · rintro env' ⟨v8, rfl⟩
    walk_at "d"
    refine ⟨T.xf_BadName, T.no_BadName_name, _, rfl, ?_⟩
    walk_at "d"
    refine ⟨T.xf_RowTwice, T.no_RowTwice_name, _, rfl, ?_⟩
    walk_at "d"
    refine ⟨T.xf_UnknownRow, T.no_UnknownRow_name, _, rfl, ?_⟩
    walk_at "d"
    refine ⟨T.xf_RowsDiffer, T.no_RowsDiffer_one, _, rfl, ?_⟩
    walk_at "d"
    refine ⟨T.xf_RowsDiffer, T.no_RowsDiffer_two, _, rfl, ?_⟩
    walk_at "d"
    refine ⟨T.xf_SpotTwice, T.no_SpotTwice_row, _, rfl, ?_⟩
    walk_at "d"
    refine ⟨T.xf_SpotTwice, T.no_SpotTwice_place, _, rfl, ?_⟩
    walk_at "d"
    refine ⟨T.xf_BadStretch, T.no_BadStretch_count, _, rfl, ?_⟩
    walk_at "d"
    refine ⟨T.xf_ShortStretch, T.no_ShortStretch_span, _, rfl, ?_⟩
    walk_at "d"
    refine ⟨T.xf_TooLong, T.no_TooLong_longest, _, rfl, ?_⟩
    walk_at "d"
    refine ⟨T.xf_CannotStand, T.no_CannotStand_terms, _, rfl, ?_⟩
    walk_at "d"
    refine ⟨T.xf_Broken, T.no_Broken_place, _, rfl, ?_⟩
    walk_at "d"
    refine ⟨T.xf_Broken, T.no_Broken_index, _, rfl, ?_⟩
    walk_at "d"
    refine ⟨T.xf_BadParts, T.no_BadParts_count, _, rfl, ?_⟩
    walk_at "d"
    refine ⟨T.xf_Barred, T.no_Barred_terms, _, rfl, ?_⟩
    walk_at "d"
    refine ⟨T.xf_NotCourse, T.no_NotCourse_count, _, rfl, ?_⟩
    walk_at "d"
    refine ⟨T.xf_BreaksOwnRule, T.no_BreaksOwnRule_place, _, rfl, ?_⟩
    walk_at "d"
    refine ⟨T.xf_NotBlocked, T.no_NotBlocked_count, _, rfl, ?_⟩
    walk_at "d"
    refine ⟨T.xf_NotStricter, T.no_NotStricter_terms, _, rfl, ?_⟩
    walk_at "d"
    refine ⟨T.xf_NotLet, T.no_NotLet_index, _, rfl, ?_⟩
    walk_at "d"
    refine ⟨T.xf_NotFree, T.no_NotFree_rows, _, rfl, ?_⟩
    walk_at "d"
    refine ⟨T.xf_NotTimely, T.no_NotTimely_rows, _, rfl, ?_⟩
    walk_at "d"
    refine ⟨T.xf_NotEntered, T.no_NotEntered_index, _, rfl, ?_⟩
    walk_at "d"
    refine ⟨T.xf_BadNotation, T.no_BadNotation_line, _, rfl, ?_⟩
    walk_at "d"
    refine op2_ix rfl hr0 nofun ?_
    walk_at "d"
    refine op2_ix rfl hr0 nofun ?_
    walk_at "d"
    refine op2_ix rfl hr0 nofun ?_
    walk_at "d"
    refine ⟨_, rfl, .lst (by show (24 : Nat) < 10000; decide) ?_, q⟩
    show ∀ d ∈ ([.str s, .str r0, .str r0, .tup (.str r0 :: rs), ot, .str r0, .int n, .int m, .int m, .int m, t, .int n, .int m, .int m, t, .int m, .int n, .int m, t, .int m, .tup (.str r0 :: rs), ot, .int n, .int m] : List Da), EqOk 2 d
    repeat (refine List.forall_mem_cons.mpr ⟨?_, ?_⟩; (first | exact .str _ _ | exact .int _ _ | exact h1 | exact h2 | exact h3))
    intro d h
    cases h
end JP
set_option Elab.async false
set_option linter.all false
set_option maxRecDepth 100000
set_option maxHeartbeats 4000000
set_option pp.deepTerms false
set_option pp.deepTerms.threshold 6
set_option pp.maxSteps 1200
namespace JP
open PySem PySem.Spec PyProof.Rows L2 L2H JPX
local macro_rules | `(tactic| walk_at "nb") => `(tactic| first | with_reducible exact fz_bw | with_reducible exact nw_bw | with_reducible exact ow_bw)
local macro_rules | `(tactic| walk_at "kd") => `(tactic| first | with_reducible exact Or.inl rfl | with_reducible exact Or.inr rfl)
local macro_rules | `(tactic| walk_at "af") => `(tactic| repeat (first | with_reducible exact allF_nil | ((with_reducible refine allF_cons ?h ?_); (case h => walk_at "kd"))))
local macro_rules | `(tactic| walk_at "sz") => `(tactic| (simp only [List.length_cons, List.length_nil, List.length_append, List.length_map, List.length_range]; decide))
local macro_rules | `(tactic| walk_at "side") => `(tactic| first | assumption | (exact small_div (by omega) (by omega)) | (exact small_mul (by omega) (by omega)) | (exact med_mul (by omega) (by omega)) | (exact big_mul (by omega) (by omega)) | (exact ⟨by decide, by decide, by decide⟩) | (show (0 : Int) < _; omega))
local macro_rules | `(tactic| walk_at "d0") => `(tactic| simp only [cxOf_K, List.map_cons, List.map_nil, List.length_cons, List.length_nil, Nat.reduceAdd, Nat.reduceSub, List.replicate_succ, List.replicate_zero, List.cons_append, List.nil_append])
local macro_rules | `(tactic| walk_at "ds") => `(tactic| try dsimp only [wipeE, List.set_cons_zero, List.set_cons_succ])
local macro_rules | `(tactic| walk_at "dm") => `(tactic| dsimp only [List.map])
local macro_rules | `(tactic| walk_at "dS") => `(tactic| first
  | with_reducible refine sd_seq ?_
  | with_reducible refine sd_next ?_
  | ((with_reducible refine sd_own ?h ?q); (case h => exact rfl))
  | ((with_reducible refine sd_setI (ds := ?ds) ?e ?q); (case e => exact rfl))
  | with_reducible refine sd_asg ?_
  | with_reducible refine sd_if ?_
  | with_reducible refine sd_ret ?_
  | with_reducible refine sd_new ?_
  | ((with_reducible refine sd_app (ds := ?ds) ?e ?q); (case e => exact rfl))
  | ((with_reducible refine sd_dput (kvs := ?kvs) ?e ?q); (case e => exact rfl))
  | ((with_reducible refine sd_mputT (kvs := ?kvs) ?e ?q); (case e => exact rfl))
  | with_reducible refine sd_drop ?_
  | with_reducible refine sd_ret0 ?_
  | with_reducible refine sd_for ?_
  | with_reducible refine sd_for1 ?_
  | with_reducible refine sd_for2 ?_
  | with_reducible refine sd_for3 ?_
  | ((with_reducible refine sd_augI (a := ?a) ?e ?q); (case e => exact rfl))
  | with_reducible refine sd_brk ?_
  | with_reducible refine sd_cont ?_)
local macro_rules | `(tactic| walk_at "dE") => `(tactic| first
  | ((with_reducible refine ev_var (d := ?d) ?e ?q); (case e => exact rfl))
  | ((with_reducible refine ev_own (d := ?d) ?e ?q); (case e => exact rfl))
  | with_reducible refine ev_int ?_
  | with_reducible refine ev_op ?_
  | with_reducible refine ev_cb ?_
  | ((with_reducible refine ev_call ?l ?q); (case l => assumption))
  | with_reducible refine ev_tup ?_
  | with_reducible refine ev_lst ?_
  | with_reducible refine ev_un ?_
  | with_reducible refine ev_bl ?_
  | with_reducible refine ev_non ?_
  | with_reducible refine ev_str ?_
  | with_reducible refine ev_ty ?_
  | with_reducible refine ev_ref ?_
  | with_reducible refine ev_if ?_
  | with_reducible refine ev_not ?_
  | with_reducible refine ev_notT ?_
  | with_reducible refine ev_and ?_
  | with_reducible refine ev_or ?_
  | with_reducible refine ev_chain ?_
  | with_reducible refine ev_bits ?_
  | with_reducible refine ev_dget ?_
  | with_reducible refine ev_dget2 ?_
  | with_reducible refine ev_mgT ?_
  | with_reducible refine ev_mg2T ?_
  | with_reducible refine ev_dnewT ?_
  | with_reducible refine ev_slT ?_
  | with_reducible refine ev_slS ?_
  | with_reducible refine ev_join ?_
  | with_reducible refine ev_dnew ?_
  | with_reducible refine ev_slL ?_
  | with_reducible refine ev_disp1 ?_
  | with_reducible refine ev_dispT ?_)
local macro_rules | `(tactic| walk_at "dO") => `(tactic| first
  | with_reducible refine op2_addI ?_
  | with_reducible refine op2_I0 ?_
  | ((with_reducible refine op2_addL ?a ?b ?z ?q); (case a => walk_at "nb"); (case b => walk_at "nb"); (case z => first | walk_at "sz" | exact size_le (by simp only [List.length_cons, List.length_nil, List.length_append, List.length_map, List.length_range, List.length_take, List.length_drop]; omega)))
  | with_reducible refine op2_B0 ?_
  | ((with_reducible refine op2_ix (ds := ?ds) (d := ?d) ?e ?a ?k ?q); (case e => exact rfl); (case a => exact rfl); (case k => walk_at "nb"))
  | with_reducible refine op2_eqI ?_
  | with_reducible refine op2_neI ?_
  | with_reducible refine op2_p18 ?_
  | with_reducible refine op2_p9 ?_
  | with_reducible refine op2_p6 ?_
  | with_reducible refine op2_p30 ?_
  | with_reducible refine op2_p12 ?_
  | with_reducible refine op2_p15 ?_
  | with_reducible refine op2_p24 ?_
  | with_reducible refine op2_p20 ?_
  | with_reducible refine op2_p2 ?_
  | with_reducible refine op2_p3 ?_
  | with_reducible refine op2_p4 ?_
  | with_reducible refine op2_p5 ?_
  | ((with_reducible refine op2_I ?c ?q); (case c => walk_at "side"))
  | with_reducible refine op2_eqS ?_
  | with_reducible refine op2_neS ?_
  | with_reducible refine op2_eqB ?_
  | with_reducible refine op2_neB ?_
  | with_reducible refine op2_is ?_
  | with_reducible refine op2_isNot ?_)
local macro_rules | `(tactic| walk_at "dN") => `(tactic| first
  | with_reducible refine opn_int ?_
  | ((with_reducible refine opn_len (ds := ?ds) ?e ?q); (case e => exact rfl))
  | with_reducible refine opn_lenD ?_
  | ((with_reducible refine opn_lenT ?l ?q); (case l => assumption))
  | with_reducible refine opn_intB ?_
  | with_reducible refine opn_abs ?_
  | with_reducible refine opn_gcd ?_
  | ((with_reducible refine opn_list (ds := ?ds) ?e ?k ?q); (case e => exact rfl); (case k => walk_at "nb"))
  | ((with_reducible refine opn_tuple (ds := ?ds) ?e ?k ?s ?q); (case e => exact rfl); (case k => walk_at "nb"); (case s => exact (fun _ => nofun)))
  | ((with_reducible refine opn_isi true ?n ?c ?e ?q); (case e => exact rfl); (case n => exact rfl); (case c => exact rfl))
  | ((with_reducible refine opn_isi false ?n ?c ?e ?q); (case e => exact rfl); (case n => exact rfl); (case c => exact rfl)))
local macro_rules | `(tactic| walk_at "dT") => `(tactic| first
  | with_reducible refine tt_test ?_
  | with_reducible refine tt_B ?_
  | with_reducible refine tt_and ?_
  | with_reducible refine tt_or ?_
  | with_reducible refine tt_not ?_
  | with_reducible refine tt_yes ?_
  | with_reducible refine tt_tru ?_)
local macro_rules | `(tactic| walk_at "dG") => `(tactic| first
  | ((with_reducible refine gt_name ?k ?q); (case k => walk_at "kd"); (walk_at "ds"))
  | ((with_reducible refine gn_name ?_); (walk_at "ds"))
  | ((with_reducible refine gn_tup (ds := ?ds) ?e ?n ?q); (case e => exact rfl); (case n => exact rfl))
  | ((with_reducible refine gt_tup (ds := ?ds) ?e ?n ?k ?q); (case e => exact rfl); (case n => exact rfl); (case k => walk_at "nb"))
  | ((with_reducible refine gta_name ?_); (walk_at "ds"))
  | ((with_reducible refine gta_tup (es := ?es) ?e ?n ?q); (case e => exact rfl); (case n => exact rfl))
  | with_reducible refine gta_nil ?_)
local macro_rules | `(tactic| walk_at "d1") => `(tactic| first
  | ((with_reducible show Ev _ _ _ _ _); walk_at "dE")
  | ((with_reducible show EvA _ _ _ _ _); first | with_reducible refine eva_cons ?_ | with_reducible refine eva_nil ?_)
  | ((with_reducible show Op2 _ _ _ _ _ _); walk_at "dO")
  | ((with_reducible show Sd _ _ _ _ _); walk_at "dS")
  | ((with_reducible show Gt _ _ _ _ _ _ _); walk_at "dG")
  | ((with_reducible show Tt _ _ _ _ _); walk_at "dT")
  | ((with_reducible show OpN _ _ _ _ _); walk_at "dN")
  | with_reducible refine bl_i ?_
  | with_reducible refine eq_int ?_
  | ((with_reducible refine lct_yes ?_); (try dsimp only [wipeE, List.set_cons_zero, List.set_cons_succ]))
  | ((with_reducible refine lct_g ?_); (try dsimp only [wipeE, List.set_cons_zero, List.set_cons_succ]))
  | with_reducible refine pt_no ?_
  | with_reducible refine pt_some ?_
  | with_reducible refine ls_fz ?_
  | with_reducible refine ls_ow ?_
  | with_reducible refine ls_nw ?_
  | with_reducible refine ls_s ?_
  | with_reducible refine dk_fz ?_
  | with_reducible refine dk_ow ?_
  | with_reducible refine dk_nw ?_
  | with_reducible refine key_i ?_
  | with_reducible refine key_s ?_
  | with_reducible refine dt_fz ?_
  | with_reducible refine dt_ow ?_
  | with_reducible refine dt_nw ?_
  | with_reducible refine tk_fz ?_
  | with_reducible refine tp_fz ?_
  | with_reducible refine st_i ?_
  | ((with_reducible show Gn _ _ _ _ _ _); walk_at "dG")
  | ((with_reducible show GtA _ _ _ _ _ _); walk_at "dG")
  | ((with_reducible show Op1 _ _ _ _ _); with_reducible refine op1_U ?_)
  | ((with_reducible show (_ = Kd.fz ∨ _) ∧ _); (with_reducible refine ⟨?f, ?q⟩); (case f => walk_at "kd"))
  | ((with_reducible show (_ = Kd.nw ∨ _) ∧ _); (with_reducible refine ⟨?f, ?q⟩); (case f => walk_at "kd"))
  | ((with_reducible show (allF _) ∧ _); (with_reducible refine ⟨?f, ?q⟩); (case f => walk_at "af"); (try walk_at "dm"))
  | ((with_reducible show (_ ≤ sizeLine) ∧ _); (with_reducible refine ⟨?z, ?q⟩); (case z => first | walk_at "sz" | exact size_le (by omega)))
  | ((with_reducible show (_ = Kd.nw) ∧ _); (with_reducible refine ⟨rfl, ?q⟩); (try walk_at "ds"))
  | ((with_reducible show (_ ≠ Kd.bw) ∧ _); (with_reducible refine ⟨?f, ?q⟩); (case f => walk_at "nb"))
  | ((with_reducible show (Da.truOk _ _) ∧ _); (with_reducible refine ⟨?f, ?q⟩); (case f => first | exact trivial | assumption))
  | with_reducible refine iff_t rfl ?_
  | with_reducible refine iff_f rfl ?_)
local macro_rules | `(tactic| walk_at "d") => `(tactic| repeat (walk_at "d1"))
local macro_rules | `(tactic| walk_at "dE") => `(tactic| first
  | with_reducible refine ev_mk0 ?_
  | with_reducible refine ev_mkV ?_
  | with_reducible refine ev_xv ?_)
local macro_rules | `(tactic| walk_at "d1") => `(tactic| first
  | with_reducible refine xc_i ?_
  | with_reducible refine mkv_i rfl (by decide) ?_
  | ((with_reducible show (_ = Kd.fz) ∧ _); (with_reducible refine ⟨rfl, ?_⟩)))
def letr : Str := "abcdefghijklmnopqrstuvwxyz"
def sgns : Str := "abcdefghijklmnopqrstuvwxyz0123456789"
/-- is it a row name? -/
def good (s : Str) : Bool := decide (1 ≤ s.length) && decide (s.length ≤ 10) && (match s.cps.toList with
  | [] => false
  | c :: r => decide (c ∈ letr.cps.toList) && r.all fun d => decide (d ∈ sgns.cps.toList))
theorem letr_sgns : ∀ c ∈ letr.cps.toList, c ∈ sgns.cps.toList := by decide +kernel
def R_is_row_name : SpR := fun ds Pq _ => ∃ s : Str, ds = [.str s] ∧ s.length < 10000 ∧ Pq .fz (.bl (good s))
theorem sc_is_row_name : FnScope ["value", "sign"] ["value"] (defScope (top 36)) := ⟨rfl, rfl, rfl, by decide +kernel, rfl, by decide +kernel, by decide +kernel⟩
theorem d_is_row_name {P : Program} {w : World} {K : PySem.W.Frag} {mg : Str → Option Value} {base : Heap} (T : Tx K mg) : Def P w K mg base "is_row_name" 1 ["value"] (SpD K (R_is_row_name)) := by
  refine Def.of T.at_is_row_name sc_is_row_name (fun _ _ _ _ _ _ us hl => match us, hl with | [_], _ => rfl) (fun vs H Q E h => by (obtain ⟨_, _, _, _, _, h2, h, _⟩ := h; rw [← h2.len]; obtain ⟨_, rfl, _⟩ := h; rfl)) (fun f cdv A outer s H vs Q E hr h => ?_)
  refine ⟨_, PSs.nox (pss_cons (ps_if (PW.pt (pw_or (pt_not (pt_chain op_le op_le pe_int (pe_callB call_lenA (by rfl) T.n_len (by decide +kernel) (pa_cons (pv 0) pa_nil)) (pe_gint (by rfl) T.c_LONGEST))) (pw_or1 (pt_cmpR op_notIn_sign (pe_ix ix_seq (pv 0) pe_int (fun _ _ => rfl)) (pe_gstr (by rfl) T.c_LETTERS) (by rfl))))) (pss_one (ps_ret pe_bl)) pss_nil)
      (pss_cons (ps_for PassesOwn.never rfl (pi_str (pv 0)) (pg_name (i := 1) sc_is_row_name.nd rfl (Or.inl rfl)) (pss_one (ps_if (pt_cmpR op_notIn_sign (pv 1) (pe_gstr (by rfl) T.c_SIGNS) (by rfl)) (pss_one (ps_ret pe_bl)) pss_nil)))
      (pss_one (ps_ret pe_bl)))), ?_⟩
  obtain ⟨F, ds, Pq, Xq, hF, ha, h, hQ, hE⟩ := h
  refine sd_top hF ha hQ ?_
  clear hQ ha hE
  generalize hB0 : (⟨F, H, []⟩ : Bs) = B
  have hL : B.L = [] := by rw [← hB0]
  clear hB0
  obtain ⟨s, rfl, hz, q⟩ := h
  walk_at "d0"
  walk_at "d"
  refine opn_lenS (size_le (by omega)) ?_
  walk_at "d"
  have gb : ∀ {b : Bool}, good s = b → Pq .fz (.bl b) := fun h => h ▸ q
  refine iteD (fun h1 => ?_) (fun h1 => ?_)
  · walk_at "d"
    refine iteN (fun h2 => ?_) (fun h2 => ?_)
    · walk_at "d"
      refine gb ?_
      have h2 := of_decide_eq_false h2
      unfold good
      rw [decide_eq_false (show ¬ s.length ≤ 10 by omega), Bool.and_false, Bool.false_and]
    have h2 := of_decide_eq_true h2
    cases hc : s.cps.toList with
    | nil =>
      have : s.length = 0 := by show s.cps.size = 0; rw [← Array.length_toList, hc]; rfl
      omega
    | cons c r =>
      have hsz : s.cps.size = r.length + 1 := by rw [← Array.length_toList, hc]; rfl
      have g0 : good s = (decide (c ∈ letr.cps.toList) && r.all fun d => decide (d ∈ sgns.cps.toList)) := by
        unfold good
        rw [decide_eq_true (show 1 ≤ s.length by omega), decide_eq_true (show s.length ≤ 10 by omega), hc]
        rfl
      walk_at "d"
      refine op2_ixS (c := c) (size_le (by omega)) (show atI s.cps.toList ((0 : Nat) : Int) = _ from atI_nat (by rw [hc]; rfl)) ?_
      walk_at "d"
      refine op2_notC ?_
      walk_at "d"
      refine iteN (fun h3 => ?_) (fun h3 => ?_)
      · walk_at "d"
        refine gb ?_
        rw [g0, show decide (c ∈ letr.cps.toList) = false from h3, Bool.false_and]
      · walk_at "d"
        have h3 : decide (c ∈ letr.cps.toList) = true := h3
        have hcs : c ∈ sgns.cps.toList := letr_sgns c (of_decide_eq_true h3)
        refine sd_forS ?_
        walk_at "d"
        refine ⟨fun i env' => ∃ v : Sl, env' = [.dat (.str s), v] ∧ ∀ d ∈ (c :: r).take i, d ∈ sgns.cps.toList, ⟨_, rfl, fun d hd => by cases hd⟩, ?_, ?_⟩
        · rintro i d env' hi ⟨v, rfl, hA⟩
          rw [hc] at hi
          walk_at "d"
          refine op2_notC ?_
          walk_at "d"
          refine iteN (fun h4 => ?_) (fun h4 => ?_)
          · walk_at "d"
            refine gb ?_
            have h4 : decide (d ∈ sgns.cps.toList) = false := h4
            have hd := List.mem_of_getElem? hi
            rw [g0, h3, Bool.true_and]
            refine Bool.eq_false_iff.mpr fun z => ?_
            rcases List.mem_cons.mp hd with rfl | hd
            · exact of_decide_eq_false h4 hcs
            · have := List.all_eq_true.mp z d hd
              rw [h4] at this
              cases this
          · walk_at "d"
            refine ⟨_, rfl, fun e he => ?_⟩
            rw [take_snoc hi] at he
            rcases List.mem_append.mp he with he | he
            · exact hA e he
            · rw [List.mem_singleton.mp he]
              exact of_decide_eq_true h4
        · rintro env' ⟨v, rfl, hA⟩
          rw [hsz, show r.length + 1 = (c :: r).length from rfl, List.take_length] at hA
          walk_at "d"
          refine gb ?_
          rw [g0, h3, Bool.true_and]
          exact List.all_eq_true.mpr fun d hd => decide_eq_true (hA d (List.mem_cons_of_mem _ hd))
  · walk_at "d"
    refine gb ?_
    unfold good
    rw [decide_eq_false (show ¬ 1 ≤ s.length by omega), Bool.false_and, Bool.false_and]
end JP
set_option Elab.async false
set_option linter.all false
set_option maxRecDepth 100000
set_option maxHeartbeats 4000000
set_option pp.deepTerms false
set_option pp.deepTerms.threshold 6
set_option pp.maxSteps 1200
namespace JP
open PySem PySem.Spec PyProof.Rows L2 L2H JPX
local macro_rules | `(tactic| walk_at "nb") => `(tactic| first | with_reducible exact fz_bw | with_reducible exact nw_bw | with_reducible exact ow_bw)
local macro_rules | `(tactic| walk_at "kd") => `(tactic| first | with_reducible exact Or.inl rfl | with_reducible exact Or.inr rfl)
local macro_rules | `(tactic| walk_at "af") => `(tactic| repeat (first | with_reducible exact allF_nil | ((with_reducible refine allF_cons ?h ?_); (case h => walk_at "kd"))))
local macro_rules | `(tactic| walk_at "sz") => `(tactic| (simp only [List.length_cons, List.length_nil, List.length_append, List.length_map, List.length_range]; decide))
local macro_rules | `(tactic| walk_at "side") => `(tactic| first | assumption | (exact small_div (by omega) (by omega)) | (exact small_mul (by omega) (by omega)) | (exact med_mul (by omega) (by omega)) | (exact big_mul (by omega) (by omega)) | (exact ⟨by decide, by decide, by decide⟩) | (show (0 : Int) < _; omega))
local macro_rules | `(tactic| walk_at "d0") => `(tactic| simp only [cxOf_K, List.map_cons, List.map_nil, List.length_cons, List.length_nil, Nat.reduceAdd, Nat.reduceSub, List.replicate_succ, List.replicate_zero, List.cons_append, List.nil_append])
local macro_rules | `(tactic| walk_at "ds") => `(tactic| try dsimp only [wipeE, List.set_cons_zero, List.set_cons_succ])
local macro_rules | `(tactic| walk_at "dm") => `(tactic| dsimp only [List.map])
local macro_rules | `(tactic| walk_at "dS") => `(tactic| first
  | with_reducible refine sd_seq ?_
  | with_reducible refine sd_next ?_
  | ((with_reducible refine sd_own ?h ?q); (case h => exact rfl))
  | ((with_reducible refine sd_setI (ds := ?ds) ?e ?q); (case e => exact rfl))
  | with_reducible refine sd_asg ?_
  | with_reducible refine sd_if ?_
  | with_reducible refine sd_ret ?_
  | with_reducible refine sd_new ?_
  | ((with_reducible refine sd_app (ds := ?ds) ?e ?q); (case e => exact rfl))
  | ((with_reducible refine sd_dput (kvs := ?kvs) ?e ?q); (case e => exact rfl))
  | ((with_reducible refine sd_mputT (kvs := ?kvs) ?e ?q); (case e => exact rfl))
  | with_reducible refine sd_drop ?_
  | with_reducible refine sd_ret0 ?_
  | with_reducible refine sd_for ?_
  | with_reducible refine sd_for1 ?_
  | with_reducible refine sd_for2 ?_
  | with_reducible refine sd_for3 ?_
  | ((with_reducible refine sd_augI (a := ?a) ?e ?q); (case e => exact rfl))
  | with_reducible refine sd_brk ?_
  | with_reducible refine sd_cont ?_)
local macro_rules | `(tactic| walk_at "dE") => `(tactic| first
  | ((with_reducible refine ev_var (d := ?d) ?e ?q); (case e => exact rfl))
  | ((with_reducible refine ev_own (d := ?d) ?e ?q); (case e => exact rfl))
  | with_reducible refine ev_int ?_
  | with_reducible refine ev_op ?_
  | with_reducible refine ev_cb ?_
  | ((with_reducible refine ev_call ?l ?q); (case l => assumption))
  | with_reducible refine ev_tup ?_
  | with_reducible refine ev_lst ?_
  | with_reducible refine ev_un ?_
  | with_reducible refine ev_bl ?_
  | with_reducible refine ev_non ?_
  | with_reducible refine ev_str ?_
  | with_reducible refine ev_ty ?_
  | with_reducible refine ev_ref ?_
  | with_reducible refine ev_if ?_
  | with_reducible refine ev_not ?_
  | with_reducible refine ev_notT ?_
  | with_reducible refine ev_and ?_
  | with_reducible refine ev_or ?_
  | with_reducible refine ev_chain ?_
  | with_reducible refine ev_bits ?_
  | with_reducible refine ev_dget ?_
  | with_reducible refine ev_dget2 ?_
  | with_reducible refine ev_mgT ?_
  | with_reducible refine ev_mg2T ?_
  | with_reducible refine ev_dnewT ?_
  | with_reducible refine ev_slT ?_
  | with_reducible refine ev_slS ?_
  | with_reducible refine ev_join ?_
  | with_reducible refine ev_dnew ?_
  | with_reducible refine ev_slL ?_
  | with_reducible refine ev_disp1 ?_
  | with_reducible refine ev_dispT ?_)
local macro_rules | `(tactic| walk_at "dO") => `(tactic| first
  | with_reducible refine op2_addI ?_
  | with_reducible refine op2_I0 ?_
  | ((with_reducible refine op2_addL ?a ?b ?z ?q); (case a => walk_at "nb"); (case b => walk_at "nb"); (case z => first | walk_at "sz" | exact size_le (by simp only [List.length_cons, List.length_nil, List.length_append, List.length_map, List.length_range, List.length_take, List.length_drop]; omega)))
  | with_reducible refine op2_B0 ?_
  | ((with_reducible refine op2_ix (ds := ?ds) (d := ?d) ?e ?a ?k ?q); (case e => exact rfl); (case a => exact rfl); (case k => walk_at "nb"))
  | with_reducible refine op2_eqI ?_
  | with_reducible refine op2_neI ?_
  | with_reducible refine op2_p18 ?_
  | with_reducible refine op2_p9 ?_
  | with_reducible refine op2_p6 ?_
  | with_reducible refine op2_p30 ?_
  | with_reducible refine op2_p12 ?_
  | with_reducible refine op2_p15 ?_
  | with_reducible refine op2_p24 ?_
  | with_reducible refine op2_p20 ?_
  | with_reducible refine op2_p2 ?_
  | with_reducible refine op2_p3 ?_
  | with_reducible refine op2_p4 ?_
  | with_reducible refine op2_p5 ?_
  | ((with_reducible refine op2_I ?c ?q); (case c => walk_at "side"))
  | with_reducible refine op2_eqS ?_
  | with_reducible refine op2_neS ?_
  | with_reducible refine op2_eqB ?_
  | with_reducible refine op2_neB ?_
  | with_reducible refine op2_is ?_
  | with_reducible refine op2_isNot ?_)
local macro_rules | `(tactic| walk_at "dN") => `(tactic| first
  | with_reducible refine opn_int ?_
  | ((with_reducible refine opn_len (ds := ?ds) ?e ?q); (case e => exact rfl))
  | with_reducible refine opn_lenD ?_
  | ((with_reducible refine opn_lenT ?l ?q); (case l => assumption))
  | with_reducible refine opn_intB ?_
  | with_reducible refine opn_abs ?_
  | with_reducible refine opn_gcd ?_
  | ((with_reducible refine opn_list (ds := ?ds) ?e ?k ?q); (case e => exact rfl); (case k => walk_at "nb"))
  | ((with_reducible refine opn_tuple (ds := ?ds) ?e ?k ?s ?q); (case e => exact rfl); (case k => walk_at "nb"); (case s => exact (fun _ => nofun)))
  | ((with_reducible refine opn_isi true ?n ?c ?e ?q); (case e => exact rfl); (case n => exact rfl); (case c => exact rfl))
  | ((with_reducible refine opn_isi false ?n ?c ?e ?q); (case e => exact rfl); (case n => exact rfl); (case c => exact rfl)))
local macro_rules | `(tactic| walk_at "dT") => `(tactic| first
  | with_reducible refine tt_test ?_
  | with_reducible refine tt_B ?_
  | with_reducible refine tt_and ?_
  | with_reducible refine tt_or ?_
  | with_reducible refine tt_not ?_
  | with_reducible refine tt_yes ?_
  | with_reducible refine tt_tru ?_)
local macro_rules | `(tactic| walk_at "dG") => `(tactic| first
  | ((with_reducible refine gt_name ?k ?q); (case k => walk_at "kd"); (walk_at "ds"))
  | ((with_reducible refine gn_name ?_); (walk_at "ds"))
  | ((with_reducible refine gn_tup (ds := ?ds) ?e ?n ?q); (case e => exact rfl); (case n => exact rfl))
  | ((with_reducible refine gt_tup (ds := ?ds) ?e ?n ?k ?q); (case e => exact rfl); (case n => exact rfl); (case k => walk_at "nb"))
  | ((with_reducible refine gta_name ?_); (walk_at "ds"))
  | ((with_reducible refine gta_tup (es := ?es) ?e ?n ?q); (case e => exact rfl); (case n => exact rfl))
  | with_reducible refine gta_nil ?_)
local macro_rules | `(tactic| walk_at "d1") => `(tactic| first
  | ((with_reducible show Ev _ _ _ _ _); walk_at "dE")
  | ((with_reducible show EvA _ _ _ _ _); first | with_reducible refine eva_cons ?_ | with_reducible refine eva_nil ?_)
  | ((with_reducible show Op2 _ _ _ _ _ _); walk_at "dO")
  | ((with_reducible show Sd _ _ _ _ _); walk_at "dS")
  | ((with_reducible show Gt _ _ _ _ _ _ _); walk_at "dG")
  | ((with_reducible show Tt _ _ _ _ _); walk_at "dT")
  | ((with_reducible show OpN _ _ _ _ _); walk_at "dN")
  | with_reducible refine bl_i ?_
  | with_reducible refine eq_int ?_
  | ((with_reducible refine lct_yes ?_); (try dsimp only [wipeE, List.set_cons_zero, List.set_cons_succ]))
  | ((with_reducible refine lct_g ?_); (try dsimp only [wipeE, List.set_cons_zero, List.set_cons_succ]))
  | with_reducible refine pt_no ?_
  | with_reducible refine pt_some ?_
  | with_reducible refine ls_fz ?_
  | with_reducible refine ls_ow ?_
  | with_reducible refine ls_nw ?_
  | with_reducible refine ls_s ?_
  | with_reducible refine dk_fz ?_
  | with_reducible refine dk_ow ?_
  | with_reducible refine dk_nw ?_
  | with_reducible refine key_i ?_
  | with_reducible refine key_s ?_
  | with_reducible refine dt_fz ?_
  | with_reducible refine dt_ow ?_
  | with_reducible refine dt_nw ?_
  | with_reducible refine tk_fz ?_
  | with_reducible refine tp_fz ?_
  | with_reducible refine st_i ?_
  | ((with_reducible show Gn _ _ _ _ _ _); walk_at "dG")
  | ((with_reducible show GtA _ _ _ _ _ _); walk_at "dG")
  | ((with_reducible show Op1 _ _ _ _ _); with_reducible refine op1_U ?_)
  | ((with_reducible show (_ = Kd.fz ∨ _) ∧ _); (with_reducible refine ⟨?f, ?q⟩); (case f => walk_at "kd"))
  | ((with_reducible show (_ = Kd.nw ∨ _) ∧ _); (with_reducible refine ⟨?f, ?q⟩); (case f => walk_at "kd"))
  | ((with_reducible show (allF _) ∧ _); (with_reducible refine ⟨?f, ?q⟩); (case f => walk_at "af"); (try walk_at "dm"))
  | ((with_reducible show (_ ≤ sizeLine) ∧ _); (with_reducible refine ⟨?z, ?q⟩); (case z => first | walk_at "sz" | exact size_le (by omega)))
  | ((with_reducible show (_ = Kd.nw) ∧ _); (with_reducible refine ⟨rfl, ?q⟩); (try walk_at "ds"))
  | ((with_reducible show (_ ≠ Kd.bw) ∧ _); (with_reducible refine ⟨?f, ?q⟩); (case f => walk_at "nb"))
  | ((with_reducible show (Da.truOk _ _) ∧ _); (with_reducible refine ⟨?f, ?q⟩); (case f => first | exact trivial | assumption))
  | with_reducible refine iff_t rfl ?_
  | with_reducible refine iff_f rfl ?_)
local macro_rules | `(tactic| walk_at "d") => `(tactic| repeat (walk_at "d1"))
local macro_rules | `(tactic| walk_at "dE") => `(tactic| first
  | with_reducible refine ev_mk0 ?_
  | with_reducible refine ev_mkV ?_
  | with_reducible refine ev_xv ?_)
local macro_rules | `(tactic| walk_at "d1") => `(tactic| first
  | with_reducible refine xc_i ?_
  | with_reducible refine mkv_i rfl (by decide) ?_
  | ((with_reducible show (_ = Kd.fz) ∧ _); (with_reducible refine ⟨rfl, ?_⟩)))
/-- the first name that is none -/
def fbad (ss : List Str) : Option Str := ss.find? fun s => !good s
def twA : List Str → List Str → Option Str
  | _, [] => none
  | acc, s :: r => if s ∈ acc then some s else twA (acc ++ [s]) r
/-- the first name that stands ahead of itself -/
def ftw (ss : List Str) : Option Str := twA [] ss
theorem twA_step {ss : List Str} {i : Nat} {s : Str} (h : ss[i]? = some s) : twA (ss.take i) (ss.drop i) = if s ∈ ss.take i then some s else twA (ss.take (i + 1)) (ss.drop (i + 1)) := by
  obtain ⟨hi, e⟩ := List.getElem?_eq_some_iff.mp h
  rw [List.drop_eq_getElem_cons hi, e, take_snoc h]
  rfl
theorem twA_end (ss : List Str) : twA (ss.take ss.length) (ss.drop ss.length) = none := by rw [List.drop_length]; rfl
theorem fbad_take {ss : List Str} {i : Nat} {s : Str} (h : ss[i]? = some s) (hA : ∀ t ∈ ss.take i, good t = true) (hb : good s = false) : fbad ss = some s := by
  obtain ⟨hi, e⟩ := List.getElem?_eq_some_iff.mp h
  have e2 : ss = ss.take i ++ s :: ss.drop (i + 1) := by
    have := List.take_append_drop i ss
    rw [List.drop_eq_getElem_cons hi, e] at this
    exact this.symm
  unfold fbad
  rw [e2, List.find?_append, List.find?_eq_none.mpr (fun t ht => by rw [hA t ht]; exact Bool.false_ne_true), Option.none_or, List.find?_cons_of_pos (by rw [hb]; rfl)]
theorem fbad_none {ss : List Str} (hA : ∀ t ∈ ss, good t = true) : fbad ss = none := List.find?_eq_none.mpr fun t ht => by rw [hA t ht]; exact Bool.false_ne_true
theorem fbad_all {ss : List Str} (h : fbad ss = none) : ∀ t ∈ ss, good t = true := fun t ht => by
  have := List.find?_eq_none.mp h t ht
  cases z : good t with
  | true => rfl
  | false => rw [z] at this; exact absurd rfl this
def R_check_names (K : PySem.W.Frag) : SpR := fun ds Pq Xq => ∃ (d : Da) (ss : List Str), ds = [d] ∧ isNm d ss ∧ ss.length < 64 ∧ (∀ s ∈ ss, s.length < 10000) ∧ (∀ s, fbad ss = some s → Xq (He.ga K "BadName") [("name", .str s)]) ∧
  (∀ s, fbad ss = none → ftw ss = some s → Xq (He.ga K "RowTwice") [("name", .str s)]) ∧ (fbad ss = none → ftw ss = none → Pq .fz .non)
theorem sc_check_names : FnScope ["names", "name", "k"] ["names"] (defScope (top 37)) := ⟨rfl, rfl, rfl, by decide +kernel, rfl, by decide +kernel, by decide +kernel⟩
theorem d_check_names {P : Program} {w : World} {K : PySem.W.Frag} {mg : Str → Option Value} {base : Heap} (T : Tx K mg) : Def P w K mg base "check_names" 3 ["names"] (SpD K (R_check_names K)) := by
  refine Def.of T.at_check_names sc_check_names (fun _ _ _ _ _ _ us hl => match us, hl with | [_], _ => rfl) (fun vs H Q E h => by (obtain ⟨_, _, _, _, _, h2, h, _⟩ := h; rw [← h2.len]; obtain ⟨_, _, rfl, _⟩ := h; rfl)) (fun f cdv A outer s H vs Q E hr h => ?_)
  refine ⟨_, (pss_cons (ps_for (passesN rfl) rfl (pi_seq (pv 0)) (pg_name (i := 1) sc_check_names.nd rfl (Or.inl rfl)) (pss_one (ps_if (pt_not (pt_val (pe_def (d_is_row_name T) (hr.mono (by decide)) (by rfl) (pa_cons (pv 1) pa_nil)))) (pss_one (L2N.ps_raise rfl (L2N.takes_of rfl rfl rfl rfl) (pmk_mkD (i_BadName T) (hr.mono (by decide)) (by rfl) T.g_BadName (pa_cons (pv 1) pa_nil)))) pss_nil)))
      (pss_one (ps_for (passesN rfl) rfl (pi_range1 (by rfl) T.n_range (pa_cons (pe_callB call_lenA (by rfl) T.n_len (by decide +kernel) (pa_cons (pv 0) pa_nil)) pa_nil)) (pg_name (i := 2) sc_check_names.nd rfl (Or.inl rfl)) (pss_one (ps_if (pt_cmpR op_in_seq (pe_ix ix_seq (pv 0) (pv 2) (fun _ _ => rfl)) (pe_slice sl_seqN (pv 0) po_none (po_some (pv 2))) (by rfl)) (pss_one (L2N.ps_raise rfl (L2N.takes_of rfl rfl rfl rfl) (pmk_mkD (i_RowTwice T) (hr.mono (by decide)) (by rfl) T.g_RowTwice (pa_cons (pe_ix ix_seq (pv 0) (pv 2) (fun _ _ => rfl)) pa_nil)))) pss_nil))))), ?_⟩
  obtain ⟨F, ds, Pq, Xq, hF, ha, h, hQ, hE⟩ := h
  refine sd_top hF ha hQ ?_
  clear hQ ha
  have hR : ∀ C env O σ' H', Rl K ⟨F, H, []⟩ env O σ' H' → Xq C [] → E (.ref C) none H' := fun C env O σ' H' r hx => hE C [] none H' r.j.hh rfl hx
  have hRF : ∀ C fs dx env O σ' H' H2, Rl K ⟨F, H, []⟩ env O σ' H' → Same H' H2 → XOk K H2 dx fs → Xq C fs → E (.ref C) dx H2 := fun C fs dx env O σ' H' H2 r s2 hd hx => hE C fs dx H2 (Same.trans (show Same H H' from r.j.hh) s2) hd hx
  have hL : (⟨F, H, []⟩ : Bs).L = [] := rfl
  clear hE
  generalize (⟨F, H, []⟩ : Bs) = B at hR hRF hL ⊢
  obtain ⟨d, ss, rfl, hd, hz, hl, x1, x2, q⟩ := h
  have hits := hd.its
  have hsz : ∀ (s : Str) (C : Addr) (O : List Addr) (σ : L2.St) (env : List Sl) (H1 H' : Hp) (dx : Addr) (us : List (Str × V)), Xq C [("name", .str s)] → Rl K B env O σ H1 → Same H1 H' → H' dx = some (.xd us) → us.map (·.1) = [("name" : Str)] → RepA K H' [Da.str s] (us.map (·.2)) → E (.ref C) (some dx) H' := fun s C O σ env H1 H' dx us hx r s1 e1 e2 e3 => hRF C [("name", .str s)] (some dx) env O σ H1 H' r s1 ⟨dx, us, rfl, e1, e2, e3⟩ hx
  walk_at "d0"
  walk_at "d"
  refine ⟨_, hits, fun i env' => ∃ v1 v2 : Sl, env' = [.dat d, v1, v2] ∧ ∀ t ∈ ss.take i, good t = true, ⟨_, _, rfl, fun t ht => by cases ht⟩, ?_, ?_⟩
  · rintro i x env' hi ⟨v1, v2, rfl, hA⟩
    obtain ⟨s, hs, rfl⟩ := smap_at hi
    have hm := List.mem_of_getElem? hs
    walk_at "d"
    refine ⟨s, rfl, hl s hm, ?_⟩
    walk_at "d"
    cases hg : good s with
    | true =>
      walk_at "d"
      refine ⟨_, _, rfl, fun t ht => ?_⟩
      rw [take_snoc hs] at ht
      rcases List.mem_append.mp ht with ht | ht
      · exact hA t ht
      · rw [List.mem_singleton.mp ht]; exact hg
    | false =>
      walk_at "d"
      refine sd_raiseV hL ?_
      walk_at "d"
      exact fun O σ H1 H' dx us r s1 e1 e2 e3 => hsz s _ O σ _ H1 H' dx us (x1 s (fbad_take hs hA hg)) r s1 e1 e2 e3
  · rintro env' ⟨v1, v2, rfl, hA⟩
    rw [List.length_map, List.take_length] at hA
    have hbn := fbad_none hA
    walk_at "d"
    refine opn_len hits ?_
    walk_at "d"
    rw [List.length_map]
    refine ⟨_, _, ss.length, rfl, Int.toNat_natCast _, by omega, fun i env' => ∃ v1 v2 : Sl, env' = [.dat d, v1, v2] ∧ twA (ss.take i) (ss.drop i) = ftw ss, ⟨_, _, rfl, rfl⟩, ?_, ?_⟩
    · rintro i env' hi ⟨v1, v2, rfl, hT⟩
      have hs : ss[i]? = some ss[i] := List.getElem?_eq_getElem hi
      generalize ss[i] = s at hs
      have hat : atI (ss.map Da.str) (i : Int) = some (.str s) := atI_nat (by rw [List.getElem?_map, hs]; rfl)
      rw [twA_step hs] at hT
      walk_at "d"
      refine op2_ix hits hat nofun ?_
      walk_at "d"
      refine ev_slN ?_
      walk_at "d"
      refine ⟨ss.map Da.str, hd, nofun, ?_, ?_⟩
      all_goals
        rw [cutD_take _ _ (by rw [List.length_map]; omega), ← List.map_take]
        refine op2_inS (ss := ss.take i) (by first | exact .inl rfl | exact .inr rfl) nofun ?_
        walk_at "d"
        refine iteD (fun h => ?_) (fun h => ?_)
        · rw [if_pos h] at hT
          walk_at "d"
          refine sd_raiseV hL ?_
          walk_at "d"
          refine op2_ix hits hat nofun ?_
          walk_at "d"
          exact fun O σ H1 H' dx us r s1 e1 e2 e3 => hsz s _ O σ _ H1 H' dx us (x2 s hbn hT.symm) r s1 e1 e2 e3
        · rw [if_neg h] at hT
          walk_at "d"
          exact ⟨_, _, rfl, hT⟩
    · rintro env' ⟨v1, v2, rfl, hT⟩
      rw [twA_end] at hT
      exact q hbn hT.symm
end JP
set_option Elab.async false
set_option linter.all false
set_option maxRecDepth 100000
set_option maxHeartbeats 4000000
set_option pp.deepTerms false
set_option pp.deepTerms.threshold 6
set_option pp.maxSteps 1200
namespace JP
open PySem PySem.Spec PyProof.Rows L2 L2H JPX
local macro_rules | `(tactic| walk_at "nb") => `(tactic| first | with_reducible exact fz_bw | with_reducible exact nw_bw | with_reducible exact ow_bw)
local macro_rules | `(tactic| walk_at "kd") => `(tactic| first | with_reducible exact Or.inl rfl | with_reducible exact Or.inr rfl)
local macro_rules | `(tactic| walk_at "af") => `(tactic| repeat (first | with_reducible exact allF_nil | ((with_reducible refine allF_cons ?h ?_); (case h => walk_at "kd"))))
local macro_rules | `(tactic| walk_at "sz") => `(tactic| (simp only [List.length_cons, List.length_nil, List.length_append, List.length_map, List.length_range]; decide))
local macro_rules | `(tactic| walk_at "side") => `(tactic| first | assumption | (exact small_div (by omega) (by omega)) | (exact small_mul (by omega) (by omega)) | (exact med_mul (by omega) (by omega)) | (exact big_mul (by omega) (by omega)) | (exact ⟨by decide, by decide, by decide⟩) | (show (0 : Int) < _; omega))
local macro_rules | `(tactic| walk_at "d0") => `(tactic| simp only [cxOf_K, List.map_cons, List.map_nil, List.length_cons, List.length_nil, Nat.reduceAdd, Nat.reduceSub, List.replicate_succ, List.replicate_zero, List.cons_append, List.nil_append])
local macro_rules | `(tactic| walk_at "ds") => `(tactic| try dsimp only [wipeE, List.set_cons_zero, List.set_cons_succ])
local macro_rules | `(tactic| walk_at "dm") => `(tactic| dsimp only [List.map])
local macro_rules | `(tactic| walk_at "dS") => `(tactic| first
  | with_reducible refine sd_seq ?_
  | with_reducible refine sd_next ?_
  | ((with_reducible refine sd_own ?h ?q); (case h => exact rfl))
  | ((with_reducible refine sd_setI (ds := ?ds) ?e ?q); (case e => exact rfl))
  | with_reducible refine sd_asg ?_
  | with_reducible refine sd_if ?_
  | with_reducible refine sd_ret ?_
  | with_reducible refine sd_new ?_
  | ((with_reducible refine sd_app (ds := ?ds) ?e ?q); (case e => exact rfl))
  | ((with_reducible refine sd_dput (kvs := ?kvs) ?e ?q); (case e => exact rfl))
  | ((with_reducible refine sd_mputT (kvs := ?kvs) ?e ?q); (case e => exact rfl))
  | with_reducible refine sd_drop ?_
  | with_reducible refine sd_ret0 ?_
  | with_reducible refine sd_for ?_
  | with_reducible refine sd_for1 ?_
  | with_reducible refine sd_for2 ?_
  | with_reducible refine sd_for3 ?_
  | ((with_reducible refine sd_augI (a := ?a) ?e ?q); (case e => exact rfl))
  | with_reducible refine sd_brk ?_
  | with_reducible refine sd_cont ?_)
local macro_rules | `(tactic| walk_at "dE") => `(tactic| first
  | ((with_reducible refine ev_var (d := ?d) ?e ?q); (case e => exact rfl))
  | ((with_reducible refine ev_own (d := ?d) ?e ?q); (case e => exact rfl))
  | with_reducible refine ev_int ?_
  | with_reducible refine ev_op ?_
  | with_reducible refine ev_cb ?_
  | ((with_reducible refine ev_call ?l ?q); (case l => assumption))
  | with_reducible refine ev_tup ?_
  | with_reducible refine ev_lst ?_
  | with_reducible refine ev_un ?_
  | with_reducible refine ev_bl ?_
  | with_reducible refine ev_non ?_
  | with_reducible refine ev_str ?_
  | with_reducible refine ev_ty ?_
  | with_reducible refine ev_ref ?_
  | with_reducible refine ev_if ?_
  | with_reducible refine ev_not ?_
  | with_reducible refine ev_notT ?_
  | with_reducible refine ev_and ?_
  | with_reducible refine ev_or ?_
  | with_reducible refine ev_chain ?_
  | with_reducible refine ev_bits ?_
  | with_reducible refine ev_dget ?_
  | with_reducible refine ev_dget2 ?_
  | with_reducible refine ev_mgT ?_
  | with_reducible refine ev_mg2T ?_
  | with_reducible refine ev_dnewT ?_
  | with_reducible refine ev_slT ?_
  | with_reducible refine ev_slS ?_
  | with_reducible refine ev_join ?_
  | with_reducible refine ev_dnew ?_
  | with_reducible refine ev_slL ?_
  | with_reducible refine ev_disp1 ?_
  | with_reducible refine ev_dispT ?_)
local macro_rules | `(tactic| walk_at "dO") => `(tactic| first
  | with_reducible refine op2_addI ?_
  | with_reducible refine op2_I0 ?_
  | ((with_reducible refine op2_addL ?a ?b ?z ?q); (case a => walk_at "nb"); (case b => walk_at "nb"); (case z => first | walk_at "sz" | exact size_le (by simp only [List.length_cons, List.length_nil, List.length_append, List.length_map, List.length_range, List.length_take, List.length_drop]; omega)))
  | with_reducible refine op2_B0 ?_
  | ((with_reducible refine op2_ix (ds := ?ds) (d := ?d) ?e ?a ?k ?q); (case e => exact rfl); (case a => exact rfl); (case k => walk_at "nb"))
  | with_reducible refine op2_eqI ?_
  | with_reducible refine op2_neI ?_
  | with_reducible refine op2_p18 ?_
  | with_reducible refine op2_p9 ?_
  | with_reducible refine op2_p6 ?_
  | with_reducible refine op2_p30 ?_
  | with_reducible refine op2_p12 ?_
  | with_reducible refine op2_p15 ?_
  | with_reducible refine op2_p24 ?_
  | with_reducible refine op2_p20 ?_
  | with_reducible refine op2_p2 ?_
  | with_reducible refine op2_p3 ?_
  | with_reducible refine op2_p4 ?_
  | with_reducible refine op2_p5 ?_
  | ((with_reducible refine op2_I ?c ?q); (case c => walk_at "side"))
  | with_reducible refine op2_eqS ?_
  | with_reducible refine op2_neS ?_
  | with_reducible refine op2_eqB ?_
  | with_reducible refine op2_neB ?_
  | with_reducible refine op2_is ?_
  | with_reducible refine op2_isNot ?_)
local macro_rules | `(tactic| walk_at "dN") => `(tactic| first
  | with_reducible refine opn_int ?_
  | ((with_reducible refine opn_len (ds := ?ds) ?e ?q); (case e => exact rfl))
  | with_reducible refine opn_lenD ?_
  | ((with_reducible refine opn_lenT ?l ?q); (case l => assumption))
  | with_reducible refine opn_intB ?_
  | with_reducible refine opn_abs ?_
  | with_reducible refine opn_gcd ?_
  | ((with_reducible refine opn_list (ds := ?ds) ?e ?k ?q); (case e => exact rfl); (case k => walk_at "nb"))
  | ((with_reducible refine opn_tuple (ds := ?ds) ?e ?k ?s ?q); (case e => exact rfl); (case k => walk_at "nb"); (case s => exact (fun _ => nofun)))
  | ((with_reducible refine opn_isi true ?n ?c ?e ?q); (case e => exact rfl); (case n => exact rfl); (case c => exact rfl))
  | ((with_reducible refine opn_isi false ?n ?c ?e ?q); (case e => exact rfl); (case n => exact rfl); (case c => exact rfl)))
local macro_rules | `(tactic| walk_at "dT") => `(tactic| first
  | with_reducible refine tt_test ?_
  | with_reducible refine tt_B ?_
  | with_reducible refine tt_and ?_
  | with_reducible refine tt_or ?_
  | with_reducible refine tt_not ?_
  | with_reducible refine tt_yes ?_
  | with_reducible refine tt_tru ?_)
local macro_rules | `(tactic| walk_at "dG") => `(tactic| first
  | ((with_reducible refine gt_name ?k ?q); (case k => walk_at "kd"); (walk_at "ds"))
  | ((with_reducible refine gn_name ?_); (walk_at "ds"))
  | ((with_reducible refine gn_tup (ds := ?ds) ?e ?n ?q); (case e => exact rfl); (case n => exact rfl))
  | ((with_reducible refine gt_tup (ds := ?ds) ?e ?n ?k ?q); (case e => exact rfl); (case n => exact rfl); (case k => walk_at "nb"))
  | ((with_reducible refine gta_name ?_); (walk_at "ds"))
  | ((with_reducible refine gta_tup (es := ?es) ?e ?n ?q); (case e => exact rfl); (case n => exact rfl))
  | with_reducible refine gta_nil ?_)
local macro_rules | `(tactic| walk_at "d1") => `(tactic| first
  | ((with_reducible show Ev _ _ _ _ _); walk_at "dE")
  | ((with_reducible show EvA _ _ _ _ _); first | with_reducible refine eva_cons ?_ | with_reducible refine eva_nil ?_)
  | ((with_reducible show Op2 _ _ _ _ _ _); walk_at "dO")
  | ((with_reducible show Sd _ _ _ _ _); walk_at "dS")
  | ((with_reducible show Gt _ _ _ _ _ _ _); walk_at "dG")
  | ((with_reducible show Tt _ _ _ _ _); walk_at "dT")
  | ((with_reducible show OpN _ _ _ _ _); walk_at "dN")
  | with_reducible refine bl_i ?_
  | with_reducible refine eq_int ?_
  | ((with_reducible refine lct_yes ?_); (try dsimp only [wipeE, List.set_cons_zero, List.set_cons_succ]))
  | ((with_reducible refine lct_g ?_); (try dsimp only [wipeE, List.set_cons_zero, List.set_cons_succ]))
  | with_reducible refine pt_no ?_
  | with_reducible refine pt_some ?_
  | with_reducible refine ls_fz ?_
  | with_reducible refine ls_ow ?_
  | with_reducible refine ls_nw ?_
  | with_reducible refine ls_s ?_
  | with_reducible refine dk_fz ?_
  | with_reducible refine dk_ow ?_
  | with_reducible refine dk_nw ?_
  | with_reducible refine key_i ?_
  | with_reducible refine key_s ?_
  | with_reducible refine dt_fz ?_
  | with_reducible refine dt_ow ?_
  | with_reducible refine dt_nw ?_
  | with_reducible refine tk_fz ?_
  | with_reducible refine tp_fz ?_
  | with_reducible refine st_i ?_
  | ((with_reducible show Gn _ _ _ _ _ _); walk_at "dG")
  | ((with_reducible show GtA _ _ _ _ _ _); walk_at "dG")
  | ((with_reducible show Op1 _ _ _ _ _); with_reducible refine op1_U ?_)
  | ((with_reducible show (_ = Kd.fz ∨ _) ∧ _); (with_reducible refine ⟨?f, ?q⟩); (case f => walk_at "kd"))
  | ((with_reducible show (_ = Kd.nw ∨ _) ∧ _); (with_reducible refine ⟨?f, ?q⟩); (case f => walk_at "kd"))
  | ((with_reducible show (allF _) ∧ _); (with_reducible refine ⟨?f, ?q⟩); (case f => walk_at "af"); (try walk_at "dm"))
  | ((with_reducible show (_ ≤ sizeLine) ∧ _); (with_reducible refine ⟨?z, ?q⟩); (case z => first | walk_at "sz" | exact size_le (by omega)))
  | ((with_reducible show (_ = Kd.nw) ∧ _); (with_reducible refine ⟨rfl, ?q⟩); (try walk_at "ds"))
  | ((with_reducible show (_ ≠ Kd.bw) ∧ _); (with_reducible refine ⟨?f, ?q⟩); (case f => walk_at "nb"))
  | ((with_reducible show (Da.truOk _ _) ∧ _); (with_reducible refine ⟨?f, ?q⟩); (case f => first | exact trivial | assumption))
  | with_reducible refine iff_t rfl ?_
  | with_reducible refine iff_f rfl ?_)
local macro_rules | `(tactic| walk_at "d") => `(tactic| repeat (walk_at "d1"))
local macro_rules | `(tactic| walk_at "dE") => `(tactic| first
  | with_reducible refine ev_mk0 ?_
  | with_reducible refine ev_mkV ?_
  | with_reducible refine ev_xv ?_)
local macro_rules | `(tactic| walk_at "d1") => `(tactic| first
  | with_reducible refine xc_i ?_
  | with_reducible refine mkv_i rfl (by decide) ?_
  | ((with_reducible show (_ = Kd.fz) ∧ _); (with_reducible refine ⟨rfl, ?_⟩)))
def R_row_set (K : PySem.W.Frag) : SpR := fun ds Pq Xq => ∃ (d : Da) (ss : List Str), ds = [d] ∧ isNm d ss ∧ ss.length < 64 ∧ (∀ s ∈ ss, s.length < 10000) ∧ (ss = [] → Xq (He.ga K "NoRows") []) ∧ (∀ s, fbad ss = some s → Xq (He.ga K "BadName") [("name", .str s)]) ∧
  (∀ s, fbad ss = none → ftw ss = some s → Xq (He.ga K "RowTwice") [("name", .str s)]) ∧ (ss ≠ [] → fbad ss = none → ftw ss = none → Pq .fz (.tup ((srtN ss).map Da.str)))
theorem sc_row_set : FnScope ["names"] ["names"] (defScope (top 38)) := ⟨rfl, rfl, rfl, by decide +kernel, rfl, by decide +kernel, by decide +kernel⟩
theorem d_row_set {P : Program} {w : World} {K : PySem.W.Frag} {mg : Str → Option Value} {base : Heap} (T : Tx K mg) : Def P w K mg base "row_set" 4 ["names"] (SpD K (R_row_set K)) := by
  refine Def.of T.at_row_set sc_row_set (fun _ _ _ _ _ _ us hl => match us, hl with | [_], _ => rfl) (fun vs H Q E h => by (obtain ⟨_, _, _, _, _, h2, h, _⟩ := h; rw [← h2.len]; obtain ⟨_, _, rfl, _⟩ := h; rfl)) (fun f cdv A outer s H vs Q E hr h => ?_)
  refine ⟨_, (pss_cons (ps_if (pt_cmpR (op_eqA hr.units) (pe_callB call_lenA (by rfl) T.n_len (by decide +kernel) (pa_cons (pv 0) pa_nil)) pe_int (nomark _)) (pss_one (L2N.ps_raise rfl (L2N.takes_of rfl rfl rfl rfl) (pmk_own0 PySem.F.excBase_ValueError T.x_NoRows.1 T.g_NoRows T.x_NoRows.2.1 (raises_own T.x_NoRows.2.2.1 T.x_NoRows.2.2.2) (by rfl)))) pss_nil)
      (pss_cons (ps_expr (pe_defS (d_check_names T) (hr.mono (by decide)) (by rfl) (L2N.takes_of rfl rfl rfl rfl) (pa_cons (pv 0) pa_nil)))
      (pss_one (ps_ret (pe_callTy call_tupN (by rfl) T.n_tuple (by decide +kernel) (pa_cons (pe_callB cr_sortN (by rfl) T.n_sorted (by decide +kernel) (pa_cons (pv 0) pa_nil)) pa_nil)))))), ?_⟩
  obtain ⟨F, ds, Pq, Xq, hF, ha, h, hQ, hE⟩ := h
  refine sd_top hF ha hQ ?_
  clear hQ ha
  have hR : ∀ C env O σ' H', Rl K ⟨F, H, []⟩ env O σ' H' → Xq C [] → E (.ref C) none H' := fun C env O σ' H' r hx => hE C [] none H' r.j.hh rfl hx
  have hRF : ∀ C fs dx env O σ' H' H2, Rl K ⟨F, H, []⟩ env O σ' H' → Same H' H2 → XOk K H2 dx fs → Xq C fs → E (.ref C) dx H2 := fun C fs dx env O σ' H' H2 r s2 hd hx => hE C fs dx H2 (Same.trans (show Same H H' from r.j.hh) s2) hd hx
  have hL : (⟨F, H, []⟩ : Bs).L = [] := rfl
  clear hE
  generalize (⟨F, H, []⟩ : Bs) = B at hR hRF hL ⊢
  obtain ⟨d, ss, rfl, hd, hz, hl, x0, x1, x2, q⟩ := h
  have hits := hd.its
  walk_at "d0"
  walk_at "d"
  refine opn_len hits ?_
  walk_at "d"
  rw [List.length_map]
  refine iteD (fun h => ?_) (fun h => ?_)
  · have hs : ss = [] := List.length_eq_zero_iff.mp (by omega)
    walk_at "d"
    exact sd_raw fun O σ H' r => hR _ _ _ _ _ r (x0 hs)
  have hs : ss ≠ [] := fun z => h (by rw [z]; rfl)
  refine sd_next ?_
  refine sd_seq ?_
  refine sd_callX (W := fun c dd _ H' => E c dd H') (XW := fun C fs => Xq C fs) hL ?_ (fun C fs dx O σ H1 H' r s1 hx z => hRF C fs dx _ O σ H1 H' r s1 hx z)
  walk_at "d"
  refine ⟨d, ss, rfl, hd, hz, hl, x1, x2, fun hb ht => ?_⟩
  walk_at "d"
  refine opn_sortN hd nofun hz ?_
  walk_at "d"
  exact q hs hb ht
end JP
set_option Elab.async false
set_option linter.all false
set_option maxRecDepth 100000
set_option maxHeartbeats 4000000
set_option pp.deepTerms false
set_option pp.deepTerms.threshold 6
set_option pp.maxSteps 1200
namespace JP
open PySem PySem.Spec PyProof.Rows L2 L2H JPX
local macro_rules | `(tactic| walk_at "nb") => `(tactic| first | with_reducible exact fz_bw | with_reducible exact nw_bw | with_reducible exact ow_bw)
local macro_rules | `(tactic| walk_at "kd") => `(tactic| first | with_reducible exact Or.inl rfl | with_reducible exact Or.inr rfl)
local macro_rules | `(tactic| walk_at "af") => `(tactic| repeat (first | with_reducible exact allF_nil | ((with_reducible refine allF_cons ?h ?_); (case h => walk_at "kd"))))
local macro_rules | `(tactic| walk_at "sz") => `(tactic| (simp only [List.length_cons, List.length_nil, List.length_append, List.length_map, List.length_range]; decide))
local macro_rules | `(tactic| walk_at "side") => `(tactic| first | assumption | (exact small_div (by omega) (by omega)) | (exact small_mul (by omega) (by omega)) | (exact med_mul (by omega) (by omega)) | (exact big_mul (by omega) (by omega)) | (exact ⟨by decide, by decide, by decide⟩) | (show (0 : Int) < _; omega))
local macro_rules | `(tactic| walk_at "d0") => `(tactic| simp only [cxOf_K, List.map_cons, List.map_nil, List.length_cons, List.length_nil, Nat.reduceAdd, Nat.reduceSub, List.replicate_succ, List.replicate_zero, List.cons_append, List.nil_append])
local macro_rules | `(tactic| walk_at "ds") => `(tactic| try dsimp only [wipeE, List.set_cons_zero, List.set_cons_succ])
local macro_rules | `(tactic| walk_at "dm") => `(tactic| dsimp only [List.map])
local macro_rules | `(tactic| walk_at "dS") => `(tactic| first
  | with_reducible refine sd_seq ?_
  | with_reducible refine sd_next ?_
  | ((with_reducible refine sd_own ?h ?q); (case h => exact rfl))
  | ((with_reducible refine sd_setI (ds := ?ds) ?e ?q); (case e => exact rfl))
  | with_reducible refine sd_asg ?_
  | with_reducible refine sd_if ?_
  | with_reducible refine sd_ret ?_
  | with_reducible refine sd_new ?_
  | ((with_reducible refine sd_app (ds := ?ds) ?e ?q); (case e => exact rfl))
  | ((with_reducible refine sd_dput (kvs := ?kvs) ?e ?q); (case e => exact rfl))
  | ((with_reducible refine sd_mputT (kvs := ?kvs) ?e ?q); (case e => exact rfl))
  | with_reducible refine sd_drop ?_
  | with_reducible refine sd_ret0 ?_
  | with_reducible refine sd_for ?_
  | with_reducible refine sd_for1 ?_
  | with_reducible refine sd_for2 ?_
  | with_reducible refine sd_for3 ?_
  | ((with_reducible refine sd_augI (a := ?a) ?e ?q); (case e => exact rfl))
  | with_reducible refine sd_brk ?_
  | with_reducible refine sd_cont ?_)
local macro_rules | `(tactic| walk_at "dE") => `(tactic| first
  | ((with_reducible refine ev_var (d := ?d) ?e ?q); (case e => exact rfl))
  | ((with_reducible refine ev_own (d := ?d) ?e ?q); (case e => exact rfl))
  | with_reducible refine ev_int ?_
  | with_reducible refine ev_op ?_
  | with_reducible refine ev_cb ?_
  | ((with_reducible refine ev_call ?l ?q); (case l => assumption))
  | with_reducible refine ev_tup ?_
  | with_reducible refine ev_lst ?_
  | with_reducible refine ev_un ?_
  | with_reducible refine ev_bl ?_
  | with_reducible refine ev_non ?_
  | with_reducible refine ev_str ?_
  | with_reducible refine ev_ty ?_
  | with_reducible refine ev_ref ?_
  | with_reducible refine ev_if ?_
  | with_reducible refine ev_not ?_
  | with_reducible refine ev_notT ?_
  | with_reducible refine ev_and ?_
  | with_reducible refine ev_or ?_
  | with_reducible refine ev_chain ?_
  | with_reducible refine ev_bits ?_
  | with_reducible refine ev_dget ?_
  | with_reducible refine ev_dget2 ?_
  | with_reducible refine ev_mgT ?_
  | with_reducible refine ev_mg2T ?_
  | with_reducible refine ev_dnewT ?_
  | with_reducible refine ev_slT ?_
  | with_reducible refine ev_slS ?_
  | with_reducible refine ev_join ?_
  | with_reducible refine ev_dnew ?_
  | with_reducible refine ev_slL ?_
  | with_reducible refine ev_disp1 ?_
  | with_reducible refine ev_dispT ?_)
local macro_rules | `(tactic| walk_at "dO") => `(tactic| first
  | with_reducible refine op2_addI ?_
  | with_reducible refine op2_I0 ?_
  | ((with_reducible refine op2_addL ?a ?b ?z ?q); (case a => walk_at "nb"); (case b => walk_at "nb"); (case z => first | walk_at "sz" | exact size_le (by simp only [List.length_cons, List.length_nil, List.length_append, List.length_map, List.length_range, List.length_take, List.length_drop]; omega)))
  | with_reducible refine op2_B0 ?_
  | ((with_reducible refine op2_ix (ds := ?ds) (d := ?d) ?e ?a ?k ?q); (case e => exact rfl); (case a => exact rfl); (case k => walk_at "nb"))
  | with_reducible refine op2_eqI ?_
  | with_reducible refine op2_neI ?_
  | with_reducible refine op2_p18 ?_
  | with_reducible refine op2_p9 ?_
  | with_reducible refine op2_p6 ?_
  | with_reducible refine op2_p30 ?_
  | with_reducible refine op2_p12 ?_
  | with_reducible refine op2_p15 ?_
  | with_reducible refine op2_p24 ?_
  | with_reducible refine op2_p20 ?_
  | with_reducible refine op2_p2 ?_
  | with_reducible refine op2_p3 ?_
  | with_reducible refine op2_p4 ?_
  | with_reducible refine op2_p5 ?_
  | ((with_reducible refine op2_I ?c ?q); (case c => walk_at "side"))
  | with_reducible refine op2_eqS ?_
  | with_reducible refine op2_neS ?_
  | with_reducible refine op2_eqB ?_
  | with_reducible refine op2_neB ?_
  | with_reducible refine op2_is ?_
  | with_reducible refine op2_isNot ?_)
local macro_rules | `(tactic| walk_at "dN") => `(tactic| first
  | with_reducible refine opn_int ?_
  | ((with_reducible refine opn_len (ds := ?ds) ?e ?q); (case e => exact rfl))
  | with_reducible refine opn_lenD ?_
  | ((with_reducible refine opn_lenT ?l ?q); (case l => assumption))
  | with_reducible refine opn_intB ?_
  | with_reducible refine opn_abs ?_
  | with_reducible refine opn_gcd ?_
  | ((with_reducible refine opn_list (ds := ?ds) ?e ?k ?q); (case e => exact rfl); (case k => walk_at "nb"))
  | ((with_reducible refine opn_tuple (ds := ?ds) ?e ?k ?s ?q); (case e => exact rfl); (case k => walk_at "nb"); (case s => exact (fun _ => nofun)))
  | ((with_reducible refine opn_isi true ?n ?c ?e ?q); (case e => exact rfl); (case n => exact rfl); (case c => exact rfl))
  | ((with_reducible refine opn_isi false ?n ?c ?e ?q); (case e => exact rfl); (case n => exact rfl); (case c => exact rfl)))
local macro_rules | `(tactic| walk_at "dT") => `(tactic| first
  | with_reducible refine tt_test ?_
  | with_reducible refine tt_B ?_
  | with_reducible refine tt_and ?_
  | with_reducible refine tt_or ?_
  | with_reducible refine tt_not ?_
  | with_reducible refine tt_yes ?_
  | with_reducible refine tt_tru ?_)
local macro_rules | `(tactic| walk_at "dG") => `(tactic| first
  | ((with_reducible refine gt_name ?k ?q); (case k => walk_at "kd"); (walk_at "ds"))
  | ((with_reducible refine gn_name ?_); (walk_at "ds"))
  | ((with_reducible refine gn_tup (ds := ?ds) ?e ?n ?q); (case e => exact rfl); (case n => exact rfl))
  | ((with_reducible refine gt_tup (ds := ?ds) ?e ?n ?k ?q); (case e => exact rfl); (case n => exact rfl); (case k => walk_at "nb"))
  | ((with_reducible refine gta_name ?_); (walk_at "ds"))
  | ((with_reducible refine gta_tup (es := ?es) ?e ?n ?q); (case e => exact rfl); (case n => exact rfl))
  | with_reducible refine gta_nil ?_)
local macro_rules | `(tactic| walk_at "d1") => `(tactic| first
  | ((with_reducible show Ev _ _ _ _ _); walk_at "dE")
  | ((with_reducible show EvA _ _ _ _ _); first | with_reducible refine eva_cons ?_ | with_reducible refine eva_nil ?_)
  | ((with_reducible show Op2 _ _ _ _ _ _); walk_at "dO")
  | ((with_reducible show Sd _ _ _ _ _); walk_at "dS")
  | ((with_reducible show Gt _ _ _ _ _ _ _); walk_at "dG")
  | ((with_reducible show Tt _ _ _ _ _); walk_at "dT")
  | ((with_reducible show OpN _ _ _ _ _); walk_at "dN")
  | with_reducible refine bl_i ?_
  | with_reducible refine eq_int ?_
  | ((with_reducible refine lct_yes ?_); (try dsimp only [wipeE, List.set_cons_zero, List.set_cons_succ]))
  | ((with_reducible refine lct_g ?_); (try dsimp only [wipeE, List.set_cons_zero, List.set_cons_succ]))
  | with_reducible refine pt_no ?_
  | with_reducible refine pt_some ?_
  | with_reducible refine ls_fz ?_
  | with_reducible refine ls_ow ?_
  | with_reducible refine ls_nw ?_
  | with_reducible refine ls_s ?_
  | with_reducible refine dk_fz ?_
  | with_reducible refine dk_ow ?_
  | with_reducible refine dk_nw ?_
  | with_reducible refine key_i ?_
  | with_reducible refine key_s ?_
  | with_reducible refine dt_fz ?_
  | with_reducible refine dt_ow ?_
  | with_reducible refine dt_nw ?_
  | with_reducible refine tk_fz ?_
  | with_reducible refine tp_fz ?_
  | with_reducible refine st_i ?_
  | ((with_reducible show Gn _ _ _ _ _ _); walk_at "dG")
  | ((with_reducible show GtA _ _ _ _ _ _); walk_at "dG")
  | ((with_reducible show Op1 _ _ _ _ _); with_reducible refine op1_U ?_)
  | ((with_reducible show (_ = Kd.fz ∨ _) ∧ _); (with_reducible refine ⟨?f, ?q⟩); (case f => walk_at "kd"))
  | ((with_reducible show (_ = Kd.nw ∨ _) ∧ _); (with_reducible refine ⟨?f, ?q⟩); (case f => walk_at "kd"))
  | ((with_reducible show (allF _) ∧ _); (with_reducible refine ⟨?f, ?q⟩); (case f => walk_at "af"); (try walk_at "dm"))
  | ((with_reducible show (_ ≤ sizeLine) ∧ _); (with_reducible refine ⟨?z, ?q⟩); (case z => first | walk_at "sz" | exact size_le (by omega)))
  | ((with_reducible show (_ = Kd.nw) ∧ _); (with_reducible refine ⟨rfl, ?q⟩); (try walk_at "ds"))
  | ((with_reducible show (_ ≠ Kd.bw) ∧ _); (with_reducible refine ⟨?f, ?q⟩); (case f => walk_at "nb"))
  | ((with_reducible show (Da.truOk _ _) ∧ _); (with_reducible refine ⟨?f, ?q⟩); (case f => first | exact trivial | assumption))
  | with_reducible refine iff_t rfl ?_
  | with_reducible refine iff_f rfl ?_)
local macro_rules | `(tactic| walk_at "d") => `(tactic| repeat (walk_at "d1"))
local macro_rules | `(tactic| walk_at "dE") => `(tactic| first
  | with_reducible refine ev_mk0 ?_
  | with_reducible refine ev_mkV ?_
  | with_reducible refine ev_xv ?_)
local macro_rules | `(tactic| walk_at "d1") => `(tactic| first
  | with_reducible refine xc_i ?_
  | with_reducible refine mkv_i rfl (by decide) ?_
  | ((with_reducible show (_ = Kd.fz) ∧ _); (with_reducible refine ⟨rfl, ?_⟩)))
def digs : Str := "0123456789"
theorem sgns_eq : sgns.cps.toList = letr.cps.toList ++ digs.cps.toList := by decide +kernel
theorem mem_sgns {c : Nat} : c ∈ sgns.cps.toList ↔ c ∈ letr.cps.toList ∨ c ∈ digs.cps.toList := by rw [sgns_eq, List.mem_append]
def R__law_good : SpR := fun ds Pq _ => ∃ s : Str, ds = [.str s] ∧ s.length < 10000 ∧ Pq .fz (.bl (good s))
theorem sc__law_good : FnScope ["name", "k"] ["name"] (defScope (top 45)) := ⟨rfl, rfl, rfl, by decide +kernel, rfl, by decide +kernel, by decide +kernel⟩
theorem d__law_good {P : Program} {w : World} {K : PySem.W.Frag} {mg : Str → Option Value} {base : Heap} (T : Tx K mg) : Def P w K mg base "_law_good" 1 ["name"] (SpD K (R__law_good)) := by
  refine Def.of T.at__law_good sc__law_good (fun _ _ _ _ _ _ us hl => match us, hl with | [_], _ => rfl) (fun vs H Q E h => by (obtain ⟨_, _, _, _, _, h2, h, _⟩ := h; rw [← h2.len]; obtain ⟨_, rfl, _⟩ := h; rfl)) (fun f cdv A outer s H vs Q E hr h => ?_)
  refine ⟨_, PSs.nox (pss_cons (ps_if (PW.pt (pw_or (pt_cmpR op_lt (pe_callB call_lenA (by rfl) T.n_len (by decide +kernel) (pa_cons (pv 0) pa_nil)) pe_int (nomark _)) (pw_or1 (pt_cmpR op_gt (pe_callB call_lenA (by rfl) T.n_len (by decide +kernel) (pa_cons (pv 0) pa_nil)) pe_int (nomark _))))) (pss_one (ps_ret pe_bl)) pss_nil)
      (pss_cons (ps_for PassesOwn.never rfl (pi_range1 (by rfl) T.n_range (pa_cons (pe_callB call_lenA (by rfl) T.n_len (by decide +kernel) (pa_cons (pv 0) pa_nil)) pa_nil)) (pg_name (i := 1) sc__law_good.nd rfl (Or.inl rfl)) (pss_one (ps_if (pt_cmpR op_notIn_sign (pe_ix ix_seq (pv 0) (pv 1) (fun _ _ => rfl)) pe_str (by rfl)) (pss_one (ps_if (PW.pt (pw_or (pt_cmpR (op_eqA hr.units) (pv 1) pe_int (nomark _)) (pw_or1 (pt_cmpR op_notIn_sign (pe_ix ix_seq (pv 0) (pv 1) (fun _ _ => rfl)) pe_str (by rfl))))) (pss_one (ps_ret pe_bl)) pss_nil)) pss_nil)))
      (pss_one (ps_ret pe_bl)))), ?_⟩
  obtain ⟨F, ds, Pq, Xq, hF, ha, h, hQ, hE⟩ := h
  refine sd_top hF ha hQ ?_
  clear hQ ha hE
  generalize hB0 : (⟨F, H, []⟩ : Bs) = B
  have hL : B.L = [] := by rw [← hB0]
  clear hB0
  obtain ⟨s, rfl, hz, q⟩ := h
  have gb : ∀ {b : Bool}, good s = b → Pq .fz (.bl b) := fun h => h ▸ q
  walk_at "d0"
  walk_at "d"
  refine opn_lenS (size_le (by omega)) ?_
  walk_at "d"
  refine iteD (fun h1 => ?_) (fun h1 => ?_)
  · walk_at "d"
    refine gb ?_
    unfold good
    rw [decide_eq_false (show ¬ 1 ≤ s.length by omega), Bool.false_and, Bool.false_and]
  walk_at "d"
  refine opn_lenS (size_le (by omega)) ?_
  walk_at "d"
  refine iteD (fun h2 => ?_) (fun h2 => ?_)
  · walk_at "d"
    refine gb ?_
    unfold good
    rw [decide_eq_false (show ¬ s.length ≤ 10 by omega), Bool.and_false, Bool.false_and]
  walk_at "d"
  refine opn_lenS (size_le (by omega)) ?_
  walk_at "d"
  cases hc : s.cps.toList with
  | nil =>
    have : s.length = 0 := by show s.cps.size = 0; rw [← Array.length_toList, hc]; rfl
    omega
  | cons c r =>
    have hsz : s.length = r.length + 1 := by show s.cps.size = _; rw [← Array.length_toList, hc]; rfl
    have g0 : good s = (decide (c ∈ letr.cps.toList) && r.all fun d => decide (d ∈ sgns.cps.toList)) := by
      unfold good
      rw [decide_eq_true (show 1 ≤ s.length by omega), decide_eq_true (show s.length ≤ 10 by omega), hc]
      rfl
    refine ⟨_, _, s.length, rfl, Int.toNat_natCast _, by omega, fun i env' => ∃ v : Sl, env' = [.dat (.str s), v] ∧ (0 < i → c ∈ letr.cps.toList) ∧ ∀ d ∈ r.take (i - 1), d ∈ sgns.cps.toList, ⟨_, rfl, fun z => absurd z (by decide), fun d hd => by cases hd⟩, ?_, ?_⟩
    · rintro i env' hi ⟨v, rfl, hA, hB⟩
      obtain ⟨d, hd⟩ : ∃ d, (c :: r)[i]? = some d := ⟨_, List.getElem?_eq_getElem (by show i < r.length + 1; omega)⟩
      have hat : atI s.cps.toList (i : Int) = some d := atI_nat (by rw [hc]; exact hd)
      walk_at "d"
      refine op2_ixS (c := d) (size_le (by omega)) hat ?_
      walk_at "d"
      refine op2_notC ?_
      walk_at "d"
      refine iteN (fun h3 => ?_) (fun h3 => ?_)
      · have h3 : decide (d ∈ letr.cps.toList) = false := h3
        walk_at "d"
        refine iteD (fun h4 => ?_) (fun h4 => ?_)
        · walk_at "d"
          refine gb ?_
          have : i = 0 := by omega
          subst this
          cases hd
          rw [g0, h3, Bool.false_and]
        walk_at "d"
        refine op2_ixS (c := d) (size_le (by omega)) hat ?_
        walk_at "d"
        refine op2_notC ?_
        walk_at "d"
        obtain ⟨j, rfl⟩ : ∃ j, i = j + 1 := ⟨i - 1, by omega⟩
        have hd : r[j]? = some d := hd
        refine iteN (fun h5 => ?_) (fun h5 => ?_)
        · have h5 : decide (d ∈ digs.cps.toList) = false := h5
          walk_at "d"
          refine gb ?_
          rw [g0]
          refine Bool.eq_false_iff.mpr fun z => ?_
          have := List.all_eq_true.mp (and_tt z).2 d (List.mem_of_getElem? hd)
          rcases mem_sgns.mp (of_decide_eq_true this) with z | z
          · exact of_decide_eq_false h3 z
          · exact of_decide_eq_false h5 z
        · have h5 : decide (d ∈ digs.cps.toList) = true := h5
          walk_at "d"
          refine ⟨_, rfl, fun _ => hA (Nat.succ_pos _), fun e he => ?_⟩
          rw [Nat.add_sub_cancel] at hB
          rw [Nat.add_sub_cancel, take_snoc hd] at he
          rcases List.mem_append.mp he with he | he
          · exact hB e he
          · rw [List.mem_singleton.mp he]
            exact mem_sgns.mpr (.inr (of_decide_eq_true h5))
      · have h3 : decide (d ∈ letr.cps.toList) = true := h3
        walk_at "d"
        refine ⟨_, rfl, fun _ => ?_, fun e he => ?_⟩
        · by_cases z : i = 0
          · subst z
            cases hd
            exact of_decide_eq_true h3
          · exact hA (by omega)
        · rw [Nat.add_sub_cancel] at he
          by_cases z : i = 0
          · subst z
            cases he
          · obtain ⟨j, rfl⟩ : ∃ j, i = j + 1 := ⟨i - 1, by omega⟩
            have hd : r[j]? = some d := hd
            rw [Nat.add_sub_cancel] at hB
            rw [take_snoc hd] at he
            rcases List.mem_append.mp he with he | he
            · exact hB e he
            · rw [List.mem_singleton.mp he]
              exact mem_sgns.mpr (.inl (of_decide_eq_true h3))
    · rintro env' ⟨v, rfl, hA, hB⟩
      walk_at "d"
      refine gb ?_
      rw [hsz, Nat.add_sub_cancel, List.take_length] at hB
      rw [g0, decide_eq_true (hA (by omega)), Bool.true_and]
      exact List.all_eq_true.mpr fun d hd => decide_eq_true (hB d hd)
end JP
set_option Elab.async false
set_option linter.all false
set_option maxRecDepth 100000
set_option maxHeartbeats 4000000
set_option pp.deepTerms false
set_option pp.deepTerms.threshold 6
set_option pp.maxSteps 1200
namespace JP
open PySem PySem.Spec PyProof.Rows L2 L2H JPX
local macro_rules | `(tactic| walk_at "nb") => `(tactic| first | with_reducible exact fz_bw | with_reducible exact nw_bw | with_reducible exact ow_bw)
local macro_rules | `(tactic| walk_at "kd") => `(tactic| first | with_reducible exact Or.inl rfl | with_reducible exact Or.inr rfl)
local macro_rules | `(tactic| walk_at "af") => `(tactic| repeat (first | with_reducible exact allF_nil | ((with_reducible refine allF_cons ?h ?_); (case h => walk_at "kd"))))
local macro_rules | `(tactic| walk_at "sz") => `(tactic| (simp only [List.length_cons, List.length_nil, List.length_append, List.length_map, List.length_range]; decide))
local macro_rules | `(tactic| walk_at "side") => `(tactic| first | assumption | (exact small_div (by omega) (by omega)) | (exact small_mul (by omega) (by omega)) | (exact med_mul (by omega) (by omega)) | (exact big_mul (by omega) (by omega)) | (exact ⟨by decide, by decide, by decide⟩) | (show (0 : Int) < _; omega))
local macro_rules | `(tactic| walk_at "d0") => `(tactic| simp only [cxOf_K, List.map_cons, List.map_nil, List.length_cons, List.length_nil, Nat.reduceAdd, Nat.reduceSub, List.replicate_succ, List.replicate_zero, List.cons_append, List.nil_append])
local macro_rules | `(tactic| walk_at "ds") => `(tactic| try dsimp only [wipeE, List.set_cons_zero, List.set_cons_succ])
local macro_rules | `(tactic| walk_at "dm") => `(tactic| dsimp only [List.map])
local macro_rules | `(tactic| walk_at "dS") => `(tactic| first
  | with_reducible refine sd_seq ?_
  | with_reducible refine sd_next ?_
  | ((with_reducible refine sd_own ?h ?q); (case h => exact rfl))
  | ((with_reducible refine sd_setI (ds := ?ds) ?e ?q); (case e => exact rfl))
  | with_reducible refine sd_asg ?_
  | with_reducible refine sd_if ?_
  | with_reducible refine sd_ret ?_
  | with_reducible refine sd_new ?_
  | ((with_reducible refine sd_app (ds := ?ds) ?e ?q); (case e => exact rfl))
  | ((with_reducible refine sd_dput (kvs := ?kvs) ?e ?q); (case e => exact rfl))
  | ((with_reducible refine sd_mputT (kvs := ?kvs) ?e ?q); (case e => exact rfl))
  | with_reducible refine sd_drop ?_
  | with_reducible refine sd_ret0 ?_
  | with_reducible refine sd_for ?_
  | with_reducible refine sd_for1 ?_
  | with_reducible refine sd_for2 ?_
  | with_reducible refine sd_for3 ?_
  | ((with_reducible refine sd_augI (a := ?a) ?e ?q); (case e => exact rfl))
  | with_reducible refine sd_brk ?_
  | with_reducible refine sd_cont ?_)
local macro_rules | `(tactic| walk_at "dE") => `(tactic| first
  | ((with_reducible refine ev_var (d := ?d) ?e ?q); (case e => exact rfl))
  | ((with_reducible refine ev_own (d := ?d) ?e ?q); (case e => exact rfl))
  | with_reducible refine ev_int ?_
  | with_reducible refine ev_op ?_
  | with_reducible refine ev_cb ?_
  | ((with_reducible refine ev_call ?l ?q); (case l => assumption))
  | with_reducible refine ev_tup ?_
  | with_reducible refine ev_lst ?_
  | with_reducible refine ev_un ?_
  | with_reducible refine ev_bl ?_
  | with_reducible refine ev_non ?_
  | with_reducible refine ev_str ?_
  | with_reducible refine ev_ty ?_
  | with_reducible refine ev_ref ?_
  | with_reducible refine ev_if ?_
  | with_reducible refine ev_not ?_
  | with_reducible refine ev_notT ?_
  | with_reducible refine ev_and ?_
  | with_reducible refine ev_or ?_
  | with_reducible refine ev_chain ?_
  | with_reducible refine ev_bits ?_
  | with_reducible refine ev_dget ?_
  | with_reducible refine ev_dget2 ?_
  | with_reducible refine ev_mgT ?_
  | with_reducible refine ev_mg2T ?_
  | with_reducible refine ev_dnewT ?_
  | with_reducible refine ev_slT ?_
  | with_reducible refine ev_slS ?_
  | with_reducible refine ev_join ?_
  | with_reducible refine ev_dnew ?_
  | with_reducible refine ev_slL ?_
  | with_reducible refine ev_disp1 ?_
  | with_reducible refine ev_dispT ?_)
local macro_rules | `(tactic| walk_at "dO") => `(tactic| first
  | with_reducible refine op2_addI ?_
  | with_reducible refine op2_I0 ?_
  | ((with_reducible refine op2_addL ?a ?b ?z ?q); (case a => walk_at "nb"); (case b => walk_at "nb"); (case z => first | walk_at "sz" | exact size_le (by simp only [List.length_cons, List.length_nil, List.length_append, List.length_map, List.length_range, List.length_take, List.length_drop]; omega)))
  | with_reducible refine op2_B0 ?_
  | ((with_reducible refine op2_ix (ds := ?ds) (d := ?d) ?e ?a ?k ?q); (case e => exact rfl); (case a => exact rfl); (case k => walk_at "nb"))
  | with_reducible refine op2_eqI ?_
  | with_reducible refine op2_neI ?_
  | with_reducible refine op2_p18 ?_
  | with_reducible refine op2_p9 ?_
  | with_reducible refine op2_p6 ?_
  | with_reducible refine op2_p30 ?_
  | with_reducible refine op2_p12 ?_
  | with_reducible refine op2_p15 ?_
  | with_reducible refine op2_p24 ?_
  | with_reducible refine op2_p20 ?_
  | with_reducible refine op2_p2 ?_
  | with_reducible refine op2_p3 ?_
  | with_reducible refine op2_p4 ?_
  | with_reducible refine op2_p5 ?_
  | ((with_reducible refine op2_I ?c ?q); (case c => walk_at "side"))
  | with_reducible refine op2_eqS ?_
  | with_reducible refine op2_neS ?_
  | with_reducible refine op2_eqB ?_
  | with_reducible refine op2_neB ?_
  | with_reducible refine op2_is ?_
  | with_reducible refine op2_isNot ?_)
local macro_rules | `(tactic| walk_at "dN") => `(tactic| first
  | with_reducible refine opn_int ?_
  | ((with_reducible refine opn_len (ds := ?ds) ?e ?q); (case e => exact rfl))
  | with_reducible refine opn_lenD ?_
  | ((with_reducible refine opn_lenT ?l ?q); (case l => assumption))
  | with_reducible refine opn_intB ?_
  | with_reducible refine opn_abs ?_
  | with_reducible refine opn_gcd ?_
  | ((with_reducible refine opn_list (ds := ?ds) ?e ?k ?q); (case e => exact rfl); (case k => walk_at "nb"))
  | ((with_reducible refine opn_tuple (ds := ?ds) ?e ?k ?s ?q); (case e => exact rfl); (case k => walk_at "nb"); (case s => exact (fun _ => nofun)))
  | ((with_reducible refine opn_isi true ?n ?c ?e ?q); (case e => exact rfl); (case n => exact rfl); (case c => exact rfl))
  | ((with_reducible refine opn_isi false ?n ?c ?e ?q); (case e => exact rfl); (case n => exact rfl); (case c => exact rfl)))
local macro_rules | `(tactic| walk_at "dT") => `(tactic| first
  | with_reducible refine tt_test ?_
  | with_reducible refine tt_B ?_
  | with_reducible refine tt_and ?_
  | with_reducible refine tt_or ?_
  | with_reducible refine tt_not ?_
  | with_reducible refine tt_yes ?_
  | with_reducible refine tt_tru ?_)
local macro_rules | `(tactic| walk_at "dG") => `(tactic| first
  | ((with_reducible refine gt_name ?k ?q); (case k => walk_at "kd"); (walk_at "ds"))
  | ((with_reducible refine gn_name ?_); (walk_at "ds"))
  | ((with_reducible refine gn_tup (ds := ?ds) ?e ?n ?q); (case e => exact rfl); (case n => exact rfl))
  | ((with_reducible refine gt_tup (ds := ?ds) ?e ?n ?k ?q); (case e => exact rfl); (case n => exact rfl); (case k => walk_at "nb"))
  | ((with_reducible refine gta_name ?_); (walk_at "ds"))
  | ((with_reducible refine gta_tup (es := ?es) ?e ?n ?q); (case e => exact rfl); (case n => exact rfl))
  | with_reducible refine gta_nil ?_)
local macro_rules | `(tactic| walk_at "d1") => `(tactic| first
  | ((with_reducible show Ev _ _ _ _ _); walk_at "dE")
  | ((with_reducible show EvA _ _ _ _ _); first | with_reducible refine eva_cons ?_ | with_reducible refine eva_nil ?_)
  | ((with_reducible show Op2 _ _ _ _ _ _); walk_at "dO")
  | ((with_reducible show Sd _ _ _ _ _); walk_at "dS")
  | ((with_reducible show Gt _ _ _ _ _ _ _); walk_at "dG")
  | ((with_reducible show Tt _ _ _ _ _); walk_at "dT")
  | ((with_reducible show OpN _ _ _ _ _); walk_at "dN")
  | with_reducible refine bl_i ?_
  | with_reducible refine eq_int ?_
  | ((with_reducible refine lct_yes ?_); (try dsimp only [wipeE, List.set_cons_zero, List.set_cons_succ]))
  | ((with_reducible refine lct_g ?_); (try dsimp only [wipeE, List.set_cons_zero, List.set_cons_succ]))
  | with_reducible refine pt_no ?_
  | with_reducible refine pt_some ?_
  | with_reducible refine ls_fz ?_
  | with_reducible refine ls_ow ?_
  | with_reducible refine ls_nw ?_
  | with_reducible refine ls_s ?_
  | with_reducible refine dk_fz ?_
  | with_reducible refine dk_ow ?_
  | with_reducible refine dk_nw ?_
  | with_reducible refine key_i ?_
  | with_reducible refine key_s ?_
  | with_reducible refine dt_fz ?_
  | with_reducible refine dt_ow ?_
  | with_reducible refine dt_nw ?_
  | with_reducible refine tk_fz ?_
  | with_reducible refine tp_fz ?_
  | with_reducible refine st_i ?_
  | ((with_reducible show Gn _ _ _ _ _ _); walk_at "dG")
  | ((with_reducible show GtA _ _ _ _ _ _); walk_at "dG")
  | ((with_reducible show Op1 _ _ _ _ _); with_reducible refine op1_U ?_)
  | ((with_reducible show (_ = Kd.fz ∨ _) ∧ _); (with_reducible refine ⟨?f, ?q⟩); (case f => walk_at "kd"))
  | ((with_reducible show (_ = Kd.nw ∨ _) ∧ _); (with_reducible refine ⟨?f, ?q⟩); (case f => walk_at "kd"))
  | ((with_reducible show (allF _) ∧ _); (with_reducible refine ⟨?f, ?q⟩); (case f => walk_at "af"); (try walk_at "dm"))
  | ((with_reducible show (_ ≤ sizeLine) ∧ _); (with_reducible refine ⟨?z, ?q⟩); (case z => first | walk_at "sz" | exact size_le (by omega)))
  | ((with_reducible show (_ = Kd.nw) ∧ _); (with_reducible refine ⟨rfl, ?q⟩); (try walk_at "ds"))
  | ((with_reducible show (_ ≠ Kd.bw) ∧ _); (with_reducible refine ⟨?f, ?q⟩); (case f => walk_at "nb"))
  | ((with_reducible show (Da.truOk _ _) ∧ _); (with_reducible refine ⟨?f, ?q⟩); (case f => first | exact trivial | assumption))
  | with_reducible refine iff_t rfl ?_
  | with_reducible refine iff_f rfl ?_)
local macro_rules | `(tactic| walk_at "d") => `(tactic| repeat (walk_at "d1"))
local macro_rules | `(tactic| walk_at "dE") => `(tactic| first
  | with_reducible refine ev_mk0 ?_
  | with_reducible refine ev_mkV ?_
  | with_reducible refine ev_xv ?_)
local macro_rules | `(tactic| walk_at "d1") => `(tactic| first
  | with_reducible refine xc_i ?_
  | with_reducible refine mkv_i rfl (by decide) ?_
  | ((with_reducible show (_ = Kd.fz) ∧ _); (with_reducible refine ⟨rfl, ?_⟩)))
/-- the number of the error class that is due, and its field or the row set -/
def dueK (ss : List Str) : List Da := if ss = [] then [.int 3] else match fbad ss with | some _ => [.int 4] | none => match ftw ss with | some _ => [.int 5] | none => []
def dueX (ss : List Str) : Da := if ss = [] then .non else match fbad ss with | some s => .str s | none => match ftw ss with | some s => .str s | none => .tup ((srtN ss).map Da.str)
def dueD (ss : List Str) : Da := .lst [.lst (dueK ss), dueX ss]
theorem dueD_nil : dueD [] = .lst [.lst [.int 3], .non] := rfl
theorem dueD_bad {ss : List Str} {s : Str} (h : fbad ss = some s) : dueD ss = .lst [.lst [.int 4], .str s] := by
  have hs : ss ≠ [] := fun z => by rw [z] at h; cases h
  unfold dueD dueK dueX
  rw [if_neg hs, if_neg hs, h]
theorem dueD_tw {ss : List Str} {s : Str} (h : fbad ss = none) (g : ftw ss = some s) : dueD ss = .lst [.lst [.int 5], .str s] := by
  have hs : ss ≠ [] := fun z => by rw [z] at g; cases g
  unfold dueD dueK dueX
  rw [if_neg hs, if_neg hs, h, g]
theorem dueD_ok {ss : List Str} (hs : ss ≠ []) (h : fbad ss = none) (g : ftw ss = none) : dueD ss = .lst [.lst [], .tup ((srtN ss).map Da.str)] := by
  unfold dueD dueK dueX
  rw [if_neg hs, if_neg hs, h, g]
def R__law_due : SpR := fun ds Pq _ => ∃ (d : Da) (ss : List Str), ds = [d] ∧ isNm d ss ∧ ss.length < 64 ∧ (∀ s ∈ ss, s.length < 10000) ∧ Pq .fz (dueD ss)
theorem sc__law_due : FnScope ["names", "name", "k"] ["names"] (defScope (top 47)) := ⟨rfl, rfl, rfl, by decide +kernel, rfl, by decide +kernel, by decide +kernel⟩
theorem d__law_due {P : Program} {w : World} {K : PySem.W.Frag} {mg : Str → Option Value} {base : Heap} (T : Tx K mg) : Def P w K mg base "_law_due" 2 ["names"] (SpD K (R__law_due)) := by
  refine Def.of T.at__law_due sc__law_due (fun _ _ _ _ _ _ us hl => match us, hl with | [_], _ => rfl) (fun vs H Q E h => by (obtain ⟨_, _, _, _, _, h2, h, _⟩ := h; rw [← h2.len]; obtain ⟨_, _, rfl, _⟩ := h; rfl)) (fun f cdv A outer s H vs Q E hr h => ?_)
  refine ⟨_, PSs.nox (pss_cons (ps_if (pt_cmpR (op_eqA hr.units) (pe_callB call_lenA (by rfl) T.n_len (by decide +kernel) (pa_cons (pv 0) pa_nil)) pe_int (nomark _)) (pss_one (ps_ret (pe_lstA (pa_cons (pe_lstA (pa_cons pe_int pa_nil)) (pa_cons pe_non pa_nil))))) pss_nil)
      (pss_cons (ps_for PassesOwn.never rfl (pi_seq (pv 0)) (pg_name (i := 1) sc__law_due.nd rfl (Or.inl rfl)) (pss_one (ps_if (pt_not (pt_val (pe_def (d__law_good T) (hr.mono (by decide)) (by rfl) (pa_cons (pv 1) pa_nil)))) (pss_one (ps_ret (pe_lstA (pa_cons (pe_lstA (pa_cons pe_int pa_nil)) (pa_cons (pv 1) pa_nil))))) pss_nil)))
      (pss_cons (ps_for PassesOwn.never rfl (pi_range1 (by rfl) T.n_range (pa_cons (pe_callB call_lenA (by rfl) T.n_len (by decide +kernel) (pa_cons (pv 0) pa_nil)) pa_nil)) (pg_name (i := 2) sc__law_due.nd rfl (Or.inl rfl)) (pss_one (ps_if (pt_cmpR op_in_seq (pe_ix ix_seq (pv 0) (pv 2) (fun _ _ => rfl)) (pe_slice sl_seqN (pv 0) po_none (po_some (pv 2))) (by rfl)) (pss_one (ps_ret (pe_lstA (pa_cons (pe_lstA (pa_cons pe_int pa_nil)) (pa_cons (pe_ix ix_seq (pv 0) (pv 2) (fun _ _ => rfl)) pa_nil))))) pss_nil)))
      (pss_one (ps_ret (pe_lstA (pa_cons (pe_lstA pa_nil) (pa_cons (pe_callTy call_tupN (by rfl) T.n_tuple (by decide +kernel) (pa_cons (pe_callB cr_sortN (by rfl) T.n_sorted (by decide +kernel) (pa_cons (pv 0) pa_nil)) pa_nil)) pa_nil)))))))), ?_⟩
  obtain ⟨F, ds, Pq, Xq, hF, ha, h, hQ, hE⟩ := h
  refine sd_top hF ha hQ ?_
  clear hQ ha hE
  generalize hB0 : (⟨F, H, []⟩ : Bs) = B
  have hL : B.L = [] := by rw [← hB0]
  clear hB0
  obtain ⟨d, ss, rfl, hd, hz, hl, q⟩ := h
  have hits := hd.its
  have gb : ∀ {x : Da}, dueD ss = x → Pq .fz x := fun h => h ▸ q
  walk_at "d0"
  walk_at "d"
  refine opn_len hits ?_
  walk_at "d"
  rw [List.length_map]
  refine iteD (fun h => ?_) (fun h => ?_)
  · have hs : ss = [] := List.length_eq_zero_iff.mp (by omega)
    walk_at "d"
    exact gb (by rw [hs]; rfl)
  have hs : ss ≠ [] := fun z => h (by rw [z]; rfl)
  walk_at "d"
  refine ⟨_, hits, fun i env' => ∃ v1 v2 : Sl, env' = [.dat d, v1, v2] ∧ ∀ t ∈ ss.take i, good t = true, ⟨_, _, rfl, fun t ht => by cases ht⟩, ?_, ?_⟩
  · rintro i x env' hi ⟨v1, v2, rfl, hA⟩
    obtain ⟨s, hs, rfl⟩ := smap_at hi
    have hm := List.mem_of_getElem? hs
    walk_at "d"
    refine ⟨s, rfl, hl s hm, ?_⟩
    walk_at "d"
    cases hg : good s with
    | true =>
      walk_at "d"
      refine ⟨_, _, rfl, fun t ht => ?_⟩
      rw [take_snoc hs] at ht
      rcases List.mem_append.mp ht with ht | ht
      · exact hA t ht
      · rw [List.mem_singleton.mp ht]; exact hg
    | false =>
      walk_at "d"
      exact gb (dueD_bad (fbad_take hs hA hg))
  · rintro env' ⟨v1, v2, rfl, hA⟩
    rw [List.length_map, List.take_length] at hA
    have hbn := fbad_none hA
    walk_at "d"
    refine opn_len hits ?_
    walk_at "d"
    rw [List.length_map]
    refine ⟨_, _, ss.length, rfl, Int.toNat_natCast _, by omega, fun i env' => ∃ v1 v2 : Sl, env' = [.dat d, v1, v2] ∧ twA (ss.take i) (ss.drop i) = ftw ss, ⟨_, _, rfl, rfl⟩, ?_, ?_⟩
    · rintro i env' hi ⟨v1, v2, rfl, hT⟩
      have hs : ss[i]? = some ss[i] := List.getElem?_eq_getElem hi
      generalize ss[i] = s at hs
      have hat : atI (ss.map Da.str) (i : Int) = some (.str s) := atI_nat (by rw [List.getElem?_map, hs]; rfl)
      rw [twA_step hs] at hT
      walk_at "d"
      refine op2_ix hits hat nofun ?_
      walk_at "d"
      refine ev_slN ?_
      walk_at "d"
      refine ⟨ss.map Da.str, hd, nofun, ?_, ?_⟩
      all_goals
        rw [cutD_take _ _ (by rw [List.length_map]; omega), ← List.map_take]
        refine op2_inS (ss := ss.take i) (by first | exact .inl rfl | exact .inr rfl) nofun ?_
        walk_at "d"
        refine iteD (fun h => ?_) (fun h => ?_)
        · rw [if_pos h] at hT
          walk_at "d"
          refine op2_ix hits hat nofun ?_
          walk_at "d"
          exact gb (dueD_tw hbn hT.symm)
        · rw [if_neg h] at hT
          walk_at "d"
          exact ⟨_, _, rfl, hT⟩
    · rintro env' ⟨v1, v2, rfl, hT⟩
      rw [twA_end] at hT
      walk_at "d"
      refine opn_sortN hd nofun hz ?_
      walk_at "d"
      exact gb (dueD_ok hs hbn hT.symm)
end JP
set_option Elab.async false
set_option linter.all false
set_option maxRecDepth 100000
set_option maxHeartbeats 4000000
set_option pp.deepTerms false
set_option pp.deepTerms.threshold 6
set_option pp.maxSteps 1200
namespace JP
open PySem PySem.Spec PyProof.Rows L2 L2H JPX
local macro_rules | `(tactic| walk_at "w1") => `(tactic| first
  | with_reducible refine w_seq ?_
  | with_reducible refine w_asg ?_
  | with_reducible refine w_name ?_
  | with_reducible refine w_op ?_
  | ((with_reducible refine w_var ?v ?h ?q); (case h => exact rfl))
  | with_reducible refine w_c ?_
  | with_reducible refine w_ret ?_
  | with_reducible refine w_if ?_
  | with_reducible refine w_drop ?_
  | with_reducible refine w_next ?_
  | with_reducible refine w_un ?_
  | with_reducible refine w_p18 ?_
  | with_reducible refine w_p30 ?_
  | with_reducible refine w_p6 ?_
  | with_reducible refine w_p9 ?_
  | with_reducible refine w_p12 ?_
  | with_reducible refine w_p15 ?_
  | with_reducible refine w_p24 ?_
  | with_reducible refine w_slice ?_
  | with_reducible refine w_part ?_
  | with_reducible refine w_nopart ?_
  | with_reducible refine w_ei ?_
  | with_reducible refine w_for ?_
  | with_reducible refine w_rng1 ?_
  | with_reducible refine w_rng2 ?_
  | with_reducible refine w_iseq ?_
  | ((with_reducible refine w_I ?c ?q); (case c => walk_at "side"))
  | ((with_reducible refine w_len ?xs ?h ?q); (case h => walk_at "tr"))
  | with_reducible refine w_cb ?_
  | with_reducible refine w_cons ?_
  | with_reducible refine w_nil ?_
  | with_reducible refine w_test ?_
  | with_reducible refine w_B ?_
  | with_reducible refine w_bl ?_
  | with_reducible refine w_and ?_
  | with_reducible refine w_or ?_
  | with_reducible refine w_not ?_
  | with_reducible refine w_andV ?_
  | with_reducible refine w_orV ?_
  | with_reducible refine w_notV ?_
  | with_reducible refine w_ifE ?_
  | with_reducible refine w_call ?_
  | with_reducible refine w_bm ?_
  | ((with_reducible refine w_tyl ?xs ?h ?q); (case h => assumption))
  | with_reducible refine w_bm0 ?_
  | with_reducible refine w_bits ?_
  | with_reducible refine w_tup ?_
  | with_reducible refine w_lst ?_
  | with_reducible refine w_I0 ?_
  | with_reducible refine w_U ?_
  | with_reducible refine w_add ?_
  | with_reducible refine w_eqI ?_
  | with_reducible refine w_neI ?_
  | with_reducible refine w_eqS ?_
  | with_reducible refine w_neS ?_
  | with_reducible refine w_int ?_
  | with_reducible refine w_abs ?_
  | with_reducible refine w_gcd ?_
  | walk_at "w2")
local macro_rules | `(tactic| walk_at "w2") => `(tactic| fail)
local macro_rules | `(tactic| walk_at "rd") => `(tactic| first | with_reducible assumption | ((with_reducible refine Rd.of ?_); walk_at "tr"))
local macro_rules | `(tactic| walk_at "w") => `(tactic| repeat (walk_at "w1"))
local macro_rules | `(tactic| walk_at "w0") => `(tactic| simp only [cxOf_K, L2.start, List.map_cons, List.map_nil, List.length_cons, List.length_nil, Nat.reduceAdd, Nat.reduceSub, List.replicate_succ, List.replicate_zero, List.cons_append, List.nil_append])
local macro_rules | `(tactic| walk_at "side") => `(tactic| first | assumption | (exact small_div (by omega) (by omega)) | (exact small_mul (by omega) (by omega)) | (exact med_mul (by omega) (by omega)) | (exact big_mul (by omega) (by omega)) | (exact ⟨by decide, by decide, by decide⟩) | (show (0 : Int) < _; omega))
local macro_rules | `(tactic| walk_at "ch") => `(tactic| first
  | with_reducible assumption
  | with_reducible exact Same.refl _
  | ((with_reducible refine tr_at ?H ?e ?h); (case e => with_reducible assumption); (case h => walk_at "ch"))
  | ((with_reducible refine tr_st ?H ?e ?h); (case e => with_reducible assumption); (case h => walk_at "ch"))
  | ((with_reducible refine tr_sl ?H ?e ?h); (case e => with_reducible assumption); (case h => walk_at "ch"))
  | ((with_reducible refine tr_same ?H ?e ?h); (case e => with_reducible assumption); (case h => walk_at "ch"))
  | ((with_reducible refine tr_sq ?H ?e ?h); (case e => with_reducible assumption); (case h => walk_at "ch"))
  | ((with_reducible refine tr_dp ?H ?e ?h); (case e => with_reducible assumption); (case h => walk_at "ch"))
  | walk_at "tr2")
local macro_rules | `(tactic| walk_at "tr") => `(tactic| first
  | walk_at "ch"
  | ((with_reducible refine tr_eq ?u ?h ?e); (case h => walk_at "ch"); (case e => rfl))
  | ((with_reducible refine tr_eqt ?u ?h ?e); (case h => walk_at "ch"); (case e => rfl))
  | ((with_reducible refine tr_eql ?u ?h ?e); (case h => walk_at "ch"); (case e => rfl))
  | ((with_reducible refine SqT.of ?_); first | walk_at "ch" | ((with_reducible refine tr_eq ?u ?h ?e); (case h => walk_at "ch"); (case e => rfl)))
  | ((with_reducible refine SqL.of ?_); first | walk_at "ch" | ((with_reducible refine tr_eq ?u ?h ?e); (case h => walk_at "ch"); (case e => rfl)))
  | ((with_reducible refine sq_l ?_); walk_at "tr")
  | ((with_reducible refine sq_t ?_); walk_at "tr"))
local macro_rules | `(tactic| walk_at "tr2") => `(tactic| fail)
local macro_rules | `(tactic| walk_at "sz") => `(tactic| (simp only [List.length_cons, List.length_nil, List.length_append, List.length_map]; decide))
local macro_rules | `(tactic| walk_at "g") => `(tactic| repeat (first
  | (with_reducible refine g_cons ?_)
  | (with_reducible refine g_nil ?_)
  | (with_reducible refine w_name ?_)))
local macro_rules | `(tactic| walk_at "nb") => `(tactic| first | with_reducible exact fz_bw | with_reducible exact nw_bw | with_reducible exact ow_bw)
local macro_rules | `(tactic| walk_at "kd") => `(tactic| first | with_reducible exact Or.inl rfl | with_reducible exact Or.inr rfl)
local macro_rules | `(tactic| walk_at "af") => `(tactic| repeat (first | with_reducible exact allF_nil | ((with_reducible refine allF_cons ?h ?_); (case h => walk_at "kd"))))
local macro_rules | `(tactic| walk_at "sz") => `(tactic| (simp only [List.length_cons, List.length_nil, List.length_append, List.length_map, List.length_range]; decide))
local macro_rules | `(tactic| walk_at "side") => `(tactic| first | assumption | (exact small_div (by omega) (by omega)) | (exact small_mul (by omega) (by omega)) | (exact med_mul (by omega) (by omega)) | (exact big_mul (by omega) (by omega)) | (exact ⟨by decide, by decide, by decide⟩) | (show (0 : Int) < _; omega))
local macro_rules | `(tactic| walk_at "d0") => `(tactic| simp only [cxOf_K, List.map_cons, List.map_nil, List.length_cons, List.length_nil, Nat.reduceAdd, Nat.reduceSub, List.replicate_succ, List.replicate_zero, List.cons_append, List.nil_append])
local macro_rules | `(tactic| walk_at "ds") => `(tactic| try dsimp only [wipeE, List.set_cons_zero, List.set_cons_succ])
local macro_rules | `(tactic| walk_at "dm") => `(tactic| dsimp only [List.map])
local macro_rules | `(tactic| walk_at "dS") => `(tactic| first
  | with_reducible refine sd_seq ?_
  | with_reducible refine sd_next ?_
  | ((with_reducible refine sd_own ?h ?q); (case h => exact rfl))
  | ((with_reducible refine sd_setI (ds := ?ds) ?e ?q); (case e => exact rfl))
  | with_reducible refine sd_asg ?_
  | with_reducible refine sd_if ?_
  | with_reducible refine sd_ret ?_
  | with_reducible refine sd_new ?_
  | ((with_reducible refine sd_app (ds := ?ds) ?e ?q); (case e => exact rfl))
  | ((with_reducible refine sd_dput (kvs := ?kvs) ?e ?q); (case e => exact rfl))
  | ((with_reducible refine sd_mputT (kvs := ?kvs) ?e ?q); (case e => exact rfl))
  | with_reducible refine sd_drop ?_
  | with_reducible refine sd_ret0 ?_
  | with_reducible refine sd_for ?_
  | with_reducible refine sd_for1 ?_
  | with_reducible refine sd_for2 ?_
  | with_reducible refine sd_for3 ?_
  | ((with_reducible refine sd_augI (a := ?a) ?e ?q); (case e => exact rfl))
  | with_reducible refine sd_brk ?_
  | with_reducible refine sd_cont ?_)
local macro_rules | `(tactic| walk_at "dE") => `(tactic| first
  | ((with_reducible refine ev_var (d := ?d) ?e ?q); (case e => exact rfl))
  | ((with_reducible refine ev_own (d := ?d) ?e ?q); (case e => exact rfl))
  | with_reducible refine ev_int ?_
  | with_reducible refine ev_op ?_
  | with_reducible refine ev_cb ?_
  | ((with_reducible refine ev_call ?l ?q); (case l => assumption))
  | with_reducible refine ev_tup ?_
  | with_reducible refine ev_lst ?_
  | with_reducible refine ev_un ?_
  | with_reducible refine ev_bl ?_
  | with_reducible refine ev_non ?_
  | with_reducible refine ev_str ?_
  | with_reducible refine ev_ty ?_
  | with_reducible refine ev_ref ?_
  | with_reducible refine ev_if ?_
  | with_reducible refine ev_not ?_
  | with_reducible refine ev_notT ?_
  | with_reducible refine ev_and ?_
  | with_reducible refine ev_or ?_
  | with_reducible refine ev_chain ?_
  | with_reducible refine ev_bits ?_
  | with_reducible refine ev_dget ?_
  | with_reducible refine ev_dget2 ?_
  | with_reducible refine ev_mgT ?_
  | with_reducible refine ev_mg2T ?_
  | with_reducible refine ev_dnewT ?_
  | with_reducible refine ev_slT ?_
  | with_reducible refine ev_slS ?_
  | with_reducible refine ev_join ?_
  | with_reducible refine ev_dnew ?_
  | with_reducible refine ev_slL ?_
  | with_reducible refine ev_disp1 ?_
  | with_reducible refine ev_dispT ?_)
local macro_rules | `(tactic| walk_at "dO") => `(tactic| first
  | with_reducible refine op2_addI ?_
  | with_reducible refine op2_I0 ?_
  | ((with_reducible refine op2_addL ?a ?b ?z ?q); (case a => walk_at "nb"); (case b => walk_at "nb"); (case z => first | walk_at "sz" | exact size_le (by simp only [List.length_cons, List.length_nil, List.length_append, List.length_map, List.length_range, List.length_take, List.length_drop]; omega)))
  | with_reducible refine op2_B0 ?_
  | ((with_reducible refine op2_ix (ds := ?ds) (d := ?d) ?e ?a ?k ?q); (case e => exact rfl); (case a => exact rfl); (case k => walk_at "nb"))
  | with_reducible refine op2_eqI ?_
  | with_reducible refine op2_neI ?_
  | with_reducible refine op2_p18 ?_
  | with_reducible refine op2_p9 ?_
  | with_reducible refine op2_p6 ?_
  | with_reducible refine op2_p30 ?_
  | with_reducible refine op2_p12 ?_
  | with_reducible refine op2_p15 ?_
  | with_reducible refine op2_p24 ?_
  | with_reducible refine op2_p20 ?_
  | with_reducible refine op2_p2 ?_
  | with_reducible refine op2_p3 ?_
  | with_reducible refine op2_p4 ?_
  | with_reducible refine op2_p5 ?_
  | ((with_reducible refine op2_I ?c ?q); (case c => walk_at "side"))
  | with_reducible refine op2_eqS ?_
  | with_reducible refine op2_neS ?_
  | with_reducible refine op2_eqB ?_
  | with_reducible refine op2_neB ?_
  | with_reducible refine op2_is ?_
  | with_reducible refine op2_isNot ?_)
local macro_rules | `(tactic| walk_at "dN") => `(tactic| first
  | with_reducible refine opn_int ?_
  | ((with_reducible refine opn_len (ds := ?ds) ?e ?q); (case e => exact rfl))
  | with_reducible refine opn_lenD ?_
  | ((with_reducible refine opn_lenT ?l ?q); (case l => assumption))
  | with_reducible refine opn_intB ?_
  | with_reducible refine opn_abs ?_
  | with_reducible refine opn_gcd ?_
  | ((with_reducible refine opn_list (ds := ?ds) ?e ?k ?q); (case e => exact rfl); (case k => walk_at "nb"))
  | ((with_reducible refine opn_tuple (ds := ?ds) ?e ?k ?s ?q); (case e => exact rfl); (case k => walk_at "nb"); (case s => exact (fun _ => nofun)))
  | ((with_reducible refine opn_isi true ?n ?c ?e ?q); (case e => exact rfl); (case n => exact rfl); (case c => exact rfl))
  | ((with_reducible refine opn_isi false ?n ?c ?e ?q); (case e => exact rfl); (case n => exact rfl); (case c => exact rfl)))
local macro_rules | `(tactic| walk_at "dT") => `(tactic| first
  | with_reducible refine tt_test ?_
  | with_reducible refine tt_B ?_
  | with_reducible refine tt_and ?_
  | with_reducible refine tt_or ?_
  | with_reducible refine tt_not ?_
  | with_reducible refine tt_yes ?_
  | with_reducible refine tt_tru ?_)
local macro_rules | `(tactic| walk_at "dG") => `(tactic| first
  | ((with_reducible refine gt_name ?k ?q); (case k => walk_at "kd"); (walk_at "ds"))
  | ((with_reducible refine gn_name ?_); (walk_at "ds"))
  | ((with_reducible refine gn_tup (ds := ?ds) ?e ?n ?q); (case e => exact rfl); (case n => exact rfl))
  | ((with_reducible refine gt_tup (ds := ?ds) ?e ?n ?k ?q); (case e => exact rfl); (case n => exact rfl); (case k => walk_at "nb"))
  | ((with_reducible refine gta_name ?_); (walk_at "ds"))
  | ((with_reducible refine gta_tup (es := ?es) ?e ?n ?q); (case e => exact rfl); (case n => exact rfl))
  | with_reducible refine gta_nil ?_)
local macro_rules | `(tactic| walk_at "d1") => `(tactic| first
  | ((with_reducible show Ev _ _ _ _ _); walk_at "dE")
  | ((with_reducible show EvA _ _ _ _ _); first | with_reducible refine eva_cons ?_ | with_reducible refine eva_nil ?_)
  | ((with_reducible show Op2 _ _ _ _ _ _); walk_at "dO")
  | ((with_reducible show Sd _ _ _ _ _); walk_at "dS")
  | ((with_reducible show Gt _ _ _ _ _ _ _); walk_at "dG")
  | ((with_reducible show Tt _ _ _ _ _); walk_at "dT")
  | ((with_reducible show OpN _ _ _ _ _); walk_at "dN")
  | with_reducible refine bl_i ?_
  | with_reducible refine eq_int ?_
  | ((with_reducible refine lct_yes ?_); (try dsimp only [wipeE, List.set_cons_zero, List.set_cons_succ]))
  | ((with_reducible refine lct_g ?_); (try dsimp only [wipeE, List.set_cons_zero, List.set_cons_succ]))
  | with_reducible refine pt_no ?_
  | with_reducible refine pt_some ?_
  | with_reducible refine ls_fz ?_
  | with_reducible refine ls_ow ?_
  | with_reducible refine ls_nw ?_
  | with_reducible refine ls_s ?_
  | with_reducible refine dk_fz ?_
  | with_reducible refine dk_ow ?_
  | with_reducible refine dk_nw ?_
  | with_reducible refine key_i ?_
  | with_reducible refine key_s ?_
  | with_reducible refine dt_fz ?_
  | with_reducible refine dt_ow ?_
  | with_reducible refine dt_nw ?_
  | with_reducible refine tk_fz ?_
  | with_reducible refine tp_fz ?_
  | with_reducible refine st_i ?_
  | ((with_reducible show Gn _ _ _ _ _ _); walk_at "dG")
  | ((with_reducible show GtA _ _ _ _ _ _); walk_at "dG")
  | ((with_reducible show Op1 _ _ _ _ _); with_reducible refine op1_U ?_)
  | ((with_reducible show (_ = Kd.fz ∨ _) ∧ _); (with_reducible refine ⟨?f, ?q⟩); (case f => walk_at "kd"))
  | ((with_reducible show (_ = Kd.nw ∨ _) ∧ _); (with_reducible refine ⟨?f, ?q⟩); (case f => walk_at "kd"))
  | ((with_reducible show (allF _) ∧ _); (with_reducible refine ⟨?f, ?q⟩); (case f => walk_at "af"); (try walk_at "dm"))
  | ((with_reducible show (_ ≤ sizeLine) ∧ _); (with_reducible refine ⟨?z, ?q⟩); (case z => first | walk_at "sz" | exact size_le (by omega)))
  | ((with_reducible show (_ = Kd.nw) ∧ _); (with_reducible refine ⟨rfl, ?q⟩); (try walk_at "ds"))
  | ((with_reducible show (_ ≠ Kd.bw) ∧ _); (with_reducible refine ⟨?f, ?q⟩); (case f => walk_at "nb"))
  | ((with_reducible show (Da.truOk _ _) ∧ _); (with_reducible refine ⟨?f, ?q⟩); (case f => first | exact trivial | assumption))
  | with_reducible refine iff_t rfl ?_
  | with_reducible refine iff_f rfl ?_)
local macro_rules | `(tactic| walk_at "d") => `(tactic| repeat (walk_at "d1"))
local macro_rules | `(tactic| walk_at "dE") => `(tactic| first
  | with_reducible refine ev_mk0 ?_
  | with_reducible refine ev_mkV ?_
  | with_reducible refine ev_xv ?_)
local macro_rules | `(tactic| walk_at "d1") => `(tactic| first
  | with_reducible refine xc_i ?_
  | with_reducible refine mkv_i rfl (by decide) ?_
  | ((with_reducible show (_ = Kd.fz) ∧ _); (with_reducible refine ⟨rfl, ?_⟩)))
theorem w_callY {cls : Value} {sp : Addr → Sp} {t : TA} {σ : L2.St} {H : Hp} {Q : VK} (q : t σ H fun vs H1 => ∃ D, cls = .ref D ∧ sp D vs H1 Q E0) : tCallY cls sp t σ H Q := q
theorem w_xf {a C : Addr} {cls : Value} {d : Option Addr} {f : Str} {te : TE} {σ : L2.St} {H : Hp} {Q : VK} (q : te σ H fun x H1 => x = .ref a ∧ cls = .ref C ∧ ∃ (dd : Addr) (fs : List (Str × V)) (v : V), d = some dd ∧ H1 dd = some (.xd fs) ∧ fs.lookup f = some v ∧ Q v H1) : tXf a cls d C f te σ H Q := q
theorem fr_none {F H G : Hp} {O : List Addr} {a : Addr} (o : a ∉ O) (h : H a = none) : fr ⟨F, H, []⟩ O G a = G a := by
  unfold fr
  rw [if_neg o, if_neg (by show ¬ (H a).isSome = true; rw [h]; simp), vw_nil rfl]
theorem fr_some {F H G : Hp} {O : List Addr} {a : Addr} {x : HO} (o : a ∉ O) (h : H a = some x) : fr ⟨F, H, []⟩ O G a = if scT (some x) = true then some x else F a := by
  unfold fr
  rw [if_neg o, if_pos (show (H a).isSome = true by rw [h]; rfl)]
  show (if scT (H a) = true then H a else F a) = _
  simp only [h]
theorem fr_back {F H H1 H3 H4 : Hp} {p2 : Addr} (sF : Same F H) (s1 : Same H H1) (s3 : Same H1 H3) (n : H3 p2 = none) (s4 : Same H3 H4) : Same (fr ⟨F, H1, []⟩ [] H3) (fr ⟨F, H, []⟩ [p2] H4) := fun a u e => by
  have ne : ∀ {x}, H3 a = some x → a ∉ [p2] := fun z m => by rw [List.mem_singleton.mp m, n] at z; cases z
  cases h1 : H1 a with
  | some x =>
    rw [fr_some (by simp) h1] at e
    have hx3 := s3 _ _ h1
    cases h0 : H a with
    | some y =>
      have := (s1 _ _ h0).symm.trans h1
      cases this
      rw [fr_some (ne hx3) h0]
      exact e
    | none =>
      rw [fr_none (ne hx3) h0]
      split at e
      · cases e
        exact s4 _ _ hx3
      · have := sF _ _ e
        rw [h0] at this
        cases this
  | none =>
    rw [fr_none (by simp) h1] at e
    have h0 : H a = none := by
      cases h0 : H a with
      | none => rfl
      | some y => rw [s1 _ _ h0] at h1; cases h1
    rw [fr_none (ne e) h0]
    exact s4 _ _ e
theorem xd_one {K : PySem.W.Frag} {H : Hp} {dx : Option Addr} {s : Str} (h : XOk K H dx [("name", .str s)]) : ∃ a, dx = some a ∧ H a = some (.xd [("name", .str s)]) := by
  obtain ⟨a, us, e1, e2, e3, e4⟩ := h
  refine ⟨a, e1, ?_⟩
  cases us with
  | nil => cases e3
  | cons u r => cases r with
    | nil =>
      obtain ⟨u1, u2⟩ := u
      have e5 : u1 = ("name" : Str) := (List.cons.inj e3).1
      subst e5
      cases e4 with
      | cons r1 r2 => cases r1; exact e2
    | cons _ _ => exact absurd (List.cons.inj e3).2 nofun
/-- what row_set does of such names, told at a heap -/
theorem row_sp {K : PySem.W.Frag} {F H1 : Hp} {d : Da} {ss : List Str} {v1 : V} {Q2 : VK} {E2 : XK} (hF : Same F H1) (ra : Rep K F d v1) (hd : isNm d ss) (hz : ss.length < 64) (hl : ∀ s ∈ ss, s.length < 10000)
    (x0 : ss = [] → ∀ H3, Same H1 H3 → E2 (.ref (He.ga K "NoRows")) none H3) (x1 : ∀ s, fbad ss = some s → ∀ a H3, Same H1 H3 → H3 a = some (.xd [("name", .str s)]) → E2 (.ref (He.ga K "BadName")) (some a) H3)
    (x2 : ∀ s, fbad ss = none → ftw ss = some s → ∀ a H3, Same H1 H3 → H3 a = some (.xd [("name", .str s)]) → E2 (.ref (He.ga K "RowTwice")) (some a) H3)
    (q : ss ≠ [] → fbad ss = none → ftw ss = none → ∀ v H3, Same H1 H3 → Rep K (fr ⟨F, H1, []⟩ [] H3) (.tup ((srtN ss).map Da.str)) v → Q2 v H3) : SpD K (R_row_set K) [v1] H1 Q2 E2 := by
  refine ⟨F, [d], fun k x => k = .fz ∧ x = .tup ((srtN ss).map Da.str) ∧ ss ≠ [] ∧ fbad ss = none ∧ ftw ss = none,
    fun C fs => (ss = [] ∧ C = He.ga K "NoRows" ∧ fs = []) ∨ (∃ s, fbad ss = some s ∧ C = He.ga K "BadName" ∧ fs = [(("name" : Str), Da.str s)]) ∨ ∃ s, fbad ss = none ∧ ftw ss = some s ∧ C = He.ga K "RowTwice" ∧ fs = [(("name" : Str), Da.str s)], hF, .cons ra .nil,
    ⟨d, ss, rfl, hd, hz, hl, fun h => .inl ⟨h, rfl, rfl⟩, fun s h => .inr (.inl ⟨s, h, rfl, rfl⟩), fun s h g => .inr (.inr ⟨s, h, g, rfl, rfl⟩), fun h1 h2 h3 => ⟨rfl, rfl, h1, h2, h3⟩⟩, ?_, ?_⟩
  · rintro k x v H3 s3 rv ⟨rfl, rfl, h1, h2, h3⟩
    exact q h1 h2 h3 v H3 s3 rv
  · rintro C fs dx H3 s3 hx (⟨h, rfl, rfl⟩ | ⟨s, h, rfl, rfl⟩ | ⟨s, h, g, rfl, rfl⟩)
    · have hx : dx = none := hx
      subst hx
      exact x0 h H3 s3
    · obtain ⟨a, rfl, ha⟩ := xd_one hx
      exact x1 s h a H3 s3 ha
    · obtain ⟨a, rfl, ha⟩ := xd_one hx
      exact x2 s h g a H3 s3 ha
theorem asked_end {K : PySem.W.Frag} {F H H5 H6 : Hp} {Pq : Pd} {Q : VK} {p3 p4 : Addr} {k : Nat} {v : V} (hQ : ∀ k d v H', Same H H' → RepV K ⟨F, H, []⟩ [] H H' k d v → Pq k d → Q v H') (s5 : Same H H5) (s6 : Same H5 H6) (n3 : H p3 = none) (e3 : H5 p3 = some (.lst [.int (k : Int)])) (n4 : H5 p4 = none)
    (e4 : H6 p4 = some (.lst [.ref p3, v])) (q : ∃ x, Rep K (fr ⟨F, H, []⟩ [p4] H6) x v ∧ Pq .nw (.lst [.lst [.int (k : Int)], x])) : Q (.ref p4) H6 := by
  obtain ⟨x, rx, q⟩ := q
  have ne : p3 ∉ [p4] := fun m => by rw [List.mem_singleton.mp m, n4] at e3; cases e3
  exact hQ .nw _ (.ref p4) H6 (s5.trans s6) ⟨p4, _, rfl, same_none s5 n4, e4, .lst (.cons (.lst ((fr_none ne n3).trans (s6 _ _ e3)) (.cons (.int _) .nil)) (.cons rx .nil))⟩ q
theorem asked_end0 {K : PySem.W.Frag} {F H H5 H6 : Hp} {Pq : Pd} {Q : VK} {p3 p4 : Addr} {v : V} (hQ : ∀ k d v H', Same H H' → RepV K ⟨F, H, []⟩ [] H H' k d v → Pq k d → Q v H') (s5 : Same H H5) (s6 : Same H5 H6) (n3 : H p3 = none) (e3 : H5 p3 = some (.lst [])) (n4 : H5 p4 = none)
    (e4 : H6 p4 = some (.lst [.ref p3, v])) (q : ∃ x, Rep K (fr ⟨F, H, []⟩ [p4] H6) x v ∧ Pq .nw (.lst [.lst [], x])) : Q (.ref p4) H6 := by
  obtain ⟨x, rx, q⟩ := q
  have ne : p3 ∉ [p4] := fun m => by rw [List.mem_singleton.mp m, n4] at e3; cases e3
  exact hQ .nw _ (.ref p4) H6 (s5.trans s6) ⟨p4, _, rfl, same_none s5 n4, e4, .lst (.cons (.lst ((fr_none ne n3).trans (s6 _ _ e3)) .nil) (.cons rx .nil))⟩ q
def t_ask (K : PySem.W.Frag) (W : WX) : TS := tRet (tLstA (tCons (tLstA tNil) (tCons (tCallS (SpD K (R_row_set K)) (WE W) (tCons (tVar 0) tNil)) tNil)))
def t_as0 (K : PySem.W.Frag) (a : Addr) (cls : Value) (d : Option Addr) : TS := tRet (tLstA (tCons (tCallY cls (fun D => spK K D d a) (tCons (tVar 1) tNil)) (tCons (tC .non) tNil)))
def t_asX (K : PySem.W.Frag) (X : Str) (a : Addr) (cls : Value) (d : Option Addr) : TS := tRet (tLstA (tCons (tCallY cls (fun D => spK K D d a) (tCons (tVar 1) tNil)) (tCons (tXf a cls d (He.ga K X) "name" (tVar 1)) tNil)))
def R__law_asked (K : PySem.W.Frag) : SpR := fun ds Pq _ => ∃ (d : Da) (ss : List Str), ds = [d] ∧ isNm d ss ∧ ss.length < 64 ∧ (∀ s ∈ ss, s.length < 10000) ∧ Pq .nw (dueD ss)
theorem sc__law_asked : FnScope ["names", "e"] ["names"] (defScope (top 48)) := ⟨rfl, rfl, rfl, by decide +kernel, rfl, by decide +kernel, by decide +kernel⟩
theorem d__law_asked {P : Program} {w : World} {K : PySem.W.Frag} {mg : Str → Option Value} {base : Heap} (T : Tx K mg) : Def P w K mg base "_law_asked" 5 ["names"] (SpD K (R__law_asked K)) := by
  refine Def.of T.at__law_asked sc__law_asked (fun _ _ _ _ _ _ us hl => match us, hl with | [_], _ => rfl) (fun vs H Q E h => by (obtain ⟨_, _, _, _, _, h2, h, _⟩ := h; rw [← h2.len]; obtain ⟨_, _, rfl, _⟩ := h; rfl)) (fun f cdv A outer s H vs Q E hr h => ?_)
  refine ⟨_, PSs.nox (pss_one (JPX.ps_try_all (n := "e") (i := 1) (tb := t_ask K) (l := [(.ref (He.ga K "NoRows"), t_as0 K), (.ref (He.ga K "BadName"), t_asX K "BadName"), (.ref (He.ga K "RowTwice"), t_asX K "RowTwice")]) rfl rfl sc__law_asked.nd rfl rfl (fun W pn xe tk _ => (by exact (pss_one (ps_ret (pe_lstA (pa_cons (pe_lstA pa_nil) (pa_cons (pe_defS (d_row_set T) (hr.mono (by decide)) (by rfl) tk (pa_cons (pv 0) pa_nil)) pa_nil))))))) (.cons ⟨by rfl, by decide, .inl T.g_NoRows⟩ (fun a oe cls d pn hz hf => (by exact (pss_one (ps_ret (pe_lstA (pa_cons (pe_defY (dy__law_kinds T) (room_suite (hr.mono (by decide))) List.mem_cons_self (hot_suite hz hf) hz.zc (by rfl) (pa_cons (pv 1) pa_nil)) (pa_cons pe_non pa_nil))))))) (.cons ⟨by rfl, by decide, .inl T.g_BadName⟩ (fun a oe cls d pn hz hf => (by exact (pss_one (ps_ret (pe_lstA (pa_cons (pe_defY (dy__law_kinds T) (room_suite (hr.mono (by decide))) List.mem_cons_self (hot_suite hz hf) hz.zc (by rfl) (pa_cons (pv 1) pa_nil)) (pa_cons (pe_xf T.xf_BadName T.no_BadName_name hz.zc hf (pv 1)) pa_nil))))))) (.cons ⟨by rfl, by decide, .inl T.g_RowTwice⟩ (fun a oe cls d pn hz hf => (by exact (pss_one (ps_ret (pe_lstA (pa_cons (pe_defY (dy__law_kinds T) (room_suite (hr.mono (by decide))) List.mem_cons_self (hot_suite hz hf) hz.zc (by rfl) (pa_cons (pv 1) pa_nil)) (pa_cons (pe_xf T.xf_RowTwice T.no_RowTwice_name hz.zc hf (pv 1)) pa_nil))))))) .nil))))), ?_⟩
  obtain ⟨F, ds, Pq, Xq, hF, ha, h, hQ, hE⟩ := h
  obtain ⟨d, ss, rfl, hd, hz, hl, q⟩ := h
  cases ha with
  | @cons _ _ v1 _ ra ha =>
    cases ha
    walk_at "w0"
    walk_at "w"
    unfold t_ask
    walk_at "w"
    refine ⟨by walk_at "sz", fun p1 H1 n1 s1 e1 => ?_⟩
    walk_at "w"
    refine w_callS ?_
    walk_at "w"
    have tt := hF.trans s1
    refine row_sp tt ra hd hz hl (fun h0 H3 s3 => ?_) (fun s hb a H3 s3 ha => ?_) (fun s hb ht a H3 s3 ha => ?_) (fun h0 hb ht v H3 s3 rv => ?_)
    · refine ⟨true, T.em_NoRows_NoRows, fun _ a na => ?_, fun z => Bool.noConfusion z⟩
      unfold t_as0
      walk_at "w"
      refine w_callY ?_
      walk_at "w"
      refine ⟨_, rfl, rfl, nofun, 3, kn_NoRows T, fun p3 H5 s5 e5 n5 => ?_⟩
      walk_at "w"
      refine ⟨by walk_at "sz", fun p4 H6 n6 s6 e6 => ?_⟩
      refine asked_end hQ (s1.trans (s3.trans s5)) s6 (same_none (s1.trans s3) e5) n5 n6 e6 ?_
      rw [h0, dueD_nil] at q
      exact ⟨_, .non, q⟩
    · refine ⟨false, T.em_BadName_NoRows, fun z => Bool.noConfusion z, fun _ => ⟨true, T.em_BadName_BadName, fun _ a2 na => ?_, fun z => Bool.noConfusion z⟩⟩
      unfold t_asX
      walk_at "w"
      refine w_callY ?_
      walk_at "w"
      refine ⟨_, rfl, rfl, fun x hx => ⟨_, by cases hx; exact ha⟩, 4, kn_BadName T, fun p3 H5 s5 e5 n5 => ?_⟩
      walk_at "w"
      refine w_xf ?_
      walk_at "w"
      refine ⟨rfl, rfl, a, _, .str s, rfl, s5 _ _ ha, rfl, ?_⟩
      walk_at "w"
      refine ⟨by walk_at "sz", fun p4 H6 n6 s6 e6 => ?_⟩
      refine asked_end hQ (s1.trans (s3.trans s5)) s6 (same_none (s1.trans s3) e5) n5 n6 e6 ?_
      rw [dueD_bad hb] at q
      exact ⟨_, .str s, q⟩
    · refine ⟨false, T.em_RowTwice_NoRows, fun z => Bool.noConfusion z, fun _ => ⟨false, T.em_RowTwice_BadName, fun z => Bool.noConfusion z, fun _ => ⟨true, T.em_RowTwice_RowTwice, fun _ a2 na => ?_, fun z => Bool.noConfusion z⟩⟩⟩
      unfold t_asX
      walk_at "w"
      refine w_callY ?_
      walk_at "w"
      refine ⟨_, rfl, rfl, fun x hx => ⟨_, by cases hx; exact ha⟩, 5, kn_RowTwice T, fun p3 H5 s5 e5 n5 => ?_⟩
      walk_at "w"
      refine w_xf ?_
      walk_at "w"
      refine ⟨rfl, rfl, a, _, .str s, rfl, s5 _ _ ha, rfl, ?_⟩
      walk_at "w"
      refine ⟨by walk_at "sz", fun p4 H6 n6 s6 e6 => ?_⟩
      refine asked_end hQ (s1.trans (s3.trans s5)) s6 (same_none (s1.trans s3) e5) n5 n6 e6 ?_
      rw [dueD_tw hb ht] at q
      exact ⟨_, .str s, q⟩
    · walk_at "w"
      refine ⟨by walk_at "sz", fun p4 H6 n6 s6 e6 => ?_⟩
      rw [dueD_ok h0 hb ht] at q
      exact asked_end0 hQ (s1.trans s3) s6 n1 (s3 _ _ e1) n6 e6 ⟨_, Rep.mono (fr_back hF s1 s3 n6 s6) rv, q⟩
end JP
set_option Elab.async false
set_option linter.all false
set_option maxRecDepth 100000
set_option maxHeartbeats 4000000
set_option pp.deepTerms false
set_option pp.deepTerms.threshold 6
set_option pp.maxSteps 1200
namespace JP
open PySem PySem.Spec PyProof.Rows L2 L2H JPX
local macro_rules | `(tactic| walk_at "w1") => `(tactic| first
  | with_reducible refine w_seq ?_
  | with_reducible refine w_asg ?_
  | with_reducible refine w_name ?_
  | with_reducible refine w_op ?_
  | ((with_reducible refine w_var ?v ?h ?q); (case h => exact rfl))
  | with_reducible refine w_c ?_
  | with_reducible refine w_ret ?_
  | with_reducible refine w_if ?_
  | with_reducible refine w_drop ?_
  | with_reducible refine w_next ?_
  | with_reducible refine w_un ?_
  | with_reducible refine w_p18 ?_
  | with_reducible refine w_p30 ?_
  | with_reducible refine w_p6 ?_
  | with_reducible refine w_p9 ?_
  | with_reducible refine w_p12 ?_
  | with_reducible refine w_p15 ?_
  | with_reducible refine w_p24 ?_
  | with_reducible refine w_slice ?_
  | with_reducible refine w_part ?_
  | with_reducible refine w_nopart ?_
  | with_reducible refine w_ei ?_
  | with_reducible refine w_for ?_
  | with_reducible refine w_rng1 ?_
  | with_reducible refine w_rng2 ?_
  | with_reducible refine w_iseq ?_
  | ((with_reducible refine w_I ?c ?q); (case c => walk_at "side"))
  | ((with_reducible refine w_len ?xs ?h ?q); (case h => walk_at "tr"))
  | with_reducible refine w_cb ?_
  | with_reducible refine w_cons ?_
  | with_reducible refine w_nil ?_
  | with_reducible refine w_test ?_
  | with_reducible refine w_B ?_
  | with_reducible refine w_bl ?_
  | with_reducible refine w_and ?_
  | with_reducible refine w_or ?_
  | with_reducible refine w_not ?_
  | with_reducible refine w_andV ?_
  | with_reducible refine w_orV ?_
  | with_reducible refine w_notV ?_
  | with_reducible refine w_ifE ?_
  | with_reducible refine w_call ?_
  | with_reducible refine w_bm ?_
  | ((with_reducible refine w_tyl ?xs ?h ?q); (case h => assumption))
  | with_reducible refine w_bm0 ?_
  | with_reducible refine w_bits ?_
  | with_reducible refine w_tup ?_
  | with_reducible refine w_lst ?_
  | with_reducible refine w_I0 ?_
  | with_reducible refine w_U ?_
  | with_reducible refine w_add ?_
  | with_reducible refine w_eqI ?_
  | with_reducible refine w_neI ?_
  | with_reducible refine w_eqS ?_
  | with_reducible refine w_neS ?_
  | with_reducible refine w_int ?_
  | with_reducible refine w_abs ?_
  | with_reducible refine w_gcd ?_
  | walk_at "w2")
local macro_rules | `(tactic| walk_at "w2") => `(tactic| fail)
local macro_rules | `(tactic| walk_at "rd") => `(tactic| first | with_reducible assumption | ((with_reducible refine Rd.of ?_); walk_at "tr"))
local macro_rules | `(tactic| walk_at "w") => `(tactic| repeat (walk_at "w1"))
local macro_rules | `(tactic| walk_at "w0") => `(tactic| simp only [cxOf_K, L2.start, List.map_cons, List.map_nil, List.length_cons, List.length_nil, Nat.reduceAdd, Nat.reduceSub, List.replicate_succ, List.replicate_zero, List.cons_append, List.nil_append])
local macro_rules | `(tactic| walk_at "side") => `(tactic| first | assumption | (exact small_div (by omega) (by omega)) | (exact small_mul (by omega) (by omega)) | (exact med_mul (by omega) (by omega)) | (exact big_mul (by omega) (by omega)) | (exact ⟨by decide, by decide, by decide⟩) | (show (0 : Int) < _; omega))
local macro_rules | `(tactic| walk_at "ch") => `(tactic| first
  | with_reducible assumption
  | with_reducible exact Same.refl _
  | ((with_reducible refine tr_at ?H ?e ?h); (case e => with_reducible assumption); (case h => walk_at "ch"))
  | ((with_reducible refine tr_st ?H ?e ?h); (case e => with_reducible assumption); (case h => walk_at "ch"))
  | ((with_reducible refine tr_sl ?H ?e ?h); (case e => with_reducible assumption); (case h => walk_at "ch"))
  | ((with_reducible refine tr_same ?H ?e ?h); (case e => with_reducible assumption); (case h => walk_at "ch"))
  | ((with_reducible refine tr_sq ?H ?e ?h); (case e => with_reducible assumption); (case h => walk_at "ch"))
  | ((with_reducible refine tr_dp ?H ?e ?h); (case e => with_reducible assumption); (case h => walk_at "ch"))
  | walk_at "tr2")
local macro_rules | `(tactic| walk_at "tr") => `(tactic| first
  | walk_at "ch"
  | ((with_reducible refine tr_eq ?u ?h ?e); (case h => walk_at "ch"); (case e => rfl))
  | ((with_reducible refine tr_eqt ?u ?h ?e); (case h => walk_at "ch"); (case e => rfl))
  | ((with_reducible refine tr_eql ?u ?h ?e); (case h => walk_at "ch"); (case e => rfl))
  | ((with_reducible refine SqT.of ?_); first | walk_at "ch" | ((with_reducible refine tr_eq ?u ?h ?e); (case h => walk_at "ch"); (case e => rfl)))
  | ((with_reducible refine SqL.of ?_); first | walk_at "ch" | ((with_reducible refine tr_eq ?u ?h ?e); (case h => walk_at "ch"); (case e => rfl)))
  | ((with_reducible refine sq_l ?_); walk_at "tr")
  | ((with_reducible refine sq_t ?_); walk_at "tr"))
local macro_rules | `(tactic| walk_at "tr2") => `(tactic| fail)
local macro_rules | `(tactic| walk_at "sz") => `(tactic| (simp only [List.length_cons, List.length_nil, List.length_append, List.length_map]; decide))
local macro_rules | `(tactic| walk_at "g") => `(tactic| repeat (first
  | (with_reducible refine g_cons ?_)
  | (with_reducible refine g_nil ?_)
  | (with_reducible refine w_name ?_)))
local macro_rules | `(tactic| walk_at "nb") => `(tactic| first | with_reducible exact fz_bw | with_reducible exact nw_bw | with_reducible exact ow_bw)
local macro_rules | `(tactic| walk_at "kd") => `(tactic| first | with_reducible exact Or.inl rfl | with_reducible exact Or.inr rfl)
local macro_rules | `(tactic| walk_at "af") => `(tactic| repeat (first | with_reducible exact allF_nil | ((with_reducible refine allF_cons ?h ?_); (case h => walk_at "kd"))))
local macro_rules | `(tactic| walk_at "sz") => `(tactic| (simp only [List.length_cons, List.length_nil, List.length_append, List.length_map, List.length_range]; decide))
local macro_rules | `(tactic| walk_at "side") => `(tactic| first | assumption | (exact small_div (by omega) (by omega)) | (exact small_mul (by omega) (by omega)) | (exact med_mul (by omega) (by omega)) | (exact big_mul (by omega) (by omega)) | (exact ⟨by decide, by decide, by decide⟩) | (show (0 : Int) < _; omega))
local macro_rules | `(tactic| walk_at "d0") => `(tactic| simp only [cxOf_K, List.map_cons, List.map_nil, List.length_cons, List.length_nil, Nat.reduceAdd, Nat.reduceSub, List.replicate_succ, List.replicate_zero, List.cons_append, List.nil_append])
local macro_rules | `(tactic| walk_at "ds") => `(tactic| try dsimp only [wipeE, List.set_cons_zero, List.set_cons_succ])
local macro_rules | `(tactic| walk_at "dm") => `(tactic| dsimp only [List.map])
local macro_rules | `(tactic| walk_at "dS") => `(tactic| first
  | with_reducible refine sd_seq ?_
  | with_reducible refine sd_next ?_
  | ((with_reducible refine sd_own ?h ?q); (case h => exact rfl))
  | ((with_reducible refine sd_setI (ds := ?ds) ?e ?q); (case e => exact rfl))
  | with_reducible refine sd_asg ?_
  | with_reducible refine sd_if ?_
  | with_reducible refine sd_ret ?_
  | with_reducible refine sd_new ?_
  | ((with_reducible refine sd_app (ds := ?ds) ?e ?q); (case e => exact rfl))
  | ((with_reducible refine sd_dput (kvs := ?kvs) ?e ?q); (case e => exact rfl))
  | ((with_reducible refine sd_mputT (kvs := ?kvs) ?e ?q); (case e => exact rfl))
  | with_reducible refine sd_drop ?_
  | with_reducible refine sd_ret0 ?_
  | with_reducible refine sd_for ?_
  | with_reducible refine sd_for1 ?_
  | with_reducible refine sd_for2 ?_
  | with_reducible refine sd_for3 ?_
  | ((with_reducible refine sd_augI (a := ?a) ?e ?q); (case e => exact rfl))
  | with_reducible refine sd_brk ?_
  | with_reducible refine sd_cont ?_)
local macro_rules | `(tactic| walk_at "dE") => `(tactic| first
  | ((with_reducible refine ev_var (d := ?d) ?e ?q); (case e => exact rfl))
  | ((with_reducible refine ev_own (d := ?d) ?e ?q); (case e => exact rfl))
  | with_reducible refine ev_int ?_
  | with_reducible refine ev_op ?_
  | with_reducible refine ev_cb ?_
  | ((with_reducible refine ev_call ?l ?q); (case l => assumption))
  | with_reducible refine ev_tup ?_
  | with_reducible refine ev_lst ?_
  | with_reducible refine ev_un ?_
  | with_reducible refine ev_bl ?_
  | with_reducible refine ev_non ?_
  | with_reducible refine ev_str ?_
  | with_reducible refine ev_ty ?_
  | with_reducible refine ev_ref ?_
  | with_reducible refine ev_if ?_
  | with_reducible refine ev_not ?_
  | with_reducible refine ev_notT ?_
  | with_reducible refine ev_and ?_
  | with_reducible refine ev_or ?_
  | with_reducible refine ev_chain ?_
  | with_reducible refine ev_bits ?_
  | with_reducible refine ev_dget ?_
  | with_reducible refine ev_dget2 ?_
  | with_reducible refine ev_mgT ?_
  | with_reducible refine ev_mg2T ?_
  | with_reducible refine ev_dnewT ?_
  | with_reducible refine ev_slT ?_
  | with_reducible refine ev_slS ?_
  | with_reducible refine ev_join ?_
  | with_reducible refine ev_dnew ?_
  | with_reducible refine ev_slL ?_
  | with_reducible refine ev_disp1 ?_
  | with_reducible refine ev_dispT ?_)
local macro_rules | `(tactic| walk_at "dO") => `(tactic| first
  | with_reducible refine op2_addI ?_
  | with_reducible refine op2_I0 ?_
  | ((with_reducible refine op2_addL ?a ?b ?z ?q); (case a => walk_at "nb"); (case b => walk_at "nb"); (case z => first | walk_at "sz" | exact size_le (by simp only [List.length_cons, List.length_nil, List.length_append, List.length_map, List.length_range, List.length_take, List.length_drop]; omega)))
  | with_reducible refine op2_B0 ?_
  | ((with_reducible refine op2_ix (ds := ?ds) (d := ?d) ?e ?a ?k ?q); (case e => exact rfl); (case a => exact rfl); (case k => walk_at "nb"))
  | with_reducible refine op2_eqI ?_
  | with_reducible refine op2_neI ?_
  | with_reducible refine op2_p18 ?_
  | with_reducible refine op2_p9 ?_
  | with_reducible refine op2_p6 ?_
  | with_reducible refine op2_p30 ?_
  | with_reducible refine op2_p12 ?_
  | with_reducible refine op2_p15 ?_
  | with_reducible refine op2_p24 ?_
  | with_reducible refine op2_p20 ?_
  | with_reducible refine op2_p2 ?_
  | with_reducible refine op2_p3 ?_
  | with_reducible refine op2_p4 ?_
  | with_reducible refine op2_p5 ?_
  | ((with_reducible refine op2_I ?c ?q); (case c => walk_at "side"))
  | with_reducible refine op2_eqS ?_
  | with_reducible refine op2_neS ?_
  | with_reducible refine op2_eqB ?_
  | with_reducible refine op2_neB ?_
  | with_reducible refine op2_is ?_
  | with_reducible refine op2_isNot ?_)
local macro_rules | `(tactic| walk_at "dN") => `(tactic| first
  | with_reducible refine opn_int ?_
  | ((with_reducible refine opn_len (ds := ?ds) ?e ?q); (case e => exact rfl))
  | with_reducible refine opn_lenD ?_
  | ((with_reducible refine opn_lenT ?l ?q); (case l => assumption))
  | with_reducible refine opn_intB ?_
  | with_reducible refine opn_abs ?_
  | with_reducible refine opn_gcd ?_
  | ((with_reducible refine opn_list (ds := ?ds) ?e ?k ?q); (case e => exact rfl); (case k => walk_at "nb"))
  | ((with_reducible refine opn_tuple (ds := ?ds) ?e ?k ?s ?q); (case e => exact rfl); (case k => walk_at "nb"); (case s => exact (fun _ => nofun)))
  | ((with_reducible refine opn_isi true ?n ?c ?e ?q); (case e => exact rfl); (case n => exact rfl); (case c => exact rfl))
  | ((with_reducible refine opn_isi false ?n ?c ?e ?q); (case e => exact rfl); (case n => exact rfl); (case c => exact rfl)))
local macro_rules | `(tactic| walk_at "dT") => `(tactic| first
  | with_reducible refine tt_test ?_
  | with_reducible refine tt_B ?_
  | with_reducible refine tt_and ?_
  | with_reducible refine tt_or ?_
  | with_reducible refine tt_not ?_
  | with_reducible refine tt_yes ?_
  | with_reducible refine tt_tru ?_)
local macro_rules | `(tactic| walk_at "dG") => `(tactic| first
  | ((with_reducible refine gt_name ?k ?q); (case k => walk_at "kd"); (walk_at "ds"))
  | ((with_reducible refine gn_name ?_); (walk_at "ds"))
  | ((with_reducible refine gn_tup (ds := ?ds) ?e ?n ?q); (case e => exact rfl); (case n => exact rfl))
  | ((with_reducible refine gt_tup (ds := ?ds) ?e ?n ?k ?q); (case e => exact rfl); (case n => exact rfl); (case k => walk_at "nb"))
  | ((with_reducible refine gta_name ?_); (walk_at "ds"))
  | ((with_reducible refine gta_tup (es := ?es) ?e ?n ?q); (case e => exact rfl); (case n => exact rfl))
  | with_reducible refine gta_nil ?_)
local macro_rules | `(tactic| walk_at "d1") => `(tactic| first
  | ((with_reducible show Ev _ _ _ _ _); walk_at "dE")
  | ((with_reducible show EvA _ _ _ _ _); first | with_reducible refine eva_cons ?_ | with_reducible refine eva_nil ?_)
  | ((with_reducible show Op2 _ _ _ _ _ _); walk_at "dO")
  | ((with_reducible show Sd _ _ _ _ _); walk_at "dS")
  | ((with_reducible show Gt _ _ _ _ _ _ _); walk_at "dG")
  | ((with_reducible show Tt _ _ _ _ _); walk_at "dT")
  | ((with_reducible show OpN _ _ _ _ _); walk_at "dN")
  | with_reducible refine bl_i ?_
  | with_reducible refine eq_int ?_
  | ((with_reducible refine lct_yes ?_); (try dsimp only [wipeE, List.set_cons_zero, List.set_cons_succ]))
  | ((with_reducible refine lct_g ?_); (try dsimp only [wipeE, List.set_cons_zero, List.set_cons_succ]))
  | with_reducible refine pt_no ?_
  | with_reducible refine pt_some ?_
  | with_reducible refine ls_fz ?_
  | with_reducible refine ls_ow ?_
  | with_reducible refine ls_nw ?_
  | with_reducible refine ls_s ?_
  | with_reducible refine dk_fz ?_
  | with_reducible refine dk_ow ?_
  | with_reducible refine dk_nw ?_
  | with_reducible refine key_i ?_
  | with_reducible refine key_s ?_
  | with_reducible refine dt_fz ?_
  | with_reducible refine dt_ow ?_
  | with_reducible refine dt_nw ?_
  | with_reducible refine tk_fz ?_
  | with_reducible refine tp_fz ?_
  | with_reducible refine st_i ?_
  | ((with_reducible show Gn _ _ _ _ _ _); walk_at "dG")
  | ((with_reducible show GtA _ _ _ _ _ _); walk_at "dG")
  | ((with_reducible show Op1 _ _ _ _ _); with_reducible refine op1_U ?_)
  | ((with_reducible show (_ = Kd.fz ∨ _) ∧ _); (with_reducible refine ⟨?f, ?q⟩); (case f => walk_at "kd"))
  | ((with_reducible show (_ = Kd.nw ∨ _) ∧ _); (with_reducible refine ⟨?f, ?q⟩); (case f => walk_at "kd"))
  | ((with_reducible show (allF _) ∧ _); (with_reducible refine ⟨?f, ?q⟩); (case f => walk_at "af"); (try walk_at "dm"))
  | ((with_reducible show (_ ≤ sizeLine) ∧ _); (with_reducible refine ⟨?z, ?q⟩); (case z => first | walk_at "sz" | exact size_le (by omega)))
  | ((with_reducible show (_ = Kd.nw) ∧ _); (with_reducible refine ⟨rfl, ?q⟩); (try walk_at "ds"))
  | ((with_reducible show (_ ≠ Kd.bw) ∧ _); (with_reducible refine ⟨?f, ?q⟩); (case f => walk_at "nb"))
  | ((with_reducible show (Da.truOk _ _) ∧ _); (with_reducible refine ⟨?f, ?q⟩); (case f => first | exact trivial | assumption))
  | with_reducible refine iff_t rfl ?_
  | with_reducible refine iff_f rfl ?_)
local macro_rules | `(tactic| walk_at "d") => `(tactic| repeat (walk_at "d1"))
local macro_rules | `(tactic| walk_at "dE") => `(tactic| first
  | with_reducible refine ev_mk0 ?_
  | with_reducible refine ev_mkV ?_
  | with_reducible refine ev_xv ?_)
local macro_rules | `(tactic| walk_at "d1") => `(tactic| first
  | with_reducible refine xc_i ?_
  | with_reducible refine mkv_i rfl (by decide) ?_
  | ((with_reducible show (_ = Kd.fz) ∧ _); (with_reducible refine ⟨rfl, ?_⟩)))
def t_cau (K : PySem.W.Frag) (W : WX) : TS := tDrop (tCallS (SpD K (R_row_set K)) (WE W) (tCons (tVar 0) tNil))
def t_caX (K : PySem.W.Frag) (a : Addr) (cls : Value) (d : Option Addr) : TS := tRet (tCallY cls (fun D => spK K D d a) (tCons (tVar 1) tNil))
theorem dueK_bad {ss : List Str} {s : Str} (h : fbad ss = some s) : dueK ss = [.int 4] := by
  have hs : ss ≠ [] := fun z => by rw [z] at h; cases h
  unfold dueK
  rw [if_neg hs, h]
theorem dueK_tw {ss : List Str} {s : Str} (h : fbad ss = none) (g : ftw ss = some s) : dueK ss = [.int 5] := by
  have hs : ss ≠ [] := fun z => by rw [z] at g; cases g
  unfold dueK
  rw [if_neg hs, h, g]
theorem dueK_ok {ss : List Str} (hs : ss ≠ []) (h : fbad ss = none) (g : ftw ss = none) : dueK ss = [] := by
  unfold dueK
  rw [if_neg hs, h, g]
def R__law_caught (K : PySem.W.Frag) : SpR := fun ds Pq _ => ∃ (d : Da) (ss : List Str), ds = [d] ∧ isNm d ss ∧ ss.length < 64 ∧ (∀ s ∈ ss, s.length < 10000) ∧ Pq .nw (.lst (dueK ss))
theorem sc__law_caught : FnScope ["names", "e"] ["names"] (defScope (top 49)) := ⟨rfl, rfl, rfl, by decide +kernel, rfl, by decide +kernel, by decide +kernel⟩
theorem d__law_caught {P : Program} {w : World} {K : PySem.W.Frag} {mg : Str → Option Value} {base : Heap} (T : Tx K mg) : Def P w K mg base "_law_caught" 5 ["names"] (SpD K (R__law_caught K)) := by
  refine Def.of T.at__law_caught sc__law_caught (fun _ _ _ _ _ _ us hl => match us, hl with | [_], _ => rfl) (fun vs H Q E h => by (obtain ⟨_, _, _, _, _, h2, h, _⟩ := h; rw [← h2.len]; obtain ⟨_, _, rfl, _⟩ := h; rfl)) (fun f cdv A outer s H vs Q E hr h => ?_)
  refine ⟨_, PSs.nox (pss_cons (JPX.ps_try_all (n := "e") (i := 1) (tb := t_cau K) (l := [(.ref (He.ga K "RowError"), t_caX K)]) rfl rfl sc__law_caught.nd rfl rfl (fun W pn xe tk _ => (by exact (pss_one (ps_expr (pe_defS (d_row_set T) (hr.mono (by decide)) (by rfl) tk (pa_cons (pv 0) pa_nil)))))) (.cons ⟨by rfl, by decide, .inl T.g_RowError⟩ (fun a oe cls d pn hz hf => (by exact (pss_one (ps_ret (pe_defY (dy__law_kinds T) (room_suite (hr.mono (by decide))) List.mem_cons_self (hot_suite hz hf) hz.zc (by rfl) (pa_cons (pv 1) pa_nil)))))) .nil))
      (pss_one (ps_ret (pe_lstA pa_nil)))), ?_⟩
  obtain ⟨F, ds, Pq, Xq, hF, ha, h, hQ, hE⟩ := h
  obtain ⟨d, ss, rfl, hd, hz, hl, q⟩ := h
  cases ha with
  | @cons _ _ v1 _ ra ha =>
    cases ha
    have fin : ∀ {k : Nat} {p : Addr} {H5 : Hp}, dueK ss = [.int (k : Int)] → Same H H5 → H p = none → H5 p = some (.lst [.int (k : Int)]) → Q (.ref p) H5 := fun {k p H5} e s5 n5 e5 => by
      rw [e] at q
      exact hQ .nw _ (.ref p) H5 s5 ⟨p, _, rfl, n5, e5, .lst (.cons (.int _) .nil)⟩ q
    walk_at "w0"
    walk_at "w"
    unfold t_cau
    walk_at "w"
    refine w_callS ?_
    walk_at "w"
    refine row_sp hF ra hd hz hl (fun h0 H3 s3 => ?_) (fun s hb a H3 s3 ha => ?_) (fun s hb ht a H3 s3 ha => ?_) (fun h0 hb ht v H3 s3 rv => ?_)
    · refine ⟨true, T.em_NoRows_RowError, fun _ a na => ?_, fun z => Bool.noConfusion z⟩
      unfold t_caX
      walk_at "w"
      refine w_callY ?_
      walk_at "w"
      exact ⟨_, rfl, rfl, nofun, 3, kn_NoRows T, fun p3 H5 s5 e5 n5 => fin (k := 3) (by rw [h0]; rfl) (s3.trans s5) (same_none s3 e5) n5⟩
    · refine ⟨true, T.em_BadName_RowError, fun _ a2 na => ?_, fun z => Bool.noConfusion z⟩
      unfold t_caX
      walk_at "w"
      refine w_callY ?_
      walk_at "w"
      exact ⟨_, rfl, rfl, fun x hx => ⟨_, by cases hx; exact ha⟩, 4, kn_BadName T, fun p3 H5 s5 e5 n5 => fin (k := 4) (dueK_bad hb) (s3.trans s5) (same_none s3 e5) n5⟩
    · refine ⟨true, T.em_RowTwice_RowError, fun _ a2 na => ?_, fun z => Bool.noConfusion z⟩
      unfold t_caX
      walk_at "w"
      refine w_callY ?_
      walk_at "w"
      exact ⟨_, rfl, rfl, fun x hx => ⟨_, by cases hx; exact ha⟩, 5, kn_RowTwice T, fun p3 H5 s5 e5 n5 => fin (k := 5) (dueK_tw hb ht) (s3.trans s5) (same_none s3 e5) n5⟩
    · walk_at "w"
      refine ⟨by walk_at "sz", fun p4 H6 n6 s6 e6 => ?_⟩
      rw [dueK_ok h0 hb ht] at q
      exact hQ .nw _ (.ref p4) H6 (s3.trans s6) ⟨p4, _, rfl, same_none s3 n6, e6, .lst .nil⟩ q
end JP
set_option Elab.async false
set_option linter.all false
set_option maxRecDepth 100000
set_option maxHeartbeats 4000000
set_option pp.deepTerms false
set_option pp.deepTerms.threshold 6
set_option pp.maxSteps 1200
namespace JP
open PySem PySem.Spec PyProof.Rows L2 L2H JPX
local macro_rules | `(tactic| walk_at "nb") => `(tactic| first | with_reducible exact fz_bw | with_reducible exact nw_bw | with_reducible exact ow_bw)
local macro_rules | `(tactic| walk_at "kd") => `(tactic| first | with_reducible exact Or.inl rfl | with_reducible exact Or.inr rfl)
local macro_rules | `(tactic| walk_at "af") => `(tactic| repeat (first | with_reducible exact allF_nil | ((with_reducible refine allF_cons ?h ?_); (case h => walk_at "kd"))))
local macro_rules | `(tactic| walk_at "sz") => `(tactic| (simp only [List.length_cons, List.length_nil, List.length_append, List.length_map, List.length_range]; decide))
local macro_rules | `(tactic| walk_at "side") => `(tactic| first | assumption | (exact small_div (by omega) (by omega)) | (exact small_mul (by omega) (by omega)) | (exact med_mul (by omega) (by omega)) | (exact big_mul (by omega) (by omega)) | (exact ⟨by decide, by decide, by decide⟩) | (show (0 : Int) < _; omega))
local macro_rules | `(tactic| walk_at "d0") => `(tactic| simp only [cxOf_K, List.map_cons, List.map_nil, List.length_cons, List.length_nil, Nat.reduceAdd, Nat.reduceSub, List.replicate_succ, List.replicate_zero, List.cons_append, List.nil_append])
local macro_rules | `(tactic| walk_at "ds") => `(tactic| try dsimp only [wipeE, List.set_cons_zero, List.set_cons_succ])
local macro_rules | `(tactic| walk_at "dm") => `(tactic| dsimp only [List.map])
local macro_rules | `(tactic| walk_at "dS") => `(tactic| first
  | with_reducible refine sd_seq ?_
  | with_reducible refine sd_next ?_
  | ((with_reducible refine sd_own ?h ?q); (case h => exact rfl))
  | ((with_reducible refine sd_setI (ds := ?ds) ?e ?q); (case e => exact rfl))
  | with_reducible refine sd_asg ?_
  | with_reducible refine sd_if ?_
  | with_reducible refine sd_ret ?_
  | with_reducible refine sd_new ?_
  | ((with_reducible refine sd_app (ds := ?ds) ?e ?q); (case e => exact rfl))
  | ((with_reducible refine sd_dput (kvs := ?kvs) ?e ?q); (case e => exact rfl))
  | ((with_reducible refine sd_mputT (kvs := ?kvs) ?e ?q); (case e => exact rfl))
  | with_reducible refine sd_drop ?_
  | with_reducible refine sd_ret0 ?_
  | with_reducible refine sd_for ?_
  | with_reducible refine sd_for1 ?_
  | with_reducible refine sd_for2 ?_
  | with_reducible refine sd_for3 ?_
  | ((with_reducible refine sd_augI (a := ?a) ?e ?q); (case e => exact rfl))
  | with_reducible refine sd_brk ?_
  | with_reducible refine sd_cont ?_)
local macro_rules | `(tactic| walk_at "dE") => `(tactic| first
  | ((with_reducible refine ev_var (d := ?d) ?e ?q); (case e => exact rfl))
  | ((with_reducible refine ev_own (d := ?d) ?e ?q); (case e => exact rfl))
  | with_reducible refine ev_int ?_
  | with_reducible refine ev_op ?_
  | with_reducible refine ev_cb ?_
  | ((with_reducible refine ev_call ?l ?q); (case l => assumption))
  | with_reducible refine ev_tup ?_
  | with_reducible refine ev_lst ?_
  | with_reducible refine ev_un ?_
  | with_reducible refine ev_bl ?_
  | with_reducible refine ev_non ?_
  | with_reducible refine ev_str ?_
  | with_reducible refine ev_ty ?_
  | with_reducible refine ev_ref ?_
  | with_reducible refine ev_if ?_
  | with_reducible refine ev_not ?_
  | with_reducible refine ev_notT ?_
  | with_reducible refine ev_and ?_
  | with_reducible refine ev_or ?_
  | with_reducible refine ev_chain ?_
  | with_reducible refine ev_bits ?_
  | with_reducible refine ev_dget ?_
  | with_reducible refine ev_dget2 ?_
  | with_reducible refine ev_mgT ?_
  | with_reducible refine ev_mg2T ?_
  | with_reducible refine ev_dnewT ?_
  | with_reducible refine ev_slT ?_
  | with_reducible refine ev_slS ?_
  | with_reducible refine ev_join ?_
  | with_reducible refine ev_dnew ?_
  | with_reducible refine ev_slL ?_
  | with_reducible refine ev_disp1 ?_
  | with_reducible refine ev_dispT ?_)
local macro_rules | `(tactic| walk_at "dO") => `(tactic| first
  | with_reducible refine op2_addI ?_
  | with_reducible refine op2_I0 ?_
  | ((with_reducible refine op2_addL ?a ?b ?z ?q); (case a => walk_at "nb"); (case b => walk_at "nb"); (case z => first | walk_at "sz" | exact size_le (by simp only [List.length_cons, List.length_nil, List.length_append, List.length_map, List.length_range, List.length_take, List.length_drop]; omega)))
  | with_reducible refine op2_B0 ?_
  | ((with_reducible refine op2_ix (ds := ?ds) (d := ?d) ?e ?a ?k ?q); (case e => exact rfl); (case a => exact rfl); (case k => walk_at "nb"))
  | with_reducible refine op2_eqI ?_
  | with_reducible refine op2_neI ?_
  | with_reducible refine op2_p18 ?_
  | with_reducible refine op2_p9 ?_
  | with_reducible refine op2_p6 ?_
  | with_reducible refine op2_p30 ?_
  | with_reducible refine op2_p12 ?_
  | with_reducible refine op2_p15 ?_
  | with_reducible refine op2_p24 ?_
  | with_reducible refine op2_p20 ?_
  | with_reducible refine op2_p2 ?_
  | with_reducible refine op2_p3 ?_
  | with_reducible refine op2_p4 ?_
  | with_reducible refine op2_p5 ?_
  | ((with_reducible refine op2_I ?c ?q); (case c => walk_at "side"))
  | with_reducible refine op2_eqS ?_
  | with_reducible refine op2_neS ?_
  | with_reducible refine op2_eqB ?_
  | with_reducible refine op2_neB ?_
  | with_reducible refine op2_is ?_
  | with_reducible refine op2_isNot ?_)
local macro_rules | `(tactic| walk_at "dN") => `(tactic| first
  | with_reducible refine opn_int ?_
  | ((with_reducible refine opn_len (ds := ?ds) ?e ?q); (case e => exact rfl))
  | with_reducible refine opn_lenD ?_
  | ((with_reducible refine opn_lenT ?l ?q); (case l => assumption))
  | with_reducible refine opn_intB ?_
  | with_reducible refine opn_abs ?_
  | with_reducible refine opn_gcd ?_
  | ((with_reducible refine opn_list (ds := ?ds) ?e ?k ?q); (case e => exact rfl); (case k => walk_at "nb"))
  | ((with_reducible refine opn_tuple (ds := ?ds) ?e ?k ?s ?q); (case e => exact rfl); (case k => walk_at "nb"); (case s => exact (fun _ => nofun)))
  | ((with_reducible refine opn_isi true ?n ?c ?e ?q); (case e => exact rfl); (case n => exact rfl); (case c => exact rfl))
  | ((with_reducible refine opn_isi false ?n ?c ?e ?q); (case e => exact rfl); (case n => exact rfl); (case c => exact rfl)))
local macro_rules | `(tactic| walk_at "dT") => `(tactic| first
  | with_reducible refine tt_test ?_
  | with_reducible refine tt_B ?_
  | with_reducible refine tt_and ?_
  | with_reducible refine tt_or ?_
  | with_reducible refine tt_not ?_
  | with_reducible refine tt_yes ?_
  | with_reducible refine tt_tru ?_)
local macro_rules | `(tactic| walk_at "dG") => `(tactic| first
  | ((with_reducible refine gt_name ?k ?q); (case k => walk_at "kd"); (walk_at "ds"))
  | ((with_reducible refine gn_name ?_); (walk_at "ds"))
  | ((with_reducible refine gn_tup (ds := ?ds) ?e ?n ?q); (case e => exact rfl); (case n => exact rfl))
  | ((with_reducible refine gt_tup (ds := ?ds) ?e ?n ?k ?q); (case e => exact rfl); (case n => exact rfl); (case k => walk_at "nb"))
  | ((with_reducible refine gta_name ?_); (walk_at "ds"))
  | ((with_reducible refine gta_tup (es := ?es) ?e ?n ?q); (case e => exact rfl); (case n => exact rfl))
  | with_reducible refine gta_nil ?_)
local macro_rules | `(tactic| walk_at "d1") => `(tactic| first
  | ((with_reducible show Ev _ _ _ _ _); walk_at "dE")
  | ((with_reducible show EvA _ _ _ _ _); first | with_reducible refine eva_cons ?_ | with_reducible refine eva_nil ?_)
  | ((with_reducible show Op2 _ _ _ _ _ _); walk_at "dO")
  | ((with_reducible show Sd _ _ _ _ _); walk_at "dS")
  | ((with_reducible show Gt _ _ _ _ _ _ _); walk_at "dG")
  | ((with_reducible show Tt _ _ _ _ _); walk_at "dT")
  | ((with_reducible show OpN _ _ _ _ _); walk_at "dN")
  | with_reducible refine bl_i ?_
  | with_reducible refine eq_int ?_
  | ((with_reducible refine lct_yes ?_); (try dsimp only [wipeE, List.set_cons_zero, List.set_cons_succ]))
  | ((with_reducible refine lct_g ?_); (try dsimp only [wipeE, List.set_cons_zero, List.set_cons_succ]))
  | with_reducible refine pt_no ?_
  | with_reducible refine pt_some ?_
  | with_reducible refine ls_fz ?_
  | with_reducible refine ls_ow ?_
  | with_reducible refine ls_nw ?_
  | with_reducible refine ls_s ?_
  | with_reducible refine dk_fz ?_
  | with_reducible refine dk_ow ?_
  | with_reducible refine dk_nw ?_
  | with_reducible refine key_i ?_
  | with_reducible refine key_s ?_
  | with_reducible refine dt_fz ?_
  | with_reducible refine dt_ow ?_
  | with_reducible refine dt_nw ?_
  | with_reducible refine tk_fz ?_
  | with_reducible refine tp_fz ?_
  | with_reducible refine st_i ?_
  | ((with_reducible show Gn _ _ _ _ _ _); walk_at "dG")
  | ((with_reducible show GtA _ _ _ _ _ _); walk_at "dG")
  | ((with_reducible show Op1 _ _ _ _ _); with_reducible refine op1_U ?_)
  | ((with_reducible show (_ = Kd.fz ∨ _) ∧ _); (with_reducible refine ⟨?f, ?q⟩); (case f => walk_at "kd"))
  | ((with_reducible show (_ = Kd.nw ∨ _) ∧ _); (with_reducible refine ⟨?f, ?q⟩); (case f => walk_at "kd"))
  | ((with_reducible show (allF _) ∧ _); (with_reducible refine ⟨?f, ?q⟩); (case f => walk_at "af"); (try walk_at "dm"))
  | ((with_reducible show (_ ≤ sizeLine) ∧ _); (with_reducible refine ⟨?z, ?q⟩); (case z => first | walk_at "sz" | exact size_le (by omega)))
  | ((with_reducible show (_ = Kd.nw) ∧ _); (with_reducible refine ⟨rfl, ?q⟩); (try walk_at "ds"))
  | ((with_reducible show (_ ≠ Kd.bw) ∧ _); (with_reducible refine ⟨?f, ?q⟩); (case f => walk_at "nb"))
  | ((with_reducible show (Da.truOk _ _) ∧ _); (with_reducible refine ⟨?f, ?q⟩); (case f => first | exact trivial | assumption))
  | with_reducible refine iff_t rfl ?_
  | with_reducible refine iff_f rfl ?_)
local macro_rules | `(tactic| walk_at "d") => `(tactic| repeat (walk_at "d1"))
local macro_rules | `(tactic| walk_at "dE") => `(tactic| first
  | with_reducible refine ev_mk0 ?_
  | with_reducible refine ev_mkV ?_
  | with_reducible refine ev_xv ?_)
local macro_rules | `(tactic| walk_at "d1") => `(tactic| first
  | with_reducible refine xc_i ?_
  | with_reducible refine mkv_i rfl (by decide) ?_
  | ((with_reducible show (_ = Kd.fz) ∧ _); (with_reducible refine ⟨rfl, ?_⟩)))
theorem twA_none : ∀ {r acc : List Str}, twA acc r = none ↔ r.Nodup ∧ ∀ s ∈ r, s ∉ acc
  | [], acc => ⟨fun _ => ⟨List.nodup_nil, fun _ h => by cases h⟩, fun _ => rfl⟩
  | s :: r, acc => by
    show (if s ∈ acc then some s else twA (acc ++ [s]) r) = none ↔ _
    rw [List.nodup_cons]
    by_cases h : s ∈ acc
    · rw [if_pos h]
      constructor
      · intro z; cases z
      · intro z; exact absurd h (z.2 s List.mem_cons_self)
    · rw [if_neg h, twA_none]
      constructor
      · rintro ⟨h1, h2⟩
        refine ⟨⟨fun z => h2 s z (by simp), h1⟩, fun t ht => ?_⟩
        rcases List.mem_cons.mp ht with rfl | ht
        · exact h
        · exact fun z => h2 t ht (List.mem_append_left _ z)
      · rintro ⟨⟨h1, h2⟩, h3⟩
        refine ⟨h2, fun t ht z => ?_⟩
        rcases List.mem_append.mp z with z | z
        · exact h3 t (List.mem_cons_of_mem _ ht) z
        · rw [List.mem_singleton.mp z] at ht
          exact h1 ht
theorem ftw_none {ss : List Str} : ftw ss = none ↔ ss.Nodup := by
  unfold ftw
  rw [twA_none]
  exact ⟨fun h => h.1, fun h => ⟨h, fun _ _ => List.not_mem_nil⟩⟩
theorem dueK_nil {ss : List Str} (h : dueK ss = []) : ss ≠ [] ∧ fbad ss = none ∧ ftw ss = none := by
  unfold dueK at h
  by_cases hs : ss = []
  · rw [if_pos hs] at h; cases h
  · rw [if_neg hs] at h
    cases hb : fbad ss with
    | some s => rw [hb] at h; cases h
    | none =>
      rw [hb] at h
      cases ht : ftw ss with
      | some s => rw [ht] at h; cases h
      | none => exact ⟨hs, rfl, rfl⟩
theorem dueD_srt {ss : List Str} (h : dueK ss = []) : dueD (srtN ss) = dueD ss := by
  obtain ⟨h1, h2, h3⟩ := dueK_nil h
  rw [dueD_ok h1 h2 h3, dueD_ok (fun z => h1 ((List.length_eq_zero_iff).mp (by rw [← srtN_len, z]; rfl))) (fbad_none fun t ht => fbad_all h2 t (srtN_mem.mp ht)) (ftw_none.mpr ((srtN_perm ss).nodup_iff.mpr (ftw_none.mp h3))), srtN_congr (srtN_perm ss)]
theorem dueK_one {ss : List Str} (h : dueK ss ≠ []) : ∃ k : Int, dueK ss = [.int k] := by
  unfold dueK at h ⊢
  by_cases hs : ss = []
  · rw [if_pos hs]; exact ⟨3, rfl⟩
  · rw [if_neg hs] at h ⊢
    cases hb : fbad ss with
    | some s => exact ⟨4, rfl⟩
    | none =>
      cases ht : ftw ss with
      | some s => exact ⟨5, rfl⟩
      | none => rw [hb, ht] at h; exact absurd rfl h
theorem strs_eq (n : Nat) (ns : List Str) : ∀ d ∈ ns.map Da.str, EqOk n d := fun d hd => by
  obtain ⟨s, _, rfl⟩ := List.mem_map.mp hd
  exact .str _ _
theorem dueD_eq {ss : List Str} (hz : ss.length < 64) : EqOk 3 (dueD ss) := by
  unfold dueD
  refine .lst (by show 2 < 10000; omega) fun d hd => ?_
  rcases List.mem_cons.mp hd with rfl | hd
  · by_cases h : dueK ss = []
    · rw [h]; exact .lst (by show 0 < 10000; omega) fun _ z => by cases z
    · obtain ⟨k, hk⟩ := dueK_one h
      rw [hk]
      exact .lst (by show 1 < 10000; omega) fun d z => by rw [List.mem_singleton.mp z]; exact .int _ _
  · rw [List.mem_singleton.mp hd]
    unfold dueX
    split
    · exact .non _
    · split
      · exact .str _ _
      · split
        · exact .str _ _
        · exact .tup (by rw [List.length_map, srtN_len]; omega) (strs_eq _ _)
theorem strs_pl (ns : List Str) : Da.plain 60 (.lst (ns.map Da.str)) = true := by
  show Da.plainA 59 (ns.map Da.str) = true
  induction ns with
  | nil => rfl
  | cons a r ih => show (true && Da.plainA 59 (r.map Da.str)) = true; rw [ih]; rfl
def R__law_right (K : PySem.W.Frag) : SpR := fun ds Pq _ => ∃ ss : List Str, ds = [.lst (ss.map Da.str)] ∧ ss.length < 64 ∧ (∀ s ∈ ss, s.length < 10000) ∧ Pq .fz (.bl true)
theorem sc__law_right : FnScope ["strings", "due", "passed", "told"] ["strings"] (defScope (top 51)) := ⟨rfl, rfl, rfl, by decide +kernel, rfl, by decide +kernel, by decide +kernel⟩
theorem d__law_right {P : Program} {w : World} {K : PySem.W.Frag} {mg : Str → Option Value} {base : Heap} (T : Tx K mg) : Def P w K mg base "_law_right" 6 ["strings"] (SpD K (R__law_right K)) := by
  refine Def.of T.at__law_right sc__law_right (fun _ _ _ _ _ _ us hl => match us, hl with | [_], _ => rfl) (fun vs H Q E h => by (obtain ⟨_, _, _, _, _, h2, h, _⟩ := h; rw [← h2.len]; obtain ⟨_, rfl, _⟩ := h; rfl)) (fun f cdv A outer s H vs Q E hr h => ?_)
  refine ⟨_, PSs.nox (pss_cons (ps_set (i := 1) sc__law_right.nd rfl (Or.inl rfl) (pe_def (d__law_due T) (hr.mono (by decide)) (by rfl) (pa_cons (pv 0) pa_nil)))
      (pss_cons (ps_set (i := 2) sc__law_right.nd rfl (Or.inl rfl) (pe_callTy call_listA (by rfl) T.n_list (by decide +kernel) (pa_cons (pv 0) pa_nil)))
      (pss_cons (ps_set (i := 3) sc__law_right.nd rfl (Or.inl rfl) (pe_def (d__law_asked T) (hr.mono (by decide)) (by rfl) (pa_cons (pv 2) pa_nil)))
      (pss_cons (ps_if (PW.pt (pw_or (pt_not (pt_val (pe_def (de__law_equal T 3) (hr.mono (by decide)) (by rfl) (pa_cons (pv 3) (pa_cons (pv 1) pa_nil))))) (pw_or1 (pt_not (pt_val (pe_def (de__law_equal T 3) (hr.mono (by decide)) (by rfl) (pa_cons (pe_def (d__law_asked T) (hr.mono (by decide)) (by rfl) (pa_cons (pe_callTy call_tupN (by rfl) T.n_tuple (by decide +kernel) (pa_cons (pv 0) pa_nil)) pa_nil)) (pa_cons (pv 1) pa_nil)))))))) (pss_one (ps_ret pe_bl)) pss_nil)
      (pss_cons (ps_if (PW.pt (pw_or (pt_cmpR (op_neA hr.units) (pe_def (d__law_caught T) (hr.mono (by decide)) (by rfl) (pa_cons (pv 2) pa_nil)) (pe_ix ix_seq (pv 1) pe_int (fun _ _ => rfl)) (nomark _)) (pw_or1 (pt_cmpR (op_neA hr.units) (pv 2) (pv 0) (nomark _))))) (pss_one (ps_ret pe_bl)) pss_nil)
      (pss_one (ps_ret (pe_or (pe_cmpR (op_neA hr.units) (pe_ix ix_seq (pv 1) pe_int (fun _ _ => rfl)) (pe_lstA pa_nil) (nomark _)) (pe_one (pe_def (de__law_equal T 3) (hr.mono (by decide)) (by rfl) (pa_cons (pe_def (d__law_asked T) (hr.mono (by decide)) (by rfl) (pa_cons (pe_ix ix_seq (pv 3) pe_int (fun _ _ => rfl)) pa_nil)) (pa_cons (pv 1) pa_nil)))))))))))), ?_⟩
  obtain ⟨F, ds, Pq, Xq, hF, ha, h, hQ, hE⟩ := h
  refine sd_top hF ha hQ ?_
  clear hQ ha hE
  generalize hB0 : (⟨F, H, []⟩ : Bs) = B
  have hL : B.L = [] := by rw [← hB0]
  clear hB0
  obtain ⟨ss, rfl, hz, hl, q⟩ := h
  walk_at "d0"
  walk_at "d"
  refine ⟨_, ss, rfl, .inl rfl, hz, hl, ?_⟩
  walk_at "d"
  refine ⟨_, ss, rfl, .inl rfl, hz, hl, ?_⟩
  walk_at "d"
  refine ⟨_, rfl, dueD_eq hz, ?_⟩
  walk_at "d"
  refine ⟨_, ss, rfl, .inr rfl, hz, hl, ?_⟩
  walk_at "d"
  refine ⟨_, rfl, dueD_eq hz, ?_⟩
  walk_at "d"
  refine ⟨_, ss, rfl, .inl rfl, hz, hl, ?_⟩
  walk_at "d"
  refine op2_neSame ?pl1 ?_
  case pl1 =>
    by_cases h : dueK ss = []
    · rw [h]; rfl
    · obtain ⟨k, hk⟩ := dueK_one h; rw [hk]; rfl
  walk_at "d"
  refine op2_neSame (strs_pl ss) ?_
  walk_at "d"
  by_cases h : dueK ss = []
  · rw [h]
    refine op2_neSame rfl ?_
    obtain ⟨h1, h2, h3⟩ := dueK_nil h
    rw [dueD_ok h1 h2 h3]
    walk_at "d"
    refine ⟨_, srtN ss, rfl, .inr rfl, by rw [srtN_len]; exact hz, fun s hs => hl s (srtN_mem.mp hs), ?_⟩
    rw [dueD_srt h, dueD_ok h1 h2 h3]
    walk_at "d"
    refine ⟨_, rfl, by have := dueD_eq hz; rwa [dueD_ok h1 h2 h3] at this, ?_⟩
    exact q
  · obtain ⟨k, hk⟩ := dueK_one h
    rw [hk]
    refine op2_neD rfl rfl ?_
    rw [show (!PyData.eqv (Da.lst [.int k]).py (Da.lst []).py) = true from rfl]
    walk_at "d"
    exact q
end JP
set_option Elab.async false
set_option linter.all false
set_option maxRecDepth 100000
set_option maxHeartbeats 4000000
set_option pp.deepTerms false
set_option pp.deepTerms.threshold 6
set_option pp.maxSteps 1200
namespace JP
open PySem PySem.Spec PyProof.Rows L2 L2H JPX
local macro_rules | `(tactic| walk_at "nb") => `(tactic| first | with_reducible exact fz_bw | with_reducible exact nw_bw | with_reducible exact ow_bw)
local macro_rules | `(tactic| walk_at "kd") => `(tactic| first | with_reducible exact Or.inl rfl | with_reducible exact Or.inr rfl)
local macro_rules | `(tactic| walk_at "af") => `(tactic| repeat (first | with_reducible exact allF_nil | ((with_reducible refine allF_cons ?h ?_); (case h => walk_at "kd"))))
local macro_rules | `(tactic| walk_at "sz") => `(tactic| (simp only [List.length_cons, List.length_nil, List.length_append, List.length_map, List.length_range]; decide))
local macro_rules | `(tactic| walk_at "side") => `(tactic| first | assumption | (exact small_div (by omega) (by omega)) | (exact small_mul (by omega) (by omega)) | (exact med_mul (by omega) (by omega)) | (exact big_mul (by omega) (by omega)) | (exact ⟨by decide, by decide, by decide⟩) | (show (0 : Int) < _; omega))
local macro_rules | `(tactic| walk_at "d0") => `(tactic| simp only [cxOf_K, List.map_cons, List.map_nil, List.length_cons, List.length_nil, Nat.reduceAdd, Nat.reduceSub, List.replicate_succ, List.replicate_zero, List.cons_append, List.nil_append])
local macro_rules | `(tactic| walk_at "ds") => `(tactic| try dsimp only [wipeE, List.set_cons_zero, List.set_cons_succ])
local macro_rules | `(tactic| walk_at "dm") => `(tactic| dsimp only [List.map])
local macro_rules | `(tactic| walk_at "dS") => `(tactic| first
  | with_reducible refine sd_seq ?_
  | with_reducible refine sd_next ?_
  | ((with_reducible refine sd_own ?h ?q); (case h => exact rfl))
  | ((with_reducible refine sd_setI (ds := ?ds) ?e ?q); (case e => exact rfl))
  | with_reducible refine sd_asg ?_
  | with_reducible refine sd_if ?_
  | with_reducible refine sd_ret ?_
  | with_reducible refine sd_new ?_
  | ((with_reducible refine sd_app (ds := ?ds) ?e ?q); (case e => exact rfl))
  | ((with_reducible refine sd_dput (kvs := ?kvs) ?e ?q); (case e => exact rfl))
  | ((with_reducible refine sd_mputT (kvs := ?kvs) ?e ?q); (case e => exact rfl))
  | with_reducible refine sd_drop ?_
  | with_reducible refine sd_ret0 ?_
  | with_reducible refine sd_for ?_
  | with_reducible refine sd_for1 ?_
  | with_reducible refine sd_for2 ?_
  | with_reducible refine sd_for3 ?_
  | ((with_reducible refine sd_augI (a := ?a) ?e ?q); (case e => exact rfl))
  | with_reducible refine sd_brk ?_
  | with_reducible refine sd_cont ?_)
local macro_rules | `(tactic| walk_at "dE") => `(tactic| first
  | ((with_reducible refine ev_var (d := ?d) ?e ?q); (case e => exact rfl))
  | ((with_reducible refine ev_own (d := ?d) ?e ?q); (case e => exact rfl))
  | with_reducible refine ev_int ?_
  | with_reducible refine ev_op ?_
  | with_reducible refine ev_cb ?_
  | ((with_reducible refine ev_call ?l ?q); (case l => assumption))
  | with_reducible refine ev_tup ?_
  | with_reducible refine ev_lst ?_
  | with_reducible refine ev_un ?_
  | with_reducible refine ev_bl ?_
  | with_reducible refine ev_non ?_
  | with_reducible refine ev_str ?_
  | with_reducible refine ev_ty ?_
  | with_reducible refine ev_ref ?_
  | with_reducible refine ev_if ?_
  | with_reducible refine ev_not ?_
  | with_reducible refine ev_notT ?_
  | with_reducible refine ev_and ?_
  | with_reducible refine ev_or ?_
  | with_reducible refine ev_chain ?_
  | with_reducible refine ev_bits ?_
  | with_reducible refine ev_dget ?_
  | with_reducible refine ev_dget2 ?_
  | with_reducible refine ev_mgT ?_
  | with_reducible refine ev_mg2T ?_
  | with_reducible refine ev_dnewT ?_
  | with_reducible refine ev_slT ?_
  | with_reducible refine ev_slS ?_
  | with_reducible refine ev_join ?_
  | with_reducible refine ev_dnew ?_
  | with_reducible refine ev_slL ?_
  | with_reducible refine ev_disp1 ?_
  | with_reducible refine ev_dispT ?_)
local macro_rules | `(tactic| walk_at "dO") => `(tactic| first
  | with_reducible refine op2_addI ?_
  | with_reducible refine op2_I0 ?_
  | ((with_reducible refine op2_addL ?a ?b ?z ?q); (case a => walk_at "nb"); (case b => walk_at "nb"); (case z => first | walk_at "sz" | exact size_le (by simp only [List.length_cons, List.length_nil, List.length_append, List.length_map, List.length_range, List.length_take, List.length_drop]; omega)))
  | with_reducible refine op2_B0 ?_
  | ((with_reducible refine op2_ix (ds := ?ds) (d := ?d) ?e ?a ?k ?q); (case e => exact rfl); (case a => exact rfl); (case k => walk_at "nb"))
  | with_reducible refine op2_eqI ?_
  | with_reducible refine op2_neI ?_
  | with_reducible refine op2_p18 ?_
  | with_reducible refine op2_p9 ?_
  | with_reducible refine op2_p6 ?_
  | with_reducible refine op2_p30 ?_
  | with_reducible refine op2_p12 ?_
  | with_reducible refine op2_p15 ?_
  | with_reducible refine op2_p24 ?_
  | with_reducible refine op2_p20 ?_
  | with_reducible refine op2_p2 ?_
  | with_reducible refine op2_p3 ?_
  | with_reducible refine op2_p4 ?_
  | with_reducible refine op2_p5 ?_
  | ((with_reducible refine op2_I ?c ?q); (case c => walk_at "side"))
  | with_reducible refine op2_eqS ?_
  | with_reducible refine op2_neS ?_
  | with_reducible refine op2_eqB ?_
  | with_reducible refine op2_neB ?_
  | with_reducible refine op2_is ?_
  | with_reducible refine op2_isNot ?_)
local macro_rules | `(tactic| walk_at "dN") => `(tactic| first
  | with_reducible refine opn_int ?_
  | ((with_reducible refine opn_len (ds := ?ds) ?e ?q); (case e => exact rfl))
  | with_reducible refine opn_lenD ?_
  | ((with_reducible refine opn_lenT ?l ?q); (case l => assumption))
  | with_reducible refine opn_intB ?_
  | with_reducible refine opn_abs ?_
  | with_reducible refine opn_gcd ?_
  | ((with_reducible refine opn_list (ds := ?ds) ?e ?k ?q); (case e => exact rfl); (case k => walk_at "nb"))
  | ((with_reducible refine opn_tuple (ds := ?ds) ?e ?k ?s ?q); (case e => exact rfl); (case k => walk_at "nb"); (case s => exact (fun _ => nofun)))
  | ((with_reducible refine opn_isi true ?n ?c ?e ?q); (case e => exact rfl); (case n => exact rfl); (case c => exact rfl))
  | ((with_reducible refine opn_isi false ?n ?c ?e ?q); (case e => exact rfl); (case n => exact rfl); (case c => exact rfl)))
local macro_rules | `(tactic| walk_at "dT") => `(tactic| first
  | with_reducible refine tt_test ?_
  | with_reducible refine tt_B ?_
  | with_reducible refine tt_and ?_
  | with_reducible refine tt_or ?_
  | with_reducible refine tt_not ?_
  | with_reducible refine tt_yes ?_
  | with_reducible refine tt_tru ?_)
local macro_rules | `(tactic| walk_at "dG") => `(tactic| first
  | ((with_reducible refine gt_name ?k ?q); (case k => walk_at "kd"); (walk_at "ds"))
  | ((with_reducible refine gn_name ?_); (walk_at "ds"))
  | ((with_reducible refine gn_tup (ds := ?ds) ?e ?n ?q); (case e => exact rfl); (case n => exact rfl))
  | ((with_reducible refine gt_tup (ds := ?ds) ?e ?n ?k ?q); (case e => exact rfl); (case n => exact rfl); (case k => walk_at "nb"))
  | ((with_reducible refine gta_name ?_); (walk_at "ds"))
  | ((with_reducible refine gta_tup (es := ?es) ?e ?n ?q); (case e => exact rfl); (case n => exact rfl))
  | with_reducible refine gta_nil ?_)
local macro_rules | `(tactic| walk_at "d1") => `(tactic| first
  | ((with_reducible show Ev _ _ _ _ _); walk_at "dE")
  | ((with_reducible show EvA _ _ _ _ _); first | with_reducible refine eva_cons ?_ | with_reducible refine eva_nil ?_)
  | ((with_reducible show Op2 _ _ _ _ _ _); walk_at "dO")
  | ((with_reducible show Sd _ _ _ _ _); walk_at "dS")
  | ((with_reducible show Gt _ _ _ _ _ _ _); walk_at "dG")
  | ((with_reducible show Tt _ _ _ _ _); walk_at "dT")
  | ((with_reducible show OpN _ _ _ _ _); walk_at "dN")
  | with_reducible refine bl_i ?_
  | with_reducible refine eq_int ?_
  | ((with_reducible refine lct_yes ?_); (try dsimp only [wipeE, List.set_cons_zero, List.set_cons_succ]))
  | ((with_reducible refine lct_g ?_); (try dsimp only [wipeE, List.set_cons_zero, List.set_cons_succ]))
  | with_reducible refine pt_no ?_
  | with_reducible refine pt_some ?_
  | with_reducible refine ls_fz ?_
  | with_reducible refine ls_ow ?_
  | with_reducible refine ls_nw ?_
  | with_reducible refine ls_s ?_
  | with_reducible refine dk_fz ?_
  | with_reducible refine dk_ow ?_
  | with_reducible refine dk_nw ?_
  | with_reducible refine key_i ?_
  | with_reducible refine key_s ?_
  | with_reducible refine dt_fz ?_
  | with_reducible refine dt_ow ?_
  | with_reducible refine dt_nw ?_
  | with_reducible refine tk_fz ?_
  | with_reducible refine tp_fz ?_
  | with_reducible refine st_i ?_
  | ((with_reducible show Gn _ _ _ _ _ _); walk_at "dG")
  | ((with_reducible show GtA _ _ _ _ _ _); walk_at "dG")
  | ((with_reducible show Op1 _ _ _ _ _); with_reducible refine op1_U ?_)
  | ((with_reducible show (_ = Kd.fz ∨ _) ∧ _); (with_reducible refine ⟨?f, ?q⟩); (case f => walk_at "kd"))
  | ((with_reducible show (_ = Kd.nw ∨ _) ∧ _); (with_reducible refine ⟨?f, ?q⟩); (case f => walk_at "kd"))
  | ((with_reducible show (allF _) ∧ _); (with_reducible refine ⟨?f, ?q⟩); (case f => walk_at "af"); (try walk_at "dm"))
  | ((with_reducible show (_ ≤ sizeLine) ∧ _); (with_reducible refine ⟨?z, ?q⟩); (case z => first | walk_at "sz" | exact size_le (by omega)))
  | ((with_reducible show (_ = Kd.nw) ∧ _); (with_reducible refine ⟨rfl, ?q⟩); (try walk_at "ds"))
  | ((with_reducible show (_ ≠ Kd.bw) ∧ _); (with_reducible refine ⟨?f, ?q⟩); (case f => walk_at "nb"))
  | ((with_reducible show (Da.truOk _ _) ∧ _); (with_reducible refine ⟨?f, ?q⟩); (case f => first | exact trivial | assumption))
  | with_reducible refine iff_t rfl ?_
  | with_reducible refine iff_f rfl ?_)
local macro_rules | `(tactic| walk_at "d") => `(tactic| repeat (walk_at "d1"))
local macro_rules | `(tactic| walk_at "dE") => `(tactic| first
  | with_reducible refine ev_mk0 ?_
  | with_reducible refine ev_mkV ?_
  | with_reducible refine ev_xv ?_)
local macro_rules | `(tactic| walk_at "d1") => `(tactic| first
  | with_reducible refine xc_i ?_
  | with_reducible refine mkv_i rfl (by decide) ?_
  | ((with_reducible show (_ = Kd.fz) ∧ _); (with_reducible refine ⟨rfl, ?_⟩)))
/-! the cells -/
def R__law_cell : SpR := fun ds Pq _ => ∃ (ns : List Int) (k : Int), ds = [.sls (ns.map Da.int), .int k] ∧ 0 ≤ k ∧ k ≤ 1000 ∧ Pq .fz (.int (lawCell ns k))
theorem sc__law_cell : FnScope ["script", "k", "seed", "cell"] ["script", "k"] (defScope (top 40)) := ⟨rfl, rfl, rfl, by decide +kernel, rfl, by decide +kernel, by decide +kernel⟩
theorem d__law_cell {P : Program} {w : World} {K : PySem.W.Frag} {mg : Str → Option Value} {base : Heap} (T : Tx K mg) : Def P w K mg base "_law_cell" 1 ["script", "k"] (SpD K (R__law_cell)) := by
  refine Def.of T.at__law_cell sc__law_cell (fun _ _ _ _ _ _ us hl => match us, hl with | [_, _], _ => rfl) (fun vs H Q E h => by (obtain ⟨_, _, _, _, _, h2, h, _⟩ := h; rw [← h2.len]; obtain ⟨_, _, rfl, _⟩ := h; rfl)) (fun f cdv A outer s H vs Q E hr h => ?_)
  refine ⟨_, PSs.nox (pss_cons (ps_if (pt_cmpR op_lt (pv 1) (pe_callB call_lenA (by rfl) T.n_len (by decide +kernel) (pa_cons (pv 0) pa_nil)) (nomark _)) (pss_one (ps_ret (pe_ix ix_seq (pv 0) (pv 1) (fun _ _ => rfl)))) pss_nil)
      (pss_cons (ps_set (i := 2) sc__law_cell.nd rfl (Or.inl rfl) pe_int)
      (pss_cons (ps_for PassesOwn.never rfl (pi_seq (pv 0)) (pg_name (i := 3) sc__law_cell.nd rfl (Or.inl rfl)) (pss_one (ps_set (i := 2) sc__law_cell.nd rfl (Or.inl rfl) (pe_op op_mod (pe_callTy call_intA (by rfl) T.n_int (by decide +kernel) (pa_cons (pe_op op_addA (pe_op op_mulW (pv 2) pe_int) (pe_op op_mod (pe_callTy call_intA (by rfl) T.n_int (by decide +kernel) (pa_cons (pv 3) pa_nil)) pe_int)) pa_nil)) pe_int))))
      (pss_one (ps_ret (pe_op op_mod (pe_callTy call_intA (by rfl) T.n_int (by decide +kernel) (pa_cons (pe_op op_mulW (pe_op op_mulW (pe_op op_addA (pv 2) pe_int) (pe_op op_addA (pv 1) pe_int)) pe_int) pa_nil)) pe_int)))))), ?_⟩
  obtain ⟨F, ds, Pq, Xq, hF, ha, h, hQ, hE⟩ := h
  refine sd_top hF ha hQ ?_
  clear hQ ha hE
  generalize hB0 : (⟨F, H, []⟩ : Bs) = B
  have hL : B.L = [] := by rw [← hB0]
  clear hB0
  obtain ⟨ns, k, rfl, h0, h1, q⟩ := h
  walk_at "d0"
  walk_at "d"
  rw [List.length_map]
  refine iteD (fun h => ?_) (fun h => ?_)
  · walk_at "d"
    have e : lawCell ns k = ns.getD k.toNat 0 := if_pos h
    refine op2_ix (ds := ns.map Da.int) (d := .int (lawCell ns k)) rfl ?_ nofun q
    rw [e, ← Int.toNat_of_nonneg h0]
    refine atI_nat ?_
    rw [List.getElem?_map, List.getD_eq_getElem?_getD, Int.toNat_natCast, List.getElem?_eq_getElem (by omega)]
    rfl
  · walk_at "d"
    refine ⟨_, rfl, fun i env' => ∃ (v : Sl) (z : Int), env' = [.dat (.sls (ns.map Da.int)), .dat (.int k), .dat (.int z), v] ∧ z = (ns.take i).foldl (fun s c => (s * 31 + c % 1000003) % 1000003) 17 ∧ 0 ≤ z ∧ z < 1000003, ⟨_, 17, rfl, rfl, by decide, by decide⟩, ?_, ?_⟩
    · rintro i x env' hi ⟨v, z, rfl, ez, z0, z1⟩
      obtain ⟨c, hc, rfl⟩ := dmap_at hi
      walk_at "d"
      refine ⟨_, _, rfl, ?_, Int.emod_nonneg _ (by decide), Int.emod_lt_of_pos _ (by decide)⟩
      rw [List.take_add_one, hc, ez]
      simp
    · rintro env' ⟨v, z, rfl, ez, z0, z1⟩
      rw [List.length_map, List.take_length] at ez
      walk_at "d"
      have e : lawCell ns k = ((z + 7) * (k + 3) * 69621) % 2147483647 := by
        unfold lawCell
        rw [if_neg h, ez]
      have m1 : CMulW (z + 7) (k + 3) := small_mul (by omega) (by omega)
      have m2 : CMulW ((z + 7) * (k + 3)) 69621 := Sm.mulOk (a := 60) (b := 30) (Sm.mul (a := 30) (b := 30) (show (z + 7).natAbs < 2 ^ 30 by omega) (show (k + 3).natAbs < 2 ^ 30 by omega)) (by decide) (by decide)
      walk_at "d"
      rw [e] at q
      exact q
def R__law_digits : SpR := fun ds Pq _ => ∃ (c : Int) (x : Da) (zs : List Int), ds = [.int c, x] ∧ its x = some (zs.map Da.int) ∧ (∀ z ∈ zs, 0 < z ∧ z < 1073741824) ∧ zs.length ≤ 1000 ∧ Pq .nw (.lst ((digits c zs).map Da.int))
theorem sc__law_digits : FnScope ["cell", "sizes", "row", "rest", "size", "seed", "k", "twice"] ["cell", "sizes"] (defScope (top 41)) := ⟨rfl, rfl, rfl, by decide +kernel, rfl, by decide +kernel, by decide +kernel⟩
theorem d__law_digits {P : Program} {w : World} {K : PySem.W.Frag} {mg : Str → Option Value} {base : Heap} (T : Tx K mg) : Def P w K mg base "_law_digits" 1 ["cell", "sizes"] (SpD K (R__law_digits)) := by
  refine Def.of T.at__law_digits sc__law_digits (fun _ _ _ _ _ _ us hl => match us, hl with | [_, _], _ => rfl) (fun vs H Q E h => by (obtain ⟨_, _, _, _, _, h2, h, _⟩ := h; rw [← h2.len]; obtain ⟨_, _, _, rfl, _⟩ := h; rfl)) (fun f cdv A outer s H vs Q E hr h => ?_)
  refine ⟨_, PSs.nox (pss_cons (ps_own (ps_set (i := 2) sc__law_digits.nd rfl (Or.inl rfl) (pe_lstA pa_nil)))
      (pss_cons (ps_set (i := 3) sc__law_digits.nd rfl (Or.inl rfl) (pe_callTy call_intA (by rfl) T.n_int (by decide +kernel) (pa_cons (pv 0) pa_nil)))
      (pss_cons (ps_if (pt_cmpR op_ge (pv 3) (pe_op op_pow pe_int pe_int) (nomark _)) (pss_cons (ps_set (i := 3) sc__law_digits.nd rfl (Or.inl rfl) (pe_op op_sub (pv 3) (pe_op op_pow pe_int pe_int)))
      (pss_cons (ps_for PassesOwn.never rfl (pi_seq (pv 1)) (pg_name (i := 4) sc__law_digits.nd rfl (Or.inl rfl)) (pss_cons (ps_expr (pe_bm PySem.F.plainAttrs_list PySem.F.slot_list_append PySem.F.type_list_append mt_appendA (pv 2) (pa_cons (pe_op op_mod (pe_callTy call_intA (by rfl) T.n_int (by decide +kernel) (pa_cons (pv 3) pa_nil)) (pv 4)) pa_nil)))
      (pss_one (ps_set (i := 3) sc__law_digits.nd rfl (Or.inl rfl) (pe_op op_fdivG (pe_callTy call_intA (by rfl) T.n_int (by decide +kernel) (pa_cons (pv 3) pa_nil)) (pv 4))))))
      (pss_one (ps_new (ps_ret (pv 2)))))) pss_nil)
      (pss_cons (ps_set (i := 5) sc__law_digits.nd rfl (Or.inl rfl) (pe_op op_mod (pe_callTy call_intA (by rfl) T.n_int (by decide +kernel) (pa_cons (pv 3) pa_nil)) pe_int))
      (pss_cons (ps_for PassesOwn.never rfl (pi_range1 (by rfl) T.n_range (pa_cons (pe_callB call_lenA (by rfl) T.n_len (by decide +kernel) (pa_cons (pv 1) pa_nil)) pa_nil)) (pg_name (i := 6) sc__law_digits.nd rfl (Or.inl rfl)) (pss_cons (ps_set (i := 5) sc__law_digits.nd rfl (Or.inl rfl) (pe_op op_mod (pe_callTy call_intA (by rfl) T.n_int (by decide +kernel) (pa_cons (pe_op op_addA (pe_op op_addA (pe_op op_mulW (pv 5) pe_int) (pe_op op_mulW pe_int (pv 6))) pe_int) pa_nil)) pe_int))
      (pss_cons (ps_set (i := 7) sc__law_digits.nd rfl (Or.inl rfl) (pe_op op_mod (pe_callTy call_intA (by rfl) T.n_int (by decide +kernel) (pa_cons (pe_op op_mulW (pv 5) (pe_op op_addA (pe_op op_fdivG (pv 5) pe_int) pe_int)) pa_nil)) pe_int))
      (pss_one (ps_expr (pe_bm PySem.F.plainAttrs_list PySem.F.slot_list_append PySem.F.type_list_append mt_appendA (pv 2) (pa_cons (pe_op op_mod (pe_op op_fdivG (pv 7) pe_int) (pe_ix ix_seq (pv 1) (pv 6) (fun _ _ => rfl))) pa_nil)))))))
      (pss_one (ps_new (ps_ret (pv 2))))))))), ?_⟩
  obtain ⟨F, ds, Pq, Xq, hF, ha, h, hQ, hE⟩ := h
  refine sd_top hF ha hQ ?_
  clear hQ ha hE
  generalize hB0 : (⟨F, H, []⟩ : Bs) = B
  have hL : B.L = [] := by rw [← hB0]
  clear hB0
  obtain ⟨c, x, zs, rfl, hx, hzs, hlen, q⟩ := h
  walk_at "d0"
  walk_at "d"
  refine iteD (fun h => ?_) (fun h => ?_)
  · walk_at "d"
    refine ⟨_, hx, fun i env' => ∃ (r : Int) (v : Sl) (done : List Int), env' = [.dat (.int c), .dat x, .own (.lst (done.map Da.int)), .dat (.int r), v, .un, .un, .un] ∧ done.length = i ∧ digA (c - 1000000000000000000) zs = done ++ digA r (zs.drop i), ⟨_, _, [], rfl, rfl, rfl⟩, ?_, ?_⟩
    · rintro i x env' hi ⟨r, v, done, rfl, ei, ed⟩
      obtain ⟨z, hz, rfl⟩ := dmap_at hi
      have hzz := hzs z (List.mem_of_getElem? hz)
      have hz0 : (0 : Int) < z := hzz.1
      have hil := (List.getElem?_eq_some_iff.mp hz).1
      have cd : CDivG r z := small_div hzz.1 hzz.2
      walk_at "d"
      refine ⟨size_of (by rw [List.length_map]; omega), ?_⟩
      walk_at "d"
      have c0 : digA r (zs.drop i) = r % z :: digA (r.fdiv z) (zs.drop (i + 1)) := by
        rw [List.drop_eq_getElem_cons hil, (List.getElem?_eq_some_iff.mp hz).2]
        rfl
      refine ⟨_, _, done ++ [r % z], by rw [List.map_append]; rfl, by rw [List.length_append, ei]; rfl, ?_⟩
      rw [ed, c0, List.append_assoc]; rfl
    · rintro env' ⟨r, v, done, rfl, ei, ed⟩
      walk_at "d"
      have e : digits c zs = done := by
        unfold digits
        rw [if_pos h, ed, List.length_map, List.drop_length]
        exact List.append_nil _
      rw [← e]
      exact q
  · walk_at "d"
    refine opn_len hx ?_
    walk_at "d"
    rw [List.length_map]
    refine ⟨_, _, zs.length, rfl, by omega, by omega, fun i env' => ∃ (s : Int) (v1 v2 : Sl) (done : List Int), env' = [.dat (.int c), .dat x, .own (.lst (done.map Da.int)), .dat (.int c), .un, .dat (.int s), v1, v2] ∧ done.length = i ∧ 0 ≤ s ∧ s < 2147483647 ∧ digB (c % 2147483629) 0 zs = done ++ digB s i (zs.drop i),
      ⟨_, _, _, [], rfl, rfl, Int.emod_nonneg _ (by decide), Int.lt_trans (Int.emod_lt_of_pos _ (by decide)) (by decide), rfl⟩, ?_, ?_⟩
    · rintro i env' hi ⟨s, v1, v2, done, rfl, ei, s0, s2, ed⟩
      have hz : zs[i]? = some zs[i] := List.getElem?_eq_getElem hi
      have hzz := hzs zs[i] (List.mem_of_getElem? hz)
      have hz0 : (0 : Int) < zs[i] := hzz.1
      have c0 : digB s i (zs.drop i) = dT (dS s i) % zs[i] :: digB (dS s i) (i + 1) (zs.drop (i + 1)) := by
        rw [List.drop_eq_getElem_cons hi]
        rfl
      walk_at "d"
      generalize es : (s * 48271 + 974711 * (i : Int) + 12345) % 2147483647 = s'
      rw [show dS s i = s' from es] at c0
      have b0 : 0 ≤ s' := es ▸ Int.emod_nonneg _ (by decide)
      have b1 : s' < 2147483647 := es ▸ Int.emod_lt_of_pos _ (by decide)
      have b2 : 0 ≤ s'.fdiv 65537 ∧ s'.fdiv 65537 ≤ 2147483647 := by
        rw [Int.fdiv_eq_ediv_of_nonneg _ (by decide)]
        omega
      walk_at "d"
      refine op2_ix hx (dmap_ix hz) nofun ?_
      walk_at "d"
      refine ⟨size_of (by rw [List.length_map]; omega), ?_⟩
      walk_at "d"
      refine ⟨s', _, _, done ++ [dT s' % zs[i]], by rw [List.map_append]; rfl, by rw [List.length_append, ei]; rfl, b0, b1, ?_⟩
      rw [ed, c0, List.append_assoc]; rfl
    · rintro env' ⟨s, v1, v2, done, rfl, ei, s0, s2, ed⟩
      walk_at "d"
      have e : digits c zs = done := by
        unfold digits
        rw [if_neg h, ed, List.drop_length]
        exact List.append_nil _
      rw [← e]
      exact q
def strSizes : List Int := [30, 10, 26] ++ List.replicate 10 36 ++ [13, 95] ++ List.replicate 12 95
def ascS : Str := " !\"#$&'()*+,-./0123456789:;<=>?@ABCDEFGHIJKLMNOPQRSTUVWXYZ[\\]^_`abcdefghijklmnopqrstuvwxyz{|}~\n"
theorem asc_at {d : Int} (h0 : 0 ≤ d) (h1 : d < 95) : ∃ c, atI ascS.cps.toList d = some c := by
  obtain ⟨m, rfl⟩ := Int.eq_ofNat_of_zero_le h0
  have hl : m < ascS.cps.toList.length := by rw [show ascS.cps.toList.length = 95 by decide +kernel]; omega
  exact ⟨_, atI_nat (List.getElem?_eq_getElem hl)⟩
theorem sgn_at {d : Int} (h0 : 0 ≤ d) (h1 : d < 36) : ∃ c, atI sgns.cps.toList d = some c := by
  obtain ⟨m, rfl⟩ := Int.eq_ofNat_of_zero_le h0
  have hl : m < sgns.cps.toList.length := by show m < 36; omega
  exact ⟨_, atI_nat (List.getElem?_eq_getElem hl)⟩
theorem let_at {d : Int} (h0 : 0 ≤ d) (h1 : d < 26) : ∃ c, atI letr.cps.toList d = some c := by
  obtain ⟨m, rfl⟩ := Int.eq_ofNat_of_zero_le h0
  have hl : m < letr.cps.toList.length := by show m < 26; omega
  exact ⟨_, atI_nat (List.getElem?_eq_getElem hl)⟩
def R__law_signs : SpR := fun ds Pq _ => ds = [] ∧ Pq .fz (.str ascS)
theorem sc__law_signs : FnScope ["signs"] [] (defScope (top 42)) := ⟨rfl, rfl, rfl, by decide +kernel, rfl, by decide +kernel, by decide +kernel⟩
theorem d__law_signs {P : Program} {w : World} {K : PySem.W.Frag} {mg : Str → Option Value} {base : Heap} (T : Tx K mg) : Def P w K mg base "_law_signs" 1 [] (SpD K (R__law_signs)) := by
  refine Def.of T.at__law_signs sc__law_signs (fun _ _ _ _ _ _ us hl => match us, hl with | [], _ => rfl) (fun vs H Q E h => by (obtain ⟨_, _, _, _, _, h2, h, _⟩ := h; rw [← h2.len]; obtain ⟨rfl, _⟩ := h; rfl)) (fun f cdv A outer s H vs Q E hr h => ?_)
  refine ⟨_, PSs.nox (pss_cons (ps_set (i := 0) sc__law_signs.nd rfl (Or.inl rfl) pe_str)
      (pss_one (ps_ret (pe_op op_addA (pv 0) pe_str)))), ?_⟩
  obtain ⟨F, ds, Pq, Xq, hF, ha, h, hQ, hE⟩ := h
  refine sd_top hF ha hQ ?_
  clear hQ ha hE
  generalize hB0 : (⟨F, H, []⟩ : Bs) = B
  have hL : B.L = [] := by rw [← hB0]
  clear hB0
  obtain ⟨rfl, q⟩ := h
  walk_at "d0"
  walk_at "d"
  refine op2_addS (by decide) ?_
  rw [show Str.ofString " !\"#$&'()*+,-./0123456789:;<=>?@ABCDEFGHIJKLMNOPQRSTUVWXYZ[\\]^_`" ++ Str.ofString "abcdefghijklmnopqrstuvwxyz{|}~\n" = ascS by decide +kernel]
  exact q
theorem strs_ix (ns : List Str) {i : Int} (h0 : 0 ≤ i) (h1 : i < ns.length) : ∃ c, c ∈ ns ∧ atI (ns.map Da.str) i = some (.str c) := by
  obtain ⟨m, rfl⟩ := Int.eq_ofNat_of_zero_le h0
  have hm : m < ns.length := by omega
  exact ⟨ns[m], List.getElem_mem _, atI_nat (by rw [List.getElem?_map, List.getElem?_eq_getElem hm]; rfl)⟩
theorem cut_le {z : Str} {lo hi : Option Int} {n : Nat} (h : z.length ≤ n) : (cutS z lo hi).length ≤ n := Nat.le_trans (cutS_length z lo hi) h
theorem cat_le {x y : Str} {m n : Nat} (h : x.length ≤ m) (g : y.length ≤ n) : (x ++ y).length ≤ m + n := by rw [Str.length_append]; omega
theorem cat_sz {x y : Str} {m n : Nat} (h : x.length ≤ m) (g : y.length ≤ n) (hm : m + n ≤ 1000) : x.length + y.length ≤ sizeLine := size_le (by omega)
def menuS : List Str := ["a", "b", "a1", "ab", "x10", "x9", "x1", "z", "a0", "aa", "level", "pump", "b2"]
theorem menuS_ok : ∀ c ∈ menuS, c.length ≤ 40 := by decide +kernel
def digS : Str := "0123456789"
theorem dig10_at {d : Int} (h0 : 0 ≤ d) (h1 : d < 10) : ∃ c, atI digS.cps.toList d = some c := by
  obtain ⟨m, rfl⟩ := Int.eq_ofNat_of_zero_le h0
  have hl : m < digS.cps.toList.length := by show m < 10; omega
  exact ⟨_, atI_nat (List.getElem?_eq_getElem hl)⟩
theorem cut_pos {z : Str} {d : Int} (h : 1 ≤ z.length) (h0 : 0 ≤ d) : 1 ≤ (cutS z none (some (1 + d))).length := by
  show 1 ≤ (((z.cps.toList.drop (HT.sIx z.length 0 none)).take (HT.sIx z.length z.length (some (1 + d)) - HT.sIx z.length 0 none)).toArray).size
  rw [List.size_toArray, List.length_take, List.length_drop, Array.length_toList]
  have hz : z.cps.size = z.length := rfl
  have e0 : HT.sIx z.length 0 none = 0 := rfl
  have e1 : 1 ≤ HT.sIx z.length z.length (some (1 + d)) := by
    show 1 ≤ (if (1 + d) < 0 then ((1 + d) + (z.length : Int)).toNat else min (1 + d).toNat z.length)
    rw [if_neg (by omega)]
    omega
  omega
theorem ones_sum : ∀ ys : List Str, (∀ y ∈ ys, y.length = 1) → (ys.map (·.length)).sum = ys.length := by
  intro ys
  induction ys with
  | nil => intro _; rfl
  | cons y r ih => intro h; rw [List.map_cons, List.sum_cons, List.length_cons, h y List.mem_cons_self, ih fun z hz => h z (List.mem_cons_of_mem _ hz)]; omega
def R__law_string : SpR := fun ds Pq _ => ∃ (rs : List Int) (b : Bool), ds = [.lst (rs.map Da.int), .bl b] ∧ Dig strSizes rs ∧ ∀ s : Str, s.length ≤ 40 → Pq .fz (.str s)
theorem sc__law_string : FnScope ["row", "clean", "letters", "signs", "full", "name", "at", "sign", "kind", "odd", "k"] ["row", "clean"] (defScope (top 43)) := ⟨rfl, rfl, rfl, by decide +kernel, rfl, by decide +kernel, by decide +kernel⟩
theorem d__law_string {P : Program} {w : World} {K : PySem.W.Frag} {mg : Str → Option Value} {base : Heap} (T : Tx K mg) : Def P w K mg base "_law_string" 2 ["row", "clean"] (SpD K (R__law_string)) := by
  refine Def.of T.at__law_string sc__law_string (fun _ _ _ _ _ _ us hl => match us, hl with | [_, _], _ => rfl) (fun vs H Q E h => by (obtain ⟨_, _, _, _, _, h2, h, _⟩ := h; rw [← h2.len]; obtain ⟨_, _, rfl, _⟩ := h; rfl)) (fun f cdv A outer s H vs Q E hr h => ?_)
  refine ⟨_, PSs.nox (pss_cons (ps_set (i := 2) sc__law_string.nd rfl (Or.inl rfl) pe_str)
      (pss_cons (ps_set (i := 3) sc__law_string.nd rfl (Or.inr rfl) (pe_op op_addA (pv 2) pe_str))
      (pss_cons (ps_set (i := 4) sc__law_string.nd rfl (Or.inl rfl) (pe_op op_addA (pe_ix ix_seq (pv 2) (pe_ix ix_seq (pv 0) pe_int (fun _ _ => rfl)) (fun _ _ => rfl)) (pe_joinA pe_str (pe_lc (own := [("k", 10)]) (by rfl) sc__law_string.nd (pi_range1 (by rfl) T.n_range (pa_cons pe_int pa_nil)) (blkOk_by (own := [("k", 10)]) (N := ["row", "clean", "letters", "signs", "full", "name", "at", "sign", "kind", "odd", "k"]) (sc := defScope (top 43)) (by decide +kernel)) (fun _ _ _ _ _ => (pg_name (i := 10) sc__law_string.nd rfl (Or.inl rfl))) (fun _ _ _ _ _ => pts_nil) (fun _ _ _ _ _ => (pe_ix (ix_seqK (K := K) (by rfl)) (pv 3) (pe_ix (ix_seqK (K := K) (by rfl)) (pv 0) (pe_op (op_addAK (K := K) (by rfl)) pe_int (pv 10)) (fun _ _ => rfl)) (fun _ _ => rfl)))))))
      (pss_cons (ps_set (i := 5) sc__law_string.nd rfl (Or.inl rfl) (pe_slice sl_str (pv 4) po_none (po_some (pe_op op_addA pe_int (pe_ix ix_seq (pv 0) pe_int (fun _ _ => rfl))))))
      (pss_cons (ps_set (i := 6) sc__law_string.nd rfl (Or.inl rfl) (pe_op op_mod (pe_callTy call_intA (by rfl) T.n_int (by decide +kernel) (pa_cons (pe_ix ix_seq (pv 0) pe_int (fun _ _ => rfl)) pa_nil)) (pe_callB call_lenA (by rfl) T.n_len (by decide +kernel) (pa_cons (pv 5) pa_nil))))
      (pss_cons (ps_set (i := 7) sc__law_string.nd rfl (Or.inl rfl) (pe_ix ix_seq (pe_def0 (d__law_signs T) (hr.mono (by decide)) (by rfl)) (pe_ix ix_seq (pv 0) pe_int (fun _ _ => rfl)) (fun _ _ => rfl)))
      (pss_cons (ps_set (i := 8) sc__law_string.nd rfl (Or.inl rfl) (pe_ix ix_seq (pv 0) pe_int (fun _ _ => rfl)))
      (pss_cut (ps_if (pt_truth (pv 1) (by intro _; rfl)) (pss_one (ps_set (i := 8) sc__law_string.nd rfl (Or.inl rfl) (pe_op op_mod (pe_callTy call_intA (by rfl) T.n_int (by decide +kernel) (pa_cons (pv 8) pa_nil)) pe_int))) pss_nil)
      (pss_cons (ps_if (pt_cmpR op_lt (pv 8) pe_int (nomark _)) (pss_one (ps_ret (pe_ix ix_seq (pe_lstA (pa_cons pe_str (pa_cons pe_str (pa_cons pe_str (pa_cons pe_str (pa_cons pe_str (pa_cons pe_str (pa_cons pe_str (pa_cons pe_str (pa_cons pe_str (pa_cons pe_str (pa_cons pe_str (pa_cons pe_str (pa_cons pe_str pa_nil)))))))))))))) (pe_op op_fdivG (pe_ix ix_seq (pv 0) pe_int (fun _ _ => rfl)) pe_int) (fun _ _ => rfl)))) pss_nil)
      (pss_cons (ps_if (pt_cmpR op_lt (pv 8) pe_int (nomark _)) (pss_one (ps_ret (pv 5))) pss_nil)
      (pss_cons (ps_if (pt_cmpR (op_eqA hr.units) (pv 8) pe_int (nomark _)) (pss_one (ps_ret (pv 4))) pss_nil)
      (pss_cons (ps_if (pt_cmpR (op_eqA hr.units) (pv 8) pe_int (nomark _)) (pss_one (ps_ret (pe_ix ix_seq (pe_lstA (pa_cons (pe_op op_addA (pv 4) (pe_ix ix_seq (pv 3) (pe_ix ix_seq (pv 0) pe_int (fun _ _ => rfl)) (fun _ _ => rfl))) (pa_cons (pe_op op_addA (pe_op op_addA (pv 4) (pv 4)) (pv 4)) (pa_cons pe_str pa_nil)))) (pe_op op_mod (pe_callTy call_intA (by rfl) T.n_int (by decide +kernel) (pa_cons (pe_ix ix_seq (pv 0) pe_int (fun _ _ => rfl)) pa_nil)) pe_int) (fun _ _ => rfl)))) pss_nil)
      (pss_cons (ps_if (pt_cmpR (op_eqA hr.units) (pv 8) pe_int (nomark _)) (pss_one (ps_ret (pe_op op_addA (pe_ix ix_seq pe_str (pe_op op_mod (pe_callTy call_intA (by rfl) T.n_int (by decide +kernel) (pa_cons (pe_ix ix_seq (pv 0) pe_int (fun _ _ => rfl)) pa_nil)) pe_int) (fun _ _ => rfl)) (pe_slice sl_str (pv 5) (po_some pe_int) po_none)))) pss_nil)
      (pss_cons (ps_if (pt_cmpR (op_eqA hr.units) (pv 8) pe_int (nomark _)) (pss_cons (ps_set (i := 9) sc__law_string.nd rfl (Or.inl rfl) (pe_lstA (pa_cons (pe_upper (pv 5)) (pa_cons (pe_op op_addA (pv 5) pe_str) (pa_cons (pe_op op_addA pe_str (pv 5)) (pa_cons (pe_op op_addA (pv 5) pe_str) (pa_cons (pe_op op_addA (pv 5) pe_str) (pa_cons (pe_op op_addA pe_str (pv 5)) (pa_cons (pe_op op_addA pe_str (pe_slice sl_str (pv 5) (po_some pe_int) po_none)) pa_nil)))))))))
      (pss_one (ps_ret (pe_ix ix_seq (pv 9) (pe_op op_mod (pe_callTy call_intA (by rfl) T.n_int (by decide +kernel) (pa_cons (pe_ix ix_seq (pv 0) pe_int (fun _ _ => rfl)) pa_nil)) pe_int) (fun _ _ => rfl))))) pss_nil)
      (pss_cons (ps_if (pt_cmpR op_lt (pv 8) pe_int (nomark _)) (pss_one (ps_ret (pe_op op_addA (pe_op op_addA (pe_slice sl_str (pv 5) po_none (po_some (pv 6))) (pv 7)) (pe_slice sl_str (pv 5) (po_some (pe_op op_addA (pv 6) pe_int)) po_none)))) pss_nil)
      (pss_cons (ps_if (pt_cmpR (op_eqA hr.units) (pv 8) pe_int (nomark _)) (pss_one (ps_ret (pe_op op_addA (pe_op op_addA (pe_slice sl_str (pv 5) po_none (po_some (pv 6))) (pv 7)) (pe_slice sl_str (pv 5) (po_some (pv 6)) po_none)))) pss_nil)
      (pss_one (ps_ret (pe_joinA pe_str (pe_lc (own := [("k", 10)]) (by rfl) sc__law_string.nd (pi_range1 (by rfl) T.n_range (pa_cons (pe_ix ix_seq (pv 0) pe_int (fun _ _ => rfl)) pa_nil)) (blkOk_by (own := [("k", 10)]) (N := ["row", "clean", "letters", "signs", "full", "name", "at", "sign", "kind", "odd", "k"]) (sc := defScope (top 43)) (by decide +kernel)) (fun _ _ _ _ _ => (pg_name (i := 10) sc__law_string.nd rfl (Or.inl rfl))) (fun _ _ _ _ _ => pts_nil) (fun _ _ _ _ _ => (pe_ix (ix_seqK (K := K) (by rfl)) (pe_def0 (d__law_signs T) (hr.mono (by decide)) (by rfl)) (pe_ix (ix_seqK (K := K) (by rfl)) (pv 0) (pe_op (op_addAK (K := K) (by rfl)) pe_int (pv 10)) (fun _ _ => rfl)) (fun _ _ => rfl))))))))))))))))))))))), ?_⟩
  obtain ⟨F, ds, Pq, Xq, hF, ha, h, hQ, hE⟩ := h
  refine sd_top hF ha hQ ?_
  clear hQ ha hE
  generalize hB0 : (⟨F, H, []⟩ : Bs) = B
  have hL : B.L = [] := by rw [← hB0]
  clear hB0
  obtain ⟨rs, b, rfl, hD, q⟩ := h
  obtain ⟨d0, _, e0, l0, u0⟩ := dig_at hD 0 (z := 30) rfl
  obtain ⟨d1, _, e1, l1, u1⟩ := dig_at hD 1 (z := 10) rfl
  obtain ⟨d2, _, e2, l2, u2⟩ := dig_at hD 2 (z := 26) rfl
  obtain ⟨d12, _, e12, l12, u12⟩ := dig_at hD 12 (z := 36) rfl
  obtain ⟨d13, _, e13, l13, u13⟩ := dig_at hD 13 (z := 13) rfl
  obtain ⟨d14, _, e14, l14, u14⟩ := dig_at hD 14 (z := 95) rfl
  walk_at "d0"
  walk_at "d"
  refine op2_addS (by decide) ?_
  rw [show Str.ofString "abcdefghijklmnopqrstuvwxyz" ++ Str.ofString "0123456789" = sgns by decide +kernel]
  walk_at "d"
  refine op2_ix rfl e2 nofun ?_
  walk_at "d"
  obtain ⟨c1, hc1⟩ := let_at l2 u2
  refine op2_ixS (by decide) hc1 ?_
  walk_at "d"
  refine ev_lc1 (gw_name _) ?_
  walk_at "d"
  refine ⟨_, _, 9, rfl, rfl, by decide, by decide, fun j acc => ∃ ys : List Str, acc = ys.map Da.str ∧ ys.length = j ∧ ∀ y ∈ ys, y.length = 1, ⟨[], rfl, rfl, nofun⟩, ?_, ?_⟩
  · rintro j acc hj ⟨ys, rfl, hy, hy1⟩
    have hz : strSizes[3 + j]? = some 36 := by
      have : j = 0 ∨ j = 1 ∨ j = 2 ∨ j = 3 ∨ j = 4 ∨ j = 5 ∨ j = 6 ∨ j = 7 ∨ j = 8 := by omega
      rcases this with rfl | rfl | rfl | rfl | rfl | rfl | rfl | rfl | rfl <;> rfl
    obtain ⟨z2, g0, g1, g2, g3⟩ := dig_at hD (3 + j) hz
    obtain ⟨c2, hc2⟩ := sgn_at g2 g3
    walk_at "d"
    refine op2_ix rfl (by rw [show (3 : Int) + (j : Int) = ((3 + j : Nat) : Int) by omega]; exact g1) nofun ?_
    walk_at "d"
    refine op2_ixS (by decide) hc2 ?_
    walk_at "d"
    refine ⟨ys ++ [⟨#[c2]⟩], by rw [List.map_append]; rfl, by rw [List.length_append, hy]; rfl, fun y hm => ?_⟩
    rcases List.mem_append.mp hm with hm | hm
    · exact hy1 y hm
    · rw [List.mem_singleton.mp hm]; rfl
  rintro acc ha ⟨ys, rfl, hy, hy1⟩
  have hjl := join0_len ys (n := 1) fun y hm => by rw [hy1 y hm]; exact Nat.le_refl _
  rw [hy] at hjl
  have hsum := ones_sum ys hy1
  refine ⟨ys, .inl rfl, nofun, by rw [show ("" : Str).length = 0 from rfl]; omega, ?_⟩
  generalize Txt.join "" ys = jj at hjl
  have hl1 : (⟨#[c1]⟩ : Str).length = 1 := rfl
  refine op2_addS (size_le (by rw [hl1]; omega)) ?_
  have hlen : ((⟨#[c1]⟩ : Str) ++ jj).length ≤ 10 := by rw [Str.length_append, hl1]; omega
  have hlp : 1 ≤ ((⟨#[c1]⟩ : Str) ++ jj).length := by rw [Str.length_append, hl1]; omega
  generalize (⟨#[c1]⟩ : Str) ++ jj = ff at hlen hlp
  walk_at "d"
  refine op2_ix rfl e1 nofun ?_
  walk_at "d"
  have hn1 := cut_pos (d := d1) hlp l1
  have hn2 := cutS_length ff none (some (1 + d1))
  generalize cutS ff none (some (1 + d1)) = nm at hn1 hn2
  refine op2_ix rfl e13 nofun ?_
  walk_at "d"
  refine opn_lenS (size_le (by omega)) ?_
  walk_at "d"
  refine ⟨rfl, ?_⟩
  walk_at "d"
  refine op2_ix rfl e14 nofun ?_
  walk_at "d"
  obtain ⟨c3, hc3⟩ := asc_at l14 u14
  refine op2_ixS (by decide) hc3 ?_
  walk_at "d"
  refine op2_ix rfl e0 nofun ?_
  walk_at "d"
  refine sd_cut (fun env' => ∃ kd : Int, env' = [.dat (.lst (rs.map Da.int)), .dat (.bl b), .dat (.str letr), .dat (.str sgns), .dat (.str ff), .dat (.str nm), .dat (.int (d13 % (nm.length : Int))), .dat (.str ⟨#[c3]⟩), .dat (.int kd), .un, .un]) ?_ ?_
  · walk_at "d"
    cases b with
    | true => walk_at "d"; exact ⟨_, rfl⟩
    | false => walk_at "d"; exact ⟨_, rfl⟩
  rintro env' ⟨kd, rfl⟩
  have a0 : 0 ≤ d13 % (nm.length : Int) := Int.emod_nonneg _ (by omega)
  have a1 : d13 % (nm.length : Int) < nm.length := Int.emod_lt_of_pos _ (by omega)
  generalize d13 % (nm.length : Int) = at' at a0 a1
  have hcl : (⟨#[c3]⟩ : Str).length ≤ 1 := Nat.le_refl 1
  walk_at "d"
  refine iteD (fun h => ?_) (fun h => ?_)
  · walk_at "d"
    refine op2_ix rfl e2 nofun ?_
    walk_at "d"
    have ef : d2.fdiv 2 = d2 / 2 := Int.fdiv_eq_ediv_of_nonneg _ (by decide)
    obtain ⟨c, hc, hat⟩ := strs_ix menuS (i := d2.fdiv 2) (by omega) (by show _ < (13 : Int); omega)
    refine op2_ix (ds := menuS.map Da.str) rfl hat nofun ?_
    exact q _ (menuS_ok c hc)
  walk_at "d"
  refine iteD (fun h => ?_) (fun h => ?_)
  · walk_at "d"
    exact q nm (by omega)
  walk_at "d"
  refine iteD (fun h => ?_) (fun h => ?_)
  · walk_at "d"
    exact q ff (by omega)
  walk_at "d"
  refine iteD (fun h => ?_) (fun h => ?_)
  · walk_at "d"
    refine op2_ix rfl e12 nofun ?_
    walk_at "d"
    obtain ⟨c4, hc4⟩ := sgn_at l12 u12
    refine op2_ixS (by decide) hc4 ?_
    have hc4l : (⟨#[c4]⟩ : Str).length ≤ 1 := Nat.le_refl 1
    refine op2_addS (cat_sz hlen hc4l (by decide)) ?_
    walk_at "d"
    refine op2_addS (cat_sz hlen hlen (by decide)) ?_
    walk_at "d"
    refine op2_addS (cat_sz (cat_le hlen hlen) hlen (by decide)) ?_
    walk_at "d"
    refine op2_ix rfl e13 nofun ?_
    walk_at "d"
    obtain ⟨c, hc, hat⟩ := strs_ix [ff ++ ⟨#[c4]⟩, ff ++ ff ++ ff, ""] (i := d13 % 3) (Int.emod_nonneg _ (by decide)) (Int.emod_lt_of_pos _ (by decide))
    refine op2_ix (ds := [ff ++ ⟨#[c4]⟩, ff ++ ff ++ ff, ""].map Da.str) rfl hat nofun ?_
    refine q _ ?_
    simp only [List.mem_cons, List.not_mem_nil, or_false] at hc
    rcases hc with rfl | rfl | rfl
    · exact Nat.le_trans (cat_le hlen hc4l) (by decide)
    · exact Nat.le_trans (cat_le (cat_le hlen hlen) hlen) (by decide)
    · exact Nat.zero_le _
  walk_at "d"
  refine iteD (fun h => ?_) (fun h => ?_)
  · walk_at "d"
    refine op2_ix rfl e2 nofun ?_
    walk_at "d"
    obtain ⟨c4, hc4⟩ := dig10_at (d := d2 % 10) (Int.emod_nonneg _ (by decide)) (Int.emod_lt_of_pos _ (by decide))
    refine op2_ixS (z := digS) (by decide) hc4 ?_
    have hc4l : (⟨#[c4]⟩ : Str).length ≤ 1 := Nat.le_refl 1
    have hcu := cut_le (lo := some 1) (hi := none) (Nat.le_trans hn2 hlen)
    walk_at "d"
    refine op2_addS (cat_sz hc4l hcu (by decide)) ?_
    exact q _ (Nat.le_trans (cat_le hc4l hcu) (by decide))
  walk_at "d"
  refine iteD (fun h => ?_) (fun h => ?_)
  · walk_at "d"
    have hnm : nm.length ≤ 10 := Nat.le_trans hn2 hlen
    refine ev_upper ?_
    walk_at "d"
    refine ⟨by omega, ?_⟩
    have hup : (Txt.upper nm).length ≤ 30 := by have := PyProof.Rows.len_upper nm; omega
    generalize Txt.upper nm = up at hup
    have h1 : ∀ t : Str, t ∈ (["\n", " ", "_", "-", "A"] : List Str) → t.length ≤ 1 := by decide +kernel
    have hcu := cut_le (lo := some 1) (hi := none) hnm
    walk_at "d"
    refine op2_addS (cat_sz hnm (h1 _ (by decide)) (by decide)) ?_
    walk_at "d"
    refine op2_addS (cat_sz (h1 _ (by decide)) hnm (by decide)) ?_
    walk_at "d"
    refine op2_addS (cat_sz hnm (h1 _ (by decide)) (by decide)) ?_
    walk_at "d"
    refine op2_addS (cat_sz hnm (h1 _ (by decide)) (by decide)) ?_
    walk_at "d"
    refine op2_addS (cat_sz (h1 _ (by decide)) hnm (by decide)) ?_
    walk_at "d"
    refine op2_addS (cat_sz (h1 _ (by decide)) hcu (by decide)) ?_
    walk_at "d"
    refine op2_ix rfl e12 nofun ?_
    walk_at "d"
    obtain ⟨c, hc, hat⟩ := strs_ix [up, nm ++ Str.ofString "\n", Str.ofString " " ++ nm, nm ++ Str.ofString " ", nm ++ Str.ofString "_", Str.ofString "-" ++ nm, Str.ofString "A" ++ cutS nm (some 1) none] (i := d12 % 7) (Int.emod_nonneg _ (by decide)) (Int.emod_lt_of_pos _ (by decide))
    refine op2_ix (ds := [up, nm ++ Str.ofString "\n", Str.ofString " " ++ nm, nm ++ Str.ofString " ", nm ++ Str.ofString "_", Str.ofString "-" ++ nm, Str.ofString "A" ++ cutS nm (some 1) none].map Da.str) rfl hat nofun ?_
    refine q _ ?_
    simp only [List.mem_cons, List.not_mem_nil, or_false] at hc
    rcases hc with rfl | rfl | rfl | rfl | rfl | rfl | rfl
    · exact Nat.le_trans hup (by decide)
    · exact Nat.le_trans (cat_le hnm (h1 _ (by decide))) (by decide)
    · exact Nat.le_trans (cat_le (h1 _ (by decide)) hnm) (by decide)
    · exact Nat.le_trans (cat_le hnm (h1 _ (by decide))) (by decide)
    · exact Nat.le_trans (cat_le hnm (h1 _ (by decide))) (by decide)
    · exact Nat.le_trans (cat_le (h1 _ (by decide)) hnm) (by decide)
    · exact Nat.le_trans (cat_le (h1 _ (by decide)) hcu) (by decide)
  walk_at "d"
  refine iteD (fun h => ?_) (fun h => ?_)
  · walk_at "d"
    have hnm : nm.length ≤ 10 := Nat.le_trans hn2 hlen
    have x1 := cut_le (lo := none) (hi := some at') hnm
    have x2 := cut_le (lo := some (at' + 1)) (hi := none) hnm
    refine op2_addS (cat_sz x1 hcl (by decide)) ?_
    walk_at "d"
    refine op2_addS (cat_sz (cat_le x1 hcl) x2 (by decide)) ?_
    exact q _ (Nat.le_trans (cat_le (cat_le x1 hcl) x2) (by decide))
  walk_at "d"
  refine iteD (fun h => ?_) (fun h => ?_)
  · walk_at "d"
    have hnm : nm.length ≤ 10 := Nat.le_trans hn2 hlen
    have x1 := cut_le (lo := none) (hi := some at') hnm
    have x2 := cut_le (lo := some at') (hi := none) hnm
    refine op2_addS (cat_sz x1 hcl (by decide)) ?_
    walk_at "d"
    refine op2_addS (cat_sz (cat_le x1 hcl) x2 (by decide)) ?_
    exact q _ (Nat.le_trans (cat_le (cat_le x1 hcl) x2) (by decide))
  walk_at "d"
  refine ev_lc1 (gw_name _) ?_
  walk_at "d"
  refine op2_ix rfl e13 nofun ?_
  walk_at "d"
  obtain ⟨m, rfl⟩ := Int.eq_ofNat_of_zero_le l13
  refine ⟨_, _, m, rfl, Int.toNat_natCast m, by omega, by show m < 16777216; omega, fun j acc => ∃ ys : List Str, acc = ys.map Da.str ∧ ys.length = j ∧ ∀ y ∈ ys, y.length = 1, ⟨[], rfl, rfl, nofun⟩, ?_, ?_⟩
  · rintro j acc hj ⟨ys, rfl, hy, hy1⟩
    have hz : strSizes[15 + j]? = some 95 := by
      have : j = 0 ∨ j = 1 ∨ j = 2 ∨ j = 3 ∨ j = 4 ∨ j = 5 ∨ j = 6 ∨ j = 7 ∨ j = 8 ∨ j = 9 ∨ j = 10 ∨ j = 11 := by omega
      rcases this with rfl | rfl | rfl | rfl | rfl | rfl | rfl | rfl | rfl | rfl | rfl | rfl <;> rfl
    obtain ⟨z2, g0, g1, g2, g3⟩ := dig_at hD (15 + j) hz
    obtain ⟨c2, hc2⟩ := asc_at g2 g3
    walk_at "d"
    refine ⟨rfl, ?_⟩
    walk_at "d"
    refine op2_ix rfl (by rw [show (15 : Int) + (j : Int) = ((15 + j : Nat) : Int) by omega]; exact g1) nofun ?_
    walk_at "d"
    refine op2_ixS (by decide) hc2 ?_
    walk_at "d"
    refine ⟨ys ++ [⟨#[c2]⟩], by rw [List.map_append]; rfl, by rw [List.length_append, hy]; rfl, fun y hm => ?_⟩
    rcases List.mem_append.mp hm with hm | hm
    · exact hy1 y hm
    · rw [List.mem_singleton.mp hm]; rfl
  rintro acc ha ⟨ys, rfl, hy, hy1⟩
  have hjl := join0_len ys (n := 1) fun y hm => by rw [hy1 y hm]; exact Nat.le_refl _
  rw [hy] at hjl
  have hsum := ones_sum ys hy1
  refine ⟨ys, .inl rfl, nofun, by rw [show ("" : Str).length = 0 from rfl]; omega, ?_⟩
  exact q _ (by omega)
end JP
set_option Elab.async false
set_option linter.all false
set_option maxRecDepth 100000
set_option maxHeartbeats 4000000
set_option pp.deepTerms false
set_option pp.deepTerms.threshold 6
set_option pp.maxSteps 1200
namespace JP
open PySem PySem.Spec PyProof.Rows L2 L2H JPX
local macro_rules | `(tactic| walk_at "nb") => `(tactic| first | with_reducible exact fz_bw | with_reducible exact nw_bw | with_reducible exact ow_bw)
local macro_rules | `(tactic| walk_at "kd") => `(tactic| first | with_reducible exact Or.inl rfl | with_reducible exact Or.inr rfl)
local macro_rules | `(tactic| walk_at "af") => `(tactic| repeat (first | with_reducible exact allF_nil | ((with_reducible refine allF_cons ?h ?_); (case h => walk_at "kd"))))
local macro_rules | `(tactic| walk_at "sz") => `(tactic| (simp only [List.length_cons, List.length_nil, List.length_append, List.length_map, List.length_range]; decide))
local macro_rules | `(tactic| walk_at "side") => `(tactic| first | assumption | (exact small_div (by omega) (by omega)) | (exact small_mul (by omega) (by omega)) | (exact med_mul (by omega) (by omega)) | (exact big_mul (by omega) (by omega)) | (exact ⟨by decide, by decide, by decide⟩) | (show (0 : Int) < _; omega))
local macro_rules | `(tactic| walk_at "d0") => `(tactic| simp only [cxOf_K, List.map_cons, List.map_nil, List.length_cons, List.length_nil, Nat.reduceAdd, Nat.reduceSub, List.replicate_succ, List.replicate_zero, List.cons_append, List.nil_append])
local macro_rules | `(tactic| walk_at "ds") => `(tactic| try dsimp only [wipeE, List.set_cons_zero, List.set_cons_succ])
local macro_rules | `(tactic| walk_at "dm") => `(tactic| dsimp only [List.map])
local macro_rules | `(tactic| walk_at "dS") => `(tactic| first
  | with_reducible refine sd_seq ?_
  | with_reducible refine sd_next ?_
  | ((with_reducible refine sd_own ?h ?q); (case h => exact rfl))
  | ((with_reducible refine sd_setI (ds := ?ds) ?e ?q); (case e => exact rfl))
  | with_reducible refine sd_asg ?_
  | with_reducible refine sd_if ?_
  | with_reducible refine sd_ret ?_
  | with_reducible refine sd_new ?_
  | ((with_reducible refine sd_app (ds := ?ds) ?e ?q); (case e => exact rfl))
  | ((with_reducible refine sd_dput (kvs := ?kvs) ?e ?q); (case e => exact rfl))
  | ((with_reducible refine sd_mputT (kvs := ?kvs) ?e ?q); (case e => exact rfl))
  | with_reducible refine sd_drop ?_
  | with_reducible refine sd_ret0 ?_
  | with_reducible refine sd_for ?_
  | with_reducible refine sd_for1 ?_
  | with_reducible refine sd_for2 ?_
  | with_reducible refine sd_for3 ?_
  | ((with_reducible refine sd_augI (a := ?a) ?e ?q); (case e => exact rfl))
  | with_reducible refine sd_brk ?_
  | with_reducible refine sd_cont ?_)
local macro_rules | `(tactic| walk_at "dE") => `(tactic| first
  | ((with_reducible refine ev_var (d := ?d) ?e ?q); (case e => exact rfl))
  | ((with_reducible refine ev_own (d := ?d) ?e ?q); (case e => exact rfl))
  | with_reducible refine ev_int ?_
  | with_reducible refine ev_op ?_
  | with_reducible refine ev_cb ?_
  | ((with_reducible refine ev_call ?l ?q); (case l => assumption))
  | with_reducible refine ev_tup ?_
  | with_reducible refine ev_lst ?_
  | with_reducible refine ev_un ?_
  | with_reducible refine ev_bl ?_
  | with_reducible refine ev_non ?_
  | with_reducible refine ev_str ?_
  | with_reducible refine ev_ty ?_
  | with_reducible refine ev_ref ?_
  | with_reducible refine ev_if ?_
  | with_reducible refine ev_not ?_
  | with_reducible refine ev_notT ?_
  | with_reducible refine ev_and ?_
  | with_reducible refine ev_or ?_
  | with_reducible refine ev_chain ?_
  | with_reducible refine ev_bits ?_
  | with_reducible refine ev_dget ?_
  | with_reducible refine ev_dget2 ?_
  | with_reducible refine ev_mgT ?_
  | with_reducible refine ev_mg2T ?_
  | with_reducible refine ev_dnewT ?_
  | with_reducible refine ev_slT ?_
  | with_reducible refine ev_slS ?_
  | with_reducible refine ev_join ?_
  | with_reducible refine ev_dnew ?_
  | with_reducible refine ev_slL ?_
  | with_reducible refine ev_disp1 ?_
  | with_reducible refine ev_dispT ?_)
local macro_rules | `(tactic| walk_at "dO") => `(tactic| first
  | with_reducible refine op2_addI ?_
  | with_reducible refine op2_I0 ?_
  | ((with_reducible refine op2_addL ?a ?b ?z ?q); (case a => walk_at "nb"); (case b => walk_at "nb"); (case z => first | walk_at "sz" | exact size_le (by simp only [List.length_cons, List.length_nil, List.length_append, List.length_map, List.length_range, List.length_take, List.length_drop]; omega)))
  | with_reducible refine op2_B0 ?_
  | ((with_reducible refine op2_ix (ds := ?ds) (d := ?d) ?e ?a ?k ?q); (case e => exact rfl); (case a => exact rfl); (case k => walk_at "nb"))
  | with_reducible refine op2_eqI ?_
  | with_reducible refine op2_neI ?_
  | with_reducible refine op2_p18 ?_
  | with_reducible refine op2_p9 ?_
  | with_reducible refine op2_p6 ?_
  | with_reducible refine op2_p30 ?_
  | with_reducible refine op2_p12 ?_
  | with_reducible refine op2_p15 ?_
  | with_reducible refine op2_p24 ?_
  | with_reducible refine op2_p20 ?_
  | with_reducible refine op2_p2 ?_
  | with_reducible refine op2_p3 ?_
  | with_reducible refine op2_p4 ?_
  | with_reducible refine op2_p5 ?_
  | ((with_reducible refine op2_I ?c ?q); (case c => walk_at "side"))
  | with_reducible refine op2_eqS ?_
  | with_reducible refine op2_neS ?_
  | with_reducible refine op2_eqB ?_
  | with_reducible refine op2_neB ?_
  | with_reducible refine op2_is ?_
  | with_reducible refine op2_isNot ?_)
local macro_rules | `(tactic| walk_at "dN") => `(tactic| first
  | with_reducible refine opn_int ?_
  | ((with_reducible refine opn_len (ds := ?ds) ?e ?q); (case e => exact rfl))
  | with_reducible refine opn_lenD ?_
  | ((with_reducible refine opn_lenT ?l ?q); (case l => assumption))
  | with_reducible refine opn_intB ?_
  | with_reducible refine opn_abs ?_
  | with_reducible refine opn_gcd ?_
  | ((with_reducible refine opn_list (ds := ?ds) ?e ?k ?q); (case e => exact rfl); (case k => walk_at "nb"))
  | ((with_reducible refine opn_tuple (ds := ?ds) ?e ?k ?s ?q); (case e => exact rfl); (case k => walk_at "nb"); (case s => exact (fun _ => nofun)))
  | ((with_reducible refine opn_isi true ?n ?c ?e ?q); (case e => exact rfl); (case n => exact rfl); (case c => exact rfl))
  | ((with_reducible refine opn_isi false ?n ?c ?e ?q); (case e => exact rfl); (case n => exact rfl); (case c => exact rfl)))
local macro_rules | `(tactic| walk_at "dT") => `(tactic| first
  | with_reducible refine tt_test ?_
  | with_reducible refine tt_B ?_
  | with_reducible refine tt_and ?_
  | with_reducible refine tt_or ?_
  | with_reducible refine tt_not ?_
  | with_reducible refine tt_yes ?_
  | with_reducible refine tt_tru ?_)
local macro_rules | `(tactic| walk_at "dG") => `(tactic| first
  | ((with_reducible refine gt_name ?k ?q); (case k => walk_at "kd"); (walk_at "ds"))
  | ((with_reducible refine gn_name ?_); (walk_at "ds"))
  | ((with_reducible refine gn_tup (ds := ?ds) ?e ?n ?q); (case e => exact rfl); (case n => exact rfl))
  | ((with_reducible refine gt_tup (ds := ?ds) ?e ?n ?k ?q); (case e => exact rfl); (case n => exact rfl); (case k => walk_at "nb"))
  | ((with_reducible refine gta_name ?_); (walk_at "ds"))
  | ((with_reducible refine gta_tup (es := ?es) ?e ?n ?q); (case e => exact rfl); (case n => exact rfl))
  | with_reducible refine gta_nil ?_)
local macro_rules | `(tactic| walk_at "d1") => `(tactic| first
  | ((with_reducible show Ev _ _ _ _ _); walk_at "dE")
  | ((with_reducible show EvA _ _ _ _ _); first | with_reducible refine eva_cons ?_ | with_reducible refine eva_nil ?_)
  | ((with_reducible show Op2 _ _ _ _ _ _); walk_at "dO")
  | ((with_reducible show Sd _ _ _ _ _); walk_at "dS")
  | ((with_reducible show Gt _ _ _ _ _ _ _); walk_at "dG")
  | ((with_reducible show Tt _ _ _ _ _); walk_at "dT")
  | ((with_reducible show OpN _ _ _ _ _); walk_at "dN")
  | with_reducible refine bl_i ?_
  | with_reducible refine eq_int ?_
  | ((with_reducible refine lct_yes ?_); (try dsimp only [wipeE, List.set_cons_zero, List.set_cons_succ]))
  | ((with_reducible refine lct_g ?_); (try dsimp only [wipeE, List.set_cons_zero, List.set_cons_succ]))
  | with_reducible refine pt_no ?_
  | with_reducible refine pt_some ?_
  | with_reducible refine ls_fz ?_
  | with_reducible refine ls_ow ?_
  | with_reducible refine ls_nw ?_
  | with_reducible refine ls_s ?_
  | with_reducible refine dk_fz ?_
  | with_reducible refine dk_ow ?_
  | with_reducible refine dk_nw ?_
  | with_reducible refine key_i ?_
  | with_reducible refine key_s ?_
  | with_reducible refine dt_fz ?_
  | with_reducible refine dt_ow ?_
  | with_reducible refine dt_nw ?_
  | with_reducible refine tk_fz ?_
  | with_reducible refine tp_fz ?_
  | with_reducible refine st_i ?_
  | ((with_reducible show Gn _ _ _ _ _ _); walk_at "dG")
  | ((with_reducible show GtA _ _ _ _ _ _); walk_at "dG")
  | ((with_reducible show Op1 _ _ _ _ _); with_reducible refine op1_U ?_)
  | ((with_reducible show (_ = Kd.fz ∨ _) ∧ _); (with_reducible refine ⟨?f, ?q⟩); (case f => walk_at "kd"))
  | ((with_reducible show (_ = Kd.nw ∨ _) ∧ _); (with_reducible refine ⟨?f, ?q⟩); (case f => walk_at "kd"))
  | ((with_reducible show (allF _) ∧ _); (with_reducible refine ⟨?f, ?q⟩); (case f => walk_at "af"); (try walk_at "dm"))
  | ((with_reducible show (_ ≤ sizeLine) ∧ _); (with_reducible refine ⟨?z, ?q⟩); (case z => first | walk_at "sz" | exact size_le (by omega)))
  | ((with_reducible show (_ = Kd.nw) ∧ _); (with_reducible refine ⟨rfl, ?q⟩); (try walk_at "ds"))
  | ((with_reducible show (_ ≠ Kd.bw) ∧ _); (with_reducible refine ⟨?f, ?q⟩); (case f => walk_at "nb"))
  | ((with_reducible show (Da.truOk _ _) ∧ _); (with_reducible refine ⟨?f, ?q⟩); (case f => first | exact trivial | assumption))
  | with_reducible refine iff_t rfl ?_
  | with_reducible refine iff_f rfl ?_)
local macro_rules | `(tactic| walk_at "d") => `(tactic| repeat (walk_at "d1"))
local macro_rules | `(tactic| walk_at "dE") => `(tactic| first
  | with_reducible refine ev_mk0 ?_
  | with_reducible refine ev_mkV ?_
  | with_reducible refine ev_xv ?_)
local macro_rules | `(tactic| walk_at "d1") => `(tactic| first
  | with_reducible refine xc_i ?_
  | with_reducible refine mkv_i rfl (by decide) ?_
  | ((with_reducible show (_ = Kd.fz) ∧ _); (with_reducible refine ⟨rfl, ?_⟩)))
def headS : List Int := [7, 2, 5, 6, 6, 6, 6]
theorem strSizes_ok : (∀ z ∈ strSizes, 0 < z ∧ z < 1073741824) ∧ strSizes.length ≤ 1000 := by decide +kernel
def Sh (ss : List Str) : Prop := ss.length ≤ 6 ∧ ∀ s ∈ ss, s.length ≤ 40
theorem Sh.set {ss : List Str} (h : Sh ss) {s : Str} (hs : s ∈ ss) (i : Nat) : Sh (ss.set i s) := by
  refine ⟨by rw [List.length_set]; exact h.1, fun t ht => ?_⟩
  rcases List.mem_or_eq_of_mem_set ht with ht | rfl
  · exact h.2 t ht
  · exact h.2 _ hs
theorem mapS_set (ss : List Str) (i : Nat) (s : Str) : (ss.map Da.str).set i (.str s) = (ss.set i s).map Da.str := (List.map_set ..).symm
theorem ixN_of {n : Nat} {e : Int} (h0 : 0 ≤ e) (h1 : e < n) : ixN n e = some e.toNat := by
  have := ixN_nat (n := n) (j := e.toNat) (by omega)
  rwa [Int.toNat_of_nonneg h0] at this
theorem strs_mod (ss : List Str) (h : 0 < ss.length) (d : Int) : (∃ c, c ∈ ss ∧ atI (ss.map Da.str) (d % (ss.length : Int)) = some (.str c)) ∧ ∃ n, ixN ss.length (d % (ss.length : Int)) = some n := by
  have a0 : 0 ≤ d % (ss.length : Int) := Int.emod_nonneg _ (by omega)
  have a1 : d % (ss.length : Int) < ss.length := Int.emod_lt_of_pos _ (by omega)
  refine ⟨strs_ix ss a0 a1, (d % (ss.length : Int)).toNat, ?_⟩
  exact ixN_of a0 a1
def R__law_strings : SpR := fun ds Pq _ => ∃ (ns : List Int) (k : Int), ds = [.sls (ns.map Da.int), .int k] ∧ 0 ≤ k ∧ k ≤ 900 ∧ ∀ ss, Sh ss → Pq .fz (.lst (ss.map Da.str))
theorem sc__law_strings : FnScope ["script", "at", "head", "strings", "k", "row"] ["script", "at"] (defScope (top 44)) := ⟨rfl, rfl, rfl, by decide +kernel, rfl, by decide +kernel, by decide +kernel⟩
theorem d__law_strings {P : Program} {w : World} {K : PySem.W.Frag} {mg : Str → Option Value} {base : Heap} (T : Tx K mg) : Def P w K mg base "_law_strings" 3 ["script", "at"] (SpD K (R__law_strings)) := by
  refine Def.of T.at__law_strings sc__law_strings (fun _ _ _ _ _ _ us hl => match us, hl with | [_, _], _ => rfl) (fun vs H Q E h => by (obtain ⟨_, _, _, _, _, h2, h, _⟩ := h; rw [← h2.len]; obtain ⟨_, _, rfl, _⟩ := h; rfl)) (fun f cdv A outer s H vs Q E hr h => ?_)
  refine ⟨_, PSs.nox (pss_cons (ps_set (i := 2) sc__law_strings.nd rfl (Or.inl rfl) (pe_def (d__law_digits T) (hr.mono (by decide)) (by rfl) (pa_cons (pe_def (d__law_cell T) (hr.mono (by decide)) (by rfl) (pa_cons (pv 0) (pa_cons (pv 1) pa_nil))) (pa_cons (pe_lstA (pa_cons pe_int (pa_cons pe_int (pa_cons pe_int (pa_cons pe_int (pa_cons pe_int (pa_cons pe_int (pa_cons pe_int pa_nil)))))))) pa_nil))))
      (pss_cons (ps_own (ps_set (i := 3) sc__law_strings.nd rfl (Or.inl rfl) (pe_lstA pa_nil)))
      (pss_cut (ps_for PassesOwn.never rfl (pi_range1 (by rfl) T.n_range (pa_cons (pe_ix ix_seq (pv 2) pe_int (fun _ _ => rfl)) pa_nil)) (pg_name (i := 4) sc__law_strings.nd rfl (Or.inl rfl)) (pss_cons (ps_set (i := 5) sc__law_strings.nd rfl (Or.inl rfl) (pe_def (d__law_digits T) (hr.mono (by decide)) (by rfl) (pa_cons (pe_def (d__law_cell T) (hr.mono (by decide)) (by rfl) (pa_cons (pv 0) (pa_cons (pe_op op_addA (pe_op op_addA (pv 1) pe_int) (pv 4)) pa_nil))) (pa_cons (pe_op op_addA (pe_op op_addA (pe_op op_addA (pe_lstA (pa_cons pe_int (pa_cons pe_int (pa_cons pe_int pa_nil)))) (pe_op op_repA (pe_lstA (pa_cons pe_int pa_nil)) pe_int)) (pe_lstA (pa_cons pe_int (pa_cons pe_int pa_nil)))) (pe_op op_repA (pe_lstA (pa_cons pe_int pa_nil)) pe_int)) pa_nil))))
      (pss_one (ps_expr (pe_bm PySem.F.plainAttrs_list PySem.F.slot_list_append PySem.F.type_list_append mt_appendA (pv 3) (pa_cons (pe_def (d__law_string T) (hr.mono (by decide)) (by rfl) (pa_cons (pv 5) (pa_cons (pe_cmpR (op_eqA hr.units) (pe_ix ix_seq (pv 2) pe_int (fun _ _ => rfl)) pe_int (nomark _)) pa_nil))) pa_nil))))))
      (pss_cut (ps_if (PW.pt (pw_and (pt_cmpR op_gt (pe_callB call_lenA (by rfl) T.n_len (by decide +kernel) (pa_cons (pv 3) pa_nil)) pe_int (nomark _)) (pw_and1 (pt_cmpR op_lt (pe_ix ix_seq (pv 2) pe_int (fun _ _ => rfl)) pe_int (nomark _))))) (pss_one (ps_asg (pe_ix ix_seq (pv 3) (pe_op op_mod (pe_callTy call_intA (by rfl) T.n_int (by decide +kernel) (pa_cons (pe_ix ix_seq (pv 2) pe_int (fun _ _ => rfl)) pa_nil)) (pe_callB call_lenA (by rfl) T.n_len (by decide +kernel) (pa_cons (pv 3) pa_nil))) (fun _ _ => rfl)) (pg_sub (pv 3) (pe_op op_mod (pe_callTy call_intA (by rfl) T.n_int (by decide +kernel) (pa_cons (pe_ix ix_seq (pv 2) pe_int (fun _ _ => rfl)) pa_nil)) (pe_callB call_lenA (by rfl) T.n_len (by decide +kernel) (pa_cons (pv 3) pa_nil))) set_list))) pss_nil)
      (pss_cut (ps_if (PW.pt (pw_and (pt_cmpR op_gt (pe_callB call_lenA (by rfl) T.n_len (by decide +kernel) (pa_cons (pv 3) pa_nil)) pe_int (nomark _)) (pw_and1 (pt_cmpR (op_eqA hr.units) (pe_ix ix_seq (pv 2) pe_int (fun _ _ => rfl)) pe_int (nomark _))))) (pss_one (ps_asg (pe_ix ix_seq (pv 3) (pe_op op_mod (pe_callTy call_intA (by rfl) T.n_int (by decide +kernel) (pa_cons (pe_ix ix_seq (pv 2) pe_int (fun _ _ => rfl)) pa_nil)) (pe_callB call_lenA (by rfl) T.n_len (by decide +kernel) (pa_cons (pv 3) pa_nil))) (fun _ _ => rfl)) (pg_sub (pv 3) (pe_op op_mod (pe_callTy call_intA (by rfl) T.n_int (by decide +kernel) (pa_cons (pe_ix ix_seq (pv 2) pe_int (fun _ _ => rfl)) pa_nil)) (pe_callB call_lenA (by rfl) T.n_len (by decide +kernel) (pa_cons (pv 3) pa_nil))) set_list))) pss_nil)
      (pss_cut (ps_if (PW.pt (pw_and (pt_cmpR op_gt (pe_callB call_lenA (by rfl) T.n_len (by decide +kernel) (pa_cons (pv 3) pa_nil)) pe_int (nomark _)) (pw_and1 (pt_cmpR (op_eqA hr.units) (pe_ix ix_seq (pv 2) pe_int (fun _ _ => rfl)) pe_int (nomark _))))) (pss_cons (ps_asg (pe_ix ix_seq (pv 3) pe_int (fun _ _ => rfl)) (pg_sub (pv 3) pe_int set_list))
      (pss_one (ps_asg (pe_ix ix_seq (pv 3) pe_int (fun _ _ => rfl)) (pg_sub (pv 3) pe_int set_list)))) pss_nil)
      (pss_one (ps_ret (pv 3))))))))), ?_⟩
  obtain ⟨F, ds, Pq, Xq, hF, ha, h, hQ, hE⟩ := h
  refine sd_top hF ha hQ ?_
  clear hQ ha hE
  generalize hB0 : (⟨F, H, []⟩ : Bs) = B
  have hL : B.L = [] := by rw [← hB0]
  clear hB0
  obtain ⟨ns, k, rfl, hk0, hk1, q⟩ := h
  walk_at "d0"
  walk_at "d"
  refine ⟨ns, k, rfl, hk0, by omega, ?_⟩
  walk_at "d"
  refine ⟨_, _, headS, rfl, by rfl, by decide, by decide, ?_⟩
  have hD : Dig headS (digits (lawCell ns k) headS) := digits_ok _ _ (by decide)
  generalize digits (lawCell ns k) headS = hs at hD
  obtain ⟨d0, _, e0, l0, u0⟩ := dig_at hD 0 (z := 7) rfl
  obtain ⟨d1, _, e1, l1, u1⟩ := dig_at hD 1 (z := 2) rfl
  obtain ⟨d2, _, e2, l2, u2⟩ := dig_at hD 2 (z := 5) rfl
  obtain ⟨d3, _, e3, l3, u3⟩ := dig_at hD 3 (z := 6) rfl
  obtain ⟨d4, _, e4, l4, u4⟩ := dig_at hD 4 (z := 6) rfl
  obtain ⟨d5, _, e5, l5, u5⟩ := dig_at hD 5 (z := 6) rfl
  obtain ⟨d6, _, e6, l6, u6⟩ := dig_at hD 6 (z := 6) rfl
  walk_at "d"
  have nh : (d0.toNat : Int) = d0 := Int.toNat_of_nonneg l0
  refine sd_cut (fun env' => ∃ (ss : List Str) (v4 v5 : Sl), env' = [.dat (.sls (ns.map Da.int)), .dat (.int k), .dat (.lst (hs.map Da.int)), .own (.lst (ss.map Da.str)), v4, v5] ∧ Sh ss) ?_ ?_
  · walk_at "d"
    refine op2_ix rfl e0 nofun ?_
    walk_at "d"
    refine ⟨_, _, d0.toNat, rfl, rfl, by omega, fun i env' => ∃ (ss : List Str) (v4 v5 : Sl), env' = [.dat (.sls (ns.map Da.int)), .dat (.int k), .dat (.lst (hs.map Da.int)), .own (.lst (ss.map Da.str)), v4, v5] ∧ ss.length = i ∧ ∀ s ∈ ss, s.length ≤ 40, ⟨[], _, _, rfl, rfl, nofun⟩, ?_, ?_⟩
    · rintro i env' hi ⟨ss, v4, v5, rfl, hn, hs'⟩
      walk_at "d"
      refine ⟨ns, _, rfl, by omega, by omega, ?_⟩
      walk_at "d"
      refine op2_rep nofun (by decide) (by decide) (by decide) ?_
      walk_at "d"
      refine op2_rep nofun (by decide) (by decide) (by decide) ?_
      walk_at "d"
      refine ⟨_, _, strSizes, rfl, by rfl, strSizes_ok.1, strSizes_ok.2, ?_⟩
      have hE : Dig strSizes (digits (lawCell ns (k + 1 + i)) strSizes) := digits_ok _ _ fun z hz => (strSizes_ok.1 z hz).1
      generalize digits (lawCell ns (k + 1 + i)) strSizes = rs at hE
      walk_at "d"
      refine op2_ix rfl e1 nofun ?_
      walk_at "d"
      refine ⟨rs, _, rfl, hE, fun s hs2 => ?_⟩
      walk_at "d"
      refine ⟨size_of (by rw [List.length_map]; omega), ?_⟩
      walk_at "ds"
      refine ⟨ss ++ [s], _, _, by rw [List.map_append]; rfl, by rw [List.length_append, hn]; rfl, fun t ht => ?_⟩
      rcases List.mem_append.mp ht with ht | ht
      · exact hs' t ht
      · rw [List.mem_singleton.mp ht]; exact hs2
    · rintro env' ⟨ss, v4, v5, rfl, hn, hs'⟩
      exact ⟨ss, _, _, rfl, by omega, hs'⟩
  rintro env' ⟨ss, v4, v5, rfl, hS⟩
  refine sd_cut (fun env' => ∃ ss : List Str, env' = [.dat (.sls (ns.map Da.int)), .dat (.int k), .dat (.lst (hs.map Da.int)), .own (.lst (ss.map Da.str)), v4, v5] ∧ Sh ss) ?_ ?_
  · walk_at "d"
    rw [List.length_map]
    refine iteD (fun h => ?_) (fun h => ?_)
    · have hp : 0 < ss.length := by omega
      walk_at "d"
      refine op2_ix rfl e2 nofun ?_
      walk_at "d"
      refine iteD (fun h2 => ?_) (fun h2 => ?_)
      · walk_at "d"
        refine op2_ix rfl e4 nofun ?_
        walk_at "d"
        rw [List.length_map]
        walk_at "d"
        obtain ⟨⟨c, hc, hat⟩, _⟩ := strs_mod ss hp d4
        refine op2_ix rfl hat nofun ?_
        walk_at "d"
        refine op2_ix rfl e3 nofun ?_
        walk_at "d"
        rw [List.length_map]
        walk_at "d"
        obtain ⟨_, n, hn⟩ := strs_mod ss hp d3
        exact ⟨_, n, rfl, hn, ss.set n c, by rw [← mapS_set]; rfl, hS.set hc n⟩
      · walk_at "d"
        exact ⟨ss, rfl, hS⟩
    · walk_at "d"
      exact ⟨ss, rfl, hS⟩
  clear hS ss
  rintro env' ⟨ss, rfl, hS⟩
  refine sd_cut (fun env' => ∃ ss : List Str, env' = [.dat (.sls (ns.map Da.int)), .dat (.int k), .dat (.lst (hs.map Da.int)), .own (.lst (ss.map Da.str)), v4, v5] ∧ Sh ss) ?_ ?_
  · walk_at "d"
    rw [List.length_map]
    refine iteD (fun h => ?_) (fun h => ?_)
    · have hp : 0 < ss.length := by omega
      walk_at "d"
      refine op2_ix rfl e2 nofun ?_
      walk_at "d"
      refine iteD (fun h2 => ?_) (fun h2 => ?_)
      · walk_at "d"
        refine op2_ix rfl e6 nofun ?_
        walk_at "d"
        rw [List.length_map]
        walk_at "d"
        obtain ⟨⟨c, hc, hat⟩, _⟩ := strs_mod ss hp d6
        refine op2_ix rfl hat nofun ?_
        walk_at "d"
        refine op2_ix rfl e5 nofun ?_
        walk_at "d"
        rw [List.length_map]
        walk_at "d"
        obtain ⟨_, n, hn⟩ := strs_mod ss hp d5
        exact ⟨_, n, rfl, hn, ss.set n c, by rw [← mapS_set]; rfl, hS.set hc n⟩
      · walk_at "d"
        exact ⟨ss, rfl, hS⟩
    · walk_at "d"
      exact ⟨ss, rfl, hS⟩
  clear hS ss
  rintro env' ⟨ss, rfl, hS⟩
  refine sd_cut (fun env' => ∃ ss : List Str, env' = [.dat (.sls (ns.map Da.int)), .dat (.int k), .dat (.lst (hs.map Da.int)), .own (.lst (ss.map Da.str)), v4, v5] ∧ Sh ss) ?_ ?_
  · walk_at "d"
    rw [List.length_map]
    refine iteD (fun h => ?_) (fun h => ?_)
    · have hp : 3 < ss.length := by omega
      walk_at "d"
      refine op2_ix rfl e2 nofun ?_
      walk_at "d"
      refine iteD (fun h2 => ?_) (fun h2 => ?_)
      · walk_at "d"
        refine op2_ix (d := .str ss[1]) rfl (show atI _ ((1 : Nat) : Int) = _ from atI_nat (by rw [List.getElem?_map, List.getElem?_eq_getElem (by omega)]; rfl)) nofun ?_
        walk_at "d"
        refine ⟨_, 2, rfl, ixN_nat (j := 2) (by rw [List.length_map]; omega), ?_⟩
        have hS2 := hS.set (List.getElem_mem (l := ss) (n := 1) (by omega)) 2
        have hp2 : 3 < (ss.set 2 ss[1]).length := by rw [List.length_set]; exact hp
        rw [mapS_set]
        generalize ss.set 2 ss[1] = st at hS2 hp2
        walk_at "d"
        refine op2_ix (d := .str st[0]) rfl (show atI _ ((0 : Nat) : Int) = _ from atI_nat (by rw [List.getElem?_map, List.getElem?_eq_getElem (by omega)]; rfl)) nofun ?_
        walk_at "d"
        exact ⟨_, 3, rfl, ixN_nat (j := 3) (by rw [List.length_map]; omega), st.set 3 st[0], by rw [← mapS_set]; rfl, hS2.set (List.getElem_mem (by omega)) 3⟩
      · walk_at "d"
        exact ⟨ss, rfl, hS⟩
    · walk_at "d"
      exact ⟨ss, rfl, hS⟩
  clear hS ss
  rintro env' ⟨ss, rfl, hS⟩
  walk_at "d"
  exact q ss hS
end JP
set_option Elab.async false
set_option linter.all false
set_option maxRecDepth 100000
set_option maxHeartbeats 4000000
set_option pp.deepTerms false
set_option pp.deepTerms.threshold 6
set_option pp.maxSteps 1200
namespace JP
open PySem PySem.Spec PyProof.Rows L2 L2H JPX
local macro_rules | `(tactic| walk_at "nb") => `(tactic| first | with_reducible exact fz_bw | with_reducible exact nw_bw | with_reducible exact ow_bw)
local macro_rules | `(tactic| walk_at "kd") => `(tactic| first | with_reducible exact Or.inl rfl | with_reducible exact Or.inr rfl)
local macro_rules | `(tactic| walk_at "af") => `(tactic| repeat (first | with_reducible exact allF_nil | ((with_reducible refine allF_cons ?h ?_); (case h => walk_at "kd"))))
local macro_rules | `(tactic| walk_at "sz") => `(tactic| (simp only [List.length_cons, List.length_nil, List.length_append, List.length_map, List.length_range]; decide))
local macro_rules | `(tactic| walk_at "side") => `(tactic| first | assumption | (exact small_div (by omega) (by omega)) | (exact small_mul (by omega) (by omega)) | (exact med_mul (by omega) (by omega)) | (exact big_mul (by omega) (by omega)) | (exact ⟨by decide, by decide, by decide⟩) | (show (0 : Int) < _; omega))
local macro_rules | `(tactic| walk_at "d0") => `(tactic| simp only [cxOf_K, List.map_cons, List.map_nil, List.length_cons, List.length_nil, Nat.reduceAdd, Nat.reduceSub, List.replicate_succ, List.replicate_zero, List.cons_append, List.nil_append])
local macro_rules | `(tactic| walk_at "ds") => `(tactic| try dsimp only [wipeE, List.set_cons_zero, List.set_cons_succ])
local macro_rules | `(tactic| walk_at "dm") => `(tactic| dsimp only [List.map])
local macro_rules | `(tactic| walk_at "dS") => `(tactic| first
  | with_reducible refine sd_seq ?_
  | with_reducible refine sd_next ?_
  | ((with_reducible refine sd_own ?h ?q); (case h => exact rfl))
  | ((with_reducible refine sd_setI (ds := ?ds) ?e ?q); (case e => exact rfl))
  | with_reducible refine sd_asg ?_
  | with_reducible refine sd_if ?_
  | with_reducible refine sd_ret ?_
  | with_reducible refine sd_new ?_
  | ((with_reducible refine sd_app (ds := ?ds) ?e ?q); (case e => exact rfl))
  | ((with_reducible refine sd_dput (kvs := ?kvs) ?e ?q); (case e => exact rfl))
  | ((with_reducible refine sd_mputT (kvs := ?kvs) ?e ?q); (case e => exact rfl))
  | with_reducible refine sd_drop ?_
  | with_reducible refine sd_ret0 ?_
  | with_reducible refine sd_for ?_
  | with_reducible refine sd_for1 ?_
  | with_reducible refine sd_for2 ?_
  | with_reducible refine sd_for3 ?_
  | ((with_reducible refine sd_augI (a := ?a) ?e ?q); (case e => exact rfl))
  | with_reducible refine sd_brk ?_
  | with_reducible refine sd_cont ?_)
local macro_rules | `(tactic| walk_at "dE") => `(tactic| first
  | ((with_reducible refine ev_var (d := ?d) ?e ?q); (case e => exact rfl))
  | ((with_reducible refine ev_own (d := ?d) ?e ?q); (case e => exact rfl))
  | with_reducible refine ev_int ?_
  | with_reducible refine ev_op ?_
  | with_reducible refine ev_cb ?_
  | ((with_reducible refine ev_call ?l ?q); (case l => assumption))
  | with_reducible refine ev_tup ?_
  | with_reducible refine ev_lst ?_
  | with_reducible refine ev_un ?_
  | with_reducible refine ev_bl ?_
  | with_reducible refine ev_non ?_
  | with_reducible refine ev_str ?_
  | with_reducible refine ev_ty ?_
  | with_reducible refine ev_ref ?_
  | with_reducible refine ev_if ?_
  | with_reducible refine ev_not ?_
  | with_reducible refine ev_notT ?_
  | with_reducible refine ev_and ?_
  | with_reducible refine ev_or ?_
  | with_reducible refine ev_chain ?_
  | with_reducible refine ev_bits ?_
  | with_reducible refine ev_dget ?_
  | with_reducible refine ev_dget2 ?_
  | with_reducible refine ev_mgT ?_
  | with_reducible refine ev_mg2T ?_
  | with_reducible refine ev_dnewT ?_
  | with_reducible refine ev_slT ?_
  | with_reducible refine ev_slS ?_
  | with_reducible refine ev_join ?_
  | with_reducible refine ev_dnew ?_
  | with_reducible refine ev_slL ?_
  | with_reducible refine ev_disp1 ?_
  | with_reducible refine ev_dispT ?_)
local macro_rules | `(tactic| walk_at "dO") => `(tactic| first
  | with_reducible refine op2_addI ?_
  | with_reducible refine op2_I0 ?_
  | ((with_reducible refine op2_addL ?a ?b ?z ?q); (case a => walk_at "nb"); (case b => walk_at "nb"); (case z => first | walk_at "sz" | exact size_le (by simp only [List.length_cons, List.length_nil, List.length_append, List.length_map, List.length_range, List.length_take, List.length_drop]; omega)))
  | with_reducible refine op2_B0 ?_
  | ((with_reducible refine op2_ix (ds := ?ds) (d := ?d) ?e ?a ?k ?q); (case e => exact rfl); (case a => exact rfl); (case k => walk_at "nb"))
  | with_reducible refine op2_eqI ?_
  | with_reducible refine op2_neI ?_
  | with_reducible refine op2_p18 ?_
  | with_reducible refine op2_p9 ?_
  | with_reducible refine op2_p6 ?_
  | with_reducible refine op2_p30 ?_
  | with_reducible refine op2_p12 ?_
  | with_reducible refine op2_p15 ?_
  | with_reducible refine op2_p24 ?_
  | with_reducible refine op2_p20 ?_
  | with_reducible refine op2_p2 ?_
  | with_reducible refine op2_p3 ?_
  | with_reducible refine op2_p4 ?_
  | with_reducible refine op2_p5 ?_
  | ((with_reducible refine op2_I ?c ?q); (case c => walk_at "side"))
  | with_reducible refine op2_eqS ?_
  | with_reducible refine op2_neS ?_
  | with_reducible refine op2_eqB ?_
  | with_reducible refine op2_neB ?_
  | with_reducible refine op2_is ?_
  | with_reducible refine op2_isNot ?_)
local macro_rules | `(tactic| walk_at "dN") => `(tactic| first
  | with_reducible refine opn_int ?_
  | ((with_reducible refine opn_len (ds := ?ds) ?e ?q); (case e => exact rfl))
  | with_reducible refine opn_lenD ?_
  | ((with_reducible refine opn_lenT ?l ?q); (case l => assumption))
  | with_reducible refine opn_intB ?_
  | with_reducible refine opn_abs ?_
  | with_reducible refine opn_gcd ?_
  | ((with_reducible refine opn_list (ds := ?ds) ?e ?k ?q); (case e => exact rfl); (case k => walk_at "nb"))
  | ((with_reducible refine opn_tuple (ds := ?ds) ?e ?k ?s ?q); (case e => exact rfl); (case k => walk_at "nb"); (case s => exact (fun _ => nofun)))
  | ((with_reducible refine opn_isi true ?n ?c ?e ?q); (case e => exact rfl); (case n => exact rfl); (case c => exact rfl))
  | ((with_reducible refine opn_isi false ?n ?c ?e ?q); (case e => exact rfl); (case n => exact rfl); (case c => exact rfl)))
local macro_rules | `(tactic| walk_at "dT") => `(tactic| first
  | with_reducible refine tt_test ?_
  | with_reducible refine tt_B ?_
  | with_reducible refine tt_and ?_
  | with_reducible refine tt_or ?_
  | with_reducible refine tt_not ?_
  | with_reducible refine tt_yes ?_
  | with_reducible refine tt_tru ?_)
local macro_rules | `(tactic| walk_at "dG") => `(tactic| first
  | ((with_reducible refine gt_name ?k ?q); (case k => walk_at "kd"); (walk_at "ds"))
  | ((with_reducible refine gn_name ?_); (walk_at "ds"))
  | ((with_reducible refine gn_tup (ds := ?ds) ?e ?n ?q); (case e => exact rfl); (case n => exact rfl))
  | ((with_reducible refine gt_tup (ds := ?ds) ?e ?n ?k ?q); (case e => exact rfl); (case n => exact rfl); (case k => walk_at "nb"))
  | ((with_reducible refine gta_name ?_); (walk_at "ds"))
  | ((with_reducible refine gta_tup (es := ?es) ?e ?n ?q); (case e => exact rfl); (case n => exact rfl))
  | with_reducible refine gta_nil ?_)
local macro_rules | `(tactic| walk_at "d1") => `(tactic| first
  | ((with_reducible show Ev _ _ _ _ _); walk_at "dE")
  | ((with_reducible show EvA _ _ _ _ _); first | with_reducible refine eva_cons ?_ | with_reducible refine eva_nil ?_)
  | ((with_reducible show Op2 _ _ _ _ _ _); walk_at "dO")
  | ((with_reducible show Sd _ _ _ _ _); walk_at "dS")
  | ((with_reducible show Gt _ _ _ _ _ _ _); walk_at "dG")
  | ((with_reducible show Tt _ _ _ _ _); walk_at "dT")
  | ((with_reducible show OpN _ _ _ _ _); walk_at "dN")
  | with_reducible refine bl_i ?_
  | with_reducible refine eq_int ?_
  | ((with_reducible refine lct_yes ?_); (try dsimp only [wipeE, List.set_cons_zero, List.set_cons_succ]))
  | ((with_reducible refine lct_g ?_); (try dsimp only [wipeE, List.set_cons_zero, List.set_cons_succ]))
  | with_reducible refine pt_no ?_
  | with_reducible refine pt_some ?_
  | with_reducible refine ls_fz ?_
  | with_reducible refine ls_ow ?_
  | with_reducible refine ls_nw ?_
  | with_reducible refine ls_s ?_
  | with_reducible refine dk_fz ?_
  | with_reducible refine dk_ow ?_
  | with_reducible refine dk_nw ?_
  | with_reducible refine key_i ?_
  | with_reducible refine key_s ?_
  | with_reducible refine dt_fz ?_
  | with_reducible refine dt_ow ?_
  | with_reducible refine dt_nw ?_
  | with_reducible refine tk_fz ?_
  | with_reducible refine tp_fz ?_
  | with_reducible refine st_i ?_
  | ((with_reducible show Gn _ _ _ _ _ _); walk_at "dG")
  | ((with_reducible show GtA _ _ _ _ _ _); walk_at "dG")
  | ((with_reducible show Op1 _ _ _ _ _); with_reducible refine op1_U ?_)
  | ((with_reducible show (_ = Kd.fz ∨ _) ∧ _); (with_reducible refine ⟨?f, ?q⟩); (case f => walk_at "kd"))
  | ((with_reducible show (_ = Kd.nw ∨ _) ∧ _); (with_reducible refine ⟨?f, ?q⟩); (case f => walk_at "kd"))
  | ((with_reducible show (allF _) ∧ _); (with_reducible refine ⟨?f, ?q⟩); (case f => walk_at "af"); (try walk_at "dm"))
  | ((with_reducible show (_ ≤ sizeLine) ∧ _); (with_reducible refine ⟨?z, ?q⟩); (case z => first | walk_at "sz" | exact size_le (by omega)))
  | ((with_reducible show (_ = Kd.nw) ∧ _); (with_reducible refine ⟨rfl, ?q⟩); (try walk_at "ds"))
  | ((with_reducible show (_ ≠ Kd.bw) ∧ _); (with_reducible refine ⟨?f, ?q⟩); (case f => walk_at "nb"))
  | ((with_reducible show (Da.truOk _ _) ∧ _); (with_reducible refine ⟨?f, ?q⟩); (case f => first | exact trivial | assumption))
  | with_reducible refine iff_t rfl ?_
  | with_reducible refine iff_f rfl ?_)
local macro_rules | `(tactic| walk_at "d") => `(tactic| repeat (walk_at "d1"))
local macro_rules | `(tactic| walk_at "dE") => `(tactic| first
  | with_reducible refine ev_mk0 ?_
  | with_reducible refine ev_mkV ?_
  | with_reducible refine ev_xv ?_)
local macro_rules | `(tactic| walk_at "d1") => `(tactic| first
  | with_reducible refine xc_i ?_
  | with_reducible refine mkv_i rfl (by decide) ?_
  | ((with_reducible show (_ = Kd.fz) ∧ _); (with_reducible refine ⟨rfl, ?_⟩)))
def errSizes : List Int := [41, 61, 10, 5, 3, 2000000] ++ strSizes
theorem errSizes_ok : (∀ z ∈ errSizes, 0 < z ∧ z < 1073741824) ∧ errSizes.length ≤ 1000 := by decide +kernel
def nmsE : List Str := ["a", "b1", "level", "pump", "x10", "x9", "z", "m", "n0", "q"]
theorem nmsE_ok : ∀ s ∈ nmsE, s.length ≤ 40 := by decide +kernel
theorem errDig {rs : List Int} (D : Dig errSizes rs) : ∃ qs, cutD (rs.map Da.int) (some 6) none = qs.map Da.int ∧ Dig strSizes qs := by
  have hl : rs.length = 33 := D.1
  refine ⟨(rs.drop 6).take 27, ?_, dig_cut D 6 27⟩
  unfold cutD
  rw [show (some (6 : Int)) = some ((6 : Nat) : Int) from rfl, HT.sIx_nat, HT.sIx_none, List.length_map, hl, ← List.map_drop, ← List.map_take]
  rfl
theorem srt_hd {ys : List Str} (h : 0 < ys.length) : ∃ r0 rest, srtN ys = r0 :: rest := by
  cases e : srtN ys with
  | nil => have := srtN_len ys; rw [e] at this; simp at this; omega
  | cons a r => exact ⟨a, r, rfl⟩
theorem lastS_at {xs : List Str} (h : xs ≠ []) : ∃ x, atI (xs.map Da.str) (-1) = some (.str x) ∧ x ∈ xs := by
  have hl : xs.length - 1 < xs.length := by have := List.length_pos_iff.mpr h; omega
  exact ⟨xs[xs.length - 1], atI_last' (by rw [List.length_map, List.getElem?_map, List.getElem?_eq_getElem hl]; rfl), List.getElem_mem _⟩
theorem strsE (n : Nat) {ss : List Str} (h : ss.length < 10000) : EqOk (n + 1) (.tup (ss.map Da.str)) := .tup (by rw [List.length_map]; exact h) fun d hd => by
  obtain ⟨s, _, rfl⟩ := List.mem_map.mp hd
  exact .str _ _
def R__law_errors_right : SpR := fun ds Pq _ => ∃ c : Int, ds = [.int c] ∧ Pq .fz (.bl true)
theorem sc__law_errors_right : FnScope ["cell", "row", "names", "rows", "others", "terms", "j"] ["cell"] (defScope (top 53)) := ⟨rfl, rfl, rfl, by decide +kernel, rfl, by decide +kernel, by decide +kernel⟩
theorem d__law_errors_right {P : Program} {w : World} {K : PySem.W.Frag} {mg : Str → Option Value} {base : Heap} (T : Tx K mg) : Def P w K mg base "_law_errors_right" 6 ["cell"] (SpD K (R__law_errors_right)) := by
  refine Def.of T.at__law_errors_right sc__law_errors_right (fun _ _ _ _ _ _ us hl => match us, hl with | [_], _ => rfl) (fun vs H Q E h => by (obtain ⟨_, _, _, _, _, h2, h, _⟩ := h; rw [← h2.len]; obtain ⟨_, rfl, _⟩ := h; rfl)) (fun f cdv A outer s H vs Q E hr h => ?_)
  refine ⟨_, PSs.nox (pss_cons (ps_set (i := 1) sc__law_errors_right.nd rfl (Or.inr rfl) (pe_def (d__law_digits T) (hr.mono (by decide)) (by rfl) (pa_cons (pv 0) (pa_cons (pe_op op_addA (pe_op op_addA (pe_op op_addA (pe_lstA (pa_cons pe_int (pa_cons pe_int (pa_cons pe_int (pa_cons pe_int (pa_cons pe_int (pa_cons pe_int (pa_cons pe_int (pa_cons pe_int (pa_cons pe_int pa_nil)))))))))) (pe_op op_repA (pe_lstA (pa_cons pe_int pa_nil)) pe_int)) (pe_lstA (pa_cons pe_int (pa_cons pe_int pa_nil)))) (pe_op op_repA (pe_lstA (pa_cons pe_int pa_nil)) pe_int)) pa_nil))))
      (pss_cons (ps_set (i := 2) sc__law_errors_right.nd rfl (Or.inr rfl) (pe_lstA (pa_cons pe_str (pa_cons pe_str (pa_cons pe_str (pa_cons pe_str (pa_cons pe_str (pa_cons pe_str (pa_cons pe_str (pa_cons pe_str (pa_cons pe_str (pa_cons pe_str pa_nil))))))))))))
      (pss_cons (ps_set (i := 3) sc__law_errors_right.nd rfl (Or.inl rfl) (pe_callTy call_tupN (by rfl) T.n_tuple (by decide +kernel) (pa_cons (pe_callB cr_sortN (by rfl) T.n_sorted (by decide +kernel) (pa_cons (pe_lc (own := [("j", 6)]) (by rfl) sc__law_errors_right.nd (pi_range1 (by rfl) T.n_range (pa_cons (pe_op op_addA pe_int (pe_ix ix_seq (pv 1) pe_int (fun _ _ => rfl))) pa_nil)) (blkOk_by (own := [("j", 6)]) (N := ["cell", "row", "names", "rows", "others", "terms", "j"]) (sc := defScope (top 53)) (by decide +kernel)) (fun _ _ _ _ _ => (pg_name (i := 6) sc__law_errors_right.nd rfl (Or.inl rfl))) (fun _ _ _ _ _ => pts_nil) (fun _ _ _ _ _ => (pe_ix (ix_seqK (K := K) (by rfl)) (pv 2) (pe_op op_mod (pe_callTy call_intA (by rfl) T.n_int (by decide +kernel) (pa_cons (pe_op (op_addAK (K := K) (by rfl)) (pe_ix (ix_seqK (K := K) (by rfl)) (pv 1) pe_int (fun _ _ => rfl)) (pv 6)) pa_nil)) pe_int) (fun _ _ => rfl)))) pa_nil)) pa_nil)))
      (pss_cons (ps_set (i := 4) sc__law_errors_right.nd rfl (Or.inl rfl) (pe_callTy call_tupN (by rfl) T.n_tuple (by decide +kernel) (pa_cons (pe_callB cr_sortN (by rfl) T.n_sorted (by decide +kernel) (pa_cons (pe_lc (own := [("j", 6)]) (by rfl) sc__law_errors_right.nd (pi_range1 (by rfl) T.n_range (pa_cons (pe_op op_addA pe_int (pe_ix ix_seq (pv 1) pe_int (fun _ _ => rfl))) pa_nil)) (blkOk_by (own := [("j", 6)]) (N := ["cell", "row", "names", "rows", "others", "terms", "j"]) (sc := defScope (top 53)) (by decide +kernel)) (fun _ _ _ _ _ => (pg_name (i := 6) sc__law_errors_right.nd rfl (Or.inl rfl))) (fun _ _ _ _ _ => pts_nil) (fun _ _ _ _ _ => (pe_ix (ix_seqK (K := K) (by rfl)) (pv 2) (pe_op op_mod (pe_callTy call_intA (by rfl) T.n_int (by decide +kernel) (pa_cons (pe_op (op_addAK (K := K) (by rfl)) (pe_op (op_addAK (K := K) (by rfl)) (pe_ix (ix_seqK (K := K) (by rfl)) (pv 1) pe_int (fun _ _ => rfl)) pe_int) (pv 6)) pa_nil)) pe_int) (fun _ _ => rfl)))) pa_nil)) pa_nil)))
      (pss_cons (ps_set (i := 5) sc__law_errors_right.nd rfl (Or.inl rfl) (pe_tupA (pa_cons (pe_tupA (pa_cons (pe_ix ix_seq (pv 3) pe_int (fun _ _ => rfl)) (pa_cons (pe_op op_sub (pe_ix ix_seq (pv 1) pe_int (fun _ _ => rfl)) pe_int) (pa_cons (pe_op op_addA pe_int (pe_ix ix_seq (pv 1) pe_int (fun _ _ => rfl))) pa_nil)))) (pa_cons (pe_tupA (pa_cons (pe_op op_addA (pe_ix ix_seq (pv 3) (pe_un un_neg pe_int) (fun _ _ => rfl)) pe_str) (pa_cons pe_int (pa_cons (pe_op op_sub (pe_un un_neg pe_int) (pe_ix ix_seq (pv 1) pe_int (fun _ _ => rfl))) pa_nil)))) pa_nil))))
      (pss_one (ps_ret (pe_def (d__law_created T) (hr.mono (by decide)) (by rfl) (pa_cons (pe_def (d__law_string T) (hr.mono (by decide)) (by rfl) (pa_cons (pe_slice sl_listA (pv 1) (po_some pe_int) po_none) (pa_cons pe_bl pa_nil))) (pa_cons (pv 3) (pa_cons (pv 4) (pa_cons (pv 5) (pa_cons (pe_lstA (pa_cons (pe_op op_sub (pe_ix ix_seq (pv 1) pe_int (fun _ _ => rfl)) pe_int) (pa_cons (pe_ix ix_seq (pv 1) pe_int (fun _ _ => rfl)) pa_nil))) pa_nil))))))))))))), ?_⟩
  obtain ⟨F, ds, Pq, Xq, hF, ha, h, hQ, hE⟩ := h
  refine sd_top hF ha hQ ?_
  clear hQ ha hE
  generalize hB0 : (⟨F, H, []⟩ : Bs) = B
  have hL : B.L = [] := by rw [← hB0]
  clear hB0
  obtain ⟨c, rfl, q⟩ := h
  walk_at "d0"
  walk_at "d"
  refine op2_rep nofun (by decide) (by decide) (by decide) ?_
  walk_at "d"
  refine op2_rep nofun (by decide) (by decide) (by decide) ?_
  walk_at "d"
  refine ⟨_, _, errSizes, rfl, by rfl, errSizes_ok.1, errSizes_ok.2, ?_⟩
  have hD : Dig errSizes (digits c errSizes) := digits_ok _ _ fun z hz => (errSizes_ok.1 z hz).1
  generalize digits c errSizes = rs at hD
  obtain ⟨d0, _, e0, l0, u0⟩ := dig_at hD 0 (z := 41) rfl
  obtain ⟨d1, _, e1, l1, u1⟩ := dig_at hD 1 (z := 61) rfl
  obtain ⟨d2, _, e2, l2, u2⟩ := dig_at hD 2 (z := 10) rfl
  obtain ⟨d3, _, e3, l3, u3⟩ := dig_at hD 3 (z := 5) rfl
  obtain ⟨d4, _, e4, l4, u4⟩ := dig_at hD 4 (z := 3) rfl
  obtain ⟨d5, _, e5, l5, u5⟩ := dig_at hD 5 (z := 2000000) rfl
  walk_at "d"
  refine ev_lc1 (gw_name _) ?_
  walk_at "d"
  refine op2_ix rfl e3 nofun ?_
  walk_at "d"
  refine ⟨_, _, (1 + d3).toNat, rfl, rfl, by omega, by show (1 + d3).toNat < 16777216; omega, fun j acc => ∃ ys : List Str, acc = ys.map Da.str ∧ ys.length = j ∧ ∀ y ∈ ys, y ∈ nmsE, ⟨[], rfl, rfl, nofun⟩, ?_, ?_⟩
  · rintro j acc hj ⟨ys, rfl, hy, hy1⟩
    walk_at "d"
    refine op2_ix rfl e2 nofun ?_
    walk_at "d"
    obtain ⟨z, hz, hat⟩ := strs_ix nmsE (i := (d2 + (j : Int)) % 10) (Int.emod_nonneg _ (by decide)) (Int.emod_lt_of_pos _ (by decide))
    refine op2_ix (ds := nmsE.map Da.str) rfl hat nofun ?_
    walk_at "d"
    refine ⟨ys ++ [z], by rw [List.map_append]; rfl, by rw [List.length_append, hy]; rfl, fun y hm => ?_⟩
    rcases List.mem_append.mp hm with hm | hm
    · exact hy1 y hm
    · rw [List.mem_singleton.mp hm]; exact hz
  rintro acc ha ⟨ys, rfl, hy, hy1⟩
  walk_at "d"
  refine opn_sortN (ss := ys) (.inl rfl) nofun (by omega) ?_
  walk_at "d"
  refine ev_lc1 (gw_name _) ?_
  walk_at "d"
  refine op2_ix rfl e4 nofun ?_
  walk_at "d"
  refine ⟨_, _, (1 + d4).toNat, rfl, rfl, by omega, by show (1 + d4).toNat < 16777216; omega, fun j acc => ∃ ys : List Str, acc = ys.map Da.str ∧ ys.length = j ∧ ∀ y ∈ ys, y ∈ nmsE, ⟨[], rfl, rfl, nofun⟩, ?_, ?_⟩
  · rintro j acc hj ⟨ys, rfl, hy, hy1⟩
    walk_at "d"
    refine op2_ix rfl e2 nofun ?_
    walk_at "d"
    obtain ⟨z, hz, hat⟩ := strs_ix nmsE (i := (d2 + 1 + (j : Int)) % 10) (Int.emod_nonneg _ (by decide)) (Int.emod_lt_of_pos _ (by decide))
    refine op2_ix (ds := nmsE.map Da.str) rfl hat nofun ?_
    walk_at "d"
    refine ⟨ys ++ [z], by rw [List.map_append]; rfl, by rw [List.length_append, hy]; rfl, fun y hm => ?_⟩
    rcases List.mem_append.mp hm with hm | hm
    · exact hy1 y hm
    · rw [List.mem_singleton.mp hm]; exact hz
  rintro acc ha ⟨zs, rfl, hz, hz1⟩
  walk_at "d"
  refine opn_sortN (ss := zs) (.inl rfl) nofun (by omega) ?_
  walk_at "d"
  obtain ⟨r0, rr, er⟩ := srt_hd (ys := ys) (by omega)
  obtain ⟨rl, hrl, hlm⟩ : ∃ rl, atI ((srtN ys).map Da.str) (-1) = some (.str rl) ∧ rl ∈ srtN ys := lastS_at (by rw [er]; exact nofun)
  have bnd : ∀ y ∈ srtN ys, y.length ≤ 40 := fun y hm => nmsE_ok _ (hy1 y (srtN_mem.mp hm))
  have ly := srtN_len ys
  have lz := srtN_len zs
  refine op2_ix (d := .str r0) rfl (by rw [er]; exact atI_nat (j := 0) rfl) nofun ?_
  walk_at "d"
  refine op2_ix rfl e0 nofun ?_
  walk_at "d"
  refine op2_ix rfl e5 nofun ?_
  walk_at "d"
  refine op2_ix rfl hrl nofun ?_
  walk_at "d"
  refine op2_addS (size_le (by have := bnd rl hlm; rw [show (Str.ofString "0").length = 1 from rfl]; omega)) ?_
  walk_at "d"
  refine op2_ix rfl e1 nofun ?_
  walk_at "d"
  obtain ⟨qs, eq1, hE⟩ := errDig hD
  rw [eq1]
  refine ⟨qs, _, rfl, hE, fun sx hsx => ?_⟩
  walk_at "d"
  refine op2_ix rfl e0 nofun ?_
  walk_at "d"
  refine op2_ix rfl e1 nofun ?_
  walk_at "d"
  refine ⟨sx, r0, rr.map Da.str, .tup ((srtN zs).map Da.str), _, _, _, by rw [er]; rfl, ?_, ?_, ?_, q⟩
  · have := strsE 1 (ss := srtN ys) (by omega)
    rwa [er] at this
  · exact strsE 1 (by omega)
  · refine .tup (by show 2 < 10000; decide) fun d hd => ?_
    simp only [List.mem_cons, List.not_mem_nil, or_false] at hd
    rcases hd with rfl | rfl
    · refine .tup (by show 3 < 10000; decide) fun d hd => ?_
      simp only [List.mem_cons, List.not_mem_nil, or_false] at hd
      rcases hd with rfl | rfl | rfl
      · exact .str _ _
      · exact .int _ _
      · exact .int _ _
    · refine .tup (by show 3 < 10000; decide) fun d hd => ?_
      simp only [List.mem_cons, List.not_mem_nil, or_false] at hd
      rcases hd with rfl | rfl | rfl
      · exact .str _ _
      · exact .int _ _
      · exact .int _ _
end JP
set_option Elab.async false
set_option linter.all false
set_option maxRecDepth 100000
set_option maxHeartbeats 4000000
set_option pp.deepTerms false
set_option pp.deepTerms.threshold 6
set_option pp.maxSteps 1200
namespace JP
open PySem PySem.Spec PyProof.Rows L2 L2H JPX
local macro_rules | `(tactic| walk_at "nb") => `(tactic| first | with_reducible exact fz_bw | with_reducible exact nw_bw | with_reducible exact ow_bw)
local macro_rules | `(tactic| walk_at "kd") => `(tactic| first | with_reducible exact Or.inl rfl | with_reducible exact Or.inr rfl)
local macro_rules | `(tactic| walk_at "af") => `(tactic| repeat (first | with_reducible exact allF_nil | ((with_reducible refine allF_cons ?h ?_); (case h => walk_at "kd"))))
local macro_rules | `(tactic| walk_at "sz") => `(tactic| (simp only [List.length_cons, List.length_nil, List.length_append, List.length_map, List.length_range]; decide))
local macro_rules | `(tactic| walk_at "side") => `(tactic| first | assumption | (exact small_div (by omega) (by omega)) | (exact small_mul (by omega) (by omega)) | (exact med_mul (by omega) (by omega)) | (exact big_mul (by omega) (by omega)) | (exact ⟨by decide, by decide, by decide⟩) | (show (0 : Int) < _; omega))
local macro_rules | `(tactic| walk_at "d0") => `(tactic| simp only [cxOf_K, List.map_cons, List.map_nil, List.length_cons, List.length_nil, Nat.reduceAdd, Nat.reduceSub, List.replicate_succ, List.replicate_zero, List.cons_append, List.nil_append])
local macro_rules | `(tactic| walk_at "ds") => `(tactic| try dsimp only [wipeE, List.set_cons_zero, List.set_cons_succ])
local macro_rules | `(tactic| walk_at "dm") => `(tactic| dsimp only [List.map])
local macro_rules | `(tactic| walk_at "dS") => `(tactic| first
  | with_reducible refine sd_seq ?_
  | with_reducible refine sd_next ?_
  | ((with_reducible refine sd_own ?h ?q); (case h => exact rfl))
  | ((with_reducible refine sd_setI (ds := ?ds) ?e ?q); (case e => exact rfl))
  | with_reducible refine sd_asg ?_
  | with_reducible refine sd_if ?_
  | with_reducible refine sd_ret ?_
  | with_reducible refine sd_new ?_
  | ((with_reducible refine sd_app (ds := ?ds) ?e ?q); (case e => exact rfl))
  | ((with_reducible refine sd_dput (kvs := ?kvs) ?e ?q); (case e => exact rfl))
  | ((with_reducible refine sd_mputT (kvs := ?kvs) ?e ?q); (case e => exact rfl))
  | with_reducible refine sd_drop ?_
  | with_reducible refine sd_ret0 ?_
  | with_reducible refine sd_for ?_
  | with_reducible refine sd_for1 ?_
  | with_reducible refine sd_for2 ?_
  | with_reducible refine sd_for3 ?_
  | ((with_reducible refine sd_augI (a := ?a) ?e ?q); (case e => exact rfl))
  | with_reducible refine sd_brk ?_
  | with_reducible refine sd_cont ?_)
local macro_rules | `(tactic| walk_at "dE") => `(tactic| first
  | ((with_reducible refine ev_var (d := ?d) ?e ?q); (case e => exact rfl))
  | ((with_reducible refine ev_own (d := ?d) ?e ?q); (case e => exact rfl))
  | with_reducible refine ev_int ?_
  | with_reducible refine ev_op ?_
  | with_reducible refine ev_cb ?_
  | ((with_reducible refine ev_call ?l ?q); (case l => assumption))
  | with_reducible refine ev_tup ?_
  | with_reducible refine ev_lst ?_
  | with_reducible refine ev_un ?_
  | with_reducible refine ev_bl ?_
  | with_reducible refine ev_non ?_
  | with_reducible refine ev_str ?_
  | with_reducible refine ev_ty ?_
  | with_reducible refine ev_ref ?_
  | with_reducible refine ev_if ?_
  | with_reducible refine ev_not ?_
  | with_reducible refine ev_notT ?_
  | with_reducible refine ev_and ?_
  | with_reducible refine ev_or ?_
  | with_reducible refine ev_chain ?_
  | with_reducible refine ev_bits ?_
  | with_reducible refine ev_dget ?_
  | with_reducible refine ev_dget2 ?_
  | with_reducible refine ev_mgT ?_
  | with_reducible refine ev_mg2T ?_
  | with_reducible refine ev_dnewT ?_
  | with_reducible refine ev_slT ?_
  | with_reducible refine ev_slS ?_
  | with_reducible refine ev_join ?_
  | with_reducible refine ev_dnew ?_
  | with_reducible refine ev_slL ?_
  | with_reducible refine ev_disp1 ?_
  | with_reducible refine ev_dispT ?_)
local macro_rules | `(tactic| walk_at "dO") => `(tactic| first
  | with_reducible refine op2_addI ?_
  | with_reducible refine op2_I0 ?_
  | ((with_reducible refine op2_addL ?a ?b ?z ?q); (case a => walk_at "nb"); (case b => walk_at "nb"); (case z => first | walk_at "sz" | exact size_le (by simp only [List.length_cons, List.length_nil, List.length_append, List.length_map, List.length_range, List.length_take, List.length_drop]; omega)))
  | with_reducible refine op2_B0 ?_
  | ((with_reducible refine op2_ix (ds := ?ds) (d := ?d) ?e ?a ?k ?q); (case e => exact rfl); (case a => exact rfl); (case k => walk_at "nb"))
  | with_reducible refine op2_eqI ?_
  | with_reducible refine op2_neI ?_
  | with_reducible refine op2_p18 ?_
  | with_reducible refine op2_p9 ?_
  | with_reducible refine op2_p6 ?_
  | with_reducible refine op2_p30 ?_
  | with_reducible refine op2_p12 ?_
  | with_reducible refine op2_p15 ?_
  | with_reducible refine op2_p24 ?_
  | with_reducible refine op2_p20 ?_
  | with_reducible refine op2_p2 ?_
  | with_reducible refine op2_p3 ?_
  | with_reducible refine op2_p4 ?_
  | with_reducible refine op2_p5 ?_
  | ((with_reducible refine op2_I ?c ?q); (case c => walk_at "side"))
  | with_reducible refine op2_eqS ?_
  | with_reducible refine op2_neS ?_
  | with_reducible refine op2_eqB ?_
  | with_reducible refine op2_neB ?_
  | with_reducible refine op2_is ?_
  | with_reducible refine op2_isNot ?_)
local macro_rules | `(tactic| walk_at "dN") => `(tactic| first
  | with_reducible refine opn_int ?_
  | ((with_reducible refine opn_len (ds := ?ds) ?e ?q); (case e => exact rfl))
  | with_reducible refine opn_lenD ?_
  | ((with_reducible refine opn_lenT ?l ?q); (case l => assumption))
  | with_reducible refine opn_intB ?_
  | with_reducible refine opn_abs ?_
  | with_reducible refine opn_gcd ?_
  | ((with_reducible refine opn_list (ds := ?ds) ?e ?k ?q); (case e => exact rfl); (case k => walk_at "nb"))
  | ((with_reducible refine opn_tuple (ds := ?ds) ?e ?k ?s ?q); (case e => exact rfl); (case k => walk_at "nb"); (case s => exact (fun _ => nofun)))
  | ((with_reducible refine opn_isi true ?n ?c ?e ?q); (case e => exact rfl); (case n => exact rfl); (case c => exact rfl))
  | ((with_reducible refine opn_isi false ?n ?c ?e ?q); (case e => exact rfl); (case n => exact rfl); (case c => exact rfl)))
local macro_rules | `(tactic| walk_at "dT") => `(tactic| first
  | with_reducible refine tt_test ?_
  | with_reducible refine tt_B ?_
  | with_reducible refine tt_and ?_
  | with_reducible refine tt_or ?_
  | with_reducible refine tt_not ?_
  | with_reducible refine tt_yes ?_
  | with_reducible refine tt_tru ?_)
local macro_rules | `(tactic| walk_at "dG") => `(tactic| first
  | ((with_reducible refine gt_name ?k ?q); (case k => walk_at "kd"); (walk_at "ds"))
  | ((with_reducible refine gn_name ?_); (walk_at "ds"))
  | ((with_reducible refine gn_tup (ds := ?ds) ?e ?n ?q); (case e => exact rfl); (case n => exact rfl))
  | ((with_reducible refine gt_tup (ds := ?ds) ?e ?n ?k ?q); (case e => exact rfl); (case n => exact rfl); (case k => walk_at "nb"))
  | ((with_reducible refine gta_name ?_); (walk_at "ds"))
  | ((with_reducible refine gta_tup (es := ?es) ?e ?n ?q); (case e => exact rfl); (case n => exact rfl))
  | with_reducible refine gta_nil ?_)
local macro_rules | `(tactic| walk_at "d1") => `(tactic| first
  | ((with_reducible show Ev _ _ _ _ _); walk_at "dE")
  | ((with_reducible show EvA _ _ _ _ _); first | with_reducible refine eva_cons ?_ | with_reducible refine eva_nil ?_)
  | ((with_reducible show Op2 _ _ _ _ _ _); walk_at "dO")
  | ((with_reducible show Sd _ _ _ _ _); walk_at "dS")
  | ((with_reducible show Gt _ _ _ _ _ _ _); walk_at "dG")
  | ((with_reducible show Tt _ _ _ _ _); walk_at "dT")
  | ((with_reducible show OpN _ _ _ _ _); walk_at "dN")
  | with_reducible refine bl_i ?_
  | with_reducible refine eq_int ?_
  | ((with_reducible refine lct_yes ?_); (try dsimp only [wipeE, List.set_cons_zero, List.set_cons_succ]))
  | ((with_reducible refine lct_g ?_); (try dsimp only [wipeE, List.set_cons_zero, List.set_cons_succ]))
  | with_reducible refine pt_no ?_
  | with_reducible refine pt_some ?_
  | with_reducible refine ls_fz ?_
  | with_reducible refine ls_ow ?_
  | with_reducible refine ls_nw ?_
  | with_reducible refine ls_s ?_
  | with_reducible refine dk_fz ?_
  | with_reducible refine dk_ow ?_
  | with_reducible refine dk_nw ?_
  | with_reducible refine key_i ?_
  | with_reducible refine key_s ?_
  | with_reducible refine dt_fz ?_
  | with_reducible refine dt_ow ?_
  | with_reducible refine dt_nw ?_
  | with_reducible refine tk_fz ?_
  | with_reducible refine tp_fz ?_
  | with_reducible refine st_i ?_
  | ((with_reducible show Gn _ _ _ _ _ _); walk_at "dG")
  | ((with_reducible show GtA _ _ _ _ _ _); walk_at "dG")
  | ((with_reducible show Op1 _ _ _ _ _); with_reducible refine op1_U ?_)
  | ((with_reducible show (_ = Kd.fz ∨ _) ∧ _); (with_reducible refine ⟨?f, ?q⟩); (case f => walk_at "kd"))
  | ((with_reducible show (_ = Kd.nw ∨ _) ∧ _); (with_reducible refine ⟨?f, ?q⟩); (case f => walk_at "kd"))
  | ((with_reducible show (allF _) ∧ _); (with_reducible refine ⟨?f, ?q⟩); (case f => walk_at "af"); (try walk_at "dm"))
  | ((with_reducible show (_ ≤ sizeLine) ∧ _); (with_reducible refine ⟨?z, ?q⟩); (case z => first | walk_at "sz" | exact size_le (by omega)))
  | ((with_reducible show (_ = Kd.nw) ∧ _); (with_reducible refine ⟨rfl, ?q⟩); (try walk_at "ds"))
  | ((with_reducible show (_ ≠ Kd.bw) ∧ _); (with_reducible refine ⟨?f, ?q⟩); (case f => walk_at "nb"))
  | ((with_reducible show (Da.truOk _ _) ∧ _); (with_reducible refine ⟨?f, ?q⟩); (case f => first | exact trivial | assumption))
  | with_reducible refine iff_t rfl ?_
  | with_reducible refine iff_f rfl ?_)
local macro_rules | `(tactic| walk_at "d") => `(tactic| repeat (walk_at "d1"))
local macro_rules | `(tactic| walk_at "dE") => `(tactic| first
  | with_reducible refine ev_mk0 ?_
  | with_reducible refine ev_mkV ?_
  | with_reducible refine ev_xv ?_)
local macro_rules | `(tactic| walk_at "d1") => `(tactic| first
  | with_reducible refine xc_i ?_
  | with_reducible refine mkv_i rfl (by decide) ?_
  | ((with_reducible show (_ = Kd.fz) ∧ _); (with_reducible refine ⟨rfl, ?_⟩)))
def R_law : SpR := fun ds Pq _ => ∃ ns : List Int, ds = [.sls (ns.map Da.int)] ∧ Pq .fz (.bl true)
theorem sc_law : FnScope ["script", "many", "k", "strings", "name", "answer", "j"] ["script"] (defScope (top 54)) := ⟨rfl, rfl, rfl, by decide +kernel, rfl, by decide +kernel, by decide +kernel⟩
theorem d_law {P : Program} {w : World} {K : PySem.W.Frag} {mg : Str → Option Value} {base : Heap} (T : Tx K mg) : Def P w K mg base "law" 7 ["script"] (SpD K (R_law)) := by
  refine Def.of T.at_law sc_law (fun _ _ _ _ _ _ us hl => match us, hl with | [_], _ => rfl) (fun vs H Q E h => by (obtain ⟨_, _, _, _, _, h2, h, _⟩ := h; rw [← h2.len]; obtain ⟨_, rfl, _⟩ := h; rfl)) (fun f cdv A outer s H vs Q E hr h => ?_)
  refine ⟨_, PSs.nox (pss_cons (ps_set (i := 1) sc_law.nd rfl (Or.inl rfl) (pe_ix ix_seq (pe_lstA (pa_cons pe_int (pa_cons pe_int (pa_cons pe_int (pa_cons pe_int (pa_cons pe_int (pa_cons pe_int (pa_cons pe_int (pa_cons pe_int pa_nil))))))))) (pe_ix ix_seq (pe_def (d__law_digits T) (hr.mono (by decide)) (by rfl) (pa_cons (pe_def (d__law_cell T) (hr.mono (by decide)) (by rfl) (pa_cons (pv 0) (pa_cons pe_int pa_nil))) (pa_cons (pe_lstA (pa_cons pe_int pa_nil)) pa_nil))) pe_int (fun _ _ => rfl)) (fun _ _ => rfl)))
      (pss_cons (ps_if (pt_not (pt_val (pe_def (d__law_errors_right T) (hr.mono (by decide)) (by rfl) (pa_cons (pe_def (d__law_cell T) (hr.mono (by decide)) (by rfl) (pa_cons (pv 0) (pa_cons pe_int pa_nil))) pa_nil)))) (pss_one (ps_ret pe_bl)) pss_nil)
      (pss_cons (ps_for PassesOwn.never rfl (pi_range1 (by rfl) T.n_range (pa_cons (pv 1) pa_nil)) (pg_name (i := 2) sc_law.nd rfl (Or.inl rfl)) (pss_cons (ps_set (i := 3) sc_law.nd rfl (Or.inr rfl) (pe_def (d__law_strings T) (hr.mono (by decide)) (by rfl) (pa_cons (pv 0) (pa_cons (pe_op op_addA pe_int (pe_op op_mulW pe_int (pv 2))) pa_nil))))
      (pss_cons (ps_for PassesOwn.never rfl (pi_seq (pv 3)) (pg_name (i := 4) sc_law.nd rfl (Or.inl rfl)) (pss_cons (ps_set (i := 5) sc_law.nd rfl (Or.inl rfl) (pe_def (d_is_row_name T) (hr.mono (by decide)) (by rfl) (pa_cons (pv 4) pa_nil)))
      (pss_one (ps_if (PW.pt (pw_or (pt_not (pt_val (pe_callB call_isA (by rfl) T.n_isinstance (by decide +kernel) (pa_cons (pv 5) (pa_cons (pe_bltn (v := .ty "bool") (u := .type "bool") (by rfl) T.n_bool (by decide +kernel) rfl) pa_nil))))) (pw_or1 (pt_cmpR (op_neA hr.units) (pv 5) (pe_def (d__law_good T) (hr.mono (by decide)) (by rfl) (pa_cons (pv 4) pa_nil)) (nomark _))))) (pss_one (ps_ret pe_bl)) pss_nil))))
      (pss_cons (ps_if (pt_not (pt_val (pe_def (d__law_right T) (hr.mono (by decide)) (by rfl) (pa_cons (pv 3) pa_nil)))) (pss_one (ps_ret pe_bl)) pss_nil)
      (pss_one (ps_if (pt_not (pt_val (pe_def (d__law_right T) (hr.mono (by decide)) (by rfl) (pa_cons (pe_lc (own := [("j", 6)]) (by rfl) sc_law.nd (pi_range1 (by rfl) T.n_range (pa_cons (pe_callB call_lenA (by rfl) T.n_len (by decide +kernel) (pa_cons (pv 3) pa_nil)) pa_nil)) (blkOk_by (own := [("j", 6)]) (N := ["script", "many", "k", "strings", "name", "answer", "j"]) (sc := defScope (top 54)) (by decide +kernel)) (fun _ _ _ _ _ => (pg_name (i := 6) sc_law.nd rfl (Or.inl rfl))) (fun _ _ _ _ _ => pts_nil) (fun _ _ _ _ _ => (pe_ix (ix_seqK (K := K) (by rfl)) (pv 3) (pe_op op_sub (pe_op op_sub (pe_callB (call_lenAK (K := K) (by rfl)) (by rfl) T.n_len (by decide +kernel) (pa_cons (pv 3) pa_nil)) pe_int) (pv 6)) (fun _ _ => rfl)))) pa_nil)))) (pss_one (ps_ret pe_bl)) pss_nil))))))
      (pss_one (ps_ret pe_bl))))), ?_⟩
  obtain ⟨F, ds, Pq, Xq, hF, ha, h, hQ, hE⟩ := h
  refine sd_top hF ha hQ ?_
  clear hQ ha hE
  generalize hB0 : (⟨F, H, []⟩ : Bs) = B
  have hL : B.L = [] := by rw [← hB0]
  clear hB0
  obtain ⟨ns, rfl, q⟩ := h
  walk_at "d0"
  walk_at "d"
  refine ⟨ns, 0, rfl, by decide, by decide, ?_⟩
  walk_at "d"
  refine ⟨_, _, [8], rfl, by rfl, by decide, by decide, ?_⟩
  have hD : Dig [8] (digits (lawCell ns 0) [8]) := digits_ok _ _ (by decide)
  generalize digits (lawCell ns 0) [8] = r0 at hD
  obtain ⟨d0, _, e0, l0, u0⟩ := dig_at hD 0 (z := 8) rfl
  obtain ⟨n, _, hn, f0⟩ := ints_ix [3, 2, 1, 1, 2, 1, 4, 2] l0 u0
  have gn : 0 ≤ n ∧ n ≤ 4 := by simp only [List.mem_cons, List.not_mem_nil, or_false] at hn; omega
  obtain ⟨m, rfl⟩ : ∃ m : Nat, n = m := ⟨n.toNat, by omega⟩
  walk_at "d"
  refine op2_ix rfl e0 nofun ?_
  walk_at "d"
  refine op2_ix rfl f0 nofun ?_
  walk_at "d"
  refine ⟨ns, 1, rfl, by decide, by decide, ?_⟩
  walk_at "d"
  refine ⟨_, rfl, ?_⟩
  walk_at "d"
  refine ⟨_, _, m, rfl, Int.toNat_natCast m, by omega, fun i env' => ∃ v2 v3 v4 v5 : Sl, env' = [.dat (.sls (ns.map Da.int)), .dat (.int (m : Int)), v2, v3, v4, v5, .un], ⟨_, _, _, _, rfl⟩, ?_, ?_⟩
  · rintro i env' hi ⟨v2, v3, v4, v5, rfl⟩
    walk_at "d"
    refine ⟨ns, _, rfl, by omega, by omega, fun ss hS => ?_⟩
    have hl : ∀ s ∈ ss, s.length < 10000 := fun s hs => by have := hS.2 s hs; omega
    have hS1 := hS.1
    walk_at "d"
    refine ⟨_, rfl, fun j env' => ∃ v4 v5 : Sl, env' = [.dat (.sls (ns.map Da.int)), .dat (.int (m : Int)), .dat (.int (i : Int)), .dat (.lst (ss.map Da.str)), v4, v5, .un], ⟨_, _, rfl⟩, ?_, ?_⟩
    · rintro j x env' hj ⟨v4, v5, rfl⟩
      obtain ⟨s, hs, rfl⟩ := smap_at hj
      have hm := hl s (List.mem_of_getElem? hs)
      walk_at "d"
      refine ⟨s, rfl, hm, ?_⟩
      walk_at "d"
      refine ⟨s, rfl, hm, ?_⟩
      refine op2_neSame rfl ?_
      walk_at "d"
      exact ⟨_, _, rfl⟩
    · rintro env' ⟨v4, v5, rfl⟩
      walk_at "d"
      refine ⟨ss, rfl, by omega, hl, ?_⟩
      walk_at "d"
      refine ev_lc1 (gw_name _) ?_
      walk_at "d"
      rw [List.length_map]
      refine ⟨_, _, ss.length, rfl, Int.toNat_natCast _, by omega, by show ss.length < 16777216; omega, fun j acc => ∃ ys : List Str, acc = ys.map Da.str ∧ ys.length = j ∧ ∀ y ∈ ys, y ∈ ss, ⟨[], rfl, rfl, nofun⟩, ?_, ?_⟩
      · rintro j acc hj ⟨ys, rfl, hy, hy1⟩
        walk_at "d"
        rw [List.length_map]
        obtain ⟨z, hz, hat⟩ := strs_ix ss (i := (ss.length : Int) - 1 - (j : Int)) (by omega) (by omega)
        refine op2_ix rfl hat nofun ?_
        walk_at "d"
        refine ⟨ys ++ [z], by rw [List.map_append]; rfl, by rw [List.length_append, hy]; rfl, fun y hm => ?_⟩
        rcases List.mem_append.mp hm with hm | hm
        · exact hy1 y hm
        · rw [List.mem_singleton.mp hm]; exact hz
      rintro acc ha ⟨ys, rfl, hy, hy1⟩
      walk_at "d"
      refine ⟨ys, rfl, by omega, fun s hs => hl s (hy1 s hs), ?_⟩
      walk_at "d"
      exact ⟨_, _, _, _, rfl⟩
  · rintro env' ⟨v2, v3, v4, v5, rfl⟩
    walk_at "d"
    exact q
end JP
set_option Elab.async false
set_option linter.all false
set_option maxRecDepth 100000
set_option maxHeartbeats 16000000
namespace JP
open PySem PySem.Spec PyProof.Rows L2 L2H
theorem tx_of {K : PySem.W.Frag} {h : Heap} {mg : Str → Option Value} (X : K.In h) (G : h.Ns mainGlobals mg) (c : JPH.SaysF fa fn K) : Tx K mg :=
  { in_BadName := ⟨c.def_ 18 (d := ⟨("BadName", some "__init__"), "__init__", "BadName.__init__", defArgs (clsInit (top 6)), defBody (clsInit (top 6)), defScope (clsInit (top 6)), [], []⟩) rfl, of_decide_eq_true (c.fact 0 (f := fun K => decide (PySem.W.findIn K (.ref (He.ga K "BadName")) "__init__" = some (some (.ref (He.ma K (He.ga K "BadName") "__init__"))))) rfl), of_decide_eq_true (c.fact 1 (f := fun K => decide (PySem.W.typeIn K (.ref (He.ma K (He.ga K "BadName") "__init__")) = some (.type "function"))) rfl), oexB_ok (c.fact 2 (f := fun K => oexB K (He.ga K "BadName")) rfl)⟩,
    in_RowTwice := ⟨c.def_ 19 (d := ⟨("RowTwice", some "__init__"), "__init__", "RowTwice.__init__", defArgs (clsInit (top 7)), defBody (clsInit (top 7)), defScope (clsInit (top 7)), [], []⟩) rfl, of_decide_eq_true (c.fact 3 (f := fun K => decide (PySem.W.findIn K (.ref (He.ga K "RowTwice")) "__init__" = some (some (.ref (He.ma K (He.ga K "RowTwice") "__init__"))))) rfl), of_decide_eq_true (c.fact 4 (f := fun K => decide (PySem.W.typeIn K (.ref (He.ma K (He.ga K "RowTwice") "__init__")) = some (.type "function"))) rfl), oexB_ok (c.fact 5 (f := fun K => oexB K (He.ga K "RowTwice")) rfl)⟩,
    in_UnknownRow := ⟨c.def_ 20 (d := ⟨("UnknownRow", some "__init__"), "__init__", "UnknownRow.__init__", defArgs (clsInit (top 8)), defBody (clsInit (top 8)), defScope (clsInit (top 8)), [], []⟩) rfl, of_decide_eq_true (c.fact 6 (f := fun K => decide (PySem.W.findIn K (.ref (He.ga K "UnknownRow")) "__init__" = some (some (.ref (He.ma K (He.ga K "UnknownRow") "__init__"))))) rfl), of_decide_eq_true (c.fact 7 (f := fun K => decide (PySem.W.typeIn K (.ref (He.ma K (He.ga K "UnknownRow") "__init__")) = some (.type "function"))) rfl), oexB_ok (c.fact 8 (f := fun K => oexB K (He.ga K "UnknownRow")) rfl)⟩,
    in_RowsDiffer := ⟨c.def_ 21 (d := ⟨("RowsDiffer", some "__init__"), "__init__", "RowsDiffer.__init__", defArgs (clsInit (top 9)), defBody (clsInit (top 9)), defScope (clsInit (top 9)), [], []⟩) rfl, of_decide_eq_true (c.fact 9 (f := fun K => decide (PySem.W.findIn K (.ref (He.ga K "RowsDiffer")) "__init__" = some (some (.ref (He.ma K (He.ga K "RowsDiffer") "__init__"))))) rfl), of_decide_eq_true (c.fact 10 (f := fun K => decide (PySem.W.typeIn K (.ref (He.ma K (He.ga K "RowsDiffer") "__init__")) = some (.type "function"))) rfl), oexB_ok (c.fact 11 (f := fun K => oexB K (He.ga K "RowsDiffer")) rfl)⟩,
    in_SpotTwice := ⟨c.def_ 22 (d := ⟨("SpotTwice", some "__init__"), "__init__", "SpotTwice.__init__", defArgs (clsInit (top 10)), defBody (clsInit (top 10)), defScope (clsInit (top 10)), [], []⟩) rfl, of_decide_eq_true (c.fact 12 (f := fun K => decide (PySem.W.findIn K (.ref (He.ga K "SpotTwice")) "__init__" = some (some (.ref (He.ma K (He.ga K "SpotTwice") "__init__"))))) rfl), of_decide_eq_true (c.fact 13 (f := fun K => decide (PySem.W.typeIn K (.ref (He.ma K (He.ga K "SpotTwice") "__init__")) = some (.type "function"))) rfl), oexB_ok (c.fact 14 (f := fun K => oexB K (He.ga K "SpotTwice")) rfl)⟩,
    in_BadStretch := ⟨c.def_ 23 (d := ⟨("BadStretch", some "__init__"), "__init__", "BadStretch.__init__", defArgs (clsInit (top 11)), defBody (clsInit (top 11)), defScope (clsInit (top 11)), [], []⟩) rfl, of_decide_eq_true (c.fact 15 (f := fun K => decide (PySem.W.findIn K (.ref (He.ga K "BadStretch")) "__init__" = some (some (.ref (He.ma K (He.ga K "BadStretch") "__init__"))))) rfl), of_decide_eq_true (c.fact 16 (f := fun K => decide (PySem.W.typeIn K (.ref (He.ma K (He.ga K "BadStretch") "__init__")) = some (.type "function"))) rfl), oexB_ok (c.fact 17 (f := fun K => oexB K (He.ga K "BadStretch")) rfl)⟩,
    in_ShortStretch := ⟨c.def_ 24 (d := ⟨("ShortStretch", some "__init__"), "__init__", "ShortStretch.__init__", defArgs (clsInit (top 12)), defBody (clsInit (top 12)), defScope (clsInit (top 12)), [], []⟩) rfl, of_decide_eq_true (c.fact 18 (f := fun K => decide (PySem.W.findIn K (.ref (He.ga K "ShortStretch")) "__init__" = some (some (.ref (He.ma K (He.ga K "ShortStretch") "__init__"))))) rfl), of_decide_eq_true (c.fact 19 (f := fun K => decide (PySem.W.typeIn K (.ref (He.ma K (He.ga K "ShortStretch") "__init__")) = some (.type "function"))) rfl), oexB_ok (c.fact 20 (f := fun K => oexB K (He.ga K "ShortStretch")) rfl)⟩,
    in_TooLong := ⟨c.def_ 25 (d := ⟨("TooLong", some "__init__"), "__init__", "TooLong.__init__", defArgs (clsInit (top 13)), defBody (clsInit (top 13)), defScope (clsInit (top 13)), [], []⟩) rfl, of_decide_eq_true (c.fact 21 (f := fun K => decide (PySem.W.findIn K (.ref (He.ga K "TooLong")) "__init__" = some (some (.ref (He.ma K (He.ga K "TooLong") "__init__"))))) rfl), of_decide_eq_true (c.fact 22 (f := fun K => decide (PySem.W.typeIn K (.ref (He.ma K (He.ga K "TooLong") "__init__")) = some (.type "function"))) rfl), oexB_ok (c.fact 23 (f := fun K => oexB K (He.ga K "TooLong")) rfl)⟩,
    in_CannotStand := ⟨c.def_ 26 (d := ⟨("CannotStand", some "__init__"), "__init__", "CannotStand.__init__", defArgs (clsInit (top 14)), defBody (clsInit (top 14)), defScope (clsInit (top 14)), [], []⟩) rfl, of_decide_eq_true (c.fact 24 (f := fun K => decide (PySem.W.findIn K (.ref (He.ga K "CannotStand")) "__init__" = some (some (.ref (He.ma K (He.ga K "CannotStand") "__init__"))))) rfl), of_decide_eq_true (c.fact 25 (f := fun K => decide (PySem.W.typeIn K (.ref (He.ma K (He.ga K "CannotStand") "__init__")) = some (.type "function"))) rfl), oexB_ok (c.fact 26 (f := fun K => oexB K (He.ga K "CannotStand")) rfl)⟩,
    in_Broken := ⟨c.def_ 27 (d := ⟨("Broken", some "__init__"), "__init__", "Broken.__init__", defArgs (clsInit (top 15)), defBody (clsInit (top 15)), defScope (clsInit (top 15)), [], []⟩) rfl, of_decide_eq_true (c.fact 27 (f := fun K => decide (PySem.W.findIn K (.ref (He.ga K "Broken")) "__init__" = some (some (.ref (He.ma K (He.ga K "Broken") "__init__"))))) rfl), of_decide_eq_true (c.fact 28 (f := fun K => decide (PySem.W.typeIn K (.ref (He.ma K (He.ga K "Broken") "__init__")) = some (.type "function"))) rfl), oexB_ok (c.fact 29 (f := fun K => oexB K (He.ga K "Broken")) rfl)⟩,
    in_BadParts := ⟨c.def_ 28 (d := ⟨("BadParts", some "__init__"), "__init__", "BadParts.__init__", defArgs (clsInit (top 17)), defBody (clsInit (top 17)), defScope (clsInit (top 17)), [], []⟩) rfl, of_decide_eq_true (c.fact 30 (f := fun K => decide (PySem.W.findIn K (.ref (He.ga K "BadParts")) "__init__" = some (some (.ref (He.ma K (He.ga K "BadParts") "__init__"))))) rfl), of_decide_eq_true (c.fact 31 (f := fun K => decide (PySem.W.typeIn K (.ref (He.ma K (He.ga K "BadParts") "__init__")) = some (.type "function"))) rfl), oexB_ok (c.fact 32 (f := fun K => oexB K (He.ga K "BadParts")) rfl)⟩,
    in_Barred := ⟨c.def_ 29 (d := ⟨("Barred", some "__init__"), "__init__", "Barred.__init__", defArgs (clsInit (top 18)), defBody (clsInit (top 18)), defScope (clsInit (top 18)), [], []⟩) rfl, of_decide_eq_true (c.fact 33 (f := fun K => decide (PySem.W.findIn K (.ref (He.ga K "Barred")) "__init__" = some (some (.ref (He.ma K (He.ga K "Barred") "__init__"))))) rfl), of_decide_eq_true (c.fact 34 (f := fun K => decide (PySem.W.typeIn K (.ref (He.ma K (He.ga K "Barred") "__init__")) = some (.type "function"))) rfl), oexB_ok (c.fact 35 (f := fun K => oexB K (He.ga K "Barred")) rfl)⟩,
    in_NotCourse := ⟨c.def_ 30 (d := ⟨("NotCourse", some "__init__"), "__init__", "NotCourse.__init__", defArgs (clsInit (top 19)), defBody (clsInit (top 19)), defScope (clsInit (top 19)), [], []⟩) rfl, of_decide_eq_true (c.fact 36 (f := fun K => decide (PySem.W.findIn K (.ref (He.ga K "NotCourse")) "__init__" = some (some (.ref (He.ma K (He.ga K "NotCourse") "__init__"))))) rfl), of_decide_eq_true (c.fact 37 (f := fun K => decide (PySem.W.typeIn K (.ref (He.ma K (He.ga K "NotCourse") "__init__")) = some (.type "function"))) rfl), oexB_ok (c.fact 38 (f := fun K => oexB K (He.ga K "NotCourse")) rfl)⟩,
    in_BreaksOwnRule := ⟨c.def_ 31 (d := ⟨("BreaksOwnRule", some "__init__"), "__init__", "BreaksOwnRule.__init__", defArgs (clsInit (top 20)), defBody (clsInit (top 20)), defScope (clsInit (top 20)), [], []⟩) rfl, of_decide_eq_true (c.fact 39 (f := fun K => decide (PySem.W.findIn K (.ref (He.ga K "BreaksOwnRule")) "__init__" = some (some (.ref (He.ma K (He.ga K "BreaksOwnRule") "__init__"))))) rfl), of_decide_eq_true (c.fact 40 (f := fun K => decide (PySem.W.typeIn K (.ref (He.ma K (He.ga K "BreaksOwnRule") "__init__")) = some (.type "function"))) rfl), oexB_ok (c.fact 41 (f := fun K => oexB K (He.ga K "BreaksOwnRule")) rfl)⟩,
    in_NotBlocked := ⟨c.def_ 32 (d := ⟨("NotBlocked", some "__init__"), "__init__", "NotBlocked.__init__", defArgs (clsInit (top 21)), defBody (clsInit (top 21)), defScope (clsInit (top 21)), [], []⟩) rfl, of_decide_eq_true (c.fact 42 (f := fun K => decide (PySem.W.findIn K (.ref (He.ga K "NotBlocked")) "__init__" = some (some (.ref (He.ma K (He.ga K "NotBlocked") "__init__"))))) rfl), of_decide_eq_true (c.fact 43 (f := fun K => decide (PySem.W.typeIn K (.ref (He.ma K (He.ga K "NotBlocked") "__init__")) = some (.type "function"))) rfl), oexB_ok (c.fact 44 (f := fun K => oexB K (He.ga K "NotBlocked")) rfl)⟩,
    in_NotStricter := ⟨c.def_ 33 (d := ⟨("NotStricter", some "__init__"), "__init__", "NotStricter.__init__", defArgs (clsInit (top 24)), defBody (clsInit (top 24)), defScope (clsInit (top 24)), [], []⟩) rfl, of_decide_eq_true (c.fact 45 (f := fun K => decide (PySem.W.findIn K (.ref (He.ga K "NotStricter")) "__init__" = some (some (.ref (He.ma K (He.ga K "NotStricter") "__init__"))))) rfl), of_decide_eq_true (c.fact 46 (f := fun K => decide (PySem.W.typeIn K (.ref (He.ma K (He.ga K "NotStricter") "__init__")) = some (.type "function"))) rfl), oexB_ok (c.fact 47 (f := fun K => oexB K (He.ga K "NotStricter")) rfl)⟩,
    in_NotLet := ⟨c.def_ 34 (d := ⟨("NotLet", some "__init__"), "__init__", "NotLet.__init__", defArgs (clsInit (top 26)), defBody (clsInit (top 26)), defScope (clsInit (top 26)), [], []⟩) rfl, of_decide_eq_true (c.fact 48 (f := fun K => decide (PySem.W.findIn K (.ref (He.ga K "NotLet")) "__init__" = some (some (.ref (He.ma K (He.ga K "NotLet") "__init__"))))) rfl), of_decide_eq_true (c.fact 49 (f := fun K => decide (PySem.W.typeIn K (.ref (He.ma K (He.ga K "NotLet") "__init__")) = some (.type "function"))) rfl), oexB_ok (c.fact 50 (f := fun K => oexB K (He.ga K "NotLet")) rfl)⟩,
    in_NotFree := ⟨c.def_ 35 (d := ⟨("NotFree", some "__init__"), "__init__", "NotFree.__init__", defArgs (clsInit (top 27)), defBody (clsInit (top 27)), defScope (clsInit (top 27)), [], []⟩) rfl, of_decide_eq_true (c.fact 51 (f := fun K => decide (PySem.W.findIn K (.ref (He.ga K "NotFree")) "__init__" = some (some (.ref (He.ma K (He.ga K "NotFree") "__init__"))))) rfl), of_decide_eq_true (c.fact 52 (f := fun K => decide (PySem.W.typeIn K (.ref (He.ma K (He.ga K "NotFree") "__init__")) = some (.type "function"))) rfl), oexB_ok (c.fact 53 (f := fun K => oexB K (He.ga K "NotFree")) rfl)⟩,
    in_NotTimely := ⟨c.def_ 36 (d := ⟨("NotTimely", some "__init__"), "__init__", "NotTimely.__init__", defArgs (clsInit (top 28)), defBody (clsInit (top 28)), defScope (clsInit (top 28)), [], []⟩) rfl, of_decide_eq_true (c.fact 54 (f := fun K => decide (PySem.W.findIn K (.ref (He.ga K "NotTimely")) "__init__" = some (some (.ref (He.ma K (He.ga K "NotTimely") "__init__"))))) rfl), of_decide_eq_true (c.fact 55 (f := fun K => decide (PySem.W.typeIn K (.ref (He.ma K (He.ga K "NotTimely") "__init__")) = some (.type "function"))) rfl), oexB_ok (c.fact 56 (f := fun K => oexB K (He.ga K "NotTimely")) rfl)⟩,
    in_NotEntered := ⟨c.def_ 37 (d := ⟨("NotEntered", some "__init__"), "__init__", "NotEntered.__init__", defArgs (clsInit (top 29)), defBody (clsInit (top 29)), defScope (clsInit (top 29)), [], []⟩) rfl, of_decide_eq_true (c.fact 57 (f := fun K => decide (PySem.W.findIn K (.ref (He.ga K "NotEntered")) "__init__" = some (some (.ref (He.ma K (He.ga K "NotEntered") "__init__"))))) rfl), of_decide_eq_true (c.fact 58 (f := fun K => decide (PySem.W.typeIn K (.ref (He.ma K (He.ga K "NotEntered") "__init__")) = some (.type "function"))) rfl), oexB_ok (c.fact 59 (f := fun K => oexB K (He.ga K "NotEntered")) rfl)⟩,
    in_BadNotation := ⟨c.def_ 38 (d := ⟨("BadNotation", some "__init__"), "__init__", "BadNotation.__init__", defArgs (clsInit (top 31)), defBody (clsInit (top 31)), defScope (clsInit (top 31)), [], []⟩) rfl, of_decide_eq_true (c.fact 60 (f := fun K => decide (PySem.W.findIn K (.ref (He.ga K "BadNotation")) "__init__" = some (some (.ref (He.ma K (He.ga K "BadNotation") "__init__"))))) rfl), of_decide_eq_true (c.fact 61 (f := fun K => decide (PySem.W.typeIn K (.ref (He.ma K (He.ga K "BadNotation") "__init__")) = some (.type "function"))) rfl), oexB_ok (c.fact 62 (f := fun K => oexB K (He.ga K "BadNotation")) rfl)⟩,
    at_is_row_name := ⟨c.def_ 0 (d := ⟨("is_row_name", none), "is_row_name", "is_row_name", defArgs (top 36), defBody (top 36), defScope (top 36), [], []⟩) rfl, He.glo_ok X G (c.fact 63 (f := fun K => (He.Fa.glo "is_row_name").ok K) rfl)⟩,
    at_check_names := ⟨c.def_ 1 (d := ⟨("check_names", none), "check_names", "check_names", defArgs (top 37), defBody (top 37), defScope (top 37), [], []⟩) rfl, He.glo_ok X G (c.fact 64 (f := fun K => (He.Fa.glo "check_names").ok K) rfl)⟩,
    at_row_set := ⟨c.def_ 2 (d := ⟨("row_set", none), "row_set", "row_set", defArgs (top 38), defBody (top 38), defScope (top 38), [], []⟩) rfl, He.glo_ok X G (c.fact 65 (f := fun K => (He.Fa.glo "row_set").ok K) rfl)⟩,
    at__law_cell := ⟨c.def_ 3 (d := ⟨("_law_cell", none), "_law_cell", "_law_cell", defArgs (top 40), defBody (top 40), defScope (top 40), [], []⟩) rfl, He.glo_ok X G (c.fact 66 (f := fun K => (He.Fa.glo "_law_cell").ok K) rfl)⟩,
    at__law_digits := ⟨c.def_ 4 (d := ⟨("_law_digits", none), "_law_digits", "_law_digits", defArgs (top 41), defBody (top 41), defScope (top 41), [], []⟩) rfl, He.glo_ok X G (c.fact 67 (f := fun K => (He.Fa.glo "_law_digits").ok K) rfl)⟩,
    at__law_signs := ⟨c.def_ 5 (d := ⟨("_law_signs", none), "_law_signs", "_law_signs", defArgs (top 42), defBody (top 42), defScope (top 42), [], []⟩) rfl, He.glo_ok X G (c.fact 68 (f := fun K => (He.Fa.glo "_law_signs").ok K) rfl)⟩,
    at__law_string := ⟨c.def_ 6 (d := ⟨("_law_string", none), "_law_string", "_law_string", defArgs (top 43), defBody (top 43), defScope (top 43), [], []⟩) rfl, He.glo_ok X G (c.fact 69 (f := fun K => (He.Fa.glo "_law_string").ok K) rfl)⟩,
    at__law_strings := ⟨c.def_ 7 (d := ⟨("_law_strings", none), "_law_strings", "_law_strings", defArgs (top 44), defBody (top 44), defScope (top 44), [], []⟩) rfl, He.glo_ok X G (c.fact 70 (f := fun K => (He.Fa.glo "_law_strings").ok K) rfl)⟩,
    at__law_good := ⟨c.def_ 8 (d := ⟨("_law_good", none), "_law_good", "_law_good", defArgs (top 45), defBody (top 45), defScope (top 45), [], []⟩) rfl, He.glo_ok X G (c.fact 71 (f := fun K => (He.Fa.glo "_law_good").ok K) rfl)⟩,
    at__law_kinds := ⟨c.def_ 9 (d := ⟨("_law_kinds", none), "_law_kinds", "_law_kinds", defArgs (top 46), defBody (top 46), defScope (top 46), [], []⟩) rfl, He.glo_ok X G (c.fact 72 (f := fun K => (He.Fa.glo "_law_kinds").ok K) rfl)⟩,
    at__law_due := ⟨c.def_ 10 (d := ⟨("_law_due", none), "_law_due", "_law_due", defArgs (top 47), defBody (top 47), defScope (top 47), [], []⟩) rfl, He.glo_ok X G (c.fact 73 (f := fun K => (He.Fa.glo "_law_due").ok K) rfl)⟩,
    at__law_asked := ⟨c.def_ 11 (d := ⟨("_law_asked", none), "_law_asked", "_law_asked", defArgs (top 48), defBody (top 48), defScope (top 48), [], []⟩) rfl, He.glo_ok X G (c.fact 74 (f := fun K => (He.Fa.glo "_law_asked").ok K) rfl)⟩,
    at__law_caught := ⟨c.def_ 12 (d := ⟨("_law_caught", none), "_law_caught", "_law_caught", defArgs (top 49), defBody (top 49), defScope (top 49), [], []⟩) rfl, He.glo_ok X G (c.fact 75 (f := fun K => (He.Fa.glo "_law_caught").ok K) rfl)⟩,
    at__law_equal := ⟨c.def_ 13 (d := ⟨("_law_equal", none), "_law_equal", "_law_equal", defArgs (top 50), defBody (top 50), defScope (top 50), [], []⟩) rfl, He.glo_ok X G (c.fact 76 (f := fun K => (He.Fa.glo "_law_equal").ok K) rfl)⟩,
    at__law_right := ⟨c.def_ 14 (d := ⟨("_law_right", none), "_law_right", "_law_right", defArgs (top 51), defBody (top 51), defScope (top 51), [], []⟩) rfl, He.glo_ok X G (c.fact 77 (f := fun K => (He.Fa.glo "_law_right").ok K) rfl)⟩,
    at__law_created := ⟨c.def_ 15 (d := ⟨("_law_created", none), "_law_created", "_law_created", defArgs (top 52), defBody (top 52), defScope (top 52), [], []⟩) rfl, He.glo_ok X G (c.fact 78 (f := fun K => (He.Fa.glo "_law_created").ok K) rfl)⟩,
    at__law_errors_right := ⟨c.def_ 16 (d := ⟨("_law_errors_right", none), "_law_errors_right", "_law_errors_right", defArgs (top 53), defBody (top 53), defScope (top 53), [], []⟩) rfl, He.glo_ok X G (c.fact 79 (f := fun K => (He.Fa.glo "_law_errors_right").ok K) rfl)⟩,
    at_law := ⟨c.def_ 17 (d := ⟨("law", none), "law", "law", defArgs (top 54), defBody (top 54), defScope (top 54), [], []⟩) rfl, He.glo_ok X G (c.fact 80 (f := fun K => (He.Fa.glo "law").ok K) rfl)⟩,
    g_RowError := He.glo_ok X G (c.fact 81 (f := fun K => (He.Fa.glo "RowError").ok K) rfl),
    g_NoQuotient := He.glo_ok X G (c.fact 82 (f := fun K => (He.Fa.glo "NoQuotient").ok K) rfl),
    g_ZeroPolynomial := He.glo_ok X G (c.fact 83 (f := fun K => (He.Fa.glo "ZeroPolynomial").ok K) rfl),
    g_ZeroSum := He.glo_ok X G (c.fact 84 (f := fun K => (He.Fa.glo "ZeroSum").ok K) rfl),
    g_NoRows := He.glo_ok X G (c.fact 85 (f := fun K => (He.Fa.glo "NoRows").ok K) rfl),
    g_BadName := He.glo_ok X G (c.fact 86 (f := fun K => (He.Fa.glo "BadName").ok K) rfl),
    g_RowTwice := He.glo_ok X G (c.fact 87 (f := fun K => (He.Fa.glo "RowTwice").ok K) rfl),
    g_UnknownRow := He.glo_ok X G (c.fact 88 (f := fun K => (He.Fa.glo "UnknownRow").ok K) rfl),
    g_RowsDiffer := He.glo_ok X G (c.fact 89 (f := fun K => (He.Fa.glo "RowsDiffer").ok K) rfl),
    g_SpotTwice := He.glo_ok X G (c.fact 90 (f := fun K => (He.Fa.glo "SpotTwice").ok K) rfl),
    g_BadStretch := He.glo_ok X G (c.fact 91 (f := fun K => (He.Fa.glo "BadStretch").ok K) rfl),
    g_ShortStretch := He.glo_ok X G (c.fact 92 (f := fun K => (He.Fa.glo "ShortStretch").ok K) rfl),
    g_TooLong := He.glo_ok X G (c.fact 93 (f := fun K => (He.Fa.glo "TooLong").ok K) rfl),
    g_CannotStand := He.glo_ok X G (c.fact 94 (f := fun K => (He.Fa.glo "CannotStand").ok K) rfl),
    g_Broken := He.glo_ok X G (c.fact 95 (f := fun K => (He.Fa.glo "Broken").ok K) rfl),
    g_NotFinite := He.glo_ok X G (c.fact 96 (f := fun K => (He.Fa.glo "NotFinite").ok K) rfl),
    g_BadParts := He.glo_ok X G (c.fact 97 (f := fun K => (He.Fa.glo "BadParts").ok K) rfl),
    g_Barred := He.glo_ok X G (c.fact 98 (f := fun K => (He.Fa.glo "Barred").ok K) rfl),
    g_NotCourse := He.glo_ok X G (c.fact 99 (f := fun K => (He.Fa.glo "NotCourse").ok K) rfl),
    g_BreaksOwnRule := He.glo_ok X G (c.fact 100 (f := fun K => (He.Fa.glo "BreaksOwnRule").ok K) rfl),
    g_NotBlocked := He.glo_ok X G (c.fact 101 (f := fun K => (He.Fa.glo "NotBlocked").ok K) rfl),
    g_Unsure := He.glo_ok X G (c.fact 102 (f := fun K => (He.Fa.glo "Unsure").ok K) rfl),
    g_Contradiction := He.glo_ok X G (c.fact 103 (f := fun K => (He.Fa.glo "Contradiction").ok K) rfl),
    g_NotStricter := He.glo_ok X G (c.fact 104 (f := fun K => (He.Fa.glo "NotStricter").ok K) rfl),
    g_NoFamilies := He.glo_ok X G (c.fact 105 (f := fun K => (He.Fa.glo "NoFamilies").ok K) rfl),
    g_NotLet := He.glo_ok X G (c.fact 106 (f := fun K => (He.Fa.glo "NotLet").ok K) rfl),
    g_NotFree := He.glo_ok X G (c.fact 107 (f := fun K => (He.Fa.glo "NotFree").ok K) rfl),
    g_NotTimely := He.glo_ok X G (c.fact 108 (f := fun K => (He.Fa.glo "NotTimely").ok K) rfl),
    g_NotEntered := He.glo_ok X G (c.fact 109 (f := fun K => (He.Fa.glo "NotEntered").ok K) rfl),
    g_NothingToUndo := He.glo_ok X G (c.fact 110 (f := fun K => (He.Fa.glo "NothingToUndo").ok K) rfl),
    g_BadNotation := He.glo_ok X G (c.fact 111 (f := fun K => (He.Fa.glo "BadNotation").ok K) rfl),
    n_ValueError := He.free_ok X G (c.fact 112 (f := fun K => (He.Fa.free "ValueError").ok K) rfl),
    n_bool := He.free_ok X G (c.fact 113 (f := fun K => (He.Fa.free "bool").ok K) rfl),
    n_int := He.free_ok X G (c.fact 114 (f := fun K => (He.Fa.free "int").ok K) rfl),
    n_isinstance := He.free_ok X G (c.fact 115 (f := fun K => (He.Fa.free "isinstance").ok K) rfl),
    n_len := He.free_ok X G (c.fact 116 (f := fun K => (He.Fa.free "len").ok K) rfl),
    n_list := He.free_ok X G (c.fact 117 (f := fun K => (He.Fa.free "list").ok K) rfl),
    n_range := He.free_ok X G (c.fact 118 (f := fun K => (He.Fa.free "range").ok K) rfl),
    n_sorted := He.free_ok X G (c.fact 119 (f := fun K => (He.Fa.free "sorted").ok K) rfl),
    n_str := He.free_ok X G (c.fact 120 (f := fun K => (He.Fa.free "str").ok K) rfl),
    n_tuple := He.free_ok X G (c.fact 121 (f := fun K => (He.Fa.free "tuple").ok K) rfl),
    xc_NoQuotient := xcB_ok (c.fact 122 (f := fun K => xcB K (He.ga K "NoQuotient")) rfl),
    kr_NoQuotient := of_decide_eq_true (c.fact 123 (f := fun K => decide ((clsL.map fun n => PySem.W.kitOne K (.ref (He.ga K "NoQuotient")) (.ref (He.ga K n))) = rowK 0)) rfl),
    koR_NoQuotient := of_decide_eq_true (c.fact 124 (f := fun K => decide (PySem.W.kitOne K (.ref (He.ga K "NoQuotient")) (.ref (He.ga K "RowError")) = some true)) rfl),
    koV_NoQuotient := of_decide_eq_true (c.fact 125 (f := fun K => decide (PySem.W.kitOne K (.ref (He.ga K "NoQuotient")) (.type "ValueError") = some true)) rfl),
    x_NoQuotient := He.exc_ok (c.fact 126 (f := fun K => (He.Fa.exc "NoQuotient").ok K) rfl),
    xc_ZeroPolynomial := xcB_ok (c.fact 127 (f := fun K => xcB K (He.ga K "ZeroPolynomial")) rfl),
    kr_ZeroPolynomial := of_decide_eq_true (c.fact 128 (f := fun K => decide ((clsL.map fun n => PySem.W.kitOne K (.ref (He.ga K "ZeroPolynomial")) (.ref (He.ga K n))) = rowK 1)) rfl),
    koR_ZeroPolynomial := of_decide_eq_true (c.fact 129 (f := fun K => decide (PySem.W.kitOne K (.ref (He.ga K "ZeroPolynomial")) (.ref (He.ga K "RowError")) = some true)) rfl),
    koV_ZeroPolynomial := of_decide_eq_true (c.fact 130 (f := fun K => decide (PySem.W.kitOne K (.ref (He.ga K "ZeroPolynomial")) (.type "ValueError") = some true)) rfl),
    x_ZeroPolynomial := He.exc_ok (c.fact 131 (f := fun K => (He.Fa.exc "ZeroPolynomial").ok K) rfl),
    xc_ZeroSum := xcB_ok (c.fact 132 (f := fun K => xcB K (He.ga K "ZeroSum")) rfl),
    kr_ZeroSum := of_decide_eq_true (c.fact 133 (f := fun K => decide ((clsL.map fun n => PySem.W.kitOne K (.ref (He.ga K "ZeroSum")) (.ref (He.ga K n))) = rowK 2)) rfl),
    koR_ZeroSum := of_decide_eq_true (c.fact 134 (f := fun K => decide (PySem.W.kitOne K (.ref (He.ga K "ZeroSum")) (.ref (He.ga K "RowError")) = some true)) rfl),
    koV_ZeroSum := of_decide_eq_true (c.fact 135 (f := fun K => decide (PySem.W.kitOne K (.ref (He.ga K "ZeroSum")) (.type "ValueError") = some true)) rfl),
    x_ZeroSum := He.exc_ok (c.fact 136 (f := fun K => (He.Fa.exc "ZeroSum").ok K) rfl),
    xc_NoRows := xcB_ok (c.fact 137 (f := fun K => xcB K (He.ga K "NoRows")) rfl),
    kr_NoRows := of_decide_eq_true (c.fact 138 (f := fun K => decide ((clsL.map fun n => PySem.W.kitOne K (.ref (He.ga K "NoRows")) (.ref (He.ga K n))) = rowK 3)) rfl),
    koR_NoRows := of_decide_eq_true (c.fact 139 (f := fun K => decide (PySem.W.kitOne K (.ref (He.ga K "NoRows")) (.ref (He.ga K "RowError")) = some true)) rfl),
    koV_NoRows := of_decide_eq_true (c.fact 140 (f := fun K => decide (PySem.W.kitOne K (.ref (He.ga K "NoRows")) (.type "ValueError") = some true)) rfl),
    x_NoRows := He.exc_ok (c.fact 141 (f := fun K => (He.Fa.exc "NoRows").ok K) rfl),
    xc_BadName := xcB_ok (c.fact 142 (f := fun K => xcB K (He.ga K "BadName")) rfl),
    kr_BadName := of_decide_eq_true (c.fact 143 (f := fun K => decide ((clsL.map fun n => PySem.W.kitOne K (.ref (He.ga K "BadName")) (.ref (He.ga K n))) = rowK 4)) rfl),
    koR_BadName := of_decide_eq_true (c.fact 144 (f := fun K => decide (PySem.W.kitOne K (.ref (He.ga K "BadName")) (.ref (He.ga K "RowError")) = some true)) rfl),
    koV_BadName := of_decide_eq_true (c.fact 145 (f := fun K => decide (PySem.W.kitOne K (.ref (He.ga K "BadName")) (.type "ValueError") = some true)) rfl),
    xf_BadName := xfB_ok (c.fact 146 (f := fun K => xfB K (He.ga K "BadName")) rfl),
    no_BadName_name := of_decide_eq_true (c.fact 147 (f := fun K => decide (PySem.W.findIn K (.ref (He.ga K "BadName")) "name" = some none)) rfl),
    xc_RowTwice := xcB_ok (c.fact 148 (f := fun K => xcB K (He.ga K "RowTwice")) rfl),
    kr_RowTwice := of_decide_eq_true (c.fact 149 (f := fun K => decide ((clsL.map fun n => PySem.W.kitOne K (.ref (He.ga K "RowTwice")) (.ref (He.ga K n))) = rowK 5)) rfl),
    koR_RowTwice := of_decide_eq_true (c.fact 150 (f := fun K => decide (PySem.W.kitOne K (.ref (He.ga K "RowTwice")) (.ref (He.ga K "RowError")) = some true)) rfl),
    koV_RowTwice := of_decide_eq_true (c.fact 151 (f := fun K => decide (PySem.W.kitOne K (.ref (He.ga K "RowTwice")) (.type "ValueError") = some true)) rfl),
    xf_RowTwice := xfB_ok (c.fact 152 (f := fun K => xfB K (He.ga K "RowTwice")) rfl),
    no_RowTwice_name := of_decide_eq_true (c.fact 153 (f := fun K => decide (PySem.W.findIn K (.ref (He.ga K "RowTwice")) "name" = some none)) rfl),
    xc_UnknownRow := xcB_ok (c.fact 154 (f := fun K => xcB K (He.ga K "UnknownRow")) rfl),
    kr_UnknownRow := of_decide_eq_true (c.fact 155 (f := fun K => decide ((clsL.map fun n => PySem.W.kitOne K (.ref (He.ga K "UnknownRow")) (.ref (He.ga K n))) = rowK 6)) rfl),
    koR_UnknownRow := of_decide_eq_true (c.fact 156 (f := fun K => decide (PySem.W.kitOne K (.ref (He.ga K "UnknownRow")) (.ref (He.ga K "RowError")) = some true)) rfl),
    koV_UnknownRow := of_decide_eq_true (c.fact 157 (f := fun K => decide (PySem.W.kitOne K (.ref (He.ga K "UnknownRow")) (.type "ValueError") = some true)) rfl),
    xf_UnknownRow := xfB_ok (c.fact 158 (f := fun K => xfB K (He.ga K "UnknownRow")) rfl),
    no_UnknownRow_name := of_decide_eq_true (c.fact 159 (f := fun K => decide (PySem.W.findIn K (.ref (He.ga K "UnknownRow")) "name" = some none)) rfl),
    xc_RowsDiffer := xcB_ok (c.fact 160 (f := fun K => xcB K (He.ga K "RowsDiffer")) rfl),
    kr_RowsDiffer := of_decide_eq_true (c.fact 161 (f := fun K => decide ((clsL.map fun n => PySem.W.kitOne K (.ref (He.ga K "RowsDiffer")) (.ref (He.ga K n))) = rowK 7)) rfl),
    koR_RowsDiffer := of_decide_eq_true (c.fact 162 (f := fun K => decide (PySem.W.kitOne K (.ref (He.ga K "RowsDiffer")) (.ref (He.ga K "RowError")) = some true)) rfl),
    koV_RowsDiffer := of_decide_eq_true (c.fact 163 (f := fun K => decide (PySem.W.kitOne K (.ref (He.ga K "RowsDiffer")) (.type "ValueError") = some true)) rfl),
    xf_RowsDiffer := xfB_ok (c.fact 164 (f := fun K => xfB K (He.ga K "RowsDiffer")) rfl),
    no_RowsDiffer_one := of_decide_eq_true (c.fact 165 (f := fun K => decide (PySem.W.findIn K (.ref (He.ga K "RowsDiffer")) "one" = some none)) rfl),
    no_RowsDiffer_two := of_decide_eq_true (c.fact 166 (f := fun K => decide (PySem.W.findIn K (.ref (He.ga K "RowsDiffer")) "two" = some none)) rfl),
    xc_SpotTwice := xcB_ok (c.fact 167 (f := fun K => xcB K (He.ga K "SpotTwice")) rfl),
    kr_SpotTwice := of_decide_eq_true (c.fact 168 (f := fun K => decide ((clsL.map fun n => PySem.W.kitOne K (.ref (He.ga K "SpotTwice")) (.ref (He.ga K n))) = rowK 8)) rfl),
    koR_SpotTwice := of_decide_eq_true (c.fact 169 (f := fun K => decide (PySem.W.kitOne K (.ref (He.ga K "SpotTwice")) (.ref (He.ga K "RowError")) = some true)) rfl),
    koV_SpotTwice := of_decide_eq_true (c.fact 170 (f := fun K => decide (PySem.W.kitOne K (.ref (He.ga K "SpotTwice")) (.type "ValueError") = some true)) rfl),
    xf_SpotTwice := xfB_ok (c.fact 171 (f := fun K => xfB K (He.ga K "SpotTwice")) rfl),
    no_SpotTwice_row := of_decide_eq_true (c.fact 172 (f := fun K => decide (PySem.W.findIn K (.ref (He.ga K "SpotTwice")) "row" = some none)) rfl),
    no_SpotTwice_place := of_decide_eq_true (c.fact 173 (f := fun K => decide (PySem.W.findIn K (.ref (He.ga K "SpotTwice")) "place" = some none)) rfl),
    xc_BadStretch := xcB_ok (c.fact 174 (f := fun K => xcB K (He.ga K "BadStretch")) rfl),
    kr_BadStretch := of_decide_eq_true (c.fact 175 (f := fun K => decide ((clsL.map fun n => PySem.W.kitOne K (.ref (He.ga K "BadStretch")) (.ref (He.ga K n))) = rowK 9)) rfl),
    koR_BadStretch := of_decide_eq_true (c.fact 176 (f := fun K => decide (PySem.W.kitOne K (.ref (He.ga K "BadStretch")) (.ref (He.ga K "RowError")) = some true)) rfl),
    koV_BadStretch := of_decide_eq_true (c.fact 177 (f := fun K => decide (PySem.W.kitOne K (.ref (He.ga K "BadStretch")) (.type "ValueError") = some true)) rfl),
    xf_BadStretch := xfB_ok (c.fact 178 (f := fun K => xfB K (He.ga K "BadStretch")) rfl),
    no_BadStretch_count := of_decide_eq_true (c.fact 179 (f := fun K => decide (PySem.W.findIn K (.ref (He.ga K "BadStretch")) "count" = some none)) rfl),
    xc_ShortStretch := xcB_ok (c.fact 180 (f := fun K => xcB K (He.ga K "ShortStretch")) rfl),
    kr_ShortStretch := of_decide_eq_true (c.fact 181 (f := fun K => decide ((clsL.map fun n => PySem.W.kitOne K (.ref (He.ga K "ShortStretch")) (.ref (He.ga K n))) = rowK 10)) rfl),
    koR_ShortStretch := of_decide_eq_true (c.fact 182 (f := fun K => decide (PySem.W.kitOne K (.ref (He.ga K "ShortStretch")) (.ref (He.ga K "RowError")) = some true)) rfl),
    koV_ShortStretch := of_decide_eq_true (c.fact 183 (f := fun K => decide (PySem.W.kitOne K (.ref (He.ga K "ShortStretch")) (.type "ValueError") = some true)) rfl),
    xf_ShortStretch := xfB_ok (c.fact 184 (f := fun K => xfB K (He.ga K "ShortStretch")) rfl),
    no_ShortStretch_span := of_decide_eq_true (c.fact 185 (f := fun K => decide (PySem.W.findIn K (.ref (He.ga K "ShortStretch")) "span" = some none)) rfl),
    xc_TooLong := xcB_ok (c.fact 186 (f := fun K => xcB K (He.ga K "TooLong")) rfl),
    kr_TooLong := of_decide_eq_true (c.fact 187 (f := fun K => decide ((clsL.map fun n => PySem.W.kitOne K (.ref (He.ga K "TooLong")) (.ref (He.ga K n))) = rowK 11)) rfl),
    koR_TooLong := of_decide_eq_true (c.fact 188 (f := fun K => decide (PySem.W.kitOne K (.ref (He.ga K "TooLong")) (.ref (He.ga K "RowError")) = some true)) rfl),
    koV_TooLong := of_decide_eq_true (c.fact 189 (f := fun K => decide (PySem.W.kitOne K (.ref (He.ga K "TooLong")) (.type "ValueError") = some true)) rfl),
    xf_TooLong := xfB_ok (c.fact 190 (f := fun K => xfB K (He.ga K "TooLong")) rfl),
    no_TooLong_longest := of_decide_eq_true (c.fact 191 (f := fun K => decide (PySem.W.findIn K (.ref (He.ga K "TooLong")) "longest" = some none)) rfl),
    xc_CannotStand := xcB_ok (c.fact 192 (f := fun K => xcB K (He.ga K "CannotStand")) rfl),
    kr_CannotStand := of_decide_eq_true (c.fact 193 (f := fun K => decide ((clsL.map fun n => PySem.W.kitOne K (.ref (He.ga K "CannotStand")) (.ref (He.ga K n))) = rowK 12)) rfl),
    koR_CannotStand := of_decide_eq_true (c.fact 194 (f := fun K => decide (PySem.W.kitOne K (.ref (He.ga K "CannotStand")) (.ref (He.ga K "RowError")) = some true)) rfl),
    koV_CannotStand := of_decide_eq_true (c.fact 195 (f := fun K => decide (PySem.W.kitOne K (.ref (He.ga K "CannotStand")) (.type "ValueError") = some true)) rfl),
    xf_CannotStand := xfB_ok (c.fact 196 (f := fun K => xfB K (He.ga K "CannotStand")) rfl),
    no_CannotStand_terms := of_decide_eq_true (c.fact 197 (f := fun K => decide (PySem.W.findIn K (.ref (He.ga K "CannotStand")) "terms" = some none)) rfl),
    xc_Broken := xcB_ok (c.fact 198 (f := fun K => xcB K (He.ga K "Broken")) rfl),
    kr_Broken := of_decide_eq_true (c.fact 199 (f := fun K => decide ((clsL.map fun n => PySem.W.kitOne K (.ref (He.ga K "Broken")) (.ref (He.ga K n))) = rowK 13)) rfl),
    koR_Broken := of_decide_eq_true (c.fact 200 (f := fun K => decide (PySem.W.kitOne K (.ref (He.ga K "Broken")) (.ref (He.ga K "RowError")) = some true)) rfl),
    koV_Broken := of_decide_eq_true (c.fact 201 (f := fun K => decide (PySem.W.kitOne K (.ref (He.ga K "Broken")) (.type "ValueError") = some true)) rfl),
    xf_Broken := xfB_ok (c.fact 202 (f := fun K => xfB K (He.ga K "Broken")) rfl),
    no_Broken_place := of_decide_eq_true (c.fact 203 (f := fun K => decide (PySem.W.findIn K (.ref (He.ga K "Broken")) "place" = some none)) rfl),
    no_Broken_index := of_decide_eq_true (c.fact 204 (f := fun K => decide (PySem.W.findIn K (.ref (He.ga K "Broken")) "index" = some none)) rfl),
    xc_NotFinite := xcB_ok (c.fact 205 (f := fun K => xcB K (He.ga K "NotFinite")) rfl),
    kr_NotFinite := of_decide_eq_true (c.fact 206 (f := fun K => decide ((clsL.map fun n => PySem.W.kitOne K (.ref (He.ga K "NotFinite")) (.ref (He.ga K n))) = rowK 14)) rfl),
    koR_NotFinite := of_decide_eq_true (c.fact 207 (f := fun K => decide (PySem.W.kitOne K (.ref (He.ga K "NotFinite")) (.ref (He.ga K "RowError")) = some true)) rfl),
    koV_NotFinite := of_decide_eq_true (c.fact 208 (f := fun K => decide (PySem.W.kitOne K (.ref (He.ga K "NotFinite")) (.type "ValueError") = some true)) rfl),
    x_NotFinite := He.exc_ok (c.fact 209 (f := fun K => (He.Fa.exc "NotFinite").ok K) rfl),
    xc_BadParts := xcB_ok (c.fact 210 (f := fun K => xcB K (He.ga K "BadParts")) rfl),
    kr_BadParts := of_decide_eq_true (c.fact 211 (f := fun K => decide ((clsL.map fun n => PySem.W.kitOne K (.ref (He.ga K "BadParts")) (.ref (He.ga K n))) = rowK 15)) rfl),
    koR_BadParts := of_decide_eq_true (c.fact 212 (f := fun K => decide (PySem.W.kitOne K (.ref (He.ga K "BadParts")) (.ref (He.ga K "RowError")) = some true)) rfl),
    koV_BadParts := of_decide_eq_true (c.fact 213 (f := fun K => decide (PySem.W.kitOne K (.ref (He.ga K "BadParts")) (.type "ValueError") = some true)) rfl),
    xf_BadParts := xfB_ok (c.fact 214 (f := fun K => xfB K (He.ga K "BadParts")) rfl),
    no_BadParts_count := of_decide_eq_true (c.fact 215 (f := fun K => decide (PySem.W.findIn K (.ref (He.ga K "BadParts")) "count" = some none)) rfl),
    xc_Barred := xcB_ok (c.fact 216 (f := fun K => xcB K (He.ga K "Barred")) rfl),
    kr_Barred := of_decide_eq_true (c.fact 217 (f := fun K => decide ((clsL.map fun n => PySem.W.kitOne K (.ref (He.ga K "Barred")) (.ref (He.ga K n))) = rowK 16)) rfl),
    koR_Barred := of_decide_eq_true (c.fact 218 (f := fun K => decide (PySem.W.kitOne K (.ref (He.ga K "Barred")) (.ref (He.ga K "RowError")) = some true)) rfl),
    koV_Barred := of_decide_eq_true (c.fact 219 (f := fun K => decide (PySem.W.kitOne K (.ref (He.ga K "Barred")) (.type "ValueError") = some true)) rfl),
    xf_Barred := xfB_ok (c.fact 220 (f := fun K => xfB K (He.ga K "Barred")) rfl),
    no_Barred_terms := of_decide_eq_true (c.fact 221 (f := fun K => decide (PySem.W.findIn K (.ref (He.ga K "Barred")) "terms" = some none)) rfl),
    xc_NotCourse := xcB_ok (c.fact 222 (f := fun K => xcB K (He.ga K "NotCourse")) rfl),
    kr_NotCourse := of_decide_eq_true (c.fact 223 (f := fun K => decide ((clsL.map fun n => PySem.W.kitOne K (.ref (He.ga K "NotCourse")) (.ref (He.ga K n))) = rowK 17)) rfl),
    koR_NotCourse := of_decide_eq_true (c.fact 224 (f := fun K => decide (PySem.W.kitOne K (.ref (He.ga K "NotCourse")) (.ref (He.ga K "RowError")) = some true)) rfl),
    koV_NotCourse := of_decide_eq_true (c.fact 225 (f := fun K => decide (PySem.W.kitOne K (.ref (He.ga K "NotCourse")) (.type "ValueError") = some true)) rfl),
    xf_NotCourse := xfB_ok (c.fact 226 (f := fun K => xfB K (He.ga K "NotCourse")) rfl),
    no_NotCourse_count := of_decide_eq_true (c.fact 227 (f := fun K => decide (PySem.W.findIn K (.ref (He.ga K "NotCourse")) "count" = some none)) rfl),
    xc_BreaksOwnRule := xcB_ok (c.fact 228 (f := fun K => xcB K (He.ga K "BreaksOwnRule")) rfl),
    kr_BreaksOwnRule := of_decide_eq_true (c.fact 229 (f := fun K => decide ((clsL.map fun n => PySem.W.kitOne K (.ref (He.ga K "BreaksOwnRule")) (.ref (He.ga K n))) = rowK 18)) rfl),
    koR_BreaksOwnRule := of_decide_eq_true (c.fact 230 (f := fun K => decide (PySem.W.kitOne K (.ref (He.ga K "BreaksOwnRule")) (.ref (He.ga K "RowError")) = some true)) rfl),
    koV_BreaksOwnRule := of_decide_eq_true (c.fact 231 (f := fun K => decide (PySem.W.kitOne K (.ref (He.ga K "BreaksOwnRule")) (.type "ValueError") = some true)) rfl),
    xf_BreaksOwnRule := xfB_ok (c.fact 232 (f := fun K => xfB K (He.ga K "BreaksOwnRule")) rfl),
    no_BreaksOwnRule_place := of_decide_eq_true (c.fact 233 (f := fun K => decide (PySem.W.findIn K (.ref (He.ga K "BreaksOwnRule")) "place" = some none)) rfl),
    xc_NotBlocked := xcB_ok (c.fact 234 (f := fun K => xcB K (He.ga K "NotBlocked")) rfl),
    kr_NotBlocked := of_decide_eq_true (c.fact 235 (f := fun K => decide ((clsL.map fun n => PySem.W.kitOne K (.ref (He.ga K "NotBlocked")) (.ref (He.ga K n))) = rowK 19)) rfl),
    koR_NotBlocked := of_decide_eq_true (c.fact 236 (f := fun K => decide (PySem.W.kitOne K (.ref (He.ga K "NotBlocked")) (.ref (He.ga K "RowError")) = some true)) rfl),
    koV_NotBlocked := of_decide_eq_true (c.fact 237 (f := fun K => decide (PySem.W.kitOne K (.ref (He.ga K "NotBlocked")) (.type "ValueError") = some true)) rfl),
    xf_NotBlocked := xfB_ok (c.fact 238 (f := fun K => xfB K (He.ga K "NotBlocked")) rfl),
    no_NotBlocked_count := of_decide_eq_true (c.fact 239 (f := fun K => decide (PySem.W.findIn K (.ref (He.ga K "NotBlocked")) "count" = some none)) rfl),
    xc_Unsure := xcB_ok (c.fact 240 (f := fun K => xcB K (He.ga K "Unsure")) rfl),
    kr_Unsure := of_decide_eq_true (c.fact 241 (f := fun K => decide ((clsL.map fun n => PySem.W.kitOne K (.ref (He.ga K "Unsure")) (.ref (He.ga K n))) = rowK 20)) rfl),
    koR_Unsure := of_decide_eq_true (c.fact 242 (f := fun K => decide (PySem.W.kitOne K (.ref (He.ga K "Unsure")) (.ref (He.ga K "RowError")) = some true)) rfl),
    koV_Unsure := of_decide_eq_true (c.fact 243 (f := fun K => decide (PySem.W.kitOne K (.ref (He.ga K "Unsure")) (.type "ValueError") = some true)) rfl),
    x_Unsure := He.exc_ok (c.fact 244 (f := fun K => (He.Fa.exc "Unsure").ok K) rfl),
    xc_Contradiction := xcB_ok (c.fact 245 (f := fun K => xcB K (He.ga K "Contradiction")) rfl),
    kr_Contradiction := of_decide_eq_true (c.fact 246 (f := fun K => decide ((clsL.map fun n => PySem.W.kitOne K (.ref (He.ga K "Contradiction")) (.ref (He.ga K n))) = rowK 21)) rfl),
    koR_Contradiction := of_decide_eq_true (c.fact 247 (f := fun K => decide (PySem.W.kitOne K (.ref (He.ga K "Contradiction")) (.ref (He.ga K "RowError")) = some true)) rfl),
    koV_Contradiction := of_decide_eq_true (c.fact 248 (f := fun K => decide (PySem.W.kitOne K (.ref (He.ga K "Contradiction")) (.type "ValueError") = some true)) rfl),
    x_Contradiction := He.exc_ok (c.fact 249 (f := fun K => (He.Fa.exc "Contradiction").ok K) rfl),
    xc_NotStricter := xcB_ok (c.fact 250 (f := fun K => xcB K (He.ga K "NotStricter")) rfl),
    kr_NotStricter := of_decide_eq_true (c.fact 251 (f := fun K => decide ((clsL.map fun n => PySem.W.kitOne K (.ref (He.ga K "NotStricter")) (.ref (He.ga K n))) = rowK 22)) rfl),
    koR_NotStricter := of_decide_eq_true (c.fact 252 (f := fun K => decide (PySem.W.kitOne K (.ref (He.ga K "NotStricter")) (.ref (He.ga K "RowError")) = some true)) rfl),
    koV_NotStricter := of_decide_eq_true (c.fact 253 (f := fun K => decide (PySem.W.kitOne K (.ref (He.ga K "NotStricter")) (.type "ValueError") = some true)) rfl),
    xf_NotStricter := xfB_ok (c.fact 254 (f := fun K => xfB K (He.ga K "NotStricter")) rfl),
    no_NotStricter_terms := of_decide_eq_true (c.fact 255 (f := fun K => decide (PySem.W.findIn K (.ref (He.ga K "NotStricter")) "terms" = some none)) rfl),
    xc_NoFamilies := xcB_ok (c.fact 256 (f := fun K => xcB K (He.ga K "NoFamilies")) rfl),
    kr_NoFamilies := of_decide_eq_true (c.fact 257 (f := fun K => decide ((clsL.map fun n => PySem.W.kitOne K (.ref (He.ga K "NoFamilies")) (.ref (He.ga K n))) = rowK 23)) rfl),
    koR_NoFamilies := of_decide_eq_true (c.fact 258 (f := fun K => decide (PySem.W.kitOne K (.ref (He.ga K "NoFamilies")) (.ref (He.ga K "RowError")) = some true)) rfl),
    koV_NoFamilies := of_decide_eq_true (c.fact 259 (f := fun K => decide (PySem.W.kitOne K (.ref (He.ga K "NoFamilies")) (.type "ValueError") = some true)) rfl),
    x_NoFamilies := He.exc_ok (c.fact 260 (f := fun K => (He.Fa.exc "NoFamilies").ok K) rfl),
    xc_NotLet := xcB_ok (c.fact 261 (f := fun K => xcB K (He.ga K "NotLet")) rfl),
    kr_NotLet := of_decide_eq_true (c.fact 262 (f := fun K => decide ((clsL.map fun n => PySem.W.kitOne K (.ref (He.ga K "NotLet")) (.ref (He.ga K n))) = rowK 24)) rfl),
    koR_NotLet := of_decide_eq_true (c.fact 263 (f := fun K => decide (PySem.W.kitOne K (.ref (He.ga K "NotLet")) (.ref (He.ga K "RowError")) = some true)) rfl),
    koV_NotLet := of_decide_eq_true (c.fact 264 (f := fun K => decide (PySem.W.kitOne K (.ref (He.ga K "NotLet")) (.type "ValueError") = some true)) rfl),
    xf_NotLet := xfB_ok (c.fact 265 (f := fun K => xfB K (He.ga K "NotLet")) rfl),
    no_NotLet_index := of_decide_eq_true (c.fact 266 (f := fun K => decide (PySem.W.findIn K (.ref (He.ga K "NotLet")) "index" = some none)) rfl),
    xc_NotFree := xcB_ok (c.fact 267 (f := fun K => xcB K (He.ga K "NotFree")) rfl),
    kr_NotFree := of_decide_eq_true (c.fact 268 (f := fun K => decide ((clsL.map fun n => PySem.W.kitOne K (.ref (He.ga K "NotFree")) (.ref (He.ga K n))) = rowK 25)) rfl),
    koR_NotFree := of_decide_eq_true (c.fact 269 (f := fun K => decide (PySem.W.kitOne K (.ref (He.ga K "NotFree")) (.ref (He.ga K "RowError")) = some true)) rfl),
    koV_NotFree := of_decide_eq_true (c.fact 270 (f := fun K => decide (PySem.W.kitOne K (.ref (He.ga K "NotFree")) (.type "ValueError") = some true)) rfl),
    xf_NotFree := xfB_ok (c.fact 271 (f := fun K => xfB K (He.ga K "NotFree")) rfl),
    no_NotFree_rows := of_decide_eq_true (c.fact 272 (f := fun K => decide (PySem.W.findIn K (.ref (He.ga K "NotFree")) "rows" = some none)) rfl),
    xc_NotTimely := xcB_ok (c.fact 273 (f := fun K => xcB K (He.ga K "NotTimely")) rfl),
    kr_NotTimely := of_decide_eq_true (c.fact 274 (f := fun K => decide ((clsL.map fun n => PySem.W.kitOne K (.ref (He.ga K "NotTimely")) (.ref (He.ga K n))) = rowK 26)) rfl),
    koR_NotTimely := of_decide_eq_true (c.fact 275 (f := fun K => decide (PySem.W.kitOne K (.ref (He.ga K "NotTimely")) (.ref (He.ga K "RowError")) = some true)) rfl),
    koV_NotTimely := of_decide_eq_true (c.fact 276 (f := fun K => decide (PySem.W.kitOne K (.ref (He.ga K "NotTimely")) (.type "ValueError") = some true)) rfl),
    xf_NotTimely := xfB_ok (c.fact 277 (f := fun K => xfB K (He.ga K "NotTimely")) rfl),
    no_NotTimely_rows := of_decide_eq_true (c.fact 278 (f := fun K => decide (PySem.W.findIn K (.ref (He.ga K "NotTimely")) "rows" = some none)) rfl),
    xc_NotEntered := xcB_ok (c.fact 279 (f := fun K => xcB K (He.ga K "NotEntered")) rfl),
    kr_NotEntered := of_decide_eq_true (c.fact 280 (f := fun K => decide ((clsL.map fun n => PySem.W.kitOne K (.ref (He.ga K "NotEntered")) (.ref (He.ga K n))) = rowK 27)) rfl),
    koR_NotEntered := of_decide_eq_true (c.fact 281 (f := fun K => decide (PySem.W.kitOne K (.ref (He.ga K "NotEntered")) (.ref (He.ga K "RowError")) = some true)) rfl),
    koV_NotEntered := of_decide_eq_true (c.fact 282 (f := fun K => decide (PySem.W.kitOne K (.ref (He.ga K "NotEntered")) (.type "ValueError") = some true)) rfl),
    xf_NotEntered := xfB_ok (c.fact 283 (f := fun K => xfB K (He.ga K "NotEntered")) rfl),
    no_NotEntered_index := of_decide_eq_true (c.fact 284 (f := fun K => decide (PySem.W.findIn K (.ref (He.ga K "NotEntered")) "index" = some none)) rfl),
    xc_NothingToUndo := xcB_ok (c.fact 285 (f := fun K => xcB K (He.ga K "NothingToUndo")) rfl),
    kr_NothingToUndo := of_decide_eq_true (c.fact 286 (f := fun K => decide ((clsL.map fun n => PySem.W.kitOne K (.ref (He.ga K "NothingToUndo")) (.ref (He.ga K n))) = rowK 28)) rfl),
    koR_NothingToUndo := of_decide_eq_true (c.fact 287 (f := fun K => decide (PySem.W.kitOne K (.ref (He.ga K "NothingToUndo")) (.ref (He.ga K "RowError")) = some true)) rfl),
    koV_NothingToUndo := of_decide_eq_true (c.fact 288 (f := fun K => decide (PySem.W.kitOne K (.ref (He.ga K "NothingToUndo")) (.type "ValueError") = some true)) rfl),
    x_NothingToUndo := He.exc_ok (c.fact 289 (f := fun K => (He.Fa.exc "NothingToUndo").ok K) rfl),
    xc_BadNotation := xcB_ok (c.fact 290 (f := fun K => xcB K (He.ga K "BadNotation")) rfl),
    kr_BadNotation := of_decide_eq_true (c.fact 291 (f := fun K => decide ((clsL.map fun n => PySem.W.kitOne K (.ref (He.ga K "BadNotation")) (.ref (He.ga K n))) = rowK 29)) rfl),
    koR_BadNotation := of_decide_eq_true (c.fact 292 (f := fun K => decide (PySem.W.kitOne K (.ref (He.ga K "BadNotation")) (.ref (He.ga K "RowError")) = some true)) rfl),
    koV_BadNotation := of_decide_eq_true (c.fact 293 (f := fun K => decide (PySem.W.kitOne K (.ref (He.ga K "BadNotation")) (.type "ValueError") = some true)) rfl),
    xf_BadNotation := xfB_ok (c.fact 294 (f := fun K => xfB K (He.ga K "BadNotation")) rfl),
    no_BadNotation_line := of_decide_eq_true (c.fact 295 (f := fun K => decide (PySem.W.findIn K (.ref (He.ga K "BadNotation")) "line" = some none)) rfl),
    em_NoRows_NoRows := of_decide_eq_true (c.fact 296 (f := fun K => decide (PySem.W.exmOne K (.ref (He.ga K "NoRows")) (.ref (He.ga K "NoRows")) = some true)) rfl),
    em_NoRows_BadName := of_decide_eq_true (c.fact 297 (f := fun K => decide (PySem.W.exmOne K (.ref (He.ga K "NoRows")) (.ref (He.ga K "BadName")) = some false)) rfl),
    em_NoRows_RowTwice := of_decide_eq_true (c.fact 298 (f := fun K => decide (PySem.W.exmOne K (.ref (He.ga K "NoRows")) (.ref (He.ga K "RowTwice")) = some false)) rfl),
    em_NoRows_RowError := of_decide_eq_true (c.fact 299 (f := fun K => decide (PySem.W.exmOne K (.ref (He.ga K "NoRows")) (.ref (He.ga K "RowError")) = some true)) rfl),
    em_BadName_NoRows := of_decide_eq_true (c.fact 300 (f := fun K => decide (PySem.W.exmOne K (.ref (He.ga K "BadName")) (.ref (He.ga K "NoRows")) = some false)) rfl),
    em_BadName_BadName := of_decide_eq_true (c.fact 301 (f := fun K => decide (PySem.W.exmOne K (.ref (He.ga K "BadName")) (.ref (He.ga K "BadName")) = some true)) rfl),
    em_BadName_RowTwice := of_decide_eq_true (c.fact 302 (f := fun K => decide (PySem.W.exmOne K (.ref (He.ga K "BadName")) (.ref (He.ga K "RowTwice")) = some false)) rfl),
    em_BadName_RowError := of_decide_eq_true (c.fact 303 (f := fun K => decide (PySem.W.exmOne K (.ref (He.ga K "BadName")) (.ref (He.ga K "RowError")) = some true)) rfl),
    em_RowTwice_NoRows := of_decide_eq_true (c.fact 304 (f := fun K => decide (PySem.W.exmOne K (.ref (He.ga K "RowTwice")) (.ref (He.ga K "NoRows")) = some false)) rfl),
    em_RowTwice_BadName := of_decide_eq_true (c.fact 305 (f := fun K => decide (PySem.W.exmOne K (.ref (He.ga K "RowTwice")) (.ref (He.ga K "BadName")) = some false)) rfl),
    em_RowTwice_RowTwice := of_decide_eq_true (c.fact 306 (f := fun K => decide (PySem.W.exmOne K (.ref (He.ga K "RowTwice")) (.ref (He.ga K "RowTwice")) = some true)) rfl),
    em_RowTwice_RowError := of_decide_eq_true (c.fact 307 (f := fun K => decide (PySem.W.exmOne K (.ref (He.ga K "RowTwice")) (.ref (He.ga K "RowError")) = some true)) rfl),
    c_LETTERS := He.str_ok X G (c.fact 308 (f := fun K => (He.Fa.str "LETTERS" "abcdefghijklmnopqrstuvwxyz").ok K) rfl),
    c_SIGNS := He.str_ok X G (c.fact 309 (f := fun K => (He.Fa.str "SIGNS" "abcdefghijklmnopqrstuvwxyz0123456789").ok K) rfl),
    c_LONGEST := He.int_ok X G (c.fact 310 (f := fun K => (He.Fa.int "LONGEST" 10).ok K) rfl) }
theorem facts {P : Program} {w : World} {K : PySem.W.Frag} {h : Heap} {mg : Str → Option Value} {f : Addr} (X : K.In h) (G : h.Ns mainGlobals mg) (hfa : mg ("law" : Str) = some (.ref f)) (c : JPH.SaysF fa fn K) :
    ∃ fd : FuncData, (∀ (s : Shared) (v : Value), BindsTo s fd ⟨[v], []⟩ [("script", v)]) ∧ ∀ base : Heap, K.In base → base.Ns mainGlobals mg → FnOk P w K mg base CX0 7 f fd ["script"] (SpD K R_law) := by
  have T : Tx K mg := tx_of X G c
  obtain ⟨fd, F⟩ := T.at_law.ex
  have e := hfa.symm.trans T.at_law.gl
  cases e
  have b := FunD.bindsA (ps := ["script"]) F fun _ _ _ _ _ _ us hl => match us, hl with | [_], _ => rfl
  exact ⟨fd, fun s v => b s [v] rfl, fun base _ _ => (d_law T).quiet T.at_law.gl F fun vs H Q E ⟨F, ds, P, X, a, b, c, d, e⟩ => ⟨F, ds, P, X0, a, b, c, d, fun _ _ _ _ _ _ z => z.elim⟩⟩
end JP
open PySem PySem.W PySem.Calls PyProof.Rows
set_option maxRecDepth 100000 in
set_option maxHeartbeats 0 in
theorem PySem.Challenge.cw_joinpast_k04_row_sets_holds : PySem.Challenge.rw_joinpast_k04_row_sets.Holds := by
  w_on; o_law
  refine HandSHeadRun.head_imp (r := OpenLaw.row PySem.Challenge.rw_joinpast_k04_row_sets) (q := view (OpenLaw.row PySem.Challenge.rw_joinpast_k04_row_sets).prog [54]) (H := JP.hk) (ob := JP.ob) (M := 20000) (loose := JP.loose) (d := HandSHeadRun.topDef (OpenLaw.row PySem.Challenge.rw_joinpast_k04_row_sets).prog 54) (kwd := []) JP.ob_eq
    JP.run (by kernel_rfl) (by kernel_rfl) (by kernel_rfl) (by rfl) (by first | assumption | decide +kernel) (by decide +kernel) ⟨rfl, rfl, rfl, rfl, rfl, by decide +kernel⟩ ?hw ?hc
  case hw => w_witness2
  case hc =>
    refine L2.walk_ofE (l := PySem.Challenge.rw_joinpast_k04_row_sets) (n := 63) (k := 7) (x := "script") (CX := L2.CX0) rfl (by decide) (by kernel_rfl) ⟨rfl, by decide, by decide⟩ ?F (fun _ _ _ _ z => z)
    intro w mg fa h Y G hmg0
    obtain ⟨K, KX, c⟩ := Y
    have hmg : mg ("law" : PySem.Str) = some (.ref fa) := by
      have e : (HandSHeadRun.topDef (OpenLaw.row PySem.Challenge.rw_joinpast_k04_row_sets).prog 54).name = ("law" : PySem.Str) := by kernel_rfl
      rw [← e]
      exact hmg0
    obtain ⟨fd, hb, hF⟩ := JP.facts (P := (PySem.Challenge.rw_joinpast_k04_row_sets).prog) (w := w) KX G hmg c
    exact ⟨K, fd, JP.SpD K JP.R_law, KX, hb, fun H a ns hl _ hS => ⟨H, [.sls (ns.map JP.Da.int)], fun _ d => d = .bl true, JP.X0, L2.Same.refl _, .cons (.sls hS (JP.RepA.ofInts ns)) .nil, ⟨ns, rfl, rfl⟩, fun k d v H' _ rv p => (by subst p; exact rv.bl_eq), fun _ _ _ _ _ _ z => z.elim⟩, hF⟩
